import PyProof.Rows.All
import HandS.ForMost
import HandS.TupMul
import HandS.TupAny
import HandS.Strs
import HandS.ForExc
import HandS.Deep
import HandS.IsInst
import HandS.Rev
import KE.SortData
import KE.KTupSum
import HandS.Style
import HandS.Zip
import HandS.SortKw
import KE.DataMinMax
import HandS.Conv
import HandS.Ends
import HandS.Defaults
import HandS.HeadEnd
import HandS.HeadHook1
import HandS.HeadHook2
import HandS.Head0
import HandS.Head1
import HandS.Head2
import HandS.RevTup
import PyProof.ListNew
import HandS.SetFor
import KE.DatumOrd
import HandS.ExcIs
import HandS.ExcField
import HandS.SuiteRaise
import KE.KExcIs
import PySem.Challenge.RW_paritydesk_k06_whole_messages_come_back
set_option Elab.async false
set_option linter.all false
set_option autoImplicit false
set_option maxRecDepth 100000
set_option maxHeartbeats 4000000
/-! PDa: tuple * 1, tuple * 0; tuples known to their objects. -/
namespace L2.PD
open PySem PySem.Spec PyProof.Rows L2
section
variable {X : Cx}
theorem tuple_mulS (l : Addr) (items : Array Value) (n : Nat) (dd : Option Addr) (sl : Array (Option Value)) (x : Int) (u : Tok) (c0 : (decide (x < -(2 ^ 63)) || decide (x ≥ 2 ^ 63)) = false) (c1 : (items.isEmpty || x == 1) = true) :
    Meets (Builtin.«tuple.__mul__» ⟨[.ref l, .int x u], []⟩) (fun _ R s => s.heap.get? l = some { cls := .type "tuple", dict := dd, data := .seq items n, slots := sl } ∧ R (.ok (.ret (Value.ref l))) s) :=
  .of_wp fun prog w A R s h => by
    obtain ⟨hp, g, d, tk, os⟩ := s
    obtain ⟨hl, h⟩ := h
    have f1 := AutoSeq1.idx_int
    wp_walk using wpAny_loadPart' hl
    repeat (first
      | (refine wpAny_ite_false (decide_eq_false (by rw [c0]; exact Bool.false_ne_true)) ?_; wp_walk using wpAny_loadPart' hl)
      | (refine wpAny_ite_true (decide_eq_true c1) ?_; wp_walk using wpAny_loadPart' hl))
    exact ⟨_, rfl, h⟩
theorem tuple_mulZ (l : Addr) (items : Array Value) (n : Nat) (dd : Option Addr) (sl : Array (Option Value)) (x : Int) (u : Tok) (c0 : (decide (x < -(2 ^ 63)) || decide (x ≥ 2 ^ 63)) = false) (c1 : (items.isEmpty || x == 1) = false) (c2 : (decide (x ≤ 0) || items.isEmpty) = true) :
    Meets (Builtin.«tuple.__mul__» ⟨[.ref l, .int x u], []⟩) (fun _ R s => s.heap.get? l = some { cls := .type "tuple", dict := dd, data := .seq items n, slots := sl } ∧
      R (.ok (.ret (Value.ref s.heap.objs.size))) { s with heap := s.heap.push { cls := Value.type "tuple", data := Data.seq #[] }, toks := s.toks }) :=
  .of_wp fun prog w A R s h => by
    obtain ⟨hp, g, d, tk, os⟩ := s
    obtain ⟨hl, h⟩ := h
    have f1 := AutoSeq1.idx_int
    wp_walk using wpAny_loadPart' hl
    repeat (first
      | (refine wpAny_ite_false (decide_eq_false (by rw [c0]; exact Bool.false_ne_true)) ?_; wp_walk using wpAny_loadPart' hl)
      | (refine wpAny_ite_false (decide_eq_false (by rw [c1]; exact Bool.false_ne_true)) ?_; wp_walk using wpAny_loadPart' hl)
      | (refine wpAny_ite_true (decide_eq_true c2) ?_; wp_walk using wpAny_loadPart' hl))
    exact ⟨_, rfl, h⟩
/-- an object that is a plain tuple -/
abbrev tupO (its : List Value) (n : Nat := 0) : Obj := { cls := .type "tuple", data := .seq its.toArray n }
/-- a new tuple, known to its object -/
theorem laidT {pins : List (Addr × Obj)} {σ : St} {H : Hp} {s : Shared} {xs : List V} {its : List Value} (I : Inv X pins σ H s) (r : Vals xs its) (z : xs.length ≤ sizeLine) :
    Inv X pins σ (upd H s.heap.objs.size (.frz (tupO its) (.tup xs))) { s with heap := s.heap.push { cls := .type "tuple", data := .seq its.toArray } } ∧ H s.heap.objs.size = none :=
  ⟨I.laid (t' := s.toks) (o := .frz (tupO its) (.tup xs)) (fun b u e => Heap.get?_push_of_some _ e) (Nat.le_refl _) ⟨Heap.get?_push_size _ rfl, z, its, r, IsTup.new _ _⟩, I.hok.fresh (Nat.le_refl _)⟩
/-- what is wanted of a new tuple -/
def NewT (xs : List V) (H : Hp) (Q : VK) : Prop := ∀ p o, H p = none → o.dict = none → Q (.ref p) (upd H p (.frz o (.tup xs)))
/-- tuple * int, small -/
def rRepA (K : PySem.W.Frag) : R2 := fun x y H Q => ∃ l k xs, x = .ref l ∧ y = .int k ∧ SqT K H l xs ∧ -1000 ≤ k ∧ k ≤ 1000 ∧ xs.length ≤ 1000 ∧
  ((xs = [] ∨ k = 1) → Q (.ref l) H) ∧ (¬ (xs = [] ∨ k = 1) → NewT (List.replicate k.toNat xs).flatten H Q)
theorem op_repA : OpR X (binaryOp .Mult) (rRepA X.K) := by
  intro pins s σ H x y v u Q I rx ry h
  obtain ⟨l, k, xs, rfl, rfl, hT, h1, h2, hz, q1, q2⟩ := h
  cases rx
  obtain ⟨t, rfl⟩ := ry
  obtain ⟨its, r, ⟨⟨cls, dd, data, sl⟩, ho, hcl, n, hd⟩, hs⟩ := I.tuple hT
  simp only at hcl hd
  subst hcl hd
  have hle : its.length = xs.length := r.length.symm
  have hi : its.toArray.isEmpty = xs.isEmpty := by
    cases r with
    | nil => rfl
    | cons _ _ => rfl
  have c0 : (decide (k < -(2 ^ 63)) || decide (k ≥ 2 ^ 63)) = false := by
    rw [decide_eq_false (by omega), decide_eq_false (by omega)] <;> rfl
  by_cases hx : xs = [] ∨ k = 1
  · have c1 : (its.toArray.isEmpty || k == 1) = true := by
      rw [hi]
      rcases hx with z | z
      · rw [z]; rfl
      · rw [z]; simp
    exact wpAny_binaryOp_repeat_ref (T := "tuple") (U := "int") (by decide) ⟨_, ho, rfl⟩ (fun s' => typeIs_int s' k t) noFill_tuple_mul F.fills_int_mul F.slot_int_rmul repeat_tuple F.slot_int_index.lookup
      (call_meets F.slot_int_rmul (typeIs_int s k t) F.entry_int_rmul (F.args_int_rmul_2 _ _) (int_rmul_tuple k t l its.toArray n dd sl)
        ⟨ho, rfl, ⟨_, ho, rfl⟩, call_meets F.slot_tuple_mul ⟨_, ho, rfl⟩ F.entry_tuple_mul (F.args_tuple_mul_2 _ _) (tuple_mulS l its.toArray n dd sl k t c0 c1) ⟨ho, ⟨.ref l, H, I, rfl, q1 hx⟩⟩⟩)
  · have hne : xs ≠ [] := fun z => hx (.inl z)
    have q3 := q2 hx
    have he : xs.isEmpty = false := by
      cases xs with
      | nil => exact absurd rfl hne
      | cons _ _ => rfl
    have flen : (List.replicate k.toNat xs).flatten.length ≤ sizeLine := by
      rw [PyProof.Rows.lm_len_rep_flat, sizeLine_eq]
      have a1 : k.toNat * xs.length ≤ 1000 * 1000 := Nat.mul_le_mul (by omega) hz
      omega
    have c1 : (its.toArray.isEmpty || k == 1) = false := by
      rw [hi, he, Bool.false_or]
      exact beq_eq_false_iff_ne.mpr (fun z => hx (.inr z))
    by_cases hk : k ≤ 0
    · have c2 : (decide (k ≤ 0) || its.toArray.isEmpty) = true := by
        rw [decide_eq_true hk]; rfl
      refine wpAny_binaryOp_repeat_ref (T := "tuple") (U := "int") (by decide) ⟨_, ho, rfl⟩ (fun s' => typeIs_int s' k t) noFill_tuple_mul F.fills_int_mul F.slot_int_rmul repeat_tuple F.slot_int_index.lookup
        (call_meets F.slot_int_rmul (typeIs_int s k t) F.entry_int_rmul (F.args_int_rmul_2 _ _) (int_rmul_tuple k t l its.toArray n dd sl)
          ⟨ho, rfl, ⟨_, ho, rfl⟩, call_meets F.slot_tuple_mul ⟨_, ho, rfl⟩ F.entry_tuple_mul (F.args_tuple_mul_2 _ _) (tuple_mulZ l its.toArray n dd sl k t c0 c1 c2) ⟨ho, ?_⟩⟩)
      have ek : k.toNat = 0 := by omega
      rw [ek] at q3
      obtain ⟨I', n'⟩ := laidT I (xs := []) (its := []) .nil (Nat.zero_le _)
      exact ⟨.ref s.heap.objs.size, _, I', rfl, q3 _ _ n' rfl⟩
    · have hm : ((its.toArray.size : Nat) : Int) * k ≤ 1000000 := by
        rw [List.size_toArray, hle]
        have a1 : ((xs.length : Nat) : Int) * k ≤ 1000 * k := Int.mul_le_mul_of_nonneg_right (by omega) (by omega)
        omega
      have c2 : (decide (k ≤ 0) || its.toArray.isEmpty) = false := by
        rw [hi, he, Bool.or_false]
        exact decide_eq_false hk
      have c4 : Builtin.Tuple.tupleTooMany (((its.toArray.size : Nat) : Int) * k) = false := by
        unfold Builtin.Tuple.tupleTooMany
        rw [sizeLine_eq]
        exact decide_eq_false (by omega)
      have flen' : (List.replicate k.toNat its).flatten.length ≤ sizeLine := by
        rw [PyProof.Rows.lm_len_rep_flat, hle, ← PyProof.Rows.lm_len_rep_flat]
        exact flen
      refine wpAny_binaryOp_repeat_ref (T := "tuple") (U := "int") (by decide) ⟨_, ho, rfl⟩ (fun s' => typeIs_int s' k t) noFill_tuple_mul F.fills_int_mul F.slot_int_rmul repeat_tuple F.slot_int_index.lookup
        (call_meets F.slot_int_rmul (typeIs_int s k t) F.entry_int_rmul (F.args_int_rmul_2 _ _) (int_rmul_tuple k t l its.toArray n dd sl)
          ⟨ho, rfl, ⟨_, ho, rfl⟩, call_meets F.slot_tuple_mul ⟨_, ho, rfl⟩ F.entry_tuple_mul (F.args_tuple_mul_2 _ _) (tuple_mulW l its.toArray n dd sl k t c0 c1 c2 (by omega) c4 (by rw [size_rep, List.size_toArray]; exact flen')) ⟨ho, ?_⟩⟩)
      rw [size_rep]
      obtain ⟨I', n'⟩ := laidT I (r.rep k.toNat) flen
      exact ⟨.ref s.heap.objs.size, _, I', rfl, q3 _ _ n' rfl⟩
/-- (a, b, ..) -/
def tTupS (t : TA) : TE := fun σ H Q => t σ H fun xs H1 => xs.length ≤ sizeLine ∧ NewT xs H1 Q
theorem pe_tupS {es : List Expr} {t : TA} {pos : Pos} {x1} (h : PA X es t) : PE X (.Tuple es x1 pos) (tTupS t) := by
  refine ⟨fun pins s σ H Q I hq => ?_⟩
  refine wpAny_Tuple_spliced (thn (h.run pos pins s σ H _ I hq) fun us s1 ⟨xs, H1, I1, r, z, q⟩ => ⟨by rw [← r.length]; exact z, ?_⟩)
  obtain ⟨I', n'⟩ := laidT I1 r z
  exact ⟨.ref s1.heap.objs.size, _, I', rfl, q _ _ n' rfl⟩
/-- tuple(list), tuple(tuple) -/
theorem call_tuple_ofS : CallR X (.type "tuple") (fun xs H Q => ∃ p ys, xs = [.ref p] ∧ ((SqL X.K H p ys ∧ NewT ys H Q) ∨ (SqT X.K H p ys ∧ Q (.ref p) H))) := by
  intro pins s σ H xs us Q I r h
  obtain ⟨p, ys, rfl, h⟩ := h
  obtain ⟨u, rfl, rx⟩ := vals1 r
  cases rx
  rcases h with ⟨hq, q⟩ | ⟨hq, q⟩
  · obtain ⟨its, r', pl, hz⟩ := I.list hq
    have hlen := r'.length
    refine call_tuple_list pl.isList (fun h' kp => ?_) (by simp only [List.size_toArray] <;> omega)
    have I1 : Inv X pins σ H { s with heap := h' } := I.kept (t' := s.toks) kp
    obtain ⟨I', n'⟩ := laidT I1 r' hz
    exact ⟨.ref h'.objs.size, _, I', rfl, q _ _ n' rfl⟩
  · obtain ⟨its, r', pl, hz⟩ := I.tuple hq
    exact call_tuple_same pl ⟨.ref p, H, I, rfl, q⟩
/-- t + u -/
def rCatS (K : PySem.W.Frag) : R2 := fun x y H Q => ∃ a b xs ys, x = .ref a ∧ y = .ref b ∧ SqT K H a xs ∧ SqT K H b ys ∧ xs.length + ys.length ≤ sizeLine ∧
  (xs = [] → Q (.ref b) H) ∧ (xs ≠ [] → ys = [] → Q (.ref a) H) ∧ (xs ≠ [] → ys ≠ [] → NewT (xs ++ ys) H Q)
theorem op_catS : OpR X (binaryOp .Add) (rCatS X.K) := by
  intro pins s σ H x y v u Q I rx ry h
  obtain ⟨a, b, xs, ys, rfl, rfl, ha, hb, hz, q0, q1, q2⟩ := h
  cases rx
  cases ry
  obtain ⟨its, r1, p1, _⟩ := I.tuple ha
  obtain ⟨its2, r2, p2, _⟩ := I.tuple hb
  by_cases hx : xs = []
  · subst hx
    cases r1
    exact cat_tup0 p1 p2 ⟨.ref b, H, I, rfl, q0 rfl⟩
  · refine HT.cat_tup p1 p2 (fun z => hx (r1.nil_iff.mp z)) (fun z => ⟨.ref a, H, I, rfl, q1 hx (r2.nil_iff.mp z)⟩) (fun z => ?_) (by rw [← r1.length, ← r2.length]; exact hz)
    obtain ⟨I', n'⟩ := laidT I (r1.append r2) (by rw [List.length_append]; exact hz)
    exact ⟨.ref s.heap.objs.size, _, I', rfl, q2 hx (fun w => z (r2.nil_iff.mpr w)) _ _ n' rfl⟩
/-- t[lo:hi] -/
def rSlS (K : PySem.W.Frag) : V → Option Int → Option Int → Hp → VK → Prop := fun x lo hi H Q => ∃ a xs, x = .ref a ∧ SqT K H a xs ∧
  (HT.sIx xs.length 0 lo = 0 ∧ HT.sIx xs.length xs.length hi = xs.length → Q (.ref a) H) ∧ (¬ (HT.sIx xs.length 0 lo = 0 ∧ HT.sIx xs.length xs.length hi = xs.length) → NewT (cutV xs lo hi) H Q)
theorem sl_tupS : SlR X (rSlS X.K) := by
  intro pins s σ H x v vl vu lo hi sl Q I rx hs pl pu h
  obtain ⟨a, xs, rfl, hx, q1, q2⟩ := h
  cases rx
  obtain ⟨its, r, ht, hz⟩ := I.tuple hx
  have hlen : its.toArray.size = xs.length := by rw [List.size_toArray]; exact r.length.symm
  refine ⟨"tuple", _, PyProof.Rows.slot_tuple_getitem.lookup, ht.typeIs, ?_⟩
  by_cases hw : HT.sIx xs.length 0 lo = 0 ∧ HT.sIx xs.length xs.length hi = xs.length
  · exact getItem_tuple_whole ht hs pl pu (by rw [hlen]; exact hw) ⟨.ref a, H, I, rfl, q1 hw⟩
  · refine HT.getItem_tuple_cut ht hs pl pu (by rw [hlen]; exact hw) ?_ (by rw [hlen]; exact hz)
    rw [hlen]
    obtain ⟨I', n'⟩ := laidT I ((r.drop (HT.sIx xs.length 0 lo)).take (HT.sIx xs.length xs.length hi - HT.sIx xs.length 0 lo)) (Nat.le_trans (cutV_length xs lo hi) hz)
    exact ⟨.ref s.heap.objs.size, _, I', rfl, q2 hw _ _ n' rfl⟩
/-- a method of a tuple known to its object -/
def tBMt (r : V → List V → Hp → VK → Prop) (to : TE) (t : TA) : TE := fun σ H Q => to σ H fun x H1 => (∃ p o xs, x = .ref p ∧ H1 p = some (.frz o (.tup xs)) ∧ o.dict = none) ∧ t σ H1 fun xs H2 => r x xs H2 Q
theorem pe_bmT {o e : Expr} {es : List Expr} {to : TE} {t : TA} {name : Str} {apos cpos : Pos} {id : String} {r : V → List V → Hp → VK → Prop} (pa : PlainAttrs "tuple") (slot : Slot "tuple" name id) (hty : typeOf (.builtin id) = pure (.type "method_descriptor")) (hm : MtR X id r) (ho : PE X o to) (ha : PA X (e :: es) t)
    (hbase : attributeBase o name X.env (eval o X.env) = eval o X.env := by rfl)
    (hfew : ((backTo cpos (starEach (e :: es) X.env)).all (fun x => !x.1) && (backToKw cpos (keywordEach [] X.env)).all (fun x => x.1.isSome)
      && decide ((e :: es).length + ([] : List Keyword).length + (if ([] : List Keyword).isEmpty then 0 else 1) < 30)) = true := by rfl)
    (hline : (apos.endLine == cpos.line) = true := by rfl) (hs : starEach (e :: es) X.env = (false, eval e X.env) :: starEach es X.env := by rfl) (hplain : (backTo cpos (starEach es X.env)).any (·.1) = false := by rfl) :
    PE X (.Call (.Attribute o name apos) (e :: es) [] cpos) (tBMt r to t) := by
  refine ⟨fun pins s σ H Q I h => ?_⟩
  refine wpAny_Call_method_late hbase hfew hline rfl (thn (ho.run pins s σ H _ I h) fun v s1 ⟨x, H1, I1, r1, ⟨p, ob, xs, ex, eh, ed⟩, q1⟩ => ?_)
  subst ex
  cases (show v = Value.ref p from r1)
  obtain ⟨eo, _, its, rv, ht⟩ := I1.hok p _ eh
  refine ⟨"tuple", id, pa, slot, hty, ht.typeIs, fun a ea => ?_, ?_⟩
  · cases ea
    exact ⟨ob, eo, ed⟩
  have hA := ha.run cpos pins s1 σ H1 _ I1 q1
  rw [hs] at hA ⊢
  refine Calls.callWith_builtin (by show (false || (backTo cpos (starEach es X.env)).any (·.1)) = false; rw [hplain] <;> rfl) (Calls.evalArgs_plain ?_)
  exact thn hA fun us s2 ⟨vs, H2, I2, r2, q2⟩ => hm pins s2 σ H2 _ vs _ us Q I2 r1 r2 q2
/-- t.index(y): the first place of an equal flat item -/
def rIndexT (K : PySem.W.Frag) : V → List V → Hp → VK → Prop := fun x xs H Q => ∃ (a : Addr) (ys : List V) (y : V) (j : Nat), x = V.ref a ∧ xs = [y] ∧ SqT K H a ys ∧ flatV y = true ∧ ys.all flatV = true ∧ (∃ z, ys[j]? = some z ∧ eqV z y = true) ∧
  (∀ m z, m < j → ys[m]? = some z → eqV z y = false) ∧ Q (.int (j : Nat)) H
theorem mt_index_tup : MtR X "tuple.index" (rIndexT X.K) := by
  intro pins s σ H x xs v us Q I rx rs h
  obtain ⟨p, ys, y, j, rfl, rfl, hq, fy, fys, ⟨z, hz, ez⟩, hno, q⟩ := h
  cases rx
  obtain ⟨u, rfl, ry⟩ := vals1 rs
  obtain ⟨its, r, pl, hsz⟩ := I.tuple hq
  obtain ⟨⟨cls, dd, dt, sl⟩, ho, hc, n, hd⟩ := pl
  simp only at hc hd
  subst hc
  subst hd
  have hl : its.toArray.size = ys.length := by rw [List.size_toArray, ← r.length]
  have hj : j < its.toArray.size := by rw [hl]; exact (List.getElem?_eq_some_iff.mp hz).1
  have at' : ∀ (m : Nat) (hm : m < its.toArray.size), ∃ w, ys[m]? = some w ∧ RelV w its.toArray[m] := fun m hm => by
    have hm' : m < ys.length := by rw [← hl]; exact hm
    obtain ⟨w, hw, hw'⟩ := r.get (i := m) (x := ys[m]) (by simp [hm'])
    refine ⟨ys[m], List.getElem?_eq_getElem hm', ?_⟩
    have e := (List.getElem?_eq_some_iff.mp hw).2
    have e' : its.toArray[m] = w := by rw [← e]; simp
    rw [e']
    exact hw'
  have fl : ∀ {m : Nat} {w : V}, ys[m]? = some w → flatV w = true := fun {m w} e => List.all_eq_true.mp fys w (List.mem_of_getElem? e)
  refine call_meets PySem.F.slot_tuple_index ⟨_, ho, rfl⟩ PySem.F.entry_tuple_index (PySem.F.args_tuple_index_2 _ _) (TI.tuple_indexAt p its.toArray n dd sl u (eqU y) j hj ?_ ?_)
    ⟨ho, fun w hw => mem_eqAt (x := y) ry fy r fys w (by simpa using hw), ⟨.int (j : Nat), H, I.tok _, ⟨_, rfl⟩, q⟩⟩
  · obtain ⟨w, h1, h2⟩ := at' j hj
    rw [hz] at h1
    cases h1
    rw [eqU_of h2 (fl hz)]
    exact ez
  · intro m hm hmj
    obtain ⟨w, h1, h2⟩ := at' m hm
    rw [eqU_of h2 (fl h1)]
    exact hno m w hmj h1
end
end L2.PD

set_option Elab.async false
set_option linter.all false
set_option autoImplicit false
set_option maxRecDepth 100000
/-! PD0: data in an abstract heap (Rp), slots that hold data (EnvOk), the readings tP, tT, tA, tS of pure code. -/
namespace L2.PD
open PySem PySem.Spec PyProof.Rows L2

/-! ### results -/
structure Exn where
  cls : Str
  at_ : Option PyData

inductive R (α : Type) where
  | ok (a : α) | ex (e : Exn) | no

namespace R
def bind {α β : Type} (r : R α) (k : α → R β) : R β := match r with
  | .ok a => k a
  | .ex e => .ex e
  | .no => .no
@[simp] theorem bind_ok {α β : Type} (a : α) (k : α → R β) : bind (.ok a) k = k a := id rfl
@[simp] theorem bind_ex {α β : Type} (e : Exn) (k : α → R β) : bind (.ex e) k = .ex e := id rfl
@[simp] theorem bind_no {α β : Type} (k : α → R β) : bind .no k = .no := id rfl
/-- what must hold of a result -/
def holds {α : Type} (r : R α) (P : α → Prop) (E : Exn → Prop) : Prop := match r with
  | .ok a => P a
  | .ex e => E e
  | .no => False
theorem holds_bind {α β : Type} {r : R α} {k : α → R β} {P : β → Prop} {E : Exn → Prop} : (bind r k).holds P E ↔ r.holds (fun a => (k a).holds P E) E := by
  cases r <;> exact Iff.rfl
theorem holds.mono {α : Type} {r : R α} {P P' : α → Prop} {E E' : Exn → Prop} (h : r.holds P E) (hp : ∀ a, P a → P' a) (he : ∀ e, E e → E' e) : r.holds P' E' := by
  cases r with
  | ok a => exact hp a h
  | ex e => exact he e h
  | no => exact h
theorem bind_assoc {α β γ : Type} (r : R α) (k : α → R β) (l : β → R γ) : bind (bind r k) l = bind r fun a => bind (k a) l := by
  cases r <;> rfl
end R
def guard {α : Type} (c : Bool) (r : R α) : R α := if c = true then r else .no
theorem guard_t {α : Type} {c : Bool} {r : R α} (h : c = true) : guard c r = r := by
  unfold guard
  rw [if_pos h]
theorem guard_holds {α : Type} {c : Bool} {r : R α} {P : α → Prop} {E : Exn → Prop} (h : (guard c r).holds P E) : c = true ∧ r.holds P E := by
  unfold guard at h
  by_cases hc : c = true
  · rw [if_pos hc] at h
    exact ⟨hc, h⟩
  · rw [if_neg hc] at h
    exact h.elim

/-! ### data -/
def keyD : Key → PyData
  | .inl i => .int i
  | .inr x => .str x
/-- a dict whose keys are tuples of ints, by its entries: the key, where its tuple stands, the value -/
abbrev XEnt := List Int × Addr × Value
def hashT (ks : List Int) : Int := reduceHash (Builtin.Tuple.tupleHashOf (ks.map hashInt))
def entX (x : XEnt) : DictEntry := ⟨hashT x.1, .ref x.2.1, x.2.2⟩
def dXo (a : Addr) (xs : List XEnt) (ep : Nat) : HO := .ext fun h => (a == sysModules) = false ∧ xs.length ≤ sizeLine ∧ ∃ o es, h.get? a = some o ∧ o.ExactDict ∧ o.data = .dict es ep ∧ es.toList = xs.map entX ∧ (xs.map (·.1)).Nodup
mutual
inductive Rp (K : PySem.W.Frag) (H : Hp) : V → PyData → Prop
  | non : Rp K H .non .none
  | bl (b : Bool) : Rp K H (.bl b) (.bool b)
  | int (i : Int) : Rp K H (.int i) (.int i)
  | str (x : Str) : Rp K H (.str x) (.str x)
  | lst {a : Addr} {xs : List V} {ds : List PyData} : H a = some (.lst xs) → RpAll K H xs ds → Rp K H (.ref a) (.list ds)
  | tup {a : Addr} {o : Obj} {xs : List V} {ds : List PyData} : H a = some (.frz o (.tup xs)) → o.dict = none → RpAll K H xs ds → Rp K H (.ref a) (.tuple ds)
  | dct {a : Addr} {kvs : List XEnt} {ep : Nat} {ds : List (PyData × PyData)} : H a = some (dXo a kvs ep) → RpKV K H kvs ds → Rp K H (.ref a) (.dict ds)
  /-- the script: a list of ints that is read alone -/
  | scr {a : Addr} {ns : List Int} : SqL K H a (ns.map V.int) → Rp K H (.ref a) (.dict [(.none, .list (ns.map PyData.int))])
inductive RpAll (K : PySem.W.Frag) (H : Hp) : List V → List PyData → Prop
  | nil : RpAll K H [] []
  | cons {v : V} {vs : List V} {d : PyData} {ds : List PyData} : Rp K H v d → RpAll K H vs ds → RpAll K H (v :: vs) (d :: ds)
inductive RpKV (K : PySem.W.Frag) (H : Hp) : List XEnt → List (PyData × PyData) → Prop
  | nil : RpKV K H [] []
  | cons {k : List Int} {b : Addr} {val : Value} {o : Obj} {v : V} {kvs : List XEnt} {d : PyData} {ds : List (PyData × PyData)} : H b = some (.frz o (.tup (k.map V.int))) → o.dict = none → RelV v val → Rp K H v d → RpKV K H kvs ds → RpKV K H ((k, b, val) :: kvs) ((.tuple (k.map PyData.int), d) :: ds)
end
theorem Same.rd {H H' : Hp} {a : Addr} {u : HO} (e : Same H H') (h : H a = some u) : Rd H' a u := .inl (e _ _ h)
theorem Same.rdR {H H' : Hp} {a : Addr} {u : HO} (e : Same H H') (h : Rd H a u) : Rd H' a u := by
  rcases h with h | ⟨o, h⟩
  · exact .inl (e _ _ h)
  · exact .inr ⟨o, e _ _ h⟩
theorem Rd.sq {K : PySem.W.Frag} {H : Hp} {a : Addr} {xs : List V} (h : Rd H a (.lst xs)) : SqL K H a xs := .inl h
theorem Same.tseq {K : PySem.W.Frag} {H H' : Hp} {a : Addr} {xs : List V} (e : Same H H') (h : SqT K H a xs) : SqT K H' a xs := by
  rcases h with (h | ⟨o, h⟩) | h
  · exact .inl (.inl (e _ _ h))
  · exact .inl (.inr ⟨o, e _ _ h⟩)
  · exact .inr h
section
variable {K : PySem.W.Frag} {H H' : Hp}
mutual
theorem Rp.mono (e : Same H H') : ∀ {v : V} {d : PyData}, Rp K H v d → Rp K H' v d
  | _, _, .non => .non
  | _, _, .bl b => .bl b
  | _, _, .int i => .int i
  | _, _, .str x => .str x
  | _, _, .lst h r => .lst (e _ _ h) (RpAll.mono e r)
  | _, _, .tup h n r => .tup (e _ _ h) n (RpAll.mono e r)
  | _, _, .dct h r => .dct (e _ _ h) (RpKV.mono e r)
  | _, _, .scr h => .scr (e.seq h)
theorem RpAll.mono (e : Same H H') : ∀ {v : List V} {d : List PyData}, RpAll K H v d → RpAll K H' v d
  | _, _, .nil => .nil
  | _, _, .cons h r => .cons (Rp.mono e h) (RpAll.mono e r)
theorem RpKV.mono (e : Same H H') : ∀ {v : List XEnt} {d : List (PyData × PyData)}, RpKV K H v d → RpKV K H' v d
  | _, _, .nil => .nil
  | _, _, .cons hb ho hv h r => .cons (e _ _ hb) ho hv (Rp.mono e h) (RpKV.mono e r)
end
theorem RpAll.length : ∀ {vs : List V} {ds : List PyData}, RpAll K H vs ds → vs.length = ds.length
  | _, _, .nil => rfl
  | _, _, .cons _ r => congrArg (· + 1) (RpAll.length r)
theorem RpAll.get : ∀ {vs : List V} {ds : List PyData} {i : Nat} {d : PyData}, RpAll K H vs ds → ds[i]? = some d → ∃ v, vs[i]? = some v ∧ Rp K H v d
  | _, _, _, _, .nil, e => by simp at e
  | _, _, 0, _, .cons r _, e => by simp at e; subst e; exact ⟨_, rfl, r⟩
  | _, _, i + 1, d, .cons _ t, e => by
    obtain ⟨u, h1, h2⟩ := RpAll.get (i := i) (d := d) t (by simpa using e)
    exact ⟨u, by simpa using h1, h2⟩
theorem RpAll.getV : ∀ {vs : List V} {ds : List PyData} {i : Nat} {v : V}, RpAll K H vs ds → vs[i]? = some v → ∃ d, ds[i]? = some d ∧ Rp K H v d
  | _, _, _, _, .nil, e => by simp at e
  | _, _, 0, _, .cons r _, e => by simp at e; subst e; exact ⟨_, rfl, r⟩
  | _, _, i + 1, d, .cons _ t, e => by
    obtain ⟨u, h1, h2⟩ := RpAll.getV (i := i) (v := d) t (by simpa using e)
    exact ⟨u, by simpa using h1, h2⟩
theorem RpAll.append : ∀ {vs ws : List V} {ds es : List PyData}, RpAll K H vs ds → RpAll K H ws es → RpAll K H (vs ++ ws) (ds ++ es)
  | _, _, _, _, .nil, s => s
  | _, _, _, _, .cons r t, s => .cons r (RpAll.append t s)
theorem RpAll.take : ∀ {vs : List V} {ds : List PyData} (n : Nat), RpAll K H vs ds → RpAll K H (vs.take n) (ds.take n)
  | _, _, 0, _ => .nil
  | _, _, _ + 1, .nil => .nil
  | _, _, n + 1, .cons r t => .cons r (RpAll.take n t)
theorem RpAll.drop : ∀ {vs : List V} {ds : List PyData} (n : Nat), RpAll K H vs ds → RpAll K H (vs.drop n) (ds.drop n)
  | _, _, 0, r => r
  | _, _, _ + 1, .nil => .nil
  | _, _, n + 1, .cons _ t => RpAll.drop n t
theorem RpAll.set {v : V} {d : PyData} (r : Rp K H v d) : ∀ {vs : List V} {ds : List PyData} (i : Nat), RpAll K H vs ds → RpAll K H (vs.set i v) (ds.set i d)
  | _, _, _, .nil => .nil
  | _, _, 0, .cons _ t => .cons r t
  | _, _, i + 1, .cons q t => .cons q (RpAll.set r i t)
theorem RpAll.reverse : ∀ {vs : List V} {ds : List PyData}, RpAll K H vs ds → RpAll K H vs.reverse ds.reverse
  | _, _, .nil => .nil
  | _, _, .cons r t => by
    rw [List.reverse_cons, List.reverse_cons]
    exact (RpAll.reverse t).append (.cons r .nil)
theorem RpAll.rep {vs : List V} {ds : List PyData} (h : RpAll K H vs ds) : ∀ n : Nat, RpAll K H (List.replicate n vs).flatten (List.replicate n ds).flatten
  | 0 => .nil
  | n + 1 => by
    rw [List.replicate_succ, List.replicate_succ, List.flatten_cons, List.flatten_cons]
    exact h.append (RpAll.rep h n)
/-- inversion, by the datum -/
theorem Rp.int_inv {v : V} {i : Int} (r : Rp K H v (.int i)) : v = .int i := by cases r; rfl
theorem Rp.bool_inv {v : V} {i : Bool} (r : Rp K H v (.bool i)) : v = .bl i := by cases r; rfl
theorem Rp.none_inv {v : V} (r : Rp K H v .none) : v = .non := by cases r; rfl
theorem Rp.str_inv {v : V} {i : Str} (r : Rp K H v (.str i)) : v = .str i := by cases r; rfl
theorem Rp.list_inv {v : V} {ds : List PyData} (r : Rp K H v (.list ds)) : ∃ a xs, v = .ref a ∧ H a = some (.lst xs) ∧ RpAll K H xs ds := by cases r with | lst h q => exact ⟨_, _, rfl, h, q⟩
theorem Rp.tuple_inv {v : V} {ds : List PyData} (r : Rp K H v (.tuple ds)) : ∃ a o xs, v = .ref a ∧ H a = some (.frz o (.tup xs)) ∧ o.dict = none ∧ RpAll K H xs ds := by cases r with | tup h n q => exact ⟨_, _, _, rfl, h, n, q⟩
theorem sqt {K : PySem.W.Frag} {H : Hp} {a : Addr} {o : Obj} {xs : List V} (h : H a = some (.frz o (.tup xs))) : SqT K H a xs := .inl (.inr ⟨o, h⟩)
end
/-! data without a dict: as the layer tells it -/
mutual
def flatD : PyData → Bool
  | .dict _ => false
  | .list xs => flatAll xs
  | .tuple xs => flatAll xs
  | .none => true
  | .bool _ => true
  | .int _ => true
  | .str _ => true
def flatAll : List PyData → Bool
  | [] => true
  | x :: xs => flatD x && flatAll xs
end
section
variable {K : PySem.W.Frag} {H : Hp}
mutual
theorem Rp.dp : ∀ {v : V} {d : PyData}, flatD d = true → Rp K H v d → Dp K H v d
  | _, _, _, .non => .non
  | _, _, _, .bl b => .bl b
  | _, _, _, .int i => .int i
  | _, _, _, .str x => .str x
  | _, _, f, .lst h r => .lst (.inl (.inl h)) (RpAll.dp (by simpa [flatD] using f) r)
  | _, _, f, .tup h _ r => .tup (sqt h) (RpAll.dp (by simpa [flatD] using f) r)
  | _, _, f, .dct h r => by simp [flatD] at f
  | _, _, f, .scr h => by simp [flatD] at f
theorem RpAll.dp : ∀ {v : List V} {d : List PyData}, flatAll d = true → RpAll K H v d → DpAll K H v d
  | _, _, _, .nil => .nil
  | _, _, f, .cons h r => by
    have f' := Bool.and_eq_true_iff.mp (by simpa [flatAll] using f)
    exact .cons (Rp.dp f'.1 h) (RpAll.dp f'.2 r)
end
end

/-! ### two heaps: all that stands (H), the part of it that no longer changes (G) -/
structure Gr (G H G' H' : Hp) : Prop where
  g : Same G G'
  h : Same H H'
  sub : Same G' H'
  ow : ∀ l o, H l = some o → G l = none → G' l = none
theorem Gr.refl {G H : Hp} (s : Same G H) : Gr G H G H := ⟨Same.refl _, Same.refl _, s, fun _ _ _ h => h⟩
theorem Gr.trans {G H G1 H1 G2 H2 : Hp} (a : Gr G H G1 H1) (b : Gr G1 H1 G2 H2) : Gr G H G2 H2 :=
  ⟨a.g.trans b.g, a.h.trans b.h, b.sub, fun l o e n => b.ow l o (a.h l o e) (a.ow l o e n)⟩
theorem same_upd {H : Hp} {p : Addr} {o : HO} (n : H p = none) : Same H (upd H p o) := fun b u e => by
  rw [upd_ne (ne_of_none e n)]
  exact e
/-- a new object that does not change -/
theorem Gr.new {G H : Hp} {p : Addr} {o : HO} (s : Same G H) (n : H p = none) : Gr G H (upd G p o) (upd H p o) where
  g := same_upd (s.free n)
  h := same_upd n
  sub := fun b u e => by
    by_cases hb : b = p
    · subst hb; rw [upd_same] at e ⊢; exact e
    · rw [upd_ne hb] at e ⊢; exact s b u e
  ow := fun l u e g => by
    rw [upd_ne (ne_of_none e n)]
    exact g
/-- a new object that may yet change -/
theorem Gr.newO {G H : Hp} {p : Addr} {o : HO} (s : Same G H) (n : H p = none) : Gr G H G (upd H p o) where
  g := Same.refl _
  h := same_upd n
  sub := s.trans (same_upd n)
  ow := fun _ _ _ g => g

/-! ### what the slots hold -/
inductive Ent where
  /-- data that do not change -/
  | fz (d : PyData)
  /-- a list of our own -/
  | ow (ds : List PyData)
  /-- a dict of our own, its keys tuples -/
  | od (kvs : List (PyData × PyData))
abbrev Rho := List (Option Ent)
def EntOk (K : PySem.W.Frag) (H0 G H : Hp) (v : V) : Ent → Prop
  | .fz d => Rp K G v d
  | .ow ds => ∃ l vs, v = .ref l ∧ H l = some (.lst vs) ∧ G l = none ∧ H0 l = none ∧ RpAll K G vs ds
  | .od ds => ∃ l vs, v = .ref l ∧ H l = some (dXo l (Prod.fst vs) (Prod.snd vs)) ∧ G l = none ∧ H0 l = none ∧ RpKV K G (Prod.fst vs) ds
def Ent.own : Ent → Bool
  | .fz _ => false
  | _ => true
/-- B: the heaps at the def's entry -/
structure EnvOk (K : PySem.W.Frag) (B : Hp × Hp) (G : Hp) (σ : St) (H : Hp) (ρ : Rho) : Prop where
  gr : Gr B.1 B.2 G H
  len : σ.length = ρ.length
  at_ : ∀ (i : Nat) (e : Ent), ρ[i]? = some (some e) → ∃ v, σ[i]? = some (some v) ∧ EntOk K B.2 G H v e
  sep : ∀ (i j : Nat) (e e' : Ent) (v : V), ρ[i]? = some (some e) → e.own = true → ρ[j]? = some (some e') → e'.own = true → σ[i]? = some (some v) → σ[j]? = some (some v) → i = j
section
variable {K : PySem.W.Frag} {B : Hp × Hp} {G G' H H' H0 : Hp} {σ : St} {ρ : Rho}
theorem EnvOk.sub (h : EnvOk K B G σ H ρ) : Same G H := h.gr.sub
theorem EntOk.gr {v : V} {e : Ent} (g : Gr G H G' H') (h : EntOk K H0 G H v e) : EntOk K H0 G' H' v e := by
  cases e with
  | fz d => exact Rp.mono g.g h
  | ow ds =>
    obtain ⟨l, vs, e1, e2, e3, e4, r⟩ := h
    exact ⟨l, vs, e1, g.h _ _ e2, g.ow _ _ e2 e3, e4, RpAll.mono g.g r⟩
  | od ds =>
    obtain ⟨l, vs, e1, e2, e3, e4, r⟩ := h
    exact ⟨l, vs, e1, g.h _ _ e2, g.ow _ _ e2 e3, e4, RpKV.mono g.g r⟩
theorem EnvOk.step (h : EnvOk K B G σ H ρ) (g : Gr G H G' H') : EnvOk K B G' σ H' ρ :=
  ⟨h.gr.trans g, h.len, fun i e r => let ⟨v, q, z⟩ := h.at_ i e r; ⟨v, q, z.gr g⟩, h.sep⟩
theorem EnvOk.fz (h : EnvOk K B G σ H ρ) {i : Nat} {d : PyData} (e : ρ[i]? = some (some (.fz d))) : ∃ v, σ[i]? = some (some v) ∧ Rp K G v d := h.at_ i _ e
/-- a slot is stored -/
theorem EnvOk.setF (h : EnvOk K B G σ H ρ) (i : Nat) {v : V} {d : PyData} (r : Rp K G v d) : EnvOk K B G (σ.set i (some v)) H (ρ.set i (some (.fz d))) := by
  refine ⟨h.gr, by simp [h.len], fun j e q => ?_, fun j k e e' w r1 o1 r2 o2 s1 s2 => ?_⟩
  · by_cases hj : i = j
    · subst hj
      have hi : i < ρ.length := by
        by_cases hi : i < ρ.length
        · exact hi
        · rw [List.getElem?_eq_none (by simpa using Nat.le_of_not_lt hi)] at q; cases q
      rw [List.getElem?_set_self hi] at q
      cases q
      exact ⟨v, by rw [List.getElem?_set_self (by rw [h.len]; exact hi)], r⟩
    · rw [List.getElem?_set_ne hj] at q
      obtain ⟨u, e1, e2⟩ := h.at_ j e q
      exact ⟨u, by rw [List.getElem?_set_ne hj]; exact e1, e2⟩
  · have own_ne : ∀ {m : Nat} {e : Ent}, (ρ.set i (some (.fz d)))[m]? = some (some e) → e.own = true → i ≠ m ∧ ρ[m]? = some (some e) := fun {m e} q o => by
      by_cases hm : i = m
      · subst hm
        have hi : i < ρ.length := by
          by_cases hi : i < ρ.length
          · exact hi
          · rw [List.getElem?_eq_none (by simpa using Nat.le_of_not_lt hi)] at q; cases q
        rw [List.getElem?_set_self hi] at q
        cases q
        cases o
      · exact ⟨hm, by rw [List.getElem?_set_ne hm] at q; exact q⟩
    obtain ⟨n1, q1⟩ := own_ne r1 o1
    obtain ⟨n2, q2⟩ := own_ne r2 o2
    rw [List.getElem?_set_ne n1] at s1
    rw [List.getElem?_set_ne n2] at s2
    exact h.sep j k e e' w q1 o1 q2 o2 s1 s2
/-- a slot takes a new list, a new dict -/
theorem EnvOk.setO (h : EnvOk K B G σ H ρ) (i : Nat) {l : Addr} {e : Ent} (r : EntOk K B.2 G H (.ref l) e) (nw : ∀ (j : Nat) (e' : Ent), ρ[j]? = some (some e') → e'.own = true → σ[j]? ≠ some (some (.ref l))) : EnvOk K B G (σ.set i (some (.ref l))) H (ρ.set i (some e)) := by
  have hi : ∀ {m : Nat} {e' : Ent}, (ρ.set i (some e))[m]? = some (some e') → (i = m ∧ i < ρ.length ∧ e' = e) ∨ (i ≠ m ∧ ρ[m]? = some (some e')) := fun {m e'} q => by
    by_cases hm : i = m
    · subst hm
      have hi : i < ρ.length := by
        by_cases hi : i < ρ.length
        · exact hi
        · rw [List.getElem?_eq_none (by simpa using Nat.le_of_not_lt hi)] at q; cases q
      rw [List.getElem?_set_self hi] at q
      cases q
      exact .inl ⟨rfl, hi, rfl⟩
    · exact .inr ⟨hm, by rw [List.getElem?_set_ne hm] at q; exact q⟩
  refine ⟨h.gr, by simp [h.len], fun j e' q => ?_, fun j k e1 e2 w r1 o1 r2 o2 s1 s2 => ?_⟩
  · rcases hi q with ⟨rfl, hl, rfl⟩ | ⟨hj, q⟩
    · exact ⟨.ref l, by rw [List.getElem?_set_self (by rw [h.len]; exact hl)], r⟩
    · obtain ⟨u, e1, e2⟩ := h.at_ j e' q
      exact ⟨u, by rw [List.getElem?_set_ne hj]; exact e1, e2⟩
  · rcases hi r1 with ⟨rfl, hl, rfl⟩ | ⟨hj, q1⟩
    · rcases hi r2 with ⟨rfl, hl', rfl⟩ | ⟨hk, q2⟩
      · rfl
      · rw [List.getElem?_set_self (by rw [h.len]; exact hl)] at s1
        cases s1
        rw [List.getElem?_set_ne hk] at s2
        exact absurd s2 (nw k e2 q2 o2)
    · rcases hi r2 with ⟨rfl, hl', rfl⟩ | ⟨hk, q2⟩
      · rw [List.getElem?_set_self (by rw [h.len]; exact hl')] at s2
        cases s2
        rw [List.getElem?_set_ne hj] at s1
        exact absurd s1 (nw j e1 q1 o1)
      · rw [List.getElem?_set_ne hj] at s1
        rw [List.getElem?_set_ne hk] at s2
        exact h.sep j k e1 e2 w q1 o1 q2 o2 s1 s2
theorem EnvOk.own_ne (h : EnvOk K B G σ H ρ) {l : Addr} (n : H l = none) : ∀ (j : Nat) (e' : Ent), ρ[j]? = some (some e') → e'.own = true → σ[j]? ≠ some (some (.ref l)) := fun j e' q o z => by
  obtain ⟨v, e1, e2⟩ := h.at_ j e' q
  rw [e1] at z
  cases z
  cases e' with
  | fz d => cases o
  | ow ds => obtain ⟨l', vs, e, q', _⟩ := e2; cases e; rw [n] at q'; cases q'
  | od ds => obtain ⟨l', vs, e, q', _⟩ := e2; cases e; rw [n] at q'; cases q'
/-- what own slot i holds is changed -/
theorem EnvOk.write (h : EnvOk K B G σ H ρ) {i : Nat} {l : Addr} {e e' : Ent} {o : HO} (q : ρ[i]? = some (some e)) (oe : e.own = true) (hl : σ[i]? = some (some (.ref l))) (r : EntOk K B.2 G (upd H l o) (.ref l) e') : EnvOk K B G σ (upd H l o) (ρ.set i (some e')) := by
  have hi : i < ρ.length := (List.getElem?_eq_some_iff.mp q).1
  obtain ⟨v, e1, e2⟩ := h.at_ i e q
  rw [hl] at e1
  cases e1
  obtain ⟨hH, hG, hB⟩ : (∃ o, H l = some o) ∧ G l = none ∧ B.2 l = none := by
    cases e with
    | fz d => cases oe
    | ow ds => obtain ⟨l', vs, e, q', g, b, _⟩ := e2; cases e; exact ⟨⟨_, q'⟩, g, b⟩
    | od ds => obtain ⟨l', vs, e, q', g, b, _⟩ := e2; cases e; exact ⟨⟨_, q'⟩, g, b⟩
  have cases_ : ∀ {m : Nat} {e1 : Ent}, (ρ.set i (some e'))[m]? = some (some e1) → (i = m ∧ e1 = e') ∨ (i ≠ m ∧ ρ[m]? = some (some e1)) := fun {m e1} q => by
    by_cases hm : i = m
    · subst hm
      rw [List.getElem?_set_self hi] at q
      cases q
      exact .inl ⟨rfl, rfl⟩
    · exact .inr ⟨hm, by rw [List.getElem?_set_ne hm] at q; exact q⟩
  refine ⟨⟨h.gr.g, fun b u e => ?_, fun b u e => ?_, h.gr.ow⟩, by simp [h.len], fun j e1 q1 => ?_, fun j k e1 e2 w r1 o1 r2 o2 s1 s2 => ?_⟩
  · rw [upd_ne (ne_of_none e hB)]
    exact h.gr.h b u e
  · rw [upd_ne (ne_of_none e hG)]
    exact h.gr.sub b u e
  · rcases cases_ q1 with ⟨rfl, rfl⟩ | ⟨hj, q1⟩
    · exact ⟨.ref l, hl, r⟩
    · obtain ⟨u, f1, f2⟩ := h.at_ j e1 q1
      refine ⟨u, f1, ?_⟩
      cases e1 with
      | fz d => exact f2
      | ow ds =>
        obtain ⟨l', vs, rfl, q', z⟩ := f2
        have ne : l' ≠ l := fun z' => by
          subst z'
          exact hj (h.sep i j e _ _ q oe q1 rfl hl f1)
        exact ⟨l', vs, rfl, by rw [upd_ne ne]; exact q', z⟩
      | od ds =>
        obtain ⟨l', vs, rfl, q', z⟩ := f2
        have ne : l' ≠ l := fun z' => by
          subst z'
          exact hj (h.sep i j e _ _ q oe q1 rfl hl f1)
        exact ⟨l', vs, rfl, by rw [upd_ne ne]; exact q', z⟩
  · have own_old : ∀ {m : Nat} {e1 : Ent}, (ρ.set i (some e'))[m]? = some (some e1) → e1.own = true → ∃ e2, ρ[m]? = some (some e2) ∧ e2.own = true := fun {m e1} q2 o2 => by
      rcases cases_ q2 with ⟨rfl, rfl⟩ | ⟨hj, q2⟩
      · exact ⟨e, q, oe⟩
      · exact ⟨e1, q2, o2⟩
    obtain ⟨a1, b1, c1⟩ := own_old r1 o1
    obtain ⟨a2, b2, c2⟩ := own_old r2 o2
    exact h.sep j k a1 a2 w b1 c1 b2 c2 s1 s2
/-- an own list, dict is no more changed -/
theorem EnvOk.freeze (h : EnvOk K B G σ H ρ) {i : Nat} {e : Ent} (q : ρ[i]? = some (some e)) (d : PyData) (hd : match e with | .fz d' => d = d' | .ow ds => d = .list ds | .od kvs => d = .dict kvs) : ∃ G', Same G G' ∧ EnvOk K B G' σ H (ρ.set i (some (.fz d))) := by
  obtain ⟨v, e1, e2⟩ := h.at_ i e q
  have key : ∀ {l : Addr} {o : HO}, v = .ref l → H l = some o → G l = none → B.2 l = none → e.own = true → Rp K (upd G l o) (.ref l) d → ∃ G', Same G G' ∧ EnvOk K B G' σ H (ρ.set i (some (.fz d))) := fun {l o} ev hH hG hB oe r => by
    subst ev
    have sg : Same G (upd G l o) := same_upd hG
    refine ⟨upd G l o, sg, ?_⟩
    have h' : EnvOk K B (upd G l o) σ H (ρ.set i none) := by
      refine ⟨⟨h.gr.g.trans sg, h.gr.h, fun b u e => ?_, fun b u e n => ?_⟩, by simp [h.len], fun j e1 q1 => ?_, fun j k e1 e2 w r1 o1 r2 o2 s1 s2 => ?_⟩
      · by_cases hb : b = l
        · subst hb; rw [upd_same] at e; cases e; exact hH
        · rw [upd_ne hb] at e; exact h.gr.sub b u e
      · rw [upd_ne (ne_of_none e hB)]
        exact h.gr.ow b u e n
      · by_cases hj : i = j
        · subst hj
          rw [List.getElem?_set_self (List.getElem?_eq_some_iff.mp q).1] at q1
          cases q1
        · rw [List.getElem?_set_ne hj] at q1
          obtain ⟨u, f1, f2⟩ := h.at_ j e1 q1
          refine ⟨u, f1, ?_⟩
          cases e1 with
          | fz d => exact Rp.mono sg f2
          | ow ds =>
            obtain ⟨l', vs, rfl, q', g', z1, z2⟩ := f2
            have ne : l' ≠ l := fun z' => by
              subst z'
              exact hj (h.sep i j e _ _ q oe q1 rfl e1 f1)
            exact ⟨l', vs, rfl, q', by rw [upd_ne ne]; exact g', z1, RpAll.mono sg z2⟩
          | od ds =>
            obtain ⟨l', vs, rfl, q', g', z1, z2⟩ := f2
            have ne : l' ≠ l := fun z' => by
              subst z'
              exact hj (h.sep i j e _ _ q oe q1 rfl e1 f1)
            exact ⟨l', vs, rfl, q', by rw [upd_ne ne]; exact g', z1, RpKV.mono sg z2⟩
      · have back : ∀ {m : Nat} {e1 : Ent}, (ρ.set i none)[m]? = some (some e1) → ρ[m]? = some (some e1) := fun {m e1} q1 => by
          by_cases hj : i = m
          · subst hj
            rw [List.getElem?_set_self (List.getElem?_eq_some_iff.mp q).1] at q1
            cases q1
          · rw [List.getElem?_set_ne hj] at q1
            exact q1
        exact h.sep j k e1 e2 w (back r1) o1 (back r2) o2 s1 s2
    have z := h'.setF i (v := .ref l) (d := d) r
    rw [List.set_set] at z
    have es : σ.set i (some (.ref l)) = σ := by
      apply List.ext_getElem?
      intro m
      by_cases hm : i = m
      · subst hm
        rw [List.getElem?_set_self (List.getElem?_eq_some_iff.mp e1).1, e1]
      · rw [List.getElem?_set_ne hm]
    rw [es] at z
    exact z
  cases e with
  | fz d' =>
    have hd' : d = d' := hd
    clear hd
    subst hd'
    refine ⟨G, Same.refl _, ?_⟩
    have : ρ.set i (some (.fz d)) = ρ := by
      apply List.ext_getElem?
      intro m
      by_cases hm : i = m
      · subst hm
        rw [List.getElem?_set_self (List.getElem?_eq_some_iff.mp q).1, q]
      · rw [List.getElem?_set_ne hm]
    rw [this]
    exact h
  | ow ds =>
    have hd' : d = .list ds := hd
    clear hd
    subst hd'
    obtain ⟨l, vs, ev, a, b, c, r⟩ := e2
    exact key ev a b c rfl (.lst upd_same (RpAll.mono (same_upd b) r))
  | od ds =>
    have hd' : d = .dict ds := hd
    clear hd
    subst hd'
    obtain ⟨l, vs, ev, a, b, c, r⟩ := e2
    exact key ev a b c rfl (.dct upd_same (RpKV.mono (same_upd b) r))
end
end L2.PD

set_option Elab.async false
set_option linter.all false
set_option autoImplicit false
set_option maxRecDepth 100000
/-! PD1: the readings tP (an expression's datum), tT (a test), tA (arguments), tS (statements); rules for names, constants, operators, tests, calls, blocks. -/
namespace L2.PD
open PySem PySem.Spec PyProof.Rows L2

def PayOk (K : PySem.W.Frag) (G : Hp) : Option PyData → Option Addr → Hp → Prop
  | none, dx, _ => dx = none
  | some x, some a, H => ∃ v, H a = some (.xd [("at", v)]) ∧ Rp K G v x
  | some _, none, _ => False
/-- what is wanted of an exception -/
def XW (K : PySem.W.Frag) (mg : Str → Option Value) (E : XK) (B : Hp × Hp) (e : Exn) : Prop :=
  ∀ (C : Addr) (dx : Option Addr) (H' G' : Hp), mg e.cls = some (.ref C) → Gr B.1 B.2 G' H' → PayOk K G' e.at_ dx H' → E (.ref C) dx H'
theorem XW.step {K : PySem.W.Frag} {mg : Str → Option Value} {E : XK} {B : Hp × Hp} {G H : Hp} {e : Exn} (g : Gr B.1 B.2 G H) (h : XW K mg E B e) : XW K mg E (G, H) e :=
  fun C dx H' G' hm g' p => h C dx H' G' hm (g.trans g') p

section
variable (K : PySem.W.Frag) (mg : Str → Option Value) (E : XK)
def tP (f : Rho → R PyData) : TE := fun σ H Q => ∃ B ρ G, EnvOk K B G σ H ρ ∧ (f ρ).holds (fun d => ∀ v H' G', Gr G H G' H' → Rp K G' v d → Q v H') (XW K mg E B)
def tT (f : Rho → R Bool) : TT := fun σ H Q => ∃ B ρ G, EnvOk K B G σ H ρ ∧ (f ρ).holds (fun b => ∀ H' G', Gr G H G' H' → Q b H') (XW K mg E B)
def tA (f : Rho → R (List PyData)) : TA := fun σ H Q => ∃ B ρ G, EnvOk K B G σ H ρ ∧ (f ρ).holds (fun ds => ∀ vs H' G', Gr G H G' H' → RpAll K G' vs ds → Q vs H') (XW K mg E B)
end
inductive Out where
  | nx (ρ : Rho) | ret (d : PyData) | bk (ρ : Rho) | ct (ρ : Rho)
def OutOk (K : PySem.W.Frag) (B : Hp × Hp) (G : Hp) (D : Ends) : Out → Prop
  | .nx ρ => ∀ σ' H' G', EnvOk K B G' σ' H' ρ → Same G G' → D.nx σ' H'
  | .bk ρ => ∀ σ' H' G', EnvOk K B G' σ' H' ρ → Same G G' → D.bk σ' H'
  | .ct ρ => ∀ σ' H' G', EnvOk K B G' σ' H' ρ → Same G G' → D.ct σ' H'
  | .ret d => ∀ v H' G', Gr B.1 B.2 G' H' → Rp K G' v d → D.rt v H'
def tS (K : PySem.W.Frag) (mg : Str → Option Value) (E : XK) (f : Rho → R Out) : TS := fun D σ H => ∃ B ρ G, EnvOk K B G σ H ρ ∧ (f ρ).holds (OutOk K B G D) (XW K mg E B)

section
variable {K : PySem.W.Frag} {mg : Str → Option Value} {E : XK} {B : Hp × Hp} {G H : Hp} {σ : St} {ρ : Rho} {β : Type} {P : β → Prop}
theorem tP_bind {f : Rho → R PyData} {k : PyData → R β} {Q : VK} (e : EnvOk K B G σ H ρ) (h : ((f ρ).bind k).holds P (XW K mg E B))
    (hq : ∀ d v H1 G1, Gr G H G1 H1 → Rp K G1 v d → EnvOk K B G1 σ H1 ρ → (k d).holds P (XW K mg E B) → Q v H1) : tP K mg E f σ H Q :=
  ⟨B, ρ, G, e, (R.holds_bind.mp h).mono (fun d hd v H1 G1 g r => hq d v H1 G1 g r (e.step g) hd) fun _ z => z⟩
theorem tT_bind {f : Rho → R Bool} {k : Bool → R β} {Q : Bool → Hp → Prop} (e : EnvOk K B G σ H ρ) (h : ((f ρ).bind k).holds P (XW K mg E B))
    (hq : ∀ b H1 G1, Gr G H G1 H1 → EnvOk K B G1 σ H1 ρ → (k b).holds P (XW K mg E B) → Q b H1) : tT K mg E f σ H Q :=
  ⟨B, ρ, G, e, (R.holds_bind.mp h).mono (fun d hd H1 G1 g => hq d H1 G1 g (e.step g) hd) fun _ z => z⟩
theorem tA_bind {f : Rho → R (List PyData)} {k : List PyData → R β} {Q : List V → Hp → Prop} (e : EnvOk K B G σ H ρ) (h : ((f ρ).bind k).holds P (XW K mg E B))
    (hq : ∀ ds vs H1 G1, Gr G H G1 H1 → RpAll K G1 vs ds → EnvOk K B G1 σ H1 ρ → (k ds).holds P (XW K mg E B) → Q vs H1) : tA K mg E f σ H Q :=
  ⟨B, ρ, G, e, (R.holds_bind.mp h).mono (fun d hd v H1 G1 g r => hq d v H1 G1 g r (e.step g) hd) fun _ z => z⟩
end

/-! ### weakening -/
section
variable {X : Cx}
theorem pe_imp {e : Expr} {t t' : TE} (h : PE X e t) (hi : ∀ pins s σ H Q, Inv X pins σ H s → t' σ H Q → t σ H Q) : PE X e t' :=
  ⟨fun pins s σ H Q I hw => h.run pins s σ H Q I (hi pins s σ H Q I hw)⟩
theorem pt_imp {e : Expr} {t t' : TT} (h : PT X e t) (hi : ∀ pins s σ H Q, Inv X pins σ H s → t' σ H Q → t σ H Q) : PT X e t' :=
  ⟨fun pins s σ H Q I hw => h.run pins s σ H Q I (hi pins s σ H Q I hw)⟩
theorem pw_imp {e : Expr} {t t' : TT} (h : PW X e t) (hi : ∀ pins s σ H Q, Inv X pins σ H s → t' σ H Q → t σ H Q) : PW X e t' :=
  ⟨fun wh pins s σ H Q I hw => h.run wh pins s σ H Q I (hi pins s σ H Q I hw)⟩
theorem pa_imp {e : List Expr} {t t' : TA} (h : PA X e t) (hi : ∀ pins s σ H Q, Inv X pins σ H s → t' σ H Q → t σ H Q) : PA X e t' :=
  ⟨fun pos pins s σ H Q I hw => h.run pos pins s σ H Q I (hi pins s σ H Q I hw)⟩
theorem ps_imp {e : Stmt} {t t' : TS} (h : PS X e t) (hi : ∀ pins s σ H D, Inv X pins σ H s → t' D σ H → t D σ H) : PS X e t' :=
  ⟨fun pins s σ H D I hw => h.run pins s σ H D I (hi pins s σ H D I hw)⟩
theorem pss_imp {e : List Stmt} {t t' : TS} (h : PSs X e t) (hi : ∀ pins s σ H D, Inv X pins σ H s → t' D σ H → t D σ H) : PSs X e t' :=
  ⟨fun pins s σ H D I hw => h.run pins s σ H D I (hi pins s σ H D I hw)⟩
theorem pi_imp {tg e : Expr} {t t' : TI} (h : PI X tg e t) (hi : ∀ pins s σ H R, Inv X pins σ H s → t' σ H R → t σ H R) : PI X tg e t' :=
  ⟨fun pins s σ H R I hw => h.run pins s σ H R I (hi pins s σ H R I hw)⟩
theorem opr_imp {f : Value → Value → Sem Value} {r r' : R2} (h : OpR X f r) (hi : ∀ pins s σ H x y Q, Inv X pins σ H s → r' x y H Q → r x y H Q) : OpR X f r' :=
  fun pins s σ H x y v u Q I rx ry hw => h pins s σ H x y v u Q I rx ry (hi pins s σ H x y Q I hw)
theorem callr_imp {f : Value} {r r' : List V → Hp → VK → Prop} (h : CallR X f r) (hi : ∀ pins s σ H xs Q, Inv X pins σ H s → r' xs H Q → r xs H Q) : CallR X f r' :=
  fun pins s σ H xs us Q I rx hw => h pins s σ H xs us Q I rx (hi pins s σ H xs Q I hw)
theorem ixr_imp {r r' : R2} (h : IxR X r) (hi : ∀ pins s σ H x y Q, Inv X pins σ H s → r' x y H Q → r x y H Q) : IxR X r' :=
  fun va sl pins s σ H x y v u Q I rx ry hw hs => h va sl pins s σ H x y v u Q I rx ry (hi pins s σ H x y Q I hw) hs
theorem mtr_imp {id : String} {r r' : V → List V → Hp → VK → Prop} (h : MtR X id r) (hi : ∀ pins s σ H x xs Q, Inv X pins σ H s → r' x xs H Q → r x xs H Q) : MtR X id r' :=
  fun pins s σ H x xs v us Q I rx ry hw => h pins s σ H x xs v us Q I rx ry (hi pins s σ H x xs Q I hw)
end

/-! ### sizes: what a list, a tuple that stands can at most hold -/
theorem Inv.szL {X : Cx} {pins : List (Addr × Obj)} {σ : St} {H : Hp} {s : Shared} {a : Addr} {xs : List V} (I : Inv X pins σ H s) (h : SqL X.K H a xs) : xs.length ≤ sizeLine := let ⟨_, _, _, z⟩ := I.list h; z
theorem Inv.szT {X : Cx} {pins : List (Addr × Obj)} {σ : St} {H : Hp} {s : Shared} {a : Addr} {xs : List V} (I : Inv X pins σ H s) (h : SqT X.K H a xs) : xs.length ≤ sizeLine := let ⟨_, _, _, z⟩ := I.tuple h; z

/-! ### names, constants -/
def fName (i : Nat) : Rho → R PyData := fun ρ => match ρ[i]? with
  | some (some (.fz d)) => .ok d
  | _ => .no
def fC (d : PyData) : Rho → R PyData := fun _ => .ok d
section
variable {X : Cx} {E : XK}
theorem de_name (i : Nat) {x : Str} {pos : Pos} (hN : X.N[i]? = some x := by rfl) (hv : Vis X.env.scope x := by first | exact Or.inl rfl | exact Or.inr (Or.inl rfl) | exact Or.inr (Or.inr rfl)) (hd : (x == ("__debug__" : Str)) = false := by decide)
    (hcd : (x == ("__classdict__" : Str)) = false := by decide) : PE X (.Name x pos) (tP X.K X.mg E (fName i)) := by
  refine pe_imp (pe_var (i := i) hN hv hd hcd) fun pins s σ H Q I ⟨B, ρ, G, e, h⟩ => ?_
  unfold fName at h
  split at h
  · rename_i d q
    obtain ⟨v, e1, e2⟩ := e.fz q
    exact ⟨v, e1, h v H G (Gr.refl e.sub) e2⟩
  · exact h.elim
theorem tP_const {d : PyData} {v : V} {σ : St} {H : Hp} {Q : VK} (hr : ∀ K G, Rp K G v d) (h : tP X.K X.mg E (fC d) σ H Q) : Q v H := by
  obtain ⟨B, ρ, G, e, h⟩ := h
  exact h v H G (Gr.refl e.sub) (hr _ _)
theorem de_int {i j pos} : PE X (.Constant (.int i) j pos) (tP X.K X.mg E (fC (.int i))) := pe_imp pe_int fun _ _ _ _ _ _ h => tP_const (fun _ _ => .int i) h
theorem de_bl {b j pos} : PE X (.Constant (.bool b) j pos) (tP X.K X.mg E (fC (.bool b))) := pe_imp pe_bl fun _ _ _ _ _ _ h => tP_const (fun _ _ => .bl b) h
theorem de_non {j pos} : PE X (.Constant .none j pos) (tP X.K X.mg E (fC .none)) := pe_imp pe_non fun _ _ _ _ _ _ h => tP_const (fun _ _ => .non) h
theorem de_str {x j pos} : PE X (.Constant (.str x) j pos) (tP X.K X.mg E (fC (.str x))) := pe_imp pe_str fun _ _ _ _ _ _ h => tP_const (fun _ _ => .str x) h
end

/-! ### operators, by data -/
def f2 (op : PyData → PyData → R PyData) (fa fb : Rho → R PyData) : Rho → R PyData := fun ρ => (fa ρ).bind fun x => (fb ρ).bind fun y => op x y
def f1 (op : PyData → R PyData) (fa : Rho → R PyData) : Rho → R PyData := fun ρ => (fa ρ).bind op
def rD (K : PySem.W.Frag) (op : PyData → PyData → R PyData) : R2 := fun x y H Q => ∃ G dx dy, Same G H ∧ Rp K G x dx ∧ Rp K G y dy ∧ (op dx dy).holds (fun d => ∀ v H' G', Gr G H G' H' → Rp K G' v d → Q v H') fun _ => False
section
variable {X : Cx} {E : XK} {a b : Expr} {fa fb : Rho → R PyData} {pos : Pos}
/-- an operator never raises here -/
def NoEx2 (op : PyData → PyData → R PyData) : Prop := ∀ x y e, op x y ≠ .ex e
theorem noex_holds {α : Type} {r : R α} {P : α → Prop} {E' E'' : Exn → Prop} (n : ∀ e, r ≠ .ex e) (h : r.holds P E') : r.holds P E'' := by
  cases r with
  | ok a => exact h
  | ex e => exact absurd rfl (n e)
  | no => exact h
theorem tOp_of {op : PyData → PyData → R PyData} {r : R2} {σ : St} {H : Hp} {Q : VK} (n : NoEx2 op) (hr : ∀ x y H Q, rD X.K op x y H Q → r x y H Q) (h : tP X.K X.mg E (f2 op fa fb) σ H Q) : tOp r (tP X.K X.mg E fa) (tP X.K X.mg E fb) σ H Q := by
  obtain ⟨B, ρ, G, e, h⟩ := h
  refine tP_bind e h fun d v H1 G1 g1 r1 e1 h1 => tP_bind e1 h1 fun d2 v2 H2 G2 g2 r2 e2 h2 => hr _ _ _ _ ⟨G2, d, d2, e2.sub, r1.mono g2.g, r2, ?_⟩
  exact noex_holds (n d d2) ((h2.mono (fun d3 h3 v3 H3 G3 g3 r3 => h3 v3 H3 G3 (g1.trans (g2.trans g3)) r3) (E' := XW X.K X.mg E B) fun _ z => z))
theorem de_op {op : Operator} {o : PyData → PyData → R PyData} (n : NoEx2 o) (ho : OpR X (binaryOp op) (rD X.K o)) (ha : PE X a (tP X.K X.mg E fa)) (hb : PE X b (tP X.K X.mg E fb)) : PE X (.BinOp a op b pos) (tP X.K X.mg E (f2 o fa fb)) :=
  pe_imp (pe_op ho ha hb) fun _ _ _ _ _ _ h => tOp_of n (fun _ _ _ _ z => z) h
theorem de_cmp {op : CmpOp} {o : PyData → PyData → R PyData} (n : NoEx2 o) (ho : OpR X (compareOp op) (rD X.K o)) (ha : PE X a (tP X.K X.mg E fa)) (hb : PE X b (tP X.K X.mg E fb)) (hm : behindInMarks op b = false := by rfl) : PE X (.Compare a [op] [b] pos) (tP X.K X.mg E (f2 o fa fb)) :=
  pe_imp (pe_cmpR ho ha hb hm) fun _ _ _ _ _ _ h => tOp_of n (fun _ _ _ _ z => z) h
def boolOf : PyData → R Bool
  | .bool b => .ok b
  | _ => .no
def fB (f : Rho → R PyData) : Rho → R Bool := fun ρ => (f ρ).bind boolOf
theorem tTest_of {t : TE} {f : Rho → R PyData} {σ : St} {H : Hp} {Q : Bool → Hp → Prop} (ht : ∀ Q', tP X.K X.mg E f σ H Q' → t σ H Q') (h : tT X.K X.mg E (fB f) σ H Q) : tTest t σ H Q := by
  obtain ⟨B, ρ, G, e, h⟩ := h
  refine ht _ (tP_bind e h fun d v H1 G1 g1 r1 e1 h1 => ?_)
  cases d <;> first | exact h1.elim | exact ⟨_, r1.bool_inv, h1 H1 G1 g1⟩
theorem dt_cmp {op : CmpOp} {o : PyData → PyData → R PyData} (n : NoEx2 o) (ho : OpR X (compareOp op) (rD X.K o)) (ha : PE X a (tP X.K X.mg E fa)) (hb : PE X b (tP X.K X.mg E fb)) (hm : behindInMarks op b = false := by rfl) : PT X (.Compare a [op] [b] pos) (tT X.K X.mg E (fB (f2 o fa fb))) :=
  pt_imp (pt_cmpR ho ha hb hm) fun _ _ _ _ _ _ h => tTest_of (fun Q' z => tOp_of n (fun _ _ _ _ z => z) z) h
end

/-! ### the operators -/
def LIM : Nat := 1000000
theorem lim_line {n : Nat} (h : n ≤ LIM) : n ≤ sizeLine := Nat.le_trans h (by decide)
theorem lim_lt {n : Nat} (h : n ≤ LIM) : n < sizeLine := Nat.lt_of_le_of_lt h (by decide)
def addD : PyData → PyData → R PyData
  | .int a, .int b => .ok (.int (a + b))
  | .tuple a, .tuple b => guard (decide (a.length + b.length ≤ LIM)) (.ok (.tuple (a ++ b)))
  | .list a, .list b => guard (decide (a.length + b.length ≤ LIM)) (.ok (.list (a ++ b)))
  | .str a, .str b => guard (decide (a.length + b.length ≤ LIM)) (.ok (.str (a ++ b)))
  | _, _ => .no
def subD : PyData → PyData → R PyData
  | .int a, .int b => .ok (.int (a - b))
  | _, _ => .no
def mulOk (a b : Int) : Bool := decide (-(2 ^ 64) < a ∧ a < 2 ^ 64) || decide (-(2 ^ 64) < b ∧ b < 2 ^ 64)
theorem mulOk_l {a b : Int} (h : -1000000000 ≤ a ∧ a ≤ 1000000000) : mulOk a b = true := by
  unfold mulOk
  rw [decide_eq_true (show -(2 ^ 64) < a ∧ a < 2 ^ 64 by omega)]
  rfl
theorem mulOk_r {a b : Int} (h : -1000000000 ≤ b ∧ b ≤ 1000000000) : mulOk a b = true := by
  unfold mulOk
  rw [decide_eq_true (show -(2 ^ 64) < b ∧ b < 2 ^ 64 by omega), Bool.or_true]
/-- the products of ints: one side below 2 ^ 64; (..) * n, [..] * n for a small n -/
def mulD : PyData → PyData → R PyData
  | .int a, .int b => guard (mulOk a b) (.ok (.int (a * b)))
  | .tuple a, .int k => guard (decide (0 ≤ k ∧ k ≤ 1000 ∧ a.length ≤ 1000)) (.ok (.tuple (List.replicate k.toNat a).flatten))
  | .list a, .int k => guard (decide (0 ≤ k ∧ k ≤ 1000 ∧ a.length ≤ 1000)) (.ok (.list (List.replicate k.toNat a).flatten))
  | .str x, .int k => guard (decide (0 ≤ k ∧ k ≤ 1000 ∧ x.length ≤ 1000)) (.ok (.str (Txt.mul x k)))
  | _, _ => .no
def fdivD : PyData → PyData → R PyData
  | .int a, .int b => guard (decide (0 < b ∧ b < 1073741824)) (.ok (.int (a / b)))
  | _, _ => .no
def modD : PyData → PyData → R PyData
  | .int a, .int b => guard (decide (0 < b)) (.ok (.int (a % b)))
  | _, _ => .no
def powD : PyData → PyData → R PyData
  | .int a, .int b => guard (decide (0 ≤ b ∧ b ≤ 1000000 ∧ a.natAbs < 2 ^ 64)) (.ok (.int (a ^ b.toNat)))
  | _, _ => .no
def ltD : PyData → PyData → R PyData
  | .int a, .int b => .ok (.bool (decide (a < b)))
  | _, _ => .no
def leD : PyData → PyData → R PyData
  | .int a, .int b => .ok (.bool (decide (a ≤ b)))
  | _, _ => .no
def gtD : PyData → PyData → R PyData
  | .int a, .int b => .ok (.bool (decide (b < a)))
  | _, _ => .no
def geD : PyData → PyData → R PyData
  | .int a, .int b => .ok (.bool (decide (b ≤ a)))
  | _, _ => .no
def eqD (a b : PyData) : R PyData := guard (SeqAt.shaped a && SeqAt.shaped b && flatD a && flatD b) (.ok (.bool (PyData.eqv a b)))
def neD (a b : PyData) : R PyData := guard (SeqAt.shaped a && SeqAt.shaped b && flatD a && flatD b) (.ok (.bool (!PyData.eqv a b)))
def leafD : PyData → Bool
  | .int _ => true
  | .bool _ => true
  | .none => true
  | .str _ => true
  | _ => false
/-- x in xs: flat things, or a list of any data -/
def hasD (x : PyData) : PyData → R Bool
  | .list ys => guard (SeqAt.shaped x && SeqAt.shaped (.list ys) && flatD x && flatD (.list ys)) (.ok (ys.any fun y => PyData.eqv y x))
  | .tuple ys => guard (leafD x && ys.all leafD) (.ok (ys.any fun y => PyData.eqv y x))
  | _ => .no
def inD (x y : PyData) : R PyData := (hasD x y).bind fun b => .ok (.bool b)
def ninD (x y : PyData) : R PyData := (hasD x y).bind fun b => .ok (.bool (!b))
def isND (x y : PyData) : R PyData := match y with
  | .none => .ok (.bool (match x with | .none => true | _ => false))
  | _ => .no
def isnND (x y : PyData) : R PyData := match y with
  | .none => .ok (.bool (match x with | .none => false | _ => true))
  | _ => .no
theorem guard_ne {α : Type} {c : Bool} {r : R α} (h : ∀ e, r ≠ .ex e) : ∀ e, guard c r ≠ .ex e := fun e z => by
  unfold guard at z
  split at z
  · exact h e z
  · cases z
theorem ok_ne {α : Type} {a : α} : ∀ e, R.ok a ≠ .ex e := fun _ z => nomatch z
theorem ne_add : NoEx2 addD := by
  intro x y e z
  cases x <;> cases y <;> first | (cases z; done) | exact guard_ne ok_ne e z
theorem ne_sub : NoEx2 subD := by
  intro x y e z
  cases x <;> cases y <;> first | (cases z; done) | exact guard_ne ok_ne e z
theorem ne_mul : NoEx2 mulD := by
  intro x y e z
  cases x <;> cases y <;> first | (cases z; done) | exact guard_ne ok_ne e z
theorem ne_fdiv : NoEx2 fdivD := by
  intro x y e z
  cases x <;> cases y <;> first | (cases z; done) | exact guard_ne ok_ne e z
theorem ne_mod : NoEx2 modD := by
  intro x y e z
  cases x <;> cases y <;> first | (cases z; done) | exact guard_ne ok_ne e z
theorem ne_pow : NoEx2 powD := by
  intro x y e z
  cases x <;> cases y <;> first | (cases z; done) | exact guard_ne ok_ne e z
theorem ne_lt : NoEx2 ltD := by
  intro x y e z
  cases x <;> cases y <;> first | (cases z; done) | exact guard_ne ok_ne e z
theorem ne_le : NoEx2 leD := by
  intro x y e z
  cases x <;> cases y <;> first | (cases z; done) | exact guard_ne ok_ne e z
theorem ne_gt : NoEx2 gtD := by
  intro x y e z
  cases x <;> cases y <;> first | (cases z; done) | exact guard_ne ok_ne e z
theorem ne_ge : NoEx2 geD := by
  intro x y e z
  cases x <;> cases y <;> first | (cases z; done) | exact guard_ne ok_ne e z
theorem ne_eq : NoEx2 eqD := fun _ _ => guard_ne ok_ne
theorem ne_ne : NoEx2 neD := fun _ _ => guard_ne ok_ne
theorem ne_has (x y : PyData) : ∀ e, hasD x y ≠ .ex e := fun e z => by
  cases y <;> first | (cases z; done) | exact guard_ne ok_ne e z
theorem ne_in : NoEx2 inD := fun x y e z => by
  unfold inD at z
  cases h : hasD x y with
  | ok b => rw [h] at z; cases z
  | ex e' => exact ne_has x y e' h
  | no => rw [h] at z; cases z
theorem ne_nin : NoEx2 ninD := fun x y e z => by
  unfold ninD at z
  cases h : hasD x y with
  | ok b => rw [h] at z; cases z
  | ex e' => exact ne_has x y e' h
  | no => rw [h] at z; cases z
theorem ne_isN : NoEx2 isND := by
  intro x y e z
  cases x <;> cases y <;> first | (cases z; done) | exact guard_ne ok_ne e z
theorem ne_isnN : NoEx2 isnND := by
  intro x y e z
  cases x <;> cases y <;> first | (cases z; done) | exact guard_ne ok_ne e z

section
variable {X : Cx}
/-- a new tuple, a new list -/
theorem mk_tup {K : PySem.W.Frag} {G H : Hp} {xs : List V} {ds : List PyData} {Q : VK} (s : Same G H) (r : RpAll K G xs ds) (h : ∀ v H' G', Gr G H G' H' → Rp K G' v (.tuple ds) → Q v H') : NewT xs H Q := fun p o n d =>
  h _ _ _ (Gr.new s n) (.tup upd_same d (RpAll.mono (same_upd (s.free n)) r))
theorem mk_lst {K : PySem.W.Frag} {G H : Hp} {xs : List V} {ds : List PyData} {Q : VK} (s : Same G H) (r : RpAll K G xs ds) (h : ∀ v H' G', Gr G H G' H' → Rp K G' v (.list ds) → Q v H') : ∀ p, H p = none → Q (.ref p) (upd H p (.lst xs)) := fun p n =>
  h _ _ _ (Gr.new s n) (.lst upd_same (RpAll.mono (same_upd (s.free n)) r))
theorem rD_ints {op : PyData → PyData → R PyData} {C : Int → Int → Prop} {g : Int → Int → V} (h : ∀ (K : PySem.W.Frag) (x y : PyData) (P : PyData → Prop) (E : Exn → Prop), (op x y).holds P E → ∃ i j d, x = .int i ∧ y = .int j ∧ C i j ∧ (∀ K G, Rp K G (g i j) d) ∧ P d) :
    ∀ x y H Q, rD X.K op x y H Q → rI C g x y H Q := fun x y H Q ⟨G, dx, dy, s, rx, ry, q⟩ => by
  obtain ⟨i, j, d, rfl, rfl, hc, r, p⟩ := h X.K dx dy _ _ q
  exact ⟨i, j, rx.int_inv, ry.int_inv, hc, p _ _ _ (Gr.refl s) (r _ _)⟩
theorem rD_ints0 {op : PyData → PyData → R PyData} {g : Int → Int → V} (h : ∀ (K : PySem.W.Frag) (x y : PyData) (P : PyData → Prop) (E : Exn → Prop), (op x y).holds P E → ∃ i j d, x = .int i ∧ y = .int j ∧ (∀ K G, Rp K G (g i j) d) ∧ P d) :
    ∀ x y H Q, rD X.K op x y H Q → rI0 g x y H Q := fun x y H Q ⟨G, dx, dy, s, rx, ry, q⟩ => by
  obtain ⟨i, j, d, rfl, rfl, r, p⟩ := h X.K dx dy _ _ q
  exact ⟨i, j, rx.int_inv, ry.int_inv, p _ _ _ (Gr.refl s) (r _ _)⟩
theorem do_sub : OpR X (binaryOp .Sub) (rD X.K subD) := opr_imp op_sub fun _ _ _ _ _ _ _ _ h => rD_ints0 (fun _ x y P E q => by
  cases x <;> cases y <;> first | exact q.elim | exact ⟨_, _, _, rfl, rfl, fun _ _ => .int _, q⟩) _ _ _ _ h
theorem do_lt : OpR X (compareOp .Lt) (rD X.K ltD) := opr_imp op_lt fun _ _ _ _ _ _ _ _ h => rD_ints0 (fun _ x y P E q => by
  cases x <;> cases y <;> first | exact q.elim | exact ⟨_, _, _, rfl, rfl, fun _ _ => .bl _, q⟩) _ _ _ _ h
theorem do_le : OpR X (compareOp .LtE) (rD X.K leD) := opr_imp op_le fun _ _ _ _ _ _ _ _ h => rD_ints0 (fun _ x y P E q => by
  cases x <;> cases y <;> first | exact q.elim | exact ⟨_, _, _, rfl, rfl, fun _ _ => .bl _, q⟩) _ _ _ _ h
theorem do_gt : OpR X (compareOp .Gt) (rD X.K gtD) := opr_imp op_gt fun _ _ _ _ _ _ _ _ h => rD_ints0 (fun _ x y P E q => by
  cases x <;> cases y <;> first | exact q.elim | exact ⟨_, _, _, rfl, rfl, fun _ _ => .bl _, q⟩) _ _ _ _ h
theorem do_ge : OpR X (compareOp .GtE) (rD X.K geD) := opr_imp op_ge fun _ _ _ _ _ _ _ _ h => rD_ints0 (fun _ x y P E q => by
  cases x <;> cases y <;> first | exact q.elim | exact ⟨_, _, _, rfl, rfl, fun _ _ => .bl _, q⟩) _ _ _ _ h
theorem do_mod : OpR X (binaryOp .Mod) (rD X.K modD) := opr_imp op_mod fun _ _ _ _ _ _ _ _ h => rD_ints (fun _ x y P E q => by
  cases x <;> cases y <;> first | exact q.elim | (obtain ⟨c, q⟩ := guard_holds q; exact ⟨_, _, _, rfl, rfl, of_decide_eq_true c, fun _ _ => .int _, q⟩)) _ _ _ _ h
theorem do_eq (hu : X.A.units + 64 < cLine) : OpR X (compareOp .Eq) (rD X.K eqD) := opr_imp (op_eqD hu) fun _ _ _ _ _ _ _ _ ⟨G, dx, dy, s, rx, ry, q⟩ => by
  obtain ⟨c, q⟩ := guard_holds q
  simp only [Bool.and_eq_true] at c
  obtain ⟨⟨⟨c1, c2⟩, c3⟩, c4⟩ := c
  exact ⟨dx, dy, (rx.mono s).dp c3, (ry.mono s).dp c4, c1, c2, q _ _ _ (Gr.refl s) (.bl _)⟩
theorem do_ne (hu : X.A.units + 64 < cLine) : OpR X (compareOp .NotEq) (rD X.K neD) := opr_imp (op_neD hu) fun _ _ _ _ _ _ _ _ ⟨G, dx, dy, s, rx, ry, q⟩ => by
  obtain ⟨c, q⟩ := guard_holds q
  simp only [Bool.and_eq_true] at c
  obtain ⟨⟨⟨c1, c2⟩, c3⟩, c4⟩ := c
  exact ⟨dx, dy, (rx.mono s).dp c3, (ry.mono s).dp c4, c1, c2, q _ _ _ (Gr.refl s) (.bl _)⟩
theorem dec_CDiv (i j : Int) (h : decide (0 < j ∧ j < 1073741824) = true) : CDiv i j := (of_decide_eq_true h : 0 < j ∧ j < 1073741824)
theorem dec_CPow (i j : Int) (h : decide (0 ≤ j ∧ j ≤ 1000000 ∧ i.natAbs < 2 ^ 64) = true) : CPow i j := (of_decide_eq_true h : 0 ≤ j ∧ j ≤ 1000000 ∧ i.natAbs < 2 ^ 64)
theorem do_fdiv : OpR X (binaryOp .FloorDiv) (rD X.K fdivD) := opr_imp op_fdiv fun _ _ _ _ _ _ _ _ h => rD_ints (fun _ x y P E q => by
  cases x <;> cases y <;> first | exact q.elim | (obtain ⟨c, q⟩ := guard_holds q; exact ⟨_, _, _, rfl, rfl, dec_CDiv _ _ c, fun _ _ => .int _, q⟩)) _ _ _ _ h
theorem do_pow : OpR X (binaryOp .Pow) (rD X.K powD) := opr_imp op_pow fun _ _ _ _ _ _ _ _ h => rD_ints (fun _ x y P E q => by
  cases x <;> cases y <;> first | exact q.elim | (obtain ⟨c, q⟩ := guard_holds q; exact ⟨_, _, _, rfl, rfl, dec_CPow _ _ c, fun _ _ => .int _, q⟩)) _ _ _ _ h
theorem do_isN : OpR X (compareOp .Is) (rD X.K isND) := opr_imp op_isN fun _ _ _ _ _ _ _ _ ⟨G, dx, dy, s, rx, ry, q⟩ => by
  cases dy <;> first | exact q.elim | skip
  refine ⟨ry.none_inv, q _ _ _ (Gr.refl s) ?_⟩
  cases rx <;> exact .bl _
theorem do_isnN : OpR X (compareOp .IsNot) (rD X.K isnND) := opr_imp op_notN fun _ _ _ _ _ _ _ _ ⟨G, dx, dy, s, rx, ry, q⟩ => by
  cases dy <;> first | exact q.elim | skip
  refine ⟨ry.none_inv, q _ _ _ (Gr.refl s) ?_⟩
  cases rx <;> exact .bl _
theorem do_add : OpR X (binaryOp .Add) (rD X.K addD) := opr_imp (op_add.or (op_catS.or (op_cat.or op_add_str))) fun _ _ _ _ _ _ _ I ⟨G, dx, dy, s, rx, ry, q⟩ => by
  cases dx <;> cases dy <;> first | exact q.elim | skip
  · exact .inl ⟨_, _, rx.int_inv, ry.int_inv, q _ _ _ (Gr.refl s) (.int _)⟩
  · obtain ⟨c, q⟩ := guard_holds q
    exact .inr (.inr (.inr ⟨_, _, rx.str_inv, ry.str_inv, lim_line (of_decide_eq_true c), q _ _ _ (Gr.refl s) (.str _)⟩))
  · obtain ⟨c, q⟩ := guard_holds q
    have c := of_decide_eq_true c
    obtain ⟨p, xs, rfl, hx, ax⟩ := rx.list_inv
    obtain ⟨p', ys, rfl, hy, ay⟩ := ry.list_inv
    rw [← ax.length, ← ay.length] at c
    exact .inr (.inr (.inl ⟨_, _, _, _, rfl, rfl, s _ _ hx, s _ _ hy, lim_line c, mk_lst s (ax.append ay) q⟩))
  · obtain ⟨c, q⟩ := guard_holds q
    have c := of_decide_eq_true c
    obtain ⟨p, o, xs, rfl, hx, hd, ax⟩ := rx.tuple_inv
    obtain ⟨p', o', ys, rfl, hy, hd', ay⟩ := ry.tuple_inv
    rw [← ax.length, ← ay.length] at c
    refine .inr (.inl ⟨_, _, _, _, rfl, rfl, sqt (s _ _ hx), sqt (s _ _ hy), lim_line c, ?_⟩)
    refine ⟨fun hx => ?_, fun hx hy => ?_, fun hx hy => mk_tup s (ax.append ay) q⟩
    · subst hx
      cases ax
      exact q _ _ _ (Gr.refl s) ry
    · subst hy
      cases ay
      rw [List.append_nil] at q
      exact q _ _ _ (Gr.refl s) rx
theorem flat_rep (xs : List V) : (List.replicate 1 xs).flatten = xs := by simp
theorem op_mul_str : OpR X (binaryOp .Mult) (fun x y H Q => ∃ i k, x = .str i ∧ y = .int k ∧ 0 ≤ k ∧ k ≤ 1000 ∧ i.length ≤ 1000 ∧ Q (.str (Txt.mul i k)) H) := by
  intro pins s σ H x y v u Q I rx ry h
  obtain ⟨i, k, rfl, rfl, h1, h2, h3, q⟩ := h
  obtain ⟨t, rfl⟩ := rx
  obtain ⟨t', rfl⟩ := ry
  exact SB.mul (mulOk_of 1000 1000 h3 (by omega) (by omega) (by decide) (by decide)) (fun t' tk => ⟨.str (Txt.mul i k), H, I.tok _, ⟨_, rfl⟩, q⟩)
theorem do_mul : OpR X (binaryOp .Mult) (rD X.K mulD) := opr_imp (op_mul.or (op_repA.or (op_rep.or op_mul_str))) fun _ _ _ _ _ _ _ I ⟨G, dx, dy, s, rx, ry, q⟩ => by
  cases dx <;> cases dy <;> first | exact q.elim | skip
  · obtain ⟨c, q⟩ := guard_holds q
    unfold mulOk at c
    simp only [Bool.or_eq_true, decide_eq_true_eq] at c
    exact .inl ⟨_, _, rx.int_inv, ry.int_inv, c, q _ _ _ (Gr.refl s) (.int _)⟩
  · obtain ⟨c, q⟩ := guard_holds q
    obtain ⟨c1, c2, c3⟩ := of_decide_eq_true c
    exact .inr (.inr (.inr ⟨_, _, rx.str_inv, ry.int_inv, c1, c2, c3, q _ _ _ (Gr.refl s) (.str _)⟩))
  · obtain ⟨c, q⟩ := guard_holds q
    obtain ⟨c1, c2, c3⟩ := of_decide_eq_true c
    obtain ⟨p, xs, rfl, hx, ax⟩ := rx.list_inv
    rw [← ax.length] at c3
    refine .inr (.inr (.inl ⟨_, _, _, rfl, ry.int_inv, s _ _ hx, by omega, by omega, ?_, mk_lst s (ax.rep _) q⟩))
    rw [sizeLine_eq]
    exact Nat.le_trans (Nat.mul_le_mul c3 (show Int.toNat _ ≤ 1000 from Int.toNat_le.mpr c2)) (by decide)
  · obtain ⟨c, q⟩ := guard_holds q
    obtain ⟨c1, c2, c3⟩ := of_decide_eq_true c
    obtain ⟨p, o, xs, rfl, hx, hd, ax⟩ := rx.tuple_inv
    rw [← ax.length] at c3
    refine .inr (.inl ⟨_, _, _, rfl, ry.int_inv, sqt (s _ _ hx), by omega, c2, c3, fun z => ?_, fun _ => mk_tup s (ax.rep _) q⟩)
    rcases z with z | z
    · subst z
      cases ax
      simp only [List.flatten_replicate_nil] at q
      exact q _ _ _ (Gr.refl s) rx
    · subst z
      simp only [show (1 : Int).toNat = 1 from rfl, List.replicate_one, List.flatten_cons, List.flatten_nil, List.append_nil] at q
      exact q _ _ _ (Gr.refl s) rx
theorem leaf_V {K : PySem.W.Frag} {G : Hp} {v : V} {d : PyData} (h : leafD d = true) (r : Rp K G v d) : flatV v = true := by
  cases r <;> first | rfl | cases h
theorem eqv_V {K : PySem.W.Frag} {G : Hp} {v u : V} {d e : PyData} (h : leafD d = true) (h' : leafD e = true) (r : Rp K G v d) (r' : Rp K G u e) : eqV v u = PyData.eqv d e := by
  cases r <;> cases r' <;> first | rfl | cases h | cases h' | skip
  all_goals (unfold eqV PyData.eqv; try rfl)
theorem in_leaf {K : PySem.W.Frag} {G : Hp} {v : V} {d : PyData} (h : leafD d = true) (r : Rp K G v d) : ∀ {xs : List V} {ds : List PyData}, RpAll K G xs ds → ds.all leafD = true → xs.all flatV = true ∧ inV v xs = ds.any fun y => PyData.eqv y d
  | _, _, .nil, _ => ⟨rfl, rfl⟩
  | _, _, .cons r' t, h' => by
    simp only [List.all_cons, Bool.and_eq_true] at h'
    obtain ⟨i1, i2⟩ := in_leaf h r t h'.2
    refine ⟨by simp only [List.all_cons, Bool.and_eq_true]; exact ⟨leaf_V h'.1 r', i1⟩, ?_⟩
    unfold inV at i2 ⊢
    simp only [List.any_cons]
    rw [i2, eqv_V h'.1 h r' r]
theorem do_in (hu : X.A.units + 65 < cLine) : OpR X (compareOp .In) (rD X.K inD) := opr_imp ((op_inD hu).or op_in_seq) fun _ _ _ _ _ _ _ I ⟨G, dx, dy, s, rx, ry, q⟩ => by
  replace q := R.holds_bind.mp q
  cases dy <;> first | exact q.elim | skip
  · obtain ⟨c, q⟩ := guard_holds q
    simp only [Bool.and_eq_true] at c
    obtain ⟨⟨⟨c1, c2⟩, c3⟩, c4⟩ := c
    exact .inl ⟨_, _, (rx.mono s).dp c3, (ry.mono s).dp c4, c1, c2, q _ _ _ (Gr.refl s) (.bl _)⟩
  · obtain ⟨c, q⟩ := guard_holds q
    simp only [Bool.and_eq_true] at c
    obtain ⟨p, o, xs, rfl, hx, hd, ax⟩ := ry.tuple_inv
    obtain ⟨i1, i2⟩ := in_leaf c.1 rx ax c.2
    refine .inr ⟨p, xs, rfl, .inr (sqt (s _ _ hx)), leaf_V c.1 rx, i1, ?_⟩
    rw [if_neg Bool.false_ne_true, i2]
    exact q _ _ _ (Gr.refl s) (.bl _)
theorem do_nin (hu : X.A.units + 65 < cLine) : OpR X (compareOp .NotIn) (rD X.K ninD) := opr_imp ((op_notInD hu).or op_notIn_seq) fun _ _ _ _ _ _ _ I ⟨G, dx, dy, s, rx, ry, q⟩ => by
  replace q := R.holds_bind.mp q
  cases dy <;> first | exact q.elim | skip
  · obtain ⟨c, q⟩ := guard_holds q
    simp only [Bool.and_eq_true] at c
    obtain ⟨⟨⟨c1, c2⟩, c3⟩, c4⟩ := c
    exact .inl ⟨_, _, (rx.mono s).dp c3, (ry.mono s).dp c4, c1, c2, q _ _ _ (Gr.refl s) (.bl _)⟩
  · obtain ⟨c, q⟩ := guard_holds q
    simp only [Bool.and_eq_true] at c
    obtain ⟨p, o, xs, rfl, hx, hd, ax⟩ := ry.tuple_inv
    obtain ⟨i1, i2⟩ := in_leaf c.1 rx ax c.2
    refine .inr ⟨p, xs, rfl, .inr (sqt (s _ _ hx)), leaf_V c.1 rx, i1, ?_⟩
    rw [if_pos rfl, i2]
    exact q _ _ _ (Gr.refl s) (.bl _)
end
end L2.PD

set_option Elab.async false
set_option linter.all false
set_option autoImplicit false
set_option maxRecDepth 100000
/-! PD2: tests, displays, calls, subscripts, slices, built-ins, by data. -/
namespace L2.PD
open PySem PySem.Spec PyProof.Rows L2

/-! ### tests -/
def truD : PyData → R Bool
  | .none => .ok false
  | .bool b => .ok b
  | .int i => .ok (i != 0)
  | .str x => guard (decide (x.length ≤ LIM)) (.ok ((x.length : Int) != 0))
  | .list xs => .ok (!xs.isEmpty)
  | .tuple xs => .ok (!xs.isEmpty)
  | .dict _ => .no
def fTru (f : Rho → R PyData) : Rho → R Bool := fun ρ => (f ρ).bind truD
def fAnd (f g : Rho → R Bool) : Rho → R Bool := fun ρ => (f ρ).bind fun c => if c = true then g ρ else .ok false
def fOr (f g : Rho → R Bool) : Rho → R Bool := fun ρ => (f ρ).bind fun c => if c = true then .ok true else g ρ
def fNot (f : Rho → R Bool) : Rho → R Bool := fun ρ => (f ρ).bind fun c => .ok (!c)
def fAndV (f g : Rho → R PyData) : Rho → R PyData := fun ρ => (f ρ).bind fun x => (boolOf x).bind fun c => if c = true then g ρ else .ok (.bool false)
def fOrV (f g : Rho → R PyData) : Rho → R PyData := fun ρ => (f ρ).bind fun x => (boolOf x).bind fun c => if c = true then .ok (.bool true) else g ρ
def fNotV (f : Rho → R PyData) : Rho → R PyData := fun ρ => (f ρ).bind fun x => (boolOf x).bind fun c => .ok (.bool (!c))
def fIf (c : Rho → R Bool) (f g : Rho → R PyData) : Rho → R PyData := fun ρ => (c ρ).bind fun b => if b = true then f ρ else g ρ
def fChain (o o' : PyData → PyData → R PyData) (fa fb fc : Rho → R PyData) : Rho → R PyData := fun ρ => (fa ρ).bind fun x => (fb ρ).bind fun y => (o x y).bind fun z => (boolOf z).bind fun k => if k = true then (fc ρ).bind fun w => o' y w else .ok (.bool false)
section
variable {X : Cx} {E : XK} {a b c : Expr} {fa fb fc : Rho → R PyData} {ta tb : Rho → R Bool} {pos : Pos} {rest : List Expr}
theorem isEmpty_len {α β : Type} {xs : List α} {ys : List β} (h : xs.length = ys.length) : xs.isEmpty = ys.isEmpty := by
  cases xs <;> cases ys <;> first | rfl | (simp at h)
theorem tru_rp {G H : Hp} {v : V} {d : PyData} {P : Bool → Prop} {E' : Exn → Prop} (s : Same G H) (r : Rp X.K G v d) (h : (truD d).holds P E') : ∃ k, TruV X.K v H k ∧ P k := by
  cases r with
  | non => exact ⟨_, rfl, h⟩
  | bl b => exact ⟨_, rfl, h⟩
  | int i => exact ⟨_, rfl, h⟩
  | str x =>
    obtain ⟨c, h⟩ := guard_holds h
    exact ⟨_, ⟨lim_line (of_decide_eq_true c), rfl⟩, h⟩
  | lst q w => exact ⟨_, .inl ⟨_, .inl (Same.rd s q), by rw [isEmpty_len w.length]⟩, h⟩
  | tup q _ w => exact ⟨_, .inr (.inl ⟨_, sqt (s _ _ q), by rw [isEmpty_len w.length]⟩), h⟩
  | dct q w => exact h.elim
  | scr q => exact h.elim
theorem dt_truth (ha : PE X a (tP X.K X.mg E fa)) (he : ∀ whole, isTrue a X.env whole = (do let v ← whole; standAt a.pos; holding [v] (truthy v)) := by intro _; rfl) : PT X a (tT X.K X.mg E (fTru fa)) :=
  pt_imp (pt_truth ha he) fun _ _ σ H Q _ ⟨B, ρ, G, e, h⟩ => tP_bind e h fun d v H1 G1 g1 r1 e1 h1 => by
    obtain ⟨k, h2, h3⟩ := tru_rp e1.sub r1 h1
    exact ⟨k, h2, h3 H1 G1 g1⟩
theorem dw_and1 (ha : PT X a (tT X.K X.mg E ta)) : PW X (.BoolOp .And [a] pos) (tT X.K X.mg E ta) := pw_and1 ha
theorem dw_or1 (ha : PT X a (tT X.K X.mg E ta)) : PW X (.BoolOp .Or [a] pos) (tT X.K X.mg E ta) := pw_or1 ha
theorem dw_and (ha : PT X a (tT X.K X.mg E ta)) (hb : PW X (.BoolOp .And (b :: rest) pos) (tT X.K X.mg E tb)) : PW X (.BoolOp .And (a :: b :: rest) pos) (tT X.K X.mg E (fAnd ta tb)) :=
  pw_imp (pw_and ha hb) fun _ _ σ H Q _ ⟨B, ρ, G, e, h⟩ => tT_bind e h fun k H1 G1 g1 e1 h1 => by
    cases k with
    | true => exact ⟨B, ρ, G1, e1, R.holds.mono h1 (fun b hb H' G' g => hb H' G' (g1.trans g)) fun _ z => z⟩
    | false => exact h1 H1 G1 g1
theorem dw_or (ha : PT X a (tT X.K X.mg E ta)) (hb : PW X (.BoolOp .Or (b :: rest) pos) (tT X.K X.mg E tb)) : PW X (.BoolOp .Or (a :: b :: rest) pos) (tT X.K X.mg E (fOr ta tb)) :=
  pw_imp (pw_or ha hb) fun _ _ σ H Q _ ⟨B, ρ, G, e, h⟩ => tT_bind e h fun k H1 G1 g1 e1 h1 => by
    cases k with
    | false => exact ⟨B, ρ, G1, e1, R.holds.mono h1 (fun b hb H' G' g => hb H' G' (g1.trans g)) fun _ z => z⟩
    | true => exact h1 H1 G1 g1
theorem dt_not (ha : PT X a (tT X.K X.mg E ta)) : PT X (.UnaryOp .Not a pos) (tT X.K X.mg E (fNot ta)) :=
  pt_imp (pt_not ha) fun _ _ σ H Q _ ⟨B, ρ, G, e, h⟩ => tT_bind e h fun k H1 G1 g1 e1 h1 => h1 H1 G1 g1
theorem de_one {op} (ha : PE X a (tP X.K X.mg E fa)) : PE X (.BoolOp op [a] pos) (tP X.K X.mg E fa) := pe_one ha
theorem de_and (ha : PE X a (tP X.K X.mg E fa)) (hb : PE X (.BoolOp .And (b :: rest) pos) (tP X.K X.mg E fb)) : PE X (.BoolOp .And (a :: b :: rest) pos) (tP X.K X.mg E (fAndV fa fb)) :=
  pe_imp (pe_and ha hb) fun _ _ σ H Q _ ⟨B, ρ, G, e, h⟩ => tP_bind e h fun d v H1 G1 g1 r1 e1 h1 => by
    cases d <;> first | exact h1.elim | skip
    rename_i k
    refine ⟨k, r1.bool_inv, ?_⟩
    cases k with
    | true => exact ⟨B, ρ, G1, e1, R.holds.mono h1 (fun b hb v H' G' g => hb v H' G' (g1.trans g)) fun _ z => z⟩
    | false => exact h1 _ H1 G1 g1 (.bl _)
theorem de_or (ha : PE X a (tP X.K X.mg E fa)) (hb : PE X (.BoolOp .Or (b :: rest) pos) (tP X.K X.mg E fb)) : PE X (.BoolOp .Or (a :: b :: rest) pos) (tP X.K X.mg E (fOrV fa fb)) :=
  pe_imp (pe_or ha hb) fun _ _ σ H Q _ ⟨B, ρ, G, e, h⟩ => tP_bind e h fun d v H1 G1 g1 r1 e1 h1 => by
    cases d <;> first | exact h1.elim | skip
    rename_i k
    refine ⟨k, r1.bool_inv, ?_⟩
    cases k with
    | false => exact ⟨B, ρ, G1, e1, R.holds.mono h1 (fun b hb v H' G' g => hb v H' G' (g1.trans g)) fun _ z => z⟩
    | true => exact h1 _ H1 G1 g1 (.bl _)
theorem de_not (ha : PE X a (tP X.K X.mg E fa)) : PE X (.UnaryOp .Not a pos) (tP X.K X.mg E (fNotV fa)) :=
  pe_imp (pe_not ha) fun _ _ σ H Q _ ⟨B, ρ, G, e, h⟩ => tP_bind e h fun d v H1 G1 g1 r1 e1 h1 => by
    cases d <;> first | exact h1.elim | skip
    exact ⟨_, r1.bool_inv, h1 _ H1 G1 g1 (.bl _)⟩
theorem de_if (hc : PT X c (tT X.K X.mg E ta)) (ha : PE X a (tP X.K X.mg E fa)) (hb : PE X b (tP X.K X.mg E fb)) : PE X (.IfExp c a b pos) (tP X.K X.mg E (fIf ta fa fb)) :=
  pe_imp (pe_ifExp hc ha hb) fun _ _ σ H Q _ ⟨B, ρ, G, e, h⟩ => tT_bind e h fun k H1 G1 g1 e1 h1 => by
    cases k with
    | true => exact ⟨B, ρ, G1, e1, R.holds.mono h1 (fun b hb v H' G' g => hb v H' G' (g1.trans g)) fun _ z => z⟩
    | false => exact ⟨B, ρ, G1, e1, R.holds.mono h1 (fun b hb v H' G' g => hb v H' G' (g1.trans g)) fun _ z => z⟩
theorem tChain_of {o o' : PyData → PyData → R PyData} (n : NoEx2 o) (n' : NoEx2 o') {σ : St} {H : Hp} {Q : VK} (h : tP X.K X.mg E (fChain o o' fa fb fc) σ H Q) :
    tChain (rD X.K o) (rD X.K o') (tP X.K X.mg E fa) (tP X.K X.mg E fb) (tP X.K X.mg E fc) σ H Q := by
  obtain ⟨B, ρ, G, e, h⟩ := h
  refine tP_bind e h fun d v H1 G1 g1 r1 e1 h1 => tP_bind e1 h1 fun d2 v2 H2 G2 g2 r2 e2 h2 => ⟨G2, d, d2, e2.sub, r1.mono g2.g, r2, ?_⟩
  refine noex_holds (n d d2) (R.holds.mono (R.holds_bind.mp h2) (E' := XW X.K X.mg E B) (fun d3 h3 v3 H3 G3 g3 r3 => ?_) fun _ z => z)
  cases d3 <;> first | exact h3.elim | skip
  rename_i k
  refine ⟨k, r3.bool_inv, ?_⟩
  cases k with
  | false => exact h3 _ H3 G3 (g1.trans (g2.trans g3)) (.bl _)
  | true =>
    refine tP_bind (e2.step g3) h3 fun d4 v4 H4 G4 g4 r4 e4 h4 => ⟨G4, d2, d4, e4.sub, (r2.mono g3.g).mono g4.g, r4, ?_⟩
    exact noex_holds (n' d2 d4) (R.holds.mono h4 (E' := XW X.K X.mg E B) (fun d5 h5 v5 H5 G5 g5 r5 => h5 v5 H5 G5 (g1.trans (g2.trans (g3.trans (g4.trans g5)))) r5) fun _ z => z)
theorem de_chain {op op' : CmpOp} {o o' : PyData → PyData → R PyData} (n : NoEx2 o) (n' : NoEx2 o') (ho : OpR X (compareOp op) (rD X.K o)) (ho' : OpR X (compareOp op') (rD X.K o'))
    (ha : PE X a (tP X.K X.mg E fa)) (hb : PE X b (tP X.K X.mg E fb)) (hc : PE X c (tP X.K X.mg E fc)) (hm : lastMarks [op, op'] [b, c] = false := by with_unfolding_all rfl) :
    PE X (.Compare a [op, op'] [b, c] pos) (tP X.K X.mg E (fChain o o' fa fb fc)) := pe_imp (pe_chain ho ho' ha hb hc hm) fun _ _ _ _ _ _ h => tChain_of n n' h
theorem dt_chain {op op' : CmpOp} {o o' : PyData → PyData → R PyData} (n : NoEx2 o) (n' : NoEx2 o') (ho : OpR X (compareOp op) (rD X.K o)) (ho' : OpR X (compareOp op') (rD X.K o'))
    (ha : PE X a (tP X.K X.mg E fa)) (hb : PE X b (tP X.K X.mg E fb)) (hc : PE X c (tP X.K X.mg E fc)) (hm : lastMarks [op, op'] [b, c] = false := by with_unfolding_all rfl) :
    PT X (.Compare a [op, op'] [b, c] pos) (tT X.K X.mg E (fB (fChain o o' fa fb fc))) := pt_imp (pt_chain ho ho' ha hb hc hm) fun _ _ _ _ _ _ h => tTest_of (fun Q' z => tChain_of n n' z) h
end

/-! ### -n; is of bools -/
def negD : PyData → R PyData
  | .int i => .ok (.int (-i))
  | _ => .no
def isD (x y : PyData) : R PyData := match y with
  | .none => .ok (.bool (match x with | .none => true | _ => false))
  | .bool b => match x with
    | .bool a => .ok (.bool (decide (a = b)))
    | _ => .no
  | _ => .no
def isnD (x y : PyData) : R PyData := match y with
  | .none => .ok (.bool (match x with | .none => false | _ => true))
  | .bool b => match x with
    | .bool a => .ok (.bool (!decide (a = b)))
    | _ => .no
  | _ => .no
theorem ne_is : NoEx2 isD := fun x y e z => by cases y <;> cases x <;> cases z
theorem ne_isn : NoEx2 isnD := fun x y e z => by cases y <;> cases x <;> cases z
section
variable {X : Cx} {E : XK} {a : Expr} {fa : Rho → R PyData} {pos : Pos}
theorem de_neg (ha : PE X a (tP X.K X.mg E fa)) : PE X (.UnaryOp .USub a pos) (tP X.K X.mg E (f1 negD fa)) :=
  pe_imp (pe_un un_neg ha) fun _ _ σ H Q _ ⟨B, ρ, G, e, h⟩ => tP_bind e h fun d v H1 G1 g1 r1 e1 h1 => by
    cases d <;> first | exact h1.elim | exact ⟨_, r1.int_inv, h1 _ H1 G1 g1 (.int _)⟩
theorem do_is : OpR X (compareOp .Is) (rD X.K isD) := opr_imp (op_isN.or op_isBl) fun _ _ _ _ _ _ _ _ ⟨G, dx, dy, s, rx, ry, q⟩ => by
  cases dy <;> first | exact q.elim | skip
  · refine .inl ⟨ry.none_inv, q _ _ _ (Gr.refl s) ?_⟩
    cases rx <;> exact .bl _
  · cases dx <;> first | exact q.elim | exact .inr ⟨_, _, rx.bool_inv, ry.bool_inv, q _ _ _ (Gr.refl s) (.bl _)⟩
theorem do_isn : OpR X (compareOp .IsNot) (rD X.K isnD) := opr_imp (op_notN.or op_notBl) fun _ _ _ _ _ _ _ _ ⟨G, dx, dy, s, rx, ry, q⟩ => by
  cases dy <;> first | exact q.elim | skip
  · refine .inl ⟨ry.none_inv, q _ _ _ (Gr.refl s) ?_⟩
    cases rx <;> exact .bl _
  · cases dx <;> first | exact q.elim | exact .inr ⟨_, _, rx.bool_inv, ry.bool_inv, q _ _ _ (Gr.refl s) (.bl _)⟩
end

/-! ### arguments, displays -/
def aNil : Rho → R (List PyData) := fun _ => .ok []
def aCons (f : Rho → R PyData) (g : Rho → R (List PyData)) : Rho → R (List PyData) := fun ρ => (f ρ).bind fun d => (g ρ).bind fun ds => .ok (d :: ds)
def fTup (g : Rho → R (List PyData)) : Rho → R PyData := fun ρ => (g ρ).bind fun ds => guard (decide (ds.length ≤ LIM)) (.ok (.tuple ds))
def fLst (g : Rho → R (List PyData)) : Rho → R PyData := fun ρ => (g ρ).bind fun ds => guard (decide (ds.length ≤ LIM)) (.ok (.list ds))
section
variable {X : Cx} {E : XK} {a : Expr} {es : List Expr} {fa : Rho → R PyData} {ga : Rho → R (List PyData)} {pos : Pos}
theorem da_nil : PA X [] (tA X.K X.mg E aNil) := pa_imp pa_nil fun _ _ σ H Q _ ⟨B, ρ, G, e, h⟩ => h [] H G (Gr.refl e.sub) .nil
theorem da_cons (ha : PE X a (tP X.K X.mg E fa)) (hr : PA X es (tA X.K X.mg E ga)) (hs : starEach (a :: es) X.env = (false, eval a X.env) :: starEach es X.env := by rfl) : PA X (a :: es) (tA X.K X.mg E (aCons fa ga)) :=
  pa_imp (pa_cons ha hr hs) fun _ _ σ H Q _ ⟨B, ρ, G, e, h⟩ => tP_bind e h fun d v H1 G1 g1 r1 e1 h1 => tA_bind e1 h1 fun ds vs H2 G2 g2 r2 e2 h2 =>
    h2 _ H2 G2 (g1.trans g2) (.cons (r1.mono g2.g) r2)
theorem de_tup {x1} (h : PA X es (tA X.K X.mg E ga)) : PE X (.Tuple es x1 pos) (tP X.K X.mg E (fTup ga)) :=
  pe_imp (pe_tupS h) fun _ _ σ H Q _ ⟨B, ρ, G, e, h⟩ => tA_bind e h fun ds vs H1 G1 g1 r1 e1 h1 => by
    obtain ⟨c, h1⟩ := guard_holds h1
    have c := of_decide_eq_true c
    rw [← r1.length] at c
    exact ⟨lim_line c, mk_tup e1.sub r1 fun v H' G' g r => h1 v H' G' (g1.trans g) r⟩
theorem de_lst (h : PA X es (tA X.K X.mg E ga)) : PE X (.List es pos) (tP X.K X.mg E (fLst ga)) :=
  pe_imp (pe_lst h) fun _ _ σ H Q _ ⟨B, ρ, G, e, h⟩ => tA_bind e h fun ds vs H1 G1 g1 r1 e1 h1 => by
    obtain ⟨c, h1⟩ := guard_holds h1
    have c := of_decide_eq_true c
    rw [← r1.length] at c
    exact ⟨lim_line c, mk_lst e1.sub r1 fun v H' G' g r => h1 v H' G' (g1.trans g) r⟩
end

/-! ### calls of built-ins, by data -/
def fCall (o : List PyData → R PyData) (g : Rho → R (List PyData)) : Rho → R PyData := fun ρ => (g ρ).bind o
def NoExL (o : List PyData → R PyData) : Prop := ∀ ds e, o ds ≠ .ex e
def rCD (K : PySem.W.Frag) (o : List PyData → R PyData) : List V → Hp → VK → Prop := fun xs H Q => ∃ G ds, Same G H ∧ RpAll K G xs ds ∧ (o ds).holds (fun d => ∀ v H' G', Gr G H G' H' → Rp K G' v d → Q v H') fun _ => False
section
variable {X : Cx} {E : XK} {a e : Expr} {es : List Expr} {fa : Rho → R PyData} {ga : Rho → R (List PyData)} {p pos : Pos} {x : Str} {id T : String} {o : List PyData → R PyData}
theorem tCB_of (n : NoExL o) {σ : St} {H : Hp} {Q : VK} (h : tP X.K X.mg E (fCall o ga) σ H Q) : tCB (rCD X.K o) (tA X.K X.mg E ga) σ H Q := by
  obtain ⟨B, ρ, G, e, h⟩ := h
  refine tA_bind e h fun ds vs H1 G1 g1 r1 e1 h1 => ⟨G1, ds, e1.sub, r1, ?_⟩
  exact noex_holds (n ds) (R.holds.mono h1 (E' := XW X.K X.mg E B) (fun d hd v H' G' g r => hd v H' G' (g1.trans g) r) fun _ z => z)
theorem de_callB (n : NoExL o) (hc : CallR X (.builtin id) (rCD X.K o)) (hg : Gl X x) (hm : X.mg x = none) (hv : bootBuiltins x = some (.builtin id)) (ha : PA X (e :: es) (tA X.K X.mg E ga)) (hn : x ≠ "__name__" := by decide) (hdb : (x == ("__debug__" : Str)) = false := by decide)
    (he : starEach (e :: es) X.env = (false, eval e X.env) :: starEach es X.env := by rfl) (hpl : (backTo pos (starEach es X.env)).any (·.1) = false := by rfl) : PE X (.Call (.Name x p) (e :: es) [] pos) (tP X.K X.mg E (fCall o ga)) :=
  pe_imp (pe_callB hc hg hm hv ha hn hdb he hpl) fun _ _ _ _ _ _ h => tCB_of n h
theorem de_callTy (n : NoExL o) (hc : CallR X (.type T) (rCD X.K o)) (hg : Gl X x) (hm : X.mg x = none) (hv : bootBuiltins x = some (.type T)) (ha : PA X (e :: es) (tA X.K X.mg E ga)) (hn : x ≠ "__name__" := by decide) (hdb : (x == ("__debug__" : Str)) = false := by decide)
    (he : starEach (e :: es) X.env = (false, eval e X.env) :: starEach es X.env := by rfl) (hpl : (backTo pos (starEach es X.env)).any (·.1) = false := by rfl) : PE X (.Call (.Name x p) (e :: es) [] pos) (tP X.K X.mg E (fCall o ga)) :=
  pe_imp (pe_callTy hc hg hm hv ha hn hdb he hpl) fun _ _ _ _ _ _ h => tCB_of n h
end
/-- one argument -/
def one (o : PyData → R PyData) : List PyData → R PyData
  | [d] => o d
  | _ => .no
def NoEx1 (o : PyData → R PyData) : Prop := ∀ d e, o d ≠ .ex e
theorem ne_one {o : PyData → R PyData} (n : NoEx1 o) : NoExL (one o) := fun ds e z => by
  match ds with
  | [] => cases z
  | [d] => exact n d e z
  | _ :: _ :: _ => cases z
theorem one_inv {K : PySem.W.Frag} {G : Hp} {xs : List V} {ds : List PyData} {o : PyData → R PyData} {P : PyData → Prop} {E : Exn → Prop} (r : RpAll K G xs ds) (h : (one o ds).holds P E) : ∃ x d, xs = [x] ∧ ds = [d] ∧ Rp K G x d ∧ (o d).holds P E := by
  match r with
  | .nil => exact h.elim
  | .cons r .nil => exact ⟨_, _, rfl, rfl, r, h⟩
  | .cons r (.cons r' t) => exact h.elim
def intsOf : List PyData → R (List Int)
  | [] => .ok []
  | .int i :: r => (intsOf r).bind fun ns => .ok (i :: ns)
  | _ :: _ => .no
theorem intsOf_inv {K : PySem.W.Frag} {G : Hp} {β : Type} {k : List Int → R β} {P : β → Prop} {E : Exn → Prop} : ∀ {xs : List V} {ds : List PyData}, RpAll K G xs ds → ((intsOf ds).bind k).holds P E → ∃ ns, xs = ns.map V.int ∧ ds = ns.map PyData.int ∧ (k ns).holds P E := by
  intro xs ds r
  induction ds generalizing xs k with
  | nil =>
    intro h
    cases r
    exact ⟨[], rfl, rfl, h⟩
  | cons d ds ih =>
    intro h
    cases r with
    | cons r t =>
      cases d <;> first | exact h.elim | skip
      rename_i i
      unfold intsOf at h
      rw [R.bind_assoc] at h
      obtain ⟨ns, e1, e2, h⟩ := ih t h
      exact ⟨i :: ns, by rw [e1, r.int_inv]; rfl, by rw [e2]; rfl, h⟩
@[simp] theorem intsOf_map : ∀ ns : List Int, intsOf (ns.map PyData.int) = .ok ns
  | [] => rfl
  | n :: r => by
    show (intsOf (r.map PyData.int)).bind _ = _
    rw [intsOf_map r]
    rfl
def lenD : PyData → R PyData
  | .list xs => .ok (.int xs.length)
  | .tuple xs => .ok (.int xs.length)
  | .str x => guard (decide (x.length ≤ LIM)) (.ok (.int x.length))
  | .dict [(.none, .list xs)] => .ok (.int xs.length)
  | _ => .no
def tupleD : PyData → R PyData
  | .list xs => .ok (.tuple xs)
  | .tuple xs => .ok (.tuple xs)
  | _ => .no
def listD : PyData → R PyData
  | .list xs => .ok (.list xs)
  | .tuple xs => .ok (.list xs)
  | _ => .no
def intD : PyData → R PyData
  | .int i => .ok (.int i)
  | .bool b => .ok (.int (if b then 1 else 0))
  | _ => .no
def sumD : PyData → R PyData
  | .list xs => (intsOf xs).bind fun ns => .ok (.int ns.sum)
  | .tuple xs => (intsOf xs).bind fun ns => .ok (.int ns.sum)
  | _ => .no
theorem ne_len : NoEx1 lenD := fun d e z => by
  unfold lenD at z
  split at z <;> first | (cases z; done) | exact guard_ne ok_ne e z
theorem ne_tuple : NoEx1 tupleD := fun d e z => by cases d <;> cases z
theorem ne_list : NoEx1 listD := fun d e z => by cases d <;> cases z
theorem ne_int : NoEx1 intD := fun d e z => by cases d <;> cases z
theorem intsOf_ne : ∀ (xs : List PyData) e, intsOf xs ≠ .ex e
  | [], e, z => nomatch z
  | d :: r, e, z => by
    cases d <;> first | (cases z; done) | skip
    unfold intsOf at z
    cases h : intsOf r with
    | ok a => rw [h] at z; cases z
    | ex e' => exact intsOf_ne r e' h
    | no => rw [h] at z; cases z
theorem bind_ne {α β : Type} {r : R α} {k : α → R β} (h : ∀ e, r ≠ .ex e) (hk : ∀ a e, k a ≠ .ex e) : ∀ e, r.bind k ≠ .ex e := fun e z => by
  cases r with
  | ok a => exact hk a e z
  | ex e' => exact h e' rfl
  | no => cases z
theorem ne_sum : NoEx1 sumD := fun d e z => by
  cases d <;> first | (cases z; done) | exact bind_ne (intsOf_ne _) (fun _ _ => ok_ne _) e z
section
variable {X : Cx}
theorem dc_len : CallR X (.builtin "len") (rCD X.K (one lenD)) := callr_imp call_len fun _ _ _ _ _ _ I ⟨G, ds, s, r, h⟩ => by
  obtain ⟨x, d, rfl, rfl, r, h⟩ := one_inv r h
  cases r with
  | lst q w => exact ⟨_, _, rfl, .inl ⟨_, .inl (Same.rd s q), w.length.symm⟩, h _ _ _ (Gr.refl s) (.int _)⟩
  | tup q _ w => exact ⟨_, _, rfl, .inr ⟨_, sqt (s _ _ q), w.length.symm⟩, h _ _ _ (Gr.refl s) (.int _)⟩
  | str x =>
    obtain ⟨c, h⟩ := guard_holds h
    exact ⟨_, _, rfl, ⟨lim_line (of_decide_eq_true c), rfl⟩, h _ _ _ (Gr.refl s) (.int _)⟩
  | scr q => exact ⟨_, _, rfl, .inl ⟨_, s.seq q, by simp⟩, h _ _ _ (Gr.refl s) (.int _)⟩
  | dct q w =>
    cases w <;> exact h.elim
  | _ => exact h.elim
theorem dc_tuple : CallR X (.type "tuple") (rCD X.K (one tupleD)) := callr_imp call_tuple_ofS fun _ _ _ _ _ _ I ⟨G, ds, s, r, h⟩ => by
  obtain ⟨x, d, rfl, rfl, r, h⟩ := one_inv r h
  cases r with
  | lst q w => exact ⟨_, _, rfl, .inl ⟨.inl (Same.rd s q), mk_tup s w h⟩⟩
  | tup q n w => exact ⟨_, _, rfl, .inr ⟨sqt (s _ _ q), h _ _ _ (Gr.refl s) (.tup q n w)⟩⟩
  | _ => exact h.elim
theorem dc_list : CallR X (.type "list") (rCD X.K (one listD)) := callr_imp call_list_of fun _ _ _ _ _ _ I ⟨G, ds, s, r, h⟩ => by
  obtain ⟨x, d, rfl, rfl, r, h⟩ := one_inv r h
  cases r with
  | lst q w => exact ⟨_, _, rfl, .inl (.inl (Same.rd s q)), mk_lst s w h⟩
  | tup q n w => exact ⟨_, _, rfl, .inr (sqt (s _ _ q)), mk_lst s w h⟩
  | _ => exact h.elim
theorem dc_int : CallR X (.type "int") (rCD X.K (one intD)) := callr_imp call_int1 fun _ _ _ _ _ _ I ⟨G, ds, s, r, h⟩ => by
  obtain ⟨x, d, rfl, rfl, r, h⟩ := one_inv r h
  cases r with
  | int i => exact .inl ⟨_, rfl, h _ _ _ (Gr.refl s) (.int _)⟩
  | bl b => exact .inr ⟨_, rfl, h _ _ _ (Gr.refl s) (.int _)⟩
  | _ => exact h.elim
theorem cr_sumT (hc : X.calm = true) : CallR X (.builtin "sum") (fun vs H Q => ∃ (a : Addr) (ns : List Int), vs = [V.ref a] ∧ SqT X.K H a (ns.map V.int) ∧ Q (.int ns.sum) H) := by
  intro pins s σ H vs us Q I r h
  obtain ⟨a, ns, rfl, hs, q⟩ := h
  obtain ⟨its, rv, ht, _⟩ := I.tuple hs
  rw [Vals.ref1 r]
  obtain ⟨xs, hx⟩ := rv.ints.allInts.items
  have hn : numsOf its.toArray.toList = ns := by rw [show its.toArray.toList = its from rfl, rv.ints.numsOf]
  have hl : s.heap.IsTuple a its.toArray := ht
  rw [hx] at hl hn
  rw [nums_intItems] at hn
  refine PySem.W.ktm_sumG (I.ok.hd hc) hl fun h' tk t' hk => ?_
  rw [preSum_eq, List.take_of_length_le (by simp), hn]
  exact ⟨.int _, H, I.kept hk, ⟨_, rfl⟩, q⟩
theorem dc_sum (hc : X.calm = true) : CallR X (.builtin "sum") (rCD X.K (one sumD)) := callr_imp ((cr_sum hc).or (cr_sumT hc)) fun _ _ _ _ _ _ I ⟨G, ds, s, r, h⟩ => by
  obtain ⟨x, d, rfl, rfl, r, h⟩ := one_inv r h
  cases r with
  | lst q w =>
    obtain ⟨ns, e1, _, h⟩ := intsOf_inv w h
    subst e1
    exact .inl ⟨_, ns, rfl, .inl (Same.rd s q), h _ _ _ (Gr.refl s) (.int _)⟩
  | tup q n w =>
    obtain ⟨ns, e1, _, h⟩ := intsOf_inv w h
    subst e1
    exact .inr ⟨_, ns, rfl, sqt (s _ _ q), h _ _ _ (Gr.refl s) (.int _)⟩
  | _ => exact h.elim
end

/-! ### isinstance with a class that is written -/
def tyN : PyData → String
  | .none => "NoneType"
  | .bool _ => "bool"
  | .int _ => "int"
  | .str _ => "str"
  | .list _ => "list"
  | .tuple _ => "tuple"
  | .dict _ => "dict"
def isiInt : PyData → Bool
  | .int _ => true
  | .bool _ => true
  | _ => false
def isiBool : PyData → Bool
  | .bool _ => true
  | _ => false
def isiTuple : PyData → Bool
  | .tuple _ => true
  | _ => false
def isiList : PyData → Bool
  | .list _ => true
  | _ => false
def isiStr : PyData → Bool
  | .str _ => true
  | _ => false
def IsiOk (T : String) (f : PyData → Bool) : Prop := ∀ d, kitB (tyN d) T = some (f d)
def isiD (f : PyData → Bool) : PyData → R PyData
  | .dict _ => .no
  | d => .ok (.bool (f d))
theorem isi_int : IsiOk "int" isiInt
  | .none => (by decide +kernel : kitB "NoneType" "int" = some false)
  | .bool _ => (by decide +kernel : kitB "bool" "int" = some true)
  | .int _ => (by decide +kernel : kitB "int" "int" = some true)
  | .str _ => (by decide +kernel : kitB "str" "int" = some false)
  | .list _ => (by decide +kernel : kitB "list" "int" = some false)
  | .tuple _ => (by decide +kernel : kitB "tuple" "int" = some false)
  | .dict _ => (by decide +kernel : kitB "dict" "int" = some false)
theorem isi_bool : IsiOk "bool" isiBool
  | .none => (by decide +kernel : kitB "NoneType" "bool" = some false)
  | .bool _ => (by decide +kernel : kitB "bool" "bool" = some true)
  | .int _ => (by decide +kernel : kitB "int" "bool" = some false)
  | .str _ => (by decide +kernel : kitB "str" "bool" = some false)
  | .list _ => (by decide +kernel : kitB "list" "bool" = some false)
  | .tuple _ => (by decide +kernel : kitB "tuple" "bool" = some false)
  | .dict _ => (by decide +kernel : kitB "dict" "bool" = some false)
theorem isi_tuple : IsiOk "tuple" isiTuple
  | .none => (by decide +kernel : kitB "NoneType" "tuple" = some false)
  | .bool _ => (by decide +kernel : kitB "bool" "tuple" = some false)
  | .int _ => (by decide +kernel : kitB "int" "tuple" = some false)
  | .str _ => (by decide +kernel : kitB "str" "tuple" = some false)
  | .list _ => (by decide +kernel : kitB "list" "tuple" = some false)
  | .tuple _ => (by decide +kernel : kitB "tuple" "tuple" = some true)
  | .dict _ => (by decide +kernel : kitB "dict" "tuple" = some false)
theorem isi_list : IsiOk "list" isiList
  | .none => (by decide +kernel : kitB "NoneType" "list" = some false)
  | .bool _ => (by decide +kernel : kitB "bool" "list" = some false)
  | .int _ => (by decide +kernel : kitB "int" "list" = some false)
  | .str _ => (by decide +kernel : kitB "str" "list" = some false)
  | .list _ => (by decide +kernel : kitB "list" "list" = some true)
  | .tuple _ => (by decide +kernel : kitB "tuple" "list" = some false)
  | .dict _ => (by decide +kernel : kitB "dict" "list" = some false)
theorem isi_str : IsiOk "str" isiStr
  | .none => (by decide +kernel : kitB "NoneType" "str" = some false)
  | .bool _ => (by decide +kernel : kitB "bool" "str" = some false)
  | .int _ => (by decide +kernel : kitB "int" "str" = some false)
  | .str _ => (by decide +kernel : kitB "str" "str" = some true)
  | .list _ => (by decide +kernel : kitB "list" "str" = some false)
  | .tuple _ => (by decide +kernel : kitB "tuple" "str" = some false)
  | .dict _ => (by decide +kernel : kitB "dict" "str" = some false)
section
variable {X : Cx} {E : XK} {a : Expr} {fa : Rho → R PyData} {p p2 pos : Pos} {x : Str}
theorem tyX_rp {G H : Hp} {v : V} {d : PyData} (s : Same G H) (nd : ∀ ds, d ≠ .dict ds) (r : Rp X.K G v d) : TyX X.K H v (.type (tyN d)) := by
  cases r with
  | non => exact .base .non
  | bl b => exact .base (.bl b)
  | int i => exact .base (.int i)
  | str x => exact .base (.str x)
  | lst q _ => exact .base (.lst (s _ _ q))
  | tup q _ _ => exact .fTuple (s _ _ q)
  | dct q _ => exact absurd rfl (nd _)
  | scr q => exact absurd rfl (nd _)
theorem de_isi {T : String} {f : PyData → Bool} (hT : IsiOk T f) (hg : Gl X "isinstance") (hm : X.mg "isinstance" = none) (hgT : Gl X x) (hmT : X.mg x = none) (hvT : bootBuiltins x = some (.type T)) (ha : PE X a (tP X.K X.mg E fa))
    (hv : bootBuiltins "isinstance" = some (.builtin "isinstance") := by decide +kernel) (hn : x ≠ "__name__" := by decide) (hdb : (x == ("__debug__" : Str)) = false := by decide)
    (hs1 : starEach [a, .Name x p2] X.env = (false, eval a X.env) :: starEach [.Name x p2] X.env := by rfl) (hs2 : starEach [.Name x p2] X.env = (false, eval (.Name x p2) X.env) :: starEach [] X.env := by rfl)
    (hpl : (backTo pos (starEach [.Name x p2] X.env)).any (·.1) = false := by rfl) :
    PE X (.Call (.Name "isinstance" p) [a, .Name x p2] [] pos) (tP X.K X.mg E (f1 (isiD f) fa)) :=
  pe_imp (pe_callB call_isi hg hm hv (pa_cons ha (pa_cons (pe_bltn (v := .ty T) hgT hmT hvT rfl hn hdb) pa_nil hs2) hs1) (by decide) (by decide) hs1 hpl) fun _ _ σ H Q _ ⟨B, ρ, G, e, h⟩ => tP_bind e h fun d v H1 G1 g1 r1 e1 h1 => by
    have nd : ∀ ds, d ≠ .dict ds := fun ds z => by
      subst z
      exact h1.elim
    have h1' : (R.ok (PyData.bool (f d))).holds (fun d => ∀ v H' G', Gr G H G' H' → Rp X.K G' v d → Q v H') (XW X.K X.mg E B) := by
      cases d <;> first | exact h1 | exact absurd rfl (nd _)
    exact ⟨v, .ty T, .type (tyN d), .type T, f d, rfl, .ty T, tyX_rp e1.sub nd r1, kit_ty (hT d), h1' _ H1 G1 g1 (.bl _)⟩
end

/-! ### subscripts, slices -/
def ixD : PyData → PyData → R PyData
  | .list xs, .int i => match atI xs i with
    | some d => .ok d
    | none => .no
  | .tuple xs, .int i => match atI xs i with
    | some d => .ok d
    | none => .no
  | .str x, .int i => guard (decide (x.length ≤ LIM)) (match atI x.cps.toList i with
    | some c => .ok (.str ⟨#[c]⟩)
    | none => .no)
  | .dict [(.none, .list xs)], .int i => match atI xs i with
    | some d => .ok d
    | none => .no
  | _, _ => .no
theorem ne_ix : NoEx2 ixD := fun x y e z => by
  unfold ixD at z
  split at z
  · split at z <;> cases z
  · split at z <;> cases z
  · exact guard_ne (fun e z => by split at z <;> cases z) e z
  · split at z <;> cases z
  · cases z
section
variable {X : Cx} {E : XK} {a b : Expr} {fa fb : Rho → R PyData} {pos : Pos}
theorem atI_rp {K : PySem.W.Frag} {G : Hp} {xs : List V} {ds : List PyData} {i : Int} {d : PyData} (r : RpAll K G xs ds) (h : atI ds i = some d) : ∃ v, atI xs i = some v ∧ Rp K G v d := by
  unfold atI at h ⊢
  rw [r.length]
  cases hn : ixN ds.length i with
  | none => rw [hn] at h; cases h
  | some j =>
    rw [hn] at h
    exact r.get h
theorem ints_rp {K : PySem.W.Frag} {G : Hp} : ∀ ns : List Int, RpAll K G (ns.map V.int) (ns.map PyData.int)
  | [] => .nil
  | _ :: r => .cons (.int _) (ints_rp r)
theorem di_ix : IxR X (rD X.K ixD) := ixr_imp ix_seq fun _ _ _ _ _ _ _ _ ⟨G, dx, dy, s, rx, ry, q⟩ => by
  cases rx with
  | lst hq w =>
    cases dy <;> first | exact q.elim | skip
    unfold ixD at q
    simp only at q
    split at q
    · rename_i d hd
      obtain ⟨v, e1, e2⟩ := atI_rp w hd
      exact .inl ⟨_, _, _, v, rfl, ry.int_inv, .inl (Same.rd s hq), e1, q _ _ _ (Gr.refl s) e2⟩
    · exact q.elim
  | tup hq _ w =>
    cases dy <;> first | exact q.elim | skip
    unfold ixD at q
    simp only at q
    split at q
    · rename_i d hd
      obtain ⟨v, e1, e2⟩ := atI_rp w hd
      exact .inr (.inl ⟨_, _, _, v, rfl, ry.int_inv, sqt (s _ _ hq), e1, q _ _ _ (Gr.refl s) e2⟩)
    · exact q.elim
  | str x =>
    cases dy <;> first | exact q.elim | skip
    obtain ⟨c, q⟩ := guard_holds q
    split at q
    · rename_i d hd
      exact .inr (.inr ⟨_, _, d, rfl, ry.int_inv, lim_line (of_decide_eq_true c), hd, q _ _ _ (Gr.refl s) (.str _)⟩)
    · exact q.elim
  | @scr a ns hq =>
    cases dy <;> first | exact q.elim | skip
    unfold ixD at q
    simp only at q
    split at q
    · rename_i d hd
      obtain ⟨v, e1, e2⟩ := atI_rp (ints_rp ns) hd
      exact .inl ⟨_, _, _, v, rfl, ry.int_inv, s.seq hq, e1, q _ _ _ (Gr.refl s) e2⟩
    · exact q.elim
  | dct hq w =>
    cases w <;> cases dy <;> exact q.elim
  | _ => cases dy <;> exact q.elim
theorem de_ix (ha : PE X a (tP X.K X.mg E fa)) (hb : PE X b (tP X.K X.mg E fb)) (hs : PlainIx b := by exact fun _ _ => rfl) : PE X (.Subscript a b pos) (tP X.K X.mg E (f2 ixD fa fb)) :=
  pe_imp (pe_ix di_ix ha hb hs) fun _ _ _ _ _ _ h => tOp_of ne_ix (fun _ _ _ _ z => z) h
/-- an item of a list of our own -/
def fOwnIx (i : Nat) (fb : Rho → R PyData) : Rho → R PyData := fun ρ => match ρ[i]? with
  | some (some (.ow ds)) => (fb ρ).bind fun k => ixD (.list ds) k
  | _ => .no
theorem de_ownIx (i : Nat) {x : Str} {pos' : Pos} (hb : PE X b (tP X.K X.mg E fb)) (hs : PlainIx b := by exact fun _ _ => rfl) (hN : X.N[i]? = some x := by rfl) (hv : Vis X.env.scope x := by first | exact Or.inl rfl | exact Or.inr (Or.inl rfl) | exact Or.inr (Or.inr rfl)) (hd : (x == ("__debug__" : Str)) = false := by decide)
    (hcd : (x == ("__classdict__" : Str)) = false := by decide) : PE X (.Subscript (.Name x pos') b pos) (tP X.K X.mg E (fOwnIx i fb)) := by
  refine pe_imp (pe_ix ix_list (pe_var (i := i) hN hv hd hcd) hb hs) fun pins s σ H Q I ⟨B, ρ, G, e, h⟩ => ?_
  unfold fOwnIx at h
  split at h
  · rename_i ds q
    obtain ⟨v, e1, l, vs, rfl, hl, hg, hb, r⟩ := e.at_ i _ q
    refine ⟨_, e1, tP_bind e h fun d v H1 G1 g1 r1 e1 h1 => ?_⟩
    cases d <;> first | exact h1.elim | skip
    unfold ixD at h1
    simp only at h1
    split at h1
    · rename_i d' hd'
      obtain ⟨v', e3, e4⟩ := atI_rp r hd'
      exact ⟨l, vs, _, v', rfl, r1.int_inv, SqL.of (g1.h _ _ hl), e3, h1 _ H1 G1 g1 (e4.mono g1.g)⟩
    · exact h1.elim
  · exact h.elim
/-- len of a list of our own -/
def fOwnLen (i : Nat) : Rho → R PyData := fun ρ => match ρ[i]? with
  | some (some (.ow ds)) => .ok (.int ds.length)
  | _ => .no
theorem de_ownLen (i : Nat) {x : Str} {p p' pos : Pos} (hg : Gl X "len") (hm : X.mg "len" = none) (hN : X.N[i]? = some x := by rfl) (hv : Vis X.env.scope x := by first | exact Or.inl rfl | exact Or.inr (Or.inl rfl) | exact Or.inr (Or.inr rfl)) (hd : (x == ("__debug__" : Str)) = false := by decide)
    (hcd : (x == ("__classdict__" : Str)) = false := by decide) (hs1 : starEach [.Name x p'] X.env = (false, eval (.Name x p') X.env) :: starEach [] X.env := by rfl) (hpl : (backTo pos (starEach [] X.env)).any (·.1) = false := by rfl) : PE X (.Call (.Name "len" p) [.Name x p'] [] pos) (tP X.K X.mg E (fOwnLen i)) := by
  refine pe_imp (pe_callB call_len hg hm PySem.boot_len (pa_cons (pe_var (i := i) hN hv hd hcd) pa_nil hs1) (by decide) (by decide) hs1 hpl) fun pins s σ H Q I ⟨B, ρ, G, e, h⟩ => ?_
  unfold fOwnLen at h
  split at h
  · rename_i ds q
    obtain ⟨v, e1, l, vs, rfl, hl, hg, hb, r⟩ := e.at_ i _ q
    exact ⟨_, e1, _, _, rfl, .inl ⟨_, SqL.of hl, r.length.symm⟩, h _ _ _ (Gr.refl e.sub) (.int _)⟩
  · exact h.elim
end
def cutD (xs : List PyData) (lo hi : Option Int) : List PyData := (xs.drop (HT.sIx xs.length 0 lo)).take (HT.sIx xs.length xs.length hi - HT.sIx xs.length 0 lo)
def oNo : Rho → R (Option Int) := fun _ => .ok none
def intOf : PyData → R Int
  | .int i => .ok i
  | _ => .no
def oSome (f : Rho → R PyData) : Rho → R (Option Int) := fun ρ => (f ρ).bind fun d => (intOf d).bind fun i => .ok (some i)
def slD (d : PyData) (lo hi : Option Int) : R PyData := match d with
  | .list xs => .ok (.list (cutD xs lo hi))
  | .tuple xs => .ok (.tuple (cutD xs lo hi))
  | .str x => guard (decide (x.length ≤ LIM)) (.ok (.str (cutS x lo hi)))
  | _ => .no
def fSl (f : Rho → R PyData) (lo hi : Rho → R (Option Int)) : Rho → R PyData := fun ρ => (f ρ).bind fun d => (lo ρ).bind fun l => (hi ρ).bind fun h => slD d l h
section
variable {X : Cx} {E : XK} {a : Expr} {fa : Rho → R PyData} {pos p2 : Pos} {lo hi : Option Expr} {fl fh : Rho → R (Option Int)}
def tO (K : PySem.W.Frag) (mg : Str → Option Value) (E : XK) (f : Rho → R (Option Int)) : TO := fun σ H Q => ∃ B ρ G, EnvOk K B G σ H ρ ∧ (f ρ).holds (fun o => ∀ H' G', Gr G H G' H' → Q o H') (XW K mg E B)
theorem po_imp {e : Option Expr} {t t' : TO} (h : PO X e t) (hi : ∀ pins s σ H Q, Inv X pins σ H s → t' σ H Q → t σ H Q) : PO X e t' :=
  ⟨fun pins s σ H Q I hw => h.run pins s σ H Q I (hi pins s σ H Q I hw)⟩
theorem dp_none : PO X none (tO X.K X.mg E oNo) := po_imp po_none fun _ _ σ H Q _ ⟨B, ρ, G, e, h⟩ => h H G (Gr.refl e.sub)
theorem dp_some (ha : PE X a (tP X.K X.mg E fa)) : PO X (some a) (tO X.K X.mg E (oSome fa)) := po_imp (po_some ha) fun _ _ σ H Q _ ⟨B, ρ, G, e, h⟩ => tP_bind e h fun d v H1 G1 g1 r1 e1 h1 => by
  cases d <;> first | exact h1.elim | exact ⟨_, r1.int_inv, h1 H1 G1 g1⟩
theorem tO_bind {B : Hp × Hp} {G H : Hp} {σ : St} {ρ : Rho} {β : Type} {P : β → Prop} {f : Rho → R (Option Int)} {k : Option Int → R β} {Q : Option Int → Hp → Prop} (e : EnvOk X.K B G σ H ρ) (h : ((f ρ).bind k).holds P (XW X.K X.mg E B))
    (hq : ∀ b H1 G1, Gr G H G1 H1 → EnvOk X.K B G1 σ H1 ρ → (k b).holds P (XW X.K X.mg E B) → Q b H1) : tO X.K X.mg E f σ H Q :=
  ⟨B, ρ, G, e, (R.holds_bind.mp h).mono (fun d hd H1 G1 g => hq d H1 G1 g (e.step g) hd) fun _ z => z⟩
theorem cutV_rp {K : PySem.W.Frag} {G : Hp} {xs : List V} {ds : List PyData} (r : RpAll K G xs ds) (lo hi : Option Int) : RpAll K G (cutV xs lo hi) (cutD ds lo hi) := by
  unfold cutV cutD
  rw [r.length]
  exact (r.drop _).take _
theorem cutV_whole {xs : List V} {lo hi : Option Int} (h : HT.sIx xs.length 0 lo = 0 ∧ HT.sIx xs.length xs.length hi = xs.length) : cutV xs lo hi = xs := by
  unfold cutV
  rw [h.1, h.2]
  simp
theorem cutD_whole {xs : List PyData} {lo hi : Option Int} (h : HT.sIx xs.length 0 lo = 0 ∧ HT.sIx xs.length xs.length hi = xs.length) : cutD xs lo hi = xs := by
  unfold cutD
  rw [h.1, h.2]
  simp
theorem de_slice (ha : PE X a (tP X.K X.mg E fa)) (hl : PO X lo (tO X.K X.mg E fl)) (hh : PO X hi (tO X.K X.mg E fh)) : PE X (.Subscript a (.Slice lo hi none p2) pos) (tP X.K X.mg E (fSl fa fl fh)) :=
  pe_imp (pe_slice (sl_list.or (sl_tupS.or sl_str)) ha hl hh) fun _ _ σ H Q _ ⟨B, ρ, G, e, h⟩ => tP_bind e h fun d v H1 G1 g1 r1 e1 h1 => tO_bind e1 h1 fun l H2 G2 g2 e2 h2 => tO_bind e2 h2 fun u H3 G3 g3 e3 h3 => by
    have r3 := (r1.mono g2.g).mono g3.g
    have g := g1.trans (g2.trans g3)
    have s3 := e3.sub
    have fin : ∀ {d'}, (∀ v H' G', Gr G H G' H' → Rp X.K G' v d' → Q v H') → ∀ v H' G', Gr G3 H3 G' H' → Rp X.K G' v d' → Q v H' := fun q v H' G' g' r => q v H' G' (g.trans g') r
    cases r3 with
    | lst q w => exact .inl ⟨_, _, rfl, .inl (Same.rd s3 q), mk_lst s3 (cutV_rp w l u) (fin h3)⟩
    | tup q n w =>
      refine .inr (.inl ⟨_, _, rfl, sqt (s3 _ _ q), fun hw => ?_, fun _ => mk_tup s3 (cutV_rp w l u) (fin h3)⟩)
      have hw' := hw
      rw [w.length] at hw'
      have h3' : ∀ v H' G', Gr G H G' H' → Rp X.K G' v (.tuple (cutD _ l u)) → Q v H' := h3
      rw [cutD_whole hw'] at h3'
      exact h3' _ _ _ g (.tup q n w)
    | str x =>
      obtain ⟨c, h3⟩ := guard_holds h3
      exact .inr (.inr ⟨_, rfl, lim_line (of_decide_eq_true c), fin h3 _ _ _ (Gr.refl s3) (.str _)⟩)
    | _ => exact h3.elim
end

/-! ### t.index(x) -/
def firstAt (x : PyData) : List PyData → Nat → Option Nat
  | [], _ => none
  | y :: ys, k => if PyData.eqv y x then some k else firstAt x ys (k + 1)
def indexD (t x : PyData) : R PyData := match t with
  | .tuple ys => guard (leafD x && ys.all leafD) (match firstAt x ys 0 with
    | some j => .ok (.int (j : Nat))
    | none => .no)
  | _ => .no
def fIndex (fa fb : Rho → R PyData) : Rho → R PyData := fun ρ => (fa ρ).bind fun t => guard (isiTuple t) ((fb ρ).bind fun x => indexD t x)
theorem firstAt_some {x : PyData} : ∀ {ys : List PyData} {k j : Nat}, firstAt x ys k = some j → k ≤ j ∧ (∃ z, ys[j - k]? = some z ∧ PyData.eqv z x = true) ∧ ∀ m z, m < j - k → ys[m]? = some z → PyData.eqv z x = false
  | [], _, _, h => nomatch h
  | y :: ys, k, j, h => by
    unfold firstAt at h
    split at h
    · rename_i e
      cases h
      exact ⟨Nat.le_refl _, ⟨y, by simp, e⟩, fun m z hm => by omega⟩
    · rename_i e
      obtain ⟨h1, ⟨z, h2, h3⟩, h4⟩ := firstAt_some h
      refine ⟨by omega, ⟨z, ?_, h3⟩, fun m z' hm hz => ?_⟩
      · rw [show j - k = (j - (k + 1)) + 1 by omega, List.getElem?_cons_succ]
        exact h2
      · cases m with
        | zero =>
          rw [List.getElem?_cons_zero] at hz
          cases hz
          exact Bool.not_eq_true _ ▸ e
        | succ m =>
          rw [List.getElem?_cons_succ] at hz
          exact h4 m z' (by omega) hz
section
variable {X : Cx} {E : XK} {a b : Expr} {fa fb : Rho → R PyData} {apos cpos : Pos}
theorem de_index (ha : PE X a (tP X.K X.mg E fa)) (hb : PE X b (tP X.K X.mg E fb))
    (hbase : attributeBase a "index" X.env (eval a X.env) = eval a X.env := by rfl)
    (hfew : ((backTo cpos (starEach [b] X.env)).all (fun x => !x.1) && (backToKw cpos (keywordEach [] X.env)).all (fun x => x.1.isSome)
      && decide ([b].length + ([] : List Keyword).length + (if ([] : List Keyword).isEmpty then 0 else 1) < 30)) = true := by rfl)
    (hline : (apos.endLine == cpos.line) = true := by rfl) (hs : starEach [b] X.env = (false, eval b X.env) :: starEach [] X.env := by rfl) (hplain : (backTo cpos (starEach [] X.env)).any (·.1) = false := by rfl) :
    PE X (.Call (.Attribute a "index" apos) [b] [] cpos) (tP X.K X.mg E (fIndex fa fb)) :=
  pe_imp (pe_bmT PySem.F.plainAttrs_tuple PySem.F.slot_tuple_index PySem.F.type_tuple_index mt_index_tup ha (pa_cons hb pa_nil hs) hbase hfew hline hs hplain) fun _ _ σ H Q _ ⟨B, ρ, G, e, h⟩ => tP_bind e h fun d v H1 G1 g1 r1 e1 h1 => by
    obtain ⟨c0, h1⟩ := guard_holds h1
    cases d <;> first | (cases c0; done) | skip
    obtain ⟨a, o, vs, rfl, q, n, w⟩ := r1.tuple_inv
    refine ⟨⟨a, o, vs, rfl, e1.sub _ _ q, n⟩, tP_bind e1 h1 fun d2 v2 H2 G2 g2 r2 e2 h2 => ?_⟩
    obtain ⟨c, h2⟩ := guard_holds h2
    simp only [Bool.and_eq_true] at c
    split at h2
    · rename_i j hj
      obtain ⟨_, ⟨z, h3, h4⟩, h5⟩ := firstAt_some hj
      have w2 := RpAll.mono g2.g w
      obtain ⟨i1, _⟩ := in_leaf c.1 r2 w2 c.2
      have leaf_at : ∀ (m : Nat) (z : PyData), (_ : List PyData)[m]? = some z → leafD z = true := fun m z hz => List.all_eq_true.mp c.2 z (List.mem_of_getElem? hz)
      obtain ⟨u, u1, u2⟩ := w2.get h3
      refine ⟨a, vs, v2, j, rfl, rfl, sqt (e2.sub _ _ (g2.g _ _ q)), leaf_V c.1 r2, i1, ⟨u, u1, ?_⟩, fun m z' hm hz' => ?_, h2 _ H2 G2 (g1.trans g2) (.int _)⟩
      · rw [eqv_V (leaf_at _ _ h3) c.1 u2 r2]
        exact h4
      · obtain ⟨d', d1, d2'⟩ := w2.getV hz'
        rw [eqv_V (leaf_at _ _ d1) c.1 d2' r2]
        exact h5 m d' hm d1
    · exact h2.elim
end
end L2.PD

set_option Elab.async false
set_option linter.all false
set_option autoImplicit false
set_option maxRecDepth 100000
/-! PD3: calls of own defs, what is walked, comprehensions, statements, a def. -/
namespace L2.PD
open PySem PySem.Spec PyProof.Rows L2

/-! ### own defs -/
def spP (K : PySem.W.Frag) (mg : Str → Option Value) (m : List PyData → R PyData) : Sp := fun vs H Q E => ∃ G ds, Same G H ∧ RpAll K G vs ds ∧ (m ds).holds (fun d => ∀ v H' G', Gr G H G' H' → Rp K G' v d → Q v H') (XW K mg E (G, H))
/-- what is known of an own def: its name holds it, it keeps its promise -/
structure FnD (P : Program) (w : World) (K : PySem.W.Frag) (mg : Str → Option Value) (base : Heap) (CX : CXT) (k : Nat) (x : Str) (m : List PyData → R PyData) : Prop where
  ex : ∃ f fd ps, FnOk P w K mg base CX k f fd ps (spP K mg m) ∧ mg x = some (.ref f) ∧ PySem.W.keepIn K (.ref f) = true ∧ Binds K fd ps []
theorem FnD.mono {P : Program} {w : World} {K : PySem.W.Frag} {mg : Str → Option Value} {base : Heap} {CX : CXT} {j k : Nat} {x : Str} {m : List PyData → R PyData} (F : FnD P w K mg base CX j x m) (h : j ≤ k) : FnD P w K mg base CX k x m :=
  let ⟨f, fd, ps, a, b⟩ := F.ex; ⟨f, fd, ps, a.mono h, b⟩
section
variable {X : Cx} {CX : CXT} {k : Nat} {E : XK} {x : Str} {m : List PyData → R PyData} {p pos : Pos} {e : Expr} {es : List Expr} {ga : Rho → R (List PyData)}
theorem tCall_of {σ : St} {H : Hp} {Q : VK} (h : tP X.K X.mg E (fCall m ga) σ H Q) : tCall (spP X.K X.mg m) [] E (tA X.K X.mg E ga) σ H Q := by
  obtain ⟨B, ρ, G, e, h⟩ := h
  refine tA_bind e h fun ds vs H1 G1 g1 r1 e1 h1 => ⟨G1, ds, e1.sub, by rw [List.append_nil]; exact r1, ?_⟩
  exact R.holds.mono h1 (fun d hd v H' G' g r => hd v H' G' (g1.trans g) r) fun e' z => XW.step e1.gr z
theorem de_call (F : FnD X.prog X.w X.K X.mg X.base CX k x m) (hr : Room k X.A) (hx : Passes CX X E) (hg : Gl X x) (ha : PA X (e :: es) (tA X.K X.mg E ga)) (hdb : (x == ("__debug__" : Str)) = false := by decide)
    (he : starEach (e :: es) X.env = (false, eval e X.env) :: starEach es X.env := by rfl) (hpl : (backTo pos (starEach es X.env)).any (·.1) = false := by rfl) :
    PE X (.Call (.Name x p) (e :: es) [] pos) (tP X.K X.mg E (fCall m ga)) := by
  obtain ⟨f, fd, ps, F, hm, hk, hb⟩ := F.ex
  exact pe_imp (pe_call F hr hg hm hk hb .nil hx ha hdb he hpl) fun _ _ _ _ _ _ h => tCall_of h
end
theorem passAny {X : Cx} {E : XK} : Passes CX0 X E := fun _ _ _ _ _ _ _ h => h.elim

/-! ### what is walked: the items, and what a turn's item does to the slots -/
structure Wk {α : Type} (K : PySem.W.Frag) (J : It) (g : TG) (sl : List Nat) (st : α → Rho → Rho) (G : Hp) (items : List α) : Prop where
  stop : ∀ G2 H2, Same G G2 → Same G2 H2 → J.stop items.length H2
  go : ∀ (i : Nat) d G2 H2, Same G G2 → Same G2 H2 → items[i]? = some d → J.go i H2
  yld : ∀ (i : Nat) d G2 H2 x H3 B σ ρ Q, Same G G2 → EnvOk K B G2 σ H2 ρ → items[i]? = some d → J.yld i H2 x H3 →
    (∀ σ' H' G', EnvOk K B G' σ' H' (st d ρ) → Gr G2 H2 G' H' → σ'.length = σ.length → (∀ j : Nat, j ∉ sl → σ'[j]? = σ[j]?) → Q σ' H') → g x σ H3 Q
def tI {α : Type} (K : PySem.W.Frag) (mg : Str → Option Value) (E : XK) (g : TG) (sl : List Nat) (st : α → Rho → Rho) (f : Rho → R (List α)) : TI := fun σ H R' => ∃ B ρ G, EnvOk K B G σ H ρ ∧
  (f ρ).holds (fun items => ∀ J H' G', Gr G H G' H' → Wk K J g sl st G' items → items.length ≤ sizeLine → R' J H') (XW K mg E B)
/-- one name -/
def stN (i : Nat) (d : PyData) (ρ : Rho) : Rho := ρ.set i (some (.fz d))
/-- two names -/
def st2 (i j : Nat) (p : PyData × PyData) (ρ : Rho) : Rho := (ρ.set i (some (.fz p.1))).set j (some (.fz p.2))
section
variable {K : PySem.W.Frag} {G : Hp}
theorem wk_list {a : Addr} {xs : List V} {ds : List PyData} (i : Nat) (h : G a = some (.lst xs)) (r : RpAll K G xs ds) : Wk K (Itl K a) (gName i) [i] (stN i) G ds where
  stop := fun G2 H2 s s2 => ⟨xs, .inl (Same.rdR s2 (Same.rd s h)), by rw [r.length]; exact Nat.le_refl _⟩
  go := fun k d G2 H2 s s2 e => by
    obtain ⟨v, e1, _⟩ := r.get e
    exact ⟨xs, v, .inl (Same.rdR s2 (Same.rd s h)), e1⟩
  yld := fun k d G2 H2 x H3 B σ ρ Q s ev e y q => by
    obtain ⟨v, e1, e2⟩ := r.get e
    obtain ⟨rfl, y⟩ := y
    have ex := y xs (.inl (Same.rdR ev.sub (Same.rd s h)))
    rw [e1] at ex
    cases ex
    exact q _ _ G2 (ev.setF i (e2.mono s)) (Gr.refl ev.sub) (by simp) fun j hj => List.getElem?_set_ne fun z => hj (by simp [z])
theorem wk_tup {a : Addr} {o : Obj} {xs : List V} {ds : List PyData} (i : Nat) (h : G a = some (.frz o (.tup xs))) (r : RpAll K G xs ds) : Wk K (Itt K a) (gName i) [i] (stN i) G ds where
  stop := fun G2 H2 s s2 => ⟨xs, sqt (s2 _ _ (s _ _ h)), by rw [r.length]; exact Nat.le_refl _⟩
  go := fun k d G2 H2 s s2 e => by
    obtain ⟨v, e1, _⟩ := r.get e
    exact ⟨xs, v, sqt (s2 _ _ (s _ _ h)), e1⟩
  yld := fun k d G2 H2 x H3 B σ ρ Q s ev e y q => by
    obtain ⟨v, e1, e2⟩ := r.get e
    obtain ⟨rfl, y⟩ := y
    have ex := y xs (sqt (ev.sub _ _ (s _ _ h)))
    rw [e1] at ex
    cases ex
    exact q _ _ G2 (ev.setF i (e2.mono s)) (Gr.refl ev.sub) (by simp) fun j hj => List.getElem?_set_ne fun z => hj (by simp [z])
/-- the signs of a text -/
def signsD (x : Str) : List PyData := x.cps.toList.map fun c => .str ⟨#[c]⟩
theorem wk_str (x : Str) (i : Nat) : Wk K (Its x) (gName i) [i] (stN i) G (signsD x) where
  stop := fun G2 H2 s s2 => by
    show x.cps.size ≤ (signsD x).length
    simp [signsD]
  go := fun k d G2 H2 s s2 e => by
    have hk : k < (signsD x).length := (List.getElem?_eq_some_iff.mp e).1
    show k < x.cps.size
    simpa [signsD] using hk
  yld := fun k d G2 H2 v H3 B σ ρ Q s ev e y q => by
    obtain ⟨rfl, c, hc, rfl⟩ := y
    have ed : d = .str ⟨#[c]⟩ := by
      have e' := e
      simp only [signsD, List.getElem?_map, Array.getElem?_toList, hc, Option.map_some, Option.some.injEq] at e'
      exact e'.symm
    subst ed
    exact q _ _ G2 (ev.setF i (.str _)) (Gr.refl ev.sub) (by simp) fun j hj => List.getElem?_set_ne fun z => hj (by simp [z])
/-- lo, lo + 1, .. -/
def rangeD (lo : Int) (n : Nat) : List PyData := (List.range n).map fun k => .int (lo + (k : Nat))
theorem wk_range (lo : Int) (n i : Nat) : Wk K (Itr lo n) (gName i) [i] (stN i) G (rangeD lo n) where
  stop := fun G2 H2 s s2 => by
    show n ≤ (rangeD lo n).length
    simp [rangeD]
  go := fun k d G2 H2 s s2 e => by
    have hk : k < (rangeD lo n).length := (List.getElem?_eq_some_iff.mp e).1
    show k < n
    simpa [rangeD] using hk
  yld := fun k d G2 H2 v H3 B σ ρ Q s ev e y q => by
    obtain ⟨rfl, rfl⟩ := y
    have hk : k < n := by
      have hk : k < (rangeD lo n).length := (List.getElem?_eq_some_iff.mp e).1
      simpa [rangeD] using hk
    have ed : d = .int (lo + (k : Nat)) := by
      have e' := e
      simp only [rangeD, List.getElem?_map, List.getElem?_range hk, Option.map_some, Option.some.injEq] at e'
      exact e'.symm
    subst ed
    exact q _ _ G2 (ev.setF i (.int _)) (Gr.refl ev.sub) (by simp) fun j hj => List.getElem?_set_ne fun z => hj (by simp [z])
abbrev g2 (K : PySem.W.Frag) (i j : Nat) : TG := gTup K 2 (gCons (gName i) (gCons (gName j) gNil))
/-- a new pair is given out -/
theorem yld2 {G2 H2 : Hp} {T : Addr} {x y : V} {d e : PyData} {B : Hp × Hp} {σ : St} {ρ : Rho} {Q : St → Hp → Prop} {i j : Nat} (ev : EnvOk K B G2 σ H2 ρ) (n : H2 T = none) (rx : Rp K G2 x d) (ry : Rp K G2 y e)
    (q : ∀ σ' H' G', EnvOk K B G' σ' H' (st2 i j (d, e) ρ) → Gr G2 H2 G' H' → σ'.length = σ.length → (∀ m : Nat, m ∉ [i, j] → σ'[m]? = σ[m]?) → Q σ' H') : g2 K i j (.ref T) σ (upd H2 T (.tup [x, y])) Q := by
  refine ⟨T, [x, y], rfl, .inl (.inl upd_same), rfl, x, [y], rfl, y, [], rfl, rfl, ?_⟩
  have g : Gr G2 H2 G2 (upd H2 T (.tup [x, y])) := Gr.newO ev.sub n
  refine q _ _ G2 (((ev.step g).setF i rx).setF j ry) g (by simp) fun m hm => ?_
  have h1 : i ≠ m := fun z => hm (by simp [z])
  have h2 : j ≠ m := fun z => hm (by simp [z])
  rw [List.getElem?_set_ne h2, List.getElem?_set_ne h1]
theorem zip_get {α β : Type} {xs : List α} {ys : List β} {i : Nat} {p : α × β} (h : (xs.zip ys)[i]? = some p) : xs[i]? = some p.1 ∧ ys[i]? = some p.2 := by
  have h' : (xs.zip ys)[i]? = some (p.1, p.2) := h
  exact List.getElem?_zip_eq_some.mp h'
theorem wk_zipL {a b : Addr} {xs ys : List V} {ds es : List PyData} (i j : Nat) (h : G a = some (.lst xs)) (r : RpAll K G xs ds) (h' : G b = some (.lst ys)) (r' : RpAll K G ys es) : Wk K (Itz K a b) (g2 K i j) [i, j] (st2 i j) G (ds.zip es) where
  stop := fun G2 H2 s s2 => ⟨xs, ys, .inl (Same.rdR s2 (Same.rd s h)), .inl (Same.rdR s2 (Same.rd s h')), by rw [r.length, r'.length, List.length_zip]; omega⟩
  go := fun k d G2 H2 s s2 e => by
    obtain ⟨e1, e2⟩ := zip_get e
    obtain ⟨v, v1, _⟩ := r.get e1
    obtain ⟨u, u1, _⟩ := r'.get e2
    exact ⟨xs, ys, v, u, .inl (Same.rdR s2 (Same.rd s h)), .inl (Same.rdR s2 (Same.rd s h')), v1, u1⟩
  yld := fun k d G2 H2 x H3 B σ ρ Q s ev e y q => by
    obtain ⟨e1, e2⟩ := zip_get e
    obtain ⟨v, v1, v2⟩ := r.get e1
    obtain ⟨u, u1, u2⟩ := r'.get e2
    obtain ⟨T, x', y', rfl, n, rfl, f1, f2⟩ := y
    have ex := f1 xs (.inl (Same.rdR ev.sub (Same.rd s h)))
    have ey := f2 ys (.inl (Same.rdR ev.sub (Same.rd s h')))
    rw [v1] at ex
    rw [u1] at ey
    cases ex
    cases ey
    exact yld2 (d := d.1) (e := d.2) ev n (v2.mono s) (u2.mono s) q
theorem wk_zipT {a b : Addr} {o o' : Obj} {xs ys : List V} {ds es : List PyData} (i j : Nat) (h : G a = some (.frz o (.tup xs))) (r : RpAll K G xs ds) (h' : G b = some (.frz o' (.tup ys))) (r' : RpAll K G ys es) : Wk K (RZ.ItzT K a b) (g2 K i j) [i, j] (st2 i j) G (ds.zip es) where
  stop := fun G2 H2 s s2 => ⟨xs, ys, sqt (s2 _ _ (s _ _ h)), sqt (s2 _ _ (s _ _ h')), by rw [r.length, r'.length, List.length_zip]; omega⟩
  go := fun k d G2 H2 s s2 e => by
    obtain ⟨e1, e2⟩ := zip_get e
    obtain ⟨v, v1, _⟩ := r.get e1
    obtain ⟨u, u1, _⟩ := r'.get e2
    exact ⟨xs, ys, v, u, sqt (s2 _ _ (s _ _ h)), sqt (s2 _ _ (s _ _ h')), v1, u1⟩
  yld := fun k d G2 H2 x H3 B σ ρ Q s ev e y q => by
    obtain ⟨e1, e2⟩ := zip_get e
    obtain ⟨v, v1, v2⟩ := r.get e1
    obtain ⟨u, u1, u2⟩ := r'.get e2
    obtain ⟨T, x', y', rfl, n, rfl, f1, f2⟩ := y
    have ex := f1 xs (sqt (ev.sub _ _ (s _ _ h)))
    have ey := f2 ys (sqt (ev.sub _ _ (s _ _ h')))
    rw [v1] at ex
    rw [u1] at ey
    cases ex
    cases ey
    exact yld2 (d := d.1) (e := d.2) ev n (v2.mono s) (u2.mono s) q
/-- (0, d0), (1, d1), .. -/
def enumD : Nat → List PyData → List (PyData × PyData)
  | _, [] => []
  | k, d :: ds => (.int (k : Nat), d) :: enumD (k + 1) ds
theorem enumD_length : ∀ (k : Nat) (ds : List PyData), (enumD k ds).length = ds.length
  | _, [] => rfl
  | k, _ :: ds => congrArg (· + 1) (enumD_length (k + 1) ds)
theorem enumD_get : ∀ (ds : List PyData) (k i : Nat) (p : PyData × PyData), (enumD k ds)[i]? = some p → p.1 = .int ((k + i : Nat) : Int) ∧ ds[i]? = some p.2
  | [], _, _, _, h => by simp [enumD] at h
  | d :: ds, k, 0, p, h => by
    simp only [enumD, List.getElem?_cons_zero, Option.some.injEq] at h
    subst h
    exact ⟨rfl, rfl⟩
  | d :: ds, k, i + 1, p, h => by
    simp only [enumD, List.getElem?_cons_succ] at h
    obtain ⟨h1, h2⟩ := enumD_get ds (k + 1) i p h
    exact ⟨by rw [h1]; congr 1; omega, h2⟩
theorem wk_enum {a : Addr} {xs : List V} {ds : List PyData} (i j : Nat) (h : G a = some (.lst xs)) (r : RpAll K G xs ds) : Wk K (Ite K a) (g2 K i j) [i, j] (st2 i j) G (enumD 0 ds) where
  stop := fun G2 H2 s s2 => ⟨xs, .inl (Same.rdR s2 (Same.rd s h)), by rw [r.length, enumD_length]; exact Nat.le_refl _⟩
  go := fun k d G2 H2 s s2 e => by
    obtain ⟨_, e2⟩ := enumD_get _ _ _ _ e
    obtain ⟨v, v1, _⟩ := r.get e2
    exact ⟨xs, v, .inl (Same.rdR s2 (Same.rd s h)), v1⟩
  yld := fun k d G2 H2 x H3 B σ ρ Q s ev e y q => by
    obtain ⟨e1, e2⟩ := enumD_get _ _ _ _ e
    obtain ⟨v, v1, v2⟩ := r.get e2
    obtain ⟨T, x', rfl, n, rfl, f1⟩ := y
    have ex := f1 xs (.inl (Same.rdR ev.sub (Same.rd s h)))
    rw [v1] at ex
    cases ex
    refine yld2 (d := d.1) (e := d.2) ev n ?_ (v2.mono s) q
    rw [e1, Nat.zero_add]
    exact .int _
end

/-! ### how they are written -/
def seqD : PyData → R (List PyData)
  | .list ds => .ok ds
  | .tuple ds => .ok ds
  | .str x => guard (decide (x.length ≤ LIM)) (.ok (signsD x))
  | _ => .no
def iSeq (f : Rho → R PyData) : Rho → R (List PyData) := fun ρ => (f ρ).bind seqD
def rng1D : List PyData → R (List PyData)
  | [.int j] => guard (decide (-1000000 ≤ j ∧ j ≤ 1000000)) (.ok (rangeD 0 j.toNat))
  | _ => .no
def rng2D : List PyData → R (List PyData)
  | [.int i, .int j] => guard (decide ((-1000000 ≤ i ∧ i ≤ 1000000) ∧ -1000000 ≤ j ∧ j ≤ 1000000)) (.ok (rangeD i (j - i).toNat))
  | _ => .no
def iArg {α : Type} (o : List PyData → R (List α)) (g : Rho → R (List PyData)) : Rho → R (List α) := fun ρ => (g ρ).bind o
def zipD : List PyData → R (List (PyData × PyData))
  | [.list a, .list b] => .ok (a.zip b)
  | [.tuple a, .tuple b] => .ok (a.zip b)
  | _ => .no
def enumsD : List PyData → R (List (PyData × PyData))
  | [.list a] => .ok (enumD 0 a)
  | _ => .no
section
variable {X : Cx} {E : XK} {tg l a b : Expr} {f : Rho → R PyData} {ga : Rho → R (List PyData)} {p pos tpos : Pos} {elts : List Expr} {kk : Nat}
theorem pi_any {tl : TE} (hl : PE X l tl) : PI X tg l (fun σ H R' => tl σ H fun x H1 => (∃ a, x = .ref a ∧ (∃ xs, SqL X.K H1 a xs) ∧ R' (Itl X.K a) H1) ∨ (∃ a, x = .ref a ∧ (∃ xs, SqT X.K H1 a xs) ∧ R' (Itt X.K a) H1) ∨ (∃ z, x = .str z ∧ R' (Its z) H1)) := by
  refine ⟨fun pins s σ H R' I h => ?_⟩
  refine thn (hl.run pins s σ H _ I h) fun v s1 ⟨x, H1, I1, r1, q1⟩ => ?_
  rcases q1 with ⟨a, rfl, ⟨xs, hq⟩, q⟩ | ⟨a, rfl, ⟨xs, hq⟩, q⟩ | ⟨z, rfl, q⟩
  · cases r1
    obtain ⟨its, rv, p, hz⟩ := I1.list hq
    refine wpAny_pyIter_list p.isList ?_
    refine ⟨s1.heap.objs.size, [s1.heap.objs.size], _, _, H1, rfl, I1.kept (t' := s1.toks) fun b o e => Heap.get?_push_of_some _ e, turn_list a _, ⟨_, Heap.get?_push_size _ rfl, rfl, rfl⟩, fun b hb => ?_, q⟩
    have e : b = s1.heap.objs.size := by simpa using hb
    subst e
    exact I1.fpOk (Nat.le_refl _) (I1.hok.fresh (Nat.le_refl _))
  · cases r1
    obtain ⟨its, rv, p, hz⟩ := I1.tuple hq
    refine wpAny_pyIter_tuple (show s1.heap.IsTuple a its.toArray from p) ?_
    refine ⟨s1.heap.objs.size, [s1.heap.objs.size], _, _, H1, rfl, I1.kept (t' := s1.toks) fun b o e => Heap.get?_push_of_some _ e, turn_tuple a _, ⟨_, Heap.get?_push_size _ rfl, rfl, rfl⟩, fun b hb => ?_, q⟩
    have e : b = s1.heap.objs.size := by simpa using hb
    subst e
    exact I1.fpOk (Nat.le_refl _) (I1.hok.fresh (Nat.le_refl _))
  · obtain ⟨t, rfl⟩ := r1
    cases ha : z.cps.all (· < 128)
    · exact wpAny_pyIter_wide ha (pi_one (tk := s1.toks) I1 _ (turn_str _ z t "str_iterator" (.inr rfl)) ⟨_, Heap.get?_push_size _ rfl, rfl, rfl⟩ q)
    · exact wpAny_pyIter_ascii ha (pi_one (tk := s1.toks) I1 _ (turn_str _ z t "str_ascii_iterator" (.inl rfl)) ⟨_, Heap.get?_push_size _ rfl, rfl, rfl⟩ q)
/-- the items' number, known once the walk begins -/
theorem pi_impI {tg e : Expr} {t t' : TI} (h : PI X tg e t) (hi : ∀ pins s σ H R, Inv X pins σ H s → t' σ H R → t σ H R) : PI X tg e t' := pi_imp h hi
theorem pe_inv {e : Expr} {t : TE} (h : PE X e t) : PE X e (fun σ H Q => t σ H fun v H1 => (∀ a xs, SqL X.K H1 a xs → xs.length ≤ sizeLine) → (∀ a xs, SqT X.K H1 a xs → xs.length ≤ sizeLine) → Q v H1) := by
  refine ⟨fun pins s σ H Q I hw => thn (h.run pins s σ H _ I hw) fun v s1 ⟨x, H1, I1, r, q⟩ => ⟨x, H1, I1, r, q (fun a xs q => Inv.szL I1 q) fun a xs q => Inv.szT I1 q⟩⟩
theorem pa_inv {e : List Expr} {t : TA} (h : PA X e t) : PA X e (fun σ H Q => t σ H fun v H1 => (∀ a xs, SqL X.K H1 a xs → xs.length ≤ sizeLine) → (∀ a xs, SqT X.K H1 a xs → xs.length ≤ sizeLine) → Q v H1) := by
  refine ⟨fun pos pins s σ H Q I hw => thn (h.run pos pins s σ H _ I hw) fun v s1 ⟨x, H1, I1, r, q⟩ => ⟨x, H1, I1, r, q (fun a xs q => Inv.szL I1 q) fun a xs q => Inv.szT I1 q⟩⟩
theorem di_seq (i : Nat) (hl : PE X l (tP X.K X.mg E f)) : PI X tg l (tI X.K X.mg E (gName i) [i] (stN i) (iSeq f)) :=
  pi_imp (pi_any (pe_inv hl)) fun _ _ σ H R' _ ⟨B, ρ, G, e, h⟩ => tP_bind e h fun d v H1 G1 g1 r1 e1 h1 => by
    intro zL zT
    cases r1 with
    | lst q w => exact .inl ⟨_, rfl, ⟨_, .inl (Same.rd e1.sub q)⟩, h1 _ H1 G1 g1 (wk_list i q w) (by rw [← w.length]; exact zL _ _ (.inl (Same.rd e1.sub q)))⟩
    | tup q n w => exact .inr (.inl ⟨_, rfl, ⟨_, sqt (e1.sub _ _ q)⟩, h1 _ H1 G1 g1 (wk_tup i q w) (by rw [← w.length]; exact zT _ _ (sqt (e1.sub _ _ q)))⟩)
    | str x =>
      obtain ⟨c, h1⟩ := guard_holds h1
      refine .inr (.inr ⟨x, rfl, h1 _ H1 G1 g1 (wk_str x i) ?_⟩)
      have c' := lim_line (of_decide_eq_true c)
      show (signsD x).length ≤ sizeLine
      simpa [signsD, Str.length] using c'
    | _ => exact h1.elim
theorem rp1 {K : PySem.W.Frag} {G : Hp} {vs : List V} {d : PyData} (r : RpAll K G vs [d]) : ∃ v, vs = [v] ∧ Rp K G v d := by
  cases r with | cons r t => cases t; exact ⟨_, rfl, r⟩
theorem rp2 {K : PySem.W.Frag} {G : Hp} {vs : List V} {d e : PyData} (r : RpAll K G vs [d, e]) : ∃ v u, vs = [v, u] ∧ Rp K G v d ∧ Rp K G u e := by
  cases r with | cons r t => cases t with | cons r' t => cases t; exact ⟨_, _, rfl, r, r'⟩
theorem di_range1 (i : Nat) (hg : Gl X "range") (hm : X.mg "range" = none) (ha : PA X [a] (tA X.K X.mg E ga)) (hs : starEach [a] X.env = [(false, eval a X.env)] := by rfl) :
    PI X tg (.Call (.Name "range" p) [a] [] pos) (tI X.K X.mg E (gName i) [i] (stN i) (iArg rng1D ga)) :=
  pi_imp (pi_range1 hg hm ha hs) fun _ _ σ H R' _ ⟨B, ρ, G, e, h⟩ => tA_bind e h fun ds vs H1 G1 g1 r1 e1 h1 => by
    unfold rng1D at h1
    split at h1
    · rename_i j
      obtain ⟨c, h1⟩ := guard_holds h1
      have c := of_decide_eq_true c
      obtain ⟨v, rfl, r⟩ := rp1 r1
      refine ⟨j, by rw [r.int_inv], by omega, by omega, h1 _ H1 G1 g1 (wk_range 0 j.toNat i) ?_⟩
      simp only [rangeD, List.length_map, List.length_range]
      exact lim_line (by unfold LIM; omega)
    · exact False.elim h1
theorem di_range2 (i : Nat) (hg : Gl X "range") (hm : X.mg "range" = none) (ha : PA X [a, b] (tA X.K X.mg E ga)) (hs : starEach [a, b] X.env = [(false, eval a X.env), (false, eval b X.env)] := by rfl) (hs2 : starEach [b] X.env = [(false, eval b X.env)] := by rfl) :
    PI X tg (.Call (.Name "range" p) [a, b] [] pos) (tI X.K X.mg E (gName i) [i] (stN i) (iArg rng2D ga)) :=
  pi_imp (pi_range2 hg hm ha hs hs2) fun _ _ σ H R' _ ⟨B, ρ, G, e, h⟩ => tA_bind e h fun ds vs H1 G1 g1 r1 e1 h1 => by
    unfold rng2D at h1
    split at h1
    · rename_i lo j
      obtain ⟨c, h1⟩ := guard_holds h1
      have c := of_decide_eq_true c
      obtain ⟨v, u, rfl, r, r'⟩ := rp2 r1
      refine ⟨lo, j, by rw [r.int_inv, r'.int_inv], by omega, h1 _ H1 G1 g1 (wk_range lo (j - lo).toNat i) ?_⟩
      simp only [rangeD, List.length_map, List.length_range]
      exact Nat.le_trans (show (j - lo).toNat ≤ 2000000 by omega) (by decide)
    · exact False.elim h1
theorem di_zip (i j : Nat) (hg : Gl X "zip") (hm : X.mg "zip" = none) (ha : PA X [a, b] (tA X.K X.mg E ga)) (hs : starEach [a, b] X.env = (false, eval a X.env) :: starEach [b] X.env := by rfl) (hpl : (backTo pos (starEach [b] X.env)).any (·.1) = false := by rfl) :
    PI X (.Tuple elts kk tpos) (.Call (.Name "zip" p) [a, b] [] pos) (tI X.K X.mg E (g2 X.K i j) [i, j] (st2 i j) (iArg zipD ga)) :=
  pi_imp (RZ.pi_zipA hg hm (pa_inv ha) hs hpl) fun _ _ σ H R' _ ⟨B, ρ, G, e, h⟩ => tA_bind e h fun ds vs H1 G1 g1 r1 e1 h1 => by
    intro zL zT
    unfold zipD at h1
    split at h1
    rotate_right 1
    · exact False.elim h1
    · obtain ⟨v, u, rfl, r, r'⟩ := rp2 r1
      · obtain ⟨a, xs, rfl, q, w⟩ := r.list_inv
        obtain ⟨b, ys, rfl, q', w'⟩ := r'.list_inv
        refine ⟨a, b, xs, ys, rfl, .inl ⟨.inl (Same.rd e1.sub q), .inl (Same.rd e1.sub q'), h1 _ H1 G1 g1 (wk_zipL i j q w q' w') ?_⟩⟩
        rw [List.length_zip, ← w.length]
        exact Nat.le_trans (Nat.min_le_left _ _) (zL _ _ (.inl (Same.rd e1.sub q)))
    · obtain ⟨v, u, rfl, r, r'⟩ := rp2 r1
      · obtain ⟨a, o, xs, rfl, q, _, w⟩ := r.tuple_inv
        obtain ⟨b, o', ys, rfl, q', _, w'⟩ := r'.tuple_inv
        refine ⟨a, b, xs, ys, rfl, .inr ⟨sqt (e1.sub _ _ q), sqt (e1.sub _ _ q'), h1 _ H1 G1 g1 (wk_zipT i j q w q' w') ?_⟩⟩
        rw [List.length_zip, ← w.length]
        exact Nat.le_trans (Nat.min_le_left _ _) (zT _ _ (sqt (e1.sub _ _ q)))
theorem di_enum (i j : Nat) (hg : Gl X "enumerate") (hm : X.mg "enumerate" = none) (ha : PA X [a] (tA X.K X.mg E ga)) (hs : starEach [a] X.env = [(false, eval a X.env)] := by rfl) :
    PI X (.Tuple elts kk tpos) (.Call (.Name "enumerate" p) [a] [] pos) (tI X.K X.mg E (g2 X.K i j) [i, j] (st2 i j) (iArg enumsD ga)) :=
  pi_imp (pi_enum hg hm (pa_inv ha) hs) fun _ _ σ H R' _ ⟨B, ρ, G, e, h⟩ => tA_bind e h fun ds vs H1 G1 g1 r1 e1 h1 => by
    intro zL zT
    unfold enumsD at h1
    split at h1
    · obtain ⟨v, rfl, r⟩ := rp1 r1
      obtain ⟨a, xs, rfl, q, w⟩ := r.list_inv
      refine ⟨a, xs, rfl, .inl (Same.rd e1.sub q), h1 _ H1 G1 g1 (wk_enum i j q w) ?_⟩
      rw [enumD_length, ← w.length]
      exact zL _ _ (.inl (Same.rd e1.sub q))
    · exact False.elim h1
end

/-! ### comprehensions -/
def wipeR (ρ : Rho) : List Nat → Rho
  | [] => ρ
  | v :: vs => (wipeR ρ vs).set v none
theorem wipeR_length (ρ : Rho) : ∀ vs : List Nat, (wipeR ρ vs).length = ρ.length
  | [] => rfl
  | v :: vs => by unfold wipeR; rw [List.length_set, wipeR_length ρ vs]
theorem wipeR_some {ρ : Rho} {i : Nat} {x : Ent} : ∀ {vs : List Nat}, (wipeR ρ vs)[i]? = some (some x) → ρ[i]? = some (some x) ∧ i ∉ vs
  | [], h => ⟨h, by simp⟩
  | v :: vs, h => by
    unfold wipeR at h
    by_cases hi : v = i
    · subst hi
      by_cases hv : v < (wipeR ρ vs).length
      · rw [List.getElem?_set_self hv] at h; cases h
      · rw [List.getElem?_eq_none (by simpa using hv)] at h; cases h
    · rw [List.getElem?_set_ne hi] at h
      obtain ⟨h1, h2⟩ := wipeR_some h
      exact ⟨h1, by simp only [List.mem_cons, not_or]; exact ⟨fun e => hi e.symm, h2⟩⟩
theorem wipe_eq {σ σ' : St} : ∀ {vs : List Nat}, σ'.length = σ.length → (∀ j : Nat, j ∉ vs → σ'[j]? = σ[j]?) → wipe σ' vs = wipe σ vs := by
  intro vs hl h
  apply List.ext_getElem?
  intro j
  have key : ∀ (τ : St) (vs : List Nat) (j : Nat), (wipe τ vs)[j]? = if j ∈ vs then (if j < τ.length then some none else none) else τ[j]? := by
    intro τ vs j
    induction vs with
    | nil => simp [wipe]
    | cons v vs ih =>
      unfold wipe
      by_cases e : v = j
      · subst e
        rw [if_pos List.mem_cons_self]
        by_cases hv : v < τ.length
        · rw [if_pos hv, List.getElem?_set_self (by rw [wipe_length]; exact hv)]
        · rw [if_neg hv]
          exact List.getElem?_eq_none (by simp only [List.length_set, wipe_length]; omega)
      · rw [List.getElem?_set_ne e, ih]
        by_cases hm : j ∈ vs
        · rw [if_pos hm, if_pos (List.mem_cons_of_mem _ hm)]
        · rw [if_neg hm, if_neg (by simp only [List.mem_cons, not_or]; exact ⟨fun z => e z.symm, hm⟩)]
  rw [key, key, hl]
  by_cases hm : j ∈ vs
  · rw [if_pos hm, if_pos hm]
  · rw [if_neg hm, if_neg hm, h j hm]
theorem wipe_keep {σ : St} {j : Nat} : ∀ {vs : List Nat}, j ∉ vs → (wipe σ vs)[j]? = σ[j]?
  | [], _ => rfl
  | v :: vs, h => by
    unfold wipe
    rw [List.getElem?_set_ne fun z => h (by simp [z])]
    exact wipe_keep fun z => h (List.mem_cons_of_mem _ z)
section
variable {K : PySem.W.Frag} {B : Hp × Hp} {G H : Hp} {σ : St} {ρ : Rho}
theorem EnvOk.wiped (h : EnvOk K B G σ H ρ) (vs : List Nat) : EnvOk K B G (wipe σ vs) H (wipeR ρ vs) where
  gr := h.gr
  len := by rw [wipe_length, wipeR_length]; exact h.len
  at_ := fun i e q => by
    obtain ⟨q1, q2⟩ := wipeR_some q
    obtain ⟨v, e1, e2⟩ := h.at_ i e q1
    exact ⟨v, by rw [wipe_keep q2]; exact e1, e2⟩
  sep := fun i j e e' v r1 o1 r2 o2 s1 s2 => by
    obtain ⟨q1, q2⟩ := wipeR_some r1
    obtain ⟨q3, q4⟩ := wipeR_some r2
    rw [wipe_keep q2] at s1
    rw [wipe_keep q4] at s2
    exact h.sep i j e e' v q1 o1 q3 o2 s1 s2
/-- an object that no slot owns is changed -/
theorem EnvOk.other (h : EnvOk K B G σ H ρ) {D : Addr} {o : HO} (hG : G D = none) (hB : B.2 D = none) (no : ∀ (j : Nat) (e' : Ent), ρ[j]? = some (some e') → e'.own = true → σ[j]? ≠ some (some (.ref D))) : EnvOk K B G σ (upd H D o) ρ where
  gr := ⟨h.gr.g, fun b u e => by rw [upd_ne (ne_of_none e hB)]; exact h.gr.h b u e, fun b u e => by rw [upd_ne (ne_of_none e hG)]; exact h.gr.sub b u e, h.gr.ow⟩
  len := h.len
  at_ := fun i e q => by
    obtain ⟨v, e1, e2⟩ := h.at_ i e q
    refine ⟨v, e1, ?_⟩
    cases e with
    | fz d => exact e2
    | ow ds =>
      obtain ⟨l, vs, rfl, q', z⟩ := e2
      exact ⟨l, vs, rfl, by rw [upd_ne fun z => no i _ q rfl (by rw [← z]; exact e1)]; exact q', z⟩
    | od ds =>
      obtain ⟨l, vs, rfl, q', z⟩ := e2
      exact ⟨l, vs, rfl, by rw [upd_ne fun z => no i _ q rfl (by rw [← z]; exact e1)]; exact q', z⟩
  sep := h.sep
end
theorem Gr.frz {G H G' H' : Hp} {D : Addr} {o : HO} (g : Gr G H G' H') (hD : H' D = some o) (hG : G' D = none) (hH : H D = none) : Gr G H (upd G' D o) H' where
  g := g.g.trans (same_upd hG)
  h := g.h
  sub := fun b u e => by
    by_cases hb : b = D
    · subst hb; rw [upd_same] at e; cases e; exact hD
    · rw [upd_ne hb] at e; exact g.sub b u e
  ow := fun l u e n => by
    rw [upd_ne (ne_of_none e hH)]
    exact g.ow l u e n
theorem Gr.other {G H G' H' : Hp} {D : Addr} {o : HO} (g : Gr G H G' H') (hG : G' D = none) (hH : H D = none) : Gr G H G' (upd H' D o) where
  g := g.g
  h := fun b u e => by rw [upd_ne (ne_of_none e hH)]; exact g.h b u e
  sub := fun b u e => by rw [upd_ne (ne_of_none e hG)]; exact g.sub b u e
  ow := g.ow
def lcGo {α : Type} (st : α → Rho → Rho) (ft : Rho → R Bool) (fe : Rho → R PyData) (ρ : Rho) : List α → R (List PyData)
  | [] => .ok []
  | d :: ds => (ft (st d ρ)).bind fun b => if b = true then (fe (st d ρ)).bind fun y => (lcGo st ft fe ρ ds).bind fun ys => .ok (y :: ys) else lcGo st ft fe ρ ds
def fLc {α : Type} (fi : Rho → R (List α)) (st : α → Rho → Rho) (own : List Nat) (ft : Rho → R Bool) (fe : Rho → R PyData) : Rho → R PyData := fun ρ => (fi ρ).bind fun items => (lcGo st ft fe (wipeR ρ own) items).bind fun ds => .ok (.list ds)
def fYes : Rho → R Bool := fun _ => .ok true
/-- an expression whose value is a new list -/
def tF (K : PySem.W.Frag) (mg : Str → Option Value) (E : XK) (f : Rho → R PyData) : TE := fun σ H Q => ∃ B ρ G, EnvOk K B G σ H ρ ∧
  (f ρ).holds (fun d => ∀ ds p vs H' G', d = .list ds → Gr G H G' H' → H p = none → H' p = some (.lst vs) → G' p = none → RpAll K G' vs ds → Q (.ref p) H') (XW K mg E B)
theorem tF_of {K : PySem.W.Frag} {mg : Str → Option Value} {E : XK} {f : Rho → R PyData} {σ : St} {H : Hp} {Q : VK} (h : tP K mg E f σ H Q) : tF K mg E f σ H Q := by
  obtain ⟨B, ρ, G, e, h⟩ := h
  refine ⟨B, ρ, G, e, h.mono (fun d hd ds p vs H' G' ed g hp hv hg r => ?_) fun _ z => z⟩
  subst ed
  exact hd _ H' (upd G' p (.lst vs)) (g.frz hv hg hp) (.lst upd_same (RpAll.mono (same_upd hg) r))
theorem pe_tF {X : Cx} {E : XK} {e : Expr} {f : Rho → R PyData} (h : PE X e (tF X.K X.mg E f)) : PE X e (tP X.K X.mg E f) := pe_imp h fun _ _ _ _ _ _ z => tF_of z
theorem tLc_of {α : Type} {K : PySem.W.Frag} {mg : Str → Option Value} {E : XK} {g : TG} {sl own : List Nat} {st : α → Rho → Rho} {fi : Rho → R (List α)} {ft : Rho → R Bool} {fe : Rho → R PyData} {σ : St} {H : Hp} {Q : VK}
    (hsl : ∀ j : Nat, j ∈ sl → j ∈ own) (hst : ∀ (d : α) (ρ : Rho), wipeR (st d (wipeR ρ own)) own = wipeR ρ own) (h : tF K mg E (fLc fi st own ft fe) σ H Q) :
    tLc (tI K mg E g sl st fi) g (tT K mg E ft) (tP K mg E fe) own σ H Q := by
  obtain ⟨B, ρ, G, e, h⟩ := h
  refine ⟨B, ρ, G, e, (R.holds_bind.mp h).mono (fun items h1 J H1 G1 g1 wk hz D nD => ?_) fun _ z => z⟩
  have e1 := e.step g1
  have nG1 : G1 D = none := e1.sub.free nD
  have nB : B.2 D = none := e1.gr.h.free nD
  have nH : H D = none := g1.h.free nD
  have ew := e1.wiped own
  have noD := ew.own_ne nD
  refine ⟨fun i m H2 => m = items.length - i ∧ i ≤ items.length ∧ ∃ G2 acc ys, EnvOk K B G2 (wipe σ own) H2 (wipeR ρ own) ∧ Gr G1 H1 G2 H2 ∧ H2 D = some (.lst acc) ∧ G2 D = none ∧ RpAll K G2 acc ys ∧ ys.length ≤ i ∧
    (lcGo st ft fe (wipeR ρ own) (items.drop i)).holds (fun zs => ∀ p vs H' G', Gr G H G' H' → H p = none → H' p = some (.lst vs) → G' p = none → RpAll K G' vs (ys ++ zs) → Q (.ref p) H') (XW K mg E B),
    ⟨items.length, rfl, Nat.zero_le _, G1, [], [], ?_, (Gr.refl e1.sub).other nG1 nD, upd_same, nG1, .nil, Nat.le_refl _, ?_⟩, ?_⟩
  · exact ew.other nG1 nB noD
  · refine R.holds.mono (R.holds_bind.mp h1) (fun zs hq p vs H' G' gg hp hv hg r => hq zs p vs H' G' rfl gg hp hv hg r) fun _ z => z
  rintro i m H2 ⟨rfl, hi, G2, acc, ys, e2, g2, hD, hG, hr, hy, h2⟩
  by_cases hlt : i < items.length
  · obtain ⟨d, hd⟩ : ∃ d, items[i]? = some d := ⟨_, List.getElem?_eq_getElem hlt⟩
    have hdrop : items.drop i = d :: items.drop (i + 1) := by
      rw [List.drop_eq_getElem_cons hlt]
      rw [List.getElem?_eq_getElem hlt] at hd
      cases hd
      rfl
    rw [hdrop] at h2
    refine .inr ⟨wk.go i d G2 H2 g2.g e2.sub hd, fun H3 => ∃ G3 acc ys, EnvOk K B G3 (wipe σ own) H3 (wipeR ρ own) ∧ Gr G1 H1 G3 H3 ∧ H3 D = some (.lst acc) ∧ G3 D = none ∧ RpAll K G3 acc ys ∧ ys.length ≤ i + 1 ∧
      (lcGo st ft fe (wipeR ρ own) (items.drop (i + 1))).holds (fun zs => ∀ p vs H' G', Gr G H G' H' → H p = none → H' p = some (.lst vs) → G' p = none → RpAll K G' vs (ys ++ zs) → Q (.ref p) H') (XW K mg E B),
      fun H3 ⟨G3, z⟩ => ⟨items.length - (i + 1), by omega, rfl, hlt, G3, z⟩, fun x H3 hyl => ?_⟩
    refine wk.yld i d G2 H2 x H3 B _ _ _ g2.g e2 hd hyl fun σ3 H4 G4 e4 g4 hl hs => ?_
    have hw : wipe σ3 own = wipe σ own := by
      have a1 := wipe_eq (vs := own) hl fun j hj => hs j fun z => hj (hsl j z)
      rw [a1]
      exact wipe_eq (wipe_length _ _) fun j hj => wipe_keep hj
    refine ⟨hw, ?_⟩
    unfold lcGo at h2
    -- the restricted state behind the turn
    have back : ∀ {G5 H5}, EnvOk K B G5 σ3 H5 (st d (wipeR ρ own)) → EnvOk K B G5 (wipe σ own) H5 (wipeR ρ own) := fun z => by
      have z' := z.wiped own
      rw [hw, hst] at z'
      exact z'
    refine tT_bind e4 h2 fun b H5 G5 g5 e5 h5 => ?_
    have gAll : Gr G1 H1 G5 H5 := g2.trans (g4.trans g5)
    have hD5 : H5 D = some (.lst acc) := g5.h _ _ (g4.h _ _ hD)
    have hG5 : G5 D = none := g5.ow _ _ (g4.h _ _ hD) (g4.ow _ _ hD hG)
    have hr5 := RpAll.mono g5.g (RpAll.mono g4.g hr)
    cases b with
    | false =>
      simp only [Bool.false_eq_true, if_false] at h5 ⊢
      exact ⟨G5, acc, ys, back e5, gAll, hD5, hG5, hr5, by omega, h5⟩
    | true =>
      simp only [if_true] at h5 ⊢
      refine tP_bind e5 h5 fun y v H6 G6 g6 r6 e6 h6 => ?_
      have hD6 : H6 D = some (.lst acc) := g6.h _ _ hD5
      have hG6 : G6 D = none := g6.ow _ _ hD5 hG5
      refine ⟨acc, hD6, ?_, G6, acc ++ [v], ys ++ [y], (back e6).other hG6 nB noD, (gAll.trans g6).other hG6 nD, upd_same, hG6, (RpAll.mono g6.g hr5).append (.cons r6 .nil), by simp; omega, ?_⟩
      · rw [hr5.length]
        exact Nat.lt_of_lt_of_le (Nat.lt_of_le_of_lt hy hlt) hz
      · refine R.holds.mono (R.holds_bind.mp h6) (fun zs hq p vs H' G' gg hp hv hg r => hq p vs H' G' gg hp hv hg ?_) fun _ z => z
        rw [List.append_assoc] at r
        exact r
  · have ei : i = items.length := by omega
    subst ei
    rw [List.drop_length] at h2
    refine .inl ⟨wk.stop G2 H2 g2.g e2.sub, ?_⟩
    refine h2 D acc H2 G2 (g1.trans g2) nH hD hG ?_
    rw [List.append_nil]
    exact hr
end L2.PD

set_option Elab.async false
set_option linter.all false
set_option autoImplicit false
set_option maxRecDepth 100000
/-! PD4: comprehensions as expressions, statements, a def's body. -/
namespace L2.PD
open PySem PySem.Spec PyProof.Rows L2

theorem wst_N (i : Nat) (d : PyData) (ρ : Rho) : wipeR (stN i d (wipeR ρ [i])) [i] = wipeR ρ [i] := by
  simp [wipeR, stN, List.set_set]
theorem wst_2 (i j : Nat) (p : PyData × PyData) (ρ : Rho) : wipeR (st2 i j p (wipeR ρ [i, j])) [i, j] = wipeR ρ [i, j] := by
  simp only [wipeR, st2]
  by_cases h : i = j
  · subst h
    simp [List.set_set]
  · apply List.ext_getElem?
    intro m
    simp only [List.getElem?_set, List.length_set]
    by_cases h1 : i = m <;> by_cases h2 : j = m <;> simp_all
section
variable {X : Cx} {E : XK}
theorem dts_nil : PTs X [] (tT X.K X.mg E fYes) := ⟨fun pins s σ H Q I ⟨B, ρ, G, e, h⟩ => pts_nil.run pins s σ H Q I (h H G (Gr.refl e.sub))⟩
theorem dts_one {c : Expr} {t : Rho → R Bool} (h : PT X c (tT X.K X.mg E t)) : PTs X [c] (tT X.K X.mg E t) := pts_one h
theorem de_lc {α : Type} {elt tg iter : Expr} {ifs : List Expr} {scope : Scope} {own : List (Str × Nat)} {pos : Pos} {g : TG} {sl : List Nat} {st : α → Rho → Rho} {fi : Rho → R (List α)} {ft : Rho → R Bool} {fe : Rho → R PyData}
    (hc : X.calm = true) (hN : X.N.Nodup) (hsl : ∀ j : Nat, j ∈ sl → j ∈ own.map (·.2)) (hst : ∀ (d : α) (ρ : Rho), wipeR (st d (wipeR ρ (own.map (·.2)))) (own.map (·.2)) = wipeR ρ (own.map (·.2)))
    (hi : PI X tg iter (tI X.K X.mg E g sl st fi)) (ok : BlkOk X.N X.env.scope scope own)
    (hg : ∀ (s : Shared) (H : Hp) (C : Addr) (cl : List (Str × Addr)) (fp : List Addr), PG (X.blk s H scope (compEnvC scope cl C X.env) fp) tg g)
    (ht : ∀ (s : Shared) (H : Hp) (C : Addr) (cl : List (Str × Addr)) (fp : List Addr), PTs (X.blk s H scope (compEnvC scope cl C X.env) fp) ifs (tT X.K X.mg E ft))
    (he : ∀ (s : Shared) (H : Hp) (C : Addr) (cl : List (Str × Addr)) (fp : List Addr), PE (X.blk s H scope (compEnvC scope cl C X.env) fp) elt (tP X.K X.mg E fe)) (hs : ∀ x, foldedSetIterable iter X.env x = pure x := by intro _; rfl) :
    PE X (.ListComp elt [⟨tg, iter, ifs, 0⟩] scope pos) (tF X.K X.mg E (fLc fi st (own.map (·.2)) ft fe)) :=
  pe_imp (pe_lc hc hN hi ok hg ht he hs) fun _ _ _ _ _ _ h => tLc_of hsl hst h
end

/-! ### statements -/
theorem OutOk.mono {K : PySem.W.Frag} {B : Hp × Hp} {G G' : Hp} {D : Ends} {o : Out} (h : OutOk K B G D o) (s : Same G G') : OutOk K B G' D o := by
  cases o with
  | nx ρ => exact fun σ' H' G'' e s' => h σ' H' G'' e (s.trans s')
  | bk ρ => exact fun σ' H' G'' e s' => h σ' H' G'' e (s.trans s')
  | ct ρ => exact fun σ' H' G'' e s' => h σ' H' G'' e (s.trans s')
  | ret d => exact h
def sSeq (f g : Rho → R Out) : Rho → R Out := fun ρ => (f ρ).bind fun o => match o with
  | .nx ρ' => g ρ'
  | o => .ok o
def sNil : Rho → R Out := fun ρ => .ok (.nx ρ)
def sSet (i : Nat) (f : Rho → R PyData) : Rho → R Out := fun ρ => (f ρ).bind fun d => .ok (.nx (ρ.set i (some (.fz d))))
def listOf : PyData → R (List PyData)
  | .list ds => .ok ds
  | _ => .no
def sSetO (i : Nat) (f : Rho → R PyData) : Rho → R Out := fun ρ => (f ρ).bind fun d => (listOf d).bind fun ds => .ok (.nx (ρ.set i (some (.ow ds))))
def sIf (c : Rho → R Bool) (f g : Rho → R Out) : Rho → R Out := fun ρ => (c ρ).bind fun b => if b = true then f ρ else g ρ
def sRet (f : Rho → R PyData) : Rho → R Out := fun ρ => (f ρ).bind fun d => .ok (.ret d)
def sRetN : Rho → R Out := fun _ => .ok (.ret .none)
def sDrop (f : Rho → R PyData) : Rho → R Out := fun ρ => (f ρ).bind fun _ => .ok (.nx ρ)
def sNo : Rho → R Out := fun _ => .no
def owOf (ρ : Rho) (i : Nat) : R (List PyData) := match ρ[i]? with
  | some (some (.ow ds)) => .ok ds
  | _ => .no
def sApp (i : Nat) (f : Rho → R PyData) : Rho → R Out := fun ρ => (owOf ρ i).bind fun ds => (f ρ).bind fun d => guard (decide (ds.length < LIM)) (.ok (.nx (ρ.set i (some (.ow (ds ++ [d]))))))
def sExt (i : Nat) (f : Rho → R PyData) : Rho → R Out := fun ρ => (owOf ρ i).bind fun ds => (f ρ).bind fun d => (listOf d).bind fun es => guard (decide (ds.length + es.length ≤ LIM)) (.ok (.nx (ρ.set i (some (.ow (ds ++ es))))))
def sPut (i : Nat) (fk fv : Rho → R PyData) : Rho → R Out := fun ρ => (owOf ρ i).bind fun ds => (fv ρ).bind fun v => (fk ρ).bind fun k => (intOf k).bind fun n => match ixN ds.length n with
  | some j => .ok (.nx (ρ.set i (some (.ow (ds.set j v)))))
  | none => .no
def sFz (i : Nat) (f : Rho → R Out) : Rho → R Out := fun ρ => match ρ[i]? with
  | some (some (.ow ds)) => f (ρ.set i (some (.fz (.list ds))))
  | some (some (.od ds)) => f (ρ.set i (some (.fz (.dict ds))))
  | _ => .no
def pairOf : PyData → R (PyData × PyData)
  | .tuple [a, b] => .ok (a, b)
  | _ => .no
def sSet2 (i j : Nat) (f : Rho → R PyData) : Rho → R Out := fun ρ => (f ρ).bind fun d => (pairOf d).bind fun p => .ok (.nx (st2 i j p ρ))
def forGo {α : Type} (st : α → Rho → Rho) (fb : Rho → R Out) : List α → Rho → R Out
  | [], ρ => .ok (.nx ρ)
  | d :: ds, ρ => (fb (st d ρ)).bind fun o => match o with
    | .nx ρ' => forGo st fb ds ρ'
    | .ct ρ' => forGo st fb ds ρ'
    | .bk ρ' => .ok (.nx ρ')
    | .ret v => .ok (.ret v)
def sFor {α : Type} (fi : Rho → R (List α)) (st : α → Rho → Rho) (fb : Rho → R Out) : Rho → R Out := fun ρ => (fi ρ).bind fun items => forGo st fb items ρ
def whGo (c : Rho → R Bool) (fb : Rho → R Out) : Nat → Rho → R Out
  | 0, _ => .no
  | n + 1, ρ => (c ρ).bind fun b => if b = true then (fb ρ).bind fun o => match o with
    | .nx ρ' => whGo c fb n ρ'
    | .ct ρ' => whGo c fb n ρ'
    | .bk ρ' => .ok (.nx ρ')
    | .ret v => .ok (.ret v)
    else .ok (.nx ρ)
section
variable {X : Cx} {E : XK} {st : Stmt} {sts : List Stmt} {f g : Rho → R Out} {c : Rho → R Bool} {fe fv : Rho → R PyData} {e ce : Expr} {pos : Pos}
theorem dss_nil : PSs X [] (tS X.K X.mg E sNil) := pss_imp pss_nil fun _ _ σ H D _ ⟨B, ρ, G, e, h⟩ => h σ H G e (Same.refl _)
theorem dss_one (h : PS X st (tS X.K X.mg E f)) : PSs X [st] (tS X.K X.mg E f) := pss_one h
theorem dss_cons (h : PS X st (tS X.K X.mg E f)) (h' : PSs X sts (tS X.K X.mg E g)) : PSs X (st :: sts) (tS X.K X.mg E (sSeq f g)) :=
  pss_imp (pss_cons h h') fun _ _ σ H D _ ⟨B, ρ, G, e, h⟩ => ⟨B, ρ, G, e, (R.holds_bind.mp h).mono (fun o ho => by
    cases o with
    | nx ρ' => exact fun σ' H' G' e' s' => ⟨B, ρ', G', e', R.holds.mono ho (fun o' z => z.mono s') fun _ z => z⟩
    | ret d => exact ho
    | bk ρ' => exact ho
    | ct ρ' => exact ho) fun _ z => z⟩
theorem ds_no : PS X st (tS X.K X.mg E sNo) := ps_imp ps_never fun _ _ σ H D _ ⟨B, ρ, G, e, h⟩ => h.elim
theorem dss_no : PSs X sts (tS X.K X.mg E sNo) := pss_imp pss_never fun _ _ σ H D _ ⟨B, ρ, G, e, h⟩ => h.elim
theorem ds_pass : PS X (.Pass pos) (tS X.K X.mg E sNil) := ps_imp ps_pass fun _ _ σ H D _ ⟨B, ρ, G, e, h⟩ => h σ H G e (Same.refl _)
theorem ds_set {i : Nat} {x : Str} {pos' : Pos} (hN : X.N.Nodup) (hi : X.N[i]? = some x) (hx : Loc X.env.scope x) (he : PE X e (tP X.K X.mg E fe)) (hs : swapsWith e (some (.Name x pos')) pos.line X.env = pure false := by rfl)
    (hf : X.fn x = true ∨ X.env.scope.names.lookup x = some .local := by first | exact .inl rfl | exact .inr rfl | assumption) : PS X (.Assign [.Name x pos'] e pos) (tS X.K X.mg E (sSet i fe)) :=
  ps_imp (ps_set hN hi hx he hs hf) fun _ _ σ H D _ ⟨B, ρ, G, e, h⟩ => tP_bind e h fun d v H1 G1 g1 r1 e1 h1 => h1 _ H1 G1 (e1.setF i r1) g1.g
theorem tF_bind {B : Hp × Hp} {G H : Hp} {σ : St} {ρ : Rho} {β : Type} {P : β → Prop} {f : Rho → R PyData} {k : PyData → R β} {Q : VK} (e : EnvOk X.K B G σ H ρ) (h : ((f ρ).bind k).holds P (XW X.K X.mg E B))
    (hq : ∀ ds p vs H1 G1, Gr G H G1 H1 → H p = none → H1 p = some (.lst vs) → G1 p = none → RpAll X.K G1 vs ds → EnvOk X.K B G1 σ H1 ρ → (k (.list ds)).holds P (XW X.K X.mg E B) → Q (.ref p) H1) : tF X.K X.mg E f σ H Q :=
  ⟨B, ρ, G, e, (R.holds_bind.mp h).mono (fun d hd ds p vs H1 G1 ed g hp hv hg r => by subst ed; exact hq ds p vs H1 G1 g hp hv hg r (e.step g) hd) fun _ z => z⟩
theorem tAsgO_of {i : Nat} {σ : St} {H : Hp} {D : Ends} (h : tS X.K X.mg E (sSetO i fe) D σ H) : tAsg (tF X.K X.mg E fe) (gName i) D σ H := by
  obtain ⟨B, ρ, G, e, h⟩ := h
  refine tF_bind e h fun ds p vs H1 G1 g1 hp hv hg r e1 h1 => ?_
  refine h1 _ H1 G1 (e1.setO i ⟨p, vs, rfl, hv, hg, e.gr.h.free hp, r⟩ fun j e' q o z => ?_) g1.g
  exact e.own_ne hp j e' q o z
theorem ds_setO {i : Nat} {x : Str} {pos' : Pos} (hN : X.N.Nodup) (hi : X.N[i]? = some x) (hx : Loc X.env.scope x) (he : PE X e (tF X.K X.mg E fe)) (hs : swapsWith e (some (.Name x pos')) pos.line X.env = pure false := by rfl)
    (hf : X.fn x = true ∨ X.env.scope.names.lookup x = some .local := by first | exact .inl rfl | exact .inr rfl | assumption) : PS X (.Assign [.Name x pos'] e pos) (tS X.K X.mg E (sSetO i fe)) :=
  ps_imp (ps_set hN hi hx he hs hf) fun _ _ σ H D _ h => tAsgO_of h
theorem tAsgF_of {i : Nat} {σ : St} {H : Hp} {D : Ends} (h : tS X.K X.mg E (sSet i fe) D σ H) : tAsg (tF X.K X.mg E fe) (gName i) D σ H := by
  obtain ⟨B, ρ, G, e, h⟩ := h
  exact tF_of (tP_bind e h fun d v H1 G1 g1 r1 e1 h1 => h1 _ H1 G1 (e1.setF i r1) g1.g)
section
variable {α : Type} {i : Nat} {y : Str} {py : Pos} {elt tg iter : Expr} {ifs : List Expr} {scope : Scope} {own : List (Str × Nat)} {spos : Pos} {tg' : TG} {sl : List Nat} {stt : α → Rho → Rho} {fi : Rho → R (List α)} {ft : Rho → R Bool}
theorem ds_setLcX (hc : X.calm = true) (hN : X.N.Nodup) (hy : X.N[i]? = some y) (hyl : X.env.scope.names.lookup y = some .local) (hsw : swapsWith (.ListComp elt [⟨tg, iter, ifs, 0⟩] scope pos) (some (.Name y py)) spos.line X.env = pure true)
    (hsl : ∀ j : Nat, j ∈ sl → j ∈ own.map (·.2)) (hst : ∀ (d : α) (ρ : Rho), wipeR (stt d (wipeR ρ (own.map (·.2)))) (own.map (·.2)) = wipeR ρ (own.map (·.2)))
    (hi : PI X tg iter (tI X.K X.mg E tg' sl stt fi)) (ok : BlkOk X.N X.env.scope scope own)
    (hg : ∀ (s : Shared) (H : Hp) (C : Addr) (cl : List (Str × Addr)) (fp : List Addr), PG (X.blk s H scope (compEnvC scope cl C X.env) fp) tg tg')
    (ht : ∀ (s : Shared) (H : Hp) (C : Addr) (cl : List (Str × Addr)) (fp : List Addr), PTs (X.blk s H scope (compEnvC scope cl C X.env) fp) ifs (tT X.K X.mg E ft))
    (he : ∀ (s : Shared) (H : Hp) (C : Addr) (cl : List (Str × Addr)) (fp : List Addr), PE (X.blk s H scope (compEnvC scope cl C X.env) fp) elt (tP X.K X.mg E fe)) (hs : ∀ x, foldedSetIterable iter X.env x = pure x := by intro _; rfl) :
    PS X (.Assign [.Name y py] (.ListComp elt [⟨tg, iter, ifs, 0⟩] scope pos) spos) (tAsg (tF X.K X.mg E (fLc fi stt (own.map (·.2)) ft fe)) (gName i)) :=
  ps_imp (ps_setLc hc hN hy hyl hsw hi ok hg ht he hs) fun _ _ σ H D _ h => tLc_of hsl hst h
theorem ds_setLc (h : PS X (.Assign [.Name y py] (.ListComp elt [⟨tg, iter, ifs, 0⟩] scope pos) spos) (tAsg (tF X.K X.mg E fe) (gName i))) : PS X (.Assign [.Name y py] (.ListComp elt [⟨tg, iter, ifs, 0⟩] scope pos) spos) (tS X.K X.mg E (sSet i fe)) :=
  ps_imp h fun _ _ σ H D _ h => tAsgF_of h
theorem ds_setLcO (h : PS X (.Assign [.Name y py] (.ListComp elt [⟨tg, iter, ifs, 0⟩] scope pos) spos) (tAsg (tF X.K X.mg E fe) (gName i))) : PS X (.Assign [.Name y py] (.ListComp elt [⟨tg, iter, ifs, 0⟩] scope pos) spos) (tS X.K X.mg E (sSetO i fe)) :=
  ps_imp h fun _ _ σ H D _ h => tAsgO_of h
end
theorem ds_if {a b : List Stmt} (hc : PT X ce (tT X.K X.mg E c)) (ha : PSs X a (tS X.K X.mg E f)) (hb : PSs X b (tS X.K X.mg E g)) : PS X (.If ce a b pos) (tS X.K X.mg E (sIf c f g)) :=
  ps_imp (ps_if hc ha hb) fun _ _ σ H D _ ⟨B, ρ, G, e, h⟩ => tT_bind e h fun k H1 G1 g1 e1 h1 => by
    cases k with
    | true => exact ⟨B, ρ, G1, e1, R.holds.mono h1 (fun o z => z.mono g1.g) fun _ z => z⟩
    | false => exact ⟨B, ρ, G1, e1, R.holds.mono h1 (fun o z => z.mono g1.g) fun _ z => z⟩
theorem ds_ret (he : PE X e (tP X.K X.mg E fe)) : PS X (.Return (some e) pos) (tS X.K X.mg E (sRet fe)) :=
  ps_imp (ps_ret he) fun _ _ σ H D _ ⟨B, ρ, G, e, h⟩ => tP_bind e h fun d v H1 G1 g1 r1 e1 h1 => h1 v H1 G1 e1.gr r1
theorem ds_retN : PS X (.Return none pos) (tS X.K X.mg E sRetN) := ps_imp ps_retN fun _ _ σ H D _ ⟨B, ρ, G, e, h⟩ => h _ H G e.gr .non
theorem ds_expr (he : PE X e (tP X.K X.mg E fe)) (hs : swapsWith e none pos.line X.env = pure false := by rfl) : PS X (.Expr e pos) (tS X.K X.mg E (sDrop fe)) :=
  ps_imp (ps_expr he hs) fun _ _ σ H D _ ⟨B, ρ, G, e, h⟩ => tP_bind e h fun d v H1 G1 g1 r1 e1 h1 => h1 σ H1 G1 e1 g1.g
theorem owOf_inv {B : Hp × Hp} {G H : Hp} {σ : St} {ρ : Rho} {i : Nat} {β : Type} {k : List PyData → R β} {P : β → Prop} {E' : Exn → Prop} (e : EnvOk X.K B G σ H ρ) (h : ((owOf ρ i).bind k).holds P E') :
    ∃ ds l vs, ρ[i]? = some (some (.ow ds)) ∧ σ[i]? = some (some (.ref l)) ∧ H l = some (.lst vs) ∧ G l = none ∧ B.2 l = none ∧ RpAll X.K G vs ds ∧ (k ds).holds P E' := by
  unfold owOf at h
  split at h
  · rename_i ds q
    obtain ⟨v, e1, l, vs, rfl, e2, e3, e4, r⟩ := e.at_ i _ q
    exact ⟨ds, l, vs, q, e1, e2, e3, e4, r, h⟩
  · exact h.elim
theorem ds_app (i : Nat) {x : Str} {pn apos cpos : Pos} (he : PE X e (tP X.K X.mg E fe)) (hN : X.N[i]? = some x := by rfl) (hv : Vis X.env.scope x := by first | exact Or.inl rfl | exact Or.inr (Or.inl rfl) | exact Or.inr (Or.inr rfl)) (hd : (x == ("__debug__" : Str)) = false := by decide)
    (hcd : (x == ("__classdict__" : Str)) = false := by decide) (hs : starEach [e] X.env = (false, eval e X.env) :: starEach [] X.env := by rfl)
    (hbase : attributeBase (.Name x pn) "append" X.env (eval (.Name x pn) X.env) = eval (.Name x pn) X.env := by rfl)
    (hfew : ((backTo cpos (starEach [e] X.env)).all (fun x => !x.1) && (backToKw cpos (keywordEach [] X.env)).all (fun x => x.1.isSome)
      && decide ([e].length + ([] : List Keyword).length + (if ([] : List Keyword).isEmpty then 0 else 1) < 30)) = true := by rfl)
    (hline : (apos.endLine == cpos.line) = true := by rfl) (hplain : (backTo cpos (starEach [] X.env)).any (·.1) = false := by rfl)
    (hsw : swapsWith (.Call (.Attribute (.Name x pn) "append" apos) [e] [] cpos) none pos.line X.env = pure false := by rfl) :
    PS X (.Expr (.Call (.Attribute (.Name x pn) "append" apos) [e] [] cpos) pos) (tS X.K X.mg E (sApp i fe)) :=
  ps_imp (ps_expr (pe_bm PySem.F.plainAttrs_list PySem.F.slot_list_append PySem.F.type_list_append mt_append (pe_var (i := i) hN hv hd hcd) (pa_cons he pa_nil hs) hbase hfew hline hs hplain) hsw) fun _ _ σ H D _ ⟨B, ρ, G, e, h⟩ => by
    obtain ⟨ds, l, vs, q, e1, e2, e3, e4, r, h⟩ := owOf_inv e h
    refine ⟨.ref l, e1, .inl ⟨rfl, vs, SqL.of e2⟩, tP_bind e h fun d v H1 G1 g1 r1 ev h1 => ?_⟩
    obtain ⟨c, h1⟩ := guard_holds h1
    have c := of_decide_eq_true c
    rw [← r.length] at c
    have e2' := g1.h _ _ e2
    refine ⟨l, vs, _, rfl, rfl, e2', lim_lt (Nat.le_of_lt c), ?_⟩
    exact h1 σ _ G1 (ev.write q rfl e1 ⟨l, _, rfl, upd_same, g1.ow _ _ e2 e3, e4, (RpAll.mono g1.g r).append (.cons r1 .nil)⟩) g1.g
theorem ds_ext (i : Nat) {x : Str} {pn apos cpos : Pos} (he : PE X e (tF X.K X.mg E fe)) (hN : X.N[i]? = some x := by rfl) (hv : Vis X.env.scope x := by first | exact Or.inl rfl | exact Or.inr (Or.inl rfl) | exact Or.inr (Or.inr rfl)) (hd : (x == ("__debug__" : Str)) = false := by decide)
    (hcd : (x == ("__classdict__" : Str)) = false := by decide) (hs : starEach [e] X.env = (false, eval e X.env) :: starEach [] X.env := by rfl)
    (hbase : attributeBase (.Name x pn) "extend" X.env (eval (.Name x pn) X.env) = eval (.Name x pn) X.env := by rfl)
    (hfew : ((backTo cpos (starEach [e] X.env)).all (fun x => !x.1) && (backToKw cpos (keywordEach [] X.env)).all (fun x => x.1.isSome)
      && decide ([e].length + ([] : List Keyword).length + (if ([] : List Keyword).isEmpty then 0 else 1) < 30)) = true := by rfl)
    (hline : (apos.endLine == cpos.line) = true := by rfl) (hplain : (backTo cpos (starEach [] X.env)).any (·.1) = false := by rfl)
    (hsw : swapsWith (.Call (.Attribute (.Name x pn) "extend" apos) [e] [] cpos) none pos.line X.env = pure false := by rfl) :
    PS X (.Expr (.Call (.Attribute (.Name x pn) "extend" apos) [e] [] cpos) pos) (tS X.K X.mg E (sExt i fe)) :=
  ps_imp (ps_expr (pe_bm PySem.F.plainAttrs_list PySem.F.slot_list_extend PySem.F.type_list_extend mt_extend (pe_var (i := i) hN hv hd hcd) (pa_cons he pa_nil hs) hbase hfew hline hs hplain) hsw) fun _ _ σ H D _ ⟨B, ρ, G, e, h⟩ => by
    obtain ⟨ds, l, vs, q, e1, e2, e3, e4, r, h⟩ := owOf_inv e h
    refine ⟨.ref l, e1, .inl ⟨rfl, vs, SqL.of e2⟩, tF_bind e h fun es p ws H1 G1 g1 hp hv hg r1 ev h1 => ?_⟩
    obtain ⟨c, h1⟩ := guard_holds h1
    have c := of_decide_eq_true c
    rw [← r.length, ← r1.length] at c
    have e2' := g1.h _ _ e2
    refine ⟨l, p, vs, ws, rfl, rfl, e2', hv, lim_line c, ?_⟩
    exact h1 σ _ G1 (ev.write q rfl e1 ⟨l, _, rfl, upd_same, g1.ow _ _ e2 e3, e4, (RpAll.mono g1.g r).append r1⟩) g1.g
theorem ds_put (i : Nat) {x : Str} {k : Expr} {fk : Rho → R PyData} {pn tp : Pos} (he : PE X e (tP X.K X.mg E fe)) (hk : PE X k (tP X.K X.mg E fk)) (hN : X.N[i]? = some x := by rfl) (hv : Vis X.env.scope x := by first | exact Or.inl rfl | exact Or.inr (Or.inl rfl) | exact Or.inr (Or.inr rfl)) (hd : (x == ("__debug__" : Str)) = false := by decide)
    (hcd : (x == ("__classdict__" : Str)) = false := by decide)
    (ha : ∀ v, assign (.Subscript (.Name x pn) k tp) X.env v = (do
      let ov ← holding [v] (eval (.Name x pn) X.env)
      let iv ← holding [v, ov] (eval k X.env)
      standAt tp
      holding [v, ov, iv] (setItem ov iv v)
      release [v, ov, iv] []) := by intro _; rfl)
    (hs : swapsWithSole [.Subscript (.Name x pn) k tp] e pos.line X.env = pure false := by rfl) (hw : swappedStores [.Subscript (.Name x pn) k tp] e X.env = pure none := by rfl)
    (h1 : (assignEach [.Subscript (.Name x pn) k tp] X.env).map (·.2) = [assign (.Subscript (.Name x pn) k tp) X.env] := by rfl) :
    PS X (.Assign [.Subscript (.Name x pn) k tp] e pos) (tS X.K X.mg E (sPut i fk fe)) :=
  ps_imp (ps_asg he (pg_sub (pe_var (i := i) hN hv hd hcd) hk set_list ha) hs hw h1) fun _ _ σ H D _ ⟨B, ρ, G, e, h⟩ => by
    obtain ⟨ds, l, vs, q, e1, e2, e3, e4, r, h⟩ := owOf_inv e h
    refine tP_bind e h fun d v H1 G1 g1 r1 ev1 h1 => ⟨.ref l, e1, tP_bind ev1 h1 fun d2 v2 H2 G2 g2 r2 ev2 h2 => ?_⟩
    cases d2 <;> first | exact h2.elim | skip
    rename_i n
    have h2 : (match ixN ds.length n with
      | some j => R.ok (Out.nx (ρ.set i (some (.ow (ds.set j d)))))
      | none => .no).holds (OutOk X.K B G D) (XW X.K X.mg E B) := h2
    split at h2
    · rename_i j hj
      have e2' := g2.h _ _ (g1.h _ _ e2)
      have e3' := g2.ow _ _ (g1.h _ _ e2) (g1.ow _ _ e2 e3)
      refine ⟨l, vs, n, j, rfl, r2.int_inv, e2', by rw [r.length]; exact hj, ?_⟩
      exact h2 σ _ G2 (ev2.write q rfl e1 ⟨l, _, rfl, upd_same, e3', e4, RpAll.set (r1.mono g2.g) j (RpAll.mono g2.g (RpAll.mono g1.g r))⟩) (g1.g.trans g2.g)
    · exact h2.elim
theorem ds_fz (i : Nat) (h : PS X st (tS X.K X.mg E f)) : PS X st (tS X.K X.mg E (sFz i f)) := ps_imp h fun _ _ σ H D _ ⟨B, ρ, G, e, h⟩ => by
  unfold sFz at h
  split at h
  · rename_i ds q
    obtain ⟨G', s, e'⟩ := e.freeze q (.list ds) rfl
    exact ⟨B, _, G', e', R.holds.mono h (fun o z => z.mono s) fun _ z => z⟩
  · rename_i ds q
    obtain ⟨G', s, e'⟩ := e.freeze q (.dict ds) rfl
    exact ⟨B, _, G', e', R.holds.mono h (fun o z => z.mono s) fun _ z => z⟩
  · exact h.elim
theorem ds_set2 (i j : Nat) {x y : Str} {p1 p2 pt : Pos} {kt : Nat} (hc : X.calm = true) (hN : X.N.Nodup) (hi : X.N[i]? = some x) (hx : Loc X.env.scope x) (hj : X.N[j]? = some y) (hy : Loc X.env.scope y) (he : PE X e (tP X.K X.mg E fe))
    (hf : X.fn x = true ∨ X.env.scope.names.lookup x = some .local := by first | exact .inl rfl | exact .inr rfl | assumption) (hf' : X.fn y = true ∨ X.env.scope.names.lookup y = some .local := by first | exact .inl rfl | exact .inr rfl | assumption)
    (ha : (assignEach (.Name x p1 :: [.Name y p2]) X.env).map (·.2) = assign (.Name x p1) X.env :: (assignEach [.Name y p2] X.env).map (·.2) := by rfl) (ha2 : (assignEach (.Name y p2 :: []) X.env).map (·.2) = assign (.Name y p2) X.env :: (assignEach [] X.env).map (·.2) := by rfl)
    (hn : (assignEach [.Name x p1, .Name y p2] X.env).length = 2 := by rfl) (hst : (assignEach [.Name x p1, .Name y p2] X.env).findIdx? (·.1) = none := by rfl)
    (hs : swapsWithSole [.Tuple [.Name x p1, .Name y p2] kt pt] e pos.line X.env = pure false := by rfl) (hw : swappedStores [.Tuple [.Name x p1, .Name y p2] kt pt] e X.env = pure none := by rfl)
    (h1 : (assignEach [.Tuple [.Name x p1, .Name y p2] kt pt] X.env).map (·.2) = [assign (.Tuple [.Name x p1, .Name y p2] kt pt) X.env] := by rfl) :
    PS X (.Assign [.Tuple [.Name x p1, .Name y p2] kt pt] e pos) (tS X.K X.mg E (sSet2 i j fe)) :=
  ps_imp (ps_asg he (pg_tup hc (pgs_cons (pg_name hN hi hx hf) (pgs_cons (pg_name hN hj hy hf') pgs_nil ha2) ha) hn hst) hs hw h1) fun _ _ σ H D _ ⟨B, ρ, G, e, h⟩ => tP_bind e h fun d v H1 G1 g1 r1 e1 h1 => by
    cases d <;> first | exact h1.elim | skip
    rename_i ds
    obtain ⟨a, o, xs, rfl, q, _, w⟩ := r1.tuple_inv
    match ds, w, h1 with
    | [], _, h1 => exact h1.elim
    | [_], _, h1 => exact h1.elim
    | [d1, d2], w, h1 =>
      obtain ⟨v1, v2, rfl, w1, w2⟩ := rp2 w
      exact ⟨a, [v1, v2], rfl, sqt (e1.sub _ _ q), rfl, v1, [v2], rfl, v2, [], rfl, rfl, h1 _ H1 G1 ((e1.setF i w1).setF j w2) g1.g⟩
    | _ :: _ :: _ :: _, _, h1 => exact h1.elim
theorem ds_for {α : Type} {tg iter : Expr} {body : List Stmt} {tg' : TG} {sl : List Nat} {stt : α → Rho → Rho} {fi : Rho → R (List α)} (hp : PassesOwn (model X.prog X.w) X.A X.env X.xe) (hc : X.calm = true) (hi : PI X tg iter (tI X.K X.mg E tg' sl stt fi)) (hg : PG X tg tg') (hb : PSs X body (tS X.K X.mg E f))
    (hs : ∀ x, foldedSetIterable iter X.env x = pure x := by intro _; rfl) : PS X (.For tg iter body [] pos) (tS X.K X.mg E (sFor fi stt f)) :=
  ps_imp (ps_for hp hc hi hg hb hs) fun _ _ σ H D _ ⟨B, ρ, G, e, h⟩ => ⟨B, ρ, G, e, (R.holds_bind.mp h).mono (fun items h1 J H1 G1 g1 wk hz => by
    refine ⟨fun i m σ H => m = items.length - i ∧ i ≤ items.length ∧ ∃ ρ G2, EnvOk X.K B G2 σ H ρ ∧ Same G1 G2 ∧ (forGo stt f (items.drop i) ρ).holds (OutOk X.K B G1 D) (XW X.K X.mg E B),
      ⟨items.length, rfl, Nat.zero_le _, ρ, G1, e.step g1, Same.refl _, R.holds.mono h1 (fun o z => z.mono g1.g) fun _ z => z⟩, ?_⟩
    rintro i m σ2 H2 ⟨rfl, hi, ρ2, G2, e2, s2, h2⟩
    by_cases hlt : i < items.length
    · obtain ⟨d, hd⟩ : ∃ d, items[i]? = some d := ⟨_, List.getElem?_eq_getElem hlt⟩
      have hdrop : items.drop i = d :: items.drop (i + 1) := by
        rw [List.drop_eq_getElem_cons hlt]
        rw [List.getElem?_eq_getElem hlt] at hd
        cases hd
        rfl
      rw [hdrop] at h2
      refine .inr ⟨wk.go i d G2 H2 s2 e2.sub hd, fun σ3 H3 => ∃ ρ3 G3, EnvOk X.K B G3 σ3 H3 ρ3 ∧ Same G1 G3 ∧ (forGo stt f (items.drop (i + 1)) ρ3).holds (OutOk X.K B G1 D) (XW X.K X.mg E B),
        fun σ3 H3 z => ⟨items.length - (i + 1), by omega, rfl, hlt, z⟩, fun x H3 hyl => ?_⟩
      refine wk.yld i d G2 H2 x H3 B _ _ _ s2 e2 hd hyl fun σ3 H4 G4 e4 g4 hl hs => ?_
      refine ⟨B, _, G4, e4, (R.holds_bind.mp h2).mono (fun o ho => ?_) fun _ z => z⟩
      have s4 := s2.trans g4.g
      cases o with
      | nx ρ5 => exact fun σ5 H5 G5 e5 s5 => ⟨ρ5, G5, e5, s4.trans s5, ho⟩
      | ct ρ5 => exact fun σ5 H5 G5 e5 s5 => ⟨ρ5, G5, e5, s4.trans s5, ho⟩
      | bk ρ5 => exact fun σ5 H5 G5 e5 s5 => ho σ5 H5 G5 e5 (s4.trans s5)
      | ret v => exact ho
    · have ei : i = items.length := by omega
      subst ei
      rw [List.drop_length] at h2
      exact .inl ⟨wk.stop G2 H2 s2 e2.sub, h2 σ2 H2 G2 e2 s2⟩) fun _ z => z⟩
theorem ds_while (n : Nat) {body : List Stmt} (hp : PassesOwn (model X.prog X.w) X.A X.env X.xe) (hc : PT X ce (tT X.K X.mg E c)) (hb : PSs X body (tS X.K X.mg E f)) : PS X (.While ce body [] pos) (tS X.K X.mg E (whGo c f n)) :=
  ps_imp (ps_while hp hc hb) fun _ _ σ H D _ ⟨B, ρ, G, e, h⟩ => by
    refine ⟨fun m σ H => ∃ ρ G2, EnvOk X.K B G2 σ H ρ ∧ Same G G2 ∧ (whGo c f m ρ).holds (OutOk X.K B G D) (XW X.K X.mg E B), ⟨n, ρ, G, e, Same.refl _, h⟩, ?_⟩
    rintro m σ2 H2 ⟨ρ2, G2, e2, s2, h2⟩
    cases m with
    | zero => exact h2.elim
    | succ m =>
      refine tT_bind e2 h2 fun b H3 G3 g3 e3 h3 => ?_
      have s3 := s2.trans g3.g
      cases b with
      | false => exact iteF (h3 σ2 H3 G3 e3 s3)
      | true =>
        refine iteT ⟨fun σ4 H4 => ∃ ρ4 G4, EnvOk X.K B G4 σ4 H4 ρ4 ∧ Same G G4 ∧ (whGo c f m ρ4).holds (OutOk X.K B G D) (XW X.K X.mg E B), fun σ4 H4 z => ⟨m, Nat.lt_succ_self m, z⟩, B, _, G3, e3, (R.holds_bind.mp h3).mono (fun o ho => ?_) fun _ z => z⟩
        cases o with
        | nx ρ5 => exact fun σ5 H5 G5 e5 s5 => ⟨ρ5, G5, e5, s3.trans s5, ho⟩
        | ct ρ5 => exact fun σ5 H5 G5 e5 s5 => ⟨ρ5, G5, e5, s3.trans s5, ho⟩
        | bk ρ5 => exact fun σ5 H5 G5 e5 s5 => ho σ5 H5 G5 e5 (s3.trans s5)
        | ret v => exact ho
end

/-! ### a def by its body -/
def start0 (n : Nat) (ds : List PyData) : Rho := ds.map (fun d => some (.fz d)) ++ List.replicate (n - ds.length) none
/-- a def of np parameters and n names: its body run on the arguments -/
def run (np n : Nat) (body : Rho → R Out) : List PyData → R PyData := fun ds => if ds.length = np then (body (start0 n ds)).bind fun o => match o with
  | .ret d => .ok d
  | .nx _ => .ok .none
  | _ => .no
  else .no
theorem env_start {K : PySem.W.Frag} {G H : Hp} {vs : List V} {ds : List PyData} (N : List Str) (s : Same G H) (r : RpAll K G vs ds) : EnvOk K (G, H) G (start N vs) H (start0 N.length ds) where
  gr := Gr.refl s
  len := by simp [start, start0, r.length]
  at_ := fun i e q => by
    unfold start0 at q
    by_cases hi : i < ds.length
    · rw [List.getElem?_append_left (by simpa using hi)] at q
      rw [List.getElem?_map, List.getElem?_eq_getElem hi] at q
      cases q
      obtain ⟨v, e1, e2⟩ := r.get (List.getElem?_eq_getElem hi)
      refine ⟨v, ?_, e2⟩
      unfold start
      rw [List.getElem?_append_left (by simpa [r.length] using hi), List.getElem?_map, e1]
      rfl
    · rw [List.getElem?_append_right (by simpa using hi)] at q
      have := List.getElem?_replicate (a := (none : Option Ent)) (n := N.length - ds.length) (i := i - (ds.map (fun d => some (Ent.fz d))).length)
      rw [this] at q
      split at q <;> cases q
  sep := fun i j e e' v q o => by
    exfalso
    unfold start0 at q
    by_cases hi : i < ds.length
    · rw [List.getElem?_append_left (by simpa using hi)] at q
      rw [List.getElem?_map, List.getElem?_eq_getElem hi] at q
      cases q
      cases o
    · rw [List.getElem?_append_right (by simpa using hi)] at q
      have := List.getElem?_replicate (a := (none : Option Ent)) (n := N.length - ds.length) (i := i - (ds.map (fun d => some (Ent.fz d))).length)
      rw [this] at q
      split at q <;> cases q
theorem run_len {np n : Nat} {body : Rho → R Out} {ds : List PyData} {P : PyData → Prop} {E : Exn → Prop} (h : (run np n body ds).holds P E) : ds.length = np := by
  unfold run at h
  split at h
  · assumption
  · exact h.elim
theorem run_start {K : PySem.W.Frag} {mg : Str → Option Value} {np : Nat} {N : List Str} {body : Rho → R Out} {vs : List V} {H : Hp} {Q : VK} {E : XK} (h : spP K mg (run np N.length body) vs H Q E) :
    tS K mg E body { nx := fun _ H' => Q .non H', rt := Q } (start N vs) H := by
  obtain ⟨G, ds, s, r, h⟩ := h
  have hl := run_len h
  unfold run at h
  rw [if_pos hl] at h
  refine ⟨(G, H), _, G, env_start N s r, (R.holds_bind.mp h).mono (fun o ho => ?_) fun _ z => z⟩
  cases o with
  | ret d => exact fun v H' G' g r => ho v H' G' g r
  | nx ρ => exact fun σ' H' G' e _ => ho .non H' G' e.gr .non
  | bk ρ => exact ho.elim
  | ct ρ => exact ho.elim
end L2.PD

set_option Elab.async false
set_option linter.all false
set_option autoImplicit false
set_option maxRecDepth 100000
/-! PD5: sorted, min, max, fresh lists, the mixed zip. -/
namespace L2.PD
open PySem PySem.Spec PyProof.Rows L2

def neTup : PyData → Bool
  | .tuple (_ :: _) => true
  | _ => false
def noTup : PyData → Bool
  | .tuple _ => false
  | .none => false
  | _ => true
/-- what sorted takes here -/
def sortOk (ds : List PyData) : Bool := (ds.all fun d => ds.all fun e => PySem.W.alike d e) && (ds.all neTup || ds.all noTup) && (ds.all fun d => decide (d.depth ≤ 60) && flatD d)
def sortedD (rev : Bool) : PyData → R PyData
  | .list ds => guard (sortOk ds) (.ok (.list (ds.mergeSort (PySem.W.dataLe rev fun d => d))))
  | _ => .no
theorem ne_sorted (rev : Bool) : NoEx1 (sortedD rev) := fun d e z => by cases d <;> first | (cases z; done) | exact guard_ne ok_ne e z
section
variable {X : Cx}
theorem sortOk_all {ds : List PyData} (h : sortOk ds = true) : PySem.W.AllAlike (ds.map fun d => d) ∧ PySem.W.Sortable (ds.map fun d => d) ∧ ∀ d ∈ ds, d.depth ≤ 60 ∧ flatD d = true := by
  unfold sortOk at h
  simp only [Bool.and_eq_true, Bool.or_eq_true, List.all_eq_true, decide_eq_true_eq] at h
  obtain ⟨⟨h1, h2⟩, h3⟩ := h
  rw [List.map_id']
  refine ⟨fun d hd e he => h1 d hd e he, ?_, h3⟩
  rcases h2 with h2 | h2
  · refine .inl fun d hd => ?_
    have := h2 d hd
    unfold neTup at this
    split at this
    · exact ⟨_, _, rfl⟩
    · cases this
  · refine .inr fun d hd => ?_
    have := h2 d hd
    unfold noTup at this
    split at this
    · cases this
    · cases this
    · rename_i h h'
      exact ⟨h', fun xs z => h xs z⟩
abbrev Rvd (K : PySem.W.Frag) (G : Hp) (u : Value) (d : PyData) : Prop := ∃ v, RelV v u ∧ Rp K G v d
theorem each_of {K : PySem.W.Frag} {G : Hp} : ∀ {xs : List V} {us : List Value} {ds : List PyData}, Vals xs us → RpAll K G xs ds → PySem.W.EachIs (Rvd K G) us ds
  | _, _, _, .nil, .nil => .nil
  | _, _, _, .cons r t, .cons r' t' => .cons ⟨_, r, r'⟩ (each_of t t')
theorem each_back {K : PySem.W.Frag} {G : Hp} : ∀ {us : List Value} {ds : List PyData}, PySem.W.EachIs (Rvd K G) us ds → ∃ xs, Vals xs us ∧ RpAll K G xs ds
  | _, _, .nil => ⟨[], .nil, .nil⟩
  | _, _, .cons ⟨v, r, r'⟩ t => by
    obtain ⟨xs, h1, h2⟩ := each_back t
    exact ⟨v :: xs, .cons r h1, .cons r' h2⟩
theorem each_reads {pins : List (Addr × Obj)} {σ : St} {G H : Hp} {s : Shared} (I : Inv X pins σ H s) (sG : Same G H) : ∀ {xs : List V} {us : List Value} {ds : List PyData}, Vals xs us → RpAll X.K G xs ds → (∀ d ∈ ds, flatD d = true) → PySem.W.EachIs (fun v d => ∃ as, Reads s.heap v d as) us ds
  | _, _, _, .nil, .nil, _ => .nil
  | _, _, _, .cons r t, .cons r' t', h => .cons (Dp.reads I _ _ _ ((r'.mono sG).dp (h _ List.mem_cons_self)) r) (each_reads I sG t t' fun d hd => h d (List.mem_cons_of_mem _ hd))
/-- sorted(xs), sorted(xs, reverse=b), by the call of the library -/
theorem sorted_inv {pins : List (Addr × Obj)} {s : Shared} {σ : St} {G H : Hp} {a : Addr} {xs : List V} {ds : List PyData} {Q : VK} {rev : Bool} {kw : List (Str × Value)} (hu : X.A.units + 64 < cLine) (hkw : (rev = false ∧ kw = []) ∨ kw = [(Str.ofString "reverse", .bool rev)])
    (I : Inv X pins σ H s) (sG : Same G H) (hs : Rd H a (.lst xs)) (r : RpAll X.K G xs ds) (ho : sortOk ds = true) (q : ∀ p ys, H p = none → RpAll X.K G ys (ds.mergeSort (PySem.W.dataLe rev fun d => d)) → Q (.ref p) (upd H p (.lst ys))) :
    wpAny (model X.prog X.w) X.A (call (.builtin "sorted") [.ref a] kw) (EP X pins σ Q) X.xe s := by
  obtain ⟨its, rv, hl, hz⟩ := I.list (show SqL X.K H a xs from .inl hs)
  obtain ⟨k1, k2, k3⟩ := sortOk_all ho
  have e1 := each_of rv r
  have e2 := each_reads I sG rv r fun d hd => (k3 d hd).2
  have hL : ds.length ≤ sizeLine := by rw [← r.length]; exact hz
  have hU : ∀ b, b ∈ ds → X.A.units + 2 + b.depth < cLine := fun b hb => by
    have := (k3 b hb).1
    omega
  have fin : ∀ out : List Value, out.length = ds.length → PySem.W.EachIs (Rvd X.K G) out (ds.mergeSort (PySem.W.dataLe rev fun d => d)) → EP X pins σ Q (.ref (s.heap.objs.size + 1)) { s with heap := PyProof.Rows.sortedAll s.heap its out.toArray } := fun out hlen ho => by
    obtain ⟨ys, h1, h2⟩ := each_back ho
    obtain ⟨ep, he'⟩ := PyProof.Rows.sortedAll_at s.heap its out.toArray
    have hyl : ys.length ≤ sizeLine := by rw [h1.length, hlen]; exact hL
    exact ⟨.ref _, upd H (s.heap.objs.size + 1) (.lst ys), I.laid (t' := s.toks) (fun _ _ => PyProof.Rows.sortedAll_old) (Nat.le_succ _) ⟨hyl, _, ep, h1, he'⟩, rfl, q _ ys (I.hok.fresh (Nat.le_succ _)) h2⟩
  rcases hkw with ⟨rfl, rfl⟩ | rfl
  · exact PySem.W.sorted_data (enc := fun d => d) hl.isList e1 e2 k1 k2 hL hU fin
  · exact PySem.W.sorted_rev_data (enc := fun d => d) hl.isList e1 e2 k1 k2 hL hU fin
end
/-- what is wanted of a new list -/
def NewL (K : PySem.W.Frag) (G : Hp) (ds : List PyData) (H : Hp) (Q : VK) : Prop := ∀ p ys, H p = none → RpAll K G ys ds → Q (.ref p) (upd H p (.lst ys))
/-- calls whose value is a new list -/
def rCF (K : PySem.W.Frag) (o : List PyData → R PyData) : List V → Hp → VK → Prop := fun xs H Q => ∃ G ds, Same G H ∧ RpAll K G xs ds ∧ (o ds).holds (fun d => ∀ es, d = .list es → NewL K G es H Q) fun _ => False
section
variable {X : Cx} {E : XK} {a e : Expr} {es : List Expr} {fa : Rho → R PyData} {ga : Rho → R (List PyData)} {p pos : Pos} {x : Str} {id T : String} {o : List PyData → R PyData}
theorem newL_of {B : Hp × Hp} {G G1 H H1 : Hp} {es : List PyData} {Q : VK} (g : Gr G H G1 H1) (q : ∀ ds p vs H' G', (.list es : PyData) = .list ds → Gr G H G' H' → H p = none → H' p = some (.lst vs) → G' p = none → RpAll X.K G' vs ds → Q (.ref p) H') : NewL X.K G1 es H1 Q := fun p ys n r =>
  q es p ys _ G1 rfl (g.trans (Gr.newO g.sub n)) (g.h.free n) upd_same (g.sub.free n) r
theorem tCBF_of (n : NoExL o) {σ : St} {H : Hp} {Q : VK} (h : tF X.K X.mg E (fCall o ga) σ H Q) : tCB (rCF X.K o) (tA X.K X.mg E ga) σ H Q := by
  obtain ⟨B, ρ, G, e, h⟩ := h
  refine tA_bind e h fun ds vs H1 G1 g1 r1 e1 h1 => ⟨G1, ds, e1.sub, r1, ?_⟩
  exact noex_holds (n ds) (R.holds.mono h1 (E' := XW X.K X.mg E B) (fun d hd es ed => by subst ed; exact newL_of (B := B) g1 hd) fun _ z => z)
theorem de_callBF (n : NoExL o) (hc : CallR X (.builtin id) (rCF X.K o)) (hg : Gl X x) (hm : X.mg x = none) (hv : bootBuiltins x = some (.builtin id)) (ha : PA X (e :: es) (tA X.K X.mg E ga)) (hn : x ≠ "__name__" := by decide) (hdb : (x == ("__debug__" : Str)) = false := by decide)
    (he : starEach (e :: es) X.env = (false, eval e X.env) :: starEach es X.env := by rfl) (hpl : (backTo pos (starEach es X.env)).any (·.1) = false := by rfl) : PE X (.Call (.Name x p) (e :: es) [] pos) (tF X.K X.mg E (fCall o ga)) :=
  pe_imp (pe_callB hc hg hm hv ha hn hdb he hpl) fun _ _ _ _ _ _ h => tCBF_of n h
theorem de_callTyF (n : NoExL o) (hc : CallR X (.type T) (rCF X.K o)) (hg : Gl X x) (hm : X.mg x = none) (hv : bootBuiltins x = some (.type T)) (ha : PA X (e :: es) (tA X.K X.mg E ga)) (hn : x ≠ "__name__" := by decide) (hdb : (x == ("__debug__" : Str)) = false := by decide)
    (he : starEach (e :: es) X.env = (false, eval e X.env) :: starEach es X.env := by rfl) (hpl : (backTo pos (starEach es X.env)).any (·.1) = false := by rfl) : PE X (.Call (.Name x p) (e :: es) [] pos) (tF X.K X.mg E (fCall o ga)) :=
  pe_imp (pe_callTy hc hg hm hv ha hn hdb he hpl) fun _ _ _ _ _ _ h => tCBF_of n h
theorem dc_sortedF (hu : X.A.units + 64 < cLine) : CallR X (.builtin "sorted") (rCF X.K (one (sortedD false))) := by
  intro pins s σ H xs us Q I r ⟨G, ds, sG, rd, h⟩
  obtain ⟨x, d, rfl, rfl, rd, h⟩ := one_inv rd h
  cases d <;> first | exact h.elim | skip
  obtain ⟨c, h⟩ := guard_holds h
  obtain ⟨a, xs, rfl, hq, w⟩ := rd.list_inv
  obtain rfl := Vals.ref1 r
  exact sorted_inv hu (.inl ⟨rfl, rfl⟩) I sG (Same.rd sG hq) w c fun p ys n r => h _ rfl p ys n r
/-- sorted(xs, reverse=b) -/
theorem de_sortedRevF {b : Bool} {kp kpos : Pos} {kk : Nat} (hu : X.A.units + 64 < cLine) (hg : Gl X "sorted") (hm : X.mg "sorted" = none) (ha : PA X [a] (tA X.K X.mg E ga))
    (he : backTo pos (starEach [a] X.env) = (false, eval a X.env) :: backTo pos (starEach [] X.env) := by rfl) (hpl : (backTo pos (starEach [a] X.env)).any (·.1) = false := by rfl)
    (hall : (backToKw pos (keywordEach [⟨some "reverse", .Constant (.bool b) kk kpos, kp⟩] X.env)).all (·.1.isSome) = true := by rfl) (hnone : (backToKw pos (keywordEach [⟨some "reverse", .Constant (.bool b) kk kpos, kp⟩] X.env)).any (·.1.isNone) = false := by rfl)
    (hks : (backToKw pos (keywordEach [⟨some "reverse", .Constant (.bool b) kk kpos, kp⟩] X.env)).filterMap (·.1) = [Str.ofString "reverse"] := by rfl) :
    PE X (.Call (.Name "sorted" p) [a] [⟨some "reverse", .Constant (.bool b) kk kpos, kp⟩] pos) (tF X.K X.mg E (fCall (one (sortedD b)) ga)) := by
  have hc : CallRK X (.builtin "sorted") [Str.ofString "reverse"] (fun vs zs H Q => zs = [.bl b] ∧ rCF X.K (one (sortedD b)) vs H Q) := by
    intro pins s σ H vs zs us ws Q I r rz ⟨ez, G, ds, sG, rd, h⟩
    subst ez
    obtain ⟨w1, rfl, e1⟩ := vals1 rz
    obtain rfl : w1 = Value.bool b := e1
    obtain ⟨x, d, rfl, rfl, rd, h⟩ := one_inv rd h
    cases d <;> first | exact h.elim | skip
    obtain ⟨c, h⟩ := guard_holds h
    obtain ⟨a, xs, rfl, hq, w⟩ := rd.list_inv
    obtain rfl := Vals.ref1 r
    exact sorted_inv hu (.inr rfl) I sG (Same.rd sG hq) w c fun p ys n r => h _ rfl p ys n r
  refine pe_imp (pe_callBK (kws := [⟨some "reverse", .Constant (.bool b) kk kpos, kp⟩]) hc hg hm (by decide +kernel) ha (pk_cons pe_bl pk_nil) (by decide) (by decide) he hpl hall hnone hks) fun _ _ σ H Q _ h => ?_
  obtain ⟨B, ρ, G, e, h⟩ := h
  refine tA_bind e h fun ds vs H1 G1 g1 r1 e1 h1 => ⟨rfl, G1, ds, e1.sub, r1, ?_⟩
  exact noex_holds (ne_one (ne_sorted b) ds) (R.holds.mono h1 (E' := XW X.K X.mg E B) (fun d hd es ed => by subst ed; exact newL_of (B := B) g1 hd) fun _ z => z)
theorem dc_listF : CallR X (.type "list") (rCF X.K (one listD)) := callr_imp call_list_of fun _ _ _ _ _ _ I ⟨G, ds, s, r, h⟩ => by
  obtain ⟨x, d, rfl, rfl, r, h⟩ := one_inv r h
  cases r with
  | lst q w => exact ⟨_, _, rfl, .inl (.inl (Same.rd s q)), fun l n => h _ rfl l _ n w⟩
  | tup q n w => exact ⟨_, _, rfl, .inr (sqt (s _ _ q)), fun l n => h _ rfl l _ n w⟩
  | _ => exact h.elim
theorem de_lstF (h : PA X es (tA X.K X.mg E ga)) : PE X (.List es pos) (tF X.K X.mg E (fLst ga)) :=
  pe_imp (pe_lst h) fun _ _ σ H Q _ ⟨B, ρ, G, e, h⟩ => tA_bind e h fun ds vs H1 G1 g1 r1 e1 h1 => by
    obtain ⟨c, h1⟩ := guard_holds h1
    have c := of_decide_eq_true c
    rw [← r1.length] at c
    exact ⟨lim_line c, fun p n => newL_of (B := B) g1 h1 p vs n r1⟩
end
/-- [..] * n as a new list -/
def repD : PyData → PyData → R PyData
  | .list a, .int k => guard (decide (0 ≤ k ∧ k ≤ 1000 ∧ a.length ≤ 1000)) (.ok (.list (List.replicate k.toNat a).flatten))
  | _, _ => .no
section
variable {X : Cx} {E : XK} {a b : Expr} {fa fb : Rho → R PyData} {pos : Pos}
theorem de_repF (ha : PE X a (tP X.K X.mg E fa)) (hb : PE X b (tP X.K X.mg E fb)) : PE X (.BinOp a .Mult b pos) (tF X.K X.mg E (f2 repD fa fb)) :=
  pe_imp (pe_op op_rep ha hb) fun _ _ σ H Q _ ⟨B, ρ, G, e, h⟩ => tP_bind e h fun d v H1 G1 g1 r1 e1 h1 => tP_bind e1 h1 fun d2 v2 H2 G2 g2 r2 e2 h2 => by
    have r1' := r1.mono g2.g
    cases d <;> cases d2 <;> first | exact h2.elim | skip
    obtain ⟨c, h2⟩ := guard_holds h2
    obtain ⟨c1, c2, c3⟩ := of_decide_eq_true c
    obtain ⟨p, xs, rfl, hx, ax⟩ := r1'.list_inv
    rw [← ax.length] at c3
    refine ⟨_, _, _, rfl, r2.int_inv, e2.sub _ _ hx, by omega, by omega, ?_, fun p n => newL_of (B := B) (g1.trans g2) h2 p _ n (ax.rep _)⟩
    rw [sizeLine_eq]
    exact Nat.le_trans (Nat.mul_le_mul c3 (show Int.toNat _ ≤ 1000 from Int.toNat_le.mpr c2)) (by decide)
end

/-! ### min, max of a list of ints -/
def minI : List Int → Option Int
  | [] => none
  | x :: xs => some (xs.foldl min x)
def maxI : List Int → Option Int
  | [] => none
  | x :: xs => some (xs.foldl max x)
theorem foldl_min_le : ∀ (xs : List Int) (x : Int), xs.foldl min x ≤ x ∧ (∀ y ∈ xs, xs.foldl min x ≤ y) ∧ (xs.foldl min x = x ∨ xs.foldl min x ∈ xs)
  | [], x => ⟨Int.le_refl x, ⟨fun y h => absurd h (by simp), Or.inl rfl⟩⟩
  | y :: ys, x => by
    obtain ⟨h1, h2, h3⟩ := foldl_min_le ys (min x y)
    rw [List.foldl_cons]
    refine ⟨by omega, fun z hz => ?_, ?_⟩
    · rcases List.mem_cons.mp hz with rfl | hz
      · omega
      · exact h2 z hz
    · rcases h3 with h3 | h3
      · rcases Int.le_total x y with h | h
        · left; rw [h3]; omega
        · right; rw [h3]; rw [Int.min_eq_right h]; exact List.mem_cons_self
      · exact .inr (List.mem_cons_of_mem _ h3)
theorem foldl_max_le : ∀ (xs : List Int) (x : Int), x ≤ xs.foldl max x ∧ (∀ y ∈ xs, y ≤ xs.foldl max x) ∧ (xs.foldl max x = x ∨ xs.foldl max x ∈ xs)
  | [], x => ⟨Int.le_refl x, ⟨fun y h => absurd h (by simp), Or.inl rfl⟩⟩
  | y :: ys, x => by
    obtain ⟨h1, h2, h3⟩ := foldl_max_le ys (max x y)
    rw [List.foldl_cons]
    refine ⟨by omega, fun z hz => ?_, ?_⟩
    · rcases List.mem_cons.mp hz with rfl | hz
      · omega
      · exact h2 z hz
    · rcases h3 with h3 | h3
      · rcases Int.le_total x y with h | h
        · right; rw [h3]; rw [Int.max_eq_right h]; exact List.mem_cons_self
        · left; rw [h3]; omega
      · exact .inr (List.mem_cons_of_mem _ h3)
theorem minI_spec {ns : List Int} {m : Int} (h : minI ns = some m) : m ∈ ns ∧ ∀ y ∈ ns, m ≤ y := by
  cases ns with
  | nil => cases h
  | cons x xs =>
    cases h
    obtain ⟨h1, h2, h3⟩ := foldl_min_le xs x
    refine ⟨?_, fun y hy => ?_⟩
    · rcases h3 with h3 | h3
      · rw [h3]; exact List.mem_cons_self
      · exact List.mem_cons_of_mem _ h3
    · rcases List.mem_cons.mp hy with rfl | hy
      · exact h1
      · exact h2 y hy
theorem maxI_spec {ns : List Int} {m : Int} (h : maxI ns = some m) : m ∈ ns ∧ ∀ y ∈ ns, y ≤ m := by
  cases ns with
  | nil => cases h
  | cons x xs =>
    cases h
    obtain ⟨h1, h2, h3⟩ := foldl_max_le xs x
    refine ⟨?_, fun y hy => ?_⟩
    · rcases h3 with h3 | h3
      · rw [h3]; exact List.mem_cons_self
      · exact List.mem_cons_of_mem _ h3
    · rcases List.mem_cons.mp hy with rfl | hy
      · exact h1
      · exact h2 y hy
def minD1 : PyData → R PyData
  | .list xs => (intsOf xs).bind fun ns => match minI ns with
    | some m => .ok (.int m)
    | none => .no
  | _ => .no
def maxD1 : PyData → R PyData
  | .list xs => (intsOf xs).bind fun ns => match maxI ns with
    | some m => .ok (.int m)
    | none => .no
  | _ => .no
theorem ne_min1 : NoEx1 minD1 := fun d e z => by
  cases d <;> first | (cases z; done) | exact bind_ne (intsOf_ne _) (fun ns e z => by split at z <;> cases z) e z
theorem ne_max1 : NoEx1 maxD1 := fun d e z => by
  cases d <;> first | (cases z; done) | exact bind_ne (intsOf_ne _) (fun ns e z => by split at z <;> cases z) e z
section
variable {X : Cx}
theorem dc_min (hc : X.calm = true) : CallR X (.builtin "min") (rCD X.K (one minD1)) := callr_imp (cr_min hc) fun _ _ _ _ _ _ I ⟨G, ds, s, r, h⟩ => by
  obtain ⟨x, d, rfl, rfl, r, h⟩ := one_inv r h
  cases d <;> first | exact h.elim | skip
  obtain ⟨a, xs, rfl, q, w⟩ := r.list_inv
  obtain ⟨ns, e1, _, h⟩ := intsOf_inv w h
  subst e1
  split at h
  · rename_i m hm
    obtain ⟨h1, h2⟩ := minI_spec hm
    refine ⟨_, ns, rfl, .inl (Same.rd s q), ?_, fun m' h1' h2' => ?_⟩
    · cases ns with
      | nil => cases h1
      | cons _ _ => exact Nat.succ_pos _
    · have : m' = m := Int.le_antisymm (h2' m h1) (h2 m' h1')
      rw [this]
      exact h _ _ _ (Gr.refl s) (.int _)
  · exact h.elim
theorem dc_max (hc : X.calm = true) : CallR X (.builtin "max") (rCD X.K (one maxD1)) := callr_imp (cr_max hc) fun _ _ _ _ _ _ I ⟨G, ds, s, r, h⟩ => by
  obtain ⟨x, d, rfl, rfl, r, h⟩ := one_inv r h
  cases d <;> first | exact h.elim | skip
  obtain ⟨a, xs, rfl, q, w⟩ := r.list_inv
  obtain ⟨ns, e1, _, h⟩ := intsOf_inv w h
  subst e1
  split at h
  · rename_i m hm
    obtain ⟨h1, h2⟩ := maxI_spec hm
    refine ⟨_, ns, rfl, .inl (Same.rd s q), ?_, fun m' h1' h2' => ?_⟩
    · cases ns with
      | nil => cases h1
      | cons _ _ => exact Nat.succ_pos _
    · have : m' = m := Int.le_antisymm (h2 m' h1') (h2' m h1)
      rw [this]
      exact h _ _ _ (Gr.refl s) (.int _)
  · exact h.elim
end
theorem room65 {A : Around} {k : Nat} (hr : Room k A) : A.units + 65 < cLine := by
  have := hr.un
  omega
end L2.PD

set_option Elab.async false
set_option linter.all false
set_option autoImplicit false
set_option maxRecDepth 100000
/-! PD6: what the top leaves (built-ins' names, defs), module constants, the law's end. -/
namespace L2.PD
open PySem PySem.Spec PyProof.Rows L2

/-- the built-ins' names are nobody's -/
structure Zs (mg : Str → Option Value) : Prop where
  len : mg "len" = none
  sum : mg "sum" = none
  min : mg "min" = none
  max : mg "max" = none
  isinstance : mg "isinstance" = none
  sorted : mg "sorted" = none
  tuple : mg "tuple" = none
  list : mg "list" = none
  int : mg "int" = none
  bool : mg "bool" = none
  str : mg "str" = none
  range : mg "range" = none
  zip : mg "zip" = none
  enumerate : mg "enumerate" = none
  reversed : mg "reversed" = none
  set : mg "set" = none
abbrev FnP (K : PySem.W.Frag) (x : Str) (st : Stmt) (f : Addr) (fd : FuncData) : Prop := FunD K x x (defArgs st) (defBody st) (defScope st) [] [] f fd
/-- a def of the top, under its name -/
def DefF (K : PySem.W.Frag) (mg : Str → Option Value) (x : Str) (st : Stmt) : Prop := ∃ f fd, FnP K x st f fd ∧ mg x = some (.ref f)
section
variable {P : Program} {w : World} {K : PySem.W.Frag} {mg : Str → Option Value} {base : Heap}
theorem fn_pure {x : Str} {st : Stmt} {N ps : List Str} {k : Nat} {body : Rho → R Out} (D : DefF K mg x st) (S : FnScope N ps (defScope st))
    (hb : ∀ (kV doc pm : Value) (an : Option Addr) (cdv ct : Value) (us : List Value), us.length = ps.length → bindArgs (PySem.W.fnOf x x (defArgs st) (defBody st) (defScope st) .none kV doc pm an cdv ct) ⟨us, []⟩ = pure (ps.zip us))
    (hbody : ∀ (f : Addr) (cdv : Value) (A : Around) (outer : List Env) (s : Shared) (H : Hp) (E0 : XK), Room k (A.deeper (envOfC x (defScope st) s.heap.objs.size f cdv)) → ∀ E, PSs (cxOf CX0 P w K mg base N x (defScope st) f cdv A outer s H E0).nox (defBody st) (tS K mg E body)) :
    FnD P w K mg base CX0 (k + 1) x (run ps.length N.length body) := by
  obtain ⟨f, fd, F, hm⟩ := D
  refine ⟨f, fd, ps, F.ok S (fun vs H Q E h => ?_) (fun cdv A outer s H vs Q E hr h => ⟨tS K mg E body, PSs.nox ?_, run_start h⟩), hm, F.kp, F.bindsN hb⟩
  · obtain ⟨G, ds, _, r, h⟩ := h
    rw [r.length]
    exact run_len h
  · exact hbody f cdv A outer s H E hr E
/-- the law's own def -/
theorem fn_law {x : Str} {st : Stmt} {f : Addr} {fd : FuncData} {N ps : List Str} {k : Nat} {body : Rho → R Out} (F : FnP K x st f fd) (S : FnScope N ps (defScope st))
    (hbody : ∀ (f : Addr) (cdv : Value) (A : Around) (outer : List Env) (s : Shared) (H : Hp) (E0 : XK), Room k (A.deeper (envOfC x (defScope st) s.heap.objs.size f cdv)) → ∀ E, PSs (cxOf CX0 P w K mg base N x (defScope st) f cdv A outer s H E0).nox (defBody st) (tS K mg E body)) :
    FnOk P w K mg base CX0 (k + 1) f fd ps (spP K mg (run ps.length N.length body)) := by
  refine F.ok S (fun vs H Q E h => ?_) (fun cdv A outer s H vs Q E hr h => ⟨tS K mg E body, PSs.nox ?_, run_start h⟩)
  · obtain ⟨G, ds, _, r, h⟩ := h
    rw [r.length]
    exact run_len h
  · exact hbody f cdv A outer s H E hr E
end
/-- the script as data -/
def scrD (ns : List Int) : PyData := .dict [(.none, .list (ns.map PyData.int))]
theorem sp_law {K : PySem.W.Frag} {mg : Str → Option Value} {m : List PyData → R PyData} {H : Hp} {a : Addr} {ns : List Int} (h : m [scrD ns] = .ok (.bool true)) (q : SqL K H a (ns.map V.int)) : spP K mg m [.ref a] H (fun v _ => v = .bl true) fun _ _ _ => False :=
  ⟨H, [scrD ns], Same.refl _, .cons (.scr q) .nil, by rw [h]; exact fun v H' G' _ r => r.bool_inv⟩

section
variable {X : Cx} {E : XK} {x : Str} {p pos : Pos} {a : Expr} {ga : Rho → R (List PyData)}
/-- a module's constant -/
theorem de_globI {i : Int} {t : Tok} (hg : Gl X x) (hm : X.mg x = some (.int i t)) (hd : (x == ("__debug__" : Str)) = false := by decide) : PE X (.Name x p) (tP X.K X.mg E (fC (.int i))) :=
  pe_imp (pe_glob (v := .int i) hg hm ⟨t, rfl⟩ hd) fun _ _ _ _ _ _ h => tP_const (fun _ _ => .int i) h
end

def revD : PyData → R PyData
  | .list xs => .ok (.list xs.reverse)
  | _ => .no
end L2.PD

set_option Elab.async false
set_option linter.all false
set_option autoImplicit false
set_option maxRecDepth 100000
/-! PD7: list(reversed(x)). -/
namespace RT
open PySem PySem.Spec PyProof.Rows L2
section
variable {prog : Program} {w : World} {A : Around} {E : Value → Shared → Prop} {s : Shared}
theorem pd_extend_rev {it l S : Addr} {items : Array Value} {res : Value} {R : Result → Shared → Prop} (hh : A.handled = none) (hit : s.heap.IsRevIter it l ((items.size : Int) - 1)) (hl : s.heap.IsList l items) (hne : l ≠ it) (hn : items.size ≤ sizeLine)
    (hS : s.heap.get? S = some { cls := .type "list", data := .seq #[] }) (hSi : S ≠ it) (hSl : S ≠ l)
    (hR : ∀ h' tk acc' c', (∀ b o, b ≠ it → b ≠ S → s.heap.get? b = some o → h'.get? b = some o) → h'.get? S = some { cls := .type "list", dict := none, data := .seq acc' c', slots := #[] } →
      ItemsOf (fun i v => items[items.size - 1 - i]? = some v) acc' items.size → R (.ok (.ret res)) { s with heap := h', toks := tk }) :
    wpAny (model prog w) A.in1 (Builtin.List.listExtendWith (.ref S) (.ref it) res)
      (fun fin s' => match fin with | .done f => R (.ok f) s' | .again c' => c'.quiet = true ∧ codeAny (model prog w) A c' R s') (fun e s' => R (.error e) s') s := by
  have W := (Walks.listRev (prog := prog) (w := w) (A := A.in1) hh it l hne items).toS
  have hSf : S ∉ [it, l] := by simp only [List.mem_cons, List.not_mem_nil, or_false, not_or]; exact ⟨hSi, hSl⟩
  have hT : s.TypeIs (.ref it) "list_reverseiterator" := Heap.IsRevIter.typeIs hit
  have h1 : Builtin.List.listSameRef (.ref S) (.ref it) = false := by simp [Builtin.List.listSameRef, hSi]
  unfold Builtin.List.listExtendWith
  refine wpAny_bind (wpAny_typeOf hT ?_)
  rw [if_neg (by rw [h1]; decide)]
  refine wpAny_bind (wpAny_pyIter_revIter hit ?_)
  refine wpAny_bind (wpAny_holding ?_)
  unfold Builtin.List.listLengthHint
  refine wpAny_bind (wpAny_specialOf hT nolen_lri ?_)
  show wpAny _ A.in1 (specialOf (Value.ref it) (Str.ofString "__length_hint__") >>= _) _ _ _
  refine wpAny_bind (wpAny_specialOf hT hint_lri ?_)
  generalize hid : ("list_reverseiterator.__length_hint__" : String) = id0
  wp_delta
  rw [show splitId id0 = some ("list_reverseiterator", "__length_hint__") from by subst hid; decide +kernel]
  subst hid
  refine wpAny_bind (wpAny_isInstance (b := true) hT (by rw [isSubtype_type]; kernel_rfl) ?_)
  refine wpAny_pure ?_
  rw [if_neg (by decide)]
  have e0 : ((items.size : Nat) : Int) - 1 - ((0 : Nat) : Int) = (items.size : Int) - 1 := by omega
  refine wpAny_pure ⟨plainId_quiet F.plain_extend_loop _, codeAny_extend_loopS W hn _ hSf _ items.size 0 _ _ _ rfl (Nat.zero_le _) ⟨Nat.zero_le _, by rw [e0]; exact hit, hl⟩ hS (ItemsOf.nil _) fun s' acc' c' hm hS' hacc => ?_⟩
  rw [Moved.eq_with hm]
  refine hR s'.heap s'.toks acc' c' (fun b o hb hb' e => hm.heap b o (fun hmem => ?_) e) hS' hacc
  rcases List.mem_cons.mp hmem with e' | hmem
  · exact hb' e'
  · exact hb (List.mem_singleton.mp hmem)
theorem pd_list_init_rev {it l S : Addr} {items : Array Value} {R : Result → Shared → Prop} (hh : A.handled = none) (hit : s.heap.IsRevIter it l ((items.size : Int) - 1)) (hl : s.heap.IsList l items) (hne : l ≠ it) (hn : items.size ≤ sizeLine)
    (hS : s.heap.get? S = some { cls := .type "list", data := .seq #[] }) (hSi : S ≠ it) (hSl : S ≠ l)
    (hR : ∀ h' tk acc' c', (∀ b o, b ≠ it → b ≠ S → s.heap.get? b = some o → h'.get? b = some o) → h'.get? S = some { cls := .type "list", dict := none, data := .seq acc' c', slots := #[] } →
      ItemsOf (fun i v => items[items.size - 1 - i]? = some v) acc' items.size → R (.ok (.ret .none)) { s with heap := h', toks := tk }) :
    wpAny (model prog w) A.in1 (Builtin.«list.__init__» ⟨[.ref S, .ref it], []⟩)
      (fun fin s' => match fin with | .done f => R (.ok f) s' | .again c' => c'.quiet = true ∧ codeAny (model prog w) A c' R s') (fun e s' => R (.error e) s') s := by
  show wpAny _ A.in1 (do let old ← Builtin.List.listItems (.ref S); Builtin.List.listUpdate (.ref S) (fun _ => #[]); letGo old.toList.reverse; Builtin.List.listExtendWith (.ref S) (.ref it) .none) _ _ s
  refine wpAny_bind ?_
  unfold Builtin.List.listItems
  refine wpAny_bind (wpAny_seqItems hS rfl (wpAny_pure ?_))
  show wpAny _ A.in1 (updateSeq S (fun _ => #[]) >>= fun _ => letGo (#[] : Array Value).toList.reverse >>= fun _ => Builtin.List.listExtendWith (.ref S) (.ref it) .none) _ _ s
  refine wpAny_bind (wpAny_updateSeq hS rfl ?_)
  have hS₂ := Heap.get?_update_self (Obj.mapSeq (fun _ => (#[] : Array Value))) hS rfl
  have oth : ∀ b o, b ≠ S → s.heap.get? b = some o → (s.heap.update S (Obj.mapSeq (fun _ => (#[] : Array Value)))).get? b = some o :=
    fun b o hb e => (Heap.get?_update_other _ _ (Ne.symm hb)).trans e
  refine wpAny_bind (wpAny_letGo ?_)
  obtain ⟨oi, hoi, hoi2⟩ := hit
  obtain ⟨ol, hol, hol2⟩ := hl
  refine pd_extend_rev hh ⟨oi, oth it oi (Ne.symm hSi) hoi, hoi2⟩ ⟨ol, oth l ol (Ne.symm hSl) hol, hol2⟩ hne hn hS₂ hSi hSl fun h' tk acc' c' hk hS' hacc => ?_
  exact hR h' tk acc' c' (fun b o hb hb' e => hk b o hb hb' (oth b o hb' e)) hS' hacc
theorem pd_call_list_rev {Q : Value → Shared → Prop} {it l : Addr} {items : Array Value} (hh : A.handled = none) (hit : s.heap.IsRevIter it l ((items.size : Int) - 1)) (hl : s.heap.IsList l items) (hne : l ≠ it) (hn : items.size ≤ sizeLine)
    (hQ : ∀ h' tk acc' c', (∀ b o, b ≠ it → s.heap.get? b = some o → h'.get? b = some o) →
      h'.get? s.heap.objs.size = some { cls := .type "list", dict := none, data := .seq acc' c', slots := #[] } → ItemsOf (fun i v => items[items.size - 1 - i]? = some v) acc' items.size → Q (.ref s.heap.objs.size) { s with heap := h', toks := tk }) :
    wpAny (model prog w) A (call (.type "list") [.ref it]) Q E s := by
  refine callType_codes (Q₁ := fun obj s₁ => obj = .ref s.heap.objs.size ∧ s₁ = { s with heap := s.heap.push { cls := .type "list", data := .seq #[] } }) F.called_list (F.typeCall_list_1 _) F.entry_list_init
    (code_list_new _ ⟨rfl, rfl⟩) fun obj s₁ h₁ => ?_
  obtain ⟨rfl, rfl⟩ := h₁
  have hS : (s.heap.push { cls := .type "list", data := .seq #[] }).get? s.heap.objs.size = some { cls := .type "list", data := .seq #[] } := Heap.get?_push_size _ rfl
  obtain ⟨oi, hoi, hoi2⟩ := hit
  obtain ⟨ol, hol, hol2⟩ := hl
  refine ⟨⟨_, hS, rfl⟩, F.args_list_init_2 _ _, pd_list_init_rev (A := A.in1) hh ⟨oi, Heap.get?_push_of_some _ hoi, hoi2⟩ ⟨ol, Heap.get?_push_of_some _ hol, hol2⟩ hne hn hS (Nat.ne_of_gt (Heap.lt_size hoi)) (Nat.ne_of_gt (Heap.lt_size hol)) fun h' tk acc' c' hk hS' hacc => ?_⟩
  exact ⟨rfl, hQ h' tk acc' c' (fun b o hb e => hk b o hb (Nat.ne_of_lt (Heap.lt_size e)) (Heap.get?_push_of_some _ e)) hS' hacc⟩
end
end RT
namespace L2.PD
open PySem PySem.Spec PyProof.Rows L2
section
variable {X : Cx} {E : XK} {e : Expr} {te : TE} {p p2 pos pos2 : Pos} {f : Rho → R PyData}
/-- list(reversed(x)), x a list: a new list -/
def tListRev (K : PySem.W.Frag) (te : TE) : TE := fun σ H Q => te σ H fun v H1 => ∃ (a : Addr) (xs : List V), v = .ref a ∧ SqL K H1 a xs ∧ ∀ q, H1 q = none → Q (.ref q) (upd H1 q (.lst xs.reverse))
theorem pe_listRev (hc : X.calm = true) (hg : Gl X "list") (hm : X.mg "list" = none) (hg2 : Gl X "reversed") (hm2 : X.mg "reversed" = none) (he : PE X e te)
    (hs : starEach [e] X.env = (false, eval e X.env) :: starEach [] X.env := by rfl)
    (hs2 : starEach [.Call (.Name "reversed" p2) [e] [] pos2] X.env = (false, eval (.Call (.Name "reversed" p2) [e] [] pos2) X.env) :: starEach [] X.env := by rfl) :
    PE X (.Call (.Name "list" p) [.Call (.Name "reversed" p2) [e] [] pos2] [] pos) (tListRev X.K te) := by
  refine ⟨fun pins s σ H Q I h => ?_⟩
  refine Call_ (ld_blt I hg hm boot_list (PyProof.Rows.callWith_type1 (args_cons (Call_ (ld_blt I hg2 hm2 PyProof.Rows.boot_reversed (PyProof.Rows.callWith_type1 (args_cons (thn (he.run pins s σ H _ I h) fun u s1 ⟨v, H1, I1, r1, q1⟩ => args_nil ?_) hs) hs rfl))) hs2) hs2 rfl))
  obtain ⟨a, xs, ev, hq, q⟩ := q1
  subst ev
  obtain rfl : u = Value.ref a := r1
  obtain ⟨its, rv, p', hz⟩ := I1.list hq
  refine call_reversed_list p'.isList (args_nil ?_)
  have k0 : ∀ b o, s1.heap.get? b = some o → (s1.heap.push (revObj a ((its.toArray.size : Int) - 1))).get? b = some o := fun b o e => Heap.get?_push_of_some _ e
  have hl := p'.isList
  obtain ⟨ol, hol, _⟩ := id hl
  have hne : a ≠ s1.heap.objs.size := Nat.ne_of_lt (Heap.lt_size hol)
  have hn : its.toArray.size ≤ sizeLine := by rw [List.size_toArray, ← rv.length]; exact hz
  refine RT.pd_call_list_rev (s := { s1 with heap := s1.heap.push (revObj a ((its.toArray.size : Int) - 1)) }) (I1.ok.hd hc) ⟨_, Heap.get?_push_size _ rfl, rfl, rfl⟩ (hl.push _) hne hn fun h' tk acc c' hk hS hi => ?_
  have hle : s1.heap.objs.size ≤ (s1.heap.push (revObj a ((its.toArray.size : Int) - 1))).objs.size := by simp [Heap.push]
  refine ⟨.ref (s1.heap.push (revObj a ((its.toArray.size : Int) - 1))).objs.size, upd H1 (s1.heap.push (revObj a ((its.toArray.size : Int) - 1))).objs.size (.lst xs.reverse), I1.laid (t' := tk) (fun b o e => hk b o (Nat.ne_of_lt (Heap.lt_size e)) (k0 b o e)) hle (show ObjOk X.prog X.w _ _ _ (.lst xs.reverse) from ⟨by rw [List.length_reverse]; exact hz, acc.toList, c', RT.vals_rev rv hi, ?_⟩), rfl, q _ (I1.hok.fresh hle)⟩
  rw [Array.toArray_toList]
  exact hS
theorem rp_reverse {K : PySem.W.Frag} {G : Hp} : ∀ {vs : List V} {ds : List PyData}, RpAll K G vs ds → RpAll K G vs.reverse ds.reverse
  | _, _, .nil => .nil
  | _, _, .cons r t => by
    rw [List.reverse_cons, List.reverse_cons]
    exact (rp_reverse t).append (.cons r .nil)
theorem de_listRev (hc : X.calm = true) (hg : Gl X "list") (hm : X.mg "list" = none) (hg2 : Gl X "reversed") (hm2 : X.mg "reversed" = none) (he : PE X e (tP X.K X.mg E f))
    (hs : starEach [e] X.env = (false, eval e X.env) :: starEach [] X.env := by rfl)
    (hs2 : starEach [.Call (.Name "reversed" p2) [e] [] pos2] X.env = (false, eval (.Call (.Name "reversed" p2) [e] [] pos2) X.env) :: starEach [] X.env := by rfl) :
    PE X (.Call (.Name "list" p) [.Call (.Name "reversed" p2) [e] [] pos2] [] pos) (tF X.K X.mg E (fCall (one revD) (aCons f aNil))) :=
  pe_imp (pe_listRev hc hg hm hg2 hm2 he hs hs2) fun _ _ σ H Q _ ⟨B, ρ, G, e, h⟩ => by
    unfold fCall aCons aNil at h
    rw [R.bind_assoc] at h
    refine tP_bind e h fun d v H1 G1 g1 r1 e1 h1 => ?_
    cases d <;> first | exact h1.elim | skip
    obtain ⟨p, xs, rfl, hx, ax⟩ := r1.list_inv
    exact ⟨p, xs, rfl, .inl (Same.rd e1.sub hx), fun q n => newL_of (B := B) g1 h1 q _ n (rp_reverse ax)⟩
end
end L2.PD

set_option Elab.async false
set_option linter.all false
set_option autoImplicit false
set_option maxRecDepth 100000
/-! PDz: zip of a list and a tuple. Each iterator is told by what it gives (Nx), not by its kind. -/
namespace RZ
open PySem PySem.Spec PyProof.Rows L2
/-- from heap to heap all stays but for the cells cs -/
def Stays (cs : List Addr) (h h' : Heap) : Prop := ∀ c o, c ∉ cs → h.get? c = some o → h'.get? c = some o
theorem Stays.of {b : Addr} {h h' : Heap} {cs : List Addr} (e : Heap.ExtBut b h h') (m : b ∈ cs) : Stays cs h h' := fun c o hc ho => e c o (fun z => hc (z ▸ m)) ho
/-- the iterator at it gives x and goes from P to P' -/
structure Nx (prog : Program) (w : World) (it : Addr) (cs : List Addr) (P P' : Heap → Prop) (x : Value) : Prop where
  step : ∀ (A : Around) (s : Shared) (Q : Value → Shared → Prop) (E : Value → Shared → Prop), P s.heap → (∀ h', P' h' → Heap.SameBut it s.heap h' → Q x { s with heap := h' }) → wpAny (model prog w) A (Builtin.SmallTypes.nextOf (.ref it)) Q E s
  keep : ∀ h h', Stays cs h h' → P h → P h'
  keep' : ∀ h h', Stays cs h h' → P' h → P' h'
/-- the iterator at it is at its end -/
structure Nd (prog : Program) (w : World) (it : Addr) (cs : List Addr) (P : Heap → Prop) : Prop where
  stop : ∀ (A : Around) (s : Shared) (Q : Value → Shared → Prop) (E : Value → Shared → Prop), A.handled = none → P s.heap → (∀ h' e, Heap.ExtBut it s.heap h' → (∃ o, h'.get? e = some o ∧ o.cls = .type "StopIteration") → E (.ref e) { s with heap := h' }) → wpAny (model prog w) A (Builtin.SmallTypes.nextOf (.ref it)) Q E s
  keep : ∀ h h', Stays cs h h' → P h → P h'
section
variable {prog : Program} {w : World} {A : Around} {E : Value → Shared → Prop} {s : Shared}
theorem nx_list {it l : Addr} {cs : List Addr} {k : Nat} {items : Array Value} {x : Value} (hx : items[k]? = some x) (h1 : it ∉ cs) (h2 : l ∉ cs) (h3 : l ≠ it) :
    Nx prog w it cs (fun h => h.IsListIter it l k ∧ h.IsList l items) (fun h => h.IsListIter it l (k + 1) ∧ h.IsList l items) x where
  step := fun A s Q E p q => wpAny_nextOf_list_item p.1 p.2 hx fun h' a b => q h' ⟨a, p.2.extBut b.extBut h3⟩ b
  keep := fun h h' e p => ⟨let ⟨o, ho, r⟩ := p.1; ⟨o, e _ _ h1 ho, r⟩, let ⟨o, ho, r⟩ := p.2; ⟨o, e _ _ h2 ho, r⟩⟩
  keep' := fun h h' e p => ⟨let ⟨o, ho, r⟩ := p.1; ⟨o, e _ _ h1 ho, r⟩, let ⟨o, ho, r⟩ := p.2; ⟨o, e _ _ h2 ho, r⟩⟩
theorem nx_tup {it l : Addr} {cs : List Addr} {k : Nat} {items : Array Value} {x : Value} (hx : items[k]? = some x) (h1 : it ∉ cs) (h2 : l ∉ cs) (h3 : l ≠ it) :
    Nx prog w it cs (fun h => h.IsTupleIter it l k ∧ h.IsTuple l items) (fun h => h.IsTupleIter it l (k + 1) ∧ h.IsTuple l items) x where
  step := fun A s Q E p q => nextOf_tuple_item p.1 p.2 hx fun h' a b => q h' ⟨a, p.2.extBut b.extBut h3⟩ b
  keep := fun h h' e p => ⟨let ⟨o, ho, r⟩ := p.1; ⟨o, e _ _ h1 ho, r⟩, let ⟨o, ho, r⟩ := p.2; ⟨o, e _ _ h2 ho, r⟩⟩
  keep' := fun h h' e p => ⟨let ⟨o, ho, r⟩ := p.1; ⟨o, e _ _ h1 ho, r⟩, let ⟨o, ho, r⟩ := p.2; ⟨o, e _ _ h2 ho, r⟩⟩
theorem nd_list {it l : Addr} {cs : List Addr} {k : Nat} {items : Array Value} (hx : items[k]? = none) (h1 : it ∉ cs) (h2 : l ∉ cs) :
    Nd prog w it cs fun h => h.IsListIter it l k ∧ h.IsList l items where
  stop := fun A s Q E hh p q => wpAny_nextOf_list_end hh p.1 p.2 hx q
  keep := fun h h' e p => ⟨let ⟨o, ho, r⟩ := p.1; ⟨o, e _ _ h1 ho, r⟩, let ⟨o, ho, r⟩ := p.2; ⟨o, e _ _ h2 ho, r⟩⟩
theorem nd_tup {it l : Addr} {cs : List Addr} {k : Nat} {items : Array Value} (hx : items[k]? = none) (h1 : it ∉ cs) (h2 : l ∉ cs) :
    Nd prog w it cs fun h => h.IsTupleIter it l k ∧ h.IsTuple l items where
  stop := fun A s Q E hh p q => nextOf_tuple_end hh p.1 p.2 hx q
  keep := fun h h' e p => ⟨let ⟨o, ho, r⟩ := p.1; ⟨o, e _ _ h1 ho, r⟩, let ⟨o, ho, r⟩ := p.2; ⟨o, e _ _ h2 ho, r⟩⟩
structure Apart5 (z TI TO i1 i2 : Addr) : Prop where
  TIz : TI ≠ z
  TOz : TO ≠ z
  i1z : i1 ≠ z
  i2z : i2 ≠ z
  TITO : TI ≠ TO
  TIi1 : TI ≠ i1
  TIi2 : TI ≠ i2
  TOi1 : TO ≠ i1
  TOi2 : TO ≠ i2
  i12 : i1 ≠ i2
theorem zipG_item {z TI TO i1 i2 : Addr} {P1 P1' P2 P2' : Heap → Prop} {x y a b : Value} {Q : Value → Shared → Prop} (D : Apart5 z TI TO i1 i2)
    (hz : IsZip s.heap z TI TO .none) (hTI : IsPair s.heap TI (.ref i1) (.ref i2)) (hTO : IsPair s.heap TO a b)
    (p1 : P1 s.heap) (p2 : P2 s.heap) (n1 : Nx prog w i1 [z, TO, i2] P1 P1' x) (n2 : Nx prog w i2 [z, TO, i1] P2 P2' y)
    (hQ : ∀ h', IsZip h' z TI TO (rawInt s.heap.objs.size) → IsPair h' TO x y → P1' h' → P2' h' → IsPair h' s.heap.objs.size x y → h'.objs.size = s.heap.objs.size + 1 → Stays [z, TO, i1, i2] s.heap h' → Q (.ref s.heap.objs.size) { s with heap := h' }) :
    wpAny (model prog w) A (Builtin.«zip.__next__» ⟨[.ref z], []⟩) (fun fin s' => ∃ v, fin = .done (.ret v) ∧ Q v s') E s := by
  show wpAny _ _ (field (.ref z) 2 >>= _) _ _ _
  refine wpAny_bind (wpAny_field hz rfl (x := .bool false) rfl ?_)
  show wpAny _ _ (field (.ref z) 3 >>= _) _ _ _
  refine wpAny_bind (wpAny_field hz rfl (x := .ref TI) rfl ?_)
  refine wpAny_bind (wpAny_seqItems hTI rfl ?_)
  show wpAny _ _ (Builtin.SmallTypes.ownedTupleIsFree (.ref z) >>= _) _ _ _
  refine wpAny_bind ?_
  unfold Builtin.SmallTypes.ownedTupleIsFree
  refine wpAny_bind (wpAny_field hz rfl (x := .none) rfl (wpAny_pure ?_))
  simp only [if_true]
  refine wpAny_bind (wpAny_rule ?_)
  refine wpAny_bind (wpAny_field hz rfl (x := .ref TO) rfl ?_)
  refine wpAny_bind (wpAny_setField_rec hz (by simp) fun ha za sa => ?_)
  replace za : IsZip ha z TI TO .ellipsis := za
  refine wpAny_bind ?_
  simp only [List.zipIdx_cons, List.zipIdx_nil, List.forIn_cons, List.forIn_nil]
  -- the first item
  refine wpAny_bind (wpAny_bind (wpAny_onRaise ?_))
  show wpAny _ _ (Builtin.SmallTypes.nextOf (.ref i1) >>= _) _ _ _
  refine wpAny_bind (n1.step _ _ _ _ (n1.keep _ _ (Stays.of sa.extBut (by simp)) p1) fun hb q1 sb => wpAny_pure ?_)
  have ob : IsPair hb TO a b := sb.extBut _ _ D.TOi1 (sa.extBut _ _ D.TOz hTO)
  refine wpAny_bind (wpAny_seqItems ob rfl ?_)
  refine wpAny_bind (wpAny_updateSeq_pair ob fun hc oc sc => ?_)
  replace oc : IsPair hc TO x b := oc
  refine wpAny_bind (wpAny_letGo (wpAny_pure ?_))
  -- the second
  refine wpAny_bind (wpAny_bind (wpAny_onRaise ?_))
  show wpAny _ _ (Builtin.SmallTypes.nextOf (.ref i2) >>= _) _ _ _
  have p2c : P2 hc := n2.keep _ _ (Stays.of sc.extBut (by simp)) (n2.keep _ _ (Stays.of sb.extBut (by simp)) (n2.keep _ _ (Stays.of sa.extBut (by simp)) p2))
  refine wpAny_bind (n2.step _ _ _ _ p2c fun hd q2 sd => wpAny_pure ?_)
  have od : IsPair hd TO x b := sd.extBut _ _ D.TOi2 oc
  refine wpAny_bind (wpAny_seqItems od rfl ?_)
  refine wpAny_bind (wpAny_updateSeq_pair od fun he oe se => ?_)
  replace oe : IsPair he TO x y := oe
  refine wpAny_bind (wpAny_letGo (wpAny_pure (wpAny_pure ?_)))
  -- the pair handed out
  refine wpAny_bind (wpAny_seqItems oe rfl ?_)
  refine wpAny_bind (wpAny_newTuple ?_)
  have size_e : he.objs.size = s.heap.objs.size := by rw [se.1, sd.1, sc.1, sb.1, sa.1]
  have ze : IsZip he z TI TO .ellipsis := se.extBut _ _ D.TOz.symm (sd.extBut _ _ D.i2z.symm (sc.extBut _ _ D.TOz.symm (sb.extBut _ _ D.i1z.symm za)))
  have ke : Stays [z, TO, i1, i2] s.heap he := fun c o hc' e => by
    simp only [List.mem_cons, List.not_mem_nil, or_false, not_or] at hc'
    obtain ⟨c1, c2, c3, c4⟩ := hc'
    exact se.extBut _ _ c2 (sd.extBut _ _ c4 (sc.extBut _ _ c2 (sb.extBut _ _ c3 (sa.extBut _ _ c1 e))))
  have q1e : P1' he := n1.keep' _ _ (Stays.of se.extBut (by simp)) (n1.keep' _ _ (Stays.of sd.extBut (by simp)) (n1.keep' _ _ (Stays.of sc.extBut (by simp)) q1))
  have q2e : P2' he := n2.keep' _ _ (Stays.of se.extBut (by simp)) q2
  have zlt : z < he.objs.size := Heap.lt_size ze
  show wpAny _ _ (Builtin.SmallTypes.ownedTupleHandOut (.ref z) (.ref he.objs.size) >>= _) _ _ _
  refine wpAny_bind ?_
  unfold Builtin.SmallTypes.ownedTupleHandOut
  have zf : IsZip (he.push { cls := .type "tuple", data := .seq #[x, y] }) z TI TO .ellipsis := Heap.get?_push_of_some _ ze
  refine wpAny_bind (wpAny_setField_rec zf (by simp) fun hg zg sg => ?_)
  replace zg : IsZip hg z TI TO (rawInt he.objs.size) := zg
  refine wpAny_setField_rec zg (by simp) fun hk zk sk => ?_
  replace zk : IsZip hk z TI TO (rawInt he.objs.size) := zk
  have up : Stays [z] he hk := fun c o c1 e => by
    have c1' : c ≠ z := by simpa using c1
    exact sk.extBut _ _ c1' (sg.extBut _ _ c1' (Heap.get?_push_of_some _ e))
  have upc : ∀ {cs : List Addr}, z ∈ cs → Stays cs he hk := fun m c o hc' e => up c o (fun z' => hc' (List.mem_singleton.mp z' ▸ m)) e
  have Tk : IsPair hk he.objs.size x y := sk.extBut _ _ (Nat.ne_of_gt zlt) (sg.extBut _ _ (Nat.ne_of_gt zlt) (Heap.get?_push_size _ rfl))
  have size_k : hk.objs.size = he.objs.size + 1 := by rw [sk.1, sg.1, Heap.size_push]
  rw [size_e] at zk Tk size_k
  refine wpAny_pure ⟨_, rfl, ?_⟩
  show Q (.ref he.objs.size) _
  rw [size_e]
  exact hQ hk zk (up _ _ (by simpa using D.TOz) oe) (n1.keep' _ _ (upc (by simp)) q1e) (n2.keep' _ _ (upc (by simp)) q2e) Tk size_k fun c o hc' e => upc (by simp) c o hc' (ke c o hc' e)
theorem zipG_end {z TI TO i1 i2 : Addr} {P1 P1' P2 : Heap → Prop} {x a b : Value} {Q : Fin → Shared → Prop} (hh : A.handled = none) (D : Apart5 z TI TO i1 i2)
    (hz : IsZip s.heap z TI TO .none) (hTI : IsPair s.heap TI (.ref i1) (.ref i2)) (hTO : IsPair s.heap TO a b)
    (p1 : P1 s.heap) (p2 : P2 s.heap) (nd : Nd prog w i1 [z, TO, i2] P1 ∨ (Nx prog w i1 [z, TO, i2] P1 P1' x ∧ Nd prog w i2 [z, TO, i1] P2))
    (hE : ∀ h' e, Stays [z, TO, i1, i2] s.heap h' → (∃ o, h'.get? e = some o ∧ o.cls = .type "StopIteration") → E (.ref e) { s with heap := h' }) :
    wpAny (model prog w) A (Builtin.«zip.__next__» ⟨[.ref z], []⟩) Q E s := by
  show wpAny _ _ (field (.ref z) 2 >>= _) _ _ _
  refine wpAny_bind (wpAny_field hz rfl (x := .bool false) rfl ?_)
  show wpAny _ _ (field (.ref z) 3 >>= _) _ _ _
  refine wpAny_bind (wpAny_field hz rfl (x := .ref TI) rfl ?_)
  refine wpAny_bind (wpAny_seqItems hTI rfl ?_)
  show wpAny _ _ (Builtin.SmallTypes.ownedTupleIsFree (.ref z) >>= _) _ _ _
  refine wpAny_bind ?_
  unfold Builtin.SmallTypes.ownedTupleIsFree
  refine wpAny_bind (wpAny_field hz rfl (x := .none) rfl (wpAny_pure ?_))
  simp only [if_true]
  refine wpAny_bind (wpAny_rule ?_)
  refine wpAny_bind (wpAny_field hz rfl (x := .ref TO) rfl ?_)
  refine wpAny_bind (wpAny_setField_rec hz (by simp) fun ha za sa => ?_)
  replace za : IsZip ha z TI TO .ellipsis := za
  refine wpAny_bind ?_
  simp only [List.zipIdx_cons, List.zipIdx_nil, List.forIn_cons, List.forIn_nil]
  refine wpAny_bind (wpAny_bind (wpAny_onRaise ?_))
  show wpAny _ _ (Builtin.SmallTypes.nextOf (.ref i1) >>= _) _ _ _
  rcases nd with nd | ⟨n1, nd⟩
  · refine wpAny_bind (nd.stop _ _ _ _ hh (nd.keep _ _ (Stays.of sa.extBut (by simp)) p1) fun hb e sb ex => ?_)
    obtain ⟨oe, hoe, hce⟩ := ex
    have zb : IsZip hb z TI TO .ellipsis := sb _ _ D.i1z.symm za
    have hez : e ≠ z := fun q => by subst q; rw [zb] at hoe; cases hoe; simp at hce
    refine wpAny_setField_rec zb (by simp) fun hc _ sc => hE hc e (fun c o hc' q => ?_) ⟨oe, sc.extBut _ _ hez hoe, hce⟩
    simp only [List.mem_cons, List.not_mem_nil, or_false, not_or] at hc'
    exact sc.extBut _ _ hc'.1 (sb _ _ hc'.2.2.1 (sa.extBut _ _ hc'.1 q))
  · refine wpAny_bind (n1.step _ _ _ _ (n1.keep _ _ (Stays.of sa.extBut (by simp)) p1) fun hb _ sb => wpAny_pure ?_)
    have ob : IsPair hb TO a b := sb.extBut _ _ D.TOi1 (sa.extBut _ _ D.TOz hTO)
    refine wpAny_bind (wpAny_seqItems ob rfl ?_)
    refine wpAny_bind (wpAny_updateSeq_pair ob fun hc oc sc => ?_)
    refine wpAny_bind (wpAny_letGo (wpAny_pure ?_))
    refine wpAny_bind (wpAny_bind (wpAny_onRaise ?_))
    show wpAny _ _ (Builtin.SmallTypes.nextOf (.ref i2) >>= _) _ _ _
    have p2c : P2 hc := nd.keep _ _ (Stays.of sc.extBut (by simp)) (nd.keep _ _ (Stays.of sb.extBut (by simp)) (nd.keep _ _ (Stays.of sa.extBut (by simp)) p2))
    refine wpAny_bind (nd.stop _ _ _ _ hh p2c fun hd e sd ex => ?_)
    obtain ⟨oe, hoe, hce⟩ := ex
    have zd : IsZip hd z TI TO .ellipsis := sd _ _ D.i2z.symm (sc.extBut _ _ D.TOz.symm (sb.extBut _ _ D.i1z.symm za))
    have hez : e ≠ z := fun q => by subst q; rw [zd] at hoe; cases hoe; simp at hce
    refine wpAny_setField_rec zd (by simp) fun he _ se => hE he e (fun c o hc' q => ?_) ⟨oe, se.extBut _ _ hez hoe, hce⟩
    simp only [List.mem_cons, List.not_mem_nil, or_false, not_or] at hc'
    obtain ⟨c1, c2, c3, c4⟩ := hc'
    exact se.extBut _ _ c1 (sd _ _ c4 (sc.extBut _ _ c2 (sb.extBut _ _ c3 (sa.extBut _ _ c1 q))))
theorem nextG_item {z TI TO i1 i2 : Addr} {P1 P1' P2 P2' : Heap → Prop} {x y a b : Value} {Q : Option Value → Shared → Prop} (D : Apart5 z TI TO i1 i2)
    (hz : IsZip s.heap z TI TO .none) (hTI : IsPair s.heap TI (.ref i1) (.ref i2)) (hTO : IsPair s.heap TO a b)
    (p1 : P1 s.heap) (p2 : P2 s.heap) (n1 : Nx prog w i1 [z, TO, i2] P1 P1' x) (n2 : Nx prog w i2 [z, TO, i1] P2 P2' y)
    (hQ : ∀ h', IsZip h' z TI TO (rawInt s.heap.objs.size) → IsPair h' TO x y → P1' h' → P2' h' → IsPair h' s.heap.objs.size x y → h'.objs.size = s.heap.objs.size + 1 → Stays [z, TO, i1, i2] s.heap h' → Q (some (.ref s.heap.objs.size)) { s with heap := h' }) :
    wpAny (model prog w) A (pyNext (.ref z)) Q E s := by
  have hT : s.TypeIs (.ref z) "zip" := ⟨_, hz, rfl⟩
  unfold pyNext
  exact wpAny_bind (wpAny_attempt (wpAny_callSpecial?_slot (name := Str.ofString "__next__") hT F.slot_zip_next
    (wpAny_call_entry F.slot_zip_next hT F.entry_zip_next (zipG_item D hz hTI hTO p1 p2 n1 n2 fun h' a1 a2 a3 a4 a5 a6 a7 => wpAny_pure (hQ h' a1 a2 a3 a4 a5 a6 a7)) (F.args_zip_next_1 _))))
theorem nextG_end {z TI TO i1 i2 : Addr} {P1 P1' P2 : Heap → Prop} {x a b : Value} {Q : Option Value → Shared → Prop} (hh : A.handled = none) (D : Apart5 z TI TO i1 i2)
    (hz : IsZip s.heap z TI TO .none) (hTI : IsPair s.heap TI (.ref i1) (.ref i2)) (hTO : IsPair s.heap TO a b)
    (p1 : P1 s.heap) (p2 : P2 s.heap) (nd : Nd prog w i1 [z, TO, i2] P1 ∨ (Nx prog w i1 [z, TO, i2] P1 P1' x ∧ Nd prog w i2 [z, TO, i1] P2))
    (hQ : ∀ h', Stays [z, TO, i1, i2] s.heap h' → Q none { s with heap := h' }) : wpAny (model prog w) A (pyNext (.ref z)) Q E s := by
  have hT : s.TypeIs (.ref z) "zip" := ⟨_, hz, rfl⟩
  unfold pyNext
  refine wpAny_bind (wpAny_attempt (wpAny_callSpecial?_slot (name := Str.ofString "__next__") hT F.slot_zip_next
    (wpAny_call_entry F.slot_zip_next hT F.entry_zip_next (zipG_end hh D hz hTI hTO p1 p2 nd fun h' e hk ex => ?_) (F.args_zip_next_1 _))))
  obtain ⟨o, ho, hc⟩ := ex
  refine wpAny_bind (wpAny_isInstance (T := "StopIteration") (b := true) ⟨o, ho, hc⟩ isSubtype_stop ?_)
  exact wpAny_pure (hQ _ hk)
end
/-! ### zip(list, tuple) is made -/
abbrev zmA (h : Heap) (l1 : Addr) : Heap := h.push { cls := .type "list_iterator", data := .fields #[.ref l1, .int 0 0] }
abbrev zmB (h : Heap) (l1 l2 : Addr) : Heap := (zmA h l1).push { cls := .type "tuple_iterator", data := .fields #[.ref l2, .int 0 0] }
abbrev zmC (h : Heap) (l1 l2 : Addr) : Heap := (zmB h l1 l2).push { cls := .type "tuple", data := .seq #[.ref h.objs.size, .ref (zmA h l1).objs.size] }
abbrev zmD (h : Heap) (l1 l2 : Addr) : Heap := (zmC h l1 l2).push { cls := .type "tuple", data := .seq #[.none, .none] }
abbrev zmE (h : Heap) (l1 l2 : Addr) : Heap := (zmD h l1 l2).push { cls := .type "zip", data := .fields #[.none, .bool false, .bool false, .ref (zmB h l1 l2).objs.size, .ref (zmC h l1 l2).objs.size] }
theorem meets_zipM (l1 l2 : Addr) (xs ys : Array Value) :
    Meets (Builtin.«zip.__new__» ⟨[.type "zip", .ref l1, .ref l2], []⟩) (fun _ R s => s.heap.IsList l1 xs ∧ s.heap.IsTuple l2 ys ∧ R (.ok (.ret (.ref (zmD s.heap l1 l2).objs.size))) { s with heap := zmE s.heap l1 l2 }) :=
  .of_wp fun prog w A R s h => by
    obtain ⟨hp, g, d, tk, os⟩ := s; obtain ⟨a1, a2, h⟩ := h
    have hsub := sub_zip
    have b1 : Heap.IsList (Shared.heap ⟨hp, g, d, tk, os⟩) l1 xs := a1
    have b2 : Heap.IsTuple (Shared.heap ⟨hp.push { cls := .type "list_iterator", data := .fields #[.ref l1, .int 0 0] }, g, d, tk, os⟩) l2 ys := Heap.IsTuple.push a2 _
    wp_walk using wpAny_pyIter_list b1, wpAny_pyIter_tuple b2
    exact ⟨_, rfl, h⟩
section
variable {prog : Program} {w : World} {A : Around} {E : Value → Shared → Prop} {s : Shared}
theorem call_zipM {l1 l2 : Addr} {xs ys : Array Value} {Q : Value → Shared → Prop} (a1 : s.heap.IsList l1 xs) (a2 : s.heap.IsTuple l2 ys)
    (h : ∀ h' n, n = s.heap.objs.size → IsZip h' (n + 4) (n + 2) (n + 3) .none → IsPair h' (n + 2) (.ref n) (.ref (n + 1)) → IsPair h' (n + 3) .none .none → h'.IsListIter n l1 0 → h'.IsTupleIter (n + 1) l2 0 →
      (∀ c o, s.heap.get? c = some o → h'.get? c = some o) → Q (.ref (n + 4)) { s with heap := h' }) :
    wpAny (model prog w) A (call (.type "zip") [.ref l1, .ref l2]) Q E s := by
  refine callType_new F.called_zip (by decide) (F.typeCall_zip_2 _ _) (F.newCall_zip_2 _ _) (fun obj => F.args_object_init_3 obj _ _) F.entry_zip_new (meets_zipM l1 l2 xs ys) ⟨a1, a2, ?_⟩
  have up : ∀ {h : Heap} {o : Obj} (c : Addr) (u : Obj), h.get? c = some u → (h.push o).get? c = some u := fun c u q => Heap.get?_push_of_some _ q
  have n1 : (zmA s.heap l1).objs.size = s.heap.objs.size + 1 := Heap.size_push ..
  have n2 : (zmB s.heap l1 l2).objs.size = s.heap.objs.size + 2 := by rw [Heap.size_push, n1]
  have n3 : (zmC s.heap l1 l2).objs.size = s.heap.objs.size + 3 := by rw [Heap.size_push, n2]
  have n4 : (zmD s.heap l1 l2).objs.size = s.heap.objs.size + 4 := by rw [Heap.size_push, n3]
  have k5 : (zmE s.heap l1 l2).get? (zmD s.heap l1 l2).objs.size = some _ := Heap.get?_push_size _ rfl
  have k4 : (zmE s.heap l1 l2).get? (zmC s.heap l1 l2).objs.size = some _ := up _ _ (Heap.get?_push_size _ rfl)
  have k3 : (zmE s.heap l1 l2).get? (zmB s.heap l1 l2).objs.size = some _ := up _ _ (up _ _ (Heap.get?_push_size _ rfl))
  have k2 : (zmE s.heap l1 l2).get? (zmA s.heap l1).objs.size = some _ := up _ _ (up _ _ (up _ _ (Heap.get?_push_size _ rfl)))
  have k1 : (zmE s.heap l1 l2).get? s.heap.objs.size = some _ := up _ _ (up _ _ (up _ _ (up _ _ (Heap.get?_push_size _ rfl))))
  rw [n2, n3, n4] at k5
  rw [n1, n2] at k3
  rw [n3] at k4
  rw [n1] at k2
  show _ ∧ _
  rw [n4]
  exact ⟨⟨_, k5, rfl⟩, h _ _ rfl k5 k3 k4 ⟨_, k1, rfl, rfl⟩ ⟨_, k2, rfl, rfl⟩ fun c o q => up _ _ (up _ _ (up _ _ (up _ _ (up _ _ q))))⟩
end
/-- the list at a and the tuple at b as they stand at each turn -/
def ItzM (K : PySem.W.Frag) (a b : Addr) : It :=
  ⟨fun i H => ∃ (xs ys : List V) (x y : V), SqL K H a xs ∧ SqT K H b ys ∧ xs[i]? = some x ∧ ys[i]? = some y,
    fun i H v H' => ∃ T x y, v = .ref T ∧ H T = none ∧ H' = upd H T (.tup [x, y]) ∧ (∀ xs, SqL K H a xs → xs[i]? = some x) ∧ ∀ ys, SqT K H b ys → ys[i]? = some y,
    fun i H => ∃ xs ys : List V, SqL K H a xs ∧ SqT K H b ys ∧ (xs.length ≤ i ∨ ys.length ≤ i)⟩
theorem stays_not {cs : List Addr} {z TI TO i1 i2 : Addr} {h h' : Heap} (e : Stays [z, TO, i1, i2] h h') : ∀ c o, c ∉ [z, TI, TO, i1, i2] → h.get? c = some o → h'.get? c = some o :=
  fun c o hc q => e c o (fun m => hc (by simp only [List.mem_cons, List.not_mem_nil, or_false] at m ⊢; rcases m with m | m | m | m <;> simp [m])) q
theorem turn_zipM {P : Program} {w : World} {K : PySem.W.Frag} {elts : List Expr} {kk : Nat} {tpos : Pos} {a b z TI TO i1 i2 : Addr} (D : Apart5 z TI TO i1 i2) (ha : a ∉ [z, TO, i1, i2]) (hb : b ∉ [z, TO, i1, i2]) :
    Turn P w K (.Tuple elts kk tpos) (ItzM K a b) [z, TI, TO, i1, i2] z (fun i h => IsZip h z TI TO .none ∧ IsPair h TI (.ref i1) (.ref i2) ∧ (∃ x y, IsPair h TO x y) ∧ h.IsListIter i1 a i ∧ h.IsTupleIter i2 b i) where
  mem := by simp
  obj := fun i h st c hc => by
    obtain ⟨hz, hTI, ⟨x, y, hTO⟩, ⟨o1, e1, _, d1⟩, ⟨o2, e2, _, d2⟩⟩ := st
    simp only [List.mem_cons, List.not_mem_nil, or_false] at hc
    rcases hc with rfl | rfl | rfl | rfl | rfl
    · exact ⟨_, hz, fun v q => nomatch q⟩
    · exact ⟨_, hTI, fun v q => nomatch q⟩
    · exact ⟨_, hTO, fun v q => nomatch q⟩
    · exact ⟨o1, e1, fun v q => by rw [d1] at q; cases q⟩
    · exact ⟨o2, e2, fun v q => by rw [d2] at q; cases q⟩
  keep := fun i h h' st k => by
    obtain ⟨hz, hTI, ⟨x, y, hTO⟩, h1, h2⟩ := st
    exact ⟨k z (by simp) _ hz, k TI (by simp) _ hTI, ⟨x, y, k TO (by simp) _ hTO⟩, h1.at fun o q => k i1 (by simp) o q, h2.at fun o q => k i2 (by simp) o q⟩
  item := by
    intro X hP hw hK hc i pins s σ H E I hf st hg
    subst hP hw hK
    obtain ⟨hz, hTI, ⟨x0, y0, hTO⟩, h1, h2⟩ := st
    obtain ⟨xs, ys, x, y, hqx, hqy, hx, hy⟩ := hg
    obtain ⟨its, rv, p, _⟩ := I.list hqx
    obtain ⟨its2, rv2, p2, _⟩ := I.tuple hqy
    obtain ⟨u, hu, ru⟩ := rv.get hx
    obtain ⟨u2, hu2, ru2⟩ := rv2.get hy
    have zlt : z < s.heap.objs.size := Heap.lt_size hz
    have n1 : Nx X.prog X.w i1 [z, TO, i2] _ _ u := nx_list (l := a) (k := i) (items := its.toArray) (by simpa using hu) (by simp [D.i1z, D.i12, D.TOi1.symm]) (fun m => ha (by simp only [List.mem_cons, List.not_mem_nil, or_false] at m ⊢; rcases m with m | m | m <;> simp [m])) (fun e => ha (by simp [e]))
    have n2 : Nx X.prog X.w i2 [z, TO, i1] _ _ u2 := nx_tup (l := b) (k := i) (items := its2.toArray) (by simpa using hu2) (by simp [D.i2z, D.i12.symm, D.TOi2.symm]) (fun m => hb (by simp only [List.mem_cons, List.not_mem_nil, or_false] at m ⊢; rcases m with m | m | m <;> simp [m])) (fun e => hb (by simp [e]))
    refine nextG_item D hz hTI hTO ⟨h1, p.isList⟩ ⟨h2, p2⟩ n1 n2 fun h' z' TO' r1 r2 hT hsz hk => ?_
    refine ⟨_, rfl, wpAny_letOwnedTupleGo_zip (s := { s with heap := h' }) z' fun h'' z'' sb => ?_⟩
    have hT2 : h''.get? s.heap.objs.size = some { cls := .type "tuple", data := .seq #[u, u2] } := (sb.2 _ (Nat.ne_of_gt zlt)).trans hT
    have new : ObjOk X.prog X.w (upd H s.heap.objs.size (.tup [x, y])) h'' s.heap.objs.size (.tup [x, y]) := ⟨by show 2 ≤ sizeLine; decide, [u, u2], .cons ru (.cons ru2 .nil), ⟨_, hT2, rfl, _, rfl⟩⟩
    have I1 : Inv X pins σ (upd H s.heap.objs.size (.tup [x, y])) { s with heap := h'' } :=
      I.turnedNew (t' := s.toks) (ch := [z, TI, TO, i1, i2]) (fun c o hc' q => (sb.2 c (fun q' => hc' (by simp [q']))).trans (stays_not (cs := []) hk c o hc' q)) hf (Nat.le_refl _) new
    refine ⟨.ref s.heap.objs.size, _, I1, rfl, ⟨_, x, y, rfl, I.hok.fresh (Nat.le_refl _), rfl, fun l hl => by rw [I.list_inj hl hqx]; exact hx, fun l hl => by rw [I.tuple_inj hl hqy]; exact hy⟩, ⟨z'', ?_, ⟨u, u2, ?_⟩, ?_, ?_⟩, fun c hcm => ?_⟩
    · exact (sb.2 _ D.TIz).trans (hk _ _ (by simp [D.TIz, D.TITO, D.TIi1, D.TIi2]) hTI)
    · exact (sb.2 _ D.TOz).trans TO'
    · exact r1.1.at fun o q => (sb.2 _ D.i1z).trans q
    · exact r2.1.at fun o q => (sb.2 _ D.i2z).trans q
    · have hlt : c < s.heap.objs.size := by
        simp only [List.mem_cons, List.not_mem_nil, or_false] at hcm
        rcases hcm with rfl | rfl | rfl | rfl | rfl
        · exact zlt
        · exact Heap.lt_size hTI
        · exact Heap.lt_size hTO
        · obtain ⟨_, e1, _⟩ := h1; exact Heap.lt_size e1
        · obtain ⟨_, e2, _⟩ := h2; exact Heap.lt_size e2
      rw [upd_ne (Nat.ne_of_lt hlt)]
      exact (hf c hcm).1
  done := by
    intro X hP hw hK hc i pins s σ H E I hf st hg
    subst hP hw hK
    obtain ⟨hz, hTI, ⟨x0, y0, hTO⟩, h1, h2⟩ := st
    obtain ⟨xs, ys, hqx, hqy, hend⟩ := hg
    obtain ⟨its, rv, p, _⟩ := I.list hqx
    obtain ⟨its2, rv2, p2, _⟩ := I.tuple hqy
    have l1 := rv.length
    have l2 := rv2.length
    have ci1 : i1 ∉ [z, TO, i2] := by simp [D.i1z, D.i12, D.TOi1.symm]
    have ca : a ∉ [z, TO, i2] := fun m => ha (by simp only [List.mem_cons, List.not_mem_nil, or_false] at m ⊢; rcases m with m | m | m <;> simp [m])
    have ci2 : i2 ∉ [z, TO, i1] := by simp [D.i2z, D.i12.symm, D.TOi2.symm]
    have cb : b ∉ [z, TO, i1] := fun m => hb (by simp only [List.mem_cons, List.not_mem_nil, or_false] at m ⊢; rcases m with m | m | m <;> simp [m])
    have fin : ∀ h' : Heap, Stays [z, TO, i1, i2] s.heap h' → Inv X pins σ H { s with heap := h' } := fun h' hk => I.turnedL (t' := s.toks) (ch := [z, TI, TO, i1, i2]) (stays_not (cs := []) hk) hf
    cases hx : its.toArray[i]? with
    | none => exact nextG_end (P1 := fun h => h.IsListIter i1 a i ∧ h.IsList a its.toArray) (P1' := fun _ => True) (P2 := fun _ => True) (x := .none) (I.ok.hd hc) D hz hTI hTO ⟨h1, p.isList⟩ trivial (.inl (nd_list hx ci1 ca)) fun h' hk => ⟨rfl, fin h' hk⟩
    | some u =>
      have hy : its2.toArray[i]? = none := by
        rcases hend with q | q
        · simp at hx
          have := (List.getElem?_eq_some_iff.mp hx).1
          omega
        · simp; omega
      exact nextG_end (P1 := fun h => h.IsListIter i1 a i ∧ h.IsList a its.toArray) (P2 := fun h => h.IsTupleIter i2 b i ∧ h.IsTuple b its2.toArray) (I.ok.hd hc) D hz hTI hTO ⟨h1, p.isList⟩ ⟨h2, p2⟩ (.inr ⟨nx_list hx ci1 ca (fun e => ha (by simp [e])), nd_tup hy ci2 cb⟩) fun h' hk => ⟨rfl, fin h' hk⟩
  self := fun A i s Q E st h => wpAny_pyIter_zip st.1 h
/-- zip of two lists, two tuples, a list and a tuple -/
def iZipB (K : PySem.W.Frag) (ta : TA) : TI := fun σ H R => ta σ H fun vs H1 => ∃ a b xs ys, vs = [.ref a, .ref b] ∧ ((SqL K H1 a xs ∧ SqL K H1 b ys ∧ R (Itz K a b) H1) ∨ (SqT K H1 a xs ∧ SqT K H1 b ys ∧ R (ItzT K a b) H1) ∨ (SqL K H1 a xs ∧ SqT K H1 b ys ∧ R (ItzM K a b) H1))
theorem ne5 {a b : Nat} (h : a ≠ b) : (a : Addr) ≠ b := h
theorem apart5 (n : Nat) : Apart5 (n + 4) (n + 2) (n + 3) n (n + 1) := ⟨ne5 (a := n + 2) (b := n + 4) (by omega), ne5 (a := n + 3) (b := n + 4) (by omega), ne5 (a := n) (b := n + 4) (by omega), ne5 (a := n + 1) (b := n + 4) (by omega), ne5 (a := n + 2) (b := n + 3) (by omega), ne5 (a := n + 2) (b := n) (by omega), ne5 (a := n + 2) (b := n + 1) (by omega), ne5 (a := n + 3) (b := n) (by omega), ne5 (a := n + 3) (b := n + 1) (by omega), ne5 (a := n) (b := n + 1) (by omega)⟩
theorem below5 {n a : Nat} (h : a < n) : a ∉ [n + 4, n + 3, n, n + 1] := by
  simp only [List.mem_cons, List.not_mem_nil, or_false, not_or]
  omega
theorem pi_zipB {X : Cx} {e e2 : Expr} {ta : TA} {p pos tpos : Pos} {elts : List Expr} {kk : Nat} (hg : Gl X "zip") (hm : X.mg "zip" = none) (ha : PA X [e, e2] ta)
    (hs : starEach [e, e2] X.env = (false, eval e X.env) :: starEach [e2] X.env := by rfl) (hpl : (backTo pos (starEach [e2] X.env)).any (·.1) = false := by rfl) :
    PI X (.Tuple elts kk tpos) (.Call (.Name "zip" p) [e, e2] [] pos) (iZipB X.K ta) := by
  refine ⟨fun pins s σ H R I h => ?_⟩
  refine Call_ (ld_blt I hg hm PyProof.Rows.boot_zip (PyProof.Rows.callWith_type1 (thn (ha.run pos pins s σ H _ I h) fun us s1 ⟨vs, H1, I1, r1, q1⟩ => ?_) hs hpl))
  obtain ⟨a, b, xs, ys, ex, q1⟩ := q1
  subst ex
  obtain ⟨u, us', rfl, r, rr⟩ : ∃ u us', us = u :: us' ∧ RelV (.ref a) u ∧ Vals [.ref b] us' := by cases r1 with | cons r rr => exact ⟨_, _, rfl, r, rr⟩
  obtain ⟨u2, rfl, r'⟩ := vals1 rr
  cases r
  cases r'
  have foot : ∀ c, c ∈ [s1.heap.objs.size + 4, s1.heap.objs.size + 2, s1.heap.objs.size + 3, s1.heap.objs.size, s1.heap.objs.size + 1] → FpOk X pins H1 c := fun c hc => by
    have hle : s1.heap.objs.size ≤ c := by
      simp only [List.mem_cons, List.not_mem_nil, or_false] at hc
      omega
    exact I1.fpOk hle (I1.hok.fresh hle)
  rcases q1 with ⟨hqx, hqy, q⟩ | ⟨hqx, hqy, q⟩ | ⟨hqx, hqy, q⟩
  · obtain ⟨its, rv, p1, _⟩ := I1.list hqx
    obtain ⟨its2, rv2, p2, _⟩ := I1.list hqy
    exact call_zip_2 p1.isList p2.isList fun h' hz hTI hTO h1 h2 hsz hk => wpAny_pyIter_zip hz
      ⟨_, _, _, _, H1, rfl, I1.kept (t' := s1.toks) hk, turn_zip (PySem.W.ktu_apart s1.heap.objs.size a b p1.lt p2.lt), ⟨hz, hTI, ⟨_, _, hTO⟩, h1, h2⟩, foot, q⟩
  · obtain ⟨its, rv, p1, _⟩ := I1.tuple hqx
    obtain ⟨its2, rv2, p2, _⟩ := I1.tuple hqy
    obtain ⟨o1, ho1, _⟩ := id p1
    obtain ⟨o2, ho2, _⟩ := id p2
    exact call_zipT (show s1.heap.IsTuple a its.toArray from p1) (show s1.heap.IsTuple b its2.toArray from p2) fun h' hz hTI hTO h1 h2 hsz hk => wpAny_pyIter_zip hz
      ⟨_, _, _, _, H1, rfl, I1.kept (t' := s1.toks) hk, turn_zipT (PySem.W.ktu_apart s1.heap.objs.size a b (Heap.lt_size ho1) (Heap.lt_size ho2)), ⟨hz, hTI, ⟨_, _, hTO⟩, h1, h2⟩, foot, q⟩
  · obtain ⟨its, rv, p1, _⟩ := I1.list hqx
    obtain ⟨its2, rv2, p2, _⟩ := I1.tuple hqy
    obtain ⟨o2, ho2, _⟩ := id p2
    exact call_zipM p1.isList (show s1.heap.IsTuple b its2.toArray from p2) fun h' n en hz hTI hTO h1 h2 hk => wpAny_pyIter_zip hz (by
      subst en
      exact ⟨_, _, _, _, H1, rfl, I1.kept (t' := s1.toks) hk, turn_zipM (apart5 _) (below5 p1.lt) (below5 (Heap.lt_size ho2)), ⟨hz, hTI, ⟨_, _, hTO⟩, h1, h2⟩, foot, q⟩)
end RZ
namespace L2.PD
open PySem PySem.Spec PyProof.Rows L2
section
variable {K : PySem.W.Frag} {G : Hp}
theorem wk_zipM {a b : Addr} {o' : Obj} {xs ys : List V} {ds es : List PyData} (i j : Nat) (h : G a = some (.lst xs)) (r : RpAll K G xs ds) (h' : G b = some (.frz o' (.tup ys))) (r' : RpAll K G ys es) : Wk K (RZ.ItzM K a b) (g2 K i j) [i, j] (st2 i j) G (ds.zip es) where
  stop := fun G2 H2 s s2 => ⟨xs, ys, .inl (Same.rdR s2 (Same.rd s h)), sqt (s2 _ _ (s _ _ h')), by rw [r.length, r'.length, List.length_zip]; omega⟩
  go := fun k d G2 H2 s s2 e => by
    obtain ⟨e1, e2⟩ := zip_get e
    obtain ⟨v, v1, _⟩ := r.get e1
    obtain ⟨u, u1, _⟩ := r'.get e2
    exact ⟨xs, ys, v, u, .inl (Same.rdR s2 (Same.rd s h)), sqt (s2 _ _ (s _ _ h')), v1, u1⟩
  yld := fun k d G2 H2 x H3 B σ ρ Q s ev e y q => by
    obtain ⟨e1, e2⟩ := zip_get e
    obtain ⟨v, v1, v2⟩ := r.get e1
    obtain ⟨u, u1, u2⟩ := r'.get e2
    obtain ⟨T, x', y', rfl, n, rfl, f1, f2⟩ := y
    have ex := f1 xs (.inl (Same.rdR ev.sub (Same.rd s h)))
    have ey := f2 ys (sqt (ev.sub _ _ (s _ _ h')))
    rw [v1] at ex
    rw [u1] at ey
    cases ex
    cases ey
    exact yld2 (d := d.1) (e := d.2) ev n (v2.mono s) (u2.mono s) q
end
/-- zip of two lists, two tuples, a list and a tuple -/
def zipBD : List PyData → R (List (PyData × PyData))
  | [.list a, .list b] => .ok (a.zip b)
  | [.tuple a, .tuple b] => .ok (a.zip b)
  | [.list a, .tuple b] => .ok (a.zip b)
  | _ => .no
section
variable {X : Cx} {E : XK} {a b : Expr} {ga : Rho → R (List PyData)} {p pos tpos : Pos} {elts : List Expr} {kk : Nat}
theorem di_zipB (i j : Nat) (hg : Gl X "zip") (hm : X.mg "zip" = none) (ha : PA X [a, b] (tA X.K X.mg E ga)) (hs : starEach [a, b] X.env = (false, eval a X.env) :: starEach [b] X.env := by rfl) (hpl : (backTo pos (starEach [b] X.env)).any (·.1) = false := by rfl) :
    PI X (.Tuple elts kk tpos) (.Call (.Name "zip" p) [a, b] [] pos) (tI X.K X.mg E (g2 X.K i j) [i, j] (st2 i j) (iArg zipBD ga)) :=
  pi_imp (RZ.pi_zipB hg hm (pa_inv ha) hs hpl) fun _ _ σ H R' _ ⟨B, ρ, G, e, h⟩ => tA_bind e h fun ds vs H1 G1 g1 r1 e1 h1 => by
    intro zL zT
    unfold zipBD at h1
    split at h1
    rotate_right 1
    · exact False.elim h1
    · obtain ⟨v, u, rfl, r, r'⟩ := rp2 r1
      · obtain ⟨a, xs, rfl, q, w⟩ := r.list_inv
        obtain ⟨b, ys, rfl, q', w'⟩ := r'.list_inv
        refine ⟨a, b, xs, ys, rfl, .inl ⟨.inl (Same.rd e1.sub q), .inl (Same.rd e1.sub q'), h1 _ H1 G1 g1 (wk_zipL i j q w q' w') ?_⟩⟩
        rw [List.length_zip, ← w.length]
        exact Nat.le_trans (Nat.min_le_left _ _) (zL _ _ (.inl (Same.rd e1.sub q)))
    · obtain ⟨v, u, rfl, r, r'⟩ := rp2 r1
      · obtain ⟨a, o, xs, rfl, q, _, w⟩ := r.tuple_inv
        obtain ⟨b, o', ys, rfl, q', _, w'⟩ := r'.tuple_inv
        refine ⟨a, b, xs, ys, rfl, .inr (.inl ⟨sqt (e1.sub _ _ q), sqt (e1.sub _ _ q'), h1 _ H1 G1 g1 (wk_zipT i j q w q' w') ?_⟩)⟩
        rw [List.length_zip, ← w.length]
        exact Nat.le_trans (Nat.min_le_left _ _) (zT _ _ (sqt (e1.sub _ _ q)))
    · obtain ⟨v, u, rfl, r, r'⟩ := rp2 r1
      · obtain ⟨a, xs, rfl, q, w⟩ := r.list_inv
        obtain ⟨b, o', ys, rfl, q', _, w'⟩ := r'.tuple_inv
        refine ⟨a, b, xs, ys, rfl, .inr (.inr ⟨.inl (Same.rd e1.sub q), sqt (e1.sub _ _ q'), h1 _ H1 G1 g1 (wk_zipM i j q w q' w') ?_⟩)⟩
        rw [List.length_zip, ← w.length]
        exact Nat.le_trans (Nat.min_le_left _ _) (zL _ _ (.inl (Same.rd e1.sub q)))
end
end L2.PD

set_option Elab.async false
set_option linter.all false
set_option autoImplicit false
set_option maxRecDepth 100000
/-! PD8: t.count(i), min and max of two ints, min(xs, default=None). -/
namespace L2.PD
open PySem PySem.Spec PyProof.Rows L2

/-! ### t.count(i), t a tuple of ints -/
def rCntT (K : PySem.W.Frag) : V → List V → Hp → VK → Prop := fun x xs H Q => ∃ (p : Addr) (ns : List Int) (k : Int), x = .ref p ∧ xs = [.int k] ∧ SqT K H p (ns.map V.int) ∧ Q (.int (ns.count k : Nat)) H
theorem mt_count_tup {X : Cx} : MtR X "tuple.count" (rCntT X.K) := by
  intro pins s σ H x xs v us Q I rx rxs h
  obtain ⟨p, ns, k, rfl, rfl, hs, q⟩ := h
  cases rx
  obtain ⟨u, rfl, ru⟩ := vals1 rxs
  obtain ⟨t, rfl⟩ := ru
  obtain ⟨its, rv, ⟨⟨cls, dd, data, sl⟩, ho, hc, n, hd⟩, _⟩ := I.tuple hs
  simp only at hc hd
  subst hc hd
  have hi : IntsAre its ns := rv.ints
  refine call_meets PySem.F.slot_tuple_count ⟨_, ho, rfl⟩ PySem.F.entry_tuple_count (PySem.F.args_tuple_count_2 _ _)
    (SeqAt.tuple_countAt p its.toArray n dd sl (.int k t) (eqk k)) ⟨ho, fun y hy => (eqk_gives hi y (by simpa using hy)).at _ _, ?_⟩
  have ec : its.toArray.toList.countP (eqk k) = ns.count k := eqk_count hi
  refine ⟨.int (ns.count k : Nat), H, I.tok _, ⟨s.toks, ?_⟩, q⟩
  show Value.int ((its.toArray.toList.countP (eqk k) : Nat) : Int) s.toks = Value.int ((ns.count k : Nat) : Int) s.toks
  rw [ec]
def countD (t x : PyData) : R PyData := match t with
  | .tuple xs => match x with
    | .int k => (intsOf xs).bind fun ns => .ok (.int (ns.count k : Nat))
    | _ => .no
  | _ => .no
def fCount (fa fb : Rho → R PyData) : Rho → R PyData := fun ρ => (fa ρ).bind fun t => guard (isiTuple t) ((fb ρ).bind fun x => countD t x)
section
variable {X : Cx} {E : XK} {a b : Expr} {fa fb : Rho → R PyData} {apos cpos : Pos}
theorem de_count (ha : PE X a (tP X.K X.mg E fa)) (hb : PE X b (tP X.K X.mg E fb))
    (hbase : attributeBase a "count" X.env (eval a X.env) = eval a X.env := by rfl)
    (hfew : ((backTo cpos (starEach [b] X.env)).all (fun x => !x.1) && (backToKw cpos (keywordEach [] X.env)).all (fun x => x.1.isSome)
      && decide ([b].length + ([] : List Keyword).length + (if ([] : List Keyword).isEmpty then 0 else 1) < 30)) = true := by rfl)
    (hline : (apos.endLine == cpos.line) = true := by rfl) (hs : starEach [b] X.env = (false, eval b X.env) :: starEach [] X.env := by rfl) (hplain : (backTo cpos (starEach [] X.env)).any (·.1) = false := by rfl) :
    PE X (.Call (.Attribute a "count" apos) [b] [] cpos) (tP X.K X.mg E (fCount fa fb)) :=
  pe_imp (pe_bmT PySem.F.plainAttrs_tuple PySem.F.slot_tuple_count PySem.F.type_tuple_count mt_count_tup ha (pa_cons hb pa_nil hs) hbase hfew hline hs hplain) fun _ _ σ H Q _ ⟨B, ρ, G, e, h⟩ => tP_bind e h fun d v H1 G1 g1 r1 e1 h1 => by
    obtain ⟨c0, h1⟩ := guard_holds h1
    cases d <;> first | (cases c0; done) | skip
    obtain ⟨a, o, vs, rfl, q, n, w⟩ := r1.tuple_inv
    refine ⟨⟨a, o, vs, rfl, e1.sub _ _ q, n⟩, tP_bind e1 h1 fun d2 v2 H2 G2 g2 r2 e2 h2 => ?_⟩
    have w2 := RpAll.mono g2.g w
    cases d2 <;> first | exact h2.elim | skip
    obtain ⟨ns, e3, _, h2⟩ := intsOf_inv w2 h2
    subst e3
    exact ⟨a, ns, _, rfl, by rw [r2.int_inv], sqt (e2.sub _ _ (g2.g _ _ q)), h2 _ H2 G2 (g1.trans g2) (.int _)⟩
end
/-! ### min and max of two ints -/
def min2D : List PyData → R PyData
  | [.int i, .int j] => .ok (.int (if j < i then j else i))
  | _ => .no
def max2D : List PyData → R PyData
  | [.int i, .int j] => .ok (.int (if j > i then j else i))
  | _ => .no
theorem ne_min2 : NoExL min2D := fun ds e z => by
  unfold min2D at z
  split at z <;> cases z
theorem ne_max2 : NoExL max2D := fun ds e z => by
  unfold max2D at z
  split at z <;> cases z
section
variable {X : Cx}
theorem dc_min2 (hc : X.calm = true) : CallR X (.builtin "min") (rCD X.K min2D) := callr_imp (call_min2 hc) fun _ _ _ _ _ _ I ⟨G, ds, s, r, h⟩ => by
  unfold min2D at h
  split at h
  · obtain ⟨v, u, rfl, r, r'⟩ := rp2 r
    exact ⟨_, _, by rw [r.int_inv, r'.int_inv], h _ _ _ (Gr.refl s) (.int _)⟩
  · exact h.elim
theorem dc_max2 (hc : X.calm = true) : CallR X (.builtin "max") (rCD X.K max2D) := callr_imp (call_max2 hc) fun _ _ _ _ _ _ I ⟨G, ds, s, r, h⟩ => by
  unfold max2D at h
  split at h
  · obtain ⟨v, u, rfl, r, r'⟩ := rp2 r
    exact ⟨_, _, by rw [r.int_inv, r'.int_inv], h _ _ _ (Gr.refl s) (.int _)⟩
  · exact h.elim
end
/-! ### min(xs, default=None) -/
def minDfD : PyData → R PyData
  | .list xs => (intsOf xs).bind fun ns => match minI ns with
    | some m => .ok (.int m)
    | none => .ok .none
  | _ => .no
theorem ne_minDf : NoEx1 minDfD := fun d e z => by
  cases d <;> first | (cases z; done) | skip
  rename_i xs
  have z : ((intsOf xs).bind fun ns => match minI ns with
    | some m => R.ok (PyData.int m)
    | none => R.ok PyData.none) = R.ex e := z
  cases h : intsOf xs with
  | ok ns =>
    rw [h, R.bind_ok] at z
    split at z <;> cases z
  | ex e' => exact intsOf_ne _ _ h
  | no => rw [h] at z; cases z
theorem min_fold : ∀ (ys : List Int) (y : Int), PySem.W.minOf y ys = ys.foldl min y
  | [], _ => rfl
  | z :: ys, y => by
    show PySem.W.minOf (if decide (z < y) = true then z else y) ys = ys.foldl min (min y z)
    rw [min_fold ys]
    congr 1
    by_cases h : z < y
    · rw [if_pos (decide_eq_true h), Int.min_eq_right (by omega)]
    · rw [if_neg (by simpa using h), Int.min_eq_left (by omega)]
section
variable {X : Cx} {E : XK} {a : Expr} {ga : Rho → R (List PyData)} {p pos : Pos}
theorem cr_minDf (hc : X.calm = true) (hu : X.A.units + 64 < cLine) : CallRK X (.builtin "min") [Str.ofString "default"] (fun vs zs H Q => zs = [.non] ∧ rCD X.K (one minDfD) vs H Q) := by
  intro pins s σ H vs zs us ws Q I r rz ⟨ez, G, ds, sG, rd, h⟩
  subst ez
  obtain ⟨w1, rfl, e1⟩ := vals1 rz
  obtain rfl : w1 = Value.none := e1
  obtain ⟨x, d, rfl, rfl, rd, h⟩ := one_inv rd h
  cases d <;> first | exact h.elim | skip
  obtain ⟨l, xs, rfl, hq, w⟩ := rd.list_inv
  obtain rfl := Vals.ref1 r
  obtain ⟨ns, e1, _, h⟩ := intsOf_inv w h
  subst e1
  obtain ⟨its, rv, hl, _⟩ := I.list (.inl (Same.rd sG hq))
  have H1 : PySem.W.HoldAll s.heap its.toArray.toList ns := by simpa using PySem.W.HoldAll.of_ints rv.ints
  show wpAny _ _ (call (.builtin "min") [.ref l] [(Str.ofString "default", .none)]) _ _ _
  refine PySem.W.min_list_datum_default (I.ok.hd hc) hl.isList H1 (by show X.A.units + 1 + 0 < cLine; omega) (fun e h' tk hk => ?_) fun y ys i v h' tk e hi hv hk => ?_
  · subst e
    exact ⟨.non, H, I.kept hk, rfl, h _ _ _ (Gr.refl sG) .non⟩
  · obtain ⟨t, ev⟩ := PySem.W.int_of_holds hv
    subst e ev
    rw [min_fold] at *
    exact ⟨.int _, H, I.kept hk, ⟨_, rfl⟩, h _ _ _ (Gr.refl sG) (.int _)⟩
theorem de_minDf {kp kpos : Pos} {kk : Nat} (hc : X.calm = true) (hu : X.A.units + 64 < cLine) (hg : Gl X "min") (hm : X.mg "min" = none) (ha : PA X [a] (tA X.K X.mg E ga))
    (he : backTo pos (starEach [a] X.env) = (false, eval a X.env) :: backTo pos (starEach [] X.env) := by rfl) (hpl : (backTo pos (starEach [a] X.env)).any (·.1) = false := by rfl)
    (hall : (backToKw pos (keywordEach [⟨some "default", .Constant .none kk kpos, kp⟩] X.env)).all (·.1.isSome) = true := by rfl) (hnone : (backToKw pos (keywordEach [⟨some "default", .Constant .none kk kpos, kp⟩] X.env)).any (·.1.isNone) = false := by rfl)
    (hks : (backToKw pos (keywordEach [⟨some "default", .Constant .none kk kpos, kp⟩] X.env)).filterMap (·.1) = [Str.ofString "default"] := by rfl) :
    PE X (.Call (.Name "min" p) [a] [⟨some "default", .Constant .none kk kpos, kp⟩] pos) (tP X.K X.mg E (fCall (one minDfD) ga)) := by
  refine pe_imp (pe_callBK (kws := [⟨some "default", .Constant .none kk kpos, kp⟩]) (cr_minDf hc hu) hg hm (by decide +kernel) ha (pk_cons pe_non pk_nil) (by decide) (by decide) he hpl hall hnone hks) fun _ _ σ H Q _ h => ?_
  obtain ⟨B, ρ, G, e, h⟩ := h
  refine tA_bind e h fun ds vs H1 G1 g1 r1 e1 h1 => ⟨rfl, G1, ds, e1.sub, r1, ?_⟩
  exact noex_holds (ne_one ne_minDf ds) (R.holds.mono h1 (E' := XW X.K X.mg E B) (fun d hd v H' G' g r => hd v H' G' (g1.trans g) r) fun _ z => z)
end
end L2.PD

set_option Elab.async false
set_option linter.all false
set_option autoImplicit false
set_option maxRecDepth 100000
/-! Mir: each def of the program and of the laws as a function over data. Printed by gen.py. -/
namespace L2.PD
open PySem PySem.Spec PyProof.Rows L2
/-- is_within: 0 thing 1 low 2 high -/
def b_is_within : Rho → R Out := (sRet (fAndV (f1 (isiD isiInt) (fName 0)) (fAndV (fNotV (f1 (isiD isiBool) (fName 0))) (fChain leD leD (fName 1) (fName 0) (fName 2)))))
def m_is_within : List PyData → R PyData := run 3 3 b_is_within
/-- is_word: 0 thing 1 size 2 bit -/
def b_is_word : Rho → R Out := (sSeq (sIf (fOr (fNot (fTru (f1 (isiD isiTuple) (fName 0)))) (fB (f2 neD (fCall (one lenD) (aCons (fName 0) aNil)) (fName 1)))) (sRet (fC (.bool false))) sNil) (sSeq (sFor (iSeq (fName 0)) (stN 2) (sIf (fNot (fTru (fCall m_is_within (aCons (fName 2) (aCons (fC (.int 0)) (aCons (fC (.int 1)) aNil)))))) (sRet (fC (.bool false))) sNil)) (sRet (fC (.bool true)))))
def m_is_word : List PyData → R PyData := run 2 3 b_is_word
/-- plus: 0 one 1 other 2 a 3 b -/
def b_plus : Rho → R Out := (sRet (fCall (one tupleD) (aCons (fLc (iArg zipBD (aCons (fName 0) (aCons (fName 1) aNil))) (st2 2 3) [2, 3] fYes (fCall (one intD) (aCons (f2 neD (fName 2) (fName 3)) aNil))) aNil)))
def m_plus : List PyData → R PyData := run 2 4 b_plus
/-- weight: 0 word -/
def b_weight : Rho → R Out := (sRet (fCall (one sumD) (aCons (fName 0) aNil)))
def m_weight : List PyData → R PyData := run 1 1 b_weight
/-- apart: 0 one 1 other -/
def b_apart : Rho → R Out := (sRet (fCall m_weight (aCons (fCall m_plus (aCons (fName 0) (aCons (fName 1) aNil))) aNil)))
def m_apart : List PyData → R PyData := run 2 2 b_apart
/-- meet_evenly: 0 one 1 other 2 a 3 b -/
def b_meet_evenly : Rho → R Out := (sRet (f2 eqD (f2 modD (fCall (one sumD) (aCons (fLc (iArg zipBD (aCons (fName 0) (aCons (fName 1) aNil))) (st2 2 3) [2, 3] fYes (f2 mulD (fName 2) (fName 3))) aNil)) (fC (.int 2))) (fC (.int 0))))
def m_meet_evenly : List PyData → R PyData := run 2 4 b_meet_evenly
/-- none: 0 size -/
def b_none : Rho → R Out := (sRet (f2 mulD (fTup (aCons (fC (.int 0)) aNil)) (fName 0)))
def m_none : List PyData → R PyData := run 1 1 b_none
/-- law_cell: 0 _law_script 1 _law_k -/
def b_law_cell : Rho → R Out := (sSeq (sIf (fB (f2 ltD (fName 1) (fCall (one lenD) (aCons (fName 0) aNil)))) (sRet (f2 ixD (fName 0) (fName 1))) sNil) (sRet (fC (.int 0))))
def m_law_cell : List PyData → R PyData := run 2 2 b_law_cell
/-- law_mix: 0 _law_cell_here 1 _law_prime 2 _law_many -/
def b_law_mix : Rho → R Out := (sRet (f2 modD (f2 modD (f2 mulD (fName 0) (fC (.int 48271))) (fName 1)) (fName 2)))
def m_law_mix : List PyData → R PyData := run 3 3 b_law_mix
/-- law_large: 0 _law_script -/
def b_law_large : Rho → R Out := (sRet (f2 eqD (fCall m_law_mix (aCons (f2 addD (fCall m_law_cell (aCons (fName 0) (aCons (fC (.int 0)) aNil))) (f2 mulD (fC (.int 7)) (fCall (one lenD) (aCons (fName 0) aNil)))) (aCons (fC (.int 9871)) (aCons (fC (.int 8)) aNil)))) (fC (.int 3))))
def m_law_large : List PyData → R PyData := run 1 1 b_law_large
/-- law_whole: 0 _law_found -/
def b_law_whole : Rho → R Out := (sRet (fAndV (f1 (isiD isiInt) (fName 0)) (fNotV (f1 (isiD isiBool) (fName 0)))))
def m_law_whole : List PyData → R PyData := run 1 1 b_law_whole
/-- law_sum: 0 _law_one 1 _law_two 2 _law_a 3 _law_b -/
def b_law_sum : Rho → R Out := (sRet (fCall (one tupleD) (aCons (fLc (iArg zipBD (aCons (fName 0) (aCons (fName 1) aNil))) (st2 2 3) [2, 3] fYes (f2 modD (f2 addD (fName 2) (fName 3)) (fC (.int 2)))) aNil)))
def m_law_sum : List PyData → R PyData := run 2 4 b_law_sum
/-- law_word: 0 _law_cell_here 1 _law_size_here 2 _law_k -/
def b_law_word : Rho → R Out := (sRet (fCall (one tupleD) (aCons (fLc (iArg rng1D (aCons (fName 1) aNil)) (stN 2) [2] fYes (fCall m_law_mix (aCons (f2 addD (fName 0) (f2 mulD (f2 mulD (fC (.int 17)) (fName 2)) (fName 2))) (aCons (fC (.int 9973)) (aCons (fC (.int 2)) aNil))))) aNil)))
def m_law_word : List PyData → R PyData := run 2 3 b_law_word
/-- law_size: 0 _law_script 1 _law_at 2 _law_most -/
def b_law_size : Rho → R Out := (sSeq (sSet 2 (fC (.int 6))) (sSeq (sIf (fTru (fCall m_law_large (aCons (fName 0) aNil))) (sSet 2 (fC (.int 8))) sNil) (sSeq (sIf (fB (f2 gtD (fCall (one lenD) (aCons (fName 0) aNil)) (fC (.int 63)))) (sSet 2 (fC (.int 9))) sNil) (sRet (f2 addD (fC (.int 1)) (f2 modD (fCall m_law_cell (aCons (fName 0) (aCons (fName 1) aNil))) (fName 2)))))))
def m_law_size : List PyData → R PyData := run 2 3 b_law_size
/-- law_spoilt: 0 _law_word_here 1 _law_script 2 _law_odd 3 _law_at 4 _law_some -/
def b_law_spoilt : Rho → R Out := (sSeq (sSet 2 (f2 ixD (fLst (aCons (fC (.int 2)) (aCons (f1 negD (fC (.int 1))) (aCons (fC (.bool true)) (aCons (fC (.bool false)) (aCons (fC (.str "1")) (aCons (fC .none) aNil))))))) (f2 modD (fCall m_law_cell (aCons (fName 1) (aCons (fC (.int 3)) aNil))) (fC (.int 6))))) (sSeq (sSet 3 (f2 modD (fCall m_law_cell (aCons (fName 1) (aCons (fC (.int 4)) aNil))) (fCall (one lenD) (aCons (fName 0) aNil)))) (sSeq (sSet 4 (fLst (aCons (fCall (one listD) (aCons (fName 0) aNil)) (aCons (f2 addD (fName 0) (fTup (aCons (fC (.int 0)) aNil))) (aCons (fSl (fName 0) (oSome (fC (.int 1))) oNo) (aCons (fC .none) (aCons (fC (.str "01")) (aCons (f2 addD (f2 addD (fSl (fName 0) oNo (oSome (fName 3))) (fTup (aCons (fName 2) aNil))) (fSl (fName 0) (oSome (f2 addD (fName 3) (fC (.int 1)))) oNo)) aNil)))))))) (sRet (f2 ixD (fName 4) (f2 modD (fCall m_law_cell (aCons (fName 1) (aCons (fC (.int 2)) aNil))) (fC (.int 6))))))))
def m_law_spoilt : List PyData → R PyData := run 2 5 b_law_spoilt
/-- law_k01: 0 _law_script 1 _law_size_here 2 _law_one 3 _law_two 4 _law_found 5 _law_added 6 _law_numbers 7 _law_ones 8 _law_both 9 _law_told 10 _law_a 11 _law_b -/
def b_law_k01 : Rho → R Out := (sSeq (sSet 1 (fCall m_law_size (aCons (fName 0) (aCons (fC (.int 0)) aNil)))) (sSeq (sSet 2 (fCall m_law_word (aCons (fCall m_law_cell (aCons (fName 0) (aCons (fC (.int 1)) aNil))) (aCons (fName 1) aNil)))) (sSeq (sSet 3 (fCall m_law_word (aCons (fCall m_law_cell (aCons (fName 0) (aCons (fC (.int 2)) aNil))) (aCons (fName 1) aNil)))) (sSeq (sSet 4 (fLst (aCons (fCall m_is_word (aCons (fName 2) (aCons (fName 1) aNil))) (aCons (fCall m_is_word (aCons (fCall m_law_spoilt (aCons (fName 2) (aCons (fName 0) aNil))) (aCons (fName 1) aNil))) (aCons (fCall m_is_word (aCons (fName 2) (aCons (f2 addD (fName 1) (fC (.int 1))) aNil))) aNil))))) (sSeq (sIf (fOr (fTru (fLc (iSeq (fName 4)) (stN 2) [2] (fNot (fTru (f1 (isiD isiBool) (fName 2)))) (fName 2))) (fB (f2 neD (fName 4) (fLst (aCons (fC (.bool true)) (aCons (fC (.bool false)) (aCons (fC (.bool false)) aNil))))))) (sRet (fC (.bool false))) sNil) (sSeq (sSet 5 (fCall m_plus (aCons (fName 2) (aCons (fName 3) aNil)))) (sSeq (sIf (fOr (fNot (fTru (f1 (isiD isiTuple) (fName 5)))) (fOr (fB (f2 neD (fName 5) (fCall m_law_sum (aCons (fName 2) (aCons (fName 3) aNil))))) (fB (f2 neD (fCall m_none (aCons (fName 1) aNil)) (f2 mulD (fTup (aCons (fC (.int 0)) aNil)) (fName 1)))))) (sRet (fC (.bool false))) sNil) (sSeq (sSet 6 (fLst (aCons (fCall m_weight (aCons (fName 2) aNil)) (aCons (fCall m_apart (aCons (fName 2) (aCons (fName 3) aNil))) aNil)))) (sSeq (sIf (fTru (fLc (iSeq (fName 6)) (stN 2) [2] (fNot (fTru (fCall m_law_whole (aCons (fName 2) aNil)))) (fName 2))) (sRet (fC (.bool false))) sNil) (sSeq (sSet 7 (fCall (one lenD) (aCons (fLc (iArg zipBD (aCons (fName 2) (aCons (fName 3) aNil))) (st2 10 11) [10, 11] (fB (f2 neD (fName 10) (fName 11))) (fC (.int 1))) aNil))) (sSeq (sSet 8 (fCall (one lenD) (aCons (fLc (iArg zipBD (aCons (fName 2) (aCons (fName 3) aNil))) (st2 10 11) [10, 11] (fAnd (fB (f2 eqD (fName 10) (fC (.int 1)))) (fB (f2 eqD (fName 11) (fC (.int 1))))) (fC (.int 1))) aNil))) (sSeq (sSet 9 (fCall m_meet_evenly (aCons (fName 2) (aCons (fName 3) aNil)))) (sRet (fAndV (f2 eqD (fName 6) (fLst (aCons (fCount (fName 2) (fC (.int 1))) (aCons (fName 7) aNil)))) (fAndV (f1 (isiD isiBool) (fName 9)) (f2 eqD (fName 9) (f2 eqD (f2 modD (fName 8) (fC (.int 2))) (fC (.int 0)))))))))))))))))))
def m_law_k01 : List PyData → R PyData := run 1 12 b_law_k01
/-- head_of: 0 word -/
def b_head_of : Rho → R Out := (sRet (fIndex (fName 0) (fC (.int 1))))
def m_head_of : List PyData → R PyData := run 1 1 b_head_of
/-- less_rows: 0 word 1 rows 2 row -/
def b_less_rows : Rho → R Out := (sSeq (sFor (iSeq (fName 1)) (stN 2) (sIf (fB (f2 eqD (f2 ixD (fName 0) (fCall m_head_of (aCons (fName 2) aNil))) (fC (.int 1)))) (sSet 0 (fCall m_plus (aCons (fName 0) (aCons (fName 2) aNil)))) sNil)) (sRet (fName 0)))
def m_less_rows : List PyData → R PyData := run 2 3 b_less_rows
/-- with_word: 0 rows 1 word 2 at 3 found 4 row -/
def b_with_word : Rho → R Out := (sSeq (sSet 1 (fCall m_less_rows (aCons (fName 1) (aCons (fName 0) aNil)))) (sSeq (sIf (fB (f2 ninD (fC (.int 1)) (fName 1))) (sRet (fName 0)) sNil) (sSeq (sSet 2 (fCall m_head_of (aCons (fName 1) aNil))) (sSeq (sSetO 3 (fLst aNil)) (sSeq (sFor (iSeq (fName 0)) (stN 4) (sSeq (sIf (fB (f2 eqD (f2 ixD (fName 4) (fName 2)) (fC (.int 1)))) (sSet 4 (fCall m_plus (aCons (fName 4) (aCons (fName 1) aNil)))) sNil) (sApp 3 (fName 4)))) (sSeq (sApp 3 (fName 1)) (sFz 3 (sRet (fCall (one (sortedD true)) (aCons (fName 3) aNil))))))))))
def m_with_word : List PyData → R PyData := run 2 5 b_with_word
/-- desk_of: 0 size 1 words 2 rows 3 word -/
def b_desk_of : Rho → R Out := (sSeq (sSet 2 (fLst aNil)) (sSeq (sFor (iSeq (fName 1)) (stN 3) (sSet 2 (fCall m_with_word (aCons (fName 2) (aCons (fName 3) aNil))))) (sRet (fTup (aCons (fName 0) (aCons (fCall (one tupleD) (aCons (fName 2) aNil)) aNil))))))
def m_desk_of : List PyData → R PyData := run 2 4 b_desk_of
/-- made: 0 size 1 words 2 at 3 word -/
def b_made : Rho → R Out := (sSeq (sIf (fOr (fNot (fTru (fCall m_is_within (aCons (fName 0) (aCons (fC (.int 1)) (aCons (fC (.int 10)) aNil)))))) (fOr (fNot (fTru (f1 (isiD isiList) (fName 1)))) (fB (f2 gtD (fCall (one lenD) (aCons (fName 1) aNil)) (fC (.int 20)))))) sNo sNil) (sSeq (sFor (iArg enumsD (aCons (fName 1) aNil)) (st2 2 3) (sIf (fNot (fTru (fCall m_is_word (aCons (fName 3) (aCons (fName 0) aNil))))) sNo sNil)) (sRet (fCall m_desk_of (aCons (fName 0) (aCons (fName 1) aNil))))))
def m_made : List PyData → R PyData := run 2 4 b_made
/-- law_words: 0 _law_script 1 _law_at 2 _law_size_here 3 _law_many 4 _law_k -/
def b_law_words : Rho → R Out := (sSeq (sSet 3 (f2 modD (f2 fdivD (fCall m_law_cell (aCons (fName 0) (aCons (fName 1) aNil))) (fC (.int 7))) (f2 addD (fName 2) (fC (.int 1))))) (sRet (fLc (iArg rng1D (aCons (fName 3) aNil)) (stN 4) [4] fYes (fCall m_law_word (aCons (f2 addD (fCall m_law_cell (aCons (fName 0) (aCons (f2 addD (f2 addD (fName 1) (fC (.int 1))) (fName 4)) aNil))) (f2 mulD (f2 mulD (fC (.int 31)) (fName 4)) (fName 4))) (aCons (fName 2) aNil))))))
def m_law_words : List PyData → R PyData := run 3 5 b_law_words
/-- law_spread: 0 _law_size_here 1 _law_words_here 2 _law_found 3 _law_word_here 4 _law_one -/
def b_law_spread : Rho → R Out := (sSeq (sSet 2 (fLst (aCons (f2 mulD (fTup (aCons (fC (.int 0)) aNil)) (fName 0)) aNil))) (sSeq (sFor (iSeq (fName 1)) (stN 3) (sIf (fB (f2 ninD (fName 3) (fName 2))) (sSet 2 (f2 addD (fName 2) (fLc (iSeq (fName 2)) (stN 4) [4] fYes (fCall m_law_sum (aCons (fName 4) (aCons (fName 3) aNil)))))) sNil)) (sRet (fCall (one (sortedD false)) (aCons (fName 2) aNil)))))
def m_law_spread : List PyData → R PyData := run 2 5 b_law_spread
/-- law_rows: 0 _law_spread_here 1 _law_size_here 2 _law_rows_here 3 _law_place 4 _law_some 5 _law_heads_of 6 _law_found 7 _law_k 8 _law_word_here 9 _law_row 10 _law_head 11 _law_j -/
def b_law_rows : Rho → R Out := (sSeq (sSet 1 (fCall (one lenD) (aCons (f2 ixD (fName 0) (fC (.int 0))) aNil))) (sSeq (sSetO 2 (fLst aNil)) (sSeq (sFor (iArg rng1D (aCons (fName 1) aNil)) (stN 3) (sSeq (sSet 4 (fLc (iSeq (fName 0)) (stN 8) [8] (fAnd (fB (f2 inD (fC (.int 1)) (fName 8))) (fB (f2 eqD (fIndex (fName 8) (fC (.int 1))) (fName 3)))) (fName 8))) (sIf (fTru (fName 4)) (sApp 2 (f2 ixD (fName 4) (fC (.int 0)))) sNil))) (sSeq (sFz 2 (sSet 5 (fLc (iSeq (fName 2)) (stN 9) [9] fYes (fIndex (fName 9) (fC (.int 1)))))) (sSeq (sSetO 6 (fLst aNil)) (sSeq (sFor (iArg rng1D (aCons (fCall (one lenD) (aCons (fName 2) aNil)) aNil)) (stN 7) (sFor (iSeq (fName 0)) (stN 8) (sIf (fB (f2 eqD (fLc (iSeq (fName 5)) (stN 10) [10] fYes (f2 ixD (fName 8) (fName 10))) (fLc (iArg rng1D (aCons (fCall (one lenD) (aCons (fName 2) aNil)) aNil)) (stN 11) [11] fYes (fCall (one intD) (aCons (f2 eqD (fName 11) (fName 7)) aNil))))) (sApp 6 (fName 8)) sNil))) (sFz 6 (sRet (fTup (aCons (fName 1) (aCons (fCall (one tupleD) (aCons (fName 6) aNil)) aNil)))))))))))
def m_law_rows : List PyData → R PyData := run 1 12 b_law_rows
/-- law_anew: 0 _law_words_here 1 _law_script 2 _law_size_here 3 _law_found 4 _law_k 5 _law_j -/
def b_law_anew : Rho → R Out := (sSeq (sSetO 3 (fCall (one revD) (aCons (fName 0) aNil))) (sSeq (sFor (iArg rng1D (aCons (fOwnLen 3) aNil)) (stN 4) (sFor (iArg rng1D (aCons (fOwnLen 3) aNil)) (stN 5) (sIf (fAnd (fB (f2 neD (fName 5) (fName 4))) (fB (f2 eqD (fCall m_law_mix (aCons (f2 addD (fCall m_law_cell (aCons (fName 1) (aCons (f2 addD (fC (.int 2)) (fName 4)) aNil))) (f2 mulD (f2 mulD (fC (.int 7)) (fName 5)) (fName 5))) (aCons (fC (.int 9949)) (aCons (fC (.int 3)) aNil)))) (fC (.int 0))))) (sPut 3 (fName 4) (fCall m_law_sum (aCons (fOwnIx 3 (fName 4)) (aCons (fOwnIx 3 (fName 5)) aNil)))) sNil))) (sFz 3 (sRet (f2 addD (fName 3) (fLst (aCons (f2 mulD (fTup (aCons (fC (.int 0)) aNil)) (fName 2)) aNil)))))))
def m_law_anew : List PyData → R PyData := run 3 6 b_law_anew
/-- law_k02: 0 _law_script 1 _law_size_here 2 _law_words_here 3 _law_spread_here 4 _law_handed 5 _law_found 6 _law_third -/
def b_law_k02 : Rho → R Out := (sSeq (sSet 1 (fCall m_law_size (aCons (fName 0) (aCons (fC (.int 0)) aNil)))) (sSeq (sSet 2 (fCall m_law_words (aCons (fName 0) (aCons (fC (.int 0)) (aCons (fName 1) aNil))))) (sSeq (sSet 3 (fCall m_law_spread (aCons (fName 1) (aCons (fName 2) aNil)))) (sSeq (sSet 4 (fCall (one listD) (aCons (fName 2) aNil))) (sSeq (sSet 5 (fCall m_made (aCons (fName 1) (aCons (fName 4) aNil)))) (sSeq (sIf (fOr (fB (f2 neD (fName 5) (fCall m_law_rows (aCons (fName 3) aNil)))) (fOr (fB (f2 neD (fName 4) (fName 2))) (fNot (fTru (f1 (isiD isiTuple) (f2 ixD (fName 5) (fC (.int 1)))))))) (sRet (fC (.bool false))) sNil) (sSeq (sIf (fB (f2 neD (fCall m_made (aCons (fName 1) (aCons (fCall m_law_anew (aCons (fName 2) (aCons (fName 0) (aCons (fName 1) aNil)))) aNil))) (fName 5))) (sRet (fC (.bool false))) sNil) (sSeq (sSet 6 (fCall m_law_words (aCons (fName 0) (aCons (fC (.int 9)) (aCons (fName 1) aNil))))) (sRet (f2 eqD (f2 eqD (fCall m_made (aCons (fName 1) (aCons (fName 6) aNil))) (fName 5)) (f2 eqD (fCall m_law_spread (aCons (fName 1) (aCons (fName 6) aNil))) (fName 3))))))))))))
def m_law_k02 : List PyData → R PyData := run 1 7 b_law_k02
/-- law_odd: 0 _law_cell_here 1 _law_size_here 2 _law_some -/
def b_law_odd : Rho → R Out := (sSeq (sSet 2 (fLst (aCons (f2 mulD (fLst (aCons (fC (.int 0)) aNil)) (fName 1)) (aCons (f2 mulD (fTup (aCons (fC (.int 0)) aNil)) (f2 addD (fName 1) (fC (.int 1)))) (aCons (f2 mulD (fTup (aCons (fC (.int 0)) aNil)) (f2 subD (fName 1) (fC (.int 1)))) (aCons (f2 mulD (fTup (aCons (fC (.int 2)) aNil)) (fName 1)) (aCons (f2 mulD (fTup (aCons (fC (.bool true)) aNil)) (fName 1)) (aCons (fC .none) (aCons (fC (.str "0")) (aCons (fC (.int 0)) aNil)))))))))) (sRet (f2 ixD (fName 2) (f2 modD (fName 0) (fC (.int 8))))))
def m_law_odd : List PyData → R PyData := run 2 3 b_law_odd
/-- law_same: 0 _law_found 1 _law_at -/
def b_law_same : Rho → R Out := (sSeq (sIf (fB (f2 isD (fName 1) (fC .none))) (sRet (f2 isD (fName 0) (fC .none))) sNil) (sRet (fAndV (f1 (isiD isiInt) (fName 0)) (fAndV (fNotV (f1 (isiD isiBool) (fName 0))) (f2 eqD (fName 0) (fName 1))))))
def m_law_same : List PyData → R PyData := run 2 2 b_law_same
/-- is_desk: 0 thing 1 word -/
def b_is_desk : Rho → R Out := (sSeq (sIf (fOr (fNot (fTru (f1 (isiD isiTuple) (fName 0)))) (fOr (fB (f2 neD (fCall (one lenD) (aCons (fName 0) aNil)) (fC (.int 2)))) (fNot (fTru (fCall m_is_within (aCons (f2 ixD (fName 0) (fC (.int 0))) (aCons (fC (.int 1)) (aCons (fC (.int 10)) aNil)))))))) (sRet (fC (.bool false))) sNil) (sSeq (sIf (fOr (fNot (fTru (f1 (isiD isiTuple) (f2 ixD (fName 0) (fC (.int 1)))))) (fB (f2 gtD (fCall (one lenD) (aCons (f2 ixD (fName 0) (fC (.int 1))) aNil)) (f2 ixD (fName 0) (fC (.int 0)))))) (sRet (fC (.bool false))) sNil) (sSeq (sFor (iSeq (f2 ixD (fName 0) (fC (.int 1)))) (stN 1) (sIf (fNot (fTru (fCall m_is_word (aCons (fName 1) (aCons (f2 ixD (fName 0) (fC (.int 0))) aNil))))) (sRet (fC (.bool false))) sNil)) (sRet (f2 eqD (fCall m_desk_of (aCons (f2 ixD (fName 0) (fC (.int 0))) (aCons (f2 ixD (fName 0) (fC (.int 1))) aNil))) (fName 0))))))
def m_is_desk : List PyData → R PyData := run 1 2 b_is_desk
/-- checked: 0 desk -/
def b_checked : Rho → R Out := (sSeq (sIf (fNot (fTru (fCall m_is_desk (aCons (fName 0) aNil)))) sNo sNil) (sRet (fName 0)))
def m_checked : List PyData → R PyData := run 1 1 b_checked
/-- law_desk: 0 _law_script 1 _law_at 2 _law_size_here -/
def b_law_desk : Rho → R Out := (sSeq (sSet 2 (fCall m_law_size (aCons (fName 0) (aCons (fName 1) aNil)))) (sRet (fCall m_law_rows (aCons (fCall m_law_spread (aCons (fName 2) (aCons (fCall m_law_words (aCons (fName 0) (aCons (fName 1) (aCons (fName 2) aNil)))) aNil))) aNil))))
def m_law_desk : List PyData → R PyData := run 2 3 b_law_desk
/-- law_frame: 0 _law_desk_here 1 _law_kind 2 _law_size_here 3 _law_rows_here 4 _law_some -/
def b_law_frame : Rho → R Out := (sSeq (sSet2 2 3 (fName 0)) (sSeq (sSet 4 (fLst (aCons (fLst (aCons (fName 2) (aCons (fName 3) aNil))) (aCons (fTup (aCons (fName 2) aNil)) (aCons (fTup (aCons (fName 2) (aCons (fCall (one listD) (aCons (fName 3) aNil)) aNil))) (aCons (fTup (aCons (f2 addD (fName 2) (fC (.int 1))) (aCons (fName 3) aNil))) (aCons (fTup (aCons (fC (.int 0)) (aCons (fTup aNil) aNil))) (aCons (fTup (aCons (fC (.int 11)) (aCons (fTup aNil) aNil))) (aCons (fTup (aCons (fC (.bool true)) (aCons (fName 3) aNil))) (aCons (fC .none) aNil)))))))))) (sRet (f2 ixD (f2 addD (fName 4) (fLst (aCons (fTup (aCons (fName 2) (aCons (f2 addD (fName 3) (fTup (aCons (f2 mulD (fTup (aCons (fC (.int 0)) aNil)) (fName 2)) aNil))) aNil))) (aCons (fTup (aCons (fName 2) (aCons (f2 addD (fTup (aCons (f2 mulD (fTup (aCons (fC (.int 0)) aNil)) (fName 2)) aNil)) (fName 3)) aNil))) (aCons (fTup (aCons (fName 2) (aCons (f2 addD (fName 3) (fSl (fName 3) oNo (oSome (fC (.int 1))))) aNil))) aNil))))) (fName 1)))))
def m_law_frame : List PyData → R PyData := run 2 5 b_law_frame
/-- law_spoilt_k04: 0 _law_desk_here 1 _law_script 2 _law_size_here 3 _law_rows_here 4 _law_at 5 _law_way 6 _law_row 7 _law_place -/
def b_law_spoilt_k04 : Rho → R Out := (sSeq (sSet2 2 3 (fName 0)) (sSeq (sSet 4 (f2 modD (fCall m_law_cell (aCons (fName 1) (aCons (fC (.int 2)) aNil))) (fCall (one lenD) (aCons (fName 3) aNil)))) (sSeq (sSet 5 (f2 modD (fCall m_law_cell (aCons (fName 1) (aCons (fC (.int 3)) aNil))) (fC (.int 4)))) (sSeq (sSet 6 (f2 ixD (fName 3) (fName 4))) (sSeq (sSet 7 (f2 modD (fCall m_law_cell (aCons (fName 1) (aCons (fC (.int 4)) aNil))) (fName 2))) (sSeq (sIf (fB (f2 eqD (fName 5) (fC (.int 0)))) (sSet 6 (f2 addD (f2 addD (fSl (fName 6) oNo (oSome (fName 7))) (fTup (aCons (f2 subD (fC (.int 1)) (f2 ixD (fName 6) (fName 7))) aNil))) (fSl (fName 6) (oSome (f2 addD (fName 7) (fC (.int 1)))) oNo))) (sIf (fB (f2 eqD (fName 5) (fC (.int 1)))) (sSet 6 (f2 addD (f2 addD (fSl (fName 6) oNo (oSome (fName 7))) (fTup (aCons (f2 ixD (fLst (aCons (fC (.int 2)) (aCons (fC (.bool true)) (aCons (fC (.bool false)) (aCons (fC (.str "1")) (aCons (fC .none) (aCons (f1 negD (fC (.int 1))) aNil))))))) (f2 modD (f2 fdivD (fCall m_law_cell (aCons (fName 1) (aCons (fC (.int 2)) aNil))) (fC (.int 7))) (fC (.int 6)))) aNil))) (fSl (fName 6) (oSome (f2 addD (fName 7) (fC (.int 1)))) oNo))) (sIf (fB (f2 eqD (fName 5) (fC (.int 2)))) (sSet 6 (fCall m_law_sum (aCons (fName 6) (aCons (f2 ixD (fName 3) (f2 subD (fName 4) (fC (.int 1)))) aNil)))) (sSet 6 (f2 ixD (fName 3) (f2 subD (fName 4) (fC (.int 1)))))))) (sRet (fTup (aCons (fName 2) (aCons (f2 addD (f2 addD (fSl (fName 3) oNo (oSome (fName 4))) (fTup (aCons (fName 6) aNil))) (fSl (fName 3) (oSome (f2 addD (fName 4) (fC (.int 1)))) oNo)) aNil))))))))))
def m_law_spoilt_k04 : List PyData → R PyData := run 2 8 b_law_spoilt_k04
/-- law_is_desk: 0 _law_desk_here 1 _law_size_here 2 _law_rows_here 3 _law_row 4 _law_bit -/
def b_law_is_desk : Rho → R Out := (sSeq (sSet2 1 2 (fName 0)) (sSeq (sFor (iSeq (fName 2)) (stN 3) (sIf (fTru (fLc (iSeq (fName 3)) (stN 4) [4] (fOr (fNot (fTru (f1 (isiD isiInt) (fName 4)))) (fOr (fTru (f1 (isiD isiBool) (fName 4))) (fB (f2 ninD (fName 4) (fLst (aCons (fC (.int 0)) (aCons (fC (.int 1)) aNil))))))) (fName 4))) (sRet (fC (.bool false))) sNil)) (sRet (f2 eqD (fCall m_law_rows (aCons (fCall m_law_spread (aCons (fName 1) (aCons (fName 2) aNil))) aNil)) (fName 0)))))
def m_law_is_desk : List PyData → R PyData := run 1 5 b_law_is_desk
/-- heads: 0 desk 1 row -/
def b_heads : Rho → R Out := (sRet (fLc (iSeq (f2 ixD (fName 0) (fC (.int 1)))) (stN 1) [1] fYes (fCall m_head_of (aCons (fName 1) aNil))))
def m_heads : List PyData → R PyData := run 1 2 b_heads
/-- has: 0 desk 1 word -/
def b_has : Rho → R Out := (sRet (fAndV (fCall m_is_word (aCons (fName 1) (aCons (f2 ixD (fName 0) (fC (.int 0))) aNil))) (f2 eqD (fCall m_less_rows (aCons (fName 1) (aCons (f2 ixD (fName 0) (fC (.int 1))) aNil))) (fCall m_none (aCons (f2 ixD (fName 0) (fC (.int 0))) aNil)))))
def m_has : List PyData → R PyData := run 2 2 b_has
/-- count: 0 desk 1 found 2 row -/
def b_count : Rho → R Out := (sSeq (sSet 1 (fC (.int 1))) (sSeq (sFor (iSeq (f2 ixD (fName 0) (fC (.int 1)))) (stN 2) (sSet 1 (f2 mulD (fName 1) (fC (.int 2))))) (sRet (fName 1))))
def m_count : List PyData → R PyData := run 1 3 b_count
/-- words_of: 0 desk 1 found 2 row 3 word -/
def b_words_of : Rho → R Out := (sSeq (sSet 1 (fLst (aCons (fCall m_none (aCons (f2 ixD (fName 0) (fC (.int 0))) aNil)) aNil))) (sSeq (sFor (iSeq (f2 ixD (fName 0) (fC (.int 1)))) (stN 2) (sSet 1 (f2 addD (fName 1) (fLc (iSeq (fName 1)) (stN 3) [3] fYes (fCall m_plus (aCons (fName 3) (aCons (fName 2) aNil))))))) (sRet (fCall (one (sortedD false)) (aCons (fName 1) aNil)))))
def m_words_of : List PyData → R PyData := run 1 4 b_words_of
/-- law_thing: 0 _law_script 1 _law_size_here 2 _law_word_here 3 _law_some -/
def b_law_thing : Rho → R Out := (sSeq (sSet 2 (fCall m_law_word (aCons (fCall m_law_cell (aCons (fName 0) (aCons (fC (.int 0)) aNil))) (aCons (fName 1) aNil)))) (sSeq (sSet 3 (fLst (aCons (fName 2) (aCons (fName 2) (aCons (fCall (one listD) (aCons (fName 2) aNil)) (aCons (f2 addD (fName 2) (fTup (aCons (fC (.int 0)) aNil))) (aCons (fSl (fName 2) (oSome (fC (.int 1))) oNo) (aCons (fC .none) (aCons (fC (.int 0)) (aCons (f2 mulD (fTup (aCons (fC (.bool true)) aNil)) (fName 1)) (aCons (f2 mulD (fTup (aCons (fC (.int 2)) aNil)) (fName 1)) (aCons (f2 mulD (fC (.str "0")) (fName 1)) aNil)))))))))))) (sRet (f2 ixD (fName 3) (f2 modD (fCall m_law_cell (aCons (fName 0) (aCons (fC (.int 1)) aNil))) (fC (.int 10)))))))
def m_law_thing : List PyData → R PyData := run 2 4 b_law_thing
/-- law_k05: 0 _law_script 1 _law_desk_here 2 _law_spread_here 3 _law_found 4 _law_many 5 _law_word_here 6 _law_thing_here 7 _law_due 8 _law_told 9 _law_row 10 _law_bit -/
def b_law_k05 : Rho → R Out := (sSeq (sSet 1 (fCall m_law_desk (aCons (fName 0) (aCons (fC (.int 2)) aNil)))) (sSeq (sSet 2 (fCall m_law_spread (aCons (f2 ixD (fName 1) (fC (.int 0))) (aCons (f2 ixD (fName 1) (fC (.int 1))) aNil)))) (sSeq (sSet 3 (fCall m_words_of (aCons (fName 1) aNil))) (sSeq (sSet 4 (fCall m_count (aCons (fName 1) aNil))) (sSeq (sIf (fOr (fNot (fTru (f1 (isiD isiList) (fName 3)))) (fOr (fB (f2 neD (fName 3) (fName 2))) (fOr (fNot (fTru (fCall m_law_whole (aCons (fName 4) aNil)))) (fB (f2 neD (fName 4) (fCall (one lenD) (aCons (fName 2) aNil))))))) (sRet (fC (.bool false))) sNil) (sSeq (sIf (fOr (fB (f2 neD (fCall m_heads (aCons (fName 1) aNil)) (fLc (iSeq (f2 ixD (fName 1) (fC (.int 1)))) (stN 9) [9] fYes (fIndex (fName 9) (fC (.int 1)))))) (fNot (fTru (f1 (isiD isiList) (fCall m_heads (aCons (fName 1) aNil)))))) (sRet (fC (.bool false))) sNil) (sSeq (sFor (iSeq (fSl (fName 2) oNo (oSome (fC (.int 20))))) (stN 5) (sIf (fB (f2 isnD (fCall m_has (aCons (fName 1) (aCons (fName 5) aNil))) (fC (.bool true)))) (sRet (fC (.bool false))) sNil)) (sSeq (sSet 6 (fCall m_law_thing (aCons (fName 0) (aCons (f2 ixD (fName 1) (fC (.int 0))) aNil)))) (sSeq (sSet 7 (fAndV (f1 (isiD isiTuple) (fName 6)) (fAndV (f2 inD (fName 6) (fName 2)) (f2 ninD (fC (.bool true)) (fLc (iSeq (fName 6)) (stN 10) [10] fYes (f1 (isiD isiBool) (fName 10))))))) (sSeq (sSet 8 (fCall m_has (aCons (fName 1) (aCons (fName 6) aNil)))) (sRet (fAndV (f1 (isiD isiBool) (fName 8)) (f2 eqD (fName 8) (fName 7))))))))))))))
def m_law_k05 : List PyData → R PyData := run 1 11 b_law_k05
/-- put: 0 desk 1 message 2 found 3 bit 4 row -/
def b_put : Rho → R Out := (sSeq (sSet 2 (fCall m_none (aCons (f2 ixD (fName 0) (fC (.int 0))) aNil))) (sSeq (sFor (iArg zipBD (aCons (fName 1) (aCons (f2 ixD (fName 0) (fC (.int 1))) aNil))) (st2 3 4) (sIf (fB (f2 eqD (fName 3) (fC (.int 1)))) (sSet 2 (fCall m_plus (aCons (fName 2) (aCons (fName 4) aNil)))) sNil)) (sRet (fName 2))))
def m_put : List PyData → R PyData := run 2 5 b_put
/-- told_back: 0 desk 1 word 2 place -/
def b_told_back : Rho → R Out := (sSeq (sIf (fNot (fTru (fCall m_has (aCons (fName 0) (aCons (fName 1) aNil))))) sNo sNil) (sRet (fCall (one tupleD) (aCons (fLc (iSeq (fCall m_heads (aCons (fName 0) aNil))) (stN 2) [2] fYes (f2 ixD (fName 1) (fName 2))) aNil))))
def m_told_back : List PyData → R PyData := run 2 3 b_told_back
/-- check_for: 0 desk 1 place 2 found 3 head 4 row 5 at -/
def b_check_for : Rho → R Out := (sSeq (sSetO 2 (fLc (iArg rng1D (aCons (f2 ixD (fName 0) (fC (.int 0))) aNil)) (stN 5) [5] fYes (fCall (one intD) (aCons (f2 eqD (fName 5) (fName 1)) aNil)))) (sSeq (sFor (iArg zipBD (aCons (fCall m_heads (aCons (fName 0) aNil)) (aCons (f2 ixD (fName 0) (fC (.int 1))) aNil))) (st2 3 4) (sPut 2 (fName 3) (f2 ixD (fName 4) (fName 1)))) (sFz 2 (sRet (fCall (one tupleD) (aCons (fName 2) aNil))))))
def m_check_for : List PyData → R PyData := run 2 6 b_check_for
/-- checks: 0 desk 1 taken 2 place -/
def b_checks : Rho → R Out := (sSeq (sSet 1 (fCall m_heads (aCons (fName 0) aNil))) (sRet (fCall m_desk_of (aCons (f2 ixD (fName 0) (fC (.int 0))) (aCons (fLc (iArg rng1D (aCons (f2 ixD (fName 0) (fC (.int 0))) aNil)) (stN 2) [2] (fB (f2 ninD (fName 2) (fName 1))) (fCall m_check_for (aCons (fName 0) (aCons (fName 2) aNil)))) aNil)))))
def m_checks : List PyData → R PyData := run 1 3 b_checks
/-- law_all: 0 _law_size_here 1 _law_found 2 _law_place 3 _law_word_here -/
def b_law_all : Rho → R Out := (sSeq (sSet 1 (fLst (aCons (fTup aNil) aNil))) (sSeq (sFor (iArg rng1D (aCons (fName 0) aNil)) (stN 2) (sSet 1 (f2 addD (fLc (iSeq (fName 1)) (stN 3) [3] fYes (f2 addD (fName 3) (fTup (aCons (fC (.int 0)) aNil)))) (fLc (iSeq (fName 1)) (stN 3) [3] fYes (f2 addD (fName 3) (fTup (aCons (fC (.int 1)) aNil))))))) (sRet (fCall (one (sortedD false)) (aCons (fName 1) aNil)))))
def m_law_all : List PyData → R PyData := run 1 4 b_law_all
/-- law_even: 0 _law_one 1 _law_two 2 _law_a 3 _law_b -/
def b_law_even : Rho → R Out := (sRet (f2 eqD (f2 modD (fCall (one sumD) (aCons (fLc (iArg zipBD (aCons (fName 0) (aCons (fName 1) aNil))) (st2 2 3) [2, 3] fYes (f2 mulD (fName 2) (fName 3))) aNil)) (fC (.int 2))) (fC (.int 0))))
def m_law_even : List PyData → R PyData := run 2 4 b_law_even
/-- law_checks: 0 _law_desk_here 1 _law_some 2 _law_word_here 3 _law_row -/
def b_law_checks : Rho → R Out := (sSeq (sSet 1 (fLc (iSeq (fCall m_law_all (aCons (f2 ixD (fName 0) (fC (.int 0))) aNil))) (stN 2) [2] (fB (f2 eqD (fLc (iSeq (f2 ixD (fName 0) (fC (.int 1)))) (stN 3) [3] (fNot (fTru (fCall m_law_even (aCons (fName 3) (aCons (fName 2) aNil))))) (fName 3)) (fLst aNil))) (fName 2))) (sRet (fCall m_law_rows (aCons (fName 1) aNil))))
def m_law_checks : List PyData → R PyData := run 1 4 b_law_checks
/-- law_k07: 0 _law_script 1 _law_desk_here 2 _law_found 3 _law_word_here 4 _law_due 5 _law_one -/
def b_law_k07 : Rho → R Out := (sSeq (sSet 1 (fCall m_law_desk (aCons (fName 0) (aCons (fC (.int 1)) aNil)))) (sSeq (sSet 2 (fCall m_checks (aCons (fName 1) aNil))) (sSeq (sIf (fOr (fB (f2 neD (fName 2) (fCall m_law_checks (aCons (fName 1) aNil)))) (fOr (fB (f2 neD (fCall m_checks (aCons (fName 2) aNil)) (fName 1))) (fB (f2 neD (f2 addD (fCall (one lenD) (aCons (f2 ixD (fName 2) (fC (.int 1))) aNil)) (fCall (one lenD) (aCons (f2 ixD (fName 1) (fC (.int 1))) aNil))) (f2 ixD (fName 1) (fC (.int 0))))))) (sRet (fC (.bool false))) sNil) (sSeq (sSet 3 (fCall m_law_word (aCons (fCall m_law_cell (aCons (fName 0) (aCons (fC (.int 0)) aNil))) (aCons (f2 ixD (fName 1) (fC (.int 0))) aNil)))) (sSeq (sSet 4 (f2 eqD (fLc (iSeq (fCall m_law_spread (aCons (f2 ixD (fName 1) (fC (.int 0))) (aCons (f2 ixD (fName 1) (fC (.int 1))) aNil)))) (stN 5) [5] (fNot (fTru (fCall m_law_even (aCons (fName 5) (aCons (fName 3) aNil))))) (fName 5)) (fLst aNil))) (sRet (f2 eqD (fCall m_has (aCons (fName 2) (aCons (fName 3) aNil))) (fName 4))))))))
def m_law_k07 : List PyData → R PyData := run 1 6 b_law_k07
/-- sign_by: 0 rows 1 word 2 row -/
def b_sign_by : Rho → R Out := (sRet (fCall (one tupleD) (aCons (fLc (iSeq (fName 0)) (stN 2) [2] fYes (fCall (one intD) (aCons (fNotV (fCall m_meet_evenly (aCons (fName 2) (aCons (fName 1) aNil)))) aNil))) aNil)))
def m_sign_by : List PyData → R PyData := run 2 3 b_sign_by
/-- sign: 0 desk 1 word -/
def b_sign : Rho → R Out := (sRet (fCall m_sign_by (aCons (f2 ixD (fCall m_checks (aCons (fName 0) aNil)) (fC (.int 1))) (aCons (fName 1) aNil))))
def m_sign : List PyData → R PyData := run 2 2 b_sign
/-- law_k08: 0 _law_script 1 _law_desk_here 2 _law_one 3 _law_two 4 _law_rows_here 5 _law_found 6 _law_other 7 _law_row -/
def b_law_k08 : Rho → R Out := (sSeq (sSet 1 (fCall m_law_desk (aCons (fName 0) (aCons (fC (.int 2)) aNil)))) (sSeq (sSet 2 (fCall m_law_word (aCons (fCall m_law_cell (aCons (fName 0) (aCons (fC (.int 0)) aNil))) (aCons (f2 ixD (fName 1) (fC (.int 0))) aNil)))) (sSeq (sSet 3 (fCall m_law_word (aCons (fCall m_law_cell (aCons (fName 0) (aCons (fC (.int 1)) aNil))) (aCons (f2 ixD (fName 1) (fC (.int 0))) aNil)))) (sSeq (sSet 4 (f2 ixD (fCall m_law_checks (aCons (fName 1) aNil)) (fC (.int 1)))) (sSeq (sSet 5 (fCall m_sign (aCons (fName 1) (aCons (fName 2) aNil)))) (sSeq (sSet 6 (fCall m_sign (aCons (fName 1) (aCons (fName 3) aNil)))) (sSeq (sIf (fOr (fNot (fTru (f1 (isiD isiTuple) (fName 5)))) (fB (f2 neD (fName 5) (fCall (one tupleD) (aCons (fLc (iSeq (fName 4)) (stN 7) [7] fYes (fCall (one intD) (aCons (fNotV (fCall m_law_even (aCons (fName 7) (aCons (fName 2) aNil)))) aNil))) aNil))))) (sRet (fC (.bool false))) sNil) (sSeq (sIf (fB (f2 neD (f2 eqD (fName 5) (fName 6)) (f2 inD (fCall m_law_sum (aCons (fName 2) (aCons (fName 3) aNil))) (fCall m_law_spread (aCons (f2 ixD (fName 1) (fC (.int 0))) (aCons (f2 ixD (fName 1) (fC (.int 1))) aNil)))))) (sRet (fC (.bool false))) sNil) (sRet (f2 eqD (fCall m_sign (aCons (fName 1) (aCons (fCall m_law_sum (aCons (fName 2) (aCons (fName 3) aNil))) aNil))) (fCall m_law_sum (aCons (fName 5) (aCons (fName 6) aNil)))))))))))))
def m_law_k08 : List PyData → R PyData := run 1 8 b_law_k08
/-- all_words: 0 size 1 found 2 place 3 more 4 word -/
def b_all_words : Rho → R Out := (sSeq (sSet 1 (fLst (aCons (fTup aNil) aNil))) (sSeq (sFor (iArg rng1D (aCons (fName 0) aNil)) (stN 2) (sSeq (sSetO 3 (fLst aNil)) (sSeq (sFor (iSeq (fName 1)) (stN 4) (sExt 3 (fLst (aCons (f2 addD (fName 4) (fTup (aCons (fC (.int 0)) aNil))) (aCons (f2 addD (fName 4) (fTup (aCons (fC (.int 1)) aNil))) aNil))))) (sFz 3 (sSet 1 (fName 3)))))) (sRet (fName 1))))
def m_all_words : List PyData → R PyData := run 1 5 b_all_words
/-- gap: 0 desk 1 some 2 word -/
def b_gap : Rho → R Out := (sSeq (sSet 1 (fLc (iSeq (fCall m_words_of (aCons (fName 0) aNil))) (stN 2) [2] (fB (f2 inD (fC (.int 1)) (fName 2))) (fCall m_weight (aCons (fName 2) aNil)))) (sRet (fCall (one minDfD) (aCons (fName 1) aNil))))
def m_gap : List PyData → R PyData := run 1 3 b_gap
/-- agrees: 0 word 1 torn 2 bit 3 known -/
def b_agrees : Rho → R Out := (sSeq (sFor (iArg zipBD (aCons (fName 0) (aCons (fName 1) aNil))) (st2 2 3) (sIf (fAnd (fB (f2 isnD (fName 3) (fC .none))) (fB (f2 neD (fName 2) (fName 3)))) (sRet (fC (.bool false))) sNil)) (sRet (fC (.bool true))))
def m_agrees : List PyData → R PyData := run 2 4 b_agrees
/-- fillings: 0 desk 1 torn 2 word -/
def b_fillings : Rho → R Out := (sRet (fLc (iSeq (fCall m_words_of (aCons (fName 0) aNil))) (stN 2) [2] (fTru (fCall m_agrees (aCons (fName 2) (aCons (fName 1) aNil)))) (fName 2)))
def m_fillings : List PyData → R PyData := run 2 3 b_fillings
/-- sure: 0 desk 1 torn 2 some 3 found 4 place 5 bits 6 word -/
def b_sure : Rho → R Out := (sSeq (sSet 2 (fCall m_fillings (aCons (fName 0) (aCons (fName 1) aNil)))) (sSeq (sIf (fNot (fTru (fName 2))) (sRet (fC .none)) sNil) (sSeq (sSetO 3 (fLst aNil)) (sSeq (sFor (iArg rng1D (aCons (f2 ixD (fName 0) (fC (.int 0))) aNil)) (stN 4) (sSeq (sSet 5 (fLc (iSeq (fName 2)) (stN 6) [6] fYes (f2 ixD (fName 6) (fName 4)))) (sIf (fB (f2 eqD (fCall (one minD1) (aCons (fName 5) aNil)) (fCall (one maxD1) (aCons (fName 5) aNil)))) (sApp 3 (f2 ixD (fName 5) (fC (.int 0)))) (sApp 3 (fC .none))))) (sFz 3 (sRet (fCall (one tupleD) (aCons (fName 3) aNil))))))))
def m_sure : List PyData → R PyData := run 2 7 b_sure
/-- law_torn: 0 _law_script 1 _law_desk_here 2 _law_word_here 3 _law_spread_here 4 _law_found 5 _law_k -/
def b_law_torn : Rho → R Out := (sSeq (sSet 2 (fCall m_law_word (aCons (fCall m_law_cell (aCons (fName 0) (aCons (fC (.int 0)) aNil))) (aCons (f2 ixD (fName 1) (fC (.int 0))) aNil)))) (sSeq (sIf (fB (f2 eqD (f2 modD (fCall m_law_cell (aCons (fName 0) (aCons (fC (.int 1)) aNil))) (fC (.int 2))) (fC (.int 1)))) (sSeq (sSet 3 (fCall m_law_spread (aCons (f2 ixD (fName 1) (fC (.int 0))) (aCons (f2 ixD (fName 1) (fC (.int 1))) aNil)))) (sSet 2 (f2 ixD (fName 3) (f2 modD (fCall m_law_cell (aCons (fName 0) (aCons (fC (.int 0)) aNil))) (fCall (one lenD) (aCons (fName 3) aNil)))))) sNil) (sSeq (sSetO 4 (fLst aNil)) (sSeq (sFor (iArg rng1D (aCons (f2 ixD (fName 1) (fC (.int 0))) aNil)) (stN 5) (sIf (fB (f2 eqD (fCall m_law_mix (aCons (f2 addD (fCall m_law_cell (aCons (fName 0) (aCons (fC (.int 2)) aNil))) (f2 mulD (f2 mulD (fC (.int 13)) (fName 5)) (fName 5))) (aCons (fC (.int 9949)) (aCons (fC (.int 2)) aNil)))) (fC (.int 0)))) (sApp 4 (fC .none)) (sApp 4 (f2 ixD (fName 2) (fName 5))))) (sFz 4 (sRet (fCall (one tupleD) (aCons (fName 4) aNil))))))))
def m_law_torn : List PyData → R PyData := run 2 6 b_law_torn
/-- law_fits: 0 _law_word_here 1 _law_torn_here 2 _law_k -/
def b_law_fits : Rho → R Out := (sRet (f2 eqD (fLc (iArg rng1D (aCons (fCall (one lenD) (aCons (fName 0) aNil)) aNil)) (stN 2) [2] (fAnd (fB (f2 isnD (f2 ixD (fName 1) (fName 2)) (fC .none))) (fB (f2 neD (f2 ixD (fName 1) (fName 2)) (f2 ixD (fName 0) (fName 2))))) (fName 2)) (fLst aNil)))
def m_law_fits : List PyData → R PyData := run 2 3 b_law_fits
/-- rank: 0 desk 1 places 2 words 3 row 4 place -/
def b_rank : Rho → R Out := (sSeq (sSet 2 (fLc (iSeq (f2 ixD (fName 0) (fC (.int 1)))) (stN 3) [3] fYes (fCall (one tupleD) (aCons (fLc (iSeq (fName 1)) (stN 4) [4] fYes (f2 ixD (fName 3) (fName 4))) aNil)))) (sRet (fCall (one lenD) (aCons (f2 ixD (fCall m_desk_of (aCons (fCall (one lenD) (aCons (fName 1) aNil)) (aCons (fName 2) aNil))) (fC (.int 1))) aNil))))
def m_rank : List PyData → R PyData := run 2 5 b_rank
/-- tell_all: 0 desk 1 places -/
def b_tell_all : Rho → R Out := (sRet (f2 eqD (fCall m_rank (aCons (fName 0) (aCons (fName 1) aNil))) (fCall (one lenD) (aCons (f2 ixD (fName 0) (fC (.int 1))) aNil))))
def m_tell_all : List PyData → R PyData := run 2 2 b_tell_all
/-- look: 0 one 1 other -/
def b_look : Rho → R Out := (sIf (fB (f2 neD (f2 ixD (fName 0) (fC (.int 0))) (f2 ixD (fName 1) (fC (.int 0))))) sNo sNil)
def m_look : List PyData → R PyData := run 2 2 b_look
/-- joined: 0 one 1 other -/
def b_joined : Rho → R Out := (sSeq (sDrop (fCall m_look (aCons (fName 0) (aCons (fName 1) aNil)))) (sRet (fCall m_desk_of (aCons (f2 ixD (fName 0) (fC (.int 0))) (aCons (f2 addD (f2 ixD (fName 0) (fC (.int 1))) (f2 ixD (fName 1) (fC (.int 1)))) aNil)))))
def m_joined : List PyData → R PyData := run 2 2 b_joined
/-- met: 0 one 1 other -/
def b_met : Rho → R Out := (sSeq (sDrop (fCall m_look (aCons (fName 0) (aCons (fName 1) aNil)))) (sRet (fCall m_checks (aCons (fCall m_joined (aCons (fCall m_checks (aCons (fName 0) aNil)) (aCons (fCall m_checks (aCons (fName 1) aNil)) aNil))) aNil))))
def m_met : List PyData → R PyData := run 2 2 b_met
/-- law_k14: 0 _law_script 1 _law_size_here 2 _law_one 3 _law_two 4 _law_wide 5 _law_tight 6 _law_ones 7 _law_twos 8 _law_word_here -/
def b_law_k14 : Rho → R Out := (sSeq (sSet 1 (fCall m_law_size (aCons (fName 0) (aCons (fC (.int 1)) aNil)))) (sSeq (sSet 2 (fCall m_law_rows (aCons (fCall m_law_spread (aCons (fName 1) (aCons (fCall m_law_words (aCons (fName 0) (aCons (fC (.int 1)) (aCons (fName 1) aNil)))) aNil))) aNil))) (sSeq (sSet 3 (fCall m_law_rows (aCons (fCall m_law_spread (aCons (fName 1) (aCons (fCall m_law_words (aCons (fName 0) (aCons (fC (.int 8)) (aCons (fName 1) aNil)))) aNil))) aNil))) (sSeq (sSet 4 (fCall m_joined (aCons (fName 2) (aCons (fName 3) aNil)))) (sSeq (sSet 5 (fCall m_met (aCons (fName 2) (aCons (fName 3) aNil)))) (sSeq (sSet 6 (fCall m_law_spread (aCons (fName 1) (aCons (f2 ixD (fName 2) (fC (.int 1))) aNil)))) (sSeq (sSet 7 (fCall m_law_spread (aCons (fName 1) (aCons (f2 ixD (fName 3) (fC (.int 1))) aNil)))) (sSeq (sIf (fB (f2 neD (fName 4) (fCall m_law_rows (aCons (fCall m_law_spread (aCons (fName 1) (aCons (f2 addD (f2 ixD (fName 2) (fC (.int 1))) (f2 ixD (fName 3) (fC (.int 1)))) aNil))) aNil)))) (sRet (fC (.bool false))) sNil) (sSeq (sIf (fB (f2 neD (fName 5) (fCall m_law_rows (aCons (fLc (iSeq (fName 6)) (stN 8) [8] (fB (f2 inD (fName 8) (fName 7))) (fName 8)) aNil)))) (sRet (fC (.bool false))) sNil) (sSeq (sSet 8 (fCall m_law_word (aCons (fCall m_law_cell (aCons (fName 0) (aCons (fC (.int 0)) aNil))) (aCons (fName 1) aNil)))) (sSeq (sIf (fB (f2 neD (fCall m_has (aCons (fName 5) (aCons (fName 8) aNil))) (fAndV (fCall m_has (aCons (fName 2) (aCons (fName 8) aNil))) (fCall m_has (aCons (fName 3) (aCons (fName 8) aNil)))))) (sRet (fC (.bool false))) sNil) (sSeq (sIf (fOr (fB (f2 neD (f2 mulD (fCall m_count (aCons (fName 4) aNil)) (fCall m_count (aCons (fName 5) aNil))) (f2 mulD (fCall m_count (aCons (fName 2) aNil)) (fCall m_count (aCons (fName 3) aNil))))) (fOr (fB (f2 neD (fCall m_joined (aCons (fName 3) (aCons (fName 2) aNil))) (fName 4))) (fB (f2 neD (fCall m_met (aCons (fName 3) (aCons (fName 2) aNil))) (fName 5))))) (sRet (fC (.bool false))) sNil) (sRet (fAndV (f2 eqD (fCall m_checks (aCons (fName 4) aNil)) (fCall m_met (aCons (fCall m_checks (aCons (fName 2) aNil)) (aCons (fCall m_checks (aCons (fName 3) aNil)) aNil)))) (f2 eqD (fCall m_checks (aCons (fName 5) aNil)) (fCall m_joined (aCons (fCall m_checks (aCons (fName 2) aNil)) (aCons (fCall m_checks (aCons (fName 3) aNil)) aNil))))))))))))))))))
def m_law_k14 : List PyData → R PyData := run 1 9 b_law_k14
/-- within: 0 one 1 other 2 row -/
def b_within : Rho → R Out := (sSeq (sDrop (fCall m_look (aCons (fName 0) (aCons (fName 1) aNil)))) (sSeq (sFor (iSeq (f2 ixD (fName 0) (fC (.int 1)))) (stN 2) (sIf (fNot (fTru (fCall m_has (aCons (fName 1) (aCons (fName 2) aNil))))) (sRet (fC (.bool false))) sNil)) (sRet (fC (.bool true)))))
def m_within : List PyData → R PyData := run 2 3 b_within
/-- beside: 0 one 1 other 2 words 3 row -/
def b_beside : Rho → R Out := (sSeq (sIf (fB (f2 gtD (f2 addD (f2 ixD (fName 0) (fC (.int 0))) (f2 ixD (fName 1) (fC (.int 0)))) (fC (.int 10)))) sNo sNil) (sSeq (sSetO 2 (fLc (iSeq (f2 ixD (fName 0) (fC (.int 1)))) (stN 3) [3] fYes (f2 addD (fName 3) (fCall m_none (aCons (f2 ixD (fName 1) (fC (.int 0))) aNil))))) (sSeq (sExt 2 (fLc (iSeq (f2 ixD (fName 1) (fC (.int 1)))) (stN 3) [3] fYes (f2 addD (fCall m_none (aCons (f2 ixD (fName 0) (fC (.int 0))) aNil)) (fName 3)))) (sFz 2 (sRet (fCall m_desk_of (aCons (f2 addD (f2 ixD (fName 0) (fC (.int 0))) (f2 ixD (fName 1) (fC (.int 0)))) (aCons (fName 2) aNil))))))))
def m_beside : List PyData → R PyData := run 2 4 b_beside
/-- doubled: 0 one 1 other 2 words 3 row -/
def b_doubled : Rho → R Out := (sSeq (sDrop (fCall m_look (aCons (fName 0) (aCons (fName 1) aNil)))) (sSeq (sIf (fB (f2 gtD (f2 mulD (fC (.int 2)) (f2 ixD (fName 0) (fC (.int 0)))) (fC (.int 10)))) sNo sNil) (sSeq (sSetO 2 (fLc (iSeq (f2 ixD (fName 0) (fC (.int 1)))) (stN 3) [3] fYes (f2 addD (fName 3) (fName 3)))) (sSeq (sExt 2 (fLc (iSeq (f2 ixD (fName 1) (fC (.int 1)))) (stN 3) [3] fYes (f2 addD (fCall m_none (aCons (f2 ixD (fName 0) (fC (.int 0))) aNil)) (fName 3)))) (sFz 2 (sRet (fCall m_desk_of (aCons (f2 mulD (fC (.int 2)) (f2 ixD (fName 0) (fC (.int 0)))) (aCons (fName 2) aNil)))))))))
def m_doubled : List PyData → R PyData := run 2 4 b_doubled
/-- law_less: 0 _law_one 1 _law_two -/
def b_law_less : Rho → R Out := (sSeq (sIf (fB (f2 isD (fName 0) (fC .none))) (sRet (fName 1)) sNil) (sSeq (sIf (fB (f2 isD (fName 1) (fC .none))) (sRet (f2 mulD (fC (.int 2)) (fName 0))) sNil) (sRet (fCall min2D (aCons (f2 mulD (fC (.int 2)) (fName 0)) (aCons (fName 1) aNil))))))
def m_law_less : List PyData → R PyData := run 2 2 b_law_less
/-- law_k16: 0 _law_script 1 _law_size 2 _law_wide 3 _law_one 4 _law_two 5 _law_ones 6 _law_twos 7 _law_due 8 _law_a 9 _law_three 10 _law_found 11 _law_b -/
def b_law_k16 : Rho → R Out := (sSeq (sSet 1 (f2 addD (fC (.int 1)) (f2 modD (fCall m_law_cell (aCons (fName 0) (aCons (fC (.int 1)) aNil))) (fC (.int 4))))) (sSeq (sSet 2 (f2 addD (fC (.int 1)) (f2 modD (fCall m_law_cell (aCons (fName 0) (aCons (fC (.int 2)) aNil))) (fC (.int 4))))) (sSeq (sSet 3 (fCall m_law_rows (aCons (fCall m_law_spread (aCons (fName 1) (aCons (fSl (fCall m_law_words (aCons (fName 0) (aCons (fC (.int 1)) (aCons (fName 1) aNil)))) oNo (oSome (fC (.int 3)))) aNil))) aNil))) (sSeq (sSet 4 (fCall m_law_rows (aCons (fCall m_law_spread (aCons (fName 2) (aCons (fSl (fCall m_law_words (aCons (fName 0) (aCons (fC (.int 8)) (aCons (fName 2) aNil)))) oNo (oSome (fC (.int 3)))) aNil))) aNil))) (sSeq (sSet 5 (fCall m_law_spread (aCons (fName 1) (aCons (f2 ixD (fName 3) (fC (.int 1))) aNil)))) (sSeq (sSet 6 (fCall m_law_spread (aCons (fName 2) (aCons (f2 ixD (fName 4) (fC (.int 1))) aNil)))) (sSeq (sSet 7 (fLst aNil)) (sSeq (sFor (iSeq (fName 5)) (stN 8) (sSet 7 (f2 addD (fName 7) (fLc (iSeq (fName 6)) (stN 11) [11] fYes (f2 addD (fName 8) (fName 11)))))) (sSeq (sIf (fB (f2 neD (fCall m_beside (aCons (fName 3) (aCons (fName 4) aNil))) (fCall m_law_rows (aCons (fCall (one (sortedD false)) (aCons (fName 7) aNil)) aNil)))) (sRet (fC (.bool false))) sNil) (sSeq (sSet 9 (fCall m_law_rows (aCons (fCall m_law_spread (aCons (fName 1) (aCons (fSl (fCall m_law_words (aCons (fName 0) (aCons (fC (.int 4)) (aCons (fName 1) aNil)))) oNo (oSome (fC (.int 3)))) aNil))) aNil))) (sSeq (sSet 10 (fCall m_doubled (aCons (fName 3) (aCons (fName 9) aNil)))) (sSeq (sSet 7 (fLst aNil)) (sSeq (sFor (iSeq (fName 5)) (stN 8) (sSet 7 (f2 addD (fName 7) (fLc (iSeq (fCall m_law_spread (aCons (fName 1) (aCons (f2 ixD (fName 9) (fC (.int 1))) aNil)))) (stN 11) [11] fYes (f2 addD (fName 8) (fCall m_law_sum (aCons (fName 8) (aCons (fName 11) aNil)))))))) (sRet (fAndV (f2 eqD (fName 10) (fCall m_law_rows (aCons (fCall (one (sortedD false)) (aCons (fName 7) aNil)) aNil))) (f2 eqD (fCall m_gap (aCons (fName 10) aNil)) (fCall m_law_less (aCons (fCall m_gap (aCons (fName 3) aNil)) (aCons (fCall m_gap (aCons (fName 9) aNil)) aNil)))))))))))))))))))
def m_law_k16 : List PyData → R PyData := run 1 12 b_law_k16
/-- look_place: 0 desk 1 place -/
def b_look_place : Rho → R Out := (sIf (fOr (fNot (fTru (fCall m_is_within (aCons (fName 1) (aCons (fC (.int 0)) (aCons (f2 subD (f2 ixD (fName 0) (fC (.int 0))) (fC (.int 1))) aNil)))))) (fB (f2 eqD (f2 ixD (fName 0) (fC (.int 0))) (fC (.int 1))))) sNo sNil)
def m_look_place : List PyData → R PyData := run 2 2 b_look_place
/-- without: 0 word 1 place -/
def b_without : Rho → R Out := (sRet (f2 addD (fSl (fName 0) oNo (oSome (fName 1))) (fSl (fName 0) (oSome (f2 addD (fName 1) (fC (.int 1)))) oNo)))
def m_without : List PyData → R PyData := run 2 2 b_without
/-- cut: 0 desk 1 place 2 row -/
def b_cut : Rho → R Out := (sSeq (sDrop (fCall m_look_place (aCons (fName 0) (aCons (fName 1) aNil)))) (sRet (fCall m_desk_of (aCons (f2 subD (f2 ixD (fName 0) (fC (.int 0))) (fC (.int 1))) (aCons (fLc (iSeq (f2 ixD (fName 0) (fC (.int 1)))) (stN 2) [2] fYes (fCall m_without (aCons (fName 2) (aCons (fName 1) aNil)))) aNil)))))
def m_cut : List PyData → R PyData := run 2 3 b_cut
/-- kept: 0 desk 1 place 2 some 3 word -/
def b_kept : Rho → R Out := (sSeq (sDrop (fCall m_look_place (aCons (fName 0) (aCons (fName 1) aNil)))) (sSeq (sSet 2 (fLc (iSeq (fCall m_words_of (aCons (fName 0) aNil))) (stN 3) [3] (fB (f2 eqD (f2 ixD (fName 3) (fName 1)) (fC (.int 0)))) (fName 3))) (sRet (fCall m_desk_of (aCons (f2 subD (f2 ixD (fName 0) (fC (.int 0))) (fC (.int 1))) (aCons (fLc (iSeq (fName 2)) (stN 3) [3] fYes (fCall m_without (aCons (fName 3) (aCons (fName 1) aNil)))) aNil))))))
def m_kept : List PyData → R PyData := run 2 4 b_kept
/-- counts: 0 desk 1 found 2 word 3 place -/
def b_counts : Rho → R Out := (sSeq (sSetO 1 (fLc (iArg rng1D (aCons (f2 addD (f2 ixD (fName 0) (fC (.int 0))) (fC (.int 1))) aNil)) (stN 3) [3] fYes (fC (.int 0)))) (sSeq (sFor (iSeq (fCall m_words_of (aCons (fName 0) aNil))) (stN 2) (sPut 1 (fCall m_weight (aCons (fName 2) aNil)) (f2 addD (fOwnIx 1 (fCall m_weight (aCons (fName 2) aNil))) (fC (.int 1))))) (sFz 1 (sRet (fName 1)))))
def m_counts : List PyData → R PyData := run 1 4 b_counts
/-- law_k18: 0 _law_script 1 _law_desk_here 2 _law_due 3 _law_word_here 4 _law_found 5 _law_one -/
def b_law_k18 : Rho → R Out := (sSeq (sSet 1 (fCall m_law_desk (aCons (fName 0) (aCons (fC (.int 0)) aNil)))) (sSeq (sSetO 2 (f2 repD (fLst (aCons (fC (.int 0)) aNil)) (f2 addD (f2 ixD (fName 1) (fC (.int 0))) (fC (.int 1))))) (sSeq (sFor (iSeq (fCall m_law_spread (aCons (f2 ixD (fName 1) (fC (.int 0))) (aCons (f2 ixD (fName 1) (fC (.int 1))) aNil)))) (stN 3) (sPut 2 (fCall (one sumD) (aCons (fName 3) aNil)) (f2 addD (fOwnIx 2 (fCall (one sumD) (aCons (fName 3) aNil))) (fC (.int 1))))) (sSeq (sSet 4 (fCall m_counts (aCons (fName 1) aNil))) (sFz 2 (sRet (fAndV (f1 (isiD isiList) (fName 4)) (fAndV (f2 eqD (fName 4) (fName 2)) (f2 eqD (fLc (iSeq (fName 4)) (stN 5) [5] (fNot (fTru (fCall m_law_whole (aCons (fName 5) aNil)))) (fName 5)) (fLst aNil))))))))))
def m_law_k18 : List PyData → R PyData := run 1 6 b_law_k18
/-- choices: 0 many 1 some 2 found 3 turn -/
def b_choices : Rho → R Out := (sSeq (sSet 2 (fC (.int 1))) (sSeq (sFor (iArg rng1D (aCons (fName 1) aNil)) (stN 3) (sSet 2 (f2 fdivD (f2 mulD (fName 2) (f2 subD (fName 0) (fName 3))) (f2 addD (fName 3) (fC (.int 1)))))) (sRet (fName 2))))
def m_choices : List PyData → R PyData := run 2 4 b_choices
/-- part_of: 0 size 1 ones 2 chosen 3 found 4 both 5 ways -/
def b_part_of : Rho → R Out := (sSeq (sSet 3 (fC (.int 0))) (sSeq (sFor (iArg rng1D (aCons (f2 addD (fName 2) (fC (.int 1))) aNil)) (stN 4) (sIf (fAnd (fB (f2 leD (fName 4) (fName 1))) (fB (f2 leD (f2 subD (fName 2) (fName 4)) (f2 subD (fName 0) (fName 1))))) (sSeq (sSet 5 (f2 mulD (fCall m_choices (aCons (fName 1) (aCons (fName 4) aNil))) (fCall m_choices (aCons (f2 subD (fName 0) (fName 1)) (aCons (f2 subD (fName 2) (fName 4)) aNil))))) (sSet 3 (f2 addD (fName 3) (f2 mulD (fName 5) (f2 subD (fC (.int 1)) (f2 mulD (fC (.int 2)) (f2 modD (fName 4) (fC (.int 2))))))))) sNil)) (sRet (fName 3))))
def m_part_of : List PyData → R PyData := run 3 6 b_part_of
/-- counts_of_checks: 0 numbers 1 size 2 found 3 chosen 4 whole 5 ones 6 number -/
def b_counts_of_checks : Rho → R Out := (sSeq (sSet 1 (f2 subD (fCall (one lenD) (aCons (fName 0) aNil)) (fC (.int 1)))) (sSeq (sSetO 2 (fLst aNil)) (sSeq (sFor (iArg rng1D (aCons (f2 addD (fName 1) (fC (.int 1))) aNil)) (stN 3) (sSeq (sSet 4 (fCall (one sumD) (aCons (fLc (iArg enumsD (aCons (fName 0) aNil)) (st2 5 6) [5, 6] fYes (f2 mulD (fName 6) (fCall m_part_of (aCons (fName 1) (aCons (fName 5) (aCons (fName 3) aNil)))))) aNil))) (sApp 2 (f2 fdivD (fName 4) (fCall (one sumD) (aCons (fName 0) aNil)))))) (sFz 2 (sRet (fName 2))))))
def m_counts_of_checks : List PyData → R PyData := run 1 7 b_counts_of_checks
/-- law_counts: 0 _law_size_here 1 _law_words_here 2 _law_found 3 _law_word_here -/
def b_law_counts : Rho → R Out := (sSeq (sSetO 2 (f2 repD (fLst (aCons (fC (.int 0)) aNil)) (f2 addD (fName 0) (fC (.int 1))))) (sSeq (sFor (iSeq (fName 1)) (stN 3) (sPut 2 (fCall (one sumD) (aCons (fName 3) aNil)) (f2 addD (fOwnIx 2 (fCall (one sumD) (aCons (fName 3) aNil))) (fC (.int 1))))) (sFz 2 (sRet (fName 2)))))
def m_law_counts : List PyData → R PyData := run 2 4 b_law_counts
/-- law_k19: 0 _law_script 1 _law_desk_here 2 _law_size_here 3 _law_numbers 4 _law_some 5 _law_handed 6 _law_found 7 _law_word_here 8 _law_one 9 _law_row -/
def b_law_k19 : Rho → R Out := (sSeq (sSet 1 (fCall m_law_desk (aCons (fName 0) (aCons (fC (.int 0)) aNil)))) (sSeq (sSet 2 (f2 ixD (fName 1) (fC (.int 0)))) (sSeq (sSet 3 (fCall m_law_counts (aCons (fName 2) (aCons (fCall m_law_spread (aCons (fName 2) (aCons (f2 ixD (fName 1) (fC (.int 1))) aNil))) aNil)))) (sSeq (sSet 4 (fLc (iSeq (fCall m_law_all (aCons (fName 2) aNil))) (stN 7) [7] (fB (f2 eqD (fLc (iSeq (f2 ixD (fName 1) (fC (.int 1)))) (stN 9) [9] (fNot (fTru (fCall m_law_even (aCons (fName 9) (aCons (fName 7) aNil))))) (fName 9)) (fLst aNil))) (fName 7))) (sSeq (sSet 5 (fCall (one listD) (aCons (fName 3) aNil))) (sSeq (sSet 6 (fCall m_counts_of_checks (aCons (fName 5) aNil))) (sSeq (sIf (fOr (fNot (fTru (f1 (isiD isiList) (fName 6)))) (fOr (fB (f2 neD (fName 6) (fCall m_law_counts (aCons (fName 2) (aCons (fName 4) aNil))))) (fB (f2 neD (fName 5) (fName 3))))) (sRet (fC (.bool false))) sNil) (sRet (fAndV (f2 eqD (fLc (iSeq (fName 6)) (stN 8) [8] (fNot (fTru (fCall m_law_whole (aCons (fName 8) aNil)))) (fName 8)) (fLst aNil)) (f2 eqD (fCall m_counts_of_checks (aCons (fName 6) aNil)) (fName 3)))))))))))
def m_law_k19 : List PyData → R PyData := run 1 10 b_law_k19
/-- are_free: 0 desk 1 places -/
def b_are_free : Rho → R Out := (sRet (f2 eqD (fCall m_rank (aCons (fName 0) (aCons (fName 1) aNil))) (fCall (one lenD) (aCons (fName 1) aNil))))
def m_are_free : List PyData → R PyData := run 2 2 b_are_free
/-- law_places: 0 _law_cell_here 1 _law_size_here 2 _law_k -/
def b_law_places : Rho → R Out := (sRet (fLc (iArg rng1D (aCons (fName 1) aNil)) (stN 2) [2] (fB (f2 eqD (fCall m_law_mix (aCons (f2 addD (fName 0) (f2 mulD (f2 mulD (fC (.int 13)) (fName 2)) (fName 2))) (aCons (fC (.int 9949)) (aCons (fC (.int 2)) aNil)))) (fC (.int 0)))) (fName 2)))
def m_law_places : List PyData → R PyData := run 2 3 b_law_places
/-- law_k21: 0 _law_script 1 _law_desk_here 2 _law_size_here 3 _law_one 4 _law_two 5 _law_both 6 _law_shared 7 _law_k 8 _law_others -/
def b_law_k21 : Rho → R Out := (sSeq (sSet 1 (fCall m_law_desk (aCons (fName 0) (aCons (fC (.int 2)) aNil)))) (sSeq (sSet 2 (f2 ixD (fName 1) (fC (.int 0)))) (sSeq (sSet 3 (fCall m_law_places (aCons (fCall m_law_cell (aCons (fName 0) (aCons (fC (.int 0)) aNil))) (aCons (fName 2) aNil)))) (sSeq (sSet 4 (fCall m_law_places (aCons (f2 addD (fCall m_law_cell (aCons (fName 0) (aCons (fC (.int 1)) aNil))) (fC (.int 5))) (aCons (fName 2) aNil)))) (sSeq (sSet 5 (fLc (iArg rng1D (aCons (fName 2) aNil)) (stN 7) [7] (fOr (fB (f2 inD (fName 7) (fName 3))) (fB (f2 inD (fName 7) (fName 4)))) (fName 7))) (sSeq (sSet 6 (fLc (iSeq (fName 3)) (stN 7) [7] (fB (f2 inD (fName 7) (fName 4))) (fName 7))) (sSeq (sIf (fB (f2 gtD (f2 addD (fCall m_rank (aCons (fName 1) (aCons (fName 5) aNil))) (fCall m_rank (aCons (fName 1) (aCons (fName 6) aNil)))) (f2 addD (fCall m_rank (aCons (fName 1) (aCons (fName 3) aNil))) (fCall m_rank (aCons (fName 1) (aCons (fName 4) aNil)))))) (sRet (fC (.bool false))) sNil) (sSeq (sIf (fNot (fB (fChain leD leD (fCall m_rank (aCons (fName 1) (aCons (fName 6) aNil))) (fCall m_rank (aCons (fName 1) (aCons (fName 3) aNil))) (fCall m_rank (aCons (fName 1) (aCons (fName 5) aNil)))))) (sRet (fC (.bool false))) sNil) (sSeq (sFor (iArg rng1D (aCons (fName 2) aNil)) (stN 7) (sIf (fAnd (fB (f2 ninD (fName 7) (fName 3))) (fNot (fB (fChain leD leD (fC (.int 0)) (f2 subD (fCall m_rank (aCons (fName 1) (aCons (f2 addD (fName 3) (fLst (aCons (fName 7) aNil))) aNil))) (fCall m_rank (aCons (fName 1) (aCons (fName 3) aNil)))) (fC (.int 1)))))) (sRet (fC (.bool false))) sNil)) (sSeq (sSet 8 (fLc (iArg rng1D (aCons (fName 2) aNil)) (stN 7) [7] (fB (f2 ninD (fName 7) (fName 3))) (fName 7))) (sRet (f2 eqD (fCall m_rank (aCons (fCall m_checks (aCons (fName 1) aNil)) (aCons (fName 3) aNil))) (f2 subD (f2 addD (fCall (one lenD) (aCons (fName 3) aNil)) (fCall m_rank (aCons (fName 1) (aCons (fName 8) aNil)))) (fCall (one lenD) (aCons (f2 ixD (fName 1) (fC (.int 1))) aNil)))))))))))))))
def m_law_k21 : List PyData → R PyData := run 1 9 b_law_k21
/-- bits_read: 0 text 1 sign -/
def b_bits_read : Rho → R Out := (sSeq (sFor (iSeq (fName 0)) (stN 1) (sIf (fB (f2 ninD (fName 1) (fC (.str "01")))) sNo sNil)) (sRet (fCall (one tupleD) (aCons (fLc (iSeq (fName 0)) (stN 1) [1] fYes (fCall (one intD) (aCons (fName 1) aNil))) aNil))))
def m_bits_read : List PyData → R PyData := run 1 2 b_bits_read
end L2.PD

set_option Elab.async false
set_option linter.all false
set_option autoImplicit false
/-! WM0: words of bits, codes, desks: plain Lean. -/
namespace L2.PD

abbrev Word := List Bool
def xw (a b : Word) : Word := List.zipWith (fun x y => x != y) a b
def zw (n : Nat) : Word := List.replicate n false
def bit (w : Word) (i : Nat) : Bool := w.getD i false

theorem bit_ge {w : Word} {i : Nat} (h : w.length ≤ i) : bit w i = false := by
  unfold bit
  rw [List.getD_eq_getElem?_getD, List.getElem?_eq_none h]
  rfl
theorem bit_lt {w : Word} {i : Nat} (h : i < w.length) : bit w i = w[i] := by
  unfold bit
  rw [List.getD_eq_getElem?_getD, List.getElem?_eq_getElem h]
  rfl
theorem xw_length {a b : Word} (h : a.length = b.length) : (xw a b).length = a.length := by
  unfold xw
  rw [List.length_zipWith]
  omega
theorem xw_len {n : Nat} {a b : Word} (ha : a.length = n) (hb : b.length = n) : (xw a b).length = n := by rw [xw_length (by omega), ha]
theorem zw_length (n : Nat) : (zw n).length = n := List.length_replicate
theorem bit_zw (n i : Nat) : bit (zw n) i = false := by
  unfold bit zw
  rw [List.getD_eq_getElem?_getD, List.getElem?_replicate]
  split <;> rfl
theorem bit_xw {a b : Word} (h : a.length = b.length) (i : Nat) : bit (xw a b) i = (bit a i != bit b i) := by
  by_cases hi : i < a.length
  · rw [bit_lt (by rw [xw_length h]; exact hi), bit_lt hi, bit_lt (by omega)]
    unfold xw
    rw [List.getElem_zipWith]
  · rw [bit_ge (by rw [xw_length h]; omega), bit_ge (by omega), bit_ge (by omega)]
    rfl
theorem bit_xw' {n : Nat} {a b : Word} (ha : a.length = n) (hb : b.length = n) (i : Nat) : bit (xw a b) i = (bit a i != bit b i) := bit_xw (by omega) i
theorem ext_bit {a b : Word} (h : a.length = b.length) (e : ∀ i, bit a i = bit b i) : a = b := by
  apply List.ext_getElem h
  intro i h1 h2
  have := e i
  rw [bit_lt h1, bit_lt h2] at this
  exact this
section
variable {n : Nat} {a b c : Word}
theorem xw_comm (ha : a.length = n) (hb : b.length = n) : xw a b = xw b a := by
  refine ext_bit (by rw [xw_len ha hb, xw_len hb ha]) fun i => ?_
  rw [bit_xw' ha hb, bit_xw' hb ha]
  cases bit a i <;> cases bit b i <;> rfl
theorem xw_assoc (ha : a.length = n) (hb : b.length = n) (hc : c.length = n) : xw (xw a b) c = xw a (xw b c) := by
  refine ext_bit (by rw [xw_len (xw_len ha hb) hc, xw_len ha (xw_len hb hc)]) fun i => ?_
  rw [bit_xw' (xw_len ha hb) hc, bit_xw' ha hb, bit_xw' ha (xw_len hb hc), bit_xw' hb hc]
  cases bit a i <;> cases bit b i <;> cases bit c i <;> rfl
theorem xw_self (ha : a.length = n) : xw a a = zw n := by
  refine ext_bit (by rw [xw_len ha ha, zw_length]) fun i => ?_
  rw [bit_xw' ha ha, bit_zw]
  cases bit a i <;> rfl
theorem xw_zw (ha : a.length = n) : xw a (zw n) = a := by
  refine ext_bit (by rw [xw_len ha (zw_length n), ha]) fun i => ?_
  rw [bit_xw' ha (zw_length n), bit_zw]
  cases bit a i <;> rfl
theorem zw_xw (ha : a.length = n) : xw (zw n) a = a := by rw [xw_comm (zw_length n) ha, xw_zw ha]
theorem xw_cancel (ha : a.length = n) (hb : b.length = n) : xw (xw a b) b = a := by rw [xw_assoc ha hb hb, xw_self hb, xw_zw ha]
theorem xw_eq_zw (ha : a.length = n) (hb : b.length = n) (h : xw a b = zw n) : a = b := by
  have := xw_cancel ha hb
  rw [h, zw_xw hb] at this
  exact this.symm
theorem xw_inj (ha : a.length = n) (hb : b.length = n) (hc : c.length = n) (h : xw a c = xw b c) : a = b := by
  have := congrArg (fun w => xw w c) h
  simp only [xw_cancel ha hc, xw_cancel hb hc] at this
  exact this
end

/-! ### heads -/
def hd (w : Word) : Nat := w.idxOf true
theorem hd_spec : ∀ {w : Word}, true ∈ w → hd w < w.length ∧ bit w (hd w) = true ∧ ∀ i, i < hd w → bit w i = false := by
  intro w h
  have hl : hd w < w.length := List.idxOf_lt_length_iff.mpr h
  refine ⟨hl, ?_, fun i hi => ?_⟩
  · rw [bit_lt hl]
    exact List.getElem_idxOf hl
  · rw [bit_lt (by omega)]
    have := List.not_of_lt_findIdx (p := fun x => x == true) (xs := w) (i := i) hi
    simpa using this
theorem hd_eq {w : Word} {h : Nat} (h1 : bit w h = true) (h2 : ∀ i, i < h → bit w i = false) : hd w = h ∧ true ∈ w := by
  have hl : h < w.length := by
    by_cases e : h < w.length
    · exact e
    · rw [bit_ge (by omega)] at h1; cases h1
  have hm : true ∈ w := by
    rw [bit_lt hl] at h1
    rw [← h1]
    exact List.getElem_mem hl
  obtain ⟨k1, k2, k3⟩ := hd_spec hm
  refine ⟨?_, hm⟩
  by_cases e : hd w < h
  · rw [h2 _ e] at k2; cases k2
  · by_cases e' : h < hd w
    · rw [k3 _ e'] at h1; cases h1
    · omega
theorem zw_of {n : Nat} {w : Word} (hl : w.length = n) (h : true ∉ w) : w = zw n := by
  refine ext_bit (by rw [hl, zw_length]) fun i => ?_
  rw [bit_zw]
  by_cases hi : i < w.length
  · rw [bit_lt hi]
    cases e : w[i] with
    | false => rfl
    | true => exact absurd (e ▸ List.getElem_mem hi) h
  · exact bit_ge (by omega)
theorem not_mem_zw (n : Nat) : true ∉ zw n := by
  unfold zw
  intro h
  have := List.eq_of_mem_replicate h
  cases this
theorem ne_zw {n : Nat} {w : Word} (h : true ∈ w) : w ≠ zw n := fun e => not_mem_zw n (e ▸ h)
theorem mem_true {w : Word} {i : Nat} (h : bit w i = true) : true ∈ w := by
  by_cases hi : i < w.length
  · rw [bit_lt hi] at h
    rw [← h]
    exact List.getElem_mem hi
  · rw [bit_ge (by omega)] at h; cases h

/-! ### codes -/
structure IsCode (n : Nat) (C : List Word) : Prop where
  len : ∀ w ∈ C, w.length = n
  zero : zw n ∈ C
  add : ∀ a ∈ C, ∀ b ∈ C, xw a b ∈ C
  nd : C.Nodup
def sprStep (f : List Word) (w : Word) : List Word := if w ∈ f then f else f ++ f.map fun v => xw v w
def spr (n : Nat) (L : List Word) : List Word := L.foldl sprStep [zw n]
theorem code_zw (n : Nat) : IsCode n [zw n] where
  len := fun w h => by rw [List.mem_singleton.mp h, zw_length]
  zero := List.mem_singleton.mpr rfl
  add := fun a ha b hb => by
    rw [List.mem_singleton.mp ha, List.mem_singleton.mp hb, xw_self (zw_length n)]
    exact List.mem_singleton.mpr rfl
  nd := by simp
theorem IsCode.step {n : Nat} {C : List Word} {w : Word} (h : IsCode n C) (hw : w.length = n) : IsCode n (sprStep C w) := by
  unfold sprStep
  split
  · exact h
  · rename_i hn
    have lm : ∀ v ∈ C.map (fun v => xw v w), ∃ u ∈ C, v = xw u w := fun v hv => by
      obtain ⟨u, h1, h2⟩ := List.mem_map.mp hv
      exact ⟨u, h1, h2.symm⟩
    refine ⟨fun v hv => ?_, List.mem_append_left _ h.zero, fun a ha b hb => ?_, ?_⟩
    · rcases List.mem_append.mp hv with hv | hv
      · exact h.len v hv
      · obtain ⟨u, h1, rfl⟩ := lm v hv
        exact xw_len (h.len u h1) hw
    · rcases List.mem_append.mp ha with ha | ha
      · rcases List.mem_append.mp hb with hb | hb
        · exact List.mem_append_left _ (h.add a ha b hb)
        · obtain ⟨u, h1, rfl⟩ := lm b hb
          refine List.mem_append_right _ (List.mem_map.mpr ⟨xw a u, h.add a ha u h1, ?_⟩)
          exact xw_assoc (h.len a ha) (h.len u h1) hw
      · obtain ⟨u, h1, rfl⟩ := lm a ha
        rcases List.mem_append.mp hb with hb | hb
        · refine List.mem_append_right _ (List.mem_map.mpr ⟨xw u b, h.add u h1 b hb, ?_⟩)
          rw [xw_assoc (h.len u h1) (h.len b hb) hw, xw_comm (h.len b hb) hw, ← xw_assoc (h.len u h1) hw (h.len b hb)]
        · obtain ⟨v, h2, rfl⟩ := lm b hb
          refine List.mem_append_left _ ?_
          have : xw (xw u w) (xw v w) = xw u v := by
            rw [xw_comm (h.len v h2) hw, ← xw_assoc (xw_len (h.len u h1) hw) hw (h.len v h2), xw_cancel (h.len u h1) hw]
          rw [this]
          exact h.add u h1 v h2
    · rw [List.nodup_append]
      refine ⟨h.nd, ?_, fun a ha b hb e => ?_⟩
      · unfold List.Nodup
        rw [List.pairwise_map]
        refine List.Pairwise.imp_of_mem (fun {a b} ha hb hab e => hab ?_) h.nd
        exact xw_inj (h.len a ha) (h.len b hb) hw e
      · subst e
        obtain ⟨u, h1, e⟩ := lm a hb
        apply hn
        have : w = xw u a := by
          rw [e, ← xw_assoc (h.len u h1) (h.len u h1) hw, xw_self (h.len u h1), zw_xw hw]
        rw [this]
        exact h.add u h1 a ha
theorem mem_step {n : Nat} {C : List Word} {w v : Word} (h : IsCode n C) (hw : w.length = n) : v ∈ sprStep C w ↔ v ∈ C ∨ ∃ u ∈ C, v = xw u w := by
  unfold sprStep
  split
  · rename_i hm
    refine ⟨.inl, fun hv => ?_⟩
    rcases hv with hv | ⟨u, hu, rfl⟩
    · exact hv
    · exact h.add u hu w hm
  · rw [List.mem_append, List.mem_map]
    refine or_congr_right ⟨fun ⟨u, h1, h2⟩ => ⟨u, h1, h2.symm⟩, fun ⟨u, h1, h2⟩ => ⟨u, h1, h2.symm⟩⟩
theorem code_fold {n : Nat} : ∀ (L : List Word) (C : List Word), (∀ w ∈ L, w.length = n) → IsCode n C → IsCode n (L.foldl sprStep C)
  | [], _, _, h => h
  | w :: L, C, hl, h => code_fold L _ (fun v hv => hl v (List.mem_cons_of_mem _ hv)) (h.step (hl w List.mem_cons_self))
theorem spr_code {n : Nat} {L : List Word} (hl : ∀ w ∈ L, w.length = n) : IsCode n (spr n L) := code_fold L _ hl (code_zw n)
theorem fold_sub {n : Nat} : ∀ (L : List Word) (C : List Word), (∀ w ∈ L, w.length = n) → IsCode n C → (∀ v ∈ C, v ∈ L.foldl sprStep C) ∧ ∀ v ∈ L, v ∈ L.foldl sprStep C
  | [], _, _, _ => ⟨fun _ h => h, fun _ h => nomatch h⟩
  | w :: L, C, hl, h => by
    have hw := hl w List.mem_cons_self
    obtain ⟨h1, h2⟩ := fold_sub L (sprStep C w) (fun v hv => hl v (List.mem_cons_of_mem _ hv)) (h.step hw)
    refine ⟨fun v hv => h1 v ((mem_step h hw).mpr (.inl hv)), fun v hv => ?_⟩
    rcases List.mem_cons.mp hv with rfl | hv
    · exact h1 v ((mem_step h hw).mpr (.inr ⟨zw n, h.zero, (zw_xw hw).symm⟩))
    · exact h2 v hv
theorem spr_mem {n : Nat} {L : List Word} (hl : ∀ w ∈ L, w.length = n) : ∀ v ∈ L, v ∈ spr n L := (fold_sub L _ hl (code_zw n)).2
theorem fold_least {n : Nat} {D : List Word} (hD : IsCode n D) : ∀ (L : List Word) (C : List Word), (∀ w ∈ L, w ∈ D) → IsCode n C → (∀ v ∈ C, v ∈ D) → ∀ v ∈ L.foldl sprStep C, v ∈ D
  | [], _, _, _, hC => hC
  | w :: L, C, hl, h, hC => fold_least hD L (sprStep C w) (fun v hv => hl v (List.mem_cons_of_mem _ hv)) (h.step (hD.len w (hl w List.mem_cons_self))) fun v hv => by
    rcases (mem_step h (hD.len w (hl w List.mem_cons_self))).mp hv with hv | ⟨u, hu, rfl⟩
    · exact hC v hv
    · exact hD.add u (hC u hu) w (hl w List.mem_cons_self)
/-- the span is the least code -/
theorem spr_least {n : Nat} {L D : List Word} (hD : IsCode n D) (hl : ∀ w ∈ L, w ∈ D) : ∀ v ∈ spr n L, v ∈ D :=
  fold_least hD L _ hl (code_zw n) fun v hv => by rw [List.mem_singleton.mp hv]; exact hD.zero
theorem IsCode.perm {n : Nat} {C D : List Word} (h : IsCode n C) (p : C.Perm D) : IsCode n D :=
  ⟨fun w hw => h.len w (p.mem_iff.mpr hw), p.mem_iff.mp h.zero, fun a ha b hb => p.mem_iff.mp (h.add a (p.mem_iff.mpr ha) b (p.mem_iff.mpr hb)), p.nodup_iff.mp h.nd⟩

/-! ### desks -/
structure Desk (n : Nat) (C : List Word) (R : List Word) : Prop where
  mem : ∀ r ∈ R, r ∈ C ∧ true ∈ r
  inc : R.Pairwise fun a b => hd a < hd b
  red : ∀ r ∈ R, ∀ r' ∈ R, r ≠ r' → bit r' (hd r) = false
  full : ∀ w ∈ C, (∀ r ∈ R, bit w (hd r) = false) → w = zw n
theorem Desk.congr {n : Nat} {C D R : List Word} (h : Desk n C R) (e : ∀ w, w ∈ C ↔ w ∈ D) : Desk n D R :=
  ⟨fun r hr => ⟨(e r).mp (h.mem r hr).1, (h.mem r hr).2⟩, h.inc, h.red, fun w hw z => h.full w ((e w).mpr hw) z⟩
section
variable {n : Nat} {C R R' : List Word}
theorem Desk.len (hC : IsCode n C) (h : Desk n C R) : ∀ r ∈ R, r.length = n := fun r hr => hC.len r (h.mem r hr).1
theorem Desk.hd_inj (h : Desk n C R) {r r' : Word} (hr : r ∈ R) (hr' : r' ∈ R) (e : hd r = hd r') : r = r' := by
  by_cases z : r = r'
  · exact z
  · have := h.red r hr r' hr' z
    rw [e, (hd_spec (h.mem r' hr').2).2.1] at this
    cases this
/-- a word without a 1 at the heads of rows -/
def lessRows (w : Word) (rows : List Word) : Word := rows.foldl (fun w r => if bit w (hd r) = true then xw w r else w) w
theorem less_len : ∀ {rows : List Word} {w : Word}, w.length = n → (∀ r ∈ rows, r.length = n) → (lessRows w rows).length = n
  | [], _, h, _ => h
  | r :: rows, w, h, hr => by
    show (lessRows (if bit w (hd r) = true then xw w r else w) rows).length = n
    refine less_len ?_ fun r' h' => hr r' (List.mem_cons_of_mem _ h')
    split
    · exact xw_len h (hr r List.mem_cons_self)
    · exact h
/-- what it differs by lies in the code -/
theorem less_code (hC : IsCode n C) : ∀ {rows : List Word} {w : Word}, w.length = n → (∀ r ∈ rows, r ∈ C) → ∃ c ∈ C, lessRows w rows = xw w c
  | [], w, h, _ => ⟨zw n, hC.zero, (xw_zw h).symm⟩
  | r :: rows, w, h, hr => by
    have hrl := hC.len r (hr r List.mem_cons_self)
    show ∃ c ∈ C, lessRows (if bit w (hd r) = true then xw w r else w) rows = xw w c
    split
    · obtain ⟨c, h1, h2⟩ := less_code hC (xw_len h hrl) fun r' h' => hr r' (List.mem_cons_of_mem _ h')
      exact ⟨xw r c, hC.add r (hr r List.mem_cons_self) c h1, by rw [h2, xw_assoc h hrl (hC.len c h1)]⟩
    · exact less_code hC h fun r' h' => hr r' (List.mem_cons_of_mem _ h')
/-- a place where all rows have 0 stays -/
theorem less_keep : ∀ {rows : List Word} {w : Word} {i : Nat}, w.length = n → (∀ r ∈ rows, r.length = n) → (∀ r ∈ rows, bit r i = false) → bit (lessRows w rows) i = bit w i
  | [], _, _, _, _, _ => rfl
  | r :: rows, w, i, h, hr, hz => by
    have hrl := hr r List.mem_cons_self
    show bit (lessRows (if bit w (hd r) = true then xw w r else w) rows) i = bit w i
    split
    · rw [less_keep (xw_len h hrl) (fun r' h' => hr r' (List.mem_cons_of_mem _ h')) fun r' h' => hz r' (List.mem_cons_of_mem _ h'), bit_xw' h hrl, hz r List.mem_cons_self]
      cases bit w i <;> rfl
    · exact less_keep h (fun r' h' => hr r' (List.mem_cons_of_mem _ h')) fun r' h' => hz r' (List.mem_cons_of_mem _ h')
/-- .. and the heads are cleared -/
theorem less_clear : ∀ {rows : List Word} {w : Word}, w.length = n → (∀ r ∈ rows, r.length = n ∧ true ∈ r) → rows.Pairwise (fun r r' => bit r' (hd r) = false ∧ bit r (hd r') = false) → ∀ r ∈ rows, bit (lessRows w rows) (hd r) = false
  | [], _, _, _, _, _, h => nomatch h
  | r :: rows, w, h, hr, hp, r', hr' => by
    obtain ⟨hrl, hrt⟩ := hr r List.mem_cons_self
    rw [List.pairwise_cons] at hp
    show bit (lessRows (if bit w (hd r) = true then xw w r else w) rows) (hd r') = false
    have hl' : (if bit w (hd r) = true then xw w r else w).length = n := by
      split
      · exact xw_len h hrl
      · exact h
    rcases List.mem_cons.mp hr' with rfl | hr'
    · rw [less_keep hl' (fun r' h' => (hr r' (List.mem_cons_of_mem _ h')).1) fun r'' h' => (hp.1 r'' h').1]
      split
      · rename_i e
        rw [bit_xw' h hrl, e, (hd_spec hrt).2.1]
        rfl
      · rename_i e
        exact Bool.not_eq_true _ ▸ e
    · exact less_clear hl' (fun r' h' => hr r' (List.mem_cons_of_mem _ h')) hp.2 r' hr'
theorem Desk.pw (h : Desk n C R) : R.Pairwise fun r r' => bit r' (hd r) = false ∧ bit r (hd r') = false := by
  refine List.Pairwise.imp_of_mem (fun {a b} ha hb hab => ?_) h.inc
  have ne : a ≠ b := fun e => by rw [e] at hab; exact absurd hab (Nat.lt_irrefl _)
  exact ⟨h.red a ha b hb ne, h.red b hb a ha ne.symm⟩
theorem Desk.less (hC : IsCode n C) (h : Desk n C R) {w : Word} (hw : w.length = n) : (lessRows w R).length = n ∧ (∃ c ∈ C, lessRows w R = xw w c) ∧ ∀ r ∈ R, bit (lessRows w R) (hd r) = false :=
  ⟨less_len hw (h.len hC), less_code hC hw fun r hr => (h.mem r hr).1, less_clear hw (fun r hr => ⟨h.len hC r hr, (h.mem r hr).2⟩) h.pw⟩
/-- a word is in the code just if nothing is left of it -/
theorem Desk.has (hC : IsCode n C) (h : Desk n C R) {w : Word} (hw : w.length = n) : w ∈ C ↔ lessRows w R = zw n := by
  obtain ⟨h1, ⟨c, h2, h3⟩, h4⟩ := h.less hC hw
  refine ⟨fun hm => h.full _ (by rw [h3]; exact hC.add w hm c h2) h4, fun e => ?_⟩
  have : w = c := xw_eq_zw hw (hC.len c h2) (h3 ▸ e)
  rw [this]
  exact h2
/-- the heads of a code's words are the heads of its rows -/
theorem Desk.heads (hC : IsCode n C) (h : Desk n C R) {w : Word} (hm : w ∈ C) (ht : true ∈ w) : ∃ r ∈ R, hd r = hd w := by
  have hw := hC.len w hm
  have key : ∀ (rows : List Word) (w : Word), w.length = n → true ∈ w → (∀ r ∈ rows, r.length = n ∧ true ∈ r) → (∀ r ∈ rows, hd r ≠ hd w) → true ∈ lessRows w rows := by
    intro rows
    induction rows with
    | nil => intro w _ ht _ _; exact ht
    | cons r rows ih =>
      intro w hw ht hr hne
      obtain ⟨hrl, hrt⟩ := hr r List.mem_cons_self
      show true ∈ lessRows (if bit w (hd r) = true then xw w r else w) rows
      split
      · rename_i e
        obtain ⟨k1, k2, k3⟩ := hd_spec ht
        obtain ⟨j1, j2, j3⟩ := hd_spec hrt
        have hlt : hd w < hd r := by
          have := hne r List.mem_cons_self
          by_cases z : hd r < hd w
          · rw [k3 _ z] at e; cases e
          · omega
        obtain ⟨q1, q2⟩ := hd_eq (w := xw w r) (h := hd w) (by rw [bit_xw' hw hrl, k2, j3 _ hlt]; rfl) fun i hi => by rw [bit_xw' hw hrl, k3 i hi, j3 i (by omega)]; rfl
        exact ih _ (xw_len hw hrl) q2 (fun r' h' => hr r' (List.mem_cons_of_mem _ h')) fun r' h' => by rw [q1]; exact hne r' (List.mem_cons_of_mem _ h')
      · exact ih _ hw ht (fun r' h' => hr r' (List.mem_cons_of_mem _ h')) fun r' h' => hne r' (List.mem_cons_of_mem _ h')
  by_cases z : ∃ r ∈ R, hd r = hd w
  · exact z
  · have := key R w hw ht (fun r hr => ⟨h.len hC r hr, (h.mem r hr).2⟩) fun r hr e => z ⟨r, hr, e⟩
    rw [(h.has hC hw).mp hm] at this
    exact absurd this (not_mem_zw n)
theorem sorted_unique : ∀ {A B : List Word}, A.Pairwise (fun a b => hd a < hd b) → B.Pairwise (fun a b => hd a < hd b) → (∀ w, w ∈ A ↔ w ∈ B) → A = B
  | [], [], _, _, _ => rfl
  | [], b :: B, _, _, e => absurd ((e b).mpr List.mem_cons_self) (by simp)
  | a :: A, [], _, _, e => absurd ((e a).mp List.mem_cons_self) (by simp)
  | a :: A, b :: B, hA, hB, e => by
    rw [List.pairwise_cons] at hA hB
    have hab : a = b := by
      rcases List.mem_cons.mp ((e a).mp List.mem_cons_self) with h | h
      · exact h
      · rcases List.mem_cons.mp ((e b).mpr List.mem_cons_self) with h' | h'
        · exact h'.symm
        · have h1 := hB.1 a h
          have h2 := hA.1 b h'
          omega
    subst hab
    congr 1
    refine sorted_unique hA.2 hB.2 fun w => ⟨fun hw => ?_, fun hw => ?_⟩
    · rcases List.mem_cons.mp ((e w).mp (List.mem_cons_of_mem _ hw)) with h | h
      · subst h; exact absurd (hA.1 w hw) (Nat.lt_irrefl _)
      · exact h
    · rcases List.mem_cons.mp ((e w).mpr (List.mem_cons_of_mem _ hw)) with h | h
      · subst h; exact absurd (hB.1 w hw) (Nat.lt_irrefl _)
      · exact h
/-- one desk of each code -/
theorem Desk.unique (hC : IsCode n C) (h : Desk n C R) (h' : Desk n C R') : R = R' := by
  have half : ∀ {R R' : List Word}, Desk n C R → Desk n C R' → ∀ r ∈ R, r ∈ R' := fun {R R'} h h' r hr => by
    obtain ⟨hm, ht⟩ := h.mem r hr
    obtain ⟨r', h1, h2⟩ := h'.heads hC hm ht
    have hm' := (h'.mem r' h1).1
    have hl := hC.len r hm
    have hl' := hC.len r' hm'
    have z : xw r r' = zw n := by
      refine h.full _ (hC.add r hm r' hm') fun q hq => ?_
      rw [bit_xw' hl hl']
      by_cases e : q = r
      · subst e
        rw [(hd_spec ht).2.1, ← h2, (hd_spec (h'.mem r' h1).2).2.1]
        rfl
      · rw [h.red q hq r hr e]
        obtain ⟨q', g1, g2⟩ := h'.heads hC (h.mem q hq).1 (h.mem q hq).2
        have : q' ≠ r' := fun z => e (h.hd_inj hq hr (by rw [← g2, ← h2, z]))
        rw [← g2, h'.red q' g1 r' h1 this]
        rfl
    rw [xw_eq_zw hl hl' z]
    exact h1
  exact sorted_unique h.inc h'.inc fun w => ⟨half h h' w, half h' h w⟩

/-! ### one word more -/
def ltW : Word → Word → Bool
  | [], [] => false
  | [], _ :: _ => true
  | _ :: _, [] => false
  | a :: as, b :: bs => if a = b then ltW as bs else !a && b
/-- the rows with w' (cleared at their heads, not of noughts) -/
def newRows (R : List Word) (w : Word) : List Word := (R.map fun r => if bit r (hd w) = true then xw r w else r) ++ [w]
theorem ltW_hd : ∀ {a b : Word}, a.length = b.length → true ∈ b → (∀ i, i ≤ hd b → bit a i = false) → ltW a b = true
  | [], b, hl, hb, _ => by
    have : b = [] := List.eq_nil_of_length_eq_zero hl.symm
    subst this; cases hb
  | x :: a, [], hl, hb, _ => nomatch hb
  | x :: a, y :: b, hl, hb, h => by
    have hx : x = false := h 0 (Nat.zero_le _)
    subst hx
    unfold ltW
    cases y with
    | true => rfl
    | false =>
      rw [if_pos rfl]
      have hb' : true ∈ b := by
        rcases List.mem_cons.mp hb with h | h
        · cases h
        · exact h
      have e : hd (false :: b) = hd b + 1 := by
        unfold hd
        rw [List.idxOf_cons]
        rfl
      refine ltW_hd (by simpa using hl) hb' fun i hi => ?_
      have := h (i + 1) (by rw [e]; omega)
      exact this
theorem Desk.insert (hC : IsCode n C) (h : Desk n C R) {w : Word} (hw : w.length = n) (ht : true ∈ w) (hz : ∀ r ∈ R, bit w (hd r) = false) {S : List Word} (hp : S.Perm (newRows R w)) (hs : S.Pairwise fun a b => ltW a b = false) :
    Desk n (sprStep C w) S := by
  have hmem : ∀ s, s ∈ S ↔ (∃ r ∈ R, s = if bit r (hd w) = true then xw r w else r) ∨ s = w := fun s => by
    rw [hp.mem_iff]
    unfold newRows
    rw [List.mem_append, List.mem_map, List.mem_singleton]
    exact or_congr_left ⟨fun ⟨r, h1, h2⟩ => ⟨r, h1, h2.symm⟩, fun ⟨r, h1, h2⟩ => ⟨r, h1, h2.symm⟩⟩
  obtain ⟨w1, w2, w3⟩ := hd_spec ht
  -- a changed row keeps its head
  have row : ∀ r ∈ R, (if bit r (hd w) = true then xw r w else r).length = n ∧ hd (if bit r (hd w) = true then xw r w else r) = hd r ∧ true ∈ (if bit r (hd w) = true then xw r w else r) ∧ bit (if bit r (hd w) = true then xw r w else r) (hd w) = false ∧ ∀ q ∈ R, bit (if bit r (hd w) = true then xw r w else r) (hd q) = bit r (hd q) := fun r hr => by
    have hl := h.len hC r hr
    obtain ⟨r1, r2, r3⟩ := hd_spec (h.mem r hr).2
    split
    · rename_i e
      have hlt : hd r < hd w := by
        have ne : hd r ≠ hd w := fun z => by
          have := hz r hr
          rw [z, w2] at this
          cases this
        by_cases z : hd w < hd r
        · rw [r3 _ z] at e; cases e
        · omega
      obtain ⟨q1, q2⟩ := hd_eq (w := xw r w) (h := hd r) (by rw [bit_xw' hl hw, r2, w3 _ hlt]; rfl) fun i hi => by rw [bit_xw' hl hw, r3 i hi, w3 i (by omega)]; rfl
      refine ⟨xw_len hl hw, q1, q2, by rw [bit_xw' hl hw, e, w2]; rfl, fun q hq => ?_⟩
      rw [bit_xw' hl hw, hz q hq]
      cases bit r (hd q) <;> rfl
    · rename_i e
      exact ⟨hl, rfl, (h.mem r hr).2, Bool.not_eq_true _ ▸ e, fun _ _ => rfl⟩
  have red : ∀ r ∈ S, ∀ r' ∈ S, r ≠ r' → bit r' (hd r) = false := fun s hs s' hs' ne => by
    rcases (hmem s).mp hs with ⟨r, hr, rfl⟩ | rfl
    · rcases (hmem s').mp hs' with ⟨r', hr', rfl⟩ | rfl
      · have rne : r ≠ r' := fun z => ne (by rw [z])
        rw [(row r hr).2.1, (row r' hr').2.2.2.2 r hr]
        exact h.red r hr r' hr' rne
      · rw [(row r hr).2.1]
        exact hz r hr
    · rcases (hmem s').mp hs' with ⟨r', hr', rfl⟩ | rfl
      · exact (row r' hr').2.2.2.1
      · exact absurd rfl ne
  have tru : ∀ s ∈ S, true ∈ s ∧ s.length = n := fun s hs => by
    rcases (hmem s).mp hs with ⟨r, hr, rfl⟩ | rfl
    · exact ⟨(row r hr).2.2.1, (row r hr).1⟩
    · exact ⟨ht, hw⟩
  have wn : w ∉ C := fun z => ne_zw ht (h.full w z hz)
  refine ⟨fun s hs => ⟨?_, (tru s hs).1⟩, ?_, red, fun v hv hzv => ?_⟩
  · rw [mem_step hC hw]
    rcases (hmem s).mp hs with ⟨r, hr, rfl⟩ | rfl
    · split
      · exact .inr ⟨r, (h.mem r hr).1, rfl⟩
      · exact .inl (h.mem r hr).1
    · exact .inr ⟨zw n, hC.zero, (zw_xw hw).symm⟩
  · -- all of S are unlike
    have nd : S.Nodup := by
      rw [hp.nodup_iff]
      unfold newRows
      rw [List.nodup_append]
      refine ⟨?_, by simp, fun a ha b hb e => ?_⟩
      · unfold List.Nodup
        rw [List.pairwise_map]
        refine List.Pairwise.imp_of_mem (fun {a b} ha hb hab e => ?_) h.inc
        have := (row a ha).2.1
        rw [e, (row b hb).2.1] at this
        omega
      · subst e
        obtain ⟨r, hr, e⟩ := List.mem_map.mp ha
        rw [List.mem_singleton.mp hb] at e
        have := (row r hr).2.2.2.1
        rw [e, w2] at this
        cases this
    refine List.Pairwise.imp_of_mem (fun {a b} ha hb hab => ?_) (hs.and nd)
    obtain ⟨h1, h2⟩ := hab
    obtain ⟨a1, a2, a3⟩ := hd_spec (tru a ha).1
    obtain ⟨b1, b2, b3⟩ := hd_spec (tru b hb).1
    by_cases z : hd a < hd b
    · exact z
    · exfalso
      have hne : hd a ≠ hd b := fun e => by
        have := red a ha b hb h2
        rw [e, b2] at this
        cases this
      have : ltW a b = true := ltW_hd (by rw [(tru a ha).2, (tru b hb).2]) (tru b hb).1 fun i hi => a3 i (by omega)
      rw [h1] at this
      cases this
  · rcases (mem_step hC hw).mp hv with hv | ⟨u, hu, rfl⟩
    · refine h.full v hv fun r hr => ?_
      have := hzv _ ((hmem _).mpr (.inl ⟨r, hr, rfl⟩))
      rw [(row r hr).2.1] at this
      exact this
    · exfalso
      -- v = u + w has a 0 at hd w, so u a 1; u has 0 at all heads of R: u is noughts
      have hul := hC.len u hu
      have z : u = zw n := by
        refine h.full u hu fun r hr => ?_
        have := hzv _ ((hmem _).mpr (.inl ⟨r, hr, rfl⟩))
        rw [(row r hr).2.1, bit_xw' hul hw, hz r hr] at this
        cases hb : bit u (hd r) with
        | false => rfl
        | true => rw [hb] at this; cases this
      have := hzv w ((hmem w).mpr (.inr rfl))
      rw [z, zw_xw hw, w2] at this
      cases this
end
theorem desk_nil (n : Nat) : Desk n [zw n] [] := ⟨fun r h => absurd h (by simp), List.Pairwise.nil, fun r h => absurd h (by simp), fun w hw _ => List.mem_singleton.mp hw⟩
end L2.PD

set_option Elab.async false
set_option linter.all false
set_option autoImplicit false
/-! WM1: sorting, the desk of words, the desk of a code's sorted list. -/
namespace L2.PD

theorem ltW_irrefl : ∀ a : Word, ltW a a = false
  | [] => rfl
  | x :: a => by unfold ltW; rw [if_pos rfl]; exact ltW_irrefl a
theorem ltW_trans : ∀ {a b c : Word}, ltW a b = true → ltW b c = true → ltW a c = true
  | [], [], c, h, _ => by cases h
  | [], _ :: _, [], _, h => by cases h
  | [], _ :: _, _ :: _, _, _ => rfl
  | _ :: _, [], _, h, _ => by cases h
  | _ :: _, _ :: _, [], _, h => by cases h
  | x :: a, y :: b, z :: c, h, h' => by
    unfold ltW at h h' ⊢
    split at h <;> split at h'
    · rename_i e e'
      rw [if_pos (e.trans e')]
      exact ltW_trans h h'
    · rename_i e e'
      subst e
      rw [if_neg e']
      exact h'
    · rename_i e e'
      subst e'
      rw [if_neg e]
      exact h
    · exfalso
      cases x <;> cases y <;> cases z <;> simp_all
theorem ltW_tri : ∀ (a b : Word), ltW a b = true ∨ a = b ∨ ltW b a = true
  | [], [] => .inr (.inl rfl)
  | [], _ :: _ => .inl rfl
  | _ :: _, [] => .inr (.inr rfl)
  | x :: a, y :: b => by
    unfold ltW
    by_cases e : x = y
    · subst e
      rw [if_pos rfl, if_pos rfl]
      rcases ltW_tri a b with h | h | h
      · exact .inl h
      · exact .inr (.inl (by rw [h]))
      · exact .inr (.inr h)
    · rw [if_neg e, if_neg fun z => e z.symm]
      cases x <;> cases y <;> simp_all
theorem ltW_asymm {a b : Word} (h : ltW a b = true) : ltW b a = false := by
  cases e : ltW b a with
  | false => rfl
  | true =>
    have := ltW_trans h e
    rw [ltW_irrefl] at this
    cases this
/-- rising, falling -/
def wLeA (a b : Word) : Bool := !ltW b a
def wLeD (a b : Word) : Bool := !ltW a b
theorem wLeA_trans (a b c : Word) (h : wLeA a b = true) (h' : wLeA b c = true) : wLeA a c = true := by
  unfold wLeA at *
  simp only [Bool.not_eq_true'] at *
  cases e : ltW c a with
  | false => rfl
  | true =>
    rcases ltW_tri b c with z | z | z
    · rw [ltW_trans z e] at h; cases h
    · subst z; rw [e] at h; cases h
    · rw [z] at h'; cases h'
theorem wLeA_total (a b : Word) : (wLeA a b || wLeA b a) = true := by
  unfold wLeA
  cases e : ltW b a with
  | false => rfl
  | true => rw [ltW_asymm e]; rfl
theorem wLeD_eq (a b : Word) : wLeD a b = wLeA b a := rfl
theorem wLeD_trans (a b c : Word) (h : wLeD a b = true) (h' : wLeD b c = true) : wLeD a c = true := wLeA_trans c b a h' h
theorem wLeD_total (a b : Word) : (wLeD a b || wLeD b a) = true := wLeA_total b a
def sortA (l : List Word) : List Word := l.mergeSort wLeA
def sortD (l : List Word) : List Word := l.mergeSort wLeD
theorem sortA_perm (l : List Word) : (sortA l).Perm l := List.mergeSort_perm l wLeA
theorem sortD_perm (l : List Word) : (sortD l).Perm l := List.mergeSort_perm l wLeD
theorem sortD_pw (l : List Word) : (sortD l).Pairwise fun a b => ltW a b = false := by
  have := List.pairwise_mergeSort wLeD_trans wLeD_total l
  exact this.imp fun {a b} h => by simpa [wLeD] using h
theorem sortA_pw (l : List Word) : (sortA l).Pairwise fun a b => ltW b a = false := by
  have := List.pairwise_mergeSort wLeA_trans wLeA_total l
  exact this.imp fun {a b} h => by simpa [wLeA] using h
/-- two rising lists of the same words are one -/
theorem rising_unique : ∀ {A B : List Word}, A.Pairwise (fun a b => ltW b a = false) → B.Pairwise (fun a b => ltW b a = false) → A.Nodup → B.Nodup → (∀ w, w ∈ A ↔ w ∈ B) → A = B
  | [], [], _, _, _, _, _ => rfl
  | [], b :: B, _, _, _, _, e => absurd ((e b).mpr List.mem_cons_self) (by simp)
  | a :: A, [], _, _, _, _, e => absurd ((e a).mp List.mem_cons_self) (by simp)
  | a :: A, b :: B, hA, hB, nA, nB, e => by
    rw [List.pairwise_cons] at hA hB
    rw [List.nodup_cons] at nA nB
    have hab : a = b := by
      rcases List.mem_cons.mp ((e a).mp List.mem_cons_self) with h | h
      · exact h
      · rcases List.mem_cons.mp ((e b).mpr List.mem_cons_self) with h' | h'
        · exact h'.symm
        · have h1 := hB.1 a h
          have h2 := hA.1 b h'
          rcases ltW_tri a b with z | z | z
          · rw [z] at h1; cases h1
          · exact z
          · rw [z] at h2; cases h2
    subst hab
    congr 1
    refine rising_unique hA.2 hB.2 nA.2 nB.2 fun w => ⟨fun hw => ?_, fun hw => ?_⟩
    · rcases List.mem_cons.mp ((e w).mp (List.mem_cons_of_mem _ hw)) with h | h
      · subst h; exact absurd hw nA.1
      · exact h
    · rcases List.mem_cons.mp ((e w).mpr (List.mem_cons_of_mem _ hw)) with h | h
      · subst h; exact absurd hw nB.1
      · exact h
theorem sortA_of {A B : List Word} (nA : A.Nodup) (hB : B.Pairwise fun a b => ltW b a = false) (nB : B.Nodup) (e : ∀ w, w ∈ A ↔ w ∈ B) : sortA A = B :=
  rising_unique (sortA_pw A) hB ((sortA_perm A).nodup_iff.mpr nA) nB fun w => by rw [(sortA_perm A).mem_iff]; exact e w

/-! ### the desk of words -/
def withWord (R : List Word) (w : Word) : List Word := if true ∈ lessRows w R then sortD (newRows R (lessRows w R)) else R
def deskRows (ws : List Word) : List Word := ws.foldl withWord []
section
variable {n : Nat} {C R : List Word}
theorem Desk.withWord (hC : IsCode n C) (h : Desk n C R) {w : Word} (hw : w.length = n) : Desk n (sprStep C w) (withWord R w) := by
  obtain ⟨h1, ⟨c, h2, h3⟩, h4⟩ := h.less hC hw
  have same : ∀ v, v ∈ sprStep C (lessRows w R) ↔ v ∈ sprStep C w := fun v => by
    rw [mem_step hC h1, mem_step hC hw]
    refine or_congr_right ⟨fun ⟨u, hu, e⟩ => ⟨xw u c, hC.add u hu c h2, ?_⟩, fun ⟨u, hu, e⟩ => ⟨xw u c, hC.add u hu c h2, ?_⟩⟩
    · rw [e, h3, xw_assoc (hC.len u hu) (hC.len c h2) hw, xw_comm hw (hC.len c h2)]
    · rw [e, h3, xw_assoc (hC.len u hu) (hC.len c h2) (xw_len hw (hC.len c h2)), xw_comm hw (hC.len c h2), ← xw_assoc (hC.len c h2) (hC.len c h2) hw, xw_self (hC.len c h2), zw_xw hw]
  unfold L2.PD.withWord
  split
  · rename_i ht
    exact (h.insert hC h1 ht h4 (sortD_perm _) (sortD_pw _)).congr same
  · rename_i ht
    have z := zw_of h1 ht
    have : w ∈ C := (h.has hC hw).mpr z
    refine h.congr fun v => ?_
    unfold sprStep
    rw [if_pos this]
theorem desk_fold : ∀ (L : List Word) (C R : List Word), (∀ w ∈ L, w.length = n) → IsCode n C → Desk n C R → Desk n (L.foldl sprStep C) (L.foldl L2.PD.withWord R)
  | [], _, _, _, _, h => h
  | w :: L, C, R, hl, hC, h => desk_fold L _ _ (fun v hv => hl v (List.mem_cons_of_mem _ hv)) (hC.step (hl w List.mem_cons_self)) (h.withWord hC (hl w List.mem_cons_self))
theorem desk_of {L : List Word} (hl : ∀ w ∈ L, w.length = n) : Desk n (spr n L) (deskRows L) := desk_fold L _ _ hl (code_zw n) (desk_nil n)
/-- the code of a desk's rows is the code -/
theorem Desk.spr (hC : IsCode n C) (h : Desk n C R) : ∀ w, w ∈ L2.PD.spr n R ↔ w ∈ C := fun w => by
  have hl := h.len hC
  have hS := spr_code hl
  refine ⟨spr_least hC (fun r hr => (h.mem r hr).1) w, fun hw => ?_⟩
  -- what is left of w is noughts: w is a sum of rows
  have hwl := hC.len w hw
  obtain ⟨c, h1, h2⟩ := less_code hS hwl fun r hr => spr_mem hl r hr
  rw [(h.has hC hwl).mp hw] at h2
  rw [xw_eq_zw hwl (hS.len c h1) h2.symm]
  exact h1
end

/-! ### the desk read off a code's list -/
def headsOf (n : Nat) (S : List Word) : List Nat := (List.range n).filter fun p => S.any fun w => decide (true ∈ w) && (hd w == p)
def pat (hs : List Nat) (k : Nat) : List Bool := (List.range hs.length).map fun j => j == k
def rowsL (n : Nat) (S : List Word) : List Word := (List.range (headsOf n S).length).flatMap fun k => S.filter fun w => (headsOf n S).map (bit w) == pat (headsOf n S) k
section
variable {n : Nat} {S : List Word}
theorem mem_heads (hC : IsCode n S) {p : Nat} : p ∈ headsOf n S ↔ ∃ w ∈ S, true ∈ w ∧ hd w = p := by
  unfold headsOf
  rw [List.mem_filter, List.any_eq_true]
  simp only [Bool.and_eq_true, decide_eq_true_eq, beq_iff_eq]
  refine ⟨fun ⟨_, w, h1, h2, h3⟩ => ⟨w, h1, h2, h3⟩, fun ⟨w, h1, h2, h3⟩ => ⟨?_, w, h1, h2, h3⟩⟩
  rw [List.mem_range, ← h3, ← hC.len w h1]
  exact (hd_spec h2).1
theorem heads_inc (n : Nat) (S : List Word) : (headsOf n S).Pairwise (· < ·) := (List.pairwise_lt_range).filter _
theorem pat_iff {hs : List Nat} {k : Nat} {w : Word} : (hs.map (bit w) == pat hs k) = true ↔ ∀ j (h : j < hs.length), bit w hs[j] = decide (j = k) := by
  rw [beq_iff_eq]
  refine ⟨fun e j h => ?_, fun e => List.ext_getElem (by simp [pat]) fun j h1 h2 => ?_⟩
  · have := congrArg (fun l => l[j]?) e
    simp [pat, h] at this
    rw [this]
    by_cases z : j = k <;> simp [z]
  · have h1' : j < hs.length := by simpa using h1
    have := e j h1'
    simp [pat, this]
    by_cases z : j = k <;> simp [z]
/-- a word of the code whose bits at the heads are all 0 is noughts -/
theorem heads_zero (hC : IsCode n S) {w : Word} (hw : w ∈ S) (h : ∀ p ∈ headsOf n S, bit w p = false) : w = zw n := by
  by_cases ht : true ∈ w
  · have := h (hd w) ((mem_heads hC).mpr ⟨w, hw, ht, rfl⟩)
    rw [(hd_spec ht).2.1] at this
    cases this
  · exact zw_of (hC.len w hw) ht
/-- for a word of the code there is one with the same head and no other 1 at the heads -/
theorem heads_red (hC : IsCode n S) : ∀ (m : Nat) {w : Word}, w ∈ S → true ∈ w → n ≤ m + hd w + 1 → ∃ v ∈ S, hd v = hd w ∧ true ∈ v ∧ ∀ p ∈ headsOf n S, p ≠ hd w → bit v p = false := by
  -- clear the later heads, the first of them last: by induction on where they start
  have step : ∀ (k : Nat) (w : Word), w ∈ S → true ∈ w → ∃ v ∈ S, hd v = hd w ∧ true ∈ v ∧ ∀ p ∈ headsOf n S, p ≠ hd w → p < k → bit v p = false := by
    intro k
    induction k with
    | zero => exact fun w hw ht => ⟨w, hw, rfl, ht, fun p _ _ h => absurd h (Nat.not_lt_zero _)⟩
    | succ k ih =>
      intro w hw ht
      obtain ⟨v, hv, h1, h2, h3⟩ := ih w hw ht
      by_cases hc : k ∈ headsOf n S ∧ k ≠ hd w ∧ bit v k = true
      · obtain ⟨c1, c2, c3⟩ := hc
        obtain ⟨u, hu, u1, u2⟩ := (mem_heads hC).mp c1
        obtain ⟨v1, v2, v3⟩ := hd_spec h2
        obtain ⟨q1, q2, q3⟩ := hd_spec u1
        have hlt : hd v < k := by
          by_cases z : k < hd v
          · rw [v3 k z] at c3; cases c3
          · have : hd v ≠ k := fun z => c2 (by rw [← z, h1])
            omega
        have hvl := hC.len v hv
        have hul := hC.len u hu
        obtain ⟨e1, e2⟩ := hd_eq (w := xw v u) (h := hd v) (by rw [bit_xw' hvl hul, v2, q3 _ (by omega)]; rfl) fun i hi => by rw [bit_xw' hvl hul, v3 i hi, q3 i (by omega)]; rfl
        refine ⟨xw v u, hC.add v hv u hu, by rw [e1, h1], e2, fun p hp hne hpk => ?_⟩
        rw [bit_xw' hvl hul]
        by_cases z : p = k
        · subst z; rw [c3, ← u2, q2]; rfl
        · rw [h3 p hp hne (by omega), q3 p (by omega)]; rfl
      · refine ⟨v, hv, h1, h2, fun p hp hne hpk => ?_⟩
        by_cases z : p = k
        · subst z
          cases e : bit v p with
          | false => rfl
          | true => exact absurd ⟨hp, hne, e⟩ hc
        · exact h3 p hp hne (by omega)
  intro m w hw ht _
  obtain ⟨v, h1, h2, h3, h4⟩ := step n w hw ht
  refine ⟨v, h1, h2, h3, fun p hp hne => h4 p hp hne ?_⟩
  obtain ⟨u, hu, u1, u2⟩ := (mem_heads hC).mp hp
  rw [← u2, ← hC.len u hu]
  exact (hd_spec u1).1
theorem rows_k (hC : IsCode n S) (k : Nat) (hk : k < (headsOf n S).length) : ∃ v ∈ S, (S.filter fun w => (headsOf n S).map (bit w) == pat (headsOf n S) k) = [v] ∧ hd v = (headsOf n S)[k] ∧ true ∈ v ∧ ∀ j (h : j < (headsOf n S).length), bit v (headsOf n S)[j] = decide (j = k) := by
  have hm := List.getElem_mem hk
  obtain ⟨w, hw, ht, hh⟩ := (mem_heads hC).mp hm
  obtain ⟨v, hv, h1, h2, h3⟩ := heads_red hC n hw ht (by omega)
  have inj : ∀ j (h : j < (headsOf n S).length), (headsOf n S)[j] = (headsOf n S)[k] → j = k := fun j h e => by
    have pw := heads_inc n S
    rw [List.pairwise_iff_getElem] at pw
    by_cases z : j < k
    · have := pw j k h hk z; omega
    · by_cases z' : k < j
      · have := pw k j hk h z'; omega
      · omega
  have hbit : ∀ j (h : j < (headsOf n S).length), bit v (headsOf n S)[j] = decide (j = k) := fun j h => by
    by_cases z : j = k
    · subst z
      rw [← hh, ← h1, (hd_spec h2).2.1]
      simp
    · rw [h3 _ (List.getElem_mem h) fun e => z (inj j h (by rw [e, hh]))]
      simp [z]
  refine ⟨v, hv, ?_, by rw [h1, hh], h2, hbit⟩
  have uniq : ∀ u ∈ S, ((headsOf n S).map (bit u) == pat (headsOf n S) k) = true → u = v := fun u hu e => by
    have hu' := pat_iff.mp e
    refine xw_eq_zw (hC.len u hu) (hC.len v hv) (heads_zero hC (hC.add u hu v hv) fun p hp => ?_)
    obtain ⟨j, hj, rfl⟩ := List.getElem_of_mem hp
    rw [bit_xw' (hC.len u hu) (hC.len v hv), hu' j hj, hbit j hj]
    cases decide (j = k) <;> rfl
  have hin : v ∈ S.filter fun w => (headsOf n S).map (bit w) == pat (headsOf n S) k := List.mem_filter.mpr ⟨hv, pat_iff.mpr hbit⟩
  have nd := hC.nd.filter fun w => (headsOf n S).map (bit w) == pat (headsOf n S) k
  have all : ∀ u ∈ S.filter (fun w => (headsOf n S).map (bit w) == pat (headsOf n S) k), u = v := fun u hu => uniq u (List.mem_filter.mp hu).1 (List.mem_filter.mp hu).2
  generalize S.filter (fun w => (headsOf n S).map (bit w) == pat (headsOf n S) k) = l at hin nd all
  match l, hin, nd, all with
  | [x], _, _, all => rw [all x List.mem_cons_self]
  | x :: y :: l, _, nd, all =>
    exfalso
    exact (List.nodup_cons.mp nd).1 (by rw [all x List.mem_cons_self, all y (List.mem_cons_of_mem _ List.mem_cons_self)]; exact List.mem_cons_self)
theorem rows_list (hC : IsCode n S) : ∃ f : Nat → Word, rowsL n S = (List.range (headsOf n S).length).map f ∧ ∀ k (hk : k < (headsOf n S).length), f k ∈ S ∧ hd (f k) = (headsOf n S)[k] ∧ true ∈ f k ∧ ∀ j (h : j < (headsOf n S).length), bit (f k) (headsOf n S)[j] = decide (j = k) := by
  have ch : ∀ k, ∃ v, k < (headsOf n S).length → v ∈ S ∧ (S.filter fun w => (headsOf n S).map (bit w) == pat (headsOf n S) k) = [v] ∧ hd v = (headsOf n S)[k]! ∧ true ∈ v ∧ ∀ j (h : j < (headsOf n S).length), bit v (headsOf n S)[j] = decide (j = k) := fun k => by
    by_cases hk : k < (headsOf n S).length
    · obtain ⟨v, h1, h2, h3, h4, h5⟩ := rows_k hC k hk
      exact ⟨v, fun _ => ⟨h1, h2, by rw [h3]; simp [hk], h4, h5⟩⟩
    · exact ⟨[], fun h => absurd h hk⟩
  refine ⟨fun k => (ch k).choose, ?_, fun k hk => ?_⟩
  · unfold rowsL
    have key : ∀ l : List Nat, (∀ k ∈ l, k < (headsOf n S).length) → (l.flatMap fun k => S.filter fun w => (headsOf n S).map (bit w) == pat (headsOf n S) k) = l.map fun k => (ch k).choose := by
      intro l
      induction l with
      | nil => intro _; rfl
      | cons k l ih =>
        intro h
        have e1 := ((ch k).choose_spec (h k List.mem_cons_self)).2.1
        have e2 := ih fun j hj => h j (List.mem_cons_of_mem _ hj)
        rw [List.flatMap_cons, List.map_cons, e2]
        exact congrArg (· ++ _) e1
    exact key _ fun k hk => List.mem_range.mp hk
  · obtain ⟨h1, h2, h3, h4, h5⟩ := (ch k).choose_spec hk
    exact ⟨h1, by rw [h3]; simp [hk], h4, h5⟩
theorem rows_desk (hC : IsCode n S) : Desk n S (rowsL n S) := by
  obtain ⟨f, e, hf⟩ := rows_list hC
  rw [e]
  have mem : ∀ r, r ∈ (List.range (headsOf n S).length).map f ↔ ∃ k, k < (headsOf n S).length ∧ r = f k := fun r => by
    rw [List.mem_map]
    exact ⟨fun ⟨k, h1, h2⟩ => ⟨k, List.mem_range.mp h1, h2.symm⟩, fun ⟨k, h1, h2⟩ => ⟨k, List.mem_range.mpr h1, h2.symm⟩⟩
  refine ⟨fun r hr => ?_, ?_, fun r hr r' hr' ne => ?_, fun w hw h => heads_zero hC hw fun p hp => ?_⟩
  · obtain ⟨k, hk, rfl⟩ := (mem r).mp hr
    exact ⟨(hf k hk).1, (hf k hk).2.2.1⟩
  · rw [List.pairwise_map]
    refine List.Pairwise.imp_of_mem (fun {a b} ha hb hab => ?_) (List.pairwise_lt_range (n := (headsOf n S).length))
    have ha' := List.mem_range.mp ha
    have hb' := List.mem_range.mp hb
    rw [(hf a ha').2.1, (hf b hb').2.1]
    exact (List.pairwise_iff_getElem.mp (heads_inc n S)) a b ha' hb' hab
  · obtain ⟨k, hk, rfl⟩ := (mem r).mp hr
    obtain ⟨k', hk', rfl⟩ := (mem r').mp hr'
    rw [(hf k hk).2.1, (hf k' hk').2.2.2 k hk]
    have : k ≠ k' := fun z => ne (by rw [z])
    simp [this]
  · obtain ⟨j, hj, rfl⟩ := List.getElem_of_mem hp
    have := h (f j) ((mem _).mpr ⟨j, hj, rfl⟩)
    rw [(hf j hj).2.1] at this
    exact this
end
end L2.PD

set_option Elab.async false
set_option linter.all false
set_option autoImplicit false
set_option maxRecDepth 100000
/-! Ty0: words as lists of bits; evaluation lemmas for the combinators. -/
namespace L2.PD
open PySem L2

/-! ### the combinators, applied -/
section
variable {ρ : Rho} {i j : Nat} {f g h : Rho → R PyData} {c c' : Rho → R Bool} {ga : Rho → R (List PyData)} {o o' : PyData → PyData → R PyData} {u : PyData → R PyData} {d : PyData} {s s' : Rho → R Out} {lo hi : Rho → R (Option Int)}
@[simp] theorem e_name : fName i ρ = (match ρ[i]? with | some (some (.fz d)) => .ok d | _ => .no) := id rfl
@[simp] theorem e_C : fC d ρ = .ok d := id rfl
@[simp] theorem e_2 : f2 o f g ρ = (f ρ).bind fun x => (g ρ).bind fun y => o x y := id rfl
@[simp] theorem e_1 : f1 u f ρ = (f ρ).bind u := id rfl
@[simp] theorem e_B : fB f ρ = (f ρ).bind boolOf := id rfl
@[simp] theorem e_boolOf {b : Bool} : boolOf (.bool b) = .ok b := id rfl
@[simp] theorem e_Tru : fTru f ρ = (f ρ).bind truD := id rfl
@[simp] theorem e_And : fAnd c c' ρ = (c ρ).bind fun b => if b = true then c' ρ else .ok false := id rfl
@[simp] theorem e_Or : fOr c c' ρ = (c ρ).bind fun b => if b = true then .ok true else c' ρ := id rfl
@[simp] theorem e_Not : fNot c ρ = (c ρ).bind fun b => .ok (!b) := id rfl
@[simp] theorem e_AndV : fAndV f g ρ = (f ρ).bind fun x => (boolOf x).bind fun b => if b = true then g ρ else .ok (.bool false) := id rfl
@[simp] theorem e_OrV : fOrV f g ρ = (f ρ).bind fun x => (boolOf x).bind fun b => if b = true then .ok (.bool true) else g ρ := id rfl
@[simp] theorem e_NotV : fNotV f ρ = (f ρ).bind fun x => (boolOf x).bind fun b => .ok (.bool (!b)) := id rfl
@[simp] theorem e_If : fIf c f g ρ = (c ρ).bind fun b => if b = true then f ρ else g ρ := id rfl
@[simp] theorem e_Chain : fChain o o' f g h ρ = (f ρ).bind fun x => (g ρ).bind fun y => (o x y).bind fun z => (boolOf z).bind fun k => if k = true then (h ρ).bind fun w => o' y w else .ok (.bool false) := id rfl
@[simp] theorem e_aNil : aNil ρ = .ok [] := id rfl
@[simp] theorem e_aCons : aCons f ga ρ = (f ρ).bind fun d => (ga ρ).bind fun ds => .ok (d :: ds) := id rfl
@[simp] theorem e_Tup : fTup ga ρ = (ga ρ).bind fun ds => guard (decide (ds.length ≤ LIM)) (.ok (.tuple ds)) := id rfl
@[simp] theorem e_Lst : fLst ga ρ = (ga ρ).bind fun ds => guard (decide (ds.length ≤ LIM)) (.ok (.list ds)) := id rfl
@[simp] theorem e_Call {m : List PyData → R PyData} : fCall m ga ρ = (ga ρ).bind m := id rfl
@[simp] theorem e_one : one u [d] = u d := id rfl
@[simp] theorem e_Seq : sSeq s s' ρ = (s ρ).bind fun o => match o with | .nx ρ' => s' ρ' | o => .ok o := id rfl
@[simp] theorem e_Nil : sNil ρ = .ok (.nx ρ) := id rfl
@[simp] theorem e_Set : sSet i f ρ = (f ρ).bind fun d => .ok (.nx (ρ.set i (some (.fz d)))) := id rfl
@[simp] theorem e_SetO : sSetO i f ρ = (f ρ).bind fun d => (listOf d).bind fun ds => .ok (.nx (ρ.set i (some (.ow ds)))) := id rfl
@[simp] theorem e_listOf {ds : List PyData} : listOf (.list ds) = .ok ds := id rfl
@[simp] theorem e_sIf : sIf c s s' ρ = (c ρ).bind fun b => if b = true then s ρ else s' ρ := id rfl
@[simp] theorem e_Ret : sRet f ρ = (f ρ).bind fun d => .ok (.ret d) := id rfl
@[simp] theorem e_Drop : sDrop f ρ = (f ρ).bind fun _ => .ok (.nx ρ) := id rfl
@[simp] theorem e_No : sNo ρ = .no := id rfl
@[simp] theorem e_App : sApp i f ρ = (owOf ρ i).bind fun ds => (f ρ).bind fun d => guard (decide (ds.length < LIM)) (.ok (.nx (ρ.set i (some (.ow (ds ++ [d])))))) := id rfl
@[simp] theorem e_Ext : sExt i f ρ = (owOf ρ i).bind fun ds => (f ρ).bind fun d => (listOf d).bind fun es => guard (decide (ds.length + es.length ≤ LIM)) (.ok (.nx (ρ.set i (some (.ow (ds ++ es)))))) := id rfl
@[simp] theorem e_Put {fk fv : Rho → R PyData} : sPut i fk fv ρ = (owOf ρ i).bind fun ds => (fv ρ).bind fun v => (fk ρ).bind fun k => (intOf k).bind fun n => match ixN ds.length n with
  | some j => .ok (.nx (ρ.set i (some (.ow (ds.set j v)))))
  | none => .no := id rfl
@[simp] theorem e_owOf : owOf ρ i = (match ρ[i]? with | some (some (.ow ds)) => .ok ds | _ => .no) := id rfl
@[simp] theorem e_Fz : sFz i s ρ = (match ρ[i]? with
  | some (some (.ow ds)) => s (ρ.set i (some (.fz (.list ds))))
  | some (some (.od ds)) => s (ρ.set i (some (.fz (.dict ds))))
  | _ => .no) := id rfl
@[simp] theorem e_OwnIx : fOwnIx i f ρ = (match ρ[i]? with
  | some (some (.ow ds)) => (f ρ).bind fun k => ixD (.list ds) k
  | _ => .no) := id rfl
@[simp] theorem e_OwnLen : fOwnLen i ρ = (match ρ[i]? with
  | some (some (.ow ds)) => .ok (.int ds.length)
  | _ => .no) := id rfl
@[simp] theorem e_intOf {n : Int} : intOf (.int n) = .ok n := id rfl
@[simp] theorem e_oNo : oNo ρ = .ok none := id rfl
@[simp] theorem e_oSome : oSome f ρ = (f ρ).bind fun d => (intOf d).bind fun i => .ok (some i) := id rfl
@[simp] theorem e_Sl : fSl f lo hi ρ = (f ρ).bind fun d => (lo ρ).bind fun l => (hi ρ).bind fun h => slD d l h := id rfl
@[simp] theorem e_Set2 : sSet2 i j f ρ = (f ρ).bind fun d => (pairOf d).bind fun p => .ok (.nx (st2 i j p ρ)) := id rfl
@[simp] theorem e_For {α : Type} {fi : Rho → R (List α)} {st : α → Rho → Rho} : sFor fi st s ρ = (fi ρ).bind fun items => forGo st s items ρ := id rfl
@[simp] theorem e_Lc {α : Type} {fi : Rho → R (List α)} {st : α → Rho → Rho} {own : List Nat} {ft : Rho → R Bool} : fLc fi st own ft f ρ = (fi ρ).bind fun items => (lcGo st ft f (wipeR ρ own) items).bind fun ds => .ok (.list ds) := id rfl
@[simp] theorem e_Arg {α : Type} {o : List PyData → R (List α)} : iArg o ga ρ = (ga ρ).bind o := id rfl
@[simp] theorem e_iSeq : iSeq f ρ = (f ρ).bind seqD := id rfl
@[simp] theorem e_seqL {ds : List PyData} : seqD (.list ds) = .ok ds := id rfl
@[simp] theorem e_seqT {ds : List PyData} : seqD (.tuple ds) = .ok ds := id rfl
@[simp] theorem e_stN : stN i d ρ = ρ.set i (some (.fz d)) := id rfl
@[simp] theorem e_st2 {p : PyData × PyData} : st2 i j p ρ = (ρ.set i (some (.fz p.1))).set j (some (.fz p.2)) := id rfl
@[simp] theorem e_wipe1 : wipeR ρ [i] = ρ.set i none := id rfl
@[simp] theorem e_wipe2 : wipeR ρ [i, j] = (ρ.set j none).set i none := id rfl
@[simp] theorem e_guard {α : Type} {r : R α} : guard true r = r := id rfl
@[simp] theorem e_isi_i {p : PyData → Bool} {n : Int} : isiD p (.int n) = .ok (.bool (p (.int n))) := id rfl
@[simp] theorem e_add {a b : Int} : addD (.int a) (.int b) = .ok (.int (a + b)) := id rfl
@[simp] theorem e_sub {a b : Int} : subD (.int a) (.int b) = .ok (.int (a - b)) := id rfl
@[simp] theorem e_lt {a b : Int} : ltD (.int a) (.int b) = .ok (.bool (decide (a < b))) := id rfl
@[simp] theorem e_le {a b : Int} : leD (.int a) (.int b) = .ok (.bool (decide (a ≤ b))) := id rfl
@[simp] theorem e_gt {a b : Int} : gtD (.int a) (.int b) = .ok (.bool (decide (b < a))) := id rfl
@[simp] theorem e_ge {a b : Int} : geD (.int a) (.int b) = .ok (.bool (decide (b ≤ a))) := id rfl
@[simp] theorem e_eqI {a b : Int} : eqD (.int a) (.int b) = .ok (.bool (a == b)) := id rfl
@[simp] theorem e_neI {a b : Int} : neD (.int a) (.int b) = .ok (.bool (!(a == b))) := id rfl
@[simp] theorem e_eqB {a b : Bool} : eqD (.bool a) (.bool b) = .ok (.bool (a == b)) := id rfl
@[simp] theorem e_neB {a b : Bool} : neD (.bool a) (.bool b) = .ok (.bool (!(a == b))) := id rfl
@[simp] theorem e_lenL {a : List PyData} : lenD (.list a) = .ok (.int a.length) := id rfl
@[simp] theorem e_lenT {a : List PyData} : lenD (.tuple a) = .ok (.int a.length) := id rfl
@[simp] theorem e_tupL {a : List PyData} : tupleD (.list a) = .ok (.tuple a) := id rfl
@[simp] theorem e_tupT {a : List PyData} : tupleD (.tuple a) = .ok (.tuple a) := id rfl
@[simp] theorem e_lstL {a : List PyData} : listD (.list a) = .ok (.list a) := id rfl
@[simp] theorem e_lstT {a : List PyData} : listD (.tuple a) = .ok (.list a) := id rfl
@[simp] theorem e_intB {b : Bool} : intD (.bool b) = .ok (.int (if b then 1 else 0)) := id rfl
@[simp] theorem e_intI {n : Int} : intD (.int n) = .ok (.int n) := id rfl
@[simp] theorem e_truB {b : Bool} : truD (.bool b) = .ok b := id rfl
@[simp] theorem e_truL {a : List PyData} : truD (.list a) = .ok (!a.isEmpty) := id rfl
@[simp] theorem e_truT {a : List PyData} : truD (.tuple a) = .ok (!a.isEmpty) := id rfl
end
theorem run1 {n : Nat} {b : Rho → R Out} {x : PyData} : run 1 n b [x] = (b (some (.fz x) :: List.replicate (n - 1) none)).bind fun o => match o with | .ret d => .ok d | .nx _ => .ok .none | _ => .no := id rfl
theorem run2 {n : Nat} {b : Rho → R Out} {x y : PyData} : run 2 n b [x, y] = (b (some (.fz x) :: some (.fz y) :: List.replicate (n - 2) none)).bind fun o => match o with | .ret d => .ok d | .nx _ => .ok .none | _ => .no := id rfl
theorem run3 {n : Nat} {b : Rho → R Out} {x y z : PyData} : run 3 n b [x, y, z] = (b (some (.fz x) :: some (.fz y) :: some (.fz z) :: List.replicate (n - 3) none)).bind fun o => match o with | .ret d => .ok d | .nx _ => .ok .none | _ => .no := id rfl

def dB (b : Bool) : PyData := .int (if b then 1 else 0)
def dW (w : Word) : PyData := .tuple (w.map dB)
def dWs (ws : List Word) : List PyData := ws.map dW
def dDesk (n : Nat) (rows : List Word) : PyData := .tuple [.int n, .tuple (dWs rows)]

theorem eqv_dB (a b : Bool) : PyData.eqv (dB a) (dB b) = (a == b) := by cases a <;> cases b <;> rfl

/-! ### comprehensions and loops over lists of images -/
theorem lcGo_map {α β : Type} {st : α → Rho → Rho} {ft : Rho → R Bool} {fe : Rho → R PyData} {ρ : Rho} (e : β → α) (p : β → Bool) (g : β → PyData) : ∀ (l : List β),
    (∀ x ∈ l, ft (st (e x) ρ) = .ok (p x) ∧ (p x = true → fe (st (e x) ρ) = .ok (g x))) → lcGo st ft fe ρ (l.map e) = .ok ((l.filter p).map g)
  | [], _ => rfl
  | x :: l, h => by
    obtain ⟨h1, h2⟩ := h x List.mem_cons_self
    have ih := lcGo_map e p g l fun y hy => h y (List.mem_cons_of_mem _ hy)
    rw [List.map_cons]
    unfold lcGo
    rw [h1, R.bind_ok, ih]
    cases hp : p x with
    | true => rw [if_pos rfl, h2 hp, R.bind_ok, R.bind_ok, List.filter_cons_of_pos hp, List.map_cons]
    | false => rw [if_neg Bool.false_ne_true, List.filter_cons_of_neg (by rw [hp]; exact Bool.false_ne_true)]
theorem lcGo_all {α β : Type} {st : α → Rho → Rho} {fe : Rho → R PyData} {ρ : Rho} (e : β → α) (g : β → PyData) (l : List β) (h : ∀ x ∈ l, fe (st (e x) ρ) = .ok (g x)) : lcGo st fYes fe ρ (l.map e) = .ok (l.map g) := by
  rw [lcGo_map e (fun _ => true) g l fun x hx => ⟨rfl, fun _ => h x hx⟩, List.filter_eq_self.mpr fun _ _ => rfl]
/-- a loop that stores a state s, told by P -/
theorem forGo_fold {α β S : Type} {st : α → Rho → Rho} {fb : Rho → R Out} (e : β → α) (P : S → Rho → Prop) (f : S → β → S) : ∀ (l : List β) (s : S) (ρ : Rho),
    (∀ x ∈ l, ∀ s ρ, P s ρ → ∃ ρ', fb (st (e x) ρ) = .ok (.nx ρ') ∧ P (f s x) ρ') → P s ρ → ∃ ρ', forGo st fb (l.map e) ρ = .ok (.nx ρ') ∧ P (l.foldl f s) ρ'
  | [], s, ρ, _, h => ⟨ρ, rfl, h⟩
  | x :: l, s, ρ, hs, h => by
    obtain ⟨ρ1, h1, h2⟩ := hs x List.mem_cons_self s ρ h
    obtain ⟨ρ2, h3, h4⟩ := forGo_fold e P f l (f s x) ρ1 (fun y hy => hs y (List.mem_cons_of_mem _ hy)) h2
    refine ⟨ρ2, ?_, h4⟩
    rw [List.map_cons]
    unfold forGo
    rw [h1, R.bind_ok]
    exact h3

theorem zip_map_dB (a b : Word) : (a.map dB).zip (b.map dB) = (a.zip b).map fun p => (dB p.1, dB p.2) := by
  rw [List.zip_map]
  rfl
theorem zipmap {α β γ : Type} (f : α → β → γ) : ∀ (a : List α) (b : List β), (a.zip b).map (fun p => f p.1 p.2) = List.zipWith f a b
  | [], _ => rfl
  | _ :: _, [] => rfl
  | x :: a, y :: b => by rw [List.zip_cons_cons, List.map_cons, zipmap f a b]; rfl
theorem dW_xw (a b : Word) : PyData.tuple ((a.zip b).map fun p => dB (p.1 != p.2)) = dW (xw a b) := by
  unfold dW xw
  rw [← zipmap, List.map_map]
  rfl
@[simp] theorem e_zipW (a b : Word) : zipBD [dW a, dW b] = .ok ((a.zip b).map fun p => (dB p.1, dB p.2)) := by
  show R.ok _ = _
  rw [zip_map_dB]
theorem t_plus (a b : Word) : m_plus [dW a, dW b] = .ok (dW (xw a b)) := by
  unfold m_plus b_plus
  rw [run2]
  simp only [e_Ret, e_Call, e_aCons, e_aNil, e_Lc, e_Arg, e_name, List.getElem?_cons_zero, List.getElem?_cons_succ, R.bind_ok, e_zipW]
  rw [lcGo_all (fun p : Bool × Bool => (dB p.1, dB p.2)) (fun p => dB (p.1 != p.2)) _ fun p _ => by
    obtain ⟨x, y⟩ := p
    simp
    cases x <;> cases y <;> rfl]
  simp [dW_xw]

/-! ### the script's readings -/
def cell (ns : List Int) (k : Nat) : Int := ns.getD k 0
theorem t_law_cell (ns : List Int) (k : Nat) (hn : ns.length ≤ 63) : m_law_cell [scrD ns, .int k] = .ok (.int (cell ns k)) := by
  unfold m_law_cell b_law_cell
  rw [run2]
  have hl : lenD (scrD ns) = .ok (.int ns.length) := by
    show R.ok (PyData.int _) = _
    rw [List.length_map]
  by_cases h : k < ns.length
  · have hx : ixD (scrD ns) (.int k) = .ok (.int (cell ns k)) := by
      show (match atI (ns.map PyData.int) (k : Int) with | some d => R.ok d | none => .no) = _
      have := atI_nat (xs := ns.map PyData.int) (j := k) (v := .int (cell ns k)) (by simp [cell, h])
      rw [this]
    simp [hl, hx, h]
  · simp [hl, h, cell]
end L2.PD

set_option Elab.async false
set_option linter.all false
set_option autoImplicit false
set_option maxRecDepth 100000
/-! Ty1: what the laws draw from the script. -/
namespace L2.PD
open PySem L2

def mix (c p m : Int) : Int := c * 48271 % p % m
@[simp] theorem e_mod {a b : Int} : modD (.int a) (.int b) = guard (decide (0 < b)) (.ok (.int (a % b))) := id rfl
@[simp] theorem e_fdiv {a b : Int} : fdivD (.int a) (.int b) = guard (decide (0 < b ∧ b < 1073741824)) (.ok (.int (a / b))) := id rfl
@[simp] theorem e_mul {a b : Int} : mulD (.int a) (.int b) = guard (mulOk a b) (.ok (.int (a * b))) := id rfl
theorem t_law_mix (c p m : Int) (hp : 0 < p) (hm : 0 < m) : m_law_mix [.int c, .int p, .int m] = .ok (.int (mix c p m)) := by
  unfold m_law_mix b_law_mix
  rw [run3]
  have g : ∀ x : Int, mulOk x 48271 = true := fun x => mulOk_r (by decide)
  simp [hp, hm, mix, g]
def large (ns : List Int) : Bool := mix (cell ns 0 + 7 * ns.length) 9871 8 == 3
theorem len_scr (ns : List Int) : lenD (scrD ns) = .ok (.int ns.length) := by
  show R.ok (PyData.int _) = _
  rw [List.length_map]
theorem t_law_large (ns : List Int) (hn : ns.length ≤ 63) : m_law_large [scrD ns] = .ok (.bool (large ns)) := by
  unfold m_law_large b_law_large
  rw [run1]
  have h0 := t_law_cell ns 0 hn
  simp at h0
  have g : ∀ x : Int, mulOk 7 x = true := fun x => mulOk_l (by decide)
  simp [h0, len_scr, t_law_mix, large, g]
def wordL (c : Int) (n : Nat) : Word := (List.range n).map fun k : Nat => mix (c + 17 * (k : Int) * k) 9973 2 == 1
theorem dB_mix (c : Int) : PyData.int (mix c 9973 2) = dB (mix c 9973 2 == 1) := by
  unfold dB
  have h1 := Int.emod_nonneg (c * 48271 % 9973) (show (2 : Int) ≠ 0 by decide)
  have h2 := Int.emod_lt_of_pos (c * 48271 % 9973) (show (0 : Int) < 2 by decide)
  have h : mix c 9973 2 = 0 ∨ mix c 9973 2 = 1 := by
    unfold mix
    omega
  rcases h with h | h <;> rw [h] <;> rfl
theorem t_law_word (c : Int) (n : Nat) (hn : n ≤ 1000) : m_law_word [.int c, .int n] = .ok (dW (wordL c n)) := by
  unfold m_law_word b_law_word
  rw [run2]
  have hr : rng1D [.int (n : Int)] = .ok ((List.range n).map fun k : Nat => PyData.int (k : Int)) := by
    show guard _ (R.ok (rangeD 0 _)) = _
    rw [guard_t (decide_eq_true (by omega))]
    simp [rangeD]
  simp only [e_Ret, e_Call, e_aCons, e_aNil, e_Lc, e_Arg, e_name, List.getElem?_cons_zero, List.getElem?_cons_succ, R.bind_ok, hr]
  rw [lcGo_all (fun k : Nat => PyData.int (k : Int)) (fun k : Nat => dB (mix (c + 17 * (k : Int) * k) 9973 2 == 1)) _ fun k hk => by
    have hk' := List.mem_range.mp hk
    have g1 : mulOk 17 (k : Int) = true := mulOk_l (by decide)
    have g2 : mulOk (17 * (k : Int)) (k : Int) = true := mulOk_r (by omega)
    simp [t_law_mix, dB_mix, g1, g2]]
  simp [wordL, dW]
theorem wordL_length (c : Int) (n : Nat) : (wordL c n).length = n := by simp [wordL]
def sizeL (ns : List Int) (at_ : Nat) : Nat := (1 + cell ns at_ % (if large ns then 8 else 6)).toNat
theorem sizeL_bd (ns : List Int) (a : Nat) : 1 ≤ sizeL ns a ∧ sizeL ns a ≤ 8 := by
  unfold sizeL
  split <;> omega
theorem sizeL_int (ns : List Int) (a : Nat) : ((sizeL ns a : Nat) : Int) = 1 + cell ns a % (if large ns then 8 else 6) := by
  unfold sizeL
  split <;> omega
theorem t_law_size (ns : List Int) (a : Nat) (hn : ns.length ≤ 63) : m_law_size [scrD ns, .int a] = .ok (.int (sizeL ns a)) := by
  unfold m_law_size b_law_size
  rw [run2]
  have h63 : ¬ (63 : Int) < ns.length := by omega
  rw [sizeL_int]
  cases h : large ns <;> simp [t_law_large, hn, h, len_scr, h63, t_law_cell]
def manyL (ns : List Int) (a n : Nat) : Nat := (cell ns a / 7 % (n + 1)).toNat
theorem manyL_bd (ns : List Int) (a n : Nat) : manyL ns a n ≤ n := by
  unfold manyL
  have h1 := Int.emod_nonneg (cell ns a / 7) (show ((n : Int) + 1) ≠ 0 by omega)
  have h2 := Int.emod_lt_of_pos (cell ns a / 7) (show (0 : Int) < (n : Int) + 1 by omega)
  omega
theorem manyL_int (ns : List Int) (a n : Nat) : ((manyL ns a n : Nat) : Int) = cell ns a / 7 % (n + 1) := by
  unfold manyL
  have h1 := Int.emod_nonneg (cell ns a / 7) (show ((n : Int) + 1) ≠ 0 by omega)
  omega
def wordsL (ns : List Int) (a n : Nat) : List Word := (List.range (manyL ns a n)).map fun k : Nat => wordL (cell ns (a + 1 + k) + 31 * (k : Int) * k) n
theorem rng_nat (n : Nat) (hn : n ≤ 1000000) : rng1D [.int (n : Int)] = .ok ((List.range n).map fun k : Nat => PyData.int (k : Int)) := by
  show guard _ (R.ok (rangeD 0 _)) = _
  rw [guard_t (decide_eq_true (by omega))]
  simp [rangeD]
theorem t_law_words (ns : List Int) (a n : Nat) (hn : ns.length ≤ 63) (h8 : n ≤ 1000) : m_law_words [scrD ns, .int a, .int n] = .ok (.list (dWs (wordsL ns a n))) := by
  unfold m_law_words b_law_words
  rw [run3]
  have hb := manyL_bd ns a n
  have hd : (decide ((0 : Int) < (n : Int) + 1)) = true := decide_eq_true (by omega)
  simp [t_law_cell, hn, hd, ← manyL_int]
  rw [rng_nat _ (by omega)]
  simp
  rw [lcGo_all (fun k : Nat => PyData.int (k : Int)) (fun k : Nat => dW (wordL (cell ns (a + 1 + k) + 31 * (k : Int) * k) n)) _ fun k hk => by
    have hk' := List.mem_range.mp hk
    have g1 : mulOk 31 (k : Int) = true := mulOk_l (by decide)
    have g2 : mulOk (31 * (k : Int)) (k : Int) = true := mulOk_r (by omega)
    have ec := t_law_cell ns (a + 1 + k) hn
    simp at ec
    simp [ec, g1, g2, t_law_word _ _ h8]]
  simp [wordsL, dWs]
theorem e_zipL (a b : List PyData) : zipBD [.tuple a, .tuple b] = .ok (a.zip b) := id rfl
theorem t_law_sum (a b : Word) : m_law_sum [dW a, dW b] = .ok (dW (xw a b)) := by
  unfold m_law_sum b_law_sum
  rw [run2]
  simp only [e_Ret, e_Call, e_aCons, e_aNil, e_Lc, e_Arg, e_name, List.getElem?_cons_zero, List.getElem?_cons_succ, R.bind_ok, e_zipW]
  rw [lcGo_all (fun p : Bool × Bool => (dB p.1, dB p.2)) (fun p => dB (p.1 != p.2)) _ fun p _ => by
    obtain ⟨x, y⟩ := p
    simp
    cases x <;> cases y <;> rfl]
  simp [dW_xw]
end L2.PD

set_option Elab.async false
set_option linter.all false
set_option autoImplicit false
set_option maxRecDepth 100000
/-! Ty2: ==, in, sorted over words; the laws' spread. -/
namespace L2.PD
open PySem L2 PyProof.Rows

/-! ### what may be compared -/
structure OkD (k : Nat) (d : PyData) : Prop where
  lay : d.canLay0 = true
  dep : d.depth ≤ k
  flat : flatD d = true
theorem OkD.mono {j k : Nat} {d : PyData} (h : OkD j d) (l : j ≤ k) : OkD k d := ⟨h.lay, Nat.le_trans h.dep l, h.flat⟩
theorem okAll {k : Nat} : ∀ {ds : List PyData}, (∀ d ∈ ds, OkD k d) → PyData.canLayAll0 ds = true ∧ PyData.depthAll ds ≤ k ∧ flatAll ds = true
  | [], _ => ⟨by simp [PyData.canLayAll0], by simp [PyData.depthAll], by simp [flatAll]⟩
  | d :: ds, h => by
    obtain ⟨h1, h2, h3⟩ := okAll (ds := ds) fun e he => h e (List.mem_cons_of_mem _ he)
    have hd := h d List.mem_cons_self
    refine ⟨by simp [PyData.canLayAll0, hd.lay, h1], ?_, by simp [flatAll, hd.flat, h3]⟩
    simp only [PyData.depthAll]
    exact Nat.max_le.mpr ⟨hd.dep, h2⟩
theorem OkD.list {k : Nat} {ds : List PyData} (h : ∀ d ∈ ds, OkD k d) : OkD (k + 1) (.list ds) := by
  obtain ⟨h1, h2, h3⟩ := okAll h
  exact ⟨by simpa [PyData.canLay0] using h1, by simp only [PyData.depth]; omega, by simpa [flatD] using h3⟩
theorem OkD.tuple {k : Nat} {ds : List PyData} (h : ∀ d ∈ ds, OkD k d) : OkD (k + 1) (.tuple ds) := by
  obtain ⟨h1, h2, h3⟩ := okAll h
  exact ⟨by simpa [PyData.canLay0] using h1, by simp only [PyData.depth]; omega, by simpa [flatD] using h3⟩
theorem OkD.int (i : Int) : OkD 0 (.int i) := ⟨by simp [PyData.canLay0], by simp [PyData.depth], by simp [flatD]⟩
theorem OkD.bool (b : Bool) : OkD 0 (.bool b) := ⟨by simp [PyData.canLay0], by simp [PyData.depth], by simp [flatD]⟩
theorem OkD.none : OkD 0 .none := ⟨by simp [PyData.canLay0], by simp [PyData.depth], by simp [flatD]⟩
theorem OkD.sh {k : Nat} {d : PyData} (h : OkD k d) (hk : k ≤ 60) : SeqAt.shaped d = true := by
  unfold SeqAt.shaped
  rw [h.lay, Bool.true_and]
  exact decide_eq_true (Nat.le_trans h.dep (by omega))
theorem ok_dB (b : Bool) : OkD 0 (dB b) := OkD.int _
theorem ok_dW (w : Word) : OkD 1 (dW w) := OkD.tuple fun d hd => by
  obtain ⟨b, _, rfl⟩ := List.mem_map.mp hd
  exact ok_dB b
theorem ok_dWs (ws : List Word) : ∀ d ∈ dWs ws, OkD 1 d := fun d hd => by
  obtain ⟨b, _, rfl⟩ := List.mem_map.mp hd
  exact ok_dW b
theorem ok_desk (n : Nat) (R : List Word) : OkD 3 (dDesk n R) := OkD.tuple (k := 2) fun d hd => by
  rcases List.mem_cons.mp hd with rfl | hd
  · exact (OkD.int _).mono (by omega)
  · rw [List.mem_singleton.mp hd]
    exact OkD.tuple (ok_dWs R)
theorem t_eq {j k : Nat} {a b : PyData} (ha : OkD j a) (hb : OkD k b) (hj : j ≤ 60 := by decide) (hk : k ≤ 60 := by decide) : eqD a b = .ok (.bool (PyData.eqv a b)) := by
  unfold eqD
  rw [ha.sh hj, hb.sh hk, ha.flat, hb.flat]
  rfl
theorem t_ne {j k : Nat} {a b : PyData} (ha : OkD j a) (hb : OkD k b) (hj : j ≤ 60 := by decide) (hk : k ≤ 60 := by decide) : neD a b = .ok (.bool (!PyData.eqv a b)) := by
  unfold neD
  rw [ha.sh hj, hb.sh hk, ha.flat, hb.flat]
  rfl
theorem eqv_map {α : Type} [BEq α] (f : α → PyData) (h : ∀ a b, PyData.eqv (f a) (f b) = (a == b)) : ∀ (l l' : List α), PyData.eqvAll (l.map f) (l'.map f) = (l == l')
  | [], [] => by simp [PyData.eqvAll]
  | [], _ :: _ => by simp [PyData.eqvAll]
  | _ :: _, [] => by simp [PyData.eqvAll]
  | a :: l, b :: l' => by
    show PyData.eqvAll (f a :: l.map f) (f b :: l'.map f) = _
    rw [PyData.eqvAll, h, eqv_map f h l l']
    rfl
theorem eqv_tup (a b : List PyData) : PyData.eqv (.tuple a) (.tuple b) = PyData.eqvAll a b := by rw [PyData.eqv]
theorem eqv_lst (a b : List PyData) : PyData.eqv (.list a) (.list b) = PyData.eqvAll a b := by rw [PyData.eqv]
theorem eqv_int (a b : Int) : PyData.eqv (.int a) (.int b) = (a == b) := by rw [PyData.eqv]
theorem eqv_dW (a b : Word) : PyData.eqv (dW a) (dW b) = (a == b) := by
  unfold dW
  rw [eqv_tup, eqv_map dB eqv_dB]
theorem eqv_dWs (a b : List Word) : PyData.eqvAll (dWs a) (dWs b) = (a == b) := eqv_map dW eqv_dW a b
theorem eqv_desk (n m : Nat) (R R' : List Word) : PyData.eqv (dDesk n R) (dDesk m R') = (n == m && R == R') := by
  unfold dDesk
  rw [eqv_tup]
  simp only [PyData.eqvAll, eqv_tup, eqv_dWs, eqv_int, Bool.and_true]
  congr 1
  rw [Bool.eq_iff_iff, beq_iff_eq, beq_iff_eq]
  omega
theorem any_eqv (w : Word) (ws : List Word) : ((dWs ws).any fun y => PyData.eqv y (dW w)) = decide (w ∈ ws) := by
  unfold dWs
  rw [List.any_map]
  rw [Bool.eq_iff_iff, List.any_eq_true, decide_eq_true_iff]
  refine ⟨fun ⟨v, h1, h2⟩ => ?_, fun h => ⟨w, h, ?_⟩⟩
  · have h2 : PyData.eqv (dW v) (dW w) = true := h2
    rw [eqv_dW, beq_iff_eq] at h2
    exact h2 ▸ h1
  · show PyData.eqv (dW w) (dW w) = true
    rw [eqv_dW, beq_self_eq_true]
theorem has_ws (w : Word) (ws : List Word) : hasD (dW w) (.list (dWs ws)) = .ok (decide (w ∈ ws)) := by
  have h1 := ok_dW w
  have h2 := OkD.list (ok_dWs ws)
  show guard _ _ = _
  rw [guard_t (by rw [h1.sh (by decide), h2.sh (by decide), h1.flat, h2.flat]; rfl), any_eqv]
@[simp] theorem t_in_ws (w : Word) (ws : List Word) : inD (dW w) (.list (dWs ws)) = .ok (.bool (decide (w ∈ ws))) := by
  unfold inD
  rw [has_ws, R.bind_ok]
@[simp] theorem t_nin_ws (w : Word) (ws : List Word) : ninD (dW w) (.list (dWs ws)) = .ok (.bool (!decide (w ∈ ws))) := by
  unfold ninD
  rw [has_ws, R.bind_ok]
theorem dWs_app (a b : List Word) : dWs (a ++ b) = dWs a ++ dWs b := List.map_append
theorem dWs_len (a : List Word) : (dWs a).length = a.length := List.length_map ..
@[simp] theorem t_addL {a b : List PyData} : addD (.list a) (.list b) = guard (decide (a.length + b.length ≤ LIM)) (.ok (.list (a ++ b))) := id rfl
@[simp] theorem t_addT {a b : List PyData} : addD (.tuple a) (.tuple b) = guard (decide (a.length + b.length ≤ LIM)) (.ok (.tuple (a ++ b))) := id rfl
theorem limT {n : Nat} (h : n ≤ 1000000) : decide (n ≤ LIM) = true := decide_eq_true h
theorem limT' {n : Nat} (h : n < 1000000) : decide (n < LIM) = true := decide_eq_true h
theorem t_zeros (n : Nat) (h : n ≤ 1000) : mulD (.tuple [.int 0]) (.int n) = .ok (dW (zw n)) := by
  show guard _ _ = _
  rw [guard_t (decide_eq_true ⟨by omega, by omega, by simp⟩)]
  unfold dW zw dB
  simp
/-! ### sorted -/
theorem alike_dBs : ∀ a b : Word, PySem.W.alikeAll (a.map dB) (b.map dB) = true
  | [], _ => by simp [PySem.W.alikeAll]
  | _ :: _, [] => by simp [PySem.W.alikeAll]
  | x :: a, y :: b => by
    show PySem.W.alikeAll (dB x :: a.map dB) (dB y :: b.map dB) = true
    rw [PySem.W.alikeAll, alike_dBs a b]
    simp [PySem.W.alike, dB]
theorem alike_dW (a b : Word) : PySem.W.alike (dW a) (dW b) = true := by
  unfold dW
  rw [PySem.W.alike]
  exact alike_dBs a b
theorem lt_dW : ∀ a b : Word, PySem.W.rowLt (a.map dB) (b.map dB) = ltW a b
  | [], [] => lex_irrefl _
  | [], y :: b => by
    unfold PySem.W.rowLt
    rw [List.map_cons, PySem.W.toks_all_cons]
    simp only [List.map_nil, PySem.W.keyToksAll]
    rw [lex_diff (O := itemOrd) (by simp)]
    rfl
  | x :: a, [] => by
    unfold PySem.W.rowLt
    rw [List.map_cons, PySem.W.toks_all_cons]
    simp only [List.map_nil, PySem.W.keyToksAll]
    rw [lex_diff (O := itemOrd) (by simp)]
    rfl
  | x :: a, y :: b => by
    show lexLt itemOrd (PySem.W.keyToksAll (dB x :: a.map dB)) (PySem.W.keyToksAll (dB y :: b.map dB)) = _
    rw [PySem.W.dataLt_cons (by simp [PySem.W.alike, dB]), eqv_dB]
    have ih : lexLt itemOrd (PySem.W.keyToksAll (a.map dB)) (PySem.W.keyToksAll (b.map dB)) = ltW a b := lt_dW a b
    rw [ih, show ltW (x :: a) (y :: b) = (if x = y then ltW a b else !x && y) by rw [ltW]]
    by_cases e : x = y
    · subst e; simp
    · have : (x == y) = false := by simp [e]
      rw [this, if_neg e, if_neg Bool.false_ne_true]
      unfold dB
      rw [PySem.W.dataLt_int]
      cases x <;> cases y <;> simp_all
theorem dataLt_dW (a b : Word) : PySem.W.dataLt (dW a) (dW b) = ltW a b := by
  unfold dW
  rw [PySem.W.dataLt_tuple]
  exact lt_dW a b
theorem sortOk_ws {ws : List Word} (h : ∀ w ∈ ws, w ≠ []) : sortOk (dWs ws) = true := by
  unfold sortOk
  simp only [Bool.and_eq_true, Bool.or_eq_true, List.all_eq_true, decide_eq_true_eq]
  refine ⟨⟨fun d hd e he => ?_, .inl fun d hd => ?_⟩, fun d hd => ?_⟩
  · obtain ⟨a, _, rfl⟩ := List.mem_map.mp hd
    obtain ⟨b, _, rfl⟩ := List.mem_map.mp he
    exact alike_dW a b
  · obtain ⟨a, ha, rfl⟩ := List.mem_map.mp hd
    cases a with
    | nil => exact absurd rfl (h _ ha)
    | cons x a => rfl
  · have := ok_dWs ws d hd
    exact ⟨Nat.le_trans this.dep (by decide), this.flat⟩
theorem sort_ws (rev : Bool) (ws : List Word) : (dWs ws).mergeSort (PySem.W.dataLe rev fun d => d) = dWs (ws.mergeSort fun a b => cond rev (wLeD a b) (wLeA a b)) := by
  unfold dWs
  rw [List.map_mergeSort]
  intro a _ b _
  rw [PySem.W.dataLe_eq]
  cases rev
  · show (!ltW b a) = (!PySem.W.dataLt (dW b) (dW a))
    rw [dataLt_dW]
  · show (!ltW a b) = (!PySem.W.dataLt (dW a) (dW b))
    rw [dataLt_dW]
theorem t_sortA {ws : List Word} (h : ∀ w ∈ ws, w ≠ []) : sortedD false (.list (dWs ws)) = .ok (.list (dWs (sortA ws))) := by
  show guard _ _ = _
  rw [guard_t (sortOk_ws h), sort_ws]
  rfl
theorem t_sortD {ws : List Word} (h : ∀ w ∈ ws, w ≠ []) : sortedD true (.list (dWs ws)) = .ok (.list (dWs (sortD ws))) := by
  show guard _ _ = _
  rw [guard_t (sortOk_ws h), sort_ws]
  rfl
/-! ### the laws' spread -/
theorem len_ne {n : Nat} {w : Word} (h : w.length = n) (hn : 1 ≤ n) : w ≠ [] := fun e => by rw [e] at h; simp at h; omega
theorem spread_loop (n : Nat) (x : PyData) (fb : Rho → R Out) (hfb : fb = sIf (fB (f2 ninD (fName 3) (fName 2))) (sSet 2 (f2 addD (fName 2) (fLc (iSeq (fName 2)) (stN 4) [4] fYes (fCall m_law_sum (aCons (fName 4) (aCons (fName 3) aNil)))))) sNil) :
    ∀ (ws C : List Word) (j : Option Ent), C.length * 2 ^ ws.length ≤ 1000000 →
      ∃ j', forGo (stN 3) fb (dWs ws) [some (.fz (.int n)), some (.fz x), some (.fz (.list (dWs C))), j, none] = .ok (.nx [some (.fz (.int n)), some (.fz x), some (.fz (.list (dWs (ws.foldl sprStep C)))), j', none])
  | [], C, j, _ => ⟨j, rfl⟩
  | w :: ws, C, j, hz => by
    have hp : 1 ≤ 2 ^ ws.length := Nat.one_le_two_pow
    have hz2 : C.length * 2 * 2 ^ ws.length ≤ 1000000 := by
      rw [List.length_cons, Nat.pow_succ] at hz
      rw [Nat.mul_assoc, Nat.mul_comm 2]
      exact hz
    have hC2 : C.length * 2 ≤ 1000000 := Nat.le_trans (Nat.le_mul_of_pos_right _ hp) hz2
    have step : fb (stN 3 (dW w) [some (.fz (.int n)), some (.fz x), some (.fz (.list (dWs C))), j, none]) = .ok (.nx [some (.fz (.int n)), some (.fz x), some (.fz (.list (dWs (sprStep C w)))), some (.fz (dW w)), none]) := by
      subst hfb
      unfold sprStep
      by_cases hm : w ∈ C
      · simp [hm]
      · simp [hm]
        unfold dWs
        rw [lcGo_all dW (fun v => dW (xw v w)) C fun v _ => by simp [t_law_sum]]
        simp
        rw [limT (by omega)]
        simp [Function.comp_def]
    obtain ⟨j', h⟩ := spread_loop n x fb hfb ws (sprStep C w) (some (.fz (dW w))) (by
      unfold sprStep
      split
      · exact Nat.le_trans (Nat.mul_le_mul_right _ (by omega)) hz2
      · rw [List.length_append, List.length_map]
        exact Nat.le_trans (Nat.mul_le_mul_right _ (by omega)) hz2)
    refine ⟨j', ?_⟩
    show forGo (stN 3) fb (dW w :: dWs ws) _ = _
    unfold forGo
    rw [step, R.bind_ok]
    exact h
theorem t_law_spread {n : Nat} {x : PyData} {ws : List Word} (hn : 1 ≤ n) (hn2 : n ≤ 1000) (hx : seqD x = .ok (dWs ws)) (hl : ∀ w ∈ ws, w.length = n) (hz : ws.length ≤ 19) : m_law_spread [.int n, x] = .ok (.list (dWs (sortA (spr n ws)))) := by
  unfold m_law_spread b_law_spread
  rw [run2]
  have hp : 1 * 2 ^ ws.length ≤ 1000000 := by
    rw [Nat.one_mul]
    exact Nat.le_trans (Nat.pow_le_pow_right (by decide) hz) (by decide)
  obtain ⟨j', h⟩ := spread_loop n x _ rfl ws [zw n] none hp
  have h1 : decide (1 ≤ LIM) = true := limT (by omega)
  have h0 := t_zeros n hn2
  simp [h1, h0, hx]
  have h' := h
  simp only [dWs, List.map_cons, List.map_nil] at h'
  unfold dWs
  rw [h']
  simp
  have hs := t_sortA (ws := spr n ws) fun w hw => len_ne ((spr_code hl).len w hw) hn
  unfold dWs at hs
  unfold spr at hs ⊢
  rw [hs]
  rfl
end L2.PD

set_option Elab.async false
set_option linter.all false
set_option autoImplicit false
set_option maxRecDepth 100000
/-! Ty3: the program's desks and the laws' rows. -/
namespace L2.PD
open PySem L2

/-! ### loops, with what follows -/
theorem bassoc {α β γ : Type} {r : R α} {k : α → R β} {h : β → R γ} : (r.bind k).bind h = r.bind fun x => (k x).bind h := R.bind_assoc ..
theorem bok {α β : Type} (x : α) (k : α → R β) : (R.ok x).bind k = k x := rfl
theorem bind_loop {α β S J γ : Type} {st : α → Rho → Rho} {fb : Rho → R Out} {k : Out → R γ} {r : R γ} (mk : S → J → Rho) (e : β → α) (f : S → β → S) (I : S → Prop) (l : List β) (s : S) (j : J) (h0 : I s)
    (hstep : ∀ x ∈ l, ∀ s j, I s → I (f s x) ∧ ∃ j', fb (st (e x) (mk s j)) = .ok (.nx (mk (f s x) j')))
    (hk : ∀ j', I (l.foldl f s) → k (.nx (mk (l.foldl f s) j')) = r) : (forGo st fb (l.map e) (mk s j)).bind k = r := by
  induction l generalizing s j with
  | nil => exact hk j h0
  | cons x l ih =>
    obtain ⟨h1, j', h2⟩ := hstep x List.mem_cons_self s j h0
    rw [List.map_cons]
    unfold forGo
    rw [h2, bok]
    exact ih (f s x) j' h1 (fun y hy => hstep y (List.mem_cons_of_mem _ hy)) hk
/-- a loop that stops at the first that is not p -/
theorem bind_all {α β J γ : Type} {st : α → Rho → Rho} {fb : Rho → R Out} {k : Out → R γ} {r : R γ} (mk : J → Rho) (e : β → α) (p : β → Bool) (d : PyData) (l : List β) (j : J)
    (hstep : ∀ x ∈ l, ∀ j, ∃ j', fb (st (e x) (mk j)) = if p x = true then .ok (.nx (mk j')) else .ok (.ret d))
    (hk : ∀ j', (if l.all p = true then k (.nx (mk j')) else k (.ret d)) = r) : (forGo st fb (l.map e) (mk j)).bind k = r := by
  induction l generalizing j with
  | nil => exact (if_pos rfl).symm.trans (hk j)
  | cons x l ih =>
    obtain ⟨j', h2⟩ := hstep x List.mem_cons_self j
    rw [List.map_cons]
    unfold forGo
    rw [h2]
    cases hp : p x with
    | true =>
      rw [if_pos rfl, bok]
      refine ih j' (fun y hy => hstep y (List.mem_cons_of_mem _ hy)) fun j'' => ?_
      rw [← hk j'', List.all_cons, hp, Bool.true_and]
    | false =>
      rw [if_neg Bool.false_ne_true, bok, bok, ← hk j, List.all_cons, hp, Bool.false_and, if_neg Bool.false_ne_true]
/-- a loop that appends -/
theorem bind_app {α β J γ : Type} {st : α → Rho → Rho} {fb : Rho → R Out} {k : Out → R γ} {r : R γ} (mk : List PyData → J → Rho) (e : β → α) (g : β → List PyData) (l : List β) (a : List PyData) (j : J) (hz : a.length + (l.flatMap g).length ≤ 1000000)
    (hstep : ∀ x ∈ l, ∀ a j, a.length + (g x).length ≤ 1000000 → ∃ j', fb (st (e x) (mk a j)) = .ok (.nx (mk (a ++ g x) j')))
    (hk : ∀ j', k (.nx (mk (a ++ l.flatMap g) j')) = r) : (forGo st fb (l.map e) (mk a j)).bind k = r := by
  induction l generalizing a j with
  | nil =>
    have := hk j
    rw [List.flatMap_nil, List.append_nil] at this
    exact this
  | cons x l ih =>
    rw [List.flatMap_cons, List.length_append] at hz
    obtain ⟨j', h2⟩ := hstep x List.mem_cons_self a j (by omega)
    rw [List.map_cons]
    unfold forGo
    rw [h2, bok]
    refine ih (a ++ g x) j' (by rw [List.length_append]; omega) (fun y hy => hstep y (List.mem_cons_of_mem _ hy)) fun j'' => ?_
    rw [← hk j'', List.flatMap_cons, List.append_assoc]
theorem flat_one {β : Type} (g : β → PyData) (l : List β) : (l.flatMap fun x => [g x]) = l.map g := by
  induction l with
  | nil => rfl
  | cons x l ih => rw [List.flatMap_cons, ih]; rfl
@[simp] theorem e_Index {f g : Rho → R PyData} {ρ : Rho} : fIndex f g ρ = (f ρ).bind fun t => guard (isiTuple t) ((g ρ).bind fun x => indexD t x) := id rfl
@[simp] theorem isi_tup (xs : List PyData) : isiTuple (.tuple xs) = true := id rfl
@[simp] theorem isi_dW (w : Word) : isiTuple (dW w) = true := id rfl
theorem ix_tup {xs : List PyData} {i : Nat} {v : PyData} (h : xs[i]? = some v) : ixD (.tuple xs) (.int i) = .ok v := by
  show (match atI xs (i : Int) with | some d => R.ok d | none => .no) = _
  rw [atI_nat h]
theorem ix_lst {xs : List PyData} {i : Nat} {v : PyData} (h : xs[i]? = some v) : ixD (.list xs) (.int i) = .ok v := by
  show (match atI xs (i : Int) with | some d => R.ok d | none => .no) = _
  rw [atI_nat h]
theorem ix_dW {w : Word} {i : Nat} (h : i < w.length) : ixD (dW w) (.int i) = .ok (dB (bit w i)) := by
  refine ix_tup ?_
  rw [List.getElem?_map, List.getElem?_eq_getElem h, bit_lt h]
  rfl
@[simp] theorem ix_desk0 (n : Nat) (R : List Word) : ixD (dDesk n R) (.int 0) = .ok (.int n) := id rfl
@[simp] theorem ix_desk1 (n : Nat) (R : List Word) : ixD (dDesk n R) (.int 1) = .ok (.tuple (dWs R)) := id rfl
@[simp] theorem dB_one (b : Bool) : eqD (dB b) (.int 1) = .ok (.bool b) := by cases b <;> rfl
@[simp] theorem dB_zero (b : Bool) : eqD (dB b) (.int 0) = .ok (.bool (!b)) := by cases b <;> rfl
theorem leaf_dBs (w : Word) : (leafD (.int 1) && (w.map dB).all leafD) = true := by
  rw [Bool.and_eq_true]
  refine ⟨rfl, List.all_eq_true.mpr fun d hd => ?_⟩
  obtain ⟨b, _, rfl⟩ := List.mem_map.mp hd
  rfl
theorem any_one (w : Word) : ((w.map dB).any fun y => PyData.eqv y (.int 1)) = decide (true ∈ w) := by
  rw [Bool.eq_iff_iff, List.any_eq_true, decide_eq_true_iff]
  refine ⟨fun ⟨d, h1, h2⟩ => ?_, fun h => ⟨dB true, List.mem_map.mpr ⟨true, h, rfl⟩, rfl⟩⟩
  obtain ⟨b, hb, rfl⟩ := List.mem_map.mp h1
  cases b
  · cases h2
  · exact hb
theorem has_one (w : Word) : hasD (.int 1) (dW w) = .ok (decide (true ∈ w)) := by
  show guard _ _ = _
  rw [guard_t (leaf_dBs w), any_one]
@[simp] theorem in_one (w : Word) : inD (.int 1) (dW w) = .ok (.bool (decide (true ∈ w))) := by
  unfold inD
  rw [has_one, bok]
@[simp] theorem nin_one (w : Word) : ninD (.int 1) (dW w) = .ok (.bool (!decide (true ∈ w))) := by
  unfold ninD
  rw [has_one, bok]
theorem first_hd : ∀ (w : Word) (k : Nat), true ∈ w → firstAt (.int 1) (w.map dB) k = some (k + hd w)
  | [], _, h => nomatch h
  | true :: w, k, _ => by
    rw [List.map_cons]
    unfold firstAt
    rw [if_pos (by rfl)]
    rfl
  | false :: w, k, h => by
    have h' : true ∈ w := by
      rcases List.mem_cons.mp h with h | h
      · cases h
      · exact h
    have e : hd (false :: w) = hd w + 1 := by
      unfold hd
      rw [List.idxOf_cons]
      rfl
    rw [List.map_cons]
    unfold firstAt
    rw [if_neg (by decide), first_hd w (k + 1) h', e]
    congr 1
    omega
theorem index_dW {w : Word} (h : true ∈ w) : indexD (dW w) (.int 1) = .ok (.int (hd w)) := by
  show guard _ (match firstAt (.int 1) (w.map dB) 0 with | some j => R.ok (PyData.int (j : Nat)) | none => .no) = _
  rw [guard_t (leaf_dBs w), first_hd w 0 h]
  simp

theorem t_none (n : Nat) (h : n ≤ 1000) : m_none [.int n] = .ok (dW (zw n)) := by
  unfold m_none b_none
  rw [run1]
  have h1 : decide (1 ≤ LIM) = true := limT (by omega)
  simp [h1, t_zeros n h]
theorem t_head_of {w : Word} (h : true ∈ w) : m_head_of [dW w] = .ok (.int (hd w)) := by
  unfold m_head_of b_head_of
  rw [run1]
  simp [index_dW h]
theorem t_less_rows {n : Nat} {w : Word} {x : PyData} {rows : List Word} (hw : w.length = n) (hr : ∀ r ∈ rows, r.length = n ∧ true ∈ r) (hx : seqD x = .ok (dWs rows)) : m_less_rows [dW w, x] = .ok (dW (lessRows w rows)) := by
  unfold m_less_rows b_less_rows
  rw [run2]
  simp [hx]
  rw [bassoc]
  refine bind_loop (mk := fun (w : Word) (j : Option Ent) => [some (.fz (dW w)), some (.fz x), j]) (e := dW) (f := fun w r => if bit w (hd r) = true then xw w r else w) (I := fun w => w.length = n) rows w none hw (fun r hm w j hw => ?_) fun j' _ => ?_
  · obtain ⟨h1, h2⟩ := hr r hm
    have h3 := (hd_spec h2).1
    refine ⟨by split; exact xw_len hw h1; exact hw, some (.fz (dW r)), ?_⟩
    simp [t_head_of h2, ix_dW (w := w) (i := hd r) (by omega)]
    split
    · simp [t_plus]
    · rfl
  · simp [lessRows]
theorem nz_rows {n : Nat} {C R : List Word} (hC : IsCode n C) (h : Desk n C R) : ∀ r ∈ R, r.length = n ∧ true ∈ r := fun r hr => ⟨h.len hC r hr, (h.mem r hr).2⟩
theorem t_with_word {n : Nat} {C R : List Word} {w : Word} (hC : IsCode n C) (h : Desk n C R) (hw : w.length = n) (hl : R.length ≤ 1000) : m_with_word [.list (dWs R), dW w] = .ok (.list (dWs (withWord R w))) := by
  unfold m_with_word b_with_word
  rw [run2]
  have hr := nz_rows hC h
  have hlen := (h.less hC hw).1
  simp [t_less_rows hw hr (e_seqL)]
  unfold withWord
  by_cases ht : true ∈ lessRows w R
  · have hn : 1 ≤ n := by rw [← hlen]; exact List.length_pos_of_mem ht
    simp only [ht, if_true, if_pos]
    simp [t_head_of ht]
    have hh := (hd_spec ht).1
    rw [bassoc]
    refine bind_app (mk := fun (a : List PyData) (j : Option Ent) => [some (.fz (.list (dWs R))), some (.fz (dW (lessRows w R))), some (.fz (.int (hd (lessRows w R)))), some (.ow a), j]) (e := dW) (g := fun r => [dW (if bit r (hd (lessRows w R)) = true then xw r (lessRows w R) else r)]) R [] none (by rw [flat_one, List.length_map, List.length_nil]; omega) (fun r hm a j ha => ⟨some (.fz (dW (if bit r (hd (lessRows w R)) = true then xw r (lessRows w R) else r))), ?_⟩) fun j' => ?_
    · have h1 := (hr r hm).1
      have h2 : decide (a.length < LIM) = true := limT' (by simp at ha; omega)
      simp [ix_dW (w := r) (i := hd (lessRows w R)) (by omega)]
      split
      · simp [t_plus, h2]
      · simp [h2]
    · rw [flat_one]
      have h2 : decide (R.length < LIM) = true := limT' (by omega)
      simp [h2]
      have e : dWs (newRows R (lessRows w R)) = R.map (fun r => dW (if bit r (hd (lessRows w R)) = true then xw r (lessRows w R) else r)) ++ [dW (lessRows w R)] := by
        unfold newRows dWs
        rw [List.map_append, List.map_map]
        rfl
      rw [← e]
      suffices hne : ∀ v ∈ newRows R (lessRows w R), v ≠ [] by rw [t_sortD hne]; rfl
      intro v hv
      unfold newRows at hv
      rcases List.mem_append.mp hv with hv | hv
      · obtain ⟨r, h3, rfl⟩ := List.mem_map.mp hv
        refine len_ne (n := n) ?_ hn
        split
        · exact xw_len (hr r h3).1 hlen
        · exact (hr r h3).1
      · rw [List.mem_singleton.mp hv]
        exact len_ne hlen hn
  · simp [ht]
theorem rows_le {n : Nat} {C R : List Word} (hC : IsCode n C) (h : Desk n C R) : R.length ≤ n := by
  -- the heads are unlike places below n
  have h1 : (R.map hd).Pairwise (· < ·) := by
    rw [List.pairwise_map]
    exact h.inc
  have h2 : ∀ x ∈ R.map hd, x < n := fun x hx => by
    obtain ⟨r, hr, rfl⟩ := List.mem_map.mp hx
    rw [← h.len hC r hr]
    exact (hd_spec (h.mem r hr).2).1
  have key : ∀ (l : List Nat) (m : Nat), l.Pairwise (· < ·) → (∀ x ∈ l, m ≤ x ∧ x < n) → l.length + m ≤ n ∨ l = [] := by
    intro l
    induction l with
    | nil => exact fun _ _ _ => .inr rfl
    | cons x l ih =>
      intro m hp hb
      rw [List.pairwise_cons] at hp
      have hx := hb x List.mem_cons_self
      rcases ih (x + 1) hp.2 fun y hy => ⟨hp.1 y hy, (hb y (List.mem_cons_of_mem _ hy)).2⟩ with h | h
      · refine .inl ?_
        rw [List.length_cons]
        omega
      · subst h
        refine .inl ?_
        rw [List.length_cons, List.length_nil]
        omega
  rcases key _ 0 h1 fun x hx => ⟨Nat.zero_le _, h2 x hx⟩ with h | h
  · simpa using h
  · have := congrArg List.length h
    simp at this
    simp [this]
theorem t_desk_ofN {n : Nat} {x : PyData} {ws : List Word} (hx : seqD x = .ok (dWs ws)) (hl : ∀ w ∈ ws, w.length = n) (hn2 : n ≤ 1000) : m_desk_of [.int n, x] = .ok (dDesk n (deskRows ws)) := by
  unfold m_desk_of b_desk_of
  rw [run2]
  have h0 : decide (0 ≤ LIM) = true := limT (by omega)
  have h2 : decide (2 ≤ LIM) = true := limT (by omega)
  simp [hx, h0]
  rw [bassoc]
  refine bind_loop (mk := fun (a : List Word) (j : Option Ent) => [some (.fz (.int n)), some (.fz x), some (.fz (.list (dWs a))), j]) (e := dW) (f := withWord) (I := fun a => ∃ C, IsCode n C ∧ Desk n C a) ws [] none ⟨_, code_zw n, desk_nil n⟩ (fun w hm a j ⟨C, hC, hD⟩ => ⟨⟨_, hC.step (hl w hm), hD.withWord hC (hl w hm)⟩, some (.fz (dW w)), ?_⟩) fun j' _ => ?_
  · simp [t_with_word hC hD (hl w hm) (Nat.le_trans (rows_le hC hD) hn2)]
  · simp [h2]
    rfl
theorem t_desk_of {n : Nat} {x : PyData} {ws : List Word} (hx : seqD x = .ok (dWs ws)) (hl : ∀ w ∈ ws, w.length = n) (hn : 1 ≤ n) (hn2 : n ≤ 1000) : m_desk_of [.int n, x] = .ok (dDesk n (deskRows ws)) := t_desk_ofN hx hl hn2
end L2.PD

set_option Elab.async false
set_option linter.all false
set_option autoImplicit false
set_option maxRecDepth 100000
/-! Ty4: the laws' rows and desk. -/
namespace L2.PD
open PySem L2

theorem app_eq {α β J : Type} {st : α → Rho → Rho} {fb : Rho → R Out} (mk : List PyData → J → Rho) (e : β → α) (g : β → List PyData) (l : List β) (a : List PyData) (j : J) (hz : a.length + (l.flatMap g).length ≤ 1000000)
    (hstep : ∀ x ∈ l, ∀ a j, a.length + (g x).length ≤ 1000000 → ∃ j', fb (st (e x) (mk a j)) = .ok (.nx (mk (a ++ g x) j'))) :
    ∃ j', forGo st fb (l.map e) (mk a j) = .ok (.nx (mk (a ++ l.flatMap g) j')) := by
  induction l generalizing a j with
  | nil =>
    refine ⟨j, ?_⟩
    rw [List.flatMap_nil, List.append_nil]
    rfl
  | cons x l ih =>
    rw [List.flatMap_cons, List.length_append] at hz
    obtain ⟨j', h2⟩ := hstep x List.mem_cons_self a j (by omega)
    rw [List.map_cons, List.flatMap_cons, ← List.append_assoc]
    unfold forGo
    rw [h2, bok]
    exact ih (a ++ g x) j' (by rw [List.length_append]; omega) fun y hy => hstep y (List.mem_cons_of_mem _ hy)
theorem app_ex {α β J J' : Type} {st : α → Rho → Rho} {fb : Rho → R Out} {MK : J' → Rho} (mk : List PyData → J → Rho) (q : J → J') (e : β → α) (g : β → List PyData) (l : List β) (a : List PyData) (j : J) (hz : a.length + (l.flatMap g).length ≤ 1000000)
    (hstep : ∀ x ∈ l, ∀ a j, a.length + (g x).length ≤ 1000000 → ∃ j', fb (st (e x) (mk a j)) = .ok (.nx (mk (a ++ g x) j')))
    (hk : ∀ j', mk (a ++ l.flatMap g) j' = MK (q j')) : ∃ j', forGo st fb (l.map e) (mk a j) = .ok (.nx (MK j')) := by
  obtain ⟨j', h⟩ := app_eq mk e g l a j hz hstep
  exact ⟨q j', by rw [h, hk]⟩
theorem lcGo_wm {α β : Type} {st : α → Rho → Rho} {ft : Rho → R Bool} {fe : Rho → R PyData} {ρ : Rho} (e : β → α) (p : β → Bool) (g : β → PyData) (l : List β)
    (h : ∀ x ∈ l, ft (st (e x) ρ) = .ok (p x) ∧ (p x = true → fe (st (e x) ρ) = .ok (g x))) {γ : Type} {k : List PyData → R γ} : (lcGo st ft fe ρ (l.map e)).bind k = k ((l.filter p).map g) := by
  rw [lcGo_map e p g l h, bok]
theorem lcGo_am {α β : Type} {st : α → Rho → Rho} {fe : Rho → R PyData} {ρ : Rho} (e : β → α) (g : β → PyData) (l : List β)
    (h : ∀ x ∈ l, fe (st (e x) ρ) = .ok (g x)) {γ : Type} {k : List PyData → R γ} : (lcGo st fYes fe ρ (l.map e)).bind k = k (l.map g) := by
  rw [lcGo_all e g l h, bok]
def isHd (p : Nat) (w : Word) : Bool := decide (true ∈ w) && (hd w == p)
theorem headsOf_eq (n : Nat) (S : List Word) : headsOf n S = (List.range n).filter fun p => S.any (isHd p) := rfl
theorem int_beq (a b : Nat) : ((a : Int) == (b : Int)) = (a == b) := by
  rw [Bool.eq_iff_iff, beq_iff_eq, beq_iff_eq]
  omega
def firsts (n : Nat) (S : List Word) : List Word := (List.range n).flatMap fun p => (S.filter (isHd p)).take 1
theorem firsts_hd (n : Nat) (S : List Word) : (firsts n S).map hd = headsOf n S ∧ ∀ r ∈ firsts n S, true ∈ r := by
  rw [headsOf_eq]
  unfold firsts
  generalize List.range n = l
  induction l with
  | nil => exact ⟨rfl, fun r h => nomatch h⟩
  | cons p l ih =>
    rw [List.flatMap_cons, List.map_append, ih.1]
    have key : ((S.filter (isHd p)).take 1).map hd = if S.any (isHd p) = true then [p] else [] := by
      cases h : S.filter (isHd p) with
      | nil =>
        rw [if_neg]
        · rfl
        · intro z
          obtain ⟨w, h1, h2⟩ := List.any_eq_true.mp z
          have : w ∈ S.filter (isHd p) := List.mem_filter.mpr ⟨h1, h2⟩
          rw [h] at this
          cases this
      | cons w ws =>
        have hw : w ∈ S.filter (isHd p) := by rw [h]; exact List.mem_cons_self
        obtain ⟨h1, h2⟩ := List.mem_filter.mp hw
        rw [if_pos (List.any_eq_true.mpr ⟨w, h1, h2⟩)]
        unfold isHd at h2
        simp at h2
        simp [h2.2]
    refine ⟨?_, fun r hr => ?_⟩
    · rw [key]
      split
      · rename_i h
        rw [List.filter_cons_of_pos (by exact h)]
        rfl
      · rename_i h
        rw [List.filter_cons_of_neg (by exact h)]
        rfl
    · rcases List.mem_append.mp hr with hr | hr
      · have := (List.mem_filter.mp (List.mem_of_mem_take hr)).2
        unfold isHd at this
        simp at this
        exact this.1
      · exact ih.2 r hr
theorem dB_eq (b : Bool) (j k : Nat) : intD (.bool ((j : Int) == (k : Int))) = .ok (dB (j == k)) := by
  have : ((j : Int) == (k : Int)) = (j == k) := by
    rw [Bool.eq_iff_iff, beq_iff_eq, beq_iff_eq]
    omega
  rw [this]
  rfl
theorem ok_ints {α : Type} (f : α → Bool) (l : List α) : OkD 1 (.list (l.map fun x => dB (f x))) := OkD.list (k := 0) fun d hd => by
  obtain ⟨b, _, rfl⟩ := List.mem_map.mp hd
  exact ok_dB _
theorem rowsL_len {n : Nat} {S : List Word} (hC : IsCode n S) : (rowsL n S).length ≤ n := rows_le hC (rows_desk hC)
theorem flat_if (p : Word → Bool) (l : List Word) : (l.flatMap fun w => if p w = true then [dW w] else []) = dWs (l.filter p) := by
  induction l with
  | nil => rfl
  | cons w l ih =>
    rw [List.flatMap_cons, ih]
    unfold dWs
    cases h : p w with
    | true => rw [if_pos rfl, List.filter_cons_of_pos h]; rfl
    | false => rw [if_neg Bool.false_ne_true, List.filter_cons_of_neg (by rw [h]; exact Bool.false_ne_true)]; rfl
theorem eq_pat (w : Word) (hs : List Nat) (k : Nat) : eqD (.list (hs.map fun h => dB (bit w h))) (.list ((List.range hs.length).map fun j => dB (j == k))) = .ok (.bool (hs.map (bit w) == pat hs k)) := by
  rw [t_eq (ok_ints _ _) (ok_ints _ _), eqv_lst]
  have := eqv_map dB eqv_dB (hs.map (bit w)) (pat hs k)
  unfold pat at this
  rw [List.map_map, List.map_map] at this
  exact congrArg (fun b => R.ok (PyData.bool b)) this
theorem t_law_rows {n : Nat} {S : List Word} (hC : IsCode n S) (hn : 1 ≤ n) (h8 : n ≤ 1000) : m_law_rows [.list (dWs S)] = .ok (dDesk n (rowsL n S)) := by
  unfold m_law_rows b_law_rows
  rw [run1]
  have h0 : decide (0 ≤ LIM) = true := limT (by omega)
  have hS0 : ∃ w0, S[0]? = some w0 ∧ w0.length = n := by
    cases S with
    | nil => exact nomatch hC.zero
    | cons w S => exact ⟨w, rfl, hC.len w List.mem_cons_self⟩
  obtain ⟨w0, hw0, hl0⟩ := hS0
  have hi : ixD (.list (dWs S)) (.int 0) = .ok (dW w0) := ix_lst (i := 0) (by unfold dWs; rw [List.getElem?_map, hw0]; rfl)
  have hlen : lenD (dW w0) = .ok (.int n) := by
    show R.ok (PyData.int _) = _
    rw [List.length_map, hl0]
  simp [hi, hlen, h0]
  rw [rng_nat n (by omega)]
  simp
  rw [bassoc]
  have hfl : (firsts n S).length ≤ n := by
    have := congrArg List.length (firsts_hd n S).1
    rw [List.length_map] at this
    rw [this]
    unfold headsOf
    exact Nat.le_trans (List.length_filter_le _ _) (by rw [List.length_range]; exact Nat.le_refl _)
  have efl : ((List.range n).flatMap fun p => dWs ((S.filter (isHd p)).take 1)) = dWs (firsts n S) := by
    unfold firsts dWs
    rw [List.map_flatMap]
  refine bind_app (mk := fun (a : List PyData) (j : Option Ent × Option Ent) => [some (.fz (.list (dWs S))), some (.fz (.int n)), some (.ow a), j.1, j.2, none, none, none, none, none, none, none]) (e := fun k : Nat => PyData.int (k : Int)) (g := fun p => dWs ((S.filter (isHd p)).take 1)) (List.range n) [] (none, none) (by rw [efl, dWs_len, List.length_nil]; omega) (fun p hp a j ha => ?_) fun j' => ?_
  · refine ⟨(some (.fz (.int p)), some (.fz (.list (dWs (S.filter (isHd p)))))), ?_⟩
    simp
    unfold dWs
    rw [lcGo_wm dW (isHd p) dW S fun w hw => by
      refine ⟨?_, fun _ => by simp⟩
      simp
      unfold isHd
      by_cases h : true ∈ w
      · simp only [h, index_dW h, decide_true, bok, e_guard, e_eqI, int_beq, e_boolOf, if_pos, Bool.true_and]
      · simp [h]]
    generalize S.filter (isHd p) = F at ha ⊢
    cases F with
    | nil => simp
    | cons w ws =>
      have h2 : decide (a.length < LIM) = true := limT' (by simp [dWs] at ha; omega)
      have : ixD (.list (dW w :: ws.map dW)) (.int 0) = .ok (dW w) := ix_lst (i := 0) rfl
      simp [this, h2]
  · rw [efl]
    simp
    unfold dWs
    rw [lcGo_am dW (fun w => PyData.int (hd w)) _ fun w hw => by simp [index_dW ((firsts_hd n S).2 w hw)]]
    simp
    rw [rng_nat _ (by omega)]
    simp
    rw [bassoc]
    have em : ((firsts n S).map fun w => PyData.int (hd w)) = (headsOf n S).map fun h : Nat => PyData.int (h : Int) := by
      rw [← (firsts_hd n S).1, List.map_map]
      rfl
    have el : (firsts n S).length = (headsOf n S).length := by rw [← (firsts_hd n S).1, List.length_map]
    rw [em, el]
    have hb : ∀ h ∈ headsOf n S, h < n := fun h hh => by
      unfold headsOf at hh
      exact List.mem_range.mp (List.mem_filter.mp hh).1
    have hrl : ((List.range (headsOf n S).length).flatMap fun k => dWs (S.filter fun w => (headsOf n S).map (bit w) == pat (headsOf n S) k)) = dWs (rowsL n S) := by
      unfold rowsL dWs
      rw [List.map_flatMap]
    have h5 : (headsOf n S).length ≤ 1000 := by omega
    generalize headsOf n S = hs at hb hrl h5 em el ⊢
    refine bind_app (mk := fun (a : List PyData) (j : Option Ent × Option Ent) => [some (.fz (.list (dWs S))), some (.fz (.int n)), some (.fz (.list ((firsts n S).map dW))), j'.1, j'.2, some (.fz (.list (hs.map fun h : Nat => PyData.int (h : Int)))), some (.ow a), j.1, j.2, none, none, none]) (e := fun k : Nat => PyData.int (k : Int)) (g := fun k => dWs (S.filter fun w => hs.map (bit w) == pat hs k)) (List.range hs.length) [] (none, none) (by rw [hrl, dWs_len, List.length_nil]; have := rowsL_len hC; omega) (fun k hk a j ha => ?_) fun j'' => ?_
    · simp [-Prod.exists]
      rw [← flat_if] at ha ⊢
      refine app_ex (mk := fun (a : List PyData) (j : Option Ent) => [some (.fz (.list (dWs S))), some (.fz (.int n)), some (.fz (.list ((firsts n S).map dW))), j'.1, j'.2, some (.fz (.list (hs.map fun h : Nat => PyData.int (h : Int)))), some (.ow a), some (.fz (.int k)), j, none, none, none]) (q := fun j => ((some (Ent.fz (.int k)), j) : Option Ent × Option Ent)) (e := dW) (g := fun w => if (hs.map (bit w) == pat hs k) = true then [dW w] else []) S a j.2 ha (fun w hw a j ha => ⟨some (.fz (dW w)), ?_⟩) ?_
      · simp only [e_sIf, e_B, e_2, e_stN, List.set, e_Lc, e_iSeq, e_name, e_Arg, e_aCons, e_aNil, List.getElem?_cons_zero, List.getElem?_cons_succ, bok, e_wipe1, e_seqL]
        rw [lcGo_am (fun h : Nat => PyData.int (h : Int)) (fun h => dB (bit w h)) _ fun h hh => by
          have h1 := hb h hh
          have h2 := hC.len w hw
          simp [ix_dW (w := w) (i := h) (by omega)]]
        simp only [e_Call, e_aCons, e_aNil, e_one, e_name, List.getElem?_cons_zero, List.getElem?_cons_succ, bok, e_lenL, List.length_map]
        rw [el, rng_nat _ (by omega)]
        simp only [bok]
        rw [lcGo_am (fun k : Nat => PyData.int (k : Int)) (fun j => dB (j == k)) _ fun j hj => by
          simp [dB_eq true]]
        simp only [eq_pat, bok, e_boolOf]
        cases hp : hs.map (bit w) == pat hs k with
        | true =>
          rw [hp] at ha
          have h2 : decide (a.length < LIM) = true := limT' (by simp at ha; omega)
          simp [h2]
        | false => simp
      · exact fun _ => rfl
    · have hd0 : decide (2 ≤ LIM) = true := limT (by omega)
      rw [hrl]
      simp [hd0]
      rfl
theorem t_law_desk (ns : List Int) (a : Nat) (hn : ns.length ≤ 63) : ∃ n S, n = sizeL ns a ∧ 1 ≤ n ∧ n ≤ 8 ∧ S = sortA (spr n (wordsL ns a n)) ∧ IsCode n S ∧ m_law_desk [scrD ns, .int a] = .ok (dDesk n (rowsL n S)) := by
  obtain ⟨h1, h8⟩ := sizeL_bd ns a
  have hl : ∀ w ∈ wordsL ns a (sizeL ns a), w.length = sizeL ns a := fun w hw => by
    unfold wordsL at hw
    obtain ⟨k, _, rfl⟩ := List.mem_map.mp hw
    simp [wordL]
  have hC := (spr_code hl).perm (sortA_perm _).symm
  refine ⟨_, _, rfl, h1, h8, rfl, hC, ?_⟩
  unfold m_law_desk b_law_desk
  rw [run2]
  have hz : (wordsL ns a (sizeL ns a)).length ≤ 19 := by
    unfold wordsL
    rw [List.length_map, List.length_range]
    exact Nat.le_trans (manyL_bd _ _ _) (by omega)
  simp [t_law_size ns a hn, t_law_words ns a _ hn (show sizeL ns a ≤ 1000 by omega), t_law_spread h1 (by omega) (e_seqL) hl hz, t_law_rows hC h1 (by omega)]
end L2.PD

set_option Elab.async false
set_option linter.all false
set_option autoImplicit false
/-! WM2: words that meet evenly; the code of all that meet a code evenly; its desk. -/
namespace L2.PD

def dp : Word → Word → Bool
  | a :: as, b :: bs => (a && b) != dp as bs
  | _, _ => false
theorem dp_nil (a : Word) : dp a [] = false := by cases a <;> rfl
theorem dp_comm : ∀ a b : Word, dp a b = dp b a
  | [], b => by rw [dp_nil]; rfl
  | _ :: _, [] => rfl
  | a :: as, b :: bs => by
    show ((a && b) != dp as bs) = ((b && a) != dp bs as)
    rw [dp_comm as bs, Bool.and_comm]
theorem dp_xw : ∀ {a b : Word} (c : Word), a.length = b.length → dp (xw a b) c = (dp a c != dp b c)
  | [], [], c, _ => rfl
  | x :: a, y :: b, [], _ => rfl
  | x :: a, y :: b, z :: c, h => by
    show (((x != y) && z) != dp (xw a b) c) = (((x && z) != dp a c) != ((y && z) != dp b c))
    rw [dp_xw c (by simpa using h)]
    cases x <;> cases y <;> cases z <;> cases dp a c <;> cases dp b c <;> rfl
theorem dp_xw' {n : Nat} {a b : Word} (c : Word) (ha : a.length = n) (hb : b.length = n) : dp (xw a b) c = (dp a c != dp b c) := dp_xw c (by omega)
theorem dp_xwr {n : Nat} {a b : Word} (c : Word) (ha : a.length = n) (hb : b.length = n) : dp c (xw a b) = (dp c a != dp c b) := by
  rw [dp_comm, dp_xw' c ha hb, dp_comm a, dp_comm b]
theorem dp_supp : ∀ (a b : Word), (∀ i, (bit a i && bit b i) = false) → dp a b = false
  | [], _, _ => rfl
  | _ :: _, [], _ => rfl
  | x :: a, y :: b, h => by
    have h0 : (x && y) = false := h 0
    show ((x && y) != dp a b) = false
    rw [h0, dp_supp a b fun i => h (i + 1)]
    rfl
theorem dp_zw (n : Nat) (a : Word) : dp a (zw n) = false := dp_supp _ _ fun i => by rw [bit_zw, Bool.and_false]
def unit (n i : Nat) : Word := (List.range n).map (· == i)
theorem unit_len (n i : Nat) : (unit n i).length = n := by simp [unit]
theorem bit_unit (n i j : Nat) : bit (unit n i) j = (decide (j < n) && (j == i)) := by
  by_cases h : j < n
  · rw [bit_lt (by rw [unit_len]; exact h)]
    simp [unit, h]
  · rw [bit_ge (by rw [unit_len]; omega)]
    simp [h]
theorem dp_unit : ∀ (a : Word) (i : Nat), dp a (unit a.length i) = bit a i
  | [], i => rfl
  | x :: a, i => by
    have e : unit (x :: a).length i = (0 == i) :: (List.range a.length).map fun j => j + 1 == i := by
      unfold unit
      rw [List.length_cons, List.range_succ_eq_map, List.map_cons, List.map_map]
      rfl
    rw [e]
    show ((x && (0 == i)) != dp a _) = _
    cases i with
    | zero =>
      have : dp a ((List.range a.length).map fun j => j + 1 == 0) = false := dp_supp _ _ fun i => by
        have : bit ((List.range a.length).map fun j => j + 1 == 0) i = false := by
          by_cases h : i < a.length
          · rw [bit_lt (by simpa using h)]
            simp
          · exact bit_ge (by simp; omega)
        rw [this, Bool.and_false]
      rw [this]
      show ((x && true) != false) = x
      cases x <;> rfl
    | succ i =>
      have : (List.range a.length).map (fun j => j + 1 == i + 1) = unit a.length i := by
        unfold unit
        congr 1
        funext j
        rw [Bool.eq_iff_iff, beq_iff_eq, beq_iff_eq]
        omega
      rw [this, dp_unit a i]
      show ((x && false) != bit a i) = bit a i
      cases x <;> cases bit a i <;> rfl
theorem dp_unit' {n : Nat} {a : Word} (h : a.length = n) (i : Nat) : dp a (unit n i) = bit a i := by rw [← h]; exact dp_unit a i

theorem same_of_sub {A B : List Word} (hA : A.Nodup) (hB : B.Nodup) (sub : ∀ w ∈ A, w ∈ B) (hl : B.length = A.length) : ∀ w, w ∈ B ↔ w ∈ A := by
  have p : (B.filter fun w => decide (w ∈ A)).Perm A := (List.perm_ext_iff_of_nodup (hB.filter _) hA).mpr fun w => by
    rw [List.mem_filter, decide_eq_true_iff]
    exact ⟨fun h => h.2, fun h => ⟨sub w h, h⟩⟩
  have hl2 : (B.filter fun w => decide (w ∈ A)).length = B.length := by rw [p.length_eq, hl]
  have h3 := List.length_filter_eq_length_iff.mp hl2
  exact fun w => ⟨fun h => of_decide_eq_true (h3 w h), sub w⟩

/-! ### all words -/
def allStep (f : List Word) : List Word := f.map (· ++ [false]) ++ f.map (· ++ [true])
def allR : Nat → List Word
  | 0 => [[]]
  | n + 1 => allStep (allR n)
theorem mem_allR : ∀ (n : Nat) (w : Word), w ∈ allR n ↔ w.length = n
  | 0, w => by simp [allR]
  | n + 1, w => by
    unfold allR allStep
    rw [List.mem_append, List.mem_map, List.mem_map]
    refine ⟨fun h => ?_, fun h => ?_⟩
    · rcases h with ⟨u, hu, rfl⟩ | ⟨u, hu, rfl⟩ <;> simp [(mem_allR n u).mp hu]
    · have hne : w ≠ [] := fun e => by rw [e] at h; cases h
      have hd := List.dropLast_concat_getLast hne
      have hl : w.dropLast ∈ allR n := (mem_allR n _).mpr (by rw [List.length_dropLast, h]; rfl)
      cases hb : w.getLast hne with
      | false => exact .inl ⟨_, hl, by rw [← hb]; exact hd⟩
      | true => exact .inr ⟨_, hl, by rw [← hb]; exact hd⟩
theorem nd_allR : ∀ n : Nat, (allR n).Nodup
  | 0 => by simp [allR]
  | n + 1 => by
    unfold allR allStep
    have inj : ∀ b : Bool, ((allR n).map (· ++ [b])).Nodup := fun b => by
      unfold List.Nodup
      rw [List.pairwise_map]
      exact (nd_allR n).imp fun {a c} h e => h (List.append_cancel_right e)
    rw [List.nodup_append]
    refine ⟨inj false, inj true, fun a ha b hb e => ?_⟩
    obtain ⟨u, _, rfl⟩ := List.mem_map.mp ha
    obtain ⟨v, _, rfl⟩ := List.mem_map.mp hb
    have := congrArg List.getLast? e
    simp at this
theorem len_allR : ∀ n : Nat, (allR n).length = 2 ^ n
  | 0 => rfl
  | n + 1 => by
    unfold allR allStep
    rw [List.length_append, List.length_map, List.length_map, len_allR n, Nat.pow_succ]
    omega
def allW (n : Nat) : List Word := sortA (allR n)
theorem mem_allW (n : Nat) (w : Word) : w ∈ allW n ↔ w.length = n := by
  unfold allW
  rw [(sortA_perm _).mem_iff, mem_allR]
theorem nd_allW (n : Nat) : (allW n).Nodup := (sortA_perm _).nodup_iff.mpr (nd_allR n)
theorem len_allW (n : Nat) : (allW n).length = 2 ^ n := by
  unfold allW
  rw [(sortA_perm _).length_eq, len_allR]

/-! ### what meets a list of words evenly -/
def evens (n : Nat) (L : List Word) : List Word := (allW n).filter fun w => L.all fun r => !dp r w
theorem mem_evens {n : Nat} {L : List Word} {w : Word} : w ∈ evens n L ↔ w.length = n ∧ ∀ r ∈ L, dp r w = false := by
  unfold evens
  rw [List.mem_filter, mem_allW, List.all_eq_true]
  simp
theorem evens_code {n : Nat} (L : List Word) : IsCode n (evens n L) where
  len := fun w h => (mem_evens.mp h).1
  zero := mem_evens.mpr ⟨zw_length n, fun r _ => dp_zw n r⟩
  add := fun a ha b hb => by
    obtain ⟨h1, h2⟩ := mem_evens.mp ha
    obtain ⟨h3, h4⟩ := mem_evens.mp hb
    exact mem_evens.mpr ⟨xw_len h1 h3, fun r hr => by rw [dp_xwr r h1 h3, h2 r hr, h4 r hr]; rfl⟩
  nd := (nd_allW n).filter _
/-- what meets the rows evenly meets the span evenly -/
theorem evens_spr {n : Nat} {L : List Word} (hl : ∀ w ∈ L, w.length = n) {w : Word} (h : w.length = n) : (∀ r ∈ L, dp r w = false) ↔ ∀ r ∈ spr n L, dp r w = false := by
  refine ⟨fun hr => ?_, fun hr r h' => hr r (spr_mem hl r h')⟩
  have : ∀ v ∈ spr n L, v ∈ evens n [w] := spr_least (evens_code [w]) fun v hv => mem_evens.mpr ⟨hl v hv, fun r hr' => by
    rw [List.mem_singleton.mp hr', dp_comm]
    exact hr v hv⟩
  intro r h'
  rw [dp_comm]
  exact (mem_evens.mp (this r h')).2 w (List.mem_singleton.mpr rfl)

/-! ### the check at a place -/
def chk (n : Nat) (R : List Word) (p : Nat) : Word := R.foldl (fun f r => f.set (hd r) (bit r p)) (unit n p)
theorem bit_set (w : Word) (i : Nat) (b : Bool) (j : Nat) : bit (w.set i b) j = if i = j ∧ j < w.length then b else bit w j := by
  unfold bit
  rw [List.getD_eq_getElem?_getD, List.getD_eq_getElem?_getD, List.getElem?_set]
  by_cases h : i = j
  · subst h
    by_cases h2 : i < w.length <;> simp [h2]
  · simp [h]
theorem chk_len_aux (p : Nat) : ∀ (R : List Word) (f : Word), (R.foldl (fun f r => f.set (hd r) (bit r p)) f).length = f.length
  | [], _ => rfl
  | r :: R, f => by
    rw [List.foldl_cons, chk_len_aux p R, List.length_set]
theorem chk_len (n : Nat) (R : List Word) (p : Nat) : (chk n R p).length = n := by
  unfold chk
  rw [chk_len_aux, unit_len]
theorem chk_other (p : Nat) : ∀ (R : List Word) (f : Word) (i : Nat), (∀ r ∈ R, hd r ≠ i) → bit (R.foldl (fun f r => f.set (hd r) (bit r p)) f) i = bit f i
  | [], _, _, _ => rfl
  | r :: R, f, i, h => by
    rw [List.foldl_cons, chk_other p R _ i fun q hq => h q (List.mem_cons_of_mem _ hq), bit_set, if_neg fun z => h r List.mem_cons_self z.1]
theorem chk_head (p : Nat) : ∀ (R : List Word) (f : Word) (r : Word), r ∈ R → R.Pairwise (fun a b => hd a < hd b) → hd r < f.length → bit (R.foldl (fun f r => f.set (hd r) (bit r p)) f) (hd r) = bit r p
  | [], _, _, h, _, _ => nomatch h
  | q :: R, f, r, h, hp, hl => by
    rw [List.pairwise_cons] at hp
    rw [List.foldl_cons]
    rcases List.mem_cons.mp h with rfl | h
    · rw [chk_other p R _ (hd r) fun q hq e => by have := hp.1 q hq; omega, bit_set, if_pos ⟨rfl, hl⟩]
    · exact chk_head p R _ r h hp.2 (by rw [List.length_set]; exact hl)
section
variable {n : Nat} {C R : List Word}
/-- the places without a head -/
def frees (n : Nat) (R : List Word) : List Nat := (List.range n).filter fun p => !((R.map hd).contains p)
theorem mem_frees {p : Nat} : p ∈ frees n R ↔ p < n ∧ ∀ r ∈ R, hd r ≠ p := by
  unfold frees
  rw [List.mem_filter, List.mem_range]
  simp
theorem chk_free {p : Nat} (hp : p ∈ frees n R) {q : Nat} (hq : q ∈ frees n R) : bit (chk n R p) q = (q == p) := by
  unfold chk
  rw [chk_other p R _ q (mem_frees.mp hq).2, bit_unit, decide_eq_true (mem_frees.mp hq).1, Bool.true_and]
theorem hd_lt (hC : IsCode n C) (h : Desk n C R) {r : Word} (hr : r ∈ R) : hd r < n := by
  rw [← h.len hC r hr]
  exact (hd_spec (h.mem r hr).2).1
theorem chk_hd (hC : IsCode n C) (h : Desk n C R) (p : Nat) {r : Word} (hr : r ∈ R) : bit (chk n R p) (hd r) = bit r p :=
  chk_head p R _ r hr h.inc (by rw [unit_len]; exact hd_lt hC h hr)
/-- noughts at the free places: a row meets it as its head says -/
theorem dp_heads (hC : IsCode n C) (h : Desk n C R) {z : Word} (hz : z.length = n) (h0 : ∀ q ∈ frees n R, bit z q = false) {r : Word} (hr : r ∈ R) : dp r z = bit z (hd r) := by
  have hrl := h.len hC r hr
  have hb := (hd_spec (h.mem r hr).2).2.1
  have hlt := hd_lt hC h hr
  have key : ∀ (c : Word), c.length = n → (∀ i, bit c i = (bit z (hd r) && bit (unit n (hd r)) i)) → dp r c = bit z (hd r) := fun c hc e => by
    cases hzb : bit z (hd r) with
    | false =>
      refine dp_supp _ _ fun i => ?_
      rw [e, hzb, Bool.false_and, Bool.and_false]
    | true =>
      have : c = unit n (hd r) := ext_bit (by rw [hc, unit_len]) fun i => by rw [e, hzb, Bool.true_and]
      rw [this, dp_unit' hrl, hb]
  cases hzb : bit z (hd r) with
  | false =>
    refine dp_supp _ _ fun i => ?_
    by_cases hi : i < n
    · by_cases hh : ∃ q ∈ R, hd q = i
      · obtain ⟨q, hq, rfl⟩ := hh
        by_cases e : q = r
        · subst e; rw [hzb, Bool.and_false]
        · rw [h.red q hq r hr e, Bool.false_and]
      · rw [h0 i (mem_frees.mpr ⟨hi, fun q hq e => hh ⟨q, hq, e⟩⟩), Bool.and_false]
    · rw [bit_ge (by rw [hrl]; omega), Bool.false_and]
  | true =>
    have hul := unit_len n (hd r)
    have e : dp r (xw z (unit n (hd r))) = false := dp_supp _ _ fun i => by
      rw [bit_xw' hz hul, bit_unit]
      by_cases hi : i < n
      · by_cases hh : ∃ q ∈ R, hd q = i
        · obtain ⟨q, hq, rfl⟩ := hh
          by_cases e : q = r
          · subst e
            rw [hzb, decide_eq_true hi, beq_self_eq_true]
            simp
          · rw [h.red q hq r hr e, Bool.false_and]
        · have hne : (i == hd r) = false := by
            rw [beq_eq_false_iff_ne]
            exact fun e => hh ⟨r, hr, e.symm⟩
          rw [h0 i (mem_frees.mpr ⟨hi, fun q hq e => hh ⟨q, hq, e⟩⟩), hne]
          simp
      · rw [bit_ge (by rw [hrl]; omega), Bool.false_and]
    rw [dp_xwr r hz hul, dp_unit' hrl, hb] at e
    cases hd' : dp r z with
    | true => rfl
    | false => rw [hd'] at e; cases e
/-- a check meets the rows evenly -/
theorem chk_even (hC : IsCode n C) (h : Desk n C R) {p : Nat} (hp : p ∈ frees n R) {r : Word} (hr : r ∈ R) : dp r (chk n R p) = false := by
  have hl := chk_len n R p
  have hu := unit_len n p
  have hrl := h.len hC r hr
  have e : dp r (xw (chk n R p) (unit n p)) = bit (xw (chk n R p) (unit n p)) (hd r) := dp_heads hC h (xw_len hl hu) (fun q hq => by
    rw [bit_xw' hl hu, chk_free hp hq, bit_unit, decide_eq_true (mem_frees.mp hq).1, Bool.true_and]
    cases (q == p) <;> rfl) hr
  have hne : (hd r == p) = false := by
    rw [beq_eq_false_iff_ne]
    exact (mem_frees.mp hp).2 r hr
  rw [dp_xwr r hl hu, dp_unit' hrl, bit_xw' hl hu, chk_hd hC h p hr, bit_unit, hne, Bool.and_false] at e
  cases h1 : dp r (chk n R p) with
  | false => rfl
  | true =>
    rw [h1] at e
    cases h2 : bit r p <;> rw [h2] at e <;> cases e
def chks (n : Nat) (R : List Word) : List Word := (frees n R).map (chk n R)
theorem chks_len : ∀ w ∈ chks n R, w.length = n := fun w hw => by
  obtain ⟨p, _, rfl⟩ := List.mem_map.mp hw
  exact chk_len n R p
/-- the checks span what meets the rows evenly -/
theorem chks_spr (hC : IsCode n C) (h : Desk n C R) : ∀ w, w ∈ spr n (chks n R) ↔ w ∈ evens n R := fun w => by
  have hS := spr_code (chks_len (n := n) (R := R))
  refine ⟨spr_least (evens_code R) (fun v hv => ?_) w, fun hw => ?_⟩
  · obtain ⟨p, hp, rfl⟩ := List.mem_map.mp hv
    exact mem_evens.mpr ⟨chk_len n R p, fun r hr => chk_even hC h hp hr⟩
  · obtain ⟨hwl, hwe⟩ := mem_evens.mp hw
    -- a sum of checks that agrees with w at the free places
    have key : ∀ ps : List Nat, (∀ p ∈ ps, p ∈ frees n R) → ps.Nodup → ∃ u ∈ spr n (chks n R), ∀ q ∈ frees n R, bit u q = (decide (q ∈ ps) && bit w q) := by
      intro ps
      induction ps with
      | nil => exact fun _ _ => ⟨zw n, hS.zero, fun q _ => by rw [bit_zw]; simp⟩
      | cons p ps ih =>
        intro hps nd
        rw [List.nodup_cons] at nd
        obtain ⟨u, hu, e⟩ := ih (fun q hq => hps q (List.mem_cons_of_mem _ hq)) nd.2
        have hp := hps p List.mem_cons_self
        have hul := hS.len u hu
        cases hb : bit w p with
        | false =>
          refine ⟨u, hu, fun q hq => ?_⟩
          rw [e q hq]
          by_cases z : q = p
          · subst z; rw [hb]; simp
          · simp [z]
        | true =>
          refine ⟨xw u (chk n R p), hS.add u hu _ (spr_mem chks_len _ (List.mem_map.mpr ⟨p, hp, rfl⟩)), fun q hq => ?_⟩
          rw [bit_xw' hul (chk_len n R p), e q hq, chk_free hp hq]
          by_cases z : q = p
          · subst z
            have : decide (q ∈ ps) = false := decide_eq_false nd.1
            rw [this, hb]
            simp
          · have : (q == p) = false := by simpa using z
            rw [this]
            simp [z]
    obtain ⟨u, hu, e⟩ := key (frees n R) (fun _ h => h) (List.nodup_range.filter _)
    have hul := hS.len u hu
    have z0 : ∀ q ∈ frees n R, bit (xw w u) q = false := fun q hq => by
      rw [bit_xw' hwl hul, e q hq, decide_eq_true hq, Bool.true_and]
      cases bit w q <;> rfl
    have hue : ∀ r ∈ R, dp r u = false := by
      have hm : u ∈ evens n R := spr_least (evens_code R) (fun v hv => by
        obtain ⟨p, hp, rfl⟩ := List.mem_map.mp hv
        exact mem_evens.mpr ⟨chk_len n R p, fun r hr => chk_even hC h hp hr⟩) u hu
      exact (mem_evens.mp hm).2
    have zz : xw w u = zw n := by
      refine ext_bit (by rw [xw_len hwl hul, zw_length]) fun i => ?_
      rw [bit_zw]
      by_cases hi : i < n
      · by_cases hh : ∃ q ∈ R, hd q = i
        · obtain ⟨q, hq, rfl⟩ := hh
          rw [← dp_heads hC h (xw_len hwl hul) z0 hq, dp_xwr q hwl hul, hwe q hq, hue q hq]
          rfl
        · exact z0 i (mem_frees.mpr ⟨hi, fun q hq e => hh ⟨q, hq, e⟩⟩)
      · exact bit_ge (by rw [xw_len hwl hul]; omega)
    rw [xw_eq_zw hwl hul zz]
    exact hu
/-- how many the checks span -/
theorem chks_size (hC : IsCode n C) (h : Desk n C R) : (spr n (chks n R)).length = 2 ^ (frees n R).length := by
  have key : ∀ (ps : List Nat) (D : List Word), IsCode n D → (∀ p ∈ ps, p ∈ frees n R) → ps.Nodup → (∀ v ∈ D, ∀ p ∈ ps, bit v p = false) → ((ps.map (chk n R)).foldl sprStep D).length = D.length * 2 ^ ps.length := by
    intro ps
    induction ps with
    | nil => intro D _ _ _ _; simp
    | cons p ps ih =>
      intro D hD hps nd hz
      rw [List.nodup_cons] at nd
      have hp := hps p List.mem_cons_self
      have hn : chk n R p ∉ D := fun hm => by
        have := hz _ hm p List.mem_cons_self
        rw [chk_free hp hp, beq_self_eq_true] at this
        cases this
      rw [List.map_cons, List.foldl_cons, ih _ (hD.step (chk_len n R p)) (fun q hq => hps q (List.mem_cons_of_mem _ hq)) nd.2 fun v hv q hq => ?_]
      · unfold sprStep
        rw [if_neg hn, List.length_append, List.length_map, List.length_cons, Nat.pow_succ, ← Nat.two_mul, Nat.mul_comm 2, Nat.mul_assoc, Nat.mul_comm 2]
      · have hq' := hps q (List.mem_cons_of_mem _ hq)
        rcases (mem_step hD (chk_len n R p)).mp hv with hv | ⟨u, hu, rfl⟩
        · exact hz v hv q (List.mem_cons_of_mem _ hq)
        · have hne : (q == p) = false := by
            rw [beq_eq_false_iff_ne]
            exact fun e => nd.1 (e ▸ hq)
          rw [bit_xw' (hD.len u hu) (chk_len n R p), hz u hu q (List.mem_cons_of_mem _ hq), chk_free hp hq', hne]
          rfl
  have := key (frees n R) [zw n] (code_zw n) (fun _ h => h) (List.nodup_range.filter _) fun v hv p _ => by rw [List.mem_singleton.mp hv, bit_zw]
  rw [List.length_singleton, Nat.one_mul] at this
  exact this
theorem frees_count (hC : IsCode n C) (h : Desk n C R) : (frees n R).length + R.length = n := by
  have e : (List.range n).length = ((List.range n).filter fun p => (R.map hd).contains p).length + (frees n R).length := by
    unfold frees
    generalize List.range n = l
    induction l with
    | nil => rfl
    | cons p l ih =>
      cases hb : (R.map hd).contains p with
      | true =>
        rw [List.filter_cons_of_pos (by exact hb), List.filter_cons_of_neg (by show ¬ (!((R.map hd).contains p)) = true; rw [hb]; decide)]
        simp only [List.length_cons]
        omega
      | false =>
        rw [List.filter_cons_of_neg (by rw [hb]; decide), List.filter_cons_of_pos (by show (!((R.map hd).contains p)) = true; rw [hb]; rfl)]
        simp only [List.length_cons]
        omega
  have p : ((List.range n).filter fun p => (R.map hd).contains p).Perm (R.map hd) := by
    refine (List.perm_ext_iff_of_nodup (List.nodup_range.filter _) ?_).mpr fun x => ?_
    · unfold List.Nodup
      rw [List.pairwise_map]
      exact h.inc.imp fun {a b} hab e => by omega
    · rw [List.mem_filter, List.mem_range]
      refine ⟨fun ⟨_, z⟩ => by simpa using z, fun z => ?_⟩
      obtain ⟨r, hr, rfl⟩ := List.mem_map.mp z
      exact ⟨hd_lt hC h hr, by simpa using ⟨r, hr, rfl⟩⟩
  rw [List.length_range, p.length_eq, List.length_map] at e
  omega
/-- the desk of what meets evenly -/
def chkRows (n : Nat) (R : List Word) : List Word := deskRows (chks n R)
theorem chkRows_desk (hC : IsCode n C) (h : Desk n C R) : Desk n (evens n R) (chkRows n R) := (desk_of chks_len).congr (chks_spr hC h)
end
theorem Desk.size_eq {n : Nat} {C R : List Word} (hC : IsCode n C) (h : Desk n C R) : C.length = 2 ^ R.length := by
  have hl := h.len hC
  have hS := spr_code hl
  have p : C.Perm (L2.PD.spr n R) := (List.perm_ext_iff_of_nodup hC.nd hS.nd).mpr fun w => (h.spr hC w).symm
  rw [p.length_eq]
  have key : ∀ (rows D : List Word), IsCode n D → (∀ r ∈ rows, r.length = n ∧ true ∈ r) → rows.Pairwise (fun r r' => bit r' (hd r) = false ∧ bit r (hd r') = false) → (∀ v ∈ D, ∀ r ∈ rows, bit v (hd r) = false) → (rows.foldl sprStep D).length = D.length * 2 ^ rows.length := by
    intro rows
    induction rows with
    | nil => intro D _ _ _ _; simp
    | cons r rows ih =>
      intro D hD hr hp hz
      obtain ⟨h1, h2⟩ := hr r List.mem_cons_self
      rw [List.pairwise_cons] at hp
      have hn : r ∉ D := fun h => by
        have := hz r h r List.mem_cons_self
        rw [(hd_spec h2).2.1] at this
        cases this
      rw [List.foldl_cons, ih _ (hD.step h1) (fun q hq => hr q (List.mem_cons_of_mem _ hq)) hp.2 fun v hv q hq => ?_]
      · unfold sprStep
        rw [if_neg hn, List.length_append, List.length_map, List.length_cons, Nat.pow_succ, ← Nat.two_mul, Nat.mul_comm 2, Nat.mul_assoc, Nat.mul_comm 2]
      · rcases (mem_step hD h1).mp hv with hv | ⟨u, hu, rfl⟩
        · exact hz v hv q (List.mem_cons_of_mem _ hq)
        · rw [bit_xw' (hD.len u hu) h1, hz u hu q (List.mem_cons_of_mem _ hq), (hp.1 q hq).2]
          rfl
  have := key R [zw n] (code_zw n) (fun r hr => ⟨hl r hr, (h.mem r hr).2⟩) h.pw fun v hv r _ => by rw [List.mem_singleton.mp hv, bit_zw]
  rw [List.length_singleton, Nat.one_mul] at this
  exact this
section
variable {n : Nat} {C R : List Word}
theorem chkRows_count (hC : IsCode n C) (h : Desk n C R) : (chkRows n R).length + R.length = n := by
  have e1 := (desk_of (chks_len (n := n) (R := R))).size_eq (spr_code chks_len)
  rw [chks_size hC h] at e1
  have e2 := (Nat.pow_right_inj (show 1 < 2 by decide)).mp e1
  have e3 := frees_count hC h
  show (deskRows (chks n R)).length + _ = n
  omega
/-- twice: the code itself -/
theorem evens_twice (hC : IsCode n C) (h : Desk n C R) : ∀ w, w ∈ evens n (chkRows n R) ↔ w ∈ C := by
  have hE := evens_code (n := n) R
  have hD := chkRows_desk hC h
  have hD2 := chkRows_desk hE hD
  have hE2 := evens_code (n := n) (chkRows n R)
  have sub : ∀ w ∈ C, w ∈ evens n (chkRows n R) := fun w hw => mem_evens.mpr ⟨hC.len w hw, fun r hr => by
    have hr' := mem_evens.mp (hD.mem r hr).1
    rw [dp_comm]
    exact (evens_spr (h.len hC) hr'.1).mp hr'.2 w ((h.spr hC w).mpr hw)⟩
  have hlen : (evens n (chkRows n R)).length = C.length := by
    rw [hD2.size_eq hE2, h.size_eq hC]
    have c1 := chkRows_count hC h
    have c2 := chkRows_count hE hD
    congr 1
    omega
  exact same_of_sub hC.nd hE2.nd sub hlen
theorem chkRows_twice (hC : IsCode n C) (h : Desk n C R) : chkRows n (chkRows n R) = R := by
  have hE := evens_code (n := n) R
  have hD := chkRows_desk hC h
  exact Desk.unique hC ((chkRows_desk hE hD).congr (evens_twice hC h)) h
end
end L2.PD

set_option Elab.async false
set_option linter.all false
set_option autoImplicit false
/-! WM3: sums and meets of codes, how many words they have. -/
namespace L2.PD
/-- a list is told by its fibres -/
theorem fibres {α β : Type} [BEq β] [LawfulBEq β] (f : α → β) : ∀ (T : List β) (L : List α), T.Nodup → (∀ a ∈ L, f a ∈ T) → L.length = (T.map fun t => (L.filter fun a => f a == t).length).sum
  | [], L, _, h => by
    cases L with
    | nil => rfl
    | cons a L => exact nomatch h a List.mem_cons_self
  | t :: T, L, hn, h => by
    rw [List.nodup_cons] at hn
    have ih := fibres f T (L.filter fun a => !(f a == t)) hn.2 fun a ha => by
      obtain ⟨h1, h2⟩ := List.mem_filter.mp ha
      rcases List.mem_cons.mp (h a h1) with e | e
      · rw [e] at h2; simp at h2
      · exact e
    have e1 : L.length = (L.filter fun a => f a == t).length + (L.filter fun a => !(f a == t)).length := by
      clear ih h
      induction L with
      | nil => rfl
      | cons a L ih =>
        cases hb : f a == t with
        | true =>
          rw [List.filter_cons_of_pos (by exact hb), List.filter_cons_of_neg (by rw [hb]; decide)]
          simp only [List.length_cons]
          omega
        | false =>
          rw [List.filter_cons_of_neg (by rw [hb]; decide), List.filter_cons_of_pos (by rw [hb]; rfl)]
          simp only [List.length_cons]
          omega
    rw [e1, List.map_cons, List.sum_cons, ih]
    congr 2
    refine List.map_congr_left fun u hu => ?_
    rw [List.filter_filter]
    congr 1
    refine List.filter_congr fun a _ => ?_
    cases hb : f a == u with
    | false => rfl
    | true =>
      have : f a ≠ t := fun e => hn.1 (by rw [← e, eq_of_beq hb]; exact hu)
      simp [this]
theorem sum_const {α : Type} (l : List α) (f : α → Nat) (c : Nat) (h : ∀ x ∈ l, f x = c) : (l.map f).sum = l.length * c := by
  induction l with
  | nil => simp
  | cons x l ih =>
    rw [List.map_cons, List.sum_cons, h x List.mem_cons_self, ih fun y hy => h y (List.mem_cons_of_mem _ hy), List.length_cons, Nat.succ_mul]
    omega
/-- a map of codes: as many words as pictures times words that go to noughts -/
theorem kernel_count {n m : Nat} {C T : List Word} (hC : IsCode n C) (f : Word → Word) (hT : T.Nodup) (hf : ∀ a ∈ C, (f a).length = m) (hadd : ∀ a ∈ C, ∀ b ∈ C, f (xw a b) = xw (f a) (f b)) (hon : ∀ a ∈ C, f a ∈ T) (hto : ∀ t ∈ T, ∃ a ∈ C, f a = t) :
    C.length = T.length * (C.filter fun a => f a == zw m).length := by
  rw [fibres f T C hT hon]
  refine sum_const _ _ _ fun t ht => ?_
  obtain ⟨a, ha, rfl⟩ := hto t ht
  have p : (C.filter fun b => f b == f a).Perm ((C.filter fun b => f b == zw m).map fun b => xw b a) := by
    refine (List.perm_ext_iff_of_nodup (hC.nd.filter _) ?_).mpr fun w => ?_
    · unfold List.Nodup
      rw [List.pairwise_map]
      refine List.Pairwise.imp_of_mem (fun {u v} hu hv huv e => huv ?_) (hC.nd.filter _)
      exact xw_inj (hC.len u (List.mem_filter.mp hu).1) (hC.len v (List.mem_filter.mp hv).1) (hC.len a ha) e
    · rw [List.mem_filter, List.mem_map]
      refine ⟨fun ⟨h1, h2⟩ => ⟨xw w a, List.mem_filter.mpr ⟨hC.add w h1 a ha, ?_⟩, xw_cancel (hC.len w h1) (hC.len a ha)⟩, fun ⟨b, h1, h2⟩ => ?_⟩
      · rw [hadd w h1 a ha, beq_iff_eq.mp h2, xw_self (hf a ha), beq_self_eq_true]
      · obtain ⟨h3, h4⟩ := List.mem_filter.mp h1
        subst h2
        refine ⟨hC.add b h3 a ha, ?_⟩
        rw [hadd b h3 a ha, beq_iff_eq.mp h4, zw_xw (hf a ha), beq_self_eq_true]
  rw [p.length_eq, List.length_map]
section
variable {n : Nat} {A B : List Word}
def meet (A B : List Word) : List Word := A.filter fun w => decide (w ∈ B)
theorem mem_meet {w : Word} : w ∈ meet A B ↔ w ∈ A ∧ w ∈ B := by
  unfold meet
  rw [List.mem_filter, decide_eq_true_iff]
theorem meet_code (hA : IsCode n A) (hB : IsCode n B) : IsCode n (meet A B) where
  len := fun w h => hA.len w (mem_meet.mp h).1
  zero := mem_meet.mpr ⟨hA.zero, hB.zero⟩
  add := fun a ha b hb => mem_meet.mpr ⟨hA.add a (mem_meet.mp ha).1 b (mem_meet.mp hb).1, hB.add a (mem_meet.mp ha).2 b (mem_meet.mp hb).2⟩
  nd := hA.nd.filter _
/-- the sums of a word of each -/
theorem mem_join (hA : IsCode n A) (hB : IsCode n B) {L : List Word} (hL : ∀ w ∈ L, w ∈ A ∨ w ∈ B) (hAL : ∀ w ∈ A, w ∈ spr n L) (hBL : ∀ w ∈ B, w ∈ spr n L) (hl : ∀ w ∈ L, w.length = n) : ∀ w, w ∈ spr n L ↔ ∃ a ∈ A, ∃ b ∈ B, w = xw a b := fun w => by
  have hS := spr_code hl
  have memJ : ∀ w, w ∈ ((allW n).filter fun w => A.any fun a => B.any fun b => w == xw a b) ↔ ∃ a ∈ A, ∃ b ∈ B, w = xw a b := fun w => by
    rw [List.mem_filter, mem_allW, List.any_eq_true]
    refine ⟨fun ⟨_, a, ha, h⟩ => ?_, fun ⟨a, ha, b, hb, e⟩ => ⟨by rw [e]; exact xw_len (hA.len a ha) (hB.len b hb), a, ha, List.any_eq_true.mpr ⟨b, hb, by rw [e, beq_self_eq_true]⟩⟩⟩
    obtain ⟨b, hb, e⟩ := List.any_eq_true.mp h
    exact ⟨a, ha, b, hb, beq_iff_eq.mp e⟩
  have hJ : IsCode n ((allW n).filter fun w => A.any fun a => B.any fun b => w == xw a b) := by
    refine ⟨fun w hw => (mem_allW n w).mp (List.mem_filter.mp hw).1, (memJ _).mpr ⟨zw n, hA.zero, zw n, hB.zero, (xw_self (zw_length n)).symm⟩, fun u hu v hv => ?_, (nd_allW n).filter _⟩
    obtain ⟨a, ha, b, hb, rfl⟩ := (memJ u).mp hu
    obtain ⟨c, hc, d, hd, rfl⟩ := (memJ v).mp hv
    refine (memJ _).mpr ⟨xw a c, hA.add a ha c hc, xw b d, hB.add b hb d hd, ?_⟩
    have la := hA.len a ha; have lb := hB.len b hb; have lc := hA.len c hc; have ld := hB.len d hd
    refine ext_bit (by rw [xw_len (xw_len la lc) (xw_len lb ld), xw_len (xw_len la lb) (xw_len lc ld)]) fun i => ?_
    rw [bit_xw' (xw_len la lb) (xw_len lc ld), bit_xw' (xw_len la lc) (xw_len lb ld), bit_xw' la lc, bit_xw' lb ld, bit_xw' la lb, bit_xw' lc ld]
    cases bit a i <;> cases bit b i <;> cases bit c i <;> cases bit d i <;> rfl
  refine ⟨fun hw => (memJ w).mp (spr_least hJ (fun v hv => ?_) w hw), fun ⟨a, ha, b, hb, e⟩ => ?_⟩
  · rw [memJ]
    rcases hL v hv with h | h
    · exact ⟨v, h, zw n, hB.zero, (xw_zw (hl v hv)).symm⟩
    · exact ⟨zw n, hA.zero, v, h, (zw_xw (hl v hv)).symm⟩
  · rw [e]
    exact hS.add a (hAL a ha) b (hBL b hb)
/-- of the words of a sum, of a meet -/
theorem join_count (hA : IsCode n A) (hB : IsCode n B) {J : List Word} (hJ : J.Nodup) (mJ : ∀ w, w ∈ J ↔ ∃ a ∈ A, ∃ b ∈ B, w = xw a b) : J.length * (meet A B).length = A.length * B.length := by
  have prod : (A.flatMap fun a => B.map fun b => (a, b)).length = A.length * B.length := by
    clear hA mJ
    induction A with
    | nil => simp
    | cons a A ih => rw [List.flatMap_cons, List.length_append, List.length_map, ih, List.length_cons, Nat.succ_mul]; omega
  rw [← prod, fibres (fun p : Word × Word => xw p.1 p.2) J _ hJ fun p hp => ?_]
  · symm
    refine sum_const _ _ _ fun t ht => ?_
    obtain ⟨a, ha, b, hb, rfl⟩ := (mJ t).mp ht
    have la := hA.len a ha
    have lb := hB.len b hb
    have nd2 : (A.flatMap fun a => B.map fun b => (a, b)).Nodup := by
      unfold List.Nodup
      rw [List.pairwise_flatMap]
      refine ⟨fun x _ => ?_, ?_⟩
      · rw [List.pairwise_map]
        exact hB.nd.imp fun {c d} h e => h (Prod.mk.inj e).2
      · refine hA.nd.imp fun {c d} h => ?_
        intro x hx y hy
        obtain ⟨u, _, rfl⟩ := List.mem_map.mp hx
        obtain ⟨v, _, rfl⟩ := List.mem_map.mp hy
        exact fun e => h (Prod.mk.inj e).1
    have p : ((A.flatMap fun a => B.map fun b => (a, b)).filter fun p => xw p.1 p.2 == xw a b).Perm ((meet A B).map fun i => (xw a i, xw b i)) := by
      refine (List.perm_ext_iff_of_nodup (nd2.filter _) ?_).mpr fun q => ?_
      · unfold List.Nodup
        rw [List.pairwise_map]
        refine List.Pairwise.imp_of_mem (fun {u v} hu hv huv e => huv ?_) (meet_code hA hB).nd
        have lu := hA.len u (mem_meet.mp hu).1
        have lv := hA.len v (mem_meet.mp hv).1
        have e1 := (Prod.mk.inj e).1
        rw [xw_comm la lu, xw_comm la lv] at e1
        exact xw_inj lu lv la e1
      · obtain ⟨c, d⟩ := q
        rw [List.mem_filter, List.mem_flatMap, List.mem_map]
        refine ⟨fun ⟨⟨x, hx, hq⟩, h2⟩ => ?_, fun ⟨i, hi, e⟩ => ?_⟩
        · obtain ⟨y, hy, e⟩ := List.mem_map.mp hq
          cases e
          have lc := hA.len c hx
          have ld := hB.len d hy
          have h2 : xw c d = xw a b := beq_iff_eq.mp h2
          have e3 : xw a c = xw b d := by
            have : xw (xw a c) (xw b d) = zw n := by
              refine ext_bit (by rw [xw_len (xw_len la lc) (xw_len lb ld), zw_length]) fun i => ?_
              have h4 := congrArg (fun w => bit w i) h2
              simp only [bit_xw' lc ld, bit_xw' la lb] at h4
              rw [bit_xw' (xw_len la lc) (xw_len lb ld), bit_xw' la lc, bit_xw' lb ld, bit_zw]
              cases h5 : bit a i <;> cases h6 : bit b i <;> cases h7 : bit c i <;> cases h8 : bit d i <;> simp_all
            exact xw_eq_zw (xw_len la lc) (xw_len lb ld) this
          refine ⟨xw a c, mem_meet.mpr ⟨hA.add a ha c hx, by rw [e3]; exact hB.add b hb d hy⟩, ?_⟩
          congr 1
          · rw [← xw_assoc la la lc, xw_self la, zw_xw lc]
          · rw [e3, ← xw_assoc lb lb ld, xw_self lb, zw_xw ld]
        · cases e
          obtain ⟨h1, h2⟩ := mem_meet.mp hi
          have li := hA.len i h1
          refine ⟨⟨_, hA.add a ha i h1, List.mem_map.mpr ⟨_, hB.add b hb i h2, rfl⟩⟩, ?_⟩
          rw [beq_iff_eq]
          refine ext_bit (by rw [xw_len (xw_len la li) (xw_len lb li), xw_len la lb]) fun k => ?_
          rw [bit_xw' (xw_len la li) (xw_len lb li), bit_xw' la li, bit_xw' lb li, bit_xw' la lb]
          cases bit a k <;> cases bit b k <;> cases bit i k <;> rfl
    rw [p.length_eq, List.length_map]
  · rw [List.mem_flatMap] at hp
    obtain ⟨a, ha, hp⟩ := hp
    obtain ⟨b, hb, rfl⟩ := List.mem_map.mp hp
    exact (mJ _).mpr ⟨a, ha, b, hb, rfl⟩
/-- what meets two lists evenly -/
theorem evens_app (L M : List Word) (w : Word) : w ∈ evens n (L ++ M) ↔ w ∈ evens n L ∧ w ∈ evens n M := by
  rw [mem_evens, mem_evens, mem_evens]
  refine ⟨fun ⟨h1, h2⟩ => ⟨⟨h1, fun r hr => h2 r (List.mem_append_left _ hr)⟩, ⟨h1, fun r hr => h2 r (List.mem_append_right _ hr)⟩⟩, fun ⟨⟨h1, h2⟩, ⟨_, h3⟩⟩ => ⟨h1, fun r hr => ?_⟩⟩
  rcases List.mem_append.mp hr with h | h
  · exact h2 r h
  · exact h3 r h
/-- the rows of a span meet evenly what the words do -/
theorem evens_rows {R L : List Word} (hl : ∀ w ∈ L, w.length = n) (hD : Desk n (spr n L) R) (w : Word) : w ∈ evens n R ↔ w ∈ evens n L := by
  have hC := spr_code hl
  rw [mem_evens, mem_evens]
  refine and_congr_right fun hw => ?_
  rw [evens_spr (hD.len hC) hw, evens_spr hl hw]
  exact ⟨fun h r hr => h r ((hD.spr hC r).mpr hr), fun h r hr => h r ((hD.spr hC r).mp hr)⟩
end
end L2.PD

set_option Elab.async false
set_option linter.all false
set_option autoImplicit false
/-! WM4: codes cut to places, ranks. -/
namespace L2.PD
def proj (X : List Nat) (w : Word) : Word := X.map (bit w)
theorem proj_len (X : List Nat) (w : Word) : (proj X w).length = X.length := List.length_map ..
theorem proj_xw {n : Nat} (X : List Nat) {a b : Word} (ha : a.length = n) (hb : b.length = n) : proj X (xw a b) = xw (proj X a) (proj X b) := by
  unfold proj
  rw [show xw (X.map (bit a)) (X.map (bit b)) = X.map fun x => (bit a x != bit b x) by unfold xw; rw [List.zipWith_map, List.zipWith_self]]
  exact List.map_congr_left fun x _ => bit_xw' ha hb x
theorem proj_zw (X : List Nat) (w : Word) : proj X w = zw X.length ↔ ∀ x ∈ X, bit w x = false := by
  unfold proj zw
  rw [← List.map_const', List.map_inj_left]
theorem proj_zero (X : List Nat) (n : Nat) : proj X (zw n) = zw X.length := (proj_zw X _).mpr fun x _ => bit_zw n x
/-- the words with noughts at the places -/
def ker (C : List Word) (X : List Nat) : List Word := C.filter fun w => proj X w == zw X.length
def rk (R : List Word) (X : List Nat) : Nat := (deskRows (R.map (proj X))).length
def dim (n : Nat) (C : List Word) : Nat := (rowsL n C).length
theorem dim_size {n : Nat} {C : List Word} (hC : IsCode n C) : C.length = 2 ^ dim n C := (rows_desk hC).size_eq hC
section
variable {n : Nat} {C R : List Word}
theorem mem_ker {X : List Nat} {w : Word} : w ∈ ker C X ↔ w ∈ C ∧ ∀ x ∈ X, bit w x = false := by
  unfold ker
  rw [List.mem_filter, beq_iff_eq, proj_zw]
theorem ker_code (hC : IsCode n C) (X : List Nat) : IsCode n (ker C X) where
  len := fun w h => hC.len w (mem_ker.mp h).1
  zero := mem_ker.mpr ⟨hC.zero, fun x _ => bit_zw n x⟩
  add := fun a ha b hb => by
    obtain ⟨h1, h2⟩ := mem_ker.mp ha
    obtain ⟨h3, h4⟩ := mem_ker.mp hb
    exact mem_ker.mpr ⟨hC.add a h1 b h3, fun x hx => by rw [bit_xw' (hC.len a h1) (hC.len b h3), h2 x hx, h4 x hx]; rfl⟩
  nd := hC.nd.filter _
theorem projs_len (X : List Nat) (R : List Word) : ∀ w ∈ R.map (proj X), w.length = X.length := fun w hw => by
  obtain ⟨r, _, rfl⟩ := List.mem_map.mp hw
  exact proj_len X r
/-- the rows cut span the code cut -/
theorem mem_cut (hC : IsCode n C) (h : Desk n C R) (X : List Nat) : ∀ v, v ∈ spr X.length (R.map (proj X)) ↔ ∃ c ∈ C, proj X c = v := by
  have hl := h.len hC
  have hS := spr_code (projs_len X R)
  -- the words of the code whose cut lies in the span are a code with the rows
  have up : ∀ w ∈ spr n R, proj X w ∈ spr X.length (R.map (proj X)) := by
    have hP : IsCode n ((allW n).filter fun w => decide (proj X w ∈ spr X.length (R.map (proj X)))) := by
      have mem : ∀ w, w ∈ ((allW n).filter fun w => decide (proj X w ∈ spr X.length (R.map (proj X)))) ↔ w.length = n ∧ proj X w ∈ spr X.length (R.map (proj X)) := fun w => by
        rw [List.mem_filter, mem_allW, decide_eq_true_iff]
      exact ⟨fun w hw => ((mem w).mp hw).1, (mem _).mpr ⟨zw_length n, by rw [proj_zero]; exact hS.zero⟩, fun a ha b hb => (mem _).mpr ⟨xw_len ((mem a).mp ha).1 ((mem b).mp hb).1, by
        rw [proj_xw X ((mem a).mp ha).1 ((mem b).mp hb).1]
        exact hS.add _ ((mem a).mp ha).2 _ ((mem b).mp hb).2⟩, (nd_allW n).filter _⟩
    intro w hw
    have := spr_least hP (fun r hr => by
      rw [List.mem_filter, mem_allW, decide_eq_true_iff]
      exact ⟨hl r hr, spr_mem (projs_len X R) _ (List.mem_map.mpr ⟨r, hr, rfl⟩)⟩) w hw
    rw [List.mem_filter, decide_eq_true_iff] at this
    exact this.2
  have hQ : IsCode X.length ((allW X.length).filter fun v => C.any fun c => proj X c == v) := by
    have mem : ∀ v, v ∈ ((allW X.length).filter fun v => C.any fun c => proj X c == v) ↔ ∃ c ∈ C, proj X c = v := fun v => by
      rw [List.mem_filter, mem_allW, List.any_eq_true]
      exact ⟨fun ⟨_, c, hc, e⟩ => ⟨c, hc, beq_iff_eq.mp e⟩, fun ⟨c, hc, e⟩ => ⟨by rw [← e]; exact proj_len X c, c, hc, by rw [e, beq_self_eq_true]⟩⟩
    refine ⟨fun v hv => (mem_allW _ v).mp (List.mem_filter.mp hv).1, (mem _).mpr ⟨zw n, hC.zero, proj_zero X n⟩, fun a ha b hb => ?_, (nd_allW _).filter _⟩
    obtain ⟨c, hc, rfl⟩ := (mem a).mp ha
    obtain ⟨d, hd, rfl⟩ := (mem b).mp hb
    exact (mem _).mpr ⟨xw c d, hC.add c hc d hd, proj_xw X (hC.len c hc) (hC.len d hd)⟩
  intro v
  refine ⟨fun hv => ?_, fun ⟨c, hc, e⟩ => by rw [← e]; exact up c ((h.spr hC c).mpr hc)⟩
  have := spr_least hQ (fun u hu => by
    obtain ⟨r, hr, rfl⟩ := List.mem_map.mp hu
    rw [List.mem_filter, mem_allW, List.any_eq_true]
    exact ⟨proj_len X r, r, (h.mem r hr).1, beq_self_eq_true _⟩) v hv
  rw [List.mem_filter, List.any_eq_true] at this
  obtain ⟨_, c, hc, e⟩ := this
  exact ⟨c, hc, beq_iff_eq.mp e⟩
theorem rk_size (R : List Word) (X : List Nat) : (spr X.length (R.map (proj X))).length = 2 ^ rk R X :=
  (desk_of (projs_len X R)).size_eq (spr_code (projs_len X R))
/-- rank and noughts -/
theorem rk_dim (hC : IsCode n C) (h : Desk n C R) (X : List Nat) : rk R X + dim n (ker C X) = R.length := by
  have hS := spr_code (projs_len X R)
  have e := kernel_count hC (proj X) hS.nd (fun a _ => proj_len X a) (fun a ha b hb => proj_xw X (hC.len a ha) (hC.len b hb)) (fun a ha => (mem_cut hC h X _).mpr ⟨a, ha, rfl⟩) fun t ht => (mem_cut hC h X t).mp ht
  rw [h.size_eq hC, rk_size, show (C.filter fun a => proj X a == zw X.length) = ker C X from rfl, dim_size (ker_code hC X), ← Nat.pow_add] at e
  exact ((Nat.pow_right_inj (show 1 < 2 by decide)).mp e).symm
theorem sub_dim {A B : List Word} (hA : IsCode n A) (hB : IsCode n B) (h : ∀ w ∈ A, w ∈ B) : dim n A ≤ dim n B := by
  have p : (B.filter fun w => decide (w ∈ A)).Perm A := (List.perm_ext_iff_of_nodup (hB.nd.filter _) hA.nd).mpr fun w => by
    rw [List.mem_filter, decide_eq_true_iff]
    exact ⟨fun h => h.2, fun h' => ⟨h w h', h'⟩⟩
  have le : A.length ≤ B.length := by
    rw [← p.length_eq]
    exact List.length_filter_le _ _
  rw [dim_size hA, dim_size hB] at le
  exact (Nat.pow_le_pow_iff_right (show 1 < 2 by decide)).mp le
theorem same_dim {A B : List Word} (hA : IsCode n A) (hB : IsCode n B) (h : ∀ w, w ∈ A ↔ w ∈ B) : dim n A = dim n B :=
  Nat.le_antisymm (sub_dim hA hB fun w => (h w).mp) (sub_dim hB hA fun w => (h w).mpr)
theorem rk_mono (hC : IsCode n C) (h : Desk n C R) {X Y : List Nat} (s : ∀ p ∈ X, p ∈ Y) : rk R X ≤ rk R Y := by
  have e1 := rk_dim hC h X
  have e2 := rk_dim hC h Y
  have := sub_dim (ker_code hC Y) (ker_code hC X) fun w hw => mem_ker.mpr ⟨(mem_ker.mp hw).1, fun x hx => (mem_ker.mp hw).2 x (s x hx)⟩
  omega
theorem rk_sub (hC : IsCode n C) (h : Desk n C R) {X Y U I : List Nat} (hU : ∀ p, p ∈ U ↔ p ∈ X ∨ p ∈ Y) (hI : ∀ p, p ∈ I ↔ p ∈ X ∧ p ∈ Y) : rk R U + rk R I ≤ rk R X + rk R Y := by
  have hA := ker_code hC X
  have hB := ker_code hC Y
  have lA := (rows_desk hA).len hA
  have lB := (rows_desk hB).len hB
  have lJ : ∀ w ∈ rowsL n (ker C X) ++ rowsL n (ker C Y), w.length = n := fun w hw => by
    rcases List.mem_append.mp hw with h | h
    · exact lA w h
    · exact lB w h
  have hJ := spr_code lJ
  have mJ := mem_join hA hB (L := rowsL n (ker C X) ++ rowsL n (ker C Y)) (fun w hw => by
    rcases List.mem_append.mp hw with h | h
    · exact .inl ((rows_desk hA).mem w h).1
    · exact .inr ((rows_desk hB).mem w h).1) (fun w hw => spr_least hJ (fun r hr => spr_mem lJ r (List.mem_append_left _ hr)) w (((rows_desk hA).spr hA w).mpr hw)) (fun w hw => spr_least hJ (fun r hr => spr_mem lJ r (List.mem_append_right _ hr)) w (((rows_desk hB).spr hB w).mpr hw)) lJ
  have cnt := join_count hA hB hJ.nd mJ
  rw [dim_size hJ, dim_size (meet_code hA hB), dim_size hA, dim_size hB, ← Nat.pow_add, ← Nat.pow_add] at cnt
  have cnt := (Nat.pow_right_inj (show 1 < 2 by decide)).mp cnt
  have s1 : dim n (spr n (rowsL n (ker C X) ++ rowsL n (ker C Y))) ≤ dim n (ker C I) := sub_dim hJ (ker_code hC I) fun w hw => by
    obtain ⟨a, ha, b, hb, rfl⟩ := (mJ w).mp hw
    obtain ⟨a1, a2⟩ := mem_ker.mp ha
    obtain ⟨b1, b2⟩ := mem_ker.mp hb
    exact mem_ker.mpr ⟨hC.add a a1 b b1, fun x hx => by rw [bit_xw' (hC.len a a1) (hC.len b b1), a2 x ((hI x).mp hx).1, b2 x ((hI x).mp hx).2]; rfl⟩
  have s2 : dim n (meet (ker C X) (ker C Y)) = dim n (ker C U) := same_dim (meet_code hA hB) (ker_code hC U) fun w => by
    rw [mem_meet, mem_ker, mem_ker, mem_ker]
    refine ⟨fun ⟨⟨h1, h2⟩, ⟨_, h3⟩⟩ => ⟨h1, fun x hx => ?_⟩, fun ⟨h1, h2⟩ => ⟨⟨h1, fun x hx => h2 x ((hU x).mpr (.inl hx))⟩, ⟨h1, fun x hx => h2 x ((hU x).mpr (.inr hx))⟩⟩⟩
    rcases (hU x).mp hx with h | h
    · exact h2 x h
    · exact h3 x h
  have e1 := rk_dim hC h X
  have e2 := rk_dim hC h Y
  have e3 := rk_dim hC h U
  have e4 := rk_dim hC h I
  omega
theorem rk_le (R : List Word) (X : List Nat) : rk R X ≤ X.length := by
  have := chkRows_count (spr_code (projs_len X R)) (desk_of (projs_len X R))
  unfold rk
  omega
/-- one place more -/
theorem rk_one (hC : IsCode n C) (h : Desk n C R) {X : List Nat} {p : Nat} (hp : p ∉ X) : rk R X ≤ rk R (X ++ [p]) ∧ rk R (X ++ [p]) ≤ rk R X + 1 := by
  refine ⟨rk_mono hC h fun q hq => List.mem_append_left _ hq, ?_⟩
  have := rk_sub hC h (X := X) (Y := [p]) (U := X ++ [p]) (I := []) (fun q => by rw [List.mem_append]) fun q => by
    simp
    intro hq e
    exact hp (e ▸ hq)
  have l1 := rk_le R [p]
  simp at l1
  omega
/-- noughts outside the places: the even meeting is told by the places -/
theorem dp_proj {w : Word} : ∀ (X : List Nat) (c : Word), X.Nodup → c.length = n → w.length = n → (∀ x ∈ X, x < n) → (∀ i, i ∉ X → bit c i = false) → dp c w = dp (proj X c) (proj X w)
  | [], c, _, _, _, _, h => by
    show dp c w = false
    exact dp_supp _ _ fun i => by rw [h i (by simp), Bool.false_and]
  | x :: X, c, nd, hc, hw, hX, h => by
    rw [List.nodup_cons] at nd
    show dp c w = ((bit c x && bit w x) != dp (proj X c) (proj X w))
    have hx := hX x List.mem_cons_self
    cases hb : bit c x with
    | false =>
      rw [dp_proj X c nd.2 hc hw (fun y hy => hX y (List.mem_cons_of_mem _ hy)) fun i hi => ?_]
      · simp
      · by_cases e : i = x
        · rw [e, hb]
        · exact h i (by simp [e, hi])
    | true =>
      have hu := unit_len n x
      have hl := xw_len hc hu
      have e1 : dp (xw c (unit n x)) w = (dp c w != bit w x) := by rw [dp_xw' w hc hu, dp_comm (unit n x), dp_unit' hw]
      have e2 := dp_proj X (xw c (unit n x)) nd.2 hl hw (fun y hy => hX y (List.mem_cons_of_mem _ hy)) fun i hi => by
        rw [bit_xw' hc hu, bit_unit]
        by_cases e : i = x
        · subst e
          rw [hb, decide_eq_true hx, beq_self_eq_true]
          rfl
        · rw [h i (by simp [e, hi])]
          have : (i == x) = false := by simpa using e
          rw [this, Bool.and_false]
          rfl
      have e3 : proj X (xw c (unit n x)) = proj X c := by
        unfold proj
        refine List.map_congr_left fun y hy => ?_
        have : (y == x) = false := by
          rw [beq_eq_false_iff_ne]
          exact fun e => nd.1 (e ▸ hy)
        rw [bit_xw' hc hu, bit_unit, this, Bool.and_false]
        cases bit c y <;> rfl
      rw [e3, e1] at e2
      rw [← e2]
      cases dp c w <;> cases bit w x <;> rfl
/-- the word with bits at places -/
def ext (n : Nat) (X : List Nat) (u : Word) : Word := (List.range n).map fun i => decide (i ∈ X) && bit u (X.idxOf i)
theorem ext_len (n : Nat) (X : List Nat) (u : Word) : (ext n X u).length = n := by simp [ext]
theorem bit_ext (X : List Nat) (u : Word) (i : Nat) : bit (ext n X u) i = (decide (i < n) && (decide (i ∈ X) && bit u (X.idxOf i))) := by
  by_cases h : i < n
  · rw [bit_lt (by rw [ext_len]; exact h)]
    simp [ext, h]
  · rw [bit_ge (by rw [ext_len]; omega)]
    simp [h]
theorem proj_ext {X : List Nat} (nd : X.Nodup) (hX : ∀ x ∈ X, x < n) {u : Word} (hu : u.length = X.length) : proj X (ext n X u) = u := by
  refine ext_bit (by rw [proj_len, hu]) fun i => ?_
  by_cases h : i < X.length
  · rw [bit_lt (by rw [proj_len]; exact h)]
    unfold proj
    rw [List.getElem_map, bit_ext, decide_eq_true (hX _ (List.getElem_mem h)), decide_eq_true (List.getElem_mem h), Bool.true_and, Bool.true_and]
    congr 1
    exact List.Nodup.idxOf_getElem nd i h
  · rw [bit_ge (by rw [proj_len]; omega), bit_ge (by omega)]
/-- the rank of places by the checks -/
theorem rk_dual (hC : IsCode n C) (h : Desk n C R) {X Y : List Nat} (nd : X.Nodup) (hX : ∀ x ∈ X, x < n) (hY : ∀ p, p ∈ Y ↔ p < n ∧ p ∉ X) : rk (chkRows n R) X + R.length = X.length + rk R Y := by
  have hE := evens_code (n := n) R
  have dE := chkRows_desk hC h
  have e1 := rk_dim hC h Y
  have hT := spr_code (projs_len X (chkRows n R))
  have dT := desk_of (projs_len X (chkRows n R))
  have c1 := chkRows_count hT dT
  have dK := (chkRows_desk hT dT).size_eq (evens_code _)
  -- the words of the code with noughts outside, cut, are all that meet the checks cut evenly
  have key : (evens X.length (deskRows ((chkRows n R).map (proj X)))).length = (ker C Y).length := by
    have hK := ker_code hC Y
    have out : ∀ c ∈ ker C Y, ∀ i, i ∉ X → bit c i = false := fun c hc i hi => by
      by_cases hin : i < n
      · exact (mem_ker.mp hc).2 i ((hY i).mpr ⟨hin, hi⟩)
      · exact bit_ge (by rw [hK.len c hc]; omega)
    have p : (evens X.length (deskRows ((chkRows n R).map (proj X)))).Perm ((ker C Y).map (proj X)) := by
      refine (List.perm_ext_iff_of_nodup (evens_code _).nd ?_).mpr fun u => ?_
      · unfold List.Nodup
        rw [List.pairwise_map]
        refine List.Pairwise.imp_of_mem (fun {a b} ha hb hab e => hab ?_) hK.nd
        refine ext_bit (by rw [hK.len a ha, hK.len b hb]) fun i => ?_
        by_cases hi : i ∈ X
        · unfold proj at e
          exact List.map_inj_left.mp e i hi
        · rw [out a ha i hi, out b hb i hi]
      · rw [evens_rows (projs_len X _) dT, mem_evens, List.mem_map]
        refine ⟨fun ⟨hu, hr⟩ => ⟨ext n X u, mem_ker.mpr ⟨?_, fun y hy => ?_⟩, proj_ext nd hX hu⟩, fun ⟨c, hc, e⟩ => ?_⟩
        · rw [← evens_twice hC h, mem_evens]
          refine ⟨ext_len n X u, fun r hr' => ?_⟩
          have hrl := dE.len hE r hr'
          rw [dp_comm, dp_proj X _ nd (ext_len n X u) hrl hX fun i hi => by rw [bit_ext, decide_eq_false hi]; simp, proj_ext nd hX hu, dp_comm]
          exact hr _ (List.mem_map.mpr ⟨r, hr', rfl⟩)
        · rw [bit_ext, decide_eq_false ((hY y).mp hy).2]
          simp
        · subst e
          refine ⟨proj_len X c, fun v hv => ?_⟩
          obtain ⟨r, hr, rfl⟩ := List.mem_map.mp hv
          have hrl := dE.len hE r hr
          have hcl := hK.len c hc
          rw [dp_comm, ← dp_proj X c nd hcl hrl hX (out c hc), dp_comm]
          have hc' := (evens_twice hC h c).mpr (mem_ker.mp hc).1
          exact (mem_evens.mp hc').2 r hr
    rw [p.length_eq, List.length_map]
  rw [key, dim_size (ker_code hC Y)] at dK
  have dK := (Nat.pow_right_inj (show 1 < 2 by decide)).mp dK
  have e2 : rk (chkRows n R) X = (deskRows ((chkRows n R).map (proj X))).length := rfl
  omega
end
end L2.PD

set_option Elab.async false
set_option linter.all false
set_option autoImplicit false
/-! WM5: counts by weight; the counts of a code tell those of its checks. -/
namespace L2.PD
def wt (w : Word) : Nat := w.count true
theorem wt_le (w : Word) : wt w ≤ w.length := List.count_le_length
def sg (b : Bool) : Int := if b = true then -1 else 1
theorem sg_ne (a b : Bool) : sg (a != b) = sg a * sg b := by cases a <;> cases b <;> rfl
def isum {α : Type} (l : List α) (f : α → Int) : Int := (l.map f).sum
theorem isum_nil {α : Type} (f : α → Int) : isum [] f = 0 := rfl
theorem isum_cons {α : Type} (x : α) (l : List α) (f : α → Int) : isum (x :: l) f = f x + isum l f := by simp [isum]
theorem isum_app {α : Type} (l m : List α) (f : α → Int) : isum (l ++ m) f = isum l f + isum m f := by simp [isum]
theorem isum_congr {α : Type} {l : List α} {f g : α → Int} (h : ∀ x ∈ l, f x = g x) : isum l f = isum l g := by
  unfold isum
  rw [List.map_congr_left h]
theorem isum_map {α β : Type} (l : List α) (h : α → β) (f : β → Int) : isum (l.map h) f = isum l fun x => f (h x) := by
  unfold isum
  rw [List.map_map]
  rfl
theorem isum_add {α : Type} (l : List α) (f g : α → Int) : isum l (fun x => f x + g x) = isum l f + isum l g := by
  induction l with
  | nil => rfl
  | cons x l ih => rw [isum_cons, isum_cons, isum_cons, ih]; omega
theorem isum_mul {α : Type} (l : List α) (f : α → Int) (c : Int) : isum l (fun x => c * f x) = c * isum l f := by
  induction l with
  | nil => simp [isum]
  | cons x l ih => rw [isum_cons, isum_cons, ih, Int.mul_add]
theorem isum_zero {α : Type} (l : List α) : isum l (fun _ => 0) = 0 := by
  induction l with
  | nil => rfl
  | cons x l ih => rw [isum_cons, ih]; rfl
theorem isum_one {α : Type} (l : List α) (c : Int) : isum l (fun _ => c) = l.length * c := by
  induction l with
  | nil => simp [isum]
  | cons x l ih =>
    rw [isum_cons, ih, List.length_cons]
    push_cast
    rw [Int.add_mul]
    omega
theorem isum_swap {α β : Type} (l : List α) (m : List β) (f : α → β → Int) : isum l (fun x => isum m (f x)) = isum m fun y => isum l fun x => f x y := by
  induction l with
  | nil =>
    rw [isum_nil]
    exact (isum_zero m).symm
  | cons x l ih =>
    rw [isum_cons, ih, ← isum_add]
    exact isum_congr fun y _ => (isum_cons x l fun x => f x y).symm
theorem isum_perm {α : Type} {l m : List α} (h : l.Perm m) (f : α → Int) : isum l f = isum m f := by
  induction h with
  | nil => rfl
  | cons x _ ih => rw [isum_cons, isum_cons, ih]
  | swap x y l => rw [isum_cons, isum_cons, isum_cons, isum_cons]; omega
  | trans _ _ h1 h2 => exact h1.trans h2
theorem isum_filter {α : Type} (l : List α) (p : α → Bool) (f : α → Int) : isum (l.filter p) f = isum l fun x => if p x = true then f x else 0 := by
  induction l with
  | nil => rfl
  | cons x l ih =>
    rw [isum_cons]
    cases h : p x with
    | true => rw [List.filter_cons_of_pos h, isum_cons, ih, if_pos rfl]
    | false => rw [List.filter_cons_of_neg (by rw [h]; exact Bool.false_ne_true), ih, if_neg Bool.false_ne_true]; omega
/-! ### words of a weight, signed -/
/-- coefficient j of (1 - x)^i (1 + x)^m -/
def kr0 : Nat → Nat → Int
  | 0, 0 => 1
  | 0, _ + 1 => 0
  | m + 1, 0 => kr0 m 0
  | m + 1, j + 1 => kr0 m (j + 1) + kr0 m j
def kr : Nat → Nat → Nat → Int
  | 0, m, j => kr0 m j
  | i + 1, m, 0 => kr i m 0
  | i + 1, m, j + 1 => kr i m (j + 1) - kr i m j
theorem kr_s0 (i m : Nat) : kr (i + 1) m 0 = kr i m 0 := by rw [kr]
theorem kr_ss (i m j : Nat) : kr (i + 1) m (j + 1) = kr i m (j + 1) - kr i m j := by rw [kr]
theorem kr_m0 : ∀ i m, kr i (m + 1) 0 = kr i m 0
  | 0, m => rfl
  | i + 1, m => by rw [kr_s0, kr_s0, kr_m0 i m]
theorem kr_m : ∀ i m j, kr i (m + 1) (j + 1) = kr i m (j + 1) + kr i m j
  | 0, m, j => rfl
  | i + 1, m, 0 => by
    rw [kr_ss, kr_m i m 0, kr_m0, kr_ss, kr_s0]
    omega
  | i + 1, m, j + 1 => by
    rw [kr_ss, kr_m i m (j + 1), kr_m i m j, kr_ss, kr_ss]
    omega
def wsum (n : Nat) (c : Word) (j : Nat) : Int := isum ((allC n).filter fun w => wt w == j) fun w => sg (dp c w)
  where allC : Nat → List Word
    | 0 => [[]]
    | n + 1 => (allC n).map (false :: ·) ++ (allC n).map (true :: ·)
theorem mem_allC : ∀ (n : Nat) (w : Word), w ∈ wsum.allC n ↔ w.length = n
  | 0, w => by simp [wsum.allC]
  | n + 1, w => by
    unfold wsum.allC
    rw [List.mem_append, List.mem_map, List.mem_map]
    refine ⟨fun h => ?_, fun h => ?_⟩
    · rcases h with ⟨u, hu, rfl⟩ | ⟨u, hu, rfl⟩ <;> simp [(mem_allC n u).mp hu]
    · cases w with
      | nil => cases h
      | cons b w =>
        have hl := (mem_allC n w).mpr (by simpa using h)
        cases b
        · exact .inl ⟨w, hl, rfl⟩
        · exact .inr ⟨w, hl, rfl⟩
theorem nd_allC : ∀ n : Nat, (wsum.allC n).Nodup
  | 0 => by simp [wsum.allC]
  | n + 1 => by
    unfold wsum.allC
    have inj : ∀ b : Bool, ((wsum.allC n).map (b :: ·)).Nodup := fun b => by
      unfold List.Nodup
      rw [List.pairwise_map]
      exact (nd_allC n).imp fun {a c} h e => h (List.cons.inj e).2
    rw [List.nodup_append]
    refine ⟨inj false, inj true, fun a ha b hb e => ?_⟩
    obtain ⟨u, _, rfl⟩ := List.mem_map.mp ha
    obtain ⟨v, _, rfl⟩ := List.mem_map.mp hb
    cases (List.cons.inj e).1
theorem wt_cons (b : Bool) (w : Word) : wt (b :: w) = wt w + if b = true then 1 else 0 := by
  unfold wt
  rw [List.count_cons]
  cases b <;> rfl
theorem wsum_step (n : Nat) (b : Bool) (c : Word) (j : Nat) : wsum (n + 1) (b :: c) j = wsum n c j + (match j with | 0 => 0 | j + 1 => sg b * wsum n c j) := by
  unfold wsum
  show isum (((wsum.allC n).map (false :: ·) ++ (wsum.allC n).map (true :: ·)).filter fun w => wt w == j) _ = _
  rw [isum_filter, isum_app, isum_map, isum_map, isum_filter]
  congr 1
  · refine isum_congr fun w _ => ?_
    have e : wt (false :: w) = wt w := by rw [wt_cons]; rfl
    have e2 : dp (b :: c) (false :: w) = dp c w := by
      show ((b && false) != dp c w) = _
      rw [Bool.and_false]
      cases dp c w <;> rfl
    rw [e, e2]
  · cases j with
    | zero =>
      refine (isum_congr (g := fun _ => 0) fun w _ => ?_).trans (isum_zero _)
      have e : (wt (true :: w) == 0) = false := by rw [wt_cons]; simp
      rw [e, if_neg Bool.false_ne_true]
    | succ j =>
      show _ = sg b * isum ((wsum.allC n).filter fun w => wt w == j) fun w => sg (dp c w)
      rw [isum_filter, ← isum_mul]
      refine isum_congr fun w _ => ?_
      have e : (wt (true :: w) == j + 1) = (wt w == j) := by
        rw [wt_cons, Bool.eq_iff_iff, beq_iff_eq, beq_iff_eq]
        simp
      have e2 : dp (b :: c) (true :: w) = (b != dp c w) := by
        show ((b && true) != dp c w) = _
        rw [Bool.and_true]
      rw [e, e2, sg_ne]
      split
      · rfl
      · omega
theorem wsum_kr : ∀ (c : Word) (j : Nat), wsum c.length c j = kr (wt c) (c.length - wt c) j
  | [], 0 => by simp [wsum, wsum.allC, kr, kr0, wt, isum, dp, sg]
  | [], j + 1 => by simp [wsum, wsum.allC, kr, kr0, wt, isum]
  | b :: c, j => by
    have hle := wt_le c
    rw [List.length_cons, wsum_step, wt_cons]
    cases b with
    | true =>
      have e : c.length + 1 - (wt c + if true = true then 1 else 0) = c.length - wt c := by simp
      rw [e, if_pos rfl]
      cases j with
      | zero =>
        rw [kr_s0, wsum_kr c 0]
        show _ + (0 : Int) = _
        omega
      | succ j =>
        rw [kr_ss, wsum_kr c (j + 1)]
        show _ + sg true * wsum c.length c j = _
        rw [wsum_kr c j]
        show _ + (-1) * _ = _
        omega
    | false =>
      have e : c.length + 1 - (wt c + if false = true then 1 else 0) = (c.length - wt c) + 1 := by simp; omega
      rw [e, if_neg Bool.false_ne_true, Nat.add_zero]
      cases j with
      | zero =>
        rw [kr_m0, wsum_kr c 0]
        show _ + (0 : Int) = _
        omega
      | succ j =>
        rw [kr_m, wsum_kr c (j + 1)]
        show _ + sg false * wsum c.length c j = _
        rw [wsum_kr c j]
        show _ + 1 * _ = _
        omega
/-! ### all words of a code, signed -/
theorem char_sum {n : Nat} {C : List Word} (hC : IsCode n C) {w : Word} (hw : w.length = n) : isum C (fun c => sg (dp c w)) = if ∀ c ∈ C, dp c w = false then (C.length : Int) else 0 := by
  split
  · rename_i h
    rw [isum_congr (g := fun _ => 1) fun c hc => by rw [h c hc]; rfl, isum_one, Int.mul_one]
  · rename_i h
    have ⟨c0, hc0, h0⟩ : ∃ c ∈ C, dp c w = true := by
      apply Classical.byContradiction
      intro z
      refine h fun c hc => ?_
      cases e : dp c w with
      | false => rfl
      | true => exact absurd ⟨c, hc, e⟩ z
    have p : C.Perm (C.map fun c => xw c c0) := by
      refine (List.perm_ext_iff_of_nodup hC.nd ?_).mpr fun u => ?_
      · unfold List.Nodup
        rw [List.pairwise_map]
        exact List.Pairwise.imp_of_mem (fun {a b} ha hb hab e => hab (xw_inj (hC.len a ha) (hC.len b hb) (hC.len c0 hc0) e)) hC.nd
      · rw [List.mem_map]
        exact ⟨fun hu => ⟨xw u c0, hC.add u hu c0 hc0, xw_cancel (hC.len u hu) (hC.len c0 hc0)⟩, fun ⟨c, hc, e⟩ => by rw [← e]; exact hC.add c hc c0 hc0⟩
    have e := isum_perm p fun c => sg (dp c w)
    have e3 : isum (C.map fun c => xw c c0) (fun c => sg (dp c w)) = (-1) * isum C fun c => sg (dp c w) := by
      rw [isum_map, ← isum_mul]
      refine isum_congr fun c hc => ?_
      rw [dp_xw' w (hC.len c hc) (hC.len c0 hc0), h0, sg_ne]
      show sg (dp c w) * (-1) = _
      omega
    rw [e3] at e
    omega
/-- the counts tell those of the checks -/
theorem macwilliams {n : Nat} {C R : List Word} (hC : IsCode n C) (h : Desk n C R) (j : Nat) :
    isum C (fun c => kr (wt c) (n - wt c) j) = (C.length : Int) * (((evens n R).filter fun w => wt w == j).length : Int) := by
  have e1 : isum C (fun c => kr (wt c) (n - wt c) j) = isum C fun c => isum ((wsum.allC n).filter fun w => wt w == j) fun w => sg (dp c w) := isum_congr fun c hc => by
    have := wsum_kr c j
    rw [hC.len c hc] at this
    exact this.symm
  rw [e1, isum_swap]
  have e2 : isum ((wsum.allC n).filter fun w => wt w == j) (fun w => isum C fun c => sg (dp c w)) = isum ((wsum.allC n).filter fun w => wt w == j) fun w => if decide (w ∈ evens n R) = true then (C.length : Int) else 0 := isum_congr fun w hw => by
    have hl := (mem_allC n w).mp (List.mem_filter.mp hw).1
    rw [char_sum hC hl]
    have iff : (∀ c ∈ C, dp c w = false) ↔ decide (w ∈ evens n R) = true := by
      rw [decide_eq_true_iff, mem_evens, evens_spr (h.len hC) hl]
      exact ⟨fun z => ⟨hl, fun r hr => z r ((h.spr hC r).mp hr)⟩, fun ⟨_, z⟩ c hc => z c ((h.spr hC c).mpr hc)⟩
    by_cases z : ∀ c ∈ C, dp c w = false
    · rw [if_pos z, if_pos (iff.mp z)]
    · rw [if_neg z, if_neg fun y => z (iff.mpr y)]
  rw [e2, ← isum_filter, isum_one, Int.mul_comm]
  congr 2
  refine List.Perm.length_eq ((List.perm_ext_iff_of_nodup (((nd_allC n).filter _).filter _) ((evens_code R).nd.filter _)).mpr fun w => ?_)
  rw [List.mem_filter, List.mem_filter, List.mem_filter, mem_allC, decide_eq_true_iff]
  exact ⟨fun ⟨⟨_, a⟩, b⟩ => ⟨b, a⟩, fun ⟨b, a⟩ => ⟨⟨(mem_evens.mp b).1, a⟩, b⟩⟩
end L2.PD

set_option Elab.async false
set_option linter.all false
set_option autoImplicit false
set_option maxRecDepth 100000
/-! Ty5: words, membership, all words, counts. -/
namespace L2.PD
open PySem L2

def noDict : PyData → Bool
  | .dict _ => false
  | _ => true
def withinB (d : PyData) (lo hi : Int) : Bool := match d with
  | .int i => decide (lo ≤ i) && decide (i ≤ hi)
  | _ => false
def isWordB (d : PyData) (n : Nat) : Bool := match d with
  | .tuple xs => (xs.length == n) && xs.all fun x => withinB x 0 1
  | _ => false
@[simp] theorem e_isi_n {p : PyData → Bool} : isiD p .none = .ok (.bool (p .none)) := id rfl
@[simp] theorem e_isi_b {p : PyData → Bool} {b : Bool} : isiD p (.bool b) = .ok (.bool (p (.bool b))) := id rfl
@[simp] theorem e_isi_s {p : PyData → Bool} {x : Str} : isiD p (.str x) = .ok (.bool (p (.str x))) := id rfl
@[simp] theorem e_isi_l {p : PyData → Bool} {xs : List PyData} : isiD p (.list xs) = .ok (.bool (p (.list xs))) := id rfl
@[simp] theorem e_isi_t {p : PyData → Bool} {xs : List PyData} : isiD p (.tuple xs) = .ok (.bool (p (.tuple xs))) := id rfl
theorem e_isi {p : PyData → Bool} {d : PyData} (h : noDict d = true) : isiD p d = .ok (.bool (p d)) := by cases d <;> first | rfl | cases h
theorem t_is_within (d : PyData) (lo hi : Int) (h : noDict d = true) : m_is_within [d, .int lo, .int hi] = .ok (.bool (withinB d lo hi)) := by
  unfold m_is_within b_is_within
  rw [run3]
  cases d <;> first | (cases h; done) | skip
  case int i =>
    simp [isiInt, isiBool, withinB]
    by_cases h : lo ≤ i <;> simp [h]
  all_goals simp [isiInt, isiBool, withinB]
def noDictAll : PyData → Bool
  | .dict _ => false
  | .tuple xs => xs.all noDict
  | _ => true
theorem t_is_word (d : PyData) (n : Nat) (h : noDictAll d = true) : m_is_word [d, .int n] = .ok (.bool (isWordB d n)) := by
  unfold m_is_word b_is_word
  rw [run2]
  cases d <;> first | (cases h; done) | skip
  case tuple xs =>
    simp [isiTuple, isWordB]
    have hb : ((xs.length : Int) == (n : Int)) = (xs.length == n) := int_beq _ _
    cases hl : xs.length == n with
    | true =>
      rw [beq_iff_eq] at hl
      simp [hl]
      have e : xs = xs.map id := (List.map_id xs).symm
      rw [e, bassoc]
      refine bind_all (mk := fun (j : Option Ent) => [some (.fz (.tuple (xs.map id))), some (.fz (.int n)), j]) (e := id) (p := fun x => withinB x 0 1) (.bool false) xs none (fun x hx j => ⟨some (.fz x), ?_⟩) fun j' => ?_
      · have hd : noDict x = true := List.all_eq_true.mp h x hx
        simp [t_is_within x 0 1 hd]
        cases withinB x 0 1 <;> simp
      · rw [← e]
        generalize (xs.all fun x => withinB x 0 1) = b
        cases b <;> simp
    | false =>
      have : ¬ (xs.length = n) := by simpa using hl
      have h2 : ¬ ((xs.length : Int) = n) := by omega
      simp [hl, this, h2]
  all_goals simp [isiTuple, isWordB]
theorem isWord_dW (w : Word) (n : Nat) : isWordB (dW w) n = (w.length == n) := by
  unfold isWordB dW
  simp
  intro _
  constructor <;> intro _ <;> rfl
theorem nd_dW (w : Word) : noDictAll (dW w) = true := by
  unfold noDictAll dW
  simp [noDict, dB]
theorem isWord_inv : ∀ {d : PyData} {n : Nat}, isWordB d n = true → ∃ w : Word, d = dW w ∧ w.length = n := by
  intro d n h
  cases d <;> first | (cases h; done) | skip
  rename_i xs
  unfold isWordB at h
  simp at h
  obtain ⟨hl, h⟩ := h
  have key : ∀ ys : List PyData, (∀ x ∈ ys, withinB x 0 1 = true) → ∃ w : Word, ys = w.map dB := by
    intro ys
    induction ys with
    | nil => exact fun _ => ⟨[], rfl⟩
    | cons y ys ih =>
      intro hy
      obtain ⟨w, rfl⟩ := ih fun x hx => hy x (List.mem_cons_of_mem _ hx)
      have h1 := hy y List.mem_cons_self
      cases y <;> first | (cases h1; done) | skip
      rename_i i
      unfold withinB at h1
      simp at h1
      have : i = 0 ∨ i = 1 := by omega
      rcases this with rfl | rfl
      · exact ⟨false :: w, rfl⟩
      · exact ⟨true :: w, rfl⟩
  obtain ⟨w, rfl⟩ := key xs h
  exact ⟨w, rfl, by rw [← hl, List.length_map]⟩
/-- has: is it one of the code's words -/
theorem t_has {n : Nat} {C R : List Word} (hC : IsCode n C) (hD : Desk n C R) (hn : n ≤ 1000) (d : PyData) (hd : noDictAll d = true) :
    ∃ b, m_has [dDesk n R, d] = .ok (.bool b) ∧ (b = true ↔ ∃ w ∈ C, d = dW w) := by
  cases hw : isWordB d n with
  | false =>
    refine ⟨false, ?_, ?_⟩
    · unfold m_has b_has
      rw [run2]
      simp [t_is_word d n hd, t_none n hn, hw]
    simp
    intro w hw' e
    subst e
    rw [isWord_dW, hC.len w hw', beq_self_eq_true] at hw
    cases hw
  | true =>
    obtain ⟨w, rfl, hl⟩ := isWord_inv hw
    refine ⟨decide (w ∈ C), ?_, ?_⟩
    · unfold m_has b_has
      rw [run2]
      simp [t_is_word _ n hd, t_none n hn, hw, t_less_rows hl (nz_rows hC hD) (e_seqT), t_eq (ok_dW _) (ok_dW _), eqv_dW]
      rw [Bool.eq_iff_iff, beq_iff_eq, decide_eq_true_iff]
      exact (hD.has hC hl).symm
    · rw [decide_eq_true_iff]
      refine ⟨fun h => ⟨w, h, rfl⟩, fun ⟨v, h1, h2⟩ => ?_⟩
      have := eqv_dW w v
      rw [h2, eqv_dW, beq_self_eq_true] at this
      have := (beq_iff_eq (a := w) (b := v)).mp this.symm
      rw [this]
      exact h1
theorem t_heads {n : Nat} {R : List Word} (hr : ∀ r ∈ R, true ∈ r) : m_heads [dDesk n R] = .ok (.list (R.map fun r => PyData.int (hd r))) := by
  unfold m_heads b_heads
  rw [run1]
  simp
  unfold dWs
  rw [lcGo_am dW (fun r => PyData.int (hd r)) _ fun w hw => by simp [t_head_of (hr w hw)]]
  simp
theorem t_count {n : Nat} {R : List Word} (hn : R.length ≤ 60) : m_count [dDesk n R] = .ok (.int ((2 ^ R.length : Nat) : Int)) := by
  unfold m_count b_count
  rw [run1]
  simp
  rw [bassoc]
  have key : ∀ (l : List Word) (c : Nat) (x : Option Ent), ∃ x', forGo (stN 2) (sSet 1 (f2 mulD (fName 1) (fC (.int 2)))) (l.map dW) [some (.fz (dDesk n R)), some (.fz (.int (c : Int))), x] = .ok (.nx [some (.fz (dDesk n R)), some (.fz (.int ((c * 2 ^ l.length : Nat) : Int))), x']) := by
    intro l
    induction l with
    | nil => exact fun c x => ⟨x, by simp [forGo]⟩
    | cons w l ih =>
      intro c x
      obtain ⟨x', h⟩ := ih (c * 2) (some (.fz (dW w)))
      refine ⟨x', ?_⟩
      rw [List.map_cons]
      unfold forGo
      have g : mulOk (c : Int) 2 = true := mulOk_r (by decide)
      simp [g]
      have e : (c : Int) * 2 = ((c * 2 : Nat) : Int) := by omega
      have e3 : ((c * 2 * 2 ^ l.length : Nat) : Int) = (c : Int) * 2 ^ (l.length + 1) := by
        rw [Int.pow_succ]
        push_cast
        rw [Int.mul_assoc, Int.mul_comm 2]
      rw [e, h, e3]
  obtain ⟨x', h⟩ := key R 1 none
  unfold dWs
  rw [show (PyData.int 1) = .int ((1 : Nat) : Int) from rfl, h]
  simp
/-! ### all words of a desk -/
def raws (rows C : List Word) : List Word := rows.foldl (fun f r => f ++ f.map fun v => xw v r) C
theorem raws_spr {n : Nat} : ∀ (rows C : List Word), IsCode n C → (∀ r ∈ rows, r.length = n ∧ true ∈ r) → rows.Pairwise (fun r r' => bit r' (hd r) = false ∧ bit r (hd r') = false) → (∀ v ∈ C, ∀ r ∈ rows, bit v (hd r) = false) → raws rows C = rows.foldl sprStep C
  | [], _, _, _, _, _ => rfl
  | r :: rows, C, hC, hr, hp, hz => by
    obtain ⟨h1, h2⟩ := hr r List.mem_cons_self
    rw [List.pairwise_cons] at hp
    have hn : r ∉ C := fun h => by
      have := hz r h r List.mem_cons_self
      rw [(hd_spec h2).2.1] at this
      cases this
    have e : sprStep C r = C ++ C.map fun v => xw v r := if_neg hn
    show raws rows (C ++ C.map fun v => xw v r) = rows.foldl sprStep (sprStep C r)
    rw [← e]
    refine raws_spr rows _ (hC.step h1) (fun q hq => hr q (List.mem_cons_of_mem _ hq)) hp.2 fun v hv q hq => ?_
    rcases (mem_step hC h1).mp hv with hv | ⟨u, hu, rfl⟩
    · exact hz v hv q (List.mem_cons_of_mem _ hq)
    · rw [bit_xw' (hC.len u hu) h1, hz u hu q (List.mem_cons_of_mem _ hq), (hp.1 q hq).2]
      rfl
theorem raws_len : ∀ (rows C : List Word), (raws rows C).length = C.length * 2 ^ rows.length
  | [], C => by simp [raws]
  | r :: rows, C => by
    show (raws rows (C ++ C.map fun v => xw v r)).length = _
    rw [raws_len rows, List.length_append, List.length_map, List.length_cons, Nat.pow_succ, ← Nat.two_mul, Nat.mul_comm 2, Nat.mul_assoc, Nat.mul_comm 2]
/-- the desk's code, rising -/
def wordsL' (n : Nat) (R : List Word) : List Word := sortA (spr n R)
theorem Desk.raws {n : Nat} {C R : List Word} (hC : IsCode n C) (h : Desk n C R) : raws R [zw n] = L2.PD.spr n R :=
  raws_spr R _ (code_zw n) (nz_rows hC h) h.pw fun v hv r _ => by rw [List.mem_singleton.mp hv, bit_zw]
theorem Desk.size {n : Nat} {C R : List Word} (hC : IsCode n C) (h : Desk n C R) : C.length = 2 ^ R.length := by
  have e := congrArg List.length (h.raws hC)
  rw [raws_len, List.length_singleton, Nat.one_mul] at e
  rw [e]
  have hS := spr_code (h.len hC)
  exact ((List.perm_ext_iff_of_nodup hC.nd hS.nd).mpr fun w => (h.spr hC w).symm).length_eq
theorem t_words_of {n : Nat} {C R : List Word} (hC : IsCode n C) (hD : Desk n C R) (hn : 1 ≤ n) (hn2 : n ≤ 19) : m_words_of [dDesk n R] = .ok (.list (dWs (sortA (spr n R)))) := by
  unfold m_words_of b_words_of
  rw [run1]
  have h1 : decide (1 ≤ LIM) = true := limT (by omega)
  simp [t_none n (by omega), h1]
  rw [bassoc]
  have hl := rows_le hC hD
  have hw := spr_code (hD.len hC)
  have er := hD.raws hC
  have hne : ∀ w ∈ spr n R, w ≠ [] := fun w hw' => len_ne (hw.len w hw') hn
  have hpow : 2 ^ R.length ≤ 1000000 := Nat.le_trans (Nat.pow_le_pow_right (by decide) (Nat.le_trans hl hn2)) (by decide)
  rw [← er] at hne ⊢
  -- the loop, with room
  have key : ∀ (l : List Word) (C : List Word) (x : Option Ent), C.length * 2 ^ l.length ≤ 1000000 → ∃ x', forGo (stN 2) (sSet 1 (f2 addD (fName 1) (fLc (iSeq (fName 1)) (stN 3) [3] fYes (fCall m_plus (aCons (fName 3) (aCons (fName 2) aNil)))))) (l.map dW) [some (.fz (dDesk n R)), some (.fz (.list (dWs C))), x, none] = .ok (.nx [some (.fz (dDesk n R)), some (.fz (.list (dWs (raws l C)))), x', none]) := by
    intro l
    induction l with
    | nil => exact fun C x _ => ⟨x, rfl⟩
    | cons w l ih =>
      intro C x hz
      have hp : 1 ≤ 2 ^ l.length := Nat.one_le_two_pow
      have hz2 : C.length * 2 * 2 ^ l.length ≤ 1000000 := by
        rw [List.length_cons, Nat.pow_succ] at hz
        rw [Nat.mul_assoc, Nat.mul_comm 2]
        exact hz
      have hC2 : C.length * 2 ≤ 1000000 := Nat.le_trans (Nat.le_mul_of_pos_right _ hp) hz2
      obtain ⟨x', h⟩ := ih (C ++ C.map fun v => xw v w) (some (.fz (dW w))) (by rw [List.length_append, List.length_map, ← Nat.mul_two]; exact hz2)
      refine ⟨x', ?_⟩
      rw [List.map_cons]
      unfold forGo
      simp
      unfold dWs
      rw [lcGo_am dW (fun v => dW (xw v w)) _ fun v _ => by simp [t_plus]]
      simp
      rw [limT (by omega)]
      simp
      have e : C.map dW ++ C.map (fun v => dW (xw v w)) = dWs (C ++ C.map fun v => xw v w) := by
        unfold dWs
        rw [List.map_append, List.map_map]
        rfl
      rw [e, h]
      rfl
  obtain ⟨x', h⟩ := key R [zw n] none (by rw [List.length_singleton, Nat.one_mul]; exact hpow)
  have e1 : dWs R = R.map dW := rfl
  have e2 : [dW (zw n)] = dWs [zw n] := rfl
  rw [e1, e2, h]
  simp [t_sortA hne]
/-! ### counts -/
theorem sum_dB : ∀ w : Word, (w.map fun b : Bool => if b = true then (1 : Int) else 0).sum = (wt w : Int)
  | [] => rfl
  | b :: w => by
    rw [List.map_cons, List.sum_cons, sum_dB w]
    unfold wt
    rw [List.count_cons]
    cases b <;> simp
    omega
theorem t_sum (w : Word) : sumD (dW w) = .ok (.int (wt w)) := by
  show (intsOf (w.map dB)).bind _ = _
  have : w.map dB = (w.map fun b : Bool => if b = true then (1 : Int) else 0).map PyData.int := by
    rw [List.map_map]
    rfl
  rw [this, intsOf_map, bok, sum_dB]
theorem t_weight (w : Word) : m_weight [dW w] = .ok (.int (wt w)) := by
  unfold m_weight b_weight
  rw [run1]
  simp [t_sum]
def dNs (c : List Nat) : List PyData := c.map fun k : Nat => PyData.int (k : Int)
def cntStep (c : List Nat) (w : Word) : List Nat := c.set (wt w) (c.getD (wt w) 0 + 1)
def cnts (n : Nat) (ws : List Word) : List Nat := ws.foldl cntStep (List.replicate (n + 1) 0)
theorem ixN_nat {n j : Nat} (h : j < n) : ixN n (j : Int) = some j := by
  unfold ixN
  rw [if_pos (by omega), if_pos (by omega)]
  rfl
theorem t_put {i : Nat} {F : Rho → R PyData} {ρ : Rho} {c : List Nat} {w : Word} (h : ρ[i]? = some (some (.ow (dNs c)))) (hF : F ρ = .ok (.int (wt w))) (hw : wt w < c.length) :
    sPut i F (f2 addD (fOwnIx i F) (fC (.int 1))) ρ = .ok (.nx (ρ.set i (some (.ow (dNs (cntStep c w)))))) := by
  have hx : ixD (.list (dNs c)) (.int (wt w)) = .ok (.int ((c.getD (wt w) 0 : Nat) : Int)) := ix_lst (by unfold dNs; simp [hw])
  have hl : (dNs c).length = c.length := List.length_map ..
  simp [h, hF, hx, hl, ixN_nat hw]
  unfold dNs cntStep
  rw [List.map_set]
  simp
theorem cnt_len (ws : List Word) (c : List Nat) : (ws.foldl cntStep c).length = c.length := by
  induction ws generalizing c with
  | nil => rfl
  | cons w ws ih => rw [List.foldl_cons, ih]; exact List.length_set
theorem zeros_N (n : Nat) : (List.range n).map (fun _ : Nat => PyData.int 0) = dNs (List.replicate n 0) := by
  unfold dNs
  rw [List.map_replicate]
  simp [List.map_const']
theorem t_counts {n : Nat} {C R : List Word} (hC : IsCode n C) (hD : Desk n C R) (hn : 1 ≤ n) (hn2 : n ≤ 19) : m_counts [dDesk n R] = .ok (.list (dNs (cnts n (sortA (spr n R))))) := by
  unfold m_counts b_counts
  rw [run1]
  simp [t_words_of hC hD hn hn2]
  have e1 : ((n : Int) + 1) = ((n + 1 : Nat) : Int) := by omega
  rw [e1, rng_nat _ (by omega)]
  simp only [bok]
  rw [lcGo_am (fun k : Nat => PyData.int (k : Int)) (fun _ => PyData.int 0) _ fun k hk => by simp]
  simp [zeros_N, t_words_of hC hD hn hn2]
  rw [bassoc]
  have hw := spr_code (hD.len hC)
  refine bind_loop (mk := fun (c : List Nat) (j : Option Ent) => [some (.fz (dDesk n R)), some (.ow (dNs c)), j, none]) (e := dW) (f := cntStep) (I := fun c => c.length = n + 1) (sortA (spr n R)) (List.replicate (n + 1) 0) none (by simp) (fun w hm c j hc => ⟨?_, some (.fz (dW w)), ?_⟩) fun j' _ => ?_
  · unfold cntStep
    rw [List.length_set, hc]
  · have hl := hw.len w ((sortA_perm _).mem_iff.mp hm)
    have := wt_le w
    rw [e_stN, t_put (c := c) (w := w) rfl (by simp [t_weight]) (by omega)]
    rfl
  · simp
    rfl
end L2.PD

set_option Elab.async false
set_option linter.all false
set_option autoImplicit false
set_option maxRecDepth 100000
/-! L18: the counts law. -/
namespace L2.PD
open PySem L2
theorem t_law_whole_i (i : Int) : m_law_whole [.int i] = .ok (.bool true) := by
  unfold m_law_whole b_law_whole
  rw [run1]
  simp [isiInt, isiBool]
theorem e_rep (n : Nat) (h : n ≤ 19) : repD (.list [.int 0]) (.int ((n : Int) + 1)) = .ok (.list (dNs (List.replicate (n + 1) 0))) := by
  show guard _ _ = _
  rw [guard_t (decide_eq_true ⟨by omega, by omega, by simp⟩)]
  have e : ((n : Int) + 1).toNat = n + 1 := by omega
  rw [e]
  unfold dNs
  simp
theorem ok_dNs (c : List Nat) : OkD 1 (.list (dNs c)) := OkD.list (k := 0) fun d hd => by
  obtain ⟨b, _, rfl⟩ := List.mem_map.mp hd
  exact OkD.int _
theorem eq_dNs (a b : List Nat) : eqD (.list (dNs a)) (.list (dNs b)) = .ok (.bool (a == b)) := by
  rw [t_eq (ok_dNs a) (ok_dNs b), eqv_lst]
  unfold dNs
  rw [eqv_map (fun k : Nat => PyData.int (k : Int)) (fun a b => by rw [eqv_int, int_beq])]
theorem eq_nil : eqD (.list []) (.list []) = .ok (.bool true) := id rfl
theorem law_k18 (ns : List Int) (hn : ns.length ≤ 63) : m_law_k18 [scrD ns] = .ok (.bool true) := by
  obtain ⟨n, S, _, h1, h8, _, hC, e⟩ := t_law_desk ns 0 hn
  have hD := rows_desk hC
  generalize rowsL n S = R at hD e
  unfold m_law_k18 b_law_k18
  rw [run1]
  have hr : ∀ w ∈ R, w.length = n := hD.len hC
  have hz : R.length ≤ 19 := by have := rows_le hC hD; omega
  have h10 : decide (1 ≤ LIM) = true := limT (by omega)
  have e0 : PyData.int 0 = PyData.int ((0 : Nat) : Int) := rfl
  rw [← e0] at e
  simp [e, h10, e_rep n (by omega), t_law_spread h1 (show n ≤ 1000 by omega) (e_seqT) hr hz]
  rw [bassoc]
  have hw := spr_code hr
  refine bind_loop (mk := fun (c : List Nat) (j : Option Ent) => [some (.fz (scrD ns)), some (.fz (dDesk n R)), some (.ow (dNs c)), j, none, none]) (e := dW) (f := cntStep) (I := fun c => c.length = n + 1) (sortA (spr n R)) (List.replicate (n + 1) 0) none (by simp) (fun w hm c j hc => ⟨?_, some (.fz (dW w)), ?_⟩) fun j' _ => ?_
  · unfold cntStep
    rw [List.length_set, hc]
  · have hl := hw.len w ((sortA_perm _).mem_iff.mp hm)
    have := wt_le w
    rw [e_stN, t_put (c := c) (w := w) rfl (by simp [t_sum]) (by omega)]
    rfl
  · have hc := t_counts hC hD h1 (by omega)
    unfold cnts at hc
    have hd0 : decide (0 ≤ LIM) = true := limT (by omega)
    simp [hc, isiList, eq_dNs]
    unfold dNs
    rw [lcGo_wm (fun k : Nat => PyData.int (k : Int)) (fun _ => false) (fun k : Nat => PyData.int (k : Int)) _ fun k hk => ⟨by simp [t_law_whole_i], fun h => nomatch h⟩]
    have hf : ∀ l : List Nat, l.filter (fun _ => false) = [] := fun l => by induction l <;> simp_all
    simp [hd0, hf, eq_nil]
end L2.PD

set_option Elab.async false
set_option linter.all false
set_option autoImplicit false
set_option maxRecDepth 100000
/-! L05: words, heads, count and membership. -/
namespace L2.PD
open PySem PySem.Spec PyProof.Rows L2

def isBoolAny : PyData → Bool
  | .tuple xs => xs.any isiBool
  | _ => false
theorem eqv_one {x : PyData} {b : Bool} (h : PyData.eqv x (dB b) = true) (h2 : isiBool x = false) : x = dB b := by
  cases x <;> first | (cases h2; done) | skip
  case int i =>
    unfold dB at h
    rw [eqv_int, beq_iff_eq] at h
    rw [h]
    rfl
  all_goals (unfold dB PyData.eqv at h; cases h)
theorem eqv_word : ∀ {xs : List PyData} {w : Word}, PyData.eqvAll xs (w.map dB) = true → xs.any isiBool = false → xs = w.map dB
  | [], [], _, _ => rfl
  | [], _ :: _, h, _ => by simp [PyData.eqvAll] at h
  | _ :: _, [], h, _ => by simp [PyData.eqvAll] at h
  | x :: xs, b :: w, h, h2 => by
    rw [List.map_cons, PyData.eqvAll, Bool.and_eq_true] at h
    rw [List.any_cons, Bool.or_eq_false_iff] at h2
    rw [eqv_one h.1 h2.1, eqv_word h.2 h2.2]
    rfl
structure Thing (d : PyData) : Prop where
  ok : OkD 1 d
  nd : noDictAll d = true
theorem thing_w (w : Word) : Thing (dW w) := ⟨ok_dW w, nd_dW w⟩
theorem thing_rep {x : PyData} (n : Nat) (h : OkD 0 x) (h2 : noDict x = true) : Thing (.tuple (List.replicate n x)) where
  ok := OkD.tuple fun d hd => by rw [List.eq_of_mem_replicate hd]; exact h
  nd := by
    unfold noDictAll
    rw [List.all_eq_true]
    intro d hd
    rw [List.eq_of_mem_replicate hd]
    exact h2
theorem flat_rep1 {α : Type} (n : Nat) (x : α) : (List.replicate n [x]).flatten = List.replicate n x := by
  induction n with
  | zero => rfl
  | succ n ih => rw [List.replicate_succ, List.flatten_cons, ih]; rfl
theorem okd_str (x : Str) (h : PyData.canLay0 (.str x) = true) : OkD 0 (.str x) := ⟨h, by simp [PyData.depth], by simp [flatD]⟩
theorem ix_all {P : PyData → Prop} (xs : List PyData) (k : Int) (h : 0 ≤ k) (h2 : k < xs.length) (hp : ∀ x ∈ xs, P x) : ∃ d, ixD (.list xs) (.int k) = .ok d ∧ P d := by
  obtain ⟨j, rfl⟩ := Int.eq_ofNat_of_zero_le h
  have hj : j < xs.length := by omega
  exact ⟨xs[j], ix_lst (List.getElem?_eq_getElem hj), hp _ (List.getElem_mem hj)⟩
theorem t_law_thing (ns : List Int) (hn : ns.length ≤ 63) (n : Nat) (h1 : n ≤ 8) (h0 : 1 ≤ n) : ∃ d, m_law_thing [scrD ns, .int n] = .ok d ∧ Thing d := by
  unfold m_law_thing b_law_thing
  simp only [run2]
  have e0 := t_law_cell ns 0 hn
  have e1 := t_law_cell ns 1 hn
  simp only [show ((0 : Nat) : Int) = 0 from rfl, show ((1 : Nat) : Int) = 1 from rfl] at e0 e1
  have l10 : decide (10 ≤ LIM) = true := limT (by omega)
  have l1 : decide (1 ≤ LIM) = true := limT (by omega)
  have hw := t_law_word (cell ns 0) n (by omega)
  have hl : (wordL (cell ns 0) n).length = n := by simp [wordL]
  generalize wordL (cell ns 0) n = w at hw hl
  have hadd : addD (dW w) (.tuple [.int 0]) = .ok (dW (w ++ [false])) := by
    show guard _ _ = _
    have : (w.map dB).length = n := by rw [List.length_map, hl]
    rw [guard_t (limT (by rw [this, List.length_singleton]; omega))]
    unfold dW
    rw [List.map_append]
    rfl
  have hsl : slD (dW w) (some 1) none = .ok (dW (w.drop 1)) := by
    show R.ok (PyData.tuple (cutD (w.map dB) (some 1) none)) = _
    unfold cutD
    rw [show (some (1 : Int)) = some ((1 : Nat) : Int) from rfl, HT.sIx_nat, HT.sIx_none, List.length_map, hl, Nat.min_eq_left h0]
    unfold dW
    rw [List.map_drop, List.take_of_length_le (by rw [List.length_drop, List.length_map, hl]; exact Nat.le_refl _)]
  have hlist : listD (dW w) = .ok (.list (w.map dB)) := rfl
  have ht : mulD (.tuple [.bool true]) (.int n) = .ok (.tuple (List.replicate n (.bool true))) := by
    show guard _ _ = _
    rw [guard_t (decide_eq_true ⟨by omega, by omega, by simp⟩), Int.toNat_natCast, flat_rep1]
  have h2 : mulD (.tuple [.int 2]) (.int n) = .ok (.tuple (List.replicate n (.int 2))) := by
    show guard _ _ = _
    rw [guard_t (decide_eq_true ⟨by omega, by omega, by simp⟩), Int.toNat_natCast, flat_rep1]
  have hs : ∃ x : Str, mulD (.str "0") (.int n) = .ok (.str x) ∧ PyData.canLay0 (.str x) = true := by
    refine ⟨Txt.mul "0" n, ?_, ?_⟩
    · show guard _ _ = _
      rw [guard_t (decide_eq_true ⟨by omega, by omega, by decide +kernel⟩)]
    · have key : ∀ n, n ≤ 8 → PyData.canLay0 (.str (Txt.mul "0" (n : Nat))) = true := by decide +kernel
      exact key n h1
  obtain ⟨x, hs, hx⟩ := hs
  have hm : (decide ((0 : Int) < 10)) = true := rfl
  simp [e0, e1, hw, hadd, hsl, hlist, ht, h2, hs, l10, l1, hm]
  have key : ∀ d ∈ [dW w, dW w, PyData.list (w.map dB), dW (w ++ [false]), dW w.tail, PyData.none, PyData.int 0, PyData.tuple (List.replicate n (PyData.bool true)), PyData.tuple (List.replicate n (PyData.int 2)), PyData.str x], Thing d := by
    simp only [List.forall_mem_cons, List.not_mem_nil, false_implies, implies_true, and_true]
    refine ⟨thing_w _, thing_w _, ⟨OkD.list (k := 0) fun d hd => ?_, rfl⟩, thing_w _, thing_w _, ⟨OkD.none.mono (by omega), rfl⟩, ⟨(OkD.int _).mono (by omega), rfl⟩, thing_rep _ (OkD.bool _) rfl, thing_rep _ (OkD.int _) rfl, ⟨(okd_str _ hx).mono (by omega), rfl⟩⟩
    obtain ⟨b, _, rfl⟩ := List.mem_map.mp hd
    exact ok_dB b
  obtain ⟨d, hd, hp⟩ := ix_all (P := Thing) _ (cell ns 1 % 10) (Int.emod_nonneg _ (by decide)) (Int.emod_lt_of_pos _ (by decide)) key
  refine ⟨d, ?_, hp⟩
  rw [hd]
  rfl
/-- isinstance(thing, tuple) and thing in spread and no bool in it -/
theorem due_eq {d : PyData} (h : Thing d) (S : List Word) : (isiTuple d && ((dWs S).any (fun y => PyData.eqv y d)) && !isBoolAny d) = true ↔ ∃ w ∈ S, d = dW w := by
  rw [Bool.and_eq_true, Bool.and_eq_true, List.any_eq_true, Bool.not_eq_true']
  refine ⟨fun ⟨⟨h1, y, h2, h3⟩, h4⟩ => ?_, fun ⟨w, h1, e⟩ => ?_⟩
  · obtain ⟨w, hw, rfl⟩ := List.mem_map.mp h2
    cases d <;> first | (cases h1; done) | skip
    rename_i xs
    unfold dW at h3
    rw [eqv_tup] at h3
    refine ⟨w, hw, ?_⟩
    unfold dW
    congr 1
    have flip : ∀ {xs : List PyData} {w : Word}, PyData.eqvAll (w.map dB) xs = true → xs.any isiBool = false → xs = w.map dB := by
      intro xs
      induction xs with
      | nil =>
        intro w h _
        cases w with
        | nil => rfl
        | cons b w => simp [PyData.eqvAll] at h
      | cons x xs ih =>
        intro w h h2
        cases w with
        | nil => simp [PyData.eqvAll] at h
        | cons b w =>
          rw [List.map_cons, PyData.eqvAll, Bool.and_eq_true] at h
          rw [List.any_cons, Bool.or_eq_false_iff] at h2
          rw [List.map_cons, ih h.2 h2.2]
          congr 1
          cases x <;> first | (cases h2.1; done) | skip
          case int i =>
            have h := h.1
            unfold dB at h
            rw [eqv_int, beq_iff_eq] at h
            rw [← h]
            rfl
          all_goals (have h := h.1; unfold dB PyData.eqv at h; cases h)
    exact flip h3 h4
  · subst e
    refine ⟨⟨rfl, dW w, List.mem_map.mpr ⟨w, h1, rfl⟩, by rw [eqv_dW, beq_self_eq_true]⟩, ?_⟩
    unfold isBoolAny dW
    rw [List.any_eq_false]
    intro x hx
    obtain ⟨b, _, rfl⟩ := List.mem_map.mp hx
    exact Bool.false_ne_true
theorem ok_bools (xs : List PyData) : OkD 1 (.list (xs.map fun x => PyData.bool (isiBool x))) := OkD.list (k := 0) fun d hd => by
  obtain ⟨b, _, rfl⟩ := List.mem_map.mp hd
  exact OkD.bool _
theorem nin_bools (xs : List PyData) : ninD (.bool true) (.list (xs.map fun x => PyData.bool (isiBool x))) = .ok (.bool (!xs.any isiBool)) := by
  have h1 := OkD.bool true
  have h2 := ok_bools xs
  have : hasD (.bool true) (.list (xs.map fun x => PyData.bool (isiBool x))) = .ok (xs.any isiBool) := by
    show guard _ _ = _
    rw [guard_t (by rw [h1.sh (by decide), h2.sh (by decide), h1.flat, h2.flat]; rfl), List.any_map]
    congr 2
    funext x
    show PyData.eqv (.bool (isiBool x)) (.bool true) = isiBool x
    cases isiBool x <;> rfl
  unfold ninD
  rw [this, bok]
theorem in_thing {d : PyData} (h : Thing d) (S : List Word) : inD d (.list (dWs S)) = .ok (.bool ((dWs S).any fun y => PyData.eqv y d)) := by
  have h2 := OkD.list (ok_dWs S)
  have : hasD d (.list (dWs S)) = .ok ((dWs S).any fun y => PyData.eqv y d) := by
    show guard _ _ = _
    rw [guard_t (by rw [h.ok.sh (by decide), h2.sh (by decide), h.ok.flat, h2.flat]; rfl)]
  unfold inD
  rw [this, bok]
theorem ne_self {k : Nat} {d : PyData} (h : OkD k d) (hk : k ≤ 60 := by decide) : neD d d = .ok (.bool false) := by
  rw [t_ne h h hk hk, SeqAt.eqv_refl d h.lay]
  rfl
theorem eq_self' {k : Nat} {d : PyData} (h : OkD k d) (hk : k ≤ 60 := by decide) : eqD d d = .ok (.bool true) := by
  rw [t_eq h h hk hk, SeqAt.eqv_refl d h.lay]
theorem sl_ws (X : List Word) (m : Nat) : slD (.list (dWs X)) none (some (m : Int)) = .ok (.list (dWs (X.take m))) := by
  show R.ok (PyData.list (cutD (dWs X) none (some (m : Int)))) = _
  unfold cutD
  rw [HT.sIx_nat, HT.sIx_none, List.drop_zero, Nat.sub_zero, dWs_len]
  unfold dWs
  rw [List.map_take]
  congr 2
  by_cases h : m ≤ X.length
  · rw [Nat.min_eq_left h]
  · rw [Nat.min_eq_right (by omega), List.take_of_length_le (by rw [List.length_map]; exact Nat.le_refl _), List.take_of_length_le (by rw [List.length_map]; omega)]
theorem lcGo_ws {st : PyData → Rho → Rho} {fe : Rho → R PyData} {ρ : Rho} (g : Word → PyData) (l : List Word)
    (h : ∀ x ∈ l, fe (st (dW x) ρ) = .ok (g x)) {γ : Type} {k : List PyData → R γ} : (lcGo st fYes fe ρ (dWs l)).bind k = k (l.map g) := lcGo_am dW g l h
theorem lcGo_wsf {st : PyData → Rho → Rho} {ft : Rho → R Bool} {fe : Rho → R PyData} {ρ : Rho} (p : Word → Bool) (g : Word → PyData) (l : List Word)
    (h : ∀ x ∈ l, ft (st (dW x) ρ) = .ok (p x) ∧ (p x = true → fe (st (dW x) ρ) = .ok (g x))) {γ : Type} {k : List PyData → R γ} : (lcGo st ft fe ρ (dWs l)).bind k = k ((l.filter p).map g) := lcGo_wm dW p g l h
theorem isi_bool_b (b : Bool) : isiBool (.bool b) = true := rfl
theorem e_isn_t : isnD (.bool true) (.bool true) = .ok (.bool false) := id rfl
theorem law_k05 (ns : List Int) (hn : ns.length ≤ 63) : m_law_k05 [scrD ns] = .ok (.bool true) := by
  obtain ⟨n, S, _, h1, h8, _, hC, e⟩ := t_law_desk ns 2 hn
  have hD := rows_desk hC
  generalize rowsL n S = R at hD e
  unfold m_law_k05 b_law_k05
  rw [run1]
  have hr : ∀ w ∈ R, w.length = n := hD.len hC
  have hz : R.length ≤ 19 := by have := rows_le hC hD; omega
  have h10 : decide (1 ≤ LIM) = true := limT (by omega)
  have e0 : PyData.int 2 = PyData.int ((2 : Nat) : Int) := rfl
  rw [← e0] at e
  have hS := spr_code hr
  have hlen : (dWs (sortA (spr n R))).length = 2 ^ R.length := by
    rw [dWs_len, (sortA_perm _).length_eq, ← hD.raws hC, raws_len, List.length_singleton, Nat.one_mul]
  have okh : OkD 1 (.list (R.map fun r => PyData.int (hd r))) := OkD.list (k := 0) fun d hd => by
    obtain ⟨b, _, rfl⟩ := List.mem_map.mp hd
    exact OkD.int _
  simp [e, h10, t_words_of hC hD h1 (by omega), t_count (n := n) (R := R) (by omega), isiList, t_law_spread h1 (show n ≤ 1000 by omega) (e_seqT) hr hz, t_ne (OkD.list (ok_dWs _)) (OkD.list (ok_dWs _)), eqv_lst, eqv_dWs, t_law_whole_i, hlen, t_heads fun r hr => (nz_rows hC hD r hr).2]
  rw [lcGo_ws (fun r => PyData.int (hd r)) R fun w hw => by simp [index_dW (nz_rows hC hD w hw).2]]
  have sl := sl_ws (sortA (spr n R)) 20
  simp only [show ((20 : Nat) : Int) = 20 from rfl] at sl
  simp [ne_self okh, sl]
  rw [bassoc]
  refine bind_all (mk := fun (j : Option Ent) => [some (.fz (scrD ns)), some (.fz (dDesk n R)), some (.fz (.list (dWs (sortA (spr n R))))), some (.fz (.list (dWs (sortA (spr n R))))), some (.fz (.int (2 ^ R.length))), j, none, none, none, none, none]) (e := dW) (p := fun _ => true) (.bool false) (List.take 20 (sortA (spr n R))) none (fun w hw j => ⟨some (.fz (dW w)), ?_⟩) fun j' => ?_
  · obtain ⟨b, hb, hb'⟩ := t_has hC hD (show n ≤ 1000 by omega) (dW w) (nd_dW w)
    have : b = true := hb'.mpr ⟨w, (hD.spr hC w).mp ((sortA_perm _).mem_iff.mp (List.mem_of_mem_take hw)), rfl⟩
    subst this
    simp [hb, e_isn_t]
  · obtain ⟨d, hd, hT⟩ := t_law_thing ns hn n h8 h1
    obtain ⟨b, hb, hb'⟩ := t_has hC hD (show n ≤ 1000 by omega) d hT.nd
    have hdue := due_eq hT (sortA (spr n R))
    have hbd : b = ((isiTuple d && (dWs (sortA (spr n R))).any fun y => y.eqv d) && !isBoolAny d) := by
      rw [Bool.eq_iff_iff, hdue, hb']
      exact ⟨fun ⟨w, h1, h2⟩ => ⟨w, (sortA_perm _).mem_iff.mpr ((hD.spr hC w).mpr h1), h2⟩, fun ⟨w, h1, h2⟩ => ⟨w, (hD.spr hC w).mp ((sortA_perm _).mem_iff.mp h1), h2⟩⟩
    have hnd : noDict d = true := by have := hT.nd; cases d <;> first | rfl | cases this
    have hin := in_thing hT (sortA (spr n R))
    generalize ((dWs (sortA (spr n R))).any fun y => y.eqv d) = A at hin hbd
    simp [hd, hb, e_isi hnd]
    cases hit : isiTuple d with
    | false =>
      rw [hit, Bool.false_and, Bool.false_and] at hbd
      subst hbd
      simp [hb, isi_bool_b]
    | true =>
      rw [hit, Bool.true_and] at hbd
      simp [hin]
      cases A with
      | false =>
        rw [Bool.false_and] at hbd
        subst hbd
        simp [hb, isi_bool_b]
      | true =>
        rw [Bool.true_and] at hbd
        cases d <;> first | (cases hit; done) | skip
        rename_i xs
        have exs : xs = xs.map id := (List.map_id xs).symm
        simp
        have hlc : lcGo (stN 10) fYes (f1 (isiD isiBool) (fName 10)) [some (.fz (scrD ns)), some (.fz (dDesk n R)), some (.fz (.list (dWs (sortA (spr n R))))), some (.fz (.list (dWs (sortA (spr n R))))), some (.fz (.int (2 ^ R.length))), j', some (.fz (.tuple xs)), none, none, none, none] xs = .ok (xs.map fun x => PyData.bool (isiBool x)) := by
          have := lcGo_all (st := stN 10) (fe := f1 (isiD isiBool) (fName 10)) (ρ := [some (.fz (scrD ns)), some (.fz (dDesk n R)), some (.fz (.list (dWs (sortA (spr n R))))), some (.fz (.list (dWs (sortA (spr n R))))), some (.fz (.int (2 ^ R.length))), j', some (.fz (.tuple xs)), none, none, none, none]) id (fun x => PyData.bool (isiBool x)) xs fun x hx => by
            have hx' : noDict x = true := List.all_eq_true.mp hT.nd x hx
            simp [e_isi hx']
          rwa [List.map_id] at this
        rw [hlc]
        have hbd' : b = !xs.any isiBool := hbd
        simp [nin_bools, hb, isi_bool_b, hbd']
end L2.PD

set_option Elab.async false
set_option linter.all false
set_option autoImplicit false
set_option maxRecDepth 100000
set_option maxHeartbeats 2000000
/-! PD9: exceptions: raise, try with one clause, the caught error's class and its field; defs that may raise. -/
namespace L2.PD
open PySem PySem.Spec PyProof.Rows L2

/-- the classes' tree: each own one stands under ParityError -/
def subX (x y : Str) : Bool := decide (x = y) || decide (y = "ParityError")
/-- what is known of the classes of L -/
structure XsOk (K : PySem.W.Frag) (mg : Str → Option Value) (L : List Str) : Prop where
  ve : mg "ValueError" = none
  glo : ∀ x ∈ L, mg x = some (.ref (He.ga K x))
  exm : ∀ x ∈ L, ∀ y ∈ L, PySem.W.exmOne K (.ref (He.ga K x)) (.ref (He.ga K y)) = some (subX x y)
  kit : ∀ x ∈ L, ∀ y ∈ L, PySem.W.kitOne K (.ref (He.ga K x)) (.ref (He.ga K y)) = some (subX x y)
  kitV : ∀ x ∈ L, PySem.W.kitOne K (.ref (He.ga K x)) (.type "ValueError") = some true
  isE : ∀ x ∈ L, ExcC K (He.ga K x)
  exc : ∀ x ∈ L, x ≠ "BadWords" → PySem.W.excIn K (He.ga K x) He.veBase "ValueError.__new__" = true
  kp : ∀ x ∈ L, PySem.W.keepIn K (.ref (He.ga K x)) = true
  sb : ∀ x ∈ L, PySem.W.subIn K (.ref (He.ga K x)) (.type "BaseException") = some true
  ty : ∀ x ∈ L, PySem.W.typeIn K (.ref (He.ga K x)) = some (.type "type")
def dS (a b : Option Bool) : Bool := decide (a = b)
def dV (a b : Option (Option Value)) : Bool := decide (a = b)
def excCB (K : PySem.W.Frag) (D : Addr) : Bool :=
  dV (PySem.W.findIn K (.ref D) "__getattribute__") (some (some (.builtin "BaseException.__getattribute__"))) && (dV (PySem.W.findIn K (.ref D) "__getattr__") (some none) && (dS (PySem.W.subIn K (.ref D) (.type "BaseException")) (some true) &&
    (PySem.W.hasDictIn K D && (dV (PySem.W.findIn K (.ref D) "__class__") (some (some (.builtin "object.__class__"))) && (dV (PySem.W.specialIn K (.builtin "object.__class__") "__get__") (some (some (.builtin "getset_descriptor.__get__"))) &&
      (dS (PySem.W.takesIn K (.builtin "object.__class__")) (some true) && dS (PySem.W.mroIn K D (.type "object")) (some true)))))))
theorem excCB_ok {K : PySem.W.Frag} {D : Addr} (h : excCB K D = true) : ExcC K D := by
  obtain ⟨h1, h⟩ := Bool.and_eq_true_iff.mp h
  obtain ⟨h2, h⟩ := Bool.and_eq_true_iff.mp h
  obtain ⟨h3, h⟩ := Bool.and_eq_true_iff.mp h
  obtain ⟨h4, h⟩ := Bool.and_eq_true_iff.mp h
  obtain ⟨h5, h⟩ := Bool.and_eq_true_iff.mp h
  obtain ⟨h6, h⟩ := Bool.and_eq_true_iff.mp h
  obtain ⟨h7, h8⟩ := Bool.and_eq_true_iff.mp h
  exact ⟨of_decide_eq_true h1, of_decide_eq_true h2, of_decide_eq_true h3, h4, of_decide_eq_true h5, of_decide_eq_true h6, of_decide_eq_true h7, of_decide_eq_true h8⟩
/-- the same, as the head finds it -/
def xsOne (K : PySem.W.Frag) (x : Str) : Bool :=
  dV (PySem.W.nsIn K mainGlobals x) (some (some (.ref (He.ga K x)))) && (dS (PySem.W.kitOne K (.ref (He.ga K x)) (.type "ValueError")) (some true) && (excCB K (He.ga K x) &&
    ((decide (x = "BadWords") || PySem.W.excIn K (He.ga K x) He.veBase "ValueError.__new__") && (PySem.W.keepIn K (.ref (He.ga K x)) && (dS (PySem.W.subIn K (.ref (He.ga K x)) (.type "BaseException")) (some true) && decide (PySem.W.typeIn K (.ref (He.ga K x)) = some (.type "type")))))))
def xsTwo (K : PySem.W.Frag) (x y : Str) : Bool := dS (PySem.W.exmOne K (.ref (He.ga K x)) (.ref (He.ga K y))) (some (subX x y)) && dS (PySem.W.kitOne K (.ref (He.ga K x)) (.ref (He.ga K y))) (some (subX x y))
def xsB (L : List Str) (K : PySem.W.Frag) : Bool := dV (PySem.W.nsIn K mainGlobals "ValueError") (some none) && L.all fun x => xsOne K x && L.all fun y => xsTwo K x y
theorem xs_ok {K : PySem.W.Frag} {h : Heap} {mg : Str → Option Value} {L : List Str} (X : K.In h) (G : h.Ns mainGlobals mg) (c : xsB L K = true) : XsOk K mg L := by
  obtain ⟨c0, c⟩ := Bool.and_eq_true_iff.mp c
  have one : ∀ x ∈ L, xsOne K x = true := fun x hx => (Bool.and_eq_true_iff.mp (List.all_eq_true.mp c x hx)).1
  have two : ∀ x ∈ L, ∀ y ∈ L, xsTwo K x y = true := fun x hx y hy => List.all_eq_true.mp (Bool.and_eq_true_iff.mp (List.all_eq_true.mp c x hx)).2 y hy
  have o : ∀ x ∈ L, PySem.W.nsIn K mainGlobals x = some (some (.ref (He.ga K x))) ∧ PySem.W.kitOne K (.ref (He.ga K x)) (.type "ValueError") = some true ∧ ExcC K (He.ga K x) ∧ (x ≠ "BadWords" → PySem.W.excIn K (He.ga K x) He.veBase "ValueError.__new__" = true) ∧
      PySem.W.keepIn K (.ref (He.ga K x)) = true ∧ PySem.W.subIn K (.ref (He.ga K x)) (.type "BaseException") = some true ∧ PySem.W.typeIn K (.ref (He.ga K x)) = some (.type "type") := fun x hx => by
    obtain ⟨h1, h⟩ := Bool.and_eq_true_iff.mp (one x hx)
    obtain ⟨h2, h⟩ := Bool.and_eq_true_iff.mp h
    obtain ⟨h3, h⟩ := Bool.and_eq_true_iff.mp h
    obtain ⟨h4, h⟩ := Bool.and_eq_true_iff.mp h
    obtain ⟨h5, h⟩ := Bool.and_eq_true_iff.mp h
    obtain ⟨h6, h7⟩ := Bool.and_eq_true_iff.mp h
    refine ⟨of_decide_eq_true h1, of_decide_eq_true h2, excCB_ok h3, fun hn => ?_, h5, of_decide_eq_true h6, of_decide_eq_true h7⟩
    rcases Bool.or_eq_true_iff.mp h4 with h4 | h4
    · exact absurd (of_decide_eq_true h4) hn
    · exact h4
  exact ⟨PySem.W.mg_none_of X G (of_decide_eq_true c0), fun x hx => PySem.W.mg_of X G (o x hx).1, fun x hx y hy => of_decide_eq_true (Bool.and_eq_true_iff.mp (two x hx y hy)).1, fun x hx y hy => of_decide_eq_true (Bool.and_eq_true_iff.mp (two x hx y hy)).2,
    fun x hx => (o x hx).2.1, fun x hx => (o x hx).2.2.1, fun x hx => (o x hx).2.2.2.1, fun x hx => (o x hx).2.2.2.2.1, fun x hx => (o x hx).2.2.2.2.2.1, fun x hx => (o x hx).2.2.2.2.2.2⟩

/-! ### defs that may raise -/
theorem cxn_cx {P : Program} {w : World} {outer : List Env} {H : Hp} {s : Shared} {E : XK} {u : Value} {s' : Shared} (h : L2N.CX P w outer H s E u s') : L2.CX P w outer H s E u s' := by
  obtain ⟨a, B, H', cls, d, e, fl, r⟩ := h
  exact ⟨a, B, H', cls, d, e, L2H.flyingZ_imp (fun _ z => z.zc) fl, r⟩
theorem fn_weak {P : Program} {w : World} {K : PySem.W.Frag} {mg : Str → Option Value} {base : Heap} {k : Nat} {f : Addr} {fd : FuncData} {ps : List Str} {sp : Sp} (F : FnOk P w K mg base (L2N.CX P w) k f fd ps sp) : FnOk P w K mg base (L2.CX P w) k f fd ps sp :=
  ⟨F.len, fun A outer s H args us vs Q E hr he hb hv hs => codeAny_mono (F.run A outer s H args us vs Q E hr he hb hv hs) fun r s' q => by
    cases r with
    | error e => exact cxn_cx q
    | ok fl => cases fl <;> exact q⟩
theorem FnD.toX {P : Program} {w : World} {K : PySem.W.Frag} {mg : Str → Option Value} {base : Heap} {k : Nat} {x : Str} {m : List PyData → R PyData} (F : FnD P w K mg base (L2N.CX P w) k x m) : FnD P w K mg base (L2.CX P w) k x m :=
  let ⟨f, fd, ps, a, b⟩ := F.ex; ⟨f, fd, ps, fn_weak a, b⟩
section
variable {X : Cx} {W : WX} {E : XK}
theorem passW (tk : L2.Takes X W) (hW : ∀ cls d σ H, σ.length = X.N.length → E cls d H → W cls d σ H) : Passes (L2.CX X.prog X.w) X E := fun _ σ _ _ e s' I c => tk e s' (L2.XE.of_call I (fun cls d H' h => hW cls d σ H' I.len h) c)
theorem passN (tk : L2N.Takes X W) (hW : ∀ cls d σ H, σ.length = X.N.length → E cls d H → W cls d σ H) : Passes (L2N.CX X.prog X.w) X E := fun _ σ _ _ e s' I c => tk e s' (L2N.XE.of_call I (fun cls d H' h => hW cls d σ H' I.len h) c)
/-- in a def's own body -/
theorem passB (tk : L2.Takes X fun cls d _ H => E cls d H) : Passes (L2.CX X.prog X.w) X E := passW tk fun _ _ _ _ _ h => h
theorem passBN (tk : L2N.Takes X fun cls d _ H => E cls d H) : Passes (L2N.CX X.prog X.w) X E := passN tk fun _ _ _ _ _ h => h
end
/-- a wish for any slots -/
def Eall (n : Nat) (W : WX) : XK := fun cls d H => ∀ σ : St, σ.length = n → W cls d σ H
theorem passT {X : Cx} {W : WX} (tk : L2.Takes X W) : Passes (L2.CX X.prog X.w) X (Eall X.N.length W) := passW tk fun _ _ σ _ hl h => h σ hl
theorem passTN {X : Cx} {W : WX} (tk : L2N.Takes X W) : Passes (L2N.CX X.prog X.w) X (Eall X.N.length W) := passN tk fun _ _ σ _ hl h => h σ hl

/-! ### raise X('..') -/
def sRaise (x : Str) : Rho → R Out := fun _ => .ex ⟨x, none⟩
section
variable {X : Cx} {E : XK} {L : List Str} {x m : Str} {j : Nat} {p p2 pos pos' : Pos}
theorem xw_raise {B : Hp × Hp} {G H : Hp} {σ : St} {ρ : Rho} (S : XsOk X.K X.mg L) (hx : x ∈ L) (e : EnvOk X.K B G σ H ρ) (h : XW X.K X.mg E B ⟨x, none⟩) : E (.ref (He.ga X.K x)) none H := h _ none H G (S.glo x hx) e.gr rfl
theorem ds_raise (hc : X.calm = true) (tk : L2.Takes X fun cls d _ H => E cls d H) (S : XsOk X.K X.mg L) (hx : x ∈ L) (hg : Gl X x) (hn : x ≠ "BadWords" := by decide) (hdb : (x == ("__debug__" : Str)) = false := by decide) :
    PS X (.Raise (some (.Call (.Name x p) [.Constant (.str m) j p2] [] pos)) none pos') (tS X.K X.mg E (sRaise x)) :=
  ps_imp (L2.ps_raise hc tk (L2.pmk_own PySem.F.excBase_ValueError (S.exc x hx hn) (S.glo x hx) (S.kp x hx) (raises_own (S.sb x hx) (S.ty x hx)) hg hdb)) fun _ _ σ H D _ ⟨B, ρ, G, e, h⟩ => xw_raise S hx e h
theorem ds_raiseN (hc : X.calm = true) (tk : L2N.Takes X fun cls d _ H => E cls d H) (S : XsOk X.K X.mg L) (hx : x ∈ L) (hg : Gl X x) (hn : x ≠ "BadWords" := by decide) (hdb : (x == ("__debug__" : Str)) = false := by decide) :
    PS X (.Raise (some (.Call (.Name x p) [.Constant (.str m) j p2] [] pos)) none pos') (tS X.K X.mg E (sRaise x)) :=
  ps_imp (L2N.ps_raise hc tk (L2N.pmk_own PySem.F.excBase_ValueError (S.exc x hx hn) (S.glo x hx) (S.kp x hx) (raises_own (S.sb x hx) (S.ty x hx)) hg hdb)) fun _ _ σ H D _ ⟨B, ρ, G, e, h⟩ => xw_raise S hx e h
theorem ds_raiseH (hot : L2H.HotC X) (tk : L2.Takes X fun cls d _ H => E cls d H) (S : XsOk X.K X.mg L) (hx : x ∈ L) (hg : Gl X x) (hn : x ≠ "BadWords" := by decide) (hdb : (x == ("__debug__" : Str)) = false := by decide) :
    PS X (.Raise (some (.Call (.Name x p) [.Constant (.str m) j p2] [] pos)) none pos') (tS X.K X.mg E (sRaise x)) :=
  ps_imp (L2H.ps_raiseH hot tk (L2N.pmk_own PySem.F.excBase_ValueError (S.exc x hx hn) (S.glo x hx) (S.kp x hx) (raises_own (S.sb x hx) (S.ty x hx)) hg hdb)) fun _ _ σ H D _ ⟨B, ρ, G, e, h⟩ => xw_raise S hx e h
end

/-! ### try -/
def dropO (ρ : Rho) : Rho := ρ.map fun e => match e with
  | some (.fz d) => some (.fz d)
  | _ => none
section
variable {K : PySem.W.Frag} {B : Hp × Hp} {G G' H H' : Hp} {σ σ' : St} {ρ ρ' : Rho}
theorem dropO_get {i : Nat} {e : Ent} (h : (dropO ρ)[i]? = some (some e)) : ∃ d, e = .fz d ∧ ρ[i]? = some (some (.fz d)) := by
  unfold dropO at h
  rw [List.getElem?_map] at h
  cases q : ρ[i]? with
  | none => rw [q] at h; cases h
  | some o =>
    rw [q] at h
    cases o with
    | none => cases h
    | some e' =>
      cases e' with
      | fz d => cases h; exact ⟨d, rfl, rfl⟩
      | ow ds => cases h
      | od ds => cases h
theorem EnvOk.rebase (h : EnvOk K B G σ H ρ) : EnvOk K (G, H) G σ H (dropO ρ) where
  gr := Gr.refl h.gr.sub
  len := by unfold dropO; rw [List.length_map]; exact h.len
  at_ := fun i e q => by
    obtain ⟨d, rfl, q'⟩ := dropO_get q
    exact h.at_ i _ q'
  sep := fun i j e e' v r o r' o' => by
    obtain ⟨d, rfl, _⟩ := dropO_get r
    cases o
theorem EnvOk.unbase (g : Gr B.1 B.2 G H) (h : EnvOk K (G, H) G' σ' H' ρ') : EnvOk K B G' σ' H' ρ' where
  gr := g.trans h.gr
  len := h.len
  at_ := fun i e q => by
    obtain ⟨v, e1, e2⟩ := h.at_ i e q
    refine ⟨v, e1, ?_⟩
    cases e with
    | fz d => exact e2
    | ow ds =>
      obtain ⟨l, vs, a, b, c, d, r⟩ := e2
      exact ⟨l, vs, a, b, c, g.h.free d, r⟩
    | od ds =>
      obtain ⟨l, vs, a, b, c, d, r⟩ := e2
      exact ⟨l, vs, a, b, c, g.h.free d, r⟩
  sep := h.sep
theorem EnvOk.void (g : Gr B.1 B.2 G' H') (hl : σ'.length = ρ.length) : EnvOk K B G' σ' H' (List.replicate ρ.length none) where
  gr := g
  len := by rw [List.length_replicate]; exact hl
  at_ := fun i e q => by
    have := List.getElem?_replicate (a := (none : Option Ent)) (n := ρ.length) (i := i)
    rw [this] at q
    split at q <;> cases q
  sep := fun i j e e' v q => by
    have := List.getElem?_replicate (a := (none : Option Ent)) (n := ρ.length) (i := i)
    rw [this] at q
    split at q <;> cases q
end
/-- try: fb / except Y: fs -/
def sTry (L : List Str) (y : Str) (fb : Rho → R Out) (fs : Exn → Rho → R Out) : Rho → R Out := fun ρ => match fb (dropO ρ) with
  | .ok o => .ok o
  | .ex e => if (decide (e.cls ∈ L) && subX e.cls y) = true then fs e (List.replicate ρ.length none) else .no
  | .no => .no
theorem outOk_re {K : PySem.W.Frag} {B : Hp × Hp} {G H : Hp} {D : Ends} {o : Out} (g : Gr B.1 B.2 G H) (h : OutOk K B G D o) : OutOk K (G, H) G D o := by
  cases o with
  | nx ρ => exact fun σ' H' G' e s => h σ' H' G' (e.unbase g) s
  | bk ρ => exact fun σ' H' G' e s => h σ' H' G' (e.unbase g) s
  | ct ρ => exact fun σ' H' G' e s => h σ' H' G' (e.unbase g) s
  | ret d => exact fun v H' G' g' r => h v H' G' (g.trans g') r
section
variable {X : Cx} {E : XK} {L : List Str} {y : Str} {body suite : List Stmt} {b₀ : Stmt} {fb : Rho → R Out} {fs : Exn → Rho → R Out} {np pos pos' : Pos}
/-- what the suite begins with -/
def tSu (K : PySem.W.Frag) (mg : Str → Option Value) (E : XK) (fs : Exn → Rho → R Out) (cls : Value) : TS := fun D σ H => ∃ e : Exn, mg e.cls = some cls ∧ tS K mg E (fs e) D σ H
theorem tTry_of {B : Hp × Hp} {G H : Hp} {σ : St} {ρ : Rho} {D : Ends} {WT : WX} (S : XsOk X.K X.mg L) (hy : y ∈ L) (hl : σ.length = X.N.length) (e : EnvOk X.K B G σ H ρ) (h : (sTry L y fb fs ρ).holds (OutOk X.K B G D) (XW X.K X.mg E B))
    (hW : ∀ (e' : Exn) C dx H' G' σ', e'.cls ∈ L → subX e'.cls y = true → X.mg e'.cls = some (.ref C) → Gr G H G' H' → PayOk X.K G' e'.at_ dx H' → σ'.length = X.N.length → EnvOk X.K B G' σ' H' (List.replicate ρ.length none) →
      (fs e' (List.replicate ρ.length none)).holds (OutOk X.K B G' D) (XW X.K X.mg E B) → WT (.ref C) dx σ' H') : tS X.K X.mg (Eall X.N.length WT) fb D σ H := by
  refine ⟨(G, H), dropO ρ, G, e.rebase, ?_⟩
  unfold sTry at h
  cases q : fb (dropO ρ) with
  | ok o =>
    rw [q] at h
    exact outOk_re e.gr h
  | no => rw [q] at h; exact h.elim
  | ex e' =>
    rw [q] at h
    intro C dx H' G' hm g p σ' hl'
    have h' : (if (decide (e'.cls ∈ L) && subX e'.cls y) = true then fs e' (List.replicate ρ.length none) else R.no).holds (OutOk X.K B G D) (XW X.K X.mg E B) := h
    by_cases c : (decide (e'.cls ∈ L) && subX e'.cls y) = true
    · rw [if_pos c] at h'
      simp only [Bool.and_eq_true, decide_eq_true_eq] at c
      exact hW e' C dx H' G' σ' c.1 c.2 hm g p hl' (EnvOk.void (e.gr.trans g) (by rw [hl', ← hl, e.len])) (R.holds.mono h' (fun o z => z.mono g.g) fun _ z => z)
    · rw [if_neg c] at h'
      exact h'.elim
/-- try: .. except Y: .. -/
theorem ds_try (S : XsOk X.K X.mg L) (hy : y ∈ L) (hs : X.stack = X.env :: X.outer) (hf : X.env.frame = some X.env.locals) (hg : Gl X y) 
    (hb : ∀ (W : WX) (pn : List (Addr × Obj)) (xe : Value → Shared → Prop), L2.Takes (X.tr pn xe) W → PassesOwn (model X.prog X.w) X.A X.env xe → PSs (X.tr pn xe) body (tS X.K X.mg (Eall X.N.length W) fb))
    (hsu : ∀ (e : Exn) (a : Addr) (oe : Obj) (pn : List (Addr × Obj)), PSs (X.suite a ((a, oe) :: pn)) (b₀ :: suite) (tS X.K X.mg E (fs e))) (hdb : (y == ("__debug__" : Str)) = false := by decide) :
    PS X (.Try body [.ExceptHandler (some (.Name y np)) none (b₀ :: suite) pos'] [] [] pos) (tS X.K X.mg E (sTry L y fb fs)) :=
  ps_imp (ps_try_only (c := .ref (He.ga X.K y)) (ts := fun a cls d => tSu X.K X.mg E fs cls) (Wout := fun _ _ _ _ => False) hs hf ⟨hg, hdb, .inl (S.glo y hy)⟩ takes0 hb
      (fun a oe cls d pn _ _ => ⟨fun pins s σ H D I ⟨e, _, h⟩ => (hsu e a oe pn).run pins s σ H D I h⟩)) fun _ _ σ H D I ⟨B, ρ, G, e, h⟩ =>
    tTry_of S hy I.len e h fun e' C dx H' G' σ' m1 m2 hm g p hl ev hq => by
      have ec : C = He.ga X.K e'.cls := by
        have z := hm.symm.trans (S.glo _ m1)
        cases z
        rfl
      subst ec
      exact ⟨true, by rw [S.exm _ m1 _ hy, m2], fun _ a na => ⟨e', hm, B, _, G', ev, hq⟩, fun z => nomatch z⟩
/-- try: .. except Y: a suite that raises -/
theorem ds_tryX (S : XsOk X.K X.mg L) (hy : y ∈ L) (hs : X.stack = X.env :: X.outer) (hf : X.env.frame = some X.env.locals) (hg : Gl X y) (hpa : ∀ hd : Option Value, PassesOwnAt (model X.prog X.w) (X.A.mark hd) X.A X.env X.xe) (tk : L2.Takes X fun cls d _ H => E cls d H)
    (hb : ∀ (W : WX) (pn : List (Addr × Obj)) (xe : Value → Shared → Prop), L2N.Takes (X.tr pn xe) W → PassesOwn (model X.prog X.w) X.A X.env xe → PSs (X.tr pn xe) body (tS X.K X.mg (Eall X.N.length W) fb))
    (hsu : ∀ (e : Exn) (a : Addr) (oe : Obj) (pn : List (Addr × Obj)), L2.Takes (L2H.suiteX X a ((a, oe) :: pn)) (fun cls d _ H => E cls d H) → L2H.HotC (L2H.suiteX X a ((a, oe) :: pn)) → PSs (L2H.suiteX X a ((a, oe) :: pn)) (b₀ :: suite) (tS X.K X.mg E (fs e))) (hdb : (y == ("__debug__" : Str)) = false := by decide) :
    PS X (.Try body [.ExceptHandler (some (.Name y np)) none (b₀ :: suite) pos'] [] [] pos) (tS X.K X.mg E (sTry L y fb fs)) :=
  ps_imp (L2H.ps_try_onlyX (c := .ref (He.ga X.K y)) (ts := fun a cls d => tSu X.K X.mg E fs cls) (Wout := fun cls d _ H => E cls d H) hs hf ⟨hg, hdb, .inl (S.glo y hy)⟩ hpa tk (fun W pn xe t _ p => hb W pn xe t p)
      (fun a oe cls d pn _ _ t hot => ⟨fun pins s σ H D I ⟨e, _, h⟩ => (hsu e a oe pn t hot).run pins s σ H D I h⟩)) fun _ _ σ H D I ⟨B, ρ, G, e, h⟩ =>
    tTry_of S hy I.len e h fun e' C dx H' G' σ' m1 m2 hm g p hl ev hq => by
      have ec : C = He.ga X.K e'.cls := by
        have z := hm.symm.trans (S.glo _ m1)
        cases z
        rfl
      subst ec
      exact ⟨true, by rw [S.exm _ m1 _ hy, m2], fun _ a na => ⟨e', hm, B, _, G', ev, hq⟩, fun z => nomatch z⟩
end
end L2.PD

set_option Elab.async false
set_option linter.all false
set_option autoImplicit false
set_option maxRecDepth 100000
set_option maxHeartbeats 2000000
/-! PDy: except Y as e: the suite's readings. -/
namespace L2.PD
open PySem PySem.Spec PyProof.Rows L2

theorem PayOk.gr {K : PySem.W.Frag} {G H G' H' : Hp} {x : Option PyData} {d : Option Addr} (g : Gr G H G' H') (h : PayOk K G x d H) : PayOk K G' x d H' := by
  cases x with
  | none => exact h
  | some x =>
    cases d with
    | none => exact h.elim
    | some d =>
      obtain ⟨v, e, r⟩ := h
      exact ⟨v, g.h _ _ e, r.mono g.g⟩
/-- the suite knows: slot i holds the error at a, d is its dict, x its field -/
structure Hd where
  a : Addr
  d : Option Addr
  x : Option PyData
  i : Nat
def Hd.Ok (K : PySem.W.Frag) (h : Hd) (G : Hp) (σ : St) (H : Hp) : Prop := σ[h.i]? = some (some (.ref h.a)) ∧ PayOk K G h.x h.d H
theorem Hd.Ok.gr {K : PySem.W.Frag} {h : Hd} {G H G' H' : Hp} {σ : St} (g : Gr G H G' H') (k : h.Ok K G σ H) : h.Ok K G' σ H' := ⟨k.1, k.2.gr g⟩
section
variable (K : PySem.W.Frag) (mg : Str → Option Value) (E : XK) (h : Hd)
def hP (f : Rho → R PyData) : TE := fun σ H Q => ∃ B ρ G, EnvOk K B G σ H ρ ∧ h.Ok K G σ H ∧ (f ρ).holds (fun d => ∀ v H' G', Gr G H G' H' → Rp K G' v d → Q v H') (XW K mg E B)
def hT (f : Rho → R Bool) : TT := fun σ H Q => ∃ B ρ G, EnvOk K B G σ H ρ ∧ h.Ok K G σ H ∧ (f ρ).holds (fun b => ∀ H' G', Gr G H G' H' → Q b H') (XW K mg E B)
def hA (f : Rho → R (List PyData)) : TA := fun σ H Q => ∃ B ρ G, EnvOk K B G σ H ρ ∧ h.Ok K G σ H ∧ (f ρ).holds (fun ds => ∀ vs H' G', Gr G H G' H' → RpAll K G' vs ds → Q vs H') (XW K mg E B)
def OutH (B : Hp × Hp) (G : Hp) (D : Ends) : Out → Prop
  | .nx ρ => ∀ σ' H' G', EnvOk K B G' σ' H' ρ → h.Ok K G' σ' H' → Same G G' → D.nx σ' H'
  | .bk ρ => ∀ σ' H' G', EnvOk K B G' σ' H' ρ → h.Ok K G' σ' H' → Same G G' → D.bk σ' H'
  | .ct ρ => ∀ σ' H' G', EnvOk K B G' σ' H' ρ → h.Ok K G' σ' H' → Same G G' → D.ct σ' H'
  | .ret d => ∀ v H' G', Gr B.1 B.2 G' H' → Rp K G' v d → D.rt v H'
def hS (f : Rho → R Out) : TS := fun D σ H => ∃ B ρ G, EnvOk K B G σ H ρ ∧ h.Ok K G σ H ∧ (f ρ).holds (OutH K h B G D) (XW K mg E B)
end
section
variable {X : Cx} {E : XK} {h : Hd} {a b e : Expr} {es : List Expr} {f g : Rho → R PyData} {ga : Rho → R (List PyData)} {ft : Rho → R Bool} {fs gs : Rho → R Out} {st : Stmt} {sts : List Stmt} {pos p p2 : Pos}
theorem OutH.mono {K : PySem.W.Frag} {B : Hp × Hp} {G G' : Hp} {D : Ends} {o : Out} (k : OutH K h B G D o) (s : Same G G') : OutH K h B G' D o := by
  cases o with
  | nx ρ => exact fun σ' H' G'' e m s' => k σ' H' G'' e m (s.trans s')
  | bk ρ => exact fun σ' H' G'' e m s' => k σ' H' G'' e m (s.trans s')
  | ct ρ => exact fun σ' H' G'' e m s' => k σ' H' G'' e m (s.trans s')
  | ret d => exact k
theorem he_plain (k : PE X a (tP X.K X.mg E f)) : PE X a (hP X.K X.mg E h f) := pe_imp k fun _ _ _ _ _ _ ⟨B, ρ, G, e, _, q⟩ => ⟨B, ρ, G, e, q⟩
theorem ht_plain (k : PT X a (tT X.K X.mg E ft)) : PT X a (hT X.K X.mg E h ft) := pt_imp k fun _ _ _ _ _ _ ⟨B, ρ, G, e, _, q⟩ => ⟨B, ρ, G, e, q⟩
theorem ha_nil : PA X [] (hA X.K X.mg E h aNil) := pa_imp pa_nil fun _ _ σ H Q _ ⟨B, ρ, G, e, _, q⟩ => q [] H G (Gr.refl e.sub) .nil
theorem hP_bind {B : Hp × Hp} {G H : Hp} {σ : St} {ρ : Rho} {β : Type} {P : β → Prop} {f : Rho → R PyData} {k : PyData → R β} {Q : VK} (e : EnvOk X.K B G σ H ρ) (o : h.Ok X.K G σ H) (q : ((f ρ).bind k).holds P (XW X.K X.mg E B))
    (hq : ∀ d v H1 G1, Gr G H G1 H1 → Rp X.K G1 v d → EnvOk X.K B G1 σ H1 ρ → h.Ok X.K G1 σ H1 → (k d).holds P (XW X.K X.mg E B) → Q v H1) : hP X.K X.mg E h f σ H Q :=
  ⟨B, ρ, G, e, o, (R.holds_bind.mp q).mono (fun d hd v H1 G1 g r => hq d v H1 G1 g r (e.step g) (o.gr g) hd) fun _ z => z⟩
theorem hA_bind {B : Hp × Hp} {G H : Hp} {σ : St} {ρ : Rho} {β : Type} {P : β → Prop} {f : Rho → R (List PyData)} {k : List PyData → R β} {Q : List V → Hp → Prop} (e : EnvOk X.K B G σ H ρ) (o : h.Ok X.K G σ H) (q : ((f ρ).bind k).holds P (XW X.K X.mg E B))
    (hq : ∀ ds vs H1 G1, Gr G H G1 H1 → RpAll X.K G1 vs ds → EnvOk X.K B G1 σ H1 ρ → h.Ok X.K G1 σ H1 → (k ds).holds P (XW X.K X.mg E B) → Q vs H1) : hA X.K X.mg E h f σ H Q :=
  ⟨B, ρ, G, e, o, (R.holds_bind.mp q).mono (fun d hd v H1 G1 g r => hq d v H1 G1 g r (e.step g) (o.gr g) hd) fun _ z => z⟩
theorem ha_cons (ka : PE X a (hP X.K X.mg E h f)) (kr : PA X es (hA X.K X.mg E h ga)) (hs : starEach (a :: es) X.env = (false, eval a X.env) :: starEach es X.env := by rfl) : PA X (a :: es) (hA X.K X.mg E h (aCons f ga)) :=
  pa_imp (pa_cons ka kr hs) fun _ _ σ H Q _ ⟨B, ρ, G, e, o, q⟩ => hP_bind e o q fun d v H1 G1 g1 r1 e1 o1 q1 => hA_bind e1 o1 q1 fun ds vs H2 G2 g2 r2 e2 o2 q2 =>
    q2 _ H2 G2 (g1.trans g2) (.cons (r1.mono g2.g) r2)
theorem he_lst (k : PA X es (hA X.K X.mg E h ga)) : PE X (.List es pos) (hP X.K X.mg E h (fLst ga)) :=
  pe_imp (pe_lst k) fun _ _ σ H Q _ ⟨B, ρ, G, e, o, q⟩ => hA_bind e o q fun ds vs H1 G1 g1 r1 e1 o1 q1 => by
    obtain ⟨c, q1⟩ := guard_holds q1
    have c := of_decide_eq_true c
    rw [← r1.length] at c
    exact ⟨lim_line c, mk_lst e1.sub r1 fun v H' G' g r => q1 v H' G' (g1.trans g) r⟩
theorem he_op {op : Operator} {o : PyData → PyData → R PyData} (n : NoEx2 o) (ho : OpR X (binaryOp op) (rD X.K o)) (ka : PE X a (hP X.K X.mg E h f)) (kb : PE X b (hP X.K X.mg E h g)) : PE X (.BinOp a op b pos) (hP X.K X.mg E h (f2 o f g)) :=
  pe_imp (pe_op ho ka kb) fun _ _ σ H Q _ ⟨B, ρ, G, e, k, q⟩ => hP_bind e k q fun d v H1 G1 g1 r1 e1 k1 q1 => hP_bind e1 k1 q1 fun d2 v2 H2 G2 g2 r2 e2 k2 q2 => ⟨G2, d, d2, e2.sub, r1.mono g2.g, r2, by
    exact noex_holds (n d d2) ((q2.mono (fun d3 h3 v3 H3 G3 g3 r3 => h3 v3 H3 G3 (g1.trans (g2.trans g3)) r3) (E' := XW X.K X.mg E B) fun _ z => z))⟩
theorem hs_ret (k : PE X a (hP X.K X.mg E h f)) : PS X (.Return (some a) pos) (hS X.K X.mg E h (sRet f)) :=
  ps_imp (ps_ret k) fun _ _ σ H D _ ⟨B, ρ, G, e, o, q⟩ => hP_bind e o q fun d v H1 G1 g1 r1 e1 o1 q1 => q1 v H1 G1 e1.gr r1
theorem hs_plainRet (k : PS X st (tS X.K X.mg E fs)) (hr : ∀ ρ o, fs ρ = .ok o → ∃ d, o = .ret d) : PS X st (hS X.K X.mg E h fs) :=
  ps_imp k fun _ _ σ H D _ ⟨B, ρ, G, e, _, q⟩ => ⟨B, ρ, G, e, by
    cases z : fs ρ with
    | ok o =>
      rw [z] at q
      obtain ⟨d, rfl⟩ := hr ρ o z
      exact q
    | ex e' => rw [z] at q; exact q
    | no => rw [z] at q; exact q⟩
theorem hs_set {j : Nat} {x : Str} {pos' : Pos} (hN : X.N.Nodup) (hj : X.N[j]? = some x) (hx : Loc X.env.scope x) (k : PE X a (hP X.K X.mg E h f)) (hne : j ≠ h.i) (hs : swapsWith a (some (.Name x pos')) pos.line X.env = pure false := by rfl)
    (hf : X.fn x = true ∨ X.env.scope.names.lookup x = some .local := by first | exact .inl rfl | exact .inr rfl | assumption) : PS X (.Assign [.Name x pos'] a pos) (hS X.K X.mg E h (sSet j f)) :=
  ps_imp (ps_set hN hj hx k hs hf) fun _ _ σ H D _ ⟨B, ρ, G, e, o, q⟩ => hP_bind e o q fun d v H1 G1 g1 r1 e1 o1 q1 => q1 _ H1 G1 (e1.setF j r1) ⟨by rw [List.getElem?_set_ne hne]; exact o1.1, o1.2⟩ g1.g
theorem hss_nil : PSs X [] (hS X.K X.mg E h sNil) := pss_imp pss_nil fun _ _ σ H D _ ⟨B, ρ, G, e, o, q⟩ => q σ H G e o (Same.refl _)
theorem hss_one (k : PS X st (hS X.K X.mg E h fs)) : PSs X [st] (hS X.K X.mg E h fs) := pss_one k
theorem hss_cons (k : PS X st (hS X.K X.mg E h fs)) (k' : PSs X sts (hS X.K X.mg E h gs)) : PSs X (st :: sts) (hS X.K X.mg E h (sSeq fs gs)) :=
  pss_imp (pss_cons k k') fun _ _ σ H D _ ⟨B, ρ, G, e, o, q⟩ => ⟨B, ρ, G, e, o, (R.holds_bind.mp q).mono (fun u hu => by
    cases u with
    | nx ρ' => exact fun σ' H' G' e' o' s' => ⟨B, ρ', G', e', o', R.holds.mono hu (fun o' z => z.mono s') fun _ z => z⟩
    | ret d => exact hu
    | bk ρ' => exact hu
    | ct ρ' => exact hu) fun _ z => z⟩
theorem hs_if {c : Expr} {sa sb : List Stmt} (kc : PT X c (hT X.K X.mg E h ft)) (ka : PSs X sa (hS X.K X.mg E h fs)) (kb : PSs X sb (hS X.K X.mg E h gs)) : PS X (.If c sa sb pos) (hS X.K X.mg E h (sIf ft fs gs)) :=
  ps_imp (ps_if kc ka kb) fun _ _ σ H D _ ⟨B, ρ, G, e, o, q⟩ => ⟨B, ρ, G, e, o, (R.holds_bind.mp q).mono (fun k hk H1 G1 g1 => by
    cases k with
    | true => exact ⟨B, ρ, G1, e.step g1, o.gr g1, R.holds.mono hk (fun o z => z.mono g1.g) fun _ z => z⟩
    | false => exact ⟨B, ρ, G1, e.step g1, o.gr g1, R.holds.mono hk (fun o z => z.mono g1.g) fun _ z => z⟩) fun _ z => z⟩
end

/-! ### the error's class, its field -/
section
variable {X : Cx} {E : XK} {h : Hd} {D : Addr} {oe : Obj} {pn : List (Addr × Obj)} {x y : Str} {pos p p2 p3 : Pos}
/-- isinstance(e, c), e the error that the suite holds, with a field or without -/
def rIsX (K : PySem.W.Frag) (D a : Addr) (d : Option Addr) : List V → Hp → VK → Prop := fun xs H Q => ∃ (c : V) (cv : Value) (b : Bool), xs = [.ref a, c] ∧ (∀ u, RelV c u → u = cv) ∧ (d = none ∨ ∃ dd fs, d = some dd ∧ H dd = some (.xd fs)) ∧ PySem.W.kitOne K (.ref D) cv = some b ∧ Q (.bl b) H
theorem call_isX {X : Cx} {a D : Addr} {d : Option Addr} {oe : Obj} {pn : List (Addr × Obj)} (C : ExcC X.K D) (hz : Zc (.ref D) d oe) (hf : ∃ vs, oe.data = .fields vs) : CallR (X.suite a ((a, oe) :: pn)) (.builtin "isinstance") (rIsX X.K D a d) := by
  intro pins s σ H xs us Q I r ⟨c, cv, b, ex, hcv, hd, e, q⟩
  subst ex
  cases r with
  | cons rx rr =>
    obtain ⟨u2, e2, rt⟩ := vals1 rr
    subst e2
    cases rx
    obtain rfl := hcv _ rt
    have hget := (I.pin (a, oe) (List.mem_append_left _ List.mem_cons_self)).1
    obtain ⟨vs, hv⟩ := hf
    have hnc : PySem.W.notCls oe = true := by unfold PySem.W.notCls; rw [hv] <;> rfl
    have hcl : (PySem.W.clsIn X.K D).isSome = true := by
      obtain ⟨cd, h1, _⟩ := PySem.W.any_some C.hd
      rw [h1]
      rfl
    obtain ⟨od, J⟩ : ∃ od, PySem.W.InstAt s.heap a oe D od := by
      rcases hd with rfl | ⟨dd, fs, rfl, hx⟩
      · exact ⟨none, hget, hz.1, hnc, by rw [hz.2]; trivial⟩
      · have ho : ObjOk X.prog X.w H s.heap dd (.xd fs) := I.hok dd _ hx
        obtain ⟨mA, hns, _⟩ := ho
        obtain ⟨o, h1, _⟩ := lookIn_ns hns
        exact ⟨some o, hget, hz.1, hnc, by rw [hz.2]; exact h1⟩
    exact PySem.W.kia_one (PySem.W.kitx_exc hcl C.hg C.hk C.hs C.ha C.hn C.ht C.hm) I.kIn J e (fun z => nomatch z) fun tk => ⟨.bl b, H, I.kept (t' := tk) fun _ _ z => z, rfl, q⟩
/-- isinstance(e, Y) -/
theorem he_is {cv : Value} {c : V} {b : Bool} (C : ExcC X.K D) (hz : Zc (.ref D) h.d oe) (hf : ∃ vs, oe.data = .fields vs) (hk : PySem.W.kitOne X.K (.ref D) cv = some b) (hc : ∀ u, RelV c u → u = cv) (ky : PE (X.suite h.a ((h.a, oe) :: pn)) (.Name y p3) (tC c))
    (hg : Gl X "isinstance") (hm : X.mg "isinstance" = none) (hN : X.N[h.i]? = some x) (hvis : Vis X.env.scope x) (hd : (x == ("__debug__" : Str)) = false := by decide) (hcd : (x == ("__classdict__" : Str)) = false := by decide)
    (hs1 : starEach [.Name x p2, .Name y p3] (X.suite h.a ((h.a, oe) :: pn)).env = (false, eval (.Name x p2) (X.suite h.a ((h.a, oe) :: pn)).env) :: starEach [.Name y p3] (X.suite h.a ((h.a, oe) :: pn)).env := by rfl)
    (hs2 : starEach [.Name y p3] (X.suite h.a ((h.a, oe) :: pn)).env = (false, eval (.Name y p3) (X.suite h.a ((h.a, oe) :: pn)).env) :: starEach [] (X.suite h.a ((h.a, oe) :: pn)).env := by rfl)
    (hpl : (backTo pos (starEach [.Name y p3] (X.suite h.a ((h.a, oe) :: pn)).env)).any (·.1) = false := by rfl) :
    PE (X.suite h.a ((h.a, oe) :: pn)) (.Call (.Name "isinstance" p) [.Name x p2, .Name y p3] [] pos) (hP X.K X.mg E h (fC (.bool b))) := by
  refine ⟨fun pins s σ H Q I ⟨B, ρ, G, e, o, q⟩ => ?_⟩
  refine (pe_callB (call_isX C hz hf) hg hm (by decide +kernel) (pa_cons (pe_var (i := h.i) hN hvis hd hcd) (pa_cons ky pa_nil hs2) hs1) (by decide) (by decide) hs1 hpl).run pins s σ H Q I ?_
  refine ⟨_, o.1, c, cv, b, rfl, hc, ?_, hk, q _ H G (Gr.refl e.sub) (.bl b)⟩
  have pay := o.2
  cases hx : h.x with
  | none =>
    rw [hx] at pay
    exact .inl pay
  | some x =>
    rw [hx] at pay
    cases hd : h.d with
    | none =>
      rw [hd] at pay
      exact pay.elim
    | some dd =>
      rw [hd] at pay
      obtain ⟨v, e1, _⟩ := pay
      exact .inr ⟨dd, _, rfl, e1⟩
/-- e.at -/
def fAt (e : Exn) : Rho → R PyData := fun _ => match e.at_ with
  | some d => .ok d
  | none => .no
theorem he_at {e : Exn} (hx : h.x = e.at_) (T : XfC X.K D) (hno : PySem.W.findIn X.K (.ref D) "at" = some none) (hz : Zc (.ref D) h.d oe) (hf : ∃ vs, oe.data = .fields vs) (hN : X.N[h.i]? = some x) (hvis : Vis X.env.scope x) (hd : (x == ("__debug__" : Str)) = false := by decide) (hcd : (x == ("__classdict__" : Str)) = false := by decide)
    (hb : attributeBase (.Name x p) "at" X.env (eval (.Name x p) X.env) = eval (.Name x p) X.env := by rfl) : PE (X.suite h.a ((h.a, oe) :: pn)) (.Attribute (.Name x p) "at" pos) (hP X.K X.mg E h (fAt e)) := by
  refine ⟨fun pins s σ H Q I ⟨B, ρ, G, ev, o, q⟩ => ?_⟩
  refine (pe_xf T hno hz hf (pe_var (i := h.i) hN hvis hd hcd) hb).run pins s σ H Q I ?_
  have pay := o.2
  rw [hx] at pay
  unfold fAt at q
  cases ha : e.at_ with
  | none =>
    rw [ha] at q
    exact q.elim
  | some d =>
    rw [ha] at q pay
    cases hd : h.d with
    | none =>
      rw [hd] at pay
      exact pay.elim
    | some dd =>
      rw [hd] at pay
      obtain ⟨v, e1, e2⟩ := pay
      exact ⟨_, o.1, rfl, rfl, dd, _, v, rfl, e1, rfl, q v H G (Gr.refl ev.sub) e2⟩
end
/-- the error's slot is none at the suite's end -/
def noI (i : Nat) (o : Out) : Prop := match o with
  | .nx ρ => ρ[i]? = some none ∨ ρ[i]? = none
  | .bk ρ => ρ[i]? = some none ∨ ρ[i]? = none
  | .ct ρ => ρ[i]? = some none ∨ ρ[i]? = none
  | .ret _ => True
/-- the slot i stays none -/
def Kn (i : Nat) (f : Rho → R Out) : Prop := ∀ ρ o, (ρ[i]? = some none ∨ ρ[i]? = none) → f ρ = .ok o → noI i o
theorem kn_ret {i : Nat} {f : Rho → R PyData} : Kn i (sRet f) := fun ρ o _ h => by
  unfold sRet at h
  cases z : f ρ with
  | ok d => rw [z] at h; cases h; trivial
  | ex e => rw [z] at h; cases h
  | no => rw [z] at h; cases h
theorem kn_nil {i : Nat} : Kn i sNil := fun ρ o hi h => by cases h; exact hi
theorem kn_set {i j : Nat} {f : Rho → R PyData} (hne : j ≠ i) : Kn i (sSet j f) := fun ρ o hi h => by
  unfold sSet at h
  cases z : f ρ with
  | ok d =>
    rw [z] at h
    cases h
    show (ρ.set j _)[i]? = some none ∨ (ρ.set j _)[i]? = none
    rw [List.getElem?_set_ne hne]
    exact hi
  | ex e => rw [z] at h; cases h
  | no => rw [z] at h; cases h
theorem kn_seq {i : Nat} {f g : Rho → R Out} (hf : Kn i f) (hg : Kn i g) : Kn i (sSeq f g) := fun ρ o hi h => by
  unfold sSeq at h
  cases z : f ρ with
  | ok u =>
    rw [z, R.bind_ok] at h
    have hu := hf ρ u hi z
    cases u with
    | nx ρ' => exact hg ρ' o hu h
    | bk ρ' => cases h; exact hu
    | ct ρ' => cases h; exact hu
    | ret d => cases h; trivial
  | ex e => rw [z] at h; cases h
  | no => rw [z] at h; cases h
theorem kn_if {i : Nat} {c : Rho → R Bool} {f g : Rho → R Out} (hf : Kn i f) (hg : Kn i g) : Kn i (sIf c f g) := fun ρ o hi h => by
  unfold sIf at h
  cases z : c ρ with
  | ok u =>
    rw [z, R.bind_ok] at h
    cases u with
    | true => exact hf ρ o hi h
    | false => exact hg ρ o hi h
  | ex e => rw [z] at h; cases h
  | no => rw [z] at h; cases h

/-! ### the try -/
section
variable {X : Cx} {E : XK} {L : List Str} {y n : Str} {i : Nat} {body suite : List Stmt} {b₀ : Stmt} {fb : Rho → R Out} {fs : Exn → Rho → R Out} {np pos pos' : Pos}
def hSu (K : PySem.W.Frag) (mg : Str → Option Value) (E : XK) (L : List Str) (i : Nat) (fs : Exn → Rho → R Out) (a : Addr) (cls : Value) (d : Option Addr) : TS := fun D σ H => ∃ e : Exn, e.cls ∈ L ∧ cls = .ref (He.ga K e.cls) ∧ hS K mg E ⟨a, d, e.at_, i⟩ (fs e) D σ H
theorem EnvOk.wipeS {K : PySem.W.Frag} {B : Hp × Hp} {G H : Hp} {σ : St} {ρ : Rho} (e : EnvOk K B G σ H ρ) (v : Option V) (hi : ρ[i]? = some none ∨ ρ[i]? = none) : EnvOk K B G (σ.set i v) H ρ where
  gr := e.gr
  len := by rw [List.length_set]; exact e.len
  at_ := fun j x q => by
    have hne : i ≠ j := fun z => by subst z; rcases hi with hi | hi <;> (rw [hi] at q; cases q)
    rw [List.getElem?_set_ne hne]
    exact e.at_ j x q
  sep := fun j k x x' v' r1 o1 r2 o2 s1 s2 => by
    have h1 : i ≠ j := fun z => by subst z; rcases hi with hi | hi <;> (rw [hi] at r1; cases r1)
    have h2 : i ≠ k := fun z => by subst z; rcases hi with hi | hi <;> (rw [hi] at r2; cases r2)
    rw [List.getElem?_set_ne h1] at s1
    rw [List.getElem?_set_ne h2] at s2
    exact e.sep j k x x' v' r1 o1 r2 o2 s1 s2
theorem void_none (m : Nat) : (List.replicate m (none : Option Ent))[i]? = some none ∨ (List.replicate m (none : Option Ent))[i]? = none := by
  rw [List.getElem?_replicate]
  by_cases hi : i < m
  · rw [if_pos hi]; exact .inl rfl
  · rw [if_neg hi]; exact .inr rfl
theorem ds_tryAs (S : XsOk X.K X.mg L) (hy : y ∈ L) (hs : X.stack = X.env :: X.outer) (hf : X.env.frame = some X.env.locals) (hN : X.N.Nodup) (hi : X.N[i]? = some n) (hln : X.env.kindOf n = some .local) (hg : Gl X y)
    (hb : ∀ (W : WX) (pn : List (Addr × Obj)) (xe : Value → Shared → Prop), L2.Takes (X.tr pn xe) W → PassesOwn (model X.prog X.w) X.A X.env xe → PSs (X.tr pn xe) body (tS X.K X.mg (Eall X.N.length W) fb))
    (hsu : ∀ (e : Exn) (a : Addr) (oe : Obj) (d : Option Addr) (pn : List (Addr × Obj)), e.cls ∈ L → Zc (.ref (He.ga X.K e.cls)) d oe → (∃ vs, oe.data = .fields vs) → PSs (X.suite a ((a, oe) :: pn)) (b₀ :: suite) (hS X.K X.mg E ⟨a, d, e.at_, i⟩ (fs e)))
    (hno : ∀ e, Kn i (fs e)) (hdb : (y == ("__debug__" : Str)) = false := by decide) :
    PS X (.Try body [.ExceptHandler (some (.Name y np)) (some n) (b₀ :: suite) pos'] [] [] pos) (tS X.K X.mg E (sTry L y fb fs)) :=
  ps_imp (ps_try_as (i := i) (c := .ref (He.ga X.K y)) (ts := hSu X.K X.mg E L i fs) (Wout := fun _ _ _ _ => False) hs hf hN hi hln ⟨hg, hdb, .inl (S.glo y hy)⟩ takes0 hb
      (fun a oe cls d pn hz hfl => ⟨fun pins s σ H D I ⟨e, m, hc, h⟩ => (hsu e a oe d pn m (by rw [← hc]; exact hz) hfl).run pins s σ H D I h⟩)) fun _ _ σ H D I ⟨B, ρ, G, e, h⟩ =>
    tTry_of S hy I.len e h fun e' C dx H' G' σ' m1 m2 hm g p hl ev hq => by
      have ec : C = He.ga X.K e'.cls := by
        have z := hm.symm.trans (S.glo _ m1)
        cases z
        rfl
      subst ec
      refine ⟨true, by rw [S.exm _ m1 _ hy, m2], fun _ a na => ⟨e', m1, rfl, B, _, G', ev.wipeS (i := i) (some (.ref a)) (void_none _), ⟨?_, p⟩, ?_⟩, fun z => nomatch z⟩
      · have hlt : i < σ'.length := by
          rw [hl]
          exact (List.getElem?_eq_some_iff.mp hi).1
        exact List.getElem?_set_self hlt
      · cases z : fs e' (List.replicate ρ.length none) with
        | ok o =>
          rw [z] at hq
          have hn := hno e' _ o (void_none _) z
          cases o with
          | nx ρ' => exact fun σ2 H2 G2 e2 o2 s2 => hq _ H2 G2 (e2.wipeS (i := i) none hn) s2
          | bk ρ' => exact fun σ2 H2 G2 e2 o2 s2 => hq _ H2 G2 (e2.wipeS (i := i) none hn) s2
          | ct ρ' => exact fun σ2 H2 G2 e2 o2 s2 => hq _ H2 G2 (e2.wipeS (i := i) none hn) s2
          | ret d => exact hq
        | ex x => rw [z] at hq; exact hq
        | no => rw [z] at hq; exact hq
end

/-! ### a def that may raise, by its body -/
section
variable {P : Program} {w : World} {K : PySem.W.Frag} {mg : Str → Option Value} {base : Heap} {CX : CXT}
theorem fn_raise {x : Str} {st : Stmt} {N ps : List Str} {k : Nat} {body : Rho → R Out} (D : DefF K mg x st) (S : FnScope N ps (defScope st))
    (hb : ∀ (kV doc pm : Value) (an : Option Addr) (cdv ct : Value) (us : List Value), us.length = ps.length → bindArgs (PySem.W.fnOf x x (defArgs st) (defBody st) (defScope st) .none kV doc pm an cdv ct) ⟨us, []⟩ = pure (ps.zip us))
    (hbody : ∀ (f : Addr) (cdv : Value) (A : Around) (outer : List Env) (s : Shared) (H : Hp) (E : XK), Room k (A.deeper (envOfC x (defScope st) s.heap.objs.size f cdv)) → PSs (cxOf CX P w K mg base N x (defScope st) f cdv A outer s H E) (defBody st) (tS K mg E body)) :
    FnD P w K mg base CX (k + 1) x (run ps.length N.length body) := by
  obtain ⟨f, fd, F, hm⟩ := D
  refine ⟨f, fd, ps, F.ok S (fun vs H Q E h => ?_) (fun cdv A outer s H vs Q E hr h => ⟨tS K mg E body, hbody f cdv A outer s H E hr, run_start h⟩), hm, F.kp, F.bindsN hb⟩
  obtain ⟨G, ds, _, r, h⟩ := h
  rw [r.length]
  exact run_len h
end
section
variable {P : Program} {w : World} {K : PySem.W.Frag} {mg : Str → Option Value} {base : Heap} {CX : CXT}
/-- the law's own def, where it may raise by its text -/
theorem fn_lawX {x : Str} {st : Stmt} {f : Addr} {fd : FuncData} {N ps : List Str} {k : Nat} {body : Rho → R Out} (F : FnP K x st f fd) (S : FnScope N ps (defScope st))
    (hbody : ∀ (f : Addr) (cdv : Value) (A : Around) (outer : List Env) (s : Shared) (H : Hp) (E : XK), Room k (A.deeper (envOfC x (defScope st) s.heap.objs.size f cdv)) → PSs (cxOf CX P w K mg base N x (defScope st) f cdv A outer s H E) (defBody st) (tS K mg E body)) :
    FnOk P w K mg base CX (k + 1) f fd ps (spP K mg (run ps.length N.length body)) := by
  refine F.ok S (fun vs H Q E h => ?_) (fun cdv A outer s H vs Q E hr h => ⟨tS K mg E body, hbody f cdv A outer s H E hr, run_start h⟩)
  obtain ⟨G, ds, _, r, h⟩ := h
  rw [r.length]
  exact run_len h
theorem fn_calm {f : Addr} {fd : FuncData} {ps : List Str} {k : Nat} {sp : Sp} (F : FnOk P w K mg base (L2.CX P w) k f fd ps sp) : FnOk P w K mg base CX0 k f fd ps (fun vs H Q _ => sp vs H Q fun _ _ _ => False) :=
  ⟨fun vs H Q E h => F.len vs H Q _ h, fun A outer s H args us vs Q E hr he hb hv hs => codeAny_mono (F.run A outer s H args us vs Q _ hr he hb hv hs) fun r s' q => by
    cases r with
    | error e =>
      obtain ⟨_, _, _, _, _, _, _, _, _, _, _, _, z⟩ := q
      exact z.elim
    | ok fl => cases fl <;> exact q⟩
end
/-! ### the head's facts, with such as are told of K -/
def obsX (fa : List He.Fa) (fn : List He.DefD) (xs : List (PySem.W.Frag → Bool)) (K : PySem.W.Frag) : He.AlD := ((fa.all fun f => f.ok K) && ((xs.all fun f => f K) && fn.all fun d => d.ok K), fn.map fun d => He.fnW K d.at_)
def SaysX (fa : List He.Fa) (fn : List He.DefD) (xs : List (PySem.W.Frag → Bool)) (K : PySem.W.Frag) : Prop := obsX fa fn xs K = He.valD fn
def obsXG (n : Nat) (fa : List He.Fa) (fn : List He.DefD) (xs : List (PySem.W.Frag → Bool)) (g : Addr → Option Obj) : He.AlD := obsX fa fn xs (He.frG g (He.asD g n))
def hookX (n : Nat) (fa : List He.Fa) (fn : List He.DefD) (xs : List (PySem.W.Frag → Bool)) : PySem.W.Hook where
  α := He.AlD
  obs := fun s => obsXG n fa fn xs s.heap.get?
  val := fun _ => He.valD fn
  says := fun _ h => ∃ K : PySem.W.Frag, K.In h ∧ SaysX fa fn xs K
  of := fun _ _ e => ⟨_, He.frG_in, e⟩
  keeps := fun _ _ _ ⟨K, hK, c⟩ k => ⟨K, PySem.W.Frag.In.keeps hK k, c⟩
theorem obsXG_eq {n : Nat} {fa : List He.Fa} {fn : List He.DefD} {xs : List (PySem.W.Frag → Bool)} {g : Addr → Option Obj} {s : Shared} (h : ∀ a, g a = s.heap.get? a) : obsXG n fa fn xs g = (hookX n fa fn xs).obs s := by
  obtain rfl : g = s.heap.get? := funext h
  rfl
theorem SaysX.tell {fa : List He.Fa} {fn : List He.DefD} {xs : List (PySem.W.Frag → Bool)} {K : PySem.W.Frag} (c : SaysX fa fn xs K) : He.SaysD fa fn K ∧ ∀ f ∈ xs, f K = true := by
  have c1 : ((fa.all fun f => f.ok K) && ((xs.all fun f => f K) && fn.all fun d => d.ok K)) = true := congrArg (fun z : He.AlD => z.1) c
  have c2 : (fn.map fun d => He.fnW K d.at_) = (He.valD fn).2 := congrArg (fun z : He.AlD => z.2) c
  simp only [Bool.and_eq_true] at c1
  refine ⟨?_, fun f hf => List.all_eq_true.mp c1.2.1 f hf⟩
  unfold He.SaysD He.obsD
  rw [c1.1, c1.2.2, c2]
  rfl
end L2.PD

/-! PDv: what Mir2 leans on. -/

set_option Elab.async false
set_option linter.all false
set_option autoImplicit false
set_option maxRecDepth 100000
/-! Mir2: further defs of the program and of the laws as functions over data. Printed by gen.py. -/
namespace L2.PD
open PySem PySem.Spec PyProof.Rows L2
/-- checked_k04: 0 desk -/
def b_checked_k04 : Rho → R Out := (sSeq (sIf (fNot (fTru (fCall m_is_desk (aCons (fName 0) aNil)))) (sRaise "NoDesk") sNil) (sRet (fName 0)))
def m_checked_k04 : List PyData → R PyData := run 1 1 b_checked_k04
/-- law_refused: 0 _law_desk_here -/
def b_law_refused : Rho → R Out := (sSeq (sTry ["ParityError", "NoDesk"] "NoDesk" (sDrop (fCall m_checked_k04 (aCons (fName 0) aNil))) (fun e => (sRet (fC (.bool true))))) (sRet (fC (.bool false))))
def m_law_refused : List PyData → R PyData := run 1 1 b_law_refused
/-- law_by_base: 0 _law_desk_here 1 e -/
def b_law_by_base : Rho → R Out := (sSeq (sTry ["ParityError", "NoDesk"] "ParityError" (sDrop (fCall m_checked_k04 (aCons (fName 0) aNil))) (fun e => (sRet (fC (.bool true))))) (sRet (fC (.bool false))))
def m_law_by_base : List PyData → R PyData := run 1 2 b_law_by_base
/-- law_k04: 0 _law_script 1 _law_desk_here 2 _law_way 3 _law_kind 4 _law_bad -/
def b_law_k04 : Rho → R Out := (sSeq (sSet 1 (fCall m_law_desk (aCons (fName 0) (aCons (fC (.int 5)) aNil)))) (sSeq (sSet 2 (f2 modD (fCall m_law_cell (aCons (fName 0) (aCons (fC (.int 0)) aNil))) (fC (.int 4)))) (sSeq (sIf (fB (f2 eqD (fName 2) (fC (.int 0)))) (sSeq (sSet 3 (f2 modD (fCall m_law_cell (aCons (fName 0) (aCons (fC (.int 1)) aNil))) (fC (.int 11)))) (sSeq (sSet 4 (fCall m_law_frame (aCons (fName 1) (aCons (fName 3) aNil)))) (sSeq (sIf (fAnd (fB (f2 inD (fName 3) (fLst (aCons (fC (.int 3)) (aCons (fC (.int 10)) aNil))))) (fNot (fTru (f2 ixD (fName 1) (fC (.int 1)))))) (sRet (f2 eqD (fCall m_checked_k04 (aCons (fName 4) aNil)) (fName 4))) sNil) (sRet (fAndV (fCall m_law_refused (aCons (fName 4) aNil)) (fCall m_law_by_base (aCons (fName 4) aNil))))))) sNil) (sSeq (sIf (fAnd (fB (f2 eqD (fName 2) (fC (.int 1)))) (fTru (f2 ixD (fName 1) (fC (.int 1))))) (sSeq (sSet 4 (fCall m_law_spoilt_k04 (aCons (fName 1) (aCons (fName 0) aNil)))) (sSeq (sIf (fNot (fTru (fCall m_law_is_desk (aCons (fName 4) aNil)))) (sRet (fAndV (fCall m_law_refused (aCons (fName 4) aNil)) (fCall m_law_by_base (aCons (fName 4) aNil)))) sNil) (sRet (f2 eqD (fCall m_checked_k04 (aCons (fName 4) aNil)) (fName 4))))) sNil) (sRet (f2 eqD (fCall m_checked_k04 (aCons (fName 1) aNil)) (fName 1)))))))
def m_law_k04 : List PyData → R PyData := run 1 5 b_law_k04
/-- told_back_k06: 0 desk 1 word 2 place -/
def b_told_back_k06 : Rho → R Out := (sSeq (sIf (fNot (fTru (fCall m_has (aCons (fName 0) (aCons (fName 1) aNil))))) (sRaise "NotIn") sNil) (sRet (fCall (one tupleD) (aCons (fLc (iSeq (fCall m_heads (aCons (fName 0) aNil))) (stN 2) [2] fYes (f2 ixD (fName 1) (fName 2))) aNil))))
def m_told_back_k06 : List PyData → R PyData := run 2 3 b_told_back_k06
/-- law_refused_k06: 0 _law_desk_here 1 _law_word_here -/
def b_law_refused_k06 : Rho → R Out := (sSeq (sTry ["ParityError", "NotIn"] "NotIn" (sDrop (fCall m_told_back_k06 (aCons (fName 0) (aCons (fName 1) aNil)))) (fun e => (sRet (fC (.bool true))))) (sRet (fC (.bool false))))
def m_law_refused_k06 : List PyData → R PyData := run 2 2 b_law_refused_k06
/-- law_by_base_k06: 0 _law_desk_here 1 _law_word_here 2 e -/
def b_law_by_base_k06 : Rho → R Out := (sSeq (sTry ["ParityError", "NotIn"] "ParityError" (sDrop (fCall m_told_back_k06 (aCons (fName 0) (aCons (fName 1) aNil)))) (fun e => (sRet (fC (.bool true))))) (sRet (fC (.bool false))))
def m_law_by_base_k06 : List PyData → R PyData := run 2 3 b_law_by_base_k06
/-- law_k06: 0 _law_script 1 _law_desk_here 2 _law_size_here 3 _law_rows_here 4 _law_message 5 _law_due 6 _law_bit 7 _law_row 8 _law_found 9 _law_back 10 _law_word_here 11 _law_odd -/
def b_law_k06 : Rho → R Out := (sSeq (sSet 1 (fCall m_law_desk (aCons (fName 0) (aCons (fC (.int 3)) aNil)))) (sSeq (sSet2 2 3 (fName 1)) (sSeq (sSet 4 (fCall m_law_word (aCons (fCall m_law_cell (aCons (fName 0) (aCons (fC (.int 0)) aNil))) (aCons (fCall (one lenD) (aCons (fName 3) aNil)) aNil)))) (sSeq (sSet 5 (f2 mulD (fTup (aCons (fC (.int 0)) aNil)) (fName 2))) (sSeq (sFor (iArg zipBD (aCons (fName 4) (aCons (fName 3) aNil))) (st2 6 7) (sIf (fB (f2 eqD (fName 6) (fC (.int 1)))) (sSet 5 (fCall m_law_sum (aCons (fName 5) (aCons (fName 7) aNil)))) sNil)) (sSeq (sSet 8 (fCall m_put (aCons (fName 1) (aCons (fName 4) aNil)))) (sSeq (sIf (fOr (fNot (fTru (f1 (isiD isiTuple) (fName 8)))) (fOr (fB (f2 neD (fName 8) (fName 5))) (fB (f2 neD (fLc (iSeq (fName 3)) (stN 7) [7] fYes (f2 ixD (fName 8) (fIndex (fName 7) (fC (.int 1))))) (fCall (one listD) (aCons (fName 4) aNil)))))) (sRet (fC (.bool false))) sNil) (sSeq (sSet 9 (fCall m_told_back_k06 (aCons (fName 1) (aCons (fName 8) aNil)))) (sSeq (sIf (fOr (fNot (fTru (f1 (isiD isiTuple) (fName 9)))) (fB (f2 neD (fName 9) (fName 4)))) (sRet (fC (.bool false))) sNil) (sSeq (sSet 10 (fCall m_law_word (aCons (fCall m_law_cell (aCons (fName 0) (aCons (fC (.int 1)) aNil))) (aCons (fName 2) aNil)))) (sSeq (sIf (fB (f2 inD (fName 10) (fCall m_law_spread (aCons (fName 2) (aCons (fName 3) aNil))))) (sRet (f2 eqD (fCall m_put (aCons (fName 1) (aCons (fCall m_told_back_k06 (aCons (fName 1) (aCons (fName 10) aNil))) aNil))) (fName 10))) sNil) (sSeq (sSet 11 (f2 ixD (fLst (aCons (fC .none) (aCons (fCall (one listD) (aCons (fName 5) aNil)) (aCons (f2 addD (fName 5) (fTup (aCons (fC (.int 0)) aNil))) (aCons (f2 mulD (fTup (aCons (fC (.int 2)) aNil)) (fName 2)) (aCons (fC (.str "0")) aNil)))))) (f2 modD (fCall m_law_cell (aCons (fName 0) (aCons (fC (.int 2)) aNil))) (fC (.int 5))))) (sRet (fAndV (fCall m_law_refused_k06 (aCons (fName 1) (aCons (fName 10) aNil))) (fAndV (fCall m_law_by_base_k06 (aCons (fName 1) (aCons (fName 10) aNil))) (fCall m_law_refused_k06 (aCons (fName 1) (aCons (fName 11) aNil))))))))))))))))))
def m_law_k06 : List PyData → R PyData := run 1 12 b_law_k06
/-- look_k15: 0 one 1 other -/
def b_look_k15 : Rho → R Out := (sIf (fB (f2 neD (f2 ixD (fName 0) (fC (.int 0))) (f2 ixD (fName 1) (fC (.int 0))))) (sRaise "Unlike") sNil)
def m_look_k15 : List PyData → R PyData := run 2 2 b_look_k15
/-- joined_k15: 0 one 1 other -/
def b_joined_k15 : Rho → R Out := (sSeq (sDrop (fCall m_look_k15 (aCons (fName 0) (aCons (fName 1) aNil)))) (sRet (fCall m_desk_of (aCons (f2 ixD (fName 0) (fC (.int 0))) (aCons (f2 addD (f2 ixD (fName 0) (fC (.int 1))) (f2 ixD (fName 1) (fC (.int 1)))) aNil)))))
def m_joined_k15 : List PyData → R PyData := run 2 2 b_joined_k15
/-- met_k15: 0 one 1 other -/
def b_met_k15 : Rho → R Out := (sSeq (sDrop (fCall m_look_k15 (aCons (fName 0) (aCons (fName 1) aNil)))) (sRet (fCall m_checks (aCons (fCall m_joined_k15 (aCons (fCall m_checks (aCons (fName 0) aNil)) (aCons (fCall m_checks (aCons (fName 1) aNil)) aNil))) aNil))))
def m_met_k15 : List PyData → R PyData := run 2 2 b_met_k15
/-- within_k15: 0 one 1 other 2 row -/
def b_within_k15 : Rho → R Out := (sSeq (sDrop (fCall m_look_k15 (aCons (fName 0) (aCons (fName 1) aNil)))) (sSeq (sFor (iSeq (f2 ixD (fName 0) (fC (.int 1)))) (stN 2) (sIf (fNot (fTru (fCall m_has (aCons (fName 1) (aCons (fName 2) aNil))))) (sRet (fC (.bool false))) sNil)) (sRet (fC (.bool true)))))
def m_within_k15 : List PyData → R PyData := run 2 3 b_within_k15
/-- beside_k15: 0 one 1 other 2 words 3 row -/
def b_beside_k15 : Rho → R Out := (sSeq (sIf (fB (f2 gtD (f2 addD (f2 ixD (fName 0) (fC (.int 0))) (f2 ixD (fName 1) (fC (.int 0)))) (fC (.int 10)))) (sRaise "Unlike") sNil) (sSeq (sSetO 2 (fLc (iSeq (f2 ixD (fName 0) (fC (.int 1)))) (stN 3) [3] fYes (f2 addD (fName 3) (fCall m_none (aCons (f2 ixD (fName 1) (fC (.int 0))) aNil))))) (sSeq (sExt 2 (fLc (iSeq (f2 ixD (fName 1) (fC (.int 1)))) (stN 3) [3] fYes (f2 addD (fCall m_none (aCons (f2 ixD (fName 0) (fC (.int 0))) aNil)) (fName 3)))) (sFz 2 (sRet (fCall m_desk_of (aCons (f2 addD (f2 ixD (fName 0) (fC (.int 0))) (f2 ixD (fName 1) (fC (.int 0)))) (aCons (fName 2) aNil))))))))
def m_beside_k15 : List PyData → R PyData := run 2 4 b_beside_k15
/-- doubled_k15: 0 one 1 other 2 words 3 row -/
def b_doubled_k15 : Rho → R Out := (sSeq (sDrop (fCall m_look_k15 (aCons (fName 0) (aCons (fName 1) aNil)))) (sSeq (sIf (fB (f2 gtD (f2 mulD (fC (.int 2)) (f2 ixD (fName 0) (fC (.int 0)))) (fC (.int 10)))) (sRaise "Unlike") sNil) (sSeq (sSetO 2 (fLc (iSeq (f2 ixD (fName 0) (fC (.int 1)))) (stN 3) [3] fYes (f2 addD (fName 3) (fName 3)))) (sSeq (sExt 2 (fLc (iSeq (f2 ixD (fName 1) (fC (.int 1)))) (stN 3) [3] fYes (f2 addD (fCall m_none (aCons (f2 ixD (fName 0) (fC (.int 0))) aNil)) (fName 3)))) (sFz 2 (sRet (fCall m_desk_of (aCons (f2 mulD (fC (.int 2)) (f2 ixD (fName 0) (fC (.int 0)))) (aCons (fName 2) aNil)))))))))
def m_doubled_k15 : List PyData → R PyData := run 2 4 b_doubled_k15
/-- law_way: 0 _law_one 1 _law_two 2 _law_way_here 3 e -/
def b_law_way : Rho → R Out := (sSeq (sTry ["ParityError", "Unlike"] "ParityError" (sIf (fB (f2 eqD (fName 2) (fC (.int 0)))) (sDrop (fCall m_joined_k15 (aCons (fName 0) (aCons (fName 1) aNil)))) (sIf (fB (f2 eqD (fName 2) (fC (.int 1)))) (sDrop (fCall m_met_k15 (aCons (fName 0) (aCons (fName 1) aNil)))) (sIf (fB (f2 eqD (fName 2) (fC (.int 2)))) (sDrop (fCall m_within_k15 (aCons (fName 0) (aCons (fName 1) aNil)))) (sIf (fB (f2 eqD (fName 2) (fC (.int 3)))) (sDrop (fCall m_doubled_k15 (aCons (fName 0) (aCons (fName 1) aNil)))) (sDrop (fCall m_beside_k15 (aCons (fName 0) (aCons (fName 1) aNil)))))))) (fun e => (sRet (fLst (aCons (fC (.bool (subX e.cls "Unlike"))) (aCons (fC (.bool true)) aNil)))))) (sRet (fLst aNil)))
def m_law_way : List PyData → R PyData := run 3 4 b_law_way
/-- law_k15: 0 _law_script 1 _law_size_here 2 _law_words_here 3 _law_two 4 _law_one 5 _law_found 6 _law_spread_here 7 _law_due 8 _law_other 9 _law_way_here 10 _law_great 11 _law_wide 12 _law_word_here -/
def b_law_k15 : Rho → R Out := (sSeq (sSet 1 (fCall m_law_size (aCons (fName 0) (aCons (fC (.int 1)) aNil)))) (sSeq (sSet 2 (fCall m_law_words (aCons (fName 0) (aCons (fC (.int 8)) (aCons (fName 1) aNil))))) (sSeq (sSet 3 (fCall m_law_rows (aCons (fCall m_law_spread (aCons (fName 1) (aCons (fName 2) aNil))) aNil))) (sSeq (sSet 4 (fCall m_law_rows (aCons (fCall m_law_spread (aCons (fName 1) (aCons (fCall m_law_words (aCons (fName 0) (aCons (fC (.int 1)) (aCons (fName 1) aNil)))) aNil))) aNil))) (sSeq (sIf (fB (f2 eqD (f2 modD (fCall m_law_cell (aCons (fName 0) (aCons (fC (.int 0)) aNil))) (fC (.int 2))) (fC (.int 0)))) (sSet 4 (fCall m_law_rows (aCons (fCall m_law_spread (aCons (fName 1) (aCons (fSl (fName 2) (oSome (fC (.int 1))) oNo) aNil))) aNil))) sNil) (sSeq (sSet 5 (fCall m_within_k15 (aCons (fName 4) (aCons (fName 3) aNil)))) (sSeq (sSet 6 (fCall m_law_spread (aCons (fName 1) (aCons (f2 ixD (fName 3) (fC (.int 1))) aNil)))) (sSeq (sSet 7 (f2 eqD (fLc (iSeq (fCall m_law_spread (aCons (fName 1) (aCons (f2 ixD (fName 4) (fC (.int 1))) aNil)))) (stN 12) [12] (fB (f2 ninD (fName 12) (fName 6))) (fName 12)) (fLst aNil))) (sSeq (sIf (fOr (fNot (fTru (f1 (isiD isiBool) (fName 5)))) (fOr (fB (f2 neD (fName 5) (fName 7))) (fB (f2 isnD (fCall m_within_k15 (aCons (fName 4) (aCons (fName 4) aNil))) (fC (.bool true)))))) (sRet (fC (.bool false))) sNil) (sSeq (sSet 8 (fTup (aCons (f2 addD (fC (.int 1)) (fName 1)) (aCons (fTup (aCons (f2 mulD (fTup (aCons (fC (.int 1)) aNil)) (f2 addD (fC (.int 1)) (fName 1))) aNil)) aNil)))) (sSeq (sFor (iArg rng1D (aCons (fC (.int 4)) aNil)) (stN 9) (sIf (fB (f2 neD (fCall m_law_way (aCons (fName 4) (aCons (fName 8) (aCons (fName 9) aNil)))) (fLst (aCons (fC (.bool true)) (aCons (fC (.bool true)) aNil))))) (sRet (fC (.bool false))) sNil)) (sSeq (sSet 10 (fTup (aCons (fC (.int 10)) (aCons (fTup (aCons (f2 mulD (fTup (aCons (fC (.int 1)) aNil)) (fC (.int 10))) aNil)) aNil)))) (sSeq (sSet 11 (fTup (aCons (fC (.int 6)) (aCons (fTup (aCons (f2 mulD (fTup (aCons (fC (.int 1)) aNil)) (fC (.int 6))) aNil)) aNil)))) (sRet (fAndV (f2 eqD (fCall m_law_way (aCons (fName 4) (aCons (fName 10) (aCons (fC (.int 4)) aNil)))) (fLst (aCons (fC (.bool true)) (aCons (fC (.bool true)) aNil)))) (f2 eqD (fCall m_law_way (aCons (fName 11) (aCons (fName 11) (aCons (fC (.int 3)) aNil)))) (fLst (aCons (fC (.bool true)) (aCons (fC (.bool true)) aNil)))))))))))))))))))
def m_law_k15 : List PyData → R PyData := run 1 13 b_law_k15
/-- look_place_k17: 0 desk 1 place -/
def b_look_place_k17 : Rho → R Out := (sIf (fOr (fNot (fTru (fCall m_is_within (aCons (fName 1) (aCons (fC (.int 0)) (aCons (f2 subD (f2 ixD (fName 0) (fC (.int 0))) (fC (.int 1))) aNil)))))) (fB (f2 eqD (f2 ixD (fName 0) (fC (.int 0))) (fC (.int 1))))) (sRaise "NoPlace") sNil)
def m_look_place_k17 : List PyData → R PyData := run 2 2 b_look_place_k17
/-- cut_k17: 0 desk 1 place 2 row -/
def b_cut_k17 : Rho → R Out := (sSeq (sDrop (fCall m_look_place_k17 (aCons (fName 0) (aCons (fName 1) aNil)))) (sRet (fCall m_desk_of (aCons (f2 subD (f2 ixD (fName 0) (fC (.int 0))) (fC (.int 1))) (aCons (fLc (iSeq (f2 ixD (fName 0) (fC (.int 1)))) (stN 2) [2] fYes (fCall m_without (aCons (fName 2) (aCons (fName 1) aNil)))) aNil)))))
def m_cut_k17 : List PyData → R PyData := run 2 3 b_cut_k17
/-- kept_k17: 0 desk 1 place 2 some 3 word -/
def b_kept_k17 : Rho → R Out := (sSeq (sDrop (fCall m_look_place_k17 (aCons (fName 0) (aCons (fName 1) aNil)))) (sSeq (sSet 2 (fLc (iSeq (fCall m_words_of (aCons (fName 0) aNil))) (stN 3) [3] (fB (f2 eqD (f2 ixD (fName 3) (fName 1)) (fC (.int 0)))) (fName 3))) (sRet (fCall m_desk_of (aCons (f2 subD (f2 ixD (fName 0) (fC (.int 0))) (fC (.int 1))) (aCons (fLc (iSeq (fName 2)) (stN 3) [3] fYes (fCall m_without (aCons (fName 3) (aCons (fName 1) aNil)))) aNil))))))
def m_kept_k17 : List PyData → R PyData := run 2 4 b_kept_k17
/-- law_way_k17: 0 _law_desk_here 1 _law_place 2 _law_way_here 3 e -/
def b_law_way_k17 : Rho → R Out := (sSeq (sTry ["ParityError", "NoPlace"] "ParityError" (sIf (fB (f2 eqD (fName 2) (fC (.int 0)))) (sDrop (fCall m_cut_k17 (aCons (fName 0) (aCons (fName 1) aNil)))) (sDrop (fCall m_kept_k17 (aCons (fName 0) (aCons (fName 1) aNil))))) (fun e => (sRet (fLst (aCons (fC (.bool (subX e.cls "NoPlace"))) (aCons (fC (.bool true)) aNil)))))) (sRet (fLst aNil)))
def m_law_way_k17 : List PyData → R PyData := run 3 4 b_law_way_k17
/-- law_refused_k17: 0 _law_desk_here 1 _law_place -/
def b_law_refused_k17 : Rho → R Out := (sRet (fAndV (f2 eqD (fCall m_law_way_k17 (aCons (fName 0) (aCons (fName 1) (aCons (fC (.int 0)) aNil)))) (fLst (aCons (fC (.bool true)) (aCons (fC (.bool true)) aNil)))) (f2 eqD (fCall m_law_way_k17 (aCons (fName 0) (aCons (fName 1) (aCons (fC (.int 1)) aNil)))) (fLst (aCons (fC (.bool true)) (aCons (fC (.bool true)) aNil))))))
def m_law_refused_k17 : List PyData → R PyData := run 2 2 b_law_refused_k17
/-- bits_read_k22: 0 text 1 sign -/
def b_bits_read_k22 : Rho → R Out := (sSeq (sFor (iSeq (fName 0)) (stN 1) (sIf (fB (f2 ninD (fName 1) (fC (.str "01")))) (sRaise "BadText") sNil)) (sRet (fCall (one tupleD) (aCons (fLc (iSeq (fName 0)) (stN 1) [1] fYes (fCall (one intD) (aCons (fName 1) aNil))) aNil))))
def m_bits_read_k22 : List PyData → R PyData := run 1 2 b_bits_read_k22
end L2.PD

set_option Elab.async false
set_option linter.all false
set_option autoImplicit false
set_option maxRecDepth 100000
/-! Ty7: try and raise, applied. -/
namespace L2.PD
open PySem PySem.Spec PyProof.Rows L2
@[simp] theorem e_raise {x : Str} {ρ : Rho} : sRaise x ρ = .ex ⟨x, none⟩ := id rfl
@[simp] theorem e_try {L : List Str} {y : Str} {fb : Rho → R Out} {fs : Exn → Rho → R Out} {ρ : Rho} : sTry L y fb fs ρ = (match fb (dropO ρ) with
  | .ok o => .ok o
  | .ex e => if (decide (e.cls ∈ L) && subX e.cls y) = true then fs e (List.replicate ρ.length none) else .no
  | .no => .no) := id rfl
@[simp] theorem e_dropNil : dropO [] = [] := id rfl
@[simp] theorem e_dropF {d : PyData} {ρ : Rho} : dropO (some (.fz d) :: ρ) = some (.fz d) :: dropO ρ := id rfl
@[simp] theorem e_dropN {ρ : Rho} : dropO (none :: ρ) = none :: dropO ρ := id rfl
@[simp] theorem e_dropW {ds : List PyData} {ρ : Rho} : dropO (some (.ow ds) :: ρ) = none :: dropO ρ := id rfl
@[simp] theorem e_bex {α β : Type} (e : Exn) (k : α → R β) : (R.ex e).bind k = .ex e := id rfl
theorem subX_self (x : Str) : subX x x = true := by
  unfold subX
  rw [decide_eq_true rfl, Bool.true_or]
theorem subX_top (x : Str) : subX x "ParityError" = true := by
  unfold subX
  rw [decide_eq_true (p := ("ParityError" : Str) = "ParityError") rfl, Bool.or_true]
theorem memL {x : Str} {L : List Str} (h : x ∈ L) : decide (x ∈ L) = true := decide_eq_true h
theorem sl_wd (X : List Word) (m : Nat) : slD (.list (dWs X)) (some (m : Int)) none = .ok (.list (dWs (X.drop m))) := by
  show R.ok (PyData.list (cutD (dWs X) (some (m : Int)) none)) = _
  unfold cutD
  rw [HT.sIx_nat, HT.sIx_none, dWs_len]
  unfold dWs
  rw [List.map_drop]
  congr 2
  by_cases h : m ≤ X.length
  · rw [Nat.min_eq_left h, List.take_of_length_le (by rw [List.length_drop, List.length_map]; exact Nat.le_refl _)]
  · rw [Nat.min_eq_right (by omega), List.drop_of_length_le (by rw [List.length_map]; exact Nat.le_refl _), List.drop_of_length_le (by rw [List.length_map]; omega), List.take_nil]
end L2.PD

set_option Elab.async false
set_option linter.all false
set_option autoImplicit false
set_option maxRecDepth 100000
/-! L02: made; one desk of each code. -/
namespace L2.PD
open PySem PySem.Spec PyProof.Rows L2

theorem loop_ex {α β S J J' : Type} {st : α → Rho → Rho} {fb : Rho → R Out} {MK : J' → Rho} (mk : S → J → Rho) (q : J → J') (e : β → α) (f : S → β → S) (I : S → Prop) (l : List β) (s : S) (j : J) (h0 : I s)
    (hstep : ∀ x ∈ l, ∀ s j, I s → I (f s x) ∧ ∃ j', fb (st (e x) (mk s j)) = .ok (.nx (mk (f s x) j')))
    (hk : ∀ j', mk (l.foldl f s) j' = MK (q j')) : ∃ j', forGo st fb (l.map e) (mk s j) = .ok (.nx (MK j')) := by
  have key : ∃ j', forGo st fb (l.map e) (mk s j) = .ok (.nx (mk (l.foldl f s) j')) := by
    clear hk
    induction l generalizing s j with
    | nil => exact ⟨j, rfl⟩
    | cons x l ih =>
      obtain ⟨h1, j', h2⟩ := hstep x List.mem_cons_self s j h0
      obtain ⟨j'', h3⟩ := ih (f s x) j' h1 fun y hy => hstep y (List.mem_cons_of_mem _ hy)
      refine ⟨j'', ?_⟩
      rw [List.map_cons]
      unfold forGo
      rw [h2, bok]
      exact h3
  obtain ⟨j', h⟩ := key
  exact ⟨q j', by rw [h, hk]⟩
theorem foldl_inv {β S : Type} (f : S → β → S) (I : S → Prop) : ∀ (l : List β) (s : S), I s → (∀ x ∈ l, ∀ s, I s → I (f s x)) → I (l.foldl f s)
  | [], _, h, _ => h
  | x :: l, s, h, hs => foldl_inv f I l _ (hs x List.mem_cons_self s h) fun y hy => hs y (List.mem_cons_of_mem _ hy)
theorem enum_ws : ∀ (k : Nat) (ws : List Word), enumD k (dWs ws) = (ws.zipIdx k).map fun p => (PyData.int (p.2 : Nat), dW p.1)
  | _, [] => rfl
  | k, w :: ws => by
    show (PyData.int (k : Nat), dW w) :: enumD (k + 1) (dWs ws) = _
    rw [enum_ws (k + 1) ws, List.zipIdx_cons, List.map_cons]
theorem t_made {n : Nat} {ws : List Word} (hl : ∀ w ∈ ws, w.length = n) (hn : 1 ≤ n) (h10 : n ≤ 10) (hz : ws.length ≤ 20) : m_made [.int n, .list (dWs ws)] = .ok (dDesk n (deskRows ws)) := by
  unfold m_made b_made
  rw [run2]
  have hw : withinB (.int (n : Int)) 1 10 = true := by
    unfold withinB
    simp
    omega
  have hlen : ¬ (20 : Int) < (dWs ws).length := by rw [dWs_len]; omega
  simp [t_is_within _ 1 10 (show noDict (.int (n : Int)) = true from rfl), hw, show isiList (.list (dWs ws)) = true from rfl, hlen, show enumsD [.list (dWs ws)] = .ok (enumD 0 (dWs ws)) from rfl]
  rw [enum_ws, bassoc]
  refine bind_all (mk := fun (j : Option Ent × Option Ent) => [some (.fz (.int n)), some (.fz (.list (dWs ws))), j.1, j.2]) (e := fun p : Word × Nat => (PyData.int (p.2 : Nat), dW p.1)) (p := fun _ => true) .none (ws.zipIdx 0) (none, none) (fun p hp j => ⟨(some (.fz (.int p.2)), some (.fz (dW p.1))), ?_⟩) fun j' => ?_
  · have : p.1 ∈ ws := by
      obtain ⟨w, i⟩ := p
      exact List.fst_mem_of_mem_zipIdx hp
    simp [t_is_word _ n (nd_dW p.1), isWord_dW, hl _ this]
  · simp [t_desk_of (e_seqL) hl hn (by omega)]
theorem same_sort {n : Nat} {C D : List Word} (hC : IsCode n C) (hD : IsCode n D) (e : ∀ w, w ∈ C ↔ w ∈ D) : sortA C = sortA D :=
  rising_unique (sortA_pw C) (sortA_pw D) ((sortA_perm C).nodup_iff.mpr hC.nd) ((sortA_perm D).nodup_iff.mpr hD.nd) fun w => by rw [(sortA_perm C).mem_iff, (sortA_perm D).mem_iff, e]
theorem rows_deskRows {n : Nat} {ws : List Word} (hl : ∀ w ∈ ws, w.length = n) : rowsL n (sortA (spr n ws)) = deskRows ws := by
  have hC := spr_code hl
  exact Desk.unique hC ((rows_desk (hC.perm (sortA_perm _).symm)).congr fun w => (sortA_perm _).mem_iff) (desk_of hl)
theorem deskRows_iff {n : Nat} {us ws : List Word} (hu : ∀ w ∈ us, w.length = n) (hl : ∀ w ∈ ws, w.length = n) : deskRows us = deskRows ws ↔ ∀ w, w ∈ spr n us ↔ w ∈ spr n ws := by
  have hC := spr_code hu
  have hD := spr_code hl
  refine ⟨fun e w => ?_, fun e => Desk.unique hD ((desk_of hu).congr e) (desk_of hl)⟩
  rw [← (desk_of hu).spr hC w, e, (desk_of hl).spr hD w]
theorem spr_iff {n : Nat} {us ws : List Word} (hu : ∀ w ∈ us, w.length = n) (hl : ∀ w ∈ ws, w.length = n) (h1 : ∀ w ∈ us, w ∈ spr n ws) (h2 : ∀ w ∈ ws, w ∈ spr n us) : ∀ w, w ∈ spr n us ↔ w ∈ spr n ws :=
  fun w => ⟨spr_least (spr_code hl) h1 w, spr_least (spr_code hu) h2 w⟩
/-! ### drawn anew -/
theorem set_ws (L : List Word) (k : Nat) (w : Word) : (dWs L).set k (dW w) = dWs (L.set k w) := by
  unfold dWs
  rw [List.map_set]
def mixes (ns : List Int) (k j : Nat) : Bool := j != k && (mix (cell ns (2 + k) + 7 * (j : Int) * j) 9949 3 == 0)
def anStep (ns : List Int) (k : Nat) (L : List Word) (j : Nat) : List Word := if mixes ns k j = true then L.set k (xw (L.getD k []) (L.getD j [])) else L
def anewL (ns : List Int) (W : List Word) : List Word := (List.range W.length).foldl (fun L k => (List.range W.length).foldl (anStep ns k) L) W.reverse
structure SameAs (n m : Nat) (W L : List Word) : Prop where
  size : L.length = m
  len : ∀ w ∈ L, w.length = n
  to : ∀ w ∈ L, w ∈ spr n W
  from_ : ∀ w ∈ W, w ∈ spr n L
theorem SameAs.step {n m : Nat} {W L : List Word} (hl : ∀ w ∈ W, w.length = n) (h : SameAs n m W L) (ns : List Int) {k j : Nat} (hk : k < m) (hj : j < m) : SameAs n m W (anStep ns k L j) := by
  unfold anStep
  split
  · rename_i hc
    have hkj : j ≠ k := by
      unfold mixes at hc
      simp at hc
      exact hc.1
    have hk' : k < L.length := by rw [h.size]; exact hk
    have hj' : j < L.length := by rw [h.size]; exact hj
    have ek : L.getD k [] = L[k] := by simp [hk']
    have ej : L.getD j [] = L[j] := by simp [hj']
    rw [ek, ej]
    have lk := h.len _ (List.getElem_mem hk')
    have lj := h.len _ (List.getElem_mem hj')
    have hS := spr_code hl
    have len2 : ∀ w ∈ L.set k (xw L[k] L[j]), w.length = n := fun w hw => by
      rcases List.mem_or_eq_of_mem_set hw with hw | rfl
      · exact h.len w hw
      · exact xw_len lk lj
    have hS2 := spr_code len2
    have mj : L[j] ∈ L.set k (xw L[k] L[j]) := List.mem_iff_getElem.mpr ⟨j, by rw [List.length_set]; exact hj', by rw [List.getElem_set_ne (Ne.symm hkj)]⟩
    have mk : xw L[k] L[j] ∈ L.set k (xw L[k] L[j]) := List.mem_iff_getElem.mpr ⟨k, by rw [List.length_set]; exact hk', by rw [List.getElem_set_self]⟩
    refine ⟨by rw [List.length_set, h.size], len2, fun w hw => ?_, fun w hw => ?_⟩
    · rcases List.mem_or_eq_of_mem_set hw with hw | rfl
      · exact h.to w hw
      · exact hS.add _ (h.to _ (List.getElem_mem hk')) _ (h.to _ (List.getElem_mem hj'))
    · refine spr_least hS2 (fun v hv => ?_) w (h.from_ w hw)
      obtain ⟨i, hi, rfl⟩ := List.getElem_of_mem hv
      by_cases e : i = k
      · subst e
        have := hS2.add _ (spr_mem len2 _ mk) _ (spr_mem len2 _ mj)
        rw [xw_cancel lk lj] at this
        exact this
      · exact spr_mem len2 _ (List.mem_iff_getElem.mpr ⟨i, by rw [List.length_set]; exact hi, by rw [List.getElem_set_ne (Ne.symm e)]⟩)
  · exact h
theorem SameAs.start {n : Nat} {W : List Word} (hl : ∀ w ∈ W, w.length = n) : SameAs n W.length W W.reverse :=
  ⟨List.length_reverse, fun w hw => hl w (List.mem_reverse.mp hw), fun w hw => spr_mem hl w (List.mem_reverse.mp hw), fun w hw => spr_mem (fun w hw => hl w (List.mem_reverse.mp hw)) w (List.mem_reverse.mpr hw)⟩
theorem anew_same {n : Nat} {W : List Word} (hl : ∀ w ∈ W, w.length = n) (ns : List Int) : SameAs n W.length W (anewL ns W) :=
  foldl_inv _ (SameAs n W.length W) _ _ (.start hl) fun k hk L h => foldl_inv _ (SameAs n W.length W) _ _ h fun j hj L h => h.step hl ns (List.mem_range.mp hk) (List.mem_range.mp hj)
theorem t_law_anew (ns : List Int) (hn : ns.length ≤ 63) {n : Nat} {W : List Word} (hl : ∀ w ∈ W, w.length = n) (hn2 : n ≤ 1000) (hz : W.length ≤ 20) : m_law_anew [.list (dWs W), scrD ns, .int n] = .ok (.list (dWs (anewL ns W ++ [zw n]))) := by
  unfold m_law_anew b_law_anew
  rw [run3]
  have hrev : revD (.list (dWs W)) = .ok (.list (dWs W.reverse)) := by
    show R.ok (PyData.list _) = _
    unfold dWs
    rw [List.map_reverse]
  have hwl : (dWs W.reverse).length = W.length := by rw [dWs_len, List.length_reverse]
  simp [hrev, hwl]
  rw [rng_nat _ (by omega)]
  simp
  rw [bassoc]
  have l1 : decide (1 ≤ LIM) = true := limT (by omega)
  refine bind_loop (mk := fun (L : List Word) (j : Option Ent × Option Ent) => [some (.fz (.list (dWs W))), some (.fz (scrD ns)), some (.fz (.int n)), some (.ow (dWs L)), j.1, j.2]) (e := fun k : Nat => PyData.int (k : Int)) (f := fun L k => (List.range W.length).foldl (anStep ns k) L) (I := SameAs n W.length W) (List.range W.length) W.reverse (none, none) (.start hl) (fun k hk L j hL => ⟨foldl_inv _ (SameAs n W.length W) _ _ hL fun j hj L h => h.step hl ns (List.mem_range.mp hk) (List.mem_range.mp hj), ?_⟩) fun j' hL => ?_
  · simp [-Prod.exists, dWs_len, hL.size]
    rw [rng_nat _ (by omega)]
    simp only [bok]
    refine loop_ex (mk := fun (L : List Word) (j : Option Ent) => [some (.fz (.list (dWs W))), some (.fz (scrD ns)), some (.fz (.int n)), some (.ow (dWs L)), some (.fz (.int k)), j]) (q := fun j => ((some (Ent.fz (.int k)), j) : Option Ent × Option Ent)) (e := fun k : Nat => PyData.int (k : Int)) (f := anStep ns k) (I := SameAs n W.length W) (List.range W.length) L j.2 hL (fun i hi L j hL => ⟨hL.step hl ns (List.mem_range.mp hk) (List.mem_range.mp hi), some (.fz (.int i)), ?_⟩) ?_
    · have g1 : mulOk 7 (i : Int) = true := mulOk_l (by decide)
      have hi' := List.mem_range.mp hi
      have hk' := List.mem_range.mp hk
      have g2 : mulOk (7 * (i : Int)) (i : Int) = true := mulOk_r (by omega)
      have ec := t_law_cell ns (2 + k) hn
      simp at ec
      have hkL : k < L.length := by rw [hL.size]; exact hk'
      have hiL : i < L.length := by rw [hL.size]; exact hi'
      have x1 : ixD (.list (dWs L)) (.int (k : Int)) = .ok (dW (L.getD k [])) := ix_lst (by unfold dWs; simp [hkL])
      have x2 : ixD (.list (dWs L)) (.int (i : Int)) = .ok (dW (L.getD i [])) := ix_lst (by unfold dWs; simp [hiL])
      unfold anStep mixes
      have hx : ixN (dWs L).length (k : Int) = some k := ixN_nat (by rw [dWs_len]; exact hkL)
      simp [ec, g1, g2, int_beq, t_law_mix]
      by_cases c1 : i = k
      · simp [c1]
      · by_cases c2 : mix (cell ns (2 + k) + 7 * (i : Int) * i) 9949 3 = 0
        · simp [c1, c2, x1, x2, t_law_sum, hx, set_ws]
        · simp [c1, c2]
    · exact fun _ => rfl
  · simp [l1, t_zeros n hn2]
    have hs := hL.size
    unfold anewL
    rw [limT (by rw [dWs_len, hs]; omega), dWs_app]
    rfl
theorem wordsL_len (ns : List Int) (a n : Nat) : ∀ w ∈ wordsL ns a n, w.length = n := fun w hw => by
  unfold wordsL at hw
  obtain ⟨k, _, rfl⟩ := List.mem_map.mp hw
  simp [wordL]
theorem wordsL_many (ns : List Int) (a n : Nat) : (wordsL ns a n).length ≤ n := by
  unfold wordsL
  rw [List.length_map, List.length_range]
  exact manyL_bd _ _ _
theorem law_k02 (ns : List Int) (hn : ns.length ≤ 63) : m_law_k02 [scrD ns] = .ok (.bool true) := by
  obtain ⟨h1, h8⟩ := sizeL_bd ns 0
  have eS := t_law_size ns 0 hn
  have eW := t_law_words ns 0 (sizeL ns 0) hn (by omega)
  have eT := t_law_words ns 9 (sizeL ns 0) hn (by omega)
  simp only [show ((0 : Nat) : Int) = 0 from rfl, show ((9 : Nat) : Int) = 9 from rfl] at eS eW eT
  generalize sizeL ns 0 = n at *
  have lW := wordsL_len ns 0 n
  have lT := wordsL_len ns 9 n
  have mW := wordsL_many ns 0 n
  have mT := wordsL_many ns 9 n
  generalize wordsL ns 0 n = W at *
  generalize wordsL ns 9 n = T at *
  have sp := t_law_spread h1 (show n ≤ 1000 by omega) (e_seqL (ds := dWs W)) lW (by omega)
  have spT := t_law_spread h1 (show n ≤ 1000 by omega) (e_seqL (ds := dWs T)) lT (by omega)
  have hC := (spr_code lW).perm (sortA_perm _).symm
  have rw_ := t_law_rows hC h1 (show n ≤ 1000 by omega)
  rw [rows_deskRows lW] at rw_
  have mk := t_made lW h1 (by omega) (show W.length ≤ 20 by omega)
  have mkT := t_made lT h1 (by omega) (show T.length ≤ 20 by omega)
  have an := t_law_anew ns hn lW (show n ≤ 1000 by omega) (show W.length ≤ 20 by omega)
  have sa := anew_same lW ns
  have lA : ∀ w ∈ anewL ns W ++ [zw n], w.length = n := fun w hw => by
    rcases List.mem_append.mp hw with hw | hw
    · exact sa.len w hw
    · rw [List.mem_singleton.mp hw]
      exact zw_length n
  have mkA := t_made lA h1 (by omega) (by rw [List.length_append, sa.size, List.length_singleton]; omega)
  have eA : deskRows (anewL ns W ++ [zw n]) = deskRows W := (deskRows_iff lA lW).mpr (spr_iff lA lW (fun w hw => by
    rcases List.mem_append.mp hw with hw | hw
    · exact sa.to w hw
    · rw [List.mem_singleton.mp hw]
      exact (spr_code lW).zero) fun w hw => spr_least (spr_code lA) (fun v hv => spr_mem lA v (List.mem_append_left _ hv)) w (sa.from_ w hw))
  rw [eA] at mkA
  have eqT : (deskRows T == deskRows W) = (sortA (spr n T) == sortA (spr n W)) := by
    rw [Bool.eq_iff_iff, beq_iff_eq, beq_iff_eq, deskRows_iff lT lW]
    refine ⟨fun e => same_sort (spr_code lT) (spr_code lW) e, fun e w => ?_⟩
    rw [← (sortA_perm (spr n T)).mem_iff, e, (sortA_perm _).mem_iff]
  unfold m_law_k02 b_law_k02
  rw [run1]
  simp [eS, eW, sp, mk, rw_, an, mkA, eT, mkT, spT, ne_self (ok_desk _ _), ne_self (OkD.list (ok_dWs _)), t_eq (ok_desk _ _) (ok_desk _ _), t_eq (OkD.list (ok_dWs _)) (OkD.list (ok_dWs _)), eqv_desk, eqv_lst, eqv_dWs, eqT]
end L2.PD

set_option Elab.async false
set_option linter.all false
set_option autoImplicit false
set_option maxRecDepth 100000
/-! Ty6: checks; what the laws say of them. -/
namespace L2.PD
open PySem PySem.Spec PyProof.Rows L2

theorem wt_and : ∀ a b : Word, (((wt ((a.zip b).map fun p => p.1 && p.2) : Nat) : Int) % 2 == 0) = !dp a b := by
  have key : ∀ a b : Word, (wt ((a.zip b).map fun p => p.1 && p.2) % 2 == 0) = !dp a b := by
    intro a
    induction a with
    | nil => exact fun b => rfl
    | cons x a ih =>
      intro b
      cases b with
      | nil => rfl
      | cons y b =>
        show (wt ((x && y) :: (a.zip b).map fun p => p.1 && p.2) % 2 == 0) = !((x && y) != dp a b)
        have h := ih b
        unfold wt at h ⊢
        rw [List.count_cons]
        generalize ((a.zip b).map fun p => p.1 && p.2).count true = c at h ⊢
        generalize dp a b = d at h ⊢
        cases hxy : (x && y)
        · cases d <;> simp at h ⊢ <;> omega
        · cases d <;> simp at h ⊢ <;> omega
  intro a b
  rw [← key a b, Bool.eq_iff_iff, beq_iff_eq, beq_iff_eq]
  omega
theorem t_sumL (w : Word) : sumD (.list (w.map dB)) = .ok (.int (wt w)) := t_sum w
theorem mul_dB (x y : Bool) : mulD (dB x) (dB y) = .ok (dB (x && y)) := by cases x <;> cases y <;> rfl
theorem lcGo_zip {fe : Rho → R PyData} {ρ : Rho} {i j : Nat} (g : Bool × Bool → PyData) (a b : Word)
    (h : ∀ x ∈ a.zip b, fe (st2 i j (dB x.1, dB x.2) ρ) = .ok (g x)) {γ : Type} {k : List PyData → R γ} : (lcGo (st2 i j) fYes fe ρ ((a.zip b).map fun p => (dB p.1, dB p.2))).bind k = k ((a.zip b).map g) := lcGo_am (fun p : Bool × Bool => (dB p.1, dB p.2)) g _ h
theorem t_law_even (a b : Word) : m_law_even [dW a, dW b] = .ok (.bool (!dp a b)) := by
  unfold m_law_even b_law_even
  rw [run2]
  simp
  rw [lcGo_zip (fun p => dB (p.1 && p.2)) a b fun p _ => by simp [mul_dB]]
  have e : (a.zip b).map (fun p => dB (p.1 && p.2)) = ((a.zip b).map fun p => p.1 && p.2).map dB := by
    rw [List.map_map]
    rfl
  rw [e]
  simp only [e_one, t_sumL, bok, e_mod, show decide ((0 : Int) < 2) = true from rfl, e_guard, e_eqI, wt_and]
theorem t_meet_evenly (a b : Word) : m_meet_evenly [dW a, dW b] = .ok (.bool (!dp a b)) := by
  unfold m_meet_evenly b_meet_evenly
  rw [run2]
  simp
  rw [lcGo_zip (fun p => dB (p.1 && p.2)) a b fun p _ => by simp [mul_dB]]
  have e : (a.zip b).map (fun p => dB (p.1 && p.2)) = ((a.zip b).map fun p => p.1 && p.2).map dB := by
    rw [List.map_map]
    rfl
  rw [e]
  simp only [e_one, t_sumL, bok, e_mod, show decide ((0 : Int) < 2) = true from rfl, e_guard, e_eqI, wt_and]
/-! ### all words -/
theorem addT_ws (C : List Word) (b : Bool) {ρ : Rho} {γ : Type} {k : List PyData → R γ} {d : PyData} (hd : d = dB b) (hl : ∀ w ∈ C, w.length ≤ 1000) (h3 : 3 < ρ.length) : (lcGo (stN 3) fYes (f2 addD (fName 3) (fTup (aCons (fC d) aNil))) ρ (dWs C)).bind k = k (dWs (C.map (· ++ [b]))) := by
  have l1 : decide (1 ≤ LIM) = true := limT (by omega)
  rw [lcGo_ws (fun w => dW (w ++ [b])) C fun w hw => by
    have hw' := hl w hw
    have hn : (ρ.set 3 (some (.fz (dW w))))[3]? = some (some (.fz (dW w))) := by simp [h3]
    have ha : addD (dW w) (.tuple [dB b]) = .ok (dW (w ++ [b])) := by
      show guard _ _ = _
      rw [guard_t (limT (by rw [List.length_map, List.length_singleton]; omega))]
      unfold dW
      rw [List.map_append]
      rfl
    simp only [e_2, e_name, e_stN, hn, bok, e_Tup, e_aCons, e_C, e_aNil, List.length_singleton, l1, e_guard, hd, ha]]
  unfold dWs
  rw [List.map_map]
  rfl
theorem len_le_allR (n : Nat) (w : Word) (h : w ∈ allR n) : w.length = n := (mem_allR n w).mp h
theorem t_law_all {n : Nat} (hn : 1 ≤ n) (h10 : n ≤ 16) : m_law_all [.int n] = .ok (.list (dWs (allW n))) := by
  unfold m_law_all b_law_all
  rw [run1]
  have l0 : decide (0 ≤ LIM) = true := limT (by omega)
  have l1 : decide (1 ≤ LIM) = true := limT (by omega)
  simp [l0, l1]
  rw [rng_nat n (by omega)]
  simp
  rw [bassoc]
  have key : ∀ (l : List Nat) (m : Nat) (j : Option Ent), m + l.length ≤ 16 → ∃ j', forGo (stN 2) (sSet 1 (f2 addD (fLc (iSeq (fName 1)) (stN 3) [3] fYes (f2 addD (fName 3) (fTup (aCons (fC (.int 0)) aNil)))) (fLc (iSeq (fName 1)) (stN 3) [3] fYes (f2 addD (fName 3) (fTup (aCons (fC (.int 1)) aNil)))))) (l.map fun k : Nat => PyData.int (k : Int)) [some (.fz (.int n)), some (.fz (.list (dWs (allR m)))), j, none]
      = .ok (.nx [some (.fz (.int n)), some (.fz (.list (dWs (allR (m + l.length))))), j', none]) := by
    intro l
    induction l with
    | nil => exact fun m j _ => ⟨j, rfl⟩
    | cons x l ih =>
      intro m j hm
      rw [List.length_cons] at hm ⊢
      obtain ⟨j', h⟩ := ih (m + 1) (some (.fz (.int (x : Int)))) (by omega)
      refine ⟨j', ?_⟩
      rw [List.map_cons]
      unfold forGo
      have hb : ∀ w ∈ allR m, w.length ≤ 1000 := fun w hw => by rw [len_le_allR m w hw]; omega
      simp
      rw [addT_ws (d := .int 0) (allR m) false rfl hb (by simp), bok, addT_ws (d := .int 1) (allR m) true rfl hb (by simp), bok]
      simp only [t_addL]
      have hpow : 2 ^ m ≤ 2 ^ 15 := Nat.pow_le_pow_right (by decide) (by omega)
      rw [limT (by rw [dWs_len, dWs_len, List.length_map, List.length_map, len_allR]; omega)]
      simp only [e_guard, bok, ← dWs_app]
      have e : (allR m).map (· ++ [false]) ++ (allR m).map (· ++ [true]) = allR (m + 1) := rfl
      rw [e, h, show m + 1 + l.length = m + (l.length + 1) by omega]
  obtain ⟨j', h⟩ := key (List.range n) 0 none (by rw [List.length_range]; omega)
  have e0 : [PyData.tuple []] = dWs (allR 0) := rfl
  rw [e0, h]
  rw [List.length_range, Nat.zero_add]
  simp [t_sortA (ws := allR n) fun w hw => len_ne (len_le_allR n w hw) hn]
  rfl
theorem nil_ws (X : List Word) : eqD (.list (dWs X)) (.list []) = .ok (.bool X.isEmpty) := by
  have : (PyData.list []) = .list (dWs []) := rfl
  rw [this, t_eq (OkD.list (ok_dWs _)) (OkD.list (ok_dWs _)), eqv_lst, eqv_dWs]
  cases X <;> rfl
theorem isE_filter (p : Word → Bool) (X : List Word) : (X.filter p).isEmpty = X.all fun r => !p r := by
  induction X with
  | nil => rfl
  | cons x X ih =>
    rw [List.all_cons, ← ih]
    cases h : p x with
    | true => rw [List.filter_cons_of_pos h]; rfl
    | false => rw [List.filter_cons_of_neg (by rw [h]; exact Bool.false_ne_true)]; rfl
theorem t_law_checks {n : Nat} {R : List Word} (hn : 1 ≤ n) (h10 : n ≤ 16) : m_law_checks [dDesk n R] = .ok (dDesk n (rowsL n (evens n R))) := by
  unfold m_law_checks b_law_checks
  rw [run1]
  have l0 : decide (0 ≤ LIM) = true := limT (by omega)
  simp [t_law_all hn h10]
  rw [lcGo_wsf (fun w => R.all fun r => !dp r w) dW (allW n) fun w hw => by
    refine ⟨?_, fun _ => by simp⟩
    simp
    rw [lcGo_wsf (fun r => dp r w) dW R fun r hr => ⟨by simp [t_law_even], fun _ => by simp⟩]
    have e : (R.filter fun r => dp r w).map dW = dWs (R.filter fun r => dp r w) := rfl
    rw [e]
    simp [l0, nil_ws, isE_filter]]
  have e : ((allW n).filter fun w => R.all fun r => !dp r w).map dW = dWs (evens n R) := rfl
  rw [e]
  simp [t_law_rows (evens_code R) hn (show n ≤ 1000 by omega)]
/-! ### the program's checks -/
theorem set_bits (f : Word) (i : Nat) (b : Bool) : (f.map dB).set i (dB b) = (f.set i b).map dB := by rw [List.map_set]
theorem t_check_for {n : Nat} {C R : List Word} (hC : IsCode n C) (hD : Desk n C R) (hn : n ≤ 1000) {p : Nat} (hp : p < n) : m_check_for [dDesk n R, .int p] = .ok (dW (chk n R p)) := by
  unfold m_check_for b_check_for
  rw [run2]
  have hr := nz_rows hC hD
  simp [t_heads fun r h => (hr r h).2]
  rw [rng_nat n (by omega)]
  simp only [bok]
  rw [lcGo_am (fun k : Nat => PyData.int (k : Int)) (fun j => dB (j == p)) _ fun j hj => by simp [dB_eq true]]
  have eu : (List.range n).map (fun j => dB (j == p)) = (unit n p).map dB := by
    unfold unit
    rw [List.map_map]
    rfl
  rw [eu]
  have ez : zipBD [.list (R.map fun r => PyData.int (hd r)), .tuple (dWs R)] = .ok (R.map fun r => (PyData.int (hd r), dW r)) := by
    show PD.R.ok ((R.map fun r => PyData.int (hd r)).zip (R.map dW)) = _
    rw [List.zip_map']
  simp [t_heads fun r h => (hr r h).2, ez]
  rw [bassoc]
  refine bind_loop (mk := fun (f : Word) (j : Option Ent × Option Ent) => [some (.fz (dDesk n R)), some (.fz (.int p)), some (.ow (f.map dB)), j.1, j.2, none]) (e := fun r => (PyData.int (hd r), dW r)) (f := fun f r => f.set (hd r) (bit r p)) (I := fun f => f.length = n) R (unit n p) (none, none) (unit_len n p) (fun r hrm f j hf => ⟨by rw [List.length_set, hf], (some (.fz (.int (hd r))), some (.fz (dW r))), ?_⟩) fun j' _ => ?_
  · have h1 := (hr r hrm).1
    have h2 := (hd_spec (hr r hrm).2).1
    have h3 : ixN (f.map dB).length (hd r : Int) = some (hd r) := ixN_nat (by rw [List.length_map, hf]; omega)
    rw [List.length_map] at h3
    simp [ix_dW (w := r) (i := p) (by omega), h3]
  · simp
    rfl
theorem nin_heads (R : List Word) (p : Nat) : ninD (.int (p : Int)) (.list (R.map fun r => PyData.int (hd r))) = .ok (.bool (!((R.map hd).contains p))) := by
  have h1 := OkD.int (p : Int)
  have h2 : OkD 1 (.list (R.map fun r => PyData.int (hd r))) := OkD.list (k := 0) fun d hd' => by
    obtain ⟨b, _, rfl⟩ := List.mem_map.mp hd'
    exact OkD.int _
  have : hasD (.int (p : Int)) (.list (R.map fun r => PyData.int (hd r))) = .ok ((R.map hd).contains p) := by
    show guard _ _ = _
    rw [guard_t (by rw [h1.sh (by decide), h2.sh (by decide), h1.flat, h2.flat]; rfl), List.any_map, List.contains_eq_any_beq, List.any_map]
    congr 2
    funext r
    show PyData.eqv (.int (hd r : Int)) (.int (p : Int)) = (p == hd r)
    rw [eqv_int, int_beq, Bool.eq_iff_iff, beq_iff_eq, beq_iff_eq]
    exact eq_comm
  unfold ninD
  rw [this, bok]
theorem t_checks {n : Nat} {C R : List Word} (hC : IsCode n C) (hD : Desk n C R) (hn : 1 ≤ n) (hn2 : n ≤ 1000) : m_checks [dDesk n R] = .ok (dDesk n (chkRows n R)) := by
  unfold m_checks b_checks
  rw [run1]
  have hr := nz_rows hC hD
  simp [t_heads fun r h => (hr r h).2]
  rw [rng_nat n (by omega)]
  simp only [bok]
  rw [lcGo_wm (fun k : Nat => PyData.int (k : Int)) (fun p => !((R.map hd).contains p)) (fun p => dW (chk n R p)) (List.range n) fun p hp => ⟨by simp [nin_heads], fun _ => by simp [t_check_for hC hD hn2 (List.mem_range.mp hp)]⟩]
  have e : ((List.range n).filter fun p => !((R.map hd).contains p)).map (fun p => dW (chk n R p)) = dWs (chks n R) := by
    unfold chks frees dWs
    rw [List.map_map]
    rfl
  rw [e]
  simp [t_desk_of (e_seqL) (chks_len (n := n) (R := R)) hn hn2]
  rfl
end L2.PD

set_option Elab.async false
set_option linter.all false
set_option autoImplicit false
set_option maxRecDepth 100000
/-! L07: the checks law. -/
namespace L2.PD
open PySem PySem.Spec PyProof.Rows L2
theorem rows_evens {n : Nat} {C R : List Word} (hC : IsCode n C) (hD : Desk n C R) : rowsL n (evens n R) = chkRows n R :=
  Desk.unique (evens_code R) (rows_desk (evens_code R)) (chkRows_desk hC hD)
theorem law_k07 (ns : List Int) (hn : ns.length ≤ 63) : m_law_k07 [scrD ns] = .ok (.bool true) := by
  obtain ⟨n, S, _, h1, h8, _, hC, e⟩ := t_law_desk ns 1 hn
  have hD := rows_desk hC
  generalize rowsL n S = R at hD e
  have hr : ∀ w ∈ R, w.length = n := hD.len hC
  have hz : R.length ≤ 19 := by have := rows_le hC hD; omega
  have e0 : PyData.int 1 = PyData.int ((1 : Nat) : Int) := rfl
  rw [← e0] at e
  have c1 := t_checks hC hD h1 (show n ≤ 1000 by omega)
  have hE := evens_code (n := n) R
  have hD2 := chkRows_desk hC hD
  have c2 := t_checks hE hD2 h1 (show n ≤ 1000 by omega)
  rw [chkRows_twice hC hD] at c2
  have lc := t_law_checks (R := R) h1 (show n ≤ 16 by omega)
  rw [rows_evens hC hD] at lc
  have cnt := chkRows_count hC hD
  have ec := t_law_cell ns 0 hn
  simp only [show ((0 : Nat) : Int) = 0 from rfl] at ec
  have wd := t_law_word (cell ns 0) n (show n ≤ 1000 by omega)
  have wl : (wordL (cell ns 0) n).length = n := by simp [wordL]
  generalize wordL (cell ns 0) n = w at wd wl
  have sp := t_law_spread (x := .tuple (dWs R)) (ws := R) h1 (show n ≤ 1000 by omega) (e_seqT) hr hz
  obtain ⟨b, hb, hb'⟩ := t_has hE hD2 (show n ≤ 1000 by omega) (dW w) (nd_dW w)
  have l0 : decide (0 ≤ LIM) = true := limT (by omega)
  have hadd : ((chkRows n R).length : Int) + (R.length : Int) = (n : Int) := by omega
  have hbe : b = (sortA (spr n R)).all fun r => !dp r w := by
    rw [Bool.eq_iff_iff, hb', List.all_eq_true]
    refine ⟨fun ⟨v, h1, h2⟩ r hr' => ?_, fun h => ⟨w, mem_evens.mpr ⟨wl, fun r hr' => ?_⟩, rfl⟩⟩
    · have e : w = v := by
        have := eqv_dW w v
        rw [h2, eqv_dW, beq_self_eq_true] at this
        exact (beq_iff_eq.mp this.symm)
      subst e
      have := (evens_spr hr wl).mp (mem_evens.mp h1).2 r ((sortA_perm _).mem_iff.mp hr')
      rw [this]
      rfl
    · have := h r ((sortA_perm _).mem_iff.mpr (spr_mem hr r hr'))
      simpa using this
  unfold m_law_k07 b_law_k07
  rw [run1]
  simp [e, c1, lc, c2, ne_self (ok_desk _ _), dWs_len, hadd, ec, wd, sp, hb]
  rw [lcGo_wsf (fun r => dp r w) dW (sortA (spr n R)) fun r _ => ⟨by simp [t_law_even], fun _ => by simp⟩]
  have ef : ((sortA (spr n R)).filter fun r => dp r w).map dW = dWs ((sortA (spr n R)).filter fun r => dp r w) := rfl
  rw [ef]
  simp only [l0, e_guard, bok, nil_ws, isE_filter, ← hbe]
  simp [hb]
end L2.PD

set_option Elab.async false
set_option linter.all false
set_option autoImplicit false
set_option maxRecDepth 100000
/-! L08: the signs law. -/
namespace L2.PD
open PySem PySem.Spec PyProof.Rows L2
def sgn (rows : List Word) (w : Word) : Word := rows.map fun r => dp r w
theorem t_sign_by (rows : List Word) (x : PyData) (w : Word) (hx : seqD x = .ok (dWs rows)) : m_sign_by [x, dW w] = .ok (dW (sgn rows w)) := by
  unfold m_sign_by b_sign_by
  rw [run2]
  simp [hx]
  rw [lcGo_ws (fun r => dB (dp r w)) rows fun r _ => by simp [t_meet_evenly, dB]]
  simp [dW, sgn]
theorem t_sign {n : Nat} {C R : List Word} (hC : IsCode n C) (hD : Desk n C R) (hn : 1 ≤ n) (hn2 : n ≤ 1000) (w : Word) : m_sign [dDesk n R, dW w] = .ok (dW (sgn (chkRows n R) w)) := by
  unfold m_sign b_sign
  rw [run2]
  simp [t_checks hC hD hn hn2, t_sign_by (chkRows n R) _ w (e_seqT)]
theorem sgn_xw {n : Nat} {rows : List Word} {a b : Word} (ha : a.length = n) (hb : b.length = n) : sgn rows (xw a b) = xw (sgn rows a) (sgn rows b) := by
  unfold sgn xw
  rw [List.zipWith_map, List.zipWith_self]
  exact List.map_congr_left fun r _ => dp_xwr r ha hb
theorem sgn_eq {n : Nat} {C R : List Word} (hC : IsCode n C) (hD : Desk n C R) {a b : Word} (ha : a.length = n) (hb : b.length = n) : sgn (chkRows n R) a = sgn (chkRows n R) b ↔ xw a b ∈ C := by
  rw [← evens_twice hC hD, mem_evens]
  unfold sgn
  rw [List.map_inj_left]
  refine ⟨fun h => ⟨xw_len ha hb, fun r hr => ?_⟩, fun ⟨_, h⟩ r hr => ?_⟩
  · rw [dp_xwr r ha hb, h r hr]
    cases dp r b <;> rfl
  · have := h r hr
    rw [dp_xwr r ha hb] at this
    cases h1 : dp r a <;> cases h2 : dp r b <;> rw [h1, h2] at this <;> first | rfl | cases this
theorem isi_tup_dW (w : Word) : isiD isiTuple (dW w) = .ok (.bool true) := id rfl
theorem law_k08 (ns : List Int) (hn : ns.length ≤ 63) : m_law_k08 [scrD ns] = .ok (.bool true) := by
  obtain ⟨n, S, _, h1, h8, _, hC, e⟩ := t_law_desk ns 2 hn
  have hD := rows_desk hC
  generalize rowsL n S = R at hD e
  have hr : ∀ w ∈ R, w.length = n := hD.len hC
  have hz : R.length ≤ 19 := by have := rows_le hC hD; omega
  have e0 : PyData.int 2 = PyData.int ((2 : Nat) : Int) := rfl
  rw [← e0] at e
  have lc := t_law_checks (R := R) h1 (show n ≤ 16 by omega)
  rw [rows_evens hC hD] at lc
  have ec := t_law_cell ns 0 hn
  have ec1 := t_law_cell ns 1 hn
  simp only [show ((0 : Nat) : Int) = 0 from rfl, show ((1 : Nat) : Int) = 1 from rfl] at ec ec1
  have wd := t_law_word (cell ns 0) n (show n ≤ 1000 by omega)
  have wl : (wordL (cell ns 0) n).length = n := by simp [wordL]
  have wd1 := t_law_word (cell ns 1) n (show n ≤ 1000 by omega)
  have wl1 : (wordL (cell ns 1) n).length = n := by simp [wordL]
  generalize wordL (cell ns 0) n = a at wd wl
  generalize wordL (cell ns 1) n = b at wd1 wl1
  have sp := t_law_spread (x := .tuple (dWs R)) (ws := R) h1 (show n ≤ 1000 by omega) (e_seqT) hr hz
  have sa := t_sign hC hD h1 (show n ≤ 1000 by omega) a
  have sb := t_sign hC hD h1 (show n ≤ 1000 by omega) b
  have sab := t_sign hC hD h1 (show n ≤ 1000 by omega) (xw a b)
  rw [sgn_xw wl wl1] at sab
  have key : (sgn (chkRows n R) a == sgn (chkRows n R) b) = decide (xw a b ∈ sortA (spr n R)) := by
    rw [Bool.eq_iff_iff, beq_iff_eq, decide_eq_true_iff, sgn_eq hC hD wl wl1, (sortA_perm _).mem_iff, hD.spr hC]
  unfold m_law_k08 b_law_k08
  rw [run1]
  simp [e, ec, ec1, wd, wd1, lc, sa, sb, isi_tup_dW]
  rw [lcGo_ws (fun r => dB (dp r a)) (chkRows n R) fun r _ => by simp [t_law_even, dB]]
  have ed : PyData.tuple ((chkRows n R).map fun r => dB (dp r a)) = dW (sgn (chkRows n R) a) := by
    unfold dW sgn
    rw [List.map_map]
    rfl
  simp only [bok, e_tupL, ed, e_one, ne_self (ok_dW _)]
  simp [t_law_sum, sp, t_eq (ok_dW _) (ok_dW _), eqv_dW, key, sab]
end L2.PD

set_option Elab.async false
set_option linter.all false
set_option autoImplicit false
set_option maxRecDepth 100000
/-! L14: joined and met. -/
namespace L2.PD
open PySem PySem.Spec PyProof.Rows L2
theorem t_look (n : Nat) (R Q : List Word) : m_look [dDesk n R, dDesk n Q] = .ok .none := by
  unfold m_look b_look
  rw [run2]
  simp
theorem joinR_len {n : Nat} {R Q : List Word} (hR : ∀ w ∈ R, w.length = n) (hQ : ∀ w ∈ Q, w.length = n) : ∀ w ∈ R ++ Q, w.length = n := fun w hw => by
  rcases List.mem_append.mp hw with h | h
  · exact hR w h
  · exact hQ w h
def joinR (R Q : List Word) : List Word := deskRows (R ++ Q)
def metR (n : Nat) (R Q : List Word) : List Word := chkRows n (joinR (chkRows n R) (chkRows n Q))
theorem t_joined {n : Nat} {R Q : List Word} (hR : ∀ w ∈ R, w.length = n) (hQ : ∀ w ∈ Q, w.length = n) (hn : 1 ≤ n) (hn2 : n ≤ 1000) (hz : R.length + Q.length ≤ 1000) : m_joined [dDesk n R, dDesk n Q] = .ok (dDesk n (joinR R Q)) := by
  unfold m_joined b_joined
  rw [run2]
  have hl : decide ((dWs R).length + (dWs Q).length ≤ LIM) = true := limT (by rw [dWs_len, dWs_len]; omega)
  simp [t_look, hl]
  rw [← dWs_app]
  simp [t_desk_of (x := .tuple (dWs (R ++ Q))) (e_seqT) (joinR_len hR hQ) hn hn2]
  rfl
section
variable {n : Nat} {A B R Q : List Word}
theorem join_desk (hA : IsCode n A) (hR : Desk n A R) (hB : IsCode n B) (hQ : Desk n B Q) : Desk n (spr n (R ++ Q)) (joinR R Q) := desk_of (joinR_len (hR.len hA) (hQ.len hB))
theorem join_code (hA : IsCode n A) (hR : Desk n A R) (hB : IsCode n B) (hQ : Desk n B Q) : IsCode n (spr n (R ++ Q)) := spr_code (joinR_len (hR.len hA) (hQ.len hB))
/-- what meets both evenly -/
theorem evens_join (hA : IsCode n A) (hR : Desk n A R) (hB : IsCode n B) (hQ : Desk n B Q) (w : Word) : w ∈ evens n (joinR R Q) ↔ w ∈ evens n R ∧ w ∈ evens n Q := by
  rw [evens_rows (joinR_len (hR.len hA) (hQ.len hB)) (join_desk hA hR hB hQ), evens_app]
theorem met_desk (hA : IsCode n A) (hR : Desk n A R) (hB : IsCode n B) (hQ : Desk n B Q) : Desk n (meet A B) (metR n R Q) := by
  have hE := evens_code (n := n) R
  have hF := evens_code (n := n) Q
  have dE := chkRows_desk hA hR
  have dF := chkRows_desk hB hQ
  refine (chkRows_desk (join_code hE dE hF dF) (join_desk hE dE hF dF)).congr fun w => ?_
  rw [evens_join hE dE hF dF, evens_twice hA hR, evens_twice hB hQ, mem_meet]
theorem mem_joined (hA : IsCode n A) (hR : Desk n A R) (hB : IsCode n B) (hQ : Desk n B Q) : ∀ w, w ∈ spr n (R ++ Q) ↔ ∃ a ∈ A, ∃ b ∈ B, w = xw a b := by
  have hl := joinR_len (hR.len hA) (hQ.len hB)
  have hS := spr_code hl
  refine mem_join hA hB (fun w hw => ?_) (fun w hw => ?_) (fun w hw => ?_) hl
  · rcases List.mem_append.mp hw with h | h
    · exact .inl (hR.mem w h).1
    · exact .inr (hQ.mem w h).1
  · exact spr_least hS (fun r hr => spr_mem hl r (List.mem_append_left _ hr)) w ((hR.spr hA w).mpr hw)
  · exact spr_least hS (fun r hr => spr_mem hl r (List.mem_append_right _ hr)) w ((hQ.spr hB w).mpr hw)
theorem join_swap (hA : IsCode n A) (hR : Desk n A R) (hB : IsCode n B) (hQ : Desk n B Q) : joinR Q R = joinR R Q := by
  refine Desk.unique (join_code hA hR hB hQ) ((join_desk hB hQ hA hR).congr fun w => ?_) (join_desk hA hR hB hQ)
  rw [mem_joined hB hQ hA hR, mem_joined hA hR hB hQ]
  exact ⟨fun ⟨b, hb, a, ha, e⟩ => ⟨a, ha, b, hb, by rw [e, xw_comm (hB.len b hb) (hA.len a ha)]⟩, fun ⟨a, ha, b, hb, e⟩ => ⟨b, hb, a, ha, by rw [e, xw_comm (hA.len a ha) (hB.len b hb)]⟩⟩
theorem met_swap (hA : IsCode n A) (hR : Desk n A R) (hB : IsCode n B) (hQ : Desk n B Q) : metR n Q R = metR n R Q := by
  refine Desk.unique (meet_code hA hB) ((met_desk hB hQ hA hR).congr fun w => ?_) (met_desk hA hR hB hQ)
  rw [mem_meet, mem_meet]
  exact and_comm
theorem rows_sum (hA : IsCode n A) (hR : Desk n A R) (hB : IsCode n B) (hQ : Desk n B Q) : 2 ^ (joinR R Q).length * 2 ^ (metR n R Q).length = 2 ^ R.length * 2 ^ Q.length := by
  have hJ := join_code hA hR hB hQ
  have c := join_count hA hB hJ.nd (mem_joined hA hR hB hQ)
  rw [(join_desk hA hR hB hQ).size_eq hJ, (met_desk hA hR hB hQ).size_eq (meet_code hA hB), hR.size_eq hA, hQ.size_eq hB] at c
  exact c
theorem t_met (hA : IsCode n A) (hR : Desk n A R) (hB : IsCode n B) (hQ : Desk n B Q) (hn : 1 ≤ n) (hn2 : n ≤ 400) : m_met [dDesk n R, dDesk n Q] = .ok (dDesk n (metR n R Q)) := by
  unfold m_met b_met
  rw [run2]
  have hE := evens_code (n := n) R
  have hF := evens_code (n := n) Q
  have dE := chkRows_desk hA hR
  have dF := chkRows_desk hB hQ
  have l1 := rows_le hE dE
  have l2 := rows_le hF dF
  simp [t_look, t_checks hA hR hn (show n ≤ 1000 by omega), t_checks hB hQ hn (show n ≤ 1000 by omega), t_joined (dE.len hE) (dF.len hF) hn (show n ≤ 1000 by omega) (by omega), t_checks (join_code hE dE hF dF) (join_desk hE dE hF dF) hn (show n ≤ 1000 by omega)]
  rfl
end
theorem pow_ok {k : Nat} (h : k ≤ 16) (b : Int) : mulOk ((2 : Int) ^ k) b = true := by
  have e : ((2 ^ k : Nat) : Int) = (2 : Int) ^ k := by push_cast; rfl
  have hb : 2 ^ k ≤ 2 ^ 16 := Nat.pow_le_pow_right (by decide) h
  rw [← e]
  generalize 2 ^ k = c at hb
  exact mulOk_l (by omega)
theorem law_k14 (ns : List Int) (hn : ns.length ≤ 63) : m_law_k14 [scrD ns] = .ok (.bool true) := by
  obtain ⟨h1, h8⟩ := sizeL_bd ns 1
  have eS := t_law_size ns 1 hn
  have eW := t_law_words ns 1 (sizeL ns 1) hn (by omega)
  have eT := t_law_words ns 8 (sizeL ns 1) hn (by omega)
  simp only [show ((1 : Nat) : Int) = 1 from rfl, show ((8 : Nat) : Int) = 8 from rfl] at eS eW eT
  generalize sizeL ns 1 = n at *
  have lW := wordsL_len ns 1 n
  have lT := wordsL_len ns 8 n
  have mW := wordsL_many ns 1 n
  have mT := wordsL_many ns 8 n
  generalize wordsL ns 1 n = W at *
  generalize wordsL ns 8 n = T at *
  have n1000 : n ≤ 1000 := by omega
  have sp := t_law_spread h1 n1000 (e_seqL (ds := dWs W)) lW (by omega)
  have spT := t_law_spread h1 n1000 (e_seqL (ds := dWs T)) lT (by omega)
  have hA := (spr_code lW).perm (sortA_perm _).symm
  have hB := (spr_code lT).perm (sortA_perm _).symm
  have rA := t_law_rows hA h1 n1000
  have rB := t_law_rows hB h1 n1000
  have hR := rows_desk hA
  have hQ := rows_desk hB
  generalize sortA (spr n W) = A at *
  generalize sortA (spr n T) = B at *
  generalize rowsL n A = R at *
  generalize rowsL n B = Q at *
  have lR := hR.len hA
  have lQ := hQ.len hB
  have zR := rows_le hA hR
  have zQ := rows_le hB hQ
  have jn := t_joined lR lQ h1 n1000 (by omega)
  have jn2 := t_joined lQ lR h1 n1000 (by omega)
  rw [join_swap hA hR hB hQ] at jn2
  have mt := t_met hA hR hB hQ h1 (by omega)
  have mt2 := t_met hB hQ hA hR h1 (by omega)
  rw [met_swap hA hR hB hQ] at mt2
  have spR := t_law_spread (x := .tuple (dWs R)) (ws := R) h1 n1000 (e_seqT) lR (by omega)
  have spQ := t_law_spread (x := .tuple (dWs Q)) (ws := Q) h1 n1000 (e_seqT) lQ (by omega)
  have hl : decide ((dWs R).length + (dWs Q).length ≤ LIM) = true := limT (by rw [dWs_len, dWs_len]; omega)
  have spJ := t_law_spread (x := .tuple (dWs R ++ dWs Q)) (ws := R ++ Q) h1 n1000 (by rw [← dWs_app]; exact e_seqT) (joinR_len lR lQ) (by rw [List.length_append]; omega)
  have hJ := join_code hA hR hB hQ
  have dJ := join_desk hA hR hB hQ
  have rJ := t_law_rows (hJ.perm (sortA_perm _).symm) h1 n1000
  rw [rows_deskRows (joinR_len lR lQ), show deskRows (R ++ Q) = joinR R Q from rfl] at rJ
  have hM := meet_code hA hB
  have dM := met_desk hA hR hB hQ
  have cA := spr_code lR
  have cB := spr_code lQ
  have sameM : ∀ w, w ∈ (sortA (spr n R)).filter (fun w => decide (w ∈ sortA (spr n Q))) ↔ w ∈ meet A B := fun w => by
    rw [List.mem_filter, decide_eq_true_iff, (sortA_perm _).mem_iff, (sortA_perm _).mem_iff, hR.spr hA, hQ.spr hB, mem_meet]
  have hM2 : IsCode n ((sortA (spr n R)).filter fun w => decide (w ∈ sortA (spr n Q))) := meet_code (cA.perm (sortA_perm _).symm) (cB.perm (sortA_perm _).symm)
  have rM := t_law_rows hM2 h1 n1000
  have eM : rowsL n ((sortA (spr n R)).filter fun w => decide (w ∈ sortA (spr n Q))) = metR n R Q := Desk.unique hM ((rows_desk hM2).congr sameM) dM
  rw [eM] at rM
  have ec := t_law_cell ns 0 hn
  simp only [show ((0 : Nat) : Int) = 0 from rfl] at ec
  have wd := t_law_word (cell ns 0) n n1000
  have wl : (wordL (cell ns 0) n).length = n := by simp [wordL]
  generalize wordL (cell ns 0) n = w at wd wl
  obtain ⟨bM, hbM, iM⟩ := t_has hM dM n1000 (dW w) (nd_dW w)
  obtain ⟨bA, hbA, iA⟩ := t_has hA hR n1000 (dW w) (nd_dW w)
  obtain ⟨bB, hbB, iB⟩ := t_has hB hQ n1000 (dW w) (nd_dW w)
  have hb : bM = (bA && bB) := by
    have inj : ∀ v, dW w = dW v → w = v := fun v h => by
      have := eqv_dW w v
      rw [h, eqv_dW, beq_self_eq_true] at this
      exact beq_iff_eq.mp this.symm
    rw [Bool.eq_iff_iff, Bool.and_eq_true, iM, iA, iB]
    refine ⟨fun ⟨v, h1, h2⟩ => ⟨⟨v, (mem_meet.mp h1).1, h2⟩, ⟨v, (mem_meet.mp h1).2, h2⟩⟩, fun ⟨⟨v, h1, h2⟩, ⟨u, h3, h4⟩⟩ => ⟨v, mem_meet.mpr ⟨h1, ?_⟩, h2⟩⟩
    rw [← inj v h2, inj u h4]
    exact h3
  have zJ := rows_le hJ dJ
  have zM := rows_le hM dM
  have cJ := t_count (n := n) (R := joinR R Q) (by omega)
  have cM := t_count (n := n) (R := metR n R Q) (by omega)
  have cR := t_count (n := n) (R := R) (by omega)
  have cQ := t_count (n := n) (R := Q) (by omega)
  have cnt : ((2 : Int) ^ (joinR R Q).length * 2 ^ (metR n R Q).length) = 2 ^ R.length * 2 ^ Q.length := by exact_mod_cast rows_sum hA hR hB hQ
  have hE := evens_code (n := n) R
  have hF := evens_code (n := n) Q
  have dE := chkRows_desk hA hR
  have dF := chkRows_desk hB hQ
  have kA := t_checks hA hR h1 n1000
  have kB := t_checks hB hQ h1 n1000
  have kJ := t_checks hJ dJ h1 n1000
  have kM := t_checks hM dM h1 n1000
  have mD := t_met hE dE hF dF h1 (by omega)
  have jD := t_joined (dE.len hE) (dF.len hF) h1 n1000 (by have := rows_le hE dE; have := rows_le hF dF; omega)
  have e1 : metR n (chkRows n R) (chkRows n Q) = chkRows n (joinR R Q) := by
    unfold metR
    rw [chkRows_twice hA hR, chkRows_twice hB hQ]
  have e2 : chkRows n (metR n R Q) = joinR (chkRows n R) (chkRows n Q) := chkRows_twice (join_code hE dE hF dF) (join_desk hE dE hF dF)
  rw [e1] at mD
  rw [e2] at kM
  unfold m_law_k14 b_law_k14
  rw [run1]
  simp [eS, eW, sp, rA, eT, spT, rB, jn, mt, spR, spQ, hl, spJ, rJ, ne_self (ok_desk _ _)]
  rw [lcGo_wsf (fun w => decide (w ∈ sortA (spr n Q))) dW (sortA (spr n R)) fun v _ => ⟨by simp, fun _ => by simp⟩]
  have ef : ((sortA (spr n R)).filter fun w => decide (w ∈ sortA (spr n Q))).map dW = dWs ((sortA (spr n R)).filter fun w => decide (w ∈ sortA (spr n Q))) := rfl
  rw [ef]
  have hand : (if bA = true then PD.R.ok (PyData.bool bB) else PD.R.ok (PyData.bool false)) = PD.R.ok (PyData.bool bM) := by
    rw [hb]
    cases bA <;> rfl
  simp [rM, ne_self (ok_desk _ _), ec, wd, hbM, hbA, hbB, hand]
  have p1 := pow_ok (k := (joinR R Q).length) (by omega) ((2 : Int) ^ (metR n R Q).length)
  have p2 := pow_ok (k := R.length) (by omega) ((2 : Int) ^ Q.length)
  simp [cJ, cM, cR, cQ, p1, p2, cnt, jn2, mt2, ne_self (ok_desk _ _), kJ, kA, kB, mD, kM, jD, eq_self' (ok_desk _ _)]
end L2.PD

set_option Elab.async false
set_option linter.all false
set_option autoImplicit false
set_option maxRecDepth 100000
/-! L21: ranks go together. -/
namespace L2.PD
open PySem PySem.Spec PyProof.Rows L2
theorem lcGo_ns {fe : Rho → R PyData} {ρ : Rho} {i : Nat} (g : Nat → PyData) (X : List Nat)
    (h : ∀ x ∈ X, fe (stN i (.int (x : Nat)) ρ) = .ok (g x)) {γ : Type} {k : List PyData → R γ} : (lcGo (stN i) fYes fe ρ (dNs X)).bind k = k (X.map g) := lcGo_am (fun k : Nat => PyData.int (k : Int)) g X h
theorem lcGo_nsf {ft : Rho → R Bool} {fe : Rho → R PyData} {ρ : Rho} {i : Nat} (p : Nat → Bool) (g : Nat → PyData) (X : List Nat)
    (h : ∀ x ∈ X, ft (stN i (.int (x : Nat)) ρ) = .ok (p x) ∧ (p x = true → fe (stN i (.int (x : Nat)) ρ) = .ok (g x))) {γ : Type} {k : List PyData → R γ} : (lcGo (stN i) ft fe ρ (dNs X)).bind k = k ((X.filter p).map g) := lcGo_wm (fun k : Nat => PyData.int (k : Int)) p g X h
theorem rng_ns (n : Nat) (hn : n ≤ 1000000) : rng1D [.int (n : Int)] = .ok (dNs (List.range n)) := rng_nat n hn
theorem len_dNs (X : List Nat) : (dNs X).length = X.length := List.length_map ..
theorem has_ns (k : Nat) (X : List Nat) : hasD (.int (k : Int)) (.list (dNs X)) = .ok (decide (k ∈ X)) := by
  have h1 := OkD.int (k : Int)
  have h2 := ok_dNs X
  show guard _ _ = _
  rw [guard_t (by rw [h1.sh (by decide), h2.sh (by decide), h1.flat, h2.flat]; rfl)]
  congr 1
  unfold dNs
  rw [List.any_map, Bool.eq_iff_iff, List.any_eq_true, decide_eq_true_iff]
  refine ⟨fun ⟨x, h1, h2⟩ => ?_, fun h => ⟨k, h, ?_⟩⟩
  · have h2 : PyData.eqv (.int (x : Int)) (.int (k : Int)) = true := h2
    rw [eqv_int, int_beq, beq_iff_eq] at h2
    exact h2 ▸ h1
  · show PyData.eqv (.int (k : Int)) (.int (k : Int)) = true
    rw [eqv_int, beq_self_eq_true]
@[simp] theorem in_ns (k : Nat) (X : List Nat) : inD (.int (k : Int)) (.list (dNs X)) = .ok (.bool (decide (k ∈ X))) := by
  unfold inD
  rw [has_ns, bok]
@[simp] theorem nin_ns (k : Nat) (X : List Nat) : ninD (.int (k : Int)) (.list (dNs X)) = .ok (.bool (!decide (k ∈ X))) := by
  unfold ninD
  rw [has_ns, bok]
theorem t_rank {n : Nat} {R : List Word} {X : List Nat} (hl : ∀ w ∈ R, w.length = n) (hX : ∀ x ∈ X, x < n) (hz : X.length ≤ 1000) : m_rank [dDesk n R, .list (dNs X)] = .ok (.int (rk R X)) := by
  unfold m_rank b_rank
  rw [run2]
  simp
  rw [lcGo_ws (fun r => dW (proj X r)) R fun r hr => by
    simp
    rw [lcGo_ns (fun k => dB (bit r k)) X fun k hk => by
      have h1 := hX k hk
      have h2 := hl r hr
      simp [ix_dW (w := r) (i := k) (by omega)]]
    simp
    unfold dW proj
    rw [List.map_map]
    rfl]
  have e : R.map (fun r => dW (proj X r)) = dWs (R.map (proj X)) := by
    unfold dWs
    rw [List.map_map]
    rfl
  have hd := t_desk_ofN (x := .list (dWs (R.map (proj X)))) (e_seqL) (projs_len X R) (by omega)
  rw [e]
  simp [len_dNs, hd, dWs_len]
  rfl
def placesL (c : Int) (n : Nat) : List Nat := (List.range n).filter fun k => mix (c + 13 * (k : Int) * k) 9949 2 == 0
theorem t_law_places (c : Int) (n : Nat) (hn : n ≤ 1000) : m_law_places [.int c, .int n] = .ok (.list (dNs (placesL c n))) := by
  unfold m_law_places b_law_places
  rw [run2]
  simp
  rw [rng_ns n (by omega)]
  simp only [bok]
  rw [lcGo_nsf (fun k => mix (c + 13 * (k : Int) * k) 9949 2 == 0) (fun k => .int (k : Nat)) (List.range n) fun k hk => by
    have hk' := List.mem_range.mp hk
    have g1 : mulOk 13 (k : Int) = true := mulOk_l (by decide)
    have g2 : mulOk (13 * (k : Int)) (k : Int) = true := mulOk_r (by omega)
    exact ⟨by simp [g1, g2, t_law_mix], fun _ => by simp⟩]
  simp
  rfl
theorem places_lt {c : Int} {n : Nat} : ∀ x ∈ placesL c n, x < n := fun x hx => List.mem_range.mp (List.mem_filter.mp hx).1
theorem places_nd (c : Int) (n : Nat) : (placesL c n).Nodup := List.nodup_range.filter _
theorem law_k21 (ns : List Int) (hn : ns.length ≤ 63) : m_law_k21 [scrD ns] = .ok (.bool true) := by
  obtain ⟨n, S, _, h1, h8, _, hC, e⟩ := t_law_desk ns 2 hn
  have hD := rows_desk hC
  generalize rowsL n S = R at hD e
  have e0 : PyData.int 2 = PyData.int ((2 : Nat) : Int) := rfl
  rw [← e0] at e
  have hr : ∀ w ∈ R, w.length = n := hD.len hC
  have n1000 : n ≤ 1000 := by omega
  have ec := t_law_cell ns 0 hn
  have ec1 := t_law_cell ns 1 hn
  simp only [show ((0 : Nat) : Int) = 0 from rfl, show ((1 : Nat) : Int) = 1 from rfl] at ec ec1
  have pX := t_law_places (cell ns 0) n n1000
  have pY := t_law_places (cell ns 1 + 5) n n1000
  have lX := places_lt (c := cell ns 0) (n := n)
  have lY := places_lt (c := cell ns 1 + 5) (n := n)
  have ndX := places_nd (cell ns 0) n
  have zX : (placesL (cell ns 0) n).length ≤ n := by
    unfold placesL
    exact Nat.le_trans (List.length_filter_le _ _) (by rw [List.length_range]; exact Nat.le_refl _)
  have zY : (placesL (cell ns 1 + 5) n).length ≤ n := by
    unfold placesL
    exact Nat.le_trans (List.length_filter_le _ _) (by rw [List.length_range]; exact Nat.le_refl _)
  generalize placesL (cell ns 0) n = X at *
  generalize placesL (cell ns 1 + 5) n = Y at *
  have flt : ∀ (p : Nat → Bool), (∀ x ∈ (List.range n).filter p, x < n) ∧ ((List.range n).filter p).length ≤ n := fun p => ⟨fun x hx => List.mem_range.mp (List.mem_filter.mp hx).1, Nat.le_trans (List.length_filter_le _ _) (by rw [List.length_range]; exact Nat.le_refl _)⟩
  have rX := t_rank (n := n) hr lX (by omega)
  have rY := t_rank (n := n) hr lY (by omega)
  have rU := t_rank (n := n) (X := (List.range n).filter fun k => decide (k ∈ X) || decide (k ∈ Y)) hr (flt _).1 (by have := (flt fun k => decide (k ∈ X) || decide (k ∈ Y)).2; omega)
  have rI := t_rank (n := n) (X := X.filter fun k => decide (k ∈ Y)) hr (fun x hx => lX x (List.mem_filter.mp hx).1) (Nat.le_trans (List.length_filter_le _ _) (by omega))
  have rO := t_rank (n := n) (X := (List.range n).filter fun k => !decide (k ∈ X)) hr (flt _).1 (by have := (flt fun k => !decide (k ∈ X)).2; omega)
  have hE := evens_code (n := n) R
  have dE := chkRows_desk hC hD
  have rD := t_rank (n := n) (R := chkRows n R) (dE.len hE) lX (by omega)
  have kD := t_checks hC hD h1 n1000
  have sub := rk_sub hC hD (X := X) (Y := Y) (U := (List.range n).filter fun k => decide (k ∈ X) || decide (k ∈ Y)) (I := X.filter fun k => decide (k ∈ Y)) (fun p => by
    rw [List.mem_filter, List.mem_range, Bool.or_eq_true, decide_eq_true_iff, decide_eq_true_iff]
    exact ⟨fun h => h.2, fun h => ⟨by rcases h with h | h; exact lX p h; exact lY p h, h⟩⟩) fun p => by
    rw [List.mem_filter, decide_eq_true_iff]
  have m1 := rk_mono hC hD (X := X.filter fun k => decide (k ∈ Y)) (Y := X) fun p hp => (List.mem_filter.mp hp).1
  have m2 := rk_mono hC hD (X := X) (Y := (List.range n).filter fun k => decide (k ∈ X) || decide (k ∈ Y)) fun p hp => List.mem_filter.mpr ⟨List.mem_range.mpr (lX p hp), by simp [hp]⟩
  have dual := rk_dual hC hD (X := X) (Y := (List.range n).filter fun k => !decide (k ∈ X)) ndX lX fun p => by
    rw [List.mem_filter, List.mem_range]
    simp
  have one := fun p (hp : p ∉ X) => rk_one hC hD hp
  unfold m_law_k21 b_law_k21
  rw [run1]
  simp [e, ec, ec1, pX, pY]
  rw [rng_ns n (by omega)]
  simp only [bok]
  rw [lcGo_nsf (fun k => decide (k ∈ X) || decide (k ∈ Y)) (fun k => .int (k : Nat)) (List.range n) fun k hk => ⟨by
    simp
    by_cases h : k ∈ X <;> simp [h], fun _ => by simp⟩]
  simp
  rw [lcGo_nsf (fun k => decide (k ∈ Y)) (fun k => .int (k : Nat)) X fun k hk => ⟨by simp, fun _ => by simp⟩]
  have f1 : ∀ X : List Nat, X.map (fun k : Nat => PyData.int (k : Int)) = dNs X := fun _ => rfl
  rw [f1, f1]
  have q1 : decide ((rk R X : Int) + rk R Y < rk R ((List.range n).filter fun k => decide (k ∈ X) || decide (k ∈ Y)) + rk R (X.filter fun k => decide (k ∈ Y))) = false := decide_eq_false (by omega)
  have q2 : decide ((rk R (X.filter fun k => decide (k ∈ Y)) : Int) ≤ rk R X) = true := decide_eq_true (by omega)
  have q3 : decide ((rk R X : Int) ≤ rk R ((List.range n).filter fun k => decide (k ∈ X) || decide (k ∈ Y))) = true := decide_eq_true (by omega)
  clear sub m1 m2
  generalize (List.range n).filter (fun k => decide (k ∈ X) || decide (k ∈ Y)) = U at *
  generalize X.filter (fun k => decide (k ∈ Y)) = I at *
  simp only [rU, rI, rX, rY, bok, e_add, e_gt, e_boolOf, q1, if_neg Bool.false_ne_true, List.getElem?_cons_zero, List.getElem?_cons_succ, e_le, q2, q3, if_true, Bool.not_true]
  rw [rng_ns n (by omega)]
  simp only [bok]
  rw [bassoc]
  have l1 : decide (1 ≤ LIM) = true := limT (by omega)
  refine bind_all (mk := fun (j : Option Ent) => [some (.fz (scrD ns)), some (.fz (dDesk n R)), some (.fz (.int n)), some (.fz (.list (dNs X))), some (.fz (.list (dNs Y))), some (.fz (.list (dNs U))), some (.fz (.list (dNs I))), j, none]) (e := fun k : Nat => PyData.int (k : Int)) (p := fun _ => true) (.bool false) (List.range n) none (fun k hk j => ⟨some (.fz (.int k)), ?_⟩) fun j' => ?_
  · by_cases hx : k ∈ X
    · simp [hx]
    · have hk' := List.mem_range.mp hk
      have rP := t_rank (n := n) (X := X ++ [k]) hr (fun x hx => by
        rcases List.mem_append.mp hx with h | h
        · exact lX x h
        · rw [List.mem_singleton.mp h]; exact hk') (by rw [List.length_append, List.length_singleton]; omega)
      have ha : addD (.list (dNs X)) (.list [.int (k : Int)]) = .ok (.list (dNs (X ++ [k]))) := by
        show guard _ _ = _
        rw [guard_t (limT (by rw [len_dNs, List.length_singleton]; omega))]
        unfold dNs
        rw [List.map_append]
        rfl
      obtain ⟨o1, o2⟩ := one k hx
      have g1 : decide ((0 : Int) ≤ (rk R (X ++ [k]) : Int) - rk R X) = true := decide_eq_true (by omega)
      have g2 : decide ((rk R (X ++ [k]) : Int) - rk R X ≤ 1) = true := decide_eq_true (by omega)
      simp only [e_sIf, e_And, e_B, e_2, e_stN, List.set, e_name, List.getElem?_cons_zero, List.getElem?_cons_succ, bok, nin_ns, e_boolOf, decide_eq_false hx, Bool.not_false, if_true, e_Not, e_Chain, e_C, e_Call, e_aCons, e_aNil, e_Lst, List.length_singleton, l1, e_guard, ha, rP, rX, e_sub, e_le, g1, g2, Bool.not_true, if_neg Bool.false_ne_true, e_Nil]
  · simp
    rw [rng_ns n (by omega)]
    simp only [bok]
    rw [lcGo_nsf (fun k => !decide (k ∈ X)) (fun k => .int (k : Nat)) (List.range n) fun k hk => ⟨by simp, fun _ => by simp⟩]
    rw [f1]
    have hd : (X.length : Int) + (rk R ((List.range n).filter fun k => !decide (k ∈ X)) : Int) - (R.length : Int) = (rk (chkRows n R) X : Int) := by omega
    clear dual
    generalize (List.range n).filter (fun k => !decide (k ∈ X)) = O at *
    simp [kD, rD, rO, len_dNs, dWs_len, hd]
end L2.PD

set_option Elab.async false
set_option linter.all false
set_option autoImplicit false
set_option maxRecDepth 100000
/-! L01: words. -/
namespace L2.PD
open PySem PySem.Spec PyProof.Rows L2
theorem sl_to {w : Word} {k : Nat} (h : k ≤ w.length) : slD (dW w) none (some (k : Int)) = .ok (dW (w.take k)) := by
  show PD.R.ok (PyData.tuple (cutD (w.map dB) none (some (k : Int)))) = _
  unfold cutD
  rw [HT.sIx_nat, HT.sIx_none, List.drop_zero, Nat.sub_zero, List.length_map, Nat.min_eq_left h]
  unfold dW
  rw [List.map_take]
theorem sl_from {w : Word} {k : Nat} (h : k ≤ w.length) : slD (dW w) (some (k : Int)) none = .ok (dW (w.drop k)) := by
  show PD.R.ok (PyData.tuple (cutD (w.map dB) (some (k : Int)) none)) = _
  unfold cutD
  rw [HT.sIx_nat, HT.sIx_none, List.length_map, Nat.min_eq_left h]
  unfold dW
  rw [List.map_drop, List.take_of_length_le (by rw [List.length_drop, List.length_map]; exact Nat.le_refl _)]
def Bad (n : Nat) (d : PyData) : Prop := noDictAll d = true ∧ isWordB d n = false
theorem bad_w {n : Nat} {w : Word} (h : w.length ≠ n) : Bad n (dW w) := ⟨nd_dW w, by rw [isWord_dW]; simpa using h⟩
theorem bad_put {n : Nat} (a b : Word) {x : PyData} (h : noDict x = true) (h2 : withinB x 0 1 = false) : Bad n (.tuple (a.map dB ++ [x] ++ b.map dB)) := by
  refine ⟨?_, ?_⟩
  · show (a.map dB ++ [x] ++ b.map dB).all noDict = true
    rw [List.all_eq_true]
    intro y hy
    rcases List.mem_append.mp hy with hy | hy
    · rcases List.mem_append.mp hy with hy | hy
      · obtain ⟨b, _, rfl⟩ := List.mem_map.mp hy; rfl
      · rw [List.mem_singleton.mp hy]; exact h
    · obtain ⟨b, _, rfl⟩ := List.mem_map.mp hy; rfl
  · show (_ && (a.map dB ++ [x] ++ b.map dB).all fun y => withinB y 0 1) = false
    rw [List.all_append, List.all_append, List.all_cons, h2]
    simp
theorem pick {P : PyData → Prop} (xs : List PyData) (c : Int) (m : Int) (hm : m = xs.length) (h0 : 0 < m) (hp : ∀ x ∈ xs, P x) : ∃ d, ixD (.list xs) (.int (c % m)) = .ok d ∧ P d :=
  ix_all xs _ (Int.emod_nonneg _ (by omega)) (by have := Int.emod_lt_of_pos c h0; omega) hp
@[simp] theorem e_neg {i : Int} : negD (.int i) = .ok (.int (-i)) := id rfl
theorem t_law_spoilt (ns : List Int) (hn : ns.length ≤ 63) {n : Nat} {w : Word} (hl : w.length = n) (h1 : 1 ≤ n) (h8 : n ≤ 100) : ∃ d, m_law_spoilt [dW w, scrD ns] = .ok d ∧ Bad n d := by
  have e2 := t_law_cell ns 2 hn
  have e3 := t_law_cell ns 3 hn
  have e4 := t_law_cell ns 4 hn
  simp only [show ((2 : Nat) : Int) = 2 from rfl, show ((3 : Nat) : Int) = 3 from rfl, show ((4 : Nat) : Int) = 4 from rfl] at e2 e3 e4
  obtain ⟨odd, hodd, o1, o2⟩ := pick (P := fun x => noDict x = true ∧ withinB x 0 1 = false) [.int 2, .int (-1), .bool true, .bool false, .str "1", .none] (cell ns 3) 6 rfl (by decide) (by
    simp only [List.forall_mem_cons, List.not_mem_nil, false_implies, implies_true, and_true]
    exact ⟨⟨rfl, rfl⟩, ⟨rfl, rfl⟩, ⟨rfl, rfl⟩, ⟨rfl, rfl⟩, ⟨rfl, rfl⟩, ⟨rfl, rfl⟩⟩)
  have hn0 : (0 : Int) < n := by omega
  have p0 := Int.emod_nonneg (cell ns 4) (show (n : Int) ≠ 0 by omega)
  have p1 := Int.emod_lt_of_pos (cell ns 4) hn0
  obtain ⟨k, hk⟩ := Int.eq_ofNat_of_zero_le p0
  have hkn : k < n := by omega
  have hlen : lenD (dW w) = .ok (.int n) := by
    show PD.R.ok (PyData.int _) = _
    rw [List.length_map, hl]
  have s1 := sl_to (w := w) (k := k) (by omega)
  have s2 := sl_from (w := w) (k := k + 1) (by omega)
  have s3 := sl_from (w := w) (k := 1) (by omega)
  simp only [show ((1 : Nat) : Int) = 1 from rfl] at s3
  have ek1 : ((k : Int) + 1) = ((k + 1 : Nat) : Int) := by omega
  have l6 : decide (6 ≤ LIM) = true := limT (by omega)
  have l1 : decide (1 ≤ LIM) = true := limT (by omega)
  have a1 : addD (dW w) (.tuple [.int 0]) = .ok (dW (w ++ [false])) := by
    show guard _ _ = _
    rw [guard_t (limT (by rw [List.length_map, List.length_singleton]; omega))]
    unfold dW
    rw [List.map_append]
    rfl
  have aT : ∃ T1 T2, addD (dW (w.take k)) (.tuple [odd]) = .ok T1 ∧ addD T1 (dW (w.drop (k + 1))) = .ok T2 ∧ Bad n T2 := by
    refine ⟨.tuple ((w.take k).map dB ++ [odd]), .tuple ((w.take k).map dB ++ [odd] ++ (w.drop (k + 1)).map dB), ?_, ?_, bad_put _ _ o1 o2⟩
    · show guard _ _ = _
      rw [guard_t (limT (by rw [List.length_map, List.length_take, List.length_singleton]; omega))]
    · show guard _ _ = _
      rw [guard_t (limT (by simp; omega))]
  obtain ⟨T1, T2, a2, a3, bT⟩ := aT
  obtain ⟨d, hd, hb⟩ := pick (P := Bad n) [.list (w.map dB), dW (w ++ [false]), dW (w.drop 1), .none, .str "01", T2] (cell ns 2) 6 rfl (by decide) (by
    simp only [List.forall_mem_cons, List.not_mem_nil, false_implies, implies_true, and_true]
    exact ⟨⟨rfl, rfl⟩, bad_w (by simp [hl]), bad_w (by simp [hl]; omega), ⟨rfl, rfl⟩, ⟨rfl, rfl⟩, bT⟩)
  refine ⟨d, ?_, hb⟩
  have hm6 : decide ((0 : Int) < 6) = true := rfl
  have hmn : decide ((0 : Int) < n) = true := decide_eq_true hn0
  have hlst : listD (dW w) = .ok (.list (w.map dB)) := rfl
  have hmn' : decide (0 < n) = true := decide_eq_true (by omega)
  unfold m_law_spoilt b_law_spoilt
  rw [run2]
  have s2' : slD (dW w) (some ((k : Int) + 1)) none = .ok (dW (w.drop (k + 1))) := by rw [ek1]; exact s2
  rw [List.drop_one] at s3 hd
  simp [hlen, e2, e3, e4, l6, l1, hm6, hmn, hmn', hodd, hk, s1, s2', s3, a1, a2, a3, hlst]
  rw [hd]
  rfl
theorem wt_xw : ∀ a b : Word, wt (xw a b) = ((a.zip b).filter fun p => p.1 != p.2).length
  | [], _ => rfl
  | _ :: _, [] => rfl
  | x :: a, y :: b => by
    show wt ((x != y) :: xw a b) = _
    rw [wt_cons, wt_xw a b, List.zip_cons_cons]
    cases h : (x != y) with
    | true => rw [List.filter_cons_of_pos (by exact h)]; rfl
    | false => rw [List.filter_cons_of_neg (by show ¬ (x != y) = true; rw [h]; decide)]; rfl
theorem wt_both : ∀ a b : Word, wt ((a.zip b).map fun p => p.1 && p.2) = ((a.zip b).filter fun p => p.1 && p.2).length
  | [], _ => rfl
  | _ :: _, [] => rfl
  | x :: a, y :: b => by
    rw [List.zip_cons_cons, List.map_cons, wt_cons, wt_both a b]
    cases h : (x && y) with
    | true => rw [List.filter_cons_of_pos (by exact h)]; rfl
    | false => rw [List.filter_cons_of_neg (by show ¬ (x && y) = true; rw [h]; decide)]; rfl
theorem t_apart (a b : Word) : m_apart [dW a, dW b] = .ok (.int (wt (xw a b))) := by
  unfold m_apart b_apart
  rw [run2]
  simp [t_plus, t_weight]
theorem count_dB : ∀ w : Word, intsOf (w.map dB) = .ok (w.map fun b : Bool => if b = true then (1 : Int) else 0)
  | [] => rfl
  | b :: w => by
    show (intsOf (w.map dB)).bind _ = _
    rw [count_dB w]
    rfl
theorem count_one : ∀ w : Word, (w.map fun b : Bool => if b = true then (1 : Int) else 0).count 1 = wt w
  | [] => rfl
  | b :: w => by
    rw [List.map_cons, List.count_cons, count_one w, wt_cons]
    cases b <;> rfl
theorem t_countW (w : Word) : countD (dW w) (.int 1) = .ok (.int (wt w)) := by
  show (intsOf (w.map dB)).bind (fun ns => PD.R.ok (PyData.int (ns.count 1 : Nat))) = _
  rw [count_dB, bok, count_one]
@[simp] theorem e_Count {f g : Rho → R PyData} {ρ : Rho} : fCount f g ρ = (f ρ).bind fun t => guard (isiTuple t) ((g ρ).bind fun x => countD t x) := id rfl
theorem ne_dB (a b : Bool) : neD (dB a) (dB b) = .ok (.bool (a != b)) := by cases a <;> cases b <;> rfl
theorem lcGo_zipf {ft : Rho → R Bool} {fe : Rho → R PyData} {ρ : Rho} {i j : Nat} (p : Bool × Bool → Bool) (g : Bool × Bool → PyData) (a b : Word)
    (h : ∀ x ∈ a.zip b, ft (st2 i j (dB x.1, dB x.2) ρ) = .ok (p x) ∧ (p x = true → fe (st2 i j (dB x.1, dB x.2) ρ) = .ok (g x))) {γ : Type} {k : List PyData → R γ} : (lcGo (st2 i j) ft fe ρ ((a.zip b).map fun p => (dB p.1, dB p.2))).bind k = k (((a.zip b).filter p).map g) := lcGo_wm (fun p : Bool × Bool => (dB p.1, dB p.2)) p g _ h
theorem e_lcNil {α : Type} {st : α → Rho → Rho} {ft : Rho → R Bool} {fe : Rho → R PyData} {ρ : Rho} : lcGo st ft fe ρ [] = .ok [] := id rfl
theorem e_lcCons {α : Type} {st : α → Rho → Rho} {ft : Rho → R Bool} {fe : Rho → R PyData} {ρ : Rho} {x : α} {l : List α} : lcGo st ft fe ρ (x :: l) = (ft (st x ρ)).bind fun b => if b = true then (fe (st x ρ)).bind fun d => (lcGo st ft fe ρ l).bind fun ds => .ok (d :: ds) else lcGo st ft fe ρ l := id rfl
theorem law_k01 (ns : List Int) (hn : ns.length ≤ 63) : m_law_k01 [scrD ns] = .ok (.bool true) := by
  obtain ⟨h1, h8⟩ := sizeL_bd ns 0
  have eS := t_law_size ns 0 hn
  have ec1 := t_law_cell ns 1 hn
  have ec2 := t_law_cell ns 2 hn
  simp only [show ((0 : Nat) : Int) = 0 from rfl, show ((1 : Nat) : Int) = 1 from rfl, show ((2 : Nat) : Int) = 2 from rfl] at eS ec1 ec2
  generalize sizeL ns 0 = n at *
  have wd := t_law_word (cell ns 1) n (show n ≤ 1000 by omega)
  have wl : (wordL (cell ns 1) n).length = n := by simp [wordL]
  have wd1 := t_law_word (cell ns 2) n (show n ≤ 1000 by omega)
  have wl1 : (wordL (cell ns 2) n).length = n := by simp [wordL]
  generalize wordL (cell ns 1) n = a at wd wl
  generalize wordL (cell ns 2) n = b at wd1 wl1
  obtain ⟨d, hd, bd1, bd2⟩ := t_law_spoilt ns hn wl h1 (show n ≤ 100 by omega)
  have i1 := t_is_word (dW a) n (nd_dW a)
  have i2 := t_is_word d n bd1
  have i3 := t_is_word (dW a) (n + 1) (nd_dW a)
  have i4 : isWordB (dW a) (n + 1) = false := by rw [isWord_dW]; simp [wl]
  have i5 : isWordB (dW a) n = true := by rw [isWord_dW]; simp [wl]
  rw [i4] at i3
  rw [i5] at i1
  rw [bd2] at i2
  have l3 : decide (3 ≤ LIM) = true := limT (by omega)
  have l2 : decide (2 ≤ LIM) = true := limT (by omega)
  have l1 : decide (1 ≤ LIM) = true := limT (by omega)
  have e3 : (((n + 1 : Nat)) : Int) = (n : Int) + 1 := by omega
  rw [e3] at i3
  have okb : OkD 1 (.list [.bool true, .bool false, .bool false]) := OkD.list (k := 0) fun d hd => by
    rcases List.mem_cons.mp hd with rfl | hd
    · exact OkD.bool _
    · rcases List.mem_cons.mp hd with rfl | hd
      · exact OkD.bool _
      · rw [List.mem_singleton.mp hd]; exact OkD.bool _
  have zn := t_none n (show n ≤ 1000 by omega)
  have z0 := t_zeros n (show n ≤ 1000 by omega)
  have nz : neD (dW (zw n)) (dW (zw n)) = .ok (.bool false) := ne_self (ok_dW _)
  have np : neD (dW (xw a b)) (dW (xw a b)) = .ok (.bool false) := ne_self (ok_dW _)
  unfold m_law_k01 b_law_k01
  rw [run1]
  simp [eS, ec1, ec2, wd, wd1, i1, hd, i2, i3, l3, l2, l1, e_lcNil, e_lcCons, isi_bool_b, ne_self okb, t_plus, isi_tup_dW, t_law_sum, np, zn, z0, nz, t_weight, t_apart, t_law_whole_i]
  rw [lcGo_zipf (fun p => p.1 != p.2) (fun _ => .int 1) a b fun p _ => ⟨by simp [ne_dB], fun _ => by simp⟩]
  simp only [bok, e_one, e_lenL, List.length_map, ← wt_xw]
  simp
  rw [lcGo_zipf (fun p => p.1 && p.2) (fun _ => .int 1) a b fun p _ => ⟨by
    simp
    cases p.1 <;> simp, fun _ => by simp⟩]
  simp only [bok, e_one, e_lenL, List.length_map, ← wt_both]
  have hk := wt_and a b
  have okn : ∀ x y : Int, OkD 1 (.list [.int x, .int y]) := fun x y => OkD.list (k := 0) fun d hd => by
    rcases List.mem_cons.mp hd with rfl | hd
    · exact OkD.int _
    · rw [List.mem_singleton.mp hd]; exact OkD.int _
  have h2 : decide ((0 : Int) < 2) = true := rfl
  generalize wt ((a.zip b).map fun p => p.1 && p.2) = c at hk ⊢
  simp [t_meet_evenly, t_countW, l2, eq_self' (okn _ _), isi_bool_b, h2, hk]
end L2.PD

set_option Elab.async false
set_option linter.all false
set_option autoImplicit false
/-! WM6: pictures of codes, codes beside one another, least weights. -/
namespace L2.PD
structure Lin (n m : Nat) (f : Word → Word) : Prop where
  len : ∀ w : Word, w.length = n → (f w).length = m
  add : ∀ a b : Word, a.length = n → b.length = n → f (xw a b) = xw (f a) (f b)
theorem Lin.zero {n m : Nat} {f : Word → Word} (h : Lin n m f) : f (zw n) = zw m := by
  have e := h.add (zw n) (zw n) (zw_length n) (zw_length n)
  rw [xw_self (zw_length n), xw_self (h.len _ (zw_length n))] at e
  exact e
theorem IsCode.same {n : Nat} {C D : List Word} (hC : IsCode n C) (nd : D.Nodup) (e : ∀ w, w ∈ D ↔ w ∈ C) : IsCode n D :=
  ⟨fun w hw => hC.len w ((e w).mp hw), (e _).mpr hC.zero, fun a ha b hb => (e _).mpr (hC.add a ((e a).mp ha) b ((e b).mp hb)), nd⟩
section
variable {n m : Nat} {C R : List Word} {f : Word → Word}
theorem imgs_len (hC : IsCode n C) (h : Desk n C R) (hf : Lin n m f) : ∀ w ∈ R.map f, w.length = m := fun w hw => by
  obtain ⟨r, hr, rfl⟩ := List.mem_map.mp hw
  exact hf.len r (h.len hC r hr)
/-- the rows' pictures span the code's -/
theorem mem_img (hC : IsCode n C) (h : Desk n C R) (hf : Lin n m f) : ∀ v, v ∈ spr m (R.map f) ↔ ∃ c ∈ C, f c = v := by
  have hl := h.len hC
  have hS := spr_code (imgs_len hC h hf)
  have up : ∀ w ∈ spr n R, f w ∈ spr m (R.map f) := by
    have mem : ∀ w, w ∈ ((allW n).filter fun w => decide (f w ∈ spr m (R.map f))) ↔ w.length = n ∧ f w ∈ spr m (R.map f) := fun w => by
      rw [List.mem_filter, mem_allW, decide_eq_true_iff]
    have hP : IsCode n ((allW n).filter fun w => decide (f w ∈ spr m (R.map f))) :=
      ⟨fun w hw => ((mem w).mp hw).1, (mem _).mpr ⟨zw_length n, by rw [hf.zero]; exact hS.zero⟩, fun a ha b hb => (mem _).mpr ⟨xw_len ((mem a).mp ha).1 ((mem b).mp hb).1, by
        rw [hf.add a b ((mem a).mp ha).1 ((mem b).mp hb).1]
        exact hS.add _ ((mem a).mp ha).2 _ ((mem b).mp hb).2⟩, (nd_allW n).filter _⟩
    exact fun w hw => ((mem w).mp (spr_least hP (fun r hr => (mem r).mpr ⟨hl r hr, spr_mem (imgs_len hC h hf) _ (List.mem_map.mpr ⟨r, hr, rfl⟩)⟩) w hw)).2
  have mem : ∀ v, v ∈ ((allW m).filter fun v => C.any fun c => f c == v) ↔ ∃ c ∈ C, f c = v := fun v => by
    rw [List.mem_filter, mem_allW, List.any_eq_true]
    exact ⟨fun ⟨_, c, hc, e⟩ => ⟨c, hc, beq_iff_eq.mp e⟩, fun ⟨c, hc, e⟩ => ⟨by rw [← e]; exact hf.len c (hC.len c hc), c, hc, by rw [e, beq_self_eq_true]⟩⟩
  have hQ : IsCode m ((allW m).filter fun v => C.any fun c => f c == v) := by
    refine ⟨fun v hv => (mem_allW _ v).mp (List.mem_filter.mp hv).1, (mem _).mpr ⟨zw n, hC.zero, hf.zero⟩, fun a ha b hb => ?_, (nd_allW _).filter _⟩
    obtain ⟨c, hc, rfl⟩ := (mem a).mp ha
    obtain ⟨d, hd, rfl⟩ := (mem b).mp hb
    exact (mem _).mpr ⟨xw c d, hC.add c hc d hd, hf.add c d (hC.len c hc) (hC.len d hd)⟩
  intro v
  refine ⟨fun hv => (mem v).mp (spr_least hQ (fun u hu => ?_) v hv), fun ⟨c, hc, e⟩ => by rw [← e]; exact up c ((h.spr hC c).mpr hc)⟩
  obtain ⟨r, hr, rfl⟩ := List.mem_map.mp hu
  exact (mem _).mpr ⟨r, (h.mem r hr).1, rfl⟩
end
/-- two codes' pictures together -/
theorem mem_two {n k m : Nat} {A R B Q : List Word} {f g : Word → Word} (hA : IsCode n A) (hR : Desk n A R) (hB : IsCode k B) (hQ : Desk k B Q) (hf : Lin n m f) (hg : Lin k m g) :
    (∀ w ∈ R.map f ++ Q.map g, w.length = m) ∧ ∀ w, w ∈ spr m (R.map f ++ Q.map g) ↔ ∃ a ∈ A, ∃ b ∈ B, w = xw (f a) (g b) := by
  have l1 := imgs_len hA hR hf
  have l2 := imgs_len hB hQ hg
  have l : ∀ w ∈ R.map f ++ Q.map g, w.length = m := fun w hw => by
    rcases List.mem_append.mp hw with h | h
    · exact l1 w h
    · exact l2 w h
  have c1 := spr_code l1
  have c2 := spr_code l2
  have hS := spr_code l
  refine ⟨l, fun w => ?_⟩
  rw [mem_join c1 c2 (fun w hw => by
    rcases List.mem_append.mp hw with h | h
    · exact .inl (spr_mem l1 w h)
    · exact .inr (spr_mem l2 w h)) (fun w hw => spr_least hS (fun r hr => spr_mem l r (List.mem_append_left _ hr)) w hw) (fun w hw => spr_least hS (fun r hr => spr_mem l r (List.mem_append_right _ hr)) w hw) l]
  refine ⟨fun ⟨u, hu, v, hv, e⟩ => ?_, fun ⟨a, ha, b, hb, e⟩ => ⟨f a, (mem_img hA hR hf _).mpr ⟨a, ha, rfl⟩, g b, (mem_img hB hQ hg _).mpr ⟨b, hb, rfl⟩, e⟩⟩
  obtain ⟨a, ha, rfl⟩ := (mem_img hA hR hf u).mp hu
  obtain ⟨b, hb, rfl⟩ := (mem_img hB hQ hg v).mp hv
  exact ⟨a, ha, b, hb, e⟩
theorem xw_app {a b c d : Word} (h : a.length = c.length) : xw (a ++ b) (c ++ d) = xw a c ++ xw b d := by
  unfold xw
  exact List.zipWith_append h
theorem lin_left (n k : Nat) : Lin n (n + k) (· ++ zw k) where
  len := fun w h => by rw [List.length_append, h, zw_length]
  add := fun a b ha hb => by
    show xw a b ++ zw k = xw (a ++ zw k) (b ++ zw k)
    rw [xw_app (by rw [ha, hb]), xw_self (zw_length k)]
theorem lin_right (n k : Nat) : Lin k (n + k) (zw n ++ ·) where
  len := fun w h => by rw [List.length_append, h, zw_length]
  add := fun a b ha hb => by
    show zw n ++ xw a b = xw (zw n ++ a) (zw n ++ b)
    rw [xw_app rfl, xw_self (zw_length n)]
theorem lin_twice (n : Nat) : Lin n (n + n) (fun w => w ++ w) where
  len := fun w h => by rw [List.length_append, h]
  add := fun a b ha hb => (xw_app (by rw [ha, hb])).symm
/-- lists of a word of each -/
def pairsW (h : Word → Word → Word) (A B : List Word) : List Word := A.flatMap fun a => B.map fun b => h a b
theorem mem_pairs {h : Word → Word → Word} {A B : List Word} {w : Word} : w ∈ pairsW h A B ↔ ∃ a ∈ A, ∃ b ∈ B, w = h a b := by
  unfold pairsW
  rw [List.mem_flatMap]
  refine ⟨fun ⟨a, ha, hw⟩ => ?_, fun ⟨a, ha, b, hb, e⟩ => ⟨a, ha, List.mem_map.mpr ⟨b, hb, e.symm⟩⟩⟩
  obtain ⟨b, hb, e⟩ := List.mem_map.mp hw
  exact ⟨a, ha, b, hb, e.symm⟩
theorem nd_pairs {h : Word → Word → Word} {A B : List Word} (hA : A.Nodup) (hB : B.Nodup) (inj : ∀ a ∈ A, ∀ b ∈ B, ∀ c ∈ A, ∀ d ∈ B, h a b = h c d → a = c ∧ b = d) : (pairsW h A B).Nodup := by
  unfold pairsW List.Nodup
  rw [List.pairwise_flatMap]
  refine ⟨fun a ha => ?_, ?_⟩
  · rw [List.pairwise_map]
    exact List.Pairwise.imp_of_mem (fun {c d} hc hd ne e => ne (inj a ha c hc a ha d hd e).2) hB
  · refine List.Pairwise.imp_of_mem (fun {a c} ha hc ne x hx y hy e => ?_) hA
    obtain ⟨b, hb, rfl⟩ := List.mem_map.mp hx
    obtain ⟨d, hd, rfl⟩ := List.mem_map.mp hy
    exact ne (inj a ha b hb c hc d hd e).1
/-! ### least weights -/
theorem wt_app (a b : Word) : wt (a ++ b) = wt a + wt b := List.count_append
theorem wt_zw (n : Nat) : wt (zw n) = 0 := by
  unfold wt zw
  exact List.count_eq_zero.mpr (not_mem_zw n)
theorem wt_pos {w : Word} : 0 < wt w ↔ true ∈ w := List.count_pos_iff
theorem wt_tri : ∀ (a b : Word), a.length = b.length → wt b ≤ wt a + wt (xw a b)
  | [], [], _ => Nat.zero_le _
  | x :: a, y :: b, h => by
    have ih := wt_tri a b (by simpa using h)
    show wt (y :: b) ≤ wt (x :: a) + wt ((x != y) :: xw a b)
    rw [wt_cons, wt_cons, wt_cons]
    cases x <;> cases y <;> simp <;> omega
/-- m is the least weight but 0 of the words of C -/
def Least (C : List Word) (m : Nat) : Prop := (∃ w ∈ C, true ∈ w ∧ wt w = m) ∧ ∀ w ∈ C, true ∈ w → m ≤ wt w
def Noughts (C : List Word) : Prop := ∀ w ∈ C, true ∉ w
theorem least_or (C : List Word) : Noughts C ∨ ∃ m, Least C m := by
  induction C with
  | nil => exact .inl fun w h => nomatch h
  | cons c C ih =>
    by_cases hc : true ∈ c
    · rcases ih with h | ⟨m, ⟨w, hw, hw1, hw2⟩, h2⟩
      · refine .inr ⟨wt c, ⟨c, List.mem_cons_self, hc, rfl⟩, fun w hw ht => ?_⟩
        rcases List.mem_cons.mp hw with rfl | hw
        · exact Nat.le_refl _
        · exact absurd ht (h w hw)
      · by_cases hm : wt c ≤ m
        · refine .inr ⟨wt c, ⟨c, List.mem_cons_self, hc, rfl⟩, fun v hv ht => ?_⟩
          rcases List.mem_cons.mp hv with rfl | hv
          · exact Nat.le_refl _
          · exact Nat.le_trans hm (h2 v hv ht)
        · refine .inr ⟨m, ⟨w, List.mem_cons_of_mem _ hw, hw1, hw2⟩, fun v hv ht => ?_⟩
          rcases List.mem_cons.mp hv with rfl | hv
          · omega
          · exact h2 v hv ht
    · rcases ih with h | ⟨m, ⟨w, hw, hw1, hw2⟩, h2⟩
      · refine .inl fun w hw => ?_
        rcases List.mem_cons.mp hw with rfl | hw
        · exact hc
        · exact h w hw
      · refine .inr ⟨m, ⟨w, List.mem_cons_of_mem _ hw, hw1, hw2⟩, fun v hv ht => ?_⟩
        rcases List.mem_cons.mp hv with rfl | hv
        · exact absurd ht hc
        · exact h2 v hv ht
theorem least_one {C : List Word} {m k : Nat} (h : Least C m) (h' : Least C k) : m = k := by
  obtain ⟨⟨w, hw, h1, h2⟩, h3⟩ := h
  obtain ⟨⟨v, hv, g1, g2⟩, g3⟩ := h'
  have := h3 v hv g1
  have := g3 w hw h1
  omega
theorem least_same {C D : List Word} (e : ∀ w, w ∈ C ↔ w ∈ D) {m : Nat} (h : Least C m) : Least D m :=
  ⟨let ⟨w, h1, h2⟩ := h.1; ⟨w, (e w).mp h1, h2⟩, fun w hw => h.2 w ((e w).mpr hw)⟩
/-- a word of the one and its sum with one of the other -/
theorem least_doubled {n : Nat} {A B D : List Word} (hA : IsCode n A) (hB : IsCode n B) (mD : ∀ w, w ∈ D ↔ ∃ a ∈ A, ∃ b ∈ B, w = a ++ xw a b) :
    (Noughts A → Noughts B → Noughts D) ∧ (∀ m, Noughts A → Least B m → Least D m) ∧ (∀ m, Least A m → Noughts B → Least D (2 * m)) ∧ (∀ m k, Least A m → Least B k → Least D (min (2 * m) k)) := by
  have z : ∀ {C : List Word}, IsCode n C → Noughts C → ∀ w ∈ C, w = zw n := fun hC h w hw => zw_of (hC.len w hw) (h w hw)
  have tru : ∀ {u v : Word}, true ∈ u ++ v ↔ true ∈ u ∨ true ∈ v := List.mem_append
  have inA : ∀ a ∈ A, a ++ a ∈ D := fun a ha => (mD _).mpr ⟨a, ha, zw n, hB.zero, by rw [xw_zw (hA.len a ha)]⟩
  have inB : ∀ b ∈ B, zw n ++ b ∈ D := fun b hb => (mD _).mpr ⟨zw n, hA.zero, b, hb, by rw [zw_xw (hB.len b hb)]⟩
  refine ⟨fun h1 h2 w hw => ?_, fun m h1 h2 => ?_, fun m h1 h2 => ?_, fun m k h1 h2 => ?_⟩
  · obtain ⟨a, ha, b, hb, rfl⟩ := (mD w).mp hw
    rw [z hA h1 a ha, z hB h2 b hb, xw_self (zw_length n)]
    intro h
    rcases tru.mp h with h | h <;> exact not_mem_zw n h
  · obtain ⟨⟨b, hb, g1, g2⟩, g3⟩ := h2
    refine ⟨⟨zw n ++ b, inB b hb, tru.mpr (.inr g1), by rw [wt_app, wt_zw, Nat.zero_add, g2]⟩, fun w hw ht => ?_⟩
    obtain ⟨a, ha, c, hc, rfl⟩ := (mD w).mp hw
    rw [z hA h1 a ha, zw_xw (hB.len c hc)] at ht ⊢
    rw [wt_app, wt_zw, Nat.zero_add]
    rcases tru.mp ht with h | h
    · exact absurd h (not_mem_zw n)
    · exact g3 c hc h
  · obtain ⟨⟨a, ha, g1, g2⟩, g3⟩ := h1
    refine ⟨⟨a ++ a, inA a ha, tru.mpr (.inl g1), by rw [wt_app, g2]; omega⟩, fun w hw ht => ?_⟩
    obtain ⟨c, hc, b, hb, rfl⟩ := (mD w).mp hw
    rw [z hB h2 b hb, xw_zw (hA.len c hc)] at ht ⊢
    rw [wt_app]
    have hc' : true ∈ c := by rcases tru.mp ht with h | h <;> exact h
    have := g3 c hc hc'
    omega
  · obtain ⟨⟨a, ha, g1, g2⟩, g3⟩ := h1
    obtain ⟨⟨b, hb, f1, f2⟩, f3⟩ := h2
    refine ⟨?_, fun w hw ht => ?_⟩
    · by_cases h : 2 * m ≤ k
      · exact ⟨a ++ a, inA a ha, tru.mpr (.inl g1), by rw [wt_app, g2, Nat.min_eq_left h]; omega⟩
      · exact ⟨zw n ++ b, inB b hb, tru.mpr (.inr f1), by rw [wt_app, wt_zw, f2, Nat.min_eq_right (by omega)]; omega⟩
    · obtain ⟨c, hc, d, hd, rfl⟩ := (mD w).mp hw
      have lc := hA.len c hc
      have ld := hB.len d hd
      rw [wt_app]
      by_cases hdt : true ∈ d
      · have h1 := f3 d hd hdt
        have h2 := wt_tri c d (by rw [lc, ld])
        have := Nat.min_le_right (2 * m) k
        omega
      · have e := zw_of ld hdt
        rw [e, xw_zw lc] at ht ⊢
        have hct : true ∈ c := by rcases tru.mp ht with h | h <;> exact h
        have h1 := g3 c hc hct
        have := Nat.min_le_left (2 * m) k
        omega
end L2.PD

set_option Elab.async false
set_option linter.all false
set_option autoImplicit false
/-! WM7: messages: the sum of the rows at a word's ones. -/
namespace L2.PD
def combStep (f : Word) (p : Bool × Word) : Word := if p.1 = true then xw f p.2 else f
def comb (n : Nat) (msg : Word) (rows : List Word) : Word := (msg.zip rows).foldl combStep (zw n)
section
variable {n : Nat} {C R : List Word}
theorem comb_keep {j : Nat} : ∀ (l : List (Bool × Word)) (f : Word), f.length = n → (∀ p ∈ l, p.2.length = n ∧ bit p.2 j = false) → (l.foldl combStep f).length = n ∧ bit (l.foldl combStep f) j = bit f j
  | [], f, h, _ => ⟨h, rfl⟩
  | p :: l, f, h, hl => by
    obtain ⟨h1, h2⟩ := hl p List.mem_cons_self
    have hf : (combStep f p).length = n ∧ bit (combStep f p) j = bit f j := by
      unfold combStep
      split
      · exact ⟨xw_len h h1, by rw [bit_xw' h h1, h2]; simp⟩
      · exact ⟨h, rfl⟩
    obtain ⟨a, b⟩ := comb_keep l (combStep f p) hf.1 fun q hq => hl q (List.mem_cons_of_mem _ hq)
    exact ⟨a, b.trans hf.2⟩
theorem comb_bits : ∀ (rows : List Word) (msg f : Word), msg.length = rows.length → f.length = n → (∀ r ∈ rows, r.length = n ∧ true ∈ r) → rows.Pairwise (fun r r' => bit r' (hd r) = false ∧ bit r (hd r') = false) → (∀ r ∈ rows, bit f (hd r) = false) →
    rows.map (fun r => bit ((msg.zip rows).foldl combStep f) (hd r)) = msg
  | [], [], _, _, _, _, _, _ => rfl
  | [], _ :: _, _, h, _, _, _, _ => by simp at h
  | _ :: _, [], _, h, _, _, _, _ => by simp at h
  | r :: rows, b :: msg, f, hl, hf, hr, hp, hz => by
    rw [List.zip_cons_cons, List.foldl_cons, List.map_cons]
    obtain ⟨p1, p2⟩ := List.pairwise_cons.mp hp
    obtain ⟨r1, r2⟩ := hr r List.mem_cons_self
    have hlen : (combStep f (b, r)).length = n := by
      unfold combStep
      split
      · exact xw_len hf r1
      · exact hf
    have hbit : ∀ j, bit (combStep f (b, r)) j = (bit f j != (b && bit r j)) := fun j => by
      unfold combStep
      cases b with
      | true => rw [if_pos rfl, bit_xw' hf r1, Bool.true_and]
      | false => rw [if_neg Bool.false_ne_true, Bool.false_and]; simp
    have rest : ∀ q ∈ msg.zip rows, q.2.length = n ∧ bit q.2 (hd r) = false := fun q hq => by
      have hm := (List.of_mem_zip hq).2
      exact ⟨(hr q.2 (List.mem_cons_of_mem _ hm)).1, (p1 q.2 hm).1⟩
    congr 1
    · rw [(comb_keep _ _ hlen rest).2, hbit, hz r List.mem_cons_self, (hd_spec r2).2.1]
      cases b <;> rfl
    · refine comb_bits rows msg _ (by simpa using hl) hlen (fun q hq => hr q (List.mem_cons_of_mem _ hq)) p2 fun q hq => ?_
      rw [hbit, hz q (List.mem_cons_of_mem _ hq), (p1 q hq).2]
      cases b <;> rfl
theorem comb_len (hC : IsCode n C) (h : Desk n C R) (msg : Word) : (comb n msg R).length = n := by
  have : ∀ (l : List (Bool × Word)) (f : Word), f.length = n → (∀ p ∈ l, p.2.length = n) → (l.foldl combStep f).length = n := by
    intro l
    induction l with
    | nil => exact fun f hf _ => hf
    | cons p l ih =>
      intro f hf hl
      refine ih _ ?_ fun q hq => hl q (List.mem_cons_of_mem _ hq)
      unfold combStep
      split
      · exact xw_len hf (hl p List.mem_cons_self)
      · exact hf
  exact this _ _ (zw_length n) fun p hp => h.len hC p.2 (List.of_mem_zip hp).2
theorem comb_in (hC : IsCode n C) (h : Desk n C R) (msg : Word) : comb n msg R ∈ C := by
  have : ∀ (l : List (Bool × Word)) (f : Word), f ∈ C → (∀ p ∈ l, p.2 ∈ C) → l.foldl combStep f ∈ C := by
    intro l
    induction l with
    | nil => exact fun f hf _ => hf
    | cons p l ih =>
      intro f hf hl
      refine ih _ ?_ fun q hq => hl q (List.mem_cons_of_mem _ hq)
      unfold combStep
      split
      · exact hC.add f hf p.2 (hl p List.mem_cons_self)
      · exact hf
  exact this _ _ hC.zero fun p hp => (h.mem p.2 (List.of_mem_zip hp).2).1
theorem comb_heads (hC : IsCode n C) (h : Desk n C R) {msg : Word} (hm : msg.length = R.length) : R.map (fun r => bit (comb n msg R) (hd r)) = msg :=
  comb_bits R msg _ hm (zw_length n) (fun r hr => ⟨h.len hC r hr, (h.mem r hr).2⟩) h.pw fun r _ => bit_zw n _
/-- a word of the code is its own message's -/
theorem comb_back (hC : IsCode n C) (h : Desk n C R) {w : Word} (hw : w ∈ C) : comb n (R.map fun r => bit w (hd r)) R = w := by
  have hl : (R.map fun r => bit w (hd r)).length = R.length := List.length_map ..
  have e := comb_heads hC h hl
  have hc := comb_in hC h (R.map fun r => bit w (hd r))
  generalize comb n (R.map fun r => bit w (hd r)) R = c at e hc
  have key : xw c w = zw n := h.full _ (hC.add c hc w hw) fun r hr => by
    rw [bit_xw' (hC.len c hc) (hC.len w hw)]
    have := List.map_inj_left.mp e r hr
    rw [this]
    cases bit w (hd r) <;> rfl
  exact xw_eq_zw (hC.len c hc) (hC.len w hw) key
end
end L2.PD

set_option Elab.async false
set_option linter.all false
set_option autoImplicit false
set_option maxRecDepth 100000
/-! L06: messages come back. -/
namespace L2.PD
open PySem PySem.Spec PyProof.Rows L2
theorem zip_msg (msg : Word) (rows : List Word) : zipBD [dW msg, .tuple (dWs rows)] = .ok ((msg.zip rows).map fun p => (dB p.1, dW p.2)) := by
  show R.ok ((msg.map dB).zip (rows.map dW)) = _
  rw [List.zip_map]
  rfl
theorem eq_one (b : Bool) : eqD (dB b) (.int 1) = .ok (.bool b) := by cases b <;> rfl
theorem t_putM {n : Nat} {C R : List Word} (hC : IsCode n C) (hD : Desk n C R) (hn : n ≤ 1000) (msg : Word) : m_put [dDesk n R, dW msg] = .ok (dW (comb n msg R)) := by
  unfold m_put b_put
  rw [run2]
  simp [t_none n hn, zip_msg]
  rw [bassoc]
  refine bind_loop (mk := fun (f : Word) (j : Option Ent × Option Ent) => [some (.fz (dDesk n R)), some (.fz (dW msg)), some (.fz (dW f)), j.1, j.2]) (e := fun p : Bool × Word => (dB p.1, dW p.2)) combStep (fun f => True) (msg.zip R) (zw n) (none, none) trivial (fun p hp f j _ => ⟨trivial, (some (.fz (dB p.1)), some (.fz (dW p.2))), ?_⟩) fun j _ => ?_
  · unfold combStep
    cases p.1 <;> simp [eq_one, t_plus]
  · simp [comb]
theorem t_told_ok {n : Nat} {C R : List Word} (hC : IsCode n C) (hD : Desk n C R) (hn : n ≤ 1000) {w : Word} (hw : w ∈ C) : m_told_back_k06 [dDesk n R, dW w] = .ok (dW (R.map fun r => bit w (hd r))) := by
  obtain ⟨b, hb, hb'⟩ := t_has hC hD hn (dW w) (nd_dW w)
  have e : b = true := hb'.mpr ⟨w, hw, rfl⟩
  subst e
  unfold m_told_back_k06 b_told_back_k06
  rw [run2]
  simp [hb, t_heads fun r hr => (nz_rows hC hD r hr).2]
  rw [lcGo_am (fun r : Word => PyData.int (hd r)) (fun r => dB (bit w (hd r))) R fun r hr => by
    have := hd_lt hC hD hr
    simp [ix_dW (show hd r < w.length by rw [hC.len w hw]; exact this)]]
  simp [dW]
theorem t_told_no {n : Nat} {C R : List Word} (hC : IsCode n C) (hD : Desk n C R) (hn : n ≤ 1000) {d : PyData} (hd : noDictAll d = true) (h : ∀ w ∈ C, d ≠ dW w) : m_told_back_k06 [dDesk n R, d] = .ex ⟨"NotIn", none⟩ := by
  obtain ⟨b, hb, hb'⟩ := t_has hC hD hn d hd
  have e : b = false := by
    cases b with
    | false => rfl
    | true =>
      obtain ⟨w, h1, h2⟩ := hb'.mp rfl
      exact absurd h2 (h w h1)
  subst e
  unfold m_told_back_k06 b_told_back_k06
  rw [run2]
  simp [hb]
theorem t_ref06 {x d : PyData} (h : m_told_back_k06 [x, d] = .ex ⟨"NotIn", none⟩) : m_law_refused_k06 [x, d] = .ok (.bool true) ∧ m_law_by_base_k06 [x, d] = .ok (.bool true) := by
  have hm := memL (L := ["ParityError", "NotIn"]) (x := "NotIn") (List.Mem.tail _ (List.Mem.head _))
  refine ⟨?_, ?_⟩
  · unfold m_law_refused_k06 b_law_refused_k06
    rw [run2]
    simp [h, hm, subX_self]
  · unfold m_law_by_base_k06 b_law_by_base_k06
    rw [run2]
    simp [h, hm, subX_top]
theorem law_k06 (ns : List Int) (hn : ns.length ≤ 63) : m_law_k06 [scrD ns] = .ok (.bool true) := by
  obtain ⟨n, S, _, h1, h8, _, hC, e⟩ := t_law_desk ns 3 hn
  have hD := rows_desk hC
  generalize rowsL n S = R at hD e
  have n1000 : n ≤ 1000 := by omega
  have hr := hD.len hC
  have zR := rows_le hC hD
  have ec0 := t_law_cell ns 0 hn
  have ec1 := t_law_cell ns 1 hn
  have ec2 := t_law_cell ns 2 hn
  simp only [show ((0 : Nat) : Int) = 0 from rfl, show ((1 : Nat) : Int) = 1 from rfl, show ((2 : Nat) : Int) = 2 from rfl, show ((3 : Nat) : Int) = 3 from rfl] at ec0 ec1 ec2 e
  have wm := t_law_word (cell ns 0) R.length (by omega)
  have lm : (wordL (cell ns 0) R.length).length = R.length := wordL_length _ _
  generalize wordL (cell ns 0) R.length = msg at wm lm
  have ww := t_law_word (cell ns 1) n n1000
  have lw : (wordL (cell ns 1) n).length = n := wordL_length _ _
  generalize wordL (cell ns 1) n = w at ww lw
  have sp := t_law_spread (x := .tuple (dWs R)) (ws := R) h1 n1000 (e_seqT) hr (by omega)
  have tp := t_putM hC hD n1000
  have cin := comb_in hC hD msg
  have tb := t_told_ok hC hD n1000 cin
  rw [comb_heads hC hD lm] at tb
  have lenR : lenD (.tuple (dWs R)) = .ok (.int (R.length : Nat)) := by
    show PD.R.ok _ = _
    rw [dWs_len]
  unfold m_law_k06 b_law_k06
  rw [run1]
  have hp : pairOf (dDesk n R) = .ok (.int n, .tuple (dWs R)) := rfl
  have l1 : decide (1 ≤ LIM) = true := limT (by omega)
  have l5 : decide (5 ≤ LIM) = true := limT (by omega)
  have hm5 : decide ((0 : Int) < 5) = true := rfl
  simp [e, hp, ec0, lenR, wm, t_zeros n n1000, zip_msg, l1]
  rw [bassoc]
  refine bind_loop (mk := fun (f : Word) (j : Option Ent × Option Ent) => [some (.fz (scrD ns)), some (.fz (dDesk n R)), some (.fz (.int n)), some (.fz (.tuple (dWs R))), some (.fz (dW msg)), some (.fz (dW f)), j.1, j.2, none, none, none, none]) (e := fun p : Bool × Word => (dB p.1, dW p.2)) combStep (fun f => True) (msg.zip R) (zw n) (none, none) trivial (fun p hp f j _ => ⟨trivial, (some (.fz (dB p.1)), some (.fz (dW p.2))), ?_⟩) fun j _ => ?_
  · unfold combStep
    cases p.1 <;> simp [eq_one, t_law_sum]
  · have ecb : (msg.zip R).foldl combStep (zw n) = comb n msg R := rfl
    rw [ecb]
    have lc := hC.len _ cin
    have hh : (R.map fun r => dB (bit (comb n msg R) (hd r))) = msg.map dB := by
      have := congrArg (List.map dB) (comb_heads hC hD lm)
      rw [List.map_map] at this
      exact this
    have lml : listD (dW msg) = .ok (.list (msg.map dB)) := rfl
    have okm : OkD 1 (.list (msg.map dB)) := OkD.list (k := 0) fun d hd => by
      obtain ⟨b, _, rfl⟩ := List.mem_map.mp hd
      exact ok_dB b
    simp [tp, isi_tup_dW, ne_self (ok_dW _)]
    rw [lcGo_ws (fun r => dB (bit (comb n msg R) (hd r))) R fun r hr => by
      have := hd_lt hC hD hr
      simp [index_dW (nz_rows hC hD r hr).2, ix_dW (show hd r < (comb n msg R).length by omega)]]
    rw [hh]
    simp [lml, ne_self okm, tb, isi_tup_dW, ne_self (ok_dW _), ec1, ww, sp]
    by_cases hw : w ∈ sortA (spr n R)
    · have hwS := (hD.spr hC w).mp ((sortA_perm _).mem_iff.mp hw)
      have cb := comb_back hC hD hwS
      simp [inD, has_ws, hw, t_told_ok hC hD n1000 hwS, tp, cb, eq_self' (ok_dW _)]
    · have notS : ∀ v ∈ S, dW w ≠ dW v := fun v hv ev => by
        have := eqv_dW w v
        rw [ev, eqv_dW, beq_self_eq_true] at this
        rw [(beq_iff_eq (a := w) (b := v)).mp this.symm] at hw
        exact hw ((sortA_perm _).mem_iff.mpr ((hD.spr hC v).mpr hv))
      obtain ⟨r1, r2⟩ := t_ref06 (t_told_no hC hD n1000 (nd_dW w) notS)
      have bad : ∀ d, Bad n d → m_law_refused_k06 [dDesk n R, d] = .ok (.bool true) := fun d hd => (t_ref06 (t_told_no hC hD n1000 hd.1 fun v hv ev => by
        have z := hd.2
        rw [ev, isWord_dW, hC.len v hv, beq_self_eq_true] at z
        cases z)).1
      have a0 : addD (dW (comb n msg R)) (.tuple [.int 0]) = .ok (dW (comb n msg R ++ [false])) := by
        show guard _ _ = _
        rw [guard_t (limT (by rw [List.length_map, List.length_singleton]; omega))]
        unfold dW
        rw [List.map_append]
        rfl
      have m2 : mulD (.tuple [.int 2]) (.int n) = .ok (.tuple (List.replicate n (.int 2))) := by
        show guard _ _ = _
        rw [guard_t (decide_eq_true (by refine ⟨by omega, by omega, by decide⟩)), Int.toNat_natCast, flat_rep1]
      have lcl : listD (dW (comb n msg R)) = .ok (.list ((comb n msg R).map dB)) := rfl
      have b2 : Bad n (.tuple (List.replicate n (.int 2))) := by
        obtain ⟨k, rfl⟩ : ∃ k, n = k + 1 := ⟨n - 1, by omega⟩
        have := bad_put (n := k + 1) [] [] (x := .int 2) rfl rfl
        refine ⟨?_, ?_⟩
        · show (List.replicate (k + 1) (PyData.int 2)).all noDict = true
          rw [List.all_eq_true]
          intro x hx
          rw [(List.mem_replicate.mp hx).2]
          rfl
        · show (_ && (List.replicate (k + 1) (PyData.int 2)).all fun y => withinB y 0 1) = false
          rw [List.replicate_succ, List.all_cons]
          show (_ && (false && _)) = false
          rw [Bool.false_and, Bool.and_false]
      obtain ⟨d, hd, hb⟩ := pick (P := Bad n) [.none, .list ((comb n msg R).map dB), dW (comb n msg R ++ [false]), .tuple (List.replicate n (.int 2)), .str "0"] (cell ns 2) 5 rfl (by decide) (by
        simp only [List.forall_mem_cons, List.not_mem_nil, false_implies, implies_true, and_true]
        exact ⟨⟨rfl, rfl⟩, ⟨rfl, rfl⟩, bad_w (by simp [lc]), b2, ⟨rfl, rfl⟩⟩)
      simp [inD, has_ws, hw, lcl, a0, m2, l1, l5, ec2, hm5, hd, r1, r2, bad d hb]
end L2.PD

set_option Elab.async false
set_option linter.all false
set_option autoImplicit false
set_option maxRecDepth 100000
set_option maxHeartbeats 0
namespace L2.PD.W
open PySem PySem.Spec PyProof.Rows L2 L2.PD
def topS (i : Nat) : Stmt := PySem.Challenge.pw_paritydesk_k06_whole_messages_come_back.main.body.getD i (.Pass ⟨0, 0, 0, 0⟩)
section
variable {P : Program} {w : World} {K : PySem.W.Frag} {mg : Str → Option Value} {base : Heap}
abbrev s_is_within : Stmt := topS 4
abbrev N_is_within : List Str := ["thing", "low", "high"]
theorem sc_is_within : FnScope N_is_within ["thing", "low", "high"] (defScope s_is_within) := ⟨rfl, rfl, rfl, by decide +kernel, rfl, by decide +kernel, by decide +kernel⟩
theorem body_is_within (Z : Zs mg)   (f : Addr) (cdv : Value) (A : Around) (outer : List Env) (s : Shared) (H : Hp) (E0 : XK) (hr : Room 0 (A.deeper (envOfC "is_within" (defScope s_is_within) s.heap.objs.size f cdv))) (E : XK) : PSs (cxOf CX0 P w K mg base N_is_within "is_within" (defScope s_is_within) f cdv A outer s H E0).nox (defBody s_is_within) (tS K mg E b_is_within) :=
  (dss_one (ds_ret (de_and (de_isi isi_int (by rfl) Z.isinstance (by rfl) Z.int (by decide +kernel) (de_name 0)) (de_and (de_not (de_isi isi_bool (by rfl) Z.isinstance (by rfl) Z.bool (by decide +kernel) (de_name 0))) (de_one (de_chain ne_le ne_le do_le do_le (de_name 1) (de_name 0) (de_name 2)))))))
theorem ok_is_within (Z : Zs mg) (D : DefF K mg "is_within" s_is_within)   : FnD P w K mg base CX0 1 "is_within" m_is_within := fn_pure D sc_is_within (fun _ _ _ _ _ _ us hl => match us, hl with | [_, _, _], _ => rfl) (body_is_within Z )
abbrev s_is_word : Stmt := topS 5
abbrev N_is_word : List Str := ["thing", "size", "bit"]
theorem sc_is_word : FnScope N_is_word ["thing", "size"] (defScope s_is_word) := ⟨rfl, rfl, rfl, by decide +kernel, rfl, by decide +kernel, by decide +kernel⟩
theorem body_is_word (Z : Zs mg)  (F_is_within : FnD P w K mg base CX0 1 "is_within" m_is_within) (f : Addr) (cdv : Value) (A : Around) (outer : List Env) (s : Shared) (H : Hp) (E0 : XK) (hr : Room 1 (A.deeper (envOfC "is_word" (defScope s_is_word) s.heap.objs.size f cdv))) (E : XK) : PSs (cxOf CX0 P w K mg base N_is_word "is_word" (defScope s_is_word) f cdv A outer s H E0).nox (defBody s_is_word) (tS K mg E b_is_word) :=
  (dss_cons (ds_if (PW.pt (dw_or (dt_not (dt_truth (de_isi isi_tuple (by rfl) Z.isinstance (by rfl) Z.tuple (by decide +kernel) (de_name 0)))) (dw_or1 (dt_cmp ne_ne (do_ne hr.units) (de_callB (ne_one ne_len) dc_len (by rfl) Z.len PySem.boot_len (da_cons (de_name 0) da_nil)) (de_name 1))))) (dss_one (ds_ret de_bl)) dss_nil) (dss_cons (ds_for PassesOwn.never rfl (di_seq 2 (de_name 0)) (pg_name (i := 2) sc_is_word.nd rfl (.inl rfl)) (dss_one (ds_if (dt_not (dt_truth (de_call (F_is_within.mono (by decide)) hr passAny (by rfl) (da_cons (de_name 2) (da_cons de_int (da_cons de_int da_nil)))))) (dss_one (ds_ret de_bl)) dss_nil))) (dss_one (ds_ret de_bl))))
theorem ok_is_word (Z : Zs mg) (D : DefF K mg "is_word" s_is_word)  (F_is_within : FnD P w K mg base CX0 1 "is_within" m_is_within) : FnD P w K mg base CX0 2 "is_word" m_is_word := fn_pure D sc_is_word (fun _ _ _ _ _ _ us hl => match us, hl with | [_, _], _ => rfl) (body_is_word Z F_is_within)
abbrev s_plus : Stmt := topS 6
abbrev N_plus : List Str := ["one", "other", "a", "b"]
theorem sc_plus : FnScope N_plus ["one", "other"] (defScope s_plus) := ⟨rfl, rfl, rfl, by decide +kernel, rfl, by decide +kernel, by decide +kernel⟩
theorem body_plus (Z : Zs mg)   (f : Addr) (cdv : Value) (A : Around) (outer : List Env) (s : Shared) (H : Hp) (E0 : XK) (hr : Room 0 (A.deeper (envOfC "plus" (defScope s_plus) s.heap.objs.size f cdv))) (E : XK) : PSs (cxOf CX0 P w K mg base N_plus "plus" (defScope s_plus) f cdv A outer s H E0).nox (defBody s_plus) (tS K mg E b_plus) :=
  (dss_one (ds_ret (de_callTy (ne_one ne_tuple) dc_tuple (by rfl) Z.tuple (by decide +kernel) (da_cons (pe_tF (de_lc (own := [("a", 2), ("b", 3)]) rfl sc_plus.nd (fun _ h => h) (wst_2 2 3) (di_zipB 2 3 (by rfl) Z.zip (da_cons (de_name 0) (da_cons (de_name 1) da_nil))) (blkOk_by (N := N_plus) (sc := defScope s_plus) (by decide +kernel)) (fun _ _ _ _ _ => pg_tup rfl (pgs_cons (pg_name (i := 2) sc_plus.nd rfl (.inl rfl)) (pgs_cons (pg_name (i := 3) sc_plus.nd rfl (.inl rfl)) pgs_nil))) (fun _ _ _ _ _ => dts_nil) (fun _ _ _ _ _ => (de_callTy (ne_one ne_int) dc_int (by rfl) Z.int (by decide +kernel) (da_cons (de_cmp ne_ne (do_ne hr.units) (de_name 2) (de_name 3)) da_nil))))) da_nil))))
theorem ok_plus (Z : Zs mg) (D : DefF K mg "plus" s_plus)   : FnD P w K mg base CX0 1 "plus" m_plus := fn_pure D sc_plus (fun _ _ _ _ _ _ us hl => match us, hl with | [_, _], _ => rfl) (body_plus Z )
abbrev s_none : Stmt := topS 7
abbrev N_none : List Str := ["size"]
theorem sc_none : FnScope N_none ["size"] (defScope s_none) := ⟨rfl, rfl, rfl, by decide +kernel, rfl, by decide +kernel, by decide +kernel⟩
theorem body_none (Z : Zs mg)   (f : Addr) (cdv : Value) (A : Around) (outer : List Env) (s : Shared) (H : Hp) (E0 : XK) (hr : Room 0 (A.deeper (envOfC "none" (defScope s_none) s.heap.objs.size f cdv))) (E : XK) : PSs (cxOf CX0 P w K mg base N_none "none" (defScope s_none) f cdv A outer s H E0).nox (defBody s_none) (tS K mg E b_none) :=
  (dss_one (ds_ret (de_op ne_mul do_mul (de_tup (da_cons de_int da_nil)) (de_name 0))))
theorem ok_none (Z : Zs mg) (D : DefF K mg "none" s_none)   : FnD P w K mg base CX0 1 "none" m_none := fn_pure D sc_none (fun _ _ _ _ _ _ us hl => match us, hl with | [_], _ => rfl) (body_none Z )
abbrev s_head_of : Stmt := topS 9
abbrev N_head_of : List Str := ["word"]
theorem sc_head_of : FnScope N_head_of ["word"] (defScope s_head_of) := ⟨rfl, rfl, rfl, by decide +kernel, rfl, by decide +kernel, by decide +kernel⟩
theorem body_head_of (Z : Zs mg)   (f : Addr) (cdv : Value) (A : Around) (outer : List Env) (s : Shared) (H : Hp) (E0 : XK) (hr : Room 0 (A.deeper (envOfC "head_of" (defScope s_head_of) s.heap.objs.size f cdv))) (E : XK) : PSs (cxOf CX0 P w K mg base N_head_of "head_of" (defScope s_head_of) f cdv A outer s H E0).nox (defBody s_head_of) (tS K mg E b_head_of) :=
  (dss_one (ds_ret (de_index (de_name 0) de_int)))
theorem ok_head_of (Z : Zs mg) (D : DefF K mg "head_of" s_head_of)   : FnD P w K mg base CX0 1 "head_of" m_head_of := fn_pure D sc_head_of (fun _ _ _ _ _ _ us hl => match us, hl with | [_], _ => rfl) (body_head_of Z )
abbrev s_less_rows : Stmt := topS 10
abbrev N_less_rows : List Str := ["word", "rows", "row"]
theorem sc_less_rows : FnScope N_less_rows ["word", "rows"] (defScope s_less_rows) := ⟨rfl, rfl, rfl, by decide +kernel, rfl, by decide +kernel, by decide +kernel⟩
theorem body_less_rows (Z : Zs mg)  (F_plus : FnD P w K mg base CX0 1 "plus" m_plus) (F_head_of : FnD P w K mg base CX0 1 "head_of" m_head_of) (f : Addr) (cdv : Value) (A : Around) (outer : List Env) (s : Shared) (H : Hp) (E0 : XK) (hr : Room 1 (A.deeper (envOfC "less_rows" (defScope s_less_rows) s.heap.objs.size f cdv))) (E : XK) : PSs (cxOf CX0 P w K mg base N_less_rows "less_rows" (defScope s_less_rows) f cdv A outer s H E0).nox (defBody s_less_rows) (tS K mg E b_less_rows) :=
  (dss_cons (ds_for PassesOwn.never rfl (di_seq 2 (de_name 1)) (pg_name (i := 2) sc_less_rows.nd rfl (.inl rfl)) (dss_one (ds_if (dt_cmp ne_eq (do_eq hr.units) (de_ix (de_name 0) (de_call (F_head_of.mono (by decide)) hr passAny (by rfl) (da_cons (de_name 2) da_nil))) de_int) (dss_one (ds_set (i := 0) sc_less_rows.nd rfl (.inl rfl) (de_call (F_plus.mono (by decide)) hr passAny (by rfl) (da_cons (de_name 0) (da_cons (de_name 2) da_nil))))) dss_nil))) (dss_one (ds_ret (de_name 0))))
theorem ok_less_rows (Z : Zs mg) (D : DefF K mg "less_rows" s_less_rows)  (F_plus : FnD P w K mg base CX0 1 "plus" m_plus) (F_head_of : FnD P w K mg base CX0 1 "head_of" m_head_of) : FnD P w K mg base CX0 2 "less_rows" m_less_rows := fn_pure D sc_less_rows (fun _ _ _ _ _ _ us hl => match us, hl with | [_, _], _ => rfl) (body_less_rows Z F_plus F_head_of)
abbrev s_heads : Stmt := topS 11
abbrev N_heads : List Str := ["desk", "row"]
theorem sc_heads : FnScope N_heads ["desk"] (defScope s_heads) := ⟨rfl, rfl, rfl, by decide +kernel, rfl, by decide +kernel, by decide +kernel⟩
theorem body_heads (Z : Zs mg)  (F_head_of : FnD P w K mg base CX0 1 "head_of" m_head_of) (f : Addr) (cdv : Value) (A : Around) (outer : List Env) (s : Shared) (H : Hp) (E0 : XK) (hr : Room 1 (A.deeper (envOfC "heads" (defScope s_heads) s.heap.objs.size f cdv))) (E : XK) : PSs (cxOf CX0 P w K mg base N_heads "heads" (defScope s_heads) f cdv A outer s H E0).nox (defBody s_heads) (tS K mg E b_heads) :=
  (dss_one (ds_ret (pe_tF (de_lc (own := [("row", 1)]) rfl sc_heads.nd (fun _ h => h) (wst_N 1) (di_seq 1 (de_ix (de_name 0) de_int)) (blkOk_by (N := N_heads) (sc := defScope s_heads) (by decide +kernel)) (fun _ _ _ _ _ => pg_name (i := 1) sc_heads.nd rfl (.inl rfl)) (fun _ _ _ _ _ => dts_nil) (fun _ _ _ _ _ => (de_call (F_head_of.mono (by decide)) hr passAny (by rfl) (da_cons (de_name 1) da_nil)))))))
theorem ok_heads (Z : Zs mg) (D : DefF K mg "heads" s_heads)  (F_head_of : FnD P w K mg base CX0 1 "head_of" m_head_of) : FnD P w K mg base CX0 2 "heads" m_heads := fn_pure D sc_heads (fun _ _ _ _ _ _ us hl => match us, hl with | [_], _ => rfl) (body_heads Z F_head_of)
abbrev s_has : Stmt := topS 12
abbrev N_has : List Str := ["desk", "word"]
theorem sc_has : FnScope N_has ["desk", "word"] (defScope s_has) := ⟨rfl, rfl, rfl, by decide +kernel, rfl, by decide +kernel, by decide +kernel⟩
theorem body_has (Z : Zs mg)  (F_is_word : FnD P w K mg base CX0 2 "is_word" m_is_word) (F_none : FnD P w K mg base CX0 1 "none" m_none) (F_less_rows : FnD P w K mg base CX0 2 "less_rows" m_less_rows) (f : Addr) (cdv : Value) (A : Around) (outer : List Env) (s : Shared) (H : Hp) (E0 : XK) (hr : Room 2 (A.deeper (envOfC "has" (defScope s_has) s.heap.objs.size f cdv))) (E : XK) : PSs (cxOf CX0 P w K mg base N_has "has" (defScope s_has) f cdv A outer s H E0).nox (defBody s_has) (tS K mg E b_has) :=
  (dss_one (ds_ret (de_and (de_call (F_is_word.mono (by decide)) hr passAny (by rfl) (da_cons (de_name 1) (da_cons (de_ix (de_name 0) de_int) da_nil))) (de_one (de_cmp ne_eq (do_eq hr.units) (de_call (F_less_rows.mono (by decide)) hr passAny (by rfl) (da_cons (de_name 1) (da_cons (de_ix (de_name 0) de_int) da_nil))) (de_call (F_none.mono (by decide)) hr passAny (by rfl) (da_cons (de_ix (de_name 0) de_int) da_nil)))))))
theorem ok_has (Z : Zs mg) (D : DefF K mg "has" s_has)  (F_is_word : FnD P w K mg base CX0 2 "is_word" m_is_word) (F_none : FnD P w K mg base CX0 1 "none" m_none) (F_less_rows : FnD P w K mg base CX0 2 "less_rows" m_less_rows) : FnD P w K mg base CX0 3 "has" m_has := fn_pure D sc_has (fun _ _ _ _ _ _ us hl => match us, hl with | [_, _], _ => rfl) (body_has Z F_is_word F_none F_less_rows)
abbrev s_put : Stmt := topS 14
abbrev N_put : List Str := ["desk", "message", "found", "bit", "row"]
theorem sc_put : FnScope N_put ["desk", "message"] (defScope s_put) := ⟨rfl, rfl, rfl, by decide +kernel, rfl, by decide +kernel, by decide +kernel⟩
theorem body_put (Z : Zs mg)  (F_plus : FnD P w K mg base CX0 1 "plus" m_plus) (F_none : FnD P w K mg base CX0 1 "none" m_none) (f : Addr) (cdv : Value) (A : Around) (outer : List Env) (s : Shared) (H : Hp) (E0 : XK) (hr : Room 1 (A.deeper (envOfC "put" (defScope s_put) s.heap.objs.size f cdv))) (E : XK) : PSs (cxOf CX0 P w K mg base N_put "put" (defScope s_put) f cdv A outer s H E0).nox (defBody s_put) (tS K mg E b_put) :=
  (dss_cons (ds_set (i := 2) sc_put.nd rfl (.inl rfl) (de_call (F_none.mono (by decide)) hr passAny (by rfl) (da_cons (de_ix (de_name 0) de_int) da_nil))) (dss_cons (ds_for PassesOwn.never rfl (di_zipB 3 4 (by rfl) Z.zip (da_cons (de_name 1) (da_cons (de_ix (de_name 0) de_int) da_nil))) (pg_tup rfl (pgs_cons (pg_name (i := 3) sc_put.nd rfl (.inl rfl)) (pgs_cons (pg_name (i := 4) sc_put.nd rfl (.inl rfl)) pgs_nil))) (dss_one (ds_if (dt_cmp ne_eq (do_eq hr.units) (de_name 3) de_int) (dss_one (ds_set (i := 2) sc_put.nd rfl (.inl rfl) (de_call (F_plus.mono (by decide)) hr passAny (by rfl) (da_cons (de_name 2) (da_cons (de_name 4) da_nil))))) dss_nil))) (dss_one (ds_ret (de_name 2)))))
theorem ok_put (Z : Zs mg) (D : DefF K mg "put" s_put)  (F_plus : FnD P w K mg base CX0 1 "plus" m_plus) (F_none : FnD P w K mg base CX0 1 "none" m_none) : FnD P w K mg base CX0 2 "put" m_put := fn_pure D sc_put (fun _ _ _ _ _ _ us hl => match us, hl with | [_, _], _ => rfl) (body_put Z F_plus F_none)
abbrev s_told_back_k06 : Stmt := topS 15
abbrev N_told_back_k06 : List Str := ["desk", "word", "place"]
theorem sc_told_back_k06 : FnScope N_told_back_k06 ["desk", "word"] (defScope s_told_back_k06) := ⟨rfl, rfl, rfl, by decide +kernel, rfl, by decide +kernel, by decide +kernel⟩
theorem body_told_back_k06 (Z : Zs mg)  (XS : XsOk K mg ["ParityError", "NotIn"]) (F_heads : FnD P w K mg base CX0 2 "heads" m_heads) (F_has : FnD P w K mg base CX0 3 "has" m_has) (f : Addr) (cdv : Value) (A : Around) (outer : List Env) (s : Shared) (H : Hp) (E : XK) (hr : Room 3 (A.deeper (envOfC "told_back" (defScope s_told_back_k06) s.heap.objs.size f cdv))) : PSs (cxOf (L2.CX P w) P w K mg base N_told_back_k06 "told_back" (defScope s_told_back_k06) f cdv A outer s H E) (defBody s_told_back_k06) (tS K mg E b_told_back_k06) :=
  (dss_cons (ds_if (dt_not (dt_truth (de_call (F_has.mono (by decide)) hr passAny (by rfl) (da_cons (de_name 0) (da_cons (de_name 1) da_nil))))) (dss_one (ds_raise rfl (L2.takes_of rfl rfl rfl rfl) XS (List.Mem.tail _ (List.Mem.head _)) (by rfl))) dss_nil) (dss_one (ds_ret (de_callTy (ne_one ne_tuple) dc_tuple (by rfl) Z.tuple (by decide +kernel) (da_cons (pe_tF (de_lc (own := [("place", 2)]) rfl sc_told_back_k06.nd (fun _ h => h) (wst_N 2) (di_seq 2 (de_call (F_heads.mono (by decide)) hr passAny (by rfl) (da_cons (de_name 0) da_nil))) (blkOk_by (N := N_told_back_k06) (sc := defScope s_told_back_k06) (by decide +kernel)) (fun _ _ _ _ _ => pg_name (i := 2) sc_told_back_k06.nd rfl (.inl rfl)) (fun _ _ _ _ _ => dts_nil) (fun _ _ _ _ _ => (de_ix (de_name 1) (de_name 2))))) da_nil)))))
theorem ok_told_back_k06 (Z : Zs mg) (D : DefF K mg "told_back" s_told_back_k06)  (XS : XsOk K mg ["ParityError", "NotIn"]) (F_heads : FnD P w K mg base CX0 2 "heads" m_heads) (F_has : FnD P w K mg base CX0 3 "has" m_has) : FnD P w K mg base (L2.CX P w) 4 "told_back" m_told_back_k06 := fn_raise D sc_told_back_k06 (fun _ _ _ _ _ _ us hl => match us, hl with | [_, _], _ => rfl) (body_told_back_k06 Z XS F_heads F_has)
abbrev s_law_cell : Stmt := topS 17
abbrev N_law_cell : List Str := ["_law_script", "_law_k"]
theorem sc_law_cell : FnScope N_law_cell ["_law_script", "_law_k"] (defScope s_law_cell) := ⟨rfl, rfl, rfl, by decide +kernel, rfl, by decide +kernel, by decide +kernel⟩
theorem body_law_cell (Z : Zs mg)   (f : Addr) (cdv : Value) (A : Around) (outer : List Env) (s : Shared) (H : Hp) (E0 : XK) (hr : Room 0 (A.deeper (envOfC "_law_cell" (defScope s_law_cell) s.heap.objs.size f cdv))) (E : XK) : PSs (cxOf CX0 P w K mg base N_law_cell "_law_cell" (defScope s_law_cell) f cdv A outer s H E0).nox (defBody s_law_cell) (tS K mg E b_law_cell) :=
  (dss_cons (ds_if (dt_cmp ne_lt do_lt (de_name 1) (de_callB (ne_one ne_len) dc_len (by rfl) Z.len PySem.boot_len (da_cons (de_name 0) da_nil))) (dss_one (ds_ret (de_ix (de_name 0) (de_name 1)))) dss_nil) (dss_one (ds_ret de_int)))
theorem ok_law_cell (Z : Zs mg) (D : DefF K mg "_law_cell" s_law_cell)   : FnD P w K mg base CX0 1 "_law_cell" m_law_cell := fn_pure D sc_law_cell (fun _ _ _ _ _ _ us hl => match us, hl with | [_, _], _ => rfl) (body_law_cell Z )
abbrev s_law_mix : Stmt := topS 18
abbrev N_law_mix : List Str := ["_law_cell_here", "_law_prime", "_law_many"]
theorem sc_law_mix : FnScope N_law_mix ["_law_cell_here", "_law_prime", "_law_many"] (defScope s_law_mix) := ⟨rfl, rfl, rfl, by decide +kernel, rfl, by decide +kernel, by decide +kernel⟩
theorem body_law_mix (Z : Zs mg)   (f : Addr) (cdv : Value) (A : Around) (outer : List Env) (s : Shared) (H : Hp) (E0 : XK) (hr : Room 0 (A.deeper (envOfC "_law_mix" (defScope s_law_mix) s.heap.objs.size f cdv))) (E : XK) : PSs (cxOf CX0 P w K mg base N_law_mix "_law_mix" (defScope s_law_mix) f cdv A outer s H E0).nox (defBody s_law_mix) (tS K mg E b_law_mix) :=
  (dss_one (ds_ret (de_op ne_mod do_mod (de_op ne_mod do_mod (de_op ne_mul do_mul (de_name 0) de_int) (de_name 1)) (de_name 2))))
theorem ok_law_mix (Z : Zs mg) (D : DefF K mg "_law_mix" s_law_mix)   : FnD P w K mg base CX0 1 "_law_mix" m_law_mix := fn_pure D sc_law_mix (fun _ _ _ _ _ _ us hl => match us, hl with | [_, _, _], _ => rfl) (body_law_mix Z )
abbrev s_law_large : Stmt := topS 19
abbrev N_law_large : List Str := ["_law_script"]
theorem sc_law_large : FnScope N_law_large ["_law_script"] (defScope s_law_large) := ⟨rfl, rfl, rfl, by decide +kernel, rfl, by decide +kernel, by decide +kernel⟩
theorem body_law_large (Z : Zs mg)  (F__law_cell : FnD P w K mg base CX0 1 "_law_cell" m_law_cell) (F__law_mix : FnD P w K mg base CX0 1 "_law_mix" m_law_mix) (f : Addr) (cdv : Value) (A : Around) (outer : List Env) (s : Shared) (H : Hp) (E0 : XK) (hr : Room 1 (A.deeper (envOfC "_law_large" (defScope s_law_large) s.heap.objs.size f cdv))) (E : XK) : PSs (cxOf CX0 P w K mg base N_law_large "_law_large" (defScope s_law_large) f cdv A outer s H E0).nox (defBody s_law_large) (tS K mg E b_law_large) :=
  (dss_one (ds_ret (de_cmp ne_eq (do_eq hr.units) (de_call (F__law_mix.mono (by decide)) hr passAny (by rfl) (da_cons (de_op ne_add do_add (de_call (F__law_cell.mono (by decide)) hr passAny (by rfl) (da_cons (de_name 0) (da_cons de_int da_nil))) (de_op ne_mul do_mul de_int (de_callB (ne_one ne_len) dc_len (by rfl) Z.len PySem.boot_len (da_cons (de_name 0) da_nil)))) (da_cons de_int (da_cons de_int da_nil)))) de_int)))
theorem ok_law_large (Z : Zs mg) (D : DefF K mg "_law_large" s_law_large)  (F__law_cell : FnD P w K mg base CX0 1 "_law_cell" m_law_cell) (F__law_mix : FnD P w K mg base CX0 1 "_law_mix" m_law_mix) : FnD P w K mg base CX0 2 "_law_large" m_law_large := fn_pure D sc_law_large (fun _ _ _ _ _ _ us hl => match us, hl with | [_], _ => rfl) (body_law_large Z F__law_cell F__law_mix)
abbrev s_law_sum : Stmt := topS 20
abbrev N_law_sum : List Str := ["_law_one", "_law_two", "_law_a", "_law_b"]
theorem sc_law_sum : FnScope N_law_sum ["_law_one", "_law_two"] (defScope s_law_sum) := ⟨rfl, rfl, rfl, by decide +kernel, rfl, by decide +kernel, by decide +kernel⟩
theorem body_law_sum (Z : Zs mg)   (f : Addr) (cdv : Value) (A : Around) (outer : List Env) (s : Shared) (H : Hp) (E0 : XK) (hr : Room 0 (A.deeper (envOfC "_law_sum" (defScope s_law_sum) s.heap.objs.size f cdv))) (E : XK) : PSs (cxOf CX0 P w K mg base N_law_sum "_law_sum" (defScope s_law_sum) f cdv A outer s H E0).nox (defBody s_law_sum) (tS K mg E b_law_sum) :=
  (dss_one (ds_ret (de_callTy (ne_one ne_tuple) dc_tuple (by rfl) Z.tuple (by decide +kernel) (da_cons (pe_tF (de_lc (own := [("_law_a", 2), ("_law_b", 3)]) rfl sc_law_sum.nd (fun _ h => h) (wst_2 2 3) (di_zipB 2 3 (by rfl) Z.zip (da_cons (de_name 0) (da_cons (de_name 1) da_nil))) (blkOk_by (N := N_law_sum) (sc := defScope s_law_sum) (by decide +kernel)) (fun _ _ _ _ _ => pg_tup rfl (pgs_cons (pg_name (i := 2) sc_law_sum.nd rfl (.inl rfl)) (pgs_cons (pg_name (i := 3) sc_law_sum.nd rfl (.inl rfl)) pgs_nil))) (fun _ _ _ _ _ => dts_nil) (fun _ _ _ _ _ => (de_op ne_mod do_mod (de_op ne_add do_add (de_name 2) (de_name 3)) de_int)))) da_nil))))
theorem ok_law_sum (Z : Zs mg) (D : DefF K mg "_law_sum" s_law_sum)   : FnD P w K mg base CX0 1 "_law_sum" m_law_sum := fn_pure D sc_law_sum (fun _ _ _ _ _ _ us hl => match us, hl with | [_, _], _ => rfl) (body_law_sum Z )
abbrev s_law_word : Stmt := topS 21
abbrev N_law_word : List Str := ["_law_cell_here", "_law_size_here", "_law_k"]
theorem sc_law_word : FnScope N_law_word ["_law_cell_here", "_law_size_here"] (defScope s_law_word) := ⟨rfl, rfl, rfl, by decide +kernel, rfl, by decide +kernel, by decide +kernel⟩
theorem body_law_word (Z : Zs mg)  (F__law_mix : FnD P w K mg base CX0 1 "_law_mix" m_law_mix) (f : Addr) (cdv : Value) (A : Around) (outer : List Env) (s : Shared) (H : Hp) (E0 : XK) (hr : Room 1 (A.deeper (envOfC "_law_word" (defScope s_law_word) s.heap.objs.size f cdv))) (E : XK) : PSs (cxOf CX0 P w K mg base N_law_word "_law_word" (defScope s_law_word) f cdv A outer s H E0).nox (defBody s_law_word) (tS K mg E b_law_word) :=
  (dss_one (ds_ret (de_callTy (ne_one ne_tuple) dc_tuple (by rfl) Z.tuple (by decide +kernel) (da_cons (pe_tF (de_lc (own := [("_law_k", 2)]) rfl sc_law_word.nd (fun _ h => h) (wst_N 2) (di_range1 2 (by rfl) Z.range (da_cons (de_name 1) da_nil)) (blkOk_by (N := N_law_word) (sc := defScope s_law_word) (by decide +kernel)) (fun _ _ _ _ _ => pg_name (i := 2) sc_law_word.nd rfl (.inl rfl)) (fun _ _ _ _ _ => dts_nil) (fun _ _ _ _ _ => (de_call (F__law_mix.mono (by decide)) hr passAny (by rfl) (da_cons (de_op ne_add do_add (de_name 0) (de_op ne_mul do_mul (de_op ne_mul do_mul de_int (de_name 2)) (de_name 2))) (da_cons de_int (da_cons de_int da_nil))))))) da_nil))))
theorem ok_law_word (Z : Zs mg) (D : DefF K mg "_law_word" s_law_word)  (F__law_mix : FnD P w K mg base CX0 1 "_law_mix" m_law_mix) : FnD P w K mg base CX0 2 "_law_word" m_law_word := fn_pure D sc_law_word (fun _ _ _ _ _ _ us hl => match us, hl with | [_, _], _ => rfl) (body_law_word Z F__law_mix)
abbrev s_law_size : Stmt := topS 22
abbrev N_law_size : List Str := ["_law_script", "_law_at", "_law_most"]
theorem sc_law_size : FnScope N_law_size ["_law_script", "_law_at"] (defScope s_law_size) := ⟨rfl, rfl, rfl, by decide +kernel, rfl, by decide +kernel, by decide +kernel⟩
theorem body_law_size (Z : Zs mg)  (F__law_cell : FnD P w K mg base CX0 1 "_law_cell" m_law_cell) (F__law_large : FnD P w K mg base CX0 2 "_law_large" m_law_large) (f : Addr) (cdv : Value) (A : Around) (outer : List Env) (s : Shared) (H : Hp) (E0 : XK) (hr : Room 2 (A.deeper (envOfC "_law_size" (defScope s_law_size) s.heap.objs.size f cdv))) (E : XK) : PSs (cxOf CX0 P w K mg base N_law_size "_law_size" (defScope s_law_size) f cdv A outer s H E0).nox (defBody s_law_size) (tS K mg E b_law_size) :=
  (dss_cons (ds_set (i := 2) sc_law_size.nd rfl (.inl rfl) de_int) (dss_cons (ds_if (dt_truth (de_call (F__law_large.mono (by decide)) hr passAny (by rfl) (da_cons (de_name 0) da_nil))) (dss_one (ds_set (i := 2) sc_law_size.nd rfl (.inl rfl) de_int)) dss_nil) (dss_cons (ds_if (dt_cmp ne_gt do_gt (de_callB (ne_one ne_len) dc_len (by rfl) Z.len PySem.boot_len (da_cons (de_name 0) da_nil)) de_int) (dss_one (ds_set (i := 2) sc_law_size.nd rfl (.inl rfl) de_int)) dss_nil) (dss_one (ds_ret (de_op ne_add do_add de_int (de_op ne_mod do_mod (de_call (F__law_cell.mono (by decide)) hr passAny (by rfl) (da_cons (de_name 0) (da_cons (de_name 1) da_nil))) (de_name 2))))))))
theorem ok_law_size (Z : Zs mg) (D : DefF K mg "_law_size" s_law_size)  (F__law_cell : FnD P w K mg base CX0 1 "_law_cell" m_law_cell) (F__law_large : FnD P w K mg base CX0 2 "_law_large" m_law_large) : FnD P w K mg base CX0 3 "_law_size" m_law_size := fn_pure D sc_law_size (fun _ _ _ _ _ _ us hl => match us, hl with | [_, _], _ => rfl) (body_law_size Z F__law_cell F__law_large)
abbrev s_law_words : Stmt := topS 23
abbrev N_law_words : List Str := ["_law_script", "_law_at", "_law_size_here", "_law_many", "_law_k"]
theorem sc_law_words : FnScope N_law_words ["_law_script", "_law_at", "_law_size_here"] (defScope s_law_words) := ⟨rfl, rfl, rfl, by decide +kernel, rfl, by decide +kernel, by decide +kernel⟩
theorem body_law_words (Z : Zs mg)  (F__law_cell : FnD P w K mg base CX0 1 "_law_cell" m_law_cell) (F__law_word : FnD P w K mg base CX0 2 "_law_word" m_law_word) (f : Addr) (cdv : Value) (A : Around) (outer : List Env) (s : Shared) (H : Hp) (E0 : XK) (hr : Room 2 (A.deeper (envOfC "_law_words" (defScope s_law_words) s.heap.objs.size f cdv))) (E : XK) : PSs (cxOf CX0 P w K mg base N_law_words "_law_words" (defScope s_law_words) f cdv A outer s H E0).nox (defBody s_law_words) (tS K mg E b_law_words) :=
  (dss_cons (ds_set (i := 3) sc_law_words.nd rfl (.inl rfl) (de_op ne_mod do_mod (de_op ne_fdiv do_fdiv (de_call (F__law_cell.mono (by decide)) hr passAny (by rfl) (da_cons (de_name 0) (da_cons (de_name 1) da_nil))) de_int) (de_op ne_add do_add (de_name 2) de_int))) (dss_one (ds_ret (pe_tF (de_lc (own := [("_law_k", 4)]) rfl sc_law_words.nd (fun _ h => h) (wst_N 4) (di_range1 4 (by rfl) Z.range (da_cons (de_name 3) da_nil)) (blkOk_by (N := N_law_words) (sc := defScope s_law_words) (by decide +kernel)) (fun _ _ _ _ _ => pg_name (i := 4) sc_law_words.nd rfl (.inl rfl)) (fun _ _ _ _ _ => dts_nil) (fun _ _ _ _ _ => (de_call (F__law_word.mono (by decide)) hr passAny (by rfl) (da_cons (de_op ne_add do_add (de_call (F__law_cell.mono (by decide)) hr passAny (by rfl) (da_cons (de_name 0) (da_cons (de_op ne_add do_add (de_op ne_add do_add (de_name 1) de_int) (de_name 4)) da_nil))) (de_op ne_mul do_mul (de_op ne_mul do_mul de_int (de_name 4)) (de_name 4))) (da_cons (de_name 2) da_nil)))))))))
theorem ok_law_words (Z : Zs mg) (D : DefF K mg "_law_words" s_law_words)  (F__law_cell : FnD P w K mg base CX0 1 "_law_cell" m_law_cell) (F__law_word : FnD P w K mg base CX0 2 "_law_word" m_law_word) : FnD P w K mg base CX0 3 "_law_words" m_law_words := fn_pure D sc_law_words (fun _ _ _ _ _ _ us hl => match us, hl with | [_, _, _], _ => rfl) (body_law_words Z F__law_cell F__law_word)
abbrev s_law_spread : Stmt := topS 24
abbrev N_law_spread : List Str := ["_law_size_here", "_law_words_here", "_law_found", "_law_word_here", "_law_one"]
theorem sc_law_spread : FnScope N_law_spread ["_law_size_here", "_law_words_here"] (defScope s_law_spread) := ⟨rfl, rfl, rfl, by decide +kernel, rfl, by decide +kernel, by decide +kernel⟩
theorem body_law_spread (Z : Zs mg)  (F__law_sum : FnD P w K mg base CX0 1 "_law_sum" m_law_sum) (f : Addr) (cdv : Value) (A : Around) (outer : List Env) (s : Shared) (H : Hp) (E0 : XK) (hr : Room 1 (A.deeper (envOfC "_law_spread" (defScope s_law_spread) s.heap.objs.size f cdv))) (E : XK) : PSs (cxOf CX0 P w K mg base N_law_spread "_law_spread" (defScope s_law_spread) f cdv A outer s H E0).nox (defBody s_law_spread) (tS K mg E b_law_spread) :=
  (dss_cons (ds_set (i := 2) sc_law_spread.nd rfl (.inl rfl) (de_lst (da_cons (de_op ne_mul do_mul (de_tup (da_cons de_int da_nil)) (de_name 0)) da_nil))) (dss_cons (ds_for PassesOwn.never rfl (di_seq 3 (de_name 1)) (pg_name (i := 3) sc_law_spread.nd rfl (.inr rfl)) (dss_one (ds_if (dt_cmp ne_nin (do_nin (room65 hr)) (de_name 3) (de_name 2)) (dss_one (ds_set (i := 2) sc_law_spread.nd rfl (.inl rfl) (de_op ne_add do_add (de_name 2) (pe_tF (de_lc (own := [("_law_one", 4)]) rfl sc_law_spread.nd (fun _ h => h) (wst_N 4) (di_seq 4 (de_name 2)) (blkOk_by (N := N_law_spread) (sc := defScope s_law_spread) (by decide +kernel)) (fun _ _ _ _ _ => pg_name (i := 4) sc_law_spread.nd rfl (.inl rfl)) (fun _ _ _ _ _ => dts_nil) (fun _ _ _ _ _ => (de_call (F__law_sum.mono (by decide)) hr passAny (by rfl) (da_cons (de_name 4) (da_cons (de_name 3) da_nil))))))))) dss_nil))) (dss_one (ds_ret (pe_tF (de_callBF (ne_one (ne_sorted false)) (dc_sortedF hr.units) (by rfl) Z.sorted (by decide +kernel) (da_cons (de_name 2) da_nil)))))))
theorem ok_law_spread (Z : Zs mg) (D : DefF K mg "_law_spread" s_law_spread)  (F__law_sum : FnD P w K mg base CX0 1 "_law_sum" m_law_sum) : FnD P w K mg base CX0 2 "_law_spread" m_law_spread := fn_pure D sc_law_spread (fun _ _ _ _ _ _ us hl => match us, hl with | [_, _], _ => rfl) (body_law_spread Z F__law_sum)
abbrev s_law_rows : Stmt := topS 25
abbrev N_law_rows : List Str := ["_law_spread_here", "_law_size_here", "_law_rows_here", "_law_place", "_law_some", "_law_heads_of", "_law_found", "_law_k", "_law_word_here", "_law_row", "_law_head", "_law_j"]
theorem sc_law_rows : FnScope N_law_rows ["_law_spread_here"] (defScope s_law_rows) := ⟨rfl, rfl, rfl, by decide +kernel, rfl, by decide +kernel, by decide +kernel⟩
theorem body_law_rows (Z : Zs mg)   (f : Addr) (cdv : Value) (A : Around) (outer : List Env) (s : Shared) (H : Hp) (E0 : XK) (hr : Room 0 (A.deeper (envOfC "_law_rows" (defScope s_law_rows) s.heap.objs.size f cdv))) (E : XK) : PSs (cxOf CX0 P w K mg base N_law_rows "_law_rows" (defScope s_law_rows) f cdv A outer s H E0).nox (defBody s_law_rows) (tS K mg E b_law_rows) :=
  (dss_cons (ds_set (i := 1) sc_law_rows.nd rfl (.inl rfl) (de_callB (ne_one ne_len) dc_len (by rfl) Z.len PySem.boot_len (da_cons (de_ix (de_name 0) de_int) da_nil))) (dss_cons (ds_setO (i := 2) sc_law_rows.nd rfl (.inl rfl) (de_lstF da_nil)) (dss_cons (ds_for PassesOwn.never rfl (di_range1 3 (by rfl) Z.range (da_cons (de_name 1) da_nil)) (pg_name (i := 3) sc_law_rows.nd rfl (.inr rfl)) (dss_cons (ds_setLc (ds_setLcX (i := 4) (own := [("_law_word_here", 8)]) rfl sc_law_rows.nd rfl rfl (sw_true rfl rfl rfl (by decide +kernel)) (fun _ h => h) (wst_N 8) (di_seq 8 (de_name 0)) (blkOk_by (N := N_law_rows) (sc := defScope s_law_rows) (by decide +kernel)) (fun _ _ _ _ _ => pg_name (i := 8) sc_law_rows.nd rfl (.inl rfl)) (fun _ _ _ _ _ => dts_one (PW.pt (dw_and (dt_cmp ne_in (do_in (room65 hr)) de_int (de_name 8)) (dw_and1 (dt_cmp ne_eq (do_eq hr.units) (de_index (de_name 8) de_int) (de_name 3)))))) (fun _ _ _ _ _ => (de_name 8)))) (dss_one (ds_if (dt_truth (de_name 4)) (dss_one (ds_app 2 (de_ix (de_name 4) de_int))) dss_nil)))) (dss_cons (ds_fz 2 (ds_setLc (ds_setLcX (i := 5) (own := [("_law_row", 9)]) rfl sc_law_rows.nd rfl rfl (sw_true rfl rfl rfl (by decide +kernel)) (fun _ h => h) (wst_N 9) (di_seq 9 (de_name 2)) (blkOk_by (N := N_law_rows) (sc := defScope s_law_rows) (by decide +kernel)) (fun _ _ _ _ _ => pg_name (i := 9) sc_law_rows.nd rfl (.inl rfl)) (fun _ _ _ _ _ => dts_nil) (fun _ _ _ _ _ => (de_index (de_name 9) de_int))))) (dss_cons (ds_setO (i := 6) sc_law_rows.nd rfl (.inl rfl) (de_lstF da_nil)) (dss_cons (ds_for PassesOwn.never rfl (di_range1 7 (by rfl) Z.range (da_cons (de_callB (ne_one ne_len) dc_len (by rfl) Z.len PySem.boot_len (da_cons (de_name 2) da_nil)) da_nil)) (pg_name (i := 7) sc_law_rows.nd rfl (.inr rfl)) (dss_one (ds_for PassesOwn.never rfl (di_seq 8 (de_name 0)) (pg_name (i := 8) sc_law_rows.nd rfl (.inr rfl)) (dss_one (ds_if (dt_cmp ne_eq (do_eq hr.units) (pe_tF (de_lc (own := [("_law_head", 10)]) rfl sc_law_rows.nd (fun _ h => h) (wst_N 10) (di_seq 10 (de_name 5)) (blkOk_by (N := N_law_rows) (sc := defScope s_law_rows) (by decide +kernel)) (fun _ _ _ _ _ => pg_name (i := 10) sc_law_rows.nd rfl (.inl rfl)) (fun _ _ _ _ _ => dts_nil) (fun _ _ _ _ _ => (de_ix (de_name 8) (de_name 10))))) (pe_tF (de_lc (own := [("_law_j", 11)]) rfl sc_law_rows.nd (fun _ h => h) (wst_N 11) (di_range1 11 (by rfl) Z.range (da_cons (de_callB (ne_one ne_len) dc_len (by rfl) Z.len PySem.boot_len (da_cons (de_name 2) da_nil)) da_nil)) (blkOk_by (N := N_law_rows) (sc := defScope s_law_rows) (by decide +kernel)) (fun _ _ _ _ _ => pg_name (i := 11) sc_law_rows.nd rfl (.inl rfl)) (fun _ _ _ _ _ => dts_nil) (fun _ _ _ _ _ => (de_callTy (ne_one ne_int) dc_int (by rfl) Z.int (by decide +kernel) (da_cons (de_cmp ne_eq (do_eq hr.units) (de_name 11) (de_name 7)) da_nil)))))) (dss_one (ds_app 6 (de_name 8))) dss_nil))))) (dss_one (ds_fz 6 (ds_ret (de_tup (da_cons (de_name 1) (da_cons (de_callTy (ne_one ne_tuple) dc_tuple (by rfl) Z.tuple (by decide +kernel) (da_cons (de_name 6) da_nil)) da_nil))))))))))))
theorem ok_law_rows (Z : Zs mg) (D : DefF K mg "_law_rows" s_law_rows)   : FnD P w K mg base CX0 1 "_law_rows" m_law_rows := fn_pure D sc_law_rows (fun _ _ _ _ _ _ us hl => match us, hl with | [_], _ => rfl) (body_law_rows Z )
abbrev s_law_desk : Stmt := topS 26
abbrev N_law_desk : List Str := ["_law_script", "_law_at", "_law_size_here"]
theorem sc_law_desk : FnScope N_law_desk ["_law_script", "_law_at"] (defScope s_law_desk) := ⟨rfl, rfl, rfl, by decide +kernel, rfl, by decide +kernel, by decide +kernel⟩
theorem body_law_desk (Z : Zs mg)  (F__law_size : FnD P w K mg base CX0 3 "_law_size" m_law_size) (F__law_words : FnD P w K mg base CX0 3 "_law_words" m_law_words) (F__law_spread : FnD P w K mg base CX0 2 "_law_spread" m_law_spread) (F__law_rows : FnD P w K mg base CX0 1 "_law_rows" m_law_rows) (f : Addr) (cdv : Value) (A : Around) (outer : List Env) (s : Shared) (H : Hp) (E0 : XK) (hr : Room 3 (A.deeper (envOfC "_law_desk" (defScope s_law_desk) s.heap.objs.size f cdv))) (E : XK) : PSs (cxOf CX0 P w K mg base N_law_desk "_law_desk" (defScope s_law_desk) f cdv A outer s H E0).nox (defBody s_law_desk) (tS K mg E b_law_desk) :=
  (dss_cons (ds_set (i := 2) sc_law_desk.nd rfl (.inl rfl) (de_call (F__law_size.mono (by decide)) hr passAny (by rfl) (da_cons (de_name 0) (da_cons (de_name 1) da_nil)))) (dss_one (ds_ret (de_call (F__law_rows.mono (by decide)) hr passAny (by rfl) (da_cons (de_call (F__law_spread.mono (by decide)) hr passAny (by rfl) (da_cons (de_name 2) (da_cons (de_call (F__law_words.mono (by decide)) hr passAny (by rfl) (da_cons (de_name 0) (da_cons (de_name 1) (da_cons (de_name 2) da_nil)))) da_nil))) da_nil)))))
theorem ok_law_desk (Z : Zs mg) (D : DefF K mg "_law_desk" s_law_desk)  (F__law_size : FnD P w K mg base CX0 3 "_law_size" m_law_size) (F__law_words : FnD P w K mg base CX0 3 "_law_words" m_law_words) (F__law_spread : FnD P w K mg base CX0 2 "_law_spread" m_law_spread) (F__law_rows : FnD P w K mg base CX0 1 "_law_rows" m_law_rows) : FnD P w K mg base CX0 4 "_law_desk" m_law_desk := fn_pure D sc_law_desk (fun _ _ _ _ _ _ us hl => match us, hl with | [_, _], _ => rfl) (body_law_desk Z F__law_size F__law_words F__law_spread F__law_rows)
abbrev s_law_refused_k06 : Stmt := topS 27
abbrev N_law_refused_k06 : List Str := ["_law_desk_here", "_law_word_here"]
theorem sc_law_refused_k06 : FnScope N_law_refused_k06 ["_law_desk_here", "_law_word_here"] (defScope s_law_refused_k06) := ⟨rfl, rfl, rfl, by decide +kernel, rfl, by decide +kernel, by decide +kernel⟩
theorem body_law_refused_k06 (Z : Zs mg)  (XS : XsOk K mg ["ParityError", "NotIn"]) (F_told_back : FnD P w K mg base (L2.CX P w) 4 "told_back" m_told_back_k06) (f : Addr) (cdv : Value) (A : Around) (outer : List Env) (s : Shared) (H : Hp) (E0 : XK) (hr : Room 4 (A.deeper (envOfC "_law_refused" (defScope s_law_refused_k06) s.heap.objs.size f cdv))) (E : XK) : PSs (cxOf CX0 P w K mg base N_law_refused_k06 "_law_refused" (defScope s_law_refused_k06) f cdv A outer s H E0).nox (defBody s_law_refused_k06) (tS K mg E b_law_refused_k06) :=
  (dss_cons (ds_try XS (List.Mem.tail _ (List.Mem.head _)) rfl rfl (by rfl) (fun W pn xe tk _ => (dss_one (ds_expr (de_call (F_told_back.mono (by decide)) hr (passT tk) (by rfl) (da_cons (de_name 0) (da_cons (de_name 1) da_nil)))))) (fun e a oe pn => (dss_one (ds_ret de_bl)))) (dss_one (ds_ret de_bl)))
theorem ok_law_refused_k06 (Z : Zs mg) (D : DefF K mg "_law_refused" s_law_refused_k06)  (XS : XsOk K mg ["ParityError", "NotIn"]) (F_told_back : FnD P w K mg base (L2.CX P w) 4 "told_back" m_told_back_k06) : FnD P w K mg base CX0 5 "_law_refused" m_law_refused_k06 := fn_pure D sc_law_refused_k06 (fun _ _ _ _ _ _ us hl => match us, hl with | [_, _], _ => rfl) (body_law_refused_k06 Z XS F_told_back)
abbrev s_law_by_base_k06 : Stmt := topS 28
abbrev N_law_by_base_k06 : List Str := ["_law_desk_here", "_law_word_here", "e"]
theorem sc_law_by_base_k06 : FnScope N_law_by_base_k06 ["_law_desk_here", "_law_word_here"] (defScope s_law_by_base_k06) := ⟨rfl, rfl, rfl, by decide +kernel, rfl, by decide +kernel, by decide +kernel⟩
theorem body_law_by_base_k06 (Z : Zs mg)  (XS : XsOk K mg ["ParityError", "NotIn"]) (F_told_back : FnD P w K mg base (L2.CX P w) 4 "told_back" m_told_back_k06) (f : Addr) (cdv : Value) (A : Around) (outer : List Env) (s : Shared) (H : Hp) (E0 : XK) (hr : Room 4 (A.deeper (envOfC "_law_by_base" (defScope s_law_by_base_k06) s.heap.objs.size f cdv))) (E : XK) : PSs (cxOf CX0 P w K mg base N_law_by_base_k06 "_law_by_base" (defScope s_law_by_base_k06) f cdv A outer s H E0).nox (defBody s_law_by_base_k06) (tS K mg E b_law_by_base_k06) :=
  (dss_cons (ds_tryAs (i := 2) XS (List.Mem.head _) rfl rfl sc_law_by_base_k06.nd rfl rfl (by rfl) (fun W pn xe tk _ => (dss_one (ds_expr (de_call (F_told_back.mono (by decide)) hr (passT tk) (by rfl) (da_cons (de_name 0) (da_cons (de_name 1) da_nil)))))) (fun e a oe d pn he hz hf => (hss_one (hs_ret (he_is (h := ⟨a, d, e.at_, 2⟩) (c := .ty "ValueError") (XS.isE _ he) hz hf (XS.kitV _ he) (fun _ z => z) (pe_bltn (v := .ty "ValueError") (by rfl) XS.ve (by decide +kernel) rfl) (by rfl) Z.isinstance rfl (.inl rfl))))) (fun e => kn_ret)) (dss_one (ds_ret de_bl)))
theorem ok_law_by_base_k06 (Z : Zs mg) (D : DefF K mg "_law_by_base" s_law_by_base_k06)  (XS : XsOk K mg ["ParityError", "NotIn"]) (F_told_back : FnD P w K mg base (L2.CX P w) 4 "told_back" m_told_back_k06) : FnD P w K mg base CX0 5 "_law_by_base" m_law_by_base_k06 := fn_pure D sc_law_by_base_k06 (fun _ _ _ _ _ _ us hl => match us, hl with | [_, _], _ => rfl) (body_law_by_base_k06 Z XS F_told_back)
abbrev s_law_k06 : Stmt := topS 29
abbrev N_law_k06 : List Str := ["_law_script", "_law_desk_here", "_law_size_here", "_law_rows_here", "_law_message", "_law_due", "_law_bit", "_law_row", "_law_found", "_law_back", "_law_word_here", "_law_odd"]
theorem sc_law_k06 : FnScope N_law_k06 ["_law_script"] (defScope s_law_k06) := ⟨rfl, rfl, rfl, by decide +kernel, rfl, by decide +kernel, by decide +kernel⟩
theorem body_law_k06 (Z : Zs mg)  (XS : XsOk K mg ["ParityError", "NotIn"]) (F_put : FnD P w K mg base CX0 2 "put" m_put) (F_told_back : FnD P w K mg base (L2.CX P w) 4 "told_back" m_told_back_k06) (F__law_cell : FnD P w K mg base CX0 1 "_law_cell" m_law_cell) (F__law_sum : FnD P w K mg base CX0 1 "_law_sum" m_law_sum) (F__law_word : FnD P w K mg base CX0 2 "_law_word" m_law_word) (F__law_spread : FnD P w K mg base CX0 2 "_law_spread" m_law_spread) (F__law_desk : FnD P w K mg base CX0 4 "_law_desk" m_law_desk) (F__law_refused : FnD P w K mg base CX0 5 "_law_refused" m_law_refused_k06) (F__law_by_base : FnD P w K mg base CX0 5 "_law_by_base" m_law_by_base_k06) (f : Addr) (cdv : Value) (A : Around) (outer : List Env) (s : Shared) (H : Hp) (E : XK) (hr : Room 5 (A.deeper (envOfC "law" (defScope s_law_k06) s.heap.objs.size f cdv))) : PSs (cxOf (L2.CX P w) P w K mg base N_law_k06 "law" (defScope s_law_k06) f cdv A outer s H E) (defBody s_law_k06) (tS K mg E b_law_k06) :=
  (dss_cons (ds_set (i := 1) sc_law_k06.nd rfl (.inl rfl) (de_call (F__law_desk.mono (by decide)) hr passAny (by rfl) (da_cons (de_name 0) (da_cons de_int da_nil)))) (dss_cons (ds_set2 2 3 rfl sc_law_k06.nd rfl (.inl rfl) rfl (.inl rfl) (de_name 1)) (dss_cons (ds_set (i := 4) sc_law_k06.nd rfl (.inl rfl) (de_call (F__law_word.mono (by decide)) hr passAny (by rfl) (da_cons (de_call (F__law_cell.mono (by decide)) hr passAny (by rfl) (da_cons (de_name 0) (da_cons de_int da_nil))) (da_cons (de_callB (ne_one ne_len) dc_len (by rfl) Z.len PySem.boot_len (da_cons (de_name 3) da_nil)) da_nil)))) (dss_cons (ds_set (i := 5) sc_law_k06.nd rfl (.inl rfl) (de_op ne_mul do_mul (de_tup (da_cons de_int da_nil)) (de_name 2))) (dss_cons (ds_for (L2.passes_of rfl) rfl (di_zipB 6 7 (by rfl) Z.zip (da_cons (de_name 4) (da_cons (de_name 3) da_nil))) (pg_tup rfl (pgs_cons (pg_name (i := 6) sc_law_k06.nd rfl (.inl rfl)) (pgs_cons (pg_name (i := 7) sc_law_k06.nd rfl (.inl rfl)) pgs_nil))) (dss_one (ds_if (dt_cmp ne_eq (do_eq hr.units) (de_name 6) de_int) (dss_one (ds_set (i := 5) sc_law_k06.nd rfl (.inl rfl) (de_call (F__law_sum.mono (by decide)) hr passAny (by rfl) (da_cons (de_name 5) (da_cons (de_name 7) da_nil))))) dss_nil))) (dss_cons (ds_set (i := 8) sc_law_k06.nd rfl (.inr rfl) (de_call (F_put.mono (by decide)) hr passAny (by rfl) (da_cons (de_name 1) (da_cons (de_name 4) da_nil)))) (dss_cons (ds_if (PW.pt (dw_or (dt_not (dt_truth (de_isi isi_tuple (by rfl) Z.isinstance (by rfl) Z.tuple (by decide +kernel) (de_name 8)))) (dw_or (dt_cmp ne_ne (do_ne hr.units) (de_name 8) (de_name 5)) (dw_or1 (dt_cmp ne_ne (do_ne hr.units) (pe_tF (de_lc (own := [("_law_row", 7)]) rfl sc_law_k06.nd (fun _ h => h) (wst_N 7) (di_seq 7 (de_name 3)) (blkOk_by (N := N_law_k06) (sc := defScope s_law_k06) (by decide +kernel)) (fun _ _ _ _ _ => pg_name (i := 7) sc_law_k06.nd rfl (.inl rfl)) (fun _ _ _ _ _ => dts_nil) (fun _ _ _ _ _ => (de_ix (de_name 8) (de_index (de_name 7) de_int))))) (pe_tF (de_callTyF (ne_one ne_list) dc_listF (by rfl) Z.list (by decide +kernel) (da_cons (de_name 4) da_nil)))))))) (dss_one (ds_ret de_bl)) dss_nil) (dss_cons (ds_set (i := 9) sc_law_k06.nd rfl (.inl rfl) (de_call (F_told_back.mono (by decide)) hr (passB (L2.takes_of rfl rfl rfl rfl)) (by rfl) (da_cons (de_name 1) (da_cons (de_name 8) da_nil)))) (dss_cons (ds_if (PW.pt (dw_or (dt_not (dt_truth (de_isi isi_tuple (by rfl) Z.isinstance (by rfl) Z.tuple (by decide +kernel) (de_name 9)))) (dw_or1 (dt_cmp ne_ne (do_ne hr.units) (de_name 9) (de_name 4))))) (dss_one (ds_ret de_bl)) dss_nil) (dss_cons (ds_set (i := 10) sc_law_k06.nd rfl (.inl rfl) (de_call (F__law_word.mono (by decide)) hr passAny (by rfl) (da_cons (de_call (F__law_cell.mono (by decide)) hr passAny (by rfl) (da_cons (de_name 0) (da_cons de_int da_nil))) (da_cons (de_name 2) da_nil)))) (dss_cons (ds_if (dt_cmp ne_in (do_in (room65 hr)) (de_name 10) (de_call (F__law_spread.mono (by decide)) hr passAny (by rfl) (da_cons (de_name 2) (da_cons (de_name 3) da_nil)))) (dss_one (ds_ret (de_cmp ne_eq (do_eq hr.units) (de_call (F_put.mono (by decide)) hr passAny (by rfl) (da_cons (de_name 1) (da_cons (de_call (F_told_back.mono (by decide)) hr (passB (L2.takes_of rfl rfl rfl rfl)) (by rfl) (da_cons (de_name 1) (da_cons (de_name 10) da_nil))) da_nil))) (de_name 10)))) dss_nil) (dss_cons (ds_set (i := 11) sc_law_k06.nd rfl (.inl rfl) (de_ix (de_lst (da_cons de_non (da_cons (pe_tF (de_callTyF (ne_one ne_list) dc_listF (by rfl) Z.list (by decide +kernel) (da_cons (de_name 5) da_nil))) (da_cons (de_op ne_add do_add (de_name 5) (de_tup (da_cons de_int da_nil))) (da_cons (de_op ne_mul do_mul (de_tup (da_cons de_int da_nil)) (de_name 2)) (da_cons de_str da_nil)))))) (de_op ne_mod do_mod (de_call (F__law_cell.mono (by decide)) hr passAny (by rfl) (da_cons (de_name 0) (da_cons de_int da_nil))) de_int))) (dss_one (ds_ret (de_and (de_call (F__law_refused.mono (by decide)) hr passAny (by rfl) (da_cons (de_name 1) (da_cons (de_name 10) da_nil))) (de_and (de_call (F__law_by_base.mono (by decide)) hr passAny (by rfl) (da_cons (de_name 1) (da_cons (de_name 10) da_nil))) (de_one (de_call (F__law_refused.mono (by decide)) hr passAny (by rfl) (da_cons (de_name 1) (da_cons (de_name 11) da_nil))))))))))))))))))))
end
end L2.PD.W

set_option Elab.async false
set_option linter.all false
set_option autoImplicit false
set_option maxRecDepth 100000
set_option maxHeartbeats 0
namespace L2.PD.W
open PySem PySem.Spec PyProof.Rows L2 L2.PD
def dd_is_within : He.DefD := ⟨("is_within", none), "is_within", "is_within", defArgs s_is_within, defBody s_is_within, defScope s_is_within, [], []⟩
def dd_is_word : He.DefD := ⟨("is_word", none), "is_word", "is_word", defArgs s_is_word, defBody s_is_word, defScope s_is_word, [], []⟩
def dd_plus : He.DefD := ⟨("plus", none), "plus", "plus", defArgs s_plus, defBody s_plus, defScope s_plus, [], []⟩
def dd_none : He.DefD := ⟨("none", none), "none", "none", defArgs s_none, defBody s_none, defScope s_none, [], []⟩
def dd_head_of : He.DefD := ⟨("head_of", none), "head_of", "head_of", defArgs s_head_of, defBody s_head_of, defScope s_head_of, [], []⟩
def dd_less_rows : He.DefD := ⟨("less_rows", none), "less_rows", "less_rows", defArgs s_less_rows, defBody s_less_rows, defScope s_less_rows, [], []⟩
def dd_heads : He.DefD := ⟨("heads", none), "heads", "heads", defArgs s_heads, defBody s_heads, defScope s_heads, [], []⟩
def dd_has : He.DefD := ⟨("has", none), "has", "has", defArgs s_has, defBody s_has, defScope s_has, [], []⟩
def dd_put : He.DefD := ⟨("put", none), "put", "put", defArgs s_put, defBody s_put, defScope s_put, [], []⟩
def dd_told_back_k06 : He.DefD := ⟨("told_back", none), "told_back", "told_back", defArgs s_told_back_k06, defBody s_told_back_k06, defScope s_told_back_k06, [], []⟩
def dd_law_cell : He.DefD := ⟨("_law_cell", none), "_law_cell", "_law_cell", defArgs s_law_cell, defBody s_law_cell, defScope s_law_cell, [], []⟩
def dd_law_mix : He.DefD := ⟨("_law_mix", none), "_law_mix", "_law_mix", defArgs s_law_mix, defBody s_law_mix, defScope s_law_mix, [], []⟩
def dd_law_large : He.DefD := ⟨("_law_large", none), "_law_large", "_law_large", defArgs s_law_large, defBody s_law_large, defScope s_law_large, [], []⟩
def dd_law_sum : He.DefD := ⟨("_law_sum", none), "_law_sum", "_law_sum", defArgs s_law_sum, defBody s_law_sum, defScope s_law_sum, [], []⟩
def dd_law_word : He.DefD := ⟨("_law_word", none), "_law_word", "_law_word", defArgs s_law_word, defBody s_law_word, defScope s_law_word, [], []⟩
def dd_law_size : He.DefD := ⟨("_law_size", none), "_law_size", "_law_size", defArgs s_law_size, defBody s_law_size, defScope s_law_size, [], []⟩
def dd_law_words : He.DefD := ⟨("_law_words", none), "_law_words", "_law_words", defArgs s_law_words, defBody s_law_words, defScope s_law_words, [], []⟩
def dd_law_spread : He.DefD := ⟨("_law_spread", none), "_law_spread", "_law_spread", defArgs s_law_spread, defBody s_law_spread, defScope s_law_spread, [], []⟩
def dd_law_rows : He.DefD := ⟨("_law_rows", none), "_law_rows", "_law_rows", defArgs s_law_rows, defBody s_law_rows, defScope s_law_rows, [], []⟩
def dd_law_desk : He.DefD := ⟨("_law_desk", none), "_law_desk", "_law_desk", defArgs s_law_desk, defBody s_law_desk, defScope s_law_desk, [], []⟩
def dd_law_refused_k06 : He.DefD := ⟨("_law_refused", none), "_law_refused", "_law_refused", defArgs s_law_refused_k06, defBody s_law_refused_k06, defScope s_law_refused_k06, [], []⟩
def dd_law_by_base_k06 : He.DefD := ⟨("_law_by_base", none), "_law_by_base", "_law_by_base", defArgs s_law_by_base_k06, defBody s_law_by_base_k06, defScope s_law_by_base_k06, [], []⟩
def dd_law_k06 : He.DefD := ⟨("law", none), "law", "law", defArgs s_law_k06, defBody s_law_k06, defScope s_law_k06, [], []⟩
def fnL : List He.DefD := [dd_is_within, dd_is_word, dd_plus, dd_none, dd_head_of, dd_less_rows, dd_heads, dd_has, dd_put, dd_told_back_k06, dd_law_cell, dd_law_mix, dd_law_large, dd_law_sum, dd_law_word, dd_law_size, dd_law_words, dd_law_spread, dd_law_rows, dd_law_desk, dd_law_refused_k06, dd_law_by_base_k06, dd_law_k06]
def faL : List He.Fa := [.glo "is_within", .glo "is_word", .glo "plus", .glo "none", .glo "head_of", .glo "less_rows", .glo "heads", .glo "has", .glo "put", .glo "told_back", .glo "_law_cell", .glo "_law_mix", .glo "_law_large", .glo "_law_sum", .glo "_law_word", .glo "_law_size", .glo "_law_words", .glo "_law_spread", .glo "_law_rows", .glo "_law_desk", .glo "_law_refused", .glo "_law_by_base", .glo "law", .free "len", .free "sum", .free "min", .free "max", .free "isinstance", .free "sorted", .free "tuple", .free "list", .free "int", .free "bool", .free "str", .free "range", .free "zip", .free "enumerate", .free "reversed", .free "set"]
abbrev RR : PySem.W.OpenRow := PySem.W.OpenLaw.row PySem.Challenge.rw_paritydesk_k06_whole_messages_come_back
def xsL : List (PySem.W.Frag → Bool) := [xsB ["ParityError", "NotIn"]]
abbrev hk : PySem.W.Hook := hookX 4 faL fnL xsL
def ob (s : PySem.W.SharedT) : He.AlD := obsXG 4 faL fnL xsL (HandSHeadRun.getT s)
theorem ob_eq (s : PySem.W.SharedT) : ob s = hk.obs s.abs := obsXG_eq (HandSHeadRun.getT_eq s)
def looseL : List Str := (["is_within", "is_word", "plus", "none", "head_of", "less_rows", "heads", "has", "put", "told_back", "_law_cell", "_law_mix", "_law_large", "_law_sum", "_law_word", "_law_size", "_law_words", "_law_spread", "_law_rows", "_law_desk", "_law_refused", "_law_by_base", "ParityError", "NotIn"] : List Str)
theorem run_top (w : World) : HandSHeadRun.RunEq RR (PySem.W.view RR.prog [29]) hk ob 2000 looseL w := by
  intro os
  kernel_rfl
theorem facts {P : Program} {w : World} {K : PySem.W.Frag} {h : Heap} {mg : Str → Option Value} {f : Addr} (hok : ∀ ns : List Int, ns.length ≤ 63 → m_law_k06 [scrD ns] = .ok (.bool true)) (X : K.In h) (G : h.Ns mainGlobals mg) (hfa : mg ("law" : Str) = some (.ref f)) (c0 : SaysX faL fnL xsL K) :
    ∃ (fd : FuncData) (sp : Sp), (∀ (s : Shared) (v : Value), BindsTo s fd ⟨[v], []⟩ [("_law_script", v)]) ∧ (∀ (H : Hp) (a : Addr) (ns : List Int), ns.length ≤ 63 → SqL K H a (ns.map V.int) → sp [.ref a] H (fun v _ => v = .bl true) fun _ _ _ => False) ∧ ∀ base : Heap, K.In base → base.Ns mainGlobals mg → FnOk P w K mg base CX0 6 f fd ["_law_script"] sp := by
  obtain ⟨c, cX⟩ := c0.tell
  have Z : Zs mg := ⟨He.free_ok X G (c.fact 23 (f := .free "len") rfl), He.free_ok X G (c.fact 24 (f := .free "sum") rfl), He.free_ok X G (c.fact 25 (f := .free "min") rfl), He.free_ok X G (c.fact 26 (f := .free "max") rfl), He.free_ok X G (c.fact 27 (f := .free "isinstance") rfl), He.free_ok X G (c.fact 28 (f := .free "sorted") rfl), He.free_ok X G (c.fact 29 (f := .free "tuple") rfl), He.free_ok X G (c.fact 30 (f := .free "list") rfl), He.free_ok X G (c.fact 31 (f := .free "int") rfl), He.free_ok X G (c.fact 32 (f := .free "bool") rfl), He.free_ok X G (c.fact 33 (f := .free "str") rfl), He.free_ok X G (c.fact 34 (f := .free "range") rfl), He.free_ok X G (c.fact 35 (f := .free "zip") rfl), He.free_ok X G (c.fact 36 (f := .free "enumerate") rfl), He.free_ok X G (c.fact 37 (f := .free "reversed") rfl), He.free_ok X G (c.fact 38 (f := .free "set") rfl)⟩
  have XS : XsOk K mg ["ParityError", "NotIn"] := xs_ok X G (cX _ (List.Mem.head _))
  have D_is_within : DefF K mg "is_within" s_is_within := (let ⟨fd, F⟩ := c.def_ 0 (d := dd_is_within) rfl; ⟨_, fd, F, He.glo_ok X G (c.fact 0 (f := .glo "is_within") rfl)⟩)
  have D_is_word : DefF K mg "is_word" s_is_word := (let ⟨fd, F⟩ := c.def_ 1 (d := dd_is_word) rfl; ⟨_, fd, F, He.glo_ok X G (c.fact 1 (f := .glo "is_word") rfl)⟩)
  have D_plus : DefF K mg "plus" s_plus := (let ⟨fd, F⟩ := c.def_ 2 (d := dd_plus) rfl; ⟨_, fd, F, He.glo_ok X G (c.fact 2 (f := .glo "plus") rfl)⟩)
  have D_none : DefF K mg "none" s_none := (let ⟨fd, F⟩ := c.def_ 3 (d := dd_none) rfl; ⟨_, fd, F, He.glo_ok X G (c.fact 3 (f := .glo "none") rfl)⟩)
  have D_head_of : DefF K mg "head_of" s_head_of := (let ⟨fd, F⟩ := c.def_ 4 (d := dd_head_of) rfl; ⟨_, fd, F, He.glo_ok X G (c.fact 4 (f := .glo "head_of") rfl)⟩)
  have D_less_rows : DefF K mg "less_rows" s_less_rows := (let ⟨fd, F⟩ := c.def_ 5 (d := dd_less_rows) rfl; ⟨_, fd, F, He.glo_ok X G (c.fact 5 (f := .glo "less_rows") rfl)⟩)
  have D_heads : DefF K mg "heads" s_heads := (let ⟨fd, F⟩ := c.def_ 6 (d := dd_heads) rfl; ⟨_, fd, F, He.glo_ok X G (c.fact 6 (f := .glo "heads") rfl)⟩)
  have D_has : DefF K mg "has" s_has := (let ⟨fd, F⟩ := c.def_ 7 (d := dd_has) rfl; ⟨_, fd, F, He.glo_ok X G (c.fact 7 (f := .glo "has") rfl)⟩)
  have D_put : DefF K mg "put" s_put := (let ⟨fd, F⟩ := c.def_ 8 (d := dd_put) rfl; ⟨_, fd, F, He.glo_ok X G (c.fact 8 (f := .glo "put") rfl)⟩)
  have D_told_back_k06 : DefF K mg "told_back" s_told_back_k06 := (let ⟨fd, F⟩ := c.def_ 9 (d := dd_told_back_k06) rfl; ⟨_, fd, F, He.glo_ok X G (c.fact 9 (f := .glo "told_back") rfl)⟩)
  have D_law_cell : DefF K mg "_law_cell" s_law_cell := (let ⟨fd, F⟩ := c.def_ 10 (d := dd_law_cell) rfl; ⟨_, fd, F, He.glo_ok X G (c.fact 10 (f := .glo "_law_cell") rfl)⟩)
  have D_law_mix : DefF K mg "_law_mix" s_law_mix := (let ⟨fd, F⟩ := c.def_ 11 (d := dd_law_mix) rfl; ⟨_, fd, F, He.glo_ok X G (c.fact 11 (f := .glo "_law_mix") rfl)⟩)
  have D_law_large : DefF K mg "_law_large" s_law_large := (let ⟨fd, F⟩ := c.def_ 12 (d := dd_law_large) rfl; ⟨_, fd, F, He.glo_ok X G (c.fact 12 (f := .glo "_law_large") rfl)⟩)
  have D_law_sum : DefF K mg "_law_sum" s_law_sum := (let ⟨fd, F⟩ := c.def_ 13 (d := dd_law_sum) rfl; ⟨_, fd, F, He.glo_ok X G (c.fact 13 (f := .glo "_law_sum") rfl)⟩)
  have D_law_word : DefF K mg "_law_word" s_law_word := (let ⟨fd, F⟩ := c.def_ 14 (d := dd_law_word) rfl; ⟨_, fd, F, He.glo_ok X G (c.fact 14 (f := .glo "_law_word") rfl)⟩)
  have D_law_size : DefF K mg "_law_size" s_law_size := (let ⟨fd, F⟩ := c.def_ 15 (d := dd_law_size) rfl; ⟨_, fd, F, He.glo_ok X G (c.fact 15 (f := .glo "_law_size") rfl)⟩)
  have D_law_words : DefF K mg "_law_words" s_law_words := (let ⟨fd, F⟩ := c.def_ 16 (d := dd_law_words) rfl; ⟨_, fd, F, He.glo_ok X G (c.fact 16 (f := .glo "_law_words") rfl)⟩)
  have D_law_spread : DefF K mg "_law_spread" s_law_spread := (let ⟨fd, F⟩ := c.def_ 17 (d := dd_law_spread) rfl; ⟨_, fd, F, He.glo_ok X G (c.fact 17 (f := .glo "_law_spread") rfl)⟩)
  have D_law_rows : DefF K mg "_law_rows" s_law_rows := (let ⟨fd, F⟩ := c.def_ 18 (d := dd_law_rows) rfl; ⟨_, fd, F, He.glo_ok X G (c.fact 18 (f := .glo "_law_rows") rfl)⟩)
  have D_law_desk : DefF K mg "_law_desk" s_law_desk := (let ⟨fd, F⟩ := c.def_ 19 (d := dd_law_desk) rfl; ⟨_, fd, F, He.glo_ok X G (c.fact 19 (f := .glo "_law_desk") rfl)⟩)
  have D_law_refused_k06 : DefF K mg "_law_refused" s_law_refused_k06 := (let ⟨fd, F⟩ := c.def_ 20 (d := dd_law_refused_k06) rfl; ⟨_, fd, F, He.glo_ok X G (c.fact 20 (f := .glo "_law_refused") rfl)⟩)
  have D_law_by_base_k06 : DefF K mg "_law_by_base" s_law_by_base_k06 := (let ⟨fd, F⟩ := c.def_ 21 (d := dd_law_by_base_k06) rfl; ⟨_, fd, F, He.glo_ok X G (c.fact 21 (f := .glo "_law_by_base") rfl)⟩)
  have D_law_k06 : DefF K mg "law" s_law_k06 := (let ⟨fd, F⟩ := c.def_ 22 (d := dd_law_k06) rfl; ⟨_, fd, F, He.glo_ok X G (c.fact 22 (f := .glo "law") rfl)⟩)
  obtain ⟨fl, fdl, Fl, gl⟩ := D_law_k06
  have e := hfa.symm.trans gl
  cases e
  refine ⟨fdl, (fun vs H Q E => spP K mg m_law_k06 vs H Q fun _ _ _ => False), fun s v => FunD.bindsA (ps := ["_law_script"]) Fl (fun _ _ _ _ _ _ us hl => match us, hl with | [_], _ => rfl) s [v] rfl, fun H a ns hl q => sp_law (hok ns hl) q, fun base _ _ => ?_⟩
  have F_is_within : FnD P w K mg base CX0 1 "is_within" m_is_within := ok_is_within Z D_is_within 
  have F_is_word : FnD P w K mg base CX0 2 "is_word" m_is_word := ok_is_word Z D_is_word F_is_within
  have F_plus : FnD P w K mg base CX0 1 "plus" m_plus := ok_plus Z D_plus 
  have F_none : FnD P w K mg base CX0 1 "none" m_none := ok_none Z D_none 
  have F_head_of : FnD P w K mg base CX0 1 "head_of" m_head_of := ok_head_of Z D_head_of 
  have F_less_rows : FnD P w K mg base CX0 2 "less_rows" m_less_rows := ok_less_rows Z D_less_rows F_plus F_head_of
  have F_heads : FnD P w K mg base CX0 2 "heads" m_heads := ok_heads Z D_heads F_head_of
  have F_has : FnD P w K mg base CX0 3 "has" m_has := ok_has Z D_has F_is_word F_none F_less_rows
  have F_put : FnD P w K mg base CX0 2 "put" m_put := ok_put Z D_put F_plus F_none
  have F_told_back : FnD P w K mg base (L2.CX P w) 4 "told_back" m_told_back_k06 := ok_told_back_k06 Z D_told_back_k06 XS F_heads F_has
  have F__law_cell : FnD P w K mg base CX0 1 "_law_cell" m_law_cell := ok_law_cell Z D_law_cell 
  have F__law_mix : FnD P w K mg base CX0 1 "_law_mix" m_law_mix := ok_law_mix Z D_law_mix 
  have F__law_large : FnD P w K mg base CX0 2 "_law_large" m_law_large := ok_law_large Z D_law_large F__law_cell F__law_mix
  have F__law_sum : FnD P w K mg base CX0 1 "_law_sum" m_law_sum := ok_law_sum Z D_law_sum 
  have F__law_word : FnD P w K mg base CX0 2 "_law_word" m_law_word := ok_law_word Z D_law_word F__law_mix
  have F__law_size : FnD P w K mg base CX0 3 "_law_size" m_law_size := ok_law_size Z D_law_size F__law_cell F__law_large
  have F__law_words : FnD P w K mg base CX0 3 "_law_words" m_law_words := ok_law_words Z D_law_words F__law_cell F__law_word
  have F__law_spread : FnD P w K mg base CX0 2 "_law_spread" m_law_spread := ok_law_spread Z D_law_spread F__law_sum
  have F__law_rows : FnD P w K mg base CX0 1 "_law_rows" m_law_rows := ok_law_rows Z D_law_rows 
  have F__law_desk : FnD P w K mg base CX0 4 "_law_desk" m_law_desk := ok_law_desk Z D_law_desk F__law_size F__law_words F__law_spread F__law_rows
  have F__law_refused : FnD P w K mg base CX0 5 "_law_refused" m_law_refused_k06 := ok_law_refused_k06 Z D_law_refused_k06 XS F_told_back
  have F__law_by_base : FnD P w K mg base CX0 5 "_law_by_base" m_law_by_base_k06 := ok_law_by_base_k06 Z D_law_by_base_k06 XS F_told_back
  exact fn_calm (fn_lawX Fl sc_law_k06 (body_law_k06 Z XS F_put F_told_back F__law_cell F__law_sum F__law_word F__law_spread F__law_desk F__law_refused F__law_by_base))
end L2.PD.W
open PySem PySem.W PySem.Calls PyProof.Rows
theorem PySem.Challenge.head_paritydesk_k06_whole_messages_come_back (hok : ∀ ns : List Int, ns.length ≤ 63 → L2.PD.m_law_k06 [L2.PD.scrD ns] = .ok (.bool true)) : PySem.Challenge.rw_paritydesk_k06_whole_messages_come_back.Holds := by
  w_on; o_law
  refine HandSHeadRun.head_any (r := OpenLaw.row PySem.Challenge.rw_paritydesk_k06_whole_messages_come_back) (q := view (OpenLaw.row PySem.Challenge.rw_paritydesk_k06_whole_messages_come_back).prog [29]) (H := L2.PD.W.hk) (ob := L2.PD.W.ob) (M := 2000) (loose := L2.PD.W.looseL) (d := HandSHeadRun.topDef (OpenLaw.row PySem.Challenge.rw_paritydesk_k06_whole_messages_come_back).prog 29) (kwd := []) L2.PD.W.ob_eq
    (by kernel_rfl) (fun s => by kernel_rfl) L2.PD.W.run_top (by kernel_rfl) (by kernel_rfl) (by kernel_rfl) (by rfl) (by first | assumption | decide +kernel) (by decide +kernel) ⟨rfl, rfl, rfl, rfl, rfl, by decide +kernel⟩ ?hw ?hc
  case hw => w_witness2
  case hc =>
    refine L2.walk_ofE (l := PySem.Challenge.rw_paritydesk_k06_whole_messages_come_back) (n := 63) (k := 6) (x := "_law_script") (CX := L2.CX0) rfl (by decide) (by kernel_rfl) ⟨rfl, by decide, by decide⟩ ?F (fun _ _ _ _ z => z)
    intro w mg fa h Y G hmg0
    obtain ⟨K, KX, c⟩ := Y
    have hmg : mg ("law" : PySem.Str) = some (.ref fa) := by
      have e : (HandSHeadRun.topDef (OpenLaw.row PySem.Challenge.rw_paritydesk_k06_whole_messages_come_back).prog 29).name = ("law" : PySem.Str) := by kernel_rfl
      rw [← e]
      exact hmg0
    obtain ⟨fd, sp, hb, hs, hF⟩ := L2.PD.W.facts (P := (PySem.Challenge.rw_paritydesk_k06_whole_messages_come_back).prog) (w := w) hok KX G hmg c
    exact ⟨K, fd, sp, KX, hb, fun H a ns hl _ hS => hs H a ns hl hS, hF⟩

theorem PySem.Challenge.cw_paritydesk_k06_whole_messages_come_back_holds : PySem.Challenge.rw_paritydesk_k06_whole_messages_come_back.Holds := by
  exact PySem.Challenge.head_paritydesk_k06_whole_messages_come_back L2.PD.law_k06
