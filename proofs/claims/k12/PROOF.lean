import PyProof.Rows.All
import Wide.All
import OpenK.AllK
import Wide.FinOn
import HandS.ForMost
import HandS.Flow
import HandS.Style
import HandS.Codes
import KE.DataEq
import KE.KEqNest
import KE.KEqDict
import HandS.More
import HandS.ListItems
import HandS.ForExc
import HandS.ExcInit
import HandS.ExcField
import HandS.Nested
import KE.KExcSuper
import HandS.MakeKwOnly
import KE.KExcIs
import HandS.IsInst
import HandS.ExcValue
import HandS.Walk
import HandS.DictComp
import HandS.NoneIn
import HandS.ReplaceLit
import HandS.ReplaceList
import KE.KeyNested
import KE.KDictPairs
import PySem.Challenge.RW_surelyset_k12_errors_and_limits
import PyProof.RowDictHeap
import HandS.Conv
import HandS.Property
import KE.KDictSum
import PyProof.ReprRoads
import PyProof.StrOps2
import HandS.Text
import HandS.Words
import HandS.Ends
import HandS.EndBits
set_option Elab.async false
set_option maxRecDepth 100000
set_option linter.all false
set_option maxHeartbeats 4000000
namespace Pf
open PySem L2
abbrev kt (s : String) : Key := Sum.inr (Str.ofString s)
abbrev penKV (c : Addr) (a l : Int) : List (Key × V) := [(kt "cells", .ref c), (kt "at", .int a), (kt "left", .int l)]
/-- the pen's dict -/
def penO (c : Addr) (a l : Int) : HO := .dK (penKV c a l)
/-- a pen with room for b draws -/
def Pen (H : Hp) (p c : Addr) (b : Nat) : Prop := ∃ (ns : List Int) (a l : Int), H p = some (penO c a l) ∧ H c = some (.lst (ns.map V.int)) ∧ ns.length ≤ 63 ∧ 0 ≤ a ∧ a + b ≤ 2 ^ 40
/-- all but pens stay -/
def ExP (H H' : Hp) : Prop := ∀ a o, H a = some o → ∃ o', H' a = some o' ∧ ((∀ c x y, o ≠ penO c x y) → o' = o)
theorem ExP.at {H H' : Hp} (e : ExP H H') {a : Addr} {o : HO} (h : H a = some o) (n : ∀ c x y, o ≠ penO c x y) : H' a = some o := by
  obtain ⟨o', h', k⟩ := e a o h
  rw [h', k n]
theorem ExP.free {H H' : Hp} (e : ExP H H') {a : Addr} (h : H' a = none) : H a = none := by
  cases q : H a with
  | none => rfl
  | some o =>
    obtain ⟨o', h', _⟩ := e a o q
    rw [h] at h'
    cases h'
theorem ExP.refl (H : Hp) : ExP H H := fun _ o h => ⟨o, h, fun _ => rfl⟩
theorem ExP.trans {H H1 H2 : Hp} (a : ExP H H1) (b : ExP H1 H2) : ExP H H2 := fun x o h => by
  obtain ⟨o1, h1, k1⟩ := a x o h
  obtain ⟨o2, h2, k2⟩ := b x o1 h1
  refine ⟨o2, h2, fun n => ?_⟩
  have e := k1 n
  subst e
  exact k2 n
theorem ExP.of {H H' : Hp} (a : ∀ b o, H b = some o → H' b = some o) : ExP H H' := fun x o h => ⟨o, a x o h, fun _ => rfl⟩
theorem n1 : ¬ kt "cells" = kt "at" := by decide +kernel
theorem n2 : ¬ kt "cells" = kt "left" := by decide +kernel
theorem n3 : ¬ kt "at" = kt "left" := by decide +kernel
section
variable {c : Addr} {a l x : Int} {H : Hp} {p : Addr}
theorem pv_at : valV (penKV c a l) (kt "at") = some (.int a) := by
  rw [valV_neg n1, valV_pos (by rfl)]
theorem pv_cells : valV (penKV c a l) (kt "cells") = some (.ref c) := by
  rw [valV_pos (by rfl)]
theorem pv_left : valV (penKV c a l) (kt "left") = some (.int l) := by
  rw [valV_neg n2, valV_neg n3, valV_pos (by rfl)]
theorem pen_at (h : H p = some (penO c a l)) : DGet H p (.str "at") (some (.int a)) := pv_at (c := c) (a := a) (l := l) ▸ DGet.k (k := kt "at") h
theorem pen_cells (h : H p = some (penO c a l)) : DGet H p (.str "cells") (some (.ref c)) := pv_cells (c := c) (a := a) (l := l) ▸ DGet.k (k := kt "cells") h
theorem pen_left (h : H p = some (penO c a l)) : DGet H p (.str "left") (some (.int l)) := pv_left (c := c) (a := a) (l := l) ▸ DGet.k (k := kt "left") h
theorem pp_at : putK (penKV c a l) (kt "at") (.int x) = penKV c x l := by
  have e1 : ¬ Str.ofString "cells" = Str.ofString "at" := by decide +kernel
  have e3 : ¬ Str.ofString "left" = Str.ofString "at" := by decide +kernel
  simp [putK, e1, e3]
theorem pp_left : putK (penKV c a l) (kt "left") (.int x) = penKV c a x := by
  have e1 : ¬ Str.ofString "cells" = Str.ofString "left" := by decide +kernel
  have e3 : ¬ Str.ofString "at" = Str.ofString "left" := by decide +kernel
  simp [putK, e1, e3]
theorem pen_put_at (h : H p = some (penO c a l)) : DPut H p (.str "at") (.int x) (upd H p (penO c x l)) := by
  unfold penO
  rw [← pp_at (a := a)]
  exact DPut.k (k := kt "at") (v := .int x) h (by show 3 < sizeLine; decide)
theorem pen_put_left (h : H p = some (penO c a l)) : DPut H p (.str "left") (.int x) (upd H p (penO c a x)) := by
  unfold penO
  rw [← pp_left (l := l)]
  exact DPut.k (k := kt "left") (v := .int x) h (by show 3 < sizeLine; decide)
theorem exp_pen (h : H p = some (penO c a l)) {H' : Hp} (e : ExP H H') {c' : Addr} {a' l' : Int} : ExP H (upd H' p (penO c' a' l')) := fun b o hb => by
  by_cases hbp : b = p
  · subst hbp; rw [h] at hb; cases hb; exact ⟨_, upd_same, fun n => absurd rfl (n _ _ _)⟩
  · rw [upd_ne hbp]; exact e b o hb
end
/-- the list is not the pen -/
theorem lst_ne_pen {xs : List V} (c : Addr) (x y : Int) : HO.lst xs ≠ penO c x y := fun h => by cases h
theorem tup_ne_pen {xs : List V} (c : Addr) (x y : Int) : HO.tup xs ≠ penO c x y := fun h => by cases h
theorem ints_at (ns : List Int) {i : Int} (h0 : 0 ≤ i) (h1 : i < ns.length) : atI (ns.map V.int) i = some (.int (ns.getD i.toNat 0)) := by
  obtain ⟨j, rfl⟩ := Int.eq_ofNat_of_zero_le h0
  refine atI_nat ?_
  rw [List.getElem?_map, List.getElem?_eq_getElem (by omega)]
  simp [List.getD, List.getElem?_eq_getElem (show j < ns.length by omega)]
def spDraw : Sp := fun vs H Q _ => ∃ (p c : Addr) (m : Int) (b : Nat), vs = [.ref p, .int m] ∧ 1 ≤ m ∧ m < 2 ^ 30 ∧ Pen H p c (b + 1) ∧ ∀ (r : Int) (H' : Hp), 0 ≤ r → r < m → Pen H' p c b → ExP H H' → Q (.int r) H'
def spSource (K : PySem.W.Frag) : Sp := fun vs H Q _ => ∃ (a : Addr) (ns : List Int), vs = [.ref a] ∧ SqL K H a (ns.map V.int) ∧ ns.length ≤ 63 ∧ ∀ (p c : Addr) (H' : Hp), H p = none → H c = none → Same H H' → Pen H' p c 1000000 → Q (.ref p) H'
def spPick (K : PySem.W.Frag) : Sp := fun vs H Q _ => ∃ (p c : Addr) (b : Nat) (it : V), vs = [.ref p, it] ∧ Pen H p c (b + 1) ∧
  ((∃ a xs, it = .ref a ∧ SqL K H a xs ∧ xs ≠ [] ∧ xs.length < 100000 ∧ ∀ v H', v ∈ xs → Pen H' p c b → ExP H H' → Q v H') ∨
   (∃ z : Str, it = .str z ∧ z.cps.toList ≠ [] ∧ z.length < 100000 ∧ ∀ d H', d ∈ z.cps.toList → Pen H' p c b → ExP H H' → Q (.str ⟨#[d]⟩) H'))
def spShuf (K : PySem.W.Frag) : Sp := fun vs H Q _ => ∃ (p c a : Addr) (b : Nat) (xs : List V), vs = [.ref p, .ref a] ∧ SqL K H a xs ∧ xs.length < 1000 ∧ Pen H p c (b + xs.length) ∧
  ∀ (q : Addr) (ys : List V) (H' : Hp), H q = none → H' q = some (.lst ys) → ys.Perm xs → Pen H' p c b → ExP H H' → Q (.ref q) H'
theorem exp_sql {K : PySem.W.Frag} {H H' : Hp} {a : Addr} {xs : List V} (e : ExP H H') (h : SqL K H a xs) : SqL K H' a xs := by
  rcases h with (h | ⟨o, h⟩) | h
  · exact .inl (.inl (e.at h lst_ne_pen))
  · exact .inl (.inr ⟨o, e.at h (fun c x y z => by cases z)⟩)
  · exact .inr h
theorem exp_sqt {K : PySem.W.Frag} {H H' : Hp} {a : Addr} {xs : List V} (e : ExP H H') (h : SqT K H a xs) : SqT K H' a xs := by
  rcases h with (h | ⟨o, h⟩) | h
  · exact .inl (.inl (e.at h tup_ne_pen))
  · exact .inl (.inr ⟨o, e.at h (fun c x y z => by cases z)⟩)
  · exact .inr h
theorem Pen.mono {H : Hp} {p c : Addr} {b b' : Nat} (h : Pen H p c b) (hb : b' ≤ b) : Pen H p c b' := by
  obtain ⟨ns, a, l, h1, h2, h3, h4, h5⟩ := h
  exact ⟨ns, a, l, h1, h2, h3, h4, by omega⟩
theorem Pen.same {H H' : Hp} {p c : Addr} {b : Nat} (h : Pen H p c b) (e : Same H H') : Pen H' p c b := by
  obtain ⟨ns, a, l, h1, h2, h3⟩ := h
  exact ⟨ns, a, l, e _ _ h1, e _ _ h2, h3⟩
theorem Pen.chg {H H' : Hp} {p c t : Addr} {b b0 : Nat} {o : HO} (h : Pen H' p c b) (h0 : Pen H p c b0) (ht : H t = none) : Pen (upd H' t o) p c b := by
  obtain ⟨ns, a, l, h1, h2, h3⟩ := h
  obtain ⟨ns0, a0, l0, g1, g2, _⟩ := h0
  exact ⟨ns, a, l, by rw [upd_ne (ne_of_none g1 ht)]; exact h1, by rw [upd_ne (ne_of_none g2 ht)]; exact h2, h3⟩
theorem atI_mem {α : Type} {xs : List α} {i : Int} (h0 : 0 ≤ i) (h1 : i < xs.length) : ∃ v, atI xs i = some v ∧ v ∈ xs := by
  obtain ⟨j, rfl⟩ := Int.eq_ofNat_of_zero_le h0
  have hj : j < xs.length := by omega
  exact ⟨xs[j], atI_nat (List.getElem?_eq_getElem hj), List.getElem_mem hj⟩
end Pf

set_option Elab.async false
set_option maxRecDepth 100000
set_option linter.all false
set_option maxHeartbeats 4000000
/-! Rules that the hand layer lacks. -/
namespace Pf
open PySem PySem.Spec L2 PyProof.Rows
section
variable {X : Cx}
/-! ### xs != [], xs == [] whatever the items are -/
def rNil (K : PySem.W.Frag) (neg : Bool) : R2 := fun x y H Q => ∃ a b xs, x = .ref a ∧ y = .ref b ∧ SqL K H a xs ∧ SqL K H b [] ∧ Q (.bl (if neg then !xs.isEmpty else xs.isEmpty)) H
theorem plain_list {h : Heap} {a : Addr} {its : Array Value} (p : PlainL h a its) : h.IsList a its := by
  obtain ⟨o, n, e, c, _, d⟩ := p
  exact ⟨o, e, c, n, d⟩
theorem size_ne {xs : List V} {is1 : List Value} (hx : xs ≠ []) (l1 : xs.length = is1.length) : (is1.toArray.size != ([] : List Value).toArray.size) = true := by
  cases is1 with
  | nil => cases xs with | nil => exact absurd rfl hx | cons _ _ => simp at l1
  | cons _ _ => simp
theorem op_neNil (hu : X.A.units < cLine) : OpR X (compareOp .NotEq) (rNil X.K true) := by
  intro pins s σ H x y v u Q I rx ry h
  obtain ⟨a, b, xs, rfl, rfl, ha, hb, q⟩ := h
  cases rx
  cases ry
  obtain ⟨is1, r1, p1, _⟩ := I.list ha
  obtain ⟨is2, r2, p2, _⟩ := I.list hb
  have l1 := r1.length
  have l2 := r2.length
  have e2 : is2 = [] := by cases is2 with | nil => rfl | cons _ _ => simp at l2
  subst e2
  by_cases hx : xs = []
  · subst hx
    have e1 : is1 = [] := by cases is1 with | nil => rfl | cons _ _ => simp at l1
    subst e1
    have r := SeqAt.RcNeAt.lists (A := X.A) (e := fun _ => true) (plain_list p1) (plain_list p2) rfl hu (fun j h1 _ => absurd h1 (by simp))
    exact r _ _ _ _ ⟨.bl _, H, I, rfl, q⟩
  · have r := SeqAt.RcNeAt.lists_lengths (A := X.A) (plain_list p1) (plain_list p2) (size_ne hx l1) hu
    refine r _ _ _ _ ⟨.bl _, H, I, rfl, ?_⟩
    cases xs with
    | nil => exact absurd rfl hx
    | cons _ _ => exact q
theorem op_eqNil (hu : X.A.units < cLine) : OpR X (compareOp .Eq) (rNil X.K false) := by
  intro pins s σ H x y v u Q I rx ry h
  obtain ⟨a, b, xs, rfl, rfl, ha, hb, q⟩ := h
  cases rx
  cases ry
  obtain ⟨is1, r1, p1, _⟩ := I.list ha
  obtain ⟨is2, r2, p2, _⟩ := I.list hb
  have l1 := r1.length
  have l2 := r2.length
  have e2 : is2 = [] := by cases is2 with | nil => rfl | cons _ _ => simp at l2
  subst e2
  by_cases hx : xs = []
  · subst hx
    have e1 : is1 = [] := by cases is1 with | nil => rfl | cons _ _ => simp at l1
    subst e1
    have r := SeqAt.RcAt.lists (A := X.A) (e := fun _ => true) (plain_list p1) (plain_list p2) rfl hu (fun j h1 _ => absurd h1 (by simp))
    exact r _ _ _ _ ⟨.bl _, H, I, rfl, q⟩
  · have r := SeqAt.RcAt.lists_lengths (A := X.A) (plain_list p1) (plain_list p2) (size_ne hx l1) hu
    refine r _ _ _ _ ⟨.bl _, H, I, rfl, ?_⟩
    cases xs with
    | nil => exact absurd rfl hx
    | cons _ _ => exact q
/-! ### d != {} -/
def rDNil : R2 := fun x y H Q => ∃ a b kvs, x = .ref a ∧ y = .ref b ∧ Rd H a (.dK kvs) ∧ Rd H b (.dK []) ∧ Q (.bl (!kvs.isEmpty)) H
theorem op_neDNil (hu : X.A.units < cLine) : OpR X (compareOp .NotEq) rDNil := by
  intro pins s σ H x y v u Q I rx ry h
  obtain ⟨a, b, kvs, rfl, rfl, ha, hb, q⟩ := h
  cases rx
  cases ry
  obtain ⟨_, h1, vs1, r1, d1⟩ := ha.ok I.hok
  obtain ⟨_, h2, vs2, r2, d2⟩ := hb.ok I.hok
  have l1 : kvs.length = vs1.length := Paired.length r1
  have e2 : vs2 = [] := by
    have : ([] : List (Key × V)).length = vs2.length := Paired.length r2
    cases vs2 with | nil => rfl | cons _ _ => simp at this
  subst e2
  refine PySem.W.keq_ne (r := true) h1 h2 d1 d2 hu (fun hl => ?_) ⟨.bl _, H, I, rfl, ?_⟩
  · have e1 : vs1 = [] := List.length_eq_zero_iff.mp hl
    subst e1
    exact .nil
  · cases kvs with
    | nil =>
      have e1 : vs1 = [] := List.length_eq_zero_iff.mp l1.symm
      subst e1
      exact q
    | cons _ _ =>
      cases vs1 with
      | nil => simp at l1
      | cons _ _ => exact q
/-! ### list(d.values()) -/
def tListVals (te : TE) : TE := fun σ H Q => te σ H fun x H1 => ∃ (d : Addr) (kvs : List (Key × V)), x = .ref d ∧ Rd H1 d (.dK kvs) ∧ ∀ p, H1 p = none → Q (.ref p) (upd H1 p (.lst (kvs.map Prod.snd)))
theorem vals_snd : ∀ {kvs : List (Key × V)} {vs : List (Key × Value)}, KV kvs vs → Vals (kvs.map Prod.snd) (vs.map Prod.snd)
  | _, _, .nil => .nil
  | _, _, .cons r t => .cons r.2 (vals_snd t)
theorem pe_listVals {e : Expr} {te : TE} {p apos cpos pos : Pos} (hc : X.calm = true) (he : PE X e te) (hg : Gl X "list") (hm : X.mg "list" = none) (hv : bootBuiltins "list" = some (.type "list")) (hbase : attributeBase e "values" X.env (eval e X.env) = eval e X.env := by rfl) (hline : (apos.endLine == cpos.line) = true := by rfl)
    (hs : starEach [.Call (.Attribute e "values" apos) [] [] cpos] X.env = (false, eval (.Call (.Attribute e "values" apos) [] [] cpos) X.env) :: starEach [] X.env := by rfl) :
    PE X (.Call (.Name "list" p) [.Call (.Attribute e "values" apos) [] [] cpos] [] pos) (tListVals te) := by
  refine ⟨fun pins s σ H Q I hq => ?_⟩
  refine wpAny_Call_Name_kw (ld_blt I hg hm hv ?_)
  refine PyProof.Rows.callWith_type1 ?_ hs rfl
  rw [hs]
  show wpAny _ _ (spliced ((false, eval (.Call (.Attribute e "values" apos) [] [] cpos) X.env) :: backTo pos (starEach [] X.env))) _ _ s
  refine Calls.spliced_cons ?_
  refine wpAny_Call_method (T := "dict") (id := "dict.values") hbase rfl hline F.plainAttrs_dict F.slot_dict_values F.type_dict_values (thn (he.run pins s σ H _ I hq) fun u s1 ⟨x, H1, I1, rx, d, kvs, ex, hd, q⟩ => ?_)
  subst ex
  obtain rfl : u = Value.ref d := rx
  obtain ⟨hz, hs0, vs, kv, hdo⟩ := hd.ok I1.hok
  obtain ⟨ep, hat⟩ := hdo.dictAt
  have lk : kvs.length = vs.length := Paired.length kv
  have k0 : ∀ b u, s1.heap.get? b = some u → (s1.heap.push { cls := .type "dict_values", data := .fields #[.ref d] }).get? b = some u := fun b ob q => Heap.get?_push_of_some _ q
  have I2 : L2.Inv X pins σ H1 { s1 with heap := s1.heap.push { cls := .type "dict_values", data := .fields #[.ref d] } } := I1.kept (t' := s1.toks) k0
  refine ⟨hdo.typeIs, hdo.mapOf.noDict, ?_⟩
  show wpAny _ _ (callWith cpos (.builtin "dict.values") [.ref d] [] []) _ X.xe s1
  refine method_meetsIn F.slot_dict_values F.entry_dict_values rfl (PySem.evalArgs_none ⟨rfl, hdo.typeIs, F.args_dict_values_1 _, _, meets_dict_values (mixKind X.prog X.w) d hs0, ⟨vs, hdo⟩, ?_⟩)
  refine Calls.spliced_nil ?_
  refine PySem.W.kdl_call (PySem.W.kdl_values (knd := mixKind X.prog X.w) (kvs := vs) (ep := ep)) (I1.ok.hd hc) ⟨⟨_, Heap.get?_push_size _ rfl, rfl, rfl⟩, hat.push _⟩ (by omega) fun h' tk acc c hk hS hacc => ?_
  have hal : acc.toList.length = vs.length := by rw [Array.length_toList, hacc.1]
  have eacc : acc.toList = vs.map Prod.snd := PySem.W.kdl_vals_eq acc.toList hal fun j v e => hacc.2 j v (by rw [← Array.getElem?_toList]; exact e)
  refine ⟨.ref _, upd H1 _ (.lst (kvs.map Prod.snd)), I2.laid (t' := tk) hk (Nat.le_refl _) ⟨by rw [List.length_map]; exact hz, acc.toList, c, by rw [eacc]; exact vals_snd kv, by rw [Array.toArray_toList]; exact hS⟩, rfl, q _ ?_⟩
  exact I2.hok.fresh (Nat.le_refl _)
/-! ### len(d), d read or locked -/
theorem call_lenR : CallR X (.builtin "len") (fun xs H Q => ∃ a kvs, xs = [V.ref a] ∧ Rd H a (.dK kvs) ∧ Q (.int kvs.length) H) := by
  intro pins s σ H xs us Q I r h
  obtain ⟨a, kvs, rfl, ha, q⟩ := h
  obtain ⟨u, rfl, ru⟩ := vals1 r
  cases ru
  exact d_len I ha fun t s' I' => ⟨.int kvs.length, H, I', ⟨t, rfl⟩, q⟩
/-! ### == and != of lists and tuples of flat things, nested, any texts -/
def rDeep (K : PySem.W.Frag) (neg : Bool) : R2 := fun x y H Q => ∃ d e, Dp K H x d ∧ Dp K H y e ∧ d.plain = true ∧ e.plain = true ∧ d.depth ≤ 64 ∧ Q (.bl (if neg then !PyData.eqv d e else PyData.eqv d e)) H
theorem op_eqP (hu : X.A.units + 64 < cLine) : OpR X (compareOp .Eq) (rDeep X.K false) := by
  intro pins s σ H x y v u Q I rx ry h
  obtain ⟨d, e, hd, he, sd, se, hl, q⟩ := h
  obtain ⟨as, r1⟩ := Dp.reads I d x v hd rx
  obtain ⟨bs, r2⟩ := Dp.reads I e y u he ry
  exact SeqAt.eq_plain r1 r2 sd se (by have := Nat.min_le_left d.depth e.depth; omega) ⟨.bl _, H, I, rfl, q⟩
theorem op_neP (hu : X.A.units + 64 < cLine) : OpR X (compareOp .NotEq) (rDeep X.K true) := by
  intro pins s σ H x y v u Q I rx ry h
  obtain ⟨d, e, hd, he, sd, se, hl, q⟩ := h
  obtain ⟨as, r1⟩ := Dp.reads I d x v hd rx
  obtain ⟨bs, r2⟩ := Dp.reads I e y u he ry
  exact SeqAt.ne_plain r1 r2 sd se (by have := Nat.min_le_left d.depth e.depth; omega) ⟨.bl _, H, I, rfl, q⟩
end
end Pf

set_option Elab.async false
set_option maxRecDepth 100000
set_option linter.all false
set_option maxHeartbeats 4000000
/-! An own exception over ValueError whose __init__ keeps a copy and says super().__init__(it). -/
namespace Pf
open PySem PySem.Spec L2 PyProof.Rows NdefX
/-- a method of the text that says super(): its cell holds the class at C -/
structure FunC (P : Program) (K : PySem.W.Frag) (x qual : Str) (st : Stmt) (f C : Addr) (fd : FuncData) : Prop where
  ex : ∃ (oc : Value) (od : Option Addr) (doc pm : Value) (an : Option Addr) (cda cc : Addr) (ct : Value) (osl : Array (Option Value)) (ccl : Value) (cdd : Option Addr) (vs : Array Value) (ccs : Array (Option Value)) (file : Str) (tf : Tok) (cl : Value) (cld : Option Addr) (csl : Array (Option Value)) (kV : Value),
    fd = PySem.W.ksFn x qual (defArgs st) (defBody st) (defScope st) .none kV doc pm an (.ref cda) ct cc ∧ K.lookup f = some ⟨oc, od, .func fd, osl⟩ ∧ PySem.W.codeIn K (.ref cda) qual = true ∧
      K.lookup cda = some ⟨ccl, cdd, .fields vs, ccs⟩ ∧ vs[2]? = some (.str file tf) ∧ ((P.main.file : Str) == file) = true ∧ K.lookup cc = some ⟨cl, cld, .cell (some (.ref C)), csl⟩
def spExI (C : Addr) (n : Str) (spc : Sp) : Sp := fun vs H Q _ => ∃ (a : Addr) (v : V), vs = [.ref a, v] ∧ H a = some (exo a C none) ∧
  spc [v] H (fun y H1 => H1 a = some (exo a C none) ∧ ∀ dx, H1 dx = none → dx ≠ a → Q .non (upd (upd H1 dx (exd dx [(n, y)])) a (exo a C (some dx)))) C8.E0
/-- the body's form -/
def exiBody (n : Str) (p1 p2 p3 p4 p5 p6 p7 p8 p9 q1 q2 q3 q4 : Pos) : List Stmt :=
  [.Assign [.Attribute (.Name "self" p1) n p2] (.Call (.Name "own_copy" p3) [.Name n p4] [] p5) p6,
   .Expr (.Call (.Attribute (.Call (.Name "super" p7) [] [] p8) "__init__" p9) [.Attribute (.Name "self" q1) n q2] [] q3) q4]
/-- how the second row's call is taken apart -/
def exiEv (n : Str) (p7 p8 p9 q1 q2 q3 : Pos) : Prop := ∀ env : Env, ∃ pl : Sem Bool, eval (.Call (.Attribute (.Call (.Name "super" p7) [] [] p8) "__init__" p9) [.Attribute (.Name "self" q1) n q2] [] q3) env = (do
  let ov ← attributeBase (.Call (.Name "super" p7) [] [] p8) "__init__" env (eval (.Call (.Name "super" p7) [] [] p8) env)
  standAt p9.atName
  let (f, first) ← holding [ov] (getMethod ov "__init__" pl)
  callWith q3 f first (backTo q3 (starEach [.Attribute (.Name "self" q1) n q2] env)) [])
/-- what the class must have besides -/
structure ExiC (P : Program) (K : PySem.W.Frag) (mg : Str → Option Value) (C : Addr) (n : Str) : Prop where
  T : OexC K C
  X : XfC K C
  no : PySem.W.findIn K (.ref C) n = some none
  top : (P.main.scope.names.lookup ("super" : Str)).isSome = false
  sup : mg "super" = none
  op : PySem.W.nsIn K cStatics "thirdparty.any" = some none
  si : PySem.W.ks_superIn K C C "__init__" = some (some (.builtin "ValueError.__init__"))
  mro : PySem.W.mroIn K C (.ref C) = some true
  sub : PySem.W.subIn K (.ref C) (.type "ValueError") = some true
/-- reading a field of an exception that is being made -/
theorem exo_get {X : Cx} {pins : List (Addr × Obj)} {σ : L2.St} {H : Hp} {s : Shared} {a C dx : Addr} {n : Str} {y : V} {expr : Bool} {E : Value → Shared → Prop} {Q : Value → Shared → Prop} (XF : XfC X.K C) (hno : PySem.W.findIn X.K (.ref C) n = some none)
    (I : L2.Inv X pins σ H s) (ha : H a = some (exo a C (some dx))) (hd : H dx = some (exd dx [(n, y)])) (h : ∀ u, RelV y u → Q u { s with toks := s.toks + 1 }) : wpAny (model X.prog X.w) X.A (getAttr (.ref a) n expr) Q E s := by
  obtain ⟨t1, ho⟩ := exo_at I.hok ha
  obtain ⟨mA, hns, hr⟩ := exd_at I.hok hd
  obtain ⟨od, hod, hl⟩ := lookIn_ns hns
  have l : List.lookup n [(n, y)] = some y := by simp [List.lookup]
  obtain ⟨u, hu, ru⟩ := RelO.some_of (v := y) (o := mA n) (by rw [← l]; exact hr n)
  have J : PySem.W.InstAt s.heap a _ C (some od) := ⟨ho, rfl, rfl, hod⟩
  exact HandSPX.exc_get I.kIn J XF.ga XF.gg XF.exC (PySem.W.findObj_own XF.hdC hno rfl (by rw [hl, hu])) (handed_of ru) (h u ru)
/-- the bound __init__ called: the args are laid anew, all else is kept -/
theorem call_wrap {P : Program} {w : World} {K : PySem.W.Frag} {A : Around} {E : Value → Shared → Prop} {s : Shared} {C u x t0 : Addr} {dv : Option Addr} {rest : List Value} {Q : Value → Shared → Prop} (T : OexC K C) (KX : K.In s.heap)
    (hu : s.heap.get? u = some (PySem.W.kxs_mw "ValueError.__init__" x)) (hx : s.heap.get? x = some ({ cls := .ref C, dict := dv, data := .fields #[.ref t0, .none, .none, .none, .bool false, .none] } : Obj)) (hz : rest.length ≤ sizeLine)
    (hq : ∀ h' t1, (∀ b o, b ≠ x → s.heap.get? b = some o → h'.get? b = some o) → h'.get? x = some ({ cls := .ref C, dict := dv, data := .fields #[.ref t1, .none, .none, .none, .bool false, .none] } : Obj) → Q .none { s with heap := h' }) :
    wpAny (model P w) A (call (.ref u) rest) Q E s := by
  obtain ⟨nm, q, N, bs, bm, sn, sub, ab, col, dd, k0, k1, k2, k3, k5, hC, hbm⟩ := T.cls
  obtain ⟨hh, g, d, tk, os⟩ := s
  have FB := F.excBase_ValueError
  have tree : wpAny (model P w) A.in1 (callAny (.ref u) ⟨rest, []⟩) (fun fin s' => match fin with | .done f => wants Q E (.ok f) s' | .again c' => c'.quiet = true ∧ codeAny (model P w) A c' (wants Q E) s') (fun e s' => wants Q E (.error e) s') ⟨hh, g, d, tk, os⟩ := by
    simp only [callAny]
    refine wpAny_bind (wpAny_load hu (PySem.W.KFB.if_so (by show (Value.type "method-wrapper" == Value.type "method" || Value.type "method-wrapper" == Value.type "builtin_function_or_method" || Value.type "method-wrapper" == Value.type "method-wrapper") = true; decide) (wpAny_bind (PySem.W.check_bound_init FB.toExcCallFacts (KX _ _ hC) hx rfl (wpAny_bind (wpAny_pure (wpAny_pure ⟨plainId_quiet FB.init.plain _, ?_⟩)))))))
    refine codeAny_builtin FB.initEntry (PySem.W.exc_init_tree (cls := .ref C) (t0 := t0) (dv := dv) (c2 := .none) (c3 := .none) (b4 := .bool false) hx hz fun h' k e _ => hq h' _ k e)
  exact wpAny_call (codeAny_of_tree tree)
section
variable {P : Program} {w : World} {K : PySem.W.Frag} {mg : Str → Option Value} {base : Heap}
theorem ok_exi {n qual : Str} {C f : Addr} {fd : FuncData} {st : Stmt} {k : Nat} {spc : Sp} {ar : Arg} {p1 p2 p3 p4 p5 p6 p7 p8 p9 q1 q2 q3 q4 : Pos} (hb : defBody st = exiBody n p1 p2 p3 p4 p5 p6 p7 p8 p9 q1 q2 q3 q4)
    (hev : exiEv n p7 p8 p9 q1 q2 q3) (hab : ∀ env : Env, attributeBase (.Name "self" q1) n env (eval (.Name "self" q1) env) = eval (.Name "self" q1) env) (har : ((defArgs st).posonlyargs ++ (defArgs st).args).head? = some ar) (hself : ar.arg = "self") (S : NScope ["self", n, "__class__"] ["self", n] ["__class__"] (defScope st))
    (hks : (defScope st).names.lookup ("super" : Str) = some .globalImplicit) (hoc : (defScope st).names.lookup ("own_copy" : Str) = some .globalImplicit) (hn1 : (n == ("__debug__" : Str)) = false) (hn2 : (n == ("__classdict__" : Str)) = false)
    (T : ExiC P K mg C n) (FC : FunC P K "__init__" qual st f C fd) (Cc : C8.Cal P w K mg base k "own_copy" spc []) (mono : ∀ vs H (Q Q' : VK) E, (∀ v H, Q v H → Q' v H) → spc vs H Q E → spc vs H Q' E) : FnOk P w K mg base CX0 (k + 1) f fd ["self", n] (spExI C n spc) := by
  obtain ⟨oc, od, doc, pm, an, cda, cc, ct, osl, ccl, cdd, cvs, ccs, file, tf, cl, cld, csl, kV, rfl, lk, hcd, lc, hvs, hfile, lcc⟩ := FC.ex
  refine ⟨fun vs H Q E h => by obtain ⟨a, v, rfl, _⟩ := h; rfl, fun A outer s H args us vs Q E hr e0 hbind r hsp => ?_⟩
  obtain ⟨a, v, rfl, ha, hsp⟩ := hsp
  have KX : K.In s.heap := e0.mod.kin.keeps fun b o e => (e0.bs b o e).1
  have lim : s.heap.NoLimit := e0.mod.nolimit.keeps fun b o e => (e0.bs b o e).1
  let F : NF := ⟨"__init__", qual, defArgs st, defBody st, defScope st, [("__class__", cc)], cda⟩
  have hccB := e0.bs cc _ (e0.mod.kin cc _ lcc)
  have hcell : s.heap.IsCell cc (some (.ref C)) := ⟨_, hccB.1, rfl⟩
  have lkc : ∀ y c, ([("__class__", cc)] : List (Str × Addr)).lookup y = some c → y = "__class__" ∧ c = cc := fun y c z => by
    by_cases e : y = ("__class__" : Str)
    · subst e
      simp [List.lookup] at z
      exact ⟨rfl, z.symm⟩
    · have e' : (y == ("__class__" : Str)) = false := by simpa using e
      simp [List.lookup, e'] at z
  have CA : CellsAt F.cl ["__class__"] [some (.ref C)] s.heap H := ⟨rfl, fun y c z => by
      obtain ⟨_, rfl⟩ := lkc y c z
      exact ⟨hccB.2, _, hcell⟩, fun x y c z1 z2 => by rw [(lkc x c z1).1, (lkc y c z2).1], fun i y hi => by
      cases i with
      | zero =>
        simp at hi
        subst hi
        refine ⟨cc, by simp [F, List.lookup], fun v hv => ?_⟩
        simp at hv
        subst hv
        exact ⟨_, rfl, hcell⟩
      | succ i => simp at hi⟩
  refine PySem.ks_codeAny_call_defAt hr.depth (KX _ _ lk) rfl lim (PySem.W.codeRec_of KX hcd) rfl hbind S.nocell (fun ⟨m, _⟩ hy => S.par m (List.of_mem_zip hy).1) (fun h₁ hns kp => ?_) S.co S.gen S.kind
  have I : L2.Inv (ncx CX0 P w K mg base ["self", n, "__class__"] F f A outer s H E) [] (startF ["self", n, "__class__"] [.ref a, v] [some (.ref C)]) H { s with heap := h₁, toks := s.toks + ((["self", n] : List Str).zip us).length } := inv_startN S hr.hd e0 rfl r CA hns kp
  have hr' := hr.deeper (envF F f s.heap.objs.size)
  have hself' : (defScope st).names.lookup ("self" : Str) = some .local := S.par _ (by simp)
  have hnl : (defScope st).names.lookup n = some .local := S.par _ (by simp)
  have hcl : (defScope st).names.lookup ("__class__" : Str) = some .free := S.frk _ (by simp)
  have st1 := ps_ost (X := ncx CX0 P w K mg base ["self", n, "__class__"] F f A outer s H E) (p' := p2) (pos := p6) (f := n) (pe_var (pos := p1) (i := 0) (x := "self") rfl (.inl hself') (by decide) (by decide))
    (C8.pe_c (p := p3) (pos := p5) Cc hr' (Nat.le_refl _) hoc (pa_cons (pe_var (pos := p4) (i := 1) (x := n) rfl (.inl hnl) hn1 hn2) pa_nil))
  rw [hb]
  refine PySem.ks_wpAt_execs_cons (wpAt_of_wpAny (wpAny_mono (st1.run [] _ _ H { nx := fun σ' H' => σ' = startF ["self", n, "__class__"] [.ref a, v] [some (.ref C)] ∧ ∃ dx y, H' a = some (exo a C (some dx)) ∧ H' dx = some (exd dx [(n, y)]) ∧ Q .non H', rt := fun _ _ => False } I ?_) (fun fl s1 hs => ?_) fun _ _ z => z))
  · refine ⟨v, rfl, mono _ _ _ _ _ (fun y H1 ⟨g1, g2⟩ => ?_) hsp⟩
    refine ⟨_, rfl, a, C, rfl, T.T, T.no, .inl ⟨g1, fun dx hdx hne => ⟨rfl, dx, y, upd_same, ?_, g2 dx hdx hne⟩⟩⟩
    rw [upd_ne hne, upd_same]
  cases fl with
  | brk => obtain ⟨_, _, _, z⟩ := hs; exact False.elim z
  | cont => obtain ⟨_, _, _, z⟩ := hs; exact False.elim z
  | ret u => obtain ⟨_, _, _, _, _, z⟩ := hs; exact False.elim z
  | next =>
    obtain ⟨σ1, H1, I1, rfl, dx, y, ha1, hd1, hQ⟩ := hs
    obtain ⟨pl, hev⟩ := hev (envF F f s.heap.objs.size)
    refine PySem.ks_wpAt_execs_cons (PySem.ks_wpAt_Expr_any (PySem.ks_wpAt_MethodCall ?_ hev) (by show interactive (envF F f s.heap.objs.size) = false; unfold interactive; rw [show (envF F f s.heap.objs.size).scope.kind = .function from S.kind]; rfl))
    obtain ⟨t1, ho1⟩ := exo_at I1.hok ha1
    have KX1 : K.In s1.heap := I1.kIn
    obtain ⟨nm, q, N, bs, bm, sn, sub, ab, col, dd, k0, k1, k2, k3, k5, hC, hbm⟩ := T.T.cls
    have clC : PySem.W.clsIn K C = some { name := nm, bases := bs, mro := .ref C :: bm, ns := N, qualname := q, hasDict := true, slotNames := sn, subclasses := sub, abstract := ab, collection := col, hasDel := false } := by unfold PySem.W.clsIn; rw [hC] <;> rfl
    have hC1 := KX1 _ _ hC
    obtain ⟨m1, hn1', hl1⟩ := I1.loc
    obtain ⟨us, rus, hlook⟩ := hl1 0 "self" (.ref a) rfl rfl (.inl hself')
    obtain rfl : us = Value.ref a := rus
    have hm1 : m1 "self" = some (.ref a) := by
      rcases hlook with ⟨_, z⟩ | ⟨z, _⟩
      · exact z
      · have z' : (defScope st).names.lookup ("self" : Str) = some .cell ∨ (defScope st).names.lookup ("self" : Str) = some .free := z
        rw [hself'] at z'
        rcases z' with z' | z' <;> cases z'
    refine PySem.ks_wpAt_super_base (env := envF F f s.heap.objs.size) hks hcl (by decide) rfl (KX1 _ _ lk) rfl har rfl (KX1 _ _ lc) rfl hvs hfile T.top ?_
    obtain ⟨mb, hmb, hbb⟩ := I1.mod.blt
    refine PySem.W.ks_loadName_global S.kind hks (Calls.loadGlobal_builtin (env := envF F f s.heap.objs.size) (I1.mod.glob.keeps I1.bk) T.sup (hmb.keeps I1.bk) ((hbb _ (by decide)).trans (by decide +kernel : bootBuiltins "super" = some (.type "super"))) ⟨rfl, ?_⟩)
    refine wpAny_loadName_free S.kind hcl rfl ⟨_, KX1 _ _ lcc, rfl⟩ ?_
    rw [hself]
    refine wpAny_loadName_local S.kind hself' hn1' hm1 ?_
    refine PySem.ks_wpAny_isType_cls hC1 rfl ⟨rfl, ?_⟩
    obtain ⟨hh, g, d, tk, os⟩ := s1
    refine PySem.ks_wpAny_call_super (h := hh) hC1 rfl ho1 rfl (fun c e => by cases e) (PySem.W.looks_mroIn KX1 T.mro) fun h2 hso k2 => ?_
    have I2 := I1.kept (t' := tk) k2
    have KX2 : K.In h2 := I2.kIn
    have ho2 := k2 _ _ ho1
    have hsup := T.si
    unfold PySem.W.ks_superIn at hsup
    rw [clC] at hsup
    obtain ⟨mA, ⟨od2, es2, ep2, hod2, _⟩, _⟩ := exd_at I2.hok hd1
    have J2 : PySem.W.InstAt h2 a _ C (some od2) := ⟨ho2, rfl, rfl, hod2⟩
    refine PySem.W.kxs_getMethod PySem.W.kxs_ValueError hso (PySem.W.looks_opaque KX2 T.op) (l₀ := .ref C :: bm) (fun A Q E s k q => wpAny_bind ((PySem.W.looks_clsIn KX2 clC) A _ E s k (wpAny_pure q))) rfl KX2 hsup (J2.type.andThen (PySem.W.looks_subIn KX2 T.sub)) (PySem.W.ks_ne KX2 J2 clC) (by decide) ?_
    have I3 := I2.kept (t' := tk + 1) (h' := h2.push (PySem.W.kxs_mw "ValueError.__init__" a)) fun b o e => Heap.get?_push_of_some _ e
    have hw : (h2.push (PySem.W.kxs_mw "ValueError.__init__" a)).get? h2.objs.size = some (PySem.W.kxs_mw "ValueError.__init__" a) := Heap.get?_push_size _ rfl
    refine PySem.W.kxs_callWith (i := "ValueError.__init__") (x := a) (by rfl) (Calls.evalArgs_plain ?_)
    show wpAny _ _ (spliced ((false, eval (.Attribute (.Name "self" q1) n q2) (envF F f s.heap.objs.size)) :: backTo q3 (starEach [] (envF F f s.heap.objs.size)))) _ _ _
    have hn3 := hn1'.at (h' := h2.push (PySem.W.kxs_mw "ValueError.__init__" a)) fun o e => Heap.get?_push_of_some _ (k2 _ _ e)
    refine Calls.spliced_cons (attr_of (hab _) (wpAny_Name (wpAny_loadName_local S.kind hself' hn3 hm1 ?_) (by decide)))
    refine exo_get (X := ncx CX0 P w K mg base ["self", n, "__class__"] F f A outer s H E) T.X T.no I3 ha1 hd1 fun u ru => Calls.spliced_nil ⟨hw, ?_⟩
    refine call_wrap T.T I3.kIn hw (Heap.get?_push_of_some _ ho2) (by show 1 ≤ sizeLine; decide) fun h4 t4 k4 hx4 => ?_
    have J := I3.write (t' := tk + 1 + 1) (x := a) (e := a) (o := exo a C (some dx)) (by rw [ha1]; exact True.intro) (.inl rfl) k4 ⟨_, hx4⟩ (exo_ok hx4)
    have eu : upd H1 a (exo a C (some dx)) = H1 := by
      funext b
      by_cases z : b = a
      · subst z; rw [upd_same, ha1]
      · rw [upd_ne z]
    rw [eu] at J
    exact wpAt_of_wpAny (wpAny_pure ⟨V.non, H1, J.os, J.bare, J.base, J.hok, rfl, hQ⟩)
end
end Pf

set_option Elab.async false
set_option maxRecDepth 100000
set_option linter.all false
set_option maxHeartbeats 4000000
/-! Own exceptions whose base's __new__ is that of a class B further up: they are made. -/
namespace Pf
open PySem PySem.Spec L2 PyProof.Rows NdefX PySem.HandSPX
/-- what the rest bm of the order of the class says of B -/
structure TailB (bm : List Value) (B : String) : Prop where
  hasB : bm.contains (.type B) = true
  noA : bm.contains (.type "AttributeError") = false
  noN : bm.contains (.type "NameError") = false
section
variable {prog : Program} {w : World} {A : Around} {E : Value → Shared → Prop} {R : Result → Shared → Prop} {h : Heap} {g : Array GenState} {d : Drawn} {t : Nat} {os : OsState}
  {nm q : Str} {C N : Addr} {bs bm bmB : List Value} {hdct : Bool} {sn : List Str} {sub : List Value} {ab : Bool} {col : Option Bool} {dd : Option Addr}
  {k0 k1 k2 k3 k5 : Option Value} {B newId initId : String} {rest : List Value}
theorem TailB.b (T : TailB bm B) (C : Addr) : (Value.ref C :: bm).contains (.type B) = true := by
  rw [List.contains_cons, T.hasB]
  exact Bool.or_true _
theorem TailB.a (T : TailB bm B) (C : Addr) : (Value.ref C :: bm).contains (.type "AttributeError") = false := by
  rw [List.contains_cons, T.noA]
  rfl
theorem TailB.n (T : TailB bm B) (C : Addr) : (Value.ref C :: bm).contains (.type "NameError") = false := by
  rw [List.contains_cons, T.noN]
  rfl
abbrev Oc (nm q : Str) (C N : Addr) (bs bm : List Value) (hdct : Bool) (sn : List Str) (sub : List Value) (ab : Bool) (col : Option Bool) (dd : Option Addr) (k0 k1 k2 k3 k5 : Option Value) (newId : String) : Obj := excClassObj nm q C N bs bm hdct sn sub ab col dd k0 k1 k2 k3 k5 newId
theorem chk_new {M : Model} (F : ExcBaseFacts B newId initId bmB) (T : TailB bm B) {Q : Unit → Shared → Prop} (hC : h.get? C = some (Oc nm q C N bs bm hdct sn sub ab col dd k0 k1 k2 k3 k5 newId))
    (hq : Q () ⟨h, g, d, t, os⟩) : wpAny M A (checkBuiltinCall newId ⟨.ref C :: rest, []⟩) Q E ⟨h, g, d, t, os⟩ := by
  have c1 := T.b C
  have c2 := F.noStar
  simp only [checkBuiltinCall, F.newKind, F.newSplit, F.newRow]
  repeat (first
    | refine wpAny_loadPart_at hC ?_
    | (refine wpAny_isSubtype_exc hC ?_; rw [c1])
    | refine wpAny_staticBase_exc hC ?_
    | refine wpAny_madeBy_exc hC ?_
    | simp only [bne_self_eq_false, Bool.false_eq_true, if_false]
    | wp_step)
  exact hq
theorem mk_new (F : ExcBaseFacts B newId initId bmB) (T : TailB bm B) (hC : h.get? C = some (Oc nm q C N bs bm hdct sn sub ab col dd k0 k1 k2 k3 k5 newId)) (hz : rest.length ≤ sizeLine)
    (hq : R (.ok (.ret (.ref (h.objs.size + 1)))) ⟨(h.push (PySem.W.kdv_tup rest)).push (excO C h.objs.size), g, d, t, os⟩) :
    codeAny (model prog w) A (.builtin newId ⟨.ref C :: rest, []⟩) R ⟨h, g, d, t, os⟩ := by
  have c0 := F.ends
  have c1 := T.b C
  have c2 := T.a C
  have c3 := T.n C
  have hrest := hz
  refine codeAny_builtinAt F.entry ?_
  unfold Builtin.«BaseException.__new__»
  refine PySem.wpAt_bind ?_
  show PySem.wpAt _ _ _ (stack >>= _) _ _ _
  refine PySem.wpAt_bind (PySem.wpAt_stack fun p below => PySem.wpAt_of_wpAny ?_)
  wp_walk
  refine PySem.wpAt_of_wpAny ?_
  rw [F.owner]
  repeat (first
    | with_reducible refine wpAny_madeHere_exc F.canon hC ?_
    | with_reducible refine wpAny_loadPart_at hC ?_
    | (with_reducible refine wpAny_isSubtype_exc hC ?_; first | rw [c1] | rw [c2] | rw [c3])
    | wp_step)
  show R _ _
  rw [Heap.size_push]
  exact hq
theorem type_call {fI : Addr} {Q : PySem.Fin → Shared → Prop} (F : ExcBaseFacts B newId initId bmB) (T : TailB bm B) (hC : h.get? C = some (Oc nm q C N bs bm hdct sn sub ab col dd k0 k1 k2 k3 k5 newId))
    (hi : PySem.W.Looks (model prog w) h (typeLookup (.ref C) "__init__") (some (.ref fI)))
    (hb : ∀ self, PySem.W.Looks (model prog w) h (bindSpecial (.ref fI) self) (.ref fI, [self])) (hz : rest.length ≤ sizeLine)
    (hq : codeAny (model prog w) A (.call (.ref fI) ⟨.ref (h.objs.size + 1) :: rest, []⟩)
      (fun r s' => match r with
        | .ok (.ret v) => v = .none ∧ Q (.done (.ret (.ref (h.objs.size + 1)))) s'
        | .ok _ => False
        | .error e => E e s')
      ⟨(h.push (PySem.W.kdv_tup rest)).push (excO C h.objs.size), g, d, t, os⟩) :
    wpAny (model prog w) A (Builtin.«type.__call__» ⟨.ref C :: rest, []⟩) Q E ⟨h, g, d, t, os⟩ := by
  repeat (first
    | with_reducible refine wpAny_loadPart_at hC ?_
    | with_reducible refine wpAny_madeBy_exc hC ?_
    | wp_step)
  refine codeAny_call_builtin_code (Code.quiet_builtin _ F.quiet) (chk_new F T hC ?_)
  refine mk_new F T hC hz ?_
  show wpAny _ _ _ _ _ _
  have kp : ∀ b o, h.get? b = some o → ((h.push (PySem.W.kdv_tup rest)).push (excO C h.objs.size)).get? b = some o :=
    fun b o e => Heap.get?_push_of_some _ (Heap.get?_push_of_some _ e)
  have hC2 := kp _ _ hC
  have hx : ((h.push (PySem.W.kdv_tup rest)).push (excO C h.objs.size)).get? (h.objs.size + 1) = some (excO C h.objs.size) := by heap_get
  have c4 : (Value.ref C :: bm).contains (.ref C) = true := by simp
  have i2 := hi.keeps kp
  have b2 := (hb (.ref (h.objs.size + 1))).keeps kp
  unfold isInstance
  repeat (first
    | with_reducible refine wpAny_loadPart_at hx ?_
    | (with_reducible refine wpAny_isSubtype_exc hC2 ?_; rw [c4])
    | wp_step)
  show wpAny _ _ (typeLookup (.ref C) _) _ _ _
  refine i2.at ?_
  refine wpAny_holding (wpAny_bind (b2.at ?_))
  refine wpAny_bind (wpAny_call (codeAny_mono hq fun r s' z => ?_))
  rcases r with e | (v | _ | _ | _) <;> first | exact z | exact z.elim | skip
  obtain ⟨rfl, z⟩ := z
  first
    | exact wpAny_pure (wpAny_pure z)
    | (wp_walk; exact z)
theorem call_ownB {fI : Addr} (F : ExcBaseFacts B newId initId bmB) (T : TailB bm B) (hC : h.get? C = some (Oc nm q C N bs bm hdct sn sub ab col dd k0 k1 k2 k3 k5 newId))
    (hi : PySem.W.Looks (model prog w) h (typeLookup (.ref C) "__init__") (some (.ref fI)))
    (hb : ∀ self, PySem.W.Looks (model prog w) h (bindSpecial (.ref fI) self) (.ref fI, [self])) (hz : rest.length ≤ sizeLine)
    (hq : codeAny (model prog w) (A.under (.builtin "type.__call__" ⟨.ref C :: rest, []⟩)) (.call (.ref fI) ⟨.ref (h.objs.size + 1) :: rest, []⟩) (PySem.W.InitBack (h.objs.size + 1) R)
      ⟨(h.push (PySem.W.kdv_tup rest)).push (excO C h.objs.size), g, d, t, os⟩) :
    codeAny (model prog w) A (.call (.ref C) ⟨rest, []⟩) R ⟨h, g, d, t, os⟩ := by
  have f1 := tc_lookup
  have f2 := tc_bind (.ref C)
  have tyC : (⟨h, g, d, t, os⟩ : Shared).TypeIs (.ref C) "type" := ⟨_, hC, rfl⟩
  refine codeAny_of_tree ?_
  show wpAny _ _ (callAny (.ref C) _) _ _ _
  repeat (any_goals (first | assumption | with_reducible refine wpAny_loadPart_at hC ?_ | wp_step))
  refine ⟨rfl, codeAny_call_builtin_at (Code.quiet_builtin _ (by decide +kernel)) entry_typeCall (wpAny_check_type_call_sub hC (type_call F T hC hi hb hz ?_))⟩
  refine codeAny_mono hq fun r s' z => ?_
  rcases r with e | (v | _ | _ | _) <;> exact z
end
end Pf

set_option Elab.async false
set_option maxRecDepth 100000
set_option linter.all false
set_option maxHeartbeats 4000000
/-! self.f = v on an own exception over any base. -/
namespace Pf
open PySem PySem.Spec L2 PyProof.Rows NdefX PySem.HandSPX Builtin Builtin.ObjectAttr
/-- what a store asks of the order of the class -/
structure OsaM (mro : List Value) : Prop where
  ne : mro.isEmpty = false
  ob : mro.contains (.type "object") = true
  pass : ∀ self, refuseLoop self "__setattr__" mro = pure ()
section
variable {prog : Program} {w : World} {A : Around} {R : Result → Shared → Prop} {hp : Heap} {g : Array GenState} {d : Drawn} {t : Nat} {os : OsState}
theorem osaB {K : PySem.W.Frag} {name : Str} {tk : Tok} {v : Value} {x C : Addr} {fv : Array Value} {cd : ClassData} (X : K.In hp) (hx : hp.get? x = some { cls := .ref C, data := .fields fv })
    (hcd : PySem.W.clsIn K C = some cd) (M : OsaM cd.mro) (hh : cd.hasDict = true) (ha : PySem.W.findIn K (.ref C) name = some none)
    (hq : ∀ h' tk' dx, (∀ b o, b ≠ x → hp.get? b = some o → h'.get? b = some o) → hp.objs.size ≤ dx → dx ≠ x →
      h'.get? x = some { cls := .ref C, dict := some dx, data := .fields fv } → h'.Ns1 dx (fun y => if y = name then some v else none) → R (.ok (.ret .none)) ⟨h', g, d, tk', os⟩) :
    codeAny (model prog w) A (.call (.builtin "object.__setattr__") ⟨[.ref x, .str name tk, v], []⟩) R ⟨hp, g, d, t, os⟩ := by
  have J : PySem.W.InstAt hp x { cls := .ref C, data := .fields fv } C none := ⟨hx, rfl, rfl, trivial⟩
  have SO := F.store_object
  have hne : x ≠ hp.objs.size := Nat.ne_of_lt (Heap.lt_size hx)
  have hmi : PySem.W.mroIn K C (.type "object") = some true := by
    unfold PySem.W.mroIn
    rw [hcd, Option.bind_some, if_neg (by rw [M.ne]; decide), M.ob]
  have sub : PySem.W.Looks (model prog w) hp (isInstance (.ref x) (.type "object")) true := J.type.andThen (PySem.W.looks_mroIn X hmi)
  refine codeAny_call_builtin SO.slot.plain SO.entry ?_
  refine @PySem.W.check_slot (model prog w) _ _ ⟨hp, g, d, t, os⟩ "object.__setattr__" "object" "__setattr__" (.ref x) [.str name tk, v] [] _ SO.kind SO.split sub (SO.args _ _ _) ?_
  have l1 : PySem.W.Looks (model prog w) hp (mroOf (.ref C)) cd.mro := (PySem.W.looks_clsIn X hcd).andThen .now
  have l2 : PySem.W.Looks (model prog w) hp (storeTaker? none) none := .now
  have l3 : PySem.W.Looks (model prog w) hp (classData C) cd := PySem.W.looks_clsIn X hcd
  rw [PySem.W.osa_eq, refuse_eq]
  refine wpAny_bind (wpAny_bind (J.type.at (wpAny_bind (l1.at ?_))))
  rw [M.pass]
  refine wpAny_pure (wpAny_bind (J.type.at (wpAny_bind ((PySem.W.looks_findIn X ha).at (wpAny_bind (l2.at ?_))))))
  show wpAny _ _ (storeInOwnDict (.ref x) (.ref C) (.str name tk) name v false) _ _ _
  obtain ⟨nm, bs, mro, ns, qn, hd, sn, sb, ab, col, del⟩ := cd
  dsimp only at hh
  subst hh
  unfold storeInOwnDict ownDictForStores
  repeat (first
    | with_reducible refine store_in_new ?_ ?_
    | with_reducible refine wpAny_loadPart_at hx ?_
    | with_reducible refine l3.at ?_
    | wp_step)
  · exact ⟨_, #[], _, (Heap.get?_update_ne _ _ _ _ hne.symm).trans (Heap.get?_push_at rfl rfl), rfl, fun e he => absurd he (by simp), fun _ => rfl⟩
  · intro h' tk' hn' hs
    refine hq h' tk' hp.objs.size (fun b o hb ho => ?_) (Nat.le_refl _) hne.symm ?_ hn'
    · exact (hs.2 b (Nat.ne_of_lt (Heap.lt_size ho))).trans ((Heap.get?_update_ne _ _ _ _ hb).trans (Heap.get?_push_of_some _ ho))
    · exact (hs.2 x hne).trans (Heap.get?_update_self _ (Heap.get?_push_of_some _ hx) rfl)
end
end Pf

set_option Elab.async false
set_option maxRecDepth 100000
set_option linter.all false
set_option maxHeartbeats 4000000
/-! Own exceptions over any base: the class, and self.f = v in its __init__. -/
namespace Pf
open PySem PySem.Spec L2 PyProof.Rows NdefX PySem.HandSPX
/-- the class at C; B has the __new__ -/
structure OexB (K : PySem.W.Frag) (C : Addr) (B newId : String) : Prop where
  cls : ∃ nm q N bs bm sn sub ab col dd k0 k1 k2 k3 k5, K.lookup C = some (Oc nm q C N bs bm true sn sub ab col dd k0 k1 k2 k3 k5 newId) ∧ OsaM (.ref C :: bm) ∧ TailB bm B
  sa : PySem.W.findIn K (.ref C) "__setattr__" = some (some (.builtin "object.__setattr__"))
  exC : PySem.W.subIn K (.ref C) (.type "BaseException") = some true
  tyC : PySem.W.typeIn K (.ref C) = some (.type "type")
  kC : PySem.W.keepIn K (.ref C) = true
theorem OexB.data {K : PySem.W.Frag} {C : Addr} {B newId : String} (T : OexB K C B newId) : ∃ cd : ClassData, PySem.W.clsIn K C = some cd ∧ OsaM cd.mro ∧ cd.hasDict = true := by
  obtain ⟨nm, q, N, bs, bm, sn, sub, ab, col, dd, k0, k1, k2, k3, k5, hC, hM, _⟩ := T.cls
  refine ⟨{ name := nm, bases := bs, mro := .ref C :: bm, ns := N, qualname := q, hasDict := true, slotNames := sn, subclasses := sub, abstract := ab, collection := col, hasDel := false }, ?_, hM, rfl⟩
  unfold PySem.W.clsIn
  rw [hC] <;> rfl
section
variable {X : Cx} {pins : List (Addr × Obj)} {σ : L2.St} {H : Hp} {s : Shared} {a C : Addr} {f : Str} {y : V} {u : Value} {B newId : String}
theorem ost_newB {Q : Unit → Shared → Prop} {E : Value → Shared → Prop} {A : Around} (T : OexB X.K C B newId) (I : L2.Inv X pins σ H s) (e : H a = some (exo a C none))
    (hno : PySem.W.findIn X.K (.ref C) f = some none) (ry : RelV y u)
    (h : ∀ dx s', H dx = none → dx ≠ a → L2.Inv X pins σ (upd (upd H dx (exd dx [(f, y)])) a (exo a C (some dx))) s' → Q () s') : wpAny (model X.prog X.w) A (setAttr (.ref a) f u) Q E s := by
  obtain ⟨cd, hcl, hM, hD⟩ := T.data
  obtain ⟨t1, ho⟩ := exo_at I.hok e
  obtain ⟨hp, g, d, t, os⟩ := s
  refine PySem.W.set_plain I.kIn (od := none) ⟨ho, rfl, rfl, trivial⟩ T.sa (osaB I.kIn ho hcl hM hD hno fun h' tk' dx k dn dne hx hn => ?_)
  have n0 : H dx = none := I.hok.fresh dn
  have n1 : ∀ {b : Addr} {o : Obj}, hp.get? b = some o → b ≠ dx := fun {b o} q => Nat.ne_of_lt (Nat.lt_of_lt_of_le (Heap.lt_size q) dn)
  have n2 : ∀ {b : Addr}, H b = none → b ≠ a := fun n z => by rw [z, e] at n; cases n
  have U : L2.Un X.fs [] H (upd (upd H dx (exd dx [(f, y)])) a (exo a C (some dx))) hp h' := by
    refine ⟨fun b o q n _ _ => k b o (n2 n) q, fun b o q n _ _ => ⟨o.slots, k b o (n2 n) q⟩, fun b o q n _ => ?_, fun b o q _ => ?_, fun b xs q => ?_, fun b o v q => ?_, fun b ps q => ?_⟩
    · rw [upd_ne (n2 n), upd_ne (n1 q)]; exact n
    · by_cases hb : b = a
      · exact ⟨_, by rw [hb]; exact hx⟩
      · exact ⟨o, k b o hb q⟩
    · rw [upd_ne (at_ne e q exo_tup), upd_ne (ne_of_none q n0)]; exact q
    · rw [upd_ne (at_ne e q exo_frz), upd_ne (ne_of_none q n0)]; exact q
    · exact ⟨#[], by rw [upd_ne (at_ne e q exo_tbl), upd_ne (ne_of_none q n0), q]; simp⟩
  refine h dx _ n0 dne (I.un (t' := tk') U fun b o q => ?_)
  by_cases hb : b = a
  · subst hb
    rw [upd_same] at q
    cases q
    exact exo_ok hx
  · rw [upd_ne hb] at q
    by_cases hd : b = dx
    · subst hd
      rw [upd_same] at q
      cases q
      exact exd_ok hn (relO_put (fs := []) ry fun g => True.intro)
    · rw [upd_ne hd] at q
      refine (I.hok b o q).stay (fun c v hc z => k c v ?_ z) (fun c hc => ?_) (fun c xs hc => ?_)
      · rcases hc with hc | hc
        · rw [hc]; exact hb
        · exact at_ne e hc exo_own
      · rw [upd_ne (at_ne e hc exo_own), upd_ne (ne_of_none hc n0)]; exact hc
      · rw [upd_ne (at_ne e hc exo_tup), upd_ne (ne_of_none hc n0)]; exact hc
end
end Pf

set_option Elab.async false
set_option maxRecDepth 100000
set_option linter.all false
set_option maxHeartbeats 4000000
/-! super().__init__(v) of an own exception over any base. -/
namespace Pf
open PySem PySem.Spec L2 PyProof.Rows NdefX PySem.HandSPX
/-- what is asked of the base's __init__ -/
structure InitF (B i : String) : Prop where
  plain : Slot B "__init__" i
  entry : entryFor table i = some Builtin.«BaseException.__init__»
  kind : builtinKind i = some .slot
  row : Manifest.signature? i = some ⟨.positional, "*", B, .self, [⟨"args", .varPos, false⟩]⟩
  star : (B != "*") = true
theorem InitF.of {B n i : String} (F : ExcCallFacts B n i) : InitF B i := ⟨F.init, F.initEntry, F.initKind, F.initRow, F.noStar⟩
theorem init_Key : InitF "KeyError" "KeyError.__init__" where
  plain := by
    refine .of (owner := "KeyError") (n := "__init__") ?_ (by decide +kernel) (by decide +kernel) (by decide +kernel) ?_ ?_
    · rw [typeLookup_type, builtinLookup_eq_fast]; kernel_rfl
    · first | exact .inl (by decide +kernel) | exact .inr (by decide +kernel)
    · rw [isSubtype_type]; kernel_rfl
  entry := by
    refine entryFor_alias (id' := "BaseException.__init__") ?_ (by decide +kernel) (by decide +kernel) ?_
    · rw [fastTable_eq_tree]; kernel_rfl
    · rw [fastTable_eq_tree]; kernel_rfl
  kind := by decide +kernel
  row := by kernel_rfl
  star := by decide +kernel
section
variable {M : Model} {P : Program} {w : World} {K : PySem.W.Frag} {A : Around} {E : Value → Shared → Prop} {B newId i : String}
theorem chk_init {h : Heap} {g : Array GenState} {d : Drawn} {t : Nat} {os : OsState} {e C : Addr} {oe : Obj} {rest : List Value} {Q : Unit → Shared → Prop} {nm q : Str} {N : Addr} {bs bm : List Value} {hdct : Bool} {sn : List Str} {sub : List Value} {ab : Bool} {col : Option Bool} {dd : Option Addr}
    {k0 k1 k2 k3 k5 : Option Value} (F : InitF B i) (hC : h.get? C = some (Oc nm q C N bs bm hdct sn sub ab col dd k0 k1 k2 k3 k5 newId)) (he : h.get? e = some oe) (hc : oe.cls = .ref C) (hq : Q () ⟨h, g, d, t, os⟩) :
    wpAny M A (checkBoundCall i ⟨.ref e :: rest, []⟩) Q E ⟨h, g, d, t, os⟩ := by
  have c0 := F.star
  simp only [checkBoundCall, F.kind, F.row]
  repeat (first
    | (with_reducible refine wpAny_loadPart_at he ?_; rw [hc])
    | with_reducible refine wpAny_loadPart_at hC ?_
    | wp_step)
  refine wpAny_onRaise ?_
  have ck : ∀ (a b : String) (n : Nat), Bind.check ⟨.positional, "*", B, .self, [⟨"args", .varPos, false⟩]⟩ a b n (List.map (fun x => x.fst) ({ pos := Value.ref e :: rest } : Args).kw) = pure () := fun a b n => check_star_args _ _ _ _ _ _
  rw [ck]
  exact wpAny_pure hq
end
end Pf

set_option Elab.async false
set_option maxRecDepth 100000
set_option linter.all false
set_option maxHeartbeats 4000000
/-! The __init__ of an own exception over any base: it keeps a copy and says super().__init__(it). -/
namespace Pf
open PySem PySem.Spec L2 PyProof.Rows NdefX
/-- what the class must have besides -/
structure ExiB (P : Program) (K : PySem.W.Frag) (mg : Str → Option Value) (C : Addr) (n : Str) (B newId Bs i : String) : Prop where
  T : OexB K C B newId
  F : InitF Bs i
  ks : PySem.W.KxsFacts Bs i
  X : XfC K C
  no : PySem.W.findIn K (.ref C) n = some none
  top : (P.main.scope.names.lookup ("super" : Str)).isSome = false
  sup : mg "super" = none
  op : PySem.W.nsIn K cStatics "thirdparty.any" = some none
  si : PySem.W.ks_superIn K C C "__init__" = some (some (.builtin i))
  mro : PySem.W.mroIn K C (.ref C) = some true
  sub : PySem.W.subIn K (.ref C) (.type Bs) = some true
/-- self.f = e, the first field -/
def tOstB (K : PySem.W.Frag) (B newId : String) (f : Str) (to te : TE) : TS := fun D σ H => te σ H fun y H1 => to σ H1 fun x H2 => ∃ a C : Addr, x = .ref a ∧ OexB K C B newId ∧ PySem.W.findIn K (.ref C) f = some none ∧
  (H2 a = some (exo a C none) ∧ ∀ dx, H2 dx = none → dx ≠ a → D.nx σ (upd (upd H2 dx (exd dx [(f, y)])) a (exo a C (some dx))))
theorem ps_ostB {X : Cx} {o e : Expr} {to te : TE} {f : Str} {p' pos : Pos} {B newId : String} (ho : PE X o to) (he : PE X e te) (hs : swapsWith e (some (.Attribute o f p')) pos.line X.env = pure false := by rfl) : PS X (.Assign [.Attribute o f p'] e pos) (tOstB X.K B newId f to te) := by
  refine ⟨fun pins s σ H D I h => plainObj_wpAny_Assign_Attribute (thn (he.run pins s σ H _ I h) fun v s1 h1 => ?_) hs⟩
  obtain ⟨y, H1, I1, r1, q1⟩ := h1
  refine thn (ho.run pins s1 σ H1 _ I1 q1) fun u s2 h2 => ?_
  obtain ⟨x, H2, I2, r2, a, C, ex, T, hno, ea, q⟩ := h2
  subst ex
  obtain rfl : u = Value.ref a := r2
  exact ost_newB T I2 ea hno r1 fun dx s' n ne J => ⟨σ, _, J, q dx n ne⟩
/-- the bound __init__ called: the args are laid anew, all else is kept -/
theorem call_wrapB {B newId Bs i : String} {P : Program} {w : World} {K : PySem.W.Frag} {A : Around} {E : Value → Shared → Prop} {s : Shared} {C u x t0 : Addr} {dv : Option Addr} {rest : List Value} {Q : Value → Shared → Prop} (T : OexB K C B newId) (FI : InitF Bs i) (KX : K.In s.heap)
    (hu : s.heap.get? u = some (PySem.W.kxs_mw i x)) (hx : s.heap.get? x = some ({ cls := .ref C, dict := dv, data := .fields #[.ref t0, .none, .none, .none, .bool false, .none] } : Obj)) (hz : rest.length ≤ sizeLine)
    (hq : ∀ h' t1, (∀ b o, b ≠ x → s.heap.get? b = some o → h'.get? b = some o) → h'.get? x = some ({ cls := .ref C, dict := dv, data := .fields #[.ref t1, .none, .none, .none, .bool false, .none] } : Obj) → Q .none { s with heap := h' }) :
    wpAny (model P w) A (call (.ref u) rest) Q E s := by
  obtain ⟨nm, q, N, bs, bm, sn, sub, ab, col, dd, k0, k1, k2, k3, k5, hC, hbm, _⟩ := T.cls
  obtain ⟨hh, g, d, tk, os⟩ := s
  have tree : wpAny (model P w) A.in1 (callAny (.ref u) ⟨rest, []⟩) (fun fin s' => match fin with | .done f => wants Q E (.ok f) s' | .again c' => c'.quiet = true ∧ codeAny (model P w) A c' (wants Q E) s') (fun e s' => wants Q E (.error e) s') ⟨hh, g, d, tk, os⟩ := by
    simp only [callAny]
    refine wpAny_bind (wpAny_load hu (PySem.W.KFB.if_so (by show (Value.type "method-wrapper" == Value.type "method" || Value.type "method-wrapper" == Value.type "builtin_function_or_method" || Value.type "method-wrapper" == Value.type "method-wrapper") = true; decide) (wpAny_bind (chk_init FI (KX _ _ hC) hx rfl (wpAny_bind (wpAny_pure (wpAny_pure ⟨plainId_quiet FI.plain.plain _, ?_⟩)))))))
    refine codeAny_builtin FI.entry (PySem.W.exc_init_tree (cls := .ref C) (t0 := t0) (dv := dv) (c2 := .none) (c3 := .none) (b4 := .bool false) hx hz fun h' k e _ => hq h' _ k e)
  exact wpAny_call (codeAny_of_tree tree)
section
variable {P : Program} {w : World} {K : PySem.W.Frag} {mg : Str → Option Value} {base : Heap}
theorem ok_exiB {B newId Bs i : String} {n qual : Str} {C f : Addr} {fd : FuncData} {st : Stmt} {k : Nat} {spc : Sp} {ar : Arg} {p1 p2 p3 p4 p5 p6 p7 p8 p9 q1 q2 q3 q4 : Pos} (hb : defBody st = exiBody n p1 p2 p3 p4 p5 p6 p7 p8 p9 q1 q2 q3 q4)
    (hev : exiEv n p7 p8 p9 q1 q2 q3) (hab : ∀ env : Env, attributeBase (.Name "self" q1) n env (eval (.Name "self" q1) env) = eval (.Name "self" q1) env) (har : ((defArgs st).posonlyargs ++ (defArgs st).args).head? = some ar) (hself : ar.arg = "self") (S : NScope ["self", n, "__class__"] ["self", n] ["__class__"] (defScope st))
    (hks : (defScope st).names.lookup ("super" : Str) = some .globalImplicit) (hoc : (defScope st).names.lookup ("own_copy" : Str) = some .globalImplicit) (hn1 : (n == ("__debug__" : Str)) = false) (hn2 : (n == ("__classdict__" : Str)) = false)
    (T : ExiB P K mg C n B newId Bs i) (FC : FunC P K "__init__" qual st f C fd) (Cc : C8.Cal P w K mg base k "own_copy" spc []) (mono : ∀ vs H (Q Q' : VK) E, (∀ v H, Q v H → Q' v H) → spc vs H Q E → spc vs H Q' E) : FnOk P w K mg base CX0 (k + 1) f fd ["self", n] (spExI C n spc) := by
  obtain ⟨oc, od, doc, pm, an, cda, cc, ct, osl, ccl, cdd, cvs, ccs, file, tf, cl, cld, csl, kV, rfl, lk, hcd, lc, hvs, hfile, lcc⟩ := FC.ex
  refine ⟨fun vs H Q E h => by obtain ⟨a, v, rfl, _⟩ := h; rfl, fun A outer s H args us vs Q E hr e0 hbind r hsp => ?_⟩
  obtain ⟨a, v, rfl, ha, hsp⟩ := hsp
  have KX : K.In s.heap := e0.mod.kin.keeps fun b o e => (e0.bs b o e).1
  have lim : s.heap.NoLimit := e0.mod.nolimit.keeps fun b o e => (e0.bs b o e).1
  let F : NF := ⟨"__init__", qual, defArgs st, defBody st, defScope st, [("__class__", cc)], cda⟩
  have hccB := e0.bs cc _ (e0.mod.kin cc _ lcc)
  have hcell : s.heap.IsCell cc (some (.ref C)) := ⟨_, hccB.1, rfl⟩
  have lkc : ∀ y c, ([("__class__", cc)] : List (Str × Addr)).lookup y = some c → y = "__class__" ∧ c = cc := fun y c z => by
    by_cases e : y = ("__class__" : Str)
    · subst e
      simp [List.lookup] at z
      exact ⟨rfl, z.symm⟩
    · have e' : (y == ("__class__" : Str)) = false := by simpa using e
      simp [List.lookup, e'] at z
  have CA : CellsAt F.cl ["__class__"] [some (.ref C)] s.heap H := ⟨rfl, fun y c z => by
      obtain ⟨_, rfl⟩ := lkc y c z
      exact ⟨hccB.2, _, hcell⟩, fun x y c z1 z2 => by rw [(lkc x c z1).1, (lkc y c z2).1], fun i y hi => by
      cases i with
      | zero =>
        simp at hi
        subst hi
        refine ⟨cc, by simp [F, List.lookup], fun v hv => ?_⟩
        simp at hv
        subst hv
        exact ⟨_, rfl, hcell⟩
      | succ i => simp at hi⟩
  refine PySem.ks_codeAny_call_defAt hr.depth (KX _ _ lk) rfl lim (PySem.W.codeRec_of KX hcd) rfl hbind S.nocell (fun ⟨m, _⟩ hy => S.par m (List.of_mem_zip hy).1) (fun h₁ hns kp => ?_) S.co S.gen S.kind
  have I : L2.Inv (ncx CX0 P w K mg base ["self", n, "__class__"] F f A outer s H E) [] (startF ["self", n, "__class__"] [.ref a, v] [some (.ref C)]) H { s with heap := h₁, toks := s.toks + ((["self", n] : List Str).zip us).length } := inv_startN S hr.hd e0 rfl r CA hns kp
  have hr' := hr.deeper (envF F f s.heap.objs.size)
  have hself' : (defScope st).names.lookup ("self" : Str) = some .local := S.par _ (by simp)
  have hnl : (defScope st).names.lookup n = some .local := S.par _ (by simp)
  have hcl : (defScope st).names.lookup ("__class__" : Str) = some .free := S.frk _ (by simp)
  have st1 := ps_ostB (B := B) (newId := newId) (X := ncx CX0 P w K mg base ["self", n, "__class__"] F f A outer s H E) (p' := p2) (pos := p6) (f := n) (pe_var (pos := p1) (i := 0) (x := "self") rfl (.inl hself') (by decide) (by decide))
    (C8.pe_c (p := p3) (pos := p5) Cc hr' (Nat.le_refl _) hoc (pa_cons (pe_var (pos := p4) (i := 1) (x := n) rfl (.inl hnl) hn1 hn2) pa_nil))
  rw [hb]
  refine PySem.ks_wpAt_execs_cons (wpAt_of_wpAny (wpAny_mono (st1.run [] _ _ H { nx := fun σ' H' => σ' = startF ["self", n, "__class__"] [.ref a, v] [some (.ref C)] ∧ ∃ dx y, H' a = some (exo a C (some dx)) ∧ H' dx = some (exd dx [(n, y)]) ∧ Q .non H', rt := fun _ _ => False } I ?_) (fun fl s1 hs => ?_) fun _ _ z => z))
  · refine ⟨v, rfl, mono _ _ _ _ _ (fun y H1 ⟨g1, g2⟩ => ?_) hsp⟩
    refine ⟨_, rfl, a, C, rfl, T.T, T.no, ⟨g1, fun dx hdx hne => ⟨rfl, dx, y, upd_same, ?_, g2 dx hdx hne⟩⟩⟩
    rw [upd_ne hne, upd_same]
  cases fl with
  | brk => obtain ⟨_, _, _, z⟩ := hs; exact False.elim z
  | cont => obtain ⟨_, _, _, z⟩ := hs; exact False.elim z
  | ret u => obtain ⟨_, _, _, _, _, z⟩ := hs; exact False.elim z
  | next =>
    obtain ⟨σ1, H1, I1, rfl, dx, y, ha1, hd1, hQ⟩ := hs
    obtain ⟨pl, hev⟩ := hev (envF F f s.heap.objs.size)
    refine PySem.ks_wpAt_execs_cons (PySem.ks_wpAt_Expr_any (PySem.ks_wpAt_MethodCall ?_ hev) (by show interactive (envF F f s.heap.objs.size) = false; unfold interactive; rw [show (envF F f s.heap.objs.size).scope.kind = .function from S.kind]; rfl))
    obtain ⟨t1, ho1⟩ := exo_at I1.hok ha1
    have KX1 : K.In s1.heap := I1.kIn
    obtain ⟨nm, q, N, bs, bm, sn, sub, ab, col, dd, k0, k1, k2, k3, k5, hC, hbm, _⟩ := T.T.cls
    have clC : PySem.W.clsIn K C = some { name := nm, bases := bs, mro := .ref C :: bm, ns := N, qualname := q, hasDict := true, slotNames := sn, subclasses := sub, abstract := ab, collection := col, hasDel := false } := by unfold PySem.W.clsIn; rw [hC] <;> rfl
    have hC1 := KX1 _ _ hC
    obtain ⟨m1, hn1', hl1⟩ := I1.loc
    obtain ⟨us, rus, hlook⟩ := hl1 0 "self" (.ref a) rfl rfl (.inl hself')
    obtain rfl : us = Value.ref a := rus
    have hm1 : m1 "self" = some (.ref a) := by
      rcases hlook with ⟨_, z⟩ | ⟨z, _⟩
      · exact z
      · have z' : (defScope st).names.lookup ("self" : Str) = some .cell ∨ (defScope st).names.lookup ("self" : Str) = some .free := z
        rw [hself'] at z'
        rcases z' with z' | z' <;> cases z'
    refine PySem.ks_wpAt_super_base (env := envF F f s.heap.objs.size) hks hcl (by decide) rfl (KX1 _ _ lk) rfl har rfl (KX1 _ _ lc) rfl hvs hfile T.top ?_
    obtain ⟨mb, hmb, hbb⟩ := I1.mod.blt
    refine PySem.W.ks_loadName_global S.kind hks (Calls.loadGlobal_builtin (env := envF F f s.heap.objs.size) (I1.mod.glob.keeps I1.bk) T.sup (hmb.keeps I1.bk) ((hbb _ (by decide)).trans (by decide +kernel : bootBuiltins "super" = some (.type "super"))) ⟨rfl, ?_⟩)
    refine wpAny_loadName_free S.kind hcl rfl ⟨_, KX1 _ _ lcc, rfl⟩ ?_
    rw [hself]
    refine wpAny_loadName_local S.kind hself' hn1' hm1 ?_
    refine PySem.ks_wpAny_isType_cls hC1 rfl ⟨rfl, ?_⟩
    obtain ⟨hh, g, d, tk, os⟩ := s1
    refine PySem.ks_wpAny_call_super (h := hh) hC1 rfl ho1 rfl (fun c e => by cases e) (PySem.W.looks_mroIn KX1 T.mro) fun h2 hso k2 => ?_
    have I2 := I1.kept (t' := tk) k2
    have KX2 : K.In h2 := I2.kIn
    have ho2 := k2 _ _ ho1
    have hsup := T.si
    unfold PySem.W.ks_superIn at hsup
    rw [clC] at hsup
    obtain ⟨mA, ⟨od2, es2, ep2, hod2, _⟩, _⟩ := exd_at I2.hok hd1
    have J2 : PySem.W.InstAt h2 a _ C (some od2) := ⟨ho2, rfl, rfl, hod2⟩
    refine PySem.W.kxs_getMethod T.ks hso (PySem.W.looks_opaque KX2 T.op) (l₀ := .ref C :: bm) (fun A Q E s k q => wpAny_bind ((PySem.W.looks_clsIn KX2 clC) A _ E s k (wpAny_pure q))) rfl KX2 hsup (J2.type.andThen (PySem.W.looks_subIn KX2 T.sub)) (PySem.W.ks_ne KX2 J2 clC) (by decide) ?_
    have I3 := I2.kept (t' := tk + 1) (h' := h2.push (PySem.W.kxs_mw i a)) fun b o e => Heap.get?_push_of_some _ e
    have hw : (h2.push (PySem.W.kxs_mw i a)).get? h2.objs.size = some (PySem.W.kxs_mw i a) := Heap.get?_push_size _ rfl
    refine PySem.W.kxs_callWith (i := i) (x := a) (by rfl) (Calls.evalArgs_plain ?_)
    show wpAny _ _ (spliced ((false, eval (.Attribute (.Name "self" q1) n q2) (envF F f s.heap.objs.size)) :: backTo q3 (starEach [] (envF F f s.heap.objs.size)))) _ _ _
    have hn3 := hn1'.at (h' := h2.push (PySem.W.kxs_mw i a)) fun o e => Heap.get?_push_of_some _ (k2 _ _ e)
    refine Calls.spliced_cons (attr_of (hab _) (wpAny_Name (wpAny_loadName_local S.kind hself' hn3 hm1 ?_) (by decide)))
    refine exo_get (X := ncx CX0 P w K mg base ["self", n, "__class__"] F f A outer s H E) T.X T.no I3 ha1 hd1 fun u ru => Calls.spliced_nil ⟨hw, ?_⟩
    refine call_wrapB T.T T.F I3.kIn hw (Heap.get?_push_of_some _ ho2) (by show 1 ≤ sizeLine; decide) fun h4 t4 k4 hx4 => ?_
    have J := I3.write (t' := tk + 1 + 1) (x := a) (e := a) (o := exo a C (some dx)) (by rw [ha1]; exact True.intro) (.inl rfl) k4 ⟨_, hx4⟩ (exo_ok hx4)
    have eu : upd H1 a (exo a C (some dx)) = H1 := by
      funext b
      by_cases z : b = a
      · subst z; rw [upd_same, ha1]
      · rw [upd_ne z]
    rw [eu] at J
    exact wpAt_of_wpAny (wpAny_pure ⟨V.non, H1, J.os, J.bare, J.base, J.hok, rfl, hQ⟩)
end
end Pf

set_option Elab.async false
set_option maxRecDepth 100000
set_option linter.all false
set_option maxHeartbeats 4000000
/-! Own exceptions as values. -/
namespace Pf
open PySem PySem.Spec L2 PyProof.Rows NdefX PySem.HandSPX
/-- C(e, ..) as a value -/
def tMkV (C : Addr) (sp : Sp) (ta : TA) : TE := fun σ H Q => ta σ H fun vs H1 => vs.length ≤ 1000 ∧ ∀ a, H1 a = none → sp (.ref a :: vs) (upd H1 a (exo a C none)) (fun v H2 => v = .non ∧ Q (.ref a) H2) (fun _ _ _ => False)
theorem pe_oexB {X : Cx} {CX : CXT} {x : Str} {C fI : Addr} {k : Nat} {fd : FuncData} {ps : List Str} {sp : Sp} {B newId initId : String} {bmB : List Value} {e : Expr} {es : List Expr} {ta : TA} {p pos : Pos} (FB : ExcBaseFacts B newId initId bmB) (T : OexB X.K C B newId)
    (iC : PySem.W.findIn X.K (.ref C) "__init__" = some (some (.ref fI))) (tI : PySem.W.typeIn X.K (.ref fI) = some (.type "function")) (F1 : FnOk X.prog X.w X.K X.mg X.base CX k fI fd ps sp) (hr : Room (k + 1) X.A) (hb : Binds X.K fd ps [])
    (hx : Passes CX X (fun _ _ _ => False)) (hg : Gl X x) (hm : X.mg x = some (.ref C)) (ha : PA X (e :: es) ta) (hdb : (x == ("__debug__" : Str)) = false := by decide)
    (he : starEach (e :: es) X.env = (false, eval e X.env) :: starEach es X.env := by rfl) (hpl : (backTo pos (starEach es X.env)).any (·.1) = false := by rfl) : PE X (.Call (.Name x p) (e :: es) [] pos) (tMkV C sp ta) := by
  refine ⟨fun pins s σ H Q I h => ?_⟩
  obtain ⟨nm, q, N, bs, bm, sn, sub, ab, col, dd, k0, k1, k2, k3, k5, hC, _, hT⟩ := T.cls
  refine wpAny_Call_Name_kw (ld_glob I hg hm ?_ hdb)
  refine PySem.W.callWith_K (h₀ := X.base) I.ok.mod.kin T.kC (thn (ha.run pos pins s σ H _ I h) fun us s1 h1 => ?_) he hpl
  obtain ⟨vs, H1, I1, r1, hz, q1⟩ := h1
  refine ⟨I1.kIn, ?_⟩
  show wpAny _ _ (call (.ref C) us) _ _ _
  obtain ⟨hp, g, dr, tk, os⟩ := s1
  have sz1 : hp.objs.size ≤ hp.objs.size + 1 := Nat.le_succ _
  have hq := q1 (hp.objs.size + 1) (I1.hok.fresh sz1)
  have kk : ∀ b o, hp.get? b = some o → ((hp.push (PySem.W.kdv_tup us)).push (excO C hp.objs.size)).get? b = some o := fun b o e => Heap.get?_push_of_some _ (Heap.get?_push_of_some _ e)
  have hx2 : ((hp.push (PySem.W.kdv_tup us)).push (excO C hp.objs.size)).get? (hp.objs.size + 1) = some (excO C hp.objs.size) := by heap_get
  have I2 := I1.laid (t' := tk) (a := hp.objs.size + 1) (o := exo (hp.objs.size + 1) C none) kk sz1 (exo_ok hx2)
  have r2 : Vals (V.ref (hp.objs.size + 1) :: vs) (Value.ref (hp.objs.size + 1) :: us) := .cons rfl r1
  have hl : (Value.ref (hp.objs.size + 1) :: us ++ []).length = ps.length := by
    have e := r2.length
    rw [F1.len _ _ _ _ hq] at e
    rw [List.append_nil]
    exact e.symm
  have hus : us.length ≤ sizeLine := by
    rw [← Paired.length r1, sizeLine_eq]
    omega
  refine wpAny_call (call_ownB FB hT (I1.kIn _ _ hC) (PySem.W.looks_findIn I1.kIn iC) (fun self => PySem.W.bind_fn I1.kIn self tI) hus ?_)
  refine codeAny_mono (F1.run _ X.stack _ _ ⟨Value.ref (hp.objs.size + 1) :: us, []⟩ (Value.ref (hp.objs.size + 1) :: us) _ _ (fun _ _ _ => False) (hr.make C us []) (I2.env0.make C us []) (by have := hb _ (Value.ref (hp.objs.size + 1) :: us) I2.kIn hl; rwa [List.append_nil] at this) r2 hq) fun r s' hq' => ?_
  cases r with
  | error er => exact hx pins σ _ _ er s' I2 hq'
  | ok fl =>
    cases fl with
    | ret u =>
      obtain ⟨v, H2, I3, rv, ev, q2⟩ := I2.after hq'
      subst ev
      exact ⟨rv, .ref _, H2, I3, rfl, q2⟩
    | next => exact False.elim hq'
    | brk => exact False.elim hq'
    | cont => exact False.elim hq'
/-- e.n of such a value -/
def tXf (C : Addr) (n : Str) (te : TE) : TE := fun σ H Q => te σ H fun x H1 => ∃ (a dx : Addr) (y : V), x = .ref a ∧ H1 a = some (exo a C (some dx)) ∧ H1 dx = some (exd dx [(n, y)]) ∧ Q y H1
theorem pe_xfV {X : Cx} {C : Addr} {n : Str} {e : Expr} {te : TE} {pos : Pos} (XF : XfC X.K C) (hno : PySem.W.findIn X.K (.ref C) n = some none) (he : PE X e te)
    (hab : attributeBase e n X.env (eval e X.env) = eval e X.env) : PE X (.Attribute e n pos) (tXf C n te) := by
  refine ⟨fun pins s σ H Q I h => attr_of hab (thn (he.run pins s σ H _ I h) fun u s1 h1 => ?_)⟩
  obtain ⟨x, H1, I1, rx, a, dx, y, rfl, ha, hd, q⟩ := h1
  cases (show u = Value.ref a from rx)
  exact exo_get XF hno I1 ha hd fun u ru => ⟨y, H1, I1.tok _, ru, q⟩
end Pf

set_option Elab.async false
set_option maxRecDepth 100000
set_option linter.all false
set_option maxHeartbeats 4000000
/-! Own exceptions made by keyword. -/
namespace Pf
open PySem PySem.Spec L2 PyProof.Rows NdefX PySem.HandSPX
section
variable {prog : Program} {w : World} {A : Around} {E : Value → Shared → Prop} {R : Result → Shared → Prop} {h : Heap} {g : Array GenState} {d : Drawn} {t : Nat} {os : OsState}
  {nm q : Str} {C N : Addr} {bs bm bmB : List Value} {hdct : Bool} {sn : List Str} {sub : List Value} {ab : Bool} {col : Option Bool} {dd : Option Addr}
  {k0 k1 k2 k3 k5 : Option Value} {B newId initId : String} {rest : List Value}
theorem chk_newK {M : Model} {kn : Str} {ku : Value} (F : ExcBaseFacts B newId initId bmB) (T : TailB bm B) {Q : Unit → Shared → Prop} (hC : h.get? C = some (Oc nm q C N bs bm hdct sn sub ab col dd k0 k1 k2 k3 k5 newId))
    (hq : Q () ⟨h, g, d, t, os⟩) : wpAny M A (checkBuiltinCall newId ⟨.ref C :: rest, [(kn, ku)]⟩) Q E ⟨h, g, d, t, os⟩ := by
  have c1 := T.b C
  have c2 := F.noStar
  simp only [checkBuiltinCall, F.newKind, F.newSplit, F.newRow]
  repeat (first
    | refine wpAny_loadPart_at hC ?_
    | (refine wpAny_isSubtype_exc hC ?_; rw [c1])
    | refine wpAny_staticBase_exc hC ?_
    | refine wpAny_madeBy_exc hC ?_
    | simp only [bne_self_eq_false, Bool.false_eq_true, if_false]
    | wp_step)
  exact hq
theorem mk_newK {kn : Str} {ku : Value} (F : ExcBaseFacts B newId initId bmB) (T : TailB bm B) (hC : h.get? C = some (Oc nm q C N bs bm hdct sn sub ab col dd k0 k1 k2 k3 k5 newId)) (hz : rest.length ≤ sizeLine)
    (hq : R (.ok (.ret (.ref (h.objs.size + 1)))) ⟨(h.push (PySem.W.kdv_tup rest)).push (excO C h.objs.size), g, d, t, os⟩) :
    codeAny (model prog w) A (.builtin newId ⟨.ref C :: rest, [(kn, ku)]⟩) R ⟨h, g, d, t, os⟩ := by
  have c0 := F.ends
  have c1 := T.b C
  have c2 := T.a C
  have c3 := T.n C
  have hrest := hz
  refine codeAny_builtinAt F.entry ?_
  unfold Builtin.«BaseException.__new__»
  refine PySem.wpAt_bind ?_
  show PySem.wpAt _ _ _ (stack >>= _) _ _ _
  refine PySem.wpAt_bind (PySem.wpAt_stack fun p below => PySem.wpAt_of_wpAny ?_)
  wp_walk
  refine PySem.wpAt_of_wpAny ?_
  rw [F.owner]
  repeat (first
    | with_reducible refine wpAny_madeHere_exc F.canon hC ?_
    | with_reducible refine wpAny_loadPart_at hC ?_
    | (with_reducible refine wpAny_isSubtype_exc hC ?_; first | rw [c1] | rw [c2] | rw [c3])
    | wp_step)
  show R _ _
  rw [Heap.size_push]
  exact hq
theorem type_callK {kn : Str} {ku : Value} {fI : Addr} {Q : PySem.Fin → Shared → Prop} (F : ExcBaseFacts B newId initId bmB) (T : TailB bm B) (hC : h.get? C = some (Oc nm q C N bs bm hdct sn sub ab col dd k0 k1 k2 k3 k5 newId))
    (hi : PySem.W.Looks (model prog w) h (typeLookup (.ref C) "__init__") (some (.ref fI)))
    (hb : ∀ self, PySem.W.Looks (model prog w) h (bindSpecial (.ref fI) self) (.ref fI, [self])) (hz : rest.length ≤ sizeLine)
    (hq : codeAny (model prog w) A (.call (.ref fI) ⟨.ref (h.objs.size + 1) :: rest, [(kn, ku)]⟩)
      (fun r s' => match r with
        | .ok (.ret v) => v = .none ∧ Q (.done (.ret (.ref (h.objs.size + 1)))) s'
        | .ok _ => False
        | .error e => E e s')
      ⟨(h.push (PySem.W.kdv_tup rest)).push (excO C h.objs.size), g, d, t, os⟩) :
    wpAny (model prog w) A (Builtin.«type.__call__» ⟨.ref C :: rest, [(kn, ku)]⟩) Q E ⟨h, g, d, t, os⟩ := by
  repeat (first
    | with_reducible refine wpAny_loadPart_at hC ?_
    | with_reducible refine wpAny_madeBy_exc hC ?_
    | wp_step)
  refine codeAny_call_builtin_code (Code.quiet_builtin _ F.quiet) (chk_newK F T hC ?_)
  refine mk_newK F T hC hz ?_
  show wpAny _ _ _ _ _ _
  have kp : ∀ b o, h.get? b = some o → ((h.push (PySem.W.kdv_tup rest)).push (excO C h.objs.size)).get? b = some o :=
    fun b o e => Heap.get?_push_of_some _ (Heap.get?_push_of_some _ e)
  have hC2 := kp _ _ hC
  have hx : ((h.push (PySem.W.kdv_tup rest)).push (excO C h.objs.size)).get? (h.objs.size + 1) = some (excO C h.objs.size) := by heap_get
  have c4 : (Value.ref C :: bm).contains (.ref C) = true := by simp
  have i2 := hi.keeps kp
  have b2 := (hb (.ref (h.objs.size + 1))).keeps kp
  unfold isInstance
  repeat (first
    | with_reducible refine wpAny_loadPart_at hx ?_
    | (with_reducible refine wpAny_isSubtype_exc hC2 ?_; rw [c4])
    | wp_step)
  show wpAny _ _ (typeLookup (.ref C) _) _ _ _
  refine i2.at ?_
  refine wpAny_holding (wpAny_bind (b2.at ?_))
  refine wpAny_bind (wpAny_call (codeAny_mono hq fun r s' z => ?_))
  rcases r with e | (v | _ | _ | _) <;> first | exact z | exact z.elim | skip
  obtain ⟨rfl, z⟩ := z
  first
    | exact wpAny_pure (wpAny_pure z)
    | (wp_walk; exact z)
theorem call_ownK {kn : Str} {ku : Value} {fI : Addr} (F : ExcBaseFacts B newId initId bmB) (T : TailB bm B) (hC : h.get? C = some (Oc nm q C N bs bm hdct sn sub ab col dd k0 k1 k2 k3 k5 newId))
    (hi : PySem.W.Looks (model prog w) h (typeLookup (.ref C) "__init__") (some (.ref fI)))
    (hb : ∀ self, PySem.W.Looks (model prog w) h (bindSpecial (.ref fI) self) (.ref fI, [self])) (hz : rest.length ≤ sizeLine)
    (hq : codeAny (model prog w) (A.under (.builtin "type.__call__" ⟨.ref C :: rest, [(kn, ku)]⟩)) (.call (.ref fI) ⟨.ref (h.objs.size + 1) :: rest, [(kn, ku)]⟩) (PySem.W.InitBack (h.objs.size + 1) R)
      ⟨(h.push (PySem.W.kdv_tup rest)).push (excO C h.objs.size), g, d, t, os⟩) :
    codeAny (model prog w) A (.call (.ref C) ⟨rest, [(kn, ku)]⟩) R ⟨h, g, d, t, os⟩ := by
  have f1 := tc_lookup
  have f2 := tc_bind (.ref C)
  have tyC : (⟨h, g, d, t, os⟩ : Shared).TypeIs (.ref C) "type" := ⟨_, hC, rfl⟩
  refine codeAny_of_tree ?_
  show wpAny _ _ (callAny (.ref C) _) _ _ _
  repeat (any_goals (first | assumption | with_reducible refine wpAny_loadPart_at hC ?_ | wp_step))
  refine ⟨rfl, codeAny_call_builtin_at (Code.quiet_builtin _ (by decide +kernel)) entry_typeCall (wpAny_check_type_call_sub hC (type_callK F T hC hi hb hz ?_))⟩
  refine codeAny_mono hq fun r s' z => ?_
  rcases r with e | (v | _ | _ | _) <;> exact z
end
end Pf

set_option Elab.async false
set_option maxRecDepth 100000
set_option linter.all false
set_option maxHeartbeats 4000000
/-! X(n = e), an own exception made by its field's name. -/
namespace Pf
open PySem PySem.Spec L2 PyProof.Rows NdefX PySem.HandSPX
def tMkK (C : Addr) (sp : Sp) (te : TE) : TE := fun σ H Q => tCons te tNil σ H fun zs H1 => ∃ v, zs = [v] ∧ ∀ a, H1 a = none → sp [.ref a, v] (upd H1 a (exo a C none)) (fun v H2 => v = .non ∧ Q (.ref a) H2) (fun _ _ _ => False)
theorem pe_oexK {X : Cx} {CX : CXT} {x n : Str} {C fI : Addr} {k : Nat} {fd : FuncData} {sp : Sp} {B newId initId : String} {bmB : List Value} {e : Expr} {te : TE} {p pos kpos : Pos} (FB : ExcBaseFacts B newId initId bmB) (T : OexB X.K C B newId)
    (iC : PySem.W.findIn X.K (.ref C) "__init__" = some (some (.ref fI))) (tI : PySem.W.typeIn X.K (.ref fI) = some (.type "function")) (F1 : FnOk X.prog X.w X.K X.mg X.base CX k fI fd ["self", n] sp) (hr : Room (k + 1) X.A)
    (hb : ∀ (s : Shared) (a u : Value), X.K.In s.heap → BindsTo s fd ⟨[a], [(n, u)]⟩ ((["self", n] : List Str).zip [a, u])) (hx : Passes CX X (fun _ _ _ => False)) (hg : Gl X x) (hm : X.mg x = some (.ref C)) (he : PE X e te) (hdb : (x == ("__debug__" : Str)) = false := by decide)
    (hall : (backToKw pos (keywordEach [⟨some n, e, kpos⟩] X.env)).all (·.1.isSome) = true := by rfl) (hks : (backToKw pos (keywordEach [⟨some n, e, kpos⟩] X.env)).filterMap (·.1) = [n] := by rfl)
    (hpl : ((backTo pos (starEach [] X.env)).any (·.1) || (backToKw pos (keywordEach [⟨some n, e, kpos⟩] X.env)).any (·.1.isNone)) = false := by rfl) : PE X (.Call (.Name x p) [] [⟨some n, e, kpos⟩] pos) (tMkK C sp te) := by
  refine ⟨fun pins s σ H Q I h => ?_⟩
  obtain ⟨nm, q, N, bs, bm, sn, sub, ab, col, dd, k0, k1, k2, k3, k5, hC, _, hT⟩ := T.cls
  refine wpAny_Call_Name_kw (ld_glob I hg hm ?_ hdb)
  refine PySem.W.callWith_KW0 (h₀ := X.base) I.ok.mod.kin T.kC hall ?_ hpl
  refine thn ((pk_cons (kpos := kpos) (nm := some n) he pk_nil).run pos pins s σ H (fun zs H1 => ∃ v, zs = [v] ∧ ∀ a, H1 a = none → sp [.ref a, v] (upd H1 a (exo a C none)) (fun v H2 => v = .non ∧ Q (.ref a) H2) (fun _ _ _ => False)) I ?_) fun ws s1 h1 => ?_
  · exact h
  obtain ⟨zs, H1, I1, rz, v, rfl, q1⟩ := h1
  refine ⟨I1.kIn, ?_⟩
  rw [hks]
  obtain ⟨u, rfl, ru⟩ := vals1 rz
  show wpAny _ _ (call (.ref C) [] [(n, u)]) _ _ _
  obtain ⟨hp, g, dr, tk, os⟩ := s1
  have sz1 : hp.objs.size ≤ hp.objs.size + 1 := Nat.le_succ _
  have hq := q1 (hp.objs.size + 1) (I1.hok.fresh sz1)
  have kk : ∀ b o, hp.get? b = some o → ((hp.push (PySem.W.kdv_tup [])).push (excO C hp.objs.size)).get? b = some o := fun b o e => Heap.get?_push_of_some _ (Heap.get?_push_of_some _ e)
  have hx2 : ((hp.push (PySem.W.kdv_tup [])).push (excO C hp.objs.size)).get? (hp.objs.size + 1) = some (excO C hp.objs.size) := by heap_get
  have I2 := I1.laid (t' := tk) (a := hp.objs.size + 1) (o := exo (hp.objs.size + 1) C none) kk sz1 (exo_ok hx2)
  refine wpAny_call (call_ownK (rest := []) FB hT (I1.kIn _ _ hC) (PySem.W.looks_findIn I1.kIn iC) (fun self => PySem.W.bind_fn I1.kIn self tI) (Nat.zero_le _) ?_)
  refine codeAny_mono (F1.run _ X.stack _ _ ⟨[Value.ref (hp.objs.size + 1)], [(n, u)]⟩ [Value.ref (hp.objs.size + 1), u] [.ref (hp.objs.size + 1), v] _ (fun _ _ _ => False) (hr.make C [] [(n, u)]) (I2.env0.make C [] [(n, u)]) (hb _ _ _ I2.kIn) (.cons rfl (.cons ru .nil)) hq) fun r s' hq' => ?_
  cases r with
  | error er => exact hx pins σ _ _ er s' I2 hq'
  | ok fl =>
    cases fl with
    | ret u =>
      obtain ⟨v, H2, I3, rv, ev, q2⟩ := I2.after hq'
      subst ev
      exact ⟨rv, .ref _, H2, I3, rfl, q2⟩
    | next => exact False.elim hq'
    | brk => exact False.elim hq'
    | cont => exact False.elim hq'
end Pf

set_option Elab.async false
set_option maxRecDepth 100000
set_option linter.all false
set_option maxHeartbeats 4000000
/-! isinstance of own exceptions that are held as values; X() of a class without own __init__. -/
namespace Pf
open PySem PySem.Spec L2 PyProof.Rows NdefX PySem.HandSPX
/-- what isinstance asks of the class at C; bm: the rest of its order -/
structure IsC (K : PySem.W.Frag) (C : Addr) (bm : List Value) : Prop where
  cl : ∃ cd : ClassData, PySem.W.clsIn K C = some cd ∧ cd.mro = .ref C :: bm
  ty : PySem.W.typeIn K (.ref C) = some (.type "type")
  ga : PySem.W.findIn K (.ref C) "__getattribute__" = some (some (.builtin "BaseException.__getattribute__"))
  gg : PySem.W.findIn K (.ref C) "__getattr__" = some none
  exC : PySem.W.subIn K (.ref C) (.type "BaseException") = some true
  ha : PySem.W.findIn K (.ref C) "__class__" = some (some (.builtin "object.__class__"))
  hn : PySem.W.specialIn K (.builtin "object.__class__") "__get__" = some (some (.builtin "getset_descriptor.__get__"))
  ht : PySem.W.takesIn K (.builtin "object.__class__") = some true
  hm : PySem.W.mroIn K C (.type "object") = some true
section
variable {K : PySem.W.Frag} {C D : Addr} {bm bn : List Value}
theorem IsC.sub (h : IsC K C bm) (c : Value) : PySem.W.subIn K (.ref C) c = some ((Value.ref C :: bm).contains c) := by
  obtain ⟨cd, h1, h2⟩ := h.cl
  show PySem.W.mroIn K C c = _
  unfold PySem.W.mroIn
  rw [h1, Option.bind_some, h2]
  rfl
theorem IsC.tyOne (h : IsC K C bm) {T : String} (hk : PySem.W.kitMeta T = true) : PySem.W.kitOne K (.ref C) (.type T) = some (bm.contains (.type T)) := by
  unfold PySem.W.kitOne
  rw [if_neg (by intro z; cases beq_iff_eq.mp z)]
  show (if PySem.W.kitMeta T = true then PySem.W.subIn K (.ref C) (.type T) else none) = _
  rw [if_pos hk, h.sub, List.contains_cons]
  rfl
theorem IsC.own (h : IsC K C bm) (h' : IsC K D bn) (hb : bm.contains (.ref D) = false) : PySem.W.kitOne K (.ref C) (.ref D) = some (decide (C = D)) := by
  unfold PySem.W.kitOne
  by_cases e : C = D
  · subst e
    rw [if_pos (by simp), decide_eq_true rfl]
  · rw [if_neg (by intro z; exact e (Value.ref.inj (beq_iff_eq.mp z))), decide_eq_false e]
    obtain ⟨cd, h1, h2⟩ := h'.cl
    show (if ((PySem.W.clsIn K D).isSome && PySem.W.typeIn K (.ref D) == some (.type "type")) = true then PySem.W.subIn K (.ref C) (.ref D) else none) = _
    rw [h1, h'.ty, if_pos (by rfl), h.sub, List.contains_cons, hb, Bool.or_false]
    congr 1
    exact Bool.eq_false_iff.mpr fun z => e (Value.ref.inj (beq_iff_eq.mp z)).symm
end
/-- an own exception held as a value -/
def ExV (H : Hp) (a C : Addr) : Prop := H a = some (exo a C none) ∨ ∃ dx fs, H a = some (exo a C (some dx)) ∧ H dx = some (exd dx fs)
theorem ExV.same {H H' : Hp} {a C : Addr} (h : ExV H a C) (e : Same H H') : ExV H' a C := h.imp (fun z => e _ _ z) fun ⟨dx, fs, z1, z2⟩ => ⟨dx, fs, e _ _ z1, e _ _ z2⟩
def rIsV (K : PySem.W.Frag) : List V → Hp → VK → Prop := fun xs H Q => ∃ (a C : Addr) (bm : List Value) (c : V) (u : Value) (b : Bool), xs = [.ref a, c] ∧ ClsV c u ∧ ExV H a C ∧ IsC K C bm ∧ PySem.W.kitOne K (.ref C) u = some b ∧ Q (.bl b) H
theorem call_isV {X : Cx} : CallR X (.builtin "isinstance") (rIsV X.K) := by
  intro pins s σ H xs us Q I r h
  obtain ⟨a, C, bm, c, u, b, rfl, k, hx, T, e, q⟩ := h
  obtain ⟨u1, u2, rfl, r1, r2⟩ := vals2 r
  have e2 := k.eq r2
  subst e2
  cases (show u1 = Value.ref a from r1)
  have hcl : (PySem.W.clsIn X.K C).isSome = true := by obtain ⟨cd, h1, _⟩ := T.cl; rw [h1]; rfl
  rcases hx with h0 | ⟨dx, fs, h0, h1⟩
  · obtain ⟨t1, ho⟩ := exo_at I.hok h0
    have J : PySem.W.InstAt s.heap a _ C none := ⟨ho, rfl, rfl, trivial⟩
    exact PySem.W.kia_one (PySem.W.kitx_exc hcl T.ga T.gg T.exC T.ha T.hn T.ht T.hm) I.kIn J e (fun z => nomatch z) fun tk => ⟨.bl b, H, I.tok tk, rfl, q⟩
  · obtain ⟨t1, ho⟩ := exo_at I.hok h0
    obtain ⟨mA, hns, hr⟩ := exd_at I.hok h1
    obtain ⟨od, hod, hl⟩ := lookIn_ns hns
    have J : PySem.W.InstAt s.heap a _ C (some od) := ⟨ho, rfl, rfl, hod⟩
    exact PySem.W.kia_one (PySem.W.kitx_exc hcl T.ga T.gg T.exC T.ha T.hn T.ht T.hm) I.kIn J e (fun z => nomatch z) fun tk => ⟨.bl b, H, I.tok tk, rfl, q⟩
/-- X() of an own exception class without own __init__ -/
theorem pe_exc0 {X : Cx} {C : Addr} {bmB : List Value} {B newId initId : String} {x : Str} {p pos : Pos} (F : ExcBaseFacts B newId initId bmB) (q : PySem.W.excIn X.K C bmB newId = true) (gC : X.mg x = some (.ref C)) (kC : PySem.W.keepIn X.K (.ref C) = true) (hg : Gl X x)
    (hdb : (x == ("__debug__" : Str)) = false := by decide) : PE X (.Call (.Name x p) [] [] pos) (fun σ H Q => ∀ a, H a = none → Q (.ref a) (upd H a (exo a C none))) := by
  refine ⟨fun pins s σ H Q I h => ?_⟩
  refine wpAny_Call_Name_kw (ld_glob I hg gC ?_ hdb)
  refine PySem.W.callWith_K0 I.kIn kC ?_
  show wpAny _ _ (call (.ref C) []) _ _ _
  obtain ⟨bm, N, nm, qn, bs, hdct, sn, sub, ab, col, dd, k0, k1, k2, k3, k5, mN, hC, hN, hni, T⟩ := exc_obj I.kIn q
  refine wpAny_call_exc_subT F T hC hN hni (fun h' a hm => ?_) (by show 0 ≤ sizeLine; exact Nat.zero_le _)
  have hn : H a = none := I.hok.gone hm.new
  obtain ⟨t, ht, _, _⟩ := hm.there
  exact ⟨.ref a, upd H a (exo a C none), I.laidN hm.keeps hm.new hn (exo_ok ht), rfl, h a hn⟩
end Pf

set_option Elab.async false
set_option maxRecDepth 100000
set_option linter.all false
set_option maxHeartbeats 4000000
/-! Comprehensions by a word over what is made so far; two ways in which a heap may grow. -/
namespace Pf
open PySem PySem.Spec L2 PyProof.Rows
/-- a way in which a heap may grow: new objects, changes of objects that were not there -/
structure Rel (L : Hp → Hp → Prop) : Prop where
  refl : ∀ H, L H H
  trans : ∀ {H H1 H2}, L H H1 → L H1 H2 → L H H2
  chg : ∀ {H H1 p o}, L H H1 → H p = none → L H (upd H1 p o)
  lst : ∀ {H H1 a xs}, L H H1 → H a = some (.lst xs) → H1 a = some (.lst xs)
  tup : ∀ {H H1 a xs}, L H H1 → H a = some (.tup xs) → H1 a = some (.tup xs)
  ex : ∀ {H H1}, Same H H1 → L H H1
theorem sz_lt {n : Nat} (h : n < 100000) : n < sizeLine := Nat.lt_of_lt_of_le h (by decide)
theorem sz_le {n : Nat} (h : n ≤ 100000) : n ≤ sizeLine := Nat.le_trans h (by decide)
theorem same_new {H : Hp} {p : Addr} {o : HO} (h : H p = none) : Same H (upd H p o) := fun a u e => by rw [upd_ne (ne_of_none e h)]; exact e
theorem same_chg {H H1 : Hp} {p : Addr} {o : HO} (e : Same H H1) (h : H p = none) : Same H (upd H1 p o) := fun a u ha => by rw [upd_ne (ne_of_none ha h)]; exact e a u ha
theorem rel_ex : Rel Same := ⟨Same.refl, Same.trans, same_chg, fun e h => e _ _ h, fun e h => e _ _ h, fun e => e⟩
theorem ExP.chg {H H1 : Hp} {p : Addr} {o : HO} (e : ExP H H1) (h : H p = none) : ExP H (upd H1 p o) := fun a u ha => by
  rw [upd_ne (ne_of_none ha h)]; exact e a u ha
theorem rel_exp : Rel ExP := ⟨ExP.refl, ExP.trans, ExP.chg, fun e h => e.at h lst_ne_pen, fun e h => e.at h tup_ne_pen, fun e => ExP.of e⟩
theorem seqIndex_nat {n j : Nat} (h : j < n) : seqIndex? (j : Int) n = some j := by
  unfold seqIndex?
  simp
  omega
theorem perm_step {α : Type} (ys xs : List α) {j : Nat} (hj : j < xs.length) : (ys ++ [xs[j]] ++ xs.eraseIdx j).Perm (ys ++ xs) := by
  rw [List.append_assoc]
  refine List.Perm.append_left _ ?_
  rw [List.singleton_append]
  have e : xs.eraseIdx j = xs.take j ++ xs.drop (j + 1) := List.eraseIdx_eq_take_drop_succ ..
  rw [e]
  have e2 : xs = xs.take j ++ xs[j] :: xs.drop (j + 1) := by rw [List.getElem_cons_drop, List.take_append_drop]
  conv => rhs; rw [e2]
  exact List.perm_middle.symm
theorem paired_snoc {α β : Type} {R : α → β → Prop} {l₁ : List α} {l₂ : List β} {a : α} {b : β} (h : Paired R l₁ l₂) (hab : R a b) : Paired R (l₁ ++ [a]) (l₂ ++ [b]) := by
  induction h with
  | nil => exact .cons hab .nil
  | cons r _ ih => exact .cons r ih
theorem paired_map_r {α β γ : Type} {R : α → γ → Prop} (g : β → γ) {l₁ : List α} {l₂ : List β} (h : Paired (fun a b => R a (g b)) l₁ l₂) : Paired R l₁ (l₂.map g) := by
  induction h with
  | nil => exact .nil
  | cons r _ ih => exact .cons r ih
theorem cut_to (xs : List V) (n : Nat) : cutV xs none (some (n : Int)) = xs.take n := by
  unfold cutV
  rw [HT.sIx_none, HT.sIx_nat, List.drop_zero]
  by_cases h : n ≤ xs.length
  · rw [Nat.min_eq_left h, Nat.sub_zero]
  · rw [Nat.min_eq_right (by omega), Nat.sub_zero, List.take_of_length_le (Nat.le_refl _), List.take_of_length_le (by omega)]
theorem cut_from (xs : List V) (n : Nat) : cutV xs (some (n : Int)) none = xs.drop n := by
  unfold cutV
  rw [HT.sIx_none, HT.sIx_nat]
  by_cases h : n ≤ xs.length
  · rw [Nat.min_eq_left h, List.take_of_length_le (by rw [List.length_drop]; exact Nat.le_refl _)]
  · rw [Nat.min_eq_right (by omega), Nat.sub_self, List.take_zero, List.drop_of_length_le (by omega)]
theorem lock_back {H H' : Hp} {d : Addr} {od : Obj} {u : HO} (hd : H d = some u) (e : Same (upd H d (.frz od u)) H') : H' d = some (.frz od u) ∧ Same H (upd H' d u) := by
  refine ⟨e _ _ upd_same, fun b o h => ?_⟩
  by_cases hb : b = d
  · subst hb
    rw [hd] at h
    rw [upd_same, ← h]
  · rw [upd_ne hb]
    exact e _ _ (by rw [upd_ne hb]; exact h)
/-- what may be read stays readable under a lock -/
theorem rd_lock {H : Hp} {d b : Addr} {od : Obj} {u v : HO} (hd : H d = some u) (h : Rd H b v) (hv : ∀ o w, u ≠ .frz o w) : Rd (upd H d (.frz od u)) b v := by
  by_cases hb : b = d
  · subst hb
    rcases h with h | ⟨o, h⟩
    · rw [hd] at h
      injection h with h
      subst h
      exact .inr ⟨od, upd_same⟩
    · rw [hd] at h
      injection h with h
      exact absurd h (hv _ _)
  · unfold Rd
    rw [upd_ne hb]
    exact h
theorem rd_same {H H' : Hp} {b : Addr} {v : HO} (e : Same H H') (h : Rd H b v) : Rd H' b v := by
  rcases h with h | ⟨o, h⟩
  · exact .inl (e _ _ h)
  · exact .inr ⟨o, e _ _ h⟩
theorem iteT' {c : Bool} {A B : Prop} (e : c = true) (h : A) : if c = true then A else B := by rw [if_pos e]; exact h
theorem iteF' {c : Bool} {A B : Prop} (e : c = false) (h : B) : if c = true then A else B := by subst e; exact iteF h
theorem yes_of {σ : L2.St} {H : Hp} {A B : Hp → Prop} (h : A H) : tYes σ H fun b H3 => if b = true then A H3 else B H3 := by
  show if true = true then A H else B H
  exact iteT h
section
variable {X : Cx}
theorem pst_set {i : Nat} {x : Str} {e : Expr} {te : TE} {pos pos' : Pos} (hN : X.N.Nodup) (hi : X.N[i]? = some x) (hx : Loc X.env.scope x) (he : PET X e te) (hs : swapsWith e (some (.Name x pos')) pos.line X.env = pure false := by rfl)
    (hf : X.fn x = true ∨ X.env.scope.names.lookup x = some .local := by first | exact .inl rfl | exact .inr rfl | assumption) : PST X (.Assign [.Name x pos'] e pos) (tAsg te (gName i)) := by
  intro pins s σ H D h0 I h
  refine wpAny_Assign_Name (thn (he pins s σ H _ h0 I h) fun v s1 ⟨y, H1, I1, r1, q1⟩ => ?_) hs
  exact store_ok I1 hN hi hx r1 (fun s2 I2 => ⟨_, H1, I2, q1⟩) hf
end
section
variable {J : It} {n : Nat} {G : Hp → Prop} {Y : Nat → Hp → V → Hp → Prop} {L : Hp → Hp → Prop}
/-- a list comprehension: S tells of the turn, the list so far and the heap -/
theorem lc_gen (w : Walk J n G Y) (R : Rel L) {g : TG} {tt : TT} {te : TE} {vs : List Nat} {σ : L2.St} {H1 : Hp} {D : Addr} {Qd : Hp → Prop} (hD : H1 D = none) (hn : n ≤ 100000)
    (S : Nat → List V → Hp → Prop) (h0 : S 0 [] (upd H1 D (.lst []))) (hG : ∀ i ys H, L H1 H → S i ys H → G H) (hu : ∀ i ys zs H o, L H1 H → H D = some (.lst zs) → S i ys H → S i ys (upd H D o))
    (hs : ∀ i x ys H H', i < n → L H1 H → H D = some (.lst ys) → S i ys H → Y i H x H' → ∀ (K1 : V → Hp → Prop) (K0 : Hp → Prop),
      (∀ y H2, L H H2 → S (i + 1) (ys ++ [y]) H2 → K1 y H2) → (∀ H2, L H H2 → S (i + 1) ys H2 → K0 H2) →
      g x (wipe σ vs) H' fun σ2 H2 => wipe σ2 vs = wipe σ vs ∧ tt σ2 H2 fun b H3 => if b = true then te σ2 H3 K1 else K0 H3)
    (hd : ∀ ys H, L H1 H → ys.length ≤ n → H D = some (.lst ys) → S n ys H → Qd H) :
    ∃ W : Nat → Nat → Hp → Prop, (∃ m, W 0 m (upd H1 D (.lst []))) ∧ ∀ i m H, W i m H →
      (J.stop i H ∧ Qd H) ∨ (J.go i H ∧ ∃ Nx : Hp → Prop, (∀ H', Nx H' → ∃ m', m' < m ∧ W (i + 1) m' H') ∧ ∀ x H', J.yld i H x H' → g x (wipe σ vs) H' fun σ2 H2 => wipe σ2 vs = wipe σ vs ∧ tt σ2 H2 fun b H3 =>
        if b = true then te σ2 H3 fun y H4 => ∃ acc, H4 D = some (.lst acc) ∧ acc.length < sizeLine ∧ Nx (upd H4 D (.lst (acc ++ [y]))) else Nx H3) := by
  refine lc_it w (fun i H => ∃ ys : List V, L H1 H ∧ ys.length ≤ i ∧ H D = some (.lst ys) ∧ S i ys H) ⟨[], R.chg (R.refl _) hD, Nat.le_refl _, upd_same, h0⟩ (fun i H _ ⟨ys, l, _, _, s⟩ => hG i ys H l s) ?_ (fun H ⟨ys, l, z, d, s⟩ => hd ys H l z d s)
  rintro i x H H' hi ⟨ys, l, z, d, s⟩ y
  refine hs i x ys H H' hi l d s y _ _ (fun v H2 l2 s2 => ?_) (fun H2 l2 s2 => ⟨ys, R.trans l l2, by omega, R.lst l2 d, s2⟩)
  refine ⟨ys, R.lst l2 d, sz_lt (by omega), ys ++ [v], R.chg (R.trans l l2) hD, by simp; omega, upd_same, hu _ _ _ _ _ (R.trans l l2) (R.lst l2 d) s2⟩
/-- each item by itself, nothing but new objects made: what f tells of the items -/
theorem lc_map {xs : List V} (w : Walk J n G (YAt xs)) (hx : n = xs.length) {g : TG} {tt : TT} {te : TE} {vs : List Nat} {σ : L2.St} {H1 : Hp} {D : Addr} {Qd : Hp → Prop} (hD : H1 D = none) (hn : n ≤ 100000) (f : V → Option V) (hG : ∀ H, Same H1 H → G H)
    (hs : ∀ x ∈ xs, ∀ H, Same H1 H → ∀ (K1 : V → Hp → Prop) (K0 : Hp → Prop), (∀ y H2, f x = some y → Same H H2 → K1 y H2) → (∀ H2, f x = none → Same H H2 → K0 H2) →
      g x (wipe σ vs) H fun σ2 H2 => wipe σ2 vs = wipe σ vs ∧ tt σ2 H2 fun b H3 => if b = true then te σ2 H3 K1 else K0 H3)
    (hd : ∀ H, Same H1 H → H D = some (.lst (xs.filterMap f)) → Qd H) :
    ∃ W : Nat → Nat → Hp → Prop, (∃ m, W 0 m (upd H1 D (.lst []))) ∧ ∀ i m H, W i m H →
      (J.stop i H ∧ Qd H) ∨ (J.go i H ∧ ∃ Nx : Hp → Prop, (∀ H', Nx H' → ∃ m', m' < m ∧ W (i + 1) m' H') ∧ ∀ x H', J.yld i H x H' → g x (wipe σ vs) H' fun σ2 H2 => wipe σ2 vs = wipe σ vs ∧ tt σ2 H2 fun b H3 =>
        if b = true then te σ2 H3 fun y H4 => ∃ acc, H4 D = some (.lst acc) ∧ acc.length < sizeLine ∧ Nx (upd H4 D (.lst (acc ++ [y]))) else Nx H3) := by
  refine lc_gen w rel_ex hD hn (fun i ys H => ys = (xs.take i).filterMap f) (by simp) (fun _ _ H l _ => hG H l) (fun _ _ _ _ _ _ _ s => s) ?_ (fun ys H l _ d s => hd H l (by rw [d, s, hx, List.take_length]))
  rintro i x ys H H' hi l d rfl ⟨rfl, hxi⟩ K1 K0 k1 k0
  have ht : xs.take (i + 1) = xs.take i ++ [x] := by rw [List.take_succ, hxi]; rfl
  refine hs x (List.mem_of_getElem? hxi) H' l K1 K0 (fun y H2 hf l2 => k1 y H2 l2 ?_) (fun H2 hf l2 => k0 H2 l2 ?_)
  · rw [ht, List.filterMap_append, List.filterMap_cons_some hf, List.filterMap_nil]
  · rw [ht, List.filterMap_append, List.filterMap_cons_none hf, List.filterMap_nil, List.append_nil]
/-- the same for truths: [p(x) for x in xs] -/
theorem lc_bl {xs : List V} (w : Walk J n G (YAt xs)) (hx : n = xs.length) {g : TG} {tt : TT} {te : TE} {vs : List Nat} {σ : L2.St} {H1 : Hp} {D : Addr} {Qd : Hp → Prop} (hD : H1 D = none) (hn : n ≤ 100000) (p : V → Bool) (hG : ∀ H, Same H1 H → G H)
    (hs : ∀ x ∈ xs, ∀ H, Same H1 H → ∀ (K1 : V → Hp → Prop) (K0 : Hp → Prop), (∀ H2, Same H H2 → K1 (.bl (p x)) H2) →
      g x (wipe σ vs) H fun σ2 H2 => wipe σ2 vs = wipe σ vs ∧ tt σ2 H2 fun b H3 => if b = true then te σ2 H3 K1 else K0 H3)
    (hd : ∀ H, Same H1 H → H D = some (.lst ((xs.map p).map V.bl)) → Qd H) :
    ∃ W : Nat → Nat → Hp → Prop, (∃ m, W 0 m (upd H1 D (.lst []))) ∧ ∀ i m H, W i m H →
      (J.stop i H ∧ Qd H) ∨ (J.go i H ∧ ∃ Nx : Hp → Prop, (∀ H', Nx H' → ∃ m', m' < m ∧ W (i + 1) m' H') ∧ ∀ x H', J.yld i H x H' → g x (wipe σ vs) H' fun σ2 H2 => wipe σ2 vs = wipe σ vs ∧ tt σ2 H2 fun b H3 =>
        if b = true then te σ2 H3 fun y H4 => ∃ acc, H4 D = some (.lst acc) ∧ acc.length < sizeLine ∧ Nx (upd H4 D (.lst (acc ++ [y]))) else Nx H3) := by
  refine lc_map w hx hD hn (fun v => some (.bl (p v))) hG (fun x hm H l K1 K0 k1 _ => hs x hm H l K1 K0 fun H2 l2 => k1 _ H2 rfl l2) fun H l h => hd H l ?_
  rw [h, List.map_map]
  congr 2
  rw [← List.filterMap_eq_map]
  rfl
theorem walk_txt {z : Str} : Walk (Its z) z.cps.size (fun _ => True) (YAt (z.cps.toList.map fun c => V.str ⟨#[c]⟩)) :=
  walk_str.mono (fun _ h => h) fun i H x H' hi _ y => ⟨y.1, by
    obtain ⟨c, hc, rfl⟩ := y.2
    rw [List.getElem?_map, Array.getElem?_toList, hc]; rfl⟩
theorem walk_keysY {d : Addr} {o : Obj} {kvs : List (Key × V)} : Walk (Itk d o kvs) kvs.length (fun H => H d = some (.frz o (.dK kvs))) (YAt (kvs.map fun kv => kV kv.1)) :=
  walk_keys.mono (fun _ h => h) fun i H x H' hi _ y => ⟨y.1, by
    obtain ⟨k, v, hc, rfl⟩ := y.2
    rw [List.getElem?_map, hc]; rfl⟩
theorem walk_valuesY {d : Addr} {o : Obj} {kvs : List (Key × V)} : Walk (Itd d o kvs) kvs.length (fun H => H d = some (.frz o (.dK kvs))) (YAt (kvs.map Prod.snd)) :=
  walk_values.mono (fun _ h => h) fun i H x H' hi _ y => ⟨y.1, by
    obtain ⟨k, hc⟩ := y.2
    rw [List.getElem?_map, hc]; rfl⟩
theorem walk_rng {lo : Int} {n : Nat} : Walk (Itr lo n) n (fun _ => True) (YAt ((List.range n).map fun i => V.int (lo + (i : Nat)))) :=
  walk_range.mono (fun _ h => h) fun i H x H' hi _ y => ⟨y.1, by rw [List.getElem?_map, List.getElem?_range hi, y.2]; rfl⟩
/-- the same for a dict -/
theorem dc_gen (w : Walk J n G Y) (R : Rel L) {g : TG} {tt : TT} {tk tv : TE} {vs : List Nat} {σ : L2.St} {H1 : Hp} {D : Addr} {Qd : Hp → Prop} (hD : H1 D = none) (hn : n ≤ 100000)
    (hdk : ∀ {H H2 : Hp} {kvs}, L H1 H → L H H2 → H D = some (.dK kvs) → H2 D = some (.dK kvs))
    (S : Nat → List (Key × V) → Hp → Prop) (h0 : S 0 [] (upd H1 D (.dK []))) (hG : ∀ i ys H, L H1 H → S i ys H → G H) (hu : ∀ i ys zs H o, L H1 H → H D = some (.dK zs) → S i ys H → S i ys (upd H D o))
    (hs : ∀ i x ys H H', i < n → L H1 H → H D = some (.dK ys) → S i ys H → Y i H x H' → ∀ (K1 : V → V → Hp → Prop) (K0 : Hp → Prop),
      (∀ k z H2, L H H2 → S (i + 1) (putK ys k z) H2 → K1 (kV k) z H2) → (∀ H2, L H H2 → S (i + 1) ys H2 → K0 H2) →
      g x (wipe σ vs) H' fun σ2 H2 => wipe σ2 vs = wipe σ vs ∧ tt σ2 H2 fun b H3 => if b = true then tk σ2 H3 fun y H4 => tv σ2 H4 fun z H5 => K1 y z H5 else K0 H3)
    (hd : ∀ ys H, L H1 H → ys.length ≤ n → H D = some (.dK ys) → S n ys H → Qd H) :
    ∃ W : Nat → Nat → Hp → Prop, (∃ m, W 0 m (upd H1 D (.dK []))) ∧ ∀ i m H, W i m H →
      (J.stop i H ∧ Qd H) ∨ (J.go i H ∧ ∃ Nx : Hp → Prop, (∀ H', Nx H' → ∃ m', m' < m ∧ W (i + 1) m' H') ∧ ∀ x H', J.yld i H x H' → g x (wipe σ vs) H' fun σ2 H2 => wipe σ2 vs = wipe σ vs ∧ tt σ2 H2 fun b H3 =>
        if b = true then tk σ2 H3 fun y H4 => tv σ2 H4 fun z H5 => ∃ kvs k, y = kV k ∧ H5 D = some (.dK kvs) ∧ kvs.length < sizeLine ∧ Nx (upd H5 D (.dK (putK kvs k z))) else Nx H3) := by
  have main : ∀ i H, i ≤ n → (∃ ys : List (Key × V), L H1 H ∧ ys.length ≤ i ∧ H D = some (.dK ys) ∧ S i ys H) → i < n → ∀ x H', Y i H x H' → g x (wipe σ vs) H' fun σ2 H2 => wipe σ2 vs = wipe σ vs ∧ tt σ2 H2 fun b H3 =>
        if b = true then tk σ2 H3 fun y H4 => tv σ2 H4 fun z H5 => ∃ kvs k, y = kV k ∧ H5 D = some (.dK kvs) ∧ kvs.length < sizeLine ∧ (∃ ys : List (Key × V), L H1 (upd H5 D (.dK (putK kvs k z))) ∧ ys.length ≤ i + 1 ∧ (upd H5 D (.dK (putK kvs k z))) D = some (.dK ys) ∧ S (i + 1) ys (upd H5 D (.dK (putK kvs k z))))
        else (∃ ys : List (Key × V), L H1 H3 ∧ ys.length ≤ i + 1 ∧ H3 D = some (.dK ys) ∧ S (i + 1) ys H3) := by
    rintro i H hi ⟨ys, l, z, d, s⟩ hlt x H' y
    refine hs i x ys H H' hlt l d s y (fun y z H5 => ∃ kvs k, y = kV k ∧ H5 D = some (.dK kvs) ∧ kvs.length < sizeLine ∧ (∃ ys : List (Key × V), L H1 (upd H5 D (.dK (putK kvs k z))) ∧ ys.length ≤ i + 1 ∧ (upd H5 D (.dK (putK kvs k z))) D = some (.dK ys) ∧ S (i + 1) ys (upd H5 D (.dK (putK kvs k z))))) _ (fun k v H2 l2 s2 => ?_) (fun H2 l2 s2 => ⟨ys, R.trans l l2, by omega, hdk l l2 d, s2⟩)
    refine ⟨ys, k, rfl, hdk l l2 d, sz_lt (by omega), putK ys k v, R.chg (R.trans l l2) hD, ?_, upd_same, hu _ _ _ _ _ (R.trans l l2) (hdk l l2 d) s2⟩
    unfold putK
    split
    · rw [List.length_map]; omega
    · rw [List.length_append]; simp; omega
  refine ⟨fun i m H => m = n - i ∧ i ≤ n ∧ ∃ ys : List (Key × V), L H1 H ∧ ys.length ≤ i ∧ H D = some (.dK ys) ∧ S i ys H, ⟨n, by simp, Nat.zero_le _, [], R.chg (R.refl _) hD, Nat.le_refl _, upd_same, h0⟩, ?_⟩
  rintro i m H ⟨rfl, hi, p⟩
  have q : G H := by obtain ⟨ys, l, _, _, s⟩ := p; exact hG i ys H l s
  by_cases hlt : i < n
  · exact .inr ⟨w.goes i H hlt q, _, fun H' p' => ⟨n - (i + 1), by omega, rfl, hlt, p'⟩, fun x H' y => main i H hi p hlt x H' (w.yields i H x H' hlt q y)⟩
  · have e : i = n := by omega
    subst e
    obtain ⟨ys, l, z, d, s⟩ := p
    exact .inl ⟨w.stops H q, hd ys H l z d s⟩
end
end Pf

set_option Elab.async false
set_option maxRecDepth 100000
set_option linter.all false
set_option maxHeartbeats 4000000
set_option pp.maxSteps 200
/-! Dicts whose keys are of several kinds: nothing, truths, numbers, texts, tuples of such. -/
namespace Pf
open PySem PySem.Spec
/-- an entry and its key, up to == -/
def EntIs (w : World) (h : Heap) (e : DictEntry) (k : NestedKey) : Prop := NestedIs h k e.key ∧ e.hash = k.hash w ∧ k.depth ≤ 8
/-- the entries of a dict, their keys unlike -/
structure Ents (w : World) (h : Heap) (es : List DictEntry) (ks : List NestedKey) : Prop where
  len : es.length = ks.length
  at_ : ∀ (i : Nat) (e : DictEntry) (k : NestedKey), es[i]? = some e → ks[i]? = some k → EntIs w h e k
  nd : ks.Nodup
section
variable {P : Program} {w : World} {A : Around} {E : Value → Shared → Prop} {s : Shared}
theorem Ents.get {h : Heap} {es : Array DictEntry} {ks : List NestedKey} (x : Ents w h es.toList ks) {i : Nat} (hi : i < es.size) : ∃ k, ks[i]? = some k ∧ EntIs w h es[i] k := by
  have hl : i < ks.length := by rw [← x.len]; simpa using hi
  exact ⟨ks[i], List.getElem?_eq_getElem hl, x.at_ i _ _ (by rw [List.getElem?_eq_getElem (by simpa using hi)]; simp) (List.getElem?_eq_getElem hl)⟩
theorem Ents.back {h : Heap} {es : Array DictEntry} {ks : List NestedKey} (x : Ents w h es.toList ks) {i : Nat} {k : NestedKey} (hk : ks[i]? = some k) : ∃ hi : i < es.size, EntIs w h es[i] k := by
  have hl : i < ks.length := (List.getElem?_eq_some_iff.mp hk).1
  have hi : i < es.size := by have := x.len; simp at this; omega
  exact ⟨hi, x.at_ i _ _ (by rw [List.getElem?_eq_getElem (by simpa using hi)]; simp) hk⟩
theorem ks_one {ks : List NestedKey} (nd : ks.Nodup) {i j : Nat} {k : NestedKey} (hi : ks[i]? = some k) (hj : ks[j]? = some k) : i = j :=
  (List.getElem?_inj (List.getElem?_eq_some_iff.mp hi).1 nd).mp (hi.trans hj.symm)
theorem places_in {es : Array DictEntry} {c : Int} {i : Nat} (h : i ∈ placesWithHash es.size (fun i => es[i]?.map (·.hash)) c) : i < es.size := by
  unfold placesWithHash at h
  exact List.mem_range.mp (List.mem_filter.mp h).1
theorem places_nd {es : Array DictEntry} {c : Int} : (placesWithHash es.size (fun i => es[i]?.map (·.hash)) c).Nodup := by
  unfold placesWithHash
  exact List.nodup_range.sublist List.filter_sublist
/-- where the key stands is among the places with its hash -/
theorem places_has {h : Heap} {es : Array DictEntry} {ks : List NestedKey} {k : NestedKey} (x : Ents w h es.toList ks) : ∀ j, ks[j]? = some k → j ∈ placesWithHash es.size (fun i => es[i]?.map (·.hash)) (k.hash w) := fun j hj => by
  obtain ⟨hi, _, hh, _⟩ := x.back hj
  unfold placesWithHash
  refine List.mem_filter.mpr ⟨List.mem_range.mpr hi, ?_⟩
  show (Option.map (fun x => x.hash) es[j]? == some (NestedKey.hash w k)) = true
  rw [Array.getElem?_eq_getElem hi]
  simp [hh]
theorem stored_is {h : Heap} {es : Array DictEntry} {ks : List NestedKey} (x : Ents w h es.toList ks) {l : List Nat} : ∀ v ∈ l.filterMap (fun i => es[i]?.map (·.key)), ∃ k', NestedIs h k' v ∧ k'.depth ≤ 8 := fun v hv => by
  obtain ⟨i, _, hi⟩ := List.mem_filterMap.mp hv
  cases he : es[i]? with
  | none => rw [he] at hi; cases hi
  | some e =>
    rw [he] at hi
    obtain ⟨hl, rfl⟩ := Array.getElem?_eq_some_iff.mp he
    obtain ⟨k', _, q, _, q2⟩ := x.get hl
    have : es[i].key = v := by simpa using hi
    exact ⟨k', by rw [← this]; exact q, q2⟩
theorem mayTell_no {key : Value} {k : NestedKey} {stored : List Value} {Q : Bool → Shared → Prop} (hk : NestedIs s.heap k key) (h8 : k.depth ≤ 8) (hs : ∀ v ∈ stored, ∃ k', NestedIs s.heap k' v ∧ k'.depth ≤ 8) (h : Q false s) : wpAny (model P w) A (tableMayTell key stored) Q E s := by
  unfold tableMayTell
  split
  · exact wpAny_pure h
  · refine wpAny_bind (quiet_key k key 8 s hk h8 A E _ ?_)
    simp only [Bool.not_true, Bool.false_eq_true, if_false]
    refine wpAny_bind (wpAny_forIn_list _ (fun rest r s' => s' = s ∧ r = (none, ()) ∧ ∀ v ∈ rest, ∃ k', NestedIs s.heap k' v ∧ k'.depth ≤ 8) _ ?_ ?_ _ _ ⟨rfl, rfl, hs⟩)
    · rintro y rest r s' ⟨rfl, rfl, hr⟩
      obtain ⟨k', h1, h2⟩ := hr y List.mem_cons_self
      refine wpAny_bind (quiet_key k' y 8 s' h1 h2 A E _ ?_)
      simp only [Bool.not_true, Bool.false_eq_true, if_false]
      exact wpAny_pure ⟨rfl, rfl, fun v hv => hr v (List.mem_cons_of_mem _ hv)⟩
    · rintro r s' ⟨rfl, rfl, _⟩
      exact wpAny_pure h
/-- asking == of a stored key -/
theorem mx_eq {key key' : Value} {k k' : NestedKey} {Q : Bool → Shared → Prop} (hu : A.units + 8 < cLine) (h1 : NestedIs s.heap k' key') (h2 : NestedIs s.heap k key) (d1 : k'.depth ≤ 8) (h : Q (decide (k' = k)) s) : wpAny (model P w) A (eqBool key' key) Q E s :=
  eqAt_key k' k A s key' key h1 h2 (by omega) P w E Q (by rw [← NestedKey.decide_eq]; exact h)
theorem mx_plain {d : Addr} {o : Obj} {es : Array DictEntry} {ep : Nat} {ks : List NestedKey} {k : NestedKey} {key : Value} {Q : Option Nat → Shared → Prop} (hu : A.units + 8 < cLine) (hk : NestedIs s.heap k key) (ho : s.heap.get? d = some o) (hd : o.data = .dict es ep) (x : Ents w s.heap es.toList ks)
    (hn : (∀ j : Nat, ks[j]? ≠ some k) → Q none s) (hs : ∀ j : Nat, ks[j]? = some k → Q (some j) s) (L : List Nat) (hL : ∀ i ∈ L, i < es.size) (hh : ∀ j : Nat, ks[j]? = some k → j ∈ L) : wpAny (model P w) A (dictWalkPlain d key (k.hash w) es L) Q E s := by
  unfold dictWalkPlain
  refine wpAny_bind (wpAny_forIn_list _ (fun rest b s' => s' = s ∧ b = (none, ()) ∧ (∀ i ∈ rest, i < es.size) ∧ ∀ j, ks[j]? = some k → j ∈ rest) _ ?_ ?_ _ _ ⟨rfl, rfl, hL, hh⟩)
  · rintro y rest b s' ⟨rfl, rfl, hr, ha⟩
    have hy := hr y List.mem_cons_self
    obtain ⟨k', hk', e1, e2, e3⟩ := x.get hy
    have nx : k' ≠ k → ∀ j, ks[j]? = some k → j ∈ rest := fun ne j hj => by
      rcases List.mem_cons.mp (ha j hj) with rfl | z
      · rw [hk'] at hj; exact absurd (Option.some.inj hj) ne
      · exact z
    have hr' : ∀ i ∈ rest, i < es.size := fun i hi => hr i (List.mem_cons_of_mem _ hi)
    simp only [Array.getElem?_eq_getElem hy]
    by_cases hc : (es[y].hash == k.hash w) = true
    · rw [if_pos hc]
      refine wpAny_bind (wpAny_dictEpoch ho hd (wpAny_bind (mx_eq hu e1 hk e3 (wpAny_bind (wpAny_dictEpoch ho hd ?_)))))
      show wpAny _ _ (if (ep != ep) = true then _ else _) _ E _
      rw [if_neg (by simp)]
      by_cases he : k' = k
      · rw [decide_eq_true he]
        exact wpAny_bind (wpAny_rule (wpAny_pure (wpAny_pure (hs y (by rw [hk', he])))))
      · rw [decide_eq_false he]
        exact wpAny_bind (wpAny_rule (wpAny_pure ⟨rfl, rfl, hr', nx he⟩))
    · rw [if_neg hc]
      exact wpAny_pure ⟨rfl, rfl, hr', nx fun e => hc (by rw [e2, e]; simp)⟩
  · rintro b s' ⟨rfl, rfl, _, ha⟩
    exact wpAny_pure (hn fun j hj => absurd (ha j hj) (List.not_mem_nil))
/-- the walk over the places where == may be asked of tuples -/
theorem mx_loop {ks : List NestedKey} {k : NestedKey} (nd : ks.Nodup) {f : Nat → Option (Option Nat) × Option Nat → Sem (ForInStep (Option (Option Nat) × Option Nat))} {L : List Nat} (hL : L.Nodup) (hh : ∀ j : Nat, ks[j]? = some k → j ∈ L)
    (h1 : ∀ i hit, i ∈ L → ks[i]? ≠ some k → wpAny (model P w) A (f i (none, hit)) (fun r s' => s' = s ∧ r = .yield (none, hit)) E s)
    (h2 : ∀ i, i ∈ L → ks[i]? = some k → wpAny (model P w) A (f i (none, none)) (fun r s' => s' = s ∧ (r = .yield (none, some i) ∨ ∃ z, r = .done (some (some i), z))) E s) {Q : Option (Option Nat) × Option Nat → Shared → Prop}
    (q1 : (∀ j : Nat, ks[j]? ≠ some k) → Q (none, none) s) (q2 : ∀ j : Nat, ks[j]? = some k → Q (none, some j) s) (q3 : ∀ (j : Nat) z, ks[j]? = some k → Q (some (some j), z) s) : wpAny (model P w) A (forIn L (none, none) f) Q E s := by
  refine wpAny_forIn_list _ (fun rest b s' => s' = s ∧ rest.Nodup ∧ (∀ i ∈ rest, i ∈ L) ∧ ((b = (none, none) ∧ ∀ j : Nat, ks[j]? = some k → j ∈ rest) ∨ ∃ j, b = (none, some j) ∧ ks[j]? = some k ∧ j ∉ rest)) _ ?_ ?_ _ _ ⟨rfl, hL, fun _ h => h, .inl ⟨rfl, hh⟩⟩
  · rintro y rest b s' ⟨rfl, hn, hs, hb⟩
    obtain ⟨hy, hn'⟩ := List.nodup_cons.mp hn
    have hs' : ∀ i ∈ rest, i ∈ L := fun i hi => hs i (List.mem_cons_of_mem _ hi)
    rcases hb with ⟨rfl, ha⟩ | ⟨j, rfl, hj, hjn⟩
    · by_cases he : ks[y]? = some k
      · refine wpAny_mono (h2 y (hs y List.mem_cons_self) he) (fun r s2 z => ?_) fun _ _ z => z
        obtain ⟨rfl, rfl | ⟨z, rfl⟩⟩ := z
        · exact ⟨rfl, hn', hs', .inr ⟨y, rfl, he, hy⟩⟩
        · exact q3 y z he
      · refine wpAny_mono (h1 y none (hs y List.mem_cons_self) he) (fun r s2 z => ?_) fun _ _ z => z
        obtain ⟨rfl, rfl⟩ := z
        refine ⟨rfl, hn', hs', .inl ⟨rfl, fun j hj => ?_⟩⟩
        rcases List.mem_cons.mp (ha j hj) with rfl | z
        · exact absurd hj he
        · exact z
    · have he : ks[y]? ≠ some k := fun e => hjn (by rw [ks_one nd hj e]; exact List.mem_cons_self)
      refine wpAny_mono (h1 y (some j) (hs y List.mem_cons_self) he) (fun r s2 z => ?_) fun _ _ z => z
      obtain ⟨rfl, rfl⟩ := z
      exact ⟨rfl, hn', hs', .inr ⟨j, rfl, hj, fun z => hjn (List.mem_cons_of_mem _ z)⟩⟩
  · rintro b s' ⟨rfl, _, _, hb⟩
    rcases hb with ⟨rfl, ha⟩ | ⟨j, rfl, hj, _⟩
    · exact q1 fun j hj => absurd (ha j hj) (List.not_mem_nil)
    · exact q2 j hj
/-- where a key stands -/
theorem mx_find {d : Addr} {o : Obj} {es : Array DictEntry} {ep : Nat} {ks : List NestedKey} {k : NestedKey} {key : Value} {Q : Option Nat → Shared → Prop} (hu : A.units + 8 < cLine) (hk : NestedIs s.heap k key) (h8 : k.depth ≤ 8) (ho : s.heap.get? d = some o) (hd : o.data = .dict es ep) (x : Ents w s.heap es.toList ks)
    (hn : (∀ j : Nat, ks[j]? ≠ some k) → Q none s) (hs : ∀ j : Nat, ks[j]? = some k → Q (some j) s) : wpAny (model P w) A (dictFind d key (k.hash w)) Q E s := by
  have hst := stored_is x (l := placesWithHash es.size (fun i => es[i]?.map (·.hash)) (k.hash w))
  have hin : ∀ i ∈ placesWithHash es.size (fun i => es[i]?.map (·.hash)) (k.hash w), i < es.size := fun i hi => places_in hi
  have hhas := places_has (k := k) x
  have hpn := places_nd (es := es) (c := k.hash w)
  have pl := fun Q' (h1 : (∀ j : Nat, ks[j]? ≠ some k) → Q' none s) h2 => mx_plain (P := P) (E := E) (Q := Q') hu hk ho hd x h1 h2 _ hin hhas
  generalize hP : placesWithHash es.size (fun i => es[i]?.map (·.hash)) (k.hash w) = L at hst hin hhas hpn pl
  unfold dictFind
  refine wpAny_holding (wpAny_bind (wpAny_dictEntries ho hd ?_))
  dsimp only
  rw [hP]
  have txt : ∀ y t, key = .str y t → (es.all fun e => isExactStrKey e.key) = true → wpAny (model P w) A (foundByValue d key es y) Q E s := fun y t hy ha => by
    subst hy
    obtain rfl : k = .text y := by cases hk; rfl
    have hall : ∀ (i : Nat) (hi : i < es.size), (es[i].key.isStr y = true ↔ ks[i]? = some (.text y)) := fun i hi => by
      obtain ⟨k', hk1, e1, e2, e3⟩ := x.get hi
      have hs1 := Array.all_eq_true.mp ha i hi
      rw [hk1]
      generalize es[i].key = v at e1 hs1
      cases e1 with
      | text z u =>
        constructor
        · intro h
          have : z = y := by simpa [Value.isStr] using h
          rw [this]
        · intro h
          injection h with h
          injection h with h
          subst h
          simp [Value.isStr]
      | none => cases hs1
      | bool e => cases hs1
      | int a b => cases hs1
      | tup a b c d => cases hs1
    unfold foundByValue
    cases hf : es.findIdx? (fun e => e.key.isStr y) with
    | none =>
      refine wpAny_pure (hn fun j hj => ?_)
      obtain ⟨hi, _⟩ := x.back hj
      have z := Array.findIdx?_eq_none_iff.mp hf es[j] (Array.getElem_mem hi)
      rw [(hall j hi).mpr hj] at z
      cases z
    | some i =>
      obtain ⟨hi, h1, _⟩ := Array.findIdx?_eq_some_iff_getElem.mp hf
      have hki := (hall i hi).mp h1
      obtain ⟨_, e1, e2, e3⟩ := x.back hki
      simp only [Array.getElem?_eq_getElem hi]
      refine wpAny_bind (wpAny_dictEpoch ho hd (wpAny_bind (mx_eq hu e1 hk e3 (wpAny_bind (wpAny_dictEpoch ho hd ?_)))))
      rw [decide_eq_true rfl, if_neg (by simp), if_pos rfl]
      exact wpAny_bind (wpAny_rule (wpAny_pure (hs i hki)))
  have hk' := hk
  cases hk
  case text y t =>
    dsimp only
    by_cases hx : (es.all fun e => isExactStrKey e.key) = true
    · rw [if_pos hx]
      first | exact txt y t rfl hx | exact wpAny_bind (wpAny_mono (txt y t rfl hx) (fun _ _ z => wpAny_pure z) fun _ _ z => z)
    rw [if_neg hx]
    by_cases hall : ((Value.str y t :: L.filterMap fun i => es[i]?.map (·.key)).all carriedByValue) = true
    · rw [if_pos hall]
      first | exact pl Q hn hs | exact wpAny_bind (wpAny_mono (pl Q hn hs) (fun _ _ z => wpAny_pure z) fun _ _ z => z)
    rw [if_neg hall]
    by_cases hone : ((L.filterMap fun i => es[i]?.map (·.key)) == [Value.str y t]) = true <;>
    (first | rw [if_pos hone] | rw [if_neg hone]) <;> (first | with_reducible refine wpAny_bind (wpAny_pure ?_) | refine wpAny_bind (mayTell_no hk' h8 hst ?_)) <;> (
      rw [if_neg (by simp)]
      refine wpAny_bind (mx_loop x.nd hpn hhas (fun i hit hi hne => ?_) (fun i hi he => ?_) (fun h => wpAny_pure (hn h)) (fun j hj => wpAny_pure (hs j hj)) (fun j z hj => wpAny_pure (hs j hj)))
      · have hlt := hin i hi
        obtain ⟨k', hk1, e1, e2, e3⟩ := x.get hlt
        have ne : k' ≠ _ := fun e => hne (by rw [hk1, e])
        simp only [Array.getElem?_eq_getElem hlt]
        by_cases hc : (es[i].hash == NestedKey.hash w (.text y)) = true
        · rw [if_pos hc]
          refine wpAny_bind (wpAny_dictEpoch ho hd (wpAny_bind (mx_eq hu e1 hk' e3 (wpAny_bind (wpAny_dictEpoch ho hd ?_)))))
          rw [decide_eq_false ne, if_neg (by simp), if_neg (by simp)]
          refine wpAny_bind (wpAny_rule ?_)
          rw [if_neg (by simp)]
          exact wpAny_pure ⟨rfl, rfl⟩
        · rw [if_neg hc]
          exact wpAny_pure ⟨rfl, rfl⟩
      · have hlt := hin i hi
        obtain ⟨k', hk1, e1, e2, e3⟩ := x.get hlt
        have ke : k' = _ := Option.some.inj (hk1.symm.trans he)
        simp only [Array.getElem?_eq_getElem hlt]
        rw [if_pos (by rw [e2, ke]; simp)]
        refine wpAny_bind (wpAny_dictEpoch ho hd (wpAny_bind (mx_eq hu e1 hk' e3 (wpAny_bind (wpAny_dictEpoch ho hd ?_)))))
        rw [decide_eq_true ke, if_neg (by simp), if_pos rfl, if_neg (by simp)]
        refine wpAny_bind (wpAny_rule ?_)
        split
        · exact wpAny_pure ⟨rfl, .inr ⟨_, rfl⟩⟩
        · exact wpAny_pure ⟨rfl, .inl rfl⟩)
  case none =>
    by_cases hall : ((Value.none :: L.filterMap fun i => es[i]?.map (·.key)).all carriedByValue) = true
    · rw [if_pos hall]
      first | exact pl Q hn hs | exact wpAny_bind (wpAny_mono (pl Q hn hs) (fun _ _ z => wpAny_pure z) fun _ _ z => z)
    rw [if_neg hall]
    by_cases hone : ((L.filterMap fun i => es[i]?.map (·.key)) == [Value.none]) = true <;>
    (first | rw [if_pos hone] | rw [if_neg hone]) <;> (first | with_reducible refine wpAny_bind (wpAny_pure ?_) | refine wpAny_bind (mayTell_no hk' h8 hst ?_)) <;> (
      rw [if_neg (by simp)]
      refine wpAny_bind (mx_loop x.nd hpn hhas (fun i hit hi hne => ?_) (fun i hi he => ?_) (fun h => wpAny_pure (hn h)) (fun j hj => wpAny_pure (hs j hj)) (fun j z hj => wpAny_pure (hs j hj)))
      · have hlt := hin i hi
        obtain ⟨k', hk1, e1, e2, e3⟩ := x.get hlt
        have ne : k' ≠ _ := fun e => hne (by rw [hk1, e])
        simp only [Array.getElem?_eq_getElem hlt]
        by_cases hc : (es[i].hash == NestedKey.hash w .none) = true
        · rw [if_pos hc]
          refine wpAny_bind (wpAny_dictEpoch ho hd (wpAny_bind (mx_eq hu e1 hk' e3 (wpAny_bind (wpAny_dictEpoch ho hd ?_)))))
          rw [decide_eq_false ne, if_neg (by simp), if_neg (by simp)]
          refine wpAny_bind (wpAny_rule ?_)
          rw [if_neg (by simp)]
          exact wpAny_pure ⟨rfl, rfl⟩
        · rw [if_neg hc]
          exact wpAny_pure ⟨rfl, rfl⟩
      · have hlt := hin i hi
        obtain ⟨k', hk1, e1, e2, e3⟩ := x.get hlt
        have ke : k' = _ := Option.some.inj (hk1.symm.trans he)
        simp only [Array.getElem?_eq_getElem hlt]
        rw [if_pos (by rw [e2, ke]; simp)]
        refine wpAny_bind (wpAny_dictEpoch ho hd (wpAny_bind (mx_eq hu e1 hk' e3 (wpAny_bind (wpAny_dictEpoch ho hd ?_)))))
        rw [decide_eq_true ke, if_neg (by simp), if_pos rfl, if_neg (by simp)]
        refine wpAny_bind (wpAny_rule ?_)
        split
        · exact wpAny_pure ⟨rfl, .inr ⟨_, rfl⟩⟩
        · exact wpAny_pure ⟨rfl, .inl rfl⟩)
  case bool b n0 e =>
    by_cases hall : ((Value.bool b :: L.filterMap fun i => es[i]?.map (·.key)).all carriedByValue) = true
    · rw [if_pos hall]
      first | exact pl Q hn hs | exact wpAny_bind (wpAny_mono (pl Q hn hs) (fun _ _ z => wpAny_pure z) fun _ _ z => z)
    rw [if_neg hall]
    by_cases hone : ((L.filterMap fun i => es[i]?.map (·.key)) == [Value.bool b]) = true <;>
    (first | rw [if_pos hone] | rw [if_neg hone]) <;> (first | with_reducible refine wpAny_bind (wpAny_pure ?_) | refine wpAny_bind (mayTell_no hk' h8 hst ?_)) <;> (
      rw [if_neg (by simp)]
      refine wpAny_bind (mx_loop x.nd hpn hhas (fun i hit hi hne => ?_) (fun i hi he => ?_) (fun h => wpAny_pure (hn h)) (fun j hj => wpAny_pure (hs j hj)) (fun j z hj => wpAny_pure (hs j hj)))
      · have hlt := hin i hi
        obtain ⟨k', hk1, e1, e2, e3⟩ := x.get hlt
        have ne : k' ≠ _ := fun e => hne (by rw [hk1, e])
        simp only [Array.getElem?_eq_getElem hlt]
        by_cases hc : (es[i].hash == NestedKey.hash w (.num n0)) = true
        · rw [if_pos hc]
          refine wpAny_bind (wpAny_dictEpoch ho hd (wpAny_bind (mx_eq hu e1 hk' e3 (wpAny_bind (wpAny_dictEpoch ho hd ?_)))))
          rw [decide_eq_false ne, if_neg (by simp), if_neg (by simp)]
          refine wpAny_bind (wpAny_rule ?_)
          rw [if_neg (by simp)]
          exact wpAny_pure ⟨rfl, rfl⟩
        · rw [if_neg hc]
          exact wpAny_pure ⟨rfl, rfl⟩
      · have hlt := hin i hi
        obtain ⟨k', hk1, e1, e2, e3⟩ := x.get hlt
        have ke : k' = _ := Option.some.inj (hk1.symm.trans he)
        simp only [Array.getElem?_eq_getElem hlt]
        rw [if_pos (by rw [e2, ke]; simp)]
        refine wpAny_bind (wpAny_dictEpoch ho hd (wpAny_bind (mx_eq hu e1 hk' e3 (wpAny_bind (wpAny_dictEpoch ho hd ?_)))))
        rw [decide_eq_true ke, if_neg (by simp), if_pos rfl, if_neg (by simp)]
        refine wpAny_bind (wpAny_rule ?_)
        split
        · exact wpAny_pure ⟨rfl, .inr ⟨_, rfl⟩⟩
        · exact wpAny_pure ⟨rfl, .inl rfl⟩)
  case int n0 t =>
    by_cases hall : ((Value.int n0 t :: L.filterMap fun i => es[i]?.map (·.key)).all carriedByValue) = true
    · rw [if_pos hall]
      first | exact pl Q hn hs | exact wpAny_bind (wpAny_mono (pl Q hn hs) (fun _ _ z => wpAny_pure z) fun _ _ z => z)
    rw [if_neg hall]
    by_cases hone : ((L.filterMap fun i => es[i]?.map (·.key)) == [Value.int n0 t]) = true <;>
    (first | rw [if_pos hone] | rw [if_neg hone]) <;> (first | with_reducible refine wpAny_bind (wpAny_pure ?_) | refine wpAny_bind (mayTell_no hk' h8 hst ?_)) <;> (
      rw [if_neg (by simp)]
      refine wpAny_bind (mx_loop x.nd hpn hhas (fun i hit hi hne => ?_) (fun i hi he => ?_) (fun h => wpAny_pure (hn h)) (fun j hj => wpAny_pure (hs j hj)) (fun j z hj => wpAny_pure (hs j hj)))
      · have hlt := hin i hi
        obtain ⟨k', hk1, e1, e2, e3⟩ := x.get hlt
        have ne : k' ≠ _ := fun e => hne (by rw [hk1, e])
        simp only [Array.getElem?_eq_getElem hlt]
        by_cases hc : (es[i].hash == NestedKey.hash w (.num n0)) = true
        · rw [if_pos hc]
          refine wpAny_bind (wpAny_dictEpoch ho hd (wpAny_bind (mx_eq hu e1 hk' e3 (wpAny_bind (wpAny_dictEpoch ho hd ?_)))))
          rw [decide_eq_false ne, if_neg (by simp), if_neg (by simp)]
          refine wpAny_bind (wpAny_rule ?_)
          rw [if_neg (by simp)]
          exact wpAny_pure ⟨rfl, rfl⟩
        · rw [if_neg hc]
          exact wpAny_pure ⟨rfl, rfl⟩
      · have hlt := hin i hi
        obtain ⟨k', hk1, e1, e2, e3⟩ := x.get hlt
        have ke : k' = _ := Option.some.inj (hk1.symm.trans he)
        simp only [Array.getElem?_eq_getElem hlt]
        rw [if_pos (by rw [e2, ke]; simp)]
        refine wpAny_bind (wpAny_dictEpoch ho hd (wpAny_bind (mx_eq hu e1 hk' e3 (wpAny_bind (wpAny_dictEpoch ho hd ?_)))))
        rw [decide_eq_true ke, if_neg (by simp), if_pos rfl, if_neg (by simp)]
        refine wpAny_bind (wpAny_rule ?_)
        split
        · exact wpAny_pure ⟨rfl, .inr ⟨_, rfl⟩⟩
        · exact wpAny_pure ⟨rfl, .inl rfl⟩)
  case tup a o' vs n ks' g1 g2 g3 g4 =>
    rw [if_neg (show ¬ ((Value.ref a :: L.filterMap fun i => es[i]?.map (·.key)).all carriedByValue) = true by simp [carriedByValue])]
    rw [if_neg (show ¬ (es.any fun e => e.key == Value.ref a && e.hash != NestedKey.hash w (.tup ks')) = true from fun z => by
      rw [← Array.any_toList, List.any_eq_true] at z
      obtain ⟨e, he, hc⟩ := z
      simp only [Bool.and_eq_true, beq_iff_eq, bne_iff_ne, ne_eq] at hc
      obtain ⟨i, hi⟩ := List.mem_iff_getElem?.mp he
      have hlt : i < es.size := by have := (List.getElem?_eq_some_iff.mp hi).1; simpa using this
      obtain ⟨k', _, e1, e2, _⟩ := x.get hlt
      have ee : es[i] = e := by
        rw [List.getElem?_eq_getElem (by simpa using hlt)] at hi
        simpa using hi
      rw [ee] at e1 e2
      rw [hc.1] at e1
      exact hc.2 (by rw [e2, NestedIs.inj _ _ _ e1 hk']))]
    by_cases hone : ((L.filterMap fun i => es[i]?.map (·.key)) == [Value.ref a]) = true <;>
    (first | rw [if_pos hone] | rw [if_neg hone]) <;> (first | with_reducible refine wpAny_bind (wpAny_pure ?_) | refine wpAny_bind (mayTell_no hk' h8 hst ?_)) <;> (
      rw [if_neg (by simp)]
      refine wpAny_bind (mx_loop x.nd hpn hhas (fun i hit hi hne => ?_) (fun i hi he => ?_) (fun h => wpAny_pure (hn h)) (fun j hj => wpAny_pure (hs j hj)) (fun j z hj => wpAny_pure (hs j hj)))
      · have hlt := hin i hi
        obtain ⟨k', hk1, e1, e2, e3⟩ := x.get hlt
        have ne : k' ≠ _ := fun e => hne (by rw [hk1, e])
        simp only [Array.getElem?_eq_getElem hlt]
        by_cases hc : (es[i].hash == NestedKey.hash w (.tup ks')) = true
        · rw [if_pos hc]
          refine wpAny_bind (wpAny_dictEpoch ho hd (wpAny_bind (mx_eq hu e1 hk' e3 (wpAny_bind (wpAny_dictEpoch ho hd ?_)))))
          rw [decide_eq_false ne, if_neg (by simp), if_neg (by simp)]
          refine wpAny_bind (wpAny_rule ?_)
          rw [if_neg (by simp)]
          exact wpAny_pure ⟨rfl, rfl⟩
        · rw [if_neg hc]
          exact wpAny_pure ⟨rfl, rfl⟩
      · have hlt := hin i hi
        obtain ⟨k', hk1, e1, e2, e3⟩ := x.get hlt
        have ke : k' = _ := Option.some.inj (hk1.symm.trans he)
        simp only [Array.getElem?_eq_getElem hlt]
        rw [if_pos (by rw [e2, ke]; simp)]
        refine wpAny_bind (wpAny_dictEpoch ho hd (wpAny_bind (mx_eq hu e1 hk' e3 (wpAny_bind (wpAny_dictEpoch ho hd ?_)))))
        rw [decide_eq_true ke, if_neg (by simp), if_pos rfl, if_neg (by simp)]
        refine wpAny_bind (wpAny_rule ?_)
        split
        · exact wpAny_pure ⟨rfl, .inr ⟨_, rfl⟩⟩
        · exact wpAny_pure ⟨rfl, .inl rfl⟩)
end
end Pf

set_option Elab.async false
set_option maxRecDepth 100000
set_option linter.all false
set_option maxHeartbeats 4000000
set_option pp.maxSteps 200
/-! d[k] and d[k] = v of dicts whose keys are of several kinds. -/
namespace Pf
open PySem PySem.Spec
/-- the object of a dict -/
abbrev dObj (es : Array DictEntry) (ep : Nat) : Obj := ⟨.type "dict", none, .dict es ep, #[]⟩
theorem dObj_exact (es : Array DictEntry) (ep : Nat) : (dObj es ep).ExactDict := ⟨rfl, rfl, rfl⟩
/-- the entries behind d[k] = v -/
def putEs (es : Array DictEntry) (h : Int) (key v : Value) : Option Nat → Array DictEntry
  | some j => es.modify j fun e => { e with val := v }
  | none => es.push ⟨h, key, v⟩
section
variable {P : Program} {w : World} {A : Around} {E : Value → Shared → Prop} {s : Shared} {d : Addr} {es : Array DictEntry} {ep : Nat} {ks : List NestedKey} {k : NestedKey} {key : Value}
theorem mx_get {Q : Option Value → Shared → Prop} (hu : A.units + 8 < cLine) (hk : NestedIs s.heap k key) (h8 : k.depth ≤ 8) (ho : s.heap.get? d = some (dObj es ep)) (x : Ents w s.heap es.toList ks)
    (h : ∀ (t : Nat) (j : Nat) (hj : j < es.size), ks[j]? = some k → Q (some es[j].val) { s with toks := t }) (h0 : ∀ t : Nat, k ∉ ks → Q none { s with toks := t }) : wpAny (model P w) A (dictGet d key) Q E s := by
  unfold dictGet
  refine wpAny_holding (wpAny_bind (pyHash_key k key A s _ hk (by omega) (wpAny_bind (mx_find (s := { s with toks := s.toks + k.draws }) hu hk h8 ho rfl x ?_ ?_))))
  · intro hn
    exact wpAny_pure (h0 _ fun hm => by obtain ⟨i, hi⟩ := List.mem_iff_getElem?.mp hm; exact hn i hi)
  · intro j hj
    obtain ⟨hl, _⟩ := x.back hj
    refine wpAny_bind (wpAny_dictEntries (s := { s with toks := s.toks + k.draws }) ho rfl ?_)
    rw [Array.getElem?_eq_getElem hl]
    exact wpAny_pure (h _ j hl hj)
theorem mx_set {v : Value} {Q : Unit → Shared → Prop} (hu : A.units + 8 < cLine) (hk : NestedIs s.heap k key) (h8 : k.depth ≤ 8) (ho : s.heap.get? d = some (dObj es ep)) (x : Ents w s.heap es.toList ks) (hz : es.size ≤ sizeLine)
    (h : ∀ (h' : Heap) (t ep' : Nat) (j : Option Nat), h'.get? d = some (dObj (putEs es (k.hash w) key v j) ep') → Heap.SameBut d s.heap h' → ((j = none ∧ k ∉ ks) ∨ ∃ i, j = some i ∧ ks[i]? = some k) → Q () { s with heap := h', toks := t }) : wpAny (model P w) A (dictSet d key v) Q E s := by
  unfold dictSet
  refine wpAny_holding (wpAny_bind (pyHash_key k key A s _ hk (by omega) ?_))
  unfold dictSetHashed
  refine wpAny_holding (wpAny_bind (mx_find (s := { s with toks := s.toks + k.draws }) hu hk h8 ho rfl x ?_ ?_))
  · intro hn
    refine wpAny_bind (wpAny_rule (wpAny_updateDictKeys (hz := hz) (s := { s with toks := s.toks + k.draws }) ho rfl (h _ _ _ none (Heap.get?_update_self _ ho ?_) (Heap.SameBut.update ..) (.inl ⟨rfl, fun hm => ?_⟩))))
    · exact Obj.isFreed_of_dict (Obj.data_mapDictKeys rfl _)
    · obtain ⟨i, hi⟩ := List.mem_iff_getElem?.mp hm
      exact hn i hi
  · intro j hj
    refine wpAny_bind (wpAny_rule (wpAny_bind (wpAny_updateDict (s := { s with toks := s.toks + k.draws }) ho rfl (wpAny_point (h _ _ _ (some j) (Heap.get?_update_self _ ho ?_) (Heap.SameBut.update ..) (.inr ⟨j, rfl, hj⟩))))))
    exact Obj.isFreed_of_dict (Obj.data_mapDict rfl _)
theorem mx_getItem {v : Value} {j : Nat} {Q : Value → Shared → Prop} (hu : A.units + 9 < cLine) (hk : NestedIs s.heap k key) (h8 : k.depth ≤ 8) (ho : s.heap.get? d = some (dObj es ep)) (x : Ents w s.heap es.toList ks) (hj : ks[j]? = some k) (hv : es[j]?.map (·.val) = some v)
    (h : ∀ t : Nat, Q v { s with toks := t }) : wpAny (model P w) A (getItem (.ref d) key) Q E s := by
  have hT : s.TypeIs (.ref d) "dict" := ⟨_, ho, rfl⟩
  unfold getItem
  refine wpAny_holding (wpAny_bind (wpAny_sequenceKey hT (by decide) ?_))
  refine wpAny_bind (wpAny_callSpecial?_slot (name := Str.ofString "__getitem__") hT slot_dict_getitem (wpAny_call_entry slot_dict_getitem hT entry_dict_getitem ?_ (args_dict_getitem _ _)))
  show wpAny _ _ (dictGet d key >>= _) _ _ s
  refine wpAny_bind (mx_get (A := A.in1) (by rw [Around.in1_units]; omega) hk h8 ho x (fun t i hi he => ?_) fun t hn => absurd (List.mem_iff_getElem?.mpr ⟨j, hj⟩) hn)
  obtain rfl := ks_one x.nd hj he
  rw [Array.getElem?_eq_getElem hi] at hv
  have e : es[j].val = v := by simpa using hv
  rw [e]
  exact wpAny_pure ⟨v, rfl, wpAny_pure (h t)⟩
theorem mx_setItem {v : Value} {Q : Unit → Shared → Prop} (hu : A.units + 9 < cLine) (hk : NestedIs s.heap k key) (h8 : k.depth ≤ 8) (ho : s.heap.get? d = some (dObj es ep)) (x : Ents w s.heap es.toList ks) (hz : es.size ≤ sizeLine)
    (h : ∀ (h' : Heap) (t ep' : Nat) (j : Option Nat), h'.get? d = some (dObj (putEs es (k.hash w) key v j) ep') → Heap.SameBut d s.heap h' → ((j = none ∧ k ∉ ks) ∨ ∃ i, j = some i ∧ ks[i]? = some k) → Q () { s with heap := h', toks := t }) : wpAny (model P w) A (setItem (.ref d) key v) Q E s := by
  have hT : s.TypeIs (.ref d) "dict" := ⟨_, ho, rfl⟩
  unfold setItem
  refine wpAny_holding (wpAny_bind (wpAny_sequenceKey hT (by decide) ?_))
  refine wpAny_bind (wpAny_callSpecial?_slot (name := Str.ofString "__setitem__") hT slot_dict_setitem (wpAny_call_entry slot_dict_setitem hT entry_dict_setitem ?_ (args_dict_setitem _ _ _)))
  show wpAny _ _ (Builtin.Dict.notOrdered "__setitem__" ⟨[.ref d, key, v], []⟩ >>= _) _ _ s
  refine wpAny_bind (wpAny_notOrdered_dict hT ?_)
  show wpAny _ _ (dictSet d key v >>= _) _ _ s
  exact wpAny_bind (mx_set (A := A.in1) (by rw [Around.in1_units]; omega) hk h8 ho x hz fun h' t ep' j h1 h2 h3 => wpAny_pure ⟨.none, rfl, wpAny_pure (h h' t ep' j h1 h2 h3)⟩)
end
end Pf

set_option Elab.async false
set_option maxRecDepth 100000
set_option linter.all false
set_option maxHeartbeats 4000000
set_option pp.maxSteps 200
/-! The entries of such a dict, told by values of the layer. -/
namespace Pf
open PySem PySem.Spec L2
/-- a key, its value, the key up to == -/
abbrev MK := V × V × NestedKey
def putM (l : List MK) (x : MK) : List MK := if x.2.2 ∈ l.map (·.2.2) then l.map fun z => if z.2.2 = x.2.2 then (z.1, x.2.1, z.2.2) else z else l ++ [x]
structure EsR (w : World) (es : Array DictEntry) (l : List MK) : Prop where
  len : es.size = l.length
  at_ : ∀ (i : Nat) (e : DictEntry) (x : MK), es[i]? = some e → l[i]? = some x → RelV x.1 e.key ∧ RelV x.2.1 e.val ∧ e.hash = x.2.2.hash w ∧ x.2.2.depth ≤ 8
  nd : (l.map (·.2.2)).Nodup
def NKeys (h : Heap) (l : List MK) : Prop := ∀ x ∈ l, ∀ u, RelV x.1 u → NestedIs h x.2.2 u
theorem keys_putM (l : List MK) (x : MK) : (putM l x).map (·.2.2) = if x.2.2 ∈ l.map (·.2.2) then l.map (·.2.2) else l.map (·.2.2) ++ [x.2.2] := by
  unfold putM
  split
  · rw [List.map_map]
    refine List.map_congr_left fun z _ => ?_
    show (if z.2.2 = x.2.2 then _ else _ : MK).2.2 = _
    split <;> rfl
  · rw [List.map_append]; rfl
theorem mem_putM {l : List MK} {x z : MK} (h : z ∈ putM l x) : z = x ∨ ∃ y ∈ l, z.1 = y.1 ∧ z.2.2 = y.2.2 := by
  unfold putM at h
  split at h
  · obtain ⟨y, hy, rfl⟩ := List.mem_map.mp h
    refine .inr ⟨y, hy, ?_⟩
    split <;> exact ⟨rfl, rfl⟩
  · rcases List.mem_append.mp h with h | h
    · exact .inr ⟨z, h, rfl, rfl⟩
    · exact .inl (List.mem_singleton.mp h)
theorem len_putM (l : List MK) (x : MK) : (putM l x).length ≤ l.length + 1 := by
  unfold putM
  split
  · rw [List.length_map]; omega
  · rw [List.length_append]; exact Nat.le_refl _
theorem putM_new {l : List MK} {x : MK} (h : x.2.2 ∉ l.map (·.2.2)) : putM l x = l ++ [x] := by unfold putM; rw [if_neg h]
section
variable {w : World} {es : Array DictEntry} {l : List MK} {h h' : Heap}
theorem NKeys.put {x : MK} (n : NKeys h l) (hx : ∀ u, RelV x.1 u → NestedIs h x.2.2 u) : NKeys h (putM l x) := fun z hz u r => by
  rcases mem_putM hz with rfl | ⟨y, hy, e1, e2⟩
  · exact hx u r
  · rw [e2]; exact n y hy u (by rw [← e1]; exact r)
theorem NKeys.on (n : NKeys h l) (e : ∀ a o vs m, h.get? a = some o → o.data = .seq vs m → h'.get? a = some o) : NKeys h' l := fun x hx u r => NestedIs.at e _ _ (n x hx u r)
theorem EsR.ents (r : EsR w es l) (n : NKeys h l) : Ents w h es.toList (l.map (·.2.2)) where
  len := by rw [List.length_map, Array.length_toList]; exact r.len
  at_ := fun i e k he hk => by
    rw [List.getElem?_map] at hk
    cases hx : l[i]? with
    | none => rw [hx] at hk; cases hk
    | some x =>
      rw [hx] at hk
      obtain rfl : x.2.2 = k := by simpa using hk
      obtain ⟨h1, h2, h3, h4⟩ := r.at_ i e x (by rw [← Array.getElem?_toList]; exact he) hx
      exact ⟨n x (List.mem_of_getElem? hx) _ h1, h3, h4⟩
  nd := r.nd
theorem EsR.put (r : EsR w es l) {y v : V} {k : NestedKey} {key u : Value} (hy : RelV y key) (hv : RelV v u) (h8 : k.depth ≤ 8) {j : Option Nat} (hj : (j = none ∧ k ∉ l.map (·.2.2)) ∨ ∃ i, j = some i ∧ (l.map (·.2.2))[i]? = some k) : EsR w (putEs es (k.hash w) key u j) (putM l (y, v, k)) := by
  rcases hj with ⟨rfl, hn⟩ | ⟨i, rfl, hi⟩
  · rw [putM_new hn]
    refine ⟨?_, fun i e x he hx => ?_, ?_⟩
    · show (es.push _).size = _
      rw [Array.size_push, List.length_append, r.len]; rfl
    · have he : (es.push ⟨k.hash w, key, u⟩)[i]? = some e := he
      by_cases hi : i < es.size
      · rw [Array.getElem?_push, if_neg (Nat.ne_of_lt hi)] at he
        rw [List.getElem?_append_left (by rw [← r.len]; exact hi)] at hx
        exact r.at_ i e x he hx
      · have hl : i = l.length := by
          have := (List.getElem?_eq_some_iff.mp hx).1
          rw [List.length_append] at this
          have : i < l.length + 1 := this
          have := r.len
          omega
        subst hl
        rw [← r.len, Array.getElem?_push, if_pos rfl] at he
        rw [List.getElem?_append_right (Nat.le_refl _), Nat.sub_self] at hx
        cases he
        cases hx
        exact ⟨hy, hv, rfl, h8⟩
    · rw [List.map_append, List.nodup_append]
      refine ⟨r.nd, by simp, fun a ha b hb e => ?_⟩
      have : b = k := by simpa using hb
      exact hn (by rw [← this, ← e]; exact ha)
  · have hm : k ∈ l.map (·.2.2) := List.mem_of_getElem? hi
    have hput : putM l (y, v, k) = l.map fun z => if z.2.2 = k then (z.1, v, z.2.2) else z := by unfold putM; rw [if_pos hm]
    refine ⟨?_, fun i' e x he hx => ?_, ?_⟩
    · show (es.modify i _).size = _
      rw [Array.size_modify, hput, List.length_map]; exact r.len
    · have he : (es.modify i fun e => { e with val := u })[i']? = some e := he
      rw [hput, List.getElem?_map] at hx
      cases hz : l[i']? with
      | none => rw [hz] at hx; cases hx
      | some z =>
        rw [hz] at hx
        have hx : (if z.2.2 = k then (z.1, v, z.2.2) else z) = x := by simpa using hx
        rw [Array.getElem?_modify] at he
        by_cases hii : i = i'
        · subst hii
          rw [if_pos rfl] at he
          have hk : z.2.2 = k := by
            rw [List.getElem?_map, hz] at hi
            simpa using hi
          rw [if_pos hk] at hx
          cases he0 : es[i]? with
          | none => rw [he0] at he; cases he
          | some e0 =>
            rw [he0] at he
            have he : ({ e0 with val := u } : DictEntry) = e := by simpa using he
            obtain ⟨h1, h2, h3, h4⟩ := r.at_ i e0 z he0 hz
            subst he hx
            exact ⟨h1, hv, h3, h4⟩
        · rw [if_neg hii] at he
          have hk : z.2.2 ≠ k := fun e' => hii (ks_one r.nd hi (by rw [List.getElem?_map, hz]; simp [e']))
          rw [if_neg hk] at hx
          subst hx
          exact r.at_ i' e z he hz
    · rw [keys_putM, if_pos hm]
      exact r.nd
end
theorem esR_nil (w : World) : EsR w #[] [] := ⟨rfl, fun i e x he => by simp at he, List.nodup_nil⟩
/-! ### what is known of it -/
def DxO (d : Addr) (es : Array DictEntry) (ep : Nat) : HO := .ext fun h => h.get? d = some (dObj es ep)
def flatKey : V → Option NestedKey
  | .non => some .none
  | .bl b => some (.num (if b = true then 1 else 0))
  | .int i => some (.num i)
  | .str x => some (.text x)
  | _ => none
/-- the value is a key -/
def KeyAt (K : PySem.W.Frag) (H : Hp) (v : V) (k : NestedKey) : Prop := flatKey v = some k ∨ ∃ a xs ks, v = .ref a ∧ SqT K H a xs ∧ Paired (fun x k => flatKey x = some k) xs ks ∧ k = .tup ks
/-- at d stands a dict with these keys and values -/
def Dm (w : World) (K : PySem.W.Frag) (H : Hp) (d : Addr) (l : List MK) : Prop := ∃ es ep, H d = some (DxO d es ep) ∧ (d == sysModules) = false ∧ EsR w es l ∧ (∀ x ∈ l, KeyAt K H x.1 x.2.2) ∧ l.length ≤ 100000
section
variable {K : PySem.W.Frag} {H H' : Hp} {w : World} {v : V} {k : NestedKey} {d : Addr} {l : List MK}
theorem flat_is {h : Heap} {u : Value} (e : flatKey v = some k) (r : RelV v u) : NestedIs h k u ∧ k.depth = 0 := by
  cases v with
  | non => cases e; cases (show u = Value.none from r); exact ⟨.none, by rw [NestedKey.depth]⟩
  | bl b => cases e; cases (show u = Value.bool b from r); exact ⟨.bool rfl, by rw [NestedKey.depth]⟩
  | int i => cases e; obtain ⟨t, rfl⟩ := r; exact ⟨.int i t, by rw [NestedKey.depth]⟩
  | str x => cases e; obtain ⟨t, rfl⟩ := r; exact ⟨.text x t, by rw [NestedKey.depth]⟩
  | _ => cases e
theorem flats_is {h : Heap} : ∀ {xs : List V} {ks : List NestedKey} {us : List Value}, Paired (fun x k => flatKey x = some k) xs ks → Vals xs us → NestedAll h ks us ∧ NestedKey.depthAll ks = 0
  | _, _, _, .nil, .nil => ⟨.nil, by rw [NestedKey.depthAll]⟩
  | _, _, _, .cons e t, .cons r rr => by
    obtain ⟨h1, h2⟩ := flat_is (h := h) e r
    obtain ⟨h3, h4⟩ := flats_is (h := h) t rr
    exact ⟨.cons h1 h3, by rw [NestedKey.depthAll, h2, h4]; rfl⟩
theorem KeyAt.is {X : Cx} {pins : List (Addr × Obj)} {σ : L2.St} {s : Shared} {u : Value} (I : L2.Inv X pins σ H s) (h : KeyAt X.K H v k) (r : RelV v u) : NestedIs s.heap k u ∧ k.depth ≤ 8 := by
  rcases h with h | ⟨a, xs, ks, rfl, ha, hp, rfl⟩
  · obtain ⟨h1, h2⟩ := flat_is (h := s.heap) h r
    exact ⟨h1, by omega⟩
  · cases (show u = Value.ref a from r)
    obtain ⟨its, rr, ⟨o, e1, e2, n, e3⟩, _⟩ := I.tuple ha
    obtain ⟨h1, h2⟩ := flats_is (h := s.heap) hp rr
    exact ⟨.tup e1 e2 e3 (by simpa using h1), by rw [NestedKey.depth, h2]; decide⟩
theorem KeyAt.same (h : KeyAt K H v k) (e : Same H H') : KeyAt K H' v k := by
  rcases h with h | ⟨a, xs, ks, h1, h2, h3, h4⟩
  · exact .inl h
  · refine .inr ⟨a, xs, ks, h1, ?_, h3, h4⟩
    rcases h2 with (h | ⟨o, h⟩) | h
    · exact .inl (.inl (e _ _ h))
    · exact .inl (.inr ⟨o, e _ _ h⟩)
    · exact .inr h
theorem KeyAt.chg {o o' : HO} (h : KeyAt K H v k) (hd : H d = some o) (h1 : ∀ xs, o ≠ .tup xs) (h2 : ∀ ob u, o ≠ .frz ob u) : KeyAt K (upd H d o') v k := by
  rcases h with h | ⟨a, xs, ks, q1, q2, q3, q4⟩
  · exact .inl h
  · refine .inr ⟨a, xs, ks, q1, ?_, q3, q4⟩
    rcases q2 with (h | ⟨ob, h⟩) | h
    · exact .inl (.inl (by rw [upd_ne (ne_of h hd fun z => h1 _ z.symm)]; exact h))
    · exact .inl (.inr ⟨ob, by rw [upd_ne (ne_of h hd fun z => h2 _ _ z.symm)]; exact h⟩)
    · exact .inr h
theorem dxO_tup {es : Array DictEntry} {ep : Nat} (xs : List V) : DxO d es ep ≠ .tup xs := fun z => by unfold DxO at z; cases z
theorem dxO_frz {es : Array DictEntry} {ep : Nat} (o : Obj) (u : HO) : DxO d es ep ≠ .frz o u := fun z => by unfold DxO at z; cases z
theorem Dm.same (h : Dm w K H d l) (e : Same H H') : Dm w K H' d l := by
  obtain ⟨es, ep, h1, h2, h3, h4, h5⟩ := h
  exact ⟨es, ep, e _ _ h1, h2, h3, fun x hx => (h4 x hx).same e, h5⟩
variable {X : Cx} {pins : List (Addr × Obj)} {σ : L2.St} {s : Shared}
theorem dxO_at {es : Array DictEntry} {ep : Nat} (I : L2.Inv X pins σ H s) (h : H d = some (DxO d es ep)) : s.heap.get? d = some (dObj es ep) := by
  obtain ⟨z, _, _⟩ := I.hok d _ h
  exact z
theorem dxO_ok {P : Program} {h : Heap} {es : Array DictEntry} {ep : Nat} (e : h.get? d = some (dObj es ep)) : ObjOk P w H h d (DxO d es ep) := ⟨e, ⟨_, e⟩, fun _ _ q st => st _ q⟩
theorem keys_now (I : L2.Inv X pins σ H s) (h : ∀ x ∈ l, KeyAt X.K H x.1 x.2.2) : NKeys s.heap l := fun x hx u r => ((h x hx).is I r).1
/-- d[y] = v, by the store itself -/
theorem dm_set {A : Around} {E : Value → Shared → Prop} {y v : V} {u r : Value} {Q : Unit → Shared → Prop} (hu : A.units + 8 < cLine) (I : L2.Inv X pins σ H s) (D : Dm X.w X.K H d l) (hl : l.length < 100000) (hy : KeyAt X.K H y k) (ry : RelV y u) (rv : RelV v r)
    (h : ∀ s' es ep, L2.Inv X pins σ (upd H d (DxO d es ep)) s' → Dm X.w X.K (upd H d (DxO d es ep)) d (putM l (y, v, k)) → Q () s') : wpAny (model X.prog X.w) A (dictSet d u r) Q E s := by
  obtain ⟨es, ep, h1, h2, h3, h4, h5⟩ := D
  have ho := dxO_at I h1
  obtain ⟨k1, k2⟩ := hy.is I ry
  refine mx_set hu k1 k2 ho (h3.ents (keys_now I h4)) (by rw [h3.len]; exact sz_le h5) fun h' t ep' j g1 g2 g3 => ?_
  refine h _ (putEs es (k.hash X.w) u r j) ep' ?_ ?_
  · exact d_write I (by rw [h1]; exact True.intro) g2 ⟨_, g1⟩ (dxO_ok g1)
  · refine ⟨_, _, upd_same, h2, h3.put ry rv k2 g3, fun x hx => ?_, ?_⟩
    · rcases mem_putM hx with rfl | ⟨z, hz, e1, e2⟩
      · exact hy.chg h1 dxO_tup dxO_frz
      · rw [e1, e2]; exact (h4 z hz).chg h1 dxO_tup dxO_frz
    · have := len_putM l (y, v, k); omega
/-- d[y] -/
theorem dm_get {A : Around} {E : Value → Shared → Prop} {y : V} {u : Value} {Q : Value → Shared → Prop} {j : Nat} {x : MK} (hu : A.units + 9 < cLine) (I : L2.Inv X pins σ H s) (D : Dm X.w X.K H d l) (hy : KeyAt X.K H y k) (ry : RelV y u) (hj : l[j]? = some x) (hk : x.2.2 = k)
    (h : ∀ s' r, L2.Inv X pins σ H s' → RelV x.2.1 r → Q r s') : wpAny (model X.prog X.w) A (getItem (.ref d) u) Q E s := by
  obtain ⟨es, ep, h1, h2, h3, h4, h5⟩ := D
  have ho := dxO_at I h1
  obtain ⟨k1, k2⟩ := hy.is I ry
  have hi : j < es.size := by rw [h3.len]; exact (List.getElem?_eq_some_iff.mp hj).1
  obtain ⟨_, r2, _, _⟩ := h3.at_ j _ x (Array.getElem?_eq_getElem hi) hj
  exact mx_getItem (v := es[j].val) hu k1 k2 ho (h3.ents (keys_now I h4)) (by rw [List.getElem?_map, hj]; simp [hk]) (by rw [Array.getElem?_eq_getElem hi]; rfl) fun t => h _ _ (I.tok t) r2
end
end Pf

set_option Elab.async false
set_option maxRecDepth 100000
set_option linter.all false
set_option maxHeartbeats 4000000
set_option pp.maxSteps 200
/-! Rules over such dicts: d[k], the walk over the keys, isinstance, dict(pairs). -/
namespace Pf
open PySem PySem.Spec L2 PyProof.Rows
/-- two readings of one expression -/
theorem pe_or2 {X : Cx} {e : Expr} {t u : TE} (h1 : PE X e t) (h2 : PE X e u) : PE X e (fun σ H Q => t σ H Q ∨ u σ H Q) := ⟨fun pins s σ H Q I h => h.elim (h1.run pins s σ H Q I) (h2.run pins s σ H Q I)⟩
theorem cr_or {X : Cx} {f : Value} {r1 r2 : List V → Hp → VK → Prop} (h1 : CallR X f r1) (h2 : CallR X f r2) : CallR X f (fun xs H Q => r1 xs H Q ∨ r2 xs H Q) := fun pins s σ H xs us Q I r h => h.elim (h1 pins s σ H xs us Q I r) (h2 pins s σ H xs us Q I r)
/-- d[y] -/
def tDGetM (w : World) (K : PySem.W.Frag) (td ty : TE) : TE := fun σ H Q => td σ H fun x H1 => ty σ H1 fun y H2 => ∃ (a : Addr) (l : List MK) (j : Nat) (z : MK) (k : NestedKey), x = .ref a ∧ Dm w K H2 a l ∧ KeyAt K H2 y k ∧ l[j]? = some z ∧ z.2.2 = k ∧ Q z.2.1 H2
theorem pe_dgetM {X : Cx} {o i : Expr} {pos : Pos} {td ty : TE} (hu : X.A.units + 9 < cLine) (ho : PE X o td) (hi : PE X i ty) (hs : NoSl i) : PE X (.Subscript o i pos) (tDGetM X.w X.K td ty) := by
  refine ⟨fun pins s σ H Q I h => subD_of PySem.F.slot_dict_getitem.lookup hs (thn (ho.run pins s σ H _ I h) fun u s1 h1 => ?_)⟩
  obtain ⟨x, H1, I1, rx, q1⟩ := h1
  refine thn (hi.run pins s1 σ H1 _ I1 q1) fun iv s2 h2 => ?_
  obtain ⟨y, H2, I2, ry, a, l, j, z, k, rfl, D, hk, hj, hz, q⟩ := h2
  cases (show u = Value.ref a from rx)
  obtain ⟨es, ep, g1, _⟩ := id D
  exact ⟨⟨_, dxO_at I2 g1, rfl⟩, dm_get hu I2 D hk ry hj hz fun s3 r I3 r3 => ⟨z.2.1, H2, I3, r3, q⟩⟩
/-- the keys of the dict at d -/
def ItX (d : Addr) (es : Array DictEntry) (ep : Nat) (l : List MK) : It :=
  ⟨fun i H => H d = some (DxO d es ep) ∧ i < l.length, fun i H x H' => H' = H ∧ ∃ z, l[i]? = some z ∧ x = z.1, fun i H => H d = some (DxO d es ep) ∧ l.length ≤ i⟩
theorem turn_keyX {P : Program} {w : World} {K : PySem.W.Frag} {tg : Expr} {d : Addr} {es : Array DictEntry} {ep : Nat} {l : List MK} (it : Addr) (r : EsR w es l) : Turn P w K tg (ItX d es ep l) [it] it (fun i h => h.IsKeyIter it d i l.length ep) := by
  constructor
  case mem => exact List.mem_cons_self
  case obj =>
    intro i h st b hb
    rw [List.mem_singleton.mp hb]
    obtain ⟨oi, e, c, dd⟩ := st
    exact ⟨oi, e, fun v z => by rw [dd] at z; cases z⟩
  case keep => exact fun i h h' st k => st.at fun oi e => k it List.mem_cons_self oi e
  case item =>
    rintro X rfl rfl rfl hc i pins s σ H E I hf st ⟨hd, hi⟩
    obtain ⟨f0, f1, f2, f3, f4, f5⟩ := hf it List.mem_cons_self
    have hie : i < es.size := by rw [r.len]; exact hi
    obtain ⟨r1, _⟩ := r.at_ i _ _ (Array.getElem?_eq_getElem hie) (List.getElem?_eq_getElem hi)
    refine next_key_item st (dxO_at I hd) rfl r.len (Array.getElem?_eq_getElem hie) fun h' st' sb => ?_
    obtain ⟨oi, e, c, dd⟩ := id st'
    exact ⟨_, rfl, go_of (s := { s with heap := h' }) e c dd (by decide) ⟨l[i].1, H, I.turned (t' := s.toks) (fun b ob hb e => (sb.2 b hb).trans e) f0 f1 f3 f4 f5, r1, ⟨rfl, l[i], List.getElem?_eq_getElem hi, rfl⟩, st', fun b hb => (hf b hb).1⟩⟩
  case done =>
    rintro X rfl rfl rfl hc i pins s σ H E I hf st ⟨hd, hi⟩
    obtain ⟨f0, f1, f2, f3, f4, f5⟩ := hf it List.mem_cons_self
    exact next_key_end (I.ok.hd hc) st (dxO_at I hd) rfl r.len hi fun h' eb => ⟨rfl, I.turned (t' := s.toks) (fun b ob hb e => eb b ob hb e) f0 f1 f3 f4 f5⟩
  case self => exact fun A i s Q E st h => wpAny_pyIter_keyiter st h
def iKeyX (w : World) (td : TE) : TI := fun σ H R => td σ H fun x H1 => ∃ d es ep l, x = .ref d ∧ H1 d = some (DxO d es ep) ∧ (d == sysModules) = false ∧ EsR w es l ∧ R (ItX d es ep l) H1
theorem pi_keyX {X : Cx} {tg e : Expr} {td : TE} (he : PE X e td) : PI X tg e (iKeyX X.w td) := by
  refine ⟨fun pins s σ H R I h => thn (he.run pins s σ H _ I h) fun u s1 h1 => ?_⟩
  obtain ⟨x, H1, I1, rx, d, es, ep, l, rfl, hd, hs, r, q⟩ := h1
  cases (show u = Value.ref d from rx)
  refine iter_keys hs (dxO_at I1 hd) (dObj_exact es ep) rfl (pi_one (tk := s1.toks) I1 _ (turn_keyX _ r) ⟨_, Heap.get?_push_size _ rfl, rfl, ?_⟩ q)
  rw [r.len] <;> rfl
theorem walk_keyX {d : Addr} {es : Array DictEntry} {ep : Nat} {l : List MK} : Walk (ItX d es ep l) l.length (fun H => H d = some (DxO d es ep)) (YAt (l.map Prod.fst)) :=
  ⟨fun _ _ hi q => ⟨q, hi⟩, fun _ q => ⟨q, Nat.le_refl _⟩, fun i H x H' hi _ y => ⟨y.1, by
    obtain ⟨z, h1, h2⟩ := y.2
    rw [List.getElem?_map, h1, h2]; rfl⟩⟩
/-- isinstance of such a dict -/
theorem call_isM {X : Cx} : CallR X (.builtin "isinstance") (fun xs H Q => ∃ (d : Addr) (es : Array DictEntry) (ep : Nat) (c : V) (u : Value) (b : Bool), xs = [.ref d, c] ∧ ClsV c u ∧ H d = some (DxO d es ep) ∧ PySem.W.kitOne X.K (.type "dict") u = some b ∧ Q (.bl b) H) := by
  intro pins s σ H xs us Q I r h
  obtain ⟨d, es, ep, c, u, b, rfl, k, hd, e, q⟩ := h
  obtain ⟨u1, u2, rfl, r1, r2⟩ := vals2 r
  have e2 := k.eq r2
  subst e2
  cases (show u1 = Value.ref d from r1)
  exact PySem.W.kia_one PySem.W.kitx_dict I.kIn ⟨_, dxO_at I hd, rfl⟩ e (fun z => nomatch z) fun tk => ⟨.bl b, H, I.tok tk, rfl, q⟩
/-! ### dict(pairs) -/
def mergeM (l xs : List MK) : List MK := xs.foldl putM l
theorem mergeM_snoc (l xs : List MK) (x : MK) : mergeM l (xs ++ [x]) = putM (mergeM l xs) x := by unfold mergeM; rw [List.foldl_append]; rfl
theorem mem_mergeM {xs : List MK} : ∀ {l : List MK} {z : MK}, z ∈ mergeM l xs → ∃ y ∈ l ++ xs, z.1 = y.1 ∧ z.2.2 = y.2.2 := by
  induction xs with
  | nil => intro l z hz; exact ⟨z, by simpa [mergeM] using hz, rfl, rfl⟩
  | cons x xs ih =>
    intro l z hz
    obtain ⟨y, hy, e1, e2⟩ := ih (l := putM l x) hz
    rcases List.mem_append.mp hy with h | h
    · rcases mem_putM h with rfl | ⟨y', hy', e3, e4⟩
      · exact ⟨y, by simp, e1, e2⟩
      · exact ⟨y', List.mem_append_left _ hy', e1.trans e3, e2.trans e4⟩
    · exact ⟨y, List.mem_append_right _ (List.mem_cons_of_mem _ h), e1, e2⟩
theorem len_mergeM (xs : List MK) : ∀ l : List MK, (mergeM l xs).length ≤ l.length + xs.length := by
  induction xs with
  | nil => intro l; exact Nat.le_refl _
  | cons x xs ih =>
    intro l
    have h1 := ih (putM l x)
    have h2 := len_putM l x
    show (mergeM (putM l x) xs).length ≤ _
    rw [List.length_cons]
    omega
theorem mergeM_fresh : ∀ {xs l : List MK}, ((l ++ xs).map (·.2.2)).Nodup → mergeM l xs = l ++ xs
  | [], l, _ => by simp [mergeM]
  | x :: xs, l, h => by
    have hn : x.2.2 ∉ l.map (·.2.2) := fun hm => by
      rw [List.map_append, List.nodup_append] at h
      exact h.2.2 _ hm _ (by simp) rfl
    show mergeM (putM l x) xs = _
    rw [putM_new hn, mergeM_fresh (by simpa using h)]
    simp
theorem take_at' {α : Type} {xs : List α} {i : Nat} (hi : i < xs.length) : xs.take (i + 1) = xs.take i ++ [xs[i]] := by rw [List.take_succ, List.getElem?_eq_getElem hi]; rfl
theorem pairs_are {X : Cx} {pins : List (Addr × Obj)} {σ : L2.St} {H : Hp} {s : Shared} (I : L2.Inv X pins σ H s) : ∀ {ps : List Addr} {xs : List MK}, Paired (fun p x => SqT X.K H p [x.1, x.2.1]) ps xs → ∃ prs : List (Value × Value), prs.length = xs.length ∧ ps.length = xs.length ∧
      ∀ (i : Nat) (x : MK), xs[i]? = some x → ∃ p u r, ps[i]? = some p ∧ prs[i]? = some (u, r) ∧ RelV x.1 u ∧ RelV x.2.1 r ∧ s.heap.IsTuple p #[u, r]
  | _, _, .nil => ⟨[], rfl, rfl, fun i x h => by simp at h⟩
  | _, _, @Paired.cons _ _ _ p x ps xs h t => by
    obtain ⟨prs, h1, h2, h3⟩ := pairs_are I t
    obtain ⟨its, rr, tp, _⟩ := I.tuple h
    cases rr with
    | @cons _ u1 _ _ r1 rr =>
    cases rr with
    | @cons _ u2 _ _ r2 rr =>
    cases rr
    refine ⟨(u1, u2) :: prs, by simp [h1], by simp [h2], fun i y hy => ?_⟩
    cases i with
    | zero =>
      have e : x = y := by simpa using hy
      subst e
      exact ⟨p, _, _, rfl, rfl, r1, r2, tp⟩
    | succ i =>
      obtain ⟨q, u, r, g1, g2, g3⟩ := h3 i y (by simpa using hy)
      exact ⟨q, u, r, by simpa using g1, by simpa using g2, g3⟩
/-- dict(xs) of a list of pairs whose keys are of several kinds -/
theorem call_dictM {X : Cx} (hcalm : X.calm = true) (hu : X.A.units + 12 < cLine) : CallR X (.type "dict") (fun xs H Q => ∃ (a : Addr) (ps : List Addr) (l : List MK), xs = [.ref a] ∧ SqL X.K H a (ps.map V.ref) ∧ Paired (fun p x => SqT X.K H p [x.1, x.2.1]) ps l ∧ (∀ x ∈ l, KeyAt X.K H x.1 x.2.2) ∧ l.length ≤ 1000 ∧
    ∀ p es ep, H p = none → Dm X.w X.K (upd H p (DxO p es ep)) p (mergeM [] l) → Q (.ref p) (upd H p (DxO p es ep))) := by
  intro pins s σ H xs us Q I r q
  obtain ⟨a, ps, l, rfl, hq, hp, hk, hl, q⟩ := q
  obtain ⟨u, rfl, rx⟩ := vals1 r
  cases (show u = Value.ref a from rx)
  obtain ⟨its, rv, ⟨o, n, ho, hc, hd, hdat⟩, hz⟩ := I.list hq
  obtain ⟨prs, l1, l2, hpr⟩ := pairs_are I hp
  have hits : ∀ (i : Nat) (p : Addr), ps[i]? = some p → its[i]? = some (.ref p) := fun i p hi => by
    obtain ⟨u, e1, e2⟩ := rv.get (show (ps.map V.ref)[i]? = some (.ref p) by rw [List.getElem?_map, hi]; rfl)
    rw [e1]; exact congrArg some e2
  have hil : its.length = ps.length := by have := rv.length; rw [List.length_map] at this; exact this.symm
  have nk := keys_now I hk
  have hP := PairArg.list (prog := X.prog) (w := X.w) a its.toArray (fun j => (ps[j]?).getD 0) prs
  have okI : PairItems s.heap its.toArray (fun j => (ps[j]?).getD 0) prs := by
    refine ⟨by simp; omega, fun j k v hj => ?_⟩
    have hlt : j < l.length := by rw [← l1]; exact (List.getElem?_eq_some_iff.mp hj).1
    obtain ⟨p, u, r, g1, g2, g3, g4, g5⟩ := hpr j _ (List.getElem?_eq_getElem hlt)
    rw [hj] at g2
    cases g2
    refine ⟨?_, .inl ?_⟩
    · show its.toArray[j]? = some (Value.ref ((ps[j]?).getD 0))
      rw [g1]; simp [hits j p g1]
    · show s.heap.IsTuple ((ps[j]?).getD 0) _
      rw [g1]; exact g5
  refine call_dict_arg hP ⟨⟨o, n, ho, hc, hd, hdat⟩, okI⟩ fun s₁ hs₁ hdf ok₁ => ?_
  subst hs₁
  have dn : ∀ {h : Heap}, (∀ b o, b ≠ s.heap.objs.size → b ∉ ([] : List Addr) → (s.heap.push { cls := .type "dict", data := .dict #[] }).get? b = some o → h.get? b = some o) → NKeys h l := fun {h} e => nk.on fun b ob vs m hb _ => e b ob (Nat.ne_of_lt (Heap.lt_size hb)) (by simp) (Heap.get?_push_of_some _ hb)
  refine updateFrom_arg (A := X.A.in1) (Tab := fun i h => (∃ es ep, h.get? s.heap.objs.size = some (dObj es ep) ∧ EsR X.w es (mergeM [] (l.take i))) ∧ ∀ b o, b ≠ s.heap.objs.size → b ∉ ([] : List Addr) → (s.heap.push { cls := .type "dict", data := .dict #[] }).get? b = some o → h.get? b = some o) hP .none (I.ok.hd hcalm) ok₁ hdf ⟨⟨#[], 0, Heap.get?_push_size _ rfl, esR_nil _⟩, fun _ _ _ _ e => e⟩ ?_ ?_ ?_ ?_
  · rintro i h ⟨⟨es, ep, e, _⟩, _⟩
    exact Heap.lt_size e
  · rintro i h h' wr' hd' hw ⟨⟨es, ep, e1, e2⟩, e3⟩ hk'
    refine ⟨⟨es, ep, hk' _ _ hd' e1, e2⟩, fun b ob hb hn e => hk' b ob (fun hm => ?_) (e3 b ob hb hn e)⟩
    rcases hw b hm with z | z
    · exact hn z
    · rw [z] at e; cases e
  · rintro i key v s' Q' E' hi hrel ⟨⟨es, ep, e1, e2⟩, e3⟩ _ hQ
    have hlt : i < l.length := by rw [← l1]; exact hi
    obtain ⟨p, u, rr, g1, g2, g3, g4, g5⟩ := hpr i _ (List.getElem?_eq_getElem hlt)
    have hrel : prs[i]? = some (key, v) := hrel
    rw [hrel] at g2
    cases g2
    have nk' := dn e3
    have nkt : NKeys s'.heap (mergeM [] (l.take i)) := fun z hz u' r' => by
      obtain ⟨y, hy, e4, e5⟩ := mem_mergeM hz
      rw [e5]
      exact nk' y (List.mem_of_mem_take (by simpa using hy)) u' (by rw [← e4]; exact r')
    have h8 := ((hk _ (List.getElem_mem hlt)).is I g3).2
    refine mx_set (A := X.A.in1.in1) (by rw [Around.in1_units, Around.in1_units]; omega) (nk' _ (List.getElem_mem hlt) _ g3) h8 e1 (e2.ents nkt) (by rw [e2.len]; have := len_mergeM (l.take i) []; rw [List.length_take] at this; exact sz_le (by simp at this; omega)) fun h' t ep' j w1 w2 w3 => ?_
    refine hQ h' t ⟨⟨_, ep', w1, ?_⟩, fun b ob hb hn e => (w2.2 b hb).trans (e3 b ob hb hn e)⟩ w2
    rw [take_at' hlt, mergeM_snoc]
    exact e2.put g3 g4 h8 w3
  · rintro h' tk ⟨⟨es, ep, e1, e2⟩, e3⟩ hk'
    rw [l1, List.take_length] at e2
    have hm : (s.heap.objs.size == sysModules) = false := beq_eq_false_iff_ne.mpr (Nat.ne_of_gt I.big)
    refine ⟨rfl, .ref s.heap.objs.size, upd H s.heap.objs.size (DxO s.heap.objs.size es ep), I.laid (t' := tk) (fun b ob e => hk' b ob (Nat.ne_of_lt (Heap.lt_size e)) (by simp) (Heap.get?_push_of_some _ e)) (Nat.le_refl _) (dxO_ok e1), rfl, q _ es ep (I.hok.fresh (Nat.le_refl _)) ?_⟩
    have hn := I.hok.fresh (Nat.le_refl s.heap.objs.size)
    refine ⟨es, ep, upd_same, hm, e2, fun z hz => ?_, ?_⟩
    · obtain ⟨y, hy, e4, e5⟩ := mem_mergeM hz
      rw [e4, e5]
      exact (hk y (by simpa using hy)).same (same_new hn)
    · have := len_mergeM l []; simp at this; omega
end Pf

set_option Elab.async false
set_option maxRecDepth 100000
set_option linter.all false
set_option maxHeartbeats 4000000
set_option pp.maxSteps 200
/-! A dict comprehension whose keys are of several kinds. -/
namespace Pf
open PySem PySem.Spec L2 PyProof.Rows
section
variable {X : Cx}
def tDcX (w : World) (K : PySem.W.Frag) (wi : TI) (g : TG) (tt : TT) (tk tv : TE) (vs : List Nat) : TE := fun σ H Q => wi σ H fun J H1 => ∀ D, H1 D = none → Dm w K (upd H1 D (DxO D #[] 0)) D [] → ∃ W : Nat → Nat → Hp → Prop, (∃ m, W 0 m (upd H1 D (DxO D #[] 0))) ∧ ∀ i m H, W i m H →
  (J.stop i H ∧ Q (.ref D) H) ∨ (J.go i H ∧ ∃ Nx : Hp → Prop, (∀ H', Nx H' → ∃ m', m' < m ∧ W (i + 1) m' H') ∧ ∀ x H', J.yld i H x H' → g x (wipe σ vs) H' fun σ2 H2 => wipe σ2 vs = wipe σ vs ∧ tt σ2 H2 fun b H3 =>
    if b = true then tk σ2 H3 fun y H4 => tv σ2 H4 fun z H5 => ∃ l k, KeyAt K H5 y k ∧ Dm w K H5 D l ∧ l.length < 100000 ∧ ∀ es ep, Dm w K (upd H5 D (DxO D es ep)) D (putM l (y, z, k)) → Nx (upd H5 D (DxO D es ep)) else Nx H3)
theorem pe_dcX {kx vx tg iter : Expr} {ifs : List Expr} {scope : Scope} {own : List (Str × Nat)} {pos : Pos} {wi : TI} {g : TG} {tt : TT} {tk tv : TE} (hu : X.A.units + 8 < cLine) (hc : X.calm = true) (hN : X.N.Nodup) (hi : PI X tg iter wi) (ok : BlkOk X.N X.env.scope scope own)
    (hg : ∀ (s : Shared) (H : Hp) (C : Addr) (cl : List (Str × Addr)) (fp : List Addr), PG (X.blk s H scope (compEnvC scope cl C X.env) fp) tg g) (ht : ∀ (s : Shared) (H : Hp) (C : Addr) (cl : List (Str × Addr)) (fp : List Addr), PTs (X.blk s H scope (compEnvC scope cl C X.env) fp) ifs tt)
    (hk : ∀ (s : Shared) (H : Hp) (C : Addr) (cl : List (Str × Addr)) (fp : List Addr), PE (X.blk s H scope (compEnvC scope cl C X.env) fp) kx tk) (he : ∀ (s : Shared) (H : Hp) (C : Addr) (cl : List (Str × Addr)) (fp : List Addr), PE (X.blk s H scope (compEnvC scope cl C X.env) fp) vx tv)
    (hs : ∀ x, foldedSetIterable iter X.env x = pure x := by intro _; rfl) : PE X (.DictComp kx vx [⟨tg, iter, ifs, 0⟩] scope pos) (tDcX X.w X.K wi g tt tk tv (own.map (·.2))) := by
  refine ⟨fun pins s σ H Q I h => ?_⟩
  rw [arm_eval_DictComp]
  have hfr : ∀ y ∈ scope.names, y.2 = .free → ∃ c, X.env.cells.lookup y.1 = some c := fun y hy e => (ok.free y hy e).elim (fun z => I.ok.has _ (.inl z)) fun z => I.ok.has _ (.inr z)
  refine wpAny_comprehension_free rfl hs (closure_ok hfr) ok.kind (fun y hy e => by rw [ok.uniq y hy, e]) (thn (hi.run pins s σ H _ I h) fun xv sA hx => thn hx fun itv sB hB => ?_)
  obtain ⟨it, fp, tn, J, HB, rfl, IB, T, stB, fB, q⟩ := hB
  refine wpAny_newObj_type (newEnv_comp ?_)
  obtain ⟨D, hD⟩ : ∃ D, sB.heap.objs.size = D := ⟨_, rfl⟩
  rw [hD]
  have nD : HB D = none := IB.hok.fresh (Nat.le_of_eq hD)
  have hpush : (sB.heap.push { cls := .type "dict", data := .dict #[] }).get? D = some (dObj #[] 0) := by rw [← hD]; exact Heap.get?_push_size _ rfl
  have hmod : (D == sysModules) = false := by rw [← hD]; exact beq_eq_false_iff_ne.mpr (Nat.ne_of_gt IB.big)
  obtain ⟨W, ⟨m0, w0⟩, turn⟩ := q D nD ⟨#[], 0, upd_same, hmod, esR_nil _, fun x hx => absurd hx List.not_mem_nil, Nat.zero_le _⟩
  obtain ⟨sC, hsC⟩ : ∃ sC : Shared, sC = { sB with heap := sB.heap.push { cls := .type "dict", data := .dict #[] } } := ⟨_, rfl⟩
  obtain ⟨HC, hHC⟩ : ∃ HC, HC = upd HB D (DxO D #[] 0) := ⟨_, rfl⟩
  have hC : sC.heap = sB.heap.push { cls := .type "dict", data := .dict #[] } := by rw [hsC]
  have IC : L2.Inv X pins σ HC sC := by
    rw [hsC, hHC]
    exact IB.laid (t' := sB.toks) (fun b o e => Heap.get?_push_of_some _ e) (Nat.le_of_eq hD) (dxO_ok hpush)
  have lt2 : ∀ b ∈ fp, b < sB.heap.objs.size := fun b hb => let ⟨_, e, _⟩ := T.obj _ _ stB b hb; Heap.lt_size e
  have fC : ∀ b ∈ fp, FpOk X pins HC b ∧ b < sC.heap.objs.size := fun b hb => ⟨⟨by rw [hHC, upd_ne (by rw [← hD]; exact Nat.ne_of_lt (lt2 b hb))]; exact (fB b hb).1, (fB b hb).2⟩, by rw [hC, Heap.size_push]; exact Nat.lt_succ_of_lt (lt2 b hb)⟩
  have stC : tn 0 sC.heap := T.keep _ _ _ stB fun b _ o e => by rw [hC]; exact Heap.get?_push_of_some _ e
  have I0 := block_start IC ok hN fC
  rw [← hHC] at w0
  obtain ⟨cl, hcl⟩ : ∃ cl, cl = cellsFrom (sC.heap.objs.size + 1) scope.names (cloFrom X.env.cells scope.names []) := ⟨_, rfl⟩
  rw [← hcl] at I0
  have pg := hg sC HC sC.heap.objs.size cl fp
  have pt := ht sC HC sC.heap.objs.size cl fp
  have pk := hk sC HC sC.heap.objs.size cl fp
  have pe := he sC HC sC.heap.objs.size cl fp
  have nfp : ∀ b ∈ fp, HC b = none := fun b hb => (fC b hb).1.1
  obtain ⟨ce, hce⟩ : ∃ ce, ce = compEnvC scope cl sC.heap.objs.size X.env := ⟨_, rfl⟩
  rw [← hce] at I0 pg pt pk pe
  have cL : ce.locals = sC.heap.objs.size := by rw [hce]; rfl
  obtain ⟨sD, hsD⟩ : ∃ sD : Shared, sD = { sC with heap := pushCells (sC.heap.push { cls := .type "dict", data := .dict #[] }) scope.names } := ⟨_, rfl⟩
  rw [← hsD] at I0
  have st0 : tn 0 sD.heap := T.keep _ _ _ stC fun b _ o e => by rw [hsD]; exact pushCells_keeps _ _ _ _ (Heap.get?_push_of_some _ e)
  have stat : ∀ {σ' : L2.St} {H' : Hp} {s' : Shared}, L2.Inv (X.blk sC HC scope ce fp) [] σ' H' s' → (∀ b ∈ fp, H' b = none) → ∀ b ∈ fp, FpOk (X.blk sC HC scope ce fp) [] H' b := fun {σ' H' s'} J' hn b hb =>
    ⟨hn b hb, (J'.ok.exf b hb).1, J'.ok.exfs b hb, .inl hb, fun x c e => (J'.ok.exf b hb).2 x c e, fun p hp => absurd (show p ∈ ([] : List (Addr × Obj)) ++ [] from hp) (by simp)⟩
  have last : ∀ {H' : Hp} {s' : Shared}, L2.Inv (X.blk sC HC scope ce fp) [] (wipe σ (own.map (·.2))) H' s' → Q (.ref D) H' → compPost (model X.prog X.w) X.A X.xe none (EP X pins σ Q) (.ref D) sC.heap.objs.size (.ok .next) s' := fun {H' s'} J' qq => by
    have J7 : L2.Inv X pins σ H' s' := IC.call' (ch := fp) J'.os J'.base J'.hok J'.bare fun b hb => ⟨(fC b hb).1.2.2.2.1, (fC b hb).1.2.1, (fC b hb).1.2.2.2.2.1, (fC b hb).1.2.2.2.2.2⟩
    have nC : H' sC.heap.objs.size = none := by have z : H' ce.locals = none := J'.free; rwa [cL] at z
    obtain ⟨m, hn, _⟩ := J'.loc
    have hn : s'.heap.Ns ce.locals m := hn
    rw [cL] at hn
    obtain ⟨f0, f1, f2, f3, f4, f5⟩ := IC.fpOk (Nat.le_refl _) nC
    exact ⟨m, hn, fun h'' sb => ⟨.ref D, H', J7.turned (t' := s'.toks) (fun b o hb e => (sb.2 b hb).trans e) f0 f1 f3 f4 f5, rfl, qq⟩⟩
  have loop : codeAny (model X.prog X.w) X.A (.compLoop (.DictComp kx vx [⟨tg, iter, ifs, 0⟩] scope pos) 0 (.ref it) (.ref D) ce) (compPost (model X.prog X.w) X.A X.xe none (EP X pins σ Q) (.ref D) sC.heap.objs.size) sD := by
    refine compLoop_anyD (fun n s' => ∃ i H', L2.Inv (X.blk sC HC scope ce fp) [] (wipe σ (own.map (·.2))) H' s' ∧ tn i s'.heap ∧ (∀ b ∈ fp, H' b = none) ∧ W i n H') ?_ m0 ⟨0, HC, I0, st0, nfp, w0⟩
    rintro n s1 ⟨i, H1, I1, st1, n1, w1⟩
    rcases turn i n H1 w1 with ⟨stop, qq⟩ | ⟨go, Nx, hNx, step⟩
    · refine thnF (T.done (X.blk sC HC scope ce fp) rfl rfl rfl hc i [] s1 _ H1 (fun _ _ => False) I1 (stat I1 n1) st1 stop) fun r s2 ⟨hr, I2⟩ => ?_
      subst hr
      exact last I2 qq
    · refine thnF (T.item (X.blk sC HC scope ce fp) rfl rfl rfl hc i [] s1 _ H1 (fun _ _ => False) I1 (stat I1 n1) st1 go) fun r s2 ⟨u, hr, h2⟩ => ?_
      subst hr
      refine thnF h2 fun _ s3 ⟨x, H3, I3, r3, y3, st3, n3⟩ => ?_
      refine thnF (pg.run _ s3 _ H3 x u _ (I3.pinned (stat I3 n3) (T.obj _ _ st3)) r3 (step x H3 y3)) fun _ s4 ⟨σ4, H4, I4, hw4, q4⟩ => ?_
      refine thnF (pt.run _ s4 σ4 H4 _ I4 q4) fun b s5 ⟨H5, I5, q5⟩ => ?_
      have fin : ∀ {s' : Shared} {H' : Hp}, L2.Inv (X.blk sC HC scope ce fp) ([] ++ pinsAt fp s3.heap) σ4 H' s' → Nx H' → ∃ m, m < n ∧ ∃ i H', L2.Inv (X.blk sC HC scope ce fp) [] (wipe σ (own.map (·.2))) H' s' ∧ tn i s'.heap ∧ (∀ b ∈ fp, H' b = none) ∧ W i m H' := fun {s' H'} J' nx => by
        obtain ⟨m', hm, w'⟩ := hNx H' nx
        have pin' : ∀ b ∈ fp, ∀ o, s3.heap.get? b = some o → s'.heap.get? b = some o ∧ H' b = none := fun b hb o e => by
          obtain ⟨z1, z2, _⟩ := J'.pin (b, o) (List.mem_append_right _ (List.mem_append_right _ (mem_pinsAt hb e)))
          exact ⟨z1, z2⟩
        refine ⟨m', hm, i + 1, H', (J'.unpinned (pins := [])).weak (by rw [← hw4, wipe_length]) (fun j v e => ?_), T.keep _ _ _ st3 fun b hb o e => (pin' b hb o e).1, fun b hb => ?_, w'⟩
        · rw [← hw4] at e
          exact (wipe_some e).1
        · obtain ⟨o, e, _⟩ := T.obj _ _ st3 b hb
          exact (pin' b hb o e).2
      cases b with
      | false =>
        simp only [Bool.false_eq_true, if_false] at q5 ⊢
        exact fin I5 q5
      | true =>
        simp only [if_true] at q5 ⊢
        refine thnF (pk.run _ s5 σ4 H5 _ I5 q5) fun z s6 ⟨yk, H6, I6, r6, q6⟩ => ?_
        refine thnF (pe.run _ s6 σ4 H6 _ I6 q6) fun z2 s7 ⟨yv, H7, I7, r7, l, k, hy, hDm, hl, nx⟩ => ?_
        exact dm_set (X := X.blk sC HC scope ce fp) hu I7 hDm hl hy r6 r7 fun s8 es ep I8 d8 => fin I8 (nx es ep d8)
  have fini := codeAny_compStart_dict loop (T.self X.A 0 _ _ _ st0 loop)
  subst hsD hce hcl hsC
  exact fini
end
end Pf

set_option Elab.async false
set_option maxRecDepth 100000
set_option linter.all false
set_option maxHeartbeats 4000000
namespace Pf
open PySem L2
def top (i : Nat) : Stmt := PySem.Challenge.pw_surelyset_k12_errors_and_limits.main.body.getD i (.Pass ⟨0, 0, 0, 0⟩)
/-- the built-ins that the text leaves as they are -/
structure Bi (mg : Str → Option Value) : Prop where
  int : mg "int" = none
  len : mg "len" = none
  list : mg "list" = none
  tuple : mg "tuple" = none
  dict : mg "dict" = none
  set : mg "set" = none
  all : mg "all" = none
  min : mg "min" = none
  range : mg "range" = none
  sorted : mg "sorted" = none
  isinstance : mg "isinstance" = none
  repr : mg "repr" = none
  str : mg "str" = none
end Pf

set_option Elab.async false
set_option maxRecDepth 100000
set_option linter.all false
set_option maxHeartbeats 4000000
/-! own_copy of data: nothing, truths, numbers, texts, lists, tuples, the empty dict. -/
namespace Pf
open PySem PySem.Spec L2 PyProof.Rows
/-! data at a value; N tells of all its own addresses -/
mutual
inductive Av (K : PySem.W.Frag) (H : Hp) (N : Addr → Prop) : V → PyData → Prop
  | non : Av K H N .non .none
  | bl (b : Bool) : Av K H N (.bl b) (.bool b)
  | int (i : Int) : Av K H N (.int i) (.int i)
  | str (x : Str) : Av K H N (.str x) (.str x)
  | lst {a : Addr} {xs : List V} {ds : List PyData} : N a → SqL K H a xs → AvAll K H N xs ds → Av K H N (.ref a) (.list ds)
  | tup {a : Addr} {xs : List V} {ds : List PyData} : N a → SqT K H a xs → AvAll K H N xs ds → Av K H N (.ref a) (.tuple ds)
  | emp {a : Addr} : N a → H a = some (.dK []) → Av K H N (.ref a) (.dict [])
inductive AvAll (K : PySem.W.Frag) (H : Hp) (N : Addr → Prop) : List V → List PyData → Prop
  | nil : AvAll K H N [] []
  | cons {x : V} {d : PyData} {xs : List V} {ds : List PyData} : Av K H N x d → AvAll K H N xs ds → AvAll K H N (x :: xs) (d :: ds)
end
section
variable {K : PySem.W.Frag} {H H' : Hp} {N N' : Addr → Prop}
theorem sql_on {a : Addr} {xs : List V} (e : ∀ o, H a = some o → H' a = some o) (h : SqL K H a xs) : SqL K H' a xs := by
  rcases h with (h | ⟨o, h⟩) | h
  · exact .inl (.inl (e _ h))
  · exact .inl (.inr ⟨o, e _ h⟩)
  · exact .inr h
theorem sqt_on {a : Addr} {xs : List V} (e : ∀ o, H a = some o → H' a = some o) (h : SqT K H a xs) : SqT K H' a xs := by
  rcases h with (h | ⟨o, h⟩) | h
  · exact .inl (.inl (e _ h))
  · exact .inl (.inr ⟨o, e _ h⟩)
  · exact .inr h
mutual
theorem Av.on (e : ∀ a o, N a → H a = some o → H' a = some o) (n : ∀ a, N a → N' a) : ∀ {v : V} {d : PyData}, Av K H N v d → Av K H' N' v d
  | _, _, .non => .non
  | _, _, .bl b => .bl b
  | _, _, .int i => .int i
  | _, _, .str x => .str x
  | _, _, .lst m h t => .lst (n _ m) (sql_on (fun o => e _ o m) h) (AvAll.on e n t)
  | _, _, .tup m h t => .tup (n _ m) (sqt_on (fun o => e _ o m) h) (AvAll.on e n t)
  | _, _, .emp m h => .emp (n _ m) (e _ _ m h)
theorem AvAll.on (e : ∀ a o, N a → H a = some o → H' a = some o) (n : ∀ a, N a → N' a) : ∀ {vs : List V} {ds : List PyData}, AvAll K H N vs ds → AvAll K H' N' vs ds
  | _, _, .nil => .nil
  | _, _, .cons h t => .cons (Av.on e n h) (AvAll.on e n t)
end
theorem Av.same (e : Same H H') {v : V} {d : PyData} (h : Av K H N v d) : Av K H' N v d := h.on (fun a o _ => e a o) fun _ m => m
theorem AvAll.same (e : Same H H') {vs : List V} {ds : List PyData} (h : AvAll K H N vs ds) : AvAll K H' N vs ds := h.on (fun a o _ => e a o) fun _ m => m
theorem AvAll.length : ∀ {vs : List V} {ds : List PyData}, AvAll K H N vs ds → vs.length = ds.length
  | _, _, .nil => rfl
  | _, _, .cons _ t => by rw [List.length_cons, List.length_cons, AvAll.length t]
theorem AvAll.get : ∀ {vs : List V} {ds : List PyData} {i : Nat} {v : V}, AvAll K H N vs ds → vs[i]? = some v → ∃ d, ds[i]? = some d ∧ Av K H N v d
  | _, _, _, _, .nil, h => by simp at h
  | _, _, 0, _, .cons h t, e => by simp at e; subst e; exact ⟨_, rfl, h⟩
  | _, _, i + 1, _, .cons h t, e => by
    obtain ⟨d, h1, h2⟩ := AvAll.get (i := i) t (by simpa using e)
    exact ⟨d, by simpa using h1, h2⟩
theorem AvAll.snoc : ∀ {vs : List V} {ds : List PyData} {v : V} {d : PyData}, AvAll K H N vs ds → Av K H N v d → AvAll K H N (vs ++ [v]) (ds ++ [d])
  | _, _, _, _, .nil, h => .cons h .nil
  | _, _, _, _, .cons a t, h => .cons a (AvAll.snoc t h)
theorem sql_ty {a : Addr} {xs : List V} (h : SqL K H a xs) : TyX K H (.ref a) (.type "list") := by
  rcases h with (h | ⟨o, h⟩) | ⟨o, vs, n, h, c, _⟩
  · exact .base (.lst h)
  · exact .base (.frz h)
  · exact .kList h c
theorem sqt_ty {a : Addr} {xs : List V} (h : SqT K H a xs) : TyX K H (.ref a) (.type "tuple") := by
  rcases h with (h | ⟨o, h⟩) | ⟨o, vs, n, h, c, _⟩
  · exact .base (.tup h)
  · exact .fTuple h
  · exact .kTuple h c
theorem bulk_len : ∀ ds : List PyData, ds.length ≤ PyData.bulkAll ds
  | [] => by rw [PyData.bulkAll]; exact Nat.zero_le _
  | d :: ds => by rw [PyData.bulkAll, List.length_cons]; have := bulk_len ds; omega
theorem bulk_at : ∀ {ds : List PyData} {i : Nat} {d : PyData}, ds[i]? = some d → d.bulk ≤ PyData.bulkAll ds
  | [], _, _, h => by simp at h
  | e :: ds, 0, _, h => by simp at h; subst h; rw [PyData.bulkAll]; omega
  | e :: ds, i + 1, _, h => by have := bulk_at (ds := ds) (i := i) (by simpa using h); rw [PyData.bulkAll]; omega
theorem depth_at : ∀ {ds : List PyData} {i : Nat} {d : PyData}, ds[i]? = some d → d.depth ≤ PyData.depthAll ds
  | [], _, _, h => by simp at h
  | e :: ds, 0, _, h => by simp at h; subst h; rw [PyData.depthAll]; exact Nat.le_max_left _ _
  | e :: ds, i + 1, _, h => by have := depth_at (ds := ds) (i := i) (by simpa using h); rw [PyData.depthAll]; exact Nat.le_trans this (Nat.le_max_right _ _)
end
/-- own_copy at data of this depth -/
def spCp (K : PySem.W.Frag) (n : Nat) : Sp := fun vs H Q _ => ∃ (v : V) (d : PyData), vs = [v] ∧ Av K H (fun _ => True) v d ∧ d.depth ≤ n ∧ d.bulk ≤ 1000 ∧ ∀ y H', Same H H' → Av K H' (fun a => H a = none) y d → Q y H'
theorem take_next {α : Type} {xs : List α} {i : Nat} {x : α} (h : xs[i]? = some x) : xs.take (i + 1) = xs.take i ++ [x] := by rw [List.take_succ, h]; rfl
section
variable {P : Program} {w : World} {K : PySem.W.Frag} {mg : Str → Option Value} {base : Heap}
abbrev s_own_copy : Stmt := top 1
theorem sc_own_copy : FnScope ["value", "part", "key"] ["value"] (defScope s_own_copy) := ⟨rfl, rfl, rfl, by decide +kernel, rfl, by decide +kernel, by decide +kernel⟩
theorem copy_step {n k : Nat} {spR : Sp} {f : Addr} {fd : FuncData} (F : Fun K "own_copy" "own_copy" s_own_copy f fd) (B : Bi mg) (C_own_copy : C8.Cal P w K mg base k "own_copy" spR [])
    (hR : ∀ v H (Q : VK) d, Av K H (fun _ => True) v d → d.depth < n → d.bulk ≤ 1000 → (∀ y H', Same H H' → Av K H' (fun a => H a = none) y d → Q y H') → spR [v] H Q C8.E0) : FnOk P w K mg base CX0 (k + 1) f fd ["value"] (spCp K n) := by
  refine F.ok sc_own_copy (fun vs H Q E h => ?_) (fun cdv A outer s H vs Q E hr h => ?_)
  · obtain ⟨v, d, rfl, _⟩ := h
    rfl
  · obtain ⟨v, d, rfl, hv, hd, hb, k⟩ := h
    have hu := hu_of hr
    refine ⟨_, (pss_cons (ps_if (pt_val (pe_callB call_isi (by rfl) B.isinstance (by decide +kernel) (pa_cons (pv 0) (pa_cons (pe_bltn (v := .ty "list") (u := .type "list") (by rfl) B.list (by decide +kernel) rfl) pa_nil))))
        (pss_one (ps_ret (pe_lc (own := [("part", 1)]) (g := gName 1) (by rfl) sc_own_copy.nd (pi_list (pv 0)) (blkOk_by (own := [("part", 1)]) (N := ["value", "part", "key"]) (sc := defScope s_own_copy) (by decide +kernel)) (fun _ _ _ _ _ => (pg_name (i := 1) sc_own_copy.nd rfl (Or.inl rfl))) (fun _ _ _ _ _ => pts_nil) (fun _ _ _ _ _ => (C8.pe_c C_own_copy hr (Nat.le_refl _) (by rfl) (pa_cons (pv 1) pa_nil))))))
        pss_nil)
      (pss_cons (ps_if (pt_val (pe_callB call_isi (by rfl) B.isinstance (by decide +kernel) (pa_cons (pv 0) (pa_cons (pe_bltn (v := .ty "tuple") (u := .type "tuple") (by rfl) B.tuple (by decide +kernel) rfl) pa_nil))))
        (pss_one (ps_ret (pe_callTy call_tuple_of (by rfl) B.tuple (by decide +kernel) (pa_cons (pe_lc (own := [("part", 1)]) (g := gName 1) (by rfl) sc_own_copy.nd (pi_tup (pv 0)) (blkOk_by (own := [("part", 1)]) (N := ["value", "part", "key"]) (sc := defScope s_own_copy) (by decide +kernel)) (fun _ _ _ _ _ => (pg_name (i := 1) sc_own_copy.nd rfl (Or.inl rfl))) (fun _ _ _ _ _ => pts_nil) (fun _ _ _ _ _ => (C8.pe_c C_own_copy hr (Nat.le_refl _) (by rfl) (pa_cons (pv 1) pa_nil)))) pa_nil))))
        pss_nil)
      (pss_cons (ps_if (pt_val (pe_callB call_isi (by rfl) B.isinstance (by decide +kernel) (pa_cons (pv 0) (pa_cons (pe_bltn (v := .ty "dict") (u := .type "dict") (by rfl) B.dict (by decide +kernel) rfl) pa_nil))))
        (pss_one (ps_ret (pe_lock (pe_dc (own := [("key", 2)]) (g := gName 2) (by rfl) sc_own_copy.nd (pi_keys (pv 0)) (blkOk_by (own := [("key", 2)]) (N := ["value", "part", "key"]) (sc := defScope s_own_copy) (by decide +kernel)) (fun _ _ _ _ _ => (pg_name (i := 2) sc_own_copy.nd rfl (Or.inl rfl))) (fun _ _ _ _ _ => pts_nil) (fun _ _ _ _ _ => (pv 2)) (fun _ _ _ _ _ => (C8.pe_c C_own_copy hr (Nat.le_refl _) (by rfl) (pa_cons (pe_dget hu (pv 0) (pv 2) (fun _ _ => rfl)) pa_nil)))))))
        pss_nil)
      (pss_one (ps_ret (pv 0)))))), ?_⟩
    cases hv with
    | non => exact ⟨_, rfl, _, _, _, _, false, rfl, .ty "list", .base (.non), kit_ty (by decide +kernel), false, rfl, iteF ⟨_, rfl, _, _, _, _, false, rfl, .ty "tuple", .base (.non), kit_ty (by decide +kernel), false, rfl, iteF ⟨_, rfl, _, _, _, _, false, rfl, .ty "dict", .base (.non), kit_ty (by decide +kernel), false, rfl, iteF ⟨_, rfl, k _ H (Same.refl H) (.non)⟩⟩⟩⟩
    | bl b => exact ⟨_, rfl, _, _, _, _, false, rfl, .ty "list", .base (.bl b), kit_ty (by decide +kernel), false, rfl, iteF ⟨_, rfl, _, _, _, _, false, rfl, .ty "tuple", .base (.bl b), kit_ty (by decide +kernel), false, rfl, iteF ⟨_, rfl, _, _, _, _, false, rfl, .ty "dict", .base (.bl b), kit_ty (by decide +kernel), false, rfl, iteF ⟨_, rfl, k _ H (Same.refl H) (.bl b)⟩⟩⟩⟩
    | int i => exact ⟨_, rfl, _, _, _, _, false, rfl, .ty "list", .base (.int i), kit_ty (by decide +kernel), false, rfl, iteF ⟨_, rfl, _, _, _, _, false, rfl, .ty "tuple", .base (.int i), kit_ty (by decide +kernel), false, rfl, iteF ⟨_, rfl, _, _, _, _, false, rfl, .ty "dict", .base (.int i), kit_ty (by decide +kernel), false, rfl, iteF ⟨_, rfl, k _ H (Same.refl H) (.int i)⟩⟩⟩⟩
    | str x => exact ⟨_, rfl, _, _, _, _, false, rfl, .ty "list", .base (.str x), kit_ty (by decide +kernel), false, rfl, iteF ⟨_, rfl, _, _, _, _, false, rfl, .ty "tuple", .base (.str x), kit_ty (by decide +kernel), false, rfl, iteF ⟨_, rfl, _, _, _, _, false, rfl, .ty "dict", .base (.str x), kit_ty (by decide +kernel), false, rfl, iteF ⟨_, rfl, k _ H (Same.refl H) (.str x)⟩⟩⟩⟩
    | @lst a xs ds _ ha hx =>
      refine ⟨_, rfl, _, _, _, _, true, rfl, .ty "list", sql_ty ha, kit_ty (by decide +kernel), true, rfl, iteT ?_⟩
      have hlen := hx.length
      have hbl : ds.length ≤ 1000 := Nat.le_trans (bulk_len ds) (by rw [PyData.bulk] at hb; omega)
      refine ⟨_, rfl, a, rfl, ⟨_, ha⟩, fun D hD => ?_⟩
      refine lc_gen walk_list rel_ex hD (by omega) (fun i ys H' => AvAll K H' (fun a => a ≠ D ∧ H a = none) ys (ds.take i)) .nil (fun i ys H' l _ => sql_on (fun o h => l _ o h) ha) (fun i ys zs H' o _ _ s => s.on (fun b u m h => by rw [upd_ne m.1]; exact h) fun _ m => m) ?_ ?_
      · rintro i x ys H2 H2' hi l2 hD2 hs ⟨rfl, hxi⟩ K1 K0 k1 k0
        obtain ⟨d, hdi, hdv⟩ := hx.get hxi
        refine ⟨rfl, yes_of ⟨_, rfl, ?_⟩⟩
        refine hR _ _ _ d (hdv.same l2) (by have := depth_at hdi; rw [PyData.depth] at hd; omega) (by have := bulk_at hdi; rw [PyData.bulk] at hb; omega) fun y H3 e3 h3 => k1 y H3 e3 ?_
        rw [take_next hdi]
        exact (hs.same e3).snoc (h3.on (fun _ _ _ h => h) fun b m => ⟨(fun z => absurd m (by rw [z, hD2]; exact fun y => nomatch y)), l2.free m⟩)
      · rintro ys H2 l2 hyl hD2 hs
        rw [hlen, List.take_length] at hs
        exact k _ _ l2 (.lst hD (SqL.of hD2) (hs.on (fun _ _ _ h => h) fun _ m => m.2))
    | @tup a xs ds _ ha hx =>
      refine ⟨_, rfl, _, _, _, _, false, rfl, .ty "list", sqt_ty ha, kit_ty (by decide +kernel), false, rfl, iteF ⟨_, rfl, _, _, _, _, true, rfl, .ty "tuple", sqt_ty ha, kit_ty (by decide +kernel), true, rfl, iteT ?_⟩⟩
      have hlen := hx.length
      have hbl : ds.length ≤ 1000 := Nat.le_trans (bulk_len ds) (by rw [PyData.bulk] at hb; omega)
      refine ⟨_, rfl, a, rfl, ⟨_, ha⟩, fun D hD => ?_⟩
      refine lc_gen walk_tup rel_ex hD (by omega) (fun i ys H' => AvAll K H' (fun a => a ≠ D ∧ H a = none) ys (ds.take i)) .nil (fun i ys H' l _ => sqt_on (fun o h => l _ o h) ha) (fun i ys zs H' o _ _ s => s.on (fun b u m h => by rw [upd_ne m.1]; exact h) fun _ m => m) ?_ ?_
      · rintro i x ys H2 H2' hi l2 hD2 hs ⟨rfl, hxi⟩ K1 K0 k1 k0
        obtain ⟨d, hdi, hdv⟩ := hx.get hxi
        refine ⟨rfl, yes_of ⟨_, rfl, ?_⟩⟩
        refine hR _ _ _ d (hdv.same l2) (by have := depth_at hdi; rw [PyData.depth] at hd; omega) (by have := bulk_at hdi; rw [PyData.bulk] at hb; omega) fun y H3 e3 h3 => k1 y H3 e3 ?_
        rw [take_next hdi]
        exact (hs.same e3).snoc (h3.on (fun _ _ _ h => h) fun b m => ⟨(fun z => absurd m (by rw [z, hD2]; exact fun y => nomatch y)), l2.free m⟩)
      · rintro ys H2 l2 hyl hD2 hs
        rw [hlen, List.take_length] at hs
        refine ⟨D, ys, rfl, .inl ⟨SqL.of hD2, fun t ht => ?_⟩⟩
        exact k _ _ (l2.trans (same_new ht)) (.tup (l2.free ht) (SqT.of upd_same) ((hs.same (same_new ht)).on (fun _ _ _ h => h) fun _ m => m.2))
    | @emp a _ ha =>
      refine ⟨_, rfl, _, _, _, _, false, rfl, .ty "list", .base (.dK ha), kit_ty (by decide +kernel), false, rfl, iteF ⟨_, rfl, _, _, _, _, false, rfl, .ty "tuple", .base (.dK ha), kit_ty (by decide +kernel), false, rfl, iteF ⟨_, rfl, _, _, _, _, true, rfl, .ty "dict", .base (.dK ha), kit_ty (by decide +kernel), true, rfl, iteT ?_⟩⟩⟩
      refine ⟨a, _, ha, trivial, fun od => ?_⟩
      refine ⟨_, rfl, a, od, rfl, .inl ⟨_, upd_same, fun D hD => ?_⟩⟩
      have hDa : D ≠ a := fun z => by rw [z, upd_same] at hD; cases hD
      have hDn : H D = none := by rw [upd_ne hDa] at hD; exact hD
      refine dc_gen walk_keysY rel_ex hD (by simp) (fun _ l d => l _ _ d) (fun i kvs H' => kvs = []) rfl (fun i kvs H' l _ => l _ _ upd_same) (fun _ _ _ _ _ _ _ s => s) (fun i x kvs H2 H2' hi => absurd hi (by simp)) ?_
      rintro kvs H2 l2 _ hD2 rfl
      obtain ⟨ha2, e2⟩ := lock_back ha l2
      exact ⟨ha2, k _ _ e2 (.emp hDn (by rw [upd_ne hDa]; exact hD2))⟩
/-- own_copy down to depth n -/
theorem ok_copy {f : Addr} {fd : FuncData} (F : Fun K "own_copy" "own_copy" s_own_copy f fd) (B : Bi mg) (hm : mg "own_copy" = some (.ref f)) (hb : Binds K fd ["value"] []) : ∀ n, FnOk P w K mg base CX0 (n + 1) f fd ["value"] (spCp K n)
  | 0 => copy_step (spR := fun _ _ _ _ => False) F B ⟨f, fd, ["value"], [], ⟨fun _ _ _ _ h => h.elim, fun _ _ _ _ _ _ _ _ _ _ _ _ _ h => h.elim⟩, hm, F.kp, hb, .nil⟩ fun _ _ _ d _ h => absurd h (Nat.not_lt_zero _)
  | n + 1 => copy_step F B ⟨f, fd, ["value"], [], ok_copy F B hm hb n, hm, F.kp, hb, .nil⟩ fun v H Q d hv hd hz q => ⟨v, d, rfl, hv, by omega, hz, q⟩
end
end Pf

set_option Elab.async false
set_option maxRecDepth 100000
set_option linter.all false
set_option maxHeartbeats 4000000
set_option pp.maxSteps 200
/-! Data of any kind at a value: dicts too. -/
namespace Pf
open PySem PySem.Spec L2 PyProof.Rows
def keyD : Key → PyData
  | .inl i => .int i
  | .inr x => .str x
def flatD : V → Option PyData
  | .non => some .none
  | .bl b => some (.bool b)
  | .int i => some (.int i)
  | .str x => some (.str x)
  | _ => none
/-- a key as data -/
def KdAt (K : PySem.W.Frag) (H : Hp) (v : V) (d : PyData) : Prop := flatD v = some d ∨ ∃ a xs ds, v = .ref a ∧ SqT K H a xs ∧ Paired (fun x d => flatD x = some d) xs ds ∧ d = .tuple ds
mutual
inductive Da (w : World) (K : PySem.W.Frag) (H : Hp) (N : Addr → Prop) : V → PyData → Prop
  | non : Da w K H N .non .none
  | bl (b : Bool) : Da w K H N (.bl b) (.bool b)
  | int (i : Int) : Da w K H N (.int i) (.int i)
  | str (x : Str) : Da w K H N (.str x) (.str x)
  | lst {a : Addr} {xs : List V} {ds : List PyData} : N a → SqL K H a xs → DaAll w K H N xs ds → Da w K H N (.ref a) (.list ds)
  | tup {a : Addr} {xs : List V} {ds : List PyData} : N a → SqT K H a xs → DaAll w K H N xs ds → Da w K H N (.ref a) (.tuple ds)
  | dK {a : Addr} {kvs : List (Key × V)} {ds : List (PyData × PyData)} : N a → Rd H a (.dK kvs) → (kvs.map Prod.fst).Nodup → DaKv w K H N kvs ds → Da w K H N (.ref a) (.dict ds)
  | dM {a : Addr} {l : List MK} {ds : List (PyData × PyData)} : N a → Dm w K H a l → DaMk w K H N l ds → Da w K H N (.ref a) (.dict ds)
inductive DaAll (w : World) (K : PySem.W.Frag) (H : Hp) (N : Addr → Prop) : List V → List PyData → Prop
  | nil : DaAll w K H N [] []
  | cons {x : V} {d : PyData} {xs : List V} {ds : List PyData} : Da w K H N x d → DaAll w K H N xs ds → DaAll w K H N (x :: xs) (d :: ds)
inductive DaKv (w : World) (K : PySem.W.Frag) (H : Hp) (N : Addr → Prop) : List (Key × V) → List (PyData × PyData) → Prop
  | nil : DaKv w K H N [] []
  | cons {k : Key} {x : V} {d : PyData} {xs : List (Key × V)} {ds : List (PyData × PyData)} : Da w K H N x d → DaKv w K H N xs ds → DaKv w K H N ((k, x) :: xs) ((keyD k, d) :: ds)
inductive DaMk (w : World) (K : PySem.W.Frag) (H : Hp) (N : Addr → Prop) : List MK → List (PyData × PyData) → Prop
  | nil : DaMk w K H N [] []
  | cons {y x : V} {k : NestedKey} {e d : PyData} {xs : List MK} {ds : List (PyData × PyData)} : KdAt K H y e → Da w K H N x d → DaMk w K H N xs ds → DaMk w K H N ((y, x, k) :: xs) ((e, d) :: ds)
end
section
variable {w : World} {K : PySem.W.Frag} {H H' : Hp} {N N' : Addr → Prop}
theorem KdAt.on {v : V} {d : PyData} (t : ∀ a xs, SqT K H a xs → SqT K H' a xs) (h : KdAt K H v d) : KdAt K H' v d := h.imp id fun ⟨a, xs, ds, h1, h2, h3⟩ => ⟨a, xs, ds, h1, t _ _ h2, h3⟩
theorem KeyAt.on {v : V} {k : NestedKey} (t : ∀ a xs, SqT K H a xs → SqT K H' a xs) (h : KeyAt K H v k) : KeyAt K H' v k := h.imp id fun ⟨a, xs, ds, h1, h2, h3⟩ => ⟨a, xs, ds, h1, t _ _ h2, h3⟩
theorem Dm.on {d : Addr} {l : List MK} (e : ∀ o, H d = some o → H' d = some o) (t : ∀ a xs, SqT K H a xs → SqT K H' a xs) (h : Dm w K H d l) : Dm w K H' d l := by
  obtain ⟨es, ep, h1, h2, h3, h4, h5⟩ := h
  exact ⟨es, ep, e _ h1, h2, h3, fun x hx => (h4 x hx).on t, h5⟩
theorem rd_on {a : Addr} {u : HO} (e : ∀ o, H a = some o → H' a = some o) (h : Rd H a u) : Rd H' a u := h.imp (fun z => e _ z) fun ⟨o, z⟩ => ⟨o, e _ z⟩
mutual
theorem Da.on (e : ∀ a o, N a → H a = some o → H' a = some o) (t : ∀ a xs, SqT K H a xs → SqT K H' a xs) (n : ∀ a, N a → N' a) : ∀ {v : V} {d : PyData}, Da w K H N v d → Da w K H' N' v d
  | _, _, .non => .non
  | _, _, .bl b => .bl b
  | _, _, .int i => .int i
  | _, _, .str x => .str x
  | _, _, .lst m h r => .lst (n _ m) (sql_on (fun o => e _ o m) h) (DaAll.on e t n r)
  | _, _, .tup m h r => .tup (n _ m) (t _ _ h) (DaAll.on e t n r)
  | _, _, .dK m h q r => .dK (n _ m) (rd_on (fun o => e _ o m) h) q (DaKv.on e t n r)
  | _, _, .dM m h r => .dM (n _ m) (h.on (fun o => e _ o m) t) (DaMk.on e t n r)
theorem DaAll.on (e : ∀ a o, N a → H a = some o → H' a = some o) (t : ∀ a xs, SqT K H a xs → SqT K H' a xs) (n : ∀ a, N a → N' a) : ∀ {vs : List V} {ds : List PyData}, DaAll w K H N vs ds → DaAll w K H' N' vs ds
  | _, _, .nil => .nil
  | _, _, .cons h r => .cons (Da.on e t n h) (DaAll.on e t n r)
theorem DaKv.on (e : ∀ a o, N a → H a = some o → H' a = some o) (t : ∀ a xs, SqT K H a xs → SqT K H' a xs) (n : ∀ a, N a → N' a) : ∀ {vs : List (Key × V)} {ds : List (PyData × PyData)}, DaKv w K H N vs ds → DaKv w K H' N' vs ds
  | _, _, .nil => .nil
  | _, _, .cons h r => .cons (Da.on e t n h) (DaKv.on e t n r)
theorem DaMk.on (e : ∀ a o, N a → H a = some o → H' a = some o) (t : ∀ a xs, SqT K H a xs → SqT K H' a xs) (n : ∀ a, N a → N' a) : ∀ {vs : List MK} {ds : List (PyData × PyData)}, DaMk w K H N vs ds → DaMk w K H' N' vs ds
  | _, _, .nil => .nil
  | _, _, .cons q h r => .cons (q.on t) (Da.on e t n h) (DaMk.on e t n r)
end
theorem sqt_same (e : Same H H') (a : Addr) (xs : List V) (h : SqT K H a xs) : SqT K H' a xs := sqt_on (fun o => e _ o) h
theorem sqt_chg {d : Addr} {o o' : HO} (hd : H d = some o) (h1 : ∀ xs, o ≠ .tup xs) (h2 : ∀ ob u, o ≠ .frz ob u) (a : Addr) (xs : List V) (h : SqT K H a xs) : SqT K (upd H d o') a xs := by
  rcases h with (h | ⟨ob, h⟩) | h
  · exact .inl (.inl (by rw [upd_ne (ne_of h hd fun z => h1 _ z.symm)]; exact h))
  · exact .inl (.inr ⟨ob, by rw [upd_ne (ne_of h hd fun z => h2 _ _ z.symm)]; exact h⟩)
  · exact .inr h
theorem Da.same (e : Same H H') {v : V} {d : PyData} (h : Da w K H N v d) : Da w K H' N v d := h.on (fun a o _ => e a o) (sqt_same e) fun _ m => m
theorem DaAll.same (e : Same H H') {v : List V} {d : List PyData} (h : DaAll w K H N v d) : DaAll w K H' N v d := h.on (fun a o _ => e a o) (sqt_same e) fun _ m => m
theorem DaKv.same (e : Same H H') {v : List (Key × V)} {d : List (PyData × PyData)} (h : DaKv w K H N v d) : DaKv w K H' N v d := h.on (fun a o _ => e a o) (sqt_same e) fun _ m => m
theorem DaMk.same (e : Same H H') {v : List MK} {d : List (PyData × PyData)} (h : DaMk w K H N v d) : DaMk w K H' N v d := h.on (fun a o _ => e a o) (sqt_same e) fun _ m => m
mutual
theorem Da.lock {a : Addr} {kvs0 : List (Key × V)} {od : Obj} (ha : H a = some (.dK kvs0)) : ∀ {v : V} {d : PyData}, Da w K H N v d → Da w K (upd H a (.frz od (.dK kvs0))) N v d
  | _, _, .non => .non
  | _, _, .bl b => .bl b
  | _, _, .int i => .int i
  | _, _, .str x => .str x
  | _, _, .lst m h r => .lst m (by
      rcases h with (h | ⟨ob, h⟩) | h
      · exact .inl (.inl (by rw [upd_ne (ne_of h ha (by intro z; cases z))]; exact h))
      · exact .inl (.inr ⟨ob, by rw [upd_ne (ne_of h ha (by intro z; cases z))]; exact h⟩)
      · exact .inr h) (DaAll.lock ha r)
  | _, _, .tup m h r => .tup m (sqt_chg ha (fun _ z => by cases z) (fun _ _ z => by cases z) _ _ h) (DaAll.lock ha r)
  | _, _, .dK m h q r => .dK m (rd_lock ha h (fun _ _ z => by cases z)) q (DaKv.lock ha r)
  | _, _, .dM m h r => .dM m (by
      obtain ⟨es, ep, h1, h2, h3, h4, h5⟩ := h
      exact ⟨es, ep, by rw [upd_ne (ne_of h1 ha (by unfold DxO; intro z; cases z))]; exact h1, h2, h3, fun x hx => (h4 x hx).on (sqt_chg ha (fun _ z => by cases z) (fun _ _ z => by cases z)), h5⟩) (DaMk.lock ha r)
theorem DaAll.lock {a : Addr} {kvs0 : List (Key × V)} {od : Obj} (ha : H a = some (.dK kvs0)) : ∀ {v : List V} {d : List PyData}, DaAll w K H N v d → DaAll w K (upd H a (.frz od (.dK kvs0))) N v d
  | _, _, .nil => .nil
  | _, _, .cons h r => .cons (Da.lock ha h) (DaAll.lock ha r)
theorem DaKv.lock {a : Addr} {kvs0 : List (Key × V)} {od : Obj} (ha : H a = some (.dK kvs0)) : ∀ {v : List (Key × V)} {d : List (PyData × PyData)}, DaKv w K H N v d → DaKv w K (upd H a (.frz od (.dK kvs0))) N v d
  | _, _, .nil => .nil
  | _, _, .cons h r => .cons (Da.lock ha h) (DaKv.lock ha r)
theorem DaMk.lock {a : Addr} {kvs0 : List (Key × V)} {od : Obj} (ha : H a = some (.dK kvs0)) : ∀ {v : List MK} {d : List (PyData × PyData)}, DaMk w K H N v d → DaMk w K (upd H a (.frz od (.dK kvs0))) N v d
  | _, _, .nil => .nil
  | _, _, .cons q h r => .cons (q.on (sqt_chg ha (fun _ z => by cases z) (fun _ _ z => by cases z))) (Da.lock ha h) (DaMk.lock ha r)
end
theorem DaAll.length : ∀ {vs : List V} {ds : List PyData}, DaAll w K H N vs ds → vs.length = ds.length
  | _, _, .nil => rfl
  | _, _, .cons _ t => by rw [List.length_cons, List.length_cons, DaAll.length t]
theorem DaKv.length : ∀ {vs : List (Key × V)} {ds : List (PyData × PyData)}, DaKv w K H N vs ds → vs.length = ds.length
  | _, _, .nil => rfl
  | _, _, .cons _ t => by rw [List.length_cons, List.length_cons, DaKv.length t]
theorem DaMk.length : ∀ {vs : List MK} {ds : List (PyData × PyData)}, DaMk w K H N vs ds → vs.length = ds.length
  | _, _, .nil => rfl
  | _, _, .cons _ _ t => by rw [List.length_cons, List.length_cons, DaMk.length t]
theorem DaAll.get : ∀ {vs : List V} {ds : List PyData} {i : Nat} {v : V}, DaAll w K H N vs ds → vs[i]? = some v → ∃ d, ds[i]? = some d ∧ Da w K H N v d
  | _, _, _, _, .nil, h => by simp at h
  | _, _, 0, _, .cons h t, e => by simp at e; subst e; exact ⟨_, rfl, h⟩
  | _, _, i + 1, _, .cons h t, e => by
    obtain ⟨d, h1, h2⟩ := DaAll.get (i := i) t (by simpa using e)
    exact ⟨d, by simpa using h1, h2⟩
theorem DaKv.get : ∀ {vs : List (Key × V)} {ds : List (PyData × PyData)} {i : Nat} {v : Key × V}, DaKv w K H N vs ds → vs[i]? = some v → ∃ d, ds[i]? = some (keyD v.1, d) ∧ Da w K H N v.2 d
  | _, _, _, _, .nil, h => by simp at h
  | _, _, 0, _, .cons h t, e => by simp at e; subst e; exact ⟨_, rfl, h⟩
  | _, _, i + 1, _, .cons h t, e => by
    obtain ⟨d, h1, h2⟩ := DaKv.get (i := i) t (by simpa using e)
    exact ⟨d, by simpa using h1, h2⟩
theorem DaMk.get : ∀ {vs : List MK} {ds : List (PyData × PyData)} {i : Nat} {v : MK}, DaMk w K H N vs ds → vs[i]? = some v → ∃ c d, ds[i]? = some (c, d) ∧ KdAt K H v.1 c ∧ Da w K H N v.2.1 d
  | _, _, _, _, .nil, h => by simp at h
  | _, _, 0, _, .cons q h t, e => by simp at e; subst e; exact ⟨_, _, rfl, q, h⟩
  | _, _, i + 1, _, .cons q h t, e => by
    obtain ⟨c, d, h1, h2⟩ := DaMk.get (i := i) t (by simpa using e)
    exact ⟨c, d, by simpa using h1, h2⟩
theorem DaAll.snoc : ∀ {vs : List V} {ds : List PyData} {v : V} {d : PyData}, DaAll w K H N vs ds → Da w K H N v d → DaAll w K H N (vs ++ [v]) (ds ++ [d])
  | _, _, _, _, .nil, h => .cons h .nil
  | _, _, _, _, .cons a t, h => .cons a (DaAll.snoc t h)
theorem DaKv.snoc : ∀ {vs : List (Key × V)} {ds : List (PyData × PyData)} {k : Key} {v : V} {d : PyData}, DaKv w K H N vs ds → Da w K H N v d → DaKv w K H N (vs ++ [(k, v)]) (ds ++ [(keyD k, d)])
  | _, _, _, _, _, .nil, h => .cons h .nil
  | _, _, _, _, _, .cons a t, h => .cons a (DaKv.snoc t h)
theorem DaMk.snoc : ∀ {vs : List MK} {ds : List (PyData × PyData)} {y v : V} {k : NestedKey} {c d : PyData}, DaMk w K H N vs ds → KdAt K H y c → Da w K H N v d → DaMk w K H N (vs ++ [(y, v, k)]) (ds ++ [(c, d)])
  | _, _, _, _, _, _, _, .nil, q, h => .cons q h .nil
  | _, _, _, _, _, _, _, .cons b a t, q, h => .cons b a (DaMk.snoc t q h)
theorem DaAll.append : ∀ {vs us : List V} {ds es : List PyData}, DaAll w K H N vs ds → DaAll w K H N us es → DaAll w K H N (vs ++ us) (ds ++ es)
  | _, _, _, _, .nil, h => h
  | _, _, _, _, .cons a t, h => .cons a (DaAll.append t h)
theorem DaKv.append : ∀ {vs us : List (Key × V)} {ds es : List (PyData × PyData)}, DaKv w K H N vs ds → DaKv w K H N us es → DaKv w K H N (vs ++ us) (ds ++ es)
  | _, _, _, _, .nil, h => h
  | _, _, _, _, .cons a t, h => .cons a (DaKv.append t h)
theorem depthKv_at : ∀ {ds : List (PyData × PyData)} {i : Nat} {c d : PyData}, ds[i]? = some (c, d) → d.depth ≤ PyData.depthKv ds
  | [], _, _, _, h => by simp at h
  | (a, b) :: ds, 0, _, _, h => by simp at h; obtain ⟨rfl, rfl⟩ := h; rw [PyData.depthKv]; omega
  | (a, b) :: ds, i + 1, _, _, h => by have := depthKv_at (ds := ds) (i := i) (by simpa using h); rw [PyData.depthKv]; omega
end
/-! ### it is read -/
section
variable {X : Cx} {pins : List (Addr × Obj)} {σ : L2.St} {H : Hp} {s : Shared}
/-- at the modules' place stands a dict -/
structure SysB (base : Heap) : Prop where
  ex : ∃ o es ep, base.get? sysModules = some o ∧ o.data = .dict es ep
theorem lst_mods (I : L2.Inv X pins σ H s) (sb : SysB X.base) {a : Addr} {o : Obj} {vs : Array Value} {n : Nat} (h : s.heap.get? a = some o) (hd : o.data = .seq vs n) : a ≠ sysModules := fun e => by
  obtain ⟨oS, es, ep, h1, h2⟩ := sb.ex
  have := I.bk _ _ h1
  rw [← e, h] at this
  cases this
  rw [hd] at h2
  cases h2
theorem flatD_reads {h : Heap} {v : V} {d : PyData} {u : Value} (e : flatD v = some d) (r : RelV v u) : Reads h u d [] := by
  cases v with
  | non => cases e; cases (show u = Value.none from r); exact .none
  | bl b => cases e; cases (show u = Value.bool b from r); exact .bool b
  | int i => cases e; obtain ⟨t, rfl⟩ := r; exact .int i t
  | str x => cases e; obtain ⟨t, rfl⟩ := r; exact .str x t
  | _ => cases e
theorem flatsD_reads {h : Heap} : ∀ {xs : List V} {ds : List PyData} {us : List Value}, Paired (fun x d => flatD x = some d) xs ds → Vals xs us → ReadsAll h us ds []
  | _, _, _, .nil, .nil => .nil
  | _, _, _, .cons e t, .cons r rr => .cons (as := []) (bs := []) (flatD_reads e r) (flatsD_reads t rr)
theorem KdAt.reads (I : L2.Inv X pins σ H s) {v : V} {d : PyData} {u : Value} (h : KdAt X.K H v d) (r : RelV v u) : Reads s.heap u d [] := by
  rcases h with h | ⟨a, xs, ds, rfl, ha, hp, rfl⟩
  · exact flatD_reads h r
  · cases (show u = Value.ref a from r)
    obtain ⟨its, rr, ⟨o, e1, e2, n, e3⟩, _⟩ := I.tuple ha
    exact .tuple e1 e2 e3 (by simpa using flatsD_reads (h := s.heap) hp rr)
theorem keyD_reads {h : Heap} : ∀ (k : Key) (u : Value), keyIs k u = true → Reads h u (keyD k) [] := fun k u e => by
  rcases keyIs_shape e with ⟨i, t, rfl, rfl⟩ | ⟨x, t, rfl, rfl⟩
  · exact .int i t
  · exact .str x t
variable (sb : SysB X.base)
include sb
mutual
theorem da_reads (I : L2.Inv X pins σ H s) {N : Addr → Prop} : ∀ {v : V} {d : PyData} {u : Value}, Da X.w X.K H N v d → RelV v u → ∃ as, Reads s.heap u d as ∧ sysModules ∉ as
  | _, _, _, .non, r => by cases (show _ = Value.none from r); exact ⟨_, .none, List.not_mem_nil⟩
  | _, _, _, .bl b, r => by cases (show _ = Value.bool b from r); exact ⟨_, .bool b, List.not_mem_nil⟩
  | _, _, _, .int i, r => by obtain ⟨t, rfl⟩ := r; exact ⟨_, .int i t, List.not_mem_nil⟩
  | _, _, _, .str x, r => by obtain ⟨t, rfl⟩ := r; exact ⟨_, .str x t, List.not_mem_nil⟩
  | _, _, _, @Da.lst _ _ _ _ a xs ds _ h t, r => by
    cases (show _ = Value.ref a from r)
    obtain ⟨its, rr, ⟨o, n, e1, e2, _, e3⟩, _⟩ := I.list h
    obtain ⟨as, ra, na⟩ := das_reads I t rr
    refine ⟨_, .list e1 e2 e3 (by simpa using ra), fun z => ?_⟩
    rcases List.mem_cons.mp z with z | z
    · exact lst_mods I sb e1 e3 z.symm
    · exact na z
  | _, _, _, @Da.tup _ _ _ _ a xs ds _ h t, r => by
    cases (show _ = Value.ref a from r)
    obtain ⟨its, rr, ⟨o, e1, e2, n, e3⟩, _⟩ := I.tuple h
    obtain ⟨as, ra, na⟩ := das_reads I t rr
    exact ⟨_, .tuple e1 e2 e3 (by simpa using ra), na⟩
  | _, _, _, @Da.dK _ _ _ _ a kvs ds _ h _ t, r => by
    cases (show _ = Value.ref a from r)
    obtain ⟨_, h1, vs, kv, hdo⟩ := h.ok I.hok
    obtain ⟨as, ra, na⟩ := dakv_reads I t kv
    refine ⟨_, PyProof.V.reads_dictOf (enc := keyD) keyD_reads hdo ra, fun z => ?_⟩
    rcases List.mem_cons.mp z with z | z
    · rw [← z] at h1; exact absurd h1 (by decide)
    · exact na z
  | _, _, _, @Da.dM _ _ _ _ a l ds _ h t, r => by
    cases (show _ = Value.ref a from r)
    obtain ⟨es, ep, h1, h2, h3, h4, h5⟩ := h
    obtain ⟨as, ra, rb, na⟩ := damk_reads I t (es := es.toList) (by rw [Array.length_toList]; exact h3.len) fun i e x he hx' => (h3.at_ i e x (by rw [← Array.getElem?_toList]; exact he) hx')
    refine ⟨_, .dict (as := []) (dxO_at I h1) rfl rfl ra rb, fun z => ?_⟩
    have z : sysModules ∈ a :: as := by simpa using z
    rcases List.mem_cons.mp z with z | z
    · rw [← z] at h2; exact absurd h2 (by decide)
    · exact na z
theorem das_reads (I : L2.Inv X pins σ H s) {N : Addr → Prop} : ∀ {vs : List V} {ds : List PyData} {us : List Value}, DaAll X.w X.K H N vs ds → Vals vs us → ∃ as, ReadsAll s.heap us ds as ∧ sysModules ∉ as
  | _, _, _, .nil, .nil => ⟨_, .nil, List.not_mem_nil⟩
  | _, _, _, .cons h t, .cons r rr => by
    obtain ⟨as, h1, n1⟩ := da_reads I h r
    obtain ⟨bs, h2, n2⟩ := das_reads I t rr
    exact ⟨_, .cons h1 h2, fun z => (List.mem_append.mp z).elim n1 n2⟩
theorem dakv_reads (I : L2.Inv X pins σ H s) {N : Addr → Prop} : ∀ {kvs : List (Key × V)} {ds : List (PyData × PyData)} {us : List (Key × Value)}, DaKv X.w X.K H N kvs ds → KV kvs us → ∃ as, PyProof.V.PairsRead s.heap keyD us ds as ∧ sysModules ∉ as
  | _, _, _, .nil, rel => by
    unfold KV at rel
    cases rel
    exact ⟨_, .nil, List.not_mem_nil⟩
  | _, _, _, @DaKv.cons _ _ _ _ k x d xs ds h t, rel => by
    unfold KV at rel
    cases rel with
    | @cons _ q _ m rr tt =>
      obtain ⟨k', u⟩ := q
      obtain ⟨e, r⟩ := rr
      have e : k = k' := e
      subst e
      obtain ⟨as, h1, n1⟩ := da_reads I h r
      obtain ⟨bs, h2, n2⟩ := dakv_reads I t tt
      exact ⟨_, .cons h1 h2, fun z => (List.mem_append.mp z).elim n1 n2⟩
theorem damk_reads (I : L2.Inv X pins σ H s) {N : Addr → Prop} : ∀ {l : List MK} {ds : List (PyData × PyData)} {es : List DictEntry}, DaMk X.w X.K H N l ds → es.length = l.length → (∀ (i : Nat) (e : DictEntry) (x : MK), es[i]? = some e → l[i]? = some x → RelV x.1 e.key ∧ RelV x.2.1 e.val ∧ e.hash = x.2.2.hash X.w ∧ x.2.2.depth ≤ 8) →
      ∃ as, ReadsAll s.heap (es.map (·.key)) (ds.map (·.1)) [] ∧ ReadsAll s.heap (es.map (·.val)) (ds.map (·.2)) as ∧ sysModules ∉ as
  | _, _, [], .nil, _, _ => ⟨_, .nil, .nil, List.not_mem_nil⟩
  | _, _, e :: es, @DaMk.cons _ _ _ _ y x k c d xs ds q h t, hl, ha => by
    obtain ⟨r1, r2, _, _⟩ := ha 0 e (y, x, k) rfl rfl
    obtain ⟨as, h1, n1⟩ := da_reads I h r2
    obtain ⟨bs, h2, h3, n2⟩ := damk_reads I t (es := es) (by simpa using hl) fun i e' x' he hx' => ha (i + 1) e' x' (by simpa using he) (by simpa using hx')
    exact ⟨_, .cons (as := []) (bs := []) (q.reads I r1) h2, .cons h1 h3, fun z => (List.mem_append.mp z).elim n1 n2⟩
  | _, _, e :: es, .nil, hl, _ => by simp at hl
  | _, _, [], .cons _ _ _, hl, _ => by simp at hl
end
end
end Pf

set_option Elab.async false
set_option maxRecDepth 100000
set_option linter.all false
set_option maxHeartbeats 4000000
/-! Puts of new keys. -/
namespace Pf
open PySem L2
theorem putK_fresh : ∀ (kvs : List (Key × V)) (k : Key) (v : V), k ∉ kvs.map Prod.fst → putK kvs k v = kvs ++ [(k, v)] := fun kvs k v h => by
  refine putK_new v ?_
  cases e : valV kvs k with
  | none => rfl
  | some z =>
    have : (kvs.any fun kv => decide (kv.1 = k)) = true := by rw [valV_any, e]; rfl
    obtain ⟨kv, hk, hd⟩ := List.any_eq_true.mp this
    exact absurd (List.mem_map.mpr ⟨kv, hk, of_decide_eq_true hd⟩) h
theorem merge_fresh : ∀ (more kvs : List (Key × V)), ((kvs ++ more).map Prod.fst).Nodup → mergeK kvs more = kvs ++ more
  | [], kvs, _ => by simp [mergeK]
  | p :: r, kvs, h => by
    have h1 : p.1 ∉ kvs.map Prod.fst := by
      rw [List.map_append, List.map_cons] at h
      have := (List.nodup_append.mp h).2.2
      intro hm
      exact this _ hm _ List.mem_cons_self rfl
    show mergeK (putK kvs p.1 p.2) r = _
    rw [putK_fresh _ _ _ h1, merge_fresh r _ (by simpa using h)]
    simp
end Pf

set_option Elab.async false
set_option maxRecDepth 100000
set_option linter.all false
set_option maxHeartbeats 4000000
set_option pp.maxSteps 300
/-! own_copy of data of any kind. -/
namespace Pf
open PySem PySem.Spec L2 PyProof.Rows
theorem room8 {A : Around} {k : Nat} (hr : Room k A) : A.units + 8 < cLine := by have := hr.units; omega
theorem room9 {A : Around} {k : Nat} (hr : Room k A) : A.units + 9 < cLine := by have := hr.units; omega
theorem room12 {A : Around} {k : Nat} (hr : Room k A) : A.units + 12 < cLine := by have := hr.units; omega
/-- a dict comprehension with keys of several kinds: S tells of the turn, the dict so far and the heap -/
theorem dcx_gen {w : World} {K : PySem.W.Frag} {J : It} {n : Nat} {G : Hp → Prop} {Y : Nat → Hp → V → Hp → Prop} (wk : Walk J n G Y) {g : TG} {tk tv : TE} {vs : List Nat} {σ : L2.St} {H1 : Hp} {D : Addr} {Qd : Hp → Prop} (hD : H1 D = none) (hn : n ≤ 1000) (d0 : Dm w K (upd H1 D (DxO D #[] 0)) D [])
    (S : Nat → List MK → Hp → Prop) (h0 : S 0 [] (upd H1 D (DxO D #[] 0))) (hG : ∀ i l H, Same H1 H → S i l H → G H) (hu : ∀ i l l' H es ep, Same H1 H → Dm w K H D l' → S i l H → S i l (upd H D (DxO D es ep)))
    (hs : ∀ i x l H H', i < n → Same H1 H → Dm w K H D l → S i l H → Y i H x H' → ∀ (K1 : V → V → Hp → Prop), (∀ y z k H2, Same H H2 → KeyAt K H2 y k → S (i + 1) (putM l (y, z, k)) H2 → K1 y z H2) →
      g x (wipe σ vs) H' fun σ2 H2 => wipe σ2 vs = wipe σ vs ∧ tk σ2 H2 fun y H4 => tv σ2 H4 fun z H5 => K1 y z H5)
    (hd : ∀ l H, Same H1 H → Dm w K H D l → S n l H → Qd H) (mono : ∀ x σ' H' (A B : L2.St → Hp → Prop), (∀ s h, A s h → B s h) → g x σ' H' A → g x σ' H' B) :
    ∃ W : Nat → Nat → Hp → Prop, (∃ m, W 0 m (upd H1 D (DxO D #[] 0))) ∧ ∀ i m H, W i m H →
      (J.stop i H ∧ Qd H) ∨ (J.go i H ∧ ∃ Nx : Hp → Prop, (∀ H', Nx H' → ∃ m', m' < m ∧ W (i + 1) m' H') ∧ ∀ x H', J.yld i H x H' → g x (wipe σ vs) H' fun σ2 H2 => wipe σ2 vs = wipe σ vs ∧ tYes σ2 H2 fun b H3 =>
        if b = true then tk σ2 H3 fun y H4 => tv σ2 H4 fun z H5 => ∃ l k, KeyAt K H5 y k ∧ Dm w K H5 D l ∧ l.length < 100000 ∧ ∀ es ep, Dm w K (upd H5 D (DxO D es ep)) D (putM l (y, z, k)) → Nx (upd H5 D (DxO D es ep)) else Nx H3) := by
  refine ⟨fun i m H => m = n - i ∧ i ≤ n ∧ ∃ l, Same H1 H ∧ l.length ≤ i ∧ Dm w K H D l ∧ S i l H, ⟨n, by simp, Nat.zero_le _, [], same_chg (Same.refl _) hD, Nat.le_refl _, d0, h0⟩, ?_⟩
  rintro i m H ⟨rfl, hi, l, e, hl, dm, hS⟩
  have q := hG i l H e hS
  by_cases hlt : i < n
  · refine .inr ⟨wk.goes i H hlt q, fun H' => ∃ l, Same H1 H' ∧ l.length ≤ i + 1 ∧ Dm w K H' D l ∧ S (i + 1) l H', fun H' p' => ⟨n - (i + 1), by omega, rfl, hlt, p'⟩, fun x H' y => ?_⟩
    refine mono _ _ _ _ _ (fun s h z => ⟨z.1, ?_⟩) (hs i x l H H' hlt e dm hS (wk.yields i H x H' hlt q y) (fun y z H5 => ∃ l k, KeyAt K H5 y k ∧ Dm w K H5 D l ∧ l.length < 100000 ∧ ∀ es ep, Dm w K (upd H5 D (DxO D es ep)) D (putM l (y, z, k)) → ∃ l, Same H1 (upd H5 D (DxO D es ep)) ∧ l.length ≤ i + 1 ∧ Dm w K (upd H5 D (DxO D es ep)) D l ∧ S (i + 1) l (upd H5 D (DxO D es ep))) fun y z k H2 e2 hk s2 => ?_)
    · exact yes_of z.2
    · refine ⟨l, k, hk, dm.same e2, by omega, fun es ep d2 => ⟨_, same_chg (e.trans e2) hD, ?_, d2, hu _ _ _ _ _ _ (e.trans e2) (dm.same e2) s2⟩⟩
      have := len_putM l (y, z, k)
      omega
  · have e' : i = n := by omega
    subst e'
    exact .inl ⟨wk.stops H q, hd l H e dm hS⟩
def spCp2 (w : World) (K : PySem.W.Frag) (n : Nat) : Sp := fun vs H Q _ => ∃ (v : V) (d : PyData), vs = [v] ∧ Da w K H (fun _ => True) v d ∧ d.depth ≤ n ∧ d.bulk ≤ 1000 ∧ ∀ y H', Same H H' → Da w K H' (fun a => H a = none) y d → Q y H'
theorem bulkKv_len : ∀ ds : List (PyData × PyData), ds.length ≤ PyData.bulkKv ds
  | [] => by rw [PyData.bulkKv]; exact Nat.zero_le _
  | (a, b) :: ds => by rw [PyData.bulkKv, List.length_cons]; have := bulkKv_len ds; omega
theorem bulkKv_at : ∀ {ds : List (PyData × PyData)} {i : Nat} {c d : PyData}, ds[i]? = some (c, d) → d.bulk ≤ PyData.bulkKv ds
  | [], _, _, _, h => by simp at h
  | (a, b) :: ds, 0, _, _, h => by simp at h; obtain ⟨rfl, rfl⟩ := h; rw [PyData.bulkKv]; omega
  | (a, b) :: ds, i + 1, _, _, h => by have := bulkKv_at (ds := ds) (i := i) (by simpa using h); rw [PyData.bulkKv]; omega
theorem valV_at : ∀ {kvs : List (Key × V)} {i : Nat} {k : Key} {v : V}, (kvs.map Prod.fst).Nodup → kvs[i]? = some (k, v) → valV kvs k = some v
  | [], _, _, _, _, h => by simp at h
  | p :: kvs, 0, k, v, _, h => by
    have e : p = (k, v) := by simpa using h
    subst e
    exact valV_pos rfl
  | p :: kvs, i + 1, k, v, nd, h => by
    rw [List.map_cons, List.nodup_cons] at nd
    have hm : (k, v) ∈ kvs := List.mem_of_getElem? (by simpa using h)
    have ne : ¬ p.1 = k := fun e => nd.1 (by rw [e]; exact List.mem_map.mpr ⟨_, hm, rfl⟩)
    obtain ⟨a, b⟩ := p
    rw [valV_neg ne]
    exact valV_at nd.2 (by simpa using h)
theorem nodup_ixs {α : Type} {xs : List α} (h : xs.Nodup) {i : Nat} {x : α} (hi : xs[i]? = some x) : x ∉ xs.take i := fun hm => by
  obtain ⟨j, hj⟩ := List.mem_iff_getElem?.mp hm
  rw [List.getElem?_take] at hj
  by_cases hji : j < i
  · rw [if_pos hji] at hj
    have := (List.getElem?_inj (List.getElem?_eq_some_iff.mp hj).1 h).mp (hj.trans hi.symm)
    omega
  · rw [if_neg hji] at hj; cases hj
/-- the copy of a dict that is locked -/
theorem copy_dict {w : World} {K : PySem.W.Frag} {spR : Sp} {n : Nat} {a : Addr} {kvs : List (Key × V)} {ds : List (PyData × PyData)} {H1 : Hp} {od : Obj} {Q' : VK} {σ : L2.St} (hR : ∀ v H (Q : VK) d, Da w K H (fun _ => True) v d → d.depth < n → d.bulk ≤ 1000 → (∀ y H', Same H H' → Da w K H' (fun a => H a = none) y d → Q y H') → spR [v] H Q C8.E0)
    (h0 : σ = [some (.ref a), none, none]) (h1 : H1 a = some (.frz od (.dK kvs))) (nd : (kvs.map Prod.fst).Nodup) (hv : DaKv w K H1 (fun _ => True) kvs ds) (hdp : PyData.depthKv ds < n) (hbk : PyData.bulkKv ds ≤ 1000)
    (q : ∀ D H', Same H1 H' → Da w K H' (fun b => H1 b = none) (.ref D) (.dict ds) → Q' (.ref D) H') : tDc (iKeys (tVar 0)) (gName 2) tYes (tVar 2) (tCall spR [] C8.E0 (tCons (tDGet (tVar 0) (tVar 2)) tNil)) [2] σ H1 Q' := by
  subst h0
  have hlen := hv.length
  have hl : kvs.length ≤ 1000 := by rw [hlen]; exact Nat.le_trans (bulkKv_len ds) hbk
  refine ⟨_, rfl, a, od, rfl, .inl ⟨_, h1, fun D hD => ?_⟩⟩
  refine dc_gen walk_keysY rel_ex hD (by omega) (fun _ l d => l _ _ d) (fun i ys H' => ys.map Prod.fst = (kvs.map Prod.fst).take i ∧ DaKv w K H' (fun b => b ≠ D ∧ H1 b = none) ys (ds.take i)) ⟨by simp, by simpa using DaKv.nil⟩ (fun i ys H' l _ => l _ _ h1) (fun i ys zs H' o l hz s => ⟨s.1, s.2.on (fun b u m h => by rw [upd_ne m.1]; exact h) (sqt_chg hz (fun _ z => by cases z) (fun _ _ z => by cases z)) fun _ m => m⟩) ?_ ?_
  · rintro i x ys H2 H2' hi l2 hD2 ⟨hk, hS⟩ ⟨rfl, hxi⟩ K1 K0 k1 k0
    obtain ⟨⟨ky, v⟩, hkv⟩ : ∃ p, kvs[i]? = some p := ⟨kvs[i], List.getElem?_eq_getElem hi⟩
    have hx : x = kV ky := by
      rw [List.getElem?_map, hkv] at hxi
      exact (Option.some.inj hxi).symm
    subst hx
    obtain ⟨d, hdi, hdv⟩ := hv.get hkv
    refine ⟨rfl, yes_of ⟨_, rfl, _, rfl, _, rfl, a, v, rfl, .inl ⟨kvs, ky, .inr ⟨od, l2 _ _ h1⟩, rfl, (valV_at nd hkv).symm⟩, ?_⟩⟩
    refine hR _ _ _ d (hdv.same l2) (by have := depthKv_at hdi; omega) (by have := bulkKv_at hdi; omega) fun y H3 e3 h3 => ?_
    refine k1 ky y H3 e3 ?_
    have hfr : ky ∉ ys.map Prod.fst := by
      rw [hk]
      exact nodup_ixs nd (by rw [List.getElem?_map, hkv]; rfl)
    rw [putK_fresh _ _ _ hfr]
    refine ⟨by rw [List.map_append, hk, take_next (by rw [List.getElem?_map, hkv]; rfl)]; rfl, ?_⟩
    rw [take_next hdi]
    exact (hS.same e3).snoc (h3.on (fun _ _ _ h => h) (fun _ _ h => h) fun b m => ⟨(fun z => absurd m (by rw [z, hD2]; exact fun y => nomatch y)), l2.free m⟩)
  · rintro ys H2 l2 hyl hD2 ⟨hk, hS⟩
    rw [hlen, List.take_length] at hS
    have hk : ys.map Prod.fst = kvs.map Prod.fst := by rw [hk, List.take_of_length_le (by rw [List.length_map]; exact Nat.le_refl _)]
    exact q D H2 l2 (.dK hD (.inl hD2) (by rw [hk]; exact nd) (hS.on (fun _ _ _ h => h) (fun _ _ h => h) fun _ m => m.2))
/-- the copy of a dict with keys of several kinds -/
theorem copy_dictM {w : World} {K : PySem.W.Frag} {spR : Sp} {n : Nat} {a : Addr} {l : List MK} {ds : List (PyData × PyData)} {H : Hp} {Q' : VK} {σ : L2.St} (hR : ∀ v H (Q : VK) d, Da w K H (fun _ => True) v d → d.depth < n → d.bulk ≤ 1000 → (∀ y H', Same H H' → Da w K H' (fun a => H a = none) y d → Q y H') → spR [v] H Q C8.E0)
    (h0 : σ = [some (.ref a), none, none]) (hM : Dm w K H a l) (hv : DaMk w K H (fun _ => True) l ds) (hdp : PyData.depthKv ds < n) (hbk : PyData.bulkKv ds ≤ 1000)
    (q : ∀ D H', Same H H' → Da w K H' (fun b => H b = none) (.ref D) (.dict ds) → Q' (.ref D) H') : tDcX w K (iKeyX w (tVar 0)) (gName 2) tYes (tVar 2) (tCall spR [] C8.E0 (tCons (tDGetM w K (tVar 0) (tVar 2)) tNil)) [2] σ H Q' := by
  subst h0
  have hlen := hv.length
  have hl : l.length ≤ 1000 := by rw [hlen]; exact Nat.le_trans (bulkKv_len ds) hbk
  obtain ⟨es, ep, g1, g2, g3, g4, g5⟩ := id hM
  refine ⟨_, rfl, a, es, ep, l, rfl, g1, g2, g3, fun D hD d0 => ?_⟩
  refine dcx_gen walk_keyX hD hl d0 (fun i ys H' => (ys.map fun x => x.2.2) = (l.map fun x => x.2.2).take i ∧ DaMk w K H' (fun b => b ≠ D ∧ H b = none) ys (ds.take i)) ⟨by simp, by simpa using DaMk.nil⟩ (fun i ys H' e _ => e _ _ g1) (fun i ys l' H' es' ep' e hz s => ⟨s.1, ?_⟩) ?_ ?_ (fun _ _ _ _ _ h z => h _ _ z)
  · obtain ⟨es2, ep2, z1, _⟩ := hz
    exact s.2.on (fun b u m h => by rw [upd_ne m.1]; exact h) (sqt_chg z1 dxO_tup dxO_frz) fun _ m => m
  · rintro i x ys H2 H2' hi l2 hD2 ⟨hk, hS⟩ ⟨rfl, hxi⟩ K1 k1
    obtain ⟨z, hz⟩ : ∃ p, l[i]? = some p := ⟨l[i], List.getElem?_eq_getElem hi⟩
    have hx : x = z.1 := by
      rw [List.getElem?_map, hz] at hxi
      exact (Option.some.inj hxi).symm
    subst hx
    obtain ⟨c, d, hdi, hkd, hdv⟩ := hv.get hz
    have hka : KeyAt K H2' z.1 z.2.2 := (g4 z (List.mem_of_getElem? hz)).same l2
    refine ⟨rfl, _, rfl, _, rfl, _, rfl, a, l, i, z, z.2.2, rfl, hM.same l2, hka, hz, rfl, ?_⟩
    refine hR _ _ _ d (hdv.same l2) (by have := depthKv_at hdi; omega) (by have := bulkKv_at hdi; omega) fun y H3 e3 h3 => ?_
    refine k1 z.1 y z.2.2 H3 e3 (hka.same e3) ?_
    have hfr : z.2.2 ∉ ys.map (fun x => x.2.2) := by
      rw [hk]
      exact nodup_ixs g3.nd (by rw [List.getElem?_map, hz]; rfl)
    rw [putM_new (x := (z.1, y, z.2.2)) hfr]
    refine ⟨by rw [List.map_append, hk, take_next (by rw [List.getElem?_map, hz]; rfl)]; rfl, ?_⟩
    rw [take_next hdi]
    refine (hS.same e3).snoc ((hkd.on (sqt_same l2)).on (sqt_same e3)) (h3.on (fun _ _ _ h => h) (fun _ _ h => h) fun b m => ⟨(fun e => ?_), l2.free m⟩)
    obtain ⟨es2, ep2, z1, _⟩ := hD2
    rw [e, z1] at m
    cases m
  · rintro ys H2 l2 hD2 ⟨hk, hS⟩
    rw [hlen, List.take_length] at hS
    exact q D H2 l2 (.dM hD hD2 (hS.on (fun _ _ _ h => h) (fun _ _ h => h) fun _ m => m.2))
section
variable {P : Program} {w : World} {K : PySem.W.Frag} {mg : Str → Option Value} {base : Heap}
theorem copy_step2 {n k : Nat} {spR : Sp} {f : Addr} {fd : FuncData} (F : Fun K "own_copy" "own_copy" s_own_copy f fd) (B : Bi mg) (C_own_copy : C8.Cal P w K mg base k "own_copy" spR [])
    (hR : ∀ v H (Q : VK) d, Da w K H (fun _ => True) v d → d.depth < n → d.bulk ≤ 1000 → (∀ y H', Same H H' → Da w K H' (fun a => H a = none) y d → Q y H') → spR [v] H Q C8.E0) : FnOk P w K mg base CX0 (k + 1) f fd ["value"] (spCp2 w K n) := by
  refine F.ok sc_own_copy (fun vs H Q E h => ?_) (fun cdv A outer s H vs Q E hr h => ?_)
  · obtain ⟨v, d, rfl, _⟩ := h
    rfl
  · obtain ⟨v, d, rfl, hv, hd, hb, k⟩ := h
    have hu := hu_of hr
    refine ⟨_, (pss_cons (ps_if (pt_val (pe_callB (cr_or call_isi call_isM) (by rfl) B.isinstance (by decide +kernel) (pa_cons (pv 0) (pa_cons (pe_bltn (v := .ty "list") (u := .type "list") (by rfl) B.list (by decide +kernel) rfl) pa_nil))))
        (pss_one (ps_ret (pe_lc (own := [("part", 1)]) (g := gName 1) (by rfl) sc_own_copy.nd (pi_list (pv 0)) (blkOk_by (own := [("part", 1)]) (N := ["value", "part", "key"]) (sc := defScope s_own_copy) (by decide +kernel)) (fun _ _ _ _ _ => (pg_name (i := 1) sc_own_copy.nd rfl (Or.inl rfl))) (fun _ _ _ _ _ => pts_nil) (fun _ _ _ _ _ => (C8.pe_c C_own_copy hr (Nat.le_refl _) (by rfl) (pa_cons (pv 1) pa_nil))))))
        pss_nil)
      (pss_cons (ps_if (pt_val (pe_callB (cr_or call_isi call_isM) (by rfl) B.isinstance (by decide +kernel) (pa_cons (pv 0) (pa_cons (pe_bltn (v := .ty "tuple") (u := .type "tuple") (by rfl) B.tuple (by decide +kernel) rfl) pa_nil))))
        (pss_one (ps_ret (pe_callTy call_tuple_of (by rfl) B.tuple (by decide +kernel) (pa_cons (pe_lc (own := [("part", 1)]) (g := gName 1) (by rfl) sc_own_copy.nd (pi_tup (pv 0)) (blkOk_by (own := [("part", 1)]) (N := ["value", "part", "key"]) (sc := defScope s_own_copy) (by decide +kernel)) (fun _ _ _ _ _ => (pg_name (i := 1) sc_own_copy.nd rfl (Or.inl rfl))) (fun _ _ _ _ _ => pts_nil) (fun _ _ _ _ _ => (C8.pe_c C_own_copy hr (Nat.le_refl _) (by rfl) (pa_cons (pv 1) pa_nil)))) pa_nil))))
        pss_nil)
      (pss_cons (ps_if (pt_val (pe_callB (cr_or call_isi call_isM) (by rfl) B.isinstance (by decide +kernel) (pa_cons (pv 0) (pa_cons (pe_bltn (v := .ty "dict") (u := .type "dict") (by rfl) B.dict (by decide +kernel) rfl) pa_nil))))
        (pss_one (ps_ret (pe_or2 (pe_lock (pe_dc (own := [("key", 2)]) (g := gName 2) (by rfl) sc_own_copy.nd (pi_keys (pv 0)) (blkOk_by (own := [("key", 2)]) (N := ["value", "part", "key"]) (sc := defScope s_own_copy) (by decide +kernel)) (fun _ _ _ _ _ => (pg_name (i := 2) sc_own_copy.nd rfl (Or.inl rfl))) (fun _ _ _ _ _ => pts_nil) (fun _ _ _ _ _ => (pv 2)) (fun _ _ _ _ _ => (C8.pe_c C_own_copy hr (Nat.le_refl _) (by rfl) (pa_cons (pe_dget hu (pv 0) (pv 2) (fun _ _ => rfl)) pa_nil))))) (pe_or2 (pe_dc (own := [("key", 2)]) (g := gName 2) (by rfl) sc_own_copy.nd (pi_keys (pv 0)) (blkOk_by (own := [("key", 2)]) (N := ["value", "part", "key"]) (sc := defScope s_own_copy) (by decide +kernel)) (fun _ _ _ _ _ => (pg_name (i := 2) sc_own_copy.nd rfl (Or.inl rfl))) (fun _ _ _ _ _ => pts_nil) (fun _ _ _ _ _ => (pv 2)) (fun _ _ _ _ _ => (C8.pe_c C_own_copy hr (Nat.le_refl _) (by rfl) (pa_cons (pe_dget hu (pv 0) (pv 2) (fun _ _ => rfl)) pa_nil)))) (pe_dcX (own := [("key", 2)]) (g := gName 2) (room8 hr) (by rfl) sc_own_copy.nd (pi_keyX (pv 0)) (blkOk_by (own := [("key", 2)]) (N := ["value", "part", "key"]) (sc := defScope s_own_copy) (by decide +kernel)) (fun _ _ _ _ _ => (pg_name (i := 2) sc_own_copy.nd rfl (Or.inl rfl))) (fun _ _ _ _ _ => pts_nil) (fun _ _ _ _ _ => (pv 2)) (fun _ _ _ _ _ => (C8.pe_c C_own_copy hr (Nat.le_refl _) (by rfl) (pa_cons (show PE _ _ (tDGetM w K (tVar 0) (tVar 2)) from pe_dgetM (room9 hr) (pv 0) (pv 2) (fun _ _ => rfl)) pa_nil))))))))
        pss_nil)
      (pss_one (ps_ret (pv 0)))))), ?_⟩
    cases hv with
    | non => exact ⟨_, rfl, .inl ⟨_, _, _, _, false, rfl, .ty "list", .base (.non), kit_ty (by decide +kernel), false, rfl, iteF ⟨_, rfl, .inl ⟨_, _, _, _, false, rfl, .ty "tuple", .base (.non), kit_ty (by decide +kernel), false, rfl, iteF ⟨_, rfl, .inl ⟨_, _, _, _, false, rfl, .ty "dict", .base (.non), kit_ty (by decide +kernel), false, rfl, iteF ⟨_, rfl, k _ H (Same.refl H) (.non)⟩⟩⟩⟩⟩⟩⟩
    | bl b => exact ⟨_, rfl, .inl ⟨_, _, _, _, false, rfl, .ty "list", .base (.bl b), kit_ty (by decide +kernel), false, rfl, iteF ⟨_, rfl, .inl ⟨_, _, _, _, false, rfl, .ty "tuple", .base (.bl b), kit_ty (by decide +kernel), false, rfl, iteF ⟨_, rfl, .inl ⟨_, _, _, _, false, rfl, .ty "dict", .base (.bl b), kit_ty (by decide +kernel), false, rfl, iteF ⟨_, rfl, k _ H (Same.refl H) (.bl b)⟩⟩⟩⟩⟩⟩⟩
    | int i => exact ⟨_, rfl, .inl ⟨_, _, _, _, false, rfl, .ty "list", .base (.int i), kit_ty (by decide +kernel), false, rfl, iteF ⟨_, rfl, .inl ⟨_, _, _, _, false, rfl, .ty "tuple", .base (.int i), kit_ty (by decide +kernel), false, rfl, iteF ⟨_, rfl, .inl ⟨_, _, _, _, false, rfl, .ty "dict", .base (.int i), kit_ty (by decide +kernel), false, rfl, iteF ⟨_, rfl, k _ H (Same.refl H) (.int i)⟩⟩⟩⟩⟩⟩⟩
    | str x => exact ⟨_, rfl, .inl ⟨_, _, _, _, false, rfl, .ty "list", .base (.str x), kit_ty (by decide +kernel), false, rfl, iteF ⟨_, rfl, .inl ⟨_, _, _, _, false, rfl, .ty "tuple", .base (.str x), kit_ty (by decide +kernel), false, rfl, iteF ⟨_, rfl, .inl ⟨_, _, _, _, false, rfl, .ty "dict", .base (.str x), kit_ty (by decide +kernel), false, rfl, iteF ⟨_, rfl, k _ H (Same.refl H) (.str x)⟩⟩⟩⟩⟩⟩⟩
    | @lst a xs ds _ ha hx =>
      refine ⟨_, rfl, .inl ⟨_, _, _, _, true, rfl, .ty "list", sql_ty ha, kit_ty (by decide +kernel), true, rfl, iteT ?_⟩⟩
      have hlen := hx.length
      have hbl : ds.length ≤ 1000 := Nat.le_trans (bulk_len ds) (by rw [PyData.bulk] at hb; omega)
      refine ⟨_, rfl, a, rfl, ⟨_, ha⟩, fun D hD => ?_⟩
      refine lc_gen walk_list rel_ex hD (by omega) (fun i ys H' => DaAll w K H' (fun a => a ≠ D ∧ H a = none) ys (ds.take i)) .nil (fun i ys H' l _ => sql_on (fun o h => l _ o h) ha) (fun i ys zs H' o _ hz s => s.on (fun b u m h => by rw [upd_ne m.1]; exact h) (sqt_chg hz (fun _ z => by cases z) (fun _ _ z => by cases z)) fun _ m => m) ?_ ?_
      · rintro i x ys H2 H2' hi l2 hD2 hs ⟨rfl, hxi⟩ K1 K0 k1 k0
        obtain ⟨d, hdi, hdv⟩ := hx.get hxi
        refine ⟨rfl, yes_of ⟨_, rfl, ?_⟩⟩
        refine hR _ _ _ d (hdv.same l2) (by have := depth_at hdi; rw [PyData.depth] at hd; omega) (by have := bulk_at hdi; rw [PyData.bulk] at hb; omega) fun y H3 e3 h3 => k1 y H3 e3 ?_
        rw [take_next hdi]
        exact (hs.same e3).snoc (h3.on (fun _ _ _ h => h) (fun _ _ h => h) fun b m => ⟨(fun z => absurd m (by rw [z, hD2]; exact fun y => nomatch y)), l2.free m⟩)
      · rintro ys H2 l2 hyl hD2 hs
        rw [hlen, List.take_length] at hs
        exact k _ _ l2 (.lst hD (SqL.of hD2) (hs.on (fun _ _ _ h => h) (fun _ _ h => h) fun _ m => m.2))
    | @tup a xs ds _ ha hx =>
      refine ⟨_, rfl, .inl ⟨_, _, _, _, false, rfl, .ty "list", sqt_ty ha, kit_ty (by decide +kernel), false, rfl, iteF ⟨_, rfl, .inl ⟨_, _, _, _, true, rfl, .ty "tuple", sqt_ty ha, kit_ty (by decide +kernel), true, rfl, iteT ?_⟩⟩⟩⟩
      have hlen := hx.length
      have hbl : ds.length ≤ 1000 := Nat.le_trans (bulk_len ds) (by rw [PyData.bulk] at hb; omega)
      refine ⟨_, rfl, a, rfl, ⟨_, ha⟩, fun D hD => ?_⟩
      refine lc_gen walk_tup rel_ex hD (by omega) (fun i ys H' => DaAll w K H' (fun a => a ≠ D ∧ H a = none) ys (ds.take i)) .nil (fun i ys H' l _ => sqt_on (fun o h => l _ o h) ha) (fun i ys zs H' o _ hz s => s.on (fun b u m h => by rw [upd_ne m.1]; exact h) (sqt_chg hz (fun _ z => by cases z) (fun _ _ z => by cases z)) fun _ m => m) ?_ ?_
      · rintro i x ys H2 H2' hi l2 hD2 hs ⟨rfl, hxi⟩ K1 K0 k1 k0
        obtain ⟨d, hdi, hdv⟩ := hx.get hxi
        refine ⟨rfl, yes_of ⟨_, rfl, ?_⟩⟩
        refine hR _ _ _ d (hdv.same l2) (by have := depth_at hdi; rw [PyData.depth] at hd; omega) (by have := bulk_at hdi; rw [PyData.bulk] at hb; omega) fun y H3 e3 h3 => k1 y H3 e3 ?_
        rw [take_next hdi]
        exact (hs.same e3).snoc (h3.on (fun _ _ _ h => h) (fun _ _ h => h) fun b m => ⟨(fun z => absurd m (by rw [z, hD2]; exact fun y => nomatch y)), l2.free m⟩)
      · rintro ys H2 l2 hyl hD2 hs
        rw [hlen, List.take_length] at hs
        refine ⟨D, ys, rfl, .inl ⟨SqL.of hD2, fun t ht => ?_⟩⟩
        exact k _ _ (l2.trans (same_new ht)) (.tup (l2.free ht) (SqT.of upd_same) ((hs.same (same_new ht)).on (fun _ _ _ h => h) (fun _ _ h => h) fun _ m => m.2))
    | @dK a kvs ds _ ha nd hx =>
      have hdp : PyData.depthKv ds < n := by rw [PyData.depth] at hd; omega
      have hbk : PyData.bulkKv ds ≤ 1000 := by rw [PyData.bulk] at hb; exact hb
      rcases ha with ha | ⟨od, ha⟩
      · refine ⟨_, rfl, .inl ⟨_, _, _, _, false, rfl, .ty "list", .base (.dK ha), kit_ty (by decide +kernel), false, rfl, iteF ⟨_, rfl, .inl ⟨_, _, _, _, false, rfl, .ty "tuple", .base (.dK ha), kit_ty (by decide +kernel), false, rfl, iteF ⟨_, rfl, .inl ⟨_, _, _, _, true, rfl, .ty "dict", .base (.dK ha), kit_ty (by decide +kernel), true, rfl, iteT ?_⟩⟩⟩⟩⟩⟩
        refine .inl ⟨a, _, ha, trivial, fun od => ?_⟩
        refine copy_dict hR rfl upd_same nd (hx.lock ha) hdp hbk fun D H' e hy => ?_
        obtain ⟨ha2, e2⟩ := lock_back ha e
        refine ⟨ha2, k _ _ e2 ?_⟩
        have free : ∀ {b : Addr}, upd H a (.frz od (.dK kvs)) b = none → b ≠ a ∧ H b = none := fun {b} hb => by
          have : b ≠ a := fun z => by rw [z, upd_same] at hb; cases hb
          exact ⟨this, by rw [upd_ne this] at hb; exact hb⟩
        exact hy.on (fun b o m h => by rw [upd_ne (free m).1]; exact h) (fun b xs h => by
          rcases h with (h | ⟨ob, h⟩) | h
          · exact .inl (.inl (by rw [upd_ne (ne_of h ha2 (by intro z; cases z))]; exact h))
          · exact .inl (.inr ⟨ob, by rw [upd_ne (ne_of h ha2 (by intro z; cases z))]; exact h⟩)
          · exact .inr h) fun b m => (free m).2
      · refine ⟨_, rfl, .inl ⟨_, _, _, _, false, rfl, .ty "list", .fDict ha, kit_ty (by decide +kernel), false, rfl, iteF ⟨_, rfl, .inl ⟨_, _, _, _, false, rfl, .ty "tuple", .fDict ha, kit_ty (by decide +kernel), false, rfl, iteF ⟨_, rfl, .inl ⟨_, _, _, _, true, rfl, .ty "dict", .fDict ha, kit_ty (by decide +kernel), true, rfl, iteT ?_⟩⟩⟩⟩⟩⟩
        exact .inr (.inl (copy_dict hR rfl ha nd hx hdp hbk fun D H' e hy => k _ _ e hy))
    | @dM a l ds _ ha hx =>
      have hdp : PyData.depthKv ds < n := by rw [PyData.depth] at hd; omega
      have hbk : PyData.bulkKv ds ≤ 1000 := by rw [PyData.bulk] at hb; exact hb
      obtain ⟨es, ep, g1, _⟩ := id ha
      refine ⟨_, rfl, .inr ⟨a, es, ep, _, _, false, rfl, .ty "list", g1, kit_ty (by decide +kernel), false, rfl, iteF ⟨_, rfl, .inr ⟨a, es, ep, _, _, false, rfl, .ty "tuple", g1, kit_ty (by decide +kernel), false, rfl, iteF ⟨_, rfl, .inr ⟨a, es, ep, _, _, true, rfl, .ty "dict", g1, kit_ty (by decide +kernel), true, rfl, iteT ?_⟩⟩⟩⟩⟩⟩
      exact .inr (.inr (copy_dictM hR rfl ha hx hdp hbk fun D H' e hy => k _ _ e hy))
theorem ok_copy2 {f : Addr} {fd : FuncData} (F : Fun K "own_copy" "own_copy" s_own_copy f fd) (B : Bi mg) (hm : mg "own_copy" = some (.ref f)) (hb : Binds K fd ["value"] []) : ∀ n, FnOk P w K mg base CX0 (n + 1) f fd ["value"] (spCp2 w K n)
  | 0 => copy_step2 (spR := fun _ _ _ _ => False) F B ⟨f, fd, ["value"], [], ⟨fun _ _ _ _ h => h.elim, fun _ _ _ _ _ _ _ _ _ _ _ _ _ h => h.elim⟩, hm, F.kp, hb, .nil⟩ fun _ _ _ d _ h => absurd h (Nat.not_lt_zero _)
  | n + 1 => copy_step2 F B ⟨f, fd, ["value"], [], ok_copy2 F B hm hb n, hm, F.kp, hb, .nil⟩ fun v H Q d hv hd hz q => ⟨v, d, rfl, hv, by omega, hz, q⟩
end
end Pf

set_option Elab.async false
set_option maxRecDepth 100000
set_option linter.all false
set_option maxHeartbeats 4000000
/-! The classes of errors. -/
namespace Pf
open PySem PySem.Spec L2 PyProof.Rows NdefX PySem.HandSPX
structure Cs where
  InvalidFunctions : Addr
  InvalidFunction : Addr
  InvalidNames : Addr
  InvalidStatement : Addr
  InvalidChoice : Addr
  InvalidPlaces : Addr
  InvalidPaper : Addr
  InvalidPrices : Addr
  InvalidProfile : Addr
  InvalidText : Addr
  InvalidStates : Addr
  NotClosed : Addr
  Faulty : Addr
  UnknownFunction : Addr
  UnknownSpot : Addr
  UnknownName : Addr
  OutOfRange : Addr
  TooMany : Addr
  InTrial : Addr
/-- the classes and their kinds -/
def Cs.tab (c : Cs) : List (Addr × Int) := [(c.InvalidFunctions, 0), (c.InvalidFunction, 0), (c.InvalidNames, 0), (c.InvalidStatement, 0), (c.InvalidChoice, 0), (c.InvalidPlaces, 0), (c.InvalidPaper, 0), (c.InvalidPrices, 0), (c.InvalidProfile, 0), (c.InvalidText, 0), (c.InvalidStates, 0), (c.NotClosed, 0), (c.Faulty, 0), (c.UnknownFunction, 1), (c.UnknownSpot, 1), (c.UnknownName, 1), (c.OutOfRange, 2), (c.TooMany, 3), (c.InTrial, 4)]
def Cs.tab18 (c : Cs) : List (Addr × Int) := [(c.InvalidFunctions, 0), (c.InvalidFunction, 0), (c.InvalidNames, 0), (c.InvalidStatement, 0), (c.InvalidChoice, 0), (c.InvalidPlaces, 0), (c.InvalidPaper, 0), (c.InvalidPrices, 0), (c.InvalidProfile, 0), (c.InvalidText, 0), (c.InvalidStates, 0), (c.NotClosed, 0), (c.Faulty, 0), (c.UnknownFunction, 1), (c.UnknownSpot, 1), (c.UnknownName, 1), (c.OutOfRange, 2), (c.TooMany, 3)]
def Cs.all (c : Cs) : List Addr := [c.InvalidFunctions, c.InvalidFunction, c.InvalidNames, c.InvalidStatement, c.InvalidChoice, c.InvalidPlaces, c.InvalidPaper, c.InvalidPrices, c.InvalidProfile, c.InvalidText, c.InvalidStates, c.NotClosed, c.Faulty, c.UnknownFunction, c.UnknownSpot, c.UnknownName, c.OutOfRange, c.TooMany, c.InTrial]
structure Gx (mg : Str → Option Value) (c : Cs) : Prop where
  InvalidFunctions : ∃ u, mg "InvalidFunctions" = some u ∧ RelV (.ref c.InvalidFunctions) u
  InvalidFunction : ∃ u, mg "InvalidFunction" = some u ∧ RelV (.ref c.InvalidFunction) u
  InvalidNames : ∃ u, mg "InvalidNames" = some u ∧ RelV (.ref c.InvalidNames) u
  InvalidStatement : ∃ u, mg "InvalidStatement" = some u ∧ RelV (.ref c.InvalidStatement) u
  InvalidChoice : ∃ u, mg "InvalidChoice" = some u ∧ RelV (.ref c.InvalidChoice) u
  InvalidPlaces : ∃ u, mg "InvalidPlaces" = some u ∧ RelV (.ref c.InvalidPlaces) u
  InvalidPaper : ∃ u, mg "InvalidPaper" = some u ∧ RelV (.ref c.InvalidPaper) u
  InvalidPrices : ∃ u, mg "InvalidPrices" = some u ∧ RelV (.ref c.InvalidPrices) u
  InvalidProfile : ∃ u, mg "InvalidProfile" = some u ∧ RelV (.ref c.InvalidProfile) u
  InvalidText : ∃ u, mg "InvalidText" = some u ∧ RelV (.ref c.InvalidText) u
  InvalidStates : ∃ u, mg "InvalidStates" = some u ∧ RelV (.ref c.InvalidStates) u
  NotClosed : ∃ u, mg "NotClosed" = some u ∧ RelV (.ref c.NotClosed) u
  Faulty : ∃ u, mg "Faulty" = some u ∧ RelV (.ref c.Faulty) u
  UnknownFunction : ∃ u, mg "UnknownFunction" = some u ∧ RelV (.ref c.UnknownFunction) u
  UnknownSpot : ∃ u, mg "UnknownSpot" = some u ∧ RelV (.ref c.UnknownSpot) u
  UnknownName : ∃ u, mg "UnknownName" = some u ∧ RelV (.ref c.UnknownName) u
  OutOfRange : ∃ u, mg "OutOfRange" = some u ∧ RelV (.ref c.OutOfRange) u
  TooMany : ∃ u, mg "TooMany" = some u ∧ RelV (.ref c.TooMany) u
  InTrial : ∃ u, mg "InTrial" = some u ∧ RelV (.ref c.InTrial) u
structure Bex (mg : Str → Option Value) : Prop where
  ValueError : mg "ValueError" = none
  KeyError : mg "KeyError" = none
  IndexError : mg "IndexError" = none
  OverflowError : mg "OverflowError" = none
  RuntimeError : mg "RuntimeError" = none
def refFree : List Value → Bool
  | [] => true
  | .ref _ :: _ => false
  | _ :: l => refFree l
theorem refFree_no : ∀ {l : List Value}, refFree l = true → ∀ D, l.contains (.ref D) = false
  | [], _, _ => rfl
  | v :: l, h, D => by
    cases v with
    | ref a => cases h
    | _ => rw [List.contains_cons, refFree_no (l := l) h D]; rfl
def bits (bm : List Value) : List Bool := [bm.contains (.type "ValueError"), bm.contains (.type "KeyError"), bm.contains (.type "IndexError"), bm.contains (.type "OverflowError"), bm.contains (.type "RuntimeError")]
def kindsOf (bm : List Value) : List Int := ((List.range 5).filter fun k => (bits bm).getD k false).map fun (k : Nat) => (k : Int)
structure Tc (K : PySem.W.Frag) (c : Cs) : Prop where
  kd : ∀ x ∈ c.tab, ∃ bm, IsC K x.1 bm ∧ refFree bm = true ∧ kindsOf bm = [x.2]
  nd : c.all.Nodup
theorem Tc.is {K : PySem.W.Frag} {c : Cs} (T : Tc K c) {D : Addr} (h : D ∈ c.all) : ∃ bm, IsC K D bm := by
  have : c.all = c.tab.map Prod.fst := rfl
  rw [this] at h
  obtain ⟨x, hx, rfl⟩ := List.mem_map.mp h
  obtain ⟨bm, h1, _⟩ := T.kd x hx
  exact ⟨bm, h1⟩
abbrev bmV : List Value := [.type "ValueError", .type "Exception", .type "BaseException", .type "object"]
abbrev bmK : List Value := [.type "KeyError", .type "LookupError", .type "Exception", .type "BaseException", .type "object"]
abbrev bmI : List Value := [.type "IndexError", .type "LookupError", .type "Exception", .type "BaseException", .type "object"]
abbrev bmO : List Value := [.type "OverflowError", .type "ArithmeticError", .type "Exception", .type "BaseException", .type "object"]
abbrev bmR : List Value := [.type "RuntimeError", .type "Exception", .type "BaseException", .type "object"]
theorem tail_V : TailB bmV "ValueError" := ⟨by decide +kernel, by decide +kernel, by decide +kernel⟩
theorem pass_V (self : Value) : refuseLoop self "__setattr__" bmV = pure () := by kernel_rfl
theorem osam_V (C : Addr) : OsaM (.ref C :: bmV) := ⟨rfl, by rw [List.contains_cons, show bmV.contains (.type "object") = true by decide +kernel, Bool.or_true], fun self => by rw [refuseLoop_ref]; exact pass_V self⟩
theorem tail_K : TailB bmK "LookupError" := ⟨by decide +kernel, by decide +kernel, by decide +kernel⟩
theorem pass_K (self : Value) : refuseLoop self "__setattr__" bmK = pure () := by kernel_rfl
theorem osam_K (C : Addr) : OsaM (.ref C :: bmK) := ⟨rfl, by rw [List.contains_cons, show bmK.contains (.type "object") = true by decide +kernel, Bool.or_true], fun self => by rw [refuseLoop_ref]; exact pass_K self⟩
theorem tail_I : TailB bmI "IndexError" := ⟨by decide +kernel, by decide +kernel, by decide +kernel⟩
theorem pass_I (self : Value) : refuseLoop self "__setattr__" bmI = pure () := by kernel_rfl
theorem osam_I (C : Addr) : OsaM (.ref C :: bmI) := ⟨rfl, by rw [List.contains_cons, show bmI.contains (.type "object") = true by decide +kernel, Bool.or_true], fun self => by rw [refuseLoop_ref]; exact pass_I self⟩
theorem tail_O : TailB bmO "OverflowError" := ⟨by decide +kernel, by decide +kernel, by decide +kernel⟩
theorem pass_O (self : Value) : refuseLoop self "__setattr__" bmO = pure () := by kernel_rfl
theorem osam_O (C : Addr) : OsaM (.ref C :: bmO) := ⟨rfl, by rw [List.contains_cons, show bmO.contains (.type "object") = true by decide +kernel, Bool.or_true], fun self => by rw [refuseLoop_ref]; exact pass_O self⟩
theorem kinds_V : kindsOf bmV = [0] := by decide +kernel
theorem free_V : refFree bmV = true := rfl
theorem kinds_K : kindsOf bmK = [1] := by decide +kernel
theorem free_K : refFree bmK = true := rfl
theorem kinds_I : kindsOf bmI = [2] := by decide +kernel
theorem free_I : refFree bmI = true := rfl
theorem kinds_O : kindsOf bmO = [3] := by decide +kernel
theorem free_O : refFree bmO = true := rfl
theorem kinds_R : kindsOf bmR = [4] := by decide +kernel
theorem free_R : refFree bmR = true := rfl
end Pf

set_option Elab.async false
set_option maxRecDepth 100000
set_option linter.all false
set_option maxHeartbeats 4000000
set_option pp.maxSteps 150
/-! _law_kinds, _law_own -/
namespace Pf
open PySem PySem.Spec L2 PyProof.Rows NdefX PySem.HandSPX
def spKinds (K : PySem.W.Frag) : Sp := fun vs H Q _ => ∃ (a C : Addr) (bm : List Value), vs = [.ref a] ∧ ExV H a C ∧ IsC K C bm ∧ ∀ p H', Same H H' → H p = none → H' p = some (.lst ((kindsOf bm).map V.int)) → Q (.ref p) H'
def spOwn (K : PySem.W.Frag) (c : Cs) : Sp := fun vs H Q _ => ∃ (a C : Addr) (bm : List Value), vs = [.ref a] ∧ ExV H a C ∧ IsC K C bm ∧ refFree bm = true ∧ C ∈ c.all ∧ ∀ H', Same H H' → Q (.int 1) H'
def pickK (b : List Bool) : V → Option V
  | .int i => if b.getD i.toNat false = true then some (.int i) else none
  | _ => none
def pickT : V → Option V
  | .bl true => some (.bl true)
  | _ => none
theorem kinds_list (bm : List Value) : ((List.range 5).map fun (i : Nat) => V.int (0 + (i : Int))).filterMap (pickK (bits bm)) = (kindsOf bm).map V.int := by
  unfold kindsOf
  generalize bits bm = b
  generalize List.range 5 = l
  induction l with
  | nil => rfl
  | cons j l ih =>
    rw [List.map_cons, List.filterMap_cons, List.filter_cons, ih]
    have hto : (0 + (j : Int)).toNat = j := by omega
    have h1 : pickK b (V.int (0 + (j : Int))) = if b.getD j false = true then some (V.int (j : Int)) else none := by
      show (if b.getD (0 + (j : Int)).toNat false = true then some (V.int (0 + (j : Int))) else none) = _
      rw [hto, Int.zero_add]
    rw [h1]
    cases hb : b.getD j false <;> simp
theorem own_count (C : Addr) : ∀ l : List Addr, ((l.map fun D => V.bl (decide (C = D))).filterMap pickT).length = l.count C
  | [] => rfl
  | D :: l => by
    rw [List.map_cons, List.count_cons, List.filterMap_cons]
    by_cases e : C = D
    · subst e
      rw [decide_eq_true rfl]
      show (V.bl true :: _).length = _
      rw [List.length_cons, own_count C l]
      simp
    · have e' : (D == C) = false := by simpa using fun z => e z.symm
      rw [decide_eq_false e, e']
      show (List.filterMap pickT _).length = _
      rw [own_count C l]
      simp
section
variable {P : Program} {w : World} {K : PySem.W.Frag} {mg : Str → Option Value} {base : Heap}
abbrev s_L_kinds : Stmt := top 35
theorem sc_L_kinds : FnScope ["_law_error", "_law_some", "_law_k"] ["_law_error"] (defScope s_L_kinds) := ⟨rfl, rfl, rfl, by decide +kernel, rfl, by decide +kernel, by decide +kernel⟩
theorem ok_kinds {f : Addr} {fd : FuncData} (F : Fun K "_law_kinds" "_law_kinds" s_L_kinds f fd) (B : Bi mg) (Be : Bex mg) : FnOk P w K mg base CX0 1 f fd ["_law_error"] (spKinds K) := by
  refine F.ok sc_L_kinds (fun vs H Q E h => ?_) (fun cdv A outer s H vs Q E hr h => ?_)
  · obtain ⟨a, C, bm, rfl, _⟩ := h
    rfl
  · obtain ⟨a, C, bm, rfl, hx, T, k⟩ := h
    have hu := hu_of hr
    refine ⟨_, (pss_cons (ps_set (i := 1) sc_L_kinds.nd rfl (Or.inr rfl) (pe_lst (pa_cons (pe_callB (show CallR _ (.builtin "isinstance") (rIsV K) from call_isV) (by rfl) B.isinstance (by decide +kernel) (pa_cons (pv 0) (pa_cons (pe_bltn (v := .ty "ValueError") (u := .type "ValueError") (by rfl) Be.ValueError (by decide +kernel) rfl) pa_nil))) (pa_cons (pe_callB (show CallR _ (.builtin "isinstance") (rIsV K) from call_isV) (by rfl) B.isinstance (by decide +kernel) (pa_cons (pv 0) (pa_cons (pe_bltn (v := .ty "KeyError") (u := .type "KeyError") (by rfl) Be.KeyError (by decide +kernel) rfl) pa_nil))) (pa_cons (pe_callB (show CallR _ (.builtin "isinstance") (rIsV K) from call_isV) (by rfl) B.isinstance (by decide +kernel) (pa_cons (pv 0) (pa_cons (pe_bltn (v := .ty "IndexError") (u := .type "IndexError") (by rfl) Be.IndexError (by decide +kernel) rfl) pa_nil))) pa_nil)))))
      (pss_cons (ps_set (i := 1) sc_L_kinds.nd rfl (Or.inr rfl) (pe_op op_cat (pv 1) (pe_lst (pa_cons (pe_callB (show CallR _ (.builtin "isinstance") (rIsV K) from call_isV) (by rfl) B.isinstance (by decide +kernel) (pa_cons (pv 0) (pa_cons (pe_bltn (v := .ty "OverflowError") (u := .type "OverflowError") (by rfl) Be.OverflowError (by decide +kernel) rfl) pa_nil))) (pa_cons (pe_callB (show CallR _ (.builtin "isinstance") (rIsV K) from call_isV) (by rfl) B.isinstance (by decide +kernel) (pa_cons (pv 0) (pa_cons (pe_bltn (v := .ty "RuntimeError") (u := .type "RuntimeError") (by rfl) Be.RuntimeError (by decide +kernel) rfl) pa_nil))) pa_nil)))))
      (pss_one (ps_ret (pe_lc (own := [("_law_k", 2)]) (g := gName 2) (by rfl) sc_L_kinds.nd (pi_range1 (by rfl) B.range (pa_cons (pe_callB call_len_seq (by rfl) B.len PySem.boot_len (pa_cons (pv 1) pa_nil)) pa_nil)) (blkOk_by (own := [("_law_k", 2)]) (N := ["_law_error", "_law_some", "_law_k"]) (sc := defScope s_L_kinds) (by decide +kernel)) (fun _ _ _ _ _ => (pg_name (i := 2) sc_L_kinds.nd rfl (Or.inl rfl))) (fun _ _ _ _ _ => (pts_one (pt_val (pe_ix (show IxR _ (rIxL K) from ix_list) (pv 1) (pv 2) (fun _ _ => rfl))))) (fun _ _ _ _ _ => (pv 2))))))), ?_⟩
    have c3 : ∀ {i j : Nat}, i + j ≤ 100 → i + j ≤ sizeLine := fun h => sz_le (by omega)
    refine ⟨_, rfl, a, C, bm, _, _, _, rfl, .ty "ValueError", hx, T, T.tyOne (by decide +kernel), _, rfl, a, C, bm, _, _, _, rfl, .ty "KeyError", hx, T, T.tyOne (by decide +kernel), _, rfl, a, C, bm, _, _, _, rfl, .ty "IndexError", hx, T, T.tyOne (by decide +kernel), by show 3 ≤ sizeLine; decide, fun p1 h1 => ?_⟩
    have e1 := same_new (o := .lst [V.bl (bm.contains (.type "ValueError")), V.bl (bm.contains (.type "KeyError")), V.bl (bm.contains (.type "IndexError"))]) h1
    refine ⟨_, rfl, _, rfl, a, C, bm, _, _, _, rfl, .ty "OverflowError", hx.same e1, T, T.tyOne (by decide +kernel), _, rfl, a, C, bm, _, _, _, rfl, .ty "RuntimeError", hx.same e1, T, T.tyOne (by decide +kernel), by show 2 ≤ sizeLine; decide, fun p2 h2 => ?_⟩
    have e2 := same_new (o := .lst [V.bl (bm.contains (.type "OverflowError")), V.bl (bm.contains (.type "RuntimeError"))]) h2
    refine ⟨p1, p2, _, _, rfl, rfl, e2 _ _ upd_same, upd_same, by show 5 ≤ sizeLine; decide, fun p3 h3 => ?_⟩
    have e3 := same_new (o := .lst ((bits bm).map V.bl)) h3
    have e0 : Same H _ := (e1.trans e2).trans e3
    refine ⟨_, rfl, p3, (bits bm).map V.bl, rfl, .inl (SqL.of upd_same), _, rfl, by show -2 ^ 62 ≤ (5 : Int); decide, by show (5 : Int) < 2 ^ 62; decide, fun D hD => ?_⟩
    refine lc_map walk_rng (by simp) hD (by show 5 ≤ 100000; decide) (pickK (bits bm)) (fun _ _ => trivial) ?_ ?_
    · intro x hx' H2 l2 K1 K0 k1 k0
      obtain ⟨j, hj, rfl⟩ := List.mem_map.mp hx'
      have hj : j < 5 := List.mem_range.mp hj
      have hat : atI ((bits bm).map V.bl) (0 + (j : Int)) = some (.bl ((bits bm).getD j false)) := by
        rw [Int.zero_add]
        refine atI_nat ?_
        rw [List.getElem?_map, List.getElem?_eq_getElem (show j < (bits bm).length from hj)]
        simp [List.getD, List.getElem?_eq_getElem (show j < (bits bm).length from hj)]
      have hto : (0 + (j : Int)).toNat = j := by omega
      refine ⟨rfl, _, rfl, _, rfl, p3, (bits bm).map V.bl, _, _, rfl, rfl, SqL.of (l2 _ _ upd_same), hat, _, rfl, ?_⟩
      refine ite2 (fun h => ⟨_, rfl, k1 _ _ ?_ (Same.refl _)⟩) (fun h => k0 _ ?_ (Same.refl _))
      · show (if (bits bm).getD (0 + (j : Int)).toNat false = true then _ else _) = _
        rw [hto, if_pos h]
      · show (if (bits bm).getD (0 + (j : Int)).toNat false = true then _ else _) = _
        rw [hto, if_neg h]
    · intro H2 l2 h2'
      refine k D H2 (e0.trans l2) (e0.free hD) ?_
      rw [h2']
      congr 2
      exact kinds_list bm
abbrev s_L_own : Stmt := top 36
theorem sc_L_own : FnScope ["_law_error", "_law_some", "_law_told"] ["_law_error"] (defScope s_L_own) := ⟨rfl, rfl, rfl, by decide +kernel, rfl, by decide +kernel, by decide +kernel⟩
theorem ok_own {c : Cs} (G : Gx mg c) (TC : Tc K c) {f : Addr} {fd : FuncData} (F : Fun K "_law_own" "_law_own" s_L_own f fd) (B : Bi mg) : FnOk P w K mg base CX0 1 f fd ["_law_error"] (spOwn K c) := by
  refine F.ok sc_L_own (fun vs H Q E h => ?_) (fun cdv A outer s H vs Q E hr h => ?_)
  · obtain ⟨a, C, bm, rfl, _⟩ := h
    rfl
  · obtain ⟨a, C, bm, rfl, hx, T, hf, hC, k⟩ := h
    have hu := hu_of hr
    refine ⟨_, (pss_cons (ps_set (i := 1) sc_L_own.nd rfl (Or.inl rfl) (pe_lst (pa_cons (pe_callB (show CallR _ (.builtin "isinstance") (rIsV K) from call_isV) (by rfl) B.isinstance (by decide +kernel) (pa_cons (pv 0) (pa_cons (C8.pe_gc (by rfl) G.InvalidFunctions) pa_nil))) (pa_cons (pe_callB (show CallR _ (.builtin "isinstance") (rIsV K) from call_isV) (by rfl) B.isinstance (by decide +kernel) (pa_cons (pv 0) (pa_cons (C8.pe_gc (by rfl) G.InvalidFunction) pa_nil))) (pa_cons (pe_callB (show CallR _ (.builtin "isinstance") (rIsV K) from call_isV) (by rfl) B.isinstance (by decide +kernel) (pa_cons (pv 0) (pa_cons (C8.pe_gc (by rfl) G.InvalidNames) pa_nil))) pa_nil)))))
      (pss_cons (ps_set (i := 1) sc_L_own.nd rfl (Or.inl rfl) (pe_op op_cat (pv 1) (pe_lst (pa_cons (pe_callB (show CallR _ (.builtin "isinstance") (rIsV K) from call_isV) (by rfl) B.isinstance (by decide +kernel) (pa_cons (pv 0) (pa_cons (C8.pe_gc (by rfl) G.InvalidStatement) pa_nil))) (pa_cons (pe_callB (show CallR _ (.builtin "isinstance") (rIsV K) from call_isV) (by rfl) B.isinstance (by decide +kernel) (pa_cons (pv 0) (pa_cons (C8.pe_gc (by rfl) G.InvalidChoice) pa_nil))) pa_nil)))))
      (pss_cons (ps_set (i := 1) sc_L_own.nd rfl (Or.inl rfl) (pe_op op_cat (pv 1) (pe_lst (pa_cons (pe_callB (show CallR _ (.builtin "isinstance") (rIsV K) from call_isV) (by rfl) B.isinstance (by decide +kernel) (pa_cons (pv 0) (pa_cons (C8.pe_gc (by rfl) G.InvalidPlaces) pa_nil))) (pa_cons (pe_callB (show CallR _ (.builtin "isinstance") (rIsV K) from call_isV) (by rfl) B.isinstance (by decide +kernel) (pa_cons (pv 0) (pa_cons (C8.pe_gc (by rfl) G.InvalidPaper) pa_nil))) (pa_cons (pe_callB (show CallR _ (.builtin "isinstance") (rIsV K) from call_isV) (by rfl) B.isinstance (by decide +kernel) (pa_cons (pv 0) (pa_cons (C8.pe_gc (by rfl) G.InvalidPrices) pa_nil))) pa_nil))))))
      (pss_cons (ps_set (i := 1) sc_L_own.nd rfl (Or.inl rfl) (pe_op op_cat (pv 1) (pe_lst (pa_cons (pe_callB (show CallR _ (.builtin "isinstance") (rIsV K) from call_isV) (by rfl) B.isinstance (by decide +kernel) (pa_cons (pv 0) (pa_cons (C8.pe_gc (by rfl) G.InvalidProfile) pa_nil))) (pa_cons (pe_callB (show CallR _ (.builtin "isinstance") (rIsV K) from call_isV) (by rfl) B.isinstance (by decide +kernel) (pa_cons (pv 0) (pa_cons (C8.pe_gc (by rfl) G.InvalidText) pa_nil))) (pa_cons (pe_callB (show CallR _ (.builtin "isinstance") (rIsV K) from call_isV) (by rfl) B.isinstance (by decide +kernel) (pa_cons (pv 0) (pa_cons (C8.pe_gc (by rfl) G.InvalidStates) pa_nil))) pa_nil))))))
      (pss_cons (ps_set (i := 1) sc_L_own.nd rfl (Or.inl rfl) (pe_op op_cat (pv 1) (pe_lst (pa_cons (pe_callB (show CallR _ (.builtin "isinstance") (rIsV K) from call_isV) (by rfl) B.isinstance (by decide +kernel) (pa_cons (pv 0) (pa_cons (C8.pe_gc (by rfl) G.NotClosed) pa_nil))) pa_nil))))
      (pss_cons (ps_set (i := 1) sc_L_own.nd rfl (Or.inl rfl) (pe_op op_cat (pv 1) (pe_lst (pa_cons (pe_callB (show CallR _ (.builtin "isinstance") (rIsV K) from call_isV) (by rfl) B.isinstance (by decide +kernel) (pa_cons (pv 0) (pa_cons (C8.pe_gc (by rfl) G.Faulty) pa_nil))) (pa_cons (pe_callB (show CallR _ (.builtin "isinstance") (rIsV K) from call_isV) (by rfl) B.isinstance (by decide +kernel) (pa_cons (pv 0) (pa_cons (C8.pe_gc (by rfl) G.UnknownFunction) pa_nil))) (pa_cons (pe_callB (show CallR _ (.builtin "isinstance") (rIsV K) from call_isV) (by rfl) B.isinstance (by decide +kernel) (pa_cons (pv 0) (pa_cons (C8.pe_gc (by rfl) G.UnknownSpot) pa_nil))) pa_nil))))))
      (pss_cons (ps_set (i := 1) sc_L_own.nd rfl (Or.inl rfl) (pe_op op_cat (pv 1) (pe_lst (pa_cons (pe_callB (show CallR _ (.builtin "isinstance") (rIsV K) from call_isV) (by rfl) B.isinstance (by decide +kernel) (pa_cons (pv 0) (pa_cons (C8.pe_gc (by rfl) G.UnknownName) pa_nil))) (pa_cons (pe_callB (show CallR _ (.builtin "isinstance") (rIsV K) from call_isV) (by rfl) B.isinstance (by decide +kernel) (pa_cons (pv 0) (pa_cons (C8.pe_gc (by rfl) G.OutOfRange) pa_nil))) (pa_cons (pe_callB (show CallR _ (.builtin "isinstance") (rIsV K) from call_isV) (by rfl) B.isinstance (by decide +kernel) (pa_cons (pv 0) (pa_cons (C8.pe_gc (by rfl) G.TooMany) pa_nil))) pa_nil))))))
      (pss_one (ps_ret (pe_callB call_len_seq (by rfl) B.len PySem.boot_len (pa_cons (pe_lc (own := [("_law_told", 2)]) (g := gName 2) (by rfl) sc_L_own.nd (pi_list (pe_op op_cat (pv 1) (pe_lst (pa_cons (pe_callB (show CallR _ (.builtin "isinstance") (rIsV K) from call_isV) (by rfl) B.isinstance (by decide +kernel) (pa_cons (pv 0) (pa_cons (C8.pe_gc (by rfl) G.InTrial) pa_nil))) pa_nil)))) (blkOk_by (own := [("_law_told", 2)]) (N := ["_law_error", "_law_some", "_law_told"]) (sc := defScope s_L_own) (by decide +kernel)) (fun _ _ _ _ _ => (pg_name (i := 2) sc_L_own.nd rfl (Or.inl rfl))) (fun _ _ _ _ _ => (pts_one (pt_val (pv 2)))) (fun _ _ _ _ _ => (pv 2))) pa_nil))))))))))), ?_⟩
    have c3 : ∀ {i j : Nat}, i + j ≤ 100 → i + j ≤ sizeLine := fun h => sz_le (by omega)
    obtain ⟨_, is_InvalidFunctions⟩ := TC.is (show c.InvalidFunctions ∈ c.all by simp [Cs.all])
    obtain ⟨_, is_InvalidFunction⟩ := TC.is (show c.InvalidFunction ∈ c.all by simp [Cs.all])
    obtain ⟨_, is_InvalidNames⟩ := TC.is (show c.InvalidNames ∈ c.all by simp [Cs.all])
    obtain ⟨_, is_InvalidStatement⟩ := TC.is (show c.InvalidStatement ∈ c.all by simp [Cs.all])
    obtain ⟨_, is_InvalidChoice⟩ := TC.is (show c.InvalidChoice ∈ c.all by simp [Cs.all])
    obtain ⟨_, is_InvalidPlaces⟩ := TC.is (show c.InvalidPlaces ∈ c.all by simp [Cs.all])
    obtain ⟨_, is_InvalidPaper⟩ := TC.is (show c.InvalidPaper ∈ c.all by simp [Cs.all])
    obtain ⟨_, is_InvalidPrices⟩ := TC.is (show c.InvalidPrices ∈ c.all by simp [Cs.all])
    obtain ⟨_, is_InvalidProfile⟩ := TC.is (show c.InvalidProfile ∈ c.all by simp [Cs.all])
    obtain ⟨_, is_InvalidText⟩ := TC.is (show c.InvalidText ∈ c.all by simp [Cs.all])
    obtain ⟨_, is_InvalidStates⟩ := TC.is (show c.InvalidStates ∈ c.all by simp [Cs.all])
    obtain ⟨_, is_NotClosed⟩ := TC.is (show c.NotClosed ∈ c.all by simp [Cs.all])
    obtain ⟨_, is_Faulty⟩ := TC.is (show c.Faulty ∈ c.all by simp [Cs.all])
    obtain ⟨_, is_UnknownFunction⟩ := TC.is (show c.UnknownFunction ∈ c.all by simp [Cs.all])
    obtain ⟨_, is_UnknownSpot⟩ := TC.is (show c.UnknownSpot ∈ c.all by simp [Cs.all])
    obtain ⟨_, is_UnknownName⟩ := TC.is (show c.UnknownName ∈ c.all by simp [Cs.all])
    obtain ⟨_, is_OutOfRange⟩ := TC.is (show c.OutOfRange ∈ c.all by simp [Cs.all])
    obtain ⟨_, is_TooMany⟩ := TC.is (show c.TooMany ∈ c.all by simp [Cs.all])
    obtain ⟨_, is_InTrial⟩ := TC.is (show c.InTrial ∈ c.all by simp [Cs.all])
    have E0 : Same H H := Same.refl H
    refine ⟨_, rfl, a, C, bm, _, _, _, rfl, .own _, hx.same E0, T, T.own (is_InvalidFunctions) (refFree_no hf _), _, rfl, a, C, bm, _, _, _, rfl, .own _, hx.same E0, T, T.own (is_InvalidFunction) (refFree_no hf _), _, rfl, a, C, bm, _, _, _, rfl, .own _, hx.same E0, T, T.own (is_InvalidNames) (refFree_no hf _), by show 3 ≤ sizeLine; decide, fun p0 h0 => ?_⟩
    have E1 : Same H (upd H p0 (.lst [V.bl (decide (C = c.InvalidFunctions)), V.bl (decide (C = c.InvalidFunction)), V.bl (decide (C = c.InvalidNames))])) := same_new h0
    have q0 : upd H p0 (.lst [V.bl (decide (C = c.InvalidFunctions)), V.bl (decide (C = c.InvalidFunction)), V.bl (decide (C = c.InvalidNames))]) p0 = some (.lst [V.bl (decide (C = c.InvalidFunctions)), V.bl (decide (C = c.InvalidFunction)), V.bl (decide (C = c.InvalidNames))]) := upd_same
    generalize upd H p0 (.lst [V.bl (decide (C = c.InvalidFunctions)), V.bl (decide (C = c.InvalidFunction)), V.bl (decide (C = c.InvalidNames))]) = H1 at E1 q0 ⊢
    refine ⟨_, rfl, _, rfl, a, C, bm, _, _, _, rfl, .own _, hx.same E1, T, T.own (is_InvalidStatement) (refFree_no hf _), _, rfl, a, C, bm, _, _, _, rfl, .own _, hx.same E1, T, T.own (is_InvalidChoice) (refFree_no hf _), by show 2 ≤ sizeLine; decide, fun p1 h1 => ?_⟩
    have F2 : Same H1 (upd H1 p1 (.lst [V.bl (decide (C = c.InvalidStatement)), V.bl (decide (C = c.InvalidChoice))])) := same_new h1
    have q1 : upd H1 p1 (.lst [V.bl (decide (C = c.InvalidStatement)), V.bl (decide (C = c.InvalidChoice))]) p1 = some (.lst [V.bl (decide (C = c.InvalidStatement)), V.bl (decide (C = c.InvalidChoice))]) := upd_same
    generalize upd H1 p1 (.lst [V.bl (decide (C = c.InvalidStatement)), V.bl (decide (C = c.InvalidChoice))]) = H2 at F2 q1 ⊢
    have E2 : Same H H2 := E1.trans F2
    refine ⟨p0, p1, _, _, rfl, rfl, F2 _ _ q0, q1, by show 5 ≤ sizeLine; decide, fun p2 h2 => ?_⟩
    have E3 : Same H (upd H2 p2 (.lst ([V.bl (decide (C = c.InvalidFunctions)), V.bl (decide (C = c.InvalidFunction)), V.bl (decide (C = c.InvalidNames))] ++ [V.bl (decide (C = c.InvalidStatement)), V.bl (decide (C = c.InvalidChoice))]))) := E2.trans (same_new h2)
    have q2 : upd H2 p2 (.lst ([V.bl (decide (C = c.InvalidFunctions)), V.bl (decide (C = c.InvalidFunction)), V.bl (decide (C = c.InvalidNames))] ++ [V.bl (decide (C = c.InvalidStatement)), V.bl (decide (C = c.InvalidChoice))])) p2 = some (.lst ([V.bl (decide (C = c.InvalidFunctions)), V.bl (decide (C = c.InvalidFunction)), V.bl (decide (C = c.InvalidNames))] ++ [V.bl (decide (C = c.InvalidStatement)), V.bl (decide (C = c.InvalidChoice))])) := upd_same
    generalize upd H2 p2 (.lst ([V.bl (decide (C = c.InvalidFunctions)), V.bl (decide (C = c.InvalidFunction)), V.bl (decide (C = c.InvalidNames))] ++ [V.bl (decide (C = c.InvalidStatement)), V.bl (decide (C = c.InvalidChoice))])) = H3 at E3 q2 ⊢
    refine ⟨_, rfl, _, rfl, a, C, bm, _, _, _, rfl, .own _, hx.same E3, T, T.own (is_InvalidPlaces) (refFree_no hf _), _, rfl, a, C, bm, _, _, _, rfl, .own _, hx.same E3, T, T.own (is_InvalidPaper) (refFree_no hf _), _, rfl, a, C, bm, _, _, _, rfl, .own _, hx.same E3, T, T.own (is_InvalidPrices) (refFree_no hf _), by show 3 ≤ sizeLine; decide, fun p3 h3 => ?_⟩
    have F4 : Same H3 (upd H3 p3 (.lst [V.bl (decide (C = c.InvalidPlaces)), V.bl (decide (C = c.InvalidPaper)), V.bl (decide (C = c.InvalidPrices))])) := same_new h3
    have q3 : upd H3 p3 (.lst [V.bl (decide (C = c.InvalidPlaces)), V.bl (decide (C = c.InvalidPaper)), V.bl (decide (C = c.InvalidPrices))]) p3 = some (.lst [V.bl (decide (C = c.InvalidPlaces)), V.bl (decide (C = c.InvalidPaper)), V.bl (decide (C = c.InvalidPrices))]) := upd_same
    generalize upd H3 p3 (.lst [V.bl (decide (C = c.InvalidPlaces)), V.bl (decide (C = c.InvalidPaper)), V.bl (decide (C = c.InvalidPrices))]) = H4 at F4 q3 ⊢
    have E4 : Same H H4 := E3.trans F4
    refine ⟨p2, p3, _, _, rfl, rfl, F4 _ _ q2, q3, by show 8 ≤ sizeLine; decide, fun p4 h4 => ?_⟩
    have E5 : Same H (upd H4 p4 (.lst (([V.bl (decide (C = c.InvalidFunctions)), V.bl (decide (C = c.InvalidFunction)), V.bl (decide (C = c.InvalidNames))] ++ [V.bl (decide (C = c.InvalidStatement)), V.bl (decide (C = c.InvalidChoice))]) ++ [V.bl (decide (C = c.InvalidPlaces)), V.bl (decide (C = c.InvalidPaper)), V.bl (decide (C = c.InvalidPrices))]))) := E4.trans (same_new h4)
    have q4 : upd H4 p4 (.lst (([V.bl (decide (C = c.InvalidFunctions)), V.bl (decide (C = c.InvalidFunction)), V.bl (decide (C = c.InvalidNames))] ++ [V.bl (decide (C = c.InvalidStatement)), V.bl (decide (C = c.InvalidChoice))]) ++ [V.bl (decide (C = c.InvalidPlaces)), V.bl (decide (C = c.InvalidPaper)), V.bl (decide (C = c.InvalidPrices))])) p4 = some (.lst (([V.bl (decide (C = c.InvalidFunctions)), V.bl (decide (C = c.InvalidFunction)), V.bl (decide (C = c.InvalidNames))] ++ [V.bl (decide (C = c.InvalidStatement)), V.bl (decide (C = c.InvalidChoice))]) ++ [V.bl (decide (C = c.InvalidPlaces)), V.bl (decide (C = c.InvalidPaper)), V.bl (decide (C = c.InvalidPrices))])) := upd_same
    generalize upd H4 p4 (.lst (([V.bl (decide (C = c.InvalidFunctions)), V.bl (decide (C = c.InvalidFunction)), V.bl (decide (C = c.InvalidNames))] ++ [V.bl (decide (C = c.InvalidStatement)), V.bl (decide (C = c.InvalidChoice))]) ++ [V.bl (decide (C = c.InvalidPlaces)), V.bl (decide (C = c.InvalidPaper)), V.bl (decide (C = c.InvalidPrices))])) = H5 at E5 q4 ⊢
    refine ⟨_, rfl, _, rfl, a, C, bm, _, _, _, rfl, .own _, hx.same E5, T, T.own (is_InvalidProfile) (refFree_no hf _), _, rfl, a, C, bm, _, _, _, rfl, .own _, hx.same E5, T, T.own (is_InvalidText) (refFree_no hf _), _, rfl, a, C, bm, _, _, _, rfl, .own _, hx.same E5, T, T.own (is_InvalidStates) (refFree_no hf _), by show 3 ≤ sizeLine; decide, fun p5 h5 => ?_⟩
    have F6 : Same H5 (upd H5 p5 (.lst [V.bl (decide (C = c.InvalidProfile)), V.bl (decide (C = c.InvalidText)), V.bl (decide (C = c.InvalidStates))])) := same_new h5
    have q5 : upd H5 p5 (.lst [V.bl (decide (C = c.InvalidProfile)), V.bl (decide (C = c.InvalidText)), V.bl (decide (C = c.InvalidStates))]) p5 = some (.lst [V.bl (decide (C = c.InvalidProfile)), V.bl (decide (C = c.InvalidText)), V.bl (decide (C = c.InvalidStates))]) := upd_same
    generalize upd H5 p5 (.lst [V.bl (decide (C = c.InvalidProfile)), V.bl (decide (C = c.InvalidText)), V.bl (decide (C = c.InvalidStates))]) = H6 at F6 q5 ⊢
    have E6 : Same H H6 := E5.trans F6
    refine ⟨p4, p5, _, _, rfl, rfl, F6 _ _ q4, q5, by show 11 ≤ sizeLine; decide, fun p6 h6 => ?_⟩
    have E7 : Same H (upd H6 p6 (.lst ((([V.bl (decide (C = c.InvalidFunctions)), V.bl (decide (C = c.InvalidFunction)), V.bl (decide (C = c.InvalidNames))] ++ [V.bl (decide (C = c.InvalidStatement)), V.bl (decide (C = c.InvalidChoice))]) ++ [V.bl (decide (C = c.InvalidPlaces)), V.bl (decide (C = c.InvalidPaper)), V.bl (decide (C = c.InvalidPrices))]) ++ [V.bl (decide (C = c.InvalidProfile)), V.bl (decide (C = c.InvalidText)), V.bl (decide (C = c.InvalidStates))]))) := E6.trans (same_new h6)
    have q6 : upd H6 p6 (.lst ((([V.bl (decide (C = c.InvalidFunctions)), V.bl (decide (C = c.InvalidFunction)), V.bl (decide (C = c.InvalidNames))] ++ [V.bl (decide (C = c.InvalidStatement)), V.bl (decide (C = c.InvalidChoice))]) ++ [V.bl (decide (C = c.InvalidPlaces)), V.bl (decide (C = c.InvalidPaper)), V.bl (decide (C = c.InvalidPrices))]) ++ [V.bl (decide (C = c.InvalidProfile)), V.bl (decide (C = c.InvalidText)), V.bl (decide (C = c.InvalidStates))])) p6 = some (.lst ((([V.bl (decide (C = c.InvalidFunctions)), V.bl (decide (C = c.InvalidFunction)), V.bl (decide (C = c.InvalidNames))] ++ [V.bl (decide (C = c.InvalidStatement)), V.bl (decide (C = c.InvalidChoice))]) ++ [V.bl (decide (C = c.InvalidPlaces)), V.bl (decide (C = c.InvalidPaper)), V.bl (decide (C = c.InvalidPrices))]) ++ [V.bl (decide (C = c.InvalidProfile)), V.bl (decide (C = c.InvalidText)), V.bl (decide (C = c.InvalidStates))])) := upd_same
    generalize upd H6 p6 (.lst ((([V.bl (decide (C = c.InvalidFunctions)), V.bl (decide (C = c.InvalidFunction)), V.bl (decide (C = c.InvalidNames))] ++ [V.bl (decide (C = c.InvalidStatement)), V.bl (decide (C = c.InvalidChoice))]) ++ [V.bl (decide (C = c.InvalidPlaces)), V.bl (decide (C = c.InvalidPaper)), V.bl (decide (C = c.InvalidPrices))]) ++ [V.bl (decide (C = c.InvalidProfile)), V.bl (decide (C = c.InvalidText)), V.bl (decide (C = c.InvalidStates))])) = H7 at E7 q6 ⊢
    refine ⟨_, rfl, _, rfl, a, C, bm, _, _, _, rfl, .own _, hx.same E7, T, T.own (is_NotClosed) (refFree_no hf _), by show 1 ≤ sizeLine; decide, fun p7 h7 => ?_⟩
    have F8 : Same H7 (upd H7 p7 (.lst [V.bl (decide (C = c.NotClosed))])) := same_new h7
    have q7 : upd H7 p7 (.lst [V.bl (decide (C = c.NotClosed))]) p7 = some (.lst [V.bl (decide (C = c.NotClosed))]) := upd_same
    generalize upd H7 p7 (.lst [V.bl (decide (C = c.NotClosed))]) = H8 at F8 q7 ⊢
    have E8 : Same H H8 := E7.trans F8
    refine ⟨p6, p7, _, _, rfl, rfl, F8 _ _ q6, q7, by show 12 ≤ sizeLine; decide, fun p8 h8 => ?_⟩
    have E9 : Same H (upd H8 p8 (.lst (((([V.bl (decide (C = c.InvalidFunctions)), V.bl (decide (C = c.InvalidFunction)), V.bl (decide (C = c.InvalidNames))] ++ [V.bl (decide (C = c.InvalidStatement)), V.bl (decide (C = c.InvalidChoice))]) ++ [V.bl (decide (C = c.InvalidPlaces)), V.bl (decide (C = c.InvalidPaper)), V.bl (decide (C = c.InvalidPrices))]) ++ [V.bl (decide (C = c.InvalidProfile)), V.bl (decide (C = c.InvalidText)), V.bl (decide (C = c.InvalidStates))]) ++ [V.bl (decide (C = c.NotClosed))]))) := E8.trans (same_new h8)
    have q8 : upd H8 p8 (.lst (((([V.bl (decide (C = c.InvalidFunctions)), V.bl (decide (C = c.InvalidFunction)), V.bl (decide (C = c.InvalidNames))] ++ [V.bl (decide (C = c.InvalidStatement)), V.bl (decide (C = c.InvalidChoice))]) ++ [V.bl (decide (C = c.InvalidPlaces)), V.bl (decide (C = c.InvalidPaper)), V.bl (decide (C = c.InvalidPrices))]) ++ [V.bl (decide (C = c.InvalidProfile)), V.bl (decide (C = c.InvalidText)), V.bl (decide (C = c.InvalidStates))]) ++ [V.bl (decide (C = c.NotClosed))])) p8 = some (.lst (((([V.bl (decide (C = c.InvalidFunctions)), V.bl (decide (C = c.InvalidFunction)), V.bl (decide (C = c.InvalidNames))] ++ [V.bl (decide (C = c.InvalidStatement)), V.bl (decide (C = c.InvalidChoice))]) ++ [V.bl (decide (C = c.InvalidPlaces)), V.bl (decide (C = c.InvalidPaper)), V.bl (decide (C = c.InvalidPrices))]) ++ [V.bl (decide (C = c.InvalidProfile)), V.bl (decide (C = c.InvalidText)), V.bl (decide (C = c.InvalidStates))]) ++ [V.bl (decide (C = c.NotClosed))])) := upd_same
    generalize upd H8 p8 (.lst (((([V.bl (decide (C = c.InvalidFunctions)), V.bl (decide (C = c.InvalidFunction)), V.bl (decide (C = c.InvalidNames))] ++ [V.bl (decide (C = c.InvalidStatement)), V.bl (decide (C = c.InvalidChoice))]) ++ [V.bl (decide (C = c.InvalidPlaces)), V.bl (decide (C = c.InvalidPaper)), V.bl (decide (C = c.InvalidPrices))]) ++ [V.bl (decide (C = c.InvalidProfile)), V.bl (decide (C = c.InvalidText)), V.bl (decide (C = c.InvalidStates))]) ++ [V.bl (decide (C = c.NotClosed))])) = H9 at E9 q8 ⊢
    refine ⟨_, rfl, _, rfl, a, C, bm, _, _, _, rfl, .own _, hx.same E9, T, T.own (is_Faulty) (refFree_no hf _), _, rfl, a, C, bm, _, _, _, rfl, .own _, hx.same E9, T, T.own (is_UnknownFunction) (refFree_no hf _), _, rfl, a, C, bm, _, _, _, rfl, .own _, hx.same E9, T, T.own (is_UnknownSpot) (refFree_no hf _), by show 3 ≤ sizeLine; decide, fun p9 h9 => ?_⟩
    have F10 : Same H9 (upd H9 p9 (.lst [V.bl (decide (C = c.Faulty)), V.bl (decide (C = c.UnknownFunction)), V.bl (decide (C = c.UnknownSpot))])) := same_new h9
    have q9 : upd H9 p9 (.lst [V.bl (decide (C = c.Faulty)), V.bl (decide (C = c.UnknownFunction)), V.bl (decide (C = c.UnknownSpot))]) p9 = some (.lst [V.bl (decide (C = c.Faulty)), V.bl (decide (C = c.UnknownFunction)), V.bl (decide (C = c.UnknownSpot))]) := upd_same
    generalize upd H9 p9 (.lst [V.bl (decide (C = c.Faulty)), V.bl (decide (C = c.UnknownFunction)), V.bl (decide (C = c.UnknownSpot))]) = H10 at F10 q9 ⊢
    have E10 : Same H H10 := E9.trans F10
    refine ⟨p8, p9, _, _, rfl, rfl, F10 _ _ q8, q9, by show 15 ≤ sizeLine; decide, fun p10 h10 => ?_⟩
    have E11 : Same H (upd H10 p10 (.lst ((((([V.bl (decide (C = c.InvalidFunctions)), V.bl (decide (C = c.InvalidFunction)), V.bl (decide (C = c.InvalidNames))] ++ [V.bl (decide (C = c.InvalidStatement)), V.bl (decide (C = c.InvalidChoice))]) ++ [V.bl (decide (C = c.InvalidPlaces)), V.bl (decide (C = c.InvalidPaper)), V.bl (decide (C = c.InvalidPrices))]) ++ [V.bl (decide (C = c.InvalidProfile)), V.bl (decide (C = c.InvalidText)), V.bl (decide (C = c.InvalidStates))]) ++ [V.bl (decide (C = c.NotClosed))]) ++ [V.bl (decide (C = c.Faulty)), V.bl (decide (C = c.UnknownFunction)), V.bl (decide (C = c.UnknownSpot))]))) := E10.trans (same_new h10)
    have q10 : upd H10 p10 (.lst ((((([V.bl (decide (C = c.InvalidFunctions)), V.bl (decide (C = c.InvalidFunction)), V.bl (decide (C = c.InvalidNames))] ++ [V.bl (decide (C = c.InvalidStatement)), V.bl (decide (C = c.InvalidChoice))]) ++ [V.bl (decide (C = c.InvalidPlaces)), V.bl (decide (C = c.InvalidPaper)), V.bl (decide (C = c.InvalidPrices))]) ++ [V.bl (decide (C = c.InvalidProfile)), V.bl (decide (C = c.InvalidText)), V.bl (decide (C = c.InvalidStates))]) ++ [V.bl (decide (C = c.NotClosed))]) ++ [V.bl (decide (C = c.Faulty)), V.bl (decide (C = c.UnknownFunction)), V.bl (decide (C = c.UnknownSpot))])) p10 = some (.lst ((((([V.bl (decide (C = c.InvalidFunctions)), V.bl (decide (C = c.InvalidFunction)), V.bl (decide (C = c.InvalidNames))] ++ [V.bl (decide (C = c.InvalidStatement)), V.bl (decide (C = c.InvalidChoice))]) ++ [V.bl (decide (C = c.InvalidPlaces)), V.bl (decide (C = c.InvalidPaper)), V.bl (decide (C = c.InvalidPrices))]) ++ [V.bl (decide (C = c.InvalidProfile)), V.bl (decide (C = c.InvalidText)), V.bl (decide (C = c.InvalidStates))]) ++ [V.bl (decide (C = c.NotClosed))]) ++ [V.bl (decide (C = c.Faulty)), V.bl (decide (C = c.UnknownFunction)), V.bl (decide (C = c.UnknownSpot))])) := upd_same
    generalize upd H10 p10 (.lst ((((([V.bl (decide (C = c.InvalidFunctions)), V.bl (decide (C = c.InvalidFunction)), V.bl (decide (C = c.InvalidNames))] ++ [V.bl (decide (C = c.InvalidStatement)), V.bl (decide (C = c.InvalidChoice))]) ++ [V.bl (decide (C = c.InvalidPlaces)), V.bl (decide (C = c.InvalidPaper)), V.bl (decide (C = c.InvalidPrices))]) ++ [V.bl (decide (C = c.InvalidProfile)), V.bl (decide (C = c.InvalidText)), V.bl (decide (C = c.InvalidStates))]) ++ [V.bl (decide (C = c.NotClosed))]) ++ [V.bl (decide (C = c.Faulty)), V.bl (decide (C = c.UnknownFunction)), V.bl (decide (C = c.UnknownSpot))])) = H11 at E11 q10 ⊢
    refine ⟨_, rfl, _, rfl, a, C, bm, _, _, _, rfl, .own _, hx.same E11, T, T.own (is_UnknownName) (refFree_no hf _), _, rfl, a, C, bm, _, _, _, rfl, .own _, hx.same E11, T, T.own (is_OutOfRange) (refFree_no hf _), _, rfl, a, C, bm, _, _, _, rfl, .own _, hx.same E11, T, T.own (is_TooMany) (refFree_no hf _), by show 3 ≤ sizeLine; decide, fun p11 h11 => ?_⟩
    have F12 : Same H11 (upd H11 p11 (.lst [V.bl (decide (C = c.UnknownName)), V.bl (decide (C = c.OutOfRange)), V.bl (decide (C = c.TooMany))])) := same_new h11
    have q11 : upd H11 p11 (.lst [V.bl (decide (C = c.UnknownName)), V.bl (decide (C = c.OutOfRange)), V.bl (decide (C = c.TooMany))]) p11 = some (.lst [V.bl (decide (C = c.UnknownName)), V.bl (decide (C = c.OutOfRange)), V.bl (decide (C = c.TooMany))]) := upd_same
    generalize upd H11 p11 (.lst [V.bl (decide (C = c.UnknownName)), V.bl (decide (C = c.OutOfRange)), V.bl (decide (C = c.TooMany))]) = H12 at F12 q11 ⊢
    have E12 : Same H H12 := E11.trans F12
    refine ⟨p10, p11, _, _, rfl, rfl, F12 _ _ q10, q11, by show 18 ≤ sizeLine; decide, fun p12 h12 => ?_⟩
    have E13 : Same H (upd H12 p12 (.lst (((((([V.bl (decide (C = c.InvalidFunctions)), V.bl (decide (C = c.InvalidFunction)), V.bl (decide (C = c.InvalidNames))] ++ [V.bl (decide (C = c.InvalidStatement)), V.bl (decide (C = c.InvalidChoice))]) ++ [V.bl (decide (C = c.InvalidPlaces)), V.bl (decide (C = c.InvalidPaper)), V.bl (decide (C = c.InvalidPrices))]) ++ [V.bl (decide (C = c.InvalidProfile)), V.bl (decide (C = c.InvalidText)), V.bl (decide (C = c.InvalidStates))]) ++ [V.bl (decide (C = c.NotClosed))]) ++ [V.bl (decide (C = c.Faulty)), V.bl (decide (C = c.UnknownFunction)), V.bl (decide (C = c.UnknownSpot))]) ++ [V.bl (decide (C = c.UnknownName)), V.bl (decide (C = c.OutOfRange)), V.bl (decide (C = c.TooMany))]))) := E12.trans (same_new h12)
    have q12 : upd H12 p12 (.lst (((((([V.bl (decide (C = c.InvalidFunctions)), V.bl (decide (C = c.InvalidFunction)), V.bl (decide (C = c.InvalidNames))] ++ [V.bl (decide (C = c.InvalidStatement)), V.bl (decide (C = c.InvalidChoice))]) ++ [V.bl (decide (C = c.InvalidPlaces)), V.bl (decide (C = c.InvalidPaper)), V.bl (decide (C = c.InvalidPrices))]) ++ [V.bl (decide (C = c.InvalidProfile)), V.bl (decide (C = c.InvalidText)), V.bl (decide (C = c.InvalidStates))]) ++ [V.bl (decide (C = c.NotClosed))]) ++ [V.bl (decide (C = c.Faulty)), V.bl (decide (C = c.UnknownFunction)), V.bl (decide (C = c.UnknownSpot))]) ++ [V.bl (decide (C = c.UnknownName)), V.bl (decide (C = c.OutOfRange)), V.bl (decide (C = c.TooMany))])) p12 = some (.lst (((((([V.bl (decide (C = c.InvalidFunctions)), V.bl (decide (C = c.InvalidFunction)), V.bl (decide (C = c.InvalidNames))] ++ [V.bl (decide (C = c.InvalidStatement)), V.bl (decide (C = c.InvalidChoice))]) ++ [V.bl (decide (C = c.InvalidPlaces)), V.bl (decide (C = c.InvalidPaper)), V.bl (decide (C = c.InvalidPrices))]) ++ [V.bl (decide (C = c.InvalidProfile)), V.bl (decide (C = c.InvalidText)), V.bl (decide (C = c.InvalidStates))]) ++ [V.bl (decide (C = c.NotClosed))]) ++ [V.bl (decide (C = c.Faulty)), V.bl (decide (C = c.UnknownFunction)), V.bl (decide (C = c.UnknownSpot))]) ++ [V.bl (decide (C = c.UnknownName)), V.bl (decide (C = c.OutOfRange)), V.bl (decide (C = c.TooMany))])) := upd_same
    generalize upd H12 p12 (.lst (((((([V.bl (decide (C = c.InvalidFunctions)), V.bl (decide (C = c.InvalidFunction)), V.bl (decide (C = c.InvalidNames))] ++ [V.bl (decide (C = c.InvalidStatement)), V.bl (decide (C = c.InvalidChoice))]) ++ [V.bl (decide (C = c.InvalidPlaces)), V.bl (decide (C = c.InvalidPaper)), V.bl (decide (C = c.InvalidPrices))]) ++ [V.bl (decide (C = c.InvalidProfile)), V.bl (decide (C = c.InvalidText)), V.bl (decide (C = c.InvalidStates))]) ++ [V.bl (decide (C = c.NotClosed))]) ++ [V.bl (decide (C = c.Faulty)), V.bl (decide (C = c.UnknownFunction)), V.bl (decide (C = c.UnknownSpot))]) ++ [V.bl (decide (C = c.UnknownName)), V.bl (decide (C = c.OutOfRange)), V.bl (decide (C = c.TooMany))])) = H13 at E13 q12 ⊢
    refine ⟨_, rfl, _, rfl, a, C, bm, _, _, _, rfl, .own _, hx.same E13, T, T.own (is_InTrial) (refFree_no hf _), by show 1 ≤ sizeLine; decide, fun p13 h13 => ?_⟩
    have F14 : Same H13 (upd H13 p13 (.lst [V.bl (decide (C = c.InTrial))])) := same_new h13
    have q13 : upd H13 p13 (.lst [V.bl (decide (C = c.InTrial))]) p13 = some (.lst [V.bl (decide (C = c.InTrial))]) := upd_same
    generalize upd H13 p13 (.lst [V.bl (decide (C = c.InTrial))]) = H14 at F14 q13 ⊢
    have E14 : Same H H14 := E13.trans F14
    refine ⟨p12, p13, _, _, rfl, rfl, F14 _ _ q12, q13, by show 19 ≤ sizeLine; decide, fun p14 h14 => ?_⟩
    have E15 : Same H (upd H14 p14 (.lst ((((((([V.bl (decide (C = c.InvalidFunctions)), V.bl (decide (C = c.InvalidFunction)), V.bl (decide (C = c.InvalidNames))] ++ [V.bl (decide (C = c.InvalidStatement)), V.bl (decide (C = c.InvalidChoice))]) ++ [V.bl (decide (C = c.InvalidPlaces)), V.bl (decide (C = c.InvalidPaper)), V.bl (decide (C = c.InvalidPrices))]) ++ [V.bl (decide (C = c.InvalidProfile)), V.bl (decide (C = c.InvalidText)), V.bl (decide (C = c.InvalidStates))]) ++ [V.bl (decide (C = c.NotClosed))]) ++ [V.bl (decide (C = c.Faulty)), V.bl (decide (C = c.UnknownFunction)), V.bl (decide (C = c.UnknownSpot))]) ++ [V.bl (decide (C = c.UnknownName)), V.bl (decide (C = c.OutOfRange)), V.bl (decide (C = c.TooMany))]) ++ [V.bl (decide (C = c.InTrial))]))) := E14.trans (same_new h14)
    have q14 : upd H14 p14 (.lst ((((((([V.bl (decide (C = c.InvalidFunctions)), V.bl (decide (C = c.InvalidFunction)), V.bl (decide (C = c.InvalidNames))] ++ [V.bl (decide (C = c.InvalidStatement)), V.bl (decide (C = c.InvalidChoice))]) ++ [V.bl (decide (C = c.InvalidPlaces)), V.bl (decide (C = c.InvalidPaper)), V.bl (decide (C = c.InvalidPrices))]) ++ [V.bl (decide (C = c.InvalidProfile)), V.bl (decide (C = c.InvalidText)), V.bl (decide (C = c.InvalidStates))]) ++ [V.bl (decide (C = c.NotClosed))]) ++ [V.bl (decide (C = c.Faulty)), V.bl (decide (C = c.UnknownFunction)), V.bl (decide (C = c.UnknownSpot))]) ++ [V.bl (decide (C = c.UnknownName)), V.bl (decide (C = c.OutOfRange)), V.bl (decide (C = c.TooMany))]) ++ [V.bl (decide (C = c.InTrial))])) p14 = some (.lst ((((((([V.bl (decide (C = c.InvalidFunctions)), V.bl (decide (C = c.InvalidFunction)), V.bl (decide (C = c.InvalidNames))] ++ [V.bl (decide (C = c.InvalidStatement)), V.bl (decide (C = c.InvalidChoice))]) ++ [V.bl (decide (C = c.InvalidPlaces)), V.bl (decide (C = c.InvalidPaper)), V.bl (decide (C = c.InvalidPrices))]) ++ [V.bl (decide (C = c.InvalidProfile)), V.bl (decide (C = c.InvalidText)), V.bl (decide (C = c.InvalidStates))]) ++ [V.bl (decide (C = c.NotClosed))]) ++ [V.bl (decide (C = c.Faulty)), V.bl (decide (C = c.UnknownFunction)), V.bl (decide (C = c.UnknownSpot))]) ++ [V.bl (decide (C = c.UnknownName)), V.bl (decide (C = c.OutOfRange)), V.bl (decide (C = c.TooMany))]) ++ [V.bl (decide (C = c.InTrial))])) := upd_same
    generalize upd H14 p14 (.lst ((((((([V.bl (decide (C = c.InvalidFunctions)), V.bl (decide (C = c.InvalidFunction)), V.bl (decide (C = c.InvalidNames))] ++ [V.bl (decide (C = c.InvalidStatement)), V.bl (decide (C = c.InvalidChoice))]) ++ [V.bl (decide (C = c.InvalidPlaces)), V.bl (decide (C = c.InvalidPaper)), V.bl (decide (C = c.InvalidPrices))]) ++ [V.bl (decide (C = c.InvalidProfile)), V.bl (decide (C = c.InvalidText)), V.bl (decide (C = c.InvalidStates))]) ++ [V.bl (decide (C = c.NotClosed))]) ++ [V.bl (decide (C = c.Faulty)), V.bl (decide (C = c.UnknownFunction)), V.bl (decide (C = c.UnknownSpot))]) ++ [V.bl (decide (C = c.UnknownName)), V.bl (decide (C = c.OutOfRange)), V.bl (decide (C = c.TooMany))]) ++ [V.bl (decide (C = c.InTrial))])) = H15 at E15 q14 ⊢
    have q14 : H15 p14 = some (.lst (c.all.map fun D => V.bl (decide (C = D)))) := q14
    refine ⟨p14, rfl, ⟨_, SqL.of q14⟩, fun D hD => ?_⟩
    refine lc_map walk_list rfl hD (by show 19 ≤ 100000; decide) pickT (fun H2 l2 => SqL.of (l2 _ _ q14)) ?_ ?_
    · intro x hx' H2 l2 K1 K0 k1 k0
      obtain ⟨D', _, rfl⟩ := List.mem_map.mp hx'
      refine ⟨rfl, _, rfl, _, rfl, ?_⟩
      refine ite2 (fun h => ⟨_, rfl, k1 _ _ ?_ (Same.refl _)⟩) (fun h => k0 _ ?_ (Same.refl _))
      · show pickT (.bl (decide (C = D'))) = _
        rw [h]; rfl
      · show pickT (.bl (decide (C = D'))) = _
        have h : decide (C = D') = false := by simpa using h
        rw [h]; rfl
    · intro H2 l2 h2
      refine ⟨D, _, rfl, .inl (SqL.of h2), ?_⟩
      have hl : (((c.all.map fun D => V.bl (decide (C = D))).filterMap pickT).length : Int) = 1 := by
        rw [own_count, TC.nd.count, if_pos hC]; rfl
      show Q (.int _) _
      rw [hl]
      exact k _ (E15.trans l2)
end
end Pf

set_option Elab.async false
set_option maxRecDepth 100000
set_option linter.all false
set_option maxHeartbeats 8000000
namespace Pf
open PySem PySem.Spec L2 PyProof.Rows
/-! ### a fresh dict, locked for a walk over it -/
def tLockA (t : TE) : TE := fun σ H Q => t σ H fun x H1 => ∃ d u, x = .ref d ∧ H1 d = some u ∧ Mut (some u) ∧ ∀ od, Q x (upd H1 d (.frz od u))
section
variable {X : Cx}
theorem pe_lockA {e : Expr} {t : TE} (h : PE X e t) : PE X e (tLockA t) := by
  refine ⟨fun pins s σ H Q I hw => ?_⟩
  refine thn (h.run pins s σ H _ I hw) fun v s1 ⟨x, H1, I1, rx, d, u, ex, hd, mu, q⟩ => ?_
  obtain ⟨od, I2⟩ := I1.lock hd mu
  exact ⟨x, _, I2, rx, q od⟩
/-! ### repr of lists and tuples, where none is under way -/
theorem cr_repr (hg : X.A.guards = some []) (hu : X.A.units + 64 < cLine) : CallR X (.builtin "repr") (fun xs H Q => ∃ (a : Addr) (d : PyData), xs = [.ref a] ∧ Dp X.K H (.ref a) d ∧ d.showable = true ∧ d.hasDict = false ∧ d.depth ≤ 32 ∧ d.shown.length ≤ sizeLine ∧ Q (.str d.shown) H) := by
  intro pins s σ H xs us Q I r h
  obtain ⟨a, d, rfl, hd, hs, hn, hdp, hz, q⟩ := h
  rw [Vals.ref1 r]
  obtain ⟨as, rd⟩ := Dp.reads I d _ (.ref a) hd rfl
  refine repr_of_reads' rd hs (fun z => by rw [hn] at z; cases z) hg (by omega) (fun _ _ e => e) (fun h' u tk hk => ?_) hz
  exact ⟨.str d.shown, H, I.kept (t' := tk) hk, ⟨u, rfl⟩, q⟩
end
/-! ### tuple(d) -/
section
variable {prog : Program} {w : World} {A : Around} {E : Value → Shared → Prop} {s : Shared} {r d : Addr} {n : Nat} {Pv : Nat → Value → Prop} {OK : Heap → Prop}
theorem code_tuple_src {Q₁ : Value → Shared → Prop} (Ks : PySem.W.KdlSrc prog w "dict" r d n Pv OK) (hh : A.handled = none) (hok : OK s.heap) (hn : n ≤ sizeLine) (hT : s.TypeIs (.ref r) "dict")
    (h : ∀ (h' : Heap) (tk : Nat) (acc : Array Value), (∀ b o, s.heap.get? b = some o → h'.get? b = some o) → ItemsOf Pv acc n → Q₁ (.ref h'.objs.size) { s with heap := h'.push { cls := .type "tuple", data := .seq acc }, toks := tk }) :
    codeAny (model prog w) A (.call (.builtin "tuple.__new__") ⟨[.type "tuple", .ref r], []⟩) (wants Q₁ E) s := by
  refine codeAny_of_tree ?_
  show wpAny _ A.in1 (do checkBuiltinCall "tuple.__new__" ⟨[.type "tuple", .ref r], []⟩; again (.builtin "tuple.__new__" ⟨[.type "tuple", .ref r], []⟩)) _ _ s
  refine wpAny_bind (wpAny_of_eq (F.newCall_tuple_1 _) (wpAny_pure ⟨plainId_quiet F.plain_tuple_new _, codeAny_builtin F.entry_tuple_new ?_⟩))
  rw [Around.under_plainId F.plain_tuple_new _]
  have hsub := sub_tuple_self
  have hinit := init_tuple_lookup
  have hmh := madeHere_tuple
  have hh1 : A.in1.handled = none := hh
  wp_walk using wpAny_typeOf hT, PySem.W.kdu_collect (A := A.in1) Ks hh1 hok hn
  intro h' tk acc hk hacc
  show wpAny _ _ (Builtin.Tuple.tupleExact acc.toList.toArray >>= fun v => ret v) _ _ _
  unfold Builtin.Tuple.tupleExact
  refine wpAny_bind (wpAny_newObj_type ?_ (by show acc.toList.toArray.size ≤ sizeLine; simp only [Array.toArray_toList]; rw [hacc.1]; exact hn))
  refine wpAny_pure ?_
  rw [show acc.toList.toArray = acc by simp]
  exact h h' tk acc hk hacc
theorem call_tuple_src {Q : Value → Shared → Prop} (Ks : PySem.W.KdlSrc prog w "dict" r d n Pv OK) (hh : A.handled = none) (hok : OK s.heap) (hn : n ≤ sizeLine) (hT : s.TypeIs (.ref r) "dict")
    (hQ : ∀ (h' : Heap) (tk : Nat) (acc : Array Value), (∀ b o, s.heap.get? b = some o → h'.get? b = some o) → ItemsOf Pv acc n → Q (.ref h'.objs.size) { s with heap := h'.push { cls := .type "tuple", data := .seq acc }, toks := tk }) :
    wpAny (model prog w) A (call (.type "tuple") [.ref r]) Q E s := by
  refine callType_codes (Q₁ := fun obj s₁ => s₁.TypeIs obj "tuple" ∧ Q obj s₁) F.called_tuple (F.typeCall_tuple_1 _) F.entry_object_init
    (code_tuple_src (A := A.in1) Ks hh hok hn hT fun h' tk acc hk hacc => ⟨⟨_, Heap.get?_push_size _ rfl, rfl⟩, hQ h' tk acc hk hacc⟩) fun obj s₁ h₁ => ?_
  exact ⟨h₁.1, F.args_object_init_2 obj _, object_init_meets F.called_tuple.init.lookup F.called_tuple.made (by decide) prog w A.in1 _ s₁ ⟨h₁.1, rfl, h₁.2⟩⟩
end
section
variable {X : Cx}
theorem cr_tupleD (hc : X.calm = true) : CallR X (.type "tuple") (fun xs H Q => ∃ (a : Addr) (kvs : List (Key × V)), xs = [.ref a] ∧ Rd H a (.dK kvs) ∧ ∀ p, H p = none → Q (.ref p) (upd H p (.tup (kvs.map fun kv => kV kv.1)))) := by
  intro pins s σ H xs us Q I r q
  obtain ⟨a, kvs, ex, hd, q⟩ := q
  subst ex
  rw [Vals.ref1 r]
  obtain ⟨z, lo, vs, rel, dd⟩ := dk_rd I.hok hd
  obtain ⟨ep, hat⟩ := dd.dictAt
  have ek : (kvs.map fun kv => kV kv.1) = vs.map fun p => kV p.1 := by
    have e := congrArg (List.map kV) rel.keys
    rw [List.map_map, List.map_map] at e
    exact e
  refine call_tuple_src (PySem.W.kdl_dict (knd := mixKind X.prog X.w) (kvs := vs) (ep := ep) lo) (I.ok.hd hc) hat (by rw [← rel.length]; exact z) dd.typeIs fun h' tk acc hk hacc => ?_
  have hv : Vals (vs.map fun p => kV p.1) acc.toList := keys_at (by rw [Array.length_toList]; exact hacc.1) fun j v e => hacc.2 j v (by rw [← Array.getElem?_toList]; exact e)
  have I1 : L2.Inv X pins σ H { s with heap := h', toks := tk } := I.kept (t' := tk) hk
  have hlen : (kvs.map fun kv => kV kv.1).length ≤ sizeLine := by rw [List.length_map]; exact z
  have I2 : L2.Inv X pins σ (upd H h'.objs.size (.tup (kvs.map fun kv => kV kv.1))) { s with heap := h'.push { cls := .type "tuple", data := .seq acc }, toks := tk } :=
    I1.laid (t' := tk) (fun b o e => Heap.get?_push_of_some _ e) (Nat.le_refl _) (show ObjOk X.prog X.w _ _ _ (.tup (kvs.map fun kv => kV kv.1)) from ⟨hlen, acc.toList, by rw [ek]; exact hv, by rw [Array.toArray_toList]; exact IsTup.new _ _⟩)
  exact ⟨.ref h'.objs.size, _, I2, rfl, q _ (I1.hok.fresh (Nat.le_refl _))⟩
end
end Pf

set_option Elab.async false
set_option maxRecDepth 100000
set_option linter.all false
set_option maxHeartbeats 4000000
/-! repr of data of any kind. -/
namespace Pf
open PySem PySem.Spec L2 PyProof.Rows
def rReprD (w : World) (K : PySem.W.Frag) : List V → Hp → VK → Prop := fun xs H Q => ∃ (v : V) (d : PyData), xs = [v] ∧ Da w K H (fun _ => True) v d ∧ d.showable = true ∧ d.depth ≤ 32 ∧ d.shown.length ≤ sizeLine ∧ Q (.str d.shown) H
theorem cr_reprD {X : Cx} (sb : SysB X.base) (hg : X.A.guards = some []) (hu : X.A.units + 64 < cLine) : CallR X (.builtin "repr") (rReprD X.w X.K) := by
  intro pins s σ H xs us Q I r h
  obtain ⟨v, d, rfl, hv, hs, hdp, hz, q⟩ := h
  obtain ⟨u, rfl, ru⟩ := vals1 r
  have fin : ∀ a, u = .ref a → wpAny (model X.prog X.w) X.A (call (.builtin "repr") [u]) (EP X pins σ Q) X.xe s := fun a e => by
    obtain ⟨as, rd, ns⟩ := da_reads sb I hv ru
    subst e
    exact repr_of_reads' rd hs (fun _ => ns) hg (by omega) (fun _ _ e => e) (fun h' u tk hk => ⟨.str d.shown, H, I.kept (t' := tk) hk, ⟨u, rfl⟩, q⟩) hz
  cases hv with
  | non =>
    cases (show u = Value.none from ru)
    exact P.repr_of_none ⟨.str _, H, I.tok _, ⟨_, rfl⟩, by rw [PyData.shown] at q; exact q⟩
  | bl b =>
    cases (show u = Value.bool b from ru)
    refine P.repr_of_bool ⟨.str (if b then "True" else "False"), H, I.tok _, ⟨_, rfl⟩, ?_⟩
    rw [PyData.shown] at q
    exact q
  | int i =>
    obtain ⟨t, rfl⟩ := ru
    rw [PyData.showable] at hs
    refine P.repr_of_int (of_decide_eq_true hs) ⟨.str (toString i), H, I.tok _, ⟨_, rfl⟩, ?_⟩
    rw [PyData.shown] at q
    exact q
  | str x =>
    obtain ⟨t, rfl⟩ := ru
    rw [PyData.shown] at q hz
    exact P.repr_of_str ⟨.str (reprText x), H, I.tok _, ⟨_, rfl⟩, q⟩ hz
  | @lst a => exact fin a ru
  | @tup a => exact fin a ru
  | @dK a => exact fin a ru
  | @dM a => exact fin a ru
end Pf

set_option Elab.async false
set_option maxRecDepth 100000
set_option linter.all false
set_option maxHeartbeats 4000000
/-! Data whose lists and dicts lie at places of their own: what may be changed in place. -/
namespace Pf
open PySem PySem.Spec L2 PyProof.Rows
mutual
/-- the data's lists and dicts lie within N, no two at one place -/
inductive Fp (w : World) (K : PySem.W.Frag) (H : Hp) : (Addr → Prop) → V → PyData → Prop
  | non {N : Addr → Prop} : Fp w K H N .non .none
  | bl {N : Addr → Prop} (b : Bool) : Fp w K H N (.bl b) (.bool b)
  | int {N : Addr → Prop} (i : Int) : Fp w K H N (.int i) (.int i)
  | str {N : Addr → Prop} (x : Str) : Fp w K H N (.str x) (.str x)
  | lst {N : Addr → Prop} {a : Addr} {xs : List V} {ds : List PyData} : N a → H a = some (.lst xs) → FpAll w K H (fun b => N b ∧ b ≠ a) xs ds → Fp w K H N (.ref a) (.list ds)
  | tup {N : Addr → Prop} {a : Addr} {xs : List V} {ds : List PyData} : SqT K H a xs → FpAll w K H N xs ds → Fp w K H N (.ref a) (.tuple ds)
  | dM {N : Addr → Prop} {a : Addr} {l : List MK} {ds : List (PyData × PyData)} : N a → Dm w K H a l → FpMk w K H (fun b => N b ∧ b ≠ a) l ds → Fp w K H N (.ref a) (.dict ds)
inductive FpAll (w : World) (K : PySem.W.Frag) (H : Hp) : (Addr → Prop) → List V → List PyData → Prop
  | nil {N : Addr → Prop} : FpAll w K H N [] []
  | cons {N N1 N2 : Addr → Prop} {x : V} {d : PyData} {xs : List V} {ds : List PyData} : Fp w K H N1 x d → FpAll w K H N2 xs ds → (∀ b, N1 b → N b) → (∀ b, N2 b → N b ∧ ¬ N1 b) → FpAll w K H N (x :: xs) (d :: ds)
inductive FpMk (w : World) (K : PySem.W.Frag) (H : Hp) : (Addr → Prop) → List MK → List (PyData × PyData) → Prop
  | nil {N : Addr → Prop} : FpMk w K H N [] []
  | cons {N N1 N2 : Addr → Prop} {y x : V} {k : NestedKey} {e d : PyData} {xs : List MK} {ds : List (PyData × PyData)} : KdAt K H y e → Fp w K H N1 x d → FpMk w K H N2 xs ds → (∀ b, N1 b → N b) → (∀ b, N2 b → N b ∧ ¬ N1 b) → FpMk w K H N ((y, x, k) :: xs) ((e, d) :: ds)
end
section
variable {w : World} {K : PySem.W.Frag} {H H' : Hp}
mutual
theorem Fp.da : ∀ {N : Addr → Prop} {v : V} {d : PyData}, Fp w K H N v d → Da w K H (fun _ => True) v d
  | _, _, _, .non => .non
  | _, _, _, .bl b => .bl b
  | _, _, _, .int i => .int i
  | _, _, _, .str x => .str x
  | _, _, _, .lst _ h r => .lst trivial (SqL.of h) (FpAll.da r)
  | _, _, _, .tup h r => .tup trivial h (FpAll.da r)
  | _, _, _, .dM _ h r => .dM trivial h (FpMk.da r)
theorem FpAll.da : ∀ {N : Addr → Prop} {v : List V} {d : List PyData}, FpAll w K H N v d → DaAll w K H (fun _ => True) v d
  | _, _, _, .nil => .nil
  | _, _, _, .cons h r _ _ => .cons (Fp.da h) (FpAll.da r)
theorem FpMk.da : ∀ {N : Addr → Prop} {v : List MK} {d : List (PyData × PyData)}, FpMk w K H N v d → DaMk w K H (fun _ => True) v d
  | _, _, _, .nil => .nil
  | _, _, _, .cons q h r _ _ => .cons q (Fp.da h) (FpMk.da r)
end
mutual
theorem Fp.on (t : ∀ a xs, SqT K H a xs → SqT K H' a xs) : ∀ {N N' : Addr → Prop} {v : V} {d : PyData}, Fp w K H N v d → (∀ a o, N a → H a = some o → H' a = some o) → (∀ a, N a → N' a) → Fp w K H' N' v d
  | _, _, _, _, .non, _, _ => .non
  | _, _, _, _, .bl b, _, _ => .bl b
  | _, _, _, _, .int i, _, _ => .int i
  | _, _, _, _, .str x, _, _ => .str x
  | _, _, _, _, .lst m h r, e, n => .lst (n _ m) (e _ _ m h) (FpAll.on t r (fun a o z => e a o z.1) fun a z => ⟨n _ z.1, z.2⟩)
  | _, _, _, _, .tup h r, e, n => .tup (t _ _ h) (FpAll.on t r e n)
  | _, _, _, _, .dM m h r, e, n => .dM (n _ m) (h.on (fun o => e _ o m) t) (FpMk.on t r (fun a o z => e a o z.1) fun a z => ⟨n _ z.1, z.2⟩)
theorem FpAll.on (t : ∀ a xs, SqT K H a xs → SqT K H' a xs) : ∀ {N N' : Addr → Prop} {v : List V} {d : List PyData}, FpAll w K H N v d → (∀ a o, N a → H a = some o → H' a = some o) → (∀ a, N a → N' a) → FpAll w K H' N' v d
  | _, _, _, _, .nil, _, _ => .nil
  | _, _, _, _, .cons h r i1 i2, e, n => .cons (Fp.on t h (fun a o z => e a o (i1 a z)) fun _ z => z) (FpAll.on t r (fun a o z => e a o (i2 a z).1) fun _ z => z) (fun a z => n a (i1 a z)) fun a z => ⟨n a (i2 a z).1, (i2 a z).2⟩
theorem FpMk.on (t : ∀ a xs, SqT K H a xs → SqT K H' a xs) : ∀ {N N' : Addr → Prop} {v : List MK} {d : List (PyData × PyData)}, FpMk w K H N v d → (∀ a o, N a → H a = some o → H' a = some o) → (∀ a, N a → N' a) → FpMk w K H' N' v d
  | _, _, _, _, .nil, _, _ => .nil
  | _, _, _, _, .cons q h r i1 i2, e, n => .cons (q.on t) (Fp.on t h (fun a o z => e a o (i1 a z)) fun _ z => z) (FpMk.on t r (fun a o z => e a o (i2 a z).1) fun _ z => z) (fun a z => n a (i1 a z)) fun a z => ⟨n a (i2 a z).1, (i2 a z).2⟩
end
variable {N N' N1 : Addr → Prop}
theorem Fp.to {v : V} {d : PyData} (h : Fp w K H N v d) (n : ∀ a, N a → N' a) : Fp w K H N' v d := h.on (fun _ _ h => h) (fun _ _ _ h => h) n
theorem FpAll.to {v : List V} {d : List PyData} (h : FpAll w K H N v d) (n : ∀ a, N a → N' a) : FpAll w K H N' v d := h.on (fun _ _ h => h) (fun _ _ _ h => h) n
theorem FpMk.to {v : List MK} {d : List (PyData × PyData)} (h : FpMk w K H N v d) (n : ∀ a, N a → N' a) : FpMk w K H N' v d := h.on (fun _ _ h => h) (fun _ _ _ h => h) n
theorem Fp.same {v : V} {d : PyData} (h : Fp w K H N v d) (e : Same H H') : Fp w K H' N v d := h.on (sqt_same e) (fun a o _ => e a o) fun _ h => h
theorem FpAll.same {v : List V} {d : List PyData} (h : FpAll w K H N v d) (e : Same H H') : FpAll w K H' N v d := h.on (sqt_same e) (fun a o _ => e a o) fun _ h => h
theorem FpMk.same {v : List MK} {d : List (PyData × PyData)} (h : FpMk w K H N v d) (e : Same H H') : FpMk w K H' N v d := h.on (sqt_same e) (fun a o _ => e a o) fun _ h => h
theorem FpAll.length {v : List V} {d : List PyData} (h : FpAll w K H N v d) : v.length = d.length := h.da.length
theorem FpMk.length {v : List MK} {d : List (PyData × PyData)} (h : FpMk w K H N v d) : v.length = d.length := h.da.length
theorem FpAll.snoc {x : V} {e : PyData} {M : Addr → Prop} (hx : Fp w K H N1 x e) : ∀ {v : List V} {d : List PyData} {N : Addr → Prop}, FpAll w K H N v d → (∀ a, N1 a → ¬ N a) → FpAll w K H (fun a => N a ∨ N1 a) (v ++ [x]) (d ++ [e])
  | _, _, _, .nil, _ => .cons (N2 := fun _ => False) hx .nil (fun _ z => .inr z) fun _ z => z.elim
  | _, _, _, .cons h r i1 i2, n => .cons h (FpAll.snoc (M := M) hx r fun a z y => n a z (i2 a y).1) (fun a z => .inl (i1 a z)) fun a z => z.elim (fun z => ⟨.inl (i2 a z).1, (i2 a z).2⟩) fun z => ⟨.inr z, fun y => n a z (i1 a y)⟩
theorem FpMk.snoc {y x : V} {k : NestedKey} {c e : PyData} (hy : KdAt K H y c) (hx : Fp w K H N1 x e) : ∀ {v : List MK} {d : List (PyData × PyData)} {N : Addr → Prop}, FpMk w K H N v d → (∀ a, N1 a → ¬ N a) → FpMk w K H (fun a => N a ∨ N1 a) (v ++ [(y, x, k)]) (d ++ [(c, e)])
  | _, _, _, .nil, _ => .cons (N2 := fun _ => False) hy hx .nil (fun _ z => .inr z) fun _ z => z.elim
  | _, _, _, .cons q h r i1 i2, n => .cons q h (FpMk.snoc hy hx r fun a z y => n a z (i2 a y).1) (fun a z => .inl (i1 a z)) fun a z => z.elim (fun z => ⟨.inl (i2 a z).1, (i2 a z).2⟩) fun z => ⟨.inr z, fun y => n a z (i1 a y)⟩
/-- d[k] = x where the key is there -/
theorem FpMk.repl {x : V} {k : NestedKey} {e : PyData} {A B : PyData → Prop} (hx : Fp w K H N1 x e) (hB : B e) : ∀ {v : List MK} {d : List (PyData × PyData)} {N : Addr → Prop}, FpMk w K H N v d → (v.map (·.2.2)).Nodup → (∀ q ∈ d, A q.1 ∧ B q.2) → (∀ a, N1 a → ¬ N a) →
      ∃ d', FpMk w K H (fun a => N a ∨ N1 a) (v.map fun z => if z.2.2 = k then (z.1, x, z.2.2) else z) d' ∧ ∀ q ∈ d', A q.1 ∧ B q.2
  | _, _, _, .nil, _, _, _ => ⟨[], .nil, fun _ h => absurd h List.not_mem_nil⟩
  | _, _, N, @FpMk.cons _ _ _ _ M1 M2 y0 x0 k0 e0 d0 xs ds q h r i1 i2, nd, hA, n => by
    rw [List.map_cons, List.nodup_cons] at nd
    by_cases hk : k0 = k
    · have hid : (xs.map fun z => if z.2.2 = k then (z.1, x, z.2.2) else z) = xs := by
        conv => rhs; rw [← List.map_id xs]
        refine List.map_congr_left fun z hz => ?_
        have : z.2.2 ≠ k := fun e => nd.1 (by show k0 ∈ _; rw [hk, ← e]; exact List.mem_map.mpr ⟨z, hz, rfl⟩)
        simp [this]
      refine ⟨(e0, e) :: ds, ?_, fun p hp => ?_⟩
      · rw [List.map_cons, hid]
        show FpMk w K H _ ((if k0 = k then (y0, x, k0) else (y0, x0, k0)) :: xs) _
        rw [if_pos hk]
        exact .cons q hx r (fun _ z => .inr z) fun a z => ⟨.inl (i2 a z).1, fun y => n a y (i2 a z).1⟩
      · rcases List.mem_cons.mp hp with rfl | hp
        · exact ⟨(hA (e0, d0) List.mem_cons_self).1, hB⟩
        · exact hA p (List.mem_cons_of_mem _ hp)
    · obtain ⟨d', h1, h2⟩ := FpMk.repl (k := k) hx hB r nd.2 (fun p hp => hA p (List.mem_cons_of_mem _ hp)) fun a z y => n a z (i2 a y).1
      refine ⟨(e0, d0) :: d', ?_, fun p hp => ?_⟩
      · rw [List.map_cons]
        show FpMk w K H _ ((if k0 = k then (y0, x, k0) else (y0, x0, k0)) :: _) _
        rw [if_neg hk]
        exact .cons q h h1 (fun a z => .inl (i1 a z)) fun a z => z.elim (fun z => ⟨.inl (i2 a z).1, (i2 a z).2⟩) fun z => ⟨.inr z, fun y => n a z (i1 a y)⟩
      · rcases List.mem_cons.mp hp with rfl | hp
        · exact hA _ List.mem_cons_self
        · exact h2 p hp
theorem nd_putM {l : List MK} {x : MK} (h : (l.map (·.2.2)).Nodup) : ((putM l x).map (·.2.2)).Nodup := by
  rw [keys_putM]
  split
  · exact h
  · rename_i hn
    rw [List.nodup_append]
    exact ⟨h, by simp, fun a ha b hb e => hn (by rw [← List.mem_singleton.mp hb, ← e]; exact ha)⟩
theorem FpMk.put {y x : V} {k : NestedKey} {c e : PyData} {A B : PyData → Prop} (hy : KdAt K H y c) (hA : A c) (hx : Fp w K H N1 x e) (hB : B e) {v : List MK} {d : List (PyData × PyData)} (h : FpMk w K H N v d) (nd : (v.map (·.2.2)).Nodup) (hd : ∀ q ∈ d, A q.1 ∧ B q.2) (n : ∀ a, N1 a → ¬ N a) :
      ∃ d', FpMk w K H (fun a => N a ∨ N1 a) (putM v (y, x, k)) d' ∧ ∀ q ∈ d', A q.1 ∧ B q.2 := by
  unfold putM
  split
  · exact FpMk.repl hx hB h nd hd n
  · refine ⟨_, FpMk.snoc hy hx h n, fun q hq => ?_⟩
    rcases List.mem_append.mp hq with hq | hq
    · exact hd q hq
    · rw [List.mem_singleton.mp hq]; exact ⟨hA, hB⟩
end
/-! ### sizes -/
structure Dy (n B : Nat) (d : PyData) : Prop where
  sh : d.showable = true
  dp : d.depth ≤ n
  ls : d.leavesShort 400 = true
  bk : d.bulk ≤ B
theorem Dy.mono {n B n' B' : Nat} {d : PyData} (h : Dy n B d) (h1 : n ≤ n') (h2 : B ≤ B') : Dy n' B' d := ⟨h.sh, Nat.le_trans h.dp h1, h.ls, Nat.le_trans h.bk h2⟩
theorem Dy.len {n B : Nat} {d : PyData} (h : Dy n B d) : d.shown.length ≤ 402 * B + 400 := by
  have := PyData.shown_le_bulk 400 (by decide) d h.ls
  have h2 := h.bk
  omega
theorem dy_all {n B : Nat} : ∀ {ds : List PyData}, (∀ d ∈ ds, Dy n B d) → PyData.showableAll ds = true ∧ PyData.depthAll ds ≤ n ∧ PyData.leavesShortAll 400 ds = true ∧ PyData.bulkAll ds ≤ ds.length * (B + 1)
  | [], _ => ⟨by rw [PyData.showableAll], by rw [PyData.depthAll]; exact Nat.zero_le _, by rw [PyData.leavesShortAll], by rw [PyData.bulkAll]; exact Nat.zero_le _⟩
  | d :: ds, h => by
    have h1 := h d List.mem_cons_self
    obtain ⟨a1, a3, a4, a5⟩ := dy_all fun e he => h e (List.mem_cons_of_mem _ he)
    refine ⟨by rw [PyData.showableAll, h1.sh, a1]; rfl, by rw [PyData.depthAll]; exact Nat.max_le.mpr ⟨h1.dp, a3⟩, by rw [PyData.leavesShortAll, h1.ls, a4]; rfl, ?_⟩
    rw [PyData.bulkAll, List.length_cons, Nat.succ_mul]
    have := h1.bk
    omega
theorem dy_list {n B N : Nat} {ds : List PyData} (h : ∀ d ∈ ds, Dy n B d) (hN : ds.length ≤ N) : Dy (n + 1) (N * (B + 1)) (.list ds) := by
  obtain ⟨a1, a3, a4, a5⟩ := dy_all h
  exact ⟨by rw [PyData.showable]; exact a1, by rw [PyData.depth]; omega, by rw [PyData.leavesShort]; exact a4, by rw [PyData.bulk]; exact Nat.le_trans a5 (Nat.mul_le_mul_right _ hN)⟩
theorem dy_tuple {n B N : Nat} {ds : List PyData} (h : ∀ d ∈ ds, Dy n B d) (hN : ds.length ≤ N) : Dy (n + 1) (N * (B + 1)) (.tuple ds) := by
  obtain ⟨a1, a3, a4, a5⟩ := dy_all h
  exact ⟨by rw [PyData.showable]; exact a1, by rw [PyData.depth]; omega, by rw [PyData.leavesShort]; exact a4, by rw [PyData.bulk]; exact Nat.le_trans a5 (Nat.mul_le_mul_right _ hN)⟩
theorem dy_kvs {n B C : Nat} : ∀ {ds : List (PyData × PyData)}, (∀ d ∈ ds, Dy n C d.1 ∧ Dy n B d.2) → PyData.showableKv ds = true ∧ PyData.depthKv ds ≤ n ∧ PyData.leavesShortKv 400 ds = true ∧ PyData.bulkKv ds ≤ ds.length * (C + B + 2)
  | [], _ => ⟨by rw [PyData.showableKv], by rw [PyData.depthKv]; exact Nat.zero_le _, by rw [PyData.leavesShortKv], by rw [PyData.bulkKv]; exact Nat.zero_le _⟩
  | (c, d) :: ds, h => by
    obtain ⟨h0, h1⟩ := h (c, d) List.mem_cons_self
    have h0 : Dy n C c := h0
    have h1 : Dy n B d := h1
    obtain ⟨a1, a3, a4, a5⟩ := dy_kvs fun e he => h e (List.mem_cons_of_mem _ he)
    refine ⟨by rw [PyData.showableKv, h0.sh, h1.sh, a1]; rfl, by rw [PyData.depthKv]; exact Nat.max_le.mpr ⟨Nat.max_le.mpr ⟨h0.dp, h1.dp⟩, a3⟩, by rw [PyData.leavesShortKv, h0.ls, h1.ls, a4]; rfl, ?_⟩
    rw [PyData.bulkKv, List.length_cons, Nat.succ_mul]
    have := h0.bk
    have := h1.bk
    omega
theorem dy_dict {n B C N : Nat} {ds : List (PyData × PyData)} (h : ∀ d ∈ ds, Dy n C d.1 ∧ Dy n B d.2) (hN : ds.length ≤ N) : Dy (n + 1) (N * (C + B + 2)) (.dict ds) := by
  obtain ⟨a1, a3, a4, a5⟩ := dy_kvs h
  exact ⟨by rw [PyData.showable]; exact a1, by rw [PyData.depth]; omega, by rw [PyData.leavesShort]; exact a4, by rw [PyData.bulk]; exact Nat.le_trans a5 (Nat.mul_le_mul_right _ hN)⟩
end Pf

set_option Elab.async false
set_option maxRecDepth 100000
set_option linter.all false
set_option maxHeartbeats 4000000
set_option pp.maxSteps 200
/-! _law_made -/
namespace Pf
open PySem PySem.Spec L2 PyProof.Rows NdefX PySem.HandSPX
/-- an own class of errors with one field -/
structure Eo (P : Program) (w : World) (K : PySem.W.Frag) (mg : Str → Option Value) (base : Heap) (k : Nat) (x n : Str) (C : Addr) (spc : Sp) : Prop where
  ex : ∃ (B newId initId : String) (bmB : List Value) (fI : Addr) (fd : FuncData), ExcBaseFacts B newId initId bmB ∧ OexB K C B newId ∧ PySem.W.findIn K (.ref C) "__init__" = some (some (.ref fI)) ∧ PySem.W.typeIn K (.ref fI) = some (.type "function") ∧ FnOk P w K mg base CX0 k fI fd ["self", n] (spExI C n spc) ∧
    Binds K fd ["self", n] [] ∧ (∀ (s : Shared) (a u : Value), K.In s.heap → BindsTo s fd ⟨[a], [(n, u)]⟩ ((["self", n] : List Str).zip [a, u])) ∧ mg x = some (.ref C)
  X : XfC K C
  no : PySem.W.findIn K (.ref C) n = some none
section
variable {X : Cx} {x n : Str} {C : Addr} {k j : Nat} {spc : Sp} {e : Expr} {p pos kpos : Pos} {ta : TA} {te : TE}
theorem pe_eV (E : Eo X.prog X.w X.K X.mg X.base k x n C spc) (hr : Room j X.A) (hk : k + 1 ≤ j) (hg : Gl X x) (ha : PA X [e] ta) (hdb : (x == ("__debug__" : Str)) = false := by decide)
    (he : starEach [e] X.env = (false, eval e X.env) :: starEach [] X.env := by rfl) (hpl : (backTo pos (starEach [] X.env)).any (·.1) = false := by rfl) : PE X (.Call (.Name x p) [e] [] pos) (tMkV C (spExI C n spc) ta) := by
  obtain ⟨B, newId, initId, bmB, fI, fd, FB, T, iC, tI, F1, hb, _, hm⟩ := E.ex
  exact pe_oexB FB T iC tI F1 (hr.mono hk) hb C8.pass0 hg hm ha hdb he hpl
theorem pe_eK (E : Eo X.prog X.w X.K X.mg X.base k x n C spc) (hr : Room j X.A) (hk : k + 1 ≤ j) (hg : Gl X x) (he : PE X e te) (hdb : (x == ("__debug__" : Str)) = false := by decide)
    (hall : (backToKw pos (keywordEach [⟨some n, e, kpos⟩] X.env)).all (·.1.isSome) = true := by rfl) (hks : (backToKw pos (keywordEach [⟨some n, e, kpos⟩] X.env)).filterMap (·.1) = [n] := by rfl)
    (hpl : ((backTo pos (starEach [] X.env)).any (·.1) || (backToKw pos (keywordEach [⟨some n, e, kpos⟩] X.env)).any (·.1.isNone)) = false := by rfl) : PE X (.Call (.Name x p) [] [⟨some n, e, kpos⟩] pos) (tMkK C (spExI C n spc) te) := by
  obtain ⟨B, newId, initId, bmB, fI, fd, FB, T, iC, tI, F1, _, hb, hm⟩ := E.ex
  exact pe_oexK FB T iC tI F1 (hr.mono hk) hb C8.pass0 hg hm he hdb hall hks hpl
theorem pe_eF (E : Eo X.prog X.w X.K X.mg X.base k x n C spc) (he : PE X e te) (hab : attributeBase e n X.env (eval e X.env) = eval e X.env) : PE X (.Attribute e n pos) (tXf C n te) := pe_xfV E.X E.no he hab
end
/-- what is made: at new places -/
def ErrN (H H' : Hp) (a C : Addr) : Prop := H a = none ∧ ∃ dx fs, H dx = none ∧ H' a = some (exo a C (some dx)) ∧ H' dx = some (exd dx fs)
theorem ErrN.same {H H' H2 : Hp} {a C : Addr} (h : ErrN H H' a C) (e : Same H' H2) : ErrN H H2 a C := by
  obtain ⟨h0, dx, fs, h1, h2, h3⟩ := h
  exact ⟨h0, dx, fs, h1, e _ _ h2, e _ _ h3⟩
section
variable {w : World} {K : PySem.W.Frag} {H : Hp} {C : Addr} {n : Str} {v : V} {d : PyData}
theorem mk_val (hv : Da w K H (fun _ => True) v d) (hd : d.depth ≤ 4) (hb : d.bulk ≤ 1000) {Q : Addr → Hp → Prop} (q : ∀ a dx y H', Same H H' → H a = none → H dx = none → H' a = some (exo a C (some dx)) → H' dx = some (exd dx [(n, y)]) → Da w K H' (fun b => H b = none) y d → Q a H') :
    ∀ a, H a = none → spExI C n (spCp2 w K 4) [.ref a, v] (upd H a (exo a C none)) (fun v H2 => v = .non ∧ Q a H2) (fun _ _ _ => False) := fun a ha => by
  have e0 := same_new (o := exo a C none) ha
  refine ⟨a, v, rfl, upd_same, v, d, rfl, hv.same e0, hd, hb, fun y H1 e1 h1 => ⟨e1 _ _ upd_same, fun dx hdx hne => ⟨rfl, ?_⟩⟩⟩
  have ha1 := e1 _ _ upd_same
  have hdH : H dx = none := by
    have := e1.free hdx
    rw [upd_ne hne] at this
    exact this
  have eU : Same H (upd (upd H1 dx (exd dx [(n, y)])) a (exo a C (some dx))) := same_chg (same_chg (e0.trans e1) hdH) ha
  refine q a dx y _ eU ha hdH upd_same (by rw [upd_ne hne]; exact upd_same) ?_
  refine h1.on (fun b o m h => ?_) (fun b xs h => ?_) fun b m => ?_
  · have hba : b ≠ a := fun z => by rw [z, upd_same] at m; cases m
    rw [upd_ne hba, upd_ne (ne_of_none h hdx)]; exact h
  · have h' := sqt_same (K := K) (same_new (o := exd dx [(n, y)]) hdx) b xs h
    exact sqt_chg (same_new hdx _ _ ha1) (fun _ => exo_tup) (fun _ _ => exo_frz) b xs h'
  · have hba : b ≠ a := fun z => by rw [z, upd_same] at m; cases m
    rw [upd_ne hba] at m
    exact m
/-- a row -/
def RowAt (w : World) (K : PySem.W.Frag) (H H' : Hp) (d : PyData) (t : Addr) (x : Addr × Int) : Prop := H t = none ∧ ∃ a y1 y2, H' t = some (.tup [.ref a, y1, y2, .int x.2]) ∧ ErrN H H' a x.1 ∧ Da w K H' (fun b => H b = none) y1 d ∧ Da w K H' (fun b => H b = none) y2 d
theorem RowAt.same {H H' H2 : Hp} {t : Addr} {x : Addr × Int} (h : RowAt w K H H' d t x) (e : Same H' H2) : RowAt w K H H2 d t x := by
  obtain ⟨h0, a, y1, y2, h1, h2, h3, h4⟩ := h
  exact ⟨h0, a, y1, y2, e _ _ h1, h2.same e, h3.same e, h4.same e⟩
theorem RowAt.start {H0 H H' : Hp} {t : Addr} {x : Addr × Int} (h : RowAt w K H H' d t x) (e : Same H0 H) : RowAt w K H0 H' d t x := by
  obtain ⟨h0, a, y1, y2, h1, ⟨h2, dx, fs, h5, h6, h7⟩, h3, h4⟩ := h
  exact ⟨e.free h0, a, y1, y2, h1, ⟨e.free h2, dx, fs, e.free h5, h6, h7⟩, h3.on (fun _ _ _ h => h) (fun _ _ h => h) (fun b m => e.free m), h4.on (fun _ _ _ h => h) (fun _ _ h => h) (fun b m => e.free m)⟩
/-- the row's reading -/
theorem row_mk {σ : L2.St} (hσ : σ[0]? = some (some v)) (hv : Da w K H (fun _ => True) v d) (hd : d.depth ≤ 4) (hb : d.bulk ≤ 1000) {i : Int} {Q : VK} (q : ∀ t H', Same H H' → RowAt w K H H' d t (C, i) → Q (.ref t) H') :
    tTup (tCons (tMkV C (spExI C n (spCp2 w K 4)) (tCons (tVar 0) tNil)) (tCons (tXf C n (tMkK C (spExI C n (spCp2 w K 4)) (tVar 0))) (tCons (tXf C n (tMkV C (spExI C n (spCp2 w K 4)) (tCons (tVar 0) tNil))) (tCons (tC (.int i)) tNil)))) σ H Q := by
  refine ⟨v, hσ, by show 1 ≤ 1000; decide, mk_val hv hd hb fun a dx y H1 e1 g1 g2 g3 g4 g5 => ?_⟩
  refine ⟨v, hσ, v, rfl, mk_val (hv.same e1) hd hb fun a2 dx2 y2 H2 e2 k1 k2 k3 k4 k5 => ⟨a2, dx2, y2, rfl, k3, k4, ?_⟩⟩
  refine ⟨v, hσ, by show 1 ≤ 1000; decide, mk_val ((hv.same e1).same e2) hd hb fun a3 dx3 y3 H3 e3 l1 l2 l3 l4 l5 => ⟨a3, dx3, y3, rfl, l3, l4, ?_⟩⟩
  refine ⟨by show 4 ≤ sizeLine; decide, fun t ht => ?_⟩
  have et := same_new (o := .tup [V.ref a, y2, y3, .int i]) ht
  refine q t _ (((e1.trans e2).trans e3).trans et) ⟨((e1.trans e2).trans e3).free ht, a, y2, y3, upd_same, ⟨g1, dx, [(n, y)], g2, et _ _ (e3 _ _ (e2 _ _ g3)), et _ _ (e3 _ _ (e2 _ _ g4))⟩, ?_, ?_⟩
  · exact ((k5.same e3).same et).on (fun _ _ _ h => h) (fun _ _ h => h) fun b m => e1.free m
  · exact (l5.same et).on (fun _ _ _ h => h) (fun _ _ h => h) fun b m => e1.free (e2.free m)
end
def spMade (w : World) (K : PySem.W.Frag) (c : Cs) : Sp := fun vs H Q _ => ∃ (v : V) (d : PyData), vs = [v] ∧ Da w K H (fun _ => True) v d ∧ d.depth ≤ 4 ∧ d.bulk ≤ 1000 ∧ ∀ l ts H', Same H H' → H l = none → H' l = some (.lst (ts.map V.ref)) → Paired (fun t x => RowAt w K H H' d t x) ts c.tab18 → Q (.ref l) H'
structure Ex (P : Program) (w : World) (K : PySem.W.Frag) (mg : Str → Option Value) (base : Heap) (k : Nat) (c : Cs) (spc : Sp) : Prop where
  InvalidFunctions : Eo P w K mg base k "InvalidFunctions" "value" c.InvalidFunctions spc
  InvalidFunction : Eo P w K mg base k "InvalidFunction" "name" c.InvalidFunction spc
  InvalidNames : Eo P w K mg base k "InvalidNames" "name" c.InvalidNames spc
  InvalidStatement : Eo P w K mg base k "InvalidStatement" "spot" c.InvalidStatement spc
  InvalidChoice : Eo P w K mg base k "InvalidChoice" "index" c.InvalidChoice spc
  InvalidPlaces : Eo P w K mg base k "InvalidPlaces" "value" c.InvalidPlaces spc
  InvalidPaper : Eo P w K mg base k "InvalidPaper" "value" c.InvalidPaper spc
  InvalidPrices : Eo P w K mg base k "InvalidPrices" "value" c.InvalidPrices spc
  InvalidProfile : Eo P w K mg base k "InvalidProfile" "value" c.InvalidProfile spc
  InvalidText : Eo P w K mg base k "InvalidText" "line" c.InvalidText spc
  InvalidStates : Eo P w K mg base k "InvalidStates" "value" c.InvalidStates spc
  NotClosed : Eo P w K mg base k "NotClosed" "spot" c.NotClosed spc
  Faulty : Eo P w K mg base k "Faulty" "spot" c.Faulty spc
  UnknownFunction : Eo P w K mg base k "UnknownFunction" "value" c.UnknownFunction spc
  UnknownSpot : Eo P w K mg base k "UnknownSpot" "value" c.UnknownSpot spc
  UnknownName : Eo P w K mg base k "UnknownName" "value" c.UnknownName spc
  OutOfRange : Eo P w K mg base k "OutOfRange" "value" c.OutOfRange spc
  TooMany : Eo P w K mg base k "TooMany" "limit" c.TooMany spc
/-- all but what lies at l stays -/
def Up (K : PySem.W.Frag) (l : Addr) (H H' : Hp) : Prop := (∀ b o, b ≠ l → H b = some o → H' b = some o) ∧ ∀ b xs, SqT K H b xs → SqT K H' b xs
/-- a row that was made in the heap Hr -/
def RowB (w : World) (K : PySem.W.Frag) (H : Hp) (l : Addr) (Hc : Hp) (d : PyData) (t : Addr) (x : Addr × Int) : Prop := ∃ (Hr : Hp) (Hs : Hp), (∀ b, Hs b = none → H b = none) ∧ (Hr l = none ∨ ((∃ zs, Hr l = some (.lst zs)) ∧ Hs l ≠ none)) ∧ Up K l Hr Hc ∧ RowAt w K Hs Hr d t x
section
variable {w : World} {K : PySem.W.Frag} {H H' H2 : Hp} {d : PyData} {l t : Addr} {x : Addr × Int}
theorem RowB.up (h : RowB w K H l H' d t x) (u : Up K l H' H2) : RowB w K H l H2 d t x := by
  obtain ⟨Hr, Hs, h1, h2, h3, h4⟩ := h
  exact ⟨Hr, Hs, h1, h2, ⟨fun b o n z => u.1 b o n (h3.1 b o n z), fun b xs z => u.2 _ _ (h3.2 _ _ z)⟩, h4⟩
theorem RowB.fin (h : RowB w K H l H' d t x) : RowAt w K H H' d t x := by
  obtain ⟨Hr, Hs, h1, h2, h3, h0, a, y1, y2, g1, ⟨g2, dx, fs, g3, g4, g5⟩, g6, g7⟩ := h
  have ne : ∀ {b : Addr} {o : HO}, Hr b = some o → (∀ zs, o ≠ .lst zs) → b ≠ l := fun {b o} hb ho e => by
    rcases h2 with z | ⟨⟨zs, z⟩, _⟩
    · rw [e, z] at hb; cases hb
    · rw [e, z] at hb; exact ho zs (Option.some.inj hb).symm
  have dn : ∀ {v : V}, Da w K Hr (fun b => Hs b = none) v d → Da w K H' (fun b => H b = none) v d := fun {v} hv => hv.on (fun b o m hb => h3.1 b o (fun e => by
      rcases h2 with z | ⟨_, z⟩
      · rw [e, z] at hb; cases hb
      · rw [e] at m; exact z m) hb) h3.2 fun b m => h1 b m
  exact ⟨h1 _ h0, a, y1, y2, h3.1 _ _ (ne g1 fun _ z => by cases z) g1, ⟨h1 _ g2, dx, fs, h1 _ g3, h3.1 _ _ (ne g4 fun _ z => by unfold exo at z; cases z) g4, h3.1 _ _ (ne g5 fun _ z => by unfold exd at z; cases z) g5⟩, dn g6, dn g7⟩
end
/-- the rows so far -/
def Rows (w : World) (K : PySem.W.Frag) (H H' : Hp) (d : PyData) (l : Addr) (ts : List Addr) (xs : List (Addr × Int)) : Prop := Same H H' ∧ H l = none ∧ H' l = some (.lst (ts.map V.ref)) ∧ Paired (fun t x => RowB w K H l H' d t x) ts xs
section
variable {w : World} {K K' : PySem.W.Frag} {H H' : Hp} {d : PyData} {l C : Addr} {n : Str} {v : V} {i : Int} {ts : List Addr} {xs : List (Addr × Int)} {D : Ends} {rest : TS}
abbrev tRow (w : World) (K : PySem.W.Frag) (C : Addr) (n : Str) (i : Int) : TE := tTup (tCons (tMkV C (spExI C n (spCp2 w K 4)) (tCons (tVar 0) tNil)) (tCons (tXf C n (tMkK C (spExI C n (spCp2 w K 4)) (tVar 0))) (tCons (tXf C n (tMkV C (spExI C n (spCp2 w K 4)) (tCons (tVar 0) tNil))) (tCons (tC (.int i)) tNil))))
theorem row_mkL {σ : L2.St} (hσ : σ[0]? = some (some v)) (hv : Da w K H (fun _ => True) v d) (hd : d.depth ≤ 4) (hb : d.bulk ≤ 1000) {Q : List V → Hp → Prop} (q : ∀ t H', Same H H' → RowAt w K H H' d t (C, i) → Q [.ref t] H') : tCons (tRow w K C n i) tNil σ H Q := by
  show tRow w K C n i σ H (fun x H1 => Q [x] H1)
  exact row_mk hσ hv hd hb q
theorem row_first (hv : Da w K H (fun _ => True) v d) (hd : d.depth ≤ 4) (hb : d.bulk ≤ 1000) (k : ∀ l t H', Rows w K H H' d l [t] [(C, i)] → rest D [some v, some (.ref l)] H') : tSeq (tAsg (tLst (tCons (tRow w K C n i) tNil)) (gName 1)) rest D [some v, none] H := by
  show tCons (tRow w K C n i) tNil [some v, none] H (fun xs H1 => xs.length ≤ sizeLine ∧ ∀ p, H1 p = none → rest D [some v, some (.ref p)] (upd H1 p (.lst xs)))
  refine row_mkL rfl hv hd hb fun t H1 e1 r1 => ?_
  refine ⟨by show 1 ≤ sizeLine; decide, fun l hl => ?_⟩
  have el := same_new (o := .lst [V.ref t]) hl
  exact k l t _ ⟨e1.trans el, e1.free hl, upd_same, .cons ⟨H1, H, fun _ z => z, .inl hl, ⟨fun b o _ z => el b o z, sqt_same el⟩, r1⟩ .nil⟩
theorem row_next (hv : Da w K H (fun _ => True) v d) (hd : d.depth ≤ 4) (hb : d.bulk ≤ 1000) (R : Rows w K H H' d l ts xs) (hl : ts.length < 100) (k : ∀ t H2, Rows w K H H2 d l (ts ++ [t]) (xs ++ [(C, i)]) → rest D [some v, some (.ref l)] H2) :
    tSeq (tDrop (tBM K' "list" rAppend (tVar 1) (tCons (tRow w K C n i) tNil))) rest D [some v, some (.ref l)] H' := by
  obtain ⟨e0, h0, h1, h2⟩ := R
  refine ⟨_, rfl, .inl ⟨rfl, _, SqL.of h1⟩, ?_⟩
  refine row_mkL rfl (hv.same e0) hd hb fun t H2 e2 r2 => ?_
  have hl2 := e2 _ _ h1
  refine ⟨l, _, _, rfl, rfl, hl2, by rw [List.length_map]; exact sz_lt (by omega), ?_⟩
  have u : Up K l H2 (upd H2 l (.lst (ts.map V.ref ++ [V.ref t]))) := ⟨fun b o n z => by rw [upd_ne n]; exact z, sqt_chg hl2 (fun _ z => by cases z) (fun _ _ z => by cases z)⟩
  refine k t _ ⟨same_chg (e0.trans e2) h0, h0, by rw [List.map_append]; exact upd_same, paired_snoc (Paired.mapP h2 fun _ _ q => (q.up ⟨fun b o _ z => e2 b o z, sqt_same e2⟩).up u) ⟨H2, H', fun b z => e0.free z, .inr ⟨⟨_, hl2⟩, by rw [h1]; exact fun z => nomatch z⟩, u, r2⟩⟩
end
section
variable {P : Program} {w : World} {K : PySem.W.Frag} {mg : Str → Option Value} {base : Heap}
abbrev s_L_made : Stmt := top 34
theorem sc_L_made : FnScope ["_law_thing", "_law_found"] ["_law_thing"] (defScope s_L_made) := ⟨rfl, rfl, rfl, by decide +kernel, rfl, by decide +kernel, by decide +kernel⟩
theorem ok_made {c : Cs} (E : Ex P w K mg base 6 c (spCp2 w K 4)) {f : Addr} {fd : FuncData} (F : Fun K "_law_made" "_law_made" s_L_made f fd) (B : Bi mg) : FnOk P w K mg base CX0 8 f fd ["_law_thing"] (spMade w K c) := by
  refine F.ok sc_L_made (fun vs H Q E h => ?_) (fun cdv A outer s H vs Q E' hr h => ?_)
  · obtain ⟨v, d, rfl, _⟩ := h
    rfl
  · obtain ⟨v, d, rfl, hv, hd, hb, k⟩ := h
    have hu := hu_of hr
    refine ⟨_, (pss_cons (ps_set (i := 1) sc_L_made.nd rfl (Or.inl rfl) (pe_lst (pa_cons (pe_tup (pa_cons (pe_eV E.InvalidFunctions hr (by decide) (by rfl) (pa_cons (pv 0) pa_nil)) (pa_cons (pe_eF E.InvalidFunctions (pe_eK E.InvalidFunctions hr (by decide) (by rfl) (pv 0)) (by rfl)) (pa_cons (pe_eF E.InvalidFunctions (pe_eV E.InvalidFunctions hr (by decide) (by rfl) (pa_cons (pv 0) pa_nil)) (by rfl)) (pa_cons pe_int pa_nil))))) pa_nil)))
      (pss_cons (ps_expr (pe_bm PySem.F.plainAttrs_list PySem.F.slot_list_append PySem.F.type_list_append mt_append (pv 1) (pa_cons (pe_tup (pa_cons (pe_eV E.InvalidFunction hr (by decide) (by rfl) (pa_cons (pv 0) pa_nil)) (pa_cons (pe_eF E.InvalidFunction (pe_eK E.InvalidFunction hr (by decide) (by rfl) (pv 0)) (by rfl)) (pa_cons (pe_eF E.InvalidFunction (pe_eV E.InvalidFunction hr (by decide) (by rfl) (pa_cons (pv 0) pa_nil)) (by rfl)) (pa_cons pe_int pa_nil))))) pa_nil)))
      (pss_cons (ps_expr (pe_bm PySem.F.plainAttrs_list PySem.F.slot_list_append PySem.F.type_list_append mt_append (pv 1) (pa_cons (pe_tup (pa_cons (pe_eV E.InvalidNames hr (by decide) (by rfl) (pa_cons (pv 0) pa_nil)) (pa_cons (pe_eF E.InvalidNames (pe_eK E.InvalidNames hr (by decide) (by rfl) (pv 0)) (by rfl)) (pa_cons (pe_eF E.InvalidNames (pe_eV E.InvalidNames hr (by decide) (by rfl) (pa_cons (pv 0) pa_nil)) (by rfl)) (pa_cons pe_int pa_nil))))) pa_nil)))
      (pss_cons (ps_expr (pe_bm PySem.F.plainAttrs_list PySem.F.slot_list_append PySem.F.type_list_append mt_append (pv 1) (pa_cons (pe_tup (pa_cons (pe_eV E.InvalidStatement hr (by decide) (by rfl) (pa_cons (pv 0) pa_nil)) (pa_cons (pe_eF E.InvalidStatement (pe_eK E.InvalidStatement hr (by decide) (by rfl) (pv 0)) (by rfl)) (pa_cons (pe_eF E.InvalidStatement (pe_eV E.InvalidStatement hr (by decide) (by rfl) (pa_cons (pv 0) pa_nil)) (by rfl)) (pa_cons pe_int pa_nil))))) pa_nil)))
      (pss_cons (ps_expr (pe_bm PySem.F.plainAttrs_list PySem.F.slot_list_append PySem.F.type_list_append mt_append (pv 1) (pa_cons (pe_tup (pa_cons (pe_eV E.InvalidChoice hr (by decide) (by rfl) (pa_cons (pv 0) pa_nil)) (pa_cons (pe_eF E.InvalidChoice (pe_eK E.InvalidChoice hr (by decide) (by rfl) (pv 0)) (by rfl)) (pa_cons (pe_eF E.InvalidChoice (pe_eV E.InvalidChoice hr (by decide) (by rfl) (pa_cons (pv 0) pa_nil)) (by rfl)) (pa_cons pe_int pa_nil))))) pa_nil)))
      (pss_cons (ps_expr (pe_bm PySem.F.plainAttrs_list PySem.F.slot_list_append PySem.F.type_list_append mt_append (pv 1) (pa_cons (pe_tup (pa_cons (pe_eV E.InvalidPlaces hr (by decide) (by rfl) (pa_cons (pv 0) pa_nil)) (pa_cons (pe_eF E.InvalidPlaces (pe_eK E.InvalidPlaces hr (by decide) (by rfl) (pv 0)) (by rfl)) (pa_cons (pe_eF E.InvalidPlaces (pe_eV E.InvalidPlaces hr (by decide) (by rfl) (pa_cons (pv 0) pa_nil)) (by rfl)) (pa_cons pe_int pa_nil))))) pa_nil)))
      (pss_cons (ps_expr (pe_bm PySem.F.plainAttrs_list PySem.F.slot_list_append PySem.F.type_list_append mt_append (pv 1) (pa_cons (pe_tup (pa_cons (pe_eV E.InvalidPaper hr (by decide) (by rfl) (pa_cons (pv 0) pa_nil)) (pa_cons (pe_eF E.InvalidPaper (pe_eK E.InvalidPaper hr (by decide) (by rfl) (pv 0)) (by rfl)) (pa_cons (pe_eF E.InvalidPaper (pe_eV E.InvalidPaper hr (by decide) (by rfl) (pa_cons (pv 0) pa_nil)) (by rfl)) (pa_cons pe_int pa_nil))))) pa_nil)))
      (pss_cons (ps_expr (pe_bm PySem.F.plainAttrs_list PySem.F.slot_list_append PySem.F.type_list_append mt_append (pv 1) (pa_cons (pe_tup (pa_cons (pe_eV E.InvalidPrices hr (by decide) (by rfl) (pa_cons (pv 0) pa_nil)) (pa_cons (pe_eF E.InvalidPrices (pe_eK E.InvalidPrices hr (by decide) (by rfl) (pv 0)) (by rfl)) (pa_cons (pe_eF E.InvalidPrices (pe_eV E.InvalidPrices hr (by decide) (by rfl) (pa_cons (pv 0) pa_nil)) (by rfl)) (pa_cons pe_int pa_nil))))) pa_nil)))
      (pss_cons (ps_expr (pe_bm PySem.F.plainAttrs_list PySem.F.slot_list_append PySem.F.type_list_append mt_append (pv 1) (pa_cons (pe_tup (pa_cons (pe_eV E.InvalidProfile hr (by decide) (by rfl) (pa_cons (pv 0) pa_nil)) (pa_cons (pe_eF E.InvalidProfile (pe_eK E.InvalidProfile hr (by decide) (by rfl) (pv 0)) (by rfl)) (pa_cons (pe_eF E.InvalidProfile (pe_eV E.InvalidProfile hr (by decide) (by rfl) (pa_cons (pv 0) pa_nil)) (by rfl)) (pa_cons pe_int pa_nil))))) pa_nil)))
      (pss_cons (ps_expr (pe_bm PySem.F.plainAttrs_list PySem.F.slot_list_append PySem.F.type_list_append mt_append (pv 1) (pa_cons (pe_tup (pa_cons (pe_eV E.InvalidText hr (by decide) (by rfl) (pa_cons (pv 0) pa_nil)) (pa_cons (pe_eF E.InvalidText (pe_eK E.InvalidText hr (by decide) (by rfl) (pv 0)) (by rfl)) (pa_cons (pe_eF E.InvalidText (pe_eV E.InvalidText hr (by decide) (by rfl) (pa_cons (pv 0) pa_nil)) (by rfl)) (pa_cons pe_int pa_nil))))) pa_nil)))
      (pss_cons (ps_expr (pe_bm PySem.F.plainAttrs_list PySem.F.slot_list_append PySem.F.type_list_append mt_append (pv 1) (pa_cons (pe_tup (pa_cons (pe_eV E.InvalidStates hr (by decide) (by rfl) (pa_cons (pv 0) pa_nil)) (pa_cons (pe_eF E.InvalidStates (pe_eK E.InvalidStates hr (by decide) (by rfl) (pv 0)) (by rfl)) (pa_cons (pe_eF E.InvalidStates (pe_eV E.InvalidStates hr (by decide) (by rfl) (pa_cons (pv 0) pa_nil)) (by rfl)) (pa_cons pe_int pa_nil))))) pa_nil)))
      (pss_cons (ps_expr (pe_bm PySem.F.plainAttrs_list PySem.F.slot_list_append PySem.F.type_list_append mt_append (pv 1) (pa_cons (pe_tup (pa_cons (pe_eV E.NotClosed hr (by decide) (by rfl) (pa_cons (pv 0) pa_nil)) (pa_cons (pe_eF E.NotClosed (pe_eK E.NotClosed hr (by decide) (by rfl) (pv 0)) (by rfl)) (pa_cons (pe_eF E.NotClosed (pe_eV E.NotClosed hr (by decide) (by rfl) (pa_cons (pv 0) pa_nil)) (by rfl)) (pa_cons pe_int pa_nil))))) pa_nil)))
      (pss_cons (ps_expr (pe_bm PySem.F.plainAttrs_list PySem.F.slot_list_append PySem.F.type_list_append mt_append (pv 1) (pa_cons (pe_tup (pa_cons (pe_eV E.Faulty hr (by decide) (by rfl) (pa_cons (pv 0) pa_nil)) (pa_cons (pe_eF E.Faulty (pe_eK E.Faulty hr (by decide) (by rfl) (pv 0)) (by rfl)) (pa_cons (pe_eF E.Faulty (pe_eV E.Faulty hr (by decide) (by rfl) (pa_cons (pv 0) pa_nil)) (by rfl)) (pa_cons pe_int pa_nil))))) pa_nil)))
      (pss_cons (ps_expr (pe_bm PySem.F.plainAttrs_list PySem.F.slot_list_append PySem.F.type_list_append mt_append (pv 1) (pa_cons (pe_tup (pa_cons (pe_eV E.UnknownFunction hr (by decide) (by rfl) (pa_cons (pv 0) pa_nil)) (pa_cons (pe_eF E.UnknownFunction (pe_eK E.UnknownFunction hr (by decide) (by rfl) (pv 0)) (by rfl)) (pa_cons (pe_eF E.UnknownFunction (pe_eV E.UnknownFunction hr (by decide) (by rfl) (pa_cons (pv 0) pa_nil)) (by rfl)) (pa_cons pe_int pa_nil))))) pa_nil)))
      (pss_cons (ps_expr (pe_bm PySem.F.plainAttrs_list PySem.F.slot_list_append PySem.F.type_list_append mt_append (pv 1) (pa_cons (pe_tup (pa_cons (pe_eV E.UnknownSpot hr (by decide) (by rfl) (pa_cons (pv 0) pa_nil)) (pa_cons (pe_eF E.UnknownSpot (pe_eK E.UnknownSpot hr (by decide) (by rfl) (pv 0)) (by rfl)) (pa_cons (pe_eF E.UnknownSpot (pe_eV E.UnknownSpot hr (by decide) (by rfl) (pa_cons (pv 0) pa_nil)) (by rfl)) (pa_cons pe_int pa_nil))))) pa_nil)))
      (pss_cons (ps_expr (pe_bm PySem.F.plainAttrs_list PySem.F.slot_list_append PySem.F.type_list_append mt_append (pv 1) (pa_cons (pe_tup (pa_cons (pe_eV E.UnknownName hr (by decide) (by rfl) (pa_cons (pv 0) pa_nil)) (pa_cons (pe_eF E.UnknownName (pe_eK E.UnknownName hr (by decide) (by rfl) (pv 0)) (by rfl)) (pa_cons (pe_eF E.UnknownName (pe_eV E.UnknownName hr (by decide) (by rfl) (pa_cons (pv 0) pa_nil)) (by rfl)) (pa_cons pe_int pa_nil))))) pa_nil)))
      (pss_cons (ps_expr (pe_bm PySem.F.plainAttrs_list PySem.F.slot_list_append PySem.F.type_list_append mt_append (pv 1) (pa_cons (pe_tup (pa_cons (pe_eV E.OutOfRange hr (by decide) (by rfl) (pa_cons (pv 0) pa_nil)) (pa_cons (pe_eF E.OutOfRange (pe_eK E.OutOfRange hr (by decide) (by rfl) (pv 0)) (by rfl)) (pa_cons (pe_eF E.OutOfRange (pe_eV E.OutOfRange hr (by decide) (by rfl) (pa_cons (pv 0) pa_nil)) (by rfl)) (pa_cons pe_int pa_nil))))) pa_nil)))
      (pss_cons (ps_expr (pe_bm PySem.F.plainAttrs_list PySem.F.slot_list_append PySem.F.type_list_append mt_append (pv 1) (pa_cons (pe_tup (pa_cons (pe_eV E.TooMany hr (by decide) (by rfl) (pa_cons (pv 0) pa_nil)) (pa_cons (pe_eF E.TooMany (pe_eK E.TooMany hr (by decide) (by rfl) (pv 0)) (by rfl)) (pa_cons (pe_eF E.TooMany (pe_eV E.TooMany hr (by decide) (by rfl) (pa_cons (pv 0) pa_nil)) (by rfl)) (pa_cons pe_int pa_nil))))) pa_nil)))
      (pss_one (ps_ret (pv 1))))))))))))))))))))), ?_⟩
    refine row_first hv hd hb fun l t0 H0 R0 => ?_
    refine row_next hv hd hb R0 (by show 1 < 100; decide) fun t1 H1 R1 => ?_
    refine row_next hv hd hb R1 (by show 2 < 100; decide) fun t2 H2 R2 => ?_
    refine row_next hv hd hb R2 (by show 3 < 100; decide) fun t3 H3 R3 => ?_
    refine row_next hv hd hb R3 (by show 4 < 100; decide) fun t4 H4 R4 => ?_
    refine row_next hv hd hb R4 (by show 5 < 100; decide) fun t5 H5 R5 => ?_
    refine row_next hv hd hb R5 (by show 6 < 100; decide) fun t6 H6 R6 => ?_
    refine row_next hv hd hb R6 (by show 7 < 100; decide) fun t7 H7 R7 => ?_
    refine row_next hv hd hb R7 (by show 8 < 100; decide) fun t8 H8 R8 => ?_
    refine row_next hv hd hb R8 (by show 9 < 100; decide) fun t9 H9 R9 => ?_
    refine row_next hv hd hb R9 (by show 10 < 100; decide) fun t10 H10 R10 => ?_
    refine row_next hv hd hb R10 (by show 11 < 100; decide) fun t11 H11 R11 => ?_
    refine row_next hv hd hb R11 (by show 12 < 100; decide) fun t12 H12 R12 => ?_
    refine row_next hv hd hb R12 (by show 13 < 100; decide) fun t13 H13 R13 => ?_
    refine row_next hv hd hb R13 (by show 14 < 100; decide) fun t14 H14 R14 => ?_
    refine row_next hv hd hb R14 (by show 15 < 100; decide) fun t15 H15 R15 => ?_
    refine row_next hv hd hb R15 (by show 16 < 100; decide) fun t16 H16 R16 => ?_
    refine row_next hv hd hb R16 (by show 17 < 100; decide) fun t17 H17 R17 => ?_
    obtain ⟨e, h0, h1, h2⟩ := R17
    exact ⟨_, rfl, k l _ _ e h0 h1 (Paired.mapP h2 fun _ _ q => q.fin)⟩
end
end Pf

set_option Elab.async false
set_option maxRecDepth 100000
set_option linter.all false
set_option maxHeartbeats 4000000
set_option pp.maxSteps 300
/-! _law_spoil: all lists and dicts of a thing are changed, nothing else is. -/
namespace Pf
open PySem PySem.Spec L2 PyProof.Rows
theorem pi_or2 {X : Cx} {tg e : Expr} {t u : TI} (h1 : PI X tg e t) (h2 : PI X tg e u) : PI X tg e (fun σ H R => t σ H R ∨ u σ H R) := ⟨fun pins s σ H R I h => h.elim (h1.run pins s σ H R I) (h2.run pins s σ H R I)⟩
def rSetM (w : World) (K : PySem.W.Frag) : TSet := fun o i v H Q => ∃ d l k, o = .ref d ∧ Dm w K H d l ∧ l.length < 100000 ∧ KeyAt K H i k ∧ ∀ es ep, Dm w K (upd H d (DxO d es ep)) d (putM l (i, v, k)) → Q (upd H d (DxO d es ep))
theorem set_dm {X : Cx} (hu : X.A.units + 9 < cLine) : PSet X (rSetM X.w X.K) := by
  intro pins s σ H o i v ov iv u Q I ro ri rv h
  obtain ⟨d, l, k, rfl, D, hl, hk, q⟩ := h
  cases (show ov = Value.ref d from ro)
  obtain ⟨es, ep, h1, h2, h3, h4, h5⟩ := D
  have ho := dxO_at I h1
  obtain ⟨k1, k2⟩ := hk.is I ri
  refine mx_setItem hu k1 k2 ho (h3.ents (keys_now I h4)) (by rw [h3.len]; exact sz_le h5) fun h' t ep' j g1 g2 g3 => ?_
  refine ⟨_, d_write I (by rw [h1]; exact True.intro) g2 ⟨_, g1⟩ (dxO_ok g1), q (putEs es (k.hash X.w) iv u j) ep' ?_⟩
  refine ⟨_, _, upd_same, h2, h3.put ri rv k2 g3, fun x hx => ?_, ?_⟩
  · rcases mem_putM hx with rfl | ⟨z, hz, e1, e2⟩
    · exact hk.chg h1 dxO_tup dxO_frz
    · rw [e1, e2]; exact (h4 z hz).chg h1 dxO_tup dxO_frz
  · have := len_putM l (i, v, k); omega
/-- isinstance(d, (c1, c2, ..)) of such a dict -/
theorem call_isMT {X : Cx} : CallR X (.builtin "isinstance") (fun xs H Q => ∃ (d tp : Addr) (es : Array DictEntry) (ep : Nat) (cs : List V) (us : List Value) (b : Bool), xs = [.ref d, .ref tp] ∧ H tp = some (.tup cs) ∧ Paired ClsV cs us ∧ H d = some (DxO d es ep) ∧ PySem.W.kitAny X.K (.type "dict") us = some b ∧ Q (.bl b) H) := by
  intro pins s σ H xs us Q I r h
  obtain ⟨d, tp, es, ep, cs, ws, b, rfl, hT, k, hd, e, q⟩ := h
  obtain ⟨u1, u2, rfl, r1, r2⟩ := vals2 r
  cases (show u1 = Value.ref d from r1)
  cases (show u2 = Value.ref tp from r2)
  obtain ⟨_, its, rv, o, h1, h2, n, h3⟩ := (show ObjOk X.prog X.w H s.heap tp (.tup cs) from I.hok tp _ hT)
  have e3 := ClsV.all k rv
  subst e3
  obtain ⟨oc, od, dt, sl⟩ := o
  simp only at h2 h3
  subst h2 h3
  exact PySem.W.kia_tup PySem.W.kitx_dict I.kIn ⟨_, dxO_at I hd, rfl⟩ h1 e (fun z => nomatch z) fun tk => ⟨.bl b, H, I.tok tk, rfl, q⟩
/-- nothing but what lies in N is changed -/
structure Chg (K : PySem.W.Frag) (N : Addr → Prop) (H H' : Hp) : Prop where
  st : ∀ a o, ¬ N a → H a = some o → H' a = some o
  tp : ∀ a xs, SqT K H a xs → SqT K H' a xs
  fr : ∀ a, H' a = none → H a = none
section
variable {K : PySem.W.Frag} {N N' : Addr → Prop} {H H1 H2 : Hp}
theorem Chg.of (e : Same H H1) : Chg K N H H1 := ⟨fun a o _ => e a o, sqt_same e, fun a h => e.free h⟩
theorem Chg.refl (H : Hp) : Chg K N H H := Chg.of (Same.refl H)
theorem Chg.trans (a : Chg K N H H1) (b : Chg K N H1 H2) : Chg K N H H2 := ⟨fun x o n h => b.st x o n (a.st x o n h), fun x xs h => b.tp _ _ (a.tp _ _ h), fun x h => a.fr x (b.fr x h)⟩
theorem Chg.mono (a : Chg K N H H1) (n : ∀ b, N b → N' b) : Chg K N' H H1 := ⟨fun x o m h => a.st x o (fun z => m (n x z)) h, a.tp, a.fr⟩
theorem Chg.lst {a : Addr} {xs ys : List V} (hN : N a) (h : H a = some (.lst xs)) : Chg K N H (upd H a (.lst ys)) := ⟨fun b o m hb => by rw [upd_ne (fun e => m (by rw [e]; exact hN))]; exact hb, sqt_chg h (fun _ z => by cases z) (fun _ _ z => by cases z), fun b hb => by
  by_cases e : b = a
  · rw [e, upd_same] at hb; cases hb
  · rw [upd_ne e] at hb; exact hb⟩
theorem Chg.dm {a : Addr} {es es' : Array DictEntry} {ep ep' : Nat} (hN : N a) (h : H a = some (DxO a es ep)) : Chg K N H (upd H a (DxO a es' ep')) := ⟨fun b o m hb => by rw [upd_ne (fun e => m (by rw [e]; exact hN))]; exact hb, sqt_chg h dxO_tup dxO_frz, fun b hb => by
  by_cases e : b = a
  · rw [e, upd_same] at hb; cases hb
  · rw [upd_ne e] at hb; exact hb⟩
end
def spSpoil (w : World) (K : PySem.W.Frag) (n : Nat) : Sp := fun vs H Q _ => ∃ (v : V) (d : PyData) (N : Addr → Prop), vs = [v] ∧ Fp w K H N v d ∧ d.depth ≤ n ∧ d.bulk ≤ 1000 ∧ ∀ H', Chg K N H H' → Q .non H'
theorem kit_lt {K : PySem.W.Frag} {t : String} {b r : Bool} (h1 : kitB t "list" = some b) (h2 : kitB t "tuple" = some r) : PySem.W.kitAny K (.type t) [.type "list", .type "tuple"] = some (b || r) := by
  refine kitAny_cons (b := b) (kit_ty h1) (fun e => ?_) (fun e => by rw [e]; rfl)
  subst e
  refine kitAny_cons (b := r) (kit_ty h2) (fun e => ?_) (fun e => by rw [e]; rfl)
  subst e
  exact kitAny_nil
/-- the walk over the parts -/
theorem spoil_loop {w : World} {K : PySem.W.Frag} {spR : Sp} {n : Nat} {J : It} {G : Hp → Prop} {xs : List V} {ds : List PyData} {M : Addr → Prop} {H H0 : Hp} {a : Addr} {D : Ends} (wk : Walk J xs.length G (YAt xs))
    (hR : ∀ v H (Q : VK) d N, Fp w K H N v d → d.depth < n → d.bulk ≤ 1000 → (∀ H', Chg K N H H' → Q .non H') → spR [v] H Q C8.E0) (hG : ∀ H', Chg K M H H' → G H') (c0 : Chg K M H H0) (hx : FpAll w K H0 M xs ds) (hdp : PyData.depthAll ds < n) (hbk : PyData.bulkAll ds ≤ 1000)
    (q : ∀ x H', Chg K M H H' → D.nx [some (.ref a), x, none] H') : ∃ W : Nat → Nat → L2.St → Hp → Prop, (∃ m, W 0 m [some (.ref a), none, none] H0) ∧ ∀ i m σ H, W i m σ H →
      (J.stop i H ∧ D.nx σ H) ∨ (J.go i H ∧ ∃ N : L2.St → Hp → Prop, (∀ σ' H', N σ' H' → ∃ m', m' < m ∧ W (i + 1) m' σ' H') ∧ ∀ x H', J.yld i H x H' → gName 1 x σ H' fun σ2 H2 => tDrop (tCall spR [] C8.E0 (tCons (tVar 1) tNil)) { D with nx := N, ct := N, bk := D.nx } σ2 H2) := by
  refine for_it wk (fun i σ H' => (∃ x, σ = [some (.ref a), x, none]) ∧ Chg K M H H' ∧ ∃ M', FpAll w K H' M' (xs.drop i) (ds.drop i) ∧ ∀ b, M' b → M b) ⟨⟨_, rfl⟩, c0, M, hx, fun _ z => z⟩ (fun i σ H' _ z => hG _ z.2.1) ?_ ?_
  · rintro i x σ H1 H1' hi ⟨⟨y, rfl⟩, c1, M', hf, hM⟩ ⟨rfl, hxi⟩
    have hl := hx.length
    have e1 : xs.drop i = x :: xs.drop (i + 1) := by rw [List.drop_eq_getElem_cons hi]; congr 1; rw [List.getElem?_eq_getElem hi] at hxi; exact Option.some.inj hxi
    have hi2 : i < ds.length := by omega
    have e2 : ds.drop i = ds[i] :: ds.drop (i + 1) := List.drop_eq_getElem_cons hi2
    rw [e1, e2] at hf
    cases hf with
    | @cons _ N1 N2 _ _ _ _ f1 f2 i1 i2 =>
      refine ⟨x, rfl, ?_⟩
      refine hR _ _ _ _ _ f1 (by have := depth_at (List.getElem?_eq_getElem hi2); omega) (by have := bulk_at (List.getElem?_eq_getElem hi2); omega) fun H2 c2 => ?_
      refine ⟨⟨_, rfl⟩, c1.trans (c2.mono fun b z => hM _ (i1 b z)), N2, f2.on c2.tp (fun b o z h => c2.st b o (i2 b z).2 h) (fun _ z => z), fun b z => hM _ (i2 b z).1⟩
  · rintro σ H1 ⟨⟨x, rfl⟩, c1, _⟩
    exact q x H1 c1
/-- the walk over the keys -/
theorem spoil_keys {w : World} {K : PySem.W.Frag} {spR : Sp} {n : Nat} {es : Array DictEntry} {ep : Nat} {l : List MK} {ds : List (PyData × PyData)} {M : Addr → Prop} {H H0 : Hp} {a : Addr} {D : Ends}
    (hR : ∀ v H (Q : VK) d N, Fp w K H N v d → d.depth < n → d.bulk ≤ 1000 → (∀ H', Chg K N H H' → Q .non H') → spR [v] H Q C8.E0) (hD : Dm w K H a l) (he : H a = some (DxO a es ep)) (hM0 : ¬ M a) (c0 : Chg K M H H0) (hx : FpMk w K H0 M l ds) (hdp : PyData.depthKv ds < n) (hbk : PyData.bulkKv ds ≤ 1000)
    (q : ∀ x H', Chg K M H H' → D.nx [some (.ref a), none, x] H') : ∃ W : Nat → Nat → L2.St → Hp → Prop, (∃ m, W 0 m [some (.ref a), none, none] H0) ∧ ∀ i m σ H, W i m σ H →
      ((ItX a es ep l).stop i H ∧ D.nx σ H) ∨ ((ItX a es ep l).go i H ∧ ∃ N : L2.St → Hp → Prop, (∀ σ' H', N σ' H' → ∃ m', m' < m ∧ W (i + 1) m' σ' H') ∧ ∀ x H', (ItX a es ep l).yld i H x H' → gName 2 x σ H' fun σ2 H2 => tDrop (tCall spR [] C8.E0 (tCons (tDGetM w K (tVar 0) (tVar 2)) tNil)) { D with nx := N, ct := N, bk := D.nx } σ2 H2) := by
  refine for_it walk_keyX (fun i σ H' => (∃ x, σ = [some (.ref a), none, x]) ∧ Chg K M H H' ∧ ∃ M', FpMk w K H' M' (l.drop i) (ds.drop i) ∧ ∀ b, M' b → M b) ⟨⟨_, rfl⟩, c0, M, hx, fun _ z => z⟩ (fun i σ H' _ z => z.2.1.st _ _ hM0 he) ?_ ?_
  · rintro i x σ H1 H1' hi ⟨⟨y, rfl⟩, c1, M', hf, hM⟩ ⟨rfl, hxi⟩
    have hl := hx.length
    have hxe : x = (l[i]).1 := by rw [List.getElem?_map, List.getElem?_eq_getElem hi] at hxi; exact (Option.some.inj hxi).symm
    subst hxe
    have e1 : l.drop i = l[i] :: l.drop (i + 1) := List.drop_eq_getElem_cons hi
    have hi2 : i < ds.length := by omega
    have e2 : ds.drop i = ds[i] :: ds.drop (i + 1) := List.drop_eq_getElem_cons hi2
    have hD1 : Dm w K H1' a l := hD.on (fun o h => c1.st _ o hM0 h) c1.tp
    have hka : KeyAt K H1' (l[i]).1 (l[i]).2.2 := by
      obtain ⟨es2, ep2, _, _, _, h4, _⟩ := hD1
      exact h4 _ (List.getElem_mem hi)
    rw [e1, e2] at hf
    refine ⟨_, rfl, _, rfl, a, l, i, l[i], (l[i]).2.2, rfl, hD1, hka, List.getElem?_eq_getElem hi, rfl, ?_⟩
    have hdi : ds[i]? = some ((ds[i]).1, (ds[i]).2) := List.getElem?_eq_getElem hi2
    have q1 := depthKv_at hdi
    have q2 := bulkKv_at hdi
    generalize l[i] = z at hf
    generalize ds[i] = z' at hf q1 q2
    cases hf with
    | @cons _ N1 N2 _ _ _ _ _ _ _ _ f1 f2 i1 i2 =>
      refine hR _ _ _ _ _ f1 (by dsimp only at q1; omega) (by dsimp only at q2; omega) fun H2 c2 => ?_
      refine ⟨⟨_, rfl⟩, c1.trans (c2.mono fun b z => hM _ (i1 b z)), N2, f2.on c2.tp (fun b o z h => c2.st b o (i2 b z).2 h) (fun _ z => z), fun b z => hM _ (i2 b z).1⟩
  · rintro σ H1 ⟨⟨x, rfl⟩, c1, _⟩
    exact q x H1 c1
section
variable {P : Program} {w : World} {K : PySem.W.Frag} {mg : Str → Option Value} {base : Heap}
abbrev s_L_spoil : Stmt := top 37
theorem sc_L_spoil : FnScope ["_law_thing", "_law_part", "_law_key"] ["_law_thing"] (defScope s_L_spoil) := ⟨rfl, rfl, rfl, by decide +kernel, rfl, by decide +kernel, by decide +kernel⟩
theorem spoil_step {n k : Nat} {spR : Sp} {f : Addr} {fd : FuncData} (F : Fun K "_law_spoil" "_law_spoil" s_L_spoil f fd) (B : Bi mg) (C__law_spoil : C8.Cal P w K mg base k "_law_spoil" spR [])
    (hR : ∀ v H (Q : VK) d N, Fp w K H N v d → d.depth < n → d.bulk ≤ 1000 → (∀ H', Chg K N H H' → Q .non H') → spR [v] H Q C8.E0) : FnOk P w K mg base CX0 (k + 1) f fd ["_law_thing"] (spSpoil w K n) := by
  refine F.ok sc_L_spoil (fun vs H Q E h => ?_) (fun cdv A outer s H vs Q E hr h => ?_)
  · obtain ⟨v, d, N, rfl, _⟩ := h
    rfl
  · obtain ⟨v, d, N, rfl, hv, hd, hb, k⟩ := h
    have hu := hu_of hr
    refine ⟨_, (C8.pss_cut (ps_if (pt_val (pe_callB (cr_or call_isiT call_isMT) (by rfl) B.isinstance (by decide +kernel) (pa_cons (pv 0) (pa_cons (pe_tup (pa_cons (pe_bltn (v := .ty "list") (u := .type "list") (by rfl) B.list (by decide +kernel) rfl) (pa_cons (pe_bltn (v := .ty "tuple") (u := .type "tuple") (by rfl) B.tuple (by decide +kernel) rfl) pa_nil))) pa_nil))))
        (pss_one (ps_for PassesOwn.never rfl (pi_or2 (pi_list (pv 0)) (pi_tup (pv 0))) (pg_name (i := 1) sc_L_spoil.nd rfl (Or.inl rfl))
          (pss_one (ps_expr (C8.pe_c C__law_spoil hr (Nat.le_refl _) (by rfl) (pa_cons (pv 1) pa_nil))))))
        pss_nil)
      (C8.pss_cut (ps_if (pt_val (pe_callB (cr_or call_isi call_isM) (by rfl) B.isinstance (by decide +kernel) (pa_cons (pv 0) (pa_cons (pe_bltn (v := .ty "dict") (u := .type "dict") (by rfl) B.dict (by decide +kernel) rfl) pa_nil))))
        (pss_cons (ps_for PassesOwn.never rfl (pi_keyX (pv 0)) (pg_name (i := 2) sc_L_spoil.nd rfl (Or.inl rfl))
          (pss_one (ps_expr (C8.pe_c C__law_spoil hr (Nat.le_refl _) (by rfl) (pa_cons (pe_dgetM (room9 hr) (pv 0) (pv 2) (fun _ _ => rfl)) pa_nil)))))
        (pss_one (ps_asg pe_int (pg_sub (pv 0) pe_str (set_dm (room9 hr))))))
        pss_nil)
      (pss_one (ps_if (pt_val (pe_callB (cr_or call_isi call_isM) (by rfl) B.isinstance (by decide +kernel) (pa_cons (pv 0) (pa_cons (pe_bltn (v := .ty "list") (u := .type "list") (by rfl) B.list (by decide +kernel) rfl) pa_nil))))
        (pss_one (ps_expr (pe_bm PySem.F.plainAttrs_list PySem.F.slot_list_append PySem.F.type_list_append mt_append (pv 0) (pa_cons pe_str pa_nil))))
        pss_nil)))), ?_⟩
    have pr : Paired ClsV [V.ty "list", V.ty "tuple"] [Value.type "list", Value.type "tuple"] := .cons (.ty _) (.cons (.ty _) .nil)
    have cs : (∃ t, (∀ H', TyX K H' v (.type t)) ∧ kitB t "list" = some false ∧ kitB t "tuple" = some false ∧ kitB t "dict" = some false) ∨ (∃ a xs ds, v = .ref a ∧ d = .list ds ∧ N a ∧ H a = some (.lst xs) ∧ FpAll w K H (fun b => N b ∧ b ≠ a) xs ds) ∨
        (∃ a xs ds, v = .ref a ∧ d = .tuple ds ∧ SqT K H a xs ∧ FpAll w K H N xs ds) ∨ (∃ a l ds, v = .ref a ∧ d = .dict ds ∧ N a ∧ Dm w K H a l ∧ FpMk w K H (fun b => N b ∧ b ≠ a) l ds) := by
      cases hv with
      | non => exact .inl ⟨"NoneType", fun _ => .base .non, by decide +kernel, by decide +kernel, by decide +kernel⟩
      | bl b => exact .inl ⟨"bool", fun _ => .base (.bl b), by decide +kernel, by decide +kernel, by decide +kernel⟩
      | int i => exact .inl ⟨"int", fun _ => .base (.int i), by decide +kernel, by decide +kernel, by decide +kernel⟩
      | str x => exact .inl ⟨"str", fun _ => .base (.str x), by decide +kernel, by decide +kernel, by decide +kernel⟩
      | lst h1 h2 h3 => exact .inr (.inl ⟨_, _, _, rfl, rfl, h1, h2, h3⟩)
      | tup h2 h3 => exact .inr (.inr (.inl ⟨_, _, _, rfl, rfl, h2, h3⟩))
      | dM h1 h2 h3 => exact .inr (.inr (.inr ⟨_, _, _, rfl, rfl, h1, h2, h3⟩))
    rcases cs with ⟨t, ty, k1, k2, k3⟩ | ⟨a, xs, ds, rfl, rfl, hN, ha, hx⟩ | ⟨a, xs, ds, rfl, rfl, ha, hx⟩ | ⟨a, l, ds, rfl, rfl, hN, ha, hx⟩
    · refine ⟨fun σ' H' => σ' = [some v, none, none] ∧ Chg K N H H', ?_, ?_⟩
      · exact ⟨_, rfl, by show 2 ≤ sizeLine; decide, fun tp htp => .inl ⟨_, tp, _, .type t, _, _, rfl, upd_same, pr, ty _, kit_lt k1 k2, _, rfl, iteF ⟨rfl, Chg.of (same_new htp)⟩⟩⟩
      · rintro σ' H' ⟨rfl, c⟩
        refine ⟨fun σ' H' => σ' = [some v, none, none] ∧ Chg K N H H', ?_, ?_⟩
        · exact ⟨_, rfl, .inl ⟨_, _, _, _, false, rfl, .ty "dict", ty _, kit_ty k3, false, rfl, iteF ⟨rfl, c⟩⟩⟩
        · rintro σ' H' ⟨rfl, c⟩
          exact ⟨_, rfl, .inl ⟨_, _, _, _, false, rfl, .ty "list", ty _, kit_ty k1, false, rfl, iteF (k _ c)⟩⟩
    · refine ⟨fun σ' H' => (∃ x, σ' = [some (.ref a), x, none]) ∧ Chg K (fun b => N b ∧ b ≠ a) H H', ?_, ?_⟩
      · refine ⟨_, rfl, by show 2 ≤ sizeLine; decide, fun tp htp => .inl ⟨_, tp, _, .type "list", _, _, rfl, upd_same, pr, sql_ty (sql_on (fun o h => same_new htp _ o h) (SqL.of ha)), kit_lt (b := true) (r := false) (by decide +kernel) (by decide +kernel), _, rfl, iteT ?_⟩⟩
        have e0 := same_new (o := .tup [V.ty "list", V.ty "tuple"]) htp
        refine .inl ⟨_, rfl, a, rfl, ⟨_, SqL.of (e0 _ _ ha)⟩, ?_⟩
        exact spoil_loop (n := n) walk_list hR (fun H' c => SqL.of (c.st _ _ (fun z => z.2 rfl) ha)) (Chg.of e0) (hx.same e0) (by rw [PyData.depth] at hd; omega) (by rw [PyData.bulk] at hb; exact hb) fun x H' c => ⟨⟨_, rfl⟩, c⟩
      · rintro σ' H' ⟨⟨x, rfl⟩, c⟩
        have ha' := c.st _ _ (fun z => z.2 rfl) ha
        refine ⟨fun σ' H2 => (∃ x, σ' = [some (.ref a), x, none]) ∧ H2 = H', ?_, ?_⟩
        · exact ⟨_, rfl, .inl ⟨_, _, _, _, false, rfl, .ty "dict", sql_ty (SqL.of ha'), kit_ty (by decide +kernel), false, rfl, iteF ⟨⟨_, rfl⟩, rfl⟩⟩⟩
        · rintro σ' H2 ⟨⟨x, rfl⟩, rfl⟩
          refine ⟨_, rfl, .inl ⟨_, _, _, _, true, rfl, .ty "list", sql_ty (SqL.of ha'), kit_ty (by decide +kernel), true, rfl, iteT ?_⟩⟩
          have hl : xs.length ≤ 1000 := by rw [hx.length]; exact Nat.le_trans (bulk_len ds) (by rw [PyData.bulk] at hb; exact hb)
          exact ⟨_, rfl, .inl ⟨rfl, _, SqL.of ha'⟩, a, _, _, rfl, rfl, ha', sz_lt (by omega), k _ ((c.mono fun b z => z.1).trans (Chg.lst hN ha'))⟩
    · refine ⟨fun σ' H' => (∃ x, σ' = [some (.ref a), x, none]) ∧ Chg K N H H', ?_, ?_⟩
      · refine ⟨_, rfl, by show 2 ≤ sizeLine; decide, fun tp htp => .inl ⟨_, tp, _, .type "tuple", _, _, rfl, upd_same, pr, sqt_ty (sqt_same (same_new htp) _ _ ha), kit_lt (b := false) (r := true) (by decide +kernel) (by decide +kernel), _, rfl, iteT ?_⟩⟩
        have e0 := same_new (o := .tup [V.ty "list", V.ty "tuple"]) htp
        refine .inr ⟨_, rfl, a, rfl, ⟨_, sqt_same e0 _ _ ha⟩, ?_⟩
        exact spoil_loop (n := n) walk_tup hR (fun H' c => c.tp _ _ ha) (Chg.of e0) (hx.same e0) (by rw [PyData.depth] at hd; omega) (by rw [PyData.bulk] at hb; exact hb) fun x H' c => ⟨⟨_, rfl⟩, c⟩
      · rintro σ' H' ⟨⟨x, rfl⟩, c⟩
        have ha' := c.tp _ _ ha
        refine ⟨fun σ' H2 => (∃ x, σ' = [some (.ref a), x, none]) ∧ H2 = H', ?_, ?_⟩
        · exact ⟨_, rfl, .inl ⟨_, _, _, _, false, rfl, .ty "dict", sqt_ty ha', kit_ty (by decide +kernel), false, rfl, iteF ⟨⟨_, rfl⟩, rfl⟩⟩⟩
        · rintro σ' H2 ⟨⟨x, rfl⟩, rfl⟩
          exact ⟨_, rfl, .inl ⟨_, _, _, _, false, rfl, .ty "list", sqt_ty ha', kit_ty (by decide +kernel), false, rfl, iteF (k _ c)⟩⟩
    · obtain ⟨es, ep, g1, _⟩ := id ha
      have hl : l.length ≤ 1000 := by rw [hx.length]; exact Nat.le_trans (bulkKv_len ds) (by rw [PyData.bulk] at hb; exact hb)
      refine ⟨fun σ' H' => σ' = [some (.ref a), none, none] ∧ Chg K (fun b => N b ∧ b ≠ a) H H' ∧ FpMk w K H' (fun b => N b ∧ b ≠ a) l ds, ?_, ?_⟩
      · refine ⟨_, rfl, by show 2 ≤ sizeLine; decide, fun tp htp => .inr ⟨a, tp, es, ep, _, _, _, rfl, upd_same, pr, same_new htp _ _ g1, kit_lt (b := false) (r := false) (by decide +kernel) (by decide +kernel), _, rfl, iteF ?_⟩⟩
        exact ⟨rfl, Chg.of (same_new htp), hx.same (same_new htp)⟩
      · rintro σ' H' ⟨rfl, c, hx'⟩
        have hna : ¬ (fun b => N b ∧ b ≠ a) a := fun z => z.2 rfl
        have g1' := c.st _ _ hna g1
        have ha' : Dm w K H' a l := ha.on (fun o h => c.st _ o hna h) c.tp
        refine ⟨fun σ' H2 => (∃ x, σ' = [some (.ref a), none, x]) ∧ Chg K N H H2 ∧ ∃ es ep, H2 a = some (DxO a es ep), ?_, ?_⟩
        · refine ⟨_, rfl, .inr ⟨a, es, ep, _, _, true, rfl, .ty "dict", g1', kit_ty (by decide +kernel), true, rfl, iteT ?_⟩⟩
          obtain ⟨_, _, z1, z2, z3, _⟩ := id ha'
          rw [g1'] at z1
          obtain ⟨es2, ep2, y1, y2, y3, _⟩ := id ha'
          refine ⟨_, rfl, a, es2, ep2, l, rfl, y1, y2, y3, ?_⟩
          refine spoil_keys (n := n) hR ha' y1 hna (Chg.refl _) hx' (by rw [PyData.depth] at hd; omega) (by rw [PyData.bulk] at hb; exact hb) fun x H2 c2 => ?_
          have ha2 : Dm w K H2 a l := ha'.on (fun o h => c2.st _ o hna h) c2.tp
          refine ⟨_, rfl, a, l, .text "spoilt", rfl, ha2, by omega, .inl rfl, fun es3 ep3 d3 => ⟨⟨_, rfl⟩, ?_, es3, ep3, upd_same⟩⟩
          obtain ⟨es4, ep4, w1, _⟩ := id ha2
          exact ((c.trans c2).mono fun b z => z.1).trans (Chg.dm hN w1)
        · rintro σ' H2 ⟨⟨x, rfl⟩, c2, es3, ep3, w1⟩
          exact ⟨_, rfl, .inr ⟨a, es3, ep3, _, _, false, rfl, .ty "list", w1, kit_ty (by decide +kernel), false, rfl, iteF (k _ c2)⟩⟩
theorem ok_spoil {f : Addr} {fd : FuncData} (F : Fun K "_law_spoil" "_law_spoil" s_L_spoil f fd) (B : Bi mg) (hm : mg "_law_spoil" = some (.ref f)) (hb : Binds K fd ["_law_thing"] []) : ∀ n, FnOk P w K mg base CX0 (n + 1) f fd ["_law_thing"] (spSpoil w K n)
  | 0 => spoil_step (spR := fun _ _ _ _ => False) F B ⟨f, fd, ["_law_thing"], [], ⟨fun _ _ _ _ h => h.elim, fun _ _ _ _ _ _ _ _ _ _ _ _ _ h => h.elim⟩, hm, F.kp, hb, .nil⟩ fun _ _ _ d _ _ h => absurd h (Nat.not_lt_zero _)
  | n + 1 => spoil_step F B ⟨f, fd, ["_law_thing"], [], ok_spoil F B hm hb n, hm, F.kp, hb, .nil⟩ fun v H Q d N hv hd hz q => ⟨v, d, N, rfl, hv, by omega, hz, q⟩
end
end Pf

set_option Elab.async false
set_option maxRecDepth 100000
set_option linter.all false
set_option maxHeartbeats 4000000
/-! A text times a number. -/
namespace Pf
open PySem PySem.Spec L2 PyProof.Rows
def timesS (x : Str) (n : Nat) : Str := ⟨(List.replicate n x.cps).foldl (· ++ ·) #[]⟩
theorem fold_size (x : Array Nat) : ∀ (n : Nat) (acc : Array Nat), ((List.replicate n x).foldl (· ++ ·) acc).size = acc.size + n * x.size
  | 0, acc => by simp
  | n + 1, acc => by rw [List.replicate_succ, List.foldl_cons, fold_size x n, Array.size_append, Nat.succ_mul]; omega
def rTimes : R2 := fun x y H Q => ∃ (z : Str) (k : Nat), x = .str z ∧ y = .int (k : Int) ∧ 2 ≤ k ∧ k ≤ 1000 ∧ z.length = 1 ∧ Q (.str (timesS z k)) H
theorem op_timesS {X : Cx} : OpR X (binaryOp .Mult) rTimes := by
  intro pins s σ H x y v u Q I rx ry h
  obtain ⟨z, k, rfl, rfl, k2, k1, hz, q⟩ := h
  obtain ⟨t, rfl⟩ := rx
  obtain ⟨t', rfl⟩ := ry
  refine P.mul_str ?_ (fun _ _ => ?_) (fun _ _ => ?_) ?_
  · rw [decide_eq_false (by omega), decide_eq_false (by omega)]; rfl
  · rw [hz]
    have h1 : (1 : Int) * k ≤ 2 ^ 63 - 1 := by omega
    have := (Int.le_ediv_iff_mul_le (by omega : (0 : Int) < k)).mpr h1
    omega
  · rw [hz, Nat.one_mul]
    unfold Builtin.Str.tooLong
    have := sz_le (n := k) (by omega)
    simp
    omega
  · rw [if_neg (by omega), if_neg (by rw [hz]; simp; omega)]
    refine ⟨?_, .str (timesS z k), H, I.tok _, ⟨_, rfl⟩, q⟩
    show (timesS z k).length ≤ sizeLine
    refine sz_le ?_
    have : (timesS z k).length = 0 + k * z.cps.size := fold_size z.cps k #[]
    have h2 : z.cps.size = 1 := hz
    rw [h2] at this
    omega
end Pf

set_option Elab.async false
set_option maxRecDepth 100000
set_option linter.all false
set_option maxHeartbeats 4000000
namespace Pf
open PySem L2
section
variable {P : Program} {w : World} {K : PySem.W.Frag} {mg : Str → Option Value} {base : Heap}
abbrev s_L_draw : Stmt := top 30
theorem sc_L_draw : FnScope ["_law_pen_here", "_law_many", "_law_at", "_law_cell", "_law_mixed", "_law_digit"] ["_law_pen_here", "_law_many"] (defScope s_L_draw) := ⟨rfl, rfl, rfl, by decide +kernel, rfl, by decide +kernel, by decide +kernel⟩
theorem ok_draw {f : Addr} {fd : FuncData} (F : Fun K "_law_draw" "_law_draw" s_L_draw f fd) (B : Bi mg) : FnOk P w K mg base CX0 1 f fd ["_law_pen_here", "_law_many"] spDraw := by
  refine F.ok sc_L_draw (fun vs H Q E h => ?_) (fun cdv A outer s H vs Q E hr h => ?_)
  · obtain ⟨p, c, m, b, rfl, _⟩ := h
    rfl
  · obtain ⟨p, c, m, b, rfl, hm1, hm2, ⟨ns, a, l, hp, hc, hn, ha, hb⟩, k⟩ := h
    have hu := hu_of hr
    refine ⟨_, (pss_cons (ps_if (pt_cmpR op_ge (pe_dget hu (pv 0) pe_str (fun _ _ => rfl)) (pv 1) (nomark _))
        (pss_cons (ps_set (i := 5) sc_L_draw.nd rfl (Or.inl rfl) (pe_op op_mod (pe_callTy call_int1 (by rfl) B.int (by decide +kernel) (pa_cons (pe_dget hu (pv 0) pe_str (fun _ _ => rfl)) pa_nil)) (pv 1)))
        (pss_cons (ps_dput hu (pv 0) pe_str (pe_op op_fdiv (pe_dget hu (pv 0) pe_str (fun _ _ => rfl)) (pv 1)) rfl)
        (pss_one (ps_ret (pv 5)))))
        pss_nil)
      (pss_cons (ps_set (i := 2) sc_L_draw.nd rfl (Or.inl rfl) (pe_dget hu (pv 0) pe_str (fun _ _ => rfl)))
      (pss_cons (ps_dput hu (pv 0) pe_str (pe_op op_add (pv 2) pe_int) rfl)
      (pss_cons (ps_set (i := 3) sc_L_draw.nd rfl (Or.inl rfl) (pe_op op_add (pe_op op_mul pe_int (pv 2)) pe_int))
      (C8.pss_cut (ps_if (pt_cmpR (op_neNil hr.units0) (pe_dget hu (pv 0) pe_str (fun _ _ => rfl)) (pe_lst pa_nil) (nomark _))
        (pss_one (ps_set (i := 3) sc_L_draw.nd rfl (Or.inl rfl) (pe_ix ix_list (pe_dget hu (pv 0) pe_str (fun _ _ => rfl)) (pe_op op_mod (pe_callTy call_int1 (by rfl) B.int (by decide +kernel) (pa_cons (pv 2) pa_nil)) (pe_callB call_len_seq (by rfl) B.len PySem.boot_len (pa_cons (pe_dget hu (pv 0) pe_str (fun _ _ => rfl)) pa_nil))) (fun _ _ => rfl))))
        pss_nil)
      (C8.pss_cut (ps_if (PW.pt (pw_and (pt_cmpR op_lt (pv 2) (pe_callB call_len_seq (by rfl) B.len PySem.boot_len (pa_cons (pe_dget hu (pv 0) pe_str (fun _ _ => rfl)) pa_nil)) (nomark _)) (pw_and1 (pt_cmpR op_ge (pv 3) (pe_op op_pow pe_int pe_int) (nomark _)))))
        (pss_cons (ps_dput hu (pv 0) pe_str (pe_op op_fdiv (pe_op op_sub (pv 3) (pe_op op_pow pe_int pe_int)) (pv 1)) rfl)
        (pss_one (ps_ret (pe_op op_mod (pe_callTy call_int1 (by rfl) B.int (by decide +kernel) (pa_cons (pe_op op_sub (pv 3) (pe_op op_pow pe_int pe_int)) pa_nil)) (pv 1)))))
        pss_nil)
      (pss_cons (ps_set (i := 4) sc_L_draw.nd rfl (Or.inl rfl) (pe_op op_add (pe_op op_add (pe_op op_add (pe_op op_mul (pe_op op_mod (pe_callTy call_int1 (by rfl) B.int (by decide +kernel) (pa_cons (pv 3) pa_nil)) pe_int) pe_int) (pe_op op_mul (pe_op op_mul pe_int (pv 2)) (pv 2))) (pe_op op_mul pe_int (pv 2))) pe_int))
      (pss_cons (ps_set (i := 4) sc_L_draw.nd rfl (Or.inl rfl) (pe_op op_mod (pe_callTy call_int1 (by rfl) B.int (by decide +kernel) (pa_cons (pv 4) pa_nil)) pe_int))
      (pss_cons (ps_set (i := 4) sc_L_draw.nd rfl (Or.inl rfl) (pe_op op_mod (pe_callTy call_int1 (by rfl) B.int (by decide +kernel) (pa_cons (pe_op op_mul (pv 4) (pe_op op_add (pv 4) pe_int)) pa_nil)) pe_int))
      (pss_one (ps_ret (pe_op op_mod (pe_callTy call_int1 (by rfl) B.int (by decide +kernel) (pa_cons (pe_op op_fdiv (pe_op op_mod (pe_callTy call_int1 (by rfl) B.int (by decide +kernel) (pa_cons (pe_op op_mul (pv 4) (pv 4)) pa_nil)) pe_int) pe_int) pa_nil)) (pv 1))))))))))))), ?_⟩
    refine ⟨_, rfl, p, _, rfl, pen_left hp, _, rfl, _, _, rfl, rfl, _, rfl, ?_⟩
    refine ite2 (fun hge => ?_) (fun hlt => ?_)
    · refine ⟨_, rfl, p, _, rfl, pen_left hp, .inl ⟨_, rfl, _, rfl, _, _, rfl, rfl, by omega, ?_⟩⟩
      refine ⟨_, rfl, p, _, rfl, pen_left hp, _, rfl, _, _, rfl, rfl, ⟨by omega, by omega⟩, _, rfl, p, _, rfl, pen_put_left hp, _, rfl, ?_⟩
      refine k _ _ (Int.emod_nonneg _ (by omega)) (Int.emod_lt_of_pos _ (by omega)) ⟨ns, a, _, upd_same, ?_, hn, ha, by omega⟩ (exp_pen hp (ExP.refl H))
      rw [upd_ne (ne_of hc hp (lst_ne_pen _ _ _))]; exact hc
    · refine ⟨_, rfl, p, _, rfl, pen_at hp, ?_⟩
      refine ⟨_, rfl, _, _, rfl, rfl, _, rfl, p, _, rfl, pen_put_at hp, ?_⟩
      generalize hH1 : upd H p (penO c (a + 1) l) = H1
      have hp1 : H1 p = some (penO c (a + 1) l) := by rw [← hH1, upd_same]
      have hc1 : H1 c = some (.lst (ns.map V.int)) := by rw [← hH1, upd_ne (ne_of hc hp (lst_ne_pen _ _ _))]; exact hc
      have e1 : ExP H H1 := by rw [← hH1]; exact exp_pen hp (ExP.refl H)
      refine ⟨_, rfl, _, _, rfl, rfl, .inl ⟨by omega, by omega⟩, _, _, rfl, rfl, ?_⟩
      refine ⟨fun σ' H' => ∃ z : Int, σ' = [some (.ref p), some (.int m), some (.int a), some (.int z), none, none] ∧ ∀ b o, H1 b = some o → H' b = some o, ?_, ?_⟩
      · refine ⟨_, rfl, p, _, rfl, pen_cells hp1, ⟨by show 0 ≤ sizeLine; decide, fun q hq => ?_⟩⟩
        have hqs : ∀ b o, H1 b = some o → upd H1 q (.lst []) b = some o := fun b o hb => by rw [upd_ne (ne_of_none hb hq)]; exact hb
        refine ⟨_, _, _, rfl, rfl, SqL.of (hqs _ _ hc1), SqL.of upd_same, _, rfl, ?_⟩
        refine ite2 (fun hne => ?_) (fun _ => ⟨_, rfl, hqs⟩)
        have hp2 := hqs _ _ hp1
        have hc2 := hqs _ _ hc1
        have hpos : 0 < (ns.length : Int) := by
          cases ns with
          | nil => simp at hne
          | cons _ _ => simp <;> omega
        have hpos' : 0 < ((ns.map V.int).length : Int) := by rw [List.length_map]; exact hpos
        have hat : atI (ns.map V.int) (a % ((ns.map V.int).length : Int)) = some (.int (ns.getD (a % ((ns.map V.int).length : Int)).toNat 0)) :=
          ints_at ns (Int.emod_nonneg _ (by omega)) (by have := Int.emod_lt_of_pos a hpos'; rwa [List.length_map] at this ⊢)
        exact ⟨_, rfl, p, _, rfl, pen_cells hp2, _, rfl, .inl ⟨_, rfl, _, rfl, p, _, rfl, pen_cells hp2, c, _, rfl, .inl (SqL.of hc2), _, _, rfl, rfl, hpos', _, _, _, _, rfl, rfl, SqL.of hc2, hat, _, rfl, hqs⟩⟩
      · rintro σ' H' ⟨z, rfl, e2⟩
        have hp2 := e2 _ _ hp1
        have hc2 := e2 _ _ hc1
        have e3 : ExP H H' := e1.trans (ExP.of e2)
        refine ⟨fun σ' H2 => σ' = [some (.ref p), some (.int m), some (.int a), some (.int z), none, none] ∧ H2 = H', ?_, ?_⟩
        · refine ⟨_, rfl, _, rfl, p, _, rfl, pen_cells hp2, c, _, rfl, .inl (SqL.of hc2), _, _, rfl, rfl, _, rfl, ?_⟩
          refine ite2 (fun _ => ?_) (fun _ => iteF ⟨rfl, rfl⟩)
          refine ⟨_, rfl, _, _, rfl, rfl, ⟨by decide, by decide, by decide⟩, _, _, rfl, rfl, _, rfl, ?_⟩
          refine ite2 (fun _ => ?_) (fun _ => ⟨rfl, rfl⟩)
          refine ⟨_, rfl, _, _, rfl, rfl, ⟨by decide, by decide, by decide⟩, _, _, rfl, rfl, _, rfl, _, _, rfl, rfl, ⟨by omega, by omega⟩, _, rfl, p, _, rfl, pen_put_left hp2, ?_⟩
          refine ⟨_, rfl, _, _, rfl, rfl, ⟨by decide, by decide, by decide⟩, _, _, rfl, rfl, .inl ⟨_, rfl, _, rfl, _, _, rfl, rfl, by omega, ?_⟩⟩
          refine k _ _ (Int.emod_nonneg _ (by omega)) (Int.emod_lt_of_pos _ (by omega)) ⟨ns, a + 1, _, upd_same, ?_, hn, by omega, by omega⟩ (exp_pen hp e3)
          rw [upd_ne (ne_of hc2 hp2 (lst_ne_pen _ _ _))]; exact hc2
        · rintro σ' H2 ⟨rfl, rfl⟩
          have z1 : ∀ n : Int, 0 < n → 0 < n := fun _ h => h
          refine ⟨_, rfl, .inl ⟨_, rfl, _, _, rfl, rfl, z1 _ (by decide), _, _, rfl, rfl, .inr ⟨by decide, by decide⟩, ?_⟩⟩
          refine ⟨_, rfl, _, _, rfl, rfl, .inl ⟨by decide, by decide⟩, _, rfl, _, _, rfl, rfl, .inr ⟨by omega, by omega⟩, _, _, rfl, rfl, ?_⟩
          refine ⟨_, rfl, _, _, rfl, rfl, .inl ⟨by decide, by decide⟩, _, _, rfl, rfl, _, _, rfl, rfl, _, rfl, .inl ⟨_, rfl, _, _, rfl, rfl, z1 _ (by decide), ?_⟩⟩
          have g0 := Int.emod_nonneg (z % 2147483587 * 48271 + 40014 * a * a + 59 * a + 17) (show (2147483629 : Int) ≠ 0 by decide)
          have g1 := Int.emod_lt_of_pos (z % 2147483587 * 48271 + 40014 * a * a + 59 * a + 17) (show (0 : Int) < 2147483629 by decide)
          refine ⟨_, rfl, _, rfl, _, _, rfl, rfl, _, _, rfl, rfl, .inl ⟨by omega, by omega⟩, .inl ⟨_, rfl, _, _, rfl, rfl, z1 _ (by decide), ?_⟩⟩
          have g0' := Int.emod_nonneg ((z % 2147483587 * 48271 + 40014 * a * a + 59 * a + 17) % 2147483629 * ((z % 2147483587 * 48271 + 40014 * a * a + 59 * a + 17) % 2147483629 + 69621)) (show (2147483549 : Int) ≠ 0 by decide)
          have g1' := Int.emod_lt_of_pos ((z % 2147483587 * 48271 + 40014 * a * a + 59 * a + 17) % 2147483629 * ((z % 2147483587 * 48271 + 40014 * a * a + 59 * a + 17) % 2147483629 + 69621)) (show (0 : Int) < 2147483549 by decide)
          refine ⟨_, rfl, _, rfl, _, _, rfl, rfl, .inl ⟨by omega, by omega⟩, .inl ⟨_, rfl, _, _, rfl, rfl, z1 _ (by decide), _, _, rfl, rfl, ⟨by decide, by decide⟩, .inl ⟨_, rfl, _, rfl, _, _, rfl, rfl, by omega, ?_⟩⟩⟩
          exact k _ _ (Int.emod_nonneg _ (by omega)) (Int.emod_lt_of_pos _ (by omega)) ⟨ns, a + 1, l, hp2, hc2, hn, by omega, by omega⟩ e3
end
end Pf

set_option Elab.async false
set_option maxRecDepth 100000
set_option linter.all false
set_option maxHeartbeats 4000000
namespace Pf
open PySem L2
section
variable {P : Program} {w : World} {K : PySem.W.Frag} {mg : Str → Option Value} {base : Heap}
abbrev s_L_pen : Stmt := top 29
theorem sc_L_pen : FnScope ["_law_script"] ["_law_script"] (defScope s_L_pen) := ⟨rfl, rfl, rfl, by decide +kernel, rfl, by decide +kernel, by decide +kernel⟩
theorem ok_pen {f : Addr} {fd : FuncData} (F : Fun K "_law_pen" "_law_pen" s_L_pen f fd) (B : Bi mg) : FnOk P w K mg base CX0 1 f fd ["_law_script"] (spSource K) := by
  refine F.ok sc_L_pen (fun vs H Q E h => ?_) (fun cdv A outer s H vs Q E hr h => ?_)
  · obtain ⟨a, ns, rfl, _⟩ := h
    rfl
  · obtain ⟨a, ns, rfl, ha, hn, k⟩ := h
    have hu := hu_of hr
    refine ⟨_, (pss_one (ps_ret (pe_disp (pps_cons pe_str (pe_callTy call_list_of (by rfl) B.list (by decide +kernel) (pa_cons (pe_slice sl_list (pv 0) po_none (po_some pe_int)) pa_nil)) (pps_cons pe_str pe_int (pps_cons pe_str pe_int pps_nil))) (by rfl) (by rfl) (fun z => by cases z) (by decide)))), ?_⟩
    intro p hp
    have e0 : Same H (upd H p (.dK [])) := same_new hp
    refine ⟨_, rfl, _, rfl, _, _, rfl, e0.seq ha, fun q hq => ⟨q, _, rfl, .inl (SqL.of upd_same), fun c hc => ?_⟩⟩
    have hpq : p ≠ q := by rintro rfl; rw [upd_same] at hq; cases hq
    have e1 := same_new (o := .lst (cutV (ns.map V.int) none (some 63))) hq
    have hpc : p ≠ c := by rintro rfl; rw [upd_ne hpq, upd_same] at hc; cases hc
    refine ⟨by rw [upd_ne hpc, upd_ne hpq, upd_same], [(kt "cells", .ref c), (kt "at", .int 0), (kt "left", .int 0)], rfl, by show 3 ≤ 15; decide, ?_⟩
    have em : mergeK [] [(kt "cells", .ref c), (kt "at", .int 0), (kt "left", .int 0)] = penKV c 0 0 := by
      have e1 : ¬ Str.ofString "cells" = Str.ofString "at" := by decide +kernel
      have e2 : ¬ Str.ofString "cells" = Str.ofString "left" := by decide +kernel
      have e3 : ¬ Str.ofString "at" = Str.ofString "left" := by decide +kernel
      simp [mergeK, putK, e1, e2, e3]
    rw [em]
    refine k p c _ hp (by have := hc; rw [upd_ne (by rintro rfl; rw [upd_same] at hc; cases hc), upd_ne (Ne.symm hpc)] at this; exact this) ?_ ?_
    · exact same_chg ((e0.trans e1).trans (same_new hc)) hp
    · refine ⟨ns.take 63, 0, 0, upd_same, ?_, ?_, by omega, by decide⟩
      · rw [upd_ne (Ne.symm hpc), upd_same]
        congr 2
        show cutV (ns.map V.int) none (some 63) = _
        simp [cutV, HT.sIx]
      · simp; omega
abbrev s_L_pick : Stmt := top 31
theorem sc_L_pick : FnScope ["_law_pen_here", "_law_items"] ["_law_pen_here", "_law_items"] (defScope s_L_pick) := ⟨rfl, rfl, rfl, by decide +kernel, rfl, by decide +kernel, by decide +kernel⟩
theorem ok_pick {f : Addr} {fd : FuncData} (F : Fun K "_law_pick" "_law_pick" s_L_pick f fd) (B : Bi mg) (C__law_draw : C8.Cal P w K mg base 1 "_law_draw" spDraw []) : FnOk P w K mg base CX0 2 f fd ["_law_pen_here", "_law_items"] (spPick K) := by
  refine F.ok sc_L_pick (fun vs H Q E h => ?_) (fun cdv A outer s H vs Q E hr h => ?_)
  · obtain ⟨p, c, b, it, rfl, _⟩ := h
    rfl
  · obtain ⟨p, c, b, it, rfl, hp, h⟩ := h
    have hu := hu_of hr
    refine ⟨_, (pss_one (ps_ret (pe_ix ix_seq (pv 1) (C8.pe_c C__law_draw hr (by decide) (by rfl) (pa_cons (pv 0) (pa_cons (pe_callB (CallR.or call_len_seq call_len_str) (by rfl) B.len PySem.boot_len (pa_cons (pv 1) pa_nil)) pa_nil))) (fun _ _ => rfl)))), ?_⟩
    refine ⟨_, rfl, _, rfl, _, rfl, ?_⟩
    rcases h with ⟨a, xs, rfl, ha, hne, hl, k⟩ | ⟨z, rfl, hne, hl, k⟩
    · have hpos : 0 < xs.length := List.length_pos_iff.mpr hne
      refine .inl ⟨a, xs, rfl, .inl ha, p, c, _, b, rfl, by omega, by omega, hp, fun r H' h0 h1 hp' e => ?_⟩
      obtain ⟨v, hv, hm⟩ := atI_mem (xs := xs) h0 h1
      exact .inl ⟨a, xs, r, v, rfl, rfl, exp_sql e ha, hv, k v H' hm hp' e⟩
    · have hpos : 0 < z.cps.toList.length := List.length_pos_iff.mpr hne
      have hzl : z.length = z.cps.toList.length := by simp [Str.length]
      refine .inr ⟨z, rfl, sz_le (by omega), p, c, _, b, rfl, by omega, by omega, hp, fun r H' h0 h1 hp' e => ?_⟩
      obtain ⟨v, hv, hm⟩ := atI_mem (xs := z.cps.toList) h0 (by omega)
      exact .inr (.inr ⟨z, r, v, rfl, rfl, sz_le (by omega), hv, k v H' hm hp' e⟩)
end
end Pf

set_option Elab.async false
set_option maxRecDepth 100000
set_option linter.all false
set_option maxHeartbeats 4000000
set_option pp.maxSteps 500
/-! _law_any: any value. -/
namespace Pf
open PySem PySem.Spec L2 PyProof.Rows
section
variable {w : World} {K : PySem.W.Frag} {H H' : Hp}
theorem dxO_np {d : Addr} {es : Array DictEntry} {ep : Nat} (c : Addr) (x y : Int) : DxO d es ep ≠ penO c x y := fun z => by unfold DxO penO at z; cases z
theorem Dm.exp {d : Addr} {l : List MK} (h : Dm w K H d l) (e : ExP H H') : Dm w K H' d l := by
  obtain ⟨es, ep, h1, h2, h3, h4, h5⟩ := h
  exact ⟨es, ep, e.at h1 dxO_np, h2, h3, fun x hx => (h4 x hx).on fun a xs => exp_sqt e, h5⟩
mutual
theorem Fp.exp (e : ExP H H') : ∀ {N : Addr → Prop} {v : V} {d : PyData}, Fp w K H N v d → Fp w K H' N v d
  | _, _, _, .non => .non
  | _, _, _, .bl b => .bl b
  | _, _, _, .int i => .int i
  | _, _, _, .str x => .str x
  | _, _, _, .lst m h r => .lst m (e.at h lst_ne_pen) (FpAll.exp e r)
  | _, _, _, .tup h r => .tup (exp_sqt e h) (FpAll.exp e r)
  | _, _, _, .dM m h r => .dM m (h.exp e) (FpMk.exp e r)
theorem FpAll.exp (e : ExP H H') : ∀ {N : Addr → Prop} {v : List V} {d : List PyData}, FpAll w K H N v d → FpAll w K H' N v d
  | _, _, _, .nil => .nil
  | _, _, _, .cons h r i1 i2 => .cons (Fp.exp e h) (FpAll.exp e r) i1 i2
theorem FpMk.exp (e : ExP H H') : ∀ {N : Addr → Prop} {v : List MK} {d : List (PyData × PyData)}, FpMk w K H N v d → FpMk w K H' N v d
  | _, _, _, .nil => .nil
  | _, _, _, .cons q h r i1 i2 => .cons (q.on fun a xs => exp_sqt e) (Fp.exp e h) (FpMk.exp e r) i1 i2
end
theorem ExP.some {a : Addr} (e : ExP H H') (h : H a ≠ none) : H' a ≠ none := fun z => h (e.free z)
theorem fp_merge {A B : PyData → Prop} : ∀ {N : Addr → Prop} {ys : List V} {ds : List PyData}, FpAll w K H N ys ds → ∀ {l acc : List MK} {es : List (PyData × PyData)} {N0 : Addr → Prop}, l.map (·.2.1) = ys → (∀ x ∈ l, ∃ e, KdAt K H x.1 e ∧ A e) → (∀ d ∈ ds, B d) → FpMk w K H N0 acc es → (acc.map (·.2.2)).Nodup →
      (∀ q ∈ es, A q.1 ∧ B q.2) → (∀ a, N a → ¬ N0 a) → ∃ es', FpMk w K H (fun a => N0 a ∨ N a) (mergeM acc l) es' ∧ ∀ q ∈ es', A q.1 ∧ B q.2
  | _, _, _, .nil, l, acc, es, N0, hl, _, _, h, _, hq, _ => by
    have : l = [] := List.map_eq_nil_iff.mp hl
    subst this
    exact ⟨es, h.to fun _ z => .inl z, hq⟩
  | _, _, _, .cons (N := N) (N1 := N1) (N2 := N2) (x := x) (d := d) h r i1 i2, l, acc, es, N0, hl, hk, hB, hacc, nd, hq, n => by
    cases l with
    | nil => cases hl
    | cons z l =>
      obtain ⟨y, v, k⟩ := z
      rw [List.map_cons] at hl
      injection hl with hl1 hl2
      have hl1 : v = x := hl1
      subst hl1
      obtain ⟨c, hc, hA⟩ := hk (y, v, k) List.mem_cons_self
      obtain ⟨es1, h1, h2⟩ := FpMk.put (k := k) (A := A) (B := B) hc hA h (hB d List.mem_cons_self) hacc nd hq fun a z => n a (i1 a z)
      obtain ⟨es2, h3, h4⟩ := fp_merge (A := A) (B := B) r (l := l) hl2 (fun q hq => hk q (List.mem_cons_of_mem _ hq)) (fun e he => hB e (List.mem_cons_of_mem _ he)) h1 (nd_putM nd) h2 fun a z y => y.elim (n a (i2 a z).1) (i2 a z).2
      exact ⟨es2, h3.to fun a z => z.elim (fun z => z.elim .inl fun z => .inr (i1 a z)) fun z => .inr (i2 a z).1, h4⟩
end
def bkN : Nat → Nat
  | 0 => 4
  | n + 1 => 3 * (bkN n + 4)
def spAny (w : World) (K : PySem.W.Frag) (n : Nat) : Sp := fun vs H Q _ => ∃ (p c : Addr) (b : Nat), vs = [.ref p, .int (n : Int)] ∧ Pen H p c (b + 4 ^ (n + 2)) ∧
  ∀ v d H', Fp w K H' (fun a => H a = none ∧ H' a ≠ none) v d → Dy (n + 1) (bkN n) d → Pen H' p c b → ExP H H' → Q v H'
theorem nines : PySem.intText? (timesS "9" 400) = some (10 ^ 400 - 1) := by decide +kernel
/-! sizes of what is drawn -/
theorem dy_none : Dy 0 0 .none := ⟨by rw [PyData.showable], by rw [PyData.depth]; exact Nat.le_refl _, by rw [PyData.leavesShort], by rw [PyData.bulk]; exact Nat.le_refl _⟩
theorem dy_bool (b : Bool) : Dy 0 0 (.bool b) := ⟨by rw [PyData.showable], by rw [PyData.depth]; exact Nat.le_refl _, by rw [PyData.leavesShort], by rw [PyData.bulk]; exact Nat.le_refl _⟩
theorem dy_int {i : Int} (h1 : decide (i.natAbs.log2 < 1920) = true) (h2 : (PyData.int i).leavesShort 400 = true) : Dy 0 0 (.int i) := ⟨by rw [PyData.showable]; exact h1, by rw [PyData.depth]; exact Nat.le_refl _, h2, by rw [PyData.bulk]; exact Nat.le_refl _⟩
theorem dy_small : ∀ i : Int, -4 ≤ i → i < 5 → Dy 0 0 (.int i) := fun i h1 h2 => by
  have : i = -4 ∨ i = -3 ∨ i = -2 ∨ i = -1 ∨ i = 0 ∨ i = 1 ∨ i = 2 ∨ i = 3 ∨ i = 4 := by omega
  rcases this with rfl | rfl | rfl | rfl | rfl | rfl | rfl | rfl | rfl <;> exact dy_int (by decide +kernel) (by decide +kernel)
theorem dy_nines : Dy 0 0 (.int (10 ^ 400 - 1)) := dy_int (by decide +kernel) (by decide +kernel)
theorem dy_str {x : Str} {B : Nat} (h1 : (PyData.str x).leavesShort 400 = true) (h2 : x.cps.size ≤ B) : Dy 0 B (.str x) := ⟨by rw [PyData.showable], by rw [PyData.depth]; exact Nat.le_refl _, h1, by rw [PyData.bulk]; exact h2⟩
theorem bkN_pos (n : Nat) : 4 ≤ bkN n := by
  cases n with
  | zero => exact Nat.le_refl _
  | succ n => show 4 ≤ 3 * (bkN n + 4); omega
theorem dy_texts : ∀ x ∈ ([V.str "", V.str "main", V.str "a b", V.str "{}"] : List V), ∃ z : Str, x = .str z ∧ Dy 0 4 (.str z) := fun x hx => by
  simp only [List.mem_cons, List.not_mem_nil, or_false] at hx
  rcases hx with rfl | rfl | rfl | rfl <;> exact ⟨_, rfl, dy_str (by decide +kernel) (by decide +kernel)⟩
theorem dy_num : ∀ i : Nat, i < 3 → Dy 0 1 (.str (Str.ofString (toString (0 + (i : Int))))) := fun i h => by
  have : i = 0 ∨ i = 1 ∨ i = 2 := by omega
  rcases this with rfl | rfl | rfl <;> exact dy_str (by decide +kernel) (by decide +kernel)
theorem key_ok {K : PySem.W.Frag} {H : Hp} {t : Addr} {i : Nat} (hi : i < 3) (ht : SqT K H t [V.int (0 + (i : Int)), V.int (0 + (i : Int))]) : ∀ v ∈ [V.int (0 + (i : Int)), V.str (Str.ofString (toString (0 + (i : Int)))), V.ref t, V.bl (decide ((1 : Int) < 0 + (i : Int)))], (∃ k, KeyAt K H v k) ∧ ∃ e, KdAt K H v e ∧ Dy 1 2 e := fun v hv => by
  have hs := dy_small (0 + (i : Int)) (by omega) (by omega)
  simp only [List.mem_cons, List.not_mem_nil, or_false] at hv
  rcases hv with rfl | rfl | rfl | rfl
  · exact ⟨⟨_, .inl rfl⟩, _, .inl rfl, hs.mono (by decide) (by decide)⟩
  · exact ⟨⟨_, .inl rfl⟩, _, .inl rfl, (dy_num i hi).mono (by decide) (by decide)⟩
  · refine ⟨⟨_, .inr ⟨t, _, _, rfl, ht, .cons rfl (.cons rfl .nil), rfl⟩⟩, _, .inr ⟨t, _, _, rfl, ht, .cons rfl (.cons rfl .nil), rfl⟩, dy_tuple (n := 0) (B := 0) (N := 2) (fun d hd => ?_) (Nat.le_refl 2)⟩
    simp only [List.mem_cons, List.not_mem_nil, or_false] at hd
    rcases hd with rfl | rfl <;> exact hs
  · exact ⟨⟨_, .inl rfl⟩, _, .inl rfl, (dy_bool _).mono (by decide) (by decide)⟩
end Pf

set_option Elab.async false
set_option maxRecDepth 100000
set_option linter.all false
set_option maxHeartbeats 4000000
set_option pp.maxSteps 300
/-! _law_any: any value. -/
namespace Pf
open PySem PySem.Spec L2 PyProof.Rows
section
variable {P : Program} {w : World} {K : PySem.W.Frag} {mg : Str → Option Value} {base : Heap}
abbrev s_L_any : Stmt := top 33
theorem sc_L_any : FnScope ["_law_pen_here", "_law_deep", "_law_sort", "_law_rows", "_law_k"] ["_law_pen_here", "_law_deep"] (defScope s_L_any) := ⟨rfl, rfl, rfl, by decide +kernel, rfl, by decide +kernel, by decide +kernel⟩
theorem any_step {n k : Nat} {spR : Sp} {f : Addr} {fd : FuncData} (F : Fun K "_law_any" "_law_any" s_L_any f fd) (B : Bi mg) (hk2 : 2 ≤ k) (C__law_draw : C8.Cal P w K mg base 1 "_law_draw" spDraw []) (C__law_pick : C8.Cal P w K mg base 2 "_law_pick" (spPick K) []) (C__law_any : C8.Cal P w K mg base k "_law_any" spR [])
    (hR : ∀ m p c b H (Q : VK), m + 1 = n → Pen H p c (b + 4 ^ (m + 2)) → (∀ v d H', Fp w K H' (fun a => H a = none ∧ H' a ≠ none) v d → Dy (m + 1) (bkN m) d → Pen H' p c b → ExP H H' → Q v H') → spR [.ref p, .int (m : Int)] H Q C8.E0) : FnOk P w K mg base CX0 (k + 1) f fd ["_law_pen_here", "_law_deep"] (spAny w K n) := by
  refine F.ok sc_L_any (fun vs H Q E h => ?_) (fun cdv A outer s H vs Q E hr h => ?_)
  · obtain ⟨p, c, b, rfl, _⟩ := h
    rfl
  · obtain ⟨p, c, b, rfl, hp, k⟩ := h
    have hu := hu_of hr
    have h16 : 16 ≤ 4 ^ (n + 2) := Nat.le_trans (by decide : 16 ≤ 4 ^ 2) (Nat.pow_le_pow_right (by decide) (by omega))
    refine ⟨_, (C8.pss_cut (ps_set (i := 2) sc_L_any.nd rfl (Or.inl rfl) (pe_ifExp (pt_cmpR op_gt (pv 1) pe_int (nomark _)) (C8.pe_c C__law_draw hr (Nat.le_trans (by decide) hk2) (by rfl) (pa_cons (pv 0) (pa_cons pe_int pa_nil))) (C8.pe_c C__law_draw hr (Nat.le_trans (by decide) hk2) (by rfl) (pa_cons (pv 0) (pa_cons pe_int pa_nil)))))
      (pss_cons (ps_if (pt_cmpR op_lt (pv 2) pe_int (nomark _))
        (pss_one (ps_ret (pe_ix ix_list (pe_lst (pa_cons pe_non (pa_cons pe_bl (pa_cons (pe_op op_sub (C8.pe_c C__law_draw hr (Nat.le_trans (by decide) hk2) (by rfl) (pa_cons (pv 0) (pa_cons pe_int pa_nil))) pe_int) (pa_cons (pe_callTy call_int_str (by rfl) B.int (by decide +kernel) (pa_cons (pe_op op_timesS pe_str pe_int) pa_nil)) (pa_cons (C8.pe_c C__law_pick hr hk2 (by rfl) (pa_cons (pv 0) (pa_cons (pe_lst (pa_cons pe_str (pa_cons pe_str (pa_cons pe_str (pa_cons pe_str pa_nil))))) pa_nil))) pa_nil)))))) (pv 2) (fun _ _ => rfl))))
        pss_nil)
      (C8.pss_cut (ps_set (i := 3) sc_L_any.nd rfl (Or.inr rfl) (pe_lc (own := [("_law_k", 4)]) (g := gName 4) (by rfl) sc_L_any.nd (pi_range1 (by rfl) B.range (pa_cons (C8.pe_c C__law_draw hr (Nat.le_trans (by decide) hk2) (by rfl) (pa_cons (pv 0) (pa_cons pe_int pa_nil))) pa_nil)) (blkOk_by (own := [("_law_k", 4)]) (N := ["_law_pen_here", "_law_deep", "_law_sort", "_law_rows", "_law_k"]) (sc := defScope s_L_any) (by decide +kernel)) (fun _ _ _ _ _ => (pg_name (i := 4) sc_L_any.nd rfl (Or.inl rfl))) (fun _ _ _ _ _ => pts_nil) (fun _ _ _ _ _ => (C8.pe_c C__law_any hr (Nat.le_refl _) (by rfl) (pa_cons (pv 0) (pa_cons (pe_op op_sub (pv 1) pe_int) pa_nil))))))
      (pss_cons (ps_if (pt_cmpR op_eq (pv 2) pe_int (nomark _))
        (pss_one (ps_ret (pe_callTy call_tuple_of (by rfl) B.tuple (by decide +kernel) (pa_cons (pv 3) pa_nil))))
        pss_nil)
      (pss_cons (ps_if (pt_cmpR op_eq (pv 2) pe_int (nomark _))
        (pss_one (ps_ret (pe_callTy (call_dictM rfl (room12 hr)) (by rfl) B.dict (by decide +kernel) (pa_cons (pe_lc (own := [("_law_k", 4)]) (g := gName 4) (by rfl) sc_L_any.nd (pi_range1 (by rfl) B.range (pa_cons (pe_callB call_len_seq (by rfl) B.len PySem.boot_len (pa_cons (pv 3) pa_nil)) pa_nil)) (blkOk_by (own := [("_law_k", 4)]) (N := ["_law_pen_here", "_law_deep", "_law_sort", "_law_rows", "_law_k"]) (sc := defScope s_L_any) (by decide +kernel)) (fun _ _ _ _ _ => (pg_name (i := 4) sc_L_any.nd rfl (Or.inl rfl))) (fun _ _ _ _ _ => pts_nil) (fun _ _ _ _ _ => (pe_tup (pa_cons (C8.pe_c C__law_pick hr hk2 (by rfl) (pa_cons (pv 0) (pa_cons (pe_lst (pa_cons (pv 4) (pa_cons (pe_callTy call_str_int (by rfl) B.str (by decide +kernel) (pa_cons (pv 4) pa_nil)) (pa_cons (pe_tup (pa_cons (pv 4) (pa_cons (pv 4) pa_nil))) (pa_cons (pe_cmpR op_gt (pv 4) pe_int (nomark _)) pa_nil))))) pa_nil))) (pa_cons (pe_ix (show IxR _ (rIxL K) from ix_list) (pv 3) (pv 4) (fun _ _ => rfl)) pa_nil))))) pa_nil))))
        pss_nil)
      (pss_one (ps_ret (pv 3)))))))), ?_⟩
    refine ⟨fun σ' H' => ∃ r : Int, σ' = [some (.ref p), some (.int n), some (.int r), none, none] ∧ 0 ≤ r ∧ r < 9 ∧ (5 ≤ r → 0 < n) ∧ Pen H' p c (b + (4 ^ (n + 2) - 1)) ∧ ExP H H', ?_, ?_⟩
    · refine ⟨_, rfl, _, _, rfl, rfl, _, rfl, ?_⟩
      refine ite2 (fun hn => ?_) (fun hn => ?_)
      · refine ⟨_, rfl, p, c, 9, b + (4 ^ (n + 2) - 1), rfl, by decide, by decide, hp.mono (by omega), fun r H' h0 h1 hp' e => ⟨r, rfl, h0, h1, fun _ => by simp at hn; omega, hp', e⟩⟩
      · refine ⟨_, rfl, p, c, 5, b + (4 ^ (n + 2) - 1), rfl, by decide, by decide, hp.mono (by omega), fun r H' h0 h1 hp' e => ⟨r, rfl, h0, by omega, fun _ => by omega, hp', e⟩⟩
    · rintro σ' H1 ⟨r, rfl, r0, r9, rn, hp1, e1⟩
      refine ⟨_, rfl, _, _, rfl, rfl, _, rfl, ?_⟩
      refine ite2 (fun hlt => ?_) (fun hge => ?_)
      · have hlt : r < 5 := by simpa using hlt
        refine ⟨_, rfl, p, c, 9, b + (4 ^ (n + 2) - 2), rfl, by decide, by decide, hp1.mono (by omega), fun r2 H2 q0 q1 hp2 e2 => ?_⟩
        refine ⟨_, _, rfl, rfl, ?_⟩
        refine ⟨_, 400, rfl, rfl, by decide, by decide, by decide +kernel, ?_⟩
        refine ⟨_, _, rfl, nines, by decide +kernel, ?_⟩
        refine ⟨_, rfl, by show 4 ≤ sizeLine; decide, fun q hq => ?_⟩
        refine ⟨p, c, b + (4 ^ (n + 2) - 3), .ref q, rfl, (hp2.same (same_new hq)).mono (by omega), .inl ⟨q, _, rfl, SqL.of upd_same, by simp, by show 4 < 100000; decide, fun v H3 hv hp3 e3 => ?_⟩⟩
        refine ⟨by show 5 ≤ sizeLine; decide, fun l hl => ?_⟩
        obtain ⟨u, hu1, hu2⟩ := atI_mem (xs := [V.non, V.bl true, V.int (r2 - 4), V.int (10 ^ 400 - 1), v]) (i := r) r0 (by show r < 5; omega)
        refine ⟨_, rfl, l, _, r, u, rfl, rfl, SqL.of upd_same, hu1, ?_⟩
        have e4 : ExP H (upd H3 l (.lst [V.non, V.bl true, V.int (r2 - 4), V.int (10 ^ 400 - 1), v])) := (((e1.trans e2).trans (ExP.of (same_new hq))).trans e3).trans (ExP.of (same_new hl))
        have hp4 := (hp3.same (same_new (o := .lst [V.non, V.bl true, V.int (r2 - 4), V.int (10 ^ 400 - 1), v]) hl)).mono (b' := b) (by omega)
        have hb4 := bkN_pos n
        simp only [List.mem_cons, List.not_mem_nil, or_false] at hu2
        rcases hu2 with rfl | rfl | rfl | rfl | rfl
        · exact k _ _ _ .non (dy_none.mono (by omega) (by omega)) hp4 e4
        · exact k _ _ _ (.bl _) ((dy_bool _).mono (by omega) (by omega)) hp4 e4
        · exact k _ _ _ (.int _) ((dy_small _ (by omega) (by omega)).mono (by omega) (by omega)) hp4 e4
        · exact k _ _ _ (.int _) (dy_nines.mono (by omega) (by omega)) hp4 e4
        · obtain ⟨z, rfl, hz⟩ := dy_texts u hv
          exact k _ _ _ (.str _) (hz.mono (by omega) hb4) hp4 e4
      · have hge : 5 ≤ r := by simpa using hge
        obtain ⟨m, rfl⟩ : ∃ m, n = m + 1 := ⟨n - 1, by have := rn hge; omega⟩
        refine ⟨fun σ' H' => ∃ (D : Addr) (ys : List V) (ds : List PyData), σ' = [some (.ref p), some (.int (m + 1 : Nat)), some (.int r), some (.ref D), none] ∧ H1 D = none ∧ H' D = some (.lst ys) ∧ FpAll w K H' (fun a => a ≠ D ∧ H1 a = none ∧ H' a ≠ none) ys ds ∧ (∀ d ∈ ds, Dy (m + 1) (bkN m) d) ∧ ys.length ≤ 3 ∧ Pen H' p c (b + 3) ∧ ExP H H', ?_, ?_⟩
        · have hpow : 4 ^ (m + 1 + 2) = 4 * 4 ^ (m + 2) := by show 4 ^ (m + 2 + 1) = _; rw [Nat.pow_succ]; omega
          have h162 : 16 ≤ 4 ^ (m + 2) := Nat.le_trans (by decide : 16 ≤ 4 ^ 2) (Nat.pow_le_pow_right (by decide) (by omega))
          refine ⟨_, rfl, p, c, 4, b + 3 + 3 * 4 ^ (m + 2), rfl, by decide, by decide, hp1.mono (by omega), fun r2 H2 q0 q1 hp2 e2 => ?_⟩
          refine ⟨r2, rfl, by omega, by omega, fun D hD => ?_⟩
          have hD1 : H1 D = none := e2.free hD
          refine lc_gen walk_rng rel_exp hD (by omega) (fun i ys H' => ∃ ds, FpAll w K H' (fun a => a ≠ D ∧ H1 a = none ∧ H' a ≠ none) ys ds ∧ (∀ d ∈ ds, Dy (m + 1) (bkN m) d) ∧ ys.length ≤ i ∧ Pen H' p c (b + 3 + (3 - i) * 4 ^ (m + 2))) ⟨[], .nil, fun _ h => absurd h List.not_mem_nil, Nat.le_refl _, ?_⟩ (fun _ _ _ _ _ => trivial) ?_ ?_ ?_
          · exact hp2.same (same_new hD)
          · rintro i ys zs H3 o e3 hz ⟨ds, h1, h2, h3, h4⟩
            refine ⟨ds, h1.on (sqt_chg hz (fun _ z => by cases z) (fun _ _ z => by cases z)) (fun b u m h => by rw [upd_ne m.1]; exact h) fun b m => ⟨m.1, m.2.1, by rw [upd_ne m.1]; exact m.2.2⟩, h2, h3, h4.chg hp2 hD⟩
          · rintro i x ys H3 H3' hi l3 hD3 ⟨ds, h1, h2, h3, h4⟩ ⟨rfl, hxi⟩ K1 K0 k1 k0
            have hi3 : i < 3 := by omega
            refine ⟨rfl, yes_of ⟨_, rfl, _, rfl, _, _, rfl, rfl, ?_⟩⟩
            have em : ((m + 1 : Nat) : Int) - 1 = (m : Int) := by omega
            show spR [.ref p, .int (((m + 1 : Nat) : Int) - 1)] _ _ _
            rw [em]
            refine hR m p c (b + 3 + (3 - (i + 1)) * 4 ^ (m + 2)) _ _ rfl (h4.mono ?_) fun v d H4 hv hd hp4 e4 => ?_
            · have : 3 - i = 3 - (i + 1) + 1 := by omega
              rw [this, Nat.succ_mul]; omega
            · refine k1 v H4 e4 ⟨ds ++ [d], ?_, fun e he => ?_, by simp; omega, hp4⟩
              · refine ((h1.exp e4).snoc (M := fun _ => True) hv fun a z y => y.2.2 z.1).to fun a z => ?_
                rcases z with z | z
                · exact ⟨z.1, z.2.1, e4.some z.2.2⟩
                · refine ⟨fun y => ?_, (e2.trans l3).free z.1, z.2⟩
                  rw [y, hD3] at z
                  cases z.1
              · rcases List.mem_append.mp he with he | he
                · exact h2 e he
                · rw [List.mem_singleton.mp he]; exact hd
          · rintro ys H3 l3 hyl hD3 ⟨ds, h1, h2, h3, h4⟩
            exact ⟨D, ys, ds, rfl, hD1, hD3, h1, h2, by omega, h4.mono (by omega), (e1.trans e2).trans l3⟩
        · rintro σ' H2 ⟨D, ys, ds, rfl, hD1, hD2, hF, hB, hl3, hp2, e2⟩
          have hDH : H D = none := e1.free hD1
          have hlen := hF.length
          refine ⟨_, rfl, rfl, _, rfl, ?_⟩
          refine ite2 (fun h5 => ?_) (fun h5 => ?_)
          · refine ⟨_, rfl, D, ys, rfl, .inl ⟨SqL.of hD2, fun t ht => ?_⟩⟩
            have et := same_new (o := .tup ys) ht
            refine k _ (.tuple ds) _ (.tup (SqT.of upd_same) ((hF.same et).to fun a z => ⟨e1.free z.2.1, ?_⟩)) ((dy_tuple hB (N := 3) (by omega)).mono (by omega) ?_) ((hp2.same et).mono (by omega)) (e2.trans (ExP.of et))
            · exact fun y => z.2.2 (et.free y)
            · show 3 * (bkN m + 1) ≤ 3 * (bkN m + 4); omega
          · refine ⟨_, rfl, rfl, _, rfl, ?_⟩
            refine ite2 (fun h6 => ?_) (fun h6 => ?_)
            · refine ⟨_, rfl, D, ys, rfl, .inl (SqL.of hD2), _, rfl, by omega, by omega, fun D2 hE => ?_⟩
              refine lc_gen walk_rng rel_exp hE (by omega) (fun i zs H' => ∃ (ps : List Addr) (l : List MK), zs = ps.map V.ref ∧ Paired (fun p x => SqT K H' p [x.1, x.2.1]) ps l ∧ (∀ x ∈ l, KeyAt K H' x.1 x.2.2) ∧ (∀ x ∈ l, ∃ e, KdAt K H' x.1 e ∧ Dy 1 2 e) ∧ l.map (·.2.1) = ys.take i ∧ Pen H' p c (b + (3 - i)))
                ⟨[], [], rfl, .nil, fun _ h => absurd h List.not_mem_nil, fun _ h => absurd h List.not_mem_nil, rfl, hp2.same (same_new hE)⟩ (fun _ _ _ _ _ => trivial) ?_ ?_ ?_
              · rintro i zs us H3 o e3 hz ⟨ps, l, h1, h2, h3, h4, h5, h6⟩
                have tz := sqt_chg (K := K) (o' := o) hz (fun _ z => by cases z) (fun _ _ z => by cases z)
                exact ⟨ps, l, h1, Paired.mapP h2 fun _ _ q => tz _ _ q, fun x hx => (h3 x hx).on tz, fun x hx => let ⟨e, q1, q2⟩ := h4 x hx; ⟨e, q1.on tz, q2⟩, h5, h6.chg hp2 hE⟩
              · rintro i x zs H3 H3' hi l3 hD3 ⟨ps, l, h1, h2, h3, h4, h5, h6⟩ ⟨rfl, hxi⟩ K1 K0 k1 k0
                have hi3 : i < ys.length := by omega
                have hx : x = .int (0 + (i : Nat)) := by
                  rw [List.getElem?_map, List.getElem?_range hi] at hxi
                  exact (Option.some.inj hxi).symm
                subst hx
                refine ⟨rfl, yes_of ⟨_, rfl, _, rfl, _, rfl, _, rfl, ?_, _, rfl, _, rfl, by show 2 ≤ sizeLine; decide, fun t ht => ⟨_, rfl, _, _, rfl, rfl, by show 4 ≤ sizeLine; decide, fun q hq => ?_⟩⟩⟩
                · have hs := dy_small (0 + (i : Int)) (by omega) (by omega)
                  have := hs.sh
                  rw [PyData.showable] at this
                  exact of_decide_eq_true this
                refine ⟨p, c, b + (3 - (i + 1)), .ref q, rfl, ((h6.same (same_new ht)).same (same_new hq)).mono (by omega), .inl ⟨q, _, rfl, SqL.of upd_same, by simp, by show 4 < 100000; decide, fun v H4 hv hp4 e4 => ?_⟩⟩
                have et : Same H3' (upd H3' t (.tup [V.int (0 + (i : Int)), V.int (0 + (i : Int))])) := same_new ht
                have e34 : ExP H3' H4 := (ExP.of (et.trans (same_new hq))).trans e4
                have htt : SqT K H4 t [V.int (0 + (i : Int)), V.int (0 + (i : Int))] := exp_sqt e4 (sqt_same (same_new hq) _ _ (SqT.of upd_same))
                obtain ⟨⟨nk, hk1⟩, e, hk3, hk4⟩ := key_ok (by omega) htt v hv
                have hD4 : H4 D = some (.lst ys) := e34.at (l3.at hD2 lst_ne_pen) lst_ne_pen
                refine ⟨_, rfl, _, rfl, D, ys, _, ys[i], rfl, rfl, SqL.of hD4, ?_, by show 2 ≤ sizeLine; decide, fun t2 ht2 => ?_⟩
                · rw [Int.zero_add]; exact atI_nat (List.getElem?_eq_getElem hi3)
                · have e45 : ExP H3' (upd H4 t2 (.tup [v, ys[i]])) := e34.trans (ExP.of (same_new ht2))
                  refine k1 (.ref t2) _ e45 ⟨ps ++ [t2], l ++ [(v, ys[i], nk)], by rw [h1, List.map_append]; rfl, paired_snoc (Paired.mapP h2 fun _ _ z => exp_sqt e45 z) (SqT.of upd_same), fun x hx => ?_, fun x hx => ?_, ?_, hp4.same (same_new ht2)⟩
                  · rcases List.mem_append.mp hx with hx | hx
                    · exact (h3 x hx).on fun a xs => exp_sqt e45
                    · rw [List.mem_singleton.mp hx]; exact hk1.same (same_new ht2)
                  · rcases List.mem_append.mp hx with hx | hx
                    · obtain ⟨e', z1, z2⟩ := h4 x hx
                      exact ⟨e', z1.on fun a xs => exp_sqt e45, z2⟩
                    · rw [List.mem_singleton.mp hx]; exact ⟨e, hk3.on (sqt_same (same_new ht2)), hk4⟩
                  · rw [List.map_append, h5, take_next (List.getElem?_eq_getElem hi3)]; rfl
              · rintro zs H3 l3 hzl hE3 ⟨ps, l, h1, h2, h3, h4, h5, h6⟩
                have hlys : l.map (·.2.1) = ys := by rw [h5, List.take_of_length_le (by omega)]
                have hll : l.length = ys.length := by rw [← hlys, List.length_map]
                refine ⟨D2, ps, l, rfl, SqL.of (by rw [hE3, h1]), h2, h3, by omega, fun a es ep ha hda => ?_⟩
                have ea : ExP H3 (upd H3 a (DxO a es ep)) := ExP.of (same_new ha)
                have hF3 : FpAll w K (upd H3 a (DxO a es ep)) (fun a => a ≠ D ∧ H1 a = none ∧ H2 a ≠ none) ys ds := (hF.exp l3).exp ea
                obtain ⟨es', g1, g2⟩ := fp_merge (A := Dy 1 2) (B := Dy (m + 1) (bkN m)) hF3 (l := l) (acc := []) (es := []) (N0 := fun _ => False) hlys (fun x hx => let ⟨e, z1, z2⟩ := h4 x hx; ⟨e, z1.on (sqt_same (same_new ha)), z2⟩) hB .nil List.nodup_nil (fun _ h => absurd h List.not_mem_nil) fun _ _ z => z
                have hlm := len_mergeM l []
                refine k _ (.dict es') _ (.dM ⟨(e2.trans l3).free ha, by rw [upd_same]; exact fun z => nomatch z⟩ hda (g1.to fun x z => ?_)) ?_ ((h6.same (same_new ha)).mono (by omega)) ((e2.trans l3).trans ea)
                · rcases z with z | z
                  · exact z.elim
                  · have hx3 : H3 x ≠ none := l3.some z.2.2
                    have hxa : x ≠ a := fun y => hx3 (by rw [y]; exact ha)
                    exact ⟨⟨e1.free z.2.1, by rw [upd_ne hxa]; exact hx3⟩, hxa⟩
                · have := dy_dict (n := m + 1) (C := 2) (B := bkN m) (N := 3) (ds := es') (fun q hq => ⟨(g2 q hq).1.mono (by omega) (Nat.le_refl _), (g2 q hq).2⟩) (by rw [← g1.length]; simp at hlm; omega)
                  refine this.mono (Nat.le_refl _) ?_
                  show 3 * (2 + bkN m + 2) ≤ 3 * (bkN m + 4); omega
            · refine ⟨_, rfl, ?_⟩
              refine k _ (.list ds) _ (.lst ⟨hDH, by rw [hD2]; exact fun z => nomatch z⟩ hD2 (hF.to fun a z => ⟨⟨e1.free z.2.1, z.2.2⟩, z.1⟩)) ((dy_list hB (N := 3) (by omega)).mono (by omega) ?_) (hp2.mono (by omega)) e2
              show 3 * (bkN m + 1) ≤ 3 * (bkN m + 4); omega
theorem ok_any {f : Addr} {fd : FuncData} (F : Fun K "_law_any" "_law_any" s_L_any f fd) (B : Bi mg) (C1 : C8.Cal P w K mg base 1 "_law_draw" spDraw []) (C2 : C8.Cal P w K mg base 2 "_law_pick" (spPick K) []) (hm : mg "_law_any" = some (.ref f)) (hb : Binds K fd ["_law_pen_here", "_law_deep"] []) : ∀ n, FnOk P w K mg base CX0 (n + 3) f fd ["_law_pen_here", "_law_deep"] (spAny w K n)
  | 0 => any_step (k := 2) (spR := fun _ _ _ _ => False) F B (Nat.le_refl _) C1 C2 ⟨f, fd, ["_law_pen_here", "_law_deep"], [], ⟨fun _ _ _ _ h => h.elim, fun _ _ _ _ _ _ _ _ _ _ _ _ _ h => h.elim⟩, hm, F.kp, hb, .nil⟩ fun m p c b H Q h => absurd h (by omega)
  | n + 1 => any_step (k := n + 3) F B (by omega) C1 C2 ⟨f, fd, ["_law_pen_here", "_law_deep"], [], ok_any F B C1 C2 hm hb n, hm, F.kp, hb, .nil⟩ fun m p c b H Q hm hp q => by
    have : m = n := by omega
    subst this
    exact ⟨p, c, b, rfl, hp, q⟩
end
end Pf

set_option Elab.async false
set_option maxRecDepth 100000
set_option linter.all false
set_option maxHeartbeats 4000000
/-! Defs that show things: the promise holds where no repr is under way. -/
namespace Pf
open PySem PySem.Spec L2 PyProof.Rows
structure FnG (P : Program) (w : World) (K : PySem.W.Frag) (mg : Str → Option Value) (base : Heap) (k : Nat) (f : Addr) (fd : FuncData) (ps : List Str) (sp : Sp) : Prop where
  len : ∀ vs H Q E, sp vs H Q E → vs.length = ps.length
  run : ∀ (A : Around) (outer : List Env) (s : Shared) (H : Hp) (args : Args) (us : List Value) (vs : List V) (Q : VK) (E : XK), A.guards = some [] → Room k A → Env0 P w K mg base A outer s H → BindsTo s fd args (ps.zip us) → Vals vs us → sp vs H Q E →
    codeAny (model P w) A (.call (.ref f) args) (CR CX0 outer P w H s Q E) s
section
variable {P : Program} {w : World} {K : PySem.W.Frag} {mg : Str → Option Value} {base : Heap}
theorem okG {x qual : Str} {st : Stmt} {f : Addr} {fd : FuncData} {N ps : List Str} {k : Nat} {sp : Sp} (F : Fun K x qual st f fd) (S : FnScope N ps (defScope st)) (len : ∀ vs H Q E, sp vs H Q E → vs.length = ps.length)
    (hbody : ∀ (cdv : Value) (A : Around) (outer : List Env) (s : Shared) (H : Hp) (vs : List V) (Q : VK) (E : XK), (A.deeper (envOfC qual (defScope st) s.heap.objs.size f cdv)).guards = some [] → Room k (A.deeper (envOfC qual (defScope st) s.heap.objs.size f cdv)) → sp vs H Q E →
      ∃ t, PSs (cxOf CX0 P w K mg base N qual (defScope st) f cdv A outer s H E).nox (defBody st) t ∧ t { nx := fun _ H' => Q .non H', rt := Q } (L2.start N vs) H) : FnG P w K mg base (k + 1) f fd ps sp := by
  obtain ⟨oc, od, kV, doc, pm, an, cdv, ct, osl, rfl, lk, hcd⟩ := F.ex
  refine ⟨len, fun A outer s H args us vs Q E hg hr e0 hb r hsp => ?_⟩
  -- the promise for this surrounding alone, by the general rule at the specification that says so
  have KX : K.In s.heap := e0.mod.kin.keeps fun b o e => (e0.bs b o e).1
  have lim : s.heap.NoLimit := e0.mod.nolimit.keeps fun b o e => (e0.bs b o e).1
  have hkind : ∀ y ∈ ps.zip us, (defScope st).names.lookup y.1 = some .local ∨ ((defScope st).names.lookup y.1 = some .cell ∧ ((cellsFrom (s.heap.objs.size + 1) (defScope st).names []).lookup y.1).isSome = true) := fun y hy => by
    rcases S.par y.1 (List.of_mem_zip hy).1 with q | q
    · exact .inl q
    · exact .inr ⟨q, PySem.W.cellsFrom_some _ _ _ (.inl q)⟩
  refine codeAny_call_function hr.depth (KX _ _ lk) rfl S.co S.gen rfl (PySem.W.codeRec_of KX hcd) (hb _ _ _ _ ?_)
  refine wpAny_newFunctionEnv_cells S.kind hkind fun env he s1 nx => ?_
  subst he
  refine ⟨lim.keeps nx.toInCall.keep, codeAny_func ?_⟩
  obtain ⟨t, ht, hq⟩ := hbody cdv A outer s H vs Q E hg (hr.deeper _) hsp
  have ht := ht.nox
  have I : L2.Inv (cxOf CX0 P w K mg base N qual (defScope st) f cdv A outer s H E) [] (L2.start N vs) H s1 := inv_start S hr.hd e0 (len _ _ _ _ hsp) r nx
  refine wpAny_mono (ht.run [] s1 (L2.start N vs) H _ I hq) (fun fl s' hs => ?_) fun e s' hs => hs
  cases fl with
  | ret u =>
    obtain ⟨v, σ', H', J, rv, q⟩ := hs
    exact ⟨v, H', J.os, J.bare, J.base, J.hok, rv, q⟩
  | next =>
    obtain ⟨σ', H', J, q⟩ := hs
    exact ⟨V.non, H', J.os, J.bare, J.base, J.hok, rfl, q⟩
  | brk =>
    obtain ⟨_, _, _, q⟩ := hs
    exact False.elim q
  | cont =>
    obtain ⟨_, _, _, q⟩ := hs
    exact False.elim q
/-- called by its name -/
structure CalG (P : Program) (w : World) (K : PySem.W.Frag) (mg : Str → Option Value) (base : Heap) (k : Nat) (x : Str) (sp : Sp) : Prop where
  ex : ∃ (f : Addr) (fd : FuncData) (ps : List Str), FnG P w K mg base k f fd ps sp ∧ mg x = some (.ref f) ∧ PySem.W.keepIn K (.ref f) = true ∧ Binds K fd ps []
end
section
variable {X : Cx} {k j : Nat} {x : Str} {sp : Sp} {p pos : Pos} {e : Expr} {es : List Expr} {t : TA}
theorem pe_cG (c : CalG X.prog X.w X.K X.mg X.base k x sp) (hgd : X.A.guards = some []) (hr : Room j X.A) (hk : k ≤ j) (hg : Gl X x) (ha : PA X (e :: es) t)
    (hdb : (x == ("__debug__" : Str)) = false := by decide) (he : starEach (e :: es) X.env = (false, eval e X.env) :: starEach es X.env := by rfl) (hpl : (backTo pos (starEach es X.env)).any (·.1) = false := by rfl) :
    PE X (.Call (.Name x p) (e :: es) [] pos) (tCall sp [] C8.E0 t) := by
  obtain ⟨f, fd, ps, F, hm, kp, b⟩ := c.ex
  refine ⟨fun pins s σ H Q I h => ?_⟩
  refine wpAny_Call_Name_kw (ld_glob I hg hm ?_ hdb)
  refine PySem.W.callWith_K (h₀ := X.base) I.ok.mod.kin kp (thn (ha.run pos pins s σ H _ I h) fun us s1 ⟨vs, H1, I1, r, q⟩ => ⟨I1.kIn, ?_⟩) he hpl
  have q : sp (vs ++ []) H1 Q C8.E0 := q
  rw [List.append_nil] at q
  have hl : us.length = ps.length := by rw [← r.length]; exact F.len _ _ _ _ q
  have bb := b s1 us I1.kIn (by rw [List.append_nil]; exact hl)
  rw [List.append_nil] at bb
  refine wpAny_call (codeAny_mono (F.run X.A X.stack s1 H1 ⟨us, []⟩ us vs Q C8.E0 hgd (hr.mono hk) I1.env0 bb r q) fun r s' hq => ?_)
  cases r with
  | error e => exact C8.pass0 (E := C8.E0) pins σ H1 s1 e s' I1 hq
  | ok fl =>
    cases fl with
    | ret u => exact I1.after hq
    | next => exact False.elim hq
    | brk => exact False.elim hq
    | cont => exact False.elim hq
end
end Pf

set_option Elab.async false
set_option maxRecDepth 100000
set_option linter.all false
set_option maxHeartbeats 4000000
set_option pp.maxSteps 200
/-! For the law k12. -/
namespace Pf
open PySem PySem.Spec L2 PyProof.Rows NdefX PySem.HandSPX
structure Gm (mg : Str → Option Value) : Prop where
  MAX_FUNCTIONS : ∃ u, mg "MAX_FUNCTIONS" = some u ∧ RelV (.int 12) u
  MAX_NAMES : ∃ u, mg "MAX_NAMES" = some u ∧ RelV (.int 8) u
  MAX_STATEMENTS : ∃ u, mg "MAX_STATEMENTS" = some u ∧ RelV (.int 150) u
  MAX_DEPTH : ∃ u, mg "MAX_DEPTH" = some u ∧ RelV (.int 8) u
  MAX_SIZE : ∃ u, mg "MAX_SIZE" = some u ∧ RelV (.int (10 ^ 30)) u
  MOST_STEPS : ∃ u, mg "MOST_STEPS" = some u ∧ RelV (.int (10 ^ 300)) u
theorem most_text : PySem.intText? (Str.ofString "1" ++ timesS "0" 300) = some (10 ^ 300) := by decide +kernel
theorem shown_two (d : PyData) : (PyData.list [d, d]).shown = Str.ofString "[" ++ d.shown ++ Str.ofString ", " ++ d.shown ++ Str.ofString "]" := by
  rw [PyData.shown, PyData.shownAll, PyData.shownAll, PyData.shownAll]
  generalize d.shown = s
  rfl
theorem dp_ints {K : PySem.W.Frag} {H : Hp} : ∀ ns : List Int, DpAll K H (ns.map V.int) (ns.map PyData.int)
  | [] => .nil
  | n :: ns => .cons (.int n) (dp_ints ns)
theorem ints_rDeep {K : PySem.W.Frag} {H : Hp} {a b : Addr} {ns : List Int} {neg : Bool} {Q : VK} (ha : H a = some (.lst (ns.map V.int))) (hb : H b = some (.lst (ns.map V.int))) (h : Q (.bl (!neg)) H) : rDeep K neg (.ref a) (.ref b) H Q := by
  have hp : ∀ ns : List Int, PyData.plainAll (ns.map PyData.int) = true := fun ns => by
    induction ns with
    | nil => rw [List.map_nil, PyData.plainAll]
    | cons n ns ih => rw [List.map_cons, PyData.plainAll, ih, PyData.plain]; rfl
  have hd : ∀ ns : List Int, PyData.depthAll (ns.map PyData.int) = 0 := fun ns => by
    induction ns with
    | nil => rw [List.map_nil, PyData.depthAll]
    | cons n ns ih => rw [List.map_cons, PyData.depthAll, ih, PyData.depth]; rfl
  have he : ∀ ns : List Int, PyData.eqvAll (ns.map PyData.int) (ns.map PyData.int) = true := fun ns => by
    induction ns with
    | nil => simp [PyData.eqvAll]
    | cons n ns ih => rw [List.map_cons, PyData.eqvAll, ih]; simp [PyData.eqv]
  refine ⟨.list (ns.map PyData.int), .list (ns.map PyData.int), .lst (SqL.of ha) (dp_ints ns), .lst (SqL.of hb) (dp_ints ns), ?_, ?_, ?_, ?_⟩
  · rw [PyData.plain]; exact hp ns
  · rw [PyData.plain]; exact hp ns
  · rw [PyData.depth, hd]; decide
  · rw [PyData.eqv, he]
    cases neg
    · exact h
    · exact h
theorem ErrN.ev {H H' : Hp} {a C : Addr} (h : ErrN H H' a C) : ExV H' a C := by
  obtain ⟨_, dx, fs, _, h1, h2⟩ := h
  exact .inr ⟨dx, fs, h1, h2⟩
theorem RowAt.chg {w : World} {K : PySem.W.Frag} {H H' H2 : Hp} {d : PyData} {t : Addr} {x : Addr × Int} {N : Addr → Prop} (h : RowAt w K H H' d t x) (c : Chg K N H' H2) (n : ∀ b, H b = none → ¬ N b) : RowAt w K H H2 d t x := by
  obtain ⟨h0, a, y1, y2, h1, ⟨h2, dx, fs, h3, h4, h5⟩, h6, h7⟩ := h
  exact ⟨h0, a, y1, y2, c.st _ _ (n _ h0) h1, ⟨h2, dx, fs, h3, c.st _ _ (n _ h2) h4, c.st _ _ (n _ h3) h5⟩, h6.on (fun b o m => c.st b o (n b m)) c.tp fun _ m => m, h7.on (fun b o m => c.st b o (n b m)) c.tp fun _ m => m⟩
theorem Pen.chgN {K : PySem.W.Frag} {H H' : Hp} {p c : Addr} {b : Nat} {N : Addr → Prop} (h : Pen H p c b) (e : Chg K N H H') (hp : ¬ N p) (hc : ¬ N c) : Pen H' p c b := by
  obtain ⟨ns, a, l, h1, h2, h3⟩ := h
  exact ⟨ns, a, l, e.st _ _ hp h1, e.st _ _ hc h2, h3⟩
def spLaw12 (K : PySem.W.Frag) : Sp := fun vs H Q _ => ∃ (a : Addr) (ns : List Int), vs = [.ref a] ∧ SqL K H a (ns.map V.int) ∧ ns.length ≤ 63 ∧ ∀ H', Q (.bl true) H'
end Pf

set_option Elab.async false
set_option maxRecDepth 100000
set_option linter.all false
set_option maxHeartbeats 4000000
set_option pp.maxSteps 200
/-! The law k12. -/
namespace Pf
open PySem PySem.Spec L2 PyProof.Rows NdefX PySem.HandSPX
theorem paired_at {α β : Type} {R : α → β → Prop} : ∀ {l₁ : List α} {l₂ : List β} {i : Nat} {a : α}, Paired R l₁ l₂ → l₁[i]? = some a → ∃ b, l₂[i]? = some b ∧ R a b
  | _, _, _, _, .nil, h => by simp at h
  | _, _, 0, _, .cons r _, h => by simp at h; subst h; exact ⟨_, rfl, r⟩
  | _, _, i + 1, _, .cons _ t, h => by
    obtain ⟨b, h1, h2⟩ := paired_at (i := i) t (by simpa using h)
    exact ⟨b, by simpa using h1, h2⟩
section
variable {P : Program} {w : World} {K : PySem.W.Frag} {mg : Str → Option Value} {base : Heap}
abbrev s_law : Stmt := top 38
theorem sc_law : FnScope ["_law_script", "_law_pen_here", "_law_turn", "_law_limits", "_law_thing", "_law_kept", "_law_made_here", "_law_error", "_law_named", "_law_placed", "_law_kind"] ["_law_script"] (defScope s_law) := ⟨rfl, rfl, rfl, by decide +kernel, rfl, by decide +kernel, by decide +kernel⟩
theorem ok_law12 {c : Cs} (B : Bi mg) (sb : SysB base) (TC : Tc K c) (GM : Gm mg) (qT : PySem.W.excIn K c.InTrial bmR "RuntimeError.__new__" = true) (mT : mg "InTrial" = some (.ref c.InTrial)) (kT : PySem.W.keepIn K (.ref c.InTrial) = true)
    (C__law_pen : C8.Cal P w K mg base 1 "_law_pen" (spSource K) []) (C__law_any : C8.Cal P w K mg base 6 "_law_any" (spAny w K 3) []) (C__law_made : C8.Cal P w K mg base 8 "_law_made" (spMade w K c) []) (C__law_spoil : C8.Cal P w K mg base 5 "_law_spoil" (spSpoil w K 4) [])
    (C__law_kinds : C8.Cal P w K mg base 1 "_law_kinds" (spKinds K) []) (C__law_own : C8.Cal P w K mg base 1 "_law_own" (spOwn K c) [])
    {f : Addr} {fd : FuncData} (F : Fun K "law" "law" s_law f fd) : FnG P w K mg base 9 f fd ["_law_script"] (spLaw12 K) := by
  refine okG F sc_law (fun vs H Q E h => ?_) (fun cdv A outer s H vs Q E hgd hr h => ?_)
  · obtain ⟨a, ns, rfl, _⟩ := h
    rfl
  · obtain ⟨a, ns, rfl, ha, hn, k⟩ := h
    have hu := hu_of hr
    refine ⟨_, (pss_cons (ps_set (i := 1) sc_law.nd rfl (Or.inl rfl) (C8.pe_c C__law_pen hr (by decide) (by rfl) (pa_cons (pv 0) pa_nil)))
      (pss_cons (ps_for PassesOwn.never rfl (pi_range1 (by rfl) B.range (pa_cons (pe_op op_add pe_int (pe_callB (call_min2 rfl) (by rfl) B.min (by decide +kernel) (pa_cons pe_int (pa_cons (pe_callB call_len_seq (by rfl) B.len PySem.boot_len (pa_cons (pv 0) pa_nil)) pa_nil)))) pa_nil)) (pg_name (i := 2) sc_law.nd rfl (Or.inl rfl))
        (pss_cons (ps_set (i := 4) sc_law.nd rfl (Or.inl rfl) (C8.pe_c C__law_any hr (by decide) (by rfl) (pa_cons (pv 1) (pa_cons pe_int pa_nil))))
        (pss_cons (ps_par (i := 5) (j := 6) rfl sc_law.nd rfl rfl (by decide) rfl rfl (pa_cons (pe_callB (show CallR _ (.builtin "repr") (rReprD w K) from cr_reprD sb hgd hr.units) (by rfl) B.repr (by decide +kernel) (pa_cons (pv 4) pa_nil)) (pa_cons (C8.pe_c C__law_made hr (by decide) (by rfl) (pa_cons (pv 4) pa_nil)) pa_nil)) rfl)
        (pss_cons (ps_expr (C8.pe_c C__law_spoil hr (by decide) (by rfl) (pa_cons (pv 4) pa_nil)))
        (pss_one (ps_for PassesOwn.never rfl (pi_list (pv 6)) (pg_tup rfl (pgs_cons (pg_name (i := 7) sc_law.nd rfl (Or.inl rfl)) (pgs_cons (pg_name (i := 8) sc_law.nd rfl (Or.inl rfl)) (pgs_cons (pg_name (i := 9) sc_law.nd rfl (Or.inl rfl)) (pgs_cons (pg_name (i := 10) sc_law.nd rfl (Or.inl rfl)) pgs_nil)))))
          (pss_cons (ps_if (PW.pt (pw_or (pt_cmpR op_ne (pe_callB (show CallR _ (.builtin "repr") (rReprD w K) from cr_reprD sb hgd hr.units) (by rfl) B.repr (by decide +kernel) (pa_cons (pe_lst (pa_cons (pv 8) (pa_cons (pv 9) pa_nil))) pa_nil)) (pe_op op_add_str (pe_op op_add_str (pe_op op_add_str (pe_op op_add_str pe_str (pv 5)) pe_str) (pv 5)) pe_str) (nomark _)) (pw_or1 (pt_cmpR (op_neP hr.units) (C8.pe_c C__law_kinds hr (by decide) (by rfl) (pa_cons (pv 7) pa_nil)) (pe_lst (pa_cons (pv 10) pa_nil)) (nomark _)))))
            (pss_one (ps_ret pe_bl))
            pss_nil)
          (pss_one (ps_if (pt_cmpR op_ne (C8.pe_c C__law_own hr (by decide) (by rfl) (pa_cons (pv 7) pa_nil)) pe_int (nomark _))
            (pss_one (ps_ret pe_bl))
            pss_nil)))))))))
      (C8.pss_cut (ps_if (PW.pt (pw_or (pt_cmpR (op_neP hr.units) (C8.pe_c C__law_kinds hr (by decide) (by rfl) (pa_cons (pe_exc0 PySem.F.excBase_RuntimeError qT mT kT (by rfl)) pa_nil)) (pe_lst (pa_cons pe_int pa_nil)) (nomark _)) (pw_or1 (pt_cmpR op_ne (C8.pe_c C__law_own hr (by decide) (by rfl) (pa_cons (pe_exc0 PySem.F.excBase_RuntimeError qT mT kT (by rfl)) pa_nil)) pe_int (nomark _)))))
        (pss_one (ps_ret pe_bl))
        pss_nil)
      (pss_cons (ps_set (i := 3) sc_law.nd rfl (Or.inl rfl) (pe_lst (pa_cons (C8.pe_gc (by rfl) GM.MAX_FUNCTIONS) (pa_cons (C8.pe_gc (by rfl) GM.MAX_NAMES) (pa_cons (C8.pe_gc (by rfl) GM.MAX_STATEMENTS) (pa_cons (C8.pe_gc (by rfl) GM.MAX_DEPTH) (pa_cons (C8.pe_gc (by rfl) GM.MAX_SIZE) (pa_cons (C8.pe_gc (by rfl) GM.MOST_STEPS) pa_nil))))))))
      (pss_one (ps_ret (pe_cmpR (op_eqP hr.units) (pv 3) (pe_lst (pa_cons pe_int (pa_cons pe_int (pa_cons pe_int (pa_cons pe_int (pa_cons (pe_op op_pow pe_int pe_int) (pa_cons (pe_callTy call_int_str (by rfl) B.int (by decide +kernel) (pa_cons (pe_op op_add_str pe_str (pe_op op_timesS pe_str pe_int)) pa_nil)) pa_nil))))))) (nomark _)))))))), ?_⟩
    refine ⟨_, rfl, a, ns, rfl, ha, hn, fun p c' H1 hp hc e1 hpen => ?_⟩
    refine ⟨_, rfl, a, ns.map V.int, rfl, .inl (exp_sql (ExP.of e1) ha), _, _, rfl, _, _, rfl, rfl, _, rfl, ?_, ?_, ?_⟩
    · rw [List.length_map]; split <;> omega
    · rw [List.length_map]; split <;> omega
    have hn8 : (4 + (if ((ns.map V.int).length : Int) < 4 then ((ns.map V.int).length : Int) else 4)).toNat ≤ 8 := by
      rw [List.length_map]
      split <;> omega
    generalize (4 + (if ((ns.map V.int).length : Int) < 4 then ((ns.map V.int).length : Int) else 4)).toNat = N at hn8
    refine for_it (walk_rng (lo := 0) (n := N)) (fun i σ' H' => ∃ o2 o4 o5 o6 o7 o8 o9 o10, σ' = [some (.ref a), some (.ref p), o2, none, o4, o5, o6, o7, o8, o9, o10] ∧ Pen H' p c' (4 ^ 5 * (8 - i))) ⟨none, none, none, none, none, none, none, none, rfl, hpen.mono (by decide)⟩ (fun _ _ _ _ _ => trivial) ?_ ?_
    · rintro i x σ' H3 H3' hi ⟨o2, o4, o5, o6, o7, o8, o9, o10, rfl, hp3⟩ ⟨rfl, hx⟩
      have hp3 : Pen H3' p c' (4 ^ 5 * (8 - (i + 1)) + 4 ^ (3 + 2)) := hp3.mono (by omega)
      refine ⟨_, rfl, p, c', _, rfl, hp3, fun v d H4 hF hD hp4 e4 => ?_⟩
      have hln := hD.len
      have hb1000 : bkN 3 ≤ 1000 := by decide
      have hsl : 402 * bkN 3 + 400 ≤ sizeLine := by decide
      refine ⟨_, rfl, v, d, rfl, hF.da, hD.sh, Nat.le_trans hD.dp (by decide), Nat.le_trans hln hsl, ?_⟩
      refine ⟨_, rfl, v, d, rfl, hF.da, hD.dp, Nat.le_trans hD.bk hb1000, fun l ts H5 e5 hl hl5 hP => ?_⟩
      refine ⟨_, _, rfl, ?_⟩
      have nN : ∀ b, H4 b = none → ¬ (H3' b = none ∧ H4 b ≠ none) := fun b z y => y.2 z
      refine ⟨_, rfl, v, d, _, rfl, hF.same e5, hD.dp, Nat.le_trans hD.bk hb1000, fun H6 c6 => ?_⟩
      have hl6 := c6.st _ _ (nN _ hl) hl5
      have hP6 : Paired (fun t x => RowAt w K H4 H6 d t x) ts c.tab18 := Paired.mapP hP fun _ _ q => q.chg c6 nN
      have hp6 : Pen H6 p c' (4 ^ 5 * (8 - (i + 1))) := by
        obtain ⟨ns0, a0, l0, z1, z2, _⟩ := hp3
        exact (hp4.same e5).chgN c6 (fun y => by rw [z1] at y; cases y.1) (fun y => by rw [z2] at y; cases y.1)
      refine ⟨_, rfl, l, rfl, ⟨_, SqL.of hl6⟩, ?_⟩
      refine for_it (walk_list (xs := ts.map V.ref)) (fun j σ' H' => ∃ o7 o8 o9 o10, σ' = [some (.ref a), some (.ref p), some x, none, some v, some (.str d.shown), some (.ref l), o7, o8, o9, o10] ∧ Same H6 H') ⟨_, _, _, _, rfl, Same.refl _⟩ (fun j σ' H' _ z => by obtain ⟨_, _, _, _, _, e⟩ := z; exact SqL.of (e _ _ hl6)) ?_ ?_
      · rintro j y σ' H7 H7' hj ⟨o7, o8, o9, o10, rfl, e7⟩ ⟨rfl, hy⟩
        obtain ⟨t, ht, rfl⟩ : ∃ t, ts[j]? = some t ∧ y = .ref t := by
          rw [List.getElem?_map] at hy
          obtain ⟨t, h1, h2⟩ := Option.map_eq_some_iff.mp hy
          exact ⟨t, h1, h2.symm⟩
        obtain ⟨xr, hxr, hR⟩ := paired_at hP6 ht
        have hR := hR.same e7
        obtain ⟨h0, er, y1, y2, hT, hE, hd1, hd2⟩ := hR
        refine ⟨t, _, rfl, SqT.of hT, rfl, ?_⟩
        obtain ⟨bm, hI, hfr, hkd⟩ := TC.kd xr (by have : xr ∈ c.tab18 := List.mem_of_getElem? hxr; exact List.mem_append_left [(c.InTrial, 4)] this)
        have hC : xr.1 ∈ c.all := List.mem_map_of_mem (f := Prod.fst) (show xr ∈ c.tab from List.mem_append_left [(c.InTrial, 4)] (List.mem_of_getElem? hxr))
        refine ⟨_, _, rfl, _, _, rfl, _, _, rfl, _, _, rfl, rfl, ?_⟩
        refine ⟨_, rfl, _, rfl, by show 2 ≤ sizeLine; decide, fun q hq => ?_⟩
        have eq := same_new (o := .lst [y1, y2]) hq
        have any : ∀ {y : V}, Da w K H7' (fun b => H4 b = none) y d → Da w K (upd H7' q (.lst [y1, y2])) (fun _ => True) y d := fun {y} h => (h.same eq).on (fun _ _ _ h => h) (fun _ _ h => h) fun _ _ => trivial
        have hD2 : Dy 5 (2 * (bkN 3 + 1)) (.list [d, d]) := dy_list (n := 4) (B := bkN 3) (N := 2) (fun e he => by
          simp only [List.mem_cons, List.not_mem_nil, or_false] at he
          rcases he with rfl | rfl <;> exact hD) (Nat.le_refl 2)
        refine ⟨.ref q, .list [d, d], rfl, .lst trivial (SqL.of upd_same) (.cons (any hd1) (.cons (any hd2) .nil)), hD2.sh, Nat.le_trans hD2.dp (by decide), Nat.le_trans hD2.len (by decide), ?_⟩
        rw [shown_two d]
        have h3 : 300000 ≤ sizeLine := by decide
        have hk3 : bkN 3 = 264 := by decide
        rw [hk3] at hln
        have la : ∀ x y : Str, (x ++ y).length = x.length + y.length := fun x y => Str.length_append x y
        have l1 : (Str.ofString "[").length = 1 := by decide +kernel
        have l2 : (Str.ofString ", ").length = 2 := by decide +kernel
        have l3 : (Str.ofString "]").length = 1 := by decide +kernel
        refine ⟨_, rfl, _, _, rfl, rfl, by omega, _, _, rfl, rfl, by rw [la]; omega, _, rfl, _, _, rfl, rfl, by rw [la, la]; omega, _, _, rfl, rfl, by rw [la, la, la]; omega, rfl, _, rfl, iteF' (by simp) ?_⟩
        refine ⟨_, rfl, er, xr.1, bm, rfl, (hE.ev).same eq, hI, fun q1 H8 e8 hq1 hq8 => ?_⟩
        refine ⟨_, rfl, by show 1 ≤ sizeLine; decide, fun q2 hq2 => ?_⟩
        rw [hkd] at hq8
        refine ints_rDeep (ns := [xr.2]) (same_new hq2 _ _ hq8) upd_same ⟨_, rfl, iteF ?_⟩
        have eA : Same H7' (upd H8 q2 (.lst ([xr.2].map V.int))) := (eq.trans e8).trans (same_new hq2)
        refine ⟨_, rfl, er, xr.1, bm, rfl, (hE.ev).same eA, hI, hfr, hC, fun H9 e9 => ?_⟩
        exact ⟨rfl, _, rfl, iteF ⟨_, _, _, _, rfl, (e7.trans eA).trans e9⟩⟩
      · rintro σ' H7 ⟨o7, o8, o9, o10, rfl, e7⟩
        exact ⟨_, _, _, _, _, _, _, _, rfl, hp6.same e7⟩
    · rintro σ' H2 ⟨o2, o4, o5, o6, o7, o8, o9, o10, rfl, hp2⟩
      obtain ⟨bm, hI, hfr, hkd⟩ := TC.kd (c.InTrial, 4) (by simp [Cs.tab])
      have hkd : kindsOf bm = [4] := hkd
      refine ⟨fun σ' H' => σ' = [some (.ref a), some (.ref p), o2, none, o4, o5, o6, o7, o8, o9, o10], ?_, ?_⟩
      · refine fun e he => ⟨e, c.InTrial, bm, rfl, .inl upd_same, hI, fun q H3 e3 hq hq3 => ?_⟩
        refine ⟨by show 1 ≤ sizeLine; decide, fun q2 hq2 => ?_⟩
        rw [hkd] at hq3
        refine ints_rDeep (ns := [4]) (same_new hq2 _ _ hq3) upd_same ⟨_, rfl, iteF ?_⟩
        refine fun e2 he2 => ⟨e2, c.InTrial, bm, rfl, .inl upd_same, hI, hfr, by simp [Cs.all], fun H4 e4 => ?_⟩
        exact ⟨rfl, _, rfl, iteF rfl⟩
      · rintro σ' H3 rfl
        refine ⟨by show 6 ≤ sizeLine; decide, fun l1 hl1 => ?_⟩
        refine ⟨_, rfl, _, _, rfl, rfl, ⟨by decide, by decide, by decide⟩, ?_⟩
        refine ⟨_, 300, rfl, rfl, by decide, by decide, by decide +kernel, _, _, rfl, rfl, by decide +kernel, ?_⟩
        refine ⟨_, _, rfl, most_text, by decide +kernel, by show 6 ≤ sizeLine; decide, fun l2 hl2 => ?_⟩
        exact ints_rDeep (ns := [12, 8, 150, 8, 10 ^ 30, 10 ^ 300]) (same_new hl2 _ _ upd_same) upd_same (k _)
end
end Pf

set_option Elab.async false
set_option maxRecDepth 100000
set_option linter.all false
set_option maxHeartbeats 4000000
/-! From the promise of a law that shows data of any kind to the statement's own form: the modules' dict is known. -/
namespace Pf
open PySem PySem.Spec L2 PyProof.Rows
section
variable {P : Program} {w : World} {K : PySem.W.Frag} {mg mb mm : Str → Option Value} {k : Nat} {fa a : Addr} {fd : FuncData} {x : Str} {sp : Sp} {s : Shared} {vs : List Value} {ns : List Int}
theorem sys_of {h : Heap} (x : h.Ns sysModules mm) : SysB h := by
  obtain ⟨o, es, ep, e, d, _⟩ := x
  exact ⟨o, es, ep, e, d⟩
/-- what a run of the law leaves -/
abbrev GoodS1 (s : Shared) : Result → Shared → Prop := fun r s' => r = .ok (.ret (.bool true)) ∧ OldK s.heap s'.heap ∧ s'.os = s.os ∧ AllBare s'.gens
/-- the run from an abstract heap that tracks at most the script -/
theorem run_fromS (KX : K.In s.heap) (hns : s.heap.Ns mainGlobals mg) (hb : s.heap.Ns builtinsNs mb) (hbb : ∀ x : Str, x ≠ "__name__" → mb x = bootBuiltins x) (hlim : s.heap.NoLimit) (hg : s.gens = #[])
    (ha : s.heap.get? a = some { cls := .type "list", data := .seq vs.toArray }) (hr : Room k callerA)
    (hms : s.heap.Ns sysModules mm) (F : ∀ base : Heap, K.In base → base.Ns mainGlobals mg → SysB base → FnG P w K mg base k fa fd [x] sp) (hbind : ∀ (s : Shared) (u : Value), BindsTo s fd ⟨[u], []⟩ [(x, u)])
    {H : Hp} (hO : Only H) (hok : HOk P w H s.heap) (hA : ∀ b, H b ≠ none → b = a) (hK : H a ≠ none → K.lookup a = none) (hsp : sp [.ref a] H (fun v _ => v = .bl true) fun _ _ _ => False) :
    codeAny (model P w) callerA (.call (.ref fa) ⟨[.ref a], []⟩) (GoodS1 s) s := by
  have hid : ∀ {b : Addr} {m : Str → Option Value}, s.heap.Ns b m → (hidT s.heap H).Ns b m := by
    rintro b m ⟨o, es, ep, e, d, r⟩
    refine ⟨o, es, ep, hidT_get e ?_, d, r⟩
    cases q : H b with
    | none => rfl
    | some u =>
      obtain rfl := hA b (by rw [q]; simp)
      rw [ha] at e
      cases e
      have d' : Data.seq vs.toArray _ = Data.dict es ep := d
      cases d'
  have hKb : K.In (hidT s.heap H) := fun b o e => by
    refine hidT_get (KX b o e) ?_
    cases q : H b with
    | none => rfl
    | some u =>
      obtain rfl := hA b (by rw [q]; simp)
      rw [hK (by rw [q]; simp)] at e
      cases e
  have hM : Mod K mg (hidT s.heap H) := ⟨hKb, hid hns, ⟨mb, hid hb, hbb⟩, by obtain ⟨mc, h1, h2⟩ := hlim; exact ⟨mc, hid h1, h2⟩⟩
  have e0 : Env0 P w K mg (hidT s.heap H) callerA [] s H := ⟨rfl, hM, fun b o e => of_hidT e, Nat.le_of_eq (hidT_size _ _), trivial, fun b hb => absurd (show b ∈ ([] : List Addr) from hb) (by simp), hok, .of_eq hg⟩
  refine codeAny_mono ((F _ hKb (hid hns) (sys_of (hid hms))).run callerA [] s H ⟨[.ref a], []⟩ [.ref a] [.ref a] _ _ rfl hr e0 (hbind s (.ref a)) (.cons rfl .nil) hsp) fun r s' h => ?_
  cases r with
  | error e => exact False.elim h
  | ok fl =>
    cases fl with
    | next => exact False.elim h
    | brk => exact False.elim h
    | cont => exact False.elim h
    | ret u =>
      obtain ⟨v, H', os, bare, un, hok', r', q⟩ := h
      have q' : v = .bl true := q
      subst q'
      obtain rfl : u = Value.bool true := r'
      refine ⟨rfl, OldK.of_keep fun b o e => ?_, os, bare⟩
      cases q : H b with
      | none => exact un.keep b o e q (by intro z; exact absurd (show b ∈ ([] : List Addr) from z) (by simp)) (by simp)
      | some u =>
        rcases hO b with z | ⟨ob, xs, z⟩
        · rw [q] at z; cases z
        · obtain ⟨e1, _⟩ := hok b _ z
          obtain ⟨e2, _⟩ := hok' b _ (un.frzs b ob _ z)
          rw [e] at e1
          cases e1
          exact e2
theorem law_callS (KX : K.In s.heap) (hns : s.heap.Ns mainGlobals mg) (hb : s.heap.Ns builtinsNs mb) (hbb : ∀ x : Str, x ≠ "__name__" → mb x = bootBuiltins x) (hlim : s.heap.NoLimit) (hg : s.gens = #[])
    (ha : s.heap.get? a = some { cls := .type "list", data := .seq vs.toArray }) (hi : IntsAre vs ns) (hl : ns.length ≤ sizeLine) (hr : Room k callerA)
    (hms : s.heap.Ns sysModules mm) (F : ∀ base : Heap, K.In base → base.Ns mainGlobals mg → SysB base → FnG P w K mg base k fa fd [x] sp) (hbind : ∀ (s : Shared) (u : Value), BindsTo s fd ⟨[u], []⟩ [(x, u)])
    (hsp : ∀ H : Hp, Only H → SqL K H a (ns.map V.int) → sp [.ref a] H (fun v _ => v = .bl true) fun _ _ _ => False) :
    codeAny (model P w) callerA (.call (.ref fa) ⟨[.ref a], []⟩) (GoodS1 s) s := by
  have rv := vals_ints hi
  cases hk : K.lookup a with
  | some o =>
    have e := KX a o hk
    rw [ha] at e
    cases e
    refine run_fromS (H := fun _ => none) KX hns hb hbb hlim hg ha hr hms F hbind (fun _ => .inl rfl) (fun b u z => by cases z) (fun b z => absurd rfl z) (fun z => absurd rfl z) (hsp _ (fun _ => .inl rfl) ?_)
    exact .inr ⟨_, vs.toArray, _, hk, rfl, rfl, rfl, by rw [List.size_toArray, hi.length]; exact hl, by simpa using rv⟩
  | none =>
    let o : Obj := { cls := .type "list", data := .seq vs.toArray }
    have hO : Only (upd (fun _ => none) a (.frz o (.lst (ns.map V.int)))) := fun b => by
      by_cases e : b = a
      · subst e; exact .inr ⟨_, _, upd_same⟩
      · exact .inl (upd_ne e)
    refine run_fromS (H := upd (fun _ => none) a (.frz o (.lst (ns.map V.int)))) KX hns hb hbb hlim hg ha hr hms F hbind hO (fun b u z => ?_) (fun b z => ?_) (fun _ => hk) (hsp _ hO (.inl (.inr ⟨o, upd_same⟩)))
    · by_cases e : b = a
      · subst e
        rw [upd_same] at z
        cases z
        exact ⟨ha, by rw [List.length_map]; exact hl, vs, _, rv, ha⟩
      · rw [upd_ne e] at z
        cases z
    · by_cases e : b = a
      · exact e
      · exact absurd (upd_ne e) z
end
theorem kit_sub {K : PySem.W.Frag} {D : Addr} {T : String} {b : Bool} (hm : PySem.W.kitMeta T = true) (h : PySem.W.subIn K (.ref D) (.type T) = some b) : PySem.W.kitCls K (.ref D) (.type T) = some b := by
  show (if PySem.W.kitMeta T = true then PySem.W.subIn K (.ref D) (.type T) else none) = some b
  rw [if_pos hm]
  exact h
theorem walk_ofS {l : PySem.W.OpenLaw} {n k : Nat} {q : Program} {loose : List Str} {XP : (Str → Option Value) → Heap → Prop} {YP : World → Heap → Prop} {d : DefRec} {K : Params → PySem.W.Frag} {sp : PySem.W.Frag → Sp} {x : Str}
    (hn : l.most = some n) (hn2 : n ≤ sizeLine) (hdf : d.params.defaults = []) (hr : Room k callerA) (hq : importsNone q = true)
    (hY : ∀ (w : World) (h : Heap), YP w h → (K w.params).In h)
    (F : ∀ (w : World) (mg : Str → Option Value) (fa : Addr) (h : Heap), (K w.params).In h → h.Ns mainGlobals mg → mg d.name = some (.ref fa) →
      ∃ fd : FuncData, (∀ (s : Shared) (u : Value), BindsTo s fd ⟨[u], []⟩ [(x, u)]) ∧
        ∀ base : Heap, (K w.params).In base → base.Ns mainGlobals mg → SysB base → FnG l.prog w (K w.params) mg base k fa fd [x] (sp (K w.params)))
    (hsp : ∀ (K : PySem.W.Frag) (H : Hp) (a : Addr) (ns : List Int), ns.length ≤ n → (∀ z ∈ ns, Builtin.Int.intBits z ≤ 1048576) → Only H → SqL K H a (ns.map V.int) → sp K [.ref a] H (fun v _ => v = .bl true) fun _ _ _ => False) :
    PySem.W.WalkO q loose XP YP l.row.toRowW d [] (fun f vs => PySem.call f vs) := by
  refine Att.attach_callB hn hdf fun w s₀ s₁ mg mb fa o pm cd doc a vs ns G Y ho hd hcd hmg hobj hints hlen hbits hg => ?_
  have KX := hY w _ Y
  obtain ⟨fd, hb, hF⟩ := F w mg fa _ KX G.T.g hmg
  obtain ⟨mm, hms, _⟩ := (G.T.seer hq).mods
  exact law_callS KX G.T.g G.T.b G.T.builtins G.T.nolimit hg hobj hints (Nat.le_trans hlen hn2) hr hms hF hb fun H hO hS => hsp _ H a ns hlen hbits hO hS
end Pf

set_option Elab.async false
set_option maxRecDepth 100000
set_option linter.all false
set_option maxHeartbeats 4000000
/-! The classes of errors from what stands in the written part. -/
namespace Pf
open PySem PySem.Spec L2 PyProof.Rows NdefX PySem.HandSPX
theorem mono_cpD {w : World} {K : PySem.W.Frag} {n : Nat} : ∀ vs H (Q Q' : VK) E, (∀ v H, Q v H → Q' v H) → spCp2 w K n vs H Q E → spCp2 w K n vs H Q' E := fun vs H Q Q' E k ⟨v, d, h1, h2, h3, h4, h5⟩ => ⟨v, d, h1, h2, h3, h4, fun y H' e a => k _ _ (h5 y H' e a)⟩
theorem kxs_Key : PySem.W.KxsFacts "KeyError" "KeyError.__init__" := ⟨by show builtinType _ = _; rw [builtinType_eq_fast]; kernel_rfl, by kernel_rfl⟩
theorem init_V : InitF "ValueError" "ValueError.__init__" := .of F.excBase_ValueError.toExcCallFacts
theorem init_I : InitF "IndexError" "IndexError.__init__" := .of F.excBase_IndexError.toExcCallFacts
theorem init_O : InitF "OverflowError" "OverflowError.__init__" := .of F.excBase_OverflowError.toExcCallFacts
section
variable {P : Program} {K : PySem.W.Frag} {mg : Str → Option Value} {C N : Addr} {nm q : Str} {bs bm : List Value} {sn : List Str} {sub : List Value} {ab : Bool} {col : Option Bool} {dd : Option Addr} {k0 k1 k2 k3 k5 : Option Value} {B newId Bs i : String} {n : Str}
theorem ec_cls (ec : K.lookup C = some (excClassObj nm q C N bs bm true sn sub ab col dd k0 k1 k2 k3 k5 newId)) : PySem.W.clsIn K C = some { name := nm, bases := bs, mro := .ref C :: bm, ns := N, qualname := q, hasDict := true, slotNames := sn, subclasses := sub, abstract := ab, collection := col, hasDel := false } := by
  unfold PySem.W.clsIn
  rw [ec] <;> rfl
theorem ec_mro (ec : K.lookup C = some (excClassObj nm q C N bs bm true sn sub ab col dd k0 k1 k2 k3 k5 newId)) (c : Value) : PySem.W.mroIn K C c = some ((Value.ref C :: bm).contains c) := by
  unfold PySem.W.mroIn
  rw [ec_cls ec]
  rfl
theorem ec_ty (ec : K.lookup C = some (excClassObj nm q C N bs bm true sn sub ab col dd k0 k1 k2 k3 k5 newId)) : PySem.W.typeIn K (.ref C) = some (.type "type") := by
  show (K.lookup C).map (·.cls) = _
  rw [ec]
  rfl
theorem ec_keep (ec : K.lookup C = some (excClassObj nm q C N bs bm true sn sub ab col dd k0 k1 k2 k3 k5 newId)) (kt : PySem.W.findIn K (.type "type") "__call__" = some (some (.builtin "type.__call__"))) : PySem.W.keepIn K (.ref C) = true := by
  unfold PySem.W.keepIn
  dsimp only
  rw [ec]
  show (PySem.W.specialIn K (.ref C) "__call__" == some (some (.builtin "type.__call__"))) = true
  unfold PySem.W.specialIn
  rw [ec_ty ec, Option.bind_some, kt]
  decide
theorem ec_has (h : bm.contains (.type B) = true) : (Value.ref C :: bm).contains (.type B) = true := by rw [List.contains_cons, h, Bool.or_true]
theorem mk_isC (ec : K.lookup C = some (excClassObj nm q C N bs bm true sn sub ab col dd k0 k1 k2 k3 k5 newId)) (hB : bm.contains (.type "BaseException") = true) (hO : bm.contains (.type "object") = true)
    (ga : PySem.W.findIn K (.ref C) "__getattribute__" = some (some (.builtin "BaseException.__getattribute__"))) (gg : PySem.W.findIn K (.ref C) "__getattr__" = some none) (ha : PySem.W.findIn K (.ref C) "__class__" = some (some (.builtin "object.__class__")))
    (hn : PySem.W.specialIn K (.builtin "object.__class__") "__get__" = some (some (.builtin "getset_descriptor.__get__"))) (ht : PySem.W.takesIn K (.builtin "object.__class__") = some true) : IsC K C bm :=
  ⟨⟨_, ec_cls ec, rfl⟩, ec_ty ec, ga, gg, (ec_mro ec _).trans (congrArg some (ec_has hB)), ha, hn, ht, (ec_mro ec _).trans (congrArg some (ec_has hO))⟩
theorem mk_exiB (ec : K.lookup C = some (excClassObj nm q C N bs bm true sn sub ab col dd k0 k1 k2 k3 k5 newId)) (hM : OsaM (.ref C :: bm)) (hT : TailB bm B) (FI : InitF Bs i) (ks : PySem.W.KxsFacts Bs i) (hBs : bm.contains (.type Bs) = true) (hB : bm.contains (.type "BaseException") = true) (al : PySem.W.alongIn K "__init__" bm = some (some (.builtin i)))
    (kt : PySem.W.findIn K (.type "type") "__call__" = some (some (.builtin "type.__call__"))) (sa : PySem.W.findIn K (.ref C) "__setattr__" = some (some (.builtin "object.__setattr__")))
    (ga : PySem.W.findIn K (.ref C) "__getattribute__" = some (some (.builtin "BaseException.__getattribute__"))) (gg : PySem.W.findIn K (.ref C) "__getattr__" = some none) (no : PySem.W.findIn K (.ref C) n = some none)
    (top : (P.main.scope.names.lookup ("super" : Str)).isSome = false) (sup : mg "super" = none) (op : PySem.W.nsIn K cStatics "thirdparty.any" = some none) : ExiB P K mg C n B newId Bs i := by
  have exC : PySem.W.subIn K (.ref C) (.type "BaseException") = some true := (ec_mro ec _).trans (congrArg some (ec_has hB))
  have hd : PySem.W.hasDictIn K C = true := by unfold PySem.W.hasDictIn; rw [ec_cls ec]; rfl
  refine ⟨⟨⟨_, _, _, _, _, _, _, _, _, _, _, _, _, _, _, ec, hM, hT⟩, sa, exC, ec_ty ec, ec_keep ec kt⟩, FI, ks, ⟨ga, gg, exC, hd⟩, no, top, sup, op, ?_, ?_, ?_⟩
  · unfold PySem.W.ks_superIn
    rw [ec_cls ec]
    show PySem.W.alongIn K _ (((Value.ref C :: bm).dropWhile (· != .ref C)).drop 1) = _
    rw [show ((Value.ref C :: bm).dropWhile (· != .ref C)).drop 1 = bm by simp [List.dropWhile_cons]]
    exact al
  · rw [ec_mro ec]; simp
  · exact (ec_mro ec _).trans (congrArg some (ec_has hBs))
end
end Pf

set_option Elab.async false
set_option maxRecDepth 100000
set_option linter.all false
set_option maxHeartbeats 4000000
namespace Pf
open PySem PySem.Spec L2 PyProof.Rows NdefX PySem.HandSPX
abbrev s_x0 : Stmt := inClass (top 3) 0
abbrev s_x1 : Stmt := inClass (top 4) 0
abbrev s_x2 : Stmt := inClass (top 5) 0
abbrev s_x3 : Stmt := inClass (top 6) 0
abbrev s_x4 : Stmt := inClass (top 7) 0
abbrev s_x5 : Stmt := inClass (top 8) 0
abbrev s_x6 : Stmt := inClass (top 9) 0
abbrev s_x7 : Stmt := inClass (top 10) 0
abbrev s_x8 : Stmt := inClass (top 11) 0
abbrev s_x9 : Stmt := inClass (top 12) 0
abbrev s_x10 : Stmt := inClass (top 13) 0
abbrev s_x11 : Stmt := inClass (top 14) 0
abbrev s_x12 : Stmt := inClass (top 15) 0
abbrev s_x13 : Stmt := inClass (top 16) 0
abbrev s_x14 : Stmt := inClass (top 17) 0
abbrev s_x15 : Stmt := inClass (top 18) 0
abbrev s_x16 : Stmt := inClass (top 19) 0
abbrev s_x17 : Stmt := inClass (top 20) 0
theorem all_mk {l : PySem.W.OpenLaw} {w : World} {K : PySem.W.Frag} {h : Heap} {mg : Str → Option Value} {fa : Addr} (X : K.In h) (G : h.Ns mainGlobals mg) (hfa : mg "law" = some (.ref fa))
    {f0 : Addr} {od0 an0 : Option Addr} {sl0 : Array (Option Value)} {oc0 kV0 dc0 pm0 cd0 ct0 : Value} {f1 : Addr} {od1 an1 : Option Addr} {sl1 : Array (Option Value)} {oc1 kV1 dc1 pm1 cd1 ct1 : Value} {f2 : Addr} {od2 an2 : Option Addr} {sl2 : Array (Option Value)} {oc2 kV2 dc2 pm2 cd2 ct2 : Value} {f3 : Addr} {od3 an3 : Option Addr} {sl3 : Array (Option Value)} {oc3 kV3 dc3 pm3 cd3 ct3 : Value} {f4 : Addr} {od4 an4 : Option Addr} {sl4 : Array (Option Value)} {oc4 kV4 dc4 pm4 cd4 ct4 : Value} {f5 : Addr} {od5 an5 : Option Addr} {sl5 : Array (Option Value)} {oc5 kV5 dc5 pm5 cd5 ct5 : Value} {f6 : Addr} {od6 an6 : Option Addr} {sl6 : Array (Option Value)} {oc6 kV6 dc6 pm6 cd6 ct6 : Value} {f7 : Addr} {od7 an7 : Option Addr} {sl7 : Array (Option Value)} {oc7 kV7 dc7 pm7 cd7 ct7 : Value} {f8 : Addr} {od8 an8 : Option Addr} {sl8 : Array (Option Value)} {oc8 kV8 dc8 pm8 cd8 ct8 : Value} {f9 : Addr} {od9 an9 : Option Addr} {sl9 : Array (Option Value)} {oc9 kV9 dc9 pm9 cd9 ct9 : Value} {tk_MAX_FUNCTIONS : Tok} {v_MAX_FUNCTIONS : Int} {tk_MAX_NAMES : Tok} {v_MAX_NAMES : Int} {tk_MAX_STATEMENTS : Tok} {v_MAX_STATEMENTS : Int} {tk_MAX_DEPTH : Tok} {v_MAX_DEPTH : Int} {tk_MAX_SIZE : Tok} {v_MAX_SIZE : Int} {tk_MOST_STEPS : Tok} {v_MOST_STEPS : Int} {CY0 NY0 : Addr} {nmY0 qY0 : Str} {bsY0 : List Value} {snY0 : List Str} {subY0 : List Value} {abY0 : Bool} {colY0 : Option Bool} {ddY0 : Option Addr} {k0Y0 k1Y0 k2Y0 k3Y0 k5Y0 : Option Value} {gY0 cdY0' ccY0 : Addr} {ocY0 kVY0 dcY0 pmY0 ctY0 cclY0 clY0 : Value} {odY0 anY0 cddY0 cldY0 : Option Addr} {slY0 ccsY0 cslY0 : Array (Option Value)} {vsY0 : Array Value} {fileY0 : Str} {tfY0 : Tok} {CY1 NY1 : Addr} {nmY1 qY1 : Str} {bsY1 : List Value} {snY1 : List Str} {subY1 : List Value} {abY1 : Bool} {colY1 : Option Bool} {ddY1 : Option Addr} {k0Y1 k1Y1 k2Y1 k3Y1 k5Y1 : Option Value} {gY1 cdY1' ccY1 : Addr} {ocY1 kVY1 dcY1 pmY1 ctY1 cclY1 clY1 : Value} {odY1 anY1 cddY1 cldY1 : Option Addr} {slY1 ccsY1 cslY1 : Array (Option Value)} {vsY1 : Array Value} {fileY1 : Str} {tfY1 : Tok} {CY2 NY2 : Addr} {nmY2 qY2 : Str} {bsY2 : List Value} {snY2 : List Str} {subY2 : List Value} {abY2 : Bool} {colY2 : Option Bool} {ddY2 : Option Addr} {k0Y2 k1Y2 k2Y2 k3Y2 k5Y2 : Option Value} {gY2 cdY2' ccY2 : Addr} {ocY2 kVY2 dcY2 pmY2 ctY2 cclY2 clY2 : Value} {odY2 anY2 cddY2 cldY2 : Option Addr} {slY2 ccsY2 cslY2 : Array (Option Value)} {vsY2 : Array Value} {fileY2 : Str} {tfY2 : Tok} {CY3 NY3 : Addr} {nmY3 qY3 : Str} {bsY3 : List Value} {snY3 : List Str} {subY3 : List Value} {abY3 : Bool} {colY3 : Option Bool} {ddY3 : Option Addr} {k0Y3 k1Y3 k2Y3 k3Y3 k5Y3 : Option Value} {gY3 cdY3' ccY3 : Addr} {ocY3 kVY3 dcY3 pmY3 ctY3 cclY3 clY3 : Value} {odY3 anY3 cddY3 cldY3 : Option Addr} {slY3 ccsY3 cslY3 : Array (Option Value)} {vsY3 : Array Value} {fileY3 : Str} {tfY3 : Tok} {CY4 NY4 : Addr} {nmY4 qY4 : Str} {bsY4 : List Value} {snY4 : List Str} {subY4 : List Value} {abY4 : Bool} {colY4 : Option Bool} {ddY4 : Option Addr} {k0Y4 k1Y4 k2Y4 k3Y4 k5Y4 : Option Value} {gY4 cdY4' ccY4 : Addr} {ocY4 kVY4 dcY4 pmY4 ctY4 cclY4 clY4 : Value} {odY4 anY4 cddY4 cldY4 : Option Addr} {slY4 ccsY4 cslY4 : Array (Option Value)} {vsY4 : Array Value} {fileY4 : Str} {tfY4 : Tok} {CY5 NY5 : Addr} {nmY5 qY5 : Str} {bsY5 : List Value} {snY5 : List Str} {subY5 : List Value} {abY5 : Bool} {colY5 : Option Bool} {ddY5 : Option Addr} {k0Y5 k1Y5 k2Y5 k3Y5 k5Y5 : Option Value} {gY5 cdY5' ccY5 : Addr} {ocY5 kVY5 dcY5 pmY5 ctY5 cclY5 clY5 : Value} {odY5 anY5 cddY5 cldY5 : Option Addr} {slY5 ccsY5 cslY5 : Array (Option Value)} {vsY5 : Array Value} {fileY5 : Str} {tfY5 : Tok} {CY6 NY6 : Addr} {nmY6 qY6 : Str} {bsY6 : List Value} {snY6 : List Str} {subY6 : List Value} {abY6 : Bool} {colY6 : Option Bool} {ddY6 : Option Addr} {k0Y6 k1Y6 k2Y6 k3Y6 k5Y6 : Option Value} {gY6 cdY6' ccY6 : Addr} {ocY6 kVY6 dcY6 pmY6 ctY6 cclY6 clY6 : Value} {odY6 anY6 cddY6 cldY6 : Option Addr} {slY6 ccsY6 cslY6 : Array (Option Value)} {vsY6 : Array Value} {fileY6 : Str} {tfY6 : Tok} {CY7 NY7 : Addr} {nmY7 qY7 : Str} {bsY7 : List Value} {snY7 : List Str} {subY7 : List Value} {abY7 : Bool} {colY7 : Option Bool} {ddY7 : Option Addr} {k0Y7 k1Y7 k2Y7 k3Y7 k5Y7 : Option Value} {gY7 cdY7' ccY7 : Addr} {ocY7 kVY7 dcY7 pmY7 ctY7 cclY7 clY7 : Value} {odY7 anY7 cddY7 cldY7 : Option Addr} {slY7 ccsY7 cslY7 : Array (Option Value)} {vsY7 : Array Value} {fileY7 : Str} {tfY7 : Tok} {CY8 NY8 : Addr} {nmY8 qY8 : Str} {bsY8 : List Value} {snY8 : List Str} {subY8 : List Value} {abY8 : Bool} {colY8 : Option Bool} {ddY8 : Option Addr} {k0Y8 k1Y8 k2Y8 k3Y8 k5Y8 : Option Value} {gY8 cdY8' ccY8 : Addr} {ocY8 kVY8 dcY8 pmY8 ctY8 cclY8 clY8 : Value} {odY8 anY8 cddY8 cldY8 : Option Addr} {slY8 ccsY8 cslY8 : Array (Option Value)} {vsY8 : Array Value} {fileY8 : Str} {tfY8 : Tok} {CY9 NY9 : Addr} {nmY9 qY9 : Str} {bsY9 : List Value} {snY9 : List Str} {subY9 : List Value} {abY9 : Bool} {colY9 : Option Bool} {ddY9 : Option Addr} {k0Y9 k1Y9 k2Y9 k3Y9 k5Y9 : Option Value} {gY9 cdY9' ccY9 : Addr} {ocY9 kVY9 dcY9 pmY9 ctY9 cclY9 clY9 : Value} {odY9 anY9 cddY9 cldY9 : Option Addr} {slY9 ccsY9 cslY9 : Array (Option Value)} {vsY9 : Array Value} {fileY9 : Str} {tfY9 : Tok} {CY10 NY10 : Addr} {nmY10 qY10 : Str} {bsY10 : List Value} {snY10 : List Str} {subY10 : List Value} {abY10 : Bool} {colY10 : Option Bool} {ddY10 : Option Addr} {k0Y10 k1Y10 k2Y10 k3Y10 k5Y10 : Option Value} {gY10 cdY10' ccY10 : Addr} {ocY10 kVY10 dcY10 pmY10 ctY10 cclY10 clY10 : Value} {odY10 anY10 cddY10 cldY10 : Option Addr} {slY10 ccsY10 cslY10 : Array (Option Value)} {vsY10 : Array Value} {fileY10 : Str} {tfY10 : Tok} {CY11 NY11 : Addr} {nmY11 qY11 : Str} {bsY11 : List Value} {snY11 : List Str} {subY11 : List Value} {abY11 : Bool} {colY11 : Option Bool} {ddY11 : Option Addr} {k0Y11 k1Y11 k2Y11 k3Y11 k5Y11 : Option Value} {gY11 cdY11' ccY11 : Addr} {ocY11 kVY11 dcY11 pmY11 ctY11 cclY11 clY11 : Value} {odY11 anY11 cddY11 cldY11 : Option Addr} {slY11 ccsY11 cslY11 : Array (Option Value)} {vsY11 : Array Value} {fileY11 : Str} {tfY11 : Tok} {CY12 NY12 : Addr} {nmY12 qY12 : Str} {bsY12 : List Value} {snY12 : List Str} {subY12 : List Value} {abY12 : Bool} {colY12 : Option Bool} {ddY12 : Option Addr} {k0Y12 k1Y12 k2Y12 k3Y12 k5Y12 : Option Value} {gY12 cdY12' ccY12 : Addr} {ocY12 kVY12 dcY12 pmY12 ctY12 cclY12 clY12 : Value} {odY12 anY12 cddY12 cldY12 : Option Addr} {slY12 ccsY12 cslY12 : Array (Option Value)} {vsY12 : Array Value} {fileY12 : Str} {tfY12 : Tok} {CY13 NY13 : Addr} {nmY13 qY13 : Str} {bsY13 : List Value} {snY13 : List Str} {subY13 : List Value} {abY13 : Bool} {colY13 : Option Bool} {ddY13 : Option Addr} {k0Y13 k1Y13 k2Y13 k3Y13 k5Y13 : Option Value} {gY13 cdY13' ccY13 : Addr} {ocY13 kVY13 dcY13 pmY13 ctY13 cclY13 clY13 : Value} {odY13 anY13 cddY13 cldY13 : Option Addr} {slY13 ccsY13 cslY13 : Array (Option Value)} {vsY13 : Array Value} {fileY13 : Str} {tfY13 : Tok} {CY14 NY14 : Addr} {nmY14 qY14 : Str} {bsY14 : List Value} {snY14 : List Str} {subY14 : List Value} {abY14 : Bool} {colY14 : Option Bool} {ddY14 : Option Addr} {k0Y14 k1Y14 k2Y14 k3Y14 k5Y14 : Option Value} {gY14 cdY14' ccY14 : Addr} {ocY14 kVY14 dcY14 pmY14 ctY14 cclY14 clY14 : Value} {odY14 anY14 cddY14 cldY14 : Option Addr} {slY14 ccsY14 cslY14 : Array (Option Value)} {vsY14 : Array Value} {fileY14 : Str} {tfY14 : Tok} {CY15 NY15 : Addr} {nmY15 qY15 : Str} {bsY15 : List Value} {snY15 : List Str} {subY15 : List Value} {abY15 : Bool} {colY15 : Option Bool} {ddY15 : Option Addr} {k0Y15 k1Y15 k2Y15 k3Y15 k5Y15 : Option Value} {gY15 cdY15' ccY15 : Addr} {ocY15 kVY15 dcY15 pmY15 ctY15 cclY15 clY15 : Value} {odY15 anY15 cddY15 cldY15 : Option Addr} {slY15 ccsY15 cslY15 : Array (Option Value)} {vsY15 : Array Value} {fileY15 : Str} {tfY15 : Tok} {CY16 NY16 : Addr} {nmY16 qY16 : Str} {bsY16 : List Value} {snY16 : List Str} {subY16 : List Value} {abY16 : Bool} {colY16 : Option Bool} {ddY16 : Option Addr} {k0Y16 k1Y16 k2Y16 k3Y16 k5Y16 : Option Value} {gY16 cdY16' ccY16 : Addr} {ocY16 kVY16 dcY16 pmY16 ctY16 cclY16 clY16 : Value} {odY16 anY16 cddY16 cldY16 : Option Addr} {slY16 ccsY16 cslY16 : Array (Option Value)} {vsY16 : Array Value} {fileY16 : Str} {tfY16 : Tok} {CY17 NY17 : Addr} {nmY17 qY17 : Str} {bsY17 : List Value} {snY17 : List Str} {subY17 : List Value} {abY17 : Bool} {colY17 : Option Bool} {ddY17 : Option Addr} {k0Y17 k1Y17 k2Y17 k3Y17 k5Y17 : Option Value} {gY17 cdY17' ccY17 : Addr} {ocY17 kVY17 dcY17 pmY17 ctY17 cclY17 clY17 : Value} {odY17 anY17 cddY17 cldY17 : Option Addr} {slY17 ccsY17 cslY17 : Array (Option Value)} {vsY17 : Array Value} {fileY17 : Str} {tfY17 : Tok} {CY18 NY18 : Addr} {nmY18 qY18 : Str} {bsY18 : List Value} {snY18 : List Str} {subY18 : List Value} {abY18 : Bool} {colY18 : Option Bool} {ddY18 : Option Addr} {k0Y18 k1Y18 k2Y18 k3Y18 k5Y18 : Option Value}
    (a0 : PySem.W.nsIn K mainGlobals "own_copy" = some (some (.ref f0)))
    (l0 : K.lookup f0 = some ⟨oc0, od0, .func (PySem.W.fnOf "own_copy" "own_copy" (defArgs s_own_copy) (defBody s_own_copy) (defScope s_own_copy) .none kV0 dc0 pm0 an0 cd0 ct0), sl0⟩)
    (c0 : PySem.W.codeIn K cd0 "own_copy" = true)
    (k0 : PySem.W.keepIn K (.ref f0) = true)
    (a1 : PySem.W.nsIn K mainGlobals "_law_pen" = some (some (.ref f1)))
    (l1 : K.lookup f1 = some ⟨oc1, od1, .func (PySem.W.fnOf "_law_pen" "_law_pen" (defArgs s_L_pen) (defBody s_L_pen) (defScope s_L_pen) .none kV1 dc1 pm1 an1 cd1 ct1), sl1⟩)
    (c1 : PySem.W.codeIn K cd1 "_law_pen" = true)
    (k1 : PySem.W.keepIn K (.ref f1) = true)
    (a2 : PySem.W.nsIn K mainGlobals "_law_draw" = some (some (.ref f2)))
    (l2 : K.lookup f2 = some ⟨oc2, od2, .func (PySem.W.fnOf "_law_draw" "_law_draw" (defArgs s_L_draw) (defBody s_L_draw) (defScope s_L_draw) .none kV2 dc2 pm2 an2 cd2 ct2), sl2⟩)
    (c2 : PySem.W.codeIn K cd2 "_law_draw" = true)
    (k2 : PySem.W.keepIn K (.ref f2) = true)
    (a3 : PySem.W.nsIn K mainGlobals "_law_pick" = some (some (.ref f3)))
    (l3 : K.lookup f3 = some ⟨oc3, od3, .func (PySem.W.fnOf "_law_pick" "_law_pick" (defArgs s_L_pick) (defBody s_L_pick) (defScope s_L_pick) .none kV3 dc3 pm3 an3 cd3 ct3), sl3⟩)
    (c3 : PySem.W.codeIn K cd3 "_law_pick" = true)
    (k3 : PySem.W.keepIn K (.ref f3) = true)
    (a4 : PySem.W.nsIn K mainGlobals "_law_any" = some (some (.ref f4)))
    (l4 : K.lookup f4 = some ⟨oc4, od4, .func (PySem.W.fnOf "_law_any" "_law_any" (defArgs s_L_any) (defBody s_L_any) (defScope s_L_any) .none kV4 dc4 pm4 an4 cd4 ct4), sl4⟩)
    (c4 : PySem.W.codeIn K cd4 "_law_any" = true)
    (k4 : PySem.W.keepIn K (.ref f4) = true)
    (a5 : PySem.W.nsIn K mainGlobals "_law_made" = some (some (.ref f5)))
    (l5 : K.lookup f5 = some ⟨oc5, od5, .func (PySem.W.fnOf "_law_made" "_law_made" (defArgs s_L_made) (defBody s_L_made) (defScope s_L_made) .none kV5 dc5 pm5 an5 cd5 ct5), sl5⟩)
    (c5 : PySem.W.codeIn K cd5 "_law_made" = true)
    (k5 : PySem.W.keepIn K (.ref f5) = true)
    (a6 : PySem.W.nsIn K mainGlobals "_law_kinds" = some (some (.ref f6)))
    (l6 : K.lookup f6 = some ⟨oc6, od6, .func (PySem.W.fnOf "_law_kinds" "_law_kinds" (defArgs s_L_kinds) (defBody s_L_kinds) (defScope s_L_kinds) .none kV6 dc6 pm6 an6 cd6 ct6), sl6⟩)
    (c6 : PySem.W.codeIn K cd6 "_law_kinds" = true)
    (k6 : PySem.W.keepIn K (.ref f6) = true)
    (a7 : PySem.W.nsIn K mainGlobals "_law_own" = some (some (.ref f7)))
    (l7 : K.lookup f7 = some ⟨oc7, od7, .func (PySem.W.fnOf "_law_own" "_law_own" (defArgs s_L_own) (defBody s_L_own) (defScope s_L_own) .none kV7 dc7 pm7 an7 cd7 ct7), sl7⟩)
    (c7 : PySem.W.codeIn K cd7 "_law_own" = true)
    (k7 : PySem.W.keepIn K (.ref f7) = true)
    (a8 : PySem.W.nsIn K mainGlobals "_law_spoil" = some (some (.ref f8)))
    (l8 : K.lookup f8 = some ⟨oc8, od8, .func (PySem.W.fnOf "_law_spoil" "_law_spoil" (defArgs s_L_spoil) (defBody s_L_spoil) (defScope s_L_spoil) .none kV8 dc8 pm8 an8 cd8 ct8), sl8⟩)
    (c8 : PySem.W.codeIn K cd8 "_law_spoil" = true)
    (k8 : PySem.W.keepIn K (.ref f8) = true)
    (a9 : PySem.W.nsIn K mainGlobals "law" = some (some (.ref f9)))
    (l9 : K.lookup f9 = some ⟨oc9, od9, .func (PySem.W.fnOf "law" "law" (defArgs s_law) (defBody s_law) (defScope s_law) .none kV9 dc9 pm9 an9 cd9 ct9), sl9⟩)
    (c9 : PySem.W.codeIn K cd9 "law" = true)
    (k9 : PySem.W.keepIn K (.ref f9) = true)
    (z_int : PySem.W.nsIn K mainGlobals "int" = some none)
    (z_len : PySem.W.nsIn K mainGlobals "len" = some none)
    (z_list : PySem.W.nsIn K mainGlobals "list" = some none)
    (z_tuple : PySem.W.nsIn K mainGlobals "tuple" = some none)
    (z_dict : PySem.W.nsIn K mainGlobals "dict" = some none)
    (z_set : PySem.W.nsIn K mainGlobals "set" = some none)
    (z_all : PySem.W.nsIn K mainGlobals "all" = some none)
    (z_min : PySem.W.nsIn K mainGlobals "min" = some none)
    (z_range : PySem.W.nsIn K mainGlobals "range" = some none)
    (z_sorted : PySem.W.nsIn K mainGlobals "sorted" = some none)
    (z_isinstance : PySem.W.nsIn K mainGlobals "isinstance" = some none)
    (z_repr : PySem.W.nsIn K mainGlobals "repr" = some none)
    (z_str : PySem.W.nsIn K mainGlobals "str" = some none)
    (z_super : PySem.W.nsIn K mainGlobals "super" = some none)
    (z_ValueError : PySem.W.nsIn K mainGlobals "ValueError" = some none)
    (z_KeyError : PySem.W.nsIn K mainGlobals "KeyError" = some none)
    (z_IndexError : PySem.W.nsIn K mainGlobals "IndexError" = some none)
    (z_OverflowError : PySem.W.nsIn K mainGlobals "OverflowError" = some none)
    (z_RuntimeError : PySem.W.nsIn K mainGlobals "RuntimeError" = some none)
    (hop : PySem.W.nsIn K cStatics "thirdparty.any" = some none)
    (hgt : PySem.W.specialIn K (.builtin "object.__class__") "__get__" = some (some (.builtin "getset_descriptor.__get__")))
    (htk : PySem.W.takesIn K (.builtin "object.__class__") = some true)
    (kt : PySem.W.findIn K (.type "type") "__call__" = some (some (.builtin "type.__call__")))
    (g_MAX_FUNCTIONS : PySem.W.nsIn K mainGlobals "MAX_FUNCTIONS" = some (some (.int v_MAX_FUNCTIONS tk_MAX_FUNCTIONS)))
    (g_MAX_NAMES : PySem.W.nsIn K mainGlobals "MAX_NAMES" = some (some (.int v_MAX_NAMES tk_MAX_NAMES)))
    (g_MAX_STATEMENTS : PySem.W.nsIn K mainGlobals "MAX_STATEMENTS" = some (some (.int v_MAX_STATEMENTS tk_MAX_STATEMENTS)))
    (g_MAX_DEPTH : PySem.W.nsIn K mainGlobals "MAX_DEPTH" = some (some (.int v_MAX_DEPTH tk_MAX_DEPTH)))
    (g_MAX_SIZE : PySem.W.nsIn K mainGlobals "MAX_SIZE" = some (some (.int v_MAX_SIZE tk_MAX_SIZE)))
    (g_MOST_STEPS : PySem.W.nsIn K mainGlobals "MOST_STEPS" = some (some (.int v_MOST_STEPS tk_MOST_STEPS)))
    (aY0 : PySem.W.nsIn K mainGlobals "InvalidFunctions" = some (some (.ref CY0)))
    (ecY0 : K.lookup CY0 = some (excClassObj nmY0 qY0 CY0 NY0 bsY0 bmV true snY0 subY0 abY0 colY0 ddY0 k0Y0 k1Y0 k2Y0 k3Y0 k5Y0 "ValueError.__new__"))
    (gaY0 : PySem.W.findIn K (.ref CY0) "__getattribute__" = some (some (.builtin "BaseException.__getattribute__")))
    (ggY0 : PySem.W.findIn K (.ref CY0) "__getattr__" = some none)
    (haY0 : PySem.W.findIn K (.ref CY0) "__class__" = some (some (.builtin "object.__class__")))
    (saY0 : PySem.W.findIn K (.ref CY0) "__setattr__" = some (some (.builtin "object.__setattr__")))
    (noY0 : PySem.W.findIn K (.ref CY0) "value" = some none)
    (inY0 : PySem.W.findIn K (.ref CY0) "__init__" = some (some (.ref gY0)))
    (tiY0 : PySem.W.typeIn K (.ref gY0) = some (.type "function"))
    (lY0 : K.lookup gY0 = some ⟨ocY0, odY0, .func (PySem.W.ksFn "__init__" "InvalidFunctions.__init__" (defArgs s_x0) (defBody s_x0) (defScope s_x0) .none kVY0 dcY0 pmY0 anY0 (.ref cdY0') ctY0 ccY0), slY0⟩)
    (coY0 : PySem.W.codeIn K (.ref cdY0') "InvalidFunctions.__init__" = true)
    (lcY0 : K.lookup cdY0' = some ⟨cclY0, cddY0, .fields vsY0, ccsY0⟩)
    (lccY0 : K.lookup ccY0 = some ⟨clY0, cldY0, .cell (some (.ref CY0)), cslY0⟩)
    (aY1 : PySem.W.nsIn K mainGlobals "InvalidFunction" = some (some (.ref CY1)))
    (ecY1 : K.lookup CY1 = some (excClassObj nmY1 qY1 CY1 NY1 bsY1 bmV true snY1 subY1 abY1 colY1 ddY1 k0Y1 k1Y1 k2Y1 k3Y1 k5Y1 "ValueError.__new__"))
    (gaY1 : PySem.W.findIn K (.ref CY1) "__getattribute__" = some (some (.builtin "BaseException.__getattribute__")))
    (ggY1 : PySem.W.findIn K (.ref CY1) "__getattr__" = some none)
    (haY1 : PySem.W.findIn K (.ref CY1) "__class__" = some (some (.builtin "object.__class__")))
    (saY1 : PySem.W.findIn K (.ref CY1) "__setattr__" = some (some (.builtin "object.__setattr__")))
    (noY1 : PySem.W.findIn K (.ref CY1) "name" = some none)
    (inY1 : PySem.W.findIn K (.ref CY1) "__init__" = some (some (.ref gY1)))
    (tiY1 : PySem.W.typeIn K (.ref gY1) = some (.type "function"))
    (lY1 : K.lookup gY1 = some ⟨ocY1, odY1, .func (PySem.W.ksFn "__init__" "InvalidFunction.__init__" (defArgs s_x1) (defBody s_x1) (defScope s_x1) .none kVY1 dcY1 pmY1 anY1 (.ref cdY1') ctY1 ccY1), slY1⟩)
    (coY1 : PySem.W.codeIn K (.ref cdY1') "InvalidFunction.__init__" = true)
    (lcY1 : K.lookup cdY1' = some ⟨cclY1, cddY1, .fields vsY1, ccsY1⟩)
    (lccY1 : K.lookup ccY1 = some ⟨clY1, cldY1, .cell (some (.ref CY1)), cslY1⟩)
    (aY2 : PySem.W.nsIn K mainGlobals "InvalidNames" = some (some (.ref CY2)))
    (ecY2 : K.lookup CY2 = some (excClassObj nmY2 qY2 CY2 NY2 bsY2 bmV true snY2 subY2 abY2 colY2 ddY2 k0Y2 k1Y2 k2Y2 k3Y2 k5Y2 "ValueError.__new__"))
    (gaY2 : PySem.W.findIn K (.ref CY2) "__getattribute__" = some (some (.builtin "BaseException.__getattribute__")))
    (ggY2 : PySem.W.findIn K (.ref CY2) "__getattr__" = some none)
    (haY2 : PySem.W.findIn K (.ref CY2) "__class__" = some (some (.builtin "object.__class__")))
    (saY2 : PySem.W.findIn K (.ref CY2) "__setattr__" = some (some (.builtin "object.__setattr__")))
    (noY2 : PySem.W.findIn K (.ref CY2) "name" = some none)
    (inY2 : PySem.W.findIn K (.ref CY2) "__init__" = some (some (.ref gY2)))
    (tiY2 : PySem.W.typeIn K (.ref gY2) = some (.type "function"))
    (lY2 : K.lookup gY2 = some ⟨ocY2, odY2, .func (PySem.W.ksFn "__init__" "InvalidNames.__init__" (defArgs s_x2) (defBody s_x2) (defScope s_x2) .none kVY2 dcY2 pmY2 anY2 (.ref cdY2') ctY2 ccY2), slY2⟩)
    (coY2 : PySem.W.codeIn K (.ref cdY2') "InvalidNames.__init__" = true)
    (lcY2 : K.lookup cdY2' = some ⟨cclY2, cddY2, .fields vsY2, ccsY2⟩)
    (lccY2 : K.lookup ccY2 = some ⟨clY2, cldY2, .cell (some (.ref CY2)), cslY2⟩)
    (aY3 : PySem.W.nsIn K mainGlobals "InvalidStatement" = some (some (.ref CY3)))
    (ecY3 : K.lookup CY3 = some (excClassObj nmY3 qY3 CY3 NY3 bsY3 bmV true snY3 subY3 abY3 colY3 ddY3 k0Y3 k1Y3 k2Y3 k3Y3 k5Y3 "ValueError.__new__"))
    (gaY3 : PySem.W.findIn K (.ref CY3) "__getattribute__" = some (some (.builtin "BaseException.__getattribute__")))
    (ggY3 : PySem.W.findIn K (.ref CY3) "__getattr__" = some none)
    (haY3 : PySem.W.findIn K (.ref CY3) "__class__" = some (some (.builtin "object.__class__")))
    (saY3 : PySem.W.findIn K (.ref CY3) "__setattr__" = some (some (.builtin "object.__setattr__")))
    (noY3 : PySem.W.findIn K (.ref CY3) "spot" = some none)
    (inY3 : PySem.W.findIn K (.ref CY3) "__init__" = some (some (.ref gY3)))
    (tiY3 : PySem.W.typeIn K (.ref gY3) = some (.type "function"))
    (lY3 : K.lookup gY3 = some ⟨ocY3, odY3, .func (PySem.W.ksFn "__init__" "InvalidStatement.__init__" (defArgs s_x3) (defBody s_x3) (defScope s_x3) .none kVY3 dcY3 pmY3 anY3 (.ref cdY3') ctY3 ccY3), slY3⟩)
    (coY3 : PySem.W.codeIn K (.ref cdY3') "InvalidStatement.__init__" = true)
    (lcY3 : K.lookup cdY3' = some ⟨cclY3, cddY3, .fields vsY3, ccsY3⟩)
    (lccY3 : K.lookup ccY3 = some ⟨clY3, cldY3, .cell (some (.ref CY3)), cslY3⟩)
    (aY4 : PySem.W.nsIn K mainGlobals "InvalidChoice" = some (some (.ref CY4)))
    (ecY4 : K.lookup CY4 = some (excClassObj nmY4 qY4 CY4 NY4 bsY4 bmV true snY4 subY4 abY4 colY4 ddY4 k0Y4 k1Y4 k2Y4 k3Y4 k5Y4 "ValueError.__new__"))
    (gaY4 : PySem.W.findIn K (.ref CY4) "__getattribute__" = some (some (.builtin "BaseException.__getattribute__")))
    (ggY4 : PySem.W.findIn K (.ref CY4) "__getattr__" = some none)
    (haY4 : PySem.W.findIn K (.ref CY4) "__class__" = some (some (.builtin "object.__class__")))
    (saY4 : PySem.W.findIn K (.ref CY4) "__setattr__" = some (some (.builtin "object.__setattr__")))
    (noY4 : PySem.W.findIn K (.ref CY4) "index" = some none)
    (inY4 : PySem.W.findIn K (.ref CY4) "__init__" = some (some (.ref gY4)))
    (tiY4 : PySem.W.typeIn K (.ref gY4) = some (.type "function"))
    (lY4 : K.lookup gY4 = some ⟨ocY4, odY4, .func (PySem.W.ksFn "__init__" "InvalidChoice.__init__" (defArgs s_x4) (defBody s_x4) (defScope s_x4) .none kVY4 dcY4 pmY4 anY4 (.ref cdY4') ctY4 ccY4), slY4⟩)
    (coY4 : PySem.W.codeIn K (.ref cdY4') "InvalidChoice.__init__" = true)
    (lcY4 : K.lookup cdY4' = some ⟨cclY4, cddY4, .fields vsY4, ccsY4⟩)
    (lccY4 : K.lookup ccY4 = some ⟨clY4, cldY4, .cell (some (.ref CY4)), cslY4⟩)
    (aY5 : PySem.W.nsIn K mainGlobals "InvalidPlaces" = some (some (.ref CY5)))
    (ecY5 : K.lookup CY5 = some (excClassObj nmY5 qY5 CY5 NY5 bsY5 bmV true snY5 subY5 abY5 colY5 ddY5 k0Y5 k1Y5 k2Y5 k3Y5 k5Y5 "ValueError.__new__"))
    (gaY5 : PySem.W.findIn K (.ref CY5) "__getattribute__" = some (some (.builtin "BaseException.__getattribute__")))
    (ggY5 : PySem.W.findIn K (.ref CY5) "__getattr__" = some none)
    (haY5 : PySem.W.findIn K (.ref CY5) "__class__" = some (some (.builtin "object.__class__")))
    (saY5 : PySem.W.findIn K (.ref CY5) "__setattr__" = some (some (.builtin "object.__setattr__")))
    (noY5 : PySem.W.findIn K (.ref CY5) "value" = some none)
    (inY5 : PySem.W.findIn K (.ref CY5) "__init__" = some (some (.ref gY5)))
    (tiY5 : PySem.W.typeIn K (.ref gY5) = some (.type "function"))
    (lY5 : K.lookup gY5 = some ⟨ocY5, odY5, .func (PySem.W.ksFn "__init__" "InvalidPlaces.__init__" (defArgs s_x5) (defBody s_x5) (defScope s_x5) .none kVY5 dcY5 pmY5 anY5 (.ref cdY5') ctY5 ccY5), slY5⟩)
    (coY5 : PySem.W.codeIn K (.ref cdY5') "InvalidPlaces.__init__" = true)
    (lcY5 : K.lookup cdY5' = some ⟨cclY5, cddY5, .fields vsY5, ccsY5⟩)
    (lccY5 : K.lookup ccY5 = some ⟨clY5, cldY5, .cell (some (.ref CY5)), cslY5⟩)
    (aY6 : PySem.W.nsIn K mainGlobals "InvalidPaper" = some (some (.ref CY6)))
    (ecY6 : K.lookup CY6 = some (excClassObj nmY6 qY6 CY6 NY6 bsY6 bmV true snY6 subY6 abY6 colY6 ddY6 k0Y6 k1Y6 k2Y6 k3Y6 k5Y6 "ValueError.__new__"))
    (gaY6 : PySem.W.findIn K (.ref CY6) "__getattribute__" = some (some (.builtin "BaseException.__getattribute__")))
    (ggY6 : PySem.W.findIn K (.ref CY6) "__getattr__" = some none)
    (haY6 : PySem.W.findIn K (.ref CY6) "__class__" = some (some (.builtin "object.__class__")))
    (saY6 : PySem.W.findIn K (.ref CY6) "__setattr__" = some (some (.builtin "object.__setattr__")))
    (noY6 : PySem.W.findIn K (.ref CY6) "value" = some none)
    (inY6 : PySem.W.findIn K (.ref CY6) "__init__" = some (some (.ref gY6)))
    (tiY6 : PySem.W.typeIn K (.ref gY6) = some (.type "function"))
    (lY6 : K.lookup gY6 = some ⟨ocY6, odY6, .func (PySem.W.ksFn "__init__" "InvalidPaper.__init__" (defArgs s_x6) (defBody s_x6) (defScope s_x6) .none kVY6 dcY6 pmY6 anY6 (.ref cdY6') ctY6 ccY6), slY6⟩)
    (coY6 : PySem.W.codeIn K (.ref cdY6') "InvalidPaper.__init__" = true)
    (lcY6 : K.lookup cdY6' = some ⟨cclY6, cddY6, .fields vsY6, ccsY6⟩)
    (lccY6 : K.lookup ccY6 = some ⟨clY6, cldY6, .cell (some (.ref CY6)), cslY6⟩)
    (aY7 : PySem.W.nsIn K mainGlobals "InvalidPrices" = some (some (.ref CY7)))
    (ecY7 : K.lookup CY7 = some (excClassObj nmY7 qY7 CY7 NY7 bsY7 bmV true snY7 subY7 abY7 colY7 ddY7 k0Y7 k1Y7 k2Y7 k3Y7 k5Y7 "ValueError.__new__"))
    (gaY7 : PySem.W.findIn K (.ref CY7) "__getattribute__" = some (some (.builtin "BaseException.__getattribute__")))
    (ggY7 : PySem.W.findIn K (.ref CY7) "__getattr__" = some none)
    (haY7 : PySem.W.findIn K (.ref CY7) "__class__" = some (some (.builtin "object.__class__")))
    (saY7 : PySem.W.findIn K (.ref CY7) "__setattr__" = some (some (.builtin "object.__setattr__")))
    (noY7 : PySem.W.findIn K (.ref CY7) "value" = some none)
    (inY7 : PySem.W.findIn K (.ref CY7) "__init__" = some (some (.ref gY7)))
    (tiY7 : PySem.W.typeIn K (.ref gY7) = some (.type "function"))
    (lY7 : K.lookup gY7 = some ⟨ocY7, odY7, .func (PySem.W.ksFn "__init__" "InvalidPrices.__init__" (defArgs s_x7) (defBody s_x7) (defScope s_x7) .none kVY7 dcY7 pmY7 anY7 (.ref cdY7') ctY7 ccY7), slY7⟩)
    (coY7 : PySem.W.codeIn K (.ref cdY7') "InvalidPrices.__init__" = true)
    (lcY7 : K.lookup cdY7' = some ⟨cclY7, cddY7, .fields vsY7, ccsY7⟩)
    (lccY7 : K.lookup ccY7 = some ⟨clY7, cldY7, .cell (some (.ref CY7)), cslY7⟩)
    (aY8 : PySem.W.nsIn K mainGlobals "InvalidProfile" = some (some (.ref CY8)))
    (ecY8 : K.lookup CY8 = some (excClassObj nmY8 qY8 CY8 NY8 bsY8 bmV true snY8 subY8 abY8 colY8 ddY8 k0Y8 k1Y8 k2Y8 k3Y8 k5Y8 "ValueError.__new__"))
    (gaY8 : PySem.W.findIn K (.ref CY8) "__getattribute__" = some (some (.builtin "BaseException.__getattribute__")))
    (ggY8 : PySem.W.findIn K (.ref CY8) "__getattr__" = some none)
    (haY8 : PySem.W.findIn K (.ref CY8) "__class__" = some (some (.builtin "object.__class__")))
    (saY8 : PySem.W.findIn K (.ref CY8) "__setattr__" = some (some (.builtin "object.__setattr__")))
    (noY8 : PySem.W.findIn K (.ref CY8) "value" = some none)
    (inY8 : PySem.W.findIn K (.ref CY8) "__init__" = some (some (.ref gY8)))
    (tiY8 : PySem.W.typeIn K (.ref gY8) = some (.type "function"))
    (lY8 : K.lookup gY8 = some ⟨ocY8, odY8, .func (PySem.W.ksFn "__init__" "InvalidProfile.__init__" (defArgs s_x8) (defBody s_x8) (defScope s_x8) .none kVY8 dcY8 pmY8 anY8 (.ref cdY8') ctY8 ccY8), slY8⟩)
    (coY8 : PySem.W.codeIn K (.ref cdY8') "InvalidProfile.__init__" = true)
    (lcY8 : K.lookup cdY8' = some ⟨cclY8, cddY8, .fields vsY8, ccsY8⟩)
    (lccY8 : K.lookup ccY8 = some ⟨clY8, cldY8, .cell (some (.ref CY8)), cslY8⟩)
    (aY9 : PySem.W.nsIn K mainGlobals "InvalidText" = some (some (.ref CY9)))
    (ecY9 : K.lookup CY9 = some (excClassObj nmY9 qY9 CY9 NY9 bsY9 bmV true snY9 subY9 abY9 colY9 ddY9 k0Y9 k1Y9 k2Y9 k3Y9 k5Y9 "ValueError.__new__"))
    (gaY9 : PySem.W.findIn K (.ref CY9) "__getattribute__" = some (some (.builtin "BaseException.__getattribute__")))
    (ggY9 : PySem.W.findIn K (.ref CY9) "__getattr__" = some none)
    (haY9 : PySem.W.findIn K (.ref CY9) "__class__" = some (some (.builtin "object.__class__")))
    (saY9 : PySem.W.findIn K (.ref CY9) "__setattr__" = some (some (.builtin "object.__setattr__")))
    (noY9 : PySem.W.findIn K (.ref CY9) "line" = some none)
    (inY9 : PySem.W.findIn K (.ref CY9) "__init__" = some (some (.ref gY9)))
    (tiY9 : PySem.W.typeIn K (.ref gY9) = some (.type "function"))
    (lY9 : K.lookup gY9 = some ⟨ocY9, odY9, .func (PySem.W.ksFn "__init__" "InvalidText.__init__" (defArgs s_x9) (defBody s_x9) (defScope s_x9) .none kVY9 dcY9 pmY9 anY9 (.ref cdY9') ctY9 ccY9), slY9⟩)
    (coY9 : PySem.W.codeIn K (.ref cdY9') "InvalidText.__init__" = true)
    (lcY9 : K.lookup cdY9' = some ⟨cclY9, cddY9, .fields vsY9, ccsY9⟩)
    (lccY9 : K.lookup ccY9 = some ⟨clY9, cldY9, .cell (some (.ref CY9)), cslY9⟩)
    (aY10 : PySem.W.nsIn K mainGlobals "InvalidStates" = some (some (.ref CY10)))
    (ecY10 : K.lookup CY10 = some (excClassObj nmY10 qY10 CY10 NY10 bsY10 bmV true snY10 subY10 abY10 colY10 ddY10 k0Y10 k1Y10 k2Y10 k3Y10 k5Y10 "ValueError.__new__"))
    (gaY10 : PySem.W.findIn K (.ref CY10) "__getattribute__" = some (some (.builtin "BaseException.__getattribute__")))
    (ggY10 : PySem.W.findIn K (.ref CY10) "__getattr__" = some none)
    (haY10 : PySem.W.findIn K (.ref CY10) "__class__" = some (some (.builtin "object.__class__")))
    (saY10 : PySem.W.findIn K (.ref CY10) "__setattr__" = some (some (.builtin "object.__setattr__")))
    (noY10 : PySem.W.findIn K (.ref CY10) "value" = some none)
    (inY10 : PySem.W.findIn K (.ref CY10) "__init__" = some (some (.ref gY10)))
    (tiY10 : PySem.W.typeIn K (.ref gY10) = some (.type "function"))
    (lY10 : K.lookup gY10 = some ⟨ocY10, odY10, .func (PySem.W.ksFn "__init__" "InvalidStates.__init__" (defArgs s_x10) (defBody s_x10) (defScope s_x10) .none kVY10 dcY10 pmY10 anY10 (.ref cdY10') ctY10 ccY10), slY10⟩)
    (coY10 : PySem.W.codeIn K (.ref cdY10') "InvalidStates.__init__" = true)
    (lcY10 : K.lookup cdY10' = some ⟨cclY10, cddY10, .fields vsY10, ccsY10⟩)
    (lccY10 : K.lookup ccY10 = some ⟨clY10, cldY10, .cell (some (.ref CY10)), cslY10⟩)
    (aY11 : PySem.W.nsIn K mainGlobals "NotClosed" = some (some (.ref CY11)))
    (ecY11 : K.lookup CY11 = some (excClassObj nmY11 qY11 CY11 NY11 bsY11 bmV true snY11 subY11 abY11 colY11 ddY11 k0Y11 k1Y11 k2Y11 k3Y11 k5Y11 "ValueError.__new__"))
    (gaY11 : PySem.W.findIn K (.ref CY11) "__getattribute__" = some (some (.builtin "BaseException.__getattribute__")))
    (ggY11 : PySem.W.findIn K (.ref CY11) "__getattr__" = some none)
    (haY11 : PySem.W.findIn K (.ref CY11) "__class__" = some (some (.builtin "object.__class__")))
    (saY11 : PySem.W.findIn K (.ref CY11) "__setattr__" = some (some (.builtin "object.__setattr__")))
    (noY11 : PySem.W.findIn K (.ref CY11) "spot" = some none)
    (inY11 : PySem.W.findIn K (.ref CY11) "__init__" = some (some (.ref gY11)))
    (tiY11 : PySem.W.typeIn K (.ref gY11) = some (.type "function"))
    (lY11 : K.lookup gY11 = some ⟨ocY11, odY11, .func (PySem.W.ksFn "__init__" "NotClosed.__init__" (defArgs s_x11) (defBody s_x11) (defScope s_x11) .none kVY11 dcY11 pmY11 anY11 (.ref cdY11') ctY11 ccY11), slY11⟩)
    (coY11 : PySem.W.codeIn K (.ref cdY11') "NotClosed.__init__" = true)
    (lcY11 : K.lookup cdY11' = some ⟨cclY11, cddY11, .fields vsY11, ccsY11⟩)
    (lccY11 : K.lookup ccY11 = some ⟨clY11, cldY11, .cell (some (.ref CY11)), cslY11⟩)
    (aY12 : PySem.W.nsIn K mainGlobals "Faulty" = some (some (.ref CY12)))
    (ecY12 : K.lookup CY12 = some (excClassObj nmY12 qY12 CY12 NY12 bsY12 bmV true snY12 subY12 abY12 colY12 ddY12 k0Y12 k1Y12 k2Y12 k3Y12 k5Y12 "ValueError.__new__"))
    (gaY12 : PySem.W.findIn K (.ref CY12) "__getattribute__" = some (some (.builtin "BaseException.__getattribute__")))
    (ggY12 : PySem.W.findIn K (.ref CY12) "__getattr__" = some none)
    (haY12 : PySem.W.findIn K (.ref CY12) "__class__" = some (some (.builtin "object.__class__")))
    (saY12 : PySem.W.findIn K (.ref CY12) "__setattr__" = some (some (.builtin "object.__setattr__")))
    (noY12 : PySem.W.findIn K (.ref CY12) "spot" = some none)
    (inY12 : PySem.W.findIn K (.ref CY12) "__init__" = some (some (.ref gY12)))
    (tiY12 : PySem.W.typeIn K (.ref gY12) = some (.type "function"))
    (lY12 : K.lookup gY12 = some ⟨ocY12, odY12, .func (PySem.W.ksFn "__init__" "Faulty.__init__" (defArgs s_x12) (defBody s_x12) (defScope s_x12) .none kVY12 dcY12 pmY12 anY12 (.ref cdY12') ctY12 ccY12), slY12⟩)
    (coY12 : PySem.W.codeIn K (.ref cdY12') "Faulty.__init__" = true)
    (lcY12 : K.lookup cdY12' = some ⟨cclY12, cddY12, .fields vsY12, ccsY12⟩)
    (lccY12 : K.lookup ccY12 = some ⟨clY12, cldY12, .cell (some (.ref CY12)), cslY12⟩)
    (aY13 : PySem.W.nsIn K mainGlobals "UnknownFunction" = some (some (.ref CY13)))
    (ecY13 : K.lookup CY13 = some (excClassObj nmY13 qY13 CY13 NY13 bsY13 bmK true snY13 subY13 abY13 colY13 ddY13 k0Y13 k1Y13 k2Y13 k3Y13 k5Y13 "LookupError.__new__"))
    (gaY13 : PySem.W.findIn K (.ref CY13) "__getattribute__" = some (some (.builtin "BaseException.__getattribute__")))
    (ggY13 : PySem.W.findIn K (.ref CY13) "__getattr__" = some none)
    (haY13 : PySem.W.findIn K (.ref CY13) "__class__" = some (some (.builtin "object.__class__")))
    (saY13 : PySem.W.findIn K (.ref CY13) "__setattr__" = some (some (.builtin "object.__setattr__")))
    (noY13 : PySem.W.findIn K (.ref CY13) "value" = some none)
    (inY13 : PySem.W.findIn K (.ref CY13) "__init__" = some (some (.ref gY13)))
    (tiY13 : PySem.W.typeIn K (.ref gY13) = some (.type "function"))
    (lY13 : K.lookup gY13 = some ⟨ocY13, odY13, .func (PySem.W.ksFn "__init__" "UnknownFunction.__init__" (defArgs s_x13) (defBody s_x13) (defScope s_x13) .none kVY13 dcY13 pmY13 anY13 (.ref cdY13') ctY13 ccY13), slY13⟩)
    (coY13 : PySem.W.codeIn K (.ref cdY13') "UnknownFunction.__init__" = true)
    (lcY13 : K.lookup cdY13' = some ⟨cclY13, cddY13, .fields vsY13, ccsY13⟩)
    (lccY13 : K.lookup ccY13 = some ⟨clY13, cldY13, .cell (some (.ref CY13)), cslY13⟩)
    (aY14 : PySem.W.nsIn K mainGlobals "UnknownSpot" = some (some (.ref CY14)))
    (ecY14 : K.lookup CY14 = some (excClassObj nmY14 qY14 CY14 NY14 bsY14 bmK true snY14 subY14 abY14 colY14 ddY14 k0Y14 k1Y14 k2Y14 k3Y14 k5Y14 "LookupError.__new__"))
    (gaY14 : PySem.W.findIn K (.ref CY14) "__getattribute__" = some (some (.builtin "BaseException.__getattribute__")))
    (ggY14 : PySem.W.findIn K (.ref CY14) "__getattr__" = some none)
    (haY14 : PySem.W.findIn K (.ref CY14) "__class__" = some (some (.builtin "object.__class__")))
    (saY14 : PySem.W.findIn K (.ref CY14) "__setattr__" = some (some (.builtin "object.__setattr__")))
    (noY14 : PySem.W.findIn K (.ref CY14) "value" = some none)
    (inY14 : PySem.W.findIn K (.ref CY14) "__init__" = some (some (.ref gY14)))
    (tiY14 : PySem.W.typeIn K (.ref gY14) = some (.type "function"))
    (lY14 : K.lookup gY14 = some ⟨ocY14, odY14, .func (PySem.W.ksFn "__init__" "UnknownSpot.__init__" (defArgs s_x14) (defBody s_x14) (defScope s_x14) .none kVY14 dcY14 pmY14 anY14 (.ref cdY14') ctY14 ccY14), slY14⟩)
    (coY14 : PySem.W.codeIn K (.ref cdY14') "UnknownSpot.__init__" = true)
    (lcY14 : K.lookup cdY14' = some ⟨cclY14, cddY14, .fields vsY14, ccsY14⟩)
    (lccY14 : K.lookup ccY14 = some ⟨clY14, cldY14, .cell (some (.ref CY14)), cslY14⟩)
    (aY15 : PySem.W.nsIn K mainGlobals "UnknownName" = some (some (.ref CY15)))
    (ecY15 : K.lookup CY15 = some (excClassObj nmY15 qY15 CY15 NY15 bsY15 bmK true snY15 subY15 abY15 colY15 ddY15 k0Y15 k1Y15 k2Y15 k3Y15 k5Y15 "LookupError.__new__"))
    (gaY15 : PySem.W.findIn K (.ref CY15) "__getattribute__" = some (some (.builtin "BaseException.__getattribute__")))
    (ggY15 : PySem.W.findIn K (.ref CY15) "__getattr__" = some none)
    (haY15 : PySem.W.findIn K (.ref CY15) "__class__" = some (some (.builtin "object.__class__")))
    (saY15 : PySem.W.findIn K (.ref CY15) "__setattr__" = some (some (.builtin "object.__setattr__")))
    (noY15 : PySem.W.findIn K (.ref CY15) "value" = some none)
    (inY15 : PySem.W.findIn K (.ref CY15) "__init__" = some (some (.ref gY15)))
    (tiY15 : PySem.W.typeIn K (.ref gY15) = some (.type "function"))
    (lY15 : K.lookup gY15 = some ⟨ocY15, odY15, .func (PySem.W.ksFn "__init__" "UnknownName.__init__" (defArgs s_x15) (defBody s_x15) (defScope s_x15) .none kVY15 dcY15 pmY15 anY15 (.ref cdY15') ctY15 ccY15), slY15⟩)
    (coY15 : PySem.W.codeIn K (.ref cdY15') "UnknownName.__init__" = true)
    (lcY15 : K.lookup cdY15' = some ⟨cclY15, cddY15, .fields vsY15, ccsY15⟩)
    (lccY15 : K.lookup ccY15 = some ⟨clY15, cldY15, .cell (some (.ref CY15)), cslY15⟩)
    (aY16 : PySem.W.nsIn K mainGlobals "OutOfRange" = some (some (.ref CY16)))
    (ecY16 : K.lookup CY16 = some (excClassObj nmY16 qY16 CY16 NY16 bsY16 bmI true snY16 subY16 abY16 colY16 ddY16 k0Y16 k1Y16 k2Y16 k3Y16 k5Y16 "IndexError.__new__"))
    (gaY16 : PySem.W.findIn K (.ref CY16) "__getattribute__" = some (some (.builtin "BaseException.__getattribute__")))
    (ggY16 : PySem.W.findIn K (.ref CY16) "__getattr__" = some none)
    (haY16 : PySem.W.findIn K (.ref CY16) "__class__" = some (some (.builtin "object.__class__")))
    (saY16 : PySem.W.findIn K (.ref CY16) "__setattr__" = some (some (.builtin "object.__setattr__")))
    (noY16 : PySem.W.findIn K (.ref CY16) "value" = some none)
    (inY16 : PySem.W.findIn K (.ref CY16) "__init__" = some (some (.ref gY16)))
    (tiY16 : PySem.W.typeIn K (.ref gY16) = some (.type "function"))
    (lY16 : K.lookup gY16 = some ⟨ocY16, odY16, .func (PySem.W.ksFn "__init__" "OutOfRange.__init__" (defArgs s_x16) (defBody s_x16) (defScope s_x16) .none kVY16 dcY16 pmY16 anY16 (.ref cdY16') ctY16 ccY16), slY16⟩)
    (coY16 : PySem.W.codeIn K (.ref cdY16') "OutOfRange.__init__" = true)
    (lcY16 : K.lookup cdY16' = some ⟨cclY16, cddY16, .fields vsY16, ccsY16⟩)
    (lccY16 : K.lookup ccY16 = some ⟨clY16, cldY16, .cell (some (.ref CY16)), cslY16⟩)
    (aY17 : PySem.W.nsIn K mainGlobals "TooMany" = some (some (.ref CY17)))
    (ecY17 : K.lookup CY17 = some (excClassObj nmY17 qY17 CY17 NY17 bsY17 bmO true snY17 subY17 abY17 colY17 ddY17 k0Y17 k1Y17 k2Y17 k3Y17 k5Y17 "OverflowError.__new__"))
    (gaY17 : PySem.W.findIn K (.ref CY17) "__getattribute__" = some (some (.builtin "BaseException.__getattribute__")))
    (ggY17 : PySem.W.findIn K (.ref CY17) "__getattr__" = some none)
    (haY17 : PySem.W.findIn K (.ref CY17) "__class__" = some (some (.builtin "object.__class__")))
    (saY17 : PySem.W.findIn K (.ref CY17) "__setattr__" = some (some (.builtin "object.__setattr__")))
    (noY17 : PySem.W.findIn K (.ref CY17) "limit" = some none)
    (inY17 : PySem.W.findIn K (.ref CY17) "__init__" = some (some (.ref gY17)))
    (tiY17 : PySem.W.typeIn K (.ref gY17) = some (.type "function"))
    (lY17 : K.lookup gY17 = some ⟨ocY17, odY17, .func (PySem.W.ksFn "__init__" "TooMany.__init__" (defArgs s_x17) (defBody s_x17) (defScope s_x17) .none kVY17 dcY17 pmY17 anY17 (.ref cdY17') ctY17 ccY17), slY17⟩)
    (coY17 : PySem.W.codeIn K (.ref cdY17') "TooMany.__init__" = true)
    (lcY17 : K.lookup cdY17' = some ⟨cclY17, cddY17, .fields vsY17, ccsY17⟩)
    (lccY17 : K.lookup ccY17 = some ⟨clY17, cldY17, .cell (some (.ref CY17)), cslY17⟩)
    (aY18 : PySem.W.nsIn K mainGlobals "InTrial" = some (some (.ref CY18)))
    (ecY18 : K.lookup CY18 = some (excClassObj nmY18 qY18 CY18 NY18 bsY18 bmR true snY18 subY18 abY18 colY18 ddY18 k0Y18 k1Y18 k2Y18 k3Y18 k5Y18 "RuntimeError.__new__"))
    (gaY18 : PySem.W.findIn K (.ref CY18) "__getattribute__" = some (some (.builtin "BaseException.__getattribute__")))
    (ggY18 : PySem.W.findIn K (.ref CY18) "__getattr__" = some none)
    (haY18 : PySem.W.findIn K (.ref CY18) "__class__" = some (some (.builtin "object.__class__")))
    (w_MAX_FUNCTIONS : v_MAX_FUNCTIONS = 12)
    (w_MAX_NAMES : v_MAX_NAMES = 8)
    (w_MAX_STATEMENTS : v_MAX_STATEMENTS = 150)
    (w_MAX_DEPTH : v_MAX_DEPTH = 8)
    (w_MAX_SIZE : v_MAX_SIZE = (10 ^ 30))
    (w_MOST_STEPS : v_MOST_STEPS = (10 ^ 300))
    (fvY0 : vsY0[2]? = some (.str fileY0 tfY0))
    (ffY0 : ((l.prog.main.file : Str) == fileY0) = true)
    (fvY1 : vsY1[2]? = some (.str fileY1 tfY1))
    (ffY1 : ((l.prog.main.file : Str) == fileY1) = true)
    (fvY2 : vsY2[2]? = some (.str fileY2 tfY2))
    (ffY2 : ((l.prog.main.file : Str) == fileY2) = true)
    (fvY3 : vsY3[2]? = some (.str fileY3 tfY3))
    (ffY3 : ((l.prog.main.file : Str) == fileY3) = true)
    (fvY4 : vsY4[2]? = some (.str fileY4 tfY4))
    (ffY4 : ((l.prog.main.file : Str) == fileY4) = true)
    (fvY5 : vsY5[2]? = some (.str fileY5 tfY5))
    (ffY5 : ((l.prog.main.file : Str) == fileY5) = true)
    (fvY6 : vsY6[2]? = some (.str fileY6 tfY6))
    (ffY6 : ((l.prog.main.file : Str) == fileY6) = true)
    (fvY7 : vsY7[2]? = some (.str fileY7 tfY7))
    (ffY7 : ((l.prog.main.file : Str) == fileY7) = true)
    (fvY8 : vsY8[2]? = some (.str fileY8 tfY8))
    (ffY8 : ((l.prog.main.file : Str) == fileY8) = true)
    (fvY9 : vsY9[2]? = some (.str fileY9 tfY9))
    (ffY9 : ((l.prog.main.file : Str) == fileY9) = true)
    (fvY10 : vsY10[2]? = some (.str fileY10 tfY10))
    (ffY10 : ((l.prog.main.file : Str) == fileY10) = true)
    (fvY11 : vsY11[2]? = some (.str fileY11 tfY11))
    (ffY11 : ((l.prog.main.file : Str) == fileY11) = true)
    (fvY12 : vsY12[2]? = some (.str fileY12 tfY12))
    (ffY12 : ((l.prog.main.file : Str) == fileY12) = true)
    (fvY13 : vsY13[2]? = some (.str fileY13 tfY13))
    (ffY13 : ((l.prog.main.file : Str) == fileY13) = true)
    (fvY14 : vsY14[2]? = some (.str fileY14 tfY14))
    (ffY14 : ((l.prog.main.file : Str) == fileY14) = true)
    (fvY15 : vsY15[2]? = some (.str fileY15 tfY15))
    (ffY15 : ((l.prog.main.file : Str) == fileY15) = true)
    (fvY16 : vsY16[2]? = some (.str fileY16 tfY16))
    (ffY16 : ((l.prog.main.file : Str) == fileY16) = true)
    (fvY17 : vsY17[2]? = some (.str fileY17 tfY17))
    (ffY17 : ((l.prog.main.file : Str) == fileY17) = true)
    (qT : PySem.W.excIn K CY18 bmR "RuntimeError.__new__" = true)
    (alV : PySem.W.alongIn K "__init__" bmV = some (some (.builtin "ValueError.__init__")))
    (alK : PySem.W.alongIn K "__init__" bmK = some (some (.builtin "KeyError.__init__")))
    (alI : PySem.W.alongIn K "__init__" bmI = some (some (.builtin "IndexError.__init__")))
    (alO : PySem.W.alongIn K "__init__" bmO = some (some (.builtin "OverflowError.__init__")))
    (topS : (l.prog.main.scope.names.lookup ("super" : Str)).isSome = false)
    (nd : ([CY0, CY1, CY2, CY3, CY4, CY5, CY6, CY7, CY8, CY9, CY10, CY11, CY12, CY13, CY14, CY15, CY16, CY17, CY18] : List Addr).Nodup)
    : ∃ fd : FuncData, (∀ (s : Shared) (v : Value), BindsTo s fd ⟨[v], []⟩ [("_law_script", v)]) ∧ ∀ base : Heap, K.In base → base.Ns mainGlobals mg → SysB base → FnG l.prog w K mg base 9 fa fd ["_law_script"] (spLaw12 K) := by
  have e := hfa.symm.trans (PySem.W.mg_of X G a9)
  cases e
  have B : Bi mg := ⟨PySem.W.mg_none_of X G z_int, PySem.W.mg_none_of X G z_len, PySem.W.mg_none_of X G z_list, PySem.W.mg_none_of X G z_tuple, PySem.W.mg_none_of X G z_dict, PySem.W.mg_none_of X G z_set, PySem.W.mg_none_of X G z_all, PySem.W.mg_none_of X G z_min, PySem.W.mg_none_of X G z_range, PySem.W.mg_none_of X G z_sorted, PySem.W.mg_none_of X G z_isinstance, PySem.W.mg_none_of X G z_repr, PySem.W.mg_none_of X G z_str⟩
  have BE : Bex mg := ⟨PySem.W.mg_none_of X G z_ValueError, PySem.W.mg_none_of X G z_KeyError, PySem.W.mg_none_of X G z_IndexError, PySem.W.mg_none_of X G z_OverflowError, PySem.W.mg_none_of X G z_RuntimeError⟩
  have GM : Gm mg := ⟨⟨_, PySem.W.mg_of X G g_MAX_FUNCTIONS, ⟨_, by rw [w_MAX_FUNCTIONS]⟩⟩, ⟨_, PySem.W.mg_of X G g_MAX_NAMES, ⟨_, by rw [w_MAX_NAMES]⟩⟩, ⟨_, PySem.W.mg_of X G g_MAX_STATEMENTS, ⟨_, by rw [w_MAX_STATEMENTS]⟩⟩, ⟨_, PySem.W.mg_of X G g_MAX_DEPTH, ⟨_, by rw [w_MAX_DEPTH]⟩⟩, ⟨_, PySem.W.mg_of X G g_MAX_SIZE, ⟨_, by rw [w_MAX_SIZE]⟩⟩, ⟨_, PySem.W.mg_of X G g_MOST_STEPS, ⟨_, by rw [w_MOST_STEPS]⟩⟩⟩
  have F0 := fun_mk (st := s_own_copy) l0 c0 k0
  have b0 := F0.binds (ps := ["value"]) fun _ _ _ _ _ _ us hl => match us, hl with | [_], _ => rfl
  have F1 := fun_mk (st := s_L_pen) l1 c1 k1
  have b1 := F1.binds (ps := ["_law_script"]) fun _ _ _ _ _ _ us hl => match us, hl with | [_], _ => rfl
  have F2 := fun_mk (st := s_L_draw) l2 c2 k2
  have b2 := F2.binds (ps := ["_law_pen_here", "_law_many"]) fun _ _ _ _ _ _ us hl => match us, hl with | [_, _], _ => rfl
  have F3 := fun_mk (st := s_L_pick) l3 c3 k3
  have b3 := F3.binds (ps := ["_law_pen_here", "_law_items"]) fun _ _ _ _ _ _ us hl => match us, hl with | [_, _], _ => rfl
  have F4 := fun_mk (st := s_L_any) l4 c4 k4
  have b4 := F4.binds (ps := ["_law_pen_here", "_law_deep"]) fun _ _ _ _ _ _ us hl => match us, hl with | [_, _], _ => rfl
  have F5 := fun_mk (st := s_L_made) l5 c5 k5
  have b5 := F5.binds (ps := ["_law_thing"]) fun _ _ _ _ _ _ us hl => match us, hl with | [_], _ => rfl
  have F6 := fun_mk (st := s_L_kinds) l6 c6 k6
  have b6 := F6.binds (ps := ["_law_error"]) fun _ _ _ _ _ _ us hl => match us, hl with | [_], _ => rfl
  have F7 := fun_mk (st := s_L_own) l7 c7 k7
  have b7 := F7.binds (ps := ["_law_error"]) fun _ _ _ _ _ _ us hl => match us, hl with | [_], _ => rfl
  have F8 := fun_mk (st := s_L_spoil) l8 c8 k8
  have b8 := F8.binds (ps := ["_law_thing"]) fun _ _ _ _ _ _ us hl => match us, hl with | [_], _ => rfl
  have F9 := fun_mk (st := s_law) l9 c9 k9
  have b9 := F9.binds (ps := ["_law_script"]) fun _ _ _ _ _ _ us hl => match us, hl with | [_], _ => rfl
  obtain ⟨c, hc⟩ : ∃ c : Cs, c = ⟨CY0, CY1, CY2, CY3, CY4, CY5, CY6, CY7, CY8, CY9, CY10, CY11, CY12, CY13, CY14, CY15, CY16, CY17, CY18⟩ := ⟨_, rfl⟩
  have GX : Gx mg c := by rw [hc]; exact ⟨⟨_, PySem.W.mg_of X G aY0, rfl⟩, ⟨_, PySem.W.mg_of X G aY1, rfl⟩, ⟨_, PySem.W.mg_of X G aY2, rfl⟩, ⟨_, PySem.W.mg_of X G aY3, rfl⟩, ⟨_, PySem.W.mg_of X G aY4, rfl⟩, ⟨_, PySem.W.mg_of X G aY5, rfl⟩, ⟨_, PySem.W.mg_of X G aY6, rfl⟩, ⟨_, PySem.W.mg_of X G aY7, rfl⟩, ⟨_, PySem.W.mg_of X G aY8, rfl⟩, ⟨_, PySem.W.mg_of X G aY9, rfl⟩, ⟨_, PySem.W.mg_of X G aY10, rfl⟩, ⟨_, PySem.W.mg_of X G aY11, rfl⟩, ⟨_, PySem.W.mg_of X G aY12, rfl⟩, ⟨_, PySem.W.mg_of X G aY13, rfl⟩, ⟨_, PySem.W.mg_of X G aY14, rfl⟩, ⟨_, PySem.W.mg_of X G aY15, rfl⟩, ⟨_, PySem.W.mg_of X G aY16, rfl⟩, ⟨_, PySem.W.mg_of X G aY17, rfl⟩, ⟨_, PySem.W.mg_of X G aY18, rfl⟩⟩
  have I0 : IsC K CY0 bmV := mk_isC ecY0 (by decide +kernel) (by decide +kernel) gaY0 ggY0 haY0 hgt htk
  have I1 : IsC K CY1 bmV := mk_isC ecY1 (by decide +kernel) (by decide +kernel) gaY1 ggY1 haY1 hgt htk
  have I2 : IsC K CY2 bmV := mk_isC ecY2 (by decide +kernel) (by decide +kernel) gaY2 ggY2 haY2 hgt htk
  have I3 : IsC K CY3 bmV := mk_isC ecY3 (by decide +kernel) (by decide +kernel) gaY3 ggY3 haY3 hgt htk
  have I4 : IsC K CY4 bmV := mk_isC ecY4 (by decide +kernel) (by decide +kernel) gaY4 ggY4 haY4 hgt htk
  have I5 : IsC K CY5 bmV := mk_isC ecY5 (by decide +kernel) (by decide +kernel) gaY5 ggY5 haY5 hgt htk
  have I6 : IsC K CY6 bmV := mk_isC ecY6 (by decide +kernel) (by decide +kernel) gaY6 ggY6 haY6 hgt htk
  have I7 : IsC K CY7 bmV := mk_isC ecY7 (by decide +kernel) (by decide +kernel) gaY7 ggY7 haY7 hgt htk
  have I8 : IsC K CY8 bmV := mk_isC ecY8 (by decide +kernel) (by decide +kernel) gaY8 ggY8 haY8 hgt htk
  have I9 : IsC K CY9 bmV := mk_isC ecY9 (by decide +kernel) (by decide +kernel) gaY9 ggY9 haY9 hgt htk
  have I10 : IsC K CY10 bmV := mk_isC ecY10 (by decide +kernel) (by decide +kernel) gaY10 ggY10 haY10 hgt htk
  have I11 : IsC K CY11 bmV := mk_isC ecY11 (by decide +kernel) (by decide +kernel) gaY11 ggY11 haY11 hgt htk
  have I12 : IsC K CY12 bmV := mk_isC ecY12 (by decide +kernel) (by decide +kernel) gaY12 ggY12 haY12 hgt htk
  have I13 : IsC K CY13 bmK := mk_isC ecY13 (by decide +kernel) (by decide +kernel) gaY13 ggY13 haY13 hgt htk
  have I14 : IsC K CY14 bmK := mk_isC ecY14 (by decide +kernel) (by decide +kernel) gaY14 ggY14 haY14 hgt htk
  have I15 : IsC K CY15 bmK := mk_isC ecY15 (by decide +kernel) (by decide +kernel) gaY15 ggY15 haY15 hgt htk
  have I16 : IsC K CY16 bmI := mk_isC ecY16 (by decide +kernel) (by decide +kernel) gaY16 ggY16 haY16 hgt htk
  have I17 : IsC K CY17 bmO := mk_isC ecY17 (by decide +kernel) (by decide +kernel) gaY17 ggY17 haY17 hgt htk
  have I18 : IsC K CY18 bmR := mk_isC ecY18 (by decide +kernel) (by decide +kernel) gaY18 ggY18 haY18 hgt htk
  have TC : Tc K c := by
    rw [hc]
    refine ⟨fun x hx => ?_, nd⟩
    unfold Cs.tab at hx
    simp only [List.mem_cons, List.not_mem_nil, or_false] at hx
    rcases hx with rfl | rfl | rfl | rfl | rfl | rfl | rfl | rfl | rfl | rfl | rfl | rfl | rfl | rfl | rfl | rfl | rfl | rfl | rfl
    · exact ⟨_, I0, free_V, kinds_V⟩
    · exact ⟨_, I1, free_V, kinds_V⟩
    · exact ⟨_, I2, free_V, kinds_V⟩
    · exact ⟨_, I3, free_V, kinds_V⟩
    · exact ⟨_, I4, free_V, kinds_V⟩
    · exact ⟨_, I5, free_V, kinds_V⟩
    · exact ⟨_, I6, free_V, kinds_V⟩
    · exact ⟨_, I7, free_V, kinds_V⟩
    · exact ⟨_, I8, free_V, kinds_V⟩
    · exact ⟨_, I9, free_V, kinds_V⟩
    · exact ⟨_, I10, free_V, kinds_V⟩
    · exact ⟨_, I11, free_V, kinds_V⟩
    · exact ⟨_, I12, free_V, kinds_V⟩
    · exact ⟨_, I13, free_K, kinds_K⟩
    · exact ⟨_, I14, free_K, kinds_K⟩
    · exact ⟨_, I15, free_K, kinds_K⟩
    · exact ⟨_, I16, free_I, kinds_I⟩
    · exact ⟨_, I17, free_O, kinds_O⟩
    · exact ⟨_, I18, free_R, kinds_R⟩
  have Z0 : ExiB l.prog K mg CY0 "value" "ValueError" "ValueError.__new__" "ValueError" "ValueError.__init__" := mk_exiB ecY0 (osam_V _) tail_V init_V PySem.W.kxs_ValueError (by decide +kernel) (by decide +kernel) alV kt saY0 gaY0 ggY0 noY0 topS (PySem.W.mg_none_of X G z_super) hop
  have FC0 : FunC l.prog K "__init__" "InvalidFunctions.__init__" s_x0 gY0 CY0 _ := ⟨_, _, _, _, _, _, _, _, _, _, _, _, _, _, _, _, _, _, _, rfl, lY0, coY0, lcY0, fvY0, ffY0, lccY0⟩
  have Z1 : ExiB l.prog K mg CY1 "name" "ValueError" "ValueError.__new__" "ValueError" "ValueError.__init__" := mk_exiB ecY1 (osam_V _) tail_V init_V PySem.W.kxs_ValueError (by decide +kernel) (by decide +kernel) alV kt saY1 gaY1 ggY1 noY1 topS (PySem.W.mg_none_of X G z_super) hop
  have FC1 : FunC l.prog K "__init__" "InvalidFunction.__init__" s_x1 gY1 CY1 _ := ⟨_, _, _, _, _, _, _, _, _, _, _, _, _, _, _, _, _, _, _, rfl, lY1, coY1, lcY1, fvY1, ffY1, lccY1⟩
  have Z2 : ExiB l.prog K mg CY2 "name" "ValueError" "ValueError.__new__" "ValueError" "ValueError.__init__" := mk_exiB ecY2 (osam_V _) tail_V init_V PySem.W.kxs_ValueError (by decide +kernel) (by decide +kernel) alV kt saY2 gaY2 ggY2 noY2 topS (PySem.W.mg_none_of X G z_super) hop
  have FC2 : FunC l.prog K "__init__" "InvalidNames.__init__" s_x2 gY2 CY2 _ := ⟨_, _, _, _, _, _, _, _, _, _, _, _, _, _, _, _, _, _, _, rfl, lY2, coY2, lcY2, fvY2, ffY2, lccY2⟩
  have Z3 : ExiB l.prog K mg CY3 "spot" "ValueError" "ValueError.__new__" "ValueError" "ValueError.__init__" := mk_exiB ecY3 (osam_V _) tail_V init_V PySem.W.kxs_ValueError (by decide +kernel) (by decide +kernel) alV kt saY3 gaY3 ggY3 noY3 topS (PySem.W.mg_none_of X G z_super) hop
  have FC3 : FunC l.prog K "__init__" "InvalidStatement.__init__" s_x3 gY3 CY3 _ := ⟨_, _, _, _, _, _, _, _, _, _, _, _, _, _, _, _, _, _, _, rfl, lY3, coY3, lcY3, fvY3, ffY3, lccY3⟩
  have Z4 : ExiB l.prog K mg CY4 "index" "ValueError" "ValueError.__new__" "ValueError" "ValueError.__init__" := mk_exiB ecY4 (osam_V _) tail_V init_V PySem.W.kxs_ValueError (by decide +kernel) (by decide +kernel) alV kt saY4 gaY4 ggY4 noY4 topS (PySem.W.mg_none_of X G z_super) hop
  have FC4 : FunC l.prog K "__init__" "InvalidChoice.__init__" s_x4 gY4 CY4 _ := ⟨_, _, _, _, _, _, _, _, _, _, _, _, _, _, _, _, _, _, _, rfl, lY4, coY4, lcY4, fvY4, ffY4, lccY4⟩
  have Z5 : ExiB l.prog K mg CY5 "value" "ValueError" "ValueError.__new__" "ValueError" "ValueError.__init__" := mk_exiB ecY5 (osam_V _) tail_V init_V PySem.W.kxs_ValueError (by decide +kernel) (by decide +kernel) alV kt saY5 gaY5 ggY5 noY5 topS (PySem.W.mg_none_of X G z_super) hop
  have FC5 : FunC l.prog K "__init__" "InvalidPlaces.__init__" s_x5 gY5 CY5 _ := ⟨_, _, _, _, _, _, _, _, _, _, _, _, _, _, _, _, _, _, _, rfl, lY5, coY5, lcY5, fvY5, ffY5, lccY5⟩
  have Z6 : ExiB l.prog K mg CY6 "value" "ValueError" "ValueError.__new__" "ValueError" "ValueError.__init__" := mk_exiB ecY6 (osam_V _) tail_V init_V PySem.W.kxs_ValueError (by decide +kernel) (by decide +kernel) alV kt saY6 gaY6 ggY6 noY6 topS (PySem.W.mg_none_of X G z_super) hop
  have FC6 : FunC l.prog K "__init__" "InvalidPaper.__init__" s_x6 gY6 CY6 _ := ⟨_, _, _, _, _, _, _, _, _, _, _, _, _, _, _, _, _, _, _, rfl, lY6, coY6, lcY6, fvY6, ffY6, lccY6⟩
  have Z7 : ExiB l.prog K mg CY7 "value" "ValueError" "ValueError.__new__" "ValueError" "ValueError.__init__" := mk_exiB ecY7 (osam_V _) tail_V init_V PySem.W.kxs_ValueError (by decide +kernel) (by decide +kernel) alV kt saY7 gaY7 ggY7 noY7 topS (PySem.W.mg_none_of X G z_super) hop
  have FC7 : FunC l.prog K "__init__" "InvalidPrices.__init__" s_x7 gY7 CY7 _ := ⟨_, _, _, _, _, _, _, _, _, _, _, _, _, _, _, _, _, _, _, rfl, lY7, coY7, lcY7, fvY7, ffY7, lccY7⟩
  have Z8 : ExiB l.prog K mg CY8 "value" "ValueError" "ValueError.__new__" "ValueError" "ValueError.__init__" := mk_exiB ecY8 (osam_V _) tail_V init_V PySem.W.kxs_ValueError (by decide +kernel) (by decide +kernel) alV kt saY8 gaY8 ggY8 noY8 topS (PySem.W.mg_none_of X G z_super) hop
  have FC8 : FunC l.prog K "__init__" "InvalidProfile.__init__" s_x8 gY8 CY8 _ := ⟨_, _, _, _, _, _, _, _, _, _, _, _, _, _, _, _, _, _, _, rfl, lY8, coY8, lcY8, fvY8, ffY8, lccY8⟩
  have Z9 : ExiB l.prog K mg CY9 "line" "ValueError" "ValueError.__new__" "ValueError" "ValueError.__init__" := mk_exiB ecY9 (osam_V _) tail_V init_V PySem.W.kxs_ValueError (by decide +kernel) (by decide +kernel) alV kt saY9 gaY9 ggY9 noY9 topS (PySem.W.mg_none_of X G z_super) hop
  have FC9 : FunC l.prog K "__init__" "InvalidText.__init__" s_x9 gY9 CY9 _ := ⟨_, _, _, _, _, _, _, _, _, _, _, _, _, _, _, _, _, _, _, rfl, lY9, coY9, lcY9, fvY9, ffY9, lccY9⟩
  have Z10 : ExiB l.prog K mg CY10 "value" "ValueError" "ValueError.__new__" "ValueError" "ValueError.__init__" := mk_exiB ecY10 (osam_V _) tail_V init_V PySem.W.kxs_ValueError (by decide +kernel) (by decide +kernel) alV kt saY10 gaY10 ggY10 noY10 topS (PySem.W.mg_none_of X G z_super) hop
  have FC10 : FunC l.prog K "__init__" "InvalidStates.__init__" s_x10 gY10 CY10 _ := ⟨_, _, _, _, _, _, _, _, _, _, _, _, _, _, _, _, _, _, _, rfl, lY10, coY10, lcY10, fvY10, ffY10, lccY10⟩
  have Z11 : ExiB l.prog K mg CY11 "spot" "ValueError" "ValueError.__new__" "ValueError" "ValueError.__init__" := mk_exiB ecY11 (osam_V _) tail_V init_V PySem.W.kxs_ValueError (by decide +kernel) (by decide +kernel) alV kt saY11 gaY11 ggY11 noY11 topS (PySem.W.mg_none_of X G z_super) hop
  have FC11 : FunC l.prog K "__init__" "NotClosed.__init__" s_x11 gY11 CY11 _ := ⟨_, _, _, _, _, _, _, _, _, _, _, _, _, _, _, _, _, _, _, rfl, lY11, coY11, lcY11, fvY11, ffY11, lccY11⟩
  have Z12 : ExiB l.prog K mg CY12 "spot" "ValueError" "ValueError.__new__" "ValueError" "ValueError.__init__" := mk_exiB ecY12 (osam_V _) tail_V init_V PySem.W.kxs_ValueError (by decide +kernel) (by decide +kernel) alV kt saY12 gaY12 ggY12 noY12 topS (PySem.W.mg_none_of X G z_super) hop
  have FC12 : FunC l.prog K "__init__" "Faulty.__init__" s_x12 gY12 CY12 _ := ⟨_, _, _, _, _, _, _, _, _, _, _, _, _, _, _, _, _, _, _, rfl, lY12, coY12, lcY12, fvY12, ffY12, lccY12⟩
  have Z13 : ExiB l.prog K mg CY13 "value" "LookupError" "LookupError.__new__" "KeyError" "KeyError.__init__" := mk_exiB ecY13 (osam_K _) tail_K init_Key kxs_Key (by decide +kernel) (by decide +kernel) alK kt saY13 gaY13 ggY13 noY13 topS (PySem.W.mg_none_of X G z_super) hop
  have FC13 : FunC l.prog K "__init__" "UnknownFunction.__init__" s_x13 gY13 CY13 _ := ⟨_, _, _, _, _, _, _, _, _, _, _, _, _, _, _, _, _, _, _, rfl, lY13, coY13, lcY13, fvY13, ffY13, lccY13⟩
  have Z14 : ExiB l.prog K mg CY14 "value" "LookupError" "LookupError.__new__" "KeyError" "KeyError.__init__" := mk_exiB ecY14 (osam_K _) tail_K init_Key kxs_Key (by decide +kernel) (by decide +kernel) alK kt saY14 gaY14 ggY14 noY14 topS (PySem.W.mg_none_of X G z_super) hop
  have FC14 : FunC l.prog K "__init__" "UnknownSpot.__init__" s_x14 gY14 CY14 _ := ⟨_, _, _, _, _, _, _, _, _, _, _, _, _, _, _, _, _, _, _, rfl, lY14, coY14, lcY14, fvY14, ffY14, lccY14⟩
  have Z15 : ExiB l.prog K mg CY15 "value" "LookupError" "LookupError.__new__" "KeyError" "KeyError.__init__" := mk_exiB ecY15 (osam_K _) tail_K init_Key kxs_Key (by decide +kernel) (by decide +kernel) alK kt saY15 gaY15 ggY15 noY15 topS (PySem.W.mg_none_of X G z_super) hop
  have FC15 : FunC l.prog K "__init__" "UnknownName.__init__" s_x15 gY15 CY15 _ := ⟨_, _, _, _, _, _, _, _, _, _, _, _, _, _, _, _, _, _, _, rfl, lY15, coY15, lcY15, fvY15, ffY15, lccY15⟩
  have Z16 : ExiB l.prog K mg CY16 "value" "IndexError" "IndexError.__new__" "IndexError" "IndexError.__init__" := mk_exiB ecY16 (osam_I _) tail_I init_I PySem.W.kxs_IndexError (by decide +kernel) (by decide +kernel) alI kt saY16 gaY16 ggY16 noY16 topS (PySem.W.mg_none_of X G z_super) hop
  have FC16 : FunC l.prog K "__init__" "OutOfRange.__init__" s_x16 gY16 CY16 _ := ⟨_, _, _, _, _, _, _, _, _, _, _, _, _, _, _, _, _, _, _, rfl, lY16, coY16, lcY16, fvY16, ffY16, lccY16⟩
  have Z17 : ExiB l.prog K mg CY17 "limit" "OverflowError" "OverflowError.__new__" "OverflowError" "OverflowError.__init__" := mk_exiB ecY17 (osam_O _) tail_O init_O PySem.W.kxs_OverflowError (by decide +kernel) (by decide +kernel) alO kt saY17 gaY17 ggY17 noY17 topS (PySem.W.mg_none_of X G z_super) hop
  have FC17 : FunC l.prog K "__init__" "TooMany.__init__" s_x17 gY17 CY17 _ := ⟨_, _, _, _, _, _, _, _, _, _, _, _, _, _, _, _, _, _, _, rfl, lY17, coY17, lcY17, fvY17, ffY17, lccY17⟩
  refine ⟨PySem.W.fnOf "law" "law" (defArgs s_law) (defBody s_law) (defScope s_law) .none kV9 dc9 pm9 an9 cd9 ct9, fun s v => .of_eq rfl, fun base hKb hGb sb => ?_⟩
  have cCp2 := C8.Cal.mk (mg := mg) (x := "own_copy") ⟨f0, _, _, [], (ok_copy2 F0 B (PySem.W.mg_of X G a0) b0 4 : FnOk l.prog w K mg base CX0 _ _ _ _ _), PySem.W.mg_of X G a0, k0, b0, .nil⟩
  have Q0 := ok_exiB (w := w) (base := base) (st := s_x0) (hb := rfl) (hev := fun env => ⟨_, rfl⟩) (hab := fun _ => rfl) (har := rfl) (hself := rfl) (S := nscope_by (by decide +kernel)) (hks := rfl) (hoc := rfl) (hn1 := by decide) (hn2 := by decide) Z0 FC0 cCp2 mono_cpD
  have bx0 : Binds K (PySem.W.ksFn "__init__" "InvalidFunctions.__init__" (defArgs s_x0) (defBody s_x0) (defScope s_x0) .none kVY0 dcY0 pmY0 anY0 (.ref cdY0') ctY0 ccY0) ["self", "value"] [] := .all fun us hl => match us, hl with | [_, _], _ => rfl
  have E0 : Eo l.prog w K mg base 6 "InvalidFunctions" "value" CY0 (spCp2 w K 4) := ⟨⟨_, _, _, _, gY0, _, F.excBase_ValueError, Z0.T, inY0, tiY0, Q0, bx0, fun s a u _ => .of_eq rfl, PySem.W.mg_of X G aY0⟩, Z0.X, Z0.no⟩
  have Q1 := ok_exiB (w := w) (base := base) (st := s_x1) (hb := rfl) (hev := fun env => ⟨_, rfl⟩) (hab := fun _ => rfl) (har := rfl) (hself := rfl) (S := nscope_by (by decide +kernel)) (hks := rfl) (hoc := rfl) (hn1 := by decide) (hn2 := by decide) Z1 FC1 cCp2 mono_cpD
  have bx1 : Binds K (PySem.W.ksFn "__init__" "InvalidFunction.__init__" (defArgs s_x1) (defBody s_x1) (defScope s_x1) .none kVY1 dcY1 pmY1 anY1 (.ref cdY1') ctY1 ccY1) ["self", "name"] [] := .all fun us hl => match us, hl with | [_, _], _ => rfl
  have E1 : Eo l.prog w K mg base 6 "InvalidFunction" "name" CY1 (spCp2 w K 4) := ⟨⟨_, _, _, _, gY1, _, F.excBase_ValueError, Z1.T, inY1, tiY1, Q1, bx1, fun s a u _ => .of_eq rfl, PySem.W.mg_of X G aY1⟩, Z1.X, Z1.no⟩
  have Q2 := ok_exiB (w := w) (base := base) (st := s_x2) (hb := rfl) (hev := fun env => ⟨_, rfl⟩) (hab := fun _ => rfl) (har := rfl) (hself := rfl) (S := nscope_by (by decide +kernel)) (hks := rfl) (hoc := rfl) (hn1 := by decide) (hn2 := by decide) Z2 FC2 cCp2 mono_cpD
  have bx2 : Binds K (PySem.W.ksFn "__init__" "InvalidNames.__init__" (defArgs s_x2) (defBody s_x2) (defScope s_x2) .none kVY2 dcY2 pmY2 anY2 (.ref cdY2') ctY2 ccY2) ["self", "name"] [] := .all fun us hl => match us, hl with | [_, _], _ => rfl
  have E2 : Eo l.prog w K mg base 6 "InvalidNames" "name" CY2 (spCp2 w K 4) := ⟨⟨_, _, _, _, gY2, _, F.excBase_ValueError, Z2.T, inY2, tiY2, Q2, bx2, fun s a u _ => .of_eq rfl, PySem.W.mg_of X G aY2⟩, Z2.X, Z2.no⟩
  have Q3 := ok_exiB (w := w) (base := base) (st := s_x3) (hb := rfl) (hev := fun env => ⟨_, rfl⟩) (hab := fun _ => rfl) (har := rfl) (hself := rfl) (S := nscope_by (by decide +kernel)) (hks := rfl) (hoc := rfl) (hn1 := by decide) (hn2 := by decide) Z3 FC3 cCp2 mono_cpD
  have bx3 : Binds K (PySem.W.ksFn "__init__" "InvalidStatement.__init__" (defArgs s_x3) (defBody s_x3) (defScope s_x3) .none kVY3 dcY3 pmY3 anY3 (.ref cdY3') ctY3 ccY3) ["self", "spot"] [] := .all fun us hl => match us, hl with | [_, _], _ => rfl
  have E3 : Eo l.prog w K mg base 6 "InvalidStatement" "spot" CY3 (spCp2 w K 4) := ⟨⟨_, _, _, _, gY3, _, F.excBase_ValueError, Z3.T, inY3, tiY3, Q3, bx3, fun s a u _ => .of_eq rfl, PySem.W.mg_of X G aY3⟩, Z3.X, Z3.no⟩
  have Q4 := ok_exiB (w := w) (base := base) (st := s_x4) (hb := rfl) (hev := fun env => ⟨_, rfl⟩) (hab := fun _ => rfl) (har := rfl) (hself := rfl) (S := nscope_by (by decide +kernel)) (hks := rfl) (hoc := rfl) (hn1 := by decide) (hn2 := by decide) Z4 FC4 cCp2 mono_cpD
  have bx4 : Binds K (PySem.W.ksFn "__init__" "InvalidChoice.__init__" (defArgs s_x4) (defBody s_x4) (defScope s_x4) .none kVY4 dcY4 pmY4 anY4 (.ref cdY4') ctY4 ccY4) ["self", "index"] [] := .all fun us hl => match us, hl with | [_, _], _ => rfl
  have E4 : Eo l.prog w K mg base 6 "InvalidChoice" "index" CY4 (spCp2 w K 4) := ⟨⟨_, _, _, _, gY4, _, F.excBase_ValueError, Z4.T, inY4, tiY4, Q4, bx4, fun s a u _ => .of_eq rfl, PySem.W.mg_of X G aY4⟩, Z4.X, Z4.no⟩
  have Q5 := ok_exiB (w := w) (base := base) (st := s_x5) (hb := rfl) (hev := fun env => ⟨_, rfl⟩) (hab := fun _ => rfl) (har := rfl) (hself := rfl) (S := nscope_by (by decide +kernel)) (hks := rfl) (hoc := rfl) (hn1 := by decide) (hn2 := by decide) Z5 FC5 cCp2 mono_cpD
  have bx5 : Binds K (PySem.W.ksFn "__init__" "InvalidPlaces.__init__" (defArgs s_x5) (defBody s_x5) (defScope s_x5) .none kVY5 dcY5 pmY5 anY5 (.ref cdY5') ctY5 ccY5) ["self", "value"] [] := .all fun us hl => match us, hl with | [_, _], _ => rfl
  have E5 : Eo l.prog w K mg base 6 "InvalidPlaces" "value" CY5 (spCp2 w K 4) := ⟨⟨_, _, _, _, gY5, _, F.excBase_ValueError, Z5.T, inY5, tiY5, Q5, bx5, fun s a u _ => .of_eq rfl, PySem.W.mg_of X G aY5⟩, Z5.X, Z5.no⟩
  have Q6 := ok_exiB (w := w) (base := base) (st := s_x6) (hb := rfl) (hev := fun env => ⟨_, rfl⟩) (hab := fun _ => rfl) (har := rfl) (hself := rfl) (S := nscope_by (by decide +kernel)) (hks := rfl) (hoc := rfl) (hn1 := by decide) (hn2 := by decide) Z6 FC6 cCp2 mono_cpD
  have bx6 : Binds K (PySem.W.ksFn "__init__" "InvalidPaper.__init__" (defArgs s_x6) (defBody s_x6) (defScope s_x6) .none kVY6 dcY6 pmY6 anY6 (.ref cdY6') ctY6 ccY6) ["self", "value"] [] := .all fun us hl => match us, hl with | [_, _], _ => rfl
  have E6 : Eo l.prog w K mg base 6 "InvalidPaper" "value" CY6 (spCp2 w K 4) := ⟨⟨_, _, _, _, gY6, _, F.excBase_ValueError, Z6.T, inY6, tiY6, Q6, bx6, fun s a u _ => .of_eq rfl, PySem.W.mg_of X G aY6⟩, Z6.X, Z6.no⟩
  have Q7 := ok_exiB (w := w) (base := base) (st := s_x7) (hb := rfl) (hev := fun env => ⟨_, rfl⟩) (hab := fun _ => rfl) (har := rfl) (hself := rfl) (S := nscope_by (by decide +kernel)) (hks := rfl) (hoc := rfl) (hn1 := by decide) (hn2 := by decide) Z7 FC7 cCp2 mono_cpD
  have bx7 : Binds K (PySem.W.ksFn "__init__" "InvalidPrices.__init__" (defArgs s_x7) (defBody s_x7) (defScope s_x7) .none kVY7 dcY7 pmY7 anY7 (.ref cdY7') ctY7 ccY7) ["self", "value"] [] := .all fun us hl => match us, hl with | [_, _], _ => rfl
  have E7 : Eo l.prog w K mg base 6 "InvalidPrices" "value" CY7 (spCp2 w K 4) := ⟨⟨_, _, _, _, gY7, _, F.excBase_ValueError, Z7.T, inY7, tiY7, Q7, bx7, fun s a u _ => .of_eq rfl, PySem.W.mg_of X G aY7⟩, Z7.X, Z7.no⟩
  have Q8 := ok_exiB (w := w) (base := base) (st := s_x8) (hb := rfl) (hev := fun env => ⟨_, rfl⟩) (hab := fun _ => rfl) (har := rfl) (hself := rfl) (S := nscope_by (by decide +kernel)) (hks := rfl) (hoc := rfl) (hn1 := by decide) (hn2 := by decide) Z8 FC8 cCp2 mono_cpD
  have bx8 : Binds K (PySem.W.ksFn "__init__" "InvalidProfile.__init__" (defArgs s_x8) (defBody s_x8) (defScope s_x8) .none kVY8 dcY8 pmY8 anY8 (.ref cdY8') ctY8 ccY8) ["self", "value"] [] := .all fun us hl => match us, hl with | [_, _], _ => rfl
  have E8 : Eo l.prog w K mg base 6 "InvalidProfile" "value" CY8 (spCp2 w K 4) := ⟨⟨_, _, _, _, gY8, _, F.excBase_ValueError, Z8.T, inY8, tiY8, Q8, bx8, fun s a u _ => .of_eq rfl, PySem.W.mg_of X G aY8⟩, Z8.X, Z8.no⟩
  have Q9 := ok_exiB (w := w) (base := base) (st := s_x9) (hb := rfl) (hev := fun env => ⟨_, rfl⟩) (hab := fun _ => rfl) (har := rfl) (hself := rfl) (S := nscope_by (by decide +kernel)) (hks := rfl) (hoc := rfl) (hn1 := by decide) (hn2 := by decide) Z9 FC9 cCp2 mono_cpD
  have bx9 : Binds K (PySem.W.ksFn "__init__" "InvalidText.__init__" (defArgs s_x9) (defBody s_x9) (defScope s_x9) .none kVY9 dcY9 pmY9 anY9 (.ref cdY9') ctY9 ccY9) ["self", "line"] [] := .all fun us hl => match us, hl with | [_, _], _ => rfl
  have E9 : Eo l.prog w K mg base 6 "InvalidText" "line" CY9 (spCp2 w K 4) := ⟨⟨_, _, _, _, gY9, _, F.excBase_ValueError, Z9.T, inY9, tiY9, Q9, bx9, fun s a u _ => .of_eq rfl, PySem.W.mg_of X G aY9⟩, Z9.X, Z9.no⟩
  have Q10 := ok_exiB (w := w) (base := base) (st := s_x10) (hb := rfl) (hev := fun env => ⟨_, rfl⟩) (hab := fun _ => rfl) (har := rfl) (hself := rfl) (S := nscope_by (by decide +kernel)) (hks := rfl) (hoc := rfl) (hn1 := by decide) (hn2 := by decide) Z10 FC10 cCp2 mono_cpD
  have bx10 : Binds K (PySem.W.ksFn "__init__" "InvalidStates.__init__" (defArgs s_x10) (defBody s_x10) (defScope s_x10) .none kVY10 dcY10 pmY10 anY10 (.ref cdY10') ctY10 ccY10) ["self", "value"] [] := .all fun us hl => match us, hl with | [_, _], _ => rfl
  have E10 : Eo l.prog w K mg base 6 "InvalidStates" "value" CY10 (spCp2 w K 4) := ⟨⟨_, _, _, _, gY10, _, F.excBase_ValueError, Z10.T, inY10, tiY10, Q10, bx10, fun s a u _ => .of_eq rfl, PySem.W.mg_of X G aY10⟩, Z10.X, Z10.no⟩
  have Q11 := ok_exiB (w := w) (base := base) (st := s_x11) (hb := rfl) (hev := fun env => ⟨_, rfl⟩) (hab := fun _ => rfl) (har := rfl) (hself := rfl) (S := nscope_by (by decide +kernel)) (hks := rfl) (hoc := rfl) (hn1 := by decide) (hn2 := by decide) Z11 FC11 cCp2 mono_cpD
  have bx11 : Binds K (PySem.W.ksFn "__init__" "NotClosed.__init__" (defArgs s_x11) (defBody s_x11) (defScope s_x11) .none kVY11 dcY11 pmY11 anY11 (.ref cdY11') ctY11 ccY11) ["self", "spot"] [] := .all fun us hl => match us, hl with | [_, _], _ => rfl
  have E11 : Eo l.prog w K mg base 6 "NotClosed" "spot" CY11 (spCp2 w K 4) := ⟨⟨_, _, _, _, gY11, _, F.excBase_ValueError, Z11.T, inY11, tiY11, Q11, bx11, fun s a u _ => .of_eq rfl, PySem.W.mg_of X G aY11⟩, Z11.X, Z11.no⟩
  have Q12 := ok_exiB (w := w) (base := base) (st := s_x12) (hb := rfl) (hev := fun env => ⟨_, rfl⟩) (hab := fun _ => rfl) (har := rfl) (hself := rfl) (S := nscope_by (by decide +kernel)) (hks := rfl) (hoc := rfl) (hn1 := by decide) (hn2 := by decide) Z12 FC12 cCp2 mono_cpD
  have bx12 : Binds K (PySem.W.ksFn "__init__" "Faulty.__init__" (defArgs s_x12) (defBody s_x12) (defScope s_x12) .none kVY12 dcY12 pmY12 anY12 (.ref cdY12') ctY12 ccY12) ["self", "spot"] [] := .all fun us hl => match us, hl with | [_, _], _ => rfl
  have E12 : Eo l.prog w K mg base 6 "Faulty" "spot" CY12 (spCp2 w K 4) := ⟨⟨_, _, _, _, gY12, _, F.excBase_ValueError, Z12.T, inY12, tiY12, Q12, bx12, fun s a u _ => .of_eq rfl, PySem.W.mg_of X G aY12⟩, Z12.X, Z12.no⟩
  have Q13 := ok_exiB (w := w) (base := base) (st := s_x13) (hb := rfl) (hev := fun env => ⟨_, rfl⟩) (hab := fun _ => rfl) (har := rfl) (hself := rfl) (S := nscope_by (by decide +kernel)) (hks := rfl) (hoc := rfl) (hn1 := by decide) (hn2 := by decide) Z13 FC13 cCp2 mono_cpD
  have bx13 : Binds K (PySem.W.ksFn "__init__" "UnknownFunction.__init__" (defArgs s_x13) (defBody s_x13) (defScope s_x13) .none kVY13 dcY13 pmY13 anY13 (.ref cdY13') ctY13 ccY13) ["self", "value"] [] := .all fun us hl => match us, hl with | [_, _], _ => rfl
  have E13 : Eo l.prog w K mg base 6 "UnknownFunction" "value" CY13 (spCp2 w K 4) := ⟨⟨_, _, _, _, gY13, _, F.excBase_LookupError, Z13.T, inY13, tiY13, Q13, bx13, fun s a u _ => .of_eq rfl, PySem.W.mg_of X G aY13⟩, Z13.X, Z13.no⟩
  have Q14 := ok_exiB (w := w) (base := base) (st := s_x14) (hb := rfl) (hev := fun env => ⟨_, rfl⟩) (hab := fun _ => rfl) (har := rfl) (hself := rfl) (S := nscope_by (by decide +kernel)) (hks := rfl) (hoc := rfl) (hn1 := by decide) (hn2 := by decide) Z14 FC14 cCp2 mono_cpD
  have bx14 : Binds K (PySem.W.ksFn "__init__" "UnknownSpot.__init__" (defArgs s_x14) (defBody s_x14) (defScope s_x14) .none kVY14 dcY14 pmY14 anY14 (.ref cdY14') ctY14 ccY14) ["self", "value"] [] := .all fun us hl => match us, hl with | [_, _], _ => rfl
  have E14 : Eo l.prog w K mg base 6 "UnknownSpot" "value" CY14 (spCp2 w K 4) := ⟨⟨_, _, _, _, gY14, _, F.excBase_LookupError, Z14.T, inY14, tiY14, Q14, bx14, fun s a u _ => .of_eq rfl, PySem.W.mg_of X G aY14⟩, Z14.X, Z14.no⟩
  have Q15 := ok_exiB (w := w) (base := base) (st := s_x15) (hb := rfl) (hev := fun env => ⟨_, rfl⟩) (hab := fun _ => rfl) (har := rfl) (hself := rfl) (S := nscope_by (by decide +kernel)) (hks := rfl) (hoc := rfl) (hn1 := by decide) (hn2 := by decide) Z15 FC15 cCp2 mono_cpD
  have bx15 : Binds K (PySem.W.ksFn "__init__" "UnknownName.__init__" (defArgs s_x15) (defBody s_x15) (defScope s_x15) .none kVY15 dcY15 pmY15 anY15 (.ref cdY15') ctY15 ccY15) ["self", "value"] [] := .all fun us hl => match us, hl with | [_, _], _ => rfl
  have E15 : Eo l.prog w K mg base 6 "UnknownName" "value" CY15 (spCp2 w K 4) := ⟨⟨_, _, _, _, gY15, _, F.excBase_LookupError, Z15.T, inY15, tiY15, Q15, bx15, fun s a u _ => .of_eq rfl, PySem.W.mg_of X G aY15⟩, Z15.X, Z15.no⟩
  have Q16 := ok_exiB (w := w) (base := base) (st := s_x16) (hb := rfl) (hev := fun env => ⟨_, rfl⟩) (hab := fun _ => rfl) (har := rfl) (hself := rfl) (S := nscope_by (by decide +kernel)) (hks := rfl) (hoc := rfl) (hn1 := by decide) (hn2 := by decide) Z16 FC16 cCp2 mono_cpD
  have bx16 : Binds K (PySem.W.ksFn "__init__" "OutOfRange.__init__" (defArgs s_x16) (defBody s_x16) (defScope s_x16) .none kVY16 dcY16 pmY16 anY16 (.ref cdY16') ctY16 ccY16) ["self", "value"] [] := .all fun us hl => match us, hl with | [_, _], _ => rfl
  have E16 : Eo l.prog w K mg base 6 "OutOfRange" "value" CY16 (spCp2 w K 4) := ⟨⟨_, _, _, _, gY16, _, F.excBase_IndexError, Z16.T, inY16, tiY16, Q16, bx16, fun s a u _ => .of_eq rfl, PySem.W.mg_of X G aY16⟩, Z16.X, Z16.no⟩
  have Q17 := ok_exiB (w := w) (base := base) (st := s_x17) (hb := rfl) (hev := fun env => ⟨_, rfl⟩) (hab := fun _ => rfl) (har := rfl) (hself := rfl) (S := nscope_by (by decide +kernel)) (hks := rfl) (hoc := rfl) (hn1 := by decide) (hn2 := by decide) Z17 FC17 cCp2 mono_cpD
  have bx17 : Binds K (PySem.W.ksFn "__init__" "TooMany.__init__" (defArgs s_x17) (defBody s_x17) (defScope s_x17) .none kVY17 dcY17 pmY17 anY17 (.ref cdY17') ctY17 ccY17) ["self", "limit"] [] := .all fun us hl => match us, hl with | [_, _], _ => rfl
  have E17 : Eo l.prog w K mg base 6 "TooMany" "limit" CY17 (spCp2 w K 4) := ⟨⟨_, _, _, _, gY17, _, F.excBase_OverflowError, Z17.T, inY17, tiY17, Q17, bx17, fun s a u _ => .of_eq rfl, PySem.W.mg_of X G aY17⟩, Z17.X, Z17.no⟩
  have EX : Ex l.prog w K mg base 6 c (spCp2 w K 4) := by rw [hc]; exact ⟨E0, E1, E2, E3, E4, E5, E6, E7, E8, E9, E10, E11, E12, E13, E14, E15, E16, E17⟩
  have cDraw := C8.Cal.mk (mg := mg) (x := "_law_draw") ⟨f2, _, _, [], (ok_draw F2 B : FnOk l.prog w K mg base CX0 _ _ _ _ _), PySem.W.mg_of X G a2, k2, b2, .nil⟩
  have cPen := C8.Cal.mk (mg := mg) (x := "_law_pen") ⟨f1, _, _, [], (ok_pen F1 B : FnOk l.prog w K mg base CX0 _ _ _ _ _), PySem.W.mg_of X G a1, k1, b1, .nil⟩
  have cPick := C8.Cal.mk (mg := mg) (x := "_law_pick") ⟨f3, _, _, [], (ok_pick F3 B cDraw : FnOk l.prog w K mg base CX0 _ _ _ _ _), PySem.W.mg_of X G a3, k3, b3, .nil⟩
  have cAny := C8.Cal.mk (mg := mg) (x := "_law_any") ⟨f4, _, _, [], (ok_any F4 B cDraw cPick (PySem.W.mg_of X G a4) b4 3 : FnOk l.prog w K mg base CX0 _ _ _ _ _), PySem.W.mg_of X G a4, k4, b4, .nil⟩
  have cMade := C8.Cal.mk (mg := mg) (x := "_law_made") ⟨f5, _, _, [], (ok_made EX F5 B : FnOk l.prog w K mg base CX0 _ _ _ _ _), PySem.W.mg_of X G a5, k5, b5, .nil⟩
  have cKinds := C8.Cal.mk (mg := mg) (x := "_law_kinds") ⟨f6, _, _, [], (ok_kinds F6 B BE : FnOk l.prog w K mg base CX0 _ _ _ _ _), PySem.W.mg_of X G a6, k6, b6, .nil⟩
  have cOwn := C8.Cal.mk (mg := mg) (x := "_law_own") ⟨f7, _, _, [], (ok_own GX TC F7 B : FnOk l.prog w K mg base CX0 _ _ _ _ _), PySem.W.mg_of X G a7, k7, b7, .nil⟩
  have cSpoil := C8.Cal.mk (mg := mg) (x := "_law_spoil") ⟨f8, _, _, [], (ok_spoil F8 B (PySem.W.mg_of X G a8) b8 4 : FnOk l.prog w K mg base CX0 _ _ _ _ _), PySem.W.mg_of X G a8, k8, b8, .nil⟩
  have mT : mg "InTrial" = some (.ref c.InTrial) := by rw [hc]; exact PySem.W.mg_of X G aY18
  have qT' : PySem.W.excIn K c.InTrial bmR "RuntimeError.__new__" = true := by rw [hc]; exact qT
  have kT : PySem.W.keepIn K (.ref c.InTrial) = true := by rw [hc]; exact ec_keep ecY18 kt
  exact ok_law12 B sb TC GM qT' mT kT cPen cAny cMade cSpoil cKinds cOwn F9
theorem walk {l : PySem.W.OpenLaw} {q : Program} {loose : List Str} {XP : (Str → Option Value) → Heap → Prop} {YP : World → Heap → Prop} {d : DefRec} {K : Params → PySem.W.Frag} (hn : l.most = some 63) (hdf : d.params.defaults = []) (hq : importsNone q = true)
    (hY : ∀ (w : World) (h : Heap), YP w h → (K w.params).In h)
    (F : ∀ (w : World) (mg : Str → Option Value) (fa : Addr) (h : Heap), (K w.params).In h → h.Ns mainGlobals mg → mg d.name = some (.ref fa) →
      ∃ fd : FuncData, (∀ (s : Shared) (u : Value), BindsTo s fd ⟨[u], []⟩ [("_law_script", u)]) ∧ ∀ base : Heap, (K w.params).In base → base.Ns mainGlobals mg → SysB base → FnG l.prog w (K w.params) mg base 9 fa fd ["_law_script"] (spLaw12 (K w.params))) :
    PySem.W.WalkO q loose XP YP l.row.toRowW d [] (fun f vs => PySem.call f vs) :=
  walk_ofS (n := 63) (k := 9) (x := "_law_script") (sp := spLaw12) hn (by decide) hdf ⟨rfl, by decide, by decide⟩ hq hY F (fun K H a ns hl _ _ hS => ⟨a, ns, rfl, hS, hl, fun _ => rfl⟩)
end Pf
open PySem PySem.W PyProof.Rows
set_option maxRecDepth 100000 in
set_option maxHeartbeats 0 in
theorem PySem.Challenge.cw_surelyset_k12_errors_and_limits_holds : PySem.Challenge.rw_surelyset_k12_errors_and_limits.Holds := by
  w_on; o_law; k_head; (case hw => w_witness2)
  k_fill
  refine Pf.walk (l := PySem.Challenge.rw_surelyset_k12_errors_and_limits) rfl rfl (by decide +kernel) (fun w h Y => PySem.W.kIn_of Y) ?F
  case F =>
    intro w mg fa h KX G hmg
    refine' Pf.all_mk KX G hmg ?a0 ?l0 ?c0 ?k0 ?a1 ?l1 ?c1 ?k1 ?a2 ?l2 ?c2 ?k2 ?a3 ?l3 ?c3 ?k3 ?a4 ?l4 ?c4 ?k4 ?a5 ?l5 ?c5 ?k5 ?a6 ?l6 ?c6 ?k6 ?a7 ?l7 ?c7 ?k7 ?a8 ?l8 ?c8 ?k8 ?a9 ?l9 ?c9 ?k9 ?z_int ?z_len ?z_list ?z_tuple ?z_dict ?z_set ?z_all ?z_min ?z_range ?z_sorted ?z_isinstance ?z_repr ?z_str ?z_super ?z_ValueError ?z_KeyError ?z_IndexError ?z_OverflowError ?z_RuntimeError ?hop ?hgt ?htk ?kt ?g_MAX_FUNCTIONS ?g_MAX_NAMES ?g_MAX_STATEMENTS ?g_MAX_DEPTH ?g_MAX_SIZE ?g_MOST_STEPS ?aY0 ?ecY0 ?gaY0 ?ggY0 ?haY0 ?saY0 ?noY0 ?inY0 ?tiY0 ?lY0 ?coY0 ?lcY0 ?lccY0 ?aY1 ?ecY1 ?gaY1 ?ggY1 ?haY1 ?saY1 ?noY1 ?inY1 ?tiY1 ?lY1 ?coY1 ?lcY1 ?lccY1 ?aY2 ?ecY2 ?gaY2 ?ggY2 ?haY2 ?saY2 ?noY2 ?inY2 ?tiY2 ?lY2 ?coY2 ?lcY2 ?lccY2 ?aY3 ?ecY3 ?gaY3 ?ggY3 ?haY3 ?saY3 ?noY3 ?inY3 ?tiY3 ?lY3 ?coY3 ?lcY3 ?lccY3 ?aY4 ?ecY4 ?gaY4 ?ggY4 ?haY4 ?saY4 ?noY4 ?inY4 ?tiY4 ?lY4 ?coY4 ?lcY4 ?lccY4 ?aY5 ?ecY5 ?gaY5 ?ggY5 ?haY5 ?saY5 ?noY5 ?inY5 ?tiY5 ?lY5 ?coY5 ?lcY5 ?lccY5 ?aY6 ?ecY6 ?gaY6 ?ggY6 ?haY6 ?saY6 ?noY6 ?inY6 ?tiY6 ?lY6 ?coY6 ?lcY6 ?lccY6 ?aY7 ?ecY7 ?gaY7 ?ggY7 ?haY7 ?saY7 ?noY7 ?inY7 ?tiY7 ?lY7 ?coY7 ?lcY7 ?lccY7 ?aY8 ?ecY8 ?gaY8 ?ggY8 ?haY8 ?saY8 ?noY8 ?inY8 ?tiY8 ?lY8 ?coY8 ?lcY8 ?lccY8 ?aY9 ?ecY9 ?gaY9 ?ggY9 ?haY9 ?saY9 ?noY9 ?inY9 ?tiY9 ?lY9 ?coY9 ?lcY9 ?lccY9 ?aY10 ?ecY10 ?gaY10 ?ggY10 ?haY10 ?saY10 ?noY10 ?inY10 ?tiY10 ?lY10 ?coY10 ?lcY10 ?lccY10 ?aY11 ?ecY11 ?gaY11 ?ggY11 ?haY11 ?saY11 ?noY11 ?inY11 ?tiY11 ?lY11 ?coY11 ?lcY11 ?lccY11 ?aY12 ?ecY12 ?gaY12 ?ggY12 ?haY12 ?saY12 ?noY12 ?inY12 ?tiY12 ?lY12 ?coY12 ?lcY12 ?lccY12 ?aY13 ?ecY13 ?gaY13 ?ggY13 ?haY13 ?saY13 ?noY13 ?inY13 ?tiY13 ?lY13 ?coY13 ?lcY13 ?lccY13 ?aY14 ?ecY14 ?gaY14 ?ggY14 ?haY14 ?saY14 ?noY14 ?inY14 ?tiY14 ?lY14 ?coY14 ?lcY14 ?lccY14 ?aY15 ?ecY15 ?gaY15 ?ggY15 ?haY15 ?saY15 ?noY15 ?inY15 ?tiY15 ?lY15 ?coY15 ?lcY15 ?lccY15 ?aY16 ?ecY16 ?gaY16 ?ggY16 ?haY16 ?saY16 ?noY16 ?inY16 ?tiY16 ?lY16 ?coY16 ?lcY16 ?lccY16 ?aY17 ?ecY17 ?gaY17 ?ggY17 ?haY17 ?saY17 ?noY17 ?inY17 ?tiY17 ?lY17 ?coY17 ?lcY17 ?lccY17 ?aY18 ?ecY18 ?gaY18 ?ggY18 ?haY18 ?w_MAX_FUNCTIONS ?w_MAX_NAMES ?w_MAX_STATEMENTS ?w_MAX_DEPTH ?w_MAX_SIZE ?w_MOST_STEPS ?fvY0 ?ffY0 ?fvY1 ?ffY1 ?fvY2 ?ffY2 ?fvY3 ?ffY3 ?fvY4 ?ffY4 ?fvY5 ?ffY5 ?fvY6 ?ffY6 ?fvY7 ?ffY7 ?fvY8 ?ffY8 ?fvY9 ?ffY9 ?fvY10 ?ffY10 ?fvY11 ?ffY11 ?fvY12 ?ffY12 ?fvY13 ?ffY13 ?fvY14 ?ffY14 ?fvY15 ?ffY15 ?fvY16 ?ffY16 ?fvY17 ?ffY17 ?qT ?alV ?alK ?alI ?alO ?topS ?nd
    (case a0 => k_is)
    (case l0 => k_is)
    (case c0 => k_is)
    (case k0 => k_is)
    (case a1 => k_is)
    (case l1 => k_is)
    (case c1 => k_is)
    (case k1 => k_is)
    (case a2 => k_is)
    (case l2 => k_is)
    (case c2 => k_is)
    (case k2 => k_is)
    (case a3 => k_is)
    (case l3 => k_is)
    (case c3 => k_is)
    (case k3 => k_is)
    (case a4 => k_is)
    (case l4 => k_is)
    (case c4 => k_is)
    (case k4 => k_is)
    (case a5 => k_is)
    (case l5 => k_is)
    (case c5 => k_is)
    (case k5 => k_is)
    (case a6 => k_is)
    (case l6 => k_is)
    (case c6 => k_is)
    (case k6 => k_is)
    (case a7 => k_is)
    (case l7 => k_is)
    (case c7 => k_is)
    (case k7 => k_is)
    (case a8 => k_is)
    (case l8 => k_is)
    (case c8 => k_is)
    (case k8 => k_is)
    (case a9 => k_is)
    (case l9 => k_is)
    (case c9 => k_is)
    (case k9 => k_is)
    (case z_int => k_is)
    (case z_len => k_is)
    (case z_list => k_is)
    (case z_tuple => k_is)
    (case z_dict => k_is)
    (case z_set => k_is)
    (case z_all => k_is)
    (case z_min => k_is)
    (case z_range => k_is)
    (case z_sorted => k_is)
    (case z_isinstance => k_is)
    (case z_repr => k_is)
    (case z_str => k_is)
    (case z_super => k_is)
    (case z_ValueError => k_is)
    (case z_KeyError => k_is)
    (case z_IndexError => k_is)
    (case z_OverflowError => k_is)
    (case z_RuntimeError => k_is)
    (case hop => k_is)
    (case hgt => k_is)
    (case htk => k_is)
    (case kt => k_is)
    (case g_MAX_FUNCTIONS => k_is)
    (case g_MAX_NAMES => k_is)
    (case g_MAX_STATEMENTS => k_is)
    (case g_MAX_DEPTH => k_is)
    (case g_MAX_SIZE => k_is)
    (case g_MOST_STEPS => k_is)
    (case aY0 => k_is)
    (case ecY0 => k_is)
    (case gaY0 => k_is)
    (case ggY0 => k_is)
    (case haY0 => k_is)
    (case saY0 => k_is)
    (case noY0 => k_is)
    (case inY0 => k_is)
    (case tiY0 => k_is)
    (case lY0 => k_is)
    (case coY0 => k_is)
    (case lcY0 => k_is)
    (case lccY0 => k_is)
    (case aY1 => k_is)
    (case ecY1 => k_is)
    (case gaY1 => k_is)
    (case ggY1 => k_is)
    (case haY1 => k_is)
    (case saY1 => k_is)
    (case noY1 => k_is)
    (case inY1 => k_is)
    (case tiY1 => k_is)
    (case lY1 => k_is)
    (case coY1 => k_is)
    (case lcY1 => k_is)
    (case lccY1 => k_is)
    (case aY2 => k_is)
    (case ecY2 => k_is)
    (case gaY2 => k_is)
    (case ggY2 => k_is)
    (case haY2 => k_is)
    (case saY2 => k_is)
    (case noY2 => k_is)
    (case inY2 => k_is)
    (case tiY2 => k_is)
    (case lY2 => k_is)
    (case coY2 => k_is)
    (case lcY2 => k_is)
    (case lccY2 => k_is)
    (case aY3 => k_is)
    (case ecY3 => k_is)
    (case gaY3 => k_is)
    (case ggY3 => k_is)
    (case haY3 => k_is)
    (case saY3 => k_is)
    (case noY3 => k_is)
    (case inY3 => k_is)
    (case tiY3 => k_is)
    (case lY3 => k_is)
    (case coY3 => k_is)
    (case lcY3 => k_is)
    (case lccY3 => k_is)
    (case aY4 => k_is)
    (case ecY4 => k_is)
    (case gaY4 => k_is)
    (case ggY4 => k_is)
    (case haY4 => k_is)
    (case saY4 => k_is)
    (case noY4 => k_is)
    (case inY4 => k_is)
    (case tiY4 => k_is)
    (case lY4 => k_is)
    (case coY4 => k_is)
    (case lcY4 => k_is)
    (case lccY4 => k_is)
    (case aY5 => k_is)
    (case ecY5 => k_is)
    (case gaY5 => k_is)
    (case ggY5 => k_is)
    (case haY5 => k_is)
    (case saY5 => k_is)
    (case noY5 => k_is)
    (case inY5 => k_is)
    (case tiY5 => k_is)
    (case lY5 => k_is)
    (case coY5 => k_is)
    (case lcY5 => k_is)
    (case lccY5 => k_is)
    (case aY6 => k_is)
    (case ecY6 => k_is)
    (case gaY6 => k_is)
    (case ggY6 => k_is)
    (case haY6 => k_is)
    (case saY6 => k_is)
    (case noY6 => k_is)
    (case inY6 => k_is)
    (case tiY6 => k_is)
    (case lY6 => k_is)
    (case coY6 => k_is)
    (case lcY6 => k_is)
    (case lccY6 => k_is)
    (case aY7 => k_is)
    (case ecY7 => k_is)
    (case gaY7 => k_is)
    (case ggY7 => k_is)
    (case haY7 => k_is)
    (case saY7 => k_is)
    (case noY7 => k_is)
    (case inY7 => k_is)
    (case tiY7 => k_is)
    (case lY7 => k_is)
    (case coY7 => k_is)
    (case lcY7 => k_is)
    (case lccY7 => k_is)
    (case aY8 => k_is)
    (case ecY8 => k_is)
    (case gaY8 => k_is)
    (case ggY8 => k_is)
    (case haY8 => k_is)
    (case saY8 => k_is)
    (case noY8 => k_is)
    (case inY8 => k_is)
    (case tiY8 => k_is)
    (case lY8 => k_is)
    (case coY8 => k_is)
    (case lcY8 => k_is)
    (case lccY8 => k_is)
    (case aY9 => k_is)
    (case ecY9 => k_is)
    (case gaY9 => k_is)
    (case ggY9 => k_is)
    (case haY9 => k_is)
    (case saY9 => k_is)
    (case noY9 => k_is)
    (case inY9 => k_is)
    (case tiY9 => k_is)
    (case lY9 => k_is)
    (case coY9 => k_is)
    (case lcY9 => k_is)
    (case lccY9 => k_is)
    (case aY10 => k_is)
    (case ecY10 => k_is)
    (case gaY10 => k_is)
    (case ggY10 => k_is)
    (case haY10 => k_is)
    (case saY10 => k_is)
    (case noY10 => k_is)
    (case inY10 => k_is)
    (case tiY10 => k_is)
    (case lY10 => k_is)
    (case coY10 => k_is)
    (case lcY10 => k_is)
    (case lccY10 => k_is)
    (case aY11 => k_is)
    (case ecY11 => k_is)
    (case gaY11 => k_is)
    (case ggY11 => k_is)
    (case haY11 => k_is)
    (case saY11 => k_is)
    (case noY11 => k_is)
    (case inY11 => k_is)
    (case tiY11 => k_is)
    (case lY11 => k_is)
    (case coY11 => k_is)
    (case lcY11 => k_is)
    (case lccY11 => k_is)
    (case aY12 => k_is)
    (case ecY12 => k_is)
    (case gaY12 => k_is)
    (case ggY12 => k_is)
    (case haY12 => k_is)
    (case saY12 => k_is)
    (case noY12 => k_is)
    (case inY12 => k_is)
    (case tiY12 => k_is)
    (case lY12 => k_is)
    (case coY12 => k_is)
    (case lcY12 => k_is)
    (case lccY12 => k_is)
    (case aY13 => k_is)
    (case ecY13 => k_is)
    (case gaY13 => k_is)
    (case ggY13 => k_is)
    (case haY13 => k_is)
    (case saY13 => k_is)
    (case noY13 => k_is)
    (case inY13 => k_is)
    (case tiY13 => k_is)
    (case lY13 => k_is)
    (case coY13 => k_is)
    (case lcY13 => k_is)
    (case lccY13 => k_is)
    (case aY14 => k_is)
    (case ecY14 => k_is)
    (case gaY14 => k_is)
    (case ggY14 => k_is)
    (case haY14 => k_is)
    (case saY14 => k_is)
    (case noY14 => k_is)
    (case inY14 => k_is)
    (case tiY14 => k_is)
    (case lY14 => k_is)
    (case coY14 => k_is)
    (case lcY14 => k_is)
    (case lccY14 => k_is)
    (case aY15 => k_is)
    (case ecY15 => k_is)
    (case gaY15 => k_is)
    (case ggY15 => k_is)
    (case haY15 => k_is)
    (case saY15 => k_is)
    (case noY15 => k_is)
    (case inY15 => k_is)
    (case tiY15 => k_is)
    (case lY15 => k_is)
    (case coY15 => k_is)
    (case lcY15 => k_is)
    (case lccY15 => k_is)
    (case aY16 => k_is)
    (case ecY16 => k_is)
    (case gaY16 => k_is)
    (case ggY16 => k_is)
    (case haY16 => k_is)
    (case saY16 => k_is)
    (case noY16 => k_is)
    (case inY16 => k_is)
    (case tiY16 => k_is)
    (case lY16 => k_is)
    (case coY16 => k_is)
    (case lcY16 => k_is)
    (case lccY16 => k_is)
    (case aY17 => k_is)
    (case ecY17 => k_is)
    (case gaY17 => k_is)
    (case ggY17 => k_is)
    (case haY17 => k_is)
    (case saY17 => k_is)
    (case noY17 => k_is)
    (case inY17 => k_is)
    (case tiY17 => k_is)
    (case lY17 => k_is)
    (case coY17 => k_is)
    (case lcY17 => k_is)
    (case lccY17 => k_is)
    (case aY18 => k_is)
    (case ecY18 => k_is)
    (case gaY18 => k_is)
    (case ggY18 => k_is)
    (case haY18 => k_is)
    (case w_MAX_FUNCTIONS => decide +kernel)
    (case w_MAX_NAMES => decide +kernel)
    (case w_MAX_STATEMENTS => decide +kernel)
    (case w_MAX_DEPTH => decide +kernel)
    (case w_MAX_SIZE => decide +kernel)
    (case w_MOST_STEPS => decide +kernel)
    (case fvY0 => rfl)
    (case ffY0 => decide +kernel)
    (case fvY1 => rfl)
    (case ffY1 => decide +kernel)
    (case fvY2 => rfl)
    (case ffY2 => decide +kernel)
    (case fvY3 => rfl)
    (case ffY3 => decide +kernel)
    (case fvY4 => rfl)
    (case ffY4 => decide +kernel)
    (case fvY5 => rfl)
    (case ffY5 => decide +kernel)
    (case fvY6 => rfl)
    (case ffY6 => decide +kernel)
    (case fvY7 => rfl)
    (case ffY7 => decide +kernel)
    (case fvY8 => rfl)
    (case ffY8 => decide +kernel)
    (case fvY9 => rfl)
    (case ffY9 => decide +kernel)
    (case fvY10 => rfl)
    (case ffY10 => decide +kernel)
    (case fvY11 => rfl)
    (case ffY11 => decide +kernel)
    (case fvY12 => rfl)
    (case ffY12 => decide +kernel)
    (case fvY13 => rfl)
    (case ffY13 => decide +kernel)
    (case fvY14 => rfl)
    (case ffY14 => decide +kernel)
    (case fvY15 => rfl)
    (case ffY15 => decide +kernel)
    (case fvY16 => rfl)
    (case ffY16 => decide +kernel)
    (case fvY17 => rfl)
    (case ffY17 => decide +kernel)
    (case qT => k_exc)
    (case alV => kernel_rfl)
    (case alK => kernel_rfl)
    (case alI => kernel_rfl)
    (case alO => kernel_rfl)
    (case topS => decide +kernel)
    (case nd => decide +kernel)
#print axioms PySem.Challenge.cw_surelyset_k12_errors_and_limits_holds
