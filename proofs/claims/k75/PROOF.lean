import PyProof.Rows.All
import Wide.All
import OpenK.AllK
import Wide.FinOn
import HandS.ForMost
import HandS.Flow
import HandS.Style
import HandS.Codes
import KE.DataEq
import KE.KEqNest
import KE.KEqDict
import HandS.More
import HandS.ListItems
import HandS.Walk
import HandS.DictComp
import HandS.IsInst
import HandS.NoneIn
import HandS.ReplaceLit
import HandS.ReplaceList
import HandS.Set
import HandS.Strs
import PyProof.Rows.SetFrom
import PySem.Challenge.RW_surelyset_k75_whole_profiles_are_a_latti
import PyProof.EqKinds
import HandS.OwnEq
import PyProof.InstEq
import HandS.Words
import HandS.Ends
import HandS.EndBits
import HandS.TupSets
import KE.SortData
import HandS.Conv
import HandS.Property
import KE.KDictSum
import PyProof.ReprRoads
import HandS.TryOnly
set_option Elab.async false
set_option maxRecDepth 100000
set_option linter.all false
set_option maxHeartbeats 4000000
namespace Pf
open PySem L2
abbrev kt (s : String) : Key := Sum.inr (Str.ofString s)
abbrev penKV (c : Addr) (a l : Int) : List (Key × V) := [(kt "cells", .ref c), (kt "at", .int a), (kt "left", .int l)]
/-- the pen's dict -/
def penO (c : Addr) (a l : Int) : HO := .dK (penKV c a l)
/-- a pen with room for b draws -/
def Pen (H : Hp) (p c : Addr) (b : Nat) : Prop := ∃ (ns : List Int) (a l : Int), H p = some (penO c a l) ∧ H c = some (.lst (ns.map V.int)) ∧ ns.length ≤ 63 ∧ 0 ≤ a ∧ a + b ≤ 2 ^ 40
/-- all but pens stay -/
def ExP (H H' : Hp) : Prop := ∀ a o, H a = some o → ∃ o', H' a = some o' ∧ ((∀ c x y, o ≠ penO c x y) → o' = o)
theorem ExP.at {H H' : Hp} (e : ExP H H') {a : Addr} {o : HO} (h : H a = some o) (n : ∀ c x y, o ≠ penO c x y) : H' a = some o := by
  obtain ⟨o', h', k⟩ := e a o h
  rw [h', k n]
theorem ExP.free {H H' : Hp} (e : ExP H H') {a : Addr} (h : H' a = none) : H a = none := by
  cases q : H a with
  | none => rfl
  | some o =>
    obtain ⟨o', h', _⟩ := e a o q
    rw [h] at h'
    cases h'
theorem ExP.refl (H : Hp) : ExP H H := fun _ o h => ⟨o, h, fun _ => rfl⟩
theorem ExP.trans {H H1 H2 : Hp} (a : ExP H H1) (b : ExP H1 H2) : ExP H H2 := fun x o h => by
  obtain ⟨o1, h1, k1⟩ := a x o h
  obtain ⟨o2, h2, k2⟩ := b x o1 h1
  refine ⟨o2, h2, fun n => ?_⟩
  have e := k1 n
  subst e
  exact k2 n
theorem ExP.of {H H' : Hp} (a : ∀ b o, H b = some o → H' b = some o) : ExP H H' := fun x o h => ⟨o, a x o h, fun _ => rfl⟩
theorem n1 : ¬ kt "cells" = kt "at" := by decide +kernel
theorem n2 : ¬ kt "cells" = kt "left" := by decide +kernel
theorem n3 : ¬ kt "at" = kt "left" := by decide +kernel
section
variable {c : Addr} {a l x : Int} {H : Hp} {p : Addr}
theorem pv_at : valV (penKV c a l) (kt "at") = some (.int a) := by
  rw [valV_neg n1, valV_pos (by rfl)]
theorem pv_cells : valV (penKV c a l) (kt "cells") = some (.ref c) := by
  rw [valV_pos (by rfl)]
theorem pv_left : valV (penKV c a l) (kt "left") = some (.int l) := by
  rw [valV_neg n2, valV_neg n3, valV_pos (by rfl)]
theorem pen_at (h : H p = some (penO c a l)) : DGet H p (.str "at") (some (.int a)) := pv_at (c := c) (a := a) (l := l) ▸ DGet.k (k := kt "at") h
theorem pen_cells (h : H p = some (penO c a l)) : DGet H p (.str "cells") (some (.ref c)) := pv_cells (c := c) (a := a) (l := l) ▸ DGet.k (k := kt "cells") h
theorem pen_left (h : H p = some (penO c a l)) : DGet H p (.str "left") (some (.int l)) := pv_left (c := c) (a := a) (l := l) ▸ DGet.k (k := kt "left") h
theorem pp_at : putK (penKV c a l) (kt "at") (.int x) = penKV c x l := by
  have e1 : ¬ Str.ofString "cells" = Str.ofString "at" := by decide +kernel
  have e3 : ¬ Str.ofString "left" = Str.ofString "at" := by decide +kernel
  simp [putK, e1, e3]
theorem pp_left : putK (penKV c a l) (kt "left") (.int x) = penKV c a x := by
  have e1 : ¬ Str.ofString "cells" = Str.ofString "left" := by decide +kernel
  have e3 : ¬ Str.ofString "at" = Str.ofString "left" := by decide +kernel
  simp [putK, e1, e3]
theorem pen_put_at (h : H p = some (penO c a l)) : DPut H p (.str "at") (.int x) (upd H p (penO c x l)) := by
  unfold penO
  rw [← pp_at (a := a)]
  exact DPut.k (k := kt "at") (v := .int x) h (by show 3 < sizeLine; decide)
theorem pen_put_left (h : H p = some (penO c a l)) : DPut H p (.str "left") (.int x) (upd H p (penO c a x)) := by
  unfold penO
  rw [← pp_left (l := l)]
  exact DPut.k (k := kt "left") (v := .int x) h (by show 3 < sizeLine; decide)
theorem exp_pen (h : H p = some (penO c a l)) {H' : Hp} (e : ExP H H') {c' : Addr} {a' l' : Int} : ExP H (upd H' p (penO c' a' l')) := fun b o hb => by
  by_cases hbp : b = p
  · subst hbp; rw [h] at hb; cases hb; exact ⟨_, upd_same, fun n => absurd rfl (n _ _ _)⟩
  · rw [upd_ne hbp]; exact e b o hb
end
/-- the list is not the pen -/
theorem lst_ne_pen {xs : List V} (c : Addr) (x y : Int) : HO.lst xs ≠ penO c x y := fun h => by cases h
theorem tup_ne_pen {xs : List V} (c : Addr) (x y : Int) : HO.tup xs ≠ penO c x y := fun h => by cases h
theorem ints_at (ns : List Int) {i : Int} (h0 : 0 ≤ i) (h1 : i < ns.length) : atI (ns.map V.int) i = some (.int (ns.getD i.toNat 0)) := by
  obtain ⟨j, rfl⟩ := Int.eq_ofNat_of_zero_le h0
  refine atI_nat ?_
  rw [List.getElem?_map, List.getElem?_eq_getElem (by omega)]
  simp [List.getD, List.getElem?_eq_getElem (show j < ns.length by omega)]
def spDraw : Sp := fun vs H Q _ => ∃ (p c : Addr) (m : Int) (b : Nat), vs = [.ref p, .int m] ∧ 1 ≤ m ∧ m < 2 ^ 30 ∧ Pen H p c (b + 1) ∧ ∀ (r : Int) (H' : Hp), 0 ≤ r → r < m → Pen H' p c b → ExP H H' → Q (.int r) H'
def spSource (K : PySem.W.Frag) : Sp := fun vs H Q _ => ∃ (a : Addr) (ns : List Int), vs = [.ref a] ∧ SqL K H a (ns.map V.int) ∧ ns.length ≤ 63 ∧ ∀ (p c : Addr) (H' : Hp), H p = none → H c = none → Same H H' → Pen H' p c 1000000 → Q (.ref p) H'
def spPick (K : PySem.W.Frag) : Sp := fun vs H Q _ => ∃ (p c : Addr) (b : Nat) (it : V), vs = [.ref p, it] ∧ Pen H p c (b + 1) ∧
  ((∃ a xs, it = .ref a ∧ SqL K H a xs ∧ xs ≠ [] ∧ xs.length < 100000 ∧ ∀ v H', v ∈ xs → Pen H' p c b → ExP H H' → Q v H') ∨
   (∃ z : Str, it = .str z ∧ z.cps.toList ≠ [] ∧ z.length < 100000 ∧ ∀ d H', d ∈ z.cps.toList → Pen H' p c b → ExP H H' → Q (.str ⟨#[d]⟩) H'))
def spShuf (K : PySem.W.Frag) : Sp := fun vs H Q _ => ∃ (p c a : Addr) (b : Nat) (xs : List V), vs = [.ref p, .ref a] ∧ SqL K H a xs ∧ xs.length < 1000 ∧ Pen H p c (b + xs.length) ∧
  ∀ (q : Addr) (ys : List V) (H' : Hp), H q = none → H' q = some (.lst ys) → ys.Perm xs → Pen H' p c b → ExP H H' → Q (.ref q) H'
theorem exp_sql {K : PySem.W.Frag} {H H' : Hp} {a : Addr} {xs : List V} (e : ExP H H') (h : SqL K H a xs) : SqL K H' a xs := by
  rcases h with (h | ⟨o, h⟩) | h
  · exact .inl (.inl (e.at h lst_ne_pen))
  · exact .inl (.inr ⟨o, e.at h (fun c x y z => by cases z)⟩)
  · exact .inr h
theorem exp_sqt {K : PySem.W.Frag} {H H' : Hp} {a : Addr} {xs : List V} (e : ExP H H') (h : SqT K H a xs) : SqT K H' a xs := by
  rcases h with (h | ⟨o, h⟩) | h
  · exact .inl (.inl (e.at h tup_ne_pen))
  · exact .inl (.inr ⟨o, e.at h (fun c x y z => by cases z)⟩)
  · exact .inr h
theorem Pen.mono {H : Hp} {p c : Addr} {b b' : Nat} (h : Pen H p c b) (hb : b' ≤ b) : Pen H p c b' := by
  obtain ⟨ns, a, l, h1, h2, h3, h4, h5⟩ := h
  exact ⟨ns, a, l, h1, h2, h3, h4, by omega⟩
theorem Pen.same {H H' : Hp} {p c : Addr} {b : Nat} (h : Pen H p c b) (e : Same H H') : Pen H' p c b := by
  obtain ⟨ns, a, l, h1, h2, h3⟩ := h
  exact ⟨ns, a, l, e _ _ h1, e _ _ h2, h3⟩
theorem Pen.chg {H H' : Hp} {p c t : Addr} {b b0 : Nat} {o : HO} (h : Pen H' p c b) (h0 : Pen H p c b0) (ht : H t = none) : Pen (upd H' t o) p c b := by
  obtain ⟨ns, a, l, h1, h2, h3⟩ := h
  obtain ⟨ns0, a0, l0, g1, g2, _⟩ := h0
  exact ⟨ns, a, l, by rw [upd_ne (ne_of_none g1 ht)]; exact h1, by rw [upd_ne (ne_of_none g2 ht)]; exact h2, h3⟩
theorem atI_mem {α : Type} {xs : List α} {i : Int} (h0 : 0 ≤ i) (h1 : i < xs.length) : ∃ v, atI xs i = some v ∧ v ∈ xs := by
  obtain ⟨j, rfl⟩ := Int.eq_ofNat_of_zero_le h0
  have hj : j < xs.length := by omega
  exact ⟨xs[j], atI_nat (List.getElem?_eq_getElem hj), List.getElem_mem hj⟩
end Pf

set_option Elab.async false
set_option maxRecDepth 100000
set_option linter.all false
set_option maxHeartbeats 4000000
/-! Rules that the hand layer lacks. -/
namespace Pf
open PySem PySem.Spec L2 PyProof.Rows
section
variable {X : Cx}
/-! ### xs != [], xs == [] whatever the items are -/
def rNil (K : PySem.W.Frag) (neg : Bool) : R2 := fun x y H Q => ∃ a b xs, x = .ref a ∧ y = .ref b ∧ SqL K H a xs ∧ SqL K H b [] ∧ Q (.bl (if neg then !xs.isEmpty else xs.isEmpty)) H
theorem plain_list {h : Heap} {a : Addr} {its : Array Value} (p : PlainL h a its) : h.IsList a its := by
  obtain ⟨o, n, e, c, _, d⟩ := p
  exact ⟨o, e, c, n, d⟩
theorem size_ne {xs : List V} {is1 : List Value} (hx : xs ≠ []) (l1 : xs.length = is1.length) : (is1.toArray.size != ([] : List Value).toArray.size) = true := by
  cases is1 with
  | nil => cases xs with | nil => exact absurd rfl hx | cons _ _ => simp at l1
  | cons _ _ => simp
theorem op_neNil (hu : X.A.units < cLine) : OpR X (compareOp .NotEq) (rNil X.K true) := by
  intro pins s σ H x y v u Q I rx ry h
  obtain ⟨a, b, xs, rfl, rfl, ha, hb, q⟩ := h
  cases rx
  cases ry
  obtain ⟨is1, r1, p1, _⟩ := I.list ha
  obtain ⟨is2, r2, p2, _⟩ := I.list hb
  have l1 := r1.length
  have l2 := r2.length
  have e2 : is2 = [] := by cases is2 with | nil => rfl | cons _ _ => simp at l2
  subst e2
  by_cases hx : xs = []
  · subst hx
    have e1 : is1 = [] := by cases is1 with | nil => rfl | cons _ _ => simp at l1
    subst e1
    have r := SeqAt.RcNeAt.lists (A := X.A) (e := fun _ => true) (plain_list p1) (plain_list p2) rfl hu (fun j h1 _ => absurd h1 (by simp))
    exact r _ _ _ _ ⟨.bl _, H, I, rfl, q⟩
  · have r := SeqAt.RcNeAt.lists_lengths (A := X.A) (plain_list p1) (plain_list p2) (size_ne hx l1) hu
    refine r _ _ _ _ ⟨.bl _, H, I, rfl, ?_⟩
    cases xs with
    | nil => exact absurd rfl hx
    | cons _ _ => exact q
theorem op_eqNil (hu : X.A.units < cLine) : OpR X (compareOp .Eq) (rNil X.K false) := by
  intro pins s σ H x y v u Q I rx ry h
  obtain ⟨a, b, xs, rfl, rfl, ha, hb, q⟩ := h
  cases rx
  cases ry
  obtain ⟨is1, r1, p1, _⟩ := I.list ha
  obtain ⟨is2, r2, p2, _⟩ := I.list hb
  have l1 := r1.length
  have l2 := r2.length
  have e2 : is2 = [] := by cases is2 with | nil => rfl | cons _ _ => simp at l2
  subst e2
  by_cases hx : xs = []
  · subst hx
    have e1 : is1 = [] := by cases is1 with | nil => rfl | cons _ _ => simp at l1
    subst e1
    have r := SeqAt.RcAt.lists (A := X.A) (e := fun _ => true) (plain_list p1) (plain_list p2) rfl hu (fun j h1 _ => absurd h1 (by simp))
    exact r _ _ _ _ ⟨.bl _, H, I, rfl, q⟩
  · have r := SeqAt.RcAt.lists_lengths (A := X.A) (plain_list p1) (plain_list p2) (size_ne hx l1) hu
    refine r _ _ _ _ ⟨.bl _, H, I, rfl, ?_⟩
    cases xs with
    | nil => exact absurd rfl hx
    | cons _ _ => exact q
/-! ### d != {} -/
def rDNil : R2 := fun x y H Q => ∃ a b kvs, x = .ref a ∧ y = .ref b ∧ Rd H a (.dK kvs) ∧ Rd H b (.dK []) ∧ Q (.bl (!kvs.isEmpty)) H
theorem op_neDNil (hu : X.A.units < cLine) : OpR X (compareOp .NotEq) rDNil := by
  intro pins s σ H x y v u Q I rx ry h
  obtain ⟨a, b, kvs, rfl, rfl, ha, hb, q⟩ := h
  cases rx
  cases ry
  obtain ⟨_, h1, vs1, r1, d1⟩ := ha.ok I.hok
  obtain ⟨_, h2, vs2, r2, d2⟩ := hb.ok I.hok
  have l1 : kvs.length = vs1.length := Paired.length r1
  have e2 : vs2 = [] := by
    have : ([] : List (Key × V)).length = vs2.length := Paired.length r2
    cases vs2 with | nil => rfl | cons _ _ => simp at this
  subst e2
  refine PySem.W.keq_ne (r := true) h1 h2 d1 d2 hu (fun hl => ?_) ⟨.bl _, H, I, rfl, ?_⟩
  · have e1 : vs1 = [] := List.length_eq_zero_iff.mp hl
    subst e1
    exact .nil
  · cases kvs with
    | nil =>
      have e1 : vs1 = [] := List.length_eq_zero_iff.mp l1.symm
      subst e1
      exact q
    | cons _ _ =>
      cases vs1 with
      | nil => simp at l1
      | cons _ _ => exact q
/-! ### list(d.values()) -/
def tListVals (te : TE) : TE := fun σ H Q => te σ H fun x H1 => ∃ (d : Addr) (kvs : List (Key × V)), x = .ref d ∧ Rd H1 d (.dK kvs) ∧ ∀ p, H1 p = none → Q (.ref p) (upd H1 p (.lst (kvs.map Prod.snd)))
theorem vals_snd : ∀ {kvs : List (Key × V)} {vs : List (Key × Value)}, KV kvs vs → Vals (kvs.map Prod.snd) (vs.map Prod.snd)
  | _, _, .nil => .nil
  | _, _, .cons r t => .cons r.2 (vals_snd t)
theorem pe_listVals {e : Expr} {te : TE} {p apos cpos pos : Pos} (hc : X.calm = true) (he : PE X e te) (hg : Gl X "list") (hm : X.mg "list" = none) (hv : bootBuiltins "list" = some (.type "list")) (hbase : attributeBase e "values" X.env (eval e X.env) = eval e X.env := by rfl) (hline : (apos.endLine == cpos.line) = true := by rfl)
    (hs : starEach [.Call (.Attribute e "values" apos) [] [] cpos] X.env = (false, eval (.Call (.Attribute e "values" apos) [] [] cpos) X.env) :: starEach [] X.env := by rfl) :
    PE X (.Call (.Name "list" p) [.Call (.Attribute e "values" apos) [] [] cpos] [] pos) (tListVals te) := by
  refine ⟨fun pins s σ H Q I hq => ?_⟩
  refine wpAny_Call_Name_kw (ld_blt I hg hm hv ?_)
  refine PyProof.Rows.callWith_type1 ?_ hs rfl
  rw [hs]
  show wpAny _ _ (spliced ((false, eval (.Call (.Attribute e "values" apos) [] [] cpos) X.env) :: backTo pos (starEach [] X.env))) _ _ s
  refine Calls.spliced_cons ?_
  refine wpAny_Call_method (T := "dict") (id := "dict.values") hbase rfl hline F.plainAttrs_dict F.slot_dict_values F.type_dict_values (thn (he.run pins s σ H _ I hq) fun u s1 ⟨x, H1, I1, rx, d, kvs, ex, hd, q⟩ => ?_)
  subst ex
  obtain rfl : u = Value.ref d := rx
  obtain ⟨hz, hs0, vs, kv, hdo⟩ := hd.ok I1.hok
  obtain ⟨ep, hat⟩ := hdo.dictAt
  have lk : kvs.length = vs.length := Paired.length kv
  have k0 : ∀ b u, s1.heap.get? b = some u → (s1.heap.push { cls := .type "dict_values", data := .fields #[.ref d] }).get? b = some u := fun b ob q => Heap.get?_push_of_some _ q
  have I2 : L2.Inv X pins σ H1 { s1 with heap := s1.heap.push { cls := .type "dict_values", data := .fields #[.ref d] } } := I1.kept (t' := s1.toks) k0
  refine ⟨hdo.typeIs, hdo.mapOf.noDict, ?_⟩
  show wpAny _ _ (callWith cpos (.builtin "dict.values") [.ref d] [] []) _ X.xe s1
  refine method_meetsIn F.slot_dict_values F.entry_dict_values rfl (PySem.evalArgs_none ⟨rfl, hdo.typeIs, F.args_dict_values_1 _, _, meets_dict_values (mixKind X.prog X.w) d hs0, ⟨vs, hdo⟩, ?_⟩)
  refine Calls.spliced_nil ?_
  refine PySem.W.kdl_call (PySem.W.kdl_values (knd := mixKind X.prog X.w) (kvs := vs) (ep := ep)) (I1.ok.hd hc) ⟨⟨_, Heap.get?_push_size _ rfl, rfl, rfl⟩, hat.push _⟩ (by omega) fun h' tk acc c hk hS hacc => ?_
  have hal : acc.toList.length = vs.length := by rw [Array.length_toList, hacc.1]
  have eacc : acc.toList = vs.map Prod.snd := PySem.W.kdl_vals_eq acc.toList hal fun j v e => hacc.2 j v (by rw [← Array.getElem?_toList]; exact e)
  refine ⟨.ref _, upd H1 _ (.lst (kvs.map Prod.snd)), I2.laid (t' := tk) hk (Nat.le_refl _) ⟨by rw [List.length_map]; exact hz, acc.toList, c, by rw [eacc]; exact vals_snd kv, by rw [Array.toArray_toList]; exact hS⟩, rfl, q _ ?_⟩
  exact I2.hok.fresh (Nat.le_refl _)
/-! ### len(d), d read or locked -/
theorem call_lenR : CallR X (.builtin "len") (fun xs H Q => ∃ a kvs, xs = [V.ref a] ∧ Rd H a (.dK kvs) ∧ Q (.int kvs.length) H) := by
  intro pins s σ H xs us Q I r h
  obtain ⟨a, kvs, rfl, ha, q⟩ := h
  obtain ⟨u, rfl, ru⟩ := vals1 r
  cases ru
  exact d_len I ha fun t s' I' => ⟨.int kvs.length, H, I', ⟨t, rfl⟩, q⟩
/-! ### == and != of lists and tuples of flat things, nested, any texts -/
def rDeep (K : PySem.W.Frag) (neg : Bool) : R2 := fun x y H Q => ∃ d e, Dp K H x d ∧ Dp K H y e ∧ d.plain = true ∧ e.plain = true ∧ d.depth ≤ 64 ∧ Q (.bl (if neg then !PyData.eqv d e else PyData.eqv d e)) H
theorem op_eqP (hu : X.A.units + 64 < cLine) : OpR X (compareOp .Eq) (rDeep X.K false) := by
  intro pins s σ H x y v u Q I rx ry h
  obtain ⟨d, e, hd, he, sd, se, hl, q⟩ := h
  obtain ⟨as, r1⟩ := Dp.reads I d x v hd rx
  obtain ⟨bs, r2⟩ := Dp.reads I e y u he ry
  exact SeqAt.eq_plain r1 r2 sd se (by have := Nat.min_le_left d.depth e.depth; omega) ⟨.bl _, H, I, rfl, q⟩
theorem op_neP (hu : X.A.units + 64 < cLine) : OpR X (compareOp .NotEq) (rDeep X.K true) := by
  intro pins s σ H x y v u Q I rx ry h
  obtain ⟨d, e, hd, he, sd, se, hl, q⟩ := h
  obtain ⟨as, r1⟩ := Dp.reads I d x v hd rx
  obtain ⟨bs, r2⟩ := Dp.reads I e y u he ry
  exact SeqAt.ne_plain r1 r2 sd se (by have := Nat.min_le_left d.depth e.depth; omega) ⟨.bl _, H, I, rfl, q⟩
end
end Pf

set_option Elab.async false
set_option maxRecDepth 100000
set_option linter.all false
set_option maxHeartbeats 4000000
/-! Comprehensions by a word over what is made so far; two ways in which a heap may grow. -/
namespace Pf
open PySem PySem.Spec L2 PyProof.Rows
/-- a way in which a heap may grow: new objects, changes of objects that were not there -/
structure Rel (L : Hp → Hp → Prop) : Prop where
  refl : ∀ H, L H H
  trans : ∀ {H H1 H2}, L H H1 → L H1 H2 → L H H2
  chg : ∀ {H H1 p o}, L H H1 → H p = none → L H (upd H1 p o)
  lst : ∀ {H H1 a xs}, L H H1 → H a = some (.lst xs) → H1 a = some (.lst xs)
  tup : ∀ {H H1 a xs}, L H H1 → H a = some (.tup xs) → H1 a = some (.tup xs)
  ex : ∀ {H H1}, Same H H1 → L H H1
theorem sz_lt {n : Nat} (h : n < 100000) : n < sizeLine := Nat.lt_of_lt_of_le h (by decide)
theorem sz_le {n : Nat} (h : n ≤ 100000) : n ≤ sizeLine := Nat.le_trans h (by decide)
theorem same_new {H : Hp} {p : Addr} {o : HO} (h : H p = none) : Same H (upd H p o) := fun a u e => by rw [upd_ne (ne_of_none e h)]; exact e
theorem same_chg {H H1 : Hp} {p : Addr} {o : HO} (e : Same H H1) (h : H p = none) : Same H (upd H1 p o) := fun a u ha => by rw [upd_ne (ne_of_none ha h)]; exact e a u ha
theorem rel_ex : Rel Same := ⟨Same.refl, Same.trans, same_chg, fun e h => e _ _ h, fun e h => e _ _ h, fun e => e⟩
theorem ExP.chg {H H1 : Hp} {p : Addr} {o : HO} (e : ExP H H1) (h : H p = none) : ExP H (upd H1 p o) := fun a u ha => by
  rw [upd_ne (ne_of_none ha h)]; exact e a u ha
theorem rel_exp : Rel ExP := ⟨ExP.refl, ExP.trans, ExP.chg, fun e h => e.at h lst_ne_pen, fun e h => e.at h tup_ne_pen, fun e => ExP.of e⟩
theorem seqIndex_nat {n j : Nat} (h : j < n) : seqIndex? (j : Int) n = some j := by
  unfold seqIndex?
  simp
  omega
theorem perm_step {α : Type} (ys xs : List α) {j : Nat} (hj : j < xs.length) : (ys ++ [xs[j]] ++ xs.eraseIdx j).Perm (ys ++ xs) := by
  rw [List.append_assoc]
  refine List.Perm.append_left _ ?_
  rw [List.singleton_append]
  have e : xs.eraseIdx j = xs.take j ++ xs.drop (j + 1) := List.eraseIdx_eq_take_drop_succ ..
  rw [e]
  have e2 : xs = xs.take j ++ xs[j] :: xs.drop (j + 1) := by rw [List.getElem_cons_drop, List.take_append_drop]
  conv => rhs; rw [e2]
  exact List.perm_middle.symm
theorem paired_snoc {α β : Type} {R : α → β → Prop} {l₁ : List α} {l₂ : List β} {a : α} {b : β} (h : Paired R l₁ l₂) (hab : R a b) : Paired R (l₁ ++ [a]) (l₂ ++ [b]) := by
  induction h with
  | nil => exact .cons hab .nil
  | cons r _ ih => exact .cons r ih
theorem paired_map_r {α β γ : Type} {R : α → γ → Prop} (g : β → γ) {l₁ : List α} {l₂ : List β} (h : Paired (fun a b => R a (g b)) l₁ l₂) : Paired R l₁ (l₂.map g) := by
  induction h with
  | nil => exact .nil
  | cons r _ ih => exact .cons r ih
theorem cut_to (xs : List V) (n : Nat) : cutV xs none (some (n : Int)) = xs.take n := by
  unfold cutV
  rw [HT.sIx_none, HT.sIx_nat, List.drop_zero]
  by_cases h : n ≤ xs.length
  · rw [Nat.min_eq_left h, Nat.sub_zero]
  · rw [Nat.min_eq_right (by omega), Nat.sub_zero, List.take_of_length_le (Nat.le_refl _), List.take_of_length_le (by omega)]
theorem cut_from (xs : List V) (n : Nat) : cutV xs (some (n : Int)) none = xs.drop n := by
  unfold cutV
  rw [HT.sIx_none, HT.sIx_nat]
  by_cases h : n ≤ xs.length
  · rw [Nat.min_eq_left h, List.take_of_length_le (by rw [List.length_drop]; exact Nat.le_refl _)]
  · rw [Nat.min_eq_right (by omega), Nat.sub_self, List.take_zero, List.drop_of_length_le (by omega)]
theorem lock_back {H H' : Hp} {d : Addr} {od : Obj} {u : HO} (hd : H d = some u) (e : Same (upd H d (.frz od u)) H') : H' d = some (.frz od u) ∧ Same H (upd H' d u) := by
  refine ⟨e _ _ upd_same, fun b o h => ?_⟩
  by_cases hb : b = d
  · subst hb
    rw [hd] at h
    rw [upd_same, ← h]
  · rw [upd_ne hb]
    exact e _ _ (by rw [upd_ne hb]; exact h)
/-- what may be read stays readable under a lock -/
theorem rd_lock {H : Hp} {d b : Addr} {od : Obj} {u v : HO} (hd : H d = some u) (h : Rd H b v) (hv : ∀ o w, u ≠ .frz o w) : Rd (upd H d (.frz od u)) b v := by
  by_cases hb : b = d
  · subst hb
    rcases h with h | ⟨o, h⟩
    · rw [hd] at h
      injection h with h
      subst h
      exact .inr ⟨od, upd_same⟩
    · rw [hd] at h
      injection h with h
      exact absurd h (hv _ _)
  · unfold Rd
    rw [upd_ne hb]
    exact h
theorem rd_same {H H' : Hp} {b : Addr} {v : HO} (e : Same H H') (h : Rd H b v) : Rd H' b v := by
  rcases h with h | ⟨o, h⟩
  · exact .inl (e _ _ h)
  · exact .inr ⟨o, e _ _ h⟩
theorem iteT' {c : Bool} {A B : Prop} (e : c = true) (h : A) : if c = true then A else B := by rw [if_pos e]; exact h
theorem iteF' {c : Bool} {A B : Prop} (e : c = false) (h : B) : if c = true then A else B := by subst e; exact iteF h
theorem yes_of {σ : L2.St} {H : Hp} {A B : Hp → Prop} (h : A H) : tYes σ H fun b H3 => if b = true then A H3 else B H3 := by
  show if true = true then A H else B H
  exact iteT h
section
variable {X : Cx}
theorem pst_set {i : Nat} {x : Str} {e : Expr} {te : TE} {pos pos' : Pos} (hN : X.N.Nodup) (hi : X.N[i]? = some x) (hx : Loc X.env.scope x) (he : PET X e te) (hs : swapsWith e (some (.Name x pos')) pos.line X.env = pure false := by rfl)
    (hf : X.fn x = true ∨ X.env.scope.names.lookup x = some .local := by first | exact .inl rfl | exact .inr rfl | assumption) : PST X (.Assign [.Name x pos'] e pos) (tAsg te (gName i)) := by
  intro pins s σ H D h0 I h
  refine wpAny_Assign_Name (thn (he pins s σ H _ h0 I h) fun v s1 ⟨y, H1, I1, r1, q1⟩ => ?_) hs
  exact store_ok I1 hN hi hx r1 (fun s2 I2 => ⟨_, H1, I2, q1⟩) hf
end
section
variable {J : It} {n : Nat} {G : Hp → Prop} {Y : Nat → Hp → V → Hp → Prop} {L : Hp → Hp → Prop}
/-- a list comprehension: S tells of the turn, the list so far and the heap -/
theorem lc_gen (w : Walk J n G Y) (R : Rel L) {g : TG} {tt : TT} {te : TE} {vs : List Nat} {σ : L2.St} {H1 : Hp} {D : Addr} {Qd : Hp → Prop} (hD : H1 D = none) (hn : n ≤ 100000)
    (S : Nat → List V → Hp → Prop) (h0 : S 0 [] (upd H1 D (.lst []))) (hG : ∀ i ys H, L H1 H → S i ys H → G H) (hu : ∀ i ys zs H o, L H1 H → H D = some (.lst zs) → S i ys H → S i ys (upd H D o))
    (hs : ∀ i x ys H H', i < n → L H1 H → H D = some (.lst ys) → S i ys H → Y i H x H' → ∀ (K1 : V → Hp → Prop) (K0 : Hp → Prop),
      (∀ y H2, L H H2 → S (i + 1) (ys ++ [y]) H2 → K1 y H2) → (∀ H2, L H H2 → S (i + 1) ys H2 → K0 H2) →
      g x (wipe σ vs) H' fun σ2 H2 => wipe σ2 vs = wipe σ vs ∧ tt σ2 H2 fun b H3 => if b = true then te σ2 H3 K1 else K0 H3)
    (hd : ∀ ys H, L H1 H → ys.length ≤ n → H D = some (.lst ys) → S n ys H → Qd H) :
    ∃ W : Nat → Nat → Hp → Prop, (∃ m, W 0 m (upd H1 D (.lst []))) ∧ ∀ i m H, W i m H →
      (J.stop i H ∧ Qd H) ∨ (J.go i H ∧ ∃ Nx : Hp → Prop, (∀ H', Nx H' → ∃ m', m' < m ∧ W (i + 1) m' H') ∧ ∀ x H', J.yld i H x H' → g x (wipe σ vs) H' fun σ2 H2 => wipe σ2 vs = wipe σ vs ∧ tt σ2 H2 fun b H3 =>
        if b = true then te σ2 H3 fun y H4 => ∃ acc, H4 D = some (.lst acc) ∧ acc.length < sizeLine ∧ Nx (upd H4 D (.lst (acc ++ [y]))) else Nx H3) := by
  refine lc_it w (fun i H => ∃ ys : List V, L H1 H ∧ ys.length ≤ i ∧ H D = some (.lst ys) ∧ S i ys H) ⟨[], R.chg (R.refl _) hD, Nat.le_refl _, upd_same, h0⟩ (fun i H _ ⟨ys, l, _, _, s⟩ => hG i ys H l s) ?_ (fun H ⟨ys, l, z, d, s⟩ => hd ys H l z d s)
  rintro i x H H' hi ⟨ys, l, z, d, s⟩ y
  refine hs i x ys H H' hi l d s y _ _ (fun v H2 l2 s2 => ?_) (fun H2 l2 s2 => ⟨ys, R.trans l l2, by omega, R.lst l2 d, s2⟩)
  refine ⟨ys, R.lst l2 d, sz_lt (by omega), ys ++ [v], R.chg (R.trans l l2) hD, by simp; omega, upd_same, hu _ _ _ _ _ (R.trans l l2) (R.lst l2 d) s2⟩
/-- each item by itself, nothing but new objects made: what f tells of the items -/
theorem lc_map {xs : List V} (w : Walk J n G (YAt xs)) (hx : n = xs.length) {g : TG} {tt : TT} {te : TE} {vs : List Nat} {σ : L2.St} {H1 : Hp} {D : Addr} {Qd : Hp → Prop} (hD : H1 D = none) (hn : n ≤ 100000) (f : V → Option V) (hG : ∀ H, Same H1 H → G H)
    (hs : ∀ x ∈ xs, ∀ H, Same H1 H → ∀ (K1 : V → Hp → Prop) (K0 : Hp → Prop), (∀ y H2, f x = some y → Same H H2 → K1 y H2) → (∀ H2, f x = none → Same H H2 → K0 H2) →
      g x (wipe σ vs) H fun σ2 H2 => wipe σ2 vs = wipe σ vs ∧ tt σ2 H2 fun b H3 => if b = true then te σ2 H3 K1 else K0 H3)
    (hd : ∀ H, Same H1 H → H D = some (.lst (xs.filterMap f)) → Qd H) :
    ∃ W : Nat → Nat → Hp → Prop, (∃ m, W 0 m (upd H1 D (.lst []))) ∧ ∀ i m H, W i m H →
      (J.stop i H ∧ Qd H) ∨ (J.go i H ∧ ∃ Nx : Hp → Prop, (∀ H', Nx H' → ∃ m', m' < m ∧ W (i + 1) m' H') ∧ ∀ x H', J.yld i H x H' → g x (wipe σ vs) H' fun σ2 H2 => wipe σ2 vs = wipe σ vs ∧ tt σ2 H2 fun b H3 =>
        if b = true then te σ2 H3 fun y H4 => ∃ acc, H4 D = some (.lst acc) ∧ acc.length < sizeLine ∧ Nx (upd H4 D (.lst (acc ++ [y]))) else Nx H3) := by
  refine lc_gen w rel_ex hD hn (fun i ys H => ys = (xs.take i).filterMap f) (by simp) (fun _ _ H l _ => hG H l) (fun _ _ _ _ _ _ _ s => s) ?_ (fun ys H l _ d s => hd H l (by rw [d, s, hx, List.take_length]))
  rintro i x ys H H' hi l d rfl ⟨rfl, hxi⟩ K1 K0 k1 k0
  have ht : xs.take (i + 1) = xs.take i ++ [x] := by rw [List.take_succ, hxi]; rfl
  refine hs x (List.mem_of_getElem? hxi) H' l K1 K0 (fun y H2 hf l2 => k1 y H2 l2 ?_) (fun H2 hf l2 => k0 H2 l2 ?_)
  · rw [ht, List.filterMap_append, List.filterMap_cons_some hf, List.filterMap_nil]
  · rw [ht, List.filterMap_append, List.filterMap_cons_none hf, List.filterMap_nil, List.append_nil]
/-- the same for truths: [p(x) for x in xs] -/
theorem lc_bl {xs : List V} (w : Walk J n G (YAt xs)) (hx : n = xs.length) {g : TG} {tt : TT} {te : TE} {vs : List Nat} {σ : L2.St} {H1 : Hp} {D : Addr} {Qd : Hp → Prop} (hD : H1 D = none) (hn : n ≤ 100000) (p : V → Bool) (hG : ∀ H, Same H1 H → G H)
    (hs : ∀ x ∈ xs, ∀ H, Same H1 H → ∀ (K1 : V → Hp → Prop) (K0 : Hp → Prop), (∀ H2, Same H H2 → K1 (.bl (p x)) H2) →
      g x (wipe σ vs) H fun σ2 H2 => wipe σ2 vs = wipe σ vs ∧ tt σ2 H2 fun b H3 => if b = true then te σ2 H3 K1 else K0 H3)
    (hd : ∀ H, Same H1 H → H D = some (.lst ((xs.map p).map V.bl)) → Qd H) :
    ∃ W : Nat → Nat → Hp → Prop, (∃ m, W 0 m (upd H1 D (.lst []))) ∧ ∀ i m H, W i m H →
      (J.stop i H ∧ Qd H) ∨ (J.go i H ∧ ∃ Nx : Hp → Prop, (∀ H', Nx H' → ∃ m', m' < m ∧ W (i + 1) m' H') ∧ ∀ x H', J.yld i H x H' → g x (wipe σ vs) H' fun σ2 H2 => wipe σ2 vs = wipe σ vs ∧ tt σ2 H2 fun b H3 =>
        if b = true then te σ2 H3 fun y H4 => ∃ acc, H4 D = some (.lst acc) ∧ acc.length < sizeLine ∧ Nx (upd H4 D (.lst (acc ++ [y]))) else Nx H3) := by
  refine lc_map w hx hD hn (fun v => some (.bl (p v))) hG (fun x hm H l K1 K0 k1 _ => hs x hm H l K1 K0 fun H2 l2 => k1 _ H2 rfl l2) fun H l h => hd H l ?_
  rw [h, List.map_map]
  congr 2
  rw [← List.filterMap_eq_map]
  rfl
theorem walk_txt {z : Str} : Walk (Its z) z.cps.size (fun _ => True) (YAt (z.cps.toList.map fun c => V.str ⟨#[c]⟩)) :=
  walk_str.mono (fun _ h => h) fun i H x H' hi _ y => ⟨y.1, by
    obtain ⟨c, hc, rfl⟩ := y.2
    rw [List.getElem?_map, Array.getElem?_toList, hc]; rfl⟩
theorem walk_keysY {d : Addr} {o : Obj} {kvs : List (Key × V)} : Walk (Itk d o kvs) kvs.length (fun H => H d = some (.frz o (.dK kvs))) (YAt (kvs.map fun kv => kV kv.1)) :=
  walk_keys.mono (fun _ h => h) fun i H x H' hi _ y => ⟨y.1, by
    obtain ⟨k, v, hc, rfl⟩ := y.2
    rw [List.getElem?_map, hc]; rfl⟩
theorem walk_valuesY {d : Addr} {o : Obj} {kvs : List (Key × V)} : Walk (Itd d o kvs) kvs.length (fun H => H d = some (.frz o (.dK kvs))) (YAt (kvs.map Prod.snd)) :=
  walk_values.mono (fun _ h => h) fun i H x H' hi _ y => ⟨y.1, by
    obtain ⟨k, hc⟩ := y.2
    rw [List.getElem?_map, hc]; rfl⟩
theorem walk_rng {lo : Int} {n : Nat} : Walk (Itr lo n) n (fun _ => True) (YAt ((List.range n).map fun i => V.int (lo + (i : Nat)))) :=
  walk_range.mono (fun _ h => h) fun i H x H' hi _ y => ⟨y.1, by rw [List.getElem?_map, List.getElem?_range hi, y.2]; rfl⟩
/-- the same for a dict -/
theorem dc_gen (w : Walk J n G Y) (R : Rel L) {g : TG} {tt : TT} {tk tv : TE} {vs : List Nat} {σ : L2.St} {H1 : Hp} {D : Addr} {Qd : Hp → Prop} (hD : H1 D = none) (hn : n ≤ 100000)
    (hdk : ∀ {H H2 : Hp} {kvs}, L H1 H → L H H2 → H D = some (.dK kvs) → H2 D = some (.dK kvs))
    (S : Nat → List (Key × V) → Hp → Prop) (h0 : S 0 [] (upd H1 D (.dK []))) (hG : ∀ i ys H, L H1 H → S i ys H → G H) (hu : ∀ i ys zs H o, L H1 H → H D = some (.dK zs) → S i ys H → S i ys (upd H D o))
    (hs : ∀ i x ys H H', i < n → L H1 H → H D = some (.dK ys) → S i ys H → Y i H x H' → ∀ (K1 : V → V → Hp → Prop) (K0 : Hp → Prop),
      (∀ k z H2, L H H2 → S (i + 1) (putK ys k z) H2 → K1 (kV k) z H2) → (∀ H2, L H H2 → S (i + 1) ys H2 → K0 H2) →
      g x (wipe σ vs) H' fun σ2 H2 => wipe σ2 vs = wipe σ vs ∧ tt σ2 H2 fun b H3 => if b = true then tk σ2 H3 fun y H4 => tv σ2 H4 fun z H5 => K1 y z H5 else K0 H3)
    (hd : ∀ ys H, L H1 H → ys.length ≤ n → H D = some (.dK ys) → S n ys H → Qd H) :
    ∃ W : Nat → Nat → Hp → Prop, (∃ m, W 0 m (upd H1 D (.dK []))) ∧ ∀ i m H, W i m H →
      (J.stop i H ∧ Qd H) ∨ (J.go i H ∧ ∃ Nx : Hp → Prop, (∀ H', Nx H' → ∃ m', m' < m ∧ W (i + 1) m' H') ∧ ∀ x H', J.yld i H x H' → g x (wipe σ vs) H' fun σ2 H2 => wipe σ2 vs = wipe σ vs ∧ tt σ2 H2 fun b H3 =>
        if b = true then tk σ2 H3 fun y H4 => tv σ2 H4 fun z H5 => ∃ kvs k, y = kV k ∧ H5 D = some (.dK kvs) ∧ kvs.length < sizeLine ∧ Nx (upd H5 D (.dK (putK kvs k z))) else Nx H3) := by
  have main : ∀ i H, i ≤ n → (∃ ys : List (Key × V), L H1 H ∧ ys.length ≤ i ∧ H D = some (.dK ys) ∧ S i ys H) → i < n → ∀ x H', Y i H x H' → g x (wipe σ vs) H' fun σ2 H2 => wipe σ2 vs = wipe σ vs ∧ tt σ2 H2 fun b H3 =>
        if b = true then tk σ2 H3 fun y H4 => tv σ2 H4 fun z H5 => ∃ kvs k, y = kV k ∧ H5 D = some (.dK kvs) ∧ kvs.length < sizeLine ∧ (∃ ys : List (Key × V), L H1 (upd H5 D (.dK (putK kvs k z))) ∧ ys.length ≤ i + 1 ∧ (upd H5 D (.dK (putK kvs k z))) D = some (.dK ys) ∧ S (i + 1) ys (upd H5 D (.dK (putK kvs k z))))
        else (∃ ys : List (Key × V), L H1 H3 ∧ ys.length ≤ i + 1 ∧ H3 D = some (.dK ys) ∧ S (i + 1) ys H3) := by
    rintro i H hi ⟨ys, l, z, d, s⟩ hlt x H' y
    refine hs i x ys H H' hlt l d s y (fun y z H5 => ∃ kvs k, y = kV k ∧ H5 D = some (.dK kvs) ∧ kvs.length < sizeLine ∧ (∃ ys : List (Key × V), L H1 (upd H5 D (.dK (putK kvs k z))) ∧ ys.length ≤ i + 1 ∧ (upd H5 D (.dK (putK kvs k z))) D = some (.dK ys) ∧ S (i + 1) ys (upd H5 D (.dK (putK kvs k z))))) _ (fun k v H2 l2 s2 => ?_) (fun H2 l2 s2 => ⟨ys, R.trans l l2, by omega, hdk l l2 d, s2⟩)
    refine ⟨ys, k, rfl, hdk l l2 d, sz_lt (by omega), putK ys k v, R.chg (R.trans l l2) hD, ?_, upd_same, hu _ _ _ _ _ (R.trans l l2) (hdk l l2 d) s2⟩
    unfold putK
    split
    · rw [List.length_map]; omega
    · rw [List.length_append]; simp; omega
  refine ⟨fun i m H => m = n - i ∧ i ≤ n ∧ ∃ ys : List (Key × V), L H1 H ∧ ys.length ≤ i ∧ H D = some (.dK ys) ∧ S i ys H, ⟨n, by simp, Nat.zero_le _, [], R.chg (R.refl _) hD, Nat.le_refl _, upd_same, h0⟩, ?_⟩
  rintro i m H ⟨rfl, hi, p⟩
  have q : G H := by obtain ⟨ys, l, _, _, s⟩ := p; exact hG i ys H l s
  by_cases hlt : i < n
  · exact .inr ⟨w.goes i H hlt q, _, fun H' p' => ⟨n - (i + 1), by omega, rfl, hlt, p'⟩, fun x H' y => main i H hi p hlt x H' (w.yields i H x H' hlt q y)⟩
  · have e : i = n := by omega
    subst e
    obtain ⟨ys, l, z, d, s⟩ := p
    exact .inl ⟨w.stops H q, hd ys H l z d s⟩
end
end Pf

set_option Elab.async false
set_option maxRecDepth 100000
set_option linter.all false
set_option maxHeartbeats 4000000
/-! Sets of texts: made of a dict or of a list, sorted. -/
namespace Pf
open PySem PySem.Spec L2 PyProof.Rows
/-- the text of an entry -/
def txtOf (e : Int × Value) : Str := match e.2 with | .str x _ => x | _ => Str.empty
def GoodT (w : World) (e : Int × Value) : Prop := ∃ x t, e.2 = Value.str x t ∧ e.1 = hashStr w x
/-- at a stands a set of just these texts -/
def SetS (w : World) (h : Heap) (a : Addr) (ks : List Str) : Prop :=
  ∃ o es ep t, h.get? a = some o ∧ o.ExactSet ∧ o.data = .set es ep t ∧ (∀ e ∈ es.toList, GoodT w e) ∧ (es.toList.map txtOf).Perm ks ∧ ks.Nodup ∧
    es.size < scanBound ∧ t.fits es.size = true ∧ Ris t.place.toList ∧ (w.params.followText "set-order" = true ∨ t.led = true)
section
variable {P : Program} {w : World} {A : Around} {E : Value → Shared → Prop} {s : Shared} {a : Addr} {ks : List Str}
theorem SetS.at {h h' : Heap} (R : SetS w h a ks) (k : ∀ o, h.get? a = some o → h'.get? a = some o) : SetS w h' a ks := by
  obtain ⟨o, es, ep, t, ho, r⟩ := R
  exact ⟨o, es, ep, t, k o ho, r⟩
theorem goodT_elems {l : List (Int × Value)} (g : ∀ e ∈ l, GoodT w e) : ElemsOf (strKind P w) l := fun e he => by
  obtain ⟨x, t, h1, h2⟩ := g e he
  refine ⟨⟨x, ?_, h2⟩, ?_⟩
  · rw [h1]
    show Value.isStrOf x (.str x t) = true
    simp [Value.isStrOf]
  · rw [h1]; rfl
theorem goodT_is {e : Int × Value} (g : GoodT w e) (x : Str) : (strKind P w).is x e.2 = true ↔ txtOf e = x := by
  obtain ⟨y, t, h1, _⟩ := g
  unfold txtOf
  rw [h1]
  show (Value.isStrOf x (.str y t) = true) ↔ y = x
  simp [Value.isStrOf]
theorem goodT_mem {l : List (Int × Value)} (g : ∀ e ∈ l, GoodT w e) (x : Str) : x ∈ l.map txtOf ↔ ∃ e ∈ l, (strKind P w).is x e.2 = true := by
  rw [List.mem_map]
  exact ⟨fun ⟨e, he, q⟩ => ⟨e, he, (goodT_is (g e he) x).2 q⟩, fun ⟨e, he, q⟩ => ⟨e, he, (goodT_is (g e he) x).1 q⟩⟩
/-- what is stored behind a new text -/
theorem setS_tail {g : Bool → Sem Unit} (hg : ∀ (b : Bool) (s₁ : Shared) (Q' : Unit → Shared → Prop), Q' () s₁ → wpAny (model P w) A (g b) Q' E s₁)
    {o : Obj} {es : Array (Int × Value)} {ep : Nat} {t : SetTable} (ho : s.heap.get? a = some o) (hex : o.ExactSet) (hd : o.data = .set es ep t)
    {es1 : Array (Int × Value)} {t2 : SetTable} (g1 : ∀ e ∈ es1.toList, GoodT w e) (pm1 : (es1.toList.map txtOf).Perm ks) (nd1 : ks.Nodup)
    (hb1 : es1.size < scanBound) (hf2 : t2.fits es1.size = true) (hr : Ris t2.place.toList) (hl : w.params.followText "set-order" = true ∨ t2.led = true) {wasDummy : Bool} {R : Option Bool → Shared → Prop}
    (hR : ∀ h', Heap.SameBut a s.heap h' → SetS w h' a ks → R (some true) { s with heap := h' }) :
    wpAny (model P w) A (do
        storeSet a es1 t2
        if (!wasDummy && t2.tooFull) = true then do
            g (relayAll t2 es1 (SetTable.grown es1.size)).2.2
            storeSet a (relayAll t2 es1 (SetTable.grown es1.size)).1 (relayAll t2 es1 (SetTable.grown es1.size)).2.1
            pure (some true)
          else pure (some true)) R E s := by
  have st1 := store_at (es' := es1) (t' := t2) ho hd
  have sm1 := Heap.SameBut.update s.heap a (Obj.putSet es1 t2)
  refine wpAny_bind (wpAny_storeSet_of ho hd ?_ (fits_of_scanBound hb1))
  by_cases hfull : (!wasDummy && t2.tooFull) = true
  · rw [if_pos hfull]
    have pm := relayAll_perm t2 es1 (SetTable.grown es1.size)
    have hf3 := relayAll_fits t2 es1 (SetTable.grown es1.size)
    have hr3 := relayAll_ris t2 es1 (SetTable.grown es1.size)
    have hl3 := relayAll_led t2 es1 (SetTable.grown es1.size)
    generalize relayAll t2 es1 (SetTable.grown es1.size) = Z at pm hf3 hr3 hl3 ⊢
    obtain ⟨es2, t3, gave⟩ := Z
    dsimp only at pm hf3 hr3 hl3 ⊢
    have hsz : es2.size = es1.size := by
      have := pm.length_eq
      simpa using this
    have hb2 : es2.size < scanBound := by omega
    refine wpAny_bind (hg _ _ _ (wpAny_bind (wpAny_storeSet_of st1 rfl ?_ (fits_of_scanBound hb2))))
    have st2 := store_at (es' := es2) (t' := t3) st1 rfl
    refine wpAny_pure (hR _ (sm1.trans (Heap.SameBut.update _ a _)) ⟨_, es2, _, t3, st2, hex, rfl, fun e he => g1 e (pm.mem_iff.mp he), (pm.map txtOf).trans pm1, nd1, hb2, hf3, hr3, ?_⟩)
    rcases hl with z | z
    · exact .inl z
    · exact .inr (hl3.trans z)
  · rw [if_neg hfull]
    exact wpAny_pure (hR _ sm1 ⟨_, es1, _, t2, st1, hex, rfl, g1, pm1, nd1, hb1, hf2, hr, hl⟩)
theorem str_scan (x : Str) (t : Tok) : (Value.str x t).scannable = true := rfl
/-- a text is added -/
theorem setS_add {x : Str} {tk : Tok} {Q : Bool → Shared → Prop} (R : SetS w s.heap a ks) (room : ks.length + 1 < scanBound)
    (hQ : ∀ b h' ks', Heap.SameBut a s.heap h' → SetS w h' a ks' → (x ∈ ks → ks' = ks) → (x ∉ ks → ks' = ks ++ [x]) → Q b { s with heap := h' }) :
    wpAny (model P w) A (setAddHashed a (.str x tk) (hashStr w x)) Q E s := by
  obtain ⟨o, es, ep, t, ho, hex, hd, g, pk, nd, hb, hf, hr, hl⟩ := R
  have hkey : (strKind P w).is x (.str x tk) = true := by
    show Value.isStrOf x (.str x tk) = true
    simp [Value.isStrOf]
  have hel : ElemsOf (strKind P w) es.toList := goodT_elems g
  have hlen : es.size = ks.length := by
    have := pk.length_eq
    simpa using this
  unfold setAddHashed setAddHashedIn
  refine wpAny_holding (wpAny_bind (wpAny_setState_of ho hd hf ?_))
  dsimp only
  rw [byScan_of (str_scan x tk) hb hel]
  simp only [↓reduceIte]
  unfold setAddByScan
  refine wpAny_bind (wpAny_bind (wpAny_rule (wpAny_bind (wpAny_setScan_of hkey ho hd hf hel ?_))))
  cases hfi : List.findIdx? (fun e => (strKind P w).is x e.2) es.toList with
  | some j =>
    obtain ⟨hj, pj, _⟩ := List.findIdx?_eq_some_iff_getElem.mp hfi
    have hin : x ∈ ks := pk.mem_iff.mp ((goodT_mem (P := P) g x).2 ⟨es.toList[j], List.getElem_mem hj, pj⟩)
    dsimp only
    exact wpAny_pure (wpAny_pure (hQ _ s.heap ks (Heap.SameBut.refl a s.heap) ⟨o, es, ep, t, ho, hex, hd, g, pk, nd, hb, hf, hr, hl⟩ (fun _ => rfl) fun z => absurd hin z))
  | none =>
    have hout : x ∉ ks := fun z => by
      obtain ⟨e, he, q⟩ := (goodT_mem (P := P) g x).1 (pk.mem_iff.mpr z)
      have c := List.findIdx?_eq_none_iff.mp hfi e he
      rw [q] at c
      cases c
    dsimp only
    have pm := layNew_perm t es (hashStr w x) (.str x tk)
    have hf1 := layNew_fits t es (hashStr w x) (.str x tk)
    have hr1 := layNew_ris t es (hashStr w x) (.str x tk) hr
    have hl1 := layNew_led t es (hashStr w x) (.str x tk)
    generalize layNew t es (hashStr w x) (.str x tk) = Z at pm hf1 hr1 hl1 ⊢
    obtain ⟨es1, t1, wasDummy, gave⟩ := Z
    dsimp only at pm hf1 hr1 hl1 ⊢
    rw [Array.toList_push] at pm
    have g1 : ∀ e ∈ es1.toList, GoodT w e := fun e he => by
      rcases List.mem_append.mp (pm.mem_iff.mp he) with z | z
      · exact g e z
      · rw [List.mem_singleton.mp z]; exact ⟨x, tk, rfl, rfl⟩
    have pk1 : (es1.toList.map txtOf).Perm (ks ++ [x]) := by
      have q := pm.map txtOf
      rw [List.map_append] at q
      exact q.trans (pk.append_right _)
    have nd1 : (ks ++ [x]).Nodup := (List.perm_append_singleton x ks).nodup_iff.mpr (List.nodup_cons.mpr ⟨hout, nd⟩)
    have hsz : es1.size = ks.length + 1 := by
      have := pk1.length_eq
      simpa using this
    have hb1 : es1.size < scanBound := by omega
    have hled : w.params.followText "set-order" = true ∨ t1.led = true := hl.imp id fun z => hl1.trans z
    have fin : ∀ h', Heap.SameBut a s.heap h' → SetS w h' a (ks ++ [x]) → Q true { s with heap := h' } := fun h' sb r => hQ _ h' _ sb r (fun z => absurd z hout) fun _ => rfl
    have hgw : ∀ (b : Bool) {s₁ : Shared} {Q' : Unit → Shared → Prop}, Q' () s₁ → wpAny (model P w) A (match b with | true => rule "set.scan.the-table-gave-way" | false => pure ()) Q' E s₁ := by
      intro b s₁ Q' q
      cases b
      · exact wpAny_pure q
      · exact wpAny_rule q
    refine wpAny_bind (hgw _ ?_)
    split
    · refine wpAny_bind ?_
      rw [hashByValue_scannable 8 (str_scan x tk)]
      refine wpAny_pure ?_
      refine setS_tail (ks := ks ++ [x]) ?_ ho hex hd g1 pk1 nd1 hb1 ?_ ?_ ?_ ?_
      · intro b s₁ Q' q; cases b <;> first | exact wpAny_pure q | exact wpAny_rule q
      · first | (split <;> first | exact hf1 | exact SetTable.fits_plain_off hf1) | exact hf1
      · first | (split <;> exact hr1) | exact hr1
      · first | (split <;> exact hled) | exact hled
      · intro h' sb r; dsimp only; exact wpAny_pure (fin h' sb r)
    · refine wpAny_bind (wpAny_pure ?_)
      simp only [↓reduceIte]
      refine setS_tail (ks := ks ++ [x]) ?_ ho hex hd g1 pk1 nd1 hb1 hf1 hr1 hled ?_
      · intro b s₁ Q' q; cases b <;> first | exact wpAny_pure q | exact wpAny_rule q
      · intro h' sb r; dsimp only; exact wpAny_pure (fin h' sb r)
abbrev freshSet (w : World) : Obj := { cls := .type "set", dict := none, data := .set #[] 0 (.fresh 0 0 (!w.params.followText "set-order")) }
theorem setS_fresh {h : Heap} (w : World) : SetS w (h.push (freshSet w)) h.objs.size [] := by
  refine ⟨_, #[], 0, _, Heap.get?_push_size _ rfl, ⟨rfl, rfl, rfl⟩, rfl, fun e he => by simp at he, by simp, List.nodup_nil, by decide, rfl, List.Pairwise.nil, ?_⟩
  show _ ∨ (!w.params.followText "set-order") = true
  cases w.params.followText "set-order"
  · exact .inr rfl
  · exact .inl rfl
theorem code_set_one (v : Value) {Q₁ : Value → Shared → Prop} (h : Q₁ (.ref s.heap.objs.size) { s with heap := s.heap.push (freshSet w) }) :
    codeAny (model P w) A (.call (.builtin "set.__new__") ⟨[.type "set", v], []⟩) (wants Q₁ E) s := by
  refine codeAny_of_tree ?_
  show wpAny _ A.in1 (do checkBuiltinCall "set.__new__" ⟨[.type "set", v], []⟩; again (.builtin "set.__new__" ⟨[.type "set", v], []⟩)) _ _ s
  refine wpAny_bind (wpAny_of_eq (F.newCall_set_1 v) (wpAny_pure ⟨plainId_quiet F.plain_set_new _, codeAny_builtin F.entry_set_new ?_⟩))
  rw [Around.under_plainId F.plain_set_new _]
  unfold Builtin.«set.__new__» Builtin.Frozenset.newClass
  have hsub := sub_set_self
  obtain ⟨hp, g, d, tk, os⟩ := s
  dsimp only
  wp_walk
  refine wpAny_askSetting (wpAny_pure ?_)
  dsimp only
  simp only [newObj]
  refine wpAny_bind (wpAny_alloc (wpAny_pure ?_))
  exact wpAny_pure h
set_option maxHeartbeats 8000000 in
/-- set(v): the set is made, then filled -/
theorem call_set_one {v : Value} {Q : Value → Shared → Prop}
    (h : wpAny (model P w) A.in1.in1 (Builtin.Frozenset.updateFrom "set.__init__" s.heap.objs.size v) (fun _ s' => Q (.ref s.heap.objs.size) s') E { s with heap := s.heap.push (freshSet w) }) :
    wpAny (model P w) A (call (.type "set") [v]) Q E s := by
  obtain ⟨c, tl, hmro⟩ := F.called_set.mro
  have hmade := F.called_set.made
  have hsub := F.called_set.sub
  refine wpAny_call (codeAny_of_tree ?_)
  show wpAny _ _ (callAny (.type "set") _) _ _ _
  refine wpAny_pure ⟨Code.quiet_builtin _ (by decide +kernel), codeAny_builtin F.entry_type_call ?_⟩
  rw [Around.under_plain (weight_type_call_type "set" [v] []) rfl]
  have h1 := F.called_set.notType
  have h2 := F.called_set.canCreate
  have hct := F.typeCall_set_1 v
  repeat (any_goals (first | assumption | wp_step))
  refine codeAny_mono (code_set_one v (E := E) (Q₁ := fun obj s₁ => obj = .ref s.heap.objs.size ∧ s₁ = { s with heap := s.heap.push (freshSet w) }) ⟨rfl, rfl⟩) fun r s₁ hr => ?_
  cases r with
  | error e => exact hr
  | ok fl =>
    cases fl with
    | ret obj =>
      obtain ⟨rfl, rfl⟩ := hr
      have hS : (s.heap.push (freshSet w)).get? s.heap.objs.size = some (freshSet w) := Heap.get?_push_size _ rfl
      have hT : Shared.TypeIs { s with heap := s.heap.push (freshSet w) } (.ref s.heap.objs.size) "set" := ⟨_, hS, rfl⟩
      have hli := F.called_set.init.lookup
      have hbi := F.called_set.init.bind (.ref s.heap.objs.size)
      repeat (any_goals (first | assumption | wp_step))
      refine codeAny_mono (codeAny_call_builtin (R := wants (fun r s₂ => r = .none ∧ Q (.ref s.heap.objs.size) s₂) E) F.called_set.init.plain F.entry_set_init (check_set_init_1 hT ?_)) fun r₂ s₂ hr₂ => ?_
      · unfold Builtin.«set.__init__» noKeywords
        generalize hUF : Builtin.Frozenset.updateFrom "set.__init__" = UF at h
        wp_walk
        exact wpAny_mono h (fun _ s' hq => wpAny_pure ⟨rfl, hq⟩) fun _ _ z => z
      · cases r₂ with
        | error e => exact hr₂
        | ok fl₂ =>
          cases fl₂ with
          | ret r =>
            obtain ⟨rfl, hq⟩ := hr₂
            repeat (any_goals (first | assumption | wp_step))
          | _ => exact hr₂.elim
    | _ => exact hr.elim
theorem sub_dict_set : isSubtype (.type "dict") (.type "set") = pure false := by rw [isSubtype_type]; kernel_rfl
theorem sub_dict_frozenset : isSubtype (.type "dict") (.type "frozenset") = pure false := by rw [isSubtype_type]; kernel_rfl
theorem entry_txt : ∀ {es : List DictEntry} {vs : List (Key × Value)} {ks : List Str}, Pairs (mixKind P w) es vs → vs.map (·.1) = ks.map Sum.inr → (∀ e ∈ es, ∃ k, (mixKind P w).is k e.key = true ∧ e.hash = (mixKind P w).hash k) →
    es.length = ks.length ∧ ∀ (i : Nat) (e : DictEntry), es[i]? = some e → ∃ x t, ks[i]? = some x ∧ e.key = .str x t ∧ e.hash = hashStr w x
  | _, _, [], .nil, _, _ => ⟨rfl, fun i e h => by simp at h⟩
  | _, _, _ :: _, .nil, h, _ => by simp at h
  | _, _, [], .cons _ _ _, h, _ => by simp at h
  | e :: es, kv :: vs, x :: ks, .cons h1 h2 h3, hk, hh => by
    rw [List.map_cons, List.map_cons] at hk
    injection hk with hk1 hk2
    obtain ⟨l, ih⟩ := entry_txt h3 hk2 fun e he => hh e (List.mem_cons_of_mem _ he)
    refine ⟨by simp [l], fun i e' he' => ?_⟩
    cases i with
    | succ i => exact ih i e' (by simpa using he')
    | zero =>
      have ee : e = e' := by simpa using he'
      subst ee
      rw [hk1] at h1
      obtain ⟨t, ht⟩ := Value.isStrOf_shape (x := x) (v := e.key) h1
      refine ⟨x, t, rfl, ht, ?_⟩
      obtain ⟨k, q1, q2⟩ := hh e List.mem_cons_self
      have ek : k = Sum.inr x := (mixKind P w).inj _ _ _ q1 h1
      rw [q2, ek]
      rfl
/-- the set is filled from a dict's keys -/
theorem setS_dict {d p : Addr} {vs : List (Key × Value)} {Q : Unit → Shared → Prop} (hd : s.heap.DictOf (mixKind P w) d vs) (hk : vs.map (·.1) = ks.map Sum.inr) (nd : ks.Nodup) (h4 : ks.length ≤ 4) (hsys : (d == sysModules) = false)
    (R : SetS w s.heap p []) (hp : s.heap.get? p = some (freshSet w))
    (hQ : ∀ h', Heap.SameBut p s.heap h' → SetS w h' p ks → Q () { s with heap := h' }) : wpAny (model P w) A (Builtin.Frozenset.updateFrom "set.__init__" p (.ref d)) Q E s := by
  have hT : s.TypeIs (.ref d) "dict" := hd.typeIs
  obtain ⟨o, es, ep, ho, hex, hdat, hes, hrest⟩ := hd
  unfold Builtin.Frozenset.updateFrom
  unfold Builtin.Frozenset.isAnySet
  have h1 := sub_dict_set
  have h2 := sub_dict_frozenset
  obtain ⟨hpr, _⟩ := hrest
  obtain ⟨hlen, hent⟩ := entry_txt hpr hk fun e he => hes e (by simpa using he)
  have hsz : es.size = ks.length := by simpa using hlen
  have hpd : p ≠ d := by
    rintro rfl
    rw [hp] at ho
    have := Option.some.inj ho
    rw [← this] at hdat
    cases hdat
  have room : SetTable.roomFor (.fresh 0 0 (!w.params.followText "set-order")) es.size = none := by
    unfold SetTable.roomFor SetTable.fresh SetTable.fill
    rw [if_neg]
    simp
    omega
  refine wpAny_bind ?_
  refine wpAny_bind (wpAny_isInstance (T := "dict") hT h1 ?_)
  refine wpAny_isInstance (T := "dict") hT h2 ?_
  simp only [Bool.false_eq_true, if_false]
  refine wpAny_bind (wpAny_typeOf hT ?_)
  have e1 : (Value.type "dict" == Value.type "dict") = true := by decide
  rw [if_pos e1]
  refine wpAny_bind (wpAny_rule (wpAny_bind (wpAny_pure ?_)))
  rw [if_neg (by rw [hsys]; decide)]
  refine wpAny_bind (wpAny_dictEpoch ho hdat ?_)
  refine wpAny_bind (wpAny_dictEntries ho hdat ?_)
  refine wpAny_bind ?_
  unfold setRoomFor
  refine wpAny_bind (wpAny_setState_of hp rfl rfl ?_)
  dsimp only
  rw [room]
  refine wpAny_pure ?_
  refine wpAny_bind (wpAny_dictEntries ho hdat ?_)
  refine wpAny_bind ?_
  refine TI.forIn_rng _ (fun rest b s' => ∃ i h', rest = List.range' i (es.size - i) ∧ i ≤ es.size ∧ s' = { s with heap := h' } ∧ Heap.SameBut p s.heap h' ∧ SetS w h' p (ks.take i)) _ ?_ ?_ _ ⟨0, s.heap, by simp, Nat.zero_le _, rfl, Heap.SameBut.refl _ _, R⟩
  · rintro y rest b s' ⟨i, h', hr, hi, rfl, sb, Ri⟩
    have hlt : i < es.size := by
      rcases Nat.lt_or_ge i es.size with z | z
      · exact z
      · rw [show es.size - i = 0 by omega] at hr; simp at hr
    have e2 : es.size - i = (es.size - (i + 1)) + 1 := by omega
    rw [e2, List.range'_succ] at hr
    injection hr with hy hrest
    subst hy hrest
    have ho' : h'.get? d = some o := by rw [sb.2 d (Ne.symm hpd)]; exact ho
    refine wpAny_bind (wpAny_dictEntries (s := { s with heap := h' }) ho' hdat ?_)
    rw [Array.getElem?_eq_getElem hlt]
    dsimp only
    obtain ⟨x, t, hx, hkey, hhash⟩ := hent y es[y] (by rw [Array.getElem?_toList, Array.getElem?_eq_getElem hlt])
    rw [hkey, hhash]
    refine wpAny_bind (wpAny_holding ?_)
    have hyk : y < ks.length := by omega
    have hxe : ks[y] = x := by
      rw [List.getElem?_eq_getElem hyk] at hx
      exact Option.some.inj hx
    refine setS_add (s := { s with heap := h' }) Ri (by rw [List.length_take]; unfold scanBound; omega) fun b h2 ks' sb2 R2 hin hout => ?_
    have hnot : x ∉ ks.take y := by
      intro hm
      obtain ⟨j, hj, ej⟩ := List.getElem_of_mem hm
      rw [List.getElem_take] at ej
      have hj' : j < y := by simp at hj; omega
      have := (List.getElem_inj nd).mp (ej.trans hxe.symm)
      omega
    have ho2 : h2.get? d = some o := by rw [sb2.2 d (Ne.symm hpd)]; exact ho'
    refine wpAny_bind (wpAny_dictEpoch (s := { s with heap := h2 }) ho2 hdat ?_)
    rw [if_neg (by simp)]
    refine wpAny_pure ⟨y + 1, h2, rfl, hlt, rfl, sb.trans sb2, ?_⟩
    have e3 : ks.take (y + 1) = ks' := by rw [hout hnot, List.take_succ, hx]; rfl
    rw [e3]
    exact R2
  · rintro b s' ⟨i, h', hr, hi, rfl, sb, Ri⟩
    have e2 : i = es.size := by
      have := congrArg List.length hr
      simp at this
      omega
    subst e2
    rw [hsz, List.take_length] at Ri
    exact wpAny_pure (hQ h' sb Ri)
/-- sorted(a set of texts) -/
theorem sorted_setS {Q : Value → Shared → Prop} (R : SetS w s.heap a ks) (hh : A.handled = none) (h64 : ks.length < 64)
    (hQ : ∀ s' p (out : Array Value) (c : Nat) (ys : List Str), (∀ b o, s.heap.get? b = some o → s'.heap.get? b = some o) → s'.gens = s.gens → s'.os = s.os → s.heap.objs.size ≤ p →
      s'.heap.get? p = some (seqObj "list" out c) → StrsAre out.toList ys → ys.Perm ks → sortedS ys = true → Q (.ref p) s') :
    wpAny (model P w) A (call (.builtin "sorted") [.ref a]) Q E s := by
  obtain ⟨o, es, ep, t, ho, hex, hd, g, pk, nd, hb, hf, hr, hl⟩ := R
  refine Calls.call_function_entry kind_sorted plain_sorted entry_sorted (args_sorted1 _) ?_
  unfold Builtin.«sorted»
  refine wpAny_bind (m := checkCount "sorted" 1 1 _) (wpAny_pure ?_)
  refine wpAny_bind (collect_set (A := A.in1) hh ⟨o, ho, hex.1, hd⟩ hf hb hr hl fun s1 vs k1 hz g1 o1 pm => ?_)
  have hmem : ∀ v ∈ vs, ∃ x t, v = Value.str x t := fun v hv => by
    obtain ⟨e, he, q⟩ := List.mem_map.mp (pm.mem_iff.mp hv)
    obtain ⟨x, t, h1, _⟩ := g e he
    exact ⟨x, t, by rw [← q]; exact h1⟩
  let tx : Value → Str := fun v => match v with | .str x _ => x | _ => Str.empty
  have hS : StrsAre vs (vs.map tx) := by
    have : ∀ l : List Value, (∀ v ∈ l, ∃ x t, v = Value.str x t) → StrsAre l (l.map tx) := by
      intro l
      induction l with
      | nil => intro _; exact .nil
      | cons v l ih =>
        intro hl
        obtain ⟨x, t, rfl⟩ := hl v List.mem_cons_self
        exact .cons x t (ih fun u hu => hl u (List.mem_cons_of_mem _ hu))
    exact this vs hmem
  have pk2 : (vs.map tx).Perm ks := by
    have q := pm.map tx
    rw [List.map_map] at q
    exact q.trans pk
  have hvl : vs.length = ks.length := by
    have := pk2.length_eq
    rwa [List.length_map] at this
  refine wpAny_bind (wpAny_newList ?_ (by rw [hvl, sizeLine_eq]; omega))
  have hoL : (s1.heap.push (seqObj "list" vs.toArray 0)).get? s1.heap.objs.size = some (seqObj "list" vs.toArray 0) := Heap.get?_push_size _ rfl
  refine wpAny_bind (wpAny_holding (wpAny_call_entry slot_list_sort ⟨_, hoL, rfl⟩ entry_list_sort
    (list_sort_treeK strKind_oneLt hoL hS.keysOf (fun v₁ v₂ rest e => keyKind_strs (by rw [← e]; exact hS)) (by rw [hvl]; exact h64) fun st' hp hs => ⟨_, rfl, ?_⟩) (args_list_sort _)))
  obtain ⟨ys, g2, g3, g4⟩ := sorted_out_str hS hp hs
  obtain ⟨c, hc⟩ := sortedHeap_at (vs := vs) (out := (arrOf st').map (·.2)) hoL
  refine wpAny_pure ⟨_, rfl, hQ _ s1.heap.objs.size _ c ys (fun b u e => ?_) g1 o1 hz hc g2 (g3.trans pk2) g4⟩
  have q := k1 b u e
  have hlt := Heap.lt_size q
  show (sortedHeap (s1.heap.push (seqObj "list" vs.toArray 0)) s1.heap.objs.size vs _).get? b = some u
  rw [sortedHeap_old (Nat.ne_of_lt hlt) (by rw [size_push']; exact Nat.lt_succ_of_lt hlt)]
  exact Heap.get?_push_of_some _ q
end
/-! ### over the layer -/
def SetSO (w : World) (a : Addr) (ks : List Str) : HO := .ext fun h => SetS w h a ks
theorem setSO_new {w : World} {P : Program} {H : Hp} {h : Heap} {a : Addr} {ks : List Str} (R : SetS w h a ks) : ObjOk P w H h a (SetSO w a ks) := by
  refine ⟨R, ?_, fun h1 h2 r k => r.at k⟩
  obtain ⟨o, _, _, _, ho, _⟩ := R
  exact ⟨o, ho⟩
section
variable {X : Cx}
theorem setSO_get {pins : List (Addr × Obj)} {σ : L2.St} {H : Hp} {s : Shared} {a : Addr} {ks : List Str} (I : L2.Inv X pins σ H s) (ha : H a = some (SetSO X.w a ks)) : SetS X.w s.heap a ks := (I.hok a _ ha).1
def rSetD (w : World) : List V → Hp → VK → Prop := fun xs H Q => ∃ (d : Addr) (kvs : List (Key × V)) (ks : List Str), xs = [.ref d] ∧ Rd H d (.dK kvs) ∧ kvs.map (·.1) = ks.map Sum.inr ∧ ks.length ≤ 4 ∧ ∀ p, H p = none → Q (.ref p) (upd H p (SetSO w p ks))
theorem cr_setD : CallR X (.type "set") (rSetD X.w) := by
  intro pins s σ H xs us Q I r h
  obtain ⟨d, kvs, ks, rfl, hd, hk, h4, q⟩ := h
  rw [Vals.ref1 r]
  obtain ⟨_, hsys, vs, rel, dd⟩ := hd.ok I.hok
  have hkeys : vs.map (·.1) = ks.map Sum.inr := rel.keys.symm.trans hk
  have nd : ks.Nodup := by
    obtain ⟨_, _, _, _, _, _, _, _, nd⟩ := dd
    rw [hkeys] at nd
    exact List.Pairwise.imp (fun h e => h (by rw [e])) (List.pairwise_map.mp nd)
  have keep : ∀ b u, s.heap.get? b = some u → (s.heap.push (freshSet X.w)).get? b = some u := fun b u e => Heap.get?_push_of_some _ e
  have dd1 : (s.heap.push (freshSet X.w)).DictOf (mixKind X.prog X.w) d vs := by
    obtain ⟨o, es, ep, ho, r⟩ := dd
    exact ⟨o, es, ep, keep _ _ ho, r⟩
  refine call_set_one (setS_dict (s := { s with heap := s.heap.push (freshSet X.w) }) dd1 hkeys nd h4 hsys (setS_fresh X.w) (Heap.get?_push_size _ rfl) fun h' sb R => ?_)
  have k2 : ∀ b u, s.heap.get? b = some u → h'.get? b = some u := fun b u e => by
    rw [sb.2 b (Nat.ne_of_lt (Heap.lt_size e))]
    exact keep b u e
  exact ⟨.ref s.heap.objs.size, upd H s.heap.objs.size (SetSO X.w s.heap.objs.size ks), I.laid (t' := s.toks) k2 (Nat.le_refl _) (setSO_new R), rfl, q _ (I.hok.fresh (Nat.le_refl _))⟩
def rSortedS' (w : World) : List V → Hp → VK → Prop := fun xs H Q => ∃ (a : Addr) (ks : List Str), xs = [.ref a] ∧ H a = some (SetSO w a ks) ∧ ks.length < 64 ∧ ∀ (ys : List Str) p, ys.Perm ks → sortedS ys = true → H p = none → Q (.ref p) (upd H p (.lst (ys.map V.str)))
theorem cr_sortedSetS (hc : X.calm = true) : CallR X (.builtin "sorted") (rSortedS' X.w) := by
  intro pins s σ H xs us Q I r h
  obtain ⟨a, ks, rfl, ha, h64, q⟩ := h
  have R := setSO_get I ha
  rw [Vals.ref1 r]
  refine sorted_setS R (I.ok.hd hc) h64 fun s' p out c ys k g o hp hg hi hpm hs => ?_
  have hlen : (ys.map V.str).length ≤ sizeLine := by rw [List.length_map, hpm.length_eq, sizeLine_eq]; omega
  have hn : H p = none := I.hok.fresh hp
  have J : L2.Inv X pins σ (upd H p (.lst (ys.map V.str))) { s with heap := s'.heap, gens := s'.gens, drawn := s'.drawn, toks := s'.toks } :=
    I.call (ch := []) (Un.laid k hp hn) (I.hok.laid k hp ⟨hlen, out.toList, c, vals_of_strs hi, hg⟩) (by rw [g]; exact I.bare) (fun _ z => nomatch z)
  have e : s' = { s with heap := s'.heap, gens := s'.gens, drawn := s'.drawn, toks := s'.toks } := by
    cases s'
    cases s
    cases o
    rfl
  rw [e]
  exact ⟨.ref p, _, J, rfl, q ys p hpm hs hn⟩
end
end Pf

set_option Elab.async false
set_option maxRecDepth 100000
set_option linter.all false
set_option maxHeartbeats 4000000
namespace Pf
open PySem L2
def top (i : Nat) : Stmt := PySem.Challenge.pw_surelyset_k75_whole_profiles_are_a_latti.main.body.getD i (.Pass ⟨0, 0, 0, 0⟩)
/-- the built-ins that the text leaves as they are -/
structure Bi (mg : Str → Option Value) : Prop where
  int : mg "int" = none
  len : mg "len" = none
  list : mg "list" = none
  tuple : mg "tuple" = none
  dict : mg "dict" = none
  set : mg "set" = none
  all : mg "all" = none
  min : mg "min" = none
  range : mg "range" = none
  sorted : mg "sorted" = none
  isinstance : mg "isinstance" = none
  repr : mg "repr" = none
  str : mg "str" = none
section
variable {P : Program} {w : World} {K : PySem.W.Frag} {mg : Str → Option Value} {base : Heap}
abbrev s_L_draw : Stmt := top 26
theorem sc_L_draw : FnScope ["_law_pen", "_law_many", "_law_at", "_law_cell", "_law_mixed", "_law_digit"] ["_law_pen", "_law_many"] (defScope s_L_draw) := ⟨rfl, rfl, rfl, by decide +kernel, rfl, by decide +kernel, by decide +kernel⟩
theorem ok_draw {f : Addr} {fd : FuncData} (F : Fun K "_law_draw" "_law_draw" s_L_draw f fd) (B : Bi mg) : FnOk P w K mg base CX0 1 f fd ["_law_pen", "_law_many"] spDraw := by
  refine F.ok sc_L_draw (fun vs H Q E h => ?_) (fun cdv A outer s H vs Q E hr h => ?_)
  · obtain ⟨p, c, m, b, rfl, _⟩ := h
    rfl
  · obtain ⟨p, c, m, b, rfl, hm1, hm2, ⟨ns, a, l, hp, hc, hn, ha, hb⟩, k⟩ := h
    have hu := hu_of hr
    refine ⟨_, (pss_cons (ps_if (pt_cmpR op_ge (pe_dget hu (pv 0) pe_str (fun _ _ => rfl)) (pv 1) (nomark _))
        (pss_cons (ps_set (i := 5) sc_L_draw.nd rfl (Or.inl rfl) (pe_op op_mod (pe_callTy call_int1 (by rfl) B.int (by decide +kernel) (pa_cons (pe_dget hu (pv 0) pe_str (fun _ _ => rfl)) pa_nil)) (pv 1)))
        (pss_cons (ps_dput hu (pv 0) pe_str (pe_op op_fdiv (pe_dget hu (pv 0) pe_str (fun _ _ => rfl)) (pv 1)) rfl)
        (pss_one (ps_ret (pv 5)))))
        pss_nil)
      (pss_cons (ps_set (i := 2) sc_L_draw.nd rfl (Or.inl rfl) (pe_dget hu (pv 0) pe_str (fun _ _ => rfl)))
      (pss_cons (ps_dput hu (pv 0) pe_str (pe_op op_add (pv 2) pe_int) rfl)
      (pss_cons (ps_set (i := 3) sc_L_draw.nd rfl (Or.inl rfl) (pe_op op_add (pe_op op_mul pe_int (pv 2)) pe_int))
      (C8.pss_cut (ps_if (pt_cmpR (op_neNil hr.units0) (pe_dget hu (pv 0) pe_str (fun _ _ => rfl)) (pe_lst pa_nil) (nomark _))
        (pss_one (ps_set (i := 3) sc_L_draw.nd rfl (Or.inl rfl) (pe_ix ix_list (pe_dget hu (pv 0) pe_str (fun _ _ => rfl)) (pe_op op_mod (pe_callTy call_int1 (by rfl) B.int (by decide +kernel) (pa_cons (pv 2) pa_nil)) (pe_callB call_len_seq (by rfl) B.len PySem.boot_len (pa_cons (pe_dget hu (pv 0) pe_str (fun _ _ => rfl)) pa_nil))) (fun _ _ => rfl))))
        pss_nil)
      (C8.pss_cut (ps_if (PW.pt (pw_and (pt_cmpR op_lt (pv 2) (pe_callB call_len_seq (by rfl) B.len PySem.boot_len (pa_cons (pe_dget hu (pv 0) pe_str (fun _ _ => rfl)) pa_nil)) (nomark _)) (pw_and1 (pt_cmpR op_ge (pv 3) (pe_op op_pow pe_int pe_int) (nomark _)))))
        (pss_cons (ps_dput hu (pv 0) pe_str (pe_op op_fdiv (pe_op op_sub (pv 3) (pe_op op_pow pe_int pe_int)) (pv 1)) rfl)
        (pss_one (ps_ret (pe_op op_mod (pe_callTy call_int1 (by rfl) B.int (by decide +kernel) (pa_cons (pe_op op_sub (pv 3) (pe_op op_pow pe_int pe_int)) pa_nil)) (pv 1)))))
        pss_nil)
      (pss_cons (ps_set (i := 4) sc_L_draw.nd rfl (Or.inl rfl) (pe_op op_mod (pe_callTy call_int1 (by rfl) B.int (by decide +kernel) (pa_cons (pe_op op_add (pe_op op_add (pe_op op_add (pe_op op_mul (pe_op op_mod (pe_callTy call_int1 (by rfl) B.int (by decide +kernel) (pa_cons (pv 3) pa_nil)) pe_int) pe_int) (pe_op op_mul (pe_op op_mul pe_int (pv 2)) (pv 2))) (pe_op op_mul pe_int (pv 2))) pe_int) pa_nil)) pe_int))
      (pss_cons (ps_set (i := 4) sc_L_draw.nd rfl (Or.inl rfl) (pe_op op_mod (pe_callTy call_int1 (by rfl) B.int (by decide +kernel) (pa_cons (pe_op op_mul (pv 4) (pe_op op_add (pv 4) pe_int)) pa_nil)) pe_int))
      (pss_one (ps_ret (pe_op op_mod (pe_callTy call_int1 (by rfl) B.int (by decide +kernel) (pa_cons (pe_op op_fdiv (pe_op op_mod (pe_callTy call_int1 (by rfl) B.int (by decide +kernel) (pa_cons (pe_op op_mul (pv 4) (pv 4)) pa_nil)) pe_int) pe_int) pa_nil)) (pv 1)))))))))))), ?_⟩
    refine ⟨_, rfl, p, _, rfl, pen_left hp, _, rfl, _, _, rfl, rfl, _, rfl, ?_⟩
    refine ite2 (fun hge => ?_) (fun hlt => ?_)
    · refine ⟨_, rfl, p, _, rfl, pen_left hp, .inl ⟨_, rfl, _, rfl, _, _, rfl, rfl, by omega, ?_⟩⟩
      refine ⟨_, rfl, p, _, rfl, pen_left hp, _, rfl, _, _, rfl, rfl, ⟨by omega, by omega⟩, _, rfl, p, _, rfl, pen_put_left hp, _, rfl, ?_⟩
      refine k _ _ (Int.emod_nonneg _ (by omega)) (Int.emod_lt_of_pos _ (by omega)) ⟨ns, a, _, upd_same, ?_, hn, ha, by omega⟩ (exp_pen hp (ExP.refl H))
      rw [upd_ne (ne_of hc hp (lst_ne_pen _ _ _))]; exact hc
    · refine ⟨_, rfl, p, _, rfl, pen_at hp, ?_⟩
      refine ⟨_, rfl, _, _, rfl, rfl, _, rfl, p, _, rfl, pen_put_at hp, ?_⟩
      generalize hH1 : upd H p (penO c (a + 1) l) = H1
      have hp1 : H1 p = some (penO c (a + 1) l) := by rw [← hH1, upd_same]
      have hc1 : H1 c = some (.lst (ns.map V.int)) := by rw [← hH1, upd_ne (ne_of hc hp (lst_ne_pen _ _ _))]; exact hc
      have e1 : ExP H H1 := by rw [← hH1]; exact exp_pen hp (ExP.refl H)
      refine ⟨_, rfl, _, _, rfl, rfl, .inl ⟨by omega, by omega⟩, _, _, rfl, rfl, ?_⟩
      refine ⟨fun σ' H' => ∃ z : Int, σ' = [some (.ref p), some (.int m), some (.int a), some (.int z), none, none] ∧ ∀ b o, H1 b = some o → H' b = some o, ?_, ?_⟩
      · refine ⟨_, rfl, p, _, rfl, pen_cells hp1, ⟨by show 0 ≤ sizeLine; decide, fun q hq => ?_⟩⟩
        have hqs : ∀ b o, H1 b = some o → upd H1 q (.lst []) b = some o := fun b o hb => by rw [upd_ne (ne_of_none hb hq)]; exact hb
        refine ⟨_, _, _, rfl, rfl, SqL.of (hqs _ _ hc1), SqL.of upd_same, _, rfl, ?_⟩
        refine ite2 (fun hne => ?_) (fun _ => ⟨_, rfl, hqs⟩)
        have hp2 := hqs _ _ hp1
        have hc2 := hqs _ _ hc1
        have hpos : 0 < (ns.length : Int) := by
          cases ns with
          | nil => simp at hne
          | cons _ _ => simp <;> omega
        have hpos' : 0 < ((ns.map V.int).length : Int) := by rw [List.length_map]; exact hpos
        have hat : atI (ns.map V.int) (a % ((ns.map V.int).length : Int)) = some (.int (ns.getD (a % ((ns.map V.int).length : Int)).toNat 0)) :=
          ints_at ns (Int.emod_nonneg _ (by omega)) (by have := Int.emod_lt_of_pos a hpos'; rwa [List.length_map] at this ⊢)
        exact ⟨_, rfl, p, _, rfl, pen_cells hp2, _, rfl, .inl ⟨_, rfl, _, rfl, p, _, rfl, pen_cells hp2, c, _, rfl, .inl (SqL.of hc2), _, _, rfl, rfl, hpos', _, _, _, _, rfl, rfl, SqL.of hc2, hat, _, rfl, hqs⟩⟩
      · rintro σ' H' ⟨z, rfl, e2⟩
        have hp2 := e2 _ _ hp1
        have hc2 := e2 _ _ hc1
        have e3 : ExP H H' := e1.trans (ExP.of e2)
        refine ⟨fun σ' H2 => σ' = [some (.ref p), some (.int m), some (.int a), some (.int z), none, none] ∧ H2 = H', ?_, ?_⟩
        · refine ⟨_, rfl, _, rfl, p, _, rfl, pen_cells hp2, c, _, rfl, .inl (SqL.of hc2), _, _, rfl, rfl, _, rfl, ?_⟩
          refine ite2 (fun _ => ?_) (fun _ => iteF ⟨rfl, rfl⟩)
          refine ⟨_, rfl, _, _, rfl, rfl, ⟨by decide, by decide, by decide⟩, _, _, rfl, rfl, _, rfl, ?_⟩
          refine ite2 (fun _ => ?_) (fun _ => ⟨rfl, rfl⟩)
          refine ⟨_, rfl, _, _, rfl, rfl, ⟨by decide, by decide, by decide⟩, _, _, rfl, rfl, _, rfl, _, _, rfl, rfl, ⟨by omega, by omega⟩, _, rfl, p, _, rfl, pen_put_left hp2, ?_⟩
          refine ⟨_, rfl, _, _, rfl, rfl, ⟨by decide, by decide, by decide⟩, _, _, rfl, rfl, .inl ⟨_, rfl, _, rfl, _, _, rfl, rfl, by omega, ?_⟩⟩
          refine k _ _ (Int.emod_nonneg _ (by omega)) (Int.emod_lt_of_pos _ (by omega)) ⟨ns, a + 1, _, upd_same, ?_, hn, by omega, by omega⟩ (exp_pen hp e3)
          rw [upd_ne (ne_of hc2 hp2 (lst_ne_pen _ _ _))]; exact hc2
        · rintro σ' H2 ⟨rfl, rfl⟩
          have z1 : ∀ n : Int, 0 < n → 0 < n := fun _ h => h
          refine ⟨_, rfl, .inl ⟨_, rfl, _, _, rfl, rfl, z1 _ (by decide), _, _, rfl, rfl, .inr ⟨by decide, by decide⟩, ?_⟩⟩
          refine ⟨_, rfl, _, _, rfl, rfl, .inl ⟨by decide, by decide⟩, _, rfl, _, _, rfl, rfl, .inr ⟨by omega, by omega⟩, _, _, rfl, rfl, ?_⟩
          refine ⟨_, rfl, _, _, rfl, rfl, .inl ⟨by decide, by decide⟩, _, _, rfl, rfl, _, _, rfl, rfl, .inl ⟨_, rfl, _, _, rfl, rfl, z1 _ (by decide), ?_⟩⟩
          have g0 := Int.emod_nonneg (z % 2147483587 * 48271 + 40014 * a * a + 59 * a + 17) (show (2147483629 : Int) ≠ 0 by decide)
          have g1 := Int.emod_lt_of_pos (z % 2147483587 * 48271 + 40014 * a * a + 59 * a + 17) (show (0 : Int) < 2147483629 by decide)
          refine ⟨_, rfl, _, rfl, _, _, rfl, rfl, _, _, rfl, rfl, .inl ⟨by omega, by omega⟩, .inl ⟨_, rfl, _, _, rfl, rfl, z1 _ (by decide), ?_⟩⟩
          have g0' := Int.emod_nonneg ((z % 2147483587 * 48271 + 40014 * a * a + 59 * a + 17) % 2147483629 * ((z % 2147483587 * 48271 + 40014 * a * a + 59 * a + 17) % 2147483629 + 69621)) (show (2147483549 : Int) ≠ 0 by decide)
          have g1' := Int.emod_lt_of_pos ((z % 2147483587 * 48271 + 40014 * a * a + 59 * a + 17) % 2147483629 * ((z % 2147483587 * 48271 + 40014 * a * a + 59 * a + 17) % 2147483629 + 69621)) (show (0 : Int) < 2147483549 by decide)
          refine ⟨_, rfl, _, rfl, _, _, rfl, rfl, .inl ⟨by omega, by omega⟩, .inl ⟨_, rfl, _, _, rfl, rfl, z1 _ (by decide), _, _, rfl, rfl, ⟨by decide, by decide⟩, .inl ⟨_, rfl, _, rfl, _, _, rfl, rfl, by omega, ?_⟩⟩⟩
          exact k _ _ (Int.emod_nonneg _ (by omega)) (Int.emod_lt_of_pos _ (by omega)) ⟨ns, a + 1, l, hp2, hc2, hn, by omega, by omega⟩ e3
end
end Pf

set_option Elab.async false
set_option maxRecDepth 100000
set_option linter.all false
set_option maxHeartbeats 4000000
namespace Pf
open PySem L2
section
variable {P : Program} {w : World} {K : PySem.W.Frag} {mg : Str → Option Value} {base : Heap}
abbrev s_L_source : Stmt := top 25
theorem sc_L_source : FnScope ["_law_script"] ["_law_script"] (defScope s_L_source) := ⟨rfl, rfl, rfl, by decide +kernel, rfl, by decide +kernel, by decide +kernel⟩
theorem ok_source {f : Addr} {fd : FuncData} (F : Fun K "_law_source" "_law_source" s_L_source f fd) (B : Bi mg) : FnOk P w K mg base CX0 1 f fd ["_law_script"] (spSource K) := by
  refine F.ok sc_L_source (fun vs H Q E h => ?_) (fun cdv A outer s H vs Q E hr h => ?_)
  · obtain ⟨a, ns, rfl, _⟩ := h
    rfl
  · obtain ⟨a, ns, rfl, ha, hn, k⟩ := h
    have hu := hu_of hr
    refine ⟨_, (pss_one (ps_ret (pe_disp (pps_cons pe_str (pe_callTy call_list_of (by rfl) B.list (by decide +kernel) (pa_cons (pe_slice sl_list (pv 0) po_none (po_some pe_int)) pa_nil)) (pps_cons pe_str pe_int (pps_cons pe_str pe_int pps_nil))) (by rfl) (by rfl) (fun z => by cases z) (by decide)))), ?_⟩
    intro p hp
    have e0 : Same H (upd H p (.dK [])) := same_new hp
    refine ⟨_, rfl, _, rfl, _, _, rfl, e0.seq ha, fun q hq => ⟨q, _, rfl, .inl (SqL.of upd_same), fun c hc => ?_⟩⟩
    have hpq : p ≠ q := by rintro rfl; rw [upd_same] at hq; cases hq
    have e1 := same_new (o := .lst (cutV (ns.map V.int) none (some 63))) hq
    have hpc : p ≠ c := by rintro rfl; rw [upd_ne hpq, upd_same] at hc; cases hc
    refine ⟨by rw [upd_ne hpc, upd_ne hpq, upd_same], [(kt "cells", .ref c), (kt "at", .int 0), (kt "left", .int 0)], rfl, by show 3 ≤ 15; decide, ?_⟩
    have em : mergeK [] [(kt "cells", .ref c), (kt "at", .int 0), (kt "left", .int 0)] = penKV c 0 0 := by
      have e1 : ¬ Str.ofString "cells" = Str.ofString "at" := by decide +kernel
      have e2 : ¬ Str.ofString "cells" = Str.ofString "left" := by decide +kernel
      have e3 : ¬ Str.ofString "at" = Str.ofString "left" := by decide +kernel
      simp [mergeK, putK, e1, e2, e3]
    rw [em]
    refine k p c _ hp (by have := hc; rw [upd_ne (by rintro rfl; rw [upd_same] at hc; cases hc), upd_ne (Ne.symm hpc)] at this; exact this) ?_ ?_
    · exact same_chg ((e0.trans e1).trans (same_new hc)) hp
    · refine ⟨ns.take 63, 0, 0, upd_same, ?_, ?_, by omega, by decide⟩
      · rw [upd_ne (Ne.symm hpc), upd_same]
        congr 2
        show cutV (ns.map V.int) none (some 63) = _
        simp [cutV, HT.sIx]
      · simp; omega
abbrev s_L_pick : Stmt := top 27
theorem sc_L_pick : FnScope ["_law_pen", "_law_items"] ["_law_pen", "_law_items"] (defScope s_L_pick) := ⟨rfl, rfl, rfl, by decide +kernel, rfl, by decide +kernel, by decide +kernel⟩
theorem ok_pick {f : Addr} {fd : FuncData} (F : Fun K "_law_pick" "_law_pick" s_L_pick f fd) (B : Bi mg) (C__law_draw : C8.Cal P w K mg base 1 "_law_draw" spDraw []) : FnOk P w K mg base CX0 2 f fd ["_law_pen", "_law_items"] (spPick K) := by
  refine F.ok sc_L_pick (fun vs H Q E h => ?_) (fun cdv A outer s H vs Q E hr h => ?_)
  · obtain ⟨p, c, b, it, rfl, _⟩ := h
    rfl
  · obtain ⟨p, c, b, it, rfl, hp, h⟩ := h
    have hu := hu_of hr
    refine ⟨_, (pss_one (ps_ret (pe_ix ix_seq (pv 1) (C8.pe_c C__law_draw hr (by decide) (by rfl) (pa_cons (pv 0) (pa_cons (pe_callB (CallR.or call_len_seq call_len_str) (by rfl) B.len PySem.boot_len (pa_cons (pv 1) pa_nil)) pa_nil))) (fun _ _ => rfl)))), ?_⟩
    refine ⟨_, rfl, _, rfl, _, rfl, ?_⟩
    rcases h with ⟨a, xs, rfl, ha, hne, hl, k⟩ | ⟨z, rfl, hne, hl, k⟩
    · have hpos : 0 < xs.length := List.length_pos_iff.mpr hne
      refine .inl ⟨a, xs, rfl, .inl ha, p, c, _, b, rfl, by omega, by omega, hp, fun r H' h0 h1 hp' e => ?_⟩
      obtain ⟨v, hv, hm⟩ := atI_mem (xs := xs) h0 h1
      exact .inl ⟨a, xs, r, v, rfl, rfl, exp_sql e ha, hv, k v H' hm hp' e⟩
    · have hpos : 0 < z.cps.toList.length := List.length_pos_iff.mpr hne
      have hzl : z.length = z.cps.toList.length := by simp [Str.length]
      refine .inr ⟨z, rfl, sz_le (by omega), p, c, _, b, rfl, by omega, by omega, hp, fun r H' h0 h1 hp' e => ?_⟩
      obtain ⟨v, hv, hm⟩ := atI_mem (xs := z.cps.toList) h0 (by omega)
      exact .inr (.inr ⟨z, r, v, rfl, rfl, sz_le (by omega), hv, k v H' hm hp' e⟩)
abbrev s_L_shuffled : Stmt := top 28
theorem sc_L_shuffled : FnScope ["_law_pen", "_law_items", "_law_left", "_law_found"] ["_law_pen", "_law_items"] (defScope s_L_shuffled) := ⟨rfl, rfl, rfl, by decide +kernel, rfl, by decide +kernel, by decide +kernel⟩
theorem ok_shuffled {f : Addr} {fd : FuncData} (F : Fun K "_law_shuffled" "_law_shuffled" s_L_shuffled f fd) (B : Bi mg) (C__law_draw : C8.Cal P w K mg base 1 "_law_draw" spDraw []) : FnOk P w K mg base CX0 2 f fd ["_law_pen", "_law_items"] (spShuf K) := by
  refine F.ok sc_L_shuffled (fun vs H Q E h => ?_) (fun cdv A outer s H vs Q E hr h => ?_)
  · obtain ⟨p, c, a, b, xs, rfl, _⟩ := h
    rfl
  · obtain ⟨p, c, a, b, xs, rfl, ha, hl, hp, k⟩ := h
    have hu := hu_of hr
    refine ⟨_, (pss_cons (ps_par (i := 2) (j := 3) rfl sc_L_shuffled.nd rfl rfl (by decide) rfl rfl (pa_cons (pe_callTy call_list_of (by rfl) B.list (by decide +kernel) (pa_cons (pv 1) pa_nil)) (pa_cons (pe_lst pa_nil) pa_nil)) rfl)
      (pss_cons (ps_while PassesOwn.never (pt_cmpR (op_neNil hr.units0) (pv 2) (pe_lst pa_nil) (nomark _))
        (pss_one (ps_expr (pe_bm PySem.F.plainAttrs_list PySem.F.slot_list_append PySem.F.type_list_append mt_append (pv 3) (pa_cons (pe_bm PySem.F.plainAttrs_list PySem.F.slot_list_pop PySem.F.type_list_pop mt_popAt (pv 2) (pa_cons (C8.pe_c C__law_draw hr (by decide) (by rfl) (pa_cons (pv 0) (pa_cons (pe_callB call_len_seq (by rfl) B.len PySem.boot_len (pa_cons (pv 2) pa_nil)) pa_nil))) pa_nil)) pa_nil)))))
      (pss_one (ps_ret (pv 3))))), ?_⟩
    refine ⟨_, rfl, a, xs, rfl, .inl ha, fun l hl0 => ⟨by show 0 ≤ sizeLine; decide, fun q hq => ⟨_, _, rfl, ?_⟩⟩⟩
    have hlq : l ≠ q := by rintro rfl; rw [upd_same] at hq; cases hq
    have hq0 : H q = none := by rw [upd_ne (Ne.symm hlq)] at hq; exact hq
    have e0 : Same H (upd (upd H l (.lst xs)) q (.lst [])) := (same_new hl0).trans (same_new hq)
    refine while_by (fun σ' H' => ∃ xs' ys : List V, σ' = [some (.ref p), some (.ref a), some (.ref l), some (.ref q)] ∧ H' l = some (.lst xs') ∧ H' q = some (.lst ys) ∧ (ys ++ xs').Perm xs ∧ Pen H' p c (b + xs'.length) ∧ ExP H H')
      (fun σ' H' => match H' l with | some (.lst xs') => xs'.length | _ => 0) ?_ ?_ ?_
    · exact ⟨xs, [], rfl, by rw [upd_ne hlq, upd_same], upd_same, List.Perm.refl _, hp.same e0, ExP.of e0⟩
    · rintro σ' H' ⟨xs', ys, rfl, h1, h2, hpm, hp', e1⟩
      have hlen : ys.length + xs'.length = xs.length := by have := hpm.length_eq; rwa [List.length_append] at this
      refine ⟨_, rfl, ⟨by show 0 ≤ sizeLine; decide, fun t ht => ⟨l, t, xs', rfl, rfl, SqL.of (by rw [upd_ne (ne_of_none h1 ht)]; exact h1), SqL.of upd_same, _, rfl, ?_⟩⟩⟩
      have e2 : Same H' (upd H' t (.lst [])) := same_new ht
      refine ite2 (fun hne => ?_) (fun hne => ?_)
      · have hpos : 0 < xs'.length := by
          cases xs' with
          | nil => simp at hne
          | cons _ _ => simp
        refine ⟨_, rfl, .inl ⟨rfl, _, SqL.of (e2 _ _ h2)⟩, _, rfl, .inl ⟨rfl, _, SqL.of (e2 _ _ h1)⟩, _, rfl, _, rfl, l, _, rfl, .inl (SqL.of (e2 _ _ h1)), p, c, _, b + xs'.length - 1, rfl, by omega, by omega, ?_, fun r H3 h0 hr1 hp3 e3 => ?_⟩
        · exact (hp'.same e2).mono (by omega)
        · have h13 := e3.at (e2 _ _ h1) lst_ne_pen
          have h23 := e3.at (e2 _ _ h2) lst_ne_pen
          obtain ⟨j, rfl⟩ := Int.eq_ofNat_of_zero_le h0
          have hj : j < xs'.length := by omega
          refine ⟨l, xs', (j : Int), j, xs'[j], rfl, rfl, h13, by omega, by omega, seqIndex_nat hj, List.getElem?_eq_getElem hj, ?_⟩
          refine ⟨q, ys, _, rfl, rfl, by rw [upd_ne (Ne.symm hlq)]; exact h23, sz_lt (by omega), ?_⟩
          have hl' : (upd (upd H3 l (.lst (xs'.eraseIdx j))) q (.lst (ys ++ [xs'[j]]))) l = some (.lst (xs'.eraseIdx j)) := by rw [upd_ne hlq, upd_same]
          have hle : (xs'.eraseIdx j).length = xs'.length - 1 := by rw [List.length_eraseIdx, if_pos hj]
          refine ⟨⟨xs'.eraseIdx j, ys ++ [xs'[j]], rfl, hl', upd_same, ?_, ?_, ?_⟩, ?_⟩
          · exact (perm_step ys xs' hj).trans hpm
          · exact ((hp3.chg hp hl0).chg hp hq0).mono (by rw [hle]; omega)
          · exact rel_exp.chg (rel_exp.chg ((e1.trans (ExP.of e2)).trans e3) hl0) hq0
          · rw [hl', h1]
            show (xs'.eraseIdx j).length < xs'.length
            omega
      · have hnil : xs' = [] := by
          cases xs' with
          | nil => rfl
          | cons _ _ => simp at hne
        subst hnil
        exact ⟨_, rfl, k q ys _ hq0 (e2 _ _ h2) (by simpa using hpm) ((hp'.same e2).mono (by simp)) (e1.trans (ExP.of e2))⟩
    · intro σ H Q Q' hq h
      obtain ⟨v, hv, h1, h2⟩ := h
      refine ⟨v, hv, h1, fun t ht => ?_⟩
      obtain ⟨a, b, xs, r1, r2, r3, r4, b, r5, r6⟩ := h2 t ht
      exact ⟨a, _, xs, r1, r2, r3, r4, b, r5, hq _ _ r6⟩
end
end Pf

set_option Elab.async false
set_option maxRecDepth 100000
set_option linter.all false
set_option maxHeartbeats 4000000
namespace Pf
open PySem L2 PySem.StrLaws
section
variable {P : Program} {w : World} {K : PySem.W.Frag} {mg : Str → Option Value} {base : Heap}
/-! ### the words, in plain Lean -/
/-- the 26 words of a stem -/
def wordsL (st : List Nat) (a f m : Nat) : List (List Nat) := (List.range 26).map fun k => st.take a ++ (97 + (f + m * k) % 26) :: st.drop a
def keepW (w : List Nat) : Bool := decide (w ≠ [109, 97, 105, 110]) && decide (w.take 2 ≠ [113, 113])
def wordsOf (st : List Nat) (a f m n : Nat) : List (List Nat) := ((wordsL st a f m).filter keepW).take n
structure Stem (st : List Nat) : Prop where
  let_ : ∀ d ∈ st, 97 ≤ d ∧ d ≤ 122
  len : st.length ≤ 7
  noq : st.take 2 ≠ [113, 113]
/-- the words that may come -/
def Words (n : Nat) (ws : List Str) : Prop := ∃ st a f m, Stem st ∧ a ≤ st.length ∧ f < 26 ∧ m ∈ [1, 3, 5, 7, 9, 11] ∧ ws = (wordsOf st a f m n).map SX.S
def spWords : Sp := fun vs H Q _ => ∃ (p c : Addr) (b n : Nat), vs = [.ref p, .int (n : Int)] ∧ n ≤ 100 ∧ Pen H p c (b + 12) ∧
  ∀ (q : Addr) (ws : List Str) (H' : Hp), H q = none → H' q = some (.lst (ws.map V.str)) → Words n ws → Pen H' p c b → ExP H H' → Q (.ref q) H'
abbrev Lt : Str := Str.ofString "abcdefghijklmnopqrstuvwxyz"
theorem lt_codes : Lt.cps.toList = (List.range 26).map (97 + ·) := by decide +kernel
theorem lt_mem {d : Nat} (h : d ∈ Lt.cps.toList) : 97 ≤ d ∧ d ≤ 122 := by
  rw [lt_codes] at h
  obtain ⟨k, hk, rfl⟩ := List.mem_map.mp h
  have := List.mem_range.mp hk
  omega
theorem lt_len : Lt.length = 26 := by decide +kernel
theorem lt_ne : Lt.cps.toList ≠ [] := by rw [lt_codes]; decide
theorem lt_at {k : Nat} (h : k < 26) : atI Lt.cps.toList (k : Int) = some (97 + k) := by
  refine atI_nat ?_
  rw [lt_codes, List.getElem?_map, List.getElem?_range h]
  rfl
theorem joinL_one : ∀ cs : List Nat, TL.joinL [] (cs.map fun d => [d]) = cs
  | [] => rfl
  | [d] => rfl
  | d :: e :: r => by
    have ih := joinL_one (e :: r)
    simp only [List.map_cons, TL.joinL] at ih ⊢
    rw [ih]
    rfl
theorem join_cs (cs : List Nat) : Txt.join (Str.ofString "") (cs.map fun d => (⟨#[d]⟩ : Str)) = SX.S cs := by
  have e := SX.join_S [] (cs.map fun d => [d])
  rw [joinL_one, List.map_map] at e
  exact e
theorem sum_one : ∀ cs : List Nat, ((cs.map fun d => (⟨#[d]⟩ : Str)).map (·.length)).sum = cs.length
  | [] => rfl
  | d :: r => by
    simp only [List.map_cons, List.sum_cons, sum_one r, List.length_cons]
    show 1 + r.length = r.length + 1
    omega
/-- what replace leaves of a stem -/
theorem repl_stem (cs : List Nat) (h : ∀ d ∈ cs, 97 ≤ d ∧ d ≤ 122) : ∀ n, cs.length ≤ n → (∀ d ∈ replL [113, 113] [113, 122] cs, 97 ≤ d ∧ d ≤ 122) ∧ (replL [113, 113] [113, 122] cs).length = cs.length ∧ (replL [113, 113] [113, 122] cs).take 2 ≠ [113, 113] ∧ ((replL [113, 113] [113, 122] cs).head? = cs.head?) := by
  intro n
  induction n generalizing cs with
  | zero =>
    intro hl
    have e : cs = [] := List.length_eq_zero_iff.mp (by omega)
    subst e
    rw [replL_nil]
    exact ⟨(by simp), rfl, (by decide), rfl⟩
  | succ n ih =>
    intro hl
    cases cs with
    | nil => rw [replL_nil]; exact ⟨(by simp), rfl, (by decide), rfl⟩
    | cons c r =>
      by_cases hit : (c :: r).take [113, 113].length = [113, 113]
      · rw [replL_hit (by decide) hit]
        cases r with
        | nil => simp at hit
        | cons c2 r =>
          have hc : c = 113 ∧ c2 = 113 := by simpa using hit
          obtain ⟨rfl, rfl⟩ := hc
          have hd : (113 :: 113 :: r).drop [113, 113].length = r := rfl
          rw [hd]
          obtain ⟨a1, a2, a3, a4⟩ := ih r (fun d hd => h d (List.mem_cons_of_mem _ (List.mem_cons_of_mem _ hd))) (by simp at hl; omega)
          refine ⟨fun d hd => ?_, by simp [a2], by simp, by simp⟩
          rcases List.mem_append.mp hd with hd | hd
          · simp at hd; omega
          · exact a1 d hd
      · rw [replL_miss hit]
        obtain ⟨a1, a2, a3, a4⟩ := ih r (fun d hd => h d (List.mem_cons_of_mem _ hd)) (by simp at hl; omega)
        refine ⟨fun d hd => ?_, by simp [a2], ?_, by simp⟩
        · rcases List.mem_cons.mp hd with rfl | hd
          · exact h _ List.mem_cons_self
          · exact a1 d hd
        · intro e
          cases hr : replL [113, 113] [113, 122] r with
          | nil => rw [hr] at e; simp at e
          | cons x y =>
            rw [hr] at e a4
            have e' : c = 113 ∧ x = 113 := by simpa using e
            cases r with
            | nil => simp at a4
            | cons z w =>
              have : x = z := by simpa using a4
              apply hit
              simp [e'.1, ← this, e'.2]
theorem stem_of {cs : List Nat} (h : ∀ d ∈ cs, 97 ≤ d ∧ d ≤ 122) (hl : cs.length ≤ 7) : ∃ st, Txt.replace (SX.S cs) (Str.ofString "qq") (Str.ofString "qz") = SX.S st ∧ Stem st := by
  have e := replace_list (x := SX.S cs) (y := Str.ofString "qq") (z := Str.ofString "qz") (by decide +kernel)
  have ey : (Str.ofString "qq").cps.toList = [113, 113] := by decide +kernel
  have ez : (Str.ofString "qz").cps.toList = [113, 122] := by decide +kernel
  rw [ey, ez] at e
  obtain ⟨a1, a2, a3, _⟩ := repl_stem cs h cs.length (Nat.le_refl _)
  refine ⟨replL [113, 113] [113, 122] cs, ?_, a1, by rw [a2]; exact hl, a3⟩
  have e' : (Txt.replace (SX.S cs) (Str.ofString "qq") (Str.ofString "qz")).cps.toList = replL [113, 113] [113, 122] cs := e
  rw [← e']
abbrev s_L_word_list : Stmt := top 29
theorem sc_L_word_list : FnScope ["_law_pen", "_law_many", "_law_letters", "_law_stem", "_law_tails", "_law_words", "_law_at", "_law_first", "_law_more", "_law_k", "_law_tail", "_law_word"] ["_law_pen", "_law_many"] (defScope s_L_word_list) := ⟨rfl, rfl, rfl, by decide +kernel, rfl, by decide +kernel, by decide +kernel⟩
theorem ok_words {f : Addr} {fd : FuncData} (F : Fun K "_law_word_list" "_law_word_list" s_L_word_list f fd) (B : Bi mg) (C__law_draw : C8.Cal P w K mg base 1 "_law_draw" spDraw []) (C__law_pick : C8.Cal P w K mg base 2 "_law_pick" (spPick K) []) : FnOk P w K mg base CX0 3 f fd ["_law_pen", "_law_many"] spWords := by
  refine F.ok sc_L_word_list (fun vs H Q E h => ?_) (fun cdv A outer s H vs Q E hr h => ?_)
  · obtain ⟨p, c, b, n, rfl, _⟩ := h
    rfl
  · obtain ⟨p, c, b, n, rfl, hn, hp, k⟩ := h
    have hu := hu_of hr
    refine ⟨_, (pss_str (i := 2) sc_L_word_list.nd rfl (Or.inr rfl)
      (psst_cons (PST.of (ps_set (i := 3) sc_L_word_list.nd rfl (Or.inr rfl) (pe_join pe_str (pe_lc (own := [("_law_k", 9)]) (g := gName 9) (by rfl) sc_L_word_list.nd (pi_range1 (by rfl) B.range (pa_cons (C8.pe_c C__law_draw hr (by decide) (by rfl) (pa_cons (pv 0) (pa_cons pe_int pa_nil))) pa_nil)) (blkOk_by (own := [("_law_k", 9)]) (N := ["_law_pen", "_law_many", "_law_letters", "_law_stem", "_law_tails", "_law_words", "_law_at", "_law_first", "_law_more", "_law_k", "_law_tail", "_law_word"]) (sc := defScope s_L_word_list) (by decide +kernel)) (fun _ _ _ _ _ => (pg_name (i := 9) sc_L_word_list.nd rfl (Or.inl rfl))) (fun _ _ _ _ _ => pts_nil) (fun _ _ _ _ _ => (C8.pe_c C__law_pick hr (by decide) (by rfl) (pa_cons (pv 0) (pa_cons (pv 2) pa_nil))))))))
      (psst_cons (pst_set (i := 3) sc_L_word_list.nd rfl (Or.inr rfl) (CwR.pet_replC (pv 3)))
      (PSsT.of (pss_cons (ps_asg (pe_tup (pa_cons (C8.pe_c C__law_draw hr (by decide) (by rfl) (pa_cons (pv 0) (pa_cons (pe_op op_add (pe_callB call_len_str (by rfl) B.len PySem.boot_len (pa_cons (pv 3) pa_nil)) pe_int) pa_nil))) (pa_cons (C8.pe_c C__law_draw hr (by decide) (by rfl) (pa_cons (pv 0) (pa_cons pe_int pa_nil))) (pa_cons (C8.pe_c C__law_pick hr (by decide) (by rfl) (pa_cons (pv 0) (pa_cons (pe_lst (pa_cons pe_int (pa_cons pe_int (pa_cons pe_int (pa_cons pe_int (pa_cons pe_int (pa_cons pe_int pa_nil))))))) pa_nil))) pa_nil)))) (pg_tup rfl (pgs_cons (pg_name (i := 6) sc_L_word_list.nd rfl (Or.inr rfl)) (pgs_cons (pg_name (i := 7) sc_L_word_list.nd rfl (Or.inr rfl)) (pgs_cons (pg_name (i := 8) sc_L_word_list.nd rfl (Or.inr rfl)) pgs_nil)))))
      (pss_cons (ps_setLc (i := 4) (own := [("_law_k", 9)]) (g := gName 9) (by rfl) sc_L_word_list.nd rfl rfl (sw_true rfl rfl rfl (by decide +kernel)) (pi_range1 (by rfl) B.range (pa_cons pe_int pa_nil)) (blkOk_by (own := [("_law_k", 9)]) (N := ["_law_pen", "_law_many", "_law_letters", "_law_stem", "_law_tails", "_law_words", "_law_at", "_law_first", "_law_more", "_law_k", "_law_tail", "_law_word"]) (sc := defScope s_L_word_list) (by decide +kernel)) (fun _ _ _ _ _ => (pg_name (i := 9) sc_L_word_list.nd rfl (Or.inl rfl))) (fun _ _ _ _ _ => pts_nil) (fun _ _ _ _ _ => (pe_op op_add_str (pe_ix ix_str (pv 2) (pe_op op_mod (pe_callTy call_int1 (by rfl) B.int (by decide +kernel) (pa_cons (pe_op op_add (pv 7) (pe_op op_mul (pv 8) (pv 9))) pa_nil)) pe_int) (fun _ _ => rfl)) (pe_slice C8.sl_txt (pv 3) (po_some (pv 6)) po_none))))
      (pss_cons (ps_setLc (i := 5) (own := [("_law_tail", 10)]) (g := gName 10) (by rfl) sc_L_word_list.nd rfl rfl (sw_true rfl rfl rfl (by decide +kernel)) (pi_list (pv 4)) (blkOk_by (own := [("_law_tail", 10)]) (N := ["_law_pen", "_law_many", "_law_letters", "_law_stem", "_law_tails", "_law_words", "_law_at", "_law_first", "_law_more", "_law_k", "_law_tail", "_law_word"]) (sc := defScope s_L_word_list) (by decide +kernel)) (fun _ _ _ _ _ => (pg_name (i := 10) sc_L_word_list.nd rfl (Or.inl rfl))) (fun _ _ _ _ _ => pts_nil) (fun _ _ _ _ _ => (pe_op op_add_str (pe_slice C8.sl_txt (pv 3) po_none (po_some (pv 6))) (pv 10))))
      (pss_one (ps_ret (pe_slice sl_list (pe_lc (own := [("_law_word", 11)]) (g := gName 11) (by rfl) sc_L_word_list.nd (pi_list (pv 5)) (blkOk_by (own := [("_law_word", 11)]) (N := ["_law_pen", "_law_many", "_law_letters", "_law_stem", "_law_tails", "_law_words", "_law_at", "_law_first", "_law_more", "_law_k", "_law_tail", "_law_word"]) (sc := defScope s_L_word_list) (by decide +kernel)) (fun _ _ _ _ _ => (pg_name (i := 11) sc_L_word_list.nd rfl (Or.inl rfl))) (fun _ _ _ _ _ => (pts_one (PW.pt (pw_and (pt_cmpR op_ne (pv 11) pe_str (nomark _)) (pw_and1 (pt_cmpR op_ne (pe_slice C8.sl_txt (pv 11) po_none (po_some pe_int)) pe_str (nomark _))))))) (fun _ _ _ _ _ => (pv 11))) po_none (po_some (pv 1)))))))))))), ?_⟩
    refine ⟨⟨_, rfl⟩, _, rfl, p, c, 8, b + 11, rfl, by decide, by decide, hp, fun r H1 h0 h1 hp1 e1 => ⟨r, rfl, by omega, by omega, fun D hD => ?_⟩⟩
    obtain ⟨N, rfl⟩ := Int.eq_ofNat_of_zero_le h0
    have hN : N ≤ 7 := by omega
    refine lc_gen (n := N) walk_range rel_exp hD (by omega) (fun i ys H' => Pen H' p c (b + 4 + (7 - i)) ∧ ∃ cs : List Nat, ys = cs.map (fun d => V.str ⟨#[d]⟩) ∧ cs.length = i ∧ ∀ d ∈ cs, 97 ≤ d ∧ d ≤ 122)
      ⟨(hp1.chg hp1 hD).mono (by omega), [], rfl, rfl, by simp⟩ (fun _ _ _ _ _ => trivial) (fun i ys zs H' o l _ hs => ⟨hs.1.chg hp1 hD, hs.2⟩) ?_ ?_
    · rintro i x ys H2 H2' hi l2 hD2 ⟨hp2, cs, rfl, hcl, hcs⟩ ⟨rfl, rfl⟩ K1 K0 k1 k0
      refine ⟨rfl, yes_of ?_⟩
      refine ⟨_, rfl, _, rfl, p, c, b + 4 + (7 - (i + 1)), _, rfl, hp2.mono (by omega), .inr ⟨Lt, rfl, lt_ne, by rw [lt_len]; decide, fun d H3 hd hp3 e3 => ?_⟩⟩
      refine k1 _ _ e3 ⟨hp3, cs ++ [d], by simp, by simp [hcl], fun y hy => ?_⟩
      rcases List.mem_append.mp hy with hy | hy
      · exact hcs y hy
      · rw [List.mem_singleton.mp hy]; exact lt_mem hd
    rintro ys H2 l2 hyl hD2 ⟨hp2, cs, rfl, hcl, hcs⟩
    have e2 : ExP H H2 := e1.trans l2
    refine ⟨_, D, cs.map (fun d => (⟨#[d]⟩ : Str)), rfl, rfl, .inl (SqL.of (by rw [hD2, List.map_map]; rfl)), ?_, ?_⟩
    · rw [sum_one]
      have : (Str.ofString "").length = 0 := by decide +kernel
      rw [this, List.length_map]
      omega
    rw [join_cs]
    obtain ⟨st, hst, hS⟩ := stem_of hcs (by omega)
    refine ⟨_, rfl, _, rfl, ?_, ?_⟩
    · have : (Str.ofString "qz").length = 2 := by decide +kernel
      rw [this, SX.S_len]
      omega
    rw [hst]
    refine ⟨_, rfl, _, rfl, _, rfl, sz_le (by rw [SX.S_len]; have := hS.len; omega), _, _, rfl, rfl, p, c, _, b + 3, rfl, by rw [SX.S_len]; omega, by rw [SX.S_len]; have := hS.len; omega, hp2.mono (by omega), fun at_ H3 ha0 ha1 hp3 e3 => ?_⟩
    refine ⟨_, rfl, p, c, 26, b + 2, rfl, by decide, by decide, hp3.mono (by omega), fun fi H4 hf0 hf1 hp4 e4 => ?_⟩
    refine ⟨_, rfl, ⟨by show 6 ≤ sizeLine; decide, fun t ht => ?_⟩⟩
    have e5 := same_new (o := .lst [V.int 1, .int 3, .int 5, .int 7, .int 9, .int 11]) ht
    refine ⟨p, c, b, _, rfl, (hp4.same e5).mono (by omega), .inl ⟨t, _, rfl, SqL.of upd_same, by simp, by simp, fun mo H6 hmo hp6 e6 => ⟨by show 3 ≤ sizeLine; decide, fun u hu6 => ?_⟩⟩⟩
    obtain ⟨at_, rfl⟩ := Int.eq_ofNat_of_zero_le ha0
    obtain ⟨fi, rfl⟩ := Int.eq_ofNat_of_zero_le hf0
    have hat : at_ ≤ st.length := by rw [SX.S_len] at ha1; omega
    have hm : ∃ m : Nat, mo = .int (m : Int) ∧ m ∈ [1, 3, 5, 7, 9, 11] := by
      simp only [List.mem_cons, List.not_mem_nil, or_false] at hmo
      rcases hmo with rfl | rfl | rfl | rfl | rfl | rfl
      · exact ⟨1, rfl, by decide⟩
      · exact ⟨3, rfl, by decide⟩
      · exact ⟨5, rfl, by decide⟩
      · exact ⟨7, rfl, by decide⟩
      · exact ⟨9, rfl, by decide⟩
      · exact ⟨11, rfl, by decide⟩
    obtain ⟨m, rfl, hm⟩ := hm
    have hm11 : m ≤ 11 := by
      simp only [List.mem_cons, List.not_mem_nil, or_false] at hm
      omega
    have e7 : ExP H (upd H6 u (.tup [.int (at_ : Int), .int (fi : Int), .int (m : Int)])) := (((e2.trans e3).trans e4).trans ((ExP.of e5).trans e6)).trans (ExP.of (same_new hu6))
    have hp7 := hp6.same (same_new (o := .tup [.int (at_ : Int), .int (fi : Int), .int (m : Int)]) hu6)
    refine ⟨u, _, rfl, SqT.of upd_same, rfl, _, _, rfl, _, _, rfl, _, _, rfl, rfl, ?_⟩
    generalize hH7 : upd H6 u (.tup [.int (at_ : Int), .int (fi : Int), .int (m : Int)]) = H7 at e7 hp7
    refine ⟨26, rfl, by decide, by decide, fun D1 hD1 => ?_⟩
    refine lc_map (n := 26) walk_rng (by simp) hD1 (by decide) (fun v => match v with | .int k => some (.str (SX.S ((97 + (fi + m * k.toNat) % 26) :: st.drop at_))) | _ => none) (fun _ _ => trivial) ?_ ?_
    · intro x hx H8 l8 K1 K0 k1 _
      obtain ⟨i, hi, rfl⟩ := List.mem_map.mp hx
      have hi26 := List.mem_range.mp hi
      have hmi : m * i ≤ 11 * 26 := Nat.mul_le_mul hm11 (Nat.le_of_lt hi26)
      have hix : ((fi : Int) + (m : Int) * (0 + (i : Int))) % 26 = (((fi + m * i) % 26 : Nat) : Int) := by
        rw [Int.zero_add, ← Int.natCast_mul, ← Int.natCast_add]
        exact (Int.natCast_emod _ 26).symm
      refine ⟨rfl, yes_of ?_⟩
      refine ⟨_, rfl, _, rfl, _, rfl, _, rfl, _, _, rfl, rfl, .inl ⟨by omega, by omega⟩, _, _, rfl, rfl, .inl ⟨_, rfl, _, _, rfl, rfl, (by show (0 : Int) < 26; decide), Lt, _, 97 + (fi + m * i) % 26, rfl, rfl, sz_le (by rw [lt_len]; decide), (by rw [hix]; exact lt_at (Nat.mod_lt _ (by decide))), ?_⟩⟩
      refine ⟨_, rfl, _, rfl, at_, rfl, _, rfl, sz_le (by rw [SX.S_len]; have := hS.len; omega), ?_⟩
      rw [SX.slice_from (by omega)]
      refine ⟨_, _, rfl, rfl, ?_, ?_⟩
      · have e1 : (SX.S (st.drop (at_ : Int).toNat)).length ≤ 7 := by rw [SX.S_len, List.length_drop]; have := hS.len; omega
        exact sz_le (by show 1 + _ ≤ _; omega)
      · have ec : ((⟨#[97 + (fi + m * i) % 26]⟩ : Str) ++ SX.S (st.drop at_)) = SX.S ((97 + (fi + m * i) % 26) :: st.drop at_) := SX.S_cat [97 + (fi + m * i) % 26] (st.drop at_)
        exact k1 _ H8 (by show some _ = some _; simp [ec]) (Same.refl _)
    intro H8 l8 hD8
    have hlist : ((List.range 26).map fun i => V.int (0 + (i : Nat))).filterMap (fun v => match v with | .int k => some (V.str (SX.S ((97 + (fi + m * k.toNat) % 26) :: st.drop at_))) | _ => none) = (List.range 26).map fun k => V.str (SX.S ((97 + (fi + m * k) % 26) :: st.drop at_)) := by
      rw [List.filterMap_map]
      rw [← List.filterMap_eq_map]
      congr 1
      funext k
      simp
    rw [hlist] at hD8
    have hxl : ((List.range 26).map fun k => V.str (SX.S ((97 + (fi + m * k) % 26) :: st.drop at_))).length = 26 := by simp
    refine ⟨_, rfl, D1, rfl, ⟨_, SqL.of hD8⟩, fun D2 hD2 => ?_⟩
    refine lc_map walk_list rfl hD2 (by rw [hxl]; decide) (fun v => match v with | .str z => some (.str (SX.S (st.take at_) ++ z)) | _ => none) (fun H l => SqL.of (l _ _ hD8)) ?_ ?_
    · intro x hx H9 l9 K1 K0 k1 _
      obtain ⟨i, hi, rfl⟩ := List.mem_map.mp hx
      refine ⟨rfl, yes_of ?_⟩
      refine ⟨_, rfl, _, rfl, at_, rfl, _, rfl, sz_le (by rw [SX.S_len]; have := hS.len; omega), ?_⟩
      rw [SX.slice_to (by omega)]
      refine ⟨_, rfl, _, _, rfl, rfl, ?_, k1 _ H9 (by show some _ = some _; simp) (Same.refl _)⟩
      have h7 := hS.len
      have e1 : (SX.S (st.take (at_ : Int).toNat)).length ≤ 7 := by rw [SX.S_len, List.length_take]; omega
      have e2 : (SX.S ((97 + (fi + m * i) % 26) :: st.drop at_)).length ≤ 8 := by rw [SX.S_len, List.length_cons, List.length_drop]; omega
      exact sz_le (by omega)
    intro H9 l9 hD9
    have hlist2 : ((List.range 26).map fun k => V.str (SX.S ((97 + (fi + m * k) % 26) :: st.drop at_))).filterMap (fun v => match v with | .str z => some (V.str (SX.S (st.take at_) ++ z)) | _ => none) = (wordsL st at_ fi m).map fun w => V.str (SX.S w) := by
      unfold wordsL
      rw [List.filterMap_map, List.map_map, ← List.filterMap_eq_map]
      congr 1
      funext k
      show some _ = some _
      rw [SX.S_cat]
      rfl
    rw [hlist2] at hD9
    have hwl : ((wordsL st at_ fi m).map fun w => V.str (SX.S w)).length = 26 := by simp [wordsL]
    refine ⟨_, rfl, D2, rfl, ⟨_, SqL.of hD9⟩, fun D3 hD3 => ?_⟩
    refine lc_map walk_list rfl hD3 (by rw [hwl]; decide) (fun v => match v with | .str z => if keepW z.cps.toList then some (.str z) else none | _ => none) (fun H l => SqL.of (l _ _ hD9)) ?_ ?_
    · intro x hx H10 l10 K1 K0 k1 k0
      obtain ⟨w, hw, rfl⟩ := List.mem_map.mp hx
      have hwlen : w.length ≤ 8 := by
        unfold wordsL at hw
        obtain ⟨i, _, rfl⟩ := List.mem_map.mp hw
        have h7 := hS.len
        rw [List.length_append, List.length_cons, List.length_take, List.length_drop]
        omega
      refine ⟨rfl, ?_⟩
      have em : Str.ofString "main" = SX.S [109, 97, 105, 110] := by decide +kernel
      have eq2 : Str.ofString "qq" = SX.S [113, 113] := by decide +kernel
      refine ⟨_, rfl, rfl, _, rfl, ?_⟩
      by_cases h1 : w = [109, 97, 105, 110]
      · refine iteF' (by rw [em]; simp [h1]) ?_
        refine iteF ?_
        exact k0 H10 (by show (if keepW w = true then _ else _) = _; rw [if_neg]; simp [keepW, h1]) (Same.refl _)
      · refine iteT' (by rw [em]; simp; intro h; exact h1 h) ?_
        refine ⟨_, rfl, 2, rfl, _, rfl, sz_le (by rw [SX.S_len]; omega), ?_⟩
        rw [SX.slice_to (by decide)]
        refine ⟨rfl, _, rfl, ?_⟩
        by_cases h2 : w.take 2 = [113, 113]
        · refine iteF' (by rw [eq2]; simp [h2]) ?_
          exact k0 H10 (by show (if keepW w = true then _ else _) = _; rw [if_neg]; simp [keepW, h2]) (Same.refl _)
        · refine iteT' (by rw [eq2]; simp; intro h; exact h2 h) ?_
          exact ⟨_, rfl, k1 _ H10 (by show (if keepW w = true then _ else _) = _; rw [if_pos]; simp [keepW, h1, h2]) (Same.refl _)⟩
    intro H10 l10 hD10
    have hlist3 : ((wordsL st at_ fi m).map fun w => V.str (SX.S w)).filterMap (fun v => match v with | .str z => if keepW z.cps.toList then some (V.str z) else none | _ => none) = ((wordsL st at_ fi m).filter keepW).map fun w => V.str (SX.S w) := by
      rw [List.filterMap_map, ← List.filterMap_eq_filter, List.map_filterMap]
      congr 1
      funext k
      show (if keepW k = true then some (V.str (SX.S k)) else none) = _
      by_cases hk : keepW k = true <;> simp [hk, Option.guard]
    rw [hlist3] at hD10
    refine ⟨_, rfl, n, rfl, D3, _, rfl, SqL.of hD10, fun q hq => ?_⟩
    have e8 : Same H7 (upd H10 q (.lst (cutV (((wordsL st at_ fi m).filter keepW).map fun w => V.str (SX.S w)) none (some (n : Int))))) := ((l8.trans l9).trans l10).trans (same_new hq)
    have hqH : H q = none := by
      have h9 : H7 q = none := ((l8.trans l9).trans l10).free hq
      exact e7.free h9
    refine k q ((wordsOf st at_ fi m n).map SX.S) _ hqH ?_ ⟨st, at_, fi, m, hS, hat, by omega, hm, rfl⟩ (hp7.same e8) (e7.trans (ExP.of e8))
    rw [upd_same, cut_to]
    unfold wordsOf
    rw [List.map_map, List.map_take]
    rfl
end
end Pf

set_option Elab.async false
set_option maxRecDepth 100000
set_option linter.all false
set_option maxHeartbeats 4000000
namespace Pf
open PySem L2
/-! ### rows of levels -/
abbrev Row := List (Str × Str)
def rowKV (r : Row) : List (Key × V) := r.map fun p => (Sum.inr p.1, V.str p.2)
theorem row_np (r : Row) (c : Addr) (x y : Int) : HO.dK (rowKV r) ≠ penO c x y := fun h => by
  have h' : rowKV r = penKV c x y := by injection h
  cases r with
  | nil => cases h'
  | cons p r =>
    have e : (Sum.inr p.1, V.str p.2) = ((kt "cells", V.ref c) : Key × V) := by
      unfold rowKV at h'
      injection h'
    injection e with _ e
    cases e
theorem putK_fresh : ∀ (kvs : List (Key × V)) (k : Key) (v : V), k ∉ kvs.map Prod.fst → putK kvs k v = kvs ++ [(k, v)] := fun kvs k v h => by
  refine putK_new v ?_
  cases e : valV kvs k with
  | none => rfl
  | some z =>
    have : (kvs.any fun kv => decide (kv.1 = k)) = true := by rw [valV_any, e]; rfl
    obtain ⟨kv, hk, hd⟩ := List.any_eq_true.mp this
    exact absurd (List.mem_map.mpr ⟨kv, hk, of_decide_eq_true hd⟩) h
theorem merge_fresh : ∀ (more kvs : List (Key × V)), ((kvs ++ more).map Prod.fst).Nodup → mergeK kvs more = kvs ++ more
  | [], kvs, _ => by simp [mergeK]
  | p :: r, kvs, h => by
    have h1 : p.1 ∉ kvs.map Prod.fst := by
      rw [List.map_append, List.map_cons] at h
      have := (List.nodup_append.mp h).2.2
      intro hm
      exact this _ hm _ List.mem_cons_self rfl
    show mergeK (putK kvs p.1 p.2) r = _
    rw [putK_fresh _ _ _ h1, merge_fresh r _ (by simpa using h)]
    simp
theorem rowKV_keys (r : Row) : (rowKV r).map Prod.fst = (r.map Prod.fst).map Sum.inr := by
  unfold rowKV
  rw [List.map_map, List.map_map]
  rfl
theorem inr_nodup {ws : List Str} (h : ws.Nodup) : (ws.map (Sum.inr : Str → Key)).Nodup := by
  refine List.Pairwise.map _ (fun a b hab e => hab ?_) h
  exact Sum.inr.inj e
def spLevels (K : PySem.W.Frag) : Sp := fun vs H Q _ => ∃ (p c wa la : Addr) (b : Nat) (ws ls : List Str), vs = [.ref p, .ref wa, .ref la] ∧ SqL K H wa (ws.map V.str) ∧ ws.Nodup ∧ ws.length ≤ 100 ∧ SqL K H la (ls.map V.str) ∧ ls ≠ [] ∧ ls.length ≤ 100 ∧ Pen H p c (b + ws.length) ∧
  ∀ (q : Addr) (r : Row) (H' : Hp), H q = none → H' q = some (.dK (rowKV r)) → r.map Prod.fst = ws → (∀ x ∈ r, x.2 ∈ ls) → Pen H' p c b → ExP H H' → Q (.ref q) H'
section
variable {P : Program} {w : World} {K : PySem.W.Frag} {mg : Str → Option Value} {base : Heap}
abbrev s_L_levels : Stmt := top 30
theorem sc_L_levels : FnScope ["_law_pen", "_law_words", "_law_levels_here", "_law_word"] ["_law_pen", "_law_words", "_law_levels_here"] (defScope s_L_levels) := ⟨rfl, rfl, rfl, by decide +kernel, rfl, by decide +kernel, by decide +kernel⟩
theorem ok_levels {f : Addr} {fd : FuncData} (F : Fun K "_law_levels" "_law_levels" s_L_levels f fd) (B : Bi mg) (C__law_pick : C8.Cal P w K mg base 2 "_law_pick" (spPick K) []) : FnOk P w K mg base CX0 3 f fd ["_law_pen", "_law_words", "_law_levels_here"] (spLevels K) := by
  refine F.ok sc_L_levels (fun vs H Q E h => ?_) (fun cdv A outer s H vs Q E hr h => ?_)
  · obtain ⟨p, c, wa, la, b, ws, ls, rfl, _⟩ := h
    rfl
  · obtain ⟨p, c, wa, la, b, ws, ls, rfl, hwa, hnd, hwl, hla, hne, hll, hp, k⟩ := h
    have hu := hu_of hr
    refine ⟨_, (pss_one (ps_ret (pe_callTy (call_dictP rfl) (by rfl) B.dict (by decide +kernel) (pa_cons (pe_lc (own := [("_law_word", 3)]) (g := gName 3) (by rfl) sc_L_levels.nd (pi_list (pv 1)) (blkOk_by (own := [("_law_word", 3)]) (N := ["_law_pen", "_law_words", "_law_levels_here", "_law_word"]) (sc := defScope s_L_levels) (by decide +kernel)) (fun _ _ _ _ _ => (pg_name (i := 3) sc_L_levels.nd rfl (Or.inl rfl))) (fun _ _ _ _ _ => pts_nil) (fun _ _ _ _ _ => (pe_tup (pa_cons (pv 3) (pa_cons (C8.pe_c C__law_pick hr (by decide) (by rfl) (pa_cons (pv 0) (pa_cons (pv 2) pa_nil))) pa_nil))))) pa_nil)))), ?_⟩
    refine ⟨_, rfl, wa, rfl, ⟨_, hwa⟩, fun D hD => ?_⟩
    refine lc_gen walk_list rel_exp hD (by simp; omega) (fun i ys H' => Pen H' p c (b + (ws.length - i)) ∧ ∃ (ps : List Addr) (r : Row), ys = ps.map V.ref ∧ r.map Prod.fst = ws.take i ∧ (∀ x ∈ r, x.2 ∈ ls) ∧ Paired (fun a x => H' a = some (.tup [.str x.1, .str x.2])) ps r)
      ⟨(hp.chg hp hD).mono (by omega), [], [], rfl, rfl, by simp, .nil⟩ (fun i ys H' l _ => exp_sql l hwa) ?_ ?_ ?_
    · rintro i ys zs H' o l hz ⟨hp', ps, r, e1, e2, e3, e4⟩
      exact ⟨hp'.chg hp hD, ps, r, e1, e2, e3, Paired.mapP e4 fun a x h => by rw [upd_ne (ne_of h hz (by intro z; cases z))]; exact h⟩
    · rintro i x ys H2 H2' hi l2 hD2 ⟨hp2, ps, r, rfl, hr1, hr2, hpr⟩ ⟨rfl, hxi⟩ K1 K0 k1 k0
      have hi' : i < ws.length := by simpa using hi
      have hx : x = .str ws[i] := by
        rw [List.getElem?_map, List.getElem?_eq_getElem hi'] at hxi
        exact (Option.some.inj hxi).symm
      subst hx
      refine ⟨rfl, yes_of ?_⟩
      refine ⟨_, rfl, _, rfl, _, rfl, p, c, b + (ws.length - (i + 1)), _, rfl, hp2.mono (by omega), .inl ⟨la, _, rfl, exp_sql l2 hla, by simpa using hne, by simp; omega, fun v H3 hv hp3 e3 => ⟨by show 2 ≤ sizeLine; decide, fun t ht => ?_⟩⟩⟩
      obtain ⟨lv, hlv, rfl⟩ := List.mem_map.mp hv
      refine k1 _ _ (e3.trans (ExP.of (same_new ht))) ⟨hp3.same (same_new ht), ps ++ [t], r ++ [(ws[i], lv)], by simp, ?_, ?_, ?_⟩
      · rw [List.map_append, hr1, List.take_succ, List.getElem?_eq_getElem hi']
        rfl
      · intro y hy
        rcases List.mem_append.mp hy with hy | hy
        · exact hr2 y hy
        · rw [List.mem_singleton.mp hy]; exact hlv
      · refine paired_snoc (Paired.mapP hpr fun a x h => ?_) upd_same
        exact same_new ht _ _ (e3.at h tup_ne_pen)
    rintro ys H2 l2 hyl hD2 ⟨hp2, ps, r, rfl, hr1, hr2, hpr⟩
    have hr1' : r.map Prod.fst = ws := by rw [hr1]; simp
    refine ⟨D, ps, rowKV r, rfl, SqL.of hD2, ?_, fun q hq => ?_⟩
    · refine paired_map_r _ (Paired.mapP hpr fun a x h => SqT.of h)
    · rw [merge_fresh _ [] (by rw [List.nil_append, rowKV_keys, hr1']; exact inr_nodup hnd), List.nil_append]
      exact k q r _ (l2.free hq) upd_same hr1' hr2 ((hp2.same (same_new hq)).mono (by omega)) (l2.trans (ExP.of (same_new hq)))
end
end Pf

set_option Elab.async false
set_option maxRecDepth 100000
set_option linter.all false
set_option maxHeartbeats 4000000
namespace Pf
open PySem L2
/-! ### outcomes with rows -/
abbrev Fin := List (Str × Row)
def FinKV (H : Hp) : List (Key × V) → Fin → Prop := Paired fun kv p => kv.1 = Sum.inr p.1 ∧ ∃ a, kv.2 = .ref a ∧ H a = some (.dK (rowKV p.2))
def FinAt (H : Hp) (fa : Addr) (F : Fin) : Prop := ∃ kvs, H fa = some (.dK kvs) ∧ FinKV H kvs F
theorem fin_np {H : Hp} {kvs : List (Key × V)} {F : Fin} (h : FinKV H kvs F) (c : Addr) (x y : Int) : HO.dK kvs ≠ penO c x y := fun e => by
  have e' : kvs = penKV c x y := by injection e
  subst e'
  cases h with
  | cons _ t =>
    cases t with
    | cons h _ =>
      obtain ⟨_, a, h, _⟩ := h
      cases h
theorem FinKV.exp {H H' : Hp} {kvs : List (Key × V)} {F : Fin} (h : FinKV H kvs F) (e : ExP H H') : FinKV H' kvs F := Paired.mapP h fun kv p ⟨h1, a, h2, h3⟩ => ⟨h1, a, h2, e.at h3 (row_np _)⟩
theorem FinAt.exp {H H' : Hp} {fa : Addr} {F : Fin} (h : FinAt H fa F) (e : ExP H H') : FinAt H' fa F := by
  obtain ⟨kvs, h1, h2⟩ := h
  exact ⟨kvs, e.at h1 (fin_np h2), h2.exp e⟩
theorem fin_apart {H : Hp} {kvs : List (Key × V)} {F : Fin} {fa : Addr} (h : FinKV H kvs F) (hf : H fa = some (.dK kvs)) : Paired (fun (kv : Key × V) (p : Str × Row) => kv.1 = Sum.inr p.1 ∧ ∃ a, kv.2 = .ref a ∧ a ≠ fa ∧ H a = some (.dK (rowKV p.2))) kvs F := by
  have main : ∀ {l : List (Key × V)} {G : Fin}, FinKV H l G → (∀ kv ∈ l, kv ∈ kvs) → Paired (fun (kv : Key × V) (p : Str × Row) => kv.1 = Sum.inr p.1 ∧ ∃ a, kv.2 = .ref a ∧ a ≠ fa ∧ H a = some (.dK (rowKV p.2))) l G := by
    intro l G hl
    induction hl with
    | nil => intro _; exact .nil
    | @cons kv p l G r _ ih =>
      intro hm
      refine .cons ?_ (ih fun z hz => hm z (List.mem_cons_of_mem _ hz))
      obtain ⟨h1, a, h2, h3⟩ := r
      refine ⟨h1, a, h2, ?_, h3⟩
      rintro rfl
      rw [hf] at h3
      have e : kvs = rowKV p.2 := by injection h3 with h3; injection h3
      have := hm kv List.mem_cons_self
      rw [e] at this
      obtain ⟨z, _, e2⟩ := List.mem_map.mp this
      rw [← e2] at h2
      cases h2
  exact main h fun _ h => h
theorem FinKV.keys {H : Hp} {kvs : List (Key × V)} {F : Fin} (h : FinKV H kvs F) : kvs.map Prod.fst = (F.map Prod.fst).map Sum.inr := by
  induction h with
  | nil => rfl
  | cons r _ ih => rw [List.map_cons, List.map_cons, List.map_cons, ih, r.1]
theorem FinKV.same {H H' : Hp} {kvs : List (Key × V)} {F : Fin} (h : FinKV H kvs F) (e : Same H H') : FinKV H' kvs F := h.exp (ExP.of e)
def outs : List Str := ["done", "fail a", "fail b", "fail done"]
def ends : List Str := ["set", "keep", "unset"]
def reads : List Str := ["none", "entry", "always"]
structure Ok (ws : List Str) (F : Fin) (r : Row) : Prop where
  fk : (F.map Prod.fst).Nodup
  fo : ∀ x ∈ F, x.1 ∈ outs
  fr : ∀ x ∈ F, x.2.map Prod.fst = ws ∧ ∀ y ∈ x.2, y.2 ∈ ends
  rr : r.map Prod.fst = ws ∧ ∀ y ∈ r, y.2 ∈ reads
def PlainAt (H : Hp) (v : V) (F : Fin) (r : Row) : Prop := ∃ t fa ra, v = .ref t ∧ H t = some (.tup [.ref fa, .ref ra]) ∧ FinAt H fa F ∧ H ra = some (.dK (rowKV r))
theorem PlainAt.exp {H H' : Hp} {v : V} {F : Fin} {r : Row} (h : PlainAt H v F r) (e : ExP H H') : PlainAt H' v F r := by
  obtain ⟨t, fa, ra, h1, h2, h3, h4⟩ := h
  exact ⟨t, fa, ra, h1, e.at h2 tup_ne_pen, h3.exp e, e.at h4 (row_np _)⟩
def toS : V → Str
  | .str z => z
  | _ => Str.empty
theorem perm_strs {ys : List V} {os : List Str} (h : ys.Perm (os.map V.str)) : ∃ zs : List Str, zs.Perm os ∧ ys = zs.map V.str := by
  refine ⟨ys.map toS, ?_, ?_⟩
  · have := h.map toS
    rw [List.map_map] at this
    have e : os.map (toS ∘ V.str) = os := by
      rw [show (toS ∘ V.str) = id from rfl, List.map_id]
    rwa [e] at this
  · rw [List.map_map]
    have : ∀ y ∈ ys, y = (V.str ∘ toS) y := fun y hy => by
      obtain ⟨z, _, rfl⟩ := List.mem_map.mp (h.mem_iff.mp hy)
      rfl
    conv => lhs; rw [← List.map_id ys]
    exact List.map_congr_left fun y hy => this y hy
def spDrawn (K : PySem.W.Frag) : Sp := fun vs H Q _ => ∃ (p c wa : Addr) (b : Nat) (ws : List Str), vs = [.ref p, .ref wa] ∧ SqL K H wa (ws.map V.str) ∧ ws.Nodup ∧ ws.length ≤ 10 ∧ Pen H p c (b + 100) ∧
  ∀ (v : V) (F : Fin) (r : Row) (H' : Hp), PlainAt H' v F r → Ok ws F r → F.length ≤ 3 → Pen H' p c b → ExP H H' → Q v H'
section
variable {P : Program} {w : World} {K : PySem.W.Frag} {mg : Str → Option Value} {base : Heap}
abbrev s_L_drawn_profile : Stmt := top 31
theorem sc_L_drawn_profile : FnScope ["_law_pen", "_law_words", "_law_finals", "_law_outcome"] ["_law_pen", "_law_words"] (defScope s_L_drawn_profile) := ⟨rfl, rfl, rfl, by decide +kernel, rfl, by decide +kernel, by decide +kernel⟩
theorem ok_drawn {f : Addr} {fd : FuncData} (F : Fun K "_law_drawn_profile" "_law_drawn_profile" s_L_drawn_profile f fd) (B : Bi mg) (C__law_draw : C8.Cal P w K mg base 1 "_law_draw" spDraw []) (C__law_shuffled : C8.Cal P w K mg base 2 "_law_shuffled" (spShuf K) []) (C__law_levels : C8.Cal P w K mg base 3 "_law_levels" (spLevels K) []) : FnOk P w K mg base CX0 4 f fd ["_law_pen", "_law_words"] (spDrawn K) := by
  refine F.ok sc_L_drawn_profile (fun vs H Q E h => ?_) (fun cdv A outer s H vs Q E hr h => ?_)
  · obtain ⟨p, c, wa, b, ws, rfl, _⟩ := h
    rfl
  · obtain ⟨p, c, wa, b, ws, rfl, hwa, hnd, hwl, hp, k⟩ := h
    have hu := hu_of hr
    refine ⟨_, (pss_cons (ps_set (i := 2) sc_L_drawn_profile.nd rfl (Or.inl rfl) pe_dnewK)
      (pss_cons (ps_for PassesOwn.never rfl (pi_list (pe_slice sl_list (C8.pe_c C__law_shuffled hr (by decide) (by rfl) (pa_cons (pv 0) (pa_cons (pe_lst (pa_cons pe_str (pa_cons pe_str (pa_cons pe_str (pa_cons pe_str pa_nil))))) pa_nil))) po_none (po_some (C8.pe_c C__law_draw hr (by decide) (by rfl) (pa_cons (pv 0) (pa_cons pe_int pa_nil)))))) (pg_name (i := 3) sc_L_drawn_profile.nd rfl (Or.inl rfl))
        (pss_one (ps_dput hu (pv 2) (pv 3) (C8.pe_c C__law_levels hr (by decide) (by rfl) (pa_cons (pv 0) (pa_cons (pv 1) (pa_cons (pe_lst (pa_cons pe_str (pa_cons pe_str (pa_cons pe_str pa_nil)))) pa_nil)))) rfl)))
      (pss_one (ps_ret (pe_tup (pa_cons (pv 2) (pa_cons (C8.pe_c C__law_levels hr (by decide) (by rfl) (pa_cons (pv 0) (pa_cons (pv 1) (pa_cons (pe_lst (pa_cons pe_str (pa_cons pe_str (pa_cons pe_str pa_nil)))) pa_nil)))) pa_nil))))))), ?_⟩
    intro fa hfa
    have e0 : Same H (upd H fa (.dK [])) := same_new hfa
    refine ⟨_, rfl, ⟨by show 4 ≤ sizeLine; decide, fun l hl => ?_⟩⟩
    have e1 := e0.trans (same_new (o := .lst (outs.map V.str)) hl)
    have hfl : fa ≠ l := by rintro rfl; rw [upd_same] at hl; cases hl
    refine ⟨p, c, l, b + 96, outs.map V.str, rfl, SqL.of upd_same, by decide, hp.same e1, fun q ys H2 hq hq2 hpm hp2 e2 => ?_⟩
    obtain ⟨os, hos, rfl⟩ := perm_strs hpm
    have hfa2 : H2 fa = some (.dK []) := e2.at (by rw [upd_ne hfl, upd_same]) (row_np [])
    refine ⟨_, rfl, p, c, 4, b + 95, rfl, by decide, by decide, hp2, fun n H3 hn0 hn1 hp3 e3 => ?_⟩
    obtain ⟨n, rfl⟩ := Int.eq_ofNat_of_zero_le hn0
    have hq3 := e3.at hq2 lst_ne_pen
    refine ⟨n, rfl, q, _, rfl, SqL.of hq3, fun q4 hq4 => ⟨q4, rfl, ⟨_, SqL.of upd_same⟩, ?_⟩⟩
    rw [cut_to, ← List.map_take]
    have hosl : (os.take n).length ≤ 3 := by rw [List.length_take]; omega
    have e4 : ExP H (upd H3 q4 (.lst ((os.take n).map V.str))) := ((ExP.of e1).trans (e2.trans e3)).trans (ExP.of (same_new hq4))
    have hfa3 : H3 fa = some (.dK []) := e3.at hfa2 (row_np [])
    have hq0 : H q4 = none := ((ExP.of e1).trans (e2.trans e3)).free hq4
    have hfq4 : fa ≠ q4 := ne_of_none hfa3 hq4
    refine for_it (walk_list (xs := (os.take n).map V.str)) (fun i σ' H' => ∃ (o : Option V) (kvs : List (Key × V)) (F : Fin), σ' = [some (.ref p), some (.ref wa), some (.ref fa), o] ∧ H' fa = some (.dK kvs) ∧ FinKV H' kvs F ∧ F.map Prod.fst = (os.take n).take i ∧ (∀ x ∈ F, x.2.map Prod.fst = ws ∧ ∀ y ∈ x.2, y.2 ∈ ends) ∧ Pen H' p c (b + 50 + 10 * (3 - i)) ∧ ExP H H' ∧ H' q4 = some (.lst ((os.take n).map V.str))) ?_ ?_ ?_ ?_
    · refine ⟨none, [], [], rfl, by rw [upd_ne hfq4]; exact hfa3, .nil, rfl, by simp, (hp3.same (same_new hq4)).mono (by omega), e4, upd_same⟩
    · rintro i σ' H' hi ⟨o, kvs, F, rfl, h1, h2, h3, h4, h5, h6, h7⟩
      exact SqL.of h7
    · rintro i x σ' H' H'' hi ⟨o, kvs, F, rfl, h1, h2, h3, h4, h5, h6, h7⟩ ⟨rfl, hxi⟩
      have hi' : i < (os.take n).length := by simpa using hi
      have hx : x = .str (os.take n)[i] := by
        rw [List.getElem?_map, List.getElem?_eq_getElem hi'] at hxi
        exact (Option.some.inj hxi).symm
      subst hx
      refine ⟨_, rfl, _, rfl, ⟨by show 3 ≤ sizeLine; decide, fun l5 hl5 => ?_⟩⟩
      have e5 := same_new (o := .lst (ends.map V.str)) hl5
      refine ⟨p, c, wa, l5, b + 50 + 10 * (3 - (i + 1)), ws, ends, rfl, exp_sql (h6.trans (ExP.of e5)) hwa, hnd, by omega, SqL.of upd_same, by decide, by decide, (h5.same e5).mono (by omega), fun q6 r H6 hq6 hr6 hr7 hr8 hp6 e6 => ?_⟩
      have e56 := (ExP.of e5).trans e6
      have hfa6 : H6 fa = some (.dK kvs) := e56.at h1 (fin_np h2)
      have hkl : kvs.length ≤ 3 := by
        have := congrArg List.length h2.keys
        rw [List.length_map, List.length_map, h3, List.length_take] at this
        omega
      refine ⟨_, rfl, _, rfl, fa, _, rfl, DPut.k (k := Sum.inr (os.take n)[i]) hfa6 (sz_lt (by omega)), ?_⟩
      have hfresh : (Sum.inr (os.take n)[i] : Key) ∉ kvs.map Prod.fst := by
        rw [h2.keys, h3]
        intro hm
        obtain ⟨z, hz, e⟩ := List.mem_map.mp hm
        have e' : z = (os.take n)[i] := Sum.inr.inj e
        subst e'
        have hnd' : (os.take n).Nodup := (hos.nodup_iff.mpr (by decide)).sublist (List.take_sublist _ _)
        have := List.getElem_of_mem hz
        obtain ⟨j, hj, ej⟩ := this
        rw [List.getElem_take] at ej
        have hj' : j < i := by simp at hj; omega
        have := (List.getElem_inj hnd').mp ej
        omega
      rw [putK_fresh _ _ _ hfresh]
      have hq6fa : q6 ≠ fa := by rintro rfl; have := e5 _ _ h1; exact absurd (this.symm.trans hq6) (by simp)
      have hfn : H fa = none := hfa
      refine ⟨some (.str (os.take n)[i]), kvs ++ [(Sum.inr (os.take n)[i], .ref q6)], F ++ [((os.take n)[i], r)], rfl, upd_same, ?_, ?_, ?_, ?_, ?_, ?_⟩
      · refine paired_snoc (Paired.mapP (fin_apart (h2.exp e56) hfa6) fun kv z ⟨g1, a, g2, gn, g3⟩ => ⟨g1, a, g2, ?_⟩) ⟨rfl, q6, rfl, by rw [upd_ne hq6fa]; exact hr6⟩
        rw [upd_ne gn]; exact g3
      · rw [List.map_append, h3, List.take_succ, List.getElem?_eq_getElem hi']
        rfl
      · intro z hz
        rcases List.mem_append.mp hz with hz | hz
        · exact h4 z hz
        · rw [List.mem_singleton.mp hz]; exact ⟨hr7, hr8⟩
      · exact hp6.chg hp hfn
      · exact rel_exp.chg (h6.trans e56) hfn
      · rw [upd_ne (Ne.symm hfq4)]; exact e56.at h7 lst_ne_pen
    · rintro σ' H' ⟨o, kvs, F, rfl, h1, h2, h3, h4, h5, h6, h7⟩
      refine ⟨_, rfl, _, rfl, _, rfl, ⟨by show 3 ≤ sizeLine; decide, fun l5 hl5 => ?_⟩⟩
      have e5 := same_new (o := .lst (reads.map V.str)) hl5
      refine ⟨p, c, wa, l5, b, ws, reads, rfl, exp_sql (h6.trans (ExP.of e5)) hwa, hnd, by omega, SqL.of upd_same, by decide, by decide, (h5.same e5).mono (by omega), fun q6 r H6 hq6 hr6 hr7 hr8 hp6 e6 => ⟨by show 2 ≤ sizeLine; decide, fun t ht => ?_⟩⟩
      have e56 := (ExP.of e5).trans e6
      have e7 := e56.trans (ExP.of (same_new (o := .tup [.ref fa, .ref q6]) ht))
      have hF : F.map Prod.fst = os.take n := by rw [h3, List.length_map, List.take_length]
      refine k _ F r _ ⟨t, fa, q6, rfl, upd_same, FinAt.exp ⟨kvs, h1, h2⟩ e7, same_new ht _ _ hr6⟩ ⟨?_, ?_, h4, hr7, hr8⟩ ?_ (hp6.same (same_new ht)) (h6.trans e7)
      · rw [hF]
        exact (hos.nodup_iff.mpr (by decide)).sublist (List.take_sublist _ _)
      · intro x hx
        have : x.1 ∈ os.take n := by rw [← hF]; exact List.mem_map.mpr ⟨x, hx, rfl⟩
        exact hos.mem_iff.mp (List.mem_of_mem_take this)
      · rw [← List.length_map (f := Prod.fst), hF]; exact hosl
end
end Pf

set_option Elab.async false
set_option maxRecDepth 100000
set_option linter.all false
set_option maxHeartbeats 4000000
namespace Pf
open PySem L2
/-! ### rows and outcomes changed at one key -/
def setRow (r : Row) (w l : Str) : Row := r.map fun p => if p.1 = w then (p.1, l) else p
def setFin (F : Fin) (o : Str) (r : Row) : Fin := F.map fun p => if p.1 = o then (p.1, r) else p
theorem setRow_keys (r : Row) (w l : Str) : (setRow r w l).map Prod.fst = r.map Prod.fst := by
  unfold setRow
  rw [List.map_map]
  refine List.map_congr_left fun p _ => ?_
  show (if p.1 = w then (p.1, l) else p).1 = p.1
  split <;> rfl
theorem setFin_keys (F : Fin) (o : Str) (r : Row) : (setFin F o r).map Prod.fst = F.map Prod.fst := by
  unfold setFin
  rw [List.map_map]
  refine List.map_congr_left fun p _ => ?_
  show (if p.1 = o then (p.1, r) else p).1 = p.1
  split <;> rfl
theorem setRow_mem {r : Row} {w l : Str} {x : Str × Str} (h : x ∈ setRow r w l) : x.2 = l ∨ x ∈ r := by
  unfold setRow at h
  obtain ⟨p, hp, rfl⟩ := List.mem_map.mp h
  by_cases e : p.1 = w
  · rw [if_pos e]; exact .inl rfl
  · rw [if_neg e]; exact .inr hp
theorem setFin_mem {F : Fin} {o : Str} {r : Row} {x : Str × Row} (h : x ∈ setFin F o r) : (x.2 = r ∧ ∃ y ∈ F, y.1 = x.1) ∨ x ∈ F := by
  unfold setFin at h
  obtain ⟨p, hp, rfl⟩ := List.mem_map.mp h
  by_cases e : p.1 = o
  · rw [if_pos e]; exact .inl ⟨rfl, p, hp, rfl⟩
  · rw [if_neg e]; exact .inr hp
theorem any_key {kvs : List (Key × V)} {k : Key} (h : k ∈ kvs.map Prod.fst) : (kvs.any fun kv => decide (kv.1 = k)) = true := by
  obtain ⟨kv, hk, e⟩ := List.mem_map.mp h
  exact List.any_eq_true.mpr ⟨kv, hk, decide_eq_true e⟩
theorem putK_there {kvs : List (Key × V)} {k : Key} {v : V} (h : k ∈ kvs.map Prod.fst) : putK kvs k v = kvs.map fun kv => if kv.1 = k then (kv.1, v) else kv := by
  unfold putK
  rw [if_pos (any_key h)]
theorem putK_row {r : Row} {w l : Str} (h : w ∈ r.map Prod.fst) : putK (rowKV r) (Sum.inr w) (.str l) = rowKV (setRow r w l) := by
  rw [putK_there (by rw [rowKV_keys]; exact List.mem_map.mpr ⟨w, h, rfl⟩)]
  unfold rowKV setRow
  rw [List.map_map, List.map_map]
  refine List.map_congr_left fun p _ => ?_
  show (if (Sum.inr p.1 : Key) = Sum.inr w then ((Sum.inr p.1 : Key), V.str l) else (Sum.inr p.1, V.str p.2)) = (fun p : Str × Str => ((Sum.inr p.1 : Key), V.str p.2)) (if p.1 = w then (p.1, l) else p)
  by_cases e : p.1 = w
  · rw [if_pos e, if_pos (by rw [e])]
  · rw [if_neg e, if_neg (fun q => e (Sum.inr.inj q))]
theorem mergeK_append (a b c : List (Key × V)) : mergeK a (b ++ c) = mergeK (mergeK a b) c := by
  unfold mergeK
  rw [List.foldl_append]
theorem row_val {r : Row} {w : Str} (h : w ∈ r.map Prod.fst) : ∃ l, valV (rowKV r) (Sum.inr w) = some (.str l) ∧ (w, l) ∈ r := by
  induction r with
  | nil => cases h
  | cons p r ih =>
    by_cases e : p.1 = w
    · refine ⟨p.2, ?_, ?_⟩
      · show valV ((Sum.inr p.1, V.str p.2) :: rowKV r) (Sum.inr w) = _
        rw [valV_pos (by rw [e])]
      · rw [← e]; exact List.mem_cons_self
    · obtain ⟨l, h1, h2⟩ := ih (by
        rcases List.mem_cons.mp h with q | q
        · exact absurd q.symm e
        · exact q)
      refine ⟨l, ?_, List.mem_cons_of_mem _ h2⟩
      show valV ((Sum.inr p.1, V.str p.2) :: rowKV r) (Sum.inr w) = _
      rw [valV_neg (fun q => e (Sum.inr.inj q)), h1]
theorem fin_val {H : Hp} {kvs : List (Key × V)} {F : Fin} (h : FinKV H kvs F) {o : Str} (ho : o ∈ F.map Prod.fst) : ∃ a r, valV kvs (Sum.inr o) = some (.ref a) ∧ H a = some (.dK (rowKV r)) ∧ (o, r) ∈ F := by
  induction h with
  | nil => cases ho
  | @cons kv p l G r _ ih =>
    obtain ⟨h1, a, h2, h3⟩ := r
    by_cases e : p.1 = o
    · refine ⟨a, p.2, ?_, h3, by rw [← e]; exact List.mem_cons_self⟩
      rw [valV_pos (by rw [h1, e]), h2]
    · obtain ⟨a', r', g1, g2, g3⟩ := ih (by
        rcases List.mem_cons.mp ho with q | q
        · exact absurd q.symm e
        · exact q)
      exact ⟨a', r', by rw [valV_neg (fun q => e (Sum.inr.inj (h1.symm.trans q))), g1], g2, List.mem_cons_of_mem _ g3⟩
theorem fin_drop {H : Hp} {kvs : List (Key × V)} {F : Fin} (h : FinKV H kvs F) (o : Str) : FinKV H (dropK kvs (Sum.inr o)) (F.filter fun p => decide (p.1 ≠ o)) := by
  induction h with
  | nil => exact .nil
  | @cons kv p l G r _ ih =>
    unfold dropK at ih ⊢
    by_cases e : p.1 = o
    · rw [List.filter_cons_of_neg (by rw [r.1, e]; simp), List.filter_cons_of_neg (by simp [e])]
      exact ih
    · rw [List.filter_cons_of_pos (by rw [r.1]; simp; exact e), List.filter_cons_of_pos (by simp [e])]
      exact .cons r ih
theorem fin_put {H : Hp} {kvs : List (Key × V)} {F : Fin} (h : FinKV H kvs F) {o : Str} {a : Addr} {r : Row} (ho : o ∈ F.map Prod.fst) (ha : H a = some (.dK (rowKV r))) : FinKV H (putK kvs (Sum.inr o) (.ref a)) (setFin F o r) := by
  rw [putK_there (by rw [h.keys]; exact List.mem_map.mpr ⟨o, ho, rfl⟩)]
  clear ho
  unfold setFin
  induction h with
  | nil => exact .nil
  | @cons kv p l G q _ ih =>
    rw [List.map_cons, List.map_cons]
    refine .cons ?_ ih
    by_cases e : p.1 = o
    · rw [if_pos e, if_pos (by rw [q.1, e])]
      exact ⟨q.1, a, rfl, ha⟩
    · rw [if_neg e, if_neg (fun z => e (Sum.inr.inj (q.1.symm.trans z)))]
      exact q
/-- the dict's own address changes, the rows stay -/
theorem fin_upd {H : Hp} {kvs kvs' : List (Key × V)} {F F' : Fin} {fa : Addr} {o : HO} (hf : H fa = some (.dK kvs)) (h : FinKV H kvs F) (g : ∀ H' : Hp, FinKV H' kvs F → (∀ b x, b ≠ fa → H b = some x → H' b = some x) → FinKV H' kvs' F') : FinKV (upd H fa o) kvs' F' :=
  g _ (Paired.mapP (fin_apart h hf) fun kv p ⟨h1, a, h2, hn, h3⟩ => ⟨h1, a, h2, by rw [upd_ne hn]; exact h3⟩) fun b x hb hx => by rw [upd_ne hb]; exact hx
def spNear (K : PySem.W.Frag) : Sp := fun vs H Q _ => ∃ (p c : Addr) (v : V) (b : Nat) (ws : List Str) (F : Fin) (r : Row), vs = [.ref p, v] ∧ PlainAt H v F r ∧ Ok ws F r ∧ ws.Nodup ∧ ws.length ≤ 10 ∧ F.length ≤ 3 ∧ Pen H p c (b + 10) ∧
  ∀ (v' : V) (F' : Fin) (r' : Row) (H' : Hp), PlainAt H' v' F' r' → Ok ws F' r' → F'.length ≤ 3 → Pen H' p c b → ExP H H' → Q v' H'
section
variable {P : Program} {w : World} {K : PySem.W.Frag} {mg : Str → Option Value} {base : Heap}
abbrev s_L_near : Stmt := top 32
theorem sc_L_near : FnScope ["_law_pen", "_law_plain", "_law_finals", "_law_reads", "_law_kind", "_law_words", "_law_outcome", "_law_more"] ["_law_pen", "_law_plain"] (defScope s_L_near) := ⟨rfl, rfl, rfl, by decide +kernel, rfl, by decide +kernel, by decide +kernel⟩
theorem ok_near {f : Addr} {fd : FuncData} (F : Fun K "_law_near" "_law_near" s_L_near f fd) (B : Bi mg) (C__law_draw : C8.Cal P w K mg base 1 "_law_draw" spDraw []) (C__law_pick : C8.Cal P w K mg base 2 "_law_pick" (spPick K) []) : FnOk P w K mg base CX0 3 f fd ["_law_pen", "_law_plain"] (spNear K) := by
  refine F.ok sc_L_near (fun vs H Q E h => ?_) (fun cdv A outer s H vs Q E hr h => ?_)
  · obtain ⟨p, c, v, b, ws, F, r, rfl, _⟩ := h
    rfl
  · obtain ⟨p, c, v, b, ws, F, r, rfl, ⟨t, fa, ra, rfl, ht, ⟨kvs, hfa, hF⟩, hra⟩, ok, hnd, hwl, hFl, hp, k⟩ := h
    have hu := hu_of hr
    refine ⟨_, (pss_cons (ps_par (i := 2) (j := 3) rfl sc_L_near.nd rfl rfl (by decide) rfl rfl (pa_cons (pe_callTy call_dictD (by rfl) B.dict (by decide +kernel) (pa_cons (pe_ix ix_tup (pv 1) pe_int (fun _ _ => rfl)) pa_nil)) (pa_cons (pe_callTy call_dictD (by rfl) B.dict (by decide +kernel) (pa_cons (pe_ix ix_tup (pv 1) pe_int (fun _ _ => rfl)) pa_nil)) pa_nil)) rfl)
      (pss_cons (ps_par (i := 4) (j := 5) rfl sc_L_near.nd rfl rfl (by decide) rfl rfl (pa_cons (C8.pe_c C__law_draw hr (by decide) (by rfl) (pa_cons (pv 0) (pa_cons pe_int pa_nil))) (pa_cons (pe_callTy (call_listD rfl) (by rfl) B.list (by decide +kernel) (pa_cons (pv 3) pa_nil)) pa_nil)) rfl)
      (C8.pss_cut (ps_if (PW.pt (pw_and (pt_cmpR op_eq (pv 4) pe_int (nomark _)) (pw_and1 (pt_cmpR (op_neDNil hr.units0) (pv 2) pe_dnewK (nomark _)))))
        (pss_one (ps_expr (pe_dpop1 (pv 2) (C8.pe_c C__law_pick hr (by decide) (by rfl) (pa_cons (pv 0) (pa_cons (pe_callTy (call_listD rfl) (by rfl) B.list (by decide +kernel) (pa_cons (pv 2) pa_nil)) pa_nil))) ⟨rfl, rfl, rfl, rfl⟩)))
        pss_nil)
      (C8.pss_cut (ps_if (PW.pt (pw_and (pt_cmpR op_eq (pv 4) pe_int (nomark _)) (pw_and1 (pt_cmpR (op_neNil hr.units0) (pv 5) (pe_lst pa_nil) (nomark _)))))
        (pss_one (ps_dput hu (pv 3) (C8.pe_c C__law_pick hr (by decide) (by rfl) (pa_cons (pv 0) (pa_cons (pv 5) pa_nil))) (C8.pe_c C__law_pick hr (by decide) (by rfl) (pa_cons (pv 0) (pa_cons (pe_lst (pa_cons pe_str (pa_cons pe_str (pa_cons pe_str pa_nil)))) pa_nil))) rfl))
        pss_nil)
      (C8.pss_cut (ps_if (PW.pt (pw_and (pt_cmpR op_gt (pv 4) pe_int (nomark _)) (pw_and (pt_cmpR (op_neNil hr.units0) (pv 5) (pe_lst pa_nil) (nomark _)) (pw_and1 (pt_cmpR (op_neDNil hr.units0) (pv 2) pe_dnewK (nomark _))))))
        (pss_cons (ps_set (i := 6) sc_L_near.nd rfl (Or.inl rfl) (C8.pe_c C__law_pick hr (by decide) (by rfl) (pa_cons (pv 0) (pa_cons (pe_callTy (call_listD rfl) (by rfl) B.list (by decide +kernel) (pa_cons (pv 2) pa_nil)) pa_nil))))
        (pss_cons (ps_set (i := 7) sc_L_near.nd rfl (Or.inl rfl) (pe_lst (pa_cons (pe_tup (pa_cons (C8.pe_c C__law_pick hr (by decide) (by rfl) (pa_cons (pv 0) (pa_cons (pv 5) pa_nil))) (pa_cons (C8.pe_c C__law_pick hr (by decide) (by rfl) (pa_cons (pv 0) (pa_cons (pe_lst (pa_cons pe_str (pa_cons pe_str (pa_cons pe_str pa_nil)))) pa_nil))) pa_nil))) pa_nil)))
        (pss_one (ps_dput hu (pv 2) (pv 6) (pe_callTy (call_dictP rfl) (by rfl) B.dict (by decide +kernel) (pa_cons (pe_op op_cat (LiI.pe_listItems rfl (pe_dget hu (pv 2) (pv 6) (fun _ _ => rfl)) (by rfl) B.list (by decide +kernel)) (pv 7)) pa_nil)) rfl))))
        pss_nil)
      (pss_one (ps_ret (pe_tup (pa_cons (pv 2) (pa_cons (pv 3) pa_nil)))))))))), ?_⟩
    refine ⟨_, rfl, t, _, 0, _, rfl, rfl, SqT.of ht, rfl, fa, kvs, rfl, .inl hfa, fun a1 ha1 => ?_⟩
    have e1 : Same H (upd H a1 (.dK kvs)) := same_new ha1
    refine ⟨_, rfl, t, _, 1, _, rfl, rfl, SqT.of (e1 _ _ ht), rfl, ra, rowKV r, rfl, .inl (e1 _ _ hra), fun a2 ha2 => ⟨_, _, rfl, ?_⟩⟩
    have e2 : Same H (upd (upd H a1 (.dK kvs)) a2 (.dK (rowKV r))) := e1.trans (same_new ha2)
    have h12 : a1 ≠ a2 := by rintro rfl; rw [upd_same] at ha2; cases ha2
    refine ⟨_, rfl, p, c, 4, b + 9, rfl, by decide, by decide, hp.same e2, fun kd H3 hk0 hk1 hp3 e3 => ?_⟩
    have ha1' : H3 a1 = some (.dK kvs) := e3.at (by rw [upd_ne h12, upd_same]) (fin_np hF)
    have ha2' : H3 a2 = some (.dK (rowKV r)) := e3.at upd_same (row_np _)
    refine ⟨_, rfl, a2, rowKV r, rfl, .inl ha2', fun wl hwl0 => ⟨_, _, rfl, ?_⟩⟩
    have hkeys : (rowKV r).map (fun kv => kV kv.1) = ws.map V.str := by
      rw [← ok.rr.1, List.map_map]
      unfold rowKV
      rw [List.map_map]
      rfl
    have ha1n : H a1 = none := ha1
    have ha2n : H a2 = none := by rw [upd_ne (Ne.symm h12)] at ha2; exact ha2
    have hwln : H wl = none := ((ExP.of e2).trans e3).free hwl0
    have e4 : ExP H (upd H3 wl (.lst (ws.map V.str))) := ((ExP.of e2).trans e3).trans (ExP.of (same_new hwl0))
    have hw1 : a1 ≠ wl := ne_of_none ha1' hwl0
    have hw2 : a2 ≠ wl := ne_of_none ha2' hwl0
    let NI : (List (Key × V) → Fin → Prop) → Nat → L2.St → Hp → Prop := fun Z n σ' H' => ∃ (o1 o2 : Option V) (F' : Fin) (r' : Row) (kvs' : List (Key × V)), σ' = [some (.ref p), some (.ref t), some (.ref a1), some (.ref a2), some (.int kd), some (.ref wl), o1, o2] ∧
      H' a1 = some (.dK kvs') ∧ FinKV H' kvs' F' ∧ Ok ws F' r' ∧ F'.length ≤ 3 ∧ H' a2 = some (.dK (rowKV r')) ∧ H' wl = some (.lst (ws.map V.str)) ∧ Pen H' p c (b + n) ∧ ExP H H' ∧ Z kvs' F'
    rw [hkeys]
    refine ⟨NI (FinKV H) 8, ?_, ?_⟩
    · have base0 : NI (FinKV H) 9 [some (.ref p), some (.ref t), some (.ref a1), some (.ref a2), some (.int kd), some (.ref wl), none, none] (upd H3 wl (.lst (ws.map V.str))) :=
        ⟨none, none, F, r, kvs, rfl, by rw [upd_ne hw1]; exact ha1', (hF.exp ((ExP.of e2).trans e3)).same (same_new hwl0), ok, hFl, by rw [upd_ne hw2]; exact ha2', upd_same, hp3.same (same_new hwl0), e4, hF⟩
      have down : ∀ (H' : Hp), Same (upd H3 wl (.lst (ws.map V.str))) H' → NI (FinKV H) 8 [some (.ref p), some (.ref t), some (.ref a1), some (.ref a2), some (.int kd), some (.ref wl), none, none] H' := fun H' e => by
        obtain ⟨o1, o2, F', r', kvs', g0, g1, g2, g3, g4, g5, g6, g7, g8, g9⟩ := base0
        exact ⟨none, none, F', r', kvs', rfl, e _ _ g1, g2.same e, g3, g4, e _ _ g5, e _ _ g6, (g7.same e).mono (by omega), g8.trans (ExP.of e), g9⟩
      have hF4 : FinKV (upd H3 wl (.lst (ws.map V.str))) kvs F := (hF.exp ((ExP.of e2).trans e3)).same (same_new hwl0)
      refine ⟨_, rfl, rfl, _, rfl, ?_⟩
      refine ite2 (fun _ => ?_) (fun _ => iteF (down _ (Same.refl _)))
      refine ⟨_, rfl, fun d hd => ?_⟩
      have e5 := same_new (o := .dK []) hd
      have h15 : upd (upd H3 wl (.lst (ws.map V.str))) d (.dK []) a1 = some (.dK kvs) := e5 _ _ (by rw [upd_ne hw1]; exact ha1')
      refine ⟨a1, d, kvs, rfl, rfl, .inl h15, .inl upd_same, _, rfl, ?_⟩
      refine ite2 (fun hne => ?_) (fun _ => down _ e5)
      have hkne : kvs ≠ [] := by rintro rfl; simp at hne
      refine ⟨_, rfl, a1, rfl, .inl ⟨kvs, .inl h15⟩, _, rfl, _, rfl, a1, kvs, rfl, .inl h15, fun l hl => ?_⟩
      have e6 := same_new (o := .lst (kvs.map fun kv => kV kv.1)) hl
      have hkl : kvs.length ≤ 3 := by rw [Paired.length hF]; exact hFl
      refine ⟨p, c, b + 8, _, rfl, ((hp3.same (same_new hwl0)).same (e5.trans e6)).mono (by omega), .inl ⟨l, _, rfl, SqL.of upd_same, by simpa using hkne, by rw [List.length_map]; omega, fun v H7 hv hp7 e7 => ?_⟩⟩
      have e57 := (ExP.of (e5.trans e6)).trans e7
      obtain ⟨kv, hkv, rfl⟩ := List.mem_map.mp hv
      have hk1 : kv.1 ∈ kvs.map Prod.fst := List.mem_map.mpr ⟨kv, hkv, rfl⟩
      rw [hF.keys] at hk1
      obtain ⟨o, ho, e⟩ := List.mem_map.mp hk1
      obtain ⟨a, ro, hv1, hv2, hv3⟩ := fin_val hF ho
      have h17 : H7 a1 = some (.dK kvs) := e7.at (e6 _ _ h15) (fin_np hF)
      refine ⟨kvs, kv.1, _, h17, rfl, by rw [← e]; exact hv1, ?_⟩
      rw [← e]
      refine ⟨none, none, F.filter (fun p => decide (p.1 ≠ o)), r, dropK kvs (Sum.inr o), rfl, upd_same, ?_, ?_, ?_, ?_, ?_, ?_, ?_, fin_drop hF o⟩
      · exact fin_upd h17 (hF4.exp e57) fun H' h _ => fin_drop h o
      · refine ⟨?_, fun x hx => ok.fo x ((List.mem_filter.mp hx).1), fun x hx => ok.fr x ((List.mem_filter.mp hx).1), ok.rr⟩
        exact ok.fk.sublist ((List.filter_sublist).map _)
      · exact Nat.le_trans (List.length_filter_le _ _) hFl
      · rw [upd_ne (Ne.symm h12)]; exact e57.at (by rw [upd_ne hw2]; exact ha2') (row_np _)
      · rw [upd_ne (Ne.symm hw1)]; exact e57.at upd_same lst_ne_pen
      · exact hp7.chg hp ha1n
      · exact rel_exp.chg (e4.trans e57) ha1n
    rintro σ' H' ⟨o1, o2, F', r', kvs', rfl, g1, g2, g3, g4, g5, g6, g7, g8, g9⟩
    refine ⟨NI (fun _ _ => True) 5, ?_, ?_⟩
    · have down : ∀ (H2 : Hp), Same H' H2 → NI (fun _ _ => True) 5 [some (.ref p), some (.ref t), some (.ref a1), some (.ref a2), some (.int kd), some (.ref wl), o1, o2] H2 := fun H2 e =>
        ⟨o1, o2, F', r', kvs', rfl, e _ _ g1, g2.same e, g3, g4, e _ _ g5, e _ _ g6, (g7.same e).mono (by omega), g8.trans (ExP.of e), trivial⟩
      refine ⟨_, rfl, rfl, _, rfl, ?_⟩
      refine ite2 (fun _ => ?_) (fun _ => iteF (down _ (Same.refl _)))
      refine ⟨_, rfl, ⟨by show 0 ≤ sizeLine; decide, fun d hd => ?_⟩⟩
      have e5 := same_new (o := .lst []) hd
      refine ⟨wl, d, _, rfl, rfl, SqL.of (e5 _ _ g6), SqL.of upd_same, _, rfl, ?_⟩
      refine ite2 (fun hne => ?_) (fun _ => down _ e5)
      have hwne : ws ≠ [] := by rintro rfl; simp at hne
      refine ⟨_, rfl, ⟨by show 3 ≤ sizeLine; decide, fun l hl => ?_⟩⟩
      have e6 := e5.trans (same_new (o := .lst (reads.map V.str)) hl)
      refine ⟨p, c, b + 7, _, rfl, (g7.same e6).mono (by omega), .inl ⟨l, reads.map V.str, rfl, SqL.of upd_same, by decide, by decide, fun lv H7 hlv hp7 e7 => ?_⟩⟩
      obtain ⟨lv, hlv', rfl⟩ := List.mem_map.mp hlv
      have e67 := (ExP.of e6).trans e7
      refine ⟨_, rfl, _, rfl, _, rfl, p, c, b + 6, _, rfl, hp7, .inl ⟨wl, _, rfl, SqL.of (e67.at g6 lst_ne_pen), by simpa using hwne, by rw [List.length_map]; omega, fun wv H8 hwv hp8 e8 => ?_⟩⟩
      obtain ⟨wv, hwv', rfl⟩ := List.mem_map.mp hwv
      have e68 := e67.trans e8
      have h28 : H8 a2 = some (.dK (rowKV r')) := e68.at g5 (row_np _)
      have hin : wv ∈ r'.map Prod.fst := by rw [g3.rr.1]; exact hwv'
      have hrl : (rowKV r').length = ws.length := by rw [← g3.rr.1]; simp [rowKV]
      refine ⟨a2, _, rfl, DPut.k (k := Sum.inr wv) h28 (sz_lt (by omega)), ?_⟩
      rw [putK_row hin]
      refine ⟨o1, o2, F', setRow r' wv lv, kvs', rfl, ?_, ?_, ?_, g4, upd_same, ?_, ?_, ?_, trivial⟩
      · rw [upd_ne h12]; exact e68.at g1 (fin_np g2)
      · refine Paired.mapP g9 fun kv z ⟨q1, a, q2, q3⟩ => ⟨q1, a, q2, ?_⟩
        rw [upd_ne (ne_of_none q3 ha2n)]
        exact (g8.trans e68).at q3 (row_np _)
      · refine ⟨g3.fk, g3.fo, g3.fr, ?_, fun x hx => ?_⟩
        · rw [setRow_keys]; exact g3.rr.1
        · rcases setRow_mem hx with q | q
          · rw [q]; exact hlv'
          · exact g3.rr.2 x q
      · rw [upd_ne (Ne.symm hw2)]; exact e68.at g6 lst_ne_pen
      · exact (hp8.chg hp ha2n).mono (by omega)
      · exact rel_exp.chg (g8.trans e68) ha2n
    clear o1 o2 F' r' kvs' g1 g2 g3 g4 g5 g6 g7 g8 g9
    rintro σ' H' ⟨o1, o2, F', r', kvs', rfl, g1, g2, g3, g4, g5, g6, g7, g8, _⟩
    refine ⟨NI (fun _ _ => True) 0, ?_, ?_⟩
    · have down : ∀ (H2 : Hp), Same H' H2 → NI (fun _ _ => True) 0 [some (.ref p), some (.ref t), some (.ref a1), some (.ref a2), some (.int kd), some (.ref wl), o1, o2] H2 := fun H2 e =>
        ⟨o1, o2, F', r', kvs', rfl, e _ _ g1, g2.same e, g3, g4, e _ _ g5, e _ _ g6, (g7.same e).mono (by omega), g8.trans (ExP.of e), trivial⟩
      refine ⟨_, rfl, _, _, rfl, rfl, _, rfl, ?_⟩
      refine ite2 (fun _ => ?_) (fun _ => iteF (down _ (Same.refl _)))
      refine ⟨_, rfl, ⟨by show 0 ≤ sizeLine; decide, fun d hd => ?_⟩⟩
      have e5 := same_new (o := .lst []) hd
      refine ⟨wl, d, _, rfl, rfl, SqL.of (e5 _ _ g6), SqL.of upd_same, _, rfl, ?_⟩
      refine ite2 (fun hne => ?_) (fun _ => iteF (down _ e5))
      have hwne : ws ≠ [] := by rintro rfl; simp at hne
      refine ⟨_, rfl, fun d2 hd2 => ?_⟩
      have e6 := e5.trans (same_new (o := .dK []) hd2)
      refine ⟨a1, d2, kvs', rfl, rfl, .inl (e6 _ _ g1), .inl upd_same, _, rfl, ?_⟩
      refine ite2 (fun hne => ?_) (fun _ => down _ e6)
      have hkne : kvs' ≠ [] := by rintro rfl; simp at hne
      have hkl : kvs'.length ≤ 3 := by rw [Paired.length g2]; exact g4
      -- outcome = pick(list(finals))
      refine ⟨_, rfl, _, rfl, a1, kvs', rfl, .inl (e6 _ _ g1), fun l hl => ?_⟩
      have e7 := e6.trans (same_new (o := .lst (kvs'.map fun kv => kV kv.1)) hl)
      refine ⟨p, c, b + 4, _, rfl, (g7.same e7).mono (by omega), .inl ⟨l, _, rfl, SqL.of upd_same, by simpa using hkne, by rw [List.length_map]; omega, fun v H8 hv hp8 e8 => ?_⟩⟩
      have e78 := (ExP.of e7).trans e8
      obtain ⟨kv, hkv, rfl⟩ := List.mem_map.mp hv
      have hk1 : kv.1 ∈ kvs'.map Prod.fst := List.mem_map.mpr ⟨kv, hkv, rfl⟩
      rw [g2.keys] at hk1
      obtain ⟨o, ho, e⟩ := List.mem_map.mp hk1
      rw [← e]
      -- more = [(pick(words), pick(ends))]
      refine ⟨_, rfl, _, rfl, p, c, b + 3, _, rfl, hp8.mono (by omega), .inl ⟨wl, _, rfl, SqL.of (e78.at g6 lst_ne_pen), by simpa using hwne, by rw [List.length_map]; omega, fun wv H9 hwv hp9 e9 => ?_⟩⟩
      obtain ⟨wv, hwv', rfl⟩ := List.mem_map.mp hwv
      refine ⟨_, rfl, ⟨by show 3 ≤ sizeLine; decide, fun l2 hl2 => ?_⟩⟩
      have e10 := same_new (o := .lst (ends.map V.str)) hl2
      refine ⟨p, c, b + 2, _, rfl, (hp9.same e10).mono (by omega), .inl ⟨l2, ends.map V.str, rfl, SqL.of upd_same, by decide, by decide, fun lv H11 hlv hp11 e11 => ⟨by show 2 ≤ sizeLine; decide, fun t2 ht2 => ⟨by show 1 ≤ sizeLine; decide, fun l3 hl3 => ?_⟩⟩⟩⟩
      obtain ⟨lv, hlv', rfl⟩ := List.mem_map.mp hlv
      have e12 : Same H11 (upd (upd H11 t2 (.tup [.str wv, .str lv])) l3 (.lst [.ref t2])) := (same_new ht2).trans (same_new hl3)
      have ht23 : t2 ≠ l3 := by rintro rfl; rw [upd_same] at hl3; cases hl3
      have e13 : ExP H' (upd (upd H11 t2 (.tup [.str wv, .str lv])) l3 (.lst [.ref t2])) := (e78.trans e9).trans ((ExP.of e10).trans (e11.trans (ExP.of e12)))
      have hp13 := hp11.same e12
      have ht13 : upd (upd H11 t2 (.tup [.str wv, .str lv])) l3 (.lst [.ref t2]) t2 = some (.tup [.str wv, .str lv]) := by rw [upd_ne ht23, upd_same]
      have hl13 : upd (upd H11 t2 (.tup [.str wv, .str lv])) l3 (.lst [.ref t2]) l3 = some (.lst [.ref t2]) := upd_same
      generalize upd (upd H11 t2 (.tup [.str wv, .str lv])) l3 (.lst [.ref t2]) = H13 at e13 hp13 ht13 hl13
      have h113 := e13.at g1 (fin_np g2)
      have g213 := g2.exp e13
      obtain ⟨a, ro, hv1, hv2, hv3⟩ := fin_val g213 ho
      have hok := g3.fr _ hv3
      -- list(finals[outcome].items()) + more
      refine ⟨_, rfl, _, rfl, a1, .ref a, rfl, ?_, ?_⟩
      · have := DGet.k (k := Sum.inr o) h113
        rw [hv1] at this
        exact this
      refine ⟨a, rowKV ro, rfl, hv2, fun H14 q ts e14 hq hts hqn hq14 hpr => ?_⟩
      have hrl : ts.length = ws.length := by rw [Paired.length hpr, ← hok.1]; simp [rowKV]
      refine ⟨_, rfl, q, l3, _, _, rfl, rfl, hq14, e14 _ _ hl13, sz_le (by rw [List.length_map, hrl]; show ws.length + 1 ≤ _; omega), fun q2 hq2 => ?_⟩
      have e15 : Same H14 (upd H14 q2 (.lst (ts.map V.ref ++ [.ref t2]))) := same_new hq2
      refine ⟨q2, ts ++ [t2], rowKV ro ++ [(Sum.inr wv, .str lv)], rfl, SqL.of (by rw [upd_same, List.map_append]; rfl), ?_, fun q3 hq3 => ?_⟩
      · refine paired_snoc (Paired.mapP hpr fun t kv h => SqT.of (e15 _ _ h)) (SqT.of (e15 _ _ (e14 _ _ ht13)))
      have hin : wv ∈ ro.map Prod.fst := by rw [hok.1]; exact hwv'
      have em : mergeK [] (rowKV ro ++ [(Sum.inr wv, .str lv)]) = rowKV (setRow ro wv lv) := by
        rw [mergeK_append, merge_fresh _ [] (by rw [List.nil_append, rowKV_keys, hok.1]; exact inr_nodup hnd), List.nil_append]
        exact putK_row hin
      rw [em]
      have e16 : Same H13 (upd (upd H14 q2 (.lst (ts.map V.ref ++ [.ref t2]))) q3 (.dK (rowKV (setRow ro wv lv)))) := ((show Same H13 H14 from e14).trans e15).trans (same_new hq3)
      have hq316 : upd (upd H14 q2 (.lst (ts.map V.ref ++ [.ref t2]))) q3 (.dK (rowKV (setRow ro wv lv))) q3 = some (.dK (rowKV (setRow ro wv lv))) := upd_same
      have hq3a : q3 ≠ a1 := by rintro rfl; have := (show Same H13 H14 from e14).trans e15 _ _ h113; rw [hq3] at this; cases this
      generalize upd (upd H14 q2 (.lst (ts.map V.ref ++ [.ref t2]))) q3 (.dK (rowKV (setRow ro wv lv))) = H16 at e16 hq316
      have h116 := e16 _ _ h113
      refine ⟨_, rfl, _, rfl, a1, _, rfl, DPut.k (k := Sum.inr o) h116 (sz_lt (by omega)), ?_⟩
      have e17 := e13.trans (ExP.of e16)
      refine ⟨_, _, setFin F' o (setRow ro wv lv), r', _, rfl, upd_same, ?_, ?_, ?_, ?_, ?_, ?_, ?_, trivial⟩
      · exact fin_upd h116 (g213.same e16) fun H' h hk => fin_put h ho (hk _ _ hq3a hq316)
      · refine ⟨?_, fun x hx => ?_, fun x hx => ?_, g3.rr⟩
        · rw [setFin_keys]; exact g3.fk
        · rcases setFin_mem hx with ⟨_, y, hy, e⟩ | q
          · rw [← e]; exact g3.fo y hy
          · exact g3.fo x q
        · rcases setFin_mem hx with ⟨q, _⟩ | q
          · rw [q, setRow_keys]
            refine ⟨hok.1, fun y hy => ?_⟩
            rcases setRow_mem hy with z | z
            · rw [z]; exact hlv'
            · exact hok.2 y z
          · exact g3.fr x q
      · unfold setFin; rw [List.length_map]; exact g4
      · rw [upd_ne (Ne.symm h12)]; exact e17.at g5 (row_np _)
      · rw [upd_ne (Ne.symm hw1)]; exact e17.at g6 lst_ne_pen
      · exact ((hp13.same e16).chg hp ha1n).mono (by omega)
      · exact rel_exp.chg (g8.trans e17) ha1n
    · rintro σ' H2 ⟨o1, o2, F', r', kvs', rfl, g1, g2, g3, g4, g5, g6, g7, g8, _⟩
      refine ⟨_, rfl, _, rfl, ⟨by show 2 ≤ sizeLine; decide, fun u hu => ?_⟩⟩
      have e := same_new (o := .tup [.ref a1, .ref a2]) hu
      exact k _ F' r' _ ⟨u, a1, a2, rfl, upd_same, ⟨kvs', e _ _ g1, g2.same e⟩, e _ _ g5⟩ g3 g4 (g7.same e) (g8.trans (ExP.of e))
end
end Pf

set_option Elab.async false
set_option maxRecDepth 100000
set_option linter.all false
set_option maxHeartbeats 4000000
namespace Pf
open PySem L2
/-- the rank of a level -/
def rank (l : Str) : Int := if l = "set" ∨ l = "none" then 0 else if l = "keep" ∨ l = "entry" then 1 else 2
/-- the module's own constants -/
structure Gs (K : PySem.W.Frag) (w : World) (mg : Str → Option Value) (aE aR aK : Addr) : Prop where
  LETTERS : ∃ u, mg "LETTERS" = some u ∧ RelV (.str Lt) u
  DONE : ∃ u, mg "DONE" = some u ∧ RelV (.str "done") u
  FAIL : ∃ u, mg "FAIL" = some u ∧ RelV (.str "fail ") u
  ENDS : ∃ u, mg "ENDS" = some u ∧ RelV (.ref aE) u
  READS : ∃ u, mg "READS" = some u ∧ RelV (.ref aR) u
  RANKS : ∃ u, mg "RANKS" = some u ∧ RelV (.ref aK) u
  endsT : ∀ H : Hp, SqT K H aE (Pf.ends.map V.str)
  readsT : ∀ H : Hp, SqT K H aR (Pf.reads.map V.str)
  ranks : ∀ l : Str, l ∈ Pf.ends ∨ l ∈ Pf.reads → KDct K w aK l (.int (rank l))
def isWord (z : Str) : Bool := decide (1 ≤ z.length) && decide (z.length ≤ 8) && z.cps.toList.all fun c => decide (c ∈ Lt.cps.toList)
def isOutcome (z : Str) : Bool := decide (z = Str.ofString "done") || (decide (Txt.slice z none (some 5) = Str.ofString "fail ") && isWord (Txt.slice z (some 5) none))
def spIsWord : Sp := fun vs H Q _ => ∃ z : Str, vs = [.str z] ∧ z.length ≤ 100000 ∧ ∀ H', Same H H' → Q (.bl (isWord z)) H'
def spIsOutcome : Sp := fun vs H Q _ => ∃ z : Str, vs = [.str z] ∧ z.length ≤ 100000 ∧ ∀ H', Same H H' → Q (.bl (isOutcome z)) H'
theorem kit_str {K : PySem.W.Frag} : PySem.W.kitOne K (.type "str") (.type "str") = some true := kit_ty (by decide +kernel)
theorem all_map_bl {α : Type} (f : α → Bool) (l : List α) : ∃ bs : List Bool, (l.map fun x => V.bl (f x)) = bs.map V.bl ∧ bs.all id = l.all f := ⟨l.map f, by rw [List.map_map]; rfl, by rw [List.all_map]; rfl⟩
section
variable {P : Program} {w : World} {K : PySem.W.Frag} {mg : Str → Option Value} {base : Heap} {aE aR aK : Addr}
abbrev s_is_word : Stmt := top 8
theorem sc_is_word : FnScope ["value", "sign"] ["value"] (defScope s_is_word) := ⟨rfl, rfl, rfl, by decide +kernel, rfl, by decide +kernel, by decide +kernel⟩
theorem ok_is_word {f : Addr} {fd : FuncData} (F : Fun K "is_word" "is_word" s_is_word f fd) (B : Bi mg) (G : Gs K w mg aE aR aK) : FnOk P w K mg base CX0 1 f fd ["value"] spIsWord := by
  refine F.ok sc_is_word (fun vs H Q E h => ?_) (fun cdv A outer s H vs Q E hr h => ?_)
  · obtain ⟨z, rfl, _⟩ := h
    rfl
  · obtain ⟨z, rfl, hz, k⟩ := h
    have hu := hu_of hr
    refine ⟨_, (pss_one (ps_ret (pe_and (pe_callB call_isi (by rfl) B.isinstance (by decide +kernel) (pa_cons (pv 0) (pa_cons (pe_bltn (v := .ty "str") (u := .type "str") (by rfl) B.str (by decide +kernel) rfl) pa_nil))) (pe_and (pe_chain op_le op_le pe_int (pe_callB call_len_str (by rfl) B.len PySem.boot_len (pa_cons (pv 0) pa_nil)) pe_int) (pe_one (pe_callB (cr_all rfl) (by rfl) B.all (by decide +kernel) (pa_cons (pe_lc (own := [("sign", 1)]) (g := gName 1) (by rfl) sc_is_word.nd (pi_str (pv 0)) (blkOk_by (own := [("sign", 1)]) (N := ["value", "sign"]) (sc := defScope s_is_word) (by decide +kernel)) (fun _ _ _ _ _ => (pg_name (i := 1) sc_is_word.nd rfl (Or.inl rfl))) (fun _ _ _ _ _ => pts_nil) (fun _ _ _ _ _ => (pe_cmpR op_in_sign (pv 1) (C8.pe_gc (by rfl) G.LETTERS) rfl))) pa_nil))))))), ?_⟩
    refine ⟨_, rfl, _, _, _, _, true, rfl, .ty "str", .base (.str z), kit_str, true, rfl, iteT ?_⟩
    refine ⟨_, rfl, z, rfl, sz_le hz, _, _, rfl, rfl, _, rfl, ?_⟩
    refine ite2 (fun h1 => ?_) (fun h1 => ⟨false, rfl, iteF ?_⟩)
    · have h1' : 1 ≤ z.length := by have : (1 : Int) ≤ z.length := by simpa using h1
                                    omega
      refine ⟨_, _, rfl, rfl, _, rfl, ?_⟩
      refine ite2 (fun h2 => ?_) (fun h2 => ?_)
      · have h2' : z.length ≤ 8 := by have : ((z.length : Nat) : Int) ≤ 8 := by simpa using h2
                                      omega
        refine ⟨_, rfl, z, rfl, fun D hD => ?_⟩
        refine lc_bl walk_txt (by simp) hD (by have : z.length = z.cps.size := rfl; omega) (fun v => match v with | .str y => y.cps.toList.all fun c => decide (c ∈ Lt.cps.toList) | _ => false) (fun _ _ => trivial) ?_ ?_
        · intro x hx H1 l1 K1 K0 k1
          obtain ⟨c, _, rfl⟩ := List.mem_map.mp hx
          refine ⟨rfl, yes_of ⟨_, rfl, c, Lt, rfl, rfl, ?_⟩⟩
          have := k1 H1 (Same.refl _)
          simpa using this
        · intro H1 l1 hD1
          refine ⟨D, _, rfl, SqL.of hD1, ?_⟩
          have e : (((z.cps.toList.map fun c => V.str ⟨#[c]⟩).map fun v => match v with | .str y => y.cps.toList.all fun c => decide (c ∈ Lt.cps.toList) | _ => false).all id) = isWord z := by
            unfold isWord
            rw [decide_eq_true h1', decide_eq_true h2', List.map_map, List.all_map]
            simp
          rw [e]
          exact k H1 l1
      · have h2' : ¬ z.length ≤ 8 := by
          intro q
          apply h2
          simp
          omega
        have e : isWord z = false := by unfold isWord; rw [decide_eq_false h2']; simp
        have := k H (Same.refl _)
        rw [e] at this
        exact this
    · have h1' : ¬ 1 ≤ z.length := by
        intro q
        apply h1
        simp
        omega
      have e : isWord z = false := by unfold isWord; rw [decide_eq_false h1']; simp
      have := k H (Same.refl _)
      rw [e] at this
      exact this
abbrev s_is_outcome : Stmt := top 9
theorem sc_is_outcome : FnScope ["value"] ["value"] (defScope s_is_outcome) := ⟨rfl, rfl, rfl, by decide +kernel, rfl, by decide +kernel, by decide +kernel⟩
theorem ok_is_outcome {f : Addr} {fd : FuncData} (F : Fun K "is_outcome" "is_outcome" s_is_outcome f fd) (B : Bi mg) (G : Gs K w mg aE aR aK) (C_is_word : C8.Cal P w K mg base 1 "is_word" spIsWord []) : FnOk P w K mg base CX0 2 f fd ["value"] spIsOutcome := by
  refine F.ok sc_is_outcome (fun vs H Q E h => ?_) (fun cdv A outer s H vs Q E hr h => ?_)
  · obtain ⟨z, rfl, _⟩ := h
    rfl
  · obtain ⟨z, rfl, hz, k⟩ := h
    have hu := hu_of hr
    refine ⟨_, (pss_one (ps_ret (pe_and (pe_callB call_isi (by rfl) B.isinstance (by decide +kernel) (pa_cons (pv 0) (pa_cons (pe_bltn (v := .ty "str") (u := .type "str") (by rfl) B.str (by decide +kernel) rfl) pa_nil))) (pe_one (pe_or (pe_cmpR op_eq (pv 0) (C8.pe_gc (by rfl) G.DONE) (nomark _)) (pe_one (pe_and (pe_cmpR op_eq (pe_slice C8.sl_txt (pv 0) po_none (po_some (pe_callB call_len_str (by rfl) B.len PySem.boot_len (pa_cons (C8.pe_gc (by rfl) G.FAIL) pa_nil)))) (C8.pe_gc (by rfl) G.FAIL) (nomark _)) (pe_one (C8.pe_c C_is_word hr (by decide) (by rfl) (pa_cons (pe_slice C8.sl_txt (pv 0) (po_some (pe_callB call_len_str (by rfl) B.len PySem.boot_len (pa_cons (C8.pe_gc (by rfl) G.FAIL) pa_nil))) po_none) pa_nil)))))))))), ?_⟩
    have e5 : (Str.ofString "fail ").length = 5 := by decide +kernel
    refine ⟨_, rfl, _, _, _, _, true, rfl, .ty "str", .base (.str z), kit_str, true, rfl, iteT ?_⟩
    refine ⟨_, rfl, rfl, _, rfl, ?_⟩
    by_cases h1 : z = Str.ofString "done"
    · refine iteT' (by simp [h1]) ?_
      have e : isOutcome z = true := by unfold isOutcome; rw [decide_eq_true h1]; rfl
      have := k H (Same.refl _)
      rwa [e] at this
    · refine iteF' (by simp [h1]) ?_
      refine ⟨_, rfl, _, rfl, sz_le (by rw [e5]; decide), _, rfl, z, rfl, sz_le hz, ?_⟩
      rw [e5]
      refine ⟨rfl, _, rfl, ?_⟩
      by_cases h2 : Txt.slice z none (some 5) = Str.ofString "fail "
      · refine iteT' (by rw [← h2]; simp) ?_
        refine ⟨_, rfl, _, rfl, sz_le (by rw [e5]; decide), _, rfl, z, rfl, sz_le hz, ?_⟩
        rw [e5, show ((5 : Nat) : Int) = 5 from rfl]
        have hsl : (Txt.slice z (some 5) none).length ≤ z.length := by rw [← C8.cutS_slice]; exact cutS_length _ _ _
        refine ⟨_, rfl, by omega, fun H' e => ?_⟩
        have e2 : isOutcome z = isWord (Txt.slice z (some 5) none) := by unfold isOutcome; rw [decide_eq_false h1, decide_eq_true h2]; simp
        have := k H' e
        rwa [e2] at this
      · refine iteF' (by simp [h2]) ?_
        have e : isOutcome z = false := by unfold isOutcome; rw [decide_eq_false h1, decide_eq_false h2]; rfl
        have := k H (Same.refl _)
        rwa [e] at this
end
end Pf

set_option Elab.async false
set_option maxRecDepth 100000
set_option linter.all false
set_option maxHeartbeats 4000000
namespace Pf
open PySem L2
theorem kit_dict {K : PySem.W.Frag} : PySem.W.kitOne K (.type "dict") (.type "dict") = some true := kit_ty (by decide +kernel)
theorem isWord_len {z : Str} (h : isWord z = true) : z.length ≤ 100000 := by
  unfold isWord at h
  simp at h
  omega
theorem in_strs {l : Str} {ls : List Str} (h : l ∈ ls) : inV (.str l) (ls.map V.str) = true := by
  unfold inV
  rw [List.any_eq_true]
  exact ⟨.str l, List.mem_map.mpr ⟨l, h, rfl⟩, by simp [eqV]⟩
theorem flat_all (ls : List Str) : (ls.map V.str).all flatV = true := by
  rw [List.all_eq_true]
  intro x hx
  obtain ⟨l, _, rfl⟩ := List.mem_map.mp hx
  rfl
theorem rowKV_len (r : Row) : (rowKV r).length = r.length := by simp [rowKV]
/-- the names of one row are among those of the other one, and as many -/
def SameN (r r' : Row) : Prop := r.length = r'.length ∧ ∀ x ∈ r, x.1 ∈ r'.map Prod.fst
def spSame : Sp := fun vs H Q _ => ∃ (a b : Addr) (r r' : Row), vs = [.ref a, .ref b] ∧ H a = some (.dK (rowKV r)) ∧ Rd H b (.dK (rowKV r')) ∧ SameN r r' ∧ r.length ≤ 1000 ∧ ∀ H', Same H H' → Q (.bl true) H'
def spAreEnds (K : PySem.W.Frag) : Sp := fun vs H Q _ => ∃ (a lv : Addr) (nm : V) (r : Row) (ls : List Str), vs = [.ref a, nm, .ref lv] ∧ H a = some (.dK (rowKV r)) ∧ SqT K H lv (ls.map V.str) ∧ r.length ≤ 1000 ∧ (∀ x ∈ r, isWord x.1 = true ∧ x.2 ∈ ls) ∧
  (nm = .non ∨ ∃ b r', nm = .ref b ∧ Rd H b (.dK (rowKV r')) ∧ SameN r r') ∧ ∀ H', Same H H' → Q (.bl true) H'
def spAreOutcomes : Sp := fun vs H Q _ => ∃ (a : Addr) (kvs : List (Key × V)) (F : Fin), vs = [.ref a] ∧ H a = some (.dK kvs) ∧ FinKV H kvs F ∧ F.length ≤ 1000 ∧ (∀ x ∈ F, isOutcome x.1 = true ∧ x.1.length ≤ 1000 ∧ x.2.length ≤ 1000 ∧ ∀ y ∈ x.2, isWord y.1 = true ∧ y.2 ∈ ends) ∧ (∀ x ∈ F, ∀ y ∈ F, SameN x.2 y.2) ∧
  ∀ H', Same H H' → Q (.bl true) H'
section
variable {P : Program} {w : World} {K : PySem.W.Frag} {mg : Str → Option Value} {base : Heap} {aE aR aK : Addr}
abbrev s_same_names : Stmt := top 15
theorem sc_same_names : FnScope ["one", "other", "name"] ["one", "other"] (defScope s_same_names) := ⟨rfl, rfl, rfl, by decide +kernel, rfl, by decide +kernel, by decide +kernel⟩
theorem ok_same {f : Addr} {fd : FuncData} (F : Fun K "same_names" "same_names" s_same_names f fd) (B : Bi mg) : FnOk P w K mg base CX0 1 f fd ["one", "other"] spSame := by
  refine F.ok sc_same_names (fun vs H Q E h => ?_) (fun cdv A outer s H vs Q E hr h => ?_)
  · obtain ⟨a, b, r, r', rfl, _⟩ := h
    rfl
  · obtain ⟨a, b, r, r', rfl, ha, hb, ⟨hl, hm⟩, hn, k⟩ := h
    have hu := hu_of hr
    refine ⟨_, (pss_one (ps_ret (pe_and (pe_cmpR op_eq (pe_callB call_lenR (by rfl) B.len PySem.boot_len (pa_cons (pv 0) pa_nil)) (pe_callB call_lenR (by rfl) B.len PySem.boot_len (pa_cons (pv 1) pa_nil)) (nomark _)) (pe_one (pe_callB (cr_all rfl) (by rfl) B.all (by decide +kernel) (pa_cons (pe_lock (pe_lc (own := [("name", 2)]) (g := gName 2) (by rfl) sc_same_names.nd (pi_keys (pv 0)) (blkOk_by (own := [("name", 2)]) (N := ["one", "other", "name"]) (sc := defScope s_same_names) (by decide +kernel)) (fun _ _ _ _ _ => (pg_name (i := 2) sc_same_names.nd rfl (Or.inl rfl))) (fun _ _ _ _ _ => pts_nil) (fun _ _ _ _ _ => (pe_cmp (pc_din hu (pv 2) (pv 1)))))) pa_nil)))))), ?_⟩
    refine ⟨_, rfl, a, _, rfl, .inl ha, _, rfl, b, _, rfl, hb, rfl, true, by rw [rowKV_len, rowKV_len, hl]; simp, iteT ?_⟩
    refine ⟨a, _, ha, trivial, fun od => ?_⟩
    refine ⟨_, rfl, a, od, rfl, .inl ⟨_, upd_same, fun D hD => ?_⟩⟩
    refine lc_bl walk_keysY (by simp) hD (by rw [rowKV_len]; omega) (fun _ => true) (fun H l => l _ _ upd_same) ?_ ?_
    · intro x hx H1 l1 K1 K0 k1
      obtain ⟨kv, hkv, rfl⟩ := List.mem_map.mp hx
      obtain ⟨q, hq, rfl⟩ := List.mem_map.mp hkv
      refine ⟨rfl, yes_of ⟨_, rfl, _, rfl, b, _, rfl, .inl ⟨_, Sum.inr q.1, rd_same l1 (rd_lock ha hb (fun _ _ z => by cases z)), rfl, rfl⟩, ?_⟩⟩
      obtain ⟨l, hl1, _⟩ := row_val (hm q hq)
      rw [hl1]
      exact k1 H1 (Same.refl _)
    · intro H1 l1 hD1
      obtain ⟨h1, h2⟩ := lock_back ha l1
      have hDa : D ≠ a := by rintro rfl; rw [upd_same] at hD; cases hD
      refine ⟨h1, D, _, rfl, SqL.of (by rw [upd_ne hDa]; exact hD1), ?_⟩
      have e : (((rowKV r).map fun kv => kV kv.1).map fun _ => true).all id = true := by simp
      rw [e]
      exact k _ h2
abbrev s_are_ends : Stmt := top 14
theorem sc_are_ends : FnScope ["value", "names", "levels", "level", "name"] ["value", "names", "levels"] (defScope s_are_ends) := ⟨rfl, rfl, rfl, by decide +kernel, rfl, by decide +kernel, by decide +kernel⟩
theorem ok_are_ends {f : Addr} {fd : FuncData} (F : Fun K "are_ends" "are_ends" s_are_ends f fd) (B : Bi mg) (C_is_word : C8.Cal P w K mg base 1 "is_word" spIsWord []) (C_same_names : C8.Cal P w K mg base 1 "same_names" spSame []) : FnOk P w K mg base CX0 2 f fd ["value", "names", "levels"] (spAreEnds K) := by
  refine F.ok sc_are_ends (fun vs H Q E h => ?_) (fun cdv A outer s H vs Q E hr h => ?_)
  · obtain ⟨a, lv, nm, r, ls, rfl, _⟩ := h
    rfl
  · obtain ⟨a, lv, nm, r, ls, rfl, ha, hlv, hn, hw, hnm, k⟩ := h
    have hu := hu_of hr
    refine ⟨_, (pss_cons (ps_if (PW.pt (pw_or (pt_not (pt_val (pe_callB call_isi (by rfl) B.isinstance (by decide +kernel) (pa_cons (pv 0) (pa_cons (pe_bltn (v := .ty "dict") (u := .type "dict") (by rfl) B.dict (by decide +kernel) rfl) pa_nil))))) (pw_or1 (pt_not (pt_val (pe_callB (cr_all rfl) (by rfl) B.all (by decide +kernel) (pa_cons (pe_lock (pe_lc (own := [("name", 4)]) (g := gName 4) (by rfl) sc_are_ends.nd (pi_keys (pv 0)) (blkOk_by (own := [("name", 4)]) (N := ["value", "names", "levels", "level", "name"]) (sc := defScope s_are_ends) (by decide +kernel)) (fun _ _ _ _ _ => (pg_name (i := 4) sc_are_ends.nd rfl (Or.inl rfl))) (fun _ _ _ _ _ => pts_nil) (fun _ _ _ _ _ => (C8.pe_c C_is_word hr (by decide) (by rfl) (pa_cons (pv 4) pa_nil))))) pa_nil)))))))
        (pss_one (ps_ret pe_bl))
        pss_nil)
      (pss_cons (ps_if (pt_not (pt_val (pe_callB (cr_all rfl) (by rfl) B.all (by decide +kernel) (pa_cons (pe_lock (pe_lc (own := [("level", 3)]) (g := gName 3) (by rfl) sc_are_ends.nd (pi_values (pv 0)) (blkOk_by (own := [("level", 3)]) (N := ["value", "names", "levels", "level", "name"]) (sc := defScope s_are_ends) (by decide +kernel)) (fun _ _ _ _ _ => (pg_name (i := 3) sc_are_ends.nd rfl (Or.inl rfl))) (fun _ _ _ _ _ => pts_nil) (fun _ _ _ _ _ => (pe_and (pe_callB (show CallR _ (.builtin "isinstance") (rIsi K) from call_isi) (by rfl) B.isinstance (by decide +kernel) (pa_cons (pv 3) (pa_cons (pe_bltn (v := .ty "str") (u := .type "str") (by rfl) B.str (by decide +kernel) rfl) pa_nil))) (pe_one (pe_cmpR (show OpR _ (compareOp .In) (rIn K false) from op_in_seq) (pv 3) (pv 2) rfl)))))) pa_nil))))
        (pss_one (ps_ret pe_bl))
        pss_nil)
      (pss_one (ps_ret (pe_or (pe_cmpR op_isN (pv 1) pe_non (nomark _)) (pe_one (C8.pe_c C_same_names hr (by decide) (by rfl) (pa_cons (pv 0) (pa_cons (pv 1) pa_nil))))))))), ?_⟩
    refine ⟨_, rfl, _, _, _, _, true, rfl, .ty "dict", .base (.dK ha), kit_dict, true, rfl, iteF ?_⟩
    refine ⟨a, _, ha, trivial, fun od => ?_⟩
    refine ⟨_, rfl, a, od, rfl, .inl ⟨_, upd_same, fun D hD => ?_⟩⟩
    refine lc_bl walk_keysY (by simp) hD (by rw [rowKV_len]; omega) (fun _ => true) (fun H l => l _ _ upd_same) ?_ ?_
    · intro x hx H1 l1 K1 K0 k1
      obtain ⟨kv, hkv, rfl⟩ := List.mem_map.mp hx
      obtain ⟨q, hq, rfl⟩ := List.mem_map.mp hkv
      refine ⟨rfl, yes_of ⟨_, rfl, q.1, rfl, isWord_len (hw q hq).1, fun H2 e2 => ?_⟩⟩
      rw [(hw q hq).1]
      exact k1 H2 e2
    intro H1 l1 hD1
    obtain ⟨h1, h2⟩ := lock_back ha l1
    have hDa : D ≠ a := by rintro rfl; rw [upd_same] at hD; cases hD
    refine ⟨h1, D, _, rfl, SqL.of (by rw [upd_ne hDa]; exact hD1), ?_⟩
    have e : (((rowKV r).map fun kv => kV kv.1).map fun _ => true).all id = true := by simp
    rw [e]
    refine ⟨true, rfl, iteF ?_⟩
    generalize upd H1 a (.dK (rowKV r)) = H2 at h2
    have ha2 := h2 _ _ ha
    have hlv2 : SqT K H2 lv (ls.map V.str) := exp_sqt (ExP.of h2) hlv
    refine ⟨a, _, ha2, trivial, fun od2 => ?_⟩
    refine ⟨_, rfl, a, od2, _, rfl, upd_same, fun D2 hD2 => ?_⟩
    refine lc_bl walk_valuesY (by simp) hD2 (by rw [rowKV_len]; omega) (fun _ => true) (fun H l => l _ _ upd_same) ?_ ?_
    · intro x hx H3 l3 K1 K0 k1
      obtain ⟨kv, hkv, rfl⟩ := List.mem_map.mp hx
      obtain ⟨q, hq, rfl⟩ := List.mem_map.mp hkv
      refine ⟨rfl, yes_of ⟨_, rfl, _, _, _, _, true, rfl, .ty "str", .base (.str q.2), kit_str, true, rfl, iteT ?_⟩⟩
      have hlv3 : SqT K (upd H2 a (.frz od2 (.dK (rowKV r)))) lv (ls.map V.str) := by
        rcases hlv2 with h | h
        · exact .inl (rd_lock ha2 h (fun _ _ z => by cases z))
        · exact .inr h
      refine ⟨_, rfl, _, rfl, lv, _, rfl, .inr (exp_sqt (ExP.of l3) hlv3), rfl, flat_all _, ?_⟩
      rw [if_neg (by decide), in_strs (hw q hq).2]
      exact k1 H3 (Same.refl _)
    intro H3 l3 hD3
    obtain ⟨h3, h4⟩ := lock_back ha2 l3
    have hDa2 : D2 ≠ a := by rintro rfl; rw [upd_same] at hD2; cases hD2
    refine ⟨h3, D2, _, rfl, SqL.of (by rw [upd_ne hDa2]; exact hD3), ?_⟩
    have e2 : (((rowKV r).map Prod.snd).map fun _ => true).all id = true := by simp
    rw [e2]
    refine ⟨true, rfl, iteF ?_⟩
    generalize upd H3 a (.dK (rowKV r)) = H4 at h4
    rcases hnm with rfl | ⟨b, r', rfl, hb, hs⟩
    · exact ⟨_, rfl, rfl, true, rfl, iteT (k _ (h2.trans h4))⟩
    · refine ⟨_, rfl, rfl, false, rfl, iteF ?_⟩
      exact ⟨_, rfl, _, rfl, a, b, r, r', rfl, h4 _ _ ha2, rd_same (h2.trans h4) hb, hs, hn, fun H5 e5 => k _ ((h2.trans h4).trans e5)⟩
end
end Pf

set_option Elab.async false
set_option maxRecDepth 100000
set_option linter.all false
set_option maxHeartbeats 4000000
namespace Pf
open PySem L2
theorem at0 {α : Type} (x : α) (xs : List α) : atI (x :: xs) 0 = some x := by simp [atI, ixN]
theorem FinKV.len {H : Hp} {kvs : List (Key × V)} {F : Fin} (h : FinKV H kvs F) : kvs.length = F.length := by
  have := congrArg List.length h.keys
  simpa using this
theorem FinKV.key {H : Hp} {kvs : List (Key × V)} {F : Fin} (h : FinKV H kvs F) {kv : Key × V} (hm : kv ∈ kvs) : ∃ x ∈ F, kv.1 = Sum.inr x.1 := by
  have : kv.1 ∈ (F.map Prod.fst).map (Sum.inr : Str → Key) := by rw [← h.keys]; exact List.mem_map.mpr ⟨kv, hm, rfl⟩
  obtain ⟨k, hk, e⟩ := List.mem_map.mp this
  obtain ⟨x, hx, rfl⟩ := List.mem_map.mp hk
  exact ⟨x, hx, e.symm⟩
theorem FinKV.row {H : Hp} {kvs : List (Key × V)} {F : Fin} (h : FinKV H kvs F) {v : V} (hm : v ∈ kvs.map Prod.snd) : ∃ x ∈ F, ∃ a, v = .ref a ∧ H a = some (.dK (rowKV x.2)) := by
  induction h with
  | nil => cases hm
  | @cons kv p l G r _ ih =>
    rcases List.mem_cons.mp hm with e | e
    · obtain ⟨_, a, h2, h3⟩ := r
      exact ⟨p, List.mem_cons_self, a, by rw [e, h2], h3⟩
    · obtain ⟨x, hx, q⟩ := ih e
      exact ⟨x, List.mem_cons_of_mem _ hx, q⟩
section
variable {P : Program} {w : World} {K : PySem.W.Frag} {mg : Str → Option Value} {base : Heap} {aE aR aK : Addr}
abbrev s_are_outcomes : Stmt := top 16
theorem sc_are_outcomes : FnScope ["value", "rows", "each", "outcome"] ["value"] (defScope s_are_outcomes) := ⟨rfl, rfl, rfl, by decide +kernel, rfl, by decide +kernel, by decide +kernel⟩
theorem ok_are_outcomes {f : Addr} {fd : FuncData} (F : Fun K "are_outcomes" "are_outcomes" s_are_outcomes f fd) (B : Bi mg) (G : Gs K w mg aE aR aK) (C_is_outcome : C8.Cal P w K mg base 2 "is_outcome" spIsOutcome []) (C_are_ends : C8.Cal P w K mg base 2 "are_ends" (spAreEnds K) []) (C_same_names : C8.Cal P w K mg base 1 "same_names" spSame []) : FnOk P w K mg base CX0 3 f fd ["value"] spAreOutcomes := by
  refine F.ok sc_are_outcomes (fun vs H Q E h => ?_) (fun cdv A outer s H vs Q E hr h => ?_)
  · obtain ⟨a, kvs, F, rfl, _⟩ := h
    rfl
  · obtain ⟨a, kvs, F, rfl, ha, hF, hn, hv, hs, k⟩ := h
    have hu := hu_of hr
    refine ⟨_, (pss_cons (ps_if (PW.pt (pw_or (pt_not (pt_val (pe_callB call_isi (by rfl) B.isinstance (by decide +kernel) (pa_cons (pv 0) (pa_cons (pe_bltn (v := .ty "dict") (u := .type "dict") (by rfl) B.dict (by decide +kernel) rfl) pa_nil))))) (pw_or1 (pt_not (pt_val (pe_callB (cr_all rfl) (by rfl) B.all (by decide +kernel) (pa_cons (pe_lock (pe_lc (own := [("outcome", 3)]) (g := gName 3) (by rfl) sc_are_outcomes.nd (pi_keys (pv 0)) (blkOk_by (own := [("outcome", 3)]) (N := ["value", "rows", "each", "outcome"]) (sc := defScope s_are_outcomes) (by decide +kernel)) (fun _ _ _ _ _ => (pg_name (i := 3) sc_are_outcomes.nd rfl (Or.inl rfl))) (fun _ _ _ _ _ => pts_nil) (fun _ _ _ _ _ => (C8.pe_c C_is_outcome hr (by decide) (by rfl) (pa_cons (pv 3) pa_nil))))) pa_nil)))))))
        (pss_one (ps_ret pe_bl))
        pss_nil)
      (pss_cons (ps_set (i := 1) sc_are_outcomes.nd rfl (Or.inr rfl) (pe_listVals rfl (pv 0) (by rfl) B.list (by decide +kernel)))
      (pss_cons (ps_if (pt_not (pt_val (pe_callB (cr_all rfl) (by rfl) B.all (by decide +kernel) (pa_cons (pe_lc (own := [("each", 2)]) (g := gName 2) (by rfl) sc_are_outcomes.nd (pi_list (pv 1)) (blkOk_by (own := [("each", 2)]) (N := ["value", "rows", "each", "outcome"]) (sc := defScope s_are_outcomes) (by decide +kernel)) (fun _ _ _ _ _ => (pg_name (i := 2) sc_are_outcomes.nd rfl (Or.inl rfl))) (fun _ _ _ _ _ => pts_nil) (fun _ _ _ _ _ => (C8.pe_c C_are_ends hr (by decide) (by rfl) (pa_cons (pv 2) (pa_cons pe_non (pa_cons (C8.pe_gc (by rfl) G.ENDS) pa_nil)))))) pa_nil))))
        (pss_one (ps_ret pe_bl))
        pss_nil)
      (pss_one (ps_ret (pe_callB (cr_all rfl) (by rfl) B.all (by decide +kernel) (pa_cons (pe_lc (own := [("each", 2)]) (g := gName 2) (by rfl) sc_are_outcomes.nd (pi_list (pv 1)) (blkOk_by (own := [("each", 2)]) (N := ["value", "rows", "each", "outcome"]) (sc := defScope s_are_outcomes) (by decide +kernel)) (fun _ _ _ _ _ => (pg_name (i := 2) sc_are_outcomes.nd rfl (Or.inl rfl))) (fun _ _ _ _ _ => pts_nil) (fun _ _ _ _ _ => (C8.pe_c C_same_names hr (by decide) (by rfl) (pa_cons (pv 2) (pa_cons (pe_ix (show IxR _ (rIxL K) from ix_list) (pv 1) pe_int (fun _ _ => rfl)) pa_nil))))) pa_nil))))))), ?_⟩
    refine ⟨_, rfl, _, _, _, _, true, rfl, .ty "dict", .base (.dK ha), kit_dict, true, rfl, iteF ?_⟩
    refine ⟨a, _, ha, trivial, fun od => ?_⟩
    refine ⟨_, rfl, a, od, rfl, .inl ⟨_, upd_same, fun D hD => ?_⟩⟩
    refine lc_bl walk_keysY (by simp) hD (by rw [hF.len]; omega) (fun _ => true) (fun H l => l _ _ upd_same) ?_ ?_
    · intro x hx H1 l1 K1 K0 k1
      obtain ⟨kv, hkv, rfl⟩ := List.mem_map.mp hx
      obtain ⟨q, hq, e⟩ := hF.key hkv
      rw [e]
      refine ⟨rfl, yes_of ⟨_, rfl, q.1, rfl, by have := (hv q hq).2.1; omega, fun H2 e2 => ?_⟩⟩
      rw [(hv q hq).1]
      exact k1 H2 e2
    intro H1 l1 hD1
    obtain ⟨h1, h2⟩ := lock_back ha l1
    have hDa : D ≠ a := by rintro rfl; rw [upd_same] at hD; cases hD
    refine ⟨h1, D, _, rfl, SqL.of (by rw [upd_ne hDa]; exact hD1), ?_⟩
    have e : ((kvs.map fun kv => kV kv.1).map fun _ => true).all id = true := by simp
    rw [e]
    refine ⟨true, rfl, iteF ?_⟩
    generalize upd H1 a (.dK kvs) = H2 at h2
    refine ⟨_, rfl, _, _, rfl, .inl (h2 _ _ ha), fun p hp => ?_⟩
    have e3 : Same H2 (upd H2 p (.lst (kvs.map Prod.snd))) := same_new hp
    have hp3 : upd H2 p (.lst (kvs.map Prod.snd)) p = some (.lst (kvs.map Prod.snd)) := upd_same
    generalize upd H2 p (.lst (kvs.map Prod.snd)) = H3 at e3 hp3
    have e03 := h2.trans e3
    have hF3 := hF.same e03
    refine ⟨_, rfl, p, rfl, ⟨_, SqL.of hp3⟩, fun D2 hD2 => ?_⟩
    refine lc_bl walk_list rfl hD2 (by rw [List.length_map, hF.len]; omega) (fun _ => true) (fun H l => SqL.of (l _ _ hp3)) ?_ ?_
    · intro x hx H4 l4 K1 K0 k1
      obtain ⟨y, hy, b, rfl, hb⟩ := hF3.row hx
      refine ⟨rfl, yes_of ⟨_, rfl, b, aE, .non, y.2, ends, rfl, l4 _ _ hb, G.endsT _, (hv y hy).2.2.1, (hv y hy).2.2.2, .inl rfl, fun H5 e5 => ?_⟩⟩
      exact k1 H5 e5
    intro H4 l4 hD4
    refine ⟨D2, _, rfl, SqL.of hD4, ?_⟩
    have e : ((kvs.map Prod.snd).map fun _ => true).all id = true := by simp
    rw [e]
    refine ⟨true, rfl, iteF ?_⟩
    refine ⟨_, rfl, p, rfl, ⟨_, SqL.of (l4 _ _ hp3)⟩, fun D3 hD3 => ?_⟩
    refine lc_bl walk_list rfl hD3 (by rw [List.length_map, hF.len]; omega) (fun _ => true) (fun H l => SqL.of (l _ _ (l4 _ _ hp3))) ?_ ?_
    · intro x hx H5 l5 K1 K0 k1
      have e05 := (l4.trans l5)
      obtain ⟨y, hy, b, rfl, hb⟩ := hF3.row hx
      cases hk : kvs.map Prod.snd with
      | nil => rw [hk] at hx; cases hx
      | cons x0 xr =>
        obtain ⟨y0, hy0, b0, e0, hb0⟩ := hF3.row (v := x0) (by rw [hk]; exact List.mem_cons_self)
        refine ⟨rfl, yes_of ⟨_, rfl, _, rfl, p, _, _, x0, rfl, rfl, SqL.of (e05 _ _ hp3), by rw [hk]; exact at0 _ _, ?_⟩⟩
        subst e0
        exact ⟨b, b0, y.2, y0.2, rfl, e05 _ _ hb, .inl (e05 _ _ hb0), hs y hy y0 hy0, (hv y hy).2.2.1, fun H6 e6 => k1 H6 e6⟩
    · intro H5 l5 hD5
      refine ⟨D3, _, rfl, SqL.of hD5, ?_⟩
      rw [e]
      exact k _ (e03.trans (l4.trans l5))
end
end Pf

set_option Elab.async false
set_option maxRecDepth 100000
set_option linter.all false
set_option maxHeartbeats 4000000
namespace Pf
open PySem PySem.Spec L2 PyProof.Rows
/-! ### sorted texts: one order only -/
def sLe (a b : Str) : Prop := ¬ b.cps.toList < a.cps.toList
theorem str_ext {a b : Str} (h : a.cps.toList = b.cps.toList) : a = b := by
  cases a; cases b
  simp at h
  rw [h]
theorem sLe_trans {a b c : Str} (h1 : sLe a b) (h2 : sLe b c) : sLe a c := by
  unfold sLe at *
  rw [List.not_lt] at *
  exact List.le_trans h1 h2
theorem sLe_antisymm {a b : Str} (h1 : sLe a b) (h2 : sLe b a) : a = b := by
  unfold sLe at *
  rw [List.not_lt] at *
  exact str_ext (List.le_antisymm h1 h2)
theorem rising_pw : ∀ (p : Str) (l : List Str), risingS p l = true → (p :: l).Pairwise sLe
  | p, [], _ => by simp
  | p, x :: r, h => by
    unfold risingS at h
    rw [Bool.and_eq_true, ltCps_eq] at h
    have h1 : sLe p x := by
      unfold sLe
      have := h.1
      simpa using this
    have h2 := rising_pw x r h.2
    refine List.Pairwise.cons (fun y hy => ?_) h2
    rcases List.mem_cons.mp hy with rfl | hy
    · exact h1
    · exact sLe_trans h1 ((List.pairwise_cons.mp h2).1 y hy)
theorem sorted_pw (l : List Str) (h : sortedS l = true) : l.Pairwise sLe := by
  cases l with
  | nil => simp
  | cons x r => exact rising_pw x r h
theorem sorted_one {l l' : List Str} (h : sortedS l = true) (h' : sortedS l' = true) (p : l.Perm l') : l = l' :=
  List.Perm.eq_of_pairwise (fun a b _ _ h1 h2 => sLe_antisymm h1 h2) (sorted_pw l h) (sorted_pw l' h') p
/-! ### levels by number -/
abbrev Lv := _root_.Fin 3
def eL : Lv → Str
  | 0 => "set"
  | 1 => "keep"
  | 2 => "unset"
def rL : Lv → Str
  | 0 => "none"
  | 1 => "entry"
  | 2 => "always"
def cRow (E : Lv → Str) (ns : List Str) (f : Str → Lv) : Row := ns.map fun n => (n, E (f n))
theorem rank_eL : ∀ i : Lv, rank (eL i) = (i.val : Int) := by decide +kernel
theorem rank_rL : ∀ i : Lv, rank (rL i) = (i.val : Int) := by decide +kernel
theorem eL_mem : ∀ i : Lv, eL i ∈ ends := by decide +kernel
theorem rL_mem : ∀ i : Lv, rL i ∈ reads := by decide +kernel
def IsL (E : Lv → Str) : Prop := E = eL ∨ E = rL
theorem IsL.rank {E : Lv → Str} (h : IsL E) (i : Lv) : rank (E i) = (i.val : Int) := by
  rcases h with rfl | rfl
  · exact rank_eL i
  · exact rank_rL i
theorem IsL.mem {E : Lv → Str} (h : IsL E) (i : Lv) : E i ∈ ends ∨ E i ∈ reads := by
  rcases h with rfl | rfl
  · exact .inl (eL_mem i)
  · exact .inr (rL_mem i)
theorem IsL.inj {E : Lv → Str} (h : IsL E) {i j : Lv} (e : E i = E j) : i = j := by
  have := h.rank i
  rw [e, h.rank j] at this
  exact _root_.Fin.ext (by omega)
theorem cRow_keys (E : Lv → Str) (ns : List Str) (f : Str → Lv) : (cRow E ns f).map Prod.fst = ns := by
  unfold cRow
  rw [List.map_map]
  exact List.map_id _
theorem cRow_val {E : Lv → Str} {f : Str → Lv} {n : Str} : ∀ {ns : List Str}, n ∈ ns → valV (rowKV (cRow E ns f)) (Sum.inr n) = some (.str (E (f n)))
  | m :: ns, h => by
    show valV ((Sum.inr m, V.str (E (f m))) :: rowKV (cRow E ns f)) (Sum.inr n) = _
    by_cases e : m = n
    · rw [valV_pos (by rw [e]), e]
    · rw [valV_neg (fun q => e (Sum.inr.inj q))]
      refine cRow_val ?_
      rcases List.mem_cons.mp h with q | q
      · exact absurd q.symm e
      · exact q
theorem cRow_snoc {E : Lv → Str} {f : Str → Lv} {ns : List Str} {n : Str} (h : n ∉ ns) : putK (rowKV (cRow E ns f)) (Sum.inr n) (.str (E (f n))) = rowKV (cRow E (ns ++ [n]) f) := by
  rw [putK_fresh _ _ _ (by rw [rowKV_keys, cRow_keys]; intro q; obtain ⟨m, hm, e⟩ := List.mem_map.mp q; exact h (Sum.inr.inj e ▸ hm))]
  unfold rowKV cRow
  simp
theorem cRow_at (E : Lv → Str) (f : Str → Lv) {ns : List Str} {i : Nat} (hi : i < ns.length) : (rowKV (cRow E ns f))[i]? = some (Sum.inr ns[i], V.str (E (f ns[i]))) := by
  unfold rowKV cRow
  rw [List.getElem?_map, List.getElem?_map, List.getElem?_eq_getElem hi]
  rfl
/-- the greatest lower, the least upper -/
def lvLo (a b : Lv) : Lv := if a ≤ b then a else b
def lvHi (a b : Lv) : Lv := if a ≥ b then a else b
def spPickRow (op : Lv → Lv → Lv) : Sp := fun vs H Q _ => ∃ (a b : Addr) (E : Lv → Str) (ns : List Str) (f g : Str → Lv), vs = [.ref a, .ref b] ∧ IsL E ∧ ns.Nodup ∧ ns.length ≤ 1000 ∧ H a = some (.dK (rowKV (cRow E ns f))) ∧ H b = some (.dK (rowKV (cRow E ns g))) ∧
  ∀ q H', H q = none → Same H H' → H' q = some (.dK (rowKV (cRow E ns fun n => op (f n) (g n)))) → Q (.ref q) H'
theorem nodup_at {ns : List Str} (h : ns.Nodup) {i : Nat} (hi : i < ns.length) : ns[i] ∉ ns.take i := by
  intro q
  have e : ns.take (i + 1) = ns.take i ++ [ns[i]] := by rw [List.take_succ, List.getElem?_eq_getElem hi]; rfl
  have h2 : (ns.take (i + 1)).Nodup := h.sublist (List.take_sublist _ _)
  rw [e] at h2
  exact (List.nodup_append.mp h2).2.2 _ q _ (by simp) rfl
theorem take_at {ns : List Str} {i : Nat} (hi : i < ns.length) : ns.take (i + 1) = ns.take i ++ [ns[i]] := by rw [List.take_succ, List.getElem?_eq_getElem hi]; rfl
section
variable {P : Program} {w : World} {K : PySem.W.Frag} {mg : Str → Option Value} {base : Heap} {aE aR aK : Addr}
abbrev s_lesser : Stmt := top 18
theorem sc_lesser : FnScope ["one", "other", "name", "level"] ["one", "other"] (defScope s_lesser) := ⟨rfl, rfl, rfl, by decide +kernel, rfl, by decide +kernel, by decide +kernel⟩
theorem ok_lesser {f : Addr} {fd : FuncData} (F : Fun K "lesser" "lesser" s_lesser f fd) (B : Bi mg) (G : Gs K w mg aE aR aK) : FnOk P w K mg base CX0 1 f fd ["one", "other"] (spPickRow lvLo) := by
  refine F.ok sc_lesser (fun vs H Q E h => ?_) (fun cdv A outer s H vs Q E hr h => ?_)
  · obtain ⟨a, b, E, ns, f, g, rfl, _⟩ := h
    rfl
  · obtain ⟨a, b, E, ns, f, g, rfl, hE, hnd, hn, ha, hb, k⟩ := h
    have hu := hu_of hr
    refine ⟨_, (pss_one (ps_ret (pe_lock (pe_dc (own := [("name", 2), ("level", 3)]) (g := gTup K 2 (gCons (gName 2) (gCons (gName 3) gNil))) (by rfl) sc_lesser.nd (pi_items (pv 0)) (blkOk_by (own := [("name", 2), ("level", 3)]) (N := ["one", "other", "name", "level"]) (sc := defScope s_lesser) (by decide +kernel)) (fun _ _ _ _ _ => (pg_tup rfl (pgs_cons (pg_name (i := 2) sc_lesser.nd rfl (Or.inl rfl)) (pgs_cons (pg_name (i := 3) sc_lesser.nd rfl (Or.inl rfl)) pgs_nil)))) (fun _ _ _ _ _ => pts_nil) (fun _ _ _ _ _ => (pv 2)) (fun _ _ _ _ _ => (pe_ifExp (pt_cmpR op_le (pe_ix (show IxR _ (rIxD K w) from ix_kdict) (C8.pe_gc (by rfl) G.RANKS) (pv 3) (fun _ _ => rfl)) (pe_ix (show IxR _ (rIxD K w) from ix_kdict) (C8.pe_gc (by rfl) G.RANKS) (pe_dget hu (pv 1) (pv 2) (fun _ _ => rfl)) (fun _ _ => rfl)) (nomark _)) (pv 3) (pe_dget hu (pv 1) (pv 2) (fun _ _ => rfl)))))))), ?_⟩
    refine ⟨a, _, ha, trivial, fun od => ?_⟩
    refine ⟨_, rfl, a, od, _, rfl, upd_same, fun D hD => ?_⟩
    refine dc_gen walk_items rel_ex hD (by rw [rowKV_len]; unfold cRow; rw [List.length_map]; omega) (fun _ l d => l _ _ d) (fun i ys H' => ys = rowKV (cRow E (ns.take i) fun n => lvLo (f n) (g n))) rfl (fun i ys H' l _ => l _ _ upd_same) (fun _ _ _ _ _ _ _ s => s) ?_ ?_
    · rintro i x ys H1 H1' hi l1 hD1 rfl ⟨T, x, y, rfl, hT, rfl, hx, hy⟩ K1 K0 k1 k0
      have hi' : i < ns.length := by rw [rowKV_len] at hi; unfold cRow at hi; rwa [List.length_map] at hi
      have e0 := cRow_at E f hi'
      have hx : (rowKV (cRow E ns f))[i]?.map (fun kv => kV kv.1) = some x := hx
      have hy : (rowKV (cRow E ns f))[i]?.map Prod.snd = some y := hy
      rw [e0] at hx hy
      obtain rfl := Option.some.inj hx
      obtain rfl := Option.some.inj hy
      refine ⟨T, _, rfl, SqT.of upd_same, rfl, _, _, rfl, _, _, rfl, rfl, rfl, yes_of ?_⟩
      have hm : ns[i] ∈ ns := List.getElem_mem hi'
      have l2 : Same H1 (upd H1 T (.tup [kV (Sum.inr ns[i]), .str (E (f ns[i]))])) := same_new hT
      have hb2 : Rd (upd H1 T (.tup [kV (Sum.inr ns[i]), .str (E (f ns[i]))])) b (.dK (rowKV (cRow E ns g))) := rd_same (l1.trans l2) (rd_lock ha (.inl hb) fun _ _ z => by cases z)
      have gt : DGet (upd H1 T (.tup [kV (Sum.inr ns[i]), .str (E (f ns[i]))])) b (.str ns[i]) (some (.str (E (g ns[i])))) := .inl ⟨_, Sum.inr ns[i], hb2, rfl, (cRow_val hm).symm⟩
      refine ⟨_, rfl, ?_⟩
      refine ⟨_, rfl, aK, _, _, rfl, rfl, G.ranks _ (hE.mem _), _, rfl, _, rfl, b, _, rfl, gt, aK, _, _, rfl, rfl, G.ranks _ (hE.mem _), _, _, rfl, rfl, _, rfl, ?_⟩
      rw [hE.rank, hE.rank]
      have fin : ∀ z, z = E (lvLo (f ns[i]) (g ns[i])) → K1 (kV (Sum.inr ns[i])) (.str z) (upd H1 T (.tup [kV (Sum.inr ns[i]), .str (E (f ns[i]))])) := fun z ez => by
        refine k1 (Sum.inr ns[i]) _ _ l2 ?_
        rw [ez, take_at hi']
        exact cRow_snoc (f := fun n => lvLo (f n) (g n)) (nodup_at hnd hi')
      by_cases c : f ns[i] ≤ g ns[i]
      · refine iteT' (decide_eq_true (Int.ofNat_le.mpr (_root_.Fin.le_def.mp c))) ?_
        exact ⟨_, rfl, fin _ (by unfold lvLo; rw [if_pos c])⟩
      · refine iteF' (decide_eq_false fun q => c (_root_.Fin.le_def.mpr (Int.ofNat_le.mp q))) ?_
        exact ⟨_, rfl, _, rfl, b, _, rfl, gt, fin _ (by unfold lvLo; rw [if_neg c])⟩
    · rintro ys H1 l1 _ hD1 rfl
      obtain ⟨h1, h2⟩ := lock_back ha l1
      have hDa : D ≠ a := by rintro rfl; rw [upd_same] at hD; cases hD
      refine ⟨h1, k D _ (by rw [upd_ne hDa] at hD; exact hD) h2 ?_⟩
      rw [upd_ne hDa, hD1, rowKV_len]
      unfold cRow
      simp
abbrev s_greater : Stmt := top 19
theorem sc_greater : FnScope ["one", "other", "name", "level"] ["one", "other"] (defScope s_greater) := ⟨rfl, rfl, rfl, by decide +kernel, rfl, by decide +kernel, by decide +kernel⟩
theorem ok_greater {f : Addr} {fd : FuncData} (F : Fun K "greater" "greater" s_greater f fd) (B : Bi mg) (G : Gs K w mg aE aR aK) : FnOk P w K mg base CX0 1 f fd ["one", "other"] (spPickRow lvHi) := by
  refine F.ok sc_greater (fun vs H Q E h => ?_) (fun cdv A outer s H vs Q E hr h => ?_)
  · obtain ⟨a, b, E, ns, f, g, rfl, _⟩ := h
    rfl
  · obtain ⟨a, b, E, ns, f, g, rfl, hE, hnd, hn, ha, hb, k⟩ := h
    have hu := hu_of hr
    refine ⟨_, (pss_one (ps_ret (pe_lock (pe_dc (own := [("name", 2), ("level", 3)]) (g := gTup K 2 (gCons (gName 2) (gCons (gName 3) gNil))) (by rfl) sc_greater.nd (pi_items (pv 0)) (blkOk_by (own := [("name", 2), ("level", 3)]) (N := ["one", "other", "name", "level"]) (sc := defScope s_greater) (by decide +kernel)) (fun _ _ _ _ _ => (pg_tup rfl (pgs_cons (pg_name (i := 2) sc_greater.nd rfl (Or.inl rfl)) (pgs_cons (pg_name (i := 3) sc_greater.nd rfl (Or.inl rfl)) pgs_nil)))) (fun _ _ _ _ _ => pts_nil) (fun _ _ _ _ _ => (pv 2)) (fun _ _ _ _ _ => (pe_ifExp (pt_cmpR op_ge (pe_ix (show IxR _ (rIxD K w) from ix_kdict) (C8.pe_gc (by rfl) G.RANKS) (pv 3) (fun _ _ => rfl)) (pe_ix (show IxR _ (rIxD K w) from ix_kdict) (C8.pe_gc (by rfl) G.RANKS) (pe_dget hu (pv 1) (pv 2) (fun _ _ => rfl)) (fun _ _ => rfl)) (nomark _)) (pv 3) (pe_dget hu (pv 1) (pv 2) (fun _ _ => rfl)))))))), ?_⟩
    refine ⟨a, _, ha, trivial, fun od => ?_⟩
    refine ⟨_, rfl, a, od, _, rfl, upd_same, fun D hD => ?_⟩
    refine dc_gen walk_items rel_ex hD (by rw [rowKV_len]; unfold cRow; rw [List.length_map]; omega) (fun _ l d => l _ _ d) (fun i ys H' => ys = rowKV (cRow E (ns.take i) fun n => lvHi (f n) (g n))) rfl (fun i ys H' l _ => l _ _ upd_same) (fun _ _ _ _ _ _ _ s => s) ?_ ?_
    · rintro i x ys H1 H1' hi l1 hD1 rfl ⟨T, x, y, rfl, hT, rfl, hx, hy⟩ K1 K0 k1 k0
      have hi' : i < ns.length := by rw [rowKV_len] at hi; unfold cRow at hi; rwa [List.length_map] at hi
      have e0 := cRow_at E f hi'
      have hx : (rowKV (cRow E ns f))[i]?.map (fun kv => kV kv.1) = some x := hx
      have hy : (rowKV (cRow E ns f))[i]?.map Prod.snd = some y := hy
      rw [e0] at hx hy
      obtain rfl := Option.some.inj hx
      obtain rfl := Option.some.inj hy
      refine ⟨T, _, rfl, SqT.of upd_same, rfl, _, _, rfl, _, _, rfl, rfl, rfl, yes_of ?_⟩
      have hm : ns[i] ∈ ns := List.getElem_mem hi'
      have l2 : Same H1 (upd H1 T (.tup [kV (Sum.inr ns[i]), .str (E (f ns[i]))])) := same_new hT
      have hb2 : Rd (upd H1 T (.tup [kV (Sum.inr ns[i]), .str (E (f ns[i]))])) b (.dK (rowKV (cRow E ns g))) := rd_same (l1.trans l2) (rd_lock ha (.inl hb) fun _ _ z => by cases z)
      have gt : DGet (upd H1 T (.tup [kV (Sum.inr ns[i]), .str (E (f ns[i]))])) b (.str ns[i]) (some (.str (E (g ns[i])))) := .inl ⟨_, Sum.inr ns[i], hb2, rfl, (cRow_val hm).symm⟩
      refine ⟨_, rfl, ?_⟩
      refine ⟨_, rfl, aK, _, _, rfl, rfl, G.ranks _ (hE.mem _), _, rfl, _, rfl, b, _, rfl, gt, aK, _, _, rfl, rfl, G.ranks _ (hE.mem _), _, _, rfl, rfl, _, rfl, ?_⟩
      rw [hE.rank, hE.rank]
      have fin : ∀ z, z = E (lvHi (f ns[i]) (g ns[i])) → K1 (kV (Sum.inr ns[i])) (.str z) (upd H1 T (.tup [kV (Sum.inr ns[i]), .str (E (f ns[i]))])) := fun z ez => by
        refine k1 (Sum.inr ns[i]) _ _ l2 ?_
        rw [ez, take_at hi']
        exact cRow_snoc (f := fun n => lvHi (f n) (g n)) (nodup_at hnd hi')
      by_cases c : f ns[i] ≥ g ns[i]
      · refine iteT' (decide_eq_true (Int.ofNat_le.mpr (_root_.Fin.le_def.mp c))) ?_
        exact ⟨_, rfl, fin _ (by unfold lvHi; rw [if_pos c])⟩
      · refine iteF' (decide_eq_false fun q => c (_root_.Fin.le_def.mpr (Int.ofNat_le.mp q))) ?_
        exact ⟨_, rfl, _, rfl, b, _, rfl, gt, fin _ (by unfold lvHi; rw [if_neg c])⟩
    · rintro ys H1 l1 _ hD1 rfl
      obtain ⟨h1, h2⟩ := lock_back ha l1
      have hDa : D ≠ a := by rintro rfl; rw [upd_same] at hD; cases hD
      refine ⟨h1, k D _ (by rw [upd_ne hDa] at hD; exact hD) h2 ?_⟩
      rw [upd_ne hDa, hD1, rowKV_len]
      unfold cRow
      simp
end
end Pf

set_option Elab.async false
set_option maxRecDepth 100000
set_option linter.all false
set_option maxHeartbeats 4000000
namespace Pf
open PySem PySem.Spec L2 PyProof.Rows
def spOrdered : Sp := fun vs H Q _ => ∃ (a : Addr) (E : Lv → Str) (ws ns : List Str) (f : Str → Lv), vs = [.ref a] ∧ H a = some (.dK (rowKV (cRow E ws f))) ∧ ws.Nodup ∧ ws.length ≤ 4 ∧ ns.Perm ws ∧ sortedS ns = true ∧
  ∀ q H', H q = none → Same H H' → H' q = some (.dK (rowKV (cRow E ns f))) → Q (.ref q) H'
/-- every level of the one is at most that of the other one -/
def lowB (ns : List Str) (f g : Str → Lv) : Bool := ns.all fun n => decide (f n ≤ g n)
def spLow : Sp := fun vs H Q _ => ∃ (a b : Addr) (E : Lv → Str) (ns : List Str) (f g : Str → Lv), vs = [.ref a, .ref b] ∧ IsL E ∧ ns.length ≤ 1000 ∧ H a = some (.dK (rowKV (cRow E ns f))) ∧ H b = some (.dK (rowKV (cRow E ns g))) ∧
  ∀ H', Same H H' → Q (.bl (lowB ns f g)) H'
theorem rowKV_keysC (E : Lv → Str) (ws : List Str) (f : Str → Lv) : (rowKV (cRow E ws f)).map (·.1) = ws.map Sum.inr := by
  rw [show (rowKV (cRow E ws f)).map (·.1) = ((cRow E ws f).map Prod.fst).map Sum.inr from rowKV_keys _, cRow_keys]
section
variable {P : Program} {w : World} {K : PySem.W.Frag} {mg : Str → Option Value} {base : Heap} {aE aR aK : Addr}
abbrev s_ordered : Stmt := top 17
theorem sc_ordered : FnScope ["levels", "key"] ["levels"] (defScope s_ordered) := ⟨rfl, rfl, rfl, by decide +kernel, rfl, by decide +kernel, by decide +kernel⟩
theorem ok_ordered {f : Addr} {fd : FuncData} (F : Fun K "ordered" "ordered" s_ordered f fd) (B : Bi mg) : FnOk P w K mg base CX0 1 f fd ["levels"] spOrdered := by
  refine F.ok sc_ordered (fun vs H Q E h => ?_) (fun cdv A outer s H vs Q E hr h => ?_)
  · obtain ⟨a, E, ws, ns, f, rfl, _⟩ := h
    rfl
  · obtain ⟨a, E, ws, ns, f, rfl, ha, hnd, hl, hp, hs, k⟩ := h
    have hu := hu_of hr
    refine ⟨_, (pss_one (ps_ret (pe_dc (own := [("key", 1)]) (g := gName 1) (by rfl) sc_ordered.nd (pi_list (pe_callB (show CallR _ (.builtin "sorted") (rSortedS' w) from cr_sortedSetS rfl) (by rfl) B.sorted (by decide +kernel) (pa_cons (pe_callTy (show CallR _ (.type "set") (rSetD w) from cr_setD) (by rfl) B.set (by decide +kernel) (pa_cons (pv 0) pa_nil)) pa_nil))) (blkOk_by (own := [("key", 1)]) (N := ["levels", "key"]) (sc := defScope s_ordered) (by decide +kernel)) (fun _ _ _ _ _ => (pg_name (i := 1) sc_ordered.nd rfl (Or.inl rfl))) (fun _ _ _ _ _ => pts_nil) (fun _ _ _ _ _ => (pv 1)) (fun _ _ _ _ _ => (pe_dget hu (pv 0) (pv 1) (fun _ _ => rfl)))))), ?_⟩
    refine ⟨_, rfl, a, _, ws, rfl, .inl ha, rowKV_keysC E ws f, hl, fun p1 hp1 => ?_⟩
    refine ⟨p1, ws, rfl, upd_same, by omega, fun ys p2 hys hsy hp2 => ?_⟩
    obtain rfl : ys = ns := sorted_one hsy hs (hys.trans hp.symm)
    have hnd2 : ys.Nodup := hys.symm.nodup hnd
    have e1 : Same H (upd (upd H p1 (SetSO w p1 ws)) p2 (.lst (ys.map V.str))) := (same_new hp1).trans (same_new hp2)
    have hp3 : upd (upd H p1 (SetSO w p1 ws)) p2 (.lst (ys.map V.str)) p2 = some (.lst (ys.map V.str)) := upd_same
    generalize upd (upd H p1 (SetSO w p1 ws)) p2 (.lst (ys.map V.str)) = H1 at e1 hp3
    refine ⟨p2, rfl, ⟨_, SqL.of hp3⟩, fun D hD => ?_⟩
    refine dc_gen walk_list rel_ex hD (by rw [List.length_map, hys.length_eq]; omega) (fun _ l d => l _ _ d) (fun i kvs H' => kvs = rowKV (cRow E (ys.take i) f)) rfl (fun i kvs H' l _ => SqL.of (l _ _ hp3)) (fun _ _ _ _ _ _ _ s => s) ?_ ?_
    · rintro i x kvs H2 H2' hi l2 hD2 rfl ⟨rfl, hx⟩ K1 K0 k1 k0
      have hi' : i < ys.length := by rwa [List.length_map] at hi
      rw [List.getElem?_map, List.getElem?_eq_getElem hi'] at hx
      obtain rfl := Option.some.inj hx
      refine ⟨rfl, yes_of ⟨_, rfl, _, rfl, _, rfl, a, _, rfl, .inl ⟨_, Sum.inr ys[i], .inl (l2 _ _ (e1 _ _ ha)), rfl, (cRow_val (hys.subset (List.getElem_mem hi'))).symm⟩, ?_⟩⟩
      refine k1 (Sum.inr ys[i]) _ _ (Same.refl _) ?_
      rw [take_at hi']
      exact cRow_snoc (nodup_at hnd2 hi')
    · rintro kvs H2 l2 _ hD2 rfl
      refine k D _ ?_ (e1.trans l2) ?_
      · cases hh : H D with
        | none => rfl
        | some u => rw [e1 _ _ hh] at hD; cases hD
      · rw [hD2, List.length_map, List.take_length]
abbrev s_are_low : Stmt := top 22
theorem sc_are_low : FnScope ["one", "other", "name", "level"] ["one", "other"] (defScope s_are_low) := ⟨rfl, rfl, rfl, by decide +kernel, rfl, by decide +kernel, by decide +kernel⟩
theorem ok_low {f : Addr} {fd : FuncData} (F : Fun K "are_low" "are_low" s_are_low f fd) (B : Bi mg) (G : Gs K w mg aE aR aK) : FnOk P w K mg base CX0 1 f fd ["one", "other"] spLow := by
  refine F.ok sc_are_low (fun vs H Q E h => ?_) (fun cdv A outer s H vs Q E hr h => ?_)
  · obtain ⟨a, b, E, ns, f, g, rfl, _⟩ := h
    rfl
  · obtain ⟨a, b, E, ns, f, g, rfl, hE, hn, ha, hb, k⟩ := h
    have hu := hu_of hr
    refine ⟨_, (pss_one (ps_ret (pe_callB (cr_all rfl) (by rfl) B.all (by decide +kernel) (pa_cons (pe_lock (pe_lc (own := [("name", 2), ("level", 3)]) (g := gTup K 2 (gCons (gName 2) (gCons (gName 3) gNil))) (by rfl) sc_are_low.nd (pi_items (pv 0)) (blkOk_by (own := [("name", 2), ("level", 3)]) (N := ["one", "other", "name", "level"]) (sc := defScope s_are_low) (by decide +kernel)) (fun _ _ _ _ _ => (pg_tup rfl (pgs_cons (pg_name (i := 2) sc_are_low.nd rfl (Or.inl rfl)) (pgs_cons (pg_name (i := 3) sc_are_low.nd rfl (Or.inl rfl)) pgs_nil)))) (fun _ _ _ _ _ => pts_nil) (fun _ _ _ _ _ => (pe_cmpR op_le (pe_ix (show IxR _ (rIxD K w) from ix_kdict) (C8.pe_gc (by rfl) G.RANKS) (pv 3) (fun _ _ => rfl)) (pe_ix (show IxR _ (rIxD K w) from ix_kdict) (C8.pe_gc (by rfl) G.RANKS) (pe_dget hu (pv 1) (pv 2) (fun _ _ => rfl)) (fun _ _ => rfl)) (nomark _))))) pa_nil)))), ?_⟩
    refine ⟨a, _, ha, trivial, fun od => ?_⟩
    refine ⟨_, rfl, a, od, _, rfl, upd_same, fun D hD => ?_⟩
    refine lc_gen walk_items rel_ex hD (by rw [rowKV_len]; unfold cRow; rw [List.length_map]; omega) (fun i ys H' => ys = ((ns.take i).map fun n => decide (f n ≤ g n)).map V.bl) rfl (fun i ys H' l _ => l _ _ upd_same) (fun _ _ _ _ _ _ _ s => s) ?_ ?_
    · rintro i x ys H1 H1' hi l1 hD1 rfl ⟨T, x, y, rfl, hT, rfl, hx, hy⟩ K1 K0 k1 k0
      have hi' : i < ns.length := by rw [rowKV_len] at hi; unfold cRow at hi; rwa [List.length_map] at hi
      have e0 := cRow_at E f hi'
      have hx : (rowKV (cRow E ns f))[i]?.map (fun kv => kV kv.1) = some x := hx
      have hy : (rowKV (cRow E ns f))[i]?.map Prod.snd = some y := hy
      rw [e0] at hx hy
      obtain rfl := Option.some.inj hx
      obtain rfl := Option.some.inj hy
      refine ⟨T, _, rfl, SqT.of upd_same, rfl, _, _, rfl, _, _, rfl, rfl, rfl, yes_of ?_⟩
      have hm : ns[i] ∈ ns := List.getElem_mem hi'
      have l2 : Same H1 (upd H1 T (.tup [kV (Sum.inr ns[i]), .str (E (f ns[i]))])) := same_new hT
      have hb2 : Rd (upd H1 T (.tup [kV (Sum.inr ns[i]), .str (E (f ns[i]))])) b (.dK (rowKV (cRow E ns g))) := rd_same (l1.trans l2) (rd_lock ha (.inl hb) fun _ _ z => by cases z)
      have gt : DGet (upd H1 T (.tup [kV (Sum.inr ns[i]), .str (E (f ns[i]))])) b (.str ns[i]) (some (.str (E (g ns[i])))) := .inl ⟨_, Sum.inr ns[i], hb2, rfl, (cRow_val hm).symm⟩
      refine ⟨_, rfl, aK, _, _, rfl, rfl, G.ranks _ (hE.mem _), _, rfl, _, rfl, b, _, rfl, gt, aK, _, _, rfl, rfl, G.ranks _ (hE.mem _), _, _, rfl, rfl, ?_⟩
      rw [hE.rank, hE.rank]
      have ec : decide (((f ns[i]).val : Int) ≤ ((g ns[i]).val : Int)) = decide (f ns[i] ≤ g ns[i]) := by
        rw [decide_eq_decide]
        exact Int.ofNat_le.trans _root_.Fin.le_def.symm
      show K1 (V.bl (decide (((f ns[i]).val : Int) ≤ ((g ns[i]).val : Int)))) _
      rw [ec]
      refine k1 _ _ l2 ?_
      rw [take_at hi', List.map_append, List.map_append]
      rfl
    · rintro ys H1 l1 _ hD1 rfl
      obtain ⟨h1, h2⟩ := lock_back ha l1
      have hDa : D ≠ a := by rintro rfl; rw [upd_same] at hD; cases hD
      refine ⟨h1, D, _, rfl, SqL.of (by rw [upd_ne hDa]; exact hD1), ?_⟩
      have e : (((ns.take (rowKV (cRow E ns f)).length).map fun n => decide (f n ≤ g n)).all id) = lowB ns f g := by
        rw [rowKV_len]
        unfold cRow lowB
        rw [List.length_map, List.take_length, List.all_map]
        rfl
      rw [e]
      exact k _ h2
end
end Pf

set_option Elab.async false
set_option maxRecDepth 100000
set_option linter.all false
set_option maxHeartbeats 4000000
namespace Pf
open PySem PySem.Spec L2 PyProof.Rows
/-! ### profiles -/
structure Pr where
  p : Str → Bool
  m : Str → Str → Lv
  q : Str → Lv
def gFin (os ns : List Str) (m : Str → Str → Lv) : Fin := os.map fun o => (o, cRow eL ns (m o))
def Pr.os (X : Pr) : List Str := outs.filter X.p
def FinX (D : Addr) (H : Hp) : List (Key × V) → Fin → Prop := Paired fun kv p => kv.1 = Sum.inr p.1 ∧ ∃ a, kv.2 = .ref a ∧ a ≠ D ∧ H a = some (.dK (rowKV p.2))
theorem FinX.kv {D : Addr} {H : Hp} {kvs : List (Key × V)} {F : Fin} (h : FinX D H kvs F) : FinKV H kvs F := Paired.mapP h fun _ _ ⟨h1, a, h2, _, h3⟩ => ⟨h1, a, h2, h3⟩
theorem FinX.chg {D : Addr} {H : Hp} {kvs : List (Key × V)} {F : Fin} {o : HO} (h : FinX D H kvs F) : FinX D (upd H D o) kvs F := Paired.mapP h fun _ _ ⟨h1, a, h2, h3, h4⟩ => ⟨h1, a, h2, h3, by rw [upd_ne h3]; exact h4⟩
theorem FinX.same {D : Addr} {H H' : Hp} {kvs : List (Key × V)} {F : Fin} (h : FinX D H kvs F) (e : Same H H') : FinX D H' kvs F := Paired.mapP h fun _ _ ⟨h1, a, h2, h3, h4⟩ => ⟨h1, a, h2, h3, e _ _ h4⟩
theorem FinX.keys {D : Addr} {H : Hp} {kvs : List (Key × V)} {F : Fin} (h : FinX D H kvs F) : kvs.map Prod.fst = (F.map Prod.fst).map Sum.inr := h.kv.keys
theorem gFin_keys (os ns : List Str) (m : Str → Str → Lv) : (gFin os ns m).map Prod.fst = os := by
  unfold gFin
  rw [List.map_map]
  exact List.map_id _
theorem gFin_val {H : Hp} {ns : List Str} {m : Str → Str → Lv} {o : Str} : ∀ {os : List Str} {kvs : List (Key × V)}, FinKV H kvs (gFin os ns m) → o ∈ os → ∃ a, valV kvs (Sum.inr o) = some (.ref a) ∧ H a = some (.dK (rowKV (cRow eL ns (m o)))) := by
  intro os kvs h ho
  obtain ⟨a, r, h1, h2, h3⟩ := fin_val h (o := o) (by rw [gFin_keys]; exact ho)
  obtain ⟨o', _, e⟩ := List.mem_map.mp h3
  injection e with e1 e2
  subst e1
  subst e2
  exact ⟨a, h1, h2⟩
def InsAt (C : Addr) (H : Hp) (v : V) (ns : List Str) (X : Pr) : Prop := ∃ a dx fo ro kvs, v = .ref a ∧ H a = some (.ins C dx [("own_outcomes", .ref fo), ("own_reads", .ref ro)]) ∧ H fo = some (.dK kvs) ∧ FinKV H kvs (gFin X.os ns X.m) ∧ H ro = some (.dK (rowKV (cRow rL ns X.q)))
theorem ins_ne_pen {C dx : Addr} {fs : List (Str × V)} {c : Addr} {x y : Int} : HO.ins C dx fs ≠ penO c x y := fun h => by cases h
theorem InsAt.exp {C : Addr} {H H' : Hp} {v : V} {ns : List Str} {X : Pr} (h : InsAt C H v ns X) (e : ExP H H') : InsAt C H' v ns X := by
  obtain ⟨a, dx, fo, ro, kvs, h1, h2, h3, h4, h5⟩ := h
  exact ⟨a, dx, fo, ro, kvs, h1, e.at h2 fun _ _ _ => ins_ne_pen, e.at h3 (fin_np h4), h4.exp e, e.at h5 (row_np _)⟩
/-- the profile of the outcomes os -/
def prOf (os : List Str) (m : Str → Str → Lv) (q : Str → Lv) : Pr := ⟨fun o => decide (o ∈ os), m, q⟩
theorem outs_pw : outs.Pairwise (fun a b => ltCps b.cps.toList a.cps.toList = false) := by
  unfold outs
  decide +kernel
theorem outs_nodup : outs.Nodup := by decide +kernel
theorem os_sorted (p : Str → Bool) : sortedS (outs.filter p) = true := sortedS_of_pairwise _ (outs_pw.sublist List.filter_sublist)
theorem perm_of_mem {l l' : List Str} (h : l.Nodup) (h' : l'.Nodup) (e : ∀ x, x ∈ l ↔ x ∈ l') : l.Perm l' := by
  refine (List.perm_iff_count).mpr fun x => ?_
  rw [h.count, h'.count]
  by_cases c : x ∈ l
  · rw [if_pos c, if_pos ((e x).mp c)]
  · rw [if_neg c, if_neg (fun q => c ((e x).mpr q))]
theorem prOf_perm {os : List Str} {m : Str → Str → Lv} {q : Str → Lv} (h : os.Nodup) (hs : ∀ o ∈ os, o ∈ outs) : (prOf os m q).os.Perm os := by
  refine perm_of_mem (outs_nodup.sublist List.filter_sublist) h fun x => ?_
  unfold Pr.os
  rw [List.mem_filter]
  constructor
  · intro q
    exact of_decide_eq_true q.2
  · intro q
    exact ⟨hs x q, decide_eq_true q⟩
theorem outs_ok : ∀ o ∈ outs, isOutcome o = true ∧ o.length ≤ 1000 := by decide +kernel
/-- what Profile(...) is given -/
structure Raw (H : Hp) (fa ra : Addr) (os ws : List Str) (m : Str → Str → Lv) (q : Str → Lv) : Prop where
  fin : ∃ kvs, H fa = some (.dK kvs) ∧ FinKV H kvs (gFin os ws m)
  rd : H ra = some (.dK (rowKV (cRow rL ws q)))
  ond : os.Nodup
  osb : ∀ o ∈ os, o ∈ outs
  wnd : ws.Nodup
  wl : ws.length ≤ 3
  ww : ∀ n ∈ ws, isWord n = true
theorem nodup_len4 {os : List Str} (h : os.Nodup) (hs : ∀ o ∈ os, o ∈ outs) : os.length ≤ 4 := by
  have := (prOf_perm (m := fun _ _ => 0) (q := fun _ => 0) h hs).length_eq
  rw [← this]
  exact Nat.le_trans (List.length_filter_le _ _) (by decide)
theorem cRow_sameN (E E' : Lv → Str) (ws : List Str) (f g : Str → Lv) : SameN (cRow E ws f) (cRow E' ws g) := by
  refine ⟨by unfold cRow; rw [List.length_map, List.length_map], fun x hx => ?_⟩
  rw [cRow_keys, ← cRow_keys E ws f]
  exact List.mem_map.mpr ⟨x, hx, rfl⟩
theorem cRow_len (E : Lv → Str) (ws : List Str) (f : Str → Lv) : (cRow E ws f).length = ws.length := by unfold cRow; rw [List.length_map]
theorem cRow_word {E : Lv → Str} {ws : List Str} {f : Str → Lv} {x : Str × Str} (h : x ∈ cRow E ws f) : x.1 ∈ ws ∧ ∃ i, x.2 = E i := by
  obtain ⟨n, hn, rfl⟩ := List.mem_map.mp h
  exact ⟨hn, _, rfl⟩
theorem rows_arg {K : PySem.W.Frag} {σ : L2.St} {H : Hp} {p : Addr} {kvs : List (Key × V)} {os ws : List Str} {m : Str → Str → Lv} {Q : VK} (hσ : σ[3]? = some (some (.ref p))) (hp : H p = some (.lst (kvs.map Prod.snd))) (hF : FinKV H kvs (gFin os ws m))
    (h : ∀ nm H3, Same H H3 → (nm = .non ∨ ∃ b o, nm = .ref b ∧ H3 b = some (.dK (rowKV (cRow eL ws (m o))))) → Q nm H3) : tIf (tTest (tOp (rNil K true) (tVar 3) (tLst tNil))) (tOp (rIxL K) (tVar 3) (tC (.int 0))) (tC .non) σ H Q := by
  refine ⟨_, hσ, by show 0 ≤ sizeLine; exact Nat.zero_le _, fun l hl => ?_⟩
  have e3 : Same H (upd H l (.lst [])) := same_new hl
  refine ⟨p, l, _, rfl, rfl, SqL.of (e3 _ _ hp), SqL.of upd_same, _, rfl, ?_⟩
  generalize upd H l (.lst []) = H3 at e3
  cases hk : kvs with
  | nil => exact iteF (h .non H3 e3 (.inl rfl))
  | cons kv0 kvr =>
    obtain ⟨y0, hy0, b0, ev, hb0⟩ := (hF.same e3).row (v := kv0.2) (by rw [hk]; exact List.mem_cons_self)
    obtain ⟨o1, ho1, rfl⟩ := List.mem_map.mp hy0
    refine iteT ?_
    refine ⟨_, hσ, p, _, _, kv0.2, rfl, rfl, SqL.of (e3 _ _ hp), by rw [hk]; exact at0 _ _, ?_⟩
    exact h _ H3 e3 (.inr ⟨b0, o1, ev, hb0⟩)
def spInit (C : Addr) : Sp := fun vs H Q _ => ∃ (x dx fa ra : Addr) (os ws ns : List Str) (m : Str → Str → Lv) (q : Str → Lv), vs = [.ref x, .ref fa, .ref ra] ∧ H x = some (.ins C dx []) ∧ Raw H fa ra os ws m q ∧ ns.Perm ws ∧ sortedS ns = true ∧
  ∀ H', (∀ b o, b ≠ x → H b = some o → H' b = some o) → InsAt C H' (.ref x) ns (prOf os m q) → Q .non H'
section
variable {P : Program} {w : World} {K : PySem.W.Frag} {mg : Str → Option Value} {base : Heap} {aE aR aK : Addr}
abbrev s_Profile___init__ : Stmt := inClass (top 20) 0
theorem sc_Profile___init__ : FnScope ["self", "outcomes", "reads", "rows", "given", "outcome"] ["self", "outcomes", "reads"] (defScope s_Profile___init__) := ⟨rfl, rfl, rfl, by decide +kernel, rfl, by decide +kernel, by decide +kernel⟩
theorem ok_init {C : Addr} (hC : Cls K C) (n1 : NoAttr K C "own_outcomes") (n2 : NoAttr K C "own_reads") {f : Addr} {fd : FuncData} (F : Fun K "__init__" "Profile.__init__" s_Profile___init__ f fd) (B : Bi mg) (G : Gs K w mg aE aR aK) (C_are_outcomes : C8.Cal P w K mg base 3 "are_outcomes" spAreOutcomes []) (C_are_ends : C8.Cal P w K mg base 2 "are_ends" (spAreEnds K) []) (C_ordered : C8.Cal P w K mg base 1 "ordered" spOrdered []) : FnOk P w K mg base CX0 4 f fd ["self", "outcomes", "reads"] (spInit C) := by
  refine F.ok sc_Profile___init__ (fun vs H Q E h => ?_) (fun cdv A outer s H vs Q E hr h => ?_)
  · obtain ⟨x, dx, fa, ra, os, ws, ns, m, q, rfl, _⟩ := h
    rfl
  · obtain ⟨x, dx, fa, ra, os, ws, ns, m, q, rfl, hx, R, hp, hs, k⟩ := h
    have hu := hu_of hr
    obtain ⟨⟨kvs, hfa, hF⟩, hra, hond, hosb, hwnd, hwl, hww⟩ := R
    have ho4 := nodup_len4 hond hosb
    refine ⟨_, (pss_cons (ps_if (pt_not (pt_val (C8.pe_c C_are_outcomes hr (by decide) (by rfl) (pa_cons (pv 1) pa_nil))))
        (pss_one ps_never)
        pss_nil)
      (pss_cons (ps_set (i := 3) sc_Profile___init__.nd rfl (Or.inl rfl) (pe_listVals rfl (pv 1) (by rfl) B.list (by decide +kernel)))
      (pss_cons (ps_if (pt_not (pt_val (C8.pe_c C_are_ends hr (by decide) (by rfl) (pa_cons (pv 2) (pa_cons (pe_ifExp (pt_cmpR (op_neNil hr.units0) (pv 3) (pe_lst pa_nil) (nomark _)) (pe_ix ix_list (pv 3) pe_int (fun _ _ => rfl)) pe_non) (pa_cons (C8.pe_gc (by rfl) G.READS) pa_nil))))))
        (pss_one ps_never)
        pss_nil)
      (pss_cons (ps_set (i := 4) sc_Profile___init__.nd rfl (Or.inr rfl) (pv 1))
      (pss_cons (ps_fld (pv 0) (pe_dc (own := [("outcome", 5)]) (g := gName 5) (by rfl) sc_Profile___init__.nd (pi_list (pe_callB (show CallR _ (.builtin "sorted") (rSortedS' w) from cr_sortedSetS rfl) (by rfl) B.sorted (by decide +kernel) (pa_cons (pe_callTy (show CallR _ (.type "set") (rSetD w) from cr_setD) (by rfl) B.set (by decide +kernel) (pa_cons (pv 4) pa_nil)) pa_nil))) (blkOk_by (own := [("outcome", 5)]) (N := ["self", "outcomes", "reads", "rows", "given", "outcome"]) (sc := defScope s_Profile___init__) (by decide +kernel)) (fun _ _ _ _ _ => (pg_name (i := 5) sc_Profile___init__.nd rfl (Or.inl rfl))) (fun _ _ _ _ _ => pts_nil) (fun _ _ _ _ _ => (pv 5)) (fun _ _ _ _ _ => (C8.pe_c C_ordered hr (by decide) (by rfl) (pa_cons (pe_dget hu (pv 4) (pv 5) (fun _ _ => rfl)) pa_nil)))) rfl)
      (pss_one (ps_fld (pv 0) (C8.pe_c C_ordered hr (by decide) (by rfl) (pa_cons (pv 2) pa_nil)) rfl))))))), ?_⟩
    refine ⟨_, rfl, fa, kvs, gFin os ws m, rfl, hfa, hF, by unfold gFin; rw [List.length_map]; omega, ?_, ?_, fun H1 e1 => ?_⟩
    · intro y hy
      obtain ⟨o, ho, rfl⟩ := List.mem_map.mp hy
      refine ⟨(outs_ok o (hosb o ho)).1, (outs_ok o (hosb o ho)).2, by show (cRow eL ws (m o)).length ≤ 1000; rw [cRow_len]; omega, fun z hz => ?_⟩
      obtain ⟨h1, i, h2⟩ := cRow_word hz
      exact ⟨hww _ h1, by rw [h2]; exact eL_mem i⟩
    · intro y hy z hz
      obtain ⟨o, ho, rfl⟩ := List.mem_map.mp hy
      obtain ⟨o', ho', rfl⟩ := List.mem_map.mp hz
      exact cRow_sameN _ _ _ _ _
    refine ⟨true, rfl, iteF ?_⟩
    refine ⟨_, rfl, fa, kvs, rfl, .inl (e1 _ _ hfa), fun p hpn => ?_⟩
    have e2 : Same H1 (upd H1 p (.lst (kvs.map Prod.snd))) := same_new hpn
    have hp2 : upd H1 p (.lst (kvs.map Prod.snd)) p = some (.lst (kvs.map Prod.snd)) := upd_same
    generalize upd H1 p (.lst (kvs.map Prod.snd)) = H2 at e2 hp2
    have hF2 := hF.same (e1.trans e2)
    refine ⟨_, rfl, rows_arg rfl hp2 hF2 fun nm H3 e3 hnm => ?_⟩
    have e03 := e1.trans (e2.trans e3)
    refine ⟨ra, aR, nm, _, reads, rfl, e03 _ _ hra, G.readsT _, by rw [cRow_len]; omega, ?_, ?_, fun H4 e4 => ⟨true, rfl, iteF ?_⟩⟩
    · intro z hz
      obtain ⟨h1, i, h2⟩ := cRow_word hz
      exact ⟨hww _ h1, by rw [h2]; exact rL_mem i⟩
    · rcases hnm with h | ⟨b, o, h, hb⟩
      · exact .inl h
      · exact .inr ⟨b, _, h, .inl hb, cRow_sameN _ _ _ _ _⟩
    have e04 := e03.trans e4
    have hF4 := hF.same e04
    refine ⟨_, rfl, _, rfl, fa, kvs, os, rfl, .inl (e04 _ _ hfa), by rw [← gFin_keys os ws m]; exact hF.keys, ho4, fun p1 hp1 => ?_⟩
    refine ⟨p1, os, rfl, upd_same, by omega, fun ys p2 hys hsy hp2' => ?_⟩
    obtain rfl : ys = (prOf os m q).os := sorted_one hsy (os_sorted _) (hys.trans (prOf_perm hond hosb).symm)
    have hynd : (prOf os m q).os.Nodup := hys.symm.nodup hond
    have hyl : (prOf os m q).os.length ≤ 4 := by rw [hys.length_eq]; exact ho4
    have e5 : Same H4 (upd (upd H4 p1 (SetSO w p1 os)) p2 (.lst ((prOf os m q).os.map V.str))) := (same_new hp1).trans (same_new hp2')
    have hp5 : upd (upd H4 p1 (SetSO w p1 os)) p2 (.lst ((prOf os m q).os.map V.str)) p2 = some (.lst ((prOf os m q).os.map V.str)) := upd_same
    generalize upd (upd H4 p1 (SetSO w p1 os)) p2 (.lst ((prOf os m q).os.map V.str)) = H5 at e5 hp5
    have e05 := e04.trans e5
    refine ⟨p2, rfl, ⟨_, SqL.of hp5⟩, fun D hD => ?_⟩
    refine dc_gen walk_list rel_ex hD (by rw [List.length_map]; omega) (fun _ l d => l _ _ d) (fun i kvs H' => FinX D H' kvs (gFin ((prOf os m q).os.take i) ns m)) .nil (fun i kvs H' l _ => SqL.of (l _ _ hp5)) (fun _ _ _ _ _ _ _ s => s.chg) ?_ ?_
    · rintro i y kvs' H6 H6' hi l6 hD6 hX ⟨rfl, hy⟩ K1 K0 k1 k0
      have hi' : i < (prOf os m q).os.length := by rwa [List.length_map] at hi
      rw [List.getElem?_map, List.getElem?_eq_getElem hi'] at hy
      obtain rfl := Option.some.inj hy
      have hm : (prOf os m q).os[i] ∈ os := hys.subset (List.getElem_mem hi')
      obtain ⟨ba, hv, hb⟩ := gFin_val (hF4.same e5) hm
      refine ⟨rfl, yes_of ⟨_, rfl, _, rfl, _, rfl, fa, _, rfl, .inl ⟨_, Sum.inr (prOf os m q).os[i], .inl (l6 _ _ (e05 _ _ hfa)), rfl, hv.symm⟩, ?_⟩⟩
      refine ⟨ba, eL, ws, ns, _, rfl, l6 _ _ hb, hwnd, by omega, hp, hs, fun z H7 hz e7 hz7 => ?_⟩
      refine k1 (Sum.inr (prOf os m q).os[i]) _ H7 e7 ?_
      rw [putK_fresh _ _ _ (by rw [hX.keys, gFin_keys]; intro q; obtain ⟨o, ho, e⟩ := List.mem_map.mp q; rw [Sum.inr.inj e] at ho; exact nodup_at hynd hi' ho), take_at hi']
      unfold gFin
      rw [List.map_append]
      exact paired_snoc (hX.same e7) ⟨rfl, z, rfl, (fun e => by rw [e, hD6] at hz; cases hz), hz7⟩
    · rintro kvs' H6 l6 _ hD6 hX
      rw [List.length_map, List.take_length] at hX
      have hx6 := l6 _ _ (e05 _ _ hx)
      have hr6 := l6 _ _ (e05 _ _ hra)
      refine ⟨_, rfl, x, C, dx, [], rfl, hx6, hC, n1, by show 0 < 1000; decide, ?_⟩
      have hrx : ra ≠ x := ne_of hr6 hx6 (by intro z; cases z)
      have hDx : D ≠ x := ne_of hD6 hx6 (by intro z; cases z)
      refine ⟨_, rfl, ra, rL, ws, ns, q, rfl, by rw [upd_ne hrx]; exact hr6, hwnd, by omega, hp, hs, fun ro H7 hro e7 hro7 => ?_⟩
      have hx7 := e7 _ _ (upd_same (H := H6) (a := x) (o := .ins C dx (putF "own_outcomes" (.ref D) [])))
      refine ⟨_, rfl, x, C, dx, _, rfl, hx7, hC, n2, by show 1 < 1000; decide, ?_⟩
      have hrox : ro ≠ x := ne_of hro7 hx7 (by intro z; cases z)
      refine k _ (fun b o hb h => ?_) ⟨x, dx, D, ro, kvs', rfl, upd_same, ?_, ?_, ?_⟩
      · rw [upd_ne hb]
        exact e7 _ _ (by rw [upd_ne hb]; exact l6 _ _ (e05 _ _ h))
      · rw [upd_ne hDx]
        exact e7 _ _ (by rw [upd_ne hDx]; exact hD6)
      · refine Paired.mapP hX.kv fun kv p ⟨h1, a, h2, h3⟩ => ⟨h1, a, h2, ?_⟩
        have hax : a ≠ x := ne_of h3 hx6 (by intro z; cases z)
        rw [upd_ne hax]
        exact e7 _ _ (by rw [upd_ne hax]; exact h3)
      · rw [upd_ne hrox]
        exact hro7
end
end Pf

set_option Elab.async false
set_option maxRecDepth 100000
set_option linter.all false
set_option maxHeartbeats 4000000
namespace Pf
open PySem PySem.Spec L2 PyProof.Rows
theorem dp_strs {K : PySem.W.Frag} {H : Hp} : ∀ ns : List Str, DpAll K H (ns.map V.str) (ns.map PyData.str)
  | [] => .nil
  | n :: ns => .cons (.str n) (dp_strs ns)
theorem eqv_strs : ∀ ns : List Str, PyData.eqvAll (ns.map PyData.str) (ns.map PyData.str) = true
  | [] => by simp [PyData.eqvAll]
  | n :: ns => by
    rw [List.map_cons, PyData.eqvAll, eqv_strs ns]
    simp [PyData.eqv]
theorem plain_strs : ∀ ns : List Str, PyData.plainAll (ns.map PyData.str) = true
  | [] => by simp [PyData.plainAll]
  | n :: ns => by
    rw [List.map_cons, PyData.plainAll, plain_strs ns]
    simp [PyData.plain]
theorem depth_strs : ∀ ns : List Str, PyData.depthAll (ns.map PyData.str) = 0
  | [] => by simp [PyData.depthAll]
  | n :: ns => by
    rw [List.map_cons, PyData.depthAll, depth_strs ns]
    simp [PyData.depth]
theorem kvs_strs (E : Lv → Str) (ns : List Str) (f : Str → Lv) : ((rowKV (cRow E ns f)).map fun kv => kV kv.1) = ns.map V.str := by
  unfold rowKV cRow
  rw [List.map_map, List.map_map]
  rfl
/-- list(one.own_reads) != list(other.own_reads): no -/
theorem same_lists {K : PySem.W.Frag} {H : Hp} {a b : Addr} {ns : List Str} {Q : VK} (ha : H a = some (.lst (ns.map V.str))) (hb : H b = some (.lst (ns.map V.str))) (h : Q (.bl false) H) : rDeep K true (.ref a) (.ref b) H Q := by
  refine ⟨.list (ns.map PyData.str), .list (ns.map PyData.str), .lst (SqL.of ha) (dp_strs ns), .lst (SqL.of hb) (dp_strs ns), ?_, ?_, ?_, ?_⟩
  · rw [PyData.plain]; exact plain_strs ns
  · rw [PyData.plain]; exact plain_strs ns
  · rw [PyData.depth, depth_strs]; decide
  · rw [if_pos rfl, PyData.eqv, eqv_strs]
    exact h
def spNeed (C : Addr) : Sp := fun vs H Q _ => ∃ (a b : V) (ns : List Str) (X Y : Pr), vs = [a, b] ∧ InsAt C H a ns X ∧ InsAt C H b ns Y ∧ ∀ H', Same H H' → Q .non H'
/-- the order -/
def leB (ns : List Str) (X Y : Pr) : Bool := (X.os.all fun o => Y.p o && lowB ns (X.m o) (Y.m o)) && lowB ns X.q Y.q
def spLe (C : Addr) : Sp := fun vs H Q _ => ∃ (a b : V) (ns : List Str) (X Y : Pr), vs = [a, b] ∧ InsAt C H a ns X ∧ InsAt C H b ns Y ∧ ns.length ≤ 1000 ∧ ∀ H', Same H H' → Q (.bl (leB ns X Y)) H'
theorem look_out (a b : V) : List.lookup (α := Str) "own_outcomes" [("own_outcomes", a), ("own_reads", b)] = some a := rfl
theorem look_rd (a b : V) : List.lookup (α := Str) "own_reads" [("own_outcomes", a), ("own_reads", b)] = some b := rfl
theorem InsAt.same {C : Addr} {H H' : Hp} {v : V} {ns : List Str} {X : Pr} (h : InsAt C H v ns X) (e : Same H H') : InsAt C H' v ns X := h.exp (ExP.of e)
theorem row_ne {H : Hp} {fo c : Addr} {kvs : List (Key × V)} {F : Fin} {r : Row} (hF : FinKV H kvs F) (hfo : H fo = some (.dK kvs)) (hne : kvs ≠ []) (hc : H c = some (.dK (rowKV r))) : c ≠ fo := by
  rintro rfl
  rw [hfo] at hc
  have e : kvs = rowKV r := by injection hc with hc; injection hc
  subst e
  cases r with
  | nil => exact hne rfl
  | cons p r =>
    cases hF with
    | cons h _ =>
      obtain ⟨_, a, h2, _⟩ := h
      cases h2
theorem gFin_at {H : Hp} {ns : List Str} {m : Str → Str → Lv} : ∀ {os : List Str} {kvs : List (Key × V)}, FinKV H kvs (gFin os ns m) → ∀ {i : Nat} (hi : i < os.length), ∃ a, kvs[i]? = some (Sum.inr os[i], .ref a) ∧ H a = some (.dK (rowKV (cRow eL ns (m os[i]))))
  | o :: os, _, .cons (a := kv) h t, 0, _ => by
    obtain ⟨h1, a, h2, h3⟩ := h
    exact ⟨a, by rw [List.getElem?_cons_zero, List.getElem_cons_zero]; exact congrArg some (Prod.ext h1 h2), h3⟩
  | o :: os, _, .cons h t, i + 1, hi => by
    obtain ⟨a, h1, h2⟩ := gFin_at t (i := i) (by simpa using hi)
    exact ⟨a, by rw [List.getElem?_cons_succ]; exact h1, h2⟩
theorem val_none {kvs : List (Key × V)} {k : Key} (h : k ∉ kvs.map Prod.fst) : valV kvs k = none := by
  cases e : valV kvs k with
  | none => rfl
  | some z =>
    have : (kvs.any fun kv => decide (kv.1 = k)) = true := by rw [valV_any, e]; rfl
    obtain ⟨kv, hk, hd⟩ := List.any_eq_true.mp this
    exact absurd (List.mem_map.mpr ⟨kv, hk, of_decide_eq_true hd⟩) h
theorem gFin_none {H : Hp} {ns os : List Str} {m : Str → Str → Lv} {kvs : List (Key × V)} {o : Str} (h : FinKV H kvs (gFin os ns m)) (ho : o ∉ os) : valV kvs (Sum.inr o) = none := by
  refine val_none ?_
  rw [h.keys, gFin_keys]
  intro q
  obtain ⟨x, hx, e⟩ := List.mem_map.mp q
  exact ho (Sum.inr.inj e ▸ hx)
theorem mem_os {X : Pr} {o : Str} (h : o ∈ outs) : o ∈ X.os ↔ X.p o = true := by
  unfold Pr.os
  rw [List.mem_filter]
  exact ⟨fun q => q.2, fun q => ⟨h, q⟩⟩
theorem os_outs {X : Pr} {o : Str} (h : o ∈ X.os) : o ∈ outs := (List.mem_filter.mp h).1
theorem os_len (X : Pr) : X.os.length ≤ 4 := Nat.le_trans (List.length_filter_le _ _) (by decide)
theorem os_nodup (X : Pr) : X.os.Nodup := outs_nodup.sublist List.filter_sublist
section
variable {P : Program} {w : World} {K : PySem.W.Frag} {mg : Str → Option Value} {base : Heap} {aE aR aK : Addr}
abbrev s_need_same_names : Stmt := top 21
theorem sc_need_same_names : FnScope ["one", "other"] ["one", "other"] (defScope s_need_same_names) := ⟨rfl, rfl, rfl, by decide +kernel, rfl, by decide +kernel, by decide +kernel⟩
theorem ok_need {C : Addr} (hC : Cls K C) (n1 : NoAttr K C "own_outcomes") (n2 : NoAttr K C "own_reads") {f : Addr} {fd : FuncData} (F : Fun K "need_same_names" "need_same_names" s_need_same_names f fd) (B : Bi mg) : FnOk P w K mg base CX0 1 f fd ["one", "other"] (spNeed C) := by
  refine F.ok sc_need_same_names (fun vs H Q E h => ?_) (fun cdv A outer s H vs Q E hr h => ?_)
  · obtain ⟨a, b, ns, X, Y, rfl, _⟩ := h
    rfl
  · obtain ⟨_, _, ns, X, Y, rfl, ⟨a, dx, fo, ro, kvs, rfl, ha, hfo, hF, hro⟩, ⟨b, dy, go, so, lvs, rfl, hb, hgo, hG, hso⟩, k⟩ := h
    have hu := hu_of hr
    refine ⟨_, (pss_one (ps_if (pt_cmpR (op_neP hr.units) (pe_callTy (call_listD rfl) (by rfl) B.list (by decide +kernel) (pa_cons (pe_fld (pv 0) rfl) pa_nil)) (pe_callTy (call_listD rfl) (by rfl) B.list (by decide +kernel) (pa_cons (pe_fld (pv 1) rfl) pa_nil)) (nomark _))
        (pss_one ps_never)
        pss_nil)), ?_⟩
    refine ⟨_, rfl, a, C, dx, _, _, rfl, ha, hC, n2, look_rd _ _, ro, _, rfl, .inl hro, fun p1 h1 => ?_⟩
    have e1 := same_new (o := .lst ((rowKV (cRow rL ns X.q)).map fun kv => kV kv.1)) h1
    refine ⟨_, rfl, b, C, dy, _, _, rfl, e1 _ _ hb, hC, n2, look_rd _ _, so, _, rfl, .inl (e1 _ _ hso), fun p2 h2 => ?_⟩
    have e2 := same_new (o := .lst ((rowKV (cRow rL ns Y.q)).map fun kv => kV kv.1)) h2
    refine same_lists (ns := ns) (by rw [← kvs_strs rL ns X.q]; exact e2 _ _ upd_same) (by rw [← kvs_strs rL ns Y.q]; exact upd_same) ⟨_, rfl, iteF ?_⟩
    exact k _ (e1.trans e2)
abbrev s_is_at_most : Stmt := top 23
theorem sc_is_at_most : FnScope ["one", "other", "outcome", "row"] ["one", "other"] (defScope s_is_at_most) := ⟨rfl, rfl, rfl, by decide +kernel, rfl, by decide +kernel, by decide +kernel⟩
theorem ok_most {C : Addr} (hC : Cls K C) (n1 : NoAttr K C "own_outcomes") (n2 : NoAttr K C "own_reads") {f : Addr} {fd : FuncData} (F : Fun K "is_at_most" "is_at_most" s_is_at_most f fd) (B : Bi mg) (C_are_low : C8.Cal P w K mg base 1 "are_low" spLow []) : FnOk P w K mg base CX0 2 f fd ["one", "other"] (spLe C) := by
  refine F.ok sc_is_at_most (fun vs H Q E h => ?_) (fun cdv A outer s H vs Q E hr h => ?_)
  · obtain ⟨a, b, ns, X, Y, rfl, _⟩ := h
    rfl
  · obtain ⟨_, _, ns, X, Y, rfl, ⟨a, dx, fo, ro, kvs, rfl, ha, hfo, hF, hro⟩, ⟨b, dy, go, so, lvs, rfl, hb, hgo, hG, hso⟩, hn, k⟩ := h
    have hu := hu_of hr
    refine ⟨_, (pss_cons (ps_if (pt_cmpR (op_neP hr.units) (pe_callTy (call_listD rfl) (by rfl) B.list (by decide +kernel) (pa_cons (pe_fld (pv 0) rfl) pa_nil)) (pe_callTy (call_listD rfl) (by rfl) B.list (by decide +kernel) (pa_cons (pe_fld (pv 1) rfl) pa_nil)) (nomark _))
        (pss_one (ps_ret pe_bl))
        pss_nil)
      (pss_cons (ps_lock (ps_for PassesOwn.never rfl (pi_items (pe_fld (pv 0) rfl)) (pg_tup rfl (pgs_cons (pg_name (i := 2) sc_is_at_most.nd rfl (Or.inl rfl)) (pgs_cons (pg_name (i := 3) sc_is_at_most.nd rfl (Or.inl rfl)) pgs_nil)))
        (pss_one (ps_if (PW.pt (pw_or (pt_cmp (pc_dnotin hu (pv 2) (pe_fld (pv 1) rfl))) (pw_or1 (pt_not (pt_val (C8.pe_c C_are_low hr (by decide) (by rfl) (pa_cons (pv 3) (pa_cons (pe_dget hu (pe_fld (pv 1) rfl) (pv 2) (fun _ _ => rfl)) pa_nil))))))))
          (pss_one (ps_ret pe_bl))
          pss_nil))))
      (pss_one (ps_ret (C8.pe_c C_are_low hr (by decide) (by rfl) (pa_cons (pe_fld (pv 0) rfl) (pa_cons (pe_fld (pv 1) rfl) pa_nil))))))), ?_⟩
    refine ⟨_, rfl, a, C, dx, _, _, rfl, ha, hC, n2, look_rd _ _, ro, _, rfl, .inl hro, fun p1 h1 => ?_⟩
    have e1 := same_new (o := .lst ((rowKV (cRow rL ns X.q)).map fun kv => kV kv.1)) h1
    refine ⟨_, rfl, b, C, dy, _, _, rfl, e1 _ _ hb, hC, n2, look_rd _ _, so, _, rfl, .inl (e1 _ _ hso), fun p2 h2 => ?_⟩
    have e2 := same_new (o := .lst ((rowKV (cRow rL ns Y.q)).map fun kv => kV kv.1)) h2
    refine same_lists (ns := ns) (by rw [← kvs_strs rL ns X.q]; exact e2 _ _ upd_same) (by rw [← kvs_strs rL ns Y.q]; exact upd_same) ⟨_, rfl, iteF ?_⟩
    have e02 := e1.trans e2
    generalize upd (upd H p1 _) p2 _ = H2 at e02
    have ha2 := e02 _ _ ha
    have hb2 := e02 _ _ hb
    have hfo2 := e02 _ _ hfo
    have hF2 := hF.same e02
    have hG2 := hG.same e02
    have hkl : kvs.length = X.os.length := by rw [hF.len]; unfold gFin; rw [List.length_map]
    refine ⟨fo, _, hfo2, trivial, fun od => ?_⟩
    have haf : a ≠ fo := ne_of ha2 hfo2 (by intro z; cases z)
    have hbf : b ≠ fo := ne_of hb2 hfo2 (by intro z; cases z)
    have up : ∀ c u, H2 c = some u → c ≠ fo → upd H2 fo (.frz od (.dK kvs)) c = some u := fun c u h n => by rw [upd_ne n]; exact h
    have ha3 := up _ _ ha2 haf
    have hb3 := up _ _ hb2 hbf
    have hgo3 : Rd (upd H2 fo (.frz od (.dK kvs))) go (.dK lvs) := rd_lock hfo2 (.inl (e02 _ _ hgo)) fun _ _ z => by cases z
    refine ⟨_, rfl, a, C, dx, _, _, rfl, ha3, hC, n1, look_out _ _, fo, od, kvs, rfl, upd_same, ?_⟩
    refine for_it walk_items (fun i σ' H' => ∃ o1 o2, σ' = [some (.ref a), some (.ref b), o1, o2] ∧ Same (upd H2 fo (.frz od (.dK kvs))) H' ∧ ((X.os.take i).all fun o => Y.p o && lowB ns (X.m o) (Y.m o)) = true) ⟨none, none, rfl, Same.refl _, rfl⟩ (fun i σ' H' _ ⟨_, _, _, l, _⟩ => l _ _ upd_same) ?_ ?_
    · rintro i x σ' H4 H4' hi ⟨o1, o2, rfl, l4, hall⟩ ⟨T, x, y, rfl, hT, rfl, hx, hy⟩
      have hi' : i < X.os.length := by rw [← hkl]; exact hi
      obtain ⟨ba, ek, hba⟩ := gFin_at hF2 hi'
      have hx : kvs[i]?.map (fun kv => kV kv.1) = some x := hx
      have hy : kvs[i]?.map Prod.snd = some y := hy
      rw [ek] at hx hy
      obtain rfl := Option.some.inj hx
      obtain rfl := Option.some.inj hy
      have hkne : kvs ≠ [] := by rintro rfl; simp at hi
      have hba3 := up _ _ hba (row_ne hF2 hfo2 hkne hba)
      refine ⟨T, _, rfl, SqT.of upd_same, rfl, _, _, rfl, _, _, rfl, rfl, ?_⟩
      have l5 := l4.trans (same_new (o := .tup [kV (Sum.inr X.os[i]), .ref ba]) hT)
      show tIfS _ _ _ _ _ (upd H4 T (.tup [kV (Sum.inr X.os[i]), .ref ba]))
      generalize upd H4 T (.tup [kV (Sum.inr X.os[i]), .ref ba]) = H5 at l5
      have hoo : X.os[i] ∈ outs := os_outs (List.getElem_mem hi')
      have ht := take_at hi'
      have no : ∀ H6, Same (upd H2 fo (.frz od (.dK kvs))) H6 → (Y.p X.os[i] && lowB ns (X.m X.os[i]) (Y.m X.os[i])) = false → H6 fo = some (.frz od (.dK kvs)) ∧ Q (.bl false) (upd H6 fo (.dK kvs)) := fun H6 l6 hz => by
        obtain ⟨h1, h2⟩ := lock_back hfo2 l6
        refine ⟨h1, ?_⟩
        have e : leB ns X Y = false := by
          unfold leB
          have : (X.os.all fun o => Y.p o && lowB ns (X.m o) (Y.m o)) = false := by
            rw [List.all_eq_false]
            exact ⟨_, List.getElem_mem hi', by rw [hz]; simp⟩
          rw [this]
          rfl
        rw [← e]
        exact k _ (e02.trans h2)
      refine ⟨_, rfl, _, rfl, b, C, dy, _, _, rfl, l5 _ _ hb3, hC, n1, look_out _ _, go, _, rfl, .inl ⟨lvs, Sum.inr X.os[i], rd_same l5 hgo3, rfl, rfl⟩, ?_⟩
      by_cases hp : Y.p X.os[i] = true
      · obtain ⟨bc, hv, hbc⟩ := gFin_val hG2 ((mem_os (X := Y) hoo).mpr hp)
        have hbc3 := up _ _ hbc (row_ne hF2 hfo2 hkne hbc)
        rw [hv]
        refine ⟨_, rfl, iteF ?_⟩
        refine ⟨_, rfl, _, rfl, b, C, dy, _, _, rfl, l5 _ _ hb3, hC, n1, look_out _ _, _, rfl, go, _, rfl, .inl ⟨lvs, Sum.inr X.os[i], rd_same l5 hgo3, rfl, hv.symm⟩, ?_⟩
        refine ⟨ba, bc, eL, ns, _, _, rfl, .inl rfl, hn, l5 _ _ hba3, l5 _ _ hbc3, fun H6 e6 => ⟨_, rfl, ?_⟩⟩
        by_cases hl : lowB ns (X.m X.os[i]) (Y.m X.os[i]) = true
        · refine iteF' (by rw [hl]; rfl) ?_
          refine ⟨_, _, rfl, l5.trans e6, ?_⟩
          rw [ht, List.all_append, hall]
          simp [hp, hl]
        · have hl' : lowB ns (X.m X.os[i]) (Y.m X.os[i]) = false := by simpa using hl
          refine iteT' (by rw [hl']; rfl) ?_
          exact no H6 (l5.trans e6) (by rw [hl']; simp)
      · rw [gFin_none hG2 (fun q => hp ((mem_os hoo).mp q))]
        refine ⟨_, rfl, iteT ?_⟩
        exact iteT (no H5 l5 (by simp [hp]))
    · rintro σ' H4 ⟨o1, o2, rfl, l4, hall⟩
      obtain ⟨h1, h2⟩ := lock_back hfo2 l4
      refine ⟨h1, ?_⟩
      have e4 := e02.trans h2
      refine ⟨_, rfl, a, C, dx, _, _, rfl, e4 _ _ ha, hC, n2, look_rd _ _, _, rfl, b, C, dy, _, _, rfl, e4 _ _ hb, hC, n2, look_rd _ _, ?_⟩
      refine ⟨ro, so, rL, ns, _, _, rfl, .inr rfl, hn, e4 _ _ hro, e4 _ _ hso, fun H6 e6 => ?_⟩
      have e : leB ns X Y = lowB ns X.q Y.q := by
        unfold leB
        rw [hkl, List.take_length] at hall
        rw [hall]
        rfl
      rw [← e]
      exact k _ (e4.trans e6)
end
end Pf

set_option Elab.async false
set_option maxRecDepth 100000
set_option linter.all false
set_option maxHeartbeats 4000000
namespace Pf
open PySem PySem.Spec L2 PyProof.Rows
structure NsOk (ns : List Str) : Prop where
  nd : ns.Nodup
  len : ns.length ≤ 3
  ww : ∀ n ∈ ns, isWord n = true
  st : sortedS ns = true
def Pr.meet (X Y : Pr) : Pr := ⟨fun o => X.p o && Y.p o, fun o n => lvLo (X.m o n) (Y.m o n), fun n => lvLo (X.q n) (Y.q n)⟩
def Pr.join (X Y : Pr) : Pr := ⟨fun o => X.p o || Y.p o, fun o n => bif X.p o then (bif Y.p o then lvHi (X.m o n) (Y.m o n) else lvHi (X.m o n) (X.m o n)) else Y.m o n, fun n => lvHi (X.q n) (Y.q n)⟩
def spBin (C : Addr) (op : Pr → Pr → Pr) : Sp := fun vs H Q _ => ∃ (a b : V) (ns : List Str) (X Y : Pr), vs = [a, b] ∧ InsAt C H a ns X ∧ InsAt C H b ns Y ∧ NsOk ns ∧ ∀ x H', Same H H' → InsAt C H' (.ref x) ns (op X Y) → Q (.ref x) H'
theorem InsAt.to {C : Addr} {H : Hp} {v : V} {ns : List Str} {X Y : Pr} (h : InsAt C H v ns X) (ho : X.os = Y.os) (hm : ∀ o ∈ X.os, X.m o = Y.m o) (hq : X.q = Y.q) : InsAt C H v ns Y := by
  obtain ⟨a, dx, fo, ro, kvs, h1, h2, h3, h4, h5⟩ := h
  refine ⟨a, dx, fo, ro, kvs, h1, h2, h3, ?_, by rw [← hq]; exact h5⟩
  have e : gFin Y.os ns Y.m = gFin X.os ns X.m := by
    unfold gFin
    rw [← ho]
    exact List.map_congr_left fun o ho' => by rw [hm o ho']
  rw [e]
  exact h4
/-- a new instance made from raw data -/
theorem make_ok {C : Addr} {H : Hp} {fa ra : Addr} {os ws ns : List Str} {m : Str → Str → Lv} {q : Str → Lv} {Q : VK} {E : XK} (R : Raw H fa ra os ws m q) (hp : ns.Perm ws) (hs : sortedS ns = true) (k : ∀ x H', Same H H' → InsAt C H' (.ref x) ns (prOf os m q) → Q (.ref x) H') :
    ∀ x dx, H x = none → H dx = none → dx ≠ x → spInit C (.ref x :: ([.ref fa, .ref ra] ++ [])) (upd (upd H dx (.own x)) x (.ins C dx [])) (fun v H2 => v = .non ∧ Q (.ref x) H2) E := by
  intro x dx hx hdx hne
  have e : Same H (upd (upd H dx (.own x)) x (.ins C dx [])) := (same_new hdx).trans (same_new (by rw [upd_ne (fun z => hne z.symm)]; exact hx))
  obtain ⟨⟨kvs, hfa, hF⟩, hra, h1, h2, h3, h4, h5⟩ := R
  refine ⟨x, dx, fa, ra, os, ws, ns, m, q, rfl, upd_same, ⟨⟨kvs, e _ _ hfa, hF.same e⟩, e _ _ hra, h1, h2, h3, h4, h5⟩, hp, hs, fun H' hH hI => ⟨rfl, k x H' (fun b u hb => hH b u (ne_of_none hb hx) (e _ _ hb)) hI⟩⟩
section
variable {P : Program} {w : World} {K : PySem.W.Frag} {mg : Str → Option Value} {base : Heap} {aE aR aK : Addr}
abbrev s_Profile___le__ : Stmt := inClass (top 20) 5
theorem sc_Profile___le__ : FnScope ["self", "other"] ["self", "other"] (defScope s_Profile___le__) := ⟨rfl, rfl, rfl, by decide +kernel, rfl, by decide +kernel, by decide +kernel⟩
theorem ok_le {C : Addr} (IC : C8.InsC K C) (GC : ∃ u, mg "Profile" = some u ∧ RelV (.ref C) u) {f : Addr} {fd : FuncData} (F : Fun K "__le__" "Profile.__le__" s_Profile___le__ f fd) (B : Bi mg) (C_is_at_most : C8.Cal P w K mg base 2 "is_at_most" (spLe C) []) : FnOk P w K mg base CX0 3 f fd ["self", "other"] (spLe C) := by
  refine F.ok sc_Profile___le__ (fun vs H Q E h => ?_) (fun cdv A outer s H vs Q E hr h => ?_)
  · obtain ⟨a, b, ns, X, Y, rfl, _⟩ := h
    rfl
  · obtain ⟨_, _, ns, X, Y, rfl, hA, hB, hn, k⟩ := h
    have hu := hu_of hr
    refine ⟨_, (pss_cons (ps_if (pt_not (pt_val (pe_callB (C8.call_isC IC) (by rfl) B.isinstance (by decide +kernel) (pa_cons (pv 1) (pa_cons (C8.pe_gc (by rfl) GC) pa_nil)))))
        (pss_one ps_never)
        pss_nil)
      (pss_one (ps_ret (C8.pe_c C_is_at_most hr (by decide) (by rfl) (pa_cons (pv 0) (pa_cons (pv 1) pa_nil)))))), ?_⟩
    have hB' := hB
    obtain ⟨b, dy, go, so, lvs, rfl, hb, hgo, hG, hso⟩ := hB'
    refine ⟨_, rfl, b, dy, _, rfl, hb, true, rfl, iteF ?_⟩
    exact ⟨_, rfl, _, rfl, _, _, ns, X, Y, rfl, hA, hB, hn, k⟩
abbrev s_Profile___and__ : Stmt := inClass (top 20) 9
theorem sc_Profile___and__ : FnScope ["self", "other", "found", "outcome", "row"] ["self", "other"] (defScope s_Profile___and__) := ⟨rfl, rfl, rfl, by decide +kernel, rfl, by decide +kernel, by decide +kernel⟩
theorem ok_and {C : Addr} (hC : Cls K C) (n1 : NoAttr K C "own_outcomes") (n2 : NoAttr K C "own_reads") (IC : C8.InsC K C) (GC : ∃ u, mg "Profile" = some u ∧ RelV (.ref C) u) {f : Addr} {fd : FuncData} (F : Fun K "__and__" "Profile.__and__" s_Profile___and__ f fd) (B : Bi mg) (C_need_same_names : C8.Cal P w K mg base 1 "need_same_names" (spNeed C) []) (C_lesser : C8.Cal P w K mg base 1 "lesser" (spPickRow lvLo) []) (M_Profile : C8.Mak P w K mg base 4 "Profile" C (spInit C) []) : FnOk P w K mg base CX0 6 f fd ["self", "other"] (spBin C Pr.meet) := by
  refine F.ok sc_Profile___and__ (fun vs H Q E h => ?_) (fun cdv A outer s H vs Q E hr h => ?_)
  · obtain ⟨a, b, ns, X, Y, rfl, _⟩ := h
    rfl
  · obtain ⟨_, _, ns, X, Y, rfl, hA, hB, hN, k⟩ := h
    have hu := hu_of hr
    refine ⟨_, (pss_cons (ps_if (pt_not (pt_val (pe_callB (C8.call_isC IC) (by rfl) B.isinstance (by decide +kernel) (pa_cons (pv 1) (pa_cons (C8.pe_gc (by rfl) GC) pa_nil)))))
        (pss_one ps_never)
        pss_nil)
      (pss_cons (ps_expr (C8.pe_c C_need_same_names hr (by decide) (by rfl) (pa_cons (pv 0) (pa_cons (pv 1) pa_nil))))
      (pss_cons (ps_set (i := 2) sc_Profile___and__.nd rfl (Or.inl rfl) pe_dnewK)
      (pss_cons (ps_lock (ps_for PassesOwn.never rfl (pi_items (pe_fld (pv 0) rfl)) (pg_tup rfl (pgs_cons (pg_name (i := 3) sc_Profile___and__.nd rfl (Or.inl rfl)) (pgs_cons (pg_name (i := 4) sc_Profile___and__.nd rfl (Or.inl rfl)) pgs_nil)))
        (pss_one (ps_if (pt_cmp (pc_din hu (pv 3) (pe_fld (pv 1) rfl)))
          (pss_one (ps_dput hu (pv 2) (pv 3) (C8.pe_c C_lesser hr (by decide) (by rfl) (pa_cons (pv 4) (pa_cons (pe_dget hu (pe_fld (pv 1) rfl) (pv 3) (fun _ _ => rfl)) pa_nil))) rfl))
          pss_nil))))
      (pss_one (ps_ret (C8.pe_mk M_Profile hr (by decide) (by rfl) (pa_cons (pv 2) (pa_cons (C8.pe_c C_lesser hr (by decide) (by rfl) (pa_cons (pe_fld (pv 0) rfl) (pa_cons (pe_fld (pv 1) rfl) pa_nil))) pa_nil))))))))), ?_⟩
    have hA' := hA
    have hB' := hB
    obtain ⟨a, dx, fo, ro, kvs, rfl, ha, hfo, hF, hro⟩ := hA'
    obtain ⟨b, dy, go, so, lvs, rfl, hb, hgo, hG, hso⟩ := hB'
    refine ⟨_, rfl, b, dy, _, rfl, hb, true, rfl, iteF ?_⟩
    refine ⟨_, rfl, _, rfl, _, _, ns, X, Y, rfl, hA, hB, fun H1 e1 => ?_⟩
    refine fun fa hfa => ?_
    have ha1 := e1 _ _ ha
    have hb1 := e1 _ _ hb
    have hfo1 := e1 _ _ hfo
    have hF1 := hF.same e1
    have hG1 := hG.same e1
    have hkl : kvs.length = X.os.length := by rw [hF.len]; unfold gFin; rw [List.length_map]
    have hff : fo ≠ fa := ne_of_none hfo1 hfa
    have hfo2 : upd H1 fa (.dK []) fo = some (.dK kvs) := by rw [upd_ne hff]; exact hfo1
    refine ⟨fo, _, hfo2, trivial, fun od => ?_⟩
    have haf : a ≠ fo := ne_of ha1 hfo1 (by intro z; cases z)
    have hbf : b ≠ fo := ne_of hb1 hfo1 (by intro z; cases z)
    have up : ∀ c u, H1 c = some u → c ≠ fo → upd H1 fo (.frz od (.dK kvs)) c = some u := fun c u h n => by rw [upd_ne n]; exact h
    have ha3 := up _ _ ha1 haf
    have hb3 := up _ _ hb1 hbf
    have hgo3 : Rd (upd H1 fo (.frz od (.dK kvs))) go (.dK lvs) := rd_lock hfo1 (.inl (e1 _ _ hgo)) fun _ _ z => by cases z
    have hfa0 : upd H1 fo (.frz od (.dK kvs)) fa = none := by rw [upd_ne (fun z => hff z.symm)]; exact hfa
    have esw : upd (upd H1 fa (.dK [])) fo (.frz od (.dK kvs)) = upd (upd H1 fo (.frz od (.dK kvs))) fa (.dK []) := by
      funext c
      unfold upd
      by_cases h1 : c = fo
      · subst h1; rw [if_pos rfl, if_neg hff, if_pos rfl]
      · rw [if_neg h1, if_neg h1]
    have l0 : Same (upd H1 fo (.frz od (.dK kvs))) (upd (upd H1 fa (.dK [])) fo (.frz od (.dK kvs))) := by rw [esw]; exact same_new hfa0
    refine ⟨_, rfl, a, C, dx, _, _, rfl, l0 _ _ ha3, hC, n1, look_out _ _, fo, od, kvs, rfl, upd_same, ?_⟩
    refine for_it walk_items (fun i σ' H' => ∃ o1 o2 kvs', σ' = [some (.ref a), some (.ref b), some (.ref fa), o1, o2] ∧ Same (upd H1 fo (.frz od (.dK kvs))) H' ∧ H' fa = some (.dK kvs') ∧ FinX fa H' kvs' (gFin ((X.os.take i).filter Y.p) ns (X.meet Y).m)) ⟨none, none, [], rfl, l0, by rw [esw]; exact upd_same, .nil⟩ (fun i σ' H' _ ⟨_, _, _, _, l, _⟩ => l _ _ upd_same) ?_ ?_
    · rintro i x σ' H4 H4' hi ⟨o1, o2, kvs', rfl, l4, hfa4, hX4⟩ ⟨T, x, y, rfl, hT, rfl, hx, hy⟩
      have hi' : i < X.os.length := by rw [← hkl]; exact hi
      obtain ⟨ba, ek, hba⟩ := gFin_at hF1 hi'
      have hx : kvs[i]?.map (fun kv => kV kv.1) = some x := hx
      have hy : kvs[i]?.map Prod.snd = some y := hy
      rw [ek] at hx hy
      obtain rfl := Option.some.inj hx
      obtain rfl := Option.some.inj hy
      have hkne : kvs ≠ [] := by rintro rfl; simp at hi
      have hba3 := up _ _ hba (row_ne hF1 hfo1 hkne hba)
      refine ⟨T, _, rfl, SqT.of upd_same, rfl, _, _, rfl, _, _, rfl, rfl, ?_⟩
      have e5 := same_new (o := .tup [kV (Sum.inr X.os[i]), .ref ba]) hT
      show tIfS _ _ _ _ _ (upd H4 T (.tup [kV (Sum.inr X.os[i]), .ref ba]))
      generalize upd H4 T (.tup [kV (Sum.inr X.os[i]), .ref ba]) = H5 at e5
      have l5 := l4.trans e5
      have hoo : X.os[i] ∈ outs := os_outs (List.getElem_mem hi')
      have ht := take_at hi'
      refine ⟨_, rfl, _, rfl, b, C, dy, _, _, rfl, l5 _ _ hb3, hC, n1, look_out _ _, go, _, rfl, .inl ⟨lvs, Sum.inr X.os[i], rd_same l5 hgo3, rfl, rfl⟩, ?_⟩
      by_cases hp : Y.p X.os[i] = true
      · obtain ⟨bc, hv, hbc⟩ := gFin_val hG1 ((mem_os (X := Y) hoo).mpr hp)
        have hbc3 := up _ _ hbc (row_ne hF1 hfo1 hkne hbc)
        rw [hv]
        refine ⟨_, rfl, iteT ?_⟩
        refine ⟨_, rfl, _, rfl, b, C, dy, _, _, rfl, l5 _ _ hb3, hC, n1, look_out _ _, _, rfl, go, _, rfl, .inl ⟨lvs, Sum.inr X.os[i], rd_same l5 hgo3, rfl, hv.symm⟩, ?_⟩
        refine ⟨ba, bc, eL, ns, _, _, rfl, .inl rfl, hN.nd, by have := hN.len; omega, l5 _ _ hba3, l5 _ _ hbc3, fun z H6 hz e6 hz6 => ?_⟩
        have hfa6 := e6 _ _ (e5 _ _ hfa4)
        have hX6 := (hX4.same e5).same e6
        have hkl' : kvs'.length ≤ 4 := by
          have := hX4.kv.len
          rw [this]
          unfold gFin
          rw [List.length_map]
          refine Nat.le_trans (List.length_filter_le _ _) ?_
          rw [List.length_take]
          have := os_len X
          omega
        have hza : z ≠ fa := fun q => by rw [q, e5 _ _ hfa4] at hz; cases hz
        refine ⟨_, rfl, _, rfl, fa, _, rfl, DPut.k (k := Sum.inr X.os[i]) hfa6 (sz_lt (by omega)), ?_⟩
        refine ⟨_, _, _, rfl, same_chg (l5.trans e6) hfa0, upd_same, ?_⟩
        have ef : (X.os.take (i + 1)).filter Y.p = (X.os.take i).filter Y.p ++ [X.os[i]] := by
          rw [ht, List.filter_append, List.filter_cons_of_pos hp, List.filter_nil]
        rw [ef, putK_fresh _ _ _ (by
          rw [hX4.keys, gFin_keys]
          intro q
          obtain ⟨o, ho, e⟩ := List.mem_map.mp q
          rw [Sum.inr.inj e] at ho
          exact nodup_at (os_nodup X) hi' (List.mem_filter.mp ho).1)]
        unfold gFin
        rw [List.map_append]
        exact paired_snoc hX6.chg ⟨rfl, z, rfl, hza, by rw [upd_ne hza]; exact hz6⟩
      · rw [gFin_none hG1 (fun q => hp ((mem_os hoo).mp q))]
        refine ⟨_, rfl, iteF ?_⟩
        refine ⟨_, _, kvs', rfl, l5, e5 _ _ hfa4, ?_⟩
        have ef : (X.os.take (i + 1)).filter Y.p = (X.os.take i).filter Y.p := by
          rw [ht, List.filter_append, List.filter_cons_of_neg hp, List.filter_nil, List.append_nil]
        rw [ef]
        exact hX4.same e5
    · rintro σ' H4 ⟨o1, o2, kvs', rfl, l4, hfa4, hX4⟩
      obtain ⟨h1, h2⟩ := lock_back hfo1 l4
      refine ⟨h1, ?_⟩
      rw [hkl, List.take_length] at hX4
      have hfa5 : upd H4 fo (.dK kvs) fa = some (.dK kvs') := by rw [upd_ne (fun z => hff z.symm)]; exact hfa4
      have hX5 : FinX fa (upd H4 fo (.dK kvs)) kvs' (gFin (X.os.filter Y.p) ns (X.meet Y).m) := Paired.mapP hX4 fun kv p ⟨h1, c, h2, h3, h4⟩ => ⟨h1, c, h2, h3, by
        by_cases hc : c = fo
        · subst hc
          rw [h4] at h1
          cases h1
        · rw [upd_ne hc]; exact h4⟩
      generalize upd H4 fo (.dK kvs) = H5 at h2 hfa5 hX5
      have e5 := e1.trans h2
      refine ⟨_, rfl, _, rfl, a, C, dx, _, _, rfl, e5 _ _ ha, hC, n2, look_rd _ _, _, rfl, b, C, dy, _, _, rfl, e5 _ _ hb, hC, n2, look_rd _ _, ?_⟩
      refine ⟨ro, so, rL, ns, _, _, rfl, .inr rfl, hN.nd, by have := hN.len; omega, e5 _ _ hro, e5 _ _ hso, fun z H6 hz e6 hz6 => ?_⟩
      refine make_ok (m := (X.meet Y).m) (q := (X.meet Y).q) (os := X.os.filter Y.p) ⟨⟨kvs', e6 _ _ hfa5, (hX5.same e6).kv⟩, hz6, (os_nodup X).sublist List.filter_sublist, fun o ho => os_outs (List.mem_filter.mp ho).1, hN.nd, hN.len, hN.ww⟩ (List.Perm.refl _) hN.st fun x H7 e7 hI => ?_
      refine k x H7 (e5.trans (e6.trans e7)) (hI.to ?_ (fun _ _ => rfl) rfl)
      unfold Pr.os
      refine List.filter_congr fun o ho => ?_
      show decide (o ∈ List.filter Y.p X.os) = (X.p o && Y.p o)
      rw [Bool.eq_iff_iff, decide_eq_true_iff, List.mem_filter, mem_os ho, Bool.and_eq_true]
end
end Pf

set_option Elab.async false
set_option maxRecDepth 100000
set_option linter.all false
set_option maxHeartbeats 4000000
namespace Pf
open PySem PySem.Spec L2 PyProof.Rows
theorem same_lock {H H' : Hp} {a : Addr} {o : HO} (e : Same H H') : Same (upd H a o) (upd H' a o) := fun b u h => by
  by_cases hb : b = a
  · subst hb; rw [upd_same] at h ⊢; exact h
  · rw [upd_ne hb] at h ⊢; exact e _ _ h
theorem upd_upd {H : Hp} {a : Addr} {o o' : HO} : upd (upd H a o) a o' = upd H a o' := by
  funext c
  unfold upd
  by_cases h : c = a
  · rw [if_pos h, if_pos h]
  · rw [if_neg h, if_neg h, if_neg h]
theorem upd_comm {H : Hp} {a b : Addr} {o o' : HO} (h : a ≠ b) : upd (upd H a o) b o' = upd (upd H b o') a o := by
  funext c
  unfold upd
  by_cases h1 : c = b
  · subst h1; rw [if_pos rfl, if_neg (fun z => h z.symm), if_pos rfl]
  · rw [if_neg h1, if_neg h1]
theorem upd_self {H : Hp} {a : Addr} {o : HO} (h : H a = some o) : upd H a o = H := by
  funext c
  unfold upd
  by_cases h1 : c = a
  · rw [if_pos h1, h1, h]
  · rw [if_neg h1]
section
variable {P : Program} {w : World} {K : PySem.W.Frag} {mg : Str → Option Value} {base : Heap} {aE aR aK : Addr}
abbrev s_Profile___or__ : Stmt := inClass (top 20) 10
theorem sc_Profile___or__ : FnScope ["self", "other", "found", "outcome", "row"] ["self", "other"] (defScope s_Profile___or__) := ⟨rfl, rfl, rfl, by decide +kernel, rfl, by decide +kernel, by decide +kernel⟩
theorem ok_or {C : Addr} (hC : Cls K C) (n1 : NoAttr K C "own_outcomes") (n2 : NoAttr K C "own_reads") (IC : C8.InsC K C) (GC : ∃ u, mg "Profile" = some u ∧ RelV (.ref C) u) {f : Addr} {fd : FuncData} (F : Fun K "__or__" "Profile.__or__" s_Profile___or__ f fd) (B : Bi mg) (C_need_same_names : C8.Cal P w K mg base 1 "need_same_names" (spNeed C) []) (C_greater : C8.Cal P w K mg base 1 "greater" (spPickRow lvHi) []) (M_Profile : C8.Mak P w K mg base 4 "Profile" C (spInit C) []) : FnOk P w K mg base CX0 6 f fd ["self", "other"] (spBin C Pr.join) := by
  refine F.ok sc_Profile___or__ (fun vs H Q E h => ?_) (fun cdv A outer s H vs Q E hr h => ?_)
  · obtain ⟨a, b, ns, X, Y, rfl, _⟩ := h
    rfl
  · obtain ⟨_, _, ns, X, Y, rfl, hA, hB, hN, k⟩ := h
    have hu := hu_of hr
    refine ⟨_, (pss_cons (ps_if (pt_not (pt_val (pe_callB (C8.call_isC IC) (by rfl) B.isinstance (by decide +kernel) (pa_cons (pv 1) (pa_cons (C8.pe_gc (by rfl) GC) pa_nil)))))
        (pss_one ps_never)
        pss_nil)
      (pss_cons (ps_expr (C8.pe_c C_need_same_names hr (by decide) (by rfl) (pa_cons (pv 0) (pa_cons (pv 1) pa_nil))))
      (pss_cons (ps_set (i := 2) sc_Profile___or__.nd rfl (Or.inl rfl) pe_dnewK)
      (pss_cons (ps_lock (ps_for PassesOwn.never rfl (pi_items (pe_fld (pv 0) rfl)) (pg_tup rfl (pgs_cons (pg_name (i := 3) sc_Profile___or__.nd rfl (Or.inl rfl)) (pgs_cons (pg_name (i := 4) sc_Profile___or__.nd rfl (Or.inl rfl)) pgs_nil)))
        (pss_one (ps_dput hu (pv 2) (pv 3) (C8.pe_c C_greater hr (by decide) (by rfl) (pa_cons (pv 4) (pa_cons (pe_dget2 hu (pe_fld (pv 1) rfl) (pv 3) (pv 4) ⟨rfl, rfl, rfl, rfl⟩) pa_nil))) rfl))))
      (pss_cons (ps_lock (ps_for PassesOwn.never rfl (pi_items (pe_fld (pv 1) rfl)) (pg_tup rfl (pgs_cons (pg_name (i := 3) sc_Profile___or__.nd rfl (Or.inl rfl)) (pgs_cons (pg_name (i := 4) sc_Profile___or__.nd rfl (Or.inl rfl)) pgs_nil)))
        (pss_one (ps_if (pt_cmp (pc_dnotin hu (pv 3) (pv 2)))
          (pss_one (ps_dput hu (pv 2) (pv 3) (pv 4) rfl))
          pss_nil))))
      (pss_one (ps_ret (C8.pe_mk M_Profile hr (by decide) (by rfl) (pa_cons (pv 2) (pa_cons (C8.pe_c C_greater hr (by decide) (by rfl) (pa_cons (pe_fld (pv 0) rfl) (pa_cons (pe_fld (pv 1) rfl) pa_nil))) pa_nil)))))))))), ?_⟩
    have hA' := hA
    have hB' := hB
    obtain ⟨a, dx, fo, ro, kvs, rfl, ha, hfo, hF, hro⟩ := hA'
    obtain ⟨b, dy, go, so, lvs, rfl, hb, hgo, hG, hso⟩ := hB'
    refine ⟨_, rfl, b, dy, _, rfl, hb, true, rfl, iteF ?_⟩
    refine ⟨_, rfl, _, rfl, _, _, ns, X, Y, rfl, hA, hB, fun H1 e1 => ?_⟩
    refine fun fa hfa => ?_
    have ha1 := e1 _ _ ha
    have hb1 := e1 _ _ hb
    have hfo1 := e1 _ _ hfo
    have hgo1 := e1 _ _ hgo
    have hF1 := hF.same e1
    have hG1 := hG.same e1
    have hkl : kvs.length = X.os.length := by rw [hF.len]; unfold gFin; rw [List.length_map]
    have hll : lvs.length = Y.os.length := by rw [hG.len]; unfold gFin; rw [List.length_map]
    have hff : fo ≠ fa := ne_of_none hfo1 hfa
    have hgf : go ≠ fa := ne_of_none hgo1 hfa
    have hfo2 : upd H1 fa (.dK []) fo = some (.dK kvs) := by rw [upd_ne hff]; exact hfo1
    refine ⟨fo, _, hfo2, trivial, fun od => ?_⟩
    have haf : a ≠ fo := ne_of ha1 hfo1 (by intro z; cases z)
    have hbf : b ≠ fo := ne_of hb1 hfo1 (by intro z; cases z)
    have up : ∀ c u, H1 c = some u → c ≠ fo → upd H1 fo (.frz od (.dK kvs)) c = some u := fun c u h n => by rw [upd_ne n]; exact h
    have ha3 := up _ _ ha1 haf
    have hb3 := up _ _ hb1 hbf
    have hgo3 : Rd (upd H1 fo (.frz od (.dK kvs))) go (.dK lvs) := rd_lock hfo1 (.inl hgo1) fun _ _ z => by cases z
    have hfa0 : upd H1 fo (.frz od (.dK kvs)) fa = none := by rw [upd_ne (fun z => hff z.symm)]; exact hfa
    have esw : upd (upd H1 fa (.dK [])) fo (.frz od (.dK kvs)) = upd (upd H1 fo (.frz od (.dK kvs))) fa (.dK []) := upd_comm fun z => hff z.symm
    have l0 : Same (upd H1 fo (.frz od (.dK kvs))) (upd (upd H1 fa (.dK [])) fo (.frz od (.dK kvs))) := by rw [esw]; exact same_new hfa0
    refine ⟨_, rfl, a, C, dx, _, _, rfl, l0 _ _ ha3, hC, n1, look_out _ _, fo, od, kvs, rfl, upd_same, ?_⟩
    refine for_it walk_items (fun i σ' H' => ∃ o1 o2 kvs', σ' = [some (.ref a), some (.ref b), some (.ref fa), o1, o2] ∧ Same (upd H1 fo (.frz od (.dK kvs))) H' ∧ H' fa = some (.dK kvs') ∧ FinX fa H' kvs' (gFin (X.os.take i) ns (X.join Y).m)) ⟨none, none, [], rfl, l0, by rw [esw]; exact upd_same, .nil⟩ (fun i σ' H' _ ⟨_, _, _, _, l, _⟩ => l _ _ upd_same) ?_ ?_
    · rintro i x σ' H4 H4' hi ⟨o1, o2, kvs', rfl, l4, hfa4, hX4⟩ ⟨T, x, y, rfl, hT, rfl, hx, hy⟩
      have hi' : i < X.os.length := by rw [← hkl]; exact hi
      obtain ⟨ba, ek, hba⟩ := gFin_at hF1 hi'
      have hx : kvs[i]?.map (fun kv => kV kv.1) = some x := hx
      have hy : kvs[i]?.map Prod.snd = some y := hy
      rw [ek] at hx hy
      obtain rfl := Option.some.inj hx
      obtain rfl := Option.some.inj hy
      have hkne : kvs ≠ [] := by rintro rfl; simp at hi
      have hba3 := up _ _ hba (row_ne hF1 hfo1 hkne hba)
      refine ⟨T, _, rfl, SqT.of upd_same, rfl, _, _, rfl, _, _, rfl, rfl, ?_⟩
      have e5 := same_new (o := .tup [kV (Sum.inr X.os[i]), .ref ba]) hT
      show sDPut _ _ _ _ _ (upd H4 T (.tup [kV (Sum.inr X.os[i]), .ref ba]))
      generalize upd H4 T (.tup [kV (Sum.inr X.os[i]), .ref ba]) = H5 at e5
      have l5 := l4.trans e5
      have hxo : X.os[i] ∈ X.os := List.getElem_mem hi'
      have hoo : X.os[i] ∈ outs := os_outs hxo
      have hxp : X.p X.os[i] = true := (mem_os hoo).mp hxo
      have ht := take_at hi'
      refine ⟨_, rfl, _, rfl, b, C, dy, _, _, rfl, l5 _ _ hb3, hC, n1, look_out _ _, go, rfl, .inl ⟨lvs, rd_same l5 hgo3⟩, _, rfl, _, rfl, _, .inl ⟨lvs, Sum.inr X.os[i], rd_same l5 hgo3, rfl, rfl⟩, ?_⟩
      obtain ⟨bc, g, hbc, ev, eg⟩ : ∃ bc g, upd H1 fo (.frz od (.dK kvs)) bc = some (.dK (rowKV (cRow eL ns g))) ∧ (valV lvs (Sum.inr X.os[i])).getD (.ref ba) = .ref bc ∧ (fun n => lvHi (X.m X.os[i] n) (g n)) = (X.join Y).m X.os[i] := by
        by_cases hp : Y.p X.os[i] = true
        · obtain ⟨bc, hv, hbc⟩ := gFin_val hG1 ((mem_os (X := Y) hoo).mpr hp)
          refine ⟨bc, _, up _ _ hbc (row_ne hF1 hfo1 hkne hbc), by rw [hv]; rfl, ?_⟩
          funext n
          simp [Pr.join, hxp, hp]
        · refine ⟨ba, _, hba3, by rw [gFin_none hG1 (fun q => hp ((mem_os hoo).mp q))]; rfl, ?_⟩
          funext n
          simp [Pr.join, hxp, hp]
      rw [ev]
      refine ⟨ba, bc, eL, ns, _, _, rfl, .inl rfl, hN.nd, by have := hN.len; omega, l5 _ _ hba3, l5 _ _ hbc, fun z H6 hz e6 hz6 => ?_⟩
      rw [eg] at hz6
      have hfa6 := e6 _ _ (e5 _ _ hfa4)
      have hX6 := (hX4.same e5).same e6
      have hkl' : kvs'.length ≤ 4 := by
        have := hX4.kv.len
        rw [this]
        unfold gFin
        rw [List.length_map, List.length_take]
        have := os_len X
        omega
      have hza : z ≠ fa := fun q => by rw [q, e5 _ _ hfa4] at hz; cases hz
      refine ⟨_, rfl, _, rfl, fa, _, rfl, DPut.k (k := Sum.inr X.os[i]) hfa6 (sz_lt (by omega)), ?_⟩
      refine ⟨_, _, _, rfl, same_chg (l5.trans e6) hfa0, upd_same, ?_⟩
      rw [ht, putK_fresh _ _ _ (by
        rw [hX4.keys, gFin_keys]
        intro q
        obtain ⟨o, ho, e⟩ := List.mem_map.mp q
        rw [Sum.inr.inj e] at ho
        exact nodup_at (os_nodup X) hi' ho)]
      unfold gFin
      rw [List.map_append]
      exact paired_snoc hX6.chg ⟨rfl, z, rfl, hza, by rw [upd_ne hza]; exact hz6⟩
    · rintro σ' H4 ⟨o1, o2, kvs', rfl, l4, hfa4, hX4⟩
      obtain ⟨h1, h2⟩ := lock_back hfo1 l4
      refine ⟨h1, ?_⟩
      rw [hkl, List.take_length] at hX4
      have hfa5 : upd H4 fo (.dK kvs) fa = some (.dK kvs') := by rw [upd_ne (fun z => hff z.symm)]; exact hfa4
      have hX5 : FinX fa (upd H4 fo (.dK kvs)) kvs' (gFin X.os ns (X.join Y).m) := Paired.mapP hX4 fun kv p ⟨h1, c, h2, h3, h4⟩ => ⟨h1, c, h2, h3, by
        by_cases hc : c = fo
        · subst hc
          rw [h4] at h1
          cases h1
        · rw [upd_ne hc]; exact h4⟩
      generalize upd H4 fo (.dK kvs) = H5 at h2 hfa5 hX5
      have hgo5 := h2 _ _ hgo1
      refine ⟨go, _, hgo5, trivial, fun od2 => ?_⟩
      have hbg : b ≠ go := ne_of hb1 hgo1 (by intro z; cases z)
      have up2 : ∀ c u, H1 c = some u → c ≠ go → upd H1 go (.frz od2 (.dK lvs)) c = some u := fun c u h n => by rw [upd_ne n]; exact h
      have hb6 := up2 _ _ hb1 hbg
      have l6 : Same (upd H1 go (.frz od2 (.dK lvs))) (upd H5 go (.frz od2 (.dK lvs))) := same_lock h2
      have hfa00 : upd H1 go (.frz od2 (.dK lvs)) fa = none := by rw [upd_ne (fun z => hgf z.symm)]; exact hfa
      refine ⟨_, rfl, b, C, dy, _, _, rfl, l6 _ _ hb6, hC, n1, look_out _ _, go, od2, lvs, rfl, upd_same, ?_⟩
      refine for_it walk_items (fun i σ' H' => ∃ o1 o2 kvs', σ' = [some (.ref a), some (.ref b), some (.ref fa), o1, o2] ∧ Same (upd H1 go (.frz od2 (.dK lvs))) H' ∧ H' fa = some (.dK kvs') ∧ FinX fa (upd H' go (.dK lvs)) kvs' (gFin (X.os ++ (Y.os.take i).filter fun o => !X.p o) ns (X.join Y).m)) ⟨o1, o2, kvs', rfl, l6, by rw [upd_ne (fun z => hgf z.symm)]; exact hfa5, by rw [upd_upd, upd_self hgo5]; simpa using hX5⟩ (fun i σ' H' _ ⟨_, _, _, _, l, _⟩ => l _ _ upd_same) ?_ ?_
      · rintro i x σ' H7 H7' hi ⟨o1, o2, kvs2, rfl, l7, hfa7, hX7⟩ ⟨T, x, y, rfl, hT, rfl, hx, hy⟩
        have hi' : i < Y.os.length := by rw [← hll]; exact hi
        obtain ⟨ba, ek, hba⟩ := gFin_at hG1 hi'
        have hx : lvs[i]?.map (fun kv => kV kv.1) = some x := hx
        have hy : lvs[i]?.map Prod.snd = some y := hy
        rw [ek] at hx hy
        obtain rfl := Option.some.inj hx
        obtain rfl := Option.some.inj hy
        have hlne : lvs ≠ [] := by rintro rfl; simp at hi
        have hbag := row_ne hG1 hgo1 hlne hba
        have hba3 := up2 _ _ hba hbag
        refine ⟨T, _, rfl, SqT.of upd_same, rfl, _, _, rfl, _, _, rfl, rfl, ?_⟩
        have e8 := same_new (o := .tup [kV (Sum.inr Y.os[i]), .ref ba]) hT
        show tIfS _ _ _ _ _ (upd H7 T (.tup [kV (Sum.inr Y.os[i]), .ref ba]))
        generalize upd H7 T (.tup [kV (Sum.inr Y.os[i]), .ref ba]) = H8 at e8
        have l8 := l7.trans e8
        have hyo : Y.os[i] ∈ Y.os := List.getElem_mem hi'
        have hoo : Y.os[i] ∈ outs := os_outs hyo
        have ht := take_at hi'
        have hX8 : FinX fa (upd H8 go (.dK lvs)) kvs2 _ := hX7.same (same_lock e8)
        refine ⟨_, rfl, _, rfl, fa, _, rfl, .inl ⟨kvs2, Sum.inr Y.os[i], .inl (e8 _ _ hfa7), rfl, rfl⟩, ?_⟩
        by_cases hp : X.p Y.os[i] = true
        · have hin : Y.os[i] ∈ X.os ++ (Y.os.take i).filter fun o => !X.p o := List.mem_append_left _ ((mem_os hoo).mpr hp)
          obtain ⟨bc, hv, _⟩ := gFin_val hX8.kv hin
          rw [hv]
          refine ⟨_, rfl, iteF ?_⟩
          refine ⟨_, _, kvs2, rfl, l8, e8 _ _ hfa7, ?_⟩
          have ef : ((Y.os.take (i + 1)).filter fun o => !X.p o) = (Y.os.take i).filter fun o => !X.p o := by
            rw [ht, List.filter_append, List.filter_cons_of_neg (by rw [hp]; decide), List.filter_nil, List.append_nil]
          rw [ef]
          exact hX8
        · have hnin : Y.os[i] ∉ X.os ++ (Y.os.take i).filter fun o => !X.p o := by
            intro q
            rcases List.mem_append.mp q with q | q
            · exact hp ((mem_os hoo).mp q)
            · exact nodup_at (os_nodup Y) hi' (List.mem_filter.mp q).1
          rw [gFin_none hX8.kv hnin]
          refine ⟨_, rfl, iteT ?_⟩
          have hkl' : kvs2.length ≤ 8 := by
            have := hX7.kv.len
            rw [this]
            unfold gFin
            rw [List.length_map, List.length_append]
            have h1 := List.length_filter_le (fun o => !X.p o) (Y.os.take i)
            rw [List.length_take] at h1
            have := os_len X
            have := os_len Y
            omega
          have hbafa : ba ≠ fa := ne_of_none hba hfa
          refine ⟨_, rfl, _, rfl, _, rfl, fa, _, rfl, DPut.k (k := Sum.inr Y.os[i]) (e8 _ _ hfa7) (sz_lt (by omega)), ?_⟩
          refine ⟨_, _, _, rfl, same_chg l8 hfa00, upd_same, ?_⟩
          have ef : (X.os ++ (Y.os.take (i + 1)).filter fun o => !X.p o) = (X.os ++ (Y.os.take i).filter fun o => !X.p o) ++ [Y.os[i]] := by
            rw [ht, List.filter_append, List.filter_cons_of_pos (by simp [hp]), List.filter_nil, List.append_assoc]
          rw [ef, putK_fresh _ _ _ (by
            rw [hX7.keys, gFin_keys]
            intro q
            obtain ⟨o, ho, e⟩ := List.mem_map.mp q
            rw [Sum.inr.inj e] at ho
            exact hnin ho), upd_comm (fun z => hgf z.symm)]
          unfold gFin
          rw [List.map_append]
          refine paired_snoc hX8.chg ⟨rfl, ba, rfl, hbafa, ?_⟩
          rw [upd_ne hbafa, upd_ne hbag]
          have em : (X.join Y).m Y.os[i] = Y.m Y.os[i] := by
            funext n
            simp [Pr.join, hp]
          show H8 ba = some (.dK (rowKV (cRow eL ns ((X.join Y).m Y.os[i]))))
          rw [em]
          exact l8 _ _ hba3
      · rintro σ' H7 ⟨o1, o2, kvs2, rfl, l7, hfa7, hX7⟩
        obtain ⟨h1, h3⟩ := lock_back hgo1 l7
        refine ⟨h1, ?_⟩
        rw [hll, List.take_length] at hX7
        have hfa8 : upd H7 go (.dK lvs) fa = some (.dK kvs2) := by rw [upd_ne (fun z => hgf z.symm)]; exact hfa7
        generalize upd H7 go (.dK lvs) = H8 at h3 hfa8 hX7
        have e8 := e1.trans h3
        refine ⟨_, rfl, _, rfl, a, C, dx, _, _, rfl, e8 _ _ ha, hC, n2, look_rd _ _, _, rfl, b, C, dy, _, _, rfl, e8 _ _ hb, hC, n2, look_rd _ _, ?_⟩
        refine ⟨ro, so, rL, ns, _, _, rfl, .inr rfl, hN.nd, by have := hN.len; omega, e8 _ _ hro, e8 _ _ hso, fun z H9 hz e9 hz9 => ?_⟩
        refine make_ok (m := (X.join Y).m) (q := (X.join Y).q) (os := X.os ++ Y.os.filter fun o => !X.p o) ⟨⟨kvs2, e9 _ _ hfa8, (hX7.same e9).kv⟩, hz9, ?_, ?_, hN.nd, hN.len, hN.ww⟩ (List.Perm.refl _) hN.st fun x H10 e10 hI => ?_
        · rw [List.nodup_append]
          refine ⟨os_nodup X, (os_nodup Y).sublist List.filter_sublist, fun u hu' v hv e => ?_⟩
          subst e
          have h4 := (mem_os (os_outs hu')).mp hu'
          have h5 := (List.mem_filter.mp hv).2
          rw [h4] at h5
          cases h5
        · intro o ho
          rcases List.mem_append.mp ho with ho | ho
          · exact os_outs ho
          · exact os_outs (List.mem_filter.mp ho).1
        · refine k x H10 (e8.trans (e9.trans e10)) (hI.to ?_ (fun _ _ => rfl) rfl)
          unfold Pr.os
          refine List.filter_congr fun o ho => ?_
          show decide (o ∈ X.os ++ List.filter (fun o => !X.p o) Y.os) = (X.p o || Y.p o)
          rw [Bool.eq_iff_iff, decide_eq_true_iff, List.mem_append, List.mem_filter, mem_os ho, mem_os ho, Bool.or_eq_true]
          cases X.p o <;> simp
end
end Pf

set_option Elab.async false
set_option maxRecDepth 100000
set_option linter.all false
set_option maxHeartbeats 4000000
namespace Pf
open PySem PySem.Spec L2 PyProof.Rows
/-! ### == of rows and of outcomes with rows, both answers -/
theorem paired_r {α β : Type} {R : α → β → Prop} {l₁ : List α} {l₂ : List β} (h : Paired R l₁ l₂) {y : β} (hy : y ∈ l₂) : ∃ x ∈ l₁, R x y := by
  induction h with
  | nil => cases hy
  | @cons a b l l' r _ ih =>
    rcases List.mem_cons.mp hy with e | e
    · exact ⟨a, List.mem_cons_self, e ▸ r⟩
    · obtain ⟨x, hx, q⟩ := ih e
      exact ⟨x, List.mem_cons_of_mem _ hx, q⟩
theorem paired_l {α β : Type} {R : α → β → Prop} {l₁ : List α} {l₂ : List β} (h : Paired R l₁ l₂) {x : α} (hx : x ∈ l₁) : ∃ y ∈ l₂, R x y := by
  induction h with
  | nil => cases hx
  | @cons a b l l' r _ ih =>
    rcases List.mem_cons.mp hx with e | e
    · exact ⟨b, List.mem_cons_self, e ▸ r⟩
    · obtain ⟨y, hy, q⟩ := ih e
      exact ⟨y, List.mem_cons_of_mem _ hy, q⟩
def rowsEq (ns : List Str) (f g : Str → Lv) : Bool := ns.all fun n => decide (f n = g n)
def finsEq (ns : List Str) (X Y : Pr) : Bool := (X.os.length == Y.os.length) && X.os.all fun o => Y.p o && rowsEq ns (X.m o) (Y.m o)
def eqB (ns : List Str) (X Y : Pr) : Bool := finsEq ns X Y && rowsEq ns X.q Y.q
theorem all_fst {β : Type} (l : List (Key × β)) (G : Key → Bool) : (l.all fun p => G p.1) = (l.map Prod.fst).all G := by rw [List.all_map]; rfl
section
variable {X : Cx} {pins : List (Addr × Obj)} {σ : L2.St} {H : Hp} {s : Shared}
theorem row_eq_facts (I : L2.Inv X pins σ H s) {a b : Addr} {E : Lv → Str} (hE : IsL E) {ns : List Str} {f g : Str → Lv} (ha : H a = some (.dK (rowKV (cRow E ns f)))) (hb : H b = some (.dK (rowKV (cRow E ns g)))) :
    ∃ va vb : List (Key × Value), (a == sysModules) = false ∧ (b == sysModules) = false ∧ s.heap.DictOf (mixKind X.prog X.w) a va ∧ s.heap.DictOf (mixKind X.prog X.w) b vb ∧
      (∀ k v y, (k, v) ∈ va → valueAt vb k = some y → PySem.W.EqTree X.prog X.w s 0 v y (match k with | .inr n => decide (f n = g n) | .inl _ => true)) ∧
      (va.length == vb.length && va.all fun p => (valueAt vb p.1).isSome && (match p.1 with | .inr n => decide (f n = g n) | .inl _ => true)) = rowsEq ns f g := by
  obtain ⟨_, h1, va, r1, d1⟩ := (show Rd H a _ from .inl ha).ok I.hok
  obtain ⟨_, h2, vb, r2, d2⟩ := (show Rd H b _ from .inl hb).ok I.hok
  have k1 : va.map Prod.fst = ns.map Sum.inr := r1.keys.symm.trans (rowKV_keysC E ns f)
  have l1 : va.length = ns.length := by have := congrArg List.length k1; simpa using this
  have k2 : vb.map Prod.fst = ns.map Sum.inr := r2.keys.symm.trans (rowKV_keysC E ns g)
  have l2 : vb.length = ns.length := by have := congrArg List.length k2; simpa using this
  refine ⟨va, vb, h1, h2, d1, d2, ?_, ?_⟩
  · intro k v y hm hy
    obtain ⟨p, hp, e1, e2⟩ := paired_r r1 hm
    obtain ⟨q, hq, rfl⟩ := List.mem_map.mp hp
    obtain ⟨n, hn, rfl⟩ := List.mem_map.mp hq
    obtain ⟨t, rfl⟩ : ∃ t, v = Value.str (E (f n)) t := e2
    have e1 : Sum.inr n = k := e1
    subst e1
    have rv := r2.val (Sum.inr n)
    rw [cRow_val hn, hy] at rv
    obtain ⟨u, rfl⟩ : ∃ u, y = Value.str (E (g n)) u := rv
    refine .leaf fun A hu => ?_
    have e : (E (f n) == E (g n)) = decide (f n = g n) := by
      rw [Bool.eq_iff_iff, beq_iff_eq, decide_eq_true_iff]
      exact ⟨fun h => hE.inj h, fun h => by rw [h]⟩
    show SeqAt.EqAt A s _ _ (decide (f n = g n))
    rw [← e]
    exact SeqAt.EqAt.str_str _ _ _ _
  · rw [all_fst va fun k => (valueAt vb k).isSome && (match k with | .inr n => decide (f n = g n) | .inl _ => true), k1, l1, l2, List.all_map]
    unfold rowsEq
    rw [beq_self_eq_true, Bool.true_and, Bool.eq_iff_iff, List.all_eq_true, List.all_eq_true]
    refine forall_congr' fun n => forall_congr' fun hn => ?_
    have rv := RelO.isSome_eq (r2.val (Sum.inr n))
    rw [cRow_val hn] at rv
    show ((valueAt vb (Sum.inr n)).isSome && decide (f n = g n)) = true ↔ _
    rw [← rv]
    simp
theorem row_tree (I : L2.Inv X pins σ H s) {a b : Addr} {E : Lv → Str} (hE : IsL E) {ns : List Str} {f g : Str → Lv} (ha : H a = some (.dK (rowKV (cRow E ns f)))) (hb : H b = some (.dK (rowKV (cRow E ns g)))) :
    PySem.W.EqTree X.prog X.w s 1 (.ref a) (.ref b) (rowsEq ns f g) := by
  by_cases hab : a = b
  · subst hab
    have e : rowsEq ns f g = true := by
      unfold rowsEq
      rw [List.all_eq_true]
      intro n hn
      rw [ha] at hb
      have h1 : rowKV (cRow E ns f) = rowKV (cRow E ns g) := by injection hb with hb; injection hb
      have h2 := cRow_val (E := E) (f := f) hn
      rw [h1, cRow_val hn] at h2
      injection h2 with h2
      injection h2 with h2
      exact decide_eq_true (hE.inj h2.symm)
    rw [e]
    exact .same
  · obtain ⟨va, vb, h1, h2, d1, d2, t, e⟩ := row_eq_facts I hE ha hb
    rw [← e]
    exact .dicts hab h1 h2 d1 d2 t
/-- two rows -/
def rEqRow : R2 := fun x y H Q => ∃ (a b : Addr) (E : Lv → Str) (ns : List Str) (f g : Str → Lv), x = .ref a ∧ y = .ref b ∧ IsL E ∧ H a = some (.dK (rowKV (cRow E ns f))) ∧ H b = some (.dK (rowKV (cRow E ns g))) ∧ Q (.bl (rowsEq ns f g)) H
theorem op_eqRow (hu : X.A.units + 64 < cLine) : OpR X (compareOp .Eq) rEqRow := by
  intro pins s σ H x y v u Q I rx ry h
  obtain ⟨a, b, E, ns, f, g, rfl, rfl, hE, ha, hb, q⟩ := h
  cases rx
  cases ry
  obtain ⟨va, vb, h1, h2, d1, d2, t, e⟩ := row_eq_facts I hE ha hb
  refine PySem.W.eq_dictsT h1 h2 d1 d2 t (by omega) ?_
  rw [e]
  exact ⟨.bl _, H, I, rfl, q⟩
/-- outcomes with rows -/
def rEqFin : R2 := fun x y H Q => ∃ (a b : Addr) (kvs lvs : List (Key × V)) (ns : List Str) (X Y : Pr), x = .ref a ∧ y = .ref b ∧ H a = some (.dK kvs) ∧ FinKV H kvs (gFin X.os ns X.m) ∧ H b = some (.dK lvs) ∧ FinKV H lvs (gFin Y.os ns Y.m) ∧ Q (.bl (finsEq ns X Y)) H
theorem op_eqFin (hu : X.A.units + 64 < cLine) : OpR X (compareOp .Eq) rEqFin := by
  intro pins s σ H x y v u Q I rx ry h
  obtain ⟨a, b, kvs, lvs, ns, A, B, rfl, rfl, ha, hF, hb, hG, q⟩ := h
  cases rx
  cases ry
  obtain ⟨_, h1, va, r1, d1⟩ := (show Rd H a _ from .inl ha).ok I.hok
  obtain ⟨_, h2, vb, r2, d2⟩ := (show Rd H b _ from .inl hb).ok I.hok
  have k1 : va.map Prod.fst = A.os.map Sum.inr := r1.keys.symm.trans (by rw [← gFin_keys A.os ns A.m]; exact hF.keys)
  have l1 : va.length = A.os.length := by have := congrArg List.length k1; simpa using this
  have k2 : vb.map Prod.fst = B.os.map Sum.inr := r2.keys.symm.trans (by rw [← gFin_keys B.os ns B.m]; exact hG.keys)
  have l2 : vb.length = B.os.length := by have := congrArg List.length k2; simpa using this
  refine PySem.W.eq_dictsT (n := 1) (e := fun k => match k with | .inr o => rowsEq ns (A.m o) (B.m o) | .inl _ => true) h1 h2 d1 d2 ?_ (by omega) ?_
  · intro k v y hm hy
    obtain ⟨p, hp, e1, e2⟩ := paired_r r1 hm
    obtain ⟨x, hx, e3, c, e4, hc⟩ := paired_l hF hp
    obtain ⟨o, ho, rfl⟩ := List.mem_map.mp hx
    rw [e4] at e2
    cases e2
    have e1 : p.1 = k := e1
    rw [e3] at e1
    subst e1
    have rv := r2.val (Sum.inr o)
    rw [hy] at rv
    by_cases hob : o ∈ B.os
    · obtain ⟨c', hv, hc'⟩ := gFin_val hG hob
      rw [hv] at rv
      cases rv
      exact row_tree I (.inl rfl) hc hc'
    · rw [gFin_none hG hob] at rv
      exact rv.elim
  · have e : (va.length == vb.length && va.all fun p => (valueAt vb p.1).isSome && (match p.1 with | .inr o => rowsEq ns (A.m o) (B.m o) | .inl _ => true)) = finsEq ns A B := by
      rw [all_fst va fun k => (valueAt vb k).isSome && (match k with | .inr o => rowsEq ns (A.m o) (B.m o) | .inl _ => true), k1, l1, l2, List.all_map]
      unfold finsEq
      congr 1
      rw [Bool.eq_iff_iff, List.all_eq_true, List.all_eq_true]
      refine forall_congr' fun o => forall_congr' fun ho => ?_
      have rv := RelO.isSome_eq (r2.val (Sum.inr o))
      show ((valueAt vb (Sum.inr o)).isSome && rowsEq ns (A.m o) (B.m o)) = true ↔ _
      rw [← rv]
      by_cases hob : o ∈ B.os
      · obtain ⟨c', hv, hc'⟩ := gFin_val hG hob
        rw [hv, (mem_os (os_outs ho)).mp hob]
        rfl
      · have : B.p o = false := by
          cases hh : B.p o with
          | false => rfl
          | true => exact absurd ((mem_os (os_outs ho)).mpr hh) hob
        rw [gFin_none hG hob, this]
        rfl
    rw [e]
    exact ⟨.bl _, H, I, rfl, q⟩
end
end Pf

set_option Elab.async false
set_option maxRecDepth 100000
set_option linter.all false
set_option maxHeartbeats 4000000
/-! Own operators: a comparison, != by an own ==, a binary operator. -/
namespace Pf
open PySem PySem.Spec L2 PyProof.Rows
/-- a def of the class at C under this name, with its promise -/
structure Dun (P : Program) (w : World) (K : PySem.W.Frag) (mg : Str → Option Value) (base : Heap) (k : Nat) (C : Addr) (m : Str) (sp : Sp) : Prop where
  ex : ∃ (f : Addr) (fd : FuncData) (ps : List Str), PySem.W.findIn K (.ref C) m = some (some (.ref f)) ∧ PySem.W.isFn K (.ref f) = true ∧ FnOk P w K mg base CX0 k f fd ps sp ∧ Binds K fd ps []
section
variable {X : Cx} {k : Nat} {C : Addr} {sp : Sp} {m : Str}
theorem own_call {f : Addr} {fd : FuncData} {ps : List Str} {A : Around} {pins : List (Addr × Obj)} {s : Shared} {σ : L2.St} {H : Hp} {a b : Addr} {Q : VK} (F : FnOk X.prog X.w X.K X.mg X.base CX0 k f fd ps sp) (hb : Binds X.K fd ps []) (sb : Sub X k A) (I : L2.Inv X pins σ H s)
    (hsp : sp [.ref a, .ref b] H Q C8.E0) : wpAny (model X.prog X.w) A (call (.ref f) [.ref a, .ref b]) (EP X pins σ Q) X.xe s := by
  have e0 : Env0 X.prog X.w X.K X.mg X.base A X.stack s H := by
    have e := I.env0
    exact ⟨by rw [sb.fr]; exact e.frames, e.mod, e.bs, e.bsz, e.funs, e.frf, e.hok, e.bare⟩
  have hl := F.len _ _ _ _ hsp
  have r2 : Vals [V.ref a, V.ref b] [Value.ref a, Value.ref b] := .cons rfl (.cons rfl .nil)
  refine wpAny_call (codeAny_mono (F.run A X.stack s H ⟨[.ref a, .ref b], []⟩ [.ref a, .ref b] [.ref a, .ref b] _ C8.E0 sb.room e0 (by
    have := hb s [.ref a, .ref b] I.kIn (by simpa using hl)
    simpa using this) r2 hsp) fun r s' hq => ?_)
  cases r with
  | error e => exact C8.pass0 (E := C8.E0) pins σ H s e s' I hq
  | ok fl =>
    cases fl with
    | ret w => exact I.after hq
    | next => exact False.elim hq
    | brk => exact False.elim hq
    | cont => exact False.elim hq
/-- two instances of the class, what the def promises, a truth -/
def rOwn (C : Addr) (sp : Sp) (g : Bool → Bool) : R2 := fun x y H Q => ∃ a b dx dy fs gs, x = .ref a ∧ y = .ref b ∧ H a = some (.ins C dx fs) ∧ H b = some (.ins C dy gs) ∧ sp [.ref a, .ref b] H (fun v H' => ∃ r, v = .bl r ∧ Q (.bl (g r)) H') C8.E0
theorem op_cmpOwn {op : CmpOp} (hop : ∀ v u, compareOp op v u = richCompare op v u) (D : Dun X.prog X.w X.K X.mg X.base k C (cmpInfo op).2.1 sp) (hr : Room k X.A) : OpR X (compareOp op) (rOwn C sp id) := by
  intro pins s σ H x y v u Q I rx ry h
  obtain ⟨a, b, dx, dy, fs, gs, rfl, rfl, ha, hb, hsp⟩ := h
  cases rx
  cases ry
  obtain ⟨f, fd, ps, hs, hf, F, bd⟩ := D.ex
  obtain ⟨mA, J, _⟩ := ins_get I.hok ha
  obtain ⟨mB, J', _⟩ := ins_get I.hok hb
  obtain ⟨od, J, _⟩ := J.look
  obtain ⟨od', J', _⟩ := J'.look
  obtain ⟨m, hF⟩ := I.fr
  rw [hop]
  refine PySem.W.cmp_K (op := op) (tb := .ref C) hr.units0 hF I.ok.mod.kin J J'.type (by simp [PySem.W.notFirst]) hs hf ?_
  refine wpAny_mono (own_call F bd ⟨hr, rfl⟩ I hsp) (fun w s' z => ?_) fun _ _ x => x
  obtain ⟨v, H', I', rv, r, rfl, q⟩ := z
  cases rv
  exact ⟨.bl r, H', I', rfl, q⟩
/-- a binary operator of the class: the answer is an object -/
def rOwnB (C : Addr) (sp : Sp) : R2 := fun x y H Q => ∃ a b dx dy fs gs, x = .ref a ∧ y = .ref b ∧ H a = some (.ins C dx fs) ∧ H b = some (.ins C dy gs) ∧ sp [.ref a, .ref b] H (fun v H' => ∃ c, v = .ref c ∧ Q (.ref c) H') C8.E0
theorem op_binOwn {op : Operator} (hc : PySem.W.selfFirst X.K C = true) (D : Dun X.prog X.w X.K X.mg X.base k C (PySem.dunder op.info.2) sp) (hr : Room k X.A) : OpR X (binaryOp op) (rOwnB C sp) := by
  intro pins s σ H x y v u Q I rx ry h
  obtain ⟨a, b, dx, dy, fs, gs, rfl, rfl, ha, hb, hsp⟩ := h
  cases rx
  cases ry
  obtain ⟨f, fd, ps, hs, hf, F, bd⟩ := D.ex
  obtain ⟨mA, J, _⟩ := ins_get I.hok ha
  obtain ⟨mB, J', _⟩ := ins_get I.hok hb
  obtain ⟨od, J, _⟩ := J.look
  obtain ⟨od', J', _⟩ := J'.look
  obtain ⟨m, hF⟩ := I.fr
  refine PySem.W.binop_K hF I.ok.mod.kin J J'.type hc hs hf ?_
  refine wpAny_mono (own_call F bd ⟨hr, rfl⟩ I hsp) (fun w s' z => ?_) fun _ _ x => x
  obtain ⟨v, H', I', rv, c, rfl, q⟩ := z
  cases rv
  exact ⟨.ref c, H', I', rfl, q⟩
end
section
variable {prog : Program} {w : World} {A : Around} {E : Value → Shared → Prop} {s : Shared} {K : PySem.W.Frag} {x C : Addr} {ox : Obj} {od : Option Obj}
theorem ifBound_ne {M : Model} {args : List Value} {Q : Option Value → Shared → Prop} (X : K.In s.heap) (I : PySem.W.InstAt s.heap x ox C od) (hs : PySem.W.findIn K (.ref C) "__ne__" = some (some (.builtin "object.__ne__")))
    (h : wpAny M A (call (.builtin "object.__ne__") (.ref x :: args)) (fun v => Q (some v)) E s) : wpAny M A (callSpecialIfBound? (.ref x) "__ne__" args) Q E s := by
  simp only [callSpecialIfBound?, bindSpecialIfBound?]
  refine wpAny_holding (wpAny_bind (wpAny_bind (wpAny_bind (I.type.here ((PySem.W.looks_findIn X hs).here ?_)))))
  refine wpAny_bind (wpAny_askSetting (wpAny_ite ?_))
  have fin : wpAny M A (call (.builtin "object.__ne__") ([.ref x] ++ args) >>= fun v => pure (some v)) Q E s := wpAny_bind (wpAny_mono h (fun v s' h' => wpAny_pure h') fun _ _ h' => h')
  split
  · exact wpAny_bind (wpAny_of_eq (F.cmp_object.ne.bind _) (wpAny_pure (by exact fin)))
  · exact wpAny_tryCatch (wpAny_bind (wpAny_of_eq (F.cmp_object.ne.bind _) (wpAny_pure (by exact fin))))
theorem ne_entry {M : Model} {b : Addr} {R : Bool → Shared → Prop} {Q : PySem.Fin → Shared → Prop} (hu : A.units < cLine) (h : ∀ Q' : Option Value → Shared → Prop, (∀ r s', R r s' → Q' (some (.bool r)) s') → wpAny M A (callSpecialIfBound? (.ref x) "__eq__" [.ref b]) Q' E s)
    (hq : ∀ r s', R r s' → Q (.done (.ret (.bool (!r)))) s') : wpAny M A (Builtin.«object.__ne__» ⟨[.ref x, .ref b], []⟩) Q E s := by
  unfold Builtin.«object.__ne__»
  repeat (first | with_reducible refine wpAny_cRoomFor hu ?_ | with_reducible refine h _ fun r s' hr => ?_ | wp_step)
  exact hq _ _ ‹_›
end
section
variable {X : Cx} {k : Nat} {C : Addr} {sp : Sp}
/-- a class whose != is the own == turned -/
structure NeC (K : PySem.W.Frag) (C : Addr) : Prop where
  ne : PySem.W.findIn K (.ref C) "__ne__" = some (some (.builtin "object.__ne__"))
  hm : PySem.W.mroIn K C (.type "object") = some true
theorem op_neOwn (nc : NeC X.K C) (D : Dun X.prog X.w X.K X.mg X.base k C "__eq__" sp) (hr : Room (k + 1) X.A) : OpR X (compareOp .NotEq) (rOwn C sp not) := by
  intro pins s σ H x y v u Q I rx ry h
  obtain ⟨a, b, dx, dy, fs, gs, rfl, rfl, ha, hb, hsp⟩ := h
  cases rx
  cases ry
  obtain ⟨f, fd, ps, hs, hf, F, bd⟩ := D.ex
  obtain ⟨mA, J, _⟩ := ins_get I.hok ha
  obtain ⟨mB, J', _⟩ := ins_get I.hok hb
  obtain ⟨od, J, _⟩ := J.look
  obtain ⟨od', J', _⟩ := J'.look
  have one : wpAny (model X.prog X.w) X.A (tryCompare (.ref a) "__ne__" (.ref b)) (fun r s' => ∃ v, r = some v ∧ EP X pins σ Q v s') X.xe s := by
    unfold tryCompare
    refine wpAny_bind (ifBound_ne I.kIn J nc.ne ?_)
    refine wpAny_call (codeAny_call_builtin PySem.F.cmp_object.ne.plain PySem.F.cmpEntry_ne (PySem.W.check_slot PySem.F.cmpKind_ne PySem.F.cmpSplit_ne (J.type.andThen (PySem.W.looks_mroIn I.kIn nc.hm)) (PySem.F.cmpArgs_ne _ _) ?_))
    refine ne_entry (R := fun r s' => EP X pins σ (fun v H' => v = .bl r ∧ Q (.bl (!r)) H') (.bool r) s') hr.in1.units0 (fun Q' hQ' => ?_) ?_
    · refine PySem.W.ifBound_K I.kIn J hs hf (wpAny_mono (own_call F bd (Sub.in1 ⟨hr, rfl⟩) I hsp) (fun w s' z => ?_) fun _ _ x => x)
      obtain ⟨v, H', I', rv, r, rfl, q⟩ := z
      cases rv
      exact hQ' r s' ⟨.bl r, H', I', rfl, rfl, q⟩
    · rintro r s' ⟨v, H', I', rv, rfl, q⟩
      exact wpAny_pure ⟨_, rfl, .bl (!r), H', I', rfl, q⟩
  show wpAny (model X.prog X.w) X.A (richCompare .NotEq (.ref a) (.ref b)) (EP X pins σ Q) X.xe s
  unfold richCompare
  simp only [oneThing_ref]
  refine wpAny_holding (wpAny_bind (wpAny_cRoomFor hr.units0 ?_))
  refine wpAny_bind (J.type.here (wpAny_bind (J'.type.here ?_)))
  split
  · rename_i q
    simp at q
  · refine wpAny_bind (wpAny_pure ?_)
    simp only [Bool.false_eq_true, if_false]
    refine wpAny_bind (wpAny_mono one (fun r s' z => ?_) fun _ _ e => e)
    obtain ⟨v, rfl, hq⟩ := z
    exact wpAny_pure hq
end
end Pf

set_option Elab.async false
set_option maxRecDepth 100000
set_option linter.all false
set_option maxHeartbeats 4000000
namespace Pf
open PySem PySem.Spec L2 PyProof.Rows
def spEqP (C : Addr) : Sp := fun vs H Q _ => ∃ (a b : V) (ns : List Str) (X Y : Pr), vs = [a, b] ∧ InsAt C H a ns X ∧ InsAt C H b ns Y ∧ ∀ H', Same H H' → Q (.bl (eqB ns X Y)) H'
section
variable {P : Program} {w : World} {K : PySem.W.Frag} {mg : Str → Option Value} {base : Heap} {aE aR aK : Addr}
abbrev s_Profile___eq__ : Stmt := inClass (top 20) 4
theorem sc_Profile___eq__ : FnScope ["self", "other"] ["self", "other"] (defScope s_Profile___eq__) := ⟨rfl, rfl, rfl, by decide +kernel, rfl, by decide +kernel, by decide +kernel⟩
theorem ok_eq {C : Addr} (hC : Cls K C) (n1 : NoAttr K C "own_outcomes") (n2 : NoAttr K C "own_reads") (IC : C8.InsC K C) (GC : ∃ u, mg "Profile" = some u ∧ RelV (.ref C) u) {f : Addr} {fd : FuncData} (F : Fun K "__eq__" "Profile.__eq__" s_Profile___eq__ f fd) (B : Bi mg) : FnOk P w K mg base CX0 1 f fd ["self", "other"] (spEqP C) := by
  refine F.ok sc_Profile___eq__ (fun vs H Q E h => ?_) (fun cdv A outer s H vs Q E hr h => ?_)
  · obtain ⟨a, b, ns, X, Y, rfl, _⟩ := h
    rfl
  · obtain ⟨_, _, ns, X, Y, rfl, ⟨a, dx, fo, ro, kvs, rfl, ha, hfo, hF, hro⟩, ⟨b, dy, go, so, lvs, rfl, hb, hgo, hG, hso⟩, k⟩ := h
    have hu := hu_of hr
    refine ⟨_, (pss_cons (ps_if (pt_not (pt_val (pe_callB (C8.call_isC IC) (by rfl) B.isinstance (by decide +kernel) (pa_cons (pv 1) (pa_cons (C8.pe_gc (by rfl) GC) pa_nil)))))
        (pss_one ps_never)
        pss_nil)
      (pss_one (ps_ret (pe_and (pe_cmpR (op_eqFin hr.units) (pe_fld (pv 0) rfl) (pe_fld (pv 1) rfl) (nomark _)) (pe_one (pe_cmpR (op_eqRow hr.units) (pe_fld (pv 0) rfl) (pe_fld (pv 1) rfl) (nomark _))))))), ?_⟩
    refine ⟨_, rfl, b, dy, _, rfl, hb, true, rfl, iteF ?_⟩
    refine ⟨_, rfl, a, C, dx, _, _, rfl, ha, hC, n1, look_out _ _, _, rfl, b, C, dy, _, _, rfl, hb, hC, n1, look_out _ _, fo, go, kvs, lvs, ns, X, Y, rfl, rfl, hfo, hF, hgo, hG, _, rfl, ?_⟩
    by_cases h1 : finsEq ns X Y = true
    · refine iteT' h1 ?_
      refine ⟨_, rfl, a, C, dx, _, _, rfl, ha, hC, n2, look_rd _ _, _, rfl, b, C, dy, _, _, rfl, hb, hC, n2, look_rd _ _, ro, so, rL, ns, _, _, rfl, rfl, .inr rfl, hro, hso, ?_⟩
      have := k H (Same.refl _)
      unfold eqB at this
      rwa [h1, Bool.true_and] at this
    · have h1' : finsEq ns X Y = false := by simpa using h1
      refine iteF' h1' ?_
      have := k H (Same.refl _)
      unfold eqB at this
      rw [h1'] at this
      exact this
/-! ### what the operators make of profiles -/
variable {C : Addr} {ns : List Str}
/-- a fact of the heap that grows with it -/
abbrev Bs (C : Addr) (ns : List Str) (σ : L2.St) (Zs : List (Nat × Pr)) (H : Hp) : Prop := ∀ z ∈ Zs, ∃ v, σ[z.1]? = some (some v) ∧ InsAt C H v ns z.2
theorem Bs.same {σ : L2.St} {Zs : List (Nat × Pr)} {H H' : Hp} (b : Bs C ns σ Zs H) (e : Same H H') : Bs C ns σ Zs H' := fun z hz => by
  obtain ⟨v, h1, h2⟩ := b z hz
  exact ⟨v, h1, h2.same e⟩
/-- t makes the profile Z -/
def Mk1 (C : Addr) (ns : List Str) (σ : L2.St) (Zs : List (Nat × Pr)) (t : TE) (Z : Pr) : Prop := ∀ H Q, Bs C ns σ Zs H → (∀ v H', Same H H' → InsAt C H' v ns Z → Q v H') → t σ H Q
/-- t tells b -/
def Tl1 (C : Addr) (ns : List Str) (σ : L2.St) (Zs : List (Nat × Pr)) (t : TE) (b : Bool) : Prop := ∀ H Q, Bs C ns σ Zs H → (∀ H', Same H H' → Q (.bl b) H') → t σ H Q
def Tt1 (C : Addr) (ns : List Str) (σ : L2.St) (Zs : List (Nat × Pr)) (t : TT) (b : Bool) : Prop := ∀ H Q, Bs C ns σ Zs H → (∀ H', Same H H' → Q b H') → t σ H Q
variable {σ : L2.St} {Zs : List (Nat × Pr)} {ta tb : TE} {X Y : Pr} {b c : Bool}
theorem mk_var {i : Nat} {Z : Pr} (h : (i, Z) ∈ Zs) : Mk1 C ns σ Zs (tVar i) Z := fun H Q hb k => by
  obtain ⟨v, h1, h2⟩ := hb _ h
  exact ⟨v, h1, k v H (Same.refl _) h2⟩
theorem mk_bin {op : Pr → Pr → Pr} (hN : NsOk ns) (h1 : Mk1 C ns σ Zs ta X) (h2 : Mk1 C ns σ Zs tb Y) : Mk1 C ns σ Zs (tOp (rOwnB C (spBin C op)) ta tb) (op X Y) := fun H Q hb k => by
  refine h1 H _ hb fun v H1 e1 i1 => h2 H1 _ (hb.same e1) fun u H2 e2 i2 => ?_
  have i1 := i1.same e2
  have i1' := i1
  have i2' := i2
  obtain ⟨a, dx, fo, ro, kvs, rfl, ha, _⟩ := i1'
  obtain ⟨b, dy, go, so, lvs, rfl, hb', _⟩ := i2'
  exact ⟨a, b, dx, dy, _, _, rfl, rfl, ha, hb', _, _, ns, X, Y, rfl, i1, i2, hN, fun x H3 e3 i3 => ⟨x, rfl, k _ _ (e1.trans (e2.trans e3)) i3⟩⟩
theorem tl_cmp {sp : Sp} {g : Bool → Bool} {f : Pr → Pr → Bool} (hs : ∀ (a b : Addr) H Q E, InsAt C H (.ref a) ns X → InsAt C H (.ref b) ns Y → (∀ H', Same H H' → Q (.bl (f X Y)) H') → sp [.ref a, .ref b] H Q E)
    (h1 : Mk1 C ns σ Zs ta X) (h2 : Mk1 C ns σ Zs tb Y) : Tl1 C ns σ Zs (tOp (rOwn C sp g) ta tb) (g (f X Y)) := fun H Q hb k => by
  refine h1 H _ hb fun v H1 e1 i1 => h2 H1 _ (hb.same e1) fun u H2 e2 i2 => ?_
  have i1 := i1.same e2
  have i1' := i1
  have i2' := i2
  obtain ⟨a, dx, fo, ro, kvs, rfl, ha, _⟩ := i1'
  obtain ⟨b, dy, go, so, lvs, rfl, hb', _⟩ := i2'
  exact ⟨a, b, dx, dy, _, _, rfl, rfl, ha, hb', hs a b H2 _ _ i1 i2 fun H3 e3 => ⟨_, rfl, k _ (e1.trans (e2.trans e3))⟩⟩
theorem tl_eqP {g : Bool → Bool} (h1 : Mk1 C ns σ Zs ta X) (h2 : Mk1 C ns σ Zs tb Y) : Tl1 C ns σ Zs (tOp (rOwn C (spEqP C) g) ta tb) (g (eqB ns X Y)) :=
  tl_cmp (f := eqB ns) (fun a b H Q E i1 i2 k => ⟨_, _, ns, X, Y, rfl, i1, i2, k⟩) h1 h2
theorem tl_leP {g : Bool → Bool} (hN : NsOk ns) (h1 : Mk1 C ns σ Zs ta X) (h2 : Mk1 C ns σ Zs tb Y) : Tl1 C ns σ Zs (tOp (rOwn C (spLe C) g) ta tb) (g (leB ns X Y)) :=
  tl_cmp (f := leB ns) (fun a b H Q E i1 i2 k => ⟨_, _, ns, X, Y, rfl, i1, i2, by have := hN.len; omega, k⟩) h1 h2
theorem tt_of (h : Tl1 C ns σ Zs ta b) : Tt1 C ns σ Zs (tTest ta) b := fun H Q hb k => h H _ hb fun H' e => ⟨b, rfl, k H' e⟩
theorem tt_or {t1 t2 : TT} (h1 : Tt1 C ns σ Zs t1 b) (h2 : Tt1 C ns σ Zs t2 c) : Tt1 C ns σ Zs (tOr t1 t2) (b || c) := fun H Q hb k => by
  refine h1 H _ hb fun H1 e1 => ?_
  cases b with
  | true => exact iteT (k H1 e1)
  | false => exact iteF (h2 H1 _ (hb.same e1) fun H2 e2 => k H2 (e1.trans e2))
end
end Pf

set_option Elab.async false
set_option maxRecDepth 100000
set_option linter.all false
set_option maxHeartbeats 4000000
/-! The lattice laws of profiles, with no program in sight. (printed by gen_lat.py) -/
namespace Pf
open PySem
theorem filter_sub : ∀ (l : List Str) (p q : Str → Bool), (∀ o ∈ l, p o = true → q o = true) → (l.filter p).length ≤ (l.filter q).length ∧ ((l.filter p).length = (l.filter q).length → ∀ o ∈ l, q o = true → p o = true)
  | [], _, _, _ => ⟨Nat.le_refl _, fun _ _ h => by cases h⟩
  | x :: l, p, q, h => by
    obtain ⟨h1, h2⟩ := filter_sub l p q fun o ho => h o (List.mem_cons_of_mem _ ho)
    have hx := h x List.mem_cons_self
    cases hp : p x with
    | true =>
      have hq := hx hp
      rw [List.filter_cons_of_pos hp, List.filter_cons_of_pos hq, List.length_cons, List.length_cons]
      refine ⟨by omega, fun e o ho hqo => ?_⟩
      rcases List.mem_cons.mp ho with rfl | ho
      · exact hp
      · exact h2 (by omega) o ho hqo
    | false =>
      rw [List.filter_cons_of_neg (by simp [hp])]
      cases hq : q x with
      | true =>
        rw [List.filter_cons_of_pos hq, List.length_cons]
        exact ⟨by omega, fun e => by omega⟩
      | false =>
        rw [List.filter_cons_of_neg (by simp [hq])]
        refine ⟨h1, fun e o ho hqo => ?_⟩
        rcases List.mem_cons.mp ho with rfl | ho
        · rw [hq] at hqo; cases hqo
        · exact h2 e o ho hqo
structure Eqv (ns : List Str) (X Y : Pr) : Prop where
  p : ∀ o ∈ outs, X.p o = Y.p o
  m : ∀ o ∈ outs, X.p o = true → ∀ n ∈ ns, X.m o n = Y.m o n
  q : ∀ n ∈ ns, X.q n = Y.q n
theorem rowsEq_iff {ns : List Str} {f g : Str → Lv} : rowsEq ns f g = true ↔ ∀ n ∈ ns, f n = g n := by
  unfold rowsEq
  rw [List.all_eq_true]
  exact forall_congr' fun n => forall_congr' fun _ => by rw [decide_eq_true_iff]
theorem lowB_iff {ns : List Str} {f g : Str → Lv} : lowB ns f g = true ↔ ∀ n ∈ ns, f n ≤ g n := by
  unfold lowB
  rw [List.all_eq_true]
  exact forall_congr' fun n => forall_congr' fun _ => by rw [decide_eq_true_iff]
theorem eqB_iff {ns : List Str} {X Y : Pr} : eqB ns X Y = true ↔ Eqv ns X Y := by
  unfold eqB finsEq
  rw [Bool.and_eq_true, Bool.and_eq_true, List.all_eq_true, beq_iff_eq, rowsEq_iff]
  constructor
  · rintro ⟨⟨h1, h2⟩, h3⟩
    have hs : ∀ o ∈ outs, X.p o = true → Y.p o = true := fun o ho hp => by
      have := h2 o ((mem_os ho).mpr hp)
      rw [Bool.and_eq_true] at this
      exact this.1
    have hb := (filter_sub outs X.p Y.p hs).2 h1
    refine ⟨fun o ho => ?_, fun o ho hp => ?_, h3⟩
    · rw [Bool.eq_iff_iff]
      exact ⟨hs o ho, hb o ho⟩
    · have := h2 o ((mem_os ho).mpr hp)
      rw [Bool.and_eq_true] at this
      exact rowsEq_iff.mp this.2
  · rintro ⟨h1, h2, h3⟩
    refine ⟨⟨?_, fun o ho => ?_⟩, h3⟩
    · unfold Pr.os
      rw [List.filter_congr h1]
    · have hp := (mem_os (os_outs ho)).mp ho
      rw [Bool.and_eq_true]
      exact ⟨by rw [← h1 o (os_outs ho)]; exact hp, rowsEq_iff.mpr (h2 o (os_outs ho) hp)⟩
structure Lev (ns : List Str) (X Y : Pr) : Prop where
  p : ∀ o ∈ outs, X.p o = true → Y.p o = true
  m : ∀ o ∈ outs, X.p o = true → ∀ n ∈ ns, X.m o n ≤ Y.m o n
  q : ∀ n ∈ ns, X.q n ≤ Y.q n
theorem leB_iff {ns : List Str} {X Y : Pr} : leB ns X Y = true ↔ Lev ns X Y := by
  unfold leB
  rw [Bool.and_eq_true, List.all_eq_true, lowB_iff]
  constructor
  · rintro ⟨h2, h3⟩
    refine ⟨fun o ho hp => ?_, fun o ho hp => ?_, h3⟩
    · have := h2 o ((mem_os ho).mpr hp)
      rw [Bool.and_eq_true] at this
      exact this.1
    · have := h2 o ((mem_os ho).mpr hp)
      rw [Bool.and_eq_true] at this
      exact lowB_iff.mp this.2
  · rintro ⟨h1, h2, h3⟩
    refine ⟨fun o ho => ?_, h3⟩
    have hp := (mem_os (os_outs ho)).mp ho
    rw [Bool.and_eq_true]
    exact ⟨h1 o (os_outs ho) hp, lowB_iff.mpr (h2 o (os_outs ho) hp)⟩
theorem lat_mc (ns : List Str) (X Y Z : Pr) : eqB ns ((X).meet (Y)) ((Y).meet (X)) = true := by
  refine eqB_iff.mpr ⟨fun o _ => ?_, fun o _ => ?_, fun n _ => ?_⟩
  · simp only [Pr.meet, Pr.join]
    generalize X.p o = x; generalize Y.p o = y; generalize Z.p o = z
    revert x y z; decide +kernel
  · intro h n _
    revert h
    simp only [Pr.meet, Pr.join]
    generalize X.p o = x; generalize Y.p o = y; generalize Z.p o = z
    generalize X.m o n = a; generalize Y.m o n = b; generalize Z.m o n = c
    revert x y z a b c; decide +kernel
  · simp only [Pr.meet, Pr.join]
    generalize X.q n = a; generalize Y.q n = b; generalize Z.q n = c
    revert a b c; decide +kernel
theorem lat_jc (ns : List Str) (X Y Z : Pr) : eqB ns ((X).join (Y)) ((Y).join (X)) = true := by
  refine eqB_iff.mpr ⟨fun o _ => ?_, fun o _ => ?_, fun n _ => ?_⟩
  · simp only [Pr.meet, Pr.join]
    generalize X.p o = x; generalize Y.p o = y; generalize Z.p o = z
    revert x y z; decide +kernel
  · intro h n _
    revert h
    simp only [Pr.meet, Pr.join]
    generalize X.p o = x; generalize Y.p o = y; generalize Z.p o = z
    generalize X.m o n = a; generalize Y.m o n = b; generalize Z.m o n = c
    revert x y z a b c; decide +kernel
  · simp only [Pr.meet, Pr.join]
    generalize X.q n = a; generalize Y.q n = b; generalize Z.q n = c
    revert a b c; decide +kernel
theorem lat_mi (ns : List Str) (X Y Z : Pr) : eqB ns ((X).meet (X)) (X) = true := by
  refine eqB_iff.mpr ⟨fun o _ => ?_, fun o _ => ?_, fun n _ => ?_⟩
  · simp only [Pr.meet, Pr.join]
    generalize X.p o = x; generalize Y.p o = y; generalize Z.p o = z
    revert x y z; decide +kernel
  · intro h n _
    revert h
    simp only [Pr.meet, Pr.join]
    generalize X.p o = x; generalize Y.p o = y; generalize Z.p o = z
    generalize X.m o n = a; generalize Y.m o n = b; generalize Z.m o n = c
    revert x y z a b c; decide +kernel
  · simp only [Pr.meet, Pr.join]
    generalize X.q n = a; generalize Y.q n = b; generalize Z.q n = c
    revert a b c; decide +kernel
theorem lat_ji (ns : List Str) (X Y Z : Pr) : eqB ns ((X).join (X)) (X) = true := by
  refine eqB_iff.mpr ⟨fun o _ => ?_, fun o _ => ?_, fun n _ => ?_⟩
  · simp only [Pr.meet, Pr.join]
    generalize X.p o = x; generalize Y.p o = y; generalize Z.p o = z
    revert x y z; decide +kernel
  · intro h n _
    revert h
    simp only [Pr.meet, Pr.join]
    generalize X.p o = x; generalize Y.p o = y; generalize Z.p o = z
    generalize X.m o n = a; generalize Y.m o n = b; generalize Z.m o n = c
    revert x y z a b c; decide +kernel
  · simp only [Pr.meet, Pr.join]
    generalize X.q n = a; generalize Y.q n = b; generalize Z.q n = c
    revert a b c; decide +kernel
theorem lat_ma (ns : List Str) (X Y Z : Pr) : eqB ns ((X).meet ((X).join (Y))) (X) = true := by
  refine eqB_iff.mpr ⟨fun o _ => ?_, fun o _ => ?_, fun n _ => ?_⟩
  · simp only [Pr.meet, Pr.join]
    generalize X.p o = x; generalize Y.p o = y; generalize Z.p o = z
    revert x y z; decide +kernel
  · intro h n _
    revert h
    simp only [Pr.meet, Pr.join]
    generalize X.p o = x; generalize Y.p o = y; generalize Z.p o = z
    generalize X.m o n = a; generalize Y.m o n = b; generalize Z.m o n = c
    revert x y z a b c; decide +kernel
  · simp only [Pr.meet, Pr.join]
    generalize X.q n = a; generalize Y.q n = b; generalize Z.q n = c
    revert a b c; decide +kernel
theorem lat_ja (ns : List Str) (X Y Z : Pr) : eqB ns ((X).join ((X).meet (Y))) (X) = true := by
  refine eqB_iff.mpr ⟨fun o _ => ?_, fun o _ => ?_, fun n _ => ?_⟩
  · simp only [Pr.meet, Pr.join]
    generalize X.p o = x; generalize Y.p o = y; generalize Z.p o = z
    revert x y z; decide +kernel
  · intro h n _
    revert h
    simp only [Pr.meet, Pr.join]
    generalize X.p o = x; generalize Y.p o = y; generalize Z.p o = z
    generalize X.m o n = a; generalize Y.m o n = b; generalize Z.m o n = c
    revert x y z a b c; decide +kernel
  · simp only [Pr.meet, Pr.join]
    generalize X.q n = a; generalize Y.q n = b; generalize Z.q n = c
    revert a b c; decide +kernel
theorem lat_mas (ns : List Str) (X Y Z : Pr) : eqB ns (((X).meet (Y)).meet (Z)) ((X).meet ((Y).meet (Z))) = true := by
  refine eqB_iff.mpr ⟨fun o _ => ?_, fun o _ => ?_, fun n _ => ?_⟩
  · simp only [Pr.meet, Pr.join]
    generalize X.p o = x; generalize Y.p o = y; generalize Z.p o = z
    revert x y z; decide +kernel
  · intro h n _
    revert h
    simp only [Pr.meet, Pr.join]
    generalize X.p o = x; generalize Y.p o = y; generalize Z.p o = z
    generalize X.m o n = a; generalize Y.m o n = b; generalize Z.m o n = c
    revert x y z a b c; decide +kernel
  · simp only [Pr.meet, Pr.join]
    generalize X.q n = a; generalize Y.q n = b; generalize Z.q n = c
    revert a b c; decide +kernel
theorem lat_jas (ns : List Str) (X Y Z : Pr) : eqB ns (((X).join (Y)).join (Z)) ((X).join ((Y).join (Z))) = true := by
  refine eqB_iff.mpr ⟨fun o _ => ?_, fun o _ => ?_, fun n _ => ?_⟩
  · simp only [Pr.meet, Pr.join]
    generalize X.p o = x; generalize Y.p o = y; generalize Z.p o = z
    revert x y z; decide +kernel
  · intro h n _
    revert h
    simp only [Pr.meet, Pr.join]
    generalize X.p o = x; generalize Y.p o = y; generalize Z.p o = z
    generalize X.m o n = a; generalize Y.m o n = b; generalize Z.m o n = c
    revert x y z a b c; decide +kernel
  · simp only [Pr.meet, Pr.join]
    generalize X.q n = a; generalize Y.q n = b; generalize Z.q n = c
    revert a b c; decide +kernel
theorem lat_md (ns : List Str) (X Y Z : Pr) : eqB ns ((X).meet ((Y).join (Z))) (((X).meet (Y)).join ((X).meet (Z))) = true := by
  refine eqB_iff.mpr ⟨fun o _ => ?_, fun o _ => ?_, fun n _ => ?_⟩
  · simp only [Pr.meet, Pr.join]
    generalize X.p o = x; generalize Y.p o = y; generalize Z.p o = z
    revert x y z; decide +kernel
  · intro h n _
    revert h
    simp only [Pr.meet, Pr.join]
    generalize X.p o = x; generalize Y.p o = y; generalize Z.p o = z
    generalize X.m o n = a; generalize Y.m o n = b; generalize Z.m o n = c
    revert x y z a b c; decide +kernel
  · simp only [Pr.meet, Pr.join]
    generalize X.q n = a; generalize Y.q n = b; generalize Z.q n = c
    revert a b c; decide +kernel
theorem lat_jd (ns : List Str) (X Y Z : Pr) : eqB ns ((X).join ((Y).meet (Z))) (((X).join (Y)).meet ((X).join (Z))) = true := by
  refine eqB_iff.mpr ⟨fun o _ => ?_, fun o _ => ?_, fun n _ => ?_⟩
  · simp only [Pr.meet, Pr.join]
    generalize X.p o = x; generalize Y.p o = y; generalize Z.p o = z
    revert x y z; decide +kernel
  · intro h n _
    revert h
    simp only [Pr.meet, Pr.join]
    generalize X.p o = x; generalize Y.p o = y; generalize Z.p o = z
    generalize X.m o n = a; generalize Y.m o n = b; generalize Z.m o n = c
    revert x y z a b c; decide +kernel
  · simp only [Pr.meet, Pr.join]
    generalize X.q n = a; generalize Y.q n = b; generalize Z.q n = c
    revert a b c; decide +kernel
theorem lat_lm (ns : List Str) (X Y : Pr) : leB ns X Y = eqB ns (X.meet Y) X := by
  rw [Bool.eq_iff_iff, leB_iff, eqB_iff]
  constructor
  · rintro ⟨h1, h2, h3⟩
    refine ⟨fun o ho => ?_, fun o ho hp n hn => ?_, fun n hn => ?_⟩
    · have := h1 o ho
      revert this
      simp only [Pr.meet]
      generalize X.p o = x; generalize Y.p o = y
      revert x y; decide +kernel
    · have hx : X.p o = true := by
        have hp : (X.p o && Y.p o) = true := hp
        rw [Bool.and_eq_true] at hp
        exact hp.1
      have := h2 o ho hx n hn
      revert this
      simp only [Pr.meet]
      generalize X.m o n = a; generalize Y.m o n = b
      revert a b; decide +kernel
    · have := h3 n hn
      revert this
      simp only [Pr.meet]
      generalize X.q n = a; generalize Y.q n = b
      revert a b; decide +kernel
  · rintro ⟨h1, h2, h3⟩
    refine ⟨fun o ho => ?_, fun o ho hp n hn => ?_, fun n hn => ?_⟩
    · have := h1 o ho
      revert this
      simp only [Pr.meet]
      generalize X.p o = x; generalize Y.p o = y
      revert x y; decide +kernel
    · have hy := h1 o ho
      have := h2 o ho (by rw [hy]; exact hp) n hn
      revert this
      simp only [Pr.meet]
      generalize X.m o n = a; generalize Y.m o n = b
      revert a b; decide +kernel
    · have := h3 n hn
      revert this
      simp only [Pr.meet]
      generalize X.q n = a; generalize Y.q n = b
      revert a b; decide +kernel
theorem lat_lj (ns : List Str) (X Y : Pr) : leB ns X Y = eqB ns (X.join Y) Y := by
  rw [Bool.eq_iff_iff, leB_iff, eqB_iff]
  constructor
  · rintro ⟨h1, h2, h3⟩
    refine ⟨fun o ho => ?_, fun o ho hp n hn => ?_, fun n hn => ?_⟩
    · have := h1 o ho
      revert this
      simp only [Pr.join]
      generalize X.p o = x; generalize Y.p o = y
      revert x y; decide +kernel
    · have h4 := h1 o ho
      have h5 : X.p o = true → X.m o n ≤ Y.m o n := fun q => h2 o ho q n hn
      revert h4 h5
      simp only [Pr.join]
      generalize X.p o = x; generalize Y.p o = y
      generalize X.m o n = a; generalize Y.m o n = b
      revert x y a b; decide +kernel
    · have := h3 n hn
      revert this
      simp only [Pr.join]
      generalize X.q n = a; generalize Y.q n = b
      revert a b; decide +kernel
  · rintro ⟨h1, h2, h3⟩
    refine ⟨fun o ho => ?_, fun o ho hp n hn => ?_, fun n hn => ?_⟩
    · have := h1 o ho
      revert this
      simp only [Pr.join]
      generalize X.p o = x; generalize Y.p o = y
      revert x y; decide +kernel
    · have h4 := h1 o ho
      have h5 := h2 o ho (by show (X.p o || Y.p o) = true; rw [hp]; rfl) n hn
      revert h4 h5 hp
      simp only [Pr.join]
      generalize X.p o = x; generalize Y.p o = y
      generalize X.m o n = a; generalize Y.m o n = b
      revert x y a b; decide +kernel
    · have := h3 n hn
      revert this
      simp only [Pr.join]
      generalize X.q n = a; generalize Y.q n = b
      revert a b; decide +kernel
theorem lat_gl (ns : List Str) (X Y Z : Pr) : (leB ns Z X && leB ns Z Y) = leB ns Z (X.meet Y) := by
  rw [Bool.eq_iff_iff, Bool.and_eq_true, leB_iff, leB_iff, leB_iff]
  constructor
  · rintro ⟨⟨h1, h2, h3⟩, ⟨g1, g2, g3⟩⟩
    refine ⟨fun o ho hp => ?_, fun o ho hp n hn => ?_, fun n hn => ?_⟩
    · show (X.p o && Y.p o) = true
      rw [h1 o ho hp, g1 o ho hp]; rfl
    · have h4 := h2 o ho hp n hn
      have h5 := g2 o ho hp n hn
      revert h4 h5
      simp only [Pr.meet]
      generalize X.m o n = a; generalize Y.m o n = b; generalize Z.m o n = c
      revert a b c; decide +kernel
    · have h4 := h3 n hn
      have h5 := g3 n hn
      revert h4 h5
      simp only [Pr.meet]
      generalize X.q n = a; generalize Y.q n = b; generalize Z.q n = c
      revert a b c; decide +kernel
  · rintro ⟨h1, h2, h3⟩
    have h1 : ∀ o ∈ outs, Z.p o = true → X.p o = true ∧ Y.p o = true := fun o ho hp => by
      have : (X.p o && Y.p o) = true := h1 o ho hp
      rwa [Bool.and_eq_true] at this
    have lo : ∀ a b c : Lv, c ≤ lvLo a b → c ≤ a ∧ c ≤ b := by decide +kernel
    exact ⟨⟨fun o ho hp => (h1 o ho hp).1, fun o ho hp n hn => (lo _ _ _ (h2 o ho hp n hn)).1, fun n hn => (lo _ _ _ (h3 n hn)).1⟩, ⟨fun o ho hp => (h1 o ho hp).2, fun o ho hp n hn => (lo _ _ _ (h2 o ho hp n hn)).2, fun n hn => (lo _ _ _ (h3 n hn)).2⟩⟩
theorem lat_lu (ns : List Str) (X Y Z : Pr) : (leB ns X Z && leB ns Y Z) = leB ns (X.join Y) Z := by
  rw [Bool.eq_iff_iff, Bool.and_eq_true, leB_iff, leB_iff, leB_iff]
  have hi : ∀ a b c : Lv, lvHi a b ≤ c ↔ a ≤ c ∧ b ≤ c := by decide +kernel
  constructor
  · rintro ⟨⟨h1, h2, h3⟩, ⟨g1, g2, g3⟩⟩
    refine ⟨fun o ho hp => ?_, fun o ho hp n hn => ?_, fun n hn => (hi _ _ _).mpr ⟨h3 n hn, g3 n hn⟩⟩
    · have hp : (X.p o || Y.p o) = true := hp
      rw [Bool.or_eq_true] at hp
      rcases hp with q | q
      · exact h1 o ho q
      · exact g1 o ho q
    · have h4 : X.p o = true → X.m o n ≤ Z.m o n := fun q => h2 o ho q n hn
      have h5 : Y.p o = true → Y.m o n ≤ Z.m o n := fun q => g2 o ho q n hn
      have hp : (X.p o || Y.p o) = true := hp
      revert h4 h5 hp
      simp only [Pr.join]
      generalize X.p o = x; generalize Y.p o = y
      generalize X.m o n = a; generalize Y.m o n = b; generalize Z.m o n = c
      revert x y a b c; decide +kernel
  · rintro ⟨h1, h2, h3⟩
    refine ⟨⟨fun o ho hp => h1 o ho (by show (X.p o || Y.p o) = true; rw [hp]; rfl), fun o ho hp n hn => ?_, fun n hn => ((hi _ _ _).mp (h3 n hn)).1⟩, ⟨fun o ho hp => h1 o ho (by show (X.p o || Y.p o) = true; rw [hp, Bool.or_true]), fun o ho hp n hn => ?_, fun n hn => ((hi _ _ _).mp (h3 n hn)).2⟩⟩
    · have h4 := h2 o ho (by show (X.p o || Y.p o) = true; rw [hp]; rfl) n hn
      revert h4 hp
      simp only [Pr.join]
      generalize X.p o = x; generalize Y.p o = y
      generalize X.m o n = a; generalize Y.m o n = b; generalize Z.m o n = c
      revert x y a b c; decide +kernel
    · have h4 := h2 o ho (by show (X.p o || Y.p o) = true; rw [hp, Bool.or_true]) n hn
      revert h4 hp
      simp only [Pr.join]
      generalize X.p o = x; generalize Y.p o = y
      generalize X.m o n = a; generalize Y.m o n = b; generalize Z.m o n = c
      revert x y a b c; decide +kernel
end Pf

set_option Elab.async false
set_option maxRecDepth 100000
set_option linter.all false
set_option maxHeartbeats 4000000
namespace Pf
open PySem PySem.Spec L2 PyProof.Rows
def spFits (C : Addr) : Sp := fun vs H Q _ => ∃ (a b c : V) (ns : List Str) (X Y Z : Pr), vs = [a, b, c] ∧ NsOk ns ∧ InsAt C H a ns X ∧ InsAt C H b ns Y ∧ InsAt C H c ns Z ∧ ∀ H', Same H H' → Q (.bl true) H'
section
variable {C : Addr} {ns : List Str} {σ : L2.St} {Zs : List (Nat × Pr)} {ta tb : TE} {b c : Bool}
theorem dec_bl (b c : Bool) : decide (V.bl b = V.bl c) = (b == c) := by
  cases b <;> cases c <;> decide
theorem tl_ne (h1 : Tl1 C ns σ Zs ta b) (h2 : Tl1 C ns σ Zs tb c) : Tl1 C ns σ Zs (tOp rNe ta tb) (!(b == c)) := fun H Q hb k =>
  h1 H _ hb fun H1 e1 => h2 H1 _ (hb.same e1) fun H2 e2 => ⟨rfl, by rw [dec_bl]; exact k _ (e1.trans e2)⟩
theorem tl_eq (h1 : Tl1 C ns σ Zs ta b) (h2 : Tl1 C ns σ Zs tb c) : Tl1 C ns σ Zs (tOp rEq ta tb) (b == c) := fun H Q hb k =>
  h1 H _ hb fun H1 e1 => h2 H1 _ (hb.same e1) fun H2 e2 => ⟨rfl, by rw [dec_bl]; exact k _ (e1.trans e2)⟩
theorem tl_and (h1 : Tl1 C ns σ Zs ta b) (h2 : Tl1 C ns σ Zs tb c) : Tl1 C ns σ Zs (tAndV ta tb) (b && c) := fun H Q hb k => by
  refine h1 H _ hb fun H1 e1 => ⟨b, rfl, ?_⟩
  cases b with
  | true => exact iteT (h2 H1 _ (hb.same e1) fun H2 e2 => k _ (e1.trans e2))
  | false => exact iteF (k _ e1)
theorem seq_no {tt : TT} {u rest : TS} {D : Ends} {H : Hp} (h : Tt1 C ns σ Zs tt b) (e : b = false) (hb : Bs C ns σ Zs H) (k : ∀ H', Same H H' → rest D σ H') : tSeq (tIfS tt u tNext) rest D σ H := by
  subst e
  exact h H _ hb fun H1 e1 => iteF (k H1 e1)
end
section
variable {P : Program} {w : World} {K : PySem.W.Frag} {mg : Str → Option Value} {base : Heap} {aE aR aK : Addr}
abbrev s_L_fits : Stmt := top 38
theorem sc_L_fits : FnScope ["_law_one", "_law_other", "_law_third"] ["_law_one", "_law_other", "_law_third"] (defScope s_L_fits) := ⟨rfl, rfl, rfl, by decide +kernel, rfl, by decide +kernel, by decide +kernel⟩
theorem ok_fits {C : Addr} (SF : PySem.W.selfFirst K C = true) (NC : NeC K C) (D_and : Dun P w K mg base 6 C (PySem.dunder Operator.BitAnd.info.2) (spBin C Pr.meet)) (D_or : Dun P w K mg base 6 C (PySem.dunder Operator.BitOr.info.2) (spBin C Pr.join)) (D_eq : Dun P w K mg base 1 C "__eq__" (spEqP C)) (D_le : Dun P w K mg base 3 C "__le__" (spLe C))
    {f : Addr} {fd : FuncData} (F : Fun K "_law_fits" "_law_fits" s_L_fits f fd) (B : Bi mg) : FnOk P w K mg base CX0 7 f fd ["_law_one", "_law_other", "_law_third"] (spFits C) := by
  refine F.ok sc_L_fits (fun vs H Q E h => ?_) (fun cdv A outer s H vs Q E hr h => ?_)
  · obtain ⟨a, b, c, ns, X, Y, Z, rfl, _⟩ := h
    rfl
  · obtain ⟨a, b, c, ns, X, Y, Z, rfl, hN, hX, hY, hZ, k⟩ := h
    have hu := hu_of hr
    refine ⟨_, (pss_cons (ps_if (PW.pt (pw_or (pt_cmpR (op_neOwn NC D_eq (hr.mono (by decide))) (pe_op (op_binOwn SF D_and (hr.mono (by decide))) (pv 0) (pv 1)) (pe_op (op_binOwn SF D_and (hr.mono (by decide))) (pv 1) (pv 0)) (nomark _)) (pw_or (pt_cmpR (op_neOwn NC D_eq (hr.mono (by decide))) (pe_op (op_binOwn SF D_or (hr.mono (by decide))) (pv 0) (pv 1)) (pe_op (op_binOwn SF D_or (hr.mono (by decide))) (pv 1) (pv 0)) (nomark _)) (pw_or (pt_cmpR (op_neOwn NC D_eq (hr.mono (by decide))) (pe_op (op_binOwn SF D_and (hr.mono (by decide))) (pv 0) (pv 0)) (pv 0) (nomark _)) (pw_or1 (pt_cmpR (op_neOwn NC D_eq (hr.mono (by decide))) (pe_op (op_binOwn SF D_or (hr.mono (by decide))) (pv 0) (pv 0)) (pv 0) (nomark _)))))))
        (pss_one (ps_ret pe_bl))
        pss_nil)
      (pss_cons (ps_if (PW.pt (pw_or (pt_cmpR (op_neOwn NC D_eq (hr.mono (by decide))) (pe_op (op_binOwn SF D_and (hr.mono (by decide))) (pv 0) (pe_op (op_binOwn SF D_or (hr.mono (by decide))) (pv 0) (pv 1))) (pv 0) (nomark _)) (pw_or1 (pt_cmpR (op_neOwn NC D_eq (hr.mono (by decide))) (pe_op (op_binOwn SF D_or (hr.mono (by decide))) (pv 0) (pe_op (op_binOwn SF D_and (hr.mono (by decide))) (pv 0) (pv 1))) (pv 0) (nomark _)))))
        (pss_one (ps_ret pe_bl))
        pss_nil)
      (pss_cons (ps_if (PW.pt (pw_or (pt_cmpR (op_neOwn NC D_eq (hr.mono (by decide))) (pe_op (op_binOwn SF D_and (hr.mono (by decide))) (pe_op (op_binOwn SF D_and (hr.mono (by decide))) (pv 0) (pv 1)) (pv 2)) (pe_op (op_binOwn SF D_and (hr.mono (by decide))) (pv 0) (pe_op (op_binOwn SF D_and (hr.mono (by decide))) (pv 1) (pv 2))) (nomark _)) (pw_or1 (pt_cmpR (op_neOwn NC D_eq (hr.mono (by decide))) (pe_op (op_binOwn SF D_or (hr.mono (by decide))) (pe_op (op_binOwn SF D_or (hr.mono (by decide))) (pv 0) (pv 1)) (pv 2)) (pe_op (op_binOwn SF D_or (hr.mono (by decide))) (pv 0) (pe_op (op_binOwn SF D_or (hr.mono (by decide))) (pv 1) (pv 2))) (nomark _)))))
        (pss_one (ps_ret pe_bl))
        pss_nil)
      (pss_cons (ps_if (PW.pt (pw_or (pt_cmpR (op_neOwn NC D_eq (hr.mono (by decide))) (pe_op (op_binOwn SF D_and (hr.mono (by decide))) (pv 0) (pe_op (op_binOwn SF D_or (hr.mono (by decide))) (pv 1) (pv 2))) (pe_op (op_binOwn SF D_or (hr.mono (by decide))) (pe_op (op_binOwn SF D_and (hr.mono (by decide))) (pv 0) (pv 1)) (pe_op (op_binOwn SF D_and (hr.mono (by decide))) (pv 0) (pv 2))) (nomark _)) (pw_or1 (pt_cmpR (op_neOwn NC D_eq (hr.mono (by decide))) (pe_op (op_binOwn SF D_or (hr.mono (by decide))) (pv 0) (pe_op (op_binOwn SF D_and (hr.mono (by decide))) (pv 1) (pv 2))) (pe_op (op_binOwn SF D_and (hr.mono (by decide))) (pe_op (op_binOwn SF D_or (hr.mono (by decide))) (pv 0) (pv 1)) (pe_op (op_binOwn SF D_or (hr.mono (by decide))) (pv 0) (pv 2))) (nomark _)))))
        (pss_one (ps_ret pe_bl))
        pss_nil)
      (pss_cons (ps_if (PW.pt (pw_or (pt_cmpR op_ne (pe_cmpR (op_cmpOwn (op := .LtE) (fun _ _ => rfl) D_le (hr.mono (by decide))) (pv 0) (pv 1) (nomark _)) (pe_cmpR (op_cmpOwn (op := .Eq) (fun _ _ => rfl) D_eq (hr.mono (by decide))) (pe_op (op_binOwn SF D_and (hr.mono (by decide))) (pv 0) (pv 1)) (pv 0) (nomark _)) (nomark _)) (pw_or1 (pt_cmpR op_ne (pe_cmpR (op_cmpOwn (op := .LtE) (fun _ _ => rfl) D_le (hr.mono (by decide))) (pv 0) (pv 1) (nomark _)) (pe_cmpR (op_cmpOwn (op := .Eq) (fun _ _ => rfl) D_eq (hr.mono (by decide))) (pe_op (op_binOwn SF D_or (hr.mono (by decide))) (pv 0) (pv 1)) (pv 1) (nomark _)) (nomark _)))))
        (pss_one (ps_ret pe_bl))
        pss_nil)
      (pss_cons (ps_if (pt_cmpR op_ne (pe_and (pe_cmpR (op_cmpOwn (op := .LtE) (fun _ _ => rfl) D_le (hr.mono (by decide))) (pv 2) (pv 0) (nomark _)) (pe_one (pe_cmpR (op_cmpOwn (op := .LtE) (fun _ _ => rfl) D_le (hr.mono (by decide))) (pv 2) (pv 1) (nomark _)))) (pe_cmpR (op_cmpOwn (op := .LtE) (fun _ _ => rfl) D_le (hr.mono (by decide))) (pv 2) (pe_op (op_binOwn SF D_and (hr.mono (by decide))) (pv 0) (pv 1)) (nomark _)) (nomark _))
        (pss_one (ps_ret pe_bl))
        pss_nil)
      (pss_one (ps_ret (pe_cmpR op_eq (pe_and (pe_cmpR (op_cmpOwn (op := .LtE) (fun _ _ => rfl) D_le (hr.mono (by decide))) (pv 0) (pv 2) (nomark _)) (pe_one (pe_cmpR (op_cmpOwn (op := .LtE) (fun _ _ => rfl) D_le (hr.mono (by decide))) (pv 1) (pv 2) (nomark _)))) (pe_cmpR (op_cmpOwn (op := .LtE) (fun _ _ => rfl) D_le (hr.mono (by decide))) (pe_op (op_binOwn SF D_or (hr.mono (by decide))) (pv 0) (pv 1)) (pv 2) (nomark _)) (nomark _)))))))))), ?_⟩
    have hb : Bs C ns (L2.start ["_law_one", "_law_other", "_law_third"] [a, b, c]) [(0, X), (1, Y), (2, Z)] H := by
      intro z hz
      simp only [List.mem_cons, List.not_mem_nil, or_false] at hz
      rcases hz with rfl | rfl | rfl
      · exact ⟨a, rfl, hX⟩
      · exact ⟨b, rfl, hY⟩
      · exact ⟨c, rfl, hZ⟩
    have x : Mk1 C ns (L2.start ["_law_one", "_law_other", "_law_third"] [a, b, c]) [(0, X), (1, Y), (2, Z)] (tVar 0) X := mk_var (by simp)
    have y : Mk1 C ns (L2.start ["_law_one", "_law_other", "_law_third"] [a, b, c]) [(0, X), (1, Y), (2, Z)] (tVar 1) Y := mk_var (by simp)
    have z : Mk1 C ns (L2.start ["_law_one", "_law_other", "_law_third"] [a, b, c]) [(0, X), (1, Y), (2, Z)] (tVar 2) Z := mk_var (by simp)
    refine seq_no (tt_or (tt_of (tl_eqP (mk_bin hN x y) (mk_bin hN y x))) (tt_or (tt_of (tl_eqP (mk_bin hN x y) (mk_bin hN y x))) (tt_or (tt_of (tl_eqP (mk_bin hN x x) x)) (tt_of (tl_eqP (mk_bin hN x x) x))))) (by rw [lat_mc ns X Y Z, lat_jc ns X Y Z, lat_mi ns X Y Z, lat_ji ns X Y Z]; rfl) hb fun H1 e1 => ?_
    have hb := hb.same e1
    refine seq_no (tt_or (tt_of (tl_eqP (mk_bin hN x (mk_bin hN x y)) x)) (tt_of (tl_eqP (mk_bin hN x (mk_bin hN x y)) x))) (by rw [lat_ma ns X Y Z, lat_ja ns X Y Z]; rfl) hb fun H2 e2 => ?_
    have hb := hb.same e2
    refine seq_no (tt_or (tt_of (tl_eqP (mk_bin hN (mk_bin hN x y) z) (mk_bin hN x (mk_bin hN y z)))) (tt_of (tl_eqP (mk_bin hN (mk_bin hN x y) z) (mk_bin hN x (mk_bin hN y z))))) (by rw [lat_mas ns X Y Z, lat_jas ns X Y Z]; rfl) hb fun H3 e3 => ?_
    have hb := hb.same e3
    refine seq_no (tt_or (tt_of (tl_eqP (mk_bin hN x (mk_bin hN y z)) (mk_bin hN (mk_bin hN x y) (mk_bin hN x z)))) (tt_of (tl_eqP (mk_bin hN x (mk_bin hN y z)) (mk_bin hN (mk_bin hN x y) (mk_bin hN x z))))) (by rw [lat_md ns X Y Z, lat_jd ns X Y Z]; rfl) hb fun H4 e4 => ?_
    have hb := hb.same e4
    refine seq_no (tt_or (tt_of (tl_ne (tl_leP hN x y) (tl_eqP (mk_bin hN x y) x))) (tt_of (tl_ne (tl_leP hN x y) (tl_eqP (mk_bin hN x y) y)))) (by
      have h1 := lat_lm ns X Y
      have h2 := lat_lj ns X Y
      simp only [id]
      rw [← h1, ← h2]
      cases leB ns X Y <;> rfl) hb fun H5 e5 => ?_
    have hb := hb.same e5
    refine seq_no (tt_of (tl_ne (tl_and (tl_leP hN z x) (tl_leP hN z y)) (tl_leP hN z (mk_bin hN x y)))) (by
      have h1 := lat_gl ns X Y Z
      simp only [id]
      rw [h1]
      cases leB ns Z (X.meet Y) <;> rfl) hb fun H6 e6 => ?_
    have hb := hb.same e6
    have t := tl_eq (tl_and (tl_leP (g := id) hN x z) (tl_leP (g := id) hN y z)) (tl_leP (g := id) hN (mk_bin (op := Pr.join) hN x y) z)
    refine t H6 _ hb fun H7 e7 => ?_
    have h1 := lat_lu ns X Y Z
    simp only [id]
    rw [h1, beq_self_eq_true]
    exact k _ (e1.trans (e2.trans (e3.trans (e4.trans (e5.trans (e6.trans e7))))))
end
end Pf

set_option Elab.async false
set_option maxRecDepth 100000
set_option linter.all false
set_option maxHeartbeats 4000000
/-! Defs that show things: the promise holds where no repr is under way. -/
namespace Pf
open PySem PySem.Spec L2 PyProof.Rows
structure FnG (P : Program) (w : World) (K : PySem.W.Frag) (mg : Str → Option Value) (base : Heap) (k : Nat) (f : Addr) (fd : FuncData) (ps : List Str) (sp : Sp) : Prop where
  len : ∀ vs H Q E, sp vs H Q E → vs.length = ps.length
  run : ∀ (A : Around) (outer : List Env) (s : Shared) (H : Hp) (args : Args) (us : List Value) (vs : List V) (Q : VK) (E : XK), A.guards = some [] → Room k A → Env0 P w K mg base A outer s H → BindsTo s fd args (ps.zip us) → Vals vs us → sp vs H Q E →
    codeAny (model P w) A (.call (.ref f) args) (CR CX0 outer P w H s Q E) s
section
variable {P : Program} {w : World} {K : PySem.W.Frag} {mg : Str → Option Value} {base : Heap}
theorem okG {x qual : Str} {st : Stmt} {f : Addr} {fd : FuncData} {N ps : List Str} {k : Nat} {sp : Sp} (F : Fun K x qual st f fd) (S : FnScope N ps (defScope st)) (len : ∀ vs H Q E, sp vs H Q E → vs.length = ps.length)
    (hbody : ∀ (cdv : Value) (A : Around) (outer : List Env) (s : Shared) (H : Hp) (vs : List V) (Q : VK) (E : XK), (A.deeper (envOfC qual (defScope st) s.heap.objs.size f cdv)).guards = some [] → Room k (A.deeper (envOfC qual (defScope st) s.heap.objs.size f cdv)) → sp vs H Q E →
      ∃ t, PSs (cxOf CX0 P w K mg base N qual (defScope st) f cdv A outer s H E).nox (defBody st) t ∧ t { nx := fun _ H' => Q .non H', rt := Q } (L2.start N vs) H) : FnG P w K mg base (k + 1) f fd ps sp := by
  obtain ⟨oc, od, kV, doc, pm, an, cdv, ct, osl, rfl, lk, hcd⟩ := F.ex
  refine ⟨len, fun A outer s H args us vs Q E hg hr e0 hb r hsp => ?_⟩
  -- the promise for this surrounding alone, by the general rule at the specification that says so
  have KX : K.In s.heap := e0.mod.kin.keeps fun b o e => (e0.bs b o e).1
  have lim : s.heap.NoLimit := e0.mod.nolimit.keeps fun b o e => (e0.bs b o e).1
  have hkind : ∀ y ∈ ps.zip us, (defScope st).names.lookup y.1 = some .local ∨ ((defScope st).names.lookup y.1 = some .cell ∧ ((cellsFrom (s.heap.objs.size + 1) (defScope st).names []).lookup y.1).isSome = true) := fun y hy => by
    rcases S.par y.1 (List.of_mem_zip hy).1 with q | q
    · exact .inl q
    · exact .inr ⟨q, PySem.W.cellsFrom_some _ _ _ (.inl q)⟩
  refine codeAny_call_function hr.depth (KX _ _ lk) rfl S.co S.gen rfl (PySem.W.codeRec_of KX hcd) (hb _ _ _ _ ?_)
  refine wpAny_newFunctionEnv_cells S.kind hkind fun env he s1 nx => ?_
  subst he
  refine ⟨lim.keeps nx.toInCall.keep, codeAny_func ?_⟩
  obtain ⟨t, ht, hq⟩ := hbody cdv A outer s H vs Q E hg (hr.deeper _) hsp
  have ht := ht.nox
  have I : L2.Inv (cxOf CX0 P w K mg base N qual (defScope st) f cdv A outer s H E) [] (L2.start N vs) H s1 := inv_start S hr.hd e0 (len _ _ _ _ hsp) r nx
  refine wpAny_mono (ht.run [] s1 (L2.start N vs) H _ I hq) (fun fl s' hs => ?_) fun e s' hs => hs
  cases fl with
  | ret u =>
    obtain ⟨v, σ', H', J, rv, q⟩ := hs
    exact ⟨v, H', J.os, J.bare, J.base, J.hok, rv, q⟩
  | next =>
    obtain ⟨σ', H', J, q⟩ := hs
    exact ⟨V.non, H', J.os, J.bare, J.base, J.hok, rfl, q⟩
  | brk =>
    obtain ⟨_, _, _, q⟩ := hs
    exact False.elim q
  | cont =>
    obtain ⟨_, _, _, q⟩ := hs
    exact False.elim q
/-- called by its name -/
structure CalG (P : Program) (w : World) (K : PySem.W.Frag) (mg : Str → Option Value) (base : Heap) (k : Nat) (x : Str) (sp : Sp) : Prop where
  ex : ∃ (f : Addr) (fd : FuncData) (ps : List Str), FnG P w K mg base k f fd ps sp ∧ mg x = some (.ref f) ∧ PySem.W.keepIn K (.ref f) = true ∧ Binds K fd ps []
end
section
variable {X : Cx} {k j : Nat} {x : Str} {sp : Sp} {p pos : Pos} {e : Expr} {es : List Expr} {t : TA}
theorem pe_cG (c : CalG X.prog X.w X.K X.mg X.base k x sp) (hgd : X.A.guards = some []) (hr : Room j X.A) (hk : k ≤ j) (hg : Gl X x) (ha : PA X (e :: es) t)
    (hdb : (x == ("__debug__" : Str)) = false := by decide) (he : starEach (e :: es) X.env = (false, eval e X.env) :: starEach es X.env := by rfl) (hpl : (backTo pos (starEach es X.env)).any (·.1) = false := by rfl) :
    PE X (.Call (.Name x p) (e :: es) [] pos) (tCall sp [] C8.E0 t) := by
  obtain ⟨f, fd, ps, F, hm, kp, b⟩ := c.ex
  refine ⟨fun pins s σ H Q I h => ?_⟩
  refine wpAny_Call_Name_kw (ld_glob I hg hm ?_ hdb)
  refine PySem.W.callWith_K (h₀ := X.base) I.ok.mod.kin kp (thn (ha.run pos pins s σ H _ I h) fun us s1 ⟨vs, H1, I1, r, q⟩ => ⟨I1.kIn, ?_⟩) he hpl
  have q : sp (vs ++ []) H1 Q C8.E0 := q
  rw [List.append_nil] at q
  have hl : us.length = ps.length := by rw [← r.length]; exact F.len _ _ _ _ q
  have bb := b s1 us I1.kIn (by rw [List.append_nil]; exact hl)
  rw [List.append_nil] at bb
  refine wpAny_call (codeAny_mono (F.run X.A X.stack s1 H1 ⟨us, []⟩ us vs Q C8.E0 hgd (hr.mono hk) I1.env0 bb r q) fun r s' hq => ?_)
  cases r with
  | error e => exact C8.pass0 (E := C8.E0) pins σ H1 s1 e s' I1 hq
  | ok fl =>
    cases fl with
    | ret u => exact I1.after hq
    | next => exact False.elim hq
    | brk => exact False.elim hq
    | cont => exact False.elim hq
end
end Pf

set_option Elab.async false
set_option maxRecDepth 100000
set_option linter.all false
set_option maxHeartbeats 4000000
/-! From the promise of a law that shows things to the statement's own form. -/
namespace Pf
open PySem PySem.Spec L2 PyProof.Rows
section
variable {P : Program} {w : World} {K : PySem.W.Frag} {mg mb : Str → Option Value} {k : Nat} {fa a : Addr} {fd : FuncData} {x : Str} {sp : Sp} {s : Shared} {vs : List Value} {ns : List Int}
/-- what a run of the law leaves -/
abbrev Good1 (s : Shared) : Result → Shared → Prop := fun r s' => r = .ok (.ret (.bool true)) ∧ OldK s.heap s'.heap ∧ s'.os = s.os ∧ AllBare s'.gens
/-- the run from an abstract heap that tracks at most the script -/
theorem run_from (KX : K.In s.heap) (hns : s.heap.Ns mainGlobals mg) (hb : s.heap.Ns builtinsNs mb) (hbb : ∀ x : Str, x ≠ "__name__" → mb x = bootBuiltins x) (hlim : s.heap.NoLimit) (hg : s.gens = #[])
    (ha : s.heap.get? a = some { cls := .type "list", data := .seq vs.toArray }) (hr : Room k callerA)
    (F : ∀ base : Heap, K.In base → base.Ns mainGlobals mg → FnG P w K mg base k fa fd [x] sp) (hbind : ∀ (s : Shared) (u : Value), BindsTo s fd ⟨[u], []⟩ [(x, u)])
    {H : Hp} (hO : Only H) (hok : HOk P w H s.heap) (hA : ∀ b, H b ≠ none → b = a) (hK : H a ≠ none → K.lookup a = none) (hsp : sp [.ref a] H (fun v _ => v = .bl true) fun _ _ _ => False) :
    codeAny (model P w) callerA (.call (.ref fa) ⟨[.ref a], []⟩) (Good1 s) s := by
  have hid : ∀ {b : Addr} {m : Str → Option Value}, s.heap.Ns b m → (hidT s.heap H).Ns b m := by
    rintro b m ⟨o, es, ep, e, d, r⟩
    refine ⟨o, es, ep, hidT_get e ?_, d, r⟩
    cases q : H b with
    | none => rfl
    | some u =>
      obtain rfl := hA b (by rw [q]; simp)
      rw [ha] at e
      cases e
      have d' : Data.seq vs.toArray _ = Data.dict es ep := d
      cases d'
  have hKb : K.In (hidT s.heap H) := fun b o e => by
    refine hidT_get (KX b o e) ?_
    cases q : H b with
    | none => rfl
    | some u =>
      obtain rfl := hA b (by rw [q]; simp)
      rw [hK (by rw [q]; simp)] at e
      cases e
  have hM : Mod K mg (hidT s.heap H) := ⟨hKb, hid hns, ⟨mb, hid hb, hbb⟩, by obtain ⟨mc, h1, h2⟩ := hlim; exact ⟨mc, hid h1, h2⟩⟩
  have e0 : Env0 P w K mg (hidT s.heap H) callerA [] s H := ⟨rfl, hM, fun b o e => of_hidT e, Nat.le_of_eq (hidT_size _ _), trivial, fun b hb => absurd (show b ∈ ([] : List Addr) from hb) (by simp), hok, .of_eq hg⟩
  refine codeAny_mono ((F _ hKb (hid hns)).run callerA [] s H ⟨[.ref a], []⟩ [.ref a] [.ref a] _ _ rfl hr e0 (hbind s (.ref a)) (.cons rfl .nil) hsp) fun r s' h => ?_
  cases r with
  | error e => exact False.elim h
  | ok fl =>
    cases fl with
    | next => exact False.elim h
    | brk => exact False.elim h
    | cont => exact False.elim h
    | ret u =>
      obtain ⟨v, H', os, bare, un, hok', r', q⟩ := h
      have q' : v = .bl true := q
      subst q'
      obtain rfl : u = Value.bool true := r'
      refine ⟨rfl, OldK.of_keep fun b o e => ?_, os, bare⟩
      cases q : H b with
      | none => exact un.keep b o e q (by intro z; exact absurd (show b ∈ ([] : List Addr) from z) (by simp)) (by simp)
      | some u =>
        rcases hO b with z | ⟨ob, xs, z⟩
        · rw [q] at z; cases z
        · obtain ⟨e1, _⟩ := hok b _ z
          obtain ⟨e2, _⟩ := hok' b _ (un.frzs b ob _ z)
          rw [e] at e1
          cases e1
          exact e2
theorem law_callG (KX : K.In s.heap) (hns : s.heap.Ns mainGlobals mg) (hb : s.heap.Ns builtinsNs mb) (hbb : ∀ x : Str, x ≠ "__name__" → mb x = bootBuiltins x) (hlim : s.heap.NoLimit) (hg : s.gens = #[])
    (ha : s.heap.get? a = some { cls := .type "list", data := .seq vs.toArray }) (hi : IntsAre vs ns) (hl : ns.length ≤ sizeLine) (hr : Room k callerA)
    (F : ∀ base : Heap, K.In base → base.Ns mainGlobals mg → FnG P w K mg base k fa fd [x] sp) (hbind : ∀ (s : Shared) (u : Value), BindsTo s fd ⟨[u], []⟩ [(x, u)])
    (hsp : ∀ H : Hp, Only H → SqL K H a (ns.map V.int) → sp [.ref a] H (fun v _ => v = .bl true) fun _ _ _ => False) :
    codeAny (model P w) callerA (.call (.ref fa) ⟨[.ref a], []⟩) (Good1 s) s := by
  have rv := vals_ints hi
  cases hk : K.lookup a with
  | some o =>
    have e := KX a o hk
    rw [ha] at e
    cases e
    refine run_from (H := fun _ => none) KX hns hb hbb hlim hg ha hr F hbind (fun _ => .inl rfl) (fun b u z => by cases z) (fun b z => absurd rfl z) (fun z => absurd rfl z) (hsp _ (fun _ => .inl rfl) ?_)
    exact .inr ⟨_, vs.toArray, _, hk, rfl, rfl, rfl, by rw [List.size_toArray, hi.length]; exact hl, by simpa using rv⟩
  | none =>
    let o : Obj := { cls := .type "list", data := .seq vs.toArray }
    have hO : Only (upd (fun _ => none) a (.frz o (.lst (ns.map V.int)))) := fun b => by
      by_cases e : b = a
      · subst e; exact .inr ⟨_, _, upd_same⟩
      · exact .inl (upd_ne e)
    refine run_from (H := upd (fun _ => none) a (.frz o (.lst (ns.map V.int)))) KX hns hb hbb hlim hg ha hr F hbind hO (fun b u z => ?_) (fun b z => ?_) (fun _ => hk) (hsp _ hO (.inl (.inr ⟨o, upd_same⟩)))
    · by_cases e : b = a
      · subst e
        rw [upd_same] at z
        cases z
        exact ⟨ha, by rw [List.length_map]; exact hl, vs, _, rv, ha⟩
      · rw [upd_ne e] at z
        cases z
    · by_cases e : b = a
      · exact e
      · exact absurd (upd_ne e) z
end
theorem walk_ofG {l : PySem.W.OpenLaw} {n k : Nat} {q : Program} {loose : List Str} {XP : (Str → Option Value) → Heap → Prop} {YP : World → Heap → Prop} {d : DefRec} {K : Params → PySem.W.Frag} {sp : PySem.W.Frag → Sp} {x : Str}
    (hn : l.most = some n) (hn2 : n ≤ sizeLine) (hdf : d.params.defaults = []) (hr : Room k callerA)
    (hY : ∀ (w : World) (h : Heap), YP w h → (K w.params).In h)
    (F : ∀ (w : World) (mg : Str → Option Value) (fa : Addr) (h : Heap), (K w.params).In h → h.Ns mainGlobals mg → mg d.name = some (.ref fa) →
      ∃ fd : FuncData, (∀ (s : Shared) (u : Value), BindsTo s fd ⟨[u], []⟩ [(x, u)]) ∧
        ∀ base : Heap, (K w.params).In base → base.Ns mainGlobals mg → FnG l.prog w (K w.params) mg base k fa fd [x] (sp (K w.params)))
    (hsp : ∀ (K : PySem.W.Frag) (H : Hp) (a : Addr) (ns : List Int), ns.length ≤ n → (∀ z ∈ ns, Builtin.Int.intBits z ≤ 1048576) → Only H → SqL K H a (ns.map V.int) → sp K [.ref a] H (fun v _ => v = .bl true) fun _ _ _ => False) :
    PySem.W.WalkO q loose XP YP l.row.toRowW d [] (fun f vs => PySem.call f vs) := by
  refine Att.attach_callB hn hdf fun w s₀ s₁ mg mb fa o pm cd doc a vs ns G Y ho hd hcd hmg hobj hints hlen hbits hg => ?_
  have KX := hY w _ Y
  obtain ⟨fd, hb, hF⟩ := F w mg fa _ KX G.T.g hmg
  exact law_callG KX G.T.g G.T.b G.T.builtins G.T.nolimit hg hobj hints (Nat.le_trans hlen hn2) hr hF hb fun H hO hS => hsp _ H a ns hlen hbits hO hS
end Pf

set_option Elab.async false
set_option maxRecDepth 100000
set_option linter.all false
set_option maxHeartbeats 8000000
/-! set(xs) of a list, whatever its items are: J tells of the set so far. -/
namespace Pf
open PySem PySem.Spec L2 PyProof.Rows
section
variable {P : Program} {w : World} {A : Around} {E : Value → Shared → Prop} {s : Shared} {N : Nat} {J : Nat → Heap → Prop} {p : Addr}
/-- J hangs on objects below N alone -/
def Below (N : Nat) (J : Nat → Heap → Prop) : Prop := ∀ i h h', (∀ b o, b < N → h.get? b = some o → h'.get? b = some o) → J i h → J i h'
/-- one item is added -/
def Adds (P : Program) (w : World) (A : Around) (E : Value → Shared → Prop) (p : Addr) (items : Array Value) (J : Nat → Heap → Prop) : Prop :=
  ∀ (i : Nat) (v : Value) (s : Shared) (Q : Bool → Shared → Prop), items[i]? = some v → J i s.heap → (∀ b h' tk, s.toks ≤ tk → Heap.SameBut p s.heap h' → J (i + 1) h' → Q b { s with heap := h', toks := tk }) → wpAny (model P w) A (setAdd p v) Q E s
theorem update_loop {I : Addr} {fp wr : List Addr} {G : Array GenState → Array GenState → Prop} {items : Array Value} {St : Nat → Shared → Prop} {R : Result → Shared → Prop}
    (W : WalksS P w A.in1 I fp wr G items.size (fun i v => items[i]? = some v) St) (hpf : p ∉ fp) (hB : Below N J) (hpN : p < N) (hw : ∀ b ∈ wr, N ≤ b) (ha : Adds P w A.in1 (fun e s' => R (.error e) s') p items J) :
    ∀ (k i : Nat) (s : Shared), items.size - i = k → i ≤ items.size → St i s → J i s.heap → (∀ s', Moved (p :: wr) G s s' → J items.size s'.heap → R (.ok (.ret .none)) s') →
      codeAny (model P w) A (.builtin "set.update.loop" ⟨[.ref p, .ref I], []⟩) R s := by
  have hpw : p ∉ wr := fun h => hpf (W.sub _ h)
  have hsub : ∀ b ∈ wr, b ∈ p :: wr := fun b hb => List.mem_cons_of_mem _ hb
  have kp : ∀ {s s' : Shared} {i : Nat}, Moved wr G s s' → J i s.heap → J i s'.heap := fun hm hj =>
    hB _ _ _ (fun b o hb e => hm.heap b o (fun h => by have := hw b h; omega) e) hj
  intro k
  induction k with
  | zero =>
    intro i s hk hi hst hj hR
    obtain rfl : i = items.size := by omega
    refine codeAny_builtin F.entry_set_update_loop ?_
    rw [Around.under_plainId F.plain_set_update_loop _]
    show wpAny _ A.in1 (pyNext (.ref I) >>= _) _ _ s
    refine wpAny_bind (W.done s _ _ hst fun s' hm => ?_)
    exact wpAny_pure (hR s' (hm.mono hsub) (kp hm hj))
  | succ k ih =>
    intro i s hk hi hst hj hR
    have hlt : i < items.size := by omega
    refine codeAny_builtin F.entry_set_update_loop ?_
    rw [Around.under_plainId F.plain_set_update_loop _]
    show wpAny _ A.in1 (pyNext (.ref I) >>= _) _ _ s
    refine wpAny_bind (W.item i s _ _ hlt hst fun v s' hv hst' hm => ?_)
    refine wpAny_bind (wpAny_holding (ha i v s' _ hv (kp hm hj) fun b h' tk htk hsb hj2 => ?_))
    refine wpAny_pure ⟨plainId_quiet F.plain_set_update_loop _, ih (i + 1) _ (by omega) hlt (W.frame _ s' _ _ hst' htk fun b hb o e => ?_) hj2 fun s'' hm'' hj'' => ?_⟩
    · rw [hsb.2 b (fun h : b = p => hpf (by rw [← h]; exact hb))]; exact e
    · refine hR s'' (Moved.trans W.gtrans ((hm.mono hsub).then_heap htk fun b o hb e => ?_) hm'') hj''
      rw [hsb.2 b (fun h : b = p => hb (by rw [h]; exact List.mem_cons_self))]; exact e
theorem update_list {l : Addr} {items : Array Value} {Q : Unit → Shared → Prop} (hh : A.handled = none) (hl : s.heap.IsList l items) (hlp : l ≠ p) (hB : Below s.heap.objs.size J) (hp : p < s.heap.objs.size) (h0 : J 0 s.heap)
    (ha : Adds P w A.in1 E p items J)
    (hQ : ∀ h' tk, (∀ b o, b ≠ p → s.heap.get? b = some o → h'.get? b = some o) → J items.size h' → Q () { s with heap := h', toks := tk }) : wpAny (model P w) A (Builtin.Frozenset.updateFrom "set.__init__" p (.ref l)) Q E s := by
  have hlN : l < s.heap.objs.size := by obtain ⟨o, h, _⟩ := hl; exact Heap.lt_size h
  have hT : s.TypeIs (.ref l) "list" := hl.typeIs
  have h1 := F.sub_list_set
  have h2 := F.sub_list_frozenset
  have hl0 := hl
  obtain ⟨ol, hol, hcl, nl, hdl⟩ := hl
  obtain ⟨ocls, odict, odata, oslots⟩ := ol
  simp only at hcl hdl
  subst hcl; subst hdl
  unfold Builtin.Frozenset.updateFrom
  generalize hPI : pyIter = PI
  wp_walk
  subst hPI
  refine wpAny_pyIter_list hl0 ?_
  refine wpAny_bind (wpAny_runValue ?_)
  have hh1 : A.in1.handled = none := by simp [hh]
  have hneI : l ≠ s.heap.objs.size := Nat.ne_of_lt hlN
  refine update_loop (N := s.heap.objs.size) ((Walks.list hh1 _ l hneI items).toS) (by
    simp only [List.mem_cons, List.not_mem_nil, or_false, not_or]
    exact ⟨Nat.ne_of_lt hp, fun e => hlp e.symm⟩) hB hp (fun b hb => by rw [List.mem_singleton.mp hb]; exact Nat.le_refl _) ha (items.size - 0) 0 _ (by omega) (Nat.zero_le _)
    ⟨⟨_, Heap.get?_push_size _ rfl, rfl, rfl⟩, (hl0.push _)⟩ (hB _ _ _ (fun b o _ e => Heap.get?_push_of_some _ e) h0) fun s' hm hj => ?_
  obtain ⟨h', g2, d', tk', os'⟩ := s'
  have eg : g2 = s.gens := hm.gens
  have ed : d' = s.drawn := hm.drawn
  have eo : os' = s.os := hm.os
  subst eg; subst ed; subst eo
  refine wpAny_pure (hQ h' tk' (fun b o hb e => ?_) hj)
  refine hm.heap b o (fun h => ?_) (Heap.get?_push_of_some _ e)
  simp only [List.mem_cons, List.not_mem_nil, or_false] at h
  rcases h with h | h
  · exact hb h
  · exact absurd (Heap.lt_size e) (by rw [h]; exact Nat.lt_irrefl _)
/-! ### texts, with doubles -/
/-- the list's texts, each once, in some order -/
def Once (xs : List Str) (i : Nat) (ks : List Str) : Prop := (∀ x, x ∈ ks ↔ x ∈ xs.take i) ∧ ks.length ≤ i
theorem call_set_texts {l : Addr} {items : Array Value} {xs : List Str} {Q : Value → Shared → Prop} (hh : A.handled = none) (hl : s.heap.IsList l items) (hi : items.size = xs.length) (hx : ∀ (i : Nat) v, items[i]? = some v → ∃ x t, xs[i]? = some x ∧ v = Value.str x t) (hs : xs.length + 1 < scanBound)
    (h : ∀ h' tk ks, (∀ b o, s.heap.get? b = some o → h'.get? b = some o) → SetS w h' s.heap.objs.size ks → Once xs xs.length ks → Q (.ref s.heap.objs.size) { s with heap := h', toks := tk }) : wpAny (model P w) A (call (.type "set") [.ref l]) Q E s := by
  have hlN : l < s.heap.objs.size := by obtain ⟨o, h, _⟩ := hl; exact Heap.lt_size h
  refine call_set_one ?_
  refine update_list (J := fun i h => ∃ ks, SetS w h s.heap.objs.size ks ∧ Once xs i ks) (by simp [hh]) (hl.push _) (Nat.ne_of_lt hlN) ?_ ?_ ⟨[], setS_fresh w, fun x => by simp, Nat.le_refl _⟩ ?_ ?_
  · rintro i h1 h2 hk ⟨ks, hS, g⟩
    exact ⟨ks, hS.at fun o e => hk _ _ (by show _ < (s.heap.push (freshSet w)).objs.size; rw [Heap.size_push]; exact Nat.lt_succ_self _) e, g⟩
  · show _ < (s.heap.push (freshSet w)).objs.size
    rw [Heap.size_push]
    exact Nat.lt_succ_self _
  · rintro i v s1 Q1 hv ⟨ks, hS, g1, g2⟩ hQ
    obtain ⟨x, t, hxi, rfl⟩ := hx i v hv
    have hil : i < xs.length := (List.getElem?_eq_some_iff.mp hxi).1
    have ht : xs.take (i + 1) = xs.take i ++ [x] := by rw [List.take_succ, hxi]; rfl
    unfold setAdd
    refine wpAny_holding ?_
    refine wpAny_bind (wpAny_pyHash_str ?_)
    refine setS_add (s := { s1 with toks := s1.toks + 1 }) hS (by omega) fun b h' ks' sb hS' c1 c2 => ?_
    refine hQ b h' (s1.toks + 1) (Nat.le_succ _) sb ⟨ks', hS', ?_⟩
    by_cases hm : x ∈ ks
    · rw [c1 hm]
      refine ⟨fun y => ?_, by omega⟩
      rw [ht, List.mem_append, List.mem_singleton, g1]
      constructor
      · exact .inl
      · rintro (h | h)
        · exact h
        · rw [h]; exact (g1 x).mp hm
    · rw [c2 hm]
      refine ⟨fun y => ?_, by rw [List.length_append]; simp; omega⟩
      rw [ht, List.mem_append, List.mem_append, List.mem_singleton, g1]
  · rintro h' tk hk ⟨ks, hS, g⟩
    rw [hi] at g
    exact h h' tk ks (fun b o e => hk b o (Nat.ne_of_lt (Heap.lt_size e)) (Heap.get?_push_of_some _ e)) hS g
theorem SetS.nodup {h : Heap} {a : Addr} {ks : List Str} (R : SetS w h a ks) : ks.Nodup := by
  obtain ⟨o, es, ep, t, ho, hex, hd, g, pk, nd, hb, hf, hr, hl⟩ := R
  first | exact nd | exact pk.nodup_iff.mp nd
end
section
variable {X : Cx}
/-- set(xs) of a list of texts -/
def rSetX (K : PySem.W.Frag) (w : World) : List V → Hp → VK → Prop := fun vs H Q => ∃ (l : Addr) (xs : List Str), vs = [.ref l] ∧ SqL K H l (xs.map V.str) ∧ xs.length < 60 ∧ ∀ p ks, H p = none → ks.Nodup → (∀ x, x ∈ ks ↔ x ∈ xs) → ks.length ≤ xs.length → Q (.ref p) (upd H p (SetSO w p ks))
theorem str_at : ∀ {xs : List Str} {us : List Value}, Vals (xs.map V.str) us → ∀ (i : Nat) v, us[i]? = some v → ∃ x t, xs[i]? = some x ∧ v = Value.str x t
  | [], _, .nil, i, v, h => by simp at h
  | x :: xs, u :: us, .cons r t, 0, v, h => by
    obtain ⟨tk, rfl⟩ := r
    have : Value.str x tk = v := by simpa using h
    exact ⟨x, tk, rfl, this.symm⟩
  | x :: xs, u :: us, .cons r t, i + 1, v, h => by
    simpa using str_at t i v (by simpa using h)
theorem cr_setX (hc : X.calm = true) : CallR X (.type "set") (rSetX X.K X.w) := by
  intro pins s σ H vs us Q I r h
  obtain ⟨l, xs, rfl, hl, hz, q⟩ := h
  rw [Vals.ref1 r]
  obtain ⟨its, rv, hil, _⟩ := I.list hl
  have hlen : its.length = xs.length := by rw [← rv.length, List.length_map]
  refine call_set_texts (xs := xs) (I.ok.hd hc) (plain_list hil) (by rw [List.size_toArray]; exact hlen) (fun i v hv => str_at rv i v (by simpa using hv)) (Nat.lt_of_lt_of_le (by omega) (show 64 ≤ scanBound by decide)) fun h' tk ks hk hS g => ?_
  refine ⟨.ref s.heap.objs.size, upd H s.heap.objs.size (SetSO X.w s.heap.objs.size ks), I.laid (t' := tk) hk (Nat.le_refl _) (setSO_new hS), rfl, q _ ks (I.hok.fresh (Nat.le_refl _)) hS.nodup (fun x => by rw [g.1, List.take_length]) g.2⟩
end
end Pf

set_option Elab.async false
set_option maxRecDepth 100000
set_option linter.all false
set_option maxHeartbeats 8000000
/-! A set of at most four tuples of texts, each another one. -/
namespace Pf
open PySem PySem.Spec L2 PyProof.Rows
abbrev kH (P : Program) (w : World) (k : List Str) : Int := tupleKeyHash (strKind P w) k
abbrev IsK (P : Program) (w : World) (h : Heap) (k : List Str) (a : Addr) : Prop := IsTupleKey (strKind P w) h k a
section
variable {P : Program} {w : World} {A : Around} {E : Value → Shared → Prop} {s : Shared}
theorem items_txt {k : List Str} {vs : List Value} (h : ItemsAre (strKind P w) k vs) : ∀ v ∈ vs, ∃ x t, v = Value.str x t := by
  induction h with
  | nil => intro v hv; cases hv
  | @cons k0 u ks vs h1 _ ih =>
    intro v hv
    rcases List.mem_cons.mp hv with e | hv
    · obtain ⟨t, e2⟩ := Value.isStrOf_shape h1
      exact ⟨k0, t, e.trans e2⟩
    · exact ih v hv
theorem quiet_txt (n : Nat) (x : Str) (t : Tok) : ofAClassStatement n (.str x t) = pure false ∧ hashByValue n (.str x t) = pure false := by
  cases n <;> exact ⟨rfl, rfl⟩
theorem class_key {k : List Str} {c : Addr} {Q : Bool → Shared → Prop} (hk : IsK P w s.heap k c) (h : Q false s) : wpAny (model P w) A (ofAClassStatement 8 (.ref c)) Q E s := by
  have hT := hk.typeIs
  obtain ⟨o, items, n, ho, _, hd, hi⟩ := hk
  unfold ofAClassStatement
  refine wpAny_bind (wpAny_typeOf hT ?_)
  dsimp only
  simp only [show (("tuple" : String) == "tuple") = true by decide, if_true, Bool.not_true, Bool.false_eq_true, if_false]
  try refine wpAny_bind (wpAny_pure ?_)
  try simp only [Bool.not_true, Bool.false_eq_true, if_false]
  show wpAny _ _ (seqItems? (.ref c) >>= _) _ _ s
  refine wpAny_bind (wpAny_seqItems ho hd ?_)
  dsimp only
  refine wpAny_bind ?_
  show wpAny _ _ (forIn items _ _) _ _ s
  rw [← Array.forIn_toList]
  refine wpAny_forIn_list _ (fun rest r s' => r.1 = none ∧ s' = s ∧ ∀ v ∈ rest, ∃ x t, v = Value.str x t) _ ?_ ?_ _ _ ⟨rfl, rfl, items_txt hi⟩
  · rintro v rest r s' ⟨hr, rfl, hall⟩
    obtain ⟨x, t, rfl⟩ := hall v List.mem_cons_self
    rw [(quiet_txt _ x t).1]
    refine wpAny_bind (wpAny_pure ?_)
    simp only [Bool.false_eq_true, if_false]
    exact wpAny_pure ⟨rfl, rfl, fun u hu' => hall u (List.mem_cons_of_mem _ hu')⟩
  · rintro ⟨r1, r2⟩ s' ⟨hr, rfl, _⟩
    simp only at hr
    subst hr
    exact wpAny_pure h
theorem hash_key {k : List Str} {c : Addr} {Q : Bool → Shared → Prop} (hk : IsK P w s.heap k c) (h : ∀ b, Q b s) : wpAny (model P w) A (hashByValue 8 (.ref c)) Q E s := by
  have hT := hk.typeIs
  obtain ⟨o, items, n, ho, _, hd, hi⟩ := hk
  unfold hashByValue
  refine wpAny_bind (wpAny_specialOf hT F.slot_tuple_hash.lookup ?_)
  show wpAny _ _ (seqItems? (.ref c) >>= _) _ _ s
  refine wpAny_bind (wpAny_seqItems ho hd ?_)
  refine wpAny_bind ?_
  show wpAny _ _ (forIn items _ _) _ _ s
  rw [← Array.forIn_toList]
  have hall := items_txt hi
  generalize items.toList = l at hall
  cases l with
  | nil => exact wpAny_pure (wpAny_pure (h _))
  | cons v rest =>
    obtain ⟨x, t, rfl⟩ := hall v List.mem_cons_self
    rw [List.forIn_cons]
    refine wpAny_bind ?_
    rw [(quiet_txt _ x t).2]
    refine wpAny_bind (wpAny_pure ?_)
    simp only [Bool.not_false, if_true]
    exact wpAny_pure (wpAny_pure (wpAny_pure (h _)))
theorem seen_key {k : List Str} {c : Addr} {Q : Bool → Shared → Prop} (hk : IsK P w s.heap k c) {ys : List Value} (hy : ∀ y ∈ ys, ∃ k' d, y = Value.ref d ∧ IsK P w s.heap k' d) (h : Q false s) : wpAny (model P w) A (searchCouldBeSeen (.ref c) ys) Q E s := by
  unfold searchCouldBeSeen
  refine wpAny_bind ?_
  refine wpAny_forIn_list _ (fun rest r s' => r.1 = none ∧ s' = s ∧ ∀ y ∈ rest, ∃ k' d, y = Value.ref d ∧ IsK P w s.heap k' d) _ ?_ ?_ _ _ ⟨rfl, rfl, hy⟩
  · rintro v rest r s' ⟨hr, rfl, hall⟩
    obtain ⟨k', d, rfl, hd⟩ := hall v List.mem_cons_self
    have rest' : ∀ y ∈ rest, ∃ k' d, y = Value.ref d ∧ IsK P w s'.heap k' d := fun u hu' => hall u (List.mem_cons_of_mem _ hu')
    dsimp only
    by_cases hv : (c == d || (carriedByValue (.ref c) && carriedByValue (.ref d))) = true
    · exact wp_if_pos hv (wpAny_pure ⟨rfl, rfl, rest'⟩)
    · refine wp_if_neg hv ?_
      refine wpAny_bind (wpAny_eqIsQuiet_tuple hk ?_)
      simp only [Bool.not_true, Bool.false_eq_true, if_false]
      refine wpAny_bind (wpAny_eqIsQuiet_tuple hd ?_)
      simp only [Bool.not_true, Bool.false_eq_true, if_false]
      refine wpAny_bind (class_key hk ?_)
      simp only [Bool.false_eq_true, if_false]
      refine wpAny_bind (class_key hd ?_)
      simp only [Bool.false_eq_true, if_false]
      exact wpAny_pure ⟨rfl, rfl, rest'⟩
  · rintro ⟨r1, r2⟩ s' ⟨hr, rfl, _⟩
    simp only at hr
    subst hr
    exact wpAny_pure h
/-! ### the set -/
def entK (P : Program) (w : World) (L : List (Addr × List Str)) : List (Int × Value) := L.map fun p => (kH P w p.2, Value.ref p.1)
structure SetK (P : Program) (w : World) (h : Heap) (a : Addr) (L : List (Addr × List Str)) (es : Array (Int × Value)) (ep : Nat) (t : SetTable) : Prop where
  ob : ∃ o, h.get? a = some o ∧ o.ExactSet ∧ o.data = .set es ep t
  ents : es.toList = entK P w L
  tab : TabOk t (L.map fun p => kH P w p.2)
  nd : (L.map (·.2)).Nodup
  tup : ∀ p ∈ L, IsK P w h p.2 p.1
  led : w.params.followText "set-order" = true ∨ t.led = true
  mask : t.mask = 7
  few : L.length ≤ 4
variable {a : Addr} {L : List (Addr × List Str)} {es : Array (Int × Value)} {ep : Nat} {t : SetTable}
theorem SetK.size (R : SetK P w s.heap a L es ep t) : es.size = L.length := by
  have h := congrArg List.length R.ents
  unfold entK at h
  rwa [Array.length_toList, List.length_map] at h
theorem SetK.fits (R : SetK P w s.heap a L es ep t) : t.fits es.size = true := by
  have h1 := R.tab.sz
  rw [List.length_map] at h1
  have h2 := R.size
  have h3 := R.few
  have h4 := R.mask
  unfold SetTable.fits SetTable.fill
  rw [R.tab.dm, Bool.and_eq_true, beq_iff_eq, decide_eq_true_eq]
  show t.place.size = es.size ∧ t.place.size + 0 ≤ t.mask
  omega
theorem SetK.entry (R : SetK P w s.heap a L es ep t) {i : Nat} {p : Addr × List Str} (h : L[i]? = some p) : es[i]? = some (kH P w p.2, Value.ref p.1) := by
  rw [← Array.getElem?_toList, R.ents]
  unfold entK
  rw [List.getElem?_map, h]
  rfl
theorem SetK.gw (R : SetK P w s.heap a L es ep t) : ¬ t.gaveWay = true := by
  unfold SetTable.gaveWay
  rw [R.mask]
  decide
/-- where the way of the hash stands at its c-th step -/
abbrev stepK (t : SetTable) (h : Int) (c : Nat) : SetTable.Probe := nth t.mask (runAt t.mask (SetTable.bits h % (t.mask + 1)) (SetTable.bits h)) c
theorem step_dummy (m : Nat) : ∀ (n : Nat) (p : SetTable.Probe), p.dummy = none → (nth m p n).dummy = none
  | 0, p, h => h
  | n + 1, p, h => step_dummy m n (adv m p) (by unfold adv; split <;> exact h)
/-- a search for a new key ends at the first free place -/
theorem search_new (R : SetK P w s.heap a L es ep t) {x : Addr} {k : List Str} (hx : IsK P w s.heap k x) (hu : A.units < cLine) (hnew : k ∉ L.map (·.2)) {K : Nat} (hKf : K < 10 * SetTable.turns t.mask)
    (hK : way t.mask (kH P w k) K ∉ t.place.toList) (hKb : ∀ c, c < K → way t.mask (kH P w k) c ∈ t.place.toList) {Q : SetFound → Shared → Prop} (hout : Q (.free (way t.mask (kH P w k) K) false) s) :
    ∀ (f c : Nat) (stand : Option SetTable.Probe), stand.getD (t.probeStart (kH P w k)) = stepK t (kH P w k) c → c ≤ K → K - c < f → wpAny (model P w) A (setSearchFrom a (.ref x) (kH P w k) true f stand) Q E s
  | 0, c, stand, _, _, hf => absurd hf (Nat.not_lt_zero _)
  | f + 1, c, stand, hst, hc, hf => by
    obtain ⟨o, ho, hex, hd⟩ := R.ob
    rw [setSearchFrom_succ]
    refine wpAny_bind (wpAny_setState_of ho hd R.fits ?_)
    dsimp only
    refine wp_if_neg R.gw ?_
    try refine wpAny_bind (wpAny_pure ?_)
    have sh : ∀ q, nth t.mask (stepK t (kH P w k) c) q = stepK t (kH P w k) (c + q) := fun q => (nth_add t.mask c _ q).symm
    have ej : ∀ q, (nth t.mask (stepK t (kH P w k) c) q).j = way t.mask (kH P w k) (c + q) := fun q => congrArg SetTable.Probe.j (sh q)
    have spec := go_spec t R.tab.ris R.tab.dm (fun i => (es[i]?.map (·.1)).getD 0) (kH P w k) (10 * SetTable.turns t.mask) (K - c) (stepK t (kH P w k) c) (step_dummy _ c _ rfl) (by omega)
      (fun q hq => by rw [ej]; exact hKb (c + q) (by omega)) (by rw [ej, show c + (K - c) = K by omega]; exact hK)
    rcases spec with ⟨q, i, hq, hi, hh, hno, hpr⟩ | ⟨hno, hpr⟩
    · have hpr' : t.probe (fun i => (es[i]?.map (·.1)).getD 0) (kH P w k) (stand.getD (t.probeStart (kH P w k))) = some (.candidate (way t.mask (kH P w k) (c + q)) i (stepK t (kH P w k) (c + (q + 1)))) := by
        rw [hst, ← ej, ← sh]
        exact hpr
      rw [hpr']
      dsimp only
      rw [ej] at hi
      have hil : i < L.length := by
        have h1 : i < t.place.toList.length := (List.getElem?_eq_some_iff.mp hi).1
        have h2 := R.tab.sz
        rw [List.length_map] at h2
        rw [Array.length_toList] at h1
        omega
      obtain ⟨p, hp⟩ : ∃ p, L[i]? = some p := ⟨_, List.getElem?_eq_getElem hil⟩
      have hmem : p ∈ L := List.mem_of_getElem? hp
      have hkk : p.2 ≠ k := fun e => hnew (List.mem_map.mpr ⟨p, hmem, e⟩)
      have rest : wpAny (model P w) A (searchRest a (.ref x) (kH P w k) true f es t (way t.mask (kH P w k) (c + q)) i (stepK t (kH P w k) (c + (q + 1)))) Q E s := by
        unfold searchRest
        rw [R.entry hp]
        dsimp only
        refine wpAny_bind (wpAny_holding (wpAny_eqBool_tuple hu (R.tup p hmem) hx ?_))
        refine wpAny_bind (wpAny_setState_of ho hd R.fits ?_)
        dsimp only
        refine wp_if_neg (by simp [hkk]) ?_
        try refine wpAny_bind (wpAny_pure ?_)
        rw [sameMem]
        dsimp only
        have hsl : t.slot (way t.mask (kH P w k) (c + q)) = .live i := slot_live R.tab.ris hi
        simp only [if_true, hsl, R.entry hp]
        refine wpAny_bind (wpAny_isSame_ref_self (wpAny_bind (wpAny_pure ?_)))
        simp only [if_true]
        refine wp_if_neg (by simp [hkk]) ?_
        exact search_new R hx hu hnew hKf hK hKb hout f (c + (q + 1)) _ rfl (by omega) (by omega)
      by_cases hl : t.led = true
      · refine wp_if_neg (by simp [hl]) ?_
        try refine wpAny_bind (wpAny_pure ?_)
        exact rest
      · refine wp_if_pos (by simp [hl]) ?_
        refine wpAny_bind (seen_key hx (fun y hy => ?_) ?_)
        · obtain ⟨e, he, ee⟩ := List.mem_map.mp hy
          have he1 : e ∈ es ∧ e.1 = kH P w k := by simpa using he
          have he2 : e ∈ es.toList := by simpa using he1.1
          rw [R.ents] at he2
          obtain ⟨p2, hp2, e2⟩ := List.mem_map.mp he2
          refine ⟨p2.2, p2.1, ?_, R.tup p2 hp2⟩
          rw [← ee, ← e2]
        · refine wp_if_neg (by decide) ?_
          try refine wpAny_bind (wpAny_pure ?_)
          exact rest
    · have hpr' : t.probe (fun i => (es[i]?.map (·.1)).getD 0) (kH P w k) (stand.getD (t.probeStart (kH P w k))) = some (.empty (way t.mask (kH P w k) K) none) := by
        have e2 : way t.mask (kH P w k) K = (nth t.mask (stepK t (kH P w k) c) (K - c)).j := by rw [ej, show c + (K - c) = K by omega]
        rw [hst, e2]
        exact hpr
      rw [hpr']
      dsimp only
      exact wpAny_pure hout
end
end Pf

set_option Elab.async false
set_option maxRecDepth 100000
set_option linter.all false
set_option maxHeartbeats 8000000
namespace Pf
open PySem PySem.Spec L2 PyProof.Rows
section
variable {P : Program} {w : World} {A : Around} {E : Value → Shared → Prop} {s : Shared} {a : Addr} {L : List (Addr × List Str)} {es : Array (Int × Value)} {ep : Nat} {t : SetTable}
theorem key_same {h h' : Heap} {k : List Str} {a c : Addr} {o : Obj} {es : Array (Int × Value)} {ep : Nat} {t : SetTable} (hc : IsK P w h k c) (ho : h.get? a = some o) (hd : o.data = .set es ep t) (hs : Heap.SameBut a h h') : IsK P w h' k c := by
  obtain ⟨o', items, n, ho', hcl, hd', hi⟩ := hc
  refine ⟨o', items, n, (hs.2 c ?_).trans ho', hcl, hd', hi⟩
  rintro rfl
  obtain rfl : o' = o := Option.some.inj (ho'.symm.trans ho)
  rw [hd] at hd'
  exact nomatch hd'
theorem key_keep {h h' : Heap} {k : List Str} {c : Addr} (x : IsK P w h k c) (hk : ∀ o, h.get? c = some o → h'.get? c = some o) : IsK P w h' k c := by
  obtain ⟨o', items, n, ho', hcl, hd', hi⟩ := x
  exact ⟨o', items, n, hk _ ho', hcl, hd', hi⟩
/-- a new key is added to a set of fewer than four -/
theorem add_new (R : SetK P w s.heap a L es ep t) {x : Addr} {k : List Str} (hx : IsK P w s.heap k x) (hu : A.units < cLine) (hfew : L.length < 4) (hnew : k ∉ L.map (·.2)) {Q : Bool → Shared → Prop}
    (hQ : ∀ h' L' es' ep' t', Heap.SameBut a s.heap h' → SetK P w h' a L' es' ep' t' → L'.Perm ((x, k) :: L) → Q true { s with heap := h' }) : wpAny (model P w) A (setAddHashed a (.ref x) (kH P w k)) Q E s := by
  obtain ⟨o, ho, hex, hd⟩ := R.ob
  have hsl := R.size
  have hm7 := R.mask
  obtain ⟨K, hKf, hK, hKb⟩ := R.tab.first (by rw [List.length_map]; omega) (kH P w k)
  have hbig : K < 100000 := by
    have : 10 * SetTable.turns t.mask ≤ 1420 := by
      unfold SetTable.turns
      omega
    omega
  unfold setAddHashed
  refine wpAny_holding ?_
  rw [show (100000 : Nat) = 99999 + 1 from rfl, setAddHashedIn_succ]
  refine wpAny_bind (wpAny_setState_of ho hd R.fits ?_)
  dsimp only
  refine wp_if_neg (by simp [byScan, Value.scannable]) ?_
  try refine wpAny_bind (wpAny_pure ?_)
  refine wpAny_bind ?_
  unfold setSearch
  refine search_new R hx hu hnew hKf hK hKb ?_ 100000 0 none rfl (Nat.zero_le _) (by omega)
  dsimp only
  refine wpAny_bind (wpAny_setState_of ho hd R.fits ?_)
  dsimp only
  obtain ⟨q1, q2, q3, q4, q5, q6, q7, q8, q9⟩ := R.tab.put hK hKb
  generalize hpt : t.put (way t.mask (kH P w k) K) = pt at q1 q3 q4 q5 q6 q7 q8 q9 ⊢
  obtain ⟨t1, pl⟩ := pt
  dsimp only at q1 q3 q4 q5 q6 q7 q8 q9 ⊢
  subst q1
  generalize SetTable.below t.place (way t.mask (kH P w k) K) = pl at q2 q3 ⊢
  have hin : (SetTable.insertAt es pl (kH P w k, Value.ref x)).toList = entK P w (L.take pl ++ (x, k) :: L.drop pl) := by
    rw [SetTable.toList_insertAt, R.ents]
    unfold entK
    rw [List.map_append, List.map_cons, List.map_take, List.map_drop]
  have pm : (L.take pl ++ (x, k) :: L.drop pl).Perm ((x, k) :: L) := by
    have h := List.perm_middle (a := (x, k)) (l₁ := L.take pl) (l₂ := L.drop pl)
    rwa [List.take_append_drop] at h
  have hhs : (L.take pl ++ (x, k) :: L.drop pl).map (fun p => kH P w p.2) = (L.map fun p => kH P w p.2).take pl ++ kH P w k :: (L.map fun p => kH P w p.2).drop pl := by
    rw [List.map_append, List.map_cons, List.map_take, List.map_drop]
  rw [← hhs] at q3
  generalize L.take pl ++ (x, k) :: L.drop pl = L1 at pm q3 hin
  have hlen : L1.length = L.length + 1 := pm.length_eq
  have nd1 : (L1.map (·.2)).Nodup := by
    refine (pm.map (·.2)).nodup_iff.mpr ?_
    rw [List.map_cons]
    exact List.nodup_cons.mpr ⟨hnew, R.nd⟩
  have hes : (SetTable.insertAt es pl (kH P w k, Value.ref x)).size = L.length + 1 := by
    have h := congrArg List.length hin
    unfold entK at h
    rwa [Array.length_toList, List.length_map, hlen] at h
  generalize SetTable.insertAt es pl (kH P w k, Value.ref x) = es1 at hin hes ⊢
  have fin : ∀ t2 : SetTable, TabOk t2 (L1.map fun p => kH P w p.2) → t2.mask = 7 → t2.led = t.led → t2.fill = L.length + 1 →
      wpAny (model P w) A (do
        storeSet a es1 t2
        if !false && t2.tooFull then setRelay a (SetTable.grown (es.size + 1))
        return true) Q E s := fun t2 T2 m2 l2 f2 => by
    refine wpAny_bind (wpAny_storeSet_of ho hd ?_ (by rw [hes, sizeLine_eq]; omega))
    have sb : Heap.SameBut a s.heap (s.heap.update a (Obj.putSet es1 t2)) := Heap.SameBut.update ..
    have ho1 := store_at (es' := es1) (t' := t2) ho hd
    generalize s.heap.update a (Obj.putSet es1 t2) = h1 at sb ho1 ⊢
    have hf : t2.tooFull = false := by
      unfold SetTable.tooFull
      rw [f2, m2]
      simp
      omega
    refine wp_if_neg (by simp [hf]) ?_
    first
      | exact wpAny_pure (hQ h1 L1 es1 (ep + 1) t2 sb ⟨⟨_, ho1, ⟨hex.1, hex.2.1, hex.2.2⟩, rfl⟩, hin, T2, nd1, fun p hp => by
          rcases List.mem_cons.mp (pm.mem_iff.mp hp) with e | hp
          · rw [e]; exact key_same hx ho hd sb
          · exact key_same (R.tup p hp) ho hd sb, by rw [l2]; exact R.led, m2, by omega⟩ pm)
      | exact wpAny_bind (wpAny_pure (wpAny_pure (hQ h1 L1 es1 (ep + 1) t2 sb ⟨⟨_, ho1, ⟨hex.1, hex.2.1, hex.2.2⟩, rfl⟩, hin, T2, nd1, fun p hp => by
          rcases List.mem_cons.mp (pm.mem_iff.mp hp) with e | hp
          · rw [e]; exact key_same hx ho hd sb
          · exact key_same (R.tup p hp) ho hd sb, by rw [l2]; exact R.led, m2, by omega⟩ pm)))
  rw [List.length_map] at q9
  have T1 := fin t1 q3 (q4.trans hm7) q5 q9
  have T2 := fin { t1 with plain := false } ⟨q3.ris, q3.dm, q3.sz, q3.mok, q3.bd, q3.reach⟩ (q4.trans hm7) q5 q9
  by_cases hp : t1.plain = true
  · first
      | (refine wpAny_bind ?_; refine wp_if_pos hp ?_; refine hash_key hx fun b => ?_)
      | refine wp_if_pos hp (wpAny_bind (hash_key hx fun b => ?_))
    cases b with
    | true => exact T1
    | false => exact T2
  · first
      | (refine wpAny_bind ?_; refine wp_if_neg hp ?_; refine wpAny_pure ?_; exact T1)
      | (refine wp_if_neg hp ?_; exact T1)
      | (refine wp_if_neg hp (wpAny_bind (wpAny_pure ?_)); exact T1)
end
end Pf

set_option Elab.async false
set_option maxRecDepth 100000
set_option linter.all false
set_option maxHeartbeats 8000000
namespace Pf
open PySem PySem.Spec L2 PyProof.Rows
section
variable {P : Program} {w : World} {A : Around} {E : Value → Shared → Prop} {s : Shared}
theorem setK_fresh {h : Heap} : SetK P w (h.push (freshSet w)) h.objs.size [] #[] 0 (.fresh 0 0 (!w.params.followText "set-order")) where
  ob := ⟨_, Heap.get?_push_size _ rfl, ⟨rfl, rfl, rfl⟩, rfl⟩
  ents := rfl
  tab := ⟨List.Pairwise.nil, rfl, rfl, .inl rfl, fun x hx => (by cases hx), fun i h j hi => (by simp at hi)⟩
  nd := List.nodup_nil
  tup := fun p hp => (by cases hp)
  led := by
    show _ ∨ (!w.params.followText "set-order") = true
    cases w.params.followText "set-order"
    · exact .inr rfl
    · exact .inl rfl
  mask := rfl
  few := Nat.zero_le _
/-- set(xs), xs a list of at most four tuples of texts, each another one -/
theorem call_set_keys {l : Addr} {items : Array Value} {ks : List (Addr × List Str)} {Q : Value → Shared → Prop} (hh : A.handled = none) (hu : A.units + 3 < cLine) (hl : s.heap.IsList l items) (hit : items.toList = ks.map fun p => Value.ref p.1)
    (hk : ∀ p ∈ ks, IsK P w s.heap p.2 p.1) (h4 : ks.length ≤ 4) (nd : (ks.map (·.2)).Nodup)
    (h : ∀ h' tk L es ep t, (∀ b o, s.heap.get? b = some o → h'.get? b = some o) → SetK P w h' s.heap.objs.size L es ep t → L.Perm ks → Q (.ref s.heap.objs.size) { s with heap := h', toks := tk }) : wpAny (model P w) A (call (.type "set") [.ref l]) Q E s := by
  have hlN : l < s.heap.objs.size := by obtain ⟨o, h, _⟩ := hl; exact Heap.lt_size h
  have hsz : items.size = ks.length := by
    have q := congrArg List.length hit
    rwa [Array.length_toList, List.length_map] at q
  have hN : (s.heap.push (freshSet w)).objs.size = s.heap.objs.size + 1 := Heap.size_push ..
  have kN : ∀ p ∈ ks, p.1 < s.heap.objs.size := fun p hp => by
    obtain ⟨o, items, n, ho, _⟩ := hk p hp
    exact Heap.lt_size ho
  refine call_set_one ?_
  refine update_list (J := fun i h => ∃ L es ep t, SetK P w h s.heap.objs.size L es ep t ∧ L.Perm (ks.take i) ∧ ∀ p ∈ ks, IsK P w h p.2 p.1) (by simp [hh]) (hl.push _) (Nat.ne_of_lt hlN) ?_ (by rw [hN]; exact Nat.lt_succ_self _)
    ⟨[], #[], 0, _, setK_fresh, by simp, fun p hp => key_keep (hk p hp) fun o e => Heap.get?_push_of_some _ e⟩ ?_ ?_
  · rintro i h1 h2 hkp ⟨L, es, ep, t, R, pm, hall⟩
    rw [hN] at hkp
    have hall2 : ∀ p ∈ ks, IsK P w h2 p.2 p.1 := fun p hp => key_keep (hall p hp) fun o e => hkp _ _ (Nat.lt_succ_of_lt (kN p hp)) e
    obtain ⟨⟨o, ho, r⟩, q1, q2, q3, q4, q5, q6, q7⟩ := R
    exact ⟨L, es, ep, t, ⟨⟨o, hkp _ _ (Nat.lt_succ_self _) ho, r⟩, q1, q2, q3, fun p hp => hall2 p (List.mem_of_mem_take (pm.mem_iff.mp hp)), q5, q6, q7⟩, pm, hall2⟩
  · rintro i v s1 Q1 hv ⟨L, es, ep, t, R, pm, hall⟩ hQ
    have hv' : items.toList[i]? = some v := by rw [Array.getElem?_toList]; exact hv
    rw [hit, List.getElem?_map] at hv'
    cases hp : ks[i]? with
    | none => rw [hp] at hv'; cases hv'
    | some p =>
      rw [hp] at hv'
      obtain rfl : Value.ref p.1 = v := Option.some.inj hv'
      have hil : i < ks.length := (List.getElem?_eq_some_iff.mp hp).1
      have ht : ks.take (i + 1) = ks.take i ++ [p] := by rw [List.take_succ, hp]; rfl
      have hpm : p ∈ ks := List.mem_of_getElem? hp
      have hnew : p.2 ∉ L.map (·.2) := fun hm => by
        obtain ⟨q, hq, e⟩ := List.mem_map.mp hm
        have hq' := pm.mem_iff.mp hq
        have h2 : ((ks.take (i + 1)).map (·.2)).Nodup := nd.sublist ((List.take_sublist _ _).map _)
        rw [ht, List.map_append] at h2
        exact (List.nodup_append.mp h2).2.2 _ (List.mem_map.mpr ⟨q, hq', rfl⟩) _ (by simp) e
      have hLl : L.length < 4 := by
        rw [pm.length_eq, List.length_take]
        omega
      unfold setAdd
      refine wpAny_holding ?_
      refine wpAny_bind (wpAny_pyHash_tuple (by show A.units + 1 + 1 + 1 < cLine; omega) (hall p hpm) ?_)
      refine add_new (s := { s1 with toks := s1.toks + (p.2.length + 1) }) R (hall p hpm) (by show A.units + 1 + 1 + 1 < cLine; omega) hLl hnew fun h' L' es' ep' t' sb R' pm' => ?_
      obtain ⟨o, ho, hex, hd⟩ := R.ob
      refine hQ true h' _ (Nat.le_add_right _ _) sb ⟨L', es', ep', t', R', ?_, fun q hq => key_same (hall q hq) ho hd sb⟩
      rw [ht]
      exact pm'.trans ((List.Perm.cons _ pm).trans (List.perm_append_comm (l₁ := [p])))
  · rintro h' tk hkp ⟨L, es, ep, t, R, pm, hall⟩
    rw [hsz, List.take_length] at pm
    exact h h' tk L es ep t (fun b o e => hkp b o (Nat.ne_of_lt (Heap.lt_size e)) (Heap.get?_push_of_some _ e)) R pm
/-! ### sorted -/
def sLeK (a b : Str) : Prop := ¬ b.cps.toList < a.cps.toList
abbrev Pr3 := Addr × Str × Str
def encP (b : Pr3) : PyData := .tuple [.str b.2.1, .str b.2.2]
def keyP (b : Pr3) : Addr × List Str := (b.1, [b.2.1, b.2.2])
theorem perm_map_inv {α β : Type} {f : α → β} {m l : List β} (h : m.Perm l) : ∀ {a : List α}, m = a.map f → ∃ a' : List α, a'.Perm a ∧ l = a'.map f := by
  induction h with
  | nil =>
    intro a e
    cases a with
    | nil => exact ⟨[], .nil, rfl⟩
    | cons x a => cases e
  | @cons x l1 l2 _ ih =>
    intro a e
    cases a with
    | nil => cases e
    | cons y a =>
      rw [List.map_cons] at e
      injection e with e1 e2
      obtain ⟨a', p, e⟩ := ih e2
      exact ⟨y :: a', p.cons _, by rw [List.map_cons, e1, e]⟩
  | @swap x y l1 =>
    intro a e
    cases a with
    | nil => cases e
    | cons u a =>
      cases a with
      | nil => cases e
      | cons v a =>
        rw [List.map_cons, List.map_cons] at e
        injection e with e1 e2
        injection e2 with e2 e3
        exact ⟨v :: u :: a, .swap _ _ _, by rw [List.map_cons, List.map_cons, e1, e2, e3]⟩
  | trans _ _ ih1 ih2 =>
    intro a e
    obtain ⟨a1, p1, e1⟩ := ih1 e
    obtain ⟨a2, p2, e2⟩ := ih2 e1
    exact ⟨a2, p2.trans p1, e2⟩
theorem reads_key {h : Heap} {b : Pr3} (x : IsK P w h [b.2.1, b.2.2] b.1) : Reads h (.ref b.1) (encP b) [] := by
  obtain ⟨o, items, n, ho, hc, hd, hi⟩ := x
  obtain ⟨l⟩ := items
  cases hi with
  | cons h1 t =>
    cases t with
    | cons h2 t =>
      cases t with
      | nil =>
        obtain ⟨t1, rfl⟩ := Value.isStrOf_shape h1
        obtain ⟨t2, rfl⟩ := Value.isStrOf_shape h2
        exact .tuple ho hc hd (.cons (as := []) (bs := []) (.str _ _) (.cons (as := []) (bs := []) (.str _ _) .nil))
theorem alike_pairs (b b' : Pr3) : PySem.W.alike (encP b) (encP b') = true := by
  simp [encP, PySem.W.alike, PySem.W.alikeAll]
theorem le_pairs {b b' : Pr3} (h : PySem.W.dataLe false encP b b' = true) (hne : b.2.1 ≠ b'.2.1) : sLeK b.2.1 b'.2.1 := by
  rw [PySem.W.dataLe_eq] at h
  have h : (!PySem.W.dataLt (encP b') (encP b)) = true := h
  unfold encP at h
  rw [PySem.W.dataLt_pair (by simp [PySem.W.alike]) (by simp [PySem.W.alike])] at h
  have e : PyData.eqv (.str b'.2.1) (.str b.2.1) = false := by
    simp [PyData.eqv]
    exact fun q => hne q.symm
  rw [e, if_neg (by decide), PySem.W.dataLt_str] at h
  intro q
  rw [decide_eq_true q] at h
  cases h
/-- sorted(set), the set of pairs of texts with different first texts -/
theorem sorted_setK {a : Addr} {bs : List Pr3} {es : Array (Int × Value)} {ep : Nat} {t : SetTable} {Q : Value → Shared → Prop} (R : SetK P w s.heap a (bs.map keyP) es ep t) (hh : A.handled = none) (hu : A.units + 64 < cLine) (nd : (bs.map (·.2.1)).Nodup)
    (hQ : ∀ s' p (out : Array Value) (c : Nat) (bs' : List Pr3), (∀ b o, s.heap.get? b = some o → s'.heap.get? b = some o) → s'.gens = s.gens → s'.os = s.os → s.heap.objs.size ≤ p →
      s'.heap.get? p = some (seqObj "list" out c) → out.toList = bs'.map (fun q => Value.ref q.1) → bs'.Perm bs → (bs'.map (·.2.1)).Pairwise sLeK → Q (.ref p) s') :
    wpAny (model P w) A (call (.builtin "sorted") [.ref a]) Q E s := by
  obtain ⟨o, ho, hex, hd⟩ := R.ob
  have hfew := R.few
  rw [List.length_map] at hfew
  refine Calls.call_function_entry kind_sorted plain_sorted entry_sorted (args_sorted1 _) ?_
  unfold Builtin.«sorted»
  refine wpAny_bind (m := checkCount "sorted" 1 1 _) (wpAny_pure ?_)
  refine wpAny_bind (collect_set (A := A.in1) hh ⟨o, ho, hex.1, hd⟩ R.fits (by have := R.size; rw [List.length_map] at this; unfold scanBound; omega) R.tab.ris R.led fun s1 vs k1 hz g1 o1 pm => ?_)
  have hes : es.toList.map (·.2) = bs.map fun q => Value.ref q.1 := by
    rw [R.ents]
    unfold entK
    rw [List.map_map, List.map_map]
    rfl
  rw [hes] at pm
  obtain ⟨b1, p1, rfl⟩ := perm_map_inv pm.symm rfl
  have hl1 : b1.length ≤ 4 := by rw [p1.length_eq]; exact hfew
  refine wpAny_bind (wpAny_newList ?_ (by rw [List.length_map, sizeLine_eq]; omega))
  have hoL : (s1.heap.push (seqObj "list" (b1.map fun q => Value.ref q.1).toArray 0)).get? s1.heap.objs.size = some (seqObj "list" (b1.map fun q => Value.ref q.1).toArray 0) := Heap.get?_push_size _ rfl
  have each : ∀ (R : Value → Pr3 → Prop) (l : List Pr3), (∀ b ∈ l, R (.ref b.1) b) → PySem.W.EachIs R (l.map fun q => Value.ref q.1) l := by
    intro R l
    induction l with
    | nil => intro _; exact .nil
    | cons b l ih => intro h; exact .cons (h b List.mem_cons_self) (ih fun c hc => h c (List.mem_cons_of_mem _ hc))
  have back : ∀ (l : List Pr3) (out : List Value), PySem.W.EachIs (fun v b => v = Value.ref b.1) out l → out = l.map fun q => Value.ref q.1 := by
    intro l out h
    induction h with
    | nil => rfl
    | cons e _ ih => rw [e, ih]; rfl
  refine wpAny_bind (wpAny_holding (PySem.W.list_sort_data (s := { s1 with heap := s1.heap.push (seqObj "list" (b1.map fun q => Value.ref q.1).toArray 0) }) (enc := encP) (R := fun v b => v = Value.ref b.1) hoL (each _ b1 fun b _ => rfl) (each _ b1 fun b hb => ⟨[], ?_, by simp⟩) (.of alike_pairs) (.tuples fun b => ⟨_, _, rfl⟩) (by rw [sizeLine_eq]; omega) (fun b _ => ?_) fun out ho2 eo => ?_))
  · refine reads_key (P := P) (w := w) (key_keep (R.tup (keyP b) (List.mem_map.mpr ⟨b, p1.mem_iff.mp hb, rfl⟩)) fun o e => Heap.get?_push_of_some _ (k1 _ _ e))
  · show A.units + 1 + 1 + (encP b).depth < cLine
    simp [encP, PyData.depth, PyData.depthAll]
    omega
  have eo := back _ _ eo
  obtain ⟨c, hc⟩ := sortedHeap_at (vs := b1.map fun q => Value.ref q.1) (out := out.toArray) hoL
  have pS : (b1.mergeSort (PySem.W.dataLe false encP)).Perm bs := (List.mergeSort_perm b1 _).trans p1
  refine wpAny_pure ⟨_, rfl, hQ _ s1.heap.objs.size out.toArray c _ (fun b u e => ?_) g1 o1 hz hc (by simpa using eo) pS ?_⟩
  · have q := k1 b u e
    have hlt := Heap.lt_size q
    show (sortedHeap (s1.heap.push (seqObj "list" (b1.map fun q => Value.ref q.1).toArray 0)) s1.heap.objs.size (b1.map fun q => Value.ref q.1) out.toArray).get? b = some u
    rw [sortedHeap_old (Nat.ne_of_lt hlt) (by rw [size_push']; exact Nat.lt_succ_of_lt hlt)]
    exact Heap.get?_push_of_some _ q
  · have nd2 : ((b1.mergeSort (PySem.W.dataLe false encP)).map (·.2.1)).Nodup := (pS.map _).nodup_iff.mpr nd
    have pw := PySem.W.sort_pairwise (le := PySem.W.dataLe false encP) (PySem.W.sortLe_total (PyProof.Rows.listOrd PyProof.Rows.itemOrd) false fun b => PySem.W.keyToks (encP b)) b1
    rw [List.pairwise_map]
    have nd3 := List.pairwise_map.mp nd2
    exact (pw.and nd3).imp fun {x y} h => le_pairs h.1 h.2
end
/-! ### over the layer -/
structure SetK0 (P : Program) (w : World) (h : Heap) (a : Addr) (L : List (Addr × List Str)) : Prop where
  ex : ∃ (es : Array (Int × Value)) (ep : Nat) (t : SetTable), (∃ o, h.get? a = some o ∧ o.ExactSet ∧ o.data = .set es ep t) ∧ es.toList = entK P w L ∧ TabOk t (L.map fun p => kH P w p.2) ∧ (L.map (·.2)).Nodup ∧ (w.params.followText "set-order" = true ∨ t.led = true) ∧ t.mask = 7 ∧ L.length ≤ 4
def SetKO (P : Program) (w : World) (a : Addr) (L : List (Addr × List Str)) : HO := .ext fun h => SetK0 P w h a L
theorem SetK.k0 {P : Program} {w : World} {h : Heap} {a : Addr} {L : List (Addr × List Str)} {es : Array (Int × Value)} {ep : Nat} {t : SetTable} (R : SetK P w h a L es ep t) : SetK0 P w h a L := ⟨es, ep, t, R.ob, R.ents, R.tab, R.nd, R.led, R.mask, R.few⟩
theorem SetK0.full {P : Program} {w : World} {h : Heap} {a : Addr} {L : List (Addr × List Str)} (R : SetK0 P w h a L) (ht : ∀ p ∈ L, IsK P w h p.2 p.1) : ∃ es ep t, SetK P w h a L es ep t := by
  obtain ⟨es, ep, t, h1, h2, h3, h4, h6, h7, h8⟩ := R.ex
  exact ⟨es, ep, t, h1, h2, h3, h4, ht, h6, h7, h8⟩
theorem setKO_new {P : Program} {w : World} {H : Hp} {h : Heap} {a : Addr} {L : List (Addr × List Str)} (R : SetK0 P w h a L) : ObjOk P w H h a (SetKO P w a L) := by
  have ⟨es, ep, t, ⟨o, ho, r⟩, q⟩ := R.ex
  refine ⟨R, ⟨o, ho⟩, fun h1 h2 p k => ?_⟩
  have ⟨es', ep', t', ⟨o', ho', r'⟩, q'⟩ := SetK0.ex p
  exact ⟨es', ep', t', ⟨o', k o' ho', r'⟩, q'⟩
theorem keys_of_vals {P : Program} {w : World} : ∀ {k : List Str} {us : List Value}, Vals (k.map V.str) us → ItemsAre (strKind P w) k us
  | [], _, .nil => .nil
  | n :: k, _, .cons r t => by
    obtain ⟨tk, rfl⟩ := r
    exact .cons (by show Value.isStrOf n (.str n tk) = true; simp [Value.isStrOf]) (keys_of_vals t)
theorem refs_vals {α : Type} (f : α → Addr) : ∀ {ks : List α} {us : List Value}, Vals (ks.map fun p => V.ref (f p)) us → us = ks.map fun p => Value.ref (f p)
  | [], _, .nil => rfl
  | p :: ks, _, .cons r t => by
    cases r
    rw [refs_vals f t]
    rfl
theorem vals_refs {α : Type} (f : α → Addr) : ∀ (ks : List α), Vals (ks.map fun p => V.ref (f p)) (ks.map fun p => Value.ref (f p))
  | [] => .nil
  | p :: ks => .cons rfl (vals_refs f ks)
section
variable {X : Cx}
theorem inv_isK {pins : List (Addr × Obj)} {σ : L2.St} {H : Hp} {s : Shared} {b : Addr} {k : List Str} (I : L2.Inv X pins σ H s) (h : SqT X.K H b (k.map V.str)) : IsK X.prog X.w s.heap k b := by
  obtain ⟨its, r, ⟨o, ho, hc, n, hd⟩, _⟩ := I.tuple h
  exact ⟨o, its.toArray, n, ho, hc, hd, by simpa using keys_of_vals r⟩
/-- set(xs), xs a list of at most four pairs of texts with different first texts -/
def rSetP (K : PySem.W.Frag) (P : Program) (w : World) : List V → Hp → VK → Prop := fun xs H Q => ∃ (l : Addr) (bs : List Pr3), xs = [V.ref l] ∧ SqL K H l (bs.map fun p => V.ref p.1) ∧ (∀ p ∈ bs, SqT K H p.1 [.str p.2.1, .str p.2.2]) ∧ bs.length ≤ 4 ∧ (bs.map (·.2.1)).Nodup ∧
  ∀ (a : Addr) (bs' : List Pr3), H a = none → bs'.Perm bs → Q (.ref a) (upd H a (SetKO P w a (bs'.map keyP)))
theorem cr_setP (hc : X.calm = true) (hu : X.A.units + 64 < cLine) : CallR X (.type "set") (rSetP X.K X.prog X.w) := by
  intro pins s σ H xs us Q I r h
  obtain ⟨l, bs, rfl, hl, hk, hf, nd, q⟩ := h
  rw [Vals.ref1 r]
  obtain ⟨its, rv, pl, hz⟩ := I.list hl
  have hn : H s.heap.objs.size = none := I.hok.fresh (Nat.le_refl _)
  have nd2 : ((bs.map keyP).map (·.2)).Nodup := by
    rw [List.map_map]
    refine List.pairwise_map.mpr ((List.pairwise_map.mp nd).imp fun {x y} h e => h ?_)
    have e : [x.2.1, x.2.2] = [y.2.1, y.2.2] := e
    injection e
  refine call_set_keys (P := X.prog) (w := X.w) (ks := bs.map keyP) (I.ok.hd hc) (by omega) (plain_list pl) ?_ (fun p hp => ?_) (by rw [List.length_map]; exact hf) nd2 fun h' tk L es ep t k R pm => ?_
  · have := refs_vals (fun p : Pr3 => p.1) rv
    rw [List.map_map]
    exact this
  · obtain ⟨b, hb, rfl⟩ := List.mem_map.mp hp
    exact inv_isK I (hk b hb)
  · obtain ⟨bs', pb, rfl⟩ := perm_map_inv pm.symm rfl
    exact ⟨.ref s.heap.objs.size, upd H s.heap.objs.size (SetKO X.prog X.w s.heap.objs.size (bs'.map keyP)), I.laid (t' := tk) k (Nat.le_refl _) (setKO_new R.k0), rfl, q _ bs' hn pb⟩
def rSortedP (K : PySem.W.Frag) (P : Program) (w : World) : List V → Hp → VK → Prop := fun vs H Q => ∃ (a : Addr) (bs : List Pr3), vs = [V.ref a] ∧ H a = some (SetKO P w a (bs.map keyP)) ∧ (∀ p ∈ bs, SqT K H p.1 [.str p.2.1, .str p.2.2]) ∧ (bs.map (·.2.1)).Nodup ∧
  ∀ (bs' : List Pr3) (p : Addr), bs'.Perm bs → (bs'.map (·.2.1)).Pairwise sLeK → H p = none → Q (.ref p) (upd H p (.lst (bs'.map fun q => V.ref q.1)))
theorem cr_sortedP (hc : X.calm = true) (hu : X.A.units + 64 < cLine) : CallR X (.builtin "sorted") (rSortedP X.K X.prog X.w) := by
  intro pins s σ H vs us Q I r h
  obtain ⟨a, bs, rfl, ha, hk, nd, q⟩ := h
  have R0 : SetK0 X.prog X.w s.heap a (bs.map keyP) := (I.hok a _ ha).1
  obtain ⟨es, ep, t, R⟩ := R0.full fun p hp => by
    obtain ⟨b, hb, rfl⟩ := List.mem_map.mp hp
    exact inv_isK I (hk b hb)
  rw [Vals.ref1 r]
  refine sorted_setK R (I.ok.hd hc) hu nd fun s' p out c bs' k g o hp hg hout pm pw => ?_
  have hfew : bs'.length ≤ 4 := by have := R.few; rw [List.length_map] at this; rw [pm.length_eq]; exact this
  have hlen : (bs'.map fun q => V.ref q.1).length ≤ sizeLine := by rw [List.length_map, sizeLine_eq]; omega
  have hn : H p = none := I.hok.fresh hp
  have hv : Vals (bs'.map fun q => V.ref q.1) out.toList := by rw [hout]; exact vals_refs (fun q : Pr3 => q.1) bs'
  have J : L2.Inv X pins σ (upd H p (.lst (bs'.map fun q => V.ref q.1))) { s with heap := s'.heap, gens := s'.gens, drawn := s'.drawn, toks := s'.toks } :=
    I.call (ch := []) (Un.laid k hp hn) (I.hok.laid k hp ⟨hlen, out.toList, c, hv, hg⟩) (by rw [g]; exact I.bare) (fun _ z => nomatch z)
  have e : s' = { s with heap := s'.heap, gens := s'.gens, drawn := s'.drawn, toks := s'.toks } := by
    cases s'
    cases s
    cases o
    rfl
  rw [e]
  exact ⟨.ref p, _, J, rfl, q bs' p pm pw hn⟩
end
end Pf

set_option Elab.async false
set_option maxRecDepth 100000
set_option linter.all false
set_option maxHeartbeats 8000000
namespace Pf
open PySem PySem.Spec L2 PyProof.Rows
/-! ### a fresh dict, locked for a walk over it -/
def tLockA (t : TE) : TE := fun σ H Q => t σ H fun x H1 => ∃ d u, x = .ref d ∧ H1 d = some u ∧ Mut (some u) ∧ ∀ od, Q x (upd H1 d (.frz od u))
section
variable {X : Cx}
theorem pe_lockA {e : Expr} {t : TE} (h : PE X e t) : PE X e (tLockA t) := by
  refine ⟨fun pins s σ H Q I hw => ?_⟩
  refine thn (h.run pins s σ H _ I hw) fun v s1 ⟨x, H1, I1, rx, d, u, ex, hd, mu, q⟩ => ?_
  obtain ⟨od, I2⟩ := I1.lock hd mu
  exact ⟨x, _, I2, rx, q od⟩
/-! ### repr of lists and tuples, where none is under way -/
theorem cr_repr (hg : X.A.guards = some []) (hu : X.A.units + 64 < cLine) : CallR X (.builtin "repr") (fun xs H Q => ∃ (a : Addr) (d : PyData), xs = [.ref a] ∧ Dp X.K H (.ref a) d ∧ d.showable = true ∧ d.hasDict = false ∧ d.depth ≤ 32 ∧ d.shown.length ≤ sizeLine ∧ Q (.str d.shown) H) := by
  intro pins s σ H xs us Q I r h
  obtain ⟨a, d, rfl, hd, hs, hn, hdp, hz, q⟩ := h
  rw [Vals.ref1 r]
  obtain ⟨as, rd⟩ := Dp.reads I d _ (.ref a) hd rfl
  refine repr_of_reads' rd hs (fun z => by rw [hn] at z; cases z) hg (by omega) (fun _ _ e => e) (fun h' u tk hk => ?_) hz
  exact ⟨.str d.shown, H, I.kept (t' := tk) hk, ⟨u, rfl⟩, q⟩
end
/-! ### tuple(d) -/
section
variable {prog : Program} {w : World} {A : Around} {E : Value → Shared → Prop} {s : Shared} {r d : Addr} {n : Nat} {Pv : Nat → Value → Prop} {OK : Heap → Prop}
theorem code_tuple_src {Q₁ : Value → Shared → Prop} (Ks : PySem.W.KdlSrc prog w "dict" r d n Pv OK) (hh : A.handled = none) (hok : OK s.heap) (hn : n ≤ sizeLine) (hT : s.TypeIs (.ref r) "dict")
    (h : ∀ (h' : Heap) (tk : Nat) (acc : Array Value), (∀ b o, s.heap.get? b = some o → h'.get? b = some o) → ItemsOf Pv acc n → Q₁ (.ref h'.objs.size) { s with heap := h'.push { cls := .type "tuple", data := .seq acc }, toks := tk }) :
    codeAny (model prog w) A (.call (.builtin "tuple.__new__") ⟨[.type "tuple", .ref r], []⟩) (wants Q₁ E) s := by
  refine codeAny_of_tree ?_
  show wpAny _ A.in1 (do checkBuiltinCall "tuple.__new__" ⟨[.type "tuple", .ref r], []⟩; again (.builtin "tuple.__new__" ⟨[.type "tuple", .ref r], []⟩)) _ _ s
  refine wpAny_bind (wpAny_of_eq (F.newCall_tuple_1 _) (wpAny_pure ⟨plainId_quiet F.plain_tuple_new _, codeAny_builtin F.entry_tuple_new ?_⟩))
  rw [Around.under_plainId F.plain_tuple_new _]
  have hsub := sub_tuple_self
  have hinit := init_tuple_lookup
  have hmh := madeHere_tuple
  have hh1 : A.in1.handled = none := hh
  wp_walk using wpAny_typeOf hT, PySem.W.kdu_collect (A := A.in1) Ks hh1 hok hn
  intro h' tk acc hk hacc
  show wpAny _ _ (Builtin.Tuple.tupleExact acc.toList.toArray >>= fun v => ret v) _ _ _
  unfold Builtin.Tuple.tupleExact
  refine wpAny_bind (wpAny_newObj_type ?_ (by show acc.toList.toArray.size ≤ sizeLine; simp only [Array.toArray_toList]; rw [hacc.1]; exact hn))
  refine wpAny_pure ?_
  rw [show acc.toList.toArray = acc by simp]
  exact h h' tk acc hk hacc
theorem call_tuple_src {Q : Value → Shared → Prop} (Ks : PySem.W.KdlSrc prog w "dict" r d n Pv OK) (hh : A.handled = none) (hok : OK s.heap) (hn : n ≤ sizeLine) (hT : s.TypeIs (.ref r) "dict")
    (hQ : ∀ (h' : Heap) (tk : Nat) (acc : Array Value), (∀ b o, s.heap.get? b = some o → h'.get? b = some o) → ItemsOf Pv acc n → Q (.ref h'.objs.size) { s with heap := h'.push { cls := .type "tuple", data := .seq acc }, toks := tk }) :
    wpAny (model prog w) A (call (.type "tuple") [.ref r]) Q E s := by
  refine callType_codes (Q₁ := fun obj s₁ => s₁.TypeIs obj "tuple" ∧ Q obj s₁) F.called_tuple (F.typeCall_tuple_1 _) F.entry_object_init
    (code_tuple_src (A := A.in1) Ks hh hok hn hT fun h' tk acc hk hacc => ⟨⟨_, Heap.get?_push_size _ rfl, rfl⟩, hQ h' tk acc hk hacc⟩) fun obj s₁ h₁ => ?_
  exact ⟨h₁.1, F.args_object_init_2 obj _, object_init_meets F.called_tuple.init.lookup F.called_tuple.made (by decide) prog w A.in1 _ s₁ ⟨h₁.1, rfl, h₁.2⟩⟩
end
section
variable {X : Cx}
theorem cr_tupleD (hc : X.calm = true) : CallR X (.type "tuple") (fun xs H Q => ∃ (a : Addr) (kvs : List (Key × V)), xs = [.ref a] ∧ Rd H a (.dK kvs) ∧ ∀ p, H p = none → Q (.ref p) (upd H p (.tup (kvs.map fun kv => kV kv.1)))) := by
  intro pins s σ H xs us Q I r q
  obtain ⟨a, kvs, ex, hd, q⟩ := q
  subst ex
  rw [Vals.ref1 r]
  obtain ⟨z, lo, vs, rel, dd⟩ := dk_rd I.hok hd
  obtain ⟨ep, hat⟩ := dd.dictAt
  have ek : (kvs.map fun kv => kV kv.1) = vs.map fun p => kV p.1 := by
    have e := congrArg (List.map kV) rel.keys
    rw [List.map_map, List.map_map] at e
    exact e
  refine call_tuple_src (PySem.W.kdl_dict (knd := mixKind X.prog X.w) (kvs := vs) (ep := ep) lo) (I.ok.hd hc) hat (by rw [← rel.length]; exact z) dd.typeIs fun h' tk acc hk hacc => ?_
  have hv : Vals (vs.map fun p => kV p.1) acc.toList := keys_at (by rw [Array.length_toList]; exact hacc.1) fun j v e => hacc.2 j v (by rw [← Array.getElem?_toList]; exact e)
  have I1 : L2.Inv X pins σ H { s with heap := h', toks := tk } := I.kept (t' := tk) hk
  have hlen : (kvs.map fun kv => kV kv.1).length ≤ sizeLine := by rw [List.length_map]; exact z
  have I2 : L2.Inv X pins σ (upd H h'.objs.size (.tup (kvs.map fun kv => kV kv.1))) { s with heap := h'.push { cls := .type "tuple", data := .seq acc }, toks := tk } :=
    I1.laid (t' := tk) (fun b o e => Heap.get?_push_of_some _ e) (Nat.le_refl _) (show ObjOk X.prog X.w _ _ _ (.tup (kvs.map fun kv => kV kv.1)) from ⟨hlen, acc.toList, by rw [ek]; exact hv, by rw [Array.toArray_toList]; exact IsTup.new _ _⟩)
  exact ⟨.ref h'.objs.size, _, I2, rfl, q _ (I1.hok.fresh (Nat.le_refl _))⟩
end
end Pf

set_option Elab.async false
set_option maxRecDepth 100000
set_option linter.all false
set_option maxHeartbeats 4000000
namespace Pf
open PySem PySem.Spec L2 PyProof.Rows
def spOutcomes (C : Addr) : Sp := fun vs H Q _ => ∃ (a : V) (ns : List Str) (X : Pr), vs = [a] ∧ InsAt C H a ns X ∧ ∀ q kvs H', H q = none → Same H H' → H' q = some (.dK kvs) → FinKV H' kvs (gFin X.os ns X.m) → Q (.ref q) H'
def spReads (C : Addr) : Sp := fun vs H Q _ => ∃ (a : V) (ns : List Str) (X : Pr), vs = [a] ∧ InsAt C H a ns X ∧ ∀ q H', H q = none → Same H H' → H' q = some (.dK (rowKV (cRow rL ns X.q))) → Q (.ref q) H'
def spNames (C : Addr) : Sp := fun vs H Q _ => ∃ (a : V) (ns : List Str) (X : Pr), vs = [a] ∧ InsAt C H a ns X ∧ ∀ q H', H q = none → Same H H' → H' q = some (.tup (ns.map V.str)) → Q (.ref q) H'
section
variable {P : Program} {w : World} {K : PySem.W.Frag} {mg : Str → Option Value} {base : Heap} {aE aR aK : Addr}
abbrev s_Profile_outcomes : Stmt := inClass (top 20) 1
theorem sc_Profile_outcomes : FnScope ["self", "outcome", "row"] ["self"] (defScope s_Profile_outcomes) := ⟨rfl, rfl, rfl, by decide +kernel, rfl, by decide +kernel, by decide +kernel⟩
theorem ok_p_outcomes {C : Addr} (hC : Cls K C) (n1 : NoAttr K C "own_outcomes") {f : Addr} {fd : FuncData} (F : Fun K "outcomes" "Profile.outcomes" s_Profile_outcomes f fd) (B : Bi mg) : FnOk P w K mg base CX0 1 f fd ["self"] (spOutcomes C) := by
  refine F.ok sc_Profile_outcomes (fun vs H Q E h => ?_) (fun cdv A outer s H vs Q E hr h => ?_)
  · obtain ⟨a, ns, X, rfl, _⟩ := h
    rfl
  · obtain ⟨_, ns, X, rfl, ⟨a, dx, fo, ro, kvs, rfl, ha, hfo, hF, hro⟩, k⟩ := h
    have hu := hu_of hr
    refine ⟨_, (pss_one (ps_ret (pe_lock (pe_dc (own := [("outcome", 1), ("row", 2)]) (g := gTup K 2 (gCons (gName 1) (gCons (gName 2) gNil))) (by rfl) sc_Profile_outcomes.nd (pi_items (pe_fld (pv 0) rfl)) (blkOk_by (own := [("outcome", 1), ("row", 2)]) (N := ["self", "outcome", "row"]) (sc := defScope s_Profile_outcomes) (by decide +kernel)) (fun _ _ _ _ _ => (pg_tup rfl (pgs_cons (pg_name (i := 1) sc_Profile_outcomes.nd rfl (Or.inl rfl)) (pgs_cons (pg_name (i := 2) sc_Profile_outcomes.nd rfl (Or.inl rfl)) pgs_nil)))) (fun _ _ _ _ _ => pts_nil) (fun _ _ _ _ _ => (pv 1)) (fun _ _ _ _ _ => (pe_callTy call_dictD (by rfl) B.dict (by decide +kernel) (pa_cons (pv 2) pa_nil))))))), ?_⟩
    have hkl : kvs.length = X.os.length := by rw [hF.len]; unfold gFin; rw [List.length_map]
    have haf : a ≠ fo := ne_of ha hfo (by intro z; cases z)
    refine ⟨fo, _, hfo, trivial, fun od => ?_⟩
    refine ⟨_, rfl, a, C, dx, _, _, rfl, by rw [upd_ne haf]; exact ha, hC, n1, look_out _ _, fo, od, kvs, rfl, upd_same, fun D hD => ?_⟩
    refine dc_gen walk_items rel_ex hD (by rw [hkl]; have := os_len X; omega) (fun _ l d => l _ _ d) (fun i ys H' => FinX D H' ys (gFin (X.os.take i) ns X.m)) .nil (fun i ys H' l _ => l _ _ upd_same) (fun _ _ _ _ _ _ _ s => s.chg) ?_ ?_
    · rintro i x ys H1 H1' hi l1 hD1 hX ⟨T, x, y, rfl, hT, rfl, hx, hy⟩ K1 K0 k1 k0
      have hi' : i < X.os.length := by rw [← hkl]; exact hi
      obtain ⟨ba, ek, hba⟩ := gFin_at hF hi'
      have hx : kvs[i]?.map (fun kv => kV kv.1) = some x := hx
      have hy : kvs[i]?.map Prod.snd = some y := hy
      rw [ek] at hx hy
      obtain rfl := Option.some.inj hx
      obtain rfl := Option.some.inj hy
      have hkne : kvs ≠ [] := by rintro rfl; simp at hi
      have hba3 : upd H fo (.frz od (.dK kvs)) ba = some (.dK (rowKV (cRow eL ns (X.m X.os[i])))) := by rw [upd_ne (row_ne hF hfo hkne hba)]; exact hba
      refine ⟨T, _, rfl, SqT.of upd_same, rfl, _, _, rfl, _, _, rfl, rfl, rfl, yes_of ?_⟩
      have l2 := same_new (o := .tup [kV (Sum.inr X.os[i]), .ref ba]) hT
      refine ⟨_, rfl, _, rfl, ba, _, rfl, .inl (l2 _ _ (l1 _ _ hba3)), fun z hz => ?_⟩
      have l3 := l2.trans (same_new (o := .dK (rowKV (cRow eL ns (X.m X.os[i])))) hz)
      refine k1 (Sum.inr X.os[i]) _ _ l3 ?_
      rw [putK_fresh _ _ _ (by rw [hX.keys, gFin_keys]; intro q; obtain ⟨o, ho, e⟩ := List.mem_map.mp q; rw [Sum.inr.inj e] at ho; exact nodup_at (os_nodup X) hi' ho), take_at hi']
      unfold gFin
      rw [List.map_append]
      exact paired_snoc (hX.same l3) ⟨rfl, z, rfl, (fun e => by rw [e, l2 _ _ hD1] at hz; cases hz), upd_same⟩
    · rintro ys H1 l1 _ hD1 hX
      rw [hkl, List.take_length] at hX
      obtain ⟨h1, h2⟩ := lock_back hfo l1
      have hDa : D ≠ fo := by rintro rfl; rw [upd_same] at hD; cases hD
      refine ⟨h1, k D ys _ (by rw [upd_ne hDa] at hD; exact hD) h2 (by rw [upd_ne hDa]; exact hD1) ?_⟩
      refine Paired.mapP hX.kv fun kv p ⟨h3, c, h4, h5⟩ => ⟨h3, c, h4, ?_⟩
      by_cases hc : c = fo
      · subst hc
        rw [h5] at h1
        cases h1
      · rw [upd_ne hc]; exact h5
abbrev s_Profile_reads : Stmt := inClass (top 20) 2
theorem sc_Profile_reads : FnScope ["self"] ["self"] (defScope s_Profile_reads) := ⟨rfl, rfl, rfl, by decide +kernel, rfl, by decide +kernel, by decide +kernel⟩
theorem ok_p_reads {C : Addr} (hC : Cls K C) (n2 : NoAttr K C "own_reads") {f : Addr} {fd : FuncData} (F : Fun K "reads" "Profile.reads" s_Profile_reads f fd) (B : Bi mg) : FnOk P w K mg base CX0 1 f fd ["self"] (spReads C) := by
  refine F.ok sc_Profile_reads (fun vs H Q E h => ?_) (fun cdv A outer s H vs Q E hr h => ?_)
  · obtain ⟨a, ns, X, rfl, _⟩ := h
    rfl
  · obtain ⟨_, ns, X, rfl, ⟨a, dx, fo, ro, kvs, rfl, ha, hfo, hF, hro⟩, k⟩ := h
    refine ⟨_, (pss_one (ps_ret (pe_callTy call_dictD (by rfl) B.dict (by decide +kernel) (pa_cons (pe_fld (pv 0) rfl) pa_nil)))), ?_⟩
    exact ⟨_, rfl, a, C, dx, _, _, rfl, ha, hC, n2, look_rd _ _, ro, _, rfl, .inl hro, fun p hp => k p _ hp (same_new hp) upd_same⟩
abbrev s_Profile_names : Stmt := inClass (top 20) 3
theorem sc_Profile_names : FnScope ["self"] ["self"] (defScope s_Profile_names) := ⟨rfl, rfl, rfl, by decide +kernel, rfl, by decide +kernel, by decide +kernel⟩
theorem ok_p_names {C : Addr} (hC : Cls K C) (n2 : NoAttr K C "own_reads") {f : Addr} {fd : FuncData} (F : Fun K "names" "Profile.names" s_Profile_names f fd) (B : Bi mg) : FnOk P w K mg base CX0 1 f fd ["self"] (spNames C) := by
  refine F.ok sc_Profile_names (fun vs H Q E h => ?_) (fun cdv A outer s H vs Q E hr h => ?_)
  · obtain ⟨a, ns, X, rfl, _⟩ := h
    rfl
  · obtain ⟨_, ns, X, rfl, ⟨a, dx, fo, ro, kvs, rfl, ha, hfo, hF, hro⟩, k⟩ := h
    refine ⟨_, (pss_one (ps_ret (pe_callTy (cr_tupleD rfl) (by rfl) B.tuple (by decide +kernel) (pa_cons (pe_fld (pv 0) rfl) pa_nil)))), ?_⟩
    refine ⟨_, rfl, a, C, dx, _, _, rfl, ha, hC, n2, look_rd _ _, ro, _, rfl, .inl hro, fun p hp => k p _ hp (same_new hp) ?_⟩
    rw [kvs_strs]
    exact upd_same
end
end Pf

set_option Elab.async false
set_option maxRecDepth 100000
set_option linter.all false
set_option maxHeartbeats 4000000
namespace Pf
open PySem PySem.Spec L2 PyProof.Rows
def spRank : Sp := fun vs H Q _ => ∃ l : Str, vs = [.str l] ∧ (l ∈ ends ∨ l ∈ reads) ∧ ∀ H', Same H H' → Q (.int (rank l)) H'
def rankKV : List (Key × V) := [(Sum.inr "set", .int 0), (Sum.inr "keep", .int 1), (Sum.inr "unset", .int 2), (Sum.inr "none", .int 0), (Sum.inr "entry", .int 1), (Sum.inr "always", .int 2)]
theorem rank_val (l : Str) (h : l ∈ ends ∨ l ∈ reads) : valV (mergeK [] rankKV) (Sum.inr l) = some (.int (rank l)) := by
  unfold ends reads at h
  simp only [List.mem_cons, List.not_mem_nil, or_false] at h
  rcases h with (rfl | rfl | rfl) | (rfl | rfl | rfl) <;> decide +kernel
section
variable {P : Program} {w : World} {K : PySem.W.Frag} {mg : Str → Option Value} {base : Heap} {aE aR aK : Addr}
abbrev s_L_rank : Stmt := top 33
theorem sc_L_rank : FnScope ["_law_level"] ["_law_level"] (defScope s_L_rank) := ⟨rfl, rfl, rfl, by decide +kernel, rfl, by decide +kernel, by decide +kernel⟩
theorem ok_rank {f : Addr} {fd : FuncData} (F : Fun K "_law_rank" "_law_rank" s_L_rank f fd) : FnOk P w K mg base CX0 1 f fd ["_law_level"] spRank := by
  refine F.ok sc_L_rank (fun vs H Q E h => ?_) (fun cdv A outer s H vs Q E hr h => ?_)
  · obtain ⟨l, rfl, _⟩ := h
    rfl
  · obtain ⟨l, rfl, hl, k⟩ := h
    have hu := hu_of hr
    refine ⟨_, (pss_one (ps_ret (pe_dget hu (pe_disp (pps_cons pe_str pe_int (pps_cons pe_str pe_int (pps_cons pe_str pe_int (pps_cons pe_str pe_int (pps_cons pe_str pe_int (pps_cons pe_str pe_int pps_nil)))))) (by rfl) (by rfl) (fun z => by cases z) (by decide)) (pv 0) (fun _ _ => rfl)))), ?_⟩
    intro p hp
    refine ⟨upd_same, rankKV, rfl, by decide, _, rfl, ?_⟩
    have e : Same H (upd (upd H p (.dK [])) p (.dK (mergeK [] rankKV))) := by rw [upd_upd]; exact same_new hp
    refine ⟨p, _, rfl, .inl ⟨_, Sum.inr l, .inl upd_same, rfl, ?_⟩, k _ e⟩
    exact (rank_val l hl).symm
end
end Pf

set_option Elab.async false
set_option maxRecDepth 100000
set_option linter.all false
set_option maxHeartbeats 4000000
namespace Pf
open PySem PySem.Spec L2 PyProof.Rows
def spChosen (sg : Int) (op : Lv → Lv → Lv) : Prop := (sg = 1 ∧ op = lvLo) ∨ (sg = -1 ∧ op = lvHi)
def spCh : Sp := fun vs H Q _ => ∃ (a b : Addr) (sg : Int) (op : Lv → Lv → Lv) (E : Lv → Str) (ws ns : List Str) (f g : Str → Lv), vs = [.ref a, .ref b, .int sg] ∧ spChosen sg op ∧ IsL E ∧ H a = some (.dK (rowKV (cRow E ws f))) ∧ H b = some (.dK (rowKV (cRow E ws g))) ∧ ws.Nodup ∧ ws.length ≤ 4 ∧ ns.Perm ws ∧ sortedS ns = true ∧
  ∀ q H', H q = none → Same H H' → H' q = some (.dK (rowKV (cRow E ns fun n => op (f n) (g n)))) → Q (.ref q) H'
theorem sg_rank {sg : Int} {op : Lv → Lv → Lv} (h : spChosen sg op) (a b : Lv) : (if decide (sg * (a.val : Int) ≤ sg * (b.val : Int)) = true then a else b) = op a b := by
  rcases h with ⟨rfl, rfl⟩ | ⟨rfl, rfl⟩
  · revert a b; decide +kernel
  · revert a b; decide +kernel
section
variable {P : Program} {w : World} {K : PySem.W.Frag} {mg : Str → Option Value} {base : Heap} {aE aR aK : Addr}
abbrev s_L_chosen : Stmt := top 34
theorem sc_L_chosen : FnScope ["_law_one", "_law_other", "_law_sign", "_law_found", "_law_word", "_law_is_first"] ["_law_one", "_law_other", "_law_sign"] (defScope s_L_chosen) := ⟨rfl, rfl, rfl, by decide +kernel, rfl, by decide +kernel, by decide +kernel⟩
theorem ok_chosen {f : Addr} {fd : FuncData} (F : Fun K "_law_chosen" "_law_chosen" s_L_chosen f fd) (B : Bi mg) (C__law_rank : C8.Cal P w K mg base 1 "_law_rank" spRank []) : FnOk P w K mg base CX0 2 f fd ["_law_one", "_law_other", "_law_sign"] spCh := by
  refine F.ok sc_L_chosen (fun vs H Q E h => ?_) (fun cdv A outer s H vs Q E hr h => ?_)
  · obtain ⟨a, b, sg, op, E, ws, ns, f, g, rfl, _⟩ := h
    rfl
  · obtain ⟨a, b, sg, op, E, ws, ns, f, g, rfl, hsg, hE, ha, hb, hnd, hl, hp, hs, k⟩ := h
    have hu := hu_of hr
    refine ⟨_, (pss_cons (ps_set (i := 3) sc_L_chosen.nd rfl (Or.inl rfl) pe_dnewK)
      (pss_cons (ps_for PassesOwn.never rfl (pi_list (pe_callB (show CallR _ (.builtin "sorted") (rSortedS' w) from cr_sortedSetS rfl) (by rfl) B.sorted (by decide +kernel) (pa_cons (pe_callTy (show CallR _ (.type "set") (rSetD w) from cr_setD) (by rfl) B.set (by decide +kernel) (pa_cons (pv 0) pa_nil)) pa_nil))) (pg_name (i := 4) sc_L_chosen.nd rfl (Or.inl rfl))
        (pss_cons (ps_set (i := 5) sc_L_chosen.nd rfl (Or.inl rfl) (pe_cmpR op_le (pe_op op_mul (pv 2) (C8.pe_c C__law_rank hr (by decide) (by rfl) (pa_cons (pe_dget hu (pv 0) (pv 4) (fun _ _ => rfl)) pa_nil))) (pe_op op_mul (pv 2) (C8.pe_c C__law_rank hr (by decide) (by rfl) (pa_cons (pe_dget hu (pv 1) (pv 4) (fun _ _ => rfl)) pa_nil))) (nomark _)))
        (pss_one (ps_dput hu (pv 3) (pv 4) (pe_ifExp (pt_val (pv 5)) (pe_dget hu (pv 0) (pv 4) (fun _ _ => rfl)) (pe_dget hu (pv 1) (pv 4) (fun _ _ => rfl))) rfl))))
      (pss_one (ps_ret (pv 3))))), ?_⟩
    intro q hq
    have hqa : a ≠ q := ne_of_none ha hq
    have hqb : b ≠ q := ne_of_none hb hq
    refine ⟨_, rfl, a, _, ws, rfl, .inl (by rw [upd_ne hqa]; exact ha), rowKV_keysC E ws f, hl, fun p1 hp1 => ?_⟩
    refine ⟨p1, ws, rfl, upd_same, by omega, fun ys p2 hys hsy hp2 => ?_⟩
    obtain rfl : ys = ns := sorted_one hsy hs (hys.trans hp.symm)
    have hnd2 : ys.Nodup := hys.symm.nodup hnd
    have e1 : Same (upd H q (.dK [])) (upd (upd (upd H q (.dK [])) p1 (SetSO w p1 ws)) p2 (.lst (ys.map V.str))) := (same_new hp1).trans (same_new hp2)
    have hp3 : upd (upd (upd H q (.dK [])) p1 (SetSO w p1 ws)) p2 (.lst (ys.map V.str)) p2 = some (.lst (ys.map V.str)) := upd_same
    have hq1 := e1 _ _ (upd_same (H := H) (a := q) (o := .dK []))
    generalize upd (upd (upd H q (.dK [])) p1 (SetSO w p1 ws)) p2 (.lst (ys.map V.str)) = H1 at e1 hp3 hq1
    have l0 : Same H H1 := (same_new hq).trans e1
    refine ⟨p2, rfl, ⟨_, SqL.of hp3⟩, ?_⟩
    refine for_it (walk_list (xs := ys.map V.str)) (fun i σ' H' => ∃ o1 o2, σ' = [some (.ref a), some (.ref b), some (.int sg), some (.ref q), o1, o2] ∧ Same H H' ∧ H' p2 = some (.lst (ys.map V.str)) ∧ H' q = some (.dK (rowKV (cRow E (ys.take i) fun n => op (f n) (g n))))) ⟨none, none, rfl, l0, hp3, hq1⟩ (fun i σ' H' _ ⟨_, _, _, _, h, _⟩ => SqL.of h) ?_ ?_
    · rintro i x σ' H2 H2' hi ⟨o1, o2, rfl, l2, hp2', hq2⟩ ⟨rfl, hx⟩
      have hi' : i < ys.length := by rwa [List.length_map] at hi
      rw [List.getElem?_map, List.getElem?_eq_getElem hi'] at hx
      obtain rfl := Option.some.inj hx
      have hm : ys[i] ∈ ws := hys.subset (List.getElem_mem hi')
      have va : ∀ H', Same H H' → DGet H' a (.str ys[i]) (some (.str (E (f ys[i])))) := fun H' l => .inl ⟨_, Sum.inr ys[i], .inl (l _ _ ha), rfl, (cRow_val hm).symm⟩
      have vb : ∀ H', Same H H' → DGet H' b (.str ys[i]) (some (.str (E (g ys[i])))) := fun H' l => .inl ⟨_, Sum.inr ys[i], .inl (l _ _ hb), rfl, (cRow_val hm).symm⟩
      have hsb : -(2 ^ 64) < sg ∧ sg < 2 ^ 64 := by rcases hsg with ⟨rfl, _⟩ | ⟨rfl, _⟩ <;> decide
      refine ⟨_, rfl, _, rfl, _, rfl, a, _, rfl, va _ l2, _, rfl, hE.mem _, fun H3 e3 => ⟨_, _, rfl, rfl, .inl hsb, ?_⟩⟩
      have l3 := l2.trans e3
      refine ⟨_, rfl, _, rfl, _, rfl, b, _, rfl, vb _ l3, _, rfl, hE.mem _, fun H4 e4 => ⟨_, _, rfl, rfl, .inl hsb, _, _, rfl, rfl, ?_⟩⟩
      have l4 := l3.trans e4
      have e24 := e3.trans e4
      rw [hE.rank, hE.rank]
      have fin : ∀ z, z = E (op (f ys[i]) (g ys[i])) → ∀ o1 o2, ∃ o1' o2', [some (V.ref a), some (.ref b), some (.int sg), some (.ref q), o1, o2] = [some (V.ref a), some (.ref b), some (.int sg), some (.ref q), o1', o2'] ∧ Same H (upd H4 q (.dK (putK (rowKV (cRow E (ys.take i) fun n => op (f n) (g n))) (Sum.inr ys[i]) (.str z)))) ∧
          upd H4 q (.dK (putK (rowKV (cRow E (ys.take i) fun n => op (f n) (g n))) (Sum.inr ys[i]) (.str z))) p2 = some (.lst (ys.map V.str)) ∧ upd H4 q (.dK (putK (rowKV (cRow E (ys.take i) fun n => op (f n) (g n))) (Sum.inr ys[i]) (.str z))) q = some (.dK (rowKV (cRow E (ys.take (i + 1)) fun n => op (f n) (g n)))) := fun z ez o1 o2 => by
        refine ⟨o1, o2, rfl, same_chg l4 hq, ?_, ?_⟩
        · rw [upd_ne (ne_of hp2' hq2 (by intro z; cases z))]
          exact e24 _ _ hp2'
        · rw [upd_same, ez, take_at hi', cRow_snoc (f := fun n => op (f n) (g n)) (nodup_at hnd2 hi')]
      have hlen : (rowKV (cRow E (ys.take i) fun n => op (f n) (g n))).length < sizeLine := sz_lt (by rw [rowKV_len, cRow_len, List.length_take, hys.length_eq]; omega)
      have sr := sg_rank hsg (f ys[i]) (g ys[i])
      refine ⟨_, rfl, _, rfl, ?_⟩
      cases hc : decide (sg * ((f ys[i]).val : Int) ≤ sg * ((g ys[i]).val : Int)) with
      | true =>
        rw [hc, if_pos rfl] at sr
        refine iteT ?_
        refine ⟨_, rfl, _, rfl, a, _, rfl, va _ l4, _, rfl, _, rfl, q, _, rfl, DPut.k (k := Sum.inr ys[i]) (e24 _ _ hq2) hlen, ?_⟩
        exact fin _ (by rw [← sr]) _ _
      | false =>
        rw [hc, if_neg (by decide)] at sr
        refine iteF ?_
        refine ⟨_, rfl, _, rfl, b, _, rfl, vb _ l4, _, rfl, _, rfl, q, _, rfl, DPut.k (k := Sum.inr ys[i]) (e24 _ _ hq2) hlen, ?_⟩
        exact fin _ (by rw [← sr]) _ _
    · rintro σ' H2 ⟨o1, o2, rfl, l2, _, hq2⟩
      refine ⟨_, rfl, k q _ hq l2 ?_⟩
      rw [hq2, List.length_map, List.take_length]
end
end Pf

set_option Elab.async false
set_option maxRecDepth 100000
set_option linter.all false
set_option maxHeartbeats 4000000
namespace Pf
open PySem PySem.Spec L2 PyProof.Rows
theorem at1 {α : Type} (x y : α) (xs : List α) : atI (x :: y :: xs) 1 = some y := by
  unfold atI ixN
  simp [show (1 : Int).toNat = 1 from rfl]
  rw [if_pos (by omega)]
  rfl
def spDue (op : Pr → Pr → Pr) : Sp := fun vs H Q _ => ∃ (t1 t2 fa ra fb rb : Addr) (os1 os2 ws ns : List Str) (m1 m2 : Str → Str → Lv) (q1 q2 : Str → Lv), vs = [.ref t1, .ref t2] ∧ H t1 = some (.tup [.ref fa, .ref ra]) ∧ H t2 = some (.tup [.ref fb, .ref rb]) ∧ Raw H fa ra os1 ws m1 q1 ∧ Raw H fb rb os2 ws m2 q2 ∧ ns.Perm ws ∧ sortedS ns = true ∧
  ∀ l fc rc H', H l = none → Same H H' → H' l = some (.lst [.ref fc, .ref rc]) → Raw H' fc rc (op (prOf os1 m1 q1) (prOf os2 m2 q2)).os ns (op (prOf os1 m1 q1) (prOf os2 m2 q2)).m (op (prOf os1 m1 q1) (prOf os2 m2 q2)).q → Q (.ref l) H'
section
variable {P : Program} {w : World} {K : PySem.W.Frag} {mg : Str → Option Value} {base : Heap} {aE aR aK : Addr}
abbrev s_L_both : Stmt := top 35
theorem sc_L_both : FnScope ["_law_one", "_law_other", "_law_finals", "_law_outcome"] ["_law_one", "_law_other"] (defScope s_L_both) := ⟨rfl, rfl, rfl, by decide +kernel, rfl, by decide +kernel, by decide +kernel⟩
theorem ok_both {f : Addr} {fd : FuncData} (F : Fun K "_law_both" "_law_both" s_L_both f fd) (B : Bi mg) (C__law_chosen : C8.Cal P w K mg base 2 "_law_chosen" spCh []) : FnOk P w K mg base CX0 3 f fd ["_law_one", "_law_other"] (spDue Pr.meet) := by
  refine F.ok sc_L_both (fun vs H Q E h => ?_) (fun cdv A outer s H vs Q E hr h => ?_)
  · obtain ⟨t1, t2, fa, ra, fb, rb, os1, os2, ws, ns, m1, m2, q1, q2, rfl, _⟩ := h
    rfl
  · obtain ⟨t1, t2, fa, ra, fb, rb, os1, os2, ws, ns, m1, m2, q1, q2, rfl, ht1, ht2, R1, R2, hp, hs, k⟩ := h
    have hu := hu_of hr
    obtain ⟨⟨kvs, hfa, hF⟩, hra, ond1, osb1, wnd, wl, ww⟩ := R1
    obtain ⟨⟨lvs, hfb, hG⟩, hrb, ond2, osb2, _, _, _⟩ := R2
    have ho4 := nodup_len4 ond1 osb1
    refine ⟨_, (pss_cons (ps_set (i := 2) sc_L_both.nd rfl (Or.inl rfl) pe_dnewK)
      (pss_cons (ps_for PassesOwn.never rfl (pi_list (pe_callB (show CallR _ (.builtin "sorted") (rSortedS' w) from cr_sortedSetS rfl) (by rfl) B.sorted (by decide +kernel) (pa_cons (pe_callTy (show CallR _ (.type "set") (rSetD w) from cr_setD) (by rfl) B.set (by decide +kernel) (pa_cons (pe_ix ix_tup (pv 0) pe_int (fun _ _ => rfl)) pa_nil)) pa_nil))) (pg_name (i := 3) sc_L_both.nd rfl (Or.inl rfl))
        (pss_one (ps_if (pt_cmp (pc_din hu (pv 3) (pe_ix ix_tup (pv 1) pe_int (fun _ _ => rfl))))
          (pss_one (ps_dput hu (pv 2) (pv 3) (C8.pe_c C__law_chosen hr (by decide) (by rfl) (pa_cons (pe_dget hu (pe_ix ix_tup (pv 0) pe_int (fun _ _ => rfl)) (pv 3) (fun _ _ => rfl)) (pa_cons (pe_dget hu (pe_ix ix_tup (pv 1) pe_int (fun _ _ => rfl)) (pv 3) (fun _ _ => rfl)) (pa_cons pe_int pa_nil)))) rfl))
          pss_nil)))
      (pss_one (ps_ret (pe_lst (pa_cons (pv 2) (pa_cons (C8.pe_c C__law_chosen hr (by decide) (by rfl) (pa_cons (pe_ix ix_tup (pv 0) pe_int (fun _ _ => rfl)) (pa_cons (pe_ix ix_tup (pv 1) pe_int (fun _ _ => rfl)) (pa_cons pe_int pa_nil)))) pa_nil))))))), ?_⟩
    intro q hq
    have l00 : Same H (upd H q (.dK [])) := same_new hq
    refine ⟨_, rfl, t1, _, _, _, rfl, rfl, SqT.of (l00 _ _ ht1), at0 _ _, fa, kvs, os1, rfl, .inl (l00 _ _ hfa), by rw [← gFin_keys os1 ws m1]; exact hF.keys, ho4, fun p1 hp1 => ?_⟩
    refine ⟨p1, os1, rfl, upd_same, by omega, fun ys p2 hys hsy hp2 => ?_⟩
    obtain rfl : ys = (prOf os1 m1 q1).os := sorted_one hsy (os_sorted _) (hys.trans (prOf_perm ond1 osb1).symm)
    generalize hX : prOf os1 m1 q1 = X at hys k hsy hp2
    generalize hY : prOf os2 m2 q2 = Y at k
    have eXm : X.m = m1 := by rw [← hX]; rfl
    have eXq : X.q = q1 := by rw [← hX]; rfl
    have eYm : Y.m = m2 := by rw [← hY]; rfl
    have eYq : Y.q = q2 := by rw [← hY]; rfl
    have eYp : ∀ o, Y.p o = decide (o ∈ os2) := fun o => by rw [← hY]; rfl
    have e1 : Same (upd H q (.dK [])) (upd (upd (upd H q (.dK [])) p1 (SetSO w p1 os1)) p2 (.lst (X.os.map V.str))) := (same_new hp1).trans (same_new hp2)
    have hp3 : upd (upd (upd H q (.dK [])) p1 (SetSO w p1 os1)) p2 (.lst (X.os.map V.str)) p2 = some (.lst (X.os.map V.str)) := upd_same
    have hq1 := e1 _ _ (upd_same (H := H) (a := q) (o := .dK []))
    generalize upd (upd (upd H q (.dK [])) p1 (SetSO w p1 os1)) p2 (.lst (X.os.map V.str)) = H1 at e1 hp3 hq1
    have l0 : Same H H1 := l00.trans e1
    refine ⟨p2, rfl, ⟨_, SqL.of hp3⟩, ?_⟩
    refine for_it (walk_list (xs := X.os.map V.str)) (fun i σ' H' => ∃ o1 kvs', σ' = [some (.ref t1), some (.ref t2), some (.ref q), o1] ∧ Same H H' ∧ H' p2 = some (.lst (X.os.map V.str)) ∧ H' q = some (.dK kvs') ∧ FinX q H' kvs' (gFin ((X.os.take i).filter Y.p) ns (X.meet Y).m)) ⟨none, [], rfl, l0, hp3, hq1, .nil⟩ (fun i σ' H' _ ⟨_, _, _, _, h, _⟩ => SqL.of h) ?_ ?_
    · rintro i x σ' H2 H2' hi ⟨o1, kvs', rfl, l2, hp2', hq2, hX2⟩ ⟨rfl, hx⟩
      have hi' : i < X.os.length := by rwa [List.length_map] at hi
      rw [List.getElem?_map, List.getElem?_eq_getElem hi'] at hx
      obtain rfl := Option.some.inj hx
      have hm : X.os[i] ∈ os1 := hys.subset (List.getElem_mem hi')
      have ht := take_at hi'
      obtain ⟨ba, hva, hba⟩ := gFin_val hF hm
      refine ⟨_, rfl, _, rfl, t2, _, _, _, rfl, rfl, SqT.of (l2 _ _ ht2), at0 _ _, fb, _, rfl, .inl ⟨lvs, Sum.inr X.os[i], .inl (l2 _ _ hfb), rfl, rfl⟩, ?_⟩
      by_cases hp2m : X.os[i] ∈ os2
      · obtain ⟨bc, hvc, hbc⟩ := gFin_val hG hp2m
        have hyp : Y.p X.os[i] = true := by rw [eYp]; exact decide_eq_true hp2m
        rw [hvc]
        refine ⟨_, rfl, iteT ?_⟩
        refine ⟨_, rfl, t1, _, _, _, rfl, rfl, SqT.of (l2 _ _ ht1), at0 _ _, _, rfl, fa, _, rfl, .inl ⟨kvs, Sum.inr X.os[i], .inl (l2 _ _ hfa), rfl, hva.symm⟩, _, rfl, t2, _, _, _, rfl, rfl, SqT.of (l2 _ _ ht2), at0 _ _, _, rfl, fb, _, rfl, .inl ⟨lvs, Sum.inr X.os[i], .inl (l2 _ _ hfb), rfl, hvc.symm⟩, ?_⟩
        refine ⟨ba, bc, 1, lvLo, eL, ws, ns, _, _, rfl, .inl ⟨rfl, rfl⟩, .inl rfl, l2 _ _ hba, l2 _ _ hbc, wnd, by omega, hp, hs, fun z H3 hz e3 hz3 => ?_⟩
        have hkl' : kvs'.length ≤ 4 := by
          have := hX2.kv.len
          rw [this]
          unfold gFin
          rw [List.length_map]
          refine Nat.le_trans (List.length_filter_le _ _) ?_
          rw [List.length_take]
          have := os_len X
          omega
        have hza : z ≠ q := fun e => by rw [e, hq2] at hz; cases hz
        refine ⟨_, rfl, _, rfl, q, _, rfl, DPut.k (k := Sum.inr X.os[i]) (e3 _ _ hq2) (sz_lt (by omega)), ?_⟩
        refine ⟨_, _, rfl, same_chg (l2.trans e3) hq, ?_, upd_same, ?_⟩
        · rw [upd_ne (ne_of hp2' hq2 (by intro z; cases z))]
          exact e3 _ _ hp2'
        have ef : (X.os.take (i + 1)).filter Y.p = (X.os.take i).filter Y.p ++ [X.os[i]] := by
          rw [ht, List.filter_append, List.filter_cons_of_pos hyp, List.filter_nil]
        rw [ef, putK_fresh _ _ _ (by
          rw [hX2.keys, gFin_keys]
          intro q
          obtain ⟨o, ho, e⟩ := List.mem_map.mp q
          rw [Sum.inr.inj e] at ho
          exact nodup_at (os_nodup X) hi' (List.mem_filter.mp ho).1)]
        unfold gFin
        rw [List.map_append]
        refine paired_snoc (hX2.same e3).chg ⟨rfl, z, rfl, hza, ?_⟩
        rw [upd_ne hza, hz3]
        show some (HO.dK (rowKV (cRow eL ns fun n => lvLo (m1 X.os[i] n) (m2 X.os[i] n)))) = some (.dK (rowKV (cRow eL ns ((X.meet Y).m X.os[i]))))
        rw [← eXm, ← eYm]
        rfl
      · have hyp : ¬ Y.p X.os[i] = true := by rw [eYp]; simp [hp2m]
        rw [gFin_none hG hp2m]
        refine ⟨_, rfl, iteF ?_⟩
        refine ⟨_, kvs', rfl, l2, hp2', hq2, ?_⟩
        have ef : (X.os.take (i + 1)).filter Y.p = (X.os.take i).filter Y.p := by
          rw [ht, List.filter_append, List.filter_cons_of_neg hyp, List.filter_nil, List.append_nil]
        rw [ef]
        exact hX2
    · rintro σ' H2 ⟨o1, kvs', rfl, l2, _, hq2, hX2⟩
      rw [List.length_map, List.take_length] at hX2
      refine ⟨_, rfl, _, rfl, t1, _, _, _, rfl, rfl, SqT.of (l2 _ _ ht1), at1 _ _ _, _, rfl, t2, _, _, _, rfl, rfl, SqT.of (l2 _ _ ht2), at1 _ _ _, ?_⟩
      refine ⟨ra, rb, 1, lvLo, rL, ws, ns, _, _, rfl, .inl ⟨rfl, rfl⟩, .inr rfl, l2 _ _ hra, l2 _ _ hrb, wnd, by omega, hp, hs, fun z H3 hz e3 hz3 => ?_⟩
      refine ⟨by show 2 ≤ sizeLine; decide, fun l hl => ?_⟩
      have l3 := l2.trans e3
      have e4 := same_new (o := .lst [.ref q, .ref z]) hl
      have hln : H l = none := by
        cases hh : H l with
        | none => rfl
        | some u => rw [l3 _ _ hh] at hl; cases hl
      refine k l q z _ hln (l3.trans e4) upd_same ⟨⟨kvs', e4 _ _ (e3 _ _ hq2), ?_⟩, ?_, os_nodup _, fun o ho => os_outs ho, hp.symm.nodup wnd, by rw [hp.length_eq]; exact wl, fun n hn => ww n (hp.mem_iff.mp hn)⟩
      · have eo : (X.meet Y).os = X.os.filter Y.p := by
          unfold Pr.os
          rw [List.filter_filter]
          exact List.filter_congr fun o _ => by show (X.p o && Y.p o) = _; rw [Bool.and_comm]
        rw [eo]
        exact ((hX2.same e3).same e4).kv
      · have : (X.meet Y).q = fun n => lvLo (q1 n) (q2 n) := by
          rw [← eXq, ← eYq]
          rfl
        rw [this]
        exact e4 _ _ hz3
end
end Pf

set_option Elab.async false
set_option maxRecDepth 100000
set_option linter.all false
set_option maxHeartbeats 4000000
namespace Pf
open PySem PySem.Spec L2 PyProof.Rows
theorem hi_self (a : Lv) : lvHi a a = a := by revert a; decide +kernel
section
variable {P : Program} {w : World} {K : PySem.W.Frag} {mg : Str → Option Value} {base : Heap} {aE aR aK : Addr}
abbrev s_L_either : Stmt := top 36
theorem sc_L_either : FnScope ["_law_one", "_law_other", "_law_finals", "_law_outcome", "_law_row"] ["_law_one", "_law_other"] (defScope s_L_either) := ⟨rfl, rfl, rfl, by decide +kernel, rfl, by decide +kernel, by decide +kernel⟩
theorem ok_either {f : Addr} {fd : FuncData} (F : Fun K "_law_either" "_law_either" s_L_either f fd) (B : Bi mg) (C__law_chosen : C8.Cal P w K mg base 2 "_law_chosen" spCh []) : FnOk P w K mg base CX0 3 f fd ["_law_one", "_law_other"] (spDue Pr.join) := by
  refine F.ok sc_L_either (fun vs H Q E h => ?_) (fun cdv A outer s H vs Q E hr h => ?_)
  · obtain ⟨t1, t2, fa, ra, fb, rb, os1, os2, ws, ns, m1, m2, q1, q2, rfl, _⟩ := h
    rfl
  · obtain ⟨t1, t2, fa, ra, fb, rb, os1, os2, ws, ns, m1, m2, q1, q2, rfl, ht1, ht2, R1, R2, hp, hs, k⟩ := h
    have hu := hu_of hr
    obtain ⟨⟨kvs, hfa, hF⟩, hra, ond1, osb1, wnd, wl, ww⟩ := R1
    obtain ⟨⟨lvs, hfb, hG⟩, hrb, ond2, osb2, _, _, _⟩ := R2
    have ho4 := nodup_len4 ond1 osb1
    have ho4' := nodup_len4 ond2 osb2
    refine ⟨_, (pss_cons (ps_set (i := 2) sc_L_either.nd rfl (Or.inl rfl) pe_dnewK)
      (pss_cons (ps_for PassesOwn.never rfl (pi_list (pe_callB (show CallR _ (.builtin "sorted") (rSortedS' w) from cr_sortedSetS rfl) (by rfl) B.sorted (by decide +kernel) (pa_cons (pe_callTy (show CallR _ (.type "set") (rSetX K w) from cr_setX rfl) (by rfl) B.set (by decide +kernel) (pa_cons (pe_op op_cat (pe_callTy (call_listD rfl) (by rfl) B.list (by decide +kernel) (pa_cons (pe_ix ix_tup (pv 0) pe_int (fun _ _ => rfl)) pa_nil)) (pe_callTy (call_listD rfl) (by rfl) B.list (by decide +kernel) (pa_cons (pe_ix ix_tup (pv 1) pe_int (fun _ _ => rfl)) pa_nil))) pa_nil)) pa_nil))) (pg_name (i := 3) sc_L_either.nd rfl (Or.inl rfl))
        (pss_cons (ps_set (i := 4) sc_L_either.nd rfl (Or.inl rfl) (pe_dget2 hu (pe_ix ix_tup (pv 0) pe_int (fun _ _ => rfl)) (pv 3) (pe_dget2 hu (pe_ix ix_tup (pv 1) pe_int (fun _ _ => rfl)) (pv 3) pe_non ⟨rfl, rfl, rfl, rfl⟩) ⟨rfl, rfl, rfl, rfl⟩))
        (pss_one (ps_dput hu (pv 2) (pv 3) (C8.pe_c C__law_chosen hr (by decide) (by rfl) (pa_cons (pv 4) (pa_cons (pe_dget2 hu (pe_ix ix_tup (pv 1) pe_int (fun _ _ => rfl)) (pv 3) (pv 4) ⟨rfl, rfl, rfl, rfl⟩) (pa_cons (pe_un un_neg pe_int) pa_nil)))) rfl))))
      (pss_one (ps_ret (pe_lst (pa_cons (pv 2) (pa_cons (C8.pe_c C__law_chosen hr (by decide) (by rfl) (pa_cons (pe_ix ix_tup (pv 0) pe_int (fun _ _ => rfl)) (pa_cons (pe_ix ix_tup (pv 1) pe_int (fun _ _ => rfl)) (pa_cons (pe_un un_neg pe_int) pa_nil)))) pa_nil))))))), ?_⟩
    intro q hq
    have l00 : Same H (upd H q (.dK [])) := same_new hq
    have hq0 : upd H q (.dK []) q = some (.dK []) := upd_same
    show tSeq _ _ _ _ (upd H q (.dK []))
    generalize upd H q (.dK []) = H0 at l00 hq0
    have keysF : ∀ {kvs : List (Key × V)} {os : List Str} {m : Str → Str → Lv}, FinKV H kvs (gFin os ws m) → (kvs.map fun kv => kV kv.1) = os.map V.str := fun {kvs os m} h => by
      have e := h.keys
      rw [gFin_keys] at e
      have e2 := congrArg (List.map kV) e
      rw [List.map_map, List.map_map] at e2
      exact e2
    refine ⟨_, rfl, t1, _, _, _, rfl, rfl, SqT.of (l00 _ _ ht1), at0 _ _, fa, kvs, rfl, .inl (l00 _ _ hfa), fun c1 hc1 => ?_⟩
    have e1 := same_new (o := .lst (kvs.map fun kv => kV kv.1)) hc1
    refine ⟨_, rfl, t2, _, _, _, rfl, rfl, SqT.of (e1 _ _ (l00 _ _ ht2)), at0 _ _, fb, lvs, rfl, .inl (e1 _ _ (l00 _ _ hfb)), fun c2 hc2 => ?_⟩
    have e2 := same_new (o := .lst (lvs.map fun kv => kV kv.1)) hc2
    refine ⟨c1, c2, _, _, rfl, rfl, e2 _ _ upd_same, upd_same, ?_, fun c3 hc3 => ?_⟩
    · rw [List.length_map, List.length_map, hF.len, hG.len]
      unfold gFin
      rw [List.length_map, List.length_map]
      exact sz_le (by omega)
    have e3 := same_new (o := .lst ((kvs.map fun kv => kV kv.1) ++ (lvs.map fun kv => kV kv.1))) hc3
    have hall : ((kvs.map fun kv => kV kv.1) ++ (lvs.map fun kv => kV kv.1)) = (os1 ++ os2).map V.str := by rw [keysF hF, keysF hG, List.map_append]
    refine ⟨c3, os1 ++ os2, rfl, SqL.of (by rw [upd_same, hall]), by rw [List.length_append]; omega, fun p1 ks hp1 knd kmem klen => ?_⟩
    have e4 := same_new (o := SetSO w p1 ks) hp1
    refine ⟨p1, ks, rfl, upd_same, by rw [List.length_append] at klen; omega, fun ys p2 hys hsy hp2 => ?_⟩
    generalize hX : prOf os1 m1 q1 = X at k
    generalize hY : prOf os2 m2 q2 = Y at k
    have eXm : X.m = m1 := by rw [← hX]; rfl
    have eXq : X.q = q1 := by rw [← hX]; rfl
    have eYm : Y.m = m2 := by rw [← hY]; rfl
    have eYq : Y.q = q2 := by rw [← hY]; rfl
    have eXp : ∀ o, X.p o = decide (o ∈ os1) := fun o => by rw [← hX]; rfl
    have eYp : ∀ o, Y.p o = decide (o ∈ os2) := fun o => by rw [← hY]; rfl
    have memZ : ∀ o, o ∈ (X.join Y).os ↔ o ∈ os1 ++ os2 := fun o => by
      unfold Pr.os
      rw [List.mem_filter, List.mem_append]
      show o ∈ outs ∧ (X.p o || Y.p o) = true ↔ _
      rw [Bool.or_eq_true, eXp, eYp, decide_eq_true_iff, decide_eq_true_iff]
      constructor
      · exact fun h => h.2
      · rintro (h | h)
        · exact ⟨osb1 o h, .inl h⟩
        · exact ⟨osb2 o h, .inr h⟩
    obtain rfl : ys = (X.join Y).os := sorted_one hsy (os_sorted _) (hys.trans (perm_of_mem knd (os_nodup _) fun x => by rw [kmem, memZ]))
    have e5 := e1.trans (e2.trans (e3.trans (e4.trans (same_new (o := .lst ((X.join Y).os.map V.str)) hp2))))
    have hp3 : upd (upd (upd (upd (upd H0 c1 (.lst (kvs.map fun kv => kV kv.1))) c2 (.lst (lvs.map fun kv => kV kv.1))) c3 (.lst ((kvs.map fun kv => kV kv.1) ++ (lvs.map fun kv => kV kv.1)))) p1 (SetSO w p1 ks)) p2 (.lst ((X.join Y).os.map V.str)) p2 = some (.lst ((X.join Y).os.map V.str)) := upd_same
    have hq1 := e5 _ _ hq0
    generalize upd (upd (upd (upd (upd H0 c1 (.lst (kvs.map fun kv => kV kv.1))) c2 (.lst (lvs.map fun kv => kV kv.1))) c3 (.lst ((kvs.map fun kv => kV kv.1) ++ (lvs.map fun kv => kV kv.1)))) p1 (SetSO w p1 ks)) p2 (.lst ((X.join Y).os.map V.str)) = H1 at e5 hp3 hq1
    have l0 : Same H H1 := l00.trans e5
    refine ⟨p2, rfl, ⟨_, SqL.of hp3⟩, ?_⟩
    refine for_it (walk_list (xs := (X.join Y).os.map V.str)) (fun i σ' H' => ∃ o1 o2 kvs', σ' = [some (.ref t1), some (.ref t2), some (.ref q), o1, o2] ∧ Same H H' ∧ H' p2 = some (.lst ((X.join Y).os.map V.str)) ∧ H' q = some (.dK kvs') ∧ FinX q H' kvs' (gFin ((X.join Y).os.take i) ns (X.join Y).m)) ⟨none, none, [], rfl, l0, hp3, hq1, .nil⟩ (fun i σ' H' _ ⟨_, _, _, _, _, h, _⟩ => SqL.of h) ?_ ?_
    · rintro i x σ' H2 H2' hi ⟨o1, o2, kvs', rfl, l2, hp2', hq2, hX2⟩ ⟨rfl, hx⟩
      have hi' : i < (X.join Y).os.length := by rwa [List.length_map] at hi
      rw [List.getElem?_map, List.getElem?_eq_getElem hi'] at hx
      obtain rfl := Option.some.inj hx
      generalize ho : (X.join Y).os[i] = o
      have hm : o ∈ os1 ++ os2 := by rw [← ho, ← memZ]; exact List.getElem_mem hi'
      have ht := take_at hi'
      rw [ho] at ht
      have hno : o ∉ (X.join Y).os.take i := by rw [← ho]; exact nodup_at (os_nodup _) hi'
      have dA : DGet H2' fa (.str o) (valV kvs (Sum.inr o)) := .inl ⟨kvs, Sum.inr o, .inl (l2 _ _ hfa), rfl, rfl⟩
      have dB : DGet H2' fb (.str o) (valV lvs (Sum.inr o)) := .inl ⟨lvs, Sum.inr o, .inl (l2 _ _ hfb), rfl, rfl⟩
      have isA : IsD H2' fa := .inl ⟨kvs, .inl (l2 _ _ hfa)⟩
      have isB : IsD H2' fb := .inl ⟨lvs, .inl (l2 _ _ hfb)⟩
      refine ⟨_, rfl, t1, _, _, _, rfl, rfl, SqT.of (l2 _ _ ht1), at0 _ _, fa, rfl, isA, _, rfl, _, rfl, t2, _, _, _, rfl, rfl, SqT.of (l2 _ _ ht2), at0 _ _, fb, rfl, isB, _, rfl, _, dB, _, dA, ?_⟩
      obtain ⟨ba, bc, g1, g2, hba, hbc, ev1, ev2, eg⟩ : ∃ ba bc g1 g2, H ba = some (.dK (rowKV (cRow eL ws g1))) ∧ H bc = some (.dK (rowKV (cRow eL ws g2))) ∧ (valV kvs (Sum.inr o)).getD ((valV lvs (Sum.inr o)).getD .non) = .ref ba ∧ (valV lvs (Sum.inr o)).getD (.ref ba) = .ref bc ∧ (fun n => lvHi (g1 n) (g2 n)) = (X.join Y).m o := by
        by_cases h1 : o ∈ os1
        · obtain ⟨ba, hva, hba⟩ := gFin_val hF h1
          have hxp : X.p o = true := by rw [eXp]; exact decide_eq_true h1
          by_cases h2 : o ∈ os2
          · obtain ⟨bc, hvc, hbc⟩ := gFin_val hG h2
            have hyp : Y.p o = true := by rw [eYp]; exact decide_eq_true h2
            exact ⟨ba, bc, _, _, hba, hbc, by rw [hva]; rfl, by rw [hvc]; rfl, by funext n; simp [Pr.join, hxp, hyp, eXm, eYm]⟩
          · have hyp : Y.p o = false := by rw [eYp]; exact decide_eq_false h2
            exact ⟨ba, ba, _, _, hba, hba, by rw [hva]; rfl, by rw [gFin_none hG h2]; rfl, by funext n; simp [Pr.join, hxp, hyp, eXm]⟩
        · have hxp : X.p o = false := by rw [eXp]; exact decide_eq_false h1
          have h2 : o ∈ os2 := by
            rcases List.mem_append.mp hm with h | h
            · exact absurd h h1
            · exact h
          obtain ⟨bc, hvc, hbc⟩ := gFin_val hG h2
          exact ⟨bc, bc, _, _, hbc, hbc, by rw [gFin_none hF h1, hvc]; rfl, by rw [hvc]; rfl, by funext n; simp [Pr.join, hxp, eYm, hi_self]⟩
      rw [ev1]
      refine ⟨_, rfl, _, rfl, t2, _, _, _, rfl, rfl, SqT.of (l2 _ _ ht2), at0 _ _, fb, rfl, isB, _, rfl, _, rfl, _, dB, _, rfl, ?_⟩
      rw [ev2]
      refine ⟨ba, bc, -1, lvHi, eL, ws, ns, g1, g2, rfl, .inr ⟨rfl, rfl⟩, .inl rfl, l2 _ _ hba, l2 _ _ hbc, wnd, by omega, hp, hs, fun z H3 hz e3 hz3 => ?_⟩
      rw [eg] at hz3
      have hkl' : kvs'.length ≤ 4 := by
        have := hX2.kv.len
        rw [this]
        unfold gFin
        rw [List.length_map, List.length_take]
        have := os_len (X.join Y)
        omega
      have hza : z ≠ q := fun e => by rw [e, hq2] at hz; cases hz
      refine ⟨_, rfl, _, rfl, q, _, rfl, DPut.k (k := Sum.inr o) (e3 _ _ hq2) (sz_lt (by omega)), ?_⟩
      refine ⟨_, _, _, rfl, same_chg (l2.trans e3) hq, ?_, upd_same, ?_⟩
      · rw [upd_ne (ne_of hp2' hq2 (by intro z; cases z))]
        exact e3 _ _ hp2'
      rw [ht, putK_fresh _ _ _ (by
        rw [hX2.keys, gFin_keys]
        intro q
        obtain ⟨o', ho', e⟩ := List.mem_map.mp q
        rw [Sum.inr.inj e] at ho'
        exact hno ho')]
      unfold gFin
      rw [List.map_append]
      refine paired_snoc (hX2.same e3).chg ⟨rfl, z, rfl, hza, ?_⟩
      rw [upd_ne hza]
      exact hz3
    · rintro σ' H2 ⟨o1, o2, kvs', rfl, l2, _, hq2, hX2⟩
      rw [List.length_map, List.take_length] at hX2
      refine ⟨_, rfl, _, rfl, t1, _, _, _, rfl, rfl, SqT.of (l2 _ _ ht1), at1 _ _ _, _, rfl, t2, _, _, _, rfl, rfl, SqT.of (l2 _ _ ht2), at1 _ _ _, _, rfl, ?_⟩
      refine ⟨ra, rb, -1, lvHi, rL, ws, ns, _, _, rfl, .inr ⟨rfl, rfl⟩, .inr rfl, l2 _ _ hra, l2 _ _ hrb, wnd, by omega, hp, hs, fun z H3 hz e3 hz3 => ?_⟩
      refine ⟨by show 2 ≤ sizeLine; decide, fun l hl => ?_⟩
      have l3 := l2.trans e3
      have e4 := same_new (o := .lst [.ref q, .ref z]) hl
      have hln : H l = none := by
        cases hh : H l with
        | none => rfl
        | some u => rw [l3 _ _ hh] at hl; cases hl
      refine k l q z _ hln (l3.trans e4) upd_same ⟨⟨kvs', e4 _ _ (e3 _ _ hq2), ((hX2.same e3).same e4).kv⟩, ?_, os_nodup _, fun o ho => os_outs ho, hp.symm.nodup wnd, by rw [hp.length_eq]; exact wl, fun n hn => ww n (hp.mem_iff.mp hn)⟩
      have : (X.join Y).q = fun n => lvHi (q1 n) (q2 n) := by
        rw [← eXq, ← eYq]
        rfl
      rw [this]
      exact e4 _ _ hz3
end
end Pf

set_option Elab.async false
set_option maxRecDepth 100000
set_option linter.all false
set_option maxHeartbeats 4000000
namespace Pf
open PySem PySem.Spec L2 PyProof.Rows
/-- a property of the class at C, with its promise -/
structure Prp (P : Program) (w : World) (K : PySem.W.Frag) (mg : Str → Option Value) (base : Heap) (k : Nat) (C : Addr) (f : Str) (sp : Sp) : Prop where
  ex : ∃ (p g : Addr) (fd : FuncData) (ps : List Str), Cls K C ∧ PropOf K C f p g ∧ FnOk P w K mg base CX0 k g fd ps sp ∧ Binds K fd ps []
theorem pe_pr {X : Cx} {k j : Nat} {C : Addr} {f : Str} {sp : Sp} {e : Expr} {ta : TE} {pos : Pos} (c : Prp X.prog X.w X.K X.mg X.base k C f sp) (hr : Room j X.A) (hk : k + 1 ≤ j) (he : PE X e ta) (hab : attributeBase e f X.env (eval e X.env) = eval e X.env) :
    PE X (.Attribute e f pos) (tProp C sp [] C8.E0 ta) := by
  obtain ⟨p, g, fd, ps, hc, hp, F, b⟩ := c.ex
  exact pe_prop he hc hp F (hr.mono hk) b .nil C8.pass0 hab
/-! ### what is shown -/
def pD (x : Str × Str) : PyData := .tuple [.str x.1, .str x.2]
def rD (r : Row) : PyData := .list (r.map pD)
def fD (os ns : List Str) (m : Str → Str → Lv) : PyData := .list (os.map fun o => .tuple [.str o, rD (cRow eL ns (m o))])
/-- a list of pairs of texts -/
def RowAt (H : Hp) (l : Addr) (r : Row) : Prop := ∃ ts : List Addr, H l = some (.lst (ts.map V.ref)) ∧ Paired (fun a (x : Str × Str) => H a = some (.tup [.str x.1, .str x.2])) ts r
theorem RowAt.same {H H' : Hp} {l : Addr} {r : Row} (h : RowAt H l r) (e : Same H H') : RowAt H' l r := by
  obtain ⟨ts, h1, h2⟩ := h
  exact ⟨ts, e _ _ h1, Paired.mapP h2 fun _ _ q => e _ _ q⟩
theorem RowAt.dp {K : PySem.W.Frag} {H : Hp} {l : Addr} {r : Row} (h : RowAt H l r) : Dp K H (.ref l) (rD r) := by
  obtain ⟨ts, h1, h2⟩ := h
  refine .lst (SqL.of h1) ?_
  clear h1
  induction h2 with
  | nil => exact .nil
  | cons q _ ih => exact .cons (.tup (SqT.of q) (.cons (.str _) (.cons (.str _) .nil))) ih
def ItemAt (D : Addr) (H : Hp) (v : V) (o : Str) (r : Row) : Prop := ∃ t l, v = .ref t ∧ l ≠ D ∧ H t = some (.tup [.str o, .ref l]) ∧ RowAt H l r
theorem ItemAt.same {D : Addr} {H H' : Hp} {v : V} {o : Str} {r : Row} (h : ItemAt D H v o r) (e : Same H H') : ItemAt D H' v o r := by
  obtain ⟨t, l, h1, h2, h3, h4⟩ := h
  exact ⟨t, l, h1, h2, e _ _ h3, h4.same e⟩
theorem ItemAt.chg {D : Addr} {H : Hp} {v : V} {o : Str} {r : Row} {zs : List V} {u : HO} (h : ItemAt D H v o r) (hD : H D = some (.lst zs)) : ItemAt D (upd H D u) v o r := by
  obtain ⟨t, l, h1, h2, h3, ts, h4, h5⟩ := h
  refine ⟨t, l, h1, h2, by rw [upd_ne (ne_of h3 hD (by intro z; cases z))]; exact h3, ts, by rw [upd_ne h2]; exact h4, Paired.mapP h5 fun a x q => by rw [upd_ne (ne_of q hD (by intro z; cases z))]; exact q⟩
def ItemsAt (D : Addr) (H : Hp) (ns : List Str) (m : Str → Str → Lv) : List V → List Str → Prop := Paired fun v o => ItemAt D H v o (cRow eL ns (m o))
theorem items_dp {K : PySem.W.Frag} {D : Addr} {H : Hp} {ns : List Str} {m : Str → Str → Lv} {ys : List V} {os : List Str} (h : ItemsAt D H ns m ys os) (hD : H D = some (.lst ys)) : Dp K H (.ref D) (fD os ns m) := by
  refine .lst (SqL.of hD) ?_
  clear hD
  induction h with
  | nil => exact .nil
  | cons q _ ih =>
    obtain ⟨t, l, rfl, h2, h3, h4⟩ := q
    exact .cons (.tup (SqT.of h3) (.cons (.str _) (.cons h4.dp .nil))) ih
theorem row_sorted {E : Lv → Str} {ws ns : List Str} {f : Str → Lv} {r : Row} (hr : r.Perm (cRow E ws f)) (hs : (r.map Prod.fst).Pairwise sLeK) (hp : ns.Perm ws) (hn : sortedS ns = true) : r = cRow E ns f := by
  have h1 : (r.map Prod.fst) = ns := by
    refine List.Perm.eq_of_pairwise (fun a b _ _ h1 h2 => sLe_antisymm h1 h2) (show List.Pairwise sLe _ from hs) (sorted_pw ns hn) ?_
    have := hr.map Prod.fst
    rw [cRow_keys] at this
    exact this.trans hp.symm
  have h2 : r = (r.map Prod.fst).map fun n => (n, E (f n)) := by
    rw [List.map_map]
    conv => lhs; rw [← List.map_id r]
    refine List.map_congr_left fun x hx => ?_
    obtain ⟨n, hn', e⟩ := List.mem_map.mp (hr.mem_iff.mp hx)
    show x = (x.1, E (f x.1))
    rw [← e]
  rw [h2, h1]
  rfl
/-! ### sizes of what is shown -/
structure Dt (n B : Nat) (d : PyData) : Prop where
  sh : d.showable = true
  nd : d.hasDict = false
  dp : d.depth ≤ n
  ls : d.leavesShort 8 = true
  bk : d.bulk ≤ B
theorem Dt.mono {n B n' B' : Nat} {d : PyData} (h : Dt n B d) (h1 : n ≤ n') (h2 : B ≤ B') : Dt n' B' d := ⟨h.sh, h.nd, Nat.le_trans h.dp h1, h.ls, Nat.le_trans h.bk h2⟩
theorem Dt.len {n B : Nat} {d : PyData} (h : Dt n B d) (hB : B ≤ 1000) : d.shown.length ≤ sizeLine := by
  have := PyData.shown_le_bulk 8 (Nat.le_refl _) d h.ls
  have h2 := h.bk
  exact sz_le (by omega)
theorem dt_str {x : Str} {B : Nat} (h : ∀ c ∈ x.cps.toList, c < 16 ^ 8) (hl : x.length ≤ B) : Dt 0 B (.str x) := by
  refine ⟨by rw [PyData.showable], by rw [PyData.hasDict], by rw [PyData.depth]; exact Nat.le_refl _, ?_, by rw [PyData.bulk]; exact hl⟩
  rw [PyData.leavesShort, List.all_eq_true]
  intro c hc
  exact decide_eq_true (h c hc)
theorem dt_all {n B : Nat} : ∀ {ds : List PyData}, (∀ d ∈ ds, Dt n B d) → PyData.showableAll ds = true ∧ PyData.hasDictAll ds = false ∧ PyData.depthAll ds ≤ n ∧ PyData.leavesShortAll 8 ds = true ∧ PyData.bulkAll ds ≤ ds.length * (B + 1)
  | [], _ => ⟨by rw [PyData.showableAll], by rw [PyData.hasDictAll], by rw [PyData.depthAll]; exact Nat.zero_le _, by rw [PyData.leavesShortAll], by rw [PyData.bulkAll]; exact Nat.zero_le _⟩
  | d :: ds, h => by
    have h1 := h d List.mem_cons_self
    obtain ⟨a1, a2, a3, a4, a5⟩ := dt_all fun e he => h e (List.mem_cons_of_mem _ he)
    refine ⟨by rw [PyData.showableAll, h1.sh, a1]; rfl, by rw [PyData.hasDictAll, h1.nd, a2]; rfl, by rw [PyData.depthAll]; exact Nat.max_le.mpr ⟨h1.dp, a3⟩, by rw [PyData.leavesShortAll, h1.ls, a4]; rfl, ?_⟩
    rw [PyData.bulkAll, List.length_cons, Nat.succ_mul]
    have := h1.bk
    omega
theorem dt_list {n B N : Nat} {ds : List PyData} (h : ∀ d ∈ ds, Dt n B d) (hN : ds.length ≤ N) : Dt (n + 1) (N * (B + 1)) (.list ds) := by
  obtain ⟨a1, a2, a3, a4, a5⟩ := dt_all h
  exact ⟨by rw [PyData.showable]; exact a1, by rw [PyData.hasDict]; exact a2, by rw [PyData.depth]; omega, by rw [PyData.leavesShort]; exact a4, by rw [PyData.bulk]; exact Nat.le_trans a5 (Nat.mul_le_mul_right _ hN)⟩
theorem dt_tuple {n B N : Nat} {ds : List PyData} (h : ∀ d ∈ ds, Dt n B d) (hN : ds.length ≤ N) : Dt (n + 1) (N * (B + 1)) (.tuple ds) := by
  obtain ⟨a1, a2, a3, a4, a5⟩ := dt_all h
  exact ⟨by rw [PyData.showable]; exact a1, by rw [PyData.hasDict]; exact a2, by rw [PyData.depth]; omega, by rw [PyData.leavesShort]; exact a4, by rw [PyData.bulk]; exact Nat.le_trans a5 (Nat.mul_le_mul_right _ hN)⟩
theorem Lt_small : ∀ c ∈ Lt.cps.toList, c < 16 ^ 8 := by decide +kernel
theorem dt_word {n : Str} (h : isWord n = true) : Dt 0 10 (.str n) := by
  unfold isWord at h
  rw [Bool.and_eq_true, Bool.and_eq_true, List.all_eq_true] at h
  refine dt_str (fun c hc => Lt_small c (of_decide_eq_true (h.2 c hc))) ?_
  have := of_decide_eq_true h.1.2
  omega
theorem outs_small : ∀ o ∈ outs, (∀ c ∈ o.cps.toList, c < 16 ^ 8) ∧ o.length ≤ 10 := by decide +kernel
theorem ends_small : ∀ o ∈ ends, (∀ c ∈ o.cps.toList, c < 16 ^ 8) ∧ o.length ≤ 10 := by decide +kernel
theorem reads_small : ∀ o ∈ reads, (∀ c ∈ o.cps.toList, c < 16 ^ 8) ∧ o.length ≤ 10 := by decide +kernel
theorem IsL.small {E : Lv → Str} (h : IsL E) (i : Lv) : Dt 0 10 (.str (E i)) := by
  rcases h with rfl | rfl
  · exact dt_str (ends_small _ (eL_mem i)).1 (ends_small _ (eL_mem i)).2
  · exact dt_str (reads_small _ (rL_mem i)).1 (reads_small _ (rL_mem i)).2
theorem dt_row {E : Lv → Str} (hE : IsL E) {ns : List Str} (hN : NsOk ns) (f : Str → Lv) : Dt 2 69 (rD (cRow E ns f)) := by
  have h1 : ∀ d ∈ (cRow E ns f).map pD, Dt 1 22 d := fun d hd => by
    obtain ⟨x, hx, rfl⟩ := List.mem_map.mp hd
    obtain ⟨hw, i, hi⟩ := cRow_word hx
    refine dt_tuple (N := 2) (B := 10) (n := 0) (fun d hd => ?_) (Nat.le_refl _)
    simp only [List.mem_cons, List.not_mem_nil, or_false] at hd
    rcases hd with rfl | rfl
    · exact dt_word (hN.ww _ hw)
    · rw [hi]; exact hE.small i
  exact dt_list (N := 3) h1 (by rw [List.length_map, cRow_len]; exact hN.len)
theorem dt_fin {os ns : List Str} (hN : NsOk ns) (m : Str → Str → Lv) (ho : ∀ o ∈ os, o ∈ outs) (h4 : os.length ≤ 4) : Dt 4 564 (fD os ns m) := by
  have h1 : ∀ d ∈ os.map (fun o => PyData.tuple [.str o, rD (cRow eL ns (m o))]), Dt 3 140 d := fun d hd => by
    obtain ⟨o, hoo, rfl⟩ := List.mem_map.mp hd
    refine dt_tuple (N := 2) (B := 69) (n := 2) (fun d hd => ?_) (Nat.le_refl _)
    simp only [List.mem_cons, List.not_mem_nil, or_false] at hd
    rcases hd with rfl | rfl
    · exact (dt_str (outs_small _ (ho _ hoo)).1 (outs_small _ (ho _ hoo)).2).mono (by decide) (by decide)
    · exact dt_row (.inl rfl) hN _
  exact dt_list (N := 4) h1 (by rw [List.length_map]; exact h4)
theorem dt_names {ns : List Str} (hN : NsOk ns) : Dt 1 33 (.tuple (ns.map PyData.str)) := by
  refine dt_tuple (N := 3) (B := 10) (n := 0) (fun d hd => ?_) (by rw [List.length_map]; exact hN.len)
  obtain ⟨n, hn, rfl⟩ := List.mem_map.mp hd
  exact dt_word (hN.ww n hn)
/-! ### the pieces of _law_shows -/
theorem due0 {K : PySem.W.Frag} {H : Hp} {d fa ra : Addr} {Q : VK} (hd : H d = some (.lst [.ref fa, .ref ra]) ∨ H d = some (.tup [.ref fa, .ref ra])) (h : Q (.ref fa) H) : rIx K (.ref d) (.int 0) H Q := by
  rcases hd with hd | hd
  · exact .inl ⟨d, _, _, _, rfl, rfl, SqL.of hd, at0 _ _, h⟩
  · exact .inr (.inl ⟨d, _, _, _, rfl, rfl, SqT.of hd, at0 _ _, h⟩)
theorem due1 {K : PySem.W.Frag} {H : Hp} {d fa ra : Addr} {Q : VK} (hd : H d = some (.lst [.ref fa, .ref ra]) ∨ H d = some (.tup [.ref fa, .ref ra])) (h : Q (.ref ra) H) : rIx K (.ref d) (.int 1) H Q := by
  rcases hd with hd | hd
  · exact .inl ⟨d, _, _, _, rfl, rfl, SqL.of hd, at1 _ _ _, h⟩
  · exact .inr (.inl ⟨d, _, _, _, rfl, rfl, SqT.of hd, at1 _ _ _, h⟩)
theorem paired_row {H : Hp} : ∀ {ts : List Addr} {r : Row}, Paired (fun (t : Addr) (q : Key × V) => H t = some (.tup [kV q.1, q.2])) ts (rowKV r) → Paired (fun a (x : Str × Str) => H a = some (.tup [.str x.1, .str x.2])) ts r
  | _, [], .nil => .nil
  | _, x :: r, .cons h t => .cons h (paired_row t)
theorem paired_zip {α β : Type} {R : α → β → Prop} {l : List α} {m : List β} (h : Paired R l m) : (∀ p ∈ l.zip m, R p.1 p.2) ∧ (l.zip m).map Prod.fst = l ∧ (l.zip m).map Prod.snd = m := by
  induction h with
  | nil => exact ⟨fun p hp => (by cases hp), rfl, rfl⟩
  | cons r _ ih =>
    obtain ⟨h1, h2, h3⟩ := ih
    refine ⟨fun p hp => ?_, by rw [List.zip_cons_cons, List.map_cons, h2], by rw [List.zip_cons_cons, List.map_cons, h3]⟩
    rw [List.zip_cons_cons] at hp
    rcases List.mem_cons.mp hp with rfl | hp
    · exact r
    · exact h1 p hp
theorem zip_paired {α β : Type} {R : α → β → Prop} : ∀ (l : List (α × β)), (∀ p ∈ l, R p.1 p.2) → Paired R (l.map Prod.fst) (l.map Prod.snd)
  | [], _ => .nil
  | p :: l, h => .cons (h p List.mem_cons_self) (zip_paired l fun q hq => h q (List.mem_cons_of_mem _ hq))
/-- list(d.items()) of a row -/
theorem list_items {te : TE} {σ : L2.St} {H H1 : Hp} {Q : VK} {b : Addr} {r : Row} (hte : ∀ Q' : VK, Q' (.ref b) H1 → te σ H Q') (e1 : Same H H1) (hb : H1 b = some (.dK (rowKV r))) (k : ∀ l H2, H1 l = none → Same H H2 → Same H1 H2 → RowAt H2 l r → Q (.ref l) H2) : LiI.tListItems te σ H Q := by
  refine hte _ ⟨b, _, rfl, hb, fun H' p ts e hp hts hpt hp' pr => ?_⟩
  exact k p H' hp (e1.trans e) e ⟨ts, hp', paired_row pr⟩
/-- sorted(set(list(d.items()))) of a row -/
theorem sorted_items {K : PySem.W.Frag} {P : Program} {w : World} {te : TE} {σ : L2.St} {H : Hp} {Q : VK} {b : Addr} {E : Lv → Str} {ws ns : List Str} {f : Str → Lv} (hte : ∀ Q' : VK, Q' (.ref b) H → te σ H Q') (hb : H b = some (.dK (rowKV (cRow E ws f)))) (nd : ws.Nodup) (hl : ws.length ≤ 4) (hp : ns.Perm ws) (hs : sortedS ns = true)
    (k : ∀ l H2, H l = none → Same H H2 → RowAt H2 l (cRow E ns f) → Q (.ref l) H2) : tCB (rSortedP K P w) (tCons (tCB (rSetP K P w) (tCons (LiI.tListItems te) tNil)) tNil) σ H Q := by
  refine list_items hte (Same.refl _) hb fun l H2 hln _ e2 hR => ?_
  obtain ⟨ts, h1, h2⟩ := hR
  obtain ⟨z1, z2, z3⟩ := paired_zip h2
  have hts : ts.map V.ref = (ts.zip (cRow E ws f)).map fun p => V.ref p.1 := by
    conv => lhs; rw [← z2]
    rw [List.map_map]
    rfl
  have hlen : (ts.zip (cRow E ws f)).length ≤ 4 := by
    have := congrArg List.length z3
    rw [List.length_map, cRow_len] at this
    omega
  have nd2 : ((ts.zip (cRow E ws f)).map (·.2.1)).Nodup := by
    have e : (ts.zip (cRow E ws f)).map (·.2.1) = ws := by
      have := congrArg (List.map Prod.fst) z3
      rw [List.map_map, cRow_keys] at this
      exact this
    rw [e]
    exact nd
  refine ⟨l, ts.zip (cRow E ws f), rfl, SqL.of (by rw [h1, hts]), fun p hp => SqT.of (z1 p hp), hlen, nd2, fun a bs' ha pm => ?_⟩
  have e3 := same_new (o := SetKO P w a (bs'.map keyP)) ha
  refine ⟨a, bs', rfl, upd_same, fun p hp => SqT.of (e3 _ _ (z1 p (pm.mem_iff.mp hp))), (pm.map _).nodup_iff.mpr nd2, fun bs2 p2 pm2 pw hp2 => ?_⟩
  have e4 := same_new (o := .lst (bs2.map fun q => V.ref q.1)) hp2
  refine k p2 _ ?_ (e2.trans (e3.trans e4)) ⟨bs2.map Prod.fst, by rw [upd_same, List.map_map]; rfl, ?_⟩
  · cases hh : H p2 with
    | none => rfl
    | some u => rw [e3 _ _ (e2 _ _ hh)] at hp2; cases hp2
  · have er : bs2.map Prod.snd = cRow E ns f := by
      refine row_sorted (ws := ws) ?_ (by rw [List.map_map]; exact pw) hp hs
      rw [← z3]
      exact (pm2.trans pm).map _
    rw [← er]
    exact zip_paired bs2 fun p hp => e4 _ _ (e3 _ _ (z1 p (pm.mem_iff.mp (pm2.mem_iff.mp hp))))
def spShows (K : PySem.W.Frag) (C : Addr) : Sp := fun vs H Q _ => ∃ (a : V) (d fa ra : Addr) (os ws ns : List Str) (m : Str → Str → Lv) (q : Str → Lv), vs = [a, .ref d] ∧ (H d = some (.lst [.ref fa, .ref ra]) ∨ H d = some (.tup [.ref fa, .ref ra])) ∧ Raw H fa ra os ws m q ∧ NsOk ns ∧ ns.Perm ws ∧ InsAt C H a ns (prOf os m q) ∧ ∀ H', Same H H' → Q (.bl true) H'
section
variable {P : Program} {w : World} {K : PySem.W.Frag} {mg : Str → Option Value} {base : Heap} {aE aR aK : Addr}
abbrev s_L_shows : Stmt := top 37
theorem sc_L_shows : FnScope ["_law_told", "_law_due", "_law_rows", "_law_found", "_law_outcome"] ["_law_told", "_law_due"] (defScope s_L_shows) := ⟨rfl, rfl, rfl, by decide +kernel, rfl, by decide +kernel, by decide +kernel⟩
theorem ok_shows {C : Addr} (P_outcomes : Prp P w K mg base 1 C "outcomes" (spOutcomes C)) (P_reads : Prp P w K mg base 1 C "reads" (spReads C)) (P_names : Prp P w K mg base 1 C "names" (spNames C)) {f : Addr} {fd : FuncData} (F : Fun K "_law_shows" "_law_shows" s_L_shows f fd) (B : Bi mg) : FnG P w K mg base 3 f fd ["_law_told", "_law_due"] (spShows K C) := by
  refine okG F sc_L_shows (fun vs H Q E h => ?_) (fun cdv A outer s H vs Q E hgd hr h => ?_)
  · obtain ⟨a, d, fa, ra, os, ws, ns, m, q, rfl, _⟩ := h
    rfl
  · obtain ⟨a, d, fa, ra, os, ws, ns, m, q, rfl, hd, R, hN, hp, hI, k⟩ := h
    have hu := hu_of hr
    refine ⟨_, (pss_cons (ps_setLc (i := 2) (own := [("_law_outcome", 4)]) (g := gName 4) (by rfl) sc_L_shows.nd rfl rfl (sw_true rfl rfl rfl (by decide +kernel)) (pi_list (pe_callB (show CallR _ (.builtin "sorted") (rSortedS' w) from cr_sortedSetS rfl) (by rfl) B.sorted (by decide +kernel) (pa_cons (pe_callTy (show CallR _ (.type "set") (rSetD w) from cr_setD) (by rfl) B.set (by decide +kernel) (pa_cons (pe_ix (show IxR _ (rIx K) from ix_seq) (pv 1) pe_int (fun _ _ => rfl)) pa_nil)) pa_nil))) (blkOk_by (own := [("_law_outcome", 4)]) (N := ["_law_told", "_law_due", "_law_rows", "_law_found", "_law_outcome"]) (sc := defScope s_L_shows) (by decide +kernel)) (fun _ _ _ _ _ => (pg_name (i := 4) sc_L_shows.nd rfl (Or.inl rfl))) (fun _ _ _ _ _ => pts_nil) (fun _ _ _ _ _ => (pe_tup (pa_cons (pv 4) (pa_cons (pe_callB (show CallR _ (.builtin "sorted") (rSortedP K P w) from cr_sortedP rfl hr.units) (by rfl) B.sorted (by decide +kernel) (pa_cons (pe_callTy (show CallR _ (.type "set") (rSetP K P w) from cr_setP rfl hr.units) (by rfl) B.set (by decide +kernel) (pa_cons (LiI.pe_listItems rfl (pe_dget hu (pe_ix (show IxR _ (rIx K) from ix_seq) (pv 1) pe_int (fun _ _ => rfl)) (pv 4) (fun _ _ => rfl)) (by rfl) B.list (by decide +kernel)) pa_nil)) pa_nil)) pa_nil)))))
      (pss_cons (ps_setLc (i := 3) (own := [("_law_outcome", 4)]) (g := gName 4) (by rfl) sc_L_shows.nd rfl rfl (sw_true rfl rfl rfl (by decide +kernel)) (pi_keys (pe_lockA (pe_pr P_outcomes hr (by decide) (pv 0) rfl))) (blkOk_by (own := [("_law_outcome", 4)]) (N := ["_law_told", "_law_due", "_law_rows", "_law_found", "_law_outcome"]) (sc := defScope s_L_shows) (by decide +kernel)) (fun _ _ _ _ _ => (pg_name (i := 4) sc_L_shows.nd rfl (Or.inl rfl))) (fun _ _ _ _ _ => pts_nil) (fun _ _ _ _ _ => (pe_tup (pa_cons (pv 4) (pa_cons (LiI.pe_listItems rfl (pe_dget hu (pe_pr P_outcomes hr (by decide) (pv 0) rfl) (pv 4) (fun _ _ => rfl)) (by rfl) B.list (by decide +kernel)) pa_nil)))))
      (pss_cons (ps_if (PW.pt (pw_or (pt_cmpR op_ne (pe_callB (cr_repr hgd hr.units) (by rfl) B.repr (by decide +kernel) (pa_cons (pv 3) pa_nil)) (pe_callB (cr_repr hgd hr.units) (by rfl) B.repr (by decide +kernel) (pa_cons (pv 2) pa_nil)) (nomark _)) (pw_or1 (pt_cmpR op_ne (pe_callB (cr_repr hgd hr.units) (by rfl) B.repr (by decide +kernel) (pa_cons (LiI.pe_listItems rfl (pe_pr P_reads hr (by decide) (pv 0) rfl) (by rfl) B.list (by decide +kernel)) pa_nil)) (pe_callB (cr_repr hgd hr.units) (by rfl) B.repr (by decide +kernel) (pa_cons (pe_callB (show CallR _ (.builtin "sorted") (rSortedP K P w) from cr_sortedP rfl hr.units) (by rfl) B.sorted (by decide +kernel) (pa_cons (pe_callTy (show CallR _ (.type "set") (rSetP K P w) from cr_setP rfl hr.units) (by rfl) B.set (by decide +kernel) (pa_cons (LiI.pe_listItems rfl (pe_ix (show IxR _ (rIx K) from ix_seq) (pv 1) pe_int (fun _ _ => rfl)) (by rfl) B.list (by decide +kernel)) pa_nil)) pa_nil)) pa_nil)) (nomark _)))))
        (pss_one (ps_ret pe_bl))
        pss_nil)
      (pss_one (ps_ret (pe_cmpR op_eq (pe_callB (cr_repr hgd hr.units) (by rfl) B.repr (by decide +kernel) (pa_cons (pe_pr P_names hr (by decide) (pv 0) rfl) pa_nil)) (pe_callB (cr_repr hgd hr.units) (by rfl) B.repr (by decide +kernel) (pa_cons (pe_callTy call_tuple_of (by rfl) B.tuple (by decide +kernel) (pa_cons (pe_callB (show CallR _ (.builtin "sorted") (rSortedS' w) from cr_sortedSetS rfl) (by rfl) B.sorted (by decide +kernel) (pa_cons (pe_callTy (show CallR _ (.type "set") (rSetD w) from cr_setD) (by rfl) B.set (by decide +kernel) (pa_cons (pe_ix (show IxR _ (rIx K) from ix_seq) (pv 1) pe_int (fun _ _ => rfl)) pa_nil)) pa_nil)) pa_nil)) pa_nil)) (nomark _))))))), ?_⟩
    have hR := R
    obtain ⟨⟨kvs, hfa, hF⟩, hra, ond, osb, wnd, wl, ww⟩ := R
    have ho4 := nodup_len4 ond osb
    obtain ⟨av, hav⟩ : ∃ av, a = .ref av := by obtain ⟨a', _, _, _, _, h, _⟩ := hI; exact ⟨a', h⟩
    subst hav
    have dueS : ∀ {H' : Hp}, Same H H' → (H' d = some (.lst [.ref fa, .ref ra]) ∨ H' d = some (.tup [.ref fa, .ref ra])) := fun e => hd.imp (e _ _) (e _ _)
    have propS : ∀ {H' : Hp} {sp : Sp} {σ : L2.St} {Q' : VK}, Same H H' → σ[0]? = some (some (.ref av)) → (InsAt C H' (.ref av) ns (prOf os m q) → sp [.ref av] H' Q' C8.E0) → tProp C sp [] C8.E0 (tVar 0) σ H' Q' := fun {H' sp σ Q'} e hσ h => by
      have hI' := hI.same e
      have h1 := h hI'
      obtain ⟨a', dx, fo, ro, kk, e2, h2, _⟩ := hI'
      injection e2 with e2
      subst e2
      exact ⟨_, hσ, av, dx, _, rfl, h2, h1⟩
    generalize hX : prOf os m q = X at hI propS
    have hXp : X.os.Perm os := by rw [← hX]; exact prOf_perm ond osb
    have hXm : X.m = m := by rw [← hX]; rfl
    have hXq : X.q = q := by rw [← hX]; rfl
    -- the rows that are due
    refine ⟨_, rfl, due0 hd ⟨fa, kvs, os, rfl, .inl hfa, by rw [← gFin_keys os ws m]; exact hF.keys, ho4, fun p1 hp1 => ?_⟩⟩
    refine ⟨p1, os, rfl, upd_same, by omega, fun ys p2 hys hsy hp2 => ?_⟩
    obtain rfl : ys = X.os := sorted_one hsy (os_sorted _) (hys.trans hXp.symm)
    have e1 : Same H (upd (upd H p1 (SetSO w p1 os)) p2 (.lst (X.os.map V.str))) := (same_new hp1).trans (same_new hp2)
    have hp3 : upd (upd H p1 (SetSO w p1 os)) p2 (.lst (X.os.map V.str)) p2 = some (.lst (X.os.map V.str)) := upd_same
    generalize upd (upd H p1 (SetSO w p1 os)) p2 (.lst (X.os.map V.str)) = H1 at e1 hp3
    refine ⟨p2, rfl, ⟨_, SqL.of hp3⟩, fun D hD => ?_⟩
    refine lc_gen walk_list rel_ex hD (by rw [List.length_map]; have := os_len X; omega) (fun i ys H' => ItemsAt D H' ns m ys (X.os.take i)) .nil (fun i ys H' l _ => SqL.of (l _ _ hp3)) (fun i ys zs H' o l hz h => Paired.mapP h fun v o' q => q.chg hz) ?_ ?_
    · rintro i x ys H2 H2' hi l2 hD2 hS ⟨rfl, hx⟩ K1 K0 k1 k0
      have hi' : i < X.os.length := by rwa [List.length_map] at hi
      rw [List.getElem?_map, List.getElem?_eq_getElem hi'] at hx
      obtain rfl := Option.some.inj hx
      have hm : X.os[i] ∈ os := hys.subset (List.getElem_mem hi')
      obtain ⟨ba, hv, hba⟩ := gFin_val hF hm
      have l02 := e1.trans l2
      refine ⟨rfl, yes_of ⟨_, rfl, ?_⟩⟩
      refine sorted_items (b := ba) (E := eL) (ws := ws) (ns := ns) (f := m X.os[i]) (fun Q' hQ' => ⟨_, rfl, due0 (dueS l02) ⟨_, rfl, fa, _, rfl, .inl ⟨kvs, Sum.inr X.os[i], .inl (l02 _ _ hfa), rfl, hv.symm⟩, hQ'⟩⟩) (l02 _ _ hba) wnd (by omega) hp hN.st fun l H3 hl e3 hRow => ?_
      refine ⟨by show 2 ≤ sizeLine; decide, fun t ht => ?_⟩
      have e4 := same_new (o := .tup [.str X.os[i], .ref l]) ht
      refine k1 _ _ (e3.trans e4) ?_
      rw [take_at hi']
      refine paired_snoc (Paired.mapP hS fun v o q => (q.same e3).same e4) ⟨t, l, rfl, fun e => ?_, upd_same, hRow.same e4⟩
      rw [e, hD2] at hl
      cases hl
    rintro ys H2 l2 _ hD2 hS
    rw [List.length_map, List.take_length] at hS
    have l02 := e1.trans l2
    have dpR : ∀ {H' : Hp}, Same H2 H' → Dp K H' (.ref D) (fD X.os ns m) := fun {H'} e => items_dp (D := D) (Paired.mapP hS fun v o q => q.same e) (e _ _ hD2)
    -- what is found
    refine propS (sp := spOutcomes C) l02 rfl fun hI2 => ⟨_, ns, X, rfl, hI2, fun g gvs H3 hg e3 hg3 hF3 => ?_⟩
    refine ⟨g, _, rfl, hg3, trivial, fun od => ?_⟩
    refine ⟨g, od, rfl, .inl ⟨gvs, upd_same, fun D2 hDn2 => ?_⟩⟩
    have hgl : gvs.length = X.os.length := by rw [hF3.len]; unfold gFin; rw [List.length_map]
    have l23 : Same H2 (upd H3 g (.frz od (.dK gvs))) := same_chg e3 hg
    refine lc_gen walk_keysY rel_ex hDn2 (by rw [hgl]; have := os_len X; omega) (fun i ys H' => ItemsAt D2 H' ns m ys (X.os.take i)) .nil (fun i ys H' l _ => l _ _ upd_same) (fun i ys zs H' o l hz h => Paired.mapP h fun v o' q => q.chg hz) ?_ ?_
    · rintro i x ys H4 H4' hi l4 hD4 hS4 ⟨rfl, hx⟩ K1 K0 k1 k0
      have hi' : i < X.os.length := by rw [← hgl]; exact hi
      obtain ⟨_, ek, _⟩ := gFin_at hF3 hi'
      rw [List.getElem?_map, ek] at hx
      obtain rfl := Option.some.inj hx
      have l24 := l23.trans l4
      have l04 := l02.trans l24
      refine ⟨rfl, yes_of ⟨_, rfl, ?_⟩⟩
      refine propS (sp := spOutcomes C) l04 rfl fun hI4 => ⟨_, ns, X, rfl, hI4, fun u uvs H5 hun e5 hu5 hF5 => ?_⟩
      obtain ⟨ba, hv, hba⟩ := gFin_val hF5 (List.getElem_mem hi')
      refine ⟨_, rfl, u, _, rfl, .inl ⟨uvs, Sum.inr X.os[i], .inl hu5, rfl, hv.symm⟩, ?_⟩
      refine ⟨ba, _, rfl, hba, fun H6 l ts e6 hl hts hlt hl6 pr => ?_⟩
      refine ⟨by show 2 ≤ sizeLine; decide, fun t ht => ?_⟩
      have e7 := same_new (o := .tup [.str X.os[i], .ref l]) ht
      refine k1 _ _ (e5.trans (Same.trans e6 e7)) ?_
      rw [take_at hi']
      refine paired_snoc (Paired.mapP hS4 fun v o q => ((q.same e5).same e6).same e7) ⟨t, l, rfl, fun e => ?_, upd_same, RowAt.same ⟨ts, hl6, ?_⟩ e7⟩
      · rw [e, e5 _ _ hD4] at hl
        cases hl
      · rw [← hXm]
        exact paired_row pr
    rintro ys4 H4 l4 _ hD4 hS4
    rw [hgl, List.take_length] at hS4
    have l24 := l23.trans l4
    have l04 := l02.trans l24
    have dpF : Dp K H4 (.ref D2) (fD X.os ns m) := items_dp hS4 hD4
    have hdt := dt_fin hN m (os := X.os) (fun o ho => os_outs ho) (os_len X)
    refine ⟨_, rfl, D2, _, rfl, dpF, hdt.sh, hdt.nd, Nat.le_trans hdt.dp (by decide), hdt.len (by decide), _, rfl, D, _, rfl, dpR l24, hdt.sh, hdt.nd, Nat.le_trans hdt.dp (by decide), hdt.len (by decide), rfl, ?_⟩
    refine ⟨false, by simp, iteF ?_⟩
    -- the reads
    have hdr := dt_row (E := rL) (.inr rfl) hN q
    refine propS (sp := spReads C) l04 rfl fun hI5 => ⟨_, ns, X, rfl, hI5, fun u H5 hu0 e5 hu5 => ⟨u, _, rfl, hu5, fun H6 l ts e6 hl hts hlt hl6 pr => ?_⟩⟩
    have hR6 : RowAt H6 l (cRow rL ns q) := by rw [← hXq]; exact ⟨ts, hl6, paired_row pr⟩
    have l06 : Same H H6 := l04.trans (e5.trans e6)
    refine ⟨l, _, rfl, hR6.dp, hdr.sh, hdr.nd, Nat.le_trans hdr.dp (by decide), hdr.len (by decide), ?_⟩
    refine sorted_items (b := ra) (E := rL) (ws := ws) (ns := ns) (f := q) (fun Q' hQ' => ⟨_, rfl, due1 (dueS l06) hQ'⟩) (l06 _ _ hra) wnd (by omega) hp hN.st fun l2 H7 hl2 e7 hRow => ?_
    refine ⟨l2, _, rfl, hRow.dp, hdr.sh, hdr.nd, Nat.le_trans hdr.dp (by decide), hdr.len (by decide), rfl, ?_⟩
    refine ⟨false, by simp, iteF ?_⟩
    -- the names
    have l07 := l06.trans e7
    have hdn := dt_names hN
    refine propS (sp := spNames C) l07 rfl fun hI7 => ⟨_, ns, X, rfl, hI7, fun u H8 hu8 e8 hu8' => ?_⟩
    have dpN : ∀ {H' : Hp} {u : Addr}, H' u = some (.tup (ns.map V.str)) → Dp K H' (.ref u) (.tuple (ns.map PyData.str)) := fun h => .tup (SqT.of h) (dp_strs ns)
    refine ⟨u, _, rfl, dpN hu8', hdn.sh, hdn.nd, Nat.le_trans hdn.dp (by decide), hdn.len (by decide), ?_⟩
    have l08 := l07.trans e8
    refine ⟨_, rfl, due1 (dueS l08) ⟨ra, _, ws, rfl, .inl (l08 _ _ hra), rowKV_keysC rL ws q, by omega, fun c1 hc1 => ?_⟩⟩
    refine ⟨c1, ws, rfl, upd_same, by omega, fun zs c2 hzs hsz hc2 => ?_⟩
    obtain rfl : zs = ns := sorted_one hsz hN.st (hzs.trans hp.symm)
    have e9 := (same_new (o := SetSO w c1 ws) hc1).trans (same_new (o := .lst (zs.map V.str)) hc2)
    refine ⟨c2, _, rfl, .inl ⟨SqL.of upd_same, fun c3 hc3 => ?_⟩⟩
    have e10 := same_new (o := .tup (zs.map V.str)) hc3
    refine ⟨c3, _, rfl, dpN upd_same, hdn.sh, hdn.nd, Nat.le_trans hdn.dp (by decide), hdn.len (by decide), rfl, ?_⟩
    have ht : decide (V.str (PyData.tuple (zs.map PyData.str)).shown = V.str (PyData.tuple (zs.map PyData.str)).shown) = true := decide_eq_true rfl
    rw [ht]
    exact k _ (l08.trans (e9.trans e10))
end
end Pf

set_option Elab.async false
set_option maxRecDepth 100000
set_option linter.all false
set_option maxHeartbeats 4000000
/-! Plain facts: the words, the drawn data. -/
namespace Pf
open PySem PySem.Spec L2 PyProof.Rows
theorem step_inj {f m : Nat} (hm : m ∈ [1, 3, 5, 7, 9, 11]) {i j : Nat} (hi : i < 26) (hj : j < 26) (h : (f + m * i) % 26 = (f + m * j) % 26) : i = j := by
  simp only [List.mem_cons, List.not_mem_nil, or_false] at hm
  rcases hm with rfl | rfl | rfl | rfl | rfl | rfl <;> omega
theorem mid_inj {α : Type} {p q : List α} {x y : α} (h : p ++ x :: q = p ++ y :: q) : x = y := by
  have := List.append_cancel_left h
  injection this
theorem wordsL_nodup {st : List Nat} {a f m : Nat} (hm : m ∈ [1, 3, 5, 7, 9, 11]) : (wordsL st a f m).Nodup := by
  unfold wordsL
  refine List.pairwise_map.mpr ?_
  refine List.Pairwise.imp_of_mem (fun {i j} hi hj hne e => hne ?_) List.nodup_range
  have e2 := mid_inj e
  exact step_inj hm (List.mem_range.mp hi) (List.mem_range.mp hj) (f := f) (by omega)
theorem words_ok {n : Nat} {ws : List Str} (h : Words n ws) : ws.Nodup ∧ ws.length ≤ n ∧ ∀ z ∈ ws, isWord z = true := by
  obtain ⟨st, a, f, m, hs, ha, hf, hm, rfl⟩ := h
  have nd : (wordsOf st a f m n).Nodup := ((wordsL_nodup hm).sublist List.filter_sublist).sublist (List.take_sublist _ _)
  refine ⟨?_, ?_, ?_⟩
  · refine List.pairwise_map.mpr (nd.imp fun {x y} hne e => hne (SX.S_inj e))
  · rw [List.length_map]
    unfold wordsOf
    rw [List.length_take]
    omega
  · intro z hz
    obtain ⟨x, hx, rfl⟩ := List.mem_map.mp hz
    have hx2 : x ∈ wordsL st a f m := (List.mem_filter.mp (List.mem_of_mem_take hx)).1
    unfold wordsL at hx2
    obtain ⟨k, hk, rfl⟩ := List.mem_map.mp hx2
    have hl : (st.take a ++ (97 + (f + m * k) % 26) :: st.drop a).length = st.length + 1 := by
      rw [List.length_append, List.length_cons, List.length_take, List.length_drop]
      omega
    have hlen := hs.len
    unfold isWord
    rw [SX.S_len, hl, Bool.and_eq_true, Bool.and_eq_true]
    refine ⟨⟨decide_eq_true (by omega), decide_eq_true (by omega)⟩, ?_⟩
    rw [List.all_eq_true]
    intro c hc
    have hc : c ∈ st.take a ++ (97 + (f + m * k) % 26) :: st.drop a := hc
    have hb : 97 ≤ c ∧ c ≤ 122 := by
      rcases List.mem_append.mp hc with h | h
      · exact hs.let_ c (List.mem_of_mem_take h)
      · rcases List.mem_cons.mp h with rfl | h
        · omega
        · exact hs.let_ c (List.mem_of_mem_drop h)
    refine decide_eq_true ?_
    rw [lt_codes]
    exact List.mem_map.mpr ⟨c - 97, List.mem_range.mpr (by omega), by omega⟩
/-! ### drawn data as levels by number -/
def ixE (l : Str) : Lv := if l = "set" then 0 else if l = "keep" then 1 else 2
def ixR (l : Str) : Lv := if l = "none" then 0 else if l = "entry" then 1 else 2
theorem ixE_ok : ∀ l ∈ ends, eL (ixE l) = l := by decide +kernel
theorem ixR_ok : ∀ l ∈ reads, rL (ixR l) = l := by decide +kernel
def look {β : Type} (d : β) (r : List (Str × β)) (n : Str) : β := (r.lookup n).getD d
theorem look_mem {β : Type} (d : β) : ∀ {r : List (Str × β)} {x : Str × β}, (r.map Prod.fst).Nodup → x ∈ r → look d r x.1 = x.2
  | y :: r, x, nd, h => by
    rw [List.map_cons, List.nodup_cons] at nd
    unfold look
    rw [List.lookup_cons]
    rcases List.mem_cons.mp h with rfl | h
    · simp
    · have hne : ¬ x.1 = y.1 := fun e => nd.1 (by rw [← e]; exact List.mem_map.mpr ⟨x, h, rfl⟩)
      have : (x.1 == y.1) = false := by simpa using hne
      rw [this]
      exact look_mem d nd.2 h
theorem row_is {E : Lv → Str} {ix : Str → Lv} {ls ws : List Str} (hE : ∀ l ∈ ls, E (ix l) = l) {r : Row} (hk : r.map Prod.fst = ws) (nd : ws.Nodup) (hl : ∀ y ∈ r, y.2 ∈ ls) : r = cRow E ws fun n => ix (look "" r n) := by
  unfold cRow
  rw [← hk, List.map_map]
  conv => lhs; rw [← List.map_id r]
  refine List.map_congr_left fun x hx => ?_
  show x = (x.1, E (ix (look "" r x.1)))
  rw [look_mem (Str.ofString "") (by rw [hk]; exact nd) hx, hE _ (hl x hx)]
theorem ok_is {ws : List Str} {F : Fin} {r : Row} (h : Ok ws F r) (nd : ws.Nodup) : ∃ (m : Str → Str → Lv) (q : Str → Lv), F = gFin (F.map Prod.fst) ws m ∧ r = cRow rL ws q := by
  refine ⟨fun o n => ixE (look "" (look [] F o) n), fun n => ixR (look "" r n), ?_, row_is ixR_ok h.rr.1 nd h.rr.2⟩
  unfold gFin
  rw [List.map_map]
  conv => lhs; rw [← List.map_id F]
  refine List.map_congr_left fun x hx => ?_
  show x = (x.1, cRow eL ws fun n => ixE (look "" (look [] F x.1) n))
  rw [look_mem [] h.fk hx, ← row_is ixE_ok (h.fr x hx).1 nd (h.fr x hx).2]
/-- raw data at a tuple -/
def RawT (H : Hp) (v : V) (os ws : List Str) (m : Str → Str → Lv) (q : Str → Lv) : Prop := ∃ t fa ra, v = .ref t ∧ H t = some (.tup [.ref fa, .ref ra]) ∧ Raw H fa ra os ws m q
theorem plain_raw {H : Hp} {v : V} {ws : List Str} {F : Fin} {r : Row} (h : PlainAt H v F r) (ok : Ok ws F r) (nd : ws.Nodup) (hl : ws.length ≤ 3) (hw : ∀ z ∈ ws, isWord z = true) : ∃ os m q, RawT H v os ws m q := by
  obtain ⟨t, fa, ra, h1, h2, ⟨kvs, h3, h4⟩, h5⟩ := h
  obtain ⟨m, q, e1, e2⟩ := ok_is ok nd
  refine ⟨F.map Prod.fst, m, q, t, fa, ra, h1, h2, ⟨kvs, h3, by rw [← e1]; exact h4⟩, by rw [← e2]; exact h5, ok.fk, fun o ho => ?_, nd, hl, hw⟩
  obtain ⟨x, hx, rfl⟩ := List.mem_map.mp ho
  exact ok.fo x hx
theorem Raw.same {H H' : Hp} {fa ra : Addr} {os ws : List Str} {m : Str → Str → Lv} {q : Str → Lv} (R : Raw H fa ra os ws m q) (e : Same H H') : Raw H' fa ra os ws m q := by
  obtain ⟨⟨kvs, h1, h2⟩, h3, h4, h5, h6, h7, h8⟩ := R
  exact ⟨⟨kvs, e _ _ h1, h2.same e⟩, e _ _ h3, h4, h5, h6, h7, h8⟩
theorem RawT.same {H H' : Hp} {v : V} {os ws : List Str} {m : Str → Str → Lv} {q : Str → Lv} (R : RawT H v os ws m q) (e : Same H H') : RawT H' v os ws m q := by
  obtain ⟨t, fa, ra, h1, h2, h3⟩ := R
  exact ⟨t, fa, ra, h1, e _ _ h2, h3.same e⟩
/-- the sorted names -/
theorem ns_of {ws : List Str} (nd : ws.Nodup) (hl : ws.length ≤ 3) (hw : ∀ z ∈ ws, isWord z = true) : ∃ ns, ns.Perm ws ∧ NsOk ns := by
  refine ⟨ws.mergeSort (fun a b => decide (a.cps.toList ≤ b.cps.toList)), List.mergeSort_perm _ _, (List.mergeSort_perm _ _).nodup_iff.mpr nd, by rw [(List.mergeSort_perm ws _).length_eq]; exact hl, fun n hn => hw n ((List.mergeSort_perm ws _).mem_iff.mp hn), ?_⟩
  refine sortedS_of_pairwise _ ?_
  have := List.pairwise_mergeSort (le := fun a b : Str => decide (a.cps.toList ≤ b.cps.toList)) (fun a b c h1 h2 => decide_eq_true (List.le_trans (of_decide_eq_true h1) (of_decide_eq_true h2))) (fun a b => by
    rw [Bool.or_eq_true, decide_eq_true_iff, decide_eq_true_iff]
    exact List.le_total _ _) ws
  refine this.imp fun {a b} h => ?_
  rw [ltCps_eq]
  have h2 := of_decide_eq_true h
  rw [← List.not_lt] at h2
  exact decide_eq_false h2
end Pf

set_option Elab.async false
set_option maxRecDepth 100000
set_option linter.all false
set_option maxHeartbeats 4000000
namespace Pf
open PySem PySem.Spec L2 PyProof.Rows
def spLaw (K : PySem.W.Frag) : Sp := fun vs H Q _ => ∃ (a : Addr) (ns : List Int), vs = [.ref a] ∧ SqL K H a (ns.map V.int) ∧ ns.length ≤ 63 ∧ ∀ H', Q (.bl true) H'
theorem PlainAt.updL {H : Hp} {v : V} {F : Fin} {r : Row} {l : Addr} {zs : List V} {u : HO} (h : PlainAt H v F r) (hl : H l = some (.lst zs)) : PlainAt (upd H l u) v F r := by
  obtain ⟨t, fa, ra, h1, h2, ⟨kvs, h3, h4⟩, h5⟩ := h
  have up : ∀ {c : Addr} {o : HO}, H c = some o → (∀ xs, o ≠ .lst xs) → upd H l u c = some o := fun hc hn => by rw [upd_ne (ne_of hc hl (hn _))]; exact hc
  exact ⟨t, fa, ra, h1, up h2 (fun _ z => by cases z), ⟨kvs, up h3 (fun _ z => by cases z), Paired.mapP h4 fun kv p ⟨q1, a, q2, q3⟩ => ⟨q1, a, q2, up q3 (fun _ z => by cases z)⟩⟩, up h5 (fun _ z => by cases z)⟩
/-- a row of drawn data over these words -/
def Drawn (ws : List Str) (H : Hp) (v : V) : Prop := ∃ F r, PlainAt H v F r ∧ Ok ws F r ∧ F.length ≤ 3
theorem Drawn.exp {ws : List Str} {H H' : Hp} {v : V} (h : Drawn ws H v) (e : ExP H H') : Drawn ws H' v := by
  obtain ⟨F, r, h1, h2, h3⟩ := h
  exact ⟨F, r, h1.exp e, h2, h3⟩
theorem Pen.updL {H : Hp} {p c l : Addr} {b : Nat} {zs ys : List V} (h : Pen H p c b) (hl : H l = some (.lst zs)) (hne : l ≠ c) : Pen (upd H l (.lst ys)) p c b := by
  obtain ⟨ns, a, l0, h1, h2, h3⟩ := h
  exact ⟨ns, a, l0, by rw [upd_ne (fun e => by rw [e, hl] at h1; cases h1)]; exact h1, by rw [upd_ne (fun e => hne e.symm)]; exact h2, h3⟩
theorem InsAt.updL {C : Addr} {H : Hp} {v : V} {ns : List Str} {X : Pr} {l : Addr} {zs : List V} {u : HO} (h : InsAt C H v ns X) (hl : H l = some (.lst zs)) : InsAt C (upd H l u) v ns X := by
  obtain ⟨a, dx, fo, ro, kvs, h1, h2, h3, h4, h5⟩ := h
  have up : ∀ {c : Addr} {o : HO}, H c = some o → (∀ xs, o ≠ .lst xs) → upd H l u c = some o := fun hc hn => by rw [upd_ne (ne_of hc hl (hn _))]; exact hc
  exact ⟨a, dx, fo, ro, kvs, h1, up h2 (fun _ z => by cases z), up h3 (fun _ z => by cases z), Paired.mapP h4 fun kv p ⟨q1, a, q2, q3⟩ => ⟨q1, a, q2, up q3 (fun _ z => by cases z)⟩, up h5 (fun _ z => by cases z)⟩
theorem at2 {α : Type} (x y z : α) (xs : List α) : atI (x :: y :: z :: xs) 2 = some z := by
  unfold atI ixN
  simp [show (2 : Int).toNat = 2 from rfl]
  rw [if_pos (by omega)]
  rfl
theorem paired_at {α β : Type} {R : α → β → Prop} {l : List α} {m : List β} (h : Paired R l m) : ∀ {i : Nat} {x : α}, l[i]? = some x → ∃ y, m[i]? = some y ∧ R x y := by
  induction h with
  | nil => intro i x hx; simp at hx
  | @cons a b l m r _ ih =>
    intro i x hx
    cases i with
    | zero =>
      have e : a = x := by simpa using hx
      exact ⟨b, by simp, e ▸ r⟩
    | succ i =>
      obtain ⟨y, h1, h2⟩ := ih (by simpa using hx)
      exact ⟨y, by simpa using h1, h2⟩
theorem prOf_os (X : Pr) : (prOf X.os X.m X.q).os = X.os := by
  unfold Pr.os
  refine List.filter_congr fun o ho => ?_
  show decide (o ∈ X.os) = X.p o
  rw [Bool.eq_iff_iff, decide_eq_true_iff, mem_os ho]
section
variable {P : Program} {w : World} {K : PySem.W.Frag} {mg : Str → Option Value} {base : Heap} {aE aR aK : Addr}
abbrev s_law : Stmt := top 39
theorem sc_law : FnScope ["_law_script", "_law_pen", "_law_turn", "_law_names", "_law_rows", "_law_k", "_law_one", "_law_other", "_law_third", "_law_row"] ["_law_script"] (defScope s_law) := ⟨rfl, rfl, rfl, by decide +kernel, rfl, by decide +kernel, by decide +kernel⟩
theorem ok_law {C : Addr} (SF : PySem.W.selfFirst K C = true) (D_and : Dun P w K mg base 6 C (PySem.dunder Operator.BitAnd.info.2) (spBin C Pr.meet)) (D_or : Dun P w K mg base 6 C (PySem.dunder Operator.BitOr.info.2) (spBin C Pr.join)) (M_Profile : C8.Mak P w K mg base 4 "Profile" C (spInit C) [])
    (C__law_source : C8.Cal P w K mg base 1 "_law_source" (spSource K) []) (C__law_draw : C8.Cal P w K mg base 1 "_law_draw" spDraw []) (C__law_word_list : C8.Cal P w K mg base 3 "_law_word_list" spWords []) (C__law_drawn_profile : C8.Cal P w K mg base 4 "_law_drawn_profile" (spDrawn K) []) (C__law_near : C8.Cal P w K mg base 3 "_law_near" (spNear K) [])
    (C__law_both : C8.Cal P w K mg base 3 "_law_both" (spDue Pr.meet) []) (C__law_either : C8.Cal P w K mg base 3 "_law_either" (spDue Pr.join) []) (C__law_fits : C8.Cal P w K mg base 7 "_law_fits" (spFits C) []) (C__law_shows : CalG P w K mg base 3 "_law_shows" (spShows K C))
    {f : Addr} {fd : FuncData} (F : Fun K "law" "law" s_law f fd) (B : Bi mg) : FnG P w K mg base 8 f fd ["_law_script"] (spLaw K) := by
  refine okG F sc_law (fun vs H Q E h => ?_) (fun cdv A outer s H vs Q E hgd hr h => ?_)
  · obtain ⟨a, ns, rfl, _⟩ := h
    rfl
  · obtain ⟨a, ns, rfl, ha, hn, k⟩ := h
    have hu := hu_of hr
    refine ⟨_, (pss_cons (ps_set (i := 1) sc_law.nd rfl (Or.inl rfl) (C8.pe_c C__law_source hr (by decide) (by rfl) (pa_cons (pv 0) pa_nil)))
      (pss_cons (ps_for PassesOwn.never rfl (pi_range1 (by rfl) B.range (pa_cons (pe_op op_add pe_int (pe_callB (call_min2 rfl) (by rfl) B.min (by decide +kernel) (pa_cons pe_int (pa_cons (pe_callB call_len_seq (by rfl) B.len PySem.boot_len (pa_cons (pv 0) pa_nil)) pa_nil)))) pa_nil)) (pg_name (i := 2) sc_law.nd rfl (Or.inl rfl))
        (pss_cons (ps_set (i := 3) sc_law.nd rfl (Or.inl rfl) (pe_slice sl_list (C8.pe_c C__law_word_list hr (by decide) (by rfl) (pa_cons (pv 1) (pa_cons pe_int pa_nil))) po_none (po_some (C8.pe_c C__law_draw hr (by decide) (by rfl) (pa_cons (pv 1) (pa_cons pe_int pa_nil))))))
        (pss_cons (ps_set (i := 4) sc_law.nd rfl (Or.inl rfl) (pe_lst (pa_cons (C8.pe_c C__law_drawn_profile hr (by decide) (by rfl) (pa_cons (pv 1) (pa_cons (pv 3) pa_nil))) pa_nil)))
        (pss_cons (ps_for PassesOwn.never rfl (pi_range1 (by rfl) B.range (pa_cons pe_int pa_nil)) (pg_name (i := 5) sc_law.nd rfl (Or.inl rfl))
          (pss_one (ps_expr (pe_bm PySem.F.plainAttrs_list PySem.F.slot_list_append PySem.F.type_list_append mt_append (pv 4) (pa_cons (pe_ifExp (pt_cmpR op_eq (C8.pe_c C__law_draw hr (by decide) (by rfl) (pa_cons (pv 1) (pa_cons pe_int pa_nil))) pe_int (nomark _)) (C8.pe_c C__law_near hr (by decide) (by rfl) (pa_cons (pv 1) (pa_cons (pe_ix ix_list (pv 4) pe_int (fun _ _ => rfl)) pa_nil))) (C8.pe_c C__law_drawn_profile hr (by decide) (by rfl) (pa_cons (pv 1) (pa_cons (pv 3) pa_nil)))) pa_nil)))))
        (pss_cons (ps_asg (pe_lc (own := [("_law_row", 9)]) (g := gName 9) (by rfl) sc_law.nd (pi_list (pv 4)) (blkOk_by (own := [("_law_row", 9)]) (N := ["_law_script", "_law_pen", "_law_turn", "_law_names", "_law_rows", "_law_k", "_law_one", "_law_other", "_law_third", "_law_row"]) (sc := defScope s_law) (by decide +kernel)) (fun _ _ _ _ _ => (pg_name (i := 9) sc_law.nd rfl (Or.inl rfl))) (fun _ _ _ _ _ => pts_nil) (fun _ _ _ _ _ => (C8.pe_mk M_Profile hr (by decide) (by rfl) (pa_cons (pe_ix (show IxR _ (rIxT K) from ix_tup) (pv 9) pe_int (fun _ _ => rfl)) (pa_cons (pe_ix (show IxR _ (rIxT K) from ix_tup) (pv 9) pe_int (fun _ _ => rfl)) pa_nil))))) (pg_lst rfl (pgs_cons (pg_name (i := 6) sc_law.nd rfl (Or.inl rfl)) (pgs_cons (pg_name (i := 7) sc_law.nd rfl (Or.inl rfl)) (pgs_cons (pg_name (i := 8) sc_law.nd rfl (Or.inl rfl)) pgs_nil)))))
        (pss_cons (ps_if (PW.pt (pw_or (pt_not (pt_val (pe_cG C__law_shows hgd hr (by decide) (by rfl) (pa_cons (pe_op (op_binOwn SF D_and (hr.mono (by decide))) (pv 6) (pv 7)) (pa_cons (C8.pe_c C__law_both hr (by decide) (by rfl) (pa_cons (pe_ix ix_list (pv 4) pe_int (fun _ _ => rfl)) (pa_cons (pe_ix ix_list (pv 4) pe_int (fun _ _ => rfl)) pa_nil))) pa_nil))))) (pw_or1 (pt_not (pt_val (C8.pe_c C__law_fits hr (by decide) (by rfl) (pa_cons (pv 6) (pa_cons (pv 7) (pa_cons (pv 8) pa_nil)))))))))
          (pss_one (ps_ret pe_bl))
          pss_nil)
        (pss_cons (ps_if (PW.pt (pw_or (pt_not (pt_val (pe_cG C__law_shows hgd hr (by decide) (by rfl) (pa_cons (pe_op (op_binOwn SF D_or (hr.mono (by decide))) (pv 6) (pv 7)) (pa_cons (C8.pe_c C__law_either hr (by decide) (by rfl) (pa_cons (pe_ix ix_list (pv 4) pe_int (fun _ _ => rfl)) (pa_cons (pe_ix ix_list (pv 4) pe_int (fun _ _ => rfl)) pa_nil))) pa_nil))))) (pw_or1 (pt_not (pt_val (C8.pe_c C__law_fits hr (by decide) (by rfl) (pa_cons (pv 8) (pa_cons (pv 6) (pa_cons (pv 7) pa_nil)))))))))
          (pss_one (ps_ret pe_bl))
          pss_nil)
        (pss_one (ps_if (PW.pt (pw_or (pt_not (pt_val (pe_cG C__law_shows hgd hr (by decide) (by rfl) (pa_cons (pv 6) (pa_cons (pe_ix ix_list (pv 4) pe_int (fun _ _ => rfl)) pa_nil))))) (pw_or (pt_not (pt_val (pe_cG C__law_shows hgd hr (by decide) (by rfl) (pa_cons (pv 7) (pa_cons (pe_ix ix_list (pv 4) pe_int (fun _ _ => rfl)) pa_nil))))) (pw_or1 (pt_not (pt_val (pe_cG C__law_shows hgd hr (by decide) (by rfl) (pa_cons (pv 8) (pa_cons (pe_ix ix_list (pv 4) pe_int (fun _ _ => rfl)) pa_nil)))))))))
          (pss_one (ps_ret pe_bl))
          pss_nil)))))))))
      (pss_one (ps_ret pe_bl)))), ?_⟩
    refine ⟨_, rfl, a, ns, rfl, ha, hn, fun p c H1 hp hc e1 hpen => ?_⟩
    refine ⟨_, rfl, a, ns.map V.int, rfl, .inl (exp_sql (ExP.of e1) ha), _, _, rfl, _, _, rfl, rfl, _, rfl, ?_, ?_, ?_⟩
    · rw [List.length_map]; split <;> omega
    · rw [List.length_map]; split <;> omega
    have hn16 : (8 + (if ((ns.map V.int).length : Int) < 8 then ((ns.map V.int).length : Int) else 8)).toNat ≤ 16 := by
      rw [List.length_map]
      split <;> omega
    generalize (8 + (if ((ns.map V.int).length : Int) < 8 then ((ns.map V.int).length : Int) else 8)).toNat = N at hn16
    refine for_it (walk_rng (lo := 0) (n := N)) (fun i σ' H' => ∃ o2 o3 o4 o5 o6 o7 o8 o9, σ' = [some (.ref a), some (.ref p), o2, o3, o4, o5, o6, o7, o8, o9] ∧ Pen H' p c (320 * (16 - i))) ⟨none, none, none, none, none, none, none, none, rfl, hpen.mono (by decide)⟩ (fun _ _ _ _ _ => trivial) ?_ (fun σ' H' _ => k _)
    rintro i x σ' H2 H2' hi ⟨o2, o3, o4, o5, o6, o7, o8, o9, rfl, hp2⟩ ⟨rfl, hx⟩
    obtain ⟨b, hb⟩ : ∃ b, b = 320 * (16 - (i + 1)) := ⟨_, rfl⟩
    have hp2 : Pen H2' p c (b + 320) := hp2.mono (by omega)
    -- the names
    refine ⟨_, rfl, p, c, b + 308, 3, rfl, by decide, hp2, fun q ws0 H3 hq hq3 hW hp3 e3 => ?_⟩
    refine ⟨_, rfl, p, c, 4, b + 307, rfl, by decide, by decide, hp3, fun n H4 hn0 hn1 hp4 e4 => ?_⟩
    obtain ⟨n, rfl⟩ := Int.eq_ofNat_of_zero_le hn0
    refine ⟨n, rfl, q, _, rfl, SqL.of (e4.at hq3 lst_ne_pen), fun q4 hq4 => ?_⟩
    rw [cut_to, ← List.map_take]
    obtain ⟨wnd0, wl0, ww0⟩ := words_ok hW
    have wnd : (ws0.take n).Nodup := wnd0.sublist (List.take_sublist _ _)
    have wl : (ws0.take n).length ≤ 3 := by rw [List.length_take]; omega
    have ww : ∀ z ∈ ws0.take n, isWord z = true := fun z hz => ww0 z (List.mem_of_mem_take hz)
    generalize ws0.take n = ws at wnd wl ww
    have hp5 := hp4.same (same_new (o := .lst (ws.map V.str)) hq4)
    have hq5 : upd H4 q4 (.lst (ws.map V.str)) q4 = some (.lst (ws.map V.str)) := upd_same
    show tSeq _ _ _ _ (upd H4 q4 (.lst (ws.map V.str)))
    generalize upd H4 q4 (.lst (ws.map V.str)) = H5 at hp5 hq5
    -- the first row
    refine ⟨_, rfl, _, rfl, p, c, q4, b + 207, ws, rfl, SqL.of hq5, wnd, by omega, hp5, fun v F r H6 hPl hOk hF3 hp6 e6 => ⟨by show 1 ≤ sizeLine; decide, fun lr hlr => ?_⟩⟩
    have e7 := same_new (o := .lst [v]) hlr
    have hp7 := hp6.same e7
    have hq7 := e7 _ _ (e6.at hq5 lst_ne_pen)
    have hv7 : Drawn ws (upd H6 lr (.lst [v])) v := ⟨F, r, hPl.exp (ExP.of e7), hOk, hF3⟩
    have hlr7 : upd H6 lr (.lst [v]) lr = some (.lst [v]) := upd_same
    have hlc : lr ≠ c := by
      obtain ⟨ns', a', l', _, h2, _⟩ := hp6
      exact fun e => by rw [e, h2] at hlr; cases hlr
    have hlq : lr ≠ q4 := fun e => by rw [e, e6.at hq5 lst_ne_pen] at hlr; cases hlr
    show tSeq _ _ _ _ (upd H6 lr (.lst [v]))
    generalize upd H6 lr (.lst [v]) = H7 at hp7 hq7 hv7 hlr7
    -- two more
    refine ⟨_, rfl, by decide, by decide, ?_⟩
    refine for_it (walk_rng (lo := 0) (n := 2)) (fun j σ' H' => ∃ o2 o5 o6 o7 o8 o9 vs, σ' = [some (.ref a), some (.ref p), o2, some (.ref q4), some (.ref lr), o5, o6, o7, o8, o9] ∧ H' lr = some (.lst vs) ∧ vs.length = 1 + j ∧ (∀ v ∈ vs, Drawn ws H' v) ∧ Pen H' p c (b + 101 * (2 - j)) ∧ H' q4 = some (.lst (ws.map V.str)))
      ⟨_, _, _, _, _, _, [v], rfl, hlr7, rfl, fun u hu => by rw [List.mem_singleton.mp hu]; exact hv7, hp7.mono (by omega), hq7⟩ (fun _ _ _ _ _ => trivial) ?_ ?_
    · rintro j x σ' H8 H8' hj ⟨o2, o5, o6, o7, o8, o9, vs, rfl, hlr8, hvl, hvs, hp8, hq8⟩ ⟨rfl, hx⟩
      obtain ⟨b2, hb2⟩ : ∃ b2, b2 = b + 101 * (2 - (j + 1)) := ⟨_, rfl⟩
      have hp8 : Pen H8' p c (b2 + 101) := hp8.mono (by omega)
      have app : ∀ v H9, ExP H8' H9 → Drawn ws H9 v → Pen H9 p c b2 → rAppend (.ref lr) [v] H9 fun _ H' => ∃ o2' o5' o6' o7' o8' o9' vs, [some (V.ref a), some (.ref p), o2, some (.ref q4), some (.ref lr), some x, o6, o7, o8, o9] = [some (V.ref a), some (.ref p), o2', some (.ref q4), some (.ref lr), o5', o6', o7', o8', o9'] ∧ H' lr = some (.lst vs) ∧ vs.length = 1 + (j + 1) ∧ (∀ v ∈ vs, Drawn ws H' v) ∧ Pen H' p c (b + 101 * (2 - (j + 1))) ∧ H' q4 = some (.lst (ws.map V.str)) := fun v H9 e9 hv hp9 => by
        have hlr9 := e9.at hlr8 lst_ne_pen
        refine ⟨lr, vs, v, rfl, rfl, hlr9, sz_lt (by omega), o2, some x, o6, o7, o8, o9, vs ++ [v], rfl, upd_same, by rw [List.length_append, hvl]; rfl, fun u hu => ?_, by rw [← hb2]; exact hp9.updL hlr9 hlc, by rw [upd_ne (fun e => hlq e.symm)]; exact e9.at hq8 lst_ne_pen⟩
        have hu9 : Drawn ws H9 u := by
          rcases List.mem_append.mp hu with h | h
          · exact (hvs u h).exp e9
          · rw [List.mem_singleton.mp h]; exact hv
        obtain ⟨F', r', h1, h2, h3⟩ := hu9
        exact ⟨F', r', h1.updL hlr9, h2, h3⟩
      refine ⟨_, rfl, .inl ⟨rfl, _, SqL.of hlr8⟩, _, rfl, p, c, 2, b2 + 100, rfl, by decide, by decide, hp8, fun n9 H9 h90 h91 hp9 e9 => ⟨rfl, _, rfl, ?_⟩⟩
      have hlr9 := e9.at hlr8 lst_ne_pen
      have near : tCall (spNear K) [] C8.E0 (tCons (tVar 1) (tCons (tOp (rIxL K) (tVar 4) (tC (.int 0))) tNil)) [some (V.ref a), some (.ref p), o2, some (.ref q4), some (.ref lr), some x, o6, o7, o8, o9] H9 fun v H => rAppend (.ref lr) [v] H fun _ H' => ∃ o2' o5' o6' o7' o8' o9' vs, [some (V.ref a), some (.ref p), o2, some (.ref q4), some (.ref lr), some x, o6, o7, o8, o9] = [some (V.ref a), some (.ref p), o2', some (.ref q4), some (.ref lr), o5', o6', o7', o8', o9'] ∧ H' lr = some (.lst vs) ∧ vs.length = 1 + (j + 1) ∧ (∀ v ∈ vs, Drawn ws H' v) ∧ Pen H' p c (b + 101 * (2 - (j + 1))) ∧ H' q4 = some (.lst (ws.map V.str)) := by
        cases vs with
        | nil => simp at hvl; omega
        | cons v0 vr =>
          obtain ⟨F0, r0, g1, g2, g3⟩ := (hvs v0 List.mem_cons_self).exp e9
          refine ⟨_, rfl, _, rfl, lr, _, _, v0, rfl, rfl, SqL.of hlr9, at0 _ _, ?_⟩
          exact ⟨p, c, v0, b2 + 90, ws, F0, r0, rfl, g1, g2, wnd, by omega, g3, hp9, fun v' F' r' H10 k1 k2 k3 hp10 e10 => app v' H10 (e9.trans e10) ⟨F', r', k1, k2, k3⟩ (hp10.mono (by omega))⟩
      cases hc : decide (V.int n9 = V.int 0) with
      | true => exact iteT near
      | false =>
        refine iteF ⟨_, rfl, _, rfl, p, c, q4, b2, ws, rfl, SqL.of (e9.at hq8 lst_ne_pen), wnd, by omega, hp9, fun v' F' r' H10 k1 k2 k3 hp10 e10 => app v' H10 (e9.trans e10) ⟨F', r', k1, k2, k3⟩ hp10⟩
    · rintro σ' H8 ⟨o2, o5, o6, o7, o8, o9, vs, rfl, hlr8, hvl, hvs, hp8, hq8⟩
      obtain ⟨v0, v1, v2, rfl⟩ : ∃ v0 v1 v2, vs = [v0, v1, v2] := by
        match vs, hvl with
        | [x, y, z], _ => exact ⟨x, y, z, rfl⟩
      have rawOf : ∀ v ∈ [v0, v1, v2], ∃ os m q, RawT H8 v os ws m q := fun v hv => by
        obtain ⟨F', r', h1, h2, h3⟩ := hvs v hv
        exact plain_raw h1 h2 wnd wl ww
      obtain ⟨os0, m0, q0, R0⟩ := rawOf v0 (by simp)
      obtain ⟨os1, m1, q1, R1⟩ := rawOf v1 (by simp)
      obtain ⟨os2, m2, q2, R2⟩ := rawOf v2 (by simp)
      obtain ⟨nsN, hpN, hN⟩ := ns_of wnd wl ww
      have hRs : Paired (fun v X => ∃ os m q, X = prOf os m q ∧ RawT H8 v os ws m q) [v0, v1, v2] [prOf os0 m0 q0, prOf os1 m1 q1, prOf os2 m2 q2] := .cons ⟨_, _, _, rfl, R0⟩ (.cons ⟨_, _, _, rfl, R1⟩ (.cons ⟨_, _, _, rfl, R2⟩ .nil))
      refine ⟨_, rfl, lr, rfl, ⟨_, SqL.of hlr8⟩, fun D hD => ?_⟩
      refine lc_gen walk_list rel_ex hD (by show 3 ≤ 100000; decide) (fun i ys H' => Paired (fun v X => InsAt C H' v nsN X) ys ([prOf os0 m0 q0, prOf os1 m1 q1, prOf os2 m2 q2].take i)) .nil (fun i ys H' l _ => SqL.of (l _ _ hlr8)) (fun i ys zs H' o l hz h => Paired.mapP h fun v X q => q.updL hz) ?_ ?_
      · rintro i x ys H9 H9' hi l9 hD9 hS9 ⟨rfl, hx⟩ K1 K0 k1 k0
        obtain ⟨X, hX, os, m, q', rfl, t, fa, ra, rfl, ht, hR⟩ := paired_at hRs hx
        refine ⟨rfl, yes_of ⟨_, rfl, t, _, _, _, rfl, rfl, SqT.of (l9 _ _ ht), at0 _ _, _, rfl, t, _, _, _, rfl, rfl, SqT.of (l9 _ _ ht), at1 _ _ _, make_ok (hR.same l9) hpN hN.st fun z H10 e10 hI => ?_⟩⟩
        refine k1 _ _ e10 ?_
        rw [List.take_succ, hX]
        exact paired_snoc (Paired.mapP hS9 fun v X q => q.same e10) hI
      rintro ys H9 l9 hyl hD9 hS9
      have hS9 : Paired (fun v X => InsAt C H9 v nsN X) ys [prOf os0 m0 q0, prOf os1 m1 q1, prOf os2 m2 q2] := hS9
      obtain ⟨w0, w1, w2, rfl, hI0, hI1, hI2⟩ : ∃ w0 w1 w2, ys = [w0, w1, w2] ∧ InsAt C H9 w0 nsN (prOf os0 m0 q0) ∧ InsAt C H9 w1 nsN (prOf os1 m1 q1) ∧ InsAt C H9 w2 nsN (prOf os2 m2 q2) := by
        cases hS9 with
        | cons h0 t =>
          cases t with
          | cons h1 t =>
            cases t with
            | cons h2 t =>
              cases t with
              | nil => exact ⟨_, _, _, rfl, h0, h1, h2⟩
      refine ⟨D, _, rfl, SqL.of hD9, rfl, _, _, rfl, _, _, rfl, _, _, rfl, rfl, ?_⟩
      obtain ⟨t0, fa0, ra0, ev0, ht0, hR0⟩ := R0
      obtain ⟨t1, fa1, ra1, ev1, ht1, hR1⟩ := R1
      obtain ⟨t2, fa2, ra2, ev2, ht2, hR2⟩ := R2
      subst ev0
      subst ev1
      subst ev2
      have hlr9 := l9 _ _ hlr8
      have bs : ∀ {H'}, Same H9 H' → Bs C nsN [some (.ref a), some (.ref p), o2, some (.ref q4), some (.ref lr), o5, some w0, some w1, some w2, o9] [(6, prOf os0 m0 q0), (7, prOf os1 m1 q1), (8, prOf os2 m2 q2)] H' := fun {H'} e z hz => by
        simp only [List.mem_cons, List.not_mem_nil, or_false] at hz
        rcases hz with rfl | rfl | rfl
        · exact ⟨w0, rfl, hI0.same e⟩
        · exact ⟨w1, rfl, hI1.same e⟩
        · exact ⟨w2, rfl, hI2.same e⟩
      -- the meet
      refine mk_bin (op := Pr.meet) hN (mk_var (i := 6) (Z := prOf os0 m0 q0) (by simp)) (mk_var (i := 7) (Z := prOf os1 m1 q1) (by simp)) H9 _ (bs (Same.refl _)) fun v10 H10 e10 hv10 => ?_
      have l10 := l9.trans e10
      refine ⟨_, rfl, lr, _, _, _, rfl, rfl, SqL.of (e10 _ _ hlr9), at0 _ _, _, rfl, lr, _, _, _, rfl, rfl, SqL.of (e10 _ _ hlr9), at1 _ _ _, t0, t1, fa0, ra0, fa1, ra1, os0, os1, ws, nsN, m0, m1, q0, q1, rfl, l10 _ _ ht0, l10 _ _ ht1, hR0.same l10, hR1.same l10, hpN, hN.st, fun l fc rc H11 hl e11 hl11 RZ => ?_⟩
      refine ⟨v10, l, fc, rc, _, nsN, nsN, _, _, rfl, .inl hl11, RZ, hN, List.Perm.refl _, (hv10.same e11).to (prOf_os _).symm (fun _ _ => rfl) rfl, fun H12 e12 => ⟨true, rfl, iteF ?_⟩⟩
      have e912 := e10.trans (e11.trans e12)
      refine ⟨_, rfl, _, rfl, _, rfl, w0, w1, w2, nsN, _, _, _, rfl, hN, hI0.same e912, hI1.same e912, hI2.same e912, fun H13 e13 => ⟨true, rfl, iteF ?_⟩⟩
      have e913 := e912.trans e13
      -- the join
      refine mk_bin (op := Pr.join) hN (mk_var (i := 6) (Z := prOf os0 m0 q0) (by simp)) (mk_var (i := 7) (Z := prOf os1 m1 q1) (by simp)) H13 _ (bs e913) fun v14 H14 e14 hv14 => ?_
      have e914 := e913.trans e14
      have l14 := l9.trans e914
      refine ⟨_, rfl, lr, _, _, _, rfl, rfl, SqL.of (e914 _ _ hlr9), at0 _ _, _, rfl, lr, _, _, _, rfl, rfl, SqL.of (e914 _ _ hlr9), at1 _ _ _, t0, t1, fa0, ra0, fa1, ra1, os0, os1, ws, nsN, m0, m1, q0, q1, rfl, l14 _ _ ht0, l14 _ _ ht1, hR0.same l14, hR1.same l14, hpN, hN.st, fun l fc rc H15 hl e15 hl15 RZ => ?_⟩
      refine ⟨v14, l, fc, rc, _, nsN, nsN, _, _, rfl, .inl hl15, RZ, hN, List.Perm.refl _, (hv14.same e15).to (prOf_os _).symm (fun _ _ => rfl) rfl, fun H16 e16 => ⟨true, rfl, iteF ?_⟩⟩
      have e916 := e914.trans (e15.trans e16)
      refine ⟨_, rfl, _, rfl, _, rfl, w2, w0, w1, nsN, _, _, _, rfl, hN, hI2.same e916, hI0.same e916, hI1.same e916, fun H17 e17 => ⟨true, rfl, iteF ?_⟩⟩
      have e917 := e916.trans e17
      have l17 := l9.trans e917
      -- each by itself
      refine ⟨_, rfl, _, rfl, lr, _, _, _, rfl, rfl, SqL.of (e917 _ _ hlr9), at0 _ _, w0, t0, fa0, ra0, os0, ws, nsN, m0, q0, rfl, .inr (l17 _ _ ht0), hR0.same l17, hN, hpN, hI0.same e917, fun H18 e18 => ⟨true, rfl, iteF ?_⟩⟩
      have e918 := e917.trans e18
      have l18 := l9.trans e918
      refine ⟨_, rfl, _, rfl, lr, _, _, _, rfl, rfl, SqL.of (e918 _ _ hlr9), at1 _ _ _, w1, t1, fa1, ra1, os1, ws, nsN, m1, q1, rfl, .inr (l18 _ _ ht1), hR1.same l18, hN, hpN, hI1.same e918, fun H19 e19 => ⟨true, rfl, iteF ?_⟩⟩
      have e919 := e918.trans e19
      have l19 := l9.trans e919
      refine ⟨_, rfl, _, rfl, lr, _, _, _, rfl, rfl, SqL.of (e919 _ _ hlr9), at2 _ _ _ _, w2, t2, fa2, ra2, os2, ws, nsN, m2, q2, rfl, .inr (l19 _ _ ht2), hR2.same l19, hN, hpN, hI2.same e919, fun H20 e20 => ⟨true, rfl, iteF ?_⟩⟩
      exact ⟨_, _, _, _, _, _, _, _, rfl, (hp8.same (l19.trans e20)).mono (by omega)⟩
end
end Pf

set_option Elab.async false
set_option maxRecDepth 100000
set_option linter.all false
set_option maxHeartbeats 4000000
namespace Pf
open PySem PySem.Spec L2 PyProof.Rows
theorem all_mk {l : PySem.W.OpenLaw} {w : World} {K : PySem.W.Frag} {h : Heap} {mg : Str → Option Value} {fa C aE aR aK : Addr} (X : K.In h) (G : h.Ns mainGlobals mg) (hfa : mg "law" = some (.ref fa))
    {tL tD tF t_set t_keep t_unset t_none t_entry t_always : Tok} {dE dR : Option Addr} {itE itR : Array Value} {nE nR' nK : Nat} {slE slR : Array (Option Value)} {esK : Array DictEntry}
    {f0 : Addr} {od0 an0 : Option Addr} {sl0 : Array (Option Value)} {oc0 kV0 dc0 pm0 cd0 ct0 : Value} {f1 : Addr} {od1 an1 : Option Addr} {sl1 : Array (Option Value)} {oc1 kV1 dc1 pm1 cd1 ct1 : Value} {f2 : Addr} {od2 an2 : Option Addr} {sl2 : Array (Option Value)} {oc2 kV2 dc2 pm2 cd2 ct2 : Value} {f3 : Addr} {od3 an3 : Option Addr} {sl3 : Array (Option Value)} {oc3 kV3 dc3 pm3 cd3 ct3 : Value} {f4 : Addr} {od4 an4 : Option Addr} {sl4 : Array (Option Value)} {oc4 kV4 dc4 pm4 cd4 ct4 : Value} {f5 : Addr} {od5 an5 : Option Addr} {sl5 : Array (Option Value)} {oc5 kV5 dc5 pm5 cd5 ct5 : Value} {f6 : Addr} {od6 an6 : Option Addr} {sl6 : Array (Option Value)} {oc6 kV6 dc6 pm6 cd6 ct6 : Value} {f7 : Addr} {od7 an7 : Option Addr} {sl7 : Array (Option Value)} {oc7 kV7 dc7 pm7 cd7 ct7 : Value} {f8 : Addr} {od8 an8 : Option Addr} {sl8 : Array (Option Value)} {oc8 kV8 dc8 pm8 cd8 ct8 : Value} {f9 : Addr} {od9 an9 : Option Addr} {sl9 : Array (Option Value)} {oc9 kV9 dc9 pm9 cd9 ct9 : Value} {f10 : Addr} {od10 an10 : Option Addr} {sl10 : Array (Option Value)} {oc10 kV10 dc10 pm10 cd10 ct10 : Value} {f11 : Addr} {od11 an11 : Option Addr} {sl11 : Array (Option Value)} {oc11 kV11 dc11 pm11 cd11 ct11 : Value} {f12 : Addr} {od12 an12 : Option Addr} {sl12 : Array (Option Value)} {oc12 kV12 dc12 pm12 cd12 ct12 : Value} {f13 : Addr} {od13 an13 : Option Addr} {sl13 : Array (Option Value)} {oc13 kV13 dc13 pm13 cd13 ct13 : Value} {f14 : Addr} {od14 an14 : Option Addr} {sl14 : Array (Option Value)} {oc14 kV14 dc14 pm14 cd14 ct14 : Value} {f15 : Addr} {od15 an15 : Option Addr} {sl15 : Array (Option Value)} {oc15 kV15 dc15 pm15 cd15 ct15 : Value} {f16 : Addr} {od16 an16 : Option Addr} {sl16 : Array (Option Value)} {oc16 kV16 dc16 pm16 cd16 ct16 : Value} {f17 : Addr} {od17 an17 : Option Addr} {sl17 : Array (Option Value)} {oc17 kV17 dc17 pm17 cd17 ct17 : Value} {f18 : Addr} {od18 an18 : Option Addr} {sl18 : Array (Option Value)} {oc18 kV18 dc18 pm18 cd18 ct18 : Value} {f19 : Addr} {od19 an19 : Option Addr} {sl19 : Array (Option Value)} {oc19 kV19 dc19 pm19 cd19 ct19 : Value} {f20 : Addr} {od20 an20 : Option Addr} {sl20 : Array (Option Value)} {oc20 kV20 dc20 pm20 cd20 ct20 : Value} {f21 : Addr} {od21 an21 : Option Addr} {sl21 : Array (Option Value)} {oc21 kV21 dc21 pm21 cd21 ct21 : Value} {f22 : Addr} {od22 an22 : Option Addr} {sl22 : Array (Option Value)} {oc22 kV22 dc22 pm22 cd22 ct22 : Value} {f23 : Addr} {od23 an23 : Option Addr} {sl23 : Array (Option Value)} {oc23 kV23 dc23 pm23 cd23 ct23 : Value} {f24 : Addr} {od24 an24 : Option Addr} {sl24 : Array (Option Value)} {oc24 kV24 dc24 pm24 cd24 ct24 : Value} {f25 : Addr} {od25 an25 : Option Addr} {sl25 : Array (Option Value)} {oc25 kV25 dc25 pm25 cd25 ct25 : Value} {f26 : Addr} {od26 an26 : Option Addr} {sl26 : Array (Option Value)} {oc26 kV26 dc26 pm26 cd26 ct26 : Value} {f27 : Addr} {od27 an27 : Option Addr} {sl27 : Array (Option Value)} {oc27 kV27 dc27 pm27 cd27 ct27 : Value} {f28 : Addr} {od28 an28 : Option Addr} {sl28 : Array (Option Value)} {oc28 kV28 dc28 pm28 cd28 ct28 : Value} {f29 : Addr} {od29 an29 : Option Addr} {sl29 : Array (Option Value)} {oc29 kV29 dc29 pm29 cd29 ct29 : Value} {f30 : Addr} {od30 an30 : Option Addr} {sl30 : Array (Option Value)} {oc30 kV30 dc30 pm30 cd30 ct30 : Value} {f31 : Addr} {od31 an31 : Option Addr} {sl31 : Array (Option Value)} {oc31 kV31 dc31 pm31 cd31 ct31 : Value} {p31 : Addr} {rest31 : List Value} {f32 : Addr} {od32 an32 : Option Addr} {sl32 : Array (Option Value)} {oc32 kV32 dc32 pm32 cd32 ct32 : Value} {p32 : Addr} {rest32 : List Value} {f33 : Addr} {od33 an33 : Option Addr} {sl33 : Array (Option Value)} {oc33 kV33 dc33 pm33 cd33 ct33 : Value} {p33 : Addr} {rest33 : List Value}
    (aC : PySem.W.nsIn K mainGlobals "Profile" = some (some (.ref C)))
    (a0 : PySem.W.nsIn K mainGlobals "is_word" = some (some (.ref f0)))
    (l0 : K.lookup f0 = some ⟨oc0, od0, .func (PySem.W.fnOf "is_word" "is_word" (defArgs s_is_word) (defBody s_is_word) (defScope s_is_word) .none kV0 dc0 pm0 an0 cd0 ct0), sl0⟩)
    (c0 : PySem.W.codeIn K cd0 "is_word" = true)
    (k0 : PySem.W.keepIn K (.ref f0) = true)
    (a1 : PySem.W.nsIn K mainGlobals "is_outcome" = some (some (.ref f1)))
    (l1 : K.lookup f1 = some ⟨oc1, od1, .func (PySem.W.fnOf "is_outcome" "is_outcome" (defArgs s_is_outcome) (defBody s_is_outcome) (defScope s_is_outcome) .none kV1 dc1 pm1 an1 cd1 ct1), sl1⟩)
    (c1 : PySem.W.codeIn K cd1 "is_outcome" = true)
    (k1 : PySem.W.keepIn K (.ref f1) = true)
    (a2 : PySem.W.nsIn K mainGlobals "are_ends" = some (some (.ref f2)))
    (l2 : K.lookup f2 = some ⟨oc2, od2, .func (PySem.W.fnOf "are_ends" "are_ends" (defArgs s_are_ends) (defBody s_are_ends) (defScope s_are_ends) .none kV2 dc2 pm2 an2 cd2 ct2), sl2⟩)
    (c2 : PySem.W.codeIn K cd2 "are_ends" = true)
    (k2 : PySem.W.keepIn K (.ref f2) = true)
    (a3 : PySem.W.nsIn K mainGlobals "same_names" = some (some (.ref f3)))
    (l3 : K.lookup f3 = some ⟨oc3, od3, .func (PySem.W.fnOf "same_names" "same_names" (defArgs s_same_names) (defBody s_same_names) (defScope s_same_names) .none kV3 dc3 pm3 an3 cd3 ct3), sl3⟩)
    (c3 : PySem.W.codeIn K cd3 "same_names" = true)
    (k3 : PySem.W.keepIn K (.ref f3) = true)
    (a4 : PySem.W.nsIn K mainGlobals "are_outcomes" = some (some (.ref f4)))
    (l4 : K.lookup f4 = some ⟨oc4, od4, .func (PySem.W.fnOf "are_outcomes" "are_outcomes" (defArgs s_are_outcomes) (defBody s_are_outcomes) (defScope s_are_outcomes) .none kV4 dc4 pm4 an4 cd4 ct4), sl4⟩)
    (c4 : PySem.W.codeIn K cd4 "are_outcomes" = true)
    (k4 : PySem.W.keepIn K (.ref f4) = true)
    (a5 : PySem.W.nsIn K mainGlobals "ordered" = some (some (.ref f5)))
    (l5 : K.lookup f5 = some ⟨oc5, od5, .func (PySem.W.fnOf "ordered" "ordered" (defArgs s_ordered) (defBody s_ordered) (defScope s_ordered) .none kV5 dc5 pm5 an5 cd5 ct5), sl5⟩)
    (c5 : PySem.W.codeIn K cd5 "ordered" = true)
    (k5 : PySem.W.keepIn K (.ref f5) = true)
    (a6 : PySem.W.nsIn K mainGlobals "lesser" = some (some (.ref f6)))
    (l6 : K.lookup f6 = some ⟨oc6, od6, .func (PySem.W.fnOf "lesser" "lesser" (defArgs s_lesser) (defBody s_lesser) (defScope s_lesser) .none kV6 dc6 pm6 an6 cd6 ct6), sl6⟩)
    (c6 : PySem.W.codeIn K cd6 "lesser" = true)
    (k6 : PySem.W.keepIn K (.ref f6) = true)
    (a7 : PySem.W.nsIn K mainGlobals "greater" = some (some (.ref f7)))
    (l7 : K.lookup f7 = some ⟨oc7, od7, .func (PySem.W.fnOf "greater" "greater" (defArgs s_greater) (defBody s_greater) (defScope s_greater) .none kV7 dc7 pm7 an7 cd7 ct7), sl7⟩)
    (c7 : PySem.W.codeIn K cd7 "greater" = true)
    (k7 : PySem.W.keepIn K (.ref f7) = true)
    (a8 : PySem.W.nsIn K mainGlobals "need_same_names" = some (some (.ref f8)))
    (l8 : K.lookup f8 = some ⟨oc8, od8, .func (PySem.W.fnOf "need_same_names" "need_same_names" (defArgs s_need_same_names) (defBody s_need_same_names) (defScope s_need_same_names) .none kV8 dc8 pm8 an8 cd8 ct8), sl8⟩)
    (c8 : PySem.W.codeIn K cd8 "need_same_names" = true)
    (k8 : PySem.W.keepIn K (.ref f8) = true)
    (a9 : PySem.W.nsIn K mainGlobals "are_low" = some (some (.ref f9)))
    (l9 : K.lookup f9 = some ⟨oc9, od9, .func (PySem.W.fnOf "are_low" "are_low" (defArgs s_are_low) (defBody s_are_low) (defScope s_are_low) .none kV9 dc9 pm9 an9 cd9 ct9), sl9⟩)
    (c9 : PySem.W.codeIn K cd9 "are_low" = true)
    (k9 : PySem.W.keepIn K (.ref f9) = true)
    (a10 : PySem.W.nsIn K mainGlobals "is_at_most" = some (some (.ref f10)))
    (l10 : K.lookup f10 = some ⟨oc10, od10, .func (PySem.W.fnOf "is_at_most" "is_at_most" (defArgs s_is_at_most) (defBody s_is_at_most) (defScope s_is_at_most) .none kV10 dc10 pm10 an10 cd10 ct10), sl10⟩)
    (c10 : PySem.W.codeIn K cd10 "is_at_most" = true)
    (k10 : PySem.W.keepIn K (.ref f10) = true)
    (a11 : PySem.W.nsIn K mainGlobals "_law_source" = some (some (.ref f11)))
    (l11 : K.lookup f11 = some ⟨oc11, od11, .func (PySem.W.fnOf "_law_source" "_law_source" (defArgs s_L_source) (defBody s_L_source) (defScope s_L_source) .none kV11 dc11 pm11 an11 cd11 ct11), sl11⟩)
    (c11 : PySem.W.codeIn K cd11 "_law_source" = true)
    (k11 : PySem.W.keepIn K (.ref f11) = true)
    (a12 : PySem.W.nsIn K mainGlobals "_law_draw" = some (some (.ref f12)))
    (l12 : K.lookup f12 = some ⟨oc12, od12, .func (PySem.W.fnOf "_law_draw" "_law_draw" (defArgs s_L_draw) (defBody s_L_draw) (defScope s_L_draw) .none kV12 dc12 pm12 an12 cd12 ct12), sl12⟩)
    (c12 : PySem.W.codeIn K cd12 "_law_draw" = true)
    (k12 : PySem.W.keepIn K (.ref f12) = true)
    (a13 : PySem.W.nsIn K mainGlobals "_law_pick" = some (some (.ref f13)))
    (l13 : K.lookup f13 = some ⟨oc13, od13, .func (PySem.W.fnOf "_law_pick" "_law_pick" (defArgs s_L_pick) (defBody s_L_pick) (defScope s_L_pick) .none kV13 dc13 pm13 an13 cd13 ct13), sl13⟩)
    (c13 : PySem.W.codeIn K cd13 "_law_pick" = true)
    (k13 : PySem.W.keepIn K (.ref f13) = true)
    (a14 : PySem.W.nsIn K mainGlobals "_law_shuffled" = some (some (.ref f14)))
    (l14 : K.lookup f14 = some ⟨oc14, od14, .func (PySem.W.fnOf "_law_shuffled" "_law_shuffled" (defArgs s_L_shuffled) (defBody s_L_shuffled) (defScope s_L_shuffled) .none kV14 dc14 pm14 an14 cd14 ct14), sl14⟩)
    (c14 : PySem.W.codeIn K cd14 "_law_shuffled" = true)
    (k14 : PySem.W.keepIn K (.ref f14) = true)
    (a15 : PySem.W.nsIn K mainGlobals "_law_word_list" = some (some (.ref f15)))
    (l15 : K.lookup f15 = some ⟨oc15, od15, .func (PySem.W.fnOf "_law_word_list" "_law_word_list" (defArgs s_L_word_list) (defBody s_L_word_list) (defScope s_L_word_list) .none kV15 dc15 pm15 an15 cd15 ct15), sl15⟩)
    (c15 : PySem.W.codeIn K cd15 "_law_word_list" = true)
    (k15 : PySem.W.keepIn K (.ref f15) = true)
    (a16 : PySem.W.nsIn K mainGlobals "_law_levels" = some (some (.ref f16)))
    (l16 : K.lookup f16 = some ⟨oc16, od16, .func (PySem.W.fnOf "_law_levels" "_law_levels" (defArgs s_L_levels) (defBody s_L_levels) (defScope s_L_levels) .none kV16 dc16 pm16 an16 cd16 ct16), sl16⟩)
    (c16 : PySem.W.codeIn K cd16 "_law_levels" = true)
    (k16 : PySem.W.keepIn K (.ref f16) = true)
    (a17 : PySem.W.nsIn K mainGlobals "_law_drawn_profile" = some (some (.ref f17)))
    (l17 : K.lookup f17 = some ⟨oc17, od17, .func (PySem.W.fnOf "_law_drawn_profile" "_law_drawn_profile" (defArgs s_L_drawn_profile) (defBody s_L_drawn_profile) (defScope s_L_drawn_profile) .none kV17 dc17 pm17 an17 cd17 ct17), sl17⟩)
    (c17 : PySem.W.codeIn K cd17 "_law_drawn_profile" = true)
    (k17 : PySem.W.keepIn K (.ref f17) = true)
    (a18 : PySem.W.nsIn K mainGlobals "_law_near" = some (some (.ref f18)))
    (l18 : K.lookup f18 = some ⟨oc18, od18, .func (PySem.W.fnOf "_law_near" "_law_near" (defArgs s_L_near) (defBody s_L_near) (defScope s_L_near) .none kV18 dc18 pm18 an18 cd18 ct18), sl18⟩)
    (c18 : PySem.W.codeIn K cd18 "_law_near" = true)
    (k18 : PySem.W.keepIn K (.ref f18) = true)
    (a19 : PySem.W.nsIn K mainGlobals "_law_rank" = some (some (.ref f19)))
    (l19 : K.lookup f19 = some ⟨oc19, od19, .func (PySem.W.fnOf "_law_rank" "_law_rank" (defArgs s_L_rank) (defBody s_L_rank) (defScope s_L_rank) .none kV19 dc19 pm19 an19 cd19 ct19), sl19⟩)
    (c19 : PySem.W.codeIn K cd19 "_law_rank" = true)
    (k19 : PySem.W.keepIn K (.ref f19) = true)
    (a20 : PySem.W.nsIn K mainGlobals "_law_chosen" = some (some (.ref f20)))
    (l20 : K.lookup f20 = some ⟨oc20, od20, .func (PySem.W.fnOf "_law_chosen" "_law_chosen" (defArgs s_L_chosen) (defBody s_L_chosen) (defScope s_L_chosen) .none kV20 dc20 pm20 an20 cd20 ct20), sl20⟩)
    (c20 : PySem.W.codeIn K cd20 "_law_chosen" = true)
    (k20 : PySem.W.keepIn K (.ref f20) = true)
    (a21 : PySem.W.nsIn K mainGlobals "_law_both" = some (some (.ref f21)))
    (l21 : K.lookup f21 = some ⟨oc21, od21, .func (PySem.W.fnOf "_law_both" "_law_both" (defArgs s_L_both) (defBody s_L_both) (defScope s_L_both) .none kV21 dc21 pm21 an21 cd21 ct21), sl21⟩)
    (c21 : PySem.W.codeIn K cd21 "_law_both" = true)
    (k21 : PySem.W.keepIn K (.ref f21) = true)
    (a22 : PySem.W.nsIn K mainGlobals "_law_either" = some (some (.ref f22)))
    (l22 : K.lookup f22 = some ⟨oc22, od22, .func (PySem.W.fnOf "_law_either" "_law_either" (defArgs s_L_either) (defBody s_L_either) (defScope s_L_either) .none kV22 dc22 pm22 an22 cd22 ct22), sl22⟩)
    (c22 : PySem.W.codeIn K cd22 "_law_either" = true)
    (k22 : PySem.W.keepIn K (.ref f22) = true)
    (a23 : PySem.W.nsIn K mainGlobals "_law_shows" = some (some (.ref f23)))
    (l23 : K.lookup f23 = some ⟨oc23, od23, .func (PySem.W.fnOf "_law_shows" "_law_shows" (defArgs s_L_shows) (defBody s_L_shows) (defScope s_L_shows) .none kV23 dc23 pm23 an23 cd23 ct23), sl23⟩)
    (c23 : PySem.W.codeIn K cd23 "_law_shows" = true)
    (k23 : PySem.W.keepIn K (.ref f23) = true)
    (a24 : PySem.W.nsIn K mainGlobals "_law_fits" = some (some (.ref f24)))
    (l24 : K.lookup f24 = some ⟨oc24, od24, .func (PySem.W.fnOf "_law_fits" "_law_fits" (defArgs s_L_fits) (defBody s_L_fits) (defScope s_L_fits) .none kV24 dc24 pm24 an24 cd24 ct24), sl24⟩)
    (c24 : PySem.W.codeIn K cd24 "_law_fits" = true)
    (k24 : PySem.W.keepIn K (.ref f24) = true)
    (a25 : PySem.W.nsIn K mainGlobals "law" = some (some (.ref f25)))
    (l25 : K.lookup f25 = some ⟨oc25, od25, .func (PySem.W.fnOf "law" "law" (defArgs s_law) (defBody s_law) (defScope s_law) .none kV25 dc25 pm25 an25 cd25 ct25), sl25⟩)
    (c25 : PySem.W.codeIn K cd25 "law" = true)
    (k25 : PySem.W.keepIn K (.ref f25) = true)
    (a26 : PySem.W.findIn K (.ref C) "__init__" = some (some (.ref f26)))
    (i26 : PySem.W.isFn K (.ref f26) = true)
    (l26 : K.lookup f26 = some ⟨oc26, od26, .func (PySem.W.fnOf "__init__" "Profile.__init__" (defArgs s_Profile___init__) (defBody s_Profile___init__) (defScope s_Profile___init__) .none kV26 dc26 pm26 an26 cd26 ct26), sl26⟩)
    (c26 : PySem.W.codeIn K cd26 "Profile.__init__" = true)
    (k26 : PySem.W.keepIn K (.ref f26) = true)
    (a27 : PySem.W.findIn K (.ref C) "__eq__" = some (some (.ref f27)))
    (i27 : PySem.W.isFn K (.ref f27) = true)
    (l27 : K.lookup f27 = some ⟨oc27, od27, .func (PySem.W.fnOf "__eq__" "Profile.__eq__" (defArgs s_Profile___eq__) (defBody s_Profile___eq__) (defScope s_Profile___eq__) .none kV27 dc27 pm27 an27 cd27 ct27), sl27⟩)
    (c27 : PySem.W.codeIn K cd27 "Profile.__eq__" = true)
    (k27 : PySem.W.keepIn K (.ref f27) = true)
    (a28 : PySem.W.findIn K (.ref C) "__le__" = some (some (.ref f28)))
    (i28 : PySem.W.isFn K (.ref f28) = true)
    (l28 : K.lookup f28 = some ⟨oc28, od28, .func (PySem.W.fnOf "__le__" "Profile.__le__" (defArgs s_Profile___le__) (defBody s_Profile___le__) (defScope s_Profile___le__) .none kV28 dc28 pm28 an28 cd28 ct28), sl28⟩)
    (c28 : PySem.W.codeIn K cd28 "Profile.__le__" = true)
    (k28 : PySem.W.keepIn K (.ref f28) = true)
    (a29 : PySem.W.findIn K (.ref C) "__and__" = some (some (.ref f29)))
    (i29 : PySem.W.isFn K (.ref f29) = true)
    (l29 : K.lookup f29 = some ⟨oc29, od29, .func (PySem.W.fnOf "__and__" "Profile.__and__" (defArgs s_Profile___and__) (defBody s_Profile___and__) (defScope s_Profile___and__) .none kV29 dc29 pm29 an29 cd29 ct29), sl29⟩)
    (c29 : PySem.W.codeIn K cd29 "Profile.__and__" = true)
    (k29 : PySem.W.keepIn K (.ref f29) = true)
    (a30 : PySem.W.findIn K (.ref C) "__or__" = some (some (.ref f30)))
    (i30 : PySem.W.isFn K (.ref f30) = true)
    (l30 : K.lookup f30 = some ⟨oc30, od30, .func (PySem.W.fnOf "__or__" "Profile.__or__" (defArgs s_Profile___or__) (defBody s_Profile___or__) (defScope s_Profile___or__) .none kV30 dc30 pm30 an30 cd30 ct30), sl30⟩)
    (c30 : PySem.W.codeIn K cd30 "Profile.__or__" = true)
    (k30 : PySem.W.keepIn K (.ref f30) = true)
    (a31 : PySem.W.findIn K (.ref C) "outcomes" = some (some (.ref p31)))
    (g31 : PySem.W.specialIn K (.ref p31) "__get__" = some (some (.builtin "property.__get__")))
    (t31 : PySem.W.takesIn K (.ref p31) = some true)
    (r31 : PySem.W.recIn K p31 "property" = some (.ref f31 :: rest31))
    (l31 : K.lookup f31 = some ⟨oc31, od31, .func (PySem.W.fnOf "outcomes" "Profile.outcomes" (defArgs s_Profile_outcomes) (defBody s_Profile_outcomes) (defScope s_Profile_outcomes) .none kV31 dc31 pm31 an31 cd31 ct31), sl31⟩)
    (c31 : PySem.W.codeIn K cd31 "Profile.outcomes" = true)
    (k31 : PySem.W.keepIn K (.ref f31) = true)
    (a32 : PySem.W.findIn K (.ref C) "reads" = some (some (.ref p32)))
    (g32 : PySem.W.specialIn K (.ref p32) "__get__" = some (some (.builtin "property.__get__")))
    (t32 : PySem.W.takesIn K (.ref p32) = some true)
    (r32 : PySem.W.recIn K p32 "property" = some (.ref f32 :: rest32))
    (l32 : K.lookup f32 = some ⟨oc32, od32, .func (PySem.W.fnOf "reads" "Profile.reads" (defArgs s_Profile_reads) (defBody s_Profile_reads) (defScope s_Profile_reads) .none kV32 dc32 pm32 an32 cd32 ct32), sl32⟩)
    (c32 : PySem.W.codeIn K cd32 "Profile.reads" = true)
    (k32 : PySem.W.keepIn K (.ref f32) = true)
    (a33 : PySem.W.findIn K (.ref C) "names" = some (some (.ref p33)))
    (g33 : PySem.W.specialIn K (.ref p33) "__get__" = some (some (.builtin "property.__get__")))
    (t33 : PySem.W.takesIn K (.ref p33) = some true)
    (r33 : PySem.W.recIn K p33 "property" = some (.ref f33 :: rest33))
    (l33 : K.lookup f33 = some ⟨oc33, od33, .func (PySem.W.fnOf "names" "Profile.names" (defArgs s_Profile_names) (defBody s_Profile_names) (defScope s_Profile_names) .none kV33 dc33 pm33 an33 cd33 ct33), sl33⟩)
    (c33 : PySem.W.codeIn K cd33 "Profile.names" = true)
    (k33 : PySem.W.keepIn K (.ref f33) = true)
    (pg : PySem.W.plainGet K C Str.empty = true)
    (hd : PySem.W.hasDictIn K C = true)
    (po : PySem.W.plainOver K C = true)
    (sa : PySem.W.findIn K (.ref C) "__setattr__" = some (some (.builtin "object.__setattr__")))
    (mk : PySem.W.makesIn K C = true)
    (kc : PySem.W.keepIn K (.ref C) = true)
    (nO : PySem.W.findIn K (.ref C) "own_outcomes" = some none)
    (nR : PySem.W.findIn K (.ref C) "own_reads" = some none)
    (hcl : PySem.W.findIn K (.ref C) "__class__" = some (some (.builtin "object.__class__")))
    (hgt : PySem.W.specialIn K (.builtin "object.__class__") "__get__" = some (some (.builtin "getset_descriptor.__get__")))
    (htk : PySem.W.takesIn K (.builtin "object.__class__") = some true)
    (hmo : PySem.W.mroIn K C (.type "object") = some true)
    (hne : PySem.W.findIn K (.ref C) "__ne__" = some (some (.builtin "object.__ne__")))
    (hsf : PySem.W.selfFirst K C = true)
    (gL : PySem.W.nsIn K mainGlobals "LETTERS" = some (some (.str Lt tL)))
    (gD : PySem.W.nsIn K mainGlobals "DONE" = some (some (.str "done" tD)))
    (gF : PySem.W.nsIn K mainGlobals "FAIL" = some (some (.str "fail " tF)))
    (gE : PySem.W.nsIn K mainGlobals "ENDS" = some (some (.ref aE)))
    (gR : PySem.W.nsIn K mainGlobals "READS" = some (some (.ref aR)))
    (gK : PySem.W.nsIn K mainGlobals "RANKS" = some (some (.ref aK)))
    (lE : K.lookup aE = some ⟨.type "tuple", dE, .seq itE nE, slE⟩)
    (lR : K.lookup aR = some ⟨.type "tuple", dR, .seq itR nR', slR⟩)
    (lK : K.lookup aK = some ⟨.type "dict", none, .dict esK nK, #[]⟩)
    (rk_set : PySem.W.nsIn K aK "set" = some (some (.int 0 t_set)))
    (rk_keep : PySem.W.nsIn K aK "keep" = some (some (.int 1 t_keep)))
    (rk_unset : PySem.W.nsIn K aK "unset" = some (some (.int 2 t_unset)))
    (rk_none : PySem.W.nsIn K aK "none" = some (some (.int 0 t_none)))
    (rk_entry : PySem.W.nsIn K aK "entry" = some (some (.int 1 t_entry)))
    (rk_always : PySem.W.nsIn K aK "always" = some (some (.int 2 t_always)))
    (z_int : PySem.W.nsIn K mainGlobals "int" = some none)
    (z_len : PySem.W.nsIn K mainGlobals "len" = some none)
    (z_list : PySem.W.nsIn K mainGlobals "list" = some none)
    (z_tuple : PySem.W.nsIn K mainGlobals "tuple" = some none)
    (z_dict : PySem.W.nsIn K mainGlobals "dict" = some none)
    (z_set : PySem.W.nsIn K mainGlobals "set" = some none)
    (z_all : PySem.W.nsIn K mainGlobals "all" = some none)
    (z_min : PySem.W.nsIn K mainGlobals "min" = some none)
    (z_range : PySem.W.nsIn K mainGlobals "range" = some none)
    (z_sorted : PySem.W.nsIn K mainGlobals "sorted" = some none)
    (z_isinstance : PySem.W.nsIn K mainGlobals "isinstance" = some none)
    (z_repr : PySem.W.nsIn K mainGlobals "repr" = some none)
    (z_str : PySem.W.nsIn K mainGlobals "str" = some none)
    (vE : Vals (Pf.ends.map V.str) itE.toList)
    (vR : Vals (Pf.reads.map V.str) itR.toList)
    (sE : itE.size ≤ sizeLine)
    (sR : itR.size ≤ sizeLine)
    (kl : PySem.W.KeysLit w.params esK.toList)
    : ∃ fd : FuncData, (∀ (s : Shared) (v : Value), BindsTo s fd ⟨[v], []⟩ [("_law_script", v)]) ∧ ∀ base : Heap, K.In base → base.Ns mainGlobals mg → FnG l.prog w K mg base 8 fa fd ["_law_script"] (spLaw K) := by
  have e := hfa.symm.trans (PySem.W.mg_of X G a25)
  cases e
  have B : Bi mg := ⟨PySem.W.mg_none_of X G z_int, PySem.W.mg_none_of X G z_len, PySem.W.mg_none_of X G z_list, PySem.W.mg_none_of X G z_tuple, PySem.W.mg_none_of X G z_dict, PySem.W.mg_none_of X G z_set, PySem.W.mg_none_of X G z_all, PySem.W.mg_none_of X G z_min, PySem.W.mg_none_of X G z_range, PySem.W.mg_none_of X G z_sorted, PySem.W.mg_none_of X G z_isinstance, PySem.W.mg_none_of X G z_repr, PySem.W.mg_none_of X G z_str⟩
  have Gg : Gs K w mg aE aR aK := ⟨⟨_, PySem.W.mg_of X G gL, ⟨_, rfl⟩⟩, ⟨_, PySem.W.mg_of X G gD, ⟨_, rfl⟩⟩, ⟨_, PySem.W.mg_of X G gF, ⟨_, rfl⟩⟩, ⟨_, PySem.W.mg_of X G gE, rfl⟩, ⟨_, PySem.W.mg_of X G gR, rfl⟩, ⟨_, PySem.W.mg_of X G gK, rfl⟩, fun _ => .inr ⟨_, itE, _, lE, rfl, rfl, sE, vE⟩, fun _ => .inr ⟨_, itR, _, lR, rfl, rfl, sR, vR⟩, ?ranks⟩
  case ranks =>
    intro l hl
    unfold Pf.ends Pf.reads at hl
    simp only [List.mem_cons, List.not_mem_nil, or_false] at hl
    rcases hl with (rfl | rfl | rfl) | (rfl | rfl | rfl)
    · exact ⟨esK, nK, _, lK, kl, rk_set, ⟨t_set, by rw [show rank (Str.ofString "set") = 0 by decide +kernel]⟩⟩
    · exact ⟨esK, nK, _, lK, kl, rk_keep, ⟨t_keep, by rw [show rank (Str.ofString "keep") = 1 by decide +kernel]⟩⟩
    · exact ⟨esK, nK, _, lK, kl, rk_unset, ⟨t_unset, by rw [show rank (Str.ofString "unset") = 2 by decide +kernel]⟩⟩
    · exact ⟨esK, nK, _, lK, kl, rk_none, ⟨t_none, by rw [show rank (Str.ofString "none") = 0 by decide +kernel]⟩⟩
    · exact ⟨esK, nK, _, lK, kl, rk_entry, ⟨t_entry, by rw [show rank (Str.ofString "entry") = 1 by decide +kernel]⟩⟩
    · exact ⟨esK, nK, _, lK, kl, rk_always, ⟨t_always, by rw [show rank (Str.ofString "always") = 2 by decide +kernel]⟩⟩
  have F0 := fun_mk (st := s_is_word) l0 c0 k0
  have b0 := F0.binds (ps := ["value"]) fun _ _ _ _ _ _ us hl => match us, hl with | [_], _ => rfl
  have F1 := fun_mk (st := s_is_outcome) l1 c1 k1
  have b1 := F1.binds (ps := ["value"]) fun _ _ _ _ _ _ us hl => match us, hl with | [_], _ => rfl
  have F2 := fun_mk (st := s_are_ends) l2 c2 k2
  have b2 := F2.binds (ps := ["value", "names", "levels"]) fun _ _ _ _ _ _ us hl => match us, hl with | [_, _, _], _ => rfl
  have F3 := fun_mk (st := s_same_names) l3 c3 k3
  have b3 := F3.binds (ps := ["one", "other"]) fun _ _ _ _ _ _ us hl => match us, hl with | [_, _], _ => rfl
  have F4 := fun_mk (st := s_are_outcomes) l4 c4 k4
  have b4 := F4.binds (ps := ["value"]) fun _ _ _ _ _ _ us hl => match us, hl with | [_], _ => rfl
  have F5 := fun_mk (st := s_ordered) l5 c5 k5
  have b5 := F5.binds (ps := ["levels"]) fun _ _ _ _ _ _ us hl => match us, hl with | [_], _ => rfl
  have F6 := fun_mk (st := s_lesser) l6 c6 k6
  have b6 := F6.binds (ps := ["one", "other"]) fun _ _ _ _ _ _ us hl => match us, hl with | [_, _], _ => rfl
  have F7 := fun_mk (st := s_greater) l7 c7 k7
  have b7 := F7.binds (ps := ["one", "other"]) fun _ _ _ _ _ _ us hl => match us, hl with | [_, _], _ => rfl
  have F8 := fun_mk (st := s_need_same_names) l8 c8 k8
  have b8 := F8.binds (ps := ["one", "other"]) fun _ _ _ _ _ _ us hl => match us, hl with | [_, _], _ => rfl
  have F9 := fun_mk (st := s_are_low) l9 c9 k9
  have b9 := F9.binds (ps := ["one", "other"]) fun _ _ _ _ _ _ us hl => match us, hl with | [_, _], _ => rfl
  have F10 := fun_mk (st := s_is_at_most) l10 c10 k10
  have b10 := F10.binds (ps := ["one", "other"]) fun _ _ _ _ _ _ us hl => match us, hl with | [_, _], _ => rfl
  have F11 := fun_mk (st := s_L_source) l11 c11 k11
  have b11 := F11.binds (ps := ["_law_script"]) fun _ _ _ _ _ _ us hl => match us, hl with | [_], _ => rfl
  have F12 := fun_mk (st := s_L_draw) l12 c12 k12
  have b12 := F12.binds (ps := ["_law_pen", "_law_many"]) fun _ _ _ _ _ _ us hl => match us, hl with | [_, _], _ => rfl
  have F13 := fun_mk (st := s_L_pick) l13 c13 k13
  have b13 := F13.binds (ps := ["_law_pen", "_law_items"]) fun _ _ _ _ _ _ us hl => match us, hl with | [_, _], _ => rfl
  have F14 := fun_mk (st := s_L_shuffled) l14 c14 k14
  have b14 := F14.binds (ps := ["_law_pen", "_law_items"]) fun _ _ _ _ _ _ us hl => match us, hl with | [_, _], _ => rfl
  have F15 := fun_mk (st := s_L_word_list) l15 c15 k15
  have b15 := F15.binds (ps := ["_law_pen", "_law_many"]) fun _ _ _ _ _ _ us hl => match us, hl with | [_, _], _ => rfl
  have F16 := fun_mk (st := s_L_levels) l16 c16 k16
  have b16 := F16.binds (ps := ["_law_pen", "_law_words", "_law_levels_here"]) fun _ _ _ _ _ _ us hl => match us, hl with | [_, _, _], _ => rfl
  have F17 := fun_mk (st := s_L_drawn_profile) l17 c17 k17
  have b17 := F17.binds (ps := ["_law_pen", "_law_words"]) fun _ _ _ _ _ _ us hl => match us, hl with | [_, _], _ => rfl
  have F18 := fun_mk (st := s_L_near) l18 c18 k18
  have b18 := F18.binds (ps := ["_law_pen", "_law_plain"]) fun _ _ _ _ _ _ us hl => match us, hl with | [_, _], _ => rfl
  have F19 := fun_mk (st := s_L_rank) l19 c19 k19
  have b19 := F19.binds (ps := ["_law_level"]) fun _ _ _ _ _ _ us hl => match us, hl with | [_], _ => rfl
  have F20 := fun_mk (st := s_L_chosen) l20 c20 k20
  have b20 := F20.binds (ps := ["_law_one", "_law_other", "_law_sign"]) fun _ _ _ _ _ _ us hl => match us, hl with | [_, _, _], _ => rfl
  have F21 := fun_mk (st := s_L_both) l21 c21 k21
  have b21 := F21.binds (ps := ["_law_one", "_law_other"]) fun _ _ _ _ _ _ us hl => match us, hl with | [_, _], _ => rfl
  have F22 := fun_mk (st := s_L_either) l22 c22 k22
  have b22 := F22.binds (ps := ["_law_one", "_law_other"]) fun _ _ _ _ _ _ us hl => match us, hl with | [_, _], _ => rfl
  have F23 := fun_mk (st := s_L_shows) l23 c23 k23
  have b23 := F23.binds (ps := ["_law_told", "_law_due"]) fun _ _ _ _ _ _ us hl => match us, hl with | [_, _], _ => rfl
  have F24 := fun_mk (st := s_L_fits) l24 c24 k24
  have b24 := F24.binds (ps := ["_law_one", "_law_other", "_law_third"]) fun _ _ _ _ _ _ us hl => match us, hl with | [_, _, _], _ => rfl
  have F25 := fun_mk (st := s_law) l25 c25 k25
  have b25 := F25.binds (ps := ["_law_script"]) fun _ _ _ _ _ _ us hl => match us, hl with | [_], _ => rfl
  have F26 := fun_mk (st := s_Profile___init__) l26 c26 k26
  have b26 := F26.binds (ps := ["self", "outcomes", "reads"]) fun _ _ _ _ _ _ us hl => match us, hl with | [_, _, _], _ => rfl
  have F27 := fun_mk (st := s_Profile___eq__) l27 c27 k27
  have b27 := F27.binds (ps := ["self", "other"]) fun _ _ _ _ _ _ us hl => match us, hl with | [_, _], _ => rfl
  have F28 := fun_mk (st := s_Profile___le__) l28 c28 k28
  have b28 := F28.binds (ps := ["self", "other"]) fun _ _ _ _ _ _ us hl => match us, hl with | [_, _], _ => rfl
  have F29 := fun_mk (st := s_Profile___and__) l29 c29 k29
  have b29 := F29.binds (ps := ["self", "other"]) fun _ _ _ _ _ _ us hl => match us, hl with | [_, _], _ => rfl
  have F30 := fun_mk (st := s_Profile___or__) l30 c30 k30
  have b30 := F30.binds (ps := ["self", "other"]) fun _ _ _ _ _ _ us hl => match us, hl with | [_, _], _ => rfl
  have F31 := fun_mk (st := s_Profile_outcomes) l31 c31 k31
  have b31 := F31.binds (ps := ["self"]) fun _ _ _ _ _ _ us hl => match us, hl with | [_], _ => rfl
  have F32 := fun_mk (st := s_Profile_reads) l32 c32 k32
  have b32 := F32.binds (ps := ["self"]) fun _ _ _ _ _ _ us hl => match us, hl with | [_], _ => rfl
  have F33 := fun_mk (st := s_Profile_names) l33 c33 k33
  have b33 := F33.binds (ps := ["self"]) fun _ _ _ _ _ _ us hl => match us, hl with | [_], _ => rfl
  have hC : Cls K C := ⟨pg, hd, po, sa⟩
  have hme : PySem.W.kitOne K (.ref C) (.ref C) = some true := by unfold PySem.W.kitOne; rw [if_pos (by simp)]
  have IC : C8.InsC K C := ⟨hC, hcl, hgt, htk, hmo, hme⟩
  have GC : ∃ u, mg "Profile" = some u ∧ RelV (.ref C) u := ⟨_, PySem.W.mg_of X G aC, rfl⟩
  refine ⟨PySem.W.fnOf "law" "law" (defArgs s_law) (defBody s_law) (defScope s_law) .none kV25 dc25 pm25 an25 cd25 ct25, fun s v => .of_eq rfl, fun base hKb hGb => ?_⟩
  have cDraw := C8.Cal.mk (mg := mg) (x := "_law_draw") ⟨f12, _, _, [], (ok_draw F12 B : FnOk l.prog w K mg base CX0 _ _ _ _ _), PySem.W.mg_of X G a12, k12, b12, .nil⟩
  have cSource := C8.Cal.mk (mg := mg) (x := "_law_source") ⟨f11, _, _, [], (ok_source F11 B : FnOk l.prog w K mg base CX0 _ _ _ _ _), PySem.W.mg_of X G a11, k11, b11, .nil⟩
  have cPick := C8.Cal.mk (mg := mg) (x := "_law_pick") ⟨f13, _, _, [], (ok_pick F13 B cDraw : FnOk l.prog w K mg base CX0 _ _ _ _ _), PySem.W.mg_of X G a13, k13, b13, .nil⟩
  have cShuf := C8.Cal.mk (mg := mg) (x := "_law_shuffled") ⟨f14, _, _, [], (ok_shuffled F14 B cDraw : FnOk l.prog w K mg base CX0 _ _ _ _ _), PySem.W.mg_of X G a14, k14, b14, .nil⟩
  have cWords := C8.Cal.mk (mg := mg) (x := "_law_word_list") ⟨f15, _, _, [], (ok_words F15 B cDraw cPick : FnOk l.prog w K mg base CX0 _ _ _ _ _), PySem.W.mg_of X G a15, k15, b15, .nil⟩
  have cLevels := C8.Cal.mk (mg := mg) (x := "_law_levels") ⟨f16, _, _, [], (ok_levels F16 B cPick : FnOk l.prog w K mg base CX0 _ _ _ _ _), PySem.W.mg_of X G a16, k16, b16, .nil⟩
  have cDrawn := C8.Cal.mk (mg := mg) (x := "_law_drawn_profile") ⟨f17, _, _, [], (ok_drawn F17 B cDraw cShuf cLevels : FnOk l.prog w K mg base CX0 _ _ _ _ _), PySem.W.mg_of X G a17, k17, b17, .nil⟩
  have cNear := C8.Cal.mk (mg := mg) (x := "_law_near") ⟨f18, _, _, [], (ok_near F18 B cDraw cPick : FnOk l.prog w K mg base CX0 _ _ _ _ _), PySem.W.mg_of X G a18, k18, b18, .nil⟩
  have cWord := C8.Cal.mk (mg := mg) (x := "is_word") ⟨f0, _, _, [], (ok_is_word F0 B Gg : FnOk l.prog w K mg base CX0 _ _ _ _ _), PySem.W.mg_of X G a0, k0, b0, .nil⟩
  have cOut := C8.Cal.mk (mg := mg) (x := "is_outcome") ⟨f1, _, _, [], (ok_is_outcome F1 B Gg cWord : FnOk l.prog w K mg base CX0 _ _ _ _ _), PySem.W.mg_of X G a1, k1, b1, .nil⟩
  have cSame := C8.Cal.mk (mg := mg) (x := "same_names") ⟨f3, _, _, [], (ok_same F3 B : FnOk l.prog w K mg base CX0 _ _ _ _ _), PySem.W.mg_of X G a3, k3, b3, .nil⟩
  have cEnds := C8.Cal.mk (mg := mg) (x := "are_ends") ⟨f2, _, _, [], (ok_are_ends F2 B cWord cSame : FnOk l.prog w K mg base CX0 _ _ _ _ _), PySem.W.mg_of X G a2, k2, b2, .nil⟩
  have cOuts := C8.Cal.mk (mg := mg) (x := "are_outcomes") ⟨f4, _, _, [], (ok_are_outcomes F4 B Gg cOut cEnds cSame : FnOk l.prog w K mg base CX0 _ _ _ _ _), PySem.W.mg_of X G a4, k4, b4, .nil⟩
  have cOrd := C8.Cal.mk (mg := mg) (x := "ordered") ⟨f5, _, _, [], (ok_ordered F5 B : FnOk l.prog w K mg base CX0 _ _ _ _ _), PySem.W.mg_of X G a5, k5, b5, .nil⟩
  have cLess := C8.Cal.mk (mg := mg) (x := "lesser") ⟨f6, _, _, [], (ok_lesser F6 B Gg : FnOk l.prog w K mg base CX0 _ _ _ _ _), PySem.W.mg_of X G a6, k6, b6, .nil⟩
  have cGr := C8.Cal.mk (mg := mg) (x := "greater") ⟨f7, _, _, [], (ok_greater F7 B Gg : FnOk l.prog w K mg base CX0 _ _ _ _ _), PySem.W.mg_of X G a7, k7, b7, .nil⟩
  have cNeed := C8.Cal.mk (mg := mg) (x := "need_same_names") ⟨f8, _, _, [], (ok_need hC nO nR F8 B : FnOk l.prog w K mg base CX0 _ _ _ _ _), PySem.W.mg_of X G a8, k8, b8, .nil⟩
  have cLow := C8.Cal.mk (mg := mg) (x := "are_low") ⟨f9, _, _, [], (ok_low F9 B Gg : FnOk l.prog w K mg base CX0 _ _ _ _ _), PySem.W.mg_of X G a9, k9, b9, .nil⟩
  have cMost := C8.Cal.mk (mg := mg) (x := "is_at_most") ⟨f10, _, _, [], (ok_most hC nO nR F10 B cLow : FnOk l.prog w K mg base CX0 _ _ _ _ _), PySem.W.mg_of X G a10, k10, b10, .nil⟩
  have mP : C8.Mak l.prog w K mg base 4 "Profile" C (spInit C) [] := ⟨f26, _, _, [], ⟨mk, a26, i26, kc⟩, ok_init hC nO nR F26 B Gg cOuts cEnds cOrd, PySem.W.mg_of X G aC, b26, .nil⟩
  have dEq : Dun l.prog w K mg base 1 C "__eq__" (spEqP C) := ⟨f27, _, _, a27, i27, ok_eq hC nO nR IC GC F27 B, b27⟩
  have dLe : Dun l.prog w K mg base 3 C "__le__" (spLe C) := ⟨f28, _, _, a28, i28, ok_le IC GC F28 B cMost, b28⟩
  have dAnd : Dun l.prog w K mg base 6 C (PySem.dunder Operator.BitAnd.info.2) (spBin C Pr.meet) := ⟨f29, _, _, a29, i29, ok_and hC nO nR IC GC F29 B cNeed cLess mP, b29⟩
  have dOr : Dun l.prog w K mg base 6 C (PySem.dunder Operator.BitOr.info.2) (spBin C Pr.join) := ⟨f30, _, _, a30, i30, ok_or hC nO nR IC GC F30 B cNeed cGr mP, b30⟩
  have p_outcomes : Prp l.prog w K mg base 1 C "outcomes" (spOutcomes C) := ⟨p31, f31, _, _, hC, ⟨a31, g31, t31, rest31, r31⟩, ok_p_outcomes hC nO F31 B, b31⟩
  have p_reads : Prp l.prog w K mg base 1 C "reads" (spReads C) := ⟨p32, f32, _, _, hC, ⟨a32, g32, t32, rest32, r32⟩, ok_p_reads hC nR F32 B, b32⟩
  have p_names : Prp l.prog w K mg base 1 C "names" (spNames C) := ⟨p33, f33, _, _, hC, ⟨a33, g33, t33, rest33, r33⟩, ok_p_names hC nR F33 B, b33⟩
  have cFits := C8.Cal.mk (mg := mg) (x := "_law_fits") ⟨f24, _, _, [], (ok_fits hsf ⟨hne, hmo⟩ dAnd dOr dEq dLe F24 B : FnOk l.prog w K mg base CX0 _ _ _ _ _), PySem.W.mg_of X G a24, k24, b24, .nil⟩
  have cRank := C8.Cal.mk (mg := mg) (x := "_law_rank") ⟨f19, _, _, [], (ok_rank F19 : FnOk l.prog w K mg base CX0 _ _ _ _ _), PySem.W.mg_of X G a19, k19, b19, .nil⟩
  have cChosen := C8.Cal.mk (mg := mg) (x := "_law_chosen") ⟨f20, _, _, [], (ok_chosen F20 B cRank : FnOk l.prog w K mg base CX0 _ _ _ _ _), PySem.W.mg_of X G a20, k20, b20, .nil⟩
  have cBoth := C8.Cal.mk (mg := mg) (x := "_law_both") ⟨f21, _, _, [], (ok_both F21 B cChosen : FnOk l.prog w K mg base CX0 _ _ _ _ _), PySem.W.mg_of X G a21, k21, b21, .nil⟩
  have cEither := C8.Cal.mk (mg := mg) (x := "_law_either") ⟨f22, _, _, [], (ok_either F22 B cChosen : FnOk l.prog w K mg base CX0 _ _ _ _ _), PySem.W.mg_of X G a22, k22, b22, .nil⟩
  have cShows : CalG l.prog w K mg base 3 "_law_shows" (spShows K C) := ⟨f23, _, _, ok_shows p_outcomes p_reads p_names F23 B, PySem.W.mg_of X G a23, k23, b23⟩
  exact ok_law hsf dAnd dOr mP cSource cDraw cWords cDrawn cNear cBoth cEither cFits cShows F25 B
theorem walk {l : PySem.W.OpenLaw} {q : Program} {loose : List Str} {XP : (Str → Option Value) → Heap → Prop} {YP : World → Heap → Prop} {d : DefRec} {K : Params → PySem.W.Frag} (hn : l.most = some 63) (hdf : d.params.defaults = [])
    (hY : ∀ (w : World) (h : Heap), YP w h → (K w.params).In h)
    (F : ∀ (w : World) (mg : Str → Option Value) (fa : Addr) (h : Heap), (K w.params).In h → h.Ns mainGlobals mg → mg d.name = some (.ref fa) →
      ∃ fd : FuncData, (∀ (s : Shared) (u : Value), BindsTo s fd ⟨[u], []⟩ [("_law_script", u)]) ∧ ∀ base : Heap, (K w.params).In base → base.Ns mainGlobals mg → FnG l.prog w (K w.params) mg base 8 fa fd ["_law_script"] (spLaw (K w.params))) :
    PySem.W.WalkO q loose XP YP l.row.toRowW d [] (fun f vs => PySem.call f vs) :=
  walk_ofG (n := 63) (k := 8) (x := "_law_script") (sp := spLaw) hn (by decide) hdf ⟨rfl, by decide, by decide⟩ hY F (fun K H a ns hl _ _ hS => ⟨a, ns, rfl, hS, hl, fun _ => rfl⟩)
end Pf
open PySem PySem.W PyProof.Rows
set_option maxRecDepth 100000 in
set_option maxHeartbeats 0 in
theorem PySem.Challenge.cw_surelyset_k75_whole_profiles_are_a_latti_holds : PySem.Challenge.rw_surelyset_k75_whole_profiles_are_a_latti.Holds := by
  w_on; o_law; k_head; (case hw => w_witness2)
  k_fill
  refine Pf.walk (l := PySem.Challenge.rw_surelyset_k75_whole_profiles_are_a_latti) rfl rfl (fun w h Y => PySem.W.kIn_of Y) ?F
  case F =>
    intro w mg fa h KX G hmg
    refine' Pf.all_mk KX G hmg ?aC ?a0 ?l0 ?c0 ?k0 ?a1 ?l1 ?c1 ?k1 ?a2 ?l2 ?c2 ?k2 ?a3 ?l3 ?c3 ?k3 ?a4 ?l4 ?c4 ?k4 ?a5 ?l5 ?c5 ?k5 ?a6 ?l6 ?c6 ?k6 ?a7 ?l7 ?c7 ?k7 ?a8 ?l8 ?c8 ?k8 ?a9 ?l9 ?c9 ?k9 ?a10 ?l10 ?c10 ?k10 ?a11 ?l11 ?c11 ?k11 ?a12 ?l12 ?c12 ?k12 ?a13 ?l13 ?c13 ?k13 ?a14 ?l14 ?c14 ?k14 ?a15 ?l15 ?c15 ?k15 ?a16 ?l16 ?c16 ?k16 ?a17 ?l17 ?c17 ?k17 ?a18 ?l18 ?c18 ?k18 ?a19 ?l19 ?c19 ?k19 ?a20 ?l20 ?c20 ?k20 ?a21 ?l21 ?c21 ?k21 ?a22 ?l22 ?c22 ?k22 ?a23 ?l23 ?c23 ?k23 ?a24 ?l24 ?c24 ?k24 ?a25 ?l25 ?c25 ?k25 ?a26 ?i26 ?l26 ?c26 ?k26 ?a27 ?i27 ?l27 ?c27 ?k27 ?a28 ?i28 ?l28 ?c28 ?k28 ?a29 ?i29 ?l29 ?c29 ?k29 ?a30 ?i30 ?l30 ?c30 ?k30 ?a31 ?g31 ?t31 ?r31 ?l31 ?c31 ?k31 ?a32 ?g32 ?t32 ?r32 ?l32 ?c32 ?k32 ?a33 ?g33 ?t33 ?r33 ?l33 ?c33 ?k33 ?pg ?hd ?po ?sa ?mk ?kc ?nO ?nR ?hcl ?hgt ?htk ?hmo ?hne ?hsf ?gL ?gD ?gF ?gE ?gR ?gK ?lE ?lR ?lK ?rk_set ?rk_keep ?rk_unset ?rk_none ?rk_entry ?rk_always ?z_int ?z_len ?z_list ?z_tuple ?z_dict ?z_set ?z_all ?z_min ?z_range ?z_sorted ?z_isinstance ?z_repr ?z_str ?vE ?vR ?sE ?sR ?kl
    (case aC => k_is)
    (case a0 => k_is)
    (case l0 => k_is)
    (case c0 => k_is)
    (case k0 => k_is)
    (case a1 => k_is)
    (case l1 => k_is)
    (case c1 => k_is)
    (case k1 => k_is)
    (case a2 => k_is)
    (case l2 => k_is)
    (case c2 => k_is)
    (case k2 => k_is)
    (case a3 => k_is)
    (case l3 => k_is)
    (case c3 => k_is)
    (case k3 => k_is)
    (case a4 => k_is)
    (case l4 => k_is)
    (case c4 => k_is)
    (case k4 => k_is)
    (case a5 => k_is)
    (case l5 => k_is)
    (case c5 => k_is)
    (case k5 => k_is)
    (case a6 => k_is)
    (case l6 => k_is)
    (case c6 => k_is)
    (case k6 => k_is)
    (case a7 => k_is)
    (case l7 => k_is)
    (case c7 => k_is)
    (case k7 => k_is)
    (case a8 => k_is)
    (case l8 => k_is)
    (case c8 => k_is)
    (case k8 => k_is)
    (case a9 => k_is)
    (case l9 => k_is)
    (case c9 => k_is)
    (case k9 => k_is)
    (case a10 => k_is)
    (case l10 => k_is)
    (case c10 => k_is)
    (case k10 => k_is)
    (case a11 => k_is)
    (case l11 => k_is)
    (case c11 => k_is)
    (case k11 => k_is)
    (case a12 => k_is)
    (case l12 => k_is)
    (case c12 => k_is)
    (case k12 => k_is)
    (case a13 => k_is)
    (case l13 => k_is)
    (case c13 => k_is)
    (case k13 => k_is)
    (case a14 => k_is)
    (case l14 => k_is)
    (case c14 => k_is)
    (case k14 => k_is)
    (case a15 => k_is)
    (case l15 => k_is)
    (case c15 => k_is)
    (case k15 => k_is)
    (case a16 => k_is)
    (case l16 => k_is)
    (case c16 => k_is)
    (case k16 => k_is)
    (case a17 => k_is)
    (case l17 => k_is)
    (case c17 => k_is)
    (case k17 => k_is)
    (case a18 => k_is)
    (case l18 => k_is)
    (case c18 => k_is)
    (case k18 => k_is)
    (case a19 => k_is)
    (case l19 => k_is)
    (case c19 => k_is)
    (case k19 => k_is)
    (case a20 => k_is)
    (case l20 => k_is)
    (case c20 => k_is)
    (case k20 => k_is)
    (case a21 => k_is)
    (case l21 => k_is)
    (case c21 => k_is)
    (case k21 => k_is)
    (case a22 => k_is)
    (case l22 => k_is)
    (case c22 => k_is)
    (case k22 => k_is)
    (case a23 => k_is)
    (case l23 => k_is)
    (case c23 => k_is)
    (case k23 => k_is)
    (case a24 => k_is)
    (case l24 => k_is)
    (case c24 => k_is)
    (case k24 => k_is)
    (case a25 => k_is)
    (case l25 => k_is)
    (case c25 => k_is)
    (case k25 => k_is)
    (case a26 => k_is)
    (case i26 => k_is)
    (case l26 => k_is)
    (case c26 => k_is)
    (case k26 => k_is)
    (case a27 => k_is)
    (case i27 => k_is)
    (case l27 => k_is)
    (case c27 => k_is)
    (case k27 => k_is)
    (case a28 => k_is)
    (case i28 => k_is)
    (case l28 => k_is)
    (case c28 => k_is)
    (case k28 => k_is)
    (case a29 => k_is)
    (case i29 => k_is)
    (case l29 => k_is)
    (case c29 => k_is)
    (case k29 => k_is)
    (case a30 => k_is)
    (case i30 => k_is)
    (case l30 => k_is)
    (case c30 => k_is)
    (case k30 => k_is)
    (case a31 => k_is)
    (case g31 => k_is)
    (case t31 => k_is)
    (case r31 => k_is)
    (case l31 => k_is)
    (case c31 => k_is)
    (case k31 => k_is)
    (case a32 => k_is)
    (case g32 => k_is)
    (case t32 => k_is)
    (case r32 => k_is)
    (case l32 => k_is)
    (case c32 => k_is)
    (case k32 => k_is)
    (case a33 => k_is)
    (case g33 => k_is)
    (case t33 => k_is)
    (case r33 => k_is)
    (case l33 => k_is)
    (case c33 => k_is)
    (case k33 => k_is)
    (case pg => k_is)
    (case hd => k_is)
    (case po => k_is)
    (case sa => k_is)
    (case mk => k_is)
    (case kc => k_is)
    (case nO => k_is)
    (case nR => k_is)
    (case hcl => k_is)
    (case hgt => k_is)
    (case htk => k_is)
    (case hmo => k_is)
    (case hne => k_is)
    (case hsf => k_is)
    (case gL => k_is)
    (case gD => k_is)
    (case gF => k_is)
    (case gE => k_is)
    (case gR => k_is)
    (case gK => k_is)
    (case lE => k_is)
    (case lR => k_is)
    (case lK => k_is)
    (case rk_set => k_is)
    (case rk_keep => k_is)
    (case rk_unset => k_is)
    (case rk_none => k_is)
    (case rk_entry => k_is)
    (case rk_always => k_is)
    (case z_int => k_is)
    (case z_len => k_is)
    (case z_list => k_is)
    (case z_tuple => k_is)
    (case z_dict => k_is)
    (case z_set => k_is)
    (case z_all => k_is)
    (case z_min => k_is)
    (case z_range => k_is)
    (case z_sorted => k_is)
    (case z_isinstance => k_is)
    (case z_repr => k_is)
    (case z_str => k_is)
    (case vE => exact .cons ⟨_, rfl⟩ (.cons ⟨_, rfl⟩ (.cons ⟨_, rfl⟩ .nil)))
    (case vR => exact .cons ⟨_, rfl⟩ (.cons ⟨_, rfl⟩ (.cons ⟨_, rfl⟩ .nil)))
    (case sE => show 3 ≤ sizeLine; decide)
    (case sR => show 3 ≤ sizeLine; decide)
    (case kl => exact ⟨⟨_, _, rfl, rfl⟩, ⟨_, _, rfl, rfl⟩, ⟨_, _, rfl, rfl⟩, ⟨_, _, rfl, rfl⟩, ⟨_, _, rfl, rfl⟩, ⟨_, _, rfl, rfl⟩, trivial⟩)
#print axioms PySem.Challenge.cw_surelyset_k75_whole_profiles_are_a_latti_holds
