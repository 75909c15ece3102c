import PyProof.Rows.All
import Wide.All
import OpenK.AllK
import Wide.FinOn
import KE.DataMinMax
import HandS.ForMost
import HandS.Style
import HandS.TupAny
import HandS.SortKw
import HandS.IsInst
import PySem.Challenge.RW_meetways_k11_whole_ways_turned
set_option Elab.async false
set_option linter.all false
set_option maxRecDepth 100000
set_option maxHeartbeats 8000000
namespace K11
open PySem PySem.Spec PyProof.Rows L2
/-! ### a tuple read from the back -/
section
variable {prog : Program} {w : World} {A : Around} {E : Value → Shared → Prop} {s : Shared}
theorem adjust_rev (n : Nat) : Builtin.Slice.sliceAdjust none none (-1) (n : Int) = ((n : Int) - 1, -1) := by
  unfold Builtin.Slice.sliceAdjust
  have h1 : ((-1 : Int) < 0) := by omega
  simp only [h1, if_true]
theorem places_rev (n : Nat) : Builtin.Slice.slicePlaces ((n : Int) - 1) (-1) (-1) = n := by
  unfold Builtin.Slice.slicePlaces
  have h1 : ¬ ((-1 : Int) > 0) := by omega
  simp only [h1, if_false]
  have e : (- -1 : Int) = 1 := by decide
  rw [e, Int.ediv_one]
  by_cases h : (n : Int) - 1 > -1
  · rw [if_pos h]; omega
  · rw [if_neg h]; omega
theorem sliceApplied_rev {sl : Addr} {n : Nat} {vk : Value} {Q : Int × Int × Nat → Shared → Prop} (hs : s.heap.IsSliceOf sl .none .none vk) (pk : IsPart vk (some (-1)))
    (h : Q ((n : Int) - 1, -1, n) s) : wpAny (model prog w) A (Builtin.Slice.sliceApplied (.ref sl) (pure (n : Int))) Q E s := by
  obtain ⟨os, hos, hcs, hds⟩ := id hs
  unfold Builtin.Slice.sliceApplied Builtin.Slice.sliceFields
  refine wpAny_bind (wpAny_bind (wpAny_field hos hds (x := .none) rfl (wpAny_bind (wpAny_field hos hds (x := .none) rfl (wpAny_bind (wpAny_field hos hds (x := vk) rfl (wpAny_pure ?_)))))))
  refine wpAny_bind (HT.slicePart_ pk ?_)
  show wpAny _ _ (if ((-1 : Int) == 0) = true then _ else _) _ _ s
  rw [if_neg (by decide)]
  refine wpAny_bind (slicePart_none (wpAny_bind (slicePart_none (wpAny_bind (wpAny_pure ?_)))))
  show wpAny _ _ (match Builtin.Slice.sliceAdjust none none (-1) (n : Int) with | (lo, hi) => pure (lo, (-1 : Int), Builtin.Slice.slicePlaces lo hi (-1))) _ _ s
  rw [adjust_rev n]
  show wpAny _ _ (pure ((n : Int) - 1, (-1 : Int), Builtin.Slice.slicePlaces ((n : Int) - 1) (-1) (-1))) _ _ s
  rw [places_rev]
  exact wpAny_pure h
theorem pick_rev (xs : Array Value) : ((List.range xs.size).filterMap fun (k : Nat) => xs[(((xs.size : Int) - 1) + (k : Int) * (-1)).toNat]?).toArray = xs.toList.reverse.toArray := by
  have e : (fun (k : Nat) => xs[(((xs.size : Int) - 1) + (k : Int) * (-1)).toNat]?) = (fun j => xs[j]?) ∘ fun k => xs.size - 1 - k := by
    funext k
    have : (((xs.size : Int) - 1) + (k : Int) * (-1)).toNat = xs.size - 1 - k := by omega
    rw [this]; rfl
  rw [e, ← List.filterMap_map, PySem.W.krv_range, List.filterMap_reverse, PySem.W.krv_all]
theorem getItem_tuple_rev {t sl : Addr} {items : Array Value} {vk : Value} {Q : Value → Shared → Prop} (ht : IsTup s.heap t items) (hs : s.heap.IsSliceOf sl .none .none vk) (pk : IsPart vk (some (-1)))
    (h : Q (.ref s.heap.objs.size) { s with heap := s.heap.push { cls := .type "tuple", data := .seq items.toList.reverse.toArray } })
    (hsz : items.size ≤ sizeLine) : wpAny (model prog w) A (getItem (.ref t) (.ref sl)) Q E s := by
  have htake : sizeOk (.seq items.toList.reverse.toArray) := by
    show items.toList.reverse.toArray.size ≤ sizeLine
    rw [List.size_toArray, List.length_reverse, Array.length_toList]
    exact hsz
  obtain ⟨os, hos, hcs, hds⟩ := id hs
  have hTs : s.TypeIs (.ref sl) "slice" := ⟨os, hos, hcs⟩
  unfold getItem
  try with_reducible refine wpAny_holding ?_
  first | refine wpAny_bind (wpAny_pure ?_) | skip
  refine wpAny_bind (wpAny_sequenceKey ht.typeIs (by decide) ?_)
  refine wpAny_bind (wpAny_callSpecial?_slot (name := Str.ofString "__getitem__") ht.typeIs PyProof.Rows.slot_tuple_getitem
    (wpAny_call_entry PyProof.Rows.slot_tuple_getitem ht.typeIs entry_tuple_getitem ?_ (args_tuple_getitem _ _)))
  show wpAny _ _ (Builtin.Tuple.tupleItemsOf (.ref t) >>= _) _ _ s
  refine wpAny_bind (tupleItemsOf_ ht ?_)
  refine wpAny_bind (wpAny_typeOf hTs ?_)
  rw [if_pos (by decide)]
  refine wpAny_bind (sliceApplied_rev hs pk ?_)
  have hno : ¬ ((((items.size : Int) - 1) == 0 && (-1 : Int) == 1 && items.size == items.size) = true) := by
    intro q
    rw [Bool.and_eq_true, Bool.and_eq_true] at q
    exact absurd q.1.2 (by decide)
  show wpAny _ _ (if (((items.size : Int) - 1) == 0 && (-1 : Int) == 1 && items.size == items.size) = true then _ else _) _ _ s
  rw [if_neg hno, pick_rev]
  first
    | exact wpAny_bind (m := Builtin.Tuple.tupleExact _) (wpAny_newObj_type (wpAny_pure ⟨_, rfl, wpAny_pure h⟩) htake)
    | exact wpAny_bind (m := Builtin.Tuple.tupleExact _) (wpAny_newObj_type (wpAny_bind (wpAny_pure (wpAny_pure ⟨_, rfl, wpAny_pure h⟩))) htake)
    | exact wpAny_bind (wpAny_bind (m := Builtin.Tuple.tupleExact _) (wpAny_newObj_type (wpAny_pure (wpAny_pure ⟨_, rfl, wpAny_pure h⟩)) htake))
    | exact wpAny_bind (wpAny_bind (m := Builtin.Tuple.tupleExact _) (wpAny_newObj_type (wpAny_pure ⟨_, rfl, wpAny_pure h⟩) htake))
end
section
variable {X : Cx}
/-- t[::-1], t a tuple -/
def tRevT (K : PySem.W.Frag) (te : TE) : TE := fun σ H Q => te σ H fun x H1 => ∃ a xs, x = .ref a ∧ SqT K H1 a xs ∧ ∀ p, H1 p = none → Q (.ref p) (upd H1 p (.tup xs.reverse))
theorem pe_revT {e : Expr} {te : TE} {k : Nat} {p1 p2 p3 pos : Pos} (he : PE X e te) : PE X (.Subscript e (.Slice none none (some (.UnaryOp .USub (.Constant (.int 1) k p1) p2)) p3) pos) (tRevT X.K te) := by
  refine ⟨fun pins s σ H Q I h => ?_⟩
  refine Subscript_ (thn (he.run pins s σ H _ I h) fun v s1 ⟨x, H1, I1, r1, q1⟩ => ?_)
  obtain ⟨a, xs, ex, hx, q⟩ := q1
  subst ex
  cases r1
  have hst : PO X (some (.UnaryOp .USub (.Constant (.int 1) k p1) p2)) (tPart (tUn (rU fun i => .int (-i)) (tC (.int 1)))) := po_some (pe_un un_neg pe_int)
  refine wpAny_Slice (thn (po_none.run pins s1 σ H1 (fun o H2 => o = none ∧ H2 = H1) I1 ⟨rfl, rfl⟩) fun vl s2 ⟨l, H2, I2, pl, el, e2⟩ => ?_)
  subst el e2
  refine thn (po_none.run pins s2 σ H2 (fun o H3 => o = none ∧ H3 = H2) I2 ⟨rfl, rfl⟩) fun vu s3 ⟨u, H3, I3, pu, eu, e3⟩ => ?_
  subst eu e3
  refine thn (hst.run pins s3 σ H3 (fun o H4 => o = some (-1) ∧ H4 = H3) I3 ⟨1, rfl, -1, rfl, rfl, rfl⟩) fun vs s4 ⟨o, H4, I4, ps, eo, e4⟩ => ?_
  subst eo e4
  cases pl
  cases pu
  have I5 : Inv X pins σ H4 { s4 with heap := s4.heap.push { cls := .type "slice", data := .fields #[.none, .none, vs] } } := I4.kept (t' := s4.toks) fun b ob q => Heap.get?_push_of_some _ q
  obtain ⟨its, r, ht, hz⟩ := I5.tuple hx
  have hlen : its.toArray.size = xs.length := by rw [List.size_toArray]; exact r.length.symm
  show wpAny (model X.prog X.w) X.A (subscriptTail e (.Slice none none (some (.UnaryOp .USub (.Constant (.int 1) k p1) p2)) p3) (.ref a) (.ref s4.heap.objs.size)) (EP X pins σ Q) X.xe { s4 with heap := s4.heap.push { cls := .type "slice", data := .fields #[.none, .none, vs] } }
  refine tail_any (ops := [.ref a, .ref s4.heap.objs.size]) ht.typeIs (PyProof.Rows.slot_tuple_getitem.lookup) ?_ (by with_unfolding_all rfl)
  refine getItem_tuple_rev ht (Heap.IsSliceOf.new _ .none .none vs) ps ?_ (by rw [hlen]; exact hz)
  refine ⟨.ref _, _, I5.laid (t' := s4.toks) (o := .tup xs.reverse) (fun b ob q => Heap.get?_push_of_some _ q) (Nat.le_refl _) ?_, rfl, q _ (I5.hok.fresh (Nat.le_refl _))⟩
  exact ⟨by rw [List.length_reverse]; exact hz, _, r.reverse, IsTup.new _ _⟩
/-! ### the greatest of a list of ints, or a default -/
theorem fold_max : ∀ (ns : List Int) (n : Int), (ns.foldl max n = n ∨ ns.foldl max n ∈ ns) ∧ n ≤ ns.foldl max n ∧ ∀ y ∈ ns, y ≤ ns.foldl max n
  | [], n => ⟨.inl rfl, Int.le_refl _, fun y h => nomatch h⟩
  | k :: r, n => by
    obtain ⟨h1, h2, h3⟩ := fold_max r (max n k)
    show (r.foldl max (max n k) = n ∨ r.foldl max (max n k) ∈ k :: r) ∧ n ≤ r.foldl max (max n k) ∧ ∀ y ∈ k :: r, y ≤ r.foldl max (max n k)
    have e1 : n ≤ max n k := Int.le_max_left n k
    have e2 : k ≤ max n k := Int.le_max_right n k
    refine ⟨?_, by omega, fun y hy => ?_⟩
    · rcases h1 with h1 | h1
      · rw [h1]
        by_cases c : n ≤ k
        · right
          rw [Int.max_eq_right c]
          exact List.mem_cons_self
        · left
          exact Int.max_eq_left (by omega)
      · exact .inr (List.mem_cons_of_mem _ h1)
    · rcases List.mem_cons.mp hy with z | z
      · rw [z]; omega
      · exact h3 y z
theorem shaped_ints : ∀ ns : List Int, PySem.W.AlikeAll (ns.map PyData.int) := fun ns => by
  refine ⟨fun x hx y hy => ?_, fun x hx => ?_⟩
  · obtain ⟨i, _, rfl⟩ := List.mem_map.mp hx
    obtain ⟨j, _, rfl⟩ := List.mem_map.mp hy
    rfl
  · obtain ⟨i, _, rfl⟩ := List.mem_map.mp hx
    exact fun z => nomatch z
theorem depth_ints : ∀ ns : List Int, PyData.depthAll (ns.map PyData.int) ≤ 1
  | [] => by decide
  | n :: r => by
    have := depth_ints r
    show PyData.depthAll (PyData.int n :: r.map PyData.int) ≤ 1
    unfold PyData.depthAll
    simp only [PyData.depth]
    omega
theorem dp_ints {K : PySem.W.Frag} {H : Hp} : ∀ ns : List Int, DpAll K H (ns.map V.int) (ns.map PyData.int)
  | [] => .nil
  | n :: r => .cons (.int n) (dp_ints r)
def rMaxD (K : PySem.W.Frag) : List V → List V → Hp → VK → Prop := fun vs zs H Q => ∃ (a : Addr) (ns : List Int) (d : Int), vs = [V.ref a] ∧ zs = [V.int d] ∧ SqL K H a (ns.map V.int) ∧
  (ns = [] → Q (.int d) H) ∧ (ns ≠ [] → ∀ m, m ∈ ns → (∀ y, y ∈ ns → y ≤ m) → Q (.int m) H)
theorem cr_maxD (hc : X.calm = true) (hu : X.A.units + 64 < cLine) : CallRK X (.builtin "max") [Str.ofString "default"] (rMaxD X.K) := by
  intro pins s σ H vs zs us ws Q I r rz h
  obtain ⟨a, ns, d, rfl, rfl, hs, q0, q1⟩ := h
  obtain ⟨its, rv, hl, hz⟩ := I.list hs
  rw [Vals.ref1 r]
  obtain ⟨w1, rfl, t, rfl⟩ := vals1 rz
  obtain ⟨as, hr⟩ := Dp.readsAll I (ns.map PyData.int) (ns.map V.int) its (dp_ints ns) rv
  have hd := depth_ints ns
  show wpAny (model X.prog X.w) X.A (call (.builtin "max") [.ref a] [(Str.ofString "default", .int d t)]) _ _ _
  refine PySem.W.max_list_default (I.ok.hd hc) hl.isList (xs := ns.map PyData.int) (as := as) hr (shaped_ints ns) (by omega) (fun e h' tk k => ?_) (fun y ys i v h' tk bs e hv hrd k => ?_)
  · exact ⟨.int d, H, I.kept k, ⟨_, rfl⟩, q0 (List.map_eq_nil_iff.mp e)⟩
  · cases ns with
    | nil => cases e
    | cons n0 nr =>
      rw [List.map_cons] at e
      injection e with e1 e2
      subst e1 e2
      rw [PySem.W.maxD_ints] at hrd
      obtain ⟨h1, h2, h3⟩ := fold_max nr n0
      refine ⟨.int (nr.foldl max n0), H, I.kept k, ?_, q1 (List.cons_ne_nil _ _) _ ?_ fun y hy => ?_⟩
      · cases hrd with
        | int i t => exact ⟨_, rfl⟩
      · rcases h1 with h1 | h1
        · rw [h1]; exact List.mem_cons_self
        · exact List.mem_cons_of_mem _ h1
      · rcases List.mem_cons.mp hy with z | z
        · rw [z]; exact h2
        · exact h3 y z
end
end K11

namespace K11
/-- a meeting: both ways or not, its two places, when it begins, how long it lasts -/
structure Mt where
  w : Bool
  a : Int
  b : Int
  s : Int
  l : Int
def Mt.e (m : Mt) : Int := m.s + m.l
/-- where a meeting leads from a place -/
def stp (m : Mt) (p : Int) : Option Int := if p = m.a then some m.b else if m.w = true ∧ p = m.b then some m.a else none
/-- the meeting of a number -/
def nth (ms : List Mt) (n : Int) : Option Mt := if 0 ≤ n ∧ n < (ms.length : Int) then ms[n.toNat]? else none
/-- the next place, and when -/
def nxt (ms : List Mt) (p t n : Int) : Option (Int × Int) := match nth ms n with
  | none => none
  | some m => match stp m p with
    | none => none
    | some q => if m.s < t then none else some (q, m.e)
def isW (ms : List Mt) : Int → Int → List Int → Bool
  | _, _, [] => true
  | p, t, n :: r => match nxt ms p t n with
    | none => false
    | some (q, e) => isW ms q e r
/-- the places that a row of numbers leads to -/
def plc (ms : List Mt) : Int → List Int → Option (List Int)
  | _, [] => some []
  | p, n :: r => match nth ms n with
    | none => none
    | some m => match stp m p with
      | none => none
      | some q => (plc ms q r).map (q :: ·)
def bg (ms : List Mt) (n : Int) : Int := ((nth ms n).map Mt.s).getD 0
def en (ms : List Mt) (n : Int) : Int := ((nth ms n).map Mt.e).getD 0
def cms (ms : List Mt) (t : Int) (w : List Int) : Int := (w.getLast?.map (en ms)).getD t
def wts (ms : List Mt) : Int → List Int → List Int
  | _, [] => []
  | t, n :: r => (bg ms n - t) :: wts ms (en ms n) r
/-- turned about -/
def tm (top : Int) (m : Mt) : Mt := ⟨m.w, m.b, m.a, top - m.s - m.l, m.l⟩
def tms (top : Int) (ms : List Mt) : List Mt := ms.map (tm top)
/-- a way, with the places behind the first one -/
def Ld (ms : List Mt) : Int → Int → List Int → List Int → Prop
  | _, _, [], ps => ps = []
  | p, t, n :: r, ps => ∃ m q qs, ps = q :: qs ∧ nth ms n = some m ∧ stp m p = some q ∧ t ≤ m.s ∧ Ld ms q m.e r qs
/-- the last place -/
def lp : Int → List Int → Int
  | p, [] => p
  | _, q :: qs => lp q qs
/-- the places back -/
def bk : Int → List Int → List Int
  | _, [] => []
  | p, q :: qs => bk q qs ++ [p]

theorem isW_ld : ∀ {ms : List Mt} {w : List Int} {p t : Int}, isW ms p t w = true ↔ ∃ ps, Ld ms p t w ps
  | ms, [], p, t => ⟨fun _ => ⟨[], rfl⟩, fun _ => rfl⟩
  | ms, n :: r, p, t => by
    unfold isW nxt
    constructor
    · intro h
      cases e : nth ms n with
      | none => rw [e] at h; exact absurd h Bool.false_ne_true
      | some m =>
        rw [e] at h
        cases e2 : stp m p with
        | none => simp only [e2] at h; exact absurd h Bool.false_ne_true
        | some q =>
          simp only [e2] at h
          by_cases c : m.s < t
          · rw [if_pos c] at h; exact absurd h Bool.false_ne_true
          · rw [if_neg c] at h
            obtain ⟨qs, hq⟩ := isW_ld.mp h
            exact ⟨q :: qs, m, q, qs, rfl, e, e2, by omega, hq⟩
    · rintro ⟨ps, m, q, qs, rfl, e, e2, c, hq⟩
      rw [e]
      simp only [e2]
      rw [if_neg (by omega)]
      exact isW_ld.mpr ⟨qs, hq⟩
theorem ld_plc : ∀ {ms : List Mt} {w : List Int} {p t : Int} {ps : List Int}, Ld ms p t w ps → plc ms p w = some ps
  | ms, [], p, t, ps, h => by
    have e : ps = [] := h
    rw [e]; rfl
  | ms, n :: r, p, t, ps, h => by
    obtain ⟨m, q, qs, rfl, e, e2, c, hq⟩ := h
    unfold plc
    rw [e]
    simp only [e2]
    rw [ld_plc hq]
    rfl
theorem nth_tms {top : Int} {ms : List Mt} {n : Int} : nth (tms top ms) n = (nth ms n).map (tm top) := by
  unfold nth tms
  rw [List.length_map]
  by_cases c : 0 ≤ n ∧ n < (ms.length : Int)
  · rw [if_pos c, if_pos c, List.getElem?_map]
  · rw [if_neg c, if_neg c]; rfl
theorem nth_mem {ms : List Mt} {n : Int} {m : Mt} (h : nth ms n = some m) : m ∈ ms := by
  unfold nth at h
  by_cases c : 0 ≤ n ∧ n < (ms.length : Int)
  · rw [if_pos c] at h; exact List.mem_of_getElem? h
  · rw [if_neg c] at h; cases h
theorem tm_tm (top : Int) (m : Mt) : tm top (tm top m) = m := by
  have h : top - (top - m.s - m.l) - m.l = m.s := by omega
  obtain ⟨w, a, b, s, l⟩ := m
  simp only [tm] at *
  rw [h]
theorem tms_tms (top : Int) (ms : List Mt) : tms top (tms top ms) = ms := by
  unfold tms
  rw [List.map_map]
  conv => rhs; rw [← List.map_id ms]
  exact List.map_congr_left fun m _ => tm_tm top m
theorem tm_s (top : Int) (m : Mt) : (tm top m).s = top - m.e := by
  show top - m.s - m.l = top - (m.s + m.l); omega
theorem tm_e (top : Int) (m : Mt) : (tm top m).e = top - m.s := by
  show top - m.s - m.l + m.l = top - m.s; omega
theorem stp_tm {top : Int} {m : Mt} {p q : Int} (ne : m.a ≠ m.b) (h : stp m p = some q) : stp (tm top m) q = some p := by
  unfold stp at h
  unfold stp tm
  by_cases c : p = m.a
  · rw [if_pos c] at h
    cases h
    rw [if_pos rfl, c]
  · rw [if_neg c] at h
    by_cases d : m.w = true ∧ p = m.b
    · rw [if_pos d] at h
      cases h
      show (if m.a = m.b then some m.a else if m.w = true ∧ m.a = m.a then some m.b else none) = some p
      rw [if_neg ne, if_pos ⟨d.1, rfl⟩, d.2]
    · rw [if_neg d] at h; cases h
theorem cms_nil (ms : List Mt) (t : Int) : cms ms t [] = t := rfl
theorem cms_snoc (ms : List Mt) (t : Int) (w : List Int) (n : Int) : cms ms t (w ++ [n]) = en ms n := by
  unfold cms
  rw [List.getLast?_append]
  rfl
theorem cms_cons {ms : List Mt} {t n : Int} {r : List Int} : cms ms t (n :: r) = cms ms (en ms n) r := by
  cases r with
  | nil => rfl
  | cons k r =>
    unfold cms
    rw [List.getLast?_cons_cons]
    cases h : (k :: r).getLast? with
    | none => simp at h
    | some z => rfl
theorem en_of {ms : List Mt} {n : Int} {m : Mt} (h : nth ms n = some m) : en ms n = m.e := by unfold en; rw [h]; rfl
theorem bg_of {ms : List Mt} {n : Int} {m : Mt} (h : nth ms n = some m) : bg ms n = m.s := by unfold bg; rw [h]; rfl
theorem ld_snoc : ∀ {ms : List Mt} {w : List Int} {p t : Int} {ps : List Int} {n : Int} {m : Mt} {q : Int}, Ld ms p t w ps → nth ms n = some m → stp m (lp p ps) = some q → cms ms t w ≤ m.s → Ld ms p t (w ++ [n]) (ps ++ [q])
  | ms, [], p, t, ps, n, m, q, h, e, e2, c => by
    have z : ps = [] := h
    subst z
    exact ⟨m, q, [], rfl, e, e2, c, rfl⟩
  | ms, k :: r, p, t, ps, n, m, q, h, e, e2, c => by
    obtain ⟨m', q', qs, rfl, f, f2, d, hq⟩ := h
    rw [cms_cons, en_of f] at c
    exact ⟨m', q', qs ++ [q], rfl, f, f2, d, ld_snoc hq e e2 c⟩
theorem lp_bk : ∀ (q p : Int) (qs : List Int), lp (lp q qs) (bk p (q :: qs)) = p := fun q p qs => by
  have key : ∀ (xs : List Int) (z y : Int), lp z (xs ++ [y]) = y := by
    intro xs
    induction xs with
    | nil => intro z y; rfl
    | cons x xs ih => intro z y; exact ih x y
  exact key (bk q qs) (lp q qs) p
theorem lp_bk' : ∀ (p : Int) (ps : List Int), lp (lp p ps) (bk p ps) = p
  | p, [] => rfl
  | p, q :: qs => lp_bk q p qs
theorem rev_places : ∀ (p : Int) (ps : List Int), (p :: ps).reverse = lp p ps :: bk p ps
  | p, [] => rfl
  | p, q :: qs => by
    rw [List.reverse_cons, rev_places q qs]
    rfl
/-- a way turned about -/
theorem ld_rev {top : Int} : ∀ {ms : List Mt} {w : List Int} {p t : Int} {ps : List Int} {T : Int}, (∀ m ∈ ms, m.a ≠ m.b) → Ld ms p t w ps → T ≤ top - cms ms t w → Ld (tms top ms) (lp p ps) T w.reverse (bk p ps)
  | ms, [], p, t, ps, T, wf, h, c => by
    have z : ps = [] := h
    subst z
    exact rfl
  | ms, n :: r, p, t, ps, T, wf, h, c => by
    obtain ⟨m, q, qs, rfl, e, e2, d, hq⟩ := h
    rw [cms_cons, en_of e] at c
    have ih := ld_rev (T := T) wf hq c
    rw [List.reverse_cons]
    have e3 : nth (tms top ms) n = some (tm top m) := by rw [nth_tms, e]; rfl
    refine ld_snoc ih e3 (q := p) ?_ ?_
    · show stp (tm top m) (lp (lp q qs) (bk q qs)) = some p
      rw [lp_bk']
      exact stp_tm (wf m (nth_mem e)) e2
    · rw [tm_s]
      cases r with
      | nil => exact c
      | cons k r' =>
        obtain ⟨m', q', qs', rfl, f, f2, d', hq'⟩ := hq
        have f3 : nth (tms top ms) k = some (tm top m') := by rw [nth_tms, f]; rfl
        rw [List.reverse_cons, cms_snoc, en_of f3, tm_e]
        omega
theorem ld_all : ∀ {ms : List Mt} {w : List Int} {p t : Int} {ps : List Int}, Ld ms p t w ps → ∀ n ∈ w, ∃ m, nth ms n = some m
  | ms, [], p, t, ps, _, n, h => nomatch h
  | ms, k :: r, p, t, ps, h, n, hn => by
    obtain ⟨m, q, qs, rfl, e, e2, d, hq⟩ := h
    rcases List.mem_cons.mp hn with z | z
    · rw [z]; exact ⟨m, e⟩
    · exact ld_all hq n z
theorem ld_len : ∀ {ms : List Mt} {w : List Int} {p t : Int} {ps : List Int}, Ld ms p t w ps → ps.length = w.length
  | ms, [], p, t, ps, h => by
    have z : ps = [] := h
    rw [z]
  | ms, k :: r, p, t, ps, h => by
    obtain ⟨m, q, qs, rfl, e, e2, d, hq⟩ := h
    show qs.length + 1 = r.length + 1
    rw [ld_len hq]
/-- what stands between meetings -/
def gaps (ms : List Mt) : List Int → List Int
  | [] => []
  | n :: r => match r with
    | [] => []
    | k :: _ => (bg ms k - en ms n) :: gaps ms r
theorem wts_drop : ∀ (ms : List Mt) (t : Int) (w : List Int), (wts ms t w).drop 1 = gaps ms w
  | ms, t, [] => rfl
  | ms, t, [n] => rfl
  | ms, t, n :: k :: r => by
    show (bg ms k - en ms n) :: wts ms (en ms k) r = (bg ms k - en ms n) :: gaps ms (k :: r)
    have ih := wts_drop ms (en ms n) (k :: r)
    have ih' : wts ms (en ms k) r = gaps ms (k :: r) := ih
    rw [ih']
theorem gaps_snoc : ∀ (ms : List Mt) (w : List Int) (n k : Int), gaps ms (w ++ [n] ++ [k]) = gaps ms (w ++ [n]) ++ [bg ms k - en ms n]
  | ms, [], n, k => rfl
  | ms, [x], n, k => rfl
  | ms, x :: y :: r, n, k => by
    have ih := gaps_snoc ms (y :: r) n k
    show (bg ms y - en ms x) :: gaps ms ((y :: r) ++ [n] ++ [k]) = ((bg ms y - en ms x) :: gaps ms ((y :: r) ++ [n])) ++ [bg ms k - en ms n]
    rw [ih]
    rfl
theorem gaps_rev {top : Int} : ∀ {ms : List Mt} {w : List Int}, (∀ n ∈ w, ∃ m, nth ms n = some m) → gaps (tms top ms) w.reverse = (gaps ms w).reverse
  | ms, [], _ => rfl
  | ms, [n], _ => rfl
  | ms, n :: k :: r, h => by
    have ih := gaps_rev (top := top) (ms := ms) (w := k :: r) fun x hx => h x (List.mem_cons_of_mem _ hx)
    obtain ⟨m1, e1⟩ := h n List.mem_cons_self
    obtain ⟨m2, e2⟩ := h k (List.mem_cons_of_mem _ List.mem_cons_self)
    have f1 : nth (tms top ms) n = some (tm top m1) := by rw [nth_tms, e1]; rfl
    have f2 : nth (tms top ms) k = some (tm top m2) := by rw [nth_tms, e2]; rfl
    show gaps (tms top ms) (n :: k :: r).reverse = ((bg ms k - en ms n) :: gaps ms (k :: r)).reverse
    rw [List.reverse_cons, List.reverse_cons, List.reverse_cons, gaps_snoc, ← List.reverse_cons, ih, bg_of f1, en_of f2, bg_of e2, en_of e1, tm_s, tm_e]
    have e : top - m1.e - (top - m2.s) = m2.s - m1.e := by omega
    rw [e]
/-- the ends of a row that is a way from a place at 0 -/
def go (ms : List Mt) (p t : Int) (w : List Int) : Option (List Int) := if isW ms p t w = true then plc ms p w else none
theorem go_ld {ms : List Mt} {w : List Int} {p t : Int} {ps : List Int} : go ms p t w = some ps ↔ Ld ms p t w ps := by
  unfold go
  constructor
  · intro h
    by_cases c : isW ms p t w = true
    · rw [if_pos c] at h
      obtain ⟨qs, hq⟩ := isW_ld.mp c
      rw [ld_plc hq] at h
      cases h
      exact hq
    · rw [if_neg c] at h; cases h
  · intro h
    rw [if_pos (isW_ld.mpr ⟨ps, h⟩)]
    exact ld_plc h
def ends (ms : List Mt) (row : List Int) (k : Nat) : List (Int × Int) := (List.range k).filterMap fun (i : Nat) => (go ms (i : Int) 0 row).map fun ps => ((i : Int), lp (i : Int) ps)
theorem ends_succ (ms : List Mt) (row : List Int) (k : Nat) : ends ms row (k + 1) = ends ms row k ++ ((go ms (k : Int) 0 row).map fun ps => ((k : Int), lp (k : Int) ps)).toList := by
  unfold ends
  rw [List.range_succ, List.filterMap_append]
  congr 1
theorem mem_ends {ms : List Mt} {row : List Int} {k : Nat} {x : Int × Int} : x ∈ ends ms row k ↔ 0 ≤ x.1 ∧ x.1 < (k : Int) ∧ ∃ ps, Ld ms x.1 0 row ps ∧ x.2 = lp x.1 ps := by
  unfold ends
  rw [List.mem_filterMap]
  constructor
  · rintro ⟨i, hi, h⟩
    have hi' := List.mem_range.mp hi
    cases e : go ms (i : Int) 0 row with
    | none => rw [e] at h; cases h
    | some ps =>
      rw [e] at h
      have h' : ((i : Int), lp (i : Int) ps) = x := Option.some.inj h
      subst h'
      exact ⟨Int.natCast_nonneg i, by show (i : Int) < k; omega, ps, go_ld.mp e, rfl⟩
  · rintro ⟨h0, h1, ps, h2, h3⟩
    refine ⟨x.1.toNat, List.mem_range.mpr (by omega), ?_⟩
    have e : ((x.1.toNat : Nat) : Int) = x.1 := by omega
    rw [e, go_ld.mpr h2]
    show some (x.1, lp x.1 ps) = some x
    rw [← h3]
theorem ends_lt (ms : List Mt) (row : List Int) : ∀ k : Nat, (ends ms row k).Pairwise fun x y => x.1 < y.1
  | 0 => List.Pairwise.nil
  | k + 1 => by
    rw [ends_succ]
    refine List.pairwise_append.mpr ⟨ends_lt ms row k, ?_, fun x hx y hy => ?_⟩
    · cases (go ms (k : Int) 0 row).map fun ps => ((k : Int), lp (k : Int) ps) with
      | none => exact List.Pairwise.nil
      | some z => exact List.pairwise_singleton _ _
    · have h1 := (mem_ends.mp hx).2.1
      cases e : go ms (k : Int) 0 row with
      | none => rw [e] at hy; cases hy
      | some ps =>
        rw [e] at hy
        have hy' : y ∈ [((k : Int), lp (k : Int) ps)] := hy
        have := List.mem_singleton.mp hy'
        rw [this]
        exact h1
theorem ends_len (ms : List Mt) (row : List Int) : ∀ k : Nat, (ends ms row k).length ≤ k
  | 0 => Nat.le_refl 0
  | k + 1 => by
    rw [ends_succ, List.length_append]
    have := ends_len ms row k
    cases (go ms (k : Int) 0 row).map fun ps => ((k : Int), lp (k : Int) ps) with
    | none => simp; omega
    | some z => simp; omega
/-- places are in the net -/
structure Wf (ms : List Mt) (k : Nat) (top : Int) : Prop where
  ne : ∀ m ∈ ms, m.a ≠ m.b
  a0 : ∀ m ∈ ms, 0 ≤ m.a ∧ m.a < (k : Int)
  b0 : ∀ m ∈ ms, 0 ≤ m.b ∧ m.b < (k : Int)
  s0 : ∀ m ∈ ms, 0 ≤ m.s
  e1 : ∀ m ∈ ms, m.e ≤ top
theorem Wf.tms {ms : List Mt} {k : Nat} {top : Int} (h : Wf ms k top) : Wf (tms top ms) k top := by
  have r : ∀ m ∈ K11.tms top ms, ∃ m' ∈ ms, tm top m' = m := fun m hm => by
    obtain ⟨m', h1, h2⟩ := List.mem_map.mp hm
    exact ⟨m', h1, h2⟩
  refine ⟨fun m hm => ?_, fun m hm => ?_, fun m hm => ?_, fun m hm => ?_, fun m hm => ?_⟩
  · obtain ⟨m', h1, rfl⟩ := r m hm
    exact Ne.symm (h.ne m' h1)
  · obtain ⟨m', h1, rfl⟩ := r m hm
    exact h.b0 m' h1
  · obtain ⟨m', h1, rfl⟩ := r m hm
    exact h.a0 m' h1
  · obtain ⟨m', h1, rfl⟩ := r m hm
    rw [tm_s]
    have := h.e1 m' h1
    omega
  · obtain ⟨m', h1, rfl⟩ := r m hm
    rw [tm_e]
    have := h.s0 m' h1
    omega
theorem stp_in {ms : List Mt} {k : Nat} {top : Int} (h : Wf ms k top) {m : Mt} (hm : m ∈ ms) {p q : Int} (e : stp m p = some q) : 0 ≤ q ∧ q < (k : Int) := by
  unfold stp at e
  by_cases c : p = m.a
  · rw [if_pos c] at e; cases e; exact h.b0 m hm
  · rw [if_neg c] at e
    by_cases d : m.w = true ∧ p = m.b
    · rw [if_pos d] at e; cases e; exact h.a0 m hm
    · rw [if_neg d] at e; cases e
theorem lp_in : ∀ {ms : List Mt} {w : List Int} {p t : Int} {ps : List Int} {k : Nat} {top : Int}, Wf ms k top → Ld ms p t w ps → 0 ≤ p ∧ p < (k : Int) → 0 ≤ lp p ps ∧ lp p ps < (k : Int)
  | ms, [], p, t, ps, k, top, wf, h, hp => by
    have z : ps = [] := h
    subst z
    exact hp
  | ms, n :: r, p, t, ps, k, top, wf, h, hp => by
    obtain ⟨m, q, qs, z, e, e2, d, hq⟩ := h
    subst z
    show 0 ≤ lp q qs ∧ lp q qs < (k : Int)
    exact lp_in wf hq (stp_in wf (nth_mem e) e2)
theorem cms_top {ms : List Mt} {w : List Int} {p t : Int} {ps : List Int} {k : Nat} {top : Int} (wf : Wf ms k top) (h : Ld ms p t w ps) (ht : t ≤ top) : cms ms t w ≤ top := by
  unfold cms
  cases e : w.getLast? with
  | none => exact ht
  | some n =>
    obtain ⟨m, hm⟩ := ld_all h n (List.mem_of_getLast? e)
    show en ms n ≤ top
    rw [en_of hm]
    exact wf.e1 m (nth_mem hm)
theorem swap_one {ms : List Mt} {row : List Int} {k : Nat} {top : Int} (wf : Wf ms k top) (ht : 0 ≤ top) {x y : Int} (h : (x, y) ∈ ends ms row k) : (y, x) ∈ ends (tms top ms) row.reverse k := by
  obtain ⟨h0, h1, ps, h2, h3⟩ := mem_ends.mp h
  have h3' : y = lp x ps := h3
  subst h3'
  have r := lp_in wf h2 ⟨h0, h1⟩
  refine mem_ends.mpr ⟨r.1, r.2, bk x ps, ?_, ?_⟩
  · have c := cms_top wf h2 ht
    exact ld_rev wf.ne h2 (by omega)
  · exact (lp_bk' x ps).symm
theorem swap_iff {ms : List Mt} {row : List Int} {k : Nat} {top : Int} (wf : Wf ms k top) (ht : 0 ≤ top) {x y : Int} : (x, y) ∈ ends ms row k ↔ (y, x) ∈ ends (tms top ms) row.reverse k := by
  refine ⟨swap_one wf ht, fun h => ?_⟩
  have h' := swap_one wf.tms ht h
  rw [tms_tms, List.reverse_reverse] at h'
  exact h'
def sw (x : Int × Int) : Int × Int := (x.2, x.1)
/-- a list with no item twice and with the same members is a rearrangement -/
theorem perm_of {l m : List (Int × Int)} (hl : l.Nodup) (hm : m.Nodup) (h : ∀ x, x ∈ l ↔ x ∈ m) : l.Perm m := (List.perm_ext_iff_of_nodup hl hm).mpr h
theorem ends_perm {ms : List Mt} {row : List Int} {k : Nat} {top : Int} (wf : Wf ms k top) (ht : 0 ≤ top) : (ends ms row k).Perm ((ends (tms top ms) row.reverse k).map sw) := by
  refine perm_of ((ends_lt ms row k).imp fun {x y} h e => ?_) ?_ fun x => ?_
  · rw [e] at h; omega
  · have := ends_lt (tms top ms) row.reverse k
    refine List.pairwise_map.mpr (this.imp fun {x y} h e => ?_)
    have : x.1 = y.1 := congrArg Prod.snd e
    omega
  · rw [List.mem_map]
    constructor
    · intro h
      exact ⟨(x.2, x.1), (swap_iff wf ht).mp h, rfl⟩
    · rintro ⟨y, hy, rfl⟩
      exact (swap_iff wf ht).mpr hy
/-- a sorted rearrangement of the ends turned is the ends -/
theorem lex_uniq {R : Int × Int → Int × Int → Prop} (ha : ∀ x y, R x y → R y x → x = y) : ∀ {l m : List (Int × Int)}, l.Pairwise R → m.Pairwise R → l.Perm m → l = m := by
  intro l m hl hm h
  exact List.Perm.eq_of_pairwise (fun a b _ _ => ha a b) hl hm h
end K11

namespace K11
open PySem PySem.Spec PyProof.Rows L2
/-! ### the text -/
def topS (i : Nat) : Stmt := PySem.Challenge.pw_meetways_k11_whole_ways_turned.main.body.getD i (.Pass ⟨0, 0, 0, 0⟩)
/-! ### heaps: tuples never change; all but one list stands -/
def TK (H H' : Hp) : Prop := ∀ b xs, H b = some (.tup xs) → H' b = some (.tup xs)
def Kp (d : Addr) (H H' : Hp) : Prop := ∀ b o, b ≠ d → H b = some o → H' b = some o
theorem Kp.refl (d : Addr) (H : Hp) : Kp d H H := fun _ _ _ h => h
theorem Kp.trans {d : Addr} {H H1 H2 : Hp} (a : Kp d H H1) (b : Kp d H1 H2) : Kp d H H2 := fun c o n h => b c o n (a c o n h)
theorem same_kp {d : Addr} {H H' : Hp} (s : Same H H') : Kp d H H' := fun b o _ h => s b o h
theorem same_tk {H H' : Hp} (s : Same H H') : TK H H' := fun b xs h => s b _ h
theorem TK.refl (H : Hp) : TK H H := fun _ _ h => h
theorem TK.trans {H H1 H2 : Hp} (a : TK H H1) (b : TK H1 H2) : TK H H2 := fun c xs h => b c xs (a c xs h)
theorem same_new {H : Hp} {p : Addr} (h : H p = none) (o : HO) : Same H (upd H p o) := fun b u q => by
  rw [upd_ne (ne_of_none q h)]
  exact q
theorem kp_upd {H : Hp} {d : Addr} (o : HO) : Kp d H (upd H d o) := fun b u n q => by
  rw [upd_ne n]
  exact q
theorem kp_tk {d : Addr} {H H' : Hp} {xs : List V} (k : Kp d H H') (h : H d = some (.lst xs)) : TK H H' := fun b ys q => k b _ (fun e => by
  rw [e, h] at q
  cases q) q
theorem kp_seq {K : PySem.W.Frag} {d : Addr} {H H' : Hp} {a : Addr} {xs ys : List V} (k : Kp d H H') (h : H d = some (.lst ys)) (n : a ≠ d) (s : SqL K H a xs) : SqL K H' a xs := by
  rcases s with (s | ⟨o, s⟩) | s
  · exact .inl (.inl (k _ _ n s))
  · exact .inl (.inr ⟨o, k _ _ n s⟩)
  · exact .inr s
theorem SqT.of' {K : PySem.W.Frag} {H : Hp} {a : Addr} {xs : List V} (h : H a = some (.tup xs)) : SqT K H a xs := SqT.of h
/-! ### rows of references to tuples -/
structure Rs (H : Hp) (xs : List V) (ts : List (List V)) : Prop where
  len : xs.length = ts.length
  at_ : ∀ (i : Nat) (t : List V), ts[i]? = some t → ∃ p, xs[i]? = some (.ref p) ∧ H p = some (.tup t)
theorem Rs.mono {H H' : Hp} {xs : List V} {ts : List (List V)} (r : Rs H xs ts) (k : TK H H') : Rs H' xs ts := ⟨r.len, fun i t h => by
  obtain ⟨p, h1, h2⟩ := r.at_ i t h
  exact ⟨p, h1, k _ _ h2⟩⟩
theorem rs_nil {H : Hp} : Rs H [] [] := ⟨rfl, fun i t h => by simp at h⟩
theorem Rs.snoc {H : Hp} {xs : List V} {ts : List (List V)} (r : Rs H xs ts) {p : Addr} {t : List V} (h : H p = some (.tup t)) : Rs H (xs ++ [.ref p]) (ts ++ [t]) := by
  refine ⟨by rw [List.length_append, List.length_append, r.len]; rfl, fun i u e => ?_⟩
  by_cases c : i < ts.length
  · rw [List.getElem?_append_left c] at e
    obtain ⟨q, h1, h2⟩ := r.at_ i u e
    exact ⟨q, by rw [List.getElem?_append_left (by rw [r.len]; exact c)]; exact h1, h2⟩
  · rw [List.getElem?_append_right (by omega)] at e
    have z : i - ts.length = 0 := by
      obtain ⟨h1, _⟩ := List.getElem?_eq_some_iff.mp e
      simp at h1
      omega
    rw [z] at e
    have e' : t = u := Option.some.inj e
    refine ⟨p, ?_, by rw [← e']; exact h⟩
    rw [List.getElem?_append_right (by rw [r.len]; omega), r.len, z]
    rfl
/-- an item of the row is one of the tuples -/
theorem Rs.get {H : Hp} {xs : List V} {ts : List (List V)} (r : Rs H xs ts) {i : Nat} {x : V} (h : xs[i]? = some x) : ∃ p t, x = .ref p ∧ ts[i]? = some t ∧ H p = some (.tup t) := by
  obtain ⟨h1, _⟩ := List.getElem?_eq_some_iff.mp h
  have h2 : i < ts.length := by rw [← r.len]; exact h1
  obtain ⟨p, h3, h4⟩ := r.at_ i ts[i] (List.getElem?_eq_getElem h2)
  rw [h] at h3
  exact ⟨p, ts[i], Option.some.inj h3, List.getElem?_eq_getElem h2, h4⟩
theorem Rs.tail {H : Hp} {x : V} {xs : List V} {t : List V} {ts : List (List V)} (r : Rs H (x :: xs) (t :: ts)) : (∃ p, x = .ref p ∧ H p = some (.tup t)) ∧ Rs H xs ts := by
  refine ⟨?_, ?_, fun i u h => ?_⟩
  · obtain ⟨p, h1, h2⟩ := r.at_ 0 t rfl
    exact ⟨p, Option.some.inj h1, h2⟩
  · have := r.len
    simpa using this
  · obtain ⟨p, h1, h2⟩ := r.at_ (i + 1) u h
    exact ⟨p, h1, h2⟩
theorem Rs.dp {K : PySem.W.Frag} {H : Hp} {α : Type} {f : α → List V} {g : α → List PyData} (fg : ∀ a, DpAll K H (f a) (g a)) : ∀ {xs : List V} {as : List α}, Rs H xs (as.map f) → DpAll K H xs (as.map fun a => PyData.tuple (g a))
  | [], [], _ => .nil
  | [], a :: as, r => by have := r.len; simp at this
  | x :: xs, [], r => by have := r.len; simp at this
  | x :: xs, a :: as, r => by
    obtain ⟨⟨p, e, h⟩, r'⟩ := r.tail
    subst e
    exact .cons (.tup (SqT.of h) (fg a)) (Rs.dp fg r')
/-! ### meetings, nets, rows of numbers -/
def wd (b : Bool) : Str := if b then "both" else "to"
def mV (m : Mt) : List V := [.str (wd m.w), .int m.a, .int m.b, .int m.s, .int m.l]
def mD (m : Mt) : List PyData := [.str (wd m.w), .int m.a, .int m.b, .int m.s, .int m.l]
def Ms (H : Hp) (xs : List V) (ms : List Mt) : Prop := Rs H xs (ms.map mV)
theorem dp_m {K : PySem.W.Frag} {H : Hp} (m : Mt) : DpAll K H (mV m) (mD m) := .cons (.str _) (.cons (.int _) (.cons (.int _) (.cons (.int _) (.cons (.int _) .nil))))
theorem Ms.get {H : Hp} {xs : List V} {ms : List Mt} (r : Ms H xs ms) {i : Nat} {m : Mt} (h : ms[i]? = some m) : ∃ p, xs[i]? = some (.ref p) ∧ H p = some (.tup (mV m)) := Rs.at_ r i (mV m) (by rw [List.getElem?_map, h]; rfl)
theorem Ms.len {H : Hp} {xs : List V} {ms : List Mt} (r : Ms H xs ms) : xs.length = ms.length := by
  have := Rs.len r
  rw [List.length_map] at this
  exact this
theorem Ms.mono {H H' : Hp} {xs : List V} {ms : List Mt} (r : Ms H xs ms) (k : TK H H') : Ms H' xs ms := Rs.mono r k
theorem Ms.snoc {H : Hp} {xs : List V} {ms : List Mt} (r : Ms H xs ms) {p : Addr} {m : Mt} (h : H p = some (.tup (mV m))) : Ms H (xs ++ [.ref p]) (ms ++ [m]) := by
  show Rs H (xs ++ [.ref p]) ((ms ++ [m]).map mV)
  rw [List.map_append]
  exact Rs.snoc r h
def Net (H : Hp) (v : V) (k : Int) (ms : List Mt) : Prop := ∃ p q xs, v = .ref p ∧ H p = some (.tup [.int k, .ref q]) ∧ H q = some (.tup xs) ∧ Ms H xs ms
theorem Net.mono {H H' : Hp} {v : V} {k : Int} {ms : List Mt} (n : Net H v k ms) (t : TK H H') : Net H' v k ms := by
  obtain ⟨p, q, xs, e, h1, h2, h3⟩ := n
  exact ⟨p, q, xs, e, t _ _ h1, t _ _ h2, h3.mono t⟩
def netD (k : Int) (ms : List Mt) : PyData := .tuple [.int k, .tuple (ms.map fun m => .tuple (mD m))]
theorem Net.dp {K : PySem.W.Frag} {H : Hp} {v : V} {k : Int} {ms : List Mt} (n : Net H v k ms) : Dp K H v (netD k ms) := by
  obtain ⟨p, q, xs, rfl, h1, h2, h3⟩ := n
  exact .tup (SqT.of h1) (.cons (.int k) (.cons (.tup (SqT.of h2) (Rs.dp dp_m h3)) .nil))
def Row (H : Hp) (v : V) (w : List Int) : Prop := ∃ a, v = .ref a ∧ H a = some (.tup (w.map V.int))
theorem Row.mono {H H' : Hp} {v : V} {w : List Int} (n : Row H v w) (t : TK H H') : Row H' v w := by
  obtain ⟨p, e, h⟩ := n
  exact ⟨p, e, t _ _ h⟩
theorem Row.dp {K : PySem.W.Frag} {H : Hp} {v : V} {w : List Int} (n : Row H v w) : Dp K H v (.tuple (w.map PyData.int)) := by
  obtain ⟨p, rfl, h⟩ := n
  exact .tup (SqT.of h) (dp_ints w)
/-! ### shapes that == takes -/
theorem can_all : ∀ {ds : List PyData} {n : Nat}, (∀ x ∈ ds, x.canLay0 = true ∧ x.depth ≤ n) → PyData.canLayAll0 ds = true ∧ PyData.depthAll ds ≤ n
  | [], n, _ => ⟨rfl, Nat.zero_le _⟩
  | x :: xs, n, h => by
    obtain ⟨h1, h2⟩ := h x List.mem_cons_self
    obtain ⟨h3, h4⟩ := can_all fun y hy => h y (List.mem_cons_of_mem _ hy)
    refine ⟨?_, ?_⟩
    · unfold PyData.canLayAll0
      rw [h1, h3]
      rfl
    · unfold PyData.depthAll
      omega
theorem can_tup {ds : List PyData} {n : Nat} (h : ∀ x ∈ ds, x.canLay0 = true ∧ x.depth ≤ n) : (PyData.tuple ds).canLay0 = true ∧ (PyData.tuple ds).depth ≤ n + 1 := by
  obtain ⟨h1, h2⟩ := can_all h
  refine ⟨?_, ?_⟩
  · unfold PyData.canLay0
    exact h1
  · unfold PyData.depth
    omega
theorem can_lst {ds : List PyData} {n : Nat} (h : ∀ x ∈ ds, x.canLay0 = true ∧ x.depth ≤ n) : (PyData.list ds).canLay0 = true ∧ (PyData.list ds).depth ≤ n + 1 := by
  obtain ⟨h1, h2⟩ := can_all h
  refine ⟨?_, ?_⟩
  · unfold PyData.canLay0
    exact h1
  · unfold PyData.depth
    omega
theorem sh_of {d : PyData} {n : Nat} (h : d.canLay0 = true ∧ d.depth ≤ n) (hn : n ≤ 64) : SeqAt.shaped d = true := by
  unfold SeqAt.shaped
  rw [h.1, decide_eq_true (show d.depth ≤ 64 by omega)]
  rfl
theorem can_int (i : Int) : (PyData.int i).canLay0 = true ∧ (PyData.int i).depth ≤ 0 := ⟨by simp only [PyData.canLay0], by simp [PyData.depth]⟩
theorem can_ints (ns : List Int) : (PyData.tuple (ns.map PyData.int)).canLay0 = true ∧ (PyData.tuple (ns.map PyData.int)).depth ≤ 1 := can_tup fun x hx => by
  obtain ⟨i, _, rfl⟩ := List.mem_map.mp hx
  exact can_int i
theorem sh_ints (ns : List Int) : SeqAt.shaped (.tuple (ns.map PyData.int)) = true := sh_of (can_ints ns) (by decide)
theorem can_wd (b : Bool) : (PyData.str (wd b)).canLay0 = true ∧ (PyData.str (wd b)).depth ≤ 0 := by
  refine ⟨?_, by simp [PyData.depth]⟩
  cases b <;> decide +kernel
theorem can_m (m : Mt) : (PyData.tuple (mD m)).canLay0 = true ∧ (PyData.tuple (mD m)).depth ≤ 1 := can_tup fun x hx => by
  unfold mD at hx
  simp only [List.mem_cons, List.mem_nil_iff, or_false] at hx
  rcases hx with rfl | rfl | rfl | rfl | rfl
  · exact can_wd m.w
  · exact can_int _
  · exact can_int _
  · exact can_int _
  · exact can_int _
theorem can_net (k : Int) (ms : List Mt) : (netD k ms).canLay0 = true ∧ (netD k ms).depth ≤ 3 := can_tup fun x hx => by
  simp only [List.mem_cons, List.mem_nil_iff, or_false] at hx
  rcases hx with rfl | rfl
  · exact ⟨(can_int k).1, Nat.le_trans (can_int k).2 (by decide)⟩
  · refine can_tup (n := 1) fun y hy => ?_
    obtain ⟨m, _, rfl⟩ := List.mem_map.mp hy
    exact can_m m
theorem sh_net (k : Int) (ms : List Mt) : SeqAt.shaped (netD k ms) = true := sh_of (can_net k ms) (by decide)
theorem eqv_self {d : PyData} (h : SeqAt.shaped d = true) : PyData.eqv d d = true := SeqAt.eqv_refl d (SeqAt.canLay_of_shaped h)
/-- pairs of ints -/
def pV (e : Int × Int) : List V := [.int e.1, .int e.2]
def pD (e : Int × Int) : List PyData := [.int e.1, .int e.2]
theorem dp_p {K : PySem.W.Frag} {H : Hp} (e : Int × Int) : DpAll K H (pV e) (pD e) := .cons (.int _) (.cons (.int _) .nil)
def pairsD (es : List (Int × Int)) : PyData := .list (es.map fun e => .tuple (pD e))
theorem can_pairs (es : List (Int × Int)) : (pairsD es).canLay0 = true ∧ (pairsD es).depth ≤ 2 := can_lst fun x hx => by
  obtain ⟨e, _, rfl⟩ := List.mem_map.mp hx
  refine can_tup (n := 0) fun y hy => ?_
  unfold pD at hy
  simp only [List.mem_cons, List.mem_nil_iff, or_false] at hy
  rcases hy with rfl | rfl <;> exact can_int _
theorem sh_pairs (es : List (Int × Int)) : SeqAt.shaped (pairsD es) = true := sh_of (can_pairs es) (by decide)
theorem eqv_ints : ∀ {ns ks : List Int}, PyData.eqvAll (ns.map PyData.int) (ks.map PyData.int) = decide (ns = ks)
  | [], [] => rfl
  | [], k :: ks => rfl
  | n :: ns, [] => rfl
  | n :: ns, k :: ks => by
    show (PyData.eqv (.int n) (.int k) && PyData.eqvAll (ns.map PyData.int) (ks.map PyData.int)) = decide (n :: ns = k :: ks)
    rw [eqv_ints]
    show ((n == k) && decide (ns = ks)) = decide (n :: ns = k :: ks)
    rw [Bool.eq_iff_iff]
    simp
/-- == of two rows of numbers -/
theorem eqv_row (ns ks : List Int) : PyData.eqv (.tuple (ns.map PyData.int)) (.tuple (ks.map PyData.int)) = decide (ns = ks) := eqv_ints
/-! ### the drawn deck -/
def Deck (H : Hp) (d : Addr) : Prop := ∃ a b c : Int, 0 ≤ a ∧ H d = some (.lst [.int a, .int b, .int c])
theorem Deck.lst {H : Hp} {d : Addr} (h : Deck H d) : ∃ xs, H d = some (.lst xs) := by
  obtain ⟨a, b, c, _, e⟩ := h
  exact ⟨_, e⟩
theorem Deck.mono {H H' : Hp} {d : Addr} (h : Deck H d) (s : Same H H') : Deck H' d := by
  obtain ⟨a, b, c, z, e⟩ := h
  exact ⟨a, b, c, z, s _ _ e⟩
theorem Deck.tk {H H' : Hp} {d : Addr} (h : Deck H d) (k : Kp d H H') : TK H H' := by
  obtain ⟨xs, e⟩ := h.lst
  exact kp_tk k e
/-! ### a meeting by its number -/
theorem nth_some {ms : List Mt} {n : Int} {m : Mt} (h : nth ms n = some m) : 0 ≤ n ∧ n < (ms.length : Int) ∧ ms[n.toNat]? = some m := by
  unfold nth at h
  by_cases c : 0 ≤ n ∧ n < (ms.length : Int)
  · rw [if_pos c] at h
    exact ⟨c.1, c.2, h⟩
  · rw [if_neg c] at h
    cases h
theorem nth_in {ms : List Mt} {n : Int} (h0 : 0 ≤ n) (h1 : n < (ms.length : Int)) : ∃ m, nth ms n = some m ∧ ms[n.toNat]? = some m := by
  have h : n.toNat < ms.length := by omega
  refine ⟨ms[n.toNat], ?_, List.getElem?_eq_getElem h⟩
  unfold nth
  rw [if_pos ⟨h0, h1⟩, List.getElem?_eq_getElem h]
theorem nth_out {ms : List Mt} {n : Int} (h : ¬ (0 ≤ n ∧ n < (ms.length : Int))) : nth ms n = none := by
  unfold nth
  rw [if_neg h]
/-- net[1][number] -/
theorem net_at {H : Hp} {v : V} {k : Int} {ms : List Mt} {n : Int} {m : Mt} (N : Net H v k ms) (h : nth ms n = some m) :
    ∃ p q xs r, v = .ref p ∧ H p = some (.tup [.int k, .ref q]) ∧ H q = some (.tup xs) ∧ atI xs n = some (.ref r) ∧ H r = some (.tup (mV m)) := by
  obtain ⟨p, q, xs, e, h1, h2, h3⟩ := N
  obtain ⟨n0, n1, hm⟩ := nth_some h
  obtain ⟨r, hr, ht⟩ := h3.get hm
  exact ⟨p, q, xs, r, e, h1, h2, at_of (j := n.toNat) (by omega) hr, ht⟩
end K11

namespace K11
open PySem PySem.Spec PyProof.Rows L2
abbrev sTop : Stmt := topS 1
abbrev sTurnN : Stmt := topS 2
abbrev sTurnW : Stmt := topS 3
abbrev sWhole : Stmt := topS 5
abbrev sStepF : Stmt := topS 7
abbrev sNext : Stmt := topS 8
theorem scTurnW : FnScope ["way"] ["way"] (defScope sTurnW) := ⟨rfl, rfl, rfl, by decide +kernel, rfl, by decide +kernel, by decide +kernel⟩
theorem scWhole : FnScope ["thing"] ["thing"] (defScope sWhole) := ⟨rfl, rfl, rfl, by decide +kernel, rfl, by decide +kernel, by decide +kernel⟩
theorem scStepF : FnScope ["net", "number", "place", "word", "one", "other", "begin", "long"] ["net", "number", "place"] (defScope sStepF) := ⟨rfl, rfl, rfl, by decide +kernel, rfl, by decide +kernel, by decide +kernel⟩
theorem scNext : FnScope ["net", "place", "moment", "thing", "step"] ["net", "place", "moment", "thing"] (defScope sNext) := ⟨rfl, rfl, rfl, by decide +kernel, rfl, by decide +kernel, by decide +kernel⟩
section
variable {P : Program} {w : World} {K : PySem.W.Frag} {mg : Str → Option Value} {base : Heap}
/-! ### turned_way -/
def spTurnW : Sp := fun vs H Q _ => ∃ u r, vs = [u] ∧ Row H u r ∧ ∀ x H', Same H H' → Row H' x r.reverse → Q x H'
theorem ok_turnW {f : Addr} {fd : FuncData} {k : Nat} (F : Fun K "turned_way" "turned_way" sTurnW f fd) : FnOk P w K mg base CX0 (k + 1) f fd ["way"] spTurnW := by
  refine F.ok scTurnW (fun vs H Q E h => ?_) (fun cdv A outer s H vs Q E hr h => ?_)
  · obtain ⟨u, r, rfl, _⟩ := h
    rfl
  · obtain ⟨u, r, rfl, ⟨a, rfl, hS⟩, q⟩ := h
    refine ⟨_, pss_one (ps_ret (pe_revT (pv 0))), ?_⟩
    refine ⟨_, rfl, a, _, rfl, SqT.of hS, fun p np => ?_⟩
    exact q _ _ (same_new np _) ⟨p, rfl, by rw [upd_same, List.map_reverse]⟩
/-! ### is_whole -/
def spWhole : Sp := fun vs H Q _ => ∃ n : Int, vs = [.int n] ∧ Q (.bl true) H
theorem ok_whole {f : Addr} {fd : FuncData} {k : Nat} (F : Fun K "is_whole" "is_whole" sWhole f fd) (mi : mg "isinstance" = none) (mn : mg "int" = none) (mb : mg "bool" = none) : FnOk P w K mg base CX0 (k + 1) f fd ["thing"] spWhole := by
  refine F.ok scWhole (fun vs H Q E h => ?_) (fun cdv A outer s H vs Q E hr h => ?_)
  · obtain ⟨n, rfl, _⟩ := h
    rfl
  · obtain ⟨n, rfl, q⟩ := h
    refine ⟨_, pss_one (ps_ret (pe_and (pe_callB call_isi (by rfl) mi boot_isinstance (pa_cons (pv 0) (pa_cons (pe_bltn (v := .ty "int") (by rfl) mn boot_int rfl) pa_nil)))
      (pe_one (pe_not (pe_callB call_isi (by rfl) mi boot_isinstance (pa_cons (pv 0) (pa_cons (pe_bltn (v := .ty "bool") (by rfl) mb boot_bool rfl) pa_nil))))))), ?_⟩
    refine ⟨_, rfl, _, _, .type "int", .type "int", true, rfl, .ty _, .base (.int n), kit_ty (by decide +kernel), true, rfl, iteT ?_⟩
    exact ⟨_, rfl, _, _, .type "int", .type "bool", false, rfl, .ty _, .base (.int n), kit_ty (by decide +kernel), false, rfl, q⟩
/-! ### step_from -/
def stV (n p q s e : Int) : List V := [.int n, .int p, .int q, .int s, .int e]
def spStepF : Sp := fun vs H Q _ => ∃ v k ms n p m, vs = [v, .int n, .int p] ∧ Net H v k ms ∧ nth ms n = some m ∧ (stp m p = none → Q .non H) ∧
  ∀ q, stp m p = some q → ∀ r H', Same H H' → H' r = some (.tup (stV n p q m.s m.e)) → Q (.ref r) H'
theorem wd_both {b : Bool} : V.str (wd b) = V.str "both" ↔ b = true := by
  cases b with
  | true => exact ⟨fun _ => rfl, fun _ => rfl⟩
  | false => exact ⟨fun h => absurd (V.str.inj h) (by decide +kernel), fun h => absurd h Bool.false_ne_true⟩
theorem ok_stepF {f : Addr} {fd : FuncData} {k : Nat} (F : Fun K "step_from" "step_from" sStepF f fd) : FnOk P w K mg base CX0 (k + 1) f fd ["net", "number", "place"] spStepF := by
  refine F.ok scStepF (fun vs H Q E h => ?_) (fun cdv A outer s H vs Q E hr h => ?_)
  · obtain ⟨v, k, ms, n, p, m, rfl, _⟩ := h
    rfl
  · obtain ⟨v, k, ms, n, p, m, rfl, N, hm, q0, q1⟩ := h
    obtain ⟨a, b, xs, r, rfl, h1, h2, h3, h4⟩ := net_at N hm
    refine ⟨_, pss_cons (ps_asg (pe_ix ix_tup (pe_ix ix_tup (pv 0) pe_int (fun _ _ => rfl)) (pv 1) (fun _ _ => rfl))
        (pg_tup rfl (pgs_cons (pg_name (i := 3) scStepF.nd rfl (.inl rfl)) (pgs_cons (pg_name (i := 4) scStepF.nd rfl (.inl rfl)) (pgs_cons (pg_name (i := 5) scStepF.nd rfl (.inl rfl))
          (pgs_cons (pg_name (i := 6) scStepF.nd rfl (.inl rfl)) (pgs_cons (pg_name (i := 7) scStepF.nd rfl (.inl rfl)) pgs_nil)))))))
      (pss_cons (ps_if (pt_cmpR op_eq (pv 2) (pv 4) (nomark _))
        (pss_one (ps_ret (pe_tup (pa_cons (pv 1) (pa_cons (pv 4) (pa_cons (pv 5) (pa_cons (pv 6) (pa_cons (pe_op op_add (pv 6) (pv 7)) pa_nil)))))))) pss_nil)
      (pss_cons (ps_if (PW.pt (pw_and (pt_cmpR op_eq (pv 3) pe_str (nomark _)) (pw_and1 (pt_cmpR op_eq (pv 2) (pv 5) (nomark _)))))
        (pss_one (ps_ret (pe_tup (pa_cons (pv 1) (pa_cons (pv 5) (pa_cons (pv 4) (pa_cons (pv 6) (pa_cons (pe_op op_add (pv 6) (pv 7)) pa_nil)))))))) pss_nil)
      (pss_one (ps_ret pe_non)))), ?_⟩
    refine ⟨_, rfl, a, _, 1, .ref b, rfl, rfl, SqT.of h1, atI_nat (j := 1) rfl, _, rfl, b, _, n, .ref r, rfl, rfl, SqT.of h2, h3, ?_⟩
    refine ⟨r, _, rfl, SqT.of h4, rfl, _, _, rfl, _, _, rfl, _, _, rfl, _, _, rfl, _, _, rfl, rfl, ?_⟩
    refine ⟨_, rfl, _, rfl, rfl, _, rfl, ite2 (fun e => ?_) (fun e => ?_)⟩
    · have e' : p = m.a := V.int.inj (of_decide_eq_true e)
      refine ⟨_, rfl, _, rfl, _, rfl, _, rfl, _, rfl, _, rfl, _, _, rfl, rfl, (by show 5 ≤ sizeLine; decide), fun t nt => ?_⟩
      refine q1 m.b (by unfold stp; rw [if_pos e']) t _ (same_new nt _) ?_
      rw [upd_same, e']
      rfl
    · have e' : p ≠ m.a := fun z => e (decide_eq_true (congrArg V.int z))
      refine ⟨_, rfl, rfl, _, rfl, ite2 (fun c => ?_) (fun c => ?_)⟩
      · have c' : m.w = true := wd_both.mp (of_decide_eq_true c)
        refine ⟨_, rfl, _, rfl, rfl, _, rfl, ite2 (fun d => ?_) (fun d => ?_)⟩
        · have d' : p = m.b := V.int.inj (of_decide_eq_true d)
          refine ⟨_, rfl, _, rfl, _, rfl, _, rfl, _, rfl, _, rfl, _, _, rfl, rfl, (by show 5 ≤ sizeLine; decide), fun t nt => ?_⟩
          refine q1 m.a (by unfold stp; rw [if_neg e', if_pos ⟨c', d'⟩]) t _ (same_new nt _) ?_
          rw [upd_same, d']
          rfl
        · exact q0 (by unfold stp; rw [if_neg e', if_neg fun z => d (decide_eq_true (congrArg V.int z.2))])
      · refine iteF ?_
        exact q0 (by unfold stp; rw [if_neg e', if_neg fun z => c (decide_eq_true (wd_both.mpr z.1))])
end
end K11

namespace K11
open PySem PySem.Spec PyProof.Rows L2
abbrev sIsWay : Stmt := topS 9
abbrev sPlaces : Stmt := topS 10
theorem scIsWay : FnScope ["net", "place", "moment", "thing", "here", "now", "number", "step"] ["net", "place", "moment", "thing"] (defScope sIsWay) := ⟨rfl, rfl, rfl, by decide +kernel, rfl, by decide +kernel, by decide +kernel⟩
theorem scPlaces : FnScope ["net", "place", "way", "found", "number"] ["net", "place", "way"] (defScope sPlaces) := ⟨rfl, rfl, rfl, by decide +kernel, rfl, by decide +kernel, by decide +kernel⟩
theorem row_at {w : List Int} {i : Nat} {x : V} (h : (w.map V.int)[i]? = some x) : ∃ n, x = .int n ∧ w[i]? = some n ∧ w.drop i = n :: w.drop (i + 1) := by
  rw [List.getElem?_map] at h
  cases e : w[i]? with
  | none => rw [e] at h; cases h
  | some n =>
    rw [e] at h
    obtain ⟨h1, h2⟩ := List.getElem?_eq_some_iff.mp e
    refine ⟨n, (Option.some.inj h).symm, rfl, ?_⟩
    rw [← h2]
    exact List.drop_eq_getElem_cons h1
section
variable {P : Program} {w : World} {K : PySem.W.Frag} {mg : Str → Option Value} {base : Heap}
/-! ### next_step -/
def spNext : Sp := fun vs H Q _ => ∃ v k ms p t n, vs = [v, .int p, .int t, .int n] ∧ Net H v k ms ∧ (nxt ms p t n = none → ∀ H', Same H H' → Q .non H') ∧
  ∀ q e, nxt ms p t n = some (q, e) → ∀ r s H', Same H H' → H' r = some (.tup (stV n p q s e)) → Q (.ref r) H'
theorem ok_next {f fW fS : Addr} {fd fdW fdS : FuncData} {k : Nat} (F : Fun K "next_step" "next_step" sNext f fd)
    (GW : FnOk P w K mg base CX0 k fW fdW ["thing"] spWhole) (bW : Binds K fdW ["thing"] []) (kW : PySem.W.keepIn K (.ref fW) = true) (gW : mg "is_whole" = some (.ref fW))
    (GS : FnOk P w K mg base CX0 k fS fdS ["net", "number", "place"] spStepF) (bS : Binds K fdS ["net", "number", "place"] []) (kS : PySem.W.keepIn K (.ref fS) = true) (gS : mg "step_from" = some (.ref fS))
    (ml : mg "len" = none) : FnOk P w K mg base CX0 (k + 1) f fd ["net", "place", "moment", "thing"] spNext := by
  refine F.ok scNext (fun vs H Q E h => ?_) (fun cdv A outer s H vs Q E hr h => ?_)
  · obtain ⟨v, k, ms, p, t, n, rfl, _⟩ := h
    rfl
  · obtain ⟨v, k, ms, p, t, n, rfl, N, q0, q1⟩ := h
    have N' := N
    obtain ⟨a, b, xs, rfl, h1, h2, h3⟩ := N'
    have hlen := h3.len
    refine ⟨_, pss_cons (ps_if (PW.pt (pw_or (pt_not (pt_val (pe_call GW hr (by rfl) gW kW bW .nil pass0 (pa_cons (pv 3) pa_nil))))
          (pw_or1 (pt_not (pt_chain op_le op_lt pe_int (pv 3) (pe_callB call_len_seq (by rfl) ml boot_len (pa_cons (pe_ix ix_tup (pv 0) pe_int (fun _ _ => rfl)) pa_nil)))))))
        (pss_one (ps_ret pe_non)) pss_nil)
      (pss_cons (ps_set (i := 4) scNext.nd rfl (.inl rfl) (pe_call GS hr (by rfl) gS kS bS .nil pass0 (pa_cons (pv 0) (pa_cons (pv 3) (pa_cons (pv 1) pa_nil)))))
      (pss_cons (ps_if (PW.pt (pw_or (pt_cmpR op_isN (pv 4) pe_non (nomark _)) (pw_or1 (pt_cmpR op_lt (pe_ix ix_tup (pv 4) pe_int (fun _ _ => rfl)) (pv 2) (nomark _)))))
        (pss_one (ps_ret pe_non)) pss_nil)
      (pss_one (ps_ret (pv 4))))), ?_⟩
    refine ⟨_, rfl, n, rfl, true, rfl, iteF ?_⟩
    -- the rest, where the number is one of the net
    have rest : ∀ m, nth ms n = some m → tSeq (tAsg (tCall spStepF [] E0 (tCons (tVar 0) (tCons (tVar 3) (tCons (tVar 1) tNil)))) (gName 4))
        (tSeq (tIfS (tOr (tTest (tOp (fun x y H Q => y = .non ∧ Q (.bl (decide (x = .non))) H) (tVar 4) (tC .non))) (tTest (tOp (rI0 fun i j => .bl (decide (i < j))) (tOp (rIxT K) (tVar 4) (tC (.int 3))) (tVar 2)))) (tRet (tC .non)) tNext) (tRet (tVar 4)))
        { nx := fun _ H' => Q .non H', rt := Q } (start ["net", "place", "moment", "thing", "step"] [.ref a, .int p, .int t, .int n]) H := by
      intro m hm
      refine ⟨_, rfl, _, rfl, _, rfl, _, k, ms, n, p, m, rfl, N, hm, fun e => ?_, fun q e r H1 s1 hr1 => ?_⟩
      · refine ⟨_, rfl, rfl, true, rfl, iteT ?_⟩
        refine q0 ?_ H (Same.refl H)
        unfold nxt
        rw [hm]
        simp only [e]
      · refine ⟨_, rfl, rfl, false, rfl, iteF ?_⟩
        refine ⟨_, rfl, r, _, 3, .int m.s, rfl, rfl, SqT.of hr1, atI_nat (j := 3) rfl, _, rfl, m.s, t, rfl, rfl, _, rfl, ite2 (fun c => ?_) (fun c => ?_)⟩
        · refine q0 ?_ H1 s1
          unfold nxt
          rw [hm]
          simp only [e]
          rw [if_pos (of_decide_eq_true c)]
        · refine ⟨_, rfl, q1 q m.e ?_ r m.s H1 s1 hr1⟩
          unfold nxt
          rw [hm]
          simp only [e]
          rw [if_neg fun z => c (decide_eq_true z)]
    have out : ¬ (0 ≤ n ∧ n < (ms.length : Int)) → Q .non H := fun z => q0 (by unfold nxt; rw [nth_out z]) H (Same.refl H)
    refine ⟨_, rfl, 0, n, rfl, rfl, _, rfl, ite2 (fun c => ?_) (fun c => ?_)⟩
    · have c' : 0 ≤ n := of_decide_eq_true c
      refine ⟨_, rfl, a, _, 1, .ref b, rfl, rfl, SqT.of h1, atI_nat (j := 1) rfl, b, xs, rfl, .inr (SqT.of h2), n, _, rfl, rfl, _, rfl, ?_⟩
      rw [hlen]
      by_cases d : n < (ms.length : Int)
      · rw [decide_eq_true d]
        refine iteF ?_
        obtain ⟨m, hm, _⟩ := nth_in c' d
        exact rest m hm
      · rw [decide_eq_false d]
        refine iteT ?_
        exact out fun z => d z.2
    · refine ⟨false, rfl, iteT ?_⟩
      exact out fun z => c (decide_eq_true z.1)
/-! ### is_way -/
def spIsWay : Sp := fun vs H Q _ => ∃ v k ms p t u r, vs = [v, .int p, .int t, u] ∧ Net H v k ms ∧ Row H u r ∧ ∀ H', Same H H' → Q (.bl (isW ms p t r)) H'
theorem ok_isWay {f fN : Addr} {fd fdN : FuncData} {k : Nat} (F : Fun K "is_way" "is_way" sIsWay f fd)
    (GN : FnOk P w K mg base CX0 k fN fdN ["net", "place", "moment", "thing"] spNext) (bN : Binds K fdN ["net", "place", "moment", "thing"] []) (kN : PySem.W.keepIn K (.ref fN) = true) (gN : mg "next_step" = some (.ref fN))
    (mi : mg "isinstance" = none) (mt : mg "tuple" = none) : FnOk P w K mg base CX0 (k + 1) f fd ["net", "place", "moment", "thing"] spIsWay := by
  refine F.ok scIsWay (fun vs H Q E h => ?_) (fun cdv A outer s H vs Q E hr h => ?_)
  · obtain ⟨v, k, ms, p, t, u, r, rfl, _⟩ := h
    rfl
  · obtain ⟨v, k, ms, p, t, u, r, rfl, N, ⟨a, rfl, hS⟩, q⟩ := h
    refine ⟨_, pss_cons (ps_if (pt_not (pt_val (pe_callB call_isi (by rfl) mi boot_isinstance (pa_cons (pv 3) (pa_cons (pe_bltn (v := .ty "tuple") (by rfl) mt boot_tuple rfl) pa_nil)))))
        (pss_one (ps_ret pe_bl)) pss_nil)
      (pss_cons (ps_set (i := 4) scIsWay.nd rfl (.inl rfl) (pv 1))
      (pss_cons (ps_set (i := 5) scIsWay.nd rfl (.inl rfl) (pv 2))
      (pss_cons (ps_for PassesOwn.never rfl (pi_tup (pv 3)) (pg_name (i := 6) scIsWay.nd rfl (.inl rfl))
        (pss_cons (ps_set (i := 7) scIsWay.nd rfl (.inl rfl) (pe_call GN hr (by rfl) gN kN bN .nil pass0 (pa_cons (pv 0) (pa_cons (pv 4) (pa_cons (pv 5) (pa_cons (pv 6) pa_nil))))))
        (pss_cons (ps_if (pt_cmpR op_isN (pv 7) pe_non (nomark _)) (pss_one (ps_ret pe_bl)) pss_nil)
        (pss_cons (ps_set (i := 4) scIsWay.nd rfl (.inl rfl) (pe_ix ix_tup (pv 7) pe_int (fun _ _ => rfl)))
        (pss_one (ps_set (i := 5) scIsWay.nd rfl (.inl rfl) (pe_ix ix_tup (pv 7) pe_int (fun _ _ => rfl))))))))
      (pss_one (ps_ret pe_bl))))), ?_⟩
    refine ⟨_, rfl, _, _, .type "tuple", .type "tuple", true, rfl, .ty _, .base (.tup hS), kit_ty (by decide +kernel), true, rfl, iteF ?_⟩
    refine ⟨_, rfl, _, rfl, _, rfl, a, rfl, ⟨_, SqT.of hS⟩, for_tup (xs := r.map V.int)
      (fun i σ H' => ∃ h n y6 y7, σ = [some v, some (.int p), some (.int t), some (.ref a), some (.int h), some (.int n), y6, y7] ∧ Same H H' ∧ isW ms h n (r.drop i) = isW ms p t r)
      ⟨p, t, none, none, rfl, Same.refl H, rfl⟩ (fun i σ H' hi hP => ?_) (fun i x σ H' hx hP => ?_) (fun σ H' hP => ?_)⟩
    · obtain ⟨_, _, _, _, _, s1, _⟩ := hP
      exact SqT.of (s1 _ _ hS)
    · obtain ⟨h, n, y6, y7, rfl, s1, e⟩ := hP
      obtain ⟨j, rfl, hj, hd⟩ := row_at hx
      rw [hd] at e
      refine ⟨_, rfl, _, rfl, _, rfl, _, rfl, v, k, ms, h, n, j, rfl, N.mono (same_tk s1), fun z H2 s2 => ?_, fun h2 n2 z r2 b2 H2 s2 e2 => ?_⟩
      · refine ⟨_, rfl, rfl, true, rfl, iteT ?_⟩
        have e3 : isW ms p t r = false := by
          rw [← e]
          unfold isW
          rw [z]
        have := q H2 (s1.trans s2)
        rw [e3] at this
        exact this
      · refine ⟨_, rfl, rfl, false, rfl, iteF ?_⟩
        refine ⟨_, rfl, r2, _, 2, .int h2, rfl, rfl, SqT.of e2, atI_nat (j := 2) rfl, ?_⟩
        refine ⟨_, rfl, r2, _, 4, .int n2, rfl, rfl, SqT.of e2, atI_nat (j := 4) rfl, ?_⟩
        refine ⟨h2, n2, _, _, rfl, s1.trans s2, ?_⟩
        rw [← e]
        conv => rhs; unfold isW
        rw [z]
    · obtain ⟨h, n, y6, y7, rfl, s1, e⟩ := hP
      have e3 : isW ms p t r = true := by
        rw [← e, List.drop_of_length_le (by rw [List.length_map]; exact Nat.le_refl _)]
        rfl
      have := q H' s1
      rw [e3] at this
      exact this
/-! ### places_on -/
def spPlaces : Sp := fun vs H Q _ => ∃ v k ms p u r ps, vs = [v, .int p, u] ∧ Net H v k ms ∧ Row H u r ∧ r.length ≤ 900 ∧ plc ms p r = some ps ∧ ∀ x H', Same H H' → Row H' x (p :: ps) → Q x H'
theorem plc_cons {ms : List Mt} {p n : Int} {r ps : List Int} (h : plc ms p (n :: r) = some ps) : ∃ m q qs, nth ms n = some m ∧ stp m p = some q ∧ plc ms q r = some qs ∧ ps = q :: qs := by
  unfold plc at h
  cases e : nth ms n with
  | none => rw [e] at h; cases h
  | some m =>
    rw [e] at h
    cases e2 : stp m p with
    | none => simp only [e2] at h; cases h
    | some q =>
      simp only [e2] at h
      cases e3 : plc ms q r with
      | none => rw [e3] at h; cases h
      | some qs =>
        rw [e3] at h
        exact ⟨m, q, qs, rfl, e2, e3, (Option.some.inj h).symm⟩
theorem ok_places {f fS : Addr} {fd fdS : FuncData} {k : Nat} (F : Fun K "places_on" "places_on" sPlaces f fd)
    (GS : FnOk P w K mg base CX0 k fS fdS ["net", "number", "place"] spStepF) (bS : Binds K fdS ["net", "number", "place"] []) (kS : PySem.W.keepIn K (.ref fS) = true) (gS : mg "step_from" = some (.ref fS))
    (mt : mg "tuple" = none) : FnOk P w K mg base CX0 (k + 1) f fd ["net", "place", "way"] spPlaces := by
  refine F.ok scPlaces (fun vs H Q E h => ?_) (fun cdv A outer s H vs Q E hr h => ?_)
  · obtain ⟨v, k, ms, p, u, r, ps, rfl, _⟩ := h
    rfl
  · obtain ⟨v, k, ms, p, u, r, ps, rfl, N, ⟨a, rfl, hS⟩, hlen, hpl, q⟩ := h
    refine ⟨_, pss_cons (ps_set (i := 3) scPlaces.nd rfl (.inl rfl) (pe_lst (pa_cons (pv 1) pa_nil)))
      (pss_cons (ps_for PassesOwn.never rfl (pi_tup (pv 2)) (pg_name (i := 4) scPlaces.nd rfl (.inl rfl))
        (pss_one (ps_expr (pe_bm PySem.F.plainAttrs_list PySem.F.slot_list_append PySem.F.type_list_append mt_append (pv 3)
          (pa_cons (pe_ix ix_tup (pe_call GS hr (by rfl) gS kS bS .nil pass0 (pa_cons (pv 0) (pa_cons (pv 4) (pa_cons (pe_ix ix_list (pv 3) (pe_un un_neg pe_int) (fun _ _ => rfl)) pa_nil)))) pe_int (fun _ _ => rfl)) pa_nil)))))
      (pss_one (ps_ret (pe_callTy call_tuple_of (by rfl) mt boot_tuple (pa_cons (pv 3) pa_nil))))), ?_⟩
    refine ⟨_, rfl, (by show 1 ≤ sizeLine; decide), fun o no => ?_⟩
    have s0 : Same H (upd H o (.lst [.int p])) := same_new no _
    refine ⟨_, rfl, a, rfl, ⟨_, SqT.of (s0 _ _ hS)⟩, for_tup (xs := r.map V.int)
      (fun i σ H' => ∃ acc h y4 qs, σ = [some v, some (.int p), some (.ref a), some (.ref o), y4] ∧ Same H H' ∧ H' o = some (.lst ((acc.map V.int) ++ [.int h])) ∧ acc.length = i ∧ plc ms h (r.drop i) = some qs ∧ acc ++ h :: qs = p :: ps)
      ⟨[], p, none, ps, rfl, s0, upd_same, rfl, hpl, rfl⟩ (fun i σ H' hi hP => ?_) (fun i x σ H' hx hP => ?_) (fun σ H' hP => ?_)⟩
    · obtain ⟨_, _, _, _, _, s1, _⟩ := hP
      exact SqT.of (s1 _ _ hS)
    · obtain ⟨acc, h, y4, qs, rfl, s1, eo, el, e, ea⟩ := hP
      obtain ⟨j, rfl, hj, hd⟩ := row_at hx
      rw [hd] at e
      obtain ⟨m, h2, qs2, hm, hs, hq, rfl⟩ := plc_cons e
      refine ⟨_, rfl, .inl ⟨rfl, _, SqL.of eo⟩, _, rfl, _, rfl, _, rfl, 1, rfl, o, _, -1, .int h, rfl, rfl, SqL.of eo, atI_last _ _, ?_⟩
      refine ⟨v, k, ms, j, h, m, rfl, N.mono (same_tk s1), hm, fun z => ?_, fun h3 z r2 H2 s2 e2 => ?_⟩
      · rw [hs] at z
        cases z
      · rw [hs] at z
        cases z
        refine ⟨r2, _, 2, .int h2, rfl, rfl, SqT.of e2, atI_nat (j := 2) rfl, o, _, .int h2, rfl, rfl, s2 _ _ eo, ?_, ?_⟩
        · rw [List.length_append, List.length_map, el]
          have : i < (r.map V.int).length := by
            obtain ⟨z, _⟩ := List.getElem?_eq_some_iff.mp hx
            exact z
          rw [List.length_map] at this
          exact small1000 (by show i + 1 ≤ 1000; omega)
        · refine ⟨acc ++ [h], h2, _, qs2, rfl, fun b z e3 => ?_, ?_, ?_, hq, ?_⟩
          · rw [upd_ne (ne_of_none e3 no)]
            exact s2 _ _ (s1 _ _ e3)
          · rw [upd_same, List.map_append]
            rfl
          · rw [List.length_append, el]
            rfl
          · rw [List.append_assoc]
            exact ea
    · obtain ⟨acc, h, y4, qs, rfl, s1, eo, el, e, ea⟩ := hP
      rw [List.drop_of_length_le (by rw [List.length_map]; exact Nat.le_refl _)] at e
      have e' : qs = [] := (Option.some.inj e).symm
      subst e'
      refine ⟨_, rfl, o, _, rfl, .inl ⟨SqL.of eo, fun l nl => ?_⟩⟩
      refine q _ _ (s1.trans (same_new nl _)) ⟨l, rfl, ?_⟩
      rw [upd_same, ← ea, List.map_append]
      rfl
end
end K11

namespace K11
open PySem PySem.Spec PyProof.Rows L2
abbrev sComes : Stmt := topS 11
abbrev sWaits : Stmt := topS 12
theorem scComes : FnScope ["net", "moment", "way", "word", "one", "other", "begin", "long"] ["net", "moment", "way"] (defScope sComes) := ⟨rfl, rfl, rfl, by decide +kernel, rfl, by decide +kernel, by decide +kernel⟩
theorem scWaits : FnScope ["net", "moment", "way", "found", "now", "number", "word", "one", "other", "begin", "long"] ["net", "moment", "way"] (defScope sWaits) := ⟨rfl, rfl, rfl, by decide +kernel, rfl, by decide +kernel, by decide +kernel⟩
theorem scTop : FnScope ["net", "word", "one", "other", "begin", "long"] ["net"] (defScope sTop) := ⟨rfl, rfl, rfl, by decide +kernel, rfl, by decide +kernel, by decide +kernel⟩
theorem scTurnN : FnScope ["net", "top", "found", "word", "one", "other", "begin", "long"] ["net", "top"] (defScope sTurnN) := ⟨rfl, rfl, rfl, by decide +kernel, rfl, by decide +kernel, by decide +kernel⟩
theorem map_last {r : List Int} {n : Int} (h : r.getLast? = some n) : atI (r.map V.int) (-1) = some (.int n) := by
  obtain ⟨ys, rfl⟩ := List.getLast?_eq_some_iff.mp h
  rw [List.map_append]
  exact atI_last _ _
theorem ms_at {H : Hp} {xs : List V} {ms : List Mt} (h : Ms H xs ms) {i : Nat} {x : V} (e : xs[i]? = some x) : ∃ p m, x = .ref p ∧ ms[i]? = some m ∧ H p = some (.tup (mV m)) := by
  obtain ⟨h1, _⟩ := List.getElem?_eq_some_iff.mp e
  have h2 : i < ms.length := by rw [← h.len]; exact h1
  obtain ⟨p, h3, h4⟩ := h.get (List.getElem?_eq_getElem h2)
  rw [e] at h3
  exact ⟨p, ms[i], Option.some.inj h3, List.getElem?_eq_getElem h2, h4⟩
theorem lc_yes {s : L2.St} {H : Hp} {G : Bool → Hp → Prop} (h : G true H) : tYes s H G := h
section
variable {P : Program} {w : World} {K : PySem.W.Frag} {mg : Str → Option Value} {base : Heap}
/-! ### comes_at -/
def spComes : Sp := fun vs H Q _ => ∃ v k ms t u r, vs = [v, .int t, u] ∧ Net H v k ms ∧ Row H u r ∧ (∀ n ∈ r, ∃ m, nth ms n = some m) ∧ ∀ H', Same H H' → Q (.int (cms ms t r)) H'
theorem ok_comes {f : Addr} {fd : FuncData} {k : Nat} (F : Fun K "comes_at" "comes_at" sComes f fd) : FnOk P w K mg base CX0 (k + 1) f fd ["net", "moment", "way"] spComes := by
  refine F.ok scComes (fun vs H Q E h => ?_) (fun cdv A outer s H vs Q E hr h => ?_)
  · obtain ⟨v, k, ms, t, u, r, rfl, _⟩ := h
    rfl
  · obtain ⟨v, k, ms, t, u, r, rfl, N, R, hall, q⟩ := h
    refine ⟨_, pss_cons (ps_if (pt_cmpR (op_eqD hr.units) (pv 2) (pe_tup pa_nil) (nomark _)) (pss_one (ps_ret (pv 1))) pss_nil)
      (pss_cons (ps_asg (pe_ix ix_tup (pe_ix ix_tup (pv 0) pe_int (fun _ _ => rfl)) (pe_ix ix_tup (pv 2) (pe_un un_neg pe_int) (fun _ _ => rfl)) (fun _ _ => rfl))
        (pg_tup rfl (pgs_cons (pg_name (i := 3) scComes.nd rfl (.inl rfl)) (pgs_cons (pg_name (i := 4) scComes.nd rfl (.inl rfl)) (pgs_cons (pg_name (i := 5) scComes.nd rfl (.inl rfl))
          (pgs_cons (pg_name (i := 6) scComes.nd rfl (.inl rfl)) (pgs_cons (pg_name (i := 7) scComes.nd rfl (.inl rfl)) pgs_nil)))))))
      (pss_one (ps_ret (pe_op op_add (pv 6) (pv 7))))), ?_⟩
    refine ⟨_, rfl, Nat.zero_le _, fun o no => ?_⟩
    have s0 : Same H (upd H o (.tup [])) := same_new no _
    have N1 := N.mono (same_tk s0)
    have R1 := R.mono (same_tk s0)
    refine ⟨_, _, R1.dp, .tup (SqT.of upd_same) (dp_ints []), sh_ints r, sh_ints [], _, rfl, ?_⟩
    rw [show PyData.eqv (.tuple (r.map PyData.int)) (.tuple (([] : List Int).map PyData.int)) = decide (r = []) from eqv_row r []]
    refine ite2 (fun e => ?_) (fun e => ?_)
    · have e' : r = [] := of_decide_eq_true e
      subst e'
      exact ⟨_, rfl, q _ s0⟩
    · cases hl : r.getLast? with
      | none => exact absurd (decide_eq_true (List.getLast?_eq_none_iff.mp hl)) e
      | some n =>
        obtain ⟨m, hm⟩ := hall n (List.mem_of_getLast? hl)
        obtain ⟨a, b, xs, c, rfl, h1, h2, h3, h4⟩ := net_at N1 hm
        obtain ⟨d, rfl, hd⟩ := R1
        refine ⟨_, rfl, a, _, 1, .ref b, rfl, rfl, SqT.of h1, atI_nat (j := 1) rfl, _, rfl, 1, rfl, d, _, -1, .int n, rfl, rfl, SqT.of hd, map_last hl, b, xs, n, .ref c, rfl, rfl, SqT.of h2, h3, ?_⟩
        refine ⟨c, _, rfl, SqT.of h4, rfl, _, _, rfl, _, _, rfl, _, _, rfl, _, _, rfl, _, _, rfl, rfl, ?_⟩
        refine ⟨_, rfl, _, rfl, m.s, m.l, rfl, rfl, ?_⟩
        have e2 : cms ms t r = m.s + m.l := by
          unfold cms
          rw [hl]
          exact en_of hm
        have := q _ s0
        rw [e2] at this
        exact this
/-! ### waits_on -/
def spWaits : Sp := fun vs H Q _ => ∃ v k ms t u r, vs = [v, .int t, u] ∧ Net H v k ms ∧ Row H u r ∧ r.length ≤ 900 ∧ (∀ n ∈ r, ∃ m, nth ms n = some m) ∧ ∀ x H', Same H H' → Row H' x (wts ms t r) → Q x H'
theorem ok_waits {f : Addr} {fd : FuncData} {k : Nat} (F : Fun K "waits_on" "waits_on" sWaits f fd) (mt : mg "tuple" = none) : FnOk P w K mg base CX0 (k + 1) f fd ["net", "moment", "way"] spWaits := by
  refine F.ok scWaits (fun vs H Q E h => ?_) (fun cdv A outer s H vs Q E hr h => ?_)
  · obtain ⟨v, k, ms, t, u, r, rfl, _⟩ := h
    rfl
  · obtain ⟨v, k, ms, t, u, r, rfl, N, ⟨a, rfl, hS⟩, hlen, hall, q⟩ := h
    refine ⟨_, pss_cons (ps_set (i := 3) scWaits.nd rfl (.inl rfl) (pe_lst pa_nil))
      (pss_cons (ps_set (i := 4) scWaits.nd rfl (.inl rfl) (pv 1))
      (pss_cons (ps_for PassesOwn.never rfl (pi_tup (pv 2)) (pg_name (i := 5) scWaits.nd rfl (.inl rfl))
        (pss_cons (ps_asg (pe_ix ix_tup (pe_ix ix_tup (pv 0) pe_int (fun _ _ => rfl)) (pv 5) (fun _ _ => rfl))
          (pg_tup rfl (pgs_cons (pg_name (i := 6) scWaits.nd rfl (.inl rfl)) (pgs_cons (pg_name (i := 7) scWaits.nd rfl (.inl rfl)) (pgs_cons (pg_name (i := 8) scWaits.nd rfl (.inl rfl))
            (pgs_cons (pg_name (i := 9) scWaits.nd rfl (.inl rfl)) (pgs_cons (pg_name (i := 10) scWaits.nd rfl (.inl rfl)) pgs_nil)))))))
        (pss_cons (ps_expr (pe_bm PySem.F.plainAttrs_list PySem.F.slot_list_append PySem.F.type_list_append mt_append (pv 3) (pa_cons (pe_op op_sub (pv 9) (pv 4)) pa_nil)))
        (pss_one (ps_set (i := 4) scWaits.nd rfl (.inl rfl) (pe_op op_add (pv 9) (pv 10)))))))
      (pss_one (ps_ret (pe_callTy call_tuple_of (by rfl) mt boot_tuple (pa_cons (pv 3) pa_nil)))))), ?_⟩
    refine ⟨Nat.zero_le _, fun o no => ?_⟩
    have s0 : Same H (upd H o (.lst [])) := same_new no _
    refine ⟨_, rfl, _, rfl, a, rfl, ⟨_, SqT.of (s0 _ _ hS)⟩, for_tup (xs := r.map V.int)
      (fun i σ H' => ∃ acc now y5 y6 y7 y8 y9 y10, σ = [some v, some (.int t), some (.ref a), some (.ref o), some (.int now), y5, y6, y7, y8, y9, y10] ∧ Same H H' ∧ H' o = some (.lst (acc.map V.int)) ∧ acc.length = i ∧ acc ++ wts ms now (r.drop i) = wts ms t r)
      ⟨[], t, none, none, none, none, none, none, rfl, s0, upd_same, rfl, rfl⟩ (fun i σ H' hi hP => ?_) (fun i x σ H' hx hP => ?_) (fun σ H' hP => ?_)⟩
    · obtain ⟨_, _, _, _, _, _, _, _, _, s1, _⟩ := hP
      exact SqT.of (s1 _ _ hS)
    · obtain ⟨acc, now, y5, y6, y7, y8, y9, y10, rfl, s1, eo, el, e⟩ := hP
      obtain ⟨j, rfl, hj, hd⟩ := row_at hx
      rw [hd] at e
      obtain ⟨m, hm⟩ := hall j (List.mem_of_getElem? hj)
      obtain ⟨b, c, xs, d, ev, h1, h2, h3, h4⟩ := net_at (N.mono (same_tk s1)) hm
      subst ev
      refine ⟨_, rfl, b, _, 1, .ref c, rfl, rfl, SqT.of h1, atI_nat (j := 1) rfl, _, rfl, c, xs, j, .ref d, rfl, rfl, SqT.of h2, h3, ?_⟩
      refine ⟨d, _, rfl, SqT.of h4, rfl, _, _, rfl, _, _, rfl, _, _, rfl, _, _, rfl, _, _, rfl, rfl, ?_⟩
      refine ⟨_, rfl, .inl ⟨rfl, _, SqL.of eo⟩, _, rfl, _, rfl, m.s, now, rfl, rfl, o, _, .int (m.s - now), rfl, rfl, eo, ?_, ?_⟩
      · rw [List.length_map, el]
        have : i < (r.map V.int).length := by
          obtain ⟨z, _⟩ := List.getElem?_eq_some_iff.mp hx
          exact z
        rw [List.length_map] at this
        exact small1000 (by omega)
      · refine ⟨_, rfl, _, rfl, m.s, m.l, rfl, rfl, ?_⟩
        refine ⟨acc ++ [m.s - now], m.s + m.l, _, _, _, _, _, _, rfl, fun b z e3 => ?_, ?_, ?_, ?_⟩
        · rw [upd_ne (ne_of_none e3 no)]
          exact s1 _ _ e3
        · rw [upd_same, List.map_append]
          rfl
        · rw [List.length_append, el]
          rfl
        · rw [← e, List.append_assoc]
          show acc ++ ((m.s - now) :: wts ms (m.s + m.l) (r.drop (i + 1))) = acc ++ ((bg ms j - now) :: wts ms (en ms j) (r.drop (i + 1)))
          rw [bg_of hm, en_of hm]
          rfl
    · obtain ⟨acc, now, y5, y6, y7, y8, y9, y10, rfl, s1, eo, el, e⟩ := hP
      rw [List.drop_of_length_le (by rw [List.length_map]; exact Nat.le_refl _)] at e
      refine ⟨_, rfl, o, _, rfl, .inl ⟨SqL.of eo, fun l nl => ?_⟩⟩
      refine q _ _ (s1.trans (same_new nl _)) ⟨l, rfl, ?_⟩
      rw [upd_same, ← e]
      show some (HO.tup (acc.map V.int)) = some (HO.tup ((acc ++ []).map V.int))
      rw [List.append_nil]
/-! ### turned_net -/
def spTurnN : Sp := fun vs H Q _ => ∃ v k ms top, vs = [v, .int top] ∧ Net H v k ms ∧ ms.length ≤ 900 ∧ ∀ x H', Same H H' → Net H' x k (tms top ms) → Q x H'
theorem ok_turnN {f : Addr} {fd : FuncData} {k : Nat} (F : Fun K "turned_net" "turned_net" sTurnN f fd) (mt : mg "tuple" = none) : FnOk P w K mg base CX0 (k + 1) f fd ["net", "top"] spTurnN := by
  refine F.ok scTurnN (fun vs H Q E h => ?_) (fun cdv A outer s H vs Q E hr h => ?_)
  · obtain ⟨v, k, ms, top, rfl, _⟩ := h
    rfl
  · obtain ⟨v, k, ms, top, rfl, ⟨a, b, xs, rfl, h1, h2, h3⟩, hlen, q⟩ := h
    have hxl := h3.len
    refine ⟨_, pss_cons (ps_set (i := 2) scTurnN.nd rfl (.inl rfl) (pe_lst pa_nil))
      (pss_cons (ps_for PassesOwn.never rfl (pi_tup (pe_ix ix_tup (pv 0) pe_int (fun _ _ => rfl)))
        (pg_tup rfl (pgs_cons (pg_name (i := 3) scTurnN.nd rfl (.inl rfl)) (pgs_cons (pg_name (i := 4) scTurnN.nd rfl (.inl rfl)) (pgs_cons (pg_name (i := 5) scTurnN.nd rfl (.inl rfl))
            (pgs_cons (pg_name (i := 6) scTurnN.nd rfl (.inl rfl)) (pgs_cons (pg_name (i := 7) scTurnN.nd rfl (.inl rfl)) pgs_nil))))))
        (pss_one (ps_expr (pe_bm PySem.F.plainAttrs_list PySem.F.slot_list_append PySem.F.type_list_append mt_append (pv 2)
          (pa_cons (pe_tup (pa_cons (pv 3) (pa_cons (pv 5) (pa_cons (pv 4) (pa_cons (pe_op op_sub (pe_op op_sub (pv 1) (pv 6)) (pv 7)) (pa_cons (pv 7) pa_nil)))))) pa_nil)))))
      (pss_one (ps_ret (pe_tup (pa_cons (pe_ix ix_tup (pv 0) pe_int (fun _ _ => rfl)) (pa_cons (pe_callTy call_tuple_of (by rfl) mt boot_tuple (pa_cons (pv 2) pa_nil)) pa_nil)))))), ?_⟩
    refine ⟨Nat.zero_le _, fun o no => ?_⟩
    have s0 : Same H (upd H o (.lst [])) := same_new no _
    refine ⟨_, rfl, a, _, 1, .ref b, rfl, rfl, SqT.of (s0 _ _ h1), atI_nat (j := 1) rfl, b, rfl, ⟨_, SqT.of (s0 _ _ h2)⟩, for_tup (xs := xs)
      (fun i σ H' => ∃ ys y3 y4 y5 y6 y7, σ = [some (.ref a), some (.int top), some (.ref o), y3, y4, y5, y6, y7] ∧ Same H H' ∧ H' o = some (.lst ys) ∧ Ms H' ys (tms top (ms.take i)))
      ⟨[], none, none, none, none, none, rfl, s0, upd_same, rs_nil⟩ (fun i σ H' hi hP => ?_) (fun i x σ H' hx hP => ?_) (fun σ H' hP => ?_)⟩
    · obtain ⟨_, _, _, _, _, _, _, s1, _⟩ := hP
      exact SqT.of (s1 _ _ h2)
    · obtain ⟨ys, y3, y4, y5, y6, y7, rfl, s1, eo, hm⟩ := hP
      obtain ⟨p, m, rfl, hmi, hp⟩ := ms_at (h3.mono (same_tk s1)) hx
      refine ⟨p, _, rfl, SqT.of hp, rfl, _, _, rfl, _, _, rfl, _, _, rfl, _, _, rfl, _, _, rfl, rfl, ?_⟩
      refine ⟨_, rfl, .inl ⟨rfl, _, SqL.of eo⟩, _, rfl, _, rfl, _, rfl, _, rfl, _, rfl, top, m.s, rfl, rfl, _, rfl, top - m.s, m.l, rfl, rfl, _, rfl, (by show 5 ≤ sizeLine; decide), fun z nz => ?_⟩
      have s2 := same_new nz (.tup [.str (wd m.w), .int m.b, .int m.a, .int (top - m.s - m.l), .int m.l])
      have eo2 := s2 _ _ eo
      have hl := hm.len
      refine ⟨o, ys, .ref z, rfl, rfl, eo2, ?_, ?_⟩
      · rw [hl]
        unfold tms
        rw [List.length_map, List.length_take]
        exact small1000 (by omega)
      · refine ⟨ys ++ [.ref z], _, _, _, _, _, rfl, fun b z e3 => ?_, upd_same, ?_⟩
        · rw [upd_ne (ne_of_none e3 no)]
          exact s2 _ _ (s1 _ _ e3)
        · have k1 := kp_tk (kp_upd (.lst (ys ++ [.ref z]))) eo2
          have e1 : ms.take (i + 1) = ms.take i ++ [m] := by rw [List.take_add_one, hmi]; rfl
          rw [e1]
          unfold tms
          rw [List.map_append]
          exact Ms.snoc ((hm.mono (same_tk s2)).mono k1) (k1 _ _ upd_same)
    · obtain ⟨ys, y3, y4, y5, y6, y7, rfl, s1, eo, hm⟩ := hP
      rw [hxl, List.take_length] at hm
      refine ⟨_, rfl, a, _, 0, .int k, rfl, rfl, SqT.of (s1 _ _ h1), atI_nat (j := 0) rfl, _, rfl, o, ys, rfl, .inl ⟨SqL.of eo, fun l nl => ?_⟩⟩
      refine ⟨(by show 2 ≤ sizeLine; decide), fun p np => ?_⟩
      have s2 := same_new nl (.tup ys)
      have s3 := same_new np (.tup [.int k, .ref l])
      refine q _ _ (s1.trans (s2.trans s3)) ⟨p, l, ys, rfl, upd_same, s3 _ _ upd_same, (hm.mono (same_tk s2)).mono (same_tk s3)⟩
/-! ### top_of -/
def spTop : Sp := fun vs H Q _ => ∃ v k ms, vs = [v] ∧ Net H v k ms ∧ ms.length ≤ 900 ∧ ∀ z H', Same H H' → (∀ m ∈ ms, m.e ≤ z) → (z = 0 ∨ ∃ m ∈ ms, z = m.e) → Q (.int z) H'
theorem ok_top {f : Addr} {fd : FuncData} {k : Nat} (F : Fun K "top_of" "top_of" sTop f fd) (mm : mg "max" = none) : FnOk P w K mg base CX0 (k + 1) f fd ["net"] spTop := by
  refine F.ok scTop (fun vs H Q E h => ?_) (fun cdv A outer s H vs Q E hr h => ?_)
  · obtain ⟨v, k, ms, rfl, _⟩ := h
    rfl
  · obtain ⟨v, k, ms, rfl, ⟨a, b, xs, rfl, h1, h2, h3⟩, hlen, q⟩ := h
    have hxl := h3.len
    refine ⟨_, pss_one (ps_ret (pe_callBK (cr_maxD rfl hr.units) (by rfl) mm boot_max
      (pa_cons (pe_lc (own := [("word", 1), ("one", 2), ("other", 3), ("begin", 4), ("long", 5)]) (g := gTup K 5 (gCons (gName 1) (gCons (gName 2) (gCons (gName 3) (gCons (gName 4) (gCons (gName 5) gNil)))))) (tt := tYes) (te := tOp (rI0 fun i j => .int (i + j)) (tVar 4) (tVar 5)) rfl scTop.nd (pi_tup (pe_ix ix_tup (pv 0) pe_int (fun _ _ => rfl)))
        (blkOk_by (N := ["net", "word", "one", "other", "begin", "long"]) (sc := defScope sTop) (by decide +kernel))
        (fun _ _ _ _ _ => pg_tup (n := 5) rfl (pgs_cons (pg_name (i := 1) scTop.nd rfl (.inl rfl) (.inr rfl)) (pgs_cons (pg_name (i := 2) scTop.nd rfl (.inl rfl) (.inr rfl)) (pgs_cons (pg_name (i := 3) scTop.nd rfl (.inl rfl) (.inr rfl))
            (pgs_cons (pg_name (i := 4) scTop.nd rfl (.inl rfl) (.inr rfl)) (pgs_cons (pg_name (i := 5) scTop.nd rfl (.inl rfl) (.inr rfl)) pgs_nil))))))
        (fun _ _ _ _ _ => pts_nil) (fun _ _ _ _ _ => pe_op op_add (pv 4) (pv 5))) pa_nil) (pk_cons pe_int pk_nil))), ?_⟩
    refine ⟨_, rfl, a, _, 1, .ref b, rfl, rfl, SqT.of h1, atI_nat (j := 1) rfl, b, rfl, ⟨_, SqT.of h2⟩, fun D nD => ?_⟩
    have s0 : Same H (upd H D (.lst [])) := same_new nD _
    refine lc_tup (xs := xs) (fun i H' => Same H H' ∧ H' D = some (.lst (((ms.take i).map Mt.e).map V.int))) ⟨s0, upd_same⟩ (fun i H' hi hP => ?_) (fun i x H' hx hP => ?_) (fun H' hP => ?_)
    · exact SqT.of (hP.1 _ _ h2)
    · obtain ⟨s1, eD⟩ := hP
      obtain ⟨p, m, rfl, hmi, hp⟩ := ms_at (h3.mono (same_tk s1)) hx
      refine ⟨p, _, rfl, SqT.of hp, rfl, _, _, rfl, _, _, rfl, _, _, rfl, _, _, rfl, _, _, rfl, rfl, ?_⟩
      refine ⟨rfl, lc_yes ?_⟩
      rw [if_pos rfl]
      refine ⟨_, rfl, _, rfl, m.s, m.l, rfl, rfl, _, eD, ?_, fun b z e3 => ?_, ?_⟩
      · rw [List.length_map, List.length_map, List.length_take]
        exact small1000 (by omega)
      · rw [upd_ne (ne_of_none e3 nD)]
        exact s1 _ _ e3
      · have e1 : ms.take (i + 1) = ms.take i ++ [m] := by rw [List.take_add_one, hmi]; rfl
        rw [upd_same, e1, List.map_append, List.map_append]
        rfl
    · obtain ⟨s1, eD⟩ := hP
      rw [hxl, List.take_length] at eD
      refine ⟨D, ms.map Mt.e, 0, rfl, rfl, SqL.of eD, fun z => ?_, fun _ y hy hle => ?_⟩
      · have z' : ms = [] := List.map_eq_nil_iff.mp z
        subst z'
        exact q 0 _ s1 (fun m hm => nomatch hm) (.inl rfl)
      · obtain ⟨m, hm, rfl⟩ := List.mem_map.mp hy
        exact q _ _ s1 (fun m' hm' => hle _ (List.mem_map.mpr ⟨m', hm', rfl⟩)) (.inr ⟨m, hm, rfl⟩)
end
end K11

namespace K11
open PySem PySem.Spec PyProof.Rows L2
abbrev sDeck : Stmt := topS 14
abbrev sDraw : Stmt := topS 15
abbrev sFar : Stmt := topS 16
theorem scDeck : FnScope ["_law_script", "_law_k", "_law_cell"] ["_law_script", "_law_k"] (defScope sDeck) := ⟨rfl, rfl, rfl, by decide +kernel, rfl, by decide +kernel, by decide +kernel⟩
theorem scDraw : FnScope ["_law_deck_here", "_law_most", "_law_digit", "_law_number"] ["_law_deck_here", "_law_most"] (defScope sDraw) := ⟨rfl, rfl, rfl, by decide +kernel, rfl, by decide +kernel, by decide +kernel⟩
theorem scFar : FnScope ["_law_deck_here", "_law_most", "_law_number", "_law_k"] ["_law_deck_here", "_law_most"] (defScope sFar) := ⟨rfl, rfl, rfl, by decide +kernel, rfl, by decide +kernel, by decide +kernel⟩
section
variable {P : Program} {w : World} {K : PySem.W.Frag} {mg : Str → Option Value} {base : Heap}
/-! ### _law_deck -/
def spDeck (K : PySem.W.Frag) : Sp := fun vs H Q _ => ∃ (a : Addr) (ns : List Int) (k : Int), vs = [.ref a, .int k] ∧ SqL K H a (ns.map V.int) ∧ 0 ≤ k ∧ ∀ d H', Same H H' → H d = none → Deck H' d → Q (.ref d) H'
theorem ok_deck {f : Addr} {fd : FuncData} {k : Nat} (F : Fun K "_law_deck" "_law_deck" sDeck f fd) (ml : mg "len" = none) (mm : mg "max" = none) (mi : mg "int" = none) : FnOk P w K mg base CX0 (k + 1) f fd ["_law_script", "_law_k"] (spDeck K) := by
  refine F.ok scDeck (fun vs H Q E h => ?_) (fun cdv A outer s H vs Q E hr h => ?_)
  · obtain ⟨a, ns, k, rfl, _⟩ := h
    rfl
  · obtain ⟨a, ns, k, rfl, hS, hk, q⟩ := h
    obtain ⟨t, ht, rd⟩ : ∃ t, PSs (cxOf CX0 P w K mg base ["_law_script", "_law_k", "_law_cell"] "_law_deck" (defScope sDeck) f cdv A outer s H E).nox ((defBody sDeck).drop 2) t ∧
        ∀ c : Int, 0 ≤ c → t { nx := fun _ H' => Q .non H', rt := Q } [some (.ref a), some (.int k), some (.int c)] H := by
      refine ⟨_, pss_one (ps_ret (pe_lst (pa_cons (pe_op op_mul (pv 2) (pe_callTy call_int1 (by rfl) mi boot_int (pa_cons (pe_cmpR op_ge (pv 2) (pe_op op_pow pe_int pe_int) (nomark _)) pa_nil)))
        (pa_cons (pe_op op_add (pe_op op_mod (pv 2) pe_int) (pe_op op_mul pe_int (pv 1))) (pa_cons pe_int pa_nil))))), fun c hc => ?_⟩
      refine ⟨_, rfl, _, rfl, 10, 18, rfl, rfl, ⟨by decide, by decide, by decide⟩, c, _, rfl, rfl, .inr ⟨_, rfl, c, _, rfl, rfl, .inr ?_, ?_⟩⟩
      · split <;> exact ⟨by decide, by decide⟩
      · refine ⟨_, rfl, c, 2147483629, rfl, rfl, (by show (0 : Int) < 2147483629; decide), _, rfl, 7919, k, rfl, rfl, .inl ⟨by decide, by decide⟩, _, _, rfl, rfl, (by show 3 ≤ sizeLine; decide), fun d nd => ?_⟩
        refine q d _ (same_new nd _) nd ⟨_, _, _, ?_, upd_same⟩
        split
        · omega
        · omega
    refine ⟨_, pss_cons (ps_set (i := 2) scDeck.nd rfl (.inl rfl) pe_int)
      (pss_cons (ps_if (pt_cmpR op_lt (pv 1) (pe_callB call_len_seq (by rfl) ml boot_len (pa_cons (pv 0) pa_nil)) (nomark _))
        (pss_one (ps_set (i := 2) scDeck.nd rfl (.inl rfl) (pe_callB (call_max2 rfl) (by rfl) mm boot_max (pa_cons pe_int (pa_cons (pe_ix ix_list (pv 0) (pv 1) (fun _ _ => rfl)) pa_nil))))) pss_nil) ht), ?_⟩
    refine ⟨_, rfl, _, rfl, a, _, rfl, .inl hS, k, _, rfl, rfl, _, rfl, ite2 (fun c => ?_) (fun c => ?_)⟩
    · have c' : k < ((ns.map V.int).length : Int) := of_decide_eq_true c
      rw [List.length_map] at c'
      have hi : k.toNat < ns.length := by omega
      have g : atI (ns.map V.int) k = some (.int ns[k.toNat]) := at_of (j := k.toNat) (by omega) (by rw [List.getElem?_map, List.getElem?_eq_getElem hi]; rfl)
      refine ⟨_, rfl, _, rfl, a, _, k, .int ns[k.toNat], rfl, rfl, hS, g, 0, ns[k.toNat], rfl, ?_⟩
      refine rd _ ?_
      split <;> omega
    · exact rd 0 (Int.le_refl 0)
/-! ### _law_draw -/
def spDraw : Sp := fun vs H Q _ => ∃ (d : Addr) (n : Int), vs = [.ref d, .int n] ∧ Deck H d ∧ 0 < n ∧ n ≤ 1000000 ∧ ∀ z H', Kp d H H' → Deck H' d → 0 ≤ z → z < n → Q (.int z) H'
theorem ok_draw {f : Addr} {fd : FuncData} {k : Nat} (F : Fun K "_law_draw" "_law_draw" sDraw f fd) : FnOk P w K mg base CX0 (k + 1) f fd ["_law_deck_here", "_law_most"] spDraw := by
  refine F.ok scDraw (fun vs H Q E h => ?_) (fun cdv A outer s H vs Q E hr h => ?_)
  · obtain ⟨d, n, rfl, _⟩ := h
    rfl
  · obtain ⟨d, n, rfl, ⟨x0, x1, x2, hx0, hd⟩, hn, hn2, q⟩ := h
    refine ⟨_, pss_cons (ps_if (pt_cmpR op_gt (pe_ix ix_list (pv 0) pe_int (fun _ _ => rfl)) pe_int (nomark _))
        (pss_cons (ps_set (i := 2) scDraw.nd rfl (.inl rfl) (pe_op op_mod (pe_ix ix_list (pv 0) pe_int (fun _ _ => rfl)) (pv 1)))
        (pss_cons (ps_asg (pe_op op_fdiv (pe_ix ix_list (pv 0) pe_int (fun _ _ => rfl)) (pv 1)) (pg_sub (pv 0) pe_int set_list))
        (pss_one (ps_ret (pv 2))))) pss_nil)
      (pss_cons (ps_asg (pe_op op_add (pe_ix ix_list (pv 0) pe_int (fun _ _ => rfl)) pe_int) (pg_sub (pv 0) pe_int set_list))
      (pss_cons (ps_set (i := 3) scDraw.nd rfl (.inl rfl) (pe_op op_mod (pe_op op_mul (pe_op op_add (pe_op op_add (pe_ix ix_list (pv 0) pe_int (fun _ _ => rfl)) (pe_op op_mul pe_int (pe_ix ix_list (pv 0) pe_int (fun _ _ => rfl)))) pe_int) pe_int) pe_int))
      (pss_cons (ps_set (i := 3) scDraw.nd rfl (.inl rfl) (pe_op op_mod (pe_op op_add (pe_op op_add (pe_op op_mul (pv 3) (pv 3)) (pe_op op_mul pe_int (pe_ix ix_list (pv 0) pe_int (fun _ _ => rfl)))) pe_int) pe_int))
      (pss_one (ps_ret (pe_op op_mod (pe_op op_fdiv (pe_op op_mod (pe_op op_add (pe_op op_mul (pv 3) (pv 3)) pe_int) pe_int) pe_int) (pv 1))))))), ?_⟩
    refine ⟨_, rfl, d, _, 0, .int x0, rfl, rfl, SqL.of hd, atI_nat (j := 0) rfl, x0, 0, rfl, rfl, _, rfl, ite2 (fun c => ?_) (fun c => ?_)⟩
    · refine ⟨_, rfl, d, _, 0, .int x0, rfl, rfl, SqL.of hd, atI_nat (j := 0) rfl, _, rfl, x0, n, rfl, rfl, hn, ?_⟩
      refine ⟨_, rfl, d, _, 0, .int x0, rfl, rfl, SqL.of hd, atI_nat (j := 0) rfl, _, rfl, x0, n, rfl, rfl, ⟨hn, by omega⟩, ?_⟩
      refine ⟨_, rfl, d, _, 0, 0, rfl, rfl, hd, rfl, ?_⟩
      refine ⟨_, rfl, q _ _ (kp_upd _) ⟨_, _, _, ?_, upd_same⟩ (Int.emod_nonneg _ (by omega)) (Int.emod_lt_of_pos _ hn)⟩
      exact Int.ediv_nonneg hx0 (by omega)
    · refine ⟨_, rfl, d, _, 2, .int x2, rfl, rfl, SqL.of hd, atI_nat (j := 2) rfl, x2, 1, rfl, rfl, ?_⟩
      refine ⟨_, rfl, d, _, 2, 2, rfl, rfl, hd, rfl, ?_⟩
      have hd2 : upd H d (.lst [.int x0, .int x1, .int (x2 + 1)]) d = some (.lst [.int x0, .int x1, .int (x2 + 1)]) := upd_same
      refine ⟨_, rfl, d, _, 1, .int x1, rfl, rfl, SqL.of hd2, atI_nat (j := 1) rfl, _, rfl, d, _, 2, .int (x2 + 1), rfl, rfl, SqL.of hd2, atI_nat (j := 2) rfl, 65537, x2 + 1, rfl, rfl, .inl ⟨by decide, by decide⟩,
        x1, _, rfl, rfl, _, 101, rfl, rfl, _, 48271, rfl, rfl, .inr ⟨by decide, by decide⟩, _, 2147483647, rfl, rfl, (by show (0 : Int) < 2147483647; decide), ?_⟩
      have b1 : 0 ≤ (x1 + 65537 * (x2 + 1) + 101) * 48271 % 2147483647 := Int.emod_nonneg _ (by decide)
      have b2 : (x1 + 65537 * (x2 + 1) + 101) * 48271 % 2147483647 < 2147483647 := Int.emod_lt_of_pos _ (by decide)
      refine ⟨_, rfl, _, rfl, _, _, rfl, rfl, .inl ⟨by omega, by omega⟩, _, rfl, d, _, 2, .int (x2 + 1), rfl, rfl, SqL.of hd2, atI_nat (j := 2) rfl, 69621, x2 + 1, rfl, rfl, .inl ⟨by decide, by decide⟩, _, _, rfl, rfl, _, 11, rfl, rfl, _, 2147483629, rfl, rfl,
        (by show (0 : Int) < 2147483629; decide), ?_⟩
      generalize (x1 + 65537 * (x2 + 1) + 101) * 48271 % 2147483647 = y
      have c1 : 0 ≤ (y * y + 69621 * (x2 + 1) + 11) % 2147483629 := Int.emod_nonneg _ (by decide)
      have c2 : (y * y + 69621 * (x2 + 1) + 11) % 2147483629 < 2147483629 := Int.emod_lt_of_pos _ (by decide)
      refine ⟨_, rfl, _, rfl, _, _, rfl, rfl, .inl ⟨by omega, by omega⟩, _, 32749, rfl, rfl, _, 2147483587, rfl, rfl, (by show (0 : Int) < 2147483587; decide), _, 64, rfl, rfl, ⟨by decide, by decide⟩, _, rfl, _, n, rfl, rfl, hn, ?_⟩
      exact q _ _ (kp_upd _) ⟨_, _, _, hx0, upd_same⟩ (Int.emod_nonneg _ (by omega)) (Int.emod_lt_of_pos _ hn)
/-! ### _law_far -/
def spFar : Sp := fun vs H Q _ => ∃ (d : Addr) (n : Int), vs = [.ref d, .int n] ∧ Deck H d ∧ 0 ≤ n ∧ ∀ z H', Kp d H H' → Deck H' d → 0 ≤ z → z ≤ n → Q (.int z) H'
theorem ok_far {f fD : Addr} {fd fdD : FuncData} {k : Nat} (F : Fun K "_law_far" "_law_far" sFar f fd)
    (GD : FnOk P w K mg base CX0 k fD fdD ["_law_deck_here", "_law_most"] spDraw) (bD : Binds K fdD ["_law_deck_here", "_law_most"] []) (kD : PySem.W.keepIn K (.ref fD) = true) (gD : mg "_law_draw" = some (.ref fD))
    (mr : mg "range" = none) : FnOk P w K mg base CX0 (k + 1) f fd ["_law_deck_here", "_law_most"] spFar := by
  refine F.ok scFar (fun vs H Q E h => ?_) (fun cdv A outer s H vs Q E hr h => ?_)
  · obtain ⟨d, n, rfl, _⟩ := h
    rfl
  · obtain ⟨d, n, rfl, hd, hn, q⟩ := h
    refine ⟨_, pss_cons (ps_set (i := 2) scFar.nd rfl (.inl rfl) pe_int)
      (pss_cons (ps_for PassesOwn.never rfl (pi_range1 (by rfl) mr (pa_cons pe_int pa_nil)) (pg_name (i := 3) scFar.nd rfl (.inl rfl))
        (pss_one (ps_set (i := 2) scFar.nd rfl (.inl rfl) (pe_op op_add (pe_op op_mul (pv 2) (pe_op op_pow pe_int pe_int)) (pe_call GD hr (by rfl) gD kD bD .nil pass0 (pa_cons (pv 0) (pa_cons (pe_op op_pow pe_int pe_int) pa_nil)))))))
      (pss_one (ps_ret (pe_op op_mod (pv 2) (pe_op op_add (pv 1) pe_int))))), ?_⟩
    refine ⟨3, rfl, by decide, by decide, for_range (lo := 0) (n := 3) (fun i σ H' => ∃ z y, σ = [some (.ref d), some (.int n), some (.int z), y] ∧ Kp d H H' ∧ Deck H' d) ⟨0, none, rfl, Kp.refl d H, hd⟩ (fun i σ H' hi hP => ?_) (fun σ H' hP => ?_)⟩
    · obtain ⟨z, y, rfl, k1, d1⟩ := hP
      refine ⟨_, rfl, 10, 6, rfl, rfl, ⟨by decide, by decide, by decide⟩, z, _, rfl, rfl, .inr ⟨by decide, by decide⟩, _, rfl, 10, 6, rfl, rfl, ⟨by decide, by decide, by decide⟩, d, _, rfl, d1, by decide, by decide, fun x H2 k2 d2 _ _ => ?_⟩
      exact ⟨_, x, rfl, rfl, _, _, rfl, k1.trans k2, d2⟩
    · obtain ⟨z, y, rfl, k1, d1⟩ := hP
      refine ⟨_, rfl, _, rfl, n, 1, rfl, rfl, z, n + 1, rfl, rfl, (by show 0 < n + 1; omega), ?_⟩
      have e1 : 0 ≤ z % (n + 1) := Int.emod_nonneg _ (by omega)
      have e2 : z % (n + 1) < n + 1 := Int.emod_lt_of_pos _ (by omega)
      exact q _ _ k1 d1 e1 (by omega)
end
end K11

namespace K11
open PySem PySem.Spec PyProof.Rows L2
abbrev sBegin : Stmt := topS 17
theorem scBegin : FnScope ["_law_deck_here", "_law_way", "_law_rows", "_law_near", "_law_last"] ["_law_deck_here", "_law_way", "_law_rows"] (defScope sBegin) := ⟨rfl, rfl, rfl, by decide +kernel, rfl, by decide +kernel, by decide +kernel⟩
def ifBody (s : Stmt) : List Stmt := match s with
  | .If _ b _ _ => b
  | _ => []
/-- a display at a place -/
theorem ix_of (xs : List V) {i : Int} (h0 : 0 ≤ i) (h1 : i < (xs.length : Int)) : ∃ v, atI xs i = some v ∧ v ∈ xs := by
  have h : i.toNat < xs.length := by omega
  exact ⟨xs[i.toNat], at_of (j := i.toNat) (by omega) (List.getElem?_eq_getElem h), List.getElem_mem h⟩
theorem ix2 (x y : V) (c : Bool) : atI [x, y] (if c = true then 1 else 0) = some (if c = true then y else x) := by
  cases c
  · exact atI_nat (j := 0) rfl
  · exact atI_nat (j := 1) rfl
theorem ix_row {H : Hp} {xs : List V} {ms : List Mt} (h : Ms H xs ms) {i : Int} (h0 : 0 ≤ i) (h1 : i < (ms.length : Int)) : ∃ p m, atI xs i = some (.ref p) ∧ m ∈ ms ∧ H p = some (.tup (mV m)) := by
  have hi : i.toNat < ms.length := by omega
  obtain ⟨p, h2, h3⟩ := h.get (List.getElem?_eq_getElem hi)
  exact ⟨p, ms[i.toNat], at_of (j := i.toNat) (by omega) h2, List.getElem_mem hi, h3⟩
theorem eqv_nil {α : Type} (f : α → PyData) : ∀ as : List α, PyData.eqv (.list (as.map f)) (.list []) = decide (as.length = 0)
  | [] => rfl
  | a :: as => rfl
theorem eqv_nilT {α : Type} (f : α → PyData) : ∀ as : List α, PyData.eqv (.tuple (as.map f)) (.tuple []) = decide (as.length = 0)
  | [] => rfl
  | a :: as => rfl
theorem sh_rows (ms : List Mt) : SeqAt.shaped (.list (ms.map fun m => .tuple (mD m))) = true := sh_of (can_lst (n := 1) fun x hx => by
  obtain ⟨m, _, rfl⟩ := List.mem_map.mp hx
  exact can_m m) (by decide)
theorem sh_rowsT (ms : List Mt) : SeqAt.shaped (.tuple (ms.map fun m => .tuple (mD m))) = true := sh_of (can_tup (n := 1) fun x hx => by
  obtain ⟨m, _, rfl⟩ := List.mem_map.mp hx
  exact can_m m) (by decide)
theorem sh_nilL : SeqAt.shaped (.list []) = true := by decide +kernel
theorem sh_nilT : SeqAt.shaped (.tuple []) = true := by decide +kernel
theorem Ms.dpL {K : PySem.W.Frag} {H : Hp} {a : Addr} {xs : List V} {ms : List Mt} (h : Ms H xs ms) (e : H a = some (.lst xs)) : Dp K H (.ref a) (.list (ms.map fun m => .tuple (mD m))) := .lst (SqL.of e) (Rs.dp dp_m h)
theorem Ms.dpT {K : PySem.W.Frag} {H : Hp} {a : Addr} {xs : List V} {ms : List Mt} (h : Ms H xs ms) (e : H a = some (.tup xs)) : Dp K H (.ref a) (.tuple (ms.map fun m => .tuple (mD m))) := .tup (SqT.of e) (Rs.dp dp_m h)
theorem dec_i {a b : Int} : decide (V.int a = V.int b) = decide (a = b) := by
  rw [Bool.eq_iff_iff]
  simp
section
variable {P : Program} {w : World} {K : PySem.W.Frag} {mg : Str → Option Value} {base : Heap}
/-! ### _law_begin -/
def spBegin : Sp := fun vs H Q _ => ∃ (d : Addr) (y : Int) (r : Addr) (xs : List V) (ms : List Mt) (M : Int), vs = [.ref d, .int y, .ref r] ∧ Deck H d ∧ H r = some (.lst xs) ∧ Ms H xs ms ∧ r ≠ d ∧ ms.length ≤ 900 ∧
  (∀ m ∈ ms, m.e ≤ M) ∧ 0 ≤ M ∧ ∀ z H', Kp d H H' → Deck H' d → 0 ≤ z → (z ≤ 30 ∨ (y ≠ 4 ∧ z ≤ M + 2)) → Q (.int z) H'
theorem ok_begin {f fD : Addr} {fd fdD : FuncData} {k : Nat} (F : Fun K "_law_begin" "_law_begin" sBegin f fd)
    (GD : FnOk P w K mg base CX0 k fD fdD ["_law_deck_here", "_law_most"] spDraw) (bD : Binds K fdD ["_law_deck_here", "_law_most"] []) (kD : PySem.W.keepIn K (.ref fD) = true) (gD : mg "_law_draw" = some (.ref fD))
    (ml : mg "len" = none) (mm : mg "max" = none) (mi : mg "int" = none) : FnOk P w K mg base CX0 (k + 1) f fd ["_law_deck_here", "_law_way", "_law_rows"] spBegin := by
  refine F.ok scBegin (fun vs H Q E h => ?_) (fun cdv A outer s H vs Q E hr h => ?_)
  · obtain ⟨d, y, r, xs, ms, M, rfl, _⟩ := h
    rfl
  · obtain ⟨d, y, r, xs, ms, M, rfl, hd, hrr, hms, hne, hlen, hM, hM0, q⟩ := h
    obtain ⟨tb, hb, rb⟩ : ∃ t, PSs (cxOf CX0 P w K mg base ["_law_deck_here", "_law_way", "_law_rows", "_law_near", "_law_last"] "_law_begin" (defScope sBegin) f cdv A outer s H E).nox (ifBody ((defBody sBegin).getD 2 (.Pass ⟨0, 0, 0, 0⟩))) t ∧
        ∀ H2 near N, Kp d H H2 → Deck H2 d → ms.length ≠ 0 → y ≠ 4 → t { nx := N, rt := Q } [some (.ref d), some (.int y), some (.ref r), some (.int near), none] H2 := by
      refine ⟨_, pss_cons (ps_set (i := 4) scBegin.nd rfl (.inl rfl) (pe_ix ix_list (pv 2) (pe_ix ix_list (pe_lst (pa_cons (pe_op op_sub (pe_callB call_len_seq (by rfl) ml boot_len (pa_cons (pv 2) pa_nil)) pe_int)
            (pa_cons (pe_call GD hr (by rfl) gD kD bD .nil pass0 (pa_cons (pv 0) (pa_cons (pe_callB call_len_seq (by rfl) ml boot_len (pa_cons (pv 2) pa_nil)) pa_nil))) pa_nil)))
            (pe_callTy call_int1 (by rfl) mi boot_int (pa_cons (pe_cmpR op_eq (pv 1) pe_int (nomark _)) pa_nil)) (fun _ _ => rfl)) (fun _ _ => rfl)))
        (pss_one (ps_ret (pe_callB (call_max2 rfl) (by rfl) mm boot_max (pa_cons pe_int (pa_cons (pe_op op_add (pe_op op_sub (pe_op op_add (pe_ix ix_tup (pv 4) pe_int (fun _ _ => rfl)) (pe_ix ix_tup (pv 4) pe_int (fun _ _ => rfl)))
            (pe_callTy call_int1 (by rfl) mi boot_int (pa_cons (pe_cmpR op_eq (pv 1) pe_int (nomark _)) pa_nil))) (pe_call GD hr (by rfl) gD kD bD .nil pass0 (pa_cons (pv 0) (pa_cons pe_int pa_nil)))) pa_nil))))), fun H2 near N k2 d2 hl hy => ?_⟩
      have er2 := k2 _ _ hne hrr
      have hxl := hms.len
      refine ⟨_, rfl, _, rfl, r, xs, rfl, .inl (SqL.of er2), _, 1, rfl, rfl, _, rfl, _, rfl, r, xs, rfl, .inl (SqL.of er2), d, _, rfl, d2, by omega, by omega, fun x H3 k3 d3 x0 x1 => ?_⟩
      have er3 := k3 _ _ hne er2
      have m3 := (hms.mono (hd.tk k2)).mono (d2.tk k3)
      refine ⟨(by show 2 ≤ sizeLine; decide), fun p np => ?_⟩
      have s4 := same_new np (.lst [.int ((xs.length : Int) - 1), .int x])
      refine ⟨_, rfl, rfl, .inr ⟨_, rfl, ?_⟩⟩
      have hv := ix2 (V.int ((xs.length : Int) - 1)) (V.int x) (decide (V.int y = V.int 1))
      obtain ⟨j, ej, hj0, hj1⟩ : ∃ j : Int, (if decide (V.int y = V.int 1) = true then V.int x else V.int ((xs.length : Int) - 1)) = .int j ∧ 0 ≤ j ∧ j < (ms.length : Int) := by
        split
        · exact ⟨x, rfl, x0, by omega⟩
        · exact ⟨_, rfl, by omega, by omega⟩
      rw [ej] at hv
      obtain ⟨pm, m, hpm, hmm, hpt⟩ := ix_row (m3.mono (same_tk s4)) hj0 hj1
      refine ⟨p, _, _, .int j, rfl, rfl, SqL.of upd_same, hv, r, xs, j, .ref pm, rfl, rfl, SqL.of (s4 _ _ er3), hpm, ?_⟩
      refine ⟨_, rfl, pm, _, 3, .int m.s, rfl, rfl, SqT.of hpt, atI_nat (j := 3) rfl, _, rfl, pm, _, 4, .int m.l, rfl, rfl, SqT.of hpt, atI_nat (j := 4) rfl, m.s, m.l, rfl, rfl, _, rfl, rfl, .inr ⟨_, rfl, _, _, rfl, rfl, ?_⟩⟩
      refine ⟨_, rfl, d, 3, rfl, d3.mono s4, by decide, by decide, fun x' H5 k5 d5 x0' x1' => ?_⟩
      refine ⟨_, x', rfl, rfl, 0, _, rfl, ?_⟩
      have hme := hM m hmm
      have hme' : m.s + m.l ≤ M := hme
      refine q _ H5 (k2.trans (k3.trans ((same_kp s4).trans k5))) d5 ?_ (.inr ⟨hy, ?_⟩)
      · split <;> omega
      · split
        · split <;> omega
        · omega
    refine ⟨_, pss_cons (ps_set (i := 3) scBegin.nd rfl (.inl rfl) (pe_call GD hr (by rfl) gD kD bD .nil pass0 (pa_cons (pv 0) (pa_cons pe_int pa_nil))))
      (pss_cons (ps_if (pt_cmpR op_eq (pv 1) pe_int (nomark _)) (pss_one (ps_ret (pe_op op_mul pe_int (pe_call GD hr (by rfl) gD kD bD .nil pass0 (pa_cons (pv 0) (pa_cons pe_int pa_nil)))))) pss_nil)
      (pss_cons (ps_if (PW.pt (pw_and (pt_cmpR (op_neD hr.units) (pv 2) (pe_lst pa_nil) (nomark _)) (pw_and1 (PW.pt (pw_or (pt_cmpR op_eq (pv 1) pe_int (nomark _))
          (pw_or1 (PW.pt (pw_and (pt_cmpR op_eq (pv 1) pe_int (nomark _)) (pw_and1 (pt_cmpR op_gt (pe_op op_mod (pv 3) pe_int) pe_int (nomark _)))))))))))
        hb pss_nil)
      (pss_one (ps_ret (pv 3))))), ?_⟩
    refine ⟨_, rfl, d, 31, rfl, hd, by decide, by decide, fun near H1 k1 d1 n0 n1 => ?_⟩
    refine ⟨_, rfl, rfl, _, rfl, ite2 (fun c => ?_) (fun c => ?_)⟩
    · refine ⟨_, rfl, d, 2, rfl, d1, by decide, by decide, fun x H2 k2 d2 x0 x1 => ?_⟩
      refine ⟨5, x, rfl, rfl, .inl ⟨by decide, by decide⟩, ?_⟩
      exact q _ H2 (k1.trans k2) d2 (by omega) (.inl (by omega))
    · have er1 := k1 _ _ hne hrr
      refine ⟨_, rfl, Nat.zero_le _, fun o no => ?_⟩
      have s2 := same_new no (.lst [])
      have k2 : Kp d H (upd H1 o (.lst [])) := k1.trans (same_kp s2)
      have d2 := d1.mono s2
      have m2 := hms.mono (hd.tk k2)
      have back : ∀ N : L2.St → Hp → Prop, (tRet (tVar 3)) { nx := N, rt := Q } [some (.ref d), some (.int y), some (.ref r), some (.int near), none] (upd H1 o (.lst [])) := fun N => ⟨_, rfl, q near _ k2 d2 n0 (.inl (by omega))⟩
      refine ⟨_, _, m2.dpL (s2 _ _ er1), .lst (SqL.of upd_same) .nil, sh_rows ms, sh_nilL, _, rfl, ?_⟩
      rw [eqv_nil]
      by_cases hl : ms.length = 0
      · rw [decide_eq_true hl]
        exact iteF (back _)
      · rw [decide_eq_false hl]
        refine iteT ?_
        refine ⟨_, rfl, rfl, _, rfl, ite2 (fun c2 => ?_) (fun c2 => ?_)⟩
        · have y2 : y = 2 := V.int.inj (of_decide_eq_true c2)
          exact rb _ near _ k2 d2 hl (by omega)
        · refine ⟨_, rfl, rfl, _, rfl, ite2 (fun c3 => ?_) (fun c3 => ?_)⟩
          · have y1 : y = 1 := V.int.inj (of_decide_eq_true c3)
            refine ⟨_, rfl, near, 3, rfl, rfl, (by show (0 : Int) < 3; decide), _, 0, rfl, rfl, _, rfl, ite2 (fun c4 => ?_) (fun c4 => ?_)⟩
            · exact rb _ near _ k2 d2 hl (by omega)
            · exact back _
          · exact iteF (back _)
end
end K11

namespace K11
open PySem PySem.Spec PyProof.Rows L2
abbrev sMeet : Stmt := topS 18
abbrev nMeet : List Str := ["_law_deck_here", "_law_way", "_law_many", "_law_rows", "_law_one", "_law_other", "_law_word", "_law_begin_here", "_law_long", "_law_far_here"]
theorem scMeet : FnScope nMeet ["_law_deck_here", "_law_way", "_law_many", "_law_rows"] (defScope sMeet) := ⟨rfl, rfl, rfl, by decide +kernel, rfl, by decide +kernel, by decide +kernel⟩
theorem ix3 (x y z : Int) {i : Int} (h0 : 0 ≤ i) (h1 : i < 3) : atI [V.int x, V.int y, V.int z] i = some (V.int (if i = 0 then x else if i = 1 then y else z)) := by
  have : i = 0 ∨ i = 1 ∨ i = 2 := by omega
  rcases this with rfl | rfl | rfl
  · exact atI_nat (j := 0) rfl
  · exact atI_nat (j := 1) rfl
  · exact atI_nat (j := 2) rfl
theorem ix_last {H : Hp} {xs : List V} {ms : List Mt} (h : Ms H xs ms) (h0 : ms.length ≠ 0) : ∃ p m, atI xs (-1) = some (.ref p) ∧ m ∈ ms ∧ H p = some (.tup (mV m)) := by
  have hi : ms.length - 1 < ms.length := by omega
  obtain ⟨p, h2, h3⟩ := h.get (List.getElem?_eq_getElem hi)
  refine ⟨p, ms[ms.length - 1], ?_, List.getElem_mem hi, h3⟩
  rw [← h.len, ← List.getLast?_eq_getElem?] at h2
  obtain ⟨ys, rfl⟩ := List.getLast?_eq_some_iff.mp h2
  exact atI_last _ _
/-- one after another, round about -/
theorem other_ok {k one x : Int} (h0 : 0 ≤ one) (h1 : one < k) (x0 : 0 ≤ x) (x1 : x < k - 1) : 0 ≤ (one + 1 + x) % k ∧ (one + 1 + x) % k < k ∧ one ≠ (one + 1 + x) % k := by
  by_cases c : one + 1 + x < k
  · rw [Int.emod_eq_of_lt (by omega) c]
    omega
  · have e : one + 1 + x = (one + 1 + x - k) + k := by omega
    rw [e, Int.add_emod_right, Int.emod_eq_of_lt (by omega) (by omega)]
    omega
/-- a meeting of so many places -/
structure Mok (k : Int) (m : Mt) : Prop where
  a0 : 0 ≤ m.a ∧ m.a < k
  b0 : 0 ≤ m.b ∧ m.b < k
  ne : m.a ≠ m.b
  s0 : 0 ≤ m.s
  l1 : 1 ≤ m.l
section
variable {P : Program} {w : World} {K : PySem.W.Frag} {mg : Str → Option Value} {base : Heap}
/-! ### _law_meeting -/
def spMeet : Sp := fun vs H Q _ => ∃ (d : Addr) (y k : Int) (r : Addr) (xs : List V) (ms : List Mt) (M : Int), vs = [.ref d, .int y, .int k, .ref r] ∧ Deck H d ∧ H r = some (.lst xs) ∧ Ms H xs ms ∧ r ≠ d ∧ ms.length ≤ 900 ∧
  2 ≤ k ∧ k ≤ 1000 ∧ (∀ m ∈ ms, Mok k m ∧ m.e ≤ M) ∧ 30 ≤ M ∧ (y = 4 → M = 10000000000000) ∧
  ∀ p m H', Kp d H H' → Deck H' d → H' p = some (.tup (mV m)) → Mok k m → (m.e ≤ M ∨ (y ≠ 4 ∧ m.e ≤ M + 10)) → Q (.ref p) H'
theorem ok_meet {f fD fF fB : Addr} {fd fdD fdF fdB : FuncData} {k : Nat} (F : Fun K "_law_meeting" "_law_meeting" sMeet f fd)
    (GD : FnOk P w K mg base CX0 k fD fdD ["_law_deck_here", "_law_most"] spDraw) (bD : Binds K fdD ["_law_deck_here", "_law_most"] []) (kD : PySem.W.keepIn K (.ref fD) = true) (gD : mg "_law_draw" = some (.ref fD))
    (GF : FnOk P w K mg base CX0 k fF fdF ["_law_deck_here", "_law_most"] spFar) (bF : Binds K fdF ["_law_deck_here", "_law_most"] []) (kF : PySem.W.keepIn K (.ref fF) = true) (gF : mg "_law_far" = some (.ref fF))
    (GB : FnOk P w K mg base CX0 k fB fdB ["_law_deck_here", "_law_way", "_law_rows"] spBegin) (bB : Binds K fdB ["_law_deck_here", "_law_way", "_law_rows"] []) (kB : PySem.W.keepIn K (.ref fB) = true) (gB : mg "_law_begin" = some (.ref fB))
    (ml : mg "len" = none) (mi : mg "int" = none) : FnOk P w K mg base CX0 (k + 1) f fd ["_law_deck_here", "_law_way", "_law_many", "_law_rows"] spMeet := by
  refine F.ok scMeet (fun vs H Q E h => ?_) (fun cdv A outer s H vs Q E hr h => ?_)
  · obtain ⟨d, y, k, r, xs, ms, M, rfl, _⟩ := h
    rfl
  · obtain ⟨d, y, k, r, xs, ms, M, rfl, hd, hrr, hms, hne, hlen, hk2, hk3, hM, hM0, hM4, q⟩ := h
    have nd := scMeet.nd
    -- the end: return (word, one, other, begin, long)
    obtain ⟨t8, h8, r8⟩ : ∃ t, PSs (cxOf CX0 P w K mg base nMeet "_law_meeting" (defScope sMeet) f cdv A outer s H E).nox ((defBody sMeet).drop 8) t ∧
        ∀ H1 one other b s l y9, Kp d H H1 → Deck H1 d → 0 ≤ one → one < k → 0 ≤ other → other < k → one ≠ other → 0 ≤ s → 1 ≤ l → (s + l ≤ M ∨ (y ≠ 4 ∧ s + l ≤ M + 10)) →
          t { nx := fun _ H' => Q .non H', rt := Q } [some (.ref d), some (.int y), some (.int k), some (.ref r), some (.int one), some (.int other), some (.str (wd b)), some (.int s), some (.int l), y9] H1 := by
      refine ⟨_, pss_one (ps_ret (pe_tup (pa_cons (pv 6) (pa_cons (pv 4) (pa_cons (pv 5) (pa_cons (pv 7) (pa_cons (pv 8) pa_nil))))))), fun H1 one other b s l y9 k1 d1 o0 o1 p0 p1 hne2 s0 l1 hb => ?_⟩
      refine ⟨_, rfl, _, rfl, _, rfl, _, rfl, _, rfl, (by show 5 ≤ sizeLine; decide), fun p np => ?_⟩
      have s2 := same_new np (.tup [.str (wd b), .int one, .int other, .int s, .int l])
      exact q p ⟨b, one, other, s, l⟩ _ (k1.trans (same_kp s2)) (d1.mono s2) upd_same ⟨⟨o0, o1⟩, ⟨p0, p1⟩, hne2, s0, l1⟩ hb
    -- far ones
    obtain ⟨t7, h7, r7⟩ : ∃ t, PSs (cxOf CX0 P w K mg base nMeet "_law_meeting" (defScope sMeet) f cdv A outer s H E).nox ((defBody sMeet).drop 7) t ∧
        ∀ H1 one other b s l, Kp d H H1 → Deck H1 d → 0 ≤ one → one < k → 0 ≤ other → other < k → one ≠ other → 0 ≤ s → (s ≤ 30 ∨ (y ≠ 4 ∧ s ≤ M + 2)) → 1 ≤ l → l ≤ 8 →
          t { nx := fun _ H' => Q .non H', rt := Q } [some (.ref d), some (.int y), some (.int k), some (.ref r), some (.int one), some (.int other), some (.str (wd b)), some (.int s), some (.int l), none] H1 := by
      refine ⟨_, pss_cons (ps_if (pt_cmpR op_eq (pv 1) pe_int (nomark _))
        (pss_cons (ps_set (i := 9) nd rfl (.inl rfl) (pe_call GD hr (by rfl) gD kD bD .nil pass0 (pa_cons (pv 0) (pa_cons pe_int pa_nil))))
        (pss_cons (ps_set (i := 7) nd rfl (.inl rfl) (pe_ix ix_list (pe_lst (pa_cons (pe_call GF hr (by rfl) gF kF bF .nil pass0 (pa_cons (pv 0) (pa_cons (pe_op op_sub (pe_op op_pow pe_int pe_int) pe_int) pa_nil)))
            (pa_cons (pv 7) (pa_cons (pe_call GF hr (by rfl) gF kF bF .nil pass0 (pa_cons (pv 0) (pa_cons (pe_op op_mul pe_int (pe_op op_pow pe_int pe_int)) pa_nil))) pa_nil)))) (pv 9) (fun _ _ => rfl)))
        (pss_one (ps_set (i := 8) nd rfl (.inl rfl) (pe_ix ix_list (pe_lst (pa_cons (pv 8)
            (pa_cons (pe_op op_add pe_int (pe_call GF hr (by rfl) gF kF bF .nil pass0 (pa_cons (pv 0) (pa_cons (pe_op op_sub (pe_op op_pow pe_int pe_int) pe_int) pa_nil))))
            (pa_cons (pe_op op_add pe_int (pe_call GF hr (by rfl) gF kF bF .nil pass0 (pa_cons (pv 0) (pa_cons (pe_op op_sub (pe_op op_mul pe_int (pe_op op_pow pe_int pe_int)) pe_int) pa_nil)))) pa_nil)))) (pv 9) (fun _ _ => rfl)))))) pss_nil) h8,
        fun H1 one other b s l k1 d1 o0 o1 p0 p1 hne2 s0 s1 l1 l8 => ?_⟩
      refine ⟨_, rfl, rfl, _, rfl, ite2 (fun c => ?_) (fun c => ?_)⟩
      · have y4 : y = 4 := V.int.inj (of_decide_eq_true c)
        have M4 := hM4 y4
        refine ⟨_, rfl, d, 3, rfl, d1, by decide, by decide, fun fh H2 k2 d2 f0 f1 => ?_⟩
        -- begin
        refine ⟨_, rfl, 10, 13, rfl, rfl, ⟨by decide, by decide, by decide⟩, 10000000000000, 60, rfl, rfl, d, _, rfl, d2, by decide, fun a1 H3 k3 d3 a10 a11 => ?_⟩
        refine ⟨_, rfl, _, rfl, 10, 12, rfl, rfl, ⟨by decide, by decide, by decide⟩, 5, 1000000000000, rfl, rfl, .inl ⟨by decide, by decide⟩, d, _, rfl, d3, by decide, fun a2 H4 k4 d4 a20 a21 => ?_⟩
        refine ⟨(by show 3 ≤ sizeLine; decide), fun p np => ?_⟩
        have s5 := same_new np (.lst [.int a1, .int s, .int a2])
        refine ⟨_, rfl, p, _, fh, _, rfl, rfl, SqL.of upd_same, ix3 a1 s a2 f0 f1, ?_⟩
        -- long
        refine ⟨_, rfl, _, rfl, 10, 13, rfl, rfl, ⟨by decide, by decide, by decide⟩, 10000000000000, 100, rfl, rfl, d, _, rfl, d4.mono s5, by decide, fun a3 H6 k6 d6 a30 a31 => ?_⟩
        refine ⟨1, a3, rfl, rfl, _, rfl, 10, 12, rfl, rfl, ⟨by decide, by decide, by decide⟩, 5, 1000000000000, rfl, rfl, .inl ⟨by decide, by decide⟩, 5000000000000, 100, rfl, rfl, d, _, rfl, d6, by decide, fun a4 H7 k7 d7 a40 a41 => ?_⟩
        refine ⟨1, a4, rfl, rfl, (by show 3 ≤ sizeLine; decide), fun p' np' => ?_⟩
        have s8 := same_new np' (.lst [.int l, .int (1 + a3), .int (1 + a4)])
        refine ⟨_, rfl, p', _, fh, _, rfl, rfl, SqL.of upd_same, ix3 l (1 + a3) (1 + a4) f0 f1, ?_⟩
        have kk : Kp d H (upd H7 p' (.lst [.int l, .int (1 + a3), .int (1 + a4)])) := k1.trans (k2.trans (k3.trans (k4.trans ((same_kp s5).trans (k6.trans (k7.trans (same_kp s8)))))))
        refine r8 _ one other b _ _ _ kk (d7.mono s8) o0 o1 p0 p1 hne2 ?_ ?_ (.inl ?_)
        · split
          · exact a10
          · split
            · exact s0
            · exact a20
        · split
          · exact l1
          · split <;> omega
        · rw [M4]
          split
          · omega
          · split <;> omega
      · have y4 : y ≠ 4 := fun z => c (decide_eq_true (congrArg V.int z))
        exact r8 H1 one other b s l none k1 d1 o0 o1 p0 p1 hne2 s0 l1 (.inr ⟨y4, by omega⟩)
    -- other, word, begin, long
    obtain ⟨t3, h3, r3⟩ : ∃ t, PSs (cxOf CX0 P w K mg base nMeet "_law_meeting" (defScope sMeet) f cdv A outer s H E).nox ((defBody sMeet).drop 3) t ∧
        ∀ H1 one, Kp d H H1 → Deck H1 d → 0 ≤ one → one < k →
          t { nx := fun _ H' => Q .non H', rt := Q } [some (.ref d), some (.int y), some (.int k), some (.ref r), some (.int one), none, none, none, none, none] H1 := by
      refine ⟨_, pss_cons (ps_set (i := 5) nd rfl (.inl rfl) (pe_op op_mod (pe_op op_add (pe_op op_add (pv 4) pe_int) (pe_call GD hr (by rfl) gD kD bD .nil pass0 (pa_cons (pv 0) (pa_cons (pe_op op_sub (pv 2) pe_int) pa_nil)))) (pv 2)))
        (pss_cons (ps_set (i := 6) nd rfl (.inl rfl) (pe_ix ix_list (pe_lst (pa_cons pe_str (pa_cons pe_str pa_nil))) (pe_call GD hr (by rfl) gD kD bD .nil pass0 (pa_cons (pv 0) (pa_cons pe_int pa_nil))) (fun _ _ => rfl)))
        (pss_cons (ps_set (i := 7) nd rfl (.inl rfl) (pe_call GB hr (by rfl) gB kB bB .nil pass0 (pa_cons (pv 0) (pa_cons (pv 1) (pa_cons (pv 3) pa_nil)))))
        (pss_cons (ps_set (i := 8) nd rfl (.inl rfl) (pe_op op_add pe_int (pe_call GD hr (by rfl) gD kD bD .nil pass0 (pa_cons (pv 0) (pa_cons (pe_ix ix_list (pe_lst (pa_cons pe_int (pa_cons pe_int pa_nil)))
            (pe_callTy call_int1 (by rfl) mi boot_int (pa_cons (pe_cmpR op_eq (pv 1) pe_int (nomark _)) pa_nil)) (fun _ _ => rfl)) pa_nil))))) h7))),
        fun H1 one k1 d1 o0 o1 => ?_⟩
      refine ⟨_, rfl, one, 1, rfl, rfl, _, rfl, _, rfl, k, 1, rfl, rfl, d, k - 1, rfl, d1, by omega, by omega, fun x H2 k2 d2 x0 x1 => ?_⟩
      refine ⟨one + 1, x, rfl, rfl, _, rfl, one + 1 + x, k, rfl, rfl, (by show 0 < k; omega), ?_⟩
      obtain ⟨p0, p1, hne2⟩ := other_ok o0 o1 x0 x1
      refine ⟨(by show 2 ≤ sizeLine; decide), fun p np => ?_⟩
      have s3 := same_new np (.lst [.str "to", .str "both"])
      refine ⟨_, rfl, d, 2, rfl, d2.mono s3, by decide, by decide, fun z H4 k4 d4 z0 z1 => ?_⟩
      have hpd : p ≠ d := fun e => by
        obtain ⟨ys, e2⟩ := d2.lst
        rw [← e, np] at e2
        cases e2
      have hz : atI [V.str "to", V.str "both"] z = some (.str (wd (decide (z = 1)))) := by
        have : z = 0 ∨ z = 1 := by omega
        rcases this with rfl | rfl
        · exact atI_nat (j := 0) rfl
        · exact atI_nat (j := 1) rfl
      refine ⟨p, _, z, _, rfl, rfl, SqL.of (k4 _ _ hpd upd_same), hz, ?_⟩
      have kk4 : Kp d H H4 := k1.trans (k2.trans ((same_kp s3).trans k4))
      have m4 := hms.mono (hd.tk kk4)
      have e4 := kk4 _ _ hne hrr
      refine ⟨_, rfl, _, rfl, _, rfl, d, y, r, xs, ms, M, rfl, d4, e4, m4, hne, hlen, fun m hm => (hM m hm).2, by omega, fun bg H5 k5 d5 b0 b1 => ?_⟩
      refine ⟨_, rfl, (by show 2 ≤ sizeLine; decide), fun p' np' => ?_⟩
      have s6 := same_new np' (.lst [.int 8, .int 2])
      refine ⟨_, rfl, rfl, .inr ⟨_, rfl, ?_⟩⟩
      have hv := ix2 (.int 8) (.int 2) (decide (V.int y = V.int 3))
      obtain ⟨j, ej, hj0, hj1⟩ : ∃ j : Int, (if decide (V.int y = V.int 3) = true then V.int 2 else V.int 8) = .int j ∧ 0 < j ∧ j ≤ 8 := by
        split
        · exact ⟨2, rfl, by decide, by decide⟩
        · exact ⟨8, rfl, by decide, by decide⟩
      rw [ej] at hv
      refine ⟨p', _, _, .int j, rfl, rfl, SqL.of upd_same, hv, d, j, rfl, d5.mono s6, hj0, by omega, fun g H7 k7 d7 g0 g1 => ?_⟩
      refine ⟨1, g, rfl, rfl, ?_⟩
      exact r7 H7 one _ _ bg _ (kk4.trans (k5.trans ((same_kp s6).trans k7))) d7 o0 o1 p0 p1 hne2 b0 b1 (by omega) (by omega)
    -- the first place
    obtain ⟨t1, h1, r1⟩ : ∃ t, PSs (cxOf CX0 P w K mg base nMeet "_law_meeting" (defScope sMeet) f cdv A outer s H E).nox ((defBody sMeet).drop 1) t ∧
        ∀ H1, Kp d H H1 → Deck H1 d → 
          t { nx := fun _ H' => Q .non H', rt := Q } [some (.ref d), some (.int y), some (.int k), some (.ref r), none, none, none, none, none, none] H1 := by
      refine ⟨_, pss_cons (ps_set (i := 4) nd rfl (.inl rfl) (pe_call GD hr (by rfl) gD kD bD .nil pass0 (pa_cons (pv 0) (pa_cons (pv 2) pa_nil))))
        (pss_cons (ps_if (PW.pt (pw_and (pt_cmpR op_eq (pv 1) pe_int (nomark _)) (pw_and1 (pt_cmpR (op_neD hr.units) (pv 3) (pe_lst pa_nil) (nomark _)))))
          (pss_one (ps_set (i := 4) nd rfl (.inl rfl) (pe_ix ix_tup (pe_ix ix_list (pv 3) (pe_un un_neg pe_int) (fun _ _ => rfl)) pe_int (fun _ _ => rfl)))) pss_nil) h3),
        fun H1 k1 d1 => ?_⟩
      refine ⟨_, rfl, _, rfl, d, k, rfl, d1, by omega, by omega, fun one H2 k2 d2 o0 o1 => ?_⟩
      have kk2 := k1.trans k2
      refine ⟨_, rfl, rfl, _, rfl, ite2 (fun c => ?_) (fun c => ?_)⟩
      · refine ⟨_, rfl, Nat.zero_le _, fun o no => ?_⟩
        have s3 := same_new no (.lst [])
        have kk3 : Kp d H (upd H2 o (.lst [])) := kk2.trans (same_kp s3)
        have m3 := hms.mono (hd.tk kk3)
        have e3 := kk3 _ _ hne hrr
        refine ⟨_, _, m3.dpL e3, .lst (SqL.of upd_same) .nil, sh_rows ms, sh_nilL, _, rfl, ?_⟩
        rw [eqv_nil]
        by_cases hl : ms.length = 0
        · rw [decide_eq_true hl]
          exact iteF (r3 _ one kk3 (d2.mono s3) o0 o1)
        · rw [decide_eq_false hl]
          refine iteT ?_
          obtain ⟨p, m, hp, hm, ht⟩ := ix_last m3 hl
          refine ⟨_, rfl, 1, rfl, r, xs, -1, .ref p, rfl, rfl, SqL.of e3, hp, p, _, 2, .int m.b, rfl, rfl, SqT.of ht, atI_nat (j := 2) rfl, ?_⟩
          have hb := (hM m hm).1.b0
          exact r3 _ m.b kk3 (d2.mono s3) hb.1 hb.2
      · exact iteF (r3 _ one kk2 d2 o0 o1)
    refine ⟨_, pss_cons (ps_if (PW.pt (pw_and (pt_cmpR op_eq (pv 1) pe_int (nomark _)) (pw_and (pt_cmpR (op_neD hr.units) (pv 3) (pe_lst pa_nil) (nomark _))
        (pw_and1 (pt_cmpR op_eq (pe_call GD hr (by rfl) gD kD bD .nil pass0 (pa_cons (pv 0) (pa_cons pe_int pa_nil))) pe_int (nomark _))))))
      (pss_one (ps_ret (pe_ix ix_list (pv 3) (pe_call GD hr (by rfl) gD kD bD .nil pass0 (pa_cons (pv 0) (pa_cons (pe_callB call_len_seq (by rfl) ml boot_len (pa_cons (pv 3) pa_nil)) pa_nil))) (fun _ _ => rfl)))) pss_nil) h1, ?_⟩
    refine ⟨_, rfl, rfl, _, rfl, ite2 (fun c => ?_) (fun c => ?_)⟩
    · have y5 : y = 5 := V.int.inj (of_decide_eq_true c)
      refine ⟨_, rfl, Nat.zero_le _, fun o no => ?_⟩
      have s3 := same_new no (.lst [])
      have d3 := hd.mono s3
      have m3 := hms.mono (same_tk s3)
      have e3 := s3 _ _ hrr
      refine ⟨_, _, m3.dpL e3, .lst (SqL.of upd_same) .nil, sh_rows ms, sh_nilL, _, rfl, ?_⟩
      rw [eqv_nil]
      by_cases hl : ms.length = 0
      · rw [decide_eq_true hl]
        exact iteF (iteF (r1 _ (same_kp s3) d3))
      · rw [decide_eq_false hl]
        refine iteT ?_
        refine ⟨_, rfl, d, 3, rfl, d3, by decide, by decide, fun z H4 k4 d4 z0 z1 => ?_⟩
        have kk4 : Kp d H H4 := (same_kp s3).trans k4
        refine ⟨rfl, _, rfl, ite2 (fun c2 => ?_) (fun c2 => ?_)⟩
        · have e4 := kk4 _ _ hne hrr
          have m4 := hms.mono (hd.tk kk4)
          refine ⟨_, rfl, _, rfl, _, rfl, r, xs, rfl, .inl (SqL.of e4), d, _, rfl, d4, ?_, ?_, fun x H5 k5 d5 x0 x1 => ?_⟩
          · rw [hms.len]
            omega
          · rw [hms.len]
            omega
          · rw [hms.len] at x1
            have kk5 := kk4.trans k5
            have e5 := kk5 _ _ hne hrr
            have m5 := hms.mono (hd.tk kk5)
            obtain ⟨p, m, hp, hm, ht⟩ := ix_row m5 x0 x1
            exact ⟨r, xs, x, .ref p, rfl, rfl, SqL.of e5, hp, q p m H5 kk5 d5 ht (hM m hm).1 (.inl (hM m hm).2)⟩
        · exact r1 _ kk4 d4
    · exact iteF (r1 _ (Kp.refl d H) hd)
end
end K11

namespace K11
open PySem PySem.Spec PyProof.Rows L2
abbrev sNet : Stmt := topS 19
abbrev sMoment : Stmt := topS 20
abbrev sStep : Stmt := topS 21
abbrev nNet : List Str := ["_law_deck_here", "_law_least", "_law_way", "_law_great", "_law_many", "_law_count", "_law_rows", "_law_k"]
abbrev nMoment : List Str := ["_law_deck_here", "_law_net_here", "_law_way", "_law_word", "_law_one", "_law_other", "_law_begin_here", "_law_long"]
abbrev nStep : List Str := ["_law_net_here", "_law_number", "_law_place", "_law_word", "_law_one", "_law_other", "_law_begin_here", "_law_long"]
theorem scNet : FnScope nNet ["_law_deck_here", "_law_least"] (defScope sNet) := ⟨rfl, rfl, rfl, by decide +kernel, rfl, by decide +kernel, by decide +kernel⟩
theorem scMoment : FnScope nMoment ["_law_deck_here", "_law_net_here"] (defScope sMoment) := ⟨rfl, rfl, rfl, by decide +kernel, rfl, by decide +kernel, by decide +kernel⟩
theorem scStep : FnScope nStep ["_law_net_here", "_law_number", "_law_place"] (defScope sStep) := ⟨rfl, rfl, rfl, by decide +kernel, rfl, by decide +kernel, by decide +kernel⟩
/-- a net as the law draws it -/
structure Nok (k : Int) (ms : List Mt) : Prop where
  k2 : 2 ≤ k
  k10 : k ≤ 10
  len : ms.length ≤ 40
  all : ∀ m ∈ ms, Mok k m ∧ m.e ≤ 10000000000000
theorem ix_ints (ns : List Int) {i : Int} (h0 : 0 ≤ i) (h1 : i < (ns.length : Int)) : ∃ n, atI (ns.map V.int) i = some (.int n) ∧ n ∈ ns := by
  have h : i.toNat < ns.length := by omega
  exact ⟨ns[i.toNat], at_of (j := i.toNat) (by omega) (by rw [List.getElem?_map, List.getElem?_eq_getElem h]; rfl), List.getElem_mem h⟩
section
variable {P : Program} {w : World} {K : PySem.W.Frag} {mg : Str → Option Value} {base : Heap}
/-! ### _law_net -/
def spNet : Sp := fun vs H Q _ => ∃ (d : Addr), vs = [.ref d, .int 2] ∧ Deck H d ∧ ∀ v k ms H', Kp d H H' → Deck H' d → Net H' v k ms → Nok k ms → Q v H'
theorem ok_net {f fD fM : Addr} {fd fdD fdM : FuncData} {k : Nat} (F : Fun K "_law_net" "_law_net" sNet f fd)
    (GD : FnOk P w K mg base CX0 k fD fdD ["_law_deck_here", "_law_most"] spDraw) (bD : Binds K fdD ["_law_deck_here", "_law_most"] []) (kD : PySem.W.keepIn K (.ref fD) = true) (gD : mg "_law_draw" = some (.ref fD))
    (GM : FnOk P w K mg base CX0 k fM fdM ["_law_deck_here", "_law_way", "_law_many", "_law_rows"] spMeet) (bM : Binds K fdM ["_law_deck_here", "_law_way", "_law_many", "_law_rows"] []) (kM : PySem.W.keepIn K (.ref fM) = true) (gM : mg "_law_meeting" = some (.ref fM))
    (mi : mg "int" = none) (mr : mg "range" = none) (mt : mg "tuple" = none) : FnOk P w K mg base CX0 (k + 1) f fd ["_law_deck_here", "_law_least"] spNet := by
  refine F.ok scNet (fun vs H Q E h => ?_) (fun cdv A outer s H vs Q E hr h => ?_)
  · obtain ⟨d, rfl, _⟩ := h
    rfl
  · obtain ⟨d, rfl, hd, q⟩ := h
    have nd := scNet.nd
    refine ⟨_, pss_cons (ps_set (i := 2) nd rfl (.inl rfl) (pe_ix ix_list (pe_lst (pa_cons pe_int (pa_cons pe_int (pa_cons pe_int (pa_cons pe_int (pa_cons pe_int (pa_cons pe_int (pa_cons pe_int (pa_cons pe_int pa_nil)))))))))
          (pe_call GD hr (by rfl) gD kD bD .nil pass0 (pa_cons (pv 0) (pa_cons pe_int pa_nil))) (fun _ _ => rfl)))
      (pss_cons (ps_set (i := 3) nd rfl (.inl rfl) (pe_callTy call_int1 (by rfl) mi boot_int (pa_cons (pe_cmpR op_eq (pe_call GD hr (by rfl) gD kD bD .nil pass0 (pa_cons (pv 0) (pa_cons pe_int pa_nil))) pe_int (nomark _)) pa_nil)))
      (pss_cons (ps_set (i := 4) nd rfl (.inl rfl) (pe_ix ix_list (pe_lst (pa_cons (pe_op op_add (pv 1) (pe_call GD hr (by rfl) gD kD bD .nil pass0 (pa_cons (pv 0) (pa_cons (pe_op op_sub pe_int (pv 1)) pa_nil)))) (pa_cons pe_int pa_nil))) (pv 3) (fun _ _ => rfl)))
      (pss_cons (ps_set (i := 5) nd rfl (.inl rfl) (pe_ix ix_list (pe_lst (pa_cons (pe_call GD hr (by rfl) gD kD bD .nil pass0 (pa_cons (pv 0) (pa_cons pe_int pa_nil)))
          (pa_cons (pe_op op_sub pe_int (pe_call GD hr (by rfl) gD kD bD .nil pass0 (pa_cons (pv 0) (pa_cons pe_int pa_nil)))) pa_nil))) (pv 3) (fun _ _ => rfl)))
      (pss_cons (ps_set (i := 6) nd rfl (.inl rfl) (pe_lst pa_nil))
      (pss_cons (ps_for PassesOwn.never rfl (pi_range1 (by rfl) mr (pa_cons (pe_op op_mul (pv 5) (pe_callTy call_int1 (by rfl) mi boot_int (pa_cons (pe_cmpR op_gt (pv 4) pe_int (nomark _)) pa_nil))) pa_nil)) (pg_name (i := 7) nd rfl (.inl rfl))
        (pss_one (ps_expr (pe_bm PySem.F.plainAttrs_list PySem.F.slot_list_append PySem.F.type_list_append mt_append (pv 6)
          (pa_cons (pe_call GM hr (by rfl) gM kM bM .nil pass0 (pa_cons (pv 0) (pa_cons (pv 2) (pa_cons (pv 4) (pa_cons (pv 6) pa_nil))))) pa_nil)))))
      (pss_one (ps_ret (pe_tup (pa_cons (pv 4) (pa_cons (pe_callTy call_tuple_of (by rfl) mt boot_tuple (pa_cons (pv 6) pa_nil)) pa_nil)))))))))), ?_⟩
    -- the way
    refine ⟨(by show 8 ≤ sizeLine; decide), fun p1 np1 => ?_⟩
    have s1 := same_new np1 (.lst ([0, 1, 2, 3, 4, 5, 1, 2].map V.int))
    refine ⟨_, rfl, d, 8, rfl, hd.mono s1, by decide, by decide, fun z H2 k2 d2 z0 z1 => ?_⟩
    have hpd : p1 ≠ d := fun e => by
      obtain ⟨ys, e2⟩ := hd.lst
      rw [← e, np1] at e2
      cases e2
    obtain ⟨y, hy, _⟩ := ix_ints [0, 1, 2, 3, 4, 5, 1, 2] z0 z1
    refine ⟨p1, _, z, .int y, rfl, rfl, SqL.of (k2 _ _ hpd upd_same), hy, ?_⟩
    -- great or not
    refine ⟨_, rfl, d, 8, rfl, d2, by decide, by decide, fun z3 H3 k3 d3 _ _ => ?_⟩
    refine ⟨rfl, .inr ⟨_, rfl, ?_⟩⟩
    have hg : ∀ a b : Int, atI [V.int a, V.int b] (if decide (V.int z3 = V.int 5) = true then 1 else 0) = some (.int (if decide (V.int z3 = V.int 5) = true then b else a)) := fun a b => by
      have := ix2 (.int a) (.int b) (decide (V.int z3 = V.int 5))
      rw [this]
      cases decide (V.int z3 = V.int 5) <;> rfl
    generalize decide (V.int z3 = V.int 5) = g at hg ⊢
    -- how many places
    refine ⟨_, rfl, _, rfl, _, rfl, 7, 2, rfl, rfl, d, _, rfl, d3, by decide, by decide, fun z4 H4 k4 d4 z40 z41 => ?_⟩
    refine ⟨2, z4, rfl, rfl, (by show 2 ≤ sizeLine; decide), fun p5 np5 => ?_⟩
    have s5 := same_new np5 (.lst [.int (2 + z4), .int 10])
    refine ⟨_, rfl, p5, _, _, _, rfl, rfl, SqL.of upd_same, hg (2 + z4) 10, ?_⟩
    -- how many meetings
    refine ⟨_, rfl, d, 13, rfl, d4.mono s5, by decide, by decide, fun z6 H6 k6 d6 z60 z61 => ?_⟩
    refine ⟨_, rfl, d, 9, rfl, d6, by decide, by decide, fun z7 H7 k7 d7 z70 z71 => ?_⟩
    refine ⟨40, z7, rfl, rfl, (by show 2 ≤ sizeLine; decide), fun p8 np8 => ?_⟩
    have s8 := same_new np8 (.lst [.int z6, .int (40 - z7)])
    refine ⟨_, rfl, p8, _, _, _, rfl, rfl, SqL.of upd_same, hg z6 (40 - z7), ?_⟩
    obtain ⟨k, ek, hk2, hk10⟩ : ∃ k : Int, (if g = true then (10 : Int) else 2 + z4) = k ∧ 2 ≤ k ∧ k ≤ 10 := ⟨_, rfl, by split <;> omega, by split <;> omega⟩
    rw [ek]
    obtain ⟨c, ec, hc0, hc40⟩ : ∃ c : Int, (if g = true then 40 - z7 else z6) = c ∧ 0 ≤ c ∧ c ≤ 40 := ⟨_, rfl, by split <;> omega, by split <;> omega⟩
    rw [ec]
    have kk8 : Kp d H (upd H7 p8 (.lst [.int z6, .int (40 - z7)])) := (same_kp s1).trans (k2.trans (k3.trans (k4.trans ((same_kp s5).trans (k6.trans (k7.trans (same_kp s8)))))))
    have d8 := d7.mono s8
    -- the rows
    refine ⟨Nat.zero_le _, fun r nr => ?_⟩
    have s9 := same_new nr (.lst [])
    have hrd : r ≠ d := fun e => by
      obtain ⟨ys, e2⟩ := d8.lst
      rw [← e, nr] at e2
      cases e2
    refine ⟨_, rfl, _, rfl, k, 1, rfl, rfl, .inr ⟨_, rfl, c, _, rfl, rfl, .inr ?_, ?_⟩⟩
    · split <;> exact ⟨by decide, by decide⟩
    obtain ⟨cnt, ecnt, hn0, hn1⟩ : ∃ cnt : Int, c * (if decide (1 < k) = true then 1 else 0) = cnt ∧ 0 ≤ cnt ∧ cnt ≤ 40 := ⟨_, rfl, by split <;> omega, by split <;> omega⟩
    refine ⟨cnt, congrArg (fun z => [V.int z]) ecnt, by omega, by omega, for_range (lo := 0) (n := cnt.toNat)
      (fun i σ H' => ∃ xs ms y7, σ = [some (.ref d), some (.int 2), some (.int y), some (.int (if g = true then 1 else 0)), some (.int k), some (.int c), some (.ref r), y7] ∧ Kp d H H' ∧ Deck H' d ∧ H' r = some (.lst xs) ∧ Ms H' xs ms ∧ ms.length = i ∧
        ∀ m ∈ ms, Mok k m ∧ m.e ≤ (if y = 4 then 10000000000000 else 30 + 10 * (i : Int)))
      ⟨[], [], none, rfl, kk8.trans (same_kp s9), d8.mono s9, upd_same, rs_nil, rfl, fun m hm => nomatch hm⟩ (fun i σ H' hi hP => ?_) (fun σ H' hP => ?_)⟩
    · obtain ⟨xs, ms, y7, rfl, k1, d1, er, hms, hl, hall⟩ := hP
      refine ⟨_, rfl, .inl ⟨rfl, _, SqL.of er⟩, _, rfl, _, rfl, _, rfl, _, rfl, d, y, k, r, xs, ms, (if y = 4 then 10000000000000 else 30 + 10 * (i : Int)), rfl, d1, er, hms, hrd, by omega, hk2, by omega, hall, ?_, ?_, fun p m H5 k5 d5 hp hm he => ?_⟩
      · split <;> omega
      · intro e
        rw [if_pos e]
      · have er5 := k5 _ _ hrd er
        refine ⟨r, xs, .ref p, rfl, rfl, er5, ?_, ?_⟩
        · rw [hms.len, hl]
          exact small1000 (by omega)
        · have t6 := kp_tk (kp_upd (.lst (xs ++ [.ref p]))) er5
          refine ⟨xs ++ [.ref p], ms ++ [m], _, rfl, fun b o nb e => ?_, ?_, upd_same, ?_, ?_, fun m' hm' => ?_⟩
          · by_cases hb : b = r
            · subst hb
              have := (kk8.trans (Kp.refl d _)) b o nb e
              rw [nr] at this
              cases this
            · rw [upd_ne hb]
              exact k5 _ _ nb (k1 _ _ nb e)
          · obtain ⟨a, b, c', h0, hd5⟩ := d5
            exact ⟨a, b, c', h0, by rw [upd_ne (Ne.symm hrd)]; exact hd5⟩
          · exact ((hms.mono (d1.tk k5)).mono t6).snoc (t6 _ _ hp)
          · rw [List.length_append, hl]
            rfl
          · rcases List.mem_append.mp hm' with z | z
            · refine ⟨(hall m' z).1, ?_⟩
              have := (hall m' z).2
              split
              · rename_i c4
                rw [if_pos c4] at this
                exact this
              · rename_i c4
                rw [if_neg c4] at this
                omega
            · have z' := List.mem_singleton.mp z
              subst z'
              refine ⟨hm, ?_⟩
              split
              · rename_i c4
                rcases he with he | he
                · rw [if_pos c4] at he
                  exact he
                · exact absurd c4 he.1
              · rename_i c4
                rw [if_neg c4] at he
                omega
    · obtain ⟨xs, ms, y7, rfl, k1, d1, er, hms, hl, hall⟩ := hP
      refine ⟨_, rfl, _, rfl, r, xs, rfl, .inl ⟨SqL.of er, fun l nl => ?_⟩⟩
      have s10 := same_new nl (.tup xs)
      refine ⟨(by show 2 ≤ sizeLine; decide), fun p np => ?_⟩
      have s11 := same_new np (.tup [.int k, .ref l])
      refine q (.ref p) k ms _ (k1.trans ((same_kp s10).trans (same_kp s11))) ((d1.mono s10).mono s11) ⟨p, l, xs, rfl, upd_same, s11 _ _ upd_same, (hms.mono (same_tk s10)).mono (same_tk s11)⟩ ⟨hk2, hk10, by omega, fun m hm => ⟨(hall m hm).1, ?_⟩⟩
      have := (hall m hm).2
      split at this <;> omega
/-! ### _law_moment -/
def spMoment : Sp := fun vs H Q _ => ∃ (d : Addr) (v : V) (k : Int) (ms : List Mt), vs = [.ref d, v] ∧ Deck H d ∧ Net H v k ms ∧ Nok k ms ∧ ∀ z H', Kp d H H' → Deck H' d → 0 ≤ z → z ≤ 10000000000000 → Q (.int z) H'
theorem ok_moment {f fD : Addr} {fd fdD : FuncData} {k : Nat} (F : Fun K "_law_moment" "_law_moment" sMoment f fd)
    (GD : FnOk P w K mg base CX0 k fD fdD ["_law_deck_here", "_law_most"] spDraw) (bD : Binds K fdD ["_law_deck_here", "_law_most"] []) (kD : PySem.W.keepIn K (.ref fD) = true) (gD : mg "_law_draw" = some (.ref fD))
    (ml : mg "len" = none) (mm : mg "max" = none) : FnOk P w K mg base CX0 (k + 1) f fd ["_law_deck_here", "_law_net_here"] spMoment := by
  refine F.ok scMoment (fun vs H Q E h => ?_) (fun cdv A outer s H vs Q E hr h => ?_)
  · obtain ⟨d, v, k, ms, rfl, _⟩ := h
    rfl
  · obtain ⟨d, v, k, ms, rfl, hd, N, ok, q⟩ := h
    have nd := scMoment.nd
    obtain ⟨tb, hb, rb⟩ : ∃ t, PSs (cxOf CX0 P w K mg base nMoment "_law_moment" (defScope sMoment) f cdv A outer s H E).nox (ifBody ((defBody sMoment).getD 1 (.Pass ⟨0, 0, 0, 0⟩))) t ∧
        ∀ H2 y R, Kp d H H2 → Deck H2 d → t { nx := R, rt := Q } [some (.ref d), some v, some (.int y), none, none, none, none, none] H2 := by
      refine ⟨_, pss_one (ps_ret (pe_ix ix_list (pe_lst (pa_cons pe_int (pa_cons (pe_call GD hr (by rfl) gD kD bD .nil pass0 (pa_cons (pv 0) (pa_cons pe_int pa_nil))) (pa_cons (pe_op op_pow pe_int pe_int) pa_nil))))
          (pe_call GD hr (by rfl) gD kD bD .nil pass0 (pa_cons (pv 0) (pa_cons pe_int pa_nil))) (fun _ _ => rfl))), fun H2 y R k2 d2 => ?_⟩
      refine ⟨_, rfl, d, 40, rfl, d2, by decide, by decide, fun a H3 k3 d3 a0 a1 => ?_⟩
      refine ⟨10, 13, rfl, rfl, ⟨by decide, by decide, by decide⟩, (by show 3 ≤ sizeLine; decide), fun p np => ?_⟩
      have s4 := same_new np (.lst [.int 0, .int a, .int 10000000000000])
      have hpd : p ≠ d := fun e => by
        obtain ⟨ys, e2⟩ := d3.lst
        rw [← e, np] at e2
        cases e2
      refine ⟨_, rfl, d, 3, rfl, d3.mono s4, by decide, by decide, fun z H5 k5 d5 z0 z1 => ?_⟩
      refine ⟨p, [.int 0, .int a, .int 10000000000000], z, _, rfl, rfl, SqL.of (k5 _ _ hpd upd_same), ix3 0 a 10000000000000 z0 z1, ?_⟩
      refine q _ H5 (k2.trans (k3.trans ((same_kp s4).trans k5))) d5 ?_ ?_
      · split
        · decide
        · split <;> omega
      · split
        · decide
        · split <;> omega
    refine ⟨_, pss_cons (ps_set (i := 2) nd rfl (.inl rfl) (pe_call GD hr (by rfl) gD kD bD .nil pass0 (pa_cons (pv 0) (pa_cons pe_int pa_nil))))
      (pss_cons (ps_if (PW.pt (pw_or (pt_cmpR (op_eqD hr.units) (pe_ix ix_tup (pv 1) pe_int (fun _ _ => rfl)) (pe_tup pa_nil) (nomark _)) (pw_or1 (pt_cmpR op_eq (pv 2) pe_int (nomark _))))) hb pss_nil)
      (pss_cons (ps_asg (pe_ix ix_tup (pe_ix ix_tup (pv 1) pe_int (fun _ _ => rfl)) (pe_call GD hr (by rfl) gD kD bD .nil pass0 (pa_cons (pv 0) (pa_cons (pe_callB call_len_seq (by rfl) ml boot_len (pa_cons (pe_ix ix_tup (pv 1) pe_int (fun _ _ => rfl)) pa_nil)) pa_nil))) (fun _ _ => rfl))
        (pg_tup rfl (pgs_cons (pg_name (i := 3) nd rfl (.inl rfl)) (pgs_cons (pg_name (i := 4) nd rfl (.inl rfl)) (pgs_cons (pg_name (i := 5) nd rfl (.inl rfl))
          (pgs_cons (pg_name (i := 6) nd rfl (.inl rfl)) (pgs_cons (pg_name (i := 7) nd rfl (.inl rfl)) pgs_nil)))))))
      (pss_one (ps_ret (pe_callB (call_max2 rfl) (by rfl) mm boot_max (pa_cons pe_int (pa_cons (pe_ix ix_list (pe_lst (pa_cons (pv 6) (pa_cons (pe_op op_add (pv 6) pe_int) (pa_cons (pe_op op_sub (pv 6) pe_int)
          (pa_cons (pe_op op_add (pv 6) (pv 7)) (pa_cons (pe_op op_sub (pe_op op_add (pv 6) (pv 7)) pe_int) pa_nil)))))) (pe_op op_sub (pv 2) pe_int) (fun _ _ => rfl)) pa_nil))))))), ?_⟩
    refine ⟨_, rfl, d, 6, rfl, hd, by decide, by decide, fun y H1 k1 d1 y0 y1 => ?_⟩
    obtain ⟨a, b, xs, rfl, h1, h2, h3⟩ := N.mono (hd.tk k1)
    refine ⟨_, rfl, a, _, 1, .ref b, rfl, rfl, SqT.of h1, atI_nat (j := 1) rfl, Nat.zero_le _, fun o no => ?_⟩
    have s2 := same_new no (.tup [])
    have k2 : Kp d H (upd H1 o (.tup [])) := k1.trans (same_kp s2)
    have d2 := d1.mono s2
    have m2 := h3.mono (same_tk s2)
    refine ⟨_, _, m2.dpT (s2 _ _ h2), .tup (SqT.of upd_same) .nil, sh_rowsT ms, sh_nilT, _, rfl, ?_⟩
    rw [eqv_nilT]
    by_cases hl : ms.length = 0
    · rw [decide_eq_true hl]
      exact iteT (rb _ y _ k2 d2)
    · rw [decide_eq_false hl]
      refine iteF ?_
      refine ⟨_, rfl, rfl, _, rfl, ite2 (fun c => ?_) (fun c => ?_)⟩
      · exact rb _ y _ k2 d2
      · have hy0 : y ≠ 0 := fun z => c (decide_eq_true (congrArg V.int z))
        refine ⟨_, rfl, a, _, 1, .ref b, rfl, rfl, SqT.of (s2 _ _ h1), atI_nat (j := 1) rfl, _, rfl, _, rfl, a, _, 1, .ref b, rfl, rfl, SqT.of (s2 _ _ h1), atI_nat (j := 1) rfl, b, xs, rfl, .inr (SqT.of (s2 _ _ h2)), d, _, rfl, d2, ?_, ?_, fun z H3 k3 d3 z0 z1 => ?_⟩
        · rw [h3.len]
          omega
        · rw [h3.len]
          have := ok.len
          omega
        · rw [h3.len] at z1
          have t3 := d2.tk k3
          obtain ⟨p, m, hp, hm, ht⟩ := ix_row (m2.mono t3) z0 z1
          refine ⟨b, xs, z, .ref p, rfl, rfl, SqT.of (t3 _ _ (s2 _ _ h2)), hp, ?_⟩
          refine ⟨p, _, rfl, SqT.of ht, rfl, _, _, rfl, _, _, rfl, _, _, rfl, _, _, rfl, _, _, rfl, rfl, ?_⟩
          refine ⟨_, rfl, _, rfl, m.s, 1, rfl, rfl, _, rfl, m.s, 1, rfl, rfl, _, rfl, _, rfl, m.s, m.l, rfl, rfl, _, rfl, _, rfl, m.s, m.l, rfl, rfl, m.s + m.l, 1, rfl, rfl, (by show 5 ≤ sizeLine; decide), fun l nl => ?_⟩
          have s4 := same_new nl (.lst [.int m.s, .int (m.s + 1), .int (m.s - 1), .int (m.s + m.l), .int (m.s + m.l - 1)])
          refine ⟨_, rfl, y, 1, rfl, rfl, ?_⟩
          obtain ⟨j, hj, hjm⟩ := ix_ints [m.s, m.s + 1, m.s - 1, m.s + m.l, m.s + m.l - 1] (i := y - 1) (by omega) (by show y - 1 < 5; omega)
          refine ⟨l, _, y - 1, .int j, rfl, rfl, SqL.of upd_same, hj, 0, j, rfl, ?_⟩
          obtain ⟨mo, me⟩ := ok.all m hm
          have me' : m.s + m.l ≤ 10000000000000 := me
          have ms0 := mo.s0
          have ml1 := mo.l1
          have hj2 : j ≤ 10000000000000 := by
            simp only [List.mem_cons, List.mem_nil_iff, or_false] at hjm
            omega
          refine q _ _ (k2.trans (k3.trans (same_kp s4))) (d3.mono s4) ?_ ?_
          · split <;> omega
          · split <;> omega
/-! ### _law_step -/
def sgV (q s e : Int) : List V := [.int q, .int s, .int e]
def spStep : Sp := fun vs H Q _ => ∃ v k ms n p m, vs = [v, .int n, .int p] ∧ Net H v k ms ∧ nth ms n = some m ∧ (stp m p = none → Q .non H) ∧
  ∀ q, stp m p = some q → ∀ r H', Same H H' → H' r = some (.tup (sgV q m.s m.e)) → Q (.ref r) H'
theorem ok_step {f : Addr} {fd : FuncData} {k : Nat} (F : Fun K "_law_step" "_law_step" sStep f fd) : FnOk P w K mg base CX0 (k + 1) f fd ["_law_net_here", "_law_number", "_law_place"] spStep := by
  refine F.ok scStep (fun vs H Q E h => ?_) (fun cdv A outer s H vs Q E hr h => ?_)
  · obtain ⟨v, k, ms, n, p, m, rfl, _⟩ := h
    rfl
  · obtain ⟨v, k, ms, n, p, m, rfl, N, hm, q0, q1⟩ := h
    obtain ⟨a, b, xs, r, rfl, h1, h2, h3, h4⟩ := net_at N hm
    refine ⟨_, pss_cons (ps_asg (pe_ix ix_tup (pe_ix ix_tup (pv 0) pe_int (fun _ _ => rfl)) (pv 1) (fun _ _ => rfl))
        (pg_tup rfl (pgs_cons (pg_name (i := 3) scStep.nd rfl (.inl rfl)) (pgs_cons (pg_name (i := 4) scStep.nd rfl (.inl rfl)) (pgs_cons (pg_name (i := 5) scStep.nd rfl (.inl rfl))
          (pgs_cons (pg_name (i := 6) scStep.nd rfl (.inl rfl)) (pgs_cons (pg_name (i := 7) scStep.nd rfl (.inl rfl)) pgs_nil)))))))
      (pss_cons (ps_if (pt_cmpR op_eq (pv 2) (pv 4) (nomark _))
        (pss_one (ps_ret (pe_tup (pa_cons (pv 5) (pa_cons (pv 6) (pa_cons (pe_op op_add (pv 6) (pv 7)) pa_nil)))))) pss_nil)
      (pss_cons (ps_if (PW.pt (pw_and (pt_cmpR op_eq (pv 3) pe_str (nomark _)) (pw_and1 (pt_cmpR op_eq (pv 2) (pv 5) (nomark _)))))
        (pss_one (ps_ret (pe_tup (pa_cons (pv 4) (pa_cons (pv 6) (pa_cons (pe_op op_add (pv 6) (pv 7)) pa_nil)))))) pss_nil)
      (pss_one (ps_ret pe_non)))), ?_⟩
    refine ⟨_, rfl, a, _, 1, .ref b, rfl, rfl, SqT.of h1, atI_nat (j := 1) rfl, _, rfl, b, _, n, .ref r, rfl, rfl, SqT.of h2, h3, ?_⟩
    refine ⟨r, _, rfl, SqT.of h4, rfl, _, _, rfl, _, _, rfl, _, _, rfl, _, _, rfl, _, _, rfl, rfl, ?_⟩
    refine ⟨_, rfl, _, rfl, rfl, _, rfl, ite2 (fun e => ?_) (fun e => ?_)⟩
    · have e' : p = m.a := V.int.inj (of_decide_eq_true e)
      refine ⟨_, rfl, _, rfl, _, rfl, _, rfl, _, _, rfl, rfl, (by show 3 ≤ sizeLine; decide), fun t nt => ?_⟩
      refine q1 m.b (by unfold stp; rw [if_pos e']) t _ (same_new nt _) ?_
      rw [upd_same]
      rfl
    · have e' : p ≠ m.a := fun z => e (decide_eq_true (congrArg V.int z))
      refine ⟨_, rfl, rfl, _, rfl, ite2 (fun c => ?_) (fun c => ?_)⟩
      · have c' : m.w = true := wd_both.mp (of_decide_eq_true c)
        refine ⟨_, rfl, _, rfl, rfl, _, rfl, ite2 (fun d => ?_) (fun d => ?_)⟩
        · have d' : p = m.b := V.int.inj (of_decide_eq_true d)
          refine ⟨_, rfl, _, rfl, _, rfl, _, rfl, _, _, rfl, rfl, (by show 3 ≤ sizeLine; decide), fun t nt => ?_⟩
          refine q1 m.a (by unfold stp; rw [if_neg e', if_pos ⟨c', d'⟩]) t _ (same_new nt _) ?_
          rw [upd_same]
          rfl
        · exact q0 (by unfold stp; rw [if_neg e', if_neg fun z => d (decide_eq_true (congrArg V.int z.2))])
      · refine iteF ?_
        exact q0 (by unfold stp; rw [if_neg e', if_neg fun z => c (decide_eq_true (wd_both.mpr z.1))])
end
end K11

namespace K11
open PySem PySem.Spec PyProof.Rows L2
abbrev sGone : Stmt := topS 22
abbrev nGone : List Str := ["_law_deck_here", "_law_net_here", "_law_place", "_law_moment_here", "_law_most", "_law_way", "_law_now", "_law_some", "_law_number", "_law_step_here", "_law_at", "_law_begin_here"]
theorem scGone : FnScope nGone ["_law_deck_here", "_law_net_here", "_law_place", "_law_moment_here", "_law_most"] (defScope sGone) := ⟨rfl, rfl, rfl, by decide +kernel, rfl, by decide +kernel, by decide +kernel⟩
/-- the pair that stands at a reference -/
def prAt (H : Hp) (v : V) : Int × Int := match v with
  | .ref t => (match H t with
    | some (.tup [.int i, .int j]) => (i, j)
    | _ => (0, 0))
  | _ => (0, 0)
theorem prAt_of {H : Hp} {p : Addr} {e : Int × Int} (h : H p = some (.tup (pV e))) : prAt H (.ref p) = e := by
  unfold prAt
  simp only [h]
  rfl
def Prs (H : Hp) (xs : List V) (es : List (Int × Int)) : Prop := Rs H xs (es.map pV)
theorem Prs.len {H : Hp} {xs : List V} {es : List (Int × Int)} (h : Prs H xs es) : xs.length = es.length := by
  have := Rs.len h
  rw [List.length_map] at this
  exact this
theorem Prs.mono {H H' : Hp} {xs : List V} {es : List (Int × Int)} (r : Prs H xs es) (k : TK H H') : Prs H' xs es := Rs.mono r k
theorem Prs.snoc {H : Hp} {xs : List V} {es : List (Int × Int)} (r : Prs H xs es) {p : Addr} {e : Int × Int} (h : H p = some (.tup (pV e))) : Prs H (xs ++ [.ref p]) (es ++ [e]) := by
  show Rs H (xs ++ [.ref p]) ((es ++ [e]).map pV)
  rw [List.map_append]
  exact Rs.snoc r h
theorem Prs.mem {H : Hp} {xs : List V} {es : List (Int × Int)} (r : Prs H xs es) {x : V} (h : x ∈ xs) : ∃ p e, x = .ref p ∧ e ∈ es ∧ H p = some (.tup (pV e)) := by
  obtain ⟨i, hi⟩ := List.mem_iff_getElem?.mp h
  obtain ⟨p, t, h1, h2, h3⟩ := Rs.get r hi
  rw [List.getElem?_map] at h2
  cases e : es[i]? with
  | none => rw [e] at h2; cases h2
  | some z =>
    rw [e] at h2
    have h2' : pV z = t := Option.some.inj h2
    exact ⟨p, z, h1, List.mem_of_getElem? e, by rw [h2']; exact h3⟩
theorem Prs.dp {K : PySem.W.Frag} {H : Hp} {a : Addr} {xs : List V} {es : List (Int × Int)} (h : Prs H xs es) (e : H a = some (.lst xs)) : Dp K H (.ref a) (pairsD es) := .lst (SqL.of e) (Rs.dp dp_p h)
theorem Prs.srt {H : Hp} {xs : List V} {es : List (Int × Int)} (h : Prs H xs es) : ∀ x ∈ xs, ∃ t, x = V.ref t ∧ H t = some (.tup [.int (prAt H x).1, .int (prAt H x).2]) := fun x hx => by
  obtain ⟨p, e, rfl, _, he⟩ := h.mem hx
  exact ⟨p, rfl, by rw [prAt_of he]; exact he⟩
theorem lp_snoc : ∀ (p : Int) (ps : List Int) (q : Int), lp p (ps ++ [q]) = q
  | p, [], q => rfl
  | p, x :: xs, q => lp_snoc x xs q
/-- a meeting that can be gone from a place at a moment or later -/
def Vl (ms : List Mt) (here now n : Int) : Prop := ∃ m z, nth ms n = some m ∧ stp m here = some z ∧ now ≤ m.s
section
variable {P : Program} {w : World} {K : PySem.W.Frag} {mg : Str → Option Value} {base : Heap}
/-! ### _law_gone -/
def spGone : Sp := fun vs H Q _ => ∃ (d : Addr) (v : V) (k : Int) (ms : List Mt) (p t : Int), vs = [.ref d, v, .int p, .int t, .int 20] ∧ Deck H d ∧ Net H v k ms ∧ Nok k ms ∧
  ∀ u r ps H', Kp d H H' → Deck H' d → Row H' u r → Ld ms p t r ps → r.length ≤ 20 → Q u H'
theorem ok_gone {f fD fS : Addr} {fd fdD fdS : FuncData} {k : Nat} (F : Fun K "_law_gone" "_law_gone" sGone f fd)
    (GD : FnOk P w K mg base CX0 k fD fdD ["_law_deck_here", "_law_most"] spDraw) (bD : Binds K fdD ["_law_deck_here", "_law_most"] []) (kD : PySem.W.keepIn K (.ref fD) = true) (gD : mg "_law_draw" = some (.ref fD))
    (GS : FnOk P w K mg base CX0 k fS fdS ["_law_net_here", "_law_number", "_law_place"] spStep) (bS : Binds K fdS ["_law_net_here", "_law_number", "_law_place"] []) (kS : PySem.W.keepIn K (.ref fS) = true) (gS : mg "_law_step" = some (.ref fS))
    (ml : mg "len" = none) (mr : mg "range" = none) (ms' : mg "sorted" = none) : FnOk P w K mg base CX0 (k + 1) f fd ["_law_deck_here", "_law_net_here", "_law_place", "_law_moment_here", "_law_most"] spGone := by
  refine F.ok scGone (fun vs H Q E h => ?_) (fun cdv A outer s H vs Q E hr h => ?_)
  · obtain ⟨d, v, k, ms, p, t, rfl, _⟩ := h
    rfl
  · obtain ⟨d, v, k, ms, p, t, rfl, hd, N, ok, q⟩ := h
    have nd := scGone.nd
    refine ⟨_, pss_cons (ps_set (i := 5) nd rfl (.inl rfl) (pe_tup pa_nil))
      (pss_cons (ps_set (i := 6) nd rfl (.inl rfl) (pv 3))
      (pss_cons (ps_while PassesOwn.never (pt_cmpR op_lt (pe_callB call_len_seq (by rfl) ml boot_len (pa_cons (pv 5) pa_nil)) (pv 4) (nomark _))
        (pss_cons (ps_set (i := 7) nd rfl (.inl rfl) (pe_lst pa_nil))
        (pss_cons (ps_for PassesOwn.never rfl (pi_range1 (by rfl) mr (pa_cons (pe_callB call_len_seq (by rfl) ml boot_len (pa_cons (pe_ix ix_tup (pv 1) pe_int (fun _ _ => rfl)) pa_nil)) pa_nil)) (pg_name (i := 8) nd rfl (.inl rfl))
          (pss_cons (ps_set (i := 9) nd rfl (.inl rfl) (pe_call GS hr (by rfl) gS kS bS .nil pass0 (pa_cons (pv 1) (pa_cons (pv 8) (pa_cons (pv 2) pa_nil)))))
          (pss_one (ps_if (PW.pt (pw_and (pt_cmpR op_notN (pv 9) pe_non (nomark _)) (pw_and1 (pt_cmpR op_ge (pe_ix ix_tup (pv 9) pe_int (fun _ _ => rfl)) (pv 6) (nomark _)))))
            (pss_one (ps_expr (pe_bm PySem.F.plainAttrs_list PySem.F.slot_list_append PySem.F.type_list_append mt_append (pv 7)
              (pa_cons (pe_tup (pa_cons (pe_ix ix_tup (pv 9) pe_int (fun _ _ => rfl)) (pa_cons (pv 8) pa_nil))) pa_nil)))) pss_nil))))
        (pss_cons (ps_if (PW.pt (pw_or (pt_cmpR (op_eqD hr.units) (pv 7) (pe_lst pa_nil) (nomark _)) (pw_or1 (pt_cmpR op_eq (pe_call GD hr (by rfl) gD kD bD .nil pass0 (pa_cons (pv 0) (pa_cons pe_int pa_nil))) pe_int (nomark _)))))
          (pss_one (ps_ret (pv 5))) pss_nil)
        (pss_cons (ps_set (i := 10) nd rfl (.inl rfl) (pe_ix ix_list (pe_lst (pa_cons pe_int (pa_cons (pe_call GD hr (by rfl) gD kD bD .nil pass0 (pa_cons (pv 0) (pa_cons (pe_callB call_len_seq (by rfl) ml boot_len (pa_cons (pv 7) pa_nil)) pa_nil))) pa_nil)))
            (pe_call GD hr (by rfl) gD kD bD .nil pass0 (pa_cons (pv 0) (pa_cons pe_int pa_nil))) (fun _ _ => rfl)))
        (pss_cons (ps_set (i := 8) nd rfl (.inl rfl) (pe_ix ix_tup (pe_ix ix_list (pe_callB cr_sortedPO (by rfl) ms' boot_sorted (pa_cons (pv 7) pa_nil)) (pv 10) (fun _ _ => rfl)) pe_int (fun _ _ => rfl)))
        (pss_cons (ps_asg (pe_call GS hr (by rfl) gS kS bS .nil pass0 (pa_cons (pv 1) (pa_cons (pv 8) (pa_cons (pv 2) pa_nil))))
          (pg_tup rfl (pgs_cons (pg_name (i := 2) nd rfl (.inl rfl)) (pgs_cons (pg_name (i := 11) nd rfl (.inl rfl)) (pgs_cons (pg_name (i := 6) nd rfl (.inl rfl)) pgs_nil)))))
        (pss_one (ps_set (i := 5) nd rfl (.inl rfl) (pe_op op_catA (pv 5) (pe_tup (pa_cons (pv 8) pa_nil))))))))))))
      (pss_one (ps_ret (pv 5))))), ?_⟩
    refine ⟨Nat.zero_le _, fun o0 no0 => ?_⟩
    have s0 := same_new no0 (.tup [])
    refine ⟨_, rfl, ?_⟩
    refine ⟨fun mm σ H' => ∃ u r ps here now y7 y8 y9 y10 y11, σ = [some (.ref d), some v, some (.int here), some (.int t), some (.int 20), some u, some (.int now), y7, y8, y9, y10, y11] ∧ Kp d H H' ∧ Deck H' d ∧ Row H' u r ∧ Ld ms p t r ps ∧
        here = lp p ps ∧ now = cms ms t r ∧ r.length + mm = 20,
      ⟨20, .ref o0, [], [], p, t, none, none, none, none, none, rfl, same_kp s0, hd.mono s0, ⟨o0, rfl, upd_same⟩, rfl, rfl, rfl, rfl⟩, fun mm σ H1 hW => ?_⟩
    obtain ⟨u, r, ps, here, now, y7, y8, y9, y10, y11, rfl, k1, d1, R1, hLd, eh, en', hmm⟩ := hW
    obtain ⟨ua, rfl, hua⟩ := id R1
    refine ⟨_, rfl, ua, _, rfl, .inr (SqT.of hua), _, rfl, _, 20, rfl, rfl, _, rfl, ?_⟩
    rw [List.length_map]
    by_cases hlt : ((r.length : Nat) : Int) < 20
    rotate_left
    · rw [decide_eq_false hlt]
      refine iteF ?_
      exact ⟨_, rfl, q (.ref ua) r ps H1 k1 d1 R1 hLd (by omega)⟩
    · rw [decide_eq_true hlt]
      refine iteT ?_
      refine ⟨fun σ' H' => ∃ u r' ps here now y7 y8 y9 y10 y11, σ' = [some (.ref d), some v, some (.int here), some (.int t), some (.int 20), some u, some (.int now), y7, y8, y9, y10, y11] ∧ Kp d H H' ∧ Deck H' d ∧ Row H' u r' ∧ Ld ms p t r' ps ∧
          here = lp p ps ∧ now = cms ms t r' ∧ r'.length = r.length + 1, fun σ' H' hN => ?_, ?_⟩
      · obtain ⟨u, r', ps, here, now, y7, y8, y9, y10, y11, e1, e2, e3, e4, e5, e6, e7, e8⟩ := hN
        exact ⟨mm - 1, by omega, u, r', ps, here, now, y7, y8, y9, y10, y11, e1, e2, e3, e4, e5, e6, e7, by omega⟩
      · -- some = []
        refine ⟨Nat.zero_le _, fun o no => ?_⟩
        have s2 := same_new no (.lst [])
        obtain ⟨a, b, xs, rfl, h1, h2, h3⟩ := N.mono (hd.tk k1)
        have N1 : Net H1 (.ref a) k ms := ⟨a, b, xs, rfl, h1, h2, h3⟩
        have hxl := h3.len
        have hl40 := ok.len
        refine ⟨_, rfl, a, _, 1, .ref b, rfl, rfl, SqT.of (s2 _ _ h1), atI_nat (j := 1) rfl, b, xs, rfl, .inr (SqT.of (s2 _ _ h2)), _, rfl, by omega, by omega, for_range (lo := 0) (n := ((xs.length : Nat) : Int).toNat)
          (fun i σ H' => ∃ zs es y8 y9, σ = [some (.ref d), some (.ref a), some (.int here), some (.int t), some (.int 20), some (.ref ua), some (.int now), some (.ref o), y8, y9, y10, y11] ∧ Same H1 H' ∧ H' o = some (.lst zs) ∧ Prs H' zs es ∧ es.length ≤ i ∧ ∀ e ∈ es, Vl ms here now e.2)
          ⟨[], [], y8, y9, rfl, s2, upd_same, rs_nil, Nat.le_refl 0, fun e he => nomatch he⟩ (fun i σ H' hi hP => ?_) (fun σ H' hP => ?_)⟩
        · obtain ⟨zs, es, y8, y9, rfl, s3, eo, hz, hel, hall⟩ := hP
          have hi' : i < ms.length := by omega
          obtain ⟨m, hm, _⟩ := nth_in (ms := ms) (n := 0 + (i : Int)) (by omega) (by omega)
          refine ⟨_, rfl, _, rfl, _, rfl, .ref a, k, ms, 0 + (i : Int), here, m, rfl, N1.mono (same_tk s3), hm, fun e => ?_, fun z e r2 H4 s4 er2 => ?_⟩
          · refine ⟨_, rfl, rfl, false, rfl, iteF ?_⟩
            refine iteF ?_
            exact ⟨zs, es, _, _, rfl, s3, eo, hz, by omega, hall⟩
          · refine ⟨_, rfl, rfl, true, rfl, iteT ?_⟩
            refine ⟨_, rfl, r2, _, 1, .int m.s, rfl, rfl, SqT.of er2, atI_nat (j := 1) rfl, _, rfl, m.s, now, rfl, rfl, _, rfl, ite2 (fun c => ?_) (fun c => ?_)⟩
            · have c' : now ≤ m.s := of_decide_eq_true c
              refine ⟨_, rfl, .inl ⟨rfl, _, SqL.of (s4 _ _ eo)⟩, _, rfl, r2, _, 1, .int m.s, rfl, rfl, SqT.of er2, atI_nat (j := 1) rfl, _, rfl, (by show 2 ≤ sizeLine; decide), fun z2 nz2 => ?_⟩
              have s5 := same_new nz2 (.tup [.int m.s, .int (0 + (i : Int))])
              have eo5 := s5 _ _ (s4 _ _ eo)
              refine ⟨o, zs, .ref z2, rfl, rfl, eo5, ?_, ?_⟩
              · rw [hz.len]
                exact small1000 (by omega)
              · have t6 := kp_tk (kp_upd (.lst (zs ++ [.ref z2]))) eo5
                refine ⟨zs ++ [.ref z2], es ++ [(m.s, 0 + (i : Int))], _, _, rfl, fun x y e3 => ?_, upd_same, ?_, ?_, fun e' he' => ?_⟩
                · rw [upd_ne (ne_of_none e3 no)]
                  exact s5 _ _ (s4 _ _ (s3 _ _ e3))
                · exact (((hz.mono (same_tk s4)).mono (same_tk s5)).mono t6).snoc (t6 _ _ upd_same)
                · rw [List.length_append]
                  show es.length + 1 ≤ i + 1
                  omega
                · rcases List.mem_append.mp he' with z3 | z3
                  · exact hall e' z3
                  · rw [List.mem_singleton.mp z3]
                    exact ⟨m, z, hm, e, c'⟩
            · exact ⟨zs, es, _, _, rfl, s3.trans s4, s4 _ _ eo, hz.mono (same_tk s4), by omega, hall⟩
        · obtain ⟨zs, es, y8, y9, rfl, s3, eo, hz, hel, hall⟩ := hP
          have k3 : Kp d H H' := k1.trans (same_kp s3)
          have d3 := d1.mono s3
          have back : ∀ H4, Kp d H' H4 → Deck H4 d → Q (.ref ua) H4 := fun H4 k4 d4 => q (.ref ua) r ps H4 (k3.trans k4) d4 ((R1.mono (same_tk s3)).mono (d3.tk k4)) hLd (by omega)
          refine ⟨_, rfl, Nat.zero_le _, fun o2 no2 => ?_⟩
          have s4 := same_new no2 (.lst [])
          have eo4 := s4 _ _ eo
          have hz4 := hz.mono (same_tk s4)
          refine ⟨_, _, hz4.dp eo4, .lst (SqL.of upd_same) .nil, sh_pairs es, sh_nilL, _, rfl, ?_⟩
          rw [show PyData.eqv (pairsD es) (.list []) = decide (es.length = 0) from eqv_nil _ es]
          by_cases hl : es.length = 0
          · rw [decide_eq_true hl]
            refine iteT ?_
            exact ⟨_, rfl, back _ (same_kp s4) (d3.mono s4)⟩
          · rw [decide_eq_false hl]
            refine iteF ?_
            have hod : o ≠ d := fun e => by
              obtain ⟨ys, e2⟩ := d1.lst
              rw [← e, no] at e2
              cases e2
            refine ⟨_, rfl, d, 8, rfl, d3.mono s4, by decide, by decide, fun z5 H5 k5 d5 _ _ => ?_⟩
            have k45 : Kp d H' H5 := (same_kp s4).trans k5
            refine ⟨rfl, _, rfl, ite2 (fun c => ?_) (fun c => ?_)⟩
            · exact ⟨_, rfl, back H5 k45 d5⟩
            · -- the place in the row
              have eo5 := k5 _ _ hod eo4
              have hz5 := hz4.mono ((d3.mono s4).tk k5)
              refine ⟨_, rfl, _, rfl, o, zs, rfl, .inl (SqL.of eo5), d, _, rfl, d5, ?_, ?_, fun x H6 k6 d6 x0 x1 => ?_⟩
              · rw [hz.len]
                omega
              · rw [hz.len]
                omega
              rw [hz.len] at x1
              refine ⟨(by show 2 ≤ sizeLine; decide), fun p7 np7 => ?_⟩
              have s7 := same_new np7 (.lst [.int 0, .int x])
              have hpd : p7 ≠ d := fun e => by
                obtain ⟨ys, e2⟩ := d6.lst
                rw [← e, np7] at e2
                cases e2
              refine ⟨_, rfl, d, 2, rfl, d6.mono s7, by decide, by decide, fun z8 H8 k8 d8 z80 z81 => ?_⟩
              obtain ⟨j, hj, hj0, hj1⟩ : ∃ j : Int, atI [V.int 0, V.int x] z8 = some (.int j) ∧ 0 ≤ j ∧ j < (es.length : Int) := by
                have : z8 = 0 ∨ z8 = 1 := by omega
                rcases this with rfl | rfl
                · exact ⟨0, atI_nat (j := 0) rfl, by omega, by omega⟩
                · exact ⟨x, atI_nat (j := 1) rfl, x0, x1⟩
              refine ⟨p7, [.int 0, .int x], z8, .int j, rfl, rfl, SqL.of (k8 _ _ hpd upd_same), hj, ?_⟩
              have k68 : Kp d H5 H8 := k6.trans ((same_kp s7).trans k8)
              have eo8 := k68 _ _ hod eo5
              have hz8 := hz5.mono (d5.tk k68)
              -- sorted
              refine ⟨_, rfl, o, zs, prAt H8, rfl, SqL.of eo8, hz8.srt, fun ys p9 hs hb np9 => ?_⟩
              have s9 := same_new np9 (.lst ys)
              have hyl : ys.length = es.length := by
                rw [hb.perm.length_eq, hz.len]
              have hjt : j.toNat < ys.length := by omega
              have hmem : ys[j.toNat] ∈ zs := hb.perm.mem_iff.mp (List.getElem_mem hjt)
              obtain ⟨pe, e, epe, hee, hpe⟩ := hz8.mem hmem
              have hat : atI ys j = some (.ref pe) := at_of (j := j.toNat) (by omega) (by rw [List.getElem?_eq_getElem hjt, epe])
              refine ⟨_, rfl, p9, ys, j, .ref pe, rfl, rfl, SqL.of upd_same, hat, pe, _, 1, .int e.2, rfl, rfl, SqT.of (s9 _ _ hpe), atI_nat (j := 1) rfl, ?_⟩
              obtain ⟨m, z, hm, hst, hnow⟩ := hall e hee
              have k39 : Kp d H (upd H8 p9 (.lst ys)) := k3.trans (k45.trans (k68.trans (same_kp s9)))
              have t19 : TK H1 (upd H8 p9 (.lst ys)) := TK.trans (same_tk s3) (TK.trans (d3.tk k45) (TK.trans (d5.tk k68) (same_tk s9)))
              refine ⟨_, rfl, _, rfl, _, rfl, .ref a, k, ms, e.2, here, m, rfl, N1.mono t19, hm, fun e4 => ?_, fun z2 e4 r2 H10 s10 er2 => ?_⟩
              · rw [hst] at e4
                cases e4
              · rw [hst] at e4
                cases e4
                refine ⟨r2, _, rfl, SqT.of er2, rfl, _, _, rfl, _, _, rfl, _, _, rfl, rfl, ?_⟩
                refine ⟨_, rfl, _, rfl, (by show 1 ≤ sizeLine; decide), fun p11 np11 => ?_⟩
                have s11 := same_new np11 (.tup [.int e.2])
                have k11 : Kp d H (upd H10 p11 (.tup [.int e.2])) := k39.trans ((same_kp s10).trans (same_kp s11))
                have d11 : Deck (upd H10 p11 (.tup [.int e.2])) d := ((d8.mono s9).mono s10).mono s11
                have t11 : TK H1 (upd H10 p11 (.tup [.int e.2])) := TK.trans t19 (TK.trans (same_tk s10) (same_tk s11))
                have hLd2 := ld_snoc hLd hm (by rw [← eh]; exact hst) (by rw [← en']; exact hnow)
                have hend : z = lp p (ps ++ [z]) := (lp_snoc p ps z).symm
                have hcm : m.e = cms ms t (r ++ [e.2]) := by rw [cms_snoc, en_of hm]
                refine ⟨ua, p11, r.map V.int, [.int e.2], rfl, rfl, SqT.of (t11 _ _ hua), SqT.of upd_same, ?_, fun hx => ?_, fun hx hy => ?_, fun hx hy p12 np12 => ?_⟩
                · rw [List.length_map]
                  show r.length + 1 ≤ sizeLine
                  exact Nat.le_of_lt (small1000 (by omega))
                · have hr0 : r = [] := List.map_eq_nil_iff.mp hx
                  exact ⟨.ref p11, r ++ [e.2], ps ++ [z], z, m.e, _, _, _, _, _, rfl, k11, d11, ⟨p11, rfl, by rw [hr0]; exact upd_same⟩, hLd2, hend, hcm, by rw [List.length_append]; rfl⟩
                · cases hy
                · have s12 := same_new np12 (.tup (r.map V.int ++ [.int e.2]))
                  exact ⟨.ref p12, r ++ [e.2], ps ++ [z], z, m.e, _, _, _, _, _, rfl, k11.trans (same_kp s12), d11.mono s12, ⟨p12, rfl, by rw [upd_same, List.map_append]; rfl⟩, hLd2, hend, hcm, by rw [List.length_append]; rfl⟩
end
end K11

namespace K11
open PySem PySem.Spec PyProof.Rows L2
abbrev sRight : Stmt := topS 23
abbrev sEnds : Stmt := topS 24
abbrev nRight : List Str := ["_law_net_here", "_law_place", "_law_moment_here", "_law_way", "_law_top", "_law_turned", "_law_back", "_law_places", "_law_comes", "_law_leaves"]
abbrev nEnds : List Str := ["_law_net_here", "_law_row", "_law_found", "_law_place"]
theorem scRight : FnScope nRight ["_law_net_here", "_law_place", "_law_moment_here", "_law_way", "_law_top"] (defScope sRight) := ⟨rfl, rfl, rfl, by decide +kernel, rfl, by decide +kernel, by decide +kernel⟩
theorem scEnds : FnScope nEnds ["_law_net_here", "_law_row"] (defScope sEnds) := ⟨rfl, rfl, rfl, by decide +kernel, rfl, by decide +kernel, by decide +kernel⟩
theorem last_lp : ∀ (p : Int) (ps : List Int), (p :: ps).getLast? = some (lp p ps)
  | p, [] => rfl
  | p, q :: qs => by
    rw [List.getLast?_cons_cons]
    exact last_lp q qs
/-- when the first meeting leaves -/
def lv (ms : List Mt) (t : Int) : List Int → Int
  | [] => t
  | n :: _ => bg ms n
theorem cms_turn {ms : List Mt} {top t : Int} {r : List Int} (h : ∀ n ∈ r, ∃ m, nth ms n = some m) : cms (tms top ms) (top - cms ms t r) r.reverse = top - lv ms t r := by
  cases r with
  | nil => rfl
  | cons n r' =>
    obtain ⟨m, hm⟩ := h n List.mem_cons_self
    have f : nth (tms top ms) n = some (tm top m) := by rw [nth_tms, hm]; rfl
    rw [List.reverse_cons, cms_snoc, en_of f, tm_e]
    show top - m.s = top - bg ms n
    rw [bg_of hm]
theorem all_turn {ms : List Mt} {top : Int} {r : List Int} (h : ∀ n ∈ r, ∃ m, nth ms n = some m) : ∀ n ∈ r.reverse, ∃ m, nth (tms top ms) n = some m := fun n hn => by
  obtain ⟨m, hm⟩ := h n (List.mem_reverse.mp hn)
  exact ⟨tm top m, by rw [nth_tms, hm]; rfl⟩
theorem cut1 (xs : List V) : cutV xs (some 1) none = xs.drop 1 := by
  unfold cutV
  rw [show HT.sIx xs.length 0 (some 1) = min 1 xs.length from HT.sIx_nat xs.length 0 1, HT.sIx_none]
  cases xs with
  | nil => rfl
  | cons x r =>
    rw [show min 1 (x :: r).length = 1 by
      rw [List.length_cons]
      omega]
    show (List.take ((x :: r).length - 1) r) = r
    rw [List.length_cons, Nat.add_sub_cancel]
    exact List.take_length
/-- t[1:] of a row -/
theorem sl_rest {K : PySem.W.Frag} {H : Hp} {x : V} {r : List Int} {Q : VK} (R : Row H x r) (q : ∀ y H', Same H H' → Row H' y (r.drop 1) → Q y H') : rSlA K x (some 1) none H Q := by
  obtain ⟨a, rfl, h⟩ := R
  refine ⟨a, _, rfl, SqT.of h, fun c => ?_, fun _ p np => ?_⟩
  · refine q _ H (Same.refl H) ⟨a, rfl, ?_⟩
    have e : HT.sIx (r.map V.int).length 0 (some 1) = min 1 (r.map V.int).length := HT.sIx_nat _ 0 1
    have c1 := c.1
    rw [e] at c1
    rw [List.length_map] at c1
    have : r = [] := List.length_eq_zero_iff.mp (by omega)
    subst this
    exact h
  · refine q _ _ (same_new np _) ⟨p, rfl, ?_⟩
    rw [upd_same, cut1, List.map_drop]
theorem np_ok {s : L2.St} {H : Hp} {G : Option Int → Hp → Prop} (h : G none H) : tNoPart s H G := h
section
variable {P : Program} {w : World} {K : PySem.W.Frag} {mg : Str → Option Value} {base : Heap}
/-! ### _law_ends -/
def spEnds : Sp := fun vs H Q _ => ∃ (v : V) (k : Int) (ms : List Mt) (u : V) (r : List Int), vs = [v, u] ∧ Net H v k ms ∧ 0 ≤ k ∧ k ≤ 900 ∧ Row H u r ∧ r.length ≤ 900 ∧
  ∀ o xs H', Same H H' → H' o = some (.lst xs) → Prs H' xs (ends ms r k.toNat) → Q (.ref o) H'
theorem ok_ends {f fW fP : Addr} {fd fdW fdP : FuncData} {k : Nat} (F : Fun K "_law_ends" "_law_ends" sEnds f fd)
    (GW : FnOk P w K mg base CX0 k fW fdW ["net", "place", "moment", "thing"] spIsWay) (bW : Binds K fdW ["net", "place", "moment", "thing"] []) (kW : PySem.W.keepIn K (.ref fW) = true) (gW : mg "is_way" = some (.ref fW))
    (GP : FnOk P w K mg base CX0 k fP fdP ["net", "place", "way"] spPlaces) (bP : Binds K fdP ["net", "place", "way"] []) (kP : PySem.W.keepIn K (.ref fP) = true) (gP : mg "places_on" = some (.ref fP))
    (mr : mg "range" = none) : FnOk P w K mg base CX0 (k + 1) f fd ["_law_net_here", "_law_row"] spEnds := by
  refine F.ok scEnds (fun vs H Q E h => ?_) (fun cdv A outer s H vs Q E hr h => ?_)
  · obtain ⟨v, k, ms, u, r, rfl, _⟩ := h
    rfl
  · obtain ⟨v, k, ms, u, r, rfl, N, hk0, hk9, R, hlen, q⟩ := h
    have nd := scEnds.nd
    refine ⟨_, pss_cons (ps_set (i := 2) nd rfl (.inl rfl) (pe_lst pa_nil))
      (pss_cons (ps_for PassesOwn.never rfl (pi_range1 (by rfl) mr (pa_cons (pe_ix ix_tup (pv 0) pe_int (fun _ _ => rfl)) pa_nil)) (pg_name (i := 3) nd rfl (.inl rfl))
        (pss_one (ps_if (pt_val (pe_call GW hr (by rfl) gW kW bW .nil pass0 (pa_cons (pv 0) (pa_cons (pv 3) (pa_cons pe_int (pa_cons (pv 1) pa_nil))))))
          (pss_one (ps_expr (pe_bm PySem.F.plainAttrs_list PySem.F.slot_list_append PySem.F.type_list_append mt_append (pv 2)
            (pa_cons (pe_tup (pa_cons (pv 3) (pa_cons (pe_ix ix_tup (pe_call GP hr (by rfl) gP kP bP .nil pass0 (pa_cons (pv 0) (pa_cons (pv 3) (pa_cons (pv 1) pa_nil)))) (pe_un un_neg pe_int) (fun _ _ => rfl)) pa_nil))) pa_nil)))) pss_nil)))
      (pss_one (ps_ret (pv 2)))), ?_⟩
    refine ⟨Nat.zero_le _, fun o no => ?_⟩
    have s0 := same_new no (.lst [])
    obtain ⟨a, b, xs, rfl, h1, h2, h3⟩ := id N
    refine ⟨_, rfl, a, _, 0, .int k, rfl, rfl, SqT.of (s0 _ _ h1), atI_nat (j := 0) rfl, k, rfl, by omega, by omega, for_range (lo := 0) (n := k.toNat)
      (fun i σ H' => ∃ zs y3, σ = [some (.ref a), some u, some (.ref o), y3] ∧ Same H H' ∧ H' o = some (.lst zs) ∧ Prs H' zs (ends ms r i))
      ⟨[], none, rfl, s0, upd_same, rs_nil⟩ (fun i σ H' hi hP => ?_) (fun σ H' hP => ?_)⟩
    · obtain ⟨zs, y3, rfl, s1, eo, hz⟩ := hP
      refine ⟨_, rfl, _, rfl, _, rfl, .ref a, k, ms, 0 + (i : Int), 0, u, r, rfl, N.mono (same_tk s1), R.mono (same_tk s1), fun H2 s2 => ?_⟩
      refine ⟨_, rfl, ?_⟩
      have ei : (0 : Int) + (i : Int) = (i : Int) := by omega
      rw [ei]
      cases hw : isW ms (i : Int) 0 r with
      | false =>
        refine iteF ?_
        refine ⟨zs, _, rfl, s1.trans s2, s2 _ _ eo, ?_⟩
        rw [ends_succ]
        have : go ms (i : Int) 0 r = none := by
          unfold go
          rw [hw]
          rfl
        rw [this]
        show Prs H2 zs (ends ms r i ++ [])
        rw [List.append_nil]
        exact hz.mono (same_tk s2)
      | true =>
        refine iteT ?_
        obtain ⟨ps, hps⟩ := isW_ld.mp hw
        refine ⟨_, rfl, .inl ⟨rfl, _, SqL.of (s2 _ _ eo)⟩, _, rfl, _, rfl, _, rfl, _, rfl, .ref a, k, ms, (i : Int), u, r, ps, ?_, N.mono (same_tk (s1.trans s2)), R.mono (same_tk (s1.trans s2)), hlen, ld_plc hps, fun x H3 s3 hx => ?_⟩
        · rfl
        · obtain ⟨c, rfl, hc⟩ := hx
          refine ⟨1, rfl, c, _, -1, .int (lp (i : Int) ps), rfl, rfl, SqT.of hc, map_last (last_lp _ _), (by show 2 ≤ sizeLine; decide), fun z nz => ?_⟩
          have s4 := same_new nz (.tup [.int (i : Int), .int (lp (i : Int) ps)])
          have eo4 := s4 _ _ (s3 _ _ (s2 _ _ eo))
          refine ⟨o, zs, .ref z, rfl, rfl, eo4, ?_, ?_⟩
          · rw [hz.len]
            have := ends_len ms r i
            exact small1000 (by omega)
          · have t5 := kp_tk (kp_upd (.lst (zs ++ [.ref z]))) eo4
            refine ⟨zs ++ [.ref z], _, rfl, fun x y e3 => ?_, upd_same, ?_⟩
            · rw [upd_ne (ne_of_none e3 no)]
              exact s4 _ _ (s3 _ _ (s2 _ _ (s1 _ _ e3)))
            · rw [ends_succ, go_ld.mpr hps]
              exact (((hz.mono (same_tk s2)).mono (same_tk s3)).mono ((same_tk s4).trans t5)).snoc (t5 _ _ upd_same)
    · obtain ⟨zs, y3, rfl, s1, eo, hz⟩ := hP
      exact ⟨_, rfl, q o zs H' s1 eo hz⟩
/-! ### _law_right -/
def spRight : Sp := fun vs H Q _ => ∃ (v : V) (k : Int) (ms : List Mt) (p t : Int) (u : V) (r ps : List Int) (top : Int), vs = [v, .int p, .int t, u, .int top] ∧ Net H v k ms ∧ Row H u r ∧ ms.length ≤ 900 ∧ r.length ≤ 800 ∧ (∀ m ∈ ms, m.a ≠ m.b) ∧
  Ld ms p t r ps ∧ ∀ H', Same H H' → Q (.bl true) H'
theorem ok_right {f fN fT fP fC fI fA : Addr} {fd fdN fdT fdP fdC fdI fdA : FuncData} {k : Nat} (F : Fun K "_law_right" "_law_right" sRight f fd)
    (GN : FnOk P w K mg base CX0 k fN fdN ["net", "top"] spTurnN) (bN : Binds K fdN ["net", "top"] []) (kN : PySem.W.keepIn K (.ref fN) = true) (gN : mg "turned_net" = some (.ref fN))
    (GT : FnOk P w K mg base CX0 k fT fdT ["way"] spTurnW) (bT : Binds K fdT ["way"] []) (kT : PySem.W.keepIn K (.ref fT) = true) (gT : mg "turned_way" = some (.ref fT))
    (GP : FnOk P w K mg base CX0 k fP fdP ["net", "place", "way"] spPlaces) (bP : Binds K fdP ["net", "place", "way"] []) (kP : PySem.W.keepIn K (.ref fP) = true) (gP : mg "places_on" = some (.ref fP))
    (GC : FnOk P w K mg base CX0 k fC fdC ["net", "moment", "way"] spComes) (bC : Binds K fdC ["net", "moment", "way"] []) (kC : PySem.W.keepIn K (.ref fC) = true) (gC : mg "comes_at" = some (.ref fC))
    (GI : FnOk P w K mg base CX0 k fI fdI ["net", "place", "moment", "thing"] spIsWay) (bI : Binds K fdI ["net", "place", "moment", "thing"] []) (kI : PySem.W.keepIn K (.ref fI) = true) (gI : mg "is_way" = some (.ref fI))
    (GA : FnOk P w K mg base CX0 k fA fdA ["net", "moment", "way"] spWaits) (bA : Binds K fdA ["net", "moment", "way"] []) (kA : PySem.W.keepIn K (.ref fA) = true) (gA : mg "waits_on" = some (.ref fA)) :
    FnOk P w K mg base CX0 (k + 1) f fd ["_law_net_here", "_law_place", "_law_moment_here", "_law_way", "_law_top"] spRight := by
  refine F.ok scRight (fun vs H Q E h => ?_) (fun cdv A outer s H vs Q E hr h => ?_)
  · obtain ⟨v, k, ms, p, t, u, r, ps, top, rfl, _⟩ := h
    rfl
  · obtain ⟨v, k, ms, p, t, u, r, ps, top, rfl, N, R, hl, hrl, hne, hLd, q⟩ := h
    have nd := scRight.nd
    have hall := ld_all hLd
    have hLd2 : Ld (tms top ms) (lp p ps) (top - cms ms t r) r.reverse (bk p ps) := ld_rev hne hLd (Int.le_refl _)
    have htl : (tms top ms).length = ms.length := List.length_map _
    -- behind the leaving
    obtain ⟨tt, ht, rt⟩ : ∃ tr, PSs (cxOf CX0 P w K mg base nRight "_law_right" (defScope sRight) f cdv A outer s H E).nox ((defBody sRight).drop 6) tr ∧
        ∀ H1 vt ub up, Same H H1 → Net H1 vt k (tms top ms) → Row H1 ub r.reverse → Row H1 up (p :: ps) →
          tr { nx := fun _ H' => Q .non H', rt := Q } [some v, some (.int p), some (.int t), some u, some (.int top), some vt, some ub, some up, some (.int (cms ms t r)), some (.int (lv ms t r))] H1 := by
      refine ⟨_, pss_cons (ps_if (pt_cmpR op_notBl (pe_call GI hr (by rfl) gI kI bI .nil pass0 (pa_cons (pv 5) (pa_cons (pe_ix ix_tup (pv 7) (pe_un un_neg pe_int) (fun _ _ => rfl)) (pa_cons (pe_op op_sub (pv 4) (pv 8)) (pa_cons (pv 6) pa_nil))))) pe_bl (nomark _))
          (pss_one (ps_ret pe_bl)) pss_nil)
        (pss_cons (ps_if (PW.pt (pw_or (pt_cmpR (op_neD hr.units) (pe_call GP hr (by rfl) gP kP bP .nil pass0 (pa_cons (pv 5) (pa_cons (pe_ix ix_tup (pv 7) (pe_un un_neg pe_int) (fun _ _ => rfl)) (pa_cons (pv 6) pa_nil)))) (pe_revT (pv 7)) (nomark _))
            (pw_or1 (pt_cmpR op_ne (pe_call GC hr (by rfl) gC kC bC .nil pass0 (pa_cons (pv 5) (pa_cons (pe_op op_sub (pv 4) (pv 8)) (pa_cons (pv 6) pa_nil)))) (pe_op op_sub (pv 4) (pv 9)) (nomark _)))))
          (pss_one (ps_ret pe_bl)) pss_nil)
        (pss_cons (ps_if (pt_cmpR (op_neD hr.units) (pe_slice sl_tupA (pe_call GA hr (by rfl) gA kA bA .nil pass0 (pa_cons (pv 5) (pa_cons (pe_op op_sub (pv 4) (pv 8)) (pa_cons (pv 6) pa_nil)))) (po_some pe_int) po_none)
            (pe_revT (pe_slice sl_tupA (pe_call GA hr (by rfl) gA kA bA .nil pass0 (pa_cons (pv 0) (pa_cons (pv 9) (pa_cons (pv 3) pa_nil)))) (po_some pe_int) po_none)) (nomark _))
          (pss_one (ps_ret pe_bl)) pss_nil)
        (pss_one (ps_ret (pe_and (pe_cmpR (op_eqD hr.units) (pe_call GT hr (by rfl) gT kT bT .nil pass0 (pa_cons (pv 6) pa_nil)) (pv 3) (nomark _))
          (pe_one (pe_cmpR (op_eqD hr.units) (pe_call GN hr (by rfl) gN kN bN .nil pass0 (pa_cons (pv 5) (pa_cons (pv 4) pa_nil))) (pv 0) (nomark _)))))))),
        fun H1 vt ub up s1 Nt Rb Rp => ?_⟩
      obtain ⟨ap, rfl, hap⟩ := id Rp
      have hlast : atI ((p :: ps).map V.int) (-1) = some (.int (lp p ps)) := map_last (last_lp p ps)
      -- is_way
      refine ⟨_, rfl, _, rfl, 1, rfl, ap, _, -1, .int (lp p ps), rfl, rfl, SqT.of hap, hlast, _, rfl, _, rfl, top, cms ms t r, rfl, rfl, _, rfl, vt, k, tms top ms, lp p ps, top - cms ms t r, ub, r.reverse, rfl, Nt, Rb, fun H2 s2 => ?_⟩
      rw [isW_ld.mpr ⟨_, hLd2⟩]
      refine ⟨true, true, rfl, rfl, _, rfl, iteF ?_⟩
      -- places_on
      have hap2 := s2 _ _ hap
      refine ⟨_, rfl, _, rfl, 1, rfl, ap, _, -1, .int (lp p ps), rfl, rfl, SqT.of hap2, hlast, _, rfl, vt, k, tms top ms, lp p ps, ub, r.reverse, bk p ps, rfl, Nt.mono (same_tk s2), Rb.mono (same_tk s2), by rw [List.length_reverse]; omega, ld_plc hLd2, fun x3 H3 s3 R3 => ?_⟩
      refine ⟨_, rfl, ap, _, rfl, SqT.of (s3 _ _ hap2), fun p4 np4 => ?_⟩
      have s4 := same_new np4 (.tup ((p :: ps).map V.int).reverse)
      have R4 : Row (upd H3 p4 (.tup ((p :: ps).map V.int).reverse)) (.ref p4) (p :: ps).reverse := ⟨p4, rfl, by rw [upd_same, List.map_reverse]⟩
      refine ⟨_, _, (R3.mono (same_tk s4)).dp, R4.dp, sh_ints _, sh_ints _, _, rfl, ?_⟩
      rw [← rev_places, eqv_self (sh_ints _)]
      refine iteF ?_
      -- comes_at
      have s14 : Same H1 (upd H3 p4 (.tup ((p :: ps).map V.int).reverse)) := s2.trans (s3.trans s4)
      refine ⟨_, rfl, _, rfl, _, rfl, top, cms ms t r, rfl, rfl, _, rfl, vt, k, tms top ms, top - cms ms t r, ub, r.reverse, rfl, Nt.mono (same_tk s14), Rb.mono (same_tk s14), all_turn hall, fun H5 s5 => ?_⟩
      refine ⟨_, rfl, _, rfl, top, lv ms t r, rfl, rfl, rfl, _, rfl, ?_⟩
      rw [cms_turn hall]
      refine iteNS rfl ?_
      -- waits_on
      have s15 := s14.trans s5
      refine ⟨_, rfl, _, rfl, _, rfl, top, cms ms t r, rfl, rfl, _, rfl, vt, k, tms top ms, top - cms ms t r, ub, r.reverse, rfl, Nt.mono (same_tk s15), Rb.mono (same_tk s15), by rw [List.length_reverse]; omega, all_turn hall, fun x6 H6 s6 R6 => ?_⟩
      refine ⟨1, rfl, np_ok ?_⟩
      refine sl_rest R6 fun x7 H7 s7 R7 => ?_
      have s17 := s15.trans (s6.trans s7)
      have s07 := s1.trans s17
      refine ⟨_, rfl, _, rfl, _, rfl, v, k, ms, lv ms t r, u, r, rfl, N.mono (same_tk s07), R.mono (same_tk s07), by omega, hall, fun x8 H8 s8 R8 => ?_⟩
      refine ⟨1, rfl, np_ok ?_⟩
      refine sl_rest R8 fun x9 H9 s9 R9 => ?_
      obtain ⟨a9, rfl, h9⟩ := id R9
      refine ⟨a9, _, rfl, SqT.of h9, fun p10 np10 => ?_⟩
      have s10 := same_new np10 (.tup (((wts ms (lv ms t r) r).drop 1).map V.int).reverse)
      have R10 : Row (upd H9 p10 (.tup (((wts ms (lv ms t r) r).drop 1).map V.int).reverse)) (.ref p10) ((wts ms (lv ms t r) r).drop 1).reverse := ⟨p10, rfl, by rw [upd_same, List.map_reverse]⟩
      have s710 := s8.trans (s9.trans s10)
      refine ⟨_, _, (R7.mono (same_tk s710)).dp, R10.dp, sh_ints _, sh_ints _, _, rfl, ?_⟩
      rw [wts_drop, wts_drop, gaps_rev hall, eqv_self (sh_ints _)]
      refine iteF ?_
      -- turned twice
      have s110 := s17.trans s710
      rw [wts_drop] at s110
      refine ⟨_, rfl, ub, r.reverse, rfl, Rb.mono (same_tk s110), fun x11 H11 s11 R11 => ?_⟩
      rw [List.reverse_reverse] at R11
      have s011 := s1.trans (s110.trans s11)
      refine ⟨_, rfl, _, _, R11.dp, (R.mono (same_tk s011)).dp, sh_ints _, sh_ints _, _, rfl, ?_⟩
      rw [eqv_self (sh_ints _)]
      refine iteT ?_
      refine ⟨_, rfl, _, rfl, vt, k, tms top ms, top, rfl, Nt.mono (same_tk (s110.trans s11)), by omega, fun x12 H12 s12 N12 => ?_⟩
      rw [tms_tms] at N12
      have s012 := s011.trans s12
      refine ⟨_, rfl, _, _, N12.dp, (N.mono (same_tk s012)).dp, sh_net k ms, sh_net k ms, ?_⟩
      rw [eqv_self (sh_net k ms)]
      exact q H12 s012
    refine ⟨_, pss_cons (ps_set (i := 5) nd rfl (.inl rfl) (pe_call GN hr (by rfl) gN kN bN .nil pass0 (pa_cons (pv 0) (pa_cons (pv 4) pa_nil))))
      (pss_cons (ps_set (i := 6) nd rfl (.inl rfl) (pe_call GT hr (by rfl) gT kT bT .nil pass0 (pa_cons (pv 3) pa_nil)))
      (pss_cons (ps_set (i := 7) nd rfl (.inl rfl) (pe_call GP hr (by rfl) gP kP bP .nil pass0 (pa_cons (pv 0) (pa_cons (pv 1) (pa_cons (pv 3) pa_nil)))))
      (pss_cons (ps_set (i := 8) nd rfl (.inl rfl) (pe_call GC hr (by rfl) gC kC bC .nil pass0 (pa_cons (pv 0) (pa_cons (pv 2) (pa_cons (pv 3) pa_nil)))))
      (pss_cons (ps_set (i := 9) nd rfl (.inl rfl) (pv 2))
      (pss_cons (ps_if (pt_cmpR (op_neD hr.units) (pv 3) (pe_tup pa_nil) (nomark _))
        (pss_one (ps_set (i := 9) nd rfl (.inl rfl) (pe_ix ix_tup (pe_ix ix_tup (pe_ix ix_tup (pv 0) pe_int (fun _ _ => rfl)) (pe_ix ix_tup (pv 3) pe_int (fun _ _ => rfl)) (fun _ _ => rfl)) pe_int (fun _ _ => rfl)))) pss_nil) ht))))), ?_⟩
    refine ⟨_, rfl, _, rfl, v, k, ms, top, rfl, N, hl, fun vt H1 s1 Nt => ?_⟩
    refine ⟨_, rfl, u, r, rfl, R.mono (same_tk s1), fun ub H2 s2 Rb => ?_⟩
    have s02 := s1.trans s2
    refine ⟨_, rfl, _, rfl, _, rfl, v, k, ms, p, u, r, ps, rfl, N.mono (same_tk s02), R.mono (same_tk s02), by omega, ld_plc hLd, fun up H3 s3 Rp => ?_⟩
    have s03 := s02.trans s3
    refine ⟨_, rfl, _, rfl, _, rfl, v, k, ms, t, u, r, rfl, N.mono (same_tk s03), R.mono (same_tk s03), hall, fun H4 s4 => ?_⟩
    have s04 := s03.trans s4
    refine ⟨_, rfl, ?_⟩
    refine ⟨_, rfl, Nat.zero_le _, fun o no => ?_⟩
    have s5 := same_new no (.tup [])
    have s05 := s04.trans s5
    have R5 := R.mono (same_tk s05)
    have N5 := N.mono (same_tk s05)
    have go : ∀ tl, tl = lv ms t r → tt { nx := fun _ H' => Q .non H', rt := Q } [some v, some (.int p), some (.int t), some u, some (.int top), some vt, some ub, some up, some (.int (cms ms t r)), some (.int tl)] (upd H4 o (.tup [])) := fun tl e => by
      rw [e]
      exact rt _ vt ub up s05 (Nt.mono (same_tk (s2.trans (s3.trans (s4.trans s5))))) (Rb.mono (same_tk (s3.trans (s4.trans s5)))) (Rp.mono (same_tk (s4.trans s5)))
    refine ⟨_, _, R5.dp, .tup (SqT.of upd_same) (dp_ints []), sh_ints r, sh_ints [], _, rfl, ?_⟩
    rw [show PyData.eqv (.tuple (r.map PyData.int)) (.tuple (([] : List Int).map PyData.int)) = decide (r = []) from eqv_row r []]
    cases r with
    | nil =>
      rw [decide_eq_true rfl]
      exact iteF (go t rfl)
    | cons n r' =>
      rw [decide_eq_false (List.cons_ne_nil n r')]
      refine iteT ?_
      obtain ⟨m, hm⟩ := hall n List.mem_cons_self
      obtain ⟨a, b, xs, c, ev, h1, h2, h3, h4⟩ := net_at N5 hm
      subst ev
      obtain ⟨ua, rfl, hua⟩ := R5
      refine ⟨_, rfl, a, _, 1, .ref b, rfl, rfl, SqT.of h1, atI_nat (j := 1) rfl, _, rfl, ua, _, 0, .int n, rfl, rfl, SqT.of hua, atI_nat (j := 0) rfl, b, xs, n, .ref c, rfl, rfl, SqT.of h2, h3, c, _, 3, .int m.s, rfl, rfl, SqT.of h4, atI_nat (j := 3) rfl, ?_⟩
      refine go m.s ?_
      show m.s = bg ms n
      rw [bg_of hm]
end
end K11

namespace K11
open PySem PySem.Spec PyProof.Rows L2
/-! ### what is sorted -/
theorem prs_map {H : Hp} {zs : List V} {es : List (Int × Int)} (h : Prs H zs es) : zs.map (prAt H) = es := by
  refine List.ext_getElem? fun i => ?_
  rw [List.getElem?_map]
  cases e : zs[i]? with
  | none =>
    have h1 := List.getElem?_eq_none_iff.mp e
    rw [h.len] at h1
    exact (List.getElem?_eq_none_iff.mpr h1).symm
  | some x =>
    obtain ⟨p, t, rfl, h2, h3⟩ := Rs.get h e
    rw [List.getElem?_map] at h2
    cases e2 : es[i]? with
    | none => rw [e2] at h2; cases h2
    | some z =>
      rw [e2] at h2
      have h2' : pV z = t := Option.some.inj h2
      rw [← h2'] at h3
      show some (prAt H (.ref p)) = some z
      rw [prAt_of h3]
theorem prs_of {H : Hp} : ∀ {ys : List V}, (∀ y ∈ ys, ∃ p e, y = .ref p ∧ H p = some (.tup (pV e))) → Prs H ys (ys.map (prAt H)) := fun {ys} h => by
  refine ⟨by rw [List.length_map, List.length_map], fun i t e => ?_⟩
  rw [List.getElem?_map, List.getElem?_map] at e
  cases e2 : ys[i]? with
  | none => rw [e2] at e; cases e
  | some y =>
    rw [e2] at e
    obtain ⟨p, z, rfl, hp⟩ := h y (List.mem_of_getElem? e2)
    have e' : pV (prAt H (.ref p)) = t := Option.some.inj e
    rw [prAt_of hp] at e'
    exact ⟨p, rfl, by rw [← e']; exact hp⟩
/-- sorted of the ends turned: the ends -/
theorem sorted_ends {H : Hp} {zs ys : List V} {ms : List Mt} {r : List Int} {k : Nat} {top : Int} (wf : Wf ms k top) (ht : 0 ≤ top) (hz : Prs H zs ((ends (tms top ms) r.reverse k).map sw))
    (hs : SrtO.Srtd (ltP (prAt H)) ys) (hb : ys.Perm zs) : Prs H ys (ends ms r k) := by
  have h1 : Prs H ys (ys.map (prAt H)) := prs_of fun y hy => by
    obtain ⟨p, e, h1, _, h2⟩ := hz.mem (hb.mem_iff.mp hy)
    exact ⟨p, e, h1, h2⟩
  have e : ys.map (prAt H) = ends ms r k := by
    have h2 : (ys.map (prAt H)).Perm (ends ms r k) := ((hb.map (prAt H)).trans (by rw [prs_map hz])).trans (ends_perm wf ht).symm
    refine lex_uniq (R := fun x y => SrtO.lexB y x = false) (fun x y h3 h4 => ?_) ?_ ?_ h2
    · have a := SrtO.lexB_no.mp h3
      have b := SrtO.lexB_no.mp h4
      refine Prod.ext ?_ ?_ <;> omega
    · exact List.pairwise_map.mpr hs
    · refine (ends_lt ms r k).imp fun {x y} h => SrtO.lexB_no.mpr ?_
      omega
  rw [← e]
  exact h1
/-- t[:3] of a row -/
theorem cut3 (xs : List V) : cutV xs none (some 3) = xs.take 3 := by
  unfold cutV
  rw [show HT.sIx xs.length xs.length (some 3) = min 3 xs.length from HT.sIx_nat xs.length _ 3, HT.sIx_none, List.drop_zero, Nat.sub_zero]
  by_cases h : 3 ≤ xs.length
  · rw [Nat.min_eq_left h]
  · rw [Nat.min_eq_right (by omega), List.take_of_length_le (Nat.le_refl _), List.take_of_length_le (by omega)]
theorem sl_three {K : PySem.W.Frag} {H : Hp} {x : V} {r : List Int} {Q : VK} (R : Row H x r) (q : ∀ y H', Same H H' → Row H' y (r.take 3) → Q y H') : rSlA K x none (some 3) H Q := by
  obtain ⟨a, rfl, h⟩ := R
  refine ⟨a, _, rfl, SqT.of h, fun c => ?_, fun _ p np => ?_⟩
  · refine q _ H (Same.refl H) ⟨a, rfl, ?_⟩
    have e : HT.sIx (r.map V.int).length (r.map V.int).length (some 3) = min 3 (r.map V.int).length := HT.sIx_nat _ _ 3
    have c1 := c.2
    rw [e] at c1
    rw [List.length_map] at c1
    rw [List.take_of_length_le (by omega)]
    exact h
  · refine q _ _ (same_new np _) ⟨p, rfl, ?_⟩
    rw [upd_same, cut3, List.map_take]
theorem nok_wf {k : Int} {ms : List Mt} {top : Int} (h : Nok k ms) (ht : ∀ m ∈ ms, m.e ≤ top) : Wf ms k.toNat top := by
  have h2 := h.k2
  refine ⟨fun m hm => (h.all m hm).1.ne, fun m hm => ?_, fun m hm => ?_, fun m hm => (h.all m hm).1.s0, ht⟩
  · have := (h.all m hm).1.a0
    omega
  · have := (h.all m hm).1.b0
    omega
end K11

namespace K11
open PySem PySem.Spec PyProof.Rows L2
abbrev sLaw : Stmt := topS 25
abbrev nLaw : List Str := ["_law_script", "_law_k", "_law_deck_here", "_law_net_here", "_law_place", "_law_moment_here", "_law_way", "_law_more", "_law_top", "_law_turned", "_law_turn", "_law_row", "_law_back", "_law_number", "_law_other", "_law_one"]
theorem scLaw : FnScope nLaw ["_law_script"] (defScope sLaw) := ⟨rfl, rfl, rfl, by decide +kernel, rfl, by decide +kernel, by decide +kernel⟩
def forBody (s : Stmt) : List Stmt := match s with
  | .For _ _ b _ _ => b
  | _ => []
abbrev inner : List Stmt := forBody ((forBody ((defBody sLaw).getD 0 (.Pass ⟨0, 0, 0, 0⟩))).getD 9 (.Pass ⟨0, 0, 0, 0⟩))
def rLenS (K : PySem.W.Frag) : List V → Hp → VK → Prop := fun xs H Q => ∃ p ys, xs = [.ref p] ∧ (SqL K H p ys ∨ SqT K H p ys) ∧ Q (.int ys.length) H
section
variable {P : Program} {w : World} {K : PySem.W.Frag} {mg : Str → Option Value} {base : Heap}
theorem row_part {fD : Addr} {fdD : FuncData} {k : Nat} {f : Addr} {cdv : Value} {A : Around} {outer : List Env} {s : Shared} {H : Hp} {E : XK} (hr : Room k (A.deeper (envOfC "law" (defScope sLaw) s.heap.objs.size f cdv)))
    (GD : FnOk P w K mg base CX0 k fD fdD ["_law_deck_here", "_law_most"] spDraw) (bD : Binds K fdD ["_law_deck_here", "_law_most"] []) (kD : PySem.W.keepIn K (.ref fD) = true) (gD : mg "_law_draw" = some (.ref fD))
    (ml : mg "len" = none) (mr : mg "range" = none) (mt : mg "tuple" = none) :
    ∃ t, PS (cxOf CX0 P w K mg base nLaw "law" (defScope sLaw) f cdv A outer s H E).nox (inner.getD 0 (.Pass ⟨0, 0, 0, 0⟩)) t ∧
      ∀ (D : Ends) (y0 y1 y4 y5 y6 y7 y8 y9 y10 y11 y12 : Option V) (d : Addr) (v : V) (k : Int) (ms : List Mt) (H1 : Hp), Deck H1 d → Net H1 v k ms → ms.length ≠ 0 → ms.length ≤ 900 →
        (∀ u r H2, Kp d H1 H2 → Deck H2 d → Row H2 u r → r.length ≤ 10 → D.nx [y0, y1, some (.ref d), some v, y4, y5, y6, y7, y8, y9, y10, some u, y12, none, none, none] H2) →
          t D [y0, y1, some (.ref d), some v, y4, y5, y6, y7, y8, y9, y10, y11, y12, none, none, none] H1 := by
  have nd := scLaw.nd
  refine ⟨_, ps_set (i := 11) nd rfl (.inl rfl) (pe_callTy call_tuple_of (by rfl) mt boot_tuple (pa_cons (pe_lc (own := [("_law_number", 13)]) (g := gName 13) (tt := tYes)
      (te := tCall spDraw [] E0 (tCons (tVar 2) (tCons (tCB (rLenS K) (tCons (tOp (rIxT K) (tVar 3) (tC (.int 1))) tNil)) tNil))) rfl nd
      (pi_range1 (by rfl) mr (pa_cons (pe_op op_add pe_int (pe_call GD hr (by rfl) gD kD bD .nil pass0 (pa_cons (pv 2) (pa_cons pe_int pa_nil)))) pa_nil)) (blkOk_by (N := nLaw) (sc := defScope sLaw) (by decide +kernel))
      (fun _ _ _ _ _ => pg_name (i := 13) nd rfl (.inl rfl) (.inr rfl)) (fun _ _ _ _ _ => pts_nil)
      (fun _ _ _ _ _ => pe_call GD hr (by rfl) gD kD bD .nil pass0 (pa_cons (pv 2) (pa_cons (pe_callB call_len_seq (by rfl) ml boot_len (pa_cons (pe_ix ix_tup (pv 3) pe_int (fun _ _ => rfl)) pa_nil)) pa_nil)))) pa_nil)), ?_⟩
  intro D y0 y1 y4 y5 y6 y7 y8 y9 y10 y11 y12 d v k ms H1 d1 N hl hl9 q
  refine ⟨_, rfl, d, 5, rfl, d1, by decide, by decide, fun x H2 k2 d2 x0 x1 => ?_⟩
  refine ⟨1, x, rfl, rfl, 1 + x, rfl, by omega, by omega, fun L nL => ?_⟩
  have hLd : L ≠ d := fun e => by
    obtain ⟨ys, e2⟩ := d2.lst
    rw [← e, nL] at e2
    cases e2
  have s3 := same_new nL (.lst [])
  refine lc_range (lo := 0) (n := (1 + x).toNat) (fun i H' => ∃ r : List Int, Kp d H1 H' ∧ Deck H' d ∧ H' L = some (.lst (r.map V.int)) ∧ r.length = i) ⟨[], k2.trans (same_kp s3), d2.mono s3, upd_same, rfl⟩ (fun i H' hi hP => ?_) (fun H' hP => ?_)
  · obtain ⟨r, k3, d3, eL, hrl⟩ := hP
    obtain ⟨a, b, xs, rfl, h1, h2, h3⟩ := N.mono (d1.tk k3)
    refine ⟨rfl, lc_yes ?_⟩
    rw [if_pos rfl]
    refine ⟨_, rfl, _, rfl, a, _, 1, .ref b, rfl, rfl, SqT.of h1, atI_nat (j := 1) rfl, b, xs, rfl, .inr (SqT.of h2), d, _, rfl, d3, ?_, ?_, fun z H4 k4 d4 z0 z1 => ?_⟩
    · rw [h3.len]
      omega
    · rw [h3.len]
      omega
    · have eL4 := k4 _ _ hLd eL
      refine ⟨_, eL4, ?_, r ++ [z], fun b' o' nb e => ?_, ?_, ?_, ?_⟩
      · rw [List.length_map]
        exact small1000 (by omega)
      · by_cases hb : b' = L
        · subst hb
          have := k2 _ _ hLd e
          rw [nL] at this
          cases this
        · rw [upd_ne hb]
          exact k4 _ _ nb (k3 _ _ nb e)
      · obtain ⟨a', b', c', h0, hd5⟩ := d4
        exact ⟨a', b', c', h0, by rw [upd_ne (Ne.symm hLd)]; exact hd5⟩
      · rw [upd_same, List.map_append]
        rfl
      · rw [List.length_append, hrl]
        rfl
  · obtain ⟨r, k3, d3, eL, hrl⟩ := hP
    refine ⟨L, _, rfl, .inl ⟨SqL.of eL, fun l nl => ?_⟩⟩
    have s4 := same_new nl (.tup (r.map V.int))
    exact q (.ref l) r _ (k3.trans (same_kp s4)) (d3.mono s4) ⟨l, rfl, upd_same⟩ (by omega)
end
end K11

namespace K11
open PySem PySem.Spec PyProof.Rows L2
section
variable {P : Program} {w : World} {K : PySem.W.Frag} {mg : Str → Option Value} {base : Heap}
/-! ### back = sorted(..), and whether both are the same -/
theorem back_part {fT fE : Addr} {fdT fdE : FuncData} {k : Nat} {f : Addr} {cdv : Value} {A : Around} {outer : List Env} {s : Shared} {H : Hp} {E : XK} (hr : Room k (A.deeper (envOfC "law" (defScope sLaw) s.heap.objs.size f cdv)))
    (GT : FnOk P w K mg base CX0 k fT fdT ["way"] spTurnW) (bT : Binds K fdT ["way"] []) (kT : PySem.W.keepIn K (.ref fT) = true) (gT : mg "turned_way" = some (.ref fT))
    (GE : FnOk P w K mg base CX0 k fE fdE ["_law_net_here", "_law_row"] spEnds) (bE : Binds K fdE ["_law_net_here", "_law_row"] []) (kE : PySem.W.keepIn K (.ref fE) = true) (gE : mg "_law_ends" = some (.ref fE))
    (ms' : mg "sorted" = none) :
    ∃ t, PSs (cxOf CX0 P w K mg base nLaw "law" (defScope sLaw) f cdv A outer s H E).nox (inner.drop 2) t ∧
      ∀ (D : Ends) (y0 y1 y2 y4 y5 y6 y7 y8 y10 y12 : Option V) (v vt u : V) (k : Int) (ms : List Mt) (r : List Int) (top : Int) (H1 : Hp), Net H1 v k ms → Net H1 vt k (tms top ms) → Nok k ms → (∀ m ∈ ms, m.e ≤ top) → 0 ≤ top → Row H1 u r → r.length ≤ 900 →
        (∀ y H2, Same H1 H2 → D.nx [y0, y1, y2, some v, y4, y5, y6, y7, y8, some vt, y10, some u, y, none, none, none] H2) →
          t D [y0, y1, y2, some v, y4, y5, y6, y7, y8, some vt, y10, some u, y12, none, none, none] H1 := by
  have nd := scLaw.nd
  refine ⟨_, pss_cons (ps_set (i := 12) nd rfl (.inl rfl) (pe_callB cr_sortedPO (by rfl) ms' boot_sorted (pa_cons (pe_lc (own := [("_law_other", 14), ("_law_one", 15)]) (g := gTup K 2 (gCons (gName 14) (gCons (gName 15) gNil))) (tt := tYes)
        (te := tTup (tCons (tVar 15) (tCons (tVar 14) tNil))) rfl nd
        (pi_list (pe_call GE hr (by rfl) gE kE bE .nil pass0 (pa_cons (pv 9) (pa_cons (pe_call GT hr (by rfl) gT kT bT .nil pass0 (pa_cons (pv 11) pa_nil)) pa_nil)))) (blkOk_by (N := nLaw) (sc := defScope sLaw) (by decide +kernel))
        (fun _ _ _ _ _ => pg_tup (n := 2) rfl (pgs_cons (pg_name (i := 14) nd rfl (.inl rfl) (.inr rfl)) (pgs_cons (pg_name (i := 15) nd rfl (.inl rfl) (.inr rfl)) pgs_nil))) (fun _ _ _ _ _ => pts_nil)
        (fun _ _ _ _ _ => pe_tup (pa_cons (pv 15) (pa_cons (pv 14) pa_nil)))) pa_nil)))
    (pss_one (ps_if (pt_cmpR (op_neD hr.units) (pe_call GE hr (by rfl) gE kE bE .nil pass0 (pa_cons (pv 3) (pa_cons (pv 11) pa_nil))) (pv 12) (nomark _)) (pss_one (ps_ret pe_bl)) pss_nil)), ?_⟩
  intro D y0 y1 y2 y4 y5 y6 y7 y8 y10 y12 v vt u k ms r top H1 N Nt ok htop ht0 R hrl q
  have wf := nok_wf ok htop
  have hk2 := ok.k2
  have hk10 := ok.k10
  refine ⟨_, rfl, _, rfl, u, r, rfl, R, fun ub H2 s2 Rb => ?_⟩
  refine ⟨vt, k, tms top ms, ub, r.reverse, rfl, Nt.mono (same_tk s2), by omega, by omega, Rb, by rw [List.length_reverse]; exact hrl, fun o xs H3 s3 eo hxs => ?_⟩
  refine ⟨o, rfl, ⟨xs, SqL.of eo⟩, fun L nL => ?_⟩
  have s4 := same_new nL (.lst [])
  have hxl := hxs.len
  have hel := ends_len (tms top ms) r.reverse k.toNat
  refine lc_list (xs := xs) (fun i H' => ∃ zs, Same H3 H' ∧ H' L = some (.lst zs) ∧ Prs H' zs (((ends (tms top ms) r.reverse k.toNat).take i).map sw)) ⟨[], s4, upd_same, rs_nil⟩ (fun i H' hi hP => ?_) (fun i x H' hx hP => ?_) (fun H' hP => ?_)
  · obtain ⟨zs, s5, _⟩ := hP
    exact SqL.of (s5 _ _ eo)
  · obtain ⟨zs, s5, eL, hz⟩ := hP
    obtain ⟨p, t, rfl, het, hpt⟩ := Rs.get hxs hx
    rw [List.getElem?_map] at het
    cases hee : (ends (tms top ms) r.reverse k.toNat)[i]? with
    | none => rw [hee] at het; cases het
    | some e =>
      rw [hee] at het
      have het' : pV e = t := Option.some.inj het
      subst het'
      refine ⟨p, _, rfl, SqT.of (s5 _ _ hpt), rfl, _, _, rfl, _, _, rfl, rfl, ?_⟩
      refine ⟨rfl, lc_yes ?_⟩
      rw [if_pos rfl]
      refine ⟨_, rfl, _, rfl, (by show 2 ≤ sizeLine; decide), fun z nz => ?_⟩
      have s6 := same_new nz (.tup [.int e.2, .int e.1])
      have eL6 := s6 _ _ eL
      refine ⟨zs, eL6, ?_, zs ++ [.ref z], fun b o' e3 => ?_, upd_same, ?_⟩
      · have := hz.len
        rw [this, List.length_map, List.length_take]
        exact small1000 (by omega)
      · rw [upd_ne (ne_of_none e3 nL)]
        exact s6 _ _ (s5 _ _ e3)
      · have t7 := kp_tk (kp_upd (.lst (zs ++ [.ref z]))) eL6
        have e1 : (ends (tms top ms) r.reverse k.toNat).take (i + 1) = (ends (tms top ms) r.reverse k.toNat).take i ++ [e] := by rw [List.take_add_one, hee]; rfl
        rw [e1, List.map_append]
        exact ((hz.mono (same_tk s6)).mono t7).snoc (e := sw e) (t7 _ _ upd_same)
  · obtain ⟨zs, s5, eL, hz⟩ := hP
    rw [hxl, List.take_length] at hz
    refine ⟨L, zs, prAt H', rfl, SqL.of eL, hz.srt, fun ys p hs hb np => ?_⟩
    have s6 := same_new np (.lst ys)
    have hys := sorted_ends wf ht0 hz hs hb.perm
    have s16 : Same H1 (upd H' p (.lst ys)) := s2.trans (s3.trans (s5.trans s6))
    refine ⟨_, rfl, _, rfl, v, k, ms, u, r, rfl, N.mono (same_tk s16), by omega, by omega, R.mono (same_tk s16), hrl, fun o7 xs7 H7 s7 eo7 hxs7 => ?_⟩
    refine ⟨_, rfl, _, _, hxs7.dp eo7, Prs.dp (hys.mono (same_tk (s6.trans s7))) (s7 _ _ upd_same), sh_pairs _, sh_pairs _, _, rfl, ?_⟩
    rw [eqv_self (sh_pairs _)]
    exact iteF (q _ H7 (s16.trans s7))
end
end K11

namespace K11
open PySem PySem.Spec PyProof.Rows L2
abbrev outerB : List Stmt := forBody ((defBody sLaw).getD 0 (.Pass ⟨0, 0, 0, 0⟩))
theorem ld_take : ∀ {ms : List Mt} {w : List Int} {p t : Int} {ps : List Int} (n : Nat), Ld ms p t w ps → (w.take n).length ≤ w.length := fun n _ => by
  rw [List.length_take]
  exact Nat.min_le_right _ _
section
variable {P : Program} {w : World} {K : PySem.W.Frag} {mg : Str → Option Value} {base : Heap}
/-! ### one turn of the inner loop -/
theorem turn_part {fD fT fE : Addr} {fdD fdT fdE : FuncData} {k : Nat} {f : Addr} {cdv : Value} {A : Around} {outer : List Env} {s : Shared} {H : Hp} {E : XK} (hr : Room k (A.deeper (envOfC "law" (defScope sLaw) s.heap.objs.size f cdv)))
    (GD : FnOk P w K mg base CX0 k fD fdD ["_law_deck_here", "_law_most"] spDraw) (bD : Binds K fdD ["_law_deck_here", "_law_most"] []) (kD : PySem.W.keepIn K (.ref fD) = true) (gD : mg "_law_draw" = some (.ref fD))
    (GT : FnOk P w K mg base CX0 k fT fdT ["way"] spTurnW) (bT : Binds K fdT ["way"] []) (kT : PySem.W.keepIn K (.ref fT) = true) (gT : mg "turned_way" = some (.ref fT))
    (GE : FnOk P w K mg base CX0 k fE fdE ["_law_net_here", "_law_row"] spEnds) (bE : Binds K fdE ["_law_net_here", "_law_row"] []) (kE : PySem.W.keepIn K (.ref fE) = true) (gE : mg "_law_ends" = some (.ref fE))
    (ml : mg "len" = none) (mr : mg "range" = none) (mt : mg "tuple" = none) (mi : mg "int" = none) (ms' : mg "sorted" = none) :
    ∃ t, PSs (cxOf CX0 P w K mg base nLaw "law" (defScope sLaw) f cdv A outer s H E).nox inner t ∧
      ∀ (D : Ends) (y0 y1 y4 y5 y7 y8 y11 y12 : Option V) (d : Addr) (v vt uw : V) (k tn : Int) (ms : List Mt) (rw' : List Int) (top : Int) (H1 : Hp), Deck H1 d → Net H1 v k ms → Net H1 vt k (tms top ms) → Nok k ms → ms.length ≠ 0 → (∀ m ∈ ms, m.e ≤ top) → 0 ≤ top →
        Row H1 uw rw' → rw'.length ≤ 20 →
        (∀ y11 y12 H2, Kp d H1 H2 → Deck H2 d → D.nx [y0, y1, some (.ref d), some v, y4, y5, some uw, y7, y8, some vt, some (.int tn), y11, y12, none, none, none] H2) →
          t D [y0, y1, some (.ref d), some v, y4, y5, some uw, y7, y8, some vt, some (.int tn), y11, y12, none, none, none] H1 := by
  have nd := scLaw.nd
  obtain ⟨t1, h1, r1⟩ := row_part (s := s) (H := H) (E := E) (outer := outer) hr GD bD kD gD ml mr mt
  obtain ⟨t3, h3, r3⟩ := back_part (s := s) (H := H) (E := E) (outer := outer) hr GT bT kT gT GE bE kE gE ms'
  refine ⟨_, pss_cons h1 (pss_cons (ps_set (i := 11) nd rfl (.inl rfl) (pe_ix ix_list (pe_lst (pa_cons (pv 11) (pa_cons (pe_slice sl_tupA (pv 6) po_none (po_some pe_int)) pa_nil)))
      (pe_callTy call_int1 (by rfl) mi boot_int (pa_cons (pe_cmpR op_eq (pv 10) pe_int (nomark _)) pa_nil)) (fun _ _ => rfl))) h3), ?_⟩
  intro D y0 y1 y4 y5 y7 y8 y11 y12 d v vt uw k tn ms rw' top H1 d1 N Nt ok hl htop ht0 Rw hrw q
  have hl40 := ok.len
  refine r1 _ _ _ _ _ _ _ _ _ _ _ _ d v k ms H1 d1 N hl (by omega) fun u r H2 k2 d2 R hrl => ?_
  have t2 := d1.tk k2
  refine ⟨_, rfl, _, rfl, np_ok ⟨3, rfl, ?_⟩⟩
  refine sl_three (Rw.mono t2) fun u3 H3 s3 R3 => ?_
  refine ⟨(by show 2 ≤ sizeLine; decide), fun p np => ?_⟩
  have s4 := same_new np (.lst [u, u3])
  refine ⟨_, rfl, rfl, .inr ⟨_, rfl, ?_⟩⟩
  have hv := ix2 u u3 (decide (V.int tn = V.int 0))
  obtain ⟨x, r', ex, Rx, hrx⟩ : ∃ x r', (if decide (V.int tn = V.int 0) = true then u3 else u) = x ∧ Row (upd H3 p (.lst [u, u3])) x r' ∧ r'.length ≤ 900 := by
    split
    · exact ⟨u3, rw'.take 3, rfl, R3.mono (same_tk s4), by rw [List.length_take]; omega⟩
    · exact ⟨u, r, rfl, R.mono (same_tk (s3.trans s4)), by omega⟩
  rw [ex] at hv
  refine ⟨p, _, _, x, rfl, rfl, SqL.of upd_same, hv, ?_⟩
  have k4 : Kp d H1 (upd H3 p (.lst [u, u3])) := k2.trans (same_kp (s3.trans s4))
  have t4 := d1.tk k4
  refine r3 D _ _ _ _ _ _ _ _ _ _ v vt x k ms r' top _ (N.mono t4) (Nt.mono t4) ok htop ht0 Rx hrx fun y H5 s5 => ?_
  exact q _ _ H5 (k4.trans (same_kp s5)) ((d2.mono (s3.trans s4)).mono s5)
end
end K11

namespace K11
open PySem PySem.Spec PyProof.Rows L2
section
variable {P : Program} {w : World} {K : PySem.W.Frag} {mg : Str → Option Value} {base : Heap}
/-! ### law -/
def spLaw (K : PySem.W.Frag) : Sp := fun vs H Q _ => ∃ (a : Addr) (ns : List Int), vs = [.ref a] ∧ SqL K H a (ns.map V.int) ∧ ns.length ≤ 63 ∧ ∀ H', Q (.bl true) H'
theorem ok_law {f fD fT fE fK fN fM fG fF fO fR fU : Addr} {fd fdD fdT fdE fdK fdN fdM fdG fdF fdO fdR fdU : FuncData} {k : Nat} (F : Fun K "law" "law" sLaw f fd)
    (GD : FnOk P w K mg base CX0 k fD fdD ["_law_deck_here", "_law_most"] spDraw) (bD : Binds K fdD ["_law_deck_here", "_law_most"] []) (kD : PySem.W.keepIn K (.ref fD) = true) (gD : mg "_law_draw" = some (.ref fD))
    (GT : FnOk P w K mg base CX0 k fT fdT ["way"] spTurnW) (bT : Binds K fdT ["way"] []) (kT : PySem.W.keepIn K (.ref fT) = true) (gT : mg "turned_way" = some (.ref fT))
    (GE : FnOk P w K mg base CX0 k fE fdE ["_law_net_here", "_law_row"] spEnds) (bE : Binds K fdE ["_law_net_here", "_law_row"] []) (kE : PySem.W.keepIn K (.ref fE) = true) (gE : mg "_law_ends" = some (.ref fE))
    (GK : FnOk P w K mg base CX0 k fK fdK ["_law_script", "_law_k"] (spDeck K)) (bK : Binds K fdK ["_law_script", "_law_k"] []) (kK : PySem.W.keepIn K (.ref fK) = true) (gK : mg "_law_deck" = some (.ref fK))
    (GN : FnOk P w K mg base CX0 k fN fdN ["_law_deck_here", "_law_least"] spNet) (bN : Binds K fdN ["_law_deck_here", "_law_least"] []) (kN : PySem.W.keepIn K (.ref fN) = true) (gN : mg "_law_net" = some (.ref fN))
    (GM : FnOk P w K mg base CX0 k fM fdM ["_law_deck_here", "_law_net_here"] spMoment) (bM : Binds K fdM ["_law_deck_here", "_law_net_here"] []) (kM : PySem.W.keepIn K (.ref fM) = true) (gM : mg "_law_moment" = some (.ref fM))
    (GG : FnOk P w K mg base CX0 k fG fdG ["_law_deck_here", "_law_net_here", "_law_place", "_law_moment_here", "_law_most"] spGone) (bG : Binds K fdG ["_law_deck_here", "_law_net_here", "_law_place", "_law_moment_here", "_law_most"] []) (kG : PySem.W.keepIn K (.ref fG) = true) (gG : mg "_law_gone" = some (.ref fG))
    (GF : FnOk P w K mg base CX0 k fF fdF ["_law_deck_here", "_law_most"] spFar) (bF : Binds K fdF ["_law_deck_here", "_law_most"] []) (kF : PySem.W.keepIn K (.ref fF) = true) (gF : mg "_law_far" = some (.ref fF))
    (GO : FnOk P w K mg base CX0 k fO fdO ["net"] spTop) (bO : Binds K fdO ["net"] []) (kO : PySem.W.keepIn K (.ref fO) = true) (gO : mg "top_of" = some (.ref fO))
    (GR : FnOk P w K mg base CX0 k fR fdR ["_law_net_here", "_law_place", "_law_moment_here", "_law_way", "_law_top"] spRight) (bR : Binds K fdR ["_law_net_here", "_law_place", "_law_moment_here", "_law_way", "_law_top"] []) (kR : PySem.W.keepIn K (.ref fR) = true) (gR : mg "_law_right" = some (.ref fR))
    (GU : FnOk P w K mg base CX0 k fU fdU ["net", "top"] spTurnN) (bU : Binds K fdU ["net", "top"] []) (kU : PySem.W.keepIn K (.ref fU) = true) (gU : mg "turned_net" = some (.ref fU))
    (ml : mg "len" = none) (mr : mg "range" = none) (mt : mg "tuple" = none) (mi : mg "int" = none) (ms' : mg "sorted" = none) (mm : mg "max" = none) (mn : mg "min" = none) :
    FnOk P w K mg base CX0 (k + 1) f fd ["_law_script"] (spLaw K) := by
  refine F.ok scLaw (fun vs H Q E h => ?_) (fun cdv A outer s H vs Q E hr h => ?_)
  · obtain ⟨a, ns, rfl, _⟩ := h
    rfl
  · obtain ⟨a, ns, rfl, hS, hlen, q⟩ := h
    have nd := scLaw.nd
    obtain ⟨ti, hi, ri⟩ := turn_part (s := s) (H := H) (E := E) (outer := outer) hr GD bD kD gD GT bT kT gT GE bE kE gE ml mr mt mi ms'
    -- one turn of the outer loop
    obtain ⟨tb, hb, rb⟩ : ∃ t, PSs (cxOf CX0 P w K mg base nLaw "law" (defScope sLaw) f cdv A outer s H E).nox outerB t ∧
        ∀ (D : Ends) (y2 y3 y4 y5 y6 y7 y8 y9 y10 y11 y12 : Option V) (i : Int) (H0 : Hp), Same H H0 → 0 ≤ i →
          (∀ y2 y3 y4 y5 y6 y7 y8 y9 y10 y11 y12 H', Same H H' → D.nx [some (.ref a), some (.int i), y2, y3, y4, y5, y6, y7, y8, y9, y10, y11, y12, none, none, none] H') →
            t D [some (.ref a), some (.int i), y2, y3, y4, y5, y6, y7, y8, y9, y10, y11, y12, none, none, none] H0 := by
      refine ⟨_, pss_cons (ps_set (i := 2) nd rfl (.inr rfl) (pe_call GK hr (by rfl) gK kK bK .nil pass0 (pa_cons (pv 0) (pa_cons (pv 1) pa_nil))))
        (pss_cons (ps_set (i := 3) nd rfl (.inr rfl) (pe_call GN hr (by rfl) gN kN bN .nil pass0 (pa_cons (pv 2) (pa_cons pe_int pa_nil))))
        (pss_cons (ps_set (i := 4) nd rfl (.inl rfl) (pe_call GD hr (by rfl) gD kD bD .nil pass0 (pa_cons (pv 2) (pa_cons (pe_ix ix_tup (pv 3) pe_int (fun _ _ => rfl)) pa_nil))))
        (pss_cons (ps_set (i := 5) nd rfl (.inl rfl) (pe_call GM hr (by rfl) gM kM bM .nil pass0 (pa_cons (pv 2) (pa_cons (pv 3) pa_nil))))
        (pss_cons (ps_set (i := 6) nd rfl (.inl rfl) (pe_call GG hr (by rfl) gG kG bG .nil pass0 (pa_cons (pv 2) (pa_cons (pv 3) (pa_cons (pv 4) (pa_cons (pv 5) (pa_cons pe_int pa_nil)))))))
        (pss_cons (ps_set (i := 7) nd rfl (.inl rfl) (pe_ix ix_list (pe_lst (pa_cons pe_int (pa_cons (pe_call GD hr (by rfl) gD kD bD .nil pass0 (pa_cons (pv 2) (pa_cons pe_int pa_nil)))
            (pa_cons (pe_call GF hr (by rfl) gF kF bF .nil pass0 (pa_cons (pv 2) (pa_cons (pe_op op_pow pe_int pe_int) pa_nil))) pa_nil)))) (pe_call GD hr (by rfl) gD kD bD .nil pass0 (pa_cons (pv 2) (pa_cons pe_int pa_nil))) (fun _ _ => rfl)))
        (pss_cons (ps_set (i := 8) nd rfl (.inl rfl) (pe_callB (call_min2 rfl) (by rfl) mn boot_min (pa_cons (pe_op op_pow pe_int pe_int) (pa_cons (pe_op op_add
            (pe_callB (call_max2 rfl) (by rfl) mm boot_max (pa_cons (pe_call GO hr (by rfl) gO kO bO .nil pass0 (pa_cons (pv 3) pa_nil)) (pa_cons (pv 5) pa_nil))) (pv 7)) pa_nil))))
        (pss_cons (ps_if (PW.pt (pw_or (pt_not (pt_val (pe_call GR hr (by rfl) gR kR bR .nil pass0 (pa_cons (pv 3) (pa_cons (pv 4) (pa_cons (pv 5) (pa_cons (pv 6) (pa_cons (pv 8) pa_nil))))))))
            (pw_or1 (pt_not (pt_val (pe_call GR hr (by rfl) gR kR bR .nil pass0 (pa_cons (pv 3) (pa_cons (pv 4) (pa_cons (pv 5) (pa_cons (pe_tup pa_nil) (pa_cons (pv 8) pa_nil)))))))))))
          (pss_one (ps_ret pe_bl)) pss_nil)
        (pss_cons (ps_set (i := 9) nd rfl (.inl rfl) (pe_call GU hr (by rfl) gU kU bU .nil pass0 (pa_cons (pv 3) (pa_cons (pv 8) pa_nil))))
        (pss_one (ps_for PassesOwn.never rfl (pi_range1 (by rfl) mr (pa_cons (pe_op op_mul pe_int (pe_callTy call_int1 (by rfl) mi boot_int (pa_cons (pe_cmpR (op_neD hr.units) (pe_ix ix_tup (pv 3) pe_int (fun _ _ => rfl)) (pe_tup pa_nil) (nomark _)) pa_nil))) pa_nil))
          (pg_name (i := 10) nd rfl (.inl rfl)) hi)))))))))), ?_⟩
      intro D y2 y3 y4 y5 y6 y7 y8 y9 y10 y11 y12 i H0 s0 hi0 q
      refine ⟨_, rfl, _, rfl, a, ns, i, rfl, s0.seq hS, hi0, fun d H1 s1 nd1 d1 => ?_⟩
      -- the net
      refine ⟨_, rfl, d, rfl, d1, fun v k ms H2 k2 d2 N ok => ?_⟩
      have hk2 := ok.k2
      have hk10 := ok.k10
      have hl40 := ok.len
      obtain ⟨pa, pb, xs, ev, h1, h2, h3⟩ := id N
      -- the place
      refine ⟨_, rfl, _, rfl, pa, _, 0, .int k, ev, rfl, SqT.of h1, atI_nat (j := 0) rfl, d, k, rfl, d2, by omega, by omega, fun p H3 k3 d3 p0 p1 => ?_⟩
      have N3 := N.mono (d2.tk k3)
      -- the moment
      refine ⟨_, rfl, _, rfl, d, v, k, ms, rfl, d3, N3, ok, fun mo H4 k4 d4 mo0 mo1 => ?_⟩
      have N4 := N3.mono (d3.tk k4)
      -- the way
      refine ⟨_, rfl, _, rfl, _, rfl, _, rfl, d, v, k, ms, p, mo, rfl, d4, N4, ok, fun u r ps H5 k5 d5 R5 hLd hrl => ?_⟩
      have N5 := N4.mono (d4.tk k5)
      -- more
      refine ⟨_, rfl, d, 9, rfl, d5, by decide, by decide, fun z6 H6 k6 d6 z60 z61 => ?_⟩
      refine ⟨_, rfl, 10, 13, rfl, rfl, ⟨by decide, by decide, by decide⟩, d, 10000000000000, rfl, d6, by decide, fun z7 H7 k7 d7 z70 z71 => ?_⟩
      refine ⟨(by show 3 ≤ sizeLine; decide), fun p8 np8 => ?_⟩
      have s8 := same_new np8 (.lst [.int 0, .int z6, .int z7])
      have hpd : p8 ≠ d := fun e => by
        obtain ⟨ys, e2⟩ := d7.lst
        rw [← e, np8] at e2
        cases e2
      refine ⟨_, rfl, d, 3, rfl, d7.mono s8, by decide, by decide, fun z9 H9 k9 d9 z90 z91 => ?_⟩
      refine ⟨p8, [.int 0, .int z6, .int z7], z9, _, rfl, rfl, SqL.of (k9 _ _ hpd upd_same), ix3 0 z6 z7 z90 z91, ?_⟩
      obtain ⟨more, em, hm0⟩ : ∃ more, (if z9 = 0 then (0 : Int) else if z9 = 1 then z6 else z7) = more ∧ 0 ≤ more := ⟨_, rfl, by (repeat' split) <;> omega⟩
      rw [em]
      have k59 : Kp d H5 H9 := k6.trans (k7.trans ((same_kp s8).trans k9))
      have N9 := N5.mono (d5.tk k59)
      have R9 := R5.mono (d5.tk k59)
      -- the top
      refine ⟨10, 13, rfl, rfl, ⟨by decide, by decide, by decide⟩, _, rfl, v, k, ms, rfl, N9, by omega, fun z H10 s10 hz1 hz2 => ?_⟩
      refine ⟨_, rfl, z, mo, rfl, _, rfl, _, more, rfl, rfl, 10000000000000, _, rfl, ?_⟩
      have hz0 : 0 ≤ z := by
        rcases hz2 with e | ⟨m, hm, e⟩
        · omega
        · have h5 := (ok.all m hm).1.s0
          have h6 := (ok.all m hm).1.l1
          rw [e]
          show 0 ≤ m.s + m.l
          omega
      obtain ⟨top, et, ht0, htz⟩ : ∃ top : Int, (if (if mo > z then mo else z) + more < 10000000000000 then (if mo > z then mo else z) + more else 10000000000000) = top ∧ 0 ≤ top ∧ ∀ m ∈ ms, m.e ≤ top := by
        refine ⟨_, rfl, ?_, fun m hm => ?_⟩
        · (repeat' split) <;> omega
        · have h5 := hz1 m hm
          have h6 := (ok.all m hm).2
          (repeat' split) <;> omega
      have N10 := N9.mono (same_tk s10)
      have R10 := R9.mono (same_tk s10)
      have hne : ∀ m ∈ ms, m.a ≠ m.b := fun m hm => (ok.all m hm).1.ne
      show tSeq _ _ _ [some (.ref a), some (.int i), some (.ref d), some v, some (.int p), some (.int mo), some u, some (.int more), some (.int (if (if mo > z then mo else z) + more < 10000000000000 then (if mo > z then mo else z) + more else 10000000000000)), y9, y10, y11, y12, none, none, none] H10
      rw [et]
      -- both ways turned
      refine ⟨_, rfl, _, rfl, _, rfl, _, rfl, _, rfl, v, k, ms, p, mo, u, r, ps, top, rfl, N10, R10, by omega, by omega, hne, hLd, fun H11 s11 => ?_⟩
      refine ⟨true, rfl, iteF ?_⟩
      refine ⟨_, rfl, _, rfl, _, rfl, Nat.zero_le _, fun o12 no12 => ?_⟩
      have s12 := same_new no12 (.tup [])
      refine ⟨_, rfl, v, k, ms, p, mo, .ref o12, [], [], top, rfl, N10.mono (same_tk (s11.trans s12)), ⟨o12, rfl, upd_same⟩, by omega, by show 0 ≤ 800; decide, hne, rfl, fun H13 s13 => ?_⟩
      refine ⟨true, rfl, iteF ?_⟩
      have s1013 := s11.trans (s12.trans s13)
      -- turned
      refine ⟨_, rfl, _, rfl, v, k, ms, top, rfl, N10.mono (same_tk s1013), by omega, fun vt H14 s14 Nt => ?_⟩
      have s1014 := s1013.trans s14
      have N14 := N10.mono (same_tk s1014)
      have R14 := R10.mono (same_tk s1014)
      have k14 : Kp d H1 H14 := k2.trans (k3.trans (k4.trans (k5.trans (k59.trans (same_kp (s10.trans s1014))))))
      have d14 := (d9.mono s10).mono s1014
      obtain ⟨qa, qb, xs', ev', h1', h2', h3'⟩ := id N14
      -- the inner loop
      refine ⟨_, rfl, qa, _, 1, .ref qb, ev', rfl, SqT.of h1', atI_nat (j := 1) rfl, Nat.zero_le _, fun o15 no15 => ?_⟩
      have s15 := same_new no15 (.tup [])
      refine ⟨_, _, (h3'.mono (same_tk s15)).dpT (s15 _ _ h2'), .tup (SqT.of upd_same) .nil, sh_rowsT ms, sh_nilT, ?_⟩
      rw [eqv_nilT]
      refine .inr ⟨_, rfl, 4, _, rfl, rfl, .inl ⟨by decide, by decide⟩, ?_⟩
      obtain ⟨c, ec, hc0, hc4, hcl⟩ : ∃ c : Int, 4 * (if (!decide (ms.length = 0)) = true then 1 else 0) = c ∧ 0 ≤ c ∧ c ≤ 4 ∧ (0 < c → ms.length ≠ 0) := by
        by_cases hl : ms.length = 0
        · exact ⟨0, by rw [decide_eq_true hl]; rfl, by decide, by decide, fun z => absurd z (by decide)⟩
        · exact ⟨4, by rw [decide_eq_false hl]; rfl, by decide, by decide, fun _ => hl⟩
      have same_end : ∀ H', Kp d H1 H' → Same H H' := fun H' kk b o e => by
        have e0 := s0 _ _ e
        exact kk b o (ne_of_none e0 nd1) (s1 _ _ e0)
      refine ⟨c, congrArg (fun z => [V.int z]) ec, by omega, by omega, for_range (lo := 0) (n := c.toNat)
        (fun j σ H' => ∃ y10 y11 y12, σ = [some (.ref a), some (.int i), some (.ref d), some v, some (.int p), some (.int mo), some u, some (.int more), some (.int top), some vt, y10, y11, y12, none, none, none] ∧ Kp d H14 H' ∧ Deck H' d)
        ⟨y10, y11, y12, rfl, same_kp s15, d14.mono s15⟩ (fun j σ H' hj hP => ?_) (fun σ H' hP => ?_)⟩
      · obtain ⟨y10, y11, y12, rfl, kj, dj⟩ := hP
        have tj := d14.tk kj
        refine ri _ _ _ _ _ _ _ _ _ d v vt u k (0 + (j : Int)) ms r top H' dj (N14.mono tj) (Nt.mono tj) ok (hcl (by omega)) htz ht0 (R14.mono tj) hrl fun y11 y12 H'' k'' d'' => ?_
        exact ⟨_, y11, y12, rfl, kj.trans k'', d''⟩
      · obtain ⟨y10, y11, y12, rfl, kj, dj⟩ := hP
        exact q _ _ _ _ _ _ _ _ _ _ _ H' (same_end H' (k14.trans kj))
    refine ⟨_, pss_cons (ps_for PassesOwn.never rfl (pi_range1 (by rfl) mr (pa_cons (pe_callB (call_max2 rfl) (by rfl) mm boot_max (pa_cons pe_int (pa_cons (pe_callB (call_min2 rfl) (by rfl) mn boot_min
          (pa_cons (pe_callB call_len_seq (by rfl) ml boot_len (pa_cons (pv 0) pa_nil)) (pa_cons pe_int pa_nil))) pa_nil))) pa_nil)) (pg_name (i := 1) nd rfl (.inl rfl)) hb)
      (pss_one (ps_ret pe_bl)), ?_⟩
    refine ⟨_, rfl, a, _, rfl, .inl hS, _, 12, rfl, 2, _, rfl, ?_⟩
    rw [List.length_map]
    obtain ⟨c, ec, hc0, hc4⟩ : ∃ c : Int, (if (if (12 : Int) < (ns.length : Int) then (12 : Int) else (ns.length : Int)) > 2 then (if (12 : Int) < (ns.length : Int) then (12 : Int) else (ns.length : Int)) else 2) = c ∧ 0 ≤ c ∧ c ≤ 12 := by
      refine ⟨_, rfl, ?_, ?_⟩
      · (repeat' split) <;> omega
      · (repeat' split) <;> omega
    refine ⟨c, congrArg (fun z => [V.int z]) ec, by omega, by omega, for_range (lo := 0) (n := c.toNat)
      (fun j σ H' => ∃ y1 y2 y3 y4 y5 y6 y7 y8 y9 y10 y11 y12, σ = [some (.ref a), y1, y2, y3, y4, y5, y6, y7, y8, y9, y10, y11, y12, none, none, none] ∧ Same H H')
      ⟨none, none, none, none, none, none, none, none, none, none, none, none, rfl, Same.refl H⟩ (fun j σ H' hj hP => ?_) (fun σ H' hP => ?_)⟩
    · obtain ⟨y1, y2, y3, y4, y5, y6, y7, y8, y9, y10, y11, y12, rfl, sj⟩ := hP
      refine rb _ _ _ _ _ _ _ _ _ _ _ _ (0 + (j : Int)) H' sj (by omega) fun y2 y3 y4 y5 y6 y7 y8 y9 y10 y11 y12 H'' s'' => ?_
      exact ⟨_, _, _, _, _, _, _, _, _, _, _, _, rfl, s''⟩
    · exact q H'
end
end K11

namespace K11
open PySem PySem.Spec PyProof.Rows L2
/-! ### what the top has written -/
theorem all_mk {l : PySem.W.OpenLaw} {w : World} {K : PySem.W.Frag} {h : Heap} {mg : Str → Option Value} {fa f1 f2 f3 f4 f5 f6 f7 f8 f9 f10 f11 f12 f13 f14 f15 f16 f17 f18 f19 f20 f21 f22 : Addr} (X : K.In h) (G : h.Ns mainGlobals mg) (hfa : mg "law" = some (.ref fa))
    {od1 an1 od2 an2 od3 an3 od4 an4 od5 an5 od6 an6 od7 an7 od8 an8 od9 an9 od10 an10 od11 an11 od12 an12 od13 an13 od14 an14 od15 an15 od16 an16 od17 an17 od18 an18 od19 an19 od20 an20 od21 an21 od22 an22 : Option Addr} {sl1 sl2 sl3 sl4 sl5 sl6 sl7 sl8 sl9 sl10 sl11 sl12 sl13 sl14 sl15 sl16 sl17 sl18 sl19 sl20 sl21 sl22 : Array (Option Value)}
    {oc1 kV1 dc1 pm1 cd1 ct1 oc2 kV2 dc2 pm2 cd2 ct2 oc3 kV3 dc3 pm3 cd3 ct3 oc4 kV4 dc4 pm4 cd4 ct4 oc5 kV5 dc5 pm5 cd5 ct5 oc6 kV6 dc6 pm6 cd6 ct6 oc7 kV7 dc7 pm7 cd7 ct7 oc8 kV8 dc8 pm8 cd8 ct8 oc9 kV9 dc9 pm9 cd9 ct9 oc10 kV10 dc10 pm10 cd10 ct10 oc11 kV11 dc11 pm11 cd11 ct11 oc12 kV12 dc12 pm12 cd12 ct12 oc13 kV13 dc13 pm13 cd13 ct13 oc14 kV14 dc14 pm14 cd14 ct14 oc15 kV15 dc15 pm15 cd15 ct15 oc16 kV16 dc16 pm16 cd16 ct16 oc17 kV17 dc17 pm17 cd17 ct17 oc18 kV18 dc18 pm18 cd18 ct18 oc19 kV19 dc19 pm19 cd19 ct19 oc20 kV20 dc20 pm20 cd20 ct20 oc21 kV21 dc21 pm21 cd21 ct21 oc22 kV22 dc22 pm22 cd22 ct22 : Value}
    (a1 : PySem.W.nsIn K mainGlobals "top_of" = some (some (.ref f1))) (l1 : K.lookup f1 = some ⟨oc1, od1, .func (PySem.W.fnOf "top_of" "top_of" (defArgs sTop) (defBody sTop) (defScope sTop) .none kV1 dc1 pm1 an1 cd1 ct1), sl1⟩) (c1 : PySem.W.codeIn K cd1 "top_of" = true) (k1 : PySem.W.keepIn K (.ref f1) = true)
    (a2 : PySem.W.nsIn K mainGlobals "turned_net" = some (some (.ref f2))) (l2 : K.lookup f2 = some ⟨oc2, od2, .func (PySem.W.fnOf "turned_net" "turned_net" (defArgs sTurnN) (defBody sTurnN) (defScope sTurnN) .none kV2 dc2 pm2 an2 cd2 ct2), sl2⟩) (c2 : PySem.W.codeIn K cd2 "turned_net" = true) (k2 : PySem.W.keepIn K (.ref f2) = true)
    (a3 : PySem.W.nsIn K mainGlobals "turned_way" = some (some (.ref f3))) (l3 : K.lookup f3 = some ⟨oc3, od3, .func (PySem.W.fnOf "turned_way" "turned_way" (defArgs sTurnW) (defBody sTurnW) (defScope sTurnW) .none kV3 dc3 pm3 an3 cd3 ct3), sl3⟩) (c3 : PySem.W.codeIn K cd3 "turned_way" = true) (k3 : PySem.W.keepIn K (.ref f3) = true)
    (a4 : PySem.W.nsIn K mainGlobals "is_whole" = some (some (.ref f4))) (l4 : K.lookup f4 = some ⟨oc4, od4, .func (PySem.W.fnOf "is_whole" "is_whole" (defArgs sWhole) (defBody sWhole) (defScope sWhole) .none kV4 dc4 pm4 an4 cd4 ct4), sl4⟩) (c4 : PySem.W.codeIn K cd4 "is_whole" = true) (k4 : PySem.W.keepIn K (.ref f4) = true)
    (a5 : PySem.W.nsIn K mainGlobals "step_from" = some (some (.ref f5))) (l5 : K.lookup f5 = some ⟨oc5, od5, .func (PySem.W.fnOf "step_from" "step_from" (defArgs sStepF) (defBody sStepF) (defScope sStepF) .none kV5 dc5 pm5 an5 cd5 ct5), sl5⟩) (c5 : PySem.W.codeIn K cd5 "step_from" = true) (k5 : PySem.W.keepIn K (.ref f5) = true)
    (a6 : PySem.W.nsIn K mainGlobals "next_step" = some (some (.ref f6))) (l6 : K.lookup f6 = some ⟨oc6, od6, .func (PySem.W.fnOf "next_step" "next_step" (defArgs sNext) (defBody sNext) (defScope sNext) .none kV6 dc6 pm6 an6 cd6 ct6), sl6⟩) (c6 : PySem.W.codeIn K cd6 "next_step" = true) (k6 : PySem.W.keepIn K (.ref f6) = true)
    (a7 : PySem.W.nsIn K mainGlobals "is_way" = some (some (.ref f7))) (l7 : K.lookup f7 = some ⟨oc7, od7, .func (PySem.W.fnOf "is_way" "is_way" (defArgs sIsWay) (defBody sIsWay) (defScope sIsWay) .none kV7 dc7 pm7 an7 cd7 ct7), sl7⟩) (c7 : PySem.W.codeIn K cd7 "is_way" = true) (k7 : PySem.W.keepIn K (.ref f7) = true)
    (a8 : PySem.W.nsIn K mainGlobals "places_on" = some (some (.ref f8))) (l8 : K.lookup f8 = some ⟨oc8, od8, .func (PySem.W.fnOf "places_on" "places_on" (defArgs sPlaces) (defBody sPlaces) (defScope sPlaces) .none kV8 dc8 pm8 an8 cd8 ct8), sl8⟩) (c8 : PySem.W.codeIn K cd8 "places_on" = true) (k8 : PySem.W.keepIn K (.ref f8) = true)
    (a9 : PySem.W.nsIn K mainGlobals "comes_at" = some (some (.ref f9))) (l9 : K.lookup f9 = some ⟨oc9, od9, .func (PySem.W.fnOf "comes_at" "comes_at" (defArgs sComes) (defBody sComes) (defScope sComes) .none kV9 dc9 pm9 an9 cd9 ct9), sl9⟩) (c9 : PySem.W.codeIn K cd9 "comes_at" = true) (k9 : PySem.W.keepIn K (.ref f9) = true)
    (a10 : PySem.W.nsIn K mainGlobals "waits_on" = some (some (.ref f10))) (l10 : K.lookup f10 = some ⟨oc10, od10, .func (PySem.W.fnOf "waits_on" "waits_on" (defArgs sWaits) (defBody sWaits) (defScope sWaits) .none kV10 dc10 pm10 an10 cd10 ct10), sl10⟩) (c10 : PySem.W.codeIn K cd10 "waits_on" = true) (k10 : PySem.W.keepIn K (.ref f10) = true)
    (a11 : PySem.W.nsIn K mainGlobals "_law_deck" = some (some (.ref f11))) (l11 : K.lookup f11 = some ⟨oc11, od11, .func (PySem.W.fnOf "_law_deck" "_law_deck" (defArgs sDeck) (defBody sDeck) (defScope sDeck) .none kV11 dc11 pm11 an11 cd11 ct11), sl11⟩) (c11 : PySem.W.codeIn K cd11 "_law_deck" = true) (k11 : PySem.W.keepIn K (.ref f11) = true)
    (a12 : PySem.W.nsIn K mainGlobals "_law_draw" = some (some (.ref f12))) (l12 : K.lookup f12 = some ⟨oc12, od12, .func (PySem.W.fnOf "_law_draw" "_law_draw" (defArgs sDraw) (defBody sDraw) (defScope sDraw) .none kV12 dc12 pm12 an12 cd12 ct12), sl12⟩) (c12 : PySem.W.codeIn K cd12 "_law_draw" = true) (k12 : PySem.W.keepIn K (.ref f12) = true)
    (a13 : PySem.W.nsIn K mainGlobals "_law_far" = some (some (.ref f13))) (l13 : K.lookup f13 = some ⟨oc13, od13, .func (PySem.W.fnOf "_law_far" "_law_far" (defArgs sFar) (defBody sFar) (defScope sFar) .none kV13 dc13 pm13 an13 cd13 ct13), sl13⟩) (c13 : PySem.W.codeIn K cd13 "_law_far" = true) (k13 : PySem.W.keepIn K (.ref f13) = true)
    (a14 : PySem.W.nsIn K mainGlobals "_law_begin" = some (some (.ref f14))) (l14 : K.lookup f14 = some ⟨oc14, od14, .func (PySem.W.fnOf "_law_begin" "_law_begin" (defArgs sBegin) (defBody sBegin) (defScope sBegin) .none kV14 dc14 pm14 an14 cd14 ct14), sl14⟩) (c14 : PySem.W.codeIn K cd14 "_law_begin" = true) (k14 : PySem.W.keepIn K (.ref f14) = true)
    (a15 : PySem.W.nsIn K mainGlobals "_law_meeting" = some (some (.ref f15))) (l15 : K.lookup f15 = some ⟨oc15, od15, .func (PySem.W.fnOf "_law_meeting" "_law_meeting" (defArgs sMeet) (defBody sMeet) (defScope sMeet) .none kV15 dc15 pm15 an15 cd15 ct15), sl15⟩) (c15 : PySem.W.codeIn K cd15 "_law_meeting" = true) (k15 : PySem.W.keepIn K (.ref f15) = true)
    (a16 : PySem.W.nsIn K mainGlobals "_law_net" = some (some (.ref f16))) (l16 : K.lookup f16 = some ⟨oc16, od16, .func (PySem.W.fnOf "_law_net" "_law_net" (defArgs sNet) (defBody sNet) (defScope sNet) .none kV16 dc16 pm16 an16 cd16 ct16), sl16⟩) (c16 : PySem.W.codeIn K cd16 "_law_net" = true) (k16 : PySem.W.keepIn K (.ref f16) = true)
    (a17 : PySem.W.nsIn K mainGlobals "_law_moment" = some (some (.ref f17))) (l17 : K.lookup f17 = some ⟨oc17, od17, .func (PySem.W.fnOf "_law_moment" "_law_moment" (defArgs sMoment) (defBody sMoment) (defScope sMoment) .none kV17 dc17 pm17 an17 cd17 ct17), sl17⟩) (c17 : PySem.W.codeIn K cd17 "_law_moment" = true) (k17 : PySem.W.keepIn K (.ref f17) = true)
    (a18 : PySem.W.nsIn K mainGlobals "_law_step" = some (some (.ref f18))) (l18 : K.lookup f18 = some ⟨oc18, od18, .func (PySem.W.fnOf "_law_step" "_law_step" (defArgs sStep) (defBody sStep) (defScope sStep) .none kV18 dc18 pm18 an18 cd18 ct18), sl18⟩) (c18 : PySem.W.codeIn K cd18 "_law_step" = true) (k18 : PySem.W.keepIn K (.ref f18) = true)
    (a19 : PySem.W.nsIn K mainGlobals "_law_gone" = some (some (.ref f19))) (l19 : K.lookup f19 = some ⟨oc19, od19, .func (PySem.W.fnOf "_law_gone" "_law_gone" (defArgs sGone) (defBody sGone) (defScope sGone) .none kV19 dc19 pm19 an19 cd19 ct19), sl19⟩) (c19 : PySem.W.codeIn K cd19 "_law_gone" = true) (k19 : PySem.W.keepIn K (.ref f19) = true)
    (a20 : PySem.W.nsIn K mainGlobals "_law_right" = some (some (.ref f20))) (l20 : K.lookup f20 = some ⟨oc20, od20, .func (PySem.W.fnOf "_law_right" "_law_right" (defArgs sRight) (defBody sRight) (defScope sRight) .none kV20 dc20 pm20 an20 cd20 ct20), sl20⟩) (c20 : PySem.W.codeIn K cd20 "_law_right" = true) (k20 : PySem.W.keepIn K (.ref f20) = true)
    (a21 : PySem.W.nsIn K mainGlobals "_law_ends" = some (some (.ref f21))) (l21 : K.lookup f21 = some ⟨oc21, od21, .func (PySem.W.fnOf "_law_ends" "_law_ends" (defArgs sEnds) (defBody sEnds) (defScope sEnds) .none kV21 dc21 pm21 an21 cd21 ct21), sl21⟩) (c21 : PySem.W.codeIn K cd21 "_law_ends" = true) (k21 : PySem.W.keepIn K (.ref f21) = true)
    (a22 : PySem.W.nsIn K mainGlobals "law" = some (some (.ref f22))) (l22 : K.lookup f22 = some ⟨oc22, od22, .func (PySem.W.fnOf "law" "law" (defArgs sLaw) (defBody sLaw) (defScope sLaw) .none kV22 dc22 pm22 an22 cd22 ct22), sl22⟩) (c22 : PySem.W.codeIn K cd22 "law" = true) (k22 : PySem.W.keepIn K (.ref f22) = true)
    (z1 : PySem.W.nsIn K mainGlobals "len" = some none)
    (z2 : PySem.W.nsIn K mainGlobals "range" = some none)
    (z3 : PySem.W.nsIn K mainGlobals "tuple" = some none)
    (z4 : PySem.W.nsIn K mainGlobals "int" = some none)
    (z5 : PySem.W.nsIn K mainGlobals "sorted" = some none)
    (z6 : PySem.W.nsIn K mainGlobals "max" = some none)
    (z7 : PySem.W.nsIn K mainGlobals "min" = some none)
    (z8 : PySem.W.nsIn K mainGlobals "bool" = some none)
    (z9 : PySem.W.nsIn K mainGlobals "isinstance" = some none) :
    ∃ fd : FuncData, (∀ (s : Shared) (v : Value), BindsTo s fd ⟨[v], []⟩ [("_law_script", v)]) ∧ ∀ base : Heap, K.In base → base.Ns mainGlobals mg → FnOk l.prog w K mg base CX0 6 fa fd ["_law_script"] (spLaw K) := by
  have e := hfa.symm.trans (PySem.W.mg_of X G a22)
  cases e
  have F1 := fun_mk (st := sTop) l1 c1 k1
  have b1 := F1.binds (ps := ["net"]) fun _ _ _ _ _ _ us hl => match us, hl with | [_], _ => rfl
  have g1 := PySem.W.mg_of X G a1
  have F2 := fun_mk (st := sTurnN) l2 c2 k2
  have b2 := F2.binds (ps := ["net", "top"]) fun _ _ _ _ _ _ us hl => match us, hl with | [_, _], _ => rfl
  have g2 := PySem.W.mg_of X G a2
  have F3 := fun_mk (st := sTurnW) l3 c3 k3
  have b3 := F3.binds (ps := ["way"]) fun _ _ _ _ _ _ us hl => match us, hl with | [_], _ => rfl
  have g3 := PySem.W.mg_of X G a3
  have F4 := fun_mk (st := sWhole) l4 c4 k4
  have b4 := F4.binds (ps := ["thing"]) fun _ _ _ _ _ _ us hl => match us, hl with | [_], _ => rfl
  have g4 := PySem.W.mg_of X G a4
  have F5 := fun_mk (st := sStepF) l5 c5 k5
  have b5 := F5.binds (ps := ["net", "number", "place"]) fun _ _ _ _ _ _ us hl => match us, hl with | [_, _, _], _ => rfl
  have g5 := PySem.W.mg_of X G a5
  have F6 := fun_mk (st := sNext) l6 c6 k6
  have b6 := F6.binds (ps := ["net", "place", "moment", "thing"]) fun _ _ _ _ _ _ us hl => match us, hl with | [_, _, _, _], _ => rfl
  have g6 := PySem.W.mg_of X G a6
  have F7 := fun_mk (st := sIsWay) l7 c7 k7
  have b7 := F7.binds (ps := ["net", "place", "moment", "thing"]) fun _ _ _ _ _ _ us hl => match us, hl with | [_, _, _, _], _ => rfl
  have g7 := PySem.W.mg_of X G a7
  have F8 := fun_mk (st := sPlaces) l8 c8 k8
  have b8 := F8.binds (ps := ["net", "place", "way"]) fun _ _ _ _ _ _ us hl => match us, hl with | [_, _, _], _ => rfl
  have g8 := PySem.W.mg_of X G a8
  have F9 := fun_mk (st := sComes) l9 c9 k9
  have b9 := F9.binds (ps := ["net", "moment", "way"]) fun _ _ _ _ _ _ us hl => match us, hl with | [_, _, _], _ => rfl
  have g9 := PySem.W.mg_of X G a9
  have F10 := fun_mk (st := sWaits) l10 c10 k10
  have b10 := F10.binds (ps := ["net", "moment", "way"]) fun _ _ _ _ _ _ us hl => match us, hl with | [_, _, _], _ => rfl
  have g10 := PySem.W.mg_of X G a10
  have F11 := fun_mk (st := sDeck) l11 c11 k11
  have b11 := F11.binds (ps := ["_law_script", "_law_k"]) fun _ _ _ _ _ _ us hl => match us, hl with | [_, _], _ => rfl
  have g11 := PySem.W.mg_of X G a11
  have F12 := fun_mk (st := sDraw) l12 c12 k12
  have b12 := F12.binds (ps := ["_law_deck_here", "_law_most"]) fun _ _ _ _ _ _ us hl => match us, hl with | [_, _], _ => rfl
  have g12 := PySem.W.mg_of X G a12
  have F13 := fun_mk (st := sFar) l13 c13 k13
  have b13 := F13.binds (ps := ["_law_deck_here", "_law_most"]) fun _ _ _ _ _ _ us hl => match us, hl with | [_, _], _ => rfl
  have g13 := PySem.W.mg_of X G a13
  have F14 := fun_mk (st := sBegin) l14 c14 k14
  have b14 := F14.binds (ps := ["_law_deck_here", "_law_way", "_law_rows"]) fun _ _ _ _ _ _ us hl => match us, hl with | [_, _, _], _ => rfl
  have g14 := PySem.W.mg_of X G a14
  have F15 := fun_mk (st := sMeet) l15 c15 k15
  have b15 := F15.binds (ps := ["_law_deck_here", "_law_way", "_law_many", "_law_rows"]) fun _ _ _ _ _ _ us hl => match us, hl with | [_, _, _, _], _ => rfl
  have g15 := PySem.W.mg_of X G a15
  have F16 := fun_mk (st := sNet) l16 c16 k16
  have b16 := F16.binds (ps := ["_law_deck_here", "_law_least"]) fun _ _ _ _ _ _ us hl => match us, hl with | [_, _], _ => rfl
  have g16 := PySem.W.mg_of X G a16
  have F17 := fun_mk (st := sMoment) l17 c17 k17
  have b17 := F17.binds (ps := ["_law_deck_here", "_law_net_here"]) fun _ _ _ _ _ _ us hl => match us, hl with | [_, _], _ => rfl
  have g17 := PySem.W.mg_of X G a17
  have F18 := fun_mk (st := sStep) l18 c18 k18
  have b18 := F18.binds (ps := ["_law_net_here", "_law_number", "_law_place"]) fun _ _ _ _ _ _ us hl => match us, hl with | [_, _, _], _ => rfl
  have g18 := PySem.W.mg_of X G a18
  have F19 := fun_mk (st := sGone) l19 c19 k19
  have b19 := F19.binds (ps := ["_law_deck_here", "_law_net_here", "_law_place", "_law_moment_here", "_law_most"]) fun _ _ _ _ _ _ us hl => match us, hl with | [_, _, _, _, _], _ => rfl
  have g19 := PySem.W.mg_of X G a19
  have F20 := fun_mk (st := sRight) l20 c20 k20
  have b20 := F20.binds (ps := ["_law_net_here", "_law_place", "_law_moment_here", "_law_way", "_law_top"]) fun _ _ _ _ _ _ us hl => match us, hl with | [_, _, _, _, _], _ => rfl
  have g20 := PySem.W.mg_of X G a20
  have F21 := fun_mk (st := sEnds) l21 c21 k21
  have b21 := F21.binds (ps := ["_law_net_here", "_law_row"]) fun _ _ _ _ _ _ us hl => match us, hl with | [_, _], _ => rfl
  have g21 := PySem.W.mg_of X G a21
  have F22 := fun_mk (st := sLaw) l22 c22 k22
  have m_len := PySem.W.mg_none_of X G z1
  have m_range := PySem.W.mg_none_of X G z2
  have m_tuple := PySem.W.mg_none_of X G z3
  have m_int := PySem.W.mg_none_of X G z4
  have m_sorted := PySem.W.mg_none_of X G z5
  have m_max := PySem.W.mg_none_of X G z6
  have m_min := PySem.W.mg_none_of X G z7
  have m_bool := PySem.W.mg_none_of X G z8
  have m_isinstance := PySem.W.mg_none_of X G z9
  refine ⟨PySem.W.fnOf "law" "law" (defArgs sLaw) (defBody sLaw) (defScope sLaw) .none kV22 dc22 pm22 an22 cd22 ct22, fun s v => .of_eq rfl, fun base _ _ => ?_⟩
  have P1 : FnOk l.prog w K mg base CX0 1 f1 _ ["net"] spTop := ok_top (k := 0) F1 m_max
  have P2 : FnOk l.prog w K mg base CX0 1 f2 _ ["net", "top"] spTurnN := ok_turnN (k := 0) F2 m_tuple
  have P3 : FnOk l.prog w K mg base CX0 1 f3 _ ["way"] spTurnW := ok_turnW (k := 0) F3
  have P4 : FnOk l.prog w K mg base CX0 1 f4 _ ["thing"] spWhole := ok_whole (k := 0) F4 m_isinstance m_int m_bool
  have P5 : FnOk l.prog w K mg base CX0 1 f5 _ ["net", "number", "place"] spStepF := ok_stepF (k := 0) F5
  have P6 : FnOk l.prog w K mg base CX0 2 f6 _ ["net", "place", "moment", "thing"] spNext := ok_next (k := 1) F6 (P4.mono (by decide : 1 ≤ 1)) b4 k4 g4 (P5.mono (by decide : 1 ≤ 1)) b5 k5 g5 m_len
  have P7 : FnOk l.prog w K mg base CX0 3 f7 _ ["net", "place", "moment", "thing"] spIsWay := ok_isWay (k := 2) F7 (P6.mono (by decide : 2 ≤ 2)) b6 k6 g6 m_isinstance m_tuple
  have P8 : FnOk l.prog w K mg base CX0 2 f8 _ ["net", "place", "way"] spPlaces := ok_places (k := 1) F8 (P5.mono (by decide : 1 ≤ 1)) b5 k5 g5 m_tuple
  have P9 : FnOk l.prog w K mg base CX0 1 f9 _ ["net", "moment", "way"] spComes := ok_comes (k := 0) F9
  have P10 : FnOk l.prog w K mg base CX0 1 f10 _ ["net", "moment", "way"] spWaits := ok_waits (k := 0) F10 m_tuple
  have P11 : FnOk l.prog w K mg base CX0 1 f11 _ ["_law_script", "_law_k"] (spDeck K) := ok_deck (k := 0) F11 m_len m_max m_int
  have P12 : FnOk l.prog w K mg base CX0 1 f12 _ ["_law_deck_here", "_law_most"] spDraw := ok_draw (k := 0) F12
  have P13 : FnOk l.prog w K mg base CX0 2 f13 _ ["_law_deck_here", "_law_most"] spFar := ok_far (k := 1) F13 (P12.mono (by decide : 1 ≤ 1)) b12 k12 g12 m_range
  have P14 : FnOk l.prog w K mg base CX0 2 f14 _ ["_law_deck_here", "_law_way", "_law_rows"] spBegin := ok_begin (k := 1) F14 (P12.mono (by decide : 1 ≤ 1)) b12 k12 g12 m_len m_max m_int
  have P15 : FnOk l.prog w K mg base CX0 3 f15 _ ["_law_deck_here", "_law_way", "_law_many", "_law_rows"] spMeet := ok_meet (k := 2) F15 (P12.mono (by decide : 1 ≤ 2)) b12 k12 g12 (P13.mono (by decide : 2 ≤ 2)) b13 k13 g13 (P14.mono (by decide : 2 ≤ 2)) b14 k14 g14 m_len m_int
  have P16 : FnOk l.prog w K mg base CX0 4 f16 _ ["_law_deck_here", "_law_least"] spNet := ok_net (k := 3) F16 (P12.mono (by decide : 1 ≤ 3)) b12 k12 g12 (P15.mono (by decide : 3 ≤ 3)) b15 k15 g15 m_int m_range m_tuple
  have P17 : FnOk l.prog w K mg base CX0 2 f17 _ ["_law_deck_here", "_law_net_here"] spMoment := ok_moment (k := 1) F17 (P12.mono (by decide : 1 ≤ 1)) b12 k12 g12 m_len m_max
  have P18 : FnOk l.prog w K mg base CX0 1 f18 _ ["_law_net_here", "_law_number", "_law_place"] spStep := ok_step (k := 0) F18
  have P19 : FnOk l.prog w K mg base CX0 2 f19 _ ["_law_deck_here", "_law_net_here", "_law_place", "_law_moment_here", "_law_most"] spGone := ok_gone (k := 1) F19 (P12.mono (by decide : 1 ≤ 1)) b12 k12 g12 (P18.mono (by decide : 1 ≤ 1)) b18 k18 g18 m_len m_range m_sorted
  have P20 : FnOk l.prog w K mg base CX0 4 f20 _ ["_law_net_here", "_law_place", "_law_moment_here", "_law_way", "_law_top"] spRight := ok_right (k := 3) F20 (P2.mono (by decide : 1 ≤ 3)) b2 k2 g2 (P3.mono (by decide : 1 ≤ 3)) b3 k3 g3 (P8.mono (by decide : 2 ≤ 3)) b8 k8 g8 (P9.mono (by decide : 1 ≤ 3)) b9 k9 g9 (P7.mono (by decide : 3 ≤ 3)) b7 k7 g7 (P10.mono (by decide : 1 ≤ 3)) b10 k10 g10
  have P21 : FnOk l.prog w K mg base CX0 4 f21 _ ["_law_net_here", "_law_row"] spEnds := ok_ends (k := 3) F21 (P7.mono (by decide : 3 ≤ 3)) b7 k7 g7 (P8.mono (by decide : 2 ≤ 3)) b8 k8 g8 m_range
  exact ok_law (k := 5) F22 (P12.mono (by decide : 1 ≤ 5)) b12 k12 g12 (P3.mono (by decide : 1 ≤ 5)) b3 k3 g3 (P21.mono (by decide : 4 ≤ 5)) b21 k21 g21 (P11.mono (by decide : 1 ≤ 5)) b11 k11 g11 (P16.mono (by decide : 4 ≤ 5)) b16 k16 g16 (P17.mono (by decide : 2 ≤ 5)) b17 k17 g17 (P19.mono (by decide : 2 ≤ 5)) b19 k19 g19 (P13.mono (by decide : 2 ≤ 5)) b13 k13 g13 (P1.mono (by decide : 1 ≤ 5)) b1 k1 g1 (P20.mono (by decide : 4 ≤ 5)) b20 k20 g20 (P2.mono (by decide : 1 ≤ 5)) b2 k2 g2 m_len m_range m_tuple m_int m_sorted m_max m_min
end K11
open PySem PySem.W PyProof.Rows
set_option maxHeartbeats 0 in
theorem PySem.Challenge.cw_meetways_k11_whole_ways_turned_holds : PySem.Challenge.rw_meetways_k11_whole_ways_turned.Holds := by
  w_on; o_law; k_head; (case hw => w_witness2)
  k_fill
  refine L2.walk_of (l := PySem.Challenge.rw_meetways_k11_whole_ways_turned) (n := 63) (k := 6) (x := "_law_script") (CX := fun _ => L2.CX0) (sp := fun w => K11.spLaw _) rfl (by decide) rfl ⟨rfl, by decide, by decide⟩ (fun w h Y => PySem.W.kIn_of Y) ?F (fun _ _ a ns hl _ hS => ⟨a, ns, rfl, hS, hl, fun _ => rfl⟩) (fun _ _ _ _ _ h => h)
  case F =>
    intro w mg fa h KX G hmg
    refine' K11.all_mk KX G hmg ?a1 ?l1 ?c1 ?k1 ?a2 ?l2 ?c2 ?k2 ?a3 ?l3 ?c3 ?k3 ?a4 ?l4 ?c4 ?k4 ?a5 ?l5 ?c5 ?k5 ?a6 ?l6 ?c6 ?k6 ?a7 ?l7 ?c7 ?k7 ?a8 ?l8 ?c8 ?k8 ?a9 ?l9 ?c9 ?k9 ?a10 ?l10 ?c10 ?k10 ?a11 ?l11 ?c11 ?k11 ?a12 ?l12 ?c12 ?k12 ?a13 ?l13 ?c13 ?k13 ?a14 ?l14 ?c14 ?k14 ?a15 ?l15 ?c15 ?k15 ?a16 ?l16 ?c16 ?k16 ?a17 ?l17 ?c17 ?k17 ?a18 ?l18 ?c18 ?k18 ?a19 ?l19 ?c19 ?k19 ?a20 ?l20 ?c20 ?k20 ?a21 ?l21 ?c21 ?k21 ?a22 ?l22 ?c22 ?k22 ?z1 ?z2 ?z3 ?z4 ?z5 ?z6 ?z7 ?z8 ?z9
    (case a1 => k_is); (case l1 => k_is); (case c1 => k_is); (case k1 => k_is)
    (case a2 => k_is); (case l2 => k_is); (case c2 => k_is); (case k2 => k_is)
    (case a3 => k_is); (case l3 => k_is); (case c3 => k_is); (case k3 => k_is)
    (case a4 => k_is); (case l4 => k_is); (case c4 => k_is); (case k4 => k_is)
    (case a5 => k_is); (case l5 => k_is); (case c5 => k_is); (case k5 => k_is)
    (case a6 => k_is); (case l6 => k_is); (case c6 => k_is); (case k6 => k_is)
    (case a7 => k_is); (case l7 => k_is); (case c7 => k_is); (case k7 => k_is)
    (case a8 => k_is); (case l8 => k_is); (case c8 => k_is); (case k8 => k_is)
    (case a9 => k_is); (case l9 => k_is); (case c9 => k_is); (case k9 => k_is)
    (case a10 => k_is); (case l10 => k_is); (case c10 => k_is); (case k10 => k_is)
    (case a11 => k_is); (case l11 => k_is); (case c11 => k_is); (case k11 => k_is)
    (case a12 => k_is); (case l12 => k_is); (case c12 => k_is); (case k12 => k_is)
    (case a13 => k_is); (case l13 => k_is); (case c13 => k_is); (case k13 => k_is)
    (case a14 => k_is); (case l14 => k_is); (case c14 => k_is); (case k14 => k_is)
    (case a15 => k_is); (case l15 => k_is); (case c15 => k_is); (case k15 => k_is)
    (case a16 => k_is); (case l16 => k_is); (case c16 => k_is); (case k16 => k_is)
    (case a17 => k_is); (case l17 => k_is); (case c17 => k_is); (case k17 => k_is)
    (case a18 => k_is); (case l18 => k_is); (case c18 => k_is); (case k18 => k_is)
    (case a19 => k_is); (case l19 => k_is); (case c19 => k_is); (case k19 => k_is)
    (case a20 => k_is); (case l20 => k_is); (case c20 => k_is); (case k20 => k_is)
    (case a21 => k_is); (case l21 => k_is); (case c21 => k_is); (case k21 => k_is)
    (case a22 => k_is); (case l22 => k_is); (case c22 => k_is); (case k22 => k_is)
    (case z1 => k_is); (case z2 => k_is); (case z3 => k_is); (case z4 => k_is)
    (case z5 => k_is); (case z6 => k_is); (case z7 => k_is); (case z8 => k_is)
    (case z9 => k_is)
