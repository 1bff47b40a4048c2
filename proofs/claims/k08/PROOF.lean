import PyProof.Rows.All
import Wide.All
import OpenK.AllK
import Wide.FinOn
import HandS.TryOnly
import HandS.Style
import HandS.List
import HandS.Iter
import KE.KUnpack
import PyProof.CollectIter
import PyProof.ZipIter
import HandS.SortKw
import KE.KUnpackStar
import HandS.More
import PyProof.Rows.StrMeet
import KE.KEqNest
import PyProof.NeKinds
import HandS.SetKeys
import HandS.SetFor
import PyProof.Walks
import PyProof.Rows.SortShellAny
import HandS.ListItems
import HandS.DictComp
import HandS.DictTup
import HandS.Comp
import HandS.SetBool
import HandS.OwnEq
import HandS.FStr
import HandS.Codes
import HandS.ExcOwn
import PyProof.MeetsIn
import PyProof.Rows.Range3
import PyProof.Conv_bool
import HandS.ForMost
import HandS.ForExc
import HandS.IsInst
import HandS.TupAny
import HandS.TupMul
import PyProof.ListStr
import HandS.RaiseMore
import HandS.Text
import HandS.Finally
import HandS.Conv
import HandS.Flow
import HandS.Small
import KE.KxText
import PyProof.P3Eq
import PyProof.Rows.StrDouble
import HandS.Ends
import KE.RegKIsAll
import PySem.Challenge.RW_freshcells_k08_texts_and_rows
set_option Elab.async false
set_option linter.all false
set_option maxRecDepth 100000
/-! Rules that the hand layer lacks: a starred target, a list by steps of two, zip with strict. -/
namespace Mp
open PySem PySem.Spec PyProof.Rows L2
section
variable {prog : Program} {w : World} {A : Around} {E : Value → Shared → Prop} {s : Shared}
/-- *first, and n more of a list -/
theorem items_star {l : Addr} {its : Array Value} {n : Nat} {Q : List Value → Shared → Prop} (hh : A.handled = none) (hl : s.heap.IsList l its) (hn : n ≤ its.size) (hz : its.size ≤ sizeLine)
    (hQ : ∀ (h' : Heap) (t : Nat), (∀ b o, s.heap.get? b = some o → h'.get? b = some o) → s.toks ≤ t →
      Q (.ref h'.objs.size :: its.toList.drop (its.size - n)) { s with heap := h'.push { cls := .type "list", data := .seq (its.toList.take (its.size - n)).toArray }, toks := t }) :
    wpAny (model prog w) A (unpackItems (.ref l) (n + 1) (some 0)) Q E s := by
  have lt : l < s.heap.objs.size := by obtain ⟨o, ho, _⟩ := hl; exact Heap.lt_size ho
  have ne : l ≠ s.heap.objs.size := Nat.ne_of_lt lt
  unfold unpackItems notIterableAtAll
  refine wpAny_bind (wpAny_bind (wpAny_specialOf hl.typeIs slot_list_iter.lookup (wpAny_pure ?_)))
  rw [if_neg Bool.false_ne_true]
  refine wpAny_bind (wpAny_holding (wpAny_pyIter_list hl ?_))
  refine wpAny_bind (wpAny_holding (show wpAny _ _ (pure []) _ _ _ from wpAny_pure ?_))
  rw [if_neg (by simp)]
  have W := (Walks.list (prog := prog) (w := w) (A := A.in1) hh s.heap.objs.size l ne its).toS
  refine wpAny_bind (wpAny_holding (wpAny_collect_iter (T := "list_iterator") (.inr (.inr (.inl rfl))) W (fun i s' st => st.1.typeIs) ⟨⟨_, Heap.get?_push_size _ rfl, rfl, rfl⟩, hl.push _⟩ (fun b hb => ?_) (by simp) (fun s' acc m ac => ?_) hz))
  · rcases List.mem_cons.mp hb with rfl | hb
    · exact Nat.lt_of_lt_of_eq (Nat.lt_succ_self _) (Heap.size_push ..).symm
    · obtain rfl := List.mem_singleton.mp hb
      exact Nat.lt_of_lt_of_eq (Nat.lt_succ_of_lt lt) (Heap.size_push ..).symm
  · have ea : acc = its := by
      refine Array.ext ac.1 fun i h1 h2 => ?_
      have this : its[i]? = some acc[i] := ac.2 i acc[i] (by simp [h1])
      rw [Array.getElem?_eq_getElem h2] at this
      exact (Option.some.inj this).symm
    subst ea
    obtain ⟨mh, mg, md, mo, mt⟩ := m
    obtain ⟨hp, g, d, t, os⟩ := s'
    simp only at mh mg md mo mt
    subst mg md mo
    have hk : ∀ b o, s.heap.get? b = some o → hp.get? b = some o := fun b o e =>
      mh b o (by simp; exact Nat.ne_of_lt (Heap.lt_size e)) (Heap.get?_push_of_some _ e)
    rw [if_neg (by simp; omega)]
    refine wpAny_bind (wpAny_newObj_type ?_ ?_)
    rotate_left
    · show (List.take _ acc.toList).toArray.size ≤ sizeLine
      rw [List.size_toArray]
      exact Nat.le_trans (List.length_take_le' _ _) (by simpa using hz)
    refine wpAny_pure ?_
    have e1 : acc.toList.length - (n + 1 - 1 - 0) = acc.size - n := by simp
    simp only [List.nil_append, List.singleton_append, e1]
    exact hQ hp t hk mt
end
/-- (*first, a, …) = a list -/
def gStar (K : PySem.W.Frag) (n : Nat) (t : TGs) : TG := fun v σ H Q => ∃ a xs, v = .ref a ∧ SqL K H a xs ∧ n ≤ xs.length ∧
  ∀ p, H p = none → t (.ref p :: xs.drop (xs.length - n)) σ (upd H p (.lst (xs.take (xs.length - n)))) Q
section
variable {X : Cx} {pos : Pos}
theorem pg_star {e : Expr} {es : List Expr} {k : Nat} {t : TGs} {n : Nat} {p : Pos} (hc : X.calm = true) (h : PGs X (e :: es) t) (hn : (assignEach es X.env).length = n)
    (he : (assignEach (e :: es) X.env).map (·.2) = assign e X.env :: (assignEach es X.env).map (·.2)) : PG X (.Tuple (.Starred e p :: es) k pos) (gStar X.K n t) := by
  refine ⟨fun pins s σ H v u Q I r hw => ?_⟩
  obtain ⟨a, xs, rfl, hq, hl, hw⟩ := hw
  cases r
  obtain ⟨its, rv, pl, hz⟩ := I.list hq
  have hlen : xs.length = its.length := rv.length
  have e0 : assignEach (.Starred e p :: es) X.env = (true, assign e X.env) :: assignEach es X.env := rfl
  rw [PyProof.Rows.assign_Tuple]
  refine wpAny_bind (wpAny_standAt ?_)
  unfold unpack
  rw [e0, List.length_cons, hn, List.findIdx?_cons, if_pos rfl]
  refine wpAny_bind (wpAny_holding (items_star (I.ok.hd hc) pl.isList (by rw [List.size_toArray]; omega) (by rw [List.size_toArray]; omega) fun h' tk hk ht => ?_))
  have I1 : Inv X pins σ H { s with heap := h', toks := tk } := I.kept (t' := tk) hk
  have I2 : Inv X pins σ (upd H h'.objs.size (.lst (xs.take (xs.length - n)))) { s with heap := h'.push { cls := .type "list", data := .seq (its.take (its.length - n)).toArray }, toks := tk } := by
    refine I1.laid (t' := tk) (fun b u e => Heap.get?_push_of_some _ e) (Nat.le_refl _) ?_
    refine ⟨Nat.le_trans (List.length_take_le' _ _) hz, its.take (its.length - n), 0, ?_, Heap.get?_push_size _ rfl⟩
    rw [hlen]
    exact rv.take _
  have hp : H h'.objs.size = none := I1.hok.fresh (Nat.le_refl _)
  have rr : Vals (.ref h'.objs.size :: xs.drop (xs.length - n)) (.ref h'.objs.size :: its.drop (its.length - n)) := .cons rfl (by rw [hlen]; exact rv.drop _)
  have g := h.run pins _ σ _ _ _ Q I2 rr (hw _ hp)
  rw [he] at g
  exact g
end
/-! ### xs[lo::c] -/
def pickL {α : Type} (xs : List α) (lo : Option Int) (c : Int) : List α :=
  (sliceRange (sliceBounds lo none (some c) xs.length).1 (sliceBounds lo none (some c) xs.length).2.1 (sliceBounds lo none (some c) xs.length).2.2).filterMap (xs[·]?)
theorem pickL_rel : ∀ (ns : List Nat) {xs : List V} {its : List Value}, Vals xs its → Vals (ns.filterMap (xs[·]?)) (ns.filterMap (its[·]?))
  | [], _, _, _ => .nil
  | n :: ns, xs, its, r => by
    have ih := pickL_rel ns r
    cases e : xs[n]? with
    | none =>
      have e' : its[n]? = none := by
        rw [List.getElem?_eq_none_iff] at e ⊢
        have := r.length
        omega
      simp only [List.filterMap_cons, e, e']
      exact ih
    | some x =>
      obtain ⟨u, e', ru⟩ := r.get e
      simp only [List.filterMap_cons, e, e']
      exact .cons ru ih
def tStp (K : PySem.W.Frag) (c : Int) (te : TE) (tl : TO) : TE := fun σ H Q => te σ H fun x H1 => tl σ H1 fun l H2 => ∃ a xs, x = .ref a ∧ SqL K H2 a xs ∧ ∀ p, H2 p = none → Q (.ref p) (upd H2 p (.lst (pickL xs l c)))
theorem pe_stp {X : Cx} {e : Expr} {lo : Option Expr} {te : TE} {tl : TO} {c : Int} {k : Nat} {p1 p3 pos : Pos} (h0 : c ≠ 0) (he : PE X e te) (hl : PO X lo tl) :
    PE X (.Subscript e (.Slice lo none (some (.Constant (.int c) k p1)) p3) pos) (tStp X.K c te tl) := by
  refine ⟨fun pins s σ H Q I h => ?_⟩
  refine Subscript_ (thn (he.run pins s σ H _ I h) fun v s1 ⟨x, H1, I1, r1, q1⟩ => ?_)
  refine wpAny_Slice (thn (hl.run pins s1 σ H1 _ I1 q1) fun vl s2 ⟨l, H2, I2, pl, q2⟩ => ?_)
  refine thn (po_none.run pins s2 σ H2 (fun o H3 => o = none ∧ H3 = H2) I2 ⟨rfl, rfl⟩) fun vu s3 ⟨u, H3, I3, pu, eu, e3⟩ => ?_
  subst eu e3
  have hst : PO X (some (.Constant (.int c) k p1)) (tPart (tC (.int c))) := po_some pe_int
  refine thn (hst.run pins s3 σ H3 (fun o H4 => o = some c ∧ H4 = H3) I3 ⟨c, rfl, rfl, rfl⟩) fun vs s4 ⟨o, H4, I4, ps, eo, e4⟩ => ?_
  subst eo e4
  obtain ⟨a, xs, rfl, hx, q⟩ := q2
  cases r1
  have I5 : Inv X pins σ H4 { s4 with heap := s4.heap.push { cls := .type "slice", data := .fields #[vl, vu, vs] } } := I4.kept (t' := s4.toks) fun b ob q => Heap.get?_push_of_some _ q
  obtain ⟨its, r, ht, hz⟩ := I5.list hx
  have hlen := r.length
  show wpAny (model X.prog X.w) X.A (subscriptTail e (.Slice lo none (some (.Constant (.int c) k p1)) p3) (.ref a) (.ref s4.heap.objs.size)) (EP X pins σ Q) X.xe _
  refine tail_any (ops := [.ref a, .ref s4.heap.objs.size]) ht.isList.typeIs (PySem.slot_list_getitem.lookup) ?_ (by with_unfolding_all rfl)
  refine wpAny_getItem_list_slice ht.isList (Heap.IsSliceOf.new _ vl vu vs) pl pu ps (by simpa using h0) ?_ (by rw [List.size_toArray]; omega)
  refine ⟨.ref _, _, I5.laid (t' := s4.toks) (o := .lst (pickL xs l c)) (fun b ob q => Heap.get?_push_of_some _ q) (Nat.le_refl _) ?_, rfl, q _ (I5.hok.fresh (Nat.le_refl _))⟩
  have rp : Vals (pickL xs l c) (pickL its l c) := by
    unfold pickL
    rw [hlen]
    exact pickL_rel _ r
  refine ⟨?_, pickL its l c, 0, rp, ?_⟩
  · have := slicePick_size_le its.toArray l none (some c)
    rw [show slicePick its.toArray l none (some c) = (pickL its l c).toArray by simp [slicePick, pickL], List.size_toArray, List.size_toArray] at this
    rw [rp.length]
    omega
  · have e : slicePick its.toArray l none (some c) = (pickL its l c).toArray := by simp [slicePick, pickL]
    rw [e]
    exact Heap.get?_push_size _ rfl
end Mp


set_option Elab.async false
set_option linter.all false
set_option maxRecDepth 100000
/-! zip(a, b, strict=True) -/
namespace Mp
open PySem PySem.Spec PyProof.Rows L2
section
variable {prog : Program} {w : World} {A : Around} {E : Value → Shared → Prop} {s : Shared}
theorem tcall_weight (T : String) (as : List Value) (kw : List (Str × Value)) : (Code.builtin "type.__call__" ⟨.type T :: as, kw⟩).weight = 0 := rfl
theorem tcall_units (T : String) (as : List Value) (kw : List (Str × Value)) : (Code.builtin "type.__call__" ⟨.type T :: as, kw⟩).cUnits = 1 := rfl
theorem oinit_kw {T newId : String} {self : Value} {rest : List Value} {kw : List (Str × Value)} (hl : typeLookup (.type T) "__init__" = pure (some (.builtin "object.__init__")))
    (hm : Bind.madeBy (.type T) = pure (some newId)) (hne : (some newId != some "object.__new__") = true) :
    Meets (Builtin.«object.__init__» ⟨self :: rest, kw⟩) (fun _ R s => s.TypeIs self T ∧ R (.ok (.ret .none)) s) := by
  refine Meets.of_wp fun prog w A R s ⟨hT, hq⟩ => ?_
  cases rest with
  | nil =>
    cases kw with
    | nil => exact wpAny_pure ⟨_, rfl, hq⟩
    | cons k kw =>
      repeat (any_goals (first | assumption | wp_step))
      exact ⟨_, rfl, hq⟩
  | cons a rest =>
    repeat (any_goals (first | assumption | wp_step))
    exact ⟨_, rfl, hq⟩
theorem tcall_kw {T newId : String} {Bn : Builtin} {as : List Value} {kw : List (Str × Value)} {S : PySem.Spec} {Q : Value → Shared → Prop} (ft : TypeCalled T newId "object.__init__")
    (hne : (some newId != some "object.__new__") = true) (hct : checkTypeCall T ⟨as, kw⟩ = pure ()) (hcn : checkBuiltinCall newId ⟨.type T :: as, kw⟩ = pure ())
    (hok : ∀ obj, argsOk "object.__init__" ⟨obj :: as, kw⟩) (eN : entryFor table newId = some Bn) (g : Meets (Bn ⟨.type T :: as, kw⟩) S)
    (h : S A.in1 (wants (fun obj s₁ => s₁.TypeIs obj T ∧ Q obj s₁) E) s) : wpAny (model prog w) A (call (.type T) as kw) Q E s := by
  obtain ⟨c0, tl0, hm0⟩ := ft.mro
  have hm1 := ft.made
  have hs1 := ft.sub
  refine wpAny_call (codeAny_of_tree (show wpAny _ _ (callAny (.type T) _) _ _ _ from ?_))
  refine wpAny_pure ⟨Code.quiet_builtin _ (by decide +kernel), (codeAny_builtin F.entry_type_call ?_)⟩
  rw [Around.under_plain (tcall_weight T as kw) (tcall_units T as kw)]
  have hn1 := ft.notType
  have hn2 := ft.canCreate
  repeat (any_goals (first | assumption | wp_step))
  refine codeAny_mono (codeAny_call_builtin ft.plain eN (wpAny_of_eq hcn (g prog w A.in1 _ s h))) fun r s1 hr => ?_
  cases r with
  | error e => exact hr
  | ok fl =>
    cases fl with
    | ret ob =>
      obtain ⟨hT, hq⟩ := hr
      have hl1 := ft.init.lookup
      have hb1 := ft.init.bind ob
      have gi : Meets (Builtin.«object.__init__» ⟨ob :: as, kw⟩) _ := oinit_kw ft.init.lookup ft.made hne
      repeat (any_goals (first | assumption | wp_step))
      refine codeAny_mono (codeAny_call_builtin ft.init.plain F.entry_object_init (ft.init.check _ _ _ _ _ _ _ _ hT (hok ob) (gi prog w A.in1 (wants (fun r s2 => r = .none ∧ Q ob s2) E) s1 ⟨hT, rfl, hq⟩))) fun r2 s2 hr2 => ?_
      cases r2 with
      | error e => exact hr2
      | ok fl2 =>
        cases fl2 with
        | ret r =>
          obtain ⟨rfl, hq2⟩ := hr2
          repeat (any_goals (first | assumption | wp_step))
        | _ => exact hr2.elim
    | _ => exact hr.elim
end
/-! the zip -/
def kwS : List (Str × Value) := [("strict", .bool true)]
theorem zs_type (a b : Value) : checkTypeCall "zip" ⟨[a, b], kwS⟩ = pure () := by kernel_rfl
theorem zs_new (a b : Value) : checkBuiltinCall "zip.__new__" ⟨[.type "zip", a, b], kwS⟩ = pure () := by kernel_rfl
theorem zs_init (a b c : Value) : argsOk "object.__init__" ⟨[a, b, c], kwS⟩ := by
  unfold argsOk; rw [signature?_of (id := "object.__init__") (n := ['_', '_', 't', 'i', 'n', 'i', '_', '_']) (o := ['t', 'c', 'e', 'j', 'b', 'o']) (by kernel_rfl) F.owner_object]; kernel_rfl
/-- a zip that is strict -/
abbrev ZS (h : Heap) (z ti to : Addr) (f : Value) : Prop :=
  h.get? z = some { cls := .type "zip", dict := none, data := .fields #[f, .bool false, .bool true, .ref ti, .ref to], slots := #[] }
abbrev zk1 (h : Heap) (a : Addr) : Heap := h.push { cls := .type "list_iterator", data := .fields #[.ref a, .int 0 0] }
abbrev zk2 (h : Heap) (a b : Addr) : Heap := (zk1 h a).push { cls := .type "list_iterator", data := .fields #[.ref b, .int 0 0] }
abbrev zk3 (h : Heap) (a b : Addr) : Heap := (zk2 h a b).push { cls := .type "tuple", data := .seq #[.ref h.objs.size, .ref (zk1 h a).objs.size] }
abbrev zk4 (h : Heap) (a b : Addr) : Heap := (zk3 h a b).push { cls := .type "tuple", data := .seq #[.none, .none] }
abbrev zk5 (h : Heap) (a b : Addr) : Heap := (zk4 h a b).push { cls := .type "zip", data := .fields #[.none, .bool false, .bool true, .ref (zk2 h a b).objs.size, .ref (zk3 h a b).objs.size] }
theorem zs_made (a b : Addr) (xs ys : Array Value) :
    Meets (Builtin.«zip.__new__» ⟨[.type "zip", .ref a, .ref b], kwS⟩) (fun _ R s => s.heap.IsList a xs ∧ s.heap.IsList b ys ∧ R (.ok (.ret (.ref (zk4 s.heap a b).objs.size))) { s with heap := zk5 s.heap a b }) :=
  .of_wp fun prog w A R s h => by
    obtain ⟨hp, g, d, tk, os⟩ := s; obtain ⟨ha, hb, h⟩ := h
    have hsub := sub_zip
    have LA : Heap.IsList (Shared.heap ⟨hp, g, d, tk, os⟩) a xs := ha
    have LB : Heap.IsList (Shared.heap ⟨hp.push { cls := .type "list_iterator", data := .fields #[.ref a, .int 0 0] }, g, d, tk, os⟩) b ys := Heap.IsList.push hb _
    unfold kwS
    wp_walk using wpAny_pyIter_list LA, wpAny_pyIter_list LB
    exact ⟨_, rfl, h⟩
section
variable {prog : Program} {w : World} {A : Around} {E : Value → Shared → Prop} {s : Shared}
theorem zs_call {a b : Addr} {xs ys : Array Value} {Q : Value → Shared → Prop} (ha : s.heap.IsList a xs) (hb : s.heap.IsList b ys)
    (h : ∀ h', ZS h' (s.heap.objs.size + 4) (s.heap.objs.size + 2) (s.heap.objs.size + 3) .none → IsPair h' (s.heap.objs.size + 2) (.ref s.heap.objs.size) (.ref (s.heap.objs.size + 1)) → IsPair h' (s.heap.objs.size + 3) .none .none →
      h'.IsListIter s.heap.objs.size a 0 → h'.IsListIter (s.heap.objs.size + 1) b 0 → (∀ c o, s.heap.get? c = some o → h'.get? c = some o) → Q (.ref (s.heap.objs.size + 4)) { s with heap := h' }) :
    wpAny (model prog w) A (call (.type "zip") [.ref a, .ref b] kwS) Q E s := by
  refine tcall_kw F.called_zip (by decide) (zs_type _ _) (zs_new _ _) (fun ob => zs_init ob _ _) F.entry_zip_new (zs_made a b xs ys) ⟨ha, hb, ?_⟩
  have y1 : (zk1 s.heap a).objs.size = s.heap.objs.size + 1 := Heap.size_push ..
  have y2 : (zk2 s.heap a b).objs.size = s.heap.objs.size + 2 := by rw [Heap.size_push, y1]
  have y3 : (zk3 s.heap a b).objs.size = s.heap.objs.size + 3 := by rw [Heap.size_push, y2]
  have y4 : (zk4 s.heap a b).objs.size = s.heap.objs.size + 4 := by rw [Heap.size_push, y3]
  have p5 : (zk5 s.heap a b).get? (zk4 s.heap a b).objs.size = some _ := Heap.get?_push_size _ rfl
  have p4 : (zk5 s.heap a b).get? (zk3 s.heap a b).objs.size = some _ := Heap.get?_push_of_some _ (Heap.get?_push_size _ rfl)
  have p3 : (zk5 s.heap a b).get? (zk2 s.heap a b).objs.size = some _ := Heap.get?_push_of_some _ (Heap.get?_push_of_some _ (Heap.get?_push_size _ rfl))
  have p2 : (zk5 s.heap a b).get? (zk1 s.heap a).objs.size = some _ := Heap.get?_push_of_some _ (Heap.get?_push_of_some _ (Heap.get?_push_of_some _ (Heap.get?_push_size _ rfl)))
  have p1 : (zk5 s.heap a b).get? s.heap.objs.size = some _ := Heap.get?_push_of_some _ (Heap.get?_push_of_some _ (Heap.get?_push_of_some _ (Heap.get?_push_of_some _ (Heap.get?_push_size _ rfl))))
  show _ ∧ _
  rw [y2, y3, y4] at p5
  rw [y1, y2] at p3
  rw [y3] at p4
  rw [y1] at p2
  rw [y4]
  exact ⟨⟨_, p5, rfl⟩, h _ p5 p3 p4 ⟨_, p1, rfl, rfl⟩ ⟨_, p2, rfl, rfl⟩ fun c o x =>
    Heap.get?_push_of_some _ (Heap.get?_push_of_some _ (Heap.get?_push_of_some _ (Heap.get?_push_of_some _ (Heap.get?_push_of_some _ x))))⟩
open Builtin.SmallTypes in
theorem draw_item {it l : Addr} {i : Nat} {its : Array Value} {x : Value} {Q : Option Value → Shared → Prop} (hit : s.heap.IsListIter it l i) (hl : s.heap.IsList l its) (hx : its[i]? = some x)
    (h : ∀ h', h'.IsListIter it l (i + 1) → Heap.SameBut it s.heap h' → Q (some x) { s with heap := h' }) : wpAny (model prog w) A (nextOrEnd (.ref it)) Q E s := by
  unfold nextOrEnd
  exact wpAny_bind (wpAny_attempt (wpAny_nextOf_list_item hit hl hx fun h' a b => wpAny_pure (h h' a b)))
open Builtin.SmallTypes in
theorem draw_end {it l : Addr} {i : Nat} {its : Array Value} {Q : Option Value → Shared → Prop} (hh : A.handled = none) (hit : s.heap.IsListIter it l i) (hl : s.heap.IsList l its) (hx : its[i]? = none)
    (h : ∀ h', Heap.ExtBut it s.heap h' → Q none { s with heap := h' }) : wpAny (model prog w) A (nextOrEnd (.ref it)) Q E s := by
  unfold nextOrEnd
  refine wpAny_bind (wpAny_attempt (wpAny_nextOf_list_end hh hit hl hx fun h' e hs he => ?_))
  obtain ⟨o, ho, hc⟩ := he
  exact wpAny_bind (wpAny_isInstance (T := "StopIteration") (b := true) ⟨o, ho, hc⟩ isSubtype_stop (wpAny_pure (h h' hs)))
end
end Mp


set_option Elab.async false
set_option linter.all false
set_option maxRecDepth 100000
/-! zip(a, b, strict=True): the next pair -/
namespace Mp
open PySem PySem.Spec PyProof.Rows L2
section
variable {prog : Program} {w : World} {A : Around} {E : Value → Shared → Prop} {s : Shared}
open Builtin.SmallTypes in
theorem stop_ {α : Type} {Q : α → Shared → Prop} (hh : A.handled = none) (hE : ∀ h' e, (∀ c o, s.heap.get? c = some o → h'.get? c = some o) → (∃ o, h'.get? e = some o ∧ o.cls = .type "StopIteration") → E (.ref e) { s with heap := h' }) :
    wpAny (model prog w) A (stopIteration : Sem α) Q E s := by
  unfold stopIteration
  refine wpAny_bind ?_
  simp only [newExc, newTuple]
  refine wpAny_bind (wpAny_newObj_type ?_ (by size_fits))
  refine wpAny_bind (m := firstArgMember _ _) (wpAny_of_eq (a := Value.none) (by first | rfl | (simp only [firstArgMember]; rfl)) (wpAny_newObj_type ?_ (by size_fits)))
  simp only [raiseNew]
  refine wpAny_bind (wpAny_handled ?_)
  rw [hh]
  exact wpAny_bind (wpAny_pure (wpAny_throw (hE _ _ (fun c o e => Heap.get?_push_of_some _ (Heap.get?_push_of_some _ e)) ⟨_, Heap.get?_push_size _ rfl, rfl⟩)))
open Builtin.SmallTypes in
theorem zs_item {z ti to i1 i2 l1 l2 : Addr} {k1 k2 : Nat} {xs ys : Array Value} {x y a b : Value} {Q : Value → Shared → Prop} (D : ZipApart z ti to i1 i2 l1 l2)
    (hz : ZS s.heap z ti to .none) (hT : IsPair s.heap ti (.ref i1) (.ref i2)) (hO : IsPair s.heap to a b) (j1 : s.heap.IsListIter i1 l1 k1) (j2 : s.heap.IsListIter i2 l2 k2)
    (m1 : s.heap.IsList l1 xs) (m2 : s.heap.IsList l2 ys) (hx : xs[k1]? = some x) (hy : ys[k2]? = some y)
    (hQ : ∀ h', ZS h' z ti to (rawInt s.heap.objs.size) → IsPair h' to x y → h'.IsListIter i1 l1 (k1 + 1) → h'.IsListIter i2 l2 (k2 + 1) → IsPair h' s.heap.objs.size x y → h'.objs.size = s.heap.objs.size + 1 →
      (∀ c o, c ≠ z → c ≠ to → c ≠ i1 → c ≠ i2 → s.heap.get? c = some o → h'.get? c = some o) → Q (.ref s.heap.objs.size) { s with heap := h' }) :
    wpAny (model prog w) A (Builtin.«zip.__next__» ⟨[.ref z], []⟩) (fun fin s' => ∃ v, fin = .done (.ret v) ∧ Q v s') E s := by
  show wpAny _ _ (field (.ref z) 2 >>= _) _ _ _
  refine wpAny_bind (wpAny_field hz rfl (x := .bool true) rfl (show wpAny _ _ (field (.ref z) 3 >>= _) _ _ _ from wpAny_bind (wpAny_field hz rfl (x := .ref ti) rfl (wpAny_bind (wpAny_seqItems hT rfl ?_)))))
  show wpAny _ _ (ownedTupleIsFree (.ref z) >>= _) _ _ _
  unfold ownedTupleIsFree
  refine wpAny_bind (wpAny_bind (wpAny_field hz rfl (x := .none) rfl (wpAny_pure ?_)))
  simp only [if_true]
  refine wpAny_bind (wpAny_rule (wpAny_bind (wpAny_field hz rfl (x := .ref to) rfl (wpAny_bind (wpAny_setField_rec hz (by simp) fun ha za sa => ?_)))))
  replace za : ZS ha z ti to .ellipsis := za
  simp only [List.zipIdx_cons, List.zipIdx_nil, List.forIn_cons, List.forIn_nil]
  refine wpAny_bind (wpAny_bind (wpAny_bind (wpAny_onRaise (show wpAny _ _ (nextOrEnd (.ref i1)) _ _ _ from draw_item (j1.extBut sa.extBut D.i1z) (m1.extBut sa.extBut D.l1z) hx fun hb jb sb => ?_))))
  have ob : IsPair hb to a b := sb.extBut _ _ D.TOi1 (sa.extBut _ _ D.TOz hO)
  refine wpAny_bind (wpAny_seqItems ob rfl (wpAny_bind (wpAny_updateSeq_pair ob fun hc oc sc => wpAny_bind (wpAny_letGo (wpAny_pure ?_)))))
  replace oc : IsPair hc to x b := oc
  refine wpAny_bind (wpAny_bind (wpAny_onRaise (show wpAny _ _ (nextOrEnd (.ref i2)) _ _ _ from draw_item (((j2.extBut sa.extBut D.i2z).extBut sb.extBut D.i12.symm).extBut sc.extBut D.TOi2.symm)
    (((m2.extBut sa.extBut D.l2z).extBut sb.extBut D.l2i1).extBut sc.extBut D.l2TO) hy fun hd jd sd => ?_)))
  have od : IsPair hd to x b := sd.extBut _ _ D.TOi2 oc
  refine wpAny_bind (wpAny_seqItems od rfl (wpAny_bind (wpAny_updateSeq_pair od fun he oe se => wpAny_bind (wpAny_letGo (wpAny_pure (wpAny_pure ?_))))))
  replace oe : IsPair he to x y := oe
  refine wpAny_bind (wpAny_seqItems oe rfl (wpAny_bind (wpAny_newTuple ?_)))
  have sz : he.objs.size = s.heap.objs.size := by rw [se.1, sd.1, sc.1, sb.1, sa.1]
  have ze : ZS he z ti to .ellipsis := se.extBut _ _ D.TOz.symm (sd.extBut _ _ D.i2z.symm (sc.extBut _ _ D.TOz.symm (sb.extBut _ _ D.i1z.symm za)))
  have ke : ∀ c o, c ≠ z → c ≠ to → c ≠ i1 → c ≠ i2 → s.heap.get? c = some o → he.get? c = some o := fun c o c1 c2 c3 c4 e =>
    se.extBut _ _ c2 (sd.extBut _ _ c4 (sc.extBut _ _ c2 (sb.extBut _ _ c3 (sa.extBut _ _ c1 e))))
  have j1e : he.IsListIter i1 l1 (k1 + 1) := ((jb.extBut sc.extBut D.TOi1.symm).extBut sd.extBut D.i12).extBut se.extBut D.TOi1.symm
  have j2e : he.IsListIter i2 l2 (k2 + 1) := jd.extBut se.extBut D.TOi2.symm
  have zl : z < he.objs.size := Heap.lt_size ze
  show wpAny _ _ (ownedTupleHandOut (.ref z) (.ref he.objs.size) >>= _) _ _ _
  unfold ownedTupleHandOut
  have zf : ZS (he.push { cls := .type "tuple", data := .seq #[x, y] }) z ti to .ellipsis := Heap.get?_push_of_some _ ze
  refine wpAny_bind (wpAny_bind (wpAny_setField_rec zf (by simp) fun hg zg sg => ?_))
  replace zg : ZS hg z ti to (rawInt he.objs.size) := zg
  refine wpAny_setField_rec zg (by simp) fun hi zi si => ?_
  replace zi : ZS hi z ti to (rawInt he.objs.size) := zi
  have up : ∀ c o, c ≠ z → he.get? c = some o → hi.get? c = some o := fun c o c1 e => si.extBut _ _ c1 (sg.extBut _ _ c1 (Heap.get?_push_of_some _ e))
  have pn : IsPair hi he.objs.size x y := si.extBut _ _ (Nat.ne_of_gt zl) (sg.extBut _ _ (Nat.ne_of_gt zl) (Heap.get?_push_size _ rfl))
  have zz : hi.objs.size = he.objs.size + 1 := by rw [si.1, sg.1, Heap.size_push]
  rw [sz] at zi pn zz
  refine wpAny_pure ⟨_, rfl, (show Q (.ref he.objs.size) _ from ?_)⟩
  rw [sz]
  exact hQ hi zi (up _ _ D.TOz oe) (j1e.at fun o e => up _ o D.i1z e) (j2e.at fun o e => up _ o D.i2z e) pn zz fun c o c1 c2 c3 c4 e => up c o c1 (ke c o c1 c2 c3 c4 e)
open Builtin.SmallTypes in
/-- both have ended -/
theorem zs_end {z ti to i1 i2 l1 l2 : Addr} {k1 k2 : Nat} {xs ys : Array Value} {a b : Value} {Q : Fin → Shared → Prop} (hh : A.handled = none) (D : ZipApart z ti to i1 i2 l1 l2)
    (hz : ZS s.heap z ti to .none) (hT : IsPair s.heap ti (.ref i1) (.ref i2)) (hO : IsPair s.heap to a b) (j1 : s.heap.IsListIter i1 l1 k1) (j2 : s.heap.IsListIter i2 l2 k2)
    (m1 : s.heap.IsList l1 xs) (m2 : s.heap.IsList l2 ys) (hx : xs[k1]? = none) (hy : ys[k2]? = none)
    (hE : ∀ h' e, (∀ c o, c ≠ z → c ≠ to → c ≠ i1 → c ≠ i2 → s.heap.get? c = some o → h'.get? c = some o) → (∃ o, h'.get? e = some o ∧ o.cls = .type "StopIteration") → E (.ref e) { s with heap := h' }) :
    wpAny (model prog w) A (Builtin.«zip.__next__» ⟨[.ref z], []⟩) Q E s := by
  show wpAny _ _ (field (.ref z) 2 >>= _) _ _ _
  refine wpAny_bind (wpAny_field hz rfl (x := .bool true) rfl (show wpAny _ _ (field (.ref z) 3 >>= _) _ _ _ from wpAny_bind (wpAny_field hz rfl (x := .ref ti) rfl (wpAny_bind (wpAny_seqItems hT rfl ?_)))))
  show wpAny _ _ (ownedTupleIsFree (.ref z) >>= _) _ _ _
  unfold ownedTupleIsFree
  refine wpAny_bind (wpAny_bind (wpAny_field hz rfl (x := .none) rfl (wpAny_pure ?_)))
  simp only [if_true]
  refine wpAny_bind (wpAny_rule (wpAny_bind (wpAny_field hz rfl (x := .ref to) rfl (wpAny_bind (wpAny_setField_rec hz (by simp) fun ha za sa => ?_)))))
  replace za : ZS ha z ti to .ellipsis := za
  simp only [List.zipIdx_cons, List.zipIdx_nil, List.forIn_cons, List.forIn_nil]
  refine wpAny_bind (wpAny_bind (wpAny_bind (wpAny_onRaise (show wpAny _ _ (nextOrEnd (.ref i1)) _ _ _ from draw_end hh (j1.extBut sa.extBut D.i1z) (m1.extBut sa.extBut D.l1z) hx fun hb sb => ?_))))
  have zb : ZS hb z ti to .ellipsis := sb _ _ D.i1z.symm za
  refine wpAny_bind (wpAny_setField_rec zb (by simp) fun hc zc sc => ?_)
  refine wpAny_bind ?_
  show wpAny _ _ (forIn [(Value.ref i2, 1)] PUnit.unit _ >>= _) _ _ _
  simp only [List.forIn_cons, List.forIn_nil]
  have e2 : hc.IsListIter i2 l2 k2 := (((j2.extBut sa.extBut D.i2z).at fun o e => sb _ o D.i12.symm e)).extBut sc.extBut D.i2z
  have f2 : hc.IsList l2 ys := (((m2.extBut sa.extBut D.l2z).at fun o e => sb _ o D.l2i1 e)).extBut sc.extBut D.l2z
  refine wpAny_bind (wpAny_bind (wpAny_bind (draw_end hh e2 f2 hy fun hd sd => ?_)))
  rw [if_neg (by simp)]
  refine wpAny_pure (wpAny_pure (wpAny_bind (wpAny_rule (stop_ hh fun he e k x => ?_))))
  exact hE he e (fun c o c1 _ c3 c4 q => k c o (sd c o c4 (sc.extBut _ _ c1 (sb c o c3 (sa.extBut _ _ c1 q))))) x
end
end Mp


set_option Elab.async false
set_option linter.all false
set_option maxRecDepth 100000
/-! for … in zip(a, b, strict=True) -/
namespace Mp
open PySem PySem.Spec PyProof.Rows L2
section
variable {prog : Program} {w : World} {A : Around} {E : Value → Shared → Prop} {s : Shared}
theorem zs_ty {z ti to : Addr} {f : Value} (hz : ZS s.heap z ti to f) : s.TypeIs (.ref z) "zip" := ⟨_, hz, rfl⟩
theorem zs_nextI {z ti to i1 i2 l1 l2 : Addr} {k1 k2 : Nat} {xs ys : Array Value} {x y a b : Value} {Q : Option Value → Shared → Prop} (D : ZipApart z ti to i1 i2 l1 l2)
    (hz : ZS s.heap z ti to .none) (hT : IsPair s.heap ti (.ref i1) (.ref i2)) (hO : IsPair s.heap to a b) (j1 : s.heap.IsListIter i1 l1 k1) (j2 : s.heap.IsListIter i2 l2 k2)
    (m1 : s.heap.IsList l1 xs) (m2 : s.heap.IsList l2 ys) (hx : xs[k1]? = some x) (hy : ys[k2]? = some y)
    (hQ : ∀ h', ZS h' z ti to (rawInt s.heap.objs.size) → IsPair h' to x y → h'.IsListIter i1 l1 (k1 + 1) → h'.IsListIter i2 l2 (k2 + 1) → IsPair h' s.heap.objs.size x y → h'.objs.size = s.heap.objs.size + 1 →
      (∀ c o, c ≠ z → c ≠ to → c ≠ i1 → c ≠ i2 → s.heap.get? c = some o → h'.get? c = some o) → Q (some (.ref s.heap.objs.size)) { s with heap := h' }) :
    wpAny (model prog w) A (pyNext (.ref z)) Q E s := by
  unfold pyNext
  exact wpAny_bind (wpAny_attempt (wpAny_callSpecial?_slot (name := Str.ofString "__next__") (zs_ty hz) F.slot_zip_next (wpAny_call_entry F.slot_zip_next (zs_ty hz) F.entry_zip_next
    (zs_item D hz hT hO j1 j2 m1 m2 hx hy fun h' a1 a2 a3 a4 a5 a6 a7 => wpAny_pure (hQ h' a1 a2 a3 a4 a5 a6 a7)) (F.args_zip_next_1 _))))
theorem zs_nextE {z ti to i1 i2 l1 l2 : Addr} {k1 k2 : Nat} {xs ys : Array Value} {a b : Value} {Q : Option Value → Shared → Prop} (hh : A.handled = none) (D : ZipApart z ti to i1 i2 l1 l2)
    (hz : ZS s.heap z ti to .none) (hT : IsPair s.heap ti (.ref i1) (.ref i2)) (hO : IsPair s.heap to a b) (j1 : s.heap.IsListIter i1 l1 k1) (j2 : s.heap.IsListIter i2 l2 k2)
    (m1 : s.heap.IsList l1 xs) (m2 : s.heap.IsList l2 ys) (hx : xs[k1]? = none) (hy : ys[k2]? = none)
    (hQ : ∀ h', (∀ c o, c ≠ z → c ≠ to → c ≠ i1 → c ≠ i2 → s.heap.get? c = some o → h'.get? c = some o) → Q none { s with heap := h' }) : wpAny (model prog w) A (pyNext (.ref z)) Q E s := by
  unfold pyNext
  refine wpAny_bind (wpAny_attempt (wpAny_callSpecial?_slot (name := Str.ofString "__next__") (zs_ty hz) F.slot_zip_next (wpAny_call_entry F.slot_zip_next (zs_ty hz) F.entry_zip_next
    (zs_end hh D hz hT hO j1 j2 m1 m2 hx hy fun h' e hk he => ?_) (F.args_zip_next_1 _))))
  obtain ⟨o, ho, hc⟩ := he
  exact wpAny_bind (wpAny_isInstance (T := "StopIteration") (b := true) ⟨o, ho, hc⟩ isSubtype_stop (wpAny_pure (hQ _ hk)))
theorem zs_go {elts : List Expr} {k} {pos : Pos} {z ti to t : Addr} {Q : Unit → Shared → Prop} (hz : ZS s.heap z ti to (rawInt t)) (hQ : ∀ h', ZS h' z ti to .none → Heap.SameBut z s.heap h' → Q () { s with heap := h' }) :
    wpAny (model prog w) A (letOwnedTupleGo (.Tuple elts k pos) (.ref z) (.ref t)) Q E s := by
  unfold letOwnedTupleGo
  refine wpAny_bind (wpAny_load hz (show wpAny _ _ (if (["enumerate", "zip", "dict_itemiterator", "dict_reverseitemiterator", "odict_iterator", "itertools.zip_longest", "itertools.pairwise"].contains "zip" &&
      (#[rawInt t, .bool false, .bool true, .ref ti, .ref to] : Array Value)[0]? == some (rawInt t)) = true then _ else _) Q E s from ?_))
  rw [if_pos (by simp)]
  exact wpAny_bind (wpAny_rule (show wpAny _ _ (setField (.ref z) 0 .none) Q E s from wpAny_setField_rec hz (by simp) fun h' hz' hs' => hQ h' hz' hs'))
theorem zs_iter {z ti to : Addr} {f : Value} {Q : Value → Shared → Prop} (hz : ZS s.heap z ti to f) (h : Q (.ref z) s) : wpAny (model prog w) A (pyIter (.ref z)) Q E s := by
  refine wpAny_pyIter_slot (zs_ty hz) F.slot_zip_iter (wpAny_call_entry F.slot_zip_iter (zs_ty hz) F.entry_zip_iter (show wpAny _ _ (ret (.ref z)) _ _ s from ?_) (F.args_zip_iter_1 _))
  exact wpAny_pure ⟨_, rfl, "zip", _, zs_ty hz, F.slot_zip_next.lookup, h⟩
end
def ItS (K : PySem.W.Frag) (a b : Addr) : It :=
  ⟨(Itz K a b).go, (Itz K a b).yld, fun i H => ∃ xs ys : List V, SqL K H a xs ∧ SqL K H b ys ∧ xs.length ≤ i ∧ ys.length ≤ i⟩
theorem turn_zs {P : Program} {w : World} {K : PySem.W.Frag} {elts : List Expr} {kk : Nat} {tpos : Pos} {a b z ti to i1 i2 : Addr} (D : ZipApart z ti to i1 i2 a b) :
    Turn P w K (.Tuple elts kk tpos) (ItS K a b) [z, ti, to, i1, i2] z (fun i h => ZS h z ti to .none ∧ IsPair h ti (.ref i1) (.ref i2) ∧ (∃ x y, IsPair h to x y) ∧ h.IsListIter i1 a i ∧ h.IsListIter i2 b i) where
  mem := by simp
  obj := fun i h st c hc => by
    obtain ⟨hz, hT, ⟨x, y, hO⟩, ⟨o1, e1, _, d1⟩, ⟨o2, e2, _, d2⟩⟩ := st
    have e' : c = z ∨ c = ti ∨ c = to ∨ c = i1 ∨ c = i2 := by simpa using hc
    rcases e' with rfl | rfl | rfl | rfl | rfl
    · exact ⟨_, hz, fun v q => nomatch q⟩
    · exact ⟨_, hT, fun v q => nomatch q⟩
    · exact ⟨_, hO, fun v q => nomatch q⟩
    · exact ⟨o1, e1, fun v q => by rw [d1] at q; cases q⟩
    · exact ⟨o2, e2, fun v q => by rw [d2] at q; cases q⟩
  keep := fun i h h' st k => by
    obtain ⟨hz, hT, ⟨x, y, hO⟩, h1, h2⟩ := st
    exact ⟨k z (by simp) _ hz, k ti (by simp) _ hT, ⟨x, y, k to (by simp) _ hO⟩, h1.at fun o q => k i1 (by simp) o q, h2.at fun o q => k i2 (by simp) o q⟩
  item := by
    intro X hP hw hK hc i pins s σ H E I hf st hg
    subst hP hw hK
    obtain ⟨hz, hT, ⟨x0, y0, hO⟩, h1, h2⟩ := st
    obtain ⟨xs, ys, x, y, hqx, hqy, hx, hy⟩ := hg
    obtain ⟨its, rv, p, _⟩ := I.list hqx
    obtain ⟨its2, rv2, p2, _⟩ := I.list hqy
    obtain ⟨u, hu, ru⟩ := rv.get hx
    obtain ⟨u2, hu2, ru2⟩ := rv2.get hy
    have zl : z < s.heap.objs.size := Heap.lt_size hz
    refine zs_nextI D hz hT hO h1 h2 p.isList p2.isList (x := u) (y := u2) (by simpa using hu) (by simpa using hu2) fun h' z' to' h1' h2' hN hsz hk => ⟨_, rfl, zs_go (s := { s with heap := h' }) z' fun h'' z'' sb => ?_⟩
    have hN2 : h''.get? s.heap.objs.size = some { cls := .type "tuple", data := .seq #[u, u2] } := (sb.2 _ (Nat.ne_of_gt zl)).trans hN
    have new : ObjOk X.prog X.w (upd H s.heap.objs.size (.tup [x, y])) h'' s.heap.objs.size (.tup [x, y]) := ⟨by show 2 ≤ sizeLine; decide, [u, u2], .cons ru (.cons ru2 .nil), ⟨_, hN2, rfl, _, rfl⟩⟩
    have I1 : Inv X pins σ (upd H s.heap.objs.size (.tup [x, y])) { s with heap := h'' } :=
      I.turnedNew (t' := s.toks) (ch := [z, ti, to, i1, i2]) (fun c o hb q => (sb.2 c (fun q' => hb (by simp [q']))).trans (hk c o (fun q' => hb (by simp [q'])) (fun q' => hb (by simp [q'])) (fun q' => hb (by simp [q'])) (fun q' => hb (by simp [q'])) q)) hf (Nat.le_refl _) new
    refine ⟨.ref s.heap.objs.size, _, I1, rfl, ⟨_, x, y, rfl, I.hok.fresh (Nat.le_refl _), rfl, fun l hl => by rw [I.list_inj hl hqx]; exact hx, fun l hl => by rw [I.list_inj hl hqy]; exact hy⟩, ⟨z'', ?_, ⟨u, u2, ?_⟩, ?_, ?_⟩, fun c hcm => ?_⟩
    · exact (sb.2 _ D.TIz).trans (hk _ _ D.TIz D.TITO D.TIi1 D.TIi2 hT)
    · exact (sb.2 _ D.TOz).trans to'
    · exact h1'.at fun o q => (sb.2 _ D.i1z).trans q
    · exact h2'.at fun o q => (sb.2 _ D.i2z).trans q
    · have lt : c < s.heap.objs.size := by
        have e' : c = z ∨ c = ti ∨ c = to ∨ c = i1 ∨ c = i2 := by simpa using hcm
        rcases e' with rfl | rfl | rfl | rfl | rfl
        · exact zl
        · exact Heap.lt_size hT
        · exact Heap.lt_size hO
        · obtain ⟨_, e1, _⟩ := h1; exact Heap.lt_size e1
        · obtain ⟨_, e2, _⟩ := h2; exact Heap.lt_size e2
      rw [upd_ne (Nat.ne_of_lt lt)]
      exact (hf c hcm).1
  done := by
    intro X hP hw hK hc i pins s σ H E I hf st hg
    subst hP hw hK
    obtain ⟨hz, hT, ⟨x0, y0, hO⟩, h1, h2⟩ := st
    obtain ⟨xs, ys, hqx, hqy, n1, n2⟩ := hg
    obtain ⟨its, rv, p, _⟩ := I.list hqx
    obtain ⟨its2, rv2, p2, _⟩ := I.list hqy
    have l1 := rv.length
    have l2 := rv2.length
    refine zs_nextE (I.ok.hd hc) D hz hT hO h1 h2 p.isList p2.isList (by simp; omega) (by simp; omega) fun h' hk => ⟨rfl, I.turnedL (t' := s.toks) (ch := [z, ti, to, i1, i2]) (fun c o hb q => ?_) hf⟩
    exact hk c o (fun q' => hb (by simp [q'])) (fun q' => hb (by simp [q'])) (fun q' => hb (by simp [q'])) (fun q' => hb (by simp [q'])) q
  self := fun A i s Q E st h => zs_iter st.1 h
theorem type_kw {M : Model} {A : Around} {E : Value → Shared → Prop} {s : Shared} {pos : Pos} {T : String} {first : List Value} {args : List (Bool × Sem Value)} {kws : List (Option Str × Sem Value)} {Q : Value → Shared → Prop}
    (hp : args.any (·.1) = false) (hk : kws.any (·.1.isNone) = false) (h : wpAny M A (evalArgs (.type T) true args kws) (fun a s1 => wpAny M A (call (.type T) (first ++ a.pos) a.kw) Q E s1) E s) :
    wpAny M A (callWith pos (.type T) first args kws) Q E s := by
  unfold callWith
  refine wpAny_bind (wpAny_holding (wpAny_mono h (fun a s1 h1 => wpAny_bind (wpAny_standAt ?_)) fun _ _ x => x))
  simp only [hp, hk, Bool.or_false]
  refine wpAny_bind (wpAny_pure ?_)
  exact wpAny_bind (wpAny_mono h1 (fun r s2 hr => wpAny_bind (wpAny_holding (wpAny_point (wpAny_pure hr)))) fun _ _ x => x)
def iZS (K : PySem.W.Frag) (ta : TA) : TI := fun σ H R => ta σ H fun vs H1 => ∃ a b xs ys, vs = [.ref a, .ref b] ∧ SqL K H1 a xs ∧ SqL K H1 b ys ∧ R (ItS K a b) H1
theorem pi_zs {X : Cx} {e e2 : Expr} {ta : TA} {p pos tpos p3 kp : Pos} {elts : List Expr} {kk k3 : Nat} (hg : Gl X "zip") (hm : X.mg "zip" = none) (ha : PA X [e, e2] ta)
    (he : starEach [e, e2] X.env = (false, eval e X.env) :: starEach [e2] X.env) (he2 : starEach [e2] X.env = [(false, eval e2 X.env)]) :
    PI X (.Tuple elts kk tpos) (.Call (.Name "zip" p) [e, e2] [⟨some "strict", .Constant (.bool true) k3 p3, kp⟩] pos) (iZS X.K ta) := by
  refine ⟨fun pins s σ H R I h => ?_⟩
  refine wpAny_Call_Name_kw (ld_blt I hg hm PyProof.Rows.boot_zip ?_)
  have hb : backTo pos (starEach [e, e2] X.env) = (false, eval e X.env) :: backTo pos (starEach [e2] X.env) := by
    rw [he]
    rfl
  refine type_kw (by rw [he, he2]; rfl) rfl ?_
  rw [hb]
  refine PyProof.Rows.evalArgs_kwB rfl ?_
  rw [← hb]
  refine thn (ha.run pos pins s σ H _ I h) fun us s1 ⟨vs, H1, I1, r1, q1⟩ => ?_
  refine thn ((pk_cons (nm := some "strict") (kpos := kp) pe_bl pk_nil).run pos pins s1 σ H1 (fun zs H2 => zs = [.bl true] ∧ H2 = H1) I1 ⟨rfl, rfl⟩) fun ws s2 ⟨zs, H2, I2, r2, ez, e2⟩ => ?_
  subst ez e2
  cases r2 with
  | cons r2 rr2 =>
    cases rr2
    cases r2
    obtain ⟨a, b, xs, ys, rfl, hqx, hqy, q⟩ := q1
    cases r1 with
    | cons r rr =>
      cases rr with
      | cons r' rr =>
        cases rr
        cases r
        cases r'
        obtain ⟨its, rv, p1, _⟩ := I2.list hqx
        obtain ⟨its2, rv2, p2, _⟩ := I2.list hqy
        have la : a < s2.heap.objs.size := p1.lt
        have lb : b < s2.heap.objs.size := p2.lt
        refine zs_call p1.isList p2.isList fun h' hz hT hO h1 h2 hk => zs_iter hz ?_
        have I3 : Inv X pins σ H2 { s2 with heap := h' } := I2.kept (t' := s2.toks) hk
        refine ⟨s2.heap.objs.size + 4, [s2.heap.objs.size + 4, s2.heap.objs.size + 2, s2.heap.objs.size + 3, s2.heap.objs.size, s2.heap.objs.size + 1], _, _, H2, rfl, I3, turn_zs (PySem.W.ktu_apart s2.heap.objs.size a b la lb), ⟨hz, hT, ⟨_, _, hO⟩, h1, h2⟩, fun c hcm => ?_, q⟩
        have e' : c = s2.heap.objs.size + 4 ∨ c = s2.heap.objs.size + 2 ∨ c = s2.heap.objs.size + 3 ∨ c = s2.heap.objs.size ∨ c = s2.heap.objs.size + 1 := by simpa using hcm
        have hle : s2.heap.objs.size ≤ c := by rcases e' with z | z | z | z | z <;> rw [z] <;> first | exact Nat.le_add_right _ _ | exact Nat.le_refl _
        exact I2.fpOk hle (I2.hok.fresh hle)
end Mp


set_option Elab.async false
set_option linter.all false
set_option maxRecDepth 100000
/-! A starred target at any place: of a tuple. -/
namespace Mp
open PySem PySem.Spec PyProof.Rows L2
section
variable {prog : Program} {w : World} {A : Around} {E : Value → Shared → Prop} {s : Shared}
theorem tup_star {a : Addr} {ys : Array Value} {m j : Nat} {Q : List Value → Shared → Prop} (q : A.handled = none) (it : PyProof.Rows.IsTup s.heap a ys) (jm : j < m) (my : m ≤ ys.size + 1) (yz : ys.size ≤ sizeLine)
    (go : ∀ (g : Heap) (c : Nat), (∀ b o, s.heap.get? b = some o → g.get? b = some o) →
      Q (ys.toList.take j ++ [.ref g.objs.size] ++ (ys.toList.drop j).drop (ys.size + 1 - m)) { s with heap := g.push { cls := .type "list", data := .seq ((ys.toList.drop j).take (ys.size + 1 - m)).toArray }, toks := c }) :
    wpAny (model prog w) A (unpackItems (.ref a) m (some j)) Q E s := by
  have lt : a < s.heap.objs.size := by
    obtain ⟨o, e, _⟩ := it
    exact Heap.lt_size e
  have ne : a ≠ s.heap.objs.size := Nat.ne_of_lt lt
  have ld : (ys.toList.drop j).length = ys.size - j := by simp
  have lt' : (ys.toList.take j).length = j := by simp; omega
  have lm : (ys.toList.drop j).length - (m - 1 - j) = ys.size + 1 - m := by omega
  unfold unpackItems notIterableAtAll
  refine wpAny_bind (wpAny_bind (wpAny_specialOf it.typeIs slot_tuple_iter.lookup (wpAny_pure ?_)))
  rw [if_neg Bool.false_ne_true]
  refine wpAny_bind (wpAny_holding (PyProof.Rows.iter_tuple it ?_))
  refine wpAny_bind (wpAny_holding (PyProof.Rows.draw_tuple ne j 0 _ _ ⟨_, Heap.get?_push_size _ rfl, rfl, rfl⟩ (it.push _) (by omega) fun g1 t1 s1 => ?_))
  have it1 : PyProof.Rows.IsTup g1 a ys := (it.push _).extBut s1.extBut ne
  rw [List.drop_zero, if_neg (by rw [lt']; exact Nat.lt_irrefl _)]
  rw [Nat.zero_add] at t1
  have b1 : s.heap.objs.size < g1.objs.size := by
    obtain ⟨o, e, _⟩ := t1
    exact Heap.lt_size e
  have b2 : a < g1.objs.size := by
    obtain ⟨o, e, _⟩ := it1
    exact Heap.lt_size e
  refine wpAny_bind (wpAny_holding (PySem.W.kun_collect (s := { s with heap := g1 }) (.inr (.inr (.inr rfl))) (Walks.tuple (A := A.in1) q _ a ne ys) (fun _ _ z => z.1.typeIs) (by omega) ⟨t1, it1⟩ b1 b2 (fun g c k => ?_) yz))
  show wpAny _ _ (ite _ _ _) _ _ _
  rw [if_neg (by omega)]
  have hk : ∀ b o, s.heap.get? b = some o → g.get? b = some o := fun b o e => by
    have nb : b ≠ s.heap.objs.size := Nat.ne_of_lt (Heap.lt_size e)
    exact k b o nb (s1.extBut b o nb (Heap.get?_push_of_some _ e))
  refine wpAny_bind (wpAny_newObj_type ?_ ?_)
  rotate_left
  · show (List.take _ (ys.toList.drop j)).toArray.size ≤ sizeLine
    rw [List.size_toArray]
    exact Nat.le_trans (List.length_take_le' _ _) (by omega)
  refine wpAny_pure ?_
  rw [lm]
  exact go g c hk
end
/-- (first, *more) = a tuple -/
def gBeh (K : PySem.W.Frag) (t : TGs) : TG := fun v σ H Q => ∃ a x xs, v = .ref a ∧ SqT K H a (x :: xs) ∧
  ∀ p, H p = none → t [x, .ref p] σ (upd H p (.lst xs)) Q
section
variable {X : Cx} {pos : Pos}
theorem pg_behind {e f : Expr} {k : Nat} {t : TGs} {p : Pos} (hc : X.calm = true) (h : PGs X [e, f] t)
    (h1 : assignEach [e, .Starred f p] X.env = [(false, assign e X.env), (true, assign f X.env)])
    (h2 : (assignEach [e, f] X.env).map (·.2) = [assign e X.env, assign f X.env]) : PG X (.Tuple [e, .Starred f p] k pos) (gBeh X.K t) := by
  refine ⟨fun pins s σ H v u Q I r hw => ?_⟩
  obtain ⟨a, x, xs, rfl, hq, hw⟩ := hw
  cases r
  obtain ⟨its, rv, pl, hz⟩ := I.tuple hq
  cases rv with
  | cons rx rs =>
    rename_i y ys
    have hl : xs.length = ys.length := rs.length
    simp only [List.length_cons] at hz
    rw [PyProof.Rows.assign_Tuple]
    refine wpAny_bind (wpAny_standAt ?_)
    unfold unpack
    rw [h1]
    have e1 : (y :: ys).toArray.size = ys.length + 1 := by simp
    refine wpAny_bind (wpAny_holding (tup_star (j := 1) (m := 2) (I.ok.hd hc) pl (by omega) (by rw [e1]; omega) (by rw [e1]; omega) fun g c hk => ?_))
    have I1 : Inv X pins σ H { s with heap := g, toks := c } := I.kept (t' := c) hk
    have e2 : (List.drop 1 (y :: ys).toArray.toList).take ((y :: ys).toArray.size + 1 - 2) = ys := by
      rw [e1]; simp
    have e3 : List.take 1 (y :: ys).toArray.toList ++ [Value.ref g.objs.size] ++ (List.drop 1 (y :: ys).toArray.toList).drop ((y :: ys).toArray.size + 1 - 2) = [y, .ref g.objs.size] := by
      rw [e1]; simp
    rw [e2, e3]
    have I2 : Inv X pins σ (upd H g.objs.size (.lst xs)) { s with heap := g.push { cls := .type "list", data := .seq ys.toArray }, toks := c } := by
      refine I1.laid (t' := c) (fun b u e => Heap.get?_push_of_some _ e) (Nat.le_refl _) ?_
      exact ⟨by omega, ys, 0, rs, Heap.get?_push_size _ rfl⟩
    have hp : H g.objs.size = none := I1.hok.fresh (Nat.le_refl _)
    have rr : Vals [x, .ref g.objs.size] [y, .ref g.objs.size] := .cons rx (.cons rfl .nil)
    have z := h.run pins _ σ _ _ _ Q I2 rr (hw _ hp)
    rw [h2] at z
    exact z
end
end Mp


set_option Elab.async false
set_option linter.all false
set_option maxRecDepth 10000
/-! Sorted texts and whole numbers. -/
namespace Mp
open PySem PySem.Spec PyProof.Rows L2
def leS (x y : Str) : Bool := decide (x.cps.toList ≤ y.cps.toList)
theorem leS_trans (a b c : Str) (h1 : leS a b = true) (h2 : leS b c = true) : leS a c = true := by
  simp only [leS, decide_eq_true_eq] at *
  exact List.le_trans h1 h2
theorem leS_total (a b : Str) : (leS a b || leS b a) = true := by
  simp only [leS, Bool.or_eq_true, decide_eq_true_eq]
  exact List.le_total _ _
theorem leS_anti (a b : Str) (h1 : leS a b = true) (h2 : leS b a = true) : a = b := by
  simp only [leS, decide_eq_true_eq] at *
  have := List.le_antisymm h1 h2
  obtain ⟨⟨a⟩⟩ := a
  obtain ⟨⟨b⟩⟩ := b
  simp only at this
  rw [this]
def sortS (xs : List Str) : List Str := xs.mergeSort leS
def sortI (xs : List Int) : List Int := xs.mergeSort fun x y => decide (x ≤ y)
theorem sortS_perm (xs : List Str) : (sortS xs).Perm xs := List.mergeSort_perm _ _
theorem sortI_perm (xs : List Int) : (sortI xs).Perm xs := List.mergeSort_perm _ _
theorem sortS_pw (xs : List Str) : (sortS xs).Pairwise fun a b => leS a b = true := List.pairwise_mergeSort leS_trans leS_total xs
theorem sortI_pw (xs : List Int) : (sortI xs).Pairwise fun a b => a ≤ b := by
  have := List.pairwise_mergeSort (le := fun x y : Int => decide (x ≤ y)) (fun a b c h1 h2 => by simp only [decide_eq_true_eq] at *; omega) (fun a b => by simp only [Bool.or_eq_true, decide_eq_true_eq]; omega) xs
  exact this.imp fun h => by simpa using h
theorem sortS_eq {xs ys : List Str} (p : ys.Perm xs) (s : ys.Pairwise fun a b => leS a b = true) : ys = sortS xs :=
  List.Perm.eq_of_pairwise (fun a b _ _ h1 h2 => leS_anti a b h1 h2) s (sortS_pw xs) (p.trans (sortS_perm xs).symm)
theorem sortI_eq {xs ys : List Int} (p : ys.Perm xs) (s : ys.Pairwise fun a b => a ≤ b) : ys = sortI xs :=
  List.Perm.eq_of_pairwise (fun a b _ _ h1 h2 => Int.le_antisymm h1 h2) s (sortI_pw xs) (p.trans (sortI_perm xs).symm)
theorem rising_pw : ∀ (p : Str) (l : List Str), risingS p l = true → (∀ x ∈ l, leS p x = true) ∧ l.Pairwise fun a b => leS a b = true
  | p, [], _ => ⟨fun _ h => (nomatch h), .nil⟩
  | p, x :: l, h => by
    simp only [risingS, Bool.and_eq_true, Bool.not_eq_true'] at h
    obtain ⟨h1, h2⟩ := h
    rw [ltCps_eq, decide_eq_false_iff_not] at h1
    have h1 : leS p x = true := by
      simp only [leS, decide_eq_true_eq]
      exact List.not_lt.mp h1
    obtain ⟨i1, i2⟩ := rising_pw x l h2
    refine ⟨fun y m => ?_, .cons i1 i2⟩
    rcases List.mem_cons.mp m with rfl | m
    · exact h1
    · exact leS_trans _ _ _ h1 (i1 y m)
theorem sortedS_pw : ∀ l : List Str, sortedS l = true → l.Pairwise fun a b => leS a b = true
  | [], _ => .nil
  | x :: l, h => .cons (rising_pw x l h).1 (rising_pw x l h).2
end Mp


set_option Elab.async false
set_option linter.all false
set_option maxRecDepth 100000
/-! `!=` of nested data that are the same, for one program and world. -/
namespace PySem.SeqAt
open AutoSeq1 (wpAny_loadPart')
open MeetsSeq MeetsSeq2 MeetsSeq3 SeqRoads2
section
variable {prog : Program} {w : World}
theorem same_tup_ne (l b : Addr) (xs ys : Array Value) (n m : Nat) (d1 d2 : Option Addr) (s1 s2 : Array (Option Value)) :
    MeetsIn prog w (Builtin.«tuple.__ne__» ⟨[.ref l, .ref b], []⟩)
      (fun A R s => s.heap.get? l = some ⟨.type "tuple", d1, .seq xs n, s1⟩ ∧ s.heap.get? b = some ⟨.type "tuple", d2, .seq ys m, s2⟩ ∧ xs.size = ys.size ∧
        (∀ j (h1 : j < xs.size) (h2 : j < ys.size), EqIn prog w A.in1 s xs[j] ys[j] true) ∧ R (.ok (.ret (.bool false))) s) :=
  .of_wp fun A R s h => by
    obtain ⟨hp, g, d, tk, os⟩ := s
    obtain ⟨hl, hb, hn, he, h⟩ := h
    have f2 := AutoSeq1.sub_tuple_tuple
    wp_walk using wpAny_loadPart' hl, wpAny_loadPart' hb, wpAny_forIn_list _ (fun rest c s' => c.1 = none ∧ s' = ⟨hp, g, d, tk, os⟩ ∧ ∃ i, rest = (xs.toList.zip ys.toList).drop i) _
    case turn =>
      rintro ⟨y, x⟩ rest c s' ⟨hc, rfl, i, hz⟩
      have hlt : i < (xs.toList.zip ys.toList).length := by
        rcases Nat.lt_or_ge i (xs.toList.zip ys.toList).length with q | q
        · exact q
        · rw [List.drop_of_length_le q] at hz; cases hz
      have hm : i < min xs.size ys.size := by simpa using hlt
      have h1 : i < xs.size := by omega
      have h2 : i < ys.size := by omega
      rw [List.drop_eq_getElem_cons hlt] at hz
      injection hz with e1 e2
      obtain rfl : y = xs[i] := by simpa using congrArg Prod.fst e1
      obtain rfl : x = ys[i] := by simpa using congrArg Prod.snd e1
      refine wpAny_bind (he i h1 h2 _ _ ?_)
      wp_walk
      exact ⟨rfl, rfl, i + 1, e2⟩
    case fin =>
      rintro ⟨c1, c2⟩ s' ⟨hc, rfl, i, hz⟩
      simp only at hc
      subst hc
      wp_walk
      exact ⟨_, rfl, by simpa [Builtin.Tuple.tupleCompareSizes, hn] using h⟩
    case h => exact ⟨rfl, rfl, 0, rfl⟩
theorem same_lst_loop (l b : Addr) (xs ys : Array Value) (n m : Nat) (d1 d2 : Option Addr) (s1 s2 : Array (Option Value)) (hn : xs.size = ys.size) (k : Nat) :
    ∀ i : Nat, xs.size - i = k → MeetsIn prog w (Builtin.«list.__eq__.loop» ⟨[.ref l, .ref b, rawInt i, rawInt 3], []⟩)
      (fun A R s => s.heap.get? l = some ⟨.type "list", d1, .seq xs n, s1⟩ ∧ s.heap.get? b = some ⟨.type "list", d2, .seq ys m, s2⟩ ∧
        (∀ j (h1 : j < xs.size) (h2 : j < ys.size), EqIn prog w A.in1 s xs[j] ys[j] true) ∧ R (.ok (.ret (.bool false))) s) := by
  induction k with
  | zero =>
    intro i hk A R s h
    obtain ⟨hp, g, d, tk, os⟩ := s
    obtain ⟨hl, hb, he, h⟩ := h
    wp_walk using wpAny_loadPart' hl, wpAny_loadPart' hb
    have q1 : xs[((i : Nat) : Int).toNat]? = none := by simp; omega
    have q2 : ys[((i : Nat) : Int).toNat]? = none := by simp; omega
    rw [q1, q2]
    wp_walk using wpAny_loadPart' hl, wpAny_loadPart' hb
    show R (.ok (.ret (.bool (xs.size != ys.size)))) _
    simpa [hn] using h
  | succ k ih =>
    intro i hk A R s h
    obtain ⟨hp, g, d, tk, os⟩ := s
    obtain ⟨hl, hb, he, h⟩ := h
    wp_walk using wpAny_loadPart' hl, wpAny_loadPart' hb
    have h1 : i < xs.size := by omega
    have h2 : i < ys.size := by omega
    have q1 : xs[((i : Nat) : Int).toNat]? = some xs[i] := by simp [h1]
    have q2 : ys[((i : Nat) : Int).toNat]? = some ys[i] := by simp [h2]
    rw [q1, q2]
    refine wpAny_bind (he i h1 h2 _ _ ?_)
    wp_walk
    rw [show ((i : Int) + 1) = ((i + 1 : Nat) : Int) by push_cast; rfl]
    refine ⟨plainId_quiet plain_eq_loop _, codeAny_builtin entry_eq_loop ?_⟩
    rw [Around.under_plainId plain_eq_loop _]
    exact ih (i + 1) (by omega) A R _ ⟨hl, hb, he, h⟩
theorem same_lst_ne (l b : Addr) (xs ys : Array Value) (n m : Nat) (d1 d2 : Option Addr) (s1 s2 : Array (Option Value)) (hn : xs.size = ys.size) :
    MeetsIn prog w (Builtin.«list.__ne__» ⟨[.ref l, .ref b], []⟩)
      (fun A R s => s.heap.get? l = some ⟨.type "list", d1, .seq xs n, s1⟩ ∧ s.heap.get? b = some ⟨.type "list", d2, .seq ys m, s2⟩ ∧
        (∀ j (h1 : j < xs.size) (h2 : j < ys.size), EqIn prog w A.in1 s xs[j] ys[j] true) ∧ R (.ok (.ret (.bool false))) s) := by
  intro A R s h
  obtain ⟨hp, g, d, tk, os⟩ := s
  obtain ⟨hl, hb, he, h⟩ := h
  have f3 := AutoSeq1.sub_list_list
  have ne : ¬ (xs.size != ys.size) = true := by simp [hn]
  wp_walk using wpAny_loadPart' hl, wpAny_loadPart' hb
  refine ⟨plainId_quiet plain_eq_loop _, codeAny_builtin entry_eq_loop ?_⟩
  rw [Around.under_plainId plain_eq_loop _]
  exact same_lst_loop l b xs ys n m d1 d2 s1 s2 hn _ 0 rfl A R _ ⟨hl, hb, he, h⟩
end
section
variable {prog : Program} {w : World} {A : Around} {s : Shared} {E Q : Value → Shared → Prop}
theorem ne_same_tup {l b : Addr} {xs ys : Array Value} (hl : s.heap.IsTuple l xs) (hb : s.heap.IsTuple b ys) (hn : xs.size = ys.size) (hu : A.units < cLine)
    (he : ∀ j (h1 : j < xs.size) (h2 : j < ys.size), EqIn prog w A.in1 s xs[j] ys[j] true) (h : Q (.bool false) s) : wpAny (model prog w) A (compareOp .NotEq (.ref l) (.ref b)) Q E s := by
  obtain ⟨⟨c1, d1, t1, s1⟩, o1, hc1, n1, hd1⟩ := id hl
  obtain ⟨⟨c2, d2, t2, s2⟩, o2, hc2, n2, hd2⟩ := id hb
  simp only at hc1 hd1 hc2 hd2
  subst hc1 hd1 hc2 hd2
  refine wpAny_richCompare_same_room (T := "tuple") (op := .NotEq) ⟨_, o1, rfl⟩ ⟨_, o2, rfl⟩ F.slot_tuple_ne ?_ hu
  refine call_meetsIn F.slot_tuple_ne ⟨_, o1, rfl⟩ F.entry_tuple_ne (F.args_tuple_ne_2 _ _) (same_tup_ne l b xs ys n1 n2 d1 d2 s1 s2) ?_
  exact ⟨o1, o2, hn, he, fun x => (nomatch x), h⟩
theorem ne_same_lst {l b : Addr} {xs ys : Array Value} (hl : s.heap.IsList l xs) (hb : s.heap.IsList b ys) (hn : xs.size = ys.size) (hu : A.units < cLine)
    (he : ∀ j (h1 : j < xs.size) (h2 : j < ys.size), EqIn prog w A.in1 s xs[j] ys[j] true) (h : Q (.bool false) s) : wpAny (model prog w) A (compareOp .NotEq (.ref l) (.ref b)) Q E s := by
  obtain ⟨⟨c1, d1, t1, s1⟩, o1, hc1, n1, hd1⟩ := id hl
  obtain ⟨⟨c2, d2, t2, s2⟩, o2, hc2, n2, hd2⟩ := id hb
  simp only at hc1 hd1 hc2 hd2
  subst hc1 hd1 hc2 hd2
  refine wpAny_richCompare_same_room (T := "list") (op := .NotEq) ⟨_, o1, rfl⟩ ⟨_, o2, rfl⟩ F.slot_list_ne ?_ hu
  refine call_meetsIn F.slot_list_ne ⟨_, o1, rfl⟩ F.entry_list_ne (F.args_list_ne_2 _ _) (same_lst_ne l b xs ys n1 n2 d1 d2 s1 s2 hn) ?_
  exact ⟨o1, o2, he, fun x => (nomatch x), h⟩
end
end PySem.SeqAt


set_option Elab.async false
set_option linter.all false
set_option maxRecDepth 100000
/-! Sets of texts and whole numbers that can be walked. -/
namespace Mp
open PySem PySem.Spec PyProof.Rows L2
def keyV (v : Value) : Key := match v with
  | .int k _ => .inl k
  | .str x _ => .inr x
  | _ => .inl 0
theorem keyV_of {k : Key} {v : Value} (h : keyIs k v = true) : keyV v = k := by
  rcases keyIs_shape h with ⟨i, t, rfl, rfl⟩ | ⟨x, t, rfl, rfl⟩ <;> rfl
def eK (e : Int × Value) : Key := keyV e.2
/-- an entry of a set -/
def GoodM (w : World) (e : Int × Value) : Prop := keyIs (eK e) e.2 = true ∧ e.1 = keyH w (eK e) ∧ e.2.scannable = true
theorem good_eK {w : World} {e : Int × Value} (g : GoodM w e) (k : Key) : keyIs k e.2 = true ↔ eK e = k :=
  ⟨fun h => keyV_of h, fun h => h ▸ g.1⟩
theorem good_el {P : Program} {w : World} {l : List (Int × Value)} (g : ∀ e ∈ l, GoodM w e) : ElemsOf (mixKind P w) l := fun e m => ⟨⟨eK e, (g e m).1, (g e m).2.1⟩, (g e m).2.2⟩
theorem good_any {w : World} {l : List (Int × Value)} (g : ∀ e ∈ l, GoodM w e) (k : Key) : k ∈ l.map eK ↔ ∃ e ∈ l, keyIs k e.2 = true := by
  simp only [List.mem_map]
  exact ⟨fun ⟨e, m, q⟩ => ⟨e, m, (good_eK (g e m) k).mpr q⟩, fun ⟨e, m, q⟩ => ⟨e, m, (good_eK (g e m) k).mp q⟩⟩
/-- the set at a has the keys, and it can be walked -/
def SetM (w : World) (h : Heap) (a : Addr) (ks : List Key) : Prop :=
  ∃ (o : Obj) (es : Array (Int × Value)) (ep : Nat) (t : SetTable), h.get? a = some o ∧ o.ExactSet ∧ o.data = .set es ep t ∧ (∀ e ∈ es.toList, GoodM w e) ∧ ks.Nodup ∧ (es.toList.map eK).Perm ks ∧
    es.size < scanBound ∧ t.fits es.size = true ∧ Ris t.place.toList ∧ (w.params.followText "set-order" = true ∨ t.led = true)
section
variable {P : Program} {w : World} {h h' : Heap} {a : Addr} {ks : List Key}
theorem SetM.at (R : SetM w h a ks) (k : ∀ o, h.get? a = some o → h'.get? a = some o) : SetM w h' a ks := by
  obtain ⟨o, es, ep, t, ho, r⟩ := R
  exact ⟨o, es, ep, t, k o ho, r⟩
theorem any_mem (ks : List Key) (k : Key) : (ks.any fun j => decide (j = k)) = true ↔ k ∈ ks := by
  rw [List.any_eq_true]
  exact ⟨fun ⟨j, m, e⟩ => by rw [← of_decide_eq_true e]; exact m, fun m => ⟨k, m, by simp⟩⟩
theorem SetM.of (R : SetM w h a ks) : h.SetOf (mixKind P w) a (fun k => ks.any fun j => decide (j = k)) ks.length := by
  obtain ⟨o, es, ep, t, ho, hx, hd, g, nd, pm, hb, hf, hr, hl⟩ := R
  refine ⟨o, es, ep, t, ho, hx, hd, good_el g, fun k => ?_, hb, hf, ?_⟩
  · exact (any_mem ks k).trans (pm.mem_iff.symm.trans (good_any g k))
  · rw [← pm.length_eq, List.length_map, Array.length_toList]
def fresh (w : World) : Obj := { cls := .type "set", dict := none, data := .set #[] 0 (.fresh 0 0 (!w.params.followText "set-order")) }
theorem setM_fresh (e : h.get? a = some (fresh w)) : SetM w h a [] :=
  ⟨_, #[], 0, _, e, ⟨rfl, rfl, rfl⟩, rfl, (fun e m => by simp at m), List.nodup_nil, (by simp), (by decide), rfl, List.Pairwise.nil, by
    show _ ∨ (!w.params.followText "set-order") = true
    cases w.params.followText "set-order" <;> simp⟩
end
section
variable {P : Program} {w : World} {A : Around} {E : Value → Shared → Prop} {s : Shared} {a : Addr}
def addK (ks : List Key) (k : Key) : List Key := if (ks.any fun j => decide (j = k)) = true then ks else ks ++ [k]
theorem addK_in {ks : List Key} {k : Key} (h : k ∈ ks) : addK ks k = ks := by rw [addK, if_pos ((any_mem ks k).mpr h)]
theorem addK_out {ks : List Key} {k : Key} (h : k ∉ ks) : addK ks k = ks ++ [k] := by rw [addK, if_neg fun z => h ((any_mem ks k).mp z)]
theorem setM_tail {g : Bool → Sem Unit} (hg : ∀ (b : Bool) (u : Shared) (Q' : Unit → Shared → Prop), Q' () u → wpAny (model P w) A (g b) Q' E u)
    {o : Obj} {es es1 : Array (Int × Value)} {ep : Nat} {t t2 : SetTable} {ks : List Key} (ho : s.heap.get? a = some o) (hx : o.ExactSet) (hd : o.data = .set es ep t)
    (g1 : ∀ e ∈ es1.toList, GoodM w e) (nd : ks.Nodup) (pm : (es1.toList.map eK).Perm ks) (hb1 : es1.size < scanBound) (hf2 : t2.fits es1.size = true) (hr : Ris t2.place.toList) (hl : w.params.followText "set-order" = true ∨ t2.led = true)
    {wasDummy : Bool} {R : Option Bool → Shared → Prop} (hR : ∀ h', Heap.SameBut a s.heap h' → SetM w h' a ks → R (some true) { s with heap := h' }) :
    wpAny (model P w) A (do
        storeSet a es1 t2
        if (!wasDummy && t2.tooFull) = true then do
            g (relayAll t2 es1 (SetTable.grown es1.size)).2.2
            storeSet a (relayAll t2 es1 (SetTable.grown es1.size)).1 (relayAll t2 es1 (SetTable.grown es1.size)).2.1
            pure (some true)
          else pure (some true)) R E s := by
  refine wpAny_bind (wpAny_storeSet_of ho hd ?_ (fits_of_scanBound hb1))
  have o1 := store_at (es' := es1) (t' := t2) ho hd
  have b1 := Heap.SameBut.update s.heap a (Obj.putSet es1 t2)
  split
  · have p3 := relayAll_perm t2 es1 (SetTable.grown es1.size)
    have f3 := relayAll_fits t2 es1 (SetTable.grown es1.size)
    have r3 := relayAll_ris t2 es1 (SetTable.grown es1.size)
    have l3 := relayAll_led t2 es1 (SetTable.grown es1.size)
    generalize relayAll t2 es1 (SetTable.grown es1.size) = Z at p3 f3 r3 l3 ⊢
    obtain ⟨es2, t3, gave⟩ := Z
    dsimp only at p3 f3 r3 l3 ⊢
    have sz : es2.size = es1.size := by rw [← Array.length_toList, p3.length_eq, Array.length_toList]
    have b2 : es2.size < scanBound := sz ▸ hb1
    refine wpAny_bind (hg _ _ _ (wpAny_bind (wpAny_storeSet_of o1 rfl ?_ (fits_of_scanBound b2))))
    refine wpAny_pure (hR _ (b1.trans (Heap.SameBut.update _ a _)) ⟨_, es2, _, t3, store_at (es' := es2) (t' := t3) o1 rfl, hx, rfl, fun e m => g1 e (p3.mem_iff.mp m), nd, (p3.map eK).trans pm, b2, f3, r3, ?_⟩)
    rcases hl with z | z
    · exact .inl z
    · exact .inr (l3.trans z)
  · exact wpAny_pure (hR _ b1 ⟨_, es1, _, t2, o1, hx, rfl, g1, nd, pm, hb1, hf2, hr, hl⟩)
theorem setM_addH {ks : List Key} {k : Key} {v : Value} {Q : Bool → Shared → Prop} (R : SetM w s.heap a ks) (hk : keyIs k v = true) (hsc : v.scannable = true) (room : ks.length + 1 < scanBound)
    (hQ : ∀ h', Heap.SameBut a s.heap h' → SetM w h' a (addK ks k) → Q (!(ks.any fun j => decide (j = k))) { s with heap := h' }) :
    wpAny (model P w) A (setAddHashed a v ((mixKind P w).hash k)) Q E s := by
  obtain ⟨o, es, ep, t, ho, hx, hd, g, nd, pm, hb, hf, hr, hl⟩ := R
  have hkey : (mixKind P w).is k v = true := hk
  have hel : ElemsOf (mixKind P w) es.toList := good_el g
  unfold setAddHashed setAddHashedIn
  refine wpAny_holding (wpAny_bind (wpAny_setState_of ho hd hf ?_))
  dsimp only
  rw [byScan_of hsc hb hel]
  simp only [↓reduceIte]
  unfold setAddByScan
  refine wpAny_bind (wpAny_bind (wpAny_rule (wpAny_bind (wpAny_setScan_of hkey ho hd hf hel ?_))))
  cases hfi : List.findIdx? (fun e => (mixKind P w).is k e.2) es.toList with
  | some j =>
    dsimp only
    obtain ⟨hj, pj, _⟩ := List.findIdx?_eq_some_iff_getElem.mp hfi
    have mk : k ∈ ks := pm.mem_iff.mp ((good_any g k).mpr ⟨es.toList[j], List.getElem_mem hj, pj⟩)
    have q := hQ s.heap (Heap.SameBut.refl a s.heap) (by rw [addK_in mk]; exact ⟨o, es, ep, t, ho, hx, hd, g, nd, pm, hb, hf, hr, hl⟩)
    rw [(any_mem ks k).mpr mk] at q
    exact wpAny_pure (wpAny_pure q)
  | none =>
    dsimp only
    have mk : k ∉ ks := fun z => by
      obtain ⟨e, he, q⟩ := (good_any g k).mp (pm.mem_iff.mpr z)
      have c := List.findIdx?_eq_none_iff.mp hfi e he
      rw [show (mixKind P w).is k e.2 = true from q] at c
      cases c
    have gw : ∀ (b : Bool) {u : Shared} {Q' : Unit → Shared → Prop}, Q' () u → wpAny (model P w) A (match b with | true => rule "set.scan.the-table-gave-way" | false => pure ()) Q' E u :=
      fun b u Q' q => by
        cases b
        · exact wpAny_pure q
        · exact wpAny_rule q
    have p1 := layNew_perm t es ((mixKind P w).hash k) v
    have f1 := layNew_fits t es ((mixKind P w).hash k) v
    have r1 := layNew_ris t es ((mixKind P w).hash k) v hr
    have l1 := layNew_led t es ((mixKind P w).hash k) v
    generalize layNew t es ((mixKind P w).hash k) v = Z at p1 f1 r1 l1 ⊢
    obtain ⟨es1, t1, wasDummy, gave⟩ := Z
    dsimp only at p1 f1 r1 l1 ⊢
    rw [Array.toList_push] at p1
    have ek : eK ((mixKind P w).hash k, v) = k := keyV_of hk
    have g1 : ∀ e ∈ es1.toList, GoodM w e := fun e he => by
      rcases List.mem_append.mp (p1.mem_iff.mp he) with z | z
      · exact g e z
      · rw [List.mem_singleton.mp z]
        exact ⟨ek.symm ▸ hk, by rw [ek]; rfl, hsc⟩
    have pk : (es1.toList.map eK).Perm (ks ++ [k]) := by
      refine (p1.map eK).trans ?_
      rw [List.map_append, List.map_cons, List.map_nil, ek]
      exact pm.append_right [k]
    have nd1 : (ks ++ [k]).Nodup := by
      rw [List.nodup_append]
      exact ⟨nd, by simp, fun x hx y hy => by rw [List.mem_singleton.mp hy]; exact fun e => mk (e ▸ hx)⟩
    have sz : es1.size = ks.length + 1 := by rw [← Array.length_toList, ← List.length_map (f := eK), pk.length_eq]; simp
    have hb1 : es1.size < scanBound := by rw [sz]; exact room
    have hled : w.params.followText "set-order" = true ∨ t1.led = true := by
      rcases hl with z | z
      · exact .inl z
      · exact .inr (l1.trans z)
    have fin : ∀ h', Heap.SameBut a s.heap h' → SetM w h' a (ks ++ [k]) → Q true { s with heap := h' } := fun h' sb r => by
      have q := hQ h' sb (by rw [addK_out mk]; exact r)
      rwa [Bool.eq_false_iff.mpr fun z => mk ((any_mem ks k).mp z)] at q
    refine wpAny_bind (gw _ ?_)
    split
    · refine wpAny_bind ?_
      rw [hashByValue_scannable 8 hsc]
      refine wpAny_pure ?_
      refine setM_tail ?_ ho hx hd g1 nd1 pk hb1 ?_ ?_ ?_ ?_
      · intro b u Q' q
        cases b
        · exact wpAny_pure q
        · exact wpAny_rule q
      · first | (split <;> first | exact f1 | exact SetTable.fits_plain_off f1) | exact f1
      · first | (split <;> exact r1) | exact r1
      · first | (split <;> exact hled) | exact hled
      · intro h' sb r
        dsimp only
        exact wpAny_pure (fin h' sb r)
    · refine wpAny_bind (wpAny_pure ?_)
      simp only [↓reduceIte]
      refine setM_tail ?_ ho hx hd g1 nd1 pk hb1 f1 r1 hled ?_
      · intro b u Q' q
        cases b
        · exact wpAny_pure q
        · exact wpAny_rule q
      · intro h' sb r
        dsimp only
        exact wpAny_pure (fin h' sb r)
end
end Mp


set_option Elab.async false
set_option linter.all false
set_option maxRecDepth 100000
/-! set.add, set(list), sorted(set) of keys. -/
namespace Mp
open PySem PySem.Spec PyProof.Rows L2
/-- what the keys of a list make -/
def addKs : List Key → List Key → List Key
  | ks, [] => ks
  | ks, k :: l => addKs (addK ks k) l
theorem addK_len (ks : List Key) (k : Key) : (addK ks k).length ≤ ks.length + 1 := by
  unfold addK
  split
  · omega
  · simp
section
variable {P : Program} {w : World} {A : Around} {E : Value → Shared → Prop} {s : Shared} {a : Addr}
theorem setM_add {ks : List Key} {k : Key} {v : Value} {Q : Value → Shared → Prop} (R : SetM w s.heap a ks) (hk : keyIs k v = true) (hsc : v.scannable = true) (room : ks.length + 1 < scanBound)
    (hQ : ∀ h', Heap.SameBut a s.heap h' → SetM w h' a (addK ks k) → Q .none { s with heap := h', toks := s.toks + 1 }) : wpAny (model P w) A (call (.builtin "set.add") [.ref a, v]) Q E s := by
  have hS := R.of (P := P)
  refine wpAny_call_entry F.slot_set_add hS.typeIs F.entry_set_add ?_ (F.args_set_add_2 _ _)
  unfold Builtin.«set.add» Builtin.Frozenset.oneOther
  simp only [List.isEmpty_nil, bind_assoc]
  unfold Builtin.Frozenset.addrOf setAdd
  refine wpAny_bind (wpAny_pure ?_)
  try dsimp only
  refine wpAny_bind (wpAny_pure ?_)
  try dsimp only
  refine wpAny_bind (wpAny_holding (wpAny_bind ((mixKind P w).pyHash (k := k) hk ?_)))
  refine setM_addH (s := { s with toks := s.toks + 1 }) R hk hsc room fun h' sb r => ?_
  show wpAny _ _ (ret Value.none) _ _ _
  exact wpAny_pure ⟨_, rfl, hQ h' sb r⟩
theorem setM_update {I : Addr} {fp wr : List Addr} {G : Array GenState → Array GenState → Prop} {n : Nat} {Pv : Nat → Value → Prop} {St : Nat → Shared → Prop} {R : Result → Shared → Prop}
    (W : WalksS P w A.in1 I fp wr G n Pv St) (S : Addr) (hS : S ∉ fp) (ns : List Key) (hn : n = ns.length) (hv : ∀ i v, Pv i v → ∃ k, ns[i]? = some k ∧ keyIs k v = true ∧ v.scannable = true) :
    ∀ (k i : Nat) (s : Shared) (ks : List Key), n - i = k → i ≤ n → St i s → ks.length + k + 1 < scanBound → SetM w s.heap S ks →
      (∀ s', Moved (S :: wr) G s s' → SetM w s'.heap S (addKs ks (ns.drop i)) → R (.ok (.ret .none)) s') →
      codeAny (model P w) A (.builtin "set.update.loop" ⟨[.ref S, .ref I], []⟩) R s := by
  have hSw : S ∉ wr := fun h => hS (W.sub _ h)
  have up : ∀ b ∈ wr, b ∈ S :: wr := fun b hb => List.mem_cons_of_mem _ hb
  intro k
  induction k with
  | zero =>
    intro i s ks hk hi st hb m hR
    obtain rfl : i = n := by omega
    refine codeAny_builtin F.entry_set_update_loop ?_
    rw [Around.under_plainId F.plain_set_update_loop _]
    show wpAny _ A.in1 (pyNext (.ref I) >>= _) _ _ s
    refine wpAny_bind (W.done s _ _ st fun s' hm => ?_)
    show wpAny _ A.in1 (ret Value.none) _ _ s'
    have e : ns.drop i = [] := List.drop_of_length_le (by omega)
    rw [e] at hR
    exact wpAny_pure (hR s' (hm.mono up) (m.at fun o e => hm.heap S o hSw e))
  | succ k ih =>
    intro i s ks hk hi st hb m hR
    have lt : i < n := by omega
    refine codeAny_builtin F.entry_set_update_loop ?_
    rw [Around.under_plainId F.plain_set_update_loop _]
    show wpAny _ A.in1 (pyNext (.ref I) >>= _) _ _ s
    refine wpAny_bind (W.item i s _ _ lt st fun v s' hP st' hm => ?_)
    obtain ⟨z, ez, kz, sz⟩ := hv i v hP
    have m' : SetM w s'.heap S ks := m.at fun o e => hm.heap S o hSw e
    have dz : ns.drop i = z :: ns.drop (i + 1) := by
      obtain ⟨hi', e⟩ := List.getElem?_eq_some_iff.mp ez
      rw [List.drop_eq_getElem_cons hi', e]
    rw [dz] at hR
    show wpAny _ A.in1 (holding [v] (setAdd S v) >>= _) _ _ s'
    refine wpAny_bind (wpAny_holding ?_)
    unfold setAdd
    refine wpAny_holding (wpAny_bind ((mixKind P w).pyHash (k := z) kz ?_))
    have lz := addK_len ks z
    refine setM_addH (s := { s' with toks := s'.toks + 1 }) m' kz sz (by omega) fun h' sb m2 => ?_
    refine wpAny_pure ⟨plainId_quiet F.plain_set_update_loop _, ih (i + 1) _ (addK ks z) (by omega) lt (W.frame _ s' _ _ st' (Nat.le_succ _) fun b hb o e => ?_) (by omega) m2 fun s2 hm2 m3 => ?_⟩
    · rw [sb.2 b fun h => hS (h ▸ hb)]; exact e
    · refine hR s2 (Moved.trans W.gtrans ((hm.mono up).then_heap (Nat.le_succ _) fun b o hb e => ?_) hm2) m3
      rw [sb.2 b fun h => hb (h ▸ List.mem_cons_self)]; exact e
/-- values of keys -/
def KeysAre (vs : List Value) (ks : List Key) : Prop := vs.length = ks.length ∧ ∀ (i : Nat) (v : Value), vs[i]? = some v → ∃ k, ks[i]? = some k ∧ keyIs k v = true ∧ v.scannable = true
set_option maxHeartbeats 3200000 in
theorem call_set_lst {l : Addr} {its : Array Value} (ns : List Key) {Q : Value → Shared → Prop} (hh : A.handled = none) (hl : s.heap.IsList l its) (hit : KeysAre its.toList ns) (hb : ns.length + 1 < scanBound)
    (h : ∀ (h' : Heap) (tk : Nat), SetM w h' s.heap.objs.size (addKs [] ns) → (∀ b o, s.heap.get? b = some o → h'.get? b = some o) → Q (.ref s.heap.objs.size) { s with heap := h', toks := tk }) :
    wpAny (model P w) A (call (.type "set") [.ref l]) Q E s := by
  have sz : its.size = ns.length := by rw [← Array.length_toList]; exact hit.1
  obtain ⟨c, tl, hmro⟩ := F.called_set.mro
  have q1 := F.called_set.made
  have q2 := F.called_set.sub
  refine wpAny_call (codeAny_of_tree ?_)
  show wpAny _ _ (callAny (.type "set") _) _ _ _
  refine wpAny_pure ⟨Code.quiet_builtin _ (by decide +kernel), codeAny_builtin F.entry_type_call ?_⟩
  rw [Around.under_plain (weight_type_call_type "set" [.ref l] []) rfl]
  have q3 := F.called_set.notType
  have q4 := F.called_set.canCreate
  have q5 := F.typeCall_set_1 (.ref l)
  repeat (any_goals (first | assumption | wp_step))
  refine codeAny_mono (code_set_led1 (.ref l) (E := E) (Q₁ := fun x u => x = .ref s.heap.objs.size ∧ u = { s with heap := s.heap.push (fresh w) }) ⟨rfl, rfl⟩) fun r u hr => ?_
  cases r with
  | error e => exact hr
  | ok fl =>
    cases fl with
    | ret x =>
      obtain ⟨rfl, rfl⟩ := hr
      have hS : (s.heap.push (fresh w)).get? s.heap.objs.size = some (fresh w) := Heap.get?_push_size _ rfl
      have hT : Shared.TypeIs { s with heap := s.heap.push (fresh w) } (.ref s.heap.objs.size) "set" := ⟨_, hS, rfl⟩
      have q6 := F.called_set.init.lookup
      have q7 := F.called_set.init.bind (.ref s.heap.objs.size)
      repeat (any_goals (first | assumption | wp_step))
      refine codeAny_mono (codeAny_call_builtin (R := wants (fun r u => r = .none ∧ ∃ h' tk, u = { s with heap := h', toks := tk } ∧ SetM w h' s.heap.objs.size (addKs [] ns) ∧
          (∀ b o, s.heap.get? b = some o → h'.get? b = some o)) E) F.called_set.init.plain F.entry_set_init (check_set_init_1 hT ?_)) fun r u hr => ?_
      · obtain ⟨⟨cl, di, da, so⟩, ol, c1, nl, c2⟩ := hl
        simp only at c1 c2
        subst c1; subst c2
        have ol' : (s.heap.push (fresh w)).get? l = some { cls := .type "list", dict := di, data := .seq its nl, slots := so } := Heap.get?_push_of_some _ ol
        have q8 := F.sub_list_set
        have q9 := F.sub_list_frozenset
        have ne : (Value.type "list" == Value.type "dict") = false := by decide
        have l1 : (s.heap.push (fresh w)).IsList l its := ⟨_, ol', rfl, nl, rfl⟩
        unfold Builtin.«set.__init__» noKeywords Builtin.Frozenset.updateFrom
        generalize gPI : pyIter = PI
        wp_walk
        subst gPI
        refine wpAny_pyIter_list l1 (wpAny_bind (wpAny_runValue ?_))
        have lS : l < s.heap.objs.size := Heap.lt_size ol
        have h3 : A.in1.in1.in1.handled = none := by simp [hh]
        have neI : l ≠ (s.heap.push (fresh w)).objs.size := by
          rw [Heap.size_push]
          exact Nat.ne_of_lt (Nat.lt_succ_of_lt lS)
        have nS : s.heap.objs.size ∉ [(s.heap.push (fresh w)).objs.size, l] := by
          rw [Heap.size_push]
          simp only [List.mem_cons, List.not_mem_nil, or_false, not_or]
          exact ⟨Nat.ne_of_lt (Nat.lt_succ_self _), Nat.ne_of_gt lS⟩
        refine setM_update ((Walks.list h3 _ l neI its).toS) s.heap.objs.size nS ns sz (fun i v hv => hit.2 i v (by rw [Array.getElem?_toList]; exact hv)) (its.size - 0) 0 _ [] (by omega) (Nat.zero_le _)
          ⟨⟨_, Heap.get?_push_size _ rfl, rfl, rfl⟩, (l1.push _)⟩ (by simp; omega) ?hS0 ?hR
        case hS0 => exact setM_fresh (Heap.get?_push_of_some _ hS)
        case hR =>
          intro s' hm hS'
          obtain ⟨h', g2, d', tk', os'⟩ := s'
          have eg : g2 = s.gens := hm.gens
          have ed : d' = s.drawn := hm.drawn
          have eo : os' = s.os := hm.os
          subst eg; subst ed; subst eo
          show wpAny _ _ _ _ _ _
          refine wpAny_pure ?_
          show wpAny _ _ (ret Value.none) _ _ _
          refine wpAny_pure ⟨rfl, h', tk', rfl, hS', fun b o e => ?_⟩
          have b0 : b < s.heap.objs.size := Heap.lt_size e
          have b2 : b ≠ (s.heap.push (fresh w)).objs.size := by
            rw [Heap.size_push]
            exact Nat.ne_of_lt (Nat.lt_succ_of_lt b0)
          exact hm.heap b o (by simp only [List.mem_cons, List.not_mem_nil, or_false, not_or]; exact ⟨Nat.ne_of_lt b0, b2⟩) (Heap.get?_push_of_some _ (Heap.get?_push_of_some _ e))
      · cases r with
        | error e => exact hr
        | ok fl2 =>
          cases fl2 with
          | ret r =>
            obtain ⟨rfl, h', tk, rfl, hS', hk'⟩ := hr
            repeat (any_goals (first | assumption | wp_step))
            exact h _ _ hS' hk'
          | _ => exact hr.elim
    | _ => exact hr.elim
end
end Mp


set_option Elab.async false
set_option linter.all false
set_option maxRecDepth 100000
/-! The rules of sets of keys that can be walked. -/
namespace Mp
open PySem PySem.Spec PyProof.Rows L2
def SetX (P : Program) (w : World) (a : Addr) (ks : List Key) : HO := .ext fun h => SetM w h a ks
section
variable {X : Cx}
theorem setX_new {w : World} {P : Program} {H : Hp} {h : Heap} {a : Addr} {ks : List Key} (R : SetM w h a ks) : ObjOk P w H h a (SetX P w a ks) := by
  have ⟨o, _, _, _, ho, _⟩ := R
  exact ⟨R, ⟨o, ho⟩, fun h1 h2 p k => SetM.at p k⟩
theorem setX_get {pins : List (Addr × Obj)} {σ : L2.St} {H : Hp} {s : Shared} {a : Addr} {ks : List Key} (I : L2.Inv X pins σ H s) (e : H a = some (SetX X.prog X.w a ks)) : SetM X.w s.heap a ks := (I.hok a _ e).1
def rSetX0 (P : Program) (w : World) : List V → Hp → VK → Prop := fun xs H Q => xs = [] ∧ ∀ p, H p = none → Q (.ref p) (upd H p (SetX P w p []))
theorem cr_setX0 : CallR X (.type "set") (rSetX0 X.prog X.w) := by
  intro pins s σ H xs us Q I r q
  obtain ⟨rfl, q⟩ := q
  cases r
  refine setR_new fun _ => ?_
  have new := setM_fresh (w := X.w) (h := s.heap.push (Mp.fresh X.w)) (Heap.get?_push_size _ rfl)
  exact ⟨.ref _, upd H s.heap.objs.size (SetX X.prog X.w s.heap.objs.size []), I.laid (t' := s.toks) (fun b u e => Heap.get?_push_of_some _ e) (Nat.le_refl _) (setX_new new), rfl, q _ (I.hok.fresh (Nat.le_refl _))⟩
def rSaddX (P : Program) (w : World) : V → List V → Hp → VK → Prop := fun x xs H Q => ∃ (a : Addr) (k : Key) (ks : List Key), x = V.ref a ∧ xs = [kV k] ∧ H a = some (SetX P w a ks) ∧ ks.length + 1 < scanBound ∧ Q .non (upd H a (SetX P w a (addK ks k)))
theorem mt_saddX : MtR X "set.add" (rSaddX X.prog X.w) := by
  intro pins s σ H x xs v us Q I rx rs q
  obtain ⟨a, k, ks, rfl, rfl, e, room, q⟩ := q
  cases rx
  cases rs with
  | cons ry rt =>
    cases rt
    refine setM_add (setX_get I e) (kV_is (P := X.prog) (w := X.w) ry) (key_scan ry) room fun h' sb new => ?_
    have he : ∃ u, h'.get? a = some u := by
      have ⟨o, _, _, _, ho, _⟩ := new
      exact ⟨o, ho⟩
    exact ⟨.non, upd H a (SetX X.prog X.w a (addK ks k)), I.write (e := a) (t' := s.toks + 1) (by rw [e]; trivial) (.inl rfl) (fun b u hb hu => (sb.2 b hb).trans hu) he (setX_new new), rfl, q⟩
def rSinX (P : Program) (w : World) (neg : Bool) : V → V → Hp → VK → Prop := fun x y H Q => ∃ (k : Key) (a : Addr) (ks : List Key), x = kV k ∧ y = V.ref a ∧ H a = some (SetX P w a ks) ∧ Q (.bl (if neg then !(ks.any fun j => decide (j = k)) else ks.any fun j => decide (j = k))) H
theorem or_sinX : OpR X (compareOp .In) (rSinX X.prog X.w false) := by
  intro pins s σ H x y v u Q I rx ry q
  obtain ⟨k, a, ks, rfl, rfl, e, q⟩ := q
  cases ry
  exact wpAny_inSet_of (kV_is rx) (key_scan rx) (setX_get I e).of ⟨.bl _, H, I.tok _, rfl, q⟩
theorem or_snotinX : OpR X (compareOp .NotIn) (rSinX X.prog X.w true) := by
  intro pins s σ H x y v u Q I rx ry q
  obtain ⟨k, a, ks, rfl, rfl, e, q⟩ := q
  cases ry
  exact wpAny_notInSet_of (kV_is rx) (key_scan rx) (setX_get I e).of ⟨.bl _, H, I.tok _, rfl, q⟩
theorem keysAre_of : ∀ {ks : List Key} {us : List Value}, Vals (ks.map kV) us → KeysAre us ks
  | [], _, .nil => ⟨rfl, fun i v e => by simp at e⟩
  | k :: ks, _, .cons r t => by
    obtain ⟨l, g⟩ := keysAre_of t
    refine ⟨by simp only [List.length_cons, l], fun i v e => ?_⟩
    cases i with
    | zero =>
      simp only [List.getElem?_cons_zero, Option.some.injEq] at e
      subst e
      refine ⟨k, rfl, ?_, key_scan r⟩
      cases k with
      | inl i =>
        obtain ⟨t, rfl⟩ := r
        exact keyIs_int i t
      | inr x =>
        obtain ⟨t, rfl⟩ := r
        exact keyIs_str x t
    | succ i => exact g i v (by simpa using e)
/-- set(a list of keys) -/
def rSetOfX (K : PySem.W.Frag) (P : Program) (w : World) : List V → Hp → VK → Prop := fun xs H Q => ∃ (a : Addr) (ks : List Key), xs = [V.ref a] ∧ SqL K H a (ks.map kV) ∧ ks.length + 1 < scanBound ∧ ∀ p, H p = none → Q (.ref p) (upd H p (SetX P w p (addKs [] ks)))
theorem cr_setX (hc : X.calm = true) : CallR X (.type "set") (rSetOfX X.K X.prog X.w) := by
  intro pins s σ H xs us Q I r q
  obtain ⟨a, ks, rfl, l, room, q⟩ := q
  obtain ⟨its, rv, hl, _⟩ := I.list l
  rw [Vals.ref1 r]
  refine call_set_lst ks (I.ok.hd hc) hl.isList (by rw [List.toList_toArray]; exact keysAre_of rv) room fun h' tk new kp => ?_
  exact ⟨.ref _, upd H s.heap.objs.size (SetX X.prog X.w s.heap.objs.size (addKs [] ks)), I.laid (t' := tk) kp (Nat.le_refl _) (setX_new new), rfl, q _ (I.hok.fresh (Nat.le_refl _))⟩
/-- sorted(a set of texts) -/
def rSortX (P : Program) (w : World) : List V → Hp → VK → Prop := fun xs H Q => ∃ (a : Addr) (ss : List Str), xs = [V.ref a] ∧ H a = some (SetX P w a (ss.map Sum.inr)) ∧ ss.length ≤ sizeLine ∧
  ∀ ys p, ys.Perm ss → sortedS ys = true → H p = none → Q (.ref p) (upd H p (.lst (ys.map V.str)))
theorem strs_keys : ∀ {vs : List Value} {ks : List Str}, (∀ v ∈ vs, keyIs (keyV v) v = true) → vs.map keyV = ks.map Sum.inr → StrsAre vs ks
  | [], [], _, _ => .nil
  | v :: vs, k :: ks, g, e => by
    simp only [List.map_cons, List.cons.injEq] at e
    have q := g v (.head _)
    rw [e.1] at q
    obtain ⟨t, ev⟩ := Value.isStrOf_shape (x := k) (v := v) q
    rw [ev]
    exact .cons k t (strs_keys (fun u m => g u (.tail _ m)) e.2)
  | [], _ :: _, _, e => by simp at e
  | _ :: _, [], _, e => by simp at e
theorem perm_map_inv {α β : Type} {f : α → β} : ∀ {l m : List β} {b : List α}, l.Perm m → m = b.map f → ∃ c : List α, l = c.map f ∧ c.Perm b := by
  intro l m b p
  induction p generalizing b with
  | nil => intro e; exact ⟨[], rfl, by rw [List.map_eq_nil_iff.mp e.symm]⟩
  | cons x _ ih =>
    intro e
    obtain ⟨y, b, rfl⟩ : ∃ y b', b = y :: b' := by
      cases b with
      | nil => cases e
      | cons y b => exact ⟨y, b, rfl⟩
    simp only [List.map_cons, List.cons.injEq] at e
    obtain ⟨c, ec, pc⟩ := ih e.2
    exact ⟨y :: c, by simp [ec, e.1], pc.cons y⟩
  | swap x y l =>
    intro e
    match b, e with
    | [], e => cases e
    | [_], e => simp at e
    | u :: v :: b, e =>
      simp only [List.map_cons, List.cons.injEq] at e
      exact ⟨v :: u :: b, by simp [e.1, e.2.1, e.2.2], List.Perm.swap u v b⟩
  | trans _ _ h1 h2 =>
    intro e
    obtain ⟨c, ec, pc⟩ := h2 e
    obtain ⟨d, ed, pd⟩ := h1 ec
    exact ⟨d, ed, pd.trans pc⟩
theorem sorted_setM {P : Program} {w : World} {A : Around} {E : Value → Shared → Prop} {s : Shared} {a : Addr} {ss : List Str} {Q : Value → Shared → Prop} (R : SetM w s.heap a (ss.map Sum.inr)) (hh : A.handled = none) (h64 : ss.length ≤ sizeLine)
    (hQ : ∀ s' p (out : Array Value) (c : Nat) (ys : List Str), (∀ b o, s.heap.get? b = some o → s'.heap.get? b = some o) → s'.gens = s.gens → s'.os = s.os → s.heap.objs.size ≤ p →
      s'.heap.get? p = some (seqObj "list" out c) → StrsAre out.toList ys → ys.Perm ss → sortedS ys = true → Q (.ref p) s') : wpAny (model P w) A (call (.builtin "sorted") [.ref a]) Q E s := by
  obtain ⟨o, es, ep, t, ho, hx, hd, g, nd, pm, hb, hf, hr, hl⟩ := R
  refine Calls.call_function_entry PyProof.Rows.kind_sorted PyProof.Rows.plain_sorted PyProof.Rows.entry_sorted (PyProof.Rows.args_sorted1 _) ?_
  unfold Builtin.«sorted»
  refine wpAny_bind (m := checkCount "sorted" 1 1 _) (wpAny_pure (wpAny_bind ?_))
  refine collect_set (P := P) (A := A.in1) hh ⟨o, ho, hx.1, hd⟩ hf hb hr hl fun s1 vs k1 hz g1 o1 pv => ?_
  have pk : (vs.map keyV).Perm (ss.map Sum.inr) := by
    have := pv.map keyV
    rw [List.map_map] at this
    exact this.trans pm
  obtain ⟨zs, ez, pz⟩ := perm_map_inv pk rfl
  have gv : ∀ v ∈ vs, keyIs (keyV v) v = true := fun v m => by
    obtain ⟨x, mx, rfl⟩ := List.mem_map.mp (pv.mem_iff.mp m)
    exact (g x mx).1
  have hS : StrsAre vs zs := strs_keys gv ez
  have lv : vs.length = ss.length := by rw [← List.length_map (f := keyV), pk.length_eq, List.length_map]
  refine wpAny_bind (wpAny_newList ?_ (by rw [lv]; exact h64))
  have oL : (s1.heap.push (seqObj "list" vs.toArray 0)).get? s1.heap.objs.size = some (seqObj "list" vs.toArray 0) := Heap.get?_push_size _ rfl
  refine wpAny_bind (wpAny_holding (wpAny_call_entry PyProof.Rows.slot_list_sort ⟨_, oL, rfl⟩ PyProof.Rows.entry_list_sort ?_ (PyProof.Rows.args_list_sort _)))
  refine list_sort_treeKAny strKind_oneLt oL hS.keysOf (fun v1 v2 rest e => keyKind_strs (by rw [← e]; exact hS)) (by rw [lv]; exact h64) fun st' hp hs => ⟨_, rfl, ?_⟩
  obtain ⟨ys, y1, y2, y3⟩ := sorted_out_str hS hp hs
  obtain ⟨c, hc⟩ := PyProof.Rows.sortedHeap_at (vs := vs) (out := (arrOf st').map (·.2)) oL
  refine wpAny_pure ⟨_, rfl, hQ _ s1.heap.objs.size _ c ys (fun b u e => ?_) g1 o1 hz hc y1 (y2.trans pz) y3⟩
  have lt := Heap.lt_size (k1 b u e)
  show (PyProof.Rows.sortedHeap (s1.heap.push (seqObj "list" vs.toArray 0)) s1.heap.objs.size vs ((arrOf st').map (·.2))).get? b = some u
  rw [PyProof.Rows.sortedHeap_old (Nat.ne_of_lt lt) (by rw [size_push']; exact Nat.lt_succ_of_lt lt)]
  exact Heap.get?_push_of_some _ (k1 b u e)
theorem cr_sortX (hc : X.calm = true) : CallR X (.builtin "sorted") (rSortX X.prog X.w) := by
  intro pins s σ H xs us Q I r q
  obtain ⟨a, ss, rfl, e, h64, q⟩ := q
  rw [Vals.ref1 r]
  refine sorted_setM (setX_get I e) (I.ok.hd hc) h64 fun s' p out c ys k g o hp hg hi y2 y3 => ?_
  have hlen : (ys.map V.str).length ≤ sizeLine := by
    rw [List.length_map, y2.length_eq]
    exact h64
  have hn : H p = none := I.hok.fresh hp
  have J : L2.Inv X pins σ (upd H p (.lst (ys.map V.str))) { s with heap := s'.heap, gens := s'.gens, drawn := s'.drawn, toks := s'.toks } :=
    I.call (ch := []) (Un.laid k hp hn) (I.hok.laid k hp ⟨hlen, out.toList, c, vals_of_strs hi, hg⟩) (by rw [g]; exact I.bare) fun _ z => (nomatch z)
  have es : s' = { s with heap := s'.heap, gens := s'.gens, drawn := s'.drawn, toks := s'.toks } := by
    cases s'
    cases s
    cases o
    rfl
  rw [es]
  exact ⟨.ref p, _, J, rfl, q ys p y2 y3 hn⟩
end
end Mp


set_option Elab.async false
set_option linter.all false
set_option maxRecDepth 100000
/-! Dicts that are looked at, locked ones too. -/
namespace Mp
open PySem PySem.Spec PyProof.Rows L2
section
variable {X : Cx}
theorem DGet.kR {H : Hp} {a : Addr} {kvs : List (Key × V)} {k : Key} (e : Rd H a (.dK kvs)) : DGet H a (kV k) (valV kvs k) := .inl ⟨kvs, k, e, rfl, rfl⟩
/-- two dicts that hold the same -/
def TwoD (x y : V) (H : Hp) : Prop := ∃ (p q : Addr) (ks ls : List (Key × V)), x = .ref p ∧ y = .ref q ∧ Rd H p (.dK ks) ∧ Rd H q (.dK ls) ∧ ks.length = ls.length ∧ ∀ z ∈ ks, valV ls z.1 = some z.2 ∧ flatB z.2 = true
theorem op_eq_dictR (un : X.A.units < cLine) : OpR X (compareOp .Eq) (fun x y H Q => TwoD x y H ∧ Q (.bl true) H) := by
  intro pins s σ H x y v u Q I hx hy hh
  obtain ⟨⟨p, q, ks, ls, rfl, rfl, d1, d2, len, all⟩, fin⟩ := hh
  cases hx
  cases hy
  obtain ⟨_, n1, v1, k1, o1⟩ := dk_rd I.hok d1
  obtain ⟨_, n2, v2, k2, o2⟩ := dk_rd I.hok d2
  have len' : v1.length = v2.length := (k1.length.symm.trans len).trans k2.length
  exact PySem.W.keq_eq (knd := mixKind X.prog X.w) (r := true) n1 n2 o1 o2 un (fun _ => hits_all k2 k1 all) (fin_bl I fin (by simp [len']))
theorem op_ne_dictR (un : X.A.units < cLine) : OpR X (compareOp .NotEq) (fun x y H Q => TwoD x y H ∧ Q (.bl false) H) := by
  intro pins s σ H x y v u Q I hx hy hh
  obtain ⟨⟨p, q, ks, ls, rfl, rfl, d1, d2, len, all⟩, fin⟩ := hh
  cases hx
  cases hy
  obtain ⟨_, n1, v1, k1, o1⟩ := dk_rd I.hok d1
  obtain ⟨_, n2, v2, k2, o2⟩ := dk_rd I.hok d2
  have len' : v1.length = v2.length := (k1.length.symm.trans len).trans k2.length
  exact PySem.W.keq_ne (knd := mixKind X.prog X.w) (r := true) n1 n2 o1 o2 un (fun _ => hits_all k2 k1 all) (fin_bl I fin (by simp [len']))
/-- a value's truth, of a locked dict too -/
def TruW (K : PySem.W.Frag) (x : V) (H : Hp) (k : Bool) : Prop := TruV K x H k ∨ ∃ (p : Addr) (kvs : List (Key × V)), x = .ref p ∧ Rd H p (.dK kvs) ∧ k = !kvs.isEmpty
theorem tru_okW : TruR X (fun x H Q => ∃ k, TruW X.K x H k ∧ Q k H) := by
  intro pins s σ H x v Q I hx hh
  obtain ⟨k, t | ⟨p, kvs, rfl, d, rfl⟩, q⟩ := hh
  · exact tru_ok pins s σ H x v Q I hx ⟨k, t, q⟩
  · cases hx
    obtain ⟨z, n, vs, kv, o⟩ := dk_rd I.hok d
    have hs : sizeLine = 16777216 := sizeLine_eq
    have len : kvs.length = vs.length := kv.length
    exact wpAny_truthy_dict n o (by omega) ⟨H, I.tok _, (isEmpty_kv kv) ▸ q⟩
theorem pt_truthW {a : Expr} {ta : TE} (ha : PE X a ta) (he : ∀ whole, isTrue a X.env whole = (do let v ← whole; standAt a.pos; holding [v] (truthy v))) :
    PT X a (fun σ H Q => ta σ H fun x H1 => ∃ k, TruW X.K x H1 k ∧ Q k H1) :=
  ⟨fun pins s σ H Q I hh => isTrue_plain (thn (ha.run pins s σ H _ I hh) fun v s1 ⟨x, H1, I1, r1, q1⟩ => tru_okW pins s1 σ H1 x v Q I1 r1 q1) (he _)⟩
/-- list(e.items()) -/
def rItemsR : V → Hp → VK → Prop := fun x H Q => ∃ (d : Addr) (kvs : List (Key × V)), x = .ref d ∧ Rd H d (.dK kvs) ∧
  ∀ (M : Hp) (p : Addr) (ts : List Addr), (∀ b o, H b = some o → M b = some o) → H p = none → (∀ t ∈ ts, H t = none) → p ∉ ts → M p = some (.lst (ts.map V.ref)) → Paired (fun (t : Addr) (z : Key × V) => M t = some (.tup [kV z.1, z.2])) ts kvs → Q (.ref p) M
theorem pe_listItemsR {e : Expr} {te : TE} {p ap cp pos : Pos} (hc : X.calm = true) (he : PE X e te) (hg : Gl X "list") (hm : X.mg "list" = none) (hv : bootBuiltins "list" = some (.type "list")) (hbase : attributeBase e "items" X.env (eval e X.env) = eval e X.env) (hline : (ap.endLine == cp.line) = true)
    (hs : starEach [.Call (.Attribute e "items" ap) [] [] cp] X.env = (false, eval (.Call (.Attribute e "items" ap) [] [] cp) X.env) :: starEach [] X.env := by rfl) :
    PE X (.Call (.Name "list" p) [.Call (.Attribute e "items" ap) [] [] cp] [] pos) (fun σ H Q => te σ H fun x H1 => rItemsR x H1 Q) := by
  refine ⟨fun pins s σ H Q I hq => wpAny_Call_Name_kw (ld_blt I hg hm hv (callWith_type1 ?_ hs rfl))⟩
  rw [hs]
  show wpAny _ _ (spliced ((false, eval (.Call (.Attribute e "items" ap) [] [] cp) X.env) :: backTo pos (starEach [] X.env))) _ _ s
  refine Calls.spliced_cons (wpAny_Call_method (T := "dict") (id := "dict.items") hbase rfl hline F.plainAttrs_dict F.slot_dict_items F.type_dict_items (thn (he.run pins s σ H _ I hq) fun u s1 ⟨x, H1, I1, rx, d, kvs, ex, rd, q⟩ => ?_))
  subst ex
  cases rx
  obtain ⟨z, n, vs, kv, dof⟩ := dk_rd I1.hok rd
  obtain ⟨ep, dat⟩ := dof.dictAt
  have len : kvs.length = vs.length := kv.length
  have J1 : Inv X pins σ H1 { s1 with heap := s1.heap.push { cls := .type "dict_items", data := .fields #[.ref d] } } := I1.kept (t' := s1.toks) fun b ob y => Heap.get?_push_of_some _ y
  refine ⟨dof.typeIs, dof.mapOf.noDict, ?_⟩
  show wpAny _ _ (callWith cp (.builtin "dict.items") [.ref d] [] []) _ X.xe s1
  refine method_meetsIn F.slot_dict_items F.entry_dict_items rfl (PySem.evalArgs_none ⟨rfl, dof.typeIs, F.args_dict_items_1 _, _, meets_dict_items (mixKind X.prog X.w) d n, ⟨vs, dof⟩, Calls.spliced_nil ?_⟩)
  refine PySem.W.kdx_call (knd := mixKind X.prog X.w) (kvs := vs) (ep := ep) (I1.ok.hd hc) ⟨_, Heap.get?_push_size _ rfl, rfl, rfl⟩ (dat.push _) (by omega) fun h' tk acc c as k1 k2 k3 k4 k5 => ?_
  obtain ⟨H', y1, y2, y3, y4, y5, y6, J⟩ := LiI.items_laid (tk := tk) J1 z kv k1 k2 k3 k4 k5
  exact ⟨.ref _, H', J, rfl, q H' _ as y1 y2 y3 y4 y5 y6⟩
/-- list(e.keys()) -/
def rKeysR : V → Hp → VK → Prop := fun x H Q => ∃ (d : Addr) (kvs : List (Key × V)), x = .ref d ∧ Rd H d (.dK kvs) ∧ ∀ p, H p = none → Q (.ref p) (upd H p (.lst (kvs.map fun kv => kV kv.1)))
theorem pe_listKeysR {e : Expr} {te : TE} {p ap cp pos : Pos} (hc : X.calm = true) (he : PE X e te) (hg : Gl X "list") (hm : X.mg "list" = none) (hv : bootBuiltins "list" = some (.type "list")) (hbase : attributeBase e "keys" X.env (eval e X.env) = eval e X.env) (hline : (ap.endLine == cp.line) = true)
    (hs : starEach [.Call (.Attribute e "keys" ap) [] [] cp] X.env = (false, eval (.Call (.Attribute e "keys" ap) [] [] cp) X.env) :: starEach [] X.env := by rfl) :
    PE X (.Call (.Name "list" p) [.Call (.Attribute e "keys" ap) [] [] cp] [] pos) (fun σ H Q => te σ H fun x H1 => rKeysR x H1 Q) := by
  refine ⟨fun pins s σ H Q I hq => wpAny_Call_Name_kw (ld_blt I hg hm hv (callWith_type1 ?_ hs rfl))⟩
  rw [hs]
  show wpAny _ _ (spliced ((false, eval (.Call (.Attribute e "keys" ap) [] [] cp) X.env) :: backTo pos (starEach [] X.env))) _ _ s
  refine Calls.spliced_cons (wpAny_Call_method (T := "dict") (id := "dict.keys") hbase rfl hline F.plainAttrs_dict F.slot_dict_keys F.type_dict_keys (thn (he.run pins s σ H _ I hq) fun u s1 ⟨x, H1, I1, rx, d, kvs, ex, rd, q⟩ => ?_))
  subst ex
  cases rx
  obtain ⟨z, n, vs, kv, dof⟩ := dk_rd I1.hok rd
  obtain ⟨ep, dat⟩ := dof.dictAt
  have len : kvs.length = vs.length := kv.length
  have J1 : Inv X pins σ H1 { s1 with heap := s1.heap.push { cls := .type "dict_keys", data := .fields #[.ref d] } } := I1.kept (t' := s1.toks) fun b ob y => Heap.get?_push_of_some _ y
  refine ⟨dof.typeIs, dof.mapOf.noDict, ?_⟩
  show wpAny _ _ (callWith cp (.builtin "dict.keys") [.ref d] [] []) _ X.xe s1
  refine method_meetsIn F.slot_dict_keys F.entry_dict_keys rfl (PySem.evalArgs_none ⟨rfl, dof.typeIs, F.args_dict_keys_1 _, _, PySem.W.kdl_meets_keys (mixKind X.prog X.w) d n, ⟨⟨vs, dof⟩, Calls.spliced_nil ?_⟩⟩)
  have ek : (kvs.map fun z => kV z.1) = vs.map fun z => kV z.1 := by
    have e := congrArg (List.map kV) kv.keys
    simpa only [List.map_map, Function.comp_def] using e
  refine PySem.W.kdl_call (PySem.W.kdl_keys (knd := mixKind X.prog X.w) (kvs := vs) (ep := ep)) (I1.ok.hd hc) ⟨⟨_, Heap.get?_push_size _ rfl, rfl, rfl⟩, dat.push _⟩ (by omega) fun h' tk acc c' k1 k2 k3 => ?_
  have hv' : Vals (vs.map fun p => kV p.1) acc.toList := keys_at (by rw [Array.length_toList]; exact k3.1) fun j v e => k3.2 j v ((Array.getElem?_toList ..).symm.trans e)
  exact ⟨.ref _, upd H1 _ (.lst (kvs.map fun kv => kV kv.1)), J1.laid (t' := tk) k1 (Nat.le_refl _)
    (show ObjOk X.prog X.w _ _ _ (.lst (kvs.map fun kv => kV kv.1)) from ⟨by rw [List.length_map]; exact z, acc.toList, c', by rw [ek]; exact hv', by rw [Array.toArray_toList]; exact k2⟩), rfl, q _ (J1.hok.fresh (Nat.le_refl _))⟩
end
end Mp


set_option Elab.async false
set_option linter.all false
set_option maxRecDepth 100000
set_option maxHeartbeats 2000000
/-! Set comprehensions of two clauses: the two loops are one law. -/
namespace Mp
open PySem PySem.Spec PyProof.Rows L2
/-- the tests of a clause -/
def testsOf (ifs : List Expr) (env : Env) : Sem Bool := forIn ifs true fun c r => if r = true then do let ok ← isTrue c env (eval c env); pure (ForInStep.yield ok) else pure (ForInStep.yield r)
/-- a clause's turn: what is done behind its tests is act -/
def turnOf (tg iter : Expr) (ifs : List Expr) (act : Sem Unit) (c : Code) (it : Value) (env : Env) : Sem PySem.Fin := do
  standAt iter.pos
  match ← pyNext it with
  | none => pure (.done .next)
  | some v =>
    letOwnedTupleGo tg it v
    assign tg env v
    let ok ← testsOf ifs env
    if ok = true then act
    again c
abbrev never : Value → Shared → Prop := fun _ _ => False
section
variable {Y : Cx}
/-- what stands of slots: those that were known ahead -/
structure Knows (σ τ : L2.St) (vs : List Nat) : Prop where
  len : τ.length = σ.length
  at_ : ∀ (j : Nat) v, (wipe σ vs)[j]? = some (some v) → τ[j]? = some (some v)
theorem loop_turns (hc : Y.calm = true) {c : Expr} {i : Nat} {acc : Value} {act : Sem Unit} {tg iter : Expr} {ifs : List Expr} {J : It} {fp : List Addr} {it : Addr} {tn : Nat → Heap → Prop} (T : Turn Y.prog Y.w Y.K tg J fp it tn)
    (eq : compTurn c i (.ref it) acc Y.env = turnOf tg iter ifs act (.compLoop c i (.ref it) acc Y.env) (.ref it) Y.env)
    (hden : (model Y.prog Y.w).den (.compLoop c i (.ref it) acc Y.env) = (compTurn c i (.ref it) acc Y.env).onRaise (fun x => do noteFrame x Y.env; theTreesLotGoes x))
    (hund : Y.A.under (.compLoop c i (.ref it) acc Y.env) = Y.A) (hxe : Y.xe = never)
    {g : TG} {tt : TT} (pg : PG Y tg g) (pt : PTs Y ifs tt) {vs : List Nat} {σ0 : L2.St} {pins : List (Addr × Obj)}
    (fo : ∀ {σ' : L2.St} {H' : Hp} {s' : Shared}, Inv Y pins σ' H' s' → (∀ b ∈ fp, H' b = none) → ∀ b ∈ fp, FpOk Y pins H' b)
    {ta : L2.St → Hp → (Hp → Prop) → Prop}
    (ha : ∀ (pl : List (Addr × Obj)) (s : Shared) (σ : L2.St) (H : Hp) (Nx : Hp → Prop), Inv Y (pins ++ pl) σ H s → ta σ H Nx → wpAny (model Y.prog Y.w) Y.A act (fun _ s' => ∃ τ H', Inv Y (pins ++ pl) τ H' s' ∧ Knows σ τ vs ∧ Nx H') never s)
    {W : Nat → Nat → Hp → Prop} {End : Hp → Prop}
    (turn : ∀ j m H, W j m H → (J.stop j H ∧ End H) ∨ (J.go j H ∧ ∃ Nx : Hp → Prop, (∀ H', Nx H' → ∃ m', m' < m ∧ W (j + 1) m' H') ∧ ∀ x H', J.yld j H x H' → g x (wipe σ0 vs) H' fun σ2 H2 => wipe σ2 vs = wipe σ0 vs ∧ tt σ2 H2 fun b H3 => if b = true then ta σ2 H3 Nx else Nx H3))
    {m0 : Nat} {H0 : Hp} {s0 : Shared} (I0 : Inv Y pins (wipe σ0 vs) H0 s0) (st0 : tn 0 s0.heap) (n0 : ∀ b ∈ fp, H0 b = none) (w0 : W 0 m0 H0) :
    codeAny (model Y.prog Y.w) Y.A (.compLoop c i (.ref it) acc Y.env) (fun r s' => r = .ok .next ∧ ∃ H', Inv Y pins (wipe σ0 vs) H' s' ∧ End H') s0 := by
  refine codeAny_loop rfl (fun n s' => ∃ j H', Inv Y pins (wipe σ0 vs) H' s' ∧ tn j s'.heap ∧ (∀ b ∈ fp, H' b = none) ∧ W j n H') ?_ m0 ⟨0, H0, I0, st0, n0, w0⟩
  rintro n s1 ⟨j, H1, I1, st1, n1, w1⟩
  rw [hden, hund, eq]
  refine wpAny_noted (wpAny_mono (E := never) ?_ (fun _ _ z => z) fun _ _ z => z.elim)
  unfold turnOf
  refine wpAny_bind (wpAny_standAt (wpAny_bind ?_))
  rcases turn j n H1 w1 with ⟨stop, fin⟩ | ⟨go, Nx, dec, step⟩
  · refine thn (T.done Y rfl rfl rfl hc j pins s1 _ H1 never I1 (fo I1 n1) st1 stop) fun r s2 ⟨hr, I2⟩ => ?_
    subst hr
    exact wpAny_pure ⟨rfl, H1, I2, fin⟩
  · refine thn (T.item Y rfl rfl rfl hc j pins s1 _ H1 never I1 (fo I1 n1) st1 go) fun r s2 ⟨u, hr, h2⟩ => ?_
    subst hr
    refine wpAny_bind (thn h2 fun _ s3 ⟨x, H3, I3, r3, y3, st3, n3⟩ => ?_)
    have P3 := I3.pinned (fo I3 n3) (T.obj _ _ st3)
    refine wpAny_bind (thn (hxe ▸ pg.run _ s3 _ H3 x u _ P3 r3 (step x H3 y3)) fun _ s4 ⟨σ4, H4, I4, hw4, q4⟩ => ?_)
    refine wpAny_bind (thn (hxe ▸ pt.run _ s4 σ4 H4 _ I4 q4) fun b s5 ⟨H5, I5, q5⟩ => ?_)
    have kn : ∀ {τ : L2.St}, Knows σ4 τ vs → τ.length = (wipe σ0 vs).length ∧ ∀ (k : Nat) v, (wipe σ0 vs)[k]? = some (some v) → τ[k]? = some (some v) := fun {τ} kk =>
      ⟨by rw [kk.len, ← hw4, wipe_length], fun k v e => kk.at_ k v (by rw [hw4]; exact e)⟩
    have back : ∀ {τ : L2.St} {H' : Hp} {s' : Shared}, Inv Y (pins ++ pinsAt fp s3.heap) τ H' s' → Knows σ4 τ vs → Nx H' → ∃ m, m < n ∧ ∃ j H', Inv Y pins (wipe σ0 vs) H' s' ∧ tn j s'.heap ∧ (∀ b ∈ fp, H' b = none) ∧ W j m H' := fun {τ H' s'} I' kk nx => by
      obtain ⟨m', lt, w'⟩ := dec H' nx
      have at' : ∀ b ∈ fp, ∀ o, s3.heap.get? b = some o → s'.heap.get? b = some o ∧ H' b = none := fun b hb o e => by
        obtain ⟨z1, z2, _⟩ := I'.pin (b, o) (List.mem_append_right _ (List.mem_append_right _ (mem_pinsAt hb e)))
        exact ⟨z1, z2⟩
      obtain ⟨k1, k2⟩ := kn kk
      exact ⟨m', lt, j + 1, H', I'.unpinned.weak k1.symm k2, T.keep _ _ _ st3 fun b hb o e => (at' b hb o e).1, fun b hb => let ⟨o, e, _⟩ := T.obj _ _ st3 b hb; (at' b hb o e).2, w'⟩
    cases b with
    | false => exact wpAny_pure ⟨rfl, back I5 ⟨rfl, fun k v e => (wipe_some e).1⟩ q5⟩
    | true =>
      refine wpAny_bind (thn (ha _ s5 σ4 H5 Nx I5 q5) fun _ s6 ⟨τ, H6, I6, kk, nx⟩ => ?_)
      exact wpAny_pure ⟨rfl, back I6 kk nx⟩
end
end Mp


set_option Elab.async false
set_option linter.all false
set_option maxRecDepth 100000
set_option maxHeartbeats 2000000
/-! Set comprehensions of two clauses. -/
namespace Mp
open PySem PySem.Spec PyProof.Rows L2
section
variable {X : Cx} {elt tg iter tg1 iter1 : Expr} {ifs ifs1 : List Expr} {scope : Scope} {pos : Pos}
abbrev sc2 (elt tg iter : Expr) (ifs : List Expr) (tg1 iter1 : Expr) (ifs1 : List Expr) (scope : Scope) (pos : Pos) : Expr := .SetComp elt [⟨tg, iter, ifs, 0⟩, ⟨tg1, iter1, ifs1, 0⟩] scope pos
/-- what the first clause's turn does: the second one from its start -/
def actOut (c iter1 : Expr) (acc : Value) (env : Env) : Sem Unit := do
  let x ← eval iter1 env
  standAt iter1.pos
  let x ← foldedSetIterable iter1 env x
  let it ← holding [x] (pyIter x)
  let _ ← runOwn (.compStart c 1 it acc env) env
/-- what the second clause's turn does -/
def actIn (elt : Expr) (acc : Value) (env : Env) : Sem Unit := do
  let v ← eval elt env
  standAt elt.pos
  let _ ← call (.builtin "set.add") [acc, v]
theorem turn_out (it acc : Value) (env : Env) : compTurn (sc2 elt tg iter ifs tg1 iter1 ifs1 scope pos) 0 it acc env =
    turnOf tg iter ifs (actOut (sc2 elt tg iter ifs tg1 iter1 ifs1 scope pos) iter1 acc env) (.compLoop (sc2 elt tg iter ifs tg1 iter1 ifs1 scope pos) 0 it acc env) it env := by
  unfold turnOf actOut
  simp only [bind_assoc]
  rfl
theorem turn_in (it acc : Value) (env : Env) : compTurn (sc2 elt tg iter ifs tg1 iter1 ifs1 scope pos) 1 it acc env =
    turnOf tg1 iter1 ifs1 (actIn elt acc env) (.compLoop (sc2 elt tg iter ifs tg1 iter1 ifs1 scope pos) 1 it acc env) it env := by rfl
/-- {elt for tg in iter if .. for tg1 in iter1 if ..} -/
def tSc2 (P : Program) (w : World) (wi : TI) (g : TG) (tt : TT) (wi1 : TI) (g1 : TG) (tt1 : TT) (te : TE) (vs vs1 : List Nat) : TE := fun σ H Q => wi σ H fun J H1 => ∀ D, H1 D = none → ∃ W : Nat → Nat → Hp → Prop, (∃ m, W 0 m (upd H1 D (SetX P w D []))) ∧
  ∀ i m H, W i m H → (J.stop i H ∧ Q (.ref D) H) ∨ (J.go i H ∧ ∃ Nx : Hp → Prop, (∀ H', Nx H' → ∃ m', m' < m ∧ W (i + 1) m' H') ∧ ∀ x H', J.yld i H x H' → g x (wipe σ vs) H' fun σ2 H2 => wipe σ2 vs = wipe σ vs ∧ tt σ2 H2 fun b H3 =>
    if b = true then wi1 σ2 H3 fun Ji H4 => ∃ W1 : Nat → Nat → Hp → Prop, (∃ m, W1 0 m H4) ∧ ∀ j k H, W1 j k H →
      (Ji.stop j H ∧ Nx H) ∨ (Ji.go j H ∧ ∃ Ny : Hp → Prop, (∀ H', Ny H' → ∃ k', k' < k ∧ W1 (j + 1) k' H') ∧ ∀ x H', Ji.yld j H x H' → g1 x (wipe σ2 vs1) H' fun σ3 H5 => wipe σ3 vs1 = wipe σ2 vs1 ∧ tt1 σ3 H5 fun b H6 =>
        if b = true then te σ3 H6 fun y H7 => ∃ k ks, y = kV k ∧ H7 D = some (SetX P w D ks) ∧ ks.length + 1 < scanBound ∧ Ny (upd H7 D (SetX P w D (addK ks k))) else Ny H6)
    else Nx H3)
theorem start_in {M : Model} {A : Around} {R : Result → Shared → Prop} {s : Shared} {it acc : Value} {env : Env} (prog : Program) (w : World) (eM : M = model prog w)
    (h0 : codeAny M A (.compLoop (sc2 elt tg iter ifs tg1 iter1 ifs1 scope pos) 1 it acc env) R s) (h : wpAny M A (pyIter it) (fun it' s' => codeAny M A (.compLoop (sc2 elt tg iter ifs tg1 iter1 ifs1 scope pos) 1 it' acc env) R s') never s) :
    codeAny M A (.compStart (sc2 elt tg iter ifs tg1 iter1 ifs1 scope pos) 1 it acc env) R s := by
  subst eM
  have h' := wpAny_mono (E' := notedBy (model prog w) A env fun x s' => R (.error x) s') h (fun _ _ z => z) fun _ _ z => z.elim
  refine codeAny_of_tree ?_
  show wpAny _ _ ((compStart (sc2 elt tg iter ifs tg1 iter1 ifs1 scope pos) 1 it acc env).onRaise (fun x => do noteFrame x env; standAt theWindowsPlace)) _ _ s
  refine wpAny_notedAt ?_
  unfold compStart
  show wpAny _ _ (ask >>= _) _ _ s
  refine wpAny_bind (wpAny_askSetting (wpAny_ite ?_))
  split
  · first
      | exact wpAny_bind (wpAny_pure (wpAny_pure ⟨rfl, h0⟩))
      | exact wpAny_pure ⟨rfl, h0⟩
  · first
      | exact wpAny_bind (wpAny_rule (wpAny_bind (wpAny_standAt (wpAny_bind (thn h' fun it' s' z => wpAny_pure ⟨rfl, z⟩)))))
      | (refine wpAny_bind (wpAny_rule ?_); show wpAny _ _ (standAt iter1.pos >>= _) _ _ s; exact wpAny_bind (wpAny_standAt (wpAny_bind (thn h' fun it' s' z => wpAny_pure ⟨rfl, z⟩))))
abbrev forBlk (X : Cx) (scope : Scope) (F : Cx → Prop) : Prop := ∀ (s : Shared) (H : Hp) (C : Addr) (cl : List (Str × Addr)) (fp : List Addr), F (X.blk s H scope (compEnvC scope cl C X.env) fp)
theorem pe_sc2 {own : List (Str × Nat)} {vs1 : List Nat} {wi wi1 : TI} {g g1 : TG} {tt tt1 : TT} {te : TE} (hc : X.calm = true) (hN : X.N.Nodup) (hi : PI X tg iter wi) (ok : BlkOk X.N X.env.scope scope own) (hv : ∀ i ∈ vs1, i ∈ own.map (·.2))
    (hg : forBlk X scope fun Y => PG Y tg g) (ht : forBlk X scope fun Y => PTs Y ifs tt) (hi1 : forBlk X scope fun Y => PI Y tg1 iter1 wi1) (hg1 : forBlk X scope fun Y => PG Y tg1 g1) (ht1 : forBlk X scope fun Y => PTs Y ifs1 tt1) (he : forBlk X scope fun Y => PE Y elt te)
    (hs : ∀ x, foldedSetIterable iter X.env x = pure x) (hs1 : ∀ env x, foldedSetIterable iter1 env x = pure x) :
    PE X (sc2 elt tg iter ifs tg1 iter1 ifs1 scope pos) (tSc2 X.prog X.w wi g tt wi1 g1 tt1 te (own.map (·.2)) vs1) := by
  refine ⟨fun pins s σ H Q I hq => ?_⟩
  rw [PpSet.eval_SetComp]
  have caught : ∀ y ∈ scope.names, y.2 = .free → ∃ c, X.env.cells.lookup y.1 = some c := fun y hy e => (ok.free y hy e).elim (fun k => I.ok.has _ (.inl k)) fun k => I.ok.has _ (.inr k)
  refine wpAny_comprehension_free (use := none) rfl hs (closure_ok caught) ok.kind (fun y hy e => (ok.uniq y hy).trans (congrArg some e)) (thn (hi.run pins s σ H _ I hq) fun xv s1 hx => thn hx fun itv s2 h2 => ?_)
  obtain ⟨it, fp, tn, J, H2, rfl, I2, T, st2, f2, q⟩ := h2
  refine PpSet.newSet_ok (newEnv_comp ?_)
  obtain ⟨D, hD⟩ : ∃ D, s2.heap.objs.size = D := ⟨_, rfl⟩
  obtain ⟨s3, hs3⟩ : ∃ s3 : Shared, { s2 with heap := s2.heap.push (fresh X.w) } = s3 := ⟨_, rfl⟩
  have up : ∀ b o, s2.heap.get? b = some o → s3.heap.get? b = some o := fun b o e => hs3 ▸ Heap.get?_push_of_some _ e
  have atD : s3.heap.get? D = some (fresh X.w) := by rw [← hs3, ← hD]; exact Heap.get?_push_size _ rfl
  have z3 : s3.heap.objs.size = D + 1 := by rw [← hs3, ← hD]; exact Heap.size_push ..
  have nD : H2 D = none := I2.hok.fresh (Nat.le_of_eq hD)
  obtain ⟨W, ⟨m0, w0⟩, turn⟩ := q D nD
  have I3 : Inv X pins σ (upd H2 D (SetX X.prog X.w D [])) s3 := by
    have z := I2.laid (t' := s2.toks) (a := D) (o := SetX X.prog X.w D []) up (Nat.le_of_eq hD) (setX_new (setM_fresh atD))
    rw [← hs3]
    rw [← hs3] at z
    exact z
  have fD : ∀ b ∈ fp, b < D := fun b hb => by
    obtain ⟨o, e, _⟩ := T.obj _ _ st2 b hb
    rw [← hD]
    exact Heap.lt_size e
  have f3 : ∀ b ∈ fp, FpOk X pins (upd H2 D (SetX X.prog X.w D [])) b ∧ b < s3.heap.objs.size := fun b hb =>
    ⟨⟨(upd_ne (Nat.ne_of_lt (fD b hb))).trans (f2 b hb).1, (f2 b hb).2⟩, by rw [z3]; exact Nat.lt_succ_of_lt (fD b hb)⟩
  have I4 := block_start I3 ok hN f3
  have st3 : tn 0 s3.heap := T.keep _ _ _ st2 fun b _ o e => up b o e
  obtain ⟨ce, hce⟩ : ∃ ce, compEnvC scope (cellsFrom (s3.heap.objs.size + 1) scope.names (cloFrom X.env.cells scope.names [])) s3.heap.objs.size X.env = ce := ⟨_, rfl⟩
  obtain ⟨H3, hH3⟩ : ∃ H3, upd H2 D (SetX X.prog X.w D []) = H3 := ⟨_, rfl⟩
  have pg := hg s3 H3 s3.heap.objs.size (cellsFrom (s3.heap.objs.size + 1) scope.names (cloFrom X.env.cells scope.names [])) fp
  have pt := ht s3 H3 s3.heap.objs.size (cellsFrom (s3.heap.objs.size + 1) scope.names (cloFrom X.env.cells scope.names [])) fp
  have pi1 := hi1 s3 H3 s3.heap.objs.size (cellsFrom (s3.heap.objs.size + 1) scope.names (cloFrom X.env.cells scope.names [])) fp
  have pg1 := hg1 s3 H3 s3.heap.objs.size (cellsFrom (s3.heap.objs.size + 1) scope.names (cloFrom X.env.cells scope.names [])) fp
  have pt1 := ht1 s3 H3 s3.heap.objs.size (cellsFrom (s3.heap.objs.size + 1) scope.names (cloFrom X.env.cells scope.names [])) fp
  have pe := he s3 H3 s3.heap.objs.size (cellsFrom (s3.heap.objs.size + 1) scope.names (cloFrom X.env.cells scope.names [])) fp
  rw [hce] at pg pt pi1 pg1 pt1 pe I4
  rw [hH3] at I3 I4 f3 w0
  have cL : ce.locals = s3.heap.objs.size := hce ▸ rfl
  rw [hD]
  have same : ({ s2 with heap := s2.heap.push { cls := .type "set", dict := none, data := .set #[] 0 (.fresh 0 0 (!X.w.params.followText "set-order")) } } : Shared) = s3 := hs3
  rw [same]
  show codeAny _ _ (.compStart (sc2 elt tg iter ifs tg1 iter1 ifs1 scope pos) 0 (.ref it) (.ref D) (compEnvC scope (cellsFrom (s3.heap.objs.size + 1) scope.names (cloFrom X.env.cells scope.names [])) s3.heap.objs.size X.env)) (compPost (model X.prog X.w) X.A X.xe none (EP X pins σ Q) (.ref D) s3.heap.objs.size) { s3 with heap := pushCells (s3.heap.push { cls := .type "dict", data := .dict #[] }) scope.names }
  rw [hce]
  obtain ⟨s4, hs4⟩ : ∃ s4 : Shared, { s3 with heap := pushCells (s3.heap.push { cls := .type "dict", data := .dict #[] }) scope.names } = s4 := ⟨_, rfl⟩
  rw [hs4] at I4 ⊢
  have st4 : tn 0 s4.heap := T.keep _ _ _ st3 fun b _ o e => hs4 ▸ pushCells_keeps _ _ _ _ (Heap.get?_push_of_some _ e)
  -- the element's turn
  have inner : ∀ (pl : List (Addr × Obj)) (s : Shared) (σ5 : L2.St) (H5 : Hp) (Nx : Hp → Prop), Inv (X.blk s3 H3 scope ce fp) pl σ5 H5 s →
      (te σ5 H5 fun y H7 => ∃ k ks, y = kV k ∧ H7 D = some (SetX X.prog X.w D ks) ∧ ks.length + 1 < scanBound ∧ Nx (upd H7 D (SetX X.prog X.w D (addK ks k)))) →
      wpAny (model X.prog X.w) X.A (actIn elt (.ref D) ce) (fun _ s' => ∃ τ H', Inv (X.blk s3 H3 scope ce fp) pl τ H' s' ∧ Knows σ5 τ vs1 ∧ Nx H') never s := fun pl s σ5 H5 Nx I5 q5 => by
    unfold actIn
    refine wpAny_bind (thn (pe.run _ s σ5 H5 _ I5 q5) fun u s6 ⟨v, H6, I6, r6, k, ks, ek, l6, room, nx⟩ => wpAny_bind (wpAny_standAt (wpAny_bind ?_)))
    subst ek
    refine thn (mt_saddX (X := X.blk s3 H3 scope ce fp) _ s6 σ5 H6 (.ref D) [kV k] (.ref D) [u] (fun _ H' => Nx H') I6 rfl (.cons r6 .nil) ⟨D, k, ks, rfl, rfl, l6, room, nx⟩) fun _ s7 ⟨v7, H7, I7, _, nx7⟩ => wpAny_pure ⟨σ5, H7, I7, ⟨rfl, fun j v e => (wipe_some e).1⟩, nx7⟩
  -- the second clause from its start
  have outer : ∀ (pl : List (Addr × Obj)) (s : Shared) (σ5 : L2.St) (H5 : Hp) (Nx : Hp → Prop), Inv (X.blk s3 H3 scope ce fp) pl σ5 H5 s →
      (wi1 σ5 H5 fun Ji H4 => ∃ W1 : Nat → Nat → Hp → Prop, (∃ m, W1 0 m H4) ∧ ∀ j k H, W1 j k H →
        (Ji.stop j H ∧ Nx H) ∨ (Ji.go j H ∧ ∃ Ny : Hp → Prop, (∀ H', Ny H' → ∃ k', k' < k ∧ W1 (j + 1) k' H') ∧ ∀ x H', Ji.yld j H x H' → g1 x (wipe σ5 vs1) H' fun σ3 H5 => wipe σ3 vs1 = wipe σ5 vs1 ∧ tt1 σ3 H5 fun b H6 =>
          if b = true then te σ3 H6 fun y H7 => ∃ k ks, y = kV k ∧ H7 D = some (SetX X.prog X.w D ks) ∧ ks.length + 1 < scanBound ∧ Ny (upd H7 D (SetX X.prog X.w D (addK ks k))) else Ny H6)) →
      wpAny (model X.prog X.w) X.A (actOut (sc2 elt tg iter ifs tg1 iter1 ifs1 scope pos) iter1 (.ref D) ce) (fun _ s' => ∃ τ H', Inv (X.blk s3 H3 scope ce fp) pl τ H' s' ∧ Knows σ5 τ (own.map (·.2)) ∧ Nx H') never s := fun pl s σ5 H5 Nx I5 q5 => by
    unfold actOut
    refine wpAny_bind (thn (pi1.run _ s σ5 H5 _ I5 q5) fun xv s6 hx => wpAny_bind (wpAny_standAt (wpAny_bind (wpAny_of_eq (hs1 ce xv) (wpAny_bind (wpAny_holding (thn hx fun itv s7 h7 => ?_)))))))
    obtain ⟨it1, fp1, tn1, Ji, H7, rfl, I7, T1, st7, f7, W1, ⟨m1, w1⟩, turn1⟩ := h7
    refine wpAny_bind (wpAny_runOwn ?_)
    rw [Around.mark_none]
    have lp := loop_turns (Y := X.blk s3 H3 scope ce fp) hc (c := sc2 elt tg iter ifs tg1 iter1 ifs1 scope pos) (i := 1) (acc := .ref D) T1 (turn_in ..) rfl rfl rfl pg1 pt1 (vs := vs1) (pins := pl) (fun I' n b hb => ⟨n b hb, (f7 b hb).2⟩)
      (fun pl' s' σ' H' Nx' I' q' => inner _ s' σ' H' Nx' I' q') turn1 (I7.weak (wipe_length _ _) fun j v e => (wipe_some e).1) st7 (fun b hb => (f7 b hb).1) w1
    have lp' := codeAny_mono (R' := fun r s' => match r with | .ok f => ∃ τ H', Inv (X.blk s3 H3 scope ce fp) pl τ H' s' ∧ Knows σ5 τ (own.map (·.2)) ∧ Nx H' | .error e => cameBackBy (model X.prog X.w) X.A ce never e s') lp fun r s' ⟨hr, H', I', nx⟩ => by
      subst hr
      refine ⟨_, H', I', ⟨wipe_length _ _, fun j v e => ?_⟩, nx⟩
      obtain ⟨e1, e2⟩ := wipe_some e
      exact (wipe_out fun z => e2 (hv j z)).trans e1
    exact codeAny_mono (start_in X.prog X.w rfl lp' (T1.self X.A 0 _ _ _ st7 lp')) fun r s' z => by
      cases r with
      | ok f => exact wpAny_pure z
      | error e => exact z
  have whole := loop_turns (Y := X.blk s3 H3 scope ce fp) hc (c := sc2 elt tg iter ifs tg1 iter1 ifs1 scope pos) (i := 0) (acc := .ref D) T (turn_out ..) rfl rfl rfl pg pt (vs := own.map (·.2)) (pins := [])
    (fun {σ' H' s'} I' n b hb => ⟨n b hb, (I'.ok.exf b hb).1, I'.ok.exfs b hb, .inl hb, fun y c z => (I'.ok.exf b hb).2 y c z, fun p hp => by simp at hp⟩)
    (fun pl' s' σ' H' Nx' I' q' => outer _ s' σ' H' Nx' I' q') turn I4 st4 (fun b hb => (f3 b hb).1.1) w0
  have done := codeAny_mono (R' := compPost (model X.prog X.w) X.A X.xe none (EP X pins σ Q) (.ref D) s3.heap.objs.size) whole fun r s6 ⟨hr, H6, I6, q6⟩ => by
    subst hr
    have I7 : Inv X pins σ H6 s6 := I3.call' (ch := fp) I6.os I6.base I6.hok I6.bare fun b hb => let ⟨_, a1, a2, a3, a4, a5⟩ := (f3 b hb).1; ⟨a3, a1, a4, a5⟩
    have nC : H6 s3.heap.objs.size = none := cL ▸ (show H6 ce.locals = none from I6.free)
    obtain ⟨m, hn, _⟩ := I6.loc
    obtain ⟨_, y1, y2, y3, y4, y5⟩ := I3.fpOk (H' := H6) (Nat.le_refl _) nC
    exact ⟨m, cL ▸ (show s6.heap.Ns ce.locals m from hn), fun h' sb => ⟨.ref D, H6, I7.turned (t' := s6.toks) (fun b o hb e => (sb.2 b hb).trans e) nC y1 y3 y4 y5, rfl, q6⟩⟩
  exact PpSet.codeAny_compStart_set done (T.self X.A 0 _ _ _ st4 done)
end
end Mp


set_option Elab.async false
set_option linter.all false
set_option maxRecDepth 100000
set_option maxHeartbeats 1000000
/-! an own class's special methods: ==, !=, len, str, repr, bool -/
namespace Mp
open PySem PySem.Spec PyProof.Rows L2
section
variable {X : Cx} {pins : List (Addr × Obj)} {σ : L2.St} {H : Hp} {s : Shared} {A : Around} {a C dx f : Addr} {fs : List (Str × V)}
/-- a def called anywhere below the running body -/
theorem run_sub {CX : CXT} {k : Nat} {fd : FuncData} {ps : List Str} {sp : Sp} {E : L2.St → XK} {Q : VK} {us : List Value} {vs : List V} (F : FnOk X.prog X.w X.K X.mg X.base CX k f fd ps sp) (hr : Room k A) (fr : A.frames = X.A.frames) (hb : Binds X.K fd ps []) (hx : PassesAt CX X σ (E σ))
    (I : Inv X pins σ H s) (r : Vals vs us) (h : sp vs H Q (E σ)) : wpAny (model X.prog X.w) A (call (.ref f) us) (EP X pins σ Q) X.xe s := by
  have hl : us.length = ps.length := by rw [← r.length]; exact F.len _ _ _ _ h
  have b := hb s us I.kIn (by rw [List.append_nil]; exact hl)
  rw [List.append_nil] at b
  have e0 : Env0 X.prog X.w X.K X.mg X.base A X.stack s H := by
    have e := I.env0
    exact ⟨by rw [fr]; exact e.frames, e.mod, e.bs, e.bsz, e.funs, e.frf, e.hok, e.bare⟩
  refine wpAny_call (codeAny_mono (F.run A X.stack s H ⟨us, []⟩ us vs Q (E σ) hr e0 b r h) fun r s' hq => ?_)
  cases r with
  | error e => exact hx pins H s e s' I hq
  | ok fl =>
    cases fl with
    | ret u => exact I.after hq
    | next => exact False.elim hq
    | brk => exact False.elim hq
    | cont => exact False.elim hq
theorem own_eq {b tb : Value} {Q : Value → Shared → Prop} (hu : A.units < cLine) (I : Inv X pins σ H s) (ha : H a = some (.ins C dx fs)) (mt : Meth X.K C "__eq__" f) (hb : PySem.W.Looks (model X.prog X.w) s.heap (typeOf b) tb) (hn : PySem.W.notFirst X.K C tb = true)
    (h : wpAny (model X.prog X.w) A (call (.ref f) [.ref a, b]) (PySem.W.CmpBack Q) X.xe s) : wpAny (model X.prog X.w) A (richCompare .Eq (.ref a) b) Q X.xe s := by
  obtain ⟨mA, O, _⟩ := ins_get I.hok ha
  obtain ⟨od, J, _⟩ := O.look
  obtain ⟨m, hF⟩ := I.fr
  exact PySem.W.cmp_K (op := .Eq) hu hF I.ok.mod.kin J hb hn mt.at_ mt.fn h
theorem own_len {Q : Value → Shared → Prop} (I : Inv X pins σ H s) (ha : H a = some (.ins C dx fs)) (mt : Meth X.K C "__len__" f)
    (h : wpAny (model X.prog X.w) A.in1 (call (.ref f) [.ref a]) (PySem.W.LenBack Q) X.xe s) : wpAny (model X.prog X.w) A (call (.builtin "len") [.ref a]) Q X.xe s := by
  obtain ⟨mA, O, _⟩ := ins_get I.hok ha
  obtain ⟨od, J, _⟩ := O.look
  obtain ⟨m, hF⟩ := I.fr
  exact PySem.W.len_K hF I.ok.mod.kin J mt.at_ mt.fn h
theorem own_repr {Q : Value → Shared → Prop} (hu : A.in1.units < cLine) (I : Inv X pins σ H s) (ha : H a = some (.ins C dx fs)) (mt : Meth X.K C "__repr__" f)
    (h : wpAny (model X.prog X.w) A.in1 (call (.ref f) [.ref a]) (PySem.W.StrBack Q) X.xe s) : wpAny (model X.prog X.w) A (call (.builtin "repr") [.ref a]) Q X.xe s := by
  obtain ⟨mA, O, _⟩ := ins_get I.hok ha
  obtain ⟨od, J, _⟩ := O.look
  obtain ⟨m, hF⟩ := I.fr
  exact PySem.W.repr_K hu hF I.ok.mod.kin J mt.at_ mt.fn h
theorem ne_bind (self : Value) : bindSpecial (.builtin "object.__ne__") self = pure (.builtin "object.__ne__", [self]) := F.cmp_object.ne.bind self
/-- the check of object.__ne__'s receiver -/
theorem ne_check {ox : Obj} {od : Option Obj} {x : Addr} {y : Value} {Q : Unit → Shared → Prop} {M : Model} {E : Value → Shared → Prop} (X0 : X.K.In s.heap) (J : PySem.W.InstAt s.heap x ox C od) (hm : PySem.W.mroIn X.K C (.type "object") = some true) (hq : Q () s) :
    wpAny M A (checkBuiltinCall "object.__ne__" ⟨[.ref x, y], []⟩) Q E s := by
  simp only [checkBuiltinCall, F.cmpKind_ne, F.cmpSplit_ne]
  refine wpAny_bind ?_
  unfold isInstance
  refine wpAny_bind (J.type.here ((PySem.W.looks_mroIn X0 hm).here ?_))
  have ha := F.cmpArgs_ne (.ref x) y
  cases hsig : Manifest.signature? "object.__ne__" with
  | none => exact wpAny_pure hq
  | some sig =>
    simp only [argsOk, hsig] at ha
    have h2 : Bind.checkArgs "object.__ne__" sig ⟨[.ref x, y], []⟩ = pure () := ha
    show wpAny M A (Bind.checkArgs "object.__ne__" sig ⟨[.ref x, y], []⟩) Q E _
    rw [h2]; exact wpAny_pure hq
/-- how a truth comes back -/
def NotBack (Q : Value → Shared → Prop) (v : Value) (s' : Shared) : Prop := match v with
  | .bool b => Q (.bool (!b)) s'
  | _ => False
theorem ne_entry {ox : Obj} {od : Option Obj} {x : Addr} {y : Value} {Q : Fin → Shared → Prop} {E : Value → Shared → Prop} (X0 : X.K.In s.heap) (J : PySem.W.InstAt s.heap x ox C od) (mt : Meth X.K C "__eq__" f) (hu : A.units < cLine)
    (h : wpAny (model X.prog X.w) A (call (.ref f) [.ref x, y]) (NotBack fun v s' => Q (.done (.ret v)) s') E s) :
    wpAny (model X.prog X.w) A (Builtin.«object.__ne__» ⟨[.ref x, y], []⟩) Q E s := by
  unfold Builtin.«object.__ne__»
  repeat (first
    | with_reducible refine wpAny_cRoomFor hu ?_
    | (refine wpAny_bind (m := callSpecialIfBound? (.ref x) (Str.ofString "__eq__") [y])
        (PySem.W.ifBound_K X0 J mt.at_ mt.fn (wpAny_mono h (fun r s' hr => by
          cases r <;> first | exact hr.elim | skip
          rename_i b
          have hq : Q (.done (.ret (.bool (!b)))) s' := hr
          repeat (first | exact hq | exact wpAny_pure hq | exact wpAny_truthy_bool hq | (refine wpAny_bind (m := truthy (.bool _)) (wpAny_truthy_bool ?_)) | wp_step)) fun _ _ e => e)))
    | wp_step)
theorem own_ne {b tb : Value} {Q : Value → Shared → Prop} (hu : A.units + 1 < cLine) (I : Inv X pins σ H s) (ha : H a = some (.ins C dx fs)) (mt : Meth X.K C "__eq__" f) (hne : PySem.W.findIn X.K (.ref C) "__ne__" = some (some (.builtin "object.__ne__"))) (hm : PySem.W.mroIn X.K C (.type "object") = some true)
    (hb : PySem.W.Looks (model X.prog X.w) s.heap (typeOf b) tb) (hn : PySem.W.notFirst X.K C tb = true)
    (h : wpAny (model X.prog X.w) A.in1 (call (.ref f) [.ref a, b]) (NotBack Q) X.xe s) : wpAny (model X.prog X.w) A (richCompare .NotEq (.ref a) b) Q X.xe s := by
  obtain ⟨mA, O, _⟩ := ins_get I.hok ha
  obtain ⟨od, J, _⟩ := O.look
  obtain ⟨m, hF⟩ := I.fr
  have X0 := I.ok.mod.kin.keeps hF.keep
  have one : wpAny (model X.prog X.w) A (tryCompare (.ref a) "__ne__" b) (fun r s' => ∃ v, r = some v ∧ Q v s') X.xe s := by
    have en : wpAny (model X.prog X.w) A (call (.builtin "object.__ne__") ([.ref a] ++ [b])) (fun v s' => ∃ z, v = .bool z ∧ Q (.bool z) s') X.xe s :=
      wpAny_call (codeAny_call_builtin F.cmp_object.ne.plain F.cmpEntry_ne (ne_check X0 J hm (ne_entry (A := A.in1) X0 J mt hu (wpAny_mono h (fun r s' hr => by
        cases r <;> first | exact hr.elim | skip
        exact ⟨_, rfl, hr⟩) fun _ _ e => e))))
    simp only [tryCompare]
    refine wpAny_bind ?_
    simp only [callSpecialIfBound?, bindSpecialIfBound?]
    refine wpAny_holding (wpAny_bind (wpAny_bind (wpAny_bind (J.type.here ((PySem.W.looks_findIn X0 hne).here ?_)))))
    refine wpAny_bind (wpAny_askSetting (wpAny_ite ?_))
    simp only [ne_bind]
    split
    · refine wpAny_bind (wpAny_pure (wpAny_pure ?_))
      refine wpAny_bind (wpAny_mono en (fun v s' h' => ?_) fun _ _ h' => h')
      obtain ⟨z, rfl, q⟩ := h'
      exact wpAny_pure (wpAny_pure ⟨_, rfl, q⟩)
    · refine wpAny_tryCatch (wpAny_bind (wpAny_pure (wpAny_pure ?_)))
      refine wpAny_bind (wpAny_mono en (fun v s' h' => ?_) fun _ _ h' => h')
      obtain ⟨z, rfl, q⟩ := h'
      exact wpAny_pure (wpAny_pure ⟨_, rfl, q⟩)
  unfold richCompare
  simp only [oneThing_ref]
  refine wpAny_holding (wpAny_bind (wpAny_cRoomFor (Nat.lt_of_succ_lt hu) ?_))
  refine wpAny_bind (J.type.here (wpAny_bind (hb.here ?_)))
  split
  · rename_i q
    have e : PySem.W.subIn X.K tb (.ref C) = some false := by
      rcases Bool.or_eq_true_iff.mp hn with e | e
      · rw [beq_iff_eq.mp e] at q; simp at q
      · exact beq_iff_eq.mp e
    refine wpAny_bind ((PySem.W.looks_subIn X0 e).here ?_)
    simp only [Bool.false_eq_true, if_false]
    refine wpAny_bind (wpAny_mono one (fun r s' z => ?_) fun _ _ e => e)
    obtain ⟨v, rfl, hq⟩ := z
    exact wpAny_pure hq
  · refine wpAny_bind (wpAny_pure ?_)
    simp only [Bool.false_eq_true, if_false]
    refine wpAny_bind (wpAny_mono one (fun r s' z => ?_) fun _ _ e => e)
    obtain ⟨v, rfl, hq⟩ := z
    exact wpAny_pure hq
end
end Mp


set_option Elab.async false
set_option linter.all false
set_option maxRecDepth 100000
set_option maxHeartbeats 1000000
namespace Mp
open PySem PySem.Spec PyProof.Rows L2
section
variable {X : Cx} {pins : List (Addr × Obj)} {σ : L2.St} {H : Hp} {s : Shared} {A : Around} {a C dx f : Addr} {fs : List (Str × V)}
open Builtin Builtin.Str in
theorem str_newIn {prog : Program} {w : World} (v : Value) : MeetsIn prog w («str.__new__» ⟨[.type "str", v], []⟩) (fun A R s => wpAny (model prog w) A.in1 (Builtin.Str.strOf v) (fun r s' => R (.ok (.ret r)) s') (fun e s' => R (.error e) s') s) := .of_wp fun A R s h => by
  rw [str_new_tree v]
  refine wpAny_bind (wpAny_pure ?_)
  refine wpAny_bind (wpAny_of_eq isSubtype_str_str ?_)
  exact wpAny_bind (wpAny_mono h (fun r s' h' => wpAny_pure ⟨_, rfl, h'⟩) fun _ _ e => e)
open Builtin Builtin.Str in
theorem own_str {Q : Value → Shared → Prop} (hu : A.units + 3 < cLine) (I : Inv X pins σ H s) (ha : H a = some (.ins C dx fs)) (mt : Meth X.K C "__str__" f)
    (h : wpAny (model X.prog X.w) A.in1.in1 (call (.ref f) [.ref a]) (PySem.W.StrBack Q) X.xe s) : wpAny (model X.prog X.w) A (call (.type "str") [.ref a]) Q X.xe s := by
  obtain ⟨mA, O, _⟩ := ins_get I.hok ha
  obtain ⟨od, J, _⟩ := O.look
  obtain ⟨m, hF⟩ := I.fr
  have X0 := I.ok.mod.kin.keeps hF.keep
  refine callType_newIn F.called_str (by decide) (F.typeCall_str_1 _) (F.newCall_str_1 _) (fun obj => F.args_object_init_2 obj _) F.entry_str_new (str_newIn _) ?_
  unfold Builtin.Str.strOf
  simp only [isExactStr, Bool.false_eq_true, if_false]
  refine wpAny_bind (wpAny_cRoomFor (by show A.units + 1 + 1 < cLine; omega) ?_)
  refine wpAny_bind (m := callSpecial? (.ref a) (Str.ofString "__str__")) (PySem.W.special_fn X0 J mt.at_ (beq_iff_eq.mp mt.fn) (wpAny_mono h (fun r s' hr => ?_) fun _ _ y => y))
  cases r <;> first | exact hr.elim | skip
  refine wpAny_bind (wpAny_pure ?_)
  simp only [Option.isNone_some, Bool.false_eq_true, if_false]
  exact wpAny_pure ⟨typeIs_str _ _ _, hr⟩
def ZeroBack (Q : Bool → Shared → Prop) (v : Value) (s' : Shared) : Prop := match v with
  | .int n _ => (0 ≤ n ∧ n < 2 ^ 63) ∧ Q (n != 0) { s' with toks := s'.toks + 1 }
  | _ => False
theorem len_body {ox : Obj} {od : Option Obj} {x : Addr} {Q : Value → Shared → Prop} {E : Value → Shared → Prop} (X0 : X.K.In s.heap) (J : PySem.W.InstAt s.heap x ox C od) (mt : Meth X.K C "__len__" f)
    (h : wpAny (model X.prog X.w) A (call (.ref f) [.ref x]) (PySem.W.LenBack Q) E s) :
    wpAny (model X.prog X.w) A (Builtin.«len» ⟨[.ref x], []⟩) (fun fin s' => ∃ r, fin = .done (.ret r) ∧ Q r s') E s := by
  unfold Builtin.«len»
  refine wpAny_bind (m := oneArg "len" _) (wpAny_pure ?_)
  refine wpAny_bind (m := callSpecial? (.ref x) (Str.ofString "__len__")) (PySem.W.special_fn X0 J mt.at_ (beq_iff_eq.mp mt.fn) (wpAny_mono h (fun r s' hr => ?_) fun _ _ y => y))
  cases r <;> first | exact hr.elim | skip
  rename_i n u
  obtain ⟨⟨h0, h1⟩, hq⟩ := hr
  refine wpAny_bind (wpAny_holding (wpAny_pure ?_))
  refine wpAny_bind (wpAny_letGo ?_)
  show wpAny _ _ (if n < 0 then _ else _) _ _ _
  rw [if_neg (by omega)]
  show wpAny _ _ (if n ≥ 2 ^ 63 then _ else _) _ _ _
  rw [if_neg (by omega)]
  exact wpAny_bind (wpAny_mkInt (wpAny_pure ⟨_, rfl, hq⟩))
theorem own_truth {ox : Obj} {od : Option Obj} {x : Addr} {Q : Bool → Shared → Prop} {E : Value → Shared → Prop} (X0 : X.K.In s.heap) (J : PySem.W.InstAt s.heap x ox C od) (mt : Meth X.K C "__len__" f) (hb : PySem.W.findIn X.K (.ref C) "__bool__" = some none)
    (h : wpAny (model X.prog X.w) A.in1 (call (.ref f) [.ref x]) (ZeroBack Q) E s) : wpAny (model X.prog X.w) A (truthy (.ref x)) Q E s := by
  have key : wpAny (model X.prog X.w) A (runValue (.builtin "len" ⟨[.ref x], []⟩)) (fun r s' => ∃ n t, r = .int n t ∧ Q (n != 0) s') E s := by
    refine wpAny_runValue (codeAny_builtin entry_len ?_)
    rw [Around.under_plainId plain_len _]
    exact wpAny_mono (len_body (Q := fun r s' => ∃ n t, r = .int n t ∧ Q (n != 0) s') X0 J mt (wpAny_mono h (fun r s' hr => by
      cases r <;> first | exact hr.elim | skip
      exact ⟨hr.1, _, _, rfl, hr.2⟩) fun _ _ e => e))
      (fun fin s' h' => by obtain ⟨r, rfl, hq⟩ := h'; exact hq) fun _ _ e => e
  unfold truthy
  refine wpAny_bind (m := callSpecial? (.ref x) (Str.ofString "__bool__")) (wpAny_bind (wpAny_bind (J.type.here ((PySem.W.looks_findIn X0 hb).here (wpAny_pure ?_)))))
  refine wpAny_bind (wpAny_bind (J.type.here ((PySem.W.looks_findIn X0 mt.at_).here ?_)))
  simp only [Option.isNone_some, Bool.false_eq_true, if_false]
  refine wpAny_bind (wpAny_mono key (fun r s' h' => ?_) fun _ _ e => e)
  obtain ⟨n, t, rfl, hq⟩ := h'
  exact wpAny_pure hq
theorem bool_newIn {prog : Program} {w : World} (v : Value) : MeetsIn prog w (Builtin.«bool.__new__» ⟨[.type "bool", v], []⟩) (fun A R s => wpAny (model prog w) A.in1 (truthy v) (fun r s' => R (.ok (.ret (.bool r))) s') (fun e s' => R (.error e) s') s) := .of_wp fun A R s h => by
  obtain ⟨hp, g, d, tk, os⟩ := s
  have f1 := F.conv_sub_bool
  repeat (any_goals (first | assumption | (with_reducible refine wpAny_bind (m := truthy v) (wpAny_mono h (fun r s' h' => wpAny_pure ⟨_, rfl, h'⟩) fun _ _ e => e)) | wp_step))
theorem own_bool {Q : Value → Shared → Prop} (I : Inv X pins σ H s) (ha : H a = some (.ins C dx fs)) (mt : Meth X.K C "__len__" f) (hb : PySem.W.findIn X.K (.ref C) "__bool__" = some none)
    (h : wpAny (model X.prog X.w) A.in1.in1.in1 (call (.ref f) [.ref a]) (ZeroBack fun b s' => Q (.bool b) s') X.xe s) : wpAny (model X.prog X.w) A (call (.type "bool") [.ref a]) Q X.xe s := by
  obtain ⟨mA, O, _⟩ := ins_get I.hok ha
  obtain ⟨od, J, _⟩ := O.look
  obtain ⟨m, hF⟩ := I.fr
  have X0 := I.ok.mod.kin.keeps hF.keep
  refine callType_newIn F.called_bool F.newNe_bool (F.typeCall_bool_1 _) (F.newCall_bool_1 _) (fun obj => F.args_object_init_2 obj _) F.entry_bool_new (bool_newIn _) ?_
  refine own_truth (A := A.in1.in1) X0 J mt hb (wpAny_mono h (fun r s' hr => ?_) fun _ _ e => e)
  cases r <;> first | exact hr.elim | skip
  exact ⟨hr.1, rfl, hr.2⟩
end
end Mp


set_option Elab.async false
set_option linter.all false
set_option maxRecDepth 100000
set_option maxHeartbeats 1000000
/-! t[::-1] of a tuple -/
namespace HT
open PySem PySem.Spec PyProof.Rows
section
variable {prog : Program} {w : World} {A : Around} {E : Value → Shared → Prop} {s : Shared}
theorem sliceApplied_rev {sl : Addr} {vl vu vs : Value} {n : Nat} {Q : Int × Int × Nat → Shared → Prop} (hs : s.heap.IsSliceOf sl vl vu vs) (pl : IsPart vl none) (pu : IsPart vu none) (ps : IsPart vs (some (-1)))
    (h : Q ((n : Int) - 1, -1, n) s) : wpAny (model prog w) A (Builtin.Slice.sliceApplied (.ref sl) (pure (n : Int))) Q E s := by
  obtain ⟨os, hos, hcs, hds⟩ := id hs
  unfold Builtin.Slice.sliceApplied Builtin.Slice.sliceFields
  refine wpAny_bind (wpAny_bind (wpAny_field hos hds (x := vl) rfl (wpAny_bind (wpAny_field hos hds (x := vu) rfl (wpAny_bind (wpAny_field hos hds (x := vs) rfl (wpAny_pure ?_)))))))
  refine wpAny_bind (slicePart_ ps ?_)
  show wpAny _ _ (if ((-1 : Int) == 0) = true then _ else _) _ _ s
  rw [if_neg (by decide)]
  refine wpAny_bind (slicePart_ pl (wpAny_bind (slicePart_ pu (wpAny_bind (wpAny_pure ?_)))))
  show wpAny _ _ (pure ((n : Int) - 1, (-1 : Int), Builtin.Slice.slicePlaces ((n : Int) - 1) (-1) (-1))) _ _ s
  have e : Builtin.Slice.slicePlaces ((n : Int) - 1) (-1) (-1) = n := by
    unfold Builtin.Slice.slicePlaces
    have h1 : ¬ (-1 : Int) > 0 := by omega
    simp only [h1, if_false]
    split
    · rw [show (-(-1) : Int) = 1 by decide, Int.ediv_one]; omega
    · omega
  rw [e]
  exact wpAny_pure h
theorem fm_congr {α β : Type} {f g : α → Option β} : ∀ {l : List α}, (∀ x ∈ l, f x = g x) → l.filterMap f = l.filterMap g
  | [], _ => rfl
  | x :: l, h => by
    rw [List.filterMap_cons, List.filterMap_cons, h x (.head _), fm_congr fun y m => h y (.tail _ m)]
theorem pick_rev (xs : Array Value) : ((List.range xs.size).filterMap fun (m : Nat) => xs[((xs.size : Int) - 1 + (m : Int) * (-1)).toNat]?).toArray = xs.toList.reverse.toArray := by
  congr 1
  have e : ∀ m ∈ List.range xs.size, (fun (m : Nat) => xs[((xs.size : Int) - 1 + (m : Int) * (-1)).toNat]?) m = (xs.toList.reverse[m]?) := fun m hm => by
    have := List.mem_range.mp hm
    have q : ((xs.size : Int) - 1 + (m : Int) * (-1)).toNat = xs.toList.length - 1 - m := by rw [Array.length_toList]; omega
    simp only [q]
    rw [List.getElem?_reverse (by rw [Array.length_toList]; exact this)]
    simp
  rw [fm_congr e]
  have len : xs.size = xs.toList.reverse.length := by simp
  rw [len]
  generalize xs.toList.reverse = l
  clear e len
  have key : ∀ (l : List Value) (k : Nat), (List.range' k l.length).filterMap (fun m => if k ≤ m then l[m - k]? else none) = l := fun l => by
    induction l with
    | nil => intro k; rfl
    | cons x l ih =>
      intro k
      rw [List.length_cons, List.range'_succ, List.filterMap_cons]
      simp only [Nat.le_refl, if_true, Nat.sub_self, List.getElem?_cons_zero]
      congr 1
      have := ih (k + 1)
      refine Eq.trans (fm_congr fun m hm => ?_) this
      have hm := List.mem_range'_1.mp hm
      rw [if_pos (by omega), if_pos (by omega), show m - k = (m - (k + 1)) + 1 by omega, List.getElem?_cons_succ]
  have := key l 0
  rw [← List.range_eq_range'] at this
  simpa using this
theorem getItem_tuple_rev {t sl : Addr} {items : Array Value} {vl vu vs : Value} {Q : Value → Shared → Prop} (ht : IsTup s.heap t items) (hs : s.heap.IsSliceOf sl vl vu vs) (pl : IsPart vl none) (pu : IsPart vu none) (ps : IsPart vs (some (-1)))
    (h : Q (.ref s.heap.objs.size) { s with heap := s.heap.push { cls := .type "tuple", data := .seq items.toList.reverse.toArray } })
    (hsz : items.size ≤ sizeLine) : wpAny (model prog w) A (getItem (.ref t) (.ref sl)) Q E s := by
  have htake : sizeOk (.seq items.toList.reverse.toArray) := by
    show items.toList.reverse.toArray.size ≤ sizeLine
    simpa using hsz
  obtain ⟨os, hos, hcs, hds⟩ := id hs
  have hTs : s.TypeIs (.ref sl) "slice" := ⟨os, hos, hcs⟩
  unfold getItem
  try with_reducible refine wpAny_holding ?_
  first | refine wpAny_bind (wpAny_pure ?_) | skip
  refine wpAny_bind (wpAny_sequenceKey ht.typeIs (by decide) ?_)
  refine wpAny_bind (wpAny_callSpecial?_slot (name := Str.ofString "__getitem__") ht.typeIs PyProof.Rows.slot_tuple_getitem
    (wpAny_call_entry PyProof.Rows.slot_tuple_getitem ht.typeIs entry_tuple_getitem ?_ (args_tuple_getitem _ _)))
  show wpAny _ _ (Builtin.Tuple.tupleItemsOf (.ref t) >>= _) _ _ s
  refine wpAny_bind (tupleItemsOf_ ht ?_)
  refine wpAny_bind (wpAny_typeOf hTs ?_)
  rw [if_pos (by decide)]
  refine wpAny_bind (sliceApplied_rev hs pl pu ps ?_)
  have hno : ¬ ((((items.size : Int) - 1) == 0 && (-1 : Int) == 1 && items.size == items.size) = true) := by
    intro q
    rw [Bool.and_eq_true, Bool.and_eq_true] at q
    have := eq_of_beq q.1.2
    omega
  show wpAny _ _ (if (((items.size : Int) - 1) == 0 && (-1 : Int) == 1 && items.size == items.size) = true then _ else _) _ _ s
  rw [if_neg hno, pick_rev]
  first
    | exact wpAny_bind (m := Builtin.Tuple.tupleExact _) (wpAny_newObj_type (wpAny_pure ⟨_, rfl, wpAny_pure h⟩) htake)
    | exact wpAny_bind (m := Builtin.Tuple.tupleExact _) (wpAny_newObj_type (wpAny_bind (wpAny_pure (wpAny_pure ⟨_, rfl, wpAny_pure h⟩))) htake)
    | exact wpAny_bind (wpAny_bind (m := Builtin.Tuple.tupleExact _) (wpAny_newObj_type (wpAny_pure (wpAny_pure ⟨_, rfl, wpAny_pure h⟩)) htake))
    | exact wpAny_bind (wpAny_bind (m := Builtin.Tuple.tupleExact _) (wpAny_newObj_type (wpAny_pure ⟨_, rfl, wpAny_pure h⟩) htake))
end
end HT
namespace Mp
open PySem PySem.Spec PyProof.Rows L2
section
variable {X : Cx}
/-- xs[::-1] of a list or a tuple -/
def tRevA (K : PySem.W.Frag) (te : TE) : TE := fun σ H Q => te σ H fun x H1 => ∃ a xs, x = .ref a ∧ ((SqL K H1 a xs ∧ ∀ p, H1 p = none → Q (.ref p) (upd H1 p (.lst xs.reverse))) ∨ (SqT K H1 a xs ∧ ∀ p, H1 p = none → Q (.ref p) (upd H1 p (.tup xs.reverse))))
theorem pe_revA {e : Expr} {te : TE} {k : Nat} {p1 p2 p3 pos : Pos} (he : PE X e te) : PE X (.Subscript e (.Slice none none (some (.UnaryOp .USub (.Constant (.int 1) k p1) p2)) p3) pos) (tRevA X.K te) := by
  refine ⟨fun pins s σ H Q I h => ?_⟩
  refine Subscript_ (thn (he.run pins s σ H _ I h) fun v s1 ⟨x, H1, I1, r1, q1⟩ => ?_)
  obtain ⟨a, xs, ex, q⟩ := q1
  subst ex
  cases r1
  have hst : PO X (some (.UnaryOp .USub (.Constant (.int 1) k p1) p2)) (tPart (tUn (rU fun i => .int (-i)) (tC (.int 1)))) := po_some (pe_un un_neg pe_int)
  refine wpAny_Slice (thn (po_none.run pins s1 σ H1 (fun o H2 => o = none ∧ H2 = H1) I1 ⟨rfl, rfl⟩) fun vl s2 ⟨l, H2, I2, pl, el, e2⟩ => ?_)
  subst el e2
  refine thn (po_none.run pins s2 σ H2 (fun o H3 => o = none ∧ H3 = H2) I2 ⟨rfl, rfl⟩) fun vu s3 ⟨u, H3, I3, pu, eu, e3⟩ => ?_
  subst eu e3
  refine thn (hst.run pins s3 σ H3 (fun o H4 => o = some (-1) ∧ H4 = H3) I3 ⟨1, rfl, -1, rfl, rfl, rfl⟩) fun vs s4 ⟨o, H4, I4, ps, eo, e4⟩ => ?_
  subst eo e4
  have I5 : Inv X pins σ H4 { s4 with heap := s4.heap.push { cls := .type "slice", data := .fields #[vl, vu, vs] } } := I4.kept (t' := s4.toks) fun b ob q => Heap.get?_push_of_some _ q
  show wpAny (model X.prog X.w) X.A (subscriptTail e (.Slice none none (some (.UnaryOp .USub (.Constant (.int 1) k p1) p2)) p3) (.ref a) (.ref s4.heap.objs.size)) (EP X pins σ Q) X.xe { s4 with heap := s4.heap.push { cls := .type "slice", data := .fields #[vl, vu, vs] } }
  rcases q with ⟨hx, q⟩ | ⟨hx, q⟩
  · obtain ⟨its, r, ht, hz⟩ := I5.list hx
    have hlen := r.length
    refine tail_any (ops := [.ref a, .ref s4.heap.objs.size]) ht.isList.typeIs (PySem.slot_list_getitem.lookup) ?_ (by with_unfolding_all rfl)
    refine wpAny_getItem_list_slice ht.isList (Heap.IsSliceOf.new _ vl vu vs) pl pu ps (by decide) ?_ (by rw [List.size_toArray]; omega)
    rw [PySem.W.krv_pick]
    refine ⟨.ref _, _, I5.laid (t' := s4.toks) (o := .lst xs.reverse) (fun b ob q => Heap.get?_push_of_some _ q) (Nat.le_refl _) ?_, rfl, q _ (I5.hok.fresh (Nat.le_refl _))⟩
    exact ⟨by rw [List.length_reverse]; exact hz, _, 0, r.reverse, Heap.get?_push_size _ rfl⟩
  · obtain ⟨its, r, ht, hz⟩ := I5.tuple hx
    have hlen : its.toArray.size = xs.length := by rw [List.size_toArray]; exact r.length.symm
    refine tail_any (ops := [.ref a, .ref s4.heap.objs.size]) ht.typeIs (PyProof.Rows.slot_tuple_getitem.lookup) ?_ (by with_unfolding_all rfl)
    refine HT.getItem_tuple_rev ht (Heap.IsSliceOf.new _ vl vu vs) pl pu ps ?_ (by rw [hlen]; exact hz)
    refine ⟨.ref _, _, I5.laid (t' := s4.toks) (o := .tup xs.reverse) (fun b ob q => Heap.get?_push_of_some _ q) (Nat.le_refl _) ?_, rfl, q _ (I5.hok.fresh (Nat.le_refl _))⟩
    exact ⟨by rw [List.length_reverse]; exact hz, _, r.reverse, IsTup.new _ _⟩
end
end Mp


set_option Elab.async false
set_option linter.all false
set_option maxRecDepth 10000
/-! The abstract values, the abstract heap, and how the model's heap bears them. -/
namespace Mp
open PySem PySem.Spec PyProof.Rows L2

/-- pure data -/
inductive D where
  | non | bl (b : Bool) | int (i : Int) | str (x : Str)
  | lst (xs : List D) | tup (xs : List D) | dic (kvs : List (Key × D)) | obj (c : Nat) (fs : List (Str × D))
  /-- the script -/
  | scr (xs : List Int)
  /-- a dict of the written part: texts to flat values -/
  | kdc (kvs : List (Str × D))

/-- a value: data, a live cell, a sequence that stands still and holds live cells (true: a tuple) -/
inductive AV where
  | d (x : D) | r (n : Nat) | q (t : Bool) (xs : List AV)

/-- what a cell, or a name's own container, holds -/
inductive Cell where
  | lst (xs : List AV) | dic (kvs : List (Key × AV)) | ins (c : Nat) (fs : List (Str × AV)) | set (ks : List Key) | dead
  /-- a dict that is locked: nothing changes it any more -/
  | lck (kvs : List (Key × AV))

/-- what an expression gives: a value, a new container, a name's own container looked at -/
inductive RV where
  | v (a : AV) | f (c : Cell) | b (i : Nat) (c : Cell)

/-- what a name holds: nothing known, a value, a container that no other thing holds -/
inductive SV where
  | no | v (a : AV) | own (c : Cell)

abbrev Hs := List Cell
inductive Ex where
  | own (c : Nat) (fs : List (Str × D))
inductive Res (α : Type) where
  | ok (a : α) (h : Hs) | exc (e : Ex) (h : Hs) | bad
def Res.bind {α β : Type} (r : Res α) (f : α → Hs → Res β) : Res β := match r with
  | .ok a h => f a h
  | .exc e h => .exc e h
  | .bad => .bad
/-- nothing is raised -/
def Res.noX {α : Type} (r : Res α) : Res α := match r with
  | .ok a h => .ok a h
  | _ => .bad
@[simp] theorem Res.noX_ok {α : Type} (a : α) (h : Hs) : (Res.ok a h).noX = .ok a h := rfl
@[simp] theorem Res.bind_ok {α β : Type} (a : α) (h : Hs) (f : α → Hs → Res β) : (Res.ok a h).bind f = f a h := rfl
@[simp] theorem Res.bind_exc {α β : Type} (e : Ex) (h : Hs) (f : α → Hs → Res β) : (Res.exc e h : Res α).bind f = .exc e h := rfl
@[simp] theorem Res.bind_bad {α β : Type} (f : α → Hs → Res β) : (Res.bad : Res α).bind f = .bad := rfl

/-! ### pure parts -/
mutual
def AV.toD : AV → Option D
  | .d x => some x
  | .r _ => none
  | .q t xs => (AV.toDs xs).map fun ys => if t then .tup ys else .lst ys
def AV.toDs : List AV → Option (List D)
  | [] => some []
  | x :: xs => match AV.toD x, AV.toDs xs with
    | some y, some ys => some (y :: ys)
    | _, _ => none
end
def AV.toDk {κ : Type} : List (κ × AV) → Option (List (κ × D))
  | [] => some []
  | (k, x) :: xs => match AV.toD x, AV.toDk xs with
    | some y, some ys => some ((k, y) :: ys)
    | _, _ => none
/-- a container stands still from now on -/
def Cell.frz : Cell → Option AV
  | .lst xs => some (match AV.toDs xs with | some ys => .d (.lst ys) | none => .q false xs)
  | .dic kvs => (AV.toDk kvs).map fun ys => .d (.dic ys)
  | .ins c fs => (AV.toDk fs).map fun ys => .d (.obj c ys)
  | .set _ => none
  | .dead => none
  | .lck _ => none
def mkTup (xs : List AV) : AV := match AV.toDs xs with | some ys => .d (.tup ys) | none => .q true xs
/-- a key as a value; an item of a dict -/
def kA : Key → AV
  | .inl i => .d (.int i)
  | .inr s => .d (.str s)
def itA (p : Key × AV) : AV := mkTup [kA p.1, p.2]
def RV.toV : RV → Option AV
  | .v a => some a
  | .f c => c.frz
  | .b _ _ => none

/-- the shape of a value -/
inductive Vw where
  | non | bl (b : Bool) | int (i : Int) | str (x : Str)
  | lst (xs : List AV) | tup (xs : List AV) | dic (kvs : List (Key × AV)) | ins (c : Nat) (fs : List (Str × AV)) | scr (xs : List Int) | kdc (kvs : List (Str × D)) | set (ks : List Key)
def Cell.vw : Cell → Option Vw
  | .lst xs => some (.lst xs)
  | .dic kvs => some (.dic kvs)
  | .ins c fs => some (.ins c fs)
  | .set ks => some (.set ks)
  | .dead => none
  | .lck kvs => some (.dic kvs)
def D.vw : D → Vw
  | .non => .non | .bl b => .bl b | .int i => .int i | .str x => .str x
  | .lst xs => .lst (xs.map .d) | .tup xs => .tup (xs.map .d) | .dic kvs => .dic (kvs.map fun p => (p.1, .d p.2)) | .obj c fs => .ins c (fs.map fun p => (p.1, .d p.2)) | .scr xs => .scr xs | .kdc kvs => .kdc kvs
def AV.vw (h : Hs) : AV → Option Vw
  | .d x => some x.vw
  | .r n => (h[n]?).bind Cell.vw
  | .q true xs => some (.tup xs)
  | .q false xs => some (.lst xs)
def RV.vw (h : Hs) : RV → Option Vw
  | .v a => a.vw h
  | .f c => c.vw
  | .b _ c => c.vw

/-! ### how the heap bears them -/
/-- the ground: the written part, the classes -/
structure Gd where
  K : PySem.W.Frag
  cls : Nat → Addr
  P : Program
  w : World
abbrev ASet := Addr → Prop
/-- a list of the written part -/
def KLst (K : PySem.W.Frag) (a : Addr) (vs : List V) : Prop :=
  ∃ (o : Obj) (its : Array Value) (n : Nat), K.lookup a = some o ∧ o.cls = .type "list" ∧ o.dict = none ∧ o.data = .seq its n ∧ its.size ≤ sizeLine ∧ Vals vs its.toList
def KTup (K : PySem.W.Frag) (a : Addr) (vs : List V) : Prop :=
  ∃ (o : Obj) (its : Array Value) (n : Nat), K.lookup a = some o ∧ o.cls = .type "tuple" ∧ o.data = .seq its n ∧ its.size ≤ sizeLine ∧ Vals vs its.toList
def LAt (K : PySem.W.Frag) (H : Hp) (W : ASet) (a : Addr) (vs : List V) : Prop := (¬ W a ∧ Rd H a (.lst vs)) ∨ KLst K a vs
def TAt (K : PySem.W.Frag) (H : Hp) (W : ASet) (a : Addr) (vs : List V) : Prop := (¬ W a ∧ Rd H a (.tup vs)) ∨ KTup K a vs
theorem LAt.sq {K : PySem.W.Frag} {H : Hp} {W : ASet} {a : Addr} {vs : List V} (h : LAt K H W a vs) : SqL K H a vs := by
  rcases h with ⟨_, h⟩ | h
  · exact .inl h
  · exact .inr h
theorem TAt.sq {K : PySem.W.Frag} {H : Hp} {W : ASet} {a : Addr} {vs : List V} (h : TAt K H W a vs) : SqT K H a vs := by
  rcases h with ⟨_, h⟩ | h
  · exact .inl h
  · exact .inr h

/-- a flat value -/
def D.fv : D → Option V
  | .non => some .non
  | .bl b => some (.bl b)
  | .int i => some (.int i)
  | .str x => some (.str x)
  | _ => none
/-- what a dict of the written part holds by a text -/
def KdVal (kvs : List (Str × D)) (x : Str) (r : Option Value) : Prop := match kvs.lookup x, r with
  | some d, some u => ∃ v, d.fv = some v ∧ RelV v u
  | none, none => True
  | _, _ => False
def KdAt (K : PySem.W.Frag) (w : World) (a : Addr) (kvs : List (Str × D)) : Prop :=
  ∃ es n, K.lookup a = some ⟨.type "dict", none, .dict es n, #[]⟩ ∧ PySem.W.KeysLit w.params es.toList ∧ (a == sysModules) = false ∧ ∀ x, ∃ r, PySem.W.nsIn K a x = some r ∧ KdVal kvs x r
mutual
def DR (G : Gd) (H : Hp) (W : ASet) : D → V → Prop
  | .non, v => v = .non
  | .bl b, v => v = .bl b
  | .int i, v => v = .int i
  | .str x, v => v = .str x
  | .lst xs, v => ∃ a vs, v = .ref a ∧ (¬ W a ∧ H a = some (.lst vs)) ∧ DRs G H W xs vs
  | .tup xs, v => ∃ a vs, v = .ref a ∧ TAt G.K H W a vs ∧ DRs G H W xs vs
  | .scr xs, v => ∃ a, v = .ref a ∧ LAt G.K H W a (xs.map V.int)
  | .dic kvs, v => ∃ a es, v = .ref a ∧ ¬ W a ∧ H a = some (.dK es) ∧ DRk G H W kvs es
  | .obj c fs, v => ∃ a dx es, v = .ref a ∧ ¬ W a ∧ H a = some (.ins (G.cls c) dx es) ∧ DRf G H W fs es
  | .kdc kvs, v => ∃ a, v = .ref a ∧ KdAt G.K G.w a kvs
def DRs (G : Gd) (H : Hp) (W : ASet) : List D → List V → Prop
  | [], vs => vs = []
  | x :: xs, vs => ∃ v r, vs = v :: r ∧ DR G H W x v ∧ DRs G H W xs r
def DRk (G : Gd) (H : Hp) (W : ASet) : List (Key × D) → List (Key × V) → Prop
  | [], vs => vs = []
  | (k, x) :: xs, vs => ∃ v r, vs = (k, v) :: r ∧ DR G H W x v ∧ DRk G H W xs r
def DRf (G : Gd) (H : Hp) (W : ASet) : List (Str × D) → List (Str × V) → Prop
  | [], vs => vs = []
  | (k, x) :: xs, vs => ∃ v r, vs = (k, v) :: r ∧ DR G H W x v ∧ DRf G H W xs r
end
mutual
def VR (G : Gd) (H : Hp) (W : ASet) (ρ : List Addr) : AV → V → Prop
  | .d x, v => DR G H W x v
  | .r n, v => ∃ a, ρ[n]? = some a ∧ v = .ref a
  | .q t xs, v => ∃ a vs, v = .ref a ∧ (if t then TAt G.K H W a vs else (¬ W a ∧ H a = some (.lst vs))) ∧ VRs G H W ρ xs vs
def VRs (G : Gd) (H : Hp) (W : ASet) (ρ : List Addr) : List AV → List V → Prop
  | [], vs => vs = []
  | x :: xs, vs => ∃ v r, vs = v :: r ∧ VR G H W ρ x v ∧ VRs G H W ρ xs r
end
def VRk {κ : Type} (G : Gd) (H : Hp) (W : ASet) (ρ : List Addr) : List (κ × AV) → List (κ × V) → Prop
  | [], vs => vs = []
  | (k, x) :: xs, vs => ∃ v r, vs = (k, v) :: r ∧ VR G H W ρ x v ∧ VRk G H W ρ xs r
/-- a set of ints and texts -/
def CAt (G : Gd) (H : Hp) (W : ASet) (ρ : List Addr) (a : Addr) : Cell → Prop
  | .lst xs => ∃ vs, H a = some (.lst vs) ∧ VRs G H W ρ xs vs
  | .dic kvs => ∃ es, H a = some (.dK es) ∧ VRk G H W ρ kvs es
  | .ins c fs => ∃ dx es, H a = some (.ins (G.cls c) dx es) ∧ VRk G H W ρ fs es
  | .set ks => ks.Nodup ∧ H a = some (SetX G.P G.w a ks)
  | .dead => ∃ o, H a = some o
  | .lck kvs => ∃ es o, H a = some (.frz o (.dK es)) ∧ VRk G H W ρ kvs es
def SR (G : Gd) (H : Hp) (W B : ASet) (ρ : List Addr) : SV → Option V → Prop
  | .no, _ => True
  | .v x, o => ∃ v, o = some v ∧ VR G H W ρ x v
  | .own c, o => ∃ a, o = some (.ref a) ∧ W a ∧ ¬ B a ∧ a ∉ ρ ∧ CAt G H W ρ a c
/-- the abstract state is borne: B the addresses that callers own, W all that is owned, ρ the cells -/
structure RS (G : Gd) (B : ASet) (ρ : List Addr) (h : Hs) (S : List SV) (W : ASet) (σ : L2.St) (H : Hp) : Prop where
  len : ρ.length = h.length
  nd : ρ.Nodup
  sub : ∀ a ∈ ρ, W a
  base : ∀ a, B a → W a
  out : ∀ a ∈ ρ, ¬ B a
  live : ∀ a, W a → H a ≠ none
  cel : ∀ (i : Nat) c a, h[i]? = some c → ρ[i]? = some a → CAt G H W ρ a c
  sl : ∀ (i : Nat) s, S[i]? = some s → ∃ o, σ[i]? = some o ∧ SR G H W B ρ s o
  dj : ∀ (i j : Nat) c c' a, S[i]? = some (SV.own c) → S[j]? = some (SV.own c') → σ[i]? = some (some (V.ref a)) → σ[j]? = some (some (V.ref a)) → i = j
/-- from one state of a frame to a later one -/
structure Ext (B : ASet) (ρ : List Addr) (W : ASet) (H : Hp) (ρ' : List Addr) (W' : ASet) (H' : Hp) : Prop where
  pre : ∃ t, ρ' = ρ ++ t
  keep : ∀ a o, (¬ W a ∨ B a) → H a = some o → H' a = some o
  grow : ∀ a, W' a → W a ∨ H a = none
  live : ∀ a, H' a = none → H a = none
  lk : ∀ a o u, H a = some (.frz o u) → H' a = some (.frz o u)

section
variable {G : Gd} {B : ASet} {ρ ρ' ρ2 : List Addr} {W W' W2 : ASet} {H H' H2 : Hp} {h h' : Hs} {S : List SV} {σ : L2.St}
theorem Ext.refl : Ext B ρ W H ρ W H := ⟨⟨[], by simp⟩, fun _ _ _ e => e, fun _ h => .inl h, fun _ e => e, fun _ _ _ e => e⟩
theorem Ext.trans (a : Ext B ρ W H ρ' W' H') (b : Ext B ρ' W' H' ρ2 W2 H2) (bw : ∀ a, B a → W a) : Ext B ρ W H ρ2 W2 H2 := by
  refine ⟨?_, fun x o n e => ?_, fun x n => ?_, fun x e => a.live x (b.live x e), fun x o u e => b.lk x o u (a.lk x o u e)⟩
  · obtain ⟨t, rfl⟩ := a.pre
    obtain ⟨u, rfl⟩ := b.pre
    exact ⟨t ++ u, by simp⟩
  · refine b.keep x o ?_ (a.keep x o n e)
    rcases n with n | n
    · refine .inl fun w => ?_
      rcases a.grow x w with w | w
      · exact n w
      · rw [e] at w; cases w
    · exact .inr n
  · rcases b.grow x n with w | w
    · exact a.grow x w
    · exact .inr (a.live x w)
/-- a tracked address out of W is kept, out of W' -/
theorem Ext.out (x : Ext B ρ W H ρ' W' H') {a : Addr} {o : HO} (n : ¬ W a) (e : H a = some o) : ¬ W' a ∧ H' a = some o := by
  refine ⟨fun w => ?_, x.keep a o (.inl n) e⟩
  rcases x.grow a w with w | w
  · exact n w
  · rw [e] at w; cases w
theorem Ext.rd (x : Ext B ρ W H ρ' W' H') {a : Addr} {o : HO} (n : ¬ W a) (e : Rd H a o) : ¬ W' a ∧ Rd H' a o := by
  rcases e with e | ⟨u, e⟩
  · obtain ⟨h1, h2⟩ := x.out n e
    exact ⟨h1, .inl h2⟩
  · obtain ⟨h1, h2⟩ := x.out n e
    exact ⟨h1, .inr ⟨u, h2⟩⟩
/-- what may change between: W' smaller, the heap kept where data stands -/
structure Sub (W : ASet) (H : Hp) (W' : ASet) (H' : Hp) : Prop where
  at_ : ∀ a o, ¬ W a → H a = some o → ¬ W' a ∧ H' a = some o
theorem Ext.sub (x : Ext B ρ W H ρ' W' H') : Sub W H W' H' := ⟨fun _ _ n e => x.out n e⟩
theorem Sub.refl : Sub W H W H := ⟨fun _ _ n e => ⟨n, e⟩⟩
theorem Sub.less (l : ∀ a, W' a → W a) : Sub W H W' H := ⟨fun _ _ n e => ⟨fun w => n (l _ w), e⟩⟩
theorem Sub.rd (x : Sub W H W' H') {a : Addr} {o : HO} (n : ¬ W a) (e : Rd H a o) : ¬ W' a ∧ Rd H' a o := by
  rcases e with e | ⟨u, e⟩
  · obtain ⟨h1, h2⟩ := x.at_ _ _ n e
    exact ⟨h1, .inl h2⟩
  · obtain ⟨h1, h2⟩ := x.at_ _ _ n e
    exact ⟨h1, .inr ⟨u, h2⟩⟩
theorem LAt.mv {K : PySem.W.Frag} {a : Addr} {vs : List V} (h : LAt K H W a vs) (x : Sub W H W' H') : LAt K H' W' a vs := by
  rcases h with ⟨n, h⟩ | h
  · exact .inl (x.rd n h)
  · exact .inr h
theorem TAt.mv {K : PySem.W.Frag} {a : Addr} {vs : List V} (h : TAt K H W a vs) (x : Sub W H W' H') : TAt K H' W' a vs := by
  rcases h with ⟨n, h⟩ | h
  · exact .inl (x.rd n h)
  · exact .inr h
mutual
theorem DR.mv (x : Sub W H W' H') : ∀ (d : D) (v : V), DR G H W d v → DR G H' W' d v
  | .non, v, h => by simpa only [DR] using h
  | .bl b, v, h => by simpa only [DR] using h
  | .int i, v, h => by simpa only [DR] using h
  | .str s, v, h => by simpa only [DR] using h
  | .lst xs, v, h => by
    simp only [DR] at h ⊢
    obtain ⟨a, vs, e, l, r⟩ := h
    exact ⟨a, vs, e, x.at_ _ _ l.1 l.2, DRs.mv x xs vs r⟩
  | .scr xs, v, h => by
    simp only [DR] at h ⊢
    obtain ⟨a, e, l⟩ := h
    exact ⟨a, e, l.mv x⟩
  | .tup xs, v, h => by
    simp only [DR] at h ⊢
    obtain ⟨a, vs, e, l, r⟩ := h
    exact ⟨a, vs, e, l.mv x, DRs.mv x xs vs r⟩
  | .dic kvs, v, h => by
    simp only [DR] at h ⊢
    obtain ⟨a, es, e, n, l, r⟩ := h
    obtain ⟨n', l'⟩ := x.at_ _ _ n l
    exact ⟨a, es, e, n', l', DRk.mv x kvs es r⟩
  | .obj c fs, v, h => by
    simp only [DR] at h ⊢
    obtain ⟨a, dx, es, e, n, l, r⟩ := h
    obtain ⟨n', l'⟩ := x.at_ _ _ n l
    exact ⟨a, dx, es, e, n', l', DRf.mv x fs es r⟩
  | .kdc kvs, v, h => by simpa only [DR] using h
theorem DRs.mv (x : Sub W H W' H') : ∀ (ds : List D) (vs : List V), DRs G H W ds vs → DRs G H' W' ds vs
  | [], vs, h => by simpa only [DRs] using h
  | d :: ds, vs, h => by
    simp only [DRs] at h ⊢
    obtain ⟨v, r, e, a, b⟩ := h
    exact ⟨v, r, e, DR.mv x d v a, DRs.mv x ds r b⟩
theorem DRk.mv (x : Sub W H W' H') : ∀ (ds : List (Key × D)) (vs : List (Key × V)), DRk G H W ds vs → DRk G H' W' ds vs
  | [], vs, h => by simpa only [DRk] using h
  | (k, d) :: ds, vs, h => by
    simp only [DRk] at h ⊢
    obtain ⟨v, r, e, a, b⟩ := h
    exact ⟨v, r, e, DR.mv x d v a, DRk.mv x ds r b⟩
theorem DRf.mv (x : Sub W H W' H') : ∀ (ds : List (Str × D)) (vs : List (Str × V)), DRf G H W ds vs → DRf G H' W' ds vs
  | [], vs, h => by simpa only [DRf] using h
  | (k, d) :: ds, vs, h => by
    simp only [DRf] at h ⊢
    obtain ⟨v, r, e, a, b⟩ := h
    exact ⟨v, r, e, DR.mv x d v a, DRf.mv x ds r b⟩
end
theorem pre_get {a : Addr} {n : Nat} (p : ∃ t, ρ' = ρ ++ t) (e : ρ[n]? = some a) : ρ'[n]? = some a := by
  obtain ⟨t, rfl⟩ := p
  rw [List.getElem?_append_left (List.getElem?_eq_some_iff.mp e).1]
  exact e
mutual
theorem VR.mv (x : Sub W H W' H') (p : ∃ t, ρ' = ρ ++ t) : ∀ (d : AV) (v : V), VR G H W ρ d v → VR G H' W' ρ' d v
  | .d d, v, h => by
    simp only [VR] at h ⊢
    exact DR.mv x d v h
  | .r n, v, h => by
    simp only [VR] at h ⊢
    obtain ⟨a, e, r⟩ := h
    exact ⟨a, pre_get p e, r⟩
  | .q t xs, v, h => by
    simp only [VR] at h ⊢
    obtain ⟨a, vs, e, l, r⟩ := h
    refine ⟨a, vs, e, ?_, VRs.mv x p xs vs r⟩
    cases t with
    | true => exact (show TAt _ _ _ _ _ from l).mv x
    | false =>
      have l' : ¬ W a ∧ H a = some (.lst vs) := l
      exact x.at_ _ _ l'.1 l'.2
theorem VRs.mv (x : Sub W H W' H') (p : ∃ t, ρ' = ρ ++ t) : ∀ (ds : List AV) (vs : List V), VRs G H W ρ ds vs → VRs G H' W' ρ' ds vs
  | [], vs, h => by simpa only [VRs] using h
  | d :: ds, vs, h => by
    simp only [VRs] at h ⊢
    obtain ⟨v, r, e, a, b⟩ := h
    exact ⟨v, r, e, VR.mv x p d v a, VRs.mv x p ds r b⟩
end
theorem VRk.mv {κ : Type} (x : Sub W H W' H') (p : ∃ t, ρ' = ρ ++ t) : ∀ (ds : List (κ × AV)) (vs : List (κ × V)), VRk G H W ρ ds vs → VRk G H' W' ρ' ds vs
  | [], vs, h => by simpa only [VRk] using h
  | (k, d) :: ds, vs, h => by
    simp only [VRk] at h ⊢
    obtain ⟨v, r, e, a, b⟩ := h
    exact ⟨v, r, e, VR.mv x p d v a, VRk.mv x p ds r b⟩
theorem pre_refl : ∃ t, ρ = ρ ++ t := ⟨[], by simp⟩
/-- a cell's content, its own object standing as it stood -/
theorem CAt.mv (x : Sub W H W' H') (p : ∃ t, ρ' = ρ ++ t) {a : Addr} (k : ∀ o, H a = some o → H' a = some o) : ∀ (c : Cell), CAt G H W ρ a c → CAt G H' W' ρ' a c
  | .lst xs, h => by
    simp only [CAt] at h ⊢
    obtain ⟨vs, e, r⟩ := h
    exact ⟨vs, k _ e, r.mv x p⟩
  | .dic kvs, h => by
    simp only [CAt] at h ⊢
    obtain ⟨vs, e, r⟩ := h
    exact ⟨vs, k _ e, r.mv x p⟩
  | .ins c fs, h => by
    simp only [CAt] at h ⊢
    obtain ⟨dx, vs, e, r⟩ := h
    exact ⟨dx, vs, k _ e, r.mv x p⟩
  | .set ks, h => by
    simp only [CAt] at h ⊢
    exact ⟨h.1, k _ h.2⟩
  | .dead, h => by
    simp only [CAt] at h ⊢
    obtain ⟨o, e⟩ := h
    exact ⟨o, k _ e⟩
  | .lck kvs, h => by
    simp only [CAt] at h ⊢
    obtain ⟨vs, o, e, r⟩ := h
    exact ⟨vs, o, k _ e, r.mv x p⟩
/-- a cell that may be changed -/
def Cell.liv : Cell → Bool
  | .dead => false
  | .lck _ => false
  | _ => true
theorem CAt.free {a : Addr} {c : Cell} (h : CAt G H W ρ a c) (e : c.liv = true) : ∃ z, H a = some z ∧ ∀ o u, z ≠ .frz o u := by
  cases c <;> simp only [CAt] at h
  · obtain ⟨vs, e, r⟩ := h; exact ⟨_, e, fun _ _ z => nomatch z⟩
  · obtain ⟨vs, e, r⟩ := h; exact ⟨_, e, fun _ _ z => nomatch z⟩
  · obtain ⟨dx, vs, e, r⟩ := h; exact ⟨_, e, fun _ _ z => nomatch z⟩
  · exact ⟨_, h.2, fun _ _ z => by unfold SetX at z; exact nomatch z⟩
  · cases e
  · cases e
end
end Mp


set_option Elab.async false
set_option linter.all false
set_option maxRecDepth 10000
/-! The state's changes. -/
namespace Mp
open PySem PySem.Spec PyProof.Rows L2

def Free (S : List SV) (σ : L2.St) (a : Addr) : Prop := ∀ (i : Nat) c, S[i]? = some (SV.own c) → σ[i]? ≠ some (some (V.ref a))
def RVR (G : Gd) (H : Hp) (W B : ASet) (ρ : List Addr) (S : List SV) (σ : L2.St) : RV → V → Prop
  | .v x, v => VR G H W ρ x v
  | .f c, v => ∃ a, v = .ref a ∧ W a ∧ ¬ B a ∧ a ∉ ρ ∧ Free S σ a ∧ CAt G H W ρ a c
  | .b i c, v => S[i]? = some (.own c) ∧ σ[i]? = some (some v)

section
variable {G : Gd} {B : ASet} {ρ ρ' ρ2 : List Addr} {W W' W2 : ASet} {H H' H2 : Hp} {h h' : Hs} {S : List SV} {σ : L2.St}
/-- all that is owned stands as it stood, at least that is owned -/
theorem RS.step (R : RS G B ρ h S W σ H) (x : Sub W H W' H') (k : ∀ a o, W a → H a = some o → H' a = some o) (w : ∀ a, W a → W' a) (wl : ∀ a, W' a → H' a ≠ none) : RS G B ρ h S W' σ H' := by
  refine ⟨R.len, R.nd, fun a ha => w a (R.sub a ha), fun a ha => w a (R.base a ha), R.out, wl, fun i c a hi ha => ?_, fun i s hi => ?_, R.dj⟩
  · exact (R.cel i c a hi ha).mv x pre_refl fun o => k a o (R.sub a (List.mem_of_getElem? ha))
  · obtain ⟨o, ho, hs⟩ := R.sl i s hi
    refine ⟨o, ho, ?_⟩
    cases s with
    | no => trivial
    | v y =>
      obtain ⟨v, e, r⟩ := hs
      exact ⟨v, e, r.mv x pre_refl⟩
    | own c =>
      obtain ⟨a, e, h1, h2, h3, h4⟩ := hs
      exact ⟨a, e, w a h1, h2, h3, h4.mv x pre_refl fun o => k a o h1⟩
/-- a new object that stands still -/
theorem Ext.lay {p : Addr} {o : HO} (hp : H p = none) : Ext B ρ W H ρ W (upd H p o) := by
  refine ⟨⟨[], by simp⟩, fun a u _ e => by rw [upd_ne (ne_of_none e hp)]; exact e, fun _ w => .inl w, fun a e => ?_, fun a u v e => by rw [upd_ne (ne_of_none e hp)]; exact e⟩
  by_cases ha : a = p
  · rw [ha]; exact hp
  · rw [upd_ne ha] at e; exact e
theorem upd_live {p : Addr} {o : HO} {a : Addr} (n : H a ≠ none) : upd H p o a ≠ none := by
  by_cases ha : a = p
  · rw [ha, upd_same]; exact fun z => nomatch z
  · rw [upd_ne ha]; exact n
theorem RS.lay (R : RS G B ρ h S W σ H) {p : Addr} {o : HO} (hp : H p = none) : RS G B ρ h S W σ (upd H p o) :=
  R.step (Ext.lay (B := B) (ρ := ρ) hp).sub (fun a u _ e => by rw [upd_ne (ne_of_none e hp)]; exact e) (fun _ w => w) fun a w => upd_live (R.live a w)
/-- a new object that is owned -/
def add (W : ASet) (p : Addr) : ASet := fun a => W a ∨ a = p
def cut (W : ASet) (p : Addr) : ASet := fun a => W a ∧ a ≠ p
theorem Ext.layO {p : Addr} {o : HO} (hp : H p = none) : Ext B ρ W H ρ (add W p) (upd H p o) := by
  have x := Ext.lay (B := B) (ρ := ρ) (W := W) (o := o) hp
  refine ⟨x.pre, x.keep, fun a w => ?_, x.live, x.lk⟩
  rcases w with w | w
  · exact .inl w
  · rw [w]; exact .inr hp
theorem RS.layO (R : RS G B ρ h S W σ H) {p : Addr} {o : HO} (hp : H p = none) : RS G B ρ h S (add W p) σ (upd H p o) :=
  R.step (Ext.layO (B := B) (ρ := ρ) hp).sub (fun a u _ e => by rw [upd_ne (ne_of_none e hp)]; exact e) (fun _ w => .inl w) fun a w => by
    rcases w with w | w
    · exact upd_live (R.live a w)
    · rw [w, upd_same]; exact fun z => nomatch z
/-- fresh for all that stands -/
theorem RS.fresh (R : RS G B ρ h S W σ H) {p : Addr} (hp : H p = none) : ¬ W p ∧ ¬ B p ∧ p ∉ ρ ∧ Free S σ p := by
  have w : ¬ W p := fun w => R.live p w hp
  refine ⟨w, fun b => w (R.base p b), fun r => w (R.sub p r), fun i c hi e => ?_⟩
  obtain ⟨o, ho, hs⟩ := R.sl i _ hi
  obtain ⟨a, ea, h1, _⟩ := hs
  rw [e] at ho
  cases ho
  cases ea
  exact w h1
theorem Free.ne {i : Nat} {c : Cell} {a p : Addr} (f : Free S σ p) (hi : S[i]? = some (.own c)) (e : σ[i]? = some (some (V.ref a))) : a ≠ p := fun z => f i c hi (by rw [e, z])
/-- an owned thing that no cell and no name is, let go -/
theorem RS.cut (R : RS G B ρ h S W σ H) {p : Addr} (hb : ¬ B p) (hr : p ∉ ρ) (hf : Free S σ p) : RS G B ρ h S (cut W p) σ H := by
  have x : Sub W H (Mp.cut W p) H := Sub.less fun a w => w.1
  refine ⟨R.len, R.nd, fun a ha => ⟨R.sub a ha, fun z => hr (z ▸ ha)⟩, fun a ha => ⟨R.base a ha, fun z => hb (z ▸ ha)⟩, R.out, fun a w => R.live a w.1, fun i c a hi ha => ?_, fun i s hi => ?_, R.dj⟩
  · exact (R.cel i c a hi ha).mv x pre_refl fun o e => e
  · obtain ⟨o, ho, hs⟩ := R.sl i s hi
    refine ⟨o, ho, ?_⟩
    cases s with
    | no => trivial
    | v y =>
      obtain ⟨v, e, r⟩ := hs
      exact ⟨v, e, r.mv x pre_refl⟩
    | own c =>
      obtain ⟨a, e, h1, h2, h3, h4⟩ := hs
      exact ⟨a, e, ⟨h1, hf.ne hi (by rw [ho, e])⟩, h2, h3, h4.mv x pre_refl fun o e => e⟩
theorem Ext.cut {p : Addr} : Ext B ρ W H ρ (cut W p) H := ⟨⟨[], by simp⟩, fun _ _ _ e => e, fun a w => .inl w.1, fun _ e => e, fun _ _ _ e => e⟩
/-- data of values -/
theorem VR.toD : ∀ (x : AV) (d : D) (v : V), x.toD = some d → VR G H W ρ x v → DR G H W d v := by
  intro x
  apply AV.rec (motive_1 := fun x => ∀ (d : D) (v : V), x.toD = some d → VR G H W ρ x v → DR G H W d v)
    (motive_2 := fun xs => ∀ (ds : List D) (vs : List V), AV.toDs xs = some ds → VRs G H W ρ xs vs → DRs G H W ds vs)
  · intro x d v e r
    simp only [AV.toD, Option.some.injEq] at e
    subst e
    simpa only [VR] using r
  · intro n d v e
    simp [AV.toD] at e
  · intro t xs ih d v e r
    simp only [AV.toD, Option.map_eq_some_iff] at e
    obtain ⟨ys, h1, h2⟩ := e
    simp only [VR] at r
    obtain ⟨a, vs, rfl, l, r⟩ := r
    have q := ih ys vs h1 r
    cases t with
    | true =>
      simp only [↓reduceIte] at h2 l
      subst h2
      simp only [DR]
      exact ⟨a, vs, rfl, l, q⟩
    | false =>
      simp only [Bool.false_eq_true, ↓reduceIte] at h2 l
      subst h2
      simp only [DR]
      exact ⟨a, vs, rfl, l, q⟩
  · intro ds vs e r
    simp only [AV.toDs, Option.some.injEq] at e
    subst e
    simpa only [VRs, DRs] using r
  · intro x xs h1 h2 ds vs e r
    simp only [AV.toDs] at e
    split at e
    · rename_i y ys e1 e2
      cases e
      simp only [VRs] at r
      obtain ⟨v, u, rfl, ra, rb⟩ := r
      simp only [DRs]
      exact ⟨v, u, rfl, h1 y v e1 ra, h2 ys u e2 rb⟩
    · cases e
theorem VRs.toD : ∀ (xs : List AV) (ds : List D) (vs : List V), AV.toDs xs = some ds → VRs G H W ρ xs vs → DRs G H W ds vs
  | [], ds, vs, e, r => by
    simp only [AV.toDs, Option.some.injEq] at e
    subst e
    simpa only [VRs, DRs] using r
  | x :: xs, ds, vs, e, r => by
    simp only [AV.toDs] at e
    split at e
    · rename_i y ys e1 e2
      cases e
      simp only [VRs] at r
      obtain ⟨v, u, rfl, ra, rb⟩ := r
      simp only [DRs]
      exact ⟨v, u, rfl, VR.toD x y v e1 ra, VRs.toD xs ys u e2 rb⟩
    · cases e
theorem VRk.toDk : ∀ (xs : List (Key × AV)) (ds : List (Key × D)) (vs : List (Key × V)), AV.toDk xs = some ds → VRk G H W ρ xs vs → DRk G H W ds vs
  | [], ds, vs, e, r => by
    simp only [AV.toDk, Option.some.injEq] at e
    subst e
    simpa only [VRk, DRk] using r
  | (k, x) :: xs, ds, vs, e, r => by
    simp only [AV.toDk] at e
    split at e
    · rename_i y ys e1 e2
      cases e
      simp only [VRk] at r
      obtain ⟨v, u, rfl, ra, rb⟩ := r
      simp only [DRk]
      exact ⟨v, u, rfl, VR.toD x y v e1 ra, VRk.toDk xs ys u e2 rb⟩
    · cases e
theorem VRk.toDf : ∀ (xs : List (Str × AV)) (ds : List (Str × D)) (vs : List (Str × V)), AV.toDk xs = some ds → VRk G H W ρ xs vs → DRf G H W ds vs
  | [], ds, vs, e, r => by
    simp only [AV.toDk, Option.some.injEq] at e
    subst e
    simpa only [VRk, DRf] using r
  | (k, x) :: xs, ds, vs, e, r => by
    simp only [AV.toDk] at e
    split at e
    · rename_i y ys e1 e2
      cases e
      simp only [VRk] at r
      obtain ⟨v, u, rfl, ra, rb⟩ := r
      simp only [DRf]
      exact ⟨v, u, rfl, VR.toD x y v e1 ra, VRk.toDf xs ys u e2 rb⟩
    · cases e
/-- a container at an address that is not owned any more -/
theorem CAt.frz {c : Cell} {a : Addr} {x : AV} (n : ¬ W a) (h : CAt G H W ρ a c) (e : c.frz = some x) : VR G H W ρ x (.ref a) := by
  cases c with
  | lst xs =>
    simp only [CAt] at h
    obtain ⟨vs, l, r⟩ := h
    simp only [Cell.frz, Option.some.injEq] at e
    subst e
    split
    · rename_i ys e1
      simp only [VR, DR]
      exact ⟨a, vs, rfl, ⟨n, l⟩, VRs.toD xs ys vs e1 r⟩
    · simp only [VR, Bool.false_eq_true, ↓reduceIte]
      exact ⟨a, vs, rfl, ⟨n, l⟩, r⟩
  | dic kvs =>
    simp only [CAt] at h
    obtain ⟨vs, l, r⟩ := h
    simp only [Cell.frz, Option.map_eq_some_iff] at e
    obtain ⟨ys, e1, rfl⟩ := e
    simp only [VR, DR]
    exact ⟨a, vs, rfl, n, l, VRk.toDk kvs ys vs e1 r⟩
  | ins c fs =>
    simp only [CAt] at h
    obtain ⟨dx, vs, l, r⟩ := h
    simp only [Cell.frz, Option.map_eq_some_iff] at e
    obtain ⟨ys, e1, rfl⟩ := e
    simp only [VR, DR]
    exact ⟨a, dx, vs, rfl, n, l, VRk.toDf fs ys vs e1 r⟩
  | set ks => simp [Cell.frz] at e
  | dead => simp [Cell.frz] at e
  | lck kvs => simp [Cell.frz] at e
/-- what an expression has led to -/
def EGood (G : Gd) (B : ASet) (ρ : List Addr) (W : ASet) (H : Hp) (S : List SV) (σ : L2.St) (rv : RV) (h' : Hs) (v : V) (H' : Hp) : Prop :=
  ∃ ρ' W', Ext B ρ W H ρ' W' H' ∧ RS G B ρ' h' S W' σ H' ∧ RVR G H' W' B ρ' S σ rv v
def LGood (G : Gd) (B : ASet) (ρ : List Addr) (W : ASet) (H : Hp) (S : List SV) (σ : L2.St) (xs : List AV) (h' : Hs) (vs : List V) (H' : Hp) : Prop :=
  ∃ ρ' W', Ext B ρ W H ρ' W' H' ∧ RS G B ρ' h' S W' σ H' ∧ VRs G H' W' ρ' xs vs
/-- a result as a value that may be put anywhere -/
theorem EGood.toV {rv : RV} {x : AV} {v : V} (g : EGood G B ρ W H S σ rv h' v H') (e : rv.toV = some x) (bw : ∀ a, B a → W a) : EGood G B ρ W H S σ (.v x) h' v H' := by
  obtain ⟨ρ', W', ex, R, r⟩ := g
  cases rv with
  | v y => cases e; exact ⟨ρ', W', ex, R, r⟩
  | f c =>
    obtain ⟨a, rfl, h1, h2, h3, h4, h5⟩ := r
    refine ⟨ρ', Mp.cut W' a, ex.trans Ext.cut bw, R.cut h2 h3 h4, ?_⟩
    exact CAt.frz (fun z => z.2 rfl) (h5.mv (Sub.less fun _ w => w.1) pre_refl fun _ e => e) e
  | b i c => cases e
/-- a result's shape -/
def WR (G : Gd) (H : Hp) (W : ASet) (ρ : List Addr) : Vw → V → Prop
  | .non, v => v = .non
  | .bl b, v => v = .bl b
  | .int i, v => v = .int i
  | .str x, v => v = .str x
  | .lst xs, v => ∃ a vs, v = .ref a ∧ H a = some (.lst vs) ∧ VRs G H W ρ xs vs
  | .tup xs, v => ∃ a vs, v = .ref a ∧ TAt G.K H W a vs ∧ VRs G H W ρ xs vs
  | .dic kvs, v => ∃ a es, v = .ref a ∧ Rd H a (.dK es) ∧ VRk G H W ρ kvs es
  | .ins c fs, v => ∃ a dx es, v = .ref a ∧ H a = some (.ins (G.cls c) dx es) ∧ VRk G H W ρ fs es
  | .scr xs, v => ∃ a, v = .ref a ∧ LAt G.K H W a (xs.map V.int)
  | .kdc kvs, v => ∃ a, v = .ref a ∧ KdAt G.K G.w a kvs
  | .set ks, v => ∃ a, v = .ref a ∧ ks.Nodup ∧ H a = some (SetX G.P G.w a ks)
theorem DRs.toV : ∀ (xs : List D) (vs : List V), DRs G H W xs vs → VRs G H W ρ (xs.map .d) vs
  | [], vs, h => by simpa only [DRs, VRs, List.map_nil] using h
  | x :: xs, vs, h => by
    simp only [DRs, VRs, List.map_cons] at h ⊢
    obtain ⟨v, r, e, a, b⟩ := h
    exact ⟨v, r, e, by simpa only [VR] using a, DRs.toV xs r b⟩
theorem DRk.toV : ∀ (xs : List (Key × D)) (vs : List (Key × V)), DRk G H W xs vs → VRk G H W ρ (xs.map fun p => (p.1, .d p.2)) vs
  | [], vs, h => by simpa only [DRk, VRk, List.map_nil] using h
  | (k, x) :: xs, vs, h => by
    simp only [DRk, VRk, List.map_cons] at h ⊢
    obtain ⟨v, r, e, a, b⟩ := h
    exact ⟨v, r, e, by simpa only [VR] using a, DRk.toV xs r b⟩
theorem DRf.toV : ∀ (xs : List (Str × D)) (vs : List (Str × V)), DRf G H W xs vs → VRk G H W ρ (xs.map fun p => (p.1, .d p.2)) vs
  | [], vs, h => by simpa only [DRf, VRk, List.map_nil] using h
  | (k, x) :: xs, vs, h => by
    simp only [DRf, VRk, List.map_cons] at h ⊢
    obtain ⟨v, r, e, a, b⟩ := h
    exact ⟨v, r, e, by simpa only [VR] using a, DRf.toV xs r b⟩
theorem CAt.vw {c : Cell} {w : Vw} {a : Addr} (h : CAt G H W ρ a c) (e : c.vw = some w) : WR G H W ρ w (.ref a) := by
  cases c with
  | lst xs =>
    cases e
    obtain ⟨vs, l, r⟩ := h
    exact ⟨a, vs, rfl, l, r⟩
  | dic kvs =>
    cases e
    obtain ⟨vs, l, r⟩ := h
    exact ⟨a, vs, rfl, .inl l, r⟩
  | ins c fs =>
    cases e
    obtain ⟨dx, vs, l, r⟩ := h
    exact ⟨a, dx, vs, rfl, l, r⟩
  | set ks =>
    cases e
    exact ⟨a, rfl, h.1, h.2⟩
  | dead => cases e
  | lck kvs =>
    cases e
    obtain ⟨vs, o, l, r⟩ := h
    exact ⟨a, vs, rfl, .inr ⟨o, l⟩, r⟩
theorem VR.vw (R : RS G B ρ h S W σ H) {x : AV} {w : Vw} {v : V} (r : VR G H W ρ x v) (e : x.vw h = some w) : WR G H W ρ w v := by
  cases x with
  | d x =>
    simp only [AV.vw, Option.some.injEq] at e
    subst e
    simp only [VR] at r
    cases x <;> simp only [DR] at r <;> simp only [D.vw, WR]
    · exact r
    · exact r
    · exact r
    · exact r
    · obtain ⟨a, vs, e, l, q⟩ := r; exact ⟨a, vs, e, l.2, DRs.toV _ _ q⟩
    · obtain ⟨a, vs, e, l, q⟩ := r; exact ⟨a, vs, e, l, DRs.toV _ _ q⟩
    · obtain ⟨a, es, e, n, l, q⟩ := r; exact ⟨a, es, e, .inl l, DRk.toV _ _ q⟩
    · obtain ⟨a, dx, es, e, n, l, q⟩ := r; exact ⟨a, dx, es, e, l, DRf.toV _ _ q⟩
    · exact r
    · exact r
  | r n =>
    simp only [VR] at r
    obtain ⟨a, ha, rfl⟩ := r
    simp only [AV.vw, Option.bind_eq_some_iff] at e
    obtain ⟨c, hc, e⟩ := e
    exact (R.cel n c a hc ha).vw e
  | q t xs =>
    simp only [VR] at r
    obtain ⟨a, vs, rfl, l, q⟩ := r
    cases t with
    | true =>
      simp only [AV.vw, Option.some.injEq] at e
      subst e
      exact ⟨a, vs, rfl, l, q⟩
    | false =>
      simp only [AV.vw, Option.some.injEq] at e
      subst e
      exact ⟨a, vs, rfl, (show ¬ W a ∧ H a = some (.lst vs) from l).2, q⟩
theorem RVR.vw (R : RS G B ρ h S W σ H) {x : RV} {w : Vw} {v : V} (r : RVR G H W B ρ S σ x v) (e : x.vw h = some w) : WR G H W ρ w v := by
  cases x with
  | v x => exact VR.vw R r e
  | f c =>
    obtain ⟨a, rfl, _, _, _, _, r⟩ := r
    exact r.vw e
  | b i c =>
    obtain ⟨h1, h2⟩ := r
    obtain ⟨o, ho, hs⟩ := R.sl i _ h1
    obtain ⟨a, rfl, _, _, _, q⟩ := hs
    rw [h2] at ho
    cases ho
    exact q.vw e
theorem WR.tup {xs : List AV} {v : V} (r : WR G H W ρ (.tup xs) v) : VR G H W ρ (mkTup xs) v := by
  obtain ⟨a, vs, rfl, l, q⟩ := r
  unfold mkTup
  split
  · rename_i ys e
    simp only [VR, DR]
    exact ⟨a, vs, rfl, l, VRs.toD _ _ _ e q⟩
  · simp only [VR, ↓reduceIte]
    exact ⟨a, vs, rfl, l, q⟩
theorem VRs.append : ∀ {xs ys : List AV} {vs us : List V}, VRs G H W ρ xs vs → VRs G H W ρ ys us → VRs G H W ρ (xs ++ ys) (vs ++ us)
  | [], ys, vs, us, h, k => by
    simp only [VRs] at h
    subst h
    simpa using k
  | x :: xs, ys, vs, us, h, k => by
    simp only [VRs, List.cons_append] at h ⊢
    obtain ⟨v, r, rfl, a, b⟩ := h
    exact ⟨v, r ++ us, rfl, a, VRs.append b k⟩
theorem VRs.length : ∀ {xs : List AV} {vs : List V}, VRs G H W ρ xs vs → xs.length = vs.length
  | [], vs, h => by
    simp only [VRs] at h
    subst h
    rfl
  | x :: xs, vs, h => by
    simp only [VRs] at h
    obtain ⟨v, r, rfl, a, b⟩ := h
    simp [VRs.length b]
theorem VRs.get : ∀ {xs : List AV} {vs : List V} {i : Nat} {x : AV}, VRs G H W ρ xs vs → xs[i]? = some x → ∃ v, vs[i]? = some v ∧ VR G H W ρ x v
  | [], vs, i, x, h, e => by simp at e
  | y :: xs, vs, 0, x, h, e => by
    simp only [VRs] at h
    obtain ⟨v, r, rfl, a, b⟩ := h
    simp at e
    subst e
    exact ⟨v, by simp, a⟩
  | y :: xs, vs, i + 1, x, h, e => by
    simp only [VRs] at h
    obtain ⟨v, r, rfl, a, b⟩ := h
    obtain ⟨u, h1, h2⟩ := VRs.get (i := i) b (by simpa using e)
    exact ⟨u, by simpa using h1, h2⟩
theorem VRs.take : ∀ {xs : List AV} {vs : List V} (n : Nat), VRs G H W ρ xs vs → VRs G H W ρ (xs.take n) (vs.take n)
  | [], vs, n, h => by
    simp only [VRs] at h
    subst h
    simp [VRs]
  | x :: xs, vs, 0, h => by simp [VRs]
  | x :: xs, vs, n + 1, h => by
    simp only [VRs] at h
    obtain ⟨v, r, rfl, a, b⟩ := h
    simp only [List.take_succ_cons, VRs]
    exact ⟨v, _, rfl, a, VRs.take n b⟩
theorem VRs.drop : ∀ {xs : List AV} {vs : List V} (n : Nat), VRs G H W ρ xs vs → VRs G H W ρ (xs.drop n) (vs.drop n)
  | [], vs, n, h => by
    simp only [VRs] at h
    subst h
    simp [VRs]
  | x :: xs, vs, 0, h => by simpa using h
  | x :: xs, vs, n + 1, h => by
    simp only [VRs] at h
    obtain ⟨v, r, rfl, a, b⟩ := h
    simp only [List.drop_succ_cons]
    exact VRs.drop n b
theorem VRs.snoc {xs : List AV} {vs : List V} {x : AV} {v : V} (a : VRs G H W ρ xs vs) (b : VR G H W ρ x v) : VRs G H W ρ (xs ++ [x]) (vs ++ [v]) :=
  a.append (by simp only [VRs]; exact ⟨v, [], rfl, b, rfl⟩)
theorem VRs.set : ∀ {xs : List AV} {vs : List V} {x : AV} {v : V} (i : Nat), VRs G H W ρ xs vs → VR G H W ρ x v → VRs G H W ρ (xs.set i x) (vs.set i v)
  | [], vs, x, v, i, h, k => by
    simp only [VRs] at h
    subst h
    simp [VRs]
  | y :: xs, vs, x, v, 0, h, k => by
    simp only [VRs] at h
    obtain ⟨u, r, rfl, a, b⟩ := h
    simp only [List.set_cons_zero, VRs]
    exact ⟨v, r, rfl, k, b⟩
  | y :: xs, vs, x, v, i + 1, h, k => by
    simp only [VRs] at h
    obtain ⟨u, r, rfl, a, b⟩ := h
    simp only [List.set_cons_succ, VRs]
    exact ⟨u, _, rfl, a, VRs.set i b k⟩
/-- a name takes a value -/
theorem RS.setV (R : RS G B ρ h S W σ H) {i : Nat} {x : AV} {v : V} (r : VR G H W ρ x v) : RS G B ρ h (S.set i (.v x)) W (σ.set i (some v)) H := by
  refine ⟨R.len, R.nd, R.sub, R.base, R.out, R.live, R.cel, fun j s hj => ?_, fun j k c c' a h1 h2 h3 h4 => ?_⟩
  · by_cases e : i = j
    · subst e
      by_cases hl : i < S.length
      · rw [List.getElem?_set_self hl] at hj
        cases hj
        obtain ⟨o, ho, _⟩ := R.sl i S[i] (List.getElem?_eq_getElem hl)
        exact ⟨some v, List.getElem?_set_self (List.getElem?_eq_some_iff.mp ho).1, v, rfl, r⟩
      · rw [List.getElem?_eq_none (by simpa using hl)] at hj; cases hj
    · rw [List.getElem?_set_ne e] at hj ⊢
      exact R.sl j s hj
  · have n1 : i ≠ j := fun z => by
      subst z
      by_cases hl : i < S.length
      · rw [List.getElem?_set_self hl] at h1; cases h1
      · rw [List.getElem?_eq_none (by simpa using hl)] at h1; cases h1
    have n2 : i ≠ k := fun z => by
      subst z
      by_cases hl : i < S.length
      · rw [List.getElem?_set_self hl] at h2; cases h2
      · rw [List.getElem?_eq_none (by simpa using hl)] at h2; cases h2
    rw [List.getElem?_set_ne n1] at h1 h3
    rw [List.getElem?_set_ne n2] at h2 h4
    exact R.dj j k c c' a h1 h2 h3 h4
/-- a name takes a container that nothing else holds -/
theorem RS.setO (R : RS G B ρ h S W σ H) {i : Nat} {c : Cell} {p : Addr} (h1 : W p) (h2 : ¬ B p) (h3 : p ∉ ρ) (hf : Free S σ p) (hc : CAt G H W ρ p c) : RS G B ρ h (S.set i (.own c)) W (σ.set i (some (.ref p))) H := by
  refine ⟨R.len, R.nd, R.sub, R.base, R.out, R.live, R.cel, fun j s hj => ?_, fun j k d d' a g1 g2 g3 g4 => ?_⟩
  · by_cases e : i = j
    · subst e
      by_cases hl : i < S.length
      · rw [List.getElem?_set_self hl] at hj
        cases hj
        obtain ⟨o, ho, _⟩ := R.sl i S[i] (List.getElem?_eq_getElem hl)
        exact ⟨_, List.getElem?_set_self (List.getElem?_eq_some_iff.mp ho).1, p, rfl, h1, h2, h3, hc⟩
      · rw [List.getElem?_eq_none (by simpa using hl)] at hj; cases hj
    · rw [List.getElem?_set_ne e] at hj ⊢
      exact R.sl j s hj
  · have own_at : ∀ (j : Nat) d, (S.set i (SV.own c))[j]? = some (SV.own d) → (σ.set i (some (V.ref p)))[j]? = some (some (V.ref a)) → (j = i ∧ a = p) ∨ (S[j]? = some (SV.own d) ∧ σ[j]? = some (some (V.ref a)) ∧ a ≠ p) := fun j d e1 e2 => by
      by_cases e : i = j
      · subst e
        by_cases hl : i < σ.length
        · rw [List.getElem?_set_self hl] at e2
          cases e2
          exact .inl ⟨rfl, rfl⟩
        · rw [List.getElem?_eq_none (by simpa using hl)] at e2; cases e2
      · rw [List.getElem?_set_ne e] at e1 e2
        exact .inr ⟨e1, e2, hf.ne e1 e2⟩
    rcases own_at j d g1 g3 with ⟨e1, e2⟩ | ⟨e1, e2, e3⟩ <;> rcases own_at k d' g2 g4 with ⟨f1, f2⟩ | ⟨f1, f2, f3⟩
    · rw [e1, f1]
    · exact absurd e2 f3
    · exact absurd f2 e3
    · exact R.dj j k d d' a e1 f1 e2 f2
/-- a name is forgotten -/
theorem RS.weak (R : RS G B ρ h S W σ H) {S' : List SV} {σ' : L2.St} (k : ∀ (i : Nat) s, S'[i]? = some s → s = .no ∧ (∃ o, σ'[i]? = some o) ∨ S[i]? = some s ∧ σ'[i]? = σ[i]?) : RS G B ρ h S' W σ' H := by
  refine ⟨R.len, R.nd, R.sub, R.base, R.out, R.live, R.cel, fun i s hi => ?_, fun i j c c' a h1 h2 h3 h4 => ?_⟩
  · rcases k i s hi with ⟨rfl, o, e⟩ | ⟨e1, e2⟩
    · exact ⟨o, e, trivial⟩
    · rw [e2]; exact R.sl i s e1
  · rcases k i _ h1 with ⟨z, _⟩ | ⟨e1, e2⟩
    · cases z
    · rcases k j _ h2 with ⟨z, _⟩ | ⟨f1, f2⟩
      · cases z
      · rw [e2] at h3
        rw [f2] at h4
        exact R.dj i j c c' a e1 f1 h3 h4
theorem RS.bare (R : RS G B ρ h S W σ H) : RS G B ρ h [] W [] H := R.weak fun i s e => by simp at e
/-- a cell's content is changed -/
theorem RS.setC (R : RS G B ρ h S W σ H) {n : Nat} {a : Addr} {c : Cell} {o : HO} (ha : ρ[n]? = some a) (hc : CAt G (upd H a o) W ρ a c) : RS G B ρ (h.set n c) S W σ (upd H a o) := by
  have wa : W a := R.sub a (List.mem_of_getElem? ha)
  have x : Sub W H W (upd H a o) := ⟨fun b u nb e => ⟨nb, by
    have ne : b ≠ a := fun z => by subst z; exact nb wa
    rw [upd_ne ne]; exact e⟩⟩
  refine ⟨by simpa using R.len, R.nd, R.sub, R.base, R.out, fun b w => upd_live (R.live b w), fun i d b hi hb => ?_, fun i s hi => ?_, R.dj⟩
  · by_cases e : n = i
    · subst e
      rw [ha] at hb
      cases hb
      by_cases hl : n < h.length
      · rw [List.getElem?_set_self hl] at hi
        cases hi
        exact hc
      · rw [List.getElem?_eq_none (by simpa using hl)] at hi; cases hi
    · rw [List.getElem?_set_ne e] at hi
      have nb : b ≠ a := fun z => by
        subst z
        obtain ⟨l1, q1⟩ := List.getElem?_eq_some_iff.mp ha
        obtain ⟨l2, q2⟩ := List.getElem?_eq_some_iff.mp hb
        exact e ((List.getElem_inj R.nd).mp (q1.trans q2.symm))
      exact (R.cel i d b hi hb).mv x pre_refl fun u e => by rw [upd_ne nb]; exact e
  · obtain ⟨u, hu, hs⟩ := R.sl i s hi
    refine ⟨u, hu, ?_⟩
    cases s with
    | no => trivial
    | v y =>
      obtain ⟨v, e, r⟩ := hs
      exact ⟨v, e, r.mv x pre_refl⟩
    | own c =>
      obtain ⟨b, e, h1, h2, h3, h4⟩ := hs
      have nb : b ≠ a := fun z => h3 (z ▸ List.mem_of_getElem? ha)
      exact ⟨b, e, h1, h2, h3, h4.mv x pre_refl fun u e => by rw [upd_ne nb]; exact e⟩
theorem Ext.setC {n : Nat} {a : Addr} {o z : HO} (ha : ρ[n]? = some a) (wa : W a) (nb : ¬ B a) (hz : H a = some z) (nf : ∀ o u, z ≠ .frz o u) : Ext B ρ W H ρ W (upd H a o) := by
  refine ⟨⟨[], by simp⟩, fun b u h e => ?_, fun _ w => .inl w, fun b e => ?_, fun b u v e => by
    rw [upd_ne fun y => by subst y; rw [hz] at e; cases e; exact nf _ _ rfl]; exact e⟩
  · rw [upd_ne]
    · exact e
    · intro z
      subst z
      rcases h with h | h
      · exact h wa
      · exact nb h
  · by_cases hb : b = a
    · subst hb; rw [upd_same] at e; cases e
    · rw [upd_ne hb] at e; exact e
/-- a new cell for an owned container -/
theorem RS.cell (R : RS G B ρ h S W σ H) {p : Addr} {c : Cell} (h1 : W p) (h2 : ¬ B p) (h3 : p ∉ ρ) (hf : Free S σ p) (hc : CAt G H W ρ p c) : RS G B (ρ ++ [p]) (h ++ [c]) S W σ H := by
  have pre : ∃ t, ρ ++ [p] = ρ ++ t := ⟨[p], rfl⟩
  refine ⟨by simp [R.len], List.nodup_append.mpr ⟨R.nd, by simp, fun a ha b hb => ?_⟩, fun a ha => ?_, R.base, fun a ha => ?_, R.live, fun i d b hi hb => ?_, fun i s hi => ?_, R.dj⟩
  · rw [List.mem_singleton] at hb
    subst hb
    exact fun z => h3 (z ▸ ha)
  · rcases List.mem_append.mp ha with ha | ha
    · exact R.sub a ha
    · rw [List.mem_singleton] at ha; exact ha ▸ h1
  · rcases List.mem_append.mp ha with ha | ha
    · exact R.out a ha
    · rw [List.mem_singleton] at ha; exact ha ▸ h2
  · by_cases hl : i < h.length
    · rw [List.getElem?_append_left hl] at hi
      rw [List.getElem?_append_left (by rw [R.len]; exact hl)] at hb
      exact (R.cel i d b hi hb).mv Sub.refl pre fun _ e => e
    · have hl' : h.length ≤ i := Nat.le_of_not_lt hl
      rw [List.getElem?_append_right hl'] at hi
      rw [List.getElem?_append_right (by rw [R.len]; exact hl'), R.len] at hb
      cases q : i - h.length with
      | zero =>
        rw [q] at hi hb
        cases hi
        cases hb
        exact hc.mv Sub.refl pre fun _ e => e
      | succ m =>
        rw [q] at hi
        simp at hi
  · obtain ⟨u, hu, hs⟩ := R.sl i s hi
    refine ⟨u, hu, ?_⟩
    cases s with
    | no => trivial
    | v y =>
      obtain ⟨v, e, r⟩ := hs
      exact ⟨v, e, r.mv Sub.refl pre⟩
    | own d =>
      obtain ⟨b, e, g1, g2, g3, g4⟩ := hs
      refine ⟨b, e, g1, g2, fun z => ?_, g4.mv Sub.refl pre fun _ e => e⟩
      rcases List.mem_append.mp z with z | z
      · exact g3 z
      · rw [List.mem_singleton] at z
        exact hf.ne hi (by rw [hu, e]) z
theorem Ext.cell {p : Addr} : Ext B ρ W H (ρ ++ [p]) W H := ⟨⟨[p], rfl⟩, fun _ _ _ e => e, fun _ w => .inl w, fun _ e => e, fun _ _ _ e => e⟩
/-- a name's own container is changed -/
theorem RS.setS (R : RS G B ρ h S W σ H) {i : Nat} {a : Addr} {c d : Cell} {o : HO} (hi : S[i]? = some (.own d)) (ha : σ[i]? = some (some (.ref a))) (hc : CAt G (upd H a o) W ρ a c) : RS G B ρ h (S.set i (.own c)) W σ (upd H a o) := by
  obtain ⟨u0, hu0, a0, e0, wa, nB, nr, _⟩ := R.sl i _ hi
  rw [ha] at hu0
  cases hu0
  cases e0
  have x : Sub W H W (upd H a o) := ⟨fun b u nb e => ⟨nb, by
    have ne : b ≠ a := fun z => by subst z; exact nb wa
    rw [upd_ne ne]; exact e⟩⟩
  refine ⟨R.len, R.nd, R.sub, R.base, R.out, fun b w => upd_live (R.live b w), fun j e b hj hb => ?_, fun j s hj => ?_, fun j k c1 c2 b g1 g2 g3 g4 => ?_⟩
  · have nb : b ≠ a := fun z => nr (z ▸ List.mem_of_getElem? hb)
    exact (R.cel j e b hj hb).mv x pre_refl fun u e => by rw [upd_ne nb]; exact e
  · by_cases e : i = j
    · subst e
      rw [List.getElem?_set_self (List.getElem?_eq_some_iff.mp hi).1] at hj
      cases hj
      exact ⟨_, ha, a, rfl, wa, nB, nr, hc⟩
    · rw [List.getElem?_set_ne e] at hj
      obtain ⟨u, hu, hs⟩ := R.sl j s hj
      refine ⟨u, hu, ?_⟩
      cases s with
      | no => trivial
      | v y =>
        obtain ⟨v, e, r⟩ := hs
        exact ⟨v, e, r.mv x pre_refl⟩
      | own c' =>
        obtain ⟨b, eb, h1, h2, h3, h4⟩ := hs
        subst eb
        have nb : b ≠ a := fun z => e (R.dj i j _ _ a hi hj ha (by rw [hu, z]))
        exact ⟨b, rfl, h1, h2, h3, h4.mv x pre_refl fun u e => by rw [upd_ne nb]; exact e⟩
  · have get : ∀ (j : Nat) c1, (S.set i (SV.own c))[j]? = some (SV.own c1) → ∃ c3, S[j]? = some (SV.own c3) := fun j c1 g => by
      by_cases e : i = j
      · subst e; exact ⟨_, hi⟩
      · rw [List.getElem?_set_ne e] at g; exact ⟨_, g⟩
    obtain ⟨c3, g1'⟩ := get j c1 g1
    obtain ⟨c4, g2'⟩ := get k c2 g2
    exact R.dj j k c3 c4 b g1' g2' g3 g4
end
end Mp


set_option Elab.async false
set_option linter.all false
set_option maxRecDepth 10000
/-! The language and its evaluator. -/
namespace Mp
open PySem PySem.Spec PyProof.Rows L2

inductive Tc where
  | b (n : String) | c (i : Nat)
inductive MT where
  | nm (i : Nat) | tp (ts : List MT)
inductive Blt where
  | len | abs | max2 | min2 | all | any | sum | str | int | bool | list | tuple | sorted | dict | repr | set
  deriving DecidableEq
inductive Mth where
  | join | append | split | partition | startswith
  | extend | lpop | lpopAt | lreverse | lclear | linsert | lindex
  | dget | dget2 | dpop | dpop2 | dsetd | dclear
  | sadd
  | replace | find
  deriving DecidableEq

mutual
inductive ME where
  | var (i : Nat)
  | cst (x : D)
  | glo (j : Nat)
  | bin (o : Operator) (a b : ME)
  | neg (a : ME)
  | cmp (o : CmpOp) (a b : ME)
  | chn (o o' : CmpOp) (a b c : ME)
  | bop (t : Bool) (es : List ME)
  | nt (a : ME)
  | ite (c : MC) (a b : ME)
  | lst (es : List ME)
  | tup (es : List ME)
  /-- a dict's display: its keys and values one behind the other -/
  | dct (kvs : List ME)
  | sub (a i : ME)
  | slc (a : ME) (lo hi : Option ME)
  | rev (a : ME)
  /-- list(a.items()) -/
  | lit (a : ME)
  /-- list(a.keys()) -/
  | lke (a : ME)
  | isi (a : ME) (cs : List Tc)
  /-- a call of a def, by its number -/
  | cal (f : Nat) (es : List ME)
  | blt (b : Blt) (es : List ME)
  | met (m : Mth) (a : ME) (es : List ME)
  | lcm (elt : ME) (tg : MT) (it : MI) (cs : Option MC) (own : List Nat)
  | cel (e : ME)
  | dead
  | stp (a : ME) (lo : Option ME) (c : Int)
  /-- a new instance of an own class, by its number -/
  | mk (c : Nat) (es : List ME)
  /-- a field of an instance of one of the classes -/
  | fld (cs : List Nat) (e : ME) (a : Str)
  /-- an own method, by its def's number and its class's -/
  | cam (f c : Nat) (m : Str) (e : ME) (es : List ME)
  /-- set() -/
  | set0
  /-- a built-in of one thing that is not held -/
  | bl1 (b : Blt) (a : ME)
  /-- tuple(range(a)), list(range(a)) -/
  | rgv (t : Bool) (a : ME)
  /-- a set comprehension of two clauses -/
  | sc2 (elt : ME) (tg : MT) (it : MI) (cs : Option MC) (tg1 : MT) (it1 : MI) (cs1 : Option MC) (own own1 : List Nat)
  /-- an own class's special method, by its def's number and its class's: 0 ==, 1 !=, 2 len, 3 str, 4 repr, 5 bool -/
  | spc (k f c : Nat) (es : List ME)
  /-- an f-string -/
  | fst (es : List ME)
inductive MC where
  | val (e : ME)
  | cmp (o : CmpOp) (a b : ME)
  | chn (o o' : CmpOp) (a b c : ME)
  | bop (t : Bool) (cs : List MC)
  | nt (c : MC)
inductive MI where
  | seq (e : ME)
  | rng (es : List ME)
  | zs (es : List ME)
  | enm (e : ME)
  | zp (es : List ME)
end

mutual
inductive MS where
  | asg (t : MT) (e : ME)
  | par (ts : List Nat) (es : List ME)
  | asO (i : Nat) (e : ME)
  /-- two names on one row, the second one takes a new container as its own -/
  | parO (i j : Nat) (e c : ME)
  /-- o[i] = e -/
  | asI (o i e : ME)
  /-- o.a = e -/
  | asF (cs : List Nat) (o : ME) (a : Str) (e : ME)
  /-- a method of a name's own container -/
  | owM (j : Nat) (m : Mth) (es : List ME)
  | ex (e : ME)
  | ret (e : ME)
  | retO (j : Nat)
  | rtN
  | ife (c : MC) (a b : List MS)
  | for_ (t : MT) (it : MI) (b : List MS)
  | brk
  | cnt
  | pas
  | whl (n : Nat) (c : MC) (b : List MS)
  | dead
  | ast (ts : List MT) (e : ME)
  | aug (i : Nat) (e : ME)
  /-- t, *u = a tuple -/
  | beh (t u : MT) (e : ME)
  /-- del o[i] -/
  | del (o i : ME)
  /-- a try that runs through -/
  | tryP (b : List MS)
  /-- no text: a name's own container stands still from now on -/
  | gfz (j : Nat)
  /-- no text: a name's own container is a cell from now on -/
  | gcl (j : Nat)
  /-- no text: the dict that a name leads to is locked from now on -/
  | glk (j : Nat) (is : List Nat)
end
/-! ### values -/
mutual
def D.py : D → Option PyData
  | .non => some .none
  | .bl b => some (.bool b)
  | .int i => some (.int i)
  | .str x => some (.str x)
  | .lst xs => (D.pys xs).map .list
  | .tup xs => (D.pys xs).map .tuple
  | _ => none
def D.pys : List D → Option (List PyData)
  | [] => some []
  | x :: xs => match D.py x, D.pys xs with
    | some y, some ys => some (y :: ys)
    | _, _ => none
end
def Cell.res (c : Cell) : Option D := c.frz.bind AV.toD
def RV.res (h : Hs) : RV → Option D
  | .v (.d x) => some x
  | .v (.r n) => (h[n]?).bind Cell.res
  | .v (.q t xs) => AV.toD (.q t xs)
  | .f c => c.res
  | .b _ c => c.res
def AV.fv : AV → Option V
  | .d x => x.fv
  | _ => none
def AV.fvs : List AV → Option (List V)
  | [] => some []
  | x :: xs => match x.fv, AV.fvs xs with
    | some y, some ys => some (y :: ys)
    | _, _ => none
def RV.fv : RV → Option V
  | .v a => a.fv
  | _ => none
/-- a key of a dict, of a set -/
def D.key : D → Option Key
  | .int i => some (.inl i)
  | .str x => some (.inr x)
  | _ => none
def AV.key : AV → Option Key
  | .d x => x.key
  | _ => none
def RV.key : RV → Option Key
  | .v a => a.key
  | _ => none
def valA {κ α : Type} [DecidableEq κ] (kvs : List (κ × α)) (k : κ) : Option α := (kvs.find? fun kv => decide (kv.1 = k)).map (·.2)
def putA {κ α : Type} [DecidableEq κ] (kvs : List (κ × α)) (k : κ) (v : α) : List (κ × α) :=
  if (kvs.any fun kv => decide (kv.1 = k)) = true then kvs.map fun kv => if kv.1 = k then (kv.1, v) else kv else kvs ++ [(k, v)]
def dropA {κ α : Type} [DecidableEq κ] (kvs : List (κ × α)) (k : κ) : List (κ × α) := kvs.filter fun kv => decide (kv.1 ≠ k)
/-- a field is stored -/
def putFA {α : Type} (f : Str) (v : α) : List (Str × α) → List (Str × α)
  | [] => [(f, v)]
  | p :: r => if p.1 = f then (f, v) :: r else p :: putFA f v r
def AV.ints : List AV → Option (List Int)
  | [] => some []
  | .d (.int i) :: xs => (AV.ints xs).map (i :: ·)
  | _ => none
def AV.bls : List AV → Option (List Bool)
  | [] => some []
  | .d (.bl i) :: xs => (AV.bls xs).map (i :: ·)
  | _ => none
def AV.strs : List AV → Option (List Str)
  | [] => some []
  | .d (.str i) :: xs => (AV.strs xs).map (i :: ·)
  | _ => none
abbrev di (i : Int) : RV := .v (.d (.int i))
abbrev db (b : Bool) : RV := .v (.d (.bl b))
abbrev dS (x : Str) : RV := .v (.d (.str x))
abbrev dn : RV := .v (.d .non)
def ok1 {α : Type} (o : Option α) (h : Hs) : Res α := match o with | some a => .ok a h | none => .bad
@[simp] theorem ok1_some {α : Type} (a : α) (h : Hs) : ok1 (some a) h = .ok a h := rfl
@[simp] theorem ok1_none {α : Type} (h : Hs) : ok1 (none : Option α) h = .bad := rfl

def okP {α : Type} (o : Option (α × Hs)) : Res α := match o with | some p => .ok p.1 p.2 | none => .bad
@[simp] theorem okP_some {α : Type} (a : α) (h : Hs) : okP (some (a, h)) = .ok a h := rfl
@[simp] theorem okP_none {α : Type} : okP (none : Option (α × Hs)) = .bad := rfl

def bop : Operator → Vw → Vw → Option RV
  | .Add, .int i, .int j => some (di (i + j))
  | .Sub, .int i, .int j => some (di (i - j))
  | .Mult, .int i, .int j => if (-(2 ^ 64) < i ∧ i < 2 ^ 64) ∨ (-(2 ^ 64) < j ∧ j < 2 ^ 64) then some (di (i * j)) else none
  | .FloorDiv, .int i, .int j => if j ≠ 0 ∧ j.natAbs < 1073741824 then some (di (i.fdiv j)) else none
  | .Mod, .int i, .int j => if j ≠ 0 then some (di (i.fmod j)) else none
  | .Pow, .int i, .int j => if 0 ≤ j ∧ j ≤ 1000000 ∧ i.natAbs < 2 ^ 64 then some (di (i ^ j.toNat)) else none
  | .Add, .str x, .str y => if x.length + y.length ≤ sizeLine then some (dS (x ++ y)) else none
  | .Add, .lst xs, .lst ys => if xs.length + ys.length ≤ sizeLine then some (.f (.lst (xs ++ ys))) else none
  | .Add, .tup xs, .tup ys => if xs.length + ys.length ≤ sizeLine then some (.v (mkTup (xs ++ ys))) else none
  | .Mult, .tup xs, .int k => if xs ≠ [] ∧ 2 ≤ k ∧ k ≤ 1000 ∧ xs.length ≤ 1000 then some (.v (mkTup (List.replicate k.toNat xs).flatten)) else none
  | _, _, _ => none
def binO (h : Hs) (o : Operator) (x y : RV) : Option RV := match x.vw h, y.vw h with
  | some v, some w => bop o v w
  | _, _ => none
def isNon : RV → Bool
  | .v (.d .non) => true
  | _ => false
def inB (x : Option V) (ys : Option (List V)) : Option Bool := match x, ys with
  | some x, some ys => some (inV x ys)
  | _, _ => none
def inO (h : Hs) (a b : RV) : Option Bool := match b.vw h with
  | some (.str y) => (match a.fv with | some (.str x) => some (!(Builtin.Str.occurrences y x 0 y.length 1).isEmpty) | _ => none)
  | some (.lst ys) => inB a.fv (AV.fvs ys)
  | some (.tup ys) => inB a.fv (AV.fvs ys)
  | some (.dic kvs) => a.key.map fun k => (valA kvs k).isSome
  | some (.kdc kvs) => (match a with | .v (.d (.str x)) => some (kvs.lookup x).isSome | _ => none)
  | some (.set ks) => a.key.map fun k => ks.any fun j => decide (j = k)
  | _ => none
/-- two dicts of flat values that are the same -/
def eqDic (xs ys : List (Key × AV)) : Bool := decide (xs.length = ys.length) && xs.all fun p => match valA ys p.1 with
  | some y => (match p.2.fv, y.fv with | some u, some v => decide (u = v) | _, _ => false)
  | none => false
/-- data that are the same -/
def eqL (x y : AV) : Bool := match x.toD.bind D.py, y.toD.bind D.py with
  | some a, some b => a.canLay0 && b.canLay0 && decide (a.depth ≤ 40) && PyData.eqv a b
  | _, _ => false
def eqLs (f : AV → AV → Bool) : List AV → List AV → Bool
  | [], [] => true
  | x :: xs, y :: ys => f x y && eqLs f xs ys
  | _, _ => false
def eqDs (f : AV → AV → Bool) (xs ys : List (Key × AV)) : Bool := decide (xs.length = ys.length) && xs.all fun p => match valA ys p.1 with
  | some y => f p.2 y
  | none => false
def eqWf (f : AV → AV → Bool) : Vw → Vw → Bool
  | .tup xs, .tup ys => eqLs f xs ys
  | .lst xs, .lst ys => eqLs f xs ys
  | .dic xs, .dic ys => eqDs f xs ys
  | _, _ => false
/-- values that are the same, dicts and cells within -/
def eqT (h : Hs) : Nat → AV → AV → Bool
  | 0, x, y => eqL x y
  | n + 1, x, y => eqL x y || match x.vw h, y.vw h with
    | some u, some v => eqWf (eqT h n) u v
    | _, _ => false
def eqO (h : Hs) (a b : RV) : Option Bool := match (a.res h).bind D.py, (b.res h).bind D.py with
  | some x, some y => if SeqAt.shaped x = true ∧ SeqAt.shaped y = true then some (PyData.eqv x y) else none
  | _, _ => match a.vw h, b.vw h with
    | some (.dic xs), some (.dic ys) => if eqDic xs ys = true then some true else none
    | some (.tup xs), some (.tup ys) => if eqLs (eqT h 16) xs ys = true then some true else none
    | some (.lst xs), some (.lst ys) => if eqLs (eqT h 16) xs ys = true then some true else none
    | _, _ => none
def ltO (f : Int → Int → Bool) (a b : RV) : Option Bool := match a, b with
  | .v (.d (.int i)), .v (.d (.int j)) => some (f i j)
  | _, _ => none
def cop (h : Hs) : CmpOp → RV → RV → Option Bool
  | .Eq, a, b => eqO h a b
  | .NotEq, a, b => (eqO h a b).map (!·)
  | .Lt, a, b => ltO (fun i j => decide (i < j)) a b
  | .LtE, a, b => ltO (fun i j => decide (i ≤ j)) a b
  | .Gt, a, b => ltO (fun i j => decide (j < i)) a b
  | .GtE, a, b => ltO (fun i j => decide (j ≤ i)) a b
  | .Is, a, b => if isNon b then some (isNon a) else none
  | .IsNot, a, b => if isNon b then some (!isNon a) else none
  | .In, a, b => inO h a b
  | .NotIn, a, b => (inO h a b).map (!·)
def truO : Vw → Option Bool
  | .non => some false
  | .bl b => some b
  | .int i => some (i != 0)
  | .str x => if x.length ≤ sizeLine then some ((x.length : Int) != 0) else none
  | .lst xs => some (!xs.isEmpty)
  | .tup xs => some (!xs.isEmpty)
  | .dic xs => some (!xs.isEmpty)
  | _ => none
def ixO (w : Vw) (i : Int) : Option AV := match w with
  | .lst xs => atI xs i
  | .tup xs => atI xs i
  | .scr xs => (atI xs i).map fun j => .d (.int j)
  | .str x => if x.length ≤ sizeLine then (atI x.cps.toList i).map fun c => .d (.str ⟨#[c]⟩) else none
  | _ => none
def ixV : Vw → RV → Option RV
  | .dic kvs, y => (y.key.bind fun k => valA kvs k).map .v
  | .kdc kvs, .v (.d (.str x)) => (kvs.lookup x).map fun d => .v (.d d)
  | v, .v (.d (.int j)) => (ixO v j).map .v
  | _, _ => none
def subO (h : Hs) (x y : RV) : Option RV := (x.vw h).bind fun v => ixV v y
def cutA {α : Type} (xs : List α) (lo hi : Option Int) : List α := (xs.drop (HT.sIx xs.length 0 lo)).take (HT.sIx xs.length xs.length hi - HT.sIx xs.length 0 lo)
def slO (w : Vw) (lo hi : Option Int) : Option RV := match w with
  | .lst xs => some (.f (.lst (cutA xs lo hi)))
  | .tup xs => some (.v (mkTup (cutA xs lo hi)))
  | .str x => if x.length ≤ sizeLine then some (dS (cutS x lo hi)) else none
  | _ => none
/-- a value's built-in type -/
inductive Ty where
  | b (n : String) | c (i : Nat)
def Vw.ty : Vw → Option Ty
  | .non => some (.b "NoneType")
  | .bl _ => some (.b "bool")
  | .int _ => some (.b "int")
  | .str _ => some (.b "str")
  | .lst _ => some (.b "list")
  | .tup _ => some (.b "tuple")
  | .dic _ => some (.b "dict")
  | .ins c _ => some (.c c)
  | .kdc _ => none
  | .set _ => none
  | .scr _ => none
def bTys : List String := ["NoneType", "bool", "int", "str", "list", "tuple", "dict"]
def tyIs : Ty → Tc → Option Bool
  | .b a, .b b => kitB a b
  | .c i, .c j => if i = j then some true else none
  | .b a, .c _ => if a ∈ bTys then some false else none
  | _, _ => none
def tyAny (t : Ty) : List Tc → Option Bool
  | [] => some false
  | c :: cs => match tyIs t c, tyAny t cs with
    | some b, some r => some (b || r)
    | _, _ => none
def lenO : Vw → Option Nat
  | .str x => if x.length ≤ sizeLine then some x.length else none
  | .lst xs => some xs.length
  | .tup xs => some xs.length
  | .scr xs => some xs.length
  | .dic kvs => some kvs.length
  | _ => none
def AV.keys : List AV → Option (List Key)
  | [] => some []
  | x :: xs => match x.key, AV.keys xs with
    | some k, some ks => some (k :: ks)
    | _, _ => none
/-- pairs of a key and a value -/
def AV.prs (h : Hs) : List AV → Option (List (Key × AV))
  | [] => some []
  | x :: xs => match x.vw h with
    | some (.tup [a, b]) => a.key.bind fun k => (AV.prs h xs).map fun l => (k, b) :: l
    | _ => none
def mergeA : List (Key × AV) → List (Key × AV) → List (Key × AV)
  | xs, [] => xs
  | xs, (k, x) :: ps => mergeA (putA xs k x) ps
/-- keys that are texts -/
def kyS : List Key → Option (List Str)
  | [] => some []
  | .inr x :: ks => (kyS ks).map (x :: ·)
  | _ => none
/-- a built-in's answer -/
def bltO (h : Hs) : Blt → List RV → Option RV
  | .len, [x] => ((x.vw h).bind lenO).map fun (n : Nat) => di (n : Int)
  | .abs, [.v (.d (.int i))] => some (di (if i < 0 then -i else i))
  | .max2, [.v (.d (.int i)), .v (.d (.int j))] => some (di (if j > i then j else i))
  | .min2, [.v (.d (.int i)), .v (.d (.int j))] => some (di (if j < i then j else i))
  | .all, [x] => (match x.vw h with | some (.lst xs) => (AV.bls xs).map fun bs => db (bs.all id) | _ => none)
  | .any, [x] => (match x.vw h with | some (.lst xs) => (AV.bls xs).map fun bs => db (bs.any id) | _ => none)
  | .sum, [x] => (match x.vw h with | some (.lst xs) => (AV.ints xs).map fun bs => di bs.sum | _ => none)
  | .str, [.v (.d (.int i))] => if i.natAbs.log2 < 1920 then some (dS (toString i)) else none
  | .int, [.v (.d (.bl b))] => some (di (if b then 1 else 0))
  | .int, [.v (.d (.int i))] => some (di i)
  | .int, [.v (.d (.str a))] => if a.length ≤ 640 then (PySem.intText? a).map di else none
  | .str, [.v (.d (.str a))] => some (dS a)
  | .repr, [.v (.d (.int i))] => if i.natAbs.log2 < 1920 then some (dS (toString i)) else none
  | .dict, [x] => (match x.vw h with | some (.dic kvs) => some (.f (.dic kvs)) | some (.lst xs) => (AV.prs h xs).map fun ps => .f (.dic (mergeA [] ps)) | _ => none)
  | .list, [x] => (match x.vw h with | some (.lst xs) => some (.f (.lst xs)) | some (.tup xs) => some (.f (.lst xs)) | some (.str x) => if x.length ≤ sizeLine then some (.f (.lst (x.cps.toList.map fun c => .d (.str ⟨#[c]⟩)))) else none | _ => none)
  | .tuple, [x] => (match x.vw h with | some (.lst xs) => some (.v (mkTup xs)) | some (.tup xs) => some (.v (mkTup xs)) | _ => none)
  | .sorted, [x] => (match x.vw h with
    | some (.lst xs) => (match AV.strs xs with
      | some ss => if ss.length < 64 then some (.f (.lst ((sortS ss).map fun z => .d (.str z)))) else none
      | none => (AV.ints xs).bind fun ns => if ns.length < 64 then some (.f (.lst ((sortI ns).map fun z => .d (.int z)))) else none)
    | some (.dic kvs) => (kyS (kvs.map (·.1))).bind fun ss => if ss.length < 64 then some (.f (.lst ((sortS ss).map fun z => .d (.str z)))) else none
    | some (.set ks) => (kyS ks).bind fun ss => if ss.length ≤ sizeLine then some (.f (.lst ((sortS ss).map fun z => .d (.str z)))) else none
    | _ => none)
  | .set, [x] => (match x.vw h with
    | some (.lst xs) => (AV.keys xs).bind fun ks => if ks.length + 1 < scanBound then some (.f (.set (addKs [] ks))) else none
    | _ => none)
  | _, _ => none
def Mth.ty : Mth → String
  | .join => "str" | .append => "list" | .split => "str" | .partition => "str" | .startswith => "str" | .replace => "str" | .find => "str"
  | .extend => "list" | .lpop => "list" | .lpopAt => "list" | .lreverse => "list" | .lclear => "list" | .linsert => "list" | .lindex => "list"
  | .dget => "dict" | .dget2 => "dict" | .dpop => "dict" | .dpop2 => "dict" | .dsetd => "dict" | .dclear => "dict"
  | .sadd => "set"
/-- the receiver is of the method's type -/
def vwOk : String → Vw → Bool
  | "str", .str _ => true
  | "list", .lst _ => true
  | "dict", .dic _ => true
  | "set", .set _ => true
  | _, _ => false
def rcvOk (h : Hs) (m : Mth) (x : RV) : Bool := match x.vw h with
  | some w => vwOk m.ty w
  | none => false
/-- a method that changes nothing -/
def Mth.look : Mth → Bool
  | .join => true | .split => true | .partition => true | .startswith => true | .replace => true | .find => true
  | .dget => true | .dget2 => true | .lindex => true
  | _ => false
def vMth (h : Hs) : Mth → Vw → List AV → Option RV
  | .join, .str s, [x] => (match x.vw h with
    | some (.lst xs) => (AV.strs xs).bind fun ys => if (ys.map (·.length)).sum + ys.length * s.length ≤ 16777216 then some (dS (Txt.join s ys)) else none
    | _ => none)
  | .split, .str a, [.d (.str b)] => if (b.length == 0) = false ∧ a.length + 2 ≤ sizeLine then some (.f (.lst ((Txt.split a b).map fun z => .d (.str z)))) else none
  | .partition, .str a, [.d (.str b)] => if (b.length == 0) = false ∧ a.length ≤ sizeLine then some (.v (mkTup [.d (.str (Txt.partition a b).1), .d (.str (Txt.partition a b).2.1), .d (.str (Txt.partition a b).2.2)])) else none
  | .startswith, .str a, [.d (.str b)] => some (db (Txt.startswith a b))
  | .find, .str a, [.d (.str b)] => some (di (Txt.find a b))
  | .dget, .dic kvs, [k] => k.key.map fun k => .v ((valA kvs k).getD (.d .non))
  | .dget2, .dic kvs, [k, d] => k.key.map fun k => .v ((valA kvs k).getD d)
  | _, _, _ => none
/-- what a method does to a container: its answer, the container behind it -/
def cMth (h : Hs) : Mth → Cell → List AV → Option (AV × Cell)
  | .append, .lst xs, [y] => if xs.length < sizeLine then some (.d .non, .lst (xs ++ [y])) else none
  | .extend, .lst xs, [y] => (match y.vw h with | some (.lst ys) => if xs.length + ys.length ≤ sizeLine then some (.d .non, .lst (xs ++ ys)) else none | _ => none)
  | .lpop, .lst xs, [] => (xs[xs.length - 1]?).map fun y => (y, .lst xs.dropLast)
  | .lpopAt, .lst xs, [.d (.int i)] => if -(2 ^ 63) ≤ i ∧ i < 2 ^ 63 then (seqIndex? i xs.length).bind fun k => (xs[k]?).map fun y => (y, .lst (xs.eraseIdx k)) else none
  | .lreverse, .lst xs, [] => some (.d .non, .lst xs.reverse)
  | .lclear, .lst _, [] => some (.d .non, .lst [])
  | .dpop, .dic kvs, [k] => k.key.bind fun k => (valA kvs k).map fun v => (v, .dic (dropA kvs k))
  | .dpop2, .dic kvs, [k, d] => k.key.map fun k => match valA kvs k with | some v => (v, .dic (dropA kvs k)) | none => (d, .dic kvs)
  | .dclear, .dic _, [] => some (.d .non, .dic [])
  | .dsetd, .dic kvs, [k, d] => if kvs.length < sizeLine then k.key.map fun k => match valA kvs k with | some v => (v, .dic kvs) | none => (d, .dic (putA kvs k d)) else none
  | .sadd, .set ks, [k] => if ks.length + 1 < scanBound then k.key.map fun k => (.d .non, .set (if (ks.any fun j => decide (j = k)) = true then ks else ks ++ [k])) else none
  | _, _, _ => none
/-- a method's answer and the cells behind it -/
def mthO (h : Hs) (m : Mth) (x : RV) (as : List AV) : Option (RV × Hs) :=
  if m.look = true then (x.vw h).bind fun w => (vMth h m w as).map fun r => (r, h)
  else match x with
    | .v (.r n) => (h[n]?).bind fun c => (cMth h m c as).map fun p => (.v p.1, h.set n p.2)
    | _ => none

/-- the source of a loop stands as it stood: frozen, or a cell that is looked at -/
inductive Src where
  | fz | cell (n : Nat) (c : Cell)
def SrcOk (h : Hs) : Src → Prop
  | .fz => True
  | .cell n c => h[n]? = some c
/-- a walked thing's items -/
def itO (h : Hs) : RV → Option (List AV × Src)
  | .v (.d (.lst xs)) => some (xs.map .d, .fz)
  | .v (.d (.tup xs)) => some (xs.map .d, .fz)
  | .v (.d (.str x)) => some (x.cps.toList.map fun c => .d (.str ⟨#[c]⟩), .fz)
  | .v (.q _ xs) => some (xs, .fz)
  | .f (.lst xs) => some (xs, .fz)
  | .v (.r n) => (match h[n]? with | some (.lst xs) => some (xs, .cell n (.lst xs)) | some (.lck kvs) => some (kvs.map fun p => kA p.1, .fz) | _ => none)
  | _ => none
def rngO : List AV → Option (List AV × Src)
  | [.d (.int j)] => if -(2 ^ 62) ≤ j ∧ j < 2 ^ 62 then some ((List.range j.toNat).map fun (i : Nat) => .d (.int (0 + i)), .fz) else none
  | [.d (.int i), .d (.int j)] => if -(2 ^ 62) ≤ i ∧ i < 2 ^ 62 ∧ -(2 ^ 62) ≤ j ∧ j < 2 ^ 62 then some ((List.range (j - i).toNat).map fun (k : Nat) => .d (.int (i + k)), .fz) else none
  | _ => none

/-- a list that stands still -/
def lsO : AV → Option (List AV)
  | .d (.lst xs) => some (xs.map .d)
  | .q false xs => some xs
  | _ => none
def zsO : List AV → Option (List AV × Src)
  | [x, y] => (lsO x).bind fun xs => (lsO y).bind fun ys => if xs.length = ys.length then some ((xs.zip ys).map fun p => mkTup [p.1, p.2], .fz) else none
  | _ => none
/-- a list's items with their places -/
def enmO (x : AV) : Option (List AV × Src) := (lsO x).map fun xs => (xs.zipIdx.map fun q => mkTup [.d (.int (q.2 : Nat)), q.1], .fz)
/-- the pairs of two lists that stand still -/
def zpO : List AV → Option (List AV × Src)
  | [x, y] => (lsO x).bind fun xs => (lsO y).bind fun ys => some ((xs.zip ys).map fun p => mkTup [p.1, p.2], .fz)
  | _ => none
/-! ### targets -/
mutual
def evG (h : Hs) : MT → AV → List SV → Option (List SV)
  | .nm i, x, S => some (S.set i (.v x))
  | .tp ts, x, S => match x.vw h with
    | some (.tup xs) => evGs h ts xs S
    | some (.lst xs) => evGs h ts xs S
    | _ => none
def evGs (h : Hs) : List MT → List AV → List SV → Option (List SV)
  | [], [], S => some S
  | t :: ts, x :: xs, S => (evG h t x S).bind (evGs h ts xs)
  | _, _, _ => none
end
def wipeS (S : List SV) : List Nat → List SV
  | [] => S
  | v :: vs => (wipeS S vs).set v .no

def noOwn (S : List SV) (vs : List Nat) : Bool := vs.all fun i => match S[i]? with | some (.own _) => false | _ => true
mutual
def slotsT : MT → List Nat
  | .nm i => [i]
  | .tp ts => slotsTs ts
def slotsTs : List MT → List Nat
  | [] => []
  | t :: ts => slotsT t ++ slotsTs ts
end

/-! ### expressions -/
/-- what the text's defs and constants are worth -/
structure Fn where
  fn : Nat → List AV → Hs → Res RV
  gc : Nat → D
  ini : Nat → List AV → Hs → Res RV
  mth : Nat → List AV → Hs → Res RV
/-- a display's pairs, one behind the other -/
def disp : List AV → List (Key × AV) → Option (List (Key × AV))
  | [], acc => some acc
  | k :: v :: r, acc => k.key.bind fun k => disp r (putA acc k v)
  | [_], _ => none
open Classical in
noncomputable def lcGo (elt : List SV → Hs → Res AV) (cs : List SV → Hs → Res Bool) (tg : MT) (src : Src) (S : List SV) : List AV → List AV → Hs → Res RV
  | [], acc, h => if SrcOk h src then .ok (.f (.lst acc)) h else .bad
  | x :: xs, acc, h => if SrcOk h src then
      match evG h tg x S with
      | some S' => (cs S' h).noX.bind fun b h1 => if b = true then (elt S' h1).noX.bind fun y h2 => if acc.length < sizeLine then lcGo elt cs tg src S xs (acc ++ [y]) h2 else .bad
        else lcGo elt cs tg src S xs acc h1
      | none => .bad
    else .bad
/-- a cell that is a set takes a key -/
def addC (h : Hs) (n : Nat) (y : AV) : Option Hs := match h[n]?, y.key with
  | some (.set ks), some k => if ks.length + 1 < scanBound then some (h.set n (.set (addK ks k))) else none
  | _, _ => none
open Classical in
noncomputable def scIn (n : Nat) (elt : List SV → Hs → Res AV) (cs : List SV → Hs → Res Bool) (tg : MT) (src : Src) (S : List SV) : List AV → Hs → Res Unit
  | [], h => if SrcOk h src then .ok () h else .bad
  | x :: xs, h => if SrcOk h src then
      match evG h tg x S with
      | some S' => (cs S' h).noX.bind fun b h1 => if b = true then (elt S' h1).noX.bind fun y h2 => (ok1 (addC h2 n y) h2).bind fun h3 _ => scIn n elt cs tg src S xs h3
        else scIn n elt cs tg src S xs h1
      | none => .bad
    else .bad
open Classical in
/-- a set comprehension of two clauses: the set is the cell n -/
noncomputable def scGo (n : Nat) (elt : List SV → Hs → Res AV) (cs : List SV → Hs → Res Bool) (it1 : List SV → Hs → Res (List AV × Src)) (cs1 : List SV → Hs → Res Bool) (tg tg1 : MT) (src : Src) (S : List SV) (own1 : List Nat) : List AV → Hs → Res RV
  | [], h => if SrcOk h src then .ok (.v (.r n)) h else .bad
  | x :: xs, h => if SrcOk h src then
      match evG h tg x S with
      | some S' => (cs S' h).noX.bind fun b h1 => if b = true then (it1 S' h1).noX.bind fun p h2 => (scIn n elt cs1 tg1 p.2 (wipeS S' own1) p.1 h2).bind fun _ h3 => scGo n elt cs it1 cs1 tg tg1 src S own1 xs h3
        else scGo n elt cs it1 cs1 tg tg1 src S own1 xs h1
      | none => .bad
    else .bad
def toV1 (r : RV) (h : Hs) : Res AV := ok1 r.toV h
/-- kept while another thing is reckoned -/
def RV.hold : RV → Option RV
  | .v a => some (.v a)
  | .f c => c.frz.map .v
  | .b i c => some (.b i c)
def ho1 (r : RV) (h : Hs) : Res RV := ok1 r.hold h
/-- what comes of a special method -/
def spK (k : Nat) : RV → Option RV
  | .v (.d (.bl b)) => if k = 0 then some (db b) else if k = 1 then some (db (!b)) else none
  | .v (.d (.int n)) => if 0 ≤ n ∧ n < 2 ^ 62 then (if k = 2 then some (.v (.d (.int n))) else if k = 5 then some (db (n != 0)) else none) else none
  | .v (.d (.str x)) => if k = 3 ∨ k = 4 then some (.v (.d (.str x))) else none
  | _ => none
def insB (c : Nat) (h : Hs) (x : AV) : Bool := match x.vw h with
  | some (.ins c' _) => decide (c' = c)
  | _ => false
/-- what a special method may be asked with -/
def spA (k c : Nat) (h : Hs) : List AV → Bool
  | [x] => decide (2 ≤ k) && decide (k ≤ 5) && insB c h x
  | [x, y] => decide (k ≤ 1) && insB c h x && (match (y.vw h).bind Vw.ty with
    | some (.c c') => decide (c' = c)
    | some (.b t) => decide (t ∈ bTys)
    | none => false)
  | _ => false
/-- a part of an f-string as a text -/
def fsA : RV → Option Str
  | .v (.d (.str x)) => if x.length ≤ sizeLine then some x else none
  | .v (.d (.int i)) => if i.natAbs.log2 < 1920 then some (Str.ofString (toString i)) else none
  | _ => none
def asB (r : RV) (h : Hs) : Res Bool := match r with
  | .v (.d (.bl b)) => .ok b h
  | _ => .bad
mutual
noncomputable def evE (F : Fn) : ME → List SV → Hs → Res RV
  | .var i, S, h => match S[i]? with
    | some (.v x) => .ok (.v x) h
    | some (.own c) => .ok (.b i c) h
    | _ => .bad
  | .cst x, _, h => .ok (.v (.d x)) h
  | .glo j, _, h => .ok (.v (.d (F.gc j))) h
  | .bin o a b, S, h => (evE F a S h).bind fun x h1 => (ho1 x h1).bind fun x h1 => (evE F b S h1).bind fun y h2 => ok1 (binO h2 o x y) h2
  | .neg a, S, h => (evE F a S h).bind fun x h1 => match x with
    | .v (.d (.int i)) => .ok (di (-i)) h1
    | _ => .bad
  | .cmp o a b, S, h => (evE F a S h).bind fun x h1 => (ho1 x h1).bind fun x h1 => (evE F b S h1).bind fun y h2 => ok1 ((cop h2 o x y).map db) h2
  | .chn o o' a b c, S, h => (evE F a S h).bind fun x h1 => (ho1 x h1).bind fun x h1 => (evE F b S h1).bind fun y h2 => (ho1 y h2).bind fun y h2 => (ok1 (cop h2 o x y) h2).bind fun k h3 =>
      if k = true then (evE F c S h3).bind fun z h4 => ok1 ((cop h4 o' y z).map db) h4 else .ok (db false) h3
  | .bop t es, S, h => evB F t es S h
  | .nt a, S, h => (evE F a S h).bind fun x h1 => (asB x h1).bind fun b h2 => .ok (db (!b)) h2
  | .ite c a b, S, h => (evT F c S h).bind fun k h1 => if k = true then evE F a S h1 else evE F b S h1
  | .lst es, S, h => (evL F es S h).bind fun xs h1 => if xs.length ≤ sizeLine then .ok (.f (.lst xs)) h1 else .bad
  | .tup es, S, h => (evL F es S h).bind fun xs h1 => if xs.length ≤ sizeLine then .ok (.v (mkTup xs)) h1 else .bad
  | .dct kvs, S, h => (evL F kvs S h).bind fun xs h1 => ok1 ((disp xs []).map fun ys => .f (.dic ys)) h1
  | .sub a i, S, h => (evE F a S h).bind fun x h1 => (ho1 x h1).bind fun x h1 => (evE F i S h1).bind fun y h2 => ok1 (subO h2 x y) h2
  | .slc a lo hi, S, h => (evE F a S h).bind fun x h1 => (ho1 x h1).bind fun x h1 => (evO F lo S h1).bind fun l h2 => (evO F hi S h2).bind fun u h3 => ok1 ((x.vw h3).bind fun w => slO w l u) h3
  | .rev a, S, h => (evE F a S h).bind fun x h1 => match x.vw h1 with
    | some (.lst xs) => .ok (.f (.lst xs.reverse)) h1
    | some (.tup xs) => .ok (.v (mkTup xs.reverse)) h1
    | _ => .bad
  | .lit a, S, h => (evE F a S h).bind fun x h1 => match x.vw h1 with
    | some (.dic kvs) => .ok (.f (.lst (kvs.map itA))) h1
    | _ => .bad
  | .lke a, S, h => (evE F a S h).bind fun x h1 => match x.vw h1 with
    | some (.dic kvs) => .ok (.f (.lst (kvs.map fun p => kA p.1))) h1
    | _ => .bad
  | .isi a cs, S, h => (evE F a S h).bind fun x h1 => ok1 (((x.vw h1).bind Vw.ty).bind fun t => (tyAny t cs).map db) h1
  | .cal f es, S, h => (evL F es S h).bind fun xs h1 => F.fn f xs h1
  | .blt b es, S, h => (evR F es S h).bind fun xs h1 => ok1 (bltO h1 b xs) h1
  | .met m a es, S, h => (evE F a S h).bind fun x h1 => (ho1 x h1).bind fun x h1 => if rcvOk h1 m x = true then (evL F es S h1).bind fun xs h2 => okP (mthO h2 m x xs) else .bad
  | .lcm elt tg it cs own, S, h => if noOwn S own = true then (evI F it S h).bind fun p h1 =>
      lcGo (fun S h => (evE F elt S h).bind toV1) (fun S h => evTo F cs S h) tg p.2 (wipeS S own) p.1 [] h1 else .bad
  | .cel e, S, h => (evE F e S h).bind fun x h1 => match x with
    | .f c => .ok (.v (.r h1.length)) (h1 ++ [c])
    | _ => .bad
  | .dead, _, _ => .bad
  | .stp a lo c, S, h => (evE F a S h).bind fun x h1 => (ho1 x h1).bind fun x h1 => (evO F lo S h1).bind fun l h2 => match x.vw h2 with
    | some (.lst xs) => .ok (.f (.lst (pickL xs l c))) h2
    | _ => .bad
  | .mk c es, S, h => (evL F es S h).bind fun xs h1 => F.ini c xs h1
  | .fld cs e a, S, h => (evE F e S h).bind fun x h1 => match x.vw h1 with
    | some (.ins c fs) => if c ∈ cs then ok1 ((fs.lookup a).map .v) h1 else .bad
    | _ => .bad
  | .cam f c m e es, S, h => (evE F e S h).bind fun x h1 => (toV1 x h1).bind fun x h1 => match x.vw h1 with
    | some (.ins c' fs) => if c' = c ∧ fs.lookup m = none then (evL F es S h1).bind fun xs h2 => F.mth f (x :: xs) h2 else .bad
    | _ => .bad
  | .set0, _, h => .ok (.f (.set [])) h
  | .bl1 b a, S, h => (evE F a S h).bind fun x h1 => ok1 (bltO h1 b [x]) h1
  | .rgv t a, S, h => (evE F a S h).bind fun x h1 => match x with
    | .v (.d (.int j)) => if -(2 ^ 62) ≤ j ∧ j ≤ 1000000 then .ok (if t = true then .v (mkTup ((List.range j.toNat).map fun (i : Nat) => .d (.int (0 + i)))) else .f (.lst ((List.range j.toNat).map fun (i : Nat) => .d (.int (0 + i))))) h1 else .bad
    | _ => .bad
  | .sc2 elt tg it cs tg1 it1 cs1 own own1, S, h => if noOwn S own = true then (evI F it S h).bind fun p h1 =>
      scGo h1.length (fun S h => (evE F elt S h).bind toV1) (fun S h => evTo F cs S h) (fun S h => evI F it1 S h) (fun S h => evTo F cs1 S h) tg tg1 p.2 (wipeS S own) own1 p.1 (h1 ++ [.set []]) else .bad
  | .spc k f c es, S, h => (evL F es S h).bind fun xs h1 => if spA k c h1 xs = true then (F.mth f xs h1).noX.bind fun r h2 => ok1 (spK k r) h2 else .bad
  | .fst es, S, h => (evJ F es Str.empty S h).bind fun x h1 => .ok (.v (.d (.str x))) h1
/-- the parts of an f-string -/
noncomputable def evJ (F : Fn) : List ME → Str → List SV → Hs → Res Str
  | [], acc, _, h => .ok acc h
  | e :: es, acc, S, h => (evE F e S h).bind fun x h1 => (ok1 (fsA x) h1).bind fun y h1 => if (acc ++ y).length ≤ sizeLine then evJ F es (acc ++ y) S h1 else .bad
noncomputable def evL (F : Fn) : List ME → List SV → Hs → Res (List AV)
  | [], _, h => .ok [] h
  | e :: es, S, h => (evE F e S h).bind fun x h1 => (toV1 x h1).bind fun x h1 => (evL F es S h1).bind fun xs h2 => .ok (x :: xs) h2
noncomputable def evR (F : Fn) : List ME → List SV → Hs → Res (List RV)
  | [], _, h => .ok [] h
  | e :: es, S, h => (evE F e S h).bind fun x h1 => (ho1 x h1).bind fun x h1 => (evR F es S h1).bind fun xs h2 => .ok (x :: xs) h2
noncomputable def evO (F : Fn) : Option ME → List SV → Hs → Res (Option Int)
  | none, _, h => .ok none h
  | some e, S, h => (evE F e S h).bind fun x h1 => match x with
    | .v (.d (.int i)) => .ok (some i) h1
    | _ => .bad
/-- and, or as values: all but the last are truths -/
noncomputable def evB (F : Fn) (t : Bool) : List ME → List SV → Hs → Res RV
  | [], _, _ => .bad
  | [e], S, h => evE F e S h
  | e :: e' :: es, S, h => (evE F e S h).bind fun x h1 => (asB x h1).bind fun b h2 => if b = t then evB F t (e' :: es) S h2 else .ok (db b) h2
noncomputable def evT (F : Fn) : MC → List SV → Hs → Res Bool
  | .bop t es, S, h => evTs F t es S h
  | .nt a, S, h => (evT F a S h).bind fun b h1 => .ok (!b) h1
  | .cmp o a b, S, h => (evE F a S h).bind fun x h1 => (ho1 x h1).bind fun x h1 => (evE F b S h1).bind fun y h2 => ok1 (cop h2 o x y) h2
  | .chn o o' a b c, S, h => (evE F a S h).bind fun x h1 => (ho1 x h1).bind fun x h1 => (evE F b S h1).bind fun y h2 => (ho1 y h2).bind fun y h2 => (ok1 (cop h2 o x y) h2).bind fun k h3 =>
      if k = true then (evE F c S h3).bind fun z h4 => ok1 (cop h4 o' y z) h4 else .ok false h3
  | .val e, S, h => (evE F e S h).bind fun x h1 => ok1 ((x.vw h1).bind truO) h1
noncomputable def evTs (F : Fn) (t : Bool) : List MC → List SV → Hs → Res Bool
  | [], _, _ => .bad
  | [e], S, h => evT F e S h
  | e :: e' :: es, S, h => (evT F e S h).bind fun b h2 => if b = t then evTs F t (e' :: es) S h2 else .ok b h2
noncomputable def evTo (F : Fn) : Option MC → List SV → Hs → Res Bool
  | none, _, h => .ok true h
  | some c, S, h => evT F c S h
noncomputable def evI (F : Fn) : MI → List SV → Hs → Res (List AV × Src)
  | .seq e, S, h => (evE F e S h).bind fun x h1 => ok1 (itO h1 x) h1
  | .rng es, S, h => (evL F es S h).bind fun xs h1 => ok1 (rngO xs) h1
  | .zs es, S, h => (evL F es S h).bind fun xs h1 => ok1 (zsO xs) h1
  | .enm e, S, h => (evE F e S h).bind fun x h1 => (toV1 x h1).bind fun x h1 => ok1 (enmO x) h1
  | .zp es, S, h => (evL F es S h).bind fun xs h1 => ok1 (zpO xs) h1
end

/-! ### statements -/
inductive SRes where
  | nx (S : List SV) (h : Hs) | rt (r : RV) (h : Hs) | bk (S : List SV) (h : Hs) | ct (S : List SV) (h : Hs) | exc (e : Ex) (S : List SV) (h : Hs) | bad
def Res.st {α : Type} (r : Res α) (S : List SV) (f : α → Hs → SRes) : SRes := match r with
  | .ok a h => f a h
  | .exc e h => .exc e S h
  | .bad => .bad
@[simp] theorem Res.st_ok {α : Type} (a : α) (h : Hs) (S : List SV) (f : α → Hs → SRes) : (Res.ok a h).st S f = f a h := rfl
@[simp] theorem Res.st_exc {α : Type} (e : Ex) (h : Hs) (S : List SV) (f : α → Hs → SRes) : (Res.exc e h : Res α).st S f = .exc e S h := rfl
@[simp] theorem Res.st_bad {α : Type} (S : List SV) (f : α → Hs → SRes) : (Res.bad : Res α).st S f = .bad := rfl
open Classical in
noncomputable def forGo (body : List SV → Hs → SRes) (tg : MT) (src : Src) : List AV → List SV → Hs → SRes
  | [], S, h => if SrcOk h src then .nx S h else .bad
  | x :: xs, S, h => if SrcOk h src then
      match evG h tg x S with
      | some S' => match body S' h with
        | .nx S1 h1 => forGo body tg src xs S1 h1
        | .ct S1 h1 => forGo body tg src xs S1 h1
        | .bk S1 h1 => .nx S1 h1
        | .rt r h1 => .rt r h1
        | .exc e S1 h1 => .exc e S1 h1
        | .bad => .bad
      | none => .bad
    else .bad
/-- while, n turns at most -/
noncomputable def whileGo (test : List SV → Hs → Res Bool) (body : List SV → Hs → SRes) : Nat → List SV → Hs → SRes
  | 0, _, _ => .bad
  | n + 1, S, h => (test S h).st S fun k h1 => if k = true then
      match body S h1 with
      | .nx S1 h2 => whileGo test body n S1 h2
      | .ct S1 h2 => whileGo test body n S1 h2
      | .bk S1 h2 => .nx S1 h2
      | .rt r h2 => .rt r h2
      | .exc e S1 h2 => .exc e S1 h2
      | .bad => .bad
    else .nx S h1
/-- c[z] = x -/
def setC (c : Cell) (z : RV) (x : AV) : Option Cell := match c, z with
  | .lst xs, .v (.d (.int j)) => (ixN xs.length j).map fun k => .lst (xs.set k x)
  | .dic kvs, z => if kvs.length < sizeLine then z.key.map fun k => .dic (putA kvs k x) else none
  | _, _ => none
/-- what a name leads to -/
def pathO (h : Hs) : AV → List Nat → Option AV
  | x, [] => some x
  | x, i :: is => match x.vw h with
    | some (.tup xs) => (xs[i]?).bind fun y => pathO h y is
    | some (.lst xs) => (xs[i]?).bind fun y => pathO h y is
    | _ => none
/-- o[i] = x -/
def setO (S : List SV) (h : Hs) (y z : RV) (x : AV) : SRes := match y with
  | .v (.r n) => (match (h[n]?).bind fun c => setC c z x with
    | some c => .nx S (h.set n c)
    | none => .bad)
  | .b j _ => (match S[j]? with
    | some (.own c) => (match setC c z x with
      | some c => .nx (S.set j (.own c)) h
      | none => .bad)
    | _ => .bad)
  | _ => .bad
def stC (cs : List Nat) (a : Str) (x : AV) : Cell → Option Cell
  | .ins c fs => if c ∈ cs ∧ fs.length < 1000 then some (.ins c (putFA a x fs)) else none
  | _ => none
/-- o.a = x -/
def stO (cs : List Nat) (S : List SV) (h : Hs) (y : RV) (a : Str) (x : AV) : SRes := match y with
  | .v (.r n) => (match (h[n]?).bind (stC cs a x) with
    | some c => .nx S (h.set n c)
    | none => .bad)
  | .b j _ => (match S[j]? with
    | some (.own c) => (match stC cs a x c with
      | some c => .nx (S.set j (.own c)) h
      | none => .bad)
    | _ => .bad)
  | _ => .bad
/-- del o[i] -/
def delO (S : List SV) (h : Hs) (y z : RV) : SRes := match y with
  | .v (.r n) => (match h[n]?, z.key with
    | some (.dic kvs), some k => if (valA kvs k).isSome = true then .nx S (h.set n (.dic (dropA kvs k))) else .bad
    | _, _ => .bad)
  | .b j _ => (match S[j]?, z.key with
    | some (.own (.dic kvs)), some k => if (valA kvs k).isSome = true then .nx (S.set j (.own (.dic (dropA kvs k)))) h else .bad
    | _, _ => .bad)
  | _ => .bad
def parO : List Nat → List AV → List SV → Option (List SV)
  | [], [], S => some S
  | i :: is, x :: xs, S => parO is xs (S.set i (.v x))
  | _, _, _ => none
mutual
noncomputable def evS (F : Fn) : MS → List SV → Hs → SRes
  | .asg t e, S, h => (evE F e S h).st S fun x h1 => (toV1 x h1).st S fun x h1 => match evG h1 t x S with
    | some S' => .nx S' h1
    | none => .bad
  | .par ts es, S, h => (evL F es S h).st S fun xs h1 => match parO ts xs S with
    | some S' => .nx S' h1
    | none => .bad
  | .parO i j e c, S, h => (evE F e S h).st S fun x h1 => (toV1 x h1).st S fun x h1 => (evE F c S h1).st S fun y h2 => match y with
    | .f c => .nx ((S.set i (.v x)).set j (.own c)) h2
    | _ => .bad
  | .asO i e, S, h => (evE F e S h).st S fun x h1 => match x with
    | .f c => .nx (S.set i (.own c)) h1
    | _ => .bad
  | .asI o i e, S, h => (evE F e S h).st S fun x h1 => (toV1 x h1).st S fun x h1 => (evE F o S h1).st S fun y h2 => (ho1 y h2).st S fun y h2 => (evE F i S h2).st S fun z h3 => setO S h3 y z x
  | .asF cs o a e, S, h => (evE F e S h).st S fun x h1 => (toV1 x h1).st S fun x h1 => (evE F o S h1).st S fun y h2 => stO cs S h2 y a x
  | .owM j m es, S, h => match S[j]? with
    | some (.own c) => if (c.vw.map (vwOk m.ty)) = some true ∧ m.look = false then (evL F es S h).st S fun xs h1 => match cMth h1 m c xs with
        | some (_, c') => .nx (S.set j (.own c')) h1
        | none => .bad
      else .bad
    | _ => .bad
  | .ex e, S, h => (evE F e S h).st S fun _ h1 => .nx S h1
  | .ret e, S, h => (evE F e S h).st S fun x h1 => match x with
    | .b _ _ => .bad
    | x => .rt x h1
  | .retO j, S, h => match S[j]? with
    | some (.own c) => .rt (.f c) h
    | _ => .bad
  | .rtN, _, h => .rt dn h
  | .ife c a b, S, h => (evT F c S h).st S fun k h1 => if k = true then evSs F a S h1 else evSs F b S h1
  | .for_ t it b, S, h => (evI F it S h).st S fun p h1 => forGo (fun S h => evSs F b S h) t p.2 p.1 S h1
  | .brk, S, h => .bk S h
  | .cnt, S, h => .ct S h
  | .pas, S, h => .nx S h
  | .whl n c b, S, h => whileGo (fun S h => evT F c S h) (fun S h => evSs F b S h) n S h
  | .dead, _, _ => .bad
  | .ast ts e, S, h => (evE F e S h).st S fun x h1 => match x.vw h1 with
    | some (.lst xs) => if 0 < ts.length ∧ ts.length ≤ xs.length + 1 then
        match (Cell.lst (xs.take (xs.length - (ts.length - 1)))).frz with
        | some y => match evGs h1 ts (y :: xs.drop (xs.length - (ts.length - 1))) S with
          | some S' => .nx S' h1
          | none => .bad
        | none => .bad
      else .bad
    | _ => .bad
  | .beh t u e, S, h => (evE F e S h).st S fun x h1 => match x.vw h1 with
    | some (.tup (y :: ys)) => match (Cell.lst ys).frz with
      | some z => match evGs h1 [t, u] [y, z] S with
        | some S' => .nx S' h1
        | none => .bad
      | none => .bad
    | _ => .bad
  | .aug i e, S, h => match S[i]? with
    | some (.v (.d (.int a))) => (evE F e S h).st S fun x h1 => match x with
      | .v (.d (.int b)) => .nx (S.set i (.v (.d (.int (a + b))))) h1
      | _ => .bad
    | some (.v (.d (.str a))) => (evE F e S h).st S fun x h1 => match x with
      | .v (.d (.str b)) => if a.length + b.length ≤ sizeLine then .nx (S.set i (.v (.d (.str (a ++ b))))) h1 else .bad
      | _ => .bad
    | _ => .bad
  | .del o i, S, h => (evE F o S h).st S fun y h1 => (ho1 y h1).st S fun y h1 => (evE F i S h1).st S fun z h2 => delO S h2 y z
  | .tryP b, S, h => match evSs F b S h with
    | .exc _ _ _ => .bad
    | r => r
  | .gfz j, S, h => match S[j]? with
    | some (.own c) => (match c.frz with
      | some x => .nx (S.set j (.v x)) h
      | none => .bad)
    | _ => .bad
  | .gcl j, S, h => match S[j]? with
    | some (.own c) => .nx (S.set j (.v (.r h.length))) (h ++ [c])
    | _ => .bad
  | .glk j is, S, h => match S[j]? with
    | some (.v x) => match pathO h x is with
      | some (.r n) => match h[n]? with
        | some (.dic kvs) => .nx S (h.set n (.lck kvs))
        | _ => .bad
      | _ => .bad
    | _ => .bad
noncomputable def evSs (F : Fn) : List MS → List SV → Hs → SRes
  | [], S, h => .nx S h
  | s :: ss, S, h => match evS F s S h with
    | .nx S1 h1 => evSs F ss S1 h1
    | r => r
end
/-- a def's value: its body from its parameters -/
noncomputable def run (F : Fn) (n : Nat) (body : List MS) (as : List AV) (h : Hs) : Res RV :=
  match evSs F body (as.map .v ++ List.replicate (n - as.length) .no) h with
  | .rt r h => .ok r h
  | .nx _ h => .ok dn h
  | .exc e _ h => .exc e h
  | _ => .bad
/-- a class's worth: its __init__'s body, the new instance its first name's own -/
noncomputable def runI (F : Fn) (c n : Nat) (body : List MS) (as : List AV) (h : Hs) : Res RV :=
  match evSs F body (SV.own (Cell.ins c []) :: (as.map SV.v ++ List.replicate (n - 1 - as.length) SV.no)) h with
  | .nx S h => (match S[0]? with
    | some (SV.own c) => .ok (.f c) h
    | _ => .bad)
  | .exc e _ h => .exc e h
  | _ => .bad
end Mp


set_option Elab.async false
set_option linter.all false
set_option maxRecDepth 10000
/-! The rules of single steps. -/
namespace Mp
open PySem PySem.Spec PyProof.Rows L2

section
variable {κ : Type} {G : Gd} {H : Hp} {W : ASet} {ρ : List Addr}
theorem VRk.length : ∀ {xs : List (κ × AV)} {es : List (κ × V)}, VRk G H W ρ xs es → xs.length = es.length
  | [], es, h => by simp only [VRk] at h; subst h; rfl
  | (k, x) :: xs, es, h => by
    simp only [VRk] at h
    obtain ⟨v, r, rfl, a, b⟩ := h
    simp [VRk.length b]
section
variable [DecidableEq κ]
theorem VRk.keys : ∀ {xs : List (κ × AV)} {es : List (κ × V)}, VRk G H W ρ xs es → xs.map (·.1) = es.map (·.1)
  | [], es, h => by simp only [VRk] at h; subst h; rfl
  | (k, x) :: xs, es, h => by
    simp only [VRk] at h
    obtain ⟨v, r, rfl, a, b⟩ := h
    simp only [List.map_cons, VRk.keys b]
theorem VRk.val (k : κ) : ∀ {xs : List (κ × AV)} {es : List (κ × V)}, VRk G H W ρ xs es → (∃ x v, valA xs k = some x ∧ valV es k = some v ∧ VR G H W ρ x v) ∨ (valA xs k = none ∧ valV es k = none)
  | [], es, h => by simp only [VRk] at h; subst h; exact .inr ⟨rfl, rfl⟩
  | (j, x) :: xs, es, h => by
    simp only [VRk] at h
    obtain ⟨v, r, rfl, a, b⟩ := h
    by_cases e : j = k
    · exact .inl ⟨x, v, by simp [valA, List.find?_cons, e], valV_pos e, a⟩
    · rw [show valA ((j, x) :: xs) k = valA xs k by simp [valA, List.find?_cons, e], valV_neg (p := (j, v)) e]
      exact VRk.val k b
theorem VRk.hasV {k : κ} {xs : List (κ × AV)} {es : List (κ × V)} {x : AV} (h : VRk G H W ρ xs es) (e : valA xs k = some x) : ∃ v, valV es k = some v ∧ VR G H W ρ x v := by
  rcases h.val k with ⟨y, v, e1, e2, r⟩ | ⟨e1, e2⟩
  · rw [e] at e1; cases e1; exact ⟨v, e2, r⟩
  · rw [e] at e1; cases e1
theorem VRk.missV {k : κ} {xs : List (κ × AV)} {es : List (κ × V)} (h : VRk G H W ρ xs es) (e : valA xs k = none) : valV es k = none := by
  rcases h.val k with ⟨y, v, e1, e2, r⟩ | ⟨e1, e2⟩
  · rw [e] at e1; cases e1
  · exact e2
theorem VRk.isSome {k : κ} {xs : List (κ × AV)} {es : List (κ × V)} (h : VRk G H W ρ xs es) : (valV es k).isSome = (valA xs k).isSome := by
  rcases h.val k with ⟨y, v, e1, e2, r⟩ | ⟨e1, e2⟩ <;> rw [e1, e2] <;> rfl
theorem VRk.any (k : κ) : ∀ {xs : List (κ × AV)} {es : List (κ × V)}, VRk G H W ρ xs es → (xs.any fun kv => decide (kv.1 = k)) = es.any fun kv => decide (kv.1 = k)
  | [], es, h => by simp only [VRk] at h; subst h; rfl
  | (j, x) :: xs, es, h => by
    simp only [VRk] at h
    obtain ⟨v, r, rfl, a, b⟩ := h
    simp only [List.any_cons, VRk.any k b]
theorem VRk.repl {k : κ} {y : AV} {w : V} (ry : VR G H W ρ y w) : ∀ {xs : List (κ × AV)} {es : List (κ × V)}, VRk G H W ρ xs es → VRk G H W ρ (xs.map fun kv => if kv.1 = k then (kv.1, y) else kv) (es.map fun kv => if kv.1 = k then (kv.1, w) else kv)
  | [], es, h => by simp only [VRk] at h; subst h; simp [VRk]
  | (j, x) :: xs, es, h => by
    simp only [VRk] at h
    obtain ⟨v, r, rfl, a, b⟩ := h
    have ih := VRk.repl (k := k) ry b
    by_cases e : j = k
    · simp only [List.map_cons, e, if_true, VRk]
      exact ⟨w, _, rfl, ry, ih⟩
    · simp only [List.map_cons, e, if_false, VRk]
      exact ⟨v, _, rfl, a, ih⟩
theorem VRk.snoc {k : κ} {y : AV} {w : V} (ry : VR G H W ρ y w) : ∀ {xs : List (κ × AV)} {es : List (κ × V)}, VRk G H W ρ xs es → VRk G H W ρ (xs ++ [(k, y)]) (es ++ [(k, w)])
  | [], es, h => by
    simp only [VRk] at h; subst h
    simp only [List.nil_append, VRk]
    exact ⟨w, [], rfl, ry, rfl⟩
  | (j, x) :: xs, es, h => by
    simp only [VRk] at h
    obtain ⟨v, r, rfl, a, b⟩ := h
    simp only [List.cons_append, VRk]
    exact ⟨v, _, rfl, a, VRk.snoc ry b⟩
theorem VRk.put {k : κ} {y : AV} {w : V} {xs : List (κ × AV)} {es : List (κ × V)} (h : VRk G H W ρ xs es) (ry : VR G H W ρ y w) : VRk G H W ρ (putA xs k y) (putK es k w) := by
  unfold putA putK
  rw [h.any k]
  split
  · exact h.repl ry
  · exact h.snoc ry
theorem VRk.drop {k : κ} : ∀ {xs : List (κ × AV)} {es : List (κ × V)}, VRk G H W ρ xs es → VRk G H W ρ (dropA xs k) (dropK es k)
  | [], es, h => by simp only [VRk] at h; subst h; simp [VRk, dropA, dropK]
  | (j, x) :: xs, es, h => by
    simp only [VRk] at h
    obtain ⟨v, r, rfl, a, b⟩ := h
    have ih := VRk.drop (k := k) b
    by_cases e : j = k
    · rw [show dropA ((j, x) :: xs) k = dropA xs k by simp [dropA, e], show dropK ((j, v) :: r) k = dropK r k by simp [dropK, e]]
      exact ih
    · rw [show dropA ((j, x) :: xs) k = (j, x) :: dropA xs k by simp [dropA, e], show dropK ((j, v) :: r) k = (j, v) :: dropK r k by simp [dropK, e]]
      simp only [VRk]
      exact ⟨v, _, rfl, a, ih⟩
end
theorem VRk.look {f : Str} {x : AV} : ∀ {xs : List (Str × AV)} {es : List (Str × V)}, VRk G H W ρ xs es → xs.lookup f = some x → ∃ v, es.lookup f = some v ∧ VR G H W ρ x v
  | [], es, h, e => by simp at e
  | (j, y) :: xs, es, h, e => by
    simp only [VRk] at h
    obtain ⟨v, r, rfl, a, b⟩ := h
    simp only [List.lookup] at e ⊢
    split at e
    · cases e; exact ⟨v, rfl, a⟩
    · exact VRk.look b e
theorem VRk.miss {f : Str} : ∀ {xs : List (Str × AV)} {es : List (Str × V)}, VRk G H W ρ xs es → xs.lookup f = none → es.lookup f = none
  | [], es, h, e => by simp only [VRk] at h; subst h; rfl
  | (j, y) :: xs, es, h, e => by
    simp only [VRk] at h
    obtain ⟨v, r, rfl, a, b⟩ := h
    simp only [List.lookup] at e ⊢
    split at e
    · cases e
    · exact VRk.miss b e
theorem VRk.putF {f : Str} {y : AV} {w : V} (ry : VR G H W ρ y w) : ∀ {xs : List (Str × AV)} {es : List (Str × V)}, VRk G H W ρ xs es → VRk G H W ρ (putFA f y xs) (L2.putF f w es)
  | [], es, h => by
    simp only [VRk] at h; subst h
    simp only [putFA, L2.putF, VRk]
    exact ⟨w, [], rfl, ry, rfl⟩
  | (j, x) :: xs, es, h => by
    simp only [VRk] at h
    obtain ⟨v, r, rfl, a, b⟩ := h
    simp only [putFA, L2.putF]
    split
    · rename_i e
      have e : j = f := e
      subst e
      simp only [VRk]; exact ⟨w, r, rfl, ry, b⟩
    · simp only [VRk]; exact ⟨v, _, rfl, a, VRk.putF ry b⟩
end
def Res.ens {α : Type} (r : Res α) (P : α → Hs → Prop) (E : Ex → Hs → Prop) : Prop := match r with
  | .ok a h => P a h
  | .exc e h => E e h
  | .bad => False
theorem ens_bind {α β : Type} (r : Res α) (f : α → Hs → Res β) (P : β → Hs → Prop) (E : Ex → Hs → Prop) : (r.bind f).ens P E = r.ens (fun a h => (f a h).ens P E) E := by cases r <;> rfl
theorem ens_mono {α : Type} {r : Res α} {P P' : α → Hs → Prop} {E : Ex → Hs → Prop} (h : r.ens P E) (k : ∀ a h, P a h → P' a h) : r.ens P' E := by
  cases r with
  | ok a g => exact k a g h
  | exc e g => exact h
  | bad => exact h
theorem ens_ok1 {α : Type} {o : Option α} {h : Hs} {P : α → Hs → Prop} {E : Ex → Hs → Prop} (e : (ok1 o h).ens P E) : ∃ a, o = some a ∧ P a h := by
  cases o with
  | none => exact False.elim e
  | some a => exact ⟨a, rfl, e⟩

section
variable {X : Cx} {cls : Nat → Addr} {B : ASet} {ρ : List Addr} {h : Hs} {S : List SV} {W : ASet} {σ : L2.St} {H : Hp}
abbrev gd (X : Cx) (cls : Nat → Addr) : Gd := ⟨X.K, cls, X.prog, X.w⟩
variable {G : Gd}
theorem good_v (R : RS G B ρ h S W σ H) {x : AV} {v : V} (r : VR G H W ρ x v) : EGood G B ρ W H S σ (.v x) h v H := ⟨ρ, W, Ext.refl, R, r⟩
theorem good_int (R : RS G B ρ h S W σ H) (i : Int) : EGood G B ρ W H S σ (di i) h (.int i) H := good_v R (by simp only [VR, DR])
theorem good_bl (R : RS G B ρ h S W σ H) (i : Bool) : EGood G B ρ W H S σ (db i) h (.bl i) H := good_v R (by simp only [VR, DR])
theorem good_str (R : RS G B ρ h S W σ H) (i : Str) : EGood G B ρ W H S σ (dS i) h (.str i) H := good_v R (by simp only [VR, DR])
theorem good_non (R : RS G B ρ h S W σ H) : EGood G B ρ W H S σ dn h .non H := good_v R (by simp only [VR, DR])
/-- a new container -/
theorem good_new (R : RS G B ρ h S W σ H) {p : Addr} {o : HO} {c : Cell} (hp : H p = none) (hc : CAt G (upd H p o) (add W p) ρ p c) : EGood G B ρ W H S σ (.f c) h (.ref p) (upd H p o) := by
  obtain ⟨h1, h2, h3, h4⟩ := R.fresh hp
  exact ⟨ρ, add W p, Ext.layO hp, R.layO hp, p, rfl, .inr rfl, h2, h3, h4, hc⟩
theorem sub_layO (R : RS G B ρ h S W σ H) {p : Addr} {o : HO} (hp : H p = none) : Sub W H (add W p) (upd H p o) := (Ext.layO (B := B) (ρ := ρ) hp).sub
theorem good_lst (R : RS G B ρ h S W σ H) {p : Addr} {xs : List AV} {vs : List V} (hp : H p = none) (r : VRs G H W ρ xs vs) : EGood G B ρ W H S σ (.f (.lst xs)) h (.ref p) (upd H p (.lst vs)) :=
  good_new R hp ⟨vs, upd_same, r.mv (sub_layO R hp) pre_refl⟩
theorem good_dic0 (R : RS G B ρ h S W σ H) {p : Addr} (hp : H p = none) : EGood G B ρ W H S σ (.f (.dic [])) h (.ref p) (upd H p (.dK [])) :=
  good_new R hp ⟨[], upd_same, by simp only [VRk]⟩
theorem good_dic (R : RS G B ρ h S W σ H) {p : Addr} {kvs : List (Key × AV)} {es : List (Key × V)} (hp : H p = none) (r : VRk G H W ρ kvs es) : EGood G B ρ W H S σ (.f (.dic kvs)) h (.ref p) (upd H p (.dK es)) :=
  good_new R hp ⟨es, upd_same, r.mv (sub_layO R hp) pre_refl⟩
theorem good_tup (R : RS G B ρ h S W σ H) {p : Addr} {xs : List AV} {vs : List V} (hp : H p = none) (r : VRs G H W ρ xs vs) : EGood G B ρ W H S σ (.v (mkTup xs)) h (.ref p) (upd H p (.tup vs)) := by
  have nw := (R.fresh hp).1
  refine ⟨ρ, W, Ext.lay hp, R.lay hp, ?_⟩
  exact WR.tup ⟨p, vs, rfl, .inl ⟨nw, .inl upd_same⟩, r.mv (Ext.lay (B := B) (ρ := ρ) hp).sub pre_refl⟩
theorem EGood.mono (k : Sub W H W H) (bw : ∀ a, B a → W a) {ρ' : List Addr} {W' : ASet} {H' H2 : Hp} {h' : Hs} {rv : RV} {v : V} (x : Ext B ρ W H ρ' W' H') (g : EGood G B ρ' W' H' S σ rv h' v H2) : EGood G B ρ W H S σ rv h' v H2 := by
  obtain ⟨ρ2, W2, x2, R2, r2⟩ := g
  exact ⟨ρ2, W2, x.trans x2 bw, R2, r2⟩
theorem EGood.ext (bw : ∀ a, B a → W a) {ρ' : List Addr} {W' : ASet} {H' H2 : Hp} {h' : Hs} {rv : RV} {v : V} (x : Ext B ρ W H ρ' W' H') (g : EGood G B ρ' W' H' S σ rv h' v H2) : EGood G B ρ W H S σ rv h' v H2 := EGood.mono Sub.refl bw x g
/-- kept over what comes -/
theorem RVR.hold {x : RV} {v : V} {ρ' : List Addr} {W' : ASet} {H' : Hp} (x0 : Ext B ρ W H ρ' W' H') (e : x.hold = some x) (r : RVR G H W B ρ S σ x v) : RVR G H' W' B ρ' S σ x v := by
  cases x with
  | v a => exact VR.mv x0.sub x0.pre a v r
  | f c => simp only [RV.hold] at e; cases q : c.frz <;> rw [q] at e <;> cases e
  | b i c => exact r
theorem hold_hold {x y : RV} (e : x.hold = some y) : y.hold = some y := by
  cases x with
  | v a => cases e; rfl
  | f c =>
    simp only [RV.hold, Option.map_eq_some_iff] at e
    obtain ⟨z, _, rfl⟩ := e
    rfl
  | b i c => cases e; rfl
theorem EGood.hold {x y : RV} {h' : Hs} {v : V} {H' : Hp} (g : EGood G B ρ W H S σ x h' v H') (e : x.hold = some y) (bw : ∀ a, B a → W a) : EGood G B ρ W H S σ y h' v H' := by
  cases x with
  | v a => cases e; exact g
  | f c =>
    simp only [RV.hold, Option.map_eq_some_iff] at e
    obtain ⟨z, q, rfl⟩ := e
    exact g.toV q bw
  | b i c => cases e; exact g

theorem VRs.rep {xs : List AV} {vs : List V} {H : Hp} {W : ASet} {ρ : List Addr} (r : VRs G H W ρ xs vs) : ∀ n : Nat, VRs G H W ρ (List.replicate n xs).flatten (List.replicate n vs).flatten
  | 0 => by simp [VRs]
  | n + 1 => by
    simp only [List.replicate_succ, List.flatten_cons]
    exact r.append (VRs.rep r n)
/-- two values under an operator -/
def r2 (G : Gd) (f : Hs → RV → RV → Option RV) : R2 := fun x y H Q => ∃ (B : ASet) (ρ : List Addr) (h : Hs) (S : List SV) (W : ASet) (σ : L2.St) (a b rv : RV),
  RS G B ρ h S W σ H ∧ RVR G H W B ρ S σ a x ∧ RVR G H W B ρ S σ b y ∧ f h a b = some rv ∧ ∀ v H', EGood G B ρ W H S σ rv h v H' → Q v H'

theorem op_bin (o : Operator) : OpR X (binaryOp o) (r2 (gd X cls) fun h a b => binO h o a b) := by
  intro pins s σ0 H x y v u Q I rx ry hh
  obtain ⟨B, ρ, h, S, W, σ, a, b, rv, R, ra, rb, e, k⟩ := hh
  simp only [binO] at e
  split at e
  · rename_i w1 w2 e1 e2
    have q1 := RVR.vw R ra e1
    have q2 := RVR.vw R rb e2
    unfold bop at e
    split at e
    · cases e; cases q1; cases q2
      exact op_add pins s σ0 H _ _ v u Q I rx ry ⟨_, _, rfl, rfl, k _ _ (good_int R _)⟩
    · cases e; cases q1; cases q2
      exact op_sub pins s σ0 H _ _ v u Q I rx ry ⟨_, _, rfl, rfl, k _ _ (good_int R _)⟩
    · split at e
      · rename_i hc
        cases e; cases q1; cases q2
        exact op_mul pins s σ0 H _ _ v u Q I rx ry ⟨_, _, rfl, rfl, hc, k _ _ (good_int R _)⟩
      · cases e
    · split at e
      · rename_i hc
        cases e; cases q1; cases q2
        exact op_fdivN pins s σ0 H _ _ v u Q I rx ry ⟨_, _, rfl, rfl, hc, k _ _ (good_int R _)⟩
      · cases e
    · split at e
      · rename_i hc
        cases e; cases q1; cases q2
        exact op_modN pins s σ0 H _ _ v u Q I rx ry ⟨_, _, rfl, rfl, hc, k _ _ (good_int R _)⟩
      · cases e
    · split at e
      · rename_i hc
        cases e; cases q1; cases q2
        exact op_pow pins s σ0 H _ _ v u Q I rx ry ⟨_, _, rfl, rfl, hc, k _ _ (good_int R _)⟩
      · cases e
    · split at e
      · rename_i hc
        cases e; cases q1; cases q2
        exact op_add_str pins s σ0 H _ _ v u Q I rx ry ⟨_, _, rfl, rfl, hc, k _ _ (good_str R _)⟩
      · cases e
    · split at e
      · rename_i hc
        cases e
        obtain ⟨a1, vs, rfl, l1, r1⟩ := q1
        obtain ⟨a2, us, rfl, l2, r2⟩ := q2
        refine op_cat pins s σ0 H _ _ v u Q I rx ry ⟨_, _, vs, us, rfl, rfl, l1, l2, by rw [← r1.length, ← r2.length]; exact hc, fun p hp => k _ _ (good_lst R hp (r1.append r2))⟩
      · cases e
    · split at e
      · rename_i hc
        cases e
        obtain ⟨a1, vs, rfl, l1, r1⟩ := q1
        obtain ⟨a2, us, rfl, l2, r2⟩ := q2
        refine op_catA pins s σ0 H _ _ v u Q I rx ry ⟨_, _, vs, us, rfl, rfl, l1.sq, l2.sq, by rw [← r1.length, ← r2.length]; exact hc, fun z => ?_, fun _ z => ?_, fun _ _ p hp => k _ _ (good_tup R hp (r1.append r2))⟩
        · subst z
          have z2 : _ = 0 := r1.length
          have z3 := List.length_eq_zero_iff.mp z2
          refine k _ _ (good_v R ?_)
          rw [z3, List.nil_append]
          exact WR.tup ⟨a2, us, rfl, l2, r2⟩
        · subst z
          have z2 : _ = 0 := r2.length
          have z3 := List.length_eq_zero_iff.mp z2
          refine k _ _ (good_v R ?_)
          rw [z3, List.append_nil]
          exact WR.tup ⟨a1, vs, rfl, l1, r1⟩
      · cases e
    · split at e
      · rename_i hc
        cases e
        obtain ⟨a1, vs, rfl, l1, r1⟩ := q1
        simp only [WR] at q2
        subst q2
        have n1 : vs ≠ [] := fun z => by
          have := r1.length
          rw [z] at this
          exact hc.1 (List.length_eq_zero_iff.mp this)
        exact op_repT pins s σ0 H _ _ v u Q I rx ry ⟨_, _, vs, rfl, rfl, l1.sq, n1, hc.2.1, hc.2.2.1, by rw [← r1.length]; exact hc.2.2.2, fun p hp => k _ _ (good_tup R hp (VRs.rep r1 _))⟩
      · cases e
    · cases e
  · cases e

/-! ### data for == -/
mutual
theorem DR.dp : ∀ (d : D) (p : PyData) (v : V), d.py = some p → DR G H W d v → Dp G.K H v p
  | .non, p, v, e, r => by simp only [D.py] at e; cases e; simp only [DR] at r; subst r; exact .non
  | .bl b, p, v, e, r => by simp only [D.py] at e; cases e; simp only [DR] at r; subst r; exact .bl b
  | .int i, p, v, e, r => by simp only [D.py] at e; cases e; simp only [DR] at r; subst r; exact .int i
  | .str x, p, v, e, r => by simp only [D.py] at e; cases e; simp only [DR] at r; subst r; exact .str x
  | .lst xs, p, v, e, r => by
    simp only [D.py, Option.map_eq_some_iff] at e
    obtain ⟨ys, e1, rfl⟩ := e
    simp only [DR] at r
    obtain ⟨a, vs, rfl, l, q⟩ := r
    exact .lst (SqL.of l.2) (DRs.dp xs ys vs e1 q)
  | .tup xs, p, v, e, r => by
    simp only [D.py, Option.map_eq_some_iff] at e
    obtain ⟨ys, e1, rfl⟩ := e
    simp only [DR] at r
    obtain ⟨a, vs, rfl, l, q⟩ := r
    exact .tup l.sq (DRs.dp xs ys vs e1 q)
  | .dic xs, p, v, e, r => by simp [D.py] at e
  | .obj c xs, p, v, e, r => by simp [D.py] at e
  | .scr xs, p, v, e, r => by simp [D.py] at e
  | .kdc xs, p, v, e, r => by simp [D.py] at e
theorem DRs.dp : ∀ (d : List D) (p : List PyData) (v : List V), D.pys d = some p → DRs G H W d v → DpAll G.K H v p
  | [], p, v, e, r => by simp only [D.pys] at e; cases e; simp only [DRs] at r; subst r; exact .nil
  | x :: xs, p, v, e, r => by
    simp only [D.pys] at e
    split at e
    · rename_i y ys e1 e2
      cases e
      simp only [DRs] at r
      obtain ⟨u, us, rfl, ra, rb⟩ := r
      exact .cons (DR.dp x y u e1 ra) (DRs.dp xs ys us e2 rb)
    · cases e
end
theorem CAt.res {c : Cell} {a : Addr} {d : D} (r : CAt G H W ρ a c) (e : c.res = some d) : DR G H (fun _ => False) d (.ref a) := by
  simp only [Cell.res, Option.bind_eq_some_iff] at e
  obtain ⟨x, e1, e2⟩ := e
  have q : CAt G H (fun _ => False) ρ a c := r.mv (Sub.less fun _ z => z.elim) pre_refl fun _ e => e
  exact VR.toD x d _ e2 (q.frz (fun z => z) e1)
theorem RVR.res (R : RS G B ρ h S W σ H) {x : RV} {d : D} {v : V} (r : RVR G H W B ρ S σ x v) (e : x.res h = some d) : DR G H (fun _ => False) d v := by
  cases x with
  | v a =>
    cases a with
    | d x => cases e; exact DR.mv (Sub.less fun _ z => z.elim) _ _ (by simpa only [RVR, VR] using r)
    | r n =>
      simp only [RV.res, Option.bind_eq_some_iff] at e
      obtain ⟨c, hc, e⟩ := e
      simp only [RVR, VR] at r
      obtain ⟨a, ha, rfl⟩ := r
      exact (R.cel n c a hc ha).res e
    | q t xs =>
      simp only [RV.res] at e
      exact DR.mv (Sub.less fun _ z => z.elim) _ _ (VR.toD _ _ _ e r)
  | f c =>
    obtain ⟨a, rfl, _, _, _, _, r⟩ := r
    exact r.res e
  | b i c =>
    obtain ⟨h1, h2⟩ := r
    obtain ⟨o, ho, hs⟩ := R.sl i _ h1
    obtain ⟨a, rfl, _, _, _, q⟩ := hs
    rw [h2] at ho
    cases ho
    exact q.res e
theorem DR.fv {d : D} {w v : V} (e : d.fv = some w) (r : DR G H W d v) : v = w ∧ flatV w = true := by
  cases d <;> simp only [D.fv] at e <;> cases e <;> simp only [DR] at r <;> subst r <;> exact ⟨rfl, rfl⟩
theorem AV.fv_ok {x : AV} {w v : V} (e : x.fv = some w) (r : VR G H W ρ x v) : v = w ∧ flatV w = true := by
  cases x with
  | d x => simp only [VR] at r; exact DR.fv e r
  | r n => cases e
  | q t xs => cases e
theorem AV.fvs_ok : ∀ {xs : List AV} {ws vs : List V}, AV.fvs xs = some ws → VRs G H W ρ xs vs → vs = ws ∧ ws.all flatV = true
  | [], ws, vs, e, q0 => by cases e; simp only [VRs] at q0; subst q0; exact ⟨rfl, rfl⟩
  | x :: xs, ws, vs, e, q0 => by
    simp only [AV.fvs] at e
    split at e
    · rename_i y ys e1 e2
      cases e
      simp only [VRs] at q0
      obtain ⟨v, u, rfl, ra, rb⟩ := q0
      obtain ⟨rfl, h1⟩ := AV.fv_ok e1 ra
      obtain ⟨rfl, h2⟩ := AV.fvs_ok e2 rb
      exact ⟨rfl, by simp [h1, h2]⟩
    · cases e
theorem RV.fv_ok {x : RV} {w v : V} (e : x.fv = some w) (r : RVR G H W B ρ S σ x v) : v = w ∧ flatV w = true := by
  cases x with
  | v x => exact AV.fv_ok e r
  | f c => cases e
  | b i c => cases e
theorem isNon_ok (R : RS G B ρ h S W σ H) {x : RV} {v : V} (r : RVR G H W B ρ S σ x v) : isNon x = decide (v = .non) := by
  cases x with
  | v a =>
    cases a with
    | d x =>
      simp only [RVR, VR] at r
      cases x <;> simp only [DR] at r
      · subst r; rfl
      · subst r; rfl
      · subst r; rfl
      · subst r; rfl
      · obtain ⟨a, _, rfl, _⟩ := r; rfl
      · obtain ⟨a, _, rfl, _⟩ := r; rfl
      · obtain ⟨a, _, rfl, _⟩ := r; rfl
      · obtain ⟨a, _, _, rfl, _⟩ := r; rfl
      · obtain ⟨a, rfl, _⟩ := r; rfl
      · obtain ⟨a, rfl, _⟩ := r; rfl
    | r n =>
      simp only [RVR, VR] at r
      obtain ⟨a, _, rfl⟩ := r
      rfl
    | q t xs =>
      simp only [RVR, VR] at r
      obtain ⟨a, vs, rfl, _⟩ := r
      rfl
  | f c =>
    obtain ⟨a, rfl, _⟩ := r
    rfl
  | b i c =>
    obtain ⟨h1, h2⟩ := r
    obtain ⟨o, ho, hs⟩ := R.sl i _ h1
    obtain ⟨a, rfl, _⟩ := hs
    rw [h2] at ho
    cases ho
    rfl
theorem DR.key {d : D} {k : Key} {v : V} (e : d.key = some k) (r : DR G H W d v) : v = kV k := by
  cases d <;> simp only [D.key] at e <;> cases e <;> simp only [DR] at r <;> subst r <;> rfl
theorem VR.key {x : AV} {k : Key} {v : V} (e : x.key = some k) (r : VR G H W ρ x v) : v = kV k := by
  cases x with
  | d x => simp only [VR] at r; exact DR.key e r
  | r n => cases e
  | q t xs => cases e
theorem RVR.key {x : RV} {k : Key} {v : V} (e : x.key = some k) (r : RVR G H W B ρ S σ x v) : v = kV k := by
  cases x with
  | v x => exact VR.key e r
  | f c => cases e
  | b i c => cases e
theorem kdVal_some {kvs : List (Str × D)} {x : Str} {r : Option Value} (h : KdVal kvs x r) : (kvs.lookup x).isSome = r.isSome := by
  unfold KdVal at h
  split at h
  · rename_i e; rw [e]; rfl
  · rename_i e; rw [e]; rfl
  · exact h.elim
theorem flat_b {v : V} (h : flatV v = true) : flatB v = true := by cases v <;> first | rfl | (simp [flatV] at h)
theorem eqDic_ok {xs ys : List (Key × AV)} {ks ls : List (Key × V)} (h : eqDic xs ys = true) (rx : VRk G H W ρ xs ks) (ry : VRk G H W ρ ys ls) : ks.length = ls.length ∧ ∀ p ∈ ks, valV ls p.1 = some p.2 ∧ flatB p.2 = true := by
  simp only [eqDic, Bool.and_eq_true, decide_eq_true_eq, List.all_eq_true] at h
  obtain ⟨h1, h2⟩ := h
  refine ⟨by rw [← rx.length, ← ry.length]; exact h1, ?_⟩
  clear h1
  induction xs generalizing ks with
  | nil => simp only [VRk] at rx; subst rx; intro p hp; cases hp
  | cons q xs ih =>
    obtain ⟨k, x⟩ := q
    simp only [VRk] at rx
    obtain ⟨v, r, rfl, ra, rb⟩ := rx
    intro p hp
    rcases List.mem_cons.mp hp with e | hp
    · subst e
      have := h2 (k, x) List.mem_cons_self
      simp only at this
      split at this
      · rename_i y ey
        split at this
        · rename_i u w e1 e2
          obtain ⟨w2, e3, r3⟩ := ry.hasV ey
          obtain ⟨rfl, f1⟩ := AV.fv_ok e1 ra
          obtain ⟨rfl, f2⟩ := AV.fv_ok e2 r3
          have := of_decide_eq_true this
          subst this
          exact ⟨e3, flat_b f1⟩
        · cases this
      · cases this
    · exact ih rb (fun p hp => h2 p (List.mem_cons_of_mem _ hp)) p hp
section
variable {X : Cx} {cls : Nat → Addr} {pins : List (Addr × Obj)} {s : Shared} {σ0 : L2.St}
theorem eqL_tree (I : Inv X pins σ0 H s) {x y : AV} {v u : V} {a b : Value} (n : Nat) (e : eqL x y = true) (rx : VR (gd X cls) H W ρ x v) (ry : VR (gd X cls) H W ρ y u) (ra : RelV v a) (rb : RelV u b) :
    PySem.W.EqTree X.prog X.w s (40 + n) a b true := by
  unfold eqL at e
  split at e
  case h_2 => cases e
  rename_i p q e1 e2
  simp only [Option.bind_eq_some_iff] at e1 e2
  obtain ⟨d1, f1, g1⟩ := e1
  obtain ⟨d2, f2, g2⟩ := e2
  simp only [Bool.and_eq_true, decide_eq_true_eq] at e
  obtain ⟨⟨⟨c1, c2⟩, dp⟩, ev⟩ := e
  obtain ⟨as, r1⟩ := Dp.reads I p v a (DR.dp _ _ _ g1 (VR.toD _ _ _ f1 rx)) ra
  obtain ⟨bs, r2⟩ := Dp.reads I q u b (DR.dp _ _ _ g2 (VR.toD _ _ _ f2 ry)) rb
  refine .leaf fun A hu => ?_
  have l := Nat.min_le_left p.depth q.depth
  have := SeqAt.eqAt_reads p q A s a b as bs r1 r2 c1 c2 (by omega)
  rwa [ev] at this
theorem eqLs_get {T : Value → Value → Prop} {f : AV → AV → Bool} (hf : ∀ x y v u a b, f x y = true → VR G H W ρ x v → VR G H W ρ y u → RelV v a → RelV u b → T a b) :
    ∀ {xs ys : List AV} {vs us : List V} {as bs : List Value}, eqLs f xs ys = true → VRs G H W ρ xs vs → VRs G H W ρ ys us → Vals vs as → Vals us bs →
      as.length = bs.length ∧ ∀ j (h1 : j < as.length) (h2 : j < bs.length), T as[j] bs[j]
  | [], [], vs, us, as, bs, e, rx, ry, ra, rb => by
    simp only [VRs] at rx ry
    subst rx ry
    cases ra
    cases rb
    exact ⟨rfl, fun j h1 => absurd h1 (Nat.not_lt_zero _)⟩
  | x :: xs, y :: ys, vs, us, as, bs, e, rx, ry, ra, rb => by
    simp only [VRs] at rx ry
    obtain ⟨v, vs, rfl, r1, r2⟩ := rx
    obtain ⟨u, us, rfl, q1, q2⟩ := ry
    simp only [eqLs, Bool.and_eq_true] at e
    cases ra with
    | cons a1 a2 =>
      cases rb with
      | cons b1 b2 =>
        obtain ⟨hl, g⟩ := eqLs_get hf e.2 r2 q2 a2 b2
        refine ⟨by simp only [List.length_cons, hl], fun j h1 h2 => ?_⟩
        cases j with
        | zero => exact hf _ _ _ _ _ _ e.1 r1 q1 a1 b1
        | succ j => exact g j (by simpa using h1) (by simpa using h2)
  | [], y :: ys, _, _, _, _, e, _, _, _, _ => by simp [eqLs] at e
  | x :: xs, [], _, _, _, _, e, _, _, _, _ => by simp [eqLs] at e
theorem VRk.mem_of {p : Key × V} : ∀ {xs : List (Key × AV)} {es : List (Key × V)}, VRk G H W ρ xs es → p ∈ es → ∃ x, (p.1, x) ∈ xs ∧ VR G H W ρ x p.2
  | [], es, h, m => by simp only [VRk] at h; subst h; cases m
  | (k, x) :: xs, es, h, m => by
    simp only [VRk] at h
    obtain ⟨v, r, rfl, a, b⟩ := h
    rcases List.mem_cons.mp m with rfl | m
    · exact ⟨x, .head _, a⟩
    · obtain ⟨z, h1, h2⟩ := VRk.mem_of b m
      exact ⟨z, .tail _ h1, h2⟩
theorem KV_mem {k : Key} {a : Value} {ks : List (Key × V)} {va : List (Key × Value)} (r : KV ks va) (m : (k, a) ∈ va) : ∃ v, (k, v) ∈ ks ∧ RelV v a := by
  unfold KV at r
  induction r with
  | nil => cases m
  | @cons p q ps qs h t ih =>
    rcases List.mem_cons.mp m with e | m
    · subst e
      obtain ⟨pk, pv⟩ := p
      obtain ⟨h1, h2⟩ := h
      simp only at h1 h2
      subst h1
      exact ⟨pv, .head _, h2⟩
    · obtain ⟨v, h1, h2⟩ := ih m
      exact ⟨v, .tail _ h1, h2⟩
theorem eqDs_get {T : Value → Value → Prop} {f : AV → AV → Bool} (hf : ∀ x y v u a b, f x y = true → VR G H W ρ x v → VR G H W ρ y u → RelV v a → RelV u b → T a b)
    {xs ys : List (Key × AV)} {ks ls : List (Key × V)} {va vb : List (Key × Value)} (e : eqDs f xs ys = true) (rx : VRk G H W ρ xs ks) (ry : VRk G H W ρ ys ls) (ra : KV ks va) (rb : KV ls vb) :
    va.length = vb.length ∧ ∀ k a, (k, a) ∈ va → ∃ b, valueAt vb k = some b ∧ T a b := by
  simp only [eqDs, Bool.and_eq_true, decide_eq_true_eq, List.all_eq_true] at e
  obtain ⟨h1, h2⟩ := e
  refine ⟨by rw [← ra.length, ← rb.length, ← rx.length, ← ry.length]; exact h1, fun k a m => ?_⟩
  obtain ⟨v, m1, r1⟩ := KV_mem ra m
  obtain ⟨x, m2, r2⟩ := rx.mem_of m1
  have := h2 _ m2
  simp only at this
  split at this
  case h_2 => cases this
  rename_i y ey
  obtain ⟨w, ew, rw'⟩ := ry.hasV ey
  have rr : RelO (some w) (valueAt vb k) := by rw [← ew]; exact rb.val k
  obtain ⟨b, eb, rb'⟩ := rr.some_of
  exact ⟨b, eb, hf _ _ _ _ _ _ this r2 rw' r1 rb'⟩
theorem all_true {α : Type} (l : List α) : (l.all fun _ => true) = true := by simp
theorem eqWf_tree (I : Inv X pins σ0 H s) {f : AV → AV → Bool} {n : Nat} (hf : ∀ x y v u a b, f x y = true → VR (gd X cls) H W ρ x v → VR (gd X cls) H W ρ y u → RelV v a → RelV u b → PySem.W.EqTree X.prog X.w s n a b true)
    {x y : Vw} {v u : V} {a b : Value} (e : eqWf f x y = true) (rx : WR (gd X cls) H W ρ x v) (ry : WR (gd X cls) H W ρ y u) (ra : RelV v a) (rb : RelV u b) : PySem.W.EqTree X.prog X.w s (n + 1) a b true := by
  unfold eqWf at e
  split at e
  · obtain ⟨p, vs, rfl, l1, r1⟩ := rx
    obtain ⟨q, us, rfl, l2, r2⟩ := ry
    obtain rfl : a = Value.ref p := ra
    obtain rfl : b = Value.ref q := rb
    by_cases h : p = q
    · subst h; exact .same
    obtain ⟨is, t1, o1, _⟩ := I.tuple l1.sq
    obtain ⟨js, t2, o2, _⟩ := I.tuple l2.sq
    obtain ⟨hl, g⟩ := eqLs_get hf e r1 r2 t1 t2
    have := PySem.W.EqTree.tuples (e := fun _ => true) h o1 o2 fun j h1 h2 => by simpa using g j (by simpa using h1) (by simpa using h2)
    simpa [hl, all_true] using this
  · obtain ⟨p, vs, rfl, l1, r1⟩ := rx
    obtain ⟨q, us, rfl, l2, r2⟩ := ry
    obtain rfl : a = Value.ref p := ra
    obtain rfl : b = Value.ref q := rb
    by_cases h : p = q
    · subst h; exact .same
    obtain ⟨is, t1, o1, _⟩ := I.list (SqL.of l1)
    obtain ⟨js, t2, o2, _⟩ := I.list (SqL.of l2)
    obtain ⟨hl, g⟩ := eqLs_get hf e r1 r2 t1 t2
    have := PySem.W.EqTree.lists (e := fun _ => true) h o1.isList o2.isList (by simpa using hl) fun j h1 h2 => by simpa using g j (by simpa using h1) (by simpa using h2)
    simpa [all_true] using this
  · obtain ⟨p, ks, rfl, l1, r1⟩ := rx
    obtain ⟨q, ls, rfl, l2, r2⟩ := ry
    obtain rfl : a = Value.ref p := ra
    obtain rfl : b = Value.ref q := rb
    by_cases h : p = q
    · subst h; exact .same
    obtain ⟨_, y1, va, k1, d1⟩ := dk_rd I.hok l1
    obtain ⟨_, y2, vb, k2, d2⟩ := dk_rd I.hok l2
    obtain ⟨hl, g⟩ := eqDs_get hf e r1 r2 k1 k2
    have := PySem.W.EqTree.dicts (n := n) (e := fun _ => true) h y1 y2 d1 d2 fun k c y m hv => by
      obtain ⟨b, eb, t⟩ := g k c m
      rw [eb] at hv
      cases hv
      exact t
    have al : (va.all fun p => (valueAt vb p.1).isSome && true) = true := by
      simp only [Bool.and_true, List.all_eq_true]
      intro p m
      obtain ⟨b, eb, _⟩ := g p.1 p.2 m
      rw [eb]; rfl
    rw [al, hl] at this
    simpa using this
  · cases e
theorem eqT_tree (I : Inv X pins σ0 H s) {S : List SV} {σ : L2.St} (R : RS (gd X cls) B ρ h S W σ H) : ∀ (n : Nat) (x y : AV) (v u : V) (a b : Value), eqT h n x y = true → VR (gd X cls) H W ρ x v → VR (gd X cls) H W ρ y u → RelV v a → RelV u b →
    PySem.W.EqTree X.prog X.w s (40 + n) a b true
  | 0, x, y, v, u, a, b, e, rx, ry, ra, rb => eqL_tree I 0 e rx ry ra rb
  | n + 1, x, y, v, u, a, b, e, rx, ry, ra, rb => by
    simp only [eqT, Bool.or_eq_true] at e
    rcases e with e | e
    · exact eqL_tree I (n + 1) e rx ry ra rb
    · split at e
      case h_2 => cases e
      rename_i p q e1 e2
      exact eqWf_tree I (eqT_tree I R n) e (VR.vw R rx e1) (VR.vw R ry e2) ra rb
/-- lists, tuples that are the same -/
theorem deep_cmp (I : Inv X pins σ0 H s) {S : List SV} {σ : L2.St} (R : RS (gd X cls) B ρ h S W σ H) (hu : X.A.units + 64 < cLine) {xs ys : List AV} {vs us : List V} {is js : List Value} (e : eqLs (eqT h 16) xs ys = true) (rx : VRs (gd X cls) H W ρ xs vs) (ry : VRs (gd X cls) H W ρ ys us) (ra : Vals vs is) (rb : Vals us js) :
    is.length = js.length ∧ ∀ j (h1 : j < is.length) (h2 : j < js.length), SeqAt.EqIn X.prog X.w X.A.in1 s is[j] js[j] true := by
  obtain ⟨hl, g⟩ := eqLs_get (T := fun a b => SeqAt.EqIn X.prog X.w X.A.in1 s a b true) (fun x y v u a b e r1 r2 r3 r4 => (eqT_tree I R 16 x y v u a b e r1 r2 r3 r4).at X.A.in1 (by show X.A.units + 1 + _ < cLine; omega)) e rx ry ra rb
  exact ⟨hl, g⟩
end
theorem op_cop (hu : X.A.units + 64 < cLine) (o : CmpOp) : OpR X (compareOp o) (r2 (gd X cls) fun h a b => (cop h o a b).map db) := by
  intro pins s σ0 H x y v u Q I rx ry hh
  obtain ⟨B, ρ, h, S, W, σ, a, b, rv, R, ra, rb, e, k⟩ := hh
  simp only [Option.map_eq_some_iff] at e
  obtain ⟨c, e, rfl⟩ := e
  have fin := k (.bl c) H (good_bl R c)
  have lt : ∀ (f : Int → Int → Bool), ltO f a b = some c → ∃ i j, x = .int i ∧ y = .int j ∧ c = f i j := fun f e => by
    unfold ltO at e
    split at e
    · cases e
      simp only [RVR, VR, DR] at ra rb
      exact ⟨_, _, ra, rb, rfl⟩
    · cases e
  have eqv : ∀ c, eqO h a b = some c → (∃ d e, Dp X.K H x d ∧ Dp X.K H y e ∧ SeqAt.shaped d = true ∧ SeqAt.shaped e = true ∧ c = PyData.eqv d e) ∨
      (∃ p q ks ls, x = .ref p ∧ y = .ref q ∧ Rd H p (.dK ks) ∧ Rd H q (.dK ls) ∧ ks.length = ls.length ∧ (∀ p ∈ ks, valV ls p.1 = some p.2 ∧ flatB p.2 = true) ∧ c = true) ∨
      (∃ (p q : Addr) (is js : List Value), v = .ref p ∧ u = .ref q ∧ IsTup s.heap p is.toArray ∧ IsTup s.heap q js.toArray ∧ is.length = js.length ∧ (∀ j (h1 : j < is.length) (h2 : j < js.length), SeqAt.EqIn X.prog X.w X.A.in1 s is[j] js[j] true) ∧ c = true) ∨
      ∃ (p q : Addr) (is js : List Value), v = .ref p ∧ u = .ref q ∧ PlainL s.heap p is.toArray ∧ PlainL s.heap q js.toArray ∧ is.length = js.length ∧ (∀ j (h1 : j < is.length) (h2 : j < js.length), SeqAt.EqIn X.prog X.w X.A.in1 s is[j] js[j] true) ∧ c = true := fun c e => by
    unfold eqO at e
    split at e
    · rename_i p q e1 e2
      simp only [Option.bind_eq_some_iff] at e1 e2
      obtain ⟨d1, f1, g1⟩ := e1
      obtain ⟨d2, f2, g2⟩ := e2
      split at e
      · rename_i hs
        cases e
        exact .inl ⟨p, q, DR.dp _ _ _ g1 (RVR.res R ra f1), DR.dp _ _ _ g2 (RVR.res R rb f2), hs.1, hs.2, rfl⟩
      · cases e
    · split at e
      case h_4 => cases e
      · rename_i xs ys e1 e2
        split at e
        case isFalse => cases e
        rename_i hq
        cases e
        obtain ⟨p, ks, rfl, l1, r1⟩ := RVR.vw R ra e1
        obtain ⟨q, ls, rfl, l2, r2⟩ := RVR.vw R rb e2
        obtain ⟨h1, h2⟩ := eqDic_ok hq r1 r2
        exact .inr (.inl ⟨p, q, ks, ls, rfl, rfl, l1, l2, h1, h2, rfl⟩)
      · rename_i xs ys e1 e2
        split at e
        case isFalse => cases e
        rename_i hq
        cases e
        obtain ⟨p, vs, rfl, l1, r1⟩ := RVR.vw R ra e1
        obtain ⟨q, us, rfl, l2, r2⟩ := RVR.vw R rb e2
        obtain ⟨is, t1, o1, _⟩ := I.tuple l1.sq
        obtain ⟨js, t2, o2, _⟩ := I.tuple l2.sq
        obtain ⟨h1, h2⟩ := deep_cmp I R hu hq r1 r2 t1 t2
        exact .inr (.inr (.inl ⟨p, q, is, js, rx, ry, o1, o2, h1, h2, rfl⟩))
      · rename_i xs ys e1 e2
        split at e
        case isFalse => cases e
        rename_i hq
        cases e
        obtain ⟨p, vs, rfl, l1, r1⟩ := RVR.vw R ra e1
        obtain ⟨q, us, rfl, l2, r2⟩ := RVR.vw R rb e2
        obtain ⟨is, t1, o1, _⟩ := I.list (SqL.of l1)
        obtain ⟨js, t2, o2, _⟩ := I.list (SqL.of l2)
        obtain ⟨h1, h2⟩ := deep_cmp I R hu hq r1 r2 t1 t2
        exact .inr (.inr (.inr ⟨p, q, is, js, rx, ry, o1, o2, h1, h2, rfl⟩))
  have inn : ∀ c, inO h a b = some c → (∃ i j, x = .str i ∧ y = .str j ∧ c = !(Builtin.Str.occurrences j i 0 j.length 1).isEmpty) ∨
      (∃ p xs, y = .ref p ∧ (SqL X.K H p xs ∨ SqT X.K H p xs) ∧ flatV x = true ∧ xs.all flatV = true ∧ c = inV x xs) ∨
      (∃ p o, y = .ref p ∧ DGet H p x o ∧ c = o.isSome) ∨ (∃ p z kvs, y = .ref p ∧ x = .str z ∧ KdAt X.K X.w p kvs ∧ c = (kvs.lookup z).isSome) ∨
      ∃ p k ks, x = kV k ∧ y = .ref p ∧ H p = some (SetX X.prog X.w p ks) ∧ c = ks.any fun j => decide (j = k) := fun c e => by
    unfold inO at e
    split at e
    · rename_i z e1
      have q := RVR.vw R rb e1
      split at e
      · rename_i z2 e2
        cases e
        obtain ⟨rfl, _⟩ := RV.fv_ok e2 ra
        exact .inl ⟨_, _, rfl, q, rfl⟩
      · cases e
    · rename_i ys e1
      obtain ⟨p, vs, rfl, l, r⟩ := RVR.vw R rb e1
      unfold inB at e
      split at e
      · rename_i x' ys' e2 e3
        cases e
        obtain ⟨rfl, f1⟩ := RV.fv_ok e2 ra
        obtain ⟨rfl, f2⟩ := AV.fvs_ok e3 r
        exact .inr (.inl ⟨p, _, rfl, .inl (SqL.of l), f1, f2, rfl⟩)
      · cases e
    · rename_i ys e1
      obtain ⟨p, vs, rfl, l, r⟩ := RVR.vw R rb e1
      unfold inB at e
      split at e
      · rename_i x' ys' e2 e3
        cases e
        obtain ⟨rfl, f1⟩ := RV.fv_ok e2 ra
        obtain ⟨rfl, f2⟩ := AV.fvs_ok e3 r
        exact .inr (.inl ⟨p, _, rfl, .inr l.sq, f1, f2, rfl⟩)
      · cases e
    · rename_i kvs e1
      obtain ⟨p, es, rfl, l, r⟩ := RVR.vw R rb e1
      simp only [Option.map_eq_some_iff] at e
      obtain ⟨k, ek, rfl⟩ := e
      obtain rfl := RVR.key ek ra
      exact .inr (.inr (.inl ⟨p, _, rfl, DGet.kR l, r.isSome.symm⟩))
    · rename_i kvs e1
      obtain ⟨p, rfl, l⟩ := RVR.vw R rb e1
      split at e
      · rename_i z
        cases e
        simp only [RVR, VR, DR] at ra
        exact .inr (.inr (.inr (.inl ⟨p, _, kvs, rfl, ra, l, rfl⟩)))
      · cases e
    · rename_i ks e1
      obtain ⟨p, rfl, nd, l⟩ := RVR.vw R rb e1
      simp only [Option.map_eq_some_iff] at e
      obtain ⟨k, ek, rfl⟩ := e
      obtain rfl := RVR.key ek ra
      exact .inr (.inr (.inr (.inr ⟨p, k, ks, rfl, rfl, l, rfl⟩)))
    · cases e
  cases o <;> simp only [cop] at e
  · rcases eqv _ e with ⟨d1, d2, p1, p2, s1, s2, rfl⟩ | ⟨p, q, ks, ls, rfl, rfl, l1, l2, h1, h2, rfl⟩ | ⟨p, q, is, js, rfl, rfl, o1, o2, h1, h2, rfl⟩ | ⟨p, q, is, js, rfl, rfl, o1, o2, h1, h2, rfl⟩
    · exact op_eqD hu pins s σ0 H _ _ v u Q I rx ry ⟨d1, d2, p1, p2, s1, s2, fin⟩
    · exact op_eq_dictR (by omega) pins s σ0 H _ _ v u Q I rx ry ⟨⟨p, q, ks, ls, rfl, rfl, l1, l2, h1, h2⟩, fin⟩
    · refine SeqAt.rcIn_tuples (e := fun _ => true) o1 o2 (by omega) (fun j h3 h4 => by simpa using h2 j (by simpa using h3) (by simpa using h4)) ⟨.bl true, H, I, ?_, fin⟩
      simp [h1, all_true, L2.RelV]
    · refine SeqAt.rcIn_lists (e := fun _ => true) o1.isList o2.isList (by simpa using h1) (by omega) (fun j h3 h4 => by simpa using h2 j (by simpa using h3) (by simpa using h4)) ⟨.bl true, H, I, ?_, fin⟩
      simp [all_true, L2.RelV]
  · simp only [Option.map_eq_some_iff] at e
    obtain ⟨c', e, rfl⟩ := e
    rcases eqv _ e with ⟨d1, d2, p1, p2, s1, s2, rfl⟩ | ⟨p, q, ks, ls, rfl, rfl, l1, l2, h1, h2, rfl⟩ | ⟨p, q, is, js, rfl, rfl, o1, o2, h1, h2, rfl⟩ | ⟨p, q, is, js, rfl, rfl, o1, o2, h1, h2, rfl⟩
    · exact op_neD hu pins s σ0 H _ _ v u Q I rx ry ⟨d1, d2, p1, p2, s1, s2, fin⟩
    · exact op_ne_dictR (by omega) pins s σ0 H _ _ v u Q I rx ry ⟨⟨p, q, ks, ls, rfl, rfl, l1, l2, h1, h2⟩, fin⟩
    · exact SeqAt.ne_same_tup o1 o2 (by simpa using h1) (by omega) (fun j h3 h4 => by simpa using h2 j (by simpa using h3) (by simpa using h4)) ⟨.bl false, H, I, rfl, fin⟩
    · exact SeqAt.ne_same_lst o1.isList o2.isList (by simpa using h1) (by omega) (fun j h3 h4 => by simpa using h2 j (by simpa using h3) (by simpa using h4)) ⟨.bl false, H, I, rfl, fin⟩
  · obtain ⟨i, j, rfl, rfl, rfl⟩ := lt _ e
    exact op_lt pins s σ0 H _ _ v u Q I rx ry ⟨i, j, rfl, rfl, fin⟩
  · obtain ⟨i, j, rfl, rfl, rfl⟩ := lt _ e
    exact op_le pins s σ0 H _ _ v u Q I rx ry ⟨i, j, rfl, rfl, fin⟩
  · obtain ⟨i, j, rfl, rfl, rfl⟩ := lt _ e
    exact op_gt pins s σ0 H _ _ v u Q I rx ry ⟨i, j, rfl, rfl, fin⟩
  · obtain ⟨i, j, rfl, rfl, rfl⟩ := lt _ e
    exact op_ge pins s σ0 H _ _ v u Q I rx ry ⟨i, j, rfl, rfl, fin⟩
  · split at e
    · rename_i nb
      cases e
      rw [isNon_ok R rb] at nb
      rw [isNon_ok R ra] at fin
      exact op_isN pins s σ0 H _ _ v u Q I rx ry ⟨of_decide_eq_true nb, fin⟩
    · cases e
  · split at e
    · rename_i nb
      cases e
      rw [isNon_ok R rb] at nb
      rw [isNon_ok R ra] at fin
      exact op_notN pins s σ0 H _ _ v u Q I rx ry ⟨of_decide_eq_true nb, fin⟩
    · cases e
  · rcases inn _ e with ⟨i, j, rfl, rfl, rfl⟩ | ⟨p, xs, rfl, l, f1, f2, rfl⟩ | ⟨p, o, rfl, g, rfl⟩ | ⟨p, z, kvs, rfl, rfl, g, rfl⟩ | ⟨p, k, ks, rfl, rfl, g, rfl⟩
    · exact op_in_str pins s σ0 H _ _ v u Q I rx ry ⟨i, j, rfl, rfl, fin⟩
    · exact op_in_seq pins s σ0 H _ _ v u Q I rx ry ⟨p, xs, rfl, l, f1, f2, fin⟩
    · cases ry
      exact d_in (by omega) I g rx fun s' I' => ⟨.bl _, H, I', rfl, fin⟩
    · cases ry
      obtain ⟨t, rfl⟩ := rx
      obtain ⟨es, n, hl, hk, low, hv⟩ := g
      obtain ⟨r, er, hr⟩ := hv z
      have hm := PySem.W.mapOf_K (prog := X.prog) (w := X.w) I.kIn hl hk
      refine wpAny_in_of (strKind_is X.prog X.w z t) low hm ?_
      rw [PySem.W.find_K hl er, ← kdVal_some hr]
      exact ⟨.bl _, H, I.tok _, rfl, fin⟩
    · exact or_sinX pins s σ0 H _ _ v u Q I rx ry ⟨_, p, _, rfl, rfl, g, fin⟩
  · simp only [Option.map_eq_some_iff] at e
    obtain ⟨c', e, rfl⟩ := e
    rcases inn _ e with ⟨i, j, rfl, rfl, rfl⟩ | ⟨p, xs, rfl, l, f1, f2, rfl⟩ | ⟨p, o, rfl, g, rfl⟩ | ⟨p, z, kvs, rfl, rfl, g, rfl⟩ | ⟨p, k, ks, rfl, rfl, g, rfl⟩
    · exact op_notIn_str pins s σ0 H _ _ v u Q I rx ry ⟨i, j, rfl, rfl, fin⟩
    · exact op_notIn_seq pins s σ0 H _ _ v u Q I rx ry ⟨p, xs, rfl, l, f1, f2, fin⟩
    · cases ry
      exact d_notIn (by omega) I g rx fun s' I' => ⟨.bl _, H, I', rfl, fin⟩
    · cases ry
      obtain ⟨t, rfl⟩ := rx
      obtain ⟨es, n, hl, hk, low, hv⟩ := g
      obtain ⟨r, er, hr⟩ := hv z
      have hm := PySem.W.mapOf_K (prog := X.prog) (w := X.w) I.kIn hl hk
      refine wpAny_notIn_of (strKind_is X.prog X.w z t) low hm ?_
      rw [PySem.W.find_K hl er, ← kdVal_some hr]
      exact ⟨.bl _, H, I.tok _, rfl, fin⟩
    · exact or_snotinX pins s σ0 H _ _ v u Q I rx ry ⟨_, p, _, rfl, rfl, g, fin⟩
end
end Mp


set_option Elab.async false
set_option linter.all false
set_option maxRecDepth 10000
/-! list(d.items()) -/
namespace Mp
open PySem PySem.Spec PyProof.Rows L2
section
variable {G : Gd} {B : ASet} {ρ : List Addr} {h : Hs} {S : List SV} {W : ASet} {σ : L2.St} {H : Hp}
theorem VR.ofKey (k : Key) : VR G H W ρ (kA k) (kV k) := by
  cases k <;> simp only [kA, kV, VR, DR]
theorem VRs.its {W' : ASet} {H' : Hp} : ∀ {kvs : List (Key × AV)} {es : List (Key × V)} {ts : List Addr}, Paired (fun (t : Addr) (q : Key × V) => H' t = some (.tup [kV q.1, q.2])) ts es → (∀ t ∈ ts, ¬ W' t) → VRk G H' W' ρ kvs es → VRs G H' W' ρ (kvs.map itA) (ts.map V.ref)
  | [], es, ts, q, _, r => by
    simp only [VRk] at r
    subst r
    cases q
    simp only [List.map_nil, VRs]
  | (k, x) :: kvs, es, ts, q, n, r => by
    simp only [VRk] at r
    obtain ⟨v, es', rfl, ra, rb⟩ := r
    cases q with
    | cons e q =>
      rename_i t ts'
      simp only [List.map_cons, VRs]
      refine ⟨_, _, rfl, WR.tup ⟨t, _, rfl, .inl ⟨n t (.head _), .inl e⟩, ?_⟩, VRs.its q (fun u m => n u (.tail _ m)) rb⟩
      simp only [VRs]
      exact ⟨_, _, rfl, VR.ofKey k, _, _, rfl, ra, rfl⟩
theorem good_its (R : RS G B ρ h S W σ H) {H' : Hp} {p : Addr} {ts : List Addr} {es : List (Key × V)} {kvs : List (Key × AV)} (k : ∀ b o, H b = some o → H' b = some o) (hp : H p = none) (ht : ∀ t ∈ ts, H t = none) (np : p ∉ ts) (e : H' p = some (.lst (ts.map V.ref)))
    (q : Paired (fun (t : Addr) (q : Key × V) => H' t = some (.tup [kV q.1, q.2])) ts es) (r : VRk G H W ρ kvs es) : EGood G B ρ W H S σ (.f (.lst (kvs.map itA))) h (.ref p) H' := by
  obtain ⟨h1, h2, h3, h4⟩ := R.fresh hp
  have lv : ∀ a, H a ≠ none → H' a ≠ none := fun a n z => by
    cases ea : H a with
    | none => exact n ea
    | some o => rw [k a o ea] at z; cases z
  have ex : Ext B ρ W H ρ (add W p) H' := ⟨⟨[], by simp⟩, fun a o _ e => k a o e, fun a w => by
    rcases w with w | rfl
    · exact .inl w
    · exact .inr hp, fun a z => Classical.byContradiction fun n => lv a n z, fun a o u e => k a _ e⟩
  refine ⟨ρ, add W p, ex, R.step ex.sub (fun a o _ e => k a o e) (fun _ w => .inl w) (fun a w => ?_), p, rfl, .inr rfl, h2, h3, h4, ts.map V.ref, e, VRs.its q (fun t m => ?_) (VRk.mv ex.sub ex.pre _ _ r)⟩
  · rcases w with w | rfl
    · exact lv a (R.live a w)
    · rw [e]; exact fun z => nomatch z
  · rintro (w | rfl)
    · exact (R.fresh (ht t m)).1 w
    · exact np m
end
end Mp


set_option Elab.async false
set_option linter.all false
set_option maxRecDepth 10000
/-! More rules of single steps. -/
namespace Mp
open PySem PySem.Spec PyProof.Rows L2
section
variable {X : Cx} {cls : Nat → Addr} {B : ASet} {ρ : List Addr} {h : Hs} {S : List SV} {W : ASet} {σ : L2.St} {H : Hp} {G : Gd}
theorem tru_of {w : Vw} {k : Bool} {v : V} (r : WR G H W ρ w v) (e : truO w = some k) : TruW G.K v H k := by
  cases w <;> simp only [truO] at e <;> simp only [WR] at r
  · cases e; subst r; exact .inl rfl
  · cases e; subst r; exact .inl rfl
  · cases e; subst r; exact .inl rfl
  · split at e
    · rename_i hz
      cases e; subst r; exact .inl ⟨hz, rfl⟩
    · cases e
  · cases e
    obtain ⟨a, vs, rfl, l, q⟩ := r
    refine .inl (.inl ⟨vs, SqL.of l, ?_⟩)
    have := q.length
    cases vs with
    | nil => rw [List.length_eq_zero_iff.mp this]; rfl
    | cons x y => rename_i xs; cases xs with
      | nil => simp at this
      | cons _ _ => rfl
  · cases e
    obtain ⟨a, vs, rfl, l, q⟩ := r
    refine .inl (.inr (.inl ⟨vs, l.sq, ?_⟩))
    have := q.length
    cases vs with
    | nil => rw [List.length_eq_zero_iff.mp this]; rfl
    | cons x y => rename_i xs; cases xs with
      | nil => simp at this
      | cons _ _ => rfl
  · cases e
    obtain ⟨a, es, rfl, l, q⟩ := r
    refine .inr ⟨a, es, rfl, l, ?_⟩
    rename_i kvs
    cases kvs with
    | nil => simp only [VRk] at q; subst q; rfl
    | cons p kvs =>
      obtain ⟨k, x⟩ := p
      simp only [VRk] at q
      obtain ⟨v, u, rfl, _⟩ := q
      rfl
  · cases e
  · cases e
  · cases e
  · cases e
theorem VRs.at_ {xs : List AV} {vs : List V} {i : Int} {x : AV} (r : VRs G H W ρ xs vs) (e : atI xs i = some x) : ∃ v, atI vs i = some v ∧ VR G H W ρ x v := by
  simp only [atI, Option.bind_eq_some_iff] at e ⊢
  obtain ⟨j, h1, h2⟩ := e
  obtain ⟨v, h3, h4⟩ := r.get h2
  exact ⟨v, ⟨j, by rw [← r.length]; exact h1, h3⟩, h4⟩
theorem ix_sub (hu : X.A.units + 64 < cLine) : IxR X (r2 (gd X cls) subO) := by
  intro ve se pins s σ0 H x y v u Q I rx ry hh hs
  obtain ⟨B, ρ, h, S, W, σ, a, b, rv, R, ra, rb, e, k⟩ := hh
  simp only [subO, Option.bind_eq_some_iff] at e
  obtain ⟨w0, e1, e⟩ := e
  unfold ixV at e
  split at e
  · rename_i kvs _
    obtain ⟨p, es, rfl, l, r⟩ := RVR.vw R ra e1
    simp only [Option.map_eq_some_iff, Option.bind_eq_some_iff] at e
    obtain ⟨z, ⟨q, ek, e⟩, rfl⟩ := e
    obtain rfl := RVR.key ek rb
    obtain ⟨w, ew, rw'⟩ := r.hasV e
    have g : DGet H p (kV q) (some w) := by rw [← ew]; exact DGet.kR l
    cases rx
    exact tail_any (dict_typeIs I g) slot_dict_getitem.lookup (d_getItem (by omega) I g ry fun w' s' I' r' => ⟨w, H, I', r', k _ _ (good_v R rw')⟩) hs
  · rename_i kvs z
    obtain ⟨p, rfl, l⟩ := RVR.vw R ra e1
    simp only [RVR, VR, DR] at rb
    subst rb
    simp only [Option.map_eq_some_iff] at e
    obtain ⟨d, e, rfl⟩ := e
    obtain ⟨es, n, hl, hk, low, hv⟩ := l
    obtain ⟨r, er, hr⟩ := hv z
    simp only [KdVal, e] at hr
    split at hr
    · rename_i d' u' e2
      cases e2
      obtain ⟨v', fv, rv'⟩ := hr
      refine ix_kdict ve se pins s σ0 H _ _ v u Q I rx ry ⟨p, z, v', rfl, rfl, ⟨es, n, u', hl, hk, er, rv'⟩, k _ _ (good_v R ?_)⟩ hs
      simp only [VR]
      cases d <;> simp only [D.fv] at fv <;> cases fv <;> simp only [DR]
    · rename_i e2; cases e2
    · exact hr.elim
  · rename_i j _
    have q := RVR.vw R ra e1
    simp only [RVR, VR, DR] at rb
    subst rb
    simp only [Option.map_eq_some_iff] at e
    obtain ⟨z, e, rfl⟩ := e
    cases w0 <;> simp only [ixO] at e
    · cases e
    · cases e
    · cases e
    · split at e
      · rename_i hz
        simp only [Option.map_eq_some_iff] at e
        obtain ⟨c, e, rfl⟩ := e
        simp only [WR] at q
        subst q
        exact ix_str ve se pins s σ0 H _ _ v u Q I rx ry ⟨_, j, c, rfl, rfl, hz, e, k _ _ (good_str R _)⟩ hs
      · cases e
    · obtain ⟨p, vs, rfl, l, q⟩ := q
      obtain ⟨z', e', q'⟩ := q.at_ e
      exact ix_list ve se pins s σ0 H _ _ v u Q I rx ry ⟨p, vs, j, z', rfl, rfl, SqL.of l, e', k _ _ (good_v R q')⟩ hs
    · obtain ⟨p, vs, rfl, l, q⟩ := q
      obtain ⟨z', e', q'⟩ := q.at_ e
      exact ix_tup ve se pins s σ0 H _ _ v u Q I rx ry ⟨p, vs, j, z', rfl, rfl, l.sq, e', k _ _ (good_v R q')⟩ hs
    · cases e
    · cases e
    · simp only [Option.map_eq_some_iff] at e
      obtain ⟨c, e, rfl⟩ := e
      obtain ⟨p, rfl, l⟩ := q
      rename_i xs _
      have e' : atI (xs.map V.int) j = some (V.int c) := by
        simp only [atI, Option.bind_eq_some_iff] at e ⊢
        obtain ⟨i, h1, h2⟩ := e
        exact ⟨i, by rw [List.length_map]; exact h1, by rw [List.getElem?_map, h2]; rfl⟩
      exact ix_list ve se pins s σ0 H _ _ v u Q I rx ry ⟨p, _, j, _, rfl, rfl, l.sq, e', k _ _ (good_int R _)⟩ hs
    · cases e
    · cases e
  · cases e
theorem cut_whole {α : Type} {xs : List α} {lo hi : Option Int} (h : HT.sIx xs.length 0 lo = 0 ∧ HT.sIx xs.length xs.length hi = xs.length) : cutA xs lo hi = xs := by
  unfold cutA
  rw [h.1, h.2]
  simp
theorem VRs.cut {xs : List AV} {vs : List V} (lo hi : Option Int) (r : VRs G H W ρ xs vs) : VRs G H W ρ (cutA xs lo hi) (cutV vs lo hi) := by
  unfold cutA cutV
  rw [r.length]
  exact (r.drop _).take _
def rS (G : Gd) : V → Option Int → Option Int → Hp → VK → Prop := fun x lo hi H Q => ∃ (B : ASet) (ρ : List Addr) (h : Hs) (S : List SV) (W : ASet) (σ : L2.St) (a rv : RV),
  RS G B ρ h S W σ H ∧ RVR G H W B ρ S σ a x ∧ (a.vw h).bind (fun w => slO w lo hi) = some rv ∧ ∀ v H', EGood G B ρ W H S σ rv h v H' → Q v H'
theorem sl_ok : SlR X (rS (gd X cls)) := by
  intro pins s σ0 H x v vl vu lo hi sl Q I rx hs pl pu hh
  obtain ⟨B, ρ, h, S, W, σ, a, rv, R, ra, e, k⟩ := hh
  simp only [Option.bind_eq_some_iff] at e
  obtain ⟨w, e1, e⟩ := e
  have q := RVR.vw R ra e1
  cases w <;> simp only [slO] at e
  · cases e
  · cases e
  · cases e
  · split at e
    · rename_i hz
      cases e
      simp only [WR] at q
      subst q
      exact sl_str pins s σ0 H _ v vl vu lo hi sl Q I rx hs pl pu ⟨_, rfl, hz, k _ _ (good_str R _)⟩
    · cases e
  · cases e
    obtain ⟨p, vs, rfl, l, q⟩ := q
    exact sl_list pins s σ0 H _ v vl vu lo hi sl Q I rx hs pl pu ⟨p, vs, rfl, SqL.of l, fun p hp => k _ _ (good_lst R hp (q.cut lo hi))⟩
  · cases e
    obtain ⟨p, vs, rfl, l, q⟩ := q
    refine sl_tupA pins s σ0 H _ v vl vu lo hi sl Q I rx hs pl pu ⟨p, vs, rfl, l.sq, fun hw => k _ _ (good_v R ?_), fun _ p hp => k _ _ (good_tup R hp (q.cut lo hi))⟩
    rw [← q.length] at hw
    rw [cut_whole hw]
    exact WR.tup ⟨p, vs, rfl, l, q⟩
  · cases e
  · cases e
  · cases e
  · cases e
  · cases e
theorem VRs.reverse : ∀ {xs : List AV} {vs : List V}, VRs G H W ρ xs vs → VRs G H W ρ xs.reverse vs.reverse
  | [], vs, h => by simp only [VRs] at h; subst h; simp [VRs]
  | x :: xs, vs, h => by
    simp only [VRs] at h
    obtain ⟨v, r, rfl, a, b⟩ := h
    rw [List.reverse_cons, List.reverse_cons]
    exact VRs.snoc (VRs.reverse b) a
theorem VRs.ints : ∀ {xs : List AV} {ns : List Int} {vs : List V}, AV.ints xs = some ns → VRs G H W ρ xs vs → vs = ns.map V.int
  | [], ns, vs, e, h => by cases e; simp only [VRs] at h; subst h; rfl
  | x :: xs, ns, vs, e, h => by
    cases x with
    | d x =>
      cases x <;> simp only [AV.ints] at e <;> try (cases e; done)
      simp only [Option.map_eq_some_iff] at e
      obtain ⟨ms, e, rfl⟩ := e
      simp only [VRs, VR, DR] at h
      obtain ⟨v, r, rfl, rfl, b⟩ := h
      rw [VRs.ints e b]
      rfl
    | r n => simp [AV.ints] at e
    | q t ys => simp [AV.ints] at e
theorem VRs.bls : ∀ {xs : List AV} {ns : List Bool} {vs : List V}, AV.bls xs = some ns → VRs G H W ρ xs vs → vs = ns.map V.bl
  | [], ns, vs, e, h => by cases e; simp only [VRs] at h; subst h; rfl
  | x :: xs, ns, vs, e, h => by
    cases x with
    | d x =>
      cases x <;> simp only [AV.bls] at e <;> try (cases e; done)
      simp only [Option.map_eq_some_iff] at e
      obtain ⟨ms, e, rfl⟩ := e
      simp only [VRs, VR, DR] at h
      obtain ⟨v, r, rfl, rfl, b⟩ := h
      rw [VRs.bls e b]
      rfl
    | r n => simp [AV.bls] at e
    | q t ys => simp [AV.bls] at e
theorem VRs.strs : ∀ {xs : List AV} {ns : List Str} {vs : List V}, AV.strs xs = some ns → VRs G H W ρ xs vs → vs = ns.map V.str
  | [], ns, vs, e, h => by cases e; simp only [VRs] at h; subst h; rfl
  | x :: xs, ns, vs, e, h => by
    cases x with
    | d x =>
      cases x <;> simp only [AV.strs] at e <;> try (cases e; done)
      simp only [Option.map_eq_some_iff] at e
      obtain ⟨ms, e, rfl⟩ := e
      simp only [VRs, VR, DR] at h
      obtain ⟨v, r, rfl, rfl, b⟩ := h
      rw [VRs.strs e b]
      rfl
    | r n => simp [AV.strs] at e
    | q t ys => simp [AV.strs] at e
/-- the type of a shape -/
theorem ty_of {w : Vw} {n : String} {v : V} (r : WR G H W ρ w v) (e : w.ty = some (.b n)) : TyX G.K H v (.type n) := by
  cases w <;> simp only [Vw.ty] at e <;> cases e <;> simp only [WR] at r
  · subst r; exact .base .non
  · subst r; exact .base (.bl _)
  · subst r; exact .base (.int _)
  · subst r; exact .base (.str _)
  · obtain ⟨a, vs, rfl, l, _⟩ := r; exact .base (.lst l)
  · obtain ⟨a, vs, rfl, l, _⟩ := r
    rcases l with ⟨_, l | ⟨o, l⟩⟩ | ⟨o, its, n, h1, h2, _⟩
    · exact .base (.tup l)
    · exact .fTuple l
    · exact .kTuple h1 h2
  · obtain ⟨a, es, rfl, l | ⟨o, l⟩, _⟩ := r
    · exact .base (.dK l)
    · exact .fDict l
/-- values of a list of results -/
def RVRs (G : Gd) (H : Hp) (W B : ASet) (ρ : List Addr) (S : List SV) (σ : L2.St) : List RV → List V → Prop
  | [], vs => vs = []
  | x :: xs, vs => ∃ v r, vs = v :: r ∧ RVR G H W B ρ S σ x v ∧ RVRs G H W B ρ S σ xs r
def rC (G : Gd) (f : Hs → List RV → Option RV) : List V → Hp → VK → Prop := fun xs H Q => ∃ (B : ASet) (ρ : List Addr) (h : Hs) (S : List SV) (W : ASet) (σ : L2.St) (as : List RV) (rv : RV),
  RS G B ρ h S W σ H ∧ RVRs G H W B ρ S σ as xs ∧ f h as = some rv ∧ ∀ v H', EGood G B ρ W H S σ rv h v H' → Q v H'
theorem RVRs.one {a : RV} {xs : List V} (r : RVRs G H W B ρ S σ [a] xs) : ∃ v, xs = [v] ∧ RVR G H W B ρ S σ a v := by
  simp only [RVRs] at r
  obtain ⟨v, u, rfl, ra, rfl⟩ := r
  exact ⟨v, rfl, ra⟩
theorem RVRs.two {a b : RV} {xs : List V} (r : RVRs G H W B ρ S σ [a, b] xs) : ∃ v u, xs = [v, u] ∧ RVR G H W B ρ S σ a v ∧ RVR G H W B ρ S σ b u := by
  simp only [RVRs] at r
  obtain ⟨v, u, rfl, ra, w, z, rfl, rb, rfl⟩ := r
  exact ⟨v, w, rfl, ra, rb⟩
/-- list(text) -/
theorem call_listS (hc : X.calm = true) : CallR X (.type "list") (fun xs H Q => ∃ z, xs = [.str z] ∧ z.length ≤ sizeLine ∧ ∀ p, H p = none → Q (.ref p) (upd H p (.lst (z.cps.toList.map fun c => .str ⟨#[c]⟩)))) := by
  intro pins s σ H xs us Q I r h
  obtain ⟨z, rfl, hz, q⟩ := h
  obtain ⟨u, rfl, rx⟩ := vals1 r
  obtain ⟨t, rfl⟩ := rx
  refine call_list_str (I.ok.hd hc) z t (fun h' tk acc c hk hS hacc => ?_) hz
  have ob : ObjOk X.prog X.w (upd H s.heap.objs.size (.lst (z.cps.toList.map fun c => V.str ⟨#[c]⟩))) h' s.heap.objs.size (.lst (z.cps.toList.map fun c => V.str ⟨#[c]⟩)) := by
    refine ⟨by simp only [List.length_map, Array.length_toList]; exact hz, acc.toList, c, ?_, by rw [Array.toArray_toList]; exact hS⟩
    have el : (z.cps.toList.map fun c => V.str ⟨#[c]⟩).length = acc.toList.length := by simp [hacc.1]
    have key : ∀ (xs : List V) (us : List Value), xs.length = us.length → (∀ (j : Nat) (x : V) (u : Value), xs[j]? = some x → us[j]? = some u → RelV x u) → Vals xs us := by
      intro xs
      induction xs with
      | nil => intro us h _; cases us with
        | nil => exact .nil
        | cons _ _ => simp at h
      | cons x xs ih => intro us h f; cases us with
        | nil => simp at h
        | cons u us => exact .cons (f 0 x u rfl rfl) (ih us (by simpa using h) fun j y w h1 h2 => f (j + 1) y w (by simpa using h1) (by simpa using h2))
    refine key _ _ el fun j x u h1 h2 => ?_
    have h2' : acc[j]? = some u := by rw [← Array.getElem?_toList]; exact h2
    obtain ⟨cc, tt, e1, e2⟩ := hacc.2 j u h2'
    rw [List.getElem?_map, Array.getElem?_toList, e1] at h1
    cases h1
    exact ⟨_, e2⟩
  exact ⟨.ref _, _, I.laid hk (Nat.le_refl _) ob, rfl, q _ (I.hok.fresh (Nat.le_refl _))⟩
theorem strs_vrs {G : Gd} {H : Hp} {W : ASet} {ρ : List Addr} : ∀ xs : List Nat, VRs G H W ρ (xs.map fun c => .d (.str ⟨#[c]⟩)) (xs.map fun c => .str ⟨#[c]⟩)
  | [] => by simp only [List.map_nil, VRs]
  | x :: xs => by
    simp only [List.map_cons, VRs]
    exact ⟨_, _, rfl, by simp only [VR, DR], strs_vrs xs⟩
theorem strs_VRs : ∀ (zs : List Str), VRs G H W ρ (zs.map fun z => AV.d (.str z)) (zs.map V.str)
  | [] => by simp only [List.map_nil, VRs]
  | z :: zs => by
    simp only [List.map_cons, VRs, VR, DR]
    exact ⟨_, _, rfl, rfl, strs_VRs zs⟩
theorem ints_VRs : ∀ (zs : List Int), VRs G H W ρ (zs.map fun z => AV.d (.int z)) (zs.map V.int)
  | [] => by simp only [List.map_nil, VRs]
  | z :: zs => by
    simp only [List.map_cons, VRs, VR, DR]
    exact ⟨_, _, rfl, rfl, ints_VRs zs⟩
theorem kyS_ok : ∀ {ks : List Key} {ss : List Str}, kyS ks = some ss → ks = ss.map Sum.inr
  | [], ss, e => by cases e; rfl
  | .inr x :: ks, ss, e => by
    simp only [kyS, Option.map_eq_some_iff] at e
    obtain ⟨r, e, rfl⟩ := e
    rw [kyS_ok e]; rfl
  | .inl x :: ks, ss, e => by simp [kyS] at e
def Blt.val : Blt → Value
  | .repr => .builtin "repr" | .len => .builtin "len" | .abs => .builtin "abs" | .max2 => .builtin "max" | .min2 => .builtin "min" | .all => .builtin "all" | .any => .builtin "any" | .sum => .builtin "sum" | .sorted => .builtin "sorted"
  | .str => .type "str" | .int => .type "int" | .bool => .type "bool" | .list => .type "list" | .tuple => .type "tuple" | .dict => .type "dict" | .set => .type "set"
theorem VRs.keys : ∀ {xs : List AV} {ks : List Key} {vs : List V}, AV.keys xs = some ks → VRs G H W ρ xs vs → vs = ks.map kV
  | [], ks, vs, e, r => by
    cases e
    simp only [VRs] at r
    subst r; rfl
  | x :: xs, ks, vs, e, r => by
    simp only [AV.keys] at e
    split at e
    · rename_i k ls e1 e2
      cases e
      simp only [VRs] at r
      obtain ⟨v, u, rfl, ra, rb⟩ := r
      rw [VR.key e1 ra, VRs.keys e2 rb]; rfl
    · cases e
theorem nodup_addK {ks : List Key} {k : Key} (h : ks.Nodup) : (addK ks k).Nodup := by
  by_cases m : k ∈ ks
  · rw [addK_in m]; exact h
  · rw [addK_out m, List.nodup_append]
    exact ⟨h, by simp, fun x hx y hy => by rw [List.mem_singleton.mp hy]; exact fun e => m (e ▸ hx)⟩
theorem nodup_addKs : ∀ (l ks : List Key), ks.Nodup → (addKs ks l).Nodup
  | [], ks, h => h
  | k :: l, ks, h => nodup_addKs l (addK ks k) (nodup_addK h)
theorem prs_ok {h : Hs} {S : List SV} {σ : L2.St} (R : RS G B ρ h S W σ H) : ∀ {xs : List AV} {ps : List (Key × AV)} {vs : List V}, AV.prs h xs = some ps → VRs G H W ρ xs vs →
    ∃ (as : List Addr) (kvs : List (Key × V)), vs = as.map V.ref ∧ Paired (fun p kv => SqT G.K H p [kV kv.1, kv.2]) as kvs ∧ VRk G H W ρ ps kvs
  | [], ps, vs, e, r => by
    cases e
    simp only [VRs] at r
    subst r
    exact ⟨[], [], rfl, .nil, by simp only [VRk]⟩
  | x :: xs, ps, vs, e, r => by
    simp only [AV.prs] at e
    split at e
    · rename_i a b e1
      simp only [Option.bind_eq_some_iff, Option.map_eq_some_iff] at e
      obtain ⟨k, ek, l, el, rfl⟩ := e
      simp only [VRs] at r
      obtain ⟨v, u, rfl, ra, rb⟩ := r
      obtain ⟨p, ws, rfl, t, q⟩ := VR.vw R ra e1
      simp only [VRs] at q
      obtain ⟨v1, u1, rfl, q1, v2, u2, rfl, q2, rfl⟩ := q
      obtain ⟨as, kvs, rfl, pp, pk⟩ := prs_ok R el rb
      obtain rfl := VR.key ek q1
      refine ⟨p :: as, (k, v2) :: kvs, rfl, .cons t.sq pp, ?_⟩
      simp only [VRk]
      exact ⟨v2, kvs, rfl, q2, pk⟩
    · cases e
theorem mergeA_ok : ∀ {ps : List (Key × AV)} {kvs : List (Key × V)} {xs : List (Key × AV)} {es : List (Key × V)}, VRk G H W ρ ps kvs → VRk G H W ρ xs es → VRk G H W ρ (mergeA xs ps) (mergeK es kvs)
  | [], kvs, xs, es, hp, hx => by
    simp only [VRk] at hp
    subst hp
    exact hx
  | (k, x) :: ps, kvs, xs, es, hp, hx => by
    simp only [VRk] at hp
    obtain ⟨v, r, rfl, ra, rb⟩ := hp
    show VRk G H W ρ (mergeA (putA xs k x) ps) (mergeK (putK es k v) r)
    exact mergeA_ok rb (hx.put ra)
theorem blt_ok (hc : X.calm = true) (b : Blt) : CallR X b.val (rC (gd X cls) fun h as => bltO h b as) := by
  intro pins s σ0 H xs us Q I rx hh
  obtain ⟨B, ρ, h, S, W, σ, as, rv, R, ra, e, k⟩ := hh
  simp only at e
  unfold bltO at e
  split at e
  · obtain ⟨v, rfl, r1⟩ := ra.one
    simp only [Option.map_eq_some_iff, Option.bind_eq_some_iff] at e
    obtain ⟨n, ⟨w, e1, e2⟩, rfl⟩ := e
    have q := RVR.vw R r1 e1
    by_cases hd : ∃ kvs, w = .dic kvs
    · obtain ⟨kvs, rfl⟩ := hd
      cases e2
      obtain ⟨p, es, rfl, l, r⟩ := q
      obtain ⟨u, rfl, ru⟩ := vals1 rx
      cases ru
      refine d_len I l fun t s' I' => ⟨.int (es.length : Nat), H, I', ⟨t, rfl⟩, ?_⟩
      rw [← r.length]
      exact k _ _ (good_int R _)
    refine call_len pins s σ0 H _ us Q I rx ⟨v, n, rfl, ?_, k _ _ (good_int R _)⟩
    cases w <;> simp only [lenO] at e2 <;> simp only [WR] at q
    · cases e2
    · cases e2
    · cases e2
    · split at e2
      · cases e2; subst q; rename_i hz; exact ⟨hz, rfl⟩
      · cases e2
    · cases e2; obtain ⟨a, vs, rfl, l, q⟩ := q; exact .inl ⟨vs, SqL.of l, q.length⟩
    · cases e2; obtain ⟨a, vs, rfl, l, q⟩ := q; exact .inr ⟨vs, l.sq, q.length⟩
    · exact absurd ⟨_, rfl⟩ hd
    · cases e2
    · cases e2; obtain ⟨a, rfl, l⟩ := q; exact .inl ⟨_, l.sq, by simp⟩
    · cases e2
    · cases e2
  · obtain ⟨v, rfl, r1⟩ := ra.one
    cases e
    simp only [RVR, VR, DR] at r1
    subst r1
    exact call_abs pins s σ0 H _ us Q I rx ⟨_, rfl, k _ _ (good_int R _)⟩
  · obtain ⟨v, u, rfl, r1, r2⟩ := ra.two
    cases e
    simp only [RVR, VR, DR] at r1 r2
    subst r1; subst r2
    exact call_max2 hc pins s σ0 H _ us Q I rx ⟨_, _, rfl, k _ _ (good_int R _)⟩
  · obtain ⟨v, u, rfl, r1, r2⟩ := ra.two
    cases e
    simp only [RVR, VR, DR] at r1 r2
    subst r1; subst r2
    exact call_min2 hc pins s σ0 H _ us Q I rx ⟨_, _, rfl, k _ _ (good_int R _)⟩
  · obtain ⟨v, rfl, r1⟩ := ra.one
    split at e
    · rename_i xs e1
      simp only [Option.map_eq_some_iff] at e
      obtain ⟨bs, e, rfl⟩ := e
      obtain ⟨a, vs, rfl, l, q⟩ := RVR.vw R r1 e1
      rw [VRs.bls e q] at l
      exact cr_all hc pins s σ0 H _ us Q I rx ⟨a, bs, rfl, SqL.of l, k _ _ (good_bl R _)⟩
    · cases e
  · obtain ⟨v, rfl, r1⟩ := ra.one
    split at e
    · rename_i xs e1
      simp only [Option.map_eq_some_iff] at e
      obtain ⟨bs, e, rfl⟩ := e
      obtain ⟨a, vs, rfl, l, q⟩ := RVR.vw R r1 e1
      rw [VRs.bls e q] at l
      exact cr_any hc pins s σ0 H _ us Q I rx ⟨a, bs, rfl, SqL.of l, k _ _ (good_bl R _)⟩
    · cases e
  · obtain ⟨v, rfl, r1⟩ := ra.one
    split at e
    · rename_i xs e1
      simp only [Option.map_eq_some_iff] at e
      obtain ⟨bs, e, rfl⟩ := e
      obtain ⟨a, vs, rfl, l, q⟩ := RVR.vw R r1 e1
      rw [VRs.ints e q] at l
      exact cr_sum hc pins s σ0 H _ us Q I rx ⟨a, bs, rfl, SqL.of l, k _ _ (good_int R _)⟩
    · cases e
  · obtain ⟨v, rfl, r1⟩ := ra.one
    split at e
    · rename_i hz
      cases e
      simp only [RVR, VR, DR] at r1
      subst r1
      exact call_str_int pins s σ0 H _ us Q I rx ⟨_, rfl, hz, k _ _ (good_str R _)⟩
    · cases e
  · obtain ⟨v, rfl, r1⟩ := ra.one
    cases e
    simp only [RVR, VR, DR] at r1
    subst r1
    exact call_int1 pins s σ0 H _ us Q I rx (.inr ⟨_, rfl, k _ _ (good_int R _)⟩)
  · obtain ⟨v, rfl, r1⟩ := ra.one
    cases e
    simp only [RVR, VR, DR] at r1
    subst r1
    exact call_int1 pins s σ0 H _ us Q I rx (.inl ⟨_, rfl, k _ _ (good_int R _)⟩)
  · obtain ⟨v, rfl, r1⟩ := ra.one
    simp only [RVR, VR, DR] at r1
    subst r1
    split at e
    case isFalse => cases e
    rename_i hz
    simp only [Option.map_eq_some_iff] at e
    obtain ⟨n, en, rfl⟩ := e
    exact call_int_str pins s σ0 H _ us Q I rx ⟨_, n, rfl, en, hz, k _ _ (good_int R _)⟩
  · obtain ⟨v, rfl, r1⟩ := ra.one
    cases e
    simp only [RVR, VR, DR] at r1
    subst r1
    exact SkE.call_str_str pins s σ0 H _ us Q I rx ⟨_, rfl, k _ _ (good_str R _)⟩
  · obtain ⟨v, rfl, r1⟩ := ra.one
    split at e
    · rename_i hz
      cases e
      simp only [RVR, VR, DR] at r1
      subst r1
      exact SkE.call_repr_int pins s σ0 H _ us Q I rx ⟨_, rfl, hz, k _ _ (good_str R _)⟩
    · cases e
  · obtain ⟨v, rfl, r1⟩ := ra.one
    split at e
    · rename_i kvs e1
      cases e
      obtain ⟨a, es, rfl, l, q⟩ := RVR.vw R r1 e1
      exact call_dictD pins s σ0 H _ us Q I rx ⟨a, es, rfl, l, fun p hp => k _ _ (good_dic R hp q)⟩
    · rename_i xs e1
      obtain ⟨a, vs, rfl, l, q⟩ := RVR.vw R r1 e1
      simp only [Option.map_eq_some_iff] at e
      obtain ⟨ps, ep, rfl⟩ := e
      obtain ⟨as, kvs, rfl, pp, pk⟩ := prs_ok R ep q
      exact call_dictP hc pins s σ0 H _ us Q I rx ⟨a, as, kvs, rfl, SqL.of l, pp, fun p hp => k _ _ (good_dic R hp (mergeA_ok pk (by simp only [VRk])))⟩
    · cases e
  · obtain ⟨v, rfl, r1⟩ := ra.one
    split at e
    · rename_i xs e1
      cases e
      obtain ⟨a, vs, rfl, l, q⟩ := RVR.vw R r1 e1
      exact call_list_of pins s σ0 H _ us Q I rx ⟨a, vs, rfl, .inl (SqL.of l), fun p hp => k _ _ (good_lst R hp q)⟩
    · rename_i xs e1
      cases e
      obtain ⟨a, vs, rfl, l, q⟩ := RVR.vw R r1 e1
      exact call_list_of pins s σ0 H _ us Q I rx ⟨a, vs, rfl, .inr l.sq, fun p hp => k _ _ (good_lst R hp q)⟩
    · rename_i z e1
      split at e
      · rename_i hz
        cases e
        have q := RVR.vw R r1 e1
        simp only [WR] at q
        subst q
        exact call_listS hc pins s σ0 H _ us Q I rx ⟨z, rfl, hz, fun p hp => k _ _ (good_lst R hp (strs_vrs _))⟩
      · cases e
    · cases e
  · obtain ⟨v, rfl, r1⟩ := ra.one
    split at e
    · rename_i xs e1
      cases e
      obtain ⟨a, vs, rfl, l, q⟩ := RVR.vw R r1 e1
      exact call_tuple_of pins s σ0 H _ us Q I rx ⟨a, vs, rfl, .inl ⟨SqL.of l, fun p hp => k _ _ (good_tup R hp q)⟩⟩
    · rename_i xs e1
      cases e
      obtain ⟨a, vs, rfl, l, q⟩ := RVR.vw R r1 e1
      exact call_tuple_of pins s σ0 H _ us Q I rx ⟨a, vs, rfl, .inr ⟨l.sq, k _ _ (good_v R (WR.tup ⟨a, vs, rfl, l, q⟩))⟩⟩
    · cases e
  · obtain ⟨v, rfl, r1⟩ := ra.one
    split at e
    · rename_i xs e1
      obtain ⟨a, vs, rfl, l, q⟩ := RVR.vw R r1 e1
      split at e
      · rename_i ss es
        split at e
        case isFalse => cases e
        rename_i h64
        cases e
        rw [VRs.strs es q] at l
        exact cr_sortedS pins s σ0 H _ us Q I rx ⟨a, ss, rfl, SqL.of l, h64, fun ys p hp hs hn => by
          rw [sortS_eq hp (sortedS_pw ys hs)]
          exact k _ _ (good_lst R hn (strs_VRs _))⟩
      · simp only [Option.bind_eq_some_iff] at e
        obtain ⟨ns, en, e⟩ := e
        split at e
        case isFalse => cases e
        rename_i h64
        cases e
        rw [VRs.ints en q] at l
        exact cr_sorted pins s σ0 H _ us Q I rx ⟨a, ns, rfl, SqL.of l, h64, fun ys p hp hs hn => by
          rw [sortI_eq hp hs]
          exact k _ _ (good_lst R hn (ints_VRs _))⟩
    · rename_i kvs e1
      obtain ⟨a, es, rfl, l, q⟩ := RVR.vw R r1 e1
      simp only [Option.bind_eq_some_iff] at e
      obtain ⟨ss, en, e⟩ := e
      split at e
      case isFalse => cases e
      rename_i h64
      cases e
      exact call_sortedD hc pins s σ0 H _ us Q I rx ⟨a, es, ss, rfl, l, by rw [← q.keys]; exact kyS_ok en, h64, fun ys p hp hs hn => by
        rw [sortS_eq hp (sortedS_pw ys hs)]
        exact k _ _ (good_lst R hn (strs_VRs _))⟩
    · rename_i ks e1
      obtain ⟨a, rfl, nd, l⟩ := RVR.vw R r1 e1
      simp only [Option.bind_eq_some_iff] at e
      obtain ⟨ss, en, e⟩ := e
      split at e
      case isFalse => cases e
      rename_i h64
      cases e
      exact cr_sortX hc pins s σ0 H _ us Q I rx ⟨a, ss, rfl, by rw [← kyS_ok en]; exact l, h64, fun ys p hp hs hn => by
        rw [sortS_eq hp (sortedS_pw ys hs)]
        exact k _ _ (good_lst R hn (strs_VRs _))⟩
    · cases e
  · obtain ⟨v, rfl, r1⟩ := ra.one
    split at e
    · rename_i xs e1
      obtain ⟨a, vs, rfl, l, q⟩ := RVR.vw R r1 e1
      simp only [Option.bind_eq_some_iff] at e
      obtain ⟨ks, ek, e⟩ := e
      split at e
      case isFalse => cases e
      rename_i hr
      cases e
      rw [VRs.keys ek q] at l
      exact cr_setX hc pins s σ0 H _ us Q I rx ⟨a, ks, rfl, SqL.of l, hr, fun p hp => k _ _ (good_new R hp ⟨nodup_addKs ks [] List.nodup_nil, upd_same⟩)⟩
    · cases e
  · cases e
/-! ### methods -/
def Mth.name : Mth → Str
  | .join => "join" | .append => "append" | .split => "split" | .partition => "partition" | .startswith => "startswith" | .replace => "replace" | .find => "find"
  | .extend => "extend" | .lpop => "pop" | .lpopAt => "pop" | .lreverse => "reverse" | .lclear => "clear" | .linsert => "insert" | .lindex => "index"
  | .dget => "get" | .dget2 => "get" | .dpop => "pop" | .dpop2 => "pop" | .dsetd => "setdefault" | .dclear => "clear"
  | .sadd => "add"
def Mth.id : Mth → String
  | .join => "str.join" | .append => "list.append" | .split => "str.split" | .partition => "str.partition" | .startswith => "str.startswith" | .replace => "str.replace" | .find => "str.find"
  | .extend => "list.extend" | .lpop => "list.pop" | .lpopAt => "list.pop" | .lreverse => "list.reverse" | .lclear => "list.clear" | .linsert => "list.insert" | .lindex => "list.index"
  | .dget => "dict.get" | .dget2 => "dict.get" | .dpop => "dict.pop" | .dpop2 => "dict.pop" | .dsetd => "dict.setdefault" | .dclear => "dict.clear"
  | .sadd => "set.add"
theorem VRs.one {a : AV} {xs : List V} (r : VRs G H W ρ [a] xs) : ∃ v, xs = [v] ∧ VR G H W ρ a v := by
  simp only [VRs] at r
  obtain ⟨v, u, rfl, ra, rfl⟩ := r
  exact ⟨v, rfl, ra⟩
theorem VRs.two {a b : AV} {xs : List V} (r : VRs G H W ρ [a, b] xs) : ∃ v u, xs = [v, u] ∧ VR G H W ρ a v ∧ VR G H W ρ b u := by
  simp only [VRs] at r
  obtain ⟨v, u, rfl, ra, w, z, rfl, rb, rfl⟩ := r
  exact ⟨v, w, rfl, ra, rb⟩
theorem VRs.zero {xs : List V} (r : VRs G H W ρ [] xs) : xs = [] := by simpa only [VRs] using r
/-- a method that changes nothing -/
def rV (G : Gd) (m : Mth) : V → List V → Hp → VK → Prop := fun x xs H Q => ∃ (B : ASet) (ρ : List Addr) (h : Hs) (S : List SV) (W : ASet) (σ : L2.St) (w : Vw) (as : List AV) (rv : RV),
  RS G B ρ h S W σ H ∧ WR G H W ρ w x ∧ VRs G H W ρ as xs ∧ vMth h m w as = some rv ∧ ∀ v H', EGood G B ρ W H S σ rv h v H' → Q v H'
theorem vm_ok (hu : X.A.units + 64 < cLine) (m : Mth) : MtR X m.id (rV (gd X cls) m) := by
  intro pins s σ0 H x xs v us Q I rx rs hh
  obtain ⟨B, ρ, h, S, W, σ, w, as, rv, R, rw', rl, e, k⟩ := hh
  unfold vMth at e
  split at e
  · obtain ⟨v, rfl, r1⟩ := rl.one
    simp only [WR] at rw'
    subst rw'
    split at e
    · rename_i ys e1
      simp only [Option.bind_eq_some_iff] at e
      obtain ⟨zs, e2, e⟩ := e
      split at e
      · rename_i hz
        cases e
        obtain ⟨p, vs, rfl, l, q⟩ := VR.vw R r1 e1
        rw [VRs.strs e2 q] at l
        exact mt_join pins s σ0 H _ _ _ us Q I rx rs ⟨_, p, zs, rfl, rfl, .inl (SqL.of l), hz, k _ _ (good_str R _)⟩
      · cases e
    · cases e
  · rename_i a b
    obtain ⟨w, rfl, r1⟩ := rl.one
    simp only [WR] at rw'
    simp only [VR, DR] at r1
    subst rw' r1
    split at e
    case isFalse => cases e
    rename_i hz
    cases e
    refine mt_split pins s σ0 H _ _ _ us Q I rx rs ⟨a, b, rfl, rfl, hz.1, hz.2, fun p hp => k _ _ (good_lst R hp (strs_VRs _))⟩
  · rename_i a b
    obtain ⟨w, rfl, r1⟩ := rl.one
    simp only [WR] at rw'
    simp only [VR, DR] at r1
    subst rw' r1
    split at e
    case isFalse => cases e
    rename_i hz
    cases e
    refine mt_partition pins s σ0 H _ _ _ us Q I rx rs ⟨a, b, rfl, rfl, hz.1, hz.2, fun p hp => k _ _ (good_tup R hp ?_)⟩
    simp only [VRs, VR, DR]
    exact ⟨_, _, rfl, rfl, _, _, rfl, rfl, _, _, rfl, rfl, rfl⟩
  · rename_i a b
    obtain ⟨w, rfl, r1⟩ := rl.one
    simp only [WR] at rw'
    simp only [VR, DR] at r1
    subst rw' r1
    cases e
    exact mt_startswith pins s σ0 H _ _ _ us Q I rx rs ⟨a, b, rfl, rfl, k _ _ (good_bl R _)⟩
  · rename_i a b
    obtain ⟨w, rfl, r1⟩ := rl.one
    simp only [WR] at rw'
    simp only [VR, DR] at r1
    subst rw' r1
    cases e
    exact mt_find pins s σ0 H _ _ _ us Q I rx rs ⟨a, b, rfl, rfl, k _ _ (good_int R _)⟩
  · obtain ⟨w, rfl, r1⟩ := rl.one
    obtain ⟨p, es, rfl, l, r⟩ := rw'
    simp only [Option.map_eq_some_iff] at e
    obtain ⟨q, ek, rfl⟩ := e
    obtain rfl := VR.key ek r1
    cases rx
    cases rs with
    | cons ry rt =>
      cases rt
      refine d_get1 (by omega) I (DGet.kR l) ry fun w' s' I' r' => ⟨_, H, I', r', k _ _ (good_v R ?_)⟩
      rcases r.val q with ⟨x, v, e1, e2, r2⟩ | ⟨e1, e2⟩
      · rw [e1, e2]; exact r2
      · rw [e1, e2]; simp only [Option.getD_none, VR, DR]
  · obtain ⟨w, w2, rfl, r1, r2⟩ := rl.two
    obtain ⟨p, es, rfl, l, r⟩ := rw'
    simp only [Option.map_eq_some_iff] at e
    obtain ⟨q, ek, rfl⟩ := e
    obtain rfl := VR.key ek r1
    cases rx
    cases rs with
    | cons ry rt =>
      cases rt with
      | cons rz rt =>
        cases rt
        refine d_get2 (by omega) I (DGet.kR l) ry rz fun w' s' I' r' => ⟨_, H, I', r', k _ _ (good_v R ?_)⟩
        rcases r.val q with ⟨x, v, e1, e2, r3⟩ | ⟨e1, e2⟩
        · rw [e1, e2]; exact r3
        · rw [e1, e2]; exact r2
  · cases e
/-- a method of a container at p -/
def rCM (G : Gd) (m : Mth) : V → List V → Hp → VK → Prop := fun x xs H Q => ∃ (B : ASet) (ρ : List Addr) (h : Hs) (S : List SV) (W : ASet) (σ : L2.St) (p : Addr) (c : Cell) (as : List AV) (y : AV) (c' : Cell),
  RS G B ρ h S W σ H ∧ x = .ref p ∧ W p ∧ CAt G H W ρ p c ∧ VRs G H W ρ as xs ∧ cMth h m c as = some (y, c') ∧ ∀ v o, CAt G (upd H p o) W ρ p c' → VR G (upd H p o) W ρ y v → Q v (upd H p o)
theorem sub_set {a : Addr} {o : HO} (w : W a) : Sub W H W (upd H a o) := ⟨fun b u nb e => ⟨nb, by
  have ne : b ≠ a := fun z => by subst z; exact nb w
  rw [upd_ne ne]; exact e⟩⟩
theorem upd_self {p : Addr} {o : HO} (e : H p = some o) : upd H p o = H := by
  funext b
  by_cases hb : b = p
  · rw [hb, upd_same, e]
  · rw [upd_ne hb]
theorem VRs.dropLast : ∀ {xs : List AV} {vs : List V}, VRs G H W ρ xs vs → VRs G H W ρ xs.dropLast vs.dropLast := fun {xs vs} h => by
  rw [List.dropLast_eq_take, List.dropLast_eq_take, h.length]
  exact h.take _
theorem VRs.erase {xs : List AV} {vs : List V} (k : Nat) (h : VRs G H W ρ xs vs) : VRs G H W ρ (xs.eraseIdx k) (vs.eraseIdx k) := by
  rw [List.eraseIdx_eq_take_drop_succ, List.eraseIdx_eq_take_drop_succ]
  exact (h.take _).append (h.drop _)
theorem nodup_add {ks : List Key} {j : Key} (nd : ks.Nodup) : (if (ks.any fun i => decide (i = j)) = true then ks else ks ++ [j]).Nodup := by
  split
  · exact nd
  · rename_i h
    refine List.nodup_append.mpr ⟨nd, by simp, fun a ha b hb e => ?_⟩
    rw [List.mem_singleton] at hb
    subst hb e
    exact h (List.any_eq_true.mpr ⟨a, ha, by simp⟩)
theorem cm_ok (m : Mth) : MtR X m.id (rCM (gd X cls) m) := by
  intro pins s σ0 H x xs v us Q I rx rs hh
  obtain ⟨B, ρ, h, S, W, σ, p, c, as, y, c', R, rfl, wp, hc, rl, e, k⟩ := hh
  have sb : ∀ o, Sub W H W (upd H p o) := fun o => sub_set wp
  unfold cMth at e
  split at e
  · obtain ⟨w, rfl, r1⟩ := rl.one
    obtain ⟨vs, l, q⟩ := hc
    split at e
    case isFalse => cases e
    rename_i hz
    cases e
    refine mt_append pins s σ0 H _ _ _ us Q I rx rs ⟨p, vs, w, rfl, rfl, l, by rw [← q.length]; exact hz, k _ _ ⟨_, upd_same, (q.mv (sb _) pre_refl).snoc (VR.mv (sb _) pre_refl _ _ r1)⟩ (by simp only [VR, DR])⟩
  · obtain ⟨w, rfl, r1⟩ := rl.one
    obtain ⟨vs, l, q⟩ := hc
    split at e
    case h_2 => cases e
    rename_i ys e1
    split at e
    case isFalse => cases e
    rename_i hz
    cases e
    obtain ⟨p2, ws, rfl, l2, q2⟩ := VR.vw R r1 e1
    refine mt_extend pins s σ0 H _ _ _ us Q I rx rs ⟨p, p2, vs, ws, rfl, rfl, l, l2, by rw [← q.length, ← q2.length]; exact hz, k _ _ ⟨_, upd_same, (q.mv (sb _) pre_refl).append (q2.mv (sb _) pre_refl)⟩ (by simp only [VR, DR])⟩
  · obtain rfl := rl.zero
    obtain ⟨vs, l, q⟩ := hc
    simp only [Option.map_eq_some_iff] at e
    obtain ⟨z, e, e2⟩ := e
    cases e2
    obtain ⟨w, ew, rw'⟩ := q.get e
    refine mt_pop pins s σ0 H _ _ _ us Q I rx rs ⟨p, vs, w, rfl, rfl, l, by rw [← q.length]; exact ew, k _ _ ⟨_, upd_same, (q.dropLast).mv (sb _) pre_refl⟩ (VR.mv (sb _) pre_refl _ _ rw')⟩
  · obtain ⟨w, rfl, r1⟩ := rl.one
    obtain ⟨vs, l, q⟩ := hc
    simp only [VR, DR] at r1
    subst r1
    split at e
    case isFalse => cases e
    rename_i hz
    simp only [Option.map_eq_some_iff, Option.bind_eq_some_iff] at e
    obtain ⟨j, ej, z, e, e2⟩ := e
    cases e2
    obtain ⟨w, ew, rw'⟩ := q.get e
    refine mt_popAt pins s σ0 H _ _ _ us Q I rx rs ⟨p, vs, _, j, w, rfl, rfl, l, hz.1, hz.2, by rw [← q.length]; exact ej, ew, k _ _ ⟨_, upd_same, (q.erase j).mv (sb _) pre_refl⟩ (VR.mv (sb _) pre_refl _ _ rw')⟩
  · obtain rfl := rl.zero
    obtain ⟨vs, l, q⟩ := hc
    cases e
    exact mt_reverse pins s σ0 H _ _ _ us Q I rx rs ⟨p, vs, rfl, rfl, l, k _ _ ⟨_, upd_same, (q.reverse).mv (sb _) pre_refl⟩ (by simp only [VR, DR])⟩
  · obtain rfl := rl.zero
    obtain ⟨vs, l, q⟩ := hc
    cases e
    exact mt_clear pins s σ0 H _ _ _ us Q I rx rs ⟨p, vs, rfl, rfl, l, k _ _ ⟨_, upd_same, by simp only [VRs]⟩ (by simp only [VR, DR])⟩
  · obtain ⟨w, rfl, r1⟩ := rl.one
    obtain ⟨es, l, q⟩ := hc
    simp only [Option.map_eq_some_iff, Option.bind_eq_some_iff] at e
    obtain ⟨j, ej, z, e, e2⟩ := e
    cases e2
    obtain rfl := VR.key ej r1
    obtain ⟨w, ew, rw'⟩ := q.hasV e
    cases rx
    cases rs with
    | cons ry rt =>
      cases rt
      exact d_pop I l ry ew (.inl rfl) fun w' s' I' r' => ⟨w, _, I', r', k _ _ ⟨_, upd_same, (q.drop).mv (sb _) pre_refl⟩ (VR.mv (sb _) pre_refl _ _ rw')⟩
  · obtain ⟨w, w2, rfl, r1, r2⟩ := rl.two
    obtain ⟨es, l, q⟩ := hc
    simp only [Option.map_eq_some_iff] at e
    obtain ⟨j, ej, e⟩ := e
    obtain rfl := VR.key ej r1
    cases rx
    cases rs with
    | cons ry rt =>
      cases rt with
      | @cons _ fv _ _ rz rt =>
        cases rt
        split at e
        · rename_i z ez
          cases e
          obtain ⟨w, ew, rw'⟩ := q.hasV ez
          exact d_pop I l ry ew (.inr ⟨fv, rfl⟩) fun w' s' I' r' => ⟨w, _, I', r', k _ _ ⟨_, upd_same, (q.drop).mv (sb _) pre_refl⟩ (VR.mv (sb _) pre_refl _ _ rw')⟩
        · rename_i ez
          cases e
          refine d_popD I l ry (q.missV ez) fun s' I' => ⟨w2, H, I', rz, ?_⟩
          have kk := k w2 (.dK es)
          rw [upd_self l] at kk
          exact kk ⟨_, l, q⟩ r2
  · obtain rfl := rl.zero
    obtain ⟨es, l, q⟩ := hc
    cases e
    exact mtd_clear pins s σ0 H _ _ _ us Q I rx rs ⟨p, es, rfl, rfl, l, k _ _ ⟨_, upd_same, by simp only [VRk]⟩ (by simp only [VR, DR])⟩
  · obtain ⟨w, w2, rfl, r1, r2⟩ := rl.two
    obtain ⟨es, l, q⟩ := hc
    split at e
    case isFalse => cases e
    rename_i hz
    simp only [Option.map_eq_some_iff] at e
    obtain ⟨j, ej, e⟩ := e
    obtain rfl := VR.key ej r1
    cases rx
    cases rs with
    | cons ry rt =>
      cases rt with
      | @cons _ fv _ _ rz rt =>
        cases rt
        refine d_setd I l ry rz (by rw [← q.length]; exact hz) (fun v hv w' s' I' r' => ⟨v, H, I', r', ?_⟩) fun hn w' s' I' r' => ⟨w2, _, I', r', ?_⟩
        · split at e
          · rename_i z ez
            cases e
            obtain ⟨w, ew, rw'⟩ := q.hasV ez
            rw [ew] at hv
            cases hv
            have kk := k v (.dK es)
            rw [upd_self l] at kk
            exact kk ⟨_, l, q⟩ rw'
          · rename_i ez
            rw [q.missV ez] at hv
            cases hv
        · split at e
          · rename_i z ez
            obtain ⟨w, ew, rw'⟩ := q.hasV ez
            rw [ew] at hn
            cases hn
          · cases e
            exact k _ _ ⟨_, upd_same, (q.put r2).mv (sb _) pre_refl⟩ (VR.mv (sb _) pre_refl _ _ r2)
  · obtain ⟨w, rfl, r1⟩ := rl.one
    obtain ⟨nd, l⟩ := hc
    split at e
    case isFalse => cases e
    rename_i hz
    simp only [Option.map_eq_some_iff] at e
    obtain ⟨j, ej, e⟩ := e
    obtain rfl := VR.key ej r1
    cases e
    refine mt_saddX pins s σ0 H _ _ _ us Q I rx rs ⟨p, j, _, rfl, rfl, l, hz, ?_⟩
    exact k _ _ ⟨nodup_add nd, upd_same⟩ (by simp only [VR, DR])
  · cases e
theorem cMth_liv {h : Hs} {m : Mth} {c : Cell} {as : List AV} {r : AV × Cell} (e : cMth h m c as = some r) : c.liv = true := by
  cases c with
  | dead => cases m <;> simp [cMth] at e
  | lck kvs => cases m <;> simp [cMth] at e
  | lst _ => rfl
  | dic _ => rfl
  | ins _ _ => rfl
  | set _ => rfl
/-- a cell is changed: what it leads to -/
theorem good_set (R : RS G B ρ h S W σ H) {n : Nat} {a : Addr} {c : Cell} {o z : HO} {rv : RV} {v : V} (ha : ρ[n]? = some a) (hz : H a = some z) (nf : ∀ o u, z ≠ .frz o u) (hc : CAt G (upd H a o) W ρ a c) (r : RVR G (upd H a o) W B ρ S σ rv v) : EGood G B ρ W H S σ rv (h.set n c) v (upd H a o) := by
  have m := List.mem_of_getElem? ha
  exact ⟨ρ, W, Ext.setC ha (R.sub a m) (R.out a m) hz nf, R.setC ha hc, r⟩
def rM (G : Gd) (m : Mth) : V → List V → Hp → VK → Prop := fun x xs H Q => ∃ (B : ASet) (ρ : List Addr) (h : Hs) (S : List SV) (W : ASet) (σ : L2.St) (a : RV) (as : List AV) (rv : RV) (h' : Hs),
  RS G B ρ h S W σ H ∧ RVR G H W B ρ S σ a x ∧ VRs G H W ρ as xs ∧ mthO h m a as = some (rv, h') ∧ ∀ v H', EGood G B ρ W H S σ rv h' v H' → Q v H'
theorem mth_ok (hu : X.A.units + 64 < cLine) (m : Mth) : MtR X m.id (rM (gd X cls) m) := by
  intro pins s σ0 H x xs v us Q I rx rs hh
  obtain ⟨B, ρ, h, S, W, σ, a, as, rv, h', R, ra, rl, e, k⟩ := hh
  unfold mthO at e
  split at e
  · simp only [Option.bind_eq_some_iff, Option.map_eq_some_iff] at e
    obtain ⟨w, ew, r, er, e⟩ := e
    cases e
    exact vm_ok (cls := cls) hu m pins s σ0 H x xs v us Q I rx rs ⟨B, ρ, h, S, W, σ, w, as, _, R, RVR.vw R ra ew, rl, er, k⟩
  · split at e
    case h_2 => cases e
    rename_i n
    simp only [Option.bind_eq_some_iff, Option.map_eq_some_iff] at e
    obtain ⟨c, hc, ⟨y, c'⟩, er, e⟩ := e
    cases e
    simp only [RVR, VR] at ra
    obtain ⟨p, hp, rfl⟩ := ra
    obtain ⟨z, hz, nf⟩ := (R.cel n c p hc hp).free (cMth_liv er)
    exact cm_ok (cls := cls) m pins s σ0 H _ xs v us Q I rx rs ⟨B, ρ, h, S, W, σ, p, c, as, y, c', R, rfl, R.sub p (List.mem_of_getElem? hp), R.cel n c p hc hp, rl, er, fun v o hc' r => k v _ (good_set R hp hz nf hc' r)⟩
end
end Mp


set_option Elab.async false
set_option linter.all false
set_option maxRecDepth 10000
/-! What text an expression of the language stands for. -/
namespace Mp
open PySem PySem.Spec PyProof.Rows L2
/-- a special method's comparison as a test -/
def spcC : ME → Expr → Bool
  | .spc _ _ _ _, .Compare _ [_] [_] _ => true
  | _, _ => false

/-- the names of a text: its defs with their parameters' number, its constants, the built-ins that it leaves alone -/
structure Nm where
  /-- defs by their numbers: the name, the count of parameters -/
  fns : List (Nat × Str × Nat)
  /-- constants by their numbers -/
  gcs : List (Nat × Str)
  /-- built-ins that are left alone -/
  bl : List Str
  /-- own classes that are made: the name, the count of what __init__ takes behind self -/
  mks : List (Nat × Str × Nat) := []
  /-- methods by their defs' numbers: the class, the name, the count of parameters behind self -/
  mts : List (Nat × Nat × Str × Nat) := []
  /-- fields: the class has no such name itself -/
  fls : List (Nat × Str) := []
abbrev Ks := List (Str × NameKind)
def okN (x : Str) : Bool := !(x == ("__debug__" : Str)) && !(x == ("__classdict__" : Str)) && decide (x ≠ "__name__")
def visK : Option NameKind → Bool
  | some .local => true
  | some .cell => true
  | some .free => true
  | _ => false
def glK (sc : Ks) (x : Str) : Bool := decide (sc.lookup x = some .globalImplicit)
def isStar : Expr → Bool
  | .Starred _ _ => true
  | _ => false
def isSlice : Expr → Bool
  | .Slice _ _ _ _ => true
  | _ => false
def plainT : Expr → Bool
  | .UnaryOp .Not _ _ => false
  | .BoolOp _ _ _ => false
  | .IfExp _ _ _ _ => false
  | .Compare _ _ _ _ => false
  | _ => true
def noSuper : Expr → Bool
  | .Call (.Name id _) [] [] _ => !(id == ("super" : Str))
  | _ => true
def Blt.name : Blt → Str
  | .len => "len" | .abs => "abs" | .max2 => "max" | .min2 => "min" | .all => "all" | .any => "any" | .sum => "sum" | .sorted => "sorted"
  | .str => "str" | .int => "int" | .bool => "bool" | .list => "list" | .tuple => "tuple" | .dict => "dict" | .repr => "repr" | .set => "set"
def cstOk : D → Const → Bool
  | .non, .none => true
  | .bl a, .bool b => a == b
  | .int i, .int j => i == j
  | .str x, .str y => decide (x = y)
  | _, _ => false
def andOr : Bool → BoolOp → Bool
  | true, .And => true
  | false, .Or => true
  | _, _ => false
/-- a class by its name -/
def tcOk (T : Nm) (sc : Ks) : Tc → Expr → Bool
  | .b n, .Name x _ => decide (x = Str.ofString n) && glK sc x && okN x && decide (x ∈ T.bl) && decide (n ∈ ["int", "str", "bool", "list", "tuple", "dict"])
  | .c j, .Name x _ => decide ((T.mks.lookup j).map (·.1) = some x) && glK sc x && okN x
  | _, _ => false
/-- a zip's pairs go to a tuple of targets -/
def tgOk : MI → Expr → Bool
  | .zs _, .Tuple _ _ _ => true
  | .zs _, _ => false
  | .enm _, .Tuple _ _ _ => true
  | .enm _, _ => false
  | .zp _, .Tuple _ _ _ => true
  | .zp _, _ => false
  | _, _ => true
section
variable (T : Nm) (N : List Str)
mutual
def mG (sc : Ks) : MT → Expr → Bool
  | .nm i, e => match e with
    | .Name x _ => decide (N[i]? = some x) && (match sc.lookup x with | some .local => true | some .cell => true | _ => false)
    | _ => false
  | .tp ts, e => match e with
    | .Tuple es _ _ => mGs sc ts es
    | _ => false
def mGs (sc : Ks) : List MT → List Expr → Bool
  | [], [] => true
  | t :: ts, e :: es => mG sc t e && mGs sc ts es
  | _, _ => false
end
mutual
def mE (sc : Ks) : ME → Expr → Bool
  | .var i, e => match e with
    | .Name x _ => decide (N[i]? = some x) && visK (sc.lookup x) && okN x
    | _ => false
  | .cst d, e => match e with
    | .Constant c _ _ => cstOk d c
    | _ => false
  | .glo j, e => match e with
    | .Name x _ => decide (T.gcs.lookup j = some x) && glK sc x && okN x
    | _ => false
  | .bin o a b, e => match e with
    | .BinOp a' o' b' _ => decide (o = o') && mE sc a a' && mE sc b b'
    | _ => false
  | .neg a, e => match e with
    | .UnaryOp .USub a' _ => mE sc a a'
    | _ => false
  | .cmp o a b, e => match e with
    | .Compare a' [o'] [b'] _ => decide (o = o') && mE sc a a' && mE sc b b' && !(behindInMarks o b')
    | _ => false
  | .chn o p a b c, e => match e with
    | .Compare a' [o', p'] [b', c'] _ => decide (o = o') && decide (p = p') && mE sc a a' && mE sc b b' && mE sc c c' && !(lastMarks [o, p] [b', c'])
    | _ => false
  | .bop t es, e => match e with
    | .BoolOp o es' _ => andOr t o && mL sc es es' && !es.isEmpty
    | _ => false
  | .nt a, e => match e with
    | .UnaryOp .Not a' _ => mE sc a a'
    | _ => false
  | .ite c a b, e => match e with
    | .IfExp c' a' b' _ => mC sc c c' && mE sc a a' && mE sc b b'
    | _ => false
  | .lst es, e => match e with
    | .List es' _ => mL sc es es'
    | _ => false
  | .tup es, e => match e with
    | .Tuple es' _ _ => mL sc es es'
    | _ => false
  | .dct kvs, e => match e with
    | .Dict ks vs _ => mK sc kvs ks vs && decide (ks.length ≤ 15)
    | _ => false
  | .sub a i, e => match e with
    | .Subscript a' i' _ => mE sc a a' && mE sc i i' && !(isSlice i')
    | _ => false
  | .slc a lo hi, e => match e with
    | .Subscript a' (.Slice lo' hi' none _) _ => mE sc a a' && mO sc lo lo' && mO sc hi hi'
    | _ => false
  | .rev a, e => match e with
    | .Subscript a' (.Slice none none (some (.UnaryOp .USub (.Constant (.int j) _ _) _)) _) _ => mE sc a a' && decide (j = 1)
    | _ => false
  | .lit a, e => match e with
    | .Call (.Name x _) [.Call (.Attribute a' m ap) [] [] cp] [] _ => decide (x = "list") && glK sc x && decide (x ∈ T.bl) && decide (m = "items") && (ap.endLine == cp.line) && noSuper a' && mE sc a a'
    | _ => false
  | .lke a, e => match e with
    | .Call (.Name x _) [.Call (.Attribute a' m ap) [] [] cp] [] _ => decide (x = "list") && glK sc x && decide (x ∈ T.bl) && decide (m = "keys") && (ap.endLine == cp.line) && noSuper a' && mE sc a a'
    | _ => false
  | .isi a cs, e => match e with
    | .Call (.Name x _) [a', c'] ks _ => decide (x = "isinstance") && glK sc x && decide (x ∈ T.bl) && (mE sc a a' && !(isStar a')) && ks.isEmpty && (match cs with | [c] => tcOk T sc c c' | _ => false)
    | _ => false
  | .cal f es, e => match e with
    | .Call (.Name x _) es' ks _ => decide (T.fns.lookup f = some (x, es.length)) && glK sc x && okN x && mL sc es es' && ks.isEmpty
    | _ => false
  | .bl1 b a, e => match e with
    | .Call (.Name x _) [a'] ks _ => decide (x = b.name) && glK sc x && decide (x ∈ T.bl) && (mE sc a a' && !(isStar a')) && ks.isEmpty
    | _ => false
  | .rgv t a, e => match e with
    | .Call (.Name x _) [.Call (.Name y _) [a'] [] _] [] _ => decide (x = if t = true then Str.ofString "tuple" else Str.ofString "list") && glK sc x && decide (x ∈ T.bl) && decide (y = "range") && glK sc y && decide (y ∈ T.bl) && (mE sc a a' && !(isStar a'))
    | _ => false
  | .blt b es, e => match e with
    | .Call (.Name x _) es' ks _ => decide (x = b.name) && glK sc x && decide (x ∈ T.bl) && mL sc es es' && ks.isEmpty && !es.isEmpty
    | _ => false
  | .met m a es, e => match e with
    | .Call (.Attribute a' n apos) es' ks cpos => decide (n = m.name) && (apos.endLine == cpos.line) && noSuper a' && decide (es.length < 20) && mE sc a a' && mL sc es es' && ks.isEmpty
    | _ => false
  | .lcm elt tg it cs own, e => match e with
    | .ListComp elt' [⟨tg', it', ifs', as⟩] scope _ => decide (as = 0) && mE scope.names elt elt' && mG N scope.names tg tg' && mI sc it it' && mCo scope.names cs ifs' &&
        blkC N { kind := .function, names := sc, isGenerator := false, isCoroutine := false } scope (own.map fun i => (N.getD i "", i)) && (slotsT tg).all (fun i => decide (i ∈ own)) && tgOk it tg'
    | _ => false
  | .sc2 elt tg it cs tg1 it1 cs1 own own1, e => match e with
    | .SetComp elt' [⟨tg', it', ifs', as⟩, ⟨tg1', it1', ifs1', as1⟩] scope _ => decide (as = 0) && decide (as1 = 0) && mE scope.names elt elt' && mG N scope.names tg tg' && mI sc it it' && mCo scope.names cs ifs' && mG N scope.names tg1 tg1' && mI scope.names it1 it1' && mCo scope.names cs1 ifs1' &&
        blkC N { kind := .function, names := sc, isGenerator := false, isCoroutine := false } scope (own.map fun i => (N.getD i "", i)) && (slotsT tg).all (fun i => decide (i ∈ own)) && (slotsT tg1).all (fun i => decide (i ∈ own1)) && own1.all (fun i => decide (i ∈ own)) && tgOk it tg' && tgOk it1 tg1'
    | _ => false
  | .cel a, e => mE sc a e
  | .dead, _ => true
  | .stp a lo c, e => match e with
    | .Subscript a' (.Slice lo' none (some (.Constant (.int j) _ _)) _) _ => mE sc a a' && mO sc lo lo' && decide (j = c) && decide (c ≠ 0)
    | _ => false
  | .mk c es, e => match e with
    | .Call (.Name x _) es' ks _ => decide (T.mks.lookup c = some (x, es.length)) && glK sc x && okN x && mL sc es es' && ks.isEmpty
    | _ => false
  | .fld cs a n, e => match e with
    | .Attribute a' n' _ => decide (n = n') && mE sc a a' && noSuper a' && cs.all fun c => decide ((c, n) ∈ T.fls)
    | _ => false
  | .cam f c m a es, e => match e with
    | .Call (.Attribute a' n apos) es' ks cpos => decide (n = m) && decide (T.mts.lookup f = some (c, m, es.length)) && (apos.endLine == cpos.line) && noSuper a' && decide (es.length < 20) && mE sc a a' && mL sc es es' && ks.isEmpty
    | _ => false
  | .set0, e => match e with
    | .Call (.Name x _) [] [] _ => decide (x = "set") && glK sc x && decide (x ∈ T.bl)
    | _ => false
  | .spc k f c es, e => match e with
    | .Compare a [op] [b] _ => ((decide (op = .Eq) && decide (k = 0)) || (decide (op = .NotEq) && decide (k = 1))) && decide (T.mts.lookup f = some (c, Str.ofString "__eq__", 1)) && (T.mks.lookup c).isSome && mL sc es [a, b] && !(behindInMarks op b)
    | .Call (.Name x _) [a] ks _ => ks.isEmpty && glK sc x && okN x && decide (x ∈ T.bl) && mL sc es [a] && (T.mks.lookup c).isSome &&
        ((decide (k = 2) && decide (x = "len") && decide (T.mts.lookup f = some (c, Str.ofString "__len__", 0))) || (decide (k = 3) && decide (x = "str") && decide (T.mts.lookup f = some (c, Str.ofString "__str__", 0))) ||
         (decide (k = 4) && decide (x = "repr") && decide (T.mts.lookup f = some (c, Str.ofString "__repr__", 0))) || (decide (k = 5) && decide (x = "bool") && decide (T.mts.lookup f = some (c, Str.ofString "__len__", 0))))
    | _ => false
  | .fst es, e => match e with
    | .JoinedStr es' _ => mJ sc es es' && !es.isEmpty
    | _ => false
/-- the parts of an f-string -/
def mJ (sc : Ks) : List ME → List Expr → Bool
  | [], [] => true
  | m :: ms, e :: es => (match e with
    | .Constant (.str x) _ _ => (match m with | .cst (.str y) => decide (y = x) | _ => false) && mE sc m e
    | .FormattedValue e' c none _ => decide (c = -1) && mE sc m e'
    | _ => false) && mJ sc ms es
  | _, _ => false
/-- keys and values of a display -/
def mK (sc : Ks) : List ME → List (Option Expr) → List Expr → Bool
  | [], [], [] => true
  | [_], _, _ => false
  | k :: v :: r, some k' :: ks, v' :: vs => mE sc k k' && mE sc v v' && mK sc r ks vs
  | _, _, _ => false
def mL (sc : Ks) : List ME → List Expr → Bool
  | [], [] => true
  | m :: ms, e :: es => mE sc m e && !(isStar e) && mL sc ms es
  | _, _ => false
def mO (sc : Ks) : Option ME → Option Expr → Bool
  | none, none => true
  | some m, some e => mE sc m e
  | _, _ => false
def mC (sc : Ks) : MC → Expr → Bool
  | .val a, e => mE sc a e && (plainT e || spcC a e)
  | .cmp o a b, e => match e with
    | .Compare a' [o'] [b'] _ => decide (o = o') && mE sc a a' && mE sc b b' && !(behindInMarks o b')
    | _ => false
  | .chn o p a b c, e => match e with
    | .Compare a' [o', p'] [b', c'] _ => decide (o = o') && decide (p = p') && mE sc a a' && mE sc b b' && mE sc c c' && !(lastMarks [o, p] [b', c'])
    | _ => false
  | .bop t cs, e => match e with
    | .BoolOp o es' _ => andOr t o && mCs sc cs es' && !cs.isEmpty
    | _ => false
  | .nt c, e => match e with
    | .UnaryOp .Not a' _ => mC sc c a'
    | _ => false
def mCs (sc : Ks) : List MC → List Expr → Bool
  | [], [] => true
  | m :: ms, e :: es => mC sc m e && mCs sc ms es
  | _, _ => false
def mCo (sc : Ks) : Option MC → List Expr → Bool
  | none, [] => true
  | some m, [e] => mC sc m e
  | _, _ => false
def mI (sc : Ks) : MI → Expr → Bool
  | .seq a, e => mE sc a e && (match e with | .Set _ _ _ => false | _ => true)
  | .rng es, e => match e with
    | .Call (.Name x _) es' ks _ => decide (x = "range") && glK sc x && decide (x ∈ T.bl) && mL sc es es' && ks.isEmpty && decide (es.length ≤ 2)
    | _ => false
  | .zs es, e => match e with
    | .Call (.Name x _) es' [⟨some k, .Constant (.bool true) _ _, _⟩] _ => decide (x = "zip") && glK sc x && decide (x ∈ T.bl) && mL sc es es' && decide (k = "strict") && decide (es.length = 2)
    | _ => false
  | .enm a, e => match e with
    | .Call (.Name x _) [a'] [] _ => decide (x = "enumerate") && glK sc x && decide (x ∈ T.bl) && mE sc a a' && !(isStar a')
    | _ => false
  | .zp es, e => match e with
    | .Call (.Name x _) es' [] _ => decide (x = "zip") && glK sc x && decide (x ∈ T.bl) && mL sc es es' && decide (es.length = 2)
    | _ => false
end
def isLcm : ME → Bool
  | .lcm _ _ _ _ _ => true
  | _ => false
/-- a value that a name takes: a comprehension on the name's own row is another matter -/
inductive Sw where
  | no | lc
def swK (sc : Ks) (x : Str) (px : Pos) (m : ME) (e : Expr) : Option Sw := match e with
  | .ListComp _ [_] s p => (match sc.lookup x with
    | some .local => if isLcm m && (px.line == p.line) && !(s.names.any fun (n, k) => n == x && (k == .local || k == .cell)) then some .lc else none
    | some .cell => some .no
    | _ => none)
  | .ListComp _ _ _ _ => none
  | .SetComp _ _ _ _ => none
  | .DictComp _ _ _ _ _ => none
  | _ => some .no
def noComp : Expr → Bool
  | .ListComp _ _ _ _ => false
  | .SetComp _ _ _ _ => false
  | .DictComp _ _ _ _ _ => false
  | _ => true
def noTup : Expr → Bool
  | .Tuple _ _ _ => false
  | _ => true
def lineOf : Expr → Nat
  | .Name _ p => p.line
  | _ => 0
/-- a tuple of targets that are stored from the left -/
def leftOk (sc : Ks) (ts : List Expr) (e : Expr) : Bool := match e with
  | .Tuple vs _ _ => !(ts.length == 2 || ts.length == 3) || ts.any (fun t => match t with | .Name x _ => decide (sc.lookup x = some .cell) | _ => true)
  | _ => true
def mSlot (sc : Ks) (i : Nat) (x : Str) : Bool := decide (N[i]? = some x) && (match sc.lookup x with | some .local => true | some .cell => true | _ => false)
def mPar (sc : Ks) : List Nat → List Expr → Nat → Bool
  | [], [], _ => true
  | i :: is, e :: es, l => (match e with | .Name x p => decide (N[i]? = some x) && decide (sc.lookup x = some .local) && (p.line == l) | _ => false) && mPar sc is es l
  | _, _, _ => false
mutual
def mS (sc : Ks) : MS → Stmt → Bool
  | .asg t m, s => match s with
    | .Assign [tg] e _ => mG N sc t tg && mE T N sc m e && (match tg with
      | .Name x p => (swK sc x p m e).isSome
      | .Tuple ts _ _ => leftOk sc ts e && noComp e
      | _ => false)
    | _ => false
  | .par is ms, s => match s with
    | .Assign [.Tuple ts _ _] (.Tuple es _ _) _ => mL T N sc ms es && (ts.length == 2 || ts.length == 3) && (es.length == ts.length) && decide is.Nodup && mPar N sc is ts ((ts.head?.map lineOf).getD 0) && !(es.all (foldedForSure 8)) && !(es.all (constantsAlone 8))
    | _ => false
  | .parO i j m c, s => match s with
    | .Assign [.Tuple [.Name x p, .Name y q] _ _] (.Tuple [e1, e2] _ _) _ => mE T N sc m e1 && mE T N sc c e2 && !(isStar e1) && !(isStar e2) && decide (i ≠ j) && decide (N[i]? = some x) && decide (N[j]? = some y) && decide (sc.lookup x = some .local) && decide (sc.lookup y = some .local) && (q.line == p.line) &&
        !([e1, e2].all (foldedForSure 8)) && !([e1, e2].all (constantsAlone 8))
    | _ => false
  | .asO i m, s => match s with
    | .Assign [.Name x p] e _ => mSlot N sc i x && mE T N sc m e && (swK sc x p m e).isSome
    | _ => false
  | .asI o i m, s => match s with
    | .Assign [.Subscript o' i' _] e _ => mE T N sc o o' && mE T N sc i i' && !(isSlice i') && mE T N sc m e
    | .AnnAssign (.Subscript o' i' _) _ (some e) _ _ => mE T N sc o o' && mE T N sc i i' && !(isSlice i') && mE T N sc m e
    | _ => false
  | .asF cs o a m, s => match s with
    | .Assign [.Attribute o' a' _] e _ => decide (a = a') && mE T N sc o o' && mE T N sc m e && cs.all fun c => decide ((c, a) ∈ T.fls)
    | _ => false
  | .owM j m ms, s => match s with
    | .Expr (.Call (.Attribute (.Name x _) n apos) es ks cpos) _ => decide (n = m.name) && decide (N[j]? = some x) && visK (sc.lookup x) && okN x && (apos.endLine == cpos.line) && decide (ms.length < 20) && ks.isEmpty && mL T N sc ms es
    | _ => false
  | .ex m, s => match s with
    | .Expr e _ => mE T N sc m e && noComp e
    | _ => false
  | .ret m, s => match s with
    | .Return (some e) _ => mE T N sc m e
    | _ => false
  | .retO j, s => match s with
    | .Return (some (.Name x _)) _ => decide (N[j]? = some x) && visK (sc.lookup x) && okN x
    | _ => false
  | .rtN, s => match s with
    | .Return none _ => true
    | _ => false
  | .ife c a b, s => match s with
    | .If e a' b' _ => mC T N sc c e && mSs sc a a' && mSs sc b b'
    | _ => false
  | .for_ t it b, s => match s with
    | .For tg e b' els _ => mG N sc t tg && mI T N sc it e && mSs sc b b' && els.isEmpty && tgOk it tg
    | _ => false
  | .brk, s => match s with
    | .Break _ => true
    | _ => false
  | .cnt, s => match s with
    | .Continue _ => true
    | _ => false
  | .pas, s => match s with
    | .Pass _ => true
    | _ => false
  | .whl _ c b, s => match s with
    | .While e b' els _ => mC T N sc c e && mSs sc b b' && els.isEmpty
    | _ => false
  | .dead, _ => true
  | .ast ts m, s => match s with
    | .Assign [.Tuple (.Starred e0 _ :: es) _ _] e _ => mGs N sc ts (e0 :: es) && mE T N sc m e && noComp e && noTup e
    | _ => false
  | .beh t u m, s => match s with
    | .Assign [.Tuple [e0, .Starred e1 _] _ _] e _ => mGs N sc [t, u] [e0, e1] && mE T N sc m e && noComp e && noTup e
    | _ => false
  | .aug i m, s => match s with
    | .AugAssign (.Name x _) .Add e _ => mSlot N sc i x && mE T N sc m e
    | _ => false
  | .del o i, s => match s with
    | .Delete [.Subscript o' i' _] _ => mE T N sc o o' && mE T N sc i i' && !(isSlice i')
    | _ => false
  | .tryP b, s => match s with
    | .Try b' (_ :: _) [] [] _ => mSs sc b b'
    | _ => false
  | .gfz _, _ => false
  | .gcl _, _ => false
  | .glk _ _, _ => false
def mSs (sc : Ks) : List MS → List Stmt → Bool
  | [], [] => true
  | .gfz _ :: ms, ss => mSs sc ms ss
  | .gcl _ :: ms, ss => mSs sc ms ss
  | .glk _ _ :: ms, ss => mSs sc ms ss
  | m :: ms, s :: ss => mS sc m s && mSs sc ms ss
  | _, _ => false
end
end
end Mp


set_option Elab.async false
set_option linter.all false
set_option maxRecDepth 10000
/-! Contexts, promises, readings. -/
namespace Mp
open PySem PySem.Spec PyProof.Rows L2

def XR (G : Gd) (H : Hp) (W : ASet) (e : Ex) (c : Value) (d : Option Addr) : Prop := match e with
  | .own i fs => c = .ref (G.cls i) ∧ (if fs.isEmpty = true then d = none else ∃ dd es, d = some dd ∧ H dd = some (.xd es) ∧ DRf G H W fs es)
def XGood (G : Gd) (B : ASet) (ρ : List Addr) (W : ASet) (H : Hp) (S : List SV) (σ : L2.St) (e : Ex) (h' : Hs) (c : Value) (d : Option Addr) (H' : Hp) : Prop :=
  ∃ ρ' W', Ext B ρ W H ρ' W' H' ∧ RS G B ρ' h' S W' σ H' ∧ XR G H' W' e c d
def BGood (G : Gd) (B : ASet) (ρ : List Addr) (W : ASet) (H : Hp) (S : List SV) (σ : L2.St) (h' : Hs) (H' : Hp) : Prop :=
  ∃ ρ' W', Ext B ρ W H ρ' W' H' ∧ RS G B ρ' h' S W' σ H'
def RLGood (G : Gd) (B : ASet) (ρ : List Addr) (W : ASet) (H : Hp) (S : List SV) (σ : L2.St) (xs : List RV) (h' : Hs) (vs : List V) (H' : Hp) : Prop :=
  ∃ ρ' W', Ext B ρ W H ρ' W' H' ∧ RS G B ρ' h' S W' σ H' ∧ RVRs G H' W' B ρ' S σ xs vs
def uni (B : ASet) (ρ : List Addr) : ASet := fun a => B a ∨ a ∈ ρ
/-- a def's promise by its worth -/
def spF (G : Gd) (f : List AV → Hs → Res RV) (n : Nat) : Sp := fun vs H Q E => vs.length = n ∧ ∃ (B : ASet) (ρ : List Addr) (h : Hs) (as : List AV),
  RS G B ρ h [] (uni B ρ) [] H ∧ VRs G H (uni B ρ) ρ as vs ∧
  (f as h).ens (fun rv h' => ∀ v H', EGood G B ρ (uni B ρ) H [] [] rv h' v H' → Q v H') (fun e h' => ∀ c d H', XGood G B ρ (uni B ρ) H [] [] e h' c d H' → E c d H')
/-- a class's promise: its __init__ makes of a new instance what the class is worth -/
def spI (G : Gd) (c : Nat) (f : List AV → Hs → Res RV) (n : Nat) : Sp := fun vs H Q E => ∃ (x dx : Addr) (us : List V) (H0 : Hp) (B : ASet) (ρ : List Addr) (h : Hs) (as : List AV),
  vs = .ref x :: us ∧ us.length = n ∧ H0 x = none ∧ H0 dx = none ∧ dx ≠ x ∧ H = upd (upd H0 dx (.own x)) x (.ins (G.cls c) dx []) ∧
  RS G B ρ h [] (uni B ρ) [] H0 ∧ VRs G H0 (uni B ρ) ρ as us ∧
  (f as h).ens (fun rv h' => ∀ H', EGood G B ρ (uni B ρ) H0 [] [] rv h' (.ref x) H' → Q .non H') (fun e h' => ∀ c d H', XGood G B ρ (uni B ρ) H0 [] [] e h' c d H' → E c d H')
/-- a def at its place -/
def FnF (cls : Nat → Addr) (P : Program) (w : World) (K : PySem.W.Frag) (mg : Str → Option Value) (base : Heap) (k : Nat) (x : Str) (n : Nat) (f : List AV → Hs → Res RV) : Prop :=
  ∃ a fd ps, mg x = some (.ref a) ∧ PySem.W.keepIn K (.ref a) = true ∧ FnOk P w K mg base (L2.CX P w) k a fd ps (spF ⟨K, cls, P, w⟩ f n) ∧ Binds K fd ps []
/-- the special methods' names -/
def spN (m : Str) : Bool := decide (m ∈ ((["__eq__", "__len__", "__str__", "__repr__"] : List String).map Str.ofString))
/-- what of an own class is asked of its instances' tests -/
structure Ci (K : PySem.W.Frag) (C : Addr) : Prop where
  isC : C8.InsC K C
  ne : PySem.W.findIn K (.ref C) "__ne__" = some (some (.builtin "object.__ne__"))
  nb : PySem.W.findIn K (.ref C) "__bool__" = some none
  no : ∀ t ∈ bTys, PySem.W.kitOne K (.type t) (.ref C) = some false
  nm : ∀ t ∈ bTys, PySem.W.mroIn K C (.type t) = some false
def MkF (cls : Nat → Addr) (P : Program) (w : World) (K : PySem.W.Frag) (mg : Str → Option Value) (base : Heap) (k : Nat) (c : Nat) (x : Str) (n : Nat) (f : List AV → Hs → Res RV) : Prop :=
  ∃ a fd ps, mg x = some (.ref (cls c)) ∧ Mk K (cls c) a ∧ Ci K (cls c) ∧ FnOk P w K mg base (L2.CX P w) k a fd ps (spI ⟨K, cls, P, w⟩ c f n) ∧ Binds K fd ps []
def MtF (cls : Nat → Addr) (P : Program) (w : World) (K : PySem.W.Frag) (mg : Str → Option Value) (base : Heap) (k : Nat) (c : Nat) (m : Str) (n : Nat) (f : List AV → Hs → Res RV) : Prop :=
  ∃ a fd ps, Cls K (cls c) ∧ Meth K (cls c) m a ∧ FnOk P w K mg base (L2.CX P w) k a fd ps (spF ⟨K, cls, P, w⟩ f (n + 1)) ∧ Binds K fd ps []
/-- what a text's defs, classes and constants are, as the walk needs it -/
structure Fa (T : Nm) (F : Fn) (cls : Nat → Addr) (P : Program) (w : World) (K : PySem.W.Frag) (mg : Str → Option Value) (base : Heap) (A : Around) : Prop where
  bl : ∀ x ∈ T.bl, mg x = none
  gc : ∀ (j : Nat) x, T.gcs.lookup j = some x → ∃ u v, mg x = some u ∧ RelV v u ∧ ∀ H W, DR ⟨K, cls, P, w⟩ H W (F.gc j) v
  fn : ∀ (f : Nat) x n, T.fns.lookup f = some (x, n) → ∃ k, FnF cls P w K mg base k x n (F.fn f) ∧ Room k A
  ik : ∀ (c : Nat) x n, T.mks.lookup c = some (x, n) → ∃ k, MkF cls P w K mg base k c x n (F.ini c) ∧ Room (k + 1) A
  mt : ∀ (f c : Nat) m n, T.mts.lookup f = some (c, m, n) → ∃ k, MtF cls P w K mg base k c m n (F.mth f) ∧ Room k A ∧ (spN m = true → Room (k + 1) A)
  fl : ∀ (c : Nat) a, (c, a) ∈ T.fls → Cls K (cls c) ∧ NoAttr K (cls c) a
  un : A.units + 64 < cLine
structure OK (T : Nm) (F : Fn) (cls : Nat → Addr) (N : List Str) (sc : Ks) (XW : WX) (X : Cx) : Prop where
  fa : Fa T F cls X.prog X.w X.K X.mg X.base X.A
  eN : X.N = N
  nd : N.Nodup
  calm : X.calm = true
  kd : X.env.scope.kind = .function
  vl : ∀ x, sc.lookup x = some .local → X.env.scope.names.lookup x = some .local
  vc : ∀ x, sc.lookup x = some .cell → X.env.scope.names.lookup x = some .cell ∧ X.fn x = true
  vf : ∀ x, sc.lookup x = some .free → X.env.scope.names.lookup x = some .free ∨ X.env.scope.names.lookup x = some .cell
  vg : ∀ x, sc.lookup x = some .globalImplicit → X.env.scope.names.lookup x = some .globalImplicit
  tk : Takes X XW
  po : PassesOwn (model X.prog X.w) X.A X.env X.xe
theorem okN_1 {x : Str} (h : okN x = true) : (x == ("__debug__" : Str)) = false := by simp [okN] at h; simpa using h.1.1
theorem okN_2 {x : Str} (h : okN x = true) : (x == ("__classdict__" : Str)) = false := by simp [okN] at h; simpa using h.1.2
theorem okN_3 {x : Str} (h : okN x = true) : x ≠ "__name__" := by simp [okN] at h; exact h.2
section
variable {T : Nm} {F : Fn} {cls : Nat → Addr} {N : List Str} {sc : Ks} {XW : WX} {X : Cx}
theorem OK.vis (o : OK T F cls N sc XW X) {x : Str} (h : visK (sc.lookup x) = true) : Vis X.env.scope x := by
  unfold visK at h
  split at h
  · rename_i e; exact .inl (o.vl x e)
  · rename_i e; exact .inr (.inl (o.vc x e).1)
  · rename_i e
    rcases o.vf x e with e | e
    · exact .inr (.inr e)
    · exact .inr (.inl e)
  · cases h
theorem OK.gl (o : OK T F cls N sc XW X) {x : Str} (h : glK sc x = true) : Gl X x := o.vg x (by simpa [glK] using h)

/-! ### readings -/
def rdE (G : Gd) (F : Fn) (XW : WX) (m : ME) : TE := fun σ H Q => ∃ (B : ASet) (ρ : List Addr) (h : Hs) (S : List SV) (W : ASet), RS G B ρ h S W σ H ∧
  (evE F m S h).ens (fun rv h' => ∀ v H', EGood G B ρ W H S σ rv h' v H' → Q v H') (fun e h' => ∀ c d H', XGood G B ρ W H S σ e h' c d H' → XW c d σ H')
def rdT (G : Gd) (F : Fn) (XW : WX) (m : MC) : TT := fun σ H Q => ∃ (B : ASet) (ρ : List Addr) (h : Hs) (S : List SV) (W : ASet), RS G B ρ h S W σ H ∧
  (evT F m S h).ens (fun b h' => ∀ H', BGood G B ρ W H S σ h' H' → Q b H') (fun e h' => ∀ c d H', XGood G B ρ W H S σ e h' c d H' → XW c d σ H')
def rdL (G : Gd) (F : Fn) (XW : WX) (ms : List ME) : TA := fun σ H Q => ∃ (B : ASet) (ρ : List Addr) (h : Hs) (S : List SV) (W : ASet), RS G B ρ h S W σ H ∧
  (evL F ms S h).ens (fun xs h' => ∀ vs H', LGood G B ρ W H S σ xs h' vs H' → Q vs H') (fun e h' => ∀ c d H', XGood G B ρ W H S σ e h' c d H' → XW c d σ H')
def rdR (G : Gd) (F : Fn) (XW : WX) (ms : List ME) : TA := fun σ H Q => ∃ (B : ASet) (ρ : List Addr) (h : Hs) (S : List SV) (W : ASet), RS G B ρ h S W σ H ∧
  (evR F ms S h).ens (fun xs h' => ∀ vs H', RLGood G B ρ W H S σ xs h' vs H' → Q vs H') (fun e h' => ∀ c d H', XGood G B ρ W H S σ e h' c d H' → XW c d σ H')
def rdO (G : Gd) (F : Fn) (XW : WX) (m : Option ME) : TO := fun σ H Q => ∃ (B : ASet) (ρ : List Addr) (h : Hs) (S : List SV) (W : ASet), RS G B ρ h S W σ H ∧
  (evO F m S h).ens (fun i h' => ∀ H', BGood G B ρ W H S σ h' H' → Q i H') (fun e h' => ∀ c d H', XGood G B ρ W H S σ e h' c d H' → XW c d σ H')
/-- an iterator that yields the items -/
def ItOk (G : Gd) (J : It) (its : List AV) (src : Src) (ρ : List Addr) (W : ASet) (H : Hp) : Prop :=
  ∀ (B : ASet) (ρ2 : List Addr) (h2 : Hs) (S2 : List SV) (W2 : ASet) (σ2 : L2.St) (H2 : Hp), Ext B ρ W H ρ2 W2 H2 → RS G B ρ2 h2 S2 W2 σ2 H2 → SrcOk h2 src → ∀ i,
    (∀ x, its[i]? = some x → J.go i H2 ∧ ∀ v H3, J.yld i H2 v H3 → Ext B ρ2 W2 H2 ρ2 W2 H3 ∧ RS G B ρ2 h2 S2 W2 σ2 H3 ∧ VR G H3 W2 ρ2 x v) ∧ (its.length ≤ i → J.stop i H2)
def IGood (G : Gd) (B : ASet) (ρ : List Addr) (W : ASet) (H : Hp) (S : List SV) (σ : L2.St) (its : List AV) (src : Src) (h' : Hs) (J : It) (H' : Hp) : Prop :=
  ∃ ρ' W', Ext B ρ W H ρ' W' H' ∧ RS G B ρ' h' S W' σ H' ∧ ItOk G J its src ρ' W' H'
def rdI (G : Gd) (F : Fn) (XW : WX) (m : MI) : TI := fun σ H R => ∃ (B : ASet) (ρ : List Addr) (h : Hs) (S : List SV) (W : ASet), RS G B ρ h S W σ H ∧
  (evI F m S h).ens (fun p h' => ∀ J H', IGood G B ρ W H S σ p.1 p.2 h' J H' → R J H') (fun e h' => ∀ c d H', XGood G B ρ W H S σ e h' c d H' → XW c d σ H')
theorem PE.imp {e : Expr} {t t' : TE} (h : PE X e t) (k : ∀ σ H Q, t' σ H Q → t σ H Q) : PE X e t' := ⟨fun pins s σ H Q I q => h.run pins s σ H Q I (k _ _ _ q)⟩
theorem PT.imp {e : Expr} {t t' : TT} (h : PT X e t) (k : ∀ σ H Q, t' σ H Q → t σ H Q) : PT X e t' := ⟨fun pins s σ H Q I q => h.run pins s σ H Q I (k _ _ _ q)⟩
theorem PA.imp {e : List Expr} {t t' : TA} (h : PA X e t) (k : ∀ σ H Q, t' σ H Q → t σ H Q) : PA X e t' := ⟨fun pos pins s σ H Q I q => h.run pos pins s σ H Q I (k _ _ _ q)⟩
theorem PO.imp {e : Option Expr} {t t' : TO} (h : PO X e t) (k : ∀ σ H Q, t' σ H Q → t σ H Q) : PO X e t' := ⟨fun pins s σ H Q I q => h.run pins s σ H Q I (k _ _ _ q)⟩
theorem PI.imp {tg e : Expr} {t t' : TI} (h : PI X tg e t) (k : ∀ σ H Q, t' σ H Q → t σ H Q) : PI X tg e t' := ⟨fun pins s σ H Q I q => h.run pins s σ H Q I (k _ _ _ q)⟩
end
section
variable {G : Gd} {B : ASet} {ρ ρ' : List Addr} {W W' : ASet} {H H' H2 : Hp} {h' h2 : Hs} {S : List SV} {σ : L2.St}
theorem XGood.ext (bw : ∀ a, B a → W a) (x : Ext B ρ W H ρ' W' H') {e : Ex} {c : Value} {d : Option Addr} (g : XGood G B ρ' W' H' S σ e h2 c d H2) : XGood G B ρ W H S σ e h2 c d H2 := by
  obtain ⟨ρ2, W2, x2, R2, r2⟩ := g
  exact ⟨ρ2, W2, x.trans x2 bw, R2, r2⟩
theorem BGood.ext (bw : ∀ a, B a → W a) (x : Ext B ρ W H ρ' W' H') (g : BGood G B ρ' W' H' S σ h2 H2) : BGood G B ρ W H S σ h2 H2 := by
  obtain ⟨ρ2, W2, x2, R2⟩ := g
  exact ⟨ρ2, W2, x.trans x2 bw, R2⟩
theorem LGood.ext (bw : ∀ a, B a → W a) (x : Ext B ρ W H ρ' W' H') {xs : List AV} {vs : List V} (g : LGood G B ρ' W' H' S σ xs h2 vs H2) : LGood G B ρ W H S σ xs h2 vs H2 := by
  obtain ⟨ρ2, W2, x2, R2, r2⟩ := g
  exact ⟨ρ2, W2, x.trans x2 bw, R2, r2⟩
theorem RLGood.ext (bw : ∀ a, B a → W a) (x : Ext B ρ W H ρ' W' H') {xs : List RV} {vs : List V} (g : RLGood G B ρ' W' H' S σ xs h2 vs H2) : RLGood G B ρ W H S σ xs h2 vs H2 := by
  obtain ⟨ρ2, W2, x2, R2, r2⟩ := g
  exact ⟨ρ2, W2, x.trans x2 bw, R2, r2⟩
theorem IGood.ext (bw : ∀ a, B a → W a) (x : Ext B ρ W H ρ' W' H') {its : List AV} {src : Src} {J : It} (g : IGood G B ρ' W' H' S σ its src h2 J H2) : IGood G B ρ W H S σ its src h2 J H2 := by
  obtain ⟨ρ2, W2, x2, R2, r2⟩ := g
  exact ⟨ρ2, W2, x.trans x2 bw, R2, r2⟩
end
end Mp


set_option Elab.async false
set_option linter.all false
set_option maxRecDepth 10000
set_option maxHeartbeats 1000000
/-! Each expression does what it is worth. -/
namespace Mp
open PySem PySem.Spec PyProof.Rows L2
section
variable {T : Nm} {F : Fn} {cls : Nat → Addr} {N : List Str} {sc : Ks} {XW : WX} {X : Cx}
abbrev gX (X : Cx) (cls : Nat → Addr) : Gd := ⟨X.K, cls, X.prog, X.w⟩
theorem star_no {e : Expr} (h : isStar e = false) (es : List Expr) (env : Env) : starEach (e :: es) env = (false, eval e env) :: starEach es env := by
  cases e <;> first | rfl | (simp [isStar] at h)
theorem mL_star {ms : List ME} {es : List Expr} (h : mL T N sc ms es = true) : ∀ e ∈ es, isStar e = false := by
  induction ms generalizing es with
  | nil => cases es with
    | nil => simp
    | cons _ _ => simp [mL] at h
  | cons m ms ih => cases es with
    | nil => simp [mL] at h
    | cons e es =>
      simp only [mL, Bool.and_eq_true, Bool.not_eq_true'] at h
      intro x hx
      rcases List.mem_cons.mp hx with rfl | hx
      · exact h.1.2
      · exact ih h.2 x hx
theorem starEach_ns : ∀ {es : List Expr} (env : Env), (∀ e ∈ es, isStar e = false) → starEach es env = es.map fun e => (false, eval e env)
  | [], _, _ => rfl
  | e :: es, env, h => by
    rw [star_no (h e List.mem_cons_self), starEach_ns env fun x hx => h x (List.mem_cons_of_mem _ hx)]
    rfl
theorem mL_len {ms : List ME} {es : List Expr} (h : mL T N sc ms es = true) : ms.length = es.length := by
  induction ms generalizing es with
  | nil => cases es with
    | nil => rfl
    | cons _ _ => simp [mL] at h
  | cons m ms ih => cases es with
    | nil => simp [mL] at h
    | cons e es =>
      simp only [mL, Bool.and_eq_true] at h
      simp [ih h.2]
theorem any_star {es : List Expr} (env : Env) (pos : Pos) (h : ∀ e ∈ es, isStar e = false) : (backTo pos (starEach es env)).any (·.1) = false := by
  rw [starEach_ns env h]
  simp [backTo]
theorem all_star {es : List Expr} (env : Env) (pos : Pos) (h : ∀ e ∈ es, isStar e = false) : (backTo pos (starEach es env)).all (fun x => !x.1) = true := by
  rw [starEach_ns env h]
  simp [backTo]
theorem is_plain {e : Expr} (h : plainT e = true) (env : Env) : ∀ whole, isTrue e env whole = (do let v ← whole; standAt e.pos; holding [v] (truthy v)) := by
  intro whole
  cases e <;> first | rfl | (simp [plainT] at h; done) | skip
  rename_i op _ _
  cases op <;> first | rfl | (simp [plainT] at h)
theorem base_plain {e : Expr} (h : noSuper e = true) (attr : Str) (env : Env) (whole : Sem Value) : attributeBase e attr env whole = whole := by
  unfold attributeBase
  split
  · rename_i id _ _
    simp only [noSuper, Bool.not_eq_true', beq_eq_false_iff_ne, ne_eq] at h
    rw [if_pos (by simp [h])]
  · rfl

/-! ### one lemma a construct -/
theorem st_var (o : OK T F cls N sc XW X) {i : Nat} {x : Str} {pos : Pos} (h1 : N[i]? = some x) (h2 : visK (sc.lookup x) = true) (h3 : okN x = true) : PE X (.Name x pos) (rdE (gX X cls) F XW (.var i)) := by
  refine PE.imp (pe_var (i := i) (by rw [o.eN]; exact h1) (o.vis h2) (okN_1 h3) (okN_2 h3)) fun σ H Q q => ?_
  obtain ⟨B, ρ, h, S, W, R, q⟩ := q
  simp only [evE] at q
  split at q
  · rename_i a e
    obtain ⟨u, hu, v, rfl, r⟩ := R.sl i _ e
    exact ⟨v, hu, q _ _ (good_v R r)⟩
  · rename_i c e
    obtain ⟨u, hu, a, rfl, _⟩ := R.sl i _ e
    exact ⟨.ref a, hu, q _ _ ⟨ρ, W, Ext.refl, R, e, hu⟩⟩
  · exact q.elim
theorem st_cst {d : D} {c : Const} {k : Nat} {pos : Pos} (h : cstOk d c = true) : PE X (.Constant c k pos) (rdE (gX X cls) F XW (.cst d)) := by
  unfold cstOk at h
  split at h
  · exact PE.imp pe_non fun σ H Q q => by
      obtain ⟨B, ρ, h, S, W, R, q⟩ := q
      exact q _ _ (good_non R)
  · rw [beq_iff_eq] at h
    subst h
    exact PE.imp pe_bl fun σ H Q q => by
      obtain ⟨B, ρ, h, S, W, R, q⟩ := q
      exact q _ _ (good_bl R _)
  · rw [beq_iff_eq] at h
    subst h
    exact PE.imp pe_int fun σ H Q q => by
      obtain ⟨B, ρ, h, S, W, R, q⟩ := q
      exact q _ _ (good_int R _)
  · have h := of_decide_eq_true h
    subst h
    exact PE.imp pe_str fun σ H Q q => by
      obtain ⟨B, ρ, h, S, W, R, q⟩ := q
      exact q _ _ (good_str R _)
  · cases h
theorem st_glo (o : OK T F cls N sc XW X) {j : Nat} {x : Str} {pos : Pos} (h1 : T.gcs.lookup j = some x) (h2 : glK sc x = true) (h3 : okN x = true) : PE X (.Name x pos) (rdE (gX X cls) F XW (.glo j)) := by
  obtain ⟨u, w, m, r, q⟩ := o.fa.gc j x h1
  refine PE.imp (pe_glob (o.gl h2) m r (okN_1 h3)) fun σ H Q hq => ?_
  obtain ⟨B, ρ, h, S, W, R, hq⟩ := hq
  exact hq _ _ (good_v R (by simp only [VR]; exact q H W))
/-- from one result to the next -/
theorem two {ma mb : ME} {f : Hs → RV → RV → Option RV} {σ : L2.St} {H : Hp} {Q : VK}
    (q : ∃ (B : ASet) (ρ : List Addr) (h : Hs) (S : List SV) (W : ASet), RS (gX X cls) B ρ h S W σ H ∧
      ((evE F ma S h).bind fun x h1 => (ho1 x h1).bind fun x h1 => (evE F mb S h1).bind fun y h2 => ok1 (f h2 x y) h2).ens (fun rv h' => ∀ v H', EGood (gX X cls) B ρ W H S σ rv h' v H' → Q v H') (fun e h' => ∀ c d H', XGood (gX X cls) B ρ W H S σ e h' c d H' → XW c d σ H')) :
    tOp (r2 (gX X cls) f) (rdE (gX X cls) F XW ma) (rdE (gX X cls) F XW mb) σ H Q := by
  obtain ⟨B, ρ, h, S, W, R, q⟩ := q
  simp only [ens_bind] at q
  refine ⟨B, ρ, h, S, W, R, ens_mono q fun x h1 q v H1 g => ?_⟩
  obtain ⟨y, ey, q⟩ := ens_ok1 q
  obtain ⟨ρ1, W1, x1, R1, r1⟩ := g.hold ey R.base
  refine ⟨B, ρ1, h1, S, W1, R1, ?_⟩
  have k := ens_mono (P' := fun z h2 => ∀ u H2, EGood (gX X cls) B ρ1 W1 H1 S σ z h2 u H2 → r2 (gX X cls) f v u H2 Q) q fun z h2 q u H2 g2 => by
    obtain ⟨ρ2, W2, x2, R2, r2⟩ := g2
    obtain ⟨rv, ef, q⟩ := ens_ok1 q
    refine ⟨B, ρ2, h2, S, W2, σ, y, z, rv, R2, RVR.hold x2 (hold_hold ey) r1, r2, ef, fun v' H' g' => q v' H' ?_⟩
    exact (g'.ext R1.base x2).ext R.base x1
  revert k
  cases (evE F mb S h1) with
  | ok z h2 => exact fun k => k
  | exc e h2 => exact fun k c d H' g => k c d H' (g.ext R.base x1)
  | bad => exact fun k => k
theorem st_bin (o : OK T F cls N sc XW X) {op : Operator} {a b : Expr} {ma mb : ME} {pos : Pos} (ha : PE X a (rdE (gX X cls) F XW ma)) (hb : PE X b (rdE (gX X cls) F XW mb)) : PE X (.BinOp a op b pos) (rdE (gX X cls) F XW (.bin op ma mb)) := by
  refine PE.imp (pe_op (op_bin (cls := cls) op) ha hb) fun σ H Q q => two ?_
  exact q
theorem st_cmp (o : OK T F cls N sc XW X) {op : CmpOp} {a b : Expr} {ma mb : ME} {pos : Pos} (hm : behindInMarks op b = false) (ha : PE X a (rdE (gX X cls) F XW ma)) (hb : PE X b (rdE (gX X cls) F XW mb)) : PE X (.Compare a [op] [b] pos) (rdE (gX X cls) F XW (.cmp op ma mb)) := by
  refine PE.imp (pe_cmpR (op_cop (cls := cls) o.fa.un op) ha hb hm) fun σ H Q q => two ?_
  exact q
theorem st_sub (o : OK T F cls N sc XW X) {a b : Expr} {ma mb : ME} {pos : Pos} (hs : isSlice b = false) (ha : PE X a (rdE (gX X cls) F XW ma)) (hb : PE X b (rdE (gX X cls) F XW mb)) : PE X (.Subscript a b pos) (rdE (gX X cls) F XW (.sub ma mb)) := by
  have hp : PlainIx b := fun o i => by cases b <;> first | rfl | (simp [isSlice] at hs)
  refine PE.imp (pe_ix (ix_sub (cls := cls) o.fa.un) ha hb hp) fun σ H Q q => two ?_
  exact q
theorem good_db {B : ASet} {ρ : List Addr} {h : Hs} {S : List SV} {W : ASet} {σ : L2.St} {H H' : Hp} {b : Bool} {v : V} {G : Gd} (g : EGood G B ρ W H S σ (db b) h v H') : v = .bl b ∧ BGood G B ρ W H S σ h H' := by
  obtain ⟨ρ', W', x, R, r⟩ := g
  simp only [RVR, VR, DR] at r
  exact ⟨r, ρ', W', x, R⟩
theorem tt_cmp (o : OK T F cls N sc XW X) {op : CmpOp} {a b : Expr} {ma mb : ME} {pos : Pos} (hm : behindInMarks op b = false) (ha : PE X a (rdE (gX X cls) F XW ma)) (hb : PE X b (rdE (gX X cls) F XW mb)) : PT X (.Compare a [op] [b] pos) (rdT (gX X cls) F XW (.cmp op ma mb)) := by
  refine PT.imp (pt_cmpR (op_cop (cls := cls) o.fa.un op) ha hb hm) fun σ H Q q => two ?_
  obtain ⟨B, ρ, h, S, W, R, q⟩ := q
  refine ⟨B, ρ, h, S, W, R, ?_⟩
  simp only [evT, ens_bind] at q ⊢
  refine ens_mono q fun x h1 q => ens_mono q fun x h1 q => ens_mono q fun y h2 q => ?_
  obtain ⟨b, e, q⟩ := ens_ok1 q
  rw [e]
  intro v H' g
  obtain ⟨rfl, g'⟩ := good_db g
  exact ⟨b, rfl, q H' g'⟩
theorem st_neg (o : OK T F cls N sc XW X) {a : Expr} {ma : ME} {pos : Pos} (ha : PE X a (rdE (gX X cls) F XW ma)) : PE X (.UnaryOp .USub a pos) (rdE (gX X cls) F XW (.neg ma)) := by
  refine PE.imp (pe_un un_neg ha) fun σ H Q q => ?_
  obtain ⟨B, ρ, h, S, W, R, q⟩ := q
  simp only [evE, ens_bind] at q
  refine ⟨B, ρ, h, S, W, R, ens_mono q fun x h1 q v H1 g => ?_⟩
  split at q
  · obtain ⟨ρ1, W1, x1, R1, r1⟩ := g
    simp only [RVR, VR, DR] at r1
    subst r1
    exact ⟨_, rfl, q _ _ ⟨ρ1, W1, x1, R1, by simp only [RVR, VR, DR]⟩⟩
  · exact q.elim
theorem st_lst (o : OK T F cls N sc XW X) {es : List Expr} {ms : List ME} {pos : Pos} (ha : PA X es (rdL (gX X cls) F XW ms)) : PE X (.List es pos) (rdE (gX X cls) F XW (.lst ms)) := by
  refine PE.imp (pe_lst ha) fun σ H Q q => ?_
  obtain ⟨B, ρ, h, S, W, R, q⟩ := q
  simp only [evE, ens_bind] at q
  refine ⟨B, ρ, h, S, W, R, ens_mono q fun xs h1 q vs H1 g => ?_⟩
  obtain ⟨ρ1, W1, x1, R1, r1⟩ := g
  split at q
  · rename_i hz
    exact ⟨by rw [← r1.length]; exact hz, fun p hp => q _ _ ((good_lst R1 hp r1).ext R.base x1)⟩
  · exact q.elim
theorem st_tup (o : OK T F cls N sc XW X) {es : List Expr} {ms : List ME} {k : Nat} {pos : Pos} (ha : PA X es (rdL (gX X cls) F XW ms)) : PE X (.Tuple es k pos) (rdE (gX X cls) F XW (.tup ms)) := by
  refine PE.imp (pe_tup ha) fun σ H Q q => ?_
  obtain ⟨B, ρ, h, S, W, R, q⟩ := q
  simp only [evE, ens_bind] at q
  refine ⟨B, ρ, h, S, W, R, ens_mono q fun xs h1 q vs H1 g => ?_⟩
  obtain ⟨ρ1, W1, x1, R1, r1⟩ := g
  split at q
  · rename_i hz
    exact ⟨by rw [← r1.length]; exact hz, fun p hp => q _ _ ((good_tup R1 hp r1).ext R.base x1)⟩
  · exact q.elim
theorem sl_nil : PA X [] (rdL (gX X cls) F XW []) := by
  refine PA.imp pa_nil fun σ H Q q => ?_
  obtain ⟨B, ρ, h, S, W, R, q⟩ := q
  exact q [] H ⟨ρ, W, Ext.refl, R, by simp only [VRs]⟩
theorem sl_cons {e : Expr} {es : List Expr} {m : ME} {ms : List ME} (hs : isStar e = false) (ha : PE X e (rdE (gX X cls) F XW m)) (hb : PA X es (rdL (gX X cls) F XW ms)) : PA X (e :: es) (rdL (gX X cls) F XW (m :: ms)) := by
  refine PA.imp (pa_cons ha hb (star_no hs es X.env)) fun σ H Q q => ?_
  obtain ⟨B, ρ, h, S, W, R, q⟩ := q
  simp only [evL, ens_bind] at q
  refine ⟨B, ρ, h, S, W, R, ens_mono q fun x h1 q v H1 g => ?_⟩
  obtain ⟨y, ey, q⟩ := ens_ok1 q
  obtain ⟨ρ1, W1, x1, R1, r1⟩ := g.toV ey R.base
  refine ⟨B, ρ1, h1, S, W1, R1, ?_⟩
  have k := ens_mono (P' := fun ys h2 => ∀ us H2, LGood (gX X cls) B ρ1 W1 H1 S σ ys h2 us H2 → Q (v :: us) H2) q fun ys h2 q us H2 g2 => by
    obtain ⟨ρ2, W2, x2, R2, r2⟩ := g2
    refine q _ _ ⟨ρ2, W2, x1.trans x2 R.base, R2, ?_⟩
    simp only [VRs]
    exact ⟨v, us, rfl, VR.mv x2.sub x2.pre _ _ r1, r2⟩
  revert k
  cases (evL F ms S h1) with
  | ok z h2 => exact fun k => k
  | exc e h2 => exact fun k c d H' g => k c d H' (g.ext R.base x1)
  | bad => exact fun k => k
theorem sr_nil : PA X [] (rdR (gX X cls) F XW []) := by
  refine PA.imp pa_nil fun σ H Q q => ?_
  obtain ⟨B, ρ, h, S, W, R, q⟩ := q
  exact q [] H ⟨ρ, W, Ext.refl, R, by simp only [RVRs]⟩
theorem sr_cons {e : Expr} {es : List Expr} {m : ME} {ms : List ME} (hs : isStar e = false) (ha : PE X e (rdE (gX X cls) F XW m)) (hb : PA X es (rdR (gX X cls) F XW ms)) : PA X (e :: es) (rdR (gX X cls) F XW (m :: ms)) := by
  refine PA.imp (pa_cons ha hb (star_no hs es X.env)) fun σ H Q q => ?_
  obtain ⟨B, ρ, h, S, W, R, q⟩ := q
  simp only [evR, ens_bind] at q
  refine ⟨B, ρ, h, S, W, R, ens_mono q fun x h1 q v H1 g => ?_⟩
  obtain ⟨y, ey, q⟩ := ens_ok1 q
  obtain ⟨ρ1, W1, x1, R1, r1⟩ := g.hold ey R.base
  refine ⟨B, ρ1, h1, S, W1, R1, ?_⟩
  have k := ens_mono (P' := fun ys h2 => ∀ us H2, RLGood (gX X cls) B ρ1 W1 H1 S σ ys h2 us H2 → Q (v :: us) H2) q fun ys h2 q us H2 g2 => by
    obtain ⟨ρ2, W2, x2, R2, r2⟩ := g2
    refine q _ _ ⟨ρ2, W2, x1.trans x2 R.base, R2, ?_⟩
    simp only [RVRs]
    exact ⟨v, us, rfl, RVR.hold x2 (hold_hold ey) r1, r2⟩
  revert k
  cases (evR F ms S h1) with
  | ok z h2 => exact fun k => k
  | exc e h2 => exact fun k c d H' g => k c d H' (g.ext R.base x1)
  | bad => exact fun k => k
theorem so_none : PO X none (rdO (gX X cls) F XW none) := by
  refine PO.imp po_none fun σ H Q q => ?_
  obtain ⟨B, ρ, h, S, W, R, q⟩ := q
  exact q H ⟨ρ, W, Ext.refl, R⟩
theorem so_some {e : Expr} {m : ME} (ha : PE X e (rdE (gX X cls) F XW m)) : PO X (some e) (rdO (gX X cls) F XW (some m)) := by
  refine PO.imp (po_some ha) fun σ H Q q => ?_
  obtain ⟨B, ρ, h, S, W, R, q⟩ := q
  simp only [evO, ens_bind] at q
  refine ⟨B, ρ, h, S, W, R, ens_mono q fun x h1 q v H1 g => ?_⟩
  split at q
  · obtain ⟨ρ1, W1, x1, R1, r1⟩ := g
    simp only [RVR, VR, DR] at r1
    subst r1
    exact ⟨_, rfl, q _ ⟨ρ1, W1, x1, R1⟩⟩
  · exact q.elim
end
end Mp


set_option Elab.async false
set_option linter.all false
set_option maxRecDepth 10000
set_option maxHeartbeats 1000000
/-! Each expression does what it is worth: more constructs. -/
namespace Mp
open PySem PySem.Spec PyProof.Rows L2
section
variable {T : Nm} {F : Fn} {cls : Nat → Addr} {N : List Str} {sc : Ks} {XW : WX} {X : Cx}
/-- a step: what is wished of a part, seen from the whole -/
theorem ens_ext {α : Type} {r : Res α} {P P' : α → Hs → Prop} {E E' : Ex → Hs → Prop} (h : r.ens P E) (k : ∀ a h, P a h → P' a h) (k' : ∀ e h, E e h → E' e h) : r.ens P' E' := by
  cases r with
  | ok a g => exact k a g h
  | exc e g => exact k' e g h
  | bad => exact h
theorem chn_val (o : OK T F cls N sc XW X) {p p' : CmpOp} {a b c : Expr} {ma mb mc : ME} (hb : PE X b (rdE (gX X cls) F XW mb)) {σ : L2.St} {H : Hp} {Qt : Bool → Hp → Prop}
    (q : ∃ (B : ASet) (ρ : List Addr) (h : Hs) (S : List SV) (W : ASet), RS (gX X cls) B ρ h S W σ H ∧
      (evT F (.chn p p' ma mb mc) S h).ens (fun b h' => ∀ H', BGood (gX X cls) B ρ W H S σ h' H' → Qt b H') (fun e h' => ∀ c d H', XGood (gX X cls) B ρ W H S σ e h' c d H' → XW c d σ H')) :
    tChain (r2 (gX X cls) fun h a b => (cop h p a b).map db) (r2 (gX X cls) fun h a b => (cop h p' a b).map db) (rdE (gX X cls) F XW ma) (rdE (gX X cls) F XW mb) (rdE (gX X cls) F XW mc) σ H fun z H' => ∃ k, z = .bl k ∧ Qt k H' := by
  obtain ⟨B, ρ, h, S, W, R, q⟩ := q
  simp only [evT, ens_bind] at q
  refine ⟨B, ρ, h, S, W, R, ens_mono q fun x h1 q v H1 g => ?_⟩
  obtain ⟨y, ey, q⟩ := ens_ok1 q
  obtain ⟨ρ1, W1, x1, R1, r1⟩ := g.hold ey R.base
  refine ⟨B, ρ1, h1, S, W1, R1, ens_ext q (fun z h2 q u H2 g2 => ?_) fun e h' k c d H' g => k c d H' (g.ext R.base x1)⟩
  obtain ⟨z', ez, q⟩ := ens_ok1 q
  obtain ⟨ρ2, W2, x2, R2, r2'⟩ := g2.hold ez R1.base
  obtain ⟨k, ek, q⟩ := ens_ok1 q
  refine ⟨B, ρ2, h2, S, W2, σ, y, z', db k, R2, RVR.hold x2 (hold_hold ey) r1, r2', by simp only [ek, Option.map_some], fun v' H' g' => ?_⟩
  obtain ⟨rfl, ρ3, W3, x3, R3⟩ := good_db g'
  have x13 := (x1.trans x2 R.base).trans x3 R.base
  refine ⟨k, rfl, ?_⟩
  split at q
  · rename_i hk
    rw [if_pos hk]
    simp only [ens_bind] at q
    refine ⟨B, ρ3, h2, S, W3, R3, ens_ext q (fun w h4 q v4 H4 g4 => ?_) fun e h' k c d H' g => k c d H' (g.ext R.base x13)⟩
    obtain ⟨ρ4, W4, x4, R4, r4⟩ := g4
    obtain ⟨k2, ek2, q⟩ := ens_ok1 q
    refine ⟨B, ρ4, h4, S, W4, σ, z', w, db k2, R4, RVR.hold (x3.trans x4 R2.base) (hold_hold ez) r2', r4, by simp only [ek2, Option.map_some], fun v' H' g' => ?_⟩
    obtain ⟨rfl, g5⟩ := good_db g'
    exact ⟨k2, rfl, q _ ((g5.ext R3.base x4).ext R.base x13)⟩
  · rename_i hk
    rw [if_neg hk]
    exact ⟨false, rfl, q _ ⟨ρ3, W3, x13, R3⟩⟩
theorem chn_ev {p p' : CmpOp} {ma mb mc : ME} {S : List SV} {h : Hs} : evE F (.chn p p' ma mb mc) S h = (evT F (.chn p p' ma mb mc) S h).bind fun b h' => .ok (db b) h' := by
  simp only [evE, evT]
  cases evE F ma S h with
  | ok x h1 =>
    simp only [Res.bind_ok]
    cases ho1 x h1 with
    | ok x h1 =>
      simp only [Res.bind_ok]
      cases evE F mb S h1 with
      | ok y h2 =>
        simp only [Res.bind_ok]
        cases ho1 y h2 with
        | ok y h2 =>
          simp only [Res.bind_ok]
          cases cop h2 p x y with
          | none => rfl
          | some k =>
            simp only [ok1_some, Res.bind_ok]
            split
            · cases evE F mc S h2 with
              | ok z h4 =>
                simp only [Res.bind_ok]
                cases cop h4 p' y z <;> rfl
              | exc e h => rfl
              | bad => rfl
            · rfl
        | exc e h => rfl
        | bad => rfl
      | exc e h => rfl
      | bad => rfl
    | exc e h => rfl
    | bad => rfl
  | exc e h => rfl
  | bad => rfl
theorem db_good {B : ASet} {ρ : List Addr} {h : Hs} {S : List SV} {W : ASet} {σ : L2.St} {H H' : Hp} {b : Bool} {G : Gd} (g : BGood G B ρ W H S σ h H') : EGood G B ρ W H S σ (db b) h (.bl b) H' := by
  obtain ⟨ρ', W', x, R⟩ := g
  exact ⟨ρ', W', x, R, by simp only [RVR, VR, DR]⟩
theorem st_chn (o : OK T F cls N sc XW X) {p p' : CmpOp} {a b c : Expr} {ma mb mc : ME} {pos : Pos} (hm : lastMarks [p, p'] [b, c] = false) (ha : PE X a (rdE (gX X cls) F XW ma)) (hb : PE X b (rdE (gX X cls) F XW mb)) (hc : PE X c (rdE (gX X cls) F XW mc)) :
    PE X (.Compare a [p, p'] [b, c] pos) (rdE (gX X cls) F XW (.chn p p' ma mb mc)) := by
  refine PE.imp (pe_chain (op_cop (cls := cls) o.fa.un p) (op_cop (cls := cls) o.fa.un p') ha hb hc hm) fun σ H Q q => ?_
  obtain ⟨B, ρ, h, S, W, R, q⟩ := q
  rw [chn_ev, ens_bind] at q
  have t := chn_val (a := a) (c := c) o hb (Qt := fun k H' => Q (.bl k) H') ⟨B, ρ, h, S, W, R, ens_mono q fun b h' q H' g => q _ _ (db_good g)⟩
  have e : (fun (z : V) (H' : Hp) => ∃ k, z = V.bl k ∧ Q (.bl k) H') = fun z H' => ∃ k, z = V.bl k ∧ Q z H' := by
    funext z H'
    apply propext
    constructor
    · rintro ⟨k, rfl, q⟩; exact ⟨k, rfl, q⟩
    · rintro ⟨k, rfl, q⟩; exact ⟨k, rfl, q⟩
  revert t
  simp only [tChain]
  intro t
  obtain ⟨B1, ρ1, h1, S1, W1, R1, q1⟩ := t
  refine ⟨B1, ρ1, h1, S1, W1, R1, ens_mono q1 fun x h2 q v H1 g => ?_⟩
  obtain ⟨B2, ρ2, h2, S2, W2, R2, q2⟩ := q v H1 g
  refine ⟨B2, ρ2, h2, S2, W2, R2, ens_mono q2 fun x h2 q v H1 g => ?_⟩
  obtain ⟨B3, ρ3, h3, S3, W3, σ3, a3, b3, rv3, R3, ra3, rb3, e3, q3⟩ := q v H1 g
  refine ⟨B3, ρ3, h3, S3, W3, σ3, a3, b3, rv3, R3, ra3, rb3, e3, fun v H' g => ?_⟩
  obtain ⟨k, ek, q4⟩ := q3 v H' g
  refine ⟨k, ek, ?_⟩
  split
  · rename_i hk
    rw [if_pos hk] at q4
    obtain ⟨B4, ρ4, h4, S4, W4, R4, q5⟩ := q4
    refine ⟨B4, ρ4, h4, S4, W4, R4, ens_mono q5 fun x h2 q v H1 g => ?_⟩
    obtain ⟨B5, ρ5, h5, S5, W5, σ5, a5, b5, rv5, R5, ra5, rb5, e5, q6⟩ := q v H1 g
    refine ⟨B5, ρ5, h5, S5, W5, σ5, a5, b5, rv5, R5, ra5, rb5, e5, fun v H' g => ?_⟩
    obtain ⟨k, ek, q7⟩ := q6 v H' g
    rw [ek]
    exact q7
  · rename_i hk
    rw [if_neg hk] at q4
    obtain ⟨k', ek', q5⟩ := q4
    rw [ek']
    exact q5
theorem tt_chn (o : OK T F cls N sc XW X) {p p' : CmpOp} {a b c : Expr} {ma mb mc : ME} {pos : Pos} (hm : lastMarks [p, p'] [b, c] = false) (ha : PE X a (rdE (gX X cls) F XW ma)) (hb : PE X b (rdE (gX X cls) F XW mb)) (hc : PE X c (rdE (gX X cls) F XW mc)) :
    PT X (.Compare a [p, p'] [b, c] pos) (rdT (gX X cls) F XW (.chn p p' ma mb mc)) :=
  PT.imp (pt_chain (op_cop (cls := cls) o.fa.un p) (op_cop (cls := cls) o.fa.un p') ha hb hc hm) fun σ H Q q => chn_val (a := a) (c := c) o hb q
theorem asB_ok {r : RV} {h : Hs} {P : Bool → Hs → Prop} {E : Ex → Hs → Prop} (e : (asB r h).ens P E) : ∃ b, r = db b ∧ P b h := by
  unfold asB at e
  split at e
  · exact ⟨_, rfl, e⟩
  · exact e.elim
theorem st_nt (o : OK T F cls N sc XW X) {a : Expr} {ma : ME} {pos : Pos} (ha : PE X a (rdE (gX X cls) F XW ma)) : PE X (.UnaryOp .Not a pos) (rdE (gX X cls) F XW (.nt ma)) := by
  refine PE.imp (pe_not ha) fun σ H Q q => ?_
  obtain ⟨B, ρ, h, S, W, R, q⟩ := q
  simp only [evE, ens_bind] at q
  refine ⟨B, ρ, h, S, W, R, ens_mono q fun x h1 q v H1 g => ?_⟩
  obtain ⟨b, rfl, q⟩ := asB_ok q
  obtain ⟨rfl, g'⟩ := good_db g
  exact ⟨b, rfl, q _ _ (db_good g')⟩
/-- and, or of values -/
def rdB (G : Gd) (F : Fn) (XW : WX) (t : Bool) (ms : List ME) : TE := fun σ H Q => ∃ (B : ASet) (ρ : List Addr) (h : Hs) (S : List SV) (W : ASet), RS G B ρ h S W σ H ∧
  (evB F t ms S h).ens (fun rv h' => ∀ v H', EGood G B ρ W H S σ rv h' v H' → Q v H') (fun e h' => ∀ c d H', XGood G B ρ W H S σ e h' c d H' → XW c d σ H')
theorem sb_one {a : Expr} {ma : ME} {p : BoolOp} {t : Bool} {pos : Pos} (ha : PE X a (rdE (gX X cls) F XW ma)) : PE X (.BoolOp p [a] pos) (rdB (gX X cls) F XW t [ma]) := PE.imp (pe_one ha) fun σ H Q q => q
theorem sb_cons {a b : Expr} {es : List Expr} {ma mb : ME} {ms : List ME} {p : BoolOp} {t : Bool} {pos : Pos} (hp : andOr t p = true) (ha : PE X a (rdE (gX X cls) F XW ma)) (hb : PE X (.BoolOp p (b :: es) pos) (rdB (gX X cls) F XW t (mb :: ms))) :
    PE X (.BoolOp p (a :: b :: es) pos) (rdB (gX X cls) F XW t (ma :: mb :: ms)) := by
  have core : ∀ σ H Q, rdB (gX X cls) F XW t (ma :: mb :: ms) σ H Q → rdE (gX X cls) F XW ma σ H fun x H1 => ∃ c, x = .bl c ∧ if c = t then rdB (gX X cls) F XW t (mb :: ms) σ H1 Q else Q (.bl c) H1 := fun σ H Q q => by
    obtain ⟨B, ρ, h, S, W, R, q⟩ := q
    simp only [evB, ens_bind] at q
    refine ⟨B, ρ, h, S, W, R, ens_mono q fun x h1 q v H1 g => ?_⟩
    obtain ⟨b, rfl, q'⟩ := asB_ok q
    obtain ⟨rfl, ρ1, W1, x1, R1⟩ := good_db g
    refine ⟨b, rfl, ?_⟩
    split at q'
    · rename_i e
      rw [if_pos e]
      exact ⟨B, ρ1, h1, S, W1, R1, ens_ext q' (fun y h2 q v H2 g2 => q _ _ (g2.ext R.base x1)) fun e h' k c d H' g => k c d H' (g.ext R.base x1)⟩
    · rename_i e
      rw [if_neg e]
      exact q' _ _ (db_good ⟨ρ1, W1, x1, R1⟩)
  unfold andOr at hp
  split at hp
  · refine PE.imp (pe_and ha hb) fun σ H Q q => ?_
    obtain ⟨B, ρ, h, S, W, R, q⟩ := core σ H Q q
    refine ⟨B, ρ, h, S, W, R, ens_mono q fun x h1 q v H1 g => ?_⟩
    obtain ⟨c, rfl, q⟩ := q v H1 g
    refine ⟨c, rfl, ?_⟩
    cases c with
    | true => exact q
    | false => exact q
  · refine PE.imp (pe_or ha hb) fun σ H Q q => ?_
    obtain ⟨B, ρ, h, S, W, R, q⟩ := core σ H Q q
    refine ⟨B, ρ, h, S, W, R, ens_mono q fun x h1 q v H1 g => ?_⟩
    obtain ⟨c, rfl, q⟩ := q v H1 g
    refine ⟨c, rfl, ?_⟩
    cases c with
    | true => exact q
    | false => exact q
  · cases hp
theorem st_ite (o : OK T F cls N sc XW X) {c a b : Expr} {mc : MC} {ma mb : ME} {pos : Pos} (hc : PT X c (rdT (gX X cls) F XW mc)) (ha : PE X a (rdE (gX X cls) F XW ma)) (hb : PE X b (rdE (gX X cls) F XW mb)) : PE X (.IfExp c a b pos) (rdE (gX X cls) F XW (.ite mc ma mb)) := by
  refine PE.imp (pe_ifExp hc ha hb) fun σ H Q q => ?_
  obtain ⟨B, ρ, h, S, W, R, q⟩ := q
  simp only [evE, ens_bind] at q
  refine ⟨B, ρ, h, S, W, R, ens_mono q fun k h1 q H1 g => ?_⟩
  obtain ⟨ρ1, W1, x1, R1⟩ := g
  split at q
  · rename_i e
    rw [if_pos e]
    exact ⟨B, ρ1, h1, S, W1, R1, ens_ext q (fun y h2 q v H2 g2 => q _ _ (g2.ext R.base x1)) fun e h' k c d H' g => k c d H' (g.ext R.base x1)⟩
  · rename_i e
    rw [if_neg e]
    exact ⟨B, ρ1, h1, S, W1, R1, ens_ext q (fun y h2 q v H2 g2 => q _ _ (g2.ext R.base x1)) fun e h' k c d H' g => k c d H' (g.ext R.base x1)⟩
/-! ### tests -/
theorem tt_val {a : Expr} {ma : ME} (hp : plainT a = true) (ha : PE X a (rdE (gX X cls) F XW ma)) : PT X a (rdT (gX X cls) F XW (.val ma)) := by
  refine PT.imp (pt_truthW ha (is_plain hp X.env)) fun σ H Q q => ?_
  obtain ⟨B, ρ, h, S, W, R, q⟩ := q
  simp only [evT, ens_bind] at q
  refine ⟨B, ρ, h, S, W, R, ens_mono q fun x h1 q v H1 g => ?_⟩
  obtain ⟨ρ1, W1, x1, R1, r1⟩ := g
  obtain ⟨k, ek, q⟩ := ens_ok1 q
  simp only [Option.bind_eq_some_iff] at ek
  obtain ⟨w, e1, e2⟩ := ek
  exact ⟨k, tru_of (RVR.vw R1 r1 e1) e2, q _ ⟨ρ1, W1, x1, R1⟩⟩
theorem tt_nt {a : Expr} {ma : MC} {pos : Pos} (ha : PT X a (rdT (gX X cls) F XW ma)) : PT X (.UnaryOp .Not a pos) (rdT (gX X cls) F XW (.nt ma)) := by
  refine PT.imp (pt_not ha) fun σ H Q q => ?_
  obtain ⟨B, ρ, h, S, W, R, q⟩ := q
  simp only [evT, ens_bind] at q
  exact ⟨B, ρ, h, S, W, R, ens_mono q fun x h1 q H1 g => q _ g⟩
def rdTs (G : Gd) (F : Fn) (XW : WX) (t : Bool) (ms : List MC) : TT := fun σ H Q => ∃ (B : ASet) (ρ : List Addr) (h : Hs) (S : List SV) (W : ASet), RS G B ρ h S W σ H ∧
  (evTs F t ms S h).ens (fun b h' => ∀ H', BGood G B ρ W H S σ h' H' → Q b H') (fun e h' => ∀ c d H', XGood G B ρ W H S σ e h' c d H' → XW c d σ H')
theorem PW.imp {e : Expr} {t t' : TT} (h : PW X e t) (k : ∀ σ H Q, t' σ H Q → t σ H Q) : PW X e t' := ⟨fun whole pins s σ H Q I q => h.run whole pins s σ H Q I (k _ _ _ q)⟩
theorem tb_one {a : Expr} {ma : MC} {p : BoolOp} {t : Bool} {pos : Pos} (ha : PT X a (rdT (gX X cls) F XW ma)) : PW X (.BoolOp p [a] pos) (rdTs (gX X cls) F XW t [ma]) := by
  cases p with
  | And => exact PW.imp (pw_and1 ha) fun σ H Q q => q
  | Or => exact PW.imp (pw_or1 ha) fun σ H Q q => q
theorem tb_cons {a b : Expr} {es : List Expr} {ma mb : MC} {ms : List MC} {p : BoolOp} {t : Bool} {pos : Pos} (hp : andOr t p = true) (ha : PT X a (rdT (gX X cls) F XW ma)) (hb : PW X (.BoolOp p (b :: es) pos) (rdTs (gX X cls) F XW t (mb :: ms))) :
    PW X (.BoolOp p (a :: b :: es) pos) (rdTs (gX X cls) F XW t (ma :: mb :: ms)) := by
  have core : ∀ σ H Q, rdTs (gX X cls) F XW t (ma :: mb :: ms) σ H Q → rdT (gX X cls) F XW ma σ H fun c H1 => if c = t then rdTs (gX X cls) F XW t (mb :: ms) σ H1 Q else Q c H1 := fun σ H Q q => by
    obtain ⟨B, ρ, h, S, W, R, q⟩ := q
    simp only [evTs, ens_bind] at q
    refine ⟨B, ρ, h, S, W, R, ens_mono q fun x h1 q H1 g => ?_⟩
    obtain ⟨ρ1, W1, x1, R1⟩ := g
    split at q
    · rename_i e
      rw [if_pos e]
      exact ⟨B, ρ1, h1, S, W1, R1, ens_ext q (fun y h2 q H2 g2 => q _ (g2.ext R.base x1)) fun e h' k c d H' g => k c d H' (g.ext R.base x1)⟩
    · rename_i e
      rw [if_neg e]
      exact q _ ⟨ρ1, W1, x1, R1⟩
  unfold andOr at hp
  split at hp
  · refine PW.imp (pw_and ha hb) fun σ H Q q => ?_
    obtain ⟨B, ρ, h, S, W, R, q⟩ := core σ H Q q
    refine ⟨B, ρ, h, S, W, R, ens_mono q fun c h1 q H1 g => ?_⟩
    have q := q H1 g
    cases c with
    | true => exact q
    | false => exact q
  · refine PW.imp (pw_or ha hb) fun σ H Q q => ?_
    obtain ⟨B, ρ, h, S, W, R, q⟩ := core σ H Q q
    refine ⟨B, ρ, h, S, W, R, ens_mono q fun c h1 q H1 g => ?_⟩
    have q := q H1 g
    cases c with
    | true => exact q
    | false => exact q
  · cases hp
/-! ### slices, calls -/
theorem st_slc (o : OK T F cls N sc XW X) {a : Expr} {lo hi : Option Expr} {ma : ME} {ml mh : Option ME} {pos p2 : Pos} (ha : PE X a (rdE (gX X cls) F XW ma)) (hl : PO X lo (rdO (gX X cls) F XW ml)) (hh : PO X hi (rdO (gX X cls) F XW mh)) :
    PE X (.Subscript a (.Slice lo hi none p2) pos) (rdE (gX X cls) F XW (.slc ma ml mh)) := by
  refine PE.imp (pe_slice (sl_ok (cls := cls)) ha hl hh) fun σ H Q q => ?_
  obtain ⟨B, ρ, h, S, W, R, q⟩ := q
  simp only [evE, ens_bind] at q
  refine ⟨B, ρ, h, S, W, R, ens_mono q fun x h1 q v H1 g => ?_⟩
  obtain ⟨y, ey, q⟩ := ens_ok1 q
  obtain ⟨ρ1, W1, x1, R1, r1⟩ := g.hold ey R.base
  refine ⟨B, ρ1, h1, S, W1, R1, ens_ext q (fun l h2 q H2 g2 => ?_) fun e h' k c d H' g => k c d H' (g.ext R.base x1)⟩
  obtain ⟨ρ2, W2, x2, R2⟩ := g2
  have x12 := x1.trans x2 R.base
  refine ⟨B, ρ2, h2, S, W2, R2, ens_ext q (fun u h3 q H3 g3 => ?_) fun e h' k c d H' g => k c d H' (g.ext R.base x12)⟩
  obtain ⟨ρ3, W3, x3, R3⟩ := g3
  obtain ⟨rv, e, q⟩ := ens_ok1 q
  exact ⟨B, ρ3, h3, S, W3, σ, y, rv, R3, RVR.hold (x2.trans x3 R1.base) (hold_hold ey) r1, e, fun v' H' g' => q v' H' (g'.ext R.base (x12.trans x3 R.base))⟩
theorem st_rev (o : OK T F cls N sc XW X) {a : Expr} {ma : ME} {k : Nat} {p1 p2 p3 pos : Pos} (ha : PE X a (rdE (gX X cls) F XW ma)) :
    PE X (.Subscript a (.Slice none none (some (.UnaryOp .USub (.Constant (.int 1) k p1) p2)) p3) pos) (rdE (gX X cls) F XW (.rev ma)) := by
  refine PE.imp (pe_revA ha) fun σ H Q q => ?_
  obtain ⟨B, ρ, h, S, W, R, q⟩ := q
  simp only [evE, ens_bind] at q
  refine ⟨B, ρ, h, S, W, R, ens_mono q fun x h1 q v H1 g => ?_⟩
  obtain ⟨ρ1, W1, x1, R1, r1⟩ := g
  split at q
  · rename_i xs e
    obtain ⟨a, vs, rfl, l, r⟩ := RVR.vw R1 r1 e
    exact ⟨a, vs, rfl, .inl ⟨SqL.of l, fun p hp => q _ _ ((good_lst R1 hp r.reverse).ext R.base x1)⟩⟩
  · rename_i xs e
    obtain ⟨a, vs, rfl, l, r⟩ := RVR.vw R1 r1 e
    exact ⟨a, vs, rfl, .inr ⟨l.sq, fun p hp => q _ _ ((good_tup R1 hp r.reverse).ext R.base x1)⟩⟩
  · exact q.elim
theorem st_lit (o : OK T F cls N sc XW X) {a : Expr} {ma : ME} {p apos cpos pos : Pos} (h1 : glK sc ("list" : Str) = true) (h2 : ("list" : Str) ∈ T.bl) (hl : (apos.endLine == cpos.line) = true) (hb : noSuper a = true) (ha : PE X a (rdE (gX X cls) F XW ma)) :
    PE X (.Call (.Name "list" p) [.Call (.Attribute a "items" apos) [] [] cpos] [] pos) (rdE (gX X cls) F XW (.lit ma)) := by
  refine PE.imp (pe_listItemsR o.calm ha (o.gl h1) (o.fa.bl _ h2) (by decide +kernel) (base_plain hb _ _ _) hl rfl) fun σ H Q q => ?_
  obtain ⟨B, ρ, h, S, W, R, q⟩ := q
  simp only [evE, ens_bind] at q
  refine ⟨B, ρ, h, S, W, R, ens_mono q fun x h1 q v H1 g => ?_⟩
  obtain ⟨ρ1, W1, x1, R1, r1⟩ := g
  split at q
  · rename_i xs e
    obtain ⟨d, es, rfl, l, r⟩ := RVR.vw R1 r1 e
    exact ⟨d, es, rfl, l, fun H' p ts k hp ht np e q' => q _ _ ((good_its R1 k hp ht np e q' r).ext R.base x1)⟩
  · exact q.elim
theorem VRs.keysOf {G : Gd} {H H' : Hp} {W W' : ASet} {ρ ρ' : List Addr} : ∀ {kvs : List (Key × AV)} {es : List (Key × V)}, VRk G H W ρ kvs es → VRs G H' W' ρ' (kvs.map fun p => kA p.1) (es.map fun p => kV p.1)
  | [], es, r => by
    simp only [VRk] at r
    subst r
    simp only [List.map_nil, VRs]
  | (k, x) :: kvs, es, r => by
    simp only [VRk] at r
    obtain ⟨v, r', rfl, _, rb⟩ := r
    simp only [List.map_cons, VRs]
    exact ⟨_, _, rfl, VR.ofKey k, VRs.keysOf rb⟩
theorem st_lke (o : OK T F cls N sc XW X) {a : Expr} {ma : ME} {p apos cpos pos : Pos} (h1 : glK sc ("list" : Str) = true) (h2 : ("list" : Str) ∈ T.bl) (hl : (apos.endLine == cpos.line) = true) (hb : noSuper a = true) (ha : PE X a (rdE (gX X cls) F XW ma)) :
    PE X (.Call (.Name "list" p) [.Call (.Attribute a "keys" apos) [] [] cpos] [] pos) (rdE (gX X cls) F XW (.lke ma)) := by
  refine PE.imp (pe_listKeysR o.calm ha (o.gl h1) (o.fa.bl _ h2) (by decide +kernel) (base_plain hb _ _ _) hl rfl) fun σ H Q q => ?_
  obtain ⟨B, ρ, h, S, W, R, q⟩ := q
  simp only [evE, ens_bind] at q
  refine ⟨B, ρ, h, S, W, R, ens_mono q fun x h1 q v H1 g => ?_⟩
  obtain ⟨ρ1, W1, x1, R1, r1⟩ := g
  split at q
  · rename_i xs e
    obtain ⟨d, es, rfl, l, r⟩ := RVR.vw R1 r1 e
    exact ⟨d, es, rfl, l, fun p hp => q _ _ ((good_lst R1 hp (VRs.keysOf r)).ext R.base x1)⟩
  · exact q.elim
theorem VRs.fm {G : Gd} {H : Hp} {W : ASet} {ρ : List Addr} : ∀ (ns : List Nat) {xs : List AV} {vs : List V}, VRs G H W ρ xs vs → VRs G H W ρ (ns.filterMap (xs[·]?)) (ns.filterMap (vs[·]?))
  | [], _, _, _ => by simp only [List.filterMap_nil, VRs]
  | n :: ns, xs, vs, r => by
    have ih := VRs.fm ns r
    have hl := r.length
    cases e : xs[n]? with
    | none =>
      have e' : vs[n]? = none := by
        rw [List.getElem?_eq_none_iff] at e ⊢
        omega
      simp only [List.filterMap_cons, e, e']
      exact ih
    | some x =>
      obtain ⟨v, e', rv⟩ := r.get e
      simp only [List.filterMap_cons, e, e', VRs]
      exact ⟨v, _, rfl, rv, ih⟩
theorem st_stp (o : OK T F cls N sc XW X) {a : Expr} {lo : Option Expr} {ma : ME} {ml : Option ME} {c : Int} {k : Nat} {p1 p3 pos : Pos} (hc : c ≠ 0) (ha : PE X a (rdE (gX X cls) F XW ma)) (hl : PO X lo (rdO (gX X cls) F XW ml)) :
    PE X (.Subscript a (.Slice lo none (some (.Constant (.int c) k p1)) p3) pos) (rdE (gX X cls) F XW (.stp ma ml c)) := by
  refine PE.imp (pe_stp hc ha hl) fun σ H Q q => ?_
  obtain ⟨B, ρ, h, S, W, R, q⟩ := q
  simp only [evE, ens_bind] at q
  refine ⟨B, ρ, h, S, W, R, ens_mono q fun x h1 q v H1 g => ?_⟩
  obtain ⟨y, ey, q⟩ := ens_ok1 q
  obtain ⟨ρ1, W1, x1, R1, r1⟩ := g.hold ey R.base
  refine ⟨B, ρ1, h1, S, W1, R1, ens_ext q (fun l h2 q H2 g2 => ?_) fun e h' k c d H' g => k c d H' (g.ext R.base x1)⟩
  obtain ⟨ρ2, W2, x2, R2⟩ := g2
  have x12 := x1.trans x2 R.base
  split at q
  · rename_i xs e
    obtain ⟨a, vs, rfl, l', r⟩ := RVR.vw R2 (RVR.hold x2 (hold_hold ey) r1) e
    refine ⟨a, vs, rfl, SqL.of l', fun p hp => q _ _ ((good_lst R2 hp ?_).ext R.base x12)⟩
    unfold pickL
    rw [r.length]
    exact VRs.fm _ r
  · exact q.elim
theorem boot_ty {n : String} (h : n ∈ ["int", "str", "bool", "list", "tuple", "dict"]) : bootBuiltins (Str.ofString n) = some (.type n) := by
  simp only [List.mem_cons, List.not_mem_nil, or_false] at h
  rcases h with rfl | rfl | rfl | rfl | rfl | rfl <;> decide +kernel
theorem st_isi (o : OK T F cls N sc XW X) {a : Expr} {ma : ME} {n : String} {p1 p2 pos : Pos} (h1 : glK sc ("isinstance" : Str) = true) (h2 : ("isinstance" : Str) ∈ T.bl) (g1 : glK sc (Str.ofString n) = true) (g2 : okN (Str.ofString n) = true) (g3 : Str.ofString n ∈ T.bl)
    (g4 : n ∈ ["int", "str", "bool", "list", "tuple", "dict"]) (hs : isStar a = false) (ha : PE X a (rdE (gX X cls) F XW ma)) :
    PE X (.Call (.Name "isinstance" p1) [a, .Name (Str.ofString n) p2] [] pos) (rdE (gX X cls) F XW (.isi ma [.b n])) := by
  have hn : PE X (.Name (Str.ofString n) p2) (tC (.ty n)) := pe_bltn (o.gl g1) (o.fa.bl _ g3) (boot_ty g4) rfl (okN_3 g2) (okN_1 g2)
  refine PE.imp (pe_callB call_isi (o.gl h1) (o.fa.bl _ h2) (by decide +kernel) (pa_cons ha (pa_cons hn pa_nil) (star_no hs _ _)) (he := star_no hs _ _)) fun σ H Q q => ?_
  obtain ⟨B, ρ, h, S, W, R, q⟩ := q
  simp only [evE, ens_bind] at q
  refine ⟨B, ρ, h, S, W, R, ens_mono q fun x h1 q v H1 g => ?_⟩
  obtain ⟨ρ1, W1, x1, R1, r1⟩ := g
  obtain ⟨rv, e, q⟩ := ens_ok1 q
  simp only [Option.bind_eq_some_iff, Option.map_eq_some_iff] at e
  obtain ⟨t, ⟨w, e1, e2⟩, b, e3, rfl⟩ := e
  cases t with
  | b t =>
    simp only [tyAny, tyIs] at e3
    split at e3
    · rename_i b' r e4 e5
      cases e5
      cases e3
      refine ⟨v, .ty n, .type t, .type n, b', rfl, .ty n, ty_of (RVR.vw R1 r1 e1) e2, kit_ty e4, ?_⟩
      have z : (b' || false) = b' := by cases b' <;> rfl
      rw [z] at q
      exact q _ _ (db_good ⟨ρ1, W1, x1, R1⟩)
    · cases e3
  | c i =>
    simp only [tyAny, tyIs] at e3
    cases e3
theorem RS.toCall {G : Gd} {B : ASet} {ρ : List Addr} {h : Hs} {S : List SV} {W : ASet} {σ : L2.St} {H : Hp} (R : RS G B ρ h S W σ H) : RS G (fun a => W a ∧ a ∉ ρ) ρ h [] (uni (fun a => W a ∧ a ∉ ρ) ρ) [] H := by
  have l : ∀ a, uni (fun a => W a ∧ a ∉ ρ) ρ a → W a := fun a w => by
    rcases w with w | w
    · exact w.1
    · exact R.sub a w
  refine ⟨R.len, R.nd, fun a ha => .inr ha, fun a ha => .inl ha, fun a ha z => z.2 ha, fun a w => R.live a (l a w), fun i c a hi ha => ?_, fun i s hi => by simp at hi, fun i j c c' a hi => by simp at hi⟩
  exact (R.cel i c a hi ha).mv (Sub.less l) pre_refl fun o e => e
theorem uni_eq {ρ : List Addr} {W : ASet} (R : ∀ a ∈ ρ, W a) : uni (fun a => W a ∧ a ∉ ρ) ρ = W := by
  funext a
  apply propext
  constructor
  · rintro (w | w)
    · exact w.1
    · exact R a w
  · intro w
    by_cases h : a ∈ ρ
    · exact .inr h
    · exact .inl ⟨w, h⟩
end
end Mp


set_option Elab.async false
set_option linter.all false
set_option maxRecDepth 10000
set_option maxHeartbeats 1000000
/-! Calls, walks, comprehensions; then all expressions. -/
namespace Mp
open PySem PySem.Spec PyProof.Rows L2
section
variable {G : Gd} {B : ASet} {ρ : List Addr} {h h' : Hs} {S : List SV} {W : ASet} {σ : L2.St} {H H' : Hp}
/-- behind a call the caller's own things stand as they stood -/
theorem back {ρ' : List Addr} {W' : ASet} (R : RS G B ρ h S W σ H) (x : Ext (fun a => W a ∧ a ∉ ρ) ρ (uni (fun a => W a ∧ a ∉ ρ) ρ) H ρ' W' H') (R' : RS G (fun a => W a ∧ a ∉ ρ) ρ' h' [] W' [] H') : Ext B ρ W H ρ' W' H' ∧ RS G B ρ' h' S W' σ H' := by
  rw [uni_eq R.sub] at x
  have bb : ∀ a, B a → W a ∧ a ∉ ρ := fun a b => ⟨R.base a b, fun z => R.out a z b⟩
  have x' : Ext B ρ W H ρ' W' H' := ⟨x.pre, fun a o n e => x.keep a o (n.imp id (bb a)) e, x.grow, x.live, x.lk⟩
  refine ⟨x', R'.len, R'.nd, R'.sub, fun a b => R'.base a (bb a b), fun a ha b => R'.out a ha (bb a b), R'.live, R'.cel, fun i s hi => ?_, R.dj⟩
  obtain ⟨o, ho, hs⟩ := R.sl i s hi
  refine ⟨o, ho, ?_⟩
  cases s with
  | no => trivial
  | v y =>
    obtain ⟨v, e, r⟩ := hs
    exact ⟨v, e, VR.mv x'.sub x'.pre _ _ r⟩
  | own c =>
    obtain ⟨a, e, h1, h2, h3, h4⟩ := hs
    have ba : W a ∧ a ∉ ρ := ⟨h1, h3⟩
    exact ⟨a, e, R'.base a ba, h2, fun z => R'.out a z ba, h4.mv x'.sub x'.pre fun o e => x.keep a o (.inr ba) e⟩
theorem EGood.back {rv : RV} {v : V} (R : RS G B ρ h S W σ H) (g : EGood G (fun a => W a ∧ a ∉ ρ) ρ (uni (fun a => W a ∧ a ∉ ρ) ρ) H [] [] rv h' v H') : EGood G B ρ W H S σ rv h' v H' := by
  obtain ⟨ρ', W', x, R', r⟩ := g
  obtain ⟨x', R''⟩ := Mp.back R x R'
  refine ⟨ρ', W', x', R'', ?_⟩
  cases rv with
  | v a => exact r
  | f c =>
    obtain ⟨a, e, h1, h2, h3, h4, h5⟩ := r
    refine ⟨a, e, h1, fun b => h2 ⟨R.base a b, fun z => R.out a z b⟩, h3, fun i c hi z => ?_, h5⟩
    obtain ⟨o, ho, hs⟩ := R.sl i _ hi
    obtain ⟨p, ep, g1, g2, g3, _⟩ := hs
    rw [z] at ho
    cases ho
    cases ep
    exact h2 ⟨g1, g3⟩
  | b i c =>
    obtain ⟨e, _⟩ := r
    simp at e
theorem XGood.back {e : Ex} {c : Value} {d : Option Addr} (R : RS G B ρ h S W σ H) (g : XGood G (fun a => W a ∧ a ∉ ρ) ρ (uni (fun a => W a ∧ a ∉ ρ) ρ) H [] [] e h' c d H') : XGood G B ρ W H S σ e h' c d H' := by
  obtain ⟨ρ', W', x, R', r⟩ := g
  obtain ⟨x', R''⟩ := Mp.back R x R'
  exact ⟨ρ', W', x', R'', r⟩
end
section
variable {T : Nm} {F : Fn} {cls : Nat → Addr} {N : List Str} {sc : Ks} {XW : WX} {X : Cx}
/-- the callee's promise, where its worth is told -/
theorem to_spW {wth : List AV → Hs → Res RV} {n : Nat} {B : ASet} {ρ : List Addr} {h : Hs} {S : List SV} {W : ASet} {σ : L2.St} {H : Hp} {xs : List AV} {vs : List V} {Q : VK} (R : RS (gX X cls) B ρ h S W σ H) (r : VRs (gX X cls) H W ρ xs vs) (hn : vs.length = n)
    (q : (wth xs h).ens (fun rv h' => ∀ v H', EGood (gX X cls) B ρ W H S σ rv h' v H' → Q v H') (fun e h' => ∀ c d H', XGood (gX X cls) B ρ W H S σ e h' c d H' → XW c d σ H')) : spF (gX X cls) (wth) n vs H Q (WE XW σ) := by
  refine ⟨hn, _, ρ, h, xs, R.toCall, by rw [uni_eq R.sub]; exact r, ens_ext q (fun rv h' k v H' g => k v H' (g.back R)) fun e h' k c d H' g => k c d H' (g.back R)⟩
theorem to_sp {f : Nat} {n : Nat} {B : ASet} {ρ : List Addr} {h : Hs} {S : List SV} {W : ASet} {σ : L2.St} {H : Hp} {xs : List AV} {vs : List V} {Q : VK} (R : RS (gX X cls) B ρ h S W σ H) (r : VRs (gX X cls) H W ρ xs vs) (hn : vs.length = n)
    (q : (F.fn f xs h).ens (fun rv h' => ∀ v H', EGood (gX X cls) B ρ W H S σ rv h' v H' → Q v H') (fun e h' => ∀ c d H', XGood (gX X cls) B ρ W H S σ e h' c d H' → XW c d σ H')) : spF (gX X cls) (F.fn f) n vs H Q (WE XW σ) := to_spW R r hn q
theorem ev_len {ms : List ME} : ∀ {S : List SV} {h : Hs} {P : List AV → Hs → Prop} {E : Ex → Hs → Prop}, (evL F ms S h).ens P E → (evL F ms S h).ens (fun xs h' => xs.length = ms.length ∧ P xs h') E := by
  induction ms with
  | nil => intro S h P E q; exact ⟨rfl, q⟩
  | cons m ms ih =>
    intro S h P E q
    simp only [evL, ens_bind] at q ⊢
    refine ens_mono q fun x h1 q => ens_mono q fun x h1 q => ?_
    exact ens_mono (ih q) fun xs h2 ⟨e, q⟩ => ⟨by simp [e], q⟩
theorem st_cal (o : OK T F cls N sc XW X) {f : Nat} {x : Str} {es : List Expr} {ms : List ME} {p pos : Pos} (h1 : T.fns.lookup f = some (x, ms.length)) (h2 : glK sc x = true) (h3 : okN x = true) (hs : ∀ e ∈ es, isStar e = false) (hl : ms.length = es.length)
    (ha : PA X es (rdL (gX X cls) F XW ms)) : PE X (.Call (.Name x p) es [] pos) (rdE (gX X cls) F XW (.cal f ms)) := by
  obtain ⟨k, ⟨a, fd, ps, m, kp, ok, bi⟩, rm⟩ := o.fa.fn f x _ h1
  cases es with
  | nil =>
    have em : ms = [] := List.length_eq_zero_iff.mp hl
    subst em
    refine ⟨fun pins s σ H Q I q => ?_⟩
    obtain ⟨B, ρ, h, S, W, R, q⟩ := q
    simp only [evE, evL, Res.bind_ok] at q
    have sp := to_sp (n := 0) (vs := []) R (by simp only [VRs]) rfl q
    exact wpAny_Call_Name_kw (ld_glob I (o.gl h2) m (PySem.W.callWith_K0 I.kIn kp (run_fnS (us := []) ok rm bi (passAt o.tk σ) I .nil sp)) (okN_1 h3))
  | cons e es =>
    refine PE.imp (pe_callS (E := WE XW) ok rm (o.gl h2) m kp bi (fun σ => passAt o.tk σ) ha (okN_1 h3) (star_no (hs e List.mem_cons_self) es _) (any_star _ _ fun y hy => hs y (List.mem_cons_of_mem _ hy))) fun σ H Q q => ?_
    obtain ⟨B, ρ, h, S, W, R, q⟩ := q
    simp only [evE, ens_bind] at q
    refine ⟨B, ρ, h, S, W, R, ens_mono (ev_len q) fun xs h1 ⟨el, q⟩ vs H1 g => ?_⟩
    obtain ⟨ρ1, W1, x1, R1, r1⟩ := g
    refine to_sp R1 r1 (by rw [← r1.length]; exact el) (ens_ext q (fun rv h' k v H' g => k v H' (g.ext R.base x1)) fun e h' k c d H' g => k c d H' (g.ext R.base x1))
theorem boot_bl (b : Blt) : bootBuiltins b.name = some b.val := by cases b <;> decide +kernel
theorem bname_ok (b : Blt) : b.name ≠ "__name__" ∧ (b.name == ("__debug__" : Str)) = false := by cases b <;> decide +kernel
theorem st_blt (o : OK T F cls N sc XW X) {b : Blt} {e : Expr} {es : List Expr} {ms : List ME} {p pos : Pos} (h2 : glK sc b.name = true) (h3 : b.name ∈ T.bl) (hs : ∀ y ∈ e :: es, isStar y = false)
    (ha : PA X (e :: es) (rdR (gX X cls) F XW ms)) : PE X (.Call (.Name b.name p) (e :: es) [] pos) (rdE (gX X cls) F XW (.blt b ms)) := by
  have fin : ∀ σ H Q, rdE (gX X cls) F XW (.blt b ms) σ H Q → tCB (rC (gX X cls) fun h as => bltO h b as) (rdR (gX X cls) F XW ms) σ H Q := fun σ H Q q => by
    obtain ⟨B, ρ, h, S, W, R, q⟩ := q
    simp only [evE, ens_bind] at q
    refine ⟨B, ρ, h, S, W, R, ens_mono q fun xs h1 q vs H1 g => ?_⟩
    obtain ⟨ρ1, W1, x1, R1, r1⟩ := g
    obtain ⟨rv, e, q⟩ := ens_ok1 q
    exact ⟨B, ρ1, h1, S, W1, σ, xs, rv, R1, r1, e, fun v H' g => q v H' (g.ext R.base x1)⟩
  have key : PE X (.Call (.Name b.name p) (e :: es) [] pos) (tCB (rC (gX X cls) fun h as => bltO h b as) (rdR (gX X cls) F XW ms)) := by
    have rule := blt_ok (cls := cls) o.calm b
    have bo := boot_bl b
    obtain ⟨n1, n2⟩ := bname_ok b
    cases hb : b.val with
    | builtin id =>
      rw [hb] at rule bo
      exact pe_callB rule (o.gl h2) (o.fa.bl _ h3) bo ha n1 n2 (star_no (hs e List.mem_cons_self) es _) (any_star _ _ fun y hy => hs y (List.mem_cons_of_mem _ hy))
    | type n =>
      rw [hb] at rule bo
      exact pe_callTy rule (o.gl h2) (o.fa.bl _ h3) bo ha n1 n2 (star_no (hs e List.mem_cons_self) es _) (any_star _ _ fun y hy => hs y (List.mem_cons_of_mem _ hy))
    | _ => cases b <;> cases hb
  exact PE.imp key fin
theorem st_bl1 (o : OK T F cls N sc XW X) {b : Blt} {e : Expr} {m : ME} {p pos : Pos} (h2 : glK sc b.name = true) (h3 : b.name ∈ T.bl) (hs : isStar e = false)
    (ha : PE X e (rdE (gX X cls) F XW m)) : PE X (.Call (.Name b.name p) [e] [] pos) (rdE (gX X cls) F XW (.bl1 b m)) := by
  have hp : PA X [e] (tCons (rdE (gX X cls) F XW m) tNil) := pa_cons ha pa_nil (star_no hs [] X.env)
  have fin : ∀ σ H Q, rdE (gX X cls) F XW (.bl1 b m) σ H Q → tCB (rC (gX X cls) fun h as => bltO h b as) (tCons (rdE (gX X cls) F XW m) tNil) σ H Q := fun σ H Q q => by
    obtain ⟨B, ρ, h, S, W, R, q⟩ := q
    simp only [evE, ens_bind] at q
    refine ⟨B, ρ, h, S, W, R, ens_mono q fun x h1 q v H1 g => ?_⟩
    obtain ⟨ρ1, W1, x1, R1, r1⟩ := g
    obtain ⟨rv, e, q⟩ := ens_ok1 q
    exact ⟨B, ρ1, h1, S, W1, σ, [x], rv, R1, by simp only [RVRs]; exact ⟨v, [], rfl, r1, rfl⟩, e, fun v H' g => q v H' (g.ext R.base x1)⟩
  have key : PE X (.Call (.Name b.name p) [e] [] pos) (tCB (rC (gX X cls) fun h as => bltO h b as) (tCons (rdE (gX X cls) F XW m) tNil)) := by
    have rule := blt_ok (cls := cls) o.calm b
    have bo := boot_bl b
    obtain ⟨n1, n2⟩ := bname_ok b
    cases hb : b.val with
    | builtin id =>
      rw [hb] at rule bo
      exact pe_callB rule (o.gl h2) (o.fa.bl _ h3) bo hp n1 n2 (star_no hs [] _) rfl
    | type n =>
      rw [hb] at rule bo
      exact pe_callTy rule (o.gl h2) (o.fa.bl _ h3) bo hp n1 n2 (star_no hs [] _) rfl
    | _ => cases b <;> cases hb
  exact PE.imp key fin
theorem rg_vrs {G : Gd} {H : Hp} {W : ASet} {ρ : List Addr} : ∀ l : List Nat, VRs G H W ρ (l.map fun (i : Nat) => .d (.int (0 + i))) (l.map fun (i : Nat) => V.int (0 + i))
  | [] => by simp only [List.map_nil, VRs]
  | i :: l => by
    simp only [List.map_cons, VRs]
    exact ⟨_, _, rfl, by simp only [VR, DR], rg_vrs l⟩
theorem st_rgv (o : OK T F cls N sc XW X) (t : Bool) {e : Expr} {m : ME} {p p2 pos pos2 : Pos} (h1 : glK sc (if t = true then Str.ofString "tuple" else Str.ofString "list") = true) (h2 : (if t = true then Str.ofString "tuple" else Str.ofString "list") ∈ T.bl) (h3 : glK sc ("range" : Str) = true) (h4 : ("range" : Str) ∈ T.bl) (hs : isStar e = false)
    (ha : PE X e (rdE (gX X cls) F XW m)) : PE X (.Call (.Name (if t = true then Str.ofString "tuple" else Str.ofString "list") p) [.Call (.Name "range" p2) [e] [] pos2] [] pos) (rdE (gX X cls) F XW (.rgv t m)) := by
  have rg := prg_1 (p := p2) (pos := pos2) (o.gl h3) (o.fa.bl _ h4) ha (star_no hs [] X.env)
  have nc : starEach [Expr.Call (.Name "range" p2) [e] [] pos2] X.env = (false, eval (.Call (.Name "range" p2) [e] [] pos2) X.env) :: starEach [] X.env := star_no rfl [] X.env
  cases t with
  | true =>
    simp only [if_true] at h1 h2 ⊢
    refine PE.imp (pe_tupRg o.calm (o.gl h1) (o.fa.bl _ h2) rg nc) fun σ H Q q => ?_
    obtain ⟨B, ρ, h, S, W, R, q⟩ := q
    simp only [evE, ens_bind] at q
    refine ⟨B, ρ, h, S, W, R, ens_mono q fun x h1 q v H1 g => ?_⟩
    obtain ⟨ρ1, W1, x1, R1, r1⟩ := g
    split at q
    case h_2 => exact q.elim
    rename_i j
    split at q
    case isFalse => exact q.elim
    rename_i hj
    simp only [RVR, VR, DR] at r1
    refine ⟨j, r1, ⟨by omega, by omega, hj.1, by omega, by omega⟩, fun a hn => ?_⟩
    have e0 : (j - 0).toNat = j.toNat := by rw [Int.sub_zero]
    unfold rgV
    rw [e0]
    exact q _ _ ((good_tup R1 hn (rg_vrs _)).ext R.base x1)
  | false =>
    simp only [Bool.false_eq_true, if_false] at h1 h2 ⊢
    refine PE.imp (pe_listRg o.calm (o.gl h1) (o.fa.bl _ h2) rg nc) fun σ H Q q => ?_
    obtain ⟨B, ρ, h, S, W, R, q⟩ := q
    simp only [evE, ens_bind] at q
    refine ⟨B, ρ, h, S, W, R, ens_mono q fun x h1 q v H1 g => ?_⟩
    obtain ⟨ρ1, W1, x1, R1, r1⟩ := g
    split at q
    case h_2 => exact q.elim
    rename_i j
    split at q
    case isFalse => exact q.elim
    rename_i hj
    simp only [RVR, VR, DR] at r1
    refine ⟨j, r1, ⟨by omega, by omega, hj.1, by omega, by omega⟩, fun a hn => ?_⟩
    have e0 : (j - 0).toNat = j.toNat := by rw [Int.sub_zero]
    unfold rgV
    rw [e0]
    exact q _ _ ((good_lst R1 hn (rg_vrs _)).ext R.base x1)
end
end Mp


set_option Elab.async false
set_option linter.all false
set_option maxRecDepth 10000
set_option maxHeartbeats 1000000
/-! Targets, walks, comprehensions. -/
namespace Mp
open PySem PySem.Spec PyProof.Rows L2
section
variable {T : Nm} {F : Fn} {cls : Nat → Addr} {N : List Str} {sc : Ks} {XW : WX} {X : Cx}
theorem RS.join {G : Gd} {B : ASet} {ρ ρ' : List Addr} {h h' : Hs} {S S' : List SV} {W W' : ASet} {σ σ' : L2.St} {H H' : Hp} (R : RS G B ρ h S W σ H) (x : Ext B ρ W H ρ' W' H') (R' : RS G B ρ' h' S' W' σ' H')
    (k : ∀ (i : Nat) c, S[i]? = some (SV.own c) → S'[i]? = some (SV.own c) ∧ σ'[i]? = σ[i]?) : RS G B ρ' h' S W' σ H' := by
  refine ⟨R'.len, R'.nd, R'.sub, R'.base, R'.out, R'.live, R'.cel, fun i s hi => ?_, R.dj⟩
  obtain ⟨o, ho, hs⟩ := R.sl i s hi
  refine ⟨o, ho, ?_⟩
  cases s with
  | no => trivial
  | v y =>
    obtain ⟨v, e, r⟩ := hs
    exact ⟨v, e, VR.mv x.sub x.pre _ _ r⟩
  | own c =>
    obtain ⟨e1, e2⟩ := k i c hi
    obtain ⟨o', ho', hs'⟩ := R'.sl i _ e1
    rw [e2, ho] at ho'
    cases ho'
    exact hs'
/-! ### targets -/
def rdG (G : Gd) (t : MT) : TG := fun v σ H Q => ∃ (B : ASet) (ρ : List Addr) (h : Hs) (S : List SV) (W : ASet) (x : AV) (S' : List SV), RS G B ρ h S W σ H ∧ VR G H W ρ x v ∧ evG h t x S = some S' ∧
  ∀ σ', RS G B ρ h S' W σ' H → σ'.length = σ.length → (∀ i, i ∉ slotsT t → σ'[i]? = σ[i]?) → Q σ' H
def rdGs (G : Gd) (ts : List MT) : TGs := fun vs σ H Q => ∃ (B : ASet) (ρ : List Addr) (h : Hs) (S : List SV) (W : ASet) (xs : List AV) (S' : List SV), RS G B ρ h S W σ H ∧ VRs G H W ρ xs vs ∧ evGs h ts xs S = some S' ∧
  ∀ σ', RS G B ρ h S' W σ' H → σ'.length = σ.length → (∀ i, i ∉ slotsTs ts → σ'[i]? = σ[i]?) → Q σ' H
theorem PG.imp {e : Expr} {t t' : TG} (h : PG X e t) (k : ∀ v σ H Q, t' v σ H Q → t v σ H Q) : PG X e t' := ⟨fun pins s σ H v u Q I r q => h.run pins s σ H v u Q I r (k _ _ _ _ q)⟩
theorem PGs.imp {e : List Expr} {t t' : TGs} (h : PGs X e t) (k : ∀ v σ H Q, t' v σ H Q → t v σ H Q) : PGs X e t' := ⟨fun pins s σ H v u Q I r q => h.run pins s σ H v u Q I r (k _ _ _ _ q)⟩
theorem PG.or {e : Expr} {t t' : TG} (h : PG X e t) (h' : PG X e t') : PG X e (fun v σ H Q => t v σ H Q ∨ t' v σ H Q) := ⟨fun pins s σ H v u Q I r q => by
  rcases q with q | q
  · exact h.run pins s σ H v u Q I r q
  · exact h'.run pins s σ H v u Q I r q⟩
theorem mG_star {t : MT} {e : Expr} (h : mG N sc t e = true) : isStar e = false := by
  cases t <;> cases e <;> simp [mG] at h <;> rfl
theorem mGs_each {ts : List MT} : ∀ {es : List Expr} (env : Env), mGs N sc ts es = true → assignEach es env = es.map (fun e => (false, assign e env)) ∧ es.length = ts.length := by
  induction ts with
  | nil => intro es env h; cases es with
    | nil => exact ⟨rfl, rfl⟩
    | cons _ _ => simp [mGs] at h
  | cons t ts ih => intro es env h; cases es with
    | nil => simp [mGs] at h
    | cons e es =>
      simp only [mGs, Bool.and_eq_true] at h
      obtain ⟨e1, e2⟩ := ih env h.2
      have hs := mG_star h.1
      refine ⟨?_, by simp [e2]⟩
      have : assignEach (e :: es) env = (false, assign e env) :: assignEach es env := by
        cases e <;> first | rfl | (simp [isStar] at hs)
      rw [this, e1]
      rfl
mutual
theorem tg_ok (o : OK T F cls N sc XW X) : ∀ (t : MT) (e : Expr), mG N sc t e = true → PG X e (rdG (gX X cls) t)
  | .nm i, e, h => by
    cases e <;> simp only [mG, Bool.false_eq_true] at h
    rename_i x pos
    simp only [Bool.and_eq_true, decide_eq_true_eq] at h
    obtain ⟨h1, h2⟩ := h
    have key : PG X (.Name x pos) (gName i) := by
      split at h2
      · rename_i e
        exact pg_name (by rw [o.eN]; exact o.nd) (by rw [o.eN]; exact h1) (.inl (o.vl x e)) (.inr (o.vl x e))
      · rename_i e
        exact pg_name (by rw [o.eN]; exact o.nd) (by rw [o.eN]; exact h1) (.inr (o.vc x e).1) (.inl (o.vc x e).2)
      · cases h2
    refine PG.imp key fun v σ H Q q => ?_
    obtain ⟨B, ρ, h, S, W, x, S', R, r, e, k⟩ := q
    simp only [evG, Option.some.injEq] at e
    subst e
    refine k _ (R.setV r) (by simp) fun j hj => ?_
    simp only [slotsT, List.mem_singleton] at hj
    rw [List.getElem?_set_ne (Ne.symm hj)]
  | .tp ts, e, h => by
    cases e <;> simp only [mG, Bool.false_eq_true] at h
    rename_i es k pos
    have sub := tgs_ok o ts es h
    obtain ⟨e1, e2⟩ := mGs_each X.env h
    have hn : (assignEach es X.env).length = ts.length := by rw [e1, List.length_map, e2]
    have hst : (assignEach es X.env).findIdx? (·.1) = none := by rw [e1]; simp
    refine PG.imp (PG.or (pg_tup o.calm sub hn hst) (pg_lst o.calm sub hn hst)) fun v σ H Q q => ?_
    obtain ⟨B, ρ, h, S, W, x, S', R, r, e, kk⟩ := q
    simp only [evG] at e
    split at e
    · rename_i xs ex
      obtain ⟨a, vs, rfl, l, rr⟩ := VR.vw R r ex
      refine .inl ⟨a, vs, rfl, l.sq, ?_, B, ρ, h, S, W, xs, S', R, rr, e, kk⟩
      rw [← rr.length]
      exact evGs_len e
    · rename_i xs ex
      obtain ⟨a, vs, rfl, l, rr⟩ := VR.vw R r ex
      refine .inr ⟨a, vs, rfl, SqL.of l, ?_, B, ρ, h, S, W, xs, S', R, rr, e, kk⟩
      rw [← rr.length]
      exact evGs_len e
    · cases e
theorem tgs_ok (o : OK T F cls N sc XW X) : ∀ (ts : List MT) (es : List Expr), mGs N sc ts es = true → PGs X es (rdGs (gX X cls) ts)
  | [], es, h => by
    cases es with
    | cons _ _ => simp [mGs] at h
    | nil =>
      refine PGs.imp pgs_nil fun v σ H Q q => ?_
      obtain ⟨B, ρ, h, S, W, xs, S', R, r, e, k⟩ := q
      cases xs with
      | nil =>
        simp only [evGs, Option.some.injEq] at e
        subst e
        simp only [VRs] at r
        exact ⟨r, k σ R rfl fun _ _ => rfl⟩
      | cons _ _ => simp [evGs] at e
  | t :: ts, es, h => by
    cases es with
    | nil => simp [mGs] at h
    | cons e es =>
      have h' := h
      simp only [mGs, Bool.and_eq_true] at h
      obtain ⟨e1, e2⟩ := mGs_each X.env h'
      obtain ⟨e3, e4⟩ := mGs_each X.env h.2
      refine PGs.imp (pgs_cons (tg_ok o t e h.1) (tgs_ok o ts es h.2) (by rw [e1, e3]; rfl)) fun v σ H Q q => ?_
      obtain ⟨B, ρ, h, S, W, xs, S', R, r, e, k⟩ := q
      cases xs with
      | nil => simp [evGs] at e
      | cons x xs =>
        simp only [evGs, Option.bind_eq_some_iff] at e
        obtain ⟨S1, g1, g2⟩ := e
        simp only [VRs] at r
        obtain ⟨u, us, rfl, ra, rb⟩ := r
        refine ⟨u, us, rfl, B, ρ, h, S, W, x, S1, R, ra, g1, fun σ1 R1 l1 o1 => ⟨B, ρ, h, S1, W, xs, S', R1, rb, g2, fun σ2 R2 l2 o2 => k σ2 R2 (l2.trans l1) fun i hi => ?_⟩⟩
        simp only [slotsTs, List.mem_append, not_or] at hi
        rw [o2 i hi.2, o1 i hi.1]
theorem evGs_len {h : Hs} : ∀ {ts : List MT} {xs : List AV} {S S' : List SV}, evGs h ts xs S = some S' → xs.length = ts.length
  | [], [], _, _, _ => rfl
  | [], _ :: _, _, _, e => by simp [evGs] at e
  | _ :: _, [], _, _, e => by simp [evGs] at e
  | t :: ts, x :: xs, S, S', e => by
    simp only [evGs, Option.bind_eq_some_iff] at e
    obtain ⟨S1, _, e⟩ := e
    simp [evGs_len e]
end
end
end Mp


set_option Elab.async false
set_option linter.all false
set_option maxRecDepth 10000
set_option maxHeartbeats 1000000
/-! Walks and comprehensions. -/
namespace Mp
open PySem PySem.Spec PyProof.Rows L2
section
variable {T : Nm} {F : Fn} {cls : Nat → Addr} {N : List Str} {sc : Ks} {XW : WX} {X : Cx}
variable {G : Gd} {B : ASet} {ρ ρ' : List Addr} {h h' : Hs} {S : List SV} {W W' : ASet} {σ : L2.St} {H H' : Hp}
/-- a list that stands still -/
theorem it_lst {K : PySem.W.Frag} (hK : G.K = K) {a : Addr} {vs : List V} {xs : List AV} (n : ¬ W a) (l : H a = some (.lst vs)) (r : VRs G H W ρ xs vs) : ItOk G (Itl K a) xs .fz ρ W H := by
  subst hK
  intro B ρ2 h2 S2 W2 σ2 H2 x R _ i
  have l2 := (x.out n l).2
  have r2 := VRs.mv x.sub x.pre xs vs r
  refine ⟨fun y hy => ?_, fun hi => ⟨vs, SqL.of l2, by rw [← r.length]; exact hi⟩⟩
  obtain ⟨v, hv, rv⟩ := r2.get hy
  refine ⟨⟨vs, v, SqL.of l2, hv⟩, fun v' H3 q => ?_⟩
  obtain ⟨rfl, q⟩ := q
  have := q vs (SqL.of l2)
  rw [hv] at this
  cases this
  exact ⟨Ext.refl, R, rv⟩
theorem it_tup {K : PySem.W.Frag} (hK : G.K = K) {a : Addr} {vs : List V} {xs : List AV} (l : TAt G.K H W a vs) (r : VRs G H W ρ xs vs) : ItOk G (Itt K a) xs .fz ρ W H := by
  subst hK
  intro B ρ2 h2 S2 W2 σ2 H2 x R _ i
  have l2 := (l.mv x.sub).sq
  have r2 := VRs.mv x.sub x.pre xs vs r
  refine ⟨fun y hy => ?_, fun hi => ⟨vs, l2, by rw [← r.length]; exact hi⟩⟩
  obtain ⟨v, hv, rv⟩ := r2.get hy
  refine ⟨⟨vs, v, l2, hv⟩, fun v' H3 q => ?_⟩
  obtain ⟨rfl, q⟩ := q
  have := q vs l2
  rw [hv] at this
  cases this
  exact ⟨Ext.refl, R, rv⟩
theorem it_cell {K : PySem.W.Frag} (hK : G.K = K) {a : Addr} {n : Nat} {xs : List AV} (ha : ρ[n]? = some a) : ItOk G (Itl K a) xs (.cell n (.lst xs)) ρ W H := by
  subst hK
  intro B ρ2 h2 S2 W2 σ2 H2 x R ok i
  obtain ⟨vs, l2, r2⟩ := R.cel n _ a ok (pre_get x.pre ha)
  refine ⟨fun y hy => ?_, fun hi => ⟨vs, SqL.of l2, by rw [← r2.length]; exact hi⟩⟩
  obtain ⟨v, hv, rv⟩ := r2.get hy
  refine ⟨⟨vs, v, SqL.of l2, hv⟩, fun v' H3 q => ?_⟩
  obtain ⟨rfl, q⟩ := q
  have := q vs (SqL.of l2)
  rw [hv] at this
  cases this
  exact ⟨Ext.refl, R, rv⟩
/-- the keys of a locked dict -/
theorem it_lck {a : Addr} {o : Obj} {kvs : List (Key × AV)} {es : List (Key × V)} (l : H a = some (.frz o (.dK es))) (r : VRk G H W ρ kvs es) : ItOk G (Itk a o es) (kvs.map fun p => kA p.1) .fz ρ W H := by
  intro B ρ2 h2 S2 W2 σ2 H2 x R _ i
  have l2 := x.lk _ _ _ l
  have ek := r.keys
  have len := r.length
  refine ⟨fun y hy => ?_, fun hi => ⟨l2, by rw [← len]; simpa using hi⟩⟩
  rw [List.getElem?_map, Option.map_eq_some_iff] at hy
  obtain ⟨⟨k, y'⟩, hz, rfl⟩ := hy
  have lt := (List.getElem?_eq_some_iff.mp hz).1
  refine ⟨⟨l2, by rw [← len]; exact lt⟩, fun v H3 q => ?_⟩
  obtain ⟨rfl, k2, v2, e2, rfl⟩ := q
  have e3 := congrArg (fun z => z[i]?) ek
  simp only [List.getElem?_map, hz, e2, Option.map_some, Option.some.injEq] at e3
  subst e3
  exact ⟨Ext.refl, R, VR.ofKey _⟩
theorem it_str {x : Str} : ItOk G (Its x) (x.cps.toList.map fun c => .d (.str ⟨#[c]⟩)) .fz ρ W H := by
  intro B ρ2 h2 S2 W2 σ2 H2 _ R _ i
  refine ⟨fun y hy => ?_, fun hi => (show x.cps.size ≤ i by simpa using hi)⟩
  have hl : i < x.cps.size := by
    have := (List.getElem?_eq_some_iff.mp hy).1
    simpa using this
  refine ⟨hl, fun v H3 q => ?_⟩
  obtain ⟨rfl, c, hc, rfl⟩ := q
  refine ⟨Ext.refl, R, ?_⟩
  rw [List.getElem?_map, Array.getElem?_toList, hc] at hy
  cases hy
  simp only [VR, DR]
theorem it_rng {lo : Int} {n : Nat} : ItOk G (Itr lo n) ((List.range n).map fun (k : Nat) => .d (.int (lo + k))) .fz ρ W H := by
  intro B ρ2 h2 S2 W2 σ2 H2 _ R _ i
  refine ⟨fun y hy => ?_, fun hi => (show n ≤ i by simpa using hi)⟩
  have hl : i < n := by
    have := (List.getElem?_eq_some_iff.mp hy).1
    simpa using this
  refine ⟨hl, fun v H3 q => ?_⟩
  obtain ⟨rfl, rfl⟩ := q
  refine ⟨Ext.refl, R, ?_⟩
  rw [List.getElem?_map, List.getElem?_range hl] at hy
  cases hy
  simp only [VR, DR]
/-- pairs of two lists that stand still -/
theorem it_zs {K : PySem.W.Frag} (hK : G.K = K) {a b : Addr} {vs us : List V} {xs ys : List AV} (n : ¬ W a) (l : H a = some (.lst vs)) (r : VRs G H W ρ xs vs) (n2 : ¬ W b) (l2 : H b = some (.lst us)) (r2 : VRs G H W ρ ys us) (hl : xs.length = ys.length) :
    ItOk G (ItS K a b) ((xs.zip ys).map fun p => mkTup [p.1, p.2]) .fz ρ W H := by
  subst hK
  intro B ρ2 h2 S2 W2 σ2 H2 x R _ i
  have la := (x.out n l).2
  have lb := (x.out n2 l2).2
  have ra := VRs.mv x.sub x.pre xs vs r
  have rb := VRs.mv x.sub x.pre ys us r2
  have e1 := ra.length
  have e2 := rb.length
  refine ⟨fun y hy => ?_, fun hi => ⟨vs, us, SqL.of la, SqL.of lb, ?_, ?_⟩⟩
  · rw [List.getElem?_map, Option.map_eq_some_iff] at hy
    obtain ⟨⟨p, q⟩, hz, rfl⟩ := hy
    obtain ⟨hp, hq⟩ := List.getElem?_zip_eq_some.mp hz
    obtain ⟨v, hv, rv⟩ := ra.get hp
    obtain ⟨u, hu, ru⟩ := rb.get hq
    refine ⟨⟨vs, us, v, u, SqL.of la, SqL.of lb, hv, hu⟩, fun v' H3 yl => ?_⟩
    obtain ⟨t, x', y', rfl, ht, rfl, f1, f2⟩ := yl
    have g1 := f1 vs (SqL.of la)
    have g2 := f2 us (SqL.of lb)
    rw [hv] at g1
    rw [hu] at g2
    cases g1
    cases g2
    have nw := (R.fresh ht).1
    refine ⟨Ext.lay ht, R.lay ht, ?_⟩
    refine WR.tup ⟨t, [v, u], rfl, .inl ⟨nw, .inl upd_same⟩, ?_⟩
    have sb := (Ext.lay (B := B) (W := W2) (ρ := ρ2) (o := .tup [v, u]) ht).sub
    simp only [VRs]
    exact ⟨v, _, rfl, VR.mv sb pre_refl _ _ rv, u, _, rfl, VR.mv sb pre_refl _ _ ru, rfl⟩
  · simp at hi
    omega
  · simp at hi
    omega
theorem PI.or {tg e : Expr} {t t' : TI} (h : PI X tg e t) (h' : PI X tg e t') : PI X tg e (fun σ H R => t σ H R ∨ t' σ H R) := ⟨fun pins s σ H R I q => by
  rcases q with q | q
  · exact h.run pins s σ H R I q
  · exact h'.run pins s σ H R I q⟩
theorem si_seq (o : OK T F cls N sc XW X) {tg e : Expr} {m : ME} (ha : PE X e (rdE (gX X cls) F XW m)) : PI X tg e (rdI (gX X cls) F XW (.seq m)) := by
  have key := PI.or (pi_list (tg := tg) ha) (PI.or (pi_tup (tg := tg) ha) (PI.or (pi_str (tg := tg) ha) (pi_keys (tg := tg) ha)))
  refine ⟨fun pins s σ H Q I q => ?_⟩
  obtain ⟨B, ρ, h, S, W, R, q⟩ := q
  simp only [evI, ens_bind] at q
  -- the value is reckoned: its kind is known
  cases ev : evE F m S h with
  | bad => rw [ev] at q; exact q.elim
  | exc e h1 =>
    rw [ev] at q
    refine key.run pins s σ H Q I (.inl ⟨B, ρ, h, S, W, R, ?_⟩)
    rw [ev]
    exact q
  | ok x h1 =>
    rw [ev] at q
    obtain ⟨p, ep, q⟩ := ens_ok1 q
    have nrm : ∀ v H1, EGood (gX X cls) B ρ W H S σ x h1 v H1 → ∃ ρ1 W1, Ext B ρ W H ρ1 W1 H1 ∧ RS (gX X cls) B ρ1 h1 S W1 σ H1 ∧ RVR (gX X cls) H1 W1 B ρ1 S σ x v := fun v H1 g => g
    unfold itO at ep
    split at ep
    · cases ep
      refine key.run pins s σ H Q I (.inl ⟨B, ρ, h, S, W, R, by
        rw [ev]
        intro v H1 g
        obtain ⟨ρ1, W1, x1, R1, r1⟩ := g
        simp only [RVR, VR, DR] at r1
        obtain ⟨a, vs, rfl, ⟨n, l⟩, r⟩ := r1
        exact ⟨a, rfl, ⟨vs, SqL.of l⟩, q _ _ ⟨ρ1, W1, x1, R1, it_lst rfl n l (DRs.toV _ _ r)⟩⟩⟩)
    · cases ep
      refine key.run pins s σ H Q I (.inr (.inl ⟨B, ρ, h, S, W, R, by
        rw [ev]
        intro v H1 g
        obtain ⟨ρ1, W1, x1, R1, r1⟩ := g
        simp only [RVR, VR, DR] at r1
        obtain ⟨a, vs, rfl, l, r⟩ := r1
        exact ⟨a, rfl, ⟨vs, l.sq⟩, q _ _ ⟨ρ1, W1, x1, R1, it_tup rfl l (DRs.toV _ _ r)⟩⟩⟩))
    · cases ep
      refine key.run pins s σ H Q I (.inr (.inr (.inl ⟨B, ρ, h, S, W, R, by
        rw [ev]
        intro v H1 g
        obtain ⟨ρ1, W1, x1, R1, r1⟩ := g
        simp only [RVR, VR, DR] at r1
        exact ⟨_, r1, q _ _ ⟨ρ1, W1, x1, R1, it_str⟩⟩⟩)))
    · rename_i t xs
      cases ep
      cases t with
      | true =>
        refine key.run pins s σ H Q I (.inr (.inl ⟨B, ρ, h, S, W, R, by
          rw [ev]
          intro v H1 g
          obtain ⟨ρ1, W1, x1, R1, r1⟩ := g
          simp only [RVR, VR] at r1
          obtain ⟨a, vs, rfl, l, r⟩ := r1
          have l : TAt (gX X cls).K H1 W1 a vs := l
          exact ⟨a, rfl, ⟨vs, l.sq⟩, q _ _ ⟨ρ1, W1, x1, R1, it_tup rfl l r⟩⟩⟩))
      | false =>
        refine key.run pins s σ H Q I (.inl ⟨B, ρ, h, S, W, R, by
          rw [ev]
          intro v H1 g
          obtain ⟨ρ1, W1, x1, R1, r1⟩ := g
          simp only [RVR, VR] at r1
          obtain ⟨a, vs, rfl, l, r⟩ := r1
          have l : ¬ W1 a ∧ H1 a = some (.lst vs) := l
          exact ⟨a, rfl, ⟨vs, SqL.of l.2⟩, q _ _ ⟨ρ1, W1, x1, R1, it_lst rfl l.1 l.2 r⟩⟩⟩)
    · rename_i xs
      cases ep
      refine key.run pins s σ H Q I (.inl ⟨B, ρ, h, S, W, R, by
        rw [ev]
        intro v H1 g
        obtain ⟨ρ1, W1, x1, R1, r1⟩ := g
        obtain ⟨a, rfl, h1, h2, h3, h4, vs, l, r⟩ := r1
        have R2 := R1.cut h2 h3 h4
        exact ⟨a, rfl, ⟨vs, SqL.of l⟩, q _ _ ⟨ρ1, cut W1 a, x1.trans Ext.cut R.base, R2, it_lst rfl (fun z => z.2 rfl) l (VRs.mv (Sub.less fun _ w => w.1) pre_refl _ _ r)⟩⟩⟩)
    · rename_i n
      split at ep
      · rename_i xs en
        cases ep
        refine key.run pins s σ H Q I (.inl ⟨B, ρ, h, S, W, R, by
          rw [ev]
          intro v H1 g
          obtain ⟨ρ1, W1, x1, R1, r1⟩ := g
          simp only [RVR, VR] at r1
          obtain ⟨a, ha, rfl⟩ := r1
          obtain ⟨vs, l, r⟩ := R1.cel n _ a en ha
          exact ⟨a, rfl, ⟨vs, SqL.of l⟩, q _ _ ⟨ρ1, W1, x1, R1, it_cell rfl ha⟩⟩⟩)
      · rename_i kvs en
        cases ep
        refine key.run pins s σ H Q I (.inr (.inr (.inr ⟨B, ρ, h, S, W, R, by
          rw [ev]
          intro v H1 g
          obtain ⟨ρ1, W1, x1, R1, r1⟩ := g
          simp only [RVR, VR] at r1
          obtain ⟨a, ha, rfl⟩ := r1
          obtain ⟨es, o, l, r⟩ := R1.cel n _ a en ha
          exact ⟨a, o, rfl, .inl ⟨es, l, q _ _ ⟨ρ1, W1, x1, R1, it_lck l r⟩⟩⟩⟩)))
      · cases ep
    · cases ep
theorem ls_ok {x : AV} {xs : List AV} {v : V} {G : Gd} {H : Hp} {W : ASet} {ρ : List Addr} (e : lsO x = some xs) (r : VR G H W ρ x v) : ∃ a vs, v = .ref a ∧ ¬ W a ∧ H a = some (.lst vs) ∧ VRs G H W ρ xs vs := by
  unfold lsO at e
  split at e
  · cases e
    simp only [VR, DR] at r
    obtain ⟨a, vs, rfl, ⟨n, l⟩, r⟩ := r
    exact ⟨a, vs, rfl, n, l, DRs.toV _ _ r⟩
  · cases e
    simp only [VR] at r
    obtain ⟨a, vs, rfl, l, r⟩ := r
    have l' : ¬ W a ∧ H a = some (.lst vs) := l
    exact ⟨a, vs, rfl, l'.1, l'.2, r⟩
  · cases e
theorem si_zs (o : OK T F cls N sc XW X) {elts : List Expr} {kk k3 : Nat} {e e2 : Expr} {m m2 : ME} {p pos tpos p3 kp : Pos} (h2 : glK sc ("zip" : Str) = true) (h3 : ("zip" : Str) ∈ T.bl) (hs : isStar e = false) (hs2 : isStar e2 = false)
    (ha : PA X [e, e2] (rdL (gX X cls) F XW [m, m2])) : PI X (.Tuple elts kk tpos) (.Call (.Name "zip" p) [e, e2] [⟨some "strict", .Constant (.bool true) k3 p3, kp⟩] pos) (rdI (gX X cls) F XW (.zs [m, m2])) := by
  refine PI.imp (pi_zs (o.gl h2) (o.fa.bl _ h3) ha (star_no hs [e2] _) (star_no hs2 [] _)) fun σ H Q q => ?_
  obtain ⟨B, ρ, h, S, W, R, q⟩ := q
  simp only [evI, ens_bind] at q
  refine ⟨B, ρ, h, S, W, R, ens_mono q fun xs h1 q vs H1 g => ?_⟩
  obtain ⟨ρ1, W1, x1, R1, r1⟩ := g
  obtain ⟨p, ep, q⟩ := ens_ok1 q
  unfold zsO at ep
  split at ep
  · simp only [Option.bind_eq_some_iff] at ep
    obtain ⟨xs, ex, ys, ey, ep⟩ := ep
    split at ep
    case isFalse => cases ep
    rename_i hl
    cases ep
    simp only [VRs] at r1
    obtain ⟨v, _, rfl, rv, u, _, rfl, ru, rfl⟩ := r1
    obtain ⟨a, vs, rfl, n, l, r⟩ := ls_ok ex rv
    obtain ⟨b, us, rfl, n2, l2, r2⟩ := ls_ok ey ru
    exact ⟨a, b, vs, us, rfl, SqL.of l, SqL.of l2, q _ _ ⟨ρ1, W1, x1, R1, it_zs rfl n l r n2 l2 r2 hl⟩⟩
  · cases ep
theorem rng_fin {ms : List ME} (σ : L2.St) (H : Hp) (Q : It → Hp → Prop) (q : rdI (gX X cls) F XW (.rng ms) σ H Q) : rdL (gX X cls) F XW ms σ H fun vs H1 => ∃ xs p h1, xs.length = ms.length ∧ rngO xs = some p ∧ ∃ (B : ASet) (ρ1 : List Addr) (S : List SV) (W1 : ASet), RS (gX X cls) B ρ1 h1 S W1 σ H1 ∧ VRs (gX X cls) H1 W1 ρ1 xs vs ∧ ∀ J, ItOk (gX X cls) J p.1 p.2 ρ1 W1 H1 → Q J H1 := by
  obtain ⟨B, ρ, h, S, W, R, q⟩ := q
  simp only [evI, ens_bind] at q
  refine ⟨B, ρ, h, S, W, R, ens_mono (ev_len q) fun xs h1 ⟨el, q⟩ vs H1 g => ?_⟩
  obtain ⟨ρ1, W1, x1, R1, r1⟩ := g
  obtain ⟨p, ep, q⟩ := ens_ok1 q
  exact ⟨xs, p, h1, el, ep, B, ρ1, S, W1, R1, r1, fun J it => q J H1 ⟨ρ1, W1, x1, R1, it⟩⟩
theorem si_rng1 (o : OK T F cls N sc XW X) {tg : Expr} {e : Expr} {m : ME} {p pos : Pos} (h2 : glK sc ("range" : Str) = true) (h3 : ("range" : Str) ∈ T.bl) (hs : isStar e = false)
    (ha : PA X [e] (rdL (gX X cls) F XW [m])) : PI X tg (.Call (.Name "range" p) [e] [] pos) (rdI (gX X cls) F XW (.rng [m])) := by
  refine PI.imp (pi_range1 (o.gl h2) (o.fa.bl _ h3) ha (star_no hs [] _)) fun σ H Q q => ?_
  obtain ⟨B, ρ, h, S, W, R, k⟩ := rng_fin σ H Q q
  refine ⟨B, ρ, h, S, W, R, ens_mono k fun xs h1 k vs H1 g => ?_⟩
  obtain ⟨ys, p, h1, el, ep, B, ρ1, S, W1, R1, r1, k⟩ := k vs H1 g
  unfold rngO at ep
  split at ep
  · split at ep
    · rename_i hz
      cases ep
      obtain ⟨v, rfl, rv⟩ := r1.one
      simp only [VR, DR] at rv
      subst rv
      exact ⟨_, rfl, hz.1, hz.2, k _ it_rng⟩
    · cases ep
  · simp at el
  · cases ep
theorem si_rng2 (o : OK T F cls N sc XW X) {tg : Expr} {e e2 : Expr} {m m2 : ME} {p pos : Pos} (h2 : glK sc ("range" : Str) = true) (h3 : ("range" : Str) ∈ T.bl) (hs : isStar e = false) (hs2 : isStar e2 = false)
    (ha : PA X [e, e2] (rdL (gX X cls) F XW [m, m2])) : PI X tg (.Call (.Name "range" p) [e, e2] [] pos) (rdI (gX X cls) F XW (.rng [m, m2])) := by
  refine PI.imp (pi_range2 (o.gl h2) (o.fa.bl _ h3) ha (by rw [star_no hs [e2] _, star_no hs2 [] _]; rfl) (star_no hs2 [] _)) fun σ H Q q => ?_
  obtain ⟨B, ρ, h, S, W, R, k⟩ := rng_fin σ H Q q
  refine ⟨B, ρ, h, S, W, R, ens_mono k fun xs h1 k vs H1 g => ?_⟩
  obtain ⟨ys, p, h1, el, ep, B, ρ1, S, W1, R1, r1, k⟩ := k vs H1 g
  unfold rngO at ep
  split at ep
  · simp at el
  · split at ep
    · rename_i hz
      cases ep
      simp only [VRs, VR, DR] at r1
      obtain ⟨v, r, rfl, rfl, u, r', rfl, rfl, rfl⟩ := r1
      exact ⟨_, _, rfl, hz, k _ it_rng⟩
    · cases ep
  · cases ep
/-! ### comprehensions -/
theorem wipe_get {σ : L2.St} {i : Nat} : ∀ {vs : List Nat}, (wipe σ vs)[i]? = if i ∈ vs then (σ[i]?).map fun _ => none else σ[i]?
  | [] => by simp [wipe]
  | v :: vs => by
    have ih := wipe_get (σ := σ) (i := i) (vs := vs)
    unfold wipe
    by_cases e : v = i
    · subst e
      rw [List.getElem?_set_self', ih]
      by_cases m : v ∈ vs <;> simp [m] <;> cases σ[v]? <;> rfl
    · rw [List.getElem?_set_ne e, ih]
      have : (i ∈ v :: vs) ↔ i ∈ vs := by simp [Ne.symm e]
      simp only [this]
theorem wipe_ext {σ σ' : L2.St} {vs : List Nat} (l : σ'.length = σ.length) (k : ∀ i, i ∉ vs → σ'[i]? = σ[i]?) : wipe σ' vs = wipe σ vs := by
  apply List.ext_getElem?
  intro i
  rw [wipe_get, wipe_get]
  by_cases m : i ∈ vs
  · simp only [m, if_true]
    by_cases hl : i < σ.length
    · rw [List.getElem?_eq_getElem hl, List.getElem?_eq_getElem (by rw [l]; exact hl)]; rfl
    · rw [List.getElem?_eq_none (by omega), List.getElem?_eq_none (by omega)]
  · simp only [m, if_false]
    exact k i m
theorem wipeS_get {S : List SV} {i : Nat} : ∀ {vs : List Nat}, (wipeS S vs)[i]? = if i ∈ vs then (S[i]?).map fun _ => SV.no else S[i]?
  | [] => by simp [wipeS]
  | v :: vs => by
    have ih := wipeS_get (S := S) (i := i) (vs := vs)
    unfold wipeS
    by_cases e : v = i
    · subst e
      rw [List.getElem?_set_self', ih]
      by_cases m : v ∈ vs <;> simp [m] <;> cases S[v]? <;> rfl
    · rw [List.getElem?_set_ne e, ih]
      have : (i ∈ v :: vs) ↔ i ∈ vs := by simp [Ne.symm e]
      simp only [this]
theorem RS.wipe {vs : List Nat} (R : RS G B ρ h S W σ H) : RS G B ρ h (wipeS S vs) W (L2.wipe σ vs) H := by
  refine R.weak fun i s hi => ?_
  rw [wipeS_get] at hi
  rw [wipe_get]
  by_cases m : i ∈ vs
  · simp only [m, if_true, Option.map_eq_some_iff] at hi ⊢
    obtain ⟨a, ha, rfl⟩ := hi
    obtain ⟨o, ho, _⟩ := R.sl i a ha
    exact .inl ⟨rfl, none, o, ho, rfl⟩
  · simp only [m, if_false] at hi ⊢
    exact .inr ⟨hi, trivial⟩
/-- a fresh list, guarded as a caller's thing while a block runs -/
theorem RS.guard (R : RS G B ρ h S W σ H) {p : Addr} (w : W p) (nb : ¬ B p) (nr : p ∉ ρ) (nf : Free S σ p) : RS G (add B p) ρ h S W σ H := by
  refine ⟨R.len, R.nd, R.sub, fun a b => ?_, fun a ha b => ?_, R.live, R.cel, fun i s hi => ?_, R.dj⟩
  · rcases b with b | b
    · exact R.base a b
    · rw [b]; exact w
  · rcases b with b | b
    · exact R.out a ha b
    · exact nr (b ▸ ha)
  · obtain ⟨o, ho, hs⟩ := R.sl i s hi
    refine ⟨o, ho, ?_⟩
    cases s with
    | no => trivial
    | v y => exact hs
    | own c =>
      obtain ⟨a, e, h1, h2, h3, h4⟩ := hs
      refine ⟨a, e, h1, fun b => ?_, h3, h4⟩
      rcases b with b | b
      · exact h2 b
      · exact nf i c hi (by rw [ho, e, b])
theorem RS.unguard (R : RS G (add B p) ρ h S W σ H) : RS G B ρ h S W σ H := by
  refine ⟨R.len, R.nd, R.sub, fun a b => R.base a (.inl b), fun a ha b => R.out a ha (.inl b), R.live, R.cel, fun i s hi => ?_, R.dj⟩
  obtain ⟨o, ho, hs⟩ := R.sl i s hi
  refine ⟨o, ho, ?_⟩
  cases s with
  | no => trivial
  | v y => exact hs
  | own c =>
    obtain ⟨a, e, h1, h2, h3, h4⟩ := hs
    exact ⟨a, e, h1, fun b => h2 (.inl b), h3, h4⟩
theorem Ext.unguard {p : Addr} (x : Ext (add B p) ρ W H ρ' W' H') : Ext B ρ W H ρ' W' H' := ⟨x.pre, fun a o n e => x.keep a o (n.imp id .inl) e, x.grow, x.live, x.lk⟩
theorem RS.freeB (R : RS G B ρ h S W σ H) {p : Addr} (b : B p) : Free S σ p := fun i c hi e => by
  obtain ⟨o, ho, hs⟩ := R.sl i _ hi
  obtain ⟨a, ea, _, nb, _⟩ := hs
  rw [e] at ho
  cases ho
  cases ea
  exact nb b
/-- an owned thing that no cell and no name is, changed -/
theorem RS.poke (R : RS G B ρ h S W σ H) {p : Addr} {o : HO} (w : W p) (nr : p ∉ ρ) (nf : Free S σ p) : RS G B ρ h S W σ (upd H p o) := by
  have x : Sub W H W (upd H p o) := sub_set w
  refine ⟨R.len, R.nd, R.sub, R.base, R.out, fun a w => upd_live (R.live a w), fun i c a hi ha => ?_, fun i s hi => ?_, R.dj⟩
  · have ne : a ≠ p := fun z => nr (z ▸ List.mem_of_getElem? ha)
    exact (R.cel i c a hi ha).mv x pre_refl fun u e => by rw [upd_ne ne]; exact e
  · obtain ⟨u, hu, hs⟩ := R.sl i s hi
    refine ⟨u, hu, ?_⟩
    cases s with
    | no => trivial
    | v y =>
      obtain ⟨v, e, r⟩ := hs
      exact ⟨v, e, VR.mv x pre_refl _ _ r⟩
    | own c =>
      obtain ⟨a, e, h1, h2, h3, h4⟩ := hs
      have ne : a ≠ p := nf.ne hi (by rw [hu, e])
      exact ⟨a, e, h1, h2, h3, h4.mv x pre_refl fun u e => by rw [upd_ne ne]; exact e⟩
theorem Ext.poke {p : Addr} {o u : HO} (w : W p) (nb : ¬ B p) (e : H p = some u) (nf : ∀ o v, u ≠ .frz o v := by intro _ _ z; exact nomatch z) : Ext B ρ W H ρ W (upd H p o) := by
  refine ⟨⟨[], by simp⟩, fun a v n q => ?_, fun _ w => .inl w, fun a q => ?_, fun a v y q => by
    rw [upd_ne fun z => by subst z; rw [e] at q; cases q; exact nf _ _ rfl]; exact q⟩
  · rw [upd_ne]
    · exact q
    · intro z
      subst z
      rcases n with n | n
      · exact n w
      · exact nb n
  · by_cases z : a = p
    · subst z; rw [upd_same] at q; cases q
    · rw [upd_ne z] at q; exact q
/-- a block's scope -/
theorem relabel_get {scope : Scope} {env : Env} {x : Str} : (relabel scope env).names.lookup x = (scope.names.lookup x).map fun k => if (k == .free && env.scope.kind == .function && env.kindOf x == some .cell) = true then .cell else k := by
  have key : ∀ l : List (Str × NameKind), (l.map fun (n, k) => if (k == NameKind.free && env.scope.kind == .function && env.kindOf n == some .cell) = true then (n, NameKind.cell) else (n, k)).lookup x
      = (l.lookup x).map fun k => if (k == .free && env.scope.kind == .function && env.kindOf x == some .cell) = true then .cell else k := by
    intro l
    induction l with
    | nil => rfl
    | cons p l ih =>
      obtain ⟨n, k⟩ := p
      simp only [List.map_cons]
      by_cases e : x = n
      · subst e
        split <;> simp_all [List.lookup]
      · have e' : (x == n) = false := by simpa using e
        split <;> simp only [List.lookup, e', ih]
  exact key scope.names
theorem OK.blk (o : OK T F cls N sc XW X) {scope : Scope} (hk : scope.kind = .function) {s : Shared} {H : Hp} {cl : List (Str × Addr)} {C : Addr} {fp : List Addr} : OK T F cls N scope.names (fun _ _ _ _ => False) (X.blk s H scope (compEnvC scope cl C X.env) fp) := by
  have lk : ∀ x, (compEnvC scope cl C X.env).scope.names.lookup x = (scope.names.lookup x).map fun k => if (k == .free && X.env.scope.kind == .function && X.env.kindOf x == some .cell) = true then .cell else k := fun x => relabel_get
  refine ⟨o.fa, o.eN, o.nd, o.calm, hk, fun x e => ?_, fun x e => ⟨?_, ?_⟩, fun x e => ?_, fun x e => ?_, takes0, PassesOwn.never⟩
  · rw [lk, e]; rfl
  · rw [lk, e]; rfl
  · show (scope.names.lookup x == some .cell) = true
    rw [e]; rfl
  · rw [lk, e]
    simp only [Option.map_some]
    split
    · exact .inr rfl
    · exact .inl rfl
  · rw [lk, e]; rfl
theorem OK.blkOk (o : OK T F cls N sc XW X) {scope : Scope} {own : List (Str × Nat)} (h : blkC N { kind := .function, names := sc, isGenerator := false, isCoroutine := false } scope own = true) : BlkOk X.N X.env.scope scope own := by
  have b := blkOk_by h
  rw [o.eN]
  refine ⟨b.kind, b.uniq, b.ix, fun y hy hf => ?_, b.own⟩
  rcases b.free y hy hf with e | e
  · exact .inl (o.vc _ e).1
  · exact (o.vf _ e).symm
end
end Mp


set_option Elab.async false
set_option linter.all false
set_option maxRecDepth 10000
set_option maxHeartbeats 1000000
/-! Comprehensions; all expressions. -/
namespace Mp
open PySem PySem.Spec PyProof.Rows L2
section
variable {T : Nm} {F : Fn} {cls : Nat → Addr} {N : List Str} {sc : Ks} {XW : WX} {X : Cx}
theorem noX_ens {α : Type} {r : Res α} {P : α → Hs → Prop} {E E' : Ex → Hs → Prop} (h : r.noX.ens P E) : r.ens P E' := by
  cases r with
  | ok a g => exact h
  | exc e g => exact h.elim
  | bad => exact h.elim
theorem noX_ens' {α : Type} {r : Res α} {P : α → Hs → Prop} {E : Ex → Hs → Prop} (h : r.noX.ens P E) : r.ens P fun _ _ => False := noX_ens h
mutual
theorem evG_out {h : Hs} : ∀ {t : MT} {x : AV} {S S' : List SV} {i : Nat}, evG h t x S = some S' → i ∉ slotsT t → S'[i]? = S[i]?
  | .nm j, x, S, S', i, e, hi => by
    simp only [evG, Option.some.injEq] at e
    subst e
    simp only [slotsT, List.mem_singleton] at hi
    rw [List.getElem?_set_ne (Ne.symm hi)]
  | .tp ts, x, S, S', i, e, hi => by
    simp only [evG] at e
    split at e
    · exact evGs_out e hi
    · exact evGs_out e hi
    · cases e
theorem evGs_out {h : Hs} : ∀ {ts : List MT} {xs : List AV} {S S' : List SV} {i : Nat}, evGs h ts xs S = some S' → i ∉ slotsTs ts → S'[i]? = S[i]?
  | [], [], S, S', i, e, hi => by simp only [evGs, Option.some.injEq] at e; subst e; rfl
  | [], _ :: _, S, S', i, e, hi => by simp [evGs] at e
  | _ :: _, [], S, S', i, e, hi => by simp [evGs] at e
  | t :: ts, x :: xs, S, S', i, e, hi => by
    simp only [evGs, Option.bind_eq_some_iff] at e
    obtain ⟨S1, e1, e2⟩ := e
    simp only [slotsTs, List.mem_append, not_or] at hi
    rw [evGs_out e2 hi.2, evG_out e1 hi.1]
end
def rdTo (G : Gd) (F : Fn) (XW : WX) (m : Option MC) : TT := fun σ H Q => ∃ (B : ASet) (ρ : List Addr) (h : Hs) (S : List SV) (W : ASet), RS G B ρ h S W σ H ∧
  (evTo F m S h).ens (fun b h' => ∀ H', BGood G B ρ W H S σ h' H' → Q b H') (fun e h' => ∀ c d H', XGood G B ρ W H S σ e h' c d H' → XW c d σ H')
abbrev XW0 : WX := fun _ _ _ _ => False
theorem Ext.guardN {B : ASet} {ρ ρ' : List Addr} {W W' : ASet} {H H' : Hp} {p : Addr} (x : Ext B ρ W H ρ' W' H') (n : H p = none) : Ext (add B p) ρ W H ρ' W' H' := by
  refine ⟨x.pre, fun a o k e => ?_, x.grow, x.live, x.lk⟩
  rcases k with k | k | k
  · exact x.keep a o (.inl k) e
  · exact x.keep a o (.inr k) e
  · rw [k, n] at e; cases e
abbrev ownN (N : List Str) (own : List Nat) : List (Str × Nat) := own.map fun i => (N.getD i "", i)
theorem ownN_snd (N : List Str) (own : List Nat) : (ownN N own).map (·.2) = own := by
  unfold ownN
  rw [List.map_map]
  exact List.map_id own
theorem lcm_rd {me : ME} {mt : MT} {mi : MI} {mco : Option MC} {own : List Nat} (hsl : ∀ i ∈ slotsT mt, i ∈ own) (σ : L2.St) (H : Hp) (Q : VK) (q : rdE (gX X cls) F XW (.lcm me mt mi mco own) σ H Q) :
    tLc (rdI (gX X cls) F XW mi) (rdG (gX X cls) mt) (rdTo (gX X cls) F XW0 mco) (rdE (gX X cls) F XW0 me) own σ H Q := by
  obtain ⟨B, ρ, h, S, W, R, q⟩ := q
  simp only [evE] at q
  split at q
  case isFalse => exact q.elim
  rename_i hno
  simp only [ens_bind] at q
  refine ⟨B, ρ, h, S, W, R, ens_mono q fun p h1 q J H1 g => ?_⟩
  obtain ⟨ρ1, W1, x1, R1, it⟩ := g
  obtain ⟨its, src⟩ := p
  intro d hd
  obtain ⟨n1, n2, n3, n4⟩ := R1.fresh hd
  have R2 : RS (gX X cls) (add B d) ρ1 h1 S (add W1 d) σ (upd H1 d (.lst [])) := (R1.layO hd).guard (.inr rfl) n2 n3 n4
  have nOwn : ∀ (i : Nat) c, S[i]? = some (SV.own c) → i ∉ own := fun i c hi hm => by
    have := (List.all_eq_true.mp hno) i hm
    rw [hi] at this
    cases this
  have x0 : Ext B ρ1 W1 H1 ρ1 (add W1 d) (upd H1 d (.lst [])) := Ext.layO hd
  let Iv : Nat → Hp → Prop := fun i H2 => i ≤ its.length ∧ ∃ (ρ2 : List Addr) (h2 : Hs) (W2 : ASet) (acc : List AV) (vs : List V), Ext B ρ1 W1 H1 ρ2 W2 H2 ∧ RS (gX X cls) (add B d) ρ2 h2 S W2 σ H2 ∧ H2 d = some (.lst vs) ∧ VRs (gX X cls) H2 W2 ρ2 acc vs ∧
    (lcGo (fun S h => (evE F me S h).bind toV1) (fun S h => evTo F mco S h) mt src (wipeS S own) (its.drop i) acc h2).ens (fun rv h' => ∀ v H', EGood (gX X cls) B ρ W H S σ rv h' v H' → Q v H') (fun e h' => ∀ c d H', XGood (gX X cls) B ρ W H S σ e h' c d H' → XW c d σ H')
  refine ⟨fun i m H2 => m = its.length - i ∧ Iv i H2, ⟨its.length, by omega, Nat.zero_le _, ρ1, h1, add W1 d, [], [], x0, R2, upd_same, by simp only [VRs], q⟩, ?_⟩
  rintro i m H2 ⟨rfl, hle, ρ2, h2, W2, acc, vs, x2, R3, l3, r3, q3⟩
  have w2 : W2 d := R3.base d (.inr rfl)
  have nr2 : d ∉ ρ2 := fun z => R3.out d z (.inr rfl)
  have x2g : Ext (add B d) ρ1 W1 H1 ρ2 W2 H2 := x2.guardN hd
  cases hx : its[i]? with
  | none =>
    have hi : its.length ≤ i := List.getElem?_eq_none_iff.mp hx
    have hd0 : its.drop i = [] := List.drop_eq_nil_iff.mpr hi
    rw [hd0] at q3
    simp only [lcGo] at q3
    split at q3
    case isFalse => exact q3.elim
    rename_i hsrc
    exact .inl ⟨(it (add B d) ρ2 h2 S W2 σ H2 x2g R3 hsrc i).2 hi, q3 _ _ ⟨ρ2, W2, x1.trans x2 R.base, R3.unguard, d, rfl, w2, n2, nr2, R3.freeB (.inr rfl), vs, l3, r3⟩⟩
  | some x =>
    have hlt : i < its.length := (List.getElem?_eq_some_iff.mp hx).1
    have hd1 : its.drop i = x :: its.drop (i + 1) := by
      rw [List.drop_eq_getElem_cons hlt, (List.getElem?_eq_some_iff.mp hx).2]
    rw [hd1] at q3
    simp only [lcGo] at q3
    split at q3
    case isFalse => exact q3.elim
    rename_i hsrc
    obtain ⟨go, yl⟩ := (it (add B d) ρ2 h2 S W2 σ H2 x2g R3 hsrc i).1 x hx
    refine .inr ⟨go, Iv (i + 1), fun H' hv => ⟨its.length - (i + 1), by omega, rfl, hv⟩, fun v H3 hy => ?_⟩
    obtain ⟨x3, R4, rx⟩ := yl v H3 hy
    split at q3
    case h_2 => exact q3.elim
    rename_i S' eg
    refine ⟨add B d, ρ2, h2, _, W2, x, S', R4.wipe, rx, eg, fun σ2 R5 hlen hout => ⟨?_, ?_⟩⟩
    · refine wipe_ext (by rw [hlen, wipe_length]) fun j hj => ?_
      rw [hout j fun z => hj (hsl j z), wipe_out hj]
    have keepOwn : ∀ (j : Nat) c, S[j]? = some (SV.own c) → S'[j]? = some (SV.own c) ∧ σ2[j]? = σ[j]? := fun j c hj => by
      have nj := nOwn j c hj
      have ns : j ∉ slotsT mt := fun z => nj (hsl j z)
      exact ⟨by rw [evG_out eg ns, wipeS_get, if_neg nj]; exact hj, by rw [hout j ns, wipe_out nj]⟩
    rw [ens_bind] at q3
    refine ⟨add B d, ρ2, h2, S', W2, R5, ens_ext (noX_ens' q3) (fun b h3 q4 H4 g4 => ?_) fun e h' k c d H' g => k.elim⟩
    obtain ⟨ρ3, W3, x4, R6⟩ := g4
    have x34 := x3.trans x4 R3.base
    split at q4
    · rename_i hb
      subst hb
      rw [if_pos rfl]
      rw [ens_bind] at q4
      have q5 := noX_ens' q4
      rw [ens_bind] at q5
      refine ⟨add B d, ρ3, h3, S', W3, R6, ens_ext q5 (fun rv h4 q6 v4 H5 g5 => ?_) fun e h' k c d H' g => k.elim⟩
      obtain ⟨y, ey, q6⟩ := ens_ok1 q6
      obtain ⟨ρ4, W4, x5, R7, ry⟩ := g5.toV ey R6.base
      have x35 := x34.trans x5 R3.base
      have l5 : H5 d = some (.lst vs) := x35.keep d _ (.inr (.inr rfl)) l3
      have r5 := VRs.mv x35.sub x35.pre _ _ r3
      split at q6
      case isFalse => exact q6.elim
      rename_i hz
      refine ⟨vs, l5, by rw [← r3.length]; exact hz, hlt, ρ4, h4, W4, acc ++ [y], vs ++ [v4], ?_, ?_, upd_same, ?_, q6⟩
      · exact (x2.trans x35.unguard R1.base).trans (Ext.poke (R7.base d (.inr rfl)) n2 l5) R1.base
      · exact (R3.join x35 R7 keepOwn).poke (R7.base d (.inr rfl)) (fun z => R7.out d z (.inr rfl)) ((R3.join x35 R7 keepOwn).freeB (.inr rfl))
      · have sb : Sub W4 H5 W4 (upd H5 d (.lst (vs ++ [v4]))) := sub_set (R7.base d (.inr rfl))
        exact (VRs.mv sb pre_refl _ _ r5).snoc (VR.mv sb pre_refl _ _ ry)
    · rename_i hb
      rw [if_neg hb]
      have l5 : H4 d = some (.lst vs) := x34.keep d _ (.inr (.inr rfl)) l3
      exact ⟨hlt, ρ3, h3, W3, acc, vs, x2.trans x34.unguard R1.base, R3.join x34 R6 keepOwn, l5, VRs.mv x34.sub x34.pre _ _ r3, q4⟩
theorem st_lcm (o : OK T F cls N sc XW X) {elt tg iter : Expr} {ifs : List Expr} {scope : Scope} {pos : Pos} {me : ME} {mt : MT} {mi : MI} {mco : Option MC} {own : List Nat}
    (hi : PI X tg iter (rdI (gX X cls) F XW mi)) (hb : blkC N { kind := .function, names := sc, isGenerator := false, isCoroutine := false } scope (ownN N own) = true) (hsl : ∀ i ∈ slotsT mt, i ∈ own)
    (hg : ∀ X' : Cx, OK T F cls N scope.names XW0 X' → PG X' tg (rdG (gX X' cls) mt)) (he : ∀ X' : Cx, OK T F cls N scope.names XW0 X' → PE X' elt (rdE (gX X' cls) F XW0 me))
    (ht : ∀ X' : Cx, OK T F cls N scope.names XW0 X' → PTs X' ifs (rdTo (gX X' cls) F XW0 mco)) (hs : ∀ x, foldedSetIterable iter X.env x = pure x) :
    PE X (.ListComp elt [⟨tg, iter, ifs, 0⟩] scope pos) (rdE (gX X cls) F XW (.lcm me mt mi mco own)) := by
  exact PE.imp (pe_lc (own := ownN N own) (g := rdG (gX X cls) mt) (tt := rdTo (gX X cls) F XW0 mco) (te := rdE (gX X cls) F XW0 me) o.calm (by rw [o.eN]; exact o.nd) hi (o.blkOk hb) (fun s H C cl fp => hg _ (o.blk (blkOk_by hb).kind)) (fun s H C cl fp => ht _ (o.blk (blkOk_by hb).kind)) (fun s H C cl fp => he _ (o.blk (blkOk_by hb).kind)) hs) fun σ H Q q => by rw [ownN_snd]; exact lcm_rd hsl σ H Q q
end
end Mp


set_option Elab.async false
set_option linter.all false
set_option maxRecDepth 10000
set_option maxHeartbeats 1000000
/-! Displays, sets, own classes, methods, fields; enumerate, zip. -/
namespace Mp
open PySem PySem.Spec PyProof.Rows L2
section
variable {T : Nm} {F : Fn} {cls : Nat → Addr} {N : List Str} {sc : Ks} {XW : WX} {X : Cx}
/-! ### displays of dicts -/
def trsK (G : Gd) (F : Fn) (XW : WX) : List ME → List (TE × TE)
  | k :: v :: r => (rdE G F XW k, rdE G F XW v) :: trsK G F XW r
  | _ => []
def unflat : List V → List (V × V)
  | x :: y :: r => (x, y) :: unflat r
  | _ => []
theorem pairs_ok {G : Gd} : ∀ (kvs : List ME) {B : ASet} {ρ : List Addr} {h : Hs} {S : List SV} {W : ASet} {σ : L2.St} {H : Hp} {Q : List (V × V) → Hp → Prop}, kvs.length % 2 = 0 → RS G B ρ h S W σ H →
    (evL F kvs S h).ens (fun xs h' => ∀ vs H', LGood G B ρ W H S σ xs h' vs H' → Q (unflat vs) H') (fun e h' => ∀ c d H', XGood G B ρ W H S σ e h' c d H' → XW c d σ H') → tPairs (trsK G F XW kvs) σ H Q
  | [], B, ρ, h, S, W, σ, H, Q, _, R, q => q [] H ⟨ρ, W, Ext.refl, R, by simp only [VRs]⟩
  | [_], B, ρ, h, S, W, σ, H, Q, e, R, q => by simp at e
  | k :: v :: r, B, ρ, h, S, W, σ, H, Q, e, R, q => by
    simp only [evL, ens_bind] at q
    refine ⟨B, ρ, h, S, W, R, ens_mono q fun x h1 q vx H1 g => ?_⟩
    obtain ⟨y, ey, q⟩ := ens_ok1 q
    obtain ⟨ρ1, W1, x1, R1, r1⟩ := g.toV ey R.base
    refine ⟨B, ρ1, h1, S, W1, R1, ens_ext q (fun z h2 q vz H2 g2 => ?_) fun e h' k c d H' g => k c d H' (g.ext R.base x1)⟩
    obtain ⟨z', ez, q⟩ := ens_ok1 q
    obtain ⟨ρ2, W2, x2, R2, r2⟩ := g2.toV ez R1.base
    have x12 := x1.trans x2 R.base
    refine pairs_ok r (by simp only [List.length_cons] at e; omega) R2 (ens_ext q (fun xs h3 q vs H3 g3 => ?_) fun e h' k c d H' g => k c d H' (g.ext R.base x12))
    obtain ⟨ρ3, W3, x3, R3, r3⟩ := g3
    refine q (vx :: vz :: vs) H3 ⟨ρ3, W3, x12.trans x3 R.base, R3, ?_⟩
    simp only [VRs]
    exact ⟨vx, _, rfl, VR.mv (x2.trans x3 R1.base).sub (x2.trans x3 R1.base).pre _ _ r1, vz, vs, rfl, VR.mv x3.sub x3.pre _ _ r2, r3⟩
theorem disp_ok {G : Gd} {H : Hp} {W : ASet} {ρ : List Addr} : ∀ {xs : List AV} {vs : List V} {acc ys : List (Key × AV)} {es : List (Key × V)}, disp xs acc = some ys → VRs G H W ρ xs vs → VRk G H W ρ acc es →
    ∃ kvs : List (Key × V), unflat vs = kvs.map (fun kv => (kV kv.1, kv.2)) ∧ 2 * kvs.length = xs.length ∧ VRk G H W ρ ys (mergeK es kvs)
  | [], vs, acc, ys, es, e, r, a => by
    simp only [disp, Option.some.injEq] at e
    subst e
    simp only [VRs] at r
    subst r
    exact ⟨[], rfl, rfl, a⟩
  | [_], vs, acc, ys, es, e, r, a => by simp [disp] at e
  | k :: v :: xs, vs, acc, ys, es, e, r, a => by
    simp only [disp, Option.bind_eq_some_iff] at e
    obtain ⟨q, eq, e⟩ := e
    simp only [VRs] at r
    obtain ⟨u, r', rfl, ru, w, r'', rfl, rw', rr⟩ := r
    obtain rfl := VR.key eq ru
    obtain ⟨kvs, h1, h2, h3⟩ := disp_ok e rr (a.put rw')
    refine ⟨(q, w) :: kvs, by simp [unflat, h1], by simp only [List.length_cons]; omega, h3⟩
theorem st_dct (o : OK T F cls N sc XW X) {kvs : List ME} {ks : List (Option Expr)} {vs : List Expr} {pos : Pos} (hp : PPs X pos ks vs (trsK (gX X cls) F XW kvs)) (he : kvs.length % 2 = 0) (hall : ks.all (·.isSome) = true) (hl : ks.length = vs.length) (h15 : ks.length ≤ 15) (hk : kvs.length = 2 * ks.length) :
    PE X (.Dict ks vs pos) (rdE (gX X cls) F XW (.dct kvs)) := by
  by_cases h0 : ks = []
  · subst h0
    have vs0 : vs = [] := List.length_eq_zero_iff.mp hl.symm
    have kv0 : kvs = [] := List.length_eq_zero_iff.mp (by simpa using hk)
    subst vs0 kv0
    refine PE.imp pe_dnewK fun σ H Q q => ?_
    obtain ⟨B, ρ, h, S, W, R, q⟩ := q
    intro p hp
    exact q _ _ (good_dic0 R hp)
  · refine PE.imp (pe_disp hp hall hl h0 h15) fun σ H Q q => ?_
    obtain ⟨B, ρ, h, S, W, R, q⟩ := q
    simp only [evE, ens_bind] at q
    intro p hp
    obtain ⟨n1, n2, n3, n4⟩ := R.fresh hp
    have R2 : RS (gX X cls) (add B p) ρ h S (add W p) σ (upd H p (.dK [])) := (R.layO hp).guard (.inr rfl) n2 n3 n4
    have x0 : Ext B ρ W H ρ (add W p) (upd H p (.dK [])) := Ext.layO hp
    refine pairs_ok kvs he R2 (ens_ext (ev_len q) (fun xs h1 ⟨hlen, q⟩ vs H1 g => ?_) fun e h' k c d H' g => k c d H' ?_)
    · obtain ⟨ρ1, W1, x1, R1, r1⟩ := g
      have l1 : H1 p = some (.dK []) := x1.keep p _ (.inr (.inr rfl)) upd_same
      obtain ⟨rv, e, q⟩ := ens_ok1 q
      simp only [Option.map_eq_some_iff] at e
      obtain ⟨ys, e, rfl⟩ := e
      obtain ⟨kv2, e1, e2, e3⟩ := disp_ok (es := []) e r1 (by simp only [VRk])
      refine ⟨l1, kv2, e1, ?_, q _ _ ?_⟩
      · omega
      · have wp : W1 p := R1.base p (.inr rfl)
        exact ⟨ρ1, W1, (x0.trans x1.unguard R.base).trans (Ext.poke wp n2 l1) R.base, (R1.poke wp (fun z => R1.out p z (.inr rfl)) (R1.freeB (.inr rfl))).unguard, p, rfl, wp, n2, fun z => R1.out p z (.inr rfl), R1.freeB (.inr rfl), _, upd_same, e3.mv (sub_set wp) pre_refl⟩
    · obtain ⟨ρ1, W1, x1, R1, r1⟩ := g
      exact ⟨ρ1, W1, x0.trans x1.unguard R.base, R1.unguard, r1⟩
/-- set() -/
theorem st_set0 (o : OK T F cls N sc XW X) {p pos : Pos} (h1 : glK sc ("set" : Str) = true) (h2 : ("set" : Str) ∈ T.bl) : PE X (.Call (.Name "set" p) [] [] pos) (rdE (gX X cls) F XW .set0) := by
  refine PE.imp (pe_callTy0 cr_setX0 (o.gl h1) (o.fa.bl _ h2) (by decide +kernel) (by decide +kernel) (by decide +kernel)) fun σ H Q q => ?_
  obtain ⟨B, ρ, h, S, W, R, q⟩ := q
  refine ⟨rfl, fun p hp => q _ _ (good_new R hp ⟨List.nodup_nil, upd_same⟩)⟩
/-! ### fields -/
theorem st_fld (o : OK T F cls N sc XW X) {cs : List Nat} {e : Expr} {m : ME} {a : Str} {pos : Pos} (hsup : noSuper e = true) (hf : ∀ c ∈ cs, (c, a) ∈ T.fls) (ha : PE X e (rdE (gX X cls) F XW m)) : PE X (.Attribute e a pos) (rdE (gX X cls) F XW (.fld cs m a)) := by
  refine PE.imp (pe_fld ha (base_plain hsup _ _ _)) fun σ H Q q => ?_
  obtain ⟨B, ρ, h, S, W, R, q⟩ := q
  simp only [evE, ens_bind] at q
  refine ⟨B, ρ, h, S, W, R, ens_mono q fun x h1 q v H1 g => ?_⟩
  obtain ⟨ρ1, W1, x1, R1, r1⟩ := g
  split at q
  case h_2 => exact q.elim
  rename_i c fs e
  split at q
  case isFalse => exact q.elim
  rename_i hc
  obtain ⟨p, dx, es, rfl, l, r⟩ := RVR.vw R1 r1 e
  obtain ⟨rv, e2, q⟩ := ens_ok1 q
  simp only [Option.map_eq_some_iff] at e2
  obtain ⟨y, ey, rfl⟩ := e2
  obtain ⟨w, ew, rw'⟩ := r.look ey
  obtain ⟨c1, c2⟩ := o.fa.fl c a (hf c hc)
  exact ⟨p, _, dx, es, w, rfl, l, c1, c2, ew, q _ _ ⟨ρ1, W1, x1, R1, rw'⟩⟩
/-! ### own methods -/
theorem form_ok {env : Env} {as : List Expr} {pos : Pos} (hs : ∀ e ∈ as, isStar e = false) (hfew : as.length < 20) : methodCallForm (as.length + ([] : List Keyword).length) (backTo pos (starEach as env)) (backToKw pos (keywordEach [] env)) = true := by
  unfold methodCallForm
  rw [all_star _ _ hs]
  simp [backToKw, keywordEach]
  omega
theorem meth_eq {env : Env} {oe : Expr} {m : Str} {apos pos : Pos} {as : List Expr} (hb : attributeBase oe m env (eval oe env) = eval oe env) (hs : ∀ e ∈ as, isStar e = false) (hfew : as.length < 20) (hl : (apos.endLine == pos.line) = true) :
    eval (.Call (.Attribute oe m apos) as [] pos) env = (do
      let ov ← eval oe env
      standAt apos.atName
      let (f, first) ← holding [ov] (getMethod ov m (do return (← importBound oe env).getD true))
      callWith pos f first (backTo pos (starEach as env)) (backToKw pos (keywordEach [] env))) := by
  rw [arm_eval_Call, hb]
  congr 1
  funext ov
  congr 1
  funext _
  unfold methodCall
  rw [form_ok hs hfew]
  simp only [calleeOf, methodCallPos, hl, Bool.not_true, Bool.false_or, if_true]
  congr 1
theorem st_cam (o : OK T F cls N sc XW X) {f c : Nat} {m : Str} {e : Expr} {as : List Expr} {me : ME} {ms : List ME} {apos pos : Pos} (hm : T.mts.lookup f = some (c, m, ms.length)) (hl : (apos.endLine == pos.line) = true) (hsup : noSuper e = true) (hfew : as.length < 20)
    (hs : ∀ y ∈ as, isStar y = false) (hlen : ms.length = as.length) (ha : PE X e (rdE (gX X cls) F XW me)) (hb : PA X as (rdL (gX X cls) F XW ms)) : PE X (.Call (.Attribute e m apos) as [] pos) (rdE (gX X cls) F XW (.cam f c m me ms)) := by
  obtain ⟨k, ⟨a, fd, ps, hc, mt, ok, bi⟩, rm, _⟩ := o.fa.mt f c m _ hm
  refine ⟨fun pins s σ H Q I q => ?_⟩
  obtain ⟨B, ρ, h, S, W, R, q⟩ := q
  simp only [evE, ens_bind] at q
  refine PySem.W.methodCall_KW (thn (ha.run pins s σ H (fun v H1 => ∃ (y : AV) (h1 : Hs) (ρ1 : List Addr) (W1 : ASet), Ext B ρ W H ρ1 W1 H1 ∧ RS (gX X cls) B ρ1 h1 S W1 σ H1 ∧ VR (gX X cls) H1 W1 ρ1 y v ∧
      (match y.vw h1 with
        | some (.ins c' fs) => if c' = c ∧ fs.lookup m = none then (evL F ms S h1).bind fun xs h2 => F.mth f (y :: xs) h2 else .bad
        | _ => .bad : Res RV).ens (fun rv h' => ∀ v H', EGood (gX X cls) B ρ W H S σ rv h' v H' → Q v H') (fun e h' => ∀ c d H', XGood (gX X cls) B ρ W H S σ e h' c d H' → XW c d σ H')) I ⟨B, ρ, h, S, W, R, ens_mono q fun x h1 q v H1 g => ?_⟩) fun u s1 g => ?_) (meth_eq (base_plain hsup _ _ _) hs hfew hl)
  · obtain ⟨y, ey, q⟩ := ens_ok1 q
    obtain ⟨ρ1, W1, x1, R1, r1⟩ := g.toV ey R.base
    exact ⟨y, h1, ρ1, W1, x1, R1, r1, q⟩
  · clear q
    obtain ⟨v, H1, I1, rv, y, h1, ρ1, W1, x1, R1, r1, q⟩ := g
    split at q
    case h_2 => exact q.elim
    rename_i c' fs e1
    split at q
    case isFalse => exact q.elim
    rename_i hq
    obtain ⟨rfl, hno⟩ := hq
    rw [ens_bind] at q
    obtain ⟨p, dx, es, rfl, l, r⟩ := VR.vw R1 r1 e1
    cases rv
    refine getmeth_ok I1 l hc mt (r.miss hno) ?_
    have fin : ∀ (xs : List AV) (h2 : Hs) (vs : List V) (H2 : Hp), xs.length = ms.length → LGood (gX X cls) B ρ1 W1 H1 S σ xs h2 vs H2 → (F.mth f (y :: xs) h2).ens (fun rv h' => ∀ v H', EGood (gX X cls) B ρ W H S σ rv h' v H' → Q v H') (fun e h' => ∀ c d H', XGood (gX X cls) B ρ W H S σ e h' c d H' → XW c d σ H') →
        spF (gX X cls) (F.mth f) (ms.length + 1) (.ref p :: vs) H2 Q (WE XW σ) := fun xs h2 vs H2 el g q => by
      obtain ⟨ρ2, W2, x2, R2, r2⟩ := g
      have x12 := x1.trans x2 R.base
      refine to_spW (xs := y :: xs) R2 (by simp only [VRs]; exact ⟨_, _, rfl, VR.mv x2.sub x2.pre _ _ r1, r2⟩) (by simp only [List.length_cons]; rw [← r2.length, el]) (ens_ext q (fun rv h' k v H' g => k v H' (g.ext R.base x12)) fun e h' k c d H' g => k c d H' (g.ext R.base x12))
    cases as with
    | nil =>
      have em : ms = [] := List.length_eq_zero_iff.mp hlen
      subst em
      refine PySem.W.callWith_K0 (first := [.ref p]) I1.kIn mt.kp (run_fnS (us := [.ref p]) (vs := [.ref p]) ok rm bi (passAt o.tk σ) I1 (.cons rfl .nil) ?_)
      exact fin [] h1 [] H1 rfl ⟨ρ1, W1, Ext.refl, R1, by simp only [VRs]⟩ q
    | cons e' es' =>
      refine PySem.W.callWith_K (first := [.ref p]) (h₀ := X.base) I.ok.mod.kin mt.kp (thn (hb.run pos pins s1 σ H1 (fun vs H2 => spF (gX X cls) (F.mth f) (ms.length + 1) (.ref p :: vs) H2 Q (WE XW σ)) I1 ?_) fun us s2 g2 => ?_) (star_no (hs e' List.mem_cons_self) es' _) (any_star _ _ fun y hy => hs y (List.mem_cons_of_mem _ hy))
      · exact ⟨B, ρ1, h1, S, W1, R1, ens_ext (ev_len q) (fun xs h2 ⟨el, q⟩ vs H2 g2 => fin xs h2 vs H2 el g2 q) fun e h' k c d H' g => k c d H' (g.ext R.base x1)⟩
      · obtain ⟨vs, H2, I2, r2, sp⟩ := g2
        exact ⟨I2.kIn, run_fnS (us := .ref p :: us) (vs := .ref p :: vs) ok rm bi (passAt o.tk σ) I2 (.cons rfl r2) sp⟩
/-! ### own classes -/
theorem mk_run {pins : List (Addr × Obj)} {σ : L2.St} {H : Hp} {s : Shared} {Q : VK} {us : List Value} {vs : List V} {C f : Addr} {k : Nat} {fd : FuncData} {ps : List Str} {sp : Sp} {E : XK} (M : Mk X.K C f) (ok : FnOk X.prog X.w X.K X.mg X.base (L2.CX X.prog X.w) k f fd ps sp) (rm : Room (k + 1) X.A)
    (bi : Binds X.K fd ps []) (hx : PassesAt (L2.CX X.prog X.w) X σ E) (I : L2.Inv X pins σ H s) (r : Vals vs us)
    (q : ∀ x dx, H x = none → H dx = none → dx ≠ x → sp (.ref x :: vs) (upd (upd H dx (.own x)) x (.ins C dx [])) (fun v H2 => v = .non ∧ Q (.ref x) H2) E) :
    wpAny (model X.prog X.w) X.A (call (.ref C) us) (EP X pins σ Q) X.xe s := by
  have n0 := I.hok.fresh (Nat.le_refl s.heap.objs.size)
  have n1 := I.hok.fresh (Nat.le_succ s.heap.objs.size)
  have q := q _ _ n1 n0 (Nat.ne_of_lt (Nat.lt_succ_self _))
  have J := L2.Inv.made (C := C) I
  have rr : Vals (V.ref (s.heap.objs.size + 1) :: vs) (Value.ref (s.heap.objs.size + 1) :: us) := .cons rfl r
  have ll : (Value.ref (s.heap.objs.size + 1) :: us).length = ps.length := by rw [← rr.length]; exact ok.len _ _ _ _ q
  have b := bi _ (Value.ref (s.heap.objs.size + 1) :: us) J.kIn (by rw [List.append_nil]; exact ll)
  rw [List.append_nil] at b
  refine wpAny_call (make_map (f := f) I.kIn M.makes M.init (beq_iff_eq.mp M.fn) (codeAny_mono (ok.run _ X.stack _ _ _ _ _ _ E (rm.make C us []) (J.env0.make C us []) b rr q) fun z s' g => ?_))
  cases z with
  | error e => exact hx pins _ _ e s' J g
  | ok fl =>
    cases fl with
    | ret u =>
      obtain ⟨v, H', J', rv, ev, g⟩ := J.after g
      subst ev
      exact ⟨rv, V.ref (s.heap.objs.size + 1), H', J', rfl, g⟩
    | next => exact g.elim
    | brk => exact g.elim
    | cont => exact g.elim
theorem to_spI {c n : Nat} {B : ASet} {ρ : List Addr} {h : Hs} {S : List SV} {W : ASet} {σ : L2.St} {H : Hp} {xs : List AV} {vs : List V} {Q : VK} (R : RS (gX X cls) B ρ h S W σ H) (r : VRs (gX X cls) H W ρ xs vs) (hn : vs.length = n)
    (q : (F.ini c xs h).ens (fun rv h' => ∀ v H', EGood (gX X cls) B ρ W H S σ rv h' v H' → Q v H') (fun e h' => ∀ c d H', XGood (gX X cls) B ρ W H S σ e h' c d H' → XW c d σ H')) {x dx : Addr} (hx : H x = none) (hd : H dx = none) (ne : dx ≠ x) :
    spI (gX X cls) c (F.ini c) n (.ref x :: vs) (upd (upd H dx (.own x)) x (.ins (cls c) dx [])) (fun v H2 => v = .non ∧ Q (.ref x) H2) (WE XW σ) := by
  refine ⟨x, dx, vs, H, _, ρ, h, xs, rfl, hn, hx, hd, ne, rfl, R.toCall, by rw [uni_eq R.sub]; exact r, ens_ext q (fun rv h' k H' g => ⟨rfl, k _ H' (g.back R)⟩) fun e h' k c d H' g => k c d H' (g.back R)⟩
theorem st_mk (o : OK T F cls N sc XW X) {c : Nat} {x : Str} {es : List Expr} {ms : List ME} {p pos : Pos} (h1 : T.mks.lookup c = some (x, ms.length)) (h2 : glK sc x = true) (h3 : okN x = true) (hs : ∀ e ∈ es, isStar e = false) (hl : ms.length = es.length)
    (ha : PA X es (rdL (gX X cls) F XW ms)) : PE X (.Call (.Name x p) es [] pos) (rdE (gX X cls) F XW (.mk c ms)) := by
  obtain ⟨k, ⟨a, fd, ps, m, M, _, ok, bi⟩, rm⟩ := o.fa.ik c x _ h1
  refine ⟨fun pins s σ H Q I q => ?_⟩
  obtain ⟨B, ρ, h, S, W, R, q⟩ := q
  simp only [evE, ens_bind] at q
  refine wpAny_Call_Name_kw (ld_glob I (o.gl h2) m ?_ (okN_1 h3))
  cases es with
  | nil =>
    have em : ms = [] := List.length_eq_zero_iff.mp hl
    subst em
    refine PySem.W.callWith_K0 I.kIn M.kp (mk_run (us := []) (vs := []) M ok rm bi (passAt o.tk σ) I .nil fun y dy hy hd ne => ?_)
    exact to_spI (n := 0) R (by simp only [VRs]) rfl q hy hd ne
  | cons e' es' =>
    refine PySem.W.callWith_K (h₀ := X.base) I.ok.mod.kin M.kp (thn (ha.run pos pins s σ H (fun vs H2 => ∀ y dy, H2 y = none → H2 dy = none → dy ≠ y → spI (gX X cls) c (F.ini c) ms.length (.ref y :: vs) (upd (upd H2 dy (.own y)) y (.ins (cls c) dy [])) (fun v H2 => v = .non ∧ Q (.ref y) H2) (WE XW σ)) I ?_) fun us s2 g2 => ?_)
      (star_no (hs e' List.mem_cons_self) es' _) (any_star _ _ fun y hy => hs y (List.mem_cons_of_mem _ hy))
    · refine ⟨B, ρ, h, S, W, R, ens_ext (ev_len q) (fun xs h2 ⟨el, q⟩ vs H2 g2 => fun y dy hy hd ne => ?_) fun e h' k c d H' g => k c d H' g⟩
      obtain ⟨ρ2, W2, x2, R2, r2⟩ := g2
      exact to_spI R2 r2 (by rw [← r2.length, el]) (ens_ext q (fun rv h' k v H' g => k v H' (g.ext R.base x2)) fun e h' k c d H' g => k c d H' (g.ext R.base x2)) hy hd ne
    · obtain ⟨vs, H2, I2, r2, sp⟩ := g2
      exact ⟨I2.kIn, mk_run M ok rm bi (passAt o.tk σ) I2 r2 sp⟩
/-! ### enumerate, zip -/
theorem it_enm {G : Gd} {K : PySem.W.Frag} (hK : G.K = K) {W : ASet} {H : Hp} {ρ : List Addr} {a : Addr} {vs : List V} {xs : List AV} (n : ¬ W a) (l : H a = some (.lst vs)) (r : VRs G H W ρ xs vs) :
    ItOk G (Ite K a) (xs.zipIdx.map fun q => mkTup [.d (.int (q.2 : Nat)), q.1]) .fz ρ W H := by
  subst hK
  intro B ρ2 h2 S2 W2 σ2 H2 x R _ i
  have la := (x.out n l).2
  have ra := VRs.mv x.sub x.pre xs vs r
  have e1 := ra.length
  refine ⟨fun y hy => ?_, fun hi => ⟨vs, SqL.of la, ?_⟩⟩
  · rw [List.getElem?_map, Option.map_eq_some_iff] at hy
    obtain ⟨⟨p, j⟩, hz, rfl⟩ := hy
    rw [List.getElem?_zipIdx, Option.map_eq_some_iff] at hz
    obtain ⟨q, hq, e⟩ := hz
    simp only [Prod.mk.injEq, Nat.zero_add] at e
    obtain ⟨rfl, rfl⟩ := e
    obtain ⟨v, hv, rv⟩ := ra.get hq
    refine ⟨⟨vs, v, SqL.of la, hv⟩, fun v' H3 yl => ?_⟩
    obtain ⟨t, y', rfl, ht, rfl, f1⟩ := yl
    have g1 := f1 vs (SqL.of la)
    rw [hv] at g1
    cases g1
    have nw := (R.fresh ht).1
    refine ⟨Ext.lay ht, R.lay ht, ?_⟩
    refine WR.tup ⟨t, [.int (i : Nat), v], rfl, .inl ⟨nw, .inl upd_same⟩, ?_⟩
    have sb := (Ext.lay (B := B) (W := W2) (ρ := ρ2) (o := .tup [.int (i : Nat), v]) ht).sub
    simp only [VRs]
    exact ⟨_, _, rfl, by simp only [VR, DR], v, _, rfl, VR.mv sb pre_refl _ _ rv, rfl⟩
  · simp at hi
    omega
theorem it_zp {G : Gd} {K : PySem.W.Frag} (hK : G.K = K) {W : ASet} {H : Hp} {ρ : List Addr} {a b : Addr} {vs us : List V} {xs ys : List AV} (n : ¬ W a) (l : H a = some (.lst vs)) (r : VRs G H W ρ xs vs) (n2 : ¬ W b) (l2 : H b = some (.lst us)) (r2 : VRs G H W ρ ys us) :
    ItOk G (Itz K a b) ((xs.zip ys).map fun p => mkTup [p.1, p.2]) .fz ρ W H := by
  subst hK
  intro B ρ2 h2 S2 W2 σ2 H2 x R _ i
  have la := (x.out n l).2
  have lb := (x.out n2 l2).2
  have ra := VRs.mv x.sub x.pre xs vs r
  have rb := VRs.mv x.sub x.pre ys us r2
  have e1 := ra.length
  have e2 := rb.length
  refine ⟨fun y hy => ?_, fun hi => ⟨vs, us, SqL.of la, SqL.of lb, ?_⟩⟩
  · rw [List.getElem?_map, Option.map_eq_some_iff] at hy
    obtain ⟨⟨p, q⟩, hz, rfl⟩ := hy
    obtain ⟨hp, hq⟩ := List.getElem?_zip_eq_some.mp hz
    obtain ⟨v, hv, rv⟩ := ra.get hp
    obtain ⟨u, hu, ru⟩ := rb.get hq
    refine ⟨⟨vs, us, v, u, SqL.of la, SqL.of lb, hv, hu⟩, fun v' H3 yl => ?_⟩
    obtain ⟨t, x', y', rfl, ht, rfl, f1, f2⟩ := yl
    have g1 := f1 vs (SqL.of la)
    have g2 := f2 us (SqL.of lb)
    rw [hv] at g1
    rw [hu] at g2
    cases g1
    cases g2
    have nw := (R.fresh ht).1
    refine ⟨Ext.lay ht, R.lay ht, ?_⟩
    refine WR.tup ⟨t, [v, u], rfl, .inl ⟨nw, .inl upd_same⟩, ?_⟩
    have sb := (Ext.lay (B := B) (W := W2) (ρ := ρ2) (o := .tup [v, u]) ht).sub
    simp only [VRs]
    exact ⟨v, _, rfl, VR.mv sb pre_refl _ _ rv, u, _, rfl, VR.mv sb pre_refl _ _ ru, rfl⟩
  · simp at hi
    omega
theorem si_enm (o : OK T F cls N sc XW X) {elts : List Expr} {kk : Nat} {e : Expr} {m : ME} {p pos tpos : Pos} (h2 : glK sc ("enumerate" : Str) = true) (h3 : ("enumerate" : Str) ∈ T.bl) (hs : isStar e = false) (ha : PE X e (rdE (gX X cls) F XW m)) :
    PI X (.Tuple elts kk tpos) (.Call (.Name "enumerate" p) [e] [] pos) (rdI (gX X cls) F XW (.enm m)) := by
  refine PI.imp (pi_enum (o.gl h2) (o.fa.bl _ h3) (pa_cons ha pa_nil (star_no hs [] _)) (star_no hs [] _)) fun σ H Q q => ?_
  obtain ⟨B, ρ, h, S, W, R, q⟩ := q
  simp only [evI, ens_bind] at q
  refine ⟨B, ρ, h, S, W, R, ens_mono q fun x h1 q v H1 g => ?_⟩
  obtain ⟨y, ey, q⟩ := ens_ok1 q
  obtain ⟨ρ1, W1, x1, R1, r1⟩ := g.toV ey R.base
  obtain ⟨p, ep, q⟩ := ens_ok1 q
  simp only [enmO, Option.map_eq_some_iff] at ep
  obtain ⟨xs, ex, rfl⟩ := ep
  obtain ⟨a, vs, rfl, n, l, r⟩ := ls_ok ex r1
  exact ⟨a, vs, rfl, SqL.of l, q _ _ ⟨ρ1, W1, x1, R1, it_enm rfl n l r⟩⟩
theorem si_zp (o : OK T F cls N sc XW X) {elts : List Expr} {kk : Nat} {e e2 : Expr} {m m2 : ME} {p pos tpos : Pos} (h2 : glK sc ("zip" : Str) = true) (h3 : ("zip" : Str) ∈ T.bl) (hs : isStar e = false) (hs2 : isStar e2 = false)
    (ha : PA X [e, e2] (rdL (gX X cls) F XW [m, m2])) : PI X (.Tuple elts kk tpos) (.Call (.Name "zip" p) [e, e2] [] pos) (rdI (gX X cls) F XW (.zp [m, m2])) := by
  refine PI.imp (pi_zip (o.gl h2) (o.fa.bl _ h3) ha (star_no hs [e2] _) (any_star _ _ fun y hy => by rw [List.mem_singleton] at hy; exact hy ▸ hs2)) fun σ H Q q => ?_
  obtain ⟨B, ρ, h, S, W, R, q⟩ := q
  simp only [evI, ens_bind] at q
  refine ⟨B, ρ, h, S, W, R, ens_mono q fun xs h1 q vs H1 g => ?_⟩
  obtain ⟨ρ1, W1, x1, R1, r1⟩ := g
  obtain ⟨p, ep, q⟩ := ens_ok1 q
  unfold zpO at ep
  split at ep
  · simp only [Option.bind_eq_some_iff] at ep
    obtain ⟨xs, ex, ys, ey, ep⟩ := ep
    cases ep
    simp only [VRs] at r1
    obtain ⟨v, _, rfl, rv, u, _, rfl, ru, rfl⟩ := r1
    obtain ⟨a, vs, rfl, n, l, r⟩ := ls_ok ex rv
    obtain ⟨b, us, rfl, n2, l2, r2⟩ := ls_ok ey ru
    exact ⟨a, b, vs, us, rfl, SqL.of l, SqL.of l2, q _ _ ⟨ρ1, W1, x1, R1, it_zp rfl n l r n2 l2 r2⟩⟩
  · cases ep
end
end Mp


set_option Elab.async false
set_option linter.all false
set_option maxRecDepth 10000
set_option maxHeartbeats 1000000
/-! Set comprehensions of two clauses. -/
namespace Mp
open PySem PySem.Spec PyProof.Rows L2
section
variable {T : Nm} {F : Fn} {cls : Nat → Addr} {N : List Str} {sc : Ks} {XW : WX} {X : Cx}
mutual
theorem evG_own {h : Hs} : ∀ {t : MT} {x : AV} {S S' : List SV} {i : Nat} {c : Cell}, evG h t x S = some S' → S'[i]? = some (.own c) → S[i]? = some (.own c)
  | .nm j, x, S, S', i, c, e, hi => by
    simp only [evG, Option.some.injEq] at e
    subst e
    by_cases ij : j = i
    · subst ij
      by_cases hl : j < S.length
      · rw [List.getElem?_set_self hl] at hi; cases hi
      · rw [List.getElem?_eq_none (by simpa using hl)] at hi; cases hi
    · rwa [List.getElem?_set_ne ij] at hi
  | .tp ts, x, S, S', i, c, e, hi => by
    simp only [evG] at e
    split at e
    · exact evGs_own e hi
    · exact evGs_own e hi
    · cases e
theorem evGs_own {h : Hs} : ∀ {ts : List MT} {xs : List AV} {S S' : List SV} {i : Nat} {c : Cell}, evGs h ts xs S = some S' → S'[i]? = some (.own c) → S[i]? = some (.own c)
  | [], [], S, S', i, c, e, hi => by simp only [evGs, Option.some.injEq] at e; subst e; exact hi
  | [], _ :: _, S, S', i, c, e, hi => by simp [evGs] at e
  | _ :: _, [], S, S', i, c, e, hi => by simp [evGs] at e
  | t :: ts, x :: xs, S, S', i, c, e, hi => by
    simp only [evGs, Option.bind_eq_some_iff] at e
    obtain ⟨S1, e1, e2⟩ := e
    exact evG_own e1 (evGs_own e2 hi)
end
theorem setX_nf {P : Program} {w : World} {a : Addr} {ks : List Key} : ∀ o u, SetX P w a ks ≠ .frz o u := fun _ _ z => by unfold SetX at z; exact nomatch z
theorem sc2_rd {me : ME} {mt mt1 : MT} {mi mi1 : MI} {mco mco1 : Option MC} {own own1 : List Nat} (hsl : ∀ i ∈ slotsT mt, i ∈ own) (hsl1 : ∀ i ∈ slotsT mt1, i ∈ own1) (hsub : ∀ i ∈ own1, i ∈ own) (σ : L2.St) (H : Hp) (Q : VK)
    (q : rdE (gX X cls) F XW (.sc2 me mt mi mco mt1 mi1 mco1 own own1) σ H Q) :
    tSc2 X.prog X.w (rdI (gX X cls) F XW mi) (rdG (gX X cls) mt) (rdTo (gX X cls) F XW0 mco) (rdI (gX X cls) F XW0 mi1) (rdG (gX X cls) mt1) (rdTo (gX X cls) F XW0 mco1) (rdE (gX X cls) F XW0 me) own own1 σ H Q := by
  obtain ⟨B, ρ, h, S, W, R, q⟩ := q
  simp only [evE] at q
  split at q
  case isFalse => exact q.elim
  rename_i hno
  simp only [ens_bind] at q
  refine ⟨B, ρ, h, S, W, R, ens_mono q fun p h1 q J H1 g => ?_⟩
  obtain ⟨ρ1, W1, x1, R1, it⟩ := g
  obtain ⟨its, src⟩ := p
  intro d hd
  obtain ⟨n1, n2, n3, n4⟩ := R1.fresh hd
  have y0 : Ext B ρ1 W1 H1 (ρ1 ++ [d]) (add W1 d) (upd H1 d (SetX X.prog X.w d [])) := (Ext.layO hd).trans Ext.cell R1.base
  have R2 : RS (gX X cls) B (ρ1 ++ [d]) (h1 ++ [.set []]) S (add W1 d) σ (upd H1 d (SetX X.prog X.w d [])) := (R1.layO hd).cell (.inr rfl) n2 n3 n4 ⟨List.nodup_nil, upd_same⟩
  have ix : (ρ1 ++ [d])[h1.length]? = some d := by rw [← R1.len, List.getElem?_append_right (Nat.le_refl _)]; simp
  have nOwn : ∀ (i : Nat) c, S[i]? = some (SV.own c) → i ∉ own := fun i c hi hm => by
    have := (List.all_eq_true.mp hno) i hm
    rw [hi] at this
    cases this
  let PO : RV → Hs → Prop := fun rv h' => ∀ v H', EGood (gX X cls) B ρ W H S σ rv h' v H' → Q v H'
  let EO : Ex → Hs → Prop := fun e h' => ∀ c d H', XGood (gX X cls) B ρ W H S σ e h' c d H' → XW c d σ H'
  let go : List AV → Hs → Res RV := scGo h1.length (fun S h => (evE F me S h).bind toV1) (fun S h => evTo F mco S h) (fun S h => evI F mi1 S h) (fun S h => evTo F mco1 S h) mt mt1 src (wipeS S own) own1
  let Iv : Nat → Hp → Prop := fun i H2 => i ≤ its.length ∧ ∃ (ρ2 : List Addr) (h2 : Hs) (W2 : ASet), Ext B (ρ1 ++ [d]) (add W1 d) (upd H1 d (SetX X.prog X.w d [])) ρ2 W2 H2 ∧ RS (gX X cls) B ρ2 h2 S W2 σ H2 ∧ (go (its.drop i) h2).ens PO EO
  refine ⟨fun i m H2 => m = its.length - i ∧ Iv i H2, ⟨its.length, by omega, Nat.zero_le _, _, _, _, Ext.refl, R2, q⟩, ?_⟩
  rintro i m H2 ⟨rfl, hle, ρ2, h2, W2, x2, R3, q3⟩
  have x02 := y0.trans x2 R1.base
  cases hx : its[i]? with
  | none =>
    have hi : its.length ≤ i := List.getElem?_eq_none_iff.mp hx
    rw [List.drop_eq_nil_iff.mpr hi] at q3
    simp only [go, scGo] at q3
    split at q3
    case isFalse => exact q3.elim
    rename_i hsrc
    refine .inl ⟨(it B ρ2 h2 S W2 σ H2 x02 R3 hsrc i).2 hi, q3 _ _ ⟨ρ2, W2, x1.trans x02 R.base, R3, ?_⟩⟩
    simp only [RVR, VR]
    exact ⟨d, pre_get x2.pre ix, rfl⟩
  | some x =>
    have hlt : i < its.length := (List.getElem?_eq_some_iff.mp hx).1
    rw [List.drop_eq_getElem_cons hlt, (List.getElem?_eq_some_iff.mp hx).2] at q3
    simp only [go, scGo] at q3
    split at q3
    case isFalse => exact q3.elim
    rename_i hsrc
    obtain ⟨g0, yl⟩ := (it B ρ2 h2 S W2 σ H2 x02 R3 hsrc i).1 x hx
    refine .inr ⟨g0, Iv (i + 1), fun H' hv => ⟨its.length - (i + 1), by omega, rfl, hv⟩, fun v H3 hy => ?_⟩
    obtain ⟨x3, R4, rx⟩ := yl v H3 hy
    split at q3
    case h_2 => exact q3.elim
    rename_i S' eg
    have x23 := x2.trans x3 (R2.base)
    refine ⟨B, ρ2, h2, _, W2, x, S', R4.wipe, rx, eg, fun σ2 R5 hlen hout => ⟨?_, ?_⟩⟩
    · refine wipe_ext (by rw [hlen, wipe_length]) fun j hj => ?_
      rw [hout j fun z => hj (hsl j z), wipe_out hj]
    have keepOwn : ∀ (j : Nat) c, S[j]? = some (SV.own c) → S'[j]? = some (SV.own c) ∧ σ2[j]? = σ[j]? := fun j c hj => by
      have nj := nOwn j c hj
      have ns : j ∉ slotsT mt := fun z => nj (hsl j z)
      exact ⟨by rw [evG_out eg ns, wipeS_get, if_neg nj]; exact hj, by rw [hout j ns, wipe_out nj]⟩
    have nOwn1 : ∀ (j : Nat) c, S'[j]? = some (SV.own c) → j ∉ own1 := fun j c hj hm => by
      have z := evG_own eg hj
      rw [wipeS_get, if_pos (hsub j hm)] at z
      cases e : S[j]? with
      | none => rw [e] at z; cases z
      | some y => rw [e] at z; cases z
    rw [ens_bind] at q3
    refine ⟨B, ρ2, h2, S', W2, R5, ens_ext (noX_ens' q3) (fun b h3 q4 H4 g4 => ?_) fun e h' k c d H' g => k.elim⟩
    obtain ⟨ρ3, W3, x4, R6⟩ := g4
    have x34 := x3.trans x4 R3.base
    split at q4
    case isFalse hb =>
      rw [if_neg hb]
      exact ⟨hlt, ρ3, h3, W3, x2.trans x34 R2.base, R3.join x34 R6 keepOwn, q4⟩
    rename_i hb
    subst hb
    rw [if_pos rfl]
    rw [ens_bind] at q4
    refine ⟨B, ρ3, h3, S', W3, R6, ens_ext (noX_ens' q4) (fun p1 h4 q5 J1 H5 g5 => ?_) fun e h' k c d H' g => k.elim⟩
    obtain ⟨ρ4, W4, x5, R7, it1⟩ := g5
    obtain ⟨its1, src1⟩ := p1
    have x35 := x34.trans x5 R3.base
    let Iv1 : Nat → Hp → Prop := fun j H6 => j ≤ its1.length ∧ ∃ (ρ5 : List Addr) (h5 : Hs) (W5 : ASet), Ext B ρ4 W4 H5 ρ5 W5 H6 ∧ RS (gX X cls) B ρ5 h5 S' W5 σ2 H6 ∧
      ((scIn h1.length (fun S h => (evE F me S h).bind toV1) (fun S h => evTo F mco1 S h) mt1 src1 (wipeS S' own1) (its1.drop j) h5).bind fun _ h6 => go (its.drop (i + 1)) h6).ens PO EO
    refine ⟨fun j m H6 => m = its1.length - j ∧ Iv1 j H6, ⟨its1.length, by omega, Nat.zero_le _, _, _, _, Ext.refl, R7, q5⟩, ?_⟩
    rintro j m H6 ⟨rfl, hle1, ρ5, h5, W5, x6, R8, q6⟩
    cases hx1 : its1[j]? with
    | none =>
      have hj : its1.length ≤ j := List.getElem?_eq_none_iff.mp hx1
      rw [List.drop_eq_nil_iff.mpr hj] at q6
      simp only [scIn] at q6
      split at q6
      case isFalse => exact q6.elim
      rename_i hsrc1
      have x36 := x35.trans x6 R3.base
      exact .inl ⟨(it1 B ρ5 h5 S' W5 σ2 H6 x6 R8 hsrc1 j).2 hj, hlt, ρ5, h5, W5, x2.trans x36 R2.base, R3.join x36 R8 keepOwn, q6⟩
    | some y =>
      have hlt1 : j < its1.length := (List.getElem?_eq_some_iff.mp hx1).1
      rw [List.drop_eq_getElem_cons hlt1, (List.getElem?_eq_some_iff.mp hx1).2] at q6
      simp only [scIn] at q6
      split at q6
      case isFalse => exact q6.elim
      rename_i hsrc1
      obtain ⟨g1, yl1⟩ := (it1 B ρ5 h5 S' W5 σ2 H6 x6 R8 hsrc1 j).1 y hx1
      refine .inr ⟨g1, Iv1 (j + 1), fun H' hv => ⟨its1.length - (j + 1), by omega, rfl, hv⟩, fun v1 H7 hy1 => ?_⟩
      obtain ⟨x7, R9, rx1⟩ := yl1 v1 H7 hy1
      split at q6
      case h_2 => exact q6.elim
      rename_i S2 eg1
      refine ⟨B, ρ5, h5, _, W5, y, S2, R9.wipe, rx1, eg1, fun σ3 R10 hlen1 hout1 => ⟨?_, ?_⟩⟩
      · refine wipe_ext (by rw [hlen1, wipe_length]) fun k hk => ?_
        rw [hout1 k fun z => hk (hsl1 k z), wipe_out hk]
      have keepOwn1 : ∀ (k : Nat) c, S'[k]? = some (SV.own c) → S2[k]? = some (SV.own c) ∧ σ3[k]? = σ2[k]? := fun k c hk => by
        have nk := nOwn1 k c hk
        have ns : k ∉ slotsT mt1 := fun z => nk (hsl1 k z)
        exact ⟨by rw [evG_out eg1 ns, wipeS_get, if_neg nk]; exact hk, by rw [hout1 k ns, wipe_out nk]⟩
      rw [ens_bind, ens_bind] at q6
      refine ⟨B, ρ5, h5, S2, W5, R10, ens_ext (noX_ens' q6) (fun b1 h6 q7 H8 g8 => ?_) fun e h' k c d H' g => k.elim⟩
      obtain ⟨ρ6, W6, x8, R11⟩ := g8
      have x78 := x7.trans x8 R8.base
      split at q7
      case isFalse hb1 =>
        rw [if_neg hb1]
        exact ⟨hlt1, ρ6, h6, W6, x6.trans x78 R7.base, R8.join x78 R11 keepOwn1, by rw [ens_bind]; exact q7⟩
      rename_i hb1
      subst hb1
      rw [if_pos rfl]
      rw [ens_bind] at q7
      have q8 := noX_ens' q7
      rw [ens_bind] at q8
      refine ⟨B, ρ6, h6, S2, W6, R11, ens_ext q8 (fun rv h7 q9 v7 H9 g9 => ?_) fun e h' k c d H' g => k.elim⟩
      obtain ⟨z, ez, q9⟩ := ens_ok1 q9
      obtain ⟨ρ7, W7, x9, R12, rz⟩ := g9.toV ez R11.base
      rw [ens_bind] at q9
      obtain ⟨h8, e8, q9⟩ := ens_ok1 q9
      have x79 := x78.trans x9 R8.base
      unfold addC at e8
      split at e8
      case h_2 => cases e8
      rename_i ks k ec ek
      split at e8
      case isFalse => cases e8
      rename_i hr
      cases e8
      have pre : ∃ t, ρ7 = (ρ1 ++ [d]) ++ t := ((x2.trans x35 R2.base).trans (x6.trans x79 R7.base) R2.base).pre
      have ixd : ρ7[h1.length]? = some d := pre_get pre ix
      obtain ⟨nd, l⟩ := R12.cel _ _ d ec ixd
      obtain rfl := VR.key ek rz
      have wd := R12.sub d (List.mem_of_getElem? ixd)
      have bd := R12.out d (List.mem_of_getElem? ixd)
      refine ⟨k, ks, rfl, l, hr, hlt1, ρ7, _, W7, (x6.trans x79 R7.base).trans (Ext.setC ixd wd bd l setX_nf) R7.base, ?_, by rw [ens_bind]; exact q9⟩
      exact (R8.join x79 R12 keepOwn1).setC ixd ⟨nodup_addK nd, upd_same⟩
theorem st_sc2 (o : OK T F cls N sc XW X) {elt tg iter tg1 iter1 : Expr} {ifs ifs1 : List Expr} {scope : Scope} {pos : Pos} {me : ME} {mt mt1 : MT} {mi mi1 : MI} {mco mco1 : Option MC} {own own1 : List Nat}
    (hi : PI X tg iter (rdI (gX X cls) F XW mi)) (hb : blkC N { kind := .function, names := sc, isGenerator := false, isCoroutine := false } scope (ownN N own) = true) (hsl : ∀ i ∈ slotsT mt, i ∈ own) (hsl1 : ∀ i ∈ slotsT mt1, i ∈ own1) (hsub : ∀ i ∈ own1, i ∈ own)
    (hg : ∀ X' : Cx, OK T F cls N scope.names XW0 X' → PG X' tg (rdG (gX X' cls) mt)) (ht : ∀ X' : Cx, OK T F cls N scope.names XW0 X' → PTs X' ifs (rdTo (gX X' cls) F XW0 mco))
    (hi1 : ∀ X' : Cx, OK T F cls N scope.names XW0 X' → PI X' tg1 iter1 (rdI (gX X' cls) F XW0 mi1)) (hg1 : ∀ X' : Cx, OK T F cls N scope.names XW0 X' → PG X' tg1 (rdG (gX X' cls) mt1)) (ht1 : ∀ X' : Cx, OK T F cls N scope.names XW0 X' → PTs X' ifs1 (rdTo (gX X' cls) F XW0 mco1))
    (he : ∀ X' : Cx, OK T F cls N scope.names XW0 X' → PE X' elt (rdE (gX X' cls) F XW0 me)) (hs : ∀ x, foldedSetIterable iter X.env x = pure x) (hs1 : ∀ env x, foldedSetIterable iter1 env x = pure x) :
    PE X (.SetComp elt [⟨tg, iter, ifs, 0⟩, ⟨tg1, iter1, ifs1, 0⟩] scope pos) (rdE (gX X cls) F XW (.sc2 me mt mi mco mt1 mi1 mco1 own own1)) :=
  PE.imp (pe_sc2 (own := ownN N own) (vs1 := own1) o.calm (by rw [o.eN]; exact o.nd) hi (o.blkOk hb) (fun i hi => by rw [ownN_snd]; exact hsub i hi) (fun s H C cl fp => hg _ (o.blk (blkOk_by hb).kind)) (fun s H C cl fp => ht _ (o.blk (blkOk_by hb).kind)) (fun s H C cl fp => hi1 _ (o.blk (blkOk_by hb).kind))
    (fun s H C cl fp => hg1 _ (o.blk (blkOk_by hb).kind)) (fun s H C cl fp => ht1 _ (o.blk (blkOk_by hb).kind)) (fun s H C cl fp => he _ (o.blk (blkOk_by hb).kind)) hs hs1) fun σ H Q q => by rw [ownN_snd]; exact sc2_rd hsl hsl1 hsub σ H Q q
/-- no text: a dict is locked -/
theorem ghost_lk {pins : List (Addr × Obj)} {s : Shared} {B : ASet} {ρ : List Addr} {h : Hs} {S : List SV} {W : ASet} {σ : L2.St} {H : Hp} {n : Nat} {kvs : List (Key × AV)} (I : Inv X pins σ H s) (R : RS (gX X cls) B ρ h S W σ H) (e : h[n]? = some (.dic kvs)) :
    ∃ H', Inv X pins σ H' s ∧ Ext B ρ W H ρ W H' ∧ RS (gX X cls) B ρ (h.set n (.lck kvs)) S W σ H' := by
  have lt : n < ρ.length := R.len ▸ (List.getElem?_eq_some_iff.mp e).1
  have ha : ρ[n]? = some ρ[n] := List.getElem?_eq_getElem lt
  obtain ⟨es, l, r⟩ := R.cel n _ _ e ha
  have wa := R.sub _ (List.mem_of_getElem? ha)
  obtain ⟨od, I'⟩ := I.lock l trivial
  exact ⟨_, I', Ext.setC ha wa (R.out _ (List.mem_of_getElem? ha)) l (fun _ _ z => nomatch z), R.setC ha ⟨es, od, upd_same, r.mv (sub_set wa) pre_refl⟩⟩
end
end Mp


set_option Elab.async false
set_option linter.all false
set_option maxRecDepth 10000
set_option maxHeartbeats 1000000
/-! Special methods of own classes; f-strings; isinstance of an own class. -/
namespace Mp
open PySem PySem.Spec PyProof.Rows L2
section
variable {T : Nm} {F : Fn} {cls : Nat → Addr} {N : List Str} {sc : Ks} {XW : WX} {X : Cx}
theorem ens_noX {α : Type} {r : Res α} {P : α → Hs → Prop} {E : Ex → Hs → Prop} (e : r.noX.ens P E) : ∃ a h, r = .ok a h ∧ P a h := by
  cases r with
  | ok a h => exact ⟨a, h, rfl, e⟩
  | exc e' h => exact e.elim
  | bad => exact e.elim
theorem room_in {k j : Nat} {A : Around} (h : Room (k + 1) A) (hj : j ≤ 3) : Room k (match j with | 0 => A | 1 => A.in1 | 2 => A.in1.in1 | _ => A.in1.in1.in1) := by
  have h1 := h.hd
  have h2 := h.dp
  have h3 := h.un
  match j, hj with
  | 0, _ => exact h.mono (Nat.le_succ k)
  | 1, _ => exact ⟨h1, by show A.depth + 3 * k + 5 < _; omega, by show A.units + 1 + 16 * k + 200 < _; omega⟩
  | 2, _ => exact ⟨h1, by show A.depth + 3 * k + 5 < _; omega, by show A.units + 1 + 1 + 16 * k + 200 < _; omega⟩
  | 3, _ => exact ⟨h1, by show A.depth + 3 * k + 5 < _; omega, by show A.units + 1 + 1 + 1 + 16 * k + 200 < _; omega⟩
/-- a special method called somewhere below -/
theorem sp_call (o : OK T F cls N sc XW X) {f c n : Nat} {m : Str} (hm : T.mts.lookup f = some (c, m, n)) (hs : spN m = true) {B : ASet} {ρ : List Addr} {h : Hs} {S : List SV} {W : ASet} {σ : L2.St} {H : Hp} {xs : List AV} {vs : List V} {us : List Value} {rv : RV} {h' : Hs}
    (R : RS (gX X cls) B ρ h S W σ H) (r : VRs (gX X cls) H W ρ xs vs) (hl : xs.length = n + 1) (e : F.mth f xs h = .ok rv h') :
    ∃ a, Cls X.K (cls c) ∧ Meth X.K (cls c) m a ∧ ∀ (A : Around), (A = X.A ∨ A = X.A.in1 ∨ A = X.A.in1.in1 ∨ A = X.A.in1.in1.in1) → ∀ pins s τ, L2.Inv X pins τ H s → Vals vs us → wpAny (model X.prog X.w) A (call (.ref a) us) (EP X pins τ fun v H' => EGood (gX X cls) B ρ W H S σ rv h' v H') X.xe s := by
  obtain ⟨k, ⟨a, fd, ps, hc, mt, ok, bi⟩, rm, rm1⟩ := o.fa.mt f c m _ hm
  refine ⟨a, hc, mt, fun A hA pins s τ I rr => ?_⟩
  have rA : Room k A := by
    have z := rm1 hs
    rcases hA with rfl | rfl | rfl | rfl
    · exact rm
    · exact room_in (j := 1) z (by omega)
    · exact room_in (j := 2) z (by omega)
    · exact room_in (j := 3) z (by omega)
  have fr : A.frames = X.A.frames := by rcases hA with rfl | rfl | rfl | rfl <;> rfl
  refine run_sub ok rA fr bi (passAt o.tk τ) I rr ?_
  refine to_spW (XW := fun c d _ H => XW c d τ H) (xs := xs) R r (by rw [← r.length, hl]) ?_
  rw [e]
  exact fun v H' g => g
def rSpL (G : Gd) (F : Fn) (k f c : Nat) : List V → Hp → VK → Prop := fun vs H Q => ∃ (B : ASet) (ρ : List Addr) (h : Hs) (S : List SV) (W : ASet) (σ : L2.St) (xs : List AV) (rv : RV) (h' : Hs) (out : RV),
  RS G B ρ h S W σ H ∧ VRs G H W ρ xs vs ∧ spA k c h xs = true ∧ F.mth f xs h = .ok rv h' ∧ spK k rv = some out ∧ ∀ v H', EGood G B ρ W H S σ out h' v H' → Q v H'
theorem insB_of {c : Nat} {h : Hs} {x : AV} (e : insB c h x = true) : ∃ fs, x.vw h = some (.ins c fs) := by
  unfold insB at e
  split at e
  · rename_i c' fs q
    have := of_decide_eq_true e
    subst this
    exact ⟨fs, q⟩
  · cases e
theorem nf_bty {K : PySem.W.Frag} {C : Addr} {t : String} (h : t ∈ bTys) : PySem.W.notFirst K C (.type t) = true := by
  have key : ∀ l : List Value, fastBuiltinMro t = some l → (l.contains (.ref C)) = false → PySem.W.notFirst K C (.type t) = true := fun l e q => by
    have e2 : PySem.W.subIn K (.type t) (.ref C) = some false := by
      show (fastBuiltinMro t).map (·.contains (.ref C)) = some false
      rw [e]; exact congrArg some q
    unfold PySem.W.notFirst
    rw [e2]; simp
  simp only [bTys, List.mem_cons, List.not_mem_nil, or_false] at h
  rcases h with rfl | rfl | rfl | rfl | rfl | rfl | rfl
  · exact key [.type "NoneType", .type "object"] (by kernel_rfl) rfl
  · exact key [.type "bool", .type "int", .type "object"] (by kernel_rfl) rfl
  · exact key [.type "int", .type "object"] (by kernel_rfl) rfl
  · exact key [.type "str", .type "object"] (by kernel_rfl) rfl
  · exact key [.type "list", .type "object"] (by kernel_rfl) rfl
  · exact key [.type "tuple", .type "object"] (by kernel_rfl) rfl
  · exact key [.type "dict", .type "object"] (by kernel_rfl) rfl
theorem good_bl_of {B : ASet} {ρ : List Addr} {h : Hs} {S : List SV} {W : ASet} {σ : L2.St} {H H' : Hp} {d : Mp.D} {v : V} {G : Gd} (g : EGood G B ρ W H S σ (.v (.d d)) h v H') : BGood G B ρ W H S σ h H' ∧ (∀ b, d = .bl b → v = .bl b) ∧ (∀ n, d = .int n → v = .int n) ∧ (∀ x, d = .str x → v = .str x) := by
  obtain ⟨ρ', W', x, R, r⟩ := g
  refine ⟨⟨ρ', W', x, R⟩, fun b e => ?_, fun b e => ?_, fun b e => ?_⟩ <;> subst e <;> simp only [RVR, VR, DR] at r <;> exact r
theorem good_str' {B : ASet} {ρ : List Addr} {h : Hs} {S : List SV} {W : ASet} {σ : L2.St} {H H' : Hp} {n : Str} {G : Gd} (g : BGood G B ρ W H S σ h H') : EGood G B ρ W H S σ (.v (.d (.str n))) h (.str n) H' := by
  obtain ⟨ρ', W', x, R⟩ := g
  exact ⟨ρ', W', x, R, by simp only [RVR, VR, DR]⟩
theorem spK_eq {k : Nat} {rv out : RV} (e : spK k rv = some out) : (∃ b, rv = .v (.d (.bl b)) ∧ ((k = 0 ∧ out = db b) ∨ (k = 1 ∧ out = db (!b)))) ∨ (∃ n : Int, rv = .v (.d (.int n)) ∧ 0 ≤ n ∧ n < 2 ^ 62 ∧ ((k = 2 ∧ out = .v (.d (.int n))) ∨ (k = 5 ∧ out = db (n != 0)))) ∨ (∃ x, rv = .v (.d (.str x)) ∧ (k = 3 ∨ k = 4) ∧ out = .v (.d (.str x))) := by
  unfold spK at e
  split at e
  · rename_i b
    split at e
    · cases e; exact .inl ⟨b, rfl, .inl ⟨by assumption, rfl⟩⟩
    · split at e
      · cases e; exact .inl ⟨b, rfl, .inr ⟨by assumption, rfl⟩⟩
      · cases e
  · rename_i n
    split at e
    · rename_i hn
      split at e
      · cases e; exact .inr (.inl ⟨n, rfl, hn.1, hn.2, .inl ⟨by assumption, rfl⟩⟩)
      · split at e
        · cases e; exact .inr (.inl ⟨n, rfl, hn.1, hn.2, .inr ⟨by assumption, rfl⟩⟩)
        · cases e
    · cases e
  · rename_i x
    split at e
    · cases e; exact .inr (.inr ⟨x, rfl, by assumption, rfl⟩)
    · cases e
  · cases e
theorem spA_one {k c : Nat} {h : Hs} {xs : List AV} (e : spA k c h xs = true) (hk : 2 ≤ k) : ∃ x, xs = [x] ∧ insB c h x = true := by
  unfold spA at e
  split at e
  · rename_i x
    simp only [Bool.and_eq_true] at e
    exact ⟨x, rfl, e.2⟩
  · simp only [Bool.and_eq_true, decide_eq_true_eq] at e
    omega
  · cases e
theorem spA_two {k c : Nat} {h : Hs} {xs : List AV} (e : spA k c h xs = true) (hk : k ≤ 1) : ∃ x y, xs = [x, y] ∧ insB c h x = true ∧ ((∃ fs, y.vw h = some (.ins c fs)) ∨ ∃ t w, y.vw h = some w ∧ w.ty = some (.b t) ∧ t ∈ bTys) := by
  unfold spA at e
  split at e
  · simp only [Bool.and_eq_true, decide_eq_true_eq] at e
    omega
  · rename_i x y
    simp only [Bool.and_eq_true] at e
    refine ⟨x, y, rfl, e.1.2, ?_⟩
    have e2 := e.2
    split at e2
    · rename_i c' q
      have := of_decide_eq_true e2
      subst this
      simp only [Option.bind_eq_some_iff] at q
      obtain ⟨w, q1, q2⟩ := q
      cases w <;> simp only [Vw.ty] at q2 <;> cases q2
      exact .inl ⟨_, q1⟩
    · rename_i t q
      simp only [Option.bind_eq_some_iff] at q
      obtain ⟨w, q1, q2⟩ := q
      exact .inr ⟨t, w, q1, q2, of_decide_eq_true e2⟩
    · cases e2
  · cases e
/-- the second one's type, seen from the heap -/
theorem looks_second {B : ASet} {ρ : List Addr} {h : Hs} {S : List SV} {W : ASet} {σ τ : L2.St} {H : Hp} {s : Shared} {pins : List (Addr × Obj)} {y : AV} {w : V} {u : Value} {c : Nat} (R : RS (gX X cls) B ρ h S W σ H) (r : VR (gX X cls) H W ρ y w) (rw' : RelV w u) (I : L2.Inv X pins τ H s)
    (e : (∃ fs, y.vw h = some (.ins c fs)) ∨ ∃ t z, y.vw h = some z ∧ z.ty = some (.b t) ∧ t ∈ bTys) : ∃ tb, PySem.W.Looks (model X.prog X.w) s.heap (typeOf u) tb ∧ PySem.W.notFirst X.K (cls c) tb = true := by
  rcases e with ⟨fs, e⟩ | ⟨t, z, e, et, ht⟩
  · obtain ⟨p, dx, es, rfl, l, _⟩ := VR.vw R r e
    cases rw'
    obtain ⟨mA, O, _⟩ := ins_get I.hok l
    obtain ⟨od, J, _⟩ := O.look
    exact ⟨_, J.type, by simp [PySem.W.notFirst]⟩
  · have ty := ty_of (VR.vw R r e) et
    obtain ⟨P, Z, p, _⟩ := kit_of I rw' ty
    exact ⟨_, Z.ty _ _ I.kIn p, nf_bty ht⟩
theorem units_of (o : OK T F cls N sc XW X) : X.A.units + 64 < cLine := o.fa.un
theorem spc_eq (o : OK T F cls N sc XW X) {f c : Nat} (hm : T.mts.lookup f = some (c, Str.ofString "__eq__", 1)) : OpR X (compareOp .Eq) (fun x y H Q => rSpL (gX X cls) F 0 f c [x, y] H Q) := by
  intro pins s τ H x y v u Q I rx ry q
  obtain ⟨B, ρ, h, S, W, σ, xs, rv, h', out, R, r, ea, em, ek, q⟩ := q
  obtain ⟨a, b, rfl, ia, ib⟩ := spA_two ea (by omega)
  obtain ⟨fs, e1⟩ := insB_of ia
  obtain ⟨bv, hb, ho⟩ : ∃ bv, rv = .v (.d (.bl bv)) ∧ out = db bv := by
    rcases spK_eq ek with ⟨bv, h1, h2⟩ | ⟨n, _, _, _, h2⟩ | ⟨z, _, h2, _⟩
    · rcases h2 with ⟨_, h2⟩ | ⟨h2, _⟩
      · exact ⟨bv, h1, h2⟩
      · omega
    · omega
    · omega
  subst hb ho
  have r0 := r
  simp only [VRs] at r0
  obtain ⟨va, r1, hva, ra, vb, r2, hvb, rb, rfl⟩ := r0
  subst hvb
  obtain ⟨rfl, rfl⟩ : va = x ∧ vb = y := by simpa using hva.symm
  obtain ⟨p, dx, es, rfl, l, _⟩ := VR.vw R ra e1
  cases rx
  obtain ⟨ad, hc, mt, go⟩ := sp_call (us := [.ref p, u]) o hm (by decide +kernel) R r rfl em
  obtain ⟨tb, lk, nf⟩ := looks_second R rb ry I ib
  have un := units_of o
  show wpAny (model X.prog X.w) X.A (richCompare .Eq (.ref p) u) (EP X pins τ Q) X.xe s
  refine own_eq (by omega) I l mt lk nf (wpAny_mono (go X.A (.inl rfl) pins s τ I (.cons rfl (.cons ry .nil))) (fun w s' g => ?_) fun _ _ z => z)
  obtain ⟨v, H', I', rv', g⟩ := g
  obtain ⟨_, g1, _, _⟩ := good_bl_of g
  obtain rfl := g1 _ rfl
  cases rv'
  exact ⟨.bl bv, H', I', rfl, q _ _ g⟩
theorem spc_ne (o : OK T F cls N sc XW X) {f c : Nat} (hm : T.mts.lookup f = some (c, Str.ofString "__eq__", 1)) (hi : (T.mks.lookup c).isSome = true) : OpR X (compareOp .NotEq) (fun x y H Q => rSpL (gX X cls) F 1 f c [x, y] H Q) := by
  intro pins s τ H x y v u Q I rx ry q
  obtain ⟨B, ρ, h, S, W, σ, xs, rv, h', out, R, r, ea, em, ek, q⟩ := q
  obtain ⟨a, b, rfl, ia, ib⟩ := spA_two ea (by omega)
  obtain ⟨fs, e1⟩ := insB_of ia
  obtain ⟨bv, hb, ho⟩ : ∃ bv, rv = .v (.d (.bl bv)) ∧ out = db (!bv) := by
    rcases spK_eq ek with ⟨bv, h1, h2⟩ | ⟨n, _, _, _, h2⟩ | ⟨z, _, h2, _⟩
    · rcases h2 with ⟨h2, _⟩ | ⟨_, h2⟩
      · omega
      · exact ⟨bv, h1, h2⟩
    · omega
    · omega
  subst hb ho
  have r0 := r
  simp only [VRs] at r0
  obtain ⟨va, r1, hva, ra, vb, r2, hvb, rb, rfl⟩ := r0
  subst hvb
  obtain ⟨rfl, rfl⟩ : va = x ∧ vb = y := by simpa using hva.symm
  obtain ⟨p, dx, es, rfl, l, _⟩ := VR.vw R ra e1
  cases rx
  obtain ⟨ad, hc, mt, go⟩ := sp_call (us := [.ref p, u]) o hm (by decide +kernel) R r rfl em
  obtain ⟨tb, lk, nf⟩ := looks_second R rb ry I ib
  have un := units_of o
  obtain ⟨⟨cx, cn⟩, hcx⟩ := Option.isSome_iff_exists.mp hi
  obtain ⟨_, ⟨_, _, _, _, _, ci, _, _⟩, _⟩ := o.fa.ik c cx cn hcx
  show wpAny (model X.prog X.w) X.A (richCompare .NotEq (.ref p) u) (EP X pins τ Q) X.xe s
  refine own_ne (by omega) I l mt ci.ne ci.isC.hm lk nf (wpAny_mono (go X.A.in1 (.inr (.inl rfl)) pins s τ I (.cons rfl (.cons ry .nil))) (fun w s' g => ?_) fun _ _ z => z)
  obtain ⟨v, H', I', rv', g⟩ := g
  obtain ⟨g0, g1, _, _⟩ := good_bl_of g
  obtain rfl := g1 _ rfl
  cases rv'
  exact ⟨.bl (!bv), H', I', rfl, q _ _ (db_good g0)⟩
/-- the four that are called by a built-in's name -/
theorem spc_len (o : OK T F cls N sc XW X) {f c : Nat} (hm : T.mts.lookup f = some (c, Str.ofString "__len__", 0)) : CallR X (.builtin "len") (rSpL (gX X cls) F 2 f c) := by
  intro pins s τ H vs us Q I rr q
  obtain ⟨B, ρ, h, S, W, σ, xs, rv, h', out, R, r, ea, em, ek, q⟩ := q
  obtain ⟨a, rfl, ia⟩ := spA_one ea (by omega)
  obtain ⟨fs, e1⟩ := insB_of ia
  obtain ⟨n, hb, n0, n1, ho⟩ : ∃ n : Int, rv = .v (.d (.int n)) ∧ 0 ≤ n ∧ n < 2 ^ 62 ∧ out = .v (.d (.int n)) := by
    rcases spK_eq ek with ⟨bv, h1, h2⟩ | ⟨n, h1, h2, h3, h4⟩ | ⟨z, _, h2, _⟩
    · omega
    · rcases h4 with ⟨_, h4⟩ | ⟨h4, _⟩
      · exact ⟨n, h1, h2, h3, h4⟩
      · omega
    · omega
  subst hb ho
  have r0 := r
  simp only [VRs] at r0
  obtain ⟨va, r1, rfl, ra, rfl⟩ := r0
  obtain ⟨p, dx, es, rfl, l, _⟩ := VR.vw R ra e1
  cases rr with
  | cons ru rn =>
  cases rn
  cases ru
  obtain ⟨ad, hc, mt, go⟩ := sp_call (us := [.ref p]) o hm (by decide +kernel) R r rfl em
  refine own_len I l mt (wpAny_mono (go X.A.in1 (.inr (.inl rfl)) pins s τ I (.cons rfl .nil)) (fun w s' g => ?_) fun _ _ z => z)
  obtain ⟨v, H', I', rv', g⟩ := g
  obtain ⟨g0, _, g1, _⟩ := good_bl_of g
  obtain rfl := g1 _ rfl
  obtain ⟨t, rfl⟩ := rv'
  exact ⟨⟨n0, by omega⟩, .int n, H', I'.tok _, ⟨_, rfl⟩, q _ _ g⟩
theorem spc_str (o : OK T F cls N sc XW X) {f c : Nat} (hm : T.mts.lookup f = some (c, Str.ofString "__str__", 0)) : CallR X (.type "str") (rSpL (gX X cls) F 3 f c) := by
  intro pins s τ H vs us Q I rr q
  obtain ⟨B, ρ, h, S, W, σ, xs, rv, h', out, R, r, ea, em, ek, q⟩ := q
  obtain ⟨a, rfl, ia⟩ := spA_one ea (by omega)
  obtain ⟨fs, e1⟩ := insB_of ia
  obtain ⟨n, hb, ho⟩ : ∃ n : Str, rv = .v (.d (.str n)) ∧ out = .v (.d (.str n)) := by
    rcases spK_eq ek with ⟨bv, h1, h2⟩ | ⟨n, h1, h2, h3, h4⟩ | ⟨z, h1, h2, h3⟩
    · omega
    · omega
    · exact ⟨z, h1, h3⟩
  subst hb ho
  have r0 := r
  simp only [VRs] at r0
  obtain ⟨va, r1, rfl, ra, rfl⟩ := r0
  obtain ⟨p, dx, es, rfl, l, _⟩ := VR.vw R ra e1
  cases rr with
  | cons ru rn =>
  cases rn
  cases ru
  have un := units_of o
  obtain ⟨ad, hc, mt, go⟩ := sp_call (us := [.ref p]) o hm (by decide +kernel) R r rfl em
  refine own_str (by omega) I l mt (wpAny_mono (go X.A.in1.in1 (.inr (.inr (.inl rfl))) pins s τ I (.cons rfl .nil)) (fun w s' g => ?_) fun _ _ z => z)
  obtain ⟨v, H', I', rv', g⟩ := g
  obtain ⟨g0, _, _, g1⟩ := good_bl_of g
  obtain rfl := g1 _ rfl
  obtain ⟨t, rfl⟩ := rv'
  exact ⟨.str n, H', I', ⟨_, rfl⟩, q _ _ g⟩
theorem spc_repr (o : OK T F cls N sc XW X) {f c : Nat} (hm : T.mts.lookup f = some (c, Str.ofString "__repr__", 0)) : CallR X (.builtin "repr") (rSpL (gX X cls) F 4 f c) := by
  intro pins s τ H vs us Q I rr q
  obtain ⟨B, ρ, h, S, W, σ, xs, rv, h', out, R, r, ea, em, ek, q⟩ := q
  obtain ⟨a, rfl, ia⟩ := spA_one ea (by omega)
  obtain ⟨fs, e1⟩ := insB_of ia
  obtain ⟨n, hb, ho⟩ : ∃ n : Str, rv = .v (.d (.str n)) ∧ out = .v (.d (.str n)) := by
    rcases spK_eq ek with ⟨bv, h1, h2⟩ | ⟨n, h1, h2, h3, h4⟩ | ⟨z, h1, h2, h3⟩
    · omega
    · omega
    · exact ⟨z, h1, h3⟩
  subst hb ho
  have r0 := r
  simp only [VRs] at r0
  obtain ⟨va, r1, rfl, ra, rfl⟩ := r0
  obtain ⟨p, dx, es, rfl, l, _⟩ := VR.vw R ra e1
  cases rr with
  | cons ru rn =>
  cases rn
  cases ru
  have un := units_of o
  obtain ⟨ad, hc, mt, go⟩ := sp_call (us := [.ref p]) o hm (by decide +kernel) R r rfl em
  refine own_repr (by show X.A.units + 1 < cLine; omega) I l mt (wpAny_mono (go X.A.in1 (.inr (.inl rfl)) pins s τ I (.cons rfl .nil)) (fun w s' g => ?_) fun _ _ z => z)
  obtain ⟨v, H', I', rv', g⟩ := g
  obtain ⟨g0, _, _, g1⟩ := good_bl_of g
  obtain rfl := g1 _ rfl
  obtain ⟨t, rfl⟩ := rv'
  exact ⟨.str n, H', I', ⟨_, rfl⟩, q _ _ g⟩
theorem spc_bool (o : OK T F cls N sc XW X) {f c : Nat} (hm : T.mts.lookup f = some (c, Str.ofString "__len__", 0)) (hi : (T.mks.lookup c).isSome = true) : CallR X (.type "bool") (rSpL (gX X cls) F 5 f c) := by
  intro pins s τ H vs us Q I rr q
  obtain ⟨B, ρ, h, S, W, σ, xs, rv, h', out, R, r, ea, em, ek, q⟩ := q
  obtain ⟨a, rfl, ia⟩ := spA_one ea (by omega)
  obtain ⟨fs, e1⟩ := insB_of ia
  obtain ⟨n, hb, n0, n1, ho⟩ : ∃ n : Int, rv = .v (.d (.int n)) ∧ 0 ≤ n ∧ n < 2 ^ 62 ∧ out = db (n != 0) := by
    rcases spK_eq ek with ⟨bv, h1, h2⟩ | ⟨n, h1, h2, h3, h4⟩ | ⟨z, _, h2, _⟩
    · omega
    · rcases h4 with ⟨h4, _⟩ | ⟨_, h4⟩
      · omega
      · exact ⟨n, h1, h2, h3, h4⟩
    · omega
  subst hb ho
  have r0 := r
  simp only [VRs] at r0
  obtain ⟨va, r1, rfl, ra, rfl⟩ := r0
  obtain ⟨p, dx, es, rfl, l, _⟩ := VR.vw R ra e1
  cases rr with
  | cons ru rn =>
  cases rn
  cases ru
  obtain ⟨⟨cx, cn⟩, hcx⟩ := Option.isSome_iff_exists.mp hi
  obtain ⟨_, ⟨_, _, _, _, _, ci, _, _⟩, _⟩ := o.fa.ik c cx cn hcx
  obtain ⟨ad, hc, mt, go⟩ := sp_call (us := [.ref p]) o hm (by decide +kernel) R r rfl em
  refine own_bool I l mt ci.nb (wpAny_mono (go X.A.in1.in1.in1 (.inr (.inr (.inr rfl))) pins s τ I (.cons rfl .nil)) (fun w s' g => ?_) fun _ _ z => z)
  obtain ⟨v, H', I', rv', g⟩ := g
  obtain ⟨g0, _, g1, _⟩ := good_bl_of g
  obtain rfl := g1 _ rfl
  obtain ⟨t, rfl⟩ := rv'
  exact ⟨⟨n0, by omega⟩, .bl (n != 0), H', I'.tok _, rfl, q _ _ (db_good g0)⟩
theorem spc_two {k f c : Nat} {ma mb : ME} {σ : L2.St} {H : Hp} {Q : VK} (q : rdE (gX X cls) F XW (.spc k f c [ma, mb]) σ H Q) : tOp (fun x y H Q => rSpL (gX X cls) F k f c [x, y] H Q) (rdE (gX X cls) F XW ma) (rdE (gX X cls) F XW mb) σ H Q := by
  obtain ⟨B, ρ, h, S, W, R, q⟩ := q
  simp only [evE, evL, ens_bind] at q
  refine ⟨B, ρ, h, S, W, R, ens_mono q fun x h1 q v H1 g => ?_⟩
  obtain ⟨y, ey, q⟩ := ens_ok1 q
  obtain ⟨ρ1, W1, x1, R1, r1⟩ := g.toV ey R.base
  refine ⟨B, ρ1, h1, S, W1, R1, ens_ext q (fun z h2 q u H2 g2 => ?_) fun e h' k c d H' g => k c d H' (g.ext R.base x1)⟩
  obtain ⟨y2, ey2, q⟩ := ens_ok1 q
  obtain ⟨ρ2, W2, x2, R2, r2⟩ := g2.toV ey2 R1.base
  have q := (show (if spA k c h2 [y, y2] = true then (F.mth f [y, y2] h2).noX.bind fun r h2 => ok1 (spK k r) h2 else .bad : Res RV).ens (fun rv h' => ∀ v H', EGood (gX X cls) B ρ W H S σ rv h' v H' → Q v H') (fun e h' => ∀ c d H', XGood (gX X cls) B ρ W H S σ e h' c d H' → XW c d σ H') from by
    by_cases ea : spA k c h2 [y, y2] = true
    · rw [if_pos ea]
      simp only [Res.ens, ea, if_true] at q ⊢
      simpa only [ens_bind, Res.ens] using q
    · simp only [Res.ens, ea] at q
      exact q.elim)
  split at q
  case isFalse => exact q.elim
  rename_i ea
  rw [ens_bind] at q
  obtain ⟨rv, h3, em, q⟩ := ens_noX q
  obtain ⟨out, ek, q⟩ := ens_ok1 q
  exact ⟨B, ρ2, h2, S, W2, σ, [y, y2], rv, h3, out, R2, by simp only [VRs]; exact ⟨_, _, rfl, VR.mv x2.sub x2.pre _ _ r1, _, _, rfl, r2, rfl⟩, ea, em, ek, fun v H' g' => q v H' ((g'.ext R1.base x2).ext R.base x1)⟩
theorem st_spc2 (o : OK T F cls N sc XW X) {k f c : Nat} {op : CmpOp} {a b : Expr} {ma mb : ME} {pos : Pos} (ho : OpR X (compareOp op) (fun x y H Q => rSpL (gX X cls) F k f c [x, y] H Q)) (hm : behindInMarks op b = false) (ha : PE X a (rdE (gX X cls) F XW ma)) (hb : PE X b (rdE (gX X cls) F XW mb)) :
    PE X (.Compare a [op] [b] pos) (rdE (gX X cls) F XW (.spc k f c [ma, mb])) := PE.imp (pe_cmpR ho ha hb hm) fun σ H Q q => spc_two q
theorem spc_bl {k f c : Nat} {ms : List ME} {S : List SV} {h : Hs} {P : RV → Hs → Prop} {E : Ex → Hs → Prop} (hk : k ≤ 1) (e : (evE F (.spc k f c ms) S h).ens P E) : (evE F (.spc k f c ms) S h).ens (fun x h1 => (∃ b, x = db b) ∧ P x h1) E := by
  simp only [evE, ens_bind] at e ⊢
  refine ens_mono e fun xs h1 e => ?_
  split at e
  case isFalse => exact e.elim
  rename_i ea
  rw [if_pos ea]
  rw [ens_bind] at e ⊢
  refine ens_mono e fun r h2 e => ?_
  obtain ⟨out, ek, e⟩ := ens_ok1 e
  rw [ek]
  refine ⟨?_, e⟩
  rcases spK_eq ek with ⟨b, _, h2⟩ | ⟨n, _, _, _, h4⟩ | ⟨z, _, h2, _⟩
  · rcases h2 with ⟨_, h2⟩ | ⟨_, h2⟩ <;> exact ⟨_, h2⟩
  · omega
  · omega
theorem tt_spc2 (o : OK T F cls N sc XW X) {k f c : Nat} {op : CmpOp} {a b : Expr} {ma mb : ME} {pos : Pos} (ho : OpR X (compareOp op) (fun x y H Q => rSpL (gX X cls) F k f c [x, y] H Q)) (hk : k ≤ 1) (hm : behindInMarks op b = false) (ha : PE X a (rdE (gX X cls) F XW ma)) (hb : PE X b (rdE (gX X cls) F XW mb)) :
    PT X (.Compare a [op] [b] pos) (rdT (gX X cls) F XW (.val (.spc k f c [ma, mb]))) := by
  refine PT.imp (pt_cmpR ho ha hb hm) fun σ H Q q => spc_two (Q := fun x H' => ∃ k, x = .bl k ∧ Q k H') ?_
  obtain ⟨B, ρ, h, S, W, R, q⟩ := q
  rw [evT, ens_bind] at q
  refine ⟨B, ρ, h, S, W, R, ens_mono (spc_bl hk q) fun x h1 q v H1 g => ?_⟩
  obtain ⟨⟨b, rfl⟩, q⟩ := q
  obtain ⟨k', ek, q⟩ := ens_ok1 q
  simp only [db, RV.vw, AV.vw, D.vw, Option.bind_some, truO, Option.some.injEq] at ek
  subst ek
  obtain ⟨rfl, g0⟩ := good_db g
  exact ⟨b, rfl, q _ g0⟩
theorem spc_arg {k f c : Nat} {ms : List ME} {σ : L2.St} {H : Hp} {Q : VK} (q : rdE (gX X cls) F XW (.spc k f c ms) σ H Q) : tCB (rSpL (gX X cls) F k f c) (rdL (gX X cls) F XW ms) σ H Q := by
  obtain ⟨B, ρ, h, S, W, R, q⟩ := q
  simp only [evE, ens_bind] at q
  refine ⟨B, ρ, h, S, W, R, ens_mono q fun xs h1 q vs H1 g => ?_⟩
  obtain ⟨ρ1, W1, x1, R1, r1⟩ := g
  split at q
  case isFalse => exact q.elim
  rename_i ea
  rw [ens_bind] at q
  obtain ⟨rv, h3, em, q⟩ := ens_noX q
  obtain ⟨out, ek, q⟩ := ens_ok1 q
  exact ⟨B, ρ1, h1, S, W1, σ, xs, rv, h3, out, R1, r1, ea, em, ek, fun v H' g' => q v H' (g'.ext R.base x1)⟩
theorem st_spc1 (o : OK T F cls N sc XW X) {k f c : Nat} {x : Str} {a : Expr} {ms : List ME} {p pos : Pos} (h1 : glK sc x = true) (h2 : x ∈ T.bl) (hs : isStar a = false) (ha : PA X [a] (rdL (gX X cls) F XW ms)) (hi : (T.mks.lookup c).isSome = true)
    (hk : (k = 2 ∧ x = Str.ofString "len" ∧ T.mts.lookup f = some (c, Str.ofString "__len__", 0)) ∨ (k = 3 ∧ x = Str.ofString "str" ∧ T.mts.lookup f = some (c, Str.ofString "__str__", 0)) ∨ (k = 4 ∧ x = Str.ofString "repr" ∧ T.mts.lookup f = some (c, Str.ofString "__repr__", 0)) ∨ (k = 5 ∧ x = Str.ofString "bool" ∧ T.mts.lookup f = some (c, Str.ofString "__len__", 0))) :
    PE X (.Call (.Name x p) [a] [] pos) (rdE (gX X cls) F XW (.spc k f c ms)) := by
  rcases hk with ⟨rfl, rfl, hm⟩ | ⟨rfl, rfl, hm⟩ | ⟨rfl, rfl, hm⟩ | ⟨rfl, rfl, hm⟩
  · exact PE.imp (pe_callB (spc_len o hm) (o.gl h1) (o.fa.bl _ h2) (by decide +kernel) ha (by decide +kernel) (by decide +kernel) (star_no hs [] _) rfl) fun σ H Q q => spc_arg q
  · exact PE.imp (pe_callTy (spc_str o hm) (o.gl h1) (o.fa.bl _ h2) (by decide +kernel) ha (by decide +kernel) (by decide +kernel) (star_no hs [] _) rfl) fun σ H Q q => spc_arg q
  · exact PE.imp (pe_callB (spc_repr o hm) (o.gl h1) (o.fa.bl _ h2) (by decide +kernel) ha (by decide +kernel) (by decide +kernel) (star_no hs [] _) rfl) fun σ H Q q => spc_arg q
  · exact PE.imp (pe_callTy (spc_bool o hm hi) (o.gl h1) (o.fa.bl _ h2) (by decide +kernel) ha (by decide +kernel) (by decide +kernel) (star_no hs [] _) rfl) fun σ H Q q => spc_arg q
/-! ### f-strings -/
def isFm : Expr → Bool
  | .FormattedValue _ _ _ _ => true
  | _ => false
def trsJ (G : Gd) (F : Fn) (XW : WX) : List ME → List Expr → List TE
  | m :: ms, e :: es => (if isFm e = true then tFmt (rdE G F XW m) else rdE G F XW m) :: trsJ G F XW ms es
  | _, _ => []
/-- the parts that are no reckoned ones are texts -/
def jOk : List ME → List Expr → Prop
  | [], [] => True
  | m :: ms, e :: es => (isFm e = false → ∃ x, m = .cst (.str x)) ∧ jOk ms es
  | _, _ => False
theorem fsA_eq {x : RV} {y : Str} (e : fsA x = some y) : (x = .v (.d (.str y)) ∧ y.length ≤ sizeLine) ∨ ∃ i : Int, x = .v (.d (.int i)) ∧ i.natAbs.log2 < 1920 ∧ y = Str.ofString (toString i) := by
  unfold fsA at e
  split at e
  · split at e
    · cases e; exact .inl ⟨rfl, by assumption⟩
    · cases e
  · split at e
    · cases e; exact .inr ⟨_, rfl, by assumption, rfl⟩
    · cases e
  · cases e
theorem one_part {m : ME} {e : Expr} (hj : isFm e = false → ∃ x, m = .cst (.str x)) {σ : L2.St} {H : Hp} {Q : VK}
    (q : ∃ (B : ASet) (ρ : List Addr) (h : Hs) (S : List SV) (W : ASet), RS (gX X cls) B ρ h S W σ H ∧
      ((evE F m S h).bind fun x h1 => ok1 (fsA x) h1).ens (fun y h' => ∀ H', BGood (gX X cls) B ρ W H S σ h' H' → Q (.str y) H') (fun e h' => ∀ c d H', XGood (gX X cls) B ρ W H S σ e h' c d H' → XW c d σ H')) :
    (if isFm e = true then tFmt (rdE (gX X cls) F XW m) else rdE (gX X cls) F XW m) σ H Q := by
  obtain ⟨B, ρ, h, S, W, R, q⟩ := q
  rw [ens_bind] at q
  have key : ∀ x h1 v H1, (ok1 (fsA x) h1).ens (fun y h' => ∀ H', BGood (gX X cls) B ρ W H S σ h' H' → Q (.str y) H') (fun e h' => ∀ c d H', XGood (gX X cls) B ρ W H S σ e h' c d H' → XW c d σ H') → EGood (gX X cls) B ρ W H S σ x h1 v H1 →
      (∃ y : Str, v = .str y ∧ y.length ≤ sizeLine ∧ Q (.str y) H1) ∨ ∃ i : Int, v = .int i ∧ i.natAbs.log2 < 1920 ∧ Q (.str (toString i)) H1 := fun x h1 v H1 q g => by
    obtain ⟨y, ey, qq⟩ := ens_ok1 q
    clear q
    rcases fsA_eq ey with ⟨rfl, hy⟩ | ⟨i, rfl, hi, rfl⟩
    · obtain ⟨g0, _, _, g1⟩ := good_bl_of g
      exact .inl ⟨y, g1 _ rfl, hy, qq _ g0⟩
    · obtain ⟨g0, _, g1, _⟩ := good_bl_of g
      exact .inr ⟨i, g1 _ rfl, hi, qq _ g0⟩
  cases hf : isFm e with
  | true =>
    rw [if_pos rfl]
    exact ⟨B, ρ, h, S, W, R, ens_mono q fun x h1 q v H1 g => key x h1 v H1 q g⟩
  | false =>
    rw [if_neg Bool.false_ne_true]
    obtain ⟨z, rfl⟩ := hj hf
    refine ⟨B, ρ, h, S, W, R, ?_⟩
    simp only [evE, Res.ens] at q ⊢
    intro v H1 g
    obtain ⟨y, ey, qq⟩ := ens_ok1 q
    clear q
    obtain ⟨g0, _, _, g1⟩ := good_bl_of g
    rcases fsA_eq ey with ⟨h1, _⟩ | ⟨i, h1, _⟩
    · cases h1
      rw [g1 _ rfl]
      exact qq _ g0
    · cases h1
theorem jn_ok : ∀ {ms : List ME} {es : List Expr} {acc : Str} {σ : L2.St} {H : Hp} {Q : Str → Hp → Prop} (_ : jOk ms es)
    (_ : ∃ (B : ASet) (ρ : List Addr) (h : Hs) (S : List SV) (W : ASet), RS (gX X cls) B ρ h S W σ H ∧
      (evJ F ms acc S h).ens (fun y h' => ∀ H', BGood (gX X cls) B ρ W H S σ h' H' → Q y H') (fun e h' => ∀ c d H', XGood (gX X cls) B ρ W H S σ e h' c d H' → XW c d σ H')), tJs (trsJ (gX X cls) F XW ms es) acc σ H Q
  | [], [], acc, σ, H, Q, _, ⟨B, ρ, h, S, W, R, q⟩ => by
    simp only [evJ, Res.ens] at q
    exact q _ ⟨ρ, W, Ext.refl, R⟩
  | [], _ :: _, _, _, _, _, j, _ => j.elim
  | _ :: _, [], _, _, _, _, j, _ => j.elim
  | m :: ms, e :: es, acc, σ, H, Q, ⟨hj, j⟩, ⟨B, ρ, h, S, W, R, q⟩ => by
    refine one_part hj ⟨B, ρ, h, S, W, R, ?_⟩
    simp only [evJ, ens_bind] at q ⊢
    refine ens_mono q fun x h1 q => ?_
    refine ens_mono q fun y h2 q H' g => ?_
    split at q
    case isFalse => exact q.elim
    rename_i hl
    obtain ⟨ρ1, W1, x1, R1⟩ := g
    refine ⟨y, rfl, hl, jn_ok j ⟨B, ρ1, h2, S, W1, R1, ens_ext q (fun z h3 q H3 g3 => ?_) fun e h' k c d H' g => k c d H' (g.ext R.base x1)⟩⟩
    obtain ⟨ρ2, W2, x2, R2⟩ := g3
    exact q _ ⟨ρ2, W2, x1.trans x2 R.base, R2⟩
theorem empty_app (y : Str) : Str.empty ++ y = y := by
  obtain ⟨a⟩ := y
  show Str.mk (#[] ++ a) = _
  simp
theorem st_fst (o : OK T F cls N sc XW X) {ms : List ME} {es : List Expr} {pos : Pos} (hn : ms ≠ []) (hj : jOk ms es) (h : PJ X es (trsJ (gX X cls) F XW ms es)) : PE X (.JoinedStr es pos) (rdE (gX X cls) F XW (.fst ms)) := by
  have conv : ∀ σ H Q, rdE (gX X cls) F XW (.fst ms) σ H Q → ∃ (B : ASet) (ρ : List Addr) (h : Hs) (S : List SV) (W : ASet), RS (gX X cls) B ρ h S W σ H ∧
      (evJ F ms Str.empty S h).ens (fun y h' => ∀ H', BGood (gX X cls) B ρ W H S σ h' H' → Q (.str y) H') (fun e h' => ∀ c d H', XGood (gX X cls) B ρ W H S σ e h' c d H' → XW c d σ H') := fun σ H Q q => by
    obtain ⟨B, ρ, h, S, W, R, q⟩ := q
    simp only [evE, ens_bind] at q
    exact ⟨B, ρ, h, S, W, R, ens_mono q fun x h1 q H' g => q _ _ (good_str' g)⟩
  match ms, es, hj, hn, h, conv with
  | [m], [e], ⟨hj, _⟩, _, .cons he .nil, conv =>
    refine PE.imp (pe_joined1 he) fun σ H Q q => ?_
    obtain ⟨B, ρ, h, S, W, R, q⟩ := conv σ H Q q
    refine one_part hj ⟨B, ρ, h, S, W, R, ?_⟩
    simp only [evJ, ens_bind] at q ⊢
    refine ens_mono q fun x h1 q => ?_
    refine ens_mono q fun y h2 q H' g => ?_
    split at q
    case isFalse => exact q.elim
    simp only [Res.ens, empty_app] at q
    exact q _ g
  | m :: m' :: ms, e :: e' :: es, hj, _, h, conv =>
    exact PE.imp (pe_joined h) fun σ H Q q => jn_ok hj (conv σ H Q q)
  | [], _, _, hn, _, _ => exact absurd rfl hn
  | _ :: _, [], hj, _, _, _ => exact hj.elim
  | [_], _ :: _ :: _, hj, _, _, _ => exact hj.2.elim
  | _ :: _ :: _, [_], hj, _, _, _ => exact hj.2.elim
/-! ### isinstance of an own class -/
theorem st_isiC (o : OK T F cls N sc XW X) {a : Expr} {ma : ME} {j : Nat} {x : Str} {p1 p2 pos : Pos} (h1 : glK sc ("isinstance" : Str) = true) (h2 : ("isinstance" : Str) ∈ T.bl) (g1 : glK sc x = true) (g2 : okN x = true) (g3 : (T.mks.lookup j).map (·.1) = some x)
    (hs : isStar a = false) (ha : PE X a (rdE (gX X cls) F XW ma)) :
    PE X (.Call (.Name "isinstance" p1) [a, .Name x p2] [] pos) (rdE (gX X cls) F XW (.isi ma [.c j])) := by
  obtain ⟨⟨cx, cn⟩, hcx, he⟩ := Option.map_eq_some_iff.mp g3
  cases he
  obtain ⟨_, ⟨_, _, _, m, _, ci, _, _⟩, _⟩ := o.fa.ik j cx cn hcx
  have hn : PE X (.Name cx p2) (tC (.ref (cls j))) := C8.pe_gc (o.gl g1) ⟨_, m, rfl⟩ (okN_1 g2)
  refine PE.imp (pe_callB call_isi (o.gl h1) (o.fa.bl _ h2) (by decide +kernel) (pa_cons ha (pa_cons hn pa_nil) (star_no hs _ _)) (he := star_no hs _ _)) fun σ H Q q => ?_
  obtain ⟨B, ρ, h, S, W, R, q⟩ := q
  simp only [evE, ens_bind] at q
  refine ⟨B, ρ, h, S, W, R, ens_mono q fun x h1 q v H1 g => ?_⟩
  obtain ⟨ρ1, W1, x1, R1, r1⟩ := g
  obtain ⟨rv, e, q⟩ := ens_ok1 q
  simp only [Option.bind_eq_some_iff, Option.map_eq_some_iff] at e
  obtain ⟨t, ⟨w, e1, e2⟩, b, e3, rfl⟩ := e
  have fin : ∀ b' : Bool, (b' || false) = b → Q (.bl b') H1 := fun b' z => by
    have z' : b' = b := by rw [← z]; cases b' <;> rfl
    subst z'
    exact q _ _ (db_good ⟨ρ1, W1, x1, R1⟩)
  cases t with
  | b t =>
    simp only [tyAny, tyIs] at e3
    split at e3
    · rename_i b' r e4 e5
      cases e5
      split at e4
      · rename_i ht
        cases e4
        exact ⟨v, .ref (cls j), .type t, .ref (cls j), false, rfl, .own _, ty_of (RVR.vw R1 r1 e1) e2, ci.no t ht, fin false (Option.some.inj e3)⟩
      · cases e4
    · cases e3
  | c i =>
    simp only [tyAny, tyIs] at e3
    split at e3
    · rename_i b' r e4 e5
      cases e5
      split at e4
      · rename_i hij
        subst hij
        cases e4
        have wi : ∃ fs, w = .ins i fs := by cases w <;> simp only [Vw.ty] at e2 <;> cases e2; exact ⟨_, rfl⟩
        obtain ⟨fs, rfl⟩ := wi
        obtain ⟨p, dx, es, rfl, l, _⟩ := RVR.vw R1 r1 e1
        exact ⟨.ref p, .ref (cls i), .ref (cls i), .ref (cls i), true, rfl, .own _, .base (TyOf.ins l ci.isC.cl ci.isC.ha ci.isC.hn ci.isC.htk ci.isC.hm), ci.isC.me, fin true (Option.some.inj e3)⟩
      · cases e4
    · cases e3
end
end Mp


set_option Elab.async false
set_option linter.all false
set_option maxRecDepth 10000
set_option maxHeartbeats 1000000
/-! All expressions. -/
namespace Mp
open PySem PySem.Spec PyProof.Rows L2
section
variable {T : Nm} {F : Fn} {cls : Nat → Addr} {N : List Str} {sc : Ks} {XW : WX} {X : Cx}
theorem mth_facts (m : Mth) : PlainAttrs m.ty ∧ Slot m.ty m.name m.id ∧ typeOf (.builtin m.id) = pure (.type "method_descriptor") := by
  cases m
  · exact ⟨F.plainAttrs_str, F.slot_str_join, F.type_str_join⟩
  · exact ⟨F.plainAttrs_list, F.slot_list_append, F.type_list_append⟩
  · exact ⟨F.plainAttrs_str, F.slot_str_split, F.type_str_split⟩
  · exact ⟨F.plainAttrs_str, F.slot_str_partition, F.type_str_partition⟩
  · exact ⟨F.plainAttrs_str, F.slot_str_startswith, F.type_str_startswith⟩
  · exact ⟨F.plainAttrs_list, F.slot_list_extend, F.type_list_extend⟩
  · exact ⟨F.plainAttrs_list, F.slot_list_pop, F.type_list_pop⟩
  · exact ⟨F.plainAttrs_list, F.slot_list_pop, F.type_list_pop⟩
  · exact ⟨F.plainAttrs_list, F.slot_list_reverse, F.type_list_reverse⟩
  · exact ⟨F.plainAttrs_list, F.slot_list_clear, F.type_list_clear⟩
  · exact ⟨F.plainAttrs_list, F.slot_list_insert, F.type_list_insert⟩
  · exact ⟨F.plainAttrs_list, F.slot_list_index, F.type_list_index⟩
  · exact ⟨F.plainAttrs_dict, F.slot_dict_get, F.type_dict_get⟩
  · exact ⟨F.plainAttrs_dict, F.slot_dict_get, F.type_dict_get⟩
  · exact ⟨F.plainAttrs_dict, F.slot_dict_pop, F.type_dict_pop⟩
  · exact ⟨F.plainAttrs_dict, F.slot_dict_pop, F.type_dict_pop⟩
  · exact ⟨F.plainAttrs_dict, F.slot_dict_setdefault, F.type_dict_setdefault⟩
  · exact ⟨F.plainAttrs_dict, F.slot_dict_clear, F.type_dict_clear⟩
  · exact ⟨F.plainAttrs_set, F.slot_set_add, F.type_set_add⟩
  · exact ⟨F.plainAttrs_str, F.slot_str_replace, F.type_str_replace⟩
  · exact ⟨F.plainAttrs_str, F.slot_str_find, F.type_str_find⟩
/-- a value of the built-in type T, sets of ints and texts too -/
def tyW (X : Cx) (T : String) (x : V) (H : Hp) : Prop := tyV X.K T x H ∨ (T = "set" ∧ ∃ p ks, x = .ref p ∧ H p = some (SetX X.prog X.w p ks)) ∨ (T = "dict" ∧ ∃ p kvs, x = .ref p ∧ Rd H p (.dK kvs))
theorem tyW_is {pins : List (Addr × Obj)} {σ : L2.St} {H : Hp} {s : Shared} {T : String} {x : V} {v : Value} (I : L2.Inv X pins σ H s) (r : L2.RelV x v) (ty : tyW X T x H) : s.TypeIs v T ∧ ∀ a, v = .ref a → ∃ ob, s.heap.get? a = some ob ∧ ob.dict = none := by
  rcases ty with ty | ⟨rfl, p, ks, rfl, hp⟩ | ⟨rfl, p, kvs, rfl, hp⟩
  · exact tyV_is I r ty
  · cases r
    have z := (setX_get I hp).of (P := X.prog)
    exact ⟨z.typeIs, z.noDict⟩
  · cases r
    obtain ⟨_, _, vs, _, dof⟩ := dk_rd I.hok hp
    exact ⟨dof.typeIs, dof.mapOf.noDict⟩
/-- a built-in's method called: what is asked -/
def tMB (X : Cx) (T : String) (r : V → List V → Hp → VK → Prop) (to : TE) (t : TA) : TE := fun σ H Q => to σ H fun x H1 => tyW X T x H1 ∧ t σ H1 fun xs H2 => r x xs H2 Q
theorem pe_mb {T id : String} {name : Str} {r : V → List V → Hp → VK → Prop} {oe : Expr} {as : List Expr} {to : TE} {t : TA} {apos cpos : Pos} (pa : PlainAttrs T) (sl : Slot T name id) (hty : typeOf (.builtin id) = pure (.type "method_descriptor")) (rule : MtR X id r)
    (ho : PE X oe to) (ha : PA X as t) (hbase : attributeBase oe name X.env (eval oe X.env) = eval oe X.env) (hs : ∀ e ∈ as, isStar e = false) (hfew : as.length < 20) (hl : (apos.endLine == cpos.line) = true) (hn : as = [] → ∀ σ H Q, t σ H Q → Q [] H) :
    PE X (.Call (.Attribute oe name apos) as [] cpos) (tMB X T r to t) := by
  refine ⟨fun pins s σ H Q I q => ?_⟩
  cases as with
  | nil =>
    refine wpAny_Call_method0_late hbase hl (thn (ho.run pins s σ H _ I q) fun u s1 g => ?_)
    obtain ⟨x, H1, I1, rx, ty, q1⟩ := g
    obtain ⟨t1, t2⟩ := tyW_is I1 rx ty
    refine ⟨T, id, pa, sl, hty, t1, t2, Calls.callWith_builtin rfl (PySem.evalArgs_none ?_)⟩
    exact rule pins s1 σ H1 x [] u [] Q I1 rx .nil (hn rfl σ H1 _ q1)
  | cons e es =>
    have st := star_no (hs e List.mem_cons_self) es X.env
    refine wpAny_Call_method_late hbase ?_ hl rfl (thn (ho.run pins s σ H _ I q) fun u s1 g => ?_)
    · rw [all_star _ _ hs]
      simp only [List.length_cons] at hfew
      simp [backToKw, keywordEach]
      omega
    · obtain ⟨x, H1, I1, rx, ty, q1⟩ := g
      obtain ⟨t1, t2⟩ := tyW_is I1 rx ty
      refine ⟨T, id, pa, sl, hty, t1, t2, ?_⟩
      have hA := ha.run cpos pins s1 σ H1 _ I1 q1
      have an : (backTo cpos (starEach es X.env)).any (·.1) = false := any_star X.env cpos fun y hy => hs y (List.mem_cons_of_mem _ hy)
      rw [st] at hA ⊢
      refine Calls.callWith_builtin (by show (false || (backTo cpos (starEach es X.env)).any (·.1)) = false; rw [an]; rfl) (Calls.evalArgs_plain ?_)
      exact thn hA fun us s2 g2 => by
        obtain ⟨vs, H2, I2, r2, q2⟩ := g2
        exact rule pins s2 σ H2 x vs u us Q I2 rx r2 q2
theorem rcv_ty {B : ASet} {ρ : List Addr} {h : Hs} {S : List SV} {W : ASet} {σ : L2.St} {H : Hp} {m : Mth} {x : RV} {v : V} (R : RS (gX X cls) B ρ h S W σ H) (r : RVR (gX X cls) H W B ρ S σ x v) (e : rcvOk h m x = true) : tyW X m.ty v H := by
  unfold rcvOk at e
  split at e
  case h_2 => cases e
  rename_i w ew
  have q := RVR.vw R r ew
  unfold vwOk at e
  split at e
  · rename_i e1
    simp only [WR] at q
    subst q
    rw [e1]
    exact .inl rfl
  · rename_i e1
    obtain ⟨a, vs, rfl, l, q⟩ := q
    rw [e1]
    exact .inl (.inl ⟨rfl, vs, SqL.of l⟩)
  · rename_i e1
    obtain ⟨a, vs, rfl, l, q⟩ := q
    rw [e1]
    exact .inr (.inr ⟨rfl, a, _, rfl, l⟩)
  · rename_i e1
    obtain ⟨a, rfl, nd, l⟩ := q
    rw [e1]
    exact .inr (.inl ⟨rfl, a, _, rfl, l⟩)
  · cases e
theorem okP_ok {α : Type} {o : Option (α × Hs)} {P : α → Hs → Prop} {E : Ex → Hs → Prop} (e : (okP o).ens P E) : ∃ a h, o = some (a, h) ∧ P a h := by
  cases o with
  | none => exact e.elim
  | some p => exact ⟨p.1, p.2, rfl, e⟩
theorem st_met (o : OK T F cls N sc XW X) {m : Mth} {a : Expr} {es : List Expr} {ma : ME} {ms : List ME} {apos cpos : Pos} (hl : (apos.endLine == cpos.line) = true) (hsup : noSuper a = true) (hfew : es.length < 20) (hs : ∀ e ∈ es, isStar e = false) (hlen : ms.length = es.length)
    (ha : PE X a (rdE (gX X cls) F XW ma)) (hb : PA X es (rdL (gX X cls) F XW ms)) : PE X (.Call (.Attribute a m.name apos) es [] cpos) (rdE (gX X cls) F XW (.met m ma ms)) := by
  obtain ⟨f1, f2, f3⟩ := mth_facts m
  refine PE.imp (pe_mb f1 f2 f3 (mth_ok (cls := cls) o.fa.un m) ha hb (base_plain hsup _ _ _) hs hfew hl (fun e σ H Q q => by
    subst e
    have em : ms = [] := List.length_eq_zero_iff.mp hlen
    subst em
    obtain ⟨B, ρ, h, S, W, R, q⟩ := q
    exact q [] H ⟨ρ, W, Ext.refl, R, by simp only [VRs]⟩)) fun σ H Q q => ?_
  obtain ⟨B, ρ, h, S, W, R, q⟩ := q
  simp only [evE, ens_bind] at q
  refine ⟨B, ρ, h, S, W, R, ens_mono q fun x h1 q v H1 g => ?_⟩
  obtain ⟨y, ey, q⟩ := ens_ok1 q
  obtain ⟨ρ1, W1, x1, R1, r1⟩ := g.hold ey R.base
  split at q
  case isFalse => exact q.elim
  rename_i hr
  rw [ens_bind] at q
  refine ⟨rcv_ty R1 r1 hr, B, ρ1, h1, S, W1, R1, ens_ext q (fun xs h2 q vs H2 g2 => ?_) fun e h' k c d H' g => k c d H' (g.ext R.base x1)⟩
  obtain ⟨ρ2, W2, x2, R2, r2⟩ := g2
  obtain ⟨rv, h3, e, q⟩ := okP_ok q
  exact ⟨B, ρ2, h2, S, W2, σ, y, xs, rv, h3, R2, RVR.hold x2 (hold_hold ey) r1, r2, e, fun v' H' g' => q v' H' ((g'.ext R1.base x2).ext R.base x1)⟩
theorem st_cel (o : OK T F cls N sc XW X) {e : Expr} {m : ME} (ha : PE X e (rdE (gX X cls) F XW m)) : PE X e (rdE (gX X cls) F XW (.cel m)) := by
  refine PE.imp ha fun σ H Q q => ?_
  obtain ⟨B, ρ, h, S, W, R, q⟩ := q
  simp only [evE, ens_bind] at q
  refine ⟨B, ρ, h, S, W, R, ens_mono q fun x h1 q v H1 g => ?_⟩
  split at q
  · obtain ⟨ρ1, W1, x1, R1, r1⟩ := g
    obtain ⟨a, rfl, g1, g2, g3, g4, g5⟩ := r1
    refine q _ _ ⟨ρ1 ++ [a], W1, x1.trans Ext.cell R.base, R1.cell g1 g2 g3 g4 g5, ?_⟩
    simp only [RVR, VR]
    refine ⟨a, ?_, rfl⟩
    rw [← R1.len, List.getElem?_append_right (Nat.le_refl _)]
    simp
  · exact q.elim
theorem folded {e : Expr} (h : (match e with | .Set _ _ _ => false | _ => true) = true) (env : Env) : ∀ x, foldedSetIterable e env x = pure x := by
  intro x
  cases e <;> first | rfl | (simp at h)
theorem noFold : ∀ (m : MI) {sc : Ks} {e : Expr}, mI T N sc m e = true → ∀ env x, foldedSetIterable e env x = pure x
  | .seq a, sc, e, h, env => by
    simp only [mI, Bool.and_eq_true] at h
    exact folded h.2 env
  | .rng es, sc, e, h, env => by
    simp only [mI] at h
    split at h
    · exact fun x => rfl
    · cases h
  | .zs es, sc, e, h, env => by
    simp only [mI] at h
    split at h
    · exact fun x => rfl
    · cases h
  | .enm a, sc, e, h, env => by
    simp only [mI] at h
    split at h
    · exact fun x => rfl
    · cases h
  | .zp es, sc, e, h, env => by
    simp only [mI] at h
    split at h
    · exact fun x => rfl
    · cases h
mutual
theorem sndE : ∀ (m : ME) (sc : Ks) (XW : WX) (X : Cx) (e : Expr), OK T F cls N sc XW X → mE T N sc m e = true → PE X e (rdE (gX X cls) F XW m)
  | .var i, sc, XW, X, e, o, h => by
    simp only [mE] at h
    split at h
    · simp only [Bool.and_eq_true, decide_eq_true_eq] at h
      exact st_var o h.1.1 h.1.2 h.2
    · cases h
  | .cst d, sc, XW, X, e, o, h => by
    simp only [mE] at h
    split at h
    · exact st_cst h
    · cases h
  | .glo j, sc, XW, X, e, o, h => by
    simp only [mE] at h
    split at h
    · simp only [Bool.and_eq_true, decide_eq_true_eq] at h
      exact st_glo o h.1.1 h.1.2 h.2
    · cases h
  | .bin op a b, sc, XW, X, e, o, h => by
    simp only [mE] at h
    split at h
    · simp only [Bool.and_eq_true, decide_eq_true_eq] at h
      obtain ⟨⟨rfl, h1⟩, h2⟩ := h
      exact st_bin o (sndE a sc XW X _ o h1) (sndE b sc XW X _ o h2)
    · cases h
  | .neg a, sc, XW, X, e, o, h => by
    simp only [mE] at h
    split at h
    · exact st_neg o (sndE a sc XW X _ o h)
    · cases h
  | .cmp op a b, sc, XW, X, e, o, h => by
    simp only [mE] at h
    split at h
    · simp only [Bool.and_eq_true, decide_eq_true_eq, Bool.not_eq_true'] at h
      obtain ⟨⟨⟨rfl, h1⟩, h2⟩, h3⟩ := h
      exact st_cmp o h3 (sndE a sc XW X _ o h1) (sndE b sc XW X _ o h2)
    · cases h
  | .chn p p' a b c, sc, XW, X, e, o, h => by
    simp only [mE] at h
    split at h
    · simp only [Bool.and_eq_true, decide_eq_true_eq, Bool.not_eq_true'] at h
      obtain ⟨⟨⟨⟨⟨rfl, rfl⟩, h1⟩, h2⟩, h3⟩, h4⟩ := h
      exact st_chn o h4 (sndE a sc XW X _ o h1) (sndE b sc XW X _ o h2) (sndE c sc XW X _ o h3)
    · cases h
  | .bop t es, sc, XW, X, e, o, h => by
    simp only [mE] at h
    split at h
    · simp only [Bool.and_eq_true, Bool.not_eq_true'] at h
      obtain ⟨⟨h1, h2⟩, h3⟩ := h
      exact sndB t es sc XW X _ _ _ o h1 h2 (by simpa using h3)
    · cases h
  | .nt a, sc, XW, X, e, o, h => by
    simp only [mE] at h
    split at h
    · exact st_nt o (sndE a sc XW X _ o h)
    · cases h
  | .ite c a b, sc, XW, X, e, o, h => by
    simp only [mE] at h
    split at h
    · simp only [Bool.and_eq_true] at h
      exact st_ite o (sndC c sc XW X _ o h.1.1) (sndE a sc XW X _ o h.1.2) (sndE b sc XW X _ o h.2)
    · cases h
  | .lst es, sc, XW, X, e, o, h => by
    simp only [mE] at h
    split at h
    · exact st_lst o (sndL es sc XW X _ o h)
    · cases h
  | .tup es, sc, XW, X, e, o, h => by
    simp only [mE] at h
    split at h
    · exact st_tup o (sndL es sc XW X _ o h)
    · cases h
  | .dct kvs, sc, XW, X, e, o, h => by
    simp only [mE] at h
    split at h
    · simp only [Bool.and_eq_true, decide_eq_true_eq] at h
      obtain ⟨h1, h2, h3, h4, h5⟩ := sndK kvs sc XW X _ _ (pos := _) o h.1
      exact st_dct o h1 h4 h2 h3 h.2 h5
    · cases h
  | .sub a i, sc, XW, X, e, o, h => by
    simp only [mE] at h
    split at h
    · simp only [Bool.and_eq_true, Bool.not_eq_true'] at h
      exact st_sub o h.2 (sndE a sc XW X _ o h.1.1) (sndE i sc XW X _ o h.1.2)
    · cases h
  | .slc a lo hi, sc, XW, X, e, o, h => by
    simp only [mE] at h
    split at h
    · simp only [Bool.and_eq_true] at h
      exact st_slc o (sndE a sc XW X _ o h.1.1) (sndO lo sc XW X _ o h.1.2) (sndO hi sc XW X _ o h.2)
    · cases h
  | .rev a, sc, XW, X, e, o, h => by
    simp only [mE] at h
    split at h
    · simp only [Bool.and_eq_true, decide_eq_true_eq] at h
      obtain ⟨h1, rfl⟩ := h
      exact st_rev o (sndE a sc XW X _ o h1)
    · cases h
  | .lit a, sc, XW, X, e, o, h => by
    simp only [mE] at h
    split at h
    · simp only [Bool.and_eq_true, decide_eq_true_eq] at h
      obtain ⟨⟨⟨⟨⟨⟨rfl, h2⟩, h3⟩, rfl⟩, h5⟩, h6⟩, h7⟩ := h
      exact st_lit o h2 h3 h5 h6 (sndE a sc XW X _ o h7)
    · cases h
  | .lke a, sc, XW, X, e, o, h => by
    simp only [mE] at h
    split at h
    · simp only [Bool.and_eq_true, decide_eq_true_eq] at h
      obtain ⟨⟨⟨⟨⟨⟨rfl, h2⟩, h3⟩, rfl⟩, h5⟩, h6⟩, h7⟩ := h
      exact st_lke o h2 h3 h5 h6 (sndE a sc XW X _ o h7)
    · cases h
  | .isi a cs, sc, XW, X, e, o, h => by
    simp only [mE] at h
    split at h
    · rename_i x p a' c' ks pos
      simp only [Bool.and_eq_true, decide_eq_true_eq, Bool.not_eq_true'] at h
      obtain ⟨⟨⟨⟨⟨rfl, h1⟩, h2⟩, h3, hs⟩, h4⟩, h5⟩ := h
      split at h5
      · rename_i c
        unfold tcOk at h5
        split at h5
        · rename_i n x p
          simp only [Bool.and_eq_true, decide_eq_true_eq] at h5
          obtain ⟨⟨⟨⟨rfl, g1⟩, g2⟩, g3⟩, g4⟩ := h5
          have ks0 : ks = [] := by simpa using h4
          subst ks0
          exact st_isi o h1 h2 g1 g2 g3 g4 hs (sndE a sc XW X _ o h3)
        · rename_i j x p
          simp only [Bool.and_eq_true, decide_eq_true_eq] at h5
          obtain ⟨⟨g3, g1⟩, g2⟩ := h5
          have ks0 : ks = [] := by simpa using h4
          subst ks0
          exact st_isiC o h1 h2 g1 g2 g3 hs (sndE a sc XW X _ o h3)
        · cases h5
      · cases h5
    · cases h
  | .cal f es, sc, XW, X, e, o, h => by
    simp only [mE] at h
    split at h
    · rename_i x p es' ks pos
      simp only [Bool.and_eq_true, decide_eq_true_eq] at h
      obtain ⟨⟨⟨⟨h1, h2⟩, h3⟩, h4⟩, h5⟩ := h
      have ks0 : ks = [] := by simpa using h5
      subst ks0
      exact st_cal o h1 h2 h3 (mL_star h4) (mL_len h4) (sndL es sc XW X _ o h4)
    · cases h
  | .bl1 b a, sc, XW, X, e, o, h => by
    simp only [mE] at h
    split at h
    · rename_i x p a' ks pos
      simp only [Bool.and_eq_true, decide_eq_true_eq, Bool.not_eq_true'] at h
      obtain ⟨⟨⟨⟨rfl, h2⟩, h3⟩, h4, h5⟩, h6⟩ := h
      have ks0 : ks = [] := by simpa using h6
      subst ks0
      exact st_bl1 o h2 h3 h5 (sndE a sc XW X _ o h4)
    · cases h
  | .rgv t a, sc, XW, X, e, o, h => by
    simp only [mE] at h
    split at h
    · simp only [Bool.and_eq_true, decide_eq_true_eq, Bool.not_eq_true'] at h
      obtain ⟨⟨⟨⟨⟨⟨rfl, h1⟩, h2⟩, rfl⟩, h3⟩, h4⟩, h5, h6⟩ := h
      exact st_rgv o t h1 h2 h3 h4 h6 (sndE a sc XW X _ o h5)
    · cases h
  | .blt b es, sc, XW, X, e, o, h => by
    simp only [mE] at h
    split at h
    · rename_i x p es' ks pos
      simp only [Bool.and_eq_true, decide_eq_true_eq, Bool.not_eq_true'] at h
      obtain ⟨⟨⟨⟨⟨rfl, h2⟩, h3⟩, h4⟩, h5⟩, h6⟩ := h
      have ks0 : ks = [] := by simpa using h5
      subst ks0
      cases es' with
      | nil =>
        have := mL_len h4
        cases es with
        | nil => simp at h6
        | cons _ _ => simp at this
      | cons e' es' => exact st_blt o h2 h3 (mL_star h4) (sndR es sc XW X _ o h4)
    · cases h
  | .met m a es, sc, XW, X, e, o, h => by
    simp only [mE] at h
    split at h
    · rename_i a' n apos es' ks cpos
      simp only [Bool.and_eq_true, decide_eq_true_eq] at h
      obtain ⟨⟨⟨⟨⟨⟨rfl, h1⟩, h2⟩, h3⟩, h4⟩, h5⟩, h6⟩ := h
      have ks0 : ks = [] := by simpa using h6
      subst ks0
      exact st_met o h1 h2 (by rw [← mL_len h5]; exact h3) (mL_star h5) (mL_len h5) (sndE a sc XW X _ o h4) (sndL es sc XW X _ o h5)
    · cases h
  | .lcm elt tg it cs own, sc, XW, X, e, o, h => by
    simp only [mE] at h
    split at h
    · rename_i elt' tg' it' ifs' as scope pos
      simp only [Bool.and_eq_true, decide_eq_true_eq, List.all_eq_true] at h
      obtain ⟨⟨⟨⟨⟨⟨⟨rfl, h1⟩, h2⟩, h3⟩, h4⟩, h5⟩, h6⟩, ht⟩ := h
      obtain ⟨i1, i2⟩ := sndI it sc XW X tg' it' o h3 ht
      exact st_lcm o i1 h5 h6 (fun X' o' => tg_ok o' tg tg' h2) (fun X' o' => sndE elt scope.names XW0 X' elt' o' h1) (fun X' o' => sndCo cs scope.names XW0 X' ifs' o' h4) i2
    · cases h
  | .sc2 elt tg it cs tg1 it1 cs1 own own1, sc, XW, X, e, o, h => by
    simp only [mE] at h
    split at h
    · rename_i elt' tg' it' ifs' as tg1' it1' ifs1' as1 scope pos
      simp only [Bool.and_eq_true, decide_eq_true_eq, List.all_eq_true] at h
      obtain ⟨⟨⟨⟨⟨⟨⟨⟨⟨⟨⟨⟨⟨⟨rfl, rfl⟩, h1⟩, h2⟩, h3⟩, h4⟩, h5⟩, h6⟩, h7⟩, h8⟩, h9⟩, h10⟩, h11⟩, ht⟩, ht1⟩ := h
      obtain ⟨i1, i2⟩ := sndI it sc XW X tg' it' o h3 ht
      have j2 : ∀ env x, foldedSetIterable it1' env x = pure x := noFold it1 h6
      exact st_sc2 o i1 h8 h9 h10 h11 (fun X' o' => tg_ok o' tg tg' h2) (fun X' o' => sndCo cs scope.names XW0 X' ifs' o' h4) (fun X' o' => (sndI it1 scope.names XW0 X' tg1' it1' o' h6 ht1).1) (fun X' o' => tg_ok o' tg1 tg1' h5) (fun X' o' => sndCo cs1 scope.names XW0 X' ifs1' o' h7) (fun X' o' => sndE elt scope.names XW0 X' elt' o' h1) i2 j2
    · cases h
  | .cel a, sc, XW, X, e, o, h => by
    simp only [mE] at h
    exact st_cel o (sndE a sc XW X _ o h)
  | .dead, sc, XW, X, e, o, h => ⟨fun pins s σ H Q I q => by
    obtain ⟨B, ρ, h, S, W, R, q⟩ := q
    exact q.elim⟩
  | .stp a lo c, sc, XW, X, e, o, h => by
    simp only [mE] at h
    split at h
    · simp only [Bool.and_eq_true, decide_eq_true_eq] at h
      obtain ⟨⟨⟨h1, h2⟩, rfl⟩, h4⟩ := h
      exact st_stp o h4 (sndE a sc XW X _ o h1) (sndO lo sc XW X _ o h2)
    · cases h
  | .mk c es, sc, XW, X, e, o, h => by
    simp only [mE] at h
    split at h
    · rename_i x p es' ks pos
      simp only [Bool.and_eq_true, decide_eq_true_eq] at h
      obtain ⟨⟨⟨⟨h1, h2⟩, h3⟩, h4⟩, h5⟩ := h
      have ks0 : ks = [] := by simpa using h5
      subst ks0
      exact st_mk o h1 h2 h3 (mL_star h4) (mL_len h4) (sndL es sc XW X _ o h4)
    · cases h
  | .fld cs a n, sc, XW, X, e, o, h => by
    simp only [mE] at h
    split at h
    · simp only [Bool.and_eq_true, decide_eq_true_eq, List.all_eq_true] at h
      obtain ⟨⟨⟨rfl, h1⟩, h2⟩, h3⟩ := h
      exact st_fld o h2 h3 (sndE a sc XW X _ o h1)
    · cases h
  | .cam f c m a es, sc, XW, X, e, o, h => by
    simp only [mE] at h
    split at h
    · rename_i a' n apos es' ks cpos
      simp only [Bool.and_eq_true, decide_eq_true_eq] at h
      obtain ⟨⟨⟨⟨⟨⟨⟨rfl, h0⟩, h1⟩, h2⟩, h3⟩, h4⟩, h5⟩, h6⟩ := h
      have ks0 : ks = [] := by simpa using h6
      subst ks0
      exact st_cam o h0 h1 h2 (by rw [← mL_len h5]; exact h3) (mL_star h5) (mL_len h5) (sndE a sc XW X _ o h4) (sndL es sc XW X _ o h5)
    · cases h
  | .set0, sc, XW, X, e, o, h => by
    simp only [mE] at h
    split at h
    · simp only [Bool.and_eq_true, decide_eq_true_eq] at h
      obtain ⟨⟨rfl, h1⟩, h2⟩ := h
      exact st_set0 o h1 h2
    · cases h
  | .spc k f c es, sc, XW, X, e, o, h => by
    simp only [mE] at h
    split at h
    · rename_i a op b pos
      simp only [Bool.and_eq_true, Bool.or_eq_true, decide_eq_true_eq, Bool.not_eq_true'] at h
      obtain ⟨⟨⟨⟨hk, h1⟩, h2⟩, h3⟩, h4⟩ := h
      match es, h3 with
      | [], h3 => simp [mL] at h3
      | [_], h3 => simp [mL] at h3
      | [ma, mb], h3 =>
        simp only [mL, Bool.and_eq_true] at h3
        have pa := sndE ma sc XW X _ o h3.1.1
        have pb := sndE mb sc XW X _ o h3.2.1.1
        rcases hk with ⟨rfl, rfl⟩ | ⟨rfl, rfl⟩
        · exact st_spc2 o (spc_eq o h1) h4 pa pb
        · exact st_spc2 o (spc_ne o h1 h2) h4 pa pb
      | _ :: _ :: _ :: _, h3 => simp [mL] at h3
    · rename_i x p a ks pos
      simp only [Bool.and_eq_true, Bool.or_eq_true, decide_eq_true_eq] at h
      obtain ⟨⟨⟨⟨⟨⟨h0, h1⟩, h2⟩, h3⟩, h4⟩, h5⟩, hk⟩ := h
      have ks0 : ks = [] := by simpa using h0
      subst ks0
      refine st_spc1 o h1 h3 (mL_star h4 a (.head _)) (sndL es sc XW X _ o h4) h5 ?_
      rcases hk with ((⟨⟨h6, h7⟩, h8⟩ | ⟨⟨h6, h7⟩, h8⟩) | ⟨⟨h6, h7⟩, h8⟩) | ⟨⟨h6, h7⟩, h8⟩
      · exact .inl ⟨h6, h7, h8⟩
      · exact .inr (.inl ⟨h6, h7, h8⟩)
      · exact .inr (.inr (.inl ⟨h6, h7, h8⟩))
      · exact .inr (.inr (.inr ⟨h6, h7, h8⟩))
    · cases h
  | .fst es, sc, XW, X, e, o, h => by
    simp only [mE] at h
    split at h
    · rename_i es' pos
      simp only [Bool.and_eq_true, Bool.not_eq_true'] at h
      obtain ⟨hj, pj⟩ := sndJ es sc XW X es' o h.1
      exact st_fst o (fun z => by subst z; simp at h) hj pj
    · cases h
theorem sndJ : ∀ (ms : List ME) (sc : Ks) (XW : WX) (X : Cx) (es : List Expr), OK T F cls N sc XW X → mJ T N sc ms es = true → jOk ms es ∧ PJ X es (trsJ (gX X cls) F XW ms es)
  | [], sc, XW, X, es, o, h => by
    cases es with
    | nil => exact ⟨trivial, .nil⟩
    | cons _ _ => simp [mJ] at h
  | m :: ms, sc, XW, X, es, o, h => by
    cases es with
    | nil => simp [mJ] at h
    | cons e es =>
      simp only [mJ, Bool.and_eq_true] at h
      obtain ⟨h1, h2⟩ := h
      obtain ⟨j, pj⟩ := sndJ ms sc XW X es o h2
      split at h1
      · rename_i x p1 p2
        simp only [Bool.and_eq_true] at h1
        have pe := sndE m sc XW X _ o h1.2
        refine ⟨⟨fun _ => ?_, j⟩, .cons (by simpa [isFm] using pe) pj⟩
        have h3 := h1.1
        split at h3
        · exact ⟨_, rfl⟩
        · cases h3
      · rename_i e' c p
        simp only [Bool.and_eq_true, decide_eq_true_eq] at h1
        obtain ⟨rfl, h1⟩ := h1
        exact ⟨⟨fun z => by simp [isFm] at z, j⟩, .cons (by simpa [isFm] using pe_fmt (sndE m sc XW X _ o h1)) pj⟩
      · cases h1
theorem sndK : ∀ (kvs : List ME) (sc : Ks) (XW : WX) (X : Cx) (ks : List (Option Expr)) (vs : List Expr) {pos : Pos}, OK T F cls N sc XW X → mK T N sc kvs ks vs = true →
    PPs X pos ks vs (trsK (gX X cls) F XW kvs) ∧ ks.all (·.isSome) = true ∧ ks.length = vs.length ∧ kvs.length % 2 = 0 ∧ kvs.length = 2 * ks.length
  | [], sc, XW, X, ks, vs, pos, o, h => by
    match ks, vs, h with
    | [], [], _ => exact ⟨pps_nil, rfl, rfl, rfl, rfl⟩
    | [], _ :: _, h => simp [mK] at h
    | _ :: _, _, h => simp [mK] at h
  | [_], sc, XW, X, ks, vs, pos, o, h => by simp [mK] at h
  | k :: v :: r, sc, XW, X, ks, vs, pos, o, h => by
    match ks, vs, h with
    | [], _, h => simp [mK] at h
    | none :: _, _, h => simp [mK] at h
    | some _ :: _, [], h => simp [mK] at h
    | some k' :: ks, v' :: vs, h =>
      simp only [mK, Bool.and_eq_true] at h
      obtain ⟨h1, h2, h3, h4, h5⟩ := sndK r sc XW X ks vs (pos := pos) o h.2
      refine ⟨pps_cons (sndE k sc XW X _ o h.1.1) (sndE v sc XW X _ o h.1.2) h1, by simpa using h2, by simp [h3], by simp only [List.length_cons]; omega, by simp only [List.length_cons]; omega⟩
theorem sndL : ∀ (ms : List ME) (sc : Ks) (XW : WX) (X : Cx) (es : List Expr), OK T F cls N sc XW X → mL T N sc ms es = true → PA X es (rdL (gX X cls) F XW ms)
  | [], sc, XW, X, es, o, h => by
    cases es with
    | nil => exact sl_nil
    | cons _ _ => simp [mL] at h
  | m :: ms, sc, XW, X, es, o, h => by
    cases es with
    | nil => simp [mL] at h
    | cons e es =>
      simp only [mL, Bool.and_eq_true, Bool.not_eq_true'] at h
      exact sl_cons h.1.2 (sndE m sc XW X _ o h.1.1) (sndL ms sc XW X _ o h.2)
theorem sndR : ∀ (ms : List ME) (sc : Ks) (XW : WX) (X : Cx) (es : List Expr), OK T F cls N sc XW X → mL T N sc ms es = true → PA X es (rdR (gX X cls) F XW ms)
  | [], sc, XW, X, es, o, h => by
    cases es with
    | nil => exact sr_nil
    | cons _ _ => simp [mL] at h
  | m :: ms, sc, XW, X, es, o, h => by
    cases es with
    | nil => simp [mL] at h
    | cons e es =>
      simp only [mL, Bool.and_eq_true, Bool.not_eq_true'] at h
      exact sr_cons h.1.2 (sndE m sc XW X _ o h.1.1) (sndR ms sc XW X _ o h.2)
theorem sndB (t : Bool) : ∀ (ms : List ME) (sc : Ks) (XW : WX) (X : Cx) (es : List Expr) (p : BoolOp) (pos : Pos), OK T F cls N sc XW X → andOr t p = true → mL T N sc ms es = true → ms ≠ [] → PE X (.BoolOp p es pos) (rdB (gX X cls) F XW t ms)
  | [], sc, XW, X, es, p, pos, o, hp, h, hn => absurd rfl hn
  | [m], sc, XW, X, es, p, pos, o, hp, h, hn => by
    match es, h with
    | [], h => simp [mL] at h
    | [e], h =>
      simp only [mL, Bool.and_eq_true] at h
      exact sb_one (sndE m sc XW X _ o h.1.1)
    | e :: e' :: es, h => simp [mL] at h
  | m :: m' :: ms, sc, XW, X, es, p, pos, o, hp, h, hn => by
    match es, h with
    | [], h => simp [mL] at h
    | [e], h => simp [mL] at h
    | e :: e' :: es, h =>
      rw [mL] at h
      simp only [Bool.and_eq_true] at h
      exact sb_cons hp (sndE m sc XW X _ o h.1.1) (sndB t (m' :: ms) sc XW X (e' :: es) p pos o hp h.2 (by simp))
theorem sndO : ∀ (m : Option ME) (sc : Ks) (XW : WX) (X : Cx) (e : Option Expr), OK T F cls N sc XW X → mO T N sc m e = true → PO X e (rdO (gX X cls) F XW m)
  | none, sc, XW, X, e, o, h => by
    cases e with
    | none => exact so_none
    | some _ => simp [mO] at h
  | some m, sc, XW, X, e, o, h => by
    cases e with
    | none => simp [mO] at h
    | some e =>
      simp only [mO] at h
      exact so_some (sndE m sc XW X _ o h)
theorem sndC : ∀ (m : MC) (sc : Ks) (XW : WX) (X : Cx) (e : Expr), OK T F cls N sc XW X → mC T N sc m e = true → PT X e (rdT (gX X cls) F XW m)
  | .val a, sc, XW, X, e, o, h => by
    simp only [mC, Bool.and_eq_true, Bool.or_eq_true] at h
    rcases h with ⟨h, h2 | h2⟩
    · exact tt_val h2 (sndE a sc XW X _ o h)
    · cases a with
      | spc k f c es =>
        unfold spcC at h2
        split at h2
        · rename_i a op b pos h2'
          simp only [mE, Bool.and_eq_true, Bool.or_eq_true, decide_eq_true_eq, Bool.not_eq_true'] at h
          obtain ⟨⟨⟨⟨hk, h1⟩, h2⟩, h3⟩, h4⟩ := h
          match es, h3 with
          | [], h3 => simp [mL] at h3
          | [_], h3 => simp [mL] at h3
          | [ma, mb], h3 =>
            simp only [mL, Bool.and_eq_true] at h3
            have pa := sndE ma sc XW X _ o h3.1.1
            have pb := sndE mb sc XW X _ o h3.2.1.1
            rcases hk with ⟨rfl, rfl⟩ | ⟨rfl, rfl⟩
            · exact tt_spc2 o (spc_eq o h1) (by omega) h4 pa pb
            · exact tt_spc2 o (spc_ne o h1 h2) (by omega) h4 pa pb
          | _ :: _ :: _ :: _, h3 => simp [mL] at h3
        · cases h2
      | _ => simp [spcC] at h2
  | .cmp op a b, sc, XW, X, e, o, h => by
    simp only [mC] at h
    split at h
    · simp only [Bool.and_eq_true, decide_eq_true_eq, Bool.not_eq_true'] at h
      obtain ⟨⟨⟨rfl, h1⟩, h2⟩, h3⟩ := h
      exact tt_cmp o h3 (sndE a sc XW X _ o h1) (sndE b sc XW X _ o h2)
    · cases h
  | .chn p p' a b c, sc, XW, X, e, o, h => by
    simp only [mC] at h
    split at h
    · simp only [Bool.and_eq_true, decide_eq_true_eq, Bool.not_eq_true'] at h
      obtain ⟨⟨⟨⟨⟨rfl, rfl⟩, h1⟩, h2⟩, h3⟩, h4⟩ := h
      exact tt_chn o h4 (sndE a sc XW X _ o h1) (sndE b sc XW X _ o h2) (sndE c sc XW X _ o h3)
    · cases h
  | .bop t cs, sc, XW, X, e, o, h => by
    simp only [mC] at h
    split at h
    · simp only [Bool.and_eq_true, Bool.not_eq_true'] at h
      obtain ⟨⟨h1, h2⟩, h3⟩ := h
      exact PW.pt (PW.imp (sndCs t cs sc XW X _ _ _ o h1 h2 (by simpa using h3)) fun σ H Q q => q)
    · cases h
  | .nt c, sc, XW, X, e, o, h => by
    simp only [mC] at h
    split at h
    · exact tt_nt (sndC c sc XW X _ o h)
    · cases h
theorem sndCs (t : Bool) : ∀ (ms : List MC) (sc : Ks) (XW : WX) (X : Cx) (es : List Expr) (p : BoolOp) (pos : Pos), OK T F cls N sc XW X → andOr t p = true → mCs T N sc ms es = true → ms ≠ [] → PW X (.BoolOp p es pos) (rdTs (gX X cls) F XW t ms)
  | [], sc, XW, X, es, p, pos, o, hp, h, hn => absurd rfl hn
  | [m], sc, XW, X, es, p, pos, o, hp, h, hn => by
    match es, h with
    | [], h => simp [mCs] at h
    | [e], h =>
      simp only [mCs, Bool.and_eq_true] at h
      exact tb_one (sndC m sc XW X _ o h.1)
    | e :: e' :: es, h => simp [mCs] at h
  | m :: m' :: ms, sc, XW, X, es, p, pos, o, hp, h, hn => by
    match es, h with
    | [], h => simp [mCs] at h
    | [e], h => simp [mCs] at h
    | e :: e' :: es, h =>
      rw [mCs] at h
      simp only [Bool.and_eq_true] at h
      exact tb_cons hp (sndC m sc XW X _ o h.1) (sndCs t (m' :: ms) sc XW X (e' :: es) p pos o hp h.2 (by simp))
theorem sndCo : ∀ (m : Option MC) (sc : Ks) (XW : WX) (X : Cx) (es : List Expr), OK T F cls N sc XW X → mCo T N sc m es = true → PTs X es (rdTo (gX X cls) F XW m)
  | none, sc, XW, X, es, o, h => by
    cases es with
    | nil =>
      refine ⟨fun pins s σ H Q I q => pts_nil.run pins s σ H Q I ?_⟩
      obtain ⟨B, ρ, h, S, W, R, q⟩ := q
      exact q H ⟨ρ, W, Ext.refl, R⟩
    | cons _ _ => simp [mCo] at h
  | some m, sc, XW, X, es, o, h => by
    match es, h with
    | [], h => simp [mCo] at h
    | [e], h =>
      simp only [mCo] at h
      exact ⟨fun pins s σ H Q I q => (pts_one (sndC m sc XW X _ o h)).run pins s σ H Q I q⟩
    | _ :: _ :: _, h => simp [mCo] at h
theorem sndI : ∀ (m : MI) (sc : Ks) (XW : WX) (X : Cx) (tg e : Expr), OK T F cls N sc XW X → mI T N sc m e = true → tgOk m tg = true → PI X tg e (rdI (gX X cls) F XW m) ∧ ∀ x, foldedSetIterable e X.env x = pure x
  | .seq a, sc, XW, X, tg, e, o, h, _ => by
    simp only [mI, Bool.and_eq_true] at h
    exact ⟨si_seq o (sndE a sc XW X _ o h.1), folded h.2 X.env⟩
  | .rng es, sc, XW, X, tg, e, o, h, _ => by
    simp only [mI] at h
    split at h
    · rename_i x p es' ks pos
      simp only [Bool.and_eq_true, decide_eq_true_eq] at h
      obtain ⟨⟨⟨⟨⟨rfl, h1⟩, h2⟩, h3⟩, h4⟩, h5⟩ := h
      have ks0 : ks = [] := by simpa using h4
      subst ks0
      refine ⟨?_, fun x => rfl⟩
      have hs := mL_star h3
      have hl := mL_len h3
      have ha := sndL es sc XW X _ o h3
      match es, es', hl, ha, hs, h5 with
      | [], [], _, _, _, _ =>
        refine ⟨fun pins s σ H Q I q => ?_⟩
        obtain ⟨B, ρ, h, S, W, R, q⟩ := q
        exact q.elim
      | [m], [e], _, ha, hs, _ => exact si_rng1 o h1 h2 (hs e (by simp)) ha
      | [m, m2], [e, e2], _, ha, hs, _ => exact si_rng2 o h1 h2 (hs e (by simp)) (hs e2 (by simp)) ha
      | m :: m2 :: m3 :: ms, _, _, _, _, h5 => simp at h5
    · cases h
  | .zs es, sc, XW, X, tg, e, o, h, ht => by
    simp only [mI] at h
    split at h
    · rename_i x p es' k k1 p1 p2 pos
      simp only [Bool.and_eq_true, decide_eq_true_eq] at h
      obtain ⟨⟨⟨⟨⟨rfl, h1⟩, h2⟩, h3⟩, rfl⟩, h5⟩ := h
      refine ⟨?_, fun x => rfl⟩
      have hs := mL_star h3
      have hl := mL_len h3
      have ha := sndL es sc XW X _ o h3
      cases tg <;> simp only [tgOk, Bool.false_eq_true] at ht
      match es, es', hl, ha, hs, h5 with
      | [m, m2], [e, e2], _, ha, hs, _ => exact si_zs o h1 h2 (hs e (by simp)) (hs e2 (by simp)) ha
    · cases h
  | .enm a, sc, XW, X, tg, e, o, h, ht => by
    simp only [mI] at h
    split at h
    · rename_i x p a' pos
      simp only [Bool.and_eq_true, decide_eq_true_eq, Bool.not_eq_true'] at h
      obtain ⟨⟨⟨⟨rfl, h1⟩, h2⟩, h3⟩, h4⟩ := h
      refine ⟨?_, fun x => rfl⟩
      cases tg <;> simp only [tgOk, Bool.false_eq_true] at ht
      exact si_enm o h1 h2 h4 (sndE a sc XW X _ o h3)
    · cases h
  | .zp es, sc, XW, X, tg, e, o, h, ht => by
    simp only [mI] at h
    split at h
    · rename_i x p es' pos
      simp only [Bool.and_eq_true, decide_eq_true_eq] at h
      obtain ⟨⟨⟨⟨rfl, h1⟩, h2⟩, h3⟩, h5⟩ := h
      refine ⟨?_, fun x => rfl⟩
      have hs := mL_star h3
      have hl := mL_len h3
      have ha := sndL es sc XW X _ o h3
      cases tg <;> simp only [tgOk, Bool.false_eq_true] at ht
      match es, es', hl, ha, hs, h5 with
      | [m, m2], [e, e2], _, ha, hs, _ => exact si_zp o h1 h2 (hs e (by simp)) (hs e2 (by simp)) ha
    · cases h
end
end
end Mp


set_option Elab.async false
set_option linter.all false
set_option maxRecDepth 10000
set_option maxHeartbeats 1000000
/-! Statements. -/
namespace Mp
open PySem PySem.Spec PyProof.Rows L2
/-- what is wished behind a statement, by its worth -/
def SE (G : Gd) (B : ASet) (ρ : List Addr) (W : ASet) (H : Hp) (XW : WX) (D : Ends) (r : SRes) : Prop := match r with
  | .nx S' h' => ∀ σ' H', BGood G B ρ W H S' σ' h' H' → D.nx σ' H'
  | .bk S' h' => ∀ σ' H', BGood G B ρ W H S' σ' h' H' → D.bk σ' H'
  | .ct S' h' => ∀ σ' H', BGood G B ρ W H S' σ' h' H' → D.ct σ' H'
  | .rt rv h' => ∀ v H', EGood G B ρ W H [] [] rv h' v H' → D.rt v H'
  | .exc e S' h' => ∀ c d σ' H', XGood G B ρ W H S' σ' e h' c d H' → XW c d σ' H'
  | .bad => False
section
variable {G : Gd} {B : ASet} {ρ ρ' : List Addr} {W W' : ASet} {H H' : Hp} {XW : WX} {D D' : Ends}
theorem SE.ext {r : SRes} (bw : ∀ a, B a → W a) (x : Ext B ρ W H ρ' W' H') (q : SE G B ρ W H XW D r) : SE G B ρ' W' H' XW D r := by
  cases r with
  | nx S h => exact fun σ H g => q σ H (g.ext bw x)
  | bk S h => exact fun σ H g => q σ H (g.ext bw x)
  | ct S h => exact fun σ H g => q σ H (g.ext bw x)
  | rt rv h => exact fun v H g => q v H (g.ext bw x)
  | exc e S h => exact fun c d σ H g => q c d σ H (g.ext bw x)
  | bad => exact q
theorem SE.st {α : Type} {r : Res α} {S : List SV} {f : α → Hs → SRes} (q : SE G B ρ W H XW D (r.st S f)) : r.ens (fun a h => SE G B ρ W H XW D (f a h)) (fun e h => ∀ c d σ' H', XGood G B ρ W H S σ' e h c d H' → XW c d σ' H') := by
  cases r with
  | ok a h => exact q
  | exc e h => exact q
  | bad => exact q
end
section
variable {T : Nm} {F : Fn} {cls : Nat → Addr} {N : List Str} {sc : Ks} {XW : WX} {X : Cx}
def rdS (G : Gd) (F : Fn) (XW : WX) (m : MS) : TS := fun D σ H => ∃ (B : ASet) (ρ : List Addr) (h : Hs) (S : List SV) (W : ASet), RS G B ρ h S W σ H ∧ SE G B ρ W H XW D (evS F m S h)
def rdSs (G : Gd) (F : Fn) (XW : WX) (ms : List MS) : TS := fun D σ H => ∃ (B : ASet) (ρ : List Addr) (h : Hs) (S : List SV) (W : ASet), RS G B ρ h S W σ H ∧ SE G B ρ W H XW D (evSs F ms S h)
theorem PS.imp {st : Stmt} {t t' : TS} (h : PS X st t) (k : ∀ D σ H, t' D σ H → t D σ H) : PS X st t' := ⟨fun pins s σ H D I q => h.run pins s σ H D I (k _ _ _ q)⟩
theorem PSs.imp {st : List Stmt} {t t' : TS} (h : PSs X st t) (k : ∀ D σ H, t' D σ H → t D σ H) : PSs X st t' := ⟨fun pins s σ H D I q => h.run pins s σ H D I (k _ _ _ q)⟩
theorem OK.slot (o : OK T F cls N sc XW X) {x : Str} (h : (match sc.lookup x with | some .local => true | some .cell => true | _ => false) = true) : Loc X.env.scope x ∧ (X.fn x = true ∨ X.env.scope.names.lookup x = some .local) := by
  split at h
  · rename_i e; exact ⟨.inl (o.vl x e), .inr (o.vl x e)⟩
  · rename_i e; exact ⟨.inr (o.vc x e).1, .inl (o.vc x e).2⟩
  · cases h
/-- name = value -/
theorem ss_name (o : OK T F cls N sc XW X) {i : Nat} {x : Str} {p pos : Pos} {e : Expr} {m : ME} (h1 : N[i]? = some x) (h2 : (match sc.lookup x with | some .local => true | some .cell => true | _ => false) = true)
    (hk : (swK sc x p m e).isSome = true) (hm : mE T N sc m e = true) : PS X (.Assign [.Name x p] e pos) (tAsg (rdE (gX X cls) F XW m) (gName i)) := by
  have ha := sndE m sc XW X e o hm
  obtain ⟨l1, l2⟩ := o.slot h2
  have nd : X.N.Nodup := by rw [o.eN]; exact o.nd
  have ix : X.N[i]? = some x := by rw [o.eN]; exact h1
  unfold swK at hk
  split at hk
  · rename_i elt c s pp
    split at hk
    · rename_i el
      split at hk
      · rename_i hc
        simp only [Bool.and_eq_true, Bool.not_eq_true'] at hc
        obtain ⟨⟨c1, c2⟩, c3⟩ := hc
        cases m <;> simp only [isLcm, Bool.false_eq_true] at c1
        rename_i elt' tg' it' cs' own
        simp only [mE] at hm
        split at hm
        case h_2 => cases hm
        rename_i elt2 tg2 it2 ifs2 as scope pos2 heq
        cases heq
        simp only [Bool.and_eq_true, decide_eq_true_eq, List.all_eq_true] at hm
        obtain ⟨⟨⟨⟨⟨⟨⟨rfl, h1'⟩, h2'⟩, h3'⟩, h4'⟩, h5'⟩, h6'⟩, ht'⟩ := hm
        obtain ⟨i1, i2⟩ := sndI it' sc XW X _ _ o h3' ht'
        have bk := (blkOk_by h5').kind
        refine PS.imp (ps_setLc (i := i) (own := ownN N own) (g := rdG (gX X cls) tg') (tt := rdTo (gX X cls) F XW0 cs') (te := rdE (gX X cls) F XW0 elt') o.calm nd ix (o.vl x el) (sw_true o.kd (o.vl x el) c2 c3) i1 (o.blkOk h5')
          (fun s H C cl fp => tg_ok (o.blk bk) tg' _ h2') (fun s H C cl fp => sndCo cs' _ XW0 _ _ (o.blk bk) h4') (fun s H C cl fp => sndE elt' _ XW0 _ _ (o.blk bk) h1') i2) fun D σ H q => ?_
        rw [ownN_snd]
        exact lcm_rd h6' σ H _ q
      · cases hk
    · rename_i el
      refine ps_set nd ix l1 ha ?_ l2
      have : X.env.kindOf x = some .cell := (o.vc x el).1
      have e2 : (NameKind.cell == NameKind.local) = false := by decide
      simp [swapsWith, this, e2]
    · cases hk
  · cases hk
  · cases hk
  · cases hk
  · rename_i hn1 hn2 hn3 hn4
    refine ps_set nd ix l1 ha ?_ l2
    cases e <;> first | rfl | (exact absurd rfl (hn2 _ _ _ _)) | (exact absurd rfl (hn3 _ _ _ _)) | (exact absurd rfl (hn4 _ _ _ _ _))
theorem swap_no {e : Expr} (h : noComp e = true) (t : Option Expr) (l : Nat) (env : Env) : swapsWith e t l env = pure false := by
  cases e <;> first | rfl | (simp [noComp] at h)
theorem fm_lt {α β : Type} {f : α → Option β} {a : α} : ∀ {l : List α}, a ∈ l → f a = none → (l.filterMap f).length < l.length
  | b :: l, ha, hf => by
    rcases List.mem_cons.mp ha with e | ha
    · subst e
      rw [List.filterMap_cons_none hf]
      exact Nat.lt_succ_of_le (List.length_filterMap_le f l)
    · have ih := fm_lt ha hf
      cases q : f b with
      | none => rw [List.filterMap_cons_none q]; exact Nat.lt_succ_of_lt ih
      | some y => rw [List.filterMap_cons_some q]; exact Nat.succ_lt_succ ih
theorem left_no (o : OK T F cls N sc XW X) {ts : List Expr} {e : Expr} {k : Nat} {p : Pos} (h : leftOk sc ts e = true) : swappedStores [.Tuple ts k p] e X.env = pure none := by
  unfold leftOk at h
  split at h
  · rename_i vs k2 p2
    simp only [Bool.or_eq_true, Bool.not_eq_true', Bool.or_eq_false_iff, List.any_eq_true] at h
    rcases h with h | ⟨t, ht, h⟩
    · simp [swappedStores, h.1, h.2]
    · simp only [swappedStores]
      split
      · rfl
      · split
        · rfl
        · rw [if_pos]
          have key : (ts.filterMap fun | .Name id pos => if (X.env.kindOf id == some .local && pos.line == (ts.head?.map (·.pos.line)).getD 0) = true then some id else none | _ => none).length < ts.length := by
            refine fm_lt ht ?_
            split
            · rename_i x px
              simp only [decide_eq_true_eq] at h
              have : X.env.kindOf x = some .cell := (o.vc x h).1
              simp [this]
            · rfl
          simp only [bne_iff_ne, ne_eq, Bool.or_eq_true]
          exact .inl (Nat.ne_of_lt key)
  · rename_i hn
    cases e <;> first | rfl | (exact absurd rfl (hn _ _ _))
theorem st_asg (o : OK T F cls N sc XW X) {t : MT} {m : ME} {s : Stmt} (h : mS T N sc (.asg t m) s = true) : PS X s (rdS (gX X cls) F XW (.asg t m)) := by
  simp only [mS] at h
  split at h
  case h_2 => cases h
  rename_i tg e pos
  simp only [Bool.and_eq_true] at h
  obtain ⟨⟨h1, h2⟩, h3⟩ := h
  have core : ∀ D σ H, rdS (gX X cls) F XW (.asg t m) D σ H → tAsg (rdE (gX X cls) F XW m) (rdG (gX X cls) t) D σ H := fun D σ H q => by
    obtain ⟨B, ρ, h, S, W, R, q⟩ := q
    simp only [evS] at q
    refine ⟨B, ρ, h, S, W, R, ens_ext q.st (fun x h1 q v H1 g => ?_) fun e h k c d H' g => k c d σ H' g⟩
    obtain ⟨y, ey, q⟩ := ens_ok1 q.st
    obtain ⟨ρ1, W1, x1, R1, r1⟩ := g.toV ey R.base
    split at q
    · rename_i S' eg
      exact ⟨B, ρ1, h1, S, W1, y, S', R1, r1, eg, fun σ' R' _ _ => q σ' H1 ⟨ρ1, W1, x1, R'⟩⟩
    · exact q.elim
  split at h3
  · rename_i x p
    cases t with
    | tp ts => simp [mG] at h1
    | nm i =>
      simp only [mG, Bool.and_eq_true, decide_eq_true_eq] at h1
      refine PS.imp (ss_name o h1.1 h1.2 h3 h2) fun D σ H q => ?_
      obtain ⟨B, ρ, h, S, W, R, q⟩ := core D σ H q
      refine ⟨B, ρ, h, S, W, R, ens_mono q fun x h1 q v H1 g => ?_⟩
      obtain ⟨B2, ρ2, h2, S2, W2, y, S', R2, r2, eg, k⟩ := q v H1 g
      simp only [evG, Option.some.injEq] at eg
      subst eg
      refine k _ (R2.setV r2) (by simp) fun j hj => ?_
      simp only [slotsT, List.mem_singleton] at hj
      rw [List.getElem?_set_ne (Ne.symm hj)]
  · rename_i ts k p
    simp only [Bool.and_eq_true] at h3
    exact PS.imp (ps_asg (sndE m sc XW X e o h2) (tg_ok o t _ h1) (show swapsWithSole [Expr.Tuple ts k p] e pos.line X.env = pure false from swap_no h3.2 (some (Expr.Tuple ts k p)) pos.line X.env) (left_no o h3.1)) core
  · cases h3
theorem ip_both : PIp X .Add (fun x y H Q => ipI (fun i j => i + j) x y H Q ∨ ∃ i j : Str, x = .str i ∧ y = .str j ∧ i.length + j.length ≤ sizeLine ∧ Q (.str (i ++ j)) H) := by
  intro pins s σ H x y v u Q I rx ry h
  rcases h with h | h
  · exact ip_add pins s σ H x y v u Q I rx ry h
  · exact iop_add_str pins s σ H x y v u Q I rx ry h
theorem st_aug (o : OK T F cls N sc XW X) {i : Nat} {m : ME} {s : Stmt} (h : mS T N sc (.aug i m) s = true) : PS X s (rdS (gX X cls) F XW (.aug i m)) := by
  simp only [mS] at h
  split at h
  case h_2 => cases h
  rename_i x p e pos
  simp only [Bool.and_eq_true, mSlot, decide_eq_true_eq] at h
  obtain ⟨⟨h1, h2⟩, h3⟩ := h
  obtain ⟨l1, l2⟩ := o.slot h2
  refine PS.imp (ps_aug (i := i) (by rw [o.eN]; exact o.nd) (by rw [o.eN]; exact h1) l1 (sndE m sc XW X e o h3) ip_both l2) fun D σ H q => ?_
  obtain ⟨B, ρ, h, S, W, R, q⟩ := q
  simp only [evS] at q
  split at q
  · rename_i a ea
    obtain ⟨u, hu, v, rfl, rv⟩ := R.sl i _ ea
    simp only [VR, DR] at rv
    subst rv
    refine ⟨_, hu, B, ρ, h, S, W, R, ens_ext q.st (fun x h1 q v H1 g => ?_) fun e h k c d H' g => k c d σ H' g⟩
    split at q
    case h_2 => exact q.elim
    rename_i b
    obtain ⟨ρ1, W1, x1, R1, r1⟩ := g
    simp only [RVR, VR, DR] at r1
    subst r1
    exact .inl ⟨_, _, rfl, rfl, q _ _ ⟨ρ1, W1, x1, R1.setV (by simp only [VR, DR])⟩⟩
  · rename_i a ea
    obtain ⟨u, hu, v, rfl, rv⟩ := R.sl i _ ea
    simp only [VR, DR] at rv
    subst rv
    refine ⟨_, hu, B, ρ, h, S, W, R, ens_ext q.st (fun x h1 q v H1 g => ?_) fun e h k c d H' g => k c d σ H' g⟩
    split at q
    case h_2 => exact q.elim
    rename_i b
    split at q
    case isFalse => exact q.elim
    rename_i hz
    obtain ⟨ρ1, W1, x1, R1, r1⟩ := g
    simp only [RVR, VR, DR] at r1
    subst r1
    exact .inr ⟨_, _, rfl, rfl, hz, q _ _ ⟨ρ1, W1, x1, R1.setV (by simp only [VR, DR])⟩⟩
  · exact q.elim
theorem st_ast (o : OK T F cls N sc XW X) {ts : List MT} {m : ME} {s : Stmt} (h : mS T N sc (.ast ts m) s = true) : PS X s (rdS (gX X cls) F XW (.ast ts m)) := by
  simp only [mS] at h
  split at h
  case h_2 => cases h
  rename_i e0 sp es k p e pos
  simp only [Bool.and_eq_true] at h
  obtain ⟨⟨⟨h1, h2⟩, h3⟩, h4⟩ := h
  cases ts with
  | nil => simp [mGs] at h1
  | cons t ts =>
    have h1' := h1
    simp only [mGs, Bool.and_eq_true] at h1'
    obtain ⟨e1, e2⟩ := mGs_each X.env h1
    obtain ⟨e3, e4⟩ := mGs_each X.env h1'.2
    have hn : (assignEach es X.env).length = ts.length := by rw [e3, List.length_map, e4]
    have hg : PG X (.Tuple (.Starred e0 sp :: es) k p) (gStar X.K ts.length (rdGs (gX X cls) (t :: ts))) := pg_star o.calm (tgs_ok o (t :: ts) _ h1) hn (by rw [e1, e3]; rfl)
    have hw : swappedStores [.Tuple (.Starred e0 sp :: es) k p] e X.env = pure none := by
      unfold swappedStores
      cases e <;> first | rfl | (simp [noTup] at h4)
    refine PS.imp (ps_asg (sndE m sc XW X e o h2) hg (show swapsWithSole [Expr.Tuple (.Starred e0 sp :: es) k p] e pos.line X.env = pure false from swap_no h3 (some (Expr.Tuple (.Starred e0 sp :: es) k p)) pos.line X.env) hw) fun D σ H q => ?_
    obtain ⟨B, ρ, h, S, W, R, q⟩ := q
    simp only [evS] at q
    refine ⟨B, ρ, h, S, W, R, ens_ext q.st (fun x h1 q v H1 g => ?_) fun e h k c d H' g => k c d σ H' g⟩
    obtain ⟨ρ1, W1, x1, R1, r1⟩ := g
    split at q
    case h_2 => exact q.elim
    rename_i xs ex
    split at q
    case isFalse => exact q.elim
    rename_i hz
    obtain ⟨a, vs, rfl, l, rr⟩ := RVR.vw R1 r1 ex
    have ll := rr.length
    simp only [List.length_cons, Nat.add_sub_cancel] at q hz
    refine ⟨a, vs, rfl, SqL.of l, by omega, fun p hp => ?_⟩
    split at q
    case h_2 => exact q.elim
    rename_i z ez
    rw [ll] at ez q
    obtain ⟨ρ2, W2, x2, R2, r2⟩ := (good_lst R1 hp (rr.take (vs.length - ts.length))).toV (x := z) ez R1.base
    split at q
    case h_2 => exact q.elim
    rename_i S' eg
    refine ⟨B, ρ2, h1, S, W2, _, S', R2, ?_, eg, fun σ' R' _ _ => q σ' _ ⟨ρ2, W2, x1.trans x2 R.base, R'⟩⟩
    simp only [VRs]
    exact ⟨_, _, rfl, r2, VRs.mv x2.sub x2.pre _ _ (rr.drop _)⟩
theorem st_beh (o : OK T F cls N sc XW X) {t u : MT} {m : ME} {s : Stmt} (h : mS T N sc (.beh t u m) s = true) : PS X s (rdS (gX X cls) F XW (.beh t u m)) := by
  simp only [mS] at h
  split at h
  case h_2 => cases h
  rename_i e0 e1 sp k p e pos
  simp only [Bool.and_eq_true] at h
  obtain ⟨⟨⟨h1, h2⟩, h3⟩, h4⟩ := h
  obtain ⟨q1, q2⟩ := mGs_each X.env h1
  have hf : assignEach [e0, .Starred e1 sp] X.env = [(false, assign e0 X.env), (true, assign e1 X.env)] := by
    cases e0 <;> first | rfl | (simp [assignEach] at q1)
  have hg : PG X (.Tuple [e0, .Starred e1 sp] k p) (gBeh X.K (rdGs (gX X cls) [t, u])) := pg_behind o.calm (tgs_ok o [t, u] _ h1) hf (by rw [q1]; rfl)
  have hw : swappedStores [.Tuple [e0, .Starred e1 sp] k p] e X.env = pure none := by
    unfold swappedStores
    cases e <;> first | rfl | (simp [noTup] at h4)
  refine PS.imp (ps_asg (sndE m sc XW X e o h2) hg (show swapsWithSole [Expr.Tuple [e0, .Starred e1 sp] k p] e pos.line X.env = pure false from swap_no h3 (some (Expr.Tuple [e0, .Starred e1 sp] k p)) pos.line X.env) hw) fun D σ H q => ?_
  obtain ⟨B, ρ, h, S, W, R, q⟩ := q
  simp only [evS] at q
  refine ⟨B, ρ, h, S, W, R, ens_ext q.st (fun x h1 q v H1 g => ?_) fun e h k c d H' g => k c d σ H' g⟩
  obtain ⟨ρ1, W1, x1, R1, r1⟩ := g
  split at q
  case h_2 => exact q.elim
  rename_i y ys ex
  obtain ⟨a, vs, rfl, l, rr⟩ := RVR.vw R1 r1 ex
  simp only [VRs] at rr
  obtain ⟨v0, vr, rfl, ra, rb⟩ := rr
  refine ⟨a, v0, vr, rfl, l.sq, fun p hp => ?_⟩
  split at q
  case h_2 => exact q.elim
  rename_i z ez
  obtain ⟨ρ2, W2, x2, R2, r2⟩ := (good_lst R1 hp rb).toV (x := z) ez R1.base
  split at q
  case h_2 => exact q.elim
  rename_i S' eg
  refine ⟨B, ρ2, h1, S, W2, _, S', R2, ?_, eg, fun σ' R' _ _ => q σ' _ ⟨ρ2, W2, x1.trans x2 R.base, R'⟩⟩
  simp only [VRs]
  exact ⟨_, _, rfl, ra.mv x2.sub x2.pre, _, _, rfl, r2, rfl⟩
theorem st_asO (o : OK T F cls N sc XW X) {i : Nat} {m : ME} {s : Stmt} (h : mS T N sc (.asO i m) s = true) : PS X s (rdS (gX X cls) F XW (.asO i m)) := by
  simp only [mS] at h
  split at h
  case h_2 => cases h
  rename_i x p e pos
  simp only [Bool.and_eq_true, mSlot, decide_eq_true_eq] at h
  obtain ⟨⟨⟨h1, h1'⟩, h2⟩, h3⟩ := h
  refine PS.imp (ss_name o h1 h1' h3 h2) fun D σ H q => ?_
  obtain ⟨B, ρ, h, S, W, R, q⟩ := q
  simp only [evS] at q
  refine ⟨B, ρ, h, S, W, R, ens_ext q.st (fun x h1 q v H1 g => ?_) fun e h k c d H' g => k c d σ H' g⟩
  split at q
  · obtain ⟨ρ1, W1, x1, R1, a, rfl, g1, g2, g3, g4, g5⟩ := g
    exact q _ H1 ⟨ρ1, W1, x1, R1.setO g1 g2 g3 g4 g5⟩
  · exact q.elim
theorem sub_assign {o i : Expr} {pos : Pos} (hs : isSlice i = false) (env : Env) : ∀ v, assign (.Subscript o i pos) env v = (do
      let ov ← holding [v] (eval o env)
      let iv ← holding [v, ov] (eval i env)
      standAt pos
      holding [v, ov, iv] (setItem ov iv v)
      release [v, ov, iv] []) := by
  intro v
  cases i <;> first | rfl | (simp [isSlice] at hs)
/-- o[i] = v of a list, of a dict -/
def rSX : TSet := fun o i v H Q => rSetL o i v H Q ∨ rSetD o i v H Q
theorem set_both (hu : X.A.units + 1 < cLine) : PSet X rSX := by
  intro pins s σ H o i v ov iv u Q I ro ri rv h
  rcases h with h | h
  · exact set_list pins s σ H o i v ov iv u Q I ro ri rv h
  · exact set_dict hu pins s σ H o i v ov iv u Q I ro ri rv h
theorem setC_ok {G : Gd} {B : ASet} {ρ : List Addr} {S : List SV} {W : ASet} {σ : L2.St} {H : Hp} {p : Addr} {c c' : Cell} {z : RV} {x : AV} {vz vx : V} (wp : W p) (hc : CAt G H W ρ p c) (rz : RVR G H W B ρ S σ z vz) (rx : VR G H W ρ x vx) (e : setC c z x = some c') :
    ∃ o, (∀ Q : Hp → Prop, Q (upd H p o) → rSX (.ref p) vz vx H Q) ∧ CAt G (upd H p o) W ρ p c' := by
  unfold setC at e
  split at e
  · rename_i xs j
    simp only [Option.map_eq_some_iff] at e
    obtain ⟨k, ek, rfl⟩ := e
    obtain ⟨vs, l, r⟩ := hc
    simp only [RVR, VR, DR] at rz
    subst rz
    exact ⟨.lst (vs.set k vx), fun Q q => .inl ⟨p, vs, j, k, rfl, rfl, l, by rw [← r.length]; exact ek, q⟩, _, upd_same, VRs.set k (VRs.mv (sub_set wp) pre_refl _ _ r) (VR.mv (sub_set wp) pre_refl _ _ rx)⟩
  · rename_i kvs z
    split at e
    case isFalse => cases e
    rename_i hz
    simp only [Option.map_eq_some_iff] at e
    obtain ⟨k, ek, rfl⟩ := e
    obtain ⟨es, l, r⟩ := hc
    obtain rfl := RVR.key ek rz
    exact ⟨.dK (putK es k vx), fun Q q => .inr ⟨p, _, rfl, DPut.k l (by rw [← r.length]; exact hz), q⟩, _, upd_same, (r.put rx).mv (sub_set wp) pre_refl⟩
  · cases e
theorem sub_swap {oe ie e : Expr} {p : Pos} (l : Nat) (env : Env) : swapsWithSole [.Subscript oe ie p] e l env = pure false := by cases e <;> rfl
theorem sub_swap1 {oe ie e : Expr} {p : Pos} (l : Nat) (env : Env) : swapsWith e (some (.Subscript oe ie p)) l env = pure false := by cases e <;> rfl
theorem sub_sws {oe ie e : Expr} {p : Pos} (env : Env) : swappedStores [.Subscript oe ie p] e env = pure none := by cases e <;> rfl
theorem setC_liv {c c' : Cell} {z : RV} {x : AV} (e : setC c z x = some c') : c.liv = true := by
  cases c <;> first | rfl | (simp [setC] at e)
/-- o[i] = e: what is asked, by its worth -/
theorem asI_rd {mo mi m : ME} (D : Ends) (σ : L2.St) (H : Hp) (q : rdS (gX X cls) F XW (.asI mo mi m) D σ H) : tAsg (rdE (gX X cls) F XW m) (gSub (rdE (gX X cls) F XW mo) (rdE (gX X cls) F XW mi) rSX) D σ H := by
  obtain ⟨B, ρ, h, S, W, R, q⟩ := q
  simp only [evS] at q
  refine ⟨B, ρ, h, S, W, R, ens_ext q.st (fun x h1 q v H1 g => ?_) fun e h k c d H' g => k c d σ H' g⟩
  obtain ⟨y, ey, q⟩ := ens_ok1 q.st
  obtain ⟨ρ1, W1, x1, R1, r1⟩ := g.toV ey R.base
  refine ⟨B, ρ1, h1, S, W1, R1, ens_ext q.st (fun a h2 q va H2 g2 => ?_) fun e h' k c d H' g => k c d σ H' (g.ext R.base x1)⟩
  obtain ⟨y', ey', q⟩ := ens_ok1 q.st
  obtain ⟨ρ2, W2, x2, R2, r2⟩ := g2.hold ey' R1.base
  have x12 := x1.trans x2 R.base
  refine ⟨B, ρ2, h2, S, W2, R2, ens_ext q.st (fun b h3 q vb H3 g3 => ?_) fun e h' k c d H' g => k c d σ H' (g.ext R.base x12)⟩
  obtain ⟨ρ3, W3, x3, R3, r3⟩ := g3
  have x13 := x12.trans x3 R.base
  have r2' := RVR.hold x3 (hold_hold ey') r2
  have r1' := VR.mv (x2.trans x3 R1.base).sub (x2.trans x3 R1.base).pre _ _ r1
  unfold setO at q
  split at q
  · rename_i n _
    split at q
    case h_2 => exact q.elim
    rename_i c' ec
    simp only [Option.bind_eq_some_iff] at ec
    obtain ⟨c, hc, ec⟩ := ec
    simp only [RVR, VR] at r2'
    obtain ⟨p, hp, rfl⟩ := r2'
    have wp := R3.sub p (List.mem_of_getElem? hp)
    obtain ⟨o', rule, hc'⟩ := setC_ok wp (R3.cel n c p hc hp) r3 r1' ec
    obtain ⟨z, hz, nf⟩ := (R3.cel n c p hc hp).free (setC_liv ec)
    exact rule _ (q σ _ ⟨ρ3, W3, x13.trans (Ext.setC hp wp (R3.out p (List.mem_of_getElem? hp)) hz nf) R.base, R3.setC hp hc'⟩)
  · rename_i j _ _
    split at q
    case h_2 => exact q.elim
    rename_i c es
    split at q
    case h_2 => exact q.elim
    rename_i c' ec
    obtain ⟨e1, e2⟩ := r2'
    obtain ⟨u, hu, a, rfl, wa, nb, nr, hc⟩ := R3.sl j _ es
    rw [hu] at e2
    cases e2
    obtain ⟨o', rule, hc'⟩ := setC_ok wa hc r3 r1' ec
    obtain ⟨w, hw, nf⟩ := hc.free (setC_liv ec)
    exact rule _ (q σ _ ⟨ρ3, W3, x13.trans (Ext.poke wa nb hw nf) R.base, R3.setS es hu hc'⟩)
  · exact q.elim
theorem st_asI (o : OK T F cls N sc XW X) {mo mi m : ME} {s : Stmt} (h : mS T N sc (.asI mo mi m) s = true) : PS X s (rdS (gX X cls) F XW (.asI mo mi m)) := by
  have hu : X.A.units + 1 < cLine := by have := o.fa.un; omega
  simp only [mS] at h
  split at h
  · rename_i oe ie p e pos
    simp only [Bool.and_eq_true, Bool.not_eq_true'] at h
    obtain ⟨⟨⟨h1, h2⟩, h3⟩, h4⟩ := h
    exact PS.imp (ps_asg (sndE m sc XW X e o h4) (pg_sub (sndE mo sc XW X oe o h1) (sndE mi sc XW X ie o h2) (set_both hu) (sub_assign h3 _)) (sub_swap _ _) (sub_sws _)) asI_rd
  · rename_i oe ie p ann e simple pos
    simp only [Bool.and_eq_true, Bool.not_eq_true'] at h
    obtain ⟨⟨⟨h1, h2⟩, h3⟩, h4⟩ := h
    exact PS.imp (ps_ann (sndE m sc XW X e o h4) (pg_sub (sndE mo sc XW X oe o h1) (sndE mi sc XW X ie o h2) (set_both hu) (sub_assign h3 _)) (sub_swap1 _ _)) asI_rd
  · cases h
/-- o.a = e -/
theorem st_asF (o : OK T F cls N sc XW X) {cs : List Nat} {mo m : ME} {a : Str} {s : Stmt} (h : mS T N sc (.asF cs mo a m) s = true) : PS X s (rdS (gX X cls) F XW (.asF cs mo a m)) := by
  simp only [mS] at h
  split at h
  case h_2 => cases h
  rename_i oe a' p e pos
  simp only [Bool.and_eq_true, decide_eq_true_eq, List.all_eq_true] at h
  obtain ⟨⟨⟨rfl, h1⟩, h2⟩, h3⟩ := h
  have hsw : swapsWith e (some (.Attribute oe a p)) pos.line X.env = pure false := by cases e <;> rfl
  refine PS.imp (ps_fld (sndE mo sc XW X oe o h1) (sndE m sc XW X e o h2) hsw) fun D σ H q => ?_
  obtain ⟨B, ρ, h, S, W, R, q⟩ := q
  simp only [evS] at q
  refine ⟨B, ρ, h, S, W, R, ens_ext q.st (fun x h1 q v H1 g => ?_) fun e h k c d H' g => k c d σ H' g⟩
  obtain ⟨y, ey, q⟩ := ens_ok1 q.st
  obtain ⟨ρ1, W1, x1, R1, r1⟩ := g.toV ey R.base
  refine ⟨B, ρ1, h1, S, W1, R1, ens_ext q.st (fun z h2 q vz H2 g2 => ?_) fun e h' k c d H' g => k c d σ H' (g.ext R.base x1)⟩
  obtain ⟨ρ2, W2, x2, R2, r2⟩ := g2
  have x12 := x1.trans x2 R.base
  have r1' := VR.mv x2.sub x2.pre _ _ r1
  unfold stO at q
  split at q
  · rename_i n
    split at q
    case h_2 => exact q.elim
    rename_i c' ec
    simp only [Option.bind_eq_some_iff] at ec
    obtain ⟨c, hc, ec⟩ := ec
    unfold stC at ec
    split at ec
    case h_2 => cases ec
    rename_i ci fs
    split at ec
    case isFalse => cases ec
    rename_i hz
    cases ec
    simp only [RVR, VR] at r2
    obtain ⟨p, hp, rfl⟩ := r2
    have wp := R2.sub p (List.mem_of_getElem? hp)
    obtain ⟨dx, es, l, r⟩ := R2.cel n _ p hc hp
    obtain ⟨c1, c2⟩ := o.fa.fl ci a (h3 ci hz.1)
    exact ⟨p, _, dx, es, rfl, l, c1, c2, by rw [← r.length]; exact hz.2, q σ _ ⟨ρ2, W2, x12.trans (Ext.setC hp wp (R2.out p (List.mem_of_getElem? hp)) l fun _ _ z => nomatch z) R.base, R2.setC hp ⟨dx, _, upd_same, (r.putF r1').mv (sub_set wp) pre_refl⟩⟩⟩
  · rename_i j _
    split at q
    case h_2 => exact q.elim
    rename_i c es
    split at q
    case h_2 => exact q.elim
    rename_i c' ec
    unfold stC at ec
    split at ec
    case h_2 => cases ec
    rename_i ci fs
    split at ec
    case isFalse => cases ec
    rename_i hz
    cases ec
    obtain ⟨e1, e2⟩ := r2
    obtain ⟨u, hu, p, rfl, wa, nb, nr, dx, es2, l, r⟩ := R2.sl j _ es
    rw [hu] at e2
    cases e2
    obtain ⟨c1, c2⟩ := o.fa.fl ci a (h3 ci hz.1)
    exact ⟨p, _, dx, es2, rfl, l, c1, c2, by rw [← r.length]; exact hz.2, q σ _ ⟨ρ2, W2, x12.trans (Ext.poke wa nb l) R.base, R2.setS es hu ⟨dx, _, upd_same, (r.putF r1').mv (sub_set wa) pre_refl⟩⟩⟩
  · exact q.elim
/-- del o[i] -/
theorem st_del (o : OK T F cls N sc XW X) {mo mi : ME} {s : Stmt} (h : mS T N sc (.del mo mi) s = true) : PS X s (rdS (gX X cls) F XW (.del mo mi)) := by
  simp only [mS] at h
  split at h
  case h_2 => cases h
  rename_i oe ie p pos
  simp only [Bool.and_eq_true, Bool.not_eq_true'] at h
  obtain ⟨⟨h1, h2⟩, h3⟩ := h
  refine PS.imp (ps_ddel (sndE mo sc XW X oe o h1) (sndE mi sc XW X ie o h2)) fun D σ H q => ?_
  obtain ⟨B, ρ, h, S, W, R, q⟩ := q
  simp only [evS] at q
  refine ⟨B, ρ, h, S, W, R, ens_ext q.st (fun a h1 q va H1 g => ?_) fun e h k c d H' g => k c d σ H' g⟩
  obtain ⟨y, ey, q⟩ := ens_ok1 q.st
  obtain ⟨ρ1, W1, x1, R1, r1⟩ := g.hold ey R.base
  refine ⟨B, ρ1, h1, S, W1, R1, ens_ext q.st (fun b h2 q vb H2 g2 => ?_) fun e h' k c d H' g => k c d σ H' (g.ext R.base x1)⟩
  obtain ⟨ρ2, W2, x2, R2, r2⟩ := g2
  have x12 := x1.trans x2 R.base
  have r1' := RVR.hold x2 (hold_hold ey) r1
  unfold delO at q
  split at q
  · rename_i n _
    split at q
    case h_2 => exact q.elim
    rename_i kvs k hc ek
    split at q
    case isFalse => exact q.elim
    rename_i hz
    simp only [RVR, VR] at r1'
    obtain ⟨p, hp, rfl⟩ := r1'
    have wp := R2.sub p (List.mem_of_getElem? hp)
    obtain ⟨es, l, r⟩ := R2.cel n _ p hc hp
    obtain rfl := RVR.key ek r2
    exact ⟨p, es, k, rfl, l, rfl, by rw [r.isSome]; exact hz, q σ _ ⟨ρ2, W2, x12.trans (Ext.setC hp wp (R2.out p (List.mem_of_getElem? hp)) l fun _ _ z => nomatch z) R.base, R2.setC hp ⟨_, upd_same, (r.drop).mv (sub_set wp) pre_refl⟩⟩⟩
  · rename_i j _ _
    split at q
    case h_2 => exact q.elim
    rename_i kvs k es ek
    split at q
    case isFalse => exact q.elim
    rename_i hz
    obtain ⟨e1, e2⟩ := r1'
    obtain ⟨u, hu, p, rfl, wa, nb, nr, es2, l, r⟩ := R2.sl j _ es
    rw [hu] at e2
    cases e2
    obtain rfl := RVR.key ek r2
    exact ⟨p, es2, k, rfl, l, rfl, by rw [r.isSome]; exact hz, q σ _ ⟨ρ2, W2, x12.trans (Ext.poke wa nb l) R.base, R2.setS es hu ⟨_, upd_same, (r.drop).mv (sub_set wa) pre_refl⟩⟩⟩
  · exact q.elim
/-- a method of a name's own container -/
theorem st_owM (o : OK T F cls N sc XW X) {j : Nat} {m : Mth} {ms : List ME} {s : Stmt} (h : mS T N sc (.owM j m ms) s = true) : PS X s (rdS (gX X cls) F XW (.owM j m ms)) := by
  simp only [mS] at h
  split at h
  case h_2 => cases h
  rename_i x p n apos as ks cpos pos
  simp only [Bool.and_eq_true, decide_eq_true_eq] at h
  obtain ⟨⟨⟨⟨⟨⟨⟨rfl, h1⟩, h2⟩, h3⟩, h4⟩, h5⟩, h6⟩, h7⟩ := h
  have ks0 : ks = [] := by simpa using h6
  subst ks0
  obtain ⟨f1, f2, f3⟩ := mth_facts m
  have hv : PE X (.Name x p) (tVar j) := pe_var (i := j) (by rw [o.eN]; exact h1) (o.vis h2) (okN_1 h3) (okN_2 h3)
  have hlen := mL_len h7
  refine PS.imp (ps_expr (pe_mb f1 f2 f3 (cm_ok (cls := cls) m) hv (sndL ms sc XW X as o h7) rfl (mL_star h7) (by rw [← hlen]; exact h5) h4 (fun e σ H Q q => by
    subst e
    have em : ms = [] := List.length_eq_zero_iff.mp hlen
    subst em
    obtain ⟨B, ρ, h, S, W, R, q⟩ := q
    exact q [] H ⟨ρ, W, Ext.refl, R, by simp only [VRs]⟩)) rfl) fun D σ H q => ?_
  obtain ⟨B, ρ, h, S, W, R, q⟩ := q
  simp only [evS] at q
  split at q
  case h_2 => exact q.elim
  rename_i c es
  split at q
  case isFalse => exact q.elim
  rename_i hz
  obtain ⟨u, hu, a, rfl, wa, nb, nr, hc⟩ := R.sl j _ es
  obtain ⟨hz, hlk⟩ := hz
  simp only [Option.map_eq_some_iff] at hz
  obtain ⟨w, ew, hw⟩ := hz
  have ty : tyW X m.ty (.ref a) H := rcv_ty (x := .b j c) R ⟨es, hu⟩ (by simp only [rcvOk, RV.vw, ew]; exact hw)
  refine ⟨.ref a, hu, ty, B, ρ, h, S, W, R, ens_ext q.st (fun xs h1 q vs H1 g => ?_) fun e h k c d H' g => k c d σ H' g⟩
  obtain ⟨ρ1, W1, x1, R1, r1⟩ := g
  split at q
  case h_2 => exact q.elim
  rename_i y c' ec
  obtain ⟨u1, hu1, a1, e1, wa1, nb1, nr1, hc1⟩ := R1.sl j _ es
  rw [hu] at hu1
  cases hu1
  cases e1
  obtain ⟨w0, hw0, nf0⟩ := hc1.free (cMth_liv ec)
  exact ⟨B, ρ1, h1, S, W1, σ, a, c, xs, y, c', R1, rfl, wa1, hc1, r1, ec, fun v o' hc' _ => q σ _ ⟨ρ1, W1, x1.trans (Ext.poke wa1 nb1 hw0 nf0) R.base, R1.setS es hu hc'⟩⟩

/-! ### blocks, loops -/
theorem name_ne {i j : Nat} {x y : Str} (nd : N.Nodup) (h1 : N[i]? = some x) (h2 : N[j]? = some y) (h : i ≠ j) : x ≠ y := fun e => by
  subst e
  exact h (nodup_ix nd h1 h2)
theorem sw2 {env : Env} {x y : Str} {px py p1 p2 : Pos} {k1 k2 : Nat} {e1 e2 : Expr} (kx : env.kindOf x = some .local) (ky : env.kindOf y = some .local) (bk : env.blockKind = .function) (hl : py.line = px.line) (hxy : x ≠ y)
    (nst : ∀ e ∈ [e1, e2], isStar e = false) (nf : [e1, e2].all (foldedForSure 8) = false) (nc : [e1, e2].all (constantsAlone 8) = false) :
    swappedStores [.Tuple [.Name x px, .Name y py] k1 p1] (.Tuple [e1, e2] k2 p2) env = pure (some [x, y]) := by
  have hxy' : (x == y) = false := by simpa using hxy
  have hyx' : (y == x) = false := by simpa using Ne.symm hxy
  simp only [swappedStores]
  refine (if_neg ?a).trans ((if_neg ?b).trans ((if_neg ?c).trans ((if_neg ?d).trans ((if_neg ?e).trans ?f))))
  case a => simp [bk]
  case b =>
    intro h
    obtain ⟨e, he, h⟩ := List.any_eq_true.mp h
    have := nst e he
    cases e <;> simp_all [isStar]
  case c => simp [kx, ky, hl, List.eraseDups, List.eraseDupsBy, List.eraseDupsBy.loop, hxy', hyx', Expr.pos]
  case d => rw [nf]; exact fun z => nomatch z
  case e => rw [nc]; exact fun z => nomatch z
  case f => simp [kx, ky, hl, Expr.pos]
theorem sw3 {env : Env} {x y z : Str} {px py pz p1 p2 : Pos} {k1 k2 : Nat} {e1 e2 e3 : Expr} (kx : env.kindOf x = some .local) (ky : env.kindOf y = some .local) (kz : env.kindOf z = some .local) (bk : env.blockKind = .function) (hl : py.line = px.line) (hl2 : pz.line = px.line)
    (hxy : x ≠ y) (hxz : x ≠ z) (hyz : y ≠ z)
    (nst : ∀ e ∈ [e1, e2, e3], isStar e = false) (nf : [e1, e2, e3].all (foldedForSure 8) = false) (nc : [e1, e2, e3].all (constantsAlone 8) = false) :
    swappedStores [.Tuple [.Name x px, .Name y py, .Name z pz] k1 p1] (.Tuple [e1, e2, e3] k2 p2) env = pure (some [x, y, z]) := by
  have hxy' : (x == y) = false := by simpa using hxy
  have hyx' : (y == x) = false := by simpa using Ne.symm hxy
  have hxz' : (x == z) = false := by simpa using hxz
  have hzx' : (z == x) = false := by simpa using Ne.symm hxz
  have hyz' : (y == z) = false := by simpa using hyz
  have hzy' : (z == y) = false := by simpa using Ne.symm hyz
  simp only [swappedStores]
  refine (if_neg ?a).trans ((if_neg ?b).trans ((if_neg ?c).trans ((if_neg ?d).trans ((if_neg ?e).trans ?f))))
  case a => simp [bk]
  case b =>
    intro h
    obtain ⟨e, he, h⟩ := List.any_eq_true.mp h
    have := nst e he
    cases e <;> simp_all [isStar]
  case c => simp [kx, ky, kz, hl, hl2, List.eraseDups, List.eraseDupsBy, List.eraseDupsBy.loop, hxy', hyx', hxz', hzx', hyz', hzy', Expr.pos]
  case d => rw [nf]; exact fun z => nomatch z
  case e => rw [nc]; exact fun z => nomatch z
  case f => simp [kx, ky, kz, hl, hl2, Expr.pos]
theorem st_par (o : OK T F cls N sc XW X) {is : List Nat} {ms : List ME} {s : Stmt} (h : mS T N sc (.par is ms) s = true) : PS X s (rdS (gX X cls) F XW (.par is ms)) := by
  simp only [mS] at h
  split at h
  case h_2 => cases h
  rename_i ts k1 p1 es k2 p2 pos
  simp only [Bool.and_eq_true, Bool.or_eq_true, beq_iff_eq, decide_eq_true_eq, Bool.not_eq_true'] at h
  obtain ⟨⟨⟨⟨⟨⟨h1, h2⟩, h3⟩, h4⟩, h5⟩, h6⟩, h7⟩ := h
  have hs := mL_star h1
  have ha := sndL ms sc XW X es o h1
  have nd : X.N.Nodup := by rw [o.eN]; exact o.nd
  have bk : X.env.blockKind = .function := by simp [Env.blockKind, o.kd, ScopeKind.isAnnotationScope]
  have core : ∀ D σ H, rdS (gX X cls) F XW (.par is ms) D σ H → rdL (gX X cls) F XW ms σ H fun vs H1 => ∃ (B : ASet) (ρ1 : List Addr) (h1 : Hs) (S : List SV) (W1 : ASet) (xs : List AV) (S' : List SV), RS (gX X cls) B ρ1 h1 S W1 σ H1 ∧ VRs (gX X cls) H1 W1 ρ1 xs vs ∧ parO is xs S = some S' ∧ ∀ σ', RS (gX X cls) B ρ1 h1 S' W1 σ' H1 → D.nx σ' H1 := fun D σ H q => by
    obtain ⟨B, ρ, h, S, W, R, q⟩ := q
    simp only [evS] at q
    refine ⟨B, ρ, h, S, W, R, ens_ext q.st (fun xs h1 q vs H1 g => ?_) fun e h k c d H' g => k c d σ H' g⟩
    obtain ⟨ρ1, W1, x1, R1, r1⟩ := g
    split at q
    · rename_i S' e
      exact ⟨B, ρ1, h1, S, W1, xs, S', R1, r1, e, fun σ' R' => q σ' H1 ⟨ρ1, W1, x1, R'⟩⟩
    · exact q.elim
  rcases h2 with h2 | h2
  · match ts, es, is, h2, h3, h4, h5, h6, h7, hs, ha, core with
    | [t1, t2], [e1, e2], [], _, _, _, h5, _, _, _, _, _ => simp [mPar] at h5
    | [t1, t2], [e1, e2], [i], _, _, _, h5, _, _, _, _, _ => simp [mPar] at h5
    | [t1, t2], [e1, e2], i :: j :: l :: is, _, _, _, h5, _, _, _, _, _ => simp [mPar] at h5
    | [t1, t2], [e1, e2], [i, j], hA, hB, h4, h5, h6, h7, hs, ha, core =>
      simp only [mPar, Bool.and_eq_true] at h5
      obtain ⟨g1, g2, hC⟩ := h5
      split at g1
      case h_2 => cases g1
      rename_i x px
      split at g2
      case h_2 => cases g2
      rename_i y py
      simp only [Bool.and_eq_true, decide_eq_true_eq, beq_iff_eq] at g1 g2
      have hij : i ≠ j := by simpa using h4
      have hxy := name_ne o.nd g1.1.1 g2.1.1 hij
      have hw := sw2 (p1 := p1) (p2 := p2) (k1 := k1) (k2 := k2) (o.vl x g1.1.2) (o.vl y g2.1.2) bk g2.2 hxy hs h6 h7
      refine PS.imp (ps_par o.calm nd (by rw [o.eN]; exact g1.1.1) (by rw [o.eN]; exact g2.1.1) hij (o.vl x g1.1.2) (o.vl y g2.1.2) ha hw rfl) fun D σ H q => ?_
      obtain ⟨B, ρ, h, S, W, R, q⟩ := core D σ H q
      refine ⟨B, ρ, h, S, W, R, ens_mono q fun xs h1 q vs H1 g => ?_⟩
      obtain ⟨B2, ρ2, h2, S2, W2, ys, S', R2, r2, e, k⟩ := q vs H1 g
      match ys, r2, e with
      | [], r2, e => simp [parO] at e
      | [_], r2, e => simp [parO] at e
      | a :: b :: c :: ys, r2, e => simp [parO] at e
      | [a, b], r2, e =>
        simp only [parO, Option.some.injEq] at e
        subst e
        simp only [VRs] at r2
        obtain ⟨v, r, rfl, ra, w, r', rfl, rb, rfl⟩ := r2
        exact ⟨v, w, rfl, k _ ((R2.setV ra).setV rb)⟩
  · match ts, es, is, h2, h3, h4, h5, h6, h7, hs, ha, core with
    | [t1, t2, t3], [e1, e2, e3], [], _, _, _, h5, _, _, _, _, _ => simp [mPar] at h5
    | [t1, t2, t3], [e1, e2, e3], [i], _, _, _, h5, _, _, _, _, _ => simp [mPar] at h5
    | [t1, t2, t3], [e1, e2, e3], [i, j], _, _, _, h5, _, _, _, _, _ => simp [mPar] at h5
    | [t1, t2, t3], [e1, e2, e3], i :: j :: l :: m :: is, _, _, _, h5, _, _, _, _, _ => simp [mPar] at h5
    | [t1, t2, t3], [e1, e2, e3], [i, j, l], hA, hB, h4, h5, h6, h7, hs, ha, core =>
      simp only [mPar, Bool.and_eq_true] at h5
      obtain ⟨g1, g2, g3, hC⟩ := h5
      split at g1
      case h_2 => cases g1
      rename_i x px
      split at g2
      case h_2 => cases g2
      rename_i y py
      split at g3
      case h_2 => cases g3
      rename_i z pz
      simp only [Bool.and_eq_true, decide_eq_true_eq, beq_iff_eq] at g1 g2 g3
      simp only [List.nodup_cons, List.mem_cons, List.not_mem_nil, or_false, not_or, not_false_eq_true, List.nodup_nil, and_true] at h4
      obtain ⟨⟨hij, hil⟩, hjl⟩ := h4
      have hw := sw3 (p1 := p1) (p2 := p2) (k1 := k1) (k2 := k2) (o.vl x g1.1.2) (o.vl y g2.1.2) (o.vl z g3.1.2) bk g2.2 g3.2 (name_ne o.nd g1.1.1 g2.1.1 hij) (name_ne o.nd g1.1.1 g3.1.1 hil) (name_ne o.nd g2.1.1 g3.1.1 hjl) hs h6 h7
      refine PS.imp (ps_par3 o.calm nd (by rw [o.eN]; exact g1.1.1) (by rw [o.eN]; exact g2.1.1) (by rw [o.eN]; exact g3.1.1) hij hil hjl (o.vl x g1.1.2) (o.vl y g2.1.2) (o.vl z g3.1.2) ha hw rfl) fun D σ H q => ?_
      obtain ⟨B, ρ, h, S, W, R, q⟩ := core D σ H q
      refine ⟨B, ρ, h, S, W, R, ens_mono q fun xs h1 q vs H1 g => ?_⟩
      obtain ⟨B2, ρ2, h2, S2, W2, ys, S', R2, r2, e, k⟩ := q vs H1 g
      match ys, r2, e with
      | [], r2, e => simp [parO] at e
      | [_], r2, e => simp [parO] at e
      | [_, _], r2, e => simp [parO] at e
      | a :: b :: c :: d :: ys, r2, e => simp [parO] at e
      | [a, b, c], r2, e =>
        simp only [parO, Option.some.injEq] at e
        subst e
        simp only [VRs] at r2
        obtain ⟨u, r, rfl, ra, v, r', rfl, rb, w, r'', rfl, rc, rfl⟩ := r2
        exact ⟨u, v, w, rfl, k _ (((R2.setV ra).setV rb).setV rc)⟩
theorem st_parO (o : OK T F cls N sc XW X) {i j : Nat} {m c : ME} {s : Stmt} (h : mS T N sc (.parO i j m c) s = true) : PS X s (rdS (gX X cls) F XW (.parO i j m c)) := by
  simp only [mS] at h
  split at h
  case h_2 => cases h
  rename_i x p y q k1 p1 e1 e2 k2 p2 pos
  simp only [Bool.and_eq_true, beq_iff_eq, decide_eq_true_eq, Bool.not_eq_true'] at h
  obtain ⟨⟨⟨⟨⟨⟨⟨⟨⟨⟨⟨h1, h2⟩, h3⟩, h4⟩, hij⟩, hx⟩, hy⟩, lx⟩, ly⟩, hl⟩, hf⟩, hc⟩ := h
  have nd : X.N.Nodup := by rw [o.eN]; exact o.nd
  have bk : X.env.blockKind = .function := by simp [Env.blockKind, o.kd, ScopeKind.isAnnotationScope]
  have hw := sw2 (p1 := p1) (p2 := p2) (k1 := k1) (k2 := k2) (o.vl x lx) (o.vl y ly) bk hl (name_ne o.nd hx hy hij) (by
    intro e he
    simp only [List.mem_cons, List.not_mem_nil, or_false] at he
    rcases he with rfl | rfl
    · exact h3
    · exact h4) hf hc
  refine PS.imp (ps_par o.calm nd (by rw [o.eN]; exact hx) (by rw [o.eN]; exact hy) hij (o.vl x lx) (o.vl y ly) (pa_cons (sndE m sc XW X e1 o h1) (pa_cons (sndE c sc XW X e2 o h2) pa_nil (star_no h4 [] _)) (star_no h3 [e2] _)) hw rfl) fun D σ H q => ?_
  obtain ⟨B, ρ, h, S, W, R, q⟩ := q
  simp only [evS] at q
  refine ⟨B, ρ, h, S, W, R, ens_ext q.st (fun a h1 q v H1 g => ?_) fun e h k c d H' g => k c d σ H' g⟩
  obtain ⟨z, ez, q⟩ := ens_ok1 q.st
  obtain ⟨ρ1, W1, x1, R1, r1⟩ := g.toV ez R.base
  refine ⟨B, ρ1, h1, S, W1, R1, ens_ext q.st (fun b h2 q u H2 g2 => ?_) fun e h' k c d H' g => k c d σ H' (g.ext R.base x1)⟩
  split at q
  case h_2 => exact q.elim
  obtain ⟨ρ2, W2, x2, R2, a, rfl, g1, g2, g3, g4, g5⟩ := g2
  have r1' := VR.mv x2.sub x2.pre _ _ r1
  refine ⟨v, _, rfl, q _ H2 ⟨ρ2, W2, x1.trans x2 R.base, (R2.setV r1').setO g1 g2 g3 (fun l d hl2 e => ?_) g5⟩⟩
  by_cases hil : i = l
  · subst hil
    by_cases hz : i < S.length
    · rw [List.getElem?_set_self hz] at hl2; cases hl2
    · rw [List.getElem?_eq_none (by simpa using hz)] at hl2; cases hl2
  · rw [List.getElem?_set_ne hil] at hl2 e
    exact g4 l d hl2 e
theorem st_ex (o : OK T F cls N sc XW X) {m : ME} {s : Stmt} (h : mS T N sc (.ex m) s = true) : PS X s (rdS (gX X cls) F XW (.ex m)) := by
  simp only [mS] at h
  split at h
  case h_2 => cases h
  rename_i e pos
  simp only [Bool.and_eq_true] at h
  refine PS.imp (ps_expr (sndE m sc XW X e o h.1) (swap_no h.2 none pos.line X.env)) fun D σ H q => ?_
  obtain ⟨B, ρ, h, S, W, R, q⟩ := q
  simp only [evS] at q
  refine ⟨B, ρ, h, S, W, R, ens_ext q.st (fun x h1 q v H1 g => ?_) fun e h k c d H' g => k c d σ H' g⟩
  obtain ⟨ρ1, W1, x1, R1, r1⟩ := g
  exact q σ H1 ⟨ρ1, W1, x1, R1⟩
theorem st_ret (o : OK T F cls N sc XW X) {m : ME} {s : Stmt} (h : mS T N sc (.ret m) s = true) : PS X s (rdS (gX X cls) F XW (.ret m)) := by
  simp only [mS] at h
  split at h
  case h_2 => cases h
  rename_i e pos
  refine PS.imp (ps_ret (sndE m sc XW X e o h)) fun D σ H q => ?_
  obtain ⟨B, ρ, h, S, W, R, q⟩ := q
  simp only [evS] at q
  refine ⟨B, ρ, h, S, W, R, ens_ext q.st (fun x h1 q v H1 g => ?_) fun e h k c d H' g => k c d σ H' g⟩
  obtain ⟨ρ1, W1, x1, R1, r1⟩ := g
  cases x with
  | v a => exact q v H1 ⟨ρ1, W1, x1, R1.bare, r1⟩
  | f c =>
    obtain ⟨a, rfl, g1, g2, g3, g4, g5⟩ := r1
    exact q _ H1 ⟨ρ1, W1, x1, R1.bare, a, rfl, g1, g2, g3, fun i c hi => by simp at hi, g5⟩
  | b i c => exact q.elim
theorem st_retO (o : OK T F cls N sc XW X) {j : Nat} {s : Stmt} (h : mS T N sc (.retO j) s = true) : PS X s (rdS (gX X cls) F XW (.retO j)) := by
  simp only [mS] at h
  split at h
  case h_2 => cases h
  rename_i x p pos
  simp only [Bool.and_eq_true, decide_eq_true_eq] at h
  obtain ⟨⟨h1, h2⟩, h3⟩ := h
  refine PS.imp (ps_ret (pe_var (i := j) (by rw [o.eN]; exact h1) (o.vis h2) (okN_1 h3) (okN_2 h3))) fun D σ H q => ?_
  obtain ⟨B, ρ, h, S, W, R, q⟩ := q
  simp only [evS] at q
  split at q
  case h_2 => exact q.elim
  rename_i c es
  obtain ⟨u, hu, a, rfl, wa, nb, nr, hc⟩ := R.sl j _ es
  exact ⟨.ref a, hu, q _ H ⟨ρ, W, Ext.refl, R.bare, a, rfl, wa, nb, nr, fun i c hi => by simp at hi, hc⟩⟩
theorem ss_nil : PSs X [] (rdSs (gX X cls) F XW []) := by
  refine PSs.imp pss_nil fun D σ H q => ?_
  obtain ⟨B, ρ, h, S, W, R, q⟩ := q
  exact q σ H ⟨ρ, W, Ext.refl, R⟩
theorem ss_cons {s : Stmt} {ss : List Stmt} {m : MS} {ms : List MS} (h1 : PS X s (rdS (gX X cls) F XW m)) (h2 : PSs X ss (rdSs (gX X cls) F XW ms)) : PSs X (s :: ss) (rdSs (gX X cls) F XW (m :: ms)) := by
  refine PSs.imp (pss_cons h1 h2) fun D σ H q => ?_
  obtain ⟨B, ρ, h, S, W, R, q⟩ := q
  simp only [evSs] at q
  refine ⟨B, ρ, h, S, W, R, ?_⟩
  split at q
  · rename_i S1 h1 e
    rw [e]
    intro σ' H' g
    obtain ⟨ρ1, W1, x1, R1⟩ := g
    exact ⟨B, ρ1, h1, S1, W1, R1, q.ext R.base x1⟩
  · rename_i hn
    revert q hn
    cases evS F m S h with
    | nx S1 h1 => exact fun hn _ => absurd rfl (hn S1 h1)
    | rt rv h1 => exact fun _ q => q
    | bk S1 h1 => exact fun _ q => q
    | ct S1 h1 => exact fun _ q => q
    | exc e S1 h1 => exact fun _ q => q
    | bad => exact fun _ q => q
theorem st_ife (o : OK T F cls N sc XW X) {c : Expr} {a b : List Stmt} {pos : Pos} {mc : MC} {ma mb : List MS} (hc : mC T N sc mc c = true) (ha : PSs X a (rdSs (gX X cls) F XW ma)) (hb : PSs X b (rdSs (gX X cls) F XW mb)) : PS X (.If c a b pos) (rdS (gX X cls) F XW (.ife mc ma mb)) := by
  refine PS.imp (ps_if (sndC mc sc XW X c o hc) ha hb) fun D σ H q => ?_
  obtain ⟨B, ρ, h, S, W, R, q⟩ := q
  simp only [evS] at q
  refine ⟨B, ρ, h, S, W, R, ens_ext q.st (fun k h1 q H1 g => ?_) fun e h k c d H' g => k c d σ H' g⟩
  obtain ⟨ρ1, W1, x1, R1⟩ := g
  split at q
  · rename_i hk
    rw [if_pos hk]
    exact ⟨B, ρ1, h1, S, W1, R1, q.ext R.base x1⟩
  · rename_i hk
    rw [if_neg hk]
    exact ⟨B, ρ1, h1, S, W1, R1, q.ext R.base x1⟩
theorem st_for (o : OK T F cls N sc XW X) {tg it : Expr} {b : List Stmt} {pos : Pos} {mt : MT} {mi : MI} {mb : List MS} (h1 : mG N sc mt tg = true) (h2 : mI T N sc mi it = true) (ht : tgOk mi tg = true) (hb : PSs X b (rdSs (gX X cls) F XW mb)) : PS X (.For tg it b [] pos) (rdS (gX X cls) F XW (.for_ mt mi mb)) := by
  obtain ⟨i1, i2⟩ := sndI mi sc XW X tg it o h2 ht
  refine PS.imp (ps_for o.po o.calm i1 (tg_ok o mt tg h1) hb i2) fun D σ H q => ?_
  obtain ⟨B, ρ, h, S, W, R, q⟩ := q
  simp only [evS] at q
  refine ⟨B, ρ, h, S, W, R, ens_ext q.st (fun p h1 q J H1 g => ?_) fun e h k c d H' g => k c d σ H' g⟩
  obtain ⟨ρ1, W1, x1, R1, itk⟩ := g
  obtain ⟨its, src⟩ := p
  let Iv : Nat → L2.St → Hp → Prop := fun i σ2 H2 => i ≤ its.length ∧ ∃ (ρ2 : List Addr) (h2 : Hs) (S2 : List SV) (W2 : ASet), Ext B ρ1 W1 H1 ρ2 W2 H2 ∧ RS (gX X cls) B ρ2 h2 S2 W2 σ2 H2 ∧
    SE (gX X cls) B ρ W H XW D (forGo (fun S h => evSs F mb S h) mt src (its.drop i) S2 h2)
  refine ⟨fun i m σ2 H2 => m = its.length - i ∧ Iv i σ2 H2, ⟨its.length, by omega, Nat.zero_le _, ρ1, h1, S, W1, Ext.refl, R1, q⟩, ?_⟩
  rintro i m σ2 H2 ⟨rfl, hle, ρ2, h2, S2, W2, x2, R2, q2⟩
  have x02 := x1.trans x2 R.base
  cases hx : its[i]? with
  | none =>
    have hi : its.length ≤ i := List.getElem?_eq_none_iff.mp hx
    rw [List.drop_eq_nil_iff.mpr hi] at q2
    simp only [forGo] at q2
    split at q2
    case isFalse => exact q2.elim
    rename_i hsrc
    exact .inl ⟨(itk B ρ2 h2 S2 W2 σ2 H2 x2 R2 hsrc i).2 hi, q2 σ2 H2 ⟨ρ2, W2, x02, R2⟩⟩
  | some x =>
    have hlt : i < its.length := (List.getElem?_eq_some_iff.mp hx).1
    rw [List.drop_eq_getElem_cons hlt, (List.getElem?_eq_some_iff.mp hx).2] at q2
    simp only [forGo] at q2
    split at q2
    case isFalse => exact q2.elim
    rename_i hsrc
    obtain ⟨go, yl⟩ := (itk B ρ2 h2 S2 W2 σ2 H2 x2 R2 hsrc i).1 x hx
    refine .inr ⟨go, Iv (i + 1), fun σ' H' hv => ⟨its.length - (i + 1), by omega, rfl, hv⟩, fun v H3 hy => ?_⟩
    obtain ⟨x3, R3, rx⟩ := yl v H3 hy
    split at q2
    case h_2 => exact q2.elim
    rename_i S' eg
    refine ⟨B, ρ2, h2, S2, W2, x, S', R3, rx, eg, fun σ3 R4 _ _ => ⟨B, ρ2, h2, S', W2, R4, ?_⟩⟩
    have x03 := x02.trans x3 R.base
    have x13 := x2.trans x3 R1.base
    revert q2
    cases evSs F mb S' h2 with
    | nx S5 h5 =>
      intro q2 σ5 H5 g5
      obtain ⟨ρ5, W5, x5, R5⟩ := g5
      exact ⟨hlt, ρ5, h5, S5, W5, x13.trans x5 R1.base, R5, q2⟩
    | ct S5 h5 =>
      intro q2 σ5 H5 g5
      obtain ⟨ρ5, W5, x5, R5⟩ := g5
      exact ⟨hlt, ρ5, h5, S5, W5, x13.trans x5 R1.base, R5, q2⟩
    | bk S5 h5 => exact fun q2 σ5 H5 g5 => q2 σ5 H5 (g5.ext R.base x03)
    | rt rv h5 => exact fun q2 v H5 g5 => q2 v H5 (g5.ext R.base x03)
    | exc e S5 h5 => exact fun q2 c d σ5 H5 g5 => q2 c d σ5 H5 (g5.ext R.base x03)
    | bad => exact fun q2 => q2
theorem st_whl (o : OK T F cls N sc XW X) {c : Expr} {b : List Stmt} {pos : Pos} {n : Nat} {mc : MC} {mb : List MS} (h1 : mC T N sc mc c = true) (hb : PSs X b (rdSs (gX X cls) F XW mb)) : PS X (.While c b [] pos) (rdS (gX X cls) F XW (.whl n mc mb)) := by
  refine PS.imp (ps_whileE (u := tNext) o.po (sndC mc sc XW X c o h1) hb pss_nil) fun D σ H q => ?_
  obtain ⟨B, ρ, h, S, W, R, q⟩ := q
  simp only [evS] at q
  let Iv : Nat → L2.St → Hp → Prop := fun m σ2 H2 => ∃ (ρ2 : List Addr) (h2 : Hs) (S2 : List SV) (W2 : ASet), Ext B ρ W H ρ2 W2 H2 ∧ RS (gX X cls) B ρ2 h2 S2 W2 σ2 H2 ∧
    SE (gX X cls) B ρ W H XW D (whileGo (fun S h => evT F mc S h) (fun S h => evSs F mb S h) m S2 h2)
  refine ⟨Iv, ⟨n, ρ, h, S, W, Ext.refl, R, q⟩, ?_⟩
  rintro m σ2 H2 ⟨ρ2, h2, S2, W2, x2, R2, q2⟩
  cases m with
  | zero => exact q2.elim
  | succ m =>
    simp only [whileGo] at q2
    refine ⟨B, ρ2, h2, S2, W2, R2, ens_ext q2.st (fun k h3 q3 H3 g3 => ?_) fun e h k c d H' g => k c d σ2 H' (g.ext R.base x2)⟩
    obtain ⟨ρ3, W3, x3, R3⟩ := g3
    have x03 := x2.trans x3 R.base
    cases k with
    | false =>
      rw [if_neg Bool.false_ne_true] at q3 ⊢
      exact q3 σ2 H3 ⟨ρ3, W3, x03, R3⟩
    | true =>
      rw [if_pos rfl] at q3 ⊢
      refine ⟨Iv m, fun σ' H' i => ⟨m, Nat.lt_succ_self _, i⟩, B, ρ3, h3, S2, W3, R3, ?_⟩
      revert q3
      cases evSs F mb S2 h3 with
      | nx S5 h5 =>
        intro q3 σ5 H5 g5
        obtain ⟨ρ5, W5, x5, R5⟩ := g5
        exact ⟨ρ5, h5, S5, W5, x03.trans x5 R.base, R5, q3⟩
      | ct S5 h5 =>
        intro q3 σ5 H5 g5
        obtain ⟨ρ5, W5, x5, R5⟩ := g5
        exact ⟨ρ5, h5, S5, W5, x03.trans x5 R.base, R5, q3⟩
      | bk S5 h5 => exact fun q3 σ5 H5 g5 => q3 σ5 H5 (g5.ext R.base x03)
      | rt rv h5 => exact fun q3 v H5 g5 => q3 v H5 (g5.ext R.base x03)
      | exc e S5 h5 => exact fun q3 c d σ5 H5 g5 => q3 c d σ5 H5 (g5.ext R.base x03)
      | bad => exact fun q3 => q3
end
section
variable {T : Nm} {F : Fn} {cls : Nat → Addr} {N : List Str} {sc : Ks}
theorem OK.nox {XW : WX} {X : Cx} (o : OK T F cls N sc XW X) : OK T F cls N sc XW0 X.nox :=
  ⟨o.fa, o.eN, o.nd, o.calm, o.kd, o.vl, o.vc, o.vf, o.vg, takes0, fun _ _ z => z.elim⟩
/-- no text: a name's own container stands still -/
theorem ghost_fz {G : Gd} {B : ASet} {ρ : List Addr} {h : Hs} {S : List SV} {W : ASet} {σ : L2.St} {H : Hp} {j : Nat} {c : Cell} {x : AV} (R : RS G B ρ h S W σ H) (es : S[j]? = some (.own c)) (e : c.frz = some x) :
    ∃ W', Ext B ρ W H ρ W' H ∧ RS G B ρ h (S.set j (.v x)) W' σ H := by
  obtain ⟨u, hu, a, rfl, wa, nb, nr, hc⟩ := R.sl j _ es
  have R1 : RS G B ρ h (S.set j .no) W σ H := R.weak fun i s hi => by
    by_cases hij : j = i
    · subst hij
      rw [List.getElem?_set_self (List.getElem?_eq_some_iff.mp es).1] at hi
      cases hi
      exact .inl ⟨rfl, _, hu⟩
    · rw [List.getElem?_set_ne hij] at hi
      exact .inr ⟨hi, rfl⟩
  have fr : Free (S.set j .no) σ a := fun i d hi e2 => by
    by_cases hij : j = i
    · subst hij
      rw [List.getElem?_set_self (List.getElem?_eq_some_iff.mp es).1] at hi
      cases hi
    · rw [List.getElem?_set_ne hij] at hi
      exact hij (R.dj j i c d a es hi hu e2)
  have R2 := R1.cut nb nr fr
  have hv : VR G H (cut W a) ρ x (.ref a) := CAt.frz (fun z => z.2 rfl) (hc.mv (Sub.less fun _ w => w.1) pre_refl fun _ e => e) e
  refine ⟨cut W a, Ext.cut, ?_⟩
  have R3 := R2.setV (i := j) hv
  have e1 : (S.set j SV.no).set j (.v x) = S.set j (.v x) := List.set_set ..
  have e2 : σ.set j (some (V.ref a)) = σ := by
    refine List.ext_getElem? fun i => ?_
    by_cases hij : j = i
    · subst hij
      rw [List.getElem?_set_self (List.getElem?_eq_some_iff.mp hu).1, hu]
    · rw [List.getElem?_set_ne hij]
  rw [e1, e2] at R3
  exact R3
theorem ghost_cl {G : Gd} {B : ASet} {ρ : List Addr} {h : Hs} {S : List SV} {W : ASet} {σ : L2.St} {H : Hp} {j : Nat} {c : Cell} (R : RS G B ρ h S W σ H) (es : S[j]? = some (.own c)) :
    ∃ ρ', Ext B ρ W H ρ' W H ∧ RS G B ρ' (h ++ [c]) (S.set j (.v (.r h.length))) W σ H := by
  obtain ⟨u, hu, a, rfl, wa, nb, nr, hc⟩ := R.sl j _ es
  have R1 : RS G B ρ h (S.set j .no) W σ H := R.weak fun i s hi => by
    by_cases hij : j = i
    · subst hij
      rw [List.getElem?_set_self (List.getElem?_eq_some_iff.mp es).1] at hi
      cases hi
      exact .inl ⟨rfl, _, hu⟩
    · rw [List.getElem?_set_ne hij] at hi
      exact .inr ⟨hi, rfl⟩
  have fr : Free (S.set j .no) σ a := fun i d hi e2 => by
    by_cases hij : j = i
    · subst hij
      rw [List.getElem?_set_self (List.getElem?_eq_some_iff.mp es).1] at hi
      cases hi
    · rw [List.getElem?_set_ne hij] at hi
      exact hij (R.dj j i c d a es hi hu e2)
  have R2 := R1.cell wa nb nr fr hc
  have hv : VR G H W (ρ ++ [a]) (.r h.length) (.ref a) := by
    simp only [VR]
    refine ⟨a, ?_, rfl⟩
    rw [← R.len, List.getElem?_append_right (Nat.le_refl _)]
    simp
  have R3 := R2.setV (i := j) hv
  have e1 : (S.set j SV.no).set j (.v (.r h.length)) = S.set j (.v (.r h.length)) := List.set_set ..
  have e2 : σ.set j (some (V.ref a)) = σ := by
    refine List.ext_getElem? fun i => ?_
    by_cases hij : j = i
    · subst hij
      rw [List.getElem?_set_self (List.getElem?_eq_some_iff.mp hu).1, hu]
    · rw [List.getElem?_set_ne hij]
  rw [e1, e2] at R3
  exact ⟨ρ ++ [a], Ext.cell, R3⟩
mutual
theorem sndS : ∀ (m : MS) (XW : WX) (X : Cx) (s : Stmt), OK T F cls N sc XW X → mS T N sc m s = true → PS X s (rdS (gX X cls) F XW m)
  | .asg t e, XW, X, s, o, h => st_asg o h
  | .par is es, XW, X, s, o, h => st_par o h
  | .asO i e, XW, X, s, o, h => st_asO o h
  | .parO i j e c, XW, X, s, o, h => st_parO o h
  | .asI a b e, XW, X, s, o, h => st_asI o h
  | .asF cs a n e, XW, X, s, o, h => st_asF o h
  | .owM j m es, XW, X, s, o, h => st_owM o h
  | .del a i, XW, X, s, o, h => st_del o h
  | .gfz j, XW, X, s, o, h => by simp [mS] at h
  | .gcl j, XW, X, s, o, h => by simp [mS] at h
  | .glk j is, XW, X, s, o, h => by simp [mS] at h
  | .tryP b, XW, X, s, o, h => by
    simp only [mS] at h
    split at h
    · refine PS.imp (ps_try_thru0 (sndSs b XW0 X.nox _ o.nox h)) fun D σ H q => ?_
      obtain ⟨B, ρ, h, S, W, R, q⟩ := q
      refine ⟨B, ρ, h, S, W, R, ?_⟩
      simp only [evS] at q
      revert q
      cases evSs F b S h with
      | exc e S1 h1 => exact fun q => q.elim
      | nx S1 h1 => exact fun q => q
      | rt rv h1 => exact fun q => q
      | bk S1 h1 => exact fun q => q
      | ct S1 h1 => exact fun q => q
      | bad => exact fun q => q
    · cases h
  | .ex e, XW, X, s, o, h => st_ex o h
  | .ret e, XW, X, s, o, h => st_ret o h
  | .retO j, XW, X, s, o, h => st_retO o h
  | .rtN, XW, X, s, o, h => by
    simp only [mS] at h
    split at h
    · refine PS.imp ps_retN fun D σ H q => ?_
      obtain ⟨B, ρ, h, S, W, R, q⟩ := q
      exact q _ H (good_non R.bare)
    · cases h
  | .ife c a b, XW, X, s, o, h => by
    simp only [mS] at h
    split at h
    · simp only [Bool.and_eq_true] at h
      exact st_ife o h.1.1 (sndSs a XW X _ o h.1.2) (sndSs b XW X _ o h.2)
    · cases h
  | .for_ t it b, XW, X, s, o, h => by
    simp only [mS] at h
    split at h
    · rename_i tg e b' els pos
      simp only [Bool.and_eq_true] at h
      obtain ⟨h, ht⟩ := h
      have e0 : els = [] := by simpa using h.2
      subst e0
      exact st_for o h.1.1.1 h.1.1.2 ht (sndSs b XW X _ o h.1.2)
    · cases h
  | .brk, XW, X, s, o, h => by
    simp only [mS] at h
    split at h
    · refine PS.imp ps_break fun D σ H q => ?_
      obtain ⟨B, ρ, h, S, W, R, q⟩ := q
      exact q σ H ⟨ρ, W, Ext.refl, R⟩
    · cases h
  | .cnt, XW, X, s, o, h => by
    simp only [mS] at h
    split at h
    · refine PS.imp ps_continue fun D σ H q => ?_
      obtain ⟨B, ρ, h, S, W, R, q⟩ := q
      exact q σ H ⟨ρ, W, Ext.refl, R⟩
    · cases h
  | .pas, XW, X, s, o, h => by
    simp only [mS] at h
    split at h
    · refine PS.imp ps_pass fun D σ H q => ?_
      obtain ⟨B, ρ, h, S, W, R, q⟩ := q
      exact q σ H ⟨ρ, W, Ext.refl, R⟩
    · cases h
  | .whl n c b, XW, X, s, o, h => by
    simp only [mS] at h
    split at h
    · rename_i e b' els pos
      simp only [Bool.and_eq_true] at h
      have e0 : els = [] := by simpa using h.2
      subst e0
      exact st_whl o h.1.1 (sndSs b XW X _ o h.1.2)
    · cases h
  | .dead, XW, X, s, o, h => ⟨fun pins s σ H D I q => by
    obtain ⟨B, ρ, h, S, W, R, q⟩ := q
    exact q.elim⟩
  | .ast ts m, XW, X, s, o, h => st_ast o h
  | .beh t u m, XW, X, s, o, h => st_beh o h
  | .aug i m, XW, X, s, o, h => st_aug o h
theorem sndSs : ∀ (ms : List MS) (XW : WX) (X : Cx) (ss : List Stmt), OK T F cls N sc XW X → mSs T N sc ms ss = true → PSs X ss (rdSs (gX X cls) F XW ms)
  | [], XW, X, ss, o, h => by
    cases ss with
    | nil => exact ss_nil
    | cons _ _ => simp [mSs] at h
  | .gfz j :: ms, XW, X, ss, o, h => by
    simp only [mSs] at h
    refine PSs.imp (sndSs ms XW X ss o h) fun D σ H q => ?_
    obtain ⟨B, ρ, h, S, W, R, q⟩ := q
    simp only [evSs, evS] at q
    split at q
    · rename_i S1 h1 e
      split at e
      case h_2 => cases e
      rename_i c es
      split at e
      case h_2 => cases e
      rename_i x ex
      cases e
      obtain ⟨W', x', R'⟩ := ghost_fz R es ex
      exact ⟨B, ρ, _, _, W', R', q.ext R.base x'⟩
    · rename_i r hn
      split at q
      case h_2 => exact q.elim
      rename_i c es
      split at q
      case h_2 => exact q.elim
      rename_i x ex
      simp only [es, ex] at hn
      exact absurd rfl (hn _ _)
  | .gcl j :: ms, XW, X, ss, o, h => by
    simp only [mSs] at h
    refine PSs.imp (sndSs ms XW X ss o h) fun D σ H q => ?_
    obtain ⟨B, ρ, h, S, W, R, q⟩ := q
    simp only [evSs, evS] at q
    split at q
    · rename_i S1 h1 e
      split at e
      case h_2 => cases e
      rename_i c es
      cases e
      obtain ⟨ρ', x', R'⟩ := ghost_cl R es
      exact ⟨B, ρ', _, _, W, R', q.ext R.base x'⟩
    · rename_i r hn
      split at q
      case h_2 => exact q.elim
      rename_i c es
      simp only [es] at hn
      exact absurd rfl (hn _ _)
  | .glk j is :: ms, XW, X, ss, o, h => by
    simp only [mSs] at h
    refine ⟨fun pins s σ H D I q => ?_⟩
    obtain ⟨B, ρ, hh, S, W, R, q⟩ := q
    simp only [evSs] at q
    have ev : ∀ r, evS F (.glk j is) S hh = r → r = .bad ∨ ∃ n kvs, hh[n]? = some (.dic kvs) ∧ r = .nx S (hh.set n (.lck kvs)) := fun r e => by
      simp only [evS] at e
      split at e
      case h_2 => exact .inl e.symm
      split at e
      case h_2 => exact .inl e.symm
      split at e
      case h_2 => exact .inl e.symm
      rename_i kvs en
      exact .inr ⟨_, kvs, en, e.symm⟩
    rcases ev _ rfl with e | ⟨n, kvs, en, e⟩
    · rw [e] at q
      exact q.elim
    · rw [e] at q
      obtain ⟨H', I', x', R'⟩ := ghost_lk I R en
      exact (sndSs ms XW X ss o h).run pins s σ H' D I' ⟨B, ρ, _, S, W, R', q.ext R.base x'⟩
  | .asg a1 a2 :: ms, XW, X, ss, o, h => by
    cases ss with
    | nil => simp [mSs] at h
    | cons s ss =>
      simp only [mSs, Bool.and_eq_true] at h
      exact ss_cons (sndS (.asg a1 a2) XW X s o h.1) (sndSs ms XW X ss o h.2)
  | .par a1 a2 :: ms, XW, X, ss, o, h => by
    cases ss with
    | nil => simp [mSs] at h
    | cons s ss =>
      simp only [mSs, Bool.and_eq_true] at h
      exact ss_cons (sndS (.par a1 a2) XW X s o h.1) (sndSs ms XW X ss o h.2)
  | .parO a1 a2 a3 a4 :: ms, XW, X, ss, o, h => by
    cases ss with
    | nil => simp [mSs] at h
    | cons s ss =>
      simp only [mSs, Bool.and_eq_true] at h
      exact ss_cons (sndS (.parO a1 a2 a3 a4) XW X s o h.1) (sndSs ms XW X ss o h.2)
  | .asO a1 a2 :: ms, XW, X, ss, o, h => by
    cases ss with
    | nil => simp [mSs] at h
    | cons s ss =>
      simp only [mSs, Bool.and_eq_true] at h
      exact ss_cons (sndS (.asO a1 a2) XW X s o h.1) (sndSs ms XW X ss o h.2)
  | .asI a1 a2 a3 :: ms, XW, X, ss, o, h => by
    cases ss with
    | nil => simp [mSs] at h
    | cons s ss =>
      simp only [mSs, Bool.and_eq_true] at h
      exact ss_cons (sndS (.asI a1 a2 a3) XW X s o h.1) (sndSs ms XW X ss o h.2)
  | .asF a1 a2 a3 a4 :: ms, XW, X, ss, o, h => by
    cases ss with
    | nil => simp [mSs] at h
    | cons s ss =>
      simp only [mSs, Bool.and_eq_true] at h
      exact ss_cons (sndS (.asF a1 a2 a3 a4) XW X s o h.1) (sndSs ms XW X ss o h.2)
  | .owM a1 a2 a3 :: ms, XW, X, ss, o, h => by
    cases ss with
    | nil => simp [mSs] at h
    | cons s ss =>
      simp only [mSs, Bool.and_eq_true] at h
      exact ss_cons (sndS (.owM a1 a2 a3) XW X s o h.1) (sndSs ms XW X ss o h.2)
  | .ex a1 :: ms, XW, X, ss, o, h => by
    cases ss with
    | nil => simp [mSs] at h
    | cons s ss =>
      simp only [mSs, Bool.and_eq_true] at h
      exact ss_cons (sndS (.ex a1) XW X s o h.1) (sndSs ms XW X ss o h.2)
  | .ret a1 :: ms, XW, X, ss, o, h => by
    cases ss with
    | nil => simp [mSs] at h
    | cons s ss =>
      simp only [mSs, Bool.and_eq_true] at h
      exact ss_cons (sndS (.ret a1) XW X s o h.1) (sndSs ms XW X ss o h.2)
  | .retO a1 :: ms, XW, X, ss, o, h => by
    cases ss with
    | nil => simp [mSs] at h
    | cons s ss =>
      simp only [mSs, Bool.and_eq_true] at h
      exact ss_cons (sndS (.retO a1) XW X s o h.1) (sndSs ms XW X ss o h.2)
  | .rtN :: ms, XW, X, ss, o, h => by
    cases ss with
    | nil => simp [mSs] at h
    | cons s ss =>
      simp only [mSs, Bool.and_eq_true] at h
      exact ss_cons (sndS (.rtN) XW X s o h.1) (sndSs ms XW X ss o h.2)
  | .ife a1 a2 a3 :: ms, XW, X, ss, o, h => by
    cases ss with
    | nil => simp [mSs] at h
    | cons s ss =>
      simp only [mSs, Bool.and_eq_true] at h
      exact ss_cons (sndS (.ife a1 a2 a3) XW X s o h.1) (sndSs ms XW X ss o h.2)
  | .for_ a1 a2 a3 :: ms, XW, X, ss, o, h => by
    cases ss with
    | nil => simp [mSs] at h
    | cons s ss =>
      simp only [mSs, Bool.and_eq_true] at h
      exact ss_cons (sndS (.for_ a1 a2 a3) XW X s o h.1) (sndSs ms XW X ss o h.2)
  | .brk :: ms, XW, X, ss, o, h => by
    cases ss with
    | nil => simp [mSs] at h
    | cons s ss =>
      simp only [mSs, Bool.and_eq_true] at h
      exact ss_cons (sndS (.brk) XW X s o h.1) (sndSs ms XW X ss o h.2)
  | .cnt :: ms, XW, X, ss, o, h => by
    cases ss with
    | nil => simp [mSs] at h
    | cons s ss =>
      simp only [mSs, Bool.and_eq_true] at h
      exact ss_cons (sndS (.cnt) XW X s o h.1) (sndSs ms XW X ss o h.2)
  | .pas :: ms, XW, X, ss, o, h => by
    cases ss with
    | nil => simp [mSs] at h
    | cons s ss =>
      simp only [mSs, Bool.and_eq_true] at h
      exact ss_cons (sndS (.pas) XW X s o h.1) (sndSs ms XW X ss o h.2)
  | .whl a1 a2 a3 :: ms, XW, X, ss, o, h => by
    cases ss with
    | nil => simp [mSs] at h
    | cons s ss =>
      simp only [mSs, Bool.and_eq_true] at h
      exact ss_cons (sndS (.whl a1 a2 a3) XW X s o h.1) (sndSs ms XW X ss o h.2)
  | .dead :: ms, XW, X, ss, o, h => by
    cases ss with
    | nil => simp [mSs] at h
    | cons s ss =>
      simp only [mSs, Bool.and_eq_true] at h
      exact ss_cons (sndS (.dead) XW X s o h.1) (sndSs ms XW X ss o h.2)
  | .ast a1 a2 :: ms, XW, X, ss, o, h => by
    cases ss with
    | nil => simp [mSs] at h
    | cons s ss =>
      simp only [mSs, Bool.and_eq_true] at h
      exact ss_cons (sndS (.ast a1 a2) XW X s o h.1) (sndSs ms XW X ss o h.2)
  | .beh a1 a2 a3 :: ms, XW, X, ss, o, h => by
    cases ss with
    | nil => simp [mSs] at h
    | cons s ss =>
      simp only [mSs, Bool.and_eq_true] at h
      exact ss_cons (sndS (.beh a1 a2 a3) XW X s o h.1) (sndSs ms XW X ss o h.2)
  | .aug a1 a2 :: ms, XW, X, ss, o, h => by
    cases ss with
    | nil => simp [mSs] at h
    | cons s ss =>
      simp only [mSs, Bool.and_eq_true] at h
      exact ss_cons (sndS (.aug a1 a2) XW X s o h.1) (sndSs ms XW X ss o h.2)
  | .del a1 a2 :: ms, XW, X, ss, o, h => by
    cases ss with
    | nil => simp [mSs] at h
    | cons s ss =>
      simp only [mSs, Bool.and_eq_true] at h
      exact ss_cons (sndS (.del a1 a2) XW X s o h.1) (sndSs ms XW X ss o h.2)
  | .tryP a1 :: ms, XW, X, ss, o, h => by
    cases ss with
    | nil => simp [mSs] at h
    | cons s ss =>
      simp only [mSs, Bool.and_eq_true] at h
      exact ss_cons (sndS (.tryP a1) XW X s o h.1) (sndSs ms XW X ss o h.2)
end
end
end Mp


set_option Elab.async false
set_option linter.all false
set_option maxRecDepth 10000
set_option maxHeartbeats 1000000
/-! Defs. -/
namespace Mp
open PySem PySem.Spec PyProof.Rows L2
theorem bty_all {P : String → Prop} (h0 : P "NoneType") (h1 : P "bool") (h2 : P "int") (h3 : P "str") (h4 : P "list") (h5 : P "tuple") (h6 : P "dict") : ∀ t ∈ bTys, P t := by
  intro t ht
  simp only [bTys, List.mem_cons, List.not_mem_nil, or_false] at ht
  rcases ht with rfl | rfl | rfl | rfl | rfl | rfl | rfl <;> assumption
/-- the facts of a text at every place of its run -/
structure Fb (T : Nm) (F : Fn) (cls : Nat → Addr) (P : Program) (w : World) (K : PySem.W.Frag) (mg : Str → Option Value) (base : Heap) (k : Nat) : Prop where
  bl : ∀ x ∈ T.bl, mg x = none
  gc : ∀ (j : Nat) x, T.gcs.lookup j = some x → ∃ u v, mg x = some u ∧ RelV v u ∧ ∀ H W, DR ⟨K, cls, P, w⟩ H W (F.gc j) v
  fn : ∀ (f : Nat) x n, T.fns.lookup f = some (x, n) → FnF cls P w K mg base k x n (F.fn f)
  ik : ∀ (c : Nat) x n, T.mks.lookup c = some (x, n) → ∃ j, j + 1 ≤ k ∧ MkF cls P w K mg base j c x n (F.ini c)
  mt : ∀ (f c : Nat) m n, T.mts.lookup f = some (c, m, n) → ∃ j, j ≤ k ∧ (spN m = true → j + 1 ≤ k) ∧ MtF cls P w K mg base j c m n (F.mth f)
  fl : ∀ (c : Nat) a, (c, a) ∈ T.fls → Cls K (cls c) ∧ NoAttr K (cls c) a
theorem start_get {N : List Str} {vs : List V} {i : Nat} : (L2.start N vs)[i]? = if i < vs.length then (vs[i]?).map some else if i < N.length then some none else none := by
  unfold L2.start
  by_cases h : i < vs.length
  · rw [if_pos h, List.getElem?_append_left (by simpa using h), List.getElem?_map]
  · rw [if_neg h, List.getElem?_append_right (by simpa using h), List.length_map]
    by_cases h2 : i < N.length
    · rw [if_pos h2, List.getElem?_replicate, if_pos (by omega)]
    · rw [if_neg h2, List.getElem?_replicate, if_neg (by omega)]
section
variable {T : Nm} {F : Fn} {cls : Nat → Addr} {P : Program} {w : World} {K : PySem.W.Frag} {mg : Str → Option Value} {base : Heap} {k : Nat}
theorem start_RS {G : Gd} {B : ASet} {ρ : List Addr} {h : Hs} {W : ASet} {H : Hp} {as : List AV} {vs : List V} {N : List Str} {n : Nat} (R : RS G B ρ h [] W [] H) (r : VRs G H W ρ as vs) (hN : N.length = n) : RS G B ρ h (as.map .v ++ List.replicate (n - as.length) .no) W (L2.start N vs) H := by
  refine ⟨R.len, R.nd, R.sub, R.base, R.out, R.live, R.cel, fun i s hi => ?_, fun i j c c' a h1 => ?_⟩
  · rw [start_get]
    by_cases hl : i < as.length
    · rw [List.getElem?_append_left (by simpa using hl), List.getElem?_map] at hi
      cases q : as[i]? with
      | none => rw [q] at hi; cases hi
      | some x =>
        rw [q] at hi
        cases hi
        obtain ⟨v, hv, rv⟩ := r.get q
        rw [if_pos (by rw [← r.length]; exact hl), hv]
        exact ⟨some v, rfl, v, rfl, rv⟩
    · rw [List.getElem?_append_right (by simpa using hl), List.getElem?_replicate, List.length_map] at hi
      split at hi
      · rename_i h2
        cases hi
        rw [if_neg (by rw [← r.length]; exact hl), if_pos (by omega)]
        exact ⟨none, rfl, trivial⟩
      · cases hi
  · exfalso
    by_cases hl : i < as.length
    · rw [List.getElem?_append_left (by simpa using hl), List.getElem?_map] at h1
      cases q : as[i]? with
      | none => rw [q] at h1; cases h1
      | some x => rw [q] at h1; cases h1
    · rw [List.getElem?_append_right (by simpa using hl), List.getElem?_replicate] at h1
      split at h1 <;> cases h1
theorem Fb.ok (fb : Fb T F cls P w K mg base k) {N : List Str} {qual : Str} {st : Stmt} {ps : List Str} {f : Addr} {cdv : Value} {A : Around} {outer : List Env} {s : Shared} {H : Hp} {E : XK} (S : FnScope N ps (defScope st)) (hr : Room k (A.deeper (envOfC qual (defScope st) s.heap.objs.size f cdv))) :
    OK T F cls N (defScope st).names (fun cls d _ H => E cls d H) (cxOf (L2.CX P w) P w K mg base N qual (defScope st) f cdv A outer s H E) := by
  refine ⟨⟨fb.bl, fb.gc, fun f x n e => ⟨k, fb.fn f x n e, hr⟩, fun c x n e => ?_, fun f c m n e => let ⟨j, hj, hs, h⟩ := fb.mt f c m n e; ⟨j, h, hr.mono hj, fun z => hr.mono (hs z)⟩, fb.fl, hr.units⟩, rfl, S.nd, rfl, S.kind, fun x e => e, fun x e => ⟨e, rfl⟩, fun x e => .inl e, fun x e => e, takes_of rfl rfl rfl rfl, passes_of rfl⟩
  obtain ⟨j, hj, h⟩ := fb.ik c x n e
  exact ⟨j, h, hr.mono hj⟩
/-- THE RULE: a def whose body stands for the statements keeps the promise of its worth -/
theorem fn_ok {x qual : Str} {st : Stmt} {f : Addr} {fd : FuncData} {N ps : List Str} {k : Nat} {body : List MS} (FF : L2.Fun K x qual st f fd) (S : FnScope N ps (defScope st)) (fb : Fb T F cls P w K mg base k)
    (hm : mSs T N (defScope st).names body (defBody st) = true) : FnOk P w K mg base (L2.CX P w) (k + 1) f fd ps (spF ⟨K, cls, P, w⟩ (run F N.length body) ps.length) := by
  refine FF.okX S (fun vs H Q E h => h.1) fun cdv A outer s H vs Q E hr h => ?_
  obtain ⟨hl, B, ρ, h, as, R, r, q⟩ := h
  refine ⟨_, sndSs body _ _ (defBody st) (fb.ok S hr) hm, B, ρ, h, _, uni B ρ, start_RS R r rfl, ?_⟩
  simp only [run] at q
  revert q
  cases evSs F body (as.map .v ++ List.replicate (N.length - as.length) .no) h with
  | nx S' h' => exact fun q σ' H' ⟨ρ', W', x', R'⟩ => q _ H' (good_non R'.bare |> fun g => g.ext R.base x')
  | rt rv h' => exact fun q v H' g => q v H' g
  | exc e S' h' => exact fun q c d σ' H' ⟨ρ', W', x', R', r'⟩ => q c d H' ⟨ρ', W', x', R'.bare, r'⟩
  | bk S' h' => exact fun q => q.elim
  | ct S' h' => exact fun q => q.elim
  | bad => exact fun q => q.elim
theorem FnF.mono {k k' n : Nat} {x : Str} {f : List AV → Hs → Res RV} (h : FnF cls P w K mg base k x n f) (l : k ≤ k') : FnF cls P w K mg base k' x n f := by
  obtain ⟨a, fd, ps, h1, h2, h3, h4⟩ := h
  exact ⟨a, fd, ps, h1, h2, h3.mono l, h4⟩
theorem MkF.mono {k k' c n : Nat} {x : Str} {f : List AV → Hs → Res RV} (h : MkF cls P w K mg base k c x n f) (l : k ≤ k') : MkF cls P w K mg base k' c x n f := by
  obtain ⟨a, fd, ps, h1, h2, hi, h3, h4⟩ := h
  exact ⟨a, fd, ps, h1, h2, hi, h3.mono l, h4⟩
theorem MtF.mono {k k' c n : Nat} {x : Str} {f : List AV → Hs → Res RV} (h : MtF cls P w K mg base k c x n f) (l : k ≤ k') : MtF cls P w K mg base k' c x n f := by
  obtain ⟨a, fd, ps, h1, h2, h3, h4⟩ := h
  exact ⟨a, fd, ps, h1, h2, h3.mono l, h4⟩
theorem fnF_of {x : Str} {st : Stmt} {f : Addr} {fd : FuncData} {N ps : List Str} {k n : Nat} {body : List MS} (FF : L2.Fun K x x st f fd) (hm : mg x = some (.ref f)) (bi : Binds K fd ps []) (S : FnScope N ps (defScope st)) (hn : ps.length = n) (fb : Fb T F cls P w K mg base k)
    (hb : mSs T N (defScope st).names body (defBody st) = true) : FnF cls P w K mg base (k + 1) x n (run F N.length body) := ⟨f, fd, ps, hm, FF.kp, hn ▸ fn_ok FF S fb hb, bi⟩
theorem mtF_of {m qual : Str} {c : Nat} {st : Stmt} {f : Addr} {fd : FuncData} {N ps : List Str} {k n : Nat} {body : List MS} (FF : L2.Fun K m qual st f fd) (hc : Cls K (cls c)) (hm : Meth K (cls c) m f) (bi : Binds K fd ps []) (S : FnScope N ps (defScope st)) (hn : ps.length = n + 1) (fb : Fb T F cls P w K mg base k)
    (hb : mSs T N (defScope st).names body (defBody st) = true) : MtF cls P w K mg base (k + 1) c m n (run F N.length body) := ⟨f, fd, ps, hc, hm, hn ▸ fn_ok FF S fb hb, bi⟩
end
/-! ### __init__: fields stored, tests ahead that lead out -/
section
variable {T : Nm} {F : Fn} {cls : Nat → Addr} {N : List Str} {sc : Ks} {XW : WX} {X : Cx}
/-- what is wished behind statements that store in no name -/
def SEN (G : Gd) (B : ASet) (ρ : List Addr) (W : ASet) (H : Hp) (XW : WX) (D : Ends) (σ : L2.St) (r : SRes) : Prop := match r with
  | .nx S' h' => ∀ H', BGood G B ρ W H S' σ h' H' → D.nx σ H'
  | .exc e S' h' => ∀ c d σ' H', XGood G B ρ W H S' σ' e h' c d H' → XW c d σ' H'
  | _ => False
theorem SEN.ext {G : Gd} {B : ASet} {ρ ρ' : List Addr} {W W' : ASet} {H H' : Hp} {D : Ends} {σ : L2.St} {r : SRes} (bw : ∀ a, B a → W a) (x : Ext B ρ W H ρ' W' H') (q : SEN G B ρ W H XW D σ r) : SEN G B ρ' W' H' XW D σ r := by
  cases r with
  | nx S h => exact fun H g => q H (g.ext bw x)
  | exc e S h => exact fun c d σ H g => q c d σ H (g.ext bw x)
  | _ => exact q.elim
theorem SEN.st {α : Type} {G : Gd} {B : ASet} {ρ : List Addr} {W : ASet} {H : Hp} {D : Ends} {σ : L2.St} {r : Res α} {S : List SV} {f : α → Hs → SRes} (q : SEN G B ρ W H XW D σ (r.st S f)) : r.ens (fun a h => SEN G B ρ W H XW D σ (f a h)) (fun e h => ∀ c d σ' H', XGood G B ρ W H S σ' e h c d H' → XW c d σ' H') := by
  cases r with
  | ok a h => exact q
  | exc e h => exact q
  | bad => exact q.elim
def rdN (G : Gd) (F : Fn) (XW : WX) (ms : List MS) : TS := fun D σ H => ∃ (B : ASet) (ρ : List Addr) (h : Hs) (S : List SV) (W : ASet), RS G B ρ h S W σ H ∧ SEN G B ρ W H XW D σ (evSs F ms S h)
/-- statements of an __init__ -/
def MS.ini : MS → Bool
  | .asF _ _ _ _ => true
  | .ife _ [.dead] [] => true
  | _ => false
theorem sn_nil : PSs X [] (rdN (gX X cls) F XW []) := by
  refine PSs.imp pss_nil fun D σ H q => ?_
  obtain ⟨B, ρ, h, S, W, R, q⟩ := q
  exact q H ⟨ρ, W, Ext.refl, R⟩
theorem sn_asF (o : OK T F cls N sc XW X) {cs : List Nat} {mo m : ME} {a : Str} {s : Stmt} {ms : List MS} {ss : List Stmt} (h : mS T N sc (.asF cs mo a m) s = true) (hr : PSs X ss (rdN (gX X cls) F XW ms)) : PSs X (s :: ss) (rdN (gX X cls) F XW (.asF cs mo a m :: ms)) := by
  simp only [mS] at h
  split at h
  case h_2 => cases h
  rename_i oe a' p e pos
  simp only [Bool.and_eq_true, decide_eq_true_eq, List.all_eq_true] at h
  obtain ⟨⟨⟨rfl, h1⟩, h2⟩, h3⟩ := h
  have hsw : swapsWith e (some (.Attribute oe a p)) pos.line X.env = pure false := by cases e <;> rfl
  refine PSs.imp (pss_cons (ps_fld (sndE mo sc XW X oe o h1) (sndE m sc XW X e o h2) hsw) hr) fun D σ H q => ?_
  obtain ⟨B, ρ, h, S, W, R, q⟩ := q
  have q : SEN (gX X cls) B ρ W H XW D σ ((evE F m S h).st S fun x h1 => (toV1 x h1).st S fun x h1 => (evE F mo S h1).st S fun y h2 => match stO cs S h2 y a x with
    | .nx S1 h1 => evSs F ms S1 h1
    | r => r) := by
    simp only [evSs, evS] at q
    revert q
    cases evE F m S h with
    | bad => exact id
    | exc e h1 => exact id
    | ok x h1 =>
      simp only [Res.st_ok]
      cases toV1 x h1 with
      | bad => exact id
      | exc e h1 => exact id
      | ok x h1 =>
        simp only [Res.st_ok]
        cases evE F mo S h1 with
        | bad => exact id
        | exc e h1 => exact id
        | ok y h2 => exact id
  refine ⟨B, ρ, h, S, W, R, ens_ext q.st (fun x h1 q v H1 g => ?_) fun e h k c d H' g => k c d σ H' g⟩
  obtain ⟨y, ey, q⟩ := ens_ok1 q.st
  obtain ⟨ρ1, W1, x1, R1, r1⟩ := g.toV ey R.base
  refine ⟨B, ρ1, h1, S, W1, R1, ens_ext q.st (fun z h2 q vz H2 g2 => ?_) fun e h' k c d H' g => k c d σ H' (g.ext R.base x1)⟩
  obtain ⟨ρ2, W2, x2, R2, r2⟩ := g2
  have x12 := x1.trans x2 R.base
  have r1' := VR.mv x2.sub x2.pre _ _ r1
  unfold stO at q
  cases z with
  | f c => exact q.elim
  | v av =>
    cases av with
    | d d => exact q.elim
    | q t xs => exact q.elim
    | r n =>
      simp only at q
      cases ec : (h2[n]?).bind (stC cs a y) with
      | none => rw [ec] at q; exact q.elim
      | some c' =>
        rw [ec] at q
        simp only [Option.bind_eq_some_iff] at ec
        obtain ⟨c, hc, ec⟩ := ec
        unfold stC at ec
        split at ec
        case h_2 => cases ec
        rename_i ci fs
        split at ec
        case isFalse => cases ec
        rename_i hz
        cases ec
        simp only [RVR, VR] at r2
        obtain ⟨p, hp, rfl⟩ := r2
        have wp := R2.sub p (List.mem_of_getElem? hp)
        obtain ⟨dx, es, l, r⟩ := R2.cel n _ p hc hp
        obtain ⟨c1, c2⟩ := o.fa.fl ci a (h3 ci hz.1)
        have x3 := x12.trans (Ext.setC (o := .ins (cls ci) dx (L2.putF a v es)) hp wp (R2.out p (List.mem_of_getElem? hp)) l fun _ _ z => nomatch z) R.base
        exact ⟨p, _, dx, es, rfl, l, c1, c2, by rw [← r.length]; exact hz.2, B, ρ2, _, _, W2, R2.setC (c := .ins ci (putFA a y fs)) hp ⟨dx, _, upd_same, (r.putF r1').mv (sub_set wp) pre_refl⟩, SEN.ext R.base x3 q⟩
  | b j c0 =>
    simp only at q
    cases es : S[j]? with
    | none => rw [es] at q; exact q.elim
    | some sv =>
      rw [es] at q
      cases sv with
      | no => exact q.elim
      | v x => exact q.elim
      | own c =>
        simp only at q
        cases ec : stC cs a y c with
        | none => rw [ec] at q; exact q.elim
        | some c' =>
          rw [ec] at q
          unfold stC at ec
          split at ec
          case h_2 => cases ec
          rename_i ci fs
          split at ec
          case isFalse => cases ec
          rename_i hz
          cases ec
          obtain ⟨e1, e2⟩ := r2
          obtain ⟨u, hu, p, rfl, wa, nb, nr, dx, es2, l, r⟩ := R2.sl j _ es
          rw [hu] at e2
          cases e2
          obtain ⟨c1, c2⟩ := o.fa.fl ci a (h3 ci hz.1)
          have x3 := x12.trans (Ext.poke (o := .ins (cls ci) dx (L2.putF a v es2)) wa nb l) R.base
          exact ⟨p, _, dx, es2, rfl, l, c1, c2, by rw [← r.length]; exact hz.2, B, ρ2, _, _, W2, R2.setS (c := .ins ci (putFA a y fs)) es hu ⟨dx, _, upd_same, (r.putF r1').mv (sub_set wa) pre_refl⟩, SEN.ext R.base x3 q⟩
theorem sn_ife (o : OK T F cls N sc XW X) {c : MC} {s : Stmt} {ms : List MS} {ss : List Stmt} (h : mS T N sc (.ife c [.dead] []) s = true) (hr : PSs X ss (rdN (gX X cls) F XW ms)) : PSs X (s :: ss) (rdN (gX X cls) F XW (.ife c [.dead] [] :: ms)) := by
  simp only [mS] at h
  split at h
  case h_2 => cases h
  rename_i e a' b' pos
  simp only [Bool.and_eq_true] at h
  obtain ⟨⟨h1, h2⟩, h3⟩ := h
  cases b' with
  | cons _ _ => simp [mSs] at h3
  | nil =>
    refine PSs.imp (pss_cons (ps_if (sndC c sc XW X e o h1) (sndSs [.dead] XW X a' o h2) pss_nil) hr) fun D σ H q => ?_
    obtain ⟨B, ρ, h, S, W, R, q⟩ := q
    simp only [evSs, evS] at q
    cases ev : evT F c S h with
    | bad => rw [ev] at q; exact q.elim
    | exc e h1 =>
      rw [ev] at q
      refine ⟨B, ρ, h, S, W, R, ?_⟩
      rw [ev]
      exact fun c d H' g => q c d σ H' g
    | ok k h1 =>
      rw [ev] at q
      refine ⟨B, ρ, h, S, W, R, ?_⟩
      rw [ev]
      intro H1 g
      obtain ⟨ρ1, W1, x1, R1⟩ := g
      cases k with
      | true => exact q.elim
      | false => exact ⟨B, ρ1, h1, S, W1, R1, SEN.ext R.base x1 q⟩
theorem snd_ini : ∀ (ms : List MS) (ss : List Stmt), OK T F cls N sc XW X → ms.all MS.ini = true → mSs T N sc ms ss = true → PSs X ss (rdN (gX X cls) F XW ms)
  | [], ss, o, hi, h => by
    cases ss with
    | nil => exact sn_nil
    | cons _ _ => simp [mSs] at h
  | m :: ms, ss, o, hi, h => by
    simp only [List.all_cons, Bool.and_eq_true] at hi
    unfold MS.ini at hi
    obtain ⟨h1, h2⟩ := hi
    split at h1
    · cases ss with
      | nil => simp [mSs] at h
      | cons s ss =>
        simp only [mSs, Bool.and_eq_true] at h
        exact sn_asF o h.1 (snd_ini ms ss o h2 h.2)
    · cases ss with
      | nil => simp [mSs] at h
      | cons s ss =>
        rename_i c0
        have h : (mS T N sc (.ife c0 [.dead] []) s && mSs T N sc ms ss) = true := by
          rw [mSs] at h
          · exact h
          · exact nofun
          · exact nofun
          · exact nofun
        rw [Bool.and_eq_true] at h
        exact sn_ife o h.1 (snd_ini ms ss o h2 h.2)
    · cases h1
end
section
variable {T : Nm} {F : Fn} {cls : Nat → Addr} {P : Program} {w : World} {K : PySem.W.Frag} {mg : Str → Option Value} {base : Heap}
theorem startI_RS {G : Gd} {B : ASet} {ρ : List Addr} {h : Hs} {W : ASet} {H : Hp} {as : List AV} {us : List V} {N : List Str} {x : Addr} {c : Cell} (R : RS G B ρ h [] W [] H) (r : VRs G H W ρ as us) (wx : W x) (nb : ¬ B x) (nr : x ∉ ρ) (hc : CAt G H W ρ x c) :
    RS G B ρ h (SV.own c :: (as.map SV.v ++ List.replicate (N.length - 1 - as.length) SV.no)) W (L2.start N (.ref x :: us)) H := by
  have own0 : ∀ (i : Nat) d, (SV.own c :: (as.map SV.v ++ List.replicate (N.length - 1 - as.length) SV.no))[i]? = some (SV.own d) → i = 0 := fun i d hi => by
    cases i with
    | zero => rfl
    | succ i =>
      exfalso
      rw [List.getElem?_cons_succ] at hi
      by_cases hl : i < as.length
      · rw [List.getElem?_append_left (by simpa using hl), List.getElem?_map] at hi
        cases q : as[i]? with
        | none => rw [q] at hi; cases hi
        | some y => rw [q] at hi; cases hi
      · rw [List.getElem?_append_right (by simpa using hl), List.getElem?_replicate] at hi
        split at hi <;> cases hi
  refine ⟨R.len, R.nd, R.sub, R.base, R.out, R.live, R.cel, fun i s hi => ?_, fun i j d d' a h1 h2 _ _ => by rw [own0 i d h1, own0 j d' h2]⟩
  rw [start_get]
  cases i with
  | zero =>
    rw [List.getElem?_cons_zero] at hi
    cases hi
    exact ⟨_, by rw [if_pos (by simp)]; rfl, x, rfl, wx, nb, nr, hc⟩
  | succ i =>
    rw [List.getElem?_cons_succ] at hi
    by_cases hl : i < as.length
    · rw [List.getElem?_append_left (by simpa using hl), List.getElem?_map] at hi
      cases q : as[i]? with
      | none => rw [q] at hi; cases hi
      | some y =>
        rw [q] at hi
        cases hi
        obtain ⟨v, hv, rv⟩ := r.get q
        rw [if_pos (by simp only [List.length_cons]; rw [← r.length]; omega), List.getElem?_cons_succ, hv]
        exact ⟨some v, rfl, v, rfl, rv⟩
    · rw [List.getElem?_append_right (by simpa using hl), List.getElem?_replicate, List.length_map] at hi
      split at hi
      · rename_i h2
        cases hi
        rw [if_neg (by simp only [List.length_cons]; rw [← r.length]; omega), if_pos (by omega)]
        exact ⟨none, rfl, trivial⟩
      · cases hi
/-- a class whose __init__ stands for the statements -/
theorem ini_ok {qual : Str} {st : Stmt} {f : Addr} {fd : FuncData} {N ps : List Str} {k c n : Nat} {body : List MS} (FF : L2.Fun K "__init__" qual st f fd) (S : FnScope N ps (defScope st)) (hn : ps.length = n + 1) (fb : Fb T F cls P w K mg base k) (hi : body.all MS.ini = true)
    (hm : mSs T N (defScope st).names body (defBody st) = true) : FnOk P w K mg base (L2.CX P w) (k + 1) f fd ps (spI ⟨K, cls, P, w⟩ c (runI F c N.length body) n) := by
  refine FF.okX S (fun vs H Q E h => ?_) fun cdv A outer s H vs Q E hr h => ?_
  · obtain ⟨x, dx, us, H0, B, ρ, h, as, rfl, hl, _⟩ := h
    simp [hl, hn]
  · obtain ⟨x, dx, us, H0, B, ρ, h, as, rfl, hl, hx, hdx, ne, rfl, R, r, q⟩ := h
    have hx1 : upd H0 dx (.own x) x = none := by rw [upd_ne (Ne.symm ne)]; exact hx
    have R1 : RS ⟨K, cls, P, w⟩ B ρ h [] (uni B ρ) [] (upd H0 dx (.own x)) := R.lay hdx
    have x1 : Ext B ρ (uni B ρ) H0 ρ (uni B ρ) (upd H0 dx (.own x)) := Ext.lay hdx
    obtain ⟨n1, n2, n3, n4⟩ := R1.fresh hx1
    have R2 : RS ⟨K, cls, P, w⟩ B ρ h [] (add (uni B ρ) x) [] (upd (upd H0 dx (.own x)) x (.ins (cls c) dx [])) := R1.layO hx1
    have x2 : Ext B ρ (uni B ρ) H0 ρ (add (uni B ρ) x) (upd (upd H0 dx (.own x)) x (.ins (cls c) dx [])) := x1.trans (Ext.layO hx1) R.base
    have r2 := VRs.mv x2.sub x2.pre _ _ r
    refine ⟨_, snd_ini body (defBody st) (fb.ok S hr) hi hm, B, ρ, h, _, _, startI_RS (c := .ins c []) R2 r2 (.inr rfl) n2 n3 ⟨dx, [], upd_same, by simp only [VRk]⟩, ?_⟩
    unfold runI at q
    cases ev : evSs F body (SV.own (Cell.ins c []) :: (as.map SV.v ++ List.replicate (N.length - 1 - as.length) SV.no)) h with
    | nx S' h' =>
      rw [ev] at q
      intro H' g
      obtain ⟨ρ', W', x', R'⟩ := g
      simp only at q
      cases es : S'[0]? with
      | none => rw [es] at q; exact q.elim
      | some sv =>
        rw [es] at q
        cases sv with
        | no => exact q.elim
        | v y => exact q.elim
        | own c' =>
          obtain ⟨u, hu, a, rfl, wa, nb, nr, hc⟩ := R'.sl 0 _ es
          have ha : a = x := by
            rw [start_get, if_pos (by simp)] at hu
            simpa using hu.symm
          subst ha
          exact q H' ⟨ρ', W', x2.trans x' R.base, R'.bare, a, rfl, wa, nb, nr, fun i d hi => by simp at hi, hc⟩
    | exc e S' h' =>
      rw [ev] at q
      exact fun c d σ' H' ⟨ρ', W', x', R', r'⟩ => q c d H' ⟨ρ', W', x2.trans x' R.base, R'.bare, r'⟩
    | rt rv h' => rw [ev] at q; exact q.elim
    | bk S' h' => rw [ev] at q; exact q.elim
    | ct S' h' => rw [ev] at q; exact q.elim
    | bad => rw [ev] at q; exact q.elim
theorem mkF_of {x qual : Str} {c : Nat} {st : Stmt} {f : Addr} {fd : FuncData} {N ps : List Str} {k n : Nat} {body : List MS} (FF : L2.Fun K "__init__" qual st f fd) (hx : mg x = some (.ref (cls c))) (M : Mk K (cls c) f) (ci : Ci K (cls c)) (bi : Binds K fd ps []) (S : FnScope N ps (defScope st)) (hn : ps.length = n + 1)
    (fb : Fb T F cls P w K mg base k) (hi : body.all MS.ini = true) (hb : mSs T N (defScope st).names body (defBody st) = true) : MkF cls P w K mg base (k + 1) c x n (runI F c N.length body) := ⟨f, fd, ps, hx, M, ci, ini_ok FF S hn fb hi hb, bi⟩
end
end Mp


set_option Elab.async false
set_option linter.all false
set_option maxRecDepth 10000
set_option maxHeartbeats 1000000
/-! A text's defs one behind another, and the end of a law. -/
namespace Mp
open PySem PySem.Spec PyProof.Rows L2
abbrev Worth := List AV → Hs → Res RV
def noW : Worth := fun _ _ => .bad
/-- defs, classes, methods by their numbers -/
def mkF (gc : Nat → D) (l i m : List (Nat × Worth)) : Fn := ⟨fun f => (l.lookup f).getD noW, gc, fun c => (i.lookup c).getD noW, fun f => (m.lookup f).getD noW⟩
/-- a def that calls itself: as often as told -/
noncomputable def recW (step : Worth → Worth) : Nat → Worth
  | 0 => noW
  | j + 1 => step (recW step j)
section
variable {gc : Nat → D} {cls : Nat → Addr} {P : Program} {w : World} {K : PySem.W.Frag} {mg : Str → Option Value} {base : Heap} {k : Nat}
variable {fns : List (Nat × Str × Nat)} {gcs : List (Nat × Str)} {bl : List Str} {mks : List (Nat × Str × Nat)} {mts : List (Nat × Nat × Str × Nat)} {fls : List (Nat × Str)} {l i m : List (Nat × Worth)}
theorem Fb.nil (hb : ∀ x ∈ bl, mg x = none) (hg : ∀ (j : Nat) x, gcs.lookup j = some x → ∃ u v, mg x = some u ∧ RelV v u ∧ ∀ H W, DR ⟨K, cls, P, w⟩ H W (gc j) v) (hf : ∀ (c : Nat) a, (c, a) ∈ fls → Cls K (cls c) ∧ NoAttr K (cls c) a) :
    Fb ⟨[], gcs, bl, [], [], fls⟩ (mkF gc [] [] []) cls P w K mg base k :=
  ⟨hb, hg, fun f x n e => by simp at e, fun c x n e => by simp at e, fun f c m n e => by simp at e, hf⟩
theorem lookup_ne {β : Type} {j f : Nat} {b : β} {r : List (Nat × β)} (h : ¬ f = j) : ((j, b) :: r).lookup f = r.lookup f := by
  rw [List.lookup_cons]
  have : (f == j) = false := by simpa using h
  rw [this]
theorem lookup_eq {β : Type} {j : Nat} {b : β} {r : List (Nat × β)} : ((j, b) :: r).lookup j = some b := by
  rw [List.lookup_cons]
  simp
theorem Fb.cfn {j n : Nat} {x : Str} {f : Worth} (h : FnF cls P w K mg base k x n f) (fb : Fb ⟨fns, gcs, bl, mks, mts, fls⟩ (mkF gc l i m) cls P w K mg base k) : Fb ⟨(j, x, n) :: fns, gcs, bl, mks, mts, fls⟩ (mkF gc ((j, f) :: l) i m) cls P w K mg base k := by
  refine ⟨fb.bl, fb.gc, fun g y q e => ?_, fb.ik, fb.mt, fb.fl⟩
  by_cases hg : g = j
  · subst hg
    have e : ((g, x, n) :: fns).lookup g = some (y, q) := e
    rw [lookup_eq] at e
    cases e
    show FnF cls P w K mg base k x n ((((g, f) :: l).lookup g).getD noW)
    rw [lookup_eq]
    exact h
  · have e : ((j, x, n) :: fns).lookup g = some (y, q) := e
    rw [lookup_ne hg] at e
    show FnF cls P w K mg base k y q ((((j, f) :: l).lookup g).getD noW)
    rw [lookup_ne hg]
    exact fb.fn g y q e
theorem Fb.cmk {j n k' : Nat} {x : Str} {f : Worth} (h : MkF cls P w K mg base k' j x n f) (hk : k' + 1 ≤ k) (fb : Fb ⟨fns, gcs, bl, mks, mts, fls⟩ (mkF gc l i m) cls P w K mg base k) : Fb ⟨fns, gcs, bl, (j, x, n) :: mks, mts, fls⟩ (mkF gc l ((j, f) :: i) m) cls P w K mg base k := by
  refine ⟨fb.bl, fb.gc, fb.fn, fun g y q e => ?_, fb.mt, fb.fl⟩
  by_cases hg : g = j
  · subst hg
    have e : ((g, x, n) :: mks).lookup g = some (y, q) := e
    rw [lookup_eq] at e
    cases e
    refine ⟨k', hk, ?_⟩
    show MkF cls P w K mg base k' g x n ((((g, f) :: i).lookup g).getD noW)
    rw [lookup_eq]
    exact h
  · have e : ((j, x, n) :: mks).lookup g = some (y, q) := e
    rw [lookup_ne hg] at e
    obtain ⟨k2, h2, h3⟩ := fb.ik g y q e
    refine ⟨k2, h2, ?_⟩
    show MkF cls P w K mg base k2 g y q ((((j, f) :: i).lookup g).getD noW)
    rw [lookup_ne hg]
    exact h3
theorem Fb.cmt {j c n k' : Nat} {x : Str} {f : Worth} (h : MtF cls P w K mg base k' c x n f) (hk : k' ≤ k) (hs : spN x = true → k' + 1 ≤ k) (fb : Fb ⟨fns, gcs, bl, mks, mts, fls⟩ (mkF gc l i m) cls P w K mg base k) : Fb ⟨fns, gcs, bl, mks, (j, c, x, n) :: mts, fls⟩ (mkF gc l i ((j, f) :: m)) cls P w K mg base k := by
  refine ⟨fb.bl, fb.gc, fb.fn, fb.ik, fun g c' y q e => ?_, fb.fl⟩
  by_cases hg : g = j
  · subst hg
    have e : ((g, c, x, n) :: mts).lookup g = some (c', y, q) := e
    rw [lookup_eq] at e
    cases e
    refine ⟨k', hk, hs, ?_⟩
    show MtF cls P w K mg base k' c x n ((((g, f) :: m).lookup g).getD noW)
    rw [lookup_eq]
    exact h
  · have e : ((j, c, x, n) :: mts).lookup g = some (c', y, q) := e
    rw [lookup_ne hg] at e
    obtain ⟨k2, h1, h2, h3⟩ := fb.mt g c' y q e
    refine ⟨k2, h1, h2, ?_⟩
    show MtF cls P w K mg base k2 c' y q ((((j, f) :: m).lookup g).getD noW)
    rw [lookup_ne hg]
    exact h3
theorem spF_noW {G : Gd} {n : Nat} {vs : List V} {H : Hp} {Q : VK} {E : XK} (h : spF G noW n vs H Q E) : False := by
  obtain ⟨_, B, ρ, h, as, _, _, q⟩ := h
  exact q
theorem fnOk_noW {x qual : Str} {st : Stmt} {f : Addr} {fd : FuncData} {N ps : List Str} {n : Nat} {G : Gd} (FF : L2.Fun K x qual st f fd) (S : FnScope N ps (defScope st)) : FnOk P w K mg base (L2.CX P w) (k + 1) f fd ps (spF G noW n) :=
  FF.okX S (fun vs H Q E h => (spF_noW h).elim) fun cdv A outer s H vs Q E hr h => (spF_noW h).elim
/-- a def that calls itself -/
theorem fnF_rec {T : Nm} {Ef : Worth → Fn} {x : Str} {st : Stmt} {f : Addr} {fd : FuncData} {N ps : List Str} {n : Nat} {body : List MS} (FF : L2.Fun K x x st f fd) (hm : mg x = some (.ref f)) (bi : Binds K fd ps []) (S : FnScope N ps (defScope st)) (hn : ps.length = n)
    (hfb : ∀ (v : Worth) (k' : Nat), k ≤ k' → FnF cls P w K mg base k' x n v → Fb T (Ef v) cls P w K mg base k') (hb : mSs T N (defScope st).names body (defBody st) = true) : ∀ j, FnF cls P w K mg base (k + 1 + j) x n (recW (fun v => run (Ef v) N.length body) j)
  | 0 => ⟨f, fd, ps, hm, FF.kp, fnOk_noW FF S, bi⟩
  | j + 1 => by
    have ih := fnF_rec FF hm bi S hn hfb hb j
    have fb := hfb _ _ (by omega) ih
    exact fnF_of FF hm bi S hn fb hb
end
section
variable {cls : Nat → Addr} {P : Program} {w : World} {K : PySem.W.Frag} {mg : Str → Option Value} {base : Heap} {k : Nat}
/-- the law's promise: True of every script -/
def spEnd (K : PySem.W.Frag) : Sp := fun vs H Q _ => ∃ (a : Addr) (ns : List Int), vs = [.ref a] ∧ SqL K H a (ns.map V.int) ∧ ns.length ≤ 63 ∧ (∀ H', Q (.bl true) H')
theorem RS_zero {G : Gd} {H : Hp} : RS G (fun _ => False) [] [] [] (uni (fun _ => False) []) [] H := by
  refine ⟨rfl, List.nodup_nil, ?_, ?_, ?_, ?_, ?_, ?_, ?_⟩
  · intro a ha; cases ha
  · intro a ha; cases ha
  · intro a ha; cases ha
  · intro a ha
    rcases ha with ha | ha
    · cases ha
    · cases ha
  · intro i c a hi; simp at hi
  · intro i s hi; simp at hi
  · intro i j c c' a hi; simp at hi
theorem end_of {f : Worth} (h : ∀ ns : List Int, ns.length ≤ 63 → ∃ h', f [.d (.scr ns)] [] = .ok (db true) h') (vs : List V) (H : Hp) (Q : VK) (E : XK) (q : spEnd K vs H Q E) : spF ⟨K, cls, P, w⟩ f 1 vs H Q E := by
  obtain ⟨a, ns, rfl, hs, hl, k⟩ := q
  obtain ⟨h', e⟩ := h ns hl
  refine ⟨rfl, fun _ => False, [], [], [.d (.scr ns)], RS_zero, ?_, ?_⟩
  · simp only [VRs, VR, DR]
    refine ⟨.ref a, [], rfl, ⟨a, rfl, ?_⟩, rfl⟩
    rcases hs with hs | hs
    · refine .inl ⟨fun z => ?_, hs⟩
      rcases z with z | z
      · cases z
      · cases z
    · exact .inr hs
  · rw [e]
    intro v H' g
    obtain ⟨rfl, _⟩ := good_db g
    exact k H'
/-- constants -/
theorem gc_int {x : Str} {i : Int} {t : Tok} (h : mg x = some (.int i t)) : ∃ u v, mg x = some u ∧ RelV v u ∧ ∀ H W, DR ⟨K, cls, P, w⟩ H W (.int i) v := ⟨_, .int i, h, ⟨t, rfl⟩, fun H W => by simp only [DR]⟩
theorem gc_str {x : Str} {i : Str} {t : Tok} (h : mg x = some (.str i t)) : ∃ u v, mg x = some u ∧ RelV v u ∧ ∀ H W, DR ⟨K, cls, P, w⟩ H W (.str i) v := ⟨_, .str i, h, ⟨t, rfl⟩, fun H W => by simp only [DR]⟩
theorem strs_drs {G : Gd} {H : Hp} {W : ASet} : ∀ ss : List Str, DRs G H W (ss.map .str) (ss.map .str)
  | [] => by simp only [List.map_nil, DRs]
  | s :: ss => by
    simp only [List.map_cons, DRs]
    exact ⟨_, _, rfl, by simp only [DR], strs_drs ss⟩
theorem gc_strs {x : Str} {a : Addr} {o : Obj} {its : Array Value} {n : Nat} {ss : List Str} (h : mg x = some (.ref a)) (l : K.lookup a = some o) (hc : o.cls = .type "tuple") (hd : o.data = .seq its n) (hz : its.size ≤ sizeLine) (hv : Vals (ss.map V.str) its.toList) :
    ∃ u v, mg x = some u ∧ RelV v u ∧ ∀ H W, DR ⟨K, cls, P, w⟩ H W (.tup (ss.map .str)) v :=
  ⟨_, .ref a, h, rfl, fun H W => by
    simp only [DR]
    exact ⟨a, _, rfl, .inr ⟨o, its, n, l, hc, hd, hz, hv⟩, strs_drs ss⟩⟩
/-- a dict of the module, its keys texts -/
theorem kd_find {ks : List (Str × Tok × Value × D)} (hd : ∀ q ∈ ks, ∃ v, q.2.2.2.fv = some v ∧ RelV v q.2.2.1) (x : Str) : ∀ {es : List DictEntry}, es.map (fun d => (d.key, d.val)) = ks.map (fun q => (Value.str q.1 q.2.1, q.2.2.1)) →
    (es.any (·.refKey) = false) ∧ KdVal (ks.map fun q => (q.1, q.2.2.2)) x ((es.find? (·.key.isStr x)).map (·.val)) := by
  induction ks with
  | nil =>
    intro es he
    have : es = [] := by simpa using he
    subst this
    exact ⟨rfl, True.intro⟩
  | cons q ks ih =>
    intro es he
    cases es with
    | nil => simp at he
    | cons e es =>
      simp only [List.map_cons, List.cons.injEq, Prod.mk.injEq] at he
      obtain ⟨⟨h1, h2⟩, h3⟩ := he
      obtain ⟨i1, i2⟩ := ih (fun q hq => hd q (List.mem_cons_of_mem _ hq)) h3
      have hr : e.refKey = false := by
        unfold DictEntry.refKey
        rw [h1]
      refine ⟨by rw [List.any_cons, hr, i1]; rfl, ?_⟩
      have hs : e.key.isStr x = (q.1 == x) := by rw [h1]; rfl
      by_cases hx : q.1 = x
      · have e1 : (e :: es).find? (·.key.isStr x) = some e := by rw [List.find?_cons, hs]; simp [hx]
        have e2 : ((q :: ks).map fun q => (q.1, q.2.2.2)).lookup x = some q.2.2.2 := by
          rw [List.map_cons, List.lookup_cons]
          simp [hx]
        obtain ⟨v, v1, v2⟩ := hd q List.mem_cons_self
        rw [e1]
        unfold KdVal
        rw [e2]
        simp only [Option.map_some]
        exact ⟨v, v1, h2 ▸ v2⟩
      · have e1 : (e :: es).find? (·.key.isStr x) = es.find? (·.key.isStr x) := by
          rw [List.find?_cons, hs]
          have : (q.1 == x) = false := by simpa using hx
          rw [this]
        have e2 : ((q :: ks).map fun q => (q.1, q.2.2.2)).lookup x = (ks.map fun q => (q.1, q.2.2.2)).lookup x := by
          rw [List.map_cons, List.lookup_cons]
          have : (x == q.1) = false := by simpa using Ne.symm hx
          simp only [this]
        rw [e1]
        unfold KdVal at i2 ⊢
        rw [e2]
        exact i2
theorem gc_kdc {x : Str} {a : Addr} {es : Array DictEntry} {n : Nat} {ks : List (Str × Tok × Value × D)} (h : mg x = some (.ref a)) (l : K.lookup a = some ⟨.type "dict", none, .dict es n, #[]⟩) (hk : PySem.W.KeysLit w.params es.toList) (low : (a == sysModules) = false)
    (he : es.toList.map (fun d => (d.key, d.val)) = ks.map (fun q => (Value.str q.1 q.2.1, q.2.2.1))) (hd : ∀ q ∈ ks, ∃ v, q.2.2.2.fv = some v ∧ RelV v q.2.2.1) : ∃ u v, mg x = some u ∧ RelV v u ∧ ∀ H W, DR ⟨K, cls, P, w⟩ H W (.kdc (ks.map fun q => (q.1, q.2.2.2))) v :=
  ⟨_, .ref a, h, rfl, fun H W => by
    simp only [DR]
    refine ⟨a, rfl, es, n, l, hk, low, fun y => ?_⟩
    obtain ⟨h1, h2⟩ := kd_find hd y he
    refine ⟨(es.toList.find? (·.key.isStr y)).map (·.val), ?_, h2⟩
    unfold PySem.W.nsIn
    rw [l]
    simp only
    cases es.toList.find? (·.key.isStr y) with
    | some e => rfl
    | none => simp only [h1]; rfl⟩
end
end Mp


set_option Elab.async false
set_option linter.all false
set_option maxRecDepth 10000
/-! Equations by which the evaluator is reckoned. -/
namespace Mp
open PySem PySem.Spec PyProof.Rows L2
section
variable (h : Hs)
@[simp] theorem ho1_v (a : AV) : ho1 (.v a) h = .ok (.v a) h := rfl
@[simp] theorem ho1_b (i : Nat) (c : Cell) : ho1 (.b i c) h = .ok (.b i c) h := rfl
@[simp] theorem ho1_f (c : Cell) : ho1 (.f c) h = ok1 (c.frz.map .v) h := rfl
@[simp] theorem toV1_v (a : AV) : toV1 (.v a) h = .ok a h := rfl
@[simp] theorem toV1_f (c : Cell) : toV1 (.f c) h = ok1 c.frz h := rfl
@[simp] theorem vw_v (a : AV) : (RV.v a).vw h = a.vw h := rfl
@[simp] theorem vw_f (c : Cell) : (RV.f c).vw h = c.vw := rfl
@[simp] theorem vw_b (i : Nat) (c : Cell) : (RV.b i c).vw h = c.vw := rfl
@[simp] theorem vw_d (x : D) : (AV.d x).vw h = some x.vw := rfl
@[simp] theorem vw_r (n : Nat) : (AV.r n).vw h = (h[n]?).bind Cell.vw := rfl
@[simp] theorem vw_qt (xs : List AV) : (AV.q true xs).vw h = some (.tup xs) := rfl
@[simp] theorem vw_qf (xs : List AV) : (AV.q false xs).vw h = some (.lst xs) := rfl
@[simp] theorem cvw_lst (xs : List AV) : (Cell.lst xs).vw = some (.lst xs) := rfl
@[simp] theorem cvw_dic (xs : List (Key × AV)) : (Cell.dic xs).vw = some (.dic xs) := rfl
@[simp] theorem cvw_ins (c : Nat) (xs : List (Str × AV)) : (Cell.ins c xs).vw = some (.ins c xs) := rfl
@[simp] theorem dvw_non : D.non.vw = .non := rfl
@[simp] theorem dvw_bl (b : Bool) : (D.bl b).vw = .bl b := rfl
@[simp] theorem dvw_int (b : Int) : (D.int b).vw = .int b := rfl
@[simp] theorem dvw_str (b : Str) : (D.str b).vw = .str b := rfl
@[simp] theorem dvw_lst (b : List D) : (D.lst b).vw = .lst (b.map .d) := rfl
@[simp] theorem dvw_tup (b : List D) : (D.tup b).vw = .tup (b.map .d) := rfl
@[simp] theorem dvw_dic (b : List (Key × D)) : (D.dic b).vw = .dic (b.map fun p => (p.1, .d p.2)) := rfl
@[simp] theorem dvw_obj (c : Nat) (b : List (Str × D)) : (D.obj c b).vw = .ins c (b.map fun p => (p.1, .d p.2)) := rfl
@[simp] theorem dvw_scr (b : List Int) : (D.scr b).vw = .scr b := rfl
theorem binO_eq (o : Operator) (x y : RV) : binO h o x y = (x.vw h).bind fun v => (y.vw h).bind fun w => bop o v w := by
  unfold binO
  cases x.vw h <;> cases y.vw h <;> rfl
@[simp] theorem bop_addI (i j : Int) : bop .Add (.int i) (.int j) = some (di (i + j)) := rfl
@[simp] theorem bop_subI (i j : Int) : bop .Sub (.int i) (.int j) = some (di (i - j)) := rfl
@[simp] theorem bop_mulI (i j : Int) : bop .Mult (.int i) (.int j) = if (-(2 ^ 64) < i ∧ i < 2 ^ 64) ∨ (-(2 ^ 64) < j ∧ j < 2 ^ 64) then some (di (i * j)) else none := rfl
@[simp] theorem bop_divI (i j : Int) : bop .FloorDiv (.int i) (.int j) = if j ≠ 0 ∧ j.natAbs < 1073741824 then some (di (i.fdiv j)) else none := rfl
@[simp] theorem bop_modI (i j : Int) : bop .Mod (.int i) (.int j) = if j ≠ 0 then some (di (i.fmod j)) else none := rfl
@[simp] theorem bop_powI (i j : Int) : bop .Pow (.int i) (.int j) = if 0 ≤ j ∧ j ≤ 1000000 ∧ i.natAbs < 2 ^ 64 then some (di (i ^ j.toNat)) else none := rfl
@[simp] theorem bop_addS (x y : Str) : bop .Add (.str x) (.str y) = if x.length + y.length ≤ sizeLine then some (dS (x ++ y)) else none := rfl
@[simp] theorem bop_addL (x y : List AV) : bop .Add (.lst x) (.lst y) = if x.length + y.length ≤ sizeLine then some (.f (.lst (x ++ y))) else none := rfl
@[simp] theorem bop_addT (x y : List AV) : bop .Add (.tup x) (.tup y) = if x.length + y.length ≤ sizeLine then some (.v (mkTup (x ++ y))) else none := rfl
@[simp] theorem bop_mulT (x : List AV) (k : Int) : bop .Mult (.tup x) (.int k) = if x ≠ [] ∧ 2 ≤ k ∧ k ≤ 1000 ∧ x.length ≤ 1000 then some (.v (mkTup (List.replicate k.toNat x).flatten)) else none := rfl
@[simp] theorem cop_lt (a b : RV) : cop h .Lt a b = ltO (fun i j => decide (i < j)) a b := rfl
@[simp] theorem cop_le (a b : RV) : cop h .LtE a b = ltO (fun i j => decide (i ≤ j)) a b := rfl
@[simp] theorem cop_gt (a b : RV) : cop h .Gt a b = ltO (fun i j => decide (j < i)) a b := rfl
@[simp] theorem cop_ge (a b : RV) : cop h .GtE a b = ltO (fun i j => decide (j ≤ i)) a b := rfl
@[simp] theorem ltO_int (f : Int → Int → Bool) (i j : Int) : ltO f (.v (.d (.int i))) (.v (.d (.int j))) = some (f i j) := rfl
@[simp] theorem cop_eq (a b : RV) : cop h .Eq a b = eqO h a b := rfl
@[simp] theorem cop_ne (a b : RV) : cop h .NotEq a b = (eqO h a b).map (!·) := rfl
@[simp] theorem cop_is (a b : RV) : cop h .Is a b = if isNon b then some (isNon a) else none := rfl
@[simp] theorem cop_isnot (a b : RV) : cop h .IsNot a b = if isNon b then some (!isNon a) else none := rfl
@[simp] theorem cop_in (a b : RV) : cop h .In a b = inO h a b := rfl
@[simp] theorem cop_notin (a b : RV) : cop h .NotIn a b = (inO h a b).map (!·) := rfl
@[simp] theorem isNon_non : isNon (.v (.d .non)) = true := rfl
@[simp] theorem isNon_bl (b : Bool) : isNon (.v (.d (.bl b))) = false := rfl
@[simp] theorem isNon_int (b : Int) : isNon (.v (.d (.int b))) = false := rfl
@[simp] theorem isNon_str (b : Str) : isNon (.v (.d (.str b))) = false := rfl
@[simp] theorem isNon_tup (b : List D) : isNon (.v (.d (.tup b))) = false := rfl
@[simp] theorem eqO_int (i j : Int) : eqO h (.v (.d (.int i))) (.v (.d (.int j))) = some (i == j) := by
  simp [eqO, RV.res, D.py, SeqAt.shaped, PyData.canLay0, PyData.depth, PyData.eqv]
@[simp] theorem eqO_bl (i j : Bool) : eqO h (.v (.d (.bl i))) (.v (.d (.bl j))) = some (i == j) := by
  simp [eqO, RV.res, D.py, SeqAt.shaped, PyData.canLay0, PyData.depth, PyData.eqv]
@[simp] theorem subO_eq (x y : RV) : subO h x y = (x.vw h).bind fun v => ixV v y := rfl
@[simp] theorem ixV_lst (xs : List AV) (j : Int) : ixV (.lst xs) (.v (.d (.int j))) = (atI xs j).map .v := rfl
@[simp] theorem ixV_tup (xs : List AV) (j : Int) : ixV (.tup xs) (.v (.d (.int j))) = (atI xs j).map .v := rfl
@[simp] theorem ixV_scr (xs : List Int) (j : Int) : ixV (.scr xs) (.v (.d (.int j))) = (atI xs j).map fun j => di j := by
  show ((atI xs j).map fun j => AV.d (D.int j)).map RV.v = _
  rw [Option.map_map]
  rfl
@[simp] theorem ixV_str (x : Str) (j : Int) : ixV (.str x) (.v (.d (.int j))) = (if x.length ≤ sizeLine then (atI x.cps.toList j).map fun c => AV.d (.str ⟨#[c]⟩) else none).map .v := rfl
@[simp] theorem ixV_dic (xs : List (Key × AV)) (y : RV) : ixV (.dic xs) y = (y.key.bind fun k => valA xs k).map .v := rfl
@[simp] theorem ixV_kdc (xs : List (Str × D)) (y : Str) : ixV (.kdc xs) (.v (.d (.str y))) = (xs.lookup y).map fun d => .v (.d d) := rfl
@[simp] theorem dvw_kdc (b : List (Str × D)) : (D.kdc b).vw = .kdc b := rfl
@[simp] theorem cvw_set (b : List Key) : (Cell.set b).vw = some (.set b) := rfl
@[simp] theorem key_int (i : Int) : D.key (.int i) = some (.inl i) := rfl
@[simp] theorem key_str (i : Str) : D.key (.str i) = some (.inr i) := rfl
@[simp] theorem akey_d (i : D) : AV.key (.d i) = i.key := rfl
@[simp] theorem rkey_v (i : AV) : RV.key (.v i) = i.key := rfl
@[simp] theorem ixO_lst (xs : List AV) (j : Int) : ixO (.lst xs) j = atI xs j := rfl
@[simp] theorem ixO_tup (xs : List AV) (j : Int) : ixO (.tup xs) j = atI xs j := rfl
@[simp] theorem ixO_scr (xs : List Int) (j : Int) : ixO (.scr xs) j = (atI xs j).map fun j => .d (.int j) := rfl
@[simp] theorem ixO_str (x : Str) (j : Int) : ixO (.str x) j = if x.length ≤ sizeLine then (atI x.cps.toList j).map fun c => .d (.str ⟨#[c]⟩) else none := rfl
theorem atI_pos {α : Type} {xs : List α} {j : Int} (h0 : 0 ≤ j) (h1 : j < xs.length) : atI xs j = xs[j.toNat]? := by
  simp [atI, ixN, h0, h1]
@[simp] theorem atI_0 {α : Type} (x : α) (xs : List α) : atI (x :: xs) 0 = some x := by rw [atI_pos (by omega) (by simp)]; rfl
@[simp] theorem atI_1 {α : Type} (x y : α) (xs : List α) : atI (x :: y :: xs) 1 = some y := by rw [atI_pos (by omega) (by simp; omega)]; rfl
@[simp] theorem ixN_0 {n : Nat} (h : 0 < n) : ixN n 0 = some 0 := by simp [ixN, h]
@[simp] theorem ixN_1 {n : Nat} (h : 1 < n) : ixN n 1 = some 1 := by simp [ixN]; omega
@[simp] theorem slO_lst (xs : List AV) (lo hi : Option Int) : slO (.lst xs) lo hi = some (.f (.lst (cutA xs lo hi))) := rfl
@[simp] theorem slO_tup (xs : List AV) (lo hi : Option Int) : slO (.tup xs) lo hi = some (.v (mkTup (cutA xs lo hi))) := rfl
@[simp] theorem slO_str (x : Str) (lo hi : Option Int) : slO (.str x) lo hi = if x.length ≤ sizeLine then some (dS (cutS x lo hi)) else none := rfl
@[simp] theorem truO_bl (b : Bool) : truO (.bl b) = some b := rfl
@[simp] theorem truO_int (b : Int) : truO (.int b) = some (b != 0) := rfl
@[simp] theorem truO_str (x : Str) : truO (.str x) = if x.length ≤ sizeLine then some ((x.length : Int) != 0) else none := rfl
@[simp] theorem truO_lst (x : List AV) : truO (.lst x) = some (!x.isEmpty) := rfl
@[simp] theorem truO_tup (x : List AV) : truO (.tup x) = some (!x.isEmpty) := rfl
@[simp] theorem truO_dic (x : List (Key × AV)) : truO (.dic x) = some (!x.isEmpty) := rfl
@[simp] theorem truO_non : truO .non = some false := rfl
@[simp] theorem asB_bl (b : Bool) : asB (.v (.d (.bl b))) h = .ok b h := rfl
@[simp] theorem blt_max (i j : Int) : bltO h .max2 [.v (.d (.int i)), .v (.d (.int j))] = some (di (if j > i then j else i)) := rfl
@[simp] theorem blt_min (i j : Int) : bltO h .min2 [.v (.d (.int i)), .v (.d (.int j))] = some (di (if j < i then j else i)) := rfl
@[simp] theorem blt_abs (i : Int) : bltO h .abs [.v (.d (.int i))] = some (di (if i < 0 then -i else i)) := rfl
@[simp] theorem blt_len (x : RV) : bltO h .len [x] = ((x.vw h).bind lenO).map fun (n : Nat) => di (n : Int) := rfl
@[simp] theorem lenO_str (x : Str) : lenO (.str x) = if x.length ≤ sizeLine then some x.length else none := rfl
@[simp] theorem lenO_lst (x : List AV) : lenO (.lst x) = some x.length := rfl
@[simp] theorem lenO_tup (x : List AV) : lenO (.tup x) = some x.length := rfl
@[simp] theorem lenO_dic (x : List (Key × AV)) : lenO (.dic x) = some x.length := rfl
@[simp] theorem lenO_scr (x : List Int) : lenO (.scr x) = some x.length := rfl
@[simp] theorem blt_int_bl (b : Bool) : bltO h .int [.v (.d (.bl b))] = some (di (if b then 1 else 0)) := rfl
@[simp] theorem blt_int_int (b : Int) : bltO h .int [.v (.d (.int b))] = some (di b) := rfl
@[simp] theorem blt_str (b : Int) : bltO h .str [.v (.d (.int b))] = if b.natAbs.log2 < 1920 then some (dS (toString b)) else none := rfl
@[simp] theorem blt_all_f (xs : List AV) : bltO h .all [.f (.lst xs)] = (AV.bls xs).map fun bs => db (bs.all id) := rfl
@[simp] theorem blt_any_f (xs : List AV) : bltO h .any [.f (.lst xs)] = (AV.bls xs).map fun bs => db (bs.any id) := rfl
@[simp] theorem blt_all_d (xs : List D) : bltO h .all [.v (.d (.lst xs))] = (AV.bls (xs.map .d)).map fun bs => db (bs.all id) := rfl
@[simp] theorem blt_any_d (xs : List D) : bltO h .any [.v (.d (.lst xs))] = (AV.bls (xs.map .d)).map fun bs => db (bs.any id) := rfl
@[simp] theorem blt_list_str (x : Str) : bltO h .list [.v (.d (.str x))] = if x.length ≤ sizeLine then some (.f (.lst (x.cps.toList.map fun c => .d (.str ⟨#[c]⟩)))) else none := rfl
@[simp] theorem blt_list_lst (x : List D) : bltO h .list [.v (.d (.lst x))] = some (.f (.lst (x.map .d))) := rfl
@[simp] theorem blt_tuple_lst (x : List D) : bltO h .tuple [.v (.d (.lst x))] = some (.v (mkTup (x.map .d))) := rfl
@[simp] theorem blt_tuple_b (i : Nat) (x : List AV) : bltO h .tuple [.b i (.lst x)] = some (.v (mkTup x)) := rfl
@[simp] theorem toDs_map : ∀ xs : List D, AV.toDs (xs.map .d) = some xs
  | [] => rfl
  | x :: xs => by simp [AV.toDs, AV.toD, toDs_map xs]
@[simp] theorem toDk_map {κ : Type} : ∀ xs : List (κ × D), AV.toDk (xs.map fun p => (p.1, .d p.2)) = some xs
  | [] => rfl
  | (k, x) :: xs => by simp [AV.toDk, AV.toD, toDk_map xs]
@[simp] theorem toDs_nil : AV.toDs [] = some [] := rfl
theorem toDs_cons_d (x : D) (xs : List AV) : AV.toDs (.d x :: xs) = (AV.toDs xs).map (x :: ·) := by
  simp [AV.toDs, AV.toD]
  cases AV.toDs xs <;> rfl
@[simp] theorem frz_lst (xs : List D) : (Cell.lst (xs.map .d)).frz = some (.d (.lst xs)) := by simp [Cell.frz]
@[simp] theorem frz_dic (xs : List (Key × D)) : (Cell.dic (xs.map fun p => (p.1, .d p.2))).frz = some (.d (.dic xs)) := by simp [Cell.frz]
@[simp] theorem frz_dic0 : (Cell.dic []).frz = some (.d (.dic [])) := rfl
theorem frz_of {xs : List AV} {ys : List D} (e : AV.toDs xs = some ys) : (Cell.lst xs).frz = some (.d (.lst ys)) := by simp [Cell.frz, e]
theorem mkTup_of {xs : List AV} {ys : List D} (e : AV.toDs xs = some ys) : mkTup xs = .d (.tup ys) := by simp [mkTup, e]
@[simp] theorem mkTup_map (xs : List D) : mkTup (xs.map .d) = .d (.tup xs) := mkTup_of (toDs_map xs)
@[simp] theorem evG_nm (i : Nat) (x : AV) (S : List SV) : evG h (.nm i) x S = some (S.set i (.v x)) := by simp only [evG]
theorem evG_tp (ts : List MT) (x : AV) (xs : List AV) (S : List SV) (e : x.vw h = some (.tup xs)) : evG h (.tp ts) x S = evGs h ts xs S := by simp only [evG, e]
@[simp] theorem evGs_nil (S : List SV) : evGs h [] [] S = some S := by simp only [evGs]
@[simp] theorem evGs_cons (t : MT) (ts : List MT) (x : AV) (xs : List AV) (S : List SV) : evGs h (t :: ts) (x :: xs) S = (evG h t x S).bind (evGs h ts xs) := by simp only [evGs]
@[simp] theorem setO_r (S : List SV) (n : Nat) (z : RV) (x : AV) : setO S h (.v (.r n)) z x = (match (h[n]?).bind fun c => setC c z x with | some c => .nx S (h.set n c) | none => .bad) := rfl
@[simp] theorem setO_b (S : List SV) (j : Nat) (d : Cell) (z : RV) (x : AV) : setO S h (.b j d) z x = (match S[j]? with | some (.own c) => (match setC c z x with | some c => .nx (S.set j (.own c)) h | none => .bad) | _ => .bad) := rfl
@[simp] theorem setC_lst (xs : List AV) (j : Int) (x : AV) : setC (.lst xs) (.v (.d (.int j))) x = (ixN xs.length j).map fun k => .lst (xs.set k x) := rfl
@[simp] theorem setC_dic (xs : List (Key × AV)) (z : RV) (x : AV) : setC (.dic xs) z x = if xs.length < sizeLine then z.key.map fun k => .dic (putA xs k x) else none := rfl
@[simp] theorem itO_lst (xs : List D) : itO h (.v (.d (.lst xs))) = some (xs.map .d, .fz) := rfl
@[simp] theorem itO_tup (xs : List D) : itO h (.v (.d (.tup xs))) = some (xs.map .d, .fz) := rfl
@[simp] theorem itO_str (x : Str) : itO h (.v (.d (.str x))) = some (x.cps.toList.map fun c => .d (.str ⟨#[c]⟩), .fz) := rfl
@[simp] theorem itO_q (b : Bool) (xs : List AV) : itO h (.v (.q b xs)) = some (xs, .fz) := rfl
@[simp] theorem itO_f (xs : List AV) : itO h (.f (.lst xs)) = some (xs, .fz) := rfl
theorem rngO_1 (j : Int) : rngO [.d (.int j)] = if -(2 ^ 62) ≤ j ∧ j < 2 ^ 62 then some ((List.range j.toNat).map fun (i : Nat) => .d (.int i), .fz) else none := by simp [rngO]
@[simp] theorem mth_join (x : RV) (as : List AV) : mthO h .join x as = (x.vw h).bind fun w => (vMth h .join w as).map fun r => (r, h) := rfl
@[simp] theorem mth_split (x : RV) (as : List AV) : mthO h .split x as = (x.vw h).bind fun w => (vMth h .split w as).map fun r => (r, h) := rfl
@[simp] theorem mth_partition (x : RV) (as : List AV) : mthO h .partition x as = (x.vw h).bind fun w => (vMth h .partition w as).map fun r => (r, h) := rfl
@[simp] theorem mth_startswith (x : RV) (as : List AV) : mthO h .startswith x as = (x.vw h).bind fun w => (vMth h .startswith w as).map fun r => (r, h) := rfl
@[simp] theorem mth_dget (x : RV) (as : List AV) : mthO h .dget x as = (x.vw h).bind fun w => (vMth h .dget w as).map fun r => (r, h) := rfl
@[simp] theorem mth_dget2 (x : RV) (as : List AV) : mthO h .dget2 x as = (x.vw h).bind fun w => (vMth h .dget2 w as).map fun r => (r, h) := rfl
@[simp] theorem mth_append (n : Nat) (as : List AV) : mthO h .append (.v (.r n)) as = (h[n]?).bind fun c => (cMth h .append c as).map fun p => (.v p.1, h.set n p.2) := rfl
@[simp] theorem mth_extend (n : Nat) (as : List AV) : mthO h .extend (.v (.r n)) as = (h[n]?).bind fun c => (cMth h .extend c as).map fun p => (.v p.1, h.set n p.2) := rfl
@[simp] theorem mth_lpop (n : Nat) (as : List AV) : mthO h .lpop (.v (.r n)) as = (h[n]?).bind fun c => (cMth h .lpop c as).map fun p => (.v p.1, h.set n p.2) := rfl
@[simp] theorem mth_dpop (n : Nat) (as : List AV) : mthO h .dpop (.v (.r n)) as = (h[n]?).bind fun c => (cMth h .dpop c as).map fun p => (.v p.1, h.set n p.2) := rfl
@[simp] theorem mth_dsetd (n : Nat) (as : List AV) : mthO h .dsetd (.v (.r n)) as = (h[n]?).bind fun c => (cMth h .dsetd c as).map fun p => (.v p.1, h.set n p.2) := rfl
@[simp] theorem mth_sadd (n : Nat) (as : List AV) : mthO h .sadd (.v (.r n)) as = (h[n]?).bind fun c => (cMth h .sadd c as).map fun p => (.v p.1, h.set n p.2) := rfl
@[simp] theorem vm_join (s : Str) (x : AV) : vMth h .join (.str s) [x] = (match x.vw h with | some (.lst xs) => (AV.strs xs).bind fun (ys : List Str) => if (ys.map fun (z : Str) => z.length).sum + ys.length * s.length ≤ 16777216 then some (dS (Txt.join s ys)) else none | _ => none) := rfl
@[simp] theorem vm_split (a b : Str) : vMth h .split (.str a) [.d (.str b)] = if (b.length == 0) = false ∧ a.length + 2 ≤ sizeLine then some (.f (.lst ((Txt.split a b).map fun z => .d (.str z)))) else none := rfl
@[simp] theorem vm_partition (a b : Str) : vMth h .partition (.str a) [.d (.str b)] = if (b.length == 0) = false ∧ a.length ≤ sizeLine then some (.v (mkTup [.d (.str (Txt.partition a b).1), .d (.str (Txt.partition a b).2.1), .d (.str (Txt.partition a b).2.2)])) else none := rfl
@[simp] theorem vm_startswith (a b : Str) : vMth h .startswith (.str a) [.d (.str b)] = some (db (Txt.startswith a b)) := rfl
@[simp] theorem vm_dget (kvs : List (Key × AV)) (k : AV) : vMth h .dget (.dic kvs) [k] = k.key.map fun k => .v ((valA kvs k).getD (.d .non)) := rfl
@[simp] theorem vm_dget2 (kvs : List (Key × AV)) (k d : AV) : vMth h .dget2 (.dic kvs) [k, d] = k.key.map fun k => .v ((valA kvs k).getD d) := rfl
@[simp] theorem cm_append (xs : List AV) (y : AV) : cMth h .append (.lst xs) [y] = if xs.length < sizeLine then some (.d .non, .lst (xs ++ [y])) else none := rfl
@[simp] theorem cm_lpop (xs : List AV) : cMth h .lpop (.lst xs) [] = (xs[xs.length - 1]?).map fun y => (y, .lst xs.dropLast) := rfl
@[simp] theorem cm_extend (xs : List AV) (y : AV) : cMth h .extend (.lst xs) [y] = (match y.vw h with | some (.lst ys) => if xs.length + ys.length ≤ sizeLine then some (.d .non, .lst (xs ++ ys)) else none | _ => none) := rfl
@[simp] theorem cm_dpop (kvs : List (Key × AV)) (k : AV) : cMth h .dpop (.dic kvs) [k] = k.key.bind fun k => (valA kvs k).map fun v => (v, .dic (dropA kvs k)) := rfl
@[simp] theorem cm_sadd (ks : List Key) (k : AV) : cMth h .sadd (.set ks) [k] = if ks.length + 1 < scanBound then k.key.map fun k => (.d .non, .set (if (ks.any fun j => decide (j = k)) = true then ks else ks ++ [k])) else none := rfl
@[simp] theorem cm_dsetd (kvs : List (Key × AV)) (k d : AV) : cMth h .dsetd (.dic kvs) [k, d] = if kvs.length < sizeLine then k.key.map fun k => match valA kvs k with | some v => (v, .dic kvs) | none => (d, .dic (putA kvs k d)) else none := rfl
@[simp] theorem inO_dic (a b : RV) (kvs : List (Key × AV)) (e : b.vw h = some (.dic kvs)) : inO h a b = a.key.map fun k => (valA kvs k).isSome := by simp [inO, e]
theorem rcv_eq (m : Mth) (x : RV) : rcvOk h m x = ((x.vw h).map (vwOk m.ty)).getD false := by
  unfold rcvOk
  cases x.vw h <;> rfl
@[simp] theorem rcv_join (x : RV) : rcvOk h .join x = ((x.vw h).map (vwOk "str")).getD false := rcv_eq h .join x
@[simp] theorem rcv_split (x : RV) : rcvOk h .split x = ((x.vw h).map (vwOk "str")).getD false := rcv_eq h .split x
@[simp] theorem rcv_partition (x : RV) : rcvOk h .partition x = ((x.vw h).map (vwOk "str")).getD false := rcv_eq h .partition x
@[simp] theorem rcv_startswith (x : RV) : rcvOk h .startswith x = ((x.vw h).map (vwOk "str")).getD false := rcv_eq h .startswith x
@[simp] theorem rcv_replace (x : RV) : rcvOk h .replace x = ((x.vw h).map (vwOk "str")).getD false := rcv_eq h .replace x
@[simp] theorem rcv_find (x : RV) : rcvOk h .find x = ((x.vw h).map (vwOk "str")).getD false := rcv_eq h .find x
@[simp] theorem rcv_append (x : RV) : rcvOk h .append x = ((x.vw h).map (vwOk "list")).getD false := rcv_eq h .append x
@[simp] theorem rcv_extend (x : RV) : rcvOk h .extend x = ((x.vw h).map (vwOk "list")).getD false := rcv_eq h .extend x
@[simp] theorem rcv_lpop (x : RV) : rcvOk h .lpop x = ((x.vw h).map (vwOk "list")).getD false := rcv_eq h .lpop x
@[simp] theorem rcv_lpopAt (x : RV) : rcvOk h .lpopAt x = ((x.vw h).map (vwOk "list")).getD false := rcv_eq h .lpopAt x
@[simp] theorem rcv_lreverse (x : RV) : rcvOk h .lreverse x = ((x.vw h).map (vwOk "list")).getD false := rcv_eq h .lreverse x
@[simp] theorem rcv_lclear (x : RV) : rcvOk h .lclear x = ((x.vw h).map (vwOk "list")).getD false := rcv_eq h .lclear x
@[simp] theorem rcv_linsert (x : RV) : rcvOk h .linsert x = ((x.vw h).map (vwOk "list")).getD false := rcv_eq h .linsert x
@[simp] theorem rcv_lindex (x : RV) : rcvOk h .lindex x = ((x.vw h).map (vwOk "list")).getD false := rcv_eq h .lindex x
@[simp] theorem rcv_dget (x : RV) : rcvOk h .dget x = ((x.vw h).map (vwOk "dict")).getD false := rcv_eq h .dget x
@[simp] theorem rcv_dget2 (x : RV) : rcvOk h .dget2 x = ((x.vw h).map (vwOk "dict")).getD false := rcv_eq h .dget2 x
@[simp] theorem rcv_dpop (x : RV) : rcvOk h .dpop x = ((x.vw h).map (vwOk "dict")).getD false := rcv_eq h .dpop x
@[simp] theorem rcv_dpop2 (x : RV) : rcvOk h .dpop2 x = ((x.vw h).map (vwOk "dict")).getD false := rcv_eq h .dpop2 x
@[simp] theorem rcv_dsetd (x : RV) : rcvOk h .dsetd x = ((x.vw h).map (vwOk "dict")).getD false := rcv_eq h .dsetd x
@[simp] theorem rcv_dclear (x : RV) : rcvOk h .dclear x = ((x.vw h).map (vwOk "dict")).getD false := rcv_eq h .dclear x
@[simp] theorem rcv_sadd (x : RV) : rcvOk h .sadd x = ((x.vw h).map (vwOk "set")).getD false := rcv_eq h .sadd x
@[simp] theorem vwOk_str (x : Str) : vwOk "str" (.str x) = true := id rfl
@[simp] theorem vwOk_lst (x : List AV) : vwOk "list" (.lst x) = true := id rfl
@[simp] theorem vwOk_dic (x : List (Key × AV)) : vwOk "dict" (.dic x) = true := id rfl
@[simp] theorem vwOk_set (x : List Key) : vwOk "set" (.set x) = true := id rfl
@[simp] theorem mty_join : Mth.ty .join = "str" := id rfl
@[simp] theorem mlk_join : Mth.look .join = true := id rfl
@[simp] theorem mty_split : Mth.ty .split = "str" := id rfl
@[simp] theorem mlk_split : Mth.look .split = true := id rfl
@[simp] theorem mty_partition : Mth.ty .partition = "str" := id rfl
@[simp] theorem mlk_partition : Mth.look .partition = true := id rfl
@[simp] theorem mty_startswith : Mth.ty .startswith = "str" := id rfl
@[simp] theorem mlk_startswith : Mth.look .startswith = true := id rfl
@[simp] theorem mty_replace : Mth.ty .replace = "str" := id rfl
@[simp] theorem mlk_replace : Mth.look .replace = true := id rfl
@[simp] theorem mty_find : Mth.ty .find = "str" := id rfl
@[simp] theorem mlk_find : Mth.look .find = true := id rfl
@[simp] theorem mty_append : Mth.ty .append = "list" := id rfl
@[simp] theorem mlk_append : Mth.look .append = false := id rfl
@[simp] theorem mty_extend : Mth.ty .extend = "list" := id rfl
@[simp] theorem mlk_extend : Mth.look .extend = false := id rfl
@[simp] theorem mty_lpop : Mth.ty .lpop = "list" := id rfl
@[simp] theorem mlk_lpop : Mth.look .lpop = false := id rfl
@[simp] theorem mty_lpopAt : Mth.ty .lpopAt = "list" := id rfl
@[simp] theorem mlk_lpopAt : Mth.look .lpopAt = false := id rfl
@[simp] theorem mty_lreverse : Mth.ty .lreverse = "list" := id rfl
@[simp] theorem mlk_lreverse : Mth.look .lreverse = false := id rfl
@[simp] theorem mty_lclear : Mth.ty .lclear = "list" := id rfl
@[simp] theorem mlk_lclear : Mth.look .lclear = false := id rfl
@[simp] theorem mty_linsert : Mth.ty .linsert = "list" := id rfl
@[simp] theorem mlk_linsert : Mth.look .linsert = false := id rfl
@[simp] theorem mty_lindex : Mth.ty .lindex = "list" := id rfl
@[simp] theorem mlk_lindex : Mth.look .lindex = true := id rfl
@[simp] theorem mty_dget : Mth.ty .dget = "dict" := id rfl
@[simp] theorem mlk_dget : Mth.look .dget = true := id rfl
@[simp] theorem mty_dget2 : Mth.ty .dget2 = "dict" := id rfl
@[simp] theorem mlk_dget2 : Mth.look .dget2 = true := id rfl
@[simp] theorem mty_dpop : Mth.ty .dpop = "dict" := id rfl
@[simp] theorem mlk_dpop : Mth.look .dpop = false := id rfl
@[simp] theorem mty_dpop2 : Mth.ty .dpop2 = "dict" := id rfl
@[simp] theorem mlk_dpop2 : Mth.look .dpop2 = false := id rfl
@[simp] theorem mty_dsetd : Mth.ty .dsetd = "dict" := id rfl
@[simp] theorem mlk_dsetd : Mth.look .dsetd = false := id rfl
@[simp] theorem mty_dclear : Mth.ty .dclear = "dict" := id rfl
@[simp] theorem mlk_dclear : Mth.look .dclear = false := id rfl
@[simp] theorem mty_sadd : Mth.ty .sadd = "set" := id rfl
@[simp] theorem mlk_sadd : Mth.look .sadd = false := id rfl
@[simp] theorem srcOk_fz : SrcOk h .fz = True := rfl
end
/-! ### loops -/
section
variable {elt : List SV → Hs → Res AV} {cs : List SV → Hs → Res Bool} {tg : MT} {S : List SV}
/-- a comprehension over things that stand still, in a state -/
theorem lc_st {i : Nat} (P : Hs → Prop) (Q : AV → Prop) : ∀ (xs : List AV)
    (step : ∀ x ∈ xs, ∀ h, P h → ∃ y h', cs (S.set i (.v x)) h = .ok true h ∧ elt (S.set i (.v x)) h = .ok y h' ∧ Q y ∧ P h') (acc : List AV) (h : Hs) (hP : P h) (hl : acc.length + xs.length ≤ sizeLine),
    ∃ ys h', lcGo elt cs (.nm i) .fz S xs acc h = .ok (.f (.lst (acc ++ ys))) h' ∧ ys.length = xs.length ∧ (∀ y ∈ ys, Q y) ∧ P h'
  | [], _, acc, h, hP, _ => ⟨[], h, by simp [lcGo], rfl, by simp, hP⟩
  | x :: xs, step, acc, h, hP, hl => by
    obtain ⟨y, h1, e1, e2, q, p⟩ := step x (.head _) h hP
    obtain ⟨ys, h', e, l, q', p'⟩ := lc_st P Q xs (fun x m => step x (.tail _ m)) (acc ++ [y]) h1 p (by simp at hl ⊢; omega)
    refine ⟨y :: ys, h', ?_, by simp [l], by simp [q]; exact q', p'⟩
    have : acc.length < sizeLine := by simp at hl; omega
    simp [lcGo, e1, e2, Res.noX, Res.bind, this, e]
theorem for_st {body : List SV → Hs → SRes} {i : Nat} (P : List SV → Hs → Prop) : ∀ (xs : List AV)
    (step : ∀ x ∈ xs, ∀ S h, P S h → ∃ S' h', body (S.set i (.v x)) h = .nx S' h' ∧ P S' h') (S : List SV) (h : Hs) (hP : P S h),
    ∃ S' h', forGo body (.nm i) .fz xs S h = .nx S' h' ∧ P S' h'
  | [], _, S, h, hP => ⟨S, h, by simp [forGo], hP⟩
  | x :: xs, step, S, h, hP => by
    obtain ⟨S1, h1, e1, p⟩ := step x (.head _) S h hP
    obtain ⟨S', h', e, p'⟩ := for_st P xs (fun x m => step x (.tail _ m)) S1 h1 p
    exact ⟨S', h', by simp [forGo, e1, e], p'⟩
end
end Mp


set_option Elab.async false
set_option linter.all false
set_option maxRecDepth 100000
namespace K
open PySem PySem.Spec PyProof.Rows L2 Mp
/-! ### constants of the module, by their numbers -/
def gcv : Nat → Mp.D
  | 0 => .int 1000000000
  | 1 => .int 8
  | 2 => .kdc [("+", .int 1), ("-", .int (-1))]
  | 3 => .int 4
  | 4 => .tup [.str "show", .str "drop", .str "if"]
  | 5 => .str "abcdefghijklmnopqrstuvwxyz"
  | 6 => .int 6
  | _ => .non
@[simp] theorem gcv_0 : gcv 0 = .int 1000000000 := rfl
@[simp] theorem gcv_1 : gcv 1 = .int 8 := rfl
@[simp] theorem gcv_2 : gcv 2 = .kdc [("+", .int 1), ("-", .int (-1))] := rfl
@[simp] theorem gcv_3 : gcv 3 = .int 4 := rfl
@[simp] theorem gcv_4 : gcv 4 = .tup [.str "show", .str "drop", .str "if"] := rfl
@[simp] theorem gcv_5 : gcv 5 = .str "abcdefghijklmnopqrstuvwxyz" := rfl
@[simp] theorem gcv_6 : gcv 6 = .int 6 := rfl
/-! ### defs: the statements, the worth -/
def f_l_bag_b : List MS := [.asg (.nm 2) (.cst (.int 0)), .ife (.cmp .Lt (.var 1) (.blt .len [.var 0])) [.asg (.nm 2) (.sub (.var 0) (.var 1))] [], .asg (.nm 3) (.cst (.int 0)), .ife (.cmp .GtE (.blt .abs [.var 2]) (.bin .Pow (.cst (.int 10)) (.cst (.int 18)))) [.asg (.nm 3) (.blt .abs [.var 2])] [], .asg (.nm 4) (.lst [.cst (.int 2147483647), .cst (.int 2147483629), .cst (.int 2147483587), .cst (.int 2147483579), .cst (.int 2147483563), .cst (.int 2147483549), .cst (.int 2147483543), .cst (.int 2147483497)]), .asg (.nm 5) (.bin .Add (.bin .Add (.bin .Add (.bin .Mult (.bin .Mod (.var 2) (.cst (.int 2147483647))) (.cst (.int 48611))) (.bin .Mult (.bin .Mult (.cst (.int 90007)) (.var 1)) (.var 1))) (.bin .Mult (.cst (.int 6133)) (.var 1))) (.cst (.int 4099))), .ret (.lst [.var 3, .bin .Mod (.var 5) (.sub (.var 4) (.bin .Mod (.var 1) (.cst (.int 8))))])]
noncomputable def f_l_bag_E : Fn := mkF gcv [] [] []
/-- _law_bag: 0 _law_script, 1 _law_at, 2 _law_cell, 3 _law_great, 4 _law_primes, 5 _law_mixed -/
noncomputable def f_l_bag : Worth := run f_l_bag_E 6 f_l_bag_b
def f_l_take_b : List MS := [.ife (.cmp .Gt (.sub (.var 0) (.cst (.int 0))) (.cst (.int 0))) [.asg (.nm 2) (.bin .Mod (.sub (.var 0) (.cst (.int 0))) (.var 1)), .asI (.var 0) (.cst (.int 0)) (.bin .FloorDiv (.sub (.var 0) (.cst (.int 0))) (.var 1)), .ret (.var 2)] [], .asI (.var 0) (.cst (.int 1)) (.bin .Mod (.bin .Add (.bin .Mult (.sub (.var 0) (.cst (.int 1))) (.cst (.int 69621))) (.cst (.int 1299709))) (.cst (.int 2147483647))), .ret (.bin .Mod (.bin .FloorDiv (.bin .Mod (.bin .Pow (.sub (.var 0) (.cst (.int 1))) (.cst (.int 3))) (.cst (.int 2147483629))) (.cst (.int 32))) (.var 1))]
noncomputable def f_l_take_E : Fn := mkF gcv [] [] []
/-- _law_take: 0 _law_bag_here, 1 _law_many, 2 _law_digit -/
noncomputable def f_l_take : Worth := run f_l_take_E 3 f_l_take_b
def f_l_any_name_e0 : ME := .sub (.var 1) (.cal 1 [.var 0, .cst (.int 26)])
def f_l_any_name_b : List MS := [.asg (.nm 1) (.cst (.str "abcdefghijklmnopqrstuvwxyz")), .asg (.nm 2) (.met .join (.cst (.str "")) [.lcm f_l_any_name_e0 (.nm 3) (.rng [.bin .Add (.cst (.int 1)) (.cal 1 [.var 0, .cst (.int 4)])]) none [3]]), .ret (.ite (.cmp .In (.var 2) (.lst [.cst (.str "show"), .cst (.str "drop"), .cst (.str "if")])) (.cst (.str "zz")) (.var 2))]
noncomputable def f_l_any_name_E : Fn := mkF gcv [(1, f_l_take)] [] []
/-- _law_any_name: 0 _law_bag_here, 1 _law_letters, 2 _law_found, 3 _law_turn -/
noncomputable def f_l_any_name : Worth := run f_l_any_name_E 4 f_l_any_name_b
@[simp] theorem f_l_any_name_E_1 : f_l_any_name_E.fn 1 = f_l_take := rfl
def f_l_names_b : List MS := [.ret (.lst [.cst (.str "a"), .cst (.str "b"), .cst (.str "c"), .cst (.str "xy")])]
noncomputable def f_l_names_E : Fn := mkF gcv [] [] []
/-- _law_names:  -/
noncomputable def f_l_names : Worth := run f_l_names_E 0 f_l_names_b
def f_l_wide_atom_b : List MS := [.asg (.nm 1) (.cal 1 [.var 0, .cst (.int 4)]), .ife (.cmp .Eq (.var 1) (.cst (.int 0))) [.ret (.cal 2 [.var 0])] [], .ret (.ite (.cmp .Eq (.var 1) (.cst (.int 1))) (.sub (.cal 3 []) (.cal 1 [.var 0, .cst (.int 4)])) (.sub (.lst [.cal 1 [.var 0, .cst (.int 1000)], .cal 1 [.var 0, .cst (.int 12)]]) (.bin .Sub (.var 1) (.cst (.int 2)))))]
noncomputable def f_l_wide_atom_E : Fn := mkF gcv [(1, f_l_take), (2, f_l_any_name), (3, f_l_names)] [] []
/-- _law_wide_atom: 0 _law_bag_here, 1 _law_kind -/
noncomputable def f_l_wide_atom : Worth := run f_l_wide_atom_E 2 f_l_wide_atom_b
@[simp] theorem f_l_wide_atom_E_1 : f_l_wide_atom_E.fn 1 = f_l_take := rfl
@[simp] theorem f_l_wide_atom_E_2 : f_l_wide_atom_E.fn 2 = f_l_any_name := rfl
@[simp] theorem f_l_wide_atom_E_3 : f_l_wide_atom_E.fn 3 = f_l_names := rfl
def f_l_wide_sum_e0 : ME := .tup [.sub (.lst [.cst (.str "*"), .cst (.str "//")]) (.cal 1 [.var 0, .cst (.int 2)]), .cal 4 [.var 0]]
def f_l_wide_sum_p1 : List MS := [.asg (.nm 3) (.bin .Add (.cst (.int 1)) (.cal 1 [.var 0, .var 1])), .asg (.nm 4) (.lcm f_l_wide_sum_e0 (.nm 5) (.rng [.bin .Sub (.var 3) (.cst (.int 1))]) none [5]), .owM 2 .append [.tup [.sub (.lst [.cst (.int 1), .neg (.cst (.int 1))]) (.cal 1 [.var 0, .cst (.int 2)]), .cal 4 [.var 0], .blt .tuple [.var 4]]], .asg (.nm 1) (.bin .Sub (.var 1) (.var 3))]
def f_l_wide_sum_b : List MS := [.parO 1 2 (.bin .Add (.cst (.int 1)) (.cal 1 [.var 0, .cst (.int 8)])) (.lst []), .whl 9 (.cmp .Gt (.var 1) (.cst (.int 0))) f_l_wide_sum_p1, .ret (.blt .tuple [.var 2])]
noncomputable def f_l_wide_sum_E : Fn := mkF gcv [(1, f_l_take), (4, f_l_wide_atom)] [] []
/-- _law_wide_sum: 0 _law_bag_here, 1 _law_left, 2 _law_found, 3 _law_many, 4 _law_pairs, 5 _law_more -/
noncomputable def f_l_wide_sum : Worth := run f_l_wide_sum_E 6 f_l_wide_sum_b
@[simp] theorem f_l_wide_sum_E_1 : f_l_wide_sum_E.fn 1 = f_l_take := rfl
@[simp] theorem f_l_wide_sum_E_4 : f_l_wide_sum_E.fn 4 = f_l_wide_atom := rfl
def f_l_room_p0 : List MS := [.ife (.cmp .Gt (.cal 1 [.var 0, .cst (.int 3)]) (.cst (.int 0))) [.asg (.nm 3) (.sub (.lst [.cal 1 [.var 0, .cst (.int 12)], .cal 1 [.var 0, .bin .Pow (.cst (.int 10)) (.cst (.int 9))], .cst (.int 0), .bin .Pow (.cst (.int 10)) (.cst (.int 9))]) (.sub (.lst [.cst (.int 0), .cst (.int 0), .cst (.int 0), .cst (.int 0), .cst (.int 1), .cst (.int 2), .cst (.int 3)]) (.cal 1 [.var 0, .cst (.int 7)]))), .asI (.var 1) (.var 2) (.bin .Mult (.var 3) (.sub (.lst [.cst (.int 1), .cst (.int 1), .neg (.cst (.int 1))]) (.cal 1 [.var 0, .cst (.int 3)])))] []]
def f_l_room_b : List MS := [.asO 1 (.dct []), .for_ (.nm 2) (.seq (.cal 3 [])) f_l_room_p0, .retO 1]
noncomputable def f_l_room_E : Fn := mkF gcv [(3, f_l_names), (1, f_l_take)] [] []
/-- _law_room: 0 _law_bag_here, 1 _law_found, 2 _law_name, 3 _law_x -/
noncomputable def f_l_room : Worth := run f_l_room_E 4 f_l_room_b
@[simp] theorem f_l_room_E_3 : f_l_room_E.fn 3 = f_l_names := rfl
@[simp] theorem f_l_room_E_1 : f_l_room_E.fn 1 = f_l_take := rfl
def f_l_wide_room_p1 : List MS := [.ife (.bop true [.val (.isi (.var 6) [.b "str"]), .cmp .Gt (.cal 1 [.var 0, .cst (.int 5)]) (.cst (.int 0))]) [.asg (.nm 7) (.sub (.lst [.cal 1 [.var 0, .cst (.int 9)], .cal 1 [.var 0, .cst (.int 40000)], .bin .Pow (.cst (.int 10)) (.cst (.int 9)), .cst (.int 0), .cal 1 [.var 0, .bin .Pow (.cst (.int 10)) (.cst (.int 9))]]) (.cal 1 [.var 0, .cst (.int 5)])), .asI (.var 2) (.var 6) (.bin .Mult (.var 7) (.sub (.lst [.cst (.int 1), .cst (.int 1), .neg (.cst (.int 1))]) (.cal 1 [.var 0, .cst (.int 3)])))] []]
noncomputable def f_l_wide_room_E : Fn := mkF gcv [(8, f_l_room), (1, f_l_take)] [] []
@[simp] theorem f_l_wide_room_E_8 : f_l_wide_room_E.fn 8 = f_l_room := rfl
@[simp] theorem f_l_wide_room_E_1 : f_l_wide_room_E.fn 1 = f_l_take := rfl
def f_is_name_e0 : ME := .cmp .In (.var 1) (.glo 5)
def f_is_name_b : List MS := [.ife (.bop false [.nt (.val (.isi (.var 0) [.b "str"])), .nt (.chn .LtE .LtE (.cst (.int 1)) (.blt .len [.var 0]) (.glo 3)), .cmp .In (.var 0) (.glo 4)]) [.ret (.cst (.bl false))] [], .ret (.blt .all [.lcm f_is_name_e0 (.nm 1) (.seq (.var 0)) none [1]])]
noncomputable def f_is_name_E : Fn := mkF gcv [] [] []
/-- is_name: 0 thing, 1 sign -/
noncomputable def f_is_name : Worth := run f_is_name_E 2 f_is_name_b
@[simp] theorem f_is_name_E_g3 : f_is_name_E.gc 3 = gcv 3 := rfl
@[simp] theorem f_is_name_E_g4 : f_is_name_E.gc 4 = gcv 4 := rfl
@[simp] theorem f_is_name_E_g5 : f_is_name_E.gc 5 = gcv 5 := rfl
def f_atom_in_e0 : ME := .cmp .In (.var 1) (.cst (.str "0123456789"))
def f_atom_in_b : List MS := [.ife (.val (.cal 18 [.var 0])) [.ret (.var 0)] [], .ife (.bop true [.chn .LtE .LtE (.cst (.int 1)) (.blt .len [.var 0]) (.cst (.int 3)), .val (.blt .all [.lcm f_atom_in_e0 (.nm 1) (.seq (.var 0)) none [1]]), .cmp .Eq (.blt .str [.blt .int [.var 0]]) (.var 0)]) [.ret (.blt .int [.var 0])] [], .dead]
noncomputable def f_atom_in_E : Fn := mkF gcv [(18, f_is_name)] [] []
/-- atom_in: 0 word, 1 sign -/
noncomputable def f_atom_in : Worth := run f_atom_in_E 2 f_atom_in_b
@[simp] theorem f_atom_in_E_18 : f_atom_in_E.fn 18 = f_is_name := rfl
def f_read_sum_p0 : List MS := [.ife (.cmp .In (.var 3) (.glo 2)) [.owM 2 .append [.tup [.sub (.glo 2) (.var 3), .cal 19 [.var 4], .tup []]]] [.ife (.bop true [.cmp .In (.var 3) (.tup [.cst (.str "*"), .cst (.str "//")]), .cmp .NotEq (.var 2) (.lst [])]) [.ast [.nm 5, .tp [.nm 6, .nm 7, .nm 8]] (.var 2), .asO 2 (.bin .Add (.var 5) (.lst [.tup [.var 6, .var 7, .bin .Add (.var 8) (.tup [.tup [.var 3, .cal 19 [.var 4]]])]]))] [.dead]]]
def f_read_sum_b : List MS := [.ife (.nt (.val (.isi (.var 0) [.b "str"]))) [.dead] [], .asg (.nm 1) (.met .split (.var 0) [.cst (.str " ")]), .ife (.cmp .NotEq (.sub (.var 1) (.cst (.int 0))) (.cst (.str "-"))) [.asg (.nm 1) (.bin .Add (.lst [.cst (.str "+")]) (.var 1))] [], .ife (.bop false [.cmp .NotEq (.bin .Mod (.blt .len [.var 1]) (.cst (.int 2))) (.cst (.int 0)), .cmp .Gt (.blt .len [.var 1]) (.bin .Mult (.cst (.int 2)) (.glo 1))]) [.dead] [], .asO 2 (.lst []), .for_ (.tp [.nm 3, .nm 4]) (.zs [.stp (.var 1) none 2, .stp (.var 1) (some (.cst (.int 1))) 2]) f_read_sum_p0, .ret (.blt .tuple [.var 2])]
noncomputable def f_read_sum_E : Fn := mkF gcv [(19, f_atom_in)] [] []
/-- read_sum: 0 text, 1 words, 2 found, 3 word, 4 atom, 5 ahead, 6 sign, 7 first, 8 pairs -/
noncomputable def f_read_sum : Worth := run f_read_sum_E 9 f_read_sum_b
@[simp] theorem f_read_sum_E_19 : f_read_sum_E.fn 19 = f_atom_in := rfl
@[simp] theorem f_read_sum_E_g1 : f_read_sum_E.gc 1 = gcv 1 := rfl
@[simp] theorem f_read_sum_E_g2 : f_read_sum_E.gc 2 = gcv 2 := rfl
def f_l_wide_rows_p0 : List MS := [.asg (.nm 3) (.sub (.lst [.cal 2 [.var 0], .sub (.cal 3 []) (.cal 1 [.var 0, .cst (.int 4)])]) (.cal 1 [.var 0, .cst (.int 2)])), .asg (.nm 4) (.sub (.lst [.tup [.cst (.str "drop"), .var 3], .tup [.cst (.str "show"), .cal 5 [.var 0]], .tup [.cst (.str "set"), .var 3, .cal 5 [.var 0]]]) (.cal 1 [.var 0, .cst (.int 3)])), .ife (.cmp .Eq (.cal 1 [.var 0, .cst (.int 3)]) (.cst (.int 0))) [.asg (.nm 4) (.tup [.cst (.str "if"), .cal 5 [.var 0], .var 4])] [], .owM 1 .append [.var 4]]
def f_l_wide_rows_b : List MS := [.asO 1 (.lst []), .for_ (.nm 2) (.rng [.bin .Add (.cst (.int 1)) (.cal 1 [.var 0, .cst (.int 6)])]) f_l_wide_rows_p0, .ret (.blt .tuple [.var 1])]
noncomputable def f_l_wide_rows_E : Fn := mkF gcv [(1, f_l_take), (2, f_l_any_name), (3, f_l_names), (5, f_l_wide_sum)] [] []
/-- _law_wide_rows: 0 _law_bag_here, 1 _law_found, 2 _law_turn, 3 _law_name, 4 _law_row -/
noncomputable def f_l_wide_rows : Worth := run f_l_wide_rows_E 5 f_l_wide_rows_b
@[simp] theorem f_l_wide_rows_E_1 : f_l_wide_rows_E.fn 1 = f_l_take := rfl
@[simp] theorem f_l_wide_rows_E_2 : f_l_wide_rows_E.fn 2 = f_l_any_name := rfl
@[simp] theorem f_l_wide_rows_E_3 : f_l_wide_rows_E.fn 3 = f_l_names := rfl
@[simp] theorem f_l_wide_rows_E_5 : f_l_wide_rows_E.fn 5 = f_l_wide_sum := rfl
def f_l_sum_text_e0 : ME := .bin .Add (.bin .Add (.var 6) (.cst (.str " "))) (.blt .str [.var 7])
def f_l_sum_text_p1 : List MS := [.asg (.nm 5) (.met .join (.cst (.str " ")) [.bin .Add (.lst [.blt .str [.var 3]]) (.lcm f_l_sum_text_e0 (.tp [.nm 6, .nm 7]) (.seq (.var 4)) none [6, 7])]), .ife (.cmp .Eq (.var 1) (.cst (.str ""))) [.asg (.nm 1) (.ite (.cmp .Lt (.var 2) (.cst (.int 0))) (.bin .Add (.cst (.str "- ")) (.var 5)) (.var 5))] [.asg (.nm 1) (.bin .Add (.bin .Add (.var 1) (.sub (.lst [.cst (.str " + "), .cst (.str " - ")]) (.blt .int [.cmp .Lt (.var 2) (.cst (.int 0))]))) (.var 5))]]
def f_l_sum_text_b : List MS := [.asg (.nm 1) (.cst (.str "")), .for_ (.tp [.nm 2, .nm 3, .nm 4]) (.seq (.var 0)) f_l_sum_text_p1, .ret (.var 1)]
noncomputable def f_l_sum_text_E : Fn := mkF gcv [] [] []
/-- _law_sum_text: 0 _law_some, 1 _law_found, 2 _law_side, 3 _law_first, 4 _law_pairs, 5 _law_part, 6 _law_word, 7 _law_atom -/
noncomputable def f_l_sum_text : Worth := run f_l_sum_text_E 8 f_l_sum_text_b
def f_l_row_text_b : List MS := [.ife (.cmp .Eq (.sub (.var 0) (.cst (.int 0))) (.cst (.str "set"))) [.ret (.bin .Add (.bin .Add (.sub (.var 0) (.cst (.int 1))) (.cst (.str " = "))) (.cal 24 [.sub (.var 0) (.cst (.int 2))]))] [], .ife (.cmp .Eq (.sub (.var 0) (.cst (.int 0))) (.cst (.str "if"))) [.ret (.bin .Add (.bin .Add (.bin .Add (.cst (.str "if ")) (.cal 24 [.sub (.var 0) (.cst (.int 1))])) (.cst (.str ": "))) (.cal 25 [.sub (.var 0) (.cst (.int 2))]))] [], .ret (.bin .Add (.bin .Add (.sub (.var 0) (.cst (.int 0))) (.cst (.str " "))) (.ite (.cmp .Eq (.sub (.var 0) (.cst (.int 0))) (.cst (.str "drop"))) (.sub (.var 0) (.cst (.int 1))) (.cal 24 [.sub (.var 0) (.cst (.int 1))])))]
noncomputable def f_l_row_text_E (v : Worth) : Fn := mkF gcv [(25, v), (24, f_l_sum_text)] [] []
/-- _law_row_text: 0 _law_row -/
noncomputable def f_l_row_text_R (j : Nat) : Worth := recW (fun v => run (f_l_row_text_E v) 1 f_l_row_text_b) j
noncomputable def f_l_row_text : Worth := f_l_row_text_R 2
@[simp] theorem f_l_row_text_E_self (v : Worth) : (f_l_row_text_E v).fn 25 = v := rfl
@[simp] theorem f_l_row_text_E_24 (v : Worth) : (f_l_row_text_E v).fn 24 = f_l_sum_text := rfl
def f_l_text_e0 : ME := .cal 25 [.var 1]
def f_l_text_b : List MS := [.ret (.met .join (.cst (.str "\n")) [.lcm f_l_text_e0 (.nm 1) (.seq (.var 0)) none [1]])]
noncomputable def f_l_text_E : Fn := mkF gcv [(25, f_l_row_text)] [] []
/-- _law_text: 0 _law_rows, 1 _law_row -/
noncomputable def f_l_text : Worth := run f_l_text_E 2 f_l_text_b
@[simp] theorem f_l_text_E_25 : f_l_text_E.fn 25 = f_l_row_text := rfl
def f_plain_row_in_b : List MS := [.asg (.tp [.nm 1, .nm 2, .nm 3]) (.met .partition (.var 0) [.cst (.str " ")]), .ife (.bop true [.cmp .Eq (.var 1) (.cst (.str "show")), .cmp .NotEq (.var 2) (.cst (.str ""))]) [.ret (.tup [.cst (.str "show"), .cal 20 [.var 3]])] [], .ife (.cmp .Eq (.var 1) (.cst (.str "drop"))) [.ife (.nt (.val (.cal 18 [.var 3]))) [.dead] [], .ret (.tup [.cst (.str "drop"), .var 3])] [], .asg (.tp [.nm 4, .nm 5, .nm 3]) (.met .partition (.var 0) [.cst (.str " = ")]), .ife (.bop false [.cmp .Eq (.var 5) (.cst (.str "")), .nt (.val (.cal 18 [.var 4]))]) [.dead] [], .ret (.tup [.cst (.str "set"), .var 4, .cal 20 [.var 3]])]
noncomputable def f_plain_row_in_E : Fn := mkF gcv [(20, f_read_sum), (18, f_is_name)] [] []
/-- plain_row_in: 0 text, 1 first, 2 blank, 3 rest, 4 name, 5 sign -/
noncomputable def f_plain_row_in : Worth := run f_plain_row_in_E 6 f_plain_row_in_b
@[simp] theorem f_plain_row_in_E_20 : f_plain_row_in_E.fn 20 = f_read_sum := rfl
@[simp] theorem f_plain_row_in_E_18 : f_plain_row_in_E.fn 18 = f_is_name := rfl
def f_row_in_b : List MS := [.ife (.val (.met .startswith (.var 0) [.cst (.str "if ")])) [.asg (.tp [.nm 1, .nm 2, .nm 3]) (.met .partition (.slc (.var 0) (some (.cst (.int 3))) none) [.cst (.str ": ")]), .ife (.cmp .Eq (.var 2) (.cst (.str ""))) [.dead] [], .ret (.tup [.cst (.str "if"), .cal 20 [.var 1], .cal 27 [.var 3]])] [], .ret (.cal 27 [.var 0])]
noncomputable def f_row_in_E : Fn := mkF gcv [(20, f_read_sum), (27, f_plain_row_in)] [] []
/-- row_in: 0 text, 1 head, 2 sign, 3 rest -/
noncomputable def f_row_in : Worth := run f_row_in_E 4 f_row_in_b
@[simp] theorem f_row_in_E_20 : f_row_in_E.fn 20 = f_read_sum := rfl
@[simp] theorem f_row_in_E_27 : f_row_in_E.fn 27 = f_plain_row_in := rfl
def f_rows_in_p0 : List MS := [.owM 1 .append [.cal 28 [.var 3]]]
def f_rows_in_p1 : List MS := [.ife (.cmp .Eq (.var 2) (.glo 6)) [.dead] [], .tryP f_rows_in_p0]
def f_rows_in_b : List MS := [.asO 1 (.lst []), .for_ (.tp [.nm 2, .nm 3]) (.enm (.met .split (.var 0) [.cst (.str "\n")])) f_rows_in_p1, .ret (.blt .tuple [.var 1])]
noncomputable def f_rows_in_E : Fn := mkF gcv [(28, f_row_in)] [] []
/-- rows_in: 0 text, 1 found, 2 place, 3 line -/
noncomputable def f_rows_in : Worth := run f_rows_in_E 4 f_rows_in_b
@[simp] theorem f_rows_in_E_28 : f_rows_in_E.fn 28 = f_row_in := rfl
@[simp] theorem f_rows_in_E_g6 : f_rows_in_E.gc 6 = gcv 6 := rfl
def f_Cell_new_b : List MS := [.ife (.nt (.val (.isi (.var 1) [.b "str"]))) [.dead] [], .asF [1] (.var 0) "rows" (.cal 29 [.var 1]), .asF [1] (.var 0) "text" (.var 1)]
noncomputable def f_Cell_new_E : Fn := mkF gcv [(29, f_rows_in)] [] []
/-- Cell.__init__: 0 self, 1 text -/
noncomputable def f_Cell_new : Worth := runI f_Cell_new_E 1 2 f_Cell_new_b
@[simp] theorem f_Cell_new_E_29 : f_Cell_new_E.fn 29 = f_rows_in := rfl
def f_names_in_c0 : MC := .val (.isi (.var 5) [.b "str"])
def f_names_in_e1 : ME := .var 5
def f_names_in_e2 : ME := .sub (.var 6) (.cst (.int 1))
def f_names_in_p3 : List MS := [.owM 1 .extend [.lcm f_names_in_e1 (.nm 5) (.seq (.bin .Add (.lst [.var 3]) (.lcm f_names_in_e2 (.nm 6) (.seq (.var 4)) none [6]))) (some f_names_in_c0) [5]]]
def f_names_in_b : List MS := [.asO 1 (.lst []), .for_ (.tp [.nm 2, .nm 3, .nm 4]) (.seq (.var 0)) f_names_in_p3, .retO 1]
noncomputable def f_names_in_E : Fn := mkF gcv [] [] []
/-- names_in: 0 some, 1 found, 2 sign, 3 first, 4 pairs, 5 atom, 6 pair -/
noncomputable def f_names_in : Worth := run f_names_in_E 7 f_names_in_b
def f_parts_of_b : List MS := [.ife (.cmp .Eq (.sub (.var 0) (.cst (.int 0))) (.cst (.str "if"))) [.asg (.tp [.nm 1, .nm 2, .nm 3]) (.cal 61 [.sub (.var 0) (.cst (.int 2))]), .ret (.tup [.bin .Add (.cal 60 [.sub (.var 0) (.cst (.int 1))]) (.var 1), .var 2, .cst (.bl false)])] [], .ife (.cmp .Eq (.sub (.var 0) (.cst (.int 0))) (.cst (.str "show"))) [.ret (.tup [.cal 60 [.sub (.var 0) (.cst (.int 1))], .lst [], .cst (.bl true)])] [], .ret (.tup [.ite (.cmp .Eq (.sub (.var 0) (.cst (.int 0))) (.cst (.str "drop"))) (.lst []) (.cal 60 [.sub (.var 0) (.cst (.int 2))]), .lst [.sub (.var 0) (.cst (.int 1))], .cst (.bl true)])]
noncomputable def f_parts_of_E (v : Worth) : Fn := mkF gcv [(61, v), (60, f_names_in)] [] []
/-- parts_of: 0 row, 1 names, 2 given, 3 is_sure -/
noncomputable def f_parts_of_R (j : Nat) : Worth := recW (fun v => run (f_parts_of_E v) 4 f_parts_of_b) j
noncomputable def f_parts_of : Worth := f_parts_of_R 2
@[simp] theorem f_parts_of_E_self (v : Worth) : (f_parts_of_E v).fn 61 = v := rfl
@[simp] theorem f_parts_of_E_60 (v : Worth) : (f_parts_of_E v).fn 60 = f_names_in := rfl
def f_may_read_p0 : List MS := [.ife (.cmp .NotIn (.var 4) (.var 2)) [.owM 1 .sadd [.var 4]] []]
def f_may_read_p1 : List MS := [.owM 2 .sadd [.var 4]]
def f_may_read_p2 : List MS := [.asg (.tp [.nm 5, .nm 6, .nm 7]) (.cal 61 [.var 3]), .for_ (.nm 4) (.seq (.var 5)) f_may_read_p0, .ife (.val (.var 7)) [.for_ (.nm 4) (.seq (.var 6)) f_may_read_p1] []]
def f_may_read_b : List MS := [.asO 1 (.set0), .asO 2 (.set0), .for_ (.nm 3) (.seq (.fld [1] (.var 0) "rows")) f_may_read_p2, .ret (.blt .sorted [.var 1])]
noncomputable def f_may_read_E : Fn := mkF gcv [(61, f_parts_of)] [] []
/-- may_read: 0 cell, 1 found, 2 sure, 3 row, 4 name, 5 names, 6 given, 7 is_sure -/
noncomputable def f_may_read : Worth := run f_may_read_E 8 f_may_read_b
@[simp] theorem f_may_read_E_61 : f_may_read_E.fn 61 = f_parts_of := rfl
def f_may_set_e0 : ME := .var 2
def f_may_set_b : List MS := [.ret (.bl1 .sorted (.sc2 f_may_set_e0 (.nm 1) (.seq (.fld [1] (.var 0) "rows")) none (.nm 2) (.seq (.sub (.cal 61 [.var 1]) (.cst (.int 1)))) none [1, 2] [2]))]
noncomputable def f_may_set_E : Fn := mkF gcv [(61, f_parts_of)] [] []
/-- may_set: 0 cell, 1 row, 2 name -/
noncomputable def f_may_set : Worth := run f_may_set_E 3 f_may_set_b
@[simp] theorem f_may_set_E_61 : f_may_set_E.fn 61 = f_parts_of := rfl
def f_l_others_b : List MS := [.asg (.nm 2) (.cal 1 [.var 0, .blt .len [.var 1]]), .asg (.nm 3) (.slc (.cal 23 [.var 0]) none (some (.cst (.int 1)))), .asg (.nm 4) (.lst [.bin .Add (.slc (.var 1) none (some (.var 2))) (.slc (.var 1) (some (.bin .Add (.var 2) (.cst (.int 1)))) none), .bin .Add (.bin .Add (.slc (.var 1) none (some (.var 2))) (.var 3)) (.slc (.var 1) (some (.var 2)) none), .rev (.var 1), .bin .Add (.slc (.var 1) (some (.var 2)) none) (.slc (.var 1) none (some (.var 2)))]), .ret (.slc (.sub (.bin .Add (.var 4) (.lst [.bin .Add (.slc (.var 1) none (some (.bin .Add (.var 2) (.cst (.int 1))))) (.slc (.var 1) (some (.var 2)) none), .var 1])) (.cal 1 [.var 0, .cst (.int 6)])) none (some (.cst (.int 6))))]
noncomputable def f_l_others_E : Fn := mkF gcv [(1, f_l_take), (23, f_l_wide_rows)] [] []
/-- _law_others: 0 _law_bag_here, 1 _law_rows, 2 _law_at, 3 _law_more, 4 _law_some -/
noncomputable def f_l_others : Worth := run f_l_others_E 5 f_l_others_b
@[simp] theorem f_l_others_E_1 : f_l_others_E.fn 1 = f_l_take := rfl
@[simp] theorem f_l_others_E_23 : f_l_others_E.fn 23 = f_l_wide_rows := rfl
end K


set_option Elab.async false
set_option linter.all false
set_option maxRecDepth 100000
namespace K
open PySem PySem.Spec PyProof.Rows L2 Mp
structure Bag where
  g : Int
  m : Int
def Bag.c (b : Bag) : Cell := .lst [.d (.int b.g), .d (.int b.m)]
def Bag.ok (b : Bag) : Prop := 0 ≤ b.g ∧ 0 ≤ b.m ∧ b.m < 2147483647
theorem take_ok (h : Hs) (a : Nat) (b : Bag) (n : Int) (hb : h[a]? = some b.c) (ob : b.ok) (h0 : 0 < n) (h1 : n < 1073741824) :
    ∃ (r : Int) (b' : Bag), f_l_take [.r a, .d (.int n)] h = .ok (di r) (h.set a b'.c) ∧ 0 ≤ r ∧ r < n ∧ b'.ok := by
  obtain ⟨g, m⟩ := b
  obtain ⟨o1, o2, o3⟩ := ob
  have ha : a < h.length := (List.getElem?_eq_some_iff.mp hb).1
  have hb' : h[a]? = some (.lst [.d (.int g), .d (.int m)]) := hb
  have hs : ∀ c : Cell, (h.set a c)[a]? = some c := fun c => by simp [ha]
  have n0 : n ≠ 0 := by omega
  have n1 : n.natAbs < 1073741824 := by omega
  simp only at o1 o2 o3
  by_cases q : 0 < g
  · refine ⟨g.fmod n, ⟨g.fdiv n, m⟩, ?_, Int.fmod_nonneg o1 (by omega), Int.fmod_lt_of_pos _ h0, Int.fdiv_nonneg o1 (by omega), o2, o3⟩
    simp [f_l_take, Mp.run, f_l_take_b, evSs, evS, evE, evT, Res.st, hb', binO_eq, q, n0, n1, setO, Bag.c, hs]
  · let m' := (m * 69621 + 1299709).fmod 2147483647
    have p1 : 0 ≤ m' := Int.fmod_nonneg (by omega) (by omega)
    have p2 : m' < 2147483647 := Int.fmod_lt_of_pos _ (by omega)
    have p3 : ((m * 69621 + 1299709).fmod 2147483647).natAbs < 18446744073709551616 := by show m'.natAbs < _; omega
    refine ⟨(((m' ^ 3).fmod 2147483629).fdiv 32).fmod n, ⟨g, m'⟩, ?_, Int.fmod_nonneg (Int.fdiv_nonneg (Int.fmod_nonneg (Int.pow_nonneg p1) (by omega)) (by omega)) (by omega), Int.fmod_lt_of_pos _ h0, o1, p1, p2⟩
    simp [f_l_take, Mp.run, f_l_take_b, evSs, evS, evE, evT, Res.st, hb', binO_eq, q, n0, n1, setO, Bag.c, hs, p3]
    exact ⟨rfl, rfl⟩
def B (a : Nat) (h : Hs) : Prop := ∃ b : Bag, h[a]? = some b.c ∧ b.ok
theorem take_B {h : Hs} {a : Nat} (hB : B a h) (n : Int) (h0 : 0 < n) (h1 : n < 1073741824) :
    ∃ (r : Int) (h' : Hs), f_l_take [.r a, .d (.int n)] h = .ok (di r) h' ∧ 0 ≤ r ∧ r < n ∧ B a h' := by
  obtain ⟨b, hb, ob⟩ := hB
  obtain ⟨r, b', e, r0, r1, o'⟩ := take_ok h a b n hb ob h0 h1
  exact ⟨r, _, e, r0, r1, b', by simp [(List.getElem?_eq_some_iff.mp hb).1], o'⟩
theorem atI_some {α : Type} {xs : List α} {j : Int} (h0 : 0 ≤ j) (h1 : j < xs.length) : ∃ x, atI xs j = some x ∧ x ∈ xs := by
  have hj : j.toNat < xs.length := by omega
  exact ⟨xs[j.toNat], by rw [atI_pos h0 h1, List.getElem?_eq_getElem hj], List.getElem_mem hj⟩
def one (c : Nat) : Str := ⟨#[c]⟩
theorem one_len (c : Nat) : (one c).length = 1 := rfl
theorem abc_len : (Str.ofString "abcdefghijklmnopqrstuvwxyz").length ≤ sizeLine := by decide
theorem bag_ok (h : Hs) (ns : List Int) (k : Int) (k0 : 0 ≤ k) (k6 : k < 6) :
    ∃ b : Bag, f_l_bag [.d (.scr ns), .d (.int k)] h = .ok (.f b.c) h ∧ b.ok := by
  have hc : ∃ c : Int, (k < ns.length → atI ns k = some c) ∧ (¬ k < ns.length → c = 0) := by
    by_cases q : k < ns.length
    · obtain ⟨c, e, _⟩ := atI_some k0 q
      exact ⟨c, fun _ => e, fun n => absurd q n⟩
    · exact ⟨0, fun n => absurd n q, fun _ => rfl⟩
  obtain ⟨c, c1, c2⟩ := hc
  have hp : ∃ p : Int, atI [.d (.int 2147483647), .d (.int 2147483629), .d (.int 2147483587), .d (.int 2147483579), .d (.int 2147483563), .d (.int 2147483549), .d (.int 2147483543), .d (.int 2147483497)] (k.fmod 8) = some (AV.d (.int p)) ∧ 0 < p ∧ p ≤ 2147483647 := by
    obtain ⟨x, e, m⟩ := atI_some (xs := [AV.d (.int 2147483647), .d (.int 2147483629), .d (.int 2147483587), .d (.int 2147483579), .d (.int 2147483563), .d (.int 2147483549), .d (.int 2147483543), .d (.int 2147483497)]) (Int.fmod_nonneg k0 (show (0 : Int) ≤ 8 by decide)) (Int.fmod_lt_of_pos k (show (0 : Int) < 8 by decide))
    simp only [List.mem_cons, List.not_mem_nil, or_false] at m
    rcases m with rfl | rfl | rfl | rfl | rfl | rfl | rfl | rfl <;> exact ⟨_, e, by decide, by decide⟩
  obtain ⟨p, ep, p0, p1⟩ := hp
  have kk : k < 18446744073709551616 := by omega
  have kk' : -18446744073709551616 < k := by omega
  have pn : p ≠ 0 := by omega
  have lm : ∀ m : Int, 0 ≤ m.fmod p ∧ m.fmod p < 2147483647 := fun m => ⟨Int.fmod_nonneg_of_pos _ p0, Int.lt_of_lt_of_le (Int.fmod_lt_of_pos m p0) p1⟩
  by_cases q : k < ns.length
  · have c1 := c1 q
    by_cases g : 1000000000000000000 ≤ (if c < 0 then -c else c)
    · refine ⟨⟨(if c < 0 then -c else c), (c.fmod 2147483647 * 48611 + 90007 * k * k + 6133 * k + 4099).fmod p⟩, ?_, by simp only; split <;> omega, lm _⟩
      simp [f_l_bag, Mp.run, f_l_bag_b, evSs, evS, evE, evL, evR, evT, Res.st, q, c1, g, binO_eq, Cell.frz, AV.toDs, AV.toD, ep, kk, kk', pn, Bag.c, show 8 ≤ sizeLine by decide, show 2 ≤ sizeLine by decide]
    · refine ⟨⟨0, (c.fmod 2147483647 * 48611 + 90007 * k * k + 6133 * k + 4099).fmod p⟩, ?_, by simp, lm _⟩
      simp [f_l_bag, Mp.run, f_l_bag_b, evSs, evS, evE, evL, evR, evT, Res.st, q, c1, g, binO_eq, Cell.frz, AV.toDs, AV.toD, ep, kk, kk', pn, Bag.c, show 8 ≤ sizeLine by decide, show 2 ≤ sizeLine by decide]
  · have c2 := c2 q
    refine ⟨⟨0, ((0 : Int).fmod 2147483647 * 48611 + 90007 * k * k + 6133 * k + 4099).fmod p⟩, ?_, by simp, lm _⟩
    simp [f_l_bag, Mp.run, f_l_bag_b, evSs, evS, evE, evL, evR, evT, Res.st, q, binO_eq, Cell.frz, AV.toDs, AV.toD, ep, kk, kk', pn, Bag.c, show 8 ≤ sizeLine by decide, show 2 ≤ sizeLine by decide]
end K


set_option Elab.async false
set_option linter.all false
set_option maxRecDepth 100000
namespace K
open PySem PySem.Spec PyProof.Rows L2 Mp
/-! ### data compared -/
mutual
def okD : Mp.D → Bool
  | .non => true
  | .bl _ => true
  | .int _ => true
  | .str x => PySem.PyData.strOk x
  | .lst xs => okDs xs
  | .tup xs => okDs xs
  | _ => false
def okDs : List Mp.D → Bool
  | [] => true
  | x :: xs => okD x && okDs xs
end
mutual
def dpD : Mp.D → Nat
  | .lst xs => dpDs xs + 1
  | .tup xs => dpDs xs + 1
  | _ => 0
def dpDs : List Mp.D → Nat
  | [] => 0
  | x :: xs => max (dpD x) (dpDs xs)
end
mutual
theorem py_ok : ∀ d : Mp.D, okD d = true → ∃ p, d.py = some p ∧ p.canLay0 = true ∧ p.depth = dpD d
  | .non, _ => ⟨.none, by simp only [D.py], by simp only [PyData.canLay0], by simp only [PyData.depth, dpD]⟩
  | .bl b, _ => ⟨.bool b, by simp only [D.py], by simp only [PyData.canLay0], by simp only [PyData.depth, dpD]⟩
  | .int b, _ => ⟨.int b, by simp only [D.py], by simp only [PyData.canLay0], by simp only [PyData.depth, dpD]⟩
  | .str b, h => ⟨.str b, by simp only [D.py], by simpa only [PyData.canLay0, okD] using h, by simp only [PyData.depth, dpD]⟩
  | .lst xs, h => by
    simp only [okD] at h
    obtain ⟨ps, e, l, d⟩ := pys_ok xs h
    exact ⟨.list ps, by simp only [D.py, e, Option.map_some], by simpa only [PyData.canLay0] using l, by simp only [PyData.depth, dpD, d]⟩
  | .tup xs, h => by
    simp only [okD] at h
    obtain ⟨ps, e, l, d⟩ := pys_ok xs h
    exact ⟨.tuple ps, by simp only [D.py, e, Option.map_some], by simpa only [PyData.canLay0] using l, by simp only [PyData.depth, dpD, d]⟩
  | .dic _, h => by simp [okD] at h
  | .obj _ _, h => by simp [okD] at h
  | .scr _, h => by simp [okD] at h
  | .kdc _, h => by simp [okD] at h
theorem pys_ok : ∀ ds : List Mp.D, okDs ds = true → ∃ ps, D.pys ds = some ps ∧ PyData.canLayAll0 ps = true ∧ PyData.depthAll ps = dpDs ds
  | [], _ => ⟨[], by simp only [D.pys], by simp only [PyData.canLayAll0], by simp only [PyData.depthAll, dpDs]⟩
  | x :: xs, h => by
    simp only [okDs, Bool.and_eq_true] at h
    obtain ⟨p, e1, l1, d1⟩ := py_ok x h.1
    obtain ⟨ps, e2, l2, d2⟩ := pys_ok xs h.2
    exact ⟨p :: ps, by simp only [D.pys, e1, e2], by simp only [PyData.canLayAll0, l1, l2, Bool.and_self], by simp only [PyData.depthAll, dpDs, d1, d2]⟩
end
def dEq (a b : Mp.D) : Bool := match a.py, b.py with
  | some x, some y => PyData.eqv x y
  | _, _ => false
def dEqs (a b : List Mp.D) : Bool := match D.pys a, D.pys b with
  | some x, some y => PyData.eqvAll x y
  | _, _ => false
/-- data that may be compared -/
def Cm (d : Mp.D) : Prop := okD d = true ∧ dpD d ≤ 64
def Cms (d : List Mp.D) : Prop := okDs d = true ∧ dpDs d ≤ 63
theorem eqO_res {h : Hs} {x y : RV} {a b : Mp.D} (ea : x.res h = some a) (eb : y.res h = some b) (ca : Cm a) (cb : Cm b) : eqO h x y = some (dEq a b) := by
  obtain ⟨p, e1, l1, d1⟩ := py_ok a ca.1
  obtain ⟨q, e2, l2, d2⟩ := py_ok b cb.1
  have s1 : SeqAt.shaped p = true := by
    unfold SeqAt.shaped
    rw [l1, Bool.true_and, decide_eq_true_eq, d1]
    exact ca.2
  have s2 : SeqAt.shaped q = true := by
    unfold SeqAt.shaped
    rw [l2, Bool.true_and, decide_eq_true_eq, d2]
    exact cb.2
  simp only [eqO, ea, eb, Option.bind_some, e1, e2, s1, s2, and_self, if_true, dEq]
theorem eqO_d {h : Hs} {a b : Mp.D} (ca : Cm a) (cb : Cm b) : eqO h (.v (.d a)) (.v (.d b)) = some (dEq a b) := eqO_res rfl rfl ca cb
theorem dEq_self {a : Mp.D} (c : okD a = true) : dEq a a = true := by
  obtain ⟨p, e, l, _⟩ := py_ok a c
  simp only [dEq, e]
  exact PySem.SeqAt.eqv_refl p l
theorem dEq_tup (a b : List Mp.D) : dEq (.tup a) (.tup b) = dEqs a b := by
  unfold dEq dEqs
  simp only [D.py]
  cases D.pys a <;> cases D.pys b <;> simp [PyData.eqv]
theorem dEq_lst (a b : List Mp.D) : dEq (.lst a) (.lst b) = dEqs a b := by
  unfold dEq dEqs
  simp only [D.py]
  cases D.pys a <;> cases D.pys b <;> simp [PyData.eqv]
theorem dEqs_cons {a b : Mp.D} {as bs : List Mp.D} (ca : okDs as = true) (cb : okDs bs = true) : dEqs (a :: as) (b :: bs) = (dEq a b && dEqs as bs) := by
  obtain ⟨ps, e1, _⟩ := pys_ok as ca
  obtain ⟨qs, e2, _⟩ := pys_ok bs cb
  unfold dEqs dEq
  simp only [D.pys, e1, e2]
  cases a.py <;> cases b.py <;> simp [PyData.eqvAll]
theorem dEqs_nil : dEqs [] [] = true := by simp [dEqs, D.pys, PyData.eqvAll]
theorem dEqs_nc {b : Mp.D} {bs : List Mp.D} : dEqs [] (b :: bs) = false := by
  simp only [dEqs, D.pys]
  cases b.py <;> cases D.pys bs <;> simp [PyData.eqvAll]
theorem dEqs_cn {b : Mp.D} {bs : List Mp.D} : dEqs (b :: bs) [] = false := by
  simp only [dEqs, D.pys]
  cases b.py <;> cases D.pys bs <;> simp [PyData.eqvAll]
@[simp] theorem dEq_int (i j : Int) : dEq (.int i) (.int j) = (i == j) := by simp [dEq, D.py, PyData.eqv]
@[simp] theorem dEq_str (i j : Str) : dEq (.str i) (.str j) = (i == j) := by simp [dEq, D.py, PyData.eqv]
@[simp] theorem dEq_non : dEq .non .non = true := by simp [dEq, D.py, PyData.eqv]
theorem Cm_str {x : Str} (h : PySem.PyData.strOk x = true) : Cm (.str x) := ⟨by simpa only [okD] using h, by simp [dpD]⟩
theorem Cm_lst {xs : List Mp.D} (h : Cms xs) : Cm (.lst xs) := ⟨by simpa only [okD] using h.1, by simp only [dpD]; have := h.2; omega⟩
theorem okDs_map {α : Type} {f : α → Mp.D} {l : List α} (h : ∀ x ∈ l, okD (f x) = true) : okDs (l.map f) = true := by
  induction l with
  | nil => simp [okDs]
  | cons x l ih => simp only [List.map_cons, okDs, Bool.and_eq_true]; exact ⟨h x (.head _), ih fun y m => h y (.tail _ m)⟩
theorem dpDs_map {α : Type} {f : α → Mp.D} {l : List α} {n : Nat} (h : ∀ x ∈ l, dpD (f x) ≤ n) : dpDs (l.map f) ≤ n := by
  induction l with
  | nil => simp [dpDs]
  | cons x l ih => simp only [List.map_cons, dpDs]; exact Nat.max_le.mpr ⟨h x (.head _), ih fun y m => h y (.tail _ m)⟩
/-! ### comprehensions that change nothing -/
theorem lc_map {elt : List SV → Hs → Res AV} {cs : List SV → Hs → Res Bool} {S : List SV} {i : Nat} {α : Type} (g f : α → AV) (h : Hs) : ∀ (l : List α)
    (step : ∀ c ∈ l, cs (S.set i (.v (g c))) h = .ok true h ∧ elt (S.set i (.v (g c))) h = .ok (f c) h) (acc : List AV) (hl : acc.length + l.length ≤ sizeLine),
    lcGo elt cs (.nm i) .fz S (l.map g) acc h = .ok (.f (.lst (acc ++ l.map f))) h
  | [], _, acc, _ => by simp [lcGo]
  | x :: xs, step, acc, hl => by
    obtain ⟨e1, e2⟩ := step x (.head _)
    have e := lc_map g f h xs (fun x m => step x (.tail _ m)) (acc ++ [f x]) (by simp at hl ⊢; omega)
    have : acc.length < sizeLine := by simp at hl; omega
    simp [lcGo, e1, e2, Res.noX, Res.bind, this, e]
theorem toDs_bls {α : Type} (p : α → Bool) : ∀ l : List α, AV.toDs (l.map fun c => .d (.bl (p c))) = some (l.map fun c => .bl (p c))
  | [] => rfl
  | x :: xs => by simp [toDs_cons_d, toDs_bls p xs]
theorem kb_str : kitB "NoneType" "str" = some false ∧ kitB "bool" "str" = some false ∧ kitB "int" "str" = some false ∧ kitB "list" "str" = some false ∧ kitB "tuple" "str" = some false ∧ kitB "dict" "str" = some false ∧ kitB "str" "str" = some true := ⟨rfl, rfl, rfl, rfl, rfl, rfl, rfl⟩
theorem kb_int : kitB "NoneType" "int" = some false ∧ kitB "bool" "int" = some true ∧ kitB "int" "int" = some true ∧ kitB "list" "int" = some false ∧ kitB "tuple" "int" = some false ∧ kitB "dict" "int" = some false ∧ kitB "str" "int" = some false := ⟨rfl, rfl, rfl, rfl, rfl, rfl, rfl⟩
theorem kb_tup : kitB "NoneType" "tuple" = some false ∧ kitB "bool" "tuple" = some false ∧ kitB "int" "tuple" = some false ∧ kitB "list" "tuple" = some false ∧ kitB "tuple" "tuple" = some true ∧ kitB "dict" "tuple" = some false ∧ kitB "str" "tuple" = some false := ⟨rfl, rfl, rfl, rfl, rfl, rfl, rfl⟩
theorem kb_bool : kitB "NoneType" "bool" = some false ∧ kitB "bool" "bool" = some true ∧ kitB "int" "bool" = some false ∧ kitB "list" "bool" = some false ∧ kitB "tuple" "bool" = some false ∧ kitB "dict" "bool" = some false ∧ kitB "str" "bool" = some false := ⟨rfl, rfl, rfl, rfl, rfl, rfl, rfl⟩
theorem bls_map {α : Type} (p : α → Bool) : ∀ l : List α, AV.bls (l.map fun c => .d (.bl (p c))) = some (l.map p)
  | [] => rfl
  | x :: xs => by simp [AV.bls, bls_map p xs]
/-! ### names -/
def abc : List Nat := ("abcdefghijklmnopqrstuvwxyz" : Str).cps.toList
def nmS (x : Str) : Bool := decide (1 ≤ x.length) && decide (x.length ≤ 4) && !(inV (.str x) [.str "show", .str "drop", .str "if"]) && x.cps.toList.all fun c => decide (c ∈ abc)
theorem len_cps (x : Str) : x.cps.toList.length = x.length := by simp [Str.length]
theorem found (c : Nat) : (Builtin.Str.occurrences (Str.ofString "abcdefghijklmnopqrstuvwxyz") ⟨#[c]⟩ 0 (Str.ofString "abcdefghijklmnopqrstuvwxyz").length 1).isEmpty = !decide (c ∈ abc) := by
  have e := StrLaws.found_one (Str.ofString "abcdefghijklmnopqrstuvwxyz") c
  rw [show abc = (Str.ofString "abcdefghijklmnopqrstuvwxyz").cps.toList from rfl, ← e, Bool.not_not]
theorem is_str (h : Hs) (x : Str) (s1 : x.length ≤ sizeLine) : f_is_name [.d (.str x)] h = .ok (db (nmS x)) h := by
  have lc := lc_map (elt := fun S h => (evE f_is_name_E f_is_name_e0 S h).bind toV1) (cs := fun S h => evTo f_is_name_E none S h) (S := [.v (.d (.str x)), .no]) (i := 1)
    (fun c : Nat => .d (.str ⟨#[c]⟩)) (fun c => .d (.bl (decide (c ∈ abc)))) h x.cps.toList (fun c _ => ⟨by simp [evTo], by
      simp [f_is_name_e0, evE, inO, RV.fv, AV.fv, D.fv]
      exact found c⟩) [] (by simp [len_cps]; exact s1)
  simp only [List.nil_append] at lc
  by_cases q1 : 1 ≤ x.length
  · have q1' : (1 : Int) ≤ x.length := by omega
    by_cases q2 : x.length ≤ 4
    · have q2' : (x.length : Int) ≤ 4 := by omega
      cases q3 : inV (.str x) [.str "show", .str "drop", .str "if"]
      · simp [f_is_name, Mp.run, f_is_name_b, evSs, evS, evE, evB, evI, evL, evR, evO, evT, evTs, Res.st, s1, Vw.ty, tyAny, tyIs, kb_str, kb_bool, inO, RV.fv, AV.fv, D.fv, AV.fvs, inB, noOwn, wipeS, q1', q2', q3, lc, bls_map, toDs_bls, Cell.frz, Function.comp_def, nmS, q1, q2]
      · simp [f_is_name, Mp.run, f_is_name_b, evSs, evS, evE, evB, evI, evL, evR, evO, evT, evTs, Res.st, s1, Vw.ty, tyAny, tyIs, kb_str, kb_bool, inO, RV.fv, AV.fv, D.fv, AV.fvs, inB, noOwn, wipeS, q1', q2', q3, nmS]
    · have q2' : ¬ (x.length : Int) ≤ 4 := by omega
      simp [f_is_name, Mp.run, f_is_name_b, evSs, evS, evE, evB, evI, evL, evR, evO, evT, evTs, Res.st, s1, Vw.ty, tyAny, tyIs, kb_str, kb_bool, inO, RV.fv, AV.fv, D.fv, AV.fvs, inB, noOwn, wipeS, q1', q2', nmS, q2]
  · have q1' : ¬ (1 : Int) ≤ x.length := by omega
    simp [f_is_name, Mp.run, f_is_name_b, evSs, evS, evE, evB, evI, evL, evR, evO, evT, evTs, Res.st, s1, Vw.ty, tyAny, tyIs, kb_str, kb_bool, inO, RV.fv, AV.fv, D.fv, AV.fvs, inB, noOwn, wipeS, q1', nmS, q1]
theorem nm_len {x : Str} (n : nmS x = true) : 1 ≤ x.length ∧ x.length ≤ 4 := by
  simp only [nmS, Bool.and_eq_true, decide_eq_true_eq] at n
  exact ⟨n.1.1.1, n.1.1.2⟩
theorem nm_abc {x : Str} (n : nmS x = true) : ∀ c ∈ x.cps.toList, 97 ≤ c ∧ c ≤ 122 := by
  simp only [nmS, Bool.and_eq_true, List.all_eq_true, decide_eq_true_eq] at n
  intro c hc
  have := n.2 c hc
  have key : ∀ d ∈ abc, 97 ≤ d ∧ d ≤ 122 := by decide +kernel
  exact key c this
theorem nm_ok {x : Str} (n : nmS x = true) : PySem.PyData.strOk x = true := by
  unfold PySem.PyData.strOk
  rw [← Array.all_toList, List.all_eq_true]
  intro c hc
  have := nm_abc n c hc
  simp
  omega
end K


set_option Elab.async false
set_option linter.all false
set_option maxRecDepth 100000
namespace K
open PySem PySem.Spec PyProof.Rows L2 Mp
@[simp] theorem sz1 : 1 ≤ sizeLine := by decide
@[simp] theorem sz2 : 2 ≤ sizeLine := by decide
@[simp] theorem sz3 : 3 ≤ sizeLine := by decide
@[simp] theorem sz4 : 4 ≤ sizeLine := by decide
@[simp] theorem sz5 : 5 ≤ sizeLine := by decide
@[simp] theorem sz6 : 6 ≤ sizeLine := by decide
@[simp] theorem sz7 : 7 ≤ sizeLine := by decide
@[simp] theorem sz8 : 8 ≤ sizeLine := by decide
@[simp] theorem sz9 : 9 ≤ sizeLine := by decide
@[simp] theorem sz10 : 10 ≤ sizeLine := by decide
@[simp] theorem sz11 : 11 ≤ sizeLine := by decide
@[simp] theorem sz12 : 12 ≤ sizeLine := by decide
@[simp] theorem sz13 : 13 ≤ sizeLine := by decide
@[simp] theorem sz14 : 14 ≤ sizeLine := by decide
@[simp] theorem sz15 : 15 ≤ sizeLine := by decide
@[simp] theorem sz16 : 16 ≤ sizeLine := by decide
@[simp] theorem sz17 : 17 ≤ sizeLine := by decide
@[simp] theorem sz18 : 18 ≤ sizeLine := by decide
@[simp] theorem sz19 : 19 ≤ sizeLine := by decide
@[simp] theorem sz20 : 20 ≤ sizeLine := by decide
@[simp] theorem sz21 : 21 ≤ sizeLine := by decide
@[simp] theorem sz22 : 22 ≤ sizeLine := by decide
@[simp] theorem sz23 : 23 ≤ sizeLine := by decide
@[simp] theorem sz24 : 24 ≤ sizeLine := by decide
@[simp] theorem sz25 : 25 ≤ sizeLine := by decide
@[simp] theorem sz26 : 26 ≤ sizeLine := by decide
@[simp] theorem sz27 : 27 ≤ sizeLine := by decide
@[simp] theorem sz28 : 28 ≤ sizeLine := by decide
@[simp] theorem sz29 : 29 ≤ sizeLine := by decide
@[simp] theorem sz30 : 30 ≤ sizeLine := by decide
@[simp] theorem sz31 : 31 ≤ sizeLine := by decide
@[simp] theorem sz32 : 32 ≤ sizeLine := by decide
/-! ### sums and rooms as data -/
inductive At where
  | nm (x : Str) | num (n : Int)
def At.d : At → Mp.D
  | .nm x => .str x
  | .num n => .int n
def opS (b : Bool) : Str := if b then "*" else "//"
def prD (p : Bool × At) : Mp.D := .tup [.str (opS p.1), p.2.d]
structure Pr where
  s : Int
  f : At
  ps : List (Bool × At)
def Pr.d (p : Pr) : Mp.D := .tup [.int p.s, p.f.d, .tup (p.ps.map prD)]
def sumD (s : List Pr) : Mp.D := .tup (s.map Pr.d)
def At.ok : At → Prop
  | .nm x => nmS x = true
  | .num n => 0 ≤ n ∧ n ≤ 999
def Pr.ok (p : Pr) : Prop := (p.s = 1 ∨ p.s = -1) ∧ p.f.ok ∧ (∀ q ∈ p.ps, q.2.ok) ∧ p.ps.length ≤ 100
def sumN (s : List Pr) : Nat := (s.map fun p => 1 + p.ps.length).sum
abbrev Room := List (Str × Int)
def roD (r : Room) : List (Key × Mp.D) := r.map fun p => (.inr p.1, .int p.2)
def roomD (r : Room) : Mp.D := .dic (roD r)
def roOk (r : Room) : Prop := (∀ p ∈ r, p.2.natAbs ≤ 1000000000) ∧ (r.map (·.1)).Nodup ∧ r.length ≤ 1000
def lkR (r : Room) (x : Str) : Option Int := (r.find? fun p => decide (p.1 = x)).map (·.2)
def roA (r : Room) : List (Key × AV) := r.map fun p => (.inr p.1, .d (.int p.2))
theorem roD_A (r : Room) : (roD r).map (fun p => (p.1, AV.d p.2)) = roA r := by simp [roD, roA]
inductive Ft where
  | lack (x : Mp.D) | nought | great
def Ft.d : Ft → Mp.D
  | .lack x => .tup [.str "lack", x]
  | .nought => .tup [.str "nought"]
  | .great => .tup [.str "great"]
def atV (r : Room) : At → Option Int
  | .nm x => lkR r x
  | .num n => some n
def big (q : Int) : Bool := decide (1000000000 < if q < 0 then -q else q)
theorem big_f {q : Int} (h : big q = false) : q.natAbs ≤ 1000000000 := by
  simp only [big, decide_eq_false_iff_not] at h
  split at h <;> omega
def pvGo (r : Room) : Int → List (Bool × At) → Except Ft Int
  | p, [] => .ok p
  | p, (o, a) :: ps => match atV r a with
    | none => .error (.lack a.d)
    | some x => if o = false ∧ x = 0 then .error .nought else
      if big (if o = true then p * x else p.fdiv x) = true then .error .great else pvGo r (if o = true then p * x else p.fdiv x) ps
def svGo (r : Room) : Int → List Pr → Except Ft Int
  | t, [] => .ok t
  | t, p :: ps => match pvGo r 1 ((true, p.f) :: p.ps) with
    | .error f => .error f
    | .ok v => if big (t + p.s * v) = true then .error .great else svGo r (t + p.s * v) ps
/-! ### the program's value -/
def oD : Option Int → Mp.D
  | some v => .int v
  | none => .non
theorem it_sum (h : Hs) (s : List Pr) : itO h (.v (.d (sumD s))) = some (s.map (fun q => .d q.d), .fz) := by simp [sumD, Function.comp_def]
end K


set_option Elab.async false
set_option linter.all false
set_option maxRecDepth 100000
namespace K
open PySem PySem.Spec PyProof.Rows L2 Mp
/-! ### told -/
theorem at_cm {a : At} (ha : a.ok) : okD a.d = true ∧ dpD a.d ≤ 10 := by
  cases a with
  | nm x => exact ⟨by simp only [At.d, okD]; exact nm_ok ha, by simp [At.d, dpD]⟩
  | num n => exact ⟨by simp [At.d, okD], by simp [At.d, dpD]⟩
end K


set_option Elab.async false
set_option linter.all false
set_option maxRecDepth 100000
namespace K
open PySem PySem.Spec PyProof.Rows L2 Mp
theorem unmap {α β : Type} {f : α → β} {p : α → Prop} : ∀ ys : List β, (∀ y ∈ ys, ∃ x, p x ∧ y = f x) → ∃ xs : List α, ys = xs.map f ∧ ∀ x ∈ xs, p x
  | [], _ => ⟨[], rfl, by simp⟩
  | y :: ys, q => by
    obtain ⟨x, px, rfl⟩ := q _ (.head _)
    obtain ⟨xs, rfl, h⟩ := unmap ys fun y m => q y (.tail _ m)
    exact ⟨x :: xs, rfl, by simp [px]; exact h⟩
theorem for_sti {body : List SV → Hs → SRes} {i : Nat} (N : Nat) (P : Nat → List SV → Hs → Prop) : ∀ (xs : List AV)
    (step : ∀ x ∈ xs, ∀ n S h, n < N → P n S h → ∃ S' h', body (S.set i (.v x)) h = .nx S' h' ∧ P (n + 1) S' h') (n : Nat) (hn : n + xs.length ≤ N) (S : List SV) (h : Hs) (hP : P n S h),
    ∃ S' h', forGo body (.nm i) .fz xs S h = .nx S' h' ∧ P (n + xs.length) S' h'
  | [], _, n, _, S, h, hP => ⟨S, h, by simp [forGo, SrcOk], hP⟩
  | x :: xs, step, n, hn, S, h, hP => by
    simp only [List.length_cons] at hn
    obtain ⟨S1, h1, e1, p⟩ := step x (.head _) n S h (by omega) hP
    obtain ⟨S', h', e, p'⟩ := for_sti N P xs (fun x m => step x (.tail _ m)) (n + 1) (by omega) S1 h1 p
    exact ⟨S', h', by simp [forGo, SrcOk, e1, e], by simpa [Nat.add_assoc, Nat.add_comm 1] using p'⟩
theorem strs_map : ∀ cs : List Nat, AV.strs (cs.map fun c => .d (.str (one c))) = some (cs.map one)
  | [] => rfl
  | c :: cs => by simp [AV.strs, strs_map cs]
theorem toDs_ones : ∀ cs : List Nat, AV.toDs (cs.map fun c => .d (.str (one c))) = some (cs.map fun c => .str (one c))
  | [] => rfl
  | c :: cs => by simp [toDs_cons_d, toDs_ones cs]
theorem join_one (cs : List Nat) : Txt.join (Str.ofString "") (cs.map one) = ⟨cs.toArray⟩ := by
  rw [TL.join_eq]
  exact PyProof.Rows.join_ones cs
theorem any_name_nm {h : Hs} {a : Nat} (hB : B a h) :
    ∃ (x : Str) (h' : Hs), f_l_any_name [.r a] h = .ok (dS x) h' ∧ nmS x = true ∧ B a h' := by
  obtain ⟨r, h1, e1, r0, r1, B1⟩ := take_B hB 4 (by decide) (by decide)
  have lc := lc_st (S := [.v (.r a), .v (.d (.str "abcdefghijklmnopqrstuvwxyz")), .no, .no]) (i := 3)
    (elt := fun S h => (evE (f_l_any_name_E) f_l_any_name_e0 S h).bind toV1)
    (cs := fun S h => evTo (f_l_any_name_E) none S h)
    (B a) (fun y => ∃ c, c ∈ abc ∧ y = .d (.str (one c))) ((List.range (1 + r).toNat).map fun (i : Nat) => .d (.int i))
    (fun x _ h hB => by
      obtain ⟨r, h1, e1, r0, r1, B1⟩ := take_B hB 26 (by decide) (by decide)
      obtain ⟨c, ec, mc⟩ := atI_some (xs := ("abcdefghijklmnopqrstuvwxyz" : Str).cps.toList) r0 (by exact r1)
      refine ⟨.d (.str (one c)), h1, by simp [evTo], ?_, ⟨c, mc, rfl⟩, B1⟩
      simp [f_l_any_name_e0, evE, evL, e1, ec, abc_len, one]) [] h1 B1 (by
        simp
        have : (4 : Nat) ≤ sizeLine := by decide
        omega)
  obtain ⟨ys, h', ec, l, q, B2⟩ := lc
  obtain ⟨cs, rfl, hc⟩ := unmap ys q
  have lc4 : 1 ≤ cs.length ∧ cs.length ≤ 4 := by
    simp at l; omega
  have bnd : (List.map (fun x : Str => x.length) (cs.map one)).sum + (cs.map one).length * (Str.ofString "").length ≤ 16777216 := by
    have e : ∀ l : List Nat, (List.map (fun x : Str => x.length) (l.map one)).sum = l.length := by
      intro l
      induction l with
      | nil => rfl
      | cons a l ih => simp only [List.map_cons, List.sum_cons, ih, one_len, List.length_cons]; omega
    rw [e]
    have : (Str.ofString "").length = 0 := rfl
    rw [this]
    omega
  have rr : rngO [AV.d (D.int (1 + r))] = some ((List.range (1 + r).toNat).map fun (i : Nat) => .d (.int i), .fz) := by
    rw [rngO_1, if_pos (by omega)]
  simp only [List.nil_append] at ec
  have hj : ∀ h, vMth h .join (.str (Str.ofString "")) [.d (.lst (cs.map fun c => .str (one c)))] = some (dS ⟨cs.toArray⟩) := by
    intro h
    have e1 : ((cs.map fun c => Mp.D.str (one c)).map AV.d) = cs.map fun c => .d (.str (one c)) := by simp
    rw [vm_join]
    simp only [vw_d, dvw_lst, e1, strs_map, Option.bind_some]
    rw [if_pos (by simpa [Function.comp_def] using bnd), join_one]
  cases eb : inV (.str ⟨cs.toArray⟩) [.str "show", .str "drop", .str "if"] with
  | true =>
    refine ⟨Str.ofString "zz", h', ?_, by decide +kernel, B2⟩
    simp [f_l_any_name, Mp.run, f_l_any_name_b, evSs, evS, evE, evL, evI, evT, Res.st, wipeS, noOwn, e1, binO_eq, rr]
    simp [-vm_join, hj, ec, toDs_ones, Cell.frz, inO, RV.fv, AV.fv, D.fv, AV.fvs, inB, eb, AV.toDs, AV.toD]
  | false =>
    refine ⟨⟨cs.toArray⟩, h', ?_, ?_, B2⟩
    · simp [f_l_any_name, Mp.run, f_l_any_name_b, evSs, evS, evE, evL, evI, evT, Res.st, wipeS, noOwn, e1, binO_eq, rr]
      simp [-vm_join, hj, ec, toDs_ones, Cell.frz, inO, RV.fv, AV.fv, D.fv, AV.fvs, inB, eb, AV.toDs, AV.toD]
    · have l1 : (⟨cs.toArray⟩ : Str).length = cs.length := rfl
      simp only [nmS, l1, eb, Bool.not_false, Bool.and_true, Bool.and_eq_true, decide_eq_true_eq, lc4, and_self, true_and, List.all_eq_true]
      intro c m
      exact hc c (by simpa using m)
theorem names_eq (h : Hs) : f_l_names [] h = .ok (.f (.lst [.d (.str "a"), .d (.str "b"), .d (.str "c"), .d (.str "xy")])) h := by
  simp [Mp.run, evSs, evS, evE, evT, evTs, evTo, evL, evR, evB, evI, evO, Res.st, wipeS, noOwn, binO_eq, mkTup, AV.toDs, AV.toD, Cell.frz, evG_tp, forGo, SrcOk, lcGo, Vw.ty, tyAny, tyIs, kb_int, kb_bool, kb_str, kb_tup, f_l_names, f_l_names_b]
theorem name4 {r : Int} (r0 : 0 ≤ r) (r1 : r < 4) : ∃ x : Str, atI [AV.d (.str "a"), .d (.str "b"), .d (.str "c"), .d (.str "xy")] r = some (.d (.str x)) ∧ nmS x = true := by
  obtain ⟨x, e, m⟩ := atI_some (xs := [AV.d (.str "a"), .d (.str "b"), .d (.str "c"), .d (.str "xy")]) r0 (by simpa using r1)
  simp only [List.mem_cons, List.not_mem_nil, or_false] at m
  rcases m with rfl | rfl | rfl | rfl <;> exact ⟨_, e, by decide +kernel⟩
theorem wide_atom_ok {h : Hs} {a : Nat} (hB : B a h) : ∃ (x : At) (h' : Hs), f_l_wide_atom [.r a] h = .ok (.v (.d x.d)) h' ∧ x.ok ∧ B a h' := by
  obtain ⟨r, h1, e1, r0, r1, B1⟩ := take_B hB 4 (by decide) (by decide)
  by_cases k0 : r = 0
  · subst k0
    obtain ⟨x, h2, e2, n, B2⟩ := any_name_nm B1
    exact ⟨.nm x, h2, by simp [Mp.run, evSs, evS, evE, evT, evTs, evTo, evL, evR, evB, evI, evO, Res.st, wipeS, noOwn, binO_eq, mkTup, AV.toDs, AV.toD, Cell.frz, evG_tp, forGo, SrcOk, lcGo, Vw.ty, tyAny, tyIs, kb_int, kb_bool, kb_str, kb_tup, f_l_wide_atom, f_l_wide_atom_b, e1, e2, At.d], n, B2⟩
  · by_cases k1 : r = 1
    · subst k1
      obtain ⟨j, h2, e2, j0, j1, B2⟩ := take_B B1 4 (by decide) (by decide)
      obtain ⟨x, ex, n⟩ := name4 j0 j1
      exact ⟨.nm x, h2, by simp [Mp.run, evSs, evS, evE, evT, evTs, evTo, evL, evR, evB, evI, evO, Res.st, wipeS, noOwn, binO_eq, mkTup, AV.toDs, AV.toD, Cell.frz, evG_tp, forGo, SrcOk, lcGo, Vw.ty, tyAny, tyIs, kb_int, kb_bool, kb_str, kb_tup, f_l_wide_atom, f_l_wide_atom_b, e1, e2, names_eq, ex, At.d], n, B2⟩
    · obtain ⟨i, h2, e2, i0, i1, B2⟩ := take_B B1 1000 (by decide) (by decide)
      obtain ⟨j, h3, e3, j0, j1, B3⟩ := take_B B2 12 (by decide) (by decide)
      have : r = 2 ∨ r = 3 := by omega
      rcases this with rfl | rfl
      · exact ⟨.num i, h3, by simp [Mp.run, evSs, evS, evE, evT, evTs, evTo, evL, evR, evB, evI, evO, Res.st, wipeS, noOwn, binO_eq, mkTup, AV.toDs, AV.toD, Cell.frz, evG_tp, forGo, SrcOk, lcGo, Vw.ty, tyAny, tyIs, kb_int, kb_bool, kb_str, kb_tup, f_l_wide_atom, f_l_wide_atom_b, e1, e2, e3, At.d], ⟨i0, by omega⟩, B3⟩
      · exact ⟨.num j, h3, by simp [Mp.run, evSs, evS, evE, evT, evTs, evTo, evL, evR, evB, evI, evO, Res.st, wipeS, noOwn, binO_eq, mkTup, AV.toDs, AV.toD, Cell.frz, evG_tp, forGo, SrcOk, lcGo, Vw.ty, tyAny, tyIs, kb_int, kb_bool, kb_str, kb_tup, f_l_wide_atom, f_l_wide_atom_b, e1, e2, e3, At.d], ⟨j0, by omega⟩, B3⟩
theorem toDs_prD : ∀ ps : List (Bool × At), AV.toDs (ps.map fun q => .d (prD q)) = some (ps.map prD)
  | [] => rfl
  | p :: ps => by simp [toDs_cons_d, toDs_prD ps]
theorem toDs_Pr : ∀ ps : List Pr, AV.toDs (ps.map fun q => .d q.d) = some (ps.map Pr.d)
  | [] => rfl
  | p :: ps => by simp [toDs_cons_d, toDs_Pr ps]
theorem sg2 {r : Int} (r0 : 0 ≤ r) (r1 : r < 2) : ∃ s : Int, atI [AV.d (.int 1), .d (.int (-1))] r = some (.d (.int s)) ∧ (s = 1 ∨ s = -1) := by
  obtain ⟨x, e, m⟩ := atI_some (xs := [AV.d (.int 1), .d (.int (-1))]) r0 (by simpa using r1)
  simp only [List.mem_cons, List.not_mem_nil, or_false] at m
  rcases m with rfl | rfl <;> exact ⟨_, e, by simp⟩
theorem sg3 {r : Int} (r0 : 0 ≤ r) (r1 : r < 3) : ∃ s : Int, atI [AV.d (.int 1), .d (.int 1), .d (.int (-1))] r = some (.d (.int s)) ∧ (s = 1 ∨ s = -1) := by
  obtain ⟨x, e, m⟩ := atI_some (xs := [AV.d (.int 1), .d (.int 1), .d (.int (-1))]) r0 (by simpa using r1)
  simp only [List.mem_cons, List.not_mem_nil, or_false] at m
  rcases m with rfl | rfl | rfl <;> exact ⟨_, e, by simp⟩
theorem op2 {r : Int} (r0 : 0 ≤ r) (r1 : r < 2) : ∃ b : Bool, atI [AV.d (.str "*"), .d (.str "//")] r = some (.d (.str (opS b))) := by
  obtain ⟨x, e, m⟩ := atI_some (xs := [AV.d (.str "*"), .d (.str "//")]) r0 (by simpa using r1)
  simp only [List.mem_cons, List.not_mem_nil, or_false] at m
  rcases m with rfl | rfl
  · exact ⟨true, e⟩
  · exact ⟨false, e⟩
end K


set_option Elab.async false
set_option linter.all false
set_option maxRecDepth 100000
namespace K
open PySem PySem.Spec PyProof.Rows L2 Mp
theorem rng_ok {n : Int} (h0 : 0 ≤ n) (h1 : n ≤ 1000) : rngO [AV.d (D.int n)] = some ((List.range n.toNat).map fun (i : Nat) => .d (.int i), .fz) := by
  rw [rngO_1, if_pos (by omega)]
theorem wide_pairs {S0 : List SV} {a : Nat} (n : Nat) (hn : n ≤ 100) {x1 x2 x3 x4 x5 : SV} {h : Hs} (hB : B a h) :
    ∃ (ps : List (Bool × At)) (h' : Hs), lcGo (fun S h => (evE f_l_wide_sum_E f_l_wide_sum_e0 S h).bind toV1) (fun S h => evTo f_l_wide_sum_E none S h) (.nm 5) .fz [.v (.r a), x1, x2, x3, x4, x5] ((List.range n).map fun (i : Nat) => .d (.int i)) [] h = .ok (.f (.lst (ps.map fun q => .d (prD q)))) h' ∧ ps.length = n ∧ (∀ q ∈ ps, q.2.ok) ∧ B a h' := by
  have lc := lc_st (S := [.v (.r a), x1, x2, x3, x4, x5]) (i := 5)
    (elt := fun S h => (evE f_l_wide_sum_E f_l_wide_sum_e0 S h).bind toV1)
    (cs := fun S h => evTo f_l_wide_sum_E none S h)
    (B a) (fun y => ∃ q : Bool × At, q.2.ok ∧ y = .d (prD q)) ((List.range n).map fun (i : Nat) => .d (.int i))
    (fun x _ h hB => by
      obtain ⟨r, h1, e1, r0, r1, B1⟩ := take_B hB 2 (by decide) (by decide)
      obtain ⟨b, eb⟩ := op2 r0 r1
      obtain ⟨t, h2, e2, ot, B2⟩ := wide_atom_ok B1
      refine ⟨.d (prD (b, t)), h2, by simp [evTo], ?_, ⟨(b, t), ot, rfl⟩, B2⟩
      simp [Mp.run, evSs, evS, evE, evT, evTs, evTo, evL, evR, evB, evI, evO, Res.st, wipeS, noOwn, binO_eq, mkTup, AV.toDs, AV.toD, Cell.frz, evG_tp, forGo, SrcOk, lcGo, Vw.ty, tyAny, tyIs, kb_int, kb_bool, kb_str, kb_tup, f_l_wide_sum_e0, e1, e2, eb, prD]) [] h hB (by
        simp
        have : (100 : Nat) ≤ sizeLine := by decide
        omega)
  obtain ⟨ys, h', ec, l, q, B2⟩ := lc
  obtain ⟨ps, rfl, hp⟩ := unmap ys q
  exact ⟨ps, h', by simpa using ec, by simpa using l, hp, B2⟩
theorem toDs_prD' (ps : List (Bool × At)) : AV.toDs (ps.map (AV.d ∘ prD)) = some (ps.map prD) := toDs_prD ps
theorem app_Pr (s : List Pr) (sg : Int) (f : At) (ps : List (Bool × At)) : (s ++ [(⟨sg, f, ps⟩ : Pr)]).map (fun (q : Pr) => AV.d q.d) = s.map (fun q => AV.d q.d) ++ [AV.d (.tup [.int sg, f.d, .tup (ps.map prD)])] := by rw [List.map_append]; rfl
theorem len_sumN : ∀ s : List Pr, s.length ≤ sumN s
  | [] => by simp
  | p :: s => by
    have := len_sumN s
    simp [sumN] at this ⊢
    omega
theorem wide_loop {a : Nat} : ∀ (n : Nat) (left : Int) (s : List Pr) (h : Hs) (x3 x4 : SV), 0 ≤ left → left < n → left ≤ 8 → (sumN s : Int) + left ≤ 8 → (∀ q ∈ s, q.ok) → B a h →
    ∃ (s' : List Pr) (h' : Hs) (y3 y4 : SV), whileGo (fun S h => evT f_l_wide_sum_E (.cmp .Gt (.var 1) (.cst (.int 0))) S h) (fun S h => evSs f_l_wide_sum_E f_l_wide_sum_p1 S h) n [.v (.r a), .v (.d (.int left)), .own (.lst (s.map fun q => .d q.d)), x3, x4, .no] h = .nx [.v (.r a), .v (.d (.int 0)), .own (.lst (s'.map fun q => .d q.d)), y3, y4, .no] h' ∧ sumN s' ≤ 8 ∧ (∀ q ∈ s', q.ok) ∧ B a h' ∧ (sumN s' : Int) = sumN s + left
  | 0, left, _, _, _, _, h0, h1, _, _, _, _ => by omega
  | n + 1, left, s, h, x3, x4, h0, h1, h8, hs, ok, hB => by
    by_cases z : 0 < left
    · obtain ⟨r, g1, e1, r0, r1, B1⟩ := take_B hB left z (by omega)
      obtain ⟨ps, g2, e2, l2, o2, B2⟩ := wide_pairs (S0 := []) r.toNat (by omega) (x1 := .v (.d (.int left))) (x2 := .own (.lst (s.map fun q => .d q.d))) (x3 := .v (.d (.int (1 + r)))) (x4 := x4) (x5 := .no) B1
      obtain ⟨u, g3, e3, u0, u1, B3⟩ := take_B B2 2 (by decide) (by decide)
      obtain ⟨sg, es, sv⟩ := sg2 u0 u1
      obtain ⟨f, g4, e4, of, B4⟩ := wide_atom_ok B3
      have ls := len_sumN s
      have l8 : s.length < sizeLine := by
        have : (9 : Nat) ≤ sizeLine := by decide
        omega
      have rr := rng_ok r0 (by omega)
      obtain ⟨s', h', y3, y4, e, q⟩ := wide_loop n (left - (1 + r)) (s ++ [⟨sg, f, ps⟩]) g4 (.v (.d (.int (1 + r)))) (.v (.d (.lst (ps.map prD)))) (by omega) (by omega) (by omega) (by simp [sumN]; simp [sumN] at hs; omega)
        (fun q m => by
          rcases List.mem_append.mp m with m | m
          · exact ok q m
          · simp at m; subst m; exact ⟨sv, of, o2, by simp; omega⟩) B4
      have qs : (sumN (s ++ [(⟨sg, f, ps⟩ : Pr)]) : Int) + (left - (1 + r)) = sumN s + left := by
        have : sumN (s ++ [(⟨sg, f, ps⟩ : Pr)]) = sumN s + (1 + ps.length) := by simp [sumN]
        omega
      refine ⟨s', h', y3, y4, ?_, q.1, q.2.1, q.2.2.1, q.2.2.2.trans qs⟩
      have e0 : (1 + r - 1 : Int) = r := by omega
      have tt : evT f_l_wide_sum_E (.cmp .Gt (.var 1) (.cst (.int 0))) [.v (.r a), .v (.d (.int left)), .own (.lst (s.map fun q => .d q.d)), x3, x4, .no] h = .ok true h := by
        simp [evT, evE, z]
      have st : evSs f_l_wide_sum_E f_l_wide_sum_p1 [.v (.r a), .v (.d (.int left)), .own (.lst (s.map fun q => .d q.d)), x3, x4, .no] h = .nx [.v (.r a), .v (.d (.int (left - (1 + r)))), .own (.lst ((s ++ [(⟨sg, f, ps⟩ : Pr)]).map fun (q : Pr) => .d q.d)), .v (.d (.int (1 + r))), .v (.d (.lst (ps.map prD))), .no] g4 := by
        rw [app_Pr]
        simp [f_l_wide_sum_p1, evSs, evS, evE, evT, evL, evR, evI, Res.st, binO_eq, z, e1, e0, rr, noOwn, wipeS, e2, Cell.frz, toDs_prD, e3, es, e4, l8, mkTup, AV.toDs, AV.toD, toDs_prD']
      simp only [whileGo, tt, Res.st_ok, if_true, st]
      exact e
    · have : left = 0 := by omega
      subst this
      exact ⟨s, h, x3, x4, by simp [whileGo, evT, evE, Res.st], by omega, ok, hB, by omega⟩
theorem wide_sum_ne {h : Hs} {a : Nat} (hB : B a h) : ∃ (s : List Pr) (h' : Hs), f_l_wide_sum [.r a] h = .ok (.v (.d (sumD s))) h' ∧ sumN s ≤ 8 ∧ (∀ q ∈ s, q.ok) ∧ s ≠ [] ∧ B a h' := by
  obtain ⟨r, h1, e1, r0, r1, B1⟩ := take_B hB 8 (by decide) (by decide)
  obtain ⟨s, h2, y3, y4, e2, q1, q2, B2, qs⟩ := wide_loop 9 (1 + r) [] h1 .no .no (by omega) (by omega) (by omega) (by simp [sumN]; omega) (by simp) B1
  refine ⟨s, h2, ?_, q1, q2, fun z => ?_, B2⟩
  · simp only [List.map_nil] at e2
    simp [f_l_wide_sum, Mp.run, f_l_wide_sum_b, evSs, evS, evE, evL, evR, Res.st, binO_eq, e1, e2, List.replicate, mkTup, toDs_Pr, sumD]
  · subst z
    simp [sumN] at qs
    omega
end K


set_option Elab.async false
set_option linter.all false
set_option maxRecDepth 100000
namespace K
open PySem PySem.Spec PyProof.Rows L2 Mp
def RB (r : Room) (n : Nat) : Prop := (∀ p ∈ r, p.2.natAbs ≤ 1000000000) ∧ (r.map (·.1)).Nodup ∧ r.length ≤ n
theorem putA_ro (r : Room) (x : Str) (v : Int) : putA (roA r) (.inr x) (.d (.int v)) = roA (putA r x v) := by
  unfold putA
  have h1 : ((roA r).any fun kv => decide (kv.1 = Sum.inr x)) = r.any fun kv => decide (kv.1 = x) := by simp [roA, List.any_map, Function.comp_def]
  rw [h1]
  split
  · simp only [roA, List.map_map]
    apply List.map_congr_left
    intro p _
    by_cases e : p.1 = x <;> simp [e]
  · simp [roA]
theorem putA_RB {r : Room} {n : Nat} (h : RB r n) (x : Str) {v : Int} (hv : v.natAbs ≤ 1000000000) : RB (putA r x v) (n + 1) := by
  obtain ⟨h1, h2, h3⟩ := h
  unfold putA
  split
  · refine ⟨?_, ?_, by simp; omega⟩
    · intro p hp
      simp only [List.mem_map] at hp
      obtain ⟨q, hq, rfl⟩ := hp
      split
      · exact hv
      · exact h1 q hq
    · have : (r.map fun kv => if kv.1 = x then (kv.1, v) else kv).map (·.1) = r.map (·.1) := by
        rw [List.map_map]
        apply List.map_congr_left
        intro p _
        by_cases e : p.1 = x <;> simp [e]
      rw [this]
      exact h2
  · rename_i ha
    refine ⟨?_, ?_, by simp; omega⟩
    · intro p hp
      rcases List.mem_append.mp hp with hp | hp
      · exact h1 p hp
      · simp at hp; subst hp; exact hv
    · rw [List.map_append, List.nodup_append]
      refine ⟨h2, by simp, ?_⟩
      intro a ha' b hb e
      simp at hb
      subst hb e
      apply ha
      simp only [List.mem_map] at ha'
      obtain ⟨q, hq, rfl⟩ := ha'
      exact List.any_eq_true.mpr ⟨q, hq, by simp⟩
theorem RB.mono {r : Room} {n m : Nat} (h : RB r n) (l : n ≤ m) : RB r m := ⟨h.1, h.2.1, Nat.le_trans h.2.2 l⟩
theorem len_roA (r : Room) : (roA r).length = r.length := by simp [roA]
theorem sgn_mul {x s : Int} (hx : 0 ≤ x ∧ x ≤ 1000000000) (hs : s = 1 ∨ s = -1) : (x * s).natAbs ≤ 1000000000 := by
  rcases hs with rfl | rfl <;> omega
end K


set_option Elab.async false
set_option linter.all false
set_option maxRecDepth 100000
namespace K
open PySem PySem.Spec PyProof.Rows L2 Mp
theorem room_in {a : Nat} (A x3 x4 x5 x8 : SV) (m0 : Nat) (N : Nat) (hN : m0 + N ≤ 100) : ∀ (xs : List At), xs.length ≤ N → ∀ (r : Room) (h : Hs) (x6 x7 : SV), RB r m0 → B a h →
    ∃ (r' : Room) (h' : Hs) (y6 y7 : SV), forGo (fun S h => evSs f_l_wide_room_E f_l_wide_room_p1 S h) (.nm 6) .fz (xs.map fun q => .d q.d) [.v (.r a), A, .own (.dic (roA r)), x3, x4, x5, x6, x7, x8] h = .nx [.v (.r a), A, .own (.dic (roA r')), x3, x4, x5, y6, y7, x8] h' ∧ RB r' (m0 + xs.length) ∧ B a h' := by
  intro xs hl r h x6 x7 hr hB
  have bs : (100 : Nat) < sizeLine := by decide
  obtain ⟨S, h2, e2, r, y2, y3, rfl, hr, B2⟩ := for_sti (body := fun S h => evSs f_l_wide_room_E f_l_wide_room_p1 S h) (i := 6) N
    (fun n S h => ∃ (r : Room) (y6 y7 : SV), S = [.v (.r a), A, .own (.dic (roA r)), x3, x4, x5, y6, y7, x8] ∧ RB r (m0 + n) ∧ B a h)
    (xs.map fun q => .d q.d) (fun x m n S h hn => by
      rintro ⟨r, y6, y7, rfl, hr, hB⟩
      simp only [List.mem_map] at m
      obtain ⟨t, _, rfl⟩ := m
      cases t with
      | num k => exact ⟨_, h, by simp [Mp.run, evSs, evS, evE, evT, evTs, evTo, evL, evR, evB, evI, evO, Res.st, wipeS, noOwn, binO_eq, mkTup, AV.toDs, AV.toD, Cell.frz, evG_tp, forGo, SrcOk, lcGo, Vw.ty, tyAny, tyIs, kb_int, kb_bool, kb_str, kb_tup, f_l_wide_room_p1, At.d]; exact ⟨rfl, rfl⟩, r, _, _, rfl, hr.mono (by omega), hB⟩
      | nm k =>
        obtain ⟨j, g1, e1, j0, j1, B1⟩ := take_B hB 5 (by decide) (by decide)
        by_cases z : 0 < j
        · obtain ⟨u, g2, e2, u0, u1, B2⟩ := take_B B1 9 (by decide) (by decide)
          obtain ⟨w, g3, e3, w0, w1, B3⟩ := take_B B2 40000 (by decide) (by decide)
          obtain ⟨p, g4, e4, p0, p1, B4⟩ := take_B B3 1000000000 (by decide) (by decide)
          obtain ⟨i, g5, e5, i0, i1, B5⟩ := take_B B4 5 (by decide) (by decide)
          obtain ⟨o, g6, e6, o0, o1, B6⟩ := take_B B5 3 (by decide) (by decide)
          obtain ⟨sg, es, sv⟩ := sg3 o0 o1
          obtain ⟨v, ev, mv⟩ := atI_some (xs := [AV.d (.int u), .d (.int w), .d (.int 1000000000), .d (.int 0), .d (.int p)]) i0 (by simpa using i1)
          have : ∃ v' : Int, v = .d (.int v') ∧ 0 ≤ v' ∧ v' ≤ 1000000000 := by
            simp only [List.mem_cons, List.not_mem_nil, or_false] at mv
            rcases mv with rfl | rfl | rfl | rfl | rfl <;> exact ⟨_, rfl, by omega, by omega⟩
          obtain ⟨v', rfl, v0, v1⟩ := this
          have vb : -18446744073709551616 < v' ∧ v' < 18446744073709551616 := by omega
          have rl : r.length < sizeLine := by have := hr.2.2; omega
          refine ⟨[.v (.r a), A, .own (.dic (roA (putA r k (v' * sg)))), x3, x4, x5, .v (.d (.str k)), .v (.d (.int v')), x8], g6, ?_, putA r k (v' * sg), _, _, rfl, putA_RB hr k (sgn_mul ⟨v0, v1⟩ sv), B6⟩
          simp [Mp.run, evSs, evS, evE, evT, evTs, evTo, evL, evR, evB, evI, evO, Res.st, wipeS, noOwn, binO_eq, mkTup, AV.toDs, AV.toD, Cell.frz, evG_tp, forGo, SrcOk, lcGo, Vw.ty, tyAny, tyIs, kb_int, kb_bool, kb_str, kb_tup, f_l_wide_room_p1, At.d, e1, z, e2, e3, e4, e5, e6, es, ev, vb, len_roA, rl, putA_ro]
        · exact ⟨[.v (.r a), A, .own (.dic (roA r)), x3, x4, x5, .v (.d (.str k)), y7, x8], g1, by simp [Mp.run, evSs, evS, evE, evT, evTs, evTo, evL, evR, evB, evI, evO, Res.st, wipeS, noOwn, binO_eq, mkTup, AV.toDs, AV.toD, Cell.frz, evG_tp, forGo, SrcOk, lcGo, Vw.ty, tyAny, tyIs, kb_int, kb_bool, kb_str, kb_tup, f_l_wide_room_p1, At.d, e1, z], r, _, _, rfl, hr.mono (by omega), B1⟩) 0 (by simpa using hl)
    [.v (.r a), A, .own (.dic (roA r)), x3, x4, x5, x6, x7, x8] h ⟨r, _, _, rfl, by simpa using hr, hB⟩
  exact ⟨r, h2, y2, y3, e2, by simpa using hr, B2⟩
end K


set_option Elab.async false
set_option linter.all false
set_option maxRecDepth 100000
namespace K
open PySem PySem.Spec PyProof.Rows L2 Mp
def dig (c : Nat) : Bool := decide (c ∈ ("0123456789" : Str).cps.toList)
def atR (w : Str) : Option At := if nmS w = true then some (.nm w) else
  if 1 ≤ w.length ∧ w.length ≤ 3 ∧ w.cps.toList.all dig = true ∧ PySem.PyData.strOk w = true then
    match PySem.intText? w with
    | some n => if 0 ≤ n ∧ n ≤ 999 ∧ (toString n : Str) = w then some (.num n) else none
    | none => none
  else none
theorem found_dig (c : Nat) : (Builtin.Str.occurrences (Str.ofString "0123456789") ⟨#[c]⟩ 0 (Str.ofString "0123456789").length 1).isEmpty = !dig c := by
  have e := StrLaws.found_one (Str.ofString "0123456789") c
  rw [dig, ← e, Bool.not_not]
theorem atR_ok {w : Str} {a : At} (e : atR w = some a) : a.ok := by
  unfold atR at e
  split at e
  · rename_i h; cases e; exact h
  · split at e
    · split at e
      · split at e
        · rename_i h; cases e; exact ⟨h.1, h.2.1⟩
        · cases e
      · cases e
    · cases e
theorem log_lt {n : Int} (h0 : 0 ≤ n) (h1 : n ≤ 999) : n.natAbs.log2 < 1920 := by
  have : n.natAbs < 2 ^ 1920 := Nat.lt_of_lt_of_le (show n.natAbs < 2 ^ 10 by omega) (Nat.pow_le_pow_right (by omega) (by omega))
  by_cases z : n.natAbs = 0
  · rw [z]; decide
  · exact (Nat.log2_lt z).mpr this
theorem atom_in_ok (h : Hs) {w : Str} {a : At} (e : atR w = some a) (wl : w.length ≤ sizeLine) : f_atom_in [.d (.str w)] h = .ok (.v (.d a.d)) h := by
  have en := is_str h w wl
  unfold atR at e
  split at e
  · rename_i hn
    cases e
    rw [hn] at en
    simp [Mp.run, evSs, evS, evE, evT, evTs, evTo, evL, evR, evB, evI, evO, Res.st, wipeS, noOwn, binO_eq, mkTup, AV.toDs, AV.toD, Cell.frz, evG_tp, forGo, SrcOk, lcGo, Vw.ty, tyAny, tyIs, kb_int, kb_bool, kb_str, kb_tup, f_atom_in, f_atom_in_b, en, At.d]
  · rename_i hn
    have hn : nmS w = false := by simpa using hn
    rw [hn] at en
    split at e
    · rename_i hc
      obtain ⟨c1, c2, c3, c4⟩ := hc
      split at e
      · rename_i n hi
        split at e
        · rename_i hz
          obtain ⟨z1, z2, z3⟩ := hz
          cases e
          have lc := lc_map (elt := fun S h => (evE f_atom_in_E f_atom_in_e0 S h).bind toV1) (cs := fun S h => evTo f_atom_in_E none S h) (S := [.v (.d (.str w)), .no]) (i := 1)
            (fun c : Nat => .d (.str ⟨#[c]⟩)) (fun c => .d (.bl (dig c))) h w.cps.toList (fun c _ => ⟨by simp [evTo], by
              simp [f_atom_in_e0, evE, inO, RV.fv, AV.fv, D.fv]
              exact found_dig c⟩) [] (by simp [len_cps]; exact wl)
          simp only [List.nil_append] at lc
          have i1 : (1 : Int) ≤ w.length := by omega
          have i2 : (w.length : Int) ≤ 3 := by omega
          have al : ((w.cps.toList.map dig).all id) = true := by rw [List.all_map]; exact c3
          have bi : bltO h .int [.v (.d (.str w))] = some (di n) := by simp [bltO, show w.length ≤ 640 by omega, hi]
          have cm : eqO h (dS w) (dS w) = some true := by
            have q := eqO_d (h := h) (Cm_str c4) (Cm_str c4)
            rw [dEq_self (by simpa only [okD] using c4)] at q
            exact q
          have ll := log_lt z1 z2
          have bs : bltO h .str [.v (.d (.int n))] = some (dS w) := by
            rw [blt_str, if_pos ll]
            exact congrArg (fun x => some (dS x)) z3
          have ba : bltO h .all [.v (.d (.lst (w.cps.toList.map fun c => .bl (dig c))))] = some (db true) := by
            have e1 : ((w.cps.toList.map fun c => Mp.D.bl (dig c)).map AV.d) = w.cps.toList.map fun c => .d (.bl (dig c)) := by simp
            rw [blt_all_d, e1, bls_map, Option.map_some, al]
          simp [f_atom_in, Mp.run, f_atom_in_b, evSs, evS, evE, evB, evI, evL, evR, evO, evT, evTs, Res.st, wl, en, i1, i2, noOwn, wipeS, lc, toDs_bls, Cell.frz, -blt_str, -blt_all_d, ba, bi, bs, cm, At.d]
        · cases e
      · cases e
    · cases e
def rdGo : List (Str × Str) → List Pr → Option (List Pr)
  | [], acc => some acc
  | (w, t) :: r, acc => match atR t with
    | none => none
    | some a => if w = Str.ofString "+" then rdGo r (acc ++ [⟨1, a, []⟩]) else if w = Str.ofString "-" then rdGo r (acc ++ [⟨-1, a, []⟩]) else
      if w = Str.ofString "*" ∨ w = Str.ofString "//" then
        match acc.getLast? with
        | none => none
        | some p => rdGo r (acc.dropLast ++ [⟨p.s, p.f, p.ps ++ [(decide (w = Str.ofString "*"), a)]⟩])
      else none
def flatA : List (Str × Str) → List AV
  | [] => []
  | (a, b) :: r => .d (.str a) :: .d (.str b) :: flatA r
def flatS : List (Str × Str) → List Str
  | [] => []
  | (a, b) :: r => a :: b :: flatS r
theorem flat_map : ∀ ws : List (Str × Str), (flatS ws).map (fun z => AV.d (.str z)) = flatA ws
  | [] => rfl
  | (a, b) :: r => by simp [flatS, flatA, flat_map r]
theorem flat_len : ∀ ws : List (Str × Str), (flatS ws).length = 2 * ws.length
  | [] => rfl
  | (a, b) :: r => by simp [flatS, flat_len r]; omega
theorem flatA_len : ∀ ws : List (Str × Str), (flatA ws).length = 2 * ws.length
  | [] => rfl
  | (a, b) :: r => by simp [flatA, flatA_len r]; omega
theorem ix_a : ∀ n, n < 9 → sliceRange (sliceBounds none none (some 2) (2 * n)).1 (sliceBounds none none (some 2) (2 * n)).2.1 (sliceBounds none none (some 2) (2 * n)).2.2 = (List.range n).map fun i => 2 * i := by decide +kernel
theorem ix_b : ∀ n, n < 9 → sliceRange (sliceBounds (some 1) none (some 2) (2 * n)).1 (sliceBounds (some 1) none (some 2) (2 * n)).2.1 (sliceBounds (some 1) none (some 2) (2 * n)).2.2 = (List.range n).map fun i => 2 * i + 1 := by decide +kernel
theorem fm_a : ∀ ws : List (Str × Str), ((List.range ws.length).map fun i => 2 * i).filterMap ((flatA ws)[·]?) = ws.map fun p => .d (.str p.1)
  | [] => rfl
  | (a, b) :: r => by
    have ih := fm_a r
    rw [List.length_cons, List.range_succ_eq_map]
    simp only [List.filterMap_map, List.map_cons, List.map_map, List.filterMap_cons, Nat.mul_zero, flatA, List.getElem?_cons_zero, List.cons.injEq, true_and]
    rw [← ih, List.filterMap_map]
    congr 1
theorem fm_b : ∀ ws : List (Str × Str), ((List.range ws.length).map fun i => 2 * i + 1).filterMap ((flatA ws)[·]?) = ws.map fun p => .d (.str p.2)
  | [] => rfl
  | (a, b) :: r => by
    have ih := fm_b r
    rw [List.length_cons, List.range_succ_eq_map]
    simp only [List.filterMap_map, List.map_cons, List.map_map, List.filterMap_cons, Nat.mul_zero, Nat.zero_add, flatA, List.getElem?_cons_zero, List.getElem?_cons_succ, List.cons.injEq, true_and]
    rw [← ih, List.filterMap_map]
    congr 1
theorem pick_a (ws : List (Str × Str)) (h : ws.length ≤ 8) : Mp.pickL (flatA ws) none 2 = ws.map fun p => .d (.str p.1) := by
  rw [Mp.pickL, flatA_len, ix_a _ (by omega), fm_a]
theorem pick_b (ws : List (Str × Str)) (h : ws.length ≤ 8) : Mp.pickL (flatA ws) (some 1) 2 = ws.map fun p => .d (.str p.2) := by
  rw [Mp.pickL, flatA_len, ix_b _ (by omega), fm_b]
/-- what a read sum keeps -/
def kept (acc : List Pr) : Prop := ∀ q ∈ acc, (q.s = 1 ∨ q.s = -1) ∧ q.f.ok ∧ ∀ p ∈ q.ps, p.2.ok
theorem op_ok (b : Bool) : PySem.PyData.strOk (opS b) = true := by cases b <;> decide +kernel
theorem okD_Pr {q : Pr} (h : q.f.ok ∧ ∀ p ∈ q.ps, p.2.ok) : okD q.d = true ∧ dpD q.d ≤ 30 := by
  have a := at_cm h.1
  constructor
  · simp only [Pr.d, okD, okDs, a.1, Bool.true_and, Bool.and_true]
    exact okDs_map fun p hp => by simp only [prD, okD, okDs, op_ok, (at_cm (h.2 p hp)).1, Bool.and_self]
  · have : dpDs (q.ps.map prD) ≤ 11 := dpDs_map fun p hp => by
      have := (at_cm (h.2 p hp)).2
      simp only [prD, dpD, dpDs]
      omega
    have := a.2
    simp only [Pr.d, dpD, dpDs]
    omega
theorem kept_cm {acc : List Pr} (k : kept acc) : Cm (.lst (acc.map Pr.d)) :=
  Cm_lst ⟨okDs_map fun q hq => (okD_Pr (k q hq).2).1, dpDs_map fun q hq => by have := (okD_Pr (k q hq).2).2; omega⟩
theorem cm_nil : Cm (.lst []) := ⟨by decide, by decide⟩
theorem ne_nil {h : Hs} {i : Nat} {acc : List Pr} (k : kept acc) : eqO h (.b i (.lst (acc.map fun q => .d q.d))) (.f (.lst [])) = some acc.isEmpty := by
  have e1 : (RV.b i (.lst (acc.map fun q => .d q.d))).res h = some (.lst (acc.map Pr.d)) := by
    simp [RV.res, Cell.res, Cell.frz, toDs_Pr, AV.toD]
  have e2 : (RV.f (.lst [])).res h = some (.lst []) := rfl
  rw [eqO_res e1 e2 (kept_cm k) cm_nil, dEq_lst]
  cases acc with
  | nil => simp [dEqs_nil]
  | cons p acc => simp only [List.map_cons, dEqs_cn, List.isEmpty_cons]
theorem sgs (x : Str) : List.lookup x [("+", Mp.D.int 1), ("-", Mp.D.int (-1))] = if x = Str.ofString "+" then some (.int 1) else if x = Str.ofString "-" then some (.int (-1)) else none := by
  by_cases h1 : x = Str.ofString "+"
  · subst h1; rfl
  · by_cases h2 : x = Str.ofString "-"
    · subst h2; rfl
    · simp [List.lookup, h1, h2]
      rw [show (x == Str.ofString "+") = false by simpa using h1, show (x == Str.ofString "-") = false by simpa using h2]
theorem mkTup_app (xs : List Mp.D) (y : Mp.D) : Mp.mkTup (xs.map .d ++ [.d y]) = .d (.tup (xs ++ [y])) := by
  have := mkTup_map (xs ++ [y])
  simpa using this
theorem mm_Pr (s : List Pr) : (s.map Pr.d).map AV.d = s.map fun q => .d q.d := by simp
theorem in_ops (h : Hs) (b : Bool) : inO h (.v (.d (.str (opS b)))) (.v (.d (.tup [.str "*", .str "//"]))) = some true := by
  cases b <;> rfl
theorem mul_st (h : Hs) (A W x5 x6 x7 x8 : SV) (ini : List Pr) (p : Pr) (b : Bool) (t : Str) (a : At) (ai : f_atom_in [.d (.str t)] h = .ok (.v (.d a.d)) h) (k : kept (ini ++ [p])) (li : ini.length ≤ 100) (lp : p.ps.length ≤ 100) :
    evSs f_read_sum_E f_read_sum_p0 [A, W, .own (.lst ((ini ++ [p]).map fun q => .d q.d)), .v (.d (.str (opS b))), .v (.d (.str t)), x5, x6, x7, x8] h = .nx [A, W, .own (.lst ((ini ++ [(⟨p.s, p.f, p.ps ++ [(b, a)]⟩ : Pr)]).map fun (q : Pr) => .d q.d)), .v (.d (.str (opS b))), .v (.d (.str t)), .v (.d (.lst (ini.map Pr.d))), .v (.d (.int p.s)), .v (.d p.f.d), .v (.d (.tup (p.ps.map prD)))] h := by
  have b100 : (1000 : Nat) < sizeLine := by decide
  have ne : eqO h (.b 2 (.lst ((ini.map fun q => .d q.d) ++ [.d p.d]))) (.f (.lst [])) = some false := by
    have := ne_nil (h := h) (i := 2) k
    rw [List.map_append, show (ini ++ [p]).isEmpty = false by cases ini <;> rfl] at this
    exact this
  have ng : ∀ b : Bool, List.lookup (opS b) [(Str.ofString "+", Mp.D.int 1), (Str.ofString "-", Mp.D.int (-1))] = none := by
    intro b; cases b <;> rfl
  have l1 : ini.length + 1 ≤ sizeLine := by omega
  have l2 : p.ps.length + 1 ≤ sizeLine := by omega
  have q0 : (ini ++ [p]).map (fun q => AV.d q.d) = (ini.map fun q => .d q.d) ++ [.d p.d] := by simp
  have q1 : (ini ++ [(⟨p.s, p.f, p.ps ++ [(b, a)]⟩ : Pr)]).map (fun (q : Pr) => AV.d q.d) = (ini.map fun q => .d q.d) ++ [.d (.tup [.int p.s, p.f.d, .tup (p.ps.map prD ++ [.tup [.str (opS b), a.d]])])] := by
    rw [List.map_append]; simp [Pr.d, prD]
  have tk : ((ini.map fun q : Pr => AV.d q.d) ++ [AV.d p.d] : List AV).take (ini.length) = ini.map fun q => .d q.d := by
    exact List.take_left' (by simp)
  have dr : ((ini.map fun q : Pr => AV.d q.d) ++ [AV.d p.d] : List AV).drop (ini.length) = [.d p.d] := by
    exact List.drop_left' (by simp)
  have pv : (AV.d p.d).vw h = some (.tup [.d (.int p.s), .d p.f.d, .d (.tup (p.ps.map prD))]) := rfl
  have ev : ∀ S, evG h (.tp [.nm 6, .nm 7, .nm 8]) (AV.d p.d) S = evGs h [.nm 6, .nm 7, .nm 8] [.d (.int p.s), .d p.f.d, .d (.tup (p.ps.map prD))] S := fun S => evG_tp (h := h) _ _ _ S pv
  have mo : Mp.mkTup [AV.d (.str "*"), .d (.str "//")] = .d (.tup [.str "*", .str "//"]) := rfl
  have ik : inO h (.v (.d (.str (opS b)))) (.v (.d (.kdc [("+", .int 1), ("-", .int (-1))]))) = some false := by cases b <;> rfl
  have mt : Mp.mkTup [AV.d (.str (opS b)), .d a.d] = .d (.tup [.str (opS b), a.d]) := rfl
  have mt1 : ∀ x : Mp.D, Mp.mkTup [AV.d x] = .d (.tup [x]) := fun _ => rfl
  have mt3 : ∀ x y z : Mp.D, Mp.mkTup [AV.d x, .d y, .d z] = .d (.tup [x, y, z]) := fun _ _ _ => rfl
  have fz : Cell.frz (.lst (ini.map fun q => .d q.d)) = some (.d (.lst (ini.map Pr.d))) := by simp [Cell.frz, toDs_Pr]
  rw [q0, q1]
  simp [-List.map_map, f_read_sum_p0, evSs, evS, evE, evL, evR, evT, evTs, Res.st, in_ops, ne, binO_eq, ng, ai, tk, dr, ev, mo, ik, mt, mt1, mt3, mkTup_app, l1, l2, fz, mm_Pr]
theorem rd_loop (h : Hs) (A W : SV) : ∀ (ws : List (Str × Str)) (acc out : List Pr) (n : Nat) (x3 x4 x5 x6 x7 x8 : SV), (∀ p ∈ ws, p.2.length ≤ 1000) → rdGo ws acc = some out → kept acc → sumN acc ≤ n → n + ws.length ≤ 100 →
    kept out ∧ sumN out ≤ n + ws.length ∧ ∃ y3 y4 y5 y6 y7 y8, forGo (fun S h => evSs f_read_sum_E f_read_sum_p0 S h) (.tp [.nm 3, .nm 4]) .fz (ws.map fun p => .d (.tup [.str p.1, .str p.2])) [A, W, .own (.lst (acc.map fun q => .d q.d)), x3, x4, x5, x6, x7, x8] h = .nx [A, W, .own (.lst (out.map fun q => .d q.d)), y3, y4, y5, y6, y7, y8] h
  | [], acc, out, n, x3, x4, x5, x6, x7, x8, _, e, k, hn, _ => by
    simp only [rdGo, Option.some.injEq] at e
    subst e
    exact ⟨k, by omega, x3, x4, x5, x6, x7, x8, by simp [forGo, SrcOk]⟩
  | (w, t) :: ws, acc, out, n, x3, x4, x5, x6, x7, x8, hw, e, k, hn, hl => by
    simp only [List.length_cons] at hl
    have b100 : (1000 : Nat) < sizeLine := by decide
    have tl := hw (w, t) (.head _)
    have la := len_sumN acc
    have lacc : acc.length < sizeLine := by omega
    simp only [rdGo] at e
    cases ea : atR t with
    | none => rw [ea] at e; cases e
    | some a =>
      simp only [ea] at e
      have ai := atom_in_ok h ea (by simp only at tl; omega)
      have ao := atR_ok ea
      have sgn : ∀ s : Int, (s = 1 ∨ s = -1) → kept (acc ++ [⟨s, a, []⟩]) ∧ sumN (acc ++ [(⟨s, a, []⟩ : Pr)]) ≤ n + 1 := by
        intro s hs
        refine ⟨?_, by simp [sumN] at hn ⊢; omega⟩
        intro q m
        rcases List.mem_append.mp m with m | m
        · exact k q m
        · simp at m; subst m; exact ⟨hs, ao, by simp⟩
      by_cases p1 : w = Str.ofString "+"
      · rw [if_pos p1] at e
        obtain ⟨k', n'⟩ := sgn 1 (.inl rfl)
        obtain ⟨ko, no, y3, y4, y5, y6, y7, y8, R⟩ := rd_loop h A W ws _ out (n + 1) (.v (.d (.str w))) (.v (.d (.str t))) x5 x6 x7 x8 (fun p m => hw p (.tail _ m)) e k' n' (by omega)
        refine ⟨ko, by simp; omega, y3, y4, y5, y6, y7, y8, ?_⟩
        rw [app_Pr] at R
        have st : evSs f_read_sum_E f_read_sum_p0 [A, W, .own (.lst (acc.map fun q => .d q.d)), .v (.d (.str w)), .v (.d (.str t)), x5, x6, x7, x8] h = .nx [A, W, .own (.lst ((acc.map fun q => .d q.d) ++ [.d (.tup [.int 1, a.d, .tup []])])), .v (.d (.str w)), .v (.d (.str t)), x5, x6, x7, x8] h := by
          simp [Mp.run, evSs, evS, evE, evT, evTs, evTo, evL, evR, evB, evI, evO, Res.st, wipeS, noOwn, binO_eq, mkTup, AV.toDs, AV.toD, Cell.frz, evG_tp, forGo, SrcOk, lcGo, Vw.ty, tyAny, tyIs, kb_int, kb_bool, kb_str, kb_tup, f_read_sum_p0, inO, sgs, p1, ai, lacc]
        simp only [List.map_nil] at R
        simp [-List.map_map, forGo, SrcOk, evG_tp, st, R]
      · rw [if_neg p1] at e
        by_cases p2 : w = Str.ofString "-"
        · rw [if_pos p2] at e
          obtain ⟨k', n'⟩ := sgn (-1) (.inr rfl)
          obtain ⟨ko, no, y3, y4, y5, y6, y7, y8, R⟩ := rd_loop h A W ws _ out (n + 1) (.v (.d (.str w))) (.v (.d (.str t))) x5 x6 x7 x8 (fun p m => hw p (.tail _ m)) e k' n' (by omega)
          refine ⟨ko, by simp; omega, y3, y4, y5, y6, y7, y8, ?_⟩
          rw [app_Pr] at R
          have st : evSs f_read_sum_E f_read_sum_p0 [A, W, .own (.lst (acc.map fun q => .d q.d)), .v (.d (.str w)), .v (.d (.str t)), x5, x6, x7, x8] h = .nx [A, W, .own (.lst ((acc.map fun q => .d q.d) ++ [.d (.tup [.int (-1), a.d, .tup []])])), .v (.d (.str w)), .v (.d (.str t)), x5, x6, x7, x8] h := by
            subst p2
            simp [Mp.run, evSs, evS, evE, evT, evTs, evTo, evL, evR, evB, evI, evO, Res.st, wipeS, noOwn, binO_eq, mkTup, AV.toDs, AV.toD, Cell.frz, evG_tp, forGo, SrcOk, lcGo, Vw.ty, tyAny, tyIs, kb_int, kb_bool, kb_str, kb_tup, f_read_sum_p0, inO, sgs, p1, ai, lacc]
          simp only [List.map_nil] at R
          simp [-List.map_map, forGo, SrcOk, evG_tp, st, R]
        · rw [if_neg p2] at e
          by_cases p3 : w = Str.ofString "*" ∨ w = Str.ofString "//"
          · rw [if_pos p3] at e
            rcases List.eq_nil_or_concat acc with rfl | ⟨ini, p, rfl⟩
            · simp at e
            · simp only [List.concat_eq_append, List.getLast?_concat, List.dropLast_concat] at e k hn lacc la ⊢
              have kp := k p (by simp)
              have k' : kept (ini ++ [⟨p.s, p.f, p.ps ++ [(decide (w = Str.ofString "*"), a)]⟩]) := by
                intro q m
                rcases List.mem_append.mp m with m | m
                · exact k q (by simp [m])
                · simp at m; subst m
                  refine ⟨kp.1, kp.2.1, ?_⟩
                  intro z mz
                  rcases List.mem_append.mp mz with mz | mz
                  · exact kp.2.2 z mz
                  · simp at mz; subst mz; exact ao
              obtain ⟨ko, no, y3, y4, y5, y6, y7, y8, R⟩ := rd_loop h A W ws _ out (n + 1) (.v (.d (.str w))) (.v (.d (.str t))) (.v (.d (.lst (ini.map Pr.d)))) (.v (.d (.int p.s))) (.v (.d p.f.d)) (.v (.d (.tup (p.ps.map prD)))) (fun p m => hw p (.tail _ m)) e k' (by simp [sumN] at hn ⊢; omega) (by omega)
              refine ⟨ko, by simp; omega, y3, y4, y5, y6, y7, y8, ?_⟩
              have hb : w = opS (decide (w = Str.ofString "*")) := by
                rcases p3 with rfl | rfl <;> rfl
              have lp : p.ps.length ≤ 100 := by simp [sumN] at hn; omega
              have st := mul_st h A W x5 x6 x7 x8 ini p (decide (w = Str.ofString "*")) t a ai k (by simp at la; omega) lp
              rw [← hb] at st
              simp only [List.map_cons]
              simp only [forGo, SrcOk, if_true]
              rw [evG_tp (h := h) [.nm 3, .nm 4] (.d (.tup [.str w, .str t])) [.d (.str w), .d (.str t)] _ rfl]
              simp only [evGs_cons, evG_nm, Option.bind_some, evGs_nil, List.set_cons_succ, List.set_cons_zero]
              rw [st]
              exact R
          · rw [if_neg p3] at e; cases e
end K


set_option Elab.async false
set_option linter.all false
set_option maxRecDepth 100000
namespace K
open PySem PySem.Spec PyProof.Rows L2 Mp
def head? : List Str → Option Str
  | [] => none
  | x :: _ => some x
theorem head_at (l : List Str) (x : Str) (e : head? l = some x) : atI (l.map fun z => AV.d (.str z)) 0 = some (.d (.str x)) := by
  cases l with
  | nil => cases e
  | cons y l => cases e; simp
theorem toDs_S (l : List Str) : AV.toDs (l.map fun z => AV.d (.str z)) = some (l.map .str) := by
  induction l with
  | nil => rfl
  | cons x l ih => simp [toDs_cons_d, ih]
theorem zs_ok (ws : List (Str × Str)) : zsO [.d (.lst (ws.map fun p => .str p.1)), .d (.lst (ws.map fun p => .str p.2))] = some (ws.map fun p => .d (.tup [.str p.1, .str p.2]), .fz) := by
  simp only [zsO, lsO, Option.bind_some, List.length_map, if_true, Option.some.injEq, Prod.mk.injEq, and_true]
  induction ws with
  | nil => rfl
  | cons p ws ih => simp only [List.map_cons, List.zip_cons_cons, List.map_cons, ih]; rfl
/-- a text, its words by twos, the sum -/
theorem read_ok (h : Hs) (t : Str) (x : Str) (ws : List (Str × Str)) (out : List Pr) (tl : t.length ≤ 1000) (hx : head? (Txt.split t " ") = some x) (xo : PySem.PyData.strOk x = true) (sl : (Txt.split t " ").length ≤ 100)
    (hw : (if x = Str.ofString "-" then Txt.split t " " else Str.ofString "+" :: Txt.split t " ") = flatS ws) (wl : ws.length ≤ 8) (wb : ∀ p ∈ ws, p.2.length ≤ 1000) (e : rdGo ws [] = some out) :
    f_read_sum [.d (.str t)] h = .ok (.v (.d (sumD out))) h ∧ kept out ∧ sumN out ≤ ws.length := by
  have b100 : (1000 : Nat) < sizeLine := by decide
  obtain ⟨ko, no, y3, y4, y5, y6, y7, y8, R⟩ := rd_loop h (.v (.d (.str t))) (.v (.d (.lst ((flatS ws).map .str)))) ws [] out 0 .no .no .no .no .no .no wb e (by intro q m; cases m) (by simp [sumN]) (by omega)
  refine ⟨?_, ko, by simpa using no⟩
  have e1 := head_at _ _ hx
  have ne : ∀ h, eqO h (.v (.d (.str x))) (.v (.d (.str "-"))) = some (x == Str.ofString "-") := fun h => by
    rw [eqO_d (Cm_str xo) (Cm_str (by decide +kernel)), dEq_str]
  have tl2 : t.length + 2 ≤ sizeLine := Nat.le_trans (Nat.add_le_add_right tl 2) (by decide)
  have mm : ((flatS ws).map Mp.D.str).map AV.d = flatA ws := by rw [← flat_map, List.map_map]; rfl
  have pa := pick_a ws wl
  have pb := pick_b ws wl
  have fl := flatA_len ws
  have md : (2 * (ws.length : Int)).fmod 2 = 0 := by
    rw [Int.fmod_eq_emod_of_nonneg _ (by decide)]; omega
  have lt : ¬ (16 : Int) < 2 * (ws.length : Int) := by omega
  have ta : AV.toDs (ws.map fun p => AV.d (.str p.1)) = some (ws.map fun p => .str p.1) := by
    have := toDs_S (ws.map (·.1)); simpa [Function.comp_def] using this
  have tb : AV.toDs (ws.map fun p => AV.d (.str p.2)) = some (ws.map fun p => .str p.2) := by
    have := toDs_S (ws.map (·.2)); simpa [Function.comp_def] using this
  have zo := zs_ok ws
  have fb : evSs f_read_sum_E (f_read_sum_b.drop 3) [.v (.d (.str t)), .v (.d (.lst ((flatS ws).map .str))), .no, .no, .no, .no, .no, .no, .no] h = .rt (.v (.d (sumD out))) h := by
    simp only [List.map_nil] at R
    simp [-List.map_map, f_read_sum_b, evSs, evS, evE, evL, evR, evO, evI, evT, evTs, Res.st, binO_eq, mm, fl, md, lt, pa, pb, Cell.frz, ta, tb, zo, R, mkTup, toDs_Pr, sumD]
  have hs : evSs f_read_sum_E f_read_sum_b [.v (.d (.str t)), .no, .no, .no, .no, .no, .no, .no, .no] h = evSs f_read_sum_E (f_read_sum_b.drop 3) [.v (.d (.str t)), .v (.d (.lst ((flatS ws).map .str))), .no, .no, .no, .no, .no, .no, .no] h := by
    have sl1 : 1 + (Txt.split t (Str.ofString " ")).length ≤ sizeLine := by omega
    have mS : ∀ l : List Str, (l.map Mp.D.str).map AV.d = l.map fun z => .d (.str z) := fun l => by simp
    rw [show f_read_sum_b = f_read_sum_b.take 3 ++ f_read_sum_b.drop 3 from rfl]
    generalize hd : f_read_sum_b.drop 3 = rest
    by_cases q : x = Str.ofString "-"
    · rw [if_pos q] at hw
      subst q
      simp [-List.map_map, f_read_sum_b, evSs, evS, evE, evL, evR, evO, evI, evT, evTs, Res.st, binO_eq, Vw.ty, tyAny, tyIs, kb_str, show ¬ (Str.ofString " ").length = 0 by decide, tl2, Cell.frz, toDs_S, mS, e1, ne]
      rw [hw]
    · rw [if_neg q] at hw
      have qf : (x == Str.ofString "-") = false := by simpa using q
      have hm : Mp.D.str (Str.ofString "+") :: (Txt.split t (Str.ofString " ")).map .str = (flatS ws).map .str := by rw [← hw]; rfl
      simp [-List.map_map, f_read_sum_b, evSs, evS, evE, evL, evR, evO, evI, evT, evTs, Res.st, binO_eq, Vw.ty, tyAny, tyIs, kb_str, show ¬ (Str.ofString " ").length = 0 by decide, tl2, Cell.frz, toDs_S, toDs_cons_d, AV.toDs, AV.toD, mS, e1, ne, qf, sl1, hm]
  simp [f_read_sum, Mp.run, List.replicate, hs, fb]
end K


set_option Elab.async false
set_option linter.all false
set_option maxRecDepth 100000
namespace K
open PySem PySem.Spec PyProof.Rows L2 Mp
def twos : List Str → Option (List (Str × Str))
  | [] => some []
  | [_] => none
  | a :: b :: r => (twos r).map ((a, b) :: ·)
def rdS (t : Str) : Option (List Pr) := match head? (Txt.split t " ") with
  | none => none
  | some x => if t.length ≤ 1000 ∧ PySem.PyData.strOk x = true ∧ (Txt.split t " ").length ≤ 100 then
      match twos (if x = Str.ofString "-" then Txt.split t " " else Str.ofString "+" :: Txt.split t " ") with
      | none => none
      | some ws => if ws.length ≤ 8 ∧ ws.all (fun p => decide (p.2.length ≤ 1000)) = true then rdGo ws [] else none
    else none
def T1 : List Str := ["c", "xy", "c + 1", "xy - 1", "c - 1 + 1", "c + 1 - 1", "c * 1", "- c", "- xy", "c * 2 // 2", "a * b"]
end K


set_option Elab.async false
set_option linter.all false
set_option maxRecDepth 100000
namespace K
open PySem PySem.Spec PyProof.Rows L2 Mp
theorem atI_2 {α : Type} (x y z : α) (xs : List α) : atI (x :: y :: z :: xs) 2 = some z := by rw [atI_pos (by omega) (by simp; omega)]; rfl
theorem rng_ev {F : Fn} {e : ME} {S : List SV} {h : Hs} {j : Int} {p : List AV × Src} (he : evE F e S h = .ok (di j) h) (hr : rngO [AV.d (D.int j)] = some p) : evI F (.rng [e]) S h = .ok p h := by
  rw [evI, evL, he]; simp only [evL, hr, Res.bind_ok, toV1_v, ok1_some]
theorem lcm_eq {F : Fn} {elt : ME} {tg : MT} {it : MI} {cs : Option MC} {own : List Nat} {S : List SV} {h h1 : Hs} {items : List AV} {src : Src} (n : noOwn S own = true) (ei : evI F it S h = .ok (items, src) h1) :
    evE F (.lcm elt tg it cs own) S h = lcGo (fun S h => (evE F elt S h).bind toV1) (fun S h => evTo F cs S h) tg src (wipeS S own) items [] h1 := by
  rw [evE, if_pos n, ei]; rfl
theorem evS_ife (F : Fn) (c : MC) (a b : List MS) (S : List SV) (h : Hs) : evS F (.ife c a b) S h = (evT F c S h).st S fun k h1 => if k = true then evSs F a S h1 else evSs F b S h1 := by rw [evS]
end K


set_option Elab.async false
set_option linter.all false
set_option maxRecDepth 100000
namespace K
open PySem PySem.Spec PyProof.Rows L2 Mp
/-! ### a sum's value in a room that may be a cell, and what it reads -/
def atN : At → List Str
  | .nm x => [x]
  | .num _ => []
def pvL (r : Room) : Int → List (Bool × At) → List Str
  | _, [] => []
  | p, (o, a) :: ps => atN a ++ match atV r a with
    | none => []
    | some x => if o = false ∧ x = 0 then [] else
      if big (if o = true then p * x else p.fdiv x) = true then [] else pvL r (if o = true then p * x else p.fdiv x) ps
def svL (r : Room) : Int → List Pr → List Str
  | _, [] => []
  | t, p :: ps => pvL r 1 ((true, p.f) :: p.ps) ++ match pvGo r 1 ((true, p.f) :: p.ps) with
    | .error _ => []
    | .ok v => if big (t + p.s * v) = true then [] else svL r (t + p.s * v) ps
def sA (z : Str) : AV := .d (.str z)
def lgC (l : List Str) : Cell := .lst (l.map sA)
theorem atN_len (a : At) : (atN a).length ≤ 1 := by cases a <;> simp [atN]
theorem pvL_len (r : Room) : ∀ (ps : List (Bool × At)) (p : Int), (pvL r p ps).length ≤ ps.length
  | [], _ => by simp [pvL]
  | (o, a) :: ps, p => by
    have h1 := atN_len a
    have key : ∀ q : Int, (if big q = true then [] else pvL r q ps).length ≤ ps.length := fun q => by
      cases big q
      · simpa using pvL_len r ps q
      · simp
    simp only [pvL, List.length_append, List.length_cons]
    cases atV r a with
    | none => simp; omega
    | some x =>
      have k2 := key (if o = true then p * x else p.fdiv x)
      simp only
      by_cases z : o = false ∧ x = 0
      · rw [if_pos z]; simp; omega
      · rw [if_neg z]; omega
theorem svL_len (r : Room) : ∀ (s : List Pr) (t : Int), (svL r t s).length ≤ sumN s
  | [], _ => by simp [svL]
  | p :: ps, t => by
    have h1 := pvL_len r ((true, p.f) :: p.ps) 1
    have key : ∀ q : Int, (if big q = true then [] else svL r q ps).length ≤ sumN ps := fun q => by
      cases big q
      · simpa using svL_len r ps q
      · simp
    simp only [svL, List.length_append, List.length_cons] at h1 ⊢
    have e : sumN (p :: ps) = 1 + p.ps.length + sumN ps := by simp [sumN]
    rw [e]
    cases pvGo r 1 ((true, p.f) :: p.ps) with
    | error f => simp; omega
    | ok v => have := key (t + p.s * v); simp only; omega
end K


set_option Elab.async false
set_option linter.all false
set_option maxRecDepth 100000
namespace K
open PySem PySem.Spec PyProof.Rows L2 Mp
/-! ### runs, plainly -/
inductive Row where
  | set (x : Str) (s : List Pr) | drp (x : Str) | sho (s : List Pr) | ifr (s : List Pr) (r : Row)
structure Rn where
  here : Room
  shown : List Int
  took : List (Str × Option Int)
  tou : List Str
def putR (r : Room) (x : Str) (v : Int) : Room := if (r.any fun p => decide (p.1 = x)) = true then r.map fun p => if p.1 = x then (p.1, v) else p else r ++ [(x, v)]
def dropR (r : Room) (x : Str) : Room := r.filter fun p => decide (p.1 ≠ x)
def addN (l : List Str) (x : Str) : List Str := if x ∈ l then l else l ++ [x]
def lkT (t : List (Str × Option Int)) (x : Str) : Bool := t.any fun p => decide (p.1 = x)
def take1 (r : Room) (tou : List Str) (tk : List (Str × Option Int)) (x : Str) : List (Str × Option Int) := if x ∈ tou then tk else if lkT tk x = true then tk else tk ++ [(x, lkR r x)]
def takeN (r : Room) (tou : List Str) : List (Str × Option Int) → List Str → List (Str × Option Int)
  | tk, [] => tk
  | tk, x :: l => takeN r tou (take1 r tou tk x) l
def Rn.reck (a : Rn) (s : List Pr) : Rn := ⟨a.here, a.shown, takeN a.here a.tou a.took (svL a.here 0 s), a.tou⟩
def goes : Row → Rn → Rn × Option Ft
  | .drp x, a => (⟨dropR a.here x, a.shown, a.took, addN a.tou x⟩, none)
  | .set x s, a => match svGo a.here 0 s with
    | .error f => (a.reck s, some f)
    | .ok v => (⟨putR a.here x v, a.shown, (a.reck s).took, addN a.tou x⟩, none)
  | .sho s, a => match svGo a.here 0 s with
    | .error f => (a.reck s, some f)
    | .ok v => (⟨a.here, a.shown ++ [v], (a.reck s).took, a.tou⟩, none)
  | .ifr s r, a => match svGo a.here 0 s with
    | .error f => (a.reck s, some f)
    | .ok v => if v = 0 then (a.reck s, none) else goes r (a.reck s)
def runR : List Row → Rn → Rn × Option Ft
  | [], a => (a, none)
  | r :: rs, a => match goes r a with
    | (b, some f) => (b, some f)
    | (b, none) => runR rs b
def start (r : Room) : Rn := ⟨r, [], [], []⟩
/-! rooms -/
theorem mem_addN {l : List Str} {x y : Str} : y ∈ addN l x ↔ y ∈ l ∨ y = x := by
  unfold addN
  split
  · constructor
    · exact .inl
    · rintro (h | rfl) <;> assumption
  · simp
/-! what a sum hangs on -/
theorem pv_cong {r r' : Room} : ∀ (ps : List (Bool × At)) (p : Int), (∀ x ∈ pvL r p ps, lkR r' x = lkR r x) → pvGo r' p ps = pvGo r p ps ∧ pvL r' p ps = pvL r p ps
  | [], p, h => ⟨rfl, rfl⟩
  | (o, a) :: ps, p, h => by
    have ea : atV r' a = atV r a := by
      cases a with
      | num n => rfl
      | nm x => exact h x (by simp [pvL, atN])
    simp only [pvGo, pvL, ea]
    cases ev : atV r a with
    | none => exact ⟨rfl, rfl⟩
    | some x =>
      by_cases z : o = false ∧ x = 0
      · simp only [if_pos z]; exact ⟨trivial, trivial⟩
      · simp only [if_neg z]
        obtain ⟨q, hq⟩ : ∃ q, q = (if o = true then p * x else p.fdiv x) := ⟨_, rfl⟩
        simp only [← hq]
        cases hb : big q with
        | true => exact ⟨rfl, rfl⟩
        | false =>
          have ih := pv_cong ps q fun y hy => h y (by simp only [pvL, ev, if_neg z, ← hq, hb, Bool.false_eq_true, if_false]; exact List.mem_append_right _ hy)
          simp only [Bool.false_eq_true, if_false]
          exact ⟨ih.1, by rw [ih.2]⟩
theorem sv_cong {r r' : Room} : ∀ (s : List Pr) (t : Int), (∀ x ∈ svL r t s, lkR r' x = lkR r x) → svGo r' t s = svGo r t s ∧ svL r' t s = svL r t s
  | [], p, h => ⟨rfl, rfl⟩
  | p :: ps, t, h => by
    obtain ⟨e1, e2⟩ := pv_cong (r := r) (r' := r') ((true, p.f) :: p.ps) 1 fun x hx => h x (by simp only [svL]; exact List.mem_append_left _ hx)
    simp only [svGo, svL, e1, e2]
    cases ev : pvGo r 1 ((true, p.f) :: p.ps) with
    | error f => exact ⟨rfl, rfl⟩
    | ok v =>
      simp only
      cases hb : big (t + p.s * v) with
      | true => exact ⟨rfl, rfl⟩
      | false =>
        have ih := sv_cong ps (t + p.s * v) fun y hy => h y (by simp only [svL, ev, hb, Bool.false_eq_true, if_false]; exact List.mem_append_right _ hy)
        simp only [Bool.false_eq_true, if_false]
        exact ⟨ih.1, by rw [ih.2]⟩
theorem sv_le {r : Room} : ∀ (s : List Pr) (t : Int) (v : Int), t.natAbs ≤ 1000000000 → svGo r t s = .ok v → v.natAbs ≤ 1000000000
  | [], t, v, ht, e => by cases e; exact ht
  | p :: ps, t, v, ht, e => by
    simp only [svGo] at e
    split at e
    · cases e
    · split at e
      · cases e
      · rename_i hb
        exact sv_le ps _ v (big_f (by simpa using hb)) e
/-! reads are told -/
theorem takeN_sub {r : Room} {tou : List Str} : ∀ (l : List Str) (tk : List (Str × Option Int)) (p : Str × Option Int), p ∈ tk → p ∈ takeN r tou tk l
  | [], _, _, h => h
  | x :: l, tk, p, h => by
    refine takeN_sub l _ p ?_
    unfold take1
    split
    · exact h
    · split
      · exact h
      · exact List.mem_append_left _ h
theorem takeN_has {r : Room} {tou : List Str} : ∀ (l : List Str) (tk : List (Str × Option Int)) (x : Str), x ∈ l → x ∉ tou → ∃ v, (x, v) ∈ takeN r tou tk l
  | y :: l, tk, x, h, n => by
    rcases List.mem_cons.mp h with rfl | h
    · have : ∃ v, (x, v) ∈ take1 r tou tk x := by
        unfold take1
        rw [if_neg n]
        split
        · rename_i q
          simp only [lkT, List.any_eq_true, decide_eq_true_eq] at q
          obtain ⟨⟨a, b⟩, m, e⟩ := q
          simp only at e
          subst e
          exact ⟨b, m⟩
        · exact ⟨_, List.mem_append_right _ (List.mem_singleton.mpr rfl)⟩
      obtain ⟨v, m⟩ := this
      exact ⟨v, takeN_sub l _ _ m⟩
    · exact takeN_has l _ x h n
theorem takeN_cong {r r' : Room} {tou : List Str} : ∀ (l : List Str) (tk : List (Str × Option Int)), (∀ x ∈ l, lkR r' x = lkR r x) → takeN r' tou tk l = takeN r tou tk l
  | [], _, _ => rfl
  | x :: l, tk, h => by
    simp only [takeN, take1, h x (.head _)]
    exact takeN_cong l _ fun y m => h y (.tail _ m)
theorem takeN_val {r r1 : Room} {tou : List Str} (o : ∀ x, x ∉ tou → lkR r x = lkR r1 x) : ∀ (l : List Str) (tk : List (Str × Option Int)), (∀ p ∈ tk, lkR r1 p.1 = p.2) → ∀ p ∈ takeN r tou tk l, lkR r1 p.1 = p.2
  | [], _, h, p, m => h p m
  | x :: l, tk, h, p, m => by
    refine takeN_val o l _ (fun q hq => ?_) p m
    unfold take1 at hq
    split at hq
    · exact h q hq
    · rename_i n
      split at hq
      · exact h q hq
      · rcases List.mem_append.mp hq with hq | hq
        · exact h q hq
        · simp only [List.mem_singleton] at hq
          subst hq
          exact (o x n).symm
/-! two rooms alike in what is read -/
structure Agree (r1 r2 : Room) (a b : Rn) : Prop where
  sh : b.shown = a.shown
  tk : b.took = a.took
  tu : b.tou = a.tou
  on : ∀ x ∈ a.tou, lkR b.here x = lkR a.here x
  o1 : ∀ x, x ∉ a.tou → lkR a.here x = lkR r1 x
  o2 : ∀ x, x ∉ a.tou → lkR b.here x = lkR r2 x
  vl : ∀ p ∈ a.took, lkR r1 p.1 = p.2
theorem Agree.start (r1 r2 : Room) : Agree r1 r2 (start r1) (start r2) := ⟨rfl, rfl, rfl, fun x m => (nomatch m), fun _ _ => rfl, fun _ _ => rfl, fun p m => (nomatch m)⟩
theorem Agree.reck {r1 r2 : Room} {a b : Rn} (A : Agree r1 r2 a b) (s : List Pr) (h : ∀ p ∈ (a.reck s).took, lkR r2 p.1 = p.2) :
    svGo b.here 0 s = svGo a.here 0 s ∧ Agree r1 r2 (a.reck s) (b.reck s) := by
  have vl := takeN_val A.o1 (svL a.here 0 s) a.took A.vl
  have key : ∀ x ∈ svL a.here 0 s, lkR b.here x = lkR a.here x := by
    intro x hx
    by_cases m : x ∈ a.tou
    · exact A.on x m
    · obtain ⟨v, hv⟩ := takeN_has (r := a.here) (tou := a.tou) _ a.took x hx m
      rw [A.o2 x m, A.o1 x m, vl _ hv, h _ hv]
  obtain ⟨e1, e2⟩ := sv_cong s 0 key
  refine ⟨e1, A.sh, ?_, A.tu, A.on, A.o1, A.o2, vl⟩
  show takeN b.here b.tou b.took (svL b.here 0 s) = takeN a.here a.tou a.took (svL a.here 0 s)
  rw [e2, A.tu, A.tk]
  exact takeN_cong _ _ key
/-! cells behind one another -/
end K


set_option Elab.async false
set_option linter.all false
set_option maxRecDepth 100000
namespace K
open PySem PySem.Spec PyProof.Rows L2 Mp
def rowD : Row → Mp.D
  | .set x s => .tup [.str "set", .str x, sumD s]
  | .drp x => .tup [.str "drop", .str x]
  | .sho s => .tup [.str "show", sumD s]
  | .ifr s r => .tup [.str "if", sumD s, rowD r]
def rowN : Row → Nat
  | .set _ s => sumN s
  | .drp _ => 0
  | .sho s => sumN s
  | .ifr s r => sumN s + rowN r
def Row.plain : Row → Bool
  | .ifr _ _ => false
  | _ => true
def Row.ok : Row → Prop
  | .set x s => nmS x = true ∧ (∀ q ∈ s, q.ok)
  | .drp x => nmS x = true
  | .sho s => ∀ q ∈ s, q.ok
  | .ifr s r => (∀ q ∈ s, q.ok) ∧ r.plain = true ∧ r.ok
def flds (n : Nat) : List (Str × AV) := [("here", .r n), ("shown", .r (n + 1)), ("took", .r (n + 2)), ("touched", .r (n + 3))]
def tkA (t : List (Str × Option Int)) : List (Key × AV) := t.map fun p => (.inr p.1, .d (oD p.2))
def tuA (l : List Str) : List (Key × AV) := l.map fun x => (.inr x, .d (.bl true))
def shC (l : List Int) : Cell := .lst (l.map fun v => .d (.int v))
structure At5 (n : Nat) (a : Rn) (g : Hs) : Prop where
  c0 : g[n]? = some (.dic (roA a.here))
  c1 : g[n + 1]? = some (shC a.shown)
  c2 : g[n + 2]? = some (.dic (tkA a.took))
  c3 : g[n + 3]? = some (.dic (tuA a.tou))
  c4 : g[n + 4]? = some (.ins 2 (flds n))
def Fr (n : Nat) (h g : Hs) : Prop := ∀ i, i < n → g[i]? = h[i]?
theorem Fr.refl (n : Nat) (h : Hs) : Fr n h h := fun _ _ => rfl
theorem Fr.trans {n : Nat} {h g f : Hs} (a : Fr n h g) (b : Fr n g f) : Fr n h f := fun i hi => (b i hi).trans (a i hi)
theorem Fr.set {n m : Nat} {h g : Hs} (a : Fr n h g) (hm : n ≤ m) (c : Cell) : Fr n h (g.set m c) := fun i hi => by
  rw [List.getElem?_set_ne (by omega)]; exact a i hi
theorem lt_of {g : Hs} {n : Nat} {c : Cell} (e : g[n]? = some c) : n < g.length := (List.getElem?_eq_some_iff.mp e).1
theorem At5.s0 {n : Nat} {a : Rn} {g : Hs} (A : At5 n a g) (r : Room) : At5 n ⟨r, a.shown, a.took, a.tou⟩ (g.set n (.dic (roA r))) := by
  have := lt_of A.c0
  exact ⟨by simp [this], by rw [List.getElem?_set_ne (by omega)]; exact A.c1, by rw [List.getElem?_set_ne (by omega)]; exact A.c2, by rw [List.getElem?_set_ne (by omega)]; exact A.c3, by rw [List.getElem?_set_ne (by omega)]; exact A.c4⟩
theorem At5.s1 {n : Nat} {a : Rn} {g : Hs} (A : At5 n a g) (r : List Int) : At5 n ⟨a.here, r, a.took, a.tou⟩ (g.set (n + 1) (shC r)) := by
  have := lt_of A.c1
  exact ⟨by rw [List.getElem?_set_ne (by omega)]; exact A.c0, by simp [this], by rw [List.getElem?_set_ne (by omega)]; exact A.c2, by rw [List.getElem?_set_ne (by omega)]; exact A.c3, by rw [List.getElem?_set_ne (by omega)]; exact A.c4⟩
theorem At5.s2 {n : Nat} {a : Rn} {g : Hs} (A : At5 n a g) (r : List (Str × Option Int)) : At5 n ⟨a.here, a.shown, r, a.tou⟩ (g.set (n + 2) (.dic (tkA r))) := by
  have := lt_of A.c2
  exact ⟨by rw [List.getElem?_set_ne (by omega)]; exact A.c0, by rw [List.getElem?_set_ne (by omega)]; exact A.c1, by simp [this], by rw [List.getElem?_set_ne (by omega)]; exact A.c3, by rw [List.getElem?_set_ne (by omega)]; exact A.c4⟩
theorem At5.s3 {n : Nat} {a : Rn} {g : Hs} (A : At5 n a g) (r : List Str) : At5 n ⟨a.here, a.shown, a.took, r⟩ (g.set (n + 3) (.dic (tuA r))) := by
  have := lt_of A.c3
  exact ⟨by rw [List.getElem?_set_ne (by omega)]; exact A.c0, by rw [List.getElem?_set_ne (by omega)]; exact A.c1, by rw [List.getElem?_set_ne (by omega)]; exact A.c2, by simp [this], by rw [List.getElem?_set_ne (by omega)]; exact A.c4⟩
@[simp] theorem fl_0 (n : Nat) : (flds n).lookup (Str.ofString "here") = some (.r n) := rfl
@[simp] theorem fl_1 (n : Nat) : (flds n).lookup (Str.ofString "shown") = some (.r (n + 1)) := rfl
@[simp] theorem fl_2 (n : Nat) : (flds n).lookup (Str.ofString "took") = some (.r (n + 2)) := rfl
@[simp] theorem fl_3 (n : Nat) : (flds n).lookup (Str.ofString "touched") = some (.r (n + 3)) := rfl
@[simp] theorem fl_r (n : Nat) : (flds n).lookup (Str.ofString "reckoned") = none := rfl
@[simp] theorem fl_g (n : Nat) : (flds n).lookup (Str.ofString "goes") = none := rfl
/-! reckoned -/
end K


set_option Elab.async false
set_option linter.all false
set_option maxRecDepth 100000
namespace K
open PySem PySem.Spec PyProof.Rows L2 Mp
structure Rk (m : Nat) (a : Rn) : Prop where
  ro : RB a.here m
  sh : a.shown.length ≤ m
  tk : a.took.length ≤ m
  tu : a.tou.length ≤ m
theorem RB.ok {r : Room} {m : Nat} (h : RB r m) (hm : m ≤ 1000) : roOk r := ⟨h.1, h.2.1, by have := h.2.2; omega⟩
theorem RB.drop {r : Room} {m : Nat} (h : RB r m) (x : Str) : RB (dropR r x) m := by
  refine ⟨fun p hp => h.1 p ((List.mem_filter.mp hp).1), ?_, Nat.le_trans (List.length_filter_le _ _) h.2.2⟩
  exact List.Nodup.sublist (List.Sublist.map _ List.filter_sublist) h.2.1
theorem takeN_len {r : Room} {tou : List Str} : ∀ (l : List Str) (tk : List (Str × Option Int)), (takeN r tou tk l).length ≤ tk.length + l.length
  | [], tk => by simp [takeN]
  | x :: l, tk => by
    have h1 : (take1 r tou tk x).length ≤ tk.length + 1 := by
      unfold take1
      split
      · omega
      · split
        · omega
        · simp
    have := takeN_len l (r := r) (tou := tou) (take1 r tou tk x)
    simp only [takeN, List.length_cons]; omega
theorem addN_len (l : List Str) (x : Str) : (addN l x).length ≤ l.length + 1 := by
  unfold addN
  split
  · omega
  · simp
theorem Rk.reck {m : Nat} {a : Rn} (h : Rk m a) (s : List Pr) : Rk (m + sumN s) (a.reck s) := by
  refine ⟨h.ro.mono (by omega), Nat.le_trans h.sh (by omega), ?_, Nat.le_trans h.tu (by omega)⟩
  have h1 := takeN_len (r := a.here) (tou := a.tou) (svL a.here 0 s) a.took
  have h2 := svL_len a.here s 0
  have h3 := h.tk
  show (takeN a.here a.tou a.took (svL a.here 0 s)).length ≤ _
  omega
theorem Rk.goes {m : Nat} : ∀ (row : Row) {a : Rn} {m : Nat} (h : Rk m a), Rk (m + rowN row + 1) (goes row a).1
  | .drp x, a, m, h => ⟨(h.ro.drop x).mono (by omega), Nat.le_trans h.sh (by omega), Nat.le_trans h.tk (by omega), Nat.le_trans (addN_len _ _) (by have := h.tu; omega)⟩
  | .set x s, a, m, h => by
    have q := h.reck s
    simp only [K.goes, rowN]
    cases e : svGo a.here 0 s with
    | error f => exact ⟨q.ro.mono (by omega), Nat.le_trans q.sh (by omega), Nat.le_trans q.tk (by omega), Nat.le_trans q.tu (by omega)⟩
    | ok v => exact ⟨(putA_RB h.ro x (sv_le s 0 v (by decide) e)).mono (by omega), Nat.le_trans h.sh (by omega), Nat.le_trans q.tk (by omega), Nat.le_trans (addN_len _ _) (by have := h.tu; omega)⟩
  | .sho s, a, m, h => by
    have q := h.reck s
    simp only [K.goes, rowN]
    cases e : svGo a.here 0 s with
    | error f => exact ⟨q.ro.mono (by omega), Nat.le_trans q.sh (by omega), Nat.le_trans q.tk (by omega), Nat.le_trans q.tu (by omega)⟩
    | ok v => exact ⟨h.ro.mono (by omega), by have := h.sh; simp; omega, Nat.le_trans q.tk (by omega), Nat.le_trans h.tu (by omega)⟩
  | .ifr s r, a, m, h => by
    have q := h.reck s
    simp only [K.goes, rowN]
    cases e : svGo a.here 0 s with
    | error f => exact ⟨q.ro.mono (by omega), Nat.le_trans q.sh (by omega), Nat.le_trans q.tk (by omega), Nat.le_trans q.tu (by omega)⟩
    | ok v =>
      simp only
      split
      · exact ⟨q.ro.mono (by omega), Nat.le_trans q.sh (by omega), Nat.le_trans q.tk (by omega), Nat.le_trans q.tu (by omega)⟩
      · have z := Rk.goes (m := 0) r q
        exact ⟨z.ro.mono (by omega), Nat.le_trans z.sh (by omega), Nat.le_trans z.tk (by omega), Nat.le_trans z.tu (by omega)⟩
theorem wd (h : Hs) (x y : Str) (hx : PySem.PyData.strOk x = true) (hy : PySem.PyData.strOk y = true) : eqO h (.v (.d (.str x))) (.v (.d (.str y))) = some (x == y) := by
  rw [eqO_d (Cm_str hx) (Cm_str hy), dEq_str]
theorem w_s : PySem.PyData.strOk (Str.ofString "set") = true := by decide +kernel
theorem w_d : PySem.PyData.strOk (Str.ofString "drop") = true := by decide +kernel
theorem w_h : PySem.PyData.strOk (Str.ofString "show") = true := by decide +kernel
theorem w_i : PySem.PyData.strOk (Str.ofString "if") = true := by decide +kernel
theorem sd : (Str.ofString "set" == Str.ofString "drop") = false := by decide +kernel
theorem hd' : (Str.ofString "show" == Str.ofString "drop") = false := by decide +kernel
theorem si : (Str.ofString "set" == Str.ofString "if") = false := by decide +kernel
theorem hi : (Str.ofString "show" == Str.ofString "if") = false := by decide +kernel
theorem sh : (Str.ofString "set" == Str.ofString "show") = false := by decide +kernel
end K


set_option Elab.async false
set_option linter.all false
set_option maxRecDepth 100000
namespace K
open PySem PySem.Spec PyProof.Rows L2 Mp
/-! a run -/
def cellD (t : Str) (rs : List Row) : Mp.D := .obj 1 [("rows", .tup (rs.map rowD)), ("text", .str t)]
end K


set_option Elab.async false
set_option linter.all false
set_option maxRecDepth 100000
namespace K
open PySem PySem.Spec PyProof.Rows L2 Mp
theorem toDs_fn {α : Type} (f : α → Mp.D) (l : List α) : AV.toDs (l.map fun x => AV.d (f x)) = some (l.map f) := by
  have := toDs_map (l.map f)
  rwa [List.map_map] at this
theorem blt1 {F : Fn} {b : Blt} {e : ME} {S : List SV} {h h1 : Hs} {x x' : RV} (he : evE F e S h = .ok x h1) (hx : ho1 x h1 = .ok x' h1) : evE F (.blt b [e]) S h = ok1 (bltO h1 b [x']) h1 := by
  simp only [evE, evR, he, Res.bind_ok, hx]
theorem ho_f {g : Hs} {α : Type} (f : α → Mp.D) (l : List α) : ho1 (.f (.lst (l.map fun x => .d (f x)))) g = .ok (.v (.d (.lst (l.map f)))) g := by
  rw [ho1_f, frz_of (toDs_fn f l)]; rfl
end K


set_option Elab.async false
set_option linter.all false
set_option maxRecDepth 100000
namespace K
open PySem PySem.Spec PyProof.Rows L2 Mp
/-! signs -/
def okc (c : Nat) : Bool := decide (32 ≤ c ∧ c ≤ 122 ∧ c ≠ 58 ∧ c ≠ 61)
def okw (x : Str) : Bool := (TL.tl x).all fun c => okc c && decide (c ≠ 32)
theorem okc_sp : okc 32 = true := by decide
theorem okw_nm {x : Str} (h : nmS x = true) : okw x = true := by
  simp only [okw, List.all_eq_true, okc, Bool.and_eq_true, decide_eq_true_eq]
  intro c hc
  have := nm_abc h c hc
  omega
def isNum (o : Option At) (n : Int) : Bool := match o with
  | some (.num m) => decide (m = n)
  | _ => false
theorem isNum_eq {o : Option At} {n : Int} (h : isNum o n = true) : o = some (.num n) := by
  unfold isNum at h
  split at h
  · rw [of_decide_eq_true h]
  · cases h
theorem num_at : ∀ n : Nat, n < 1000 → isNum (atR (toString (n : Int))) n = true ∧ okw (toString (n : Int)) = true ∧ (toString (n : Int) : Str).length ≤ 4 ∧ ((toString (n : Int) : Str) == Str.ofString "-") = false ∧ ((toString (n : Int) : Str) == Str.ofString "") = false := by decide +kernel
end K


set_option Elab.async false
set_option linter.all false
set_option maxRecDepth 100000
namespace K
open PySem PySem.Spec PyProof.Rows L2 Mp
/-! ### a sum's text -/
def jn (ws : List Str) : Str := Txt.join " " ws
theorem jn_1 (a : Str) : jn [a] = a := by unfold jn; rw [TL.join_eq]; rfl
theorem jn_2 (a b : Str) (r : List Str) : jn (a :: b :: r) = a ++ " " ++ jn (b :: r) := by unfold jn; rw [TL.join_eq, TL.join_eq]; rfl
theorem app_as (a b c : Str) : a ++ b ++ c = a ++ (b ++ c) := TL.ext_tl (by simp only [TL.tl_append, List.append_assoc])
theorem jn_app (b : Str) (ys : List Str) : ∀ (a : Str) (xs : List Str), jn (a :: xs ++ b :: ys) = jn (a :: xs) ++ " " ++ jn (b :: ys)
  | a, [] => by rw [List.cons_append, List.nil_append, jn_2, jn_1]
  | a, x :: xs => by
    rw [List.cons_append, List.cons_append, jn_2, ← List.cons_append, jn_app b ys x xs, jn_2]
    simp only [app_as]
def atT : At → Str
  | .nm x => x
  | .num n => toString n
def bodyW (p : Pr) : List Str := atT p.f :: p.ps.flatMap fun q => [opS q.1, atT q.2]
def sgS (s : Int) : Str := if s < 0 then "-" else "+"
def restW (ps : List Pr) : List Str := ps.flatMap fun p => sgS p.s :: bodyW p
def sumW : List Pr → List Str
  | [] => []
  | p :: ps => (if p.s < 0 then [Str.ofString "-"] else []) ++ bodyW p ++ restW ps
def sumT (s : List Pr) : Str := jn (sumW s)
structure WordOk (w : Str) : Prop where
  ok : okw w = true
  len : w.length ≤ 4
theorem at_word {a : At} (h : a.ok) : WordOk (atT a) ∧ atR (atT a) = some a ∧ atT a ≠ Str.ofString "-" ∧ atT a ≠ Str.ofString "" := by
  cases a with
  | nm x =>
    have n : nmS x = true := h
    refine ⟨⟨okw_nm n, (nm_len n).2⟩, by simp [atR, atT, n], fun e => ?_, fun e => ?_⟩
    · have : nmS (Str.ofString "-") = true := by rw [← e]; exact n
      exact absurd this (by decide +kernel)
    · have : nmS (Str.ofString "") = true := by rw [← e]; exact n
      exact absurd this (by decide +kernel)
  | num n =>
    obtain ⟨h0, h1⟩ := (show 0 ≤ n ∧ n ≤ 999 from h)
    obtain ⟨k, rfl⟩ := Int.eq_ofNat_of_zero_le h0
    obtain ⟨e1, e2, e3, e4, e5⟩ := num_at k (by omega)
    exact ⟨⟨e2, e3⟩, isNum_eq e1, beq_eq_false_iff_ne.mp e4, beq_eq_false_iff_ne.mp e5⟩
theorem op_word (b : Bool) : WordOk (opS b) := by cases b <;> exact ⟨by decide +kernel, by decide +kernel⟩
theorem sg_word (s : Int) : WordOk (sgS s) := by unfold sgS; split <;> exact ⟨by decide +kernel, by decide +kernel⟩
theorem body_words {p : Pr} (h : p.ok) : ∀ w ∈ bodyW p, WordOk w := by
  intro w m
  rcases List.mem_cons.mp m with rfl | m
  · exact (at_word h.2.1).1
  · obtain ⟨q, mq, m⟩ := List.mem_flatMap.mp m
    simp only [List.mem_cons, List.not_mem_nil, or_false] at m
    rcases m with rfl | rfl
    · exact op_word _
    · exact (at_word (h.2.2.1 q mq)).1
theorem rest_words {ps : List Pr} (h : ∀ q ∈ ps, q.ok) : ∀ w ∈ restW ps, WordOk w := by
  intro w m
  obtain ⟨p, mp, m⟩ := List.mem_flatMap.mp m
  rcases List.mem_cons.mp m with rfl | m
  · exact sg_word _
  · exact body_words (h p mp) w m
theorem sum_words {s : List Pr} (h : ∀ q ∈ s, q.ok) : ∀ w ∈ sumW s, WordOk w := by
  cases s with
  | nil => intro w m; cases m
  | cons p ps =>
    intro w m
    simp only [sumW, List.mem_append] at m
    rcases m with (m | m) | m
    · split at m
      · simp only [List.mem_singleton] at m; subst m; exact ⟨by decide +kernel, by decide +kernel⟩
      · cases m
    · exact body_words (h p (.head _)) w m
    · exact rest_words (fun q m => h q (.tail _ m)) w m
theorem jn_ok : ∀ ws : List Str, (∀ w ∈ ws, WordOk w) → (∀ c ∈ TL.tl (jn ws), okc c = true) ∧ (jn ws).length ≤ 5 * ws.length
  | [], _ => ⟨fun c m => (nomatch m), Nat.le_refl _⟩
  | [a], h => by
    rw [jn_1]
    have := h a (.head _)
    refine ⟨fun c m => ?_, by have := this.len; simp; omega⟩
    have q := this.ok
    simp only [okw, List.all_eq_true, Bool.and_eq_true] at q
    exact (q c m).1
  | a :: b :: r, h => by
    obtain ⟨h1, h2⟩ := jn_ok (b :: r) fun w m => h w (.tail _ m)
    have ha := h a (.head _)
    rw [jn_2]
    refine ⟨fun c m => ?_, ?_⟩
    · simp only [TL.tl_append, List.mem_append] at m
      rcases m with (m | m) | m
      · have q := ha.ok
        simp only [okw, List.all_eq_true, Bool.and_eq_true] at q
        exact (q c m).1
      · have : c = 32 := by simpa [TL.tl_ofString] using m
        subst this; exact okc_sp
      · exact h1 c m
    · rw [TL.len_tl, TL.tl_append, TL.tl_append, List.length_append, List.length_append, ← TL.len_tl, ← TL.len_tl, ← TL.len_tl]
      have l1 : (Str.ofString " ").length = 1 := by decide
      have := ha.len
      simp only [List.length_cons] at h2 ⊢
      rw [l1]; omega
theorem okc_str {x : Str} (h : ∀ c ∈ TL.tl x, okc c = true) : PySem.PyData.strOk x = true := by
  unfold PySem.PyData.strOk
  rw [← Array.all_toList, List.all_eq_true]
  intro c hc
  have := h c hc
  simp only [okc, decide_eq_true_eq] at this
  simp; omega
theorem sumT_ok {s : List Pr} (h : ∀ q ∈ s, q.ok) : ∀ c ∈ TL.tl (sumT s), okc c = true := (jn_ok _ (sum_words h)).1
theorem split_jn {ws : List Str} (h : ∀ w ∈ ws, WordOk w) (n : ws ≠ []) : Txt.split (jn ws) " " = ws := by
  refine TL.split_join (s := 32) (S := []) (by rw [TL.tl_ofString]; rfl) (by decide +kernel) n fun p m c => ?_
  have := (h p m).ok
  simp only [okw, List.all_eq_true, Bool.and_eq_true, decide_eq_true_eq] at this
  exact (this 32 c).2 rfl
/-! read back -/
def prodW (p : Pr) : List (Str × Str) := (sgS p.s, atT p.f) :: p.ps.map fun q => (opS q.1, atT q.2)
theorem flatS_app : ∀ a b : List (Str × Str), flatS (a ++ b) = flatS a ++ flatS b
  | [], b => rfl
  | (x, y) :: a, b => by simp [flatS, flatS_app a b]
theorem flatS_ps (ps : List (Bool × At)) : flatS (ps.map fun q => (opS q.1, atT q.2)) = ps.flatMap fun q => [opS q.1, atT q.2] := by
  induction ps with
  | nil => rfl
  | cons q ps ih => simp only [List.map_cons, flatS, ih, List.flatMap_cons, List.cons_append, List.nil_append]
theorem flatS_prod (p : Pr) : flatS (prodW p) = sgS p.s :: bodyW p := by simp only [prodW, flatS, flatS_ps, bodyW]
theorem flatS_sum (s : List Pr) : flatS (s.flatMap prodW) = restW s := by
  induction s with
  | nil => rfl
  | cons p s ih => rw [List.flatMap_cons, flatS_app, ih, flatS_prod]; rfl
theorem op_ne (b : Bool) : opS b ≠ Str.ofString "+" ∧ opS b ≠ Str.ofString "-" ∧ (opS b = Str.ofString "*" ∨ opS b = Str.ofString "//") ∧ decide (opS b = Str.ofString "*") = b := by
  cases b <;> decide +kernel
theorem rdGo_ps (r : List (Str × Str)) (acc : List Pr) (s : Int) (f : At) : ∀ (ps ps0 : List (Bool × At)), (∀ q ∈ ps, q.2.ok) → rdGo ((ps.map fun q => (opS q.1, atT q.2)) ++ r) (acc ++ [⟨s, f, ps0⟩]) = rdGo r (acc ++ [⟨s, f, ps0 ++ ps⟩])
  | [], ps0, _ => by simp
  | (o, a) :: ps, ps0, h => by
    obtain ⟨_, e, _⟩ := at_word (h (o, a) (.head _))
    obtain ⟨n1, n2, n3, n4⟩ := op_ne o
    have ih := rdGo_ps r acc s f ps (ps0 ++ [(o, a)]) fun q m => h q (.tail _ m)
    simp only [List.map_cons, List.cons_append, rdGo, e, if_neg n1, if_neg n2, if_pos n3, List.getLast?_append, List.getLast?_singleton, Option.some_or, List.dropLast_concat, n4]
    rw [ih, List.append_assoc]; rfl
theorem rdGo_prod {p : Pr} (h : p.ok) (r : List (Str × Str)) (acc : List Pr) : rdGo (prodW p ++ r) acc = rdGo r (acc ++ [p]) := by
  obtain ⟨s, f, ps⟩ := p
  obtain ⟨hs, hf, hp, _⟩ := h
  obtain ⟨_, e, _⟩ := at_word hf
  have ih := rdGo_ps r acc s f ps [] hp
  rw [List.nil_append] at ih
  rw [← ih]
  rcases hs with hs | hs
  · simp only at hs; subst hs
    have : sgS 1 = Str.ofString "+" := rfl
    simp only [prodW, List.cons_append, rdGo, e, this, if_true]
  · simp only at hs; subst hs
    have : sgS (-1) = Str.ofString "-" := rfl
    have n : ¬ Str.ofString "-" = Str.ofString "+" := by decide +kernel
    simp only [prodW, List.cons_append, rdGo, e, this, if_true, if_neg n]
theorem rdGo_sum : ∀ (s : List Pr), (∀ q ∈ s, q.ok) → ∀ acc, rdGo (s.flatMap prodW) acc = some (acc ++ s)
  | [], _, acc => by simp [rdGo]
  | p :: s, h, acc => by rw [List.flatMap_cons, rdGo_prod (h p (.head _)), rdGo_sum s fun q m => h q (.tail _ m), List.append_assoc]; rfl
theorem prod_len (s : List Pr) : (s.flatMap prodW).length = sumN s := by
  induction s with
  | nil => rfl
  | cons p s ih => rw [List.flatMap_cons, List.length_append, ih]; simp [prodW, sumN]; omega
theorem sumW_len {s : List Pr} (h : s ≠ []) : (sumW s).length ≤ 2 * sumN s := by
  cases s with
  | nil => exact absurd rfl h
  | cons p ps =>
    have e : (bodyW p).length + 1 = 2 * (1 + p.ps.length) := by
      have : (p.ps.flatMap fun q => [opS q.1, atT q.2]).length = 2 * p.ps.length := by rw [← flatS_ps, flat_len, List.length_map]
      simp only [bodyW, List.length_cons, this]; omega
    have f : (restW ps).length = 2 * sumN ps := by rw [← flatS_sum, flat_len, prod_len]
    have g : sumN (p :: ps) = 1 + p.ps.length + sumN ps := by simp [sumN]
    simp only [sumW, List.length_append, g, f]
    split <;> simp <;> omega
theorem read_sum_ok (h : Hs) {s : List Pr} (n : s ≠ []) (ok : ∀ q ∈ s, q.ok) (hn : sumN s ≤ 8) : f_read_sum [.d (.str (sumT s))] h = .ok (.v (.d (sumD s))) h := by
  have w := sum_words ok
  have nn : sumW s ≠ [] := by
    cases s with
    | nil => exact absurd rfl n
    | cons p ps => simp [sumW, bodyW]
  have sp := split_jn w nn
  have ln := sumW_len n
  have jl := (jn_ok _ w).2
  have hd : ∃ x, head? (sumW s) = some x ∧ PySem.PyData.strOk x = true ∧ (if x = Str.ofString "-" then sumW s else Str.ofString "+" :: sumW s) = flatS (s.flatMap prodW) := by
    cases s with
    | nil => exact absurd rfl n
    | cons p ps =>
      rw [flatS_sum]
      obtain ⟨hs, hf, _⟩ := ok p (.head _)
      obtain ⟨wa, _, na, _⟩ := at_word hf
      rcases hs with hs | hs
      · have : ¬ p.s < 0 := by omega
        refine ⟨atT p.f, by simp [sumW, this, bodyW, head?], ?_, ?_⟩
        · refine okc_str fun c m => ?_
          have q := wa.ok
          simp only [okw, List.all_eq_true, Bool.and_eq_true] at q
          exact (q c m).1
        · rw [if_neg na]; simp [sumW, this, restW, sgS]
      · have : p.s < 0 := by omega
        refine ⟨Str.ofString "-", by simp [sumW, this, head?], by decide +kernel, ?_⟩
        rw [if_pos rfl]; simp [sumW, this, restW, sgS]
  obtain ⟨x, h1, h2, h3⟩ := hd
  refine (read_ok h (sumT s) x (s.flatMap prodW) s (by unfold sumT; omega) (by unfold sumT; rw [sp]; exact h1) h2 (by unfold sumT; rw [sp]; omega) (by unfold sumT; rw [sp]; exact h3) (by rw [prod_len]; exact hn) (fun p m => ?_) (by simpa using rdGo_sum s ok [])).1
  have : ∀ w ∈ flatS (s.flatMap prodW), WordOk w := by rw [flatS_sum]; exact rest_words ok
  have mem : ∀ (l : List (Str × Str)) (p : Str × Str), p ∈ l → p.2 ∈ flatS l := by
    intro l
    induction l with
    | nil => intro p m; cases m
    | cons q l ih =>
      intro p m
      obtain ⟨a, b⟩ := q
      rcases List.mem_cons.mp m with rfl | m
      · simp [flatS]
      · simp only [flatS, List.mem_cons]; exact .inr (.inr (ih p m))
  have := (this p.2 (mem _ p m)).len
  omega
end K


set_option Elab.async false
set_option linter.all false
set_option maxRecDepth 100000
namespace K
open PySem PySem.Spec PyProof.Rows L2 Mp
theorem lc_tg {elt : List SV → Hs → Res AV} {cs : List SV → Hs → Res Bool} {tg : MT} {S : List SV} {α : Type} (g f : α → AV) (T : α → List SV) (h : Hs) : ∀ (l : List α)
    (step : ∀ c ∈ l, evG h tg (g c) S = some (T c) ∧ cs (T c) h = .ok true h ∧ elt (T c) h = .ok (f c) h) (acc : List AV) (hl : acc.length + l.length ≤ sizeLine),
    lcGo elt cs tg .fz S (l.map g) acc h = .ok (.f (.lst (acc ++ l.map f))) h
  | [], _, acc, _ => by simp [lcGo]
  | x :: xs, step, acc, hl => by
    obtain ⟨e0, e1, e2⟩ := step x (.head _)
    have e := lc_tg g f T h xs (fun x m => step x (.tail _ m)) (acc ++ [f x]) (by simp at hl ⊢; omega)
    have : acc.length < sizeLine := by simp at hl; omega
    simp [lcGo, e0, e1, e2, Res.noX, Res.bind, this, e]
theorem jn_head (x z : Str) : ∀ r : List Str, jn ((x ++ z) :: r) = x ++ jn (z :: r)
  | [] => by rw [jn_1, jn_1]
  | a :: r => by rw [jn_2, jn_2]; simp only [app_as]
def pairT (q : Bool × At) : Str := opS q.1 ++ " " ++ atT q.2
theorem jn_pairs : ∀ (ps : List (Bool × At)) (a : Str), jn (a :: ps.map pairT) = jn (a :: ps.flatMap fun q => [opS q.1, atT q.2])
  | [], a => rfl
  | q :: ps, a => by
    simp only [List.map_cons, List.flatMap_cons, List.cons_append, List.nil_append]
    rw [jn_2, jn_2, jn_2, pairT, jn_head, jn_pairs ps (atT q.2)]
theorem strs_S : ∀ l : List Str, AV.strs (l.map sA) = some l
  | [] => rfl
  | x :: l => by simp [AV.strs, sA, strs_S l]
theorem blt_atT (h : Hs) {a : At} (ok : a.ok) : bltO h .str [.v (.d a.d)] = some (dS (atT a)) := by
  cases a with
  | nm x => rfl
  | num n =>
    have := log_lt ok.1 ok.2
    show (if n.natAbs.log2 < 1920 then _ else none) = _
    rw [if_pos this]; rfl
theorem len_app (a b : Str) : (a ++ b).length = a.length + b.length := by rw [TL.len_tl, TL.tl_append, List.length_append, ← TL.len_tl, ← TL.len_tl]
theorem pairT_len {q : Bool × At} (h : q.2.ok) : (pairT q).length ≤ 9 := by
  have h1 := (op_word q.1).len
  have h2 := (at_word h).1.len
  have h3 : (Str.ofString " ").length = 1 := by decide
  simp only [pairT, len_app, h3]; omega
def partT (p : Pr) : Str := jn (bodyW p)
theorem part_ev (h : Hs) {p : Pr} (ok : p.ok) (S0 S1 S2 S5 : SV) :
    evE f_l_sum_text_E (.met .join (.cst (.str " ")) [.bin .Add (.lst [.blt .str [.var 3]]) (.lcm f_l_sum_text_e0 (.tp [.nm 6, .nm 7]) (.seq (.var 4)) none [6, 7])]) [S0, S1, S2, .v (.d p.f.d), .v (.d (.tup (p.ps.map prD))), S5, .no, .no] h = .ok (dS (partT p)) h := by
  obtain ⟨os, of, op, ol⟩ := ok
  have b0 : (101 : Nat) ≤ sizeLine := by decide
  have lc := lc_tg (elt := fun S h => (evE f_l_sum_text_E f_l_sum_text_e0 S h).bind toV1) (cs := fun S h => evTo f_l_sum_text_E none S h) (tg := .tp [.nm 6, .nm 7]) (S := [S0, S1, S2, .v (.d p.f.d), .v (.d (.tup (p.ps.map prD))), S5, .no, .no])
    (fun q => .d (prD q)) (fun q => sA (pairT q)) (fun q => [S0, S1, S2, .v (.d p.f.d), .v (.d (.tup (p.ps.map prD))), S5, .v (.d (.str (opS q.1))), .v (.d q.2.d)]) h p.ps (fun q m => ⟨by simp [prD, evG_tp], by simp [evTo], by
      have e1 := blt_atT h (op q m)
      have l1 := (op_word q.1).len
      have l2 := (at_word (op q m)).1.len
      have l3 : (Str.ofString " ").length = 1 := by decide
      have n1 : (opS q.1).length + (Str.ofString " ").length ≤ sizeLine := by omega
      have n2 : (opS q.1 ++ Str.ofString " ").length + (atT q.2).length ≤ sizeLine := by rw [len_app]; omega
      simp [Mp.run, evSs, evS, evE, evT, evTs, evTo, evL, evR, evB, evI, evO, Res.st, wipeS, noOwn, binO_eq, mkTup, AV.toDs, AV.toD, Cell.frz, evG_tp, forGo, SrcOk, lcGo, Vw.ty, tyAny, tyIs, kb_int, kb_bool, kb_str, kb_tup, f_l_sum_text_e0, e1, n1, n2, sA, pairT]⟩) [] (by simp; omega)
  simp only [List.nil_append] at lc
  have it : evI f_l_sum_text_E (.seq (.var 4)) [S0, S1, S2, .v (.d p.f.d), .v (.d (.tup (p.ps.map prD))), S5, .no, .no] h = .ok (p.ps.map (fun q => .d (prD q)), .fz) h := by
    simp [evI, evE, Function.comp_def]
  have e := lcm_eq (F := f_l_sum_text_E) (elt := f_l_sum_text_e0) (tg := .tp [.nm 6, .nm 7]) (cs := none) (own := [6, 7]) (by simp [noOwn]) it
  have w : wipeS [S0, S1, S2, .v (.d p.f.d), .v (.d (.tup (p.ps.map prD))), S5, .no, .no] [6, 7] = [S0, S1, S2, .v (.d p.f.d), .v (.d (.tup (p.ps.map prD))), S5, .no, .no] := by simp [wipeS]
  rw [w, lc] at e
  have ef := blt_atT h of
  have l1 : evE f_l_sum_text_E (.lst [.blt .str [.var 3]]) [S0, S1, S2, .v (.d p.f.d), .v (.d (.tup (p.ps.map prD))), S5, .no, .no] h = .ok (.f (.lst [sA (atT p.f)])) h := by
    simp [evE, evL, evR, -blt_str, ef, sA]
  have hl : 1 + p.ps.length ≤ sizeLine := by omega
  have cat : sA (atT p.f) :: p.ps.map (fun q => sA (pairT q)) = (atT p.f :: p.ps.map pairT).map sA := by simp
  have l2 : evE f_l_sum_text_E (.bin .Add (.lst [.blt .str [.var 3]]) (.lcm f_l_sum_text_e0 (.tp [.nm 6, .nm 7]) (.seq (.var 4)) none [6, 7])) [S0, S1, S2, .v (.d p.f.d), .v (.d (.tup (p.ps.map prD))), S5, .no, .no] h = .ok (.f (.lst ((atT p.f :: p.ps.map pairT).map sA))) h := by
    rw [evE, l1]
    have fz : (Cell.lst [sA (atT p.f)]).frz = some (.d (.lst [.str (atT p.f)])) := rfl
    simp only [Res.bind_ok, ho1_f, fz, Option.map_some, ok1_some, e, binO_eq, vw_v, vw_d, dvw_lst, vw_f, cvw_lst, Option.bind_some, List.map_cons, List.map_nil, bop_addL, List.length_cons, List.length_nil, List.length_map, Nat.zero_add, if_pos hl, List.cons_append, List.nil_append]
    rw [show AV.d (D.str (atT p.f)) = sA (atT p.f) from rfl, cat]
    simp
  have sm : (((atT p.f :: p.ps.map pairT).map fun z : Str => z.length).sum + (atT p.f :: p.ps.map pairT).length * (Str.ofString " ").length) ≤ 16777216 := by
    have h3 : (Str.ofString " ").length = 1 := by decide
    have key : ∀ l : List Str, (∀ z ∈ l, z.length ≤ 9) → (l.map fun z : Str => z.length).sum ≤ 9 * l.length := by
      intro l
      induction l with
      | nil => intro _; simp
      | cons a l ih => intro q; have := q a (.head _); have := ih fun z m => q z (.tail _ m); simp; omega
    have := key (atT p.f :: p.ps.map pairT) (fun z m => by
      rcases List.mem_cons.mp m with rfl | m
      · have := (at_word of).1.len; omega
      · obtain ⟨q, mq, rfl⟩ := List.mem_map.mp m
        exact pairT_len (op q mq))
    rw [h3]
    simp only [List.length_cons, List.length_map] at this ⊢
    omega
  have fz2 : (Cell.lst ((atT p.f :: p.ps.map pairT).map sA)).frz = some (.d (.lst ((atT p.f :: p.ps.map pairT).map .str))) := frz_of (toDs_S _)
  have vw2 : (AV.d (.lst ((atT p.f :: p.ps.map pairT).map .str))).vw h = some (.lst ((atT p.f :: p.ps.map pairT).map sA)) := by
    rw [vw_d, dvw_lst, List.map_map]; rfl
  rw [evE, evE]
  simp only [Res.bind_ok, ho1_v, rcv_join, vw_v, vw_d, dvw_str, Option.map_some, vwOk_str, Option.getD_some, if_true, evL, l2, toV1_f, fz2, ok1_some, mth_join, Option.bind_some, vm_join, vw2, strs_S, if_pos sm, okP_some]
  rw [show Txt.join (Str.ofString " ") (atT p.f :: p.ps.map pairT) = partT p from jn_pairs p.ps (atT p.f)]
end K


set_option Elab.async false
set_option linter.all false
set_option maxRecDepth 100000
namespace K
open PySem PySem.Spec PyProof.Rows L2 Mp
theorem jn_ne {a : Str} (h : a ≠ Str.ofString "") (r : List Str) : jn (a :: r) ≠ Str.ofString "" := by
  intro e
  have la : 1 ≤ a.length := by
    rcases Nat.eq_zero_or_pos a.length with z | z
    · refine absurd (TL.ext_tl ?_) h
      rw [TL.len_tl] at z
      rw [List.length_eq_zero_iff.mp z, TL.tl_ofString]; rfl
    · exact z
  have l0 : (Str.ofString "").length = 0 := by decide
  have := congrArg Str.length e
  cases r with
  | nil => rw [jn_1, l0] at this; omega
  | cons b r => rw [jn_2, len_app, len_app, l0] at this; omega
theorem sumW_cons {s : List Pr} (n : s ≠ []) (ok : ∀ q ∈ s, q.ok) : ∃ a r, sumW s = a :: r ∧ a ≠ Str.ofString "" := by
  cases s with
  | nil => exact absurd rfl n
  | cons p ps =>
    simp only [sumW]
    split
    · exact ⟨_, _, rfl, by decide +kernel⟩
    · exact ⟨_, _, rfl, (at_word (ok p (.head _)).2.1).2.2.2⟩
theorem sumW_snoc {s : List Pr} (n : s ≠ []) (p : Pr) : sumW (s ++ [p]) = sumW s ++ sgS p.s :: bodyW p := by
  cases s with
  | nil => exact absurd rfl n
  | cons q s => simp [sumW, restW, List.append_assoc]
theorem sumT_snoc {s : List Pr} (n : s ≠ []) (ok : ∀ q ∈ s, q.ok) (p : Pr) : sumT (s ++ [p]) = sumT s ++ " " ++ (sgS p.s ++ " " ++ partT p) := by
  obtain ⟨a, r, e, _⟩ := sumW_cons n ok
  unfold sumT
  rw [sumW_snoc n, e, jn_app, show jn (sgS p.s :: bodyW p) = sgS p.s ++ " " ++ partT p from jn_2 _ _ _]
theorem sumT_one (p : Pr) : sumT [p] = if p.s < 0 then Str.ofString "- " ++ partT p else partT p := by
  unfold sumT
  simp only [sumW, restW, List.flatMap_nil, List.append_nil]
  split
  · rw [show [Str.ofString "-"] ++ bodyW p = Str.ofString "-" :: bodyW p from rfl, show jn (Str.ofString "-" :: bodyW p) = Str.ofString "-" ++ " " ++ partT p from jn_2 _ _ _]
    congr 1
  · rfl
theorem sumT_nil : sumT [] = Str.ofString "" := by decide +kernel
theorem sumT_len {s : List Pr} (n : s ≠ []) (ok : ∀ q ∈ s, q.ok) : (sumT s).length ≤ 10 * sumN s := by
  have h1 := (jn_ok _ (sum_words ok)).2
  have h2 := sumW_len n
  unfold sumT; omega
theorem part_ok {p : Pr} (ok : p.ok) : (∀ c ∈ TL.tl (partT p), okc c = true) ∧ (partT p).length ≤ 1100 := by
  obtain ⟨h1, h2⟩ := jn_ok _ (body_words ok)
  have e : (bodyW p).length + 1 = 2 * (1 + p.ps.length) := by
    have : (p.ps.flatMap fun q => [opS q.1, atT q.2]).length = 2 * p.ps.length := by rw [← flatS_ps, flat_len, List.length_map]
    simp only [bodyW, List.length_cons, this]; omega
  have := ok.2.2.2
  exact ⟨h1, by unfold partT; omega⟩
theorem st_loop (h : Hs) (A : SV) : ∀ (ps dn : List Pr), (∀ q ∈ dn ++ ps, q.ok) → sumN (dn ++ ps) ≤ 100 → ∀ (x2 x3 x4 x5 : SV),
    ∃ y2 y3 y4 y5, forGo (fun S h => evSs f_l_sum_text_E f_l_sum_text_p1 S h) (.tp [.nm 2, .nm 3, .nm 4]) .fz (ps.map fun q => .d q.d) [A, .v (.d (.str (sumT dn))), x2, x3, x4, x5, .no, .no] h = .nx [A, .v (.d (.str (sumT (dn ++ ps)))), y2, y3, y4, y5, .no, .no] h
  | [], dn, ok, hn, x2, x3, x4, x5 => ⟨x2, x3, x4, x5, by simp [forGo, SrcOk]⟩
  | p :: ps, dn, ok, hn, x2, x3, x4, x5 => by
    have okp : p.ok := ok p (by simp)
    have pe := part_ev h okp A (.v (.d (.str (sumT dn)))) (.v (.d (.int p.s))) x5
    obtain ⟨pk, pl⟩ := part_ok okp
    have b0 : (3000 : Nat) ≤ sizeLine := by decide
    have okd : ∀ q ∈ dn, q.ok := fun q m => ok q (List.mem_append_left _ m)
    have sn : sumN dn ≤ 100 := by
      have : sumN (dn ++ p :: ps) = sumN dn + sumN (p :: ps) := by simp [sumN]
      omega
    have st : evSs f_l_sum_text_E f_l_sum_text_p1 [A, .v (.d (.str (sumT dn))), .v (.d (.int p.s)), .v (.d p.f.d), .v (.d (.tup (p.ps.map prD))), x5, .no, .no] h = .nx [A, .v (.d (.str (sumT (dn ++ [p])))), .v (.d (.int p.s)), .v (.d p.f.d), .v (.d (.tup (p.ps.map prD))), .v (.d (.str (partT p))), .no, .no] h := by
      have cm : eqO h (dS (sumT dn)) (dS (Str.ofString "")) = some (sumT dn == Str.ofString "") := by
        rw [eqO_d (Cm_str (okc_str (sumT_ok okd))) (Cm_str (by decide +kernel)), dEq_str]
      unfold f_l_sum_text_p1
      rw [evSs, evS, pe]
      by_cases z : dn = []
      · subst z
        rw [sumT_nil] at cm ⊢
        have c1 : (Str.ofString "" == Str.ofString "") = true := by decide
        rw [c1] at cm
        have l2 : (Str.ofString "- ").length = 2 := by decide
        have n1 : (Str.ofString "- ").length + (partT p).length ≤ sizeLine := by omega
        rw [List.nil_append, sumT_one]
        by_cases q : p.s < 0
        · simp [Mp.run, evSs, evS, evE, evT, evTs, evTo, evL, evR, evB, evI, evO, Res.st, wipeS, noOwn, binO_eq, mkTup, AV.toDs, AV.toD, Cell.frz, evG_tp, forGo, SrcOk, lcGo, Vw.ty, tyAny, tyIs, kb_int, kb_bool, kb_str, kb_tup, cm, q, n1]
        · simp [Mp.run, evSs, evS, evE, evT, evTs, evTo, evL, evR, evB, evI, evO, Res.st, wipeS, noOwn, binO_eq, mkTup, AV.toDs, AV.toD, Cell.frz, evG_tp, forGo, SrcOk, lcGo, Vw.ty, tyAny, tyIs, kb_int, kb_bool, kb_str, kb_tup, cm, q]
      · obtain ⟨a, r, ea, na⟩ := sumW_cons z okd
        have c1 : (sumT dn == Str.ofString "") = false := by
          rw [beq_eq_false_iff_ne]
          unfold sumT; rw [ea]; exact jn_ne na r
        rw [c1] at cm
        have dl := sumT_len z okd
        have l3 : (Str.ofString " + ").length = 3 := by decide
        have l4 : (Str.ofString " - ").length = 3 := by decide
        have n1 : (sumT dn).length + (Str.ofString " + ").length ≤ sizeLine := by omega
        have n2 : (sumT dn).length + (Str.ofString " - ").length ≤ sizeLine := by omega
        have n3 : (sumT dn ++ Str.ofString " + ").length + (partT p).length ≤ sizeLine := by rw [len_app]; omega
        have n4 : (sumT dn ++ Str.ofString " - ").length + (partT p).length ≤ sizeLine := by rw [len_app]; omega
        rw [sumT_snoc z okd]
        by_cases q : p.s < 0
        · have e1 : sumT dn ++ Str.ofString " - " ++ partT p = sumT dn ++ Str.ofString " " ++ (sgS p.s ++ Str.ofString " " ++ partT p) := by
            rw [show Str.ofString " - " = Str.ofString " " ++ (Str.ofString "-" ++ Str.ofString " ") by decide +kernel, show sgS p.s = Str.ofString "-" by simp [sgS, q]]
            simp only [app_as]
          simp [Mp.run, evSs, evS, evE, evT, evTs, evTo, evL, evR, evB, evI, evO, Res.st, wipeS, noOwn, binO_eq, mkTup, AV.toDs, AV.toD, Cell.frz, evG_tp, forGo, SrcOk, lcGo, Vw.ty, tyAny, tyIs, kb_int, kb_bool, kb_str, kb_tup, cm, q, n2, n4, e1]
        · have e1 : sumT dn ++ Str.ofString " + " ++ partT p = sumT dn ++ Str.ofString " " ++ (sgS p.s ++ Str.ofString " " ++ partT p) := by
            rw [show Str.ofString " + " = Str.ofString " " ++ (Str.ofString "+" ++ Str.ofString " ") by decide +kernel, show sgS p.s = Str.ofString "+" by simp [sgS, q]]
            simp only [app_as]
          simp [Mp.run, evSs, evS, evE, evT, evTs, evTo, evL, evR, evB, evI, evO, Res.st, wipeS, noOwn, binO_eq, mkTup, AV.toDs, AV.toD, Cell.frz, evG_tp, forGo, SrcOk, lcGo, Vw.ty, tyAny, tyIs, kb_int, kb_bool, kb_str, kb_tup, cm, q, n1, n3, e1]
    obtain ⟨y2, y3, y4, y5, e⟩ := st_loop h A ps (dn ++ [p]) (by rw [List.append_assoc]; exact ok) (by rw [List.append_assoc]; exact hn) (.v (.d (.int p.s))) (.v (.d p.f.d)) (.v (.d (.tup (p.ps.map prD)))) (.v (.d (.str (partT p))))
    refine ⟨y2, y3, y4, y5, ?_⟩
    rw [List.append_assoc] at e
    simp only [List.map_cons, forGo, srcOk_fz, if_true]
    rw [evG_tp h _ _ [.d (.int p.s), .d p.f.d, .d (.tup (p.ps.map prD))] _ rfl]
    simp only [evGs_cons, evGs_nil, evG_nm, Option.bind_some, List.set_cons_succ, List.set_cons_zero, st]
    exact e
theorem sum_text_ok (h : Hs) {s : List Pr} (ok : ∀ q ∈ s, q.ok) (hn : sumN s ≤ 100) : f_l_sum_text [.d (sumD s)] h = .ok (dS (sumT s)) h := by
  obtain ⟨y2, y3, y4, y5, e⟩ := st_loop h (.v (.d (sumD s))) s [] ok hn .no .no .no .no
  rw [sumT_nil, List.nil_append] at e
  simp [f_l_sum_text, Mp.run, f_l_sum_text_b, evSs, evS, evE, evI, Res.st, List.replicate, it_sum, e]
@[simp] theorem atI_2s {α : Type} (x y z : α) (xs : List α) : atI (x :: y :: z :: xs) 2 = some z := atI_2 x y z xs
@[simp] theorem atI_3 {α : Type} (x y z u : α) (xs : List α) : atI (x :: y :: z :: u :: xs) 3 = some u := by rw [atI_pos (by omega) (by simp; omega)]; rfl
/-! ### rows -/
def rowT : Row → Str
  | .set x s => x ++ " = " ++ sumT s
  | .drp x => "drop" ++ (" " : Str) ++ x
  | .sho s => "show" ++ (" " : Str) ++ sumT s
  | .ifr s r => "if " ++ sumT s ++ ": " ++ rowT r
/-- rows whose text is read back -/
def Row.wf : Row → Prop
  | .set _ s => s ≠ [] ∧ sumN s ≤ 8
  | .drp _ => True
  | .sho s => s ≠ [] ∧ sumN s ≤ 8
  | .ifr s r => s ≠ [] ∧ sumN s ≤ 8 ∧ r.wf
def RtOk (v : Worth) (r : Row) : Prop := ∀ h, v [.d (rowD r)] h = .ok (dS (rowT r)) h ∧ (rowT r).length ≤ 300
theorem rt_set (v : Worth) (x : Str) (s : List Pr) (ok : (Row.set x s).ok) (wf : (Row.set x s).wf) : RtOk (Mp.run (f_l_row_text_E v) 1 f_l_row_text_b) (.set x s) := by
  intro h
  obtain ⟨nx, os⟩ := ok
  obtain ⟨n, hn⟩ := wf
  have e := sum_text_ok h os (by omega)
  have sl := sumT_len n os
  have b0 : (1000 : Nat) ≤ sizeLine := by decide
  have l1 := (nm_len nx).2
  have l2 : (Str.ofString " = ").length = 3 := by decide
  have n1 : x.length + (Str.ofString " = ").length ≤ sizeLine := by omega
  have n2 : (x ++ Str.ofString " = ").length + (sumT s).length ≤ sizeLine := by rw [len_app]; omega
  refine ⟨?_, by simp only [rowT, len_app, l2]; omega⟩
  simp [Mp.run, evSs, evS, evE, evT, evTs, evTo, evL, evR, evB, evI, evO, Res.st, wipeS, noOwn, binO_eq, mkTup, AV.toDs, AV.toD, Cell.frz, evG_tp, forGo, SrcOk, lcGo, Vw.ty, tyAny, tyIs, kb_int, kb_bool, kb_str, kb_tup, f_l_row_text_b, rowD, wd _ _ _ w_s w_s, e, n1, n2, rowT]
theorem rt_drp (v : Worth) (x : Str) (ok : (Row.drp x).ok) : RtOk (Mp.run (f_l_row_text_E v) 1 f_l_row_text_b) (.drp x) := by
  intro h
  have b0 : (1000 : Nat) ≤ sizeLine := by decide
  have l1 := (nm_len ok).2
  have l2 : (Str.ofString "drop").length = 4 := by decide
  have l3 : (Str.ofString " ").length = 1 := by decide
  have n1 : (Str.ofString "drop").length + (Str.ofString " ").length ≤ sizeLine := by omega
  have n2 : (Str.ofString "drop" ++ Str.ofString " ").length + x.length ≤ sizeLine := by rw [len_app]; omega
  have c1 : (Str.ofString "drop" == Str.ofString "set") = false := by decide +kernel
  have c2 : (Str.ofString "drop" == Str.ofString "if") = false := by decide +kernel
  refine ⟨?_, by simp only [rowT, len_app, l2, l3]; omega⟩
  simp [Mp.run, evSs, evS, evE, evT, evTs, evTo, evL, evR, evB, evI, evO, Res.st, wipeS, noOwn, binO_eq, mkTup, AV.toDs, AV.toD, Cell.frz, evG_tp, forGo, SrcOk, lcGo, Vw.ty, tyAny, tyIs, kb_int, kb_bool, kb_str, kb_tup, f_l_row_text_b, rowD, wd _ _ _ w_d w_s, wd _ _ _ w_d w_i, wd _ _ _ w_d w_d, c1, c2, n1, n2, rowT]
theorem rt_sho (v : Worth) (s : List Pr) (ok : (Row.sho s).ok) (wf : (Row.sho s).wf) : RtOk (Mp.run (f_l_row_text_E v) 1 f_l_row_text_b) (.sho s) := by
  intro h
  obtain ⟨n, hn⟩ := wf
  have e := sum_text_ok h ok (by omega)
  have sl := sumT_len n ok
  have b0 : (1000 : Nat) ≤ sizeLine := by decide
  have l2 : (Str.ofString "show").length = 4 := by decide
  have l3 : (Str.ofString " ").length = 1 := by decide
  have n1 : (Str.ofString "show").length + (Str.ofString " ").length ≤ sizeLine := by omega
  have n2 : (Str.ofString "show" ++ Str.ofString " ").length + (sumT s).length ≤ sizeLine := by rw [len_app]; omega
  have c1 : (Str.ofString "show" == Str.ofString "set") = false := by decide +kernel
  refine ⟨?_, by simp only [rowT, len_app, l2, l3]; omega⟩
  simp [Mp.run, evSs, evS, evE, evT, evTs, evTo, evL, evR, evB, evI, evO, Res.st, wipeS, noOwn, binO_eq, mkTup, AV.toDs, AV.toD, Cell.frz, evG_tp, forGo, SrcOk, lcGo, Vw.ty, tyAny, tyIs, kb_int, kb_bool, kb_str, kb_tup, f_l_row_text_b, rowD, wd _ _ _ w_h w_s, wd _ _ _ w_h w_i, wd _ _ _ w_h w_d, c1, hi, hd', e, n1, n2, rowT]
theorem rt_plain (v : Worth) (r : Row) (ok : r.ok) (wf : r.wf) (hp : r.plain = true) : RtOk (Mp.run (f_l_row_text_E v) 1 f_l_row_text_b) r := by
  cases r with
  | drp x => exact rt_drp v x ok
  | set x s => exact rt_set v x s ok wf
  | sho s => exact rt_sho v s ok wf
  | ifr s r => cases hp
theorem row_text_ok (r : Row) (ok : r.ok) (wf : r.wf) (h : Hs) : f_l_row_text [.d (rowD r)] h = .ok (dS (rowT r)) h ∧ (rowT r).length ≤ 400 := by
  by_cases hp : r.plain = true
  · obtain ⟨e, l⟩ := rt_plain (recW (fun v => Mp.run (f_l_row_text_E v) 1 f_l_row_text_b) 1) r ok wf hp h
    exact ⟨e, by omega⟩
  · cases r with
    | ifr s r =>
      obtain ⟨os, op, or⟩ := ok
      obtain ⟨n, hn, wr⟩ := wf
      obtain ⟨e1, l1⟩ := rt_plain (recW (fun v => Mp.run (f_l_row_text_E v) 1 f_l_row_text_b) 0) r or wr op h
      have e := sum_text_ok h os (by omega)
      have sl := sumT_len n os
      have b0 : (1000 : Nat) ≤ sizeLine := by decide
      have l2 : (Str.ofString "if ").length = 3 := by decide
      have l3 : (Str.ofString ": ").length = 2 := by decide
      have n1 : (Str.ofString "if ").length + (sumT s).length ≤ sizeLine := by omega
      have n2 : (Str.ofString "if " ++ sumT s).length + (Str.ofString ": ").length ≤ sizeLine := by rw [len_app]; omega
      have n3 : (Str.ofString "if " ++ sumT s ++ Str.ofString ": ").length + (rowT r).length ≤ sizeLine := by rw [len_app, len_app]; omega
      have c1 : (Str.ofString "if" == Str.ofString "set") = false := by decide +kernel
      refine ⟨?_, by simp only [rowT, len_app, l2, l3]; omega⟩
      show Mp.run (f_l_row_text_E (Mp.run (f_l_row_text_E (recW (fun v => Mp.run (f_l_row_text_E v) 1 f_l_row_text_b) 0)) 1 f_l_row_text_b)) 1 f_l_row_text_b [.d (rowD (.ifr s r))] h = _
      generalize hw : Mp.run (f_l_row_text_E (recW (fun v => Mp.run (f_l_row_text_E v) 1 f_l_row_text_b) 0)) 1 f_l_row_text_b = W at e1 ⊢
      simp [Mp.run, evSs, evS, evE, evT, evTs, evTo, evL, evR, evB, evI, evO, Res.st, wipeS, noOwn, binO_eq, mkTup, AV.toDs, AV.toD, Cell.frz, evG_tp, forGo, SrcOk, lcGo, Vw.ty, tyAny, tyIs, kb_int, kb_bool, kb_str, kb_tup, f_l_row_text_b, rowD, wd _ _ _ w_i w_s, wd _ _ _ w_i w_i, c1, e, e1, n1, n2, n3, rowT]
    | _ => exact absurd rfl hp
end K


set_option Elab.async false
set_option linter.all false
set_option maxRecDepth 100000
namespace K
open PySem PySem.Spec PyProof.Rows L2 Mp
/-! ### a row is read -/
theorem nm_ne {x : Str} (h : nmS x = true) : x ≠ Str.ofString "show" ∧ x ≠ Str.ofString "drop" ∧ x ≠ Str.ofString "if" := by
  refine ⟨fun e => ?_, fun e => ?_, fun e => ?_⟩ <;> (rw [e] at h; exact absurd h (by decide +kernel))
theorem sp_tl : TL.tl (Str.ofString " ") = 32 :: [] := by rw [TL.tl_ofString]; rfl
theorem eq_tl : TL.tl (Str.ofString " = ") = 32 :: [61, 32] := by rw [TL.tl_ofString]; rfl
theorem co_tl : TL.tl (Str.ofString ": ") = 58 :: [32] := by rw [TL.tl_ofString]; rfl
theorem no_sp {x : Str} (h : nmS x = true) : 32 ∉ TL.tl x := fun m => by have := nm_abc h 32 m; omega
theorem eq_split : Str.ofString " = " = Str.ofString " " ++ Str.ofString "= " := by decide +kernel
theorem prt_set (x : Str) (s : Str) (h : nmS x = true) : Txt.partition (x ++ Str.ofString " = " ++ s) (Str.ofString " ") = (x, Str.ofString " ", Str.ofString "= " ++ s) := by
  have : x ++ Str.ofString " = " ++ s = x ++ Str.ofString " " ++ (Str.ofString "= " ++ s) := by rw [eq_split]; simp only [app_as]
  rw [this]
  exact TL.partition_app sp_tl (no_sp h)
theorem prt_set2 (x : Str) (s : Str) (h : nmS x = true) : Txt.partition (x ++ Str.ofString " = " ++ s) (Str.ofString " = ") = (x, Str.ofString " = ", s) := TL.partition_app eq_tl (no_sp h)
theorem prt_sho (s : Str) : Txt.partition (Str.ofString "show" ++ Str.ofString " " ++ s) (Str.ofString " ") = (Str.ofString "show", Str.ofString " ", s) := TL.partition_app sp_tl (by rw [TL.tl_ofString]; decide)
theorem prt_drp (s : Str) : Txt.partition (Str.ofString "drop" ++ Str.ofString " " ++ s) (Str.ofString " ") = (Str.ofString "drop", Str.ofString " ", s) := TL.partition_app sp_tl (by rw [TL.tl_ofString]; decide)
theorem prt_ifr (a b : Str) (h : ∀ c ∈ TL.tl a, okc c = true) : Txt.partition (a ++ Str.ofString ": " ++ b) (Str.ofString ": ") = (a, Str.ofString ": ", b) := TL.partition_app co_tl fun m => by
  have := h 58 m
  exact absurd this (by decide)
theorem cut3 (a y : Str) (h : a.length = 3) : cutS (a ++ y) (some 3) none = y := by
  refine TL.ext_tl ?_
  have hl : (a ++ y).length = 3 + y.length := by rw [len_app, h]
  have e1 : HT.sIx (a ++ y).length 0 (some 3) = 3 := by rw [hl]; simp [HT.sIx]
  have e2 : HT.sIx (a ++ y).length (a ++ y).length none = (a ++ y).length := by simp [HT.sIx]
  have ht : (a ++ y).cps.toList = TL.tl a ++ TL.tl y := TL.tl_append a y
  have la : (TL.tl a).length = 3 := by rw [← TL.len_tl, h]
  unfold cutS
  have d3 : List.drop 3 (TL.tl a) = [] := List.drop_of_length_le (by omega)
  rw [TL.tl_mk, e1, e2, hl, ht, List.drop_append, la, d3, List.nil_append, Nat.sub_self, List.drop_zero]
  exact List.take_of_length_le (by rw [← TL.len_tl]; omega)
theorem no_if {x : Str} (h : Txt.startswith x "if " = true) : (TL.tl x).take 3 = [105, 102, 32] := by
  simp only [Txt.startswith, Bool.and_eq_true] at h
  have := h.2
  rw [PySem.StrLaws.subAt_eq] at this
  have e : (Str.ofString "if ").cps.toList = [105, 102, 32] := by rw [show (Str.ofString "if ").cps.toList = TL.tl (Str.ofString "if ") from rfl, TL.tl_ofString]; rfl
  have l : (Str.ofString "if ").length = 3 := by decide
  rw [l, e] at this
  simpa using this
theorem sw_plain {r : Row} (ok : r.ok) (hp : r.plain = true) : Txt.startswith (rowT r) "if " = false := by
  rcases hq : Txt.startswith (rowT r) "if " with _ | _
  · rfl
  · exfalso
    have q := no_if hq
    cases r with
    | drp x =>
      rw [rowT, TL.tl_append, TL.tl_append, TL.tl_ofString] at q
      simp at q
    | sho s =>
      rw [rowT, TL.tl_append, TL.tl_append, TL.tl_ofString] at q
      simp at q
    | ifr s r => cases hp
    | set x s =>
      have nx : nmS x = true := ok.1
      obtain ⟨_, _, n3⟩ := nm_ne nx
      rw [rowT, TL.tl_append, TL.tl_append, eq_tl] at q
      have ab := nm_abc nx
      have ln := nm_len nx
      rw [TL.len_tl] at ln
      rcases hx : TL.tl x with _ | ⟨a, _ | ⟨b, _ | ⟨c, t⟩⟩⟩
      · rw [hx] at ln; simp at ln
      · rw [hx] at q; simp at q
      · rw [hx] at q
        simp at q
        refine n3 (TL.ext_tl ?_)
        rw [hx, TL.tl_ofString, q.1, q.2]; rfl
      · rw [hx] at q
        simp at q
        have := ab c (by show c ∈ TL.tl x; rw [hx]; simp)
        omega
def PiOk (r : Row) : Prop := ∀ h, f_plain_row_in [.d (.str (rowT r))] h = .ok (.v (.d (rowD r))) h
theorem pi_sho (s : List Pr) (ok : (Row.sho s).ok) (wf : (Row.sho s).wf) : PiOk (.sho s) := by
  intro h
  obtain ⟨n, hn⟩ := wf
  have e := read_sum_ok h n ok hn
  have l := (row_text_ok (.sho s) ok ⟨n, hn⟩ h).2
  have b0 : (1000 : Nat) ≤ sizeLine := by decide
  have n1 : (Str.ofString "show" ++ Str.ofString " " ++ sumT s).length ≤ sizeLine := Nat.le_trans l (by omega)
  have n2 : ¬ (Str.ofString " ").length = 0 := by decide
  have c1 : (Str.ofString " " == Str.ofString "") = false := by decide +kernel
  simp [Mp.run, evSs, evS, evE, evT, evTs, evTo, evL, evR, evB, evI, evO, Res.st, wipeS, noOwn, binO_eq, mkTup, AV.toDs, AV.toD, Cell.frz, evG_tp, forGo, SrcOk, lcGo, Vw.ty, tyAny, tyIs, kb_int, kb_bool, kb_str, kb_tup, f_plain_row_in, f_plain_row_in_b, List.replicate, rowT, prt_sho, n1, n2, wd _ _ _ w_h w_h, wd _ (Str.ofString " ") (Str.ofString "") (by decide +kernel) (by decide +kernel), c1, e, rowD]
theorem pi_drp (x : Str) (ok : (Row.drp x).ok) : PiOk (.drp x) := by
  intro h
  have b0 : (1000 : Nat) ≤ sizeLine := by decide
  have lx := (nm_len ok).2
  have e := is_str h x (by omega)
  rw [show nmS x = true from ok] at e
  have l := (row_text_ok (.drp x) ok trivial h).2
  have n1 : (Str.ofString "drop" ++ Str.ofString " " ++ x).length ≤ sizeLine := Nat.le_trans l (by omega)
  have n2 : ¬ (Str.ofString " ").length = 0 := by decide
  have c1 : (Str.ofString "drop" == Str.ofString "show") = false := by decide +kernel
  simp [Mp.run, evSs, evS, evE, evT, evTs, evTo, evL, evR, evB, evI, evO, Res.st, wipeS, noOwn, binO_eq, mkTup, AV.toDs, AV.toD, Cell.frz, evG_tp, forGo, SrcOk, lcGo, Vw.ty, tyAny, tyIs, kb_int, kb_bool, kb_str, kb_tup, f_plain_row_in, f_plain_row_in_b, List.replicate, rowT, prt_drp, n1, n2, wd _ _ _ w_d w_h, wd _ _ _ w_d w_d, c1, e, rowD]
theorem pi_set (x : Str) (s : List Pr) (ok : (Row.set x s).ok) (wf : (Row.set x s).wf) : PiOk (.set x s) := by
  intro h
  obtain ⟨nx, os⟩ := ok
  obtain ⟨n, hn⟩ := wf
  have b0 : (1000 : Nat) ≤ sizeLine := by decide
  have lx := (nm_len nx).2
  have e1 := is_str h x (by omega)
  rw [nx] at e1
  have e := read_sum_ok h n os hn
  have l := (row_text_ok (.set x s) ⟨nx, os⟩ ⟨n, hn⟩ h).2
  have n1 : (x ++ Str.ofString " = " ++ sumT s).length ≤ sizeLine := Nat.le_trans l (by omega)
  have n2 : ¬ (Str.ofString " ").length = 0 := by decide
  have n3 : ¬ (Str.ofString " = ").length = 0 := by decide
  have c1 : (x == Str.ofString "show") = false := beq_eq_false_iff_ne.mpr (nm_ne nx).1
  have c2 : (x == Str.ofString "drop") = false := beq_eq_false_iff_ne.mpr (nm_ne nx).2.1
  have c3 : (Str.ofString " = " == Str.ofString "") = false := by decide +kernel
  have p1 := prt_set x (sumT s) nx
  have p2 := prt_set2 x (sumT s) nx
  simp [Mp.run, evSs, evS, evE, evT, evTs, evTo, evL, evR, evB, evI, evO, Res.st, wipeS, noOwn, binO_eq, mkTup, AV.toDs, AV.toD, Cell.frz, evG_tp, forGo, SrcOk, lcGo, Vw.ty, tyAny, tyIs, kb_int, kb_bool, kb_str, kb_tup, f_plain_row_in, f_plain_row_in_b, List.replicate, rowT, p1, p2, n1, n2, n3, wd _ _ _ (nm_ok nx) w_h, wd _ _ _ (nm_ok nx) w_d, wd _ (Str.ofString " = ") (Str.ofString "") (by decide +kernel) (by decide +kernel), c1, c2, c3, e1, e, rowD]
theorem pi_ok (r : Row) (ok : r.ok) (wf : r.wf) (hp : r.plain = true) : PiOk r := by
  cases r with
  | drp x => exact pi_drp x ok
  | set x s => exact pi_set x s ok wf
  | sho s => exact pi_sho s ok wf
  | ifr s r => cases hp
theorem row_in_ok (r : Row) (ok : r.ok) (wf : r.wf) (h : Hs) : f_row_in [.d (.str (rowT r))] h = .ok (.v (.d (rowD r))) h := by
  by_cases hp : r.plain = true
  · have e := pi_ok r ok wf hp h
    have s := sw_plain ok hp
    simp [Mp.run, evSs, evS, evE, evT, evTs, evTo, evL, evR, evB, evI, evO, Res.st, wipeS, noOwn, binO_eq, mkTup, AV.toDs, AV.toD, Cell.frz, evG_tp, forGo, SrcOk, lcGo, Vw.ty, tyAny, tyIs, kb_int, kb_bool, kb_str, kb_tup, f_row_in, f_row_in_b, List.replicate, s, e]
  · cases r with
    | ifr s r =>
      obtain ⟨os, op, or⟩ := ok
      obtain ⟨n, hn, wr⟩ := wf
      have b0 : (1000 : Nat) ≤ sizeLine := by decide
      have e1 := pi_ok r or wr op h
      have e := read_sum_ok h n os hn
      have l := (row_text_ok (.ifr s r) ⟨os, op, or⟩ ⟨n, hn, wr⟩ h).2
      have hT : rowT (.ifr s r) = Str.ofString "if " ++ (sumT s ++ Str.ofString ": " ++ rowT r) := by simp only [rowT, app_as]
      rw [hT] at l ⊢
      have sw : Txt.startswith (Str.ofString "if " ++ (sumT s ++ Str.ofString ": " ++ rowT r)) (Str.ofString "if ") = true := PySem.W.KT.starts_app _ _
      have ct : cutS (Str.ofString "if " ++ (sumT s ++ Str.ofString ": " ++ rowT r)) (some 3) none = sumT s ++ Str.ofString ": " ++ rowT r := cut3 _ _ (by decide)
      have pt := prt_ifr (sumT s) (rowT r) (sumT_ok os)
      have n1 : (Str.ofString "if " ++ (sumT s ++ Str.ofString ": " ++ rowT r)).length ≤ sizeLine := Nat.le_trans l (by omega)
      have n2 : (sumT s ++ Str.ofString ": " ++ rowT r).length ≤ sizeLine := by rw [len_app] at n1; omega
      have n3 : ¬ (Str.ofString ": ").length = 0 := by decide
      have c1 : (Str.ofString ": " == Str.ofString "") = false := by decide +kernel
      generalize sumT s ++ Str.ofString ": " ++ rowT r = z at *
      simp [Mp.run, evSs, evS, evE, evT, evTs, evTo, evL, evR, evB, evI, evO, Res.st, wipeS, noOwn, binO_eq, mkTup, AV.toDs, AV.toD, Cell.frz, evG_tp, forGo, SrcOk, lcGo, Vw.ty, tyAny, tyIs, kb_int, kb_bool, kb_str, kb_tup, f_row_in, f_row_in_b, List.replicate, sw, ct, pt, n1, n2, n3, wd _ (Str.ofString ": ") (Str.ofString "") (by decide +kernel) (by decide +kernel), c1, e, e1, rowD]
    | _ => exact absurd rfl hp
end K


set_option Elab.async false
set_option linter.all false
set_option maxRecDepth 100000
namespace K
open PySem PySem.Spec PyProof.Rows L2 Mp
/-! ### a cell's text, written and read -/
def cellT (rs : List Row) : Str := Txt.join "\n" (rs.map rowT)
structure RowsOk (rs : List Row) : Prop where
  ok : ∀ r ∈ rs, r.ok
  wf : ∀ r ∈ rs, r.wf
  ne : rs ≠ []
  le : rs.length ≤ 6
theorem nl_app {a b : Str} (ha : 10 ∉ TL.tl a) (hb : 10 ∉ TL.tl b) : 10 ∉ TL.tl (a ++ b) := by
  rw [TL.tl_append, List.mem_append]; rintro (h | h)
  · exact ha h
  · exact hb h
theorem nl_lit (s : String) (h : 10 ∉ s.toList.map Char.toNat) : 10 ∉ TL.tl (Str.ofString s) := by rw [TL.tl_ofString]; exact h
theorem nl_sum {s : List Pr} (ok : ∀ q ∈ s, q.ok) : 10 ∉ TL.tl (sumT s) := fun m => absurd (sumT_ok ok 10 m) (by decide)
theorem nl_nm {x : Str} (h : nmS x = true) : 10 ∉ TL.tl x := fun m => by have := nm_abc h 10 m; omega
theorem row_nl : ∀ (r : Row), r.ok → 10 ∉ TL.tl (rowT r)
  | .set x s, ok => nl_app (nl_app (nl_nm ok.1) (nl_lit _ (by decide))) (nl_sum ok.2)
  | .drp x, ok => nl_app (nl_app (nl_lit _ (by decide)) (nl_lit _ (by decide))) (nl_nm ok)
  | .sho s, ok => nl_app (nl_app (nl_lit _ (by decide)) (nl_lit _ (by decide))) (nl_sum ok)
  | .ifr s r, ok => nl_app (nl_app (nl_app (nl_lit _ (by decide)) (nl_sum ok.1)) (nl_lit _ (by decide))) (row_nl r ok.2.2)
theorem cell_split {rs : List Row} (h : RowsOk rs) : Txt.split (cellT rs) "\n" = rs.map rowT := by
  refine TL.split_join (s := 10) (S := []) (by rw [TL.tl_ofString]; rfl) (by decide +kernel) (fun e => h.ne (List.map_eq_nil_iff.mp e)) fun p m => ?_
  obtain ⟨r, mr, rfl⟩ := List.mem_map.mp m
  exact row_nl r (h.ok r mr)
theorem join_len (y : Str) (hy : y.length = 1) : ∀ ws : List Str, (∀ w ∈ ws, w.length ≤ 400) → (Txt.join y ws).length ≤ 401 * ws.length
  | [], _ => by rw [TL.join_eq]; exact Nat.le_refl _
  | [a], h => by
    have := h a (.head _)
    rw [TL.join_eq]
    show a.length ≤ _
    simp; omega
  | a :: b :: r, h => by
    have ih := join_len y hy (b :: r) fun w m => h w (.tail _ m)
    have := h a (.head _)
    rw [TL.join_eq] at ih ⊢
    show (a ++ y ++ Str.join y (b :: r)).length ≤ _
    rw [len_app, len_app, hy]
    simp only [List.length_cons] at ih ⊢
    omega
theorem cell_len {rs : List Row} (h : RowsOk rs) (g : Hs) : (cellT rs).length ≤ 3000 := by
  have := join_len (Str.ofString "\n") (by decide) (rs.map rowT) fun w m => by
    obtain ⟨r, mr, rfl⟩ := List.mem_map.mp m
    exact (row_text_ok r (h.ok r mr) (h.wf r mr) g).2
  rw [List.length_map] at this
  have := h.le
  unfold cellT
  omega
def rowsD (rs : List Row) : Mp.D := .tup (rs.map rowD)
theorem text_ok {rs : List Row} (h : RowsOk rs) (g : Hs) : f_l_text [.d (rowsD rs)] g = .ok (dS (cellT rs)) g := by
  have b0 : (1000 : Nat) ≤ sizeLine := by decide
  have le := h.le
  have lc := lc_map (elt := fun S h => (evE f_l_text_E f_l_text_e0 S h).bind toV1) (cs := fun S h => evTo f_l_text_E none S h) (S := [.v (.d (rowsD rs)), .no]) (i := 1)
    (fun r => .d (rowD r)) (fun r => sA (rowT r)) g rs (fun r m => ⟨by simp [evTo], by
      have e := (row_text_ok r (h.ok r m) (h.wf r m) g).1
      simp [Mp.run, evSs, evS, evE, evT, evTs, evTo, evL, evR, evB, evI, evO, Res.st, wipeS, noOwn, binO_eq, mkTup, AV.toDs, AV.toD, Cell.frz, evG_tp, forGo, SrcOk, lcGo, Vw.ty, tyAny, tyIs, kb_int, kb_bool, kb_str, kb_tup, f_l_text_e0, e, sA]⟩) [] (by simp; omega)
  simp only [List.nil_append] at lc
  have it : evI f_l_text_E (.seq (.var 0)) [.v (.d (rowsD rs)), .no] g = .ok (rs.map (fun r => .d (rowD r)), .fz) g := by
    simp [evI, evE, rowsD, Function.comp_def]
  have e := lcm_eq (F := f_l_text_E) (elt := f_l_text_e0) (tg := .nm 1) (cs := none) (own := [1]) (by simp [noOwn]) it
  have w : wipeS [.v (.d (rowsD rs)), .no] [1] = [.v (.d (rowsD rs)), .no] := by simp [wipeS]
  rw [w, lc] at e
  have mm : rs.map (fun r => sA (rowT r)) = (rs.map rowT).map sA := by simp
  have fz : (Cell.lst ((rs.map rowT).map sA)).frz = some (.d (.lst ((rs.map rowT).map .str))) := frz_of (toDs_S _)
  have vw2 : (AV.d (.lst ((rs.map rowT).map .str))).vw g = some (.lst ((rs.map rowT).map sA)) := by
    rw [vw_d, dvw_lst, List.map_map]; rfl
  have sm : (((rs.map rowT).map fun z : Str => z.length).sum + (rs.map rowT).length * (Str.ofString "\n").length) ≤ 16777216 := by
    have h3 : (Str.ofString "\n").length = 1 := by decide
    have key : ∀ l : List Str, (∀ z ∈ l, z.length ≤ 400) → (l.map fun z : Str => z.length).sum ≤ 400 * l.length := by
      intro l
      induction l with
      | nil => intro _; simp
      | cons a l ih => intro q; have := q a (.head _); have := ih fun z m => q z (.tail _ m); simp; omega
    have := key (rs.map rowT) (fun z m => by
      obtain ⟨r, mr, rfl⟩ := List.mem_map.mp m
      exact (row_text_ok r (h.ok r mr) (h.wf r mr) g).2)
    rw [h3]
    simp only [List.length_map] at this ⊢
    omega
  rw [mm] at e
  have j : evE f_l_text_E (.met .join (.cst (.str "\n")) [.lcm f_l_text_e0 (.nm 1) (.seq (.var 0)) none [1]]) [.v (.d (rowsD rs)), .no] g = .ok (dS (cellT rs)) g := by
    rw [evE, evE]
    simp only [Res.bind_ok, ho1_v, rcv_join, vw_v, vw_d, dvw_str, Option.map_some, vwOk_str, Option.getD_some, if_true, evL, e, toV1_f, fz, ok1_some, mth_join, Option.bind_some, vm_join, vw2, strs_S, if_pos sm, okP_some]
    rfl
  simp [f_l_text, Mp.run, f_l_text_b, evSs, evS, Res.st, List.replicate, j]
def enI : Nat → List Row → List AV
  | _, [] => []
  | k, r :: rs => .d (.tup [.int (k : Nat), .str (rowT r)]) :: enI (k + 1) rs
theorem en_eq : ∀ (rs : List Row) (k : Nat), ((((rs.map rowT).map Mp.D.str).map AV.d).zipIdx k).map (fun q => Mp.mkTup [.d (.int (q.2 : Nat)), q.1]) = enI k rs
  | [], k => rfl
  | r :: rs, k => by
    simp only [List.map_cons, List.zipIdx_cons, enI, ← en_eq rs (k + 1)]
    congr 1
theorem rows_loop (h : Hs) (A : SV) : ∀ (rs dn : List Row), (∀ r ∈ rs, r.ok) → (∀ r ∈ rs, r.wf) → dn.length + rs.length ≤ 6 → ∀ (x2 x3 : SV),
    ∃ y2 y3, forGo (fun S h => evSs f_rows_in_E f_rows_in_p1 S h) (.tp [.nm 2, .nm 3]) .fz (enI dn.length rs) [A, .own (.lst (dn.map fun r => .d (rowD r))), x2, x3] h = .nx [A, .own (.lst ((dn ++ rs).map fun r => .d (rowD r))), y2, y3] h
  | [], dn, ok, wf, le, x2, x3 => ⟨x2, x3, by simp [forGo, SrcOk, enI]⟩
  | r :: rs, dn, ok, wf, le, x2, x3 => by
    have e := row_in_ok r (ok r (.head _)) (wf r (.head _)) h
    have b0 : (1000 : Nat) < sizeLine := by decide
    simp only [List.length_cons] at le
    have n6 : ¬ (dn.length : Int) = 6 := by omega
    have nl : dn.length < sizeLine := by omega
    have st : evSs f_rows_in_E f_rows_in_p1 [A, .own (.lst (dn.map fun r => .d (rowD r))), .v (.d (.int (dn.length : Nat))), .v (.d (.str (rowT r)))] h = .nx [A, .own (.lst ((dn ++ [r]).map fun r => .d (rowD r))), .v (.d (.int (dn.length : Nat))), .v (.d (.str (rowT r)))] h := by
      simp [Mp.run, evSs, evS, evE, evT, evTs, evTo, evL, evR, evB, evI, evO, Res.st, wipeS, noOwn, binO_eq, mkTup, AV.toDs, AV.toD, Cell.frz, evG_tp, forGo, SrcOk, lcGo, Vw.ty, tyAny, tyIs, kb_int, kb_bool, kb_str, kb_tup, f_rows_in_p1, f_rows_in_p0, n6, e, nl]
    obtain ⟨y2, y3, ih⟩ := rows_loop h A rs (dn ++ [r]) (fun q m => ok q (.tail _ m)) (fun q m => wf q (.tail _ m)) (by simp; omega) (.v (.d (.int (dn.length : Nat)))) (.v (.d (.str (rowT r))))
    refine ⟨y2, y3, ?_⟩
    rw [List.append_assoc, List.length_append] at ih
    simp only [enI, forGo, srcOk_fz, if_true]
    rw [evG_tp h _ _ [.d (.int (dn.length : Nat)), .d (.str (rowT r))] _ rfl]
    simp only [evGs_cons, evGs_nil, evG_nm, Option.bind_some, List.set_cons_succ, List.set_cons_zero, st]
    exact ih
theorem rows_in_ok {rs : List Row} (H : RowsOk rs) (h : Hs) : f_rows_in [.d (.str (cellT rs))] h = .ok (.v (.d (rowsD rs))) h := by
  obtain ⟨y2, y3, e⟩ := rows_loop h (.v (.d (.str (cellT rs)))) rs [] H.ok H.wf (by simpa using H.le) .no .no
  have b0 : (4000 : Nat) ≤ sizeLine := by decide
  have cl := cell_len H h
  have sp := cell_split H
  have n1 : (cellT rs).length + 2 ≤ sizeLine := by omega
  have n2 : ¬ (Str.ofString "\n").length = 0 := by decide
  have it : evI f_rows_in_E (.enm (.met .split (.var 0) [.cst (.str "\n")])) [.v (.d (.str (cellT rs))), .own (.lst []), .no, .no] h = .ok (enI 0 rs, .fz) h := by
    have fz : (Cell.lst ((rs.map rowT).map fun z => AV.d (.str z))).frz = some (.d (.lst ((rs.map rowT).map .str))) := frz_of (toDs_S _)
    have en : enmO (.d (.lst ((rs.map rowT).map .str))) = some (enI 0 rs, .fz) := by
      simp only [enmO, lsO, Option.map_some, en_eq]
    simp [-List.map_map, evI, evE, evL, n1, n2, sp, fz, en]
  have tp := mkTup_of (toDs_fn rowD rs)
  simp only [List.map_nil, List.length_nil, List.nil_append] at e
  simp [f_rows_in, Mp.run, f_rows_in_b, evSs, evS, evE, evL, evR, Res.st, List.replicate, it, e, tp, rowsD]
theorem cell_ok {rs : List Row} (H : RowsOk rs) (h : Hs) : f_Cell_new [.d (.str (cellT rs))] h = .ok (.f (.ins 1 [("rows", .d (rowsD rs)), ("text", .d (.str (cellT rs)))])) h := by
  have e := rows_in_ok H h
  have n1 : ¬ Str.ofString "rows" = Str.ofString "text" := by decide +kernel
  simp [f_Cell_new, runI, f_Cell_new_b, evSs, evS, evE, evR, evL, evT, Res.st, stO, Mp.stC, putFA, Vw.ty, tyAny, tyIs, kb_str, e, n1]
theorem cell_frz (rs : List Row) : (Cell.ins 1 [("rows", .d (rowsD rs)), ("text", .d (.str (cellT rs)))]).frz = some (.d (cellD (cellT rs) rs)) := by
  simp [Cell.frz, AV.toDk, AV.toD, cellD, rowsD]
end K


set_option Elab.async false
set_option linter.all false
set_option maxRecDepth 100000
namespace K
open PySem PySem.Spec PyProof.Rows L2 Mp
/-! ### draws that leave all else as it was -/
def BF (h0 : Hs) (a : Nat) (h : Hs) : Prop := B a h ∧ h0.length ≤ h.length ∧ ∀ i, i < h0.length → i ≠ a → h[i]? = h0[i]?
theorem BF.refl {a : Nat} {h : Hs} (hB : B a h) : BF h a h := ⟨hB, Nat.le_refl _, fun _ _ _ => rfl⟩
theorem BF.trans {a : Nat} {h0 h1 h2 : Hs} (x : BF h0 a h1) (y : BF h1 a h2) : BF h0 a h2 := ⟨y.1, Nat.le_trans x.2.1 y.2.1, fun i hi n => (y.2.2 i (by have := x.2.1; omega) n).trans (x.2.2 i hi n)⟩
end K


set_option Elab.async false
set_option linter.all false
set_option maxRecDepth 100000
namespace K
open PySem PySem.Spec PyProof.Rows L2 Mp
structure RwOk (r : Row) : Prop where
  ok : r.ok
  wf : r.wf
  n : rowN r ≤ 16
theorem app_row (rs : List Row) (r : Row) : (rs ++ [r]).map (fun r => AV.d (rowD r)) = rs.map (fun r => AV.d (rowD r)) ++ [.d (rowD r)] := by simp
end K


set_option Elab.async false
set_option linter.all false
set_option maxRecDepth 100000
namespace K
open PySem PySem.Spec PyProof.Rows L2 Mp
/-! ### what a run tells -/
theorem lkT_false {tk : List (Str × Option Int)} {x : Str} (h : lkT tk x = false) : x ∉ tk.map (·.1) := by
  intro m
  obtain ⟨p, mp, rfl⟩ := List.mem_map.mp m
  simp only [lkT, List.any_eq_false, decide_eq_true_eq] at h
  exact h p mp rfl
theorem takeN_nodup {r : Room} {tou : List Str} : ∀ (l : List Str) (tk : List (Str × Option Int)), (tk.map (·.1)).Nodup → ((takeN r tou tk l).map (·.1)).Nodup
  | [], _, h => h
  | x :: l, tk, h => by
    refine takeN_nodup l _ ?_
    unfold take1
    split
    · exact h
    · split
      · exact h
      · rename_i q
        have := lkT_false (Bool.eq_false_iff.mpr q)
        rw [List.map_append, List.nodup_append]
        refine ⟨h, by simp, fun a ha b hb => ?_⟩
        simp only [List.map_cons, List.map_nil, List.mem_singleton] at hb
        subst hb
        exact fun e => this (e ▸ ha)
theorem takeN_names {r : Room} {tou : List Str} {P : Str → Prop} : ∀ (l : List Str) (tk : List (Str × Option Int)), (∀ x ∈ l, P x) → (∀ p ∈ tk, P p.1) → ∀ p ∈ takeN r tou tk l, P p.1
  | [], _, _, h => h
  | x :: l, tk, hl, h => by
    refine takeN_names l _ (fun y m => hl y (.tail _ m)) fun p m => ?_
    unfold take1 at m
    split at m
    · exact h p m
    · split at m
      · exact h p m
      · rcases List.mem_append.mp m with m | m
        · exact h p m
        · simp only [List.mem_singleton] at m; subst m; exact hl x (.head _)
theorem pvL_nm {r : Room} : ∀ (ps : List (Bool × At)) (p : Int), (∀ q ∈ ps, q.2.ok) → ∀ x ∈ pvL r p ps, nmS x = true
  | [], _, _, x, m => by cases m
  | (o, a) :: ps, p, ok, x, m => by
    simp only [pvL, List.mem_append] at m
    rcases m with m | m
    · have ha : a.ok := ok (o, a) (.head _)
      cases a with
      | num n => cases m
      | nm y => simp only [atN, List.mem_singleton] at m; subst m; exact ha
    · have key : ∀ q : Int, x ∈ (if big q = true then [] else pvL r q ps) → nmS x = true := fun q m => by
        cases hb : big q with
        | true => rw [hb, if_pos rfl] at m; cases m
        | false =>
          rw [hb, if_neg Bool.false_ne_true] at m
          exact pvL_nm ps q (fun q mq => ok q (.tail _ mq)) x m
      cases ev : atV r a with
      | none => rw [ev] at m; cases m
      | some y =>
        rw [ev] at m
        simp only at m
        by_cases z : o = false ∧ y = 0
        · rw [if_pos z] at m; cases m
        · rw [if_neg z] at m; exact key _ m
theorem svL_nm {r : Room} : ∀ (s : List Pr) (t : Int), (∀ q ∈ s, q.ok) → ∀ x ∈ svL r t s, nmS x = true
  | [], _, _, x, m => by cases m
  | p :: s, t, ok, x, m => by
    simp only [svL, List.mem_append] at m
    obtain ⟨_, of, op, _⟩ := ok p (.head _)
    rcases m with m | m
    · exact pvL_nm _ _ (fun q mq => by rcases List.mem_cons.mp mq with rfl | mq; exact of; exact op q mq) x m
    · split at m
      · cases m
      · split at m
        · cases m
        · exact svL_nm s _ (fun q mq => ok q (.tail _ mq)) x m
/-- what stays true of a run from a room -/
structure Told (r0 : Room) (a : Rn) : Prop where
  nd : (a.took.map (·.1)).Nodup
  tk : ∀ p ∈ a.took, nmS p.1 = true
  tu : ∀ x ∈ a.tou, nmS x = true
  o : ∀ x, x ∉ a.tou → lkR a.here x = lkR r0 x
  vl : ∀ p ∈ a.took, lkR r0 p.1 = p.2
theorem Told.start (r : Room) : Told r (start r) := ⟨List.nodup_nil, fun _ m => (nomatch m), fun _ m => (nomatch m), fun _ _ => rfl, fun _ m => (nomatch m)⟩
theorem Told.reck {r0 : Room} {a : Rn} (T : Told r0 a) {s : List Pr} (ok : ∀ q ∈ s, q.ok) : Told r0 (a.reck s) :=
  ⟨takeN_nodup _ _ T.nd, takeN_names (P := fun x => nmS x = true) _ _ (svL_nm s 0 ok) T.tk, T.tu, T.o, takeN_val T.o _ _ T.vl⟩
/-! a room alike -/
end K


set_option Elab.async false
set_option linter.all false
set_option maxRecDepth 100000
namespace K
open PySem PySem.Spec PyProof.Rows L2 Mp
/-! runs within the law -/
theorem BF.push {h0 h : Hs} {a : Nat} (hB : BF h0 a h) (c : Cell) : BF h0 a (h ++ [c]) := by
  obtain ⟨⟨b, hb, ob⟩, le, fr⟩ := hB
  exact ⟨⟨b, by rw [List.getElem?_append_left (lt_of hb)]; exact hb, ob⟩, by simp; omega, fun i hi ne => by rw [List.getElem?_append_left (by omega)]; exact fr i hi ne⟩
theorem BF.put {h0 h : Hs} {a n : Nat} (hB : BF h0 a h) (hn : h0.length ≤ n) (na : n ≠ a) (c : Cell) : BF h0 a (h.set n c) := by
  obtain ⟨⟨b, hb, ob⟩, le, fr⟩ := hB
  exact ⟨⟨b, by rw [List.getElem?_set_ne na]; exact hb, ob⟩, by simpa using le, fun i hi ne => by rw [List.getElem?_set_ne (by omega)]; exact fr i hi ne⟩
theorem BF.lt {h0 h : Hs} {a : Nat} (hB : BF h0 a h) : a < h.length := by
  obtain ⟨⟨b, hb, _⟩, _⟩ := hB
  exact lt_of hb
/-! the whole told thing, compared with itself -/
end K


set_option Elab.async false
set_option linter.all false
set_option maxRecDepth 100000
namespace K
open PySem PySem.Spec PyProof.Rows L2 Mp
/-- what is known of a cell's rows -/
structure CellOk (rs : List Row) : Prop where
  ok : ∀ r ∈ rs, RwOk r
  ne : rs ≠ []
  le : rs.length ≤ 6
theorem CellOk.rows {rs : List Row} (h : CellOk rs) : RowsOk rs := ⟨fun r m => (h.ok r m).ok, fun r m => (h.ok r m).wf, h.ne, h.le⟩
section
variable {rs : List Row} {r0 : Room} {a n1 : Nat} {g1 : Hs} (C : CellOk rs) (R0 : RB r0 4)
include C R0
end
end K


set_option Elab.async false
set_option linter.all false
set_option maxRecDepth 100000
namespace K
open PySem PySem.Spec PyProof.Rows L2 Mp
section
variable {rs : List Row} {r0 : Room} {a n1 : Nat} {g1 : Hs}
end
section
variable {rs : List Row} {r0 : Room} {a n1 : Nat} {g1 : Hs} (C : CellOk rs) (R0 : RB r0 4) (hn : n1 < g1.length) (ha : n1 ≠ a) (h1 : g1[n1]? = some (.dic (roA (runR rs (start r0)).1.here)))
include C R0 hn ha h1
end
end K


set_option Elab.async false
set_option linter.all false
set_option maxRecDepth 100000
namespace K
open PySem PySem.Spec PyProof.Rows L2 Mp
theorem BF.base {h0 h1 h2 : Hs} {a : Nat} (x : BF h0 a h1) (y : BF h1 a h2) : BF h0 a h2 := x.trans y
/-! cells behind one another -/
end K


set_option Elab.async false
set_option linter.all false
set_option maxRecDepth 100000
namespace K
open PySem PySem.Spec PyProof.Rows L2 Mp
/-! ### the law's own value of a sum, in a room that may be a cell -/
end K


set_option Elab.async false
set_option linter.all false
set_option maxRecDepth 100000
namespace K
open PySem PySem.Spec PyProof.Rows L2 Mp
/-! ### a row as the law goes through it -/
/-- the names that a row reads, in turn -/
def rdN : Row → Room → List Str
  | .drp _, _ => []
  | .set _ s, h => svL h 0 s
  | .sho s, h => svL h 0 s
  | .ifr s r, h => svL h 0 s ++ match svGo h 0 s with
    | .ok v => if v = 0 then [] else rdN r h
    | .error _ => []
def addNs (tu : List Str) (l : List Str) : List Str := l.foldl addN tu
/-- the cells that the law's step works at -/
structure St4 (nh ns nl nm : Nat) (here : Room) (shown : List Int) (lg mo : List Str) (g : Hs) : Prop where
  h : g[nh]? = some (.dic (roA here))
  s : g[ns]? = some (shC shown)
  l : g[nl]? = some (lgC lg)
  m : g[nm]? = some (lgC mo)
/-- they are four -/
structure Four (nh ns nl nm : Nat) : Prop where
  a : nh ≠ ns
  b : nh ≠ nl
  c : nh ≠ nm
  d : ns ≠ nl
  e : ns ≠ nm
  f : nl ≠ nm
/-- nothing but four cells is changed -/
def Fx (nh ns nl nm : Nat) (h g : Hs) : Prop := g.length = h.length ∧ ∀ i, i ≠ nh → i ≠ ns → i ≠ nl → i ≠ nm → g[i]? = h[i]?
section
variable {nh ns nl nm : Nat} {here : Room} {shown : List Int} {lg mo : List Str} {g h : Hs}
theorem Fx.refl : Fx nh ns nl nm h h := ⟨rfl, fun _ _ _ _ _ => rfl⟩
theorem Fx.trans {h1 h2 h3 : Hs} (x : Fx nh ns nl nm h1 h2) (y : Fx nh ns nl nm h2 h3) : Fx nh ns nl nm h1 h3 := ⟨y.1.trans x.1, fun i a b c d => (y.2 i a b c d).trans (x.2 i a b c d)⟩
theorem Fx.set (x : Fx nh ns nl nm h g) {n : Nat} (hn : n = nh ∨ n = ns ∨ n = nl ∨ n = nm) (c : Cell) : Fx nh ns nl nm h (g.set n c) := by
  refine ⟨by simpa using x.1, fun i a b c' d => ?_⟩
  have : n ≠ i := by rcases hn with rfl | rfl | rfl | rfl <;> exact Ne.symm (by assumption)
  rw [List.getElem?_set_ne this]
  exact x.2 i a b c' d
theorem St4.sh (q : Four nh ns nl nm) (x : St4 nh ns nl nm here shown lg mo g) (r : Room) : St4 nh ns nl nm r shown lg mo (g.set nh (.dic (roA r))) := by
  have := lt_of x.h
  exact ⟨by simp [this], by rw [List.getElem?_set_ne q.a]; exact x.s, by rw [List.getElem?_set_ne q.b]; exact x.l, by rw [List.getElem?_set_ne q.c]; exact x.m⟩
theorem St4.ss (q : Four nh ns nl nm) (x : St4 nh ns nl nm here shown lg mo g) (r : List Int) : St4 nh ns nl nm here r lg mo (g.set ns (shC r)) := by
  have := lt_of x.s
  exact ⟨by rw [List.getElem?_set_ne q.a.symm]; exact x.h, by simp [this], by rw [List.getElem?_set_ne q.d]; exact x.l, by rw [List.getElem?_set_ne q.e]; exact x.m⟩
theorem St4.sl (q : Four nh ns nl nm) (x : St4 nh ns nl nm here shown lg mo g) (r : List Str) : St4 nh ns nl nm here shown r mo (g.set nl (lgC r)) := by
  have := lt_of x.l
  exact ⟨by rw [List.getElem?_set_ne q.b.symm]; exact x.h, by rw [List.getElem?_set_ne q.d.symm]; exact x.s, by simp [this], by rw [List.getElem?_set_ne q.f]; exact x.m⟩
theorem St4.sm (q : Four nh ns nl nm) (x : St4 nh ns nl nm here shown lg mo g) (r : List Str) : St4 nh ns nl nm here shown lg r (g.set nm (lgC r)) := by
  have := lt_of x.m
  exact ⟨by rw [List.getElem?_set_ne q.c.symm]; exact x.h, by rw [List.getElem?_set_ne q.e.symm]; exact x.s, by rw [List.getElem?_set_ne q.f.symm]; exact x.l, by simp [this]⟩
end
theorem w_id : (Str.ofString "if" == Str.ofString "if") = true := by decide +kernel
end K


set_option Elab.async false
set_option linter.all false
set_option maxRecDepth 100000
namespace K
open PySem PySem.Spec PyProof.Rows L2 Mp
/-! ### the law's own run -/
/-- a comprehension over a thing that stands still, a cell perhaps -/
theorem lc_src {elt : List SV → Hs → Res AV} {cs : List SV → Hs → Res Bool} {tg : MT} {src : Src} {S : List SV} {α : Type} (g f : α → AV) (T : α → List SV) (h : Hs) (hs : SrcOk h src) : ∀ (l : List α)
    (step : ∀ c ∈ l, evG h tg (g c) S = some (T c) ∧ cs (T c) h = .ok true h ∧ elt (T c) h = .ok (f c) h) (acc : List AV) (hl : acc.length + l.length ≤ sizeLine),
    lcGo elt cs tg src S (l.map g) acc h = .ok (.f (.lst (acc ++ l.map f))) h
  | [], _, acc, _ => by simp [lcGo, hs]
  | x :: xs, step, acc, hl => by
    obtain ⟨e0, e1, e2⟩ := step x (.head _)
    have e := lc_src g f T h hs xs (fun x m => step x (.tail _ m)) (acc ++ [f x]) (by simp at hl ⊢; omega)
    have : acc.length < sizeLine := by simp at hl; omega
    simp [lcGo, hs, e0, e1, e2, Res.noX, Res.bind, this, e]
/-- what is known of the room that the law's run was given -/
def Seen (n : Nat) (h : Hs) (M : AV) (r : Room) : Prop := ∀ g, n ≤ g.length → Fr n h g → M.vw g = some (.dic (roA r))
section
variable {n k : Nat} {M : AV} {r0 : Room} {h0 : Hs}
end
end K


set_option Elab.async false
set_option linter.all false
set_option maxRecDepth 100000
namespace K
open PySem PySem.Spec PyProof.Rows L2 Mp
theorem addNs_snoc (tu : List Str) (l m : List Str) : addNs (addNs tu l) m = addNs tu (l ++ m) := by simp [addNs, List.foldl_append]
theorem mem_addNs {l : List Str} : ∀ {tu : List Str} {x : Str}, x ∈ addNs tu l ↔ x ∈ tu ∨ x ∈ l := by
  induction l with
  | nil => intro tu x; simp [addNs]
  | cons y l ih =>
    intro tu x
    show x ∈ addNs (addN tu y) l ↔ _
    rw [ih, mem_addN, List.mem_cons, or_assoc]
section
variable {n : Nat} {M : AV} {r0 : Room} {h0 : Hs}
end
end K


set_option Elab.async false
set_option linter.all false
set_option maxRecDepth 100000
namespace K
open PySem PySem.Spec PyProof.Rows L2 Mp
end K


set_option Elab.async false
set_option linter.all false
set_option maxRecDepth 100000
namespace K
open PySem PySem.Spec PyProof.Rows L2 Mp
/-- a room as data or as a cell -/
structure IsRoom (a : Nat) (h : Hs) (M : AV) (r : Room) : Prop where
  or : M = .d (roomD r) ∨ ∃ j, M = .r j ∧ j ≠ a ∧ h[j]? = some (.dic (roA r))
theorem IsRoom.seen {a : Nat} {h : Hs} {M : AV} {r : Room} (R : IsRoom a h M r) : Seen h.length h M r := by
  rcases R.or with rfl | ⟨j, rfl, _, e⟩
  · intro g _ _
    simp [roomD, roD_A]
  · intro g _ F
    rw [vw_r, F j (lt_of e), e]; rfl
theorem IsRoom.vw {a : Nat} {h : Hs} {M : AV} {r : Room} (R : IsRoom a h M r) : M.vw h = some (.dic (roA r)) := R.seen h (Nat.le_refl _) (Fr.refl _ _)
section
variable {a : Nat} {rs : List Row} (C : CellOk rs)
include C
end
end K


set_option Elab.async false
set_option linter.all false
set_option maxRecDepth 100000
namespace K
open PySem PySem.Spec PyProof.Rows L2 Mp
theorem nm_a : nmS (Str.ofString "a") = true := by decide +kernel
theorem nm_b : nmS (Str.ofString "b") = true := by decide +kernel
def one1 (x : At) : List Pr := [⟨1, x, []⟩]
theorem one_ok {x : At} (h : x.ok) : (∀ q ∈ one1 x, q.ok) ∧ one1 x ≠ [] ∧ sumN (one1 x) ≤ 8 := by
  refine ⟨fun q m => ?_, by simp [one1], by simp [one1, sumN]⟩
  simp only [one1, List.mem_singleton] at m
  subst m
  exact ⟨.inl rfl, h, by simp, by simp⟩
def two2 (s : Int) (x : At) (s' : Int) (y : At) : List Pr := [⟨s, x, []⟩, ⟨s', y, []⟩]
theorem rw_sho {s : List Pr} (hs : (∀ q ∈ s, q.ok) ∧ s ≠ [] ∧ sumN s ≤ 8) : RwOk (.sho s) := ⟨hs.1, ⟨hs.2.1, hs.2.2⟩, by have := hs.2.2; simp only [rowN]; omega⟩
def R10 : List Row := [.set "a" (one1 (.num 1)), .sho (two2 1 (.nm "a") 1 (.nm "a")), .ifr (two2 1 (.nm "a") (-1) (.num 1)) (.sho (one1 (.num 9))), .drp "a", .drp "a"]
end K


set_option Elab.async false
set_option linter.all false
set_option maxRecDepth 100000
namespace K
open PySem PySem.Spec PyProof.Rows L2 Mp
/-! k11: the reads of a run -/
end K


set_option Elab.async false
set_option linter.all false
set_option maxRecDepth 100000
namespace K
open PySem PySem.Spec PyProof.Rows L2 Mp
end K


set_option Elab.async false
set_option linter.all false
set_option maxRecDepth 100000
namespace K
open PySem PySem.Spec PyProof.Rows L2 Mp
end K


set_option Elab.async false
set_option linter.all false
set_option maxRecDepth 100000
namespace K
open PySem PySem.Spec PyProof.Rows L2 Mp
def R11 : List Row := [.sho [⟨1, .nm "a", [(true, .nm "b")]⟩, ⟨1, .nm "a", []⟩], .set "b" (one1 (.num 1)), .sho (two2 1 (.nm "b") 1 (.nm "c"))]
end K


set_option Elab.async false
set_option linter.all false
set_option maxRecDepth 100000
namespace K
open PySem PySem.Spec PyProof.Rows L2 Mp
/-! k12: the sets of a run: what stands outside of them -/
/-- a room without some names -/
def outF (T : List Str) (r : Room) : Room := r.filter fun p => decide (p.1 ∉ T)
theorem outF_put {T : List Str} {x : Str} (hx : x ∈ T) (r : Room) (v : Int) : outF T (putR r x v) = outF T r := by
  unfold putR
  split
  · rename_i h
    clear h
    induction r with
    | nil => rfl
    | cons p r ih =>
      obtain ⟨k, w⟩ := p
      by_cases e : k = x
      · subst e
        simpa [outF, hx] using ih
      · by_cases m : k ∈ T
        · simpa [outF, e, m] using ih
        · simpa [outF, e, m] using ih
  · simp [outF, List.filter_append, hx]
theorem outF_drop {T : List Str} {x : Str} (hx : x ∈ T) (r : Room) : outF T (dropR r x) = outF T r := by
  unfold outF dropR
  rw [List.filter_filter]
  refine List.filter_congr fun p _ => ?_
  by_cases e : p.1 = x
  · simp [e, hx]
  · simp [e]
theorem addN_sub {l : List Str} {x y : Str} (h : y ∈ l) : y ∈ addN l x := mem_addN.mpr (.inl h)
theorem goes_out : ∀ (row : Row) (a : Rn) (T : List Str), (∀ x ∈ (goes row a).1.tou, x ∈ T) → outF T (goes row a).1.here = outF T a.here ∧ ∀ x ∈ a.tou, x ∈ (goes row a).1.tou
  | .drp x, a, T, h => ⟨outF_drop (h x (mem_addN.mpr (.inr rfl))) _, fun y m => addN_sub m⟩
  | .set x s, a, T, h => by
    simp only [goes] at h ⊢
    cases e : svGo a.here 0 s with
    | error f => exact ⟨rfl, fun y m => m⟩
    | ok v =>
      rw [e] at h
      exact ⟨outF_put (h x (mem_addN.mpr (.inr rfl))) _ _, fun y m => addN_sub m⟩
  | .sho s, a, T, h => by
    simp only [goes]
    cases svGo a.here 0 s <;> exact ⟨rfl, fun y m => m⟩
  | .ifr s r, a, T, h => by
    simp only [goes] at h ⊢
    cases e : svGo a.here 0 s with
    | error f => exact ⟨rfl, fun y m => m⟩
    | ok v =>
      rw [e] at h
      simp only at h ⊢
      by_cases z : v = 0
      · rw [if_pos z]; exact ⟨rfl, fun y m => m⟩
      · rw [if_neg z] at h ⊢
        exact goes_out r (a.reck s) T h
theorem run_sub : ∀ (rs : List Row) (a : Rn), ∀ x ∈ a.tou, x ∈ (runR rs a).1.tou
  | [], a, x, m => m
  | r :: rs, a, x, m => by
    have h1 := (goes_out r a (goes r a).1.tou fun _ m => m).2 x m
    simp only [runR]
    rcases hg : goes r a with ⟨b, f⟩
    rw [hg] at h1
    cases f with
    | some f => exact h1
    | none => exact run_sub rs b x h1
end K


set_option Elab.async false
set_option linter.all false
set_option maxRecDepth 100000
namespace K
open PySem PySem.Spec PyProof.Rows L2 Mp
/-! dicts of what a locked dict holds -/
@[simp] theorem cvw_lck (kvs : List (Key × AV)) : (Cell.lck kvs).vw = some (.dic kvs) := rfl
/-- a comprehension with a test -/
theorem lc_tst {elt : List SV → Hs → Res AV} {cs : List SV → Hs → Res Bool} {S : List SV} {i : Nat} {α : Type} (g f : α → AV) (t : α → Bool) (h : Hs) : ∀ (l : List α)
    (step : ∀ c ∈ l, cs (S.set i (.v (g c))) h = .ok (t c) h ∧ (t c = true → elt (S.set i (.v (g c))) h = .ok (f c) h)) (acc : List AV) (hl : acc.length + l.length ≤ sizeLine),
    lcGo elt cs (.nm i) .fz S (l.map g) acc h = .ok (.f (.lst (acc ++ (l.filter t).map f))) h
  | [], _, acc, _ => by simp [lcGo]
  | x :: xs, step, acc, hl => by
    obtain ⟨e1, e2⟩ := step x (.head _)
    have al : acc.length < sizeLine := by simp at hl; omega
    cases c : t x with
    | true =>
      have e := lc_tst g f t h xs (fun x m => step x (.tail _ m)) (acc ++ [f x]) (by simp at hl ⊢; omega)
      rw [c] at e1
      simp [lcGo, e1, e2 c, Res.noX, Res.bind, al, e, c]
    | false =>
      have e := lc_tst g f t h xs (fun x m => step x (.tail _ m)) acc (by simp at hl ⊢; omega)
      rw [c] at e1
      simp [lcGo, e1, Res.noX, Res.bind, e, c]
end K


set_option Elab.async false
set_option linter.all false
set_option maxRecDepth 100000
namespace K
open PySem PySem.Spec PyProof.Rows L2 Mp
theorem for_tgt {body : List SV → Hs → SRes} {tg : MT} {α : Type} (g : α → AV) (P : List SV → Prop) (h : Hs) : ∀ (l : List α)
    (step : ∀ c ∈ l, ∀ S, P S → ∃ S' S2, evG h tg (g c) S = some S' ∧ body S' h = .nx S2 h ∧ P S2) (S : List SV) (hP : P S), ∃ S', forGo body tg .fz (l.map g) S h = .nx S' h ∧ P S'
  | [], _, S, hP => ⟨S, by simp [forGo, SrcOk], hP⟩
  | x :: xs, step, S, hP => by
    obtain ⟨S1, S2, e1, e2, p⟩ := step x (.head _) S hP
    obtain ⟨S', e, p'⟩ := for_tgt g P h xs (fun c m => step c (.tail _ m)) S2 p
    exact ⟨S', by simp [forGo, SrcOk, e1, e2, e], p'⟩
end K


set_option Elab.async false
set_option linter.all false
set_option maxRecDepth 100000
namespace K
open PySem PySem.Spec PyProof.Rows L2 Mp
def brk : Nat → Row
  | 0 => .sho [⟨1, .nm "none", []⟩]
  | 1 => .set "a" [⟨1, .num 1, [(false, .num 0)]⟩]
  | 2 => .sho [⟨1, .num 999, [(true, .num 999), (true, .num 999), (true, .num 999)]⟩]
  | _ => .ifr [⟨1, .num 3, [(false, .num 0)]⟩] (.drp "a")
def rA (xs : List Row) : List AV := xs.map fun r => AV.d (rowD r)
section
variable {F : Fn} {S : List SV} {h h1 h2 : Hs}
end
def R12 : List Row := [.set "b" (one1 (.num 2)), .set "a" (one1 (.num 1)), .drp "c", .set "b" (one1 (.num 3)), .sho (one1 (.nm "c")), .set "xy" (one1 (.num 1))]
end K


set_option Elab.async false
set_option linter.all false
set_option maxRecDepth 100000
namespace K
open PySem PySem.Spec PyProof.Rows L2 Mp
end K


set_option Elab.async false
set_option linter.all false
set_option maxRecDepth 100000
namespace K
open PySem PySem.Spec PyProof.Rows L2 Mp
/-! the names of a sum -/
def isNm : At → Bool
  | .nm _ => true
  | .num _ => false
def prN (p : Pr) : List Str := (p.f :: p.ps.map (·.2)).flatMap atN
def smN (s : List Pr) : List Str := s.flatMap prN
theorem nm_filter (l : List At) : (l.filter isNm).map (fun a => AV.d a.d) = (l.flatMap atN).map sA := by
  induction l with
  | nil => rfl
  | cons a l ih =>
    cases a with
    | nm x =>
      show AV.d (.str x) :: (l.filter isNm).map (fun a => AV.d a.d) = _
      rw [ih]; rfl
    | num n => simp [isNm, atN, ih]
theorem prN_len (p : Pr) : (prN p).length ≤ 1 + p.ps.length := by
  have key : ∀ l : List At, (l.flatMap atN).length ≤ l.length := fun l => by
    induction l with
    | nil => simp
    | cons a l ih => have := atN_len a; simp only [List.flatMap_cons, List.length_append, List.length_cons]; omega
  have := key (p.f :: p.ps.map (·.2))
  simpa [prN, Nat.add_comm] using this
theorem smN_len (s : List Pr) : (smN s).length ≤ sumN s := by
  induction s with
  | nil => simp [smN, sumN]
  | cons p s ih =>
    have := prN_len p
    simp only [smN, sumN, List.flatMap_cons, List.length_append, List.map_cons, List.sum_cons] at ih ⊢
    omega
theorem nm_step (h : Hs) (p : Pr) (hp : p.ps.length ≤ 100) (acc : List Str) (hl : acc.length + (1 + p.ps.length) ≤ 900) (S0 x2 : SV) :
    evSs f_names_in_E f_names_in_p3 [S0, .own (.lst (acc.map sA)), x2, .v (.d p.f.d), .v (.d (.tup (p.ps.map prD))), .no, .no] h = .nx [S0, .own (.lst ((acc ++ prN p).map sA)), x2, .v (.d p.f.d), .v (.d (.tup (p.ps.map prD))), .no, .no] h := by
  have b0 : (1000 : Nat) < sizeLine := by decide
  have c1 := lc_map (elt := fun S h => (evE f_names_in_E f_names_in_e2 S h).bind toV1) (cs := fun S h => evTo f_names_in_E none S h) (S := [S0, .own (.lst (acc.map sA)), x2, .v (.d p.f.d), .v (.d (.tup (p.ps.map prD))), .no, .no]) (i := 6)
    (fun q : Bool × At => .d (prD q)) (fun q => .d q.2.d) h p.ps (fun q _ => ⟨by simp [evTo], by
      simp only [List.set_cons_succ, List.set_cons_zero]
      simp [Mp.run, evSs, evS, evE, evT, evTs, evTo, evL, evR, evB, evI, evO, Res.st, wipeS, noOwn, binO_eq, mkTup, AV.toDs, AV.toD, Cell.frz, evG_tp, forGo, SrcOk, lcGo, Vw.ty, tyAny, tyIs, kb_int, kb_bool, kb_str, kb_tup, f_names_in_e2, prD]⟩) [] (by simp; omega)
  rw [List.nil_append] at c1
  have i1 : evI f_names_in_E (.seq (.var 4)) [S0, .own (.lst (acc.map sA)), x2, .v (.d p.f.d), .v (.d (.tup (p.ps.map prD))), .no, .no] h = .ok (p.ps.map (fun q => .d (prD q)), .fz) h := by
    simp [evI, evE, Function.comp_def]
  have w6 : wipeS [S0, .own (.lst (acc.map sA)), x2, .v (.d p.f.d), .v (.d (.tup (p.ps.map prD))), .no, .no] [6] = [S0, .own (.lst (acc.map sA)), x2, .v (.d p.f.d), .v (.d (.tup (p.ps.map prD))), .no, .no] := by simp [wipeS]
  have e1 := lcm_eq (F := f_names_in_E) (elt := f_names_in_e2) (tg := .nm 6) (cs := none) (own := [6]) (by simp [noOwn]) i1
  rw [w6, c1] at e1
  have i2 : evI f_names_in_E (.seq (.bin .Add (.lst [.var 3]) (.lcm f_names_in_e2 (.nm 6) (.seq (.var 4)) none [6]))) [S0, .own (.lst (acc.map sA)), x2, .v (.d p.f.d), .v (.d (.tup (p.ps.map prD))), .no, .no] h = .ok ((p.f :: p.ps.map (·.2)).map (fun a => AV.d a.d), .fz) h := by
    have l1 : evE f_names_in_E (.lst [.var 3]) [S0, .own (.lst (acc.map sA)), x2, .v (.d p.f.d), .v (.d (.tup (p.ps.map prD))), .no, .no] h = .ok (.f (.lst [.d p.f.d])) h := by
      have : 1 ≤ sizeLine := by omega
      simp [evE, evL, this]
    have fz : ho1 (.f (.lst [AV.d p.f.d])) h = .ok (.v (.d (.lst [p.f.d]))) h := by
      rw [ho1_f]; rfl
    have le : 1 + p.ps.length ≤ sizeLine := by omega
    rw [evI, evE, l1]
    simp only [Res.bind_ok, fz, e1, binO_eq, vw_v, vw_f]
    simp [cvw_lst, bop, le, Function.comp_def]
  have c2 := lc_tst (elt := fun S h => (evE f_names_in_E f_names_in_e1 S h).bind toV1) (cs := fun S h => evTo f_names_in_E (some f_names_in_c0) S h) (S := [S0, .own (.lst (acc.map sA)), x2, .v (.d p.f.d), .v (.d (.tup (p.ps.map prD))), .no, .no]) (i := 5)
    (fun a : At => .d a.d) (fun a => .d a.d) isNm h (p.f :: p.ps.map (·.2)) (fun a _ => by
      simp only [List.set_cons_succ, List.set_cons_zero]
      cases a with
      | nm x => exact ⟨by simp [Mp.run, evSs, evS, evE, evT, evTs, evTo, evL, evR, evB, evI, evO, Res.st, wipeS, noOwn, binO_eq, mkTup, AV.toDs, AV.toD, Cell.frz, evG_tp, forGo, SrcOk, lcGo, Vw.ty, tyAny, tyIs, kb_int, kb_bool, kb_str, kb_tup, f_names_in_c0, At.d, isNm, evTo], fun _ => by simp [Mp.run, evSs, evS, evE, evT, evTs, evTo, evL, evR, evB, evI, evO, Res.st, wipeS, noOwn, binO_eq, mkTup, AV.toDs, AV.toD, Cell.frz, evG_tp, forGo, SrcOk, lcGo, Vw.ty, tyAny, tyIs, kb_int, kb_bool, kb_str, kb_tup, f_names_in_e1, At.d]⟩
      | num n => exact ⟨by simp [Mp.run, evSs, evS, evE, evT, evTs, evTo, evL, evR, evB, evI, evO, Res.st, wipeS, noOwn, binO_eq, mkTup, AV.toDs, AV.toD, Cell.frz, evG_tp, forGo, SrcOk, lcGo, Vw.ty, tyAny, tyIs, kb_int, kb_bool, kb_str, kb_tup, f_names_in_c0, At.d, isNm, evTo], fun z => by cases z⟩) [] (by simp; omega)
  rw [List.nil_append, nm_filter] at c2
  have e2 := lcm_eq (F := f_names_in_E) (elt := f_names_in_e1) (tg := .nm 5) (cs := some f_names_in_c0) (own := [5]) (by simp [noOwn]) i2
  have w5 : wipeS [S0, .own (.lst (acc.map sA)), x2, .v (.d p.f.d), .v (.d (.tup (p.ps.map prD))), .no, .no] [5] = [S0, .own (.lst (acc.map sA)), x2, .v (.d p.f.d), .v (.d (.tup (p.ps.map prD))), .no, .no] := by simp [wipeS]
  rw [w5, c2] at e2
  have pl := prN_len p
  have e2' : evE f_names_in_E (.lcm f_names_in_e1 (.nm 5) (.seq (.bin .Add (.lst [.var 3]) (.lcm f_names_in_e2 (.nm 6) (.seq (.var 4)) none [6]))) (some f_names_in_c0) [5]) [S0, .own (.lst (acc.map sA)), x2, .v (.d p.f.d), .v (.d (.tup (p.ps.map prD))), .no, .no] h = .ok (.f (.lst ((prN p).map sA))) h := e2
  have fz : (Cell.lst ((prN p).map sA)).frz = some (.d (.lst ((prN p).map .str))) := frz_of (toDs_fn Mp.D.str _)
  have m : (prN p).map (fun x => AV.d (.str x)) = (prN p).map sA := rfl
  have le : acc.length + (prN p).length ≤ sizeLine := by omega
  have mp : acc.map sA ++ (prN p).map sA = (acc ++ prN p).map sA := (List.map_append ..).symm
  have ex : cMth h .extend (.lst (acc.map sA)) [.d (.lst ((prN p).map .str))] = some (.d .non, .lst ((acc ++ prN p).map sA)) := by
    have vv : (AV.d (.lst ((prN p).map .str))).vw h = some (.lst ((prN p).map sA)) := by simp [Function.comp_def, sA]
    simp only [cMth, vv, List.length_map, le, if_true, mp]
  rw [f_names_in_p3]
  simp [evSs, evS, evL, e2', fz, ex, Res.st]
theorem nm_loop (h : Hs) (S0 : SV) : ∀ (s : List Pr) (ok : ∀ p ∈ s, p.ok) (acc : List Str) (hl : acc.length + sumN s ≤ 900) (x2 x3 x4 : SV), ∃ y2 y3 y4, forGo (fun S h => evSs f_names_in_E f_names_in_p3 S h) (.tp [.nm 2, .nm 3, .nm 4]) .fz (s.map fun p => .d p.d) [S0, .own (.lst (acc.map sA)), x2, x3, x4, .no, .no] h = .nx [S0, .own (.lst ((acc ++ smN s).map sA)), y2, y3, y4, .no, .no] h
  | [], _, acc, _, x2, x3, x4 => ⟨x2, x3, x4, by simp [forGo, SrcOk, smN]⟩
  | p :: s, ok, acc, hl, x2, x3, x4 => by
    obtain ⟨_, _, _, o4⟩ := ok p (.head _)
    have hs : sumN (p :: s) = 1 + p.ps.length + sumN s := by simp [sumN]
    have pl := prN_len p
    obtain ⟨y2, y3, y4, e⟩ := nm_loop h S0 s (fun q m => ok q (.tail _ m)) (acc ++ prN p) (by simp; omega) (.v (.d (.int p.s))) (.v (.d p.f.d)) (.v (.d (.tup (p.ps.map prD))))
    have st := nm_step h p o4 acc (by omega) S0 (.v (.d (.int p.s)))
    refine ⟨y2, y3, y4, ?_⟩
    have sm : smN (p :: s) = prN p ++ smN s := by simp [smN]
    rw [sm, ← List.append_assoc]
    have eg : evG h (.tp [.nm 2, .nm 3, .nm 4]) (.d p.d) [S0, .own (.lst (acc.map sA)), x2, x3, x4, .no, .no] = some [S0, .own (.lst (acc.map sA)), .v (.d (.int p.s)), .v (.d p.f.d), .v (.d (.tup (p.ps.map prD))), .no, .no] := by
      simp [Pr.d, evG_tp]
    simp only [List.map_cons, forGo, SrcOk, if_true, eg, st]
    exact e
theorem names_in_ok (h : Hs) (s : List Pr) (ok : ∀ p ∈ s, p.ok) (hl : sumN s ≤ 900) : f_names_in [.d (sumD s)] h = .ok (.f (.lst ((smN s).map sA))) h := by
  obtain ⟨y2, y3, y4, e⟩ := nm_loop h (.v (.d (sumD s))) s ok [] (by simpa using hl) .no .no .no
  have i0 : ∀ S1 S2 S3 S4 S5 S6, evI f_names_in_E (.seq (.var 0)) [.v (.d (sumD s)), S1, S2, S3, S4, S5, S6] h = .ok (s.map (fun p => .d p.d), .fz) h := fun _ _ _ _ _ _ => by
    simp [evI, evE, sumD, Function.comp_def]
  simp only [List.map_nil, List.nil_append] at e
  have z : 0 ≤ sizeLine := Nat.zero_le _
  unfold f_names_in Mp.run
  rw [f_names_in_b]
  simp [evSs, evS, evE, evL, z, Res.st, i0, e]
end K


set_option Elab.async false
set_option linter.all false
set_option maxRecDepth 100000
namespace K
open PySem PySem.Spec PyProof.Rows L2 Mp
/-! what a row reads and sets, by its text -/
def ptN : Row → List Str
  | .drp _ => []
  | .set _ s => smN s
  | .sho s => smN s
  | .ifr s r => smN s ++ ptN r
def ptG : Row → List Str
  | .drp x => [x]
  | .set x _ => [x]
  | .sho _ => []
  | .ifr _ r => ptG r
def ptS : Row → Bool
  | .ifr _ _ => false
  | _ => true
def ptD (r : Row) : Mp.D := .tup [.lst ((ptN r).map .str), .lst ((ptG r).map .str), .bl (ptS r)]
theorem ptG_len : ∀ r : Row, (ptG r).length ≤ 1
  | .drp _ => Nat.le_refl _
  | .set _ _ => Nat.le_refl _
  | .sho _ => Nat.zero_le _
  | .ifr _ r => ptG_len r
theorem ptN_len : ∀ r : Row, (ptN r).length ≤ rowN r
  | .drp _ => Nat.zero_le _
  | .set _ s => smN_len s
  | .sho s => smN_len s
  | .ifr s r => by have h1 := smN_len s; have h2 := ptN_len r; simp only [ptN, rowN, List.length_append]; omega
def PtOk (v : Worth) (r : Row) : Prop := ∀ h, v [.d (rowD r)] h = .ok (.v (.d (ptD r))) h
theorem hh' : (Str.ofString "show" == Str.ofString "show") = true := by decide +kernel
theorem ddd : (Str.ofString "drop" == Str.ofString "drop") = true := by decide +kernel
theorem di' : (Str.ofString "drop" == Str.ofString "if") = false := by decide +kernel
theorem dh' : (Str.ofString "drop" == Str.ofString "show") = false := by decide +kernel
theorem nmz (s : List Pr) : AV.toDs ((smN s).map sA) = some ((smN s).map .str) := toDs_fn Mp.D.str _
theorem pt_drp (v : Worth) (x : Str) : PtOk (Mp.run (f_parts_of_E v) 4 f_parts_of_b) (.drp x) := fun h => by
  have z : 1 ≤ sizeLine := by decide
  have z0 : 0 ≤ sizeLine := Nat.zero_le _
  simp [Mp.run, evSs, evS, evE, evT, evTs, evTo, evL, evR, evB, evI, evO, Res.st, wipeS, noOwn, binO_eq, mkTup, AV.toDs, AV.toD, Cell.frz, evG_tp, forGo, SrcOk, lcGo, Vw.ty, tyAny, tyIs, kb_int, kb_bool, kb_str, kb_tup, f_parts_of_b, rowD, List.replicate, wd _ _ _ w_d w_i, di', wd _ _ _ w_d w_h, dh', wd _ _ _ w_d w_d, ddd, ptD, ptN, ptG, ptS]
theorem pt_set (v : Worth) (x : Str) (s : List Pr) (ok : ∀ p ∈ s, p.ok) (hl : sumN s ≤ 900) : PtOk (Mp.run (f_parts_of_E v) 4 f_parts_of_b) (.set x s) := fun h => by
  have e := names_in_ok h s ok hl
  have z := nmz s
  simp [Mp.run, evSs, evS, evE, evT, evTs, evTo, evL, evR, evB, evI, evO, Res.st, wipeS, noOwn, binO_eq, mkTup, AV.toDs, AV.toD, Cell.frz, evG_tp, forGo, SrcOk, lcGo, Vw.ty, tyAny, tyIs, kb_int, kb_bool, kb_str, kb_tup, f_parts_of_b, rowD, List.replicate, wd _ _ _ w_s w_i, si, wd _ _ _ w_s w_h, sh, wd _ _ _ w_s w_d, sd, ptD, ptN, ptG, ptS, e, z]
theorem pt_sho (v : Worth) (s : List Pr) (ok : ∀ p ∈ s, p.ok) (hl : sumN s ≤ 900) : PtOk (Mp.run (f_parts_of_E v) 4 f_parts_of_b) (.sho s) := fun h => by
  have e := names_in_ok h s ok hl
  have z := nmz s
  simp [Mp.run, evSs, evS, evE, evT, evTs, evTo, evL, evR, evB, evI, evO, Res.st, wipeS, noOwn, binO_eq, mkTup, AV.toDs, AV.toD, Cell.frz, evG_tp, forGo, SrcOk, lcGo, Vw.ty, tyAny, tyIs, kb_int, kb_bool, kb_str, kb_tup, f_parts_of_b, rowD, List.replicate, wd _ _ _ w_h w_i, hi, wd _ _ _ w_h w_h, hh', ptD, ptN, ptG, ptS, e, z]
theorem pt_ifr (v : Worth) (s : List Pr) (r : Row) (ok : ∀ p ∈ s, p.ok) (hl : sumN s + rowN r ≤ 900) (hv : PtOk v r) : PtOk (Mp.run (f_parts_of_E v) 4 f_parts_of_b) (.ifr s r) := fun h => by
  have e := names_in_ok h s ok (by omega)
  have b0 : (1000 : Nat) ≤ sizeLine := by decide
  have l1 := smN_len s
  have l2 := ptN_len r
  have le : (smN s).length + (ptN r).length ≤ sizeLine := by omega
  have q := hv h
  have fz : (Cell.lst ((smN s).map sA)).frz = some (.d (.lst ((smN s).map .str))) := frz_of (nmz s)
  have m1 : ∀ l : List Str, (l.map Mp.D.str).map AV.d = l.map sA := fun l => by simp [Function.comp_def, sA]
  have st1 : evS (f_parts_of_E v) (.asg (.tp [.nm 1, .nm 2, .nm 3]) (.cal 61 [.sub (.var 0) (.cst (.int 2))])) [.v (.d (.tup [.str "if", sumD s, rowD r])), .no, .no, .no] h = .nx [.v (.d (.tup [.str "if", sumD s, rowD r])), .v (.d (.lst ((ptN r).map .str))), .v (.d (.lst ((ptG r).map .str))), .v (.d (.bl (ptS r)))] h := by
    simp [evS, evE, evL, Res.st, q, ptD, evG_tp]
  have ad : evE (f_parts_of_E v) (.bin .Add (.cal 60 [.sub (.var 0) (.cst (.int 1))]) (.var 1)) [.v (.d (.tup [.str "if", sumD s, rowD r])), .v (.d (.lst ((ptN r).map .str))), .v (.d (.lst ((ptG r).map .str))), .v (.d (.bl (ptS r)))] h = .ok (.f (.lst ((smN s ++ ptN r).map sA))) h := by
    have c : evE (f_parts_of_E v) (.cal 60 [.sub (.var 0) (.cst (.int 1))]) [.v (.d (.tup [.str "if", sumD s, rowD r])), .v (.d (.lst ((ptN r).map .str))), .v (.d (.lst ((ptG r).map .str))), .v (.d (.bl (ptS r)))] h = .ok (.f (.lst ((smN s).map sA))) h := by
      simp [evE, evL, e]
    have hz : ho1 (.f (.lst ((smN s).map sA))) h = .ok (.v (.d (.lst ((smN s).map .str)))) h := by rw [ho1_f, fz]; rfl
    have v1 : (RV.v (.d (.lst ((smN s).map Mp.D.str)))).vw h = some (.lst ((smN s).map sA)) := by simp only [RV.vw, AV.vw, D.vw, m1]
    have v2 : (RV.v (.d (.lst ((ptN r).map Mp.D.str)))).vw h = some (.lst ((ptN r).map sA)) := by simp only [RV.vw, AV.vw, D.vw, m1]
    rw [evE, c]
    simp only [Res.bind_ok, hz, evE, List.getElem?_cons_succ, List.getElem?_cons_zero, binO_eq, v1, v2, Option.bind_some]
    simp [bop, le]
  have fz2 : (Cell.lst ((smN s ++ ptN r).map sA)).frz = some (.d (.lst ((smN s ++ ptN r).map .str))) := frz_of (toDs_fn Mp.D.str _)
  have last : evS (f_parts_of_E v) (.ret (.tup [.bin .Add (.cal 60 [.sub (.var 0) (.cst (.int 1))]) (.var 1), .var 2, .cst (.bl false)])) [.v (.d (.tup [.str "if", sumD s, rowD r])), .v (.d (.lst ((ptN r).map .str))), .v (.d (.lst ((ptG r).map .str))), .v (.d (.bl (ptS r)))] h = .rt (.v (.d (ptD (.ifr s r)))) h := by
    have z3 : 3 ≤ sizeLine := by omega
    rw [evS, evE, evL, ad]
    simp only [Res.bind_ok, toV1_f, fz2, ok1_some]
    simp [evL, evE, mkTup, AV.toDs, AV.toD, Res.st, ptD, ptN, ptG, ptS, z3]
  have c0 : evT (f_parts_of_E v) (.cmp .Eq (.sub (.var 0) (.cst (.int 0))) (.cst (.str "if"))) [.v (.d (.tup [.str "if", sumD s, rowD r])), .no, .no, .no] h = .ok true h := by
    simp [Mp.run, evSs, evS, evE, evT, evTs, evTo, evL, evR, evB, evI, evO, Res.st, wipeS, noOwn, binO_eq, mkTup, AV.toDs, AV.toD, Cell.frz, evG_tp, forGo, SrcOk, lcGo, Vw.ty, tyAny, tyIs, kb_int, kb_bool, kb_str, kb_tup, wd _ _ _ w_i w_i, w_id]
  unfold Mp.run
  rw [f_parts_of_b]
  simp only [rowD, List.map_cons, List.map_nil, List.length_cons, List.length_nil, List.replicate, List.cons_append, List.nil_append, evSs, evS_ife, c0, Res.st_ok, if_true, st1, last]
theorem parts_plain (v : Worth) (r : Row) (ok : r.ok) (hl : rowN r ≤ 900) (hp : r.plain = true) : PtOk (Mp.run (f_parts_of_E v) 4 f_parts_of_b) r := by
  cases r with
  | drp x => exact pt_drp v x
  | set x s => exact pt_set v x s ok.2 hl
  | sho s => exact pt_sho v s ok hl
  | ifr s r => cases hp
theorem parts_ok (r : Row) (ok : r.ok) (hl : rowN r ≤ 900) : PtOk f_parts_of r := by
  by_cases hp : r.plain = true
  · exact parts_plain (recW (fun v => Mp.run (f_parts_of_E v) 4 f_parts_of_b) 1) r ok hl hp
  · cases r with
    | ifr s r =>
      obtain ⟨h1, h2, h3⟩ := ok
      exact pt_ifr (recW (fun v => Mp.run (f_parts_of_E v) 4 f_parts_of_b) 1) s r h1 hl (parts_plain (recW (fun v => Mp.run (f_parts_of_E v) 4 f_parts_of_b) 0) r h3 (by simp only [rowN] at hl; omega) h2)
    | _ => exact absurd rfl hp
end K


set_option Elab.async false
set_option linter.all false
set_option maxRecDepth 100000
namespace K
open PySem PySem.Spec PyProof.Rows L2 Mp
/-! may_read, may_set -/
def kyL (l : List Str) : List Key := l.map Sum.inr
theorem any_ky (l : List Str) (x : Str) : ((kyL l).any fun j => decide (j = Sum.inr x)) = decide (x ∈ l) := by
  induction l with
  | nil => rfl
  | cons y l ih =>
    simp only [kyL, List.map_cons, List.any_cons] at ih ⊢
    rw [ih]
    by_cases e : y = x
    · simp [e]
    · simp [e, Ne.symm e]
theorem sadd_ky (l : List Str) (x : Str) : (if ((kyL l).any fun j => decide (j = Sum.inr x)) = true then kyL l else kyL l ++ [Sum.inr x]) = kyL (addN l x) := by
  rw [any_ky]
  unfold addN
  by_cases m : x ∈ l
  · simp [m]
  · simp [m, kyL]
theorem addK_ky (l : List Str) (x : Str) : addK (kyL l) (.inr x) = kyL (addN l x) := sadd_ky l x
theorem kyS_ky (l : List Str) : kyS (kyL l) = some l := by
  induction l with
  | nil => rfl
  | cons x l ih =>
    simp only [kyL, List.map_cons, kyS] at ih ⊢
    rw [ih]; rfl
theorem addN_le (l : List Str) (x : Str) : (addN l x).length ≤ l.length + 1 := by unfold addN; split <;> simp
theorem addNs_le (l : List Str) (m : List Str) : (addNs l m).length ≤ l.length + m.length := by
  induction m generalizing l with
  | nil => exact Nat.le_refl _
  | cons x m ih =>
    have h1 := ih (addN l x)
    have h2 := addN_le l x
    show (addNs (addN l x) m).length ≤ _
    simp only [List.length_cons]; omega
/-- names that are not sure are found -/
def mrN (su : List Str) (l : List Str) : List Str := l.filter fun x => decide (x ∉ su)
def mrR : List Row → List Str → List Str → List Str
  | [], f, _ => f
  | r :: rs, f, su => mrR rs (addNs f (mrN su (ptN r))) (if ptS r = true then addNs su (ptG r) else su)
def msR (rs : List Row) : List Str := addNs [] (rs.flatMap ptG)
theorem b_scan : (4000 : Nat) < scanBound := by decide
theorem add_one (h : Hs) (l : List Str) (x : Str) (hl : l.length ≤ 2000) : cMth h .sadd (.set (kyL l)) [.d (.str x)] = some (.d .non, .set (kyL (addN l x))) := by
  have b := b_scan
  have le : (kyL l).length + 1 < scanBound := by simp [kyL]; omega
  simp only [cMth, le, if_true, AV.key, D.key, Option.map_some]
  rw [sadd_ky]
theorem mr_0 (h : Hs) (S0 x3 x5 x6 x7 : SV) (su : List Str) : ∀ (l f : List Str) (hl : f.length + l.length ≤ 1900) (x4 : SV), ∃ y4, forGo (fun S h => evSs f_may_read_E f_may_read_p0 S h) (.nm 4) .fz (l.map sA) [S0, .own (.set (kyL f)), .own (.set (kyL su)), x3, x4, x5, x6, x7] h =
    .nx [S0, .own (.set (kyL (addNs f (mrN su l)))), .own (.set (kyL su)), x3, y4, x5, x6, x7] h
  | [], f, _, x4 => ⟨x4, by simp [forGo, SrcOk, mrN, addNs]⟩
  | x :: l, f, hl, x4 => by
    simp only [List.length_cons] at hl
    have an := any_ky su x
    have ad := add_one h f x (by omega)
    have ct : evT f_may_read_E (.cmp .NotIn (.var 4) (.var 2)) [S0, .own (.set (kyL f)), .own (.set (kyL su)), x3, .v (sA x), x5, x6, x7] h = .ok (!decide (x ∈ su)) h := by
      simp [evT, evE, inO, sA, RV.key, AV.key, D.key, an]
    by_cases m : x ∈ su
    · have st : evSs f_may_read_E f_may_read_p0 [S0, .own (.set (kyL f)), .own (.set (kyL su)), x3, .v (sA x), x5, x6, x7] h = .nx [S0, .own (.set (kyL f)), .own (.set (kyL su)), x3, .v (sA x), x5, x6, x7] h := by
        rw [f_may_read_p0, evSs, evS_ife, ct]
        simp [m, Res.st, evSs]
      obtain ⟨y4, e⟩ := mr_0 h S0 x3 x5 x6 x7 su l f (by omega) (.v (sA x))
      refine ⟨y4, ?_⟩
      have mr : mrN su (x :: l) = mrN su l := by simp [mrN, m]
      simp only [List.map_cons, forGo, SrcOk, if_true, evG_nm, List.set_cons_succ, List.set_cons_zero, st, e, mr]
    · have st : evSs f_may_read_E f_may_read_p0 [S0, .own (.set (kyL f)), .own (.set (kyL su)), x3, .v (sA x), x5, x6, x7] h = .nx [S0, .own (.set (kyL (addN f x))), .own (.set (kyL su)), x3, .v (sA x), x5, x6, x7] h := by
        have ad' : cMth h .sadd (.set (kyL f)) [sA x] = some (.d .non, .set (kyL (addN f x))) := ad
        rw [f_may_read_p0, evSs, evS_ife, ct]
        simp [m, Res.st, evSs, evS, evL, evE, ad']
      have al := addN_le f x
      obtain ⟨y4, e⟩ := mr_0 h S0 x3 x5 x6 x7 su l (addN f x) (by omega) (.v (sA x))
      refine ⟨y4, ?_⟩
      have mr : addNs f (mrN su (x :: l)) = addNs (addN f x) (mrN su l) := by simp [mrN, m, addNs]
      simp only [List.map_cons, forGo, SrcOk, if_true, evG_nm, List.set_cons_succ, List.set_cons_zero, st, e, mr]
theorem mr_1 (h : Hs) (S0 x1 x3 x5 x6 x7 : SV) : ∀ (l su : List Str) (hl : su.length + l.length ≤ 1900) (x4 : SV), ∃ y4, forGo (fun S h => evSs f_may_read_E f_may_read_p1 S h) (.nm 4) .fz (l.map sA) [S0, x1, .own (.set (kyL su)), x3, x4, x5, x6, x7] h =
    .nx [S0, x1, .own (.set (kyL (addNs su l))), x3, y4, x5, x6, x7] h
  | [], su, _, x4 => ⟨x4, by simp [forGo, SrcOk, addNs]⟩
  | x :: l, su, hl, x4 => by
    simp only [List.length_cons] at hl
    have ad : cMth h .sadd (.set (kyL su)) [sA x] = some (.d .non, .set (kyL (addN su x))) := add_one h su x (by omega)
    have st : evSs f_may_read_E f_may_read_p1 [S0, x1, .own (.set (kyL su)), x3, .v (sA x), x5, x6, x7] h = .nx [S0, x1, .own (.set (kyL (addN su x))), x3, .v (sA x), x5, x6, x7] h := by
      rw [f_may_read_p1]
      simp [Res.st, evSs, evS, evL, evE, ad]
    have al := addN_le su x
    obtain ⟨y4, e⟩ := mr_1 h S0 x1 x3 x5 x6 x7 l (addN su x) (by omega) (.v (sA x))
    refine ⟨y4, ?_⟩
    have mr : addNs su (x :: l) = addNs (addN su x) l := rfl
    simp only [List.map_cons, forGo, SrcOk, if_true, evG_nm, List.set_cons_succ, List.set_cons_zero, st, e, mr]
theorem mr_row (h : Hs) (r : Row) (ok : r.ok) (hn : rowN r ≤ 100) (f su : List Str) (hf : f.length ≤ 1000) (hs : su.length ≤ 1000) (S0 x4 x5 x6 x7 : SV) : ∃ y4 y5 y6 y7, evSs f_may_read_E f_may_read_p2 [S0, .own (.set (kyL f)), .own (.set (kyL su)), .v (.d (rowD r)), x4, x5, x6, x7] h =
    .nx [S0, .own (.set (kyL (addNs f (mrN su (ptN r))))), .own (.set (kyL (if ptS r = true then addNs su (ptG r) else su))), .v (.d (rowD r)), y4, y5, y6, y7] h := by
  have pt := parts_ok r ok (by omega) h
  have l1 := ptN_len r
  have l2 := ptG_len r
  have m1 : ∀ l : List Str, (l.map Mp.D.str).map AV.d = l.map sA := fun l => by simp [Function.comp_def, sA]
  obtain ⟨y4, e0⟩ := mr_0 h S0 (.v (.d (rowD r))) (.v (.d (.lst ((ptN r).map .str)))) (.v (.d (.lst ((ptG r).map .str)))) (.v (.d (.bl (ptS r)))) su (ptN r) f (by omega) x4
  have s1 : evS f_may_read_E (.asg (.tp [.nm 5, .nm 6, .nm 7]) (.cal 61 [.var 3])) [S0, .own (.set (kyL f)), .own (.set (kyL su)), .v (.d (rowD r)), x4, x5, x6, x7] h = .nx [S0, .own (.set (kyL f)), .own (.set (kyL su)), .v (.d (rowD r)), x4, .v (.d (.lst ((ptN r).map .str))), .v (.d (.lst ((ptG r).map .str))), .v (.d (.bl (ptS r)))] h := by
    simp [evS, evE, evL, Res.st, pt, ptD, evG_tp]
  have s2 : evS f_may_read_E (.for_ (.nm 4) (.seq (.var 5)) f_may_read_p0) [S0, .own (.set (kyL f)), .own (.set (kyL su)), .v (.d (rowD r)), x4, .v (.d (.lst ((ptN r).map .str))), .v (.d (.lst ((ptG r).map .str))), .v (.d (.bl (ptS r)))] h = .nx [S0, .own (.set (kyL (addNs f (mrN su (ptN r))))), .own (.set (kyL su)), .v (.d (rowD r)), y4, .v (.d (.lst ((ptN r).map .str))), .v (.d (.lst ((ptG r).map .str))), .v (.d (.bl (ptS r)))] h := by
    have it : evI f_may_read_E (.seq (.var 5)) [S0, .own (.set (kyL f)), .own (.set (kyL su)), .v (.d (rowD r)), x4, .v (.d (.lst ((ptN r).map .str))), .v (.d (.lst ((ptG r).map .str))), .v (.d (.bl (ptS r)))] h = .ok ((ptN r).map sA, .fz) h := by
      simp only [evI, evE, List.getElem?_cons_succ, List.getElem?_cons_zero, Res.bind_ok, itO_lst, m1, ok1_some]
    rw [evS, it, Res.st_ok, e0]
  obtain ⟨y4', e1⟩ := mr_1 h S0 (.own (.set (kyL (addNs f (mrN su (ptN r)))))) (.v (.d (rowD r))) (.v (.d (.lst ((ptN r).map .str)))) (.v (.d (.lst ((ptG r).map .str)))) (.v (.d (.bl (ptS r)))) (ptG r) su (by omega) y4
  have s3 : evS f_may_read_E (.for_ (.nm 4) (.seq (.var 6)) f_may_read_p1) [S0, .own (.set (kyL (addNs f (mrN su (ptN r))))), .own (.set (kyL su)), .v (.d (rowD r)), y4, .v (.d (.lst ((ptN r).map .str))), .v (.d (.lst ((ptG r).map .str))), .v (.d (.bl (ptS r)))] h = .nx [S0, .own (.set (kyL (addNs f (mrN su (ptN r))))), .own (.set (kyL (addNs su (ptG r)))), .v (.d (rowD r)), y4', .v (.d (.lst ((ptN r).map .str))), .v (.d (.lst ((ptG r).map .str))), .v (.d (.bl (ptS r)))] h := by
    have it : evI f_may_read_E (.seq (.var 6)) [S0, .own (.set (kyL (addNs f (mrN su (ptN r))))), .own (.set (kyL su)), .v (.d (rowD r)), y4, .v (.d (.lst ((ptN r).map .str))), .v (.d (.lst ((ptG r).map .str))), .v (.d (.bl (ptS r)))] h = .ok ((ptG r).map sA, .fz) h := by
      simp only [evI, evE, List.getElem?_cons_succ, List.getElem?_cons_zero, Res.bind_ok, itO_lst, m1, ok1_some]
    rw [evS, it, Res.st_ok, e1]
  have ct : ∀ y1 y2 y4, evT f_may_read_E (.val (.var 7)) [S0, y1, y2, .v (.d (rowD r)), y4, .v (.d (.lst ((ptN r).map .str))), .v (.d (.lst ((ptG r).map .str))), .v (.d (.bl (ptS r)))] h = .ok (ptS r) h := fun y1 y2 y4 => by
    simp [evT, evE]
  cases b : ptS r with
  | true =>
    refine ⟨y4', .v (.d (.lst ((ptN r).map .str))), .v (.d (.lst ((ptG r).map .str))), .v (.d (.bl true)), ?_⟩
    rw [b] at s1 s2 s3 ct
    rw [f_may_read_p2]
    simp only [evSs, s1, s2, evS_ife, ct, Res.st_ok, if_true, s3]
  | false =>
    refine ⟨y4, .v (.d (.lst ((ptN r).map .str))), .v (.d (.lst ((ptG r).map .str))), .v (.d (.bl false)), ?_⟩
    rw [b] at s1 s2 ct
    rw [f_may_read_p2]
    simp only [evSs, s1, s2, evS_ife, ct, Res.st_ok, Bool.false_eq_true, if_false]
theorem mr_rows (h : Hs) (S0 : SV) : ∀ (rs : List Row) (ok : ∀ r ∈ rs, r.ok) (hn : ∀ r ∈ rs, rowN r ≤ 20) (f su : List Str) (hf : f.length + 20 * rs.length ≤ 900) (hs : su.length + rs.length ≤ 900) (x3 x4 x5 x6 x7 : SV), ∃ y2 y3 y4 y5 y6 y7,
    forGo (fun S h => evSs f_may_read_E f_may_read_p2 S h) (.nm 3) .fz (rs.map fun r => .d (rowD r)) [S0, .own (.set (kyL f)), .own (.set (kyL su)), x3, x4, x5, x6, x7] h = .nx [S0, .own (.set (kyL (mrR rs f su))), y2, y3, y4, y5, y6, y7] h ∧ (mrR rs f su).length ≤ 900
  | [], _, _, f, su, hf, hs, x3, x4, x5, x6, x7 => ⟨.own (.set (kyL su)), x3, x4, x5, x6, x7, by simp [forGo, SrcOk, mrR], by simp [mrR]; omega⟩
  | r :: rs, ok, hn, f, su, hf, hs, x3, x4, x5, x6, x7 => by
    simp only [List.length_cons] at hf hs
    have h1 := hn r (.head _)
    have l1 := ptN_len r
    have l2 := ptG_len r
    have a1 := addNs_le f (mrN su (ptN r))
    have f1 : (mrN su (ptN r)).length ≤ (ptN r).length := List.length_filter_le _ _
    have a2 := addNs_le su (ptG r)
    have a3 : (if ptS r = true then addNs su (ptG r) else su).length ≤ su.length + 1 := by split <;> omega
    obtain ⟨y4, y5, y6, y7, st⟩ := mr_row h r (ok r (.head _)) (by omega) f su (by omega) (by omega) S0 x4 x5 x6 x7
    obtain ⟨z2, z3, z4, z5, z6, z7, e, le⟩ := mr_rows h S0 rs (fun q m => ok q (.tail _ m)) (fun q m => hn q (.tail _ m)) (addNs f (mrN su (ptN r))) (if ptS r = true then addNs su (ptG r) else su) (by omega) (by omega) (.v (.d (rowD r))) y4 y5 y6 y7
    refine ⟨z2, z3, z4, z5, z6, z7, ?_, le⟩
    simp only [List.map_cons, forGo, SrcOk, if_true, evG_nm, List.set_cons_succ, List.set_cons_zero, st, mrR]
    exact e
theorem rows_fld (t : Str) (rs : List Row) : [(Str.ofString "rows", AV.d (rowsD rs)), (Str.ofString "text", AV.d (.str t))].lookup (Str.ofString "rows") = some (.d (rowsD rs)) := by
  simp [List.lookup]
theorem cellD_vw (t : Str) (rs : List Row) (h : Hs) : (AV.d (cellD t rs)).vw h = some (.ins 1 [("rows", .d (rowsD rs)), ("text", .d (.str t))]) := by
  simp [cellD, rowsD]
theorem it_rows {F : Fn} {S : List SV} {h : Hs} {t : Str} {rs : List Row} {j : Nat} (e : S[j]? = some (.v (.d (cellD t rs)))) : evI F (.seq (.fld [1] (.var j) "rows")) S h = .ok (rs.map (fun r => .d (rowD r)), .fz) h := by
  have l := rows_fld t rs
  have v := cellD_vw t rs h
  have vv : (RV.v (.d (cellD t rs))).vw h = some (.ins 1 [("rows", .d (rowsD rs)), ("text", .d (.str t))]) := v
  have m : (1 : Nat) ∈ [1] := List.mem_singleton.mpr rfl
  simp only [evI, evE, e, Res.bind_ok, vv, m, if_true, l, Option.map_some, ok1_some]
  simp only [rowsD, itO_tup, List.map_map]
  rfl
theorem may_read_ok (h : Hs) (t : Str) (rs : List Row) (ok : ∀ r ∈ rs, RwOk r) (hl : rs.length ≤ 6) : f_may_read [.d (cellD t rs)] h = .ok (.f (.lst ((sortS (mrR rs [] [])).map sA))) h := by
  obtain ⟨y2, y3, y4, y5, y6, y7, e, le⟩ := mr_rows h (.v (.d (cellD t rs))) rs (fun r m => (ok r m).ok) (fun r m => by have := (ok r m).n; omega) [] [] (by simp; omega) (by simp; omega) .no .no .no .no .no
  have it := it_rows (F := f_may_read_E) (S := [.v (.d (cellD t rs)), .own (.set (kyL [])), .own (.set (kyL [])), .no, .no, .no, .no, .no]) (h := h) (j := 0) (t := t) (rs := rs) rfl
  have s1 : evS f_may_read_E (.asO 1 .set0) [.v (.d (cellD t rs)), .no, .no, .no, .no, .no, .no, .no] h = .nx [.v (.d (cellD t rs)), .own (.set (kyL [])), .no, .no, .no, .no, .no, .no] h := by
    simp [evS, evE, Res.st, kyL]
  have s2 : evS f_may_read_E (.asO 2 .set0) [.v (.d (cellD t rs)), .own (.set (kyL [])), .no, .no, .no, .no, .no, .no] h = .nx [.v (.d (cellD t rs)), .own (.set (kyL [])), .own (.set (kyL [])), .no, .no, .no, .no, .no] h := by
    simp [evS, evE, Res.st, kyL]
  have s3 : evS f_may_read_E (.for_ (.nm 3) (.seq (.fld [1] (.var 0) "rows")) f_may_read_p2) [.v (.d (cellD t rs)), .own (.set (kyL [])), .own (.set (kyL [])), .no, .no, .no, .no, .no] h = .nx [.v (.d (cellD t rs)), .own (.set (kyL (mrR rs [] []))), y2, y3, y4, y5, y6, y7] h := by
    rw [evS, it, Res.st_ok, e]
  have b0 : (1000 : Nat) ≤ sizeLine := by decide
  have le' : (mrR rs [] []).length ≤ sizeLine := by omega
  have s4 : evS f_may_read_E (.ret (.blt .sorted [.var 1])) [.v (.d (cellD t rs)), .own (.set (kyL (mrR rs [] []))), y2, y3, y4, y5, y6, y7] h = .rt (.f (.lst ((sortS (mrR rs [] [])).map sA))) h := by
    have bs : bltO h .sorted [.b 1 (.set (kyL (mrR rs [] [])))] = some (.f (.lst ((sortS (mrR rs [] [])).map sA))) := by
      have v : (RV.b 1 (.set (kyL (mrR rs [] [])))).vw h = some (.set (kyL (mrR rs [] []))) := rfl
      simp only [bltO, v, kyS_ky, Option.bind_some, le', if_true]
      rfl
    rw [evS, evE, evR, evE]
    simp only [List.getElem?_cons_succ, List.getElem?_cons_zero, Res.bind_ok, ho1_b, evR, bs, ok1_some, Res.st_ok]
  unfold f_may_read Mp.run
  rw [f_may_read_b]
  simp only [List.map_cons, List.map_nil, List.length_cons, List.length_nil, List.replicate, List.cons_append, List.nil_append, evSs, s1, s2, s3, s4]
end K


set_option Elab.async false
set_option linter.all false
set_option maxRecDepth 100000
namespace K
open PySem PySem.Spec PyProof.Rows L2 Mp
theorem addC_ky (h0 : Hs) (acc : List Str) (x : Str) (hl : acc.length ≤ 2000) : addC (h0 ++ [.set (kyL acc)]) h0.length (sA x) = some (h0 ++ [.set (kyL (addN acc x))]) := by
  have b := b_scan
  have le : (kyL acc).length + 1 < scanBound := by simp [kyL]; omega
  have g : (h0 ++ [Cell.set (kyL acc)])[h0.length]? = some (.set (kyL acc)) := by simp
  have k : (sA x).key = some (Sum.inr x) := rfl
  have s : (h0 ++ [Cell.set (kyL acc)]).set h0.length (.set (kyL (addN acc x))) = h0 ++ [.set (kyL (addN acc x))] := by simp
  simp only [addC, g, k, le, if_true, addK_ky, s]
theorem sc_in {elt : List SV → Hs → Res AV} {cs : List SV → Hs → Res Bool} {S : List SV} {i : Nat} (h0 : Hs) (st : ∀ (x : Str) h, cs (S.set i (.v (sA x))) h = .ok true h ∧ elt (S.set i (.v (sA x))) h = .ok (sA x) h) : ∀ (l acc : List Str) (hl : acc.length + l.length ≤ 1900),
    scIn h0.length elt cs (.nm i) .fz S (l.map sA) (h0 ++ [.set (kyL acc)]) = .ok () (h0 ++ [.set (kyL (addNs acc l))])
  | [], acc, _ => by simp [scIn, addNs, SrcOk]
  | x :: l, acc, hl => by
    simp only [List.length_cons] at hl
    have al := addN_le acc x
    have ac := addC_ky h0 acc x (by omega)
    have e := sc_in h0 st l (addN acc x) (by omega)
    obtain ⟨s1, s2⟩ := st x (h0 ++ [.set (kyL acc)])
    simp only [List.map_cons, scIn, SrcOk, if_true, evG_nm, s1, s2, Res.noX, Res.bind_ok, ac, ok1_some, e]
    rfl
theorem sc_rows (h0 : Hs) (S0 : SV) : ∀ (rs : List Row) (ok : ∀ r ∈ rs, r.ok) (hn : ∀ r ∈ rs, rowN r ≤ 20) (acc : List Str) (hl : acc.length + rs.length ≤ 900),
    scGo h0.length (fun S h => (evE f_may_set_E f_may_set_e0 S h).bind toV1) (fun S h => evTo f_may_set_E none S h) (fun S h => evI f_may_set_E (.seq (.sub (.cal 61 [.var 1]) (.cst (.int 1)))) S h) (fun S h => evTo f_may_set_E none S h) (.nm 1) (.nm 2) .fz [S0, .no, .no] [2] (rs.map fun r => .d (rowD r)) (h0 ++ [.set (kyL acc)]) =
      .ok (.v (.r h0.length)) (h0 ++ [.set (kyL (addNs acc (rs.flatMap ptG)))])
  | [], _, _, acc, _ => by simp [scGo, addNs, SrcOk]
  | r :: rs, ok, hn, acc, hl => by
    simp only [List.length_cons] at hl
    have l2 := ptG_len r
    have pt := parts_ok r (ok r (.head _)) (by have := hn r (.head _); omega) (h0 ++ [.set (kyL acc)])
    have m1 : ∀ l : List Str, (l.map Mp.D.str).map AV.d = l.map sA := fun l => by simp [Function.comp_def, sA]
    have a2 := addNs_le acc (ptG r)
    have it : evI f_may_set_E (.seq (.sub (.cal 61 [.var 1]) (.cst (.int 1)))) [S0, .v (.d (rowD r)), .no] (h0 ++ [.set (kyL acc)]) = .ok ((ptG r).map sA, .fz) (h0 ++ [.set (kyL acc)]) := by
      have e : evE f_may_set_E (.sub (.cal 61 [.var 1]) (.cst (.int 1))) [S0, .v (.d (rowD r)), .no] (h0 ++ [.set (kyL acc)]) = .ok (.v (.d (.lst ((ptG r).map .str)))) (h0 ++ [.set (kyL acc)]) := by
        simp [evE, evL, pt, ptD]
      rw [evI, e]
      simp only [Res.bind_ok, itO_lst, m1, ok1_some]
    have ei := sc_in (elt := fun S h => (evE f_may_set_E f_may_set_e0 S h).bind toV1) (cs := fun S h => evTo f_may_set_E none S h) (S := [S0, .v (.d (rowD r)), .no]) (i := 2) h0 (fun x h => ⟨by simp [evTo], by simp [f_may_set_e0, evE]⟩) (ptG r) acc (by omega)
    have eg := sc_rows h0 S0 rs (fun q m => ok q (.tail _ m)) (fun q m => hn q (.tail _ m)) (addNs acc (ptG r)) (by omega)
    have w : wipeS [S0, .v (.d (rowD r)), .no] [2] = [S0, .v (.d (rowD r)), .no] := by simp [wipeS]
    have ct : ∀ S h, evTo f_may_set_E none S h = .ok true h := fun S h => by simp [evTo]
    have fl : (r :: rs).flatMap ptG = ptG r ++ rs.flatMap ptG := by simp
    rw [fl, ← addNs_snoc]
    simp only [ct] at ei eg
    simp only [List.map_cons, scGo, SrcOk, if_true, evG_nm, List.set_cons_succ, List.set_cons_zero, ct, Res.noX, Res.bind_ok, it, w, ei, eg]
theorem may_set_ok (h : Hs) (t : Str) (rs : List Row) (ok : ∀ r ∈ rs, RwOk r) (hl : rs.length ≤ 6) : f_may_set [.d (cellD t rs)] h = .ok (.f (.lst ((sortS (msR rs)).map sA))) (h ++ [.set (kyL (msR rs))]) := by
  have it := it_rows (F := f_may_set_E) (S := [.v (.d (cellD t rs)), .no, .no]) (h := h) (j := 0) (t := t) (rs := rs) rfl
  have e := sc_rows h (.v (.d (cellD t rs))) rs (fun r m => (ok r m).ok) (fun r m => by have := (ok r m).n; omega) [] (by simp; omega)
  have gl : ∀ l : List Row, (l.flatMap ptG).length ≤ l.length := fun l => by
    induction l with
    | nil => simp
    | cons r l ih => have := ptG_len r; simp only [List.flatMap_cons, List.length_append, List.length_cons]; omega
  have a1 := addNs_le [] (rs.flatMap ptG)
  have a2 := gl rs
  have b0 : (1000 : Nat) ≤ sizeLine := by decide
  have le : (msR rs).length ≤ sizeLine := by unfold msR; simp only [List.length_nil] at a1; omega
  have w : wipeS [.v (.d (cellD t rs)), .no, .no] [1, 2] = [.v (.d (cellD t rs)), .no, .no] := by simp [wipeS]
  have no : noOwn [.v (.d (cellD t rs)), .no, .no] [1, 2] = true := by simp [noOwn]
  have es : evE f_may_set_E (.sc2 f_may_set_e0 (.nm 1) (.seq (.fld [1] (.var 0) "rows")) none (.nm 2) (.seq (.sub (.cal 61 [.var 1]) (.cst (.int 1)))) none [1, 2] [2]) [.v (.d (cellD t rs)), .no, .no] h = .ok (.v (.r h.length)) (h ++ [.set (kyL (msR rs))]) := by
    rw [evE, if_pos no, it]
    simp only [Res.bind_ok, w]
    exact e
  have bs : bltO (h ++ [.set (kyL (msR rs))]) .sorted [.v (.r h.length)] = some (.f (.lst ((sortS (msR rs)).map sA))) := by
    have v : (RV.v (.r h.length)).vw (h ++ [.set (kyL (msR rs))]) = some (.set (kyL (msR rs))) := by
      simp only [RV.vw, AV.vw]; simp
    simp only [bltO, v, kyS_ky, Option.bind_some, le, if_true]
    rfl
  unfold f_may_set Mp.run
  rw [f_may_set_b]
  simp only [List.map_cons, List.map_nil, List.length_cons, List.length_nil, List.replicate, List.cons_append, List.nil_append, evSs, evS]
  rw [evE, es]
  simp only [Res.bind_ok, bs, ok1_some, Res.st_ok]
end K


set_option Elab.async false
set_option linter.all false
set_option maxRecDepth 100000
namespace K
open PySem PySem.Spec PyProof.Rows L2 Mp
/-! what the law expects -/
structure D3 (n : Nat) (rd gv su : List Str) (g : Hs) : Prop where
  a : g[n]? = some (lgC rd)
  b : g[n + 1]? = some (lgC gv)
  c : g[n + 2]? = some (lgC su)
section
variable {n : Nat} {rd gv su : List Str} {g h0 : Hs}
theorem D3.sa (X : D3 n rd gv su g) (l : List Str) : D3 n l gv su (g.set n (lgC l)) := ⟨by simp [lt_of X.a], by rw [List.getElem?_set_ne (by omega)]; exact X.b, by rw [List.getElem?_set_ne (by omega)]; exact X.c⟩
theorem D3.sb (X : D3 n rd gv su g) (l : List Str) : D3 n rd l su (g.set (n + 1) (lgC l)) := ⟨by rw [List.getElem?_set_ne (by omega)]; exact X.a, by simp [lt_of X.b], by rw [List.getElem?_set_ne (by omega)]; exact X.c⟩
theorem D3.sc (X : D3 n rd gv su g) (l : List Str) : D3 n rd gv l (g.set (n + 2) (lgC l)) := ⟨by rw [List.getElem?_set_ne (by omega)]; exact X.a, by rw [List.getElem?_set_ne (by omega)]; exact X.b, by simp [lt_of X.c]⟩
end
end K


set_option Elab.async false
set_option linter.all false
set_option maxRecDepth 100000
namespace K
open PySem PySem.Spec PyProof.Rows L2 Mp
section
variable {n : Nat} {rd gv su : List Str} {g h0 : Hs}
end
end K


set_option Elab.async false
set_option linter.all false
set_option maxRecDepth 100000
namespace K
open PySem PySem.Spec PyProof.Rows L2 Mp
/-! k07: what is told of a cell's names -/
theorem sum_cm {s : List Pr} (ok : ∀ p ∈ s, p.ok) : okD (sumD s) = true ∧ dpD (sumD s) ≤ 31 := by
  have h1 : okDs (s.map Pr.d) = true := okDs_map fun q m => (okD_Pr ⟨(ok q m).2.1, (ok q m).2.2.1⟩).1
  have h2 : dpDs (s.map Pr.d) ≤ 30 := dpDs_map fun q m => (okD_Pr ⟨(ok q m).2.1, (ok q m).2.2.1⟩).2
  exact ⟨by simpa [sumD, okD] using h1, by simp only [sumD, dpD]; omega⟩
theorem row_cmP : ∀ {r : Row}, r.ok → r.plain = true → okD (rowD r) = true ∧ dpD (rowD r) ≤ 32
  | .drp x, ok, _ => ⟨by simp [rowD, okD, okDs, w_d, nm_ok ok], by simp [rowD, dpD, dpDs]⟩
  | .set x s, ok, _ => by
    have := sum_cm ok.2
    exact ⟨by simp [rowD, okD, okDs, w_s, nm_ok ok.1, this.1], by simp only [rowD, dpD, dpDs]; omega⟩
  | .sho s, ok, _ => by
    have := sum_cm (s := s) ok
    exact ⟨by simp [rowD, okD, okDs, w_h, this.1], by simp only [rowD, dpD, dpDs]; omega⟩
  | .ifr _ _, _, h => by cases h
theorem row_cm {r : Row} (ok : r.ok) : okD (rowD r) = true ∧ dpD (rowD r) ≤ 33 := by
  by_cases p : r.plain = true
  · have := row_cmP ok p
    exact ⟨this.1, by omega⟩
  · cases r with
    | ifr s r =>
      have h1 := sum_cm ok.1
      have h2 := row_cmP ok.2.2 ok.2.1
      exact ⟨by simp [rowD, okD, okDs, w_i, h1.1, h2.1], by simp only [rowD, dpD, dpDs]; omega⟩
    | _ => exact absurd rfl p
theorem rows_cm {rs : List Row} (ok : ∀ r ∈ rs, r.ok) : Cm (rowsD rs) := by
  have h1 : okDs (rs.map rowD) = true := okDs_map fun r m => (row_cm (ok r m)).1
  have h2 : dpDs (rs.map rowD) ≤ 33 := dpDs_map fun r m => (row_cm (ok r m)).2
  exact ⟨by simpa [rowsD, okD] using h1, by simp only [rowsD, dpD]; omega⟩
theorem smN_nm {s : List Pr} (ok : ∀ p ∈ s, p.ok) : ∀ x ∈ smN s, nmS x = true := by
  intro x m
  obtain ⟨p, mp, m⟩ := List.mem_flatMap.mp m
  obtain ⟨a, ma, m⟩ := List.mem_flatMap.mp m
  have oa : a.ok := by
    rcases List.mem_cons.mp ma with rfl | ma
    · exact (ok p mp).2.1
    · obtain ⟨q, mq, rfl⟩ := List.mem_map.mp ma
      exact (ok p mp).2.2.1 q mq
  cases a with
  | nm y =>
    simp only [atN, List.mem_singleton] at m
    subst m
    exact oa
  | num n => simp [atN] at m
theorem ptN_nm : ∀ {r : Row}, r.ok → ∀ x ∈ ptN r, nmS x = true
  | .drp x, _, y, m => by simp [ptN] at m
  | .set x s, ok, y, m => smN_nm ok.2 y m
  | .sho s, ok, y, m => smN_nm (s := s) ok y m
  | .ifr s r, ok, y, m => by
    rcases List.mem_append.mp m with m | m
    · exact smN_nm ok.1 y m
    · exact ptN_nm ok.2.2 y m
theorem ptG_nm : ∀ {r : Row}, r.ok → ∀ x ∈ ptG r, nmS x = true
  | .drp x, ok, y, m => by simp only [ptG, List.mem_singleton] at m; subst m; exact ok
  | .set x s, ok, y, m => by simp only [ptG, List.mem_singleton] at m; subst m; exact ok.1
  | .sho s, ok, y, m => by simp [ptG] at m
  | .ifr s r, ok, y, m => ptG_nm (r := r) ok.2.2 y m
theorem mrR_mem : ∀ (rs : List Row) (f su : List Str) (x : Str), x ∈ mrR rs f su → x ∈ f ∨ ∃ r ∈ rs, x ∈ ptN r
  | [], f, su, x, m => .inl m
  | r :: rs, f, su, x, m => by
    rcases mrR_mem rs _ _ x m with m | ⟨q, mq, m⟩
    · rcases mem_addNs.mp m with m | m
      · exact .inl m
      · exact .inr ⟨r, .head _, (List.mem_filter.mp m).1⟩
    · exact .inr ⟨q, .tail _ mq, m⟩
theorem mr_nm {rs : List Row} (ok : ∀ r ∈ rs, r.ok) : ∀ x ∈ sortS (mrR rs [] []), PyData.strOk x = true := by
  intro x m
  have m := (sortS_perm _).mem_iff.mp m
  rcases mrR_mem rs [] [] x m with m | ⟨r, mr, m⟩
  · simp at m
  · exact nm_ok (ptN_nm (ok r mr) x m)
theorem ms_nm {rs : List Row} (ok : ∀ r ∈ rs, r.ok) : ∀ x ∈ sortS (msR rs), PyData.strOk x = true := by
  intro x m
  have m := (sortS_perm _).mem_iff.mp m
  rcases mem_addNs.mp m with m | m
  · simp at m
  · obtain ⟨r, mr, m⟩ := List.mem_flatMap.mp m
    exact nm_ok (ptG_nm (ok r mr) x m)
section
variable {rs : List Row} (C : CellOk rs)
include C
end
end K


set_option Elab.async false
set_option linter.all false
set_option maxRecDepth 100000
namespace K
open PySem PySem.Spec PyProof.Rows L2 Mp
theorem wide_plain {h : Hs} {a : Nat} (hB : B a h) (x1 x2 x3 x4 : SV) : ∃ (y3 : SV) (r : Row) (g : Hs), (∀ (S : List MS), evSs f_l_wide_rows_E ((f_l_wide_rows_p0.take 2) ++ S) [.v (.r a), x1, x2, x3, x4] h = evSs f_l_wide_rows_E S [.v (.r a), x1, x2, y3, .v (.d (rowD r))] g) ∧ r.ok ∧ r.wf ∧ r.plain = true ∧ rowN r ≤ 8 ∧ B a g := by
  obtain ⟨n1, g1, e1, o1, B1⟩ := any_name_nm hB
  obtain ⟨j, g2, e2, j0, j1, B2⟩ := take_B B1 4 (by decide) (by decide)
  obtain ⟨n2, ex, o2⟩ := name4 j0 j1
  obtain ⟨k, g3, e3, k0, k1, B3⟩ := take_B B2 2 (by decide) (by decide)
  obtain ⟨x, hx, ox⟩ : ∃ x : Str, atI [AV.d (.str n1), .d (.str n2)] k = some (.d (.str x)) ∧ nmS x = true := by
    have : k = 0 ∨ k = 1 := by omega
    rcases this with rfl | rfl
    · exact ⟨n1, rfl, o1⟩
    · exact ⟨n2, rfl, o2⟩
  obtain ⟨s, g4, e4, l4, q4, ns4, B4⟩ := wide_sum_ne B3
  obtain ⟨t, g5, e5, l5, q5, ns5, B5⟩ := wide_sum_ne B4
  obtain ⟨m, g6, e6, m0, m1, B6⟩ := take_B B5 3 (by decide) (by decide)
  have s3 : evS f_l_wide_rows_E (.asg (.nm 3) (.sub (.lst [.cal 2 [.var 0], .sub (.cal 3 []) (.cal 1 [.var 0, .cst (.int 4)])]) (.cal 1 [.var 0, .cst (.int 2)]))) [.v (.r a), x1, x2, x3, x4] h = .nx [.v (.r a), x1, x2, .v (.d (.str x)), x4] g3 := by
    simp [Mp.run, evSs, evS, evE, evT, evTs, evTo, evL, evR, evB, evI, evO, Res.st, wipeS, noOwn, binO_eq, mkTup, AV.toDs, AV.toD, Cell.frz, evG_tp, forGo, SrcOk, lcGo, Vw.ty, tyAny, tyIs, kb_int, kb_bool, kb_str, kb_tup, e1, names_eq, e2, ex, e3, hx]
  obtain ⟨r, hr, or, wr, pr, nr⟩ : ∃ r : Row, atI [AV.d (.tup [.str "drop", .str x]), .d (.tup [.str "show", sumD s]), .d (.tup [.str "set", .str x, sumD t])] m = some (.d (rowD r)) ∧ r.ok ∧ r.wf ∧ r.plain = true ∧ rowN r ≤ 8 := by
    have : m = 0 ∨ m = 1 ∨ m = 2 := by omega
    rcases this with rfl | rfl | rfl
    · exact ⟨.drp x, rfl, ox, trivial, rfl, Nat.zero_le _⟩
    · exact ⟨.sho s, rfl, q4, ⟨ns4, l4⟩, rfl, l4⟩
    · exact ⟨.set x t, rfl, ⟨ox, q5⟩, ⟨ns5, l5⟩, rfl, l5⟩
  have s4 : evS f_l_wide_rows_E (.asg (.nm 4) (.sub (.lst [.tup [.cst (.str "drop"), .var 3], .tup [.cst (.str "show"), .cal 5 [.var 0]], .tup [.cst (.str "set"), .var 3, .cal 5 [.var 0]]]) (.cal 1 [.var 0, .cst (.int 3)]))) [.v (.r a), x1, x2, .v (.d (.str x)), x4] g3 = .nx [.v (.r a), x1, x2, .v (.d (.str x)), .v (.d (rowD r))] g6 := by
    simp [Mp.run, evSs, evS, evE, evT, evTs, evTo, evL, evR, evB, evI, evO, Res.st, wipeS, noOwn, binO_eq, mkTup, AV.toDs, AV.toD, Cell.frz, evG_tp, forGo, SrcOk, lcGo, Vw.ty, tyAny, tyIs, kb_int, kb_bool, kb_str, kb_tup, e4, e5, e6, hr]
  refine ⟨.v (.d (.str x)), r, g6, fun S => ?_, or, wr, pr, nr, B6⟩
  have hb : f_l_wide_rows_p0.take 2 = [.asg (.nm 3) (.sub (.lst [.cal 2 [.var 0], .sub (.cal 3 []) (.cal 1 [.var 0, .cst (.int 4)])]) (.cal 1 [.var 0, .cst (.int 2)])), .asg (.nm 4) (.sub (.lst [.tup [.cst (.str "drop"), .var 3], .tup [.cst (.str "show"), .cal 5 [.var 0]], .tup [.cst (.str "set"), .var 3, .cal 5 [.var 0]]]) (.cal 1 [.var 0, .cst (.int 3)]))] := rfl
  rw [hb, List.cons_append, List.cons_append, List.nil_append, evSs, s3]
  simp only
  rw [evSs, s4]
theorem wide_rows_B {h : Hs} {a : Nat} (hB : B a h) : ∃ (rs : List Row) (h' : Hs), f_l_wide_rows [.r a] h = .ok (.v (.d (rowsD rs))) h' ∧ (∀ r ∈ rs, RwOk r) ∧ rs ≠ [] ∧ rs.length ≤ 6 ∧ B a h' := by
  obtain ⟨u, g1, e1, u0, u1, B1⟩ := take_B hB 6 (by decide) (by decide)
  have b0 : (100 : Nat) < sizeLine := by decide
  obtain ⟨S, h2, e2, rs, y2, y3, y4, rfl, ls, oks, B2⟩ := for_sti (body := fun S h => evSs f_l_wide_rows_E f_l_wide_rows_p0 S h) (i := 2) 6
    (fun n S h => ∃ (rs : List Row) (y2 y3 y4 : SV), S = [.v (.r a), .own (.lst (rs.map fun r => .d (rowD r))), y2, y3, y4] ∧ rs.length = n ∧ (∀ r ∈ rs, RwOk r) ∧ B a h)
    ((List.range (1 + u).toNat).map fun (i : Nat) => .d (.int i)) (fun x m n S h hn => by
      rintro ⟨rs, y2, y3, y4, rfl, ls, oks, hB⟩
      obtain ⟨z3, r, g2, e2, o2, w2, p2, n2, B2⟩ := wide_plain hB (.own (.lst (rs.map fun r => .d (rowD r)))) (.v x) y3 y4
      obtain ⟨j, g3, e3, j0, j1, B3⟩ := take_B B2 3 (by decide) (by decide)
      have sl : rs.length < sizeLine := by omega
      have hb : f_l_wide_rows_p0 = f_l_wide_rows_p0.take 2 ++ [.ife (.cmp .Eq (.cal 1 [.var 0, .cst (.int 3)]) (.cst (.int 0))) [.asg (.nm 4) (.tup [.cst (.str "if"), .cal 5 [.var 0], .var 4])] [], .owM 1 .append [.var 4]] := rfl
      simp only [List.set_cons_succ, List.set_cons_zero]
      by_cases z : j = 0
      · obtain ⟨s, g4, e4, l4, os, ns, B4⟩ := wide_sum_ne B3
        refine ⟨[.v (.r a), .own (.lst ((rs ++ [Row.ifr s r]).map fun r => .d (rowD r))), .v x, z3, .v (.d (rowD (.ifr s r)))], g4, ?_, rs ++ [.ifr s r], _, _, _, rfl, by simp [ls], fun q m => ?_, B4⟩
        · rw [app_row, hb, e2]
          simp [Mp.run, evSs, evS, evE, evT, evTs, evTo, evL, evR, evB, evI, evO, Res.st, wipeS, noOwn, binO_eq, mkTup, AV.toDs, AV.toD, Cell.frz, evG_tp, forGo, SrcOk, lcGo, Vw.ty, tyAny, tyIs, kb_int, kb_bool, kb_str, kb_tup, e3, z, e4, sl, rowD]
        · rcases List.mem_append.mp m with m | m
          · exact oks q m
          · simp only [List.mem_singleton] at m; subst m
            exact ⟨⟨os, p2, o2⟩, ⟨ns, l4, w2⟩, by simp only [rowN]; omega⟩
      · refine ⟨[.v (.r a), .own (.lst ((rs ++ [r]).map fun r => .d (rowD r))), .v x, z3, .v (.d (rowD r))], g3, ?_, rs ++ [r], _, _, _, rfl, by simp [ls], fun q m => ?_, B3⟩
        · rw [app_row, hb, e2]
          simp [Mp.run, evSs, evS, evE, evT, evTs, evTo, evL, evR, evB, evI, evO, Res.st, wipeS, noOwn, binO_eq, mkTup, AV.toDs, AV.toD, Cell.frz, evG_tp, forGo, SrcOk, lcGo, Vw.ty, tyAny, tyIs, kb_int, kb_bool, kb_str, kb_tup, e3, z, sl]
        · rcases List.mem_append.mp m with m | m
          · exact oks q m
          · simp only [List.mem_singleton] at m; subst m
            exact ⟨o2, w2, by omega⟩) 0 (by simp; omega)
    [.v (.r a), .own (.lst []), .no, .no, .no] g1 ⟨[], _, _, _, rfl, rfl, by simp, B1⟩
  have rr := rng_ok (n := 1 + u) (by omega) (by omega)
  have l1 : rs.length = (1 + u).toNat := by simpa using ls
  refine ⟨rs, h2, ?_, oks, fun z => ?_, by omega, B2⟩
  · have tf := mkTup_of (toDs_fn rowD rs)
    simp [f_l_wide_rows, Mp.run, f_l_wide_rows_b, evSs, evS, evE, evL, evI, evR, Res.st, List.replicate, e1, binO_eq, rr, e2, tf, rowsD]
  · rw [z] at l1; simp at l1; omega
end K


set_option Elab.async false
set_option linter.all false
set_option maxRecDepth 100000
namespace K
open PySem PySem.Spec PyProof.Rows L2 Mp
/-! what a run reads and sets lies within what a cell may read and set -/
end K


set_option Elab.async false
set_option linter.all false
set_option maxRecDepth 100000
namespace K
open PySem PySem.Spec PyProof.Rows L2 Mp
/-- all, over pairs taken apart -/
theorem all_tg {F : Fn} {elt : ME} {tg : MT} {own : List Nat} {it : MI} {S : List SV} {h : Hs} {α : Type} (g : α → AV) (T : α → List SV) (l : List α) (n : noOwn S own = true) (w : wipeS S own = S) (ei : evI F it S h = .ok (l.map g, .fz) h) (hl : l.length ≤ 1000)
    (step : ∀ c ∈ l, evG h tg (g c) S = some (T c) ∧ evE F elt (T c) h = .ok (db true) h) :
    evE F (.blt .all [.lcm elt tg it none own]) S h = .ok (db true) h := by
  have b0 : (1000 : Nat) < sizeLine := by decide
  have lc := lc_src (elt := fun S h => (evE F elt S h).bind toV1) (cs := fun S h => evTo F none S h) (tg := tg) (src := .fz) (S := S) g (fun _ => .d (.bl true)) T h trivial l (fun c m => by
    obtain ⟨e1, e2⟩ := step c m
    exact ⟨e1, by simp [evTo], by simp only [e2]; rfl⟩) [] (by simp; omega)
  rw [List.nil_append] at lc
  have e := lcm_eq (F := F) (elt := elt) (tg := tg) (cs := none) (own := own) n ei
  rw [w, lc] at e
  rw [blt1 e (ho_f (fun _ : α => .bl true) _)]
  have : bltO h .all [.v (.d (.lst (l.map fun _ => .bl true)))] = some (db true) := by
    have m2 : ((l.map fun _ => Mp.D.bl true).map AV.d) = l.map fun _ => .d (.bl true) := by simp
    rw [blt_all_d, m2, bls_map (fun _ : α => true)]
    simp
  rw [this]; rfl
end K


set_option Elab.async false
set_option linter.all false
set_option maxRecDepth 100000
namespace K
open PySem PySem.Spec PyProof.Rows L2 Mp
end K


set_option Elab.async false
set_option linter.all false
set_option maxRecDepth 100000
namespace K
open PySem PySem.Spec PyProof.Rows L2 Mp
def f_Cell___eq___b : List MS := [.ret (.bop true [.isi (.var 1) [.c 1], .cmp .Eq (.fld [1] (.var 0) "text") (.fld [1] (.var 1) "text")])]
noncomputable def f_Cell___eq___E : Fn := mkF gcv [] [(1, f_Cell_new)] []
/-- Cell.__eq__: 0 self, 1 other -/
noncomputable def f_Cell___eq__ : Worth := run f_Cell___eq___E 2 f_Cell___eq___b
@[simp] theorem f_Cell___eq___E_i1 : f_Cell___eq___E.ini 1 = f_Cell_new := rfl
def f_Cell___str___b : List MS := [.ret (.fst [.fld [1] (.var 0) "text"])]
noncomputable def f_Cell___str___E : Fn := mkF gcv [] [] []
/-- Cell.__str__: 0 self -/
noncomputable def f_Cell___str__ : Worth := run f_Cell___str___E 1 f_Cell___str___b
end K


set_option Elab.async false
set_option linter.all false
set_option maxRecDepth 100000
namespace K
open PySem PySem.Spec PyProof.Rows L2 Mp
/-! plain data: alike just where they are the same -/
mutual
def plD : Mp.D → Bool
  | .int _ => true
  | .str x => PySem.PyData.strOk x
  | .tup xs => plDs xs
  | _ => false
def plDs : List Mp.D → Bool
  | [] => true
  | x :: xs => plD x && plDs xs
end
mutual
theorem pl_ok : ∀ a : Mp.D, plD a = true → okD a = true
  | .int _, _ => by simp [okD]
  | .str x, h => by simpa [okD, plD] using h
  | .tup xs, h => by simp only [okD]; exact pls_ok xs (by simpa [plD] using h)
  | .non, h => by simp [plD] at h
  | .bl _, h => by simp [plD] at h
  | .lst _, h => by simp [plD] at h
  | .dic _, h => by simp [plD] at h
  | .obj _ _, h => by simp [plD] at h
  | .scr _, h => by simp [plD] at h
  | .kdc _, h => by simp [plD] at h
theorem pls_ok : ∀ a : List Mp.D, plDs a = true → okDs a = true
  | [], _ => rfl
  | x :: xs, h => by
    simp only [plDs, Bool.and_eq_true] at h
    simp only [okDs, pl_ok x h.1, pls_ok xs h.2, Bool.and_self]
end
theorem dEq_it (i : Int) (xs : List Mp.D) : dEq (.int i) (.tup xs) = false := by
  unfold dEq; simp only [D.py]; cases D.pys xs <;> simp [PyData.eqv]
theorem dEq_ti (i : Int) (xs : List Mp.D) : dEq (.tup xs) (.int i) = false := by
  unfold dEq; simp only [D.py]; cases D.pys xs <;> simp [PyData.eqv]
theorem dEq_st (i : Str) (xs : List Mp.D) : dEq (.str i) (.tup xs) = false := by
  unfold dEq; simp only [D.py]; cases D.pys xs <;> simp [PyData.eqv]
theorem dEq_ts (i : Str) (xs : List Mp.D) : dEq (.tup xs) (.str i) = false := by
  unfold dEq; simp only [D.py]; cases D.pys xs <;> simp [PyData.eqv]
theorem dEq_is (i : Int) (x : Str) : dEq (.int i) (.str x) = false := by simp [dEq, D.py, PyData.eqv]
theorem dEq_si (i : Int) (x : Str) : dEq (.str x) (.int i) = false := by simp [dEq, D.py, PyData.eqv]
mutual
theorem dEq_pl : ∀ a b : Mp.D, plD a = true → plD b = true → dEq a b = true → a = b
  | .int i, .int j, _, _, h => by rw [dEq_int] at h; rw [eq_of_beq h]
  | .int i, .str x, _, _, h => by rw [dEq_is] at h; cases h
  | .int i, .tup xs, _, _, h => by rw [dEq_it] at h; cases h
  | .str x, .int i, _, _, h => by rw [dEq_si] at h; cases h
  | .str x, .str y, _, _, h => by rw [dEq_str] at h; rw [eq_of_beq h]
  | .str x, .tup xs, _, _, h => by rw [dEq_st] at h; cases h
  | .tup xs, .int i, _, _, h => by rw [dEq_ti] at h; cases h
  | .tup xs, .str x, _, _, h => by rw [dEq_ts] at h; cases h
  | .tup xs, .tup ys, h1, h2, h => by
    rw [dEq_tup] at h
    rw [dEqs_pl xs ys (by simpa [plD] using h1) (by simpa [plD] using h2) h]
  | .non, _, h, _, _ => by simp [plD] at h
  | .bl _, _, h, _, _ => by simp [plD] at h
  | .lst _, _, h, _, _ => by simp [plD] at h
  | .dic _, _, h, _, _ => by simp [plD] at h
  | .obj _ _, _, h, _, _ => by simp [plD] at h
  | .scr _, _, h, _, _ => by simp [plD] at h
  | .kdc _, _, h, _, _ => by simp [plD] at h
  | .int _, .non, _, h, _ => by simp [plD] at h
  | .int _, .bl _, _, h, _ => by simp [plD] at h
  | .int _, .lst _, _, h, _ => by simp [plD] at h
  | .int _, .dic _, _, h, _ => by simp [plD] at h
  | .int _, .obj _ _, _, h, _ => by simp [plD] at h
  | .int _, .scr _, _, h, _ => by simp [plD] at h
  | .int _, .kdc _, _, h, _ => by simp [plD] at h
  | .str _, .non, _, h, _ => by simp [plD] at h
  | .str _, .bl _, _, h, _ => by simp [plD] at h
  | .str _, .lst _, _, h, _ => by simp [plD] at h
  | .str _, .dic _, _, h, _ => by simp [plD] at h
  | .str _, .obj _ _, _, h, _ => by simp [plD] at h
  | .str _, .scr _, _, h, _ => by simp [plD] at h
  | .str _, .kdc _, _, h, _ => by simp [plD] at h
  | .tup _, .non, _, h, _ => by simp [plD] at h
  | .tup _, .bl _, _, h, _ => by simp [plD] at h
  | .tup _, .lst _, _, h, _ => by simp [plD] at h
  | .tup _, .dic _, _, h, _ => by simp [plD] at h
  | .tup _, .obj _ _, _, h, _ => by simp [plD] at h
  | .tup _, .scr _, _, h, _ => by simp [plD] at h
  | .tup _, .kdc _, _, h, _ => by simp [plD] at h
theorem dEqs_pl : ∀ a b : List Mp.D, plDs a = true → plDs b = true → dEqs a b = true → a = b
  | [], [], _, _, _ => rfl
  | [], _ :: _, _, _, h => by rw [dEqs_nc] at h; cases h
  | _ :: _, [], _, _, h => by rw [dEqs_cn] at h; cases h
  | x :: xs, y :: ys, h1, h2, h => by
    simp only [plDs, Bool.and_eq_true] at h1 h2
    rw [dEqs_cons (pls_ok xs h1.2) (pls_ok ys h2.2), Bool.and_eq_true] at h
    rw [dEq_pl x y h1.1 h2.1 h.1, dEqs_pl xs ys h1.2 h2.2 h.2]
end
theorem plDs_map {α : Type} {f : α → Mp.D} {l : List α} (h : ∀ x ∈ l, plD (f x) = true) : plDs (l.map f) = true := by
  induction l with
  | nil => rfl
  | cons x l ih => simp only [List.map_cons, plDs, Bool.and_eq_true]; exact ⟨h x (.head _), ih fun y m => h y (.tail _ m)⟩
theorem pl_at {a : At} (h : a.ok) : plD a.d = true := by
  cases a with
  | nm x => simpa [At.d, plD] using nm_ok h
  | num n => simp [At.d, plD]
theorem pl_sum {s : List Pr} (ok : ∀ q ∈ s, q.ok) : plD (sumD s) = true := by
  simp only [sumD, plD]
  refine plDs_map fun p m => ?_
  obtain ⟨_, of, op, _⟩ := ok p m
  have e : plDs (p.ps.map prD) = true := plDs_map fun q mq => by
    have o1 : PySem.PyData.strOk (opS q.1) = true := by cases q.1 <;> decide +kernel
    simp [prD, plD, plDs, o1, pl_at (op q mq)]
  simp [Pr.d, plD, plDs, pl_at of, e]
theorem pl_row : ∀ r : Row, r.ok → plD (rowD r) = true
  | .set x s, ok => by
    have o1 : PySem.PyData.strOk (Str.ofString "set") = true := by decide +kernel
    simp [rowD, plD, plDs, o1, nm_ok ok.1, pl_sum ok.2]
  | .drp x, ok => by
    have o1 : PySem.PyData.strOk (Str.ofString "drop") = true := by decide +kernel
    simp [rowD, plD, plDs, o1, nm_ok ok]
  | .sho s, ok => by
    have o1 : PySem.PyData.strOk (Str.ofString "show") = true := by decide +kernel
    simp [rowD, plD, plDs, o1, pl_sum ok]
  | .ifr s r, ok => by
    have o1 : PySem.PyData.strOk (Str.ofString "if") = true := by decide +kernel
    simp [rowD, plD, plDs, o1, pl_sum ok.1, pl_row r ok.2.2]
theorem pl_rows {rs : List Row} (ok : ∀ r ∈ rs, r.ok) : plD (rowsD rs) = true := by
  simp only [rowsD, plD]
  exact plDs_map fun r m => pl_row r (ok r m)
/-! texts -/
def smT (x : Str) : Prop := ∀ c ∈ TL.tl x, c < 1114112
theorem sm_ok {x : Str} (h : smT x) : PySem.PyData.strOk x = true := by
  unfold PySem.PyData.strOk
  rw [← Array.all_toList, List.all_eq_true]
  intro c hc
  have := h c hc
  simp
  omega
theorem sm_app {a b : Str} (ha : smT a) (hb : smT b) : smT (a ++ b) := fun c m => by
  rw [TL.tl_append, List.mem_append] at m
  exact m.elim (ha c) (hb c)
theorem sm_nm {x : Str} (h : nmS x = true) : smT x := fun c m => by have := nm_abc h c m; omega
theorem sm_sum {s : List Pr} (ok : ∀ q ∈ s, q.ok) : smT (sumT s) := fun c m => by
  have := sumT_ok ok c m
  simp only [okc, decide_eq_true_eq] at this
  omega
theorem sm_lit (s : String) (h : ∀ c ∈ s.toList.map Char.toNat, c < 1114112) : smT (Str.ofString s) := fun c m => by
  rw [TL.tl_ofString] at m
  exact h c m
theorem sm_row : ∀ (r : Row), r.ok → smT (rowT r)
  | .set x s, ok => sm_app (sm_app (sm_nm ok.1) (sm_lit _ (by decide))) (sm_sum ok.2)
  | .drp x, ok => sm_app (sm_app (sm_lit _ (by decide)) (sm_lit _ (by decide))) (sm_nm ok)
  | .sho s, ok => sm_app (sm_app (sm_lit _ (by decide)) (sm_lit _ (by decide))) (sm_sum ok)
  | .ifr s r, ok => sm_app (sm_app (sm_app (sm_lit _ (by decide)) (sm_sum ok.1)) (sm_lit _ (by decide))) (sm_row r ok.2.2)
theorem sm_join {y : Str} (hy : smT y) : ∀ ws : List Str, (∀ w ∈ ws, smT w) → smT (Txt.join y ws)
  | [], _ => by rw [TL.join_eq]; intro c m; cases m
  | [a], h => by rw [TL.join_eq]; exact h a (.head _)
  | a :: b :: r, h => by
    have ih := sm_join hy (b :: r) fun w m => h w (.tail _ m)
    rw [TL.join_eq] at ih ⊢
    show smT (a ++ y ++ Str.join y (b :: r))
    exact sm_app (sm_app (h a (.head _)) hy) ih
theorem sm_cell {rs : List Row} (ok : ∀ r ∈ rs, r.ok) : PySem.PyData.strOk (cellT rs) = true :=
  sm_ok (sm_join (sm_lit "\n" (by decide)) _ fun w m => by
    obtain ⟨r, mr, rfl⟩ := List.mem_map.mp m
    exact sm_row r (ok r mr))
/-- texts are alike just where rows are -/
theorem txt_rows {rs ts : List Row} (C1 : CellOk rs) (C2 : CellOk ts) : (cellT rs == cellT ts) = dEq (rowsD rs) (rowsD ts) := by
  have f : cellT rs = cellT ts → rowsD rs = rowsD ts := fun e => by
    have e1 := rows_in_ok C1.rows []
    have e2 := rows_in_ok C2.rows []
    rw [e, e2] at e1
    simp only [Res.ok.injEq, RV.v.injEq, AV.d.injEq] at e1
    exact e1.1.symm
  have g : rowsD rs = rowsD ts → cellT rs = cellT ts := fun e => by
    have e1 := text_ok C1.rows []
    have e2 := text_ok C2.rows []
    rw [e, e2] at e1
    simp only [Res.ok.injEq, dS, RV.v.injEq, AV.d.injEq, D.str.injEq] at e1
    exact e1.1.symm
  have p1 := pl_rows (rs := rs) fun r m => (C1.ok r m).ok
  have p2 := pl_rows (rs := ts) fun r m => (C2.ok r m).ok
  by_cases h : cellT rs = cellT ts
  · rw [f h, dEq_self (pl_ok _ p2), h]; simp
  · have : dEq (rowsD rs) (rowsD ts) = false := by
      cases q : dEq (rowsD rs) (rowsD ts) with
      | false => rfl
      | true => exact absurd (g (dEq_pl _ _ p1 p2 q)) h
    rw [this]; simpa using h
/-! the special methods of a cell -/
theorem cellD_v (t : Str) (rs : List Row) : (cellD t rs).vw = Vw.ins 1 [("rows", .d (rowsD rs)), ("text", .d (.str t))] := Option.some.inj (cellD_vw t rs [])
theorem cell_eq {rs ts : List Row} (C1 : CellOk rs) (C2 : CellOk ts) (h : Hs) : f_Cell___eq__ [.d (cellD (cellT rs) rs), .d (cellD (cellT ts) ts)] h = .ok (db (cellT rs == cellT ts)) h := by
  have c1 := Cm_str (sm_cell fun r m => (C1.ok r m).ok)
  have c2 := Cm_str (sm_cell fun r m => (C2.ok r m).ok)
  have q := eqO_d (h := h) c1 c2
  rw [dEq_str] at q
  have v1 := cellD_v (cellT rs) rs
  have v2 := cellD_v (cellT ts) ts
  have n1 : ¬ Str.ofString "rows" = Str.ofString "text" := by decide +kernel
  have n2 : (Str.ofString "text" == Str.ofString "rows") = false := by decide +kernel
  unfold f_Cell___eq__ Mp.run
  rw [f_Cell___eq___b]
  simp [evSs, evS, evE, evB, List.replicate, v1, v2, Vw.ty, tyAny, tyIs, n1, n2, List.lookup, q, Res.st]
theorem cell_str {rs : List Row} (C : CellOk rs) (h : Hs) : f_Cell___str__ [.d (cellD (cellT rs) rs)] h = .ok (dS (cellT rs)) h := by
  have v1 := cellD_v (cellT rs) rs
  have n2 : (Str.ofString "text" == Str.ofString "rows") = false := by decide +kernel
  have b0 : (4000 : Nat) ≤ sizeLine := by decide
  have cl := cell_len C.rows h
  have le : (cellT rs).length ≤ sizeLine := by omega
  unfold f_Cell___str__ Mp.run
  rw [f_Cell___str___b]
  simp [evSs, evS, evE, evJ, fsA, List.replicate, v1, n2, List.lookup, le, empty_app, Res.st]
end K


set_option Elab.async false
set_option linter.all false
set_option maxRecDepth 100000
namespace K
open PySem PySem.Spec PyProof.Rows L2 Mp
theorem cutA_map {α β : Type} (f : α → β) (l : List α) (lo hi : Option Int) : cutA (l.map f) lo hi = (cutA l lo hi).map f := by
  simp [cutA, List.map_drop, List.map_take]
theorem cutA_len {α : Type} (l : List α) (lo hi : Option Int) : (cutA l lo hi).length ≤ l.length := by
  simp only [cutA, List.length_take, List.length_drop]; omega
theorem cutA_mem {α : Type} {l : List α} {lo hi : Option Int} {x : α} (m : x ∈ cutA l lo hi) : x ∈ l := List.drop_subset _ _ (List.take_subset _ _ m)
theorem cutA_to {α : Type} (l : List α) (k : Nat) : (cutA l none (some (k : Int))).length ≤ k := by
  simp only [cutA, HT.sIx_none, HT.sIx_nat, List.length_take, List.length_drop]; omega
theorem rowsD_vw (h : Hs) (rs : List Row) : (AV.d (rowsD rs)).vw h = some (.tup (rs.map fun r => .d (rowD r))) := by
  simp [rowsD, Function.comp_def]
theorem mk_rows (rs : List Row) : mkTup (rs.map fun r => AV.d (rowD r)) = .d (rowsD rs) := mkTup_of (toDs_fn rowD rs)
theorem sl_rows {F : Fn} {S : List SV} {h h1 h2 h3 : Hs} {e : ME} {lo hi : Option ME} {l u : Option Int} {rs : List Row} (ea : evE F e S h = .ok (.v (.d (rowsD rs))) h1) (el : evO F lo S h1 = .ok l h2) (eh : evO F hi S h2 = .ok u h3) :
    evE F (.slc e lo hi) S h = .ok (.v (.d (rowsD (cutA rs l u)))) h3 := by
  have v := rowsD_vw h3 rs
  rw [evE, ea]
  simp only [Res.bind_ok, ho1_v, el, eh, vw_v, v, Option.bind_some, slO_tup, cutA_map, mk_rows, ok1_some]
theorem add_rows {F : Fn} {S : List SV} {h h1 h2 : Hs} {a b : ME} {rs ts : List Row} (ea : evE F a S h = .ok (.v (.d (rowsD rs))) h1) (eb : evE F b S h1 = .ok (.v (.d (rowsD ts))) h2) (hl : rs.length + ts.length ≤ 1000) :
    evE F (.bin .Add a b) S h = .ok (.v (.d (rowsD (rs ++ ts)))) h2 := by
  have b0 : (1000 : Nat) ≤ sizeLine := by decide
  have v1 := rowsD_vw h2 rs
  have v2 := rowsD_vw h2 ts
  have le : rs.length + ts.length ≤ sizeLine := by omega
  rw [evE, ea]
  simp only [Res.bind_ok, ho1_v, eb, binO_eq, vw_v, v1, v2, Option.bind_some]
  have : bop .Add (.tup (rs.map fun r => AV.d (rowD r))) (.tup (ts.map fun r => AV.d (rowD r))) = some (.v (.d (rowsD (rs ++ ts)))) := by
    simp only [bop, List.length_map, le, if_true, ← List.map_append, mk_rows]
  rw [this]; rfl
theorem evO_i {F : Fn} {S : List SV} {h : Hs} {e : ME} {i : Int} (he : evE F e S h = .ok (di i) h) : evO F (some e) S h = .ok (some i) h := by
  rw [evO, he]; rfl
theorem rev_rows {F : Fn} {S : List SV} {h h1 : Hs} {e : ME} {rs : List Row} (ea : evE F e S h = .ok (.v (.d (rowsD rs))) h1) : evE F (.rev e) S h = .ok (.v (.d (rowsD rs.reverse))) h1 := by
  have v := rowsD_vw h1 rs
  rw [evE, ea]
  simp only [Res.bind_ok, vw_v, v, ← List.map_reverse, mk_rows]
/-- one row taken out, put in, two exchanged -/
theorem others_B {h : Hs} {a : Nat} (hB : B a h) {rs : List Row} (C : CellOk rs) : ∃ (qs : List Row) (g : Hs), f_l_others [.r a, .d (rowsD rs)] h = .ok (.v (.d (rowsD qs))) g ∧ (∀ r ∈ qs, RwOk r) ∧ qs.length ≤ 6 ∧ B a g := by
  have ne : 0 < rs.length := List.length_pos_iff.mpr C.ne
  have le := C.le
  obtain ⟨t, g1, e1, t0, t1, B1⟩ := take_B hB (rs.length : Int) (by omega) (by omega)
  obtain ⟨ts, g2, e2, k2, n2, l2, B2⟩ := wide_rows_B B1
  obtain ⟨j, g3, e3, j0, j1, B3⟩ := take_B B2 6 (by decide) (by decide)
  have b0 : (1000 : Nat) ≤ sizeLine := by decide
  have s2 : evS f_l_others_E (.asg (.nm 2) (.cal 1 [.var 0, .blt .len [.var 1]])) [.v (.r a), .v (.d (rowsD rs)), .no, .no, .no] h = .nx [.v (.r a), .v (.d (rowsD rs)), .v (.d (.int t)), .no, .no] g1 := by
    have v := rowsD_vw h rs
    have e : evE f_l_others_E (.blt .len [.var 1]) [.v (.r a), .v (.d (rowsD rs)), .no, .no, .no] h = .ok (di (rs.length : Int)) h := by
      simp [evE, evR, bltO, v, lenO]
    rw [evS, evE, evL, evE]
    simp only [List.getElem?_cons_zero, Res.bind_ok, toV1_v]
    rw [evL, e]
    simp only [Res.bind_ok, evL]
    have e1' : f_l_others_E.fn 1 [.r a, .d (.int (rs.length : Int))] h = .ok (di t) g1 := e1
    simp [di, e1, Res.st]
  let M := cutA ts none (some 1)
  have lM : M.length ≤ 1 := cutA_to ts 1
  have s3 : evS f_l_others_E (.asg (.nm 3) (.slc (.cal 23 [.var 0]) none (some (.cst (.int 1))))) [.v (.r a), .v (.d (rowsD rs)), .v (.d (.int t)), .no, .no] g1 = .nx [.v (.r a), .v (.d (rowsD rs)), .v (.d (.int t)), .v (.d (rowsD M)), .no] g2 := by
    have c : evE f_l_others_E (.cal 23 [.var 0]) [.v (.r a), .v (.d (rowsD rs)), .v (.d (.int t)), .no, .no] g1 = .ok (.v (.d (rowsD ts))) g2 := by
      simp [evE, evL, e2]
    have s := sl_rows c (lo := none) (hi := some (.cst (.int 1))) (by rw [evO]) (evO_i (i := 1) (by rw [evE]))
    rw [evS, s]
    simp [Res.st, M]
  -- the four
  have v1 : ∀ x4 g, evE f_l_others_E (.var 1) [.v (.r a), .v (.d (rowsD rs)), .v (.d (.int t)), .v (.d (rowsD M)), x4] g = .ok (.v (.d (rowsD rs))) g := fun x4 g => by simp [evE]
  have v3 : ∀ x4 g, evE f_l_others_E (.var 3) [.v (.r a), .v (.d (rowsD rs)), .v (.d (.int t)), .v (.d (rowsD M)), x4] g = .ok (.v (.d (rowsD M))) g := fun x4 g => by simp [evE]
  have o2 : ∀ x4 g, evO f_l_others_E (some (.var 2)) [.v (.r a), .v (.d (rowsD rs)), .v (.d (.int t)), .v (.d (rowsD M)), x4] g = .ok (some t) g := fun x4 g => evO_i (by simp [evE, di])
  have o3 : ∀ x4 g, evO f_l_others_E (some (.bin .Add (.var 2) (.cst (.int 1)))) [.v (.r a), .v (.d (rowsD rs)), .v (.d (.int t)), .v (.d (rowsD M)), x4] g = .ok (some (t + 1)) g := fun x4 g => evO_i (by simp [evE, binO_eq, di])
  have on : ∀ x4 g, evO f_l_others_E none [.v (.r a), .v (.d (rowsD rs)), .v (.d (.int t)), .v (.d (rowsD M)), x4] g = .ok none g := fun x4 g => by rw [evO]
  have cl := fun lo hi => cutA_len rs lo hi
  have q1 := add_rows (sl_rows (v1 .no g2) (on _ _) (o2 _ _)) (sl_rows (v1 .no g2) (o3 _ _) (on _ _)) (by have := cl none (some t); have := cl (some (t + 1)) none; omega)
  have q2 := add_rows (add_rows (sl_rows (v1 .no g2) (on _ _) (o2 _ _)) (v3 .no g2) (by have := cl none (some t); omega)) (sl_rows (v1 .no g2) (o2 _ _) (on _ _)) (by rw [List.length_append]; have := cl none (some t); have := cl (some t) none; omega)
  have q3 := rev_rows (v1 .no g2)
  have q4 := add_rows (sl_rows (v1 .no g2) (o2 _ _) (on _ _)) (sl_rows (v1 .no g2) (on _ _) (o2 _ _)) (by have := cl none (some t); have := cl (some t) none; omega)
  generalize h1 : cutA rs none (some t) ++ cutA rs (some (t + 1)) none = A1 at q1
  generalize h2 : cutA rs none (some t) ++ M ++ cutA rs (some t) none = A2 at q2
  generalize h3 : rs.reverse = A3 at q3
  generalize h4 : cutA rs (some t) none ++ cutA rs none (some t) = A4 at q4
  have z4 : 4 ≤ sizeLine := by omega
  have z2 : 2 ≤ sizeLine := by omega
  have z6 : 6 ≤ sizeLine := by omega
  have s4 : evS f_l_others_E (.asg (.nm 4) (.lst [.bin .Add (.slc (.var 1) none (some (.var 2))) (.slc (.var 1) (some (.bin .Add (.var 2) (.cst (.int 1)))) none), .bin .Add (.bin .Add (.slc (.var 1) none (some (.var 2))) (.var 3)) (.slc (.var 1) (some (.var 2)) none), .rev (.var 1), .bin .Add (.slc (.var 1) (some (.var 2)) none) (.slc (.var 1) none (some (.var 2)))])) [.v (.r a), .v (.d (rowsD rs)), .v (.d (.int t)), .v (.d (rowsD M)), .no] g2 = .nx [.v (.r a), .v (.d (rowsD rs)), .v (.d (.int t)), .v (.d (rowsD M)), .v (.d (.lst [rowsD A1, rowsD A2, rowsD A3, rowsD A4]))] g2 := by
    have fz : (Cell.lst [AV.d (rowsD A1), .d (rowsD A2), .d (rowsD A3), .d (rowsD A4)]).frz = some (.d (.lst [rowsD A1, rowsD A2, rowsD A3, rowsD A4])) := rfl
    rw [evS, evE, evL, q1]
    simp only [Res.bind_ok, toV1_v]
    rw [evL, q2]
    simp only [Res.bind_ok, toV1_v]
    rw [evL, q3]
    simp only [Res.bind_ok, toV1_v]
    rw [evL, q4]
    simp only [Res.bind_ok, toV1_v, evL, List.length_cons, List.length_nil, z4, if_true, Res.st_ok, toV1_f, fz, ok1_some, evG_nm, List.set_cons_succ, List.set_cons_zero]
  have q5 := add_rows (sl_rows (v1 (.v (.d (.lst [rowsD A1, rowsD A2, rowsD A3, rowsD A4]))) g2) (on _ _) (o3 _ _)) (sl_rows (v1 (.v (.d (.lst [rowsD A1, rowsD A2, rowsD A3, rowsD A4]))) g2) (o2 _ _) (on _ _)) (by have := cl none (some (t + 1)); have := cl (some t) none; omega)
  have q6 := v1 (.v (.d (.lst [rowsD A1, rowsD A2, rowsD A3, rowsD A4]))) g2
  generalize h5 : cutA rs none (some (t + 1)) ++ cutA rs (some t) none = A5 at q5
  have mem : ∀ qs : List Row, (qs = A1 ∨ qs = A2 ∨ qs = A3 ∨ qs = A4 ∨ qs = A5 ∨ qs = rs) → ∀ r ∈ qs, RwOk r := by
    have base : ∀ lo hi, ∀ r ∈ cutA rs lo hi, RwOk r := fun lo hi r m => C.ok r (cutA_mem m)
    have bM : ∀ r ∈ M, RwOk r := fun r m => k2 r (cutA_mem m)
    rintro qs (rfl | rfl | rfl | rfl | rfl | rfl) r m
    · rw [← h1] at m
      rcases List.mem_append.mp m with m | m <;> exact base _ _ r m
    · rw [← h2] at m
      rcases List.mem_append.mp m with m | m
      · rcases List.mem_append.mp m with m | m
        · exact base _ _ r m
        · exact bM r m
      · exact base _ _ r m
    · rw [← h3] at m
      exact C.ok r (List.mem_reverse.mp m)
    · rw [← h4] at m
      rcases List.mem_append.mp m with m | m <;> exact base _ _ r m
    · rw [← h5] at m
      rcases List.mem_append.mp m with m | m <;> exact base _ _ r m
    · exact C.ok r m
  obtain ⟨qs, hq, mq⟩ : ∃ qs : List Row, atI [AV.d (rowsD A1), .d (rowsD A2), .d (rowsD A3), .d (rowsD A4), .d (rowsD A5), .d (rowsD rs)] j = some (.d (rowsD qs)) ∧ (qs = A1 ∨ qs = A2 ∨ qs = A3 ∨ qs = A4 ∨ qs = A5 ∨ qs = rs) := by
    have : j = 0 ∨ j = 1 ∨ j = 2 ∨ j = 3 ∨ j = 4 ∨ j = 5 := by omega
    rcases this with rfl | rfl | rfl | rfl | rfl | rfl
    · exact ⟨A1, rfl, by simp⟩
    · exact ⟨A2, rfl, by simp⟩
    · exact ⟨A3, rfl, by simp⟩
    · exact ⟨A4, rfl, by simp⟩
    · exact ⟨A5, rfl, by simp⟩
    · exact ⟨rs, rfl, by simp⟩
  refine ⟨cutA qs none (some 6), g3, ?_, fun r m => mem qs mq r (cutA_mem m), cutA_to qs 6, B3⟩
  have big : evE f_l_others_E (.sub (.bin .Add (.var 4) (.lst [.bin .Add (.slc (.var 1) none (some (.bin .Add (.var 2) (.cst (.int 1))))) (.slc (.var 1) (some (.var 2)) none), .var 1])) (.cal 1 [.var 0, .cst (.int 6)])) [.v (.r a), .v (.d (rowsD rs)), .v (.d (.int t)), .v (.d (rowsD M)), .v (.d (.lst [rowsD A1, rowsD A2, rowsD A3, rowsD A4]))] g2 = .ok (.v (.d (rowsD qs))) g3 := by
    have l1 : evE f_l_others_E (.lst [.bin .Add (.slc (.var 1) none (some (.bin .Add (.var 2) (.cst (.int 1))))) (.slc (.var 1) (some (.var 2)) none), .var 1]) [.v (.r a), .v (.d (rowsD rs)), .v (.d (.int t)), .v (.d (rowsD M)), .v (.d (.lst [rowsD A1, rowsD A2, rowsD A3, rowsD A4]))] g2 = .ok (.f (.lst [.d (rowsD A5), .d (rowsD rs)])) g2 := by
      rw [evE, evL, q5]
      simp only [Res.bind_ok, toV1_v]
      rw [evL, q6]
      simp only [Res.bind_ok, toV1_v, evL, List.length_cons, List.length_nil, z2, if_true]
    have v4 : evE f_l_others_E (.var 4) [.v (.r a), .v (.d (rowsD rs)), .v (.d (.int t)), .v (.d (rowsD M)), .v (.d (.lst [rowsD A1, rowsD A2, rowsD A3, rowsD A4]))] g2 = .ok (.v (.d (.lst [rowsD A1, rowsD A2, rowsD A3, rowsD A4]))) g2 := by simp [evE]
    have ad : evE f_l_others_E (.bin .Add (.var 4) (.lst [.bin .Add (.slc (.var 1) none (some (.bin .Add (.var 2) (.cst (.int 1))))) (.slc (.var 1) (some (.var 2)) none), .var 1])) [.v (.r a), .v (.d (rowsD rs)), .v (.d (.int t)), .v (.d (rowsD M)), .v (.d (.lst [rowsD A1, rowsD A2, rowsD A3, rowsD A4]))] g2 = .ok (.f (.lst [.d (rowsD A1), .d (rowsD A2), .d (rowsD A3), .d (rowsD A4), .d (rowsD A5), .d (rowsD rs)])) g2 := by
      rw [evE, v4]
      simp only [Res.bind_ok, ho1_v, l1, binO_eq, vw_v, AV.vw, D.vw, vw_f, cvw_lst, Option.bind_some, bop, List.length_cons, List.length_nil, List.length_map, List.map_cons, List.map_nil, z6, if_true, List.cons_append, List.nil_append, ok1_some]
    have tk : evE f_l_others_E (.cal 1 [.var 0, .cst (.int 6)]) [.v (.r a), .v (.d (rowsD rs)), .v (.d (.int t)), .v (.d (rowsD M)), .v (.d (.lst [rowsD A1, rowsD A2, rowsD A3, rowsD A4]))] g2 = .ok (di j) g3 := by
      simp [evE, evL, e3]
    have fz : (Cell.lst [AV.d (rowsD A1), .d (rowsD A2), .d (rowsD A3), .d (rowsD A4), .d (rowsD A5), .d (rowsD rs)]).frz = some (.d (.lst [rowsD A1, rowsD A2, rowsD A3, rowsD A4, rowsD A5, rowsD rs])) := rfl
    rw [evE, ad]
    simp only [Res.bind_ok, ho1_f, fz, Option.map_some, ok1_some, tk, subO_eq, vw_v, AV.vw, D.vw, Option.bind_some, List.map_cons, List.map_nil, di, ixV_lst, hq]
  have last := sl_rows big (lo := none) (hi := some (.cst (.int 6))) (by rw [evO]) (evO_i (i := 6) (by rw [evE]))
  unfold f_l_others Mp.run
  rw [f_l_others_b]
  simp only [List.map_cons, List.map_nil, List.length_cons, List.length_nil, List.replicate, List.cons_append, List.nil_append, evSs, s2, s3, s4]
  rw [evS, last]
  simp [Res.st]
end K


set_option Elab.async false
set_option linter.all false
set_option maxRecDepth 100000
namespace K
open PySem PySem.Spec PyProof.Rows L2 Mp
def f_law_13_p0 : List MS := [.ife (.cmp .NotEq (.var 7) (.tup [])) [.owM 3 .append [.tup [.var 7, .mk 1 [.cal 26 [.var 7]]]]] []]
def f_law_13_p1 : List MS := [.asg (.nm 6) (.cal 23 [.var 2]), .for_ (.nm 7) (.seq (.lst [.var 6, .cal 70 [.var 2, .var 6], .cal 70 [.var 2, .var 6]])) f_law_13_p0]
def f_law_13_e2 : ME := .tup [.cal 62 [.var 8], .cal 63 [.var 8]]
def f_law_13_e3 : ME := .cal 25 [.var 11]
def f_law_13_e4 : ME := .cmp .Eq (.spc 0 75 1 [.var 8, .var 10]) (.cmp .Eq (.var 7) (.var 9))
def f_law_13_p5 : List MS := [.ife (.bop false [.cmp .NotEq (.fld [1] (.var 8) "rows") (.var 7), .val (.spc 1 75 1 [.var 8, .mk 1 [.met .join (.cst (.str "\n")) [.lcm f_law_13_e3 (.nm 11) (.seq (.var 7)) none [11]]]])]) [.ret (.cst (.bl false))] [], .ife (.nt (.val (.blt .all [.lcm f_law_13_e4 (.tp [.nm 9, .nm 10]) (.seq (.var 3)) none [9, 10]]))) [.ret (.cst (.bl false))] []]
def f_law_13_e6 : ME := .tup [.cal 62 [.var 8], .cal 63 [.var 8]]
def f_law_13_p7 : List MS := [.asg (.nm 2) (.cel (.cal 0 [.var 0, .var 1])), .asO 3 (.lst []), .for_ (.nm 4) (.rng [.cst (.int 6)]) f_law_13_p1, .gfz 3, .asg (.nm 5) (.lcm f_law_13_e2 (.tp [.nm 7, .nm 8]) (.seq (.var 3)) none [7, 8]), .for_ (.tp [.nm 7, .nm 8]) (.seq (.var 3)) f_law_13_p5, .ife (.cmp .NotEq (.var 5) (.lcm f_law_13_e6 (.tp [.nm 7, .nm 8]) (.seq (.var 3)) none [7, 8])) [.ret (.cst (.bl false))] []]
def f_law_13_b : List MS := [.for_ (.nm 1) (.rng [.blt .max2 [.cst (.int 2), .blt .min2 [.cst (.int 5), .blt .len [.var 0]]]]) f_law_13_p7, .ret (.bop true [.spc 1 75 1 [.mk 1 [.cst (.str "show a")], .mk 1 [.cst (.str "show b")]], .cmp .Eq (.spc 3 76 1 [.mk 1 [.cst (.str "show - a * 2")]]) (.cst (.str "show - a * 2"))])]
noncomputable def f_law_13_E : Fn := mkF gcv [(0, f_l_bag), (23, f_l_wide_rows), (70, f_l_others), (26, f_l_text), (62, f_may_read), (63, f_may_set), (25, f_l_row_text)] [(1, f_Cell_new)] [(75, f_Cell___eq__), (76, f_Cell___str__)]
/-- law: 0 _law_script, 1 _law_k, 2 _law_bag_here, 3 _law_held, 4 _law_turn, 5 _law_told, 6 _law_rows, 7 _law_some, 8 _law_one, 9 _law_others_here, 10 _law_other, 11 _law_row -/
noncomputable def f_law_13 : Worth := run f_law_13_E 12 f_law_13_b
@[simp] theorem f_law_13_E_0 : f_law_13_E.fn 0 = f_l_bag := rfl
@[simp] theorem f_law_13_E_23 : f_law_13_E.fn 23 = f_l_wide_rows := rfl
@[simp] theorem f_law_13_E_70 : f_law_13_E.fn 70 = f_l_others := rfl
@[simp] theorem f_law_13_E_26 : f_law_13_E.fn 26 = f_l_text := rfl
@[simp] theorem f_law_13_E_62 : f_law_13_E.fn 62 = f_may_read := rfl
@[simp] theorem f_law_13_E_63 : f_law_13_E.fn 63 = f_may_set := rfl
@[simp] theorem f_law_13_E_25 : f_law_13_E.fn 25 = f_l_row_text := rfl
@[simp] theorem f_law_13_E_i1 : f_law_13_E.ini 1 = f_Cell_new := rfl
@[simp] theorem f_law_13_E_m75 : f_law_13_E.mth 75 = f_Cell___eq__ := rfl
@[simp] theorem f_law_13_E_m76 : f_law_13_E.mth 76 = f_Cell___str__ := rfl
/-! ### the walk -/
def top (i : Nat) : Stmt := PySem.Challenge.pw_freshcells_k08_texts_and_rows.main.body.getD i (.Pass ⟨0, 0, 0, 0⟩)
def gcN : List (Nat × Str) := [(1, "MOST_ATOMS"), (2, "SIGNS"), (3, "MOST_SIGNS"), (4, "WORDS"), (5, "LETTERS"), (6, "MOST_ROWS")]
def blN : List Str := ["abs", "all", "enumerate", "int", "isinstance", "len", "max", "min", "range", "set", "sorted", "str", "tuple", "zip"]
def flN : List (Nat × Str) := [(1, "rows"), (1, "text")]
theorem sc_0 : FnScope ["_law_script", "_law_at", "_law_cell", "_law_great", "_law_primes", "_law_mixed"] ["_law_script", "_law_at"] (defScope (top 30)) := ⟨rfl, rfl, rfl, by decide +kernel, rfl, by decide +kernel, by decide +kernel⟩
theorem mt_0 : mSs ⟨[], gcN, blN, [], [], flN⟩ ["_law_script", "_law_at", "_law_cell", "_law_great", "_law_primes", "_law_mixed"] (defScope (top 30)).names f_l_bag_b (defBody (top 30)) = true := by decide +kernel
theorem sc_1 : FnScope ["_law_bag_here", "_law_many", "_law_digit"] ["_law_bag_here", "_law_many"] (defScope (top 24)) := ⟨rfl, rfl, rfl, by decide +kernel, rfl, by decide +kernel, by decide +kernel⟩
theorem mt_1 : mSs ⟨[], gcN, blN, [], [], flN⟩ ["_law_bag_here", "_law_many", "_law_digit"] (defScope (top 24)).names f_l_take_b (defBody (top 24)) = true := by decide +kernel
theorem sc_2 : FnScope ["_law_bag_here", "_law_letters", "_law_found", "_law_turn"] ["_law_bag_here"] (defScope (top 26)) := ⟨rfl, rfl, rfl, by decide +kernel, rfl, by decide +kernel, by decide +kernel⟩
theorem mt_2 : mSs ⟨[(1, "_law_take", 2)], gcN, blN, [], [], flN⟩ ["_law_bag_here", "_law_letters", "_law_found", "_law_turn"] (defScope (top 26)).names f_l_any_name_b (defBody (top 26)) = true := by decide +kernel
theorem sc_3 : FnScope [] [] (defScope (top 27)) := ⟨rfl, rfl, rfl, by decide +kernel, rfl, by decide +kernel, by decide +kernel⟩
theorem mt_3 : mSs ⟨[], gcN, blN, [], [], flN⟩ [] (defScope (top 27)).names f_l_names_b (defBody (top 27)) = true := by decide +kernel
theorem sc_4 : FnScope ["_law_bag_here", "_law_kind"] ["_law_bag_here"] (defScope (top 29)) := ⟨rfl, rfl, rfl, by decide +kernel, rfl, by decide +kernel, by decide +kernel⟩
theorem mt_4 : mSs ⟨[(1, "_law_take", 2), (2, "_law_any_name", 1), (3, "_law_names", 0)], gcN, blN, [], [], flN⟩ ["_law_bag_here", "_law_kind"] (defScope (top 29)).names f_l_wide_atom_b (defBody (top 29)) = true := by decide +kernel
theorem sc_5 : FnScope ["_law_bag_here", "_law_left", "_law_found", "_law_many", "_law_pairs", "_law_more"] ["_law_bag_here"] (defScope (top 28)) := ⟨rfl, rfl, rfl, by decide +kernel, rfl, by decide +kernel, by decide +kernel⟩
theorem mt_5 : mSs ⟨[(1, "_law_take", 2), (4, "_law_wide_atom", 1)], gcN, blN, [], [], flN⟩ ["_law_bag_here", "_law_left", "_law_found", "_law_many", "_law_pairs", "_law_more"] (defScope (top 28)).names f_l_wide_sum_b (defBody (top 28)) = true := by decide +kernel
theorem sc_6 : FnScope ["_law_bag_here", "_law_found", "_law_turn", "_law_name", "_law_row"] ["_law_bag_here"] (defScope (top 25)) := ⟨rfl, rfl, rfl, by decide +kernel, rfl, by decide +kernel, by decide +kernel⟩
theorem mt_6 : mSs ⟨[(1, "_law_take", 2), (2, "_law_any_name", 1), (3, "_law_names", 0), (5, "_law_wide_sum", 1)], gcN, blN, [], [], flN⟩ ["_law_bag_here", "_law_found", "_law_turn", "_law_name", "_law_row"] (defScope (top 25)).names f_l_wide_rows_b (defBody (top 25)) = true := by decide +kernel
theorem sc_7 : FnScope ["_law_bag_here", "_law_rows", "_law_at", "_law_more", "_law_some"] ["_law_bag_here", "_law_rows"] (defScope (top 34)) := ⟨rfl, rfl, rfl, by decide +kernel, rfl, by decide +kernel, by decide +kernel⟩
theorem mt_7 : mSs ⟨[(1, "_law_take", 2), (23, "_law_wide_rows", 1)], gcN, blN, [], [], flN⟩ ["_law_bag_here", "_law_rows", "_law_at", "_law_more", "_law_some"] (defScope (top 34)).names f_l_others_b (defBody (top 34)) = true := by decide +kernel
theorem sc_8 : FnScope ["thing", "sign"] ["thing"] (defScope (top 10)) := ⟨rfl, rfl, rfl, by decide +kernel, rfl, by decide +kernel, by decide +kernel⟩
theorem mt_8 : mSs ⟨[], gcN, blN, [], [], flN⟩ ["thing", "sign"] (defScope (top 10)).names f_is_name_b (defBody (top 10)) = true := by decide +kernel
theorem sc_9 : FnScope ["word", "sign"] ["word"] (defScope (top 11)) := ⟨rfl, rfl, rfl, by decide +kernel, rfl, by decide +kernel, by decide +kernel⟩
theorem mt_9 : mSs ⟨[(18, "is_name", 1)], gcN, blN, [], [], flN⟩ ["word", "sign"] (defScope (top 11)).names f_atom_in_b (defBody (top 11)) = true := by decide +kernel
theorem sc_10 : FnScope ["text", "words", "found", "word", "atom", "ahead", "sign", "first", "pairs"] ["text"] (defScope (top 12)) := ⟨rfl, rfl, rfl, by decide +kernel, rfl, by decide +kernel, by decide +kernel⟩
theorem mt_10 : mSs ⟨[(19, "atom_in", 1)], gcN, blN, [], [], flN⟩ ["text", "words", "found", "word", "atom", "ahead", "sign", "first", "pairs"] (defScope (top 12)).names f_read_sum_b (defBody (top 12)) = true := by decide +kernel
theorem sc_11 : FnScope ["text", "first", "blank", "rest", "name", "sign"] ["text"] (defScope (top 16)) := ⟨rfl, rfl, rfl, by decide +kernel, rfl, by decide +kernel, by decide +kernel⟩
theorem mt_11 : mSs ⟨[(20, "read_sum", 1), (18, "is_name", 1)], gcN, blN, [], [], flN⟩ ["text", "first", "blank", "rest", "name", "sign"] (defScope (top 16)).names f_plain_row_in_b (defBody (top 16)) = true := by decide +kernel
theorem sc_12 : FnScope ["text", "head", "sign", "rest"] ["text"] (defScope (top 17)) := ⟨rfl, rfl, rfl, by decide +kernel, rfl, by decide +kernel, by decide +kernel⟩
theorem mt_12 : mSs ⟨[(20, "read_sum", 1), (27, "plain_row_in", 1)], gcN, blN, [], [], flN⟩ ["text", "head", "sign", "rest"] (defScope (top 17)).names f_row_in_b (defBody (top 17)) = true := by decide +kernel
theorem sc_13 : FnScope ["text", "found", "place", "line"] ["text"] (defScope (top 18)) := ⟨rfl, rfl, rfl, by decide +kernel, rfl, by decide +kernel, by decide +kernel⟩
theorem mt_13 : mSs ⟨[(28, "row_in", 1)], gcN, blN, [], [], flN⟩ ["text", "found", "place", "line"] (defScope (top 18)).names f_rows_in_b (defBody (top 18)) = true := by decide +kernel
theorem sc_14 : FnScope ["self", "text"] ["self", "text"] (defScope (inClass (top 19) 0)) := ⟨rfl, rfl, rfl, by decide +kernel, rfl, by decide +kernel, by decide +kernel⟩
theorem mt_14 : mSs ⟨[(29, "rows_in", 1)], gcN, blN, [], [], flN⟩ ["self", "text"] (defScope (inClass (top 19) 0)).names f_Cell_new_b (defBody (inClass (top 19) 0)) = true := by decide +kernel
theorem sc_15 : FnScope ["_law_some", "_law_found", "_law_side", "_law_first", "_law_pairs", "_law_part", "_law_word", "_law_atom"] ["_law_some"] (defScope (top 33)) := ⟨rfl, rfl, rfl, by decide +kernel, rfl, by decide +kernel, by decide +kernel⟩
theorem mt_15 : mSs ⟨[], gcN, blN, [], [], flN⟩ ["_law_some", "_law_found", "_law_side", "_law_first", "_law_pairs", "_law_part", "_law_word", "_law_atom"] (defScope (top 33)).names f_l_sum_text_b (defBody (top 33)) = true := by decide +kernel
theorem sc_16 : FnScope ["_law_row"] ["_law_row"] (defScope (top 32)) := ⟨rfl, rfl, rfl, by decide +kernel, rfl, by decide +kernel, by decide +kernel⟩
theorem mt_16 : mSs ⟨[(25, "_law_row_text", 1), (24, "_law_sum_text", 1)], gcN, blN, [], [], flN⟩ ["_law_row"] (defScope (top 32)).names f_l_row_text_b (defBody (top 32)) = true := by decide +kernel
theorem sc_17 : FnScope ["_law_rows", "_law_row"] ["_law_rows"] (defScope (top 31)) := ⟨rfl, rfl, rfl, by decide +kernel, rfl, by decide +kernel, by decide +kernel⟩
theorem mt_17 : mSs ⟨[(25, "_law_row_text", 1)], gcN, blN, [], [], flN⟩ ["_law_rows", "_law_row"] (defScope (top 31)).names f_l_text_b (defBody (top 31)) = true := by decide +kernel
theorem sc_18 : FnScope ["some", "found", "sign", "first", "pairs", "atom", "pair"] ["some"] (defScope (top 13)) := ⟨rfl, rfl, rfl, by decide +kernel, rfl, by decide +kernel, by decide +kernel⟩
theorem mt_18 : mSs ⟨[], gcN, blN, [], [], flN⟩ ["some", "found", "sign", "first", "pairs", "atom", "pair"] (defScope (top 13)).names f_names_in_b (defBody (top 13)) = true := by decide +kernel
theorem sc_19 : FnScope ["row", "names", "given", "is_sure"] ["row"] (defScope (top 20)) := ⟨rfl, rfl, rfl, by decide +kernel, rfl, by decide +kernel, by decide +kernel⟩
theorem mt_19 : mSs ⟨[(61, "parts_of", 1), (60, "names_in", 1)], gcN, blN, [], [], flN⟩ ["row", "names", "given", "is_sure"] (defScope (top 20)).names f_parts_of_b (defBody (top 20)) = true := by decide +kernel
theorem sc_20 : FnScope ["cell", "found", "sure", "row", "name", "names", "given", "is_sure"] ["cell"] (defScope (top 21)) := ⟨rfl, rfl, rfl, by decide +kernel, rfl, by decide +kernel, by decide +kernel⟩
theorem mt_20 : mSs ⟨[(61, "parts_of", 1)], gcN, blN, [], [], flN⟩ ["cell", "found", "sure", "row", "name", "names", "given", "is_sure"] (defScope (top 21)).names f_may_read_b (defBody (top 21)) = true := by decide +kernel
theorem sc_21 : FnScope ["cell", "row", "name"] ["cell"] (defScope (top 22)) := ⟨rfl, rfl, rfl, by decide +kernel, rfl, by decide +kernel, by decide +kernel⟩
theorem mt_21 : mSs ⟨[(61, "parts_of", 1)], gcN, blN, [], [], flN⟩ ["cell", "row", "name"] (defScope (top 22)).names f_may_set_b (defBody (top 22)) = true := by decide +kernel
theorem sc_22 : FnScope ["self", "other"] ["self", "other"] (defScope (inClass (top 19) 2)) := ⟨rfl, rfl, rfl, by decide +kernel, rfl, by decide +kernel, by decide +kernel⟩
theorem mt_22 : mSs ⟨[], gcN, blN, [(1, "Cell", 1)], [], flN⟩ ["self", "other"] (defScope (inClass (top 19) 2)).names f_Cell___eq___b (defBody (inClass (top 19) 2)) = true := by decide +kernel
theorem sc_23 : FnScope ["self"] ["self"] (defScope (inClass (top 19) 3)) := ⟨rfl, rfl, rfl, by decide +kernel, rfl, by decide +kernel, by decide +kernel⟩
theorem mt_23 : mSs ⟨[], gcN, blN, [], [], flN⟩ ["self"] (defScope (inClass (top 19) 3)).names f_Cell___str___b (defBody (inClass (top 19) 3)) = true := by decide +kernel
theorem sc_24 : FnScope ["_law_script", "_law_k", "_law_bag_here", "_law_held", "_law_turn", "_law_told", "_law_rows", "_law_some", "_law_one", "_law_others_here", "_law_other", "_law_row"] ["_law_script"] (defScope (top 35)) := ⟨rfl, rfl, rfl, by decide +kernel, rfl, by decide +kernel, by decide +kernel⟩
theorem mt_24 : mSs ⟨[(0, "_law_bag", 2), (23, "_law_wide_rows", 1), (70, "_law_others", 2), (26, "_law_text", 1), (62, "may_read", 1), (63, "may_set", 1), (25, "_law_row_text", 1)], gcN, blN, [(1, "Cell", 1)], [(75, 1, "__eq__", 1), (76, 1, "__str__", 0)], flN⟩ ["_law_script", "_law_k", "_law_bag_here", "_law_held", "_law_turn", "_law_told", "_law_rows", "_law_some", "_law_one", "_law_others_here", "_law_other", "_law_row"] (defScope (top 35)).names f_law_13_b (defBody (top 35)) = true := by decide +kernel
section
variable {P : Program} {w : World} {K : PySem.W.Frag} {mg : Str → Option Value} {base : Heap} {cls : Nat → Addr}
theorem ok_0 {f : Addr} {fd : FuncData} (FF : L2.Fun K "_law_bag" "_law_bag" (top 30) f fd) (hm : mg "_law_bag" = some (.ref f))
    (hb : ∀ x ∈ blN, mg x = none) (hg : ∀ (j : Nat) x, gcN.lookup j = some x → ∃ u v, mg x = some u ∧ RelV v u ∧ ∀ H W, DR ⟨K, cls, P, w⟩ H W (gcv j) v) (hf : ∀ (c : Nat) a, (c, a) ∈ flN → Cls K (cls c) ∧ NoAttr K (cls c) a) :
    FnF cls P w K mg base 1 "_law_bag" 2 f_l_bag := by
  exact fnF_of (k := 0) FF hm (FF.binds (ps := ["_law_script", "_law_at"]) fun _ _ _ _ _ _ us hl => match us, hl with | [_, _], _ => rfl) sc_0 rfl (Fb.nil hb hg hf) mt_0
theorem ok_1 {f : Addr} {fd : FuncData} (FF : L2.Fun K "_law_take" "_law_take" (top 24) f fd) (hm : mg "_law_take" = some (.ref f))
    (hb : ∀ x ∈ blN, mg x = none) (hg : ∀ (j : Nat) x, gcN.lookup j = some x → ∃ u v, mg x = some u ∧ RelV v u ∧ ∀ H W, DR ⟨K, cls, P, w⟩ H W (gcv j) v) (hf : ∀ (c : Nat) a, (c, a) ∈ flN → Cls K (cls c) ∧ NoAttr K (cls c) a) :
    FnF cls P w K mg base 1 "_law_take" 2 f_l_take := by
  exact fnF_of (k := 0) FF hm (FF.binds (ps := ["_law_bag_here", "_law_many"]) fun _ _ _ _ _ _ us hl => match us, hl with | [_, _], _ => rfl) sc_1 rfl (Fb.nil hb hg hf) mt_1
theorem ok_2 {f : Addr} {fd : FuncData} (FF : L2.Fun K "_law_any_name" "_law_any_name" (top 26) f fd) (hm : mg "_law_any_name" = some (.ref f)) (h1 : FnF cls P w K mg base 1 "_law_take" 2 f_l_take)
    (hb : ∀ x ∈ blN, mg x = none) (hg : ∀ (j : Nat) x, gcN.lookup j = some x → ∃ u v, mg x = some u ∧ RelV v u ∧ ∀ H W, DR ⟨K, cls, P, w⟩ H W (gcv j) v) (hf : ∀ (c : Nat) a, (c, a) ∈ flN → Cls K (cls c) ∧ NoAttr K (cls c) a) :
    FnF cls P w K mg base 2 "_law_any_name" 1 f_l_any_name := by
  exact fnF_of (k := 1) FF hm (FF.binds (ps := ["_law_bag_here"]) fun _ _ _ _ _ _ us hl => match us, hl with | [_], _ => rfl) sc_2 rfl (Fb.cfn (h1.mono (by decide)) (Fb.nil hb hg hf)) mt_2
theorem ok_3 {f : Addr} {fd : FuncData} (FF : L2.Fun K "_law_names" "_law_names" (top 27) f fd) (hm : mg "_law_names" = some (.ref f))
    (hb : ∀ x ∈ blN, mg x = none) (hg : ∀ (j : Nat) x, gcN.lookup j = some x → ∃ u v, mg x = some u ∧ RelV v u ∧ ∀ H W, DR ⟨K, cls, P, w⟩ H W (gcv j) v) (hf : ∀ (c : Nat) a, (c, a) ∈ flN → Cls K (cls c) ∧ NoAttr K (cls c) a) :
    FnF cls P w K mg base 1 "_law_names" 0 f_l_names := by
  exact fnF_of (k := 0) FF hm (FF.binds (ps := []) fun _ _ _ _ _ _ us hl => match us, hl with | [], _ => rfl) sc_3 rfl (Fb.nil hb hg hf) mt_3
theorem ok_4 {f : Addr} {fd : FuncData} (FF : L2.Fun K "_law_wide_atom" "_law_wide_atom" (top 29) f fd) (hm : mg "_law_wide_atom" = some (.ref f)) (h1 : FnF cls P w K mg base 1 "_law_take" 2 f_l_take) (h2 : FnF cls P w K mg base 2 "_law_any_name" 1 f_l_any_name) (h3 : FnF cls P w K mg base 1 "_law_names" 0 f_l_names)
    (hb : ∀ x ∈ blN, mg x = none) (hg : ∀ (j : Nat) x, gcN.lookup j = some x → ∃ u v, mg x = some u ∧ RelV v u ∧ ∀ H W, DR ⟨K, cls, P, w⟩ H W (gcv j) v) (hf : ∀ (c : Nat) a, (c, a) ∈ flN → Cls K (cls c) ∧ NoAttr K (cls c) a) :
    FnF cls P w K mg base 3 "_law_wide_atom" 1 f_l_wide_atom := by
  exact fnF_of (k := 2) FF hm (FF.binds (ps := ["_law_bag_here"]) fun _ _ _ _ _ _ us hl => match us, hl with | [_], _ => rfl) sc_4 rfl (Fb.cfn (h1.mono (by decide)) (Fb.cfn (h2.mono (by decide)) (Fb.cfn (h3.mono (by decide)) (Fb.nil hb hg hf)))) mt_4
theorem ok_5 {f : Addr} {fd : FuncData} (FF : L2.Fun K "_law_wide_sum" "_law_wide_sum" (top 28) f fd) (hm : mg "_law_wide_sum" = some (.ref f)) (h1 : FnF cls P w K mg base 1 "_law_take" 2 f_l_take) (h4 : FnF cls P w K mg base 3 "_law_wide_atom" 1 f_l_wide_atom)
    (hb : ∀ x ∈ blN, mg x = none) (hg : ∀ (j : Nat) x, gcN.lookup j = some x → ∃ u v, mg x = some u ∧ RelV v u ∧ ∀ H W, DR ⟨K, cls, P, w⟩ H W (gcv j) v) (hf : ∀ (c : Nat) a, (c, a) ∈ flN → Cls K (cls c) ∧ NoAttr K (cls c) a) :
    FnF cls P w K mg base 4 "_law_wide_sum" 1 f_l_wide_sum := by
  exact fnF_of (k := 3) FF hm (FF.binds (ps := ["_law_bag_here"]) fun _ _ _ _ _ _ us hl => match us, hl with | [_], _ => rfl) sc_5 rfl (Fb.cfn (h1.mono (by decide)) (Fb.cfn (h4.mono (by decide)) (Fb.nil hb hg hf))) mt_5
theorem ok_6 {f : Addr} {fd : FuncData} (FF : L2.Fun K "_law_wide_rows" "_law_wide_rows" (top 25) f fd) (hm : mg "_law_wide_rows" = some (.ref f)) (h1 : FnF cls P w K mg base 1 "_law_take" 2 f_l_take) (h2 : FnF cls P w K mg base 2 "_law_any_name" 1 f_l_any_name) (h3 : FnF cls P w K mg base 1 "_law_names" 0 f_l_names) (h5 : FnF cls P w K mg base 4 "_law_wide_sum" 1 f_l_wide_sum)
    (hb : ∀ x ∈ blN, mg x = none) (hg : ∀ (j : Nat) x, gcN.lookup j = some x → ∃ u v, mg x = some u ∧ RelV v u ∧ ∀ H W, DR ⟨K, cls, P, w⟩ H W (gcv j) v) (hf : ∀ (c : Nat) a, (c, a) ∈ flN → Cls K (cls c) ∧ NoAttr K (cls c) a) :
    FnF cls P w K mg base 5 "_law_wide_rows" 1 f_l_wide_rows := by
  exact fnF_of (k := 4) FF hm (FF.binds (ps := ["_law_bag_here"]) fun _ _ _ _ _ _ us hl => match us, hl with | [_], _ => rfl) sc_6 rfl (Fb.cfn (h1.mono (by decide)) (Fb.cfn (h2.mono (by decide)) (Fb.cfn (h3.mono (by decide)) (Fb.cfn (h5.mono (by decide)) (Fb.nil hb hg hf))))) mt_6
theorem ok_7 {f : Addr} {fd : FuncData} (FF : L2.Fun K "_law_others" "_law_others" (top 34) f fd) (hm : mg "_law_others" = some (.ref f)) (h1 : FnF cls P w K mg base 1 "_law_take" 2 f_l_take) (h6 : FnF cls P w K mg base 5 "_law_wide_rows" 1 f_l_wide_rows)
    (hb : ∀ x ∈ blN, mg x = none) (hg : ∀ (j : Nat) x, gcN.lookup j = some x → ∃ u v, mg x = some u ∧ RelV v u ∧ ∀ H W, DR ⟨K, cls, P, w⟩ H W (gcv j) v) (hf : ∀ (c : Nat) a, (c, a) ∈ flN → Cls K (cls c) ∧ NoAttr K (cls c) a) :
    FnF cls P w K mg base 6 "_law_others" 2 f_l_others := by
  exact fnF_of (k := 5) FF hm (FF.binds (ps := ["_law_bag_here", "_law_rows"]) fun _ _ _ _ _ _ us hl => match us, hl with | [_, _], _ => rfl) sc_7 rfl (Fb.cfn (h1.mono (by decide)) (Fb.cfn (h6.mono (by decide)) (Fb.nil hb hg hf))) mt_7
theorem ok_8 {f : Addr} {fd : FuncData} (FF : L2.Fun K "is_name" "is_name" (top 10) f fd) (hm : mg "is_name" = some (.ref f))
    (hb : ∀ x ∈ blN, mg x = none) (hg : ∀ (j : Nat) x, gcN.lookup j = some x → ∃ u v, mg x = some u ∧ RelV v u ∧ ∀ H W, DR ⟨K, cls, P, w⟩ H W (gcv j) v) (hf : ∀ (c : Nat) a, (c, a) ∈ flN → Cls K (cls c) ∧ NoAttr K (cls c) a) :
    FnF cls P w K mg base 1 "is_name" 1 f_is_name := by
  exact fnF_of (k := 0) FF hm (FF.binds (ps := ["thing"]) fun _ _ _ _ _ _ us hl => match us, hl with | [_], _ => rfl) sc_8 rfl (Fb.nil hb hg hf) mt_8
theorem ok_9 {f : Addr} {fd : FuncData} (FF : L2.Fun K "atom_in" "atom_in" (top 11) f fd) (hm : mg "atom_in" = some (.ref f)) (h8 : FnF cls P w K mg base 1 "is_name" 1 f_is_name)
    (hb : ∀ x ∈ blN, mg x = none) (hg : ∀ (j : Nat) x, gcN.lookup j = some x → ∃ u v, mg x = some u ∧ RelV v u ∧ ∀ H W, DR ⟨K, cls, P, w⟩ H W (gcv j) v) (hf : ∀ (c : Nat) a, (c, a) ∈ flN → Cls K (cls c) ∧ NoAttr K (cls c) a) :
    FnF cls P w K mg base 2 "atom_in" 1 f_atom_in := by
  exact fnF_of (k := 1) FF hm (FF.binds (ps := ["word"]) fun _ _ _ _ _ _ us hl => match us, hl with | [_], _ => rfl) sc_9 rfl (Fb.cfn (h8.mono (by decide)) (Fb.nil hb hg hf)) mt_9
theorem ok_10 {f : Addr} {fd : FuncData} (FF : L2.Fun K "read_sum" "read_sum" (top 12) f fd) (hm : mg "read_sum" = some (.ref f)) (h9 : FnF cls P w K mg base 2 "atom_in" 1 f_atom_in)
    (hb : ∀ x ∈ blN, mg x = none) (hg : ∀ (j : Nat) x, gcN.lookup j = some x → ∃ u v, mg x = some u ∧ RelV v u ∧ ∀ H W, DR ⟨K, cls, P, w⟩ H W (gcv j) v) (hf : ∀ (c : Nat) a, (c, a) ∈ flN → Cls K (cls c) ∧ NoAttr K (cls c) a) :
    FnF cls P w K mg base 3 "read_sum" 1 f_read_sum := by
  exact fnF_of (k := 2) FF hm (FF.binds (ps := ["text"]) fun _ _ _ _ _ _ us hl => match us, hl with | [_], _ => rfl) sc_10 rfl (Fb.cfn (h9.mono (by decide)) (Fb.nil hb hg hf)) mt_10
theorem ok_11 {f : Addr} {fd : FuncData} (FF : L2.Fun K "plain_row_in" "plain_row_in" (top 16) f fd) (hm : mg "plain_row_in" = some (.ref f)) (h10 : FnF cls P w K mg base 3 "read_sum" 1 f_read_sum) (h8 : FnF cls P w K mg base 1 "is_name" 1 f_is_name)
    (hb : ∀ x ∈ blN, mg x = none) (hg : ∀ (j : Nat) x, gcN.lookup j = some x → ∃ u v, mg x = some u ∧ RelV v u ∧ ∀ H W, DR ⟨K, cls, P, w⟩ H W (gcv j) v) (hf : ∀ (c : Nat) a, (c, a) ∈ flN → Cls K (cls c) ∧ NoAttr K (cls c) a) :
    FnF cls P w K mg base 4 "plain_row_in" 1 f_plain_row_in := by
  exact fnF_of (k := 3) FF hm (FF.binds (ps := ["text"]) fun _ _ _ _ _ _ us hl => match us, hl with | [_], _ => rfl) sc_11 rfl (Fb.cfn (h10.mono (by decide)) (Fb.cfn (h8.mono (by decide)) (Fb.nil hb hg hf))) mt_11
theorem ok_12 {f : Addr} {fd : FuncData} (FF : L2.Fun K "row_in" "row_in" (top 17) f fd) (hm : mg "row_in" = some (.ref f)) (h10 : FnF cls P w K mg base 3 "read_sum" 1 f_read_sum) (h11 : FnF cls P w K mg base 4 "plain_row_in" 1 f_plain_row_in)
    (hb : ∀ x ∈ blN, mg x = none) (hg : ∀ (j : Nat) x, gcN.lookup j = some x → ∃ u v, mg x = some u ∧ RelV v u ∧ ∀ H W, DR ⟨K, cls, P, w⟩ H W (gcv j) v) (hf : ∀ (c : Nat) a, (c, a) ∈ flN → Cls K (cls c) ∧ NoAttr K (cls c) a) :
    FnF cls P w K mg base 5 "row_in" 1 f_row_in := by
  exact fnF_of (k := 4) FF hm (FF.binds (ps := ["text"]) fun _ _ _ _ _ _ us hl => match us, hl with | [_], _ => rfl) sc_12 rfl (Fb.cfn (h10.mono (by decide)) (Fb.cfn (h11.mono (by decide)) (Fb.nil hb hg hf))) mt_12
theorem ok_13 {f : Addr} {fd : FuncData} (FF : L2.Fun K "rows_in" "rows_in" (top 18) f fd) (hm : mg "rows_in" = some (.ref f)) (h12 : FnF cls P w K mg base 5 "row_in" 1 f_row_in)
    (hb : ∀ x ∈ blN, mg x = none) (hg : ∀ (j : Nat) x, gcN.lookup j = some x → ∃ u v, mg x = some u ∧ RelV v u ∧ ∀ H W, DR ⟨K, cls, P, w⟩ H W (gcv j) v) (hf : ∀ (c : Nat) a, (c, a) ∈ flN → Cls K (cls c) ∧ NoAttr K (cls c) a) :
    FnF cls P w K mg base 6 "rows_in" 1 f_rows_in := by
  exact fnF_of (k := 5) FF hm (FF.binds (ps := ["text"]) fun _ _ _ _ _ _ us hl => match us, hl with | [_], _ => rfl) sc_13 rfl (Fb.cfn (h12.mono (by decide)) (Fb.nil hb hg hf)) mt_13
theorem ok_14 {f : Addr} {fd : FuncData} (FF : L2.Fun K "__init__" "Cell.__init__" (inClass (top 19) 0) f fd) (hm : mg "Cell" = some (.ref (cls 1))) (M : Mk K (cls 1) f) (ci : Ci K (cls 1)) (h13 : FnF cls P w K mg base 6 "rows_in" 1 f_rows_in)
    (hb : ∀ x ∈ blN, mg x = none) (hg : ∀ (j : Nat) x, gcN.lookup j = some x → ∃ u v, mg x = some u ∧ RelV v u ∧ ∀ H W, DR ⟨K, cls, P, w⟩ H W (gcv j) v) (hf : ∀ (c : Nat) a, (c, a) ∈ flN → Cls K (cls c) ∧ NoAttr K (cls c) a) :
    MkF cls P w K mg base 7 1 "Cell" 1 f_Cell_new := by
  exact mkF_of (k := 6) FF hm M ci (FF.binds (ps := ["self", "text"]) fun _ _ _ _ _ _ us hl => match us, hl with | [_, _], _ => rfl) sc_14 rfl (Fb.cfn (h13.mono (by decide)) (Fb.nil hb hg hf)) (by decide) mt_14
theorem ok_15 {f : Addr} {fd : FuncData} (FF : L2.Fun K "_law_sum_text" "_law_sum_text" (top 33) f fd) (hm : mg "_law_sum_text" = some (.ref f))
    (hb : ∀ x ∈ blN, mg x = none) (hg : ∀ (j : Nat) x, gcN.lookup j = some x → ∃ u v, mg x = some u ∧ RelV v u ∧ ∀ H W, DR ⟨K, cls, P, w⟩ H W (gcv j) v) (hf : ∀ (c : Nat) a, (c, a) ∈ flN → Cls K (cls c) ∧ NoAttr K (cls c) a) :
    FnF cls P w K mg base 1 "_law_sum_text" 1 f_l_sum_text := by
  exact fnF_of (k := 0) FF hm (FF.binds (ps := ["_law_some"]) fun _ _ _ _ _ _ us hl => match us, hl with | [_], _ => rfl) sc_15 rfl (Fb.nil hb hg hf) mt_15
theorem ok_16 {f : Addr} {fd : FuncData} (FF : L2.Fun K "_law_row_text" "_law_row_text" (top 32) f fd) (hm : mg "_law_row_text" = some (.ref f)) (h15 : FnF cls P w K mg base 1 "_law_sum_text" 1 f_l_sum_text)
    (hb : ∀ x ∈ blN, mg x = none) (hg : ∀ (j : Nat) x, gcN.lookup j = some x → ∃ u v, mg x = some u ∧ RelV v u ∧ ∀ H W, DR ⟨K, cls, P, w⟩ H W (gcv j) v) (hf : ∀ (c : Nat) a, (c, a) ∈ flN → Cls K (cls c) ∧ NoAttr K (cls c) a) :
    FnF cls P w K mg base 4 "_law_row_text" 1 f_l_row_text := by
  exact fnF_rec (k := 1) (Ef := f_l_row_text_E) FF hm (FF.binds (ps := ["_law_row"]) fun _ _ _ _ _ _ us hl => match us, hl with | [_], _ => rfl) sc_16 rfl (fun v k' hk hv => Fb.cfn hv (Fb.cfn (h15.mono (Nat.le_trans (by decide : 1 ≤ 1) hk)) (Fb.nil hb hg hf))) mt_16 2
theorem ok_17 {f : Addr} {fd : FuncData} (FF : L2.Fun K "_law_text" "_law_text" (top 31) f fd) (hm : mg "_law_text" = some (.ref f)) (h16 : FnF cls P w K mg base 4 "_law_row_text" 1 f_l_row_text)
    (hb : ∀ x ∈ blN, mg x = none) (hg : ∀ (j : Nat) x, gcN.lookup j = some x → ∃ u v, mg x = some u ∧ RelV v u ∧ ∀ H W, DR ⟨K, cls, P, w⟩ H W (gcv j) v) (hf : ∀ (c : Nat) a, (c, a) ∈ flN → Cls K (cls c) ∧ NoAttr K (cls c) a) :
    FnF cls P w K mg base 5 "_law_text" 1 f_l_text := by
  exact fnF_of (k := 4) FF hm (FF.binds (ps := ["_law_rows"]) fun _ _ _ _ _ _ us hl => match us, hl with | [_], _ => rfl) sc_17 rfl (Fb.cfn (h16.mono (by decide)) (Fb.nil hb hg hf)) mt_17
theorem ok_18 {f : Addr} {fd : FuncData} (FF : L2.Fun K "names_in" "names_in" (top 13) f fd) (hm : mg "names_in" = some (.ref f))
    (hb : ∀ x ∈ blN, mg x = none) (hg : ∀ (j : Nat) x, gcN.lookup j = some x → ∃ u v, mg x = some u ∧ RelV v u ∧ ∀ H W, DR ⟨K, cls, P, w⟩ H W (gcv j) v) (hf : ∀ (c : Nat) a, (c, a) ∈ flN → Cls K (cls c) ∧ NoAttr K (cls c) a) :
    FnF cls P w K mg base 1 "names_in" 1 f_names_in := by
  exact fnF_of (k := 0) FF hm (FF.binds (ps := ["some"]) fun _ _ _ _ _ _ us hl => match us, hl with | [_], _ => rfl) sc_18 rfl (Fb.nil hb hg hf) mt_18
theorem ok_19 {f : Addr} {fd : FuncData} (FF : L2.Fun K "parts_of" "parts_of" (top 20) f fd) (hm : mg "parts_of" = some (.ref f)) (h18 : FnF cls P w K mg base 1 "names_in" 1 f_names_in)
    (hb : ∀ x ∈ blN, mg x = none) (hg : ∀ (j : Nat) x, gcN.lookup j = some x → ∃ u v, mg x = some u ∧ RelV v u ∧ ∀ H W, DR ⟨K, cls, P, w⟩ H W (gcv j) v) (hf : ∀ (c : Nat) a, (c, a) ∈ flN → Cls K (cls c) ∧ NoAttr K (cls c) a) :
    FnF cls P w K mg base 4 "parts_of" 1 f_parts_of := by
  exact fnF_rec (k := 1) (Ef := f_parts_of_E) FF hm (FF.binds (ps := ["row"]) fun _ _ _ _ _ _ us hl => match us, hl with | [_], _ => rfl) sc_19 rfl (fun v k' hk hv => Fb.cfn hv (Fb.cfn (h18.mono (Nat.le_trans (by decide : 1 ≤ 1) hk)) (Fb.nil hb hg hf))) mt_19 2
theorem ok_20 {f : Addr} {fd : FuncData} (FF : L2.Fun K "may_read" "may_read" (top 21) f fd) (hm : mg "may_read" = some (.ref f)) (h19 : FnF cls P w K mg base 4 "parts_of" 1 f_parts_of)
    (hb : ∀ x ∈ blN, mg x = none) (hg : ∀ (j : Nat) x, gcN.lookup j = some x → ∃ u v, mg x = some u ∧ RelV v u ∧ ∀ H W, DR ⟨K, cls, P, w⟩ H W (gcv j) v) (hf : ∀ (c : Nat) a, (c, a) ∈ flN → Cls K (cls c) ∧ NoAttr K (cls c) a) :
    FnF cls P w K mg base 5 "may_read" 1 f_may_read := by
  exact fnF_of (k := 4) FF hm (FF.binds (ps := ["cell"]) fun _ _ _ _ _ _ us hl => match us, hl with | [_], _ => rfl) sc_20 rfl (Fb.cfn (h19.mono (by decide)) (Fb.nil hb hg hf)) mt_20
theorem ok_21 {f : Addr} {fd : FuncData} (FF : L2.Fun K "may_set" "may_set" (top 22) f fd) (hm : mg "may_set" = some (.ref f)) (h19 : FnF cls P w K mg base 4 "parts_of" 1 f_parts_of)
    (hb : ∀ x ∈ blN, mg x = none) (hg : ∀ (j : Nat) x, gcN.lookup j = some x → ∃ u v, mg x = some u ∧ RelV v u ∧ ∀ H W, DR ⟨K, cls, P, w⟩ H W (gcv j) v) (hf : ∀ (c : Nat) a, (c, a) ∈ flN → Cls K (cls c) ∧ NoAttr K (cls c) a) :
    FnF cls P w K mg base 5 "may_set" 1 f_may_set := by
  exact fnF_of (k := 4) FF hm (FF.binds (ps := ["cell"]) fun _ _ _ _ _ _ us hl => match us, hl with | [_], _ => rfl) sc_21 rfl (Fb.cfn (h19.mono (by decide)) (Fb.nil hb hg hf)) mt_21
theorem ok_22 {f : Addr} {fd : FuncData} (FF : L2.Fun K "__eq__" "Cell.__eq__" (inClass (top 19) 2) f fd) (hc : Cls K (cls 1)) (hm : Meth K (cls 1) "__eq__" f) (h14 : MkF cls P w K mg base 7 1 "Cell" 1 f_Cell_new)
    (hb : ∀ x ∈ blN, mg x = none) (hg : ∀ (j : Nat) x, gcN.lookup j = some x → ∃ u v, mg x = some u ∧ RelV v u ∧ ∀ H W, DR ⟨K, cls, P, w⟩ H W (gcv j) v) (hf : ∀ (c : Nat) a, (c, a) ∈ flN → Cls K (cls c) ∧ NoAttr K (cls c) a) :
    MtF cls P w K mg base 9 1 "__eq__" 1 f_Cell___eq__ := by
  exact mtF_of (k := 8) FF hc hm (FF.binds (ps := ["self", "other"]) fun _ _ _ _ _ _ us hl => match us, hl with | [_, _], _ => rfl) sc_22 rfl (Fb.cmk h14 (by decide) (Fb.nil hb hg hf)) mt_22
theorem ok_23 {f : Addr} {fd : FuncData} (FF : L2.Fun K "__str__" "Cell.__str__" (inClass (top 19) 3) f fd) (hc : Cls K (cls 1)) (hm : Meth K (cls 1) "__str__" f)
    (hb : ∀ x ∈ blN, mg x = none) (hg : ∀ (j : Nat) x, gcN.lookup j = some x → ∃ u v, mg x = some u ∧ RelV v u ∧ ∀ H W, DR ⟨K, cls, P, w⟩ H W (gcv j) v) (hf : ∀ (c : Nat) a, (c, a) ∈ flN → Cls K (cls c) ∧ NoAttr K (cls c) a) :
    MtF cls P w K mg base 1 1 "__str__" 0 f_Cell___str__ := by
  exact mtF_of (k := 0) FF hc hm (FF.binds (ps := ["self"]) fun _ _ _ _ _ _ us hl => match us, hl with | [_], _ => rfl) sc_23 rfl (Fb.nil hb hg hf) mt_23
theorem ok_24 {f : Addr} {fd : FuncData} (FF : L2.Fun K "law" "law" (top 35) f fd)  (h0 : FnF cls P w K mg base 1 "_law_bag" 2 f_l_bag) (h6 : FnF cls P w K mg base 5 "_law_wide_rows" 1 f_l_wide_rows) (h7 : FnF cls P w K mg base 6 "_law_others" 2 f_l_others) (h14 : MkF cls P w K mg base 7 1 "Cell" 1 f_Cell_new) (h17 : FnF cls P w K mg base 5 "_law_text" 1 f_l_text) (h20 : FnF cls P w K mg base 5 "may_read" 1 f_may_read) (h21 : FnF cls P w K mg base 5 "may_set" 1 f_may_set) (h22 : MtF cls P w K mg base 9 1 "__eq__" 1 f_Cell___eq__) (h16 : FnF cls P w K mg base 4 "_law_row_text" 1 f_l_row_text) (h23 : MtF cls P w K mg base 1 1 "__str__" 0 f_Cell___str__)
    (hb : ∀ x ∈ blN, mg x = none) (hg : ∀ (j : Nat) x, gcN.lookup j = some x → ∃ u v, mg x = some u ∧ RelV v u ∧ ∀ H W, DR ⟨K, cls, P, w⟩ H W (gcv j) v) (hf : ∀ (c : Nat) a, (c, a) ∈ flN → Cls K (cls c) ∧ NoAttr K (cls c) a) :
    FnOk P w K mg base (L2.CX P w) 11 f fd ["_law_script"] (spF ⟨K, cls, P, w⟩ f_law_13 1) := by
  exact fn_ok (k := 10) FF sc_24 (Fb.cfn (h0.mono (by decide)) (Fb.cfn (h6.mono (by decide)) (Fb.cfn (h7.mono (by decide)) (Fb.cfn (h17.mono (by decide)) (Fb.cfn (h20.mono (by decide)) (Fb.cfn (h21.mono (by decide)) (Fb.cfn (h16.mono (by decide)) (Fb.cmk h14 (by decide) (Fb.cmt h22 (by decide) (fun _ => (by decide)) (Fb.cmt h23 (by decide) (fun _ => (by decide)) (Fb.nil hb hg hf))))))))))) mt_24
end
/-! ### the end -/
theorem all_mk {l : PySem.W.OpenLaw} {w : World} {K : PySem.W.Frag} {h : Heap} {mg : Str → Option Value} {fa : Addr} (sem : ∀ ns : List Int, ns.length ≤ 63 → ∃ h', f_law_13 [.d (.scr ns)] [] = .ok (db true) h') (X : K.In h) (G : h.Ns mainGlobals mg) (hfa : mg "law" = some (.ref fa))
    {C1 : Addr}
    {f0 : Addr} {od0 an0 : Option Addr} {sl0 : Array (Option Value)} {oc0 kV0 dc0 pm0 cd0 ct0 : Value}
    {f1 : Addr} {od1 an1 : Option Addr} {sl1 : Array (Option Value)} {oc1 kV1 dc1 pm1 cd1 ct1 : Value}
    {f2 : Addr} {od2 an2 : Option Addr} {sl2 : Array (Option Value)} {oc2 kV2 dc2 pm2 cd2 ct2 : Value}
    {f3 : Addr} {od3 an3 : Option Addr} {sl3 : Array (Option Value)} {oc3 kV3 dc3 pm3 cd3 ct3 : Value}
    {f4 : Addr} {od4 an4 : Option Addr} {sl4 : Array (Option Value)} {oc4 kV4 dc4 pm4 cd4 ct4 : Value}
    {f5 : Addr} {od5 an5 : Option Addr} {sl5 : Array (Option Value)} {oc5 kV5 dc5 pm5 cd5 ct5 : Value}
    {f6 : Addr} {od6 an6 : Option Addr} {sl6 : Array (Option Value)} {oc6 kV6 dc6 pm6 cd6 ct6 : Value}
    {f7 : Addr} {od7 an7 : Option Addr} {sl7 : Array (Option Value)} {oc7 kV7 dc7 pm7 cd7 ct7 : Value}
    {f8 : Addr} {od8 an8 : Option Addr} {sl8 : Array (Option Value)} {oc8 kV8 dc8 pm8 cd8 ct8 : Value}
    {f9 : Addr} {od9 an9 : Option Addr} {sl9 : Array (Option Value)} {oc9 kV9 dc9 pm9 cd9 ct9 : Value}
    {f10 : Addr} {od10 an10 : Option Addr} {sl10 : Array (Option Value)} {oc10 kV10 dc10 pm10 cd10 ct10 : Value}
    {f11 : Addr} {od11 an11 : Option Addr} {sl11 : Array (Option Value)} {oc11 kV11 dc11 pm11 cd11 ct11 : Value}
    {f12 : Addr} {od12 an12 : Option Addr} {sl12 : Array (Option Value)} {oc12 kV12 dc12 pm12 cd12 ct12 : Value}
    {f13 : Addr} {od13 an13 : Option Addr} {sl13 : Array (Option Value)} {oc13 kV13 dc13 pm13 cd13 ct13 : Value}
    {f14 : Addr} {od14 an14 : Option Addr} {sl14 : Array (Option Value)} {oc14 kV14 dc14 pm14 cd14 ct14 : Value}
    {f15 : Addr} {od15 an15 : Option Addr} {sl15 : Array (Option Value)} {oc15 kV15 dc15 pm15 cd15 ct15 : Value}
    {f16 : Addr} {od16 an16 : Option Addr} {sl16 : Array (Option Value)} {oc16 kV16 dc16 pm16 cd16 ct16 : Value}
    {f17 : Addr} {od17 an17 : Option Addr} {sl17 : Array (Option Value)} {oc17 kV17 dc17 pm17 cd17 ct17 : Value}
    {f18 : Addr} {od18 an18 : Option Addr} {sl18 : Array (Option Value)} {oc18 kV18 dc18 pm18 cd18 ct18 : Value}
    {f19 : Addr} {od19 an19 : Option Addr} {sl19 : Array (Option Value)} {oc19 kV19 dc19 pm19 cd19 ct19 : Value}
    {f20 : Addr} {od20 an20 : Option Addr} {sl20 : Array (Option Value)} {oc20 kV20 dc20 pm20 cd20 ct20 : Value}
    {f21 : Addr} {od21 an21 : Option Addr} {sl21 : Array (Option Value)} {oc21 kV21 dc21 pm21 cd21 ct21 : Value}
    {f22 : Addr} {od22 an22 : Option Addr} {sl22 : Array (Option Value)} {oc22 kV22 dc22 pm22 cd22 ct22 : Value}
    {f23 : Addr} {od23 an23 : Option Addr} {sl23 : Array (Option Value)} {oc23 kV23 dc23 pm23 cd23 ct23 : Value}
    {f24 : Addr} {od24 an24 : Option Addr} {sl24 : Array (Option Value)} {oc24 kV24 dc24 pm24 cd24 ct24 : Value}
    {t0 : Tok}
    {w1 : Addr} {t1_0 u1_0 t1_1 u1_1 : Tok} {wn1 : Nat} {es1 : Array DictEntry}
    {t2 : Tok}
    {w3 : Addr} {wd3 : Option Addr} {t3_0 t3_1 t3_2 : Tok} {wn3 : Nat} {ws3 : Array (Option Value)}
    {t4 : Tok}
    {t5 : Tok}
    (aC1 : PySem.W.nsIn K mainGlobals "Cell" = some (some (.ref C1))) (pg1 : PySem.W.plainGet K C1 Str.empty = true) (hd1 : PySem.W.hasDictIn K C1 = true) (po1 : PySem.W.plainOver K C1 = true) (sa1 : PySem.W.findIn K (.ref C1) "__setattr__" = some (some (.builtin "object.__setattr__")))
    (mk1 : PySem.W.makesIn K C1 = true) (kc1 : PySem.W.keepIn K (.ref C1) = true)
    (ua1 : PySem.W.findIn K (.ref C1) "__class__" = some (some (.builtin "object.__class__"))) (un1 : PySem.W.specialIn K (.builtin "object.__class__") "__get__" = some (some (.builtin "getset_descriptor.__get__"))) (ut1 : PySem.W.takesIn K (.builtin "object.__class__") = some true) (um1 : PySem.W.mroIn K C1 (.type "object") = some true) (ue1 : PySem.W.kitOne K (.ref C1) (.ref C1) = some true) (uq1 : PySem.W.findIn K (.ref C1) "__ne__" = some (some (.builtin "object.__ne__"))) (ub1 : PySem.W.findIn K (.ref C1) "__bool__" = some none) (ux1_0 : PySem.W.kitOne K (.type "NoneType") (.ref C1) = some false) (uy1_0 : PySem.W.mroIn K C1 (.type "NoneType") = some false) (ux1_1 : PySem.W.kitOne K (.type "bool") (.ref C1) = some false) (uy1_1 : PySem.W.mroIn K C1 (.type "bool") = some false) (ux1_2 : PySem.W.kitOne K (.type "int") (.ref C1) = some false) (uy1_2 : PySem.W.mroIn K C1 (.type "int") = some false) (ux1_3 : PySem.W.kitOne K (.type "str") (.ref C1) = some false) (uy1_3 : PySem.W.mroIn K C1 (.type "str") = some false) (ux1_4 : PySem.W.kitOne K (.type "list") (.ref C1) = some false) (uy1_4 : PySem.W.mroIn K C1 (.type "list") = some false) (ux1_5 : PySem.W.kitOne K (.type "tuple") (.ref C1) = some false) (uy1_5 : PySem.W.mroIn K C1 (.type "tuple") = some false) (ux1_6 : PySem.W.kitOne K (.type "dict") (.ref C1) = some false) (uy1_6 : PySem.W.mroIn K C1 (.type "dict") = some false)
    (fl0 : PySem.W.findIn K (.ref C1) "rows" = some none)
    (fl1 : PySem.W.findIn K (.ref C1) "text" = some none)
    (a0 : PySem.W.nsIn K mainGlobals "_law_bag" = some (some (.ref f0)))
    (l0 : K.lookup f0 = some ⟨oc0, od0, .func (PySem.W.fnOf "_law_bag" "_law_bag" (defArgs (top 30)) (defBody (top 30)) (defScope (top 30)) .none kV0 dc0 pm0 an0 cd0 ct0), sl0⟩) (c0 : PySem.W.codeIn K cd0 "_law_bag" = true) (k0 : PySem.W.keepIn K (.ref f0) = true)
    (a1 : PySem.W.nsIn K mainGlobals "_law_take" = some (some (.ref f1)))
    (l1 : K.lookup f1 = some ⟨oc1, od1, .func (PySem.W.fnOf "_law_take" "_law_take" (defArgs (top 24)) (defBody (top 24)) (defScope (top 24)) .none kV1 dc1 pm1 an1 cd1 ct1), sl1⟩) (c1 : PySem.W.codeIn K cd1 "_law_take" = true) (k1 : PySem.W.keepIn K (.ref f1) = true)
    (a2 : PySem.W.nsIn K mainGlobals "_law_any_name" = some (some (.ref f2)))
    (l2 : K.lookup f2 = some ⟨oc2, od2, .func (PySem.W.fnOf "_law_any_name" "_law_any_name" (defArgs (top 26)) (defBody (top 26)) (defScope (top 26)) .none kV2 dc2 pm2 an2 cd2 ct2), sl2⟩) (c2 : PySem.W.codeIn K cd2 "_law_any_name" = true) (k2 : PySem.W.keepIn K (.ref f2) = true)
    (a3 : PySem.W.nsIn K mainGlobals "_law_names" = some (some (.ref f3)))
    (l3 : K.lookup f3 = some ⟨oc3, od3, .func (PySem.W.fnOf "_law_names" "_law_names" (defArgs (top 27)) (defBody (top 27)) (defScope (top 27)) .none kV3 dc3 pm3 an3 cd3 ct3), sl3⟩) (c3 : PySem.W.codeIn K cd3 "_law_names" = true) (k3 : PySem.W.keepIn K (.ref f3) = true)
    (a4 : PySem.W.nsIn K mainGlobals "_law_wide_atom" = some (some (.ref f4)))
    (l4 : K.lookup f4 = some ⟨oc4, od4, .func (PySem.W.fnOf "_law_wide_atom" "_law_wide_atom" (defArgs (top 29)) (defBody (top 29)) (defScope (top 29)) .none kV4 dc4 pm4 an4 cd4 ct4), sl4⟩) (c4 : PySem.W.codeIn K cd4 "_law_wide_atom" = true) (k4 : PySem.W.keepIn K (.ref f4) = true)
    (a5 : PySem.W.nsIn K mainGlobals "_law_wide_sum" = some (some (.ref f5)))
    (l5 : K.lookup f5 = some ⟨oc5, od5, .func (PySem.W.fnOf "_law_wide_sum" "_law_wide_sum" (defArgs (top 28)) (defBody (top 28)) (defScope (top 28)) .none kV5 dc5 pm5 an5 cd5 ct5), sl5⟩) (c5 : PySem.W.codeIn K cd5 "_law_wide_sum" = true) (k5 : PySem.W.keepIn K (.ref f5) = true)
    (a6 : PySem.W.nsIn K mainGlobals "_law_wide_rows" = some (some (.ref f6)))
    (l6 : K.lookup f6 = some ⟨oc6, od6, .func (PySem.W.fnOf "_law_wide_rows" "_law_wide_rows" (defArgs (top 25)) (defBody (top 25)) (defScope (top 25)) .none kV6 dc6 pm6 an6 cd6 ct6), sl6⟩) (c6 : PySem.W.codeIn K cd6 "_law_wide_rows" = true) (k6 : PySem.W.keepIn K (.ref f6) = true)
    (a7 : PySem.W.nsIn K mainGlobals "_law_others" = some (some (.ref f7)))
    (l7 : K.lookup f7 = some ⟨oc7, od7, .func (PySem.W.fnOf "_law_others" "_law_others" (defArgs (top 34)) (defBody (top 34)) (defScope (top 34)) .none kV7 dc7 pm7 an7 cd7 ct7), sl7⟩) (c7 : PySem.W.codeIn K cd7 "_law_others" = true) (k7 : PySem.W.keepIn K (.ref f7) = true)
    (a8 : PySem.W.nsIn K mainGlobals "is_name" = some (some (.ref f8)))
    (l8 : K.lookup f8 = some ⟨oc8, od8, .func (PySem.W.fnOf "is_name" "is_name" (defArgs (top 10)) (defBody (top 10)) (defScope (top 10)) .none kV8 dc8 pm8 an8 cd8 ct8), sl8⟩) (c8 : PySem.W.codeIn K cd8 "is_name" = true) (k8 : PySem.W.keepIn K (.ref f8) = true)
    (a9 : PySem.W.nsIn K mainGlobals "atom_in" = some (some (.ref f9)))
    (l9 : K.lookup f9 = some ⟨oc9, od9, .func (PySem.W.fnOf "atom_in" "atom_in" (defArgs (top 11)) (defBody (top 11)) (defScope (top 11)) .none kV9 dc9 pm9 an9 cd9 ct9), sl9⟩) (c9 : PySem.W.codeIn K cd9 "atom_in" = true) (k9 : PySem.W.keepIn K (.ref f9) = true)
    (a10 : PySem.W.nsIn K mainGlobals "read_sum" = some (some (.ref f10)))
    (l10 : K.lookup f10 = some ⟨oc10, od10, .func (PySem.W.fnOf "read_sum" "read_sum" (defArgs (top 12)) (defBody (top 12)) (defScope (top 12)) .none kV10 dc10 pm10 an10 cd10 ct10), sl10⟩) (c10 : PySem.W.codeIn K cd10 "read_sum" = true) (k10 : PySem.W.keepIn K (.ref f10) = true)
    (a11 : PySem.W.nsIn K mainGlobals "plain_row_in" = some (some (.ref f11)))
    (l11 : K.lookup f11 = some ⟨oc11, od11, .func (PySem.W.fnOf "plain_row_in" "plain_row_in" (defArgs (top 16)) (defBody (top 16)) (defScope (top 16)) .none kV11 dc11 pm11 an11 cd11 ct11), sl11⟩) (c11 : PySem.W.codeIn K cd11 "plain_row_in" = true) (k11 : PySem.W.keepIn K (.ref f11) = true)
    (a12 : PySem.W.nsIn K mainGlobals "row_in" = some (some (.ref f12)))
    (l12 : K.lookup f12 = some ⟨oc12, od12, .func (PySem.W.fnOf "row_in" "row_in" (defArgs (top 17)) (defBody (top 17)) (defScope (top 17)) .none kV12 dc12 pm12 an12 cd12 ct12), sl12⟩) (c12 : PySem.W.codeIn K cd12 "row_in" = true) (k12 : PySem.W.keepIn K (.ref f12) = true)
    (a13 : PySem.W.nsIn K mainGlobals "rows_in" = some (some (.ref f13)))
    (l13 : K.lookup f13 = some ⟨oc13, od13, .func (PySem.W.fnOf "rows_in" "rows_in" (defArgs (top 18)) (defBody (top 18)) (defScope (top 18)) .none kV13 dc13 pm13 an13 cd13 ct13), sl13⟩) (c13 : PySem.W.codeIn K cd13 "rows_in" = true) (k13 : PySem.W.keepIn K (.ref f13) = true)
    (a14 : PySem.W.findIn K (.ref C1) "__init__" = some (some (.ref f14))) (i14 : PySem.W.isFn K (.ref f14) = true)
    (l14 : K.lookup f14 = some ⟨oc14, od14, .func (PySem.W.fnOf "__init__" "Cell.__init__" (defArgs (inClass (top 19) 0)) (defBody (inClass (top 19) 0)) (defScope (inClass (top 19) 0)) .none kV14 dc14 pm14 an14 cd14 ct14), sl14⟩) (c14 : PySem.W.codeIn K cd14 "Cell.__init__" = true) (k14 : PySem.W.keepIn K (.ref f14) = true)
    (a15 : PySem.W.nsIn K mainGlobals "_law_sum_text" = some (some (.ref f15)))
    (l15 : K.lookup f15 = some ⟨oc15, od15, .func (PySem.W.fnOf "_law_sum_text" "_law_sum_text" (defArgs (top 33)) (defBody (top 33)) (defScope (top 33)) .none kV15 dc15 pm15 an15 cd15 ct15), sl15⟩) (c15 : PySem.W.codeIn K cd15 "_law_sum_text" = true) (k15 : PySem.W.keepIn K (.ref f15) = true)
    (a16 : PySem.W.nsIn K mainGlobals "_law_row_text" = some (some (.ref f16)))
    (l16 : K.lookup f16 = some ⟨oc16, od16, .func (PySem.W.fnOf "_law_row_text" "_law_row_text" (defArgs (top 32)) (defBody (top 32)) (defScope (top 32)) .none kV16 dc16 pm16 an16 cd16 ct16), sl16⟩) (c16 : PySem.W.codeIn K cd16 "_law_row_text" = true) (k16 : PySem.W.keepIn K (.ref f16) = true)
    (a17 : PySem.W.nsIn K mainGlobals "_law_text" = some (some (.ref f17)))
    (l17 : K.lookup f17 = some ⟨oc17, od17, .func (PySem.W.fnOf "_law_text" "_law_text" (defArgs (top 31)) (defBody (top 31)) (defScope (top 31)) .none kV17 dc17 pm17 an17 cd17 ct17), sl17⟩) (c17 : PySem.W.codeIn K cd17 "_law_text" = true) (k17 : PySem.W.keepIn K (.ref f17) = true)
    (a18 : PySem.W.nsIn K mainGlobals "names_in" = some (some (.ref f18)))
    (l18 : K.lookup f18 = some ⟨oc18, od18, .func (PySem.W.fnOf "names_in" "names_in" (defArgs (top 13)) (defBody (top 13)) (defScope (top 13)) .none kV18 dc18 pm18 an18 cd18 ct18), sl18⟩) (c18 : PySem.W.codeIn K cd18 "names_in" = true) (k18 : PySem.W.keepIn K (.ref f18) = true)
    (a19 : PySem.W.nsIn K mainGlobals "parts_of" = some (some (.ref f19)))
    (l19 : K.lookup f19 = some ⟨oc19, od19, .func (PySem.W.fnOf "parts_of" "parts_of" (defArgs (top 20)) (defBody (top 20)) (defScope (top 20)) .none kV19 dc19 pm19 an19 cd19 ct19), sl19⟩) (c19 : PySem.W.codeIn K cd19 "parts_of" = true) (k19 : PySem.W.keepIn K (.ref f19) = true)
    (a20 : PySem.W.nsIn K mainGlobals "may_read" = some (some (.ref f20)))
    (l20 : K.lookup f20 = some ⟨oc20, od20, .func (PySem.W.fnOf "may_read" "may_read" (defArgs (top 21)) (defBody (top 21)) (defScope (top 21)) .none kV20 dc20 pm20 an20 cd20 ct20), sl20⟩) (c20 : PySem.W.codeIn K cd20 "may_read" = true) (k20 : PySem.W.keepIn K (.ref f20) = true)
    (a21 : PySem.W.nsIn K mainGlobals "may_set" = some (some (.ref f21)))
    (l21 : K.lookup f21 = some ⟨oc21, od21, .func (PySem.W.fnOf "may_set" "may_set" (defArgs (top 22)) (defBody (top 22)) (defScope (top 22)) .none kV21 dc21 pm21 an21 cd21 ct21), sl21⟩) (c21 : PySem.W.codeIn K cd21 "may_set" = true) (k21 : PySem.W.keepIn K (.ref f21) = true)
    (a22 : PySem.W.findIn K (.ref C1) "__eq__" = some (some (.ref f22))) (i22 : PySem.W.isFn K (.ref f22) = true)
    (l22 : K.lookup f22 = some ⟨oc22, od22, .func (PySem.W.fnOf "__eq__" "Cell.__eq__" (defArgs (inClass (top 19) 2)) (defBody (inClass (top 19) 2)) (defScope (inClass (top 19) 2)) .none kV22 dc22 pm22 an22 cd22 ct22), sl22⟩) (c22 : PySem.W.codeIn K cd22 "Cell.__eq__" = true) (k22 : PySem.W.keepIn K (.ref f22) = true)
    (a23 : PySem.W.findIn K (.ref C1) "__str__" = some (some (.ref f23))) (i23 : PySem.W.isFn K (.ref f23) = true)
    (l23 : K.lookup f23 = some ⟨oc23, od23, .func (PySem.W.fnOf "__str__" "Cell.__str__" (defArgs (inClass (top 19) 3)) (defBody (inClass (top 19) 3)) (defScope (inClass (top 19) 3)) .none kV23 dc23 pm23 an23 cd23 ct23), sl23⟩) (c23 : PySem.W.codeIn K cd23 "Cell.__str__" = true) (k23 : PySem.W.keepIn K (.ref f23) = true)
    (a24 : PySem.W.nsIn K mainGlobals "law" = some (some (.ref f24)))
    (l24 : K.lookup f24 = some ⟨oc24, od24, .func (PySem.W.fnOf "law" "law" (defArgs (top 35)) (defBody (top 35)) (defScope (top 35)) .none kV24 dc24 pm24 an24 cd24 ct24), sl24⟩) (c24 : PySem.W.codeIn K cd24 "law" = true) (k24 : PySem.W.keepIn K (.ref f24) = true)
    (g0 : PySem.W.nsIn K mainGlobals "MOST_ATOMS" = some (some (.int 8 t0)))
    (g1 : PySem.W.nsIn K mainGlobals "SIGNS" = some (some (.ref w1))) (gl1 : K.lookup w1 = some ⟨.type "dict", none, .dict es1 wn1, #[]⟩) (gk1 : PySem.W.KeysLit w.params es1.toList) (go1 : (w1 == sysModules) = false)
    (ge1 : es1.toList.map (fun d => (d.key, d.val)) = [(.str "+" t1_0, .int 1 u1_0), (.str "-" t1_1, .int (-1) u1_1)])
    (g2 : PySem.W.nsIn K mainGlobals "MOST_SIGNS" = some (some (.int 4 t2)))
    (g3 : PySem.W.nsIn K mainGlobals "WORDS" = some (some (.ref w3))) (gl3 : K.lookup w3 = some ⟨.type "tuple", wd3, .seq #[.str "show" t3_0, .str "drop" t3_1, .str "if" t3_2] wn3, ws3⟩)
    (g4 : PySem.W.nsIn K mainGlobals "LETTERS" = some (some (.str "abcdefghijklmnopqrstuvwxyz" t4)))
    (g5 : PySem.W.nsIn K mainGlobals "MOST_ROWS" = some (some (.int 6 t5)))
    (z0 : PySem.W.nsIn K mainGlobals "abs" = some none)
    (z1 : PySem.W.nsIn K mainGlobals "all" = some none)
    (z2 : PySem.W.nsIn K mainGlobals "enumerate" = some none)
    (z3 : PySem.W.nsIn K mainGlobals "int" = some none)
    (z4 : PySem.W.nsIn K mainGlobals "isinstance" = some none)
    (z5 : PySem.W.nsIn K mainGlobals "len" = some none)
    (z6 : PySem.W.nsIn K mainGlobals "max" = some none)
    (z7 : PySem.W.nsIn K mainGlobals "min" = some none)
    (z8 : PySem.W.nsIn K mainGlobals "range" = some none)
    (z9 : PySem.W.nsIn K mainGlobals "set" = some none)
    (z10 : PySem.W.nsIn K mainGlobals "sorted" = some none)
    (z11 : PySem.W.nsIn K mainGlobals "str" = some none)
    (z12 : PySem.W.nsIn K mainGlobals "tuple" = some none)
    (z13 : PySem.W.nsIn K mainGlobals "zip" = some none)
    : ∃ fd : FuncData, (∀ (s : Shared) (v : Value), BindsTo s fd ⟨[v], []⟩ [("_law_script", v)]) ∧ ∀ base : Heap, K.In base → base.Ns mainGlobals mg → FnOk l.prog w K mg base (L2.CX l.prog w) 11 fa fd ["_law_script"] (spEnd K) := by
  have ee := hfa.symm.trans (PySem.W.mg_of X G a24)
  cases ee
  have hb : ∀ x ∈ blN, mg x = none := by
    unfold blN
    exact List.forall_mem_cons.mpr ⟨PySem.W.mg_none_of X G z0, List.forall_mem_cons.mpr ⟨PySem.W.mg_none_of X G z1, List.forall_mem_cons.mpr ⟨PySem.W.mg_none_of X G z2, List.forall_mem_cons.mpr ⟨PySem.W.mg_none_of X G z3, List.forall_mem_cons.mpr ⟨PySem.W.mg_none_of X G z4, List.forall_mem_cons.mpr ⟨PySem.W.mg_none_of X G z5, List.forall_mem_cons.mpr ⟨PySem.W.mg_none_of X G z6, List.forall_mem_cons.mpr ⟨PySem.W.mg_none_of X G z7, List.forall_mem_cons.mpr ⟨PySem.W.mg_none_of X G z8, List.forall_mem_cons.mpr ⟨PySem.W.mg_none_of X G z9, List.forall_mem_cons.mpr ⟨PySem.W.mg_none_of X G z10, List.forall_mem_cons.mpr ⟨PySem.W.mg_none_of X G z11, List.forall_mem_cons.mpr ⟨PySem.W.mg_none_of X G z12, List.forall_mem_cons.mpr ⟨PySem.W.mg_none_of X G z13, fun x hx => nomatch hx⟩⟩⟩⟩⟩⟩⟩⟩⟩⟩⟩⟩⟩⟩
  let cls : Nat → Addr := fun c => if c = 1 then C1 else 0
  have hg : ∀ (j : Nat) x, gcN.lookup j = some x → ∃ u v, mg x = some u ∧ RelV v u ∧ ∀ H W, DR ⟨K, cls, l.prog, w⟩ H W (gcv j) v := by
    intro j x e
    by_cases q0 : j = 1
    · subst q0; cases e; exact gc_int (PySem.W.mg_of X G g0)
    by_cases q1 : j = 2
    · subst q1; cases e; exact gc_kdc (ks := [("+", t1_0, .int 1 u1_0, .int 1), ("-", t1_1, .int (-1) u1_1, .int (-1))]) (PySem.W.mg_of X G g1) gl1 gk1 go1 ge1 (List.forall_mem_cons.mpr ⟨⟨_, rfl, _, rfl⟩, List.forall_mem_cons.mpr ⟨⟨_, rfl, _, rfl⟩, fun _ hx => nomatch hx⟩⟩)
    by_cases q2 : j = 3
    · subst q2; cases e; exact gc_int (PySem.W.mg_of X G g2)
    by_cases q3 : j = 4
    · subst q3; cases e; exact gc_strs (ss := ["show", "drop", "if"]) (PySem.W.mg_of X G g3) gl3 rfl rfl (show 3 ≤ sizeLine by decide) (.cons ⟨_, rfl⟩ (.cons ⟨_, rfl⟩ (.cons ⟨_, rfl⟩ .nil)))
    by_cases q4 : j = 5
    · subst q4; cases e; exact gc_str (PySem.W.mg_of X G g4)
    by_cases q5 : j = 6
    · subst q5; cases e; exact gc_int (PySem.W.mg_of X G g5)
    · exfalso
      revert e
      simp [gcN, List.lookup, q0, q1, q2, q3, q4, q5, beq_eq_false_iff_ne.mpr]
  have hf : ∀ (c : Nat) a, (c, a) ∈ flN → Cls K (cls c) ∧ NoAttr K (cls c) a := by
    intro c a hm
    unfold flN at hm
    simp only [List.mem_cons, Prod.mk.injEq, List.not_mem_nil, or_false] at hm
    rcases hm with ⟨rfl, rfl⟩ | ⟨rfl, rfl⟩
    · exact ⟨⟨pg1, hd1, po1, sa1⟩, fl0⟩
    · exact ⟨⟨pg1, hd1, po1, sa1⟩, fl1⟩
  refine ⟨PySem.W.fnOf "law" "law" (defArgs (top 35)) (defBody (top 35)) (defScope (top 35)) .none kV24 dc24 pm24 an24 cd24 ct24, fun s v => .of_eq rfl, fun base _ _ => ?_⟩
  have h0 := ok_0 (P := l.prog) (w := w) (base := base) (cls := cls) (fun_mk l0 c0 k0) (PySem.W.mg_of X G a0)  hb hg hf
  have h1 := ok_1 (P := l.prog) (w := w) (base := base) (cls := cls) (fun_mk l1 c1 k1) (PySem.W.mg_of X G a1)  hb hg hf
  have h2 := ok_2 (P := l.prog) (w := w) (base := base) (cls := cls) (fun_mk l2 c2 k2) (PySem.W.mg_of X G a2) h1 hb hg hf
  have h3 := ok_3 (P := l.prog) (w := w) (base := base) (cls := cls) (fun_mk l3 c3 k3) (PySem.W.mg_of X G a3)  hb hg hf
  have h4 := ok_4 (P := l.prog) (w := w) (base := base) (cls := cls) (fun_mk l4 c4 k4) (PySem.W.mg_of X G a4) h1 h2 h3 hb hg hf
  have h5 := ok_5 (P := l.prog) (w := w) (base := base) (cls := cls) (fun_mk l5 c5 k5) (PySem.W.mg_of X G a5) h1 h4 hb hg hf
  have h6 := ok_6 (P := l.prog) (w := w) (base := base) (cls := cls) (fun_mk l6 c6 k6) (PySem.W.mg_of X G a6) h1 h2 h3 h5 hb hg hf
  have h7 := ok_7 (P := l.prog) (w := w) (base := base) (cls := cls) (fun_mk l7 c7 k7) (PySem.W.mg_of X G a7) h1 h6 hb hg hf
  have h8 := ok_8 (P := l.prog) (w := w) (base := base) (cls := cls) (fun_mk l8 c8 k8) (PySem.W.mg_of X G a8)  hb hg hf
  have h9 := ok_9 (P := l.prog) (w := w) (base := base) (cls := cls) (fun_mk l9 c9 k9) (PySem.W.mg_of X G a9) h8 hb hg hf
  have h10 := ok_10 (P := l.prog) (w := w) (base := base) (cls := cls) (fun_mk l10 c10 k10) (PySem.W.mg_of X G a10) h9 hb hg hf
  have h11 := ok_11 (P := l.prog) (w := w) (base := base) (cls := cls) (fun_mk l11 c11 k11) (PySem.W.mg_of X G a11) h10 h8 hb hg hf
  have h12 := ok_12 (P := l.prog) (w := w) (base := base) (cls := cls) (fun_mk l12 c12 k12) (PySem.W.mg_of X G a12) h10 h11 hb hg hf
  have h13 := ok_13 (P := l.prog) (w := w) (base := base) (cls := cls) (fun_mk l13 c13 k13) (PySem.W.mg_of X G a13) h12 hb hg hf
  have h14 := ok_14 (P := l.prog) (w := w) (base := base) (cls := cls) (fun_mk l14 c14 k14) (PySem.W.mg_of X G aC1) ⟨mk1, a14, i14, kc1⟩ ⟨⟨⟨pg1, hd1, po1, sa1⟩, ua1, un1, ut1, um1, ue1⟩, uq1, ub1, bty_all ux1_0 ux1_1 ux1_2 ux1_3 ux1_4 ux1_5 ux1_6, bty_all uy1_0 uy1_1 uy1_2 uy1_3 uy1_4 uy1_5 uy1_6⟩ h13 hb hg hf
  have h15 := ok_15 (P := l.prog) (w := w) (base := base) (cls := cls) (fun_mk l15 c15 k15) (PySem.W.mg_of X G a15)  hb hg hf
  have h16 := ok_16 (P := l.prog) (w := w) (base := base) (cls := cls) (fun_mk l16 c16 k16) (PySem.W.mg_of X G a16) h15 hb hg hf
  have h17 := ok_17 (P := l.prog) (w := w) (base := base) (cls := cls) (fun_mk l17 c17 k17) (PySem.W.mg_of X G a17) h16 hb hg hf
  have h18 := ok_18 (P := l.prog) (w := w) (base := base) (cls := cls) (fun_mk l18 c18 k18) (PySem.W.mg_of X G a18)  hb hg hf
  have h19 := ok_19 (P := l.prog) (w := w) (base := base) (cls := cls) (fun_mk l19 c19 k19) (PySem.W.mg_of X G a19) h18 hb hg hf
  have h20 := ok_20 (P := l.prog) (w := w) (base := base) (cls := cls) (fun_mk l20 c20 k20) (PySem.W.mg_of X G a20) h19 hb hg hf
  have h21 := ok_21 (P := l.prog) (w := w) (base := base) (cls := cls) (fun_mk l21 c21 k21) (PySem.W.mg_of X G a21) h19 hb hg hf
  have h22 := ok_22 (P := l.prog) (w := w) (base := base) (cls := cls) (fun_mk l22 c22 k22) ⟨pg1, hd1, po1, sa1⟩ ⟨a22, i22, k22⟩ h14 hb hg hf
  have h23 := ok_23 (P := l.prog) (w := w) (base := base) (cls := cls) (fun_mk l23 c23 k23) ⟨pg1, hd1, po1, sa1⟩ ⟨a23, i23, k23⟩  hb hg hf
  have h24 := ok_24 (P := l.prog) (w := w) (base := base) (cls := cls) (fun_mk l24 c24 k24)  h0 h6 h7 h14 h17 h20 h21 h22 h16 h23 hb hg hf
  exact h24.imp fun vs H Q E q => end_of sem vs H Q E q
theorem walk {l : PySem.W.OpenLaw} {q : Program} {loose : List Str} {XP : (Str → Option Value) → Heap → Prop} {YP : World → Heap → Prop} {d : DefRec} {K : Params → PySem.W.Frag} (hn : l.most = some 63) (hdf : d.params.defaults = [])
    (hY : ∀ (w : World) (h : Heap), YP w h → (K w.params).In h)
    (F : ∀ (w : World) (mg : Str → Option Value) (fa : Addr) (h : Heap), (K w.params).In h → h.Ns mainGlobals mg → mg d.name = some (.ref fa) →
      ∃ fd : FuncData, (∀ (s : Shared) (u : Value), BindsTo s fd ⟨[u], []⟩ [("_law_script", u)]) ∧ ∀ base : Heap, (K w.params).In base → base.Ns mainGlobals mg → FnOk l.prog w (K w.params) mg base (L2.CX l.prog w) 11 fa fd ["_law_script"] (spEnd (K w.params))) :
    PySem.W.WalkO q loose XP YP l.row.toRowW d [] (fun f vs => PySem.call f vs) :=
  L2.walk_of (n := 63) (k := 11) (x := "_law_script") (CX := fun w => L2.CX l.prog w) (sp := fun w => spEnd (K w.params)) hn (by decide) hdf ⟨rfl, by decide, by decide⟩ hY F (fun _ _ a ns hl _ hS => ⟨a, ns, rfl, hS, hl, fun _ => rfl⟩) fun w H s e s' z => by
    obtain ⟨_, _, _, _, _, _, _, _, _, _, _, _, z⟩ := z
    exact z
end K


set_option Elab.async false
set_option linter.all false
set_option maxRecDepth 100000
namespace K
open PySem PySem.Spec PyProof.Rows L2 Mp
def hD (rs : List Row) : Mp.D := .tup [rowsD rs, cellD (cellT rs) rs]
def hA (rs : List Row) : AV := .d (hD rs)
def tD (rs : List Row) : Mp.D := .tup [.lst ((sortS (mrR rs [] [])).map .str), .lst ((sortS (msR rs)).map .str)]
theorem lc_any {elt : List SV → Hs → Res AV} {cs : List SV → Hs → Res Bool} {tg : MT} {S : List SV} {α : Type} (g f : α → AV) : ∀ (l : List α) (_ : ∀ x ∈ l, ∀ h, ∃ S' h', evG h tg (g x) S = some S' ∧ cs S' h = .ok true h ∧ elt S' h = .ok (f x) h') (acc : List AV) (h : Hs), acc.length + l.length ≤ sizeLine →
    ∃ h', lcGo elt cs tg .fz S (l.map g) acc h = .ok (.f (.lst (acc ++ l.map f))) h'
  | [], _, acc, h, _ => ⟨h, by simp [lcGo, SrcOk]⟩
  | x :: xs, step, acc, h, hl => by
    obtain ⟨S', h1, e0, e1, e2⟩ := step x (.head _) h
    simp only [List.length_cons] at hl
    obtain ⟨h2, e⟩ := lc_any g f xs (fun y m => step y (.tail _ m)) (acc ++ [f x]) h1 (by simp; omega)
    have al : acc.length < sizeLine := by omega
    exact ⟨h2, by simp [lcGo, SrcOk, e0, e1, e2, Res.noX, Res.bind, al, e]⟩
theorem join_rows {F : Fn} {S : List SV} {g : Hs} {e : ME} {rs : List Row} (C : CellOk rs) (el : evE F e S g = .ok (.f (.lst (rs.map fun r => sA (rowT r)))) g) : evE F (.met .join (.cst (.str "\n")) [e]) S g = .ok (dS (cellT rs)) g := by
  have b0 : (1000 : Nat) ≤ sizeLine := by decide
  have le := C.le
  have mm : rs.map (fun r => sA (rowT r)) = (rs.map rowT).map sA := by simp
  have fz : (Cell.lst ((rs.map rowT).map sA)).frz = some (.d (.lst ((rs.map rowT).map .str))) := frz_of (toDs_S _)
  have vw2 : (AV.d (.lst ((rs.map rowT).map .str))).vw g = some (.lst ((rs.map rowT).map sA)) := by
    rw [vw_d, dvw_lst, List.map_map]; rfl
  have sm : (((rs.map rowT).map fun z : Str => z.length).sum + (rs.map rowT).length * (Str.ofString "\n").length) ≤ 16777216 := by
    have h3 : (Str.ofString "\n").length = 1 := by decide
    have key : ∀ l : List Str, (∀ z ∈ l, z.length ≤ 400) → (l.map fun z : Str => z.length).sum ≤ 400 * l.length := by
      intro l
      induction l with
      | nil => intro _; simp
      | cons a l ih => intro q; have := q a (.head _); have := ih fun z m => q z (.tail _ m); simp; omega
    have := key (rs.map rowT) (fun z m => by
      obtain ⟨r, mr, rfl⟩ := List.mem_map.mp m
      exact (row_text_ok r (C.ok r mr).ok (C.ok r mr).wf g).2)
    rw [h3]
    simp only [List.length_map] at this ⊢
    omega
  rw [mm] at el
  rw [evE, evE]
  simp only [Res.bind_ok, ho1_v, rcv_join, vw_v, vw_d, dvw_str, Option.map_some, vwOk_str, Option.getD_some, if_true, evL, el, toV1_f, fz, ok1_some, mth_join, Option.bind_some, vm_join, vw2, strs_S, if_pos sm, okP_some]
  rfl
theorem cm_tx {l : List Str} (ok : ∀ x ∈ l, PyData.strOk x = true) : Cm (.lst (l.map .str)) := by
  have z : ∀ l : List Str, (∀ x ∈ l, PyData.strOk x = true) → okDs (l.map .str) = true ∧ dpDs (l.map .str) ≤ 10 := fun l => by
    induction l with
    | nil => exact fun _ => ⟨rfl, by decide⟩
    | cons x l ih =>
      intro ok
      obtain ⟨i1, i2⟩ := ih fun y m => ok y (.tail _ m)
      have ox := ok x (.head _)
      refine ⟨by simp [okDs, okD, ox, i1], ?_⟩
      simp only [List.map_cons, dpDs, dpD]
      omega
  obtain ⟨i1, i2⟩ := z l ok
  exact ⟨by simpa [okD] using i1, by simp only [dpD]; omega⟩
theorem cm_rows {rs : List Row} (C : CellOk rs) : Cm (rowsD rs) := rows_cm fun r m => (C.ok r m).ok
theorem l13_p0 (a : Nat) (h : Hs) {qs : List Row} (ok : ∀ r ∈ qs, RwOk r) (hq : qs.length ≤ 6) (L : List (List Row)) (hL : ∀ rs ∈ L, CellOk rs) (lL : L.length ≤ 100) (x0 x1 x4 x5 x6 x8 x9 x10 x11 : SV) :
    ∃ L2 : List (List Row), evSs f_law_13_E f_law_13_p0 [x0, x1, .v (.r a), .own (.lst (L.map hA)), x4, x5, x6, .v (.d (rowsD qs)), x8, x9, x10, x11] h = .nx [x0, x1, .v (.r a), .own (.lst (L2.map hA)), x4, x5, x6, .v (.d (rowsD qs)), x8, x9, x10, x11] h ∧ (∀ rs ∈ L2, CellOk rs) ∧ L2.length ≤ L.length + 1 := by
  have c1 : Cm (rowsD qs) := rows_cm fun r m => (ok r m).ok
  have c2 : Cm (.tup []) := ⟨by decide, by decide⟩
  have q := eqO_d (h := h) c1 c2
  have z0 : 0 ≤ sizeLine := Nat.zero_le _
  have e0 : dEq (rowsD qs) (.tup []) = decide (qs = []) := by
    rw [rowsD, dEq_tup]
    cases qs with
    | nil => rw [List.map_nil, dEqs_nil]; rfl
    | cons r qs => rw [List.map_cons, dEqs_cn]; simp
  rw [e0] at q
  have ct0 : evT f_law_13_E (.cmp .NotEq (.var 7) (.tup [])) [x0, x1, .v (.r a), .own (.lst (L.map hA)), x4, x5, x6, .v (.d (rowsD qs)), x8, x9, x10, x11] h = .ok (!decide (qs = [])) h := by
    simp [evT, evE, evL, Mp.mkTup, AV.toDs, q]
  by_cases z : qs = []
  · refine ⟨L, ?_, hL, Nat.le_succ _⟩
    rw [show decide (qs = []) = true from decide_eq_true z] at ct0
    have ct := ct0
    rw [f_law_13_p0, evSs, evS_ife, ct]
    simp [Res.st, evSs]
  · have C : CellOk qs := ⟨ok, z, hq⟩
    refine ⟨L ++ [qs], ?_, fun rs m => ?_, by simp⟩
    · have ct : evT f_law_13_E (.cmp .NotEq (.var 7) (.tup [])) [x0, x1, .v (.r a), .own (.lst (L.map hA)), x4, x5, x6, .v (.d (rowsD qs)), x8, x9, x10, x11] h = .ok true h := by
        simp [evT, evE, evL, Mp.mkTup, AV.toDs, q, z]
      have tx := text_ok C.rows h
      have ce := cell_ok C.rows h
      have cf := cell_frz qs
      have b0 : (1000 : Nat) < sizeLine := by decide
      have sl : L.length < sizeLine := by omega
      have ap : evS f_law_13_E (.owM 3 .append [.tup [.var 7, .mk 1 [.cal 26 [.var 7]]]]) [x0, x1, .v (.r a), .own (.lst (L.map hA)), x4, x5, x6, .v (.d (rowsD qs)), x8, x9, x10, x11] h = .nx [x0, x1, .v (.r a), .own (.lst ((L ++ [qs]).map hA)), x4, x5, x6, .v (.d (rowsD qs)), x8, x9, x10, x11] h := by
        have m1 : evE f_law_13_E (.mk 1 [.cal 26 [.var 7]]) [x0, x1, .v (.r a), .own (.lst (L.map hA)), x4, x5, x6, .v (.d (rowsD qs)), x8, x9, x10, x11] h = .ok (.f (.ins 1 [("rows", .d (rowsD qs)), ("text", .d (.str (cellT qs)))])) h := by
          simp [evE, evL, tx, ce]
        have t1 : evL f_law_13_E [.tup [.var 7, .mk 1 [.cal 26 [.var 7]]]] [x0, x1, .v (.r a), .own (.lst (L.map hA)), x4, x5, x6, .v (.d (rowsD qs)), x8, x9, x10, x11] h = .ok [hA qs] h := by
          rw [evL, evE, evL, evE]
          simp only [List.getElem?_cons_succ, List.getElem?_cons_zero, Res.bind_ok, toV1_v]
          rw [evL, m1]
          simp only [Res.bind_ok, toV1_f, cf, ok1_some, evL]
          rfl
        simp only [evS, List.getElem?_cons_succ, List.getElem?_cons_zero, t1, Res.st_ok]
        simp [Cell.vw, vwOk, Mth.ty, Mth.look, cMth, sl]
      rw [f_law_13_p0, evSs, evS_ife, ct]
      simp only [Res.st_ok, if_true, evSs, ap]
    · rcases List.mem_append.mp m with m | m
      · exact hL rs m
      · simp only [List.mem_singleton] at m; subst m; exact C
theorem l13_p1 (a : Nat) {h : Hs} (hB : B a h) (L : List (List Row)) (hL : ∀ rs ∈ L, CellOk rs) (lL : L.length ≤ 50) (x0 x1 x4 x5 x6 x7 x8 x9 x10 x11 : SV) (n7 : ∀ c, x7 ≠ .own c) :
    ∃ (L2 : List (List Row)) (y6 y7 : SV) (g : Hs), evSs f_law_13_E f_law_13_p1 [x0, x1, .v (.r a), .own (.lst (L.map hA)), x4, x5, x6, x7, x8, x9, x10, x11] h = .nx [x0, x1, .v (.r a), .own (.lst (L2.map hA)), x4, x5, y6, y7, x8, x9, x10, x11] g ∧ (∀ rs ∈ L2, CellOk rs) ∧ L2.length ≤ L.length + 3 ∧ (∀ c, y7 ≠ .own c) ∧ B a g := by
  obtain ⟨rs, h1, e1, k1, n1, l1, B1⟩ := wide_rows_B hB
  have C1 : CellOk rs := ⟨k1, n1, l1⟩
  obtain ⟨q1, h2, e2, k2, l2, B2⟩ := others_B B1 C1
  obtain ⟨q2, h3, e3, k3, l3, B3⟩ := others_B B2 C1
  have s1 : evS f_law_13_E (.asg (.nm 6) (.cal 23 [.var 2])) [x0, x1, .v (.r a), .own (.lst (L.map hA)), x4, x5, x6, x7, x8, x9, x10, x11] h = .nx [x0, x1, .v (.r a), .own (.lst (L.map hA)), x4, x5, .v (.d (rowsD rs)), x7, x8, x9, x10, x11] h1 := by
    simp [evS, evE, evL, Res.st, e1]
  have it : evI f_law_13_E (.seq (.lst [.var 6, .cal 70 [.var 2, .var 6], .cal 70 [.var 2, .var 6]])) [x0, x1, .v (.r a), .own (.lst (L.map hA)), x4, x5, .v (.d (rowsD rs)), x7, x8, x9, x10, x11] h1 = .ok ([.d (rowsD rs), .d (rowsD q1), .d (rowsD q2)], .fz) h3 := by
    simp [evI, evE, evL, e2, e3]
  obtain ⟨S', h4, e4, L2, y7, rfl, hL2, lL2, o7, B4⟩ := for_sti (body := fun S h => evSs f_law_13_E f_law_13_p0 S h) (i := 7) 3
    (fun n S g => ∃ (L2 : List (List Row)) (y7 : SV), S = [x0, x1, .v (.r a), .own (.lst (L2.map hA)), x4, x5, .v (.d (rowsD rs)), y7, x8, x9, x10, x11] ∧ (∀ rs ∈ L2, CellOk rs) ∧ L2.length ≤ L.length + n ∧ (∀ c, y7 ≠ .own c) ∧ B a g)
    [.d (rowsD rs), .d (rowsD q1), .d (rowsD q2)] (fun x m n S g hn => by
      rintro ⟨L2, y7, rfl, hL2, lL2, _, hB⟩
      have : ∃ qs : List Row, x = .d (rowsD qs) ∧ (∀ r ∈ qs, RwOk r) ∧ qs.length ≤ 6 := by
        simp only [List.mem_cons, List.not_mem_nil, or_false] at m
        rcases m with rfl | rfl | rfl
        · exact ⟨rs, rfl, k1, l1⟩
        · exact ⟨q1, rfl, k2, l2⟩
        · exact ⟨q2, rfl, k3, l3⟩
      obtain ⟨qs, rfl, ok, lq⟩ := this
      obtain ⟨L3, e, hL3, lL3⟩ := l13_p0 a g ok lq L2 hL2 (by omega) x0 x1 x4 x5 (.v (.d (rowsD rs))) x8 x9 x10 x11
      exact ⟨_, g, e, L3, _, rfl, hL3, by omega, fun c z => (nomatch z), hB⟩) 0 (by simp) [x0, x1, .v (.r a), .own (.lst (L.map hA)), x4, x5, .v (.d (rowsD rs)), x7, x8, x9, x10, x11] h3 ⟨L, x7, rfl, hL, by omega, n7, B3⟩
  refine ⟨L2, .v (.d (rowsD rs)), y7, h4, ?_, hL2, by simpa using lL2, o7, B4⟩
  rw [f_law_13_p1]
  simp only [evSs, s1]
  rw [evS, it, Res.st_ok, e4]
theorem l13_e2 (a : Nat) (h : Hs) (L : List (List Row)) (hL : ∀ rs ∈ L, CellOk rs) (lL : L.length ≤ 100) (x0 x1 x4 x5 x6 x7 x8 x9 x10 x11 : SV) (n7 : ∀ c, x7 ≠ .own c) (n8 : ∀ c, x8 ≠ .own c) :
    ∃ g, evE f_law_13_E (.lcm f_law_13_e2 (.tp [.nm 7, .nm 8]) (.seq (.var 3)) none [7, 8]) [x0, x1, .v (.r a), .v (.d (.lst (L.map hD))), x4, x5, x6, x7, x8, x9, x10, x11] h = .ok (.f (.lst (L.map fun rs => .d (tD rs)))) g := by
  have b0 : (1000 : Nat) < sizeLine := by decide
  have it : evI f_law_13_E (.seq (.var 3)) [x0, x1, .v (.r a), .v (.d (.lst (L.map hD))), x4, x5, x6, x7, x8, x9, x10, x11] h = .ok (L.map hA, .fz) h := by
    simp [evI, evE, Function.comp_def, hA]
  have no : noOwn [x0, x1, .v (.r a), .v (.d (.lst (L.map hD))), x4, x5, x6, x7, x8, x9, x10, x11] [7, 8] = true := by
    cases x7 with
    | own c => exact absurd rfl (n7 c)
    | no => cases x8 with
      | own c => exact absurd rfl (n8 c)
      | no => simp [noOwn]
      | v y => simp [noOwn]
    | v z => cases x8 with
      | own c => exact absurd rfl (n8 c)
      | no => simp [noOwn]
      | v y => simp [noOwn]
  have w : wipeS [x0, x1, .v (.r a), .v (.d (.lst (L.map hD))), x4, x5, x6, x7, x8, x9, x10, x11] [7, 8] = [x0, x1, .v (.r a), .v (.d (.lst (L.map hD))), x4, x5, x6, .no, .no, x9, x10, x11] := by simp [wipeS]
  obtain ⟨g, lc⟩ := lc_any (elt := fun S h => (evE f_law_13_E f_law_13_e2 S h).bind toV1) (cs := fun S h => evTo f_law_13_E none S h) (tg := .tp [.nm 7, .nm 8]) (S := [x0, x1, .v (.r a), .v (.d (.lst (L.map hD))), x4, x5, x6, .no, .no, x9, x10, x11]) hA (fun rs => .d (tD rs)) L (fun rs m h => by
    have C := hL rs m
    have e1 := may_read_ok h (cellT rs) rs C.ok C.le
    have e2 := may_set_ok h (cellT rs) rs C.ok C.le
    refine ⟨[x0, x1, .v (.r a), .v (.d (.lst (L.map hD))), x4, x5, x6, .v (.d (rowsD rs)), .v (.d (cellD (cellT rs) rs)), x9, x10, x11], h ++ [.set (kyL (msR rs))], by simp [hA, hD, evG_tp], by simp [evTo], ?_⟩
    have f1 : (Cell.lst ((sortS (mrR rs [] [])).map sA)).frz = some (.d (.lst ((sortS (mrR rs [] [])).map .str))) := frz_of (toDs_fn Mp.D.str _)
    have f2 : (Cell.lst ((sortS (msR rs)).map sA)).frz = some (.d (.lst ((sortS (msR rs)).map .str))) := frz_of (toDs_fn Mp.D.str _)
    have a1 : evE f_law_13_E (.cal 62 [.var 8]) [x0, x1, .v (.r a), .v (.d (.lst (L.map hD))), x4, x5, x6, .v (.d (rowsD rs)), .v (.d (cellD (cellT rs) rs)), x9, x10, x11] h = .ok (.f (.lst ((sortS (mrR rs [] [])).map sA))) h := by
      rw [evE, evL, evE]
      simp only [List.getElem?_cons_succ, List.getElem?_cons_zero, Res.bind_ok, toV1_v, evL]
      exact e1
    have a2 : evE f_law_13_E (.cal 63 [.var 8]) [x0, x1, .v (.r a), .v (.d (.lst (L.map hD))), x4, x5, x6, .v (.d (rowsD rs)), .v (.d (cellD (cellT rs) rs)), x9, x10, x11] h = .ok (.f (.lst ((sortS (msR rs)).map sA))) (h ++ [.set (kyL (msR rs))]) := by
      rw [evE, evL, evE]
      simp only [List.getElem?_cons_succ, List.getElem?_cons_zero, Res.bind_ok, toV1_v, evL]
      exact e2
    have z2 : 2 ≤ sizeLine := by omega
    rw [f_law_13_e2, evE, evL, a1]
    simp only [Res.bind_ok, toV1_f, f1, ok1_some]
    rw [evL, a2]
    simp only [Res.bind_ok, toV1_f, f2, ok1_some, evL]
    simp [Mp.mkTup, AV.toDs, AV.toD, tD, z2]) [] h (by simp; omega)
  rw [List.nil_append] at lc
  have e := lcm_eq (F := f_law_13_E) (elt := f_law_13_e2) (tg := .tp [.nm 7, .nm 8]) (cs := none) (own := [7, 8]) no it
  rw [w, lc] at e
  exact ⟨g, e⟩
theorem l13_e6 (a : Nat) (h : Hs) (L : List (List Row)) (hL : ∀ rs ∈ L, CellOk rs) (lL : L.length ≤ 100) (x0 x1 x4 x5 x6 x7 x8 x9 x10 x11 : SV) (n7 : ∀ c, x7 ≠ .own c) (n8 : ∀ c, x8 ≠ .own c) :
    ∃ g, evE f_law_13_E (.lcm f_law_13_e6 (.tp [.nm 7, .nm 8]) (.seq (.var 3)) none [7, 8]) [x0, x1, .v (.r a), .v (.d (.lst (L.map hD))), x4, x5, x6, x7, x8, x9, x10, x11] h = .ok (.f (.lst (L.map fun rs => .d (tD rs)))) g := by
  have b0 : (1000 : Nat) < sizeLine := by decide
  have it : evI f_law_13_E (.seq (.var 3)) [x0, x1, .v (.r a), .v (.d (.lst (L.map hD))), x4, x5, x6, x7, x8, x9, x10, x11] h = .ok (L.map hA, .fz) h := by
    simp [evI, evE, Function.comp_def, hA]
  have no : noOwn [x0, x1, .v (.r a), .v (.d (.lst (L.map hD))), x4, x5, x6, x7, x8, x9, x10, x11] [7, 8] = true := by
    cases x7 with
    | own c => exact absurd rfl (n7 c)
    | no => cases x8 with
      | own c => exact absurd rfl (n8 c)
      | no => simp [noOwn]
      | v y => simp [noOwn]
    | v z => cases x8 with
      | own c => exact absurd rfl (n8 c)
      | no => simp [noOwn]
      | v y => simp [noOwn]
  have w : wipeS [x0, x1, .v (.r a), .v (.d (.lst (L.map hD))), x4, x5, x6, x7, x8, x9, x10, x11] [7, 8] = [x0, x1, .v (.r a), .v (.d (.lst (L.map hD))), x4, x5, x6, .no, .no, x9, x10, x11] := by simp [wipeS]
  obtain ⟨g, lc⟩ := lc_any (elt := fun S h => (evE f_law_13_E f_law_13_e6 S h).bind toV1) (cs := fun S h => evTo f_law_13_E none S h) (tg := .tp [.nm 7, .nm 8]) (S := [x0, x1, .v (.r a), .v (.d (.lst (L.map hD))), x4, x5, x6, .no, .no, x9, x10, x11]) hA (fun rs => .d (tD rs)) L (fun rs m h => by
    have C := hL rs m
    have e1 := may_read_ok h (cellT rs) rs C.ok C.le
    have e2 := may_set_ok h (cellT rs) rs C.ok C.le
    refine ⟨[x0, x1, .v (.r a), .v (.d (.lst (L.map hD))), x4, x5, x6, .v (.d (rowsD rs)), .v (.d (cellD (cellT rs) rs)), x9, x10, x11], h ++ [.set (kyL (msR rs))], by simp [hA, hD, evG_tp], by simp [evTo], ?_⟩
    have f1 : (Cell.lst ((sortS (mrR rs [] [])).map sA)).frz = some (.d (.lst ((sortS (mrR rs [] [])).map .str))) := frz_of (toDs_fn Mp.D.str _)
    have f2 : (Cell.lst ((sortS (msR rs)).map sA)).frz = some (.d (.lst ((sortS (msR rs)).map .str))) := frz_of (toDs_fn Mp.D.str _)
    have a1 : evE f_law_13_E (.cal 62 [.var 8]) [x0, x1, .v (.r a), .v (.d (.lst (L.map hD))), x4, x5, x6, .v (.d (rowsD rs)), .v (.d (cellD (cellT rs) rs)), x9, x10, x11] h = .ok (.f (.lst ((sortS (mrR rs [] [])).map sA))) h := by
      rw [evE, evL, evE]
      simp only [List.getElem?_cons_succ, List.getElem?_cons_zero, Res.bind_ok, toV1_v, evL]
      exact e1
    have a2 : evE f_law_13_E (.cal 63 [.var 8]) [x0, x1, .v (.r a), .v (.d (.lst (L.map hD))), x4, x5, x6, .v (.d (rowsD rs)), .v (.d (cellD (cellT rs) rs)), x9, x10, x11] h = .ok (.f (.lst ((sortS (msR rs)).map sA))) (h ++ [.set (kyL (msR rs))]) := by
      rw [evE, evL, evE]
      simp only [List.getElem?_cons_succ, List.getElem?_cons_zero, Res.bind_ok, toV1_v, evL]
      exact e2
    have z2 : 2 ≤ sizeLine := by omega
    rw [f_law_13_e6, evE, evL, a1]
    simp only [Res.bind_ok, toV1_f, f1, ok1_some]
    rw [evL, a2]
    simp only [Res.bind_ok, toV1_f, f2, ok1_some, evL]
    simp [Mp.mkTup, AV.toDs, AV.toD, tD, z2]) [] h (by simp; omega)
  rw [List.nil_append] at lc
  have e := lcm_eq (F := f_law_13_E) (elt := f_law_13_e6) (tg := .tp [.nm 7, .nm 8]) (cs := none) (own := [7, 8]) no it
  rw [w, lc] at e
  exact ⟨g, e⟩
theorem l13_p5 (a : Nat) (h : Hs) (L : List (List Row)) (hL : ∀ rs ∈ L, CellOk rs) (lL : L.length ≤ 100) {rs : List Row} (C : CellOk rs) (x0 x1 x4 x5 x6 : SV) :
    evSs f_law_13_E f_law_13_p5 [x0, x1, .v (.r a), .v (.d (.lst (L.map hD))), x4, x5, x6, .v (.d (rowsD rs)), .v (.d (cellD (cellT rs) rs)), .no, .no, .no] h = .nx [x0, x1, .v (.r a), .v (.d (.lst (L.map hD))), x4, x5, x6, .v (.d (rowsD rs)), .v (.d (cellD (cellT rs) rs)), .no, .no, .no] h := by
  have b0 : (1000 : Nat) < sizeLine := by decide
  have le := C.le
  have cr := cm_rows C
  have q := eqO_d (h := h) cr cr
  rw [dEq_self cr.1] at q
  have cv := cellD_vw (cellT rs) rs h
  have ce := cell_ok C.rows h
  have cf := cell_frz rs
  have n2 : (Str.ofString "text" == Str.ofString "rows") = false := by decide +kernel
  have i1 : evT f_law_13_E (.cmp .NotEq (.fld [1] (.var 8) "rows") (.var 7)) [x0, x1, .v (.r a), .v (.d (.lst (L.map hD))), x4, x5, x6, .v (.d (rowsD rs)), .v (.d (cellD (cellT rs) rs)), .no, .no, .no] h = .ok false h := by
    have l := rows_fld (cellT rs) rs
    have vv : (RV.v (.d (cellD (cellT rs) rs))).vw h = some (.ins 1 [("rows", .d (rowsD rs)), ("text", .d (.str (cellT rs)))]) := cv
    have m : (1 : Nat) ∈ [1] := List.mem_singleton.mpr rfl
    have ef : evE f_law_13_E (.fld [1] (.var 8) "rows") [x0, x1, .v (.r a), .v (.d (.lst (L.map hD))), x4, x5, x6, .v (.d (rowsD rs)), .v (.d (cellD (cellT rs) rs)), .no, .no, .no] h = .ok (.v (.d (rowsD rs))) h := by
      simp only [evE, List.getElem?_cons_succ, List.getElem?_cons_zero, Res.bind_ok, vv, m, if_true, l, Option.map_some, ok1_some]
    rw [evT, ef]
    simp [evE, q]
  have lc := lc_map (elt := fun S h => (evE f_law_13_E f_law_13_e3 S h).bind toV1) (cs := fun S h => evTo f_law_13_E none S h) (S := [x0, x1, .v (.r a), .v (.d (.lst (L.map hD))), x4, x5, x6, .v (.d (rowsD rs)), .v (.d (cellD (cellT rs) rs)), .no, .no, .no]) (i := 11)
    (fun r => .d (rowD r)) (fun r => sA (rowT r)) h rs (fun r m => ⟨by simp [evTo], by
      have e := (row_text_ok r (C.ok r m).ok (C.ok r m).wf h).1
      simp [Mp.run, evSs, evS, evE, evT, evTs, evTo, evL, evR, evB, evI, evO, Res.st, wipeS, noOwn, binO_eq, mkTup, AV.toDs, AV.toD, Cell.frz, evG_tp, forGo, SrcOk, lcGo, Vw.ty, tyAny, tyIs, kb_int, kb_bool, kb_str, kb_tup, f_law_13_e3, e, sA]⟩) [] (by simp; omega)
  simp only [List.nil_append] at lc
  have it : evI f_law_13_E (.seq (.var 7)) [x0, x1, .v (.r a), .v (.d (.lst (L.map hD))), x4, x5, x6, .v (.d (rowsD rs)), .v (.d (cellD (cellT rs) rs)), .no, .no, .no] h = .ok (rs.map (fun r => .d (rowD r)), .fz) h := by
    simp [evI, evE, rowsD, Function.comp_def]
  have el := lcm_eq (F := f_law_13_E) (elt := f_law_13_e3) (tg := .nm 11) (cs := none) (own := [11]) (by simp [noOwn]) it
  have w11 : wipeS [x0, x1, .v (.r a), .v (.d (.lst (L.map hD))), x4, x5, x6, .v (.d (rowsD rs)), .v (.d (cellD (cellT rs) rs)), .no, .no, .no] [11] = [x0, x1, .v (.r a), .v (.d (.lst (L.map hD))), x4, x5, x6, .v (.d (rowsD rs)), .v (.d (cellD (cellT rs) rs)), .no, .no, .no] := by simp [wipeS]
  rw [w11, lc] at el
  have jn : evE f_law_13_E (.met .join (.cst (.str "\n")) [.lcm f_law_13_e3 (.nm 11) (.seq (.var 7)) none [11]]) [x0, x1, .v (.r a), .v (.d (.lst (L.map hD))), x4, x5, x6, .v (.d (rowsD rs)), .v (.d (cellD (cellT rs) rs)), .no, .no, .no] h = .ok (dS (cellT rs)) h := join_rows C el
  have mk : evE f_law_13_E (.mk 1 [.met .join (.cst (.str "\n")) [.lcm f_law_13_e3 (.nm 11) (.seq (.var 7)) none [11]]]) [x0, x1, .v (.r a), .v (.d (.lst (L.map hD))), x4, x5, x6, .v (.d (rowsD rs)), .v (.d (cellD (cellT rs) rs)), .no, .no, .no] h = .ok (.f (.ins 1 [("rows", .d (rowsD rs)), ("text", .d (.str (cellT rs)))])) h := by
    rw [evE, evL, jn]
    simp only [Res.bind_ok, dS, toV1_v, evL]
    exact ce
  have ee := cell_eq C C h
  have iv : insB 1 h (.d (cellD (cellT rs) rs)) = true := by
    unfold insB; rw [cv]; simp
  have sa : spA 1 1 h [.d (cellD (cellT rs) rs), .d (cellD (cellT rs) rs)] = true := by
    simp [spA, iv, cv, Vw.ty]
  have i2 : evT f_law_13_E (.val (.spc 1 75 1 [.var 8, .mk 1 [.met .join (.cst (.str "\n")) [.lcm f_law_13_e3 (.nm 11) (.seq (.var 7)) none [11]]]])) [x0, x1, .v (.r a), .v (.d (.lst (L.map hD))), x4, x5, x6, .v (.d (rowsD rs)), .v (.d (cellD (cellT rs) rs)), .no, .no, .no] h = .ok false h := by
    have e : evE f_law_13_E (.spc 1 75 1 [.var 8, .mk 1 [.met .join (.cst (.str "\n")) [.lcm f_law_13_e3 (.nm 11) (.seq (.var 7)) none [11]]]]) [x0, x1, .v (.r a), .v (.d (.lst (L.map hD))), x4, x5, x6, .v (.d (rowsD rs)), .v (.d (cellD (cellT rs) rs)), .no, .no, .no] h = .ok (db false) h := by
      rw [evE, evL, evE]
      simp only [List.getElem?_cons_succ, List.getElem?_cons_zero, Res.bind_ok, toV1_v]
      rw [evL, mk]
      simp only [Res.bind_ok, toV1_f, cf, ok1_some, evL, sa, if_true]
      rw [show f_law_13_E.mth 75 = f_Cell___eq__ from rfl, ee]
      simp [spK, db]
    rw [evT, e]
    simp [db]
  have al : evE f_law_13_E (.blt .all [.lcm f_law_13_e4 (.tp [.nm 9, .nm 10]) (.seq (.var 3)) none [9, 10]]) [x0, x1, .v (.r a), .v (.d (.lst (L.map hD))), x4, x5, x6, .v (.d (rowsD rs)), .v (.d (cellD (cellT rs) rs)), .no, .no, .no] h = .ok (db true) h := by
    have it3 : evI f_law_13_E (.seq (.var 3)) [x0, x1, .v (.r a), .v (.d (.lst (L.map hD))), x4, x5, x6, .v (.d (rowsD rs)), .v (.d (cellD (cellT rs) rs)), .no, .no, .no] h = .ok (L.map hA, .fz) h := by
      simp [evI, evE, Function.comp_def, hA]
    refine all_tg hA (fun ts => [x0, x1, .v (.r a), .v (.d (.lst (L.map hD))), x4, x5, x6, .v (.d (rowsD rs)), .v (.d (cellD (cellT rs) rs)), .v (.d (rowsD ts)), .v (.d (cellD (cellT ts) ts)), .no]) L (by simp [noOwn]) (by simp [wipeS]) it3 (by omega) (fun ts m => ⟨by simp [hA, hD, evG_tp], ?_⟩)
    have C2 := hL ts m
    have cv2 := cellD_vw (cellT ts) ts h
    have e2 := cell_eq C C2 h
    have sa2 : spA 0 1 h [.d (cellD (cellT rs) rs), .d (cellD (cellT ts) ts)] = true := by
      simp [spA, iv, cv2, Vw.ty]
    have q2 := eqO_d (h := h) cr (cm_rows C2)
    have tr := txt_rows C C2
    rw [← tr] at q2
    have e1 : evE f_law_13_E (.spc 0 75 1 [.var 8, .var 10]) [x0, x1, .v (.r a), .v (.d (.lst (L.map hD))), x4, x5, x6, .v (.d (rowsD rs)), .v (.d (cellD (cellT rs) rs)), .v (.d (rowsD ts)), .v (.d (cellD (cellT ts) ts)), .no] h = .ok (db (cellT rs == cellT ts)) h := by
      rw [evE, evL, evE]
      simp only [List.getElem?_cons_succ, List.getElem?_cons_zero, Res.bind_ok, toV1_v]
      rw [evL, evE]
      simp only [List.getElem?_cons_succ, List.getElem?_cons_zero, Res.bind_ok, toV1_v, evL, sa2, if_true]
      rw [show f_law_13_E.mth 75 = f_Cell___eq__ from rfl, e2]
      simp [spK, db]
    have e3 : evE f_law_13_E (.cmp .Eq (.var 7) (.var 9)) [x0, x1, .v (.r a), .v (.d (.lst (L.map hD))), x4, x5, x6, .v (.d (rowsD rs)), .v (.d (cellD (cellT rs) rs)), .v (.d (rowsD ts)), .v (.d (cellD (cellT ts) ts)), .no] h = .ok (db (cellT rs == cellT ts)) h := by
      simp [evE, q2]
    rw [f_law_13_e4, evE, e1]
    simp only [Res.bind_ok, db, ho1_v]
    rw [e3]
    simp [db, eqO_bl]
  have nt : evT f_law_13_E (.nt (.val (.blt .all [.lcm f_law_13_e4 (.tp [.nm 9, .nm 10]) (.seq (.var 3)) none [9, 10]]))) [x0, x1, .v (.r a), .v (.d (.lst (L.map hD))), x4, x5, x6, .v (.d (rowsD rs)), .v (.d (cellD (cellT rs) rs)), .no, .no, .no] h = .ok false h := by
    rw [evT, evT, al]
    simp [db]
  have t1 : evT f_law_13_E (.bop false [.cmp .NotEq (.fld [1] (.var 8) "rows") (.var 7), .val (.spc 1 75 1 [.var 8, .mk 1 [.met .join (.cst (.str "\n")) [.lcm f_law_13_e3 (.nm 11) (.seq (.var 7)) none [11]]]])]) [x0, x1, .v (.r a), .v (.d (.lst (L.map hD))), x4, x5, x6, .v (.d (rowsD rs)), .v (.d (cellD (cellT rs) rs)), .no, .no, .no] h = .ok false h := by
    rw [evT, evTs, i1]
    simp only [Res.bind_ok, if_true]
    rw [evTs, i2]
  rw [f_law_13_p5]
  simp only [evSs, evS_ife, t1, nt, Res.st_ok, Bool.false_eq_true, if_false]
theorem l13_p7 (ns : List Int) (k : Int) (k0 : 0 ≤ k) (k6 : k < 6) (h : Hs) (x2 x3 x4 x5 x6 x7 x8 : SV) (n7 : ∀ c, x7 ≠ .own c) (n8 : ∀ c, x8 ≠ .own c) :
    ∃ (y2 y3 y4 y5 y6 y7 y8 : SV) (g : Hs), evSs f_law_13_E f_law_13_p7 [.v (.d (.scr ns)), .v (.d (.int k)), x2, x3, x4, x5, x6, x7, x8, .no, .no, .no] h = .nx [.v (.d (.scr ns)), .v (.d (.int k)), y2, y3, y4, y5, y6, y7, y8, .no, .no, .no] g ∧ (∀ c, y7 ≠ .own c) ∧ ∀ c, y8 ≠ .own c := by
  obtain ⟨b, eb, ob⟩ := bag_ok h ns k k0 k6
  have b0 : (1000 : Nat) < sizeLine := by decide
  have st1 : evS f_law_13_E (.asg (.nm 2) (.cel (.cal 0 [.var 0, .var 1]))) [.v (.d (.scr ns)), .v (.d (.int k)), x2, x3, x4, x5, x6, x7, x8, .no, .no, .no] h = .nx [.v (.d (.scr ns)), .v (.d (.int k)), .v (.r h.length), x3, x4, x5, x6, x7, x8, .no, .no, .no] (h ++ [b.c]) := by
    simp [evS, evE, evL, eb]
  have st2 : evS f_law_13_E (.asO 3 (.lst [])) [.v (.d (.scr ns)), .v (.d (.int k)), .v (.r h.length), x3, x4, x5, x6, x7, x8, .no, .no, .no] (h ++ [b.c]) = .nx [.v (.d (.scr ns)), .v (.d (.int k)), .v (.r h.length), .own (.lst ([].map hA)), x4, x5, x6, x7, x8, .no, .no, .no] (h ++ [b.c]) := by
    have z0 : 0 ≤ sizeLine := Nat.zero_le _
    simp [evS, evE, evL, z0, Res.st]
  have B0 : B h.length (h ++ [b.c]) := ⟨b, by simp, ob⟩
  obtain ⟨S', h2, e2, L, y4, y6, y7, rfl, hL, lL, m7, B2⟩ := for_sti (body := fun S h => evSs f_law_13_E f_law_13_p1 S h) (i := 4) 6
    (fun n S g => ∃ (L : List (List Row)) (y4 y6 y7 : SV), S = [.v (.d (.scr ns)), .v (.d (.int k)), .v (.r h.length), .own (.lst (L.map hA)), y4, x5, y6, y7, x8, .no, .no, .no] ∧ (∀ rs ∈ L, CellOk rs) ∧ L.length ≤ 3 * n ∧ (∀ c, y7 ≠ .own c) ∧ B h.length g)
    ((List.range (6 : Int).toNat).map fun (i : Nat) => .d (.int i)) (fun x m n S g hn => by
      rintro ⟨L, y4, y6, y7, rfl, hL, lL, m7, hB⟩
      obtain ⟨L2, z6, z7, g', e, hL2, lL2, o7, hB2⟩ := l13_p1 h.length hB L hL (by omega) (.v (.d (.scr ns))) (.v (.d (.int k))) (.v x) x5 y6 y7 x8 .no .no .no m7
      exact ⟨_, g', e, L2, _, _, _, rfl, hL2, by omega, o7, hB2⟩) 0 (by simp) [.v (.d (.scr ns)), .v (.d (.int k)), .v (.r h.length), .own (.lst ([].map hA)), x4, x5, x6, x7, x8, .no, .no, .no] (h ++ [b.c]) ⟨[], x4, x6, x7, rfl, by simp, by simp, n7, B0⟩
  have lL : L.length ≤ 18 := by simpa using lL
  have st3 : evS f_law_13_E (.for_ (.nm 4) (.rng [.cst (.int 6)]) f_law_13_p1) [.v (.d (.scr ns)), .v (.d (.int k)), .v (.r h.length), .own (.lst ([].map hA)), x4, x5, x6, x7, x8, .no, .no, .no] (h ++ [b.c]) = .nx [.v (.d (.scr ns)), .v (.d (.int k)), .v (.r h.length), .own (.lst (L.map hA)), y4, x5, y6, y7, x8, .no, .no, .no] h2 := by
    have rr := rng_ok (n := 6) (by decide) (by decide)
    have ei := rng_ev (F := f_law_13_E) (e := .cst (.int 6)) (S := [.v (.d (.scr ns)), .v (.d (.int k)), .v (.r h.length), .own (.lst ([].map hA)), x4, x5, x6, x7, x8, .no, .no, .no]) (h := h ++ [b.c]) (by rw [evE]) rr
    rw [evS, ei]
    exact e2
  have fz : (Cell.lst (L.map hA)).frz = some (.d (.lst (L.map hD))) := frz_of (toDs_fn hD L)
  have st4 : evS f_law_13_E (.gfz 3) [.v (.d (.scr ns)), .v (.d (.int k)), .v (.r h.length), .own (.lst (L.map hA)), y4, x5, y6, y7, x8, .no, .no, .no] h2 = .nx [.v (.d (.scr ns)), .v (.d (.int k)), .v (.r h.length), .v (.d (.lst (L.map hD))), y4, x5, y6, y7, x8, .no, .no, .no] h2 := by
    simp only [evS, List.getElem?_cons_succ, List.getElem?_cons_zero, fz, List.set_cons_succ, List.set_cons_zero]
  obtain ⟨g3, e3⟩ := l13_e2 h.length h2 L hL (by omega) (.v (.d (.scr ns))) (.v (.d (.int k))) y4 x5 y6 y7 x8 .no .no .no m7 n8
  have fz2 : (Cell.lst (L.map fun rs => AV.d (tD rs))).frz = some (.d (.lst (L.map tD))) := frz_of (toDs_fn tD L)
  have st5 : evS f_law_13_E (.asg (.nm 5) (.lcm f_law_13_e2 (.tp [.nm 7, .nm 8]) (.seq (.var 3)) none [7, 8])) [.v (.d (.scr ns)), .v (.d (.int k)), .v (.r h.length), .v (.d (.lst (L.map hD))), y4, x5, y6, y7, x8, .no, .no, .no] h2 = .nx [.v (.d (.scr ns)), .v (.d (.int k)), .v (.r h.length), .v (.d (.lst (L.map hD))), y4, .v (.d (.lst (L.map tD))), y6, y7, x8, .no, .no, .no] g3 := by
    rw [evS, e3]
    simp only [Res.st_ok, toV1_f, fz2, ok1_some, evG_nm, List.set_cons_succ, List.set_cons_zero]
  have it : evI f_law_13_E (.seq (.var 3)) [.v (.d (.scr ns)), .v (.d (.int k)), .v (.r h.length), .v (.d (.lst (L.map hD))), y4, .v (.d (.lst (L.map tD))), y6, y7, x8, .no, .no, .no] g3 = .ok (L.map hA, .fz) g3 := by
    simp [evI, evE, Function.comp_def, hA]
  obtain ⟨S', e6, z7, z8, rfl, o7, o8⟩ := for_tgt (body := fun S h => evSs f_law_13_E f_law_13_p5 S h) (tg := .tp [.nm 7, .nm 8]) hA
    (fun S => ∃ z7 z8, S = [.v (.d (.scr ns)), .v (.d (.int k)), .v (.r h.length), .v (.d (.lst (L.map hD))), y4, .v (.d (.lst (L.map tD))), y6, z7, z8, .no, .no, .no] ∧ (∀ c, z7 ≠ .own c) ∧ ∀ c, z8 ≠ .own c) g3 L (fun rs m S hP => by
      obtain ⟨z7, z8, rfl, o7, o8⟩ := hP
      have e := l13_p5 h.length g3 L hL (by omega) (hL rs m) (.v (.d (.scr ns))) (.v (.d (.int k))) y4 (.v (.d (.lst (L.map tD)))) y6
      exact ⟨_, _, by simp [hA, hD, evG_tp], e, _, _, rfl, fun c z => (nomatch z), fun c z => (nomatch z)⟩) [.v (.d (.scr ns)), .v (.d (.int k)), .v (.r h.length), .v (.d (.lst (L.map hD))), y4, .v (.d (.lst (L.map tD))), y6, y7, x8, .no, .no, .no] ⟨y7, x8, rfl, m7, n8⟩
  have st6 : evS f_law_13_E (.for_ (.tp [.nm 7, .nm 8]) (.seq (.var 3)) f_law_13_p5) [.v (.d (.scr ns)), .v (.d (.int k)), .v (.r h.length), .v (.d (.lst (L.map hD))), y4, .v (.d (.lst (L.map tD))), y6, y7, x8, .no, .no, .no] g3 = .nx [.v (.d (.scr ns)), .v (.d (.int k)), .v (.r h.length), .v (.d (.lst (L.map hD))), y4, .v (.d (.lst (L.map tD))), y6, z7, z8, .no, .no, .no] g3 := by
    rw [evS, it, Res.st_ok, e6]
  obtain ⟨g4, e7⟩ := l13_e6 h.length g3 L hL (by omega) (.v (.d (.scr ns))) (.v (.d (.int k))) y4 (.v (.d (.lst (L.map tD)))) y6 z7 z8 .no .no .no o7 o8
  have cm : Cm (.lst (L.map tD)) := by
    have o : ∀ rs ∈ L, okD (tD rs) = true ∧ dpD (tD rs) ≤ 20 := fun rs m => by
      have c1 := cm_tx (mr_nm (rs := rs) fun r mr => ((hL rs m).ok r mr).ok)
      have c2 := cm_tx (ms_nm (rs := rs) fun r mr => ((hL rs m).ok r mr).ok)
      have d : ∀ l : List Str, dpDs (l.map Mp.D.str) ≤ 0 := fun l => dpDs_map fun x _ => by simp [dpD]
      have d1 := d (sortS (mrR rs [] []))
      have d2 := d (sortS (msR rs))
      have k1 : okDs ((sortS (mrR rs [] [])).map Mp.D.str) = true := by simpa only [okD] using c1.1
      have k2 : okDs ((sortS (msR rs)).map Mp.D.str) = true := by simpa only [okD] using c2.1
      exact ⟨by simp only [tD, okD, okDs, k1, k2, Bool.and_self], by simp only [tD, dpD, dpDs]; omega⟩
    exact Cm_lst ⟨okDs_map fun rs m => (o rs m).1, Nat.le_trans (dpDs_map fun rs m => (o rs m).2) (by omega)⟩
  have eqq : eqO g4 (.v (.d (.lst (L.map tD)))) (.f (.lst (L.map fun rs => AV.d (tD rs)))) = some true := by
    have r : (RV.f (.lst (L.map fun rs => AV.d (tD rs)))).res g4 = some (.lst (L.map tD)) := by
      simp only [RV.res, Cell.res, fz2, Option.bind_some]
      rfl
    rw [eqO_res rfl r cm cm, dEq_self cm.1]
  have t7 : evT f_law_13_E (.cmp .NotEq (.var 5) (.lcm f_law_13_e6 (.tp [.nm 7, .nm 8]) (.seq (.var 3)) none [7, 8])) [.v (.d (.scr ns)), .v (.d (.int k)), .v (.r h.length), .v (.d (.lst (L.map hD))), y4, .v (.d (.lst (L.map tD))), y6, z7, z8, .no, .no, .no] g3 = .ok false g4 := by
    rw [evT, evE]
    simp only [List.getElem?_cons_succ, List.getElem?_cons_zero, Res.bind_ok, ho1_v, e7]
    simp [eqq]
  refine ⟨.v (.r h.length), .v (.d (.lst (L.map hD))), y4, .v (.d (.lst (L.map tD))), y6, z7, z8, g4, ?_, o7, o8⟩
  rw [f_law_13_p7]
  simp only [evSs, st1, st2, st3, st4, st5, st6, evS_ife, t7, Res.st_ok, Bool.false_eq_true, if_false]
def Ra : List Row := [.sho (one1 (.nm "a"))]
def Rb' : List Row := [.sho (one1 (.nm "b"))]
def Rz : List Row := [.sho [⟨-1, .nm "a", [(true, .num 2)]⟩]]
theorem CRa : CellOk Ra := ⟨fun r m => by
  simp only [Ra, List.mem_singleton] at m; subst m; exact rw_sho (one_ok (x := .nm "a") nm_a), by simp [Ra], by simp [Ra]⟩
theorem CRb : CellOk Rb' := ⟨fun r m => by
  simp only [Rb', List.mem_singleton] at m; subst m; exact rw_sho (one_ok (x := .nm "b") nm_b), by simp [Rb'], by simp [Rb']⟩
theorem CRz : CellOk Rz := ⟨fun r m => by
  simp only [Rz, List.mem_singleton] at m; subst m
  refine rw_sho ⟨fun q m => ?_, by simp, by simp [sumN]⟩
  simp only [List.mem_singleton] at m; subst m
  exact ⟨.inr rfl, nm_a, fun q m => by simp only [List.mem_singleton] at m; subst m; exact ⟨by decide, by decide⟩, by simp⟩, by simp [Rz], by simp [Rz]⟩
theorem TRa : cellT Ra = "show a" := by decide +kernel
theorem TRb : cellT Rb' = "show b" := by decide +kernel
theorem TRz : cellT Rz = "show - a * 2" := by decide +kernel
theorem mk_closed {F : Fn} {S : List SV} {h : Hs} {rs : List Row} (hF : F.ini 1 = f_Cell_new) (C : CellOk rs) : evE F (.mk 1 [.cst (.str (cellT rs))]) S h = .ok (.f (.ins 1 [("rows", .d (rowsD rs)), ("text", .d (.str (cellT rs)))])) h := by
  rw [evE, evL, evE]
  simp only [Res.bind_ok, toV1_v, evL, hF]
  exact cell_ok C.rows h
theorem l13_end (h : Hs) (x0 x1 x2 x3 x4 x5 x6 x7 x8 x9 x10 x11 : SV) : evSs f_law_13_E (f_law_13_b.drop 1) [x0, x1, x2, x3, x4, x5, x6, x7, x8, x9, x10, x11] h = .rt (db true) h := by
  have m1 := mk_closed (F := f_law_13_E) (S := [x0, x1, x2, x3, x4, x5, x6, x7, x8, x9, x10, x11]) (h := h) rfl CRa
  have m2 := mk_closed (F := f_law_13_E) (S := [x0, x1, x2, x3, x4, x5, x6, x7, x8, x9, x10, x11]) (h := h) rfl CRb
  have m3 := mk_closed (F := f_law_13_E) (S := [x0, x1, x2, x3, x4, x5, x6, x7, x8, x9, x10, x11]) (h := h) rfl CRz
  have ee := cell_eq CRa CRb h
  have es := cell_str CRz h
  have f1 := cell_frz Ra
  have f2 := cell_frz Rb'
  have f3 := cell_frz Rz
  have v1 := cellD_vw (cellT Ra) Ra h
  have v2 := cellD_vw (cellT Rb') Rb' h
  have v3 := cellD_vw (cellT Rz) Rz h
  rw [TRa] at m1 f1 v1 ee
  rw [TRb] at m2 f2 v2 ee
  rw [TRz] at m3 f3 v3 es
  have nab : (Str.ofString "show a" == Str.ofString "show b") = false := by decide +kernel
  rw [nab] at ee
  have i1 : insB 1 h (.d (cellD "show a" Ra)) = true := by unfold insB; rw [v1]; simp
  have i3 : insB 1 h (.d (cellD "show - a * 2" Rz)) = true := by unfold insB; rw [v3]; simp
  have sa : spA 1 1 h [.d (cellD "show a" Ra), .d (cellD "show b" Rb')] = true := by simp [spA, i1, v2, Vw.ty]
  have sb : spA 3 1 h [.d (cellD "show - a * 2" Rz)] = true := by simp [spA, i3]
  have e1 : evE f_law_13_E (.spc 1 75 1 [.mk 1 [.cst (.str "show a")], .mk 1 [.cst (.str "show b")]]) [x0, x1, x2, x3, x4, x5, x6, x7, x8, x9, x10, x11] h = .ok (db true) h := by
    rw [evE, evL, m1]
    simp only [Res.bind_ok, toV1_f, f1, ok1_some]
    rw [evL, m2]
    simp only [Res.bind_ok, toV1_f, f2, ok1_some, evL, sa, if_true]
    rw [show f_law_13_E.mth 75 = f_Cell___eq__ from rfl, ee]
    simp [spK, db]
  have e2 : evE f_law_13_E (.spc 3 76 1 [.mk 1 [.cst (.str "show - a * 2")]]) [x0, x1, x2, x3, x4, x5, x6, x7, x8, x9, x10, x11] h = .ok (dS "show - a * 2") h := by
    rw [evE, evL, m3]
    simp only [Res.bind_ok, toV1_f, f3, ok1_some, evL, sb, if_true]
    rw [show f_law_13_E.mth 76 = f_Cell___str__ from rfl, es]
    simp [spK, dS]
  have c3 : Cm (.str (Str.ofString "show - a * 2")) := ⟨by decide +kernel, by decide⟩
  have q3 := eqO_d (h := h) c3 c3
  rw [dEq_self c3.1] at q3
  rw [show f_law_13_b.drop 1 = [.ret (.bop true [.spc 1 75 1 [.mk 1 [.cst (.str "show a")], .mk 1 [.cst (.str "show b")]], .cmp .Eq (.spc 3 76 1 [.mk 1 [.cst (.str "show - a * 2")]]) (.cst (.str "show - a * 2"))])] from rfl]
  rw [evSs, evS, evE, evB, e1]
  simp only [Res.bind_ok, db, asB_bl, if_true, evB]
  rw [evE, e2]
  simp only [Res.bind_ok, dS, ho1_v, evE, cop_eq, q3, Option.map_some, ok1_some, Res.st_ok]
theorem sem : ∀ ns : List Int, ns.length ≤ 63 → ∃ h', f_law_13 [.d (.scr ns)] [] = .ok (db true) h' := by
  intro ns hn
  obtain ⟨j, hj, j0, j1⟩ : ∃ j : Int, evE f_law_13_E (.blt .max2 [.cst (.int 2), .blt .min2 [.cst (.int 5), .blt .len [.var 0]]]) [.v (.d (.scr ns)), .no, .no, .no, .no, .no, .no, .no, .no, .no, .no, .no] [] = .ok (di j) [] ∧ 0 ≤ j ∧ j ≤ 5 := by
    refine ⟨if (if (ns.length : Int) < 5 then (ns.length : Int) else 5) > 2 then (if (ns.length : Int) < 5 then (ns.length : Int) else 5) else 2, ?_, ?_, ?_⟩
    · simp [evE, evR]
    · split <;> split <;> omega
    · split <;> split <;> omega
  have rr := rng_ok j0 (by omega)
  have ei := rng_ev hj rr
  obtain ⟨S, h2, e2, y1, y2, y3, y4, y5, y6, y7, y8, rfl, _⟩ := for_st (body := fun S h => evSs f_law_13_E f_law_13_p7 S h) (i := 1)
    (fun S g => ∃ x1 x2 x3 x4 x5 x6 x7 x8, S = [.v (.d (.scr ns)), x1, x2, x3, x4, x5, x6, x7, x8, .no, .no, .no] ∧ (∀ c, x7 ≠ .own c) ∧ ∀ c, x8 ≠ .own c)
    ((List.range j.toNat).map fun (i : Nat) => .d (.int i)) (fun x m S g => by
      rintro ⟨x1, x2, x3, x4, x5, x6, x7, x8, rfl, n7, n8⟩
      simp only [List.mem_map, List.mem_range] at m
      obtain ⟨i, hi, rfl⟩ := m
      obtain ⟨y2, y3, y4, y5, y6, y7, y8, h', e, m7, m8⟩ := l13_p7 ns i (by omega) (by omega) g x2 x3 x4 x5 x6 x7 x8 n7 n8
      exact ⟨_, h', e, _, _, _, _, _, _, _, _, rfl, m7, m8⟩) [.v (.d (.scr ns)), .no, .no, .no, .no, .no, .no, .no, .no, .no, .no, .no] [] ⟨_, _, _, _, _, _, _, _, rfl, fun c z => (nomatch z), fun c z => (nomatch z)⟩
  have e3 := l13_end h2 (.v (.d (.scr ns))) y1 y2 y3 y4 y5 y6 y7 y8 .no .no .no
  refine ⟨h2, ?_⟩
  have u : evSs f_law_13_E f_law_13_b [.v (.d (.scr ns)), .no, .no, .no, .no, .no, .no, .no, .no, .no, .no, .no] [] = .rt (db true) h2 := by
    rw [show f_law_13_b = .for_ (.nm 1) (.rng [.blt .max2 [.cst (.int 2), .blt .min2 [.cst (.int 5), .blt .len [.var 0]]]]) f_law_13_p7 :: f_law_13_b.drop 1 from rfl, evSs, evS, ei]
    simp only [Res.st_ok]
    rw [e2]
    exact e3
  have v : f_law_13 [.d (.scr ns)] [] = (match evSs f_law_13_E f_law_13_b [.v (.d (.scr ns)), .no, .no, .no, .no, .no, .no, .no, .no, .no, .no, .no] [] with | .rt r h => .ok r h | .nx _ h => .ok dn h | .exc e _ h => .exc e h | _ => .bad) := rfl
  rw [v, u]
end K


set_option Elab.async false
set_option linter.all false
open PySem PySem.W PyProof.Rows
set_option maxRecDepth 100000 in
set_option maxHeartbeats 0 in
theorem PySem.Challenge.cw_freshcells_k08_texts_and_rows_holds : PySem.Challenge.rw_freshcells_k08_texts_and_rows.Holds := by
  w_on; o_law; k_head; (case hw => w_witness2)
  k_fill
  refine K.walk (l := PySem.Challenge.rw_freshcells_k08_texts_and_rows) rfl rfl (fun w h Y => PySem.W.kIn_of Y) ?F
  case F =>
    intro w mg fa h KX G hmg
    refine' K.all_mk K.sem KX G hmg ?q_aC1 ?q_pg1 ?q_hd1 ?q_po1 ?q_sa1 ?q_mk1 ?q_kc1 ?q_ua1 ?q_un1 ?q_ut1 ?q_um1 ?q_ue1 ?q_uq1 ?q_ub1 ?q_ux1_0 ?q_uy1_0 ?q_ux1_1 ?q_uy1_1 ?q_ux1_2 ?q_uy1_2 ?q_ux1_3 ?q_uy1_3 ?q_ux1_4 ?q_uy1_4 ?q_ux1_5 ?q_uy1_5 ?q_ux1_6 ?q_uy1_6 ?q_fl0 ?q_fl1 ?q_a0 ?q_l0 ?q_c0 ?q_k0 ?q_a1 ?q_l1 ?q_c1 ?q_k1 ?q_a2 ?q_l2 ?q_c2 ?q_k2 ?q_a3 ?q_l3 ?q_c3 ?q_k3 ?q_a4 ?q_l4 ?q_c4 ?q_k4 ?q_a5 ?q_l5 ?q_c5 ?q_k5 ?q_a6 ?q_l6 ?q_c6 ?q_k6 ?q_a7 ?q_l7 ?q_c7 ?q_k7 ?q_a8 ?q_l8 ?q_c8 ?q_k8 ?q_a9 ?q_l9 ?q_c9 ?q_k9 ?q_a10 ?q_l10 ?q_c10 ?q_k10 ?q_a11 ?q_l11 ?q_c11 ?q_k11 ?q_a12 ?q_l12 ?q_c12 ?q_k12 ?q_a13 ?q_l13 ?q_c13 ?q_k13 ?q_a14 ?q_i14 ?q_l14 ?q_c14 ?q_k14 ?q_a15 ?q_l15 ?q_c15 ?q_k15 ?q_a16 ?q_l16 ?q_c16 ?q_k16 ?q_a17 ?q_l17 ?q_c17 ?q_k17 ?q_a18 ?q_l18 ?q_c18 ?q_k18 ?q_a19 ?q_l19 ?q_c19 ?q_k19 ?q_a20 ?q_l20 ?q_c20 ?q_k20 ?q_a21 ?q_l21 ?q_c21 ?q_k21 ?q_a22 ?q_i22 ?q_l22 ?q_c22 ?q_k22 ?q_a23 ?q_i23 ?q_l23 ?q_c23 ?q_k23 ?q_a24 ?q_l24 ?q_c24 ?q_k24 ?q_g0 ?q_g1 ?q_gl1 ?q_gk1 ?q_go1 ?q_ge1 ?q_g2 ?q_g3 ?q_gl3 ?q_g4 ?q_g5 ?q_z0 ?q_z1 ?q_z2 ?q_z3 ?q_z4 ?q_z5 ?q_z6 ?q_z7 ?q_z8 ?q_z9 ?q_z10 ?q_z11 ?q_z12 ?q_z13
    (case q_aC1 => k_is); (case q_pg1 => k_is); (case q_hd1 => k_is); (case q_po1 => k_is); (case q_sa1 => k_is); (case q_mk1 => k_is); (case q_kc1 => k_is); (case q_ua1 => k_is)
    (case q_un1 => k_is); (case q_ut1 => k_is); (case q_um1 => k_is); (case q_ue1 => kit_is); (case q_uq1 => k_is); (case q_ub1 => k_is); (case q_ux1_0 => kit_is); (case q_uy1_0 => k_is)
    (case q_ux1_1 => kit_is); (case q_uy1_1 => k_is); (case q_ux1_2 => kit_is); (case q_uy1_2 => k_is); (case q_ux1_3 => kit_is); (case q_uy1_3 => k_is); (case q_ux1_4 => kit_is); (case q_uy1_4 => k_is)
    (case q_ux1_5 => kit_is); (case q_uy1_5 => k_is); (case q_ux1_6 => kit_is); (case q_uy1_6 => k_is); (case q_fl0 => k_is); (case q_fl1 => k_is); (case q_a0 => k_is); (case q_l0 => k_is)
    (case q_c0 => k_is); (case q_k0 => k_is); (case q_a1 => k_is); (case q_l1 => k_is); (case q_c1 => k_is); (case q_k1 => k_is); (case q_a2 => k_is); (case q_l2 => k_is)
    (case q_c2 => k_is); (case q_k2 => k_is); (case q_a3 => k_is); (case q_l3 => k_is); (case q_c3 => k_is); (case q_k3 => k_is); (case q_a4 => k_is); (case q_l4 => k_is)
    (case q_c4 => k_is); (case q_k4 => k_is); (case q_a5 => k_is); (case q_l5 => k_is); (case q_c5 => k_is); (case q_k5 => k_is); (case q_a6 => k_is); (case q_l6 => k_is)
    (case q_c6 => k_is); (case q_k6 => k_is); (case q_a7 => k_is); (case q_l7 => k_is); (case q_c7 => k_is); (case q_k7 => k_is); (case q_a8 => k_is); (case q_l8 => k_is)
    (case q_c8 => k_is); (case q_k8 => k_is); (case q_a9 => k_is); (case q_l9 => k_is); (case q_c9 => k_is); (case q_k9 => k_is); (case q_a10 => k_is); (case q_l10 => k_is)
    (case q_c10 => k_is); (case q_k10 => k_is); (case q_a11 => k_is); (case q_l11 => k_is); (case q_c11 => k_is); (case q_k11 => k_is); (case q_a12 => k_is); (case q_l12 => k_is)
    (case q_c12 => k_is); (case q_k12 => k_is); (case q_a13 => k_is); (case q_l13 => k_is); (case q_c13 => k_is); (case q_k13 => k_is); (case q_a14 => k_is); (case q_i14 => k_is)
    (case q_l14 => k_is); (case q_c14 => k_is); (case q_k14 => k_is); (case q_a15 => k_is); (case q_l15 => k_is); (case q_c15 => k_is); (case q_k15 => k_is); (case q_a16 => k_is)
    (case q_l16 => k_is); (case q_c16 => k_is); (case q_k16 => k_is); (case q_a17 => k_is); (case q_l17 => k_is); (case q_c17 => k_is); (case q_k17 => k_is); (case q_a18 => k_is)
    (case q_l18 => k_is); (case q_c18 => k_is); (case q_k18 => k_is); (case q_a19 => k_is); (case q_l19 => k_is); (case q_c19 => k_is); (case q_k19 => k_is); (case q_a20 => k_is)
    (case q_l20 => k_is); (case q_c20 => k_is); (case q_k20 => k_is); (case q_a21 => k_is); (case q_l21 => k_is); (case q_c21 => k_is); (case q_k21 => k_is); (case q_a22 => k_is)
    (case q_i22 => k_is); (case q_l22 => k_is); (case q_c22 => k_is); (case q_k22 => k_is); (case q_a23 => k_is); (case q_i23 => k_is); (case q_l23 => k_is); (case q_c23 => k_is)
    (case q_k23 => k_is); (case q_a24 => k_is); (case q_l24 => k_is); (case q_c24 => k_is); (case q_k24 => k_is); (case q_g0 => k_is); (case q_g1 => k_is); (case q_gl1 => k_is)
    (case q_g2 => k_is); (case q_g3 => k_is); (case q_gl3 => k_is); (case q_g4 => k_is); (case q_g5 => k_is); (case q_z0 => k_is); (case q_z1 => k_is); (case q_z2 => k_is)
    (case q_z3 => k_is); (case q_z4 => k_is); (case q_z5 => k_is); (case q_z6 => k_is); (case q_z7 => k_is); (case q_z8 => k_is); (case q_z9 => k_is); (case q_z10 => k_is)
    (case q_z11 => k_is); (case q_z12 => k_is); (case q_z13 => k_is)
    (case q_gk1 => k_keys)
    (case q_go1 => decide)
    (case q_ge1 => rfl)
