import PyProof.Rows.All
import Wide.All
import OpenK.AllK
import Wide.FinOn
import HandS.ForMost
import HandS.EndBits
import HandS.Walk
import HandS.Conv
import HandS.Strs
import HandS.SetFor
import HandS.IsInst
import HandS.SortInts
import HandS.TupAny
import HandS.Flow
import HandS.Wide
import KE.SortData
import KE.GoesEnum
import HandS.Codes
import PyProof.ReprLen
import PySem.Challenge.RW_putbetween_k15_whole_meets_left_out
set_option Elab.async false
set_option linter.all false
set_option maxRecDepth 100000
/-! Own rules over the hand layer: products of great ints, a name that holds a list or a tuple, enumerate of it, repr of data, sorted of nested tuples, set of a list. -/
namespace Pb
open PySem PySem.Spec PyProof.Rows L2

/-! ### int * int wherever the product is no giant -/
theorem op_mulI {X : Cx} : OpR X (binaryOp .Mult) (rI IntMulOk fun i j => .int (i * j)) :=
  opI fun _ _ _ _ _ _ _ hc q => mul_int q hc

/-! ### a list or a tuple, told apart by a flag -/
def sqO (b : Bool) (xs : List V) : HO := if b = true then .lst xs else .tup xs
def SqB (b : Bool) (K : PySem.W.Frag) (H : Hp) (a : Addr) (xs : List V) : Prop := if b = true then SqL K H a xs else SqT K H a xs
theorem SqB.of {b : Bool} {K : PySem.W.Frag} {H : Hp} {a : Addr} {xs : List V} (h : H a = some (sqO b xs)) : SqB b K H a xs := by
  cases b
  · exact Or.inl (Or.inl h)
  · exact Or.inl (Or.inl h)
theorem SqB.or {b : Bool} {K : PySem.W.Frag} {H : Hp} {a : Addr} {xs : List V} (h : SqB b K H a xs) : SqL K H a xs ∨ SqT K H a xs := by
  cases b
  · exact Or.inr h
  · exact Or.inl h

/-- for x in a name that holds a list or a tuple -/
def iSeq (K : PySem.W.Frag) (i : Nat) : TI := fun σ H R => ∃ (b : Bool) (a : Addr) (xs : List V), σ[i]? = some (some (.ref a)) ∧ SqB b K H a xs ∧
  ∀ J, Walk J xs.length (fun H' => SqB b K H' a xs) (YAt xs) → R J H
theorem pi_seq {X : Cx} {tg : Expr} {i : Nat} {x : Str} {p : Pos} (hv : PE X (.Name x p) (tVar i)) : PI X tg (.Name x p) (iSeq X.K i) := by
  refine ⟨fun pins s σ H R I h => ?_⟩
  obtain ⟨b, a, xs, hs, hq, r⟩ := h
  cases b with
  | true => exact (pi_list hv).run pins s σ H R I ⟨_, hs, a, rfl, ⟨xs, hq⟩, r _ walk_list⟩
  | false => exact (pi_tup hv).run pins s σ H R I ⟨_, hs, a, rfl, ⟨xs, hq⟩, r _ walk_tup⟩

end Pb

set_option Elab.async false
set_option linter.all false
set_option maxRecDepth 100000
namespace Pb
open PySem PySem.Spec PyProof.Rows L2

/-! ### repr of data -/
def rRepr (K : PySem.W.Frag) : List V → Hp → VK → Prop := fun xs H Q => ∃ (a : Addr) (d : PyData), xs = [.ref a] ∧ Dp K H (.ref a) d ∧ d.showable = true ∧ d.hasDict = false ∧ d.depth ≤ 8 ∧ d.shown.length ≤ sizeLine ∧ Q (.str d.shown) H
theorem cr_repr {X : Cx} (hg : X.A.guards = some []) (hu : X.A.units + 16 < cLine) : CallR X (.builtin "repr") (rRepr X.K) := by
  intro pins s σ H xs us Q I r h
  obtain ⟨a, d, rfl, hd, h1, h2, h3, h4, q⟩ := h
  rw [Vals.ref1 r]
  obtain ⟨as, rd⟩ := Dp.reads I d _ (.ref a) hd rfl
  refine repr_of_reads' rd h1 (fun z => by rw [h2] at z; cases z) hg (by omega) (fun _ _ e => e) (fun h' u tk k => ?_) h4
  exact ⟨.str d.shown, H, I.kept (t' := tk) k, ⟨u, rfl⟩, q⟩

/-! ### sorted of (length, row) pairs -/
def rowV (r : List Nat) : List V := r.map fun n : Nat => V.int (n : Int)
def encRow (r : List Nat) : PyData := .tuple (r.map fun n : Nat => PyData.int (n : Int))
def encW (r : List Nat) : PyData := .tuple [.int (r.length : Int), encRow r]
def RowAt (H : Hp) (v : V) (r : List Nat) : Prop := ∃ a, v = .ref a ∧ H a = some (.tup (rowV r))
def PairAt (H : Hp) (v : V) (r : List Nat) : Prop := ∃ a u, v = .ref a ∧ H a = some (.tup [.int (r.length : Int), u]) ∧ RowAt H u r
theorem dp_ints {K : PySem.W.Frag} {H : Hp} : ∀ r : List Nat, DpAll K H (rowV r) (r.map fun n : Nat => PyData.int (n : Int))
  | [] => .nil
  | n :: r => .cons (.int _) (dp_ints r)
theorem RowAt.dp {K : PySem.W.Frag} {H : Hp} {v : V} {r : List Nat} (h : RowAt H v r) : Dp K H v (encRow r) := by
  obtain ⟨a, rfl, e⟩ := h
  exact .tup (.inl (.inl e)) (dp_ints r)
theorem PairAt.dp {K : PySem.W.Frag} {H : Hp} {v : V} {r : List Nat} (h : PairAt H v r) : Dp K H v (encW r) := by
  obtain ⟨a, u, rfl, e, hu⟩ := h
  exact .tup (.inl (.inl e)) (.cons (.int _) (.cons hu.dp .nil))
theorem alike_rows : ∀ r s : List Nat, PySem.W.alikeAll (r.map fun n : Nat => PyData.int (n : Int)) (s.map fun n : Nat => PyData.int (n : Int)) = true
  | [], _ => by simp [PySem.W.alikeAll]
  | _ :: _, [] => by simp [PySem.W.alikeAll]
  | n :: r, m :: s => by
    rw [List.map_cons, List.map_cons, PySem.W.alikeAll, alike_rows r s]
    simp [PySem.W.alike]
theorem alike_row (r s : List Nat) : PySem.W.alike (encRow r) (encRow s) = true := by
  unfold encRow
  rw [PySem.W.alike]
  exact alike_rows r s
theorem alike_encW (r s : List Nat) : PySem.W.alike (encW r) (encW s) = true := by
  unfold encW
  rw [PySem.W.alike, PySem.W.alikeAll, PySem.W.alikeAll, alike_row]
  simp [PySem.W.alike, PySem.W.alikeAll]
theorem depth_rows : ∀ r : List Nat, PyData.depthAll (r.map fun n : Nat => PyData.int (n : Int)) = 0
  | [] => by simp [PyData.depthAll]
  | n :: r => by
    rw [List.map_cons, PyData.depthAll, depth_rows r]
    simp [PyData.depth]
theorem depth_encW (r : List Nat) : (encW r).depth ≤ 4 := by
  unfold encW encRow
  simp [PyData.depth, PyData.depthAll, depth_rows]

def wayLe : List Nat → List Nat → Bool := PySem.W.dataLe false encW
def rSortW (K : PySem.W.Frag) : List V → Hp → VK → Prop := fun vs H Q => ∃ (a : Addr) (xs : List V) (bs : List (List Nat)), vs = [.ref a] ∧ SqL K H a xs ∧ Paired (PairAt H) xs bs ∧
  ∀ ys p, Paired (PairAt H) ys (bs.mergeSort wayLe) → H p = none → Q (.ref p) (upd H p (.lst ys))
/-- what a value of the sort stands for -/
def StW (H : Hp) (u : Value) (b : List Nat) : Prop := ∃ v, RelV v u ∧ PairAt H v b
theorem stw_of {H : Hp} : ∀ {xs : List V} {us : List Value} {bs : List (List Nat)}, Vals xs us → Paired (PairAt H) xs bs → PySem.W.EachIs (StW H) us bs
  | _, _, _, .nil, .nil => .nil
  | _, _, _, .cons r rs, .cons p ps => .cons ⟨_, r, p⟩ (stw_of rs ps)
theorem stw_back {H : Hp} : ∀ {us : List Value} {bs : List (List Nat)}, PySem.W.EachIs (StW H) us bs → ∃ ys, Vals ys us ∧ Paired (PairAt H) ys bs
  | _, _, .nil => ⟨[], .nil, .nil⟩
  | _, _, .cons ⟨v, r, p⟩ t => let ⟨ys, a, b⟩ := stw_back t; ⟨v :: ys, .cons r a, .cons p b⟩
theorem cr_sortW {X : Cx} (hu : X.A.units + 16 < cLine) : CallR X (.builtin "sorted") (rSortW X.K) := by
  intro pins s σ H vs us Q I r h
  obtain ⟨a, xs, bs, rfl, hs, hp, q⟩ := h
  rw [Vals.ref1 r]
  obtain ⟨its, rv, hl, hz⟩ := I.list hs
  have e := stw_of rv hp
  have er : PySem.W.EachIs (fun v b => ∃ as, Reads s.heap v (encW b) as) its bs := e.mono fun u b ⟨v, hr, hb⟩ => Dp.reads I _ _ _ hb.dp hr
  have hlen : bs.length = xs.length := by rw [← e.length, rv.length]
  refine PySem.W.sorted_data hl.isList e er (PySem.W.AllAlike.of alike_encW) (PySem.W.Sortable.tuples fun b => ⟨_, _, rfl⟩) (by rw [hlen]; exact hz) (fun b _ => by have := depth_encW b; omega) fun out ho eo => ?_
  obtain ⟨ys, v1, v2⟩ := stw_back eo
  obtain ⟨ep, he⟩ := PyProof.Rows.sortedAll_at s.heap its out.toArray
  have hy : ys.length ≤ sizeLine := by rw [v1.length, ho, hlen]; exact hz
  exact ⟨.ref _, upd H (s.heap.objs.size + 1) (.lst ys), I.laid (t' := s.toks) (fun _ _ => PyProof.Rows.sortedAll_old) (Nat.le_succ _) ⟨hy, out, ep, v1, he⟩, rfl, q _ _ v2 (I.hok.fresh (Nat.le_succ _))⟩
end Pb

set_option Elab.async false
set_option linter.all false
set_option maxRecDepth 100000
namespace Pb
open PySem PySem.Spec PyProof.Rows L2

/-! ### set(a list of ints) -/
/-- a set as it is when it is new -/
abbrev newSet (w : World) : Obj := { cls := .type "set", dict := none, data := .set #[] 0 (.fresh 0 0 (!w.params.followText "set-order")) }
/-- what set(l) leaves behind: the set at a, all that stood before it as it was -/
def SetMade (w : World) (h : Heap) (a : Addr) (ns : List Int) (h' : Heap) : Prop := ∃ c, c ≤ ns.length ∧ SetR w h' a (fun j => decide (j ∈ ns)) c ∧ ∀ b o, h.get? b = some o → h'.get? b = some o
section
variable {P : Program} {w : World} {A : Around} {E : Value → Shared → Prop}
set_option maxHeartbeats 3200000 in
theorem set_of_list {s : Shared} {l : Addr} {items : Array Value} {ns : List Int} {Q : Value → Shared → Prop} (calm : A.handled = none) (isL : s.heap.IsList l items) (isI : IntsAre items.toList ns) (few : ns.length + 1 < scanBound)
    (k : ∀ h' tk, SetMade w s.heap s.heap.objs.size ns h' → Q (.ref s.heap.objs.size) { s with heap := h', toks := tk }) : wpAny (model P w) A (call (.type "set") [.ref l]) Q E s := by
  have size_ns : items.size = ns.length := (Array.length_toList (xs := items)).symm.trans isI.length
  have cs := F.called_set
  obtain ⟨c, tl, hmro⟩ := cs.mro
  have q1 := cs.made
  have q2 := cs.sub
  refine wpAny_call (codeAny_of_tree (show wpAny _ _ (callAny (.type "set") _) _ _ _ from wpAny_pure ⟨Code.quiet_builtin _ (by decide +kernel), codeAny_builtin F.entry_type_call ?_⟩))
  rw [Around.under_plain (weight_type_call_type "set" [.ref l] []) rfl]
  have q3 := cs.notType
  have q4 := cs.canCreate
  have q5 := F.typeCall_set_1 (.ref l)
  repeat (any_goals (first | assumption | wp_step))
  -- __new__
  refine codeAny_mono (code_set_led1 (.ref l) (E := E) (Q₁ := fun obj s₁ => obj = .ref s.heap.objs.size ∧ s₁ = { s with heap := s.heap.push (newSet w) }) ⟨rfl, rfl⟩) fun r s₁ hr => ?_
  cases r with
  | error e => exact hr
  | ok fl =>
    cases fl with
    | next => exact hr.elim
    | brk => exact hr.elim
    | cont => exact hr.elim
    | ret obj =>
      obtain ⟨rfl, rfl⟩ := hr
      have at0 : (s.heap.push (newSet w)).get? s.heap.objs.size = some (newSet w) := Heap.get?_push_size _ rfl
      have ty : Shared.TypeIs { s with heap := s.heap.push (newSet w) } (.ref s.heap.objs.size) "set" := ⟨_, at0, rfl⟩
      have q6 := cs.init.lookup
      have q7 := cs.init.bind (.ref s.heap.objs.size)
      repeat (any_goals (first | assumption | wp_step))
      -- __init__
      refine codeAny_mono (codeAny_call_builtin (R := wants (fun r s₂ => r = .none ∧ ∃ h' tk, s₂ = { s with heap := h', toks := tk } ∧ SetMade w s.heap s.heap.objs.size ns h') E) cs.init.plain F.entry_set_init (check_set_init_1 ty ?_)) fun r₂ s₂ hr₂ => ?_
      · obtain ⟨⟨ocls, odict, odata, oslots⟩, hol, hcl, nl, hdl⟩ := isL
        simp only at hcl hdl
        subst hcl
        subst hdl
        have hol' : (s.heap.push (newSet w)).get? l = some { cls := .type "list", dict := odict, data := .seq items nl, slots := oslots } := Heap.get?_push_of_some _ hol
        have sb1 := F.sub_list_set
        have sb2 := F.sub_list_frozenset
        have nd : (Value.type "list" == Value.type "dict") = false := by decide
        have isL1 : (s.heap.push (newSet w)).IsList l items := ⟨_, hol', rfl, nl, rfl⟩
        unfold Builtin.«set.__init__» noKeywords Builtin.Frozenset.updateFrom
        generalize hPI : pyIter = PI
        wp_walk
        subst hPI
        refine wpAny_pyIter_list isL1 (wpAny_bind (wpAny_runValue ?_))
        have l_lt : l < s.heap.objs.size := Heap.lt_size hol
        have sz1 : (s.heap.push (newSet w)).objs.size = s.heap.objs.size + 1 := Heap.size_push ..
        have apart : l ≠ (s.heap.push (newSet w)).objs.size := by
          rw [sz1]
          exact Nat.ne_of_lt (Nat.lt_succ_of_lt l_lt)
        have notIn : s.heap.objs.size ∉ [(s.heap.push (newSet w)).objs.size, l] := by
          rw [sz1]
          intro z
          rcases List.mem_cons.mp z with z | z
          · exact absurd z (Nat.ne_of_lt (Nat.lt_succ_self _))
          · exact absurd (List.mem_singleton.mp z) (Nat.ne_of_gt l_lt)
        have items_are : ∀ (i : Nat) (v : Value), items[i]? = some v → ∃ k t, ns[i]? = some k ∧ v = .int k t := fun i v hv => by
          have hi : i < ns.length := size_ns ▸ (Array.getElem?_eq_some_iff.mp hv).1
          obtain ⟨t, e⟩ := isI.get i _ (List.getElem?_eq_getElem hi)
          rw [Array.getElem?_toList, hv] at e
          exact ⟨_, t, List.getElem?_eq_getElem hi, Option.some.inj e⟩
        refine set_update_ints ((Walks.list (by simp [calm]) _ l apart items).toS) s.heap.objs.size notIn ns size_ns few items_are (items.size - 0) 0 _ (by omega) (Nat.zero_le _)
          ⟨⟨_, Heap.get?_push_size _ rfl, rfl, rfl⟩, isL1.push _⟩ ⟨0, Nat.le_refl 0, setR_new_at (Heap.get?_push_of_some _ at0)⟩ ?_
        intro s' c' mv hc' hS'
        obtain ⟨h', g2, d', tk', os'⟩ := s'
        obtain rfl : g2 = s.gens := mv.gens
        obtain rfl : d' = s.drawn := mv.drawn
        obtain rfl : os' = s.os := mv.os
        refine wpAny_pure (show wpAny _ _ (ret Value.none) _ _ _ from wpAny_pure ⟨rfl, h', tk', rfl, c', size_ns ▸ hc', hS', fun b o e => ?_⟩)
        have b_lt : b < s.heap.objs.size := Heap.lt_size e
        refine mv.heap b o (fun z => ?_) (Heap.get?_push_of_some _ (Heap.get?_push_of_some _ e))
        rcases List.mem_cons.mp z with z | z
        · exact absurd z (Nat.ne_of_lt b_lt)
        · have z' := List.mem_singleton.mp z
          rw [sz1] at z'
          exact absurd z' (Nat.ne_of_lt (Nat.lt_succ_of_lt b_lt))
      · cases r₂ with
        | error e => exact hr₂
        | ok fl₂ =>
          cases fl₂ with
          | next => exact hr₂.elim
          | brk => exact hr₂.elim
          | cont => exact hr₂.elim
          | ret r =>
            obtain ⟨rfl, h', tk, rfl, made⟩ := hr₂
            repeat (any_goals (first | assumption | wp_step))
            exact k _ _ made
end
def rSetOf (K : PySem.W.Frag) (w : World) : List V → Hp → VK → Prop := fun xs H Q => ∃ (a : Addr) (ns : List Int), xs = [.ref a] ∧ SqL K H a (ns.map V.int) ∧ ns.length ≤ 1000 ∧
  ∀ p c, c ≤ ns.length → H p = none → Q (.ref p) (upd H p (SetO w p (fun j => decide (j ∈ ns)) c))
theorem cr_setOf {X : Cx} (hc : X.calm = true) : CallR X (.type "set") (rSetOf X.K X.w) := by
  intro pins s σ H xs us Q I r h
  obtain ⟨a, ns, rfl, hs, hl, q⟩ := h
  rw [Vals.ref1 r]
  obtain ⟨its, rv, p, hz⟩ := I.list hs
  refine set_of_list (ns := ns) (I.ok.hd hc) p.isList (by simpa using rv.ints) (by unfold scanBound; omega) fun h' tk made => ?_
  obtain ⟨c, hcl, hS, kept⟩ := made
  exact ⟨.ref _, upd H s.heap.objs.size (SetO X.w s.heap.objs.size (fun j => decide (j ∈ ns)) c), I.laid (t' := tk) kept (Nat.le_refl _) (setO_new hS), rfl, q _ c hcl (I.hok.fresh (Nat.le_refl _))⟩
end Pb

set_option Elab.async false
set_option linter.all false
set_option maxRecDepth 100000
namespace Pb
open PySem PySem.Spec PyProof.Rows L2

/-! ### enumerate(t), t a tuple -/
set_option maxHeartbeats 2000000 in
theorem meets_enum1 {v : Value} {o : Obj} {G : Heap → Prop} (B : Begins v o G) :
    Meets (Builtin.«enumerate.__new__» ⟨[.type "enumerate", v], []⟩) (fun _ R s => G s.heap ∧
      R (.ok (.ret (.ref (s.heap.push o).objs.size))) { s with heap := (s.heap.push o).push { cls := .type "enumerate", data := .fields #[.none, .bool false, .ref s.heap.objs.size, rawInt 0, .none, .none] } }) :=
  .of_wp fun prog w A R s h => by
    obtain ⟨hp, gg, dd, tt, oo⟩ := s
    obtain ⟨g1, h⟩ := h
    have hsub := sub_enumerate
    have start : ∀ {A' : Around} {E : Value → Shared → Prop} {Q : Value → Shared → Prop}, Q (.ref hp.objs.size) ⟨hp.push o, gg, dd, tt, oo⟩ → wpAny (model prog w) A' (pyIter v) Q E ⟨hp, gg, dd, tt, oo⟩ :=
      fun q => B.iter prog w _ _ _ _ g1 q
    wp_walk using start
    refine wpAny_stack_any fun st => wpAny_pure ?_
    split
    · rename_i c _ _ _ _ _
      cases (c == Value.type "enumerate") <;> (wp_walk using start; exact ⟨_, rfl, h⟩)
    · wp_walk using start
      exact ⟨_, rfl, h⟩
theorem call_enum1 {prog : Program} {w : World} {A : Around} {E : Value → Shared → Prop} {s : Shared} {v : Value} {o : Obj} {G : Heap → Prop} {Q : Value → Shared → Prop} (B : Begins v o G) (g1 : G s.heap)
    (k : ∀ h', IsEnum h' (s.heap.objs.size + 1) s.heap.objs.size 0 .none → h'.get? s.heap.objs.size = some o → (∀ b u, s.heap.get? b = some u → h'.get? b = some u) → Q (.ref (s.heap.objs.size + 1)) { s with heap := h' }) :
    wpAny (model prog w) A (call (.type "enumerate") [v]) Q E s := by
  refine callType_new F.called_enumerate (by decide) (F.typeCall_enumerate_1 _) (F.newCall_enumerate_1 _) (fun obj => F.args_object_init_2 obj _) F.entry_enumerate_new (meets_enum1 B) ⟨g1, ?_⟩
  have sz : (s.heap.push o).objs.size = s.heap.objs.size + 1 := Heap.size_push ..
  have here : IsEnum ((s.heap.push o).push { cls := .type "enumerate", data := .fields #[.none, .bool false, .ref s.heap.objs.size, rawInt 0, .none, .none] }) (s.heap.objs.size + 1) s.heap.objs.size 0 .none := by
    have e := Heap.get?_push_size (s.heap.push o) (o := { cls := .type "enumerate", data := .fields #[.none, .bool false, .ref s.heap.objs.size, rawInt 0, .none, .none] }) rfl
    rwa [sz] at e
  show _ ∧ _
  rw [sz]
  exact ⟨⟨_, here, rfl⟩, k _ here (Heap.get?_push_of_some _ (Heap.get?_push_size _ B.free)) fun b u e => Heap.get?_push_of_some _ (Heap.get?_push_of_some _ e)⟩

/-- the tuple at a, each item in a new pair with its number -/
def IteT (K : PySem.W.Frag) (a : Addr) : It where
  go := fun i H => ∃ xs x, SqT K H a xs ∧ xs[i]? = some x
  yld := fun i H v H' => ∃ T x, v = .ref T ∧ H T = none ∧ H' = upd H T (.tup [.int (i : Nat), x]) ∧ ∀ xs, SqT K H a xs → xs[i]? = some x
  stop := fun i H => ∃ xs, SqT K H a xs ∧ i = xs.length
theorem tuple_apart {h : Heap} {a it : Addr} {n : Nat} {its : Array Value} (p : h.IsTuple a its) (q : h.IsTupleIter it a n) : a ≠ it := fun z => by
  subst z
  obtain ⟨o, e1, c1, _⟩ := p
  obtain ⟨u, e2, c2, _⟩ := q
  rw [e1] at e2
  cases e2
  rw [c1] at c2
  exact absurd c2 (by decide)
theorem turn_enumT {P : Program} {w : World} {K : PySem.W.Frag} {elts : List Expr} {kk : Nat} {tpos : Pos} (a e it : Addr) :
    Turn P w K (.Tuple elts kk tpos) (IteT K a) [e, it] e (fun i h => (∃ old, IsEnum h e it ((i : Nat) : Int) old) ∧ h.IsTupleIter it a i ∧ e ≠ it) where
  mem := List.mem_cons_self
  obj := fun i h ⟨⟨old, q1⟩, ⟨o, q2, q3, q4⟩, _⟩ b hb => by
    rcases List.mem_cons.mp hb with z | z
    · subst z
      exact ⟨_, q1, fun v y => by cases y⟩
    · exact ⟨o, (List.mem_singleton.mp z) ▸ q2, fun v y => by rw [q4] at y; cases y⟩
  keep := fun i h h' ⟨⟨old, q1⟩, q2, q3⟩ k => ⟨⟨old, k e List.mem_cons_self _ q1⟩, q2.at fun o q => k it (List.mem_cons_of_mem _ List.mem_cons_self) o q, q3⟩
  item := by
    rintro X rfl rfl rfl calm i pins s σ H E I free ⟨⟨old, q1⟩, q2, q3⟩ ⟨xs, x, sq, at_i⟩
    obtain ⟨its, rv, tup, hz⟩ := I.tuple sq
    obtain ⟨u, hu, ru⟩ := rv.get at_i
    have e_lt : e < s.heap.objs.size := Heap.lt_size q1
    have it_lt : it < s.heap.objs.size := by obtain ⟨_, q, _⟩ := q2; exact Heap.lt_size q
    have i_lt : i < its.toArray.size := by rw [List.size_toArray]; exact (List.getElem?_eq_some_iff.mp hu).1
    have a_it := tuple_apart tup q2
    have e_a : e ∉ [it, a] := fun z => by
      rcases List.mem_cons.mp z with z | z
      · exact q3 z
      · obtain ⟨o, t1, t2, _⟩ := tup
        rw [← List.mem_singleton.mp z, q1] at t1
        cases t1
        have t3 : Value.type "enumerate" = Value.type "tuple" := t2
        exact absurd t3 (by decide)
    refine wpAny_pyNext_enum_itemD (Draws.tuple (A := X.A.in1) (by exact I.ok.hd calm) it a a_it its.toArray) q1 ⟨q2, tup⟩ i_lt q3 e_a fun y h' tk hy ho st hT hsz kept => ?_
    have ey : y = u := Option.some.inj (hy.symm.trans (by simpa using hu))
    subst ey
    refine ⟨_, rfl, wpAny_letOwnedTupleGo_enum (s := { s with heap := h', toks := tk + 1 }) ho fun h2 he2 sb => ?_⟩
    have hT2 : h2.get? s.heap.objs.size = some { cls := .type "tuple", data := .seq #[.int i tk, y] } := (sb.2 _ (Nat.ne_of_gt e_lt)).trans hT
    have new : ObjOk X.prog X.w (upd H s.heap.objs.size (.tup [.int (i : Nat), x])) h2 s.heap.objs.size (.tup [.int (i : Nat), x]) :=
      ⟨by show 2 ≤ sizeLine; decide, [.int i tk, y], .cons ⟨_, rfl⟩ (.cons ru .nil), ⟨_, hT2, rfl, _, rfl⟩⟩
    have other : ∀ b o, b ∉ [e, it] → s.heap.get? b = some o → h2.get? b = some o := fun b o hb q =>
      (sb.2 b fun z => hb (z ▸ List.mem_cons_self)).trans (kept b o (fun z => hb (z ▸ List.mem_cons_self)) (fun z => hb (z ▸ List.mem_cons_of_mem _ List.mem_cons_self)) q)
    have J := I.turnedNew (t' := tk + 1) (ch := [e, it]) other free (Nat.le_refl _) new
    refine ⟨.ref s.heap.objs.size, _, J, rfl, ⟨_, x, rfl, I.hok.fresh (Nat.le_refl _), rfl, fun ys hy => ?_⟩, ⟨⟨y, ?_⟩, st.1.at fun o q => (sb.2 it (Ne.symm q3)).trans q, q3⟩, fun b hb => ?_⟩
    · rw [I.tuple_inj hy sq]
      exact at_i
    · have ei : ((i + 1 : Nat) : Int) = (i : Int) + 1 := by omega
      rw [ei]
      exact he2
    · have b_lt : b < s.heap.objs.size := by
        rcases List.mem_cons.mp hb with z | z
        · exact z ▸ e_lt
        · exact (List.mem_singleton.mp z) ▸ it_lt
      rw [upd_ne (Nat.ne_of_lt b_lt)]
      exact (free b hb).1
  done := by
    rintro X rfl rfl rfl calm i pins s σ H E I free ⟨⟨old, q1⟩, q2, q3⟩ ⟨xs, sq, end_i⟩
    obtain ⟨its, rv, tup, hz⟩ := I.tuple sq
    have a_it := tuple_apart tup q2
    obtain ⟨f0, f1, f2, f3, f4, f5⟩ := free it (List.mem_cons_of_mem _ List.mem_cons_self)
    have ei : i = its.toArray.size := by rw [List.size_toArray, ← rv.length]; exact end_i
    refine wpAny_pyNext_enum_endD (Draws.tuple (A := X.A.in1) (by exact I.ok.hd calm) it a a_it its.toArray) q1 ⟨ei ▸ q2, tup⟩ fun h' eb => ⟨rfl, I.turned (t' := s.toks) (fun b o hb q => eb b o hb q) f0 f1 f3 f4 f5⟩
  self := fun A i s Q E st h => let ⟨⟨_, q⟩, _⟩ := st; wpAny_pyIter_enum q h
theorem walk_enumT {K : PySem.W.Frag} {a : Addr} {xs : List V} : Walk (IteT K a) xs.length (fun H => SqT K H a xs) (YPair (fun i => some (.int (i : Nat))) (fun i => xs[i]?)) where
  goes := fun i H hi g => ⟨xs, xs[i], g, List.getElem?_eq_getElem hi⟩
  stops := fun H g => ⟨xs, g, rfl⟩
  yields := fun i H x H' hi g ⟨T, y, e1, e2, e3, e4⟩ => ⟨T, .int (i : Nat), y, e1, e2, e3, rfl, e4 xs g⟩
/-- for k, x in enumerate(a name that holds a list or a tuple) -/
def iEnumS (K : PySem.W.Frag) (i : Nat) : TI := fun σ H R => ∃ (b : Bool) (a : Addr) (xs : List V), σ[i]? = some (some (.ref a)) ∧ SqB b K H a xs ∧
  ∀ J, Walk J xs.length (fun H' => SqB b K H' a xs) (YPair (fun i => some (.int (i : Nat))) (fun i => xs[i]?)) → R J H
theorem pi_enumS {X : Cx} {i : Nat} {x : Str} {p q pos tpos : Pos} {elts : List Expr} {kk : Nat} (hg : Gl X "enumerate") (hm : X.mg "enumerate" = none) (hv : PE X (.Name x q) (tVar i)) :
    PI X (.Tuple elts kk tpos) (.Call (.Name "enumerate" p) [.Name x q] [] pos) (iEnumS X.K i) := by
  refine ⟨fun pins s σ H R I h => ?_⟩
  obtain ⟨b, a, xs, at_i, sq, r⟩ := h
  cases b with
  | true => exact (pi_enum hg hm (pa_cons hv pa_nil)).run pins s σ H R I ⟨_, at_i, a, xs, rfl, sq, r _ walk_enum⟩
  | false =>
    refine Call_ (ld_blt I hg hm boot_enumerate (PyProof.Rows.callWith_type1 (thn ((pa_cons hv pa_nil).run pos pins s σ H (fun vs H1 => vs = [.ref a] ∧ H1 = H) I ⟨_, at_i, rfl, rfl⟩) fun us s1 ⟨vs, H1, J, rv, e1, e2⟩ => ?_) rfl rfl))
    subst e1 e2
    rw [Vals.ref1 rv]
    obtain ⟨its, ri, tup, hz⟩ := J.tuple sq
    refine call_enum1 (begins_tuple a its.toArray) tup fun h' he hi kept => wpAny_pyIter_enum he ?_
    have J2 : Inv X pins σ H1 { s1 with heap := h' } := J.kept (t' := s1.toks) kept
    refine ⟨s1.heap.objs.size + 1, [s1.heap.objs.size + 1, s1.heap.objs.size], _, _, H1, rfl, J2, turn_enumT a (s1.heap.objs.size + 1) s1.heap.objs.size, ⟨⟨.none, he⟩, ⟨_, hi, rfl, rfl⟩, Nat.succ_ne_self _⟩, fun c hc => ?_, r _ walk_enumT⟩
    have old : s1.heap.objs.size ≤ c := by
      rcases List.mem_cons.mp hc with z | z
      · exact z ▸ Nat.le_succ _
      · exact Nat.le_of_eq (List.mem_singleton.mp z).symm
    exact J.fpOk old (J.hok.fresh old)
end Pb

set_option Elab.async false
set_option linter.all false
set_option maxRecDepth 100000
/-! The end of the law where it must be known that no repr is under way: the law's body is walked within the caller alone. -/
namespace Pb
open PySem PySem.Spec PyProof.Rows L2
section
variable {P : Program} {w : World} {K : PySem.W.Frag} {mg mb : Str → Option Value} {base : Heap}
/-- a def's body walked once, within one surrounding -/
theorem run_body {x qual : Str} {st : Stmt} {f : Addr} {fd : FuncData} {N ps : List Str} {k : Nat} {A : Around} {outer : List Env} {s : Shared} {H : Hp} {us : List Value} {vs : List V} {Q : VK}
    (F : Fun K x qual st f fd) (S : FnScope N ps (defScope st)) (hl : vs.length = ps.length) (hr : Room (k + 1) A) (e0 : Env0 P w K mg base A outer s H) (hb : BindsTo s fd ⟨us, []⟩ (ps.zip us)) (r : Vals vs us)
    (body : ∀ cdv, Room k (A.deeper (envOfC qual (defScope st) s.heap.objs.size f cdv)) → ∃ t, PSs (cxOf CX0 P w K mg base N qual (defScope st) f cdv A outer s H E0).nox (defBody st) t ∧ t { nx := fun _ H' => Q .non H', rt := Q } (start N vs) H) :
    codeAny (model P w) A (.call (.ref f) ⟨us, []⟩) (CR CX0 outer P w H s Q E0) s := by
  obtain ⟨oc, od, kV, doc, pm, an, cdv, ct, osl, rfl, lk, hcd⟩ := F.ex
  have inS : K.In s.heap := e0.mod.kin.keeps fun b o e => (e0.bs b o e).1
  have noLim : s.heap.NoLimit := e0.mod.nolimit.keeps fun b o e => (e0.bs b o e).1
  refine codeAny_call_function hr.depth (inS _ _ lk) rfl S.co S.gen rfl (PySem.W.codeRec_of inS hcd) (hb _ _ _ _ (wpAny_newFunctionEnv_cells S.kind (fun y hy => ?_) fun env he s1 ic => ?_))
  · obtain ⟨n, v⟩ := y
    rcases S.par n (List.of_mem_zip hy).1 with q | q
    · exact .inl q
    · exact .inr ⟨q, PySem.W.cellsFrom_some _ _ _ (.inl q)⟩
  · subst he
    obtain ⟨t, ht, hq⟩ := body cdv (hr.deeper _)
    have I := inv_start (CX := CX0) (E := E0) (qual := qual) (f := f) (cd := cdv) (N := N) S hr.hd e0 hl r ic
    refine ⟨noLim.keeps ic.toInCall.keep, codeAny_func (wpAny_mono (ht.nox.run [] s1 (start N vs) H _ I hq) (fun fl s' hs => ?_) fun e s' hs => hs)⟩
    cases fl with
    | brk => obtain ⟨_, _, _, q⟩ := hs; exact q.elim
    | cont => obtain ⟨_, _, _, q⟩ := hs; exact q.elim
    | next => obtain ⟨σ', H', J, q⟩ := hs; exact ⟨.non, H', J.os, J.bare, J.base, J.hok, rfl, q⟩
    | ret u => obtain ⟨v, σ', H', J, rv, q⟩ := hs; exact ⟨v, H', J.os, J.bare, J.base, J.hok, rv, q⟩

/-- what stands at the law's call, the script locked (or a thing of the module) -/
theorem ground_of {s₁ : Shared} {a : Addr} {H : Hp} {oa : Obj} (KX : K.In s₁.heap) (hns : s₁.heap.Ns mainGlobals mg) (hb : s₁.heap.Ns builtinsNs mb) (hbb : ∀ x : Str, x ≠ "__name__" → mb x = bootBuiltins x) (hlim : s₁.heap.NoLimit) (hg : s₁.gens = #[])
    (ha : s₁.heap.get? a = some oa) (nd : ∀ es ep, oa.data ≠ .dict es ep) (only : ∀ b u, H b = some u → b = a) (notK : ∀ u, H a = some u → K.lookup a = none) (hok : HOk P w H s₁.heap) :
    K.In (hidT s₁.heap H) ∧ (hidT s₁.heap H).Ns mainGlobals mg ∧ Env0 P w K mg (hidT s₁.heap H) callerA [] s₁ H := by
  have noneOf : ∀ {b : Addr}, b ≠ a → H b = none := fun {b} hb => by
    cases q : H b with
    | none => rfl
    | some u => exact absurd (only b u q) hb
  have dictOff : ∀ {b : Addr} {o : Obj} {es : Array DictEntry} {ep : Nat}, s₁.heap.get? b = some o → o.data = .dict es ep → H b = none := fun {b o es ep} e d => noneOf fun z => by
    subst z
    rw [ha] at e
    cases e
    exact nd es ep d
  have ns : ∀ {b : Addr} {m : Str → Option Value}, s₁.heap.Ns b m → (hidT s₁.heap H).Ns b m := fun ⟨o, es, ep, e, d, r⟩ => ⟨o, es, ep, hidT_get e (dictOff e d), d, r⟩
  have kin : K.In (hidT s₁.heap H) := fun b o e => hidT_get (KX b o e) (by
    cases q : H b with
    | none => rfl
    | some u =>
      have z := only b u q
      subst z
      rw [notK u q] at e
      cases e)
  obtain ⟨mc, l1, l2⟩ := hlim
  exact ⟨kin, ns hns, rfl, ⟨kin, ns hns, ⟨mb, ns hb, hbb⟩, mc, ns l1, l2⟩, fun b o e => of_hidT e, Nat.le_of_eq (hidT_size _ _), trivial, fun b z => (nomatch z), hok, .of_eq hg⟩

/-- the law's call, its body walked in callerA -/
theorem law_at {x : Str} {st : Stmt} {fa a : Addr} {fd : FuncData} {s₁ : Shared} {vs : List Value} {ns : List Int} {N : List Str} {k : Nat}
    (KX : K.In s₁.heap) (hns : s₁.heap.Ns mainGlobals mg) (hb : s₁.heap.Ns builtinsNs mb) (hbb : ∀ x : Str, x ≠ "__name__" → mb x = bootBuiltins x) (hlim : s₁.heap.NoLimit) (hg : s₁.gens = #[])
    (ha : s₁.heap.get? a = some { cls := .type "list", data := .seq vs.toArray }) (hi : IntsAre vs ns) (hl : ns.length ≤ sizeLine) (hr : Room (k + 1) callerA)
    (F : Fun K x x st fa fd) (S : FnScope N ["_law_script"] (defScope st)) (hbind : ∀ (s : Shared) (u : Value), BindsTo s fd ⟨[u], []⟩ [("_law_script", u)])
    (body : ∀ (base : Heap) (cdv : Value) (H : Hp), K.In base → base.Ns mainGlobals mg → SqL K H a (ns.map V.int) → Room k (callerA.deeper (envOfC x (defScope st) s₁.heap.objs.size fa cdv)) →
      ∃ t, PSs (cxOf CX0 P w K mg base N x (defScope st) fa cdv callerA [] s₁ H E0).nox (defBody st) t ∧ t { nx := fun _ H' => V.non = V.bl true, rt := fun v _ => v = V.bl true } (start N [.ref a]) H) :
    codeAny (model P w) callerA (.call (.ref fa) ⟨[.ref a], []⟩) (fun r s' => r = .ok (.ret (.bool true)) ∧ OldK s₁.heap s'.heap ∧ s'.os = s₁.os ∧ AllBare s'.gens) s₁ := by
  have rv := vals_ints hi
  -- one heap for both cases
  have go : ∀ H : Hp, (∀ b u, H b = some u → b = a ∧ ∃ xs, u = .frz { cls := .type "list", data := .seq vs.toArray } (.lst xs)) → (∀ u, H a = some u → K.lookup a = none) → HOk P w H s₁.heap → SqL K H a (ns.map V.int) →
      codeAny (model P w) callerA (.call (.ref fa) ⟨[.ref a], []⟩) (fun r s' => r = .ok (.ret (.bool true)) ∧ OldK s₁.heap s'.heap ∧ s'.os = s₁.os ∧ AllBare s'.gens) s₁ := by
    intro H only notK hok sq
    obtain ⟨kin, nsB, e0⟩ := ground_of KX hns hb hbb hlim hg ha (fun es ep z => by cases z) (fun b u e => (only b u e).1) notK hok
    refine codeAny_mono (run_body (us := [.ref a]) (vs := [.ref a]) (Q := fun v _ => v = V.bl true) F S rfl hr e0 (hbind s₁ (.ref a)) (.cons rfl .nil) fun cdv rm => body _ cdv H kin nsB sq rm) fun r s' h => ?_
    match r, h with
    | .ok (.ret u), h =>
      obtain ⟨v, H', os, bare, un, hok', rel, q⟩ := h
      have q' : v = V.bl true := q
      subst q'
      have eu : u = Value.bool true := rel
      refine ⟨by rw [eu], OldK.of_keep fun b o e => ?_, os, bare⟩
      cases q : H b with
      | none => exact un.keep b o e q (fun z => nomatch z) (fun z => nomatch z)
      | some u =>
        obtain ⟨rfl, xs, rfl⟩ := only b u q
        have now := (hok' b _ (un.frzs b _ _ q)).1
        rw [ha] at e
        cases e
        exact now
  cases hk : K.lookup a with
  | some o =>
    have e := KX a o hk
    rw [ha] at e
    cases e
    exact go (fun _ => none) (fun b u z => (nomatch z)) (fun u z => (nomatch z)) (fun b u z => (nomatch z)) (.inr ⟨_, vs.toArray, _, hk, rfl, rfl, rfl, by rw [List.size_toArray, hi.length]; exact hl, by simpa using rv⟩)
  | none =>
    have at_a : ∀ b u, (if b = a then some (HO.frz { cls := .type "list", data := .seq vs.toArray } (.lst (ns.map V.int))) else none) = some u → b = a ∧ u = .frz { cls := .type "list", data := .seq vs.toArray } (.lst (ns.map V.int)) := fun b u z => by
      by_cases h : b = a
      · rw [if_pos h] at z
        exact ⟨h, (Option.some.inj z).symm⟩
      · rw [if_neg h] at z
        cases z
    refine go (fun b => if b = a then some (.frz { cls := .type "list", data := .seq vs.toArray } (.lst (ns.map V.int))) else none) (fun b u z => ⟨(at_a b u z).1, _, (at_a b u z).2⟩) (fun _ _ => hk) (fun b u z => ?_) (.inl (.inr ⟨_, if_pos rfl⟩))
    obtain ⟨rfl, rfl⟩ := at_a b u z
    exact ⟨ha, by rw [List.length_map]; exact hl, vs, _, rv, ha⟩
end
end Pb

set_option linter.all false
/-! The mathematics: days, plans, chains, choices of meets. Plain Lean. -/
namespace Pb

inductive Ev where
  | put (h : Nat)
  | meet (a b : Nat)
  deriving DecidableEq
def Ev.isMeet : Ev → Bool
  | .put _ => false
  | .meet _ _ => true

/-! ### rows in order -/
def Asc (l : List Nat) : Prop := l.Pairwise (· < ·)
def insD (x : Nat) : List Nat → List Nat
  | [] => [x]
  | y :: r => if x < y then x :: y :: r else if x = y then y :: r else y :: insD x r
def sortD (l : List Nat) : List Nat := l.foldr insD []
theorem mem_insD {x z : Nat} : ∀ {l : List Nat}, z ∈ insD x l ↔ z = x ∨ z ∈ l
  | [] => by simp [insD]
  | y :: r => by
    unfold insD
    by_cases h1 : x < y
    · rw [if_pos h1, List.mem_cons]
    · rw [if_neg h1]
      by_cases h2 : x = y
      · rw [if_pos h2, List.mem_cons, h2]
        constructor
        · rintro (h | h)
          · exact .inl h
          · exact .inr (.inr h)
        · rintro (h | h | h)
          · exact .inl h
          · exact .inl h
          · exact .inr h
      · rw [if_neg h2, List.mem_cons, List.mem_cons, mem_insD (l := r)]
        constructor
        · rintro (h | h | h)
          · exact .inr (.inl h)
          · exact .inl h
          · exact .inr (.inr h)
        · rintro (h | h | h)
          · exact .inr (.inl h)
          · exact .inl h
          · exact .inr (.inr h)
theorem mem_sortD {z : Nat} : ∀ {l : List Nat}, z ∈ sortD l ↔ z ∈ l
  | [] => Iff.rfl
  | x :: r => by
    show z ∈ insD x (sortD r) ↔ z ∈ x :: r
    rw [mem_insD, mem_sortD (l := r), List.mem_cons]
theorem asc_insD {x : Nat} : ∀ {l : List Nat}, Asc l → Asc (insD x l)
  | [], _ => List.pairwise_singleton _ _
  | y :: r, h => by
    obtain ⟨h1, h2⟩ := List.pairwise_cons.mp h
    unfold insD
    by_cases a : x < y
    · rw [if_pos a]
      refine List.pairwise_cons.mpr ⟨fun z hz => ?_, h⟩
      rcases List.mem_cons.mp hz with e | e
      · rw [e]; exact a
      · exact Nat.lt_trans a (h1 z e)
    · rw [if_neg a]
      by_cases b : x = y
      · rw [if_pos b]; exact h
      · rw [if_neg b]
        refine List.pairwise_cons.mpr ⟨fun z hz => ?_, asc_insD h2⟩
        rcases mem_insD.mp hz with e | e
        · rw [e]; omega
        · exact h1 z e
theorem asc_sortD : ∀ l : List Nat, Asc (sortD l)
  | [] => List.Pairwise.nil
  | x :: r => asc_insD (asc_sortD r)
/-- two rising rows with the same members are one -/
theorem asc_ext : ∀ {a b : List Nat}, Asc a → Asc b → (∀ z, z ∈ a ↔ z ∈ b) → a = b
  | [], [], _, _, _ => rfl
  | [], y :: r, _, _, h => absurd ((h y).2 List.mem_cons_self) (by simp)
  | x :: r, [], _, _, h => absurd ((h x).1 List.mem_cons_self) (by simp)
  | x :: r, y :: t, ha, hb, h => by
    obtain ⟨a1, a2⟩ := List.pairwise_cons.mp ha
    obtain ⟨b1, b2⟩ := List.pairwise_cons.mp hb
    have e : x = y := by
      rcases List.mem_cons.mp ((h x).1 List.mem_cons_self) with e | e
      · exact e
      · rcases List.mem_cons.mp ((h y).2 List.mem_cons_self) with e' | e'
        · exact e'.symm
        · have p := a1 y e'
          have q := b1 x e
          omega
    subst e
    have et : r = t := asc_ext a2 b2 fun z => by
      constructor
      · intro hz
        rcases List.mem_cons.mp ((h z).1 (List.mem_cons_of_mem _ hz)) with e | e
        · have := a1 z hz; omega
        · exact e
      · intro hz
        rcases List.mem_cons.mp ((h z).2 (List.mem_cons_of_mem _ hz)) with e | e
        · have := b1 z hz; omega
        · exact e
    rw [et]
/-- a rising row below n has at most n members -/
theorem asc_len : ∀ {n : Nat} {l : List Nat}, Asc l → (∀ x ∈ l, x < n) → l.length ≤ n := by
  have go : ∀ (l : List Nat) (m n : Nat), Asc l → (∀ x ∈ l, m ≤ x ∧ x < n) → l.length ≤ n - m := by
    intro l
    induction l with
    | nil => intro m n _ _; exact Nat.zero_le _
    | cons x r ih =>
      intro m n h hb
      obtain ⟨h1, h2⟩ := List.pairwise_cons.mp h
      have hx := hb x List.mem_cons_self
      have := ih (x + 1) n h2 fun y hy => ⟨h1 y hy, (hb y (List.mem_cons_of_mem _ hy)).2⟩
      rw [List.length_cons]
      omega
  intro n l h hb
  exact go l 0 n h fun x hx => ⟨Nat.zero_le _, hb x hx⟩
theorem asc_snoc {l : List Nat} {n : Nat} (h : Asc l) (hb : ∀ x ∈ l, x < n) : Asc (l ++ [n]) := by
  refine List.pairwise_append.mpr ⟨h, List.pairwise_singleton _ _, fun a ha b hb' => ?_⟩
  rw [List.mem_singleton.mp hb']
  exact hb a ha

/-! ### the plan of a day and its chains -/
/-- who has seen what, and the rows of the plan so far -/
structure Pl where
  known : Nat → List Nat
  rows : List (List Nat)
def Pl.step (s : Pl) : Ev → Pl
  | .put h => ⟨fun x => if x = h then s.known h ++ [s.rows.length] else s.known x, s.rows ++ [s.known h]⟩
  | .meet a b => ⟨fun x => if x = a ∨ x = b then sortD (s.known a ++ s.known b) else s.known x, s.rows⟩
def plRun (evs : List Ev) : Pl := evs.foldl Pl.step ⟨fun _ => [], []⟩
def planOf (evs : List Ev) : List (List Nat) := (plRun evs).rows
/-- 1 + the sum of the ends of the seen -/
def endNext (ends : List Int) (seen : List Nat) : Int := 1 + (seen.map fun i => ends.getD i 0).sum
def endsOf (rows : List (List Nat)) : List Int := rows.foldl (fun e r => e ++ [endNext e r]) []
def chainsOf (evs : List Ev) : Int := (endsOf (planOf evs)).sum

theorem plRun_snoc (evs : List Ev) (e : Ev) : plRun (evs ++ [e]) = (plRun evs).step e := by
  unfold plRun
  rw [List.foldl_append]
  rfl
theorem endsOf_snoc (rows : List (List Nat)) (r : List Nat) : endsOf (rows ++ [r]) = endsOf rows ++ [endNext (endsOf rows) r] := by
  unfold endsOf
  rw [List.foldl_append]
  rfl
theorem endsOf_nil : endsOf [] = [] := rfl
/-- what holds of every step: rows of what was there -/
structure Pl.Good (s : Pl) : Prop where
  asc : ∀ h, Asc (s.known h)
  low : ∀ h, ∀ x ∈ s.known h, x < s.rows.length
  rasc : ∀ r ∈ s.rows, Asc r
  rlow : ∀ (i : Nat) (r : List Nat), s.rows[i]? = some r → ∀ x ∈ r, x < i
theorem Pl.Good.step {s : Pl} (g : s.Good) : ∀ e : Ev, (s.step e).Good
  | .put h => by
    refine ⟨fun x => ?_, fun x => ?_, fun r hr => ?_, fun i r hr => ?_⟩
    · show Asc (if x = h then s.known h ++ [s.rows.length] else s.known x)
      by_cases e : x = h
      · rw [if_pos e]; exact asc_snoc (g.asc h) (g.low h)
      · rw [if_neg e]; exact g.asc x
    · show ∀ z ∈ (if x = h then s.known h ++ [s.rows.length] else s.known x), z < (s.rows ++ [s.known h]).length
      rw [List.length_append]
      intro z hz
      by_cases e : x = h
      · rw [if_pos e] at hz
        rcases List.mem_append.mp hz with hz | hz
        · have := g.low h z hz; simp; omega
        · rw [List.mem_singleton.mp hz]; simp
      · rw [if_neg e] at hz
        have := g.low x z hz; simp; omega
    · rcases List.mem_append.mp (show r ∈ s.rows ++ [s.known h] from hr) with hr | hr
      · exact g.rasc r hr
      · rw [List.mem_singleton.mp hr]; exact g.asc h
    · have hr' : (s.rows ++ [s.known h])[i]? = some r := hr
      by_cases hi : i < s.rows.length
      · rw [List.getElem?_append_left hi] at hr'
        exact g.rlow i r hr'
      · rw [List.getElem?_append_right (by omega)] at hr'
        have hz : i - s.rows.length = 0 := by
          by_cases z : i - s.rows.length = 0
          · exact z
          · rw [List.getElem?_eq_none (by simp; omega)] at hr'
            cases hr'
        rw [hz] at hr'
        have e : s.known h = r := Option.some.inj hr'
        subst e
        intro x hx
        have := g.low h x hx
        omega
  | .meet a b => by
    refine ⟨fun x => ?_, fun x => ?_, g.rasc, g.rlow⟩
    · show Asc (if x = a ∨ x = b then sortD (s.known a ++ s.known b) else s.known x)
      by_cases e : x = a ∨ x = b
      · rw [if_pos e]; exact asc_sortD _
      · rw [if_neg e]; exact g.asc x
    · show ∀ z ∈ (if x = a ∨ x = b then sortD (s.known a ++ s.known b) else s.known x), z < s.rows.length
      intro z hz
      by_cases e : x = a ∨ x = b
      · rw [if_pos e, mem_sortD] at hz
        rcases List.mem_append.mp hz with hz | hz
        · exact g.low a z hz
        · exact g.low b z hz
      · rw [if_neg e] at hz
        exact g.low x z hz
theorem plRun_good (evs : List Ev) : (plRun evs).Good := by
  have go : ∀ (evs : List Ev) (s : Pl), s.Good → (evs.foldl Pl.step s).Good := by
    intro evs
    induction evs with
    | nil => intro s g; exact g
    | cons e r ih => intro s g; exact ih _ (g.step e)
  exact go evs _ ⟨fun _ => List.Pairwise.nil, fun _ x hx => (nomatch hx), fun r hr => (nomatch hr), fun i r hr => (nomatch hr)⟩
theorem planOf_len (evs : List Ev) : (planOf evs).length ≤ evs.length := by
  have go : ∀ (evs : List Ev) (s : Pl), (evs.foldl Pl.step s).rows.length ≤ s.rows.length + evs.length := by
    intro evs
    induction evs with
    | nil => intro s; exact Nat.le_refl _
    | cons e r ih =>
      intro s
      have h := ih (s.step e)
      have h2 : (s.step e).rows.length ≤ s.rows.length + 1 := by
        cases e with
        | put k => show (s.rows ++ [s.known k]).length ≤ _; simp
        | meet a b => exact Nat.le_succ _
      rw [List.length_cons]
      show (r.foldl Pl.step (s.step e)).rows.length ≤ _
      omega
  have h := go evs ⟨fun _ => [], []⟩
  show (evs.foldl Pl.step ⟨fun _ => [], []⟩).rows.length ≤ _
  have e : (⟨fun _ => [], []⟩ : Pl).rows.length = 0 := rfl
  omega
theorem endsOf_len (rows : List (List Nat)) : (endsOf rows).length = rows.length := by
  have go : ∀ (rows : List (List Nat)) (e : List Int), (rows.foldl (fun e r => e ++ [endNext e r]) e).length = e.length + rows.length := by
    intro rows
    induction rows with
    | nil => intro e; rfl
    | cons r t ih =>
      intro e
      rw [List.foldl_cons, ih, List.length_append, List.length_cons, List.length_cons]
      simp
      omega
  have := go rows []
  unfold endsOf
  rw [this]
  simp
theorem sum_nonneg : ∀ l : List Int, (∀ x ∈ l, 0 ≤ x) → 0 ≤ l.sum
  | [], _ => Int.le_refl _
  | x :: r, h => by
    rw [List.sum_cons]
    have a := h x List.mem_cons_self
    have b := sum_nonneg r fun y hy => h y (List.mem_cons_of_mem _ hy)
    omega
theorem endsOf_nonneg (rows : List (List Nat)) : ∀ x ∈ endsOf rows, 0 ≤ x := by
  have go : ∀ (rows : List (List Nat)) (e : List Int), (∀ x ∈ e, 0 ≤ x) → ∀ x ∈ rows.foldl (fun e r => e ++ [endNext e r]) e, 0 ≤ x := by
    intro rows
    induction rows with
    | nil => intro e h; exact h
    | cons r t ih =>
      intro e h
      refine ih _ fun x hx => ?_
      rcases List.mem_append.mp hx with hx | hx
      · exact h x hx
      · rw [List.mem_singleton.mp hx]
        have : 0 ≤ (r.map fun i => e.getD i 0).sum := sum_nonneg _ fun y hy => by
          obtain ⟨i, _, rfl⟩ := List.mem_map.mp hy
          show (0 : Int) ≤ e.getD i 0
          rw [List.getD_eq_getElem?_getD]
          cases q : e[i]? with
          | none => exact Int.le_refl _
          | some z => exact h z (List.mem_of_getElem? q)
        unfold endNext
        omega
  exact go rows [] fun x hx => by cases hx
theorem chainsOf_nonneg (evs : List Ev) : 0 ≤ chainsOf evs := sum_nonneg _ (endsOf_nonneg _)

end Pb

set_option linter.all false
namespace Pb

/-! ### the day without some events -/
def woTake (evs : List Ev) (left : List Nat) (n : Nat) : List Ev := (List.range n).filterMap fun k => if left.contains k = true then none else evs[k]?
def withoutE (evs : List Ev) (left : List Nat) : List Ev := woTake evs left evs.length
theorem woTake_succ (evs : List Ev) (left : List Nat) (n : Nat) : woTake evs left (n + 1) = woTake evs left n ++ (if left.contains n = true then [] else (evs[n]?).toList) := by
  unfold woTake
  rw [List.range_succ, List.filterMap_append]
  congr 1
  by_cases h : left.contains n = true
  · simp only [if_pos h, List.filterMap_cons, List.filterMap_nil]
  · simp only [if_neg h, List.filterMap_cons, List.filterMap_nil]
    cases evs[n]? <;> rfl
theorem woTake_nil (evs : List Ev) : ∀ n, woTake evs [] n = evs.take n
  | 0 => by simp [woTake]
  | n + 1 => by
    rw [woTake_succ, woTake_nil evs n, List.take_add_one]
    simp
theorem withoutE_nil (evs : List Ev) : withoutE evs [] = evs := by
  unfold withoutE
  rw [woTake_nil, List.take_length]
theorem woTake_sub (evs : List Ev) (left : List Nat) : ∀ n, (woTake evs left n).Sublist (evs.take n)
  | 0 => by simp [woTake]
  | n + 1 => by
    rw [woTake_succ, List.take_add_one]
    refine (woTake_sub evs left n).append ?_
    split
    · exact List.nil_sublist _
    · exact List.Sublist.refl _
theorem withoutE_sub (evs : List Ev) (left : List Nat) : (withoutE evs left).Sublist evs := by
  have h := woTake_sub evs left evs.length
  rwa [List.take_length] at h

/-! ### the meets -/
def meetAt (evs : List Ev) (k : Nat) : Bool := match evs[k]? with
  | some e => e.isMeet
  | none => false
def meTake (evs : List Ev) (n : Nat) : List Nat := (List.range n).filter (meetAt evs)
def meetsOf (evs : List Ev) : List Nat := meTake evs evs.length
theorem meTake_succ (evs : List Ev) (n : Nat) : meTake evs (n + 1) = meTake evs n ++ (if meetAt evs n = true then [n] else []) := by
  unfold meTake
  rw [List.range_succ, List.filter_append]
  congr 1
  by_cases h : meetAt evs n = true
  · simp [h]
  · simp [h]
theorem meTake_lt {evs : List Ev} {n x : Nat} (h : x ∈ meTake evs n) : x < n := List.mem_range.mp (List.mem_filter.mp h).1
theorem meTake_asc (evs : List Ev) : ∀ n, Asc (meTake evs n)
  | 0 => List.Pairwise.nil
  | n + 1 => by
    rw [meTake_succ]
    split
    · exact asc_snoc (meTake_asc evs n) fun x hx => meTake_lt hx
    · rw [List.append_nil]; exact meTake_asc evs n
theorem meTake_len (evs : List Ev) : ∀ n, (meTake evs n).length = ((evs.take n).filter Ev.isMeet).length
  | 0 => by simp [meTake]
  | n + 1 => by
    rw [meTake_succ, List.take_add_one, List.filter_append, List.length_append, List.length_append, meTake_len evs n]
    congr 1
    unfold meetAt
    cases evs[n]? with
    | none => simp
    | some e => cases e <;> rfl
theorem meetsOf_len (evs : List Ev) : (meetsOf evs).length = (evs.filter Ev.isMeet).length := by
  unfold meetsOf
  rw [meTake_len, List.take_length]
theorem meetsOf_asc (evs : List Ev) : Asc (meetsOf evs) := meTake_asc evs _

/-! ### all choices of so many -/
def okNext (row : List Nat) (it : Nat) : Bool := match row.getLast? with
  | none => true
  | some z => decide (z < it)
def nextRows (items : List Nat) (row : List Nat) : List (List Nat) := (items.filter (okNext row)).map fun it => row ++ [it]
def stepC (items : List Nat) (found : List (List Nat)) : List (List Nat) := found.flatMap (nextRows items)
def choicesOf (items : List Nat) : Nat → List (List Nat)
  | 0 => [[]]
  | n + 1 => stepC items (choicesOf items n)
theorem okNext_iff {row : List Nat} {it : Nat} (h : Asc row) : okNext row it = true ↔ Asc (row ++ [it]) := by
  rcases List.eq_nil_or_concat row with rfl | ⟨l, z, rfl⟩
  · exact ⟨fun _ => List.pairwise_singleton _ _, fun _ => rfl⟩
  · unfold okNext
    rw [List.concat_eq_append] at h ⊢
    rw [List.getLast?_append]
    simp only [List.getLast?_singleton, Option.some_or, decide_eq_true_eq]
    obtain ⟨h1, _, h3⟩ := List.pairwise_append.mp h
    constructor
    · intro hz
      refine asc_snoc h fun x hx => ?_
      rcases List.mem_append.mp hx with hx | hx
      · exact Nat.lt_trans (h3 x hx z (List.mem_singleton.mpr rfl)) hz
      · rw [List.mem_singleton.mp hx]; exact hz
    · intro ha
      exact (List.pairwise_append.mp ha).2.2 z (List.mem_append.mpr (.inr (List.mem_singleton.mpr rfl))) it (List.mem_singleton.mpr rfl)
theorem mem_nextRows {items row r : List Nat} : r ∈ nextRows items row ↔ ∃ it, it ∈ items ∧ okNext row it = true ∧ r = row ++ [it] := by
  unfold nextRows
  rw [List.mem_map]
  constructor
  · rintro ⟨it, h, rfl⟩
    exact ⟨it, (List.mem_filter.mp h).1, (List.mem_filter.mp h).2, rfl⟩
  · rintro ⟨it, h1, h2, rfl⟩
    exact ⟨it, List.mem_filter.mpr ⟨h1, h2⟩, rfl⟩
theorem mem_choices {items : List Nat} : ∀ {n : Nat} {r : List Nat}, r ∈ choicesOf items n ↔ r.length = n ∧ Asc r ∧ ∀ x ∈ r, x ∈ items
  | 0, r => by
    show r ∈ [[]] ↔ _
    rw [List.mem_singleton]
    constructor
    · rintro rfl
      exact ⟨rfl, List.Pairwise.nil, fun x hx => by cases hx⟩
    · rintro ⟨h, _, _⟩
      exact List.length_eq_zero_iff.mp h
  | n + 1, r => by
    show r ∈ stepC items (choicesOf items n) ↔ _
    unfold stepC
    rw [List.mem_flatMap]
    constructor
    · rintro ⟨row, h1, h2⟩
      obtain ⟨it, a, b, rfl⟩ := mem_nextRows.mp h2
      obtain ⟨c1, c2, c3⟩ := mem_choices.mp h1
      refine ⟨by rw [List.length_append, c1]; rfl, (okNext_iff c2).mp b, fun x hx => ?_⟩
      rcases List.mem_append.mp hx with hx | hx
      · exact c3 x hx
      · rw [List.mem_singleton.mp hx]; exact a
    · rintro ⟨h1, h2, h3⟩
      rcases List.eq_nil_or_concat r with rfl | ⟨l, z, rfl⟩
      · cases h1
      · rw [List.concat_eq_append] at h1 h2 h3 ⊢
        have hl : Asc l := (List.pairwise_append.mp h2).1
        refine ⟨l, mem_choices.mpr ⟨?_, hl, fun x hx => h3 x (List.mem_append.mpr (.inl hx))⟩, mem_nextRows.mpr ⟨z, h3 z (List.mem_append.mpr (.inr (List.mem_singleton.mpr rfl))), (okNext_iff hl).mpr h2, rfl⟩⟩
        rw [List.length_append] at h1
        simp at h1
        exact h1
theorem nextRows_len (items row : List Nat) : (nextRows items row).length ≤ items.length := by
  unfold nextRows
  rw [List.length_map]
  exact List.length_filter_le _ _
theorem stepC_len (items : List Nat) : ∀ found : List (List Nat), (stepC items found).length ≤ found.length * items.length
  | [] => by simp [stepC]
  | r :: t => by
    have a := nextRows_len items r
    have b := stepC_len items t
    have e : stepC items (r :: t) = nextRows items r ++ stepC items t := by unfold stepC; rw [List.flatMap_cons]
    rw [e, List.length_append, List.length_cons, Nat.add_mul, Nat.one_mul]
    omega
theorem choices_len (items : List Nat) : ∀ n, (choicesOf items n).length ≤ items.length ^ n
  | 0 => by simp [choicesOf]
  | n + 1 => by
    have a := stepC_len items (choicesOf items n)
    have b := Nat.mul_le_mul_right items.length (choices_len items n)
    rw [Nat.pow_succ]
    exact Nat.le_trans a b

/-! ### the order of rows -/
theorem lt_app_len : ∀ {r s : List Nat} (x y : List Nat), r.length = s.length → r < s → r ++ x < s ++ y
  | [], [], _, _, _, h => absurd h (List.lt_irrefl [])
  | a :: r, b :: s, x, y, hl, h => by
    rw [List.cons_append, List.cons_append, List.cons_lt_cons_iff]
    rcases List.cons_lt_cons_iff.mp h with h | ⟨h1, h2⟩
    · exact .inl h
    · exact .inr ⟨h1, lt_app_len x y (Nat.succ.inj hl) h2⟩
theorem lt_app_same {a b : Nat} (h : a < b) : ∀ r : List Nat, r ++ [a] < r ++ [b]
  | [] => List.cons_lt_cons_iff.mpr (.inl h)
  | x :: r => List.cons_lt_cons_iff.mpr (.inr ⟨rfl, lt_app_same h r⟩)
theorem choices_sorted {items : List Nat} (ha : Asc items) : ∀ n, (choicesOf items n).Pairwise (· < ·)
  | 0 => List.pairwise_singleton _ _
  | n + 1 => by
    show (stepC items (choicesOf items n)).Pairwise (· < ·)
    unfold stepC
    rw [List.pairwise_flatMap]
    refine ⟨fun row _ => ?_, ?_⟩
    · unfold nextRows
      rw [List.pairwise_map]
      exact (ha.filter _).imp fun h => lt_app_same h row
    · refine List.Pairwise.imp_of_mem (fun {r s} hr hs h x hx y hy => ?_) (choices_sorted ha n)
      obtain ⟨i, _, _, rfl⟩ := mem_nextRows.mp hx
      obtain ⟨j, _, _, rfl⟩ := mem_nextRows.mp hy
      exact lt_app_len _ _ ((mem_choices.mp hr).1.trans (mem_choices.mp hs).1.symm) h
def keyLt (r s : List Nat) : Prop := r.length < s.length ∨ (r.length = s.length ∧ r < s)
instance : DecidableRel keyLt := fun r s => by unfold keyLt; infer_instance
def keyLe (r s : List Nat) : Bool := decide (¬ keyLt s r)
theorem keyLt_irrefl (r : List Nat) : ¬ keyLt r r := by
  rintro (h | ⟨_, h⟩)
  · omega
  · exact List.lt_irrefl r h
theorem keyLt_trans {r s t : List Nat} (a : keyLt r s) (b : keyLt s t) : keyLt r t := by
  rcases a with a | ⟨a1, a2⟩ <;> rcases b with b | ⟨b1, b2⟩
  · exact .inl (by omega)
  · exact .inl (by omega)
  · exact .inl (by omega)
  · exact .inr ⟨by omega, List.lt_trans a2 b2⟩
theorem keyLt_tri (r s : List Nat) : keyLt r s ∨ r = s ∨ keyLt s r := by
  by_cases h : r.length < s.length
  · exact .inl (.inl h)
  · by_cases h2 : s.length < r.length
    · exact .inr (.inr (.inl h2))
    · have e : r.length = s.length := by omega
      by_cases a : r < s
      · exact .inl (.inr ⟨e, a⟩)
      · by_cases b : s < r
        · exact .inr (.inr (.inr ⟨e.symm, b⟩))
        · exact .inr (.inl (List.le_antisymm (List.not_lt.mp b) (List.not_lt.mp a)))
theorem keyLe_total (r s : List Nat) : (keyLe r s || keyLe s r) = true := by
  unfold keyLe
  by_cases h : keyLt s r
  · have h2 : ¬ keyLt r s := fun z => keyLt_irrefl _ (keyLt_trans h z)
    simp [h, h2]
  · simp [h]
theorem keyLe_trans (r s t : List Nat) (a : keyLe r s = true) (b : keyLe s t = true) : keyLe r t = true := by
  unfold keyLe at *
  rw [decide_eq_true_eq] at *
  intro h
  rcases keyLt_tri r s with c | c | c
  · exact b (keyLt_trans h c)
  · exact b (c ▸ h)
  · exact a c

/-! ### the search of the program -/
def allC (m : List Nat) : List (List Nat) := (List.range (m.length + 1)).flatMap (choicesOf m)
def okLeft (evs : List Ev) (most : Int) (left : List Nat) : Bool := decide (chainsOf (withoutE evs left) ≤ most)
def leftOut (evs : List Ev) (most : Int) : Option (List Nat) := (allC (meetsOf evs)).find? (okLeft evs most)
theorem asc_sub_len {r m : List Nat} (hr : Asc r) (hm : Asc m) (h : ∀ x ∈ r, x ∈ m) : r.length ≤ m.length := by
  have e : r = m.filter fun x => r.contains x := asc_ext hr (hm.filter _) fun z => by
    rw [List.mem_filter, List.contains_iff_mem]
    exact ⟨fun hz => ⟨h z hz, hz⟩, fun hz => hz.2⟩
  rw [e]
  exact List.length_filter_le _ _
theorem mem_allC {m : List Nat} (hm : Asc m) {r : List Nat} : r ∈ allC m ↔ Asc r ∧ ∀ x ∈ r, x ∈ m := by
  unfold allC
  rw [List.mem_flatMap]
  constructor
  · rintro ⟨n, _, h⟩
    exact (mem_choices.mp h).2
  · rintro ⟨h1, h2⟩
    exact ⟨r.length, List.mem_range.mpr (Nat.lt_succ_of_le (asc_sub_len h1 hm h2)), mem_choices.mpr ⟨rfl, h1, h2⟩⟩
theorem allC_sorted {m : List Nat} (hm : Asc m) : (allC m).Pairwise keyLt := by
  unfold allC
  rw [List.pairwise_flatMap]
  refine ⟨fun n _ => ?_, ?_⟩
  · refine List.Pairwise.imp_of_mem (fun {r s} hr hs h => ?_) (choices_sorted hm n)
    exact .inr ⟨(mem_choices.mp hr).1.trans (mem_choices.mp hs).1.symm, h⟩
  · refine List.pairwise_lt_range.imp fun {a b} hab x hx y hy => ?_
    exact .inl (by rw [(mem_choices.mp hx).1, (mem_choices.mp hy).1]; exact hab)
theorem find_least {α : Type} {R : α → α → Prop} {p : α → Bool} : ∀ {l : List α} {x : α}, l.Pairwise R → l.find? p = some x → ∀ y ∈ l, p y = true → y = x ∨ R x y
  | [], _, _, h, _, _, _ => by cases h
  | a :: t, x, hp, h, y, hy, py => by
    obtain ⟨h1, h2⟩ := List.pairwise_cons.mp hp
    rw [List.find?_cons] at h
    cases pa : p a with
    | true =>
      rw [pa] at h
      have e : a = x := Option.some.inj h
      subst e
      rcases List.mem_cons.mp hy with e | e
      · exact .inl e
      · exact .inr (h1 y e)
    | false =>
      rw [pa] at h
      rcases List.mem_cons.mp hy with e | e
      · rw [e, pa] at py
        cases py
      · exact find_least h2 h y e py

/-! ### the law's own list of choices -/
def waTake (evs : List Ev) : Nat → List (List Nat)
  | 0 => [[]]
  | n + 1 => if meetAt evs n = true then waTake evs n ++ (waTake evs n).map (fun r => r ++ [n]) else waTake evs n
def waysOf (evs : List Ev) : List (List Nat) := waTake evs evs.length
theorem mem_waTake {evs : List Ev} : ∀ {n : Nat} {r : List Nat}, r ∈ waTake evs n ↔ Asc r ∧ ∀ x ∈ r, x ∈ meTake evs n
  | 0, r => by
    show r ∈ [[]] ↔ _
    rw [List.mem_singleton]
    constructor
    · rintro rfl
      exact ⟨List.Pairwise.nil, fun x hx => by cases hx⟩
    · rintro ⟨_, h⟩
      cases r with
      | nil => rfl
      | cons x t => exact absurd (h x List.mem_cons_self) (by simp [meTake])
  | n + 1, r => by
    unfold waTake
    rw [meTake_succ]
    by_cases hm : meetAt evs n = true
    · rw [if_pos hm, if_pos hm, List.mem_append, List.mem_map]
      constructor
      · rintro (h | ⟨s, h, rfl⟩)
        · obtain ⟨a, b⟩ := mem_waTake.mp h
          exact ⟨a, fun x hx => List.mem_append.mpr (.inl (b x hx))⟩
        · obtain ⟨a, b⟩ := mem_waTake.mp h
          refine ⟨asc_snoc a fun x hx => meTake_lt (b x hx), fun x hx => ?_⟩
          rcases List.mem_append.mp hx with hx | hx
          · exact List.mem_append.mpr (.inl (b x hx))
          · exact List.mem_append.mpr (.inr hx)
      · rintro ⟨a, b⟩
        rcases List.eq_nil_or_concat r with rfl | ⟨l, z, rfl⟩
        · exact .inl (mem_waTake.mpr ⟨List.Pairwise.nil, fun x hx => by cases hx⟩)
        · rw [List.concat_eq_append] at a b ⊢
          obtain ⟨a1, _, a3⟩ := List.pairwise_append.mp a
          have low : ∀ x ∈ l, x ∈ meTake evs n := fun x hx => by
            rcases List.mem_append.mp (b x (List.mem_append.mpr (.inl hx))) with h | h
            · exact h
            · have e := List.mem_singleton.mp h
              have q := a3 x hx z (List.mem_singleton.mpr rfl)
              rcases List.mem_append.mp (b z (List.mem_append.mpr (.inr (List.mem_singleton.mpr rfl)))) with h' | h'
              · have := meTake_lt h'; omega
              · have := List.mem_singleton.mp h'; omega
          rcases List.mem_append.mp (b z (List.mem_append.mpr (.inr (List.mem_singleton.mpr rfl)))) with h | h
          · refine .inl (mem_waTake.mpr ⟨a, fun x hx => ?_⟩)
            rcases List.mem_append.mp hx with hx | hx
            · exact low x hx
            · rw [List.mem_singleton.mp hx]; exact h
          · refine .inr ⟨l, mem_waTake.mpr ⟨a1, low⟩, ?_⟩
            rw [List.mem_singleton.mp h]
    · rw [if_neg hm, if_neg hm, List.append_nil]
      exact mem_waTake
theorem waTake_head (evs : List Ev) : ∀ n, (waTake evs n)[0]? = some []
  | 0 => rfl
  | n + 1 => by
    have h := waTake_head evs n
    unfold waTake
    split
    · rw [List.getElem?_append_left (by
        cases e : waTake evs n with
        | nil => rw [e] at h; cases h
        | cons a t => simp)]
      exact h
    · exact h
theorem waTake_len (evs : List Ev) : ∀ n, (waTake evs n).length = 2 ^ (meTake evs n).length
  | 0 => by simp [waTake, meTake]
  | n + 1 => by
    unfold waTake
    rw [meTake_succ]
    split
    · rw [List.length_append, List.length_map, waTake_len evs n, List.length_append]
      simp [Nat.pow_succ]
      omega
    · rw [List.append_nil]; exact waTake_len evs n
theorem mem_ways {evs : List Ev} {r : List Nat} : r ∈ waysOf evs ↔ r ∈ allC (meetsOf evs) :=
  mem_waTake.trans (mem_allC (meetsOf_asc evs)).symm

/-! ### the law's answer is the program's -/
theorem leftOut_none {evs : List Ev} {most : Int} (h : (waysOf evs).filter (okLeft evs most) = []) : leftOut evs most = none := by
  unfold leftOut
  rw [List.find?_eq_none]
  intro r hr ok
  have m : r ∈ (waysOf evs).filter (okLeft evs most) := List.mem_filter.mpr ⟨mem_ways.mpr hr, ok⟩
  rw [h] at m
  cases m
theorem leftOut_some {evs : List Ev} {most : Int} {x : List Nat} {t : List (List Nat)} (h : ((waysOf evs).filter (okLeft evs most)).mergeSort keyLe = x :: t) : leftOut evs most = some x := by
  have pm := List.mergeSort_perm ((waysOf evs).filter (okLeft evs most)) keyLe
  rw [h] at pm
  have hx : x ∈ (waysOf evs).filter (okLeft evs most) := pm.mem_iff.mp List.mem_cons_self
  obtain ⟨x1, x2⟩ := List.mem_filter.mp hx
  have sorted : (x :: t).Pairwise fun a b => keyLe a b = true := by
    rw [← h]
    exact List.pairwise_mergeSort keyLe_trans keyLe_total _
  unfold leftOut
  cases e : (allC (meetsOf evs)).find? (okLeft evs most) with
  | none =>
    rw [List.find?_eq_none] at e
    exact absurd x2 (e x (mem_ways.mp x1))
  | some y =>
    have y1 : y ∈ allC (meetsOf evs) := List.mem_of_find?_eq_some e
    have y2 : okLeft evs most y = true := List.find?_some e
    have hy : y ∈ x :: t := pm.mem_iff.mpr (List.mem_filter.mpr ⟨mem_ways.mpr y1, y2⟩)
    rcases find_least (allC_sorted (meetsOf_asc evs)) e x (mem_ways.mp x1) x2 with q | q
    · rw [q]
    · rcases List.mem_cons.mp hy with z | z
      · rw [z]
      · have le := (List.pairwise_cons.mp sorted).1 y z
        unfold keyLe at le
        exact absurd q (of_decide_eq_true le)
theorem leftOut_ok {evs : List Ev} {most : Int} {x : List Nat} (h : leftOut evs most = some x) : chainsOf (withoutE evs x) ≤ most := by
  have q : okLeft evs most x = true := List.find?_some h
  exact of_decide_eq_true q
theorem leftOut_nil {evs : List Ev} {most : Int} (h : chainsOf evs ≤ most) : leftOut evs most = some [] := by
  unfold leftOut allC
  rw [List.range_succ_eq_map, List.flatMap_cons]
  show (([[]] : List (List Nat)) ++ _).find? _ = _
  rw [List.singleton_append, List.find?_cons]
  have e : okLeft evs most [] = true := by
    unfold okLeft
    rw [withoutE_nil]
    exact decide_eq_true h
  rw [e]
end Pb

set_option Elab.async false
set_option linter.all false
set_option maxRecDepth 100000
/-! The order of Python's tuples (length, row) is keyLt. -/
namespace Pb
open PySem PySem.Spec PyProof.Rows L2
theorem castRow (r : List Nat) : (r.map fun n : Nat => PyData.int (n : Int)) = (r.map fun n : Nat => (n : Int)).map PyData.int := by
  rw [List.map_map]
  rfl
theorem cast_lt : ∀ r s : List Nat, (r.map fun n : Nat => (n : Int)) < (s.map fun n : Nat => (n : Int)) ↔ r < s
  | [], [] => by simp
  | [], _ :: _ => by simp
  | _ :: _, [] => by simp
  | a :: r, b :: s => by
    rw [List.map_cons, List.map_cons, List.cons_lt_cons_iff, List.cons_lt_cons_iff, cast_lt r s]
    constructor
    · rintro (h | ⟨h1, h2⟩)
      · exact .inl (by omega)
      · exact .inr ⟨by omega, h2⟩
    · rintro (h | ⟨h1, h2⟩)
      · exact .inl (by omega)
      · exact .inr ⟨by omega, h2⟩
theorem eqv_rows : ∀ r s : List Nat, PyData.eqvAll (r.map fun n : Nat => PyData.int (n : Int)) (s.map fun n : Nat => PyData.int (n : Int)) = decide (r = s)
  | [], [] => by simp [PyData.eqvAll]
  | [], _ :: _ => by simp [PyData.eqvAll]
  | _ :: _, [] => by simp [PyData.eqvAll]
  | a :: r, b :: s => by
    rw [List.map_cons, List.map_cons, PyData.eqvAll, eqv_rows r s, PyData.eqv]
    by_cases h : a = b
    · subst h
      simp
    · have h2 : ((a : Int) == (b : Int)) = false := by
        rw [beq_eq_false_iff_ne]
        omega
      rw [h2]
      simp [h]
theorem row_lt (r s : List Nat) : PySem.W.dataLt (encRow r) (encRow s) = decide (r < s) := by
  unfold encRow
  rw [PySem.W.dataLt_tuple, castRow, castRow]
  show PySem.W.rowLt _ _ = _
  rw [PySem.W.dataLt_ints]
  exact decide_eq_decide.mpr (cast_lt r s)
theorem row_eqv (r s : List Nat) : PyData.eqv (encRow r) (encRow s) = decide (r = s) := by
  unfold encRow
  rw [PyData.eqv]
  exact eqv_rows r s
theorem encW_lt (r s : List Nat) : PySem.W.dataLt (encW r) (encW s) = decide (keyLt r s) := by
  unfold encW
  rw [PySem.W.dataLt_pair (by simp [PySem.W.alike]) (alike_row r s), PySem.W.dataLt_int, row_lt, row_eqv, PyData.eqv]
  unfold keyLt
  by_cases h : r.length = s.length
  · have h2 : ((r.length : Int) == (s.length : Int)) = true := by rw [h]; exact beq_self_eq_true _
    rw [if_pos h2]
    by_cases e : r = s
    · subst e
      simp [List.lt_irrefl]
    · simp [e, h]
  · have h2 : ((r.length : Int) == (s.length : Int)) = false := by
      rw [beq_eq_false_iff_ne]
      omega
    rw [h2]
    simp [h]
theorem wayLe_key : wayLe = keyLe := by
  funext r s
  show (!PySem.W.dataLt (encW s) (encW r)) = decide (¬ keyLt s r)
  rw [encW_lt]
  by_cases h : keyLt s r <;> simp [h]
end Pb

set_option Elab.async false
set_option linter.all false
set_option maxRecDepth 100000
/-! The text by places, and the checks. -/
namespace Pb
open PySem PySem.Spec PyProof.Rows L2

/-! ### the text -/
def topS (i : Nat) : Stmt := PySem.Challenge.pw_putbetween_k15_whole_meets_left_out.main.body.getD i (.Pass ⟨0, 0, 0, 0⟩)
abbrev sInteger : Stmt := topS 7
abbrev sWithin : Stmt := topS 8
abbrev sListed : Stmt := topS 9
abbrev sMost : Stmt := topS 10
abbrev sEnding : Stmt := topS 12
abbrev sMany : Stmt := topS 13
abbrev sHand : Stmt := topS 18
abbrev sEvent : Stmt := topS 19
abbrev sCheckDay : Stmt := topS 20
abbrev sPut : Stmt := topS 21
abbrev sPlan : Stmt := topS 22
abbrev sChoices : Stmt := topS 23
abbrev sWithout : Stmt := topS 24
abbrev sLeft : Stmt := topS 25
abbrev sPool : Stmt := topS 27
abbrev sDraw : Stmt := topS 28
abbrev sDay : Stmt := topS 29
abbrev sLChains : Stmt := topS 30
abbrev sLWithout : Stmt := topS 31
abbrev sLChoices : Stmt := topS 32
abbrev sIsRow : Stmt := topS 33
abbrev sLaw : Stmt := topS 34

/-- the module's names as the walk asks of them -/
structure Txt (mg : Str → Option Value) : Prop where
  isinstance : mg "isinstance" = none
  int : mg "int" = none
  bool : mg "bool" = none
  str : mg "str" = none
  list : mg "list" = none
  tuple : mg "tuple" = none
  len : mg "len" = none
  sum : mg "sum" = none
  sorted : mg "sorted" = none
  enumerate : mg "enumerate" = none
  range : mg "range" = none
  set : mg "set" = none
  repr : mg "repr" = none
  items : ∃ t, mg "MOST_ITEMS" = some (.int 40 t)
  events : ∃ t, mg "MOST_EVENTS" = some (.int 60 t)
  hand : ∃ t, mg "MOST_HAND" = some (.int 15 t)
  meets : ∃ t, mg "MOST_MEETS" = some (.int 10 t)

section
variable {X : Cx}
/-- the name of a built-in type, as a value -/
theorem pe_ty {x : Str} {n : String} {pos : Pos} (hg : Gl X x) (hm : X.mg x = none) (hv : bootBuiltins x = some (.type n)) (hn : x ≠ "__name__" := by decide) (hd : (x == ("__debug__" : Str)) = false := by decide) : PE X (.Name x pos) (tC (.ty n)) :=
  pe_bltn hg hm hv rfl hn hd
end
theorem boot_bool' : bootBuiltins "bool" = some (.type "bool") := by decide +kernel
theorem boot_str' : bootBuiltins "str" = some (.type "str") := by decide +kernel
theorem boot_int' : bootBuiltins "int" = some (.type "int") := by decide +kernel
theorem boot_list' : bootBuiltins "list" = some (.type "list") := by decide +kernel
theorem boot_tuple' : bootBuiltins "tuple" = some (.type "tuple") := by decide +kernel
theorem boot_isinstance' : bootBuiltins "isinstance" = some (.builtin "isinstance") := by decide +kernel
theorem is_int {K : PySem.W.Frag} : PySem.W.kitOne K (.type "int") (.type "int") = some true := kit_ty (by decide +kernel)
theorem is_int_bool {K : PySem.W.Frag} : PySem.W.kitOne K (.type "int") (.type "bool") = some false := kit_ty (by decide +kernel)
theorem is_tuple {K : PySem.W.Frag} : PySem.W.kitOne K (.type "tuple") (.type "tuple") = some true := kit_ty (by decide +kernel)
theorem is_list {K : PySem.W.Frag} : PySem.W.kitOne K (.type "list") (.type "list") = some true := kit_ty (by decide +kernel)
theorem is_tuple_list {K : PySem.W.Frag} : PySem.W.kitOne K (.type "tuple") (.type "list") = some false := kit_ty (by decide +kernel)
theorem is_str {K : PySem.W.Frag} : PySem.W.kitOne K (.type "str") (.type "str") = some true := kit_ty (by decide +kernel)

section
variable {P : Program} {w : World} {K : PySem.W.Frag} {mg : Str → Option Value} {base : Heap}

theorem qYes {p : Prop} [Decidable p] {Q : VK} {H : Hp} (h : p) (q : Q (.bl true) H) : Q (.bl (decide p)) H := by
  rw [decide_eq_true h]
  exact q
theorem qNo {p : Prop} [Decidable p] {Q : VK} {H : Hp} (h : ¬ p) (q : Q (.bl false) H) : Q (.bl (decide p)) H := by
  rw [decide_eq_false h]
  exact q
theorem ifNo {p A B : Prop} [Decidable p] (h : ¬ p) (b : B) : if decide p = true then A else B := by
  rw [decide_eq_false h]
  exact iteF b
theorem ifYes {p A B : Prop} [Decidable p] (h : p) (a : A) : if decide p = true then A else B := by
  rw [decide_eq_true h]
  exact iteT a
/-! ### is_integer, is_within -/
theorem scInteger : FnScope ["thing"] ["thing"] (defScope sInteger) := ⟨rfl, rfl, rfl, by decide +kernel, rfl, by decide +kernel, by decide +kernel⟩
def spInteger : Sp := fun vs H Q _ => ∃ i : Int, vs = [.int i] ∧ Q (.bl true) H
theorem ok_integer {f : Addr} {fd : FuncData} {k : Nat} (F : Fun K "is_integer" "is_integer" sInteger f fd) (T : Txt mg) : FnOk P w K mg base CX0 (k + 1) f fd ["thing"] spInteger := by
  refine F.ok scInteger (fun vs H Q E h => ?_) (fun cdv A outer s H vs Q E hr h => ?_)
  · obtain ⟨i, rfl, _⟩ := h
    rfl
  · obtain ⟨i, rfl, q⟩ := h
    refine ⟨_, pss_one (ps_ret (pe_and (pe_callB call_isi (by rfl) T.isinstance boot_isinstance' (pa_cons (pv 0) (pa_cons (pe_ty (by rfl) T.int boot_int') pa_nil)))
      (pe_one (pe_not (pe_callB call_isi (by rfl) T.isinstance boot_isinstance' (pa_cons (pv 0) (pa_cons (pe_ty (by rfl) T.bool boot_bool') pa_nil))))))), ?_⟩
    refine ⟨_, rfl, _, _, _, _, true, rfl, .ty _, .base (.int i), is_int, true, rfl, iteT ?_⟩
    exact ⟨_, rfl, _, _, _, _, false, rfl, .ty _, .base (.int i), is_int_bool, false, rfl, q⟩

theorem scWithin : FnScope ["thing", "least", "most"] ["thing", "least", "most"] (defScope sWithin) := ⟨rfl, rfl, rfl, by decide +kernel, rfl, by decide +kernel, by decide +kernel⟩
def spWithin : Sp := fun vs H Q _ => ∃ i a b : Int, vs = [.int i, .int a, .int b] ∧ a ≤ i ∧ i ≤ b ∧ Q (.bl true) H
theorem ok_within {f g : Addr} {fd gd : FuncData} (F : Fun K "is_within" "is_within" sWithin f fd) (FI : Fun K "is_integer" "is_integer" sInteger g gd) (bI : Binds K gd ["thing"] []) (mI : mg "is_integer" = some (.ref g)) (T : Txt mg) :
    FnOk P w K mg base CX0 2 f fd ["thing", "least", "most"] spWithin := by
  have GI : FnOk P w K mg base CX0 1 g gd ["thing"] spInteger := ok_integer FI T
  refine F.ok scWithin (fun vs H Q E h => ?_) (fun cdv A outer s H vs Q E hr h => ?_)
  · obtain ⟨i, a, b, rfl, _⟩ := h
    rfl
  · obtain ⟨i, a, b, rfl, h1, h2, q⟩ := h
    refine ⟨_, pss_one (ps_ret (pe_and (pe_call GI hr (by rfl) mI FI.kp bI .nil pass0 (pa_cons (pv 0) pa_nil)) (pe_one (pe_chain op_le op_le (pv 1) (pv 0) (pv 2))))), ?_⟩
    refine ⟨_, rfl, i, rfl, true, rfl, iteT ?_⟩
    refine ⟨_, rfl, _, rfl, a, i, rfl, rfl, _, rfl, ?_⟩
    rw [decide_eq_true h1]
    exact iteT ⟨_, rfl, i, b, rfl, rfl, qYes h2 q⟩
end
end Pb

set_option Elab.async false
set_option linter.all false
set_option maxRecDepth 100000
namespace Pb
open PySem PySem.Spec PyProof.Rows L2

/-! ### days in the heap -/
theorem paired_get {α β : Type} {F : α → β → Prop} : ∀ {xs : List α} {ys : List β}, Paired F xs ys → ∀ (i : Nat) (x : α), xs[i]? = some x → ∃ y, ys[i]? = some y ∧ F x y
  | _, _, .nil, i, x, h => by simp at h
  | _, _, .cons f _, 0, x, h => ⟨_, rfl, (Option.some.inj h) ▸ f⟩
  | _, _, .cons _ t, i + 1, x, h => paired_get t i x h
theorem paired_get' {α β : Type} {F : α → β → Prop} : ∀ {xs : List α} {ys : List β}, Paired F xs ys → ∀ (i : Nat) (y : β), ys[i]? = some y → ∃ x, xs[i]? = some x ∧ F x y
  | _, _, .nil, i, x, h => by simp at h
  | _, _, .cons f _, 0, x, h => ⟨_, rfl, (Option.some.inj h) ▸ f⟩
  | _, _, .cons _ t, i + 1, x, h => paired_get' t i x h
def evV : Ev → List V
  | .put h => [.str "put", .int (h : Int)]
  | .meet a b => [.str "meet", .int (a : Int), .int (b : Int)]
def EvAt (H : Hp) (v : V) (e : Ev) : Prop := ∃ a, v = .ref a ∧ H a = some (.tup (evV e))
def DayAt (b : Bool) (H : Hp) (a : Addr) (evs : List Ev) : Prop := ∃ vs, H a = some (sqO b vs) ∧ Paired (EvAt H) vs evs
def EvOk : Ev → Prop
  | .put h => h ≤ 15
  | .meet a b => a ≤ 15 ∧ b ≤ 15 ∧ a ≠ b
theorem EvAt.mono {H H' : Hp} {v : V} {e : Ev} (s : Same H H') (h : EvAt H v e) : EvAt H' v e := let ⟨a, x, y⟩ := h; ⟨a, x, s _ _ y⟩
theorem DayAt.mono {b : Bool} {H H' : Hp} {a : Addr} {evs : List Ev} (s : Same H H') (h : DayAt b H a evs) : DayAt b H' a evs := let ⟨vs, x, y⟩ := h; ⟨vs, s _ _ x, Paired.mono (fun _ _ z => EvAt.mono s z) y⟩
theorem RowAt.mono {H H' : Hp} {v : V} {r : List Nat} (s : Same H H') (h : RowAt H v r) : RowAt H' v r := let ⟨a, x, y⟩ := h; ⟨a, x, s _ _ y⟩
theorem same_new {H : Hp} {p : Addr} {o : HO} (h : H p = none) : Same H (upd H p o) := fun b x e => by
  rw [upd_ne (ne_of_none e h)]
  exact e
theorem small64 {n : Nat} (h : n ≤ 1000) : n ≤ sizeLine := Nat.le_of_lt (small1000 h)
theorem str_meet_put : ¬ (V.str "meet" = V.str "put") := by decide +kernel
theorem str_scal {x y : Str} : scal (.str x) (.str y) = true := rfl

section
variable {P : Program} {w : World} {K : PySem.W.Frag} {mg : Str → Option Value} {base : Heap}

/-! ### is_listed -/
theorem scListed : FnScope ["thing"] ["thing"] (defScope sListed) := ⟨rfl, rfl, rfl, by decide +kernel, rfl, by decide +kernel, by decide +kernel⟩
def spListed : Sp := fun vs H Q _ => ∃ (b : Bool) (a : Addr) (xs : List V), vs = [.ref a] ∧ H a = some (sqO b xs) ∧ ∀ H', Same H H' → Q (.bl true) H'
theorem ok_listed {f : Addr} {fd : FuncData} {k : Nat} (F : Fun K "is_listed" "is_listed" sListed f fd) (T : Txt mg) : FnOk P w K mg base CX0 (k + 1) f fd ["thing"] spListed := by
  refine F.ok scListed (fun vs H Q E h => ?_) (fun cdv A outer s H vs Q E hr h => ?_)
  · obtain ⟨b, a, xs, rfl, _⟩ := h
    rfl
  · obtain ⟨b, a, xs, rfl, ha, q⟩ := h
    refine ⟨_, pss_one (ps_ret (pe_callB call_isiT (by rfl) T.isinstance boot_isinstance' (pa_cons (pv 0) (pa_cons (pe_tup (pa_cons (pe_ty (by rfl) T.list boot_list') (pa_cons (pe_ty (by rfl) T.tuple boot_tuple') pa_nil))) pa_nil)))), ?_⟩
    refine ⟨_, rfl, (by show 2 ≤ sizeLine; decide), fun p np => ?_⟩
    have sm := same_new (o := .tup [.ty "list", .ty "tuple"]) np
    cases b with
    | true =>
      exact ⟨_, _, _, _, _, true, rfl, upd_same, .cons (.ty _) (.cons (.ty _) .nil), .base (.lst (sm _ _ ha)), kitAny_cons is_list (fun z => nomatch z) (fun _ => rfl), q _ sm⟩
    | false =>
      exact ⟨_, _, _, _, _, true, rfl, upd_same, .cons (.ty _) (.cons (.ty _) .nil), .base (.tup (sm _ _ ha)), kitAny_cons is_tuple_list (fun _ => kitAny_cons is_tuple (fun z => nomatch z) (fun _ => rfl)) (fun z => nomatch z), q _ sm⟩

/-! ### check_most -/
theorem scMost : FnScope ["many", "most"] ["many", "most"] (defScope sMost) := ⟨rfl, rfl, rfl, by decide +kernel, rfl, by decide +kernel, by decide +kernel⟩
def spMost : Sp := fun vs H Q _ => ∃ i j : Int, vs = [.int i, .int j] ∧ i ≤ j ∧ Q .non H
theorem ok_most {f : Addr} {fd : FuncData} {k : Nat} (F : Fun K "check_most" "check_most" sMost f fd) : FnOk P w K mg base CX0 (k + 1) f fd ["many", "most"] spMost := by
  refine F.ok scMost (fun vs H Q E h => ?_) (fun cdv A outer s H vs Q E hr h => ?_)
  · obtain ⟨i, j, rfl, _⟩ := h
    rfl
  · obtain ⟨i, j, rfl, hij, q⟩ := h
    refine ⟨_, pss_one (ps_if (pt_cmpR op_gt (pv 0) (pv 1) (nomark _)) pss_never pss_nil), ?_⟩
    exact ⟨_, rfl, _, rfl, i, j, rfl, rfl, _, rfl, ifNo (show ¬ j < i by omega) q⟩

/-! ### is_hand -/
theorem scHand : FnScope ["thing"] ["thing"] (defScope sHand) := ⟨rfl, rfl, rfl, by decide +kernel, rfl, by decide +kernel, by decide +kernel⟩
def spHand : Sp := fun vs H Q _ => ∃ i : Nat, vs = [.int (i : Int)] ∧ i ≤ 15 ∧ Q (.bl true) H
theorem ok_hand {f g : Addr} {fd gd : FuncData} (F : Fun K "is_hand" "is_hand" sHand f fd) (G : FnOk P w K mg base CX0 2 g gd ["thing", "least", "most"] spWithin) (kG : PySem.W.keepIn K (.ref g) = true) (bG : Binds K gd ["thing", "least", "most"] [])
    (mG : mg "is_within" = some (.ref g)) (T : Txt mg) : FnOk P w K mg base CX0 3 f fd ["thing"] spHand := by
  refine F.ok scHand (fun vs H Q E h => ?_) (fun cdv A outer s H vs Q E hr h => ?_)
  · obtain ⟨i, rfl, _⟩ := h
    rfl
  · obtain ⟨i, rfl, hi, q⟩ := h
    obtain ⟨t, mH⟩ := T.hand
    refine ⟨_, pss_one (ps_ret (pe_call G hr (by rfl) mG kG bG .nil pass0 (pa_cons (pv 0) (pa_cons pe_int (pa_cons (pe_glob (v := .int 15) (by rfl) mH ⟨t, rfl⟩) pa_nil))))), ?_⟩
    exact ⟨_, rfl, (i : Int), 0, 15, rfl, by omega, by omega, q⟩

/-! ### is_event, is_put -/
theorem scEvent : FnScope ["thing"] ["thing"] (defScope sEvent) := ⟨rfl, rfl, rfl, by decide +kernel, rfl, by decide +kernel, by decide +kernel⟩
def spEvent : Sp := fun vs H Q _ => ∃ (v : V) (e : Ev), vs = [v] ∧ EvAt H v e ∧ EvOk e ∧ Q (.bl true) H
theorem ok_event {f g : Addr} {fd gd : FuncData} (F : Fun K "is_event" "is_event" sEvent f fd) (G : FnOk P w K mg base CX0 3 g gd ["thing"] spHand) (kG : PySem.W.keepIn K (.ref g) = true) (bG : Binds K gd ["thing"] [])
    (mG : mg "is_hand" = some (.ref g)) (T : Txt mg) : FnOk P w K mg base CX0 4 f fd ["thing"] spEvent := by
  refine F.ok scEvent (fun vs H Q E h => ?_) (fun cdv A outer s H vs Q E hr h => ?_)
  · obtain ⟨v, e, rfl, _⟩ := h
    rfl
  · obtain ⟨v, e, rfl, ⟨a, rfl, ha⟩, he, q⟩ := h
    refine ⟨_, pss_cons (ps_if (PW.pt (pw_or (pt_not (pt_val (pe_callB call_isi (by rfl) T.isinstance boot_isinstance' (pa_cons (pv 0) (pa_cons (pe_ty (by rfl) T.tuple boot_tuple') pa_nil)))))
        (pw_or (pt_cmpR op_lt (pe_callB call_len_seq (by rfl) T.len PySem.boot_len (pa_cons (pv 0) pa_nil)) pe_int (nomark _))
        (pw_or1 (pt_not (pt_val (pe_callB call_isi (by rfl) T.isinstance boot_isinstance' (pa_cons (pe_ix ix_tup (pv 0) pe_int (fun _ _ => rfl)) (pa_cons (pe_ty (by rfl) T.str boot_str') pa_nil)))))))))
        (pss_one (ps_ret pe_bl)) pss_nil)
      (pss_cons (ps_if (pt_cmpR op_eq (pe_ix ix_tup (pv 0) pe_int (fun _ _ => rfl)) pe_str (nomark _))
        (pss_one (ps_ret (pe_and (pe_cmpR op_eq (pe_callB call_len_seq (by rfl) T.len PySem.boot_len (pa_cons (pv 0) pa_nil)) pe_int (nomark _))
          (pe_one (pe_call G hr (by rfl) mG kG bG .nil pass0 (pa_cons (pe_ix ix_tup (pv 0) pe_int (fun _ _ => rfl)) pa_nil)))))) pss_nil)
      (pss_cons (ps_if (PW.pt (pw_or (pt_cmpR op_ne (pe_ix ix_tup (pv 0) pe_int (fun _ _ => rfl)) pe_str (nomark _))
        (pw_or1 (pt_cmpR op_ne (pe_callB call_len_seq (by rfl) T.len PySem.boot_len (pa_cons (pv 0) pa_nil)) pe_int (nomark _)))))
        (pss_one (ps_ret pe_bl)) pss_nil)
      (pss_one (ps_ret (pe_and (pe_call G hr (by rfl) mG kG bG .nil pass0 (pa_cons (pe_ix ix_tup (pv 0) pe_int (fun _ _ => rfl)) pa_nil))
        (pe_and (pe_call G hr (by rfl) mG kG bG .nil pass0 (pa_cons (pe_ix ix_tup (pv 0) pe_int (fun _ _ => rfl)) pa_nil))
        (pe_one (pe_cmpR op_ne (pe_ix ix_tup (pv 0) pe_int (fun _ _ => rfl)) (pe_ix ix_tup (pv 0) pe_int (fun _ _ => rfl)) (nomark _))))))))), ?_⟩
    have sq : SqT K H a (evV e) := .inl (.inl ha)
    refine ⟨_, rfl, _, _, _, _, true, rfl, .ty _, .base (.tup ha), is_tuple, true, rfl, iteF ?_⟩
    cases e with
    | put h =>
      refine ⟨_, rfl, a, _, rfl, .inr sq, _, _, rfl, rfl, _, rfl, ifNo (by show ¬ ((2 : Int) < 2); decide) ?_⟩
      refine ⟨_, rfl, _, _, 0, .str "put", rfl, rfl, sq, atI_nat (j := 0) rfl, _, _, _, _, true, rfl, .ty _, .base (.str _), is_str, true, rfl, iteF ?_⟩
      refine ⟨_, rfl, _, _, 0, .str "put", rfl, rfl, sq, atI_nat (j := 0) rfl, str_scal, _, rfl, ifYes rfl ?_⟩
      refine ⟨_, rfl, a, _, rfl, .inr sq, rfl, true, (by first | rfl | decide +kernel), iteT ?_⟩
      exact ⟨_, rfl, _, _, 1, _, rfl, rfl, sq, atI_nat (j := 1) rfl, h, rfl, he, q⟩
    | meet x y =>
      obtain ⟨h1, h2, h3⟩ := he
      refine ⟨_, rfl, a, _, rfl, .inr sq, _, _, rfl, rfl, _, rfl, ifNo (by show ¬ ((3 : Int) < 2); decide) ?_⟩
      refine ⟨_, rfl, _, _, 0, .str "meet", rfl, rfl, sq, atI_nat (j := 0) rfl, _, _, _, _, true, rfl, .ty _, .base (.str _), is_str, true, rfl, iteF ?_⟩
      refine ⟨_, rfl, _, _, 0, .str "meet", rfl, rfl, sq, atI_nat (j := 0) rfl, str_scal, _, rfl, ifNo str_meet_put ?_⟩
      refine ⟨_, rfl, _, _, 0, .str "meet", rfl, rfl, sq, atI_nat (j := 0) rfl, str_scal, false, (by first | rfl | decide +kernel), iteF ?_⟩
      refine ⟨_, rfl, a, _, rfl, .inr sq, rfl, false, (by first | rfl | decide +kernel), iteF ?_⟩
      refine ⟨_, rfl, _, _, 1, _, rfl, rfl, sq, atI_nat (j := 1) rfl, x, rfl, h1, true, rfl, iteT ?_⟩
      refine ⟨_, rfl, _, _, 2, _, rfl, rfl, sq, atI_nat (j := 2) rfl, y, rfl, h2, true, rfl, iteT ?_⟩
      refine ⟨_, rfl, _, _, 1, _, rfl, rfl, sq, atI_nat (j := 1) rfl, _, rfl, _, _, 2, _, rfl, rfl, sq, atI_nat (j := 2) rfl, rfl, ?_⟩
      have ne : ¬ (V.int (x : Int) = V.int (y : Int)) := fun z => h3 (by injection z with z; omega)
      show Q (.bl (!decide (V.int (x : Int) = V.int (y : Int)))) H
      rw [decide_eq_false ne]
      exact q
end
end Pb

set_option Elab.async false
set_option linter.all false
set_option maxRecDepth 100000
namespace Pb
open PySem PySem.Spec PyProof.Rows L2
def Ev.isPut : Ev → Bool
  | .put _ => true
  | .meet _ _ => false
theorem Same.into {H H' : Hp} {D : Addr} {o : HO} (s : Same H H') (n : H D = none) : Same H (upd H' D o) := fun b x e => by
  rw [upd_ne (ne_of_none e n)]
  exact s b x e
section
variable {P : Program} {w : World} {K : PySem.W.Frag} {mg : Str → Option Value} {base : Heap}
theorem scPut : FnScope ["thing"] ["thing"] (defScope sPut) := ⟨rfl, rfl, rfl, by decide +kernel, rfl, by decide +kernel, by decide +kernel⟩
def spPut : Sp := fun vs H Q _ => ∃ (v : V) (e : Ev), vs = [v] ∧ EvAt H v e ∧ EvOk e ∧ Q (.bl e.isPut) H
theorem ok_put {f g : Addr} {fd gd : FuncData} (F : Fun K "is_put" "is_put" sPut f fd) (G : FnOk P w K mg base CX0 4 g gd ["thing"] spEvent) (kG : PySem.W.keepIn K (.ref g) = true) (bG : Binds K gd ["thing"] [])
    (mG : mg "is_event" = some (.ref g)) : FnOk P w K mg base CX0 5 f fd ["thing"] spPut := by
  refine F.ok scPut (fun vs H Q E h => ?_) (fun cdv A outer s H vs Q E hr h => ?_)
  · obtain ⟨v, e, rfl, _⟩ := h
    rfl
  · obtain ⟨v, e, rfl, ev, he, q⟩ := h
    obtain ⟨a, rfl, ha⟩ := id ev
    refine ⟨_, pss_one (ps_ret (pe_and (pe_call G hr (by rfl) mG kG bG .nil pass0 (pa_cons (pv 0) pa_nil)) (pe_one (pe_cmpR op_eq (pe_ix ix_tup (pv 0) pe_int (fun _ _ => rfl)) pe_str (nomark _))))), ?_⟩
    refine ⟨_, rfl, .ref a, e, rfl, ev, he, true, rfl, iteT ?_⟩
    have sq : SqT K H a (evV e) := .inl (.inl ha)
    cases e with
    | put h => exact ⟨_, rfl, _, _, 0, .str "put", rfl, rfl, sq, atI_nat (j := 0) rfl, str_scal, qYes rfl q⟩
    | meet x y => exact ⟨_, rfl, _, _, 0, .str "meet", rfl, rfl, sq, atI_nat (j := 0) rfl, str_scal, qNo str_meet_put q⟩

/-! ### check_day -/
theorem scCheck : FnScope ["day", "index", "event"] ["day"] (defScope sCheckDay) := ⟨rfl, rfl, rfl, by decide +kernel, rfl, by decide +kernel, by decide +kernel⟩
def DaySt (b : Bool) (H : Hp) (a : Addr) (evs : List Ev) : Prop := DayAt b H a evs ∧ (∀ e ∈ evs, EvOk e) ∧ evs.length ≤ 12
def spCheck : Sp := fun vs H Q _ => ∃ (b : Bool) (a : Addr) (evs : List Ev), vs = [.ref a] ∧ DaySt b H a evs ∧ ∀ H', Same H H' → Q .non H'
theorem ok_check {f g1 g2 g3 : Addr} {fd gd1 gd2 gd3 : FuncData} (F : Fun K "check_day" "check_day" sCheckDay f fd)
    (G1 : FnOk P w K mg base CX0 1 g1 gd1 ["thing"] spListed) (k1 : PySem.W.keepIn K (.ref g1) = true) (b1 : Binds K gd1 ["thing"] []) (m1 : mg "is_listed" = some (.ref g1))
    (G2 : FnOk P w K mg base CX0 5 g2 gd2 ["thing"] spPut) (k2 : PySem.W.keepIn K (.ref g2) = true) (b2 : Binds K gd2 ["thing"] []) (m2 : mg "is_put" = some (.ref g2))
    (G3 : FnOk P w K mg base CX0 4 g3 gd3 ["thing"] spEvent) (k3 : PySem.W.keepIn K (.ref g3) = true) (b3 : Binds K gd3 ["thing"] []) (m3 : mg "is_event" = some (.ref g3)) (T : Txt mg) :
    FnOk P w K mg base CX0 6 f fd ["day"] spCheck := by
  refine F.ok scCheck (fun vs H Q E h => ?_) (fun cdv A outer s H vs Q E hr h => ?_)
  · obtain ⟨b, a, evs, rfl, _⟩ := h
    rfl
  · obtain ⟨b, a, evs, rfl, ⟨day, ok, len⟩, q⟩ := h
    obtain ⟨t1, mE⟩ := T.events
    obtain ⟨t2, mI⟩ := T.items
    refine ⟨_, pss_cons (ps_if (PW.pt (pw_or (pt_not (pt_val (pe_call G1 (hr.mono (by decide)) (by rfl) m1 k1 b1 .nil pass0 (pa_cons (pv 0) pa_nil))))
        (pw_or1 (pt_cmpR op_gt (pe_callB call_len_seq (by rfl) T.len PySem.boot_len (pa_cons (pv 0) pa_nil)) (pe_glob (v := .int 60) (by rfl) mE ⟨t1, rfl⟩) (nomark _))))) pss_never pss_nil)
      (pss_cons (ps_if (pt_cmpR op_gt (pe_callB call_len_seq (by rfl) T.len PySem.boot_len (pa_cons (pe_lc (own := [("event", 2)]) (g := gName 2) rfl scCheck.nd (pi_seq (pv 0)) (blkOk_by (N := ["day", "index", "event"]) (sc := defScope sCheckDay) (by decide +kernel))
          (fun _ _ _ _ _ => pg_name (i := 2) scCheck.nd rfl (Or.inl rfl)) (fun _ _ _ _ _ => pts_one (pt_val (pe_call G2 hr (by rfl) m2 k2 b2 .nil pass0 (pa_cons (pv 2) pa_nil)))) (fun _ _ _ _ _ => pv 2)) pa_nil))
          (pe_glob (v := .int 40) (by rfl) mI ⟨t2, rfl⟩) (nomark _)) pss_never pss_nil)
      (pss_one (ps_for PassesOwn.never rfl (pi_enumS (by rfl) T.enumerate (pv 0)) (pg_tup rfl (pgs_cons (pg_name (i := 1) scCheck.nd rfl (Or.inl rfl)) (pgs_cons (pg_name (i := 2) scCheck.nd rfl (Or.inl rfl)) pgs_nil)))
        (pss_one (ps_if (pt_not (pt_val (pe_call G3 (hr.mono (by decide)) (by rfl) m3 k3 b3 .nil pass0 (pa_cons (pv 2) pa_nil)))) pss_never pss_nil))))), ?_⟩
    obtain ⟨es, ha, pr⟩ := id day
    have le : es.length ≤ 12 := by rw [pr.length]; exact len
    refine ⟨_, rfl, b, a, es, rfl, ha, fun H1 s1 => ⟨true, rfl, iteF ?_⟩⟩
    have q1 : SqB b K H1 a es := SqB.of (s1 _ _ ha)
    refine ⟨_, rfl, a, es, rfl, q1.or, _, _, rfl, rfl, _, rfl, ifNo (by omega) ?_⟩
    -- the puts
    refine ⟨b, a, es, rfl, q1, fun J wk D nD => ?_⟩
    refine lc_it wk (fun i H' => Same H1 H' ∧ ∃ acc, H' D = some (.lst acc) ∧ acc.length ≤ i) ⟨same_new nD, [], upd_same, Nat.le_refl _⟩ (fun i H' _ p => SqB.of (p.1 _ _ (s1 _ _ ha))) ?_ ?_
    · rintro i x H' H2 hi ⟨sm, acc, hD, hl⟩ ⟨rfl, hx⟩
      obtain ⟨e, he, ev⟩ := paired_get pr i x hx
      have eo := ok e (List.mem_of_getElem? he)
      refine ⟨rfl, _, rfl, x, e, rfl, ev.mono (s1.trans sm), eo, e.isPut, rfl, ?_⟩
      cases e.isPut with
      | true =>
        refine iteT ⟨_, rfl, acc, hD, small1000 (by omega), ⟨Same.into sm nD, acc ++ [x], upd_same, ?_⟩⟩
        rw [List.length_append, List.length_singleton]
        omega
      | false => exact iteF ⟨sm, acc, hD, by omega⟩
    · rintro H2 ⟨sm, acc, hD, hl⟩
      refine ⟨D, acc, rfl, .inl (.inl (.inl hD)), _, _, rfl, rfl, _, rfl, ifNo (by omega) ?_⟩
      -- every event
      have s2 := s1.trans sm
      refine ⟨b, a, es, rfl, SqB.of (s2 _ _ ha), fun J wk => ?_⟩
      refine for_it wk (fun i σ' H' => Same H H' ∧ ∃ y1 y2, σ' = [some (.ref a), y1, y2]) ⟨s2, _, _, rfl⟩ (fun i σ' H' _ p => SqB.of (p.1 _ _ ha)) ?_ ?_
      · rintro i x σ' H3 H4 hi ⟨s3, y1, y2, rfl⟩ ⟨Tp, z1, z2, rfl, nT, rfl, e1, e2⟩
        obtain ⟨e, he, ev⟩ := paired_get pr i z2 e2
        have s4 := s3.trans (same_new (o := .tup [z1, z2]) nT)
        refine ⟨Tp, [z1, z2], rfl, .inl (.inl upd_same), rfl, z1, [z2], rfl, z2, [], rfl, rfl, ?_⟩
        exact ⟨_, rfl, z2, e, rfl, ev.mono s4, ok e (List.mem_of_getElem? he), true, rfl, iteF ⟨s4, _, _, rfl⟩⟩
      · rintro σ' H3 ⟨s3, _⟩
        exact q H3 s3
end
end Pb

set_option Elab.async false
set_option linter.all false
set_option maxRecDepth 100000
namespace Pb
open PySem PySem.Spec PyProof.Rows L2
def PlanAt (H : Hp) (v : V) (rows : List (List Nat)) : Prop := ∃ p vs, v = .ref p ∧ H p = some (.tup vs) ∧ Paired (RowAt H) vs rows
theorem rowV_get {r : List Nat} {i : Nat} {x : V} (h : (rowV r)[i]? = some x) : ∃ n, r[i]? = some n ∧ x = .int (n : Int) := by
  unfold rowV at h
  rw [List.getElem?_map] at h
  cases e : r[i]? with
  | none => rw [e] at h; cases h
  | some n => rw [e] at h; exact ⟨n, rfl, (Option.some.inj h).symm⟩
theorem rowV_len (r : List Nat) : (rowV r).length = r.length := List.length_map _
theorem take_snoc {α β : Type} {l : List α} {i : Nat} {x : α} (f : α → β) (h : l[i]? = some x) : (l.take i).map f ++ [f x] = (l.take (i + 1)).map f := by
  rw [List.take_add_one, h, List.map_append]
  rfl
section
variable {P : Program} {w : World} {K : PySem.W.Frag} {mg : Str → Option Value} {base : Heap}

/-! ### ending_of, many_chains -/
theorem scEnding : FnScope ["plan", "found", "seen", "item"] ["plan"] (defScope sEnding) := ⟨rfl, rfl, rfl, by decide +kernel, rfl, by decide +kernel, by decide +kernel⟩
/-- rows of what was there, at most forty -/
def RowsOk (rows : List (List Nat)) : Prop := rows.length ≤ 40 ∧ ∀ (i : Nat) (r : List Nat), rows[i]? = some r → r.length ≤ 40 ∧ ∀ x ∈ r, x < i
def spEnding : Sp := fun vs H Q _ => ∃ (v : V) (rows : List (List Nat)), vs = [v] ∧ PlanAt H v rows ∧ RowsOk rows ∧ ∀ H' o, Same H H' → H' o = some (.lst ((endsOf rows).map V.int)) → Q (.ref o) H'
theorem ok_ending {f : Addr} {fd : FuncData} {k : Nat} (F : Fun K "ending_of" "ending_of" sEnding f fd) (T : Txt mg) : FnOk P w K mg base CX0 (k + 1) f fd ["plan"] spEnding := by
  refine F.ok scEnding (fun vs H Q E h => ?_) (fun cdv A outer s H vs Q E hr h => ?_)
  · obtain ⟨v, rows, rfl, _⟩ := h
    rfl
  · obtain ⟨v, rows, rfl, ⟨p, es, rfl, hp, pr⟩, ⟨len, low⟩, q⟩ := h
    refine ⟨_, pss_cons (ps_set (i := 1) scEnding.nd rfl (.inr rfl) (pe_lst pa_nil))
      (pss_cons (ps_for PassesOwn.never rfl (pi_seq (pv 0)) (pg_name (i := 2) scEnding.nd rfl (Or.inl rfl))
        (pss_one (ps_expr (pe_bm PySem.F.plainAttrs_list PySem.F.slot_list_append PySem.F.type_list_append mt_append (pv 1) (pa_cons (pe_op op_add pe_int
          (pe_callB (cr_sum rfl) (by rfl) T.sum PyProof.Rows.boot_sum (pa_cons (pe_lc (own := [("item", 3)]) (g := gName 3) (tt := tYes) rfl scEnding.nd (pi_seq (pv 2)) (blkOk_by (N := ["plan", "found", "seen", "item"]) (sc := defScope sEnding) (by decide +kernel))
            (fun _ _ _ _ _ => pg_name (i := 3) scEnding.nd rfl (Or.inl rfl)) (fun _ _ _ _ _ => pts_nil) (fun _ _ _ _ _ => pe_ix (r := rIxL K) ix_list (pv 1) (pv 3) (fun _ _ => rfl))) pa_nil))) pa_nil)))))
      (pss_one (ps_ret (pv 1)))), ?_⟩
    refine ⟨Nat.zero_le _, fun o no => ?_⟩
    have s0 : Same H (upd H o (.lst [])) := same_new no
    have le : es.length = rows.length := pr.length
    refine ⟨false, p, es, rfl, SqB.of (s0 _ _ hp), fun J wk => ?_⟩
    refine for_it wk (fun i σ' H' => Same H H' ∧ H' o = some (.lst ((endsOf (rows.take i)).map V.int)) ∧ ∃ y2 y3, σ' = [some (.ref p), some (.ref o), y2, y3]) ⟨s0, upd_same, _, _, rfl⟩ (fun i σ' H' _ c => SqB.of (c.1 _ _ hp)) ?_ ?_
    · rintro i x σ' H2 H3 hi ⟨sm, ho, y2, y3, rfl⟩ ⟨rfl, hx⟩
      obtain ⟨r, hr', a, rfl, ha⟩ := paired_get pr i x hx
      obtain ⟨rl, rlow⟩ := low i r hr'
      have elen : (endsOf (rows.take i)).length = i := by rw [endsOf_len, List.length_take]; omega
      refine ⟨_, rfl, .inl ⟨rfl, _, .inl (.inl ho)⟩, ?_⟩
      refine ⟨false, a, rowV r, rfl, SqB.of (sm _ _ ha), fun J2 wk2 D nD => ?_⟩
      refine lc_it wk2 (fun j H' => Same H3 H' ∧ H' D = some (.lst (((r.take j).map fun z => (endsOf (rows.take i)).getD z 0).map V.int))) ⟨same_new nD, upd_same⟩ (fun j H' _ c => SqB.of (c.1 _ _ (sm _ _ ha))) ?_ ?_
      · rintro j x H4 H5 hj ⟨s4, hD⟩ ⟨rfl, hx2⟩
        obtain ⟨n, hn, rfl⟩ := rowV_get hx2
        have nlt := rlow n (List.mem_of_getElem? hn)
        have ge : (endsOf (rows.take i))[n]? = some ((endsOf (rows.take i)).getD n 0) := by
          rw [List.getD_eq_getElem?_getD, List.getElem?_eq_getElem (by omega)]
          rfl
        refine ⟨rfl, ?_⟩
        refine ⟨_, rfl, _, rfl, o, _, _, .int ((endsOf (rows.take i)).getD n 0), rfl, rfl, .inl (.inl (s4 _ _ ho)), atI_nat (j := n) (by rw [List.getElem?_map, ge]; rfl), ?_⟩
        refine ⟨_, hD, ?_, Same.into s4 nD, ?_⟩
        · rw [List.length_map, List.length_map, List.length_take]
          exact small1000 (by omega)
        · rw [upd_same, ← take_snoc (fun z => (endsOf (rows.take i)).getD z 0) hn, List.map_append]
          rfl
      · rintro H4 ⟨s4, hD⟩
        rw [rowV_len, List.take_length] at hD
        refine ⟨D, _, rfl, .inl (.inl hD), 1, _, rfl, rfl, o, _, _, rfl, rfl, s4 _ _ ho, ?_, ?_⟩
        · rw [List.length_map, elen]
          exact small1000 (by omega)
        · refine ⟨Same.into (Same.trans sm s4) no, ?_, _, _, rfl⟩
          rw [upd_same, List.take_add_one, hr', Option.toList_some, endsOf_snoc, List.map_append]
          rfl
    · rintro σ' H2 ⟨sm, ho, y2, y3, rfl⟩
      rw [le, List.take_length] at ho
      exact ⟨_, rfl, q H2 o sm ho⟩
theorem scMany : FnScope ["plan"] ["plan"] (defScope sMany) := ⟨rfl, rfl, rfl, by decide +kernel, rfl, by decide +kernel, by decide +kernel⟩
def spMany : Sp := fun vs H Q _ => ∃ (v : V) (rows : List (List Nat)), vs = [v] ∧ PlanAt H v rows ∧ RowsOk rows ∧ ∀ H', Same H H' → Q (.int (endsOf rows).sum) H'
theorem ok_many {f g : Addr} {fd gd : FuncData} (F : Fun K "many_chains" "many_chains" sMany f fd) (G : FnOk P w K mg base CX0 1 g gd ["plan"] spEnding) (kG : PySem.W.keepIn K (.ref g) = true) (bG : Binds K gd ["plan"] [])
    (mG : mg "ending_of" = some (.ref g)) (T : Txt mg) : FnOk P w K mg base CX0 2 f fd ["plan"] spMany := by
  refine F.ok scMany (fun vs H Q E h => ?_) (fun cdv A outer s H vs Q E hr h => ?_)
  · obtain ⟨v, rows, rfl, _⟩ := h
    rfl
  · obtain ⟨v, rows, rfl, pl, ok, q⟩ := h
    refine ⟨_, pss_one (ps_ret (pe_callB (cr_sum rfl) (by rfl) T.sum PyProof.Rows.boot_sum (pa_cons (pe_call G hr (by rfl) mG kG bG .nil pass0 (pa_cons (pv 0) pa_nil)) pa_nil))), ?_⟩
    exact ⟨_, rfl, v, rows, rfl, pl, ok, fun H' o sm ho => ⟨o, _, rfl, .inl (.inl ho), q H' sm⟩⟩
end
end Pb

set_option Elab.async false
set_option linter.all false
set_option maxRecDepth 100000
namespace Pb
open PySem PySem.Spec PyProof.Rows L2

/-! ### helpers -/
theorem it_gen {J : It} {n : Nat} {G : Hp → Prop} {Y : Nat → Hp → V → Hp → Prop} (w : Walk J n G Y) {Body : V → Hp → (Hp → Prop) → Prop} {Qd : Hp → Prop} {H0 : Hp} (Pv : Nat → Hp → Prop) (h0 : Pv 0 H0) (hG : ∀ i H, i ≤ n → Pv i H → G H)
    (hs : ∀ i x H H', i < n → Pv i H → Y i H x H' → Body x H' (Pv (i + 1))) (hd : ∀ H, Pv n H → Qd H) :
    ∃ W : Nat → Nat → Hp → Prop, (∃ m, W 0 m H0) ∧ ∀ i m H, W i m H → (J.stop i H ∧ Qd H) ∨ (J.go i H ∧ ∃ Nx : Hp → Prop, (∀ H', Nx H' → ∃ m', m' < m ∧ W (i + 1) m' H') ∧ ∀ x H', J.yld i H x H' → Body x H' Nx) := by
  refine ⟨fun i m H => m = n - i ∧ i ≤ n ∧ Pv i H, ⟨n, rfl, Nat.zero_le _, h0⟩, fun i m H ⟨em, hi, p⟩ => ?_⟩
  have g := hG i H hi p
  rcases Nat.lt_or_ge i n with lt | ge
  · exact .inr ⟨w.goes i H lt g, Pv (i + 1), fun H' p' => ⟨n - (i + 1), by omega, rfl, lt, p'⟩, fun x H' y => hs i x H H' lt p (w.yields i H x H' lt g y)⟩
  · have e : i = n := by omega
    subst e
    exact .inl ⟨w.stops H g, hd H p⟩
def rLen (K : PySem.W.Frag) : List V → Hp → VK → Prop := fun xs H Q => ∃ p ys, xs = [.ref p] ∧ (SqL K H p ys ∨ SqT K H p ys) ∧ Q (.int ys.length) H
theorem cr_len {X : Cx} {K : PySem.W.Frag} (e : X.K = K) : CallR X (.builtin "len") (rLen K) := by
  subst e
  exact call_len_seq
theorem pi_seqK {X : Cx} {K : PySem.W.Frag} {tg : Expr} {i : Nat} {x : Str} {p : Pos} (e : X.K = K) (hv : PE X (.Name x p) (tVar i)) : PI X tg (.Name x p) (iSeq K i) := by
  subst e
  exact pi_seq hv
theorem catA_row {K : PySem.W.Frag} {H : Hp} {u v : V} {r s : List Nat} {Q : VK} (h1 : RowAt H u r) (h2 : RowAt H v s) (len : r.length + s.length ≤ 1000) (q : ∀ x H', Same H H' → RowAt H' x (r ++ s) → Q x H') : rCatA K u v H Q := by
  obtain ⟨a, rfl, ha⟩ := h1
  obtain ⟨b, rfl, hb⟩ := h2
  refine ⟨a, b, rowV r, rowV s, rfl, rfl, .inl (.inl ha), .inl (.inl hb), (by rw [rowV_len, rowV_len]; exact small64 len), fun e => ?_, fun _ e => ?_, fun _ _ p np => ?_⟩
  · have e' : r = [] := List.map_eq_nil_iff.mp e
    subst e'
    exact q _ _ (Same.refl H) ⟨b, rfl, hb⟩
  · have e' : s = [] := List.map_eq_nil_iff.mp e
    subst e'
    exact q _ _ (Same.refl H) ⟨a, rfl, by rw [List.append_nil]; exact ha⟩
  · refine q _ _ (same_new np) ⟨p, rfl, ?_⟩
    rw [upd_same]
    unfold rowV
    rw [List.map_append]
theorem inV_row (i : Nat) : ∀ r : List Nat, inV (.int (i : Int)) (rowV r) = r.contains i
  | [] => rfl
  | n :: r => by
    have ih := inV_row i r
    unfold inV rowV at *
    rw [List.map_cons, List.any_cons, ih, List.contains_cons]
    congr 1
    show ((n : Int) == (i : Int)) = (i == n)
    by_cases h : i = n
    · subst h
      rw [beq_self_eq_true, beq_self_eq_true]
    · rw [beq_eq_false_iff_ne.mpr h, beq_eq_false_iff_ne.mpr (by omega)]
theorem flat_row : ∀ r : List Nat, (rowV r).all flatV = true
  | [] => rfl
  | n :: r => by
    have ih := flat_row r
    unfold rowV at *
    rw [List.map_cons, List.all_cons, ih]
    rfl
theorem flatMap_take {α β : Type} {l : List α} {i : Nat} {x : α} (f : α → List β) (h : l[i]? = some x) : (l.take i).flatMap f ++ f x = (l.take (i + 1)).flatMap f := by
  rw [List.take_add_one, h, List.flatMap_append]
  simp
theorem filter_take {α : Type} {l : List α} {i : Nat} {x : α} (f : α → Bool) (h : l[i]? = some x) : (l.take (i + 1)).filter f = (l.take i).filter f ++ (if f x = true then [x] else []) := by
  rw [List.take_add_one, h, List.filter_append]
  congr 1
  show List.filter f [x] = _
  by_cases hf : f x = true
  · rw [if_pos hf, List.filter_cons_of_pos hf]
    rfl
  · rw [if_neg hf, List.filter_cons_of_neg hf]
    rfl
section
variable {P : Program} {w : World} {K : PySem.W.Frag} {mg : Str → Option Value} {base : Heap}

/-! ### choices -/
theorem scChoices : FnScope ["items", "size", "found", "turn", "row", "item"] ["items", "size"] (defScope sChoices) := ⟨rfl, rfl, rfl, by decide +kernel, rfl, by decide +kernel, by decide +kernel⟩
def spChoices : Sp := fun vs H Q _ => ∃ (a : Addr) (items : List Nat) (n : Nat), vs = [.ref a, .int (n : Int)] ∧ H a = some (.lst (rowV items)) ∧ items.length ≤ 6 ∧ n ≤ 6 ∧
  ∀ H' o es, Same H H' → H' o = some (.lst es) → Paired (RowAt H') es (choicesOf items n) → Q (.ref o) H'
theorem choices_few {items : List Nat} {n : Nat} (h : items.length ≤ 6) (hn : n ≤ 6) : (choicesOf items n).length ≤ 46656 := by
  refine Nat.le_trans (choices_len items n) (Nat.le_trans (Nat.pow_le_pow_left h n) ?_)
  exact Nat.le_trans (Nat.pow_le_pow_right (by decide) hn) (by decide)
theorem paired_mono_row {H H' : Hp} {es : List V} {rows : List (List Nat)} (s : Same H H') (p : Paired (RowAt H) es rows) : Paired (RowAt H') es rows := Paired.mono (fun _ _ z => RowAt.mono s z) p
theorem ok_choices {f : Addr} {fd : FuncData} {k : Nat} (F : Fun K "choices" "choices" sChoices f fd) (T : Txt mg) : FnOk P w K mg base CX0 (k + 1) f fd ["items", "size"] spChoices := by
  refine F.ok scChoices (fun vs H Q E h => ?_) (fun cdv A outer s H vs Q E hr h => ?_)
  · obtain ⟨a, items, n, rfl, _⟩ := h
    rfl
  · obtain ⟨a, items, n, rfl, ha, few, hn, q⟩ := h
    refine ⟨_, pss_cons (ps_set (i := 2) scChoices.nd rfl (.inl rfl) (pe_lst (pa_cons (pe_tup pa_nil) pa_nil)))
      (pss_cons (ps_for PassesOwn.never rfl (pi_range1 (by rfl) T.range (pa_cons (pv 1) pa_nil)) (pg_name (i := 3) scChoices.nd rfl (Or.inl rfl))
        (pss_one (ps_setLc2 (i := 2) (own := [("row", 4), ("item", 5)]) (vs1 := [5]) (g := gName 4) (g1 := gName 5) (tt := tYes) (wi1 := iSeq K 0) rfl scChoices.nd rfl rfl (sw_true rfl rfl rfl (by decide +kernel)) (pi_seq (pv 2))
          (blkOk_by (N := ["items", "size", "found", "turn", "row", "item"]) (sc := defScope sChoices) (by decide +kernel)) (by decide)
          (fun _ _ _ _ _ => pg_name (i := 4) scChoices.nd rfl (Or.inl rfl)) (fun _ _ _ _ _ => pts_nil)
          (fun _ _ _ _ _ => pi_seqK rfl (pv 0)) (fun _ _ _ _ _ => pg_name (i := 5) scChoices.nd rfl (Or.inl rfl))
          (fun _ _ _ _ _ => pts_one (PW.pt (pw_or (pt_cmpR op_eq (pe_callB (cr_len (K := K) rfl) (by rfl) T.len PySem.boot_len (pa_cons (pv 4) pa_nil)) pe_int (nomark _))
            (pw_or1 (pt_cmpR op_gt (pv 5) (pe_ix (r := rIxT K) ix_tup (pv 4) (pe_un un_neg pe_int) (fun _ _ => rfl)) (nomark _))))))
          (fun _ _ _ _ _ => pe_op (r := rCatA K) op_catA (pv 4) (pe_tup (pa_cons (pv 5) pa_nil))))))
      (pss_one (ps_ret (pv 2)))), ?_⟩
    -- found = [()]
    refine ⟨Nat.zero_le _, fun e ne => ⟨(by show 1 ≤ sizeLine; decide), fun o no => ?_⟩⟩
    have s0 : Same H (upd (upd H e (.tup [])) o (.lst [.ref e])) := (same_new ne).trans (same_new no)
    refine ⟨_, rfl, (n : Int), rfl, by omega, by omega, ?_⟩
    have rng := walk_range (lo := 0) (n := ((n : Int)).toNat)
    refine for_it rng (fun i σ' H' => Same H H' ∧ ∃ o' es y3 y4 y5, σ' = [some (.ref a), some (.int (n : Int)), some (.ref o'), y3, y4, y5] ∧ H' o' = some (.lst es) ∧ Paired (RowAt H') es (choicesOf items i))
      ⟨s0, o, _, _, _, _, rfl, upd_same, .cons ⟨e, rfl, by rw [upd_ne (ne_of_none upd_same no)]; exact upd_same⟩ .nil⟩ (fun _ _ _ _ _ => trivial) ?_ ?_
    · rintro i x σ' H1 H2 hi ⟨s1, o', es, y3, y4, y5, rfl, ho, pr⟩ ⟨rfl, rfl⟩
      have hin : i < n := by simpa using hi
      have cnt := choices_few (n := i) few (by omega)
      have le : es.length = (choicesOf items i).length := pr.length
      refine ⟨true, o', es, rfl, SqB.of ho, fun J wk D nD => ?_⟩
      refine it_gen wk (fun j H' => Same H2 H' ∧ ∃ acc, H' D = some (.lst acc) ∧ Paired (RowAt H') acc (((choicesOf items i).take j).flatMap (nextRows items))) ⟨same_new nD, [], upd_same, .nil⟩ (fun j H' _ c => SqB.of (c.1 _ _ ho)) ?_ ?_
      · rintro j x H3 H4 hj ⟨s3, acc, hD, pa⟩ ⟨rfl, hx⟩
        obtain ⟨row, hrow, b, rfl, hb⟩ := paired_get pr j x hx
        obtain ⟨rl, rasc, rmem⟩ := mem_choices.mp (List.mem_of_getElem? hrow)
        refine ⟨rfl, ?_⟩
        refine ⟨true, a, rowV items, rfl, SqB.of (s3 _ _ (s1 _ _ ha)), fun J1 wk1 => ?_⟩
        refine it_gen wk1 (fun m H' => Same H2 H' ∧ ∃ acc, H' D = some (.lst acc) ∧ Paired (RowAt H') acc (((choicesOf items i).take j).flatMap (nextRows items) ++ ((items.take m).filter (okNext row)).map fun it => row ++ [it]))
          ⟨s3, acc, hD, by simpa using pa⟩ (fun m H' _ c => SqB.of (c.1 _ _ (s1 _ _ ha))) ?_ ?_
        · rintro m x H5 H6 hm ⟨s5, acc5, hD5, pa5⟩ ⟨rfl, hx5⟩
          obtain ⟨it, hit, rfl⟩ := rowV_get hx5
          have few5 : acc5.length ≤ 279942 := by
            rw [pa5.length, List.length_append, List.length_map]
            have f1 := stepC_len items ((choicesOf items i).take j)
            have f2 := List.length_filter_le (okNext row) (items.take m)
            rw [List.length_take] at f1 f2
            unfold stepC at f1
            have f3 : min j (choicesOf items i).length * items.length ≤ 46656 * 6 := Nat.mul_le_mul (by omega) few
            omega
          have hb5 : H6 b = some (.tup (rowV row)) := s5 _ _ hb
          refine ⟨rfl, ?_⟩
          -- the element, where it is taken
          have elem : okNext row it = true → ∀ p, H6 p = none → rCatA K (.ref b) (.ref p) (upd H6 p (.tup [.int (it : Int)])) fun y H7 => ∃ acc, H7 D = some (.lst acc) ∧ acc.length < sizeLine ∧
              (Same H2 (upd H7 D (.lst (acc ++ [y]))) ∧ ∃ acc', (upd H7 D (.lst (acc ++ [y]))) D = some (.lst acc') ∧ Paired (RowAt (upd H7 D (.lst (acc ++ [y])))) acc' (((choicesOf items i).take j).flatMap (nextRows items) ++ ((items.take (m + 1)).filter (okNext row)).map fun it => row ++ [it])) := by
            intro ok p np
            have s6 := same_new (o := .tup [.int (it : Int)]) np
            refine catA_row (r := row) (s := [it]) ⟨b, rfl, s6 _ _ hb5⟩ ⟨p, rfl, upd_same⟩ (by rw [rl, List.length_singleton]; omega) fun y H7 s7 hy => ?_
            have s67 := s6.trans s7
            refine ⟨acc5, s67 _ _ hD5, (by show _ < 2 ^ 24; omega), Same.into (s5.trans s67) nD, acc5 ++ [y], upd_same, ?_⟩
            have keep : ∀ v r, RowAt H7 v r → RowAt (upd H7 D (.lst (acc5 ++ [y]))) v r := fun v r ⟨c, e1, e2⟩ => ⟨c, e1, by rw [upd_ne (fun z => by subst z; rw [s67 _ _ hD5] at e2; cases e2)]; exact e2⟩
            rw [filter_take _ hit, if_pos ok, List.map_append, ← List.append_assoc]
            exact Paired.snoc (Paired.mono (fun v r z => keep v r (RowAt.mono s67 z)) pa5) (keep _ _ hy)
          have skip : okNext row it = false → (Same H2 H6 ∧ ∃ acc', H6 D = some (.lst acc') ∧ Paired (RowAt H6) acc' (((choicesOf items i).take j).flatMap (nextRows items) ++ ((items.take (m + 1)).filter (okNext row)).map fun it => row ++ [it])) := by
            intro no
            refine ⟨s5, acc5, hD5, ?_⟩
            rw [filter_take _ hit, if_neg (by rw [no]; exact Bool.false_ne_true), List.append_nil]
            exact pa5
          have sqb : SqT K H6 b (rowV row) := .inl (.inl hb5)
          refine ⟨_, rfl, b, rowV row, rfl, .inr sqb, rfl, _, rfl, ?_⟩
          rcases List.eq_nil_or_concat row with e0 | ⟨init, z, e0⟩
          · subst e0
            refine ifYes rfl (iteT ?_)
            exact ⟨_, rfl, _, rfl, (by show 1 ≤ sizeLine; decide), fun p np => elem rfl p np⟩
          · rw [List.concat_eq_append] at e0
            subst e0
            refine ifNo (fun zz => ?_) ?_
            · injection zz with zz
              rw [rowV_len, List.length_append, List.length_singleton] at zz
              omega
            · have last : atI (rowV (init ++ [z])) (-1) = some (.int (z : Int)) := by
                unfold rowV
                rw [List.map_append]
                exact atI_last _ _
              have okz : okNext (init ++ [z]) it = decide (z < it) := by
                unfold okNext
                rw [List.getLast?_append]
                simp
              refine ⟨_, rfl, _, rfl, 1, rfl, b, _, -1, .int (z : Int), rfl, rfl, sqb, last, (it : Int), (z : Int), rfl, rfl, _, rfl, ?_⟩
              by_cases lt : z < it
              · have lt' : (z : Int) < (it : Int) := by omega
                refine ifYes lt' ?_
                exact ⟨_, rfl, _, rfl, (by show 1 ≤ sizeLine; decide), fun p np => elem (by rw [okz]; exact decide_eq_true lt) p np⟩
              · exact ifNo (by omega) (skip (by rw [okz]; exact decide_eq_false lt))
        · rintro H5 ⟨s5, acc5, hD5, pa5⟩
          refine ⟨s5, acc5, hD5, ?_⟩
          rw [rowV_len, List.take_length] at pa5
          rw [← flatMap_take (nextRows items) hrow]
          exact pa5
      · rintro H3 ⟨s3, acc, hD, pa⟩
        rw [le, List.take_length] at pa
        exact ⟨s1.trans s3, D, acc, _, _, _, rfl, hD, pa⟩
    · rintro σ' H1 ⟨s1, o', es, y3, y4, y5, rfl, ho, pr⟩
      have en : ((n : Int)).toNat = n := by omega
      rw [en] at pr
      exact ⟨_, rfl, q H1 o' es s1 ho pr⟩
end
end Pb

set_option Elab.async false
set_option linter.all false
set_option maxRecDepth 100000
namespace Pb
open PySem PySem.Spec PyProof.Rows L2
theorem keep_off {H : Hp} {D : Addr} {l l' : List V} {v : V} {e : Ev} (h : H D = some (.lst l)) (ev : EvAt H v e) : EvAt (upd H D (.lst l')) v e :=
  let ⟨c, e1, e2⟩ := ev
  ⟨c, e1, by rw [upd_ne (fun z => by subst z; rw [h] at e2; cases e2)]; exact e2⟩
theorem keep_row {H : Hp} {D : Addr} {l l' : List V} {v : V} {r : List Nat} (h : H D = some (.lst l)) (ev : RowAt H v r) : RowAt (upd H D (.lst l')) v r :=
  let ⟨c, e1, e2⟩ := ev
  ⟨c, e1, by rw [upd_ne (fun z => by subst z; rw [h] at e2; cases e2)]; exact e2⟩
section
variable {P : Program} {w : World} {K : PySem.W.Frag} {mg : Str → Option Value} {base : Heap}
/-! ### without -/
theorem scWithout : FnScope ["events", "left", "index", "event"] ["events", "left"] (defScope sWithout) := ⟨rfl, rfl, rfl, by decide +kernel, rfl, by decide +kernel, by decide +kernel⟩
def spWithout : Sp := fun vs H Q _ => ∃ (b : Bool) (a : Addr) (evs : List Ev) (v : V) (left : List Nat), vs = [.ref a, v] ∧ DayAt b H a evs ∧ evs.length ≤ 12 ∧ RowAt H v left ∧
  ∀ H' o, Same H H' → DayAt true H' o (withoutE evs left) → Q (.ref o) H'
theorem ok_without {f : Addr} {fd : FuncData} {k : Nat} (F : Fun K "without" "without" sWithout f fd) (T : Txt mg) : FnOk P w K mg base CX0 (k + 1) f fd ["events", "left"] spWithout := by
  refine F.ok scWithout (fun vs H Q E h => ?_) (fun cdv A outer s H vs Q E hr h => ?_)
  · obtain ⟨b, a, evs, v, left, rfl, _⟩ := h
    rfl
  · obtain ⟨b, a, evs, v, left, rfl, ⟨es, ha, pr⟩, few, ⟨c, rfl, hc⟩, q⟩ := h
    refine ⟨_, pss_one (ps_ret (pe_lc (own := [("index", 2), ("event", 3)]) (g := gTup K 2 (gCons (gName 2) (gCons (gName 3) gNil))) rfl scWithout.nd (pi_enumS (by rfl) T.enumerate (pv 0))
      (blkOk_by (N := ["events", "left", "index", "event"]) (sc := defScope sWithout) (by decide +kernel))
      (fun _ _ _ _ _ => pg_tup rfl (pgs_cons (pg_name (i := 2) scWithout.nd rfl (Or.inl rfl)) (pgs_cons (pg_name (i := 3) scWithout.nd rfl (Or.inl rfl)) pgs_nil)))
      (fun _ _ _ _ _ => pts_one (pt_cmpR (r := rIn K true) op_notIn_seq (pv 2) (pv 1) rfl)) (fun _ _ _ _ _ => pv 3))), ?_⟩
    have le : es.length = evs.length := pr.length
    refine ⟨b, a, es, rfl, SqB.of ha, fun J wk D nD => ?_⟩
    refine lc_it wk (fun i H' => Same H H' ∧ ∃ acc, H' D = some (.lst acc) ∧ acc.length ≤ i ∧ Paired (EvAt H') acc (woTake evs left i)) ⟨same_new nD, [], upd_same, Nat.le_refl _, .nil⟩ (fun i H' _ p => SqB.of (p.1 _ _ ha)) ?_ ?_
    · rintro i x H1 H2 hi ⟨sm, acc, hD, hl, pa⟩ ⟨Tp, z1, z2, rfl, nT, rfl, e1, e2⟩
      cases e1
      obtain ⟨e, he, ev⟩ := paired_get pr i z2 e2
      have sT := same_new (o := .tup [.int (i : Nat), z2]) nT
      have s2 := sm.trans sT
      refine ⟨Tp, _, rfl, .inl (.inl upd_same), rfl, _, _, rfl, _, _, rfl, rfl, rfl, ?_⟩
      refine ⟨_, rfl, _, rfl, c, rowV left, rfl, .inr (.inl (.inl (s2 _ _ hc))), rfl, flat_row left, _, rfl, ?_⟩
      have hD2 := sT _ _ hD
      have pa2 := Paired.mono (fun _ _ z => EvAt.mono sT z) pa
      have gr := woTake_succ evs left i
      rw [inV_row]
      cases hc2 : left.contains i with
      | true =>
        rw [hc2, if_pos rfl, List.append_nil] at gr
        refine iteF ⟨s2, acc, hD2, by omega, ?_⟩
        rw [gr]
        exact pa2
      | false =>
        rw [hc2, if_neg Bool.false_ne_true, he] at gr
        refine iteT ⟨_, rfl, acc, hD2, small1000 (by omega), Same.into s2 nD, _, upd_same, by rw [List.length_append, List.length_singleton]; omega, ?_⟩
        rw [gr]
        exact Paired.snoc (Paired.mono (fun _ _ z => keep_off hD2 z) pa2) (keep_off hD2 (ev.mono s2))
    · rintro H1 ⟨sm, acc, hD, hl, pa⟩
      rw [le] at pa
      exact q H1 D sm ⟨acc, hD, pa⟩
end
end Pb

set_option Elab.async false
set_option linter.all false
set_option maxRecDepth 100000
namespace Pb
open PySem PySem.Spec PyProof.Rows L2
/-! ### rising rows of ints -/
def castR (r : List Nat) : List Int := r.map fun n : Nat => (n : Int)
theorem castR_V (r : List Nat) : (castR r).map V.int = rowV r := by
  unfold castR rowV
  rw [List.map_map]
  rfl
theorem int_row {ns : List Int} {l : List Nat} (lt : ns.Pairwise (· < ·)) (mem : ∀ z : Int, z ∈ ns ↔ ∃ n : Nat, n ∈ l ∧ z = (n : Int)) : ns = castR (sortD l) := by
  have nn : ∀ z ∈ ns, 0 ≤ z := fun z hz => by
    obtain ⟨n, _, e⟩ := (mem z).1 hz
    omega
  have e : castR (ns.map Int.toNat) = ns := by
    unfold castR
    rw [List.map_map]
    exact (List.map_congr_left fun z hz => by
      have := nn z hz
      show ((z.toNat : Nat) : Int) = z
      omega).trans (List.map_id ns)
  have e2 : ns.map Int.toNat = sortD l := by
    refine asc_ext ?_ (asc_sortD l) fun z => ?_
    · show (ns.map Int.toNat).Pairwise _
      rw [List.pairwise_map]
      exact lt.imp_of_mem fun {a b} ha hb h => by
        have := nn a ha
        omega
    · rw [mem_sortD, List.mem_map]
      constructor
      · rintro ⟨y, hy, rfl⟩
        obtain ⟨n, hn, e⟩ := (mem y).1 hy
        rw [e]
        exact hn
      · intro hz
        exact ⟨(z : Int), (mem _).2 ⟨z, hz, rfl⟩, rfl⟩
  rw [← e, e2]
theorem perm_row {ns : List Int} {ks l : List Nat} (pm : ns.Perm (castR ks)) (srt : ns.Pairwise (· ≤ ·)) (nd : ks.Nodup) (mem : ∀ z, z ∈ ks ↔ z ∈ l) : ns = castR (sortD l) := by
  have nd2 : ns.Nodup := by
    rw [pm.nodup_iff]
    unfold castR
    show (List.map _ ks).Pairwise _
    rw [List.pairwise_map]
    exact nd.imp fun {a b} h z => h (by omega)
  refine int_row ?_ fun z => ?_
  · exact (srt.and nd2).imp fun {a b} ⟨h1, h2⟩ => by omega
  · rw [pm.mem_iff]
    unfold castR
    rw [List.mem_map]
    constructor
    · rintro ⟨n, hn, rfl⟩
      exact ⟨n, (mem n).1 hn, rfl⟩
    · rintro ⟨n, hn, rfl⟩
      exact ⟨n, (mem n).2 hn, rfl⟩
/-! ### dicts by hands and items -/
def kN (n : Nat) : Key := Sum.inl (n : Int)
theorem kN_inj {a b : Nat} : kN a = kN b ↔ a = b := by
  unfold kN
  constructor
  · intro h
    injection h with h
    omega
  · rintro rfl
    rfl
theorem putK_keys (kvs : List (Key × V)) (k : Key) (v : V) : (k ∈ kvs.map (·.1) → (putK kvs k v).map (·.1) = kvs.map (·.1)) ∧ (k ∉ kvs.map (·.1) → (putK kvs k v).map (·.1) = kvs.map (·.1) ++ [k]) := by
  have iff : (kvs.any fun kv => decide (kv.1 = k)) = true ↔ k ∈ kvs.map (·.1) := by
    rw [List.any_eq_true, List.mem_map]
    constructor
    · rintro ⟨x, hx, e⟩
      exact ⟨x, hx, of_decide_eq_true e⟩
    · rintro ⟨x, hx, e⟩
      exact ⟨x, hx, decide_eq_true e⟩
  unfold putK
  constructor
  · intro h
    rw [if_pos (iff.mpr h), List.map_map]
    refine List.map_congr_left fun kv _ => ?_
    show (if kv.1 = k then (kv.1, v) else kv).1 = kv.1
    split <;> rfl
  · intro h
    rw [if_neg (fun z => h (iff.mp z)), List.map_append]
    rfl
theorem row_off {H : Hp} {p : Addr} {o : HO} {v : V} {r : List Nat} (h : ∀ xs, H p ≠ some (.tup xs)) (ev : RowAt H v r) : RowAt (upd H p o) v r :=
  let ⟨c, e1, e2⟩ := ev
  ⟨c, e1, by rw [upd_ne (fun z => by subst z; exact h _ e2)]; exact e2⟩
def KnownAt (H : Hp) (kvs : List (Key × V)) (known : Nat → List Nat) : Prop := ∀ h : Nat, (∀ v, valV kvs (kN h) = some v → RowAt H v (known h)) ∧ (valV kvs (kN h) = none → known h = [])
theorem KnownAt.imp {H H' : Hp} {kvs : List (Key × V)} {known : Nat → List Nat} (k : KnownAt H kvs known) (f : ∀ v r, RowAt H v r → RowAt H' v r) : KnownAt H' kvs known := fun h => ⟨fun v e => f _ _ ((k h).1 v e), (k h).2⟩
theorem KnownAt.get {H : Hp} {kvs : List (Key × V)} {known : Nat → List Nat} (k : KnownAt H kvs known) (h : Nat) {t : Addr} (ht : H t = some (.tup [])) : RowAt H ((valV kvs (kN h)).getD (.ref t)) (known h) := by
  cases e : valV kvs (kN h) with
  | none => exact ⟨t, rfl, by rw [(k h).2 e]; exact ht⟩
  | some v => exact (k h).1 v e
theorem KnownAt.put {H : Hp} {kvs : List (Key × V)} {known known' : Nat → List Nat} (k : KnownAt H kvs known) {h : Nat} {v : V} {r : List Nat} (hv : RowAt H v r) (e1 : known' h = r) (e2 : ∀ x, x ≠ h → known' x = known x) : KnownAt H (putK kvs (kN h) v) known' := fun x => by
  rw [valV_put]
  by_cases e : x = h
  · subst e
    rw [if_pos rfl, e1]
    exact ⟨fun u z => (Option.some.inj z) ▸ hv, fun z => by cases z⟩
  · rw [if_neg (fun z => e (kN_inj.mp z)), e2 x e]
    exact k x
end Pb

set_option Elab.async false
set_option linter.all false
set_option maxRecDepth 100000
namespace Pb
open PySem PySem.Spec PyProof.Rows L2
section
variable {P : Program} {w : World} {K : PySem.W.Frag} {mg : Str → Option Value} {base : Heap}
/-! ### plan_of_day -/
theorem scPlan : FnScope ["day", "known", "found", "event", "seen", "both", "item"] ["day"] (defScope sPlan) := ⟨rfl, rfl, rfl, by decide +kernel, rfl, by decide +kernel, by decide +kernel⟩
def spPlan : Sp := fun vs H Q _ => ∃ (b : Bool) (a : Addr) (evs : List Ev), vs = [.ref a] ∧ DayAt b H a evs ∧ evs.length ≤ 12 ∧ ∀ H' v, Same H H' → PlanAt H' v (planOf evs) → Q v H'
/-- the loop's word -/
structure PlanInv (H0 : Hp) (a d o : Addr) (s : Pl) (n : Nat) (σ : L2.St) (H : Hp) : Prop where
  same : Same H0 H
  slots : ∃ y3 y4 y5 y6, σ = [some (V.ref a), some (V.ref d), some (V.ref o), y3, y4, y5, y6]
  dict : ∃ kvs, H d = some (.dK kvs) ∧ kvs.length ≤ 2 * n ∧ KnownAt H kvs s.known
  list : ∃ vs, H o = some (.lst vs) ∧ Paired (RowAt H) vs s.rows
theorem ok_plan {f : Addr} {fd : FuncData} {k : Nat} (F : Fun K "plan_of_day" "plan_of_day" sPlan f fd) (T : Txt mg) : FnOk P w K mg base CX0 (k + 1) f fd ["day"] spPlan := by
  refine F.ok scPlan (fun vs H Q E h => ?_) (fun cdv A outer s H vs Q E hr h => ?_)
  · obtain ⟨b, a, evs, rfl, _⟩ := h
    rfl
  · obtain ⟨b, a, evs, rfl, ⟨es, ha, pr⟩, few, q⟩ := h
    have hu := hu_of hr
    have nd := scPlan.nd
    refine ⟨_, pss_cons (ps_set (i := 1) nd rfl (.inl rfl) pe_dnewK)
      (pss_cons (ps_set (i := 2) nd rfl (.inl rfl) (pe_lst pa_nil))
      (pss_cons (ps_for PassesOwn.never rfl (pi_seq (pv 0)) (pg_name (i := 3) nd rfl (Or.inl rfl))
        (pss_one (ps_if (pt_cmpR op_eq (pe_ix ix_tup (pv 3) pe_int (fun _ _ => rfl)) pe_str (nomark _))
          (pss_cons (ps_set (i := 4) nd rfl (.inl rfl) (pe_dget2 hu (pv 1) (pe_ix ix_tup (pv 3) pe_int (fun _ _ => rfl)) (pe_tup pa_nil) ⟨rfl, rfl, rfl, rfl⟩))
          (pss_cons (ps_dput hu (pv 1) (pe_ix ix_tup (pv 3) pe_int (fun _ _ => rfl)) (pe_op op_catA (pv 4) (pe_tup (pa_cons (pe_callB call_len_seq (by rfl) T.len PySem.boot_len (pa_cons (pv 2) pa_nil)) pa_nil))) rfl)
          (pss_one (ps_expr (pe_bm PySem.F.plainAttrs_list PySem.F.slot_list_append PySem.F.type_list_append mt_append (pv 2) (pa_cons (pv 4) pa_nil))))))
          (pss_cons (ps_set (i := 5) nd rfl (.inl rfl) pe_dnewK)
          (pss_cons (ps_for PassesOwn.never rfl (pi_tup (pe_op op_catA (pe_dget2 hu (pv 1) (pe_ix ix_tup (pv 3) pe_int (fun _ _ => rfl)) (pe_tup pa_nil) ⟨rfl, rfl, rfl, rfl⟩) (pe_dget2 hu (pv 1) (pe_ix ix_tup (pv 3) pe_int (fun _ _ => rfl)) (pe_tup pa_nil) ⟨rfl, rfl, rfl, rfl⟩)))
            (pg_name (i := 6) nd rfl (Or.inl rfl)) (pss_one (ps_dput hu (pv 5) (pv 6) pe_bl rfl)))
          (pss_cons (ps_dput hu (pv 1) (pe_ix ix_tup (pv 3) pe_int (fun _ _ => rfl)) (pe_callTy call_tuple_of (by rfl) T.tuple boot_tuple' (pa_cons (pe_callB cr_sortedI (by rfl) T.sorted PyProof.Rows.boot_sorted (pa_cons (pe_callTy (call_list_dK rfl) (by rfl) T.list boot_list' (pa_cons (pv 5) pa_nil)) pa_nil)) pa_nil)) rfl)
          (pss_one (ps_dput hu (pv 1) (pe_ix ix_tup (pv 3) pe_int (fun _ _ => rfl)) (pe_dget hu (pv 1) (pe_ix ix_tup (pv 3) pe_int (fun _ _ => rfl)) (fun _ _ => rfl)) rfl))))))))
      (pss_one (ps_ret (pe_callTy call_tuple_of (by rfl) T.tuple boot_tuple' (pa_cons (pv 2) pa_nil)))))), ?_⟩
    intro d nd0
    refine ⟨Nat.zero_le _, fun o no => ?_⟩
    have s0 : Same H (upd (upd H d (.dK [])) o (.lst [])) := (same_new nd0).trans (same_new no)
    have do' : d ≠ o := ne_of_none upd_same no
    have no0 : H o = none := (same_new (o := .dK []) nd0).free no
    have le : es.length = evs.length := pr.length
    refine ⟨b, a, es, rfl, SqB.of (s0 _ _ ha), fun J wk => ?_⟩
    refine for_it wk (fun i σ' H' => PlanInv H a d o (plRun (evs.take i)) i σ' H')
      ⟨s0, ⟨_, _, _, _, rfl⟩, ⟨[], (by rw [upd_ne do']; exact upd_same), Nat.zero_le _, fun h => ⟨fun v z => (nomatch z), fun _ => rfl⟩⟩, ⟨[], upd_same, .nil⟩⟩ (fun i σ' H' _ c => SqB.of (c.same _ _ ha)) ?_ ?_
    · rintro i x σ' H1 H2 hi ⟨s1, ⟨y3, y4, y5, y6, rfl⟩, ⟨kvs, hd, kl, kn⟩, ⟨vs, ho, pv'⟩⟩ ⟨rfl, hx⟩
      obtain ⟨e, he, ea, rfl, hea⟩ := paired_get pr i x hx
      replace hea := s1 _ _ hea
      have grow : plRun (evs.take (i + 1)) = (plRun (evs.take i)).step e := by
        rw [List.take_add_one, he]
        exact plRun_snoc _ _
      have good := plRun_good (evs.take i)
      have rlen : (plRun (evs.take i)).rows.length ≤ i := by
        have h1 := planOf_len (evs.take i)
        rw [List.length_take] at h1
        unfold planOf at h1
        omega
      generalize plRun (evs.take i) = st at kn pv' grow good rlen
      rw [grow]
      have i12 : i < 12 := by omega
      have sq : ∀ {H'}, Same H2 H' → SqT K H' ea (evV e) := fun sm => .inl (.inl (sm _ _ hea))
      have klen : ∀ h, (st.known h).length ≤ 12 := fun h => Nat.le_trans (asc_len (good.asc h) (good.low h)) (by omega)
      have vlen : vs.length = st.rows.length := pv'.length
      cases e with
      | put h =>
        refine ⟨_, rfl, ea, _, 0, .str "put", rfl, rfl, sq (Same.refl _), atI_nat (j := 0) rfl, str_scal, _, rfl, ifYes rfl ?_⟩
        -- seen
        refine ⟨_, rfl, d, rfl, .inl ⟨kvs, .inl hd⟩, _, rfl, ea, _, 1, _, rfl, rfl, sq (Same.refl _), atI_nat (j := 1) rfl, Nat.zero_le _, fun t nt => ?_⟩
        have sT := same_new (o := .tup []) nt
        have kn3 := kn.imp fun v r => RowAt.mono sT
        refine ⟨_, DGet.k (k := kN h) (sT _ _ hd), ?_⟩
        have hsv := kn3.get h (t := t) upd_same
        generalize (valV kvs (kN h)).getD (.ref t) = sv at hsv
        -- known[event[1]]
        refine ⟨sv, rfl, _, rfl, o, vs, rfl, .inl (.inl (.inl (sT _ _ ho))), (by show 1 ≤ sizeLine; decide), fun t2 nt2 => ?_⟩
        have sT2 := same_new (o := .tup [.int (vs.length : Int)]) nt2
        refine catA_row (r := st.known h) (s := [st.rows.length]) (hsv.mono sT2) ⟨t2, rfl, by rw [upd_same, vlen]; rfl⟩ (by have := klen h; rw [List.length_singleton]; omega) fun y H5 s5 hy => ?_
        have s25 : Same H2 H5 := (sT.trans sT2).trans s5
        have hd5 := s25 _ _ hd
        have ho5 := s25 _ _ ho
        refine ⟨_, rfl, _, rfl, ea, _, 1, _, rfl, rfl, sq s25, atI_nat (j := 1) rfl, d, _, rfl, DPut.k (k := kN h) hd5 (small1000 (by omega)), ?_⟩
        have ho6 : (upd H5 d (.dK (putK kvs (kN h) y))) o = some (.lst vs) := by rw [upd_ne do'.symm]; exact ho5
        refine ⟨_, rfl, .inl ⟨rfl, _, .inl (.inl ho6)⟩, sv, rfl, o, vs, sv, rfl, rfl, ho6, small1000 (by omega), ?_⟩
        have keep : ∀ v r, RowAt H5 v r → RowAt (upd (upd H5 d (.dK (putK kvs (kN h) y))) o (.lst (vs ++ [sv]))) v r := fun v r z =>
          row_off (fun xs zz => by rw [ho6] at zz; cases zz) (row_off (fun xs zz => by rw [hd5] at zz; cases zz) z)
        have kn5 := (kn.imp fun v r => RowAt.mono s25).imp keep
        refine ⟨Same.into (Same.into (s1.trans s25) nd0) no0, ⟨_, _, _, _, rfl⟩, ⟨putK kvs (kN h) y, by rw [upd_ne do']; exact upd_same, ?_, ?_⟩, ⟨vs ++ [sv], upd_same, ?_⟩⟩
        · have := length_putK kvs (kN h) y
          omega
        · exact kn5.put (keep _ _ hy) (if_pos rfl) fun z hz => if_neg hz
        · exact Paired.snoc (Paired.mono (fun v r z => keep v r (RowAt.mono s25 z)) pv') (keep _ _ (hsv.mono (sT2.trans s5)))
      | meet x y =>
        refine ⟨_, rfl, ea, _, 0, .str "meet", rfl, rfl, sq (Same.refl _), atI_nat (j := 0) rfl, str_scal, _, rfl, ifNo str_meet_put ?_⟩
        intro e ne
        have sE := same_new (o := .dK []) ne
        refine ⟨_, rfl, d, rfl, .inl ⟨kvs, .inl (sE _ _ hd)⟩, _, rfl, ea, _, 1, _, rfl, rfl, sq sE, atI_nat (j := 1) rfl, Nat.zero_le _, fun t nt => ?_⟩
        have sT := sE.trans (same_new (o := .tup []) nt)
        have kn4 := kn.imp fun v r => RowAt.mono sT
        refine ⟨_, DGet.k (k := kN x) (sT _ _ hd), ?_⟩
        have hu1 := kn4.get x (t := t) upd_same
        generalize (valV kvs (kN x)).getD (.ref t) = u1 at hu1
        refine ⟨_, rfl, d, rfl, .inl ⟨kvs, .inl (sT _ _ hd)⟩, _, rfl, ea, _, 2, _, rfl, rfl, sq sT, atI_nat (j := 2) rfl, Nat.zero_le _, fun t2 nt2 => ?_⟩
        have sT2 := same_new (o := .tup []) nt2
        have s5 := sT.trans sT2
        have kn5 := kn.imp fun v r => RowAt.mono s5
        refine ⟨_, DGet.k (k := kN y) (s5 _ _ hd), ?_⟩
        have hu2 := kn5.get y (t := t2) upd_same
        generalize (valV kvs (kN y)).getD (.ref t2) = u2 at hu2
        refine catA_row (r := st.known x) (s := st.known y) (hu1.mono sT2) hu2 (by have := klen x; have := klen y; omega) fun cv H6 s6 hcv => ?_
        obtain ⟨ca, rfl, hca⟩ := hcv
        have llen : (st.known x ++ st.known y).length ≤ 24 := by
          have := klen x
          have := klen y
          rw [List.length_append]
          omega
        generalize hL : st.known x ++ st.known y = l at hca llen
        have he6 : H6 e = some (.dK []) := s6 _ _ (by rw [upd_ne (ne_of_none (by rw [upd_ne (ne_of_none upd_same nt)]; exact upd_same) nt2), upd_ne (ne_of_none upd_same nt)]; exact upd_same)
        refine ⟨ca, rfl, ⟨_, .inl (.inl hca)⟩, ?_⟩
        refine for_it (walk_tup (xs := rowV l)) (fun j σ' H' => Same H2 H' ∧ H' ca = some (.tup (rowV l)) ∧ (∃ y6, σ' = [some (V.ref a), some (V.ref d), some (V.ref o), some (V.ref ea), y4, some (V.ref e), y6]) ∧
            ∃ kv ks, H' e = some (.dK kv) ∧ kv.map (·.1) = ks.map kN ∧ ks.Nodup ∧ kv.length ≤ j ∧ ∀ z, z ∈ ks ↔ z ∈ l.take j)
          ⟨s5.trans s6, hca, ⟨_, rfl⟩, [], [], he6, rfl, List.nodup_nil, Nat.le_refl _, fun z => by simp⟩ (fun j σ' H' _ c => .inl (.inl c.2.1)) ?_ ?_
        · rintro j x0 σ' H7 H8 hj ⟨s7, hca7, ⟨y6', rfl⟩, kv, ks, he7, kk, kd, kvl, km⟩ ⟨rfl, hx7⟩
          obtain ⟨z, hz, rfl⟩ := rowV_get hx7
          rw [rowV_len] at hj
          refine ⟨_, rfl, _, rfl, e, _, rfl, DPut.k (k := kN z) he7 (small1000 (by omega)), ?_⟩
          obtain ⟨p1, p2⟩ := putK_keys kv (kN z) (.bl true)
          have lenp := length_putK kv (kN z) (.bl true)
          have mz : (kN z ∈ kv.map (·.1)) ↔ z ∈ ks := by
            rw [kk, List.mem_map]
            exact ⟨fun ⟨n, h1, h2⟩ => kN_inj.mp h2 ▸ h1, fun h => ⟨z, h, rfl⟩⟩
          have grow2 : ∀ q, q ∈ l.take (j + 1) ↔ q ∈ l.take j ∨ q = z := fun q => by
            rw [List.take_add_one, hz, List.mem_append]
            simp
          refine ⟨Same.into s7 ne, by rw [upd_ne (fun q => by subst q; rw [he7] at hca7; cases hca7)]; exact hca7, ⟨_, rfl⟩, ?_⟩
          by_cases mem : z ∈ ks
          · refine ⟨_, ks, upd_same, (p1 (mz.mpr mem)).trans kk, kd, by omega, fun q => ?_⟩
            rw [grow2, km]
            exact ⟨.inl, fun h => h.elim id fun h => h ▸ (km z).mp mem⟩
          · refine ⟨_, ks ++ [z], upd_same, ?_, ?_, by omega, fun q => ?_⟩
            · rw [p2 (fun h => mem (mz.mp h)), kk, List.map_append]
              rfl
            · exact List.nodup_append.mpr ⟨kd, List.pairwise_singleton _ _, fun p hp q hq => by rw [List.mem_singleton.mp hq]; exact fun zz => mem (zz ▸ hp)⟩
            · rw [grow2, List.mem_append, km, List.mem_singleton]
        · rintro σ' H7 ⟨s7, _, ⟨y6', rfl⟩, kv, ks, he7, kk, kd, kvl, km⟩
          rw [rowV_len] at kvl
          refine ⟨_, rfl, e, kv, rfl, he7, fun l1 nl1 => ?_⟩
          have keys : (kv.map fun kv => kV kv.1) = (castR ks).map V.int := by
            have e1 : (kv.map fun kv => kV kv.1) = (kv.map (·.1)).map kV := by rw [List.map_map]; rfl
            rw [e1, kk, castR_V, List.map_map]
            rfl
          refine ⟨l1, castR ks, rfl, .inl (.inl (by rw [upd_same, keys])), fun ns p pm srt np => ⟨p, _, rfl, .inl ⟨.inl (.inl upd_same), fun t3 nt3 => ?_⟩⟩⟩
          have nse : ns = castR (sortD l) := perm_row pm srt kd fun z => by rw [km, rowV_len, List.take_length]
          subst nse
          have s10 : Same H2 (upd (upd (upd H7 l1 (.lst (kv.map fun kv => kV kv.1))) p (.lst ((castR (sortD l)).map V.int))) t3 (.tup ((castR (sortD l)).map V.int))) :=
            s7.trans (((same_new nl1).trans (same_new np)).trans (same_new nt3))
          have ht3 : (upd (upd (upd H7 l1 (.lst (kv.map fun kv => kV kv.1))) p (.lst ((castR (sortD l)).map V.int))) t3 (.tup ((castR (sortD l)).map V.int))) t3 = some (.tup (rowV (sortD l))) := by rw [upd_same, castR_V]
          generalize (upd (upd (upd H7 l1 (.lst (kv.map fun kv => kV kv.1))) p (.lst ((castR (sortD l)).map V.int))) t3 (.tup ((castR (sortD l)).map V.int))) = H10 at s10 ht3
          have hd10 := s10 _ _ hd
          have ho10 := s10 _ _ ho
          have lp := length_putK kvs (kN x) (.ref t3)
          have lp2 := length_putK (putK kvs (kN x) (.ref t3)) (kN y) (.ref t3)
          refine ⟨_, rfl, _, rfl, ea, _, 1, _, rfl, rfl, sq s10, atI_nat (j := 1) rfl, d, _, rfl, DPut.k (k := kN x) hd10 (small1000 (by omega)), ?_⟩
          have sq11 : SqT K (upd H10 d (.dK (putK kvs (kN x) (.ref t3)))) ea (evV (.meet x y)) := .inl (.inl (by
            rw [upd_ne (fun z => by subst z; rw [hd] at hea; cases hea)]
            exact s10 _ _ hea))
          refine ⟨_, rfl, _, rfl, ea, _, 1, _, rfl, rfl, sq11, atI_nat (j := 1) rfl, d, .ref t3, rfl, ?_, ?_⟩
          · have g := DGet.k (H := upd H10 d (.dK (putK kvs (kN x) (.ref t3)))) (a := d) (k := kN x) upd_same
            rw [valV_put, if_pos rfl] at g
            exact g
          refine ⟨_, rfl, _, rfl, ea, _, 2, _, rfl, rfl, sq11, atI_nat (j := 2) rfl, d, _, rfl, DPut.k (k := kN y) upd_same (small1000 (by omega)), ?_⟩
          rw [upd_upd]
          have keep : ∀ v r, RowAt H10 v r → RowAt (upd H10 d (.dK (putK (putK kvs (kN x) (.ref t3)) (kN y) (.ref t3)))) v r := fun v r z => row_off (fun xs zz => by rw [hd10] at zz; cases zz) z
          have kn10 := (kn.imp fun v r => RowAt.mono s10).imp keep
          have row3 := keep _ _ ⟨t3, rfl, ht3⟩
          refine ⟨Same.into (s1.trans s10) nd0, ⟨_, _, _, _, rfl⟩, ⟨_, upd_same, by omega, ?_⟩, ⟨vs, by rw [upd_ne do'.symm]; exact ho10, Paired.mono (fun v r z => keep v r (RowAt.mono s10 z)) pv'⟩⟩
          have k1 := kn10.put (known' := fun z => if z = x then sortD l else st.known z) row3 (if_pos rfl) fun z hz => if_neg hz
          refine k1.put row3 ?_ fun z hz => ?_
          · show (if y = x ∨ y = y then sortD (st.known x ++ st.known y) else st.known y) = sortD l
            rw [if_pos (.inr rfl), hL]
          · show (if z = x ∨ z = y then sortD (st.known x ++ st.known y) else st.known z) = if z = x then sortD l else st.known z
            rw [hL]
            by_cases zx : z = x
            · rw [if_pos (.inl zx), if_pos zx]
            · rw [if_neg (fun h => h.elim zx hz), if_neg zx]
    · rintro σ' H1 ⟨s1, ⟨y3, y4, y5, y6, rfl⟩, _, ⟨vs, ho, pv'⟩⟩
      rw [le, List.take_length] at pv'
      refine ⟨_, rfl, o, vs, rfl, .inl ⟨.inl (.inl ho), fun t nt => ?_⟩⟩
      have sT := same_new (o := .tup vs) nt
      exact q _ _ (s1.trans sT) ⟨t, vs, rfl, upd_same, paired_mono_row sT pv'⟩
end
end Pb

set_option Elab.async false
set_option linter.all false
set_option maxRecDepth 100000
namespace Pb
open PySem PySem.Spec PyProof.Rows L2
/-! ### the search -/
theorem leftOut_at {evs : List Ev} {most : Int} {i j : Nat} {row : List Nat} (hrow : (choicesOf (meetsOf evs) i)[j]? = some row) (prev : ∀ s, s < i → ∀ r ∈ choicesOf (meetsOf evs) s, okLeft evs most r = false)
    (prevj : ∀ r ∈ (choicesOf (meetsOf evs) i).take j, okLeft evs most r = false) (ok : okLeft evs most row = true) : leftOut evs most = some row := by
  have ma := meetsOf_asc evs
  have mrow := List.mem_of_getElem? hrow
  obtain ⟨r1, r2, r3⟩ := mem_choices.mp mrow
  have mall := (mem_allC ma).mpr ⟨r2, r3⟩
  cases e : leftOut evs most with
  | none =>
    unfold leftOut at e
    rw [List.find?_eq_none] at e
    exact absurd ok (e row mall)
  | some y =>
    have oky : okLeft evs most y = true := List.find?_some e
    have ymem := (mem_allC ma).mp (List.mem_of_find?_eq_some e)
    rcases find_least (allC_sorted ma) e row mall ok with q | q | ⟨q1, q2⟩
    · rw [q]
    · rw [prev y.length (r1 ▸ q) y (mem_choices.mpr ⟨rfl, ymem.1, ymem.2⟩)] at oky
      cases oky
    · have my : y ∈ choicesOf (meetsOf evs) i := mem_choices.mpr ⟨q1.trans r1, ymem.1, ymem.2⟩
      obtain ⟨k, hk, ek⟩ := List.getElem_of_mem my
      have sorted := choices_sorted ma i
      obtain ⟨hj, ej⟩ := List.getElem?_eq_some_iff.mp hrow
      have kj : k < j := by
        rcases Nat.lt_trichotomy k j with h | h | h
        · exact h
        · subst h
          rw [ek] at ej
          rw [ej] at q2
          exact absurd q2 (List.lt_irrefl _)
        · have lt := (List.pairwise_iff_getElem.mp sorted) j k hj hk h
          rw [ek, ej] at lt
          exact absurd (List.lt_trans lt q2) (List.lt_irrefl _)
      have mt : y ∈ (choicesOf (meetsOf evs) i).take j := by
        rw [← ek]
        exact List.mem_of_getElem? (i := k) (by rw [List.getElem?_take_of_lt kj, List.getElem?_eq_getElem hk])
      rw [prevj y mt] at oky
      cases oky
theorem leftOut_no {evs : List Ev} {most : Int} (all : ∀ s, s < (meetsOf evs).length + 1 → ∀ r ∈ choicesOf (meetsOf evs) s, okLeft evs most r = false) : leftOut evs most = none := by
  unfold leftOut
  rw [List.find?_eq_none]
  intro r hr ok
  unfold allC at hr
  obtain ⟨s, hs, h⟩ := List.mem_flatMap.mp hr
  rw [all s (List.mem_range.mp hs) r h] at ok
  cases ok
theorem rowsOk_plan {evs : List Ev} (h : evs.length ≤ 12) : RowsOk (planOf evs) := by
  have g := plRun_good evs
  have l := planOf_len evs
  refine ⟨by omega, fun i r hr => ⟨?_, g.rlow i r hr⟩⟩
  have hi : i < (planOf evs).length := (List.getElem?_eq_some_iff.mp hr).1
  have := asc_len (g.rasc r (List.mem_of_getElem? hr)) (g.rlow i r hr)
  omega
def OutAt (H : Hp) (v : V) : Option (List Nat) → Prop
  | none => v = .non
  | some r => RowAt H v r
section
variable {P : Program} {w : World} {K : PySem.W.Frag} {mg : Str → Option Value} {base : Heap}
theorem scLeft : FnScope ["day", "most", "meets", "size", "left", "index", "event"] ["day", "most"] (defScope sLeft) := ⟨rfl, rfl, rfl, by decide +kernel, rfl, by decide +kernel, by decide +kernel⟩
def spLeft : Sp := fun vs H Q _ => ∃ (b : Bool) (a : Addr) (evs : List Ev) (most : Int), vs = [.ref a, .int most] ∧ DaySt b H a evs ∧ (meetsOf evs).length ≤ 6 ∧ 0 ≤ most ∧ ∀ H' v, Same H H' → OutAt H' v (leftOut evs most) → Q v H'
theorem ok_left {f g1 g2 g3 g4 g5 g6 g7 : Addr} {fd gd1 gd2 gd3 gd4 gd5 gd6 gd7 : FuncData} (F : Fun K "left_out" "left_out" sLeft f fd)
    (G1 : FnOk P w K mg base CX0 6 g1 gd1 ["day"] spCheck) (k1 : PySem.W.keepIn K (.ref g1) = true) (b1 : Binds K gd1 ["day"] []) (m1 : mg "check_day" = some (.ref g1))
    (G2 : FnOk P w K mg base CX0 1 g2 gd2 ["thing"] spInteger) (k2 : PySem.W.keepIn K (.ref g2) = true) (b2 : Binds K gd2 ["thing"] []) (m2 : mg "is_integer" = some (.ref g2))
    (G3 : FnOk P w K mg base CX0 1 g3 gd3 ["many", "most"] spMost) (k3 : PySem.W.keepIn K (.ref g3) = true) (b3 : Binds K gd3 ["many", "most"] []) (m3 : mg "check_most" = some (.ref g3))
    (G4 : FnOk P w K mg base CX0 1 g4 gd4 ["items", "size"] spChoices) (k4 : PySem.W.keepIn K (.ref g4) = true) (b4 : Binds K gd4 ["items", "size"] []) (m4 : mg "choices" = some (.ref g4))
    (G5 : FnOk P w K mg base CX0 2 g5 gd5 ["plan"] spMany) (k5 : PySem.W.keepIn K (.ref g5) = true) (b5 : Binds K gd5 ["plan"] []) (m5 : mg "many_chains" = some (.ref g5))
    (G6 : FnOk P w K mg base CX0 1 g6 gd6 ["day"] spPlan) (k6 : PySem.W.keepIn K (.ref g6) = true) (b6 : Binds K gd6 ["day"] []) (m6 : mg "plan_of_day" = some (.ref g6))
    (G7 : FnOk P w K mg base CX0 1 g7 gd7 ["events", "left"] spWithout) (k7 : PySem.W.keepIn K (.ref g7) = true) (b7 : Binds K gd7 ["events", "left"] []) (m7 : mg "without" = some (.ref g7)) (T : Txt mg) :
    FnOk P w K mg base CX0 7 f fd ["day", "most"] spLeft := by
  refine F.ok scLeft (fun vs H Q E h => ?_) (fun cdv A outer s H vs Q E hr h => ?_)
  · obtain ⟨b, a, evs, most, rfl, _⟩ := h
    rfl
  · obtain ⟨b, a, evs, most, rfl, day, few, m0, q⟩ := h
    obtain ⟨dayA, ok, len⟩ := id day
    obtain ⟨es, ha, pr⟩ := id dayA
    obtain ⟨t, mM⟩ := T.meets
    have nd := scLeft.nd
    have hr1 : Room 1 _ := hr.mono (by decide)
    have hr2 : Room 2 _ := hr.mono (by decide)
    refine ⟨_, pss_cons (ps_expr (pe_call G1 hr (by rfl) m1 k1 b1 .nil pass0 (pa_cons (pv 0) pa_nil)))
      (pss_cons (ps_if (PW.pt (pw_or (pt_not (pt_val (pe_call G2 hr1 (by rfl) m2 k2 b2 .nil pass0 (pa_cons (pv 1) pa_nil)))) (pw_or1 (pt_cmpR op_lt (pv 1) pe_int (nomark _))))) pss_never pss_nil)
      (pss_cons (ps_setLc (i := 2) (own := [("index", 5), ("event", 6)]) (g := gTup K 2 (gCons (gName 5) (gCons (gName 6) gNil))) rfl nd rfl rfl (sw_true rfl rfl rfl (by decide +kernel)) (pi_enumS (by rfl) T.enumerate (pv 0))
          (blkOk_by (N := ["day", "most", "meets", "size", "left", "index", "event"]) (sc := defScope sLeft) (by decide +kernel))
          (fun _ _ _ _ _ => pg_tup rfl (pgs_cons (pg_name (i := 5) nd rfl (Or.inl rfl)) (pgs_cons (pg_name (i := 6) nd rfl (Or.inl rfl)) pgs_nil)))
          (fun _ _ _ _ _ => pts_one (pt_cmpR op_eq (pe_ix (r := rIxT K) ix_tup (pv 6) pe_int (fun _ _ => rfl)) pe_str (nomark _))) (fun _ _ _ _ _ => pv 5))
      (pss_cons (ps_expr (pe_call G3 hr1 (by rfl) m3 k3 b3 .nil pass0 (pa_cons (pe_callB call_len_seq (by rfl) T.len PySem.boot_len (pa_cons (pv 2) pa_nil)) (pa_cons (pe_glob (v := .int 10) (by rfl) mM ⟨t, rfl⟩) pa_nil))))
      (pss_cons (ps_for PassesOwn.never rfl (pi_range1 (by rfl) T.range (pa_cons (pe_op op_add (pe_callB call_len_seq (by rfl) T.len PySem.boot_len (pa_cons (pv 2) pa_nil)) pe_int) pa_nil)) (pg_name (i := 3) nd rfl (Or.inl rfl))
        (pss_one (ps_for PassesOwn.never rfl (pi_list (pe_call G4 hr1 (by rfl) m4 k4 b4 .nil pass0 (pa_cons (pv 2) (pa_cons (pv 3) pa_nil)))) (pg_name (i := 4) nd rfl (Or.inl rfl))
          (pss_one (ps_if (pt_cmpR op_le (pe_call G5 hr2 (by rfl) m5 k5 b5 .nil pass0 (pa_cons (pe_call G6 hr1 (by rfl) m6 k6 b6 .nil pass0 (pa_cons (pe_call G7 hr1 (by rfl) m7 k7 b7 .nil pass0 (pa_cons (pv 0) (pa_cons (pv 4) pa_nil))) pa_nil)) pa_nil)) (pv 1) (nomark _))
            (pss_one (ps_ret (pv 4))) pss_nil)))))
      (pss_one (ps_ret pe_non)))))), ?_⟩
    -- the checks
    refine ⟨_, rfl, b, a, evs, rfl, day, fun H1 s1 => ?_⟩
    refine ⟨_, rfl, most, rfl, true, rfl, iteF ?_⟩
    refine ⟨_, rfl, most, 0, rfl, rfl, _, rfl, ifNo (by omega) ?_⟩
    -- meets
    have le : es.length = evs.length := pr.length
    refine ⟨b, a, es, rfl, SqB.of (s1 _ _ ha), fun J wk D nD => ?_⟩
    refine lc_it wk (fun i H' => Same H1 H' ∧ H' D = some (.lst (rowV (meTake evs i)))) ⟨same_new nD, upd_same⟩ (fun i H' _ p => SqB.of (p.1 _ _ (s1 _ _ ha))) ?_ ?_
    · rintro i x H2 H3 hi ⟨sm, hD⟩ ⟨Tp, z1, z2, rfl, nT, rfl, e1, e2⟩
      cases e1
      obtain ⟨e, he, ev⟩ := paired_get pr i z2 e2
      have sT := same_new (o := .tup [.int (i : Nat), z2]) nT
      have s3 := sm.trans sT
      obtain ⟨ea, rfl, hea⟩ := ev.mono (s1.trans s3)
      refine ⟨Tp, _, rfl, .inl (.inl upd_same), rfl, _, _, rfl, _, _, rfl, rfl, rfl, ?_⟩
      have gr := meTake_succ evs i
      unfold meetAt at gr
      rw [he] at gr
      have hD3 := sT _ _ hD
      cases e with
      | put h =>
        refine ⟨_, rfl, ea, _, 0, .str "put", rfl, rfl, .inl (.inl hea), atI_nat (j := 0) rfl, str_scal, _, rfl, ifNo (by decide +kernel) ⟨s3, ?_⟩⟩
        rw [hD3, gr]
        simp [Ev.isMeet]
      | meet x y =>
        refine ⟨_, rfl, ea, _, 0, .str "meet", rfl, rfl, .inl (.inl hea), atI_nat (j := 0) rfl, str_scal, _, rfl, ifYes rfl ?_⟩
        refine ⟨_, rfl, _, hD3, ?_, Same.into s3 nD, ?_⟩
        · rw [rowV_len, meTake_len]
          have h1 := List.length_filter_le Ev.isMeet (evs.take i)
          rw [List.length_take] at h1
          exact small1000 (by omega)
        · rw [upd_same, gr]
          unfold rowV
          rw [List.map_append]
          simp [Ev.isMeet]
    · rintro H2 ⟨s2, hD⟩
      rw [le] at hD
      have hD2 : H2 D = some (.lst (rowV (meetsOf evs))) := hD
      -- check_most
      refine ⟨_, rfl, D, _, rfl, .inl (.inl (.inl hD2)), ((rowV (meetsOf evs)).length : Int), 10, rfl, by rw [rowV_len]; omega, ?_⟩
      have s12 := s1.trans s2
      -- the sizes
      refine ⟨_, rfl, D, _, rfl, .inl (.inl (.inl hD2)), _, 1, rfl, rfl, _, rfl, by omega, by rw [rowV_len]; omega, ?_⟩
      have en : (((rowV (meetsOf evs)).length : Int) + 1).toNat = (meetsOf evs).length + 1 := by rw [rowV_len]; omega
      rw [en]
      refine for_it (walk_range (lo := 0) (n := (meetsOf evs).length + 1)) (fun i σ' H' => Same H2 H' ∧ (∃ y3 y4 y5 y6, σ' = [some (V.ref a), some (V.int most), some (V.ref D), y3, y4, y5, y6]) ∧ ∀ s, s < i → ∀ r ∈ choicesOf (meetsOf evs) s, okLeft evs most r = false)
        ⟨Same.refl _, ⟨_, _, _, _, rfl⟩, fun s hs => absurd hs (Nat.not_lt_zero _)⟩ (fun _ _ _ _ _ => trivial) ?_ ?_
      · rintro i x σ' H3 H4 hi ⟨s3, ⟨y3, y4, y5, y6, rfl⟩, prev⟩ ⟨rfl, hx⟩
        have hx2 : x = V.int (i : Int) := hx.trans (congrArg V.int (Int.zero_add _))
        subst hx2
        refine ⟨_, rfl, _, rfl, D, meetsOf evs, i, rfl, s3 _ _ hD2, few, by omega, fun H5 o2 es2 s5 ho2 pr2 => ?_⟩
        refine ⟨o2, rfl, ⟨es2, .inl (.inl ho2)⟩, ?_⟩
        have le2 : es2.length = (choicesOf (meetsOf evs) i).length := pr2.length
        refine for_it (walk_list (xs := es2)) (fun j σ' H' => Same H5 H' ∧ (∃ y4 y5 y6, σ' = [some (V.ref a), some (V.int most), some (V.ref D), some (V.int (i : Int)), y4, y5, y6]) ∧ ∀ r ∈ (choicesOf (meetsOf evs) i).take j, okLeft evs most r = false)
          ⟨Same.refl _, ⟨_, _, _, rfl⟩, fun r hr => by simp at hr⟩ (fun j σ' H' _ c => .inl (.inl (c.1 _ _ ho2))) ?_ ?_
        · rintro j x σ' H6 H7 hj ⟨s6, ⟨y4', y5', y6', rfl⟩, prevj⟩ ⟨rfl, hx6⟩
          obtain ⟨row, hrow, rat⟩ := paired_get pr2 j x hx6
          have rat7 := rat.mono s6
          have sH : Same H H7 := ((s12.trans s3).trans s5).trans s6
          have subl := (withoutE_sub evs row).length_le
          refine ⟨_, rfl, _, rfl, b, a, evs, x, row, rfl, dayA.mono sH, len, rat7, fun H8 o3 s8 day3 => ?_⟩
          refine ⟨true, o3, withoutE evs row, rfl, day3, by omega, fun H9 v s9 pl => ?_⟩
          refine ⟨v, _, rfl, pl, rowsOk_plan (by omega), fun H10 s10 => ?_⟩
          refine ⟨_, rfl, chainsOf (withoutE evs row), most, rfl, rfl, _, rfl, ?_⟩
          have s710 := (s8.trans s9).trans s10
          by_cases good : chainsOf (withoutE evs row) ≤ most
          · refine ifYes good ⟨_, rfl, q H10 x (sH.trans s710) ?_⟩
            rw [leftOut_at hrow prev prevj (decide_eq_true good)]
            exact rat7.mono s710
          · refine ifNo good ⟨s6.trans s710, ⟨_, _, _, rfl⟩, fun r hr => ?_⟩
            rw [List.take_add_one, hrow] at hr
            rcases List.mem_append.mp hr with h | h
            · exact prevj r h
            · have e : r = row := by simpa using h
              rw [e]
              exact decide_eq_false good
        · rintro σ' H6 ⟨s6, ⟨y4', y5', y6', rfl⟩, prevj⟩
          refine ⟨(s3.trans s5).trans s6, ⟨_, _, _, _, rfl⟩, fun s hs r hr => ?_⟩
          by_cases e : s = i
          · subst e
            rw [le2, List.take_length] at prevj
            exact prevj r hr
          · exact prev s (by omega) r hr
      · rintro σ' H3 ⟨s3, _, prev⟩
        refine q H3 .non (s12.trans s3) ?_
        rw [leftOut_no prev]
        rfl
end
end Pb

set_option Elab.async false
set_option linter.all false
set_option maxRecDepth 100000
namespace Pb
open PySem PySem.Spec PyProof.Rows L2
/-! ### the law's pool of draws -/
/-- a pool stands at p, its numbers at r -/
structure PoolAt (H : Hp) (p r : Addr) : Prop where
  ne : p ≠ r
  pool : ∃ t : Nat, H p = some (.lst [.ref r, .int (t : Int)])
  rest : ∃ ns : List Int, H r = some (.lst (ns.map V.int)) ∧ 0 < ns.length ∧ ns.length ≤ 63
/-- all but the pool is as it was -/
def Off (p r : Addr) (H H' : Hp) : Prop := ∀ b o, H b = some o → b ≠ p → b ≠ r → H' b = some o
theorem Off.refl {p r : Addr} {H : Hp} : Off p r H H := fun _ _ h _ _ => h
theorem Off.trans {p r : Addr} {H H1 H2 : Hp} (a : Off p r H H1) (b : Off p r H1 H2) : Off p r H H2 := fun c o h x y => b c o (a c o h x y) x y
theorem Same.off {p r : Addr} {H H' : Hp} (s : Same H H') : Off p r H H' := fun b o h _ _ => s b o h
theorem PoolAt.mono {H H' : Hp} {p r : Addr} (s : Same H H') (h : PoolAt H p r) : PoolAt H' p r :=
  let ⟨t, ht⟩ := h.pool
  let ⟨ns, hn, a, b⟩ := h.rest
  ⟨h.ne, ⟨t, s _ _ ht⟩, ns, s _ _ hn, a, b⟩
theorem PoolAt.apart {H : Hp} {p r o : Addr} (h : PoolAt H p r) (n : H o = none) : o ≠ p ∧ o ≠ r := by
  obtain ⟨t, ht⟩ := h.pool
  obtain ⟨ns, hn, _⟩ := h.rest
  exact ⟨(ne_of_none ht n).symm, (ne_of_none hn n).symm⟩
theorem PoolAt.upd {H : Hp} {p r o : Addr} {x : HO} (h : PoolAt H p r) (n : o ≠ p ∧ o ≠ r) : PoolAt (upd H o x) p r := by
  obtain ⟨t, ht⟩ := h.pool
  obtain ⟨ns, hn, a, b⟩ := h.rest
  exact ⟨h.ne, ⟨t, by rw [upd_ne n.1.symm]; exact ht⟩, ns, by rw [upd_ne n.2.symm]; exact hn, a, b⟩
theorem off_tup {H H' : Hp} {p r a : Addr} {xs : List V} (f : Off p r H H') (P : PoolAt H p r) (h : H a = some (.tup xs)) : H' a = some (.tup xs) := by
  obtain ⟨t, ht⟩ := P.pool
  obtain ⟨ns, hn, _⟩ := P.rest
  exact f _ _ h (ne_of h ht (by intro z; cases z)) (ne_of h hn (by intro z; cases z))
section
variable {P : Program} {w : World} {K : PySem.W.Frag} {mg : Str → Option Value} {base : Heap}
theorem scPool : FnScope ["_law_script", "_law_rest"] ["_law_script"] (defScope sPool) := ⟨rfl, rfl, rfl, by decide +kernel, rfl, by decide +kernel, by decide +kernel⟩
def spPool (K : PySem.W.Frag) : Sp := fun vs H Q _ => ∃ (a : Addr) (ns : List Int), vs = [.ref a] ∧ SqL K H a (ns.map V.int) ∧ ns.length ≤ 63 ∧ ∀ H' p r, Same H H' → PoolAt H' p r → Q (.ref p) H'
theorem ok_pool {f : Addr} {fd : FuncData} {k : Nat} (F : Fun K "_law_pool" "_law_pool" sPool f fd) (T : Txt mg) : FnOk P w K mg base CX0 (k + 1) f fd ["_law_script"] (spPool K) := by
  refine F.ok scPool (fun vs H Q E h => ?_) (fun cdv A outer s H vs Q E hr h => ?_)
  · obtain ⟨a, ns, rfl, _⟩ := h
    rfl
  · obtain ⟨a, ns, rfl, ha, few, q⟩ := h
    refine ⟨_, pss_cons (ps_set (i := 1) scPool.nd rfl (.inl rfl) (pe_callTy call_list_of (by rfl) T.list boot_list' (pa_cons (pv 0) pa_nil)))
      (pss_cons (ps_if (pt_cmpR op_eq (pe_callB call_len_seq (by rfl) T.len PySem.boot_len (pa_cons (pv 1) pa_nil)) pe_int (nomark _)) (pss_one (ps_set (i := 1) scPool.nd rfl (.inl rfl) (pe_lst (pa_cons pe_int pa_nil)))) pss_nil)
      (pss_one (ps_ret (pe_lst (pa_cons (pv 1) (pa_cons pe_int pa_nil)))))), ?_⟩
    refine ⟨_, rfl, a, _, rfl, .inl ha, fun l nl => ?_⟩
    have sl := same_new (o := .lst (ns.map V.int)) nl
    refine ⟨_, rfl, l, _, rfl, .inl (.inl (.inl upd_same)), rfl, _, rfl, ?_⟩
    by_cases e : ns = []
    · subst e
      refine ifYes rfl ?_
      refine ⟨by show 1 ≤ sizeLine; decide, fun l2 nl2 => ?_⟩
      have s2 := same_new (o := .lst [.int 5]) nl2
      refine ⟨_, rfl, (by show 2 ≤ sizeLine; decide), fun p np => ?_⟩
      have s3 := same_new (o := .lst [.ref l2, .int 0]) np
      have n2 : p ≠ l2 := (ne_of_none upd_same np).symm
      exact q _ p l2 ((sl.trans s2).trans s3) ⟨n2, ⟨0, upd_same⟩, [5], s3 _ _ upd_same, by decide, by decide⟩
    · refine ifNo (fun z => ?_) ?_
      · injection z with z
        rw [List.length_map] at z
        exact e (List.length_eq_zero_iff.mp (by omega))
      · refine ⟨_, rfl, (by show 2 ≤ sizeLine; decide), fun p np => ?_⟩
        have s3 := same_new (o := .lst [.ref l, .int 0]) np
        have n2 : p ≠ l := (ne_of_none upd_same np).symm
        exact q _ p l (sl.trans s3) ⟨n2, ⟨0, upd_same⟩, ns, s3 _ _ upd_same, List.length_pos_iff.mpr e, few⟩

/-! ### one draw -/
theorem scDraw : FnScope ["_law_pool_here", "_law_many", "_law_rest", "_law_turn", "_law_at", "_law_value"] ["_law_pool_here", "_law_many"] (defScope sDraw) := ⟨rfl, rfl, rfl, by decide +kernel, rfl, by decide +kernel, by decide +kernel⟩
def spDraw : Sp := fun vs H Q _ => ∃ (p r : Addr) (m : Nat), vs = [.ref p, .int (m : Int)] ∧ PoolAt H p r ∧ 0 < m ∧ m ≤ 1000 ∧ ∀ H' (v : Nat), v < m → Off p r H H' → PoolAt H' p r → Q (.int (v : Int)) H'
theorem small_emod {x : Int} {m : Nat} (h : 0 < m) : ∃ v : Nat, v < m ∧ x % (m : Int) = (v : Int) := by
  have h1 := Int.emod_nonneg x (b := (m : Int)) (by omega)
  have h2 := Int.emod_lt_of_pos x (b := (m : Int)) (by omega)
  exact ⟨(x % (m : Int)).toNat, by omega, by omega⟩
theorem ok_draw {f : Addr} {fd : FuncData} {k : Nat} (F : Fun K "_law_draw" "_law_draw" sDraw f fd) (T : Txt mg) : FnOk P w K mg base CX0 (k + 1) f fd ["_law_pool_here", "_law_many"] spDraw := by
  refine F.ok scDraw (fun vs H Q E h => ?_) (fun cdv A outer s H vs Q E hr h => ?_)
  · obtain ⟨p, r, m, rfl, _⟩ := h
    rfl
  · obtain ⟨p, r, m, rfl, ⟨pr, ⟨t, hp⟩, ns, hn, n0, n63⟩, m0, m1, q⟩ := h
    have nd := scDraw.nd
    refine ⟨_, pss_cons (ps_set (i := 2) nd rfl (.inl rfl) (pe_ix ix_list (pv 0) pe_int (fun _ _ => rfl)))
      (pss_cons (ps_set (i := 3) nd rfl (.inl rfl) (pe_ix ix_list (pv 0) pe_int (fun _ _ => rfl)))
      (pss_cons (ps_asg (pe_op op_add (pv 3) pe_int) (pg_sub (pv 0) pe_int set_list))
      (pss_cons (ps_set (i := 4) nd rfl (.inl rfl) (pe_op op_mod (pe_callTy call_int1 (by rfl) T.int boot_int' (pa_cons (pv 3) pa_nil)) (pe_callB call_len_seq (by rfl) T.len PySem.boot_len (pa_cons (pv 2) pa_nil))))
      (pss_cons (ps_set (i := 5) nd rfl (.inl rfl) (pe_ix ix_list (pv 2) (pv 4) (fun _ _ => rfl)))
      (pss_cons (ps_if (pt_cmpR op_ge (pv 5) (pe_op op_pow pe_int pe_int) (nomark _))
        (pss_cons (ps_asg (pe_op op_fdiv (pv 5) (pv 1)) (pg_sub (pv 2) (pv 4) set_list)) (pss_one (ps_ret (pe_op op_mod (pe_callTy call_int1 (by rfl) T.int boot_int' (pa_cons (pv 5) pa_nil)) (pv 1))))) pss_nil)
      (pss_cons (ps_set (i := 5) nd rfl (.inl rfl) (pe_op op_mod (pe_op op_mul (pe_callTy call_int1 (by rfl) T.int boot_int' (pa_cons (pe_op op_add (pe_op op_add (pv 5) (pe_op op_mul pe_int (pv 3))) pe_int) pa_nil)) pe_int) pe_int))
      (pss_cons (ps_set (i := 5) nd rfl (.inl rfl) (pe_op op_mod (pe_op op_mul (pe_callTy call_int1 (by rfl) T.int boot_int' (pa_cons (pv 5) pa_nil)) (pe_op op_add (pe_op op_fdiv (pv 5) pe_int) pe_int)) pe_int))
      (pss_cons (ps_set (i := 5) nd rfl (.inl rfl) (pe_op op_mod (pe_op op_mul (pe_callTy call_int1 (by rfl) T.int boot_int' (pa_cons (pv 5) pa_nil)) (pe_op op_add (pe_op op_fdiv (pv 5) pe_int) pe_int)) pe_int))
      (pss_one (ps_ret (pe_op op_mod (pe_callTy call_int1 (by rfl) T.int boot_int' (pa_cons (pv 5) pa_nil)) (pv 1)))))))))))), ?_⟩
    refine ⟨_, rfl, p, _, 0, .ref r, rfl, rfl, .inl (.inl hp), atI_nat (j := 0) rfl, ?_⟩
    refine ⟨_, rfl, p, _, 1, .int (t : Int), rfl, rfl, .inl (.inl hp), atI_nat (j := 1) rfl, ?_⟩
    refine ⟨_, rfl, (t : Int), 1, rfl, rfl, _, rfl, p, _, 1, 1, rfl, rfl, hp, rfl, ?_⟩
    have hr1 : (upd H p (.lst [.ref r, .int ((t : Int) + 1)])) r = some (.lst (ns.map V.int)) := by rw [upd_ne pr.symm]; exact hn
    have hp1 : (upd H p (.lst [.ref r, .int ((t : Int) + 1)])) p = some (.lst [.ref r, .int ((t + 1 : Nat) : Int)]) := by rw [upd_same]; rfl
    have off1 : Off p r H (upd H p (.lst [.ref r, .int ((t : Int) + 1)])) := fun b o h h1 h2 => by rw [upd_ne h1]; exact h
    show tSeq _ _ _ _ (upd H p (.lst [.ref r, .int ((t : Int) + 1)]))
    generalize upd H p (.lst [.ref r, .int ((t : Int) + 1)]) = H1 at hr1 hp1 off1
    have l0 : (0 : Int) < ((ns.map V.int).length : Int) := by rw [List.length_map]; omega
    refine ⟨_, rfl, .inl ⟨(t : Int), rfl, _, rfl, r, _, rfl, .inl (.inl (.inl hr1)), (t : Int), _, rfl, rfl, l0, ?_⟩⟩
    obtain ⟨j, hj, ej⟩ := small_emod (x := (t : Int)) (m := (ns.map V.int).length) (by rw [List.length_map]; exact n0)
    rw [List.length_map] at hj
    show tSeq _ _ _ (List.set _ _ (some (V.int ((t : Int) % ((ns.map V.int).length : Int))))) H1
    rw [ej]
    obtain ⟨z, hz⟩ : ∃ z, ns[j]? = some z := ⟨ns[j], List.getElem?_eq_getElem hj⟩
    have hzv : (ns.map V.int)[j]? = some (.int z) := by rw [List.getElem?_map, hz]; rfl
    refine ⟨_, rfl, _, rfl, r, _, (j : Int), .int z, rfl, rfl, .inl (.inl hr1), atI_nat hzv, ?_⟩
    refine ⟨_, rfl, 10, 18, rfl, rfl, ⟨by decide, by decide, by decide⟩, z, _, rfl, rfl, _, rfl, ?_⟩
    by_cases big : (10 : Int) ^ ((18 : Int)).toNat ≤ z
    · refine ifYes big ?_
      have jx : ixN (ns.map V.int).length (j : Int) = some j := by
        unfold ixN
        rw [List.length_map, if_pos (by omega), if_pos (by omega)]
        simp
      refine ⟨_, rfl, _, rfl, z, (m : Int), rfl, rfl, ⟨by omega, by omega⟩, _, rfl, _, rfl, r, _, (j : Int), j, rfl, rfl, hr1, jx, ?_⟩
      refine ⟨_, rfl, .inl ⟨z, rfl, _, rfl, z, (m : Int), rfl, rfl, (by show (0 : Int) < (m : Int); omega), ?_⟩⟩
      obtain ⟨v, hv, ev⟩ := small_emod (x := z) m0
      show Q (V.int (z % (m : Int))) _
      rw [ev]
      refine q _ v hv (fun b o h h1 h2 => by rw [upd_ne h2]; exact off1 _ _ h h1 h2) ⟨pr, ⟨t + 1, by rw [upd_ne pr]; exact hp1⟩, ns.set j (z / (m : Int)), ?_, by rw [List.length_set]; exact n0, by rw [List.length_set]; exact n63⟩
      rw [upd_same, List.map_set]
    · refine ifNo big ?_
      refine ⟨_, rfl, _, rfl, 7919, (t : Int), rfl, rfl, .inl ⟨by decide, by decide⟩, z, _, rfl, rfl, _, 1, rfl, rfl, .inl ⟨_, rfl, _, 48271, rfl, rfl, .inr ⟨by decide, by decide⟩, _, 2147483647, rfl, rfl, (by show (0 : Int) < 2147483647; decide), ?_⟩⟩
      obtain ⟨v1, hv1, ev1⟩ := small_emod (x := (z + 7919 * (t : Int) + 1) * 48271) (m := 2147483647) (by decide)
      show tSeq _ _ _ (List.set _ _ (some (V.int ((z + 7919 * (t : Int) + 1) * 48271 % ((2147483647 : Nat) : Int))))) H1
      rw [ev1]
      refine ⟨_, rfl, .inl ⟨(v1 : Int), rfl, _, rfl, (v1 : Int), 1009, rfl, rfl, ⟨by decide, by decide⟩, _, 69621, rfl, rfl, (v1 : Int), _, rfl, rfl, .inl ⟨by omega, by omega⟩, _, 2147483647, rfl, rfl, (by show (0 : Int) < 2147483647; decide), ?_⟩⟩
      obtain ⟨v2, hv2, ev2⟩ := small_emod (x := (v1 : Int) * ((v1 : Int) / 1009 + 69621)) (m := 2147483647) (by decide)
      show tSeq _ _ _ (List.set _ _ (some (V.int ((v1 : Int) * ((v1 : Int) / 1009 + 69621) % ((2147483647 : Nat) : Int))))) H1
      rw [ev2]
      refine ⟨_, rfl, .inl ⟨(v2 : Int), rfl, _, rfl, (v2 : Int), 2003, rfl, rfl, ⟨by decide, by decide⟩, _, 40692, rfl, rfl, (v2 : Int), _, rfl, rfl, .inl ⟨by omega, by omega⟩, _, 2147483399, rfl, rfl, (by show (0 : Int) < 2147483399; decide), ?_⟩⟩
      refine ⟨_, rfl, .inl ⟨_, rfl, _, rfl, _, (m : Int), rfl, rfl, (by show (0 : Int) < (m : Int); omega), ?_⟩⟩
      obtain ⟨v, hv, ev⟩ := small_emod (x := (v2 : Int) * ((v2 : Int) / 2003 + 40692) % 2147483399) m0
      show Q (V.int ((v2 : Int) * ((v2 : Int) / 2003 + 40692) % 2147483399 % (m : Int))) _
      rw [ev]
      exact q _ v hv off1 ⟨pr, ⟨t + 1, hp1⟩, ns, hr1, n0, n63⟩
end
end Pb

set_option Elab.async false
set_option linter.all false
set_option maxRecDepth 100000
namespace Pb
open PySem PySem.Spec PyProof.Rows L2
theorem other_hand {h k d : Nat} (a : k < h) (b : d < h - 1) : ∃ o : Nat, o < h ∧ o ≠ k ∧ ((k : Int) + 1 + (d : Int)) % (h : Int) = (o : Int) := by
  have e : ((k : Int) + 1 + (d : Int)) % (h : Int) = (((k + 1 + d) % h : Nat) : Int) := by
    rw [Int.natCast_emod]
    rfl
  refine ⟨(k + 1 + d) % h, Nat.mod_lt _ (by omega), ?_, e⟩
  rcases Nat.lt_or_ge (k + 1 + d) h with lt | ge
  · rw [Nat.mod_eq_of_lt lt]
    omega
  · rw [Nat.mod_eq_sub_mod ge, Nat.mod_eq_of_lt (by omega)]
    omega
theorem day_off {H H' : Hp} {p r o : Addr} {evs : List Ev} (f : Off p r H H') (P : PoolAt H p r) (n : o ≠ p ∧ o ≠ r) (d : DayAt true H o evs) : DayAt true H' o evs :=
  let ⟨vs, h1, h2⟩ := d
  ⟨vs, f _ _ h1 n.1 n.2, Paired.mono (fun _ _ ⟨a, e1, e2⟩ => ⟨a, e1, off_tup f P e2⟩) h2⟩
/-- a day as the law draws it -/
structure LawDay (evs : List Ev) : Prop where
  ok : ∀ e ∈ evs, EvOk e
  len : evs.length ≤ 12
  few : (evs.filter Ev.isMeet).length ≤ 6
section
variable {P : Program} {w : World} {K : PySem.W.Frag} {mg : Str → Option Value} {base : Heap}
theorem scDay : FnScope ["_law_pool_here", "_law_hands", "_law_low", "_law_most", "_law_meets", "_law_events", "_law_turn", "_law_hand", "_law_other"] ["_law_pool_here"] (defScope sDay) := ⟨rfl, rfl, rfl, by decide +kernel, rfl, by decide +kernel, by decide +kernel⟩
def spDay : Sp := fun vs H Q _ => ∃ (p r : Addr), vs = [.ref p] ∧ PoolAt H p r ∧ ∀ H' o evs, Off p r H H' → PoolAt H' p r → o ≠ p ∧ o ≠ r → DayAt true H' o evs → LawDay evs → Q (.ref o) H'
theorem Off.free {p r o : Addr} {H H' : Hp} (f : Off p r H H') (ap : o ≠ p ∧ o ≠ r) (n : H' o = none) : H o = none := by
  cases e : H o with
  | none => rfl
  | some x => rw [f _ _ e ap.1 ap.2] at n; cases n
theorem Off.into {p r o : Addr} {H H' : Hp} {x : HO} (f : Off p r H H') (n : H o = none) : Off p r H (upd H' o x) := fun b y h h1 h2 => by
  rw [upd_ne (ne_of_none h n)]
  exact f b y h h1 h2
/-- the word of the loop over the events -/
structure DayInv (H0 : Hp) (p r o : Addr) (hands low most i : Nat) (σ : L2.St) (H : Hp) : Prop where
  off : Off p r H0 H
  pool : PoolAt H p r
  rest : ∃ evs nm y6 y7 y8, σ = [some (V.ref p), some (V.int (hands : Int)), some (V.int (low : Int)), some (V.int (most : Int)), some (V.int ((nm : Nat) : Int)), some (V.ref o), y6, y7, y8] ∧
    nm = (evs.filter Ev.isMeet).length ∧ nm ≤ most ∧ DayAt true H o evs ∧ (∀ e ∈ evs, EvOk e) ∧ evs.length ≤ i
theorem day_grow {H0 H9 : Hp} {p r o t : Addr} {hands low most i nm nm' : Nat} {evs : List Ev} {vs : List V} {e : Ev} (hv : H9 o = some (.lst vs)) (pe : Paired (EvAt H9) vs evs) (off : Off p r H0 H9) (n0 : H0 o = none) (P9 : PoolAt H9 p r) (ap : o ≠ p ∧ o ≠ r)
    (ok : ∀ e ∈ evs, EvOk e) (oke : EvOk e) (len : evs.length ≤ i) (nt : H9 t = none) (cnt : nm = (evs.filter Ev.isMeet).length) (en : nm' = nm + (if e.isMeet = true then 1 else 0)) (fw : nm' ≤ most) (y6 y7 y8 : Option V) :
    DayInv H0 p r o hands low most (i + 1) [some (V.ref p), some (V.int (hands : Int)), some (V.int (low : Int)), some (V.int (most : Int)), some (V.int (nm' : Int)), some (V.ref o), y6, y7, y8] (upd (upd H9 t (.tup (evV e))) o (.lst (vs ++ [.ref t]))) := by
  have st := same_new (o := .tup (evV e)) nt
  have hv2 := st _ _ hv
  refine ⟨(off.trans (Same.off st)).into n0, (P9.mono st).upd ap, evs ++ [e], nm', y6, y7, y8, rfl, ?_, fw, ⟨vs ++ [.ref t], upd_same, ?_⟩, fun e' h => ?_, by rw [List.length_append, List.length_singleton]; omega⟩
  · rw [en, cnt, List.filter_append, List.length_append]
    congr 1
    cases e <;> rfl
  · exact Paired.snoc (Paired.mono (fun v e' z => keep_off hv2 (EvAt.mono st z)) pe) (keep_off hv2 ⟨t, rfl, upd_same⟩)
  · rcases List.mem_append.mp h with h | h
    · exact ok e' h
    · rw [List.mem_singleton.mp h]
      exact oke
theorem ok_day {f g : Addr} {fd gd : FuncData} (F : Fun K "_law_day" "_law_day" sDay f fd) (G : FnOk P w K mg base CX0 1 g gd ["_law_pool_here", "_law_many"] spDraw) (kG : PySem.W.keepIn K (.ref g) = true) (bG : Binds K gd ["_law_pool_here", "_law_many"] [])
    (mG : mg "_law_draw" = some (.ref g)) (T : Txt mg) : FnOk P w K mg base CX0 2 f fd ["_law_pool_here"] spDay := by
  refine F.ok scDay (fun vs H Q E h => ?_) (fun cdv A outer s H vs Q E hr h => ?_)
  · obtain ⟨p, r, rfl, _⟩ := h
    rfl
  · obtain ⟨p, r, rfl, pool, q⟩ := h
    have nd := scDay.nd
    refine ⟨_, pss_cons (ps_set (i := 1) nd rfl (.inl rfl) (pe_op op_add pe_int (pe_call G hr (by rfl) mG kG bG .nil pass0 (pa_cons (pv 0) (pa_cons pe_int pa_nil)))))
      (pss_cons (ps_set (i := 2) nd rfl (.inl rfl) (pe_call G hr (by rfl) mG kG bG .nil pass0 (pa_cons (pv 0) (pa_cons (pe_op op_sub pe_int (pv 1)) pa_nil))))
      (pss_cons (ps_set (i := 3) nd rfl (.inl rfl) pe_int)
      (C8.pss_cut (ps_if (pt_cmpR op_eq (pe_call G hr (by rfl) mG kG bG .nil pass0 (pa_cons (pv 0) (pa_cons pe_int pa_nil))) pe_int (nomark _)) (pss_one (ps_set (i := 3) nd rfl (.inl rfl) pe_int)) pss_nil)
      (pss_cons (ps_set (i := 4) nd rfl (.inl rfl) pe_int)
      (pss_cons (ps_set (i := 5) nd rfl (.inl rfl) (pe_lst pa_nil))
      (pss_cons (ps_for PassesOwn.never rfl (pi_range1 (by rfl) T.range (pa_cons (pe_call G hr (by rfl) mG kG bG .nil pass0 (pa_cons (pv 0) (pa_cons pe_int pa_nil))) pa_nil)) (pg_name (i := 6) nd rfl (Or.inl rfl))
        (pss_cons (ps_set (i := 7) nd rfl (.inl rfl) (pe_call G hr (by rfl) mG kG bG .nil pass0 (pa_cons (pv 0) (pa_cons (pv 1) pa_nil))))
        (pss_one (ps_if (PW.pt (pw_and (pt_cmpR op_eq (pe_call G hr (by rfl) mG kG bG .nil pass0 (pa_cons (pv 0) (pa_cons pe_int pa_nil))) pe_int (nomark _)) (pw_and1 (pt_cmpR op_lt (pv 4) (pv 3) (nomark _)))))
          (pss_cons (ps_aug (i := 4) nd rfl (.inl rfl) pe_int ip_add)
          (pss_cons (ps_set (i := 8) nd rfl (.inl rfl) (pe_op op_mod (pe_callTy call_int1 (by rfl) T.int boot_int' (pa_cons (pe_op op_add (pe_op op_add (pv 7) pe_int) (pe_call G hr (by rfl) mG kG bG .nil pass0 (pa_cons (pv 0) (pa_cons (pe_op op_sub (pv 1) pe_int) pa_nil)))) pa_nil)) (pv 1)))
          (pss_one (ps_expr (pe_bm PySem.F.plainAttrs_list PySem.F.slot_list_append PySem.F.type_list_append mt_append (pv 5) (pa_cons (pe_tup (pa_cons pe_str (pa_cons (pe_op op_add (pv 2) (pv 7)) (pa_cons (pe_op op_add (pv 2) (pv 8)) pa_nil)))) pa_nil))))))
          (pss_one (ps_expr (pe_bm PySem.F.plainAttrs_list PySem.F.slot_list_append PySem.F.type_list_append mt_append (pv 5) (pa_cons (pe_tup (pa_cons pe_str (pa_cons (pe_op op_add (pv 2) (pv 7)) pa_nil))) pa_nil))))))))
      (pss_one (ps_ret (pv 5))))))))), ?_⟩
    -- hands
    refine ⟨_, rfl, p, r, 4, rfl, pool, by decide, by decide, fun H1 v1 lt1 o1 P1 => ?_⟩
    refine ⟨2, (v1 : Int), rfl, rfl, ?_⟩
    obtain ⟨hands, eh⟩ : ∃ hands : Nat, hands = 2 + v1 := ⟨_, rfl⟩
    have eh2 : (2 : Int) + (v1 : Int) = (hands : Int) := by omega
    show tSeq _ _ _ (List.set _ _ (some (V.int ((2 : Int) + (v1 : Int))))) H1
    rw [eh2]
    -- low
    refine ⟨_, rfl, _, rfl, 17, (hands : Int), rfl, rfl, p, r, 17 - hands, by rw [show ((17 - hands : Nat) : Int) = 17 - (hands : Int) by omega]; rfl, P1, by omega, by omega, fun H2 low lt2 o2 P2 => ?_⟩
    -- most
    refine ⟨fun σ' H' => Off p r H H' ∧ PoolAt H' p r ∧ ∃ most : Nat, most ≤ 6 ∧ σ' = [some (V.ref p), some (V.int (hands : Int)), some (V.int (low : Int)), some (V.int (most : Int)), none, none, none, none, none], ?_, ?_⟩
    · refine ⟨_, rfl, p, r, 12, rfl, P2, by decide, by decide, fun H3 v3 lt3 o3 P3 => ⟨rfl, _, rfl, ?_⟩⟩
      have off3 := (o1.trans o2).trans o3
      by_cases z : V.int (v3 : Int) = V.int 0
      · exact ifYes z ⟨off3, P3, 6, by decide, rfl⟩
      · exact ifNo z ⟨off3, P3, 4, by decide, rfl⟩
    · rintro σ' H3 ⟨off3, P3, most, m6, rfl⟩
      refine ⟨Nat.zero_le _, fun o no => ?_⟩
      have ap := P3.apart no
      have s4 := same_new (o := .lst []) no
      refine ⟨_, rfl, p, r, 13, rfl, P3.mono s4, by decide, by decide, fun H5 n5 lt5 o5 P5 => ?_⟩
      have off5 := (off3.trans (Same.off s4)).trans o5
      have ho5 : H5 o = some (.lst []) := o5 _ _ upd_same ap.1 ap.2
      refine ⟨_, rfl, by omega, by omega, ?_⟩
      have en : ((n5 : Int)).toNat = n5 := by omega
      rw [en]
      have n0 : H o = none := off3.free ap no
      refine for_it (walk_range (lo := 0) (n := n5)) (fun i σ' H' => DayInv H p r o hands low most i σ' H') ⟨off5, P5, [], 0, _, _, _, rfl, rfl, Nat.zero_le _, ⟨[], ho5, .nil⟩, fun e he => (nomatch he), Nat.le_refl _⟩ (fun _ _ _ _ _ => trivial) ?_ ?_
      · rintro i x σ' H6 H6' hi ⟨off6, P6, evs, nm, y6, y7, y8, rfl, cnt, few6, day6, ok6, len6⟩ ⟨rfl, _⟩
        refine ⟨_, rfl, _, rfl, p, r, hands, rfl, P6, by omega, by omega, fun H7 hand lt7 o7 P7 => ?_⟩
        have day7 := day_off o7 P6 ap day6
        have off7 := off6.trans o7
        refine ⟨_, rfl, p, r, 2, rfl, P7, by decide, by decide, fun H8 v8 lt8 o8 P8 => ⟨rfl, _, rfl, ?_⟩⟩
        have day8 := day_off o8 P7 ap day7
        have off8 := off7.trans o8
        have handOk : low + hand ≤ 15 := by omega
        by_cases z : V.int (v8 : Int) = V.int 0
        · refine ifYes z ⟨_, rfl, _, rfl, (nm : Int), (most : Int), rfl, rfl, _, rfl, ?_⟩
          by_cases lt : (nm : Int) < (most : Int)
          · refine ifYes lt ?_
            refine ⟨_, rfl, (nm : Int), 1, rfl, rfl, ?_⟩
            refine ⟨_, rfl, (hand : Int), 1, rfl, rfl, _, rfl, _, rfl, (hands : Int), 1, rfl, rfl, p, r, hands - 1, by rw [show ((hands - 1 : Nat) : Int) = (hands : Int) - 1 by omega]; rfl, P8, by omega, by omega, fun H9 d9 lt9 o9 P9 => ?_⟩
            have day9 := day_off o9 P8 ap day8
            have off9 := off8.trans o9
            obtain ⟨other, l1, l2, l3⟩ := other_hand lt7 lt9
            refine ⟨(hand : Int) + 1, (d9 : Int), rfl, rfl, .inl ⟨_, rfl, _, rfl, _, (hands : Int), rfl, rfl, (by show (0 : Int) < (hands : Int); omega), ?_⟩⟩
            show gName 8 (V.int (((hand : Int) + 1 + (d9 : Int)) % (hands : Int))) _ H9 _
            rw [l3]
            obtain ⟨vs, hv, pe⟩ := id day9
            have lv : vs.length = evs.length := pe.length
            refine ⟨_, rfl, .inl ⟨rfl, _, .inl (.inl hv)⟩, _, rfl, _, rfl, (low : Int), (hand : Int), rfl, rfl, _, rfl, _, rfl, (low : Int), (other : Int), rfl, rfl, (by show 3 ≤ sizeLine; decide), fun t nt => ?_⟩
            have st := same_new (o := .tup (evV (.meet (low + hand) (low + other)))) nt
            refine ⟨o, vs, .ref t, rfl, rfl, st _ _ hv, small1000 (by omega), ?_⟩
            exact day_grow (e := .meet (low + hand) (low + other)) (nm' := nm + 1) hv pe off9 n0 P9 ap ok6 ⟨handOk, by omega, by omega⟩ len6 nt cnt rfl (by omega) _ _ _
          · refine ifNo lt ?put1
            obtain ⟨vs, hv, pe⟩ := id day8
            have lv : vs.length = evs.length := pe.length
            refine ⟨_, rfl, .inl ⟨rfl, _, .inl (.inl hv)⟩, _, rfl, _, rfl, (low : Int), (hand : Int), rfl, rfl, (by show 2 ≤ sizeLine; decide), fun t nt => ?_⟩
            have st := same_new (o := .tup (evV (.put (low + hand)))) nt
            refine ⟨o, vs, .ref t, rfl, rfl, st _ _ hv, small1000 (by omega), ?_⟩
            exact day_grow (e := .put (low + hand)) (nm' := nm) hv pe off8 n0 P8 ap ok6 handOk len6 nt cnt rfl few6 _ _ _
        · refine ifNo z (iteF ?_)
          obtain ⟨vs, hv, pe⟩ := id day8
          have lv : vs.length = evs.length := pe.length
          refine ⟨_, rfl, .inl ⟨rfl, _, .inl (.inl hv)⟩, _, rfl, _, rfl, (low : Int), (hand : Int), rfl, rfl, (by show 2 ≤ sizeLine; decide), fun t nt => ?_⟩
          have st := same_new (o := .tup (evV (.put (low + hand)))) nt
          refine ⟨o, vs, .ref t, rfl, rfl, st _ _ hv, small1000 (by omega), ?_⟩
          exact day_grow (e := .put (low + hand)) (nm' := nm) hv pe off8 n0 P8 ap ok6 handOk len6 nt cnt rfl few6 _ _ _
      · rintro σ' H6 ⟨off6, P6, evs, nm, y6, y7, y8, rfl, cnt, few6, day6, ok6, len6⟩
        exact ⟨_, rfl, q H6 o evs off6 P6 ap day6 ⟨ok6, by omega, by omega⟩⟩
end
end Pb

set_option Elab.async false
set_option linter.all false
set_option maxRecDepth 100000
namespace Pb
open PySem PySem.Spec PyProof.Rows L2
section
variable {P : Program} {w : World} {K : PySem.W.Frag} {mg : Str → Option Value} {base : Heap}

/-! ### _law_is_row -/
theorem scIsRow : FnScope ["_law_actual", "_law_due", "_law_k"] ["_law_actual", "_law_due"] (defScope sIsRow) := ⟨rfl, rfl, rfl, by decide +kernel, rfl, by decide +kernel, by decide +kernel⟩
def spIsRow : Sp := fun vs H Q _ => ∃ (u v : V) (r : List Nat), vs = [u, v] ∧ RowAt H u r ∧ RowAt H v r ∧ r.length ≤ 1000 ∧ Q (.bl true) H
theorem ok_isRow {f : Addr} {fd : FuncData} {k : Nat} (F : Fun K "_law_is_row" "_law_is_row" sIsRow f fd) (T : Txt mg) : FnOk P w K mg base CX0 (k + 1) f fd ["_law_actual", "_law_due"] spIsRow := by
  refine F.ok scIsRow (fun vs H Q E h => ?_) (fun cdv A outer s H vs Q E hr h => ?_)
  · obtain ⟨u, v, r, rfl, _⟩ := h
    rfl
  · obtain ⟨u, v, r, rfl, ⟨a, rfl, ha⟩, ⟨b, rfl, hb⟩, len, q⟩ := h
    refine ⟨_, pss_cons (ps_if (PW.pt (pw_or (pt_not (pt_val (pe_callB call_isi (by rfl) T.isinstance boot_isinstance' (pa_cons (pv 0) (pa_cons (pe_ty (by rfl) T.tuple boot_tuple') pa_nil)))))
        (pw_or1 (pt_cmpR op_ne (pe_callB call_len_seq (by rfl) T.len PySem.boot_len (pa_cons (pv 0) pa_nil)) (pe_callB call_len_seq (by rfl) T.len PySem.boot_len (pa_cons (pv 1) pa_nil)) (nomark _))))) (pss_one (ps_ret pe_bl)) pss_nil)
      (pss_cons (ps_for PassesOwn.never rfl (pi_range1 (by rfl) T.range (pa_cons (pe_callB call_len_seq (by rfl) T.len PySem.boot_len (pa_cons (pv 1) pa_nil)) pa_nil)) (pg_name (i := 2) scIsRow.nd rfl (Or.inl rfl))
        (pss_one (ps_if (PW.pt (pw_or (pt_not (pt_val (pe_callB call_isi (by rfl) T.isinstance boot_isinstance' (pa_cons (pe_ix ix_tup (pv 0) (pv 2) (fun _ _ => rfl)) (pa_cons (pe_ty (by rfl) T.int boot_int') pa_nil)))))
          (pw_or (pt_val (pe_callB call_isi (by rfl) T.isinstance boot_isinstance' (pa_cons (pe_ix ix_tup (pv 0) (pv 2) (fun _ _ => rfl)) (pa_cons (pe_ty (by rfl) T.bool boot_bool') pa_nil))))
          (pw_or1 (pt_cmpR op_ne (pe_ix ix_tup (pv 0) (pv 2) (fun _ _ => rfl)) (pe_ix ix_tup (pv 1) (pv 2) (fun _ _ => rfl)) (nomark _)))))) (pss_one (ps_ret pe_bl)) pss_nil)))
      (pss_one (ps_ret pe_bl))), ?_⟩
    have qa : SqT K H a (rowV r) := .inl (.inl ha)
    have qb : SqT K H b (rowV r) := .inl (.inl hb)
    refine ⟨_, rfl, _, _, _, _, true, rfl, .ty _, .base (.tup ha), is_tuple, true, rfl, iteF ?_⟩
    refine ⟨_, rfl, a, _, rfl, .inr qa, _, rfl, b, _, rfl, .inr qb, rfl, _, rfl, iteNS rfl ?_⟩
    refine ⟨_, rfl, b, _, rfl, .inr qb, _, rfl, by omega, by rw [rowV_len]; omega, ?_⟩
    have en : (((rowV r).length : Int)).toNat = r.length := by rw [rowV_len]; omega
    rw [en]
    refine for_it (walk_range (lo := 0) (n := r.length)) (fun i σ' H' => H' = H ∧ ∃ y2, σ' = [some (V.ref a), some (V.ref b), y2]) ⟨rfl, _, rfl⟩ (fun _ _ _ _ _ => trivial) ?_ ?_
    · rintro i x σ' H1 H2 hi ⟨rfl, y2, rfl⟩ ⟨rfl, hx⟩
      have hx2 : x = V.int (i : Int) := hx.trans (congrArg V.int (Int.zero_add _))
      subst hx2
      have at_i : (rowV r)[i]? = some (.int ((r[i] : Nat) : Int)) := by
        unfold rowV
        rw [List.getElem?_map, List.getElem?_eq_getElem hi]
        rfl
      refine ⟨_, rfl, _, rfl, a, _, (i : Int), _, rfl, rfl, qa, atI_nat at_i, _, _, _, _, true, rfl, .ty _, .base (.int _), is_int, true, rfl, iteF ?_⟩
      refine ⟨_, rfl, _, rfl, a, _, (i : Int), _, rfl, rfl, qa, atI_nat at_i, _, _, _, _, false, rfl, .ty _, .base (.int _), is_int_bool, false, rfl, iteF ?_⟩
      exact ⟨_, rfl, _, rfl, a, _, (i : Int), _, rfl, rfl, qa, atI_nat at_i, _, rfl, _, rfl, b, _, (i : Int), _, rfl, rfl, qb, atI_nat at_i, rfl, _, rfl, iteNS rfl ⟨rfl, _, rfl⟩⟩
    · rintro σ' H1 ⟨rfl, _⟩
      exact q

/-! ### _law_without -/
theorem scLWithout : FnScope ["_law_events", "_law_left", "_law_k"] ["_law_events", "_law_left"] (defScope sLWithout) := ⟨rfl, rfl, rfl, by decide +kernel, rfl, by decide +kernel, by decide +kernel⟩
def spLWithout : Sp := fun vs H Q _ => ∃ (a : Addr) (evs : List Ev) (v : V) (left : List Nat), vs = [.ref a, v] ∧ DayAt true H a evs ∧ evs.length ≤ 12 ∧ RowAt H v left ∧
  ∀ H' o, Same H H' → DayAt true H' o (withoutE evs left) → Q (.ref o) H'
theorem ok_lwithout {f : Addr} {fd : FuncData} {k : Nat} (F : Fun K "_law_without" "_law_without" sLWithout f fd) (T : Txt mg) : FnOk P w K mg base CX0 (k + 1) f fd ["_law_events", "_law_left"] spLWithout := by
  refine F.ok scLWithout (fun vs H Q E h => ?_) (fun cdv A outer s H vs Q E hr h => ?_)
  · obtain ⟨a, evs, v, left, rfl, _⟩ := h
    rfl
  · obtain ⟨a, evs, v, left, rfl, ⟨es, ha, pr⟩, few, ⟨c, rfl, hc⟩, q⟩ := h
    have ha' : H a = some (.lst es) := ha
    refine ⟨_, pss_one (ps_ret (pe_lc (own := [("_law_k", 2)]) (g := gName 2) rfl scLWithout.nd (pi_range1 (by rfl) T.range (pa_cons (pe_callB call_len_seq (by rfl) T.len PySem.boot_len (pa_cons (pv 0) pa_nil)) pa_nil))
      (blkOk_by (N := ["_law_events", "_law_left", "_law_k"]) (sc := defScope sLWithout) (by decide +kernel)) (fun _ _ _ _ _ => pg_name (i := 2) scLWithout.nd rfl (Or.inl rfl))
      (fun _ _ _ _ _ => pts_one (pt_cmpR (r := rIn K true) op_notIn_seq (pv 2) (pv 1) rfl)) (fun _ _ _ _ _ => pe_ix (r := rIxL K) ix_list (pv 0) (pv 2) (fun _ _ => rfl)))), ?_⟩
    have le : es.length = evs.length := pr.length
    refine ⟨_, rfl, a, es, rfl, .inl (.inl (.inl ha')), _, rfl, by omega, by omega, fun D nD => ?_⟩
    have en : ((es.length : Int)).toNat = evs.length := by omega
    rw [en]
    refine lc_it (walk_range (lo := 0) (n := evs.length)) (fun i H' => Same H H' ∧ ∃ acc, H' D = some (.lst acc) ∧ acc.length ≤ i ∧ Paired (EvAt H') acc (woTake evs left i)) ⟨same_new nD, [], upd_same, Nat.le_refl _, .nil⟩ (fun _ _ _ _ => trivial) ?_ ?_
    · rintro i x H1 H2 hi ⟨sm, acc, hD, hl, pa⟩ ⟨rfl, hx⟩
      have hx2 : x = V.int (i : Int) := hx.trans (congrArg V.int (Int.zero_add _))
      subst hx2
      obtain ⟨z, hz, ev⟩ := paired_get' pr i evs[i] (List.getElem?_eq_getElem hi)
      refine ⟨rfl, _, rfl, _, rfl, c, rowV left, rfl, .inr (.inl (.inl (sm _ _ hc))), rfl, flat_row left, _, rfl, ?_⟩
      have gr := woTake_succ evs left i
      rw [List.getElem?_eq_getElem hi] at gr
      rw [inV_row]
      cases hc2 : left.contains i with
      | true =>
        rw [hc2, if_pos rfl, List.append_nil] at gr
        refine iteF ⟨sm, acc, hD, by omega, ?_⟩
        rw [gr]
        exact pa
      | false =>
        rw [hc2, if_neg Bool.false_ne_true] at gr
        refine iteT ⟨_, rfl, _, rfl, a, es, (i : Int), z, rfl, rfl, .inl (.inl (sm _ _ ha')), atI_nat hz, acc, hD, small1000 (by omega), Same.into sm nD, _, upd_same, by rw [List.length_append, List.length_singleton]; omega, ?_⟩
        rw [gr]
        exact Paired.snoc (Paired.mono (fun _ _ z => keep_off hD z) pa) (keep_off hD (ev.mono sm))
    · rintro H1 ⟨sm, acc, hD, hl, pa⟩
      exact q H1 D sm ⟨acc, hD, pa⟩

/-! ### _law_choices -/
theorem scLChoices : FnScope ["_law_events", "_law_found", "_law_k", "_law_row"] ["_law_events"] (defScope sLChoices) := ⟨rfl, rfl, rfl, by decide +kernel, rfl, by decide +kernel, by decide +kernel⟩
def spLChoices : Sp := fun vs H Q _ => ∃ (a : Addr) (evs : List Ev), vs = [.ref a] ∧ DayAt true H a evs ∧ evs.length ≤ 12 ∧ (meetsOf evs).length ≤ 6 ∧
  ∀ H' o ws, Same H H' → H o = none → H' o = some (.lst ws) → Paired (RowAt H') ws (waysOf evs) → Q (.ref o) H'
theorem ways_few {evs : List Ev} (h : (meetsOf evs).length ≤ 6) (i : Nat) : (waTake evs i).length ≤ 64 := by
  rw [waTake_len, meTake_len]
  have a := ((List.take_sublist i evs).filter Ev.isMeet).length_le
  rw [meetsOf_len] at h
  exact Nat.le_trans (Nat.pow_le_pow_right (by decide) (Nat.le_trans a h)) (by decide)
theorem row_few {evs : List Ev} {i : Nat} {r : List Nat} (h : r ∈ waTake evs i) : r.length ≤ i := by
  obtain ⟨a, b⟩ := mem_waTake.mp h
  exact asc_len a fun x hx => meTake_lt (b x hx)
theorem ok_lchoices {f : Addr} {fd : FuncData} {k : Nat} (F : Fun K "_law_choices" "_law_choices" sLChoices f fd) (T : Txt mg) : FnOk P w K mg base CX0 (k + 1) f fd ["_law_events"] spLChoices := by
  refine F.ok scLChoices (fun vs H Q E h => ?_) (fun cdv A outer s H vs Q E hr h => ?_)
  · obtain ⟨a, evs, rfl, _⟩ := h
    rfl
  · obtain ⟨a, evs, rfl, ⟨es, ha, pr⟩, few, m6, q⟩ := h
    have ha' : H a = some (.lst es) := ha
    have nd := scLChoices.nd
    refine ⟨_, pss_cons (ps_set (i := 1) nd rfl (.inl rfl) (pe_lst (pa_cons (pe_tup pa_nil) pa_nil)))
      (pss_cons (ps_for PassesOwn.never rfl (pi_range1 (by rfl) T.range (pa_cons (pe_callB call_len_seq (by rfl) T.len PySem.boot_len (pa_cons (pv 0) pa_nil)) pa_nil)) (pg_name (i := 2) nd rfl (Or.inr rfl))
        (pss_one (ps_if (pt_cmpR op_eq (pe_ix ix_tup (pe_ix ix_list (pv 0) (pv 2) (fun _ _ => rfl)) pe_int (fun _ _ => rfl)) pe_str (nomark _))
          (pss_one (ps_set (i := 1) nd rfl (.inl rfl) (pe_op op_cat (pv 1) (pe_lc (own := [("_law_row", 3)]) (g := gName 3) (tt := tYes) rfl nd (pi_list (pv 1))
            (blkOk_by (N := ["_law_events", "_law_found", "_law_k", "_law_row"]) (sc := defScope sLChoices) (by decide +kernel)) (fun _ _ _ _ _ => pg_name (i := 3) nd rfl (Or.inl rfl)) (fun _ _ _ _ _ => pts_nil)
            (fun _ _ _ _ _ => pe_op (r := rCatA K) op_catA (pv 3) (pe_tup (pa_cons (pv 2) pa_nil))))))) pss_nil)))
      (pss_one (ps_ret (pv 1)))), ?_⟩
    refine ⟨Nat.zero_le _, fun e ne => ⟨(by show 1 ≤ sizeLine; decide), fun o no => ?_⟩⟩
    have s0 : Same H (upd (upd H e (.tup [])) o (.lst [.ref e])) := (same_new ne).trans (same_new no)
    have no0 : H o = none := (same_new (o := .tup []) ne).free no
    have le : es.length = evs.length := pr.length
    refine ⟨_, rfl, a, es, rfl, .inl (.inl (.inl (s0 _ _ ha'))), _, rfl, by omega, by omega, ?_⟩
    have en : ((es.length : Int)).toNat = evs.length := by omega
    rw [en]
    refine for_it (walk_range (lo := 0) (n := evs.length)) (fun i σ' H' => Same H H' ∧ ∃ o' ws y2 y3, σ' = [some (V.ref a), some (V.ref o'), y2, y3] ∧ H o' = none ∧ H' o' = some (.lst ws) ∧ Paired (RowAt H') ws (waTake evs i))
      ⟨s0, o, _, _, _, rfl, no0, upd_same, .cons ⟨e, rfl, by rw [upd_ne (ne_of_none upd_same no)]; exact upd_same⟩ .nil⟩ (fun _ _ _ _ _ => trivial) ?_ ?_
    · rintro i x σ' H1 H2 hi ⟨s1, o', ws, y2, y3, rfl, n0, ho, pw⟩ ⟨rfl, hx⟩
      have hx2 : x = V.int (i : Int) := hx.trans (congrArg V.int (Int.zero_add _))
      subst hx2
      obtain ⟨z, hz, ev⟩ := paired_get' pr i evs[i] (List.getElem?_eq_getElem hi)
      obtain ⟨ea, rfl, hea⟩ := ev.mono s1
      have lw : ws.length = (waTake evs i).length := pw.length
      have w64 := ways_few m6 i
      have atm : meetAt evs i = (evs[i]).isMeet := by
        unfold meetAt
        rw [List.getElem?_eq_getElem hi]
      have step : waTake evs (i + 1) = if (evs[i]).isMeet = true then waTake evs i ++ (waTake evs i).map (fun r => r ++ [i]) else waTake evs i := by
        show (if meetAt evs i = true then _ else _) = _
        rw [atm]
      generalize evs[i] = e1 at hea step atm
      refine ⟨_, rfl, _, rfl, a, es, (i : Int), .ref ea, rfl, rfl, .inl (.inl (s1 _ _ ha')), atI_nat hz, ?_⟩
      cases e1 with
      | put h =>
        refine ⟨ea, _, 0, .str "put", rfl, rfl, .inl (.inl hea), atI_nat (j := 0) rfl, str_scal, _, rfl, ifNo (by decide +kernel) ⟨s1, o', ws, _, _, rfl, n0, ho, ?_⟩⟩
        rw [step]
        exact pw
      | meet x y =>
        refine ⟨ea, _, 0, .str "meet", rfl, rfl, .inl (.inl hea), atI_nat (j := 0) rfl, str_scal, _, rfl, ifYes rfl ?_⟩
        refine ⟨_, rfl, _, rfl, o', rfl, ⟨ws, .inl (.inl ho)⟩, fun D nD => ?_⟩
        refine lc_it (walk_list (xs := ws)) (fun j H' => Same H2 H' ∧ ∃ acc, H' D = some (.lst acc) ∧ Paired (RowAt H') acc (((waTake evs i).take j).map fun r => r ++ [i])) ⟨same_new nD, [], upd_same, .nil⟩ (fun j H' _ c => .inl (.inl (c.1 _ _ ho))) ?_ ?_
        · rintro j v H3 H4 hj ⟨s3, acc, hD, pa⟩ ⟨rfl, hv⟩
          obtain ⟨r, hr', rat⟩ := paired_get pw j v hv
          have rl := row_few (List.mem_of_getElem? hr')
          have la : acc.length ≤ 64 := by
            rw [pa.length, List.length_map, List.length_take]
            omega
          refine ⟨rfl, _, rfl, _, rfl, (by show 1 ≤ sizeLine; decide), fun t nt => ?_⟩
          have st := same_new (o := .tup [.int (i : Int)]) nt
          refine catA_row (r := r) (s := [i]) ((rat.mono s3).mono st) ⟨t, rfl, upd_same⟩ (by rw [List.length_singleton]; omega) fun y H5 s5 hy => ?_
          have s45 := st.trans s5
          refine ⟨acc, s45 _ _ hD, small1000 (by omega), Same.into (s3.trans s45) nD, _, upd_same, ?_⟩
          rw [← take_snoc (fun r : List Nat => r ++ [i]) hr']
          exact Paired.snoc (Paired.mono (fun _ _ z => keep_row (s45 _ _ hD) (RowAt.mono s45 z)) pa) (keep_row (s45 _ _ hD) hy)
        · rintro H3 ⟨s3, acc, hD, pa⟩
          rw [lw, List.take_length] at pa
          have la : acc.length ≤ 64 := by
            rw [pa.length, List.length_map]
            omega
          refine ⟨o', D, ws, acc, rfl, rfl, s3 _ _ ho, hD, small64 (by omega), fun p np => ?_⟩
          have sp := same_new (o := .lst (ws ++ acc)) np
          refine ⟨(s1.trans s3).trans sp, p, ws ++ acc, _, _, rfl, (s1.trans s3).free np, upd_same, ?_⟩
          rw [step]
          have pp : ∀ {u1 u2 : List V} {l1 l2 : List (List Nat)} {G : Hp}, Paired (RowAt G) u1 l1 → Paired (RowAt G) u2 l2 → Paired (RowAt G) (u1 ++ u2) (l1 ++ l2) := by
            intro u1 u2 l1 l2 G h1 h2
            induction h1 with
            | nil => exact h2
            | cons a b ih => exact .cons a ih
          exact pp (paired_mono_row (Same.trans s3 sp) pw) (paired_mono_row sp pa)
    · rintro σ' H1 ⟨s1, o', ws, y2, y3, rfl, n0, ho, pw⟩
      exact ⟨_, rfl, q H1 o' ws s1 n0 ho pw⟩
end
end Pb

set_option Elab.async false
set_option linter.all false
set_option maxRecDepth 100000
namespace Pb
open PySem PySem.Spec PyProof.Rows L2
/-- a list of ints, neither of the two that change -/
def LRow (H : Hp) (k e : Addr) (v : V) (r : List Nat) : Prop := ∃ a, v = .ref a ∧ H a = some (.lst (rowV r)) ∧ a ≠ k ∧ a ≠ e
/-- the word of the loop over the events -/
structure ChInv (H0 : Hp) (a k e : Addr) (st : Pl) (σ : L2.St) (H : Hp) : Prop where
  same : Same H0 H
  slots : ∃ y3 y4 y5 y6, σ = [some (V.ref a), some (V.ref k), some (V.ref e), y3, y4, y5, y6]
  ends : H e = some (.lst ((endsOf st.rows).map V.int))
  known : ∃ ks, H k = some (.lst ks) ∧ ks.length = 16 ∧ ∀ h, h < 16 → ∃ v, ks[h]? = some v ∧ LRow H k e v (st.known h)
theorem LRow.mono {H H' : Hp} {k e : Addr} {v : V} {r : List Nat} (s : Same H H') (h : LRow H k e v r) : LRow H' k e v r :=
  let ⟨a, x, y, z⟩ := h
  ⟨a, x, s _ _ y, z⟩
theorem LRow.updk {H : Hp} {k e : Addr} {v : V} {r : List Nat} {o : HO} (h : LRow H k e v r) : LRow (upd H k o) k e v r :=
  let ⟨a, x, y, z⟩ := h
  ⟨a, x, by rw [upd_ne z.1]; exact y, z⟩
theorem LRow.upde {H : Hp} {k e : Addr} {v : V} {r : List Nat} {o : HO} (h : LRow H k e v r) : LRow (upd H e o) k e v r :=
  let ⟨a, x, y, z⟩ := h
  ⟨a, x, by rw [upd_ne z.2]; exact y, z⟩
theorem ix16 {x : Nat} (h : x ≤ 15) {n : Nat} (hn : n = 16) : ixN n (x : Int) = some x := by
  subst hn
  unfold ixN
  rw [if_pos (by omega), if_pos (by omega)]
  simp
theorem set_at {ks : List V} {x h : Nat} {v : V} (hx : x < ks.length) : (ks.set x v)[h]? = if h = x then some v else ks[h]? := by
  by_cases e : h = x
  · subst e
    rw [if_pos rfl, List.getElem?_set_self hx]
  · rw [if_neg e, List.getElem?_set_ne (fun z => e z.symm)]
section
variable {P : Program} {w : World} {K : PySem.W.Frag} {mg : Str → Option Value} {base : Heap}
theorem scLChains : FnScope ["_law_events", "_law_known", "_law_ends", "_law_event", "_law_both", "_law_hand", "_law_item"] ["_law_events"] (defScope sLChains) := ⟨rfl, rfl, rfl, by decide +kernel, rfl, by decide +kernel, by decide +kernel⟩
def spLChains : Sp := fun vs H Q _ => ∃ (a : Addr) (evs : List Ev), vs = [.ref a] ∧ DayAt true H a evs ∧ (∀ e ∈ evs, EvOk e) ∧ evs.length ≤ 12 ∧ ∀ H', Same H H' → Q (.int (chainsOf evs)) H'
theorem ok_lchains {f : Addr} {fd : FuncData} {k : Nat} (F : Fun K "_law_chains" "_law_chains" sLChains f fd) (T : Txt mg) : FnOk P w K mg base CX0 (k + 1) f fd ["_law_events"] spLChains := by
  refine F.ok scLChains (fun vs H Q E h => ?_) (fun cdv A outer s H vs Q E hr h => ?_)
  · obtain ⟨a, evs, rfl, _⟩ := h
    rfl
  · obtain ⟨a, evs, rfl, ⟨es, ha, pr⟩, ok, few, q⟩ := h
    have ha' : H a = some (.lst es) := ha
    have nd := scLChains.nd
    refine ⟨_, pss_cons (ps_setLc (i := 1) (own := [("_law_hand", 5)]) (g := gName 5) (tt := tYes) rfl nd rfl rfl (sw_true rfl rfl rfl (by decide +kernel)) (pi_range1 (by rfl) T.range (pa_cons pe_int pa_nil))
        (blkOk_by (N := ["_law_events", "_law_known", "_law_ends", "_law_event", "_law_both", "_law_hand", "_law_item"]) (sc := defScope sLChains) (by decide +kernel)) (fun _ _ _ _ _ => pg_name (i := 5) nd rfl (Or.inl rfl)) (fun _ _ _ _ _ => pts_nil) (fun _ _ _ _ _ => pe_lst pa_nil))
      (pss_cons (ps_set (i := 2) nd rfl (.inr rfl) (pe_lst pa_nil))
      (pss_cons (ps_for PassesOwn.never rfl (pi_list (pv 0)) (pg_name (i := 3) nd rfl (Or.inl rfl))
        (pss_one (ps_if (pt_cmpR op_eq (pe_ix ix_tup (pv 3) pe_int (fun _ _ => rfl)) pe_str (nomark _))
          (pss_cons (ps_expr (pe_bm PySem.F.plainAttrs_list PySem.F.slot_list_append PySem.F.type_list_append mt_append (pv 2) (pa_cons (pe_op op_add pe_int
            (pe_callB (cr_sum rfl) (by rfl) T.sum PyProof.Rows.boot_sum (pa_cons (pe_lc (own := [("_law_item", 6)]) (g := gName 6) (tt := tYes) rfl nd (pi_list (pe_ix ix_list (pv 1) (pe_ix ix_tup (pv 3) pe_int (fun _ _ => rfl)) (fun _ _ => rfl)))
              (blkOk_by (N := ["_law_events", "_law_known", "_law_ends", "_law_event", "_law_both", "_law_hand", "_law_item"]) (sc := defScope sLChains) (by decide +kernel)) (fun _ _ _ _ _ => pg_name (i := 6) nd rfl (Or.inl rfl)) (fun _ _ _ _ _ => pts_nil)
              (fun _ _ _ _ _ => pe_ix (r := rIxL K) ix_list (pv 2) (pv 6) (fun _ _ => rfl))) pa_nil))) pa_nil)))
          (pss_one (ps_asg (pe_op op_cat (pe_ix ix_list (pv 1) (pe_ix ix_tup (pv 3) pe_int (fun _ _ => rfl)) (fun _ _ => rfl)) (pe_lst (pa_cons (pe_op op_sub (pe_callB call_len_seq (by rfl) T.len PySem.boot_len (pa_cons (pv 2) pa_nil)) pe_int) pa_nil)))
            (pg_sub (pv 1) (pe_ix ix_tup (pv 3) pe_int (fun _ _ => rfl)) set_list))))
          (pss_cons (ps_set (i := 4) nd rfl (.inl rfl) (pe_callB (cr_sortedSet rfl) (by rfl) T.sorted PyProof.Rows.boot_sorted (pa_cons (pe_callTy (cr_setOf rfl) (by rfl) T.set PyProof.Rows.boot_set (pa_cons
            (pe_op op_cat (pe_ix ix_list (pv 1) (pe_ix ix_tup (pv 3) pe_int (fun _ _ => rfl)) (fun _ _ => rfl)) (pe_ix ix_list (pv 1) (pe_ix ix_tup (pv 3) pe_int (fun _ _ => rfl)) (fun _ _ => rfl))) pa_nil)) pa_nil)))
          (pss_cons (ps_asg (pv 4) (pg_sub (pv 1) (pe_ix ix_tup (pv 3) pe_int (fun _ _ => rfl)) set_list))
          (pss_one (ps_asg (pv 4) (pg_sub (pv 1) (pe_ix ix_tup (pv 3) pe_int (fun _ _ => rfl)) set_list))))))))
      (pss_one (ps_ret (pe_callB (cr_sum rfl) (by rfl) T.sum PyProof.Rows.boot_sum (pa_cons (pv 2) pa_nil)))))), ?_⟩
    -- sixteen empty lists
    refine ⟨16, rfl, by decide, by decide, fun D nD => ?_⟩
    refine lc_it (walk_range (lo := 0) (n := 16)) (fun i H' => Same H H' ∧ ∃ ks, H' D = some (.lst ks) ∧ ks.length = i ∧ ∀ h, h < i → ∃ b, ks[h]? = some (V.ref b) ∧ H' b = some (.lst []) ∧ b ≠ D) ⟨same_new nD, [], upd_same, rfl, fun h hh => absurd hh (Nat.not_lt_zero _)⟩ (fun _ _ _ _ => trivial) ?_ ?_
    · rintro i x H1 H2 hi ⟨sm, ks, hD, kl, kn⟩ ⟨rfl, hx⟩
      refine ⟨rfl, Nat.zero_le _, fun b nb => ?_⟩
      have sb := same_new (o := .lst []) nb
      have bD : b ≠ D := (ne_of_none hD nb).symm
      refine ⟨ks, sb _ _ hD, small1000 (by omega), Same.into (sm.trans sb) nD, ks ++ [.ref b], upd_same, by rw [List.length_append, kl]; rfl, fun h hh => ?_⟩
      by_cases e : h = i
      · subst e
        refine ⟨b, by rw [List.getElem?_append_right (by omega), kl]; simp, by rw [upd_ne bD]; exact upd_same, bD⟩
      · obtain ⟨c, c1, c2, c3⟩ := kn h (by omega)
        exact ⟨c, by rw [List.getElem?_append_left (by omega)]; exact c1, by rw [upd_ne c3]; exact sb _ _ c2, c3⟩
    · rintro H1 ⟨s1, ks0, hD, kl0, kn0⟩
      refine ⟨Nat.zero_le _, fun e ne => ?_⟩
      have nE : H e = none := s1.free ne
      have De : D ≠ e := ne_of_none hD ne
      have se := same_new (o := .lst []) ne
      have s2 := s1.trans se
      have le : es.length = evs.length := pr.length
      refine ⟨_, rfl, a, rfl, ⟨es, .inl (.inl (s2 _ _ ha'))⟩, ?_⟩
      refine for_it (walk_list (xs := es)) (fun i σ' H' => ChInv H a D e (plRun (evs.take i)) σ' H') ⟨s2, ⟨_, _, _, _, rfl⟩, upd_same, ks0, se _ _ hD, kl0, fun h hh => ?_⟩ (fun i σ' H' _ c => .inl (.inl (c.same _ _ ha'))) ?_ ?_
      · obtain ⟨b, b1, b2, b3⟩ := kn0 h hh
        exact ⟨_, b1, b, rfl, se _ _ b2, b3, ne_of_none b2 ne⟩
      · rintro i x σ' H3 H4 hi ⟨s3, ⟨y3, y4, y5, y6, rfl⟩, hE, ks, hK, kl, kn⟩ ⟨rfl, hx⟩
        obtain ⟨e1, he, ev⟩ := paired_get pr i x hx
        have oke := ok e1 (List.mem_of_getElem? he)
        obtain ⟨ea, rfl, hea⟩ := ev.mono s3
        have grow : plRun (evs.take (i + 1)) = (plRun (evs.take i)).step e1 := by
          rw [List.take_add_one, he]
          exact plRun_snoc _ _
        have good := plRun_good (evs.take i)
        have rlen : (plRun (evs.take i)).rows.length ≤ i := by
          have h1 := planOf_len (evs.take i)
          rw [List.length_take] at h1
          unfold planOf at h1
          omega
        generalize plRun (evs.take i) = st at hE kn grow good rlen
        rw [grow]
        have i12 : i < 12 := by omega
        have elen : (endsOf st.rows).length = st.rows.length := endsOf_len _
        have klen : ∀ h, (st.known h).length ≤ 12 := fun h => Nat.le_trans (asc_len (good.asc h) (good.low h)) (by omega)
        have sq : ∀ {H'}, Same H4 H' → SqT K H' ea (evV e1) := fun sm => .inl (.inl (sm _ _ hea))
        cases e1 with
        | put x =>
          have x15 : x ≤ 15 := oke
          obtain ⟨v, kv, b, rfl, hb, bD, be⟩ := kn x (by omega)
          refine ⟨_, rfl, ea, _, 0, .str "put", rfl, rfl, sq (Same.refl _), atI_nat (j := 0) rfl, str_scal, _, rfl, ifYes rfl ?_⟩
          refine ⟨_, rfl, .inl ⟨rfl, _, .inl (.inl hE)⟩, ?_⟩
          refine ⟨_, rfl, _, rfl, ea, _, 1, _, rfl, rfl, sq (Same.refl _), atI_nat (j := 1) rfl, D, ks, (x : Int), .ref b, rfl, rfl, .inl (.inl hK), atI_nat kv, b, rfl, ⟨_, .inl (.inl hb)⟩, fun L nL => ?_⟩
          refine lc_it (walk_list (xs := rowV (st.known x))) (fun j H' => Same H4 H' ∧ H' L = some (.lst ((((st.known x).take j).map fun z => (endsOf st.rows).getD z 0).map V.int))) ⟨same_new nL, upd_same⟩ (fun j H' _ c => .inl (.inl (c.1 _ _ hb))) ?_ ?_
          · rintro j y H5 H6 hj ⟨s5, hL⟩ ⟨rfl, hy⟩
            obtain ⟨n, hn, rfl⟩ := rowV_get hy
            have nlt := good.low x n (List.mem_of_getElem? hn)
            have ge : (endsOf st.rows)[n]? = some ((endsOf st.rows).getD n 0) := by
              rw [List.getD_eq_getElem?_getD, List.getElem?_eq_getElem (by omega)]
              rfl
            refine ⟨rfl, ?_⟩
            refine ⟨_, rfl, _, rfl, e, _, _, .int ((endsOf st.rows).getD n 0), rfl, rfl, .inl (.inl (s5 _ _ hE)), atI_nat (j := n) (by rw [List.getElem?_map, ge]; rfl), ?_⟩
            refine ⟨_, hL, ?_, Same.into s5 nL, ?_⟩
            · have := klen x
              rw [List.length_map, List.length_map, List.length_take]
              exact small1000 (by omega)
            · rw [upd_same, ← take_snoc (fun z => (endsOf st.rows).getD z 0) hn, List.map_append]
              rfl
          · rintro H5 ⟨s5, hL⟩
            rw [rowV_len, List.take_length] at hL
            have hE5 := s5 _ _ hE
            refine ⟨L, _, rfl, .inl (.inl hL), 1, _, rfl, rfl, e, _, _, rfl, rfl, hE5, by rw [List.length_map, elen]; exact small1000 (by omega), ?_⟩
            have grow2 : (endsOf st.rows).map V.int ++ [V.int (1 + ((st.known x).map fun z => (endsOf st.rows).getD z 0).sum)] = (endsOf (st.rows ++ [st.known x])).map V.int := by
              rw [endsOf_snoc, List.map_append]
              rfl
            rw [grow2]
            have keep6 : ∀ q o, H4 q = some o → q ≠ e → (upd H5 e (.lst ((endsOf (st.rows ++ [st.known x])).map V.int))) q = some o := fun q o h1 h2 => by
              rw [upd_ne h2]
              exact s5 _ _ h1
            have hK6 := keep6 _ _ hK De
            have hb6 := keep6 _ _ hb be
            have ea6 := keep6 _ _ hea (ne_of hea hE (by intro z; cases z))
            have hE6 : (upd H5 e (.lst ((endsOf (st.rows ++ [st.known x])).map V.int))) e = some (.lst ((endsOf (st.rows ++ [st.known x])).map V.int)) := upd_same
            have s6 : Same H (upd H5 e (.lst ((endsOf (st.rows ++ [st.known x])).map V.int))) := Same.into (Same.trans s3 s5) nE
            have kn6 : ∀ h, h < 16 → ∃ v, ks[h]? = some v ∧ LRow (upd H5 e (.lst ((endsOf (st.rows ++ [st.known x])).map V.int))) D e v (st.known h) := fun h hh => by
              obtain ⟨v, v1, v2⟩ := kn h hh
              exact ⟨v, v1, (v2.mono s5).upde⟩
            generalize upd H5 e (.lst ((endsOf (st.rows ++ [st.known x])).map V.int)) = H6 at hK6 hb6 ea6 hE6 s6 kn6
            -- known[event[1]]
            have sq6 : SqT K H6 ea (evV (.put x)) := .inl (.inl ea6)
            refine ⟨_, rfl, _, rfl, ea, _, 1, _, rfl, rfl, sq6, atI_nat (j := 1) rfl, D, ks, (x : Int), .ref b, rfl, rfl, .inl (.inl hK6), atI_nat kv, ?_⟩
            refine ⟨_, rfl, e, _, rfl, .inl (.inl (.inl hE6)), _, 1, rfl, rfl, (by show 1 ≤ sizeLine; decide), fun t nt => ?_⟩
            have len1 : (((endsOf (st.rows ++ [st.known x])).map V.int).length : Int) - 1 = ((st.rows.length : Nat) : Int) := by
              rw [List.length_map, endsOf_len, List.length_append, List.length_singleton]
              omega
            have st7 := same_new (o := .lst [.int ((((endsOf (st.rows ++ [st.known x])).map V.int).length : Int) - 1)]) nt
            refine ⟨b, t, rowV (st.known x), [.int ((((endsOf (st.rows ++ [st.known x])).map V.int).length : Int) - 1)], rfl, rfl, st7 _ _ hb6, upd_same, ?_, fun n nn => ?_⟩
            · have := klen x
              rw [rowV_len]
              exact small64 (by rw [List.length_singleton]; omega)
            have cat : rowV (st.known x) ++ [V.int ((((endsOf (st.rows ++ [st.known x])).map V.int).length : Int) - 1)] = rowV (st.known x ++ [st.rows.length]) := by
              rw [len1]
              unfold rowV
              rw [List.map_append]
              rfl
            rw [cat]
            have st8 := st7.trans (same_new (o := .lst (rowV (st.known x ++ [st.rows.length]))) nn)
            have hK8 := st8 _ _ hK6
            have hE8 := st8 _ _ hE6
            have ea8 := st8 _ _ ea6
            have nD' : n ≠ D := (ne_of_none (same_new nt _ _ hK6) nn).symm
            have nE' : n ≠ e := (ne_of_none (same_new nt _ _ hE6) nn).symm
            refine ⟨_, rfl, _, rfl, ea, _, 1, _, rfl, rfl, .inl (.inl ea8), atI_nat (j := 1) rfl, D, ks, (x : Int), x, rfl, rfl, hK8, ix16 x15 kl, ?_⟩
            refine ⟨Same.into (s6.trans st8) nD, ⟨_, _, _, _, rfl⟩, by rw [upd_ne De.symm]; exact hE8, _, upd_same, by rw [List.length_set]; exact kl, fun h hh => ?_⟩
            rw [set_at (by omega)]
            by_cases hx2 : h = x
            · subst hx2
              refine ⟨_, if_pos rfl, ?_⟩
              have r : LRow (upd (upd H6 t (.lst [.int ((((endsOf (st.rows ++ [st.known h])).map V.int).length : Int) - 1)])) n (.lst (rowV (st.known h ++ [st.rows.length])))) D e (.ref n) (st.known h ++ [st.rows.length]) := ⟨n, rfl, upd_same, nD', nE'⟩
              have e2 : (st.step (.put h)).known h = st.known h ++ [st.rows.length] := if_pos rfl
              rw [e2]
              exact r.updk
            · obtain ⟨v, v1, v2⟩ := kn6 h hh
              refine ⟨v, (if_neg hx2).trans v1, ?_⟩
              have e2 : (st.step (.put x)).known h = st.known h := if_neg hx2
              rw [e2]
              exact (v2.mono st8).updk
        | meet x y =>
          obtain ⟨x15, y15, _⟩ := oke
          obtain ⟨vx, kx, b, rfl, hb, bD, be⟩ := kn x (by omega)
          obtain ⟨vy, ky, c, rfl, hc, cD, ce⟩ := kn y (by omega)
          refine ⟨_, rfl, ea, _, 0, .str "meet", rfl, rfl, sq (Same.refl _), atI_nat (j := 0) rfl, str_scal, _, rfl, ifNo str_meet_put ?_⟩
          refine ⟨_, rfl, _, rfl, ea, _, 1, _, rfl, rfl, sq (Same.refl _), atI_nat (j := 1) rfl, D, ks, (x : Int), .ref b, rfl, rfl, .inl (.inl hK), atI_nat kx, ?_⟩
          refine ⟨_, rfl, _, rfl, ea, _, 2, _, rfl, rfl, sq (Same.refl _), atI_nat (j := 2) rfl, D, ks, (y : Int), .ref c, rfl, rfl, .inl (.inl hK), atI_nat ky, ?_⟩
          have lx := klen x
          have ly := klen y
          refine ⟨b, c, rowV (st.known x), rowV (st.known y), rfl, rfl, hb, hc, by rw [rowV_len, rowV_len]; exact small64 (by omega), fun t nt => ?_⟩
          have st1 := same_new (o := .lst (rowV (st.known x) ++ rowV (st.known y))) nt
          have cat : rowV (st.known x) ++ rowV (st.known y) = (castR (st.known x ++ st.known y)).map V.int := by
            rw [castR_V]
            unfold rowV
            rw [List.map_append]
          refine ⟨t, castR (st.known x ++ st.known y), rfl, .inl (.inl (by rw [upd_same, cat])), ?_, fun u cnt hcnt nu => ?_⟩
          · unfold castR
            rw [List.length_map, List.length_append]
            omega
          have cl : cnt ≤ 24 := by
            unfold castR at hcnt
            rw [List.length_map, List.length_append] at hcnt
            omega
          refine ⟨u, _, cnt, rfl, upd_same, by omega, fun ns p lt mem _ np => ?_⟩
          have nse : ns = castR (sortD (st.known x ++ st.known y)) := int_row lt fun z => by
            rw [mem, decide_eq_true_eq]
            unfold castR
            rw [List.mem_map]
            exact ⟨fun ⟨n, h1, h2⟩ => ⟨n, h1, h2.symm⟩, fun ⟨n, h1, h2⟩ => ⟨n, h1, h2.symm⟩⟩
          subst nse
          rw [castR_V]
          have st2 := st1.trans (same_new (o := SetO w u (fun j => decide (j ∈ castR (st.known x ++ st.known y))) cnt) nu)
          have pK : p ≠ D := (ne_of_none (st2 _ _ hK) np).symm
          have pE : p ≠ e := (ne_of_none (st2 _ _ hE) np).symm
          have st3 := st2.trans (same_new (o := .lst (rowV (sortD (st.known x ++ st.known y)))) np)
          have hp : (upd (upd (upd H4 t (.lst (rowV (st.known x) ++ rowV (st.known y)))) u (SetO w u (fun j => decide (j ∈ castR (st.known x ++ st.known y))) cnt)) p (.lst (rowV (sortD (st.known x ++ st.known y))))) p = some (.lst (rowV (sortD (st.known x ++ st.known y)))) := upd_same
          show gName 4 _ _ (upd (upd (upd H4 t (.lst (rowV (st.known x) ++ rowV (st.known y)))) u (SetO w u (fun j => decide (j ∈ castR (st.known x ++ st.known y))) cnt)) p (.lst (rowV (sortD (st.known x ++ st.known y))))) _
          generalize (upd (upd (upd H4 t (.lst (rowV (st.known x) ++ rowV (st.known y)))) u (SetO w u (fun j => decide (j ∈ castR (st.known x ++ st.known y))) cnt)) p (.lst (rowV (sortD (st.known x ++ st.known y))))) = H5 at st3 hp
          have hK5 := st3 _ _ hK
          have hE5 := st3 _ _ hE
          have ea5 := st3 _ _ hea
          refine ⟨_, rfl, _, rfl, _, rfl, ea, _, 1, _, rfl, rfl, .inl (.inl ea5), atI_nat (j := 1) rfl, D, ks, (x : Int), x, rfl, rfl, hK5, ix16 x15 kl, ?_⟩
          have ea6 : (upd H5 D (.lst (ks.set x (.ref p)))) ea = some (.tup (evV (.meet x y))) := by
            rw [upd_ne (ne_of ea5 hK5 (by intro z; cases z))]
            exact ea5
          refine ⟨_, rfl, _, rfl, _, rfl, ea, _, 2, _, rfl, rfl, .inl (.inl ea6), atI_nat (j := 2) rfl, D, _, (y : Int), y, rfl, rfl, upd_same, ix16 y15 (by rw [List.length_set]; exact kl), ?_⟩
          rw [upd_upd]
          refine ⟨Same.into (s3.trans st3) nD, ⟨_, _, _, _, rfl⟩, by rw [upd_ne De.symm]; exact hE5, _, upd_same, by rw [List.length_set, List.length_set]; exact kl, fun h hh => ?_⟩
          rw [set_at (by rw [List.length_set]; omega), set_at (by omega)]
          have rp : LRow H5 D e (.ref p) (sortD (st.known x ++ st.known y)) := ⟨p, rfl, hp, pK, pE⟩
          by_cases hy2 : h = y
          · refine ⟨_, if_pos hy2, ?_⟩
            have e2 : (st.step (.meet x y)).known h = sortD (st.known x ++ st.known y) := if_pos (.inr hy2)
            rw [e2]
            exact rp.updk
          · rw [if_neg hy2]
            by_cases hx2 : h = x
            · refine ⟨_, if_pos hx2, ?_⟩
              have e2 : (st.step (.meet x y)).known h = sortD (st.known x ++ st.known y) := if_pos (.inl hx2)
              rw [e2]
              exact rp.updk
            · obtain ⟨v, v1, v2⟩ := kn h hh
              refine ⟨v, (if_neg hx2).trans v1, ?_⟩
              have e2 : (st.step (.meet x y)).known h = st.known h := if_neg (fun z => z.elim hx2 hy2)
              rw [e2]
              exact (v2.mono st3).updk
      · rintro σ' H3 ⟨s3, ⟨y3, y4, y5, y6, rfl⟩, hE, _⟩
        rw [le, List.take_length] at hE
        exact ⟨_, rfl, e, _, rfl, .inl (.inl hE), q H3 s3⟩
end
end Pb

set_option Elab.async false
set_option linter.all false
set_option maxRecDepth 100000
/-! A day as data, for repr. -/
namespace Pb
open PySem PySem.Spec PyProof.Rows L2
def evD : Ev → PyData
  | .put h => .tuple [.str "put", .int (h : Int)]
  | .meet a b => .tuple [.str "meet", .int (a : Int), .int (b : Int)]
def dayD (b : Bool) (evs : List Ev) : PyData := if b = true then .list (evs.map evD) else .tuple (evs.map evD)
theorem EvAt.dp {K : PySem.W.Frag} {H : Hp} {v : V} {e : Ev} (h : EvAt H v e) : Dp K H v (evD e) := by
  obtain ⟨a, rfl, e1⟩ := h
  cases e with
  | put h => exact .tup (.inl (.inl e1)) (.cons (.str _) (.cons (.int _) .nil))
  | meet a b => exact .tup (.inl (.inl e1)) (.cons (.str _) (.cons (.int _) (.cons (.int _) .nil)))
theorem evs_dp {K : PySem.W.Frag} {H : Hp} : ∀ {vs : List V} {evs : List Ev}, Paired (EvAt H) vs evs → DpAll K H vs (evs.map evD)
  | _, _, .nil => .nil
  | _, _, .cons h t => .cons h.dp (evs_dp t)
theorem DayAt.dp {K : PySem.W.Frag} {b : Bool} {H : Hp} {a : Addr} {evs : List Ev} (h : DayAt b H a evs) : Dp K H (.ref a) (dayD b evs) := by
  obtain ⟨vs, h1, h2⟩ := h
  cases b with
  | true => exact .lst (.inl (.inl h1)) (evs_dp h2)
  | false => exact .tup (.inl (.inl h1)) (evs_dp h2)
theorem hand_log {h : Nat} (a : h ≤ 15) : ((h : Int)).natAbs.log2 < 1920 := by
  have := Nat.log2_le_self h
  rw [Int.natAbs_natCast]
  omega
theorem hand_shown {h : Nat} (a : h ≤ 15) : (PyData.shown (.int (h : Int))).length ≤ 13 := PyData.shown_int_le (by
  rw [Int.natAbs_natCast]
  have e : (10 : Nat) ^ 12 = 1000000000000 := by decide
  omega)
theorem hand_weight {h : Nat} (a : h ≤ 15) : (PyData.weight (.int (h : Int))) ≤ 16 := by
  have := Nat.log2_le_self h
  rw [PyData.weight, Int.natAbs_natCast]
  split <;> omega
theorem put_short : PyData.leavesShort 13 (.str "put") = true := by decide +kernel
theorem meet_short : PyData.leavesShort 13 (.str "meet") = true := by decide +kernel
theorem put_weight : PyData.weight (.str "put") = 3 := by decide +kernel
theorem meet_weight : PyData.weight (.str "meet") = 4 := by decide +kernel
theorem ev_show {e : Ev} (h : EvOk e) : (evD e).showable = true := by
  cases e with
  | put x =>
    have := hand_log (show x ≤ 15 from h)
    simp only [evD, PyData.showable, PyData.showableAll, Bool.and_true, Bool.true_and, decide_eq_true_eq]
    exact this
  | meet x y =>
    have h1 := hand_log h.1
    have h2 := hand_log h.2.1
    simp only [evD, PyData.showable, PyData.showableAll, Bool.and_true, Bool.true_and, Bool.and_eq_true, decide_eq_true_eq]
    exact ⟨h1, h2⟩
theorem ev_dict (e : Ev) : (evD e).hasDict = false := by
  cases e <;> simp [evD, PyData.hasDict, PyData.hasDictAll]
theorem ev_depth (e : Ev) : (evD e).depth ≤ 1 := by
  cases e <;> simp [evD, PyData.depth, PyData.depthAll]
theorem ev_short {e : Ev} (h : EvOk e) : (evD e).leavesShort 13 = true := by
  cases e with
  | put x =>
    have := hand_shown (show x ≤ 15 from h)
    simp only [evD, PyData.leavesShort, PyData.leavesShortAll, Bool.and_true, Bool.and_eq_true, decide_eq_true_eq]
    exact ⟨by have := put_short; rwa [PyData.leavesShort] at this, this⟩
  | meet x y =>
    have h1 := hand_shown h.1
    have h2 := hand_shown h.2.1
    simp only [evD, PyData.leavesShort, PyData.leavesShortAll, Bool.and_true, Bool.and_eq_true, decide_eq_true_eq]
    exact ⟨by have := meet_short; rwa [PyData.leavesShort] at this, h1, h2⟩
theorem ev_weight {e : Ev} (h : EvOk e) : (evD e).weight ≤ 100 := by
  cases e with
  | put x =>
    have h1 := hand_weight (show x ≤ 15 from h)
    have h2 := put_weight
    simp only [evD, PyData.weight, PyData.weightAll] at *
    omega
  | meet x y =>
    have h1 := hand_weight h.1
    have h3 := hand_weight h.2.1
    have h2 := meet_weight
    simp only [evD, PyData.weight, PyData.weightAll] at *
    omega
theorem evs_show : ∀ {evs : List Ev}, (∀ e ∈ evs, EvOk e) → PyData.showableAll (evs.map evD) = true
  | [], _ => rfl
  | e :: r, h => by
    rw [List.map_cons, PyData.showableAll, ev_show (h e List.mem_cons_self), evs_show fun x hx => h x (List.mem_cons_of_mem _ hx)]
    rfl
theorem evs_dict : ∀ evs : List Ev, PyData.hasDictAll (evs.map evD) = false
  | [] => rfl
  | e :: r => by
    rw [List.map_cons, PyData.hasDictAll, ev_dict, evs_dict r]
    rfl
theorem evs_depth : ∀ evs : List Ev, PyData.depthAll (evs.map evD) ≤ 1
  | [] => by simp [PyData.depthAll]
  | e :: r => by
    rw [List.map_cons, PyData.depthAll]
    exact Nat.max_le.mpr ⟨ev_depth e, evs_depth r⟩
theorem evs_short : ∀ {evs : List Ev}, (∀ e ∈ evs, EvOk e) → PyData.leavesShortAll 13 (evs.map evD) = true
  | [], _ => rfl
  | e :: r, h => by
    rw [List.map_cons, PyData.leavesShortAll, ev_short (h e List.mem_cons_self), evs_short fun x hx => h x (List.mem_cons_of_mem _ hx)]
    rfl
theorem evs_weight : ∀ {evs : List Ev}, (∀ e ∈ evs, EvOk e) → PyData.weightAll (evs.map evD) ≤ 101 * evs.length
  | [], _ => by simp [PyData.weightAll]
  | e :: r, h => by
    have h1 := ev_weight (h e List.mem_cons_self)
    have h2 := evs_weight fun x hx => h x (List.mem_cons_of_mem _ hx)
    rw [List.map_cons, PyData.weightAll, List.length_cons]
    omega
structure ReprOk (d : PyData) : Prop where
  show_ : d.showable = true
  dict : d.hasDict = false
  depth : d.depth ≤ 8
  short : d.shown.length ≤ sizeLine
theorem day_repr (b : Bool) {evs : List Ev} (h : ∀ e ∈ evs, EvOk e) (len : evs.length ≤ 12) : ReprOk (dayD b evs) := by
  have w := evs_weight h
  have e20 : (2 : Nat) ^ 20 = 1048576 := by decide
  have d := evs_depth evs
  cases b with
  | true =>
    show ReprOk (.list (evs.map evD))
    exact ⟨by rw [PyData.showable]; exact evs_show h, by rw [PyData.hasDict]; exact evs_dict evs, by rw [PyData.depth]; omega, PyData.shown_fits (B := 13) (by decide) (by decide) (by rw [PyData.leavesShort]; exact evs_short h) (by rw [PyData.weight]; omega)⟩
  | false =>
    show ReprOk (.tuple (evs.map evD))
    exact ⟨by rw [PyData.showable]; exact evs_show h, by rw [PyData.hasDict]; exact evs_dict evs, by rw [PyData.depth]; omega, PyData.shown_fits (B := 13) (by decide) (by decide) (by rw [PyData.leavesShort]; exact evs_short h) (by rw [PyData.weight]; omega)⟩
end Pb

set_option Elab.async false
set_option linter.all false
set_option maxRecDepth 100000
namespace Pb
open PySem PySem.Spec PyProof.Rows L2
/-- the number of chains without these meets -/
def cw (evs : List Ev) (r : List Nat) : Int := chainsOf (withoutE evs r)
/-- what the law holds: the pool, the events at o, the choices at b, their numbers at c -/
structure LawSt (H : Hp) (p r o b c : Addr) (evs : List Ev) : Prop where
  pool : PoolAt H p r
  apo : o ≠ p ∧ o ≠ r
  apb : b ≠ p ∧ b ≠ r
  apc : c ≠ p ∧ c ≠ r
  day : DayAt true H o evs
  ways : ∃ ws, H b = some (.lst ws) ∧ Paired (RowAt H) ws (waysOf evs)
  nums : H c = some (.lst (((waysOf evs).map (cw evs)).map V.int))
theorem LawSt.mono {H H' : Hp} {p r o b c : Addr} {evs : List Ev} (s : Same H H') (h : LawSt H p r o b c evs) : LawSt H' p r o b c evs :=
  let ⟨ws, h1, h2⟩ := h.ways
  ⟨h.pool.mono s, h.apo, h.apb, h.apc, h.day.mono s, ⟨ws, s _ _ h1, paired_mono_row s h2⟩, s _ _ h.nums⟩
theorem row_offp {H H' : Hp} {p r : Addr} {v : V} {l : List Nat} (f : Off p r H H') (P : PoolAt H p r) (h : RowAt H v l) : RowAt H' v l :=
  let ⟨a, e1, e2⟩ := h
  ⟨a, e1, off_tup f P e2⟩
theorem LawSt.off {H H' : Hp} {p r o b c : Addr} {evs : List Ev} (f : Off p r H H') (P : PoolAt H' p r) (h : LawSt H p r o b c evs) : LawSt H' p r o b c evs :=
  let ⟨ws, h1, h2⟩ := h.ways
  ⟨P, h.apo, h.apb, h.apc, day_off f h.pool h.apo h.day, ⟨ws, f _ _ h1 h.apb.1 h.apb.2, Paired.mono (fun _ _ z => row_offp f h.pool z) h2⟩, f _ _ h.nums h.apc.1 h.apc.2⟩
theorem keep_pair {H : Hp} {D : Addr} {l l' : List V} {v : V} {r : List Nat} (h : H D = some (.lst l)) (ev : PairAt H v r) : PairAt (upd H D (.lst l')) v r :=
  let ⟨a, u, e1, e2, e3⟩ := ev
  ⟨a, u, e1, by rw [upd_ne (fun z => by subst z; rw [h] at e2; cases e2)]; exact e2, keep_row h e3⟩
theorem PairAt.mono {H H' : Hp} {v : V} {r : List Nat} (s : Same H H') (h : PairAt H v r) : PairAt H' v r :=
  let ⟨a, u, e1, e2, e3⟩ := h
  ⟨a, u, e1, s _ _ e2, e3.mono s⟩
theorem way_low {evs : List Ev} {r : List Nat} (h : r ∈ waysOf evs) : r.length ≤ evs.length := row_few h
section
variable {P : Program} {w : World} {K : PySem.W.Frag} {mg : Str → Option Value} {base : Heap}
theorem scLaw : FnScope ["_law_script", "_law_pool_here", "_law_pick", "_law_kind", "_law_events", "_law_ways", "_law_numbers", "_law_most", "_law_day_here", "_law_kept", "_law_found", "_law_good", "_law_left", "_law_k"] ["_law_script"] (defScope sLaw) := ⟨rfl, rfl, rfl, by decide +kernel, rfl, by decide +kernel, by decide +kernel⟩
abbrev lawN : List Str := ["_law_script", "_law_pool_here", "_law_pick", "_law_kind", "_law_events", "_law_ways", "_law_numbers", "_law_most", "_law_day_here", "_law_kept", "_law_found", "_law_good", "_law_left", "_law_k"]
set_option maxHeartbeats 4000000 in
theorem body_law {fa g1 g2 g3 g4 g5 g6 g7 g8 : Addr} {gd1 gd2 gd3 gd4 gd5 gd6 gd7 gd8 : FuncData} {s₁ : Shared} {cdv : Value} {H : Hp} {a : Addr} {ns : List Int}
    (GP : FnOk P w K mg base CX0 1 g1 gd1 ["_law_script"] (spPool K)) (k1 : PySem.W.keepIn K (.ref g1) = true) (b1 : Binds K gd1 ["_law_script"] []) (m1 : mg "_law_pool" = some (.ref g1))
    (GD : FnOk P w K mg base CX0 1 g2 gd2 ["_law_pool_here", "_law_many"] spDraw) (k2 : PySem.W.keepIn K (.ref g2) = true) (b2 : Binds K gd2 ["_law_pool_here", "_law_many"] []) (m2 : mg "_law_draw" = some (.ref g2))
    (GY : FnOk P w K mg base CX0 2 g3 gd3 ["_law_pool_here"] spDay) (k3 : PySem.W.keepIn K (.ref g3) = true) (b3 : Binds K gd3 ["_law_pool_here"] []) (m3 : mg "_law_day" = some (.ref g3))
    (GO : FnOk P w K mg base CX0 1 g4 gd4 ["_law_events"] spLChoices) (k4 : PySem.W.keepIn K (.ref g4) = true) (b4 : Binds K gd4 ["_law_events"] []) (m4 : mg "_law_choices" = some (.ref g4))
    (GC : FnOk P w K mg base CX0 1 g5 gd5 ["_law_events"] spLChains) (k5 : PySem.W.keepIn K (.ref g5) = true) (b5 : Binds K gd5 ["_law_events"] []) (m5 : mg "_law_chains" = some (.ref g5))
    (GW : FnOk P w K mg base CX0 1 g6 gd6 ["_law_events", "_law_left"] spLWithout) (k6 : PySem.W.keepIn K (.ref g6) = true) (b6 : Binds K gd6 ["_law_events", "_law_left"] []) (m6 : mg "_law_without" = some (.ref g6))
    (GL : FnOk P w K mg base CX0 7 g7 gd7 ["day", "most"] spLeft) (k7 : PySem.W.keepIn K (.ref g7) = true) (b7 : Binds K gd7 ["day", "most"] []) (m7 : mg "left_out" = some (.ref g7))
    (GR : FnOk P w K mg base CX0 1 g8 gd8 ["_law_actual", "_law_due"] spIsRow) (k8 : PySem.W.keepIn K (.ref g8) = true) (b8 : Binds K gd8 ["_law_actual", "_law_due"] []) (m8 : mg "_law_is_row" = some (.ref g8))
    (T : Txt mg) (hS : SqL K H a (ns.map V.int)) (few : ns.length ≤ 63) (hr : Room 7 (callerA.deeper (envOfC "law" (defScope sLaw) s₁.heap.objs.size fa cdv))) :
    ∃ t, PSs (cxOf CX0 P w K mg base lawN "law" (defScope sLaw) fa cdv callerA [] s₁ H E0).nox (defBody sLaw) t ∧ t { nx := fun _ H' => V.non = V.bl true, rt := fun v _ => v = V.bl true } (start lawN [.ref a]) H := by
  have nd := scLaw.nd
  have hr1 : Room 1 _ := hr.mono (by decide)
  have hr2 : Room 2 _ := hr.mono (by decide)
  have hu : (callerA.deeper (envOfC "law" (defScope sLaw) s₁.heap.objs.size fa cdv)).units + 16 < cLine := by
    have := hr.un
    omega
  have gu : (callerA.deeper (envOfC "law" (defScope sLaw) s₁.heap.objs.size fa cdv)).guards = some [] := rfl
  refine ⟨_, pss_cons (ps_set (i := 1) nd rfl (.inl rfl) (pe_call GP hr1 (by rfl) m1 k1 b1 .nil pass0 (pa_cons (pv 0) pa_nil)))
    (pss_cons (ps_set (i := 2) nd rfl (.inl rfl) (pe_call GD hr1 (by rfl) m2 k2 b2 .nil pass0 (pa_cons (pv 1) (pa_cons pe_int pa_nil))))
    (pss_cons (ps_set (i := 3) nd rfl (.inl rfl) (pe_call GD hr1 (by rfl) m2 k2 b2 .nil pass0 (pa_cons (pv 1) (pa_cons pe_int pa_nil))))
    (pss_cons (ps_set (i := 4) nd rfl (.inr rfl) (pe_call GY hr2 (by rfl) m3 k3 b3 .nil pass0 (pa_cons (pv 1) pa_nil)))
    (pss_cons (ps_set (i := 5) nd rfl (.inr rfl) (pe_call GO hr1 (by rfl) m4 k4 b4 .nil pass0 (pa_cons (pv 4) pa_nil)))
    (pss_cons (ps_set (i := 6) nd rfl (.inr rfl) (pe_lc (own := [("_law_left", 12)]) (g := gName 12) (tt := tYes) rfl nd (pi_list (pv 5)) (blkOk_by (N := lawN) (sc := defScope sLaw) (by decide +kernel))
      (fun _ _ _ _ _ => pg_name (i := 12) nd rfl (Or.inl rfl)) (fun _ _ _ _ _ => pts_nil)
      (fun _ _ _ _ _ => pe_call GC hr1 (by rfl) m5 k5 b5 .nil pass0 (pa_cons (pe_call GW hr1 (by rfl) m6 k6 b6 .nil pass0 (pa_cons (pv 4) (pa_cons (pv 12) pa_nil))) pa_nil))))
    (pss_cons (ps_set (i := 7) nd rfl (.inr rfl) (pe_ix ix_list (pv 6) (pe_op op_mod (pe_callTy call_int1 (by rfl) T.int boot_int' (pa_cons (pv 2) pa_nil)) (pe_callB call_len_seq (by rfl) T.len PySem.boot_len (pa_cons (pv 6) pa_nil))) (fun _ _ => rfl)))
    (C8.pss_cut (ps_if (PW.pt (pw_and (pt_cmpR op_eq (pv 3) pe_int (nomark _)) (pw_and1 (pt_cmpR op_gt (pv 7) pe_int (nomark _))))) (pss_one (ps_set (i := 7) nd rfl (.inr rfl) (pe_op op_sub (pv 7) pe_int))) pss_nil)
    (C8.pss_cut (ps_if (pt_cmpR op_eq (pv 3) pe_int (nomark _)) (pss_one (ps_set (i := 7) nd rfl (.inr rfl) (pe_call GD hr1 (by rfl) m2 k2 b2 .nil pass0 (pa_cons (pv 1) (pa_cons pe_int pa_nil))))) pss_nil)
    (pss_cons (ps_set (i := 8) nd rfl (.inl rfl) (pe_callTy call_list_of (by rfl) T.list boot_list' (pa_cons (pv 4) pa_nil)))
    (C8.pss_cut (ps_if (pt_cmpR op_eq (pe_call GD hr1 (by rfl) m2 k2 b2 .nil pass0 (pa_cons (pv 1) (pa_cons pe_int pa_nil))) pe_int (nomark _)) (pss_one (ps_set (i := 8) nd rfl (.inl rfl) (pe_callTy call_tuple_of (by rfl) T.tuple boot_tuple' (pa_cons (pv 4) pa_nil)))) pss_nil)
    (pss_cons (ps_set (i := 9) nd rfl (.inl rfl) (pe_callB (cr_repr gu hu) (by rfl) T.repr PyProof.Rows.boot_repr (pa_cons (pv 8) pa_nil)))
    (pss_cons (ps_set (i := 10) nd rfl (.inl rfl) (pe_call GL hr (by rfl) m7 k7 b7 .nil pass0 (pa_cons (pv 8) (pa_cons (pv 7) pa_nil))))
    (pss_cons (ps_if (PW.pt (pw_or (pt_cmpR op_ne (pe_callB (cr_repr gu hu) (by rfl) T.repr PyProof.Rows.boot_repr (pa_cons (pv 8) pa_nil)) (pv 9) (nomark _))
        (pw_or1 (pt_not (pt_val (pe_call GR hr1 (by rfl) m8 k8 b8 .nil pass0 (pa_cons (pe_call GL hr (by rfl) m7 k7 b7 .nil pass0 (pa_cons (pv 8) (pa_cons (pe_ix ix_list (pv 6) pe_int (fun _ _ => rfl)) pa_nil))) (pa_cons (pe_tup pa_nil) pa_nil)))))))) (pss_one (ps_ret pe_bl)) pss_nil)
    (pss_cons (ps_set (i := 11) nd rfl (.inl rfl) (pe_callB (cr_sortW hu) (by rfl) T.sorted PyProof.Rows.boot_sorted (pa_cons (pe_lc (own := [("_law_k", 13)]) (g := gName 13) rfl nd (pi_range1 (by rfl) T.range (pa_cons (pe_callB call_len_seq (by rfl) T.len PySem.boot_len (pa_cons (pv 5) pa_nil)) pa_nil)) (blkOk_by (N := lawN) (sc := defScope sLaw) (by decide +kernel))
      (fun _ _ _ _ _ => pg_name (i := 13) nd rfl (Or.inl rfl)) (fun _ _ _ _ _ => pts_one (pt_cmpR op_le (pe_ix (r := rIxL K) ix_list (pv 6) (pv 13) (fun _ _ => rfl)) (pv 7) (nomark _)))
      (fun _ _ _ _ _ => pe_tup (pa_cons (pe_callB (cr_len (K := K) rfl) (by rfl) T.len PySem.boot_len (pa_cons (pe_ix (r := rIxL K) ix_list (pv 5) (pv 13) (fun _ _ => rfl)) pa_nil)) (pa_cons (pe_ix (r := rIxL K) ix_list (pv 5) (pv 13) (fun _ _ => rfl)) pa_nil)))) pa_nil)))
    (pss_cons (ps_if (pt_cmpR op_eq (pe_callB call_len_seq (by rfl) T.len PySem.boot_len (pa_cons (pv 11) pa_nil)) pe_int (nomark _)) (pss_one (ps_ret (pe_cmpR op_isN (pv 10) pe_non (nomark _)))) pss_nil)
    (pss_cons (ps_if (pt_not (pt_val (pe_call GR hr1 (by rfl) m8 k8 b8 .nil pass0 (pa_cons (pv 10) (pa_cons (pe_ix ix_tup (pe_ix ix_list (pv 11) pe_int (fun _ _ => rfl)) pe_int (fun _ _ => rfl)) pa_nil))))) (pss_one (ps_ret pe_bl)) pss_nil)
    (pss_one (ps_ret (pe_call GR hr1 (by rfl) m8 k8 b8 .nil pass0 (pa_cons (pe_call GL hr (by rfl) m7 k7 b7 .nil pass0 (pa_cons (pe_call GW hr1 (by rfl) m6 k6 b6 .nil pass0 (pa_cons (pv 4) (pa_cons (pv 10) pa_nil))) (pa_cons (pv 7) pa_nil))) (pa_cons (pe_tup pa_nil) pa_nil))))))))))))))))))))), ?_⟩
  -- the pool, two draws, the day
  refine ⟨_, rfl, a, ns, rfl, hS, few, fun H1 p r s1 P1 => ?_⟩
  refine ⟨_, rfl, p, r, 64, rfl, P1, by decide, by decide, fun H2 pick lt2 o2 P2 => ?_⟩
  refine ⟨_, rfl, p, r, 3, rfl, P2, by decide, by decide, fun H3 kind lt3 o3 P3 => ?_⟩
  refine ⟨_, rfl, p, r, rfl, P3, fun H4 o evs o4 P4 apo day4 ld => ?_⟩
  have m6' : (meetsOf evs).length ≤ 6 := by rw [meetsOf_len]; exact ld.few
  -- the choices
  refine ⟨_, rfl, o, evs, rfl, day4, ld.len, m6', fun H5 b ws s5 nb hb pw => ?_⟩
  have P5 := P4.mono s5
  have day5 := day4.mono s5
  have apb := P4.apart nb
  have lw : ws.length = (waysOf evs).length := pw.length
  have w64 : (waysOf evs).length ≤ 64 := ways_few m6' _
  -- their numbers
  refine ⟨_, rfl, b, rfl, ⟨ws, .inl (.inl hb)⟩, fun c nc => ?_⟩
  have apc := P5.apart nc
  refine lc_it (walk_list (xs := ws)) (fun i H' => Same H5 H' ∧ H' c = some (.lst ((((waysOf evs).take i).map (cw evs)).map V.int))) ⟨same_new nc, upd_same⟩ (fun i H' _ z => .inl (.inl (z.1 _ _ hb))) ?_ ?_
  · rintro i x H6 H7 hi ⟨s6, hc⟩ ⟨rfl, hx⟩
    obtain ⟨row, hrow, rat⟩ := paired_get pw i x hx
    have subl := withoutE_sub evs row
    have sl := subl.length_le
    have ll := ld.len
    refine ⟨rfl, ?_⟩
    refine ⟨_, rfl, _, rfl, o, evs, x, row, rfl, day5.mono s6, ld.len, rat.mono s6, fun H8 o8 s8 day8 => ?_⟩
    refine ⟨o8, withoutE evs row, rfl, day8, fun e he => ld.ok e (subl.subset he), by omega, fun H9 s9 => ?_⟩
    have s89 := s8.trans s9
    refine ⟨_, s89 _ _ hc, ?_, Same.into (s6.trans s89) nc, ?_⟩
    · rw [List.length_map, List.length_map, List.length_take]
      exact small1000 (by omega)
    · rw [upd_same, ← take_snoc (cw evs) hrow, List.map_append]
      rfl
  · rintro H6 ⟨s6, hc⟩
    rw [lw, List.take_length] at hc
    have L6 : LawSt H6 p r o b c evs := ⟨P5.mono s6, apo, apb, apc, day5.mono s6, ⟨ws, s6 _ _ hb, paired_mono_row s6 pw⟩, hc⟩
    have numLen : (((waysOf evs).map (cw evs)).map V.int).length = (waysOf evs).length := by rw [List.length_map, List.length_map]
    have w0 : 0 < (waysOf evs).length := by
      have := waTake_head evs evs.length
      exact (List.getElem?_eq_some_iff.mp this).1
    -- most
    refine ⟨_, rfl, _, rfl, .inl ⟨(pick : Int), rfl, _, rfl, c, _, rfl, .inl (.inl (.inl hc)), (pick : Int), _, rfl, rfl, (by rw [numLen]; omega), ?_⟩⟩
    obtain ⟨j, hj, ej⟩ := small_emod (x := (pick : Int)) (m := (((waysOf evs).map (cw evs)).map V.int).length) (by rw [numLen]; exact w0)
    rw [numLen] at hj
    refine ⟨c, _, _, .int (cw evs (waysOf evs)[j]), rfl, rfl, .inl (.inl hc), ?_, ?_⟩
    · show atI _ ((pick : Int) % ((((waysOf evs).map (cw evs)).map V.int).length : Int)) = _
      rw [ej]
      refine atI_nat ?_
      rw [List.getElem?_map, List.getElem?_map, List.getElem?_eq_getElem hj]
      rfl
    -- one less
    refine ⟨fun σ' H' => LawSt H' p r o b c evs ∧ ∃ most : Int, 0 ≤ most ∧ σ' = [some (V.ref a), some (V.ref p), some (V.int (pick : Int)), some (V.int (kind : Int)), some (V.ref o), some (V.ref b), some (V.ref c), some (V.int most), none, none, none, none, none, none], ?_, ?_⟩
    · have pos : 0 ≤ cw evs (waysOf evs)[j] := chainsOf_nonneg _
      generalize cw evs (waysOf evs)[j] = z at pos
      refine ⟨_, rfl, rfl, _, rfl, ?_⟩
      by_cases k1 : V.int (kind : Int) = V.int 1
      · refine ifYes k1 ⟨_, rfl, z, 0, rfl, rfl, _, rfl, ?_⟩
        by_cases z0 : (0 : Int) < z
        · exact ifYes z0 ⟨_, rfl, z, 1, rfl, rfl, L6, z - 1, by omega, rfl⟩
        · exact ifNo z0 ⟨L6, z, pos, rfl⟩
      · exact ifNo k1 (iteF ⟨L6, z, pos, rfl⟩)
    rintro σ' H7 ⟨L7, most7, pos7, rfl⟩
    -- or a drawn one
    refine ⟨fun σ' H' => LawSt H' p r o b c evs ∧ ∃ most : Int, 0 ≤ most ∧ σ' = [some (V.ref a), some (V.ref p), some (V.int (pick : Int)), some (V.int (kind : Int)), some (V.ref o), some (V.ref b), some (V.ref c), some (V.int most), none, none, none, none, none, none], ?_, ?_⟩
    · refine ⟨_, rfl, rfl, _, rfl, ?_⟩
      by_cases k2 : V.int (kind : Int) = V.int 2
      · exact ifYes k2 ⟨_, rfl, p, r, 30, rfl, L7.pool, by decide, by decide, fun H8 v lt8 o8 P8 => ⟨L7.off o8 P8, (v : Int), by omega, rfl⟩⟩
      · exact ifNo k2 ⟨L7, most7, pos7, rfl⟩
    rintro σ' H8 ⟨L8, most, pos, rfl⟩
    -- the day, as a list or a tuple
    obtain ⟨es, hes, pes⟩ := id L8.day
    have hes' : H8 o = some (.lst es) := hes
    refine ⟨_, rfl, o, es, rfl, .inl (.inl (.inl hes')), fun d nd8 => ?_⟩
    have sd := same_new (o := .lst es) nd8
    have L9 := L8.mono sd
    have apd := L8.pool.apart nd8
    have day9 : DayAt true (upd H8 d (.lst es)) d evs := ⟨es, upd_same, Paired.mono (fun _ _ z => EvAt.mono sd z) pes⟩
    refine ⟨fun σ' H' => LawSt H' p r o b c evs ∧ ∃ (bb : Bool) (dd : Addr), DayAt bb H' dd evs ∧ σ' = [some (V.ref a), some (V.ref p), some (V.int (pick : Int)), some (V.int (kind : Int)), some (V.ref o), some (V.ref b), some (V.ref c), some (V.int most), some (V.ref dd), none, none, none, none, none], ?_, ?_⟩
    · refine ⟨_, rfl, p, r, 2, rfl, L9.pool, by decide, by decide, fun H10 v10 lt10 o10 P10 => ⟨rfl, _, rfl, ?_⟩⟩
      have L10 := L9.off o10 P10
      have day10 := day_off o10 L9.pool apd day9
      by_cases z : V.int (v10 : Int) = V.int 0
      · obtain ⟨es2, hes2, pes2⟩ := id L10.day
        have hes2' : H10 o = some (.lst es2) := hes2
        refine ifYes z ⟨_, rfl, o, es2, rfl, .inl ⟨.inl (.inl hes2'), fun t nt => ?_⟩⟩
        have st := same_new (o := .tup es2) nt
        exact ⟨L10.mono st, false, t, ⟨es2, upd_same, Paired.mono (fun _ _ z => EvAt.mono st z) pes2⟩, rfl⟩
      · exact ifNo z ⟨L10, true, d, day10, rfl⟩
    rintro σ' H11 ⟨L11, bb, dd, day11, rfl⟩
    -- kept, found
    have ro := day_repr bb ld.ok ld.len
    have dst : ∀ {H'}, Same H11 H' → DaySt bb H' dd evs := fun s => ⟨day11.mono s, ld.ok, ld.len⟩
    refine ⟨_, rfl, dd, dayD bb evs, rfl, day11.dp, ro.show_, ro.dict, ro.depth, ro.short, ?_⟩
    refine ⟨_, rfl, _, rfl, bb, dd, evs, most, rfl, dst (Same.refl _), m6', pos, fun H12 fv s12 out => ?_⟩
    -- the first test
    refine ⟨_, rfl, dd, dayD bb evs, rfl, (day11.mono s12).dp, ro.show_, ro.dict, ro.depth, ro.short, _, rfl, str_scal, _, rfl, iteNS rfl ?_⟩
    have L12 := L11.mono s12
    have num0 : (((waysOf evs).map (cw evs)).map V.int)[0]? = some (.int (chainsOf evs)) := by
      rw [List.getElem?_map, List.getElem?_map, show (waysOf evs)[0]? = some [] from waTake_head evs _]
      show some (V.int (chainsOf (withoutE evs []))) = _
      rw [withoutE_nil]
    refine ⟨_, rfl, _, rfl, c, _, 0, .int (chainsOf evs), rfl, rfl, .inl (.inl L12.nums), atI_nat (j := 0) num0, bb, dd, evs, chainsOf evs, rfl, dst s12, m6', chainsOf_nonneg _, fun H13 v13 s13 out13 => ?_⟩
    rw [leftOut_nil (Int.le_refl _)] at out13
    refine ⟨Nat.zero_le _, fun t13 nt13 => ?_⟩
    have st13 := same_new (o := .tup []) nt13
    refine ⟨v13, .ref t13, [], rfl, RowAt.mono st13 out13, ⟨t13, rfl, upd_same⟩, by decide, true, rfl, iteF ?_⟩
    have s14 := (s12.trans s13).trans st13
    have L14 := L11.mono s14
    obtain ⟨ws4, hb4, pw4⟩ := L14.ways
    have out14 : OutAt (upd H13 t13 (.tup [])) fv (leftOut evs most) := by
      cases e : leftOut evs most with
      | none => rw [e] at out; exact out
      | some x => rw [e] at out; exact RowAt.mono (s13.trans st13) out
    generalize upd H13 t13 (.tup []) = H14 at s14 L14 hb4 pw4 out14
    have lw4 : ws4.length = (waysOf evs).length := pw4.length
    -- the good ones
    refine ⟨_, rfl, b, ws4, rfl, .inl (.inl (.inl hb4)), _, rfl, by omega, by omega, fun D nD => ?_⟩
    have en : ((ws4.length : Int)).toNat = (waysOf evs).length := by omega
    rw [en]
    refine lc_it (walk_range (lo := 0) (n := (waysOf evs).length)) (fun i H' => Same H14 H' ∧ ∃ acc, H' D = some (.lst acc) ∧ acc.length ≤ i ∧ Paired (PairAt H') acc (((waysOf evs).take i).filter (okLeft evs most))) ⟨same_new nD, [], upd_same, Nat.le_refl _, .nil⟩ (fun _ _ _ _ => trivial) ?_ ?_
    · rintro i x H15 H16 hi ⟨s15, acc, hD, la, pa⟩ ⟨rfl, hx⟩
      have hx2 : x = V.int (i : Int) := hx.trans (congrArg V.int (Int.zero_add _))
      subst hx2
      obtain ⟨row, hrow⟩ : ∃ row, (waysOf evs)[i]? = some row := ⟨_, List.getElem?_eq_getElem hi⟩
      obtain ⟨wv, hwv, rat⟩ := paired_get' pw4 i row hrow
      obtain ⟨ra, rfl, hra⟩ := rat.mono s15
      have numi : (((waysOf evs).map (cw evs)).map V.int)[i]? = some (.int (cw evs row)) := by
        rw [List.getElem?_map, List.getElem?_map, hrow]
        rfl
      have low := way_low (List.mem_of_getElem? hrow)
      have ll := ld.len
      refine ⟨rfl, ?_⟩
      refine ⟨_, rfl, _, rfl, c, _, (i : Int), .int (cw evs row), rfl, rfl, .inl (.inl (s15 _ _ L14.nums)), atI_nat numi, _, rfl, cw evs row, most, rfl, rfl, _, rfl, ?_⟩
      have okd : okLeft evs most row = decide (cw evs row ≤ most) := rfl
      by_cases good : cw evs row ≤ most
      · refine ifYes good ?_
        refine ⟨_, rfl, _, rfl, b, ws4, (i : Int), .ref ra, rfl, rfl, .inl (.inl (s15 _ _ hb4)), atI_nat hwv, ra, _, rfl, .inr (.inl (.inl hra)), ?_⟩
        refine ⟨_, rfl, _, rfl, b, ws4, (i : Int), .ref ra, rfl, rfl, .inl (.inl (s15 _ _ hb4)), atI_nat hwv, (by show 2 ≤ sizeLine; decide), fun q nq => ?_⟩
        have sq := same_new (o := .tup [.int ((rowV row).length : Int), .ref ra]) nq
        refine ⟨acc, sq _ _ hD, small1000 (by omega), Same.into (s15.trans sq) nD, _, upd_same, by rw [List.length_append, List.length_singleton]; omega, ?_⟩
        rw [filter_take _ hrow, if_pos (by rw [okd]; exact decide_eq_true good)]
        refine Paired.snoc (Paired.mono (fun _ _ z => keep_pair (sq _ _ hD) (PairAt.mono sq z)) pa) (keep_pair (sq _ _ hD) ⟨q, .ref ra, rfl, ?_, ra, rfl, sq _ _ hra⟩)
        rw [upd_same, rowV_len]
      · refine ifNo good ⟨s15, acc, hD, by omega, ?_⟩
        rw [filter_take _ hrow, if_neg (by rw [okd, decide_eq_false good]; exact Bool.false_ne_true), List.append_nil]
        exact pa
    · rintro H15 ⟨s15, acc, hD, la, pa⟩
      rw [List.take_length] at pa
      refine ⟨D, acc, _, rfl, .inl (.inl hD), pa, fun ys q py nq => ?_⟩
      rw [wayLe_key] at py
      have sq := same_new (o := .lst ys) nq
      have hq : (upd H15 q (.lst ys)) q = some (.lst ys) := upd_same
      have s16 := Same.trans s15 sq
      have py16 := Paired.mono (fun _ _ z => PairAt.mono sq z) py
      show gName 11 _ _ (upd H15 q (.lst ys)) _
      generalize upd H15 q (.lst ys) = H16 at hq s16 py16
      have L16 := L14.mono s16
      refine ⟨_, rfl, q, ys, rfl, .inl (.inl (.inl hq)), rfl, _, rfl, ?_⟩
      cases e : ((waysOf evs).filter (okLeft evs most)).mergeSort keyLe with
      | nil =>
        rw [e] at py16
        cases py16
        have none : (waysOf evs).filter (okLeft evs most) = [] := by
          have pm := List.mergeSort_perm ((waysOf evs).filter (okLeft evs most)) keyLe
          rw [e] at pm
          exact List.length_eq_zero_iff.mp pm.length_eq.symm
        rw [leftOut_none none] at out14
        have fe : fv = V.non := out14
        subst fe
        exact ifYes rfl ⟨_, rfl, rfl, rfl⟩
      | cons x tl =>
        rw [e] at py16
        have lo := leftOut_some e
        rw [lo] at out14
        have fat : RowAt H16 fv x := RowAt.mono s16 out14
        obtain ⟨x1, x2⟩ := List.mem_filter.mp ((List.mergeSort_perm ((waysOf evs).filter (okLeft evs most)) keyLe).mem_iff.mp (e ▸ List.mem_cons_self))
        have low := way_low x1
        have ll := ld.len
        cases py16 with
        | cons h0 ht =>
          obtain ⟨qa, u, rfl, hqa, hu16⟩ := h0
          refine ifNo (fun z => ?_) ?_
          · injection z with z
            rw [List.length_cons] at z
            omega
          refine ⟨_, rfl, _, rfl, q, _, 0, .ref qa, rfl, rfl, .inl (.inl hq), atI_nat (j := 0) rfl, qa, _, 1, u, rfl, rfl, .inl (.inl hqa), atI_nat (j := 1) rfl, fv, u, x, rfl, fat, hu16, by omega, true, rfl, iteF ?_⟩
          -- the day without them
          have subl := withoutE_sub evs x
          have sl := subl.length_le
          refine ⟨_, rfl, _, rfl, o, evs, fv, x, rfl, L16.day, ld.len, fat, fun H17 o17 s17 day17 => ?_⟩
          refine ⟨_, rfl, true, o17, withoutE evs x, most, rfl, ⟨day17, fun e he => ld.ok e (subl.subset he), by omega⟩, ?_, pos, fun H18 v18 s18 out18 => ?_⟩
          · rw [meetsOf_len]
            exact Nat.le_trans ((subl.filter Ev.isMeet).length_le) ld.few
          rw [leftOut_nil (leftOut_ok lo)] at out18
          refine ⟨Nat.zero_le _, fun t nt => ?_⟩
          have st := same_new (o := .tup []) nt
          exact ⟨v18, .ref t, [], rfl, RowAt.mono st out18, ⟨t, rfl, upd_same⟩, by decide, rfl⟩
end
end Pb

set_option Elab.async false
set_option linter.all false
set_option maxRecDepth 100000
/-! What the top has written, and the walk of the law from it. -/
namespace Pb
open PySem PySem.Spec PyProof.Rows L2
/-- a def of the top, as the walk asks of it -/
structure Df (K : PySem.W.Frag) (mg : Str → Option Value) (x : Str) (st : Stmt) (ps : List Str) (f : Addr) (fd : FuncData) : Prop where
  fn : Fun K x x st f fd
  b : Binds K fd ps []
  m : mg x = some (.ref f)
def DfE (K : PySem.W.Frag) (mg : Str → Option Value) (x : Str) (st : Stmt) (ps : List Str) : Prop := ∃ f fd, Df K mg x st ps f fd
/-- how a def's arguments bind -/
def Bd (x : Str) (st : Stmt) (ps : List Str) : Prop := ∀ (kV doc pm : Value) (an : Option Addr) (cdv ct : Value) (us : List Value), us.length = ps.length →
  bindArgs (PySem.W.fnOf x x (defArgs st) (defBody st) (defScope st) .none kV doc pm an cdv ct) ⟨us, []⟩ = pure (ps.zip us)
theorem df_mk {K : PySem.W.Frag} {h : Heap} {mg : Str → Option Value} {x : Str} {st : Stmt} {ps : List Str} {f : Addr} {od an : Option Addr} {sl : Array (Option Value)} {oc kV dc pm cd ct : Value} (X : K.In h) (G : h.Ns mainGlobals mg) (bd : Bd x st ps)
    (a : PySem.W.nsIn K mainGlobals x = some (some (.ref f))) (l : K.lookup f = some ⟨oc, od, .func (PySem.W.fnOf x x (defArgs st) (defBody st) (defScope st) .none kV dc pm an cd ct), sl⟩) (c : PySem.W.codeIn K cd x = true) (k : PySem.W.keepIn K (.ref f) = true) : DfE K mg x st ps :=
  have F := fun_mk (st := st) l c k
  ⟨f, _, F, F.binds bd, PySem.W.mg_of X G a⟩
theorem bd_integer : Bd "is_integer" sInteger ["thing"] := fun _ _ _ _ _ _ us hl => match us, hl with | [_], _ => rfl
theorem bd_within : Bd "is_within" sWithin ["thing", "least", "most"] := fun _ _ _ _ _ _ us hl => match us, hl with | [_, _, _], _ => rfl
theorem bd_listed : Bd "is_listed" sListed ["thing"] := fun _ _ _ _ _ _ us hl => match us, hl with | [_], _ => rfl
theorem bd_most : Bd "check_most" sMost ["many", "most"] := fun _ _ _ _ _ _ us hl => match us, hl with | [_, _], _ => rfl
theorem bd_ending : Bd "ending_of" sEnding ["plan"] := fun _ _ _ _ _ _ us hl => match us, hl with | [_], _ => rfl
theorem bd_many : Bd "many_chains" sMany ["plan"] := fun _ _ _ _ _ _ us hl => match us, hl with | [_], _ => rfl
theorem bd_hand : Bd "is_hand" sHand ["thing"] := fun _ _ _ _ _ _ us hl => match us, hl with | [_], _ => rfl
theorem bd_event : Bd "is_event" sEvent ["thing"] := fun _ _ _ _ _ _ us hl => match us, hl with | [_], _ => rfl
theorem bd_check : Bd "check_day" sCheckDay ["day"] := fun _ _ _ _ _ _ us hl => match us, hl with | [_], _ => rfl
theorem bd_put : Bd "is_put" sPut ["thing"] := fun _ _ _ _ _ _ us hl => match us, hl with | [_], _ => rfl
theorem bd_plan : Bd "plan_of_day" sPlan ["day"] := fun _ _ _ _ _ _ us hl => match us, hl with | [_], _ => rfl
theorem bd_choices : Bd "choices" sChoices ["items", "size"] := fun _ _ _ _ _ _ us hl => match us, hl with | [_, _], _ => rfl
theorem bd_without : Bd "without" sWithout ["events", "left"] := fun _ _ _ _ _ _ us hl => match us, hl with | [_, _], _ => rfl
theorem bd_left : Bd "left_out" sLeft ["day", "most"] := fun _ _ _ _ _ _ us hl => match us, hl with | [_, _], _ => rfl
theorem bd_pool : Bd "_law_pool" sPool ["_law_script"] := fun _ _ _ _ _ _ us hl => match us, hl with | [_], _ => rfl
theorem bd_draw : Bd "_law_draw" sDraw ["_law_pool_here", "_law_many"] := fun _ _ _ _ _ _ us hl => match us, hl with | [_, _], _ => rfl
theorem bd_day : Bd "_law_day" sDay ["_law_pool_here"] := fun _ _ _ _ _ _ us hl => match us, hl with | [_], _ => rfl
theorem bd_lchains : Bd "_law_chains" sLChains ["_law_events"] := fun _ _ _ _ _ _ us hl => match us, hl with | [_], _ => rfl
theorem bd_lwithout : Bd "_law_without" sLWithout ["_law_events", "_law_left"] := fun _ _ _ _ _ _ us hl => match us, hl with | [_, _], _ => rfl
theorem bd_lchoices : Bd "_law_choices" sLChoices ["_law_events"] := fun _ _ _ _ _ _ us hl => match us, hl with | [_], _ => rfl
theorem bd_isRow : Bd "_law_is_row" sIsRow ["_law_actual", "_law_due"] := fun _ _ _ _ _ _ us hl => match us, hl with | [_, _], _ => rfl
theorem bd_law : Bd "law" sLaw ["_law_script"] := fun _ _ _ _ _ _ us hl => match us, hl with | [_], _ => rfl
theorem const_mk {K : PySem.W.Frag} {h : Heap} {mg : Str → Option Value} {x : Str} {v : Int} {t : Tok} (X : K.In h) (G : h.Ns mainGlobals mg) (a : PySem.W.nsIn K mainGlobals x = some (some (.int v t))) : ∃ t, mg x = some (.int v t) := ⟨t, PySem.W.mg_of X G a⟩
structure Defs (K : PySem.W.Frag) (mg : Str → Option Value) : Prop where
  integer : DfE K mg "is_integer" sInteger ["thing"]
  within : DfE K mg "is_within" sWithin ["thing", "least", "most"]
  listed : DfE K mg "is_listed" sListed ["thing"]
  most : DfE K mg "check_most" sMost ["many", "most"]
  ending : DfE K mg "ending_of" sEnding ["plan"]
  many : DfE K mg "many_chains" sMany ["plan"]
  hand : DfE K mg "is_hand" sHand ["thing"]
  event : DfE K mg "is_event" sEvent ["thing"]
  check : DfE K mg "check_day" sCheckDay ["day"]
  put : DfE K mg "is_put" sPut ["thing"]
  plan : DfE K mg "plan_of_day" sPlan ["day"]
  choices : DfE K mg "choices" sChoices ["items", "size"]
  without : DfE K mg "without" sWithout ["events", "left"]
  left : DfE K mg "left_out" sLeft ["day", "most"]
  pool : DfE K mg "_law_pool" sPool ["_law_script"]
  draw : DfE K mg "_law_draw" sDraw ["_law_pool_here", "_law_many"]
  day : DfE K mg "_law_day" sDay ["_law_pool_here"]
  lchains : DfE K mg "_law_chains" sLChains ["_law_events"]
  lwithout : DfE K mg "_law_without" sLWithout ["_law_events", "_law_left"]
  lchoices : DfE K mg "_law_choices" sLChoices ["_law_events"]
  isRow : DfE K mg "_law_is_row" sIsRow ["_law_actual", "_law_due"]
  law : DfE K mg "law" sLaw ["_law_script"]
theorem walk_mine {l : PySem.W.OpenLaw} {q : Program} {loose : List Str} {XP : (Str → Option Value) → Heap → Prop} {YP : World → Heap → Prop} {d : DefRec} {K : Params → PySem.W.Frag} (hn : l.most = some 63) (hdf : d.params.defaults = []) (hdn : d.name = "law")
    (hY : ∀ (w : World) (h : Heap), YP w h → (K w.params).In h)
    (F : ∀ (w : World) (mg : Str → Option Value) (h : Heap), (K w.params).In h → h.Ns mainGlobals mg → Defs (K w.params) mg ∧ Txt mg) :
    PySem.W.WalkO q loose XP YP l.row.toRowW d [] (fun f vs => PySem.call f vs) := by
  refine Att.attach_call hn hdf fun w s₀ s₁ mg mb fa o pm cd doc a vs ns G Y ho hd hcd hmg hobj hints hlen hg => ?_
  have KX := hY w _ Y
  obtain ⟨D, T⟩ := F w mg _ KX G.T.g
  obtain ⟨f, fd, dl⟩ := D.law
  rw [hdn] at hmg
  have e := dl.m.symm.trans hmg
  cases e
  refine law_at (P := l.prog) KX G.T.g G.T.b G.T.builtins G.T.nolimit hg hobj hints (Nat.le_trans hlen (by decide)) (k := 7) (N := lawN) ⟨rfl, by decide, by decide⟩ dl.fn scLaw (fun s u => ?_) fun base cdv H kin nsB sq rm => ?_
  · obtain ⟨oc, od, kV, doc', pm', an, cdv, ct, osl, rfl, _, _⟩ := dl.fn.ex
    exact .of_eq (bd_law kV doc' pm' an cdv ct [u] rfl)
  · obtain ⟨f1, d1, D1⟩ := D.integer
    obtain ⟨f2, d2, D2⟩ := D.within
    obtain ⟨f3, d3, D3⟩ := D.listed
    obtain ⟨f4, d4, D4⟩ := D.most
    obtain ⟨f5, d5, D5⟩ := D.ending
    obtain ⟨f6, d6, D6⟩ := D.many
    obtain ⟨f7, d7, D7⟩ := D.hand
    obtain ⟨f8, d8, D8⟩ := D.event
    obtain ⟨f9, d9, D9⟩ := D.check
    obtain ⟨f10, d10, D10⟩ := D.put
    obtain ⟨f11, d11, D11⟩ := D.plan
    obtain ⟨f12, d12, D12⟩ := D.choices
    obtain ⟨f13, d13, D13⟩ := D.without
    obtain ⟨f14, d14, D14⟩ := D.left
    obtain ⟨f15, d15, D15⟩ := D.pool
    obtain ⟨f16, d16, D16⟩ := D.draw
    obtain ⟨f17, d17, D17⟩ := D.day
    obtain ⟨f18, d18, D18⟩ := D.lchains
    obtain ⟨f19, d19, D19⟩ := D.lwithout
    obtain ⟨f20, d20, D20⟩ := D.lchoices
    obtain ⟨f21, d21, D21⟩ := D.isRow
    have G1 : FnOk l.prog w (K w.params) mg base CX0 1 f1 d1 ["thing"] spInteger := ok_integer D1.fn T
    have G2 : FnOk l.prog w (K w.params) mg base CX0 2 f2 d2 ["thing", "least", "most"] spWithin := ok_within D2.fn D1.fn D1.b D1.m T
    have G3 : FnOk l.prog w (K w.params) mg base CX0 1 f3 d3 ["thing"] spListed := ok_listed D3.fn T
    have G4 : FnOk l.prog w (K w.params) mg base CX0 1 f4 d4 ["many", "most"] spMost := ok_most D4.fn
    have G5 : FnOk l.prog w (K w.params) mg base CX0 1 f5 d5 ["plan"] spEnding := ok_ending D5.fn T
    have G6 : FnOk l.prog w (K w.params) mg base CX0 2 f6 d6 ["plan"] spMany := ok_many D6.fn G5 D5.fn.kp D5.b D5.m T
    have G7 : FnOk l.prog w (K w.params) mg base CX0 3 f7 d7 ["thing"] spHand := ok_hand D7.fn G2 D2.fn.kp D2.b D2.m T
    have G8 : FnOk l.prog w (K w.params) mg base CX0 4 f8 d8 ["thing"] spEvent := ok_event D8.fn G7 D7.fn.kp D7.b D7.m T
    have G10 : FnOk l.prog w (K w.params) mg base CX0 5 f10 d10 ["thing"] spPut := ok_put D10.fn G8 D8.fn.kp D8.b D8.m
    have G9 : FnOk l.prog w (K w.params) mg base CX0 6 f9 d9 ["day"] spCheck := ok_check D9.fn G3 D3.fn.kp D3.b D3.m G10 D10.fn.kp D10.b D10.m G8 D8.fn.kp D8.b D8.m T
    have G11 : FnOk l.prog w (K w.params) mg base CX0 1 f11 d11 ["day"] spPlan := ok_plan D11.fn T
    have G12 : FnOk l.prog w (K w.params) mg base CX0 1 f12 d12 ["items", "size"] spChoices := ok_choices D12.fn T
    have G13 : FnOk l.prog w (K w.params) mg base CX0 1 f13 d13 ["events", "left"] spWithout := ok_without D13.fn T
    have G14 : FnOk l.prog w (K w.params) mg base CX0 7 f14 d14 ["day", "most"] spLeft := ok_left D14.fn G9 D9.fn.kp D9.b D9.m G1 D1.fn.kp D1.b D1.m G4 D4.fn.kp D4.b D4.m G12 D12.fn.kp D12.b D12.m G6 D6.fn.kp D6.b D6.m G11 D11.fn.kp D11.b D11.m G13 D13.fn.kp D13.b D13.m T
    have G15 : FnOk l.prog w (K w.params) mg base CX0 1 f15 d15 ["_law_script"] (spPool (K w.params)) := ok_pool D15.fn T
    have G16 : FnOk l.prog w (K w.params) mg base CX0 1 f16 d16 ["_law_pool_here", "_law_many"] spDraw := ok_draw D16.fn T
    have G17 : FnOk l.prog w (K w.params) mg base CX0 2 f17 d17 ["_law_pool_here"] spDay := ok_day D17.fn G16 D16.fn.kp D16.b D16.m T
    have G18 : FnOk l.prog w (K w.params) mg base CX0 1 f18 d18 ["_law_events"] spLChains := ok_lchains D18.fn T
    have G19 : FnOk l.prog w (K w.params) mg base CX0 1 f19 d19 ["_law_events", "_law_left"] spLWithout := ok_lwithout D19.fn T
    have G20 : FnOk l.prog w (K w.params) mg base CX0 1 f20 d20 ["_law_events"] spLChoices := ok_lchoices D20.fn T
    have G21 : FnOk l.prog w (K w.params) mg base CX0 1 f21 d21 ["_law_actual", "_law_due"] spIsRow := ok_isRow D21.fn T
    exact body_law G15 D15.fn.kp D15.b D15.m G16 D16.fn.kp D16.b D16.m G17 D17.fn.kp D17.b D17.m G20 D20.fn.kp D20.b D20.m G18 D18.fn.kp D18.b D18.m G19 D19.fn.kp D19.b D19.m G14 D14.fn.kp D14.b D14.m G21 D21.fn.kp D21.b D21.m T sq hlen rm
end Pb

set_option Elab.async false
set_option maxRecDepth 100000
open PySem PySem.W PyProof.Rows
set_option maxRecDepth 100000 in
set_option maxHeartbeats 0 in
theorem PySem.Challenge.cw_putbetween_k15_whole_meets_left_out_holds : PySem.Challenge.rw_putbetween_k15_whole_meets_left_out.Holds := by
  w_on; o_law; k_head; (case hw => w_witness2)
  k_fill
  refine Pb.walk_mine (l := PySem.Challenge.rw_putbetween_k15_whole_meets_left_out) rfl rfl rfl (fun w h Y => PySem.W.kIn_of Y) ?F
  case F =>
    intro w mg h KX G
    refine ⟨?D, ?T⟩
    case D =>
      refine ⟨?d0, ?d1, ?d2, ?d3, ?d4, ?d5, ?d6, ?d7, ?d8, ?d9, ?d10, ?d11, ?d12, ?d13, ?d14, ?d15, ?d16, ?d17, ?d18, ?d19, ?d20, ?d21⟩
      (case d0 => (refine' Pb.df_mk KX G Pb.bd_integer ?a ?l ?c ?k; (case a => k_is); (case l => k_is); (case c => k_is); (case k => k_is)))
      (case d1 => (refine' Pb.df_mk KX G Pb.bd_within ?a ?l ?c ?k; (case a => k_is); (case l => k_is); (case c => k_is); (case k => k_is)))
      (case d2 => (refine' Pb.df_mk KX G Pb.bd_listed ?a ?l ?c ?k; (case a => k_is); (case l => k_is); (case c => k_is); (case k => k_is)))
      (case d3 => (refine' Pb.df_mk KX G Pb.bd_most ?a ?l ?c ?k; (case a => k_is); (case l => k_is); (case c => k_is); (case k => k_is)))
      (case d4 => (refine' Pb.df_mk KX G Pb.bd_ending ?a ?l ?c ?k; (case a => k_is); (case l => k_is); (case c => k_is); (case k => k_is)))
      (case d5 => (refine' Pb.df_mk KX G Pb.bd_many ?a ?l ?c ?k; (case a => k_is); (case l => k_is); (case c => k_is); (case k => k_is)))
      (case d6 => (refine' Pb.df_mk KX G Pb.bd_hand ?a ?l ?c ?k; (case a => k_is); (case l => k_is); (case c => k_is); (case k => k_is)))
      (case d7 => (refine' Pb.df_mk KX G Pb.bd_event ?a ?l ?c ?k; (case a => k_is); (case l => k_is); (case c => k_is); (case k => k_is)))
      (case d8 => (refine' Pb.df_mk KX G Pb.bd_check ?a ?l ?c ?k; (case a => k_is); (case l => k_is); (case c => k_is); (case k => k_is)))
      (case d9 => (refine' Pb.df_mk KX G Pb.bd_put ?a ?l ?c ?k; (case a => k_is); (case l => k_is); (case c => k_is); (case k => k_is)))
      (case d10 => (refine' Pb.df_mk KX G Pb.bd_plan ?a ?l ?c ?k; (case a => k_is); (case l => k_is); (case c => k_is); (case k => k_is)))
      (case d11 => (refine' Pb.df_mk KX G Pb.bd_choices ?a ?l ?c ?k; (case a => k_is); (case l => k_is); (case c => k_is); (case k => k_is)))
      (case d12 => (refine' Pb.df_mk KX G Pb.bd_without ?a ?l ?c ?k; (case a => k_is); (case l => k_is); (case c => k_is); (case k => k_is)))
      (case d13 => (refine' Pb.df_mk KX G Pb.bd_left ?a ?l ?c ?k; (case a => k_is); (case l => k_is); (case c => k_is); (case k => k_is)))
      (case d14 => (refine' Pb.df_mk KX G Pb.bd_pool ?a ?l ?c ?k; (case a => k_is); (case l => k_is); (case c => k_is); (case k => k_is)))
      (case d15 => (refine' Pb.df_mk KX G Pb.bd_draw ?a ?l ?c ?k; (case a => k_is); (case l => k_is); (case c => k_is); (case k => k_is)))
      (case d16 => (refine' Pb.df_mk KX G Pb.bd_day ?a ?l ?c ?k; (case a => k_is); (case l => k_is); (case c => k_is); (case k => k_is)))
      (case d17 => (refine' Pb.df_mk KX G Pb.bd_lchains ?a ?l ?c ?k; (case a => k_is); (case l => k_is); (case c => k_is); (case k => k_is)))
      (case d18 => (refine' Pb.df_mk KX G Pb.bd_lwithout ?a ?l ?c ?k; (case a => k_is); (case l => k_is); (case c => k_is); (case k => k_is)))
      (case d19 => (refine' Pb.df_mk KX G Pb.bd_lchoices ?a ?l ?c ?k; (case a => k_is); (case l => k_is); (case c => k_is); (case k => k_is)))
      (case d20 => (refine' Pb.df_mk KX G Pb.bd_isRow ?a ?l ?c ?k; (case a => k_is); (case l => k_is); (case c => k_is); (case k => k_is)))
      (case d21 => (refine' Pb.df_mk KX G Pb.bd_law ?a ?l ?c ?k; (case a => k_is); (case l => k_is); (case c => k_is); (case k => k_is)))
    case T =>
      refine ⟨?n0, ?n1, ?n2, ?n3, ?n4, ?n5, ?n6, ?n7, ?n8, ?n9, ?n10, ?n11, ?n12, ?c0, ?c1, ?c2, ?c3⟩
      (case n0 => (refine' PySem.W.mg_none_of KX G ?z; (case z => k_is)))
      (case n1 => (refine' PySem.W.mg_none_of KX G ?z; (case z => k_is)))
      (case n2 => (refine' PySem.W.mg_none_of KX G ?z; (case z => k_is)))
      (case n3 => (refine' PySem.W.mg_none_of KX G ?z; (case z => k_is)))
      (case n4 => (refine' PySem.W.mg_none_of KX G ?z; (case z => k_is)))
      (case n5 => (refine' PySem.W.mg_none_of KX G ?z; (case z => k_is)))
      (case n6 => (refine' PySem.W.mg_none_of KX G ?z; (case z => k_is)))
      (case n7 => (refine' PySem.W.mg_none_of KX G ?z; (case z => k_is)))
      (case n8 => (refine' PySem.W.mg_none_of KX G ?z; (case z => k_is)))
      (case n9 => (refine' PySem.W.mg_none_of KX G ?z; (case z => k_is)))
      (case n10 => (refine' PySem.W.mg_none_of KX G ?z; (case z => k_is)))
      (case n11 => (refine' PySem.W.mg_none_of KX G ?z; (case z => k_is)))
      (case n12 => (refine' PySem.W.mg_none_of KX G ?z; (case z => k_is)))
      (case c0 => (refine' Pb.const_mk KX G ?z; (case z => k_is)))
      (case c1 => (refine' Pb.const_mk KX G ?z; (case z => k_is)))
      (case c2 => (refine' Pb.const_mk KX G ?z; (case z => k_is)))
      (case c3 => (refine' Pb.const_mk KX G ?z; (case z => k_is)))
