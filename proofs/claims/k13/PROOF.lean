import PyProof.Rows.All
import Wide.All
import OpenK.AllK
import Wide.FinOn
import HandS.ForMost
import HandS.ForExc
import HandS.Wide
import HandS.Deep
import HandS.IsInst
import HandS.Walk
import HandS.Flow
import HandS.Defaults
import HandS.TupAny
import HandS.ExcCtx
import HandS.SuiteRaise
import HandS.WideBits
import HandS.TupLe
import KE.LtData
import HandS.Rev
import HandS.Zip
import KE.SortData
import HandS.Style
import HandS.TupSets
import KE.GoesEnum
import HandS.ExcInit
import HandS.ExcField
import HandS.ExcIs
import KE.KExcIs
import HandS.More
import HandS.ExcBuiltin
import HandS.TryOnly
import HandS.HeadHook2
import HandS.Head2
import HandS.MakeKw
import HandS.HeadEnd
import HandS.EndBits
import PySem.Challenge.RW_boardsight_k13_boards_refused
set_option Elab.async false
set_option linter.all false
set_option maxHeartbeats 4000000
set_option maxRecDepth 100000
/-! list(reversed(xs)), x < y of lists, min of a list of lists -/
namespace Bs
open PySem PySem.Spec L2
open PyProof.Rows hiding St
abbrev D := PyData

/-! ### list(reversed(xs)) -/
section
variable {prog : Program} {w : World} {A : Around} {E : Value → Shared → Prop} {s : Shared} {R : Result → Shared → Prop}
/-- a new list takes what a backward iterator gives -/
theorem init_back {bi ls nw : Addr} {vs : Array Value} (calm : A.handled = none) (at_ : s.heap.IsRevIter bi ls ((vs.size : Int) - 1)) (src : s.heap.IsList ls vs) (d1 : ls ≠ bi) (d2 : nw ≠ bi) (d3 : nw ≠ ls) (fit : vs.size ≤ sizeLine)
    (em : s.heap.get? nw = some { cls := .type "list", data := .seq #[] })
    (go : ∀ (s' : Shared) (got : Array Value) (m : Nat), (∃ h tk, s' = { s with heap := h, toks := tk }) → (∀ b o, b ≠ bi → b ≠ nw → s.heap.get? b = some o → s'.heap.get? b = some o) → s'.heap.get? nw = some { cls := .type "list", dict := none, data := .seq got m, slots := #[] } →
      ItemsOf (fun i v => vs[vs.size - 1 - i]? = some v) got vs.size → R (.ok (.ret .none)) s') :
    wpAny (model prog w) A.in1 (Builtin.«list.__init__» ⟨[.ref nw, .ref bi], []⟩)
      (fun fin s' => match fin with | .done f => R (.ok f) s' | .again c' => c'.quiet = true ∧ codeAny (model prog w) A c' R s') (fun e s' => R (.error e) s') s := by
  have Wk := (Walks.listRev (prog := prog) (w := w) (A := A.in1) calm bi ls d1 vs).toS
  have out : nw ∉ [bi, ls] := by
    intro hm
    rcases List.mem_cons.mp hm with e | hm
    · exact d2 e
    · exact d3 (List.mem_singleton.mp hm)
  show wpAny _ A.in1 (do
    let before ← Builtin.List.listItems (.ref nw)
    Builtin.List.listUpdate (.ref nw) (fun _ => #[])
    letGo before.toList.reverse
    Builtin.List.listExtendWith (.ref nw) (.ref bi) .none) _ _ s
  refine wpAny_bind ?_
  unfold Builtin.List.listItems
  refine wpAny_bind (wpAny_seqItems em rfl (wpAny_pure ?_))
  show wpAny _ A.in1 (updateSeq nw (fun _ => #[]) >>= fun _ => letGo (#[] : Array Value).toList.reverse >>= fun _ =>
    Builtin.List.listExtendWith (.ref nw) (.ref bi) .none) _ _ s
  refine wpAny_bind (wpAny_updateSeq em rfl ?_)
  have em2 := Heap.get?_update_self (Obj.mapSeq (fun _ => (#[] : Array Value))) em rfl
  have oth : ∀ b o, b ≠ nw → s.heap.get? b = some o → (s.heap.update nw (Obj.mapSeq (fun _ => (#[] : Array Value)))).get? b = some o := fun b o ne eo =>
    (Heap.get?_update_other _ _ (Ne.symm ne)).trans eo
  refine wpAny_bind (wpAny_letGo ?_)
  generalize hh2 : s.heap.update nw (Obj.mapSeq (fun _ => (#[] : Array Value))) = h2 at *
  have at2 : h2.IsRevIter bi ls ((vs.size : Int) - 1) := at_.at fun o eo => oth _ _ (Ne.symm d2) eo
  have src2 : h2.IsList ls vs := src.at fun o eo => oth _ _ (Ne.symm d3) eo
  have ty : ({ s with heap := h2 } : Shared).TypeIs (.ref bi) "list_reverseiterator" := Heap.IsRevIter.typeIs (s := { s with heap := h2 }) at2
  have nsame : Builtin.List.listSameRef (.ref nw) (.ref bi) = false := by simp [Builtin.List.listSameRef, d2]
  unfold Builtin.List.listExtendWith
  refine wpAny_bind (wpAny_typeOf ty ?_)
  rw [if_neg (by rw [nsame]; decide)]
  refine wpAny_bind (wpAny_pyIter_revIter (s := { s with heap := h2 }) at2 ?_)
  refine wpAny_bind (wpAny_holding ?_)
  unfold Builtin.List.listLengthHint
  refine wpAny_bind (wpAny_specialOf ty RT.nolen_lri ?_)
  show wpAny _ A.in1 (specialOf (Value.ref bi) (Str.ofString "__length_hint__") >>= _) _ _ _
  refine wpAny_bind (wpAny_specialOf ty RT.hint_lri ?_)
  generalize hname : ("list_reverseiterator.__length_hint__" : String) = nm
  wp_delta
  rw [show splitId nm = some ("list_reverseiterator", "__length_hint__") from by subst hname; decide +kernel]
  subst hname
  refine wpAny_bind (wpAny_isInstance (b := true) ty (by rw [isSubtype_type]; kernel_rfl) ?_)
  refine wpAny_pure ?_
  rw [if_neg (by decide)]
  have z0 : (vs.size : Int) - 1 - ((0 : Nat) : Int) = (vs.size : Int) - 1 := by omega
  refine wpAny_pure ⟨plainId_quiet F.plain_extend_loop _, codeAny_extend_loopS Wk fit _ out _ vs.size 0 _ _ _ rfl (Nat.zero_le _) ⟨Nat.zero_le _, by rw [z0]; exact at2, src2⟩ em2 (ItemsOf.nil _) fun s' got m mv gS its => ?_⟩
  refine go s' got m ⟨s'.heap, s'.toks, by have e := Moved.eq_with mv; exact e⟩ (fun b o n1 n2 eo => mv.heap b o (fun hm => ?_) (oth b o n2 eo)) gS its
  rcases List.mem_cons.mp hm with e | hm
  · exact n2 e
  · exact n1 (List.mem_singleton.mp hm)
theorem call_list_back {bi ls : Addr} {vs : Array Value} {Q : Value → Shared → Prop} (calm : A.handled = none) (at_ : s.heap.IsRevIter bi ls ((vs.size : Int) - 1)) (src : s.heap.IsList ls vs) (d1 : ls ≠ bi) (fit : vs.size ≤ sizeLine)
    (go : ∀ (h : Heap) (tk : Nat) (got : Array Value) (m : Nat), (∀ b o, b ≠ bi → s.heap.get? b = some o → h.get? b = some o) → h.get? s.heap.objs.size = some { cls := .type "list", dict := none, data := .seq got m, slots := #[] } →
      ItemsOf (fun i v => vs[vs.size - 1 - i]? = some v) got vs.size → Q (.ref s.heap.objs.size) { s with heap := h, toks := tk }) :
    wpAny (model prog w) A (call (.type "list") [.ref bi]) Q E s := by
  obtain ⟨oi, hoi, _⟩ := id at_
  obtain ⟨ol, hol, _⟩ := id src
  have l1 : s.heap.objs.size ≠ bi := Nat.ne_of_gt (Heap.lt_size hoi)
  have l2 : s.heap.objs.size ≠ ls := Nat.ne_of_gt (Heap.lt_size hol)
  refine callType_codes (Q₁ := fun x s₁ => x = .ref s.heap.objs.size ∧ s₁ = { s with heap := s.heap.push { cls := .type "list", data := .seq #[] } }) F.called_list (F.typeCall_list_1 _) F.entry_list_init
    (code_list_new _ ⟨rfl, rfl⟩) fun x s₁ hx => ?_
  obtain ⟨rfl, rfl⟩ := hx
  have gN : (s.heap.push { cls := .type "list", data := .seq #[] }).get? s.heap.objs.size = some { cls := .type "list", data := .seq #[] } := Heap.get?_push_size _ rfl
  refine ⟨⟨_, gN, rfl⟩, F.args_list_init_2 _ _, init_back (s := { s with heap := s.heap.push { cls := .type "list", data := .seq #[] } }) calm (at_.at fun o eo => Heap.get?_push_of_some _ eo) (src.push _) d1 l1 l2 fit gN fun s' got m ⟨h, tk, es⟩ old gS its => ?_⟩
  subst es
  exact ⟨rfl, go h tk got m (fun b o ne eo => old b o ne (fun z => absurd (Heap.lt_size eo) (by rw [z]; exact Nat.lt_irrefl _)) (Heap.get?_push_of_some _ eo)) gS its⟩
end
/-- list(reversed(x)), x a list: a new list -/
def tLstRev (K : PySem.W.Frag) (te : TE) : TE := fun σ H Q => te σ H fun v H1 => ∃ (a : Addr) (xs : List V), v = .ref a ∧ SqL K H1 a xs ∧ ∀ q, H1 q = none → Q (.ref q) (upd H1 q (.lst xs.reverse))
section
variable {X : Cx}
theorem pe_lstRev {e : Expr} {te : TE} {p p2 pos pos2 : Pos} (hc : X.calm = true) (hg : Gl X "list") (hm : X.mg "list" = none) (hg2 : Gl X "reversed") (hm2 : X.mg "reversed" = none) (he : PE X e te)
    (st1 : starEach [e] X.env = (false, eval e X.env) :: starEach [] X.env := by rfl)
    (st2 : starEach [.Call (.Name "reversed" p2) [e] [] pos2] X.env = (false, eval (.Call (.Name "reversed" p2) [e] [] pos2) X.env) :: starEach [] X.env := by rfl) :
    PE X (.Call (.Name "list" p) [.Call (.Name "reversed" p2) [e] [] pos2] [] pos) (tLstRev X.K te) := by
  refine ⟨fun pins s σ H Q Iv h => ?_⟩
  refine Call_ (ld_blt Iv hg hm boot_list (PyProof.Rows.callWith_type1 (args_cons (Call_ (ld_blt Iv hg2 hm2 PyProof.Rows.boot_reversed (PyProof.Rows.callWith_type1 (args_cons (thn (he.run pins s σ H _ Iv h) fun u s1 ⟨v, H1, J1, r1, q1⟩ => args_nil ?_) st1) st1 rfl))) st2) st2 rfl))
  obtain ⟨a, xs, ev, hq, q⟩ := q1
  subst ev
  obtain rfl : u = Value.ref a := r1
  obtain ⟨its, rv, pl, hz⟩ := J1.list hq
  refine call_reversed_list pl.isList (args_nil ?_)
  have src := pl.isList
  obtain ⟨ol, hol, _⟩ := id src
  have ne : a ≠ s1.heap.objs.size := Nat.ne_of_lt (Heap.lt_size hol)
  have fit : its.toArray.size ≤ sizeLine := by rw [List.size_toArray, ← rv.length]; exact hz
  refine call_list_back (s := { s1 with heap := s1.heap.push (revObj a ((its.toArray.size : Int) - 1)) }) (J1.ok.hd hc) ⟨_, Heap.get?_push_size _ rfl, rfl, rfl⟩ (src.push _) ne fit fun hp tk got m old gS hi => ?_
  have sz : (s1.heap.push (revObj a ((its.toArray.size : Int) - 1))).objs.size = s1.heap.objs.size + 1 := Heap.size_push ..
  have kept : ∀ b o, s1.heap.get? b = some o → hp.get? b = some o := fun b o eo => old b o (fun z => absurd (Heap.lt_size eo) (by rw [z]; exact Nat.lt_irrefl _)) (Heap.get?_push_of_some _ eo)
  have vr := RT.vals_rev rv hi
  refine ⟨.ref _, upd H1 (s1.heap.push (revObj a ((its.toArray.size : Int) - 1))).objs.size (.lst xs.reverse), J1.laid (t' := tk) kept (by rw [sz]; exact Nat.le_succ _) (show ObjOk X.prog X.w _ _ _ (.lst xs.reverse) from ⟨by rw [List.length_reverse]; exact hz, got.toList, m, vr, ?_⟩), rfl, q _ (J1.hok.fresh (by rw [sz]; exact Nat.le_succ _))⟩
  rw [Array.toArray_toList]
  exact gS
end

/-! ### x < y, data alike -/
def rLtD (K : PySem.W.Frag) : R2 := fun x y H Q => ∃ d e, Dp K H x d ∧ Dp K H y e ∧ PySem.W.alike d e = true ∧ d ≠ .none ∧ min d.depth e.depth ≤ 64 ∧ Q (.bl (PySem.W.dataLt d e)) H
theorem op_ltD {X : Cx} (hu : X.A.units + 65 < cLine) : OpR X (compareOp .Lt) (rLtD X.K) := by
  intro pins s σ H x y v u Q Iv rx ry h
  obtain ⟨d, e, hd, he, al, nn, dep, q⟩ := h
  obtain ⟨as, r1⟩ := Dp.reads Iv d x v hd rx
  obtain ⟨bs, r2⟩ := Dp.reads Iv e y u he ry
  exact PySem.W.rcLt_alike d e X.A s v u as bs r1 r2 al nn (by omega) X.prog X.w _ _ ⟨.bl _, H, Iv, rfl, q⟩

/-! ### min of a list of data alike -/
section
variable {prog : Program} {w : World} {A : Around} {E : Value → Shared → Prop} {R : Result → Shared → Prop} {I : Addr} {fp wr : List Addr} {n : Nat} {P : Nat → Value → Prop} {St : Nat → Heap → Prop}
/-- all that stood still stands -/
def Stands (g h : Heap) : Prop := ∀ b o, g.get? b = some o → h.get? b = some o
/-- which of two is less, wherever a heap stands -/
def LessOn (prog : Program) (w : World) (A : Around) (g : Heap) (P : Nat → Value → Prop) (bt : Nat → Nat → Bool) : Prop :=
  ∀ i j x y (s : Shared) (Q E : Value → Shared → Prop), Stands g s.heap → P i x → P j y → Q (.bool (bt i j)) s → wpAny (model prog w) A (richCompare .Lt x y) Q E s
theorem min_rest (Wk : Walks prog w A.in1 I fp wr n P St) {g : Heap} {bt : Nat → Nat → Bool} (less : LessOn prog w A.in1 g P bt) {C : Addr} (co : C ∉ fp) (gw : ∀ b ∈ wr, g.get? b = none) (gC : g.get? C = none) :
    ∀ (left j : Nat) (s : Shared) (best : Value) (c : Nat), n - (j + 1) = left → j + 1 ≤ n → St (j + 1) s.heap → P (argBest bt j) best → Stands g s.heap →
    s.heap.get? C = some { cls := .type "list", dict := none, data := .seq #[best, best] c, slots := #[] } →
    (∀ v h tk, P (argBest bt (n - 1)) v → Stands g h → R (.ok (.ret v)) { s with heap := h, toks := tk }) →
    codeAny (model prog w) A (.builtin "min.loop" ⟨[.ref I, .none, .ref C], []⟩) R s := by
  have cw : C ∉ wr := fun z => co (Wk.sub _ z)
  have nm : (toString "min" ++ toString ".loop" : String) = "min.loop" := by decide
  have on : ∀ {h h' : Heap}, Stands g h → (∀ b o, b ∉ wr → h.get? b = some o → h'.get? b = some o) → Stands g h' := fun k m b o eo => m b o (fun z => by rw [gw b z] at eo; cases eo) (k b o eo)
  have onC : ∀ {h : Heap} {f : Obj → Obj}, Stands g h → Stands g (h.update C f) := fun k b o eo => (Heap.get?_update_other _ _ (fun z => by rw [← z, gC] at eo; cases eo)).trans (k b o eo)
  intro left
  induction left with
  | zero =>
    intro j s best c el lj st pb kp eC fin
    have jn : j + 1 = n := by omega
    refine codeAny_builtin F.entry_min_loop ?_
    rw [Around.under_plainId F.plain_min_loop _]
    show wpAny _ A.in1 (seqItems? (.ref C) >>= _) _ _ s
    refine wpAny_bind (wpAny_seqItems eC rfl ?_)
    show wpAny _ A.in1 (tryCatch (pyNext (.ref I)) _ >>= _) _ _ s
    refine wpAny_bind (wpAny_tryCatch (Wk.done s _ _ (jn ▸ st) fun h' tk mv => ?_))
    have eC' := mv C _ cw eC
    show wpAny _ A.in1 (updateSeq C (fun _ => #[]) >>= _) _ _ _
    refine wpAny_bind ?_
    refine wpAny_updateSeq eC' rfl (wpAny_bind (wpAny_letGo (wpAny_pure ?_)))
    exact fin best _ tk (by rw [← jn]; exact pb) (onC (on kp mv))
  | succ left ih =>
    intro j s best c el lj st pb kp eC fin
    have jn : j + 1 < n := by omega
    refine codeAny_builtin F.entry_min_loop ?_
    rw [Around.under_plainId F.plain_min_loop _]
    show wpAny _ A.in1 (seqItems? (.ref C) >>= _) _ _ s
    refine wpAny_bind (wpAny_seqItems eC rfl ?_)
    show wpAny _ A.in1 (tryCatch (pyNext (.ref I)) _ >>= _) _ _ s
    refine wpAny_bind (wpAny_tryCatch (Wk.item (j + 1) s _ _ jn st fun x h' tk px st' mv => ?_))
    have eC' := mv C _ cw eC
    have kp' := on kp mv
    show wpAny _ A.in1 (tryCatch (holding [x, x] (richCompare .Lt x best >>= _)) _ >>= _) _ _ _
    refine wpAny_bind (wpAny_tryCatch (wpAny_holding (wpAny_bind (less (j + 1) (argBest bt j) x best _ _ _ kp' px pb ?_))))
    refine wpAny_bind (wpAny_holding (wpAny_truthy_bool ?_))
    refine wpAny_bind (wpAny_letGo (wpAny_pure ?_))
    by_cases lt : bt (j + 1) (argBest bt j) = true
    · simp only [lt, if_true]
      refine wpAny_bind ?_
      refine wpAny_updateSeq eC' rfl (wpAny_bind (wpAny_letGo ?_))
      rw [nm]
      refine wpAny_pure ⟨plainId_quiet F.plain_min_loop _, ih (j + 1) _ x _ (by omega) jn ?_ ?_ (onC kp') (Heap.get?_update_self _ eC' rfl) fun v h2 tk2 pv k2 => fin v h2 tk2 pv k2⟩
      · exact Wk.frame _ _ _ st' fun b bf o eo => (Heap.get?_update_other _ _ (fun z : C = b => co (by rw [z]; exact bf))).trans eo
      · simp only [argBest, lt, if_true]
        exact px
    · have lt : bt (j + 1) (argBest bt j) = false := by simpa using lt
      simp only [lt, Bool.false_eq_true, if_false]
      refine wpAny_bind (wpAny_letGo ?_)
      rw [nm]
      refine wpAny_pure ⟨plainId_quiet F.plain_min_loop _, ih (j + 1) _ best c (by omega) jn st' ?_ kp' eC' fun v h2 tk2 pv k2 => fin v h2 tk2 pv k2⟩
      simp only [argBest, lt, Bool.false_eq_true, if_false]
      exact pb
variable {s : Shared} {ls : Addr} {vs : Array Value}
theorem min_list {bt : Nat → Nat → Bool} {Q : Value → Shared → Prop} (calm : A.handled = none) (src : s.heap.IsList ls vs) (some_ : 0 < vs.size) (less : LessOn prog w A.in1 s.heap (fun i v => vs[i]? = some v) bt)
    (fin : ∀ v h tk, vs[argBest bt (vs.size - 1)]? = some v → Stands s.heap h → Q v { s with heap := h, toks := tk }) : wpAny (model prog w) A (call (.builtin "min") [.ref ls]) Q E s := by
  have nm : (toString "min" ++ toString ".loop" : String) = "min.loop" := by decide
  have lt0 : ls < s.heap.objs.size := by
    obtain ⟨_, eo, _⟩ := src
    exact Heap.lt_size eo
  refine call_function_tree F.kind_min F.plain_min F.entry_min (F.args_min1 _) ?_
  show wpAny _ A.in1 (Builtin.Builtins.bindParams "min" ["key", "default"] 0 ⟨[], []⟩ >>= _) _ _ s
  refine wpAny_bind (wpAny_of_eq (show Builtin.Builtins.bindParams "min" ["key", "default"] 0 ⟨[], []⟩ = pure [none, none] from rfl) ?_)
  refine wpAny_bind (wpAny_pure ?_)
  refine wpAny_bind (wpAny_pyIter_list src ?_)
  have g1 : ∀ b, s.heap.objs.size ≤ b → s.heap.get? b = none := fun b hb => by
    cases q : s.heap.get? b with
    | none => rfl
    | some o => exact absurd (Heap.lt_size q) (Nat.not_lt.mpr hb)
  generalize hh1 : s.heap.push { cls := .type "list_iterator", data := .fields #[.ref ls, .int 0 0] } = h1
  have it1 : h1.IsListIter s.heap.objs.size ls 0 := by rw [← hh1]; exact ⟨_, Heap.get?_push_size _ rfl, rfl, rfl⟩
  have src1 : h1.IsList ls vs := by rw [← hh1]; exact src.push _
  have st1 : Stands s.heap h1 := fun b o eo => by rw [← hh1]; exact Heap.get?_push_of_some _ eo
  have sz1 : h1.objs.size = s.heap.objs.size + 1 := by rw [← hh1]; exact Heap.size_push ..
  have Wk := Walks.list (prog := prog) (w := w) (A := A.in1) calm s.heap.objs.size ls (Nat.ne_of_lt lt0) vs
  refine wpAny_bind (wpAny_newObj_type ?_)
  have st2 : Stands s.heap (h1.push { cls := .type "list", data := .seq #[] }) := fun b o eo => Heap.get?_push_of_some _ (st1 b o eo)
  have it2 : (h1.push { cls := .type "list", data := .seq #[] }).IsListIter s.heap.objs.size ls 0 := it1.at fun o eo => Heap.get?_push_of_some _ eo
  have src2 : (h1.push { cls := .type "list", data := .seq #[] }).IsList ls vs := src1.push _
  have out : h1.objs.size ∉ [s.heap.objs.size, ls] := by
    intro hm
    rcases List.mem_cons.mp hm with e | hm
    · omega
    · have e := List.mem_singleton.mp hm
      have q : ls < h1.objs.size := by rw [sz1]; exact Nat.lt_succ_of_lt lt0
      rw [e] at q
      exact Nat.lt_irrefl _ q
  have gw : ∀ b ∈ [s.heap.objs.size], s.heap.get? b = none := fun b hb => g1 b (by rw [List.mem_singleton.mp hb]; exact Nat.le_refl _)
  have gC : s.heap.get? h1.objs.size = none := g1 _ (by omega)
  have gE : (h1.push { cls := .type "list", data := .seq #[] }).get? h1.objs.size = some { cls := .type "list", data := .seq #[] } := Heap.get?_push_size _ rfl
  rw [nm]
  refine wpAny_pure ⟨plainId_quiet F.plain_min_loop _, ?_⟩
  generalize hh2 : h1.push { cls := .type "list", data := .seq #[] } = h2 at *
  refine codeAny_builtin F.entry_min_loop ?_
  rw [Around.under_plainId F.plain_min_loop _]
  show wpAny _ A.in1 (seqItems? (.ref h1.objs.size) >>= _) _ _ _
  refine wpAny_bind (wpAny_seqItems gE rfl ?_)
  show wpAny _ A.in1 (tryCatch (pyNext (.ref s.heap.objs.size)) _ >>= _) _ _ _
  refine wpAny_bind (wpAny_tryCatch (Wk.item 0 _ _ _ some_ ⟨it2, src2⟩ fun x h' tk px st' mv => ?_))
  have gE' := mv _ _ (fun z => out (List.mem_cons.mpr (.inl (List.mem_singleton.mp z)))) gE
  have kp : Stands s.heap h' := fun b o eo => mv b o (fun z => by rw [gw b z] at eo; cases eo) (st2 b o eo)
  show wpAny _ A.in1 (updateSeq h1.objs.size (fun _ => #[x, x]) >>= _) _ _ _
  refine wpAny_bind ?_
  refine wpAny_updateSeq gE' rfl ?_
  rw [nm]
  refine wpAny_pure ⟨plainId_quiet F.plain_min_loop _, min_rest Wk less out gw gC _ 0 _ x _ rfl some_ ?_ px ?_ (Heap.get?_update_self _ gE' rfl) fun v h3 tk3 pv k3 => fin v h3 tk3 pv k3⟩
  · exact Wk.frame _ _ _ st' fun b bf o eo => (Heap.get?_update_other _ _ (fun z : h1.objs.size = b => out (by rw [z]; exact bf))).trans eo
  · exact fun b o eo => (Heap.get?_update_other _ _ (fun z => by rw [← z, gC] at eo; cases eo)).trans (kp b o eo)
end
/-- the place of the least one -/
def leastAt (ds : List D) : Nat := argBest (fun i j => PySem.W.dataLt (ds.getD i .none) (ds.getD j .none)) (ds.length - 1)
def rMinD (K : PySem.W.Frag) : List V → Hp → VK → Prop := fun vs H Q => ∃ (a : Addr) (xs : List V) (ds : List D), vs = [.ref a] ∧ SqL K H a xs ∧ DpAll K H xs ds ∧ ds ≠ [] ∧ (∀ d ∈ ds, ∀ e ∈ ds, PySem.W.alike d e = true) ∧ (∀ d ∈ ds, d ≠ .none ∧ d.depth ≤ 60) ∧
  ∀ v, xs[leastAt ds]? = some v → Q v H
theorem reads_all_get {h : Heap} : ∀ {vs : List Value} {ds : List D} {as : List Addr} {i : Nat} {v : Value}, ReadsAll h vs ds as → vs[i]? = some v → ∃ d bs, ds[i]? = some d ∧ Reads h v d bs
  | _, _, _, _, _, .nil, e => by simp at e
  | _, _, _, 0, _, .cons r _, e => by
    simp at e
    subst e
    exact ⟨_, _, rfl, r⟩
  | _, _, _, i + 1, _, .cons _ t, e => by
    obtain ⟨d, bs, q1, q2⟩ := reads_all_get (i := i) t (by simpa using e)
    exact ⟨d, bs, by simpa using q1, q2⟩
mutual
theorem reads_on {g h : Heap} (st : Stands g h) : ∀ {v : Value} {d : D} {as : List Addr}, Reads g v d as → Reads h v d as
  | _, _, _, .none => .none
  | _, _, _, .bool b => .bool b
  | _, _, _, .int i t => .int i t
  | _, _, _, .str x t => .str x t
  | _, _, _, .list e c q r => .list (st _ _ e) c q (readsAll_on st r)
  | _, _, _, .tuple e c q r => .tuple (st _ _ e) c q (readsAll_on st r)
  | _, _, _, .dict e c q r r' => .dict (st _ _ e) c q (readsAll_on st r) (readsAll_on st r')
theorem readsAll_on {g h : Heap} (st : Stands g h) : ∀ {vs : List Value} {ds : List D} {as : List Addr}, ReadsAll g vs ds as → ReadsAll h vs ds as
  | _, _, _, .nil => .nil
  | _, _, _, .cons a b => .cons (reads_on st a) (readsAll_on st b)
end
theorem argBest_le (bt : Nat → Nat → Bool) : ∀ k, argBest bt k ≤ k
  | 0 => Nat.le_refl _
  | k + 1 => by
    unfold argBest
    split
    · exact Nat.le_refl _
    · exact Nat.le_succ_of_le (argBest_le bt k)
theorem dpAll_len {K : PySem.W.Frag} {H : Hp} : ∀ {xs : List V} {ds : List D}, DpAll K H xs ds → xs.length = ds.length
  | _, _, .nil => rfl
  | _, _, .cons _ t => congrArg Nat.succ (dpAll_len t)
theorem cr_minD {X : Cx} (hc : X.calm = true) (hu : X.A.units + 65 < cLine) : CallR X (.builtin "min") (rMinD X.K) := by
  intro pins s σ H vs us Q Iv r h
  obtain ⟨a, xs, ds, rfl, hs, hd, ne, al, nd, q⟩ := h
  obtain ⟨its, rv, hl, _⟩ := Iv.list hs
  rw [Vals.ref1 r]
  obtain ⟨as, rd⟩ := Dp.readsAll Iv ds xs its hd rv
  have l1 := dpAll_len hd
  have l2 := rv.length
  have l0 : 0 < ds.length := List.length_pos_iff.mpr ne
  have sz : its.toArray.size = ds.length := by rw [List.size_toArray]; omega
  refine min_list (Iv.ok.hd hc) hl.isList (by omega) (bt := fun i j => PySem.W.dataLt (ds.getD i .none) (ds.getD j .none)) (fun i j x y s' Q' E' st px py hq => ?_) fun v h tk pv k => ?_
  · have px : its[i]? = some x := by simpa using px
    have py : its[j]? = some y := by simpa using py
    obtain ⟨d, bs, e1, r1⟩ := reads_all_get rd px
    obtain ⟨e, cs, e2, r2⟩ := reads_all_get rd py
    have m1 : d ∈ ds := List.mem_of_getElem? e1
    have m2 : e ∈ ds := List.mem_of_getElem? e2
    have dd := nd d m1
    have g1 : ds.getD i .none = d := by rw [List.getD_eq_getElem?_getD, e1]; rfl
    have g2 : ds.getD j .none = e := by rw [List.getD_eq_getElem?_getD, e2]; rfl
    have hq : Q' (.bool (PySem.W.dataLt (ds.getD i .none) (ds.getD j .none))) s' := hq
    rw [g1, g2] at hq
    exact PySem.W.rcLt_alike d e X.A.in1 s' x y bs cs (reads_on st r1) (reads_on st r2) (al d m1 e m2) dd.1 (by
      have := dd.2
      show X.A.units + 1 + _ < cLine
      omega) X.prog X.w E' Q' hq
  · rw [sz] at pv
    have pv : its[leastAt ds]? = some v := by unfold leastAt; simpa using pv
    have kl : leastAt ds < xs.length := by
      have := argBest_le (fun i j => PySem.W.dataLt (ds.getD i .none) (ds.getD j .none)) (ds.length - 1)
      unfold leastAt
      omega
    have ex : xs[leastAt ds]? = some xs[leastAt ds] := List.getElem?_eq_getElem kl
    obtain ⟨u, hu', ru⟩ := rv.get ex
    rw [pv] at hu'
    cases hu'
    exact ⟨_, H, Iv.kept k, ru, q _ ex⟩

/-! ### list * int, any list -/
theorem mul_list_wide (l : Addr) (vs : Array Value) (n : Nat) (sl : Array (Option Value)) (k : Int) (u : Tok) (c0 : ¬(!Builtin.List.listFitsIndex k) = true) (c1 : ¬vs.size * k.toNat > (2 ^ 63 - 1) / 8) (c2 : ¬Builtin.List.listTooLong (vs.size * k.toNat) = true) :
    Meets (Builtin.«list.__mul__» ⟨[.ref l, .int k u], []⟩) (fun _ R s => s.heap.get? l = some { cls := .type "list", dict := none, data := .seq vs n, slots := sl } ∧
      R (.ok (.ret (Value.ref s.heap.objs.size))) { s with heap := s.heap.push { cls := Value.type "list", data := Data.seq (List.foldl (fun a b => a ++ b) #[] (List.replicate (if vs.isEmpty = true then 0 else k.toNat) vs)) }, toks := s.toks }) :=
  .of_wp fun prog w A R s h => by
    obtain ⟨hp, g, d, tk, os⟩ := s
    obtain ⟨hl, h⟩ := h
    have fits := AutoListH.joined_fits c2
    wp_walk using wpAny_loadPart' hl
    refine wpAny_ite_false (decide_eq_false (Nat.not_lt.mpr fits)) ?_
    wp_walk using wpAny_loadPart' hl
    exact ⟨_, rfl, h⟩
theorem rmul_list_wide (k : Int) (t : Tok) (l : Addr) (vs : Array Value) (n : Nat) (sl : Array (Option Value)) :
    Meets (Builtin.«int.__rmul__» ⟨[.int k t, .ref l], []⟩) (fun _ R s => s.heap.get? l = some { cls := .type "list", dict := none, data := .seq vs n, slots := sl } ∧ R (.ok (.ret Value.notImplemented)) s) :=
  .of_wp fun prog w A R s h => by
    obtain ⟨hp, g, d, tk, os⟩ := s
    obtain ⟨hl, h⟩ := h
    wp_walk using wpAny_loadPart' hl
    exact ⟨_, rfl, h⟩
def rRepL (K : PySem.W.Frag) : R2 := fun x y H Q => ∃ l k xs, x = .ref l ∧ y = .int k ∧ SqL K H l xs ∧ k ≤ 1000 ∧ -1000 ≤ k ∧ xs.length ≤ 1000 ∧ ∀ p, H p = none → Q (.ref p) (upd H p (.lst (List.replicate k.toNat xs).flatten))
theorem op_repL {X : Cx} : OpR X (binaryOp .Mult) (rRepL X.K) := by
  intro pins s σ H x y v u Q Iv rx ry h
  obtain ⟨l, k, xs, rfl, rfl, hH, k1, k2, kl, q⟩ := h
  cases rx
  obtain ⟨t, rfl⟩ := ry
  obtain ⟨its, rv, ⟨⟨cls, dd, dt, sl⟩, n, ho, hc, hd, hdt⟩, _⟩ := Iv.list hH
  simp only at hc hd hdt
  subst hc hd hdt
  have le := rv.length
  have sm : (sizeLine : Nat) ≤ (2 ^ 63 - 1) / 8 := by decide
  have sm2 : (1000000 : Nat) ≤ sizeLine := by decide
  have many : its.toArray.size * k.toNat ≤ 1000000 := by
    rw [List.size_toArray, ← le]
    exact Nat.le_trans (Nat.mul_le_mul kl (show k.toNat ≤ 1000 by omega)) (by decide)
  have cap : ¬ its.toArray.size * k.toNat > (2 ^ 63 - 1) / 8 := by omega
  have fit : ¬ (!Builtin.List.listFitsIndex k) = true := by
    rw [fitsIndex_both (by omega) (by omega)]
    exact Bool.false_ne_true
  have long : ¬ Builtin.List.listTooLong (its.toArray.size * k.toNat) = true := by
    rw [notLongL (by omega)]
    exact Bool.false_ne_true
  have new : List.foldl (fun a b => a ++ b) #[] (List.replicate (if its.toArray.isEmpty = true then 0 else k.toNat) its.toArray) = (List.replicate k.toNat its).flatten.toArray := by
    have f0 : ∀ m : Nat, List.foldl (fun a b => a ++ b) #[] (List.replicate m its.toArray) = (List.replicate m its).flatten.toArray := fun m => by
      have := L2.foldl_rep its m []
      rw [List.nil_append] at this
      exact this
    rw [f0]
    cases its with
    | nil => simp
    | cons a r => rw [if_neg (by simp)]
  refine wpAny_binaryOp_repeat_ref (T := "list") (U := "int") (by decide) ⟨_, ho, rfl⟩ (fun s' => typeIs_int s' k t) noFill_list_mul PySem.F.fills_int_mul PySem.F.slot_int_rmul repeat_list PySem.F.slot_int_index.lookup
    (call_meets PySem.F.slot_int_rmul (typeIs_int s k t) PySem.F.entry_int_rmul (PySem.F.args_int_rmul_2 _ _) (rmul_list_wide k t l its.toArray n sl)
      ⟨ho, rfl, ⟨_, ho, rfl⟩, call_meets PySem.F.slot_list_mul ⟨_, ho, rfl⟩ PySem.F.entry_list_mul (PySem.F.args_list_mul_2 _ _) (mul_list_wide l its.toArray n sl k t fit cap long) ⟨ho, ?_⟩⟩)
  rw [new]
  exact ⟨.ref _, _, Iv.lnew (t' := s.toks) (rv.rep k.toNat) (by rw [PyProof.Rows.lm_len_rep_flat, le, Nat.mul_comm, ← List.size_toArray]; omega), rfl, q _ Iv.fresh⟩
end Bs

/-! sorted(xs) of a list or a tuple of data alike -/
namespace Bs
open PySem PySem.Spec L2 PySem.Calls PySem.W
open PyProof.Rows hiding St
section
variable {prog : Program} {w : World} {A : Around} {E : Value → Shared → Prop} {s : Shared}
theorem collect_tup {l : Addr} {vs : List Value} {Q : List Value → Shared → Prop} (hl : IsTup s.heap l vs.toArray)
    (h : Q vs { s with heap := (s.heap.push (seqObj "list" #[] 0)).update s.heap.objs.size (Obj.mapSeq (· ++ vs.toArray)) }) (hsz : vs.length ≤ sizeLine) :
    wpAny (model prog w) A (collect (.ref l)) Q E s := by
  obtain ⟨o, ho, hc, n, hd⟩ := id hl
  unfold collect
  refine wpAny_bind (wpAny_runValue (codeAny_builtin entry_proto_collect' ?_))
  show wpAny _ _ (do again (.builtin "list.__iadd__" ⟨[← newList [], .ref l], []⟩)) _ _ s
  refine wpAny_bind (wpAny_newList (wpAny_pure ⟨Code.quiet_builtin _ (by decide +kernel), codeAny_builtin entry_list_iadd' ?_⟩))
  show wpAny _ _ (Builtin.List.listExtendWith (.ref s.heap.objs.size) (.ref l) (.ref s.heap.objs.size)) _ _ { s with heap := s.heap.push (seqObj "list" #[] 0) }
  unfold Builtin.List.listExtendWith
  have ho' : (s.heap.push (seqObj "list" #[] 0)).get? l = some o := Heap.get?_push_of_some _ ho
  refine wpAny_bind (wpAny_typeOf (T := "tuple") ⟨o, ho', hc⟩ ?_)
  have ht : (Value.type "tuple" == Value.type "tuple") = true := by rfl
  rw [if_pos (by rw [ht]; simp)]
  refine wpAny_bind (listItems_at ho' hd ?_)
  refine wpAny_bind (listItems_at (xs := #[]) (n := 0) (Heap.get?_push_size _ rfl) rfl ?_)
  rw [if_neg (by simp)]
  refine wpAny_bind (listUpdate_at (xs := #[]) (n := 0) (Heap.get?_push_size _ rfl) rfl ?_ (Nat.zero_le _) (by show (#[] ++ vs.toArray).size ≤ sizeLine + 1; simp only [Array.size_append, List.size_toArray, List.length_nil]; omega))
  refine wpAny_pure ?_
  show wpAny (model prog w) A (do
      let o ← load s.heap.objs.size
      match o.data with
      | .seq xs _ => pure xs.toList
      | _ => unsupported "internal:collect") Q E { s with heap := (s.heap.push (seqObj "list" #[] 0)).update s.heap.objs.size (Obj.mapSeq (· ++ vs.toArray)) }
  refine wpAny_bind (wpAny_load (get?_update_seq (Heap.get?_push_size _ rfl) _) ?_)
  show wpAny _ _ (pure ((#[] : Array Value) ++ vs.toArray).toList) Q E _
  rw [show ((#[] : Array Value) ++ vs.toArray).toList = vs by simp]
  exact wpAny_pure h
theorem sorted_tup {l : Addr} {vs : List Value} {Q : Value → Shared → Prop} (hl : IsTup s.heap l vs.toArray) {κ : PyProof.Rows.KeyKind} (S : SortsAt prog w A.in1.in1 { s with heap := sortingHeap (copyHeap s.heap vs) (s.heap.objs.size + 1) vs } κ vs) (hL : vs.length ≤ sizeLine)
    (h : Q (.ref (s.heap.objs.size + 1)) { s with heap := sortedAll s.heap vs (sortVals κ false vs vs).toArray }) : wpAny (model prog w) A (call (.builtin "sorted") [.ref l]) Q E s := by
  refine call_function_entry_kw kind_sorted plain_sorted entry_sorted (args_sorted1 _) ?_
  unfold Builtin.«sorted»
  refine wpAny_bind (m := checkCount "sorted" 1 1 _) (wpAny_pure ?_)
  refine wpAny_bind (collect_tup hl ?_ hL)
  refine wpAny_bind (wpAny_newList ?_ hL)
  have hsz : ((s.heap.push (seqObj "list" #[] 0)).update s.heap.objs.size (Obj.mapSeq (· ++ vs.toArray))).objs.size = s.heap.objs.size + 1 := by
    rw [Heap.size_update, size_push']
  show wpAny _ _ _ _ _ { s with heap := copyHeap s.heap vs }
  rw [hsz]
  refine wpAny_bind (wpAny_holding (wpAny_call_entry_kw slot_list_sort ⟨_, copyHeap_at s.heap vs, rfl⟩ entry_list_sort ?body (args_list_sort _)))
  case body =>
    show wpAny (model prog w) A.in1.in1 (Builtin.«list.sort» ⟨[.ref (s.heap.objs.size + 1)], []⟩) _ _ _
    refine wpAny_mono (list_sort_vals (s := { s with heap := copyHeap s.heap vs }) (P := fun f s' => f = .done (.ret .none) ∧ Q (.ref (s.heap.objs.size + 1)) s') (copyHeap_at s.heap vs) S hL ⟨rfl, h⟩) (fun f s' hf => ?_) fun _ _ e => e
    obtain ⟨rfl, hq⟩ := hf
    exact ⟨_, rfl, wpAny_pure ⟨_, rfl, hq⟩⟩
theorem sorted_dataT {β : Type} {vs : List Value} {bs : List β} {enc : β → PyData} {R : Value → β → Prop} {l : Addr} {Q : Value → Shared → Prop} (hl : s.heap.IsList l vs.toArray ∨ IsTup s.heap l vs.toArray) (e : EachIs R vs bs) (er : EachIs (fun v b => ∃ as, Reads s.heap v (enc b) as) vs bs) (hal : AllAlike (bs.map enc)) (hk : Sortable (bs.map enc)) (hL : bs.length ≤ sizeLine)
    (hu : ∀ b, b ∈ bs → A.units + 2 + (enc b).depth < cLine) (h : ∀ out, out.length = bs.length → EachIs R out (bs.mergeSort (dataLe false enc)) → Q (.ref (s.heap.objs.size + 1)) { s with heap := sortedAll s.heap vs (List.toArray out) }) :
    wpAny (model prog w) A (call (.builtin "sorted") [.ref l]) Q E s := by
  rcases hl with hl | hl
  · exact sorted_data hl e er hal hk hL hu h
  have er' : EachIs (fun v b => ∃ as, Reads (sortingHeap (copyHeap s.heap vs) (s.heap.objs.size + 1) vs) v (enc b) as) vs bs := er.mono fun _ _ ⟨as, r⟩ => ⟨as, PyProof.Rows.Reads.keeps (fun _ _ => sorting_copy_old) r⟩
  exact sorted_tup hl (SortsAt.data (s := { s with heap := sortingHeap (copyHeap s.heap vs) (s.heap.objs.size + 1) vs }) (each_map (R := fun v d => ∃ as, Reads (sortingHeap (copyHeap s.heap vs) (s.heap.objs.size + 1) vs) v d as) enc er') hal hk (bound_map hu)) (by rw [e.length]; exact hL)
    (h _ (by rw [sortVals_length false rfl]; exact e.length) (sortVals_data false e er' hal))
end
/-- the sorted list of data -/
def sortL (ds : List D) : List D := ds.mergeSort (dataLe false id)
noncomputable def sortV (xs : List V) (ds : List D) : List V := ((xs.zip ds).mergeSort (dataLe false Prod.snd)).map Prod.fst
def rSortD (K : PySem.W.Frag) : List V → Hp → VK → Prop := fun vs H Q => ∃ (a : Addr) (xs : List V) (ds : List D), vs = [.ref a] ∧ (SqL K H a xs ∨ SqT K H a xs) ∧ DpAll K H xs ds ∧ AllAlike ds ∧ Sortable ds ∧ (∀ d ∈ ds, d.depth ≤ 60) ∧ ds.length ≤ 1000000 ∧
  ∀ p, H p = none → Q (.ref p) (upd H p (.lst (sortV xs ds)))
theorem sortV_data {xs : List V} {ds : List D} (h : xs.length = ds.length) : ((xs.zip ds).mergeSort (dataLe false Prod.snd)).map Prod.snd = sortL ds := by
  unfold sortL
  have := sort_maps (r := dataLe false (Prod.snd : V × D → D)) (s := dataLe false (id : D → D)) (Prod.snd : V × D → D) (l := xs.zip ds) fun a _ b _ => rfl
  rw [this]
  congr 1
  exact List.map_snd_zip (by omega)
theorem vals_each : ∀ {xs : List V} {its : List Value}, Vals xs its → ∀ {ds : List D}, xs.length = ds.length → EachIs (fun u (b : V × D) => RelV b.1 u) its (xs.zip ds)
  | _, _, .nil, [], _ => .nil
  | _, _, .nil, _ :: _, h => by simp at h
  | _, _, .cons r t, [], h => by simp at h
  | _, _, .cons r t, d :: ds, h => .cons r (vals_each t (by simpa using h))
theorem each_vals : ∀ {its : List Value} {bs : List (V × D)}, EachIs (fun u (b : V × D) => RelV b.1 u) its bs → Vals (bs.map Prod.fst) its
  | _, _, .nil => .nil
  | _, _, .cons r t => .cons r (each_vals t)
theorem readsAll_eachZ {h : Heap} : ∀ {its : List Value} {ds : List D} {as : List Addr} {xs : List V}, ReadsAll h its ds as → xs.length = ds.length → EachIs (fun u (b : V × D) => ∃ as, Reads h u b.2 as) its (xs.zip ds)
  | _, [], _, xs, r, hl => by
    cases r
    rw [List.eq_nil_of_length_eq_zero hl]
    exact .nil
  | _, d :: ds, _, xs, r, hl => by
    match xs, hl with
    | x :: xs, hl =>
      cases r with
      | cons h1 h2 => exact .cons ⟨_, h1⟩ (readsAll_eachZ h2 (by simpa using hl))
theorem cr_sortD {X : Cx} (hu : X.A.units + 65 < cLine) : CallR X (.builtin "sorted") (rSortD X.K) := by
  intro pins s σ H vs us Q Iv r h
  obtain ⟨a, xs, ds, rfl, hs, hd, al, so, dp, lz, q⟩ := h
  rw [Vals.ref1 r]
  obtain ⟨its, rv, hl⟩ : ∃ its : List Value, Vals xs its ∧ (s.heap.IsList a its.toArray ∨ IsTup s.heap a its.toArray) := by
    rcases hs with hs | hs
    · obtain ⟨its, rv, hl, _⟩ := Iv.list hs
      exact ⟨its, rv, .inl hl.isList⟩
    · obtain ⟨its, rv, hl, _⟩ := Iv.tuple hs
      exact ⟨its, rv, .inr hl⟩
  obtain ⟨as, rd⟩ := Dp.readsAll Iv ds xs its hd rv
  have l1 := dpAll_len hd
  have l2 := rv.length
  have sm2 : (1000000 : Nat) ≤ sizeLine := by decide
  have lz2 : (xs.zip ds).length = ds.length := by rw [List.length_zip]; omega
  have ez : (xs.zip ds).map Prod.snd = ds := List.map_snd_zip (by omega)
  refine sorted_dataT (bs := xs.zip ds) (enc := Prod.snd) (R := fun u b => RelV b.1 u) hl (vals_each rv l1) (readsAll_eachZ rd l1) (by rw [ez]; exact al) (by rw [ez]; exact so) (by rw [lz2]; omega) (fun b hb => ?_) fun out ho he => ?_
  · have : b.2 ∈ ds := (List.of_mem_zip hb).2
    have := dp b.2 this
    omega
  · have vo := each_vals he
    have kept : ∀ b o, s.heap.get? b = some o → (sortedAll s.heap its out.toArray).get? b = some o := fun _ _ => sortedAll_old
    obtain ⟨c, gS⟩ := sortedAll_at s.heap its out.toArray
    refine ⟨.ref _, upd H (s.heap.objs.size + 1) (.lst (sortV xs ds)), Iv.laid (t' := s.toks) kept (Nat.le_succ _) (show ObjOk X.prog X.w _ _ _ (.lst (sortV xs ds)) from ⟨?_, out, c, vo, ?_⟩), rfl, q _ (Iv.hok.fresh (Nat.le_succ _))⟩
    · show (((xs.zip ds).mergeSort _).map Prod.fst).length ≤ sizeLine
      rw [List.length_map, List.length_mergeSort]
      omega
    · exact gS

/-! ### a text, so many times -/
def rRepS : R2 := fun x y H Q => ∃ (z : Str) (k : Int), x = .str z ∧ y = .int k ∧ 0 ≤ k ∧ k ≤ 1000 ∧ z.length ≤ 1000 ∧ Q (.str ⟨(List.replicate k.toNat z.cps.toList).flatten.toArray⟩) H
theorem fold_cps (l : List Nat) : ∀ (n : Nat) (acc : List Nat), (List.replicate n l.toArray).foldl (· ++ ·) acc.toArray = (acc ++ (List.replicate n l).flatten).toArray
  | 0, acc => by simp
  | n + 1, acc => by
    rw [List.replicate_succ, List.foldl_cons, List.replicate_succ, List.flatten_cons, ← List.append_assoc, ← fold_cps l n (acc ++ l)]
    congr 1
    simp
theorem op_repS {X : Cx} : OpR X (binaryOp .Mult) rRepS := by
  intro pins s σ H x y v u Q Iv rx ry h
  obtain ⟨z, k, rfl, rfl, k0, k1, kl, q⟩ := h
  obtain ⟨t, rfl⟩ := rx
  obtain ⟨t', rfl⟩ := ry
  have sm : z.length * k.toNat ≤ 1000000 := Nat.le_trans (Nat.mul_le_mul kl (show k.toNat ≤ 1000 by omega)) (by decide)
  have sm2 : (1000000 : Nat) ≤ sizeLine := by decide
  have ez : z.cps.toList.toArray = z.cps := Array.toArray_toList ..
  have zl : z.length = z.cps.toList.length := rfl
  refine PySem.P.mul_str (by rw [decide_eq_false (by omega), decide_eq_false (by omega)]; rfl) (fun h1 _ hb => ?_) (fun _ _ => decide_eq_false (by omega)) ?_
  · have : (1000 : Int) ≤ (2 ^ 63 - 1) / k := Int.le_ediv_of_mul_le (by omega) (by omega)
    omega
  · by_cases h1 : k < 1
    · rw [if_pos h1]
      have e0 : k.toNat = 0 := by omega
      refine ⟨by decide, ⟨.str _, H, Iv.tok _, ⟨_, rfl⟩, ?_⟩⟩
      rw [e0] at q
      exact q
    · rw [if_neg h1]
      by_cases h2 : (k == 1 || z.length == 0) = true
      · rw [if_pos h2]
        refine ⟨.str z, H, Iv, ⟨_, rfl⟩, ?_⟩
        have : (⟨(List.replicate k.toNat z.cps.toList).flatten.toArray⟩ : Str) = z := by
          rcases Bool.or_eq_true_iff.mp h2 with h | h
          · have : k = 1 := by simpa using h
            subst this
            simp
          · have : z.cps.toList = [] := List.eq_nil_of_length_eq_zero (by rw [← zl]; simpa using h)
            rw [this]
            have e2 : z = ⟨#[]⟩ := by
              obtain ⟨⟨l⟩⟩ := z
              simp at this
              subst this
              rfl
            rw [e2]
            simp
        rw [this] at q
        exact q
      · rw [if_neg h2]
        have fc := fold_cps z.cps.toList k.toNat []
        rw [ez, List.nil_append] at fc
        refine ⟨?_, ?_⟩
        · show (Str.mk _).cps.size ≤ sizeLine
          show (List.foldl (· ++ ·) #[] (List.replicate k.toNat z.cps)).size ≤ sizeLine
          rw [show (#[] : Array Nat) = ([] : List Nat).toArray from rfl, fc, List.size_toArray, List.length_flatten, List.map_replicate, List.sum_replicate_nat]
          rw [← zl, Nat.mul_comm]
          omega
        · refine ⟨.str _, H, Iv.tok _, ⟨_, rfl⟩, ?_⟩
          rw [show (#[] : Array Nat) = ([] : List Nat).toArray from rfl, fc]
          exact q
end Bs

/-! A small language over the hand layer: its syntax, what it computes, and that the machine does just this. -/
namespace Bs
open PySem PySem.Spec L2
open PyProof.Rows hiding St

/-! ### heaps with some addresses hidden -/
def cut (H : Hp) (O : List Addr) : Hp := fun a => if a ∈ O then none else H a
theorem cut_some {H : Hp} {O : List Addr} {a : Addr} {o : HO} (h : cut H O a = some o) : H a = some o ∧ a ∉ O := by
  unfold cut at h
  split at h
  · cases h
  · exact ⟨h, by assumption⟩
theorem cut_of {H : Hp} {O : List Addr} {a : Addr} {o : HO} (h : H a = some o) (n : a ∉ O) : cut H O a = some o := by
  unfold cut
  rw [if_neg n]
  exact h
theorem cut_same {H H' : Hp} {O : List Addr} (e : Same H H') : Same (cut H O) (cut H' O) := fun a o h => cut_of (e a o (cut_some h).1) (cut_some h).2
theorem cut_le {H : Hp} {O : List Addr} : Same (cut H O) H := fun a o h => (cut_some h).1
theorem cut_sub {H : Hp} {O O' : List Addr} (h : ∀ a ∈ O, a ∈ O') : Same (cut H O') (cut H O) := fun a o e => cut_of (cut_some e).1 fun m => (cut_some e).2 (h a m)
theorem Same.new {H : Hp} {p : Addr} {o : HO} (h : H p = none) : Same H (upd H p o) := fun a u e => by
  rw [upd_ne (ne_of_none e h)]
  exact e
def Alloc (O : List Addr) (H : Hp) : Prop := ∀ p ∈ O, ∃ o, H p = some o
theorem Alloc.mono {O : List Addr} {H H' : Hp} (a : Alloc O H) (e : Same H H') : Alloc O H' := fun p hp => let ⟨o, h⟩ := a p hp; ⟨o, e p o h⟩
theorem Alloc.out {O : List Addr} {H : Hp} {p : Addr} (a : Alloc O H) (h : H p = none) : p ∉ O := fun m => by
  obtain ⟨o, e⟩ := a p m
  rw [h] at e
  cases e
theorem rd_mono {H H' : Hp} {a : Addr} {u : HO} (e : Same H H') (h : Rd H a u) : Rd H' a u := by
  rcases h with h | ⟨o, h⟩
  · exact .inl (e _ _ h)
  · exact .inr ⟨o, e _ _ h⟩
theorem sqL_mono {K : PySem.W.Frag} {H H' : Hp} {a : Addr} {xs : List V} (e : Same H H') (h : SqL K H a xs) : SqL K H' a xs := h.elim (fun h => .inl (rd_mono e h)) .inr
theorem sqT_mono {K : PySem.W.Frag} {H H' : Hp} {a : Addr} {xs : List V} (e : Same H H') (h : SqT K H a xs) : SqT K H' a xs := h.elim (fun h => .inl (rd_mono e h)) .inr
mutual
/-- a value stands for data: lists tracked or locked, tuples of any origin -/
inductive Dq (K : PySem.W.Frag) (H : Hp) : V → PyData → Prop
  | non : Dq K H .non .none
  | bl (b : Bool) : Dq K H (.bl b) (.bool b)
  | int (i : Int) : Dq K H (.int i) (.int i)
  | str (x : Str) : Dq K H (.str x) (.str x)
  | lst {a : Addr} {xs : List V} {ds : List PyData} : SqL K H a xs → DqAll K H xs ds → Dq K H (.ref a) (.list ds)
  | tup {a : Addr} {xs : List V} {ds : List PyData} : SqT K H a xs → DqAll K H xs ds → Dq K H (.ref a) (.tuple ds)
  /-- an exception that a suite holds, told by its address; one with a field -/
  | xcp0 (a : Addr) : Dq K H (.ref a) (.dict [(.int (a : Nat), .none)])
  | xcp1 {a d : Addr} {f : Str} {i : Int} : H d = some (.xd [(f, .int i)]) → Dq K H (.ref a) (.dict [(.int (a : Nat), .int (d : Nat)), (.str f, .int i)])
inductive DqAll (K : PySem.W.Frag) (H : Hp) : List V → List PyData → Prop
  | nil : DqAll K H [] []
  | cons {v : V} {vs : List V} {d : PyData} {ds : List PyData} : Dq K H v d → DqAll K H vs ds → DqAll K H (v :: vs) (d :: ds)
end
mutual
theorem dq_dp {K : PySem.W.Frag} {H : Hp} : ∀ (d : D) (v : V), d.canLay0 = true → Dq K H v d → Dp K H v d
  | .none, _, _, h => by cases h; exact .non
  | .bool _, _, _, h => by cases h; exact .bl _
  | .int _, _, _, h => by cases h; exact .int _
  | .str _, _, _, h => by cases h; exact .str _
  | .list ds, _, c, h => by
    cases h with
    | lst hs ha => exact .lst hs (dqs_dps ds _ (by simpa [PyData.canLay0] using c) ha)
  | .tuple ds, _, c, h => by
    cases h with
    | tup hs ha => exact .tup hs (dqs_dps ds _ (by simpa [PyData.canLay0] using c) ha)
  | .dict _, _, c, h => by simp [PyData.canLay0] at c
theorem dqs_dps {K : PySem.W.Frag} {H : Hp} : ∀ (ds : List D) (vs : List V), PyData.canLayAll0 ds = true → DqAll K H vs ds → DpAll K H vs ds
  | [], _, _, h => by cases h; exact .nil
  | d :: ds, _, c, h => by
    have c' : d.canLay0 = true ∧ PyData.canLayAll0 ds = true := by simpa [PyData.canLayAll0] using c
    cases h with
    | cons h1 h2 => exact .cons (dq_dp d _ c'.1 h1) (dqs_dps ds _ c'.2 h2)
end
mutual
theorem dp_mono {K : PySem.W.Frag} {H H' : Hp} (e : Same H H') : ∀ (d : D) (v : V), Dq K H v d → Dq K H' v d
  | .none, _, h => by cases h; exact .non
  | .bool _, _, h => by cases h; exact .bl _
  | .int _, _, h => by cases h; exact .int _
  | .str _, _, h => by cases h; exact .str _
  | .list ds, _, h => by
    cases h with
    | lst hs ha => exact .lst (sqL_mono e hs) (dps_mono e ds _ ha)
  | .tuple ds, _, h => by
    cases h with
    | tup hs ha => exact .tup (sqT_mono e hs) (dps_mono e ds _ ha)
  | .dict _, _, h => by
    cases h with
    | xcp0 a => exact .xcp0 a
    | xcp1 q => exact .xcp1 (e _ _ q)
theorem dps_mono {K : PySem.W.Frag} {H H' : Hp} (e : Same H H') : ∀ (ds : List D) (vs : List V), DqAll K H vs ds → DqAll K H' vs ds
  | [], _, h => by cases h; exact .nil
  | d :: ds, _, h => by
    cases h with
    | cons h1 h2 => exact .cons (dp_mono e d _ h1) (dps_mono e ds _ h2)
end
theorem dps_len {K : PySem.W.Frag} {H : Hp} : ∀ {vs : List V} {ds : List D}, DqAll K H vs ds → vs.length = ds.length
  | _, _, .nil => rfl
  | _, _, .cons _ t => congrArg Nat.succ (dps_len t)
theorem dps_get {K : PySem.W.Frag} {H : Hp} : ∀ {vs : List V} {ds : List D} {i : Nat} {d : D}, DqAll K H vs ds → ds[i]? = some d → ∃ v, vs[i]? = some v ∧ Dq K H v d
  | _, _, _, _, .nil, e => by simp at e
  | _, _, 0, d, .cons r _, e => by simp at e; subst e; exact ⟨_, rfl, r⟩
  | _, _, i + 1, d, .cons _ t, e => by
    obtain ⟨v, h1, h2⟩ := dps_get (i := i) (d := d) t (by simpa using e)
    exact ⟨v, by simpa using h1, h2⟩
theorem dps_app {K : PySem.W.Frag} {H : Hp} : ∀ {vs ws : List V} {ds es : List D}, DqAll K H vs ds → DqAll K H ws es → DqAll K H (vs ++ ws) (ds ++ es)
  | _, _, _, _, .nil, s => s
  | _, _, _, _, .cons r t, s => .cons r (dps_app t s)
theorem dps_rep {K : PySem.W.Frag} {H : Hp} {vs : List V} {ds : List D} (h : DqAll K H vs ds) : ∀ k : Nat, DqAll K H (List.replicate k vs).flatten (List.replicate k ds).flatten
  | 0 => .nil
  | k + 1 => by
    rw [List.replicate_succ, List.flatten_cons, List.replicate_succ, List.flatten_cons]
    exact dps_app h (dps_rep h k)
theorem dps_take {K : PySem.W.Frag} {H : Hp} : ∀ {vs : List V} {ds : List D} (n : Nat), DqAll K H vs ds → DqAll K H (vs.take n) (ds.take n)
  | _, _, 0, _ => .nil
  | _, _, _ + 1, .nil => .nil
  | _, _, n + 1, .cons r t => .cons r (dps_take n t)
theorem dps_drop {K : PySem.W.Frag} {H : Hp} : ∀ {vs : List V} {ds : List D} (n : Nat), DqAll K H vs ds → DqAll K H (vs.drop n) (ds.drop n)
  | _, _, 0, r => r
  | _, _, _ + 1, .nil => .nil
  | _, _, n + 1, .cons _ t => dps_drop n t
theorem dps_set {K : PySem.W.Frag} {H : Hp} {v : V} {d : D} (r : Dq K H v d) : ∀ {vs : List V} {ds : List D} (i : Nat), DqAll K H vs ds → DqAll K H (vs.set i v) (ds.set i d)
  | _, _, _, .nil => .nil
  | _, _, 0, .cons _ t => .cons r t
  | _, _, i + 1, .cons q t => .cons q (dps_set r i t)
theorem dps_ints {K : PySem.W.Frag} {H : Hp} : ∀ ns : List Int, DqAll K H (ns.map V.int) (ns.map PyData.int)
  | [] => .nil
  | n :: ns => .cons (.int n) (dps_ints ns)

/-! ### what comes of a run -/
inductive R (α : Type) where
  | stuck | ok (a : α) | exc (c : Nat) (p : Option Int)
def R.bind {α β : Type} : R α → (α → R β) → R β
  | .stuck, _ => .stuck
  | .ok a, f => f a
  | .exc c p, _ => .exc c p
@[simp] theorem R.bind_ok {α β : Type} (a : α) (f : α → R β) : (R.ok a).bind f = f a := rfl
@[simp] theorem R.bind_stuck {α β : Type} (f : α → R β) : (R.stuck : R α).bind f = .stuck := rfl
@[simp] theorem R.bind_exc {α β : Type} (c : Nat) (p : Option Int) (f : α → R β) : (R.exc c p : R α).bind f = .exc c p := rfl

/-- what a def hands back: data, a new list, data beside the changed list of its k-th argument at p -/
inductive Kd where
  | data | fresh | pool (k : Nat) (p : Addr)
/-- the classes of the exceptions by number, their fields -/
structure Gs where
  has : Nat → Bool
  ex : Nat → Addr
  fld : Nat → Str
  kd : Kd := .data
def exR (G : Gs) (H0 : Hp) (c : Nat) (p : Option Int) (cls : Value) (dd : Option Addr) (H : Hp) : Prop :=
  G.has c = true ∧ cls = .ref (G.ex c) ∧ ((p = none ∧ dd = none) ∨ ∃ i d, p = some i ∧ dd = some d ∧ H0 d = none ∧ H d = some (.xd [(G.fld c, .int i)]))
theorem none_lo {H H1 : Hp} {a : Addr} (s : Same H H1) (h : H1 a = none) : H a = none := by
  cases q : H a with
  | none => rfl
  | some o => rw [s _ _ q] at h; cases h
theorem exR.lo {G : Gs} {H0 H1 : Hp} {c : Nat} {p : Option Int} {cls : Value} {dd : Option Addr} {H : Hp} (h : exR G H1 c p cls dd H) (s : Same H0 H1) : exR G H0 c p cls dd H := by
  obtain ⟨h1, h2, h3⟩ := h
  refine ⟨h1, h2, ?_⟩
  rcases h3 with h3 | ⟨i, d, e1, e2, e3, e4⟩
  · exact .inl h3
  · exact .inr ⟨i, d, e1, e2, none_lo s e3, e4⟩
/-- what is wanted of a run's end at σ, H -/
def Post {α β : Type} (rep : Hp → β → α → Prop) (G : Gs) (σ : St) (H : Hp) (W : WX) (Q : β → Hp → Prop) : R α → Prop
  | .stuck => False
  | .ok d => ∀ v H', Same H H' → rep H' v d → Q v H'
  | .exc c p => ∀ cls dd H', Same H H' → exR G H c p cls dd H' → W cls dd σ H'
section
variable {α β γ δ : Type} {rep : Hp → β → α → Prop} {rep' : Hp → δ → γ → Prop} {G : Gs} {σ : St} {H H1 : Hp} {W : WX} {Q Q' : β → Hp → Prop} {Q2 : δ → Hp → Prop} {r : R α}
theorem Post.up (s : Same H H1) (h : Post rep G σ H W Q r) : Post rep G σ H1 W Q r := by
  cases r with
  | stuck => exact h
  | ok d => exact fun v H' e p => h v H' (s.trans e) p
  | exc c p => exact fun cls dd H' e x => h cls dd H' (s.trans e) (x.lo s)
theorem Post.imp (h : Post rep G σ H W Q r) (i : ∀ v H', Same H H' → Q v H' → Q' v H') : Post rep G σ H W Q' r := by
  cases r with
  | stuck => exact h
  | ok d => exact fun v H' e p => i v H' e (h v H' e p)
  | exc c p => exact h
theorem Post.bind {f : α → R γ} (h : Post rep' G σ H W Q2 (r.bind f)) : Post rep G σ H W (fun v H1 => Same H H1 ∧ ∃ d, rep H1 v d ∧ Post rep' G σ H1 W Q2 (f d)) r := by
  cases r with
  | stuck => exact h
  | ok d => exact fun v H' e p => ⟨e, d, p, Post.up e h⟩
  | exc c p => exact h
end

/-! ### environments -/
abbrev Env := List (Option D)
abbrev dp (K : PySem.W.Frag) (O : List Addr) : Hp → V → D → Prop := fun H v d => Dq K (cut H O) v d
abbrev dps (K : PySem.W.Frag) (O : List Addr) : Hp → List V → List D → Prop := fun H vs ds => DqAll K (cut H O) vs ds

theorem pe_imp {X : Cx} {e : Expr} {t t' : TE} (h : PE X e t) (i : ∀ σ H Q, t' σ H Q → t σ H Q) : PE X e t' := ⟨fun pins s σ H Q I hw => h.run pins s σ H Q I (i σ H Q hw)⟩
theorem pa_imp {X : Cx} {e : List Expr} {t t' : TA} (h : PA X e t) (i : ∀ σ H Q, t' σ H Q → t σ H Q) : PA X e t' := ⟨fun pos pins s σ H Q I hw => h.run pos pins s σ H Q I (i σ H Q hw)⟩
theorem pt_imp {X : Cx} {e : Expr} {t t' : TT} (h : PT X e t) (i : ∀ σ H Q, t' σ H Q → t σ H Q) : PT X e t' := ⟨fun pins s σ H Q I hw => h.run pins s σ H Q I (i σ H Q hw)⟩
theorem pw_imp {X : Cx} {e : Expr} {t t' : TT} (h : PW X e t) (i : ∀ σ H Q, t' σ H Q → t σ H Q) : PW X e t' := ⟨fun wh pins s σ H Q I hw => h.run wh pins s σ H Q I (i σ H Q hw)⟩
theorem ps_imp {X : Cx} {e : Stmt} {t t' : TS} (h : PS X e t) (i : ∀ D σ H, t' D σ H → t D σ H) : PS X e t' := ⟨fun pins s σ H D I hw => h.run pins s σ H D I (i D σ H hw)⟩
theorem pss_imp {X : Cx} {e : List Stmt} {t t' : TS} (h : PSs X e t) (i : ∀ D σ H, t' D σ H → t D σ H) : PSs X e t' := ⟨fun pins s σ H D I hw => h.run pins s σ H D I (i D σ H hw)⟩
theorem pi_imp {X : Cx} {tg e : Expr} {t t' : TI} (h : PI X tg e t) (i : ∀ σ H R, t' σ H R → t σ H R) : PI X tg e t' := ⟨fun pins s σ H Q I hw => h.run pins s σ H Q I (i σ H Q hw)⟩
theorem pi_or {X : Cx} {tg e : Expr} {t t' : TI} (h : PI X tg e t) (h' : PI X tg e t') : PI X tg e (fun σ H R => t σ H R ∨ t' σ H R) := ⟨fun pins s σ H Q I hw => hw.elim (h.run pins s σ H Q I) (h'.run pins s σ H Q I)⟩

/-! ### operators on data -/
inductive Bop where
  | add | sub | mul | fdiv | mod | pow | shr
inductive Cop where
  | eq | ne | lt | le | gt | ge | isN | notN | inn | nin
def intsD : List D → Option (List Int)
  | [] => some []
  | .int i :: r => (intsD r).map (i :: ·)
  | _ => none
/-- a text, so many times -/
def strRep (x : Str) (n : Nat) : Str := ⟨(List.replicate n x.cps.toList).flatten.toArray⟩
def bop : Bop → D → D → R D
  | .add, .int i, .int j => .ok (.int (i + j))
  | .add, .list xs, .list ys => if xs.length + ys.length ≤ sizeLine then .ok (.list (xs ++ ys)) else .stuck
  | .add, .tuple xs, .tuple ys => if xs ≠ [] ∧ ys ≠ [] ∧ xs.length + ys.length ≤ sizeLine then .ok (.tuple (xs ++ ys)) else if xs = [] ∧ ys.length ≤ sizeLine then .ok (.tuple ys) else if ys = [] ∧ xs.length ≤ sizeLine then .ok (.tuple xs) else .stuck
  | .add, .str x, .str y => if x.length + y.length ≤ 1000000 then .ok (.str (x ++ y)) else .stuck
  | .shr, .int i, .int j => if 0 ≤ j then .ok (.int (i / 2 ^ j.toNat)) else .stuck
  | .sub, .int i, .int j => .ok (.int (i - j))
  | .mul, .int i, .int j => if i.natAbs.log2 + j.natAbs.log2 < 134000000 then .ok (.int (i * j)) else .stuck
  | .mul, .list xs, .int k => if k ≤ 1000 ∧ -1000 ≤ k ∧ xs.length ≤ 1000 then .ok (.list (List.replicate k.toNat xs).flatten) else .stuck
  | .mul, .str x, .int k => if 0 ≤ k ∧ k ≤ 1000 ∧ x.length ≤ 1000 then .ok (.str (strRep x k.toNat)) else .stuck
  | .fdiv, .int i, .int j => if j ≠ 0 ∧ j.natAbs.log2 < 9000 then .ok (.int (i.fdiv j)) else .stuck
  | .mod, .int i, .int j => if j ≠ 0 then .ok (.int (i.fmod j)) else .stuck
  | .pow, .int i, .int j => if 0 ≤ j ∧ j ≤ 1000000 ∧ i.natAbs < 2 ^ 64 then .ok (.int (i ^ j.toNat)) else .stuck
  | _, _, _ => .stuck
def shp (d : D) : Bool := SeqAt.shaped d
def isNone : D → Bool
  | .none => true
  | _ => false
def ltK : Option (List Int) → Option (List Int) → R D
  | some ns, some ms => .ok (.bool (HT.lexLt ns ms))
  | _, _ => .stuck
def ltL (a b : D) : R D := if shp a = true ∧ shp b = true ∧ PySem.W.alike a b = true then .ok (.bool (PySem.W.dataLt a b)) else .stuck
/-- a sign in a text -/
def strInn : D → Str → R D
  | .str x, z => if x.cps.size = 1 then .ok (.bool (decide (x.cps.toList.headD 0 ∈ z.cps.toList))) else .stuck
  | _, _ => .stuck
def strNin : D → Str → R D
  | .str x, z => if x.cps.size = 1 then .ok (.bool (!decide (x.cps.toList.headD 0 ∈ z.cps.toList))) else .stuck
  | _, _ => .stuck
def cop : Cop → D → D → R D
  | .eq, a, b => if shp a = true ∧ shp b = true then .ok (.bool (PyData.eqv a b)) else .stuck
  | .ne, a, b => if shp a = true ∧ shp b = true then .ok (.bool (!PyData.eqv a b)) else .stuck
  | .lt, .int i, .int j => .ok (.bool (decide (i < j)))
  | .lt, .tuple as, .tuple bs => ltK (intsD as) (intsD bs)
  | .lt, .list as, .list bs => ltL (.list as) (.list bs)
  | .le, .int i, .int j => .ok (.bool (decide (i ≤ j)))
  | .gt, .int i, .int j => .ok (.bool (decide (j < i)))
  | .ge, .int i, .int j => .ok (.bool (decide (j ≤ i)))
  | .isN, a, .none => .ok (.bool (isNone a))
  | .notN, a, .none => .ok (.bool (!isNone a))
  | .isN, .bool a, .bool b => .ok (.bool (decide (a = b)))
  | .notN, .bool a, .bool b => .ok (.bool (!decide (a = b)))
  | .inn, a, .list ds => if shp a = true ∧ shp (.list ds) = true then .ok (.bool (ds.any fun z => PyData.eqv z a)) else .stuck
  | .inn, a, .tuple ds => if shp a = true ∧ shp (.tuple ds) = true then .ok (.bool (ds.any fun z => PyData.eqv z a)) else .stuck
  | .inn, a, .str z => strInn a z
  | .nin, a, .str z => strNin a z
  | .nin, a, .tuple ds => if shp a = true ∧ shp (.tuple ds) = true then .ok (.bool (!ds.any fun z => PyData.eqv z a)) else .stuck
  | .nin, a, .list ds => if shp a = true ∧ shp (.list ds) = true then .ok (.bool (!ds.any fun z => PyData.eqv z a)) else .stuck
  | _, _, _ => .stuck

/-- a rule by values serves an operation on data -/
def OpS (K : PySem.W.Frag) (r : R2) (f : D → D → R D) : Prop :=
  ∀ (G : Gs) (O : List Addr) (σ : St) (H : Hp) (W : WX) (Q : VK) (x y : V) (a b : D), Alloc O H → Dq K (cut H O) x a → Dq K (cut H O) y b → Post (dp K O) G σ H W Q (f a b) → r x y H Q

theorem iteP {c : Prop} [Decidable c] {α β : Type} {rep : Hp → β → α → Prop} {G : Gs} {σ : St} {H : Hp} {W : WX} {Q : β → Hp → Prop} {d : α} (h : Post rep G σ H W Q (if c then .ok d else .stuck)) : c ∧ Post rep G σ H W Q (.ok d) := by
  by_cases hc : c
  · rw [if_pos hc] at h
    exact ⟨hc, h⟩
  · rw [if_neg hc] at h
    exact h.elim


section
variable {X : Cx}
theorem rd_ok {pins : List (Addr × Obj)} {σ : St} {H : Hp} {s : Shared} {a : Addr} {u : HO} (I : Inv X pins σ H s) (h : Rd H a u) : ObjOk X.prog X.w H s.heap a u := h.ok I.hok
/-- list + list, tracked or locked -/
def rCatL (K : PySem.W.Frag) : R2 := fun x y H Q => ∃ l b xs zs, x = .ref l ∧ y = .ref b ∧ SqL K H l xs ∧ SqL K H b zs ∧ xs.length + zs.length ≤ sizeLine ∧ ∀ p, H p = none → Q (.ref p) (upd H p (.lst (xs ++ zs)))
theorem op_catL : OpR X (binaryOp .Add) (rCatL X.K) := by
  intro pins s σ H x y v u Q I rx ry h
  obtain ⟨l, b, xs, zs, rfl, rfl, hH, hB, hz, q⟩ := h
  cases rx
  cases ry
  obtain ⟨its, r, ⟨⟨cls, dd, dt, sl⟩, n, ho, hc, hd, hdt⟩, _⟩ := I.list hH
  obtain ⟨its2, r2, ⟨⟨cls2, dd2, dt2, sl2⟩, n2, ho2, hc2, hd2, hdt2⟩, _⟩ := I.list hB
  simp only at hc hd hdt hc2 hd2 hdt2
  subst hc hd hdt hc2 hd2 hdt2
  have hl := r.length
  have hl2 := r2.length
  refine concat_meets ⟨_, ho, rfl⟩ ⟨_, ho2, rfl⟩ noFill_list_add seq_list_add PySem.F.slot_list_add PySem.F.entry_list_add (PySem.F.args_list_add_2 _ _) (list_addW l b its.toArray its2.toArray n n2 none none sl sl2 (by rw [List.size_toArray, List.size_toArray]; omega)) ⟨ho, ho2, ?_⟩
  have ea : its.toArray ++ its2.toArray = (its ++ its2).toArray := by simp
  rw [ea]
  exact ⟨.ref _, _, I.lnew (t' := s.toks) (r.append r2) (by rw [List.length_append]; omega), rfl, q _ I.fresh⟩
def CDivZ (_ j : Int) : Prop := j ≠ 0 ∧ j.natAbs.log2 < 9000
theorem op_fdivZ : OpR X (binaryOp .FloorDiv) (rI CDivZ fun i j => .int (i.fdiv j)) := opI fun _ _ _ _ _ _ _ hc q => floordiv_int hc.1 q (.inl (PyProof.noPylong_of_log2 hc.2))
def rInT (K : PySem.W.Frag) : R2 := fun x y H Q => ∃ d ds, Dp K H x d ∧ Dp K H y (.tuple ds) ∧ SeqAt.shaped d = true ∧ SeqAt.shaped (.tuple ds) = true ∧ Q (.bl (ds.any fun z => PyData.eqv z d)) H
def rNotInT (K : PySem.W.Frag) : R2 := fun x y H Q => ∃ d ds, Dp K H x d ∧ Dp K H y (.tuple ds) ∧ SeqAt.shaped d = true ∧ SeqAt.shaped (.tuple ds) = true ∧ Q (.bl (!ds.any fun z => PyData.eqv z d)) H
theorem op_inT (hu : X.A.units + 65 < cLine) : OpR X (compareOp .In) (rInT X.K) := by
  intro pins s σ H x y v u Q I rx ry h
  obtain ⟨d, ds, hd, he, sd, se, q⟩ := h
  obtain ⟨as, r1⟩ := Dp.reads I d x v hd rx
  obtain ⟨bs, r2⟩ := Dp.reads I (.tuple ds) y u he ry
  exact SeqAt.in_tuple_reads r2 r1 (SeqAt.canLay_of_shaped se) (SeqAt.canLay_of_shaped sd) (room_in_shaped sd hu) ⟨.bl _, H, I, rfl, q⟩
theorem op_notInT (hu : X.A.units + 65 < cLine) : OpR X (compareOp .NotIn) (rNotInT X.K) := by
  intro pins s σ H x y v u Q I rx ry h
  obtain ⟨d, ds, hd, he, sd, se, q⟩ := h
  obtain ⟨as, r1⟩ := Dp.reads I d x v hd rx
  obtain ⟨bs, r2⟩ := Dp.reads I (.tuple ds) y u he ry
  exact SeqAt.notIn_tuple_reads r2 r1 (SeqAt.canLay_of_shaped se) (SeqAt.canLay_of_shaped sd) (room_in_shaped sd hu) ⟨.bl _, H, I, rfl, q⟩

theorem ints_dq {K : PySem.W.Frag} {H : Hp} : ∀ {ds : List D} {ns : List Int} {xs : List V}, DqAll K H xs ds → intsD ds = some ns → xs = ns.map V.int
  | [], ns, xs, h, e => by
    cases h
    cases e
    rfl
  | d :: r, ns, xs, h, e => by
    cases h with
    | cons h1 h2 =>
      cases d <;> first | cases e | skip
      rename_i i
      cases q : intsD r with
      | none => simp [intsD, q] at e
      | some ms =>
        simp [intsD, q] at e
        subst e
        cases h1
        rw [ints_dq h2 q]
        rfl
/-! the operators as rules -/
def rBop (K : PySem.W.Frag) : Bop → R2
  | .add => fun x y H Q => rI0 (fun i j => .int (i + j)) x y H Q ∨ rCatL K x y H Q ∨ rCatA K x y H Q ∨ ∃ i j, x = .str i ∧ y = .str j ∧ i.length + j.length ≤ sizeLine ∧ Q (.str (i ++ j)) H
  | .sub => rI0 fun i j => .int (i - j)
  | .mul => fun x y H Q => rI CMulX (fun i j => .int (i * j)) x y H Q ∨ rRepL K x y H Q ∨ rRepS x y H Q
  | .fdiv => rI CDivZ fun i j => .int (i.fdiv j)
  | .mod => rI (fun _ j => j ≠ 0) fun i j => .int (i.fmod j)
  | .pow => rI CPow fun i j => .int (i ^ j.toNat)
  | .shr => rI (fun _ j => 0 ≤ j) fun i j => .int (i / 2 ^ j.toNat)
def Bop.py : Bop → Operator
  | .add => .Add
  | .sub => .Sub
  | .mul => .Mult
  | .fdiv => .FloorDiv
  | .mod => .Mod
  | .pow => .Pow
  | .shr => .RShift
theorem op_bop : ∀ o : Bop, OpR X (binaryOp o.py) (rBop X.K o)
  | .add => op_add.or (op_catL.or (op_catA.or op_add_str))
  | .sub => op_sub
  | .mul => op_mulX.or (op_repL.or op_repS)
  | .fdiv => op_fdivZ
  | .mod => op_modN
  | .pow => op_pow
  | .shr => op_shr
theorem post_same {α β : Type} {rep : Hp → β → α → Prop} {G : Gs} {σ : St} {H : Hp} {W : WX} {Q : β → Hp → Prop} {d : α} {v : β} (h : Post rep G σ H W Q (.ok d)) (r : rep H v d) : Q v H := h v H (Same.refl H) r
theorem dq_new {K : PySem.W.Frag} {O : List Addr} {H : Hp} {p : Addr} {xs : List V} {ds : List D} (al : Alloc O H) (n : H p = none) (h : DqAll K (cut H O) xs ds) : Dq K (cut (upd H p (.lst xs)) O) (.ref p) (.list ds) :=
  .lst (.inl (.inl (cut_of upd_same (al.out n)))) (dps_mono (cut_same (Same.new n)) ds xs h)
theorem dq_newT {K : PySem.W.Frag} {O : List Addr} {H : Hp} {p : Addr} {xs : List V} {ds : List D} (al : Alloc O H) (n : H p = none) (h : DqAll K (cut H O) xs ds) : Dq K (cut (upd H p (.tup xs)) O) (.ref p) (.tuple ds) :=
  .tup (.inl (.inl (cut_of upd_same (al.out n)))) (dps_mono (cut_same (Same.new n)) ds xs h)
theorem mulX {i j : Int} (h : i.natAbs.log2 + j.natAbs.log2 < 134000000) : CMulX i j := by
  have b : ∀ x : Int, Builtin.Int.intBits x ≤ x.natAbs.log2 + 1 := fun x => by
    unfold Builtin.Int.intBits
    split <;> omega
  have h1 := b i
  have h2 := b j
  unfold CMulX
  omega
theorem ops_bop {K : PySem.W.Frag} : ∀ o : Bop, OpS K (rBop K o) (bop o) := by
  intro o G O σ H W Q x y a b al ha hb h
  cases o <;> cases a <;> cases b <;> first | exact h.elim | skip
  · cases ha; cases hb; exact .inl ⟨_, _, rfl, rfl, post_same h (.int _)⟩
  · obtain ⟨hc, h⟩ := iteP h
    cases ha; cases hb
    have h2 : (1000000 : Nat) ≤ sizeLine := by decide
    exact .inr (.inr (.inr ⟨_, _, rfl, rfl, by omega, post_same h (.str _)⟩))
  · obtain ⟨hc, h⟩ := iteP h
    cases ha with
    | lst h1 h2 =>
      cases hb with
      | lst h3 h4 =>
        refine .inr (.inl ⟨_, _, _, _, rfl, rfl, sqL_mono cut_le h1, sqL_mono cut_le h3, ?_, fun p hp => h _ _ (Same.new hp) (dq_new al hp (dps_app h2 h4))⟩)
        rw [dps_len h2, dps_len h4]
        exact hc
  · rename_i xs ys
    have hB : Post (dp K O) G σ H W Q (if xs ≠ [] ∧ ys ≠ [] ∧ xs.length + ys.length ≤ sizeLine then .ok (.tuple (xs ++ ys)) else if xs = [] ∧ ys.length ≤ sizeLine then .ok (.tuple ys) else if ys = [] ∧ xs.length ≤ sizeLine then .ok (.tuple xs) else .stuck) := h
    clear h
    by_cases hc : xs ≠ [] ∧ ys ≠ [] ∧ xs.length + ys.length ≤ sizeLine
    · rw [if_pos hc] at hB
      cases ha with
      | tup h1 h2 =>
        cases hb with
        | tup h3 h4 =>
          have e1 := dps_len h2
          have e2 := dps_len h4
          refine .inr (.inr (.inl ⟨_, _, _, _, rfl, rfl, sqT_mono cut_le h1, sqT_mono cut_le h3, by rw [e1, e2]; exact hc.2.2, fun z => ?_, fun _ z => ?_, fun _ _ p hp => hB _ _ (Same.new hp) (dq_newT al hp (dps_app h2 h4))⟩))
          · subst z
            exact absurd (List.eq_nil_of_length_eq_zero e1.symm) hc.1
          · subst z
            exact absurd (List.eq_nil_of_length_eq_zero e2.symm) hc.2.1
    · rw [if_neg hc] at hB
      by_cases hc2 : xs = [] ∧ ys.length ≤ sizeLine
      · rw [if_pos hc2] at hB
        obtain ⟨z0, z1⟩ := hc2
        subst z0
        cases ha with
        | tup h1 h2 =>
          cases hb with
          | tup h3 h4 =>
            have e1 := dps_len h2
            have e2 := dps_len h4
            have n1 := List.eq_nil_of_length_eq_zero e1
            subst n1
            exact .inr (.inr (.inl ⟨_, _, _, _, rfl, rfl, sqT_mono cut_le h1, sqT_mono cut_le h3, by rw [e2]; simpa using z1, fun _ => post_same (rep := dp K O) hB (Dq.tup h3 h4), fun z => absurd rfl z, fun z => absurd rfl z⟩))
      · rw [if_neg hc2] at hB
        obtain ⟨⟨z0, z1⟩, hh⟩ := iteP hB
        clear hB
        subst z0
        cases ha with
        | tup h1 h2 =>
          cases hb with
          | tup h3 h4 =>
            have e1 := dps_len h2
            have e2 := dps_len h4
            have n1 := List.eq_nil_of_length_eq_zero e2
            subst n1
            refine .inr (.inr (.inl ⟨_, _, _, _, rfl, rfl, sqT_mono cut_le h1, sqT_mono cut_le h3, by rw [e1]; simpa using z1, fun z => ?_, fun _ _ => post_same (rep := dp K O) hh (Dq.tup h1 h2), fun _ z => absurd rfl z⟩))
            subst z
            exact absurd ⟨List.eq_nil_of_length_eq_zero e1.symm, by simp⟩ hc2
  · cases ha; cases hb; exact ⟨_, _, rfl, rfl, post_same h (.int _)⟩
  · obtain ⟨hc, h⟩ := iteP h
    cases ha; cases hb; exact .inl ⟨_, _, rfl, rfl, mulX hc, post_same h (.int _)⟩
  · obtain ⟨hc, h⟩ := iteP h
    cases ha; cases hb; exact .inr (.inr ⟨_, _, rfl, rfl, hc.1, hc.2.1, hc.2.2, post_same h (.str _)⟩)
  · obtain ⟨hc, h⟩ := iteP h
    cases hb
    cases ha with
    | lst h1 h2 => exact .inr (.inl ⟨_, _, _, rfl, rfl, sqL_mono cut_le h1, hc.1, hc.2.1, by rw [dps_len h2]; exact hc.2.2, fun p hp => h _ _ (Same.new hp) (dq_new al hp (dps_rep h2 _))⟩)
  · obtain ⟨hc, h⟩ := iteP h
    cases ha; cases hb; exact ⟨_, _, rfl, rfl, hc, post_same h (.int _)⟩
  · obtain ⟨hc, h⟩ := iteP h
    cases ha; cases hb; exact ⟨_, _, rfl, rfl, hc, post_same h (.int _)⟩
  · obtain ⟨hc, h⟩ := iteP h
    cases ha; cases hb; exact ⟨_, _, rfl, rfl, hc, post_same h (.int _)⟩
  · obtain ⟨hc, h⟩ := iteP h
    cases ha; cases hb; exact ⟨_, _, rfl, rfl, hc, post_same h (.int _)⟩
def rInSg : R2 := fun x y H Q => ∃ (c : Nat) (z : Str), x = .str ⟨#[c]⟩ ∧ y = .str z ∧ Q (.bl (decide (c ∈ z.cps.toList))) H
def rNotInSg : R2 := fun x y H Q => ∃ (c : Nat) (z : Str), x = .str ⟨#[c]⟩ ∧ y = .str z ∧ Q (.bl (!decide (c ∈ z.cps.toList))) H
theorem str_one {x : Str} (h : x.cps.size = 1) : x = ⟨#[x.cps.toList.headD 0]⟩ := by
  obtain ⟨⟨l⟩⟩ := x
  match l, h with
  | [c], _ => rfl
def rCop (K : PySem.W.Frag) : Cop → R2
  | .eq => rEqD K
  | .ne => rNeD K
  | .lt => fun x y H Q => rI0 (fun i j => .bl (decide (i < j))) x y H Q ∨ rLtT K x y H Q ∨ rLtD K x y H Q
  | .le => rI0 fun i j => .bl (decide (i ≤ j))
  | .gt => rI0 fun i j => .bl (decide (j < i))
  | .ge => rI0 fun i j => .bl (decide (j ≤ i))
  | .isN => fun x y H Q => (y = .non ∧ Q (.bl (decide (x = .non))) H) ∨ (∃ a b, x = .bl a ∧ y = .bl b ∧ Q (.bl (decide (a = b))) H)
  | .notN => fun x y H Q => (y = .non ∧ Q (.bl (!decide (x = .non))) H) ∨ (∃ a b, x = .bl a ∧ y = .bl b ∧ Q (.bl (!decide (a = b))) H)
  | .inn => fun x y H Q => rInD K x y H Q ∨ rInT K x y H Q ∨ rInSg x y H Q
  | .nin => fun x y H Q => rNotInD K x y H Q ∨ rNotInT K x y H Q ∨ rNotInSg x y H Q
def Cop.py : Cop → CmpOp
  | .eq => .Eq
  | .ne => .NotEq
  | .lt => .Lt
  | .le => .LtE
  | .gt => .Gt
  | .ge => .GtE
  | .isN => .Is
  | .notN => .IsNot
  | .inn => .In
  | .nin => .NotIn
theorem op_cop (hu : X.A.units + 65 < cLine) : ∀ o : Cop, OpR X (compareOp o.py) (rCop X.K o)
  | .eq => op_eqD (by omega)
  | .ne => op_neD (by omega)
  | .lt => op_lt.or ((op_ltT (by omega)).or (op_ltD hu))
  | .le => op_le
  | .gt => op_gt
  | .ge => op_ge
  | .isN => op_isN.or op_is_bl
  | .notN => op_notN.or op_isnot_bl
  | .inn => (op_inD hu).or ((op_inT hu).or op_in_sign)
  | .nin => (op_notInD hu).or ((op_notInT hu).or op_notIn_sign)
theorem isNone_iff {K : PySem.W.Frag} {H : Hp} {x : V} {a : D} (h : Dq K H x a) : isNone a = decide (x = .non) := by
  cases h <;> rfl
theorem up_dp {K : PySem.W.Frag} {H : Hp} {O : List Addr} {x : V} {a : D} (c : shp a = true) (h : Dq K (cut H O) x a) : Dp K H x a := dq_dp a x (SeqAt.canLay_of_shaped c) (dp_mono cut_le a x h)
theorem ops_cop {K : PySem.W.Frag} : ∀ o : Cop, OpS K (rCop K o) (cop o) := by
  intro o G O σ H W Q x y a b al ha hb h
  cases o with
  | eq =>
    obtain ⟨hc, h⟩ := iteP h
    exact ⟨a, b, up_dp hc.1 ha, up_dp hc.2 hb, hc.1, hc.2, post_same h (.bl _)⟩
  | ne =>
    obtain ⟨hc, h⟩ := iteP h
    exact ⟨a, b, up_dp hc.1 ha, up_dp hc.2 hb, hc.1, hc.2, post_same h (.bl _)⟩
  | isN =>
    cases b with
    | none =>
      have h : Post (dp K O) G σ H W Q (.ok (.bool (isNone a))) := by cases a <;> exact h
      cases hb
      refine .inl ⟨rfl, ?_⟩
      rw [← isNone_iff ha]
      exact post_same h (.bl _)
    | bool k =>
      cases a <;> first | exact h.elim | skip
      cases ha
      cases hb
      exact .inr ⟨_, _, rfl, rfl, post_same h (.bl _)⟩
    | _ => cases a <;> exact h.elim
  | notN =>
    cases b with
    | none =>
      have h : Post (dp K O) G σ H W Q (.ok (.bool (!isNone a))) := by cases a <;> exact h
      cases hb
      refine .inl ⟨rfl, ?_⟩
      rw [← isNone_iff ha]
      exact post_same h (.bl _)
    | bool k =>
      cases a <;> first | exact h.elim | skip
      cases ha
      cases hb
      exact .inr ⟨_, _, rfl, rfl, post_same h (.bl _)⟩
    | _ => cases a <;> exact h.elim
  | inn =>
    cases b <;> first | exact h.elim | skip
    · rename_i z
      cases a <;> first | exact h.elim | skip
      rename_i x
      obtain ⟨hc, h⟩ := iteP h
      cases ha
      cases hb
      exact .inr (.inr ⟨_, z, congrArg V.str (str_one hc), rfl, post_same h (.bl _)⟩)
    · obtain ⟨hc, h⟩ := iteP h
      exact .inl ⟨a, _, up_dp hc.1 ha, up_dp hc.2 hb, hc.1, hc.2, post_same h (.bl _)⟩
    · obtain ⟨hc, h⟩ := iteP h
      exact .inr (.inl ⟨a, _, up_dp hc.1 ha, up_dp hc.2 hb, hc.1, hc.2, post_same h (.bl _)⟩)
  | nin =>
    cases b <;> first | exact h.elim | skip
    · rename_i z
      cases a <;> first | exact h.elim | skip
      rename_i x
      obtain ⟨hc, h⟩ := iteP h
      cases ha
      cases hb
      exact .inr (.inr ⟨_, z, congrArg V.str (str_one hc), rfl, post_same h (.bl _)⟩)
    · obtain ⟨hc, h⟩ := iteP h
      exact .inl ⟨a, _, up_dp hc.1 ha, up_dp hc.2 hb, hc.1, hc.2, post_same h (.bl _)⟩
    · obtain ⟨hc, h⟩ := iteP h
      exact .inr (.inl ⟨a, _, up_dp hc.1 ha, up_dp hc.2 hb, hc.1, hc.2, post_same h (.bl _)⟩)
  | lt =>
    cases a <;> cases b <;> first | exact h.elim | skip
    · cases ha; cases hb; exact .inl ⟨_, _, rfl, rfl, post_same h (.bl _)⟩
    · rename_i as bs
      obtain ⟨⟨c1, c2, c3⟩, h⟩ := iteP (show Post (dp K O) G σ H W Q (ltL (.list as) (.list bs)) from h)
      exact .inr (.inr ⟨_, _, up_dp c1 ha, up_dp c2 hb, c3, (fun z => nomatch z), by
        have := SeqAt.depth_of_shaped c1
        omega, post_same h (.bl _)⟩)
    · rename_i as bs
      have h : Post (dp K O) G σ H W Q (ltK (intsD as) (intsD bs)) := h
      cases q1 : intsD as with
      | none => rw [q1] at h; exact h.elim
      | some ns =>
        cases q2 : intsD bs with
        | none => rw [q1, q2] at h; exact h.elim
        | some ms =>
          rw [q1, q2] at h
          cases ha with
          | tup h1 h2 =>
            cases hb with
            | tup h3 h4 =>
              have e1 := ints_dq h2 q1
              have e2 := ints_dq h4 q2
              subst e1
              subst e2
              exact .inr (.inl ⟨_, _, ns, ms, rfl, rfl, sqT_mono cut_le h1, sqT_mono cut_le h3, post_same h (.bl _)⟩)
  | le => cases a <;> cases b <;> first | exact h.elim | (cases ha; cases hb; exact ⟨_, _, rfl, rfl, post_same h (.bl _)⟩)
  | gt => cases a <;> cases b <;> first | exact h.elim | (cases ha; cases hb; exact ⟨_, _, rfl, rfl, post_same h (.bl _)⟩)
  | ge => cases a <;> cases b <;> first | exact h.elim | (cases ha; cases hb; exact ⟨_, _, rfl, rfl, post_same h (.bl _)⟩)
end
end Bs

namespace Bs
open PySem PySem.Spec L2
open PyProof.Rows hiding St

/-! ### the syntax -/
inductive Bi where
  | len | abs | max2 | min2 | sum | all | any | max1 | min1 | list | tuple | int | sorted | str
  deriving DecidableEq
/-- what a loop walks: a list or tuple, range(n), range(a, b), range(a, b, c), enumerate, zip, reversed -/
inductive Wk where
  | seq | rng1 | rng2 | rng3 | enum | zip | rev
  deriving DecidableEq
/-- methods of texts -/
inductive Tm where
  | join | part | split
  deriving DecidableEq
inductive Tg where
  | nm (i : Nat) | tp (is : List Nat)
mutual
inductive E where
  | v (i : Nat) | i (n : Int) | b (x : Bool) | s (x : Str) | non
  | op (o : Bop) (a b : E) | neg (a : E)
  | cmp (o : Cop) (a b : E) | chain (o o' : Cop) (a b c : E)
  | and (a b : E) | or (a b : E) | one (a : E) | not (a : E)
  | ife (c a b : E)
  | tup (es : Es) | lst (es : Es)
  | ix (a i : E) | sl (a : E) (lo hi : Es)
  | call (f : Nat) (es : Es) | bi (b : Bi) (es : Es) | isi (t : String) (a : E)
  | callW (f : Nat) (es : Es) (e : E) | callF (f : Nat) (es : Es)
  | lc (w : Wk) (ws : Es) (tg : Tg) (c : Es) (e : E) (own : List (Str × Nat))
  | rvl (a : E) | rvt (a : E) | rvs (a : E) | lset (a : E) | xq (ks : List Nat) (j : Nat) | kd (d : PyData) | idx (a b : E) | tm (m : Tm) (a b : E)
inductive Es where
  | nil | cons (e : E) (es : Es)
end

/-! ### what it computes -/
def ixop : D → D → R D
  | .list ds, .int i => match atI ds i with
    | some d => .ok d
    | none => .stuck
  | .tuple ds, .int i => match atI ds i with
    | some d => .ok d
    | none => .stuck
  | .str z, .int i => if z.length ≤ 1000000 then (match atI z.cps.toList i with
    | some c => .ok (.str ⟨#[c]⟩)
    | none => .stuck) else .stuck
  | _, _ => .stuck
def cutD (xs : List D) (lo hi : Option Int) : List D := (xs.drop (HT.sIx xs.length 0 lo)).take (HT.sIx xs.length xs.length hi - HT.sIx xs.length 0 lo)
def partD : List D → R (Option Int)
  | [] => .ok none
  | [.int i] => .ok (some i)
  | _ => .stuck
def slop : D → Option Int → Option Int → R D
  | .list ds, lo, hi => .ok (.list (cutD ds lo hi))
  | .tuple ds, lo, hi => .ok (.tuple (cutD ds lo hi))
  | .str z, lo, hi => if z.length ≤ 1000000 then .ok (.str (L2.cutS z lo hi)) else .stuck
  | _, _, _ => .stuck
def boolsD : List D → Option (List Bool)
  | [] => some []
  | .bool i :: r => (boolsD r).map (i :: ·)
  | _ => none
def maxI : Int → List Int → Int
  | m, [] => m
  | m, x :: r => maxI (if x > m then x else m) r
def minI : Int → List Int → Int
  | m, [] => m
  | m, x :: r => minI (if x < m then x else m) r
def minOk (ds : List D) : Bool := !ds.isEmpty && (ds.all fun d => shp d && !isNone d && decide (d.depth ≤ 60) && ds.all fun e => PySem.W.alike d e)
/-- the least of data alike -/
def minD (ds : List D) : R D := if minOk ds = true then .ok (ds.getD (leastAt ds) .none) else .stuck
def isTupN : D → Bool
  | .tuple (_ :: _) => true
  | _ => false
def isTup : D → Bool
  | .tuple _ => true
  | _ => false
def sortOk (ds : List D) : Bool := (ds.all fun d => shp d && decide (d.depth ≤ 60) && ds.all fun e => PySem.W.alike d e) && (decide (ds.length ≤ 1000000) && ((ds.all isTupN) || ds.all fun d => !isNone d && !isTup d))
/-- data alike, sorted -/
def sortD (ds : List D) : R D := if sortOk ds = true then .ok (.list (sortL ds)) else .stuck
def bi : Bi → List D → R D
  | .len, [.list ds] => .ok (.int ds.length)
  | .len, [.tuple ds] => .ok (.int ds.length)
  | .abs, [.int i] => .ok (.int (if i < 0 then -i else i))
  | .max2, [.int i, .int j] => .ok (.int (if j > i then j else i))
  | .min2, [.int i, .int j] => .ok (.int (if j < i then j else i))
  | .sum, [.list ds] => match intsD ds with
    | some ns => .ok (.int ns.sum)
    | none => .stuck
  | .max1, [.list ds] => match intsD ds with
    | some (n :: ns) => .ok (.int (maxI n ns))
    | _ => .stuck
  | .min1, [.list ds] => match intsD ds with
    | some (n :: ns) => .ok (.int (minI n ns))
    | _ => minD ds
  | .all, [.list ds] => match boolsD ds with
    | some ns => .ok (.bool (ns.all id))
    | none => .stuck
  | .any, [.list ds] => match boolsD ds with
    | some ns => .ok (.bool (ns.any id))
    | none => .stuck
  | .list, [.list ds] => .ok (.list ds)
  | .list, [.tuple ds] => .ok (.list ds)
  | .tuple, [.list ds] => .ok (.tuple ds)
  | .tuple, [.tuple ds] => .ok (.tuple ds)
  | .int, [.int i] => .ok (.int i)
  | .int, [.bool k] => .ok (.int (if k then 1 else 0))
  | .len, [.str z] => if z.length ≤ 1000000 then .ok (.int (z.length : Nat)) else .stuck
  | .sorted, [.list ds] => sortD ds
  | .sorted, [.tuple ds] => sortD ds
  | .str, [.int i] => if i.natAbs.log2 < 1920 then .ok (.str (toString i)) else .stuck
  | .int, [.str z] => if z.length ≤ 640 then (match PySem.intText? z with
    | some n => .ok (.int n)
    | none => .stuck) else .stuck
  | _, _ => .stuck
def tyD : D → String
  | .none => "NoneType"
  | .bool _ => "bool"
  | .int _ => "int"
  | .str _ => "str"
  | .list _ => "list"
  | .tuple _ => "tuple"
  | .dict _ => "dict"
def dicD : D → Bool
  | .dict _ => true
  | _ => false
def isiD (t : String) (d : D) : R D := if dicD d = true then .stuck else match kitB (tyD d) t with
  | some b => .ok (.bool b)
  | none => .stuck
def ofB : D → R Bool
  | .bool b => .ok b
  | _ => .stuck
def pairD (a b : D) : D := .tuple [a, b]
def itSeq : List D → R (List D)
  | [.list ds] => .ok ds
  | [.tuple ds] => .ok ds
  | [.str z] => .ok (z.cps.toList.map fun c => PyData.str ⟨#[c]⟩)
  | _ => .stuck
def itRng1 : List D → R (List D)
  | [.int j] => if -1000000 ≤ j ∧ j ≤ 1000000 then .ok ((List.range j.toNat).map fun (i : Nat) => PyData.int (0 + (i : Int))) else .stuck
  | _ => .stuck
def itRng2 : List D → R (List D)
  | [.int i, .int j] => if -1000000 ≤ i ∧ i ≤ 1000000 ∧ -1000000 ≤ j ∧ j ≤ 1000000 then .ok ((List.range (j - i).toNat).map fun (k : Nat) => PyData.int (i + (k : Int))) else .stuck
  | _ => .stuck
def itRng3 : List D → R (List D)
  | [.int i, .int j, .int c] => if -1000000 ≤ i ∧ i ≤ 1000000 ∧ -1000000 ≤ j ∧ j ≤ 1000000 ∧ -1000000 ≤ c ∧ c ≤ 1000000 ∧ c ≠ 0 then .ok ((List.range (Builtin.Range.rangeSize i j c).toNat).map fun (k : Nat) => PyData.int (i + (k : Int) * c)) else .stuck
  | _ => .stuck
def itEnum : List D → R (List D)
  | [.list ds] => .ok (ds.zipIdx.map fun p => pairD (.int (p.2 : Nat)) p.1)
  | [.tuple ds] => .ok (ds.zipIdx.map fun p => pairD (.int (p.2 : Nat)) p.1)
  | _ => .stuck
def itZip : List D → R (List D)
  | [.list as, .list bs] => .ok ((as.zip bs).map fun p => pairD p.1 p.2)
  | [.tuple as, .tuple bs] => .ok ((as.zip bs).map fun p => pairD p.1 p.2)
  | _ => .stuck
def iters (w : Wk) (ds : List D) : R (List D) := match w with
  | .seq => itSeq ds
  | .rng1 => itRng1 ds
  | .rng2 => itRng2 ds
  | .rng3 => itRng3 ds
  | .enum => itEnum ds
  | .zip => itZip ds
  | _ => .stuck
def setAll : Env → List Nat → List D → Env
  | env, i :: is, d :: ds => setAll (env.set i (some d)) is ds
  | env, _, _ => env
def Tg.asg : Tg → D → Env → R Env
  | .nm i, d, env => .ok (env.set i (some d))
  | .tp is, .tuple ds, env => if ds.length = is.length then .ok (setAll env is ds) else .stuck
  | _, _, _ => .stuck
def wipeE (env : Env) : List Nat → Env
  | [] => env
  | v :: vs => (wipeE env vs).set v none
def compL (f : D → R (Option D)) : List D → R (List D)
  | [] => .ok []
  | x :: xs => (f x).bind fun o => (compL f xs).bind fun r => .ok (o.toList ++ r)
def noX {α : Type} : R α → R α
  | .exc _ _ => .stuck
  | r => r
def lcD (f : D → R (Option D)) (items : List D) : R D := if items.length ≤ 1000000 then (compL f items).bind fun ds => .ok (.list ds) else .stuck
def tstD : List D → R Bool
  | [] => .ok true
  | [d] => ofB d
  | _ => .stuck
def getE (env : Env) (i : Nat) : R D := match env[i]? with
  | some (some d) => .ok d
  | _ => .stuck
def rvlD : D → R D
  | .list ds => .ok (.list ds.reverse)
  | _ => .stuck
def rvsD : D → R D
  | .list ds => .ok (.list ds.reverse)
  | .tuple ds => .ok (.tuple ds.reverse)
  | _ => .stuck
def strsD : List D → Option (List Str)
  | [] => some []
  | .str z :: r => (strsD r).map (z :: ·)
  | _ => none
/-- a text put between texts -/
def joinD (a : Str) (ds : List D) : R D := match strsD ds with
  | some ys => if (ys.map (·.length)).sum + ys.length * a.length ≤ 16777216 then .ok (.str (Txt.join a ys)) else .stuck
  | none => .stuck
def strR : D → R Str
  | .str z => .ok z
  | _ => .stuck
def tmD : Tm → Str → D → R D
  | .join, a, .list ds => joinD a ds
  | .join, a, .tuple ds => joinD a ds
  | .part, a, .str b => if (b.length == 0) = false ∧ a.length ≤ 1000000 then .ok (.tuple [.str (Txt.partition a b).1, .str (Txt.partition a b).2.1, .str (Txt.partition a b).2.2]) else .stuck
  | .split, a, .str b => if (b.length == 0) = false ∧ a.length ≤ 999998 then .ok (.list ((Txt.split a b).map PyData.str)) else .stuck
  | _, _, _ => .stuck
def rvtD : D → R D
  | .list ds => .ok (.list (ds.drop 1).reverse)
  | _ => .stuck
def tupsD : List D → Option (List (List Int))
  | [] => some []
  | .tuple ds :: r => (intsD ds).bind fun k => (tupsD r).map (k :: ·)
  | _ => none
def nub {α : Type} [DecidableEq α] : List α → List α
  | [] => []
  | x :: r => if x ∈ r then nub r else x :: nub r
def lsetK : Option (List (List Int)) → R D
  | some ks => if ks.length < 64 then .ok (.int ((nub ks).length : Nat)) else .stuck
  | none => .stuck
def lsetD : D → R D
  | .list ds => lsetK (tupsD ds)
  | _ => .stuck
def idxK (d : D) (ds : List D) : R D := match ds.findIdx? fun z => PyData.eqv z d with
  | some j => .ok (.int (j : Nat))
  | none => .stuck
def lisD : D → R (List D)
  | .list ds => .ok ds
  | _ => .stuck
def idxD : D → D → R D
  | .list ds, d => if shp d = true ∧ shp (.list ds) = true then idxK d ds else .stuck
  | _, _ => .stuck
mutual
def evE (F : Nat → List D → R D) : E → Env → R D
  | .v i, env => getE env i
  | .i n, _ => .ok (.int n)
  | .b x, _ => .ok (.bool x)
  | .s x, _ => .ok (.str x)
  | .non, _ => .ok .none
  | .op o a b, env => (evE F a env).bind fun x => (evE F b env).bind fun y => bop o x y
  | .neg a, env => (evE F a env).bind fun x => match x with
    | .int i => .ok (.int (-i))
    | _ => .stuck
  | .cmp o a b, env => (evE F a env).bind fun x => (evE F b env).bind fun y => cop o x y
  | .chain o o' a b c, env => (evE F a env).bind fun x => (evE F b env).bind fun y => (cop o x y).bind fun t => (ofB t).bind fun k =>
      if k = true then (evE F c env).bind fun z => cop o' y z else .ok (.bool false)
  | .and a b, env => (evE F a env).bind fun x => (ofB x).bind fun k => if k = true then evE F b env else .ok (.bool false)
  | .or a b, env => (evE F a env).bind fun x => (ofB x).bind fun k => if k = true then .ok (.bool true) else evE F b env
  | .one a, env => evE F a env
  | .not a, env => (evE F a env).bind fun x => (ofB x).bind fun k => .ok (.bool (!k))
  | .ife c a b, env => (evE F c env).bind fun x => (ofB x).bind fun k => if k = true then evE F a env else evE F b env
  | .tup es, env => (evEs F es env).bind fun ds => .ok (.tuple ds)
  | .lst es, env => (evEs F es env).bind fun ds => .ok (.list ds)
  | .ix a i, env => (evE F a env).bind fun x => (evE F i env).bind fun y => ixop x y
  | .sl a lo hi, env => (evE F a env).bind fun x => (evEs F lo env).bind fun l => (partD l).bind fun l => (evEs F hi env).bind fun h => (partD h).bind fun h => slop x l h
  | .call f es, env => (evEs F es env).bind fun ds => F f ds
  | .callF f es, env => (evEs F es env).bind fun ds => F f ds
  | .callW f es e, env => (evEs F es env).bind fun ds => (evE F e env).bind fun d => F f (ds ++ [d])
  | .bi b es, env => (evEs F es env).bind fun ds => bi b ds
  | .isi t a, env => (evE F a env).bind fun x => isiD t x
  | .lc w ws tg c e own, env => ((evEs F ws env).bind fun ds => iters w ds).bind fun items =>
      lcD (fun x => noX ((tg.asg x (wipeE env (own.map (·.2)))).bind fun env' => (evEs F c env').bind fun cs => (tstD cs).bind fun k =>
        if k = true then (evE F e env').bind fun d => .ok (some d) else .ok none)) items
  | .rvl a, env => (evE F a env).bind rvlD
  | .rvt a, env => (evE F a env).bind rvtD
  | .rvs a, env => (evE F a env).bind rvsD
  | .lset a, env => (evE F a env).bind lsetD
  | .xq ks j, env => (getE env j).bind fun d => F 0 (d :: ks.map fun (k : Nat) => PyData.int (k : Nat))
  | .kd d, _ => .ok d
  | .tm m a b, env => (evE F a env).bind fun x => (strR x).bind fun z => (evE F b env).bind fun y => tmD m z y
  | .idx a b, env => (evE F a env).bind fun x => (lisD x).bind fun ds => (evE F b env).bind fun y => idxD (.list ds) y
def evEs (F : Nat → List D → R D) : Es → Env → R (List D)
  | .nil, _ => .ok []
  | .cons e es, env => (evE F e env).bind fun d => (evEs F es env).bind fun ds => .ok (d :: ds)
end
def Es.len : Es → Nat
  | .nil => 0
  | .cons _ es => es.len + 1
theorem evEs_len {F : Nat → List D → R D} : ∀ (es : Es) (env : Env) (ds : List D), evEs F es env = .ok ds → ds.length = es.len
  | .nil, env, ds, h => by
    rw [evEs] at h
    cases h
    rfl
  | .cons e es, env, ds, h => by
    rw [evEs] at h
    cases h1 : evE F e env with
    | stuck => rw [h1] at h; cases h
    | exc c p => rw [h1] at h; cases h
    | ok d =>
      rw [h1] at h
      cases h2 : evEs F es env with
      | stuck => rw [h2] at h; cases h
      | exc c p => rw [h2] at h; cases h
      | ok es' =>
        rw [h2] at h
        cases h
        exact congrArg Nat.succ (evEs_len es env _ h2)

/-! ### the readings -/
structure EnvOk (K : PySem.W.Frag) (O : List Addr) (σ : L2.St) (H : Hp) (env : Env) : Prop where
  al : Alloc O H
  len : σ.length = env.length
  at_ : ∀ (i : Nat) (d : D), env[i]? = some (some d) → ∃ v, σ[i]? = some (some v) ∧ Dq K (cut H O) v d
theorem EnvOk.up {K : PySem.W.Frag} {O : List Addr} {σ : L2.St} {H H1 : Hp} {env : Env} (h : EnvOk K O σ H env) (s : Same H H1) : EnvOk K O σ H1 env :=
  ⟨h.al.mono s, h.len, fun i d e => let ⟨v, h1, h2⟩ := h.at_ i d e; ⟨v, h1, dp_mono (cut_same s) d v h2⟩⟩
def rd (K : PySem.W.Frag) (F : Nat → List D → R D) (G : Gs) (W : WX) (m : E) : TE := fun σ H Q => ∃ O env, EnvOk K O σ H env ∧ Post (dp K O) G σ H W Q (evE F m env)
def rds (K : PySem.W.Frag) (F : Nat → List D → R D) (G : Gs) (W : WX) (m : Es) : TA := fun σ H Q => ∃ O env, EnvOk K O σ H env ∧ Post (dps K O) G σ H W Q (evEs F m env)
def repB : Hp → Bool → Bool → Prop := fun _ b k => b = k
def rdTs (K : PySem.W.Frag) (F : Nat → List D → R D) (G : Gs) (W : WX) (c : Es) : TT := fun σ H Q => ∃ O env, EnvOk K O σ H env ∧ Post repB G σ H W Q ((evEs F c env).bind fun cs => tstD cs)
def rdO (K : PySem.W.Frag) (F : Nat → List D → R D) (G : Gs) (W : WX) (c : Es) : TO := fun σ H Q => ∃ O env, EnvOk K O σ H env ∧ Post (fun _ o o' => o = o') G σ H W Q ((evEs F c env).bind fun cs => partD cs)
def rdT (K : PySem.W.Frag) (F : Nat → List D → R D) (G : Gs) (W : WX) (m : E) : TT := fun σ H Q => ∃ O env, EnvOk K O σ H env ∧ Post repB G σ H W Q ((evE F m env).bind fun x => ofB x)
/-- a new list -/
def dpn (K : PySem.W.Frag) (O : List Addr) (H0 : Hp) : Hp → V → D → Prop := fun H v d => ∃ p vs ds, v = .ref p ∧ d = .list ds ∧ H0 p = none ∧ H p = some (.lst vs) ∧ DqAll K (cut H (p :: O)) vs ds
def lsD : D → R D
  | .list ds => .ok (.list ds)
  | _ => .stuck
def rdN (K : PySem.W.Frag) (F : Nat → List D → R D) (G : Gs) (W : WX) (m : E) : TE := fun σ H Q => ∃ O env, EnvOk K O σ H env ∧ Post (dpn K O H) G σ H W Q ((evE F m env).bind lsD)
theorem dp_of_dpn {K : PySem.W.Frag} {O : List Addr} {H0 H : Hp} {v : V} {d : D} (al : Alloc O H0) (h : dpn K O H0 H v d) : Dq K (cut H O) v d := by
  obtain ⟨p, vs, ds, rfl, rfl, n, e, q⟩ := h
  exact .lst (.inl (.inl (cut_of e (al.out n)))) (dps_mono (cut_sub fun a m => List.mem_cons_of_mem _ m) _ _ q)
theorem Post.rep {α β : Type} {rep rep' : Hp → β → α → Prop} {G : Gs} {σ : L2.St} {H : Hp} {W : WX} {Q : β → Hp → Prop} {r : R α} (h : Post rep G σ H W Q r) (i : ∀ H' v d, Same H H' → rep' H' v d → rep H' v d) : Post rep' G σ H W Q r := by
  cases r with
  | stuck => exact h
  | ok d => exact fun v H' e p => h v H' e (i H' v d e p)
  | exc c p => exact h
theorem rdN_of {K : PySem.W.Frag} {F : Nat → List D → R D} {G : Gs} {W : WX} {m : E} {σ : L2.St} {H : Hp} {Q : VK} (l : ∀ env d, evE F m env = .ok d → ∃ ds, d = .list ds) (h : rd K F G W m σ H Q) : rdN K F G W m σ H Q := by
  obtain ⟨O, env, e, p⟩ := h
  have z : (evE F m env).bind lsD = evE F m env := by
    cases q : evE F m env with
    | stuck => rfl
    | exc c p => rfl
    | ok d =>
      obtain ⟨ds, rfl⟩ := l env d q
      rfl
  exact ⟨O, env, e, by rw [z]; exact p.rep fun H' v d _ q => dp_of_dpn e.al q⟩

/-! ### what may be in the air: any exception, or one without a context alone -/
def CXf (b : Bool) (P : Program) (w : World) : CXT := match b with
  | false => L2.CX P w
  | true => L2N.CX P w
def Tk (b : Bool) (X : Cx) (W : WX) : Prop := match b with
  | false => Takes X W
  | true => L2N.Takes X W
theorem flyZ_imp {h B : Heap} {l : List PySem.Env} {a : Addr} {Z Z' : Obj → Prop} (z : ∀ o, Z o → Z' o) (x : HandSPX.FlyingZ B l a Z h) : HandSPX.FlyingZ B l a Z' h := by
  obtain ⟨x1, x2, x3, oe, vs, T, oT, ts, he, hz, r⟩ := x
  exact ⟨x1, x2, x3, oe, vs, T, oT, ts, he, z _ hz, r⟩
theorem cx_weak {P : Program} {w : World} {outer : List PySem.Env} {H : Hp} {s : Shared} {E : XK} {u : Value} {s' : Shared} (h : L2N.CX P w outer H s E u s') : L2.CX P w outer H s E u s' := by
  obtain ⟨a, B, H', cls, d, e, fl, r⟩ := h
  exact ⟨a, B, H', cls, d, e, flyZ_imp (fun _ z => z.zc) fl, r⟩
theorem cx_up {b : Bool} {P : Program} {w : World} {outer : List PySem.Env} {H : Hp} {s : Shared} {E : XK} {u : Value} {s' : Shared} (h : CXf true P w outer H s E u s') : CXf b P w outer H s E u s' := by
  cases b with
  | true => exact h
  | false => exact cx_weak h
/-- a stricter def serves where any will do -/
theorem FnOk.weak {b : Bool} {P : Program} {w : World} {K : PySem.W.Frag} {mg : Str → Option Value} {base : Heap} {k : Nat} {f : Addr} {fd : FuncData} {ps : List Str} {sp : Sp} (F : FnOk P w K mg base (CXf true P w) k f fd ps sp) : FnOk P w K mg base (CXf b P w) k f fd ps sp :=
  ⟨F.len, fun A outer s H args us vs Q E hr he hb hv hs => codeAny_mono (F.run A outer s H args us vs Q E hr he hb hv hs) fun r s' hq => by
    cases r with
    | error e => exact cx_up hq
    | ok fl => cases fl <;> exact hq⟩
theorem tk0 {b : Bool} {X : Cx} : Tk b X (fun _ _ _ _ => False) := by
  cases b with
  | false => exact takes0
  | true =>
    intro u s' x
    obtain ⟨_, _, _, _, _, _, _, _, _, _, _, _, _, _, _, _, z⟩ := x
    exact z.elim
theorem tkAt {b : Bool} {X : Cx} {W : WX} (tk : Tk b X W) (σ : L2.St) : PassesAt (CXf b X.prog X.w) X σ (WE W σ) := by
  cases b with
  | false => exact passAt tk σ
  | true => exact L2N.passAt tk σ

/-! ### data that the module's names bear -/
mutual
def eqDD : D → D → Bool
  | .none, .none => true
  | .bool a, .bool b => decide (a = b)
  | .int i, .int j => decide (i = j)
  | .str x, .str y => decide (x = y)
  | .list a, .list b => eqDs a b
  | .tuple a, .tuple b => eqDs a b
  | _, _ => false
def eqDs : List D → List D → Bool
  | [], [] => true
  | a :: as, b :: bs => eqDD a b && eqDs as bs
  | _, _ => false
end
mutual
theorem eqDD_ok : ∀ {a b : D}, eqDD a b = true → a = b
  | .none, b, h => by cases b <;> first | rfl | (unfold eqDD at h; cases h)
  | .bool a, b, h => by cases b <;> first | (unfold eqDD at h; rw [of_decide_eq_true h]) | (unfold eqDD at h; cases h)
  | .int a, b, h => by cases b <;> first | (unfold eqDD at h; rw [of_decide_eq_true h]) | (unfold eqDD at h; cases h)
  | .str a, b, h => by cases b <;> first | (unfold eqDD at h; rw [of_decide_eq_true h]) | (unfold eqDD at h; cases h)
  | .list a, b, h => by cases b <;> first | (unfold eqDD at h; rw [eqDs_ok h]) | (unfold eqDD at h; cases h)
  | .tuple a, b, h => by cases b <;> first | (unfold eqDD at h; rw [eqDs_ok h]) | (unfold eqDD at h; cases h)
  | .dict a, b, h => by cases b <;> (unfold eqDD at h; cases h)
theorem eqDs_ok : ∀ {a b : List D}, eqDs a b = true → a = b
  | [], b, h => by cases b <;> first | rfl | (unfold eqDs at h; cases h)
  | a :: as, b, h => by
    cases b with
    | nil => unfold eqDs at h; cases h
    | cons c cs =>
      unfold eqDs at h
      have h2 := Bool.and_eq_true_iff.mp h
      rw [eqDD_ok h2.1, eqDs_ok h2.2]
end
def gdHas (l : List (Str × D)) (x : Str) (d : D) : Bool := l.any fun p => decide (p.1 = x) && eqDD p.2 d
/-- the module's names bear these data -/
def GdF (K : PySem.W.Frag) (mg : Str → Option Value) (l : List (Str × D)) : Prop := ∀ x d, gdHas l x d = true → ∃ (u : Value) (v : V), mg x = some u ∧ RelV v u ∧ ∀ H : Hp, Dq K H v d
theorem GdF.nil {K : PySem.W.Frag} {mg : Str → Option Value} : GdF K mg [] := fun _ _ h => nomatch h
/-! ### the context -/
structure Ct where
  N : List Str
  sc : Scope
  fns : List (Str × Nat)
  bls : List Str
  cm : Bool := true
  gis : List (Str × Int) := []
  gds : List (Str × PyData) := []
  kfns : List (Nat × Str × Nat × Str) := []
  ffns : List (Nat × Str × Nat) := []
  pfns : List (Nat × Str × Nat × Nat) := []
  sfns : List (Nat × Str × Nat) := []
  st : Bool := false
  cx : Option (Str × Nat × List (Nat × Str)) := none
/-- what a def promises -/
def spD (K : PySem.W.Frag) (G : Gs) (n : Nat) (f : List D → R D) : Sp := fun vs H Q E => ∃ O ds, Alloc O H ∧ vs.length = n ∧ DqAll K (cut H O) vs ds ∧ Post (dp K O) G [] H (fun c d _ H => E c d H) Q (f ds)
def CallOk (st : Bool) (X : Cx) (G : Gs) (f : List D → R D) (x : Str) (n : Nat) : Prop := ∃ (k : Nat) (fa : Addr) (fd : FuncData) (ps : List Str) (ds : List Value) (dvs : List V) (sp : Sp),
  FnOk X.prog X.w X.K X.mg X.base (CXf st X.prog X.w) k fa fd ps sp ∧ Room k X.A ∧ X.mg x = some (.ref fa) ∧ PySem.W.keepIn X.K (.ref fa) = true ∧ Binds X.K fd ps ds ∧ Vals dvs ds ∧ ∀ vs H Q E, spD X.K G n f vs H Q E → sp (vs ++ dvs) H Q E
/-- what a def promises that hands back a new list -/
def spF (K : PySem.W.Frag) (G : Gs) (n : Nat) (f : List D → R D) : Sp := fun vs H Q E => ∃ O ds, Alloc O H ∧ vs.length = n ∧ DqAll K (cut H O) vs ds ∧ Post (dpn K O H) G [] H (fun c d _ H => E c d H) Q (f ds)
def CallFOk (st : Bool) (X : Cx) (G : Gs) (f : List D → R D) (x : Str) (n : Nat) : Prop := ∃ (k : Nat) (fa : Addr) (fd : FuncData) (ps : List Str) (ds : List Value) (dvs : List V) (sp : Sp),
  FnOk X.prog X.w X.K X.mg X.base (CXf st X.prog X.w) k fa fd ps sp ∧ Room k X.A ∧ X.mg x = some (.ref fa) ∧ PySem.W.keepIn X.K (.ref fa) = true ∧ Binds X.K fd ps ds ∧ Vals dvs ds ∧ ∀ vs H Q E, spF X.K G n f vs H Q E → sp (vs ++ dvs) H Q E
/-- what a def promises that changes its k-th argument, a list, and hands back data -/
def PostPool (K : PySem.W.Frag) (O : List Addr) (p : Addr) (H : Hp) (Q : VK) (r : R D) : Prop := ∃ d ps, r = .ok (pairD d (.list ps)) ∧ ∀ v H' ws, Same (cut H [p]) H' → H' p = some (.lst ws) → DqAll K (cut H' (p :: O)) ws ps → Dq K (cut H' (p :: O)) v d → Q v H'
def spP (K : PySem.W.Frag) (n k : Nat) (f : List D → R D) : Sp := fun vs H Q E => ∃ O p ws ps v1 v2 d1 d2, Alloc O H ∧ p ∉ O ∧ H p = some (.lst ws) ∧ DqAll K (cut H (p :: O)) ws ps ∧ vs = v1 ++ .ref p :: v2 ∧ v1.length = k ∧ vs.length = n ∧ DqAll K (cut H (p :: O)) v1 d1 ∧ DqAll K (cut H (p :: O)) v2 d2 ∧ PostPool K O p H Q (f (d1 ++ .list ps :: d2))
def CallPOk (st : Bool) (X : Cx) (f : List D → R D) (x : Str) (n k : Nat) : Prop := ∃ (j : Nat) (fa : Addr) (fd : FuncData) (ps : List Str) (ds : List Value) (dvs : List V) (sp : Sp),
  FnOk X.prog X.w X.K X.mg X.base (CXf st X.prog X.w) j fa fd ps sp ∧ Room j X.A ∧ X.mg x = some (.ref fa) ∧ PySem.W.keepIn X.K (.ref fa) = true ∧ Binds X.K fd ps ds ∧ Vals dvs ds ∧ ∀ vs H Q E, spP X.K n k f vs H Q E → sp (vs ++ dvs) H Q E
/-- called with n values and one by its name -/
def CallKOk (st : Bool) (X : Cx) (G : Gs) (f : List D → R D) (x : Str) (n : Nat) (kn : Str) : Prop := ∃ (k : Nat) (fa : Addr) (fd : FuncData) (ps : List Str) (g : List Value → List Value → List Value) (sp : Sp),
  FnOk X.prog X.w X.K X.mg X.base (CXf st X.prog X.w) k fa fd ps sp ∧ Room k X.A ∧ X.mg x = some (.ref fa) ∧ PySem.W.keepIn X.K (.ref fa) = true ∧ KBn X.K fd ps n [kn] g (fun vs zs => vs ++ zs) ∧ ∀ vs H Q E, spD X.K G (n + 1) f vs H Q E → sp vs H Q E
/-! ### the checks -/
def isVis (sc : Scope) (x : Str) : Bool := match sc.names.lookup x with
  | some .local => true
  | some .cell => true
  | some .free => true
  | _ => false
def isGl (sc : Scope) (x : Str) : Bool := match sc.names.lookup x with
  | some .globalImplicit => true
  | _ => false
theorem isVis_ok {sc : Scope} {x : Str} (h : isVis sc x = true) : Vis sc x := by
  unfold isVis at h
  split at h
  · exact .inl (by assumption)
  · exact .inr (.inl (by assumption))
  · exact .inr (.inr (by assumption))
  · cases h
theorem isGl_ok {sc : Scope} {x : Str} (h : isGl sc x = true) : sc.names.lookup x = some .globalImplicit := by
  unfold isGl at h
  split at h
  · assumption
  · cases h
def notDbg (x : Str) : Bool := !(x == ("__debug__" : Str))
def notCls (x : Str) : Bool := !(x == ("__classdict__" : Str))
theorem notDbg_ok {x : Str} (h : notDbg x = true) : (x == ("__debug__" : Str)) = false := by
  unfold notDbg at h
  simpa using h
theorem notCls_ok {x : Str} (h : notCls x = true) : (x == ("__classdict__" : Str)) = false := by
  unfold notCls at h
  simpa using h
/-- the classes that are named, by number; ValueError is 11 -/
def clsNo (C : Ct) (exs : List (Nat × Str)) (k : Nat) (x : Str) : Bool := if k = 11 then decide (x = "ValueError") && decide (x ∈ C.bls) else decide (exs.lookup k = some x)
def clsNos (C : Ct) (exs : List (Nat × Str)) : List Nat → List Expr → Bool
  | [], [] => true
  | k :: ks, .Name x _ :: es => clsNo C exs k x && (isGl C.sc x && (notDbg x && clsNos C exs ks es))
  | _, _ => false
/-- isinstance(e, K), isinstance(e, (K, ..)), e.board, e the exception that a suite holds, by the name in slot j -/
def xqOk (C : Ct) (n : Str) (exs : List (Nat × Str)) (j : Nat) (ks : List Nat) : Expr → Bool
  | .Call (.Name x _) [.Name y _, .Name k p] [] _ => decide (x = "isinstance") && (isGl C.sc x && (decide (x ∈ C.bls) && (decide (y = n) && (decide (C.N[j]? = some n) && (isVis C.sc n && (notDbg n && (notCls n && (decide (ks.length = 1) && (decide (ks ≠ [12]) && clsNos C exs ks [.Name k p])))))))))
  | .Call (.Name x _) [.Name y _, .Tuple es _ _] [] _ => decide (x = "isinstance") && (isGl C.sc x && (decide (x ∈ C.bls) && (decide (y = n) && (decide (C.N[j]? = some n) && (isVis C.sc n && (notDbg n && (notCls n && (decide (2 ≤ ks.length) && (decide (ks.length ≤ 20) && clsNos C exs ks es)))))))))
  | .Attribute (.Name y _) f _ => decide (f = if ks = [12] then "row" else "board") && (decide (y = n) && (decide (C.N[j]? = some n) && (isVis C.sc n && (notDbg n && (notCls n && (decide (ks = []) || decide (ks = [12])))))))
  | _ => false
structure Gd (C : Ct) (F : Nat → List D → R D) (G : Gs) (W : WX) (X : Cx) : Prop where
  N : X.N = C.N
  nd : C.N.Nodup
  sc : X.env.scope = C.sc
  calm : C.cm = true → X.calm = true
  hu : X.A.units + 65 < cLine
  tk : Tk C.st X W
  fns : ∀ i x n, C.fns[i]? = some (x, n) → CallOk C.st X G (F i) x n
  bls : ∀ x ∈ C.bls, X.mg x = none
  gis : ∀ x n, (x, n) ∈ C.gis → ∃ t, X.mg x = some (.int n t)
  gds : GdF X.K X.mg C.gds
  kfns : ∀ i x n kn, (i, x, n, kn) ∈ C.kfns → CallKOk C.st X G (F i) x n kn
  ffns : ∀ i x n, (i, x, n) ∈ C.ffns → CallFOk C.st X G (F i) x n
  pfns : ∀ i x n k, (i, x, n, k) ∈ C.pfns → CallPOk C.st X (F i) x n k
  sfns : ∀ i x n, (i, x, n) ∈ C.sfns → CallOk true X G (F i) x n
  xq : ∀ n j exs, C.cx = some (n, j, exs) → ∀ ks e, xqOk C n exs j ks e = true → PE X e (rd X.K F G W (.xq ks j))

def okE : Expr → Bool
  | .Name .. => true
  | .Constant .. => true
  | .BinOp .. => true
  | .UnaryOp .. => true
  | .Compare .. => true
  | .BoolOp .. => true
  | .IfExp .. => true
  | .Call .. => true
  | .Subscript .. => true
  | .Tuple .. => true
  | .List .. => true
  | .ListComp .. => true
  | .Attribute .. => true
  | _ => false
theorem star_of {e : Expr} {es : List Expr} {env : PySem.Env} (h : okE e = true) : starEach (e :: es) env = (false, eval e env) :: starEach es env := by
  cases e <;> first | rfl | cases h
theorem plain_of : ∀ {es : List Expr} {env : PySem.Env} {pos : Pos}, es.all okE = true → (backTo pos (starEach es env)).any (·.1) = false
  | [], _, _, _ => rfl
  | e :: es, env, pos, h => by
    rw [List.all_cons, Bool.and_eq_true] at h
    rw [star_of h.1]
    show (false || (backTo pos (starEach es env)).any (·.1)) = false
    rw [plain_of h.2]
    rfl
theorem ix_of {e : Expr} (h : okE e = true) : PlainIx e := by
  cases e <;> first | (intro _ _; rfl) | cases h
theorem fold_of {e : Expr} {env : PySem.Env} (h : okE e = true) : ∀ x, foldedSetIterable e env x = pure x := by
  cases e <;> first | (intro _; rfl) | cases h
theorem mark_of {o : CmpOp} {e : Expr} (h : okE e = true) : behindInMarks o e = false := by
  cases e <;> first | rfl | cases h
end Bs

namespace Bs
open PySem PySem.Spec L2
open PyProof.Rows hiding St

/-! ### calls -/
section
variable {X : Cx} {CX : CXT} {k : Nat} {f : Addr} {fd : FuncData} {ps : List Str} {sp : Sp} {dvs : List V} {ds : List Value} {E : L2.St → XK} {x : Str} {p pos : Pos} {e : Expr} {es : List Expr} {t : TA}
theorem run_fnG {pins : List (Addr × Obj)} {σ : L2.St} {H : Hp} {s : Shared} {Q : VK} {us : List Value} {vs : List V} (F : FnOk X.prog X.w X.K X.mg X.base CX k f fd ps sp) (hr : Room k X.A) (hb : Binds X.K fd ps ds) (hd : Vals dvs ds) (hx : PassesAt CX X σ (E σ))
    (I : Inv X pins σ H s) (r : Vals vs us) (h : sp (vs ++ dvs) H Q (E σ)) : wpAny (model X.prog X.w) X.A (call (.ref f) us) (EP X pins σ Q) X.xe s := by
  have r2 : Vals (vs ++ dvs) (us ++ ds) := r.append hd
  have hl : (us ++ ds).length = ps.length := by rw [← r2.length]; exact F.len _ _ _ _ h
  refine wpAny_call (codeAny_mono (F.run X.A X.stack s H ⟨us, []⟩ (us ++ ds) (vs ++ dvs) Q (E σ) hr I.env0 (hb s us I.kIn hl) r2 h) fun r s' hq => ?_)
  cases r with
  | error e => exact hx pins H s e s' I hq
  | ok fl =>
    cases fl with
    | ret u => exact I.after hq
    | next => exact False.elim hq
    | brk => exact False.elim hq
    | cont => exact False.elim hq
theorem pe_callG (F : FnOk X.prog X.w X.K X.mg X.base CX k f fd ps sp) (hr : Room k X.A) (hg : Gl X x) (hm : X.mg x = some (.ref f)) (hk : PySem.W.keepIn X.K (.ref f) = true) (hb : Binds X.K fd ps ds) (hd : Vals dvs ds) (hx : ∀ σ, PassesAt CX X σ (E σ))
    (ha : PA X (e :: es) t) (hdb : (x == ("__debug__" : Str)) = false) (he : starEach (e :: es) X.env = (false, eval e X.env) :: starEach es X.env) (hpl : (backTo pos (starEach es X.env)).any (·.1) = false) :
    PE X (.Call (.Name x p) (e :: es) [] pos) (fun σ H Q => t σ H fun vs H1 => sp (vs ++ dvs) H1 Q (E σ)) := by
  refine ⟨fun pins s σ H Q I h => ?_⟩
  refine wpAny_Call_Name_kw (ld_glob I hg hm ?_ hdb)
  refine PySem.W.callWith_K (h₀ := X.base) I.ok.mod.kin hk (thn (ha.run pos pins s σ H _ I h) fun us s1 ⟨vs, H1, I1, r, q⟩ => ⟨I1.kIn, ?_⟩) he hpl
  exact run_fnG F hr hb hd (hx σ) I1 r q
theorem pe_callG0 (F : FnOk X.prog X.w X.K X.mg X.base CX k f fd ps sp) (hr : Room k X.A) (hg : Gl X x) (hm : X.mg x = some (.ref f)) (hk : PySem.W.keepIn X.K (.ref f) = true) (hb : Binds X.K fd ps ds) (hd : Vals dvs ds) (hx : ∀ σ, PassesAt CX X σ (E σ))
    (hdb : (x == ("__debug__" : Str)) = false) : PE X (.Call (.Name x p) [] [] pos) (fun σ H Q => sp ([] ++ dvs) H Q (E σ)) := by
  refine ⟨fun pins s σ H Q I h => ?_⟩
  refine wpAny_Call_Name_kw (ld_glob I hg hm ?_ hdb)
  exact PySem.W.callWith_K0 I.kIn hk (run_fnG (us := []) F hr hb hd (hx σ) I .nil h)
end

section
variable {X : Cx} {CX : CXT} {k n : Nat} {f : Addr} {fd : FuncData} {ps ks : List Str} {sp : Sp} {E : L2.St → XK} {x : Str} {p pos : Pos} {e : Expr} {es : List Expr} {kws : List Keyword} {t tk : TA} {g : List Value → List Value → List Value} {gV : List V → List V → List V}
theorem pe_callK (F : FnOk X.prog X.w X.K X.mg X.base CX k f fd ps sp) (hr : Room k X.A) (hg : Gl X x) (hm : X.mg x = some (.ref f)) (hk : PySem.W.keepIn X.K (.ref f) = true) (hb : KBn X.K fd ps n ks g gV) (hx : ∀ σ, PassesAt CX X σ (E σ))
    (ha : PA X (e :: es) t) (hkw : PK X kws tk) (hall : (backToKw pos (keywordEach kws X.env)).all (·.1.isSome) = true) (hks : (backToKw pos (keywordEach kws X.env)).filterMap (·.1) = ks)
    (hdb : (x == ("__debug__" : Str)) = false) (he : starEach (e :: es) X.env = (false, eval e X.env) :: starEach es X.env)
    (hpl : ((backTo pos (starEach (e :: es) X.env)).any (·.1) || (backToKw pos (keywordEach kws X.env)).any (·.1.isNone)) = false) :
    PE X (.Call (.Name x p) (e :: es) kws pos) (fun σ H Q => t σ H fun vs H1 => tk σ H1 fun zs H2 => vs.length = n ∧ zs.length = ks.length ∧ sp (gV vs zs) H2 Q (E σ)) := by
  refine ⟨fun pins s σ H Q I h => ?_⟩
  refine wpAny_Call_Name_kw (ld_glob I hg hm ?_ hdb)
  refine PySem.W.callWith_KW (h₀ := X.base) I.ok.mod.kin hk hall (thn (ha.run pos pins s σ H _ I h) fun us s1 ⟨vs, H1, I1, r, q⟩ => ?_) hpl he
  refine thn (hkw.run pos pins s1 σ H1 _ I1 q) fun ws s2 ⟨zs, H2, I2, rz, l1, l2, q2⟩ => ⟨I2.kIn, ?_⟩
  rw [hks]
  have r2 := hb.rel r rz
  refine wpAny_call (codeAny_mono (F.run X.A X.stack s2 H2 ⟨us, ks.zip ws⟩ (g us ws) (gV vs zs) Q (E σ) hr I2.env0 (hb.to s2 us ws I2.kIn (r.length.symm.trans l1) (rz.length.symm.trans l2)) r2 q2) fun r s' hq => ?_)
  cases r with
  | error e => exact hx σ pins H2 s2 e s' I2 hq
  | ok fl =>
    cases fl with
    | ret u => exact I2.after hq
    | next => exact False.elim hq
    | brk => exact False.elim hq
    | cont => exact False.elim hq
end

/-! ### values by their data -/
section
variable {K : PySem.W.Frag} {H : Hp} {x : V}
theorem inv_b {k : Bool} (h : Dq K H x (.bool k)) : x = .bl k := by cases h; rfl
theorem inv_i {k : Int} (h : Dq K H x (.int k)) : x = .int k := by cases h; rfl
theorem inv_l {ds : List D} (h : Dq K H x (.list ds)) : ∃ a xs, x = .ref a ∧ SqL K H a xs ∧ DqAll K H xs ds := by cases h with | lst h1 h2 => exact ⟨_, _, rfl, h1, h2⟩
theorem inv_t {ds : List D} (h : Dq K H x (.tuple ds)) : ∃ a xs, x = .ref a ∧ SqT K H a xs ∧ DqAll K H xs ds := by cases h with | tup h1 h2 => exact ⟨_, _, rfl, h1, h2⟩
theorem ixN_lt {n : Nat} {i : Int} {j : Nat} (h : ixN n i = some j) : j < n := (ixN_seq h).2.1
theorem atI_dq {xs : List V} {ds : List D} {i : Int} {d : D} (h : DqAll K H xs ds) (e : atI ds i = some d) : ∃ v, atI xs i = some v ∧ Dq K H v d := by
  have hl := dps_len h
  unfold atI at e ⊢
  rw [hl]
  cases q : ixN ds.length i with
  | none => rw [q] at e; cases e
  | some j =>
    rw [q] at e
    exact dps_get h e
theorem cut_dq {xs : List V} {ds : List D} (lo hi : Option Int) (h : DqAll K H xs ds) : DqAll K H (cutV xs lo hi) (cutD ds lo hi) := by
  unfold cutV cutD
  rw [dps_len h]
  exact dps_take _ (dps_drop _ h)
theorem dq_strs {K : PySem.W.Frag} {H : Hp} : ∀ ns : List Str, DqAll K H (ns.map V.str) (ns.map PyData.str)
  | [] => .nil
  | n :: ns => .cons (.str n) (dq_strs ns)
theorem strs_dq : ∀ {ds : List D} {ns : List Str} {xs : List V}, DqAll K H xs ds → strsD ds = some ns → xs = ns.map V.str
  | [], ns, xs, h, e => by
    cases h
    cases e
    rfl
  | d :: r, ns, xs, h, e => by
    cases h with
    | cons h1 h2 =>
      cases d <;> first | cases e | skip
      rename_i i
      cases q : strsD r with
      | none => simp [strsD, q] at e
      | some ms =>
        simp [strsD, q] at e
        subst e
        cases h1
        rw [List.map_cons, strs_dq h2 q]
theorem bools_dq : ∀ {ds : List D} {ns : List Bool} {xs : List V}, DqAll K H xs ds → boolsD ds = some ns → xs = ns.map V.bl
  | [], ns, xs, h, e => by
    cases h
    cases e
    rfl
  | d :: r, ns, xs, h, e => by
    cases h with
    | cons h1 h2 =>
      cases d <;> first | cases e | skip
      rename_i i
      cases q : boolsD r with
      | none => simp [boolsD, q] at e
      | some ms =>
        simp [boolsD, q] at e
        subst e
        rw [inv_b h1, bools_dq h2 q]
        rfl
end
theorem maxI_mem : ∀ (ns : List Int) (m : Int), maxI m ns ∈ m :: ns ∧ ∀ y ∈ m :: ns, y ≤ maxI m ns
  | [], m => ⟨by simp [maxI], by simp [maxI]⟩
  | x :: r, m => by
    obtain ⟨h1, h2⟩ := maxI_mem r (if x > m then x else m)
    rw [maxI]
    by_cases c : x > m
    · rw [if_pos c] at h1 h2 ⊢
      refine ⟨List.mem_cons_of_mem _ h1, fun y hy => ?_⟩
      rcases List.mem_cons.mp hy with e | hy
      · have := h2 x List.mem_cons_self
        omega
      · exact h2 y hy
    · rw [if_neg c] at h1 h2 ⊢
      refine ⟨?_, fun y hy => ?_⟩
      · rcases List.mem_cons.mp h1 with e | h
        · rw [e]; exact List.mem_cons_self
        · exact List.mem_cons_of_mem _ (List.mem_cons_of_mem _ h)
      · rcases List.mem_cons.mp hy with e | hy
        · rw [e]; exact h2 m List.mem_cons_self
        · rcases List.mem_cons.mp hy with e | hy
          · have := h2 m List.mem_cons_self
            omega
          · exact h2 y (List.mem_cons_of_mem _ hy)
theorem minI_mem : ∀ (ns : List Int) (m : Int), minI m ns ∈ m :: ns ∧ ∀ y ∈ m :: ns, minI m ns ≤ y
  | [], m => ⟨by simp [minI], by simp [minI]⟩
  | x :: r, m => by
    obtain ⟨h1, h2⟩ := minI_mem r (if x < m then x else m)
    rw [minI]
    by_cases c : x < m
    · rw [if_pos c] at h1 h2 ⊢
      refine ⟨List.mem_cons_of_mem _ h1, fun y hy => ?_⟩
      rcases List.mem_cons.mp hy with e | hy
      · have := h2 x List.mem_cons_self
        omega
      · exact h2 y hy
    · rw [if_neg c] at h1 h2 ⊢
      refine ⟨?_, fun y hy => ?_⟩
      · rcases List.mem_cons.mp h1 with e | h
        · rw [e]; exact List.mem_cons_self
        · exact List.mem_cons_of_mem _ (List.mem_cons_of_mem _ h)
      · rcases List.mem_cons.mp hy with e | hy
        · rw [e]; exact h2 m List.mem_cons_self
        · rcases List.mem_cons.mp hy with e | hy
          · have := h2 m List.mem_cons_self
            omega
          · exact h2 y (List.mem_cons_of_mem _ hy)

/-! ### subscripts, slices, built-ins -/
def rIxq (K : PySem.W.Frag) : R2 := fun x y H Q => rIxL K x y H Q ∨ rIxT K x y H Q ∨ rIxS x y H Q
theorem ops_ix {K : PySem.W.Frag} : OpS K (rIxq K) ixop := by
  intro G O σ H W Q x y a b al ha hb h
  cases a <;> cases b <;> first | exact h.elim | skip
  · rename_i z i
    have sm2 : (1000000 : Nat) ≤ sizeLine := by decide
    rw [inv_i hb]
    cases ha
    have h : Post (dp K O) G σ H W Q (if z.length ≤ 1000000 then (match atI z.cps.toList i with
      | some c => .ok (.str ⟨#[c]⟩)
      | none => .stuck) else .stuck) := h
    by_cases hc : z.length ≤ 1000000
    · rw [if_pos hc] at h
      cases q : atI z.cps.toList i with
      | none => rw [q] at h; exact h.elim
      | some c =>
        rw [q] at h
        exact .inr (.inr ⟨z, i, c, rfl, rfl, by omega, q, post_same h (.str _)⟩)
    · rw [if_neg hc] at h
      exact h.elim
  · rename_i ds i
    obtain ⟨p, xs, rfl, h1, h2⟩ := inv_l ha
    rw [inv_i hb]
    cases q : atI ds i with
    | none => simp [ixop, q] at h; exact h.elim
    | some d =>
      simp [ixop, q] at h
      obtain ⟨v, e, r⟩ := atI_dq h2 q
      exact .inl ⟨p, xs, i, v, rfl, rfl, sqL_mono cut_le h1, e, post_same h r⟩
  · rename_i ds i
    obtain ⟨p, xs, rfl, h1, h2⟩ := inv_t ha
    rw [inv_i hb]
    cases q : atI ds i with
    | none => simp [ixop, q] at h; exact h.elim
    | some d =>
      simp [ixop, q] at h
      obtain ⟨v, e, r⟩ := atI_dq h2 q
      exact .inr (.inl ⟨p, xs, i, v, rfl, rfl, sqT_mono cut_le h1, e, post_same h r⟩)
def rSlq (K : PySem.W.Frag) : V → Option Int → Option Int → Hp → VK → Prop := fun x lo hi H Q => rSlL K x lo hi H Q ∨ rSlA K x lo hi H Q ∨ rSlS x lo hi H Q
def rBi (K : PySem.W.Frag) : Bi → List V → Hp → VK → Prop
  | .len => fun xs H Q => (∃ p ys, xs = [.ref p] ∧ (SqL K H p ys ∨ SqT K H p ys) ∧ Q (.int ys.length) H) ∨ ∃ z, xs = [.str z] ∧ z.length ≤ sizeLine ∧ Q (.int z.length) H
  | .abs => fun xs H Q => ∃ i, xs = [.int i] ∧ Q (.int (if i < 0 then -i else i)) H
  | .max2 => fun xs H Q => ∃ i j, xs = [.int i, .int j] ∧ Q (.int (if j > i then j else i)) H
  | .min2 => fun xs H Q => ∃ i j, xs = [.int i, .int j] ∧ Q (.int (if j < i then j else i)) H
  | .sum => rSum K
  | .max1 => rMax K
  | .min1 => fun xs H Q => rMin K xs H Q ∨ rMinD K xs H Q
  | .all => rAll K
  | .any => rAny K
  | .list => fun xs H Q => ∃ p ys, xs = [.ref p] ∧ (SqL K H p ys ∨ SqT K H p ys) ∧ ∀ l, H l = none → Q (.ref l) (upd H l (.lst ys))
  | .tuple => fun xs H Q => ∃ p ys, xs = [.ref p] ∧ ((SqL K H p ys ∧ ∀ l, H l = none → Q (.ref l) (upd H l (.tup ys))) ∨ (SqT K H p ys ∧ Q (.ref p) H))
  | .sorted => rSortD K
  | .str => fun xs H Q => ∃ i : Int, xs = [.int i] ∧ i.natAbs.log2 < 1920 ∧ Q (.str (toString i)) H
  | .int => fun xs H Q => ((∃ i, xs = [.int i] ∧ Q (.int i) H) ∨ ∃ k, xs = [.bl k] ∧ Q (.int (if k then 1 else 0)) H) ∨ ∃ a n, xs = [.str a] ∧ PySem.intText? a = some n ∧ a.length ≤ 640 ∧ Q (.int n) H
def Bi.name : Bi → Str
  | .len => "len"
  | .abs => "abs"
  | .max2 => "max"
  | .min2 => "min"
  | .sum => "sum"
  | .max1 => "max"
  | .min1 => "min"
  | .all => "all"
  | .any => "any"
  | .list => "list"
  | .tuple => "tuple"
  | .int => "int"
  | .sorted => "sorted"
  | .str => "str"
section
variable {X : Cx} {p pos : Pos} {e : Expr} {es : List Expr} {t : TA}
theorem callR_or {f : Value} {r r' : List V → Hp → VK → Prop} (h : CallR X f r) (h' : CallR X f r') : CallR X f fun xs H Q => r xs H Q ∨ r' xs H Q := fun pins s σ H xs us Q I v q => q.elim (h pins s σ H xs us Q I v) (h' pins s σ H xs us Q I v)
theorem pe_bi (hc : X.calm = true) (hu : X.A.units + 65 < cLine) (b : Bi) (hg : Gl X b.name) (hm : X.mg b.name = none) (ha : PA X (e :: es) t)
    (he : starEach (e :: es) X.env = (false, eval e X.env) :: starEach es X.env) (hpl : (backTo pos (starEach es X.env)).any (·.1) = false) : PE X (.Call (.Name b.name p) (e :: es) [] pos) (tCB (rBi X.K b) t) := by
  cases b with
  | sorted => exact pe_callB (cr_sortD hu) hg hm (by decide +kernel) ha (by decide +kernel) (by decide +kernel) he hpl
  | str => exact pe_callTy call_str_int hg hm (by decide +kernel) ha (by decide +kernel) (by decide +kernel) he hpl
  | len => exact pe_callB (callR_or call_len_seq call_len_str) hg hm boot_len ha (by decide +kernel) (by decide +kernel) he hpl
  | abs => exact pe_callB call_abs hg hm boot_abs ha (by decide +kernel) (by decide +kernel) he hpl
  | max2 => exact pe_callB (call_max2 hc) hg hm boot_max ha (by decide +kernel) (by decide +kernel) he hpl
  | min2 => exact pe_callB (call_min2 hc) hg hm boot_min ha (by decide +kernel) (by decide +kernel) he hpl
  | sum => exact pe_callB (cr_sum hc) hg hm boot_sum ha (by decide +kernel) (by decide +kernel) he hpl
  | max1 => exact pe_callB (cr_max hc) hg hm boot_max ha (by decide +kernel) (by decide +kernel) he hpl
  | min1 => exact pe_callB (callR_or (cr_min hc) (cr_minD hc hu)) hg hm boot_min ha (by decide +kernel) (by decide +kernel) he hpl
  | all => exact pe_callB (cr_all hc) hg hm (by decide +kernel) ha (by decide +kernel) (by decide +kernel) he hpl
  | any => exact pe_callB (cr_any hc) hg hm (by decide +kernel) ha (by decide +kernel) (by decide +kernel) he hpl
  | list => exact pe_callTy call_list_of hg hm boot_list ha (by decide +kernel) (by decide +kernel) he hpl
  | tuple => exact pe_callTy call_tuple_of hg hm boot_tuple ha (by decide +kernel) (by decide +kernel) he hpl
  | int => exact pe_callTy (callR_or call_int1 call_int_str) hg hm boot_int ha (by decide +kernel) (by decide +kernel) he hpl
end
theorem dqs_dpsS {K : PySem.W.Frag} {H : Hp} : ∀ {ds : List D} {vs : List V}, (∀ d ∈ ds, shp d = true) → DqAll K H vs ds → DpAll K H vs ds
  | [], _, _, h => by cases h; exact .nil
  | d :: ds, _, c, h => by
    cases h with
    | cons h1 h2 => exact .cons (dq_dp d _ (SeqAt.canLay_of_shaped (c d List.mem_cons_self)) h1) (dqs_dpsS (fun e he => c e (List.mem_cons_of_mem _ he)) h2)
theorem min_ok {K : PySem.W.Frag} {G : Gs} {O : List Addr} {σ : L2.St} {H : Hp} {W : WX} {Q : VK} {p : Addr} {xs : List V} {ds : List D} (r1 : SqL K (cut H O) p xs) (r2 : DqAll K (cut H O) xs ds) (q : Post (dp K O) G σ H W Q (minD ds)) : rMinD K [.ref p] H Q := by
  unfold minD at q
  obtain ⟨c, q⟩ := iteP q
  unfold minOk at c
  obtain ⟨c1, c2⟩ := Bool.and_eq_true_iff.mp c
  have c2 := List.all_eq_true.mp c2
  have cc : ∀ d ∈ ds, ((shp d = true ∧ isNone d = false) ∧ d.depth ≤ 60) ∧ ∀ e ∈ ds, PySem.W.alike d e = true := fun d hd => by
    have z := c2 d hd
    simp only [Bool.and_eq_true, Bool.not_eq_true', decide_eq_true_eq, List.all_eq_true] at z
    exact z
  have ne : ds ≠ [] := fun z => by
    rw [z] at c1
    cases c1
  refine ⟨p, xs, ds, rfl, sqL_mono cut_le r1, dqs_dpsS (fun d hd => (cc d hd).1.1.1) (dps_mono cut_le _ _ r2), ne, fun d hd e he => (cc d hd).2 e he, fun d hd => ⟨fun z => ?_, (cc d hd).1.2⟩, fun v hv => ?_⟩
  · have := (cc d hd).1.1.2
    rw [z] at this
    exact absurd this (by decide)
  · have il : leastAt ds < ds.length := by
      rw [← dps_len r2]
      exact (List.getElem?_eq_some_iff.mp hv).1
    have e1 : ds[leastAt ds]? = some (ds.getD (leastAt ds) .none) := by rw [List.getD_eq_getElem?_getD, List.getElem?_eq_getElem il]; rfl
    obtain ⟨v', hv', r'⟩ := dps_get r2 e1
    rw [hv] at hv'
    cases hv'
    exact post_same q r'
theorem dqs_zip {K : PySem.W.Frag} {H : Hp} : ∀ {xs : List V} {ds : List D}, DqAll K H xs ds → ∀ z ∈ xs.zip ds, Dq K H z.1 z.2
  | _, _, .nil, z, hz => by cases hz
  | _, _, .cons h1 h2, z, hz => by
    rw [List.zip_cons_cons] at hz
    rcases List.mem_cons.mp hz with rfl | hz
    · exact h1
    · exact dqs_zip h2 z hz
theorem sort_ok {K : PySem.W.Frag} {G : Gs} {O : List Addr} {σ : L2.St} {H : Hp} {W : WX} {Q : VK} {p : Addr} {xs : List V} {ds : List D} (al : Alloc O H) (r1 : SqL K H p xs ∨ SqT K H p xs) (r2 : DqAll K (cut H O) xs ds) (q : Post (dp K O) G σ H W Q (sortD ds)) : rSortD K [.ref p] H Q := by
  unfold sortD at q
  obtain ⟨c, q⟩ := iteP q
  unfold sortOk at c
  simp only [Bool.and_eq_true, Bool.or_eq_true, List.all_eq_true, decide_eq_true_eq] at c
  obtain ⟨c1, c2, c3⟩ := c
  refine ⟨p, xs, ds, rfl, r1, dqs_dpsS (fun d hd => (c1 d hd).1.1) (dps_mono cut_le _ _ r2), fun d hd e he => (c1 d hd).2 e he, ?_, fun d hd => (c1 d hd).1.2, c2, fun l hl => q _ _ (Same.new hl) (dq_new al hl ?_)⟩
  · rcases c3 with c3 | c3
    · refine .inl fun d hd => ?_
      have := c3 d hd
      unfold isTupN at this
      split at this
      · exact ⟨_, _, rfl⟩
      · cases this
    · refine .inr fun d hd => ⟨fun z => ?_, fun ys z => ?_⟩
      · have := (c3 d hd).1
        rw [z] at this
        exact absurd this (by decide)
      · have := (c3 d hd).2
        rw [z] at this
        exact absurd this (by simp [isTup])
  · rw [← sortV_data (dps_len r2)]
    have key : ∀ zs : List (V × D), (∀ z ∈ zs, Dq K (cut H O) z.1 z.2) → DqAll K (cut H O) (zs.map Prod.fst) (zs.map Prod.snd) := fun zs => by
      induction zs with
      | nil => exact fun _ => .nil
      | cons z zs ih => exact fun h => .cons (h z List.mem_cons_self) (ih fun y hy => h y (List.mem_cons_of_mem _ hy))
    refine key _ fun z hz => ?_
    have hz := List.mem_mergeSort.mp hz
    exact dqs_zip r2 z hz
theorem bi_ok {K : PySem.W.Frag} {G : Gs} {O : List Addr} {σ : L2.St} {H : Hp} {W : WX} {Q : VK} {b : Bi} {vs : List V} {ds : List D} (al : Alloc O H) (h : DqAll K (cut H O) vs ds) (q : Post (dp K O) G σ H W Q (bi b ds)) : rBi K b vs H Q := by
  have lst : ∀ {p : Addr} {xs : List V}, SqL K (cut H O) p xs → SqL K H p xs := fun r => sqL_mono cut_le r
  have tup : ∀ {p : Addr} {xs : List V}, SqT K (cut H O) p xs → SqT K H p xs := fun r => sqT_mono cut_le r
  unfold bi at q
  split at q
  case h_1 =>
    cases h with
    | cons h1 h2 =>
      cases h2
      obtain ⟨p, xs, rfl, r1, r2⟩ := inv_l h1
      refine .inl ⟨p, xs, rfl, .inl (lst r1), ?_⟩
      rw [dps_len r2]
      exact post_same q (.int _)
  case h_2 =>
    cases h with
    | cons h1 h2 =>
      cases h2
      obtain ⟨p, xs, rfl, r1, r2⟩ := inv_t h1
      refine .inl ⟨p, xs, rfl, .inr (tup r1), ?_⟩
      rw [dps_len r2]
      exact post_same q (.int _)
  case h_3 =>
    cases h with
    | cons h1 h2 =>
      cases h2
      rw [inv_i h1]
      exact ⟨_, rfl, post_same q (.int _)⟩
  case h_4 =>
    cases h with
    | cons h1 h2 =>
      cases h2 with
      | cons h2 h3 =>
        cases h3
        rw [inv_i h1, inv_i h2]
        exact ⟨_, _, rfl, post_same q (.int _)⟩
  case h_5 =>
    cases h with
    | cons h1 h2 =>
      cases h2 with
      | cons h2 h3 =>
        cases h3
        rw [inv_i h1, inv_i h2]
        exact ⟨_, _, rfl, post_same q (.int _)⟩
  case h_6 =>
    cases h with
    | cons h1 h2 =>
      cases h2
      obtain ⟨p, xs, rfl, r1, r2⟩ := inv_l h1
      split at q
      · rename_i ns e
        have e2 := ints_dq r2 e
        subst e2
        exact ⟨p, ns, rfl, lst r1, post_same q (.int _)⟩
      · exact q.elim
  case h_7 =>
    cases h with
    | cons h1 h2 =>
      cases h2
      obtain ⟨p, xs, rfl, r1, r2⟩ := inv_l h1
      split at q
      · rename_i n ns e
        have e2 := ints_dq r2 e
        subst e2
        refine ⟨p, n :: ns, rfl, lst r1, by simp, fun m hm hy => ?_⟩
        obtain ⟨m1, m2⟩ := maxI_mem ns n
        have em : m = maxI n ns := by
          have a1 := m2 m hm
          have a2 := hy _ m1
          omega
        rw [em]
        exact post_same q (.int _)
      · exact q.elim
  case h_8 =>
    cases h with
    | cons h1 h2 =>
      cases h2
      obtain ⟨p, xs, rfl, r1, r2⟩ := inv_l h1
      split at q
      · rename_i n ns e
        have e2 := ints_dq r2 e
        subst e2
        refine .inl ⟨p, n :: ns, rfl, lst r1, by simp, fun m hm hy => ?_⟩
        obtain ⟨m1, m2⟩ := minI_mem ns n
        have em : m = minI n ns := by
          have a1 := m2 m hm
          have a2 := hy _ m1
          omega
        rw [em]
        exact post_same q (.int _)
      · exact .inr (min_ok r1 r2 q)
  case h_9 =>
    cases h with
    | cons h1 h2 =>
      cases h2
      obtain ⟨p, xs, rfl, r1, r2⟩ := inv_l h1
      split at q
      · rename_i ns e
        have e2 := bools_dq r2 e
        subst e2
        exact ⟨p, ns, rfl, lst r1, post_same q (.bl _)⟩
      · exact q.elim
  case h_10 =>
    cases h with
    | cons h1 h2 =>
      cases h2
      obtain ⟨p, xs, rfl, r1, r2⟩ := inv_l h1
      split at q
      · rename_i ns e
        have e2 := bools_dq r2 e
        subst e2
        exact ⟨p, ns, rfl, lst r1, post_same q (.bl _)⟩
      · exact q.elim
  case h_11 =>
    cases h with
    | cons h1 h2 =>
      cases h2
      obtain ⟨p, xs, rfl, r1, r2⟩ := inv_l h1
      exact ⟨p, xs, rfl, .inl (lst r1), fun l hl => q _ _ (Same.new hl) (dq_new al hl r2)⟩
  case h_12 =>
    cases h with
    | cons h1 h2 =>
      cases h2
      obtain ⟨p, xs, rfl, r1, r2⟩ := inv_t h1
      exact ⟨p, xs, rfl, .inr (tup r1), fun l hl => q _ _ (Same.new hl) (dq_new al hl r2)⟩
  case h_13 =>
    cases h with
    | cons h1 h2 =>
      cases h2
      obtain ⟨p, xs, rfl, r1, r2⟩ := inv_l h1
      exact ⟨p, xs, rfl, .inl ⟨lst r1, fun l hl => q _ _ (Same.new hl) (dq_newT al hl r2)⟩⟩
  case h_14 =>
    cases h with
    | cons h1 h2 =>
      cases h2
      obtain ⟨p, xs, rfl, r1, r2⟩ := inv_t h1
      exact ⟨p, xs, rfl, .inr ⟨tup r1, post_same q h1⟩⟩
  case h_15 =>
    cases h with
    | cons h1 h2 =>
      cases h2
      rw [inv_i h1]
      exact .inl (.inl ⟨_, rfl, post_same q (.int _)⟩)
  case h_16 =>
    cases h with
    | cons h1 h2 =>
      cases h2
      rw [inv_b h1]
      exact .inl (.inr ⟨_, rfl, post_same q (.int _)⟩)
  case h_17 =>
    cases h with
    | cons h1 h2 =>
      cases h2
      cases h1
      obtain ⟨hc, q⟩ := iteP q
      have sm2 : (1000000 : Nat) ≤ sizeLine := by decide
      exact .inr ⟨_, rfl, by omega, post_same q (.int _)⟩
  case h_18 =>
    cases h with
    | cons h1 h2 =>
      cases h2
      obtain ⟨p, xs, rfl, r1, r2⟩ := inv_l h1
      exact sort_ok al (.inl (lst r1)) r2 q
  case h_19 =>
    cases h with
    | cons h1 h2 =>
      cases h2
      obtain ⟨p, xs, rfl, r1, r2⟩ := inv_t h1
      exact sort_ok al (.inr (tup r1)) r2 q
  case h_20 =>
    cases h with
    | cons h1 h2 =>
      cases h2
      rw [inv_i h1]
      obtain ⟨hc, q⟩ := iteP q
      exact ⟨_, rfl, hc, post_same q (.str _)⟩
  case h_21 =>
    cases h with
    | cons h1 h2 =>
      cases h2
      cases h1
      rename_i z
      by_cases hc : z.length ≤ 640
      · rw [if_pos hc] at q
        cases e : PySem.intText? z with
        | none => rw [e] at q; exact q.elim
        | some n =>
          rw [e] at q
          exact .inr ⟨_, n, rfl, e, hc, post_same q (.int _)⟩
      · rw [if_neg hc] at q
        exact q.elim
  case h_22 => exact q.elim
/-- a value's type by its data -/
theorem ty_of {K : PySem.W.Frag} {H : Hp} {x : V} {d : D} (hd : ¬ dicD d = true) (h : Dq K H x d) : TyX K H x (.type (tyD d)) := by
  cases h with
  | xcp0 a => exact absurd rfl hd
  | xcp1 q => exact absurd rfl hd
  | non => exact .base .non
  | bl b => exact .base (.bl b)
  | int i => exact .base (.int i)
  | str s => exact .base (.str s)
  | lst h1 _ =>
    rcases h1 with (h1 | ⟨o, h1⟩) | ⟨o, its, n, h1, h2, _⟩
    · exact .base (.lst h1)
    · exact .base (.frz h1)
    · exact .kList h1 h2
  | tup h1 _ =>
    rcases h1 with (h1 | ⟨o, h1⟩) | ⟨o, its, n, h1, h2, _⟩
    · exact .base (.tup h1)
    · exact .fTuple h1
    · exact .kTuple h1 h2
end Bs

namespace Bs
open PySem PySem.Spec L2
open PyProof.Rows hiding St

/-! ### xs[:0:-1] -/
theorem back_bounds (n : Nat) : sliceBounds none (some 0) (some (-1)) n = ((n : Int) - 1, max (-1) (min 0 ((n : Int) - 1)), -1) := by
  unfold sliceBounds
  simp
theorem back_range (n : Nat) : sliceRange ((n : Int) - 1) (max (-1) (min 0 ((n : Int) - 1))) (-1) = (List.range (n - 1)).map fun k => n - 1 - k := by
  cases n with
  | zero => decide
  | succ n =>
    have e0 : max (-1) (min 0 (((n + 1 : Nat) : Int) - 1)) = 0 := by omega
    rw [e0]
    unfold sliceRange
    have h1 : ¬ ((-1 : Int) > 0) := by decide
    by_cases h : ((n + 1 : Nat) : Int) - 1 > 0
    · have e : (((n + 1 : Nat) : Int) - 1 - 0 - -1 - 1) / (- -1) = (n : Int) := by
        rw [show (- -1 : Int) = 1 by decide, Int.ediv_one]
        omega
      simp only [h1, if_false, h, if_true, e, Int.toNat_natCast]
      show List.map _ (List.range n) = List.map _ (List.range (n + 1 - 1))
      apply List.map_congr_left
      intro k hk
      have := List.mem_range.mp hk
      omega
    · have e : n = 0 := by omega
      subst e
      decide
theorem back_list (n : Nat) : (List.range (n - 1)).map (fun k => n - 1 - k) = ((List.range n).drop 1).reverse := by
  cases n with
  | zero => rfl
  | succ n =>
    apply List.ext_getElem
    · simp
    · intro i h1 h2
      have hi : i < n := by simpa using h1
      simp
      omega
theorem back_pick (items : Array Value) : slicePick items none (some 0) (some (-1)) = (items.toList.drop 1).reverse.toArray := by
  unfold slicePick
  rw [back_bounds]
  show ((sliceRange ((items.size : Int) - 1) (max (-1) (min 0 ((items.size : Int) - 1))) (-1)).filterMap (items[·]?)).toArray = _
  rw [back_range, back_list, List.filterMap_reverse]
  congr 2
  have h := PySem.W.krv_all items
  cases hn : items.size with
  | zero =>
    have e : items.toList = [] := by
      apply List.eq_nil_of_length_eq_zero
      rw [Array.length_toList, hn]
    rw [e]
    rfl
  | succ n =>
    rw [hn, List.range_succ_eq_map, List.filterMap_cons] at h
    rw [List.range_succ_eq_map]
    have e0 : items[0]? = some (items[0]'(by omega)) := Array.getElem?_eq_getElem _
    rw [e0] at h
    rw [← h]
    rfl
/-! ### t[::-1] of a tuple (and of a list) -/
theorem srt_adjust_rev (n : Nat) : Builtin.Slice.sliceAdjust none none (-1) (n : Int) = ((n : Int) - 1, -1) := rfl
theorem srt_places_rev (n : Nat) : Builtin.Slice.slicePlaces ((n : Int) - 1) (-1) (-1) = n := by
  unfold Builtin.Slice.slicePlaces
  have h1 : ¬ ((-1 : Int) > 0) := by omega
  simp only [h1, if_false]
  split
  · rw [show -(-1 : Int) = 1 by rfl, Int.ediv_one]
    omega
  · omega
theorem srt_rev_range (n : Nat) : (List.range n).map (fun k => n - 1 - k) = (List.range n).reverse := by
  apply List.ext_getElem
  · simp
  · intro i h1 h2
    have hi : i < n := by simpa using h1
    simp
theorem srt_pick_rev (xs : Array Value) : ((List.range xs.size).filterMap fun (k : Nat) => xs[(((xs.size : Int) - 1) + (k : Int) * (-1)).toNat]?).toArray = xs.toList.reverse.toArray := by
  have e : (List.range xs.size).filterMap (fun (k : Nat) => xs[(((xs.size : Int) - 1) + (k : Int) * (-1)).toNat]?) = ((List.range xs.size).map fun k => xs.size - 1 - k).filterMap (xs[·]?) := by
    rw [List.filterMap_map]
    congr 1
    funext k
    have : (((xs.size : Int) - 1) + (k : Int) * (-1)).toNat = xs.size - 1 - k := by omega
    rw [this]
    rfl
  rw [e, srt_rev_range, List.filterMap_reverse, PySem.W.krv_all]
section
variable {prog : Program} {w : World} {A : Around} {E : Value → Shared → Prop} {s : Shared}
theorem srt_applied_rev {sl : Addr} {vl vu vs : Value} {n : Nat} {Q : Int × Int × Nat → Shared → Prop} (hs : s.heap.IsSliceOf sl vl vu vs) (pl : IsPart vl none) (pu : IsPart vu none) (ps : IsPart vs (some (-1)))
    (h : Q ((n : Int) - 1, -1, n) s) : wpAny (model prog w) A (Builtin.Slice.sliceApplied (.ref sl) (pure (n : Int))) Q E s := by
  obtain ⟨os, hos, hcs, hds⟩ := id hs
  unfold Builtin.Slice.sliceApplied Builtin.Slice.sliceFields
  refine wpAny_bind (wpAny_bind (wpAny_field hos hds (x := vl) rfl (wpAny_bind (wpAny_field hos hds (x := vu) rfl (wpAny_bind (wpAny_field hos hds (x := vs) rfl (wpAny_pure ?_)))))))
  refine wpAny_bind (HT.slicePart_ ps ?_)
  show wpAny _ _ (if ((-1 : Int) == 0) = true then _ else _) _ _ s
  rw [if_neg (by decide)]
  refine wpAny_bind (HT.slicePart_ pl (wpAny_bind (HT.slicePart_ pu (wpAny_bind (wpAny_pure ?_)))))
  show wpAny _ _ (match Builtin.Slice.sliceAdjust none none (-1) (n : Int) with | (lo, hi) => pure (lo, (-1 : Int), Builtin.Slice.slicePlaces lo hi (-1))) _ _ s
  rw [srt_adjust_rev n]
  show wpAny _ _ (pure ((n : Int) - 1, (-1 : Int), Builtin.Slice.slicePlaces ((n : Int) - 1) (-1) (-1))) _ _ s
  rw [srt_places_rev]
  exact wpAny_pure h
theorem srt_getItem_tuple_rev {t sl : Addr} {items : Array Value} {vl vu vs : Value} {Q : Value → Shared → Prop} (ht : IsTup s.heap t items) (hs : s.heap.IsSliceOf sl vl vu vs) (pl : IsPart vl none) (pu : IsPart vu none) (ps : IsPart vs (some (-1)))
    (h : Q (.ref s.heap.objs.size) { s with heap := s.heap.push { cls := .type "tuple", data := .seq items.toList.reverse.toArray } }) (hsz : items.size ≤ sizeLine) : wpAny (model prog w) A (getItem (.ref t) (.ref sl)) Q E s := by
  have htake : sizeOk (.seq items.toList.reverse.toArray) := by
    show items.toList.reverse.toArray.size ≤ sizeLine
    rw [List.size_toArray, List.length_reverse, Array.length_toList]
    exact hsz
  obtain ⟨os, hos, hcs, hds⟩ := id hs
  have hTs : s.TypeIs (.ref sl) "slice" := ⟨os, hos, hcs⟩
  unfold getItem
  try with_reducible refine wpAny_holding ?_
  first | refine wpAny_bind (wpAny_pure ?_) | skip
  refine wpAny_bind (wpAny_sequenceKey ht.typeIs (by decide) ?_)
  refine wpAny_bind (wpAny_callSpecial?_slot (name := Str.ofString "__getitem__") ht.typeIs PyProof.Rows.slot_tuple_getitem
    (wpAny_call_entry PyProof.Rows.slot_tuple_getitem ht.typeIs entry_tuple_getitem ?_ (args_tuple_getitem _ _)))
  show wpAny _ _ (Builtin.Tuple.tupleItemsOf (.ref t) >>= _) _ _ s
  refine wpAny_bind (tupleItemsOf_ ht ?_)
  refine wpAny_bind (wpAny_typeOf hTs ?_)
  rw [if_pos (by decide)]
  refine wpAny_bind (srt_applied_rev hs pl pu ps ?_)
  show wpAny _ _ (if (((items.size : Int) - 1) == 0 && (-1 : Int) == 1 && items.size == items.size) = true then _ else _) _ _ s
  rw [if_neg (by rw [show ((-1 : Int) == 1) = false by decide]; simp), srt_pick_rev]
  first
    | exact wpAny_bind (m := Builtin.Tuple.tupleExact _) (wpAny_newObj_type (wpAny_pure ⟨_, rfl, wpAny_pure h⟩) htake)
    | exact wpAny_bind (m := Builtin.Tuple.tupleExact _) (wpAny_newObj_type (wpAny_bind (wpAny_pure (wpAny_pure ⟨_, rfl, wpAny_pure h⟩))) htake)
    | exact wpAny_bind (wpAny_bind (m := Builtin.Tuple.tupleExact _) (wpAny_newObj_type (wpAny_pure (wpAny_pure ⟨_, rfl, wpAny_pure h⟩)) htake))
    | exact wpAny_bind (wpAny_bind (m := Builtin.Tuple.tupleExact _) (wpAny_newObj_type (wpAny_pure ⟨_, rfl, wpAny_pure h⟩) htake))
end
section
variable {X : Cx}
def tRevS (K : PySem.W.Frag) (te : TE) : TE := fun σ H Q => te σ H fun x H1 => ∃ a xs, x = .ref a ∧ ((SqL K H1 a xs ∧ ∀ p, H1 p = none → Q (.ref p) (upd H1 p (.lst xs.reverse))) ∨ (SqT K H1 a xs ∧ ∀ p, H1 p = none → Q (.ref p) (upd H1 p (.tup xs.reverse))))
theorem pe_revS {e : Expr} {te : TE} {k : Nat} {p1 p2 p3 pos : Pos} (he : PE X e te) : PE X (.Subscript e (.Slice none none (some (.UnaryOp .USub (.Constant (.int 1) k p1) p2)) p3) pos) (tRevS X.K te) := by
  refine ⟨fun pins s σ H Q I h => ?_⟩
  refine Subscript_ (thn (he.run pins s σ H _ I h) fun v s1 ⟨x, H1, I1, r1, q1⟩ => ?_)
  obtain ⟨a, xs, ex, hx⟩ := q1
  subst ex
  cases r1
  have hst : PO X (some (.UnaryOp .USub (.Constant (.int 1) k p1) p2)) (tPart (tUn (rU fun i => .int (-i)) (tC (.int 1)))) := po_some (pe_un un_neg pe_int)
  refine wpAny_Slice (thn (po_none.run pins s1 σ H1 (fun o H2 => o = none ∧ H2 = H1) I1 ⟨rfl, rfl⟩) fun vl s2 ⟨l, H2, I2, pl, el, e2⟩ => ?_)
  subst el e2
  refine thn (po_none.run pins s2 σ H2 (fun o H3 => o = none ∧ H3 = H2) I2 ⟨rfl, rfl⟩) fun vu s3 ⟨u, H3, I3, pu, eu, e3⟩ => ?_
  subst eu e3
  refine thn (hst.run pins s3 σ H3 (fun o H4 => o = some (-1) ∧ H4 = H3) I3 ⟨1, rfl, -1, rfl, rfl, rfl⟩) fun vs s4 ⟨o, H4, I4, ps, eo, e4⟩ => ?_
  subst eo e4
  have I5 : Inv X pins σ H4 { s4 with heap := s4.heap.push { cls := .type "slice", data := .fields #[vl, vu, vs] } } := I4.kept (t' := s4.toks) fun b ob q => Heap.get?_push_of_some _ q
  rcases hx with ⟨hx, q⟩ | ⟨hx, q⟩
  · obtain ⟨its, r, ht, hz⟩ := I5.list hx
    have hlen := r.length
    show wpAny (model X.prog X.w) X.A (subscriptTail e (.Slice none none (some (.UnaryOp .USub (.Constant (.int 1) k p1) p2)) p3) (.ref a) (.ref s4.heap.objs.size)) (EP X pins σ Q) X.xe { s4 with heap := s4.heap.push { cls := .type "slice", data := .fields #[vl, vu, vs] } }
    refine tail_any (ops := [.ref a, .ref s4.heap.objs.size]) ht.isList.typeIs (PySem.slot_list_getitem.lookup) ?_ (by with_unfolding_all rfl)
    refine wpAny_getItem_list_slice ht.isList (Heap.IsSliceOf.new _ vl vu vs) pl pu ps (by decide) ?_ (by rw [List.size_toArray]; omega)
    rw [PySem.W.krv_pick]
    refine ⟨.ref _, _, I5.laid (t' := s4.toks) (o := .lst xs.reverse) (fun b ob q => Heap.get?_push_of_some _ q) (Nat.le_refl _) ?_, rfl, q _ (I5.hok.fresh (Nat.le_refl _))⟩
    exact ⟨by rw [List.length_reverse]; exact hz, _, 0, r.reverse, Heap.get?_push_size _ rfl⟩
  · obtain ⟨its, r, ht, hz⟩ := I5.tuple hx
    have hlen := r.length
    show wpAny (model X.prog X.w) X.A (subscriptTail e (.Slice none none (some (.UnaryOp .USub (.Constant (.int 1) k p1) p2)) p3) (.ref a) (.ref s4.heap.objs.size)) (EP X pins σ Q) X.xe { s4 with heap := s4.heap.push { cls := .type "slice", data := .fields #[vl, vu, vs] } }
    refine tail_any (ops := [.ref a, .ref s4.heap.objs.size]) ht.typeIs (PyProof.Rows.slot_tuple_getitem.lookup) ?_ (by with_unfolding_all rfl)
    refine srt_getItem_tuple_rev ht (Heap.IsSliceOf.new _ vl vu vs) pl pu ps ?_ (by rw [List.size_toArray]; omega)
    refine ⟨.ref _, _, I5.laid (t' := s4.toks) (o := .tup xs.reverse) (fun b ob q => Heap.get?_push_of_some _ q) (Nat.le_refl _) ?_, rfl, q _ (I5.hok.fresh (Nat.le_refl _))⟩
    exact ⟨by rw [List.length_reverse]; exact hz, _, r.reverse, IsTup.new _ _⟩
end
section
variable {X : Cx}
def tRevT (K : PySem.W.Frag) (te : TE) : TE := fun σ H Q => te σ H fun x H1 => ∃ a xs, x = .ref a ∧ SqL K H1 a xs ∧ ∀ p, H1 p = none → Q (.ref p) (upd H1 p (.lst (xs.drop 1).reverse))
theorem pe_revT {e : Expr} {te : TE} {k k0 : Nat} {p0 p1 p2 p3 pos : Pos} (he : PE X e te) : PE X (.Subscript e (.Slice none (some (.Constant (.int 0) k0 p0)) (some (.UnaryOp .USub (.Constant (.int 1) k p1) p2)) p3) pos) (tRevT X.K te) := by
  refine ⟨fun pins s σ H Q I h => ?_⟩
  refine Subscript_ (thn (he.run pins s σ H _ I h) fun v s1 ⟨x, H1, I1, r1, q1⟩ => ?_)
  obtain ⟨a, xs, ex, hx, q⟩ := q1
  subst ex
  cases r1
  have hst : PO X (some (.UnaryOp .USub (.Constant (.int 1) k p1) p2)) (tPart (tUn (rU fun i => .int (-i)) (tC (.int 1)))) := po_some (pe_un un_neg pe_int)
  have hhi : PO X (some (.Constant (.int 0) k0 p0)) (tPart (tC (.int 0))) := po_some pe_int
  refine wpAny_Slice (thn (po_none.run pins s1 σ H1 (fun o H2 => o = none ∧ H2 = H1) I1 ⟨rfl, rfl⟩) fun vl s2 ⟨l, H2, I2, pl, el, e2⟩ => ?_)
  subst el e2
  refine thn (hhi.run pins s2 σ H2 (fun o H3 => o = some 0 ∧ H3 = H2) I2 ⟨0, rfl, rfl, rfl⟩) fun vu s3 ⟨u, H3, I3, pu, eu, e3⟩ => ?_
  subst eu e3
  refine thn (hst.run pins s3 σ H3 (fun o H4 => o = some (-1) ∧ H4 = H3) I3 ⟨1, rfl, -1, rfl, rfl, rfl⟩) fun vs s4 ⟨o, H4, I4, ps, eo, e4⟩ => ?_
  subst eo e4
  have I5 : Inv X pins σ H4 { s4 with heap := s4.heap.push { cls := .type "slice", data := .fields #[vl, vu, vs] } } := I4.kept (t' := s4.toks) fun b ob q => Heap.get?_push_of_some _ q
  obtain ⟨its, r, ht, hz⟩ := I5.list hx
  have hlen := r.length
  show wpAny (model X.prog X.w) X.A (subscriptTail e (.Slice none (some (.Constant (.int 0) k0 p0)) (some (.UnaryOp .USub (.Constant (.int 1) k p1) p2)) p3) (.ref a) (.ref s4.heap.objs.size)) (EP X pins σ Q) X.xe { s4 with heap := s4.heap.push { cls := .type "slice", data := .fields #[vl, vu, vs] } }
  refine tail_any (ops := [.ref a, .ref s4.heap.objs.size]) ht.isList.typeIs (PySem.slot_list_getitem.lookup) ?_ (by with_unfolding_all rfl)
  refine wpAny_getItem_list_slice ht.isList (Heap.IsSliceOf.new _ vl vu vs) pl pu ps (by decide) ?_ (by rw [List.size_toArray]; omega)
  rw [back_pick]
  refine ⟨.ref _, _, I5.laid (t' := s4.toks) (o := .lst (xs.drop 1).reverse) (fun b ob q => Heap.get?_push_of_some _ q) (Nat.le_refl _) ?_, rfl, q _ (I5.hok.fresh (Nat.le_refl _))⟩
  exact ⟨by rw [List.length_reverse, List.length_drop]; omega, _, 0, (r.drop 1).reverse, Heap.get?_push_size _ rfl⟩
/-! ### len(set(xs)), tuples of numbers -/
theorem mem_nub {α : Type} [DecidableEq α] {x : α} : ∀ {l : List α}, x ∈ nub l ↔ x ∈ l
  | [] => Iff.rfl
  | y :: r => by
    rw [nub]
    by_cases h : y ∈ r
    · rw [if_pos h, mem_nub, List.mem_cons]
      exact ⟨.inr, fun z => z.elim (fun e => by rw [e]; exact h) id⟩
    · rw [if_neg h, List.mem_cons, List.mem_cons, mem_nub]
theorem nodup_nub {α : Type} [DecidableEq α] : ∀ {l : List α}, (nub l).Nodup
  | [] => List.nodup_nil
  | y :: r => by
    rw [nub]
    by_cases h : y ∈ r
    · rw [if_pos h]; exact nodup_nub
    · rw [if_neg h]; exact List.nodup_cons.mpr ⟨fun z => h (mem_nub.mp z), nodup_nub⟩
theorem nodup_le {α : Type} [DecidableEq α] : ∀ {A B : List α}, A.Nodup → (∀ x ∈ A, x ∈ B) → A.length ≤ B.length
  | [], _, _, _ => Nat.zero_le _
  | x :: A, B, h, s => by
    obtain ⟨h1, h2⟩ := List.nodup_cons.mp h
    have hx := s x List.mem_cons_self
    have := nodup_le (A := A) (B := B.erase x) h2 fun y hy => (List.mem_erase_of_ne fun e => h1 (by rw [← e]; exact hy)).mpr (s y (List.mem_cons_of_mem _ hy))
    rw [List.length_erase_of_mem hx] at this
    have := List.length_pos_of_mem hx
    rw [List.length_cons]
    omega
theorem nodup_same {α : Type} [DecidableEq α] {A B : List α} (hA : A.Nodup) (hB : B.Nodup) (h : ∀ x, x ∈ A ↔ x ∈ B) : A.length = B.length :=
  Nat.le_antisymm (nodup_le hA fun x hx => (h x).mp hx) (nodup_le hB fun x hx => (h x).mpr hx)
def tLenSetT (K : PySem.W.Frag) (ta : TE) : TE := fun σ H Q => ta σ H fun x H1 => ∃ (l : Addr) (ks : List (Addr × List Int)), x = V.ref l ∧ SqL K H1 l (ks.map fun p => V.ref p.1) ∧ (∀ p ∈ ks, SqT K H1 p.1 (p.2.map V.int)) ∧ ks.length < 64 ∧ Q (.int ((nub (ks.map (·.2))).length : Nat)) H1
theorem pe_lenSetT {a : Expr} {ta : TE} {p p2 q pos : Pos} (hc : X.calm = true) (hu : X.A.units + 65 < cLine) (hg : Gl X "len") (hm : X.mg "len" = none) (hg2 : Gl X "set") (hm2 : X.mg "set" = none) (ha : PE X a ta)
    (na : starEach [a] X.env = (false, eval a X.env) :: starEach [] X.env) : PE X (.Call (.Name "len" p) [.Call (.Name "set" p2) [a] [] q] [] pos) (tLenSetT X.K ta) := by
  refine ⟨fun pins s σ H Q I h => ?_⟩
  refine Call_ (ld_blt I hg hm PySem.boot_len ?_)
  refine PyProof.Rows.callWith_builtin1 (PyProof.Rows.args_cons ?_ rfl) rfl rfl
  refine Call_ (ld_blt I hg2 hm2 PyProof.Rows.boot_set ?_)
  refine PyProof.Rows.callWith_type1 (PyProof.Rows.args_cons (thn (ha.run pins s σ H _ I h) fun v s1 ⟨x, H1, I1, r1, q1⟩ => PyProof.Rows.args_nil ?_) na) na rfl
  obtain ⟨l, ks, rfl, hl, hk, hf, q1⟩ := q1
  cases r1
  obtain ⟨its, rv, pl, hz⟩ := I1.list hl
  refine call_set_tups (P := X.prog) (w := X.w) ks (I1.ok.hd hc) pl.isList (by simpa using refs_of_vals rv) (fun p hp => I1.isT (hk p hp)) hf (by omega) fun h' tk L es ep t R g k => ?_
  refine PyProof.Rows.args_nil ?_
  have I2 : Inv X pins σ H1 { s1 with heap := h', toks := tk } := I1.kept fun b o e => k b o e
  obtain ⟨o, ho, hex, hd⟩ := R.ob
  have hn : es.size = L.length := SetTR.size (s := { s1 with heap := h', toks := tk }) R
  have hlen : L.length = (nub (ks.map (·.2))).length := by
    have e1 : (L.map (·.2)).length = (nub (ks.map (·.2))).length := nodup_same R.nd nodup_nub fun x => by
      rw [mem_nub]
      constructor
      · intro hx
        obtain ⟨p, hp, e⟩ := List.mem_map.mp hx
        exact List.mem_map.mpr ⟨p, List.mem_of_mem_take (g.sub p hp), e⟩
      · intro hx
        obtain ⟨p, hp, e⟩ := List.mem_map.mp hx
        rw [← e]
        exact g.all p (by rw [List.take_length]; exact hp)
    rw [← e1, List.length_map]
  have hfew := R.few
  refine call_len_set ho hex hd (SetTR.fits (s := { s1 with heap := h', toks := tk }) R) (by rw [hn]; omega) ⟨.int ((nub (ks.map (·.2))).length : Nat), H1, I2.tok _, ⟨_, by rw [hn, hlen]⟩, q1⟩
end
end Bs

namespace Bs
open PySem PySem.Spec L2
open PyProof.Rows hiding St
/-! enumerate(tuple) -/
theorem meets_enumerate_newB1 {v : Value} {o : Obj} {H : Heap → Prop} (B : Begins v o H) :
    Meets (Builtin.«enumerate.__new__» ⟨[.type "enumerate", v], []⟩) (fun _ R s => H s.heap ∧
      R (.ok (.ret (.ref (s.heap.push o).objs.size))) { s with heap := (s.heap.push o).push { cls := .type "enumerate", data := .fields #[.none, .bool false, .ref s.heap.objs.size, rawInt 0, .none, .none] } }) :=
  .of_wp fun prog w A R s h => by
    obtain ⟨hp, g, d, tk, os⟩ := s; obtain ⟨h1, h⟩ := h
    have hsub := sub_enumerate
    have q1 : ∀ {A' : Around} {E : Value → Shared → Prop} {Q : Value → Shared → Prop}, Q (.ref hp.objs.size) ⟨hp.push o, g, d, tk, os⟩ → wpAny (model prog w) A' (pyIter v) Q E ⟨hp, g, d, tk, os⟩ :=
      fun q => B.iter prog w _ _ ⟨hp, g, d, tk, os⟩ _ h1 q
    wp_walk using q1
    refine wpAny_stack_any fun st => wpAny_pure ?_
    split
    · rename_i c _ _ _ _ _
      cases (c == Value.type "enumerate")
      · wp_walk using q1
        exact ⟨_, rfl, h⟩
      · wp_walk using q1
        exact ⟨_, rfl, h⟩
    · wp_walk using q1
      exact ⟨_, rfl, h⟩
theorem enum_begins1 {prog : Program} {w : World} {A : Around} {E : Value → Shared → Prop} {s : Shared} {v : Value} {o : Obj} {H : Heap → Prop} {Q : Value → Shared → Prop} (B : Begins v o H) (h1 : H s.heap)
    (h : ∀ h', IsEnum h' (s.heap.objs.size + 1) s.heap.objs.size 0 .none → h'.get? s.heap.objs.size = some o → h'.objs.size = s.heap.objs.size + 2 →
      (∀ b o, s.heap.get? b = some o → h'.get? b = some o) → Q (.ref (s.heap.objs.size + 1)) { s with heap := h' }) :
    wpAny (model prog w) A (call (.type "enumerate") [v]) Q E s := by
  refine callType_new F.called_enumerate (by decide) (F.typeCall_enumerate_1 _) (F.newCall_enumerate_1 _) (fun obj => F.args_object_init_2 obj _) F.entry_enumerate_new
    (meets_enumerate_newB1 B) ⟨h1, ?_⟩
  have hz : (s.heap.push o).objs.size = s.heap.objs.size + 1 := Heap.size_push ..
  show _ ∧ _
  rw [hz]
  have he : IsEnum ((s.heap.push o).push { cls := .type "enumerate", data := .fields #[.none, .bool false, .ref s.heap.objs.size, rawInt 0, .none, .none] }) (s.heap.objs.size + 1) s.heap.objs.size 0 .none := by
    have := Heap.get?_push_size (s.heap.push o) (o := { cls := .type "enumerate", data := .fields #[.none, .bool false, .ref s.heap.objs.size, rawInt 0, .none, .none] }) rfl
    rw [hz] at this; exact this
  refine ⟨⟨_, he, rfl⟩, h _ he (Heap.get?_push_of_some _ (Heap.get?_push_size _ B.free)) (by rw [Heap.size_push, hz]) fun b o x => Heap.get?_push_of_some _ (Heap.get?_push_of_some _ x)⟩
/-- the tuple at a at each turn, each item in a new pair -/
def Itet (K : PySem.W.Frag) (a : Addr) : It :=
  ⟨fun i H => ∃ (xs : List V) (x : V), SqT K H a xs ∧ xs[i]? = some x, fun i H v H' => ∃ T x, v = .ref T ∧ H T = none ∧ H' = upd H T (.tup [.int (i : Nat), x]) ∧ ∀ xs, SqT K H a xs → xs[i]? = some x, fun i H => ∃ xs : List V, SqT K H a xs ∧ xs.length ≤ i⟩
theorem turn_enumT {P : Program} {w : World} {K : PySem.W.Frag} {elts : List Expr} {kk : Nat} {tpos : Pos} (a e it : Addr) :
    Turn P w K (.Tuple elts kk tpos) (Itet K a) [e, it] e (fun i h => (∃ old, IsEnum h e it ((i : Nat) : Int) old) ∧ h.IsTupleIter it a i ∧ e ≠ it) where
  mem := by simp
  obj := fun i h st b hb => by
    obtain ⟨⟨old, he⟩, ⟨o, ho, hc, hd⟩, _⟩ := st
    have e' : b = e ∨ b = it := by simpa using hb
    rcases e' with z | z
    · rw [z]; exact ⟨_, he, fun v q => nomatch q⟩
    · rw [z]; exact ⟨o, ho, fun v q => by rw [hd] at q; cases q⟩
  keep := fun i h h' st k => let ⟨⟨old, he⟩, hi, hne⟩ := st; ⟨⟨old, k e (by simp) _ he⟩, hi.at fun o q => k it (by simp) o q, hne⟩
  item := by
    intro X hP hw hK hc i pins s σ H E I hf st hg
    subst hP hw hK
    obtain ⟨⟨old, he⟩, hit, hne⟩ := st
    obtain ⟨xs, x, hq, hx⟩ := hg
    obtain ⟨its, rv, p, hz⟩ := I.tuple hq
    obtain ⟨u, hu, ru⟩ := rv.get hx
    have p : s.heap.IsTuple a its.toArray := p
    have hae : e ≠ a := fun z => by
      obtain ⟨o, ho, hc', _⟩ := p
      rw [← z, he] at ho
      cases ho
      exact absurd (show Value.type "enumerate" = Value.type "tuple" from hc') (by decide)
    have hai : a ≠ it := fun z => by
      obtain ⟨o, ho, hc', _⟩ := p
      obtain ⟨o2, ho2, hc2, _⟩ := hit
      rw [z, ho2] at ho
      cases ho
      rw [hc2] at hc'
      exact absurd hc' (by decide)
    have hel : e < s.heap.objs.size := Heap.lt_size he
    have hil : it < s.heap.objs.size := by obtain ⟨_, q, _⟩ := hit; exact Heap.lt_size q
    have hi : i < its.toArray.size := by
      have := (List.getElem?_eq_some_iff.mp hu).1
      simpa using this
    have D : Draws X.prog X.w X.A.in1 it [it, a] its.toArray.size (fun i v => its.toArray[i]? = some v) (fun i h => h.IsTupleIter it a i ∧ h.IsTuple a its.toArray) := Draws.tuple (show X.A.in1.handled = none from I.ok.hd hc) it a hai its.toArray
    refine wpAny_pyNext_enum_itemD D he ⟨hit, p⟩ hi hne (by simp [hne, hae]) fun x' h' tk hx' ho st' hT hsz hk => ?_
    obtain ⟨hit', p'⟩ := st'
    have ex : x' = u := by
      have hx' : its.toArray[i]? = some x' := hx'
      rw [show its.toArray[i]? = its[i]? by simp, hu] at hx'
      cases hx'
      rfl
    subst ex
    refine ⟨_, rfl, wpAny_letOwnedTupleGo_enum (s := { s with heap := h', toks := tk + 1 }) ho fun h'' he' sb => ?_⟩
    have hT2 : h''.get? s.heap.objs.size = some { cls := .type "tuple", data := .seq #[.int i tk, x'] } := (sb.2 _ (Nat.ne_of_gt hel)).trans hT
    have new : ObjOk X.prog X.w (upd H s.heap.objs.size (.tup [.int (i : Nat), x])) h'' s.heap.objs.size (.tup [.int (i : Nat), x]) :=
      ⟨by show 2 ≤ sizeLine; decide, [.int i tk, x'], .cons ⟨_, rfl⟩ (.cons ru .nil), ⟨_, hT2, rfl, _, rfl⟩⟩
    have I1 : Inv X pins σ (upd H s.heap.objs.size (.tup [.int (i : Nat), x])) { s with heap := h'', toks := tk + 1 } :=
      I.turnedNew (ch := [e, it]) (fun b ob hb q => (sb.2 b (fun z => hb (by simp [z]))).trans (hk b ob (fun z => hb (by simp [z])) (fun z => hb (by simp [z])) q)) hf (Nat.le_refl _) new
    refine ⟨.ref s.heap.objs.size, _, I1, rfl, ⟨_, x, rfl, I.hok.fresh (Nat.le_refl _), rfl, fun ys hy => by rw [I.tuple_inj hy hq]; exact hx⟩, ⟨⟨x', ?_⟩, hit'.at fun o q => (sb.2 it (Ne.symm hne)).trans q, hne⟩, fun b hb => ?_⟩
    · have e1 : ((i + 1 : Nat) : Int) = (i : Int) + 1 := by omega
      rw [e1]; exact he'
    · have hb' : b < s.heap.objs.size := by
        have e' : b = e ∨ b = it := by simpa using hb
        rcases e' with z | z
        · rw [z]; exact hel
        · rw [z]; exact hil
      rw [upd_ne (Nat.ne_of_lt hb')]
      exact (hf b hb).1
  done := by
    intro X hP hw hK hc i pins s σ H E I hf st hg
    subst hP hw hK
    obtain ⟨⟨old, he⟩, hit, hne⟩ := st
    obtain ⟨xs, hq, hx⟩ := hg
    obtain ⟨its, rv, p, hz⟩ := I.tuple hq
    have p : s.heap.IsTuple a its.toArray := p
    have hai : a ≠ it := fun z => by
      obtain ⟨o, ho, hc', _⟩ := p
      obtain ⟨o2, ho2, hc2, _⟩ := hit
      rw [z, ho2] at ho
      cases ho
      rw [hc2] at hc'
      exact absurd hc' (by decide)
    obtain ⟨f0, f1, f2, f3, f4, f5⟩ := hf it (by simp)
    have hl := rv.length
    have hT : s.TypeIs (.ref e) "enumerate" := ⟨_, he, rfl⟩
    unfold pyNext
    refine wpAny_bind (wpAny_attempt (wpAny_callSpecial?_slot (name := Str.ofString "__next__") hT F.slot_enumerate_next
      (wpAny_call_entry F.slot_enumerate_next hT F.entry_enumerate_next ?_ (F.args_enumerate_next_1 _))))
    show wpAny _ _ (field (.ref e) 2 >>= _) _ _ _
    refine wpAny_bind (wpAny_field he rfl (x := .ref it) rfl ?_)
    refine wpAny_bind (wpAny_nextOf_tuple_end (I.ok.hd hc) hit p (by simp; omega) fun h' x he' hx' => ?_)
    obtain ⟨o, ho, hc⟩ := hx'
    refine wpAny_bind (wpAny_isInstance (T := "StopIteration") (b := true) ⟨o, ho, hc⟩ isSubtype_stop ?_)
    exact wpAny_pure ⟨rfl, I.turned (t' := s.toks) (fun b ob hb q => he' b ob hb q) f0 f1 f3 f4 f5⟩
  self := fun A i s Q E st h => let ⟨⟨_, he⟩, _⟩ := st; wpAny_pyIter_enum he h
theorem walk_enumT {K : PySem.W.Frag} {a : Addr} {xs : List V} : Walk (Itet K a) xs.length (fun H => SqT K H a xs) (YPair (fun i => some (.int (i : Nat))) (fun i => xs[i]?)) := by
  refine ⟨fun i _ hi q => ⟨xs, xs[i], q, by simp [hi]⟩, fun _ q => ⟨xs, q, Nat.le_refl _⟩, fun i H v H' _ q y => ?_⟩
  obtain ⟨T, x, h1, h2, h3, h4⟩ := y
  exact ⟨T, .int (i : Nat), x, h1, h2, h3, rfl, h4 xs q⟩
/-- enumerate of a list or a tuple -/
def iEnumB (K : PySem.W.Frag) (ta : TA) : TI := fun σ H R => ta σ H fun vs H1 => ∃ a, vs = [.ref a] ∧ ((∃ xs, SqL K H1 a xs ∧ R (Ite K a) H1) ∨ ∃ xs, SqT K H1 a xs ∧ R (Itet K a) H1)
theorem pi_enumB {X : Cx} {e : Expr} {ta : TA} {p pos tpos : Pos} {elts : List Expr} {kk : Nat} (hg : Gl X "enumerate") (hm : X.mg "enumerate" = none) (ha : PA X [e] ta) (hs : starEach [e] X.env = [(false, eval e X.env)] := by rfl) :
    PI X (.Tuple elts kk tpos) (.Call (.Name "enumerate" p) [e] [] pos) (iEnumB X.K ta) := by
  refine ⟨fun pins s σ H R I h => ?_⟩
  refine Call_ (ld_blt I hg hm boot_enumerate (PyProof.Rows.callWith_type1 (thn (ha.run pos pins s σ H _ I h) fun us s1 ⟨vs, H1, I1, r1, q1⟩ => ?_) hs rfl))
  obtain ⟨a, ex, q⟩ := q1
  subst ex
  cases r1 with
  | cons r rr =>
    cases rr
    cases r
    have le : ∀ b, b = s1.heap.objs.size + 1 ∨ b = s1.heap.objs.size → s1.heap.objs.size ≤ b := fun b e' => by
      rcases e' with z | z
      · rw [z]; exact Nat.le_add_right _ _
      · rw [z]; exact Nat.le_refl _
    rcases q with ⟨xs, hq, q⟩ | ⟨xs, hq, q⟩
    · obtain ⟨its, rv, p', hz⟩ := I1.list hq
      refine call_enumerate_list p'.isList fun h' he hit hsz hk => wpAny_pyIter_enum he ?_
      have I2 : Inv X pins σ H1 { s1 with heap := h' } := I1.kept (t' := s1.toks) hk
      exact ⟨s1.heap.objs.size + 1, [s1.heap.objs.size + 1, s1.heap.objs.size], _, _, H1, rfl, I2, turn_enum a (s1.heap.objs.size + 1) s1.heap.objs.size, ⟨⟨.none, he⟩, hit, Nat.succ_ne_self _⟩, fun b hb => I1.fpOk (le b (by simpa using hb)) (I1.hok.fresh (le b (by simpa using hb))), q⟩
    · obtain ⟨its, rv, p', hz⟩ := I1.tuple hq
      refine enum_begins1 (begins_tuple a its.toArray) (show s1.heap.IsTuple a its.toArray from p') fun h' he hit hsz hk => wpAny_pyIter_enum he ?_
      have I2 : Inv X pins σ H1 { s1 with heap := h' } := I1.kept (t' := s1.toks) hk
      exact ⟨s1.heap.objs.size + 1, [s1.heap.objs.size + 1, s1.heap.objs.size], _, _, H1, rfl, I2, turn_enumT a (s1.heap.objs.size + 1) s1.heap.objs.size, ⟨⟨.none, he⟩, ⟨_, hit, rfl, rfl⟩, Nat.succ_ne_self _⟩, fun b hb => I1.fpOk (le b (by simpa using hb)) (I1.hok.fresh (le b (by simpa using hb))), q⟩
end Bs

namespace Bs
open PySem PySem.Spec L2
open PyProof.Rows hiding St

/-! ### what is walked -/
def WalkD (K : PySem.W.Frag) (O : List Addr) (H1 : Hp) (J : It) (items : List D) : Prop :=
  Walk J items.length (fun H => Same (cut H1 O) H) (fun i H x H2 => Same H H2 ∧ ∀ O', Alloc O' H → Same (cut H1 O) (cut H O') → ∃ d, items[i]? = some d ∧ Dq K (cut H2 O') x d)
/-- a range: it leans on nothing -/
def WalkN (K : PySem.W.Frag) (J : It) (items : List D) : Prop := Walk J items.length (fun _ => True) (fun i H x H2 => Same H H2 ∧ ∃ d, items[i]? = some d ∧ ∀ O', Dq K (cut H2 O') x d)
theorem WalkN.toD {K : PySem.W.Frag} {O : List Addr} {H1 : Hp} {J : It} {items : List D} (w : WalkN K J items) : WalkD K O H1 J items :=
  Walk.mono w (fun _ _ => trivial) fun i H x H' _ _ ⟨a, d, b, c⟩ => ⟨a, fun O' _ _ => ⟨d, b, c O'⟩⟩
def isRng : Wk → Bool
  | .rng1 => true
  | .rng2 => true
  | .rng3 => true
  | _ => false
def repI (K : PySem.W.Frag) (O : List Addr) (w : Wk) : Hp → It → List D → Prop := fun H J items => if isRng w = true then WalkN K J items else WalkD K O H J items
theorem repI_toD {K : PySem.W.Frag} {O : List Addr} {w : Wk} {H : Hp} {J : It} {items : List D} (h : repI K O w H J items) : WalkD K O H J items := by
  unfold repI at h
  split at h
  · exact h.toD
  · exact h
def evI (F : Nat → List D → R D) (w : Wk) (ws : Es) (env : Env) : R (List D) := (evEs F ws env).bind fun ds => iters w ds
def rdI (K : PySem.W.Frag) (F : Nat → List D → R D) (G : Gs) (W : WX) (w : Wk) (ws : Es) : TI := fun σ H Q => ∃ O env, EnvOk K O σ H env ∧ Post (repI K O w) G σ H W (fun J H' => Q J H') (evI F w ws env)
section
variable {K : PySem.W.Frag} {O : List Addr} {H1 : Hp}
theorem wd_list {a : Addr} {xs : List V} {ds : List D} (h : SqL K (cut H1 O) a xs) (r : DqAll K (cut H1 O) xs ds) : WalkD K O H1 (Itl K a) ds := by
  have w := (walk_list (K := K) (a := a) (xs := xs)).mono (G' := fun H => Same (cut H1 O) H) (Y' := fun i H x H2 => Same H H2 ∧ ∀ O', Alloc O' H → Same (cut H1 O) (cut H O') → ∃ d, ds[i]? = some d ∧ Dq K (cut H2 O') x d) (fun H e => sqL_mono e h) (fun i H x H2 hi e y => ?_)
  · rw [dps_len r] at w
    exact w
  · obtain ⟨rfl, y⟩ := y
    refine ⟨Same.refl _, fun O' al e' => ?_⟩
    have hi' : i < ds.length := by rw [← dps_len r]; exact hi
    obtain ⟨v, h1, h2⟩ := dps_get r (List.getElem?_eq_getElem hi')
    rw [h1] at y
    cases y
    exact ⟨_, List.getElem?_eq_getElem hi', dp_mono e' _ _ h2⟩
theorem wd_tup {a : Addr} {xs : List V} {ds : List D} (h : SqT K (cut H1 O) a xs) (r : DqAll K (cut H1 O) xs ds) : WalkD K O H1 (Itt K a) ds := by
  have w := (walk_tup (K := K) (a := a) (xs := xs)).mono (G' := fun H => Same (cut H1 O) H) (Y' := fun i H x H2 => Same H H2 ∧ ∀ O', Alloc O' H → Same (cut H1 O) (cut H O') → ∃ d, ds[i]? = some d ∧ Dq K (cut H2 O') x d) (fun H e => sqT_mono e h) (fun i H x H2 hi e y => ?_)
  · rw [dps_len r] at w
    exact w
  · obtain ⟨rfl, y⟩ := y
    refine ⟨Same.refl _, fun O' al e' => ?_⟩
    have hi' : i < ds.length := by rw [← dps_len r]; exact hi
    obtain ⟨v, h1, h2⟩ := dps_get r (List.getElem?_eq_getElem hi')
    rw [h1] at y
    cases y
    exact ⟨_, List.getElem?_eq_getElem hi', dp_mono e' _ _ h2⟩
theorem wd_str {z : Str} : WalkD K O H1 (Its z) (z.cps.toList.map fun c => PyData.str ⟨#[c]⟩) := by
  have w := (walk_str (z := z)).mono (G' := fun H => Same (cut H1 O) H) (Y' := fun i H x H2 => Same H H2 ∧ ∀ O', Alloc O' H → Same (cut H1 O) (cut H O') → ∃ d, (z.cps.toList.map fun c => PyData.str ⟨#[c]⟩)[i]? = some d ∧ Dq K (cut H2 O') x d) (fun H e => trivial) (fun i H x H2 _ hi y => ?_)
  · show Walk _ (z.cps.toList.map fun c => PyData.str ⟨#[c]⟩).length _ _
    rw [List.length_map, Array.length_toList]
    exact w
  · obtain ⟨rfl, c, e, rfl⟩ := y
    refine ⟨Same.refl _, fun O' al e' => ⟨.str ⟨#[c]⟩, ?_, .str _⟩⟩
    rw [List.getElem?_map, Array.getElem?_toList, e]
    rfl
theorem wd_rev {a : Addr} {xs : List V} {ds : List D} (h : SqL K (cut H1 O) a xs) (r : DqAll K (cut H1 O) xs ds) : WalkD K O H1 (Itv K a xs.length) ds.reverse := by
  have w := (walk_rev (K := K) (a := a) (xs := xs)).mono (G' := fun H => Same (cut H1 O) H) (Y' := fun i H x H2 => Same H H2 ∧ ∀ O', Alloc O' H → Same (cut H1 O) (cut H O') → ∃ d, ds.reverse[i]? = some d ∧ Dq K (cut H2 O') x d) (fun H e => sqL_mono e h) (fun i H x H2 hi e y => ?_)
  · rw [dps_len r, ← List.length_reverse] at w
    rw [dps_len r, ← List.length_reverse]
    exact w
  · obtain ⟨rfl, y⟩ := y
    refine ⟨Same.refl _, fun O' al e' => ?_⟩
    have hl := dps_len r
    have hi' : ds.length - 1 - i < ds.length := by omega
    obtain ⟨v, h1, h2⟩ := dps_get r (List.getElem?_eq_getElem hi')
    rw [hl, h1] at y
    cases y
    refine ⟨_, ?_, dp_mono e' _ _ h2⟩
    rw [List.getElem?_reverse (by omega)]
    exact List.getElem?_eq_getElem hi'
theorem wd_range {lo : Int} {n : Nat} : WalkN K (Itr lo n) ((List.range n).map fun (i : Nat) => PyData.int (lo + (i : Int))) := by
  have w := (walk_range (lo := lo) (n := n)).mono (G' := fun _ => True) (Y' := fun i H x H2 => Same H H2 ∧ ∃ d, ((List.range n).map fun (i : Nat) => PyData.int (lo + (i : Int)))[i]? = some d ∧ ∀ O', Dq K (cut H2 O') x d) (fun H e => trivial) (fun i H x H2 hi e y => ?_)
  · show Walk _ ((List.range n).map fun (i : Nat) => PyData.int (lo + (i : Int))).length _ _
    rw [List.length_map, List.length_range]
    exact w
  · obtain ⟨rfl, rfl⟩ := y
    refine ⟨Same.refl _, .int (lo + i), ?_, fun O' => .int _⟩
    rw [List.getElem?_map, List.getElem?_range hi]
    rfl
theorem wd_rangeC {lo c : Int} {n : Nat} : WalkN K (Itc lo c n) ((List.range n).map fun (i : Nat) => PyData.int (lo + (i : Int) * c)) := by
  have w := (walk_rangeC (lo := lo) (c := c) (n := n)).mono (G' := fun _ => True) (Y' := fun i H x H2 => Same H H2 ∧ ∃ d, ((List.range n).map fun (i : Nat) => PyData.int (lo + (i : Int) * c))[i]? = some d ∧ ∀ O', Dq K (cut H2 O') x d) (fun H e => trivial) (fun i H x H2 hi e y => ?_)
  · show Walk _ ((List.range n).map fun (i : Nat) => PyData.int (lo + (i : Int) * c)).length _ _
    rw [List.length_map, List.length_range]
    exact w
  · obtain ⟨rfl, rfl⟩ := y
    refine ⟨Same.refl _, .int (lo + i * c), ?_, fun O' => .int _⟩
    rw [List.getElem?_map, List.getElem?_range hi]
    rfl
theorem rgc_of {i j c : Int} (h : -1000000 ≤ i ∧ i ≤ 1000000 ∧ -1000000 ≤ j ∧ j ≤ 1000000 ∧ -1000000 ≤ c ∧ c ≤ 1000000 ∧ c ≠ 0) : L2.RgC i j c (Builtin.Range.rangeSize i j c).toNat := by
  obtain ⟨h1, h2, h3, h4, h5, h6, h7⟩ := h
  have hn : 0 ≤ Builtin.Range.rangeSize i j c ∧ Builtin.Range.rangeSize i j c ≤ 2000001 := by
    unfold Builtin.Range.rangeSize
    have d1 : ∀ x y : Int, 0 ≤ x → x ≤ 2000000 → 0 < y → 0 ≤ x / y ∧ x / y ≤ 2000000 := fun x y a b e => ⟨Int.ediv_nonneg a (by omega), Int.le_trans (Int.ediv_le_self y a) b⟩
    split
    · split
      · obtain ⟨a, b⟩ := d1 (j - i - 1) c (by omega) (by omega) (by omega)
        omega
      · omega
    · split
      · obtain ⟨a, b⟩ := d1 (i - j - 1) (-c) (by omega) (by omega) (by omega)
        omega
      · omega
  refine ⟨h7, by omega, ?_, by omega⟩
  unfold Builtin.Range.small
  obtain ⟨a, b⟩ := hn
  simp only [Builtin.Range.rangeFitsLong, Bool.and_eq_true, Bool.or_eq_true, decide_eq_true_eq, beq_iff_eq]
  refine ⟨⟨⟨⟨by omega, by omega⟩, by omega⟩, by omega⟩, .inr ?_⟩
  split <;> (simp only [Bool.and_eq_true, decide_eq_true_eq]; omega)
theorem dq_pair {H : Hp} {T : Addr} {x y : V} {a b : D} {O' : List Addr} (al : Alloc O' H) (n : H T = none) (hx : Dq K (cut H O') x a) (hy : Dq K (cut H O') y b) : Dq K (cut (upd H T (.tup [x, y])) O') (.ref T) (pairD a b) :=
  dq_newT al n (.cons hx (.cons hy .nil))
theorem wd_enum {a : Addr} {xs : List V} {ds : List D} (h : SqL K (cut H1 O) a xs) (r : DqAll K (cut H1 O) xs ds) : WalkD K O H1 (Ite K a) (ds.zipIdx.map fun p => pairD (.int (p.2 : Nat)) p.1) := by
  have w := (walk_enum (K := K) (a := a) (xs := xs)).mono (G' := fun H => Same (cut H1 O) H) (Y' := fun i H x H2 => Same H H2 ∧ ∀ O', Alloc O' H → Same (cut H1 O) (cut H O') → ∃ d, (ds.zipIdx.map fun p => pairD (.int (p.2 : Nat)) p.1)[i]? = some d ∧ Dq K (cut H2 O') x d) (fun H e => sqL_mono e h) (fun i H x H2 hi e y => ?_)
  · show Walk _ (ds.zipIdx.map fun p => pairD (.int (p.2 : Nat)) p.1).length _ _
    rw [List.length_map, List.length_zipIdx, ← dps_len r]
    exact w
  · obtain ⟨T, x0, x1, rfl, nT, rfl, e0, e1⟩ := y
    cases e0
    refine ⟨Same.new nT, fun O' al e' => ?_⟩
    have hi' : i < ds.length := by rw [← dps_len r]; exact hi
    obtain ⟨v, h1, h2⟩ := dps_get r (List.getElem?_eq_getElem hi')
    have e1 : xs[i]? = some x1 := e1
    rw [h1] at e1
    cases e1
    refine ⟨pairD (.int (i : Nat)) ds[i], ?_, dq_pair al nT (.int _) (dp_mono e' _ _ h2)⟩
    rw [List.getElem?_map, List.getElem?_zipIdx, List.getElem?_eq_getElem hi']
    simp
theorem wd_enumT {a : Addr} {xs : List V} {ds : List D} (h : SqT K (cut H1 O) a xs) (r : DqAll K (cut H1 O) xs ds) : WalkD K O H1 (Itet K a) (ds.zipIdx.map fun p => pairD (.int (p.2 : Nat)) p.1) := by
  have w := (walk_enumT (K := K) (a := a) (xs := xs)).mono (G' := fun H => Same (cut H1 O) H) (Y' := fun i H x H2 => Same H H2 ∧ ∀ O', Alloc O' H → Same (cut H1 O) (cut H O') → ∃ d, (ds.zipIdx.map fun p => pairD (.int (p.2 : Nat)) p.1)[i]? = some d ∧ Dq K (cut H2 O') x d) (fun H e => sqT_mono e h) (fun i H x H2 hi e y => ?_)
  · show Walk _ (ds.zipIdx.map fun p => pairD (.int (p.2 : Nat)) p.1).length _ _
    rw [List.length_map, List.length_zipIdx, ← dps_len r]
    exact w
  · obtain ⟨T, x0, x1, rfl, nT, rfl, e0, e1⟩ := y
    cases e0
    refine ⟨Same.new nT, fun O' al e' => ?_⟩
    have hi' : i < ds.length := by rw [← dps_len r]; exact hi
    obtain ⟨v, h1, h2⟩ := dps_get r (List.getElem?_eq_getElem hi')
    have e1 : xs[i]? = some x1 := e1
    rw [h1] at e1
    cases e1
    refine ⟨pairD (.int (i : Nat)) ds[i], ?_, dq_pair al nT (.int _) (dp_mono e' _ _ h2)⟩
    rw [List.getElem?_map, List.getElem?_zipIdx, List.getElem?_eq_getElem hi']
    simp
theorem wd_zip {a b : Addr} {xs ys : List V} {ds es : List D} (h : SqL K (cut H1 O) a xs) (r : DqAll K (cut H1 O) xs ds) (h' : SqL K (cut H1 O) b ys) (r' : DqAll K (cut H1 O) ys es) : WalkD K O H1 (Itz K a b) ((ds.zip es).map fun p => pairD p.1 p.2) := by
  have w := (walk_zip (K := K) (a := a) (b := b) (xs := xs) (ys := ys) rfl).mono (G' := fun H => Same (cut H1 O) H) (Y' := fun i H x H2 => Same H H2 ∧ ∀ O', Alloc O' H → Same (cut H1 O) (cut H O') → ∃ d, ((ds.zip es).map fun p => pairD p.1 p.2)[i]? = some d ∧ Dq K (cut H2 O') x d) (fun H e => ⟨sqL_mono e h, sqL_mono e h'⟩) (fun i H x H2 hi e y => ?_)
  · show Walk _ ((ds.zip es).map fun p => pairD p.1 p.2).length _ _
    rw [List.length_map, List.length_zip, ← dps_len r, ← dps_len r']
    exact w
  · obtain ⟨T, x0, x1, rfl, nT, rfl, e0, e1⟩ := y
    refine ⟨Same.new nT, fun O' al e' => ?_⟩
    have q1 := dps_len r
    have q2 := dps_len r'
    have hi' : i < ds.length := by omega
    have hi2 : i < es.length := by omega
    obtain ⟨v, h1, h2⟩ := dps_get r (List.getElem?_eq_getElem hi')
    obtain ⟨v', h3, h4⟩ := dps_get r' (List.getElem?_eq_getElem hi2)
    have e0 : xs[i]? = some x0 := e0
    have e1 : ys[i]? = some x1 := e1
    rw [h1] at e0
    rw [h3] at e1
    cases e0
    cases e1
    refine ⟨pairD ds[i] es[i], ?_, dq_pair al nT (dp_mono e' _ _ h2) (dp_mono e' _ _ h4)⟩
    rw [List.getElem?_map, (List.getElem?_zip_eq_some (z := (ds[i], es[i]))).mpr ⟨List.getElem?_eq_getElem hi', List.getElem?_eq_getElem hi2⟩]
    rfl
theorem walk_zipT {K : PySem.W.Frag} {a b : Addr} {xs ys : List V} {m : Nat} (hm : m = min xs.length ys.length) : Walk (RZ.ItzT K a b) m (fun H => SqT K H a xs ∧ SqT K H b ys) (YPair (fun i => xs[i]?) (fun i => ys[i]?)) := by
  subst hm
  refine ⟨fun k _ hk z => ?_, fun _ z => ⟨xs, ys, z.1, z.2, by omega⟩, fun k H v H' _ z y => ?_⟩
  · have k1 : k < xs.length := by omega
    have k2 : k < ys.length := by omega
    exact ⟨xs, ys, xs[k], ys[k], z.1, z.2, by simp [k1], by simp [k2]⟩
  · obtain ⟨T, x, x', e1, e2, e3, e4, e5⟩ := y
    exact ⟨T, x, x', e1, e2, e3, e4 xs z.1, e5 ys z.2⟩
theorem wd_zipT {a b : Addr} {xs ys : List V} {ds es : List D} (h : SqT K (cut H1 O) a xs) (r : DqAll K (cut H1 O) xs ds) (h' : SqT K (cut H1 O) b ys) (r' : DqAll K (cut H1 O) ys es) : WalkD K O H1 (RZ.ItzT K a b) ((ds.zip es).map fun p => pairD p.1 p.2) := by
  have w := (walk_zipT (K := K) (a := a) (b := b) (xs := xs) (ys := ys) rfl).mono (G' := fun H => Same (cut H1 O) H) (Y' := fun i H x H2 => Same H H2 ∧ ∀ O', Alloc O' H → Same (cut H1 O) (cut H O') → ∃ d, ((ds.zip es).map fun p => pairD p.1 p.2)[i]? = some d ∧ Dq K (cut H2 O') x d) (fun H e => ⟨sqT_mono e h, sqT_mono e h'⟩) (fun i H x H2 hi e y => ?_)
  · show Walk _ ((ds.zip es).map fun p => pairD p.1 p.2).length _ _
    rw [List.length_map, List.length_zip, ← dps_len r, ← dps_len r']
    exact w
  · obtain ⟨T, x0, x1, rfl, nT, rfl, e0, e1⟩ := y
    refine ⟨Same.new nT, fun O' al e' => ?_⟩
    have q1 := dps_len r
    have q2 := dps_len r'
    have hi' : i < ds.length := by omega
    have hi2 : i < es.length := by omega
    obtain ⟨v, h1, h2⟩ := dps_get r (List.getElem?_eq_getElem hi')
    obtain ⟨v', h3, h4⟩ := dps_get r' (List.getElem?_eq_getElem hi2)
    have e0 : xs[i]? = some x0 := e0
    have e1 : ys[i]? = some x1 := e1
    rw [h1] at e0
    rw [h3] at e1
    cases e0
    cases e1
    refine ⟨pairD ds[i] es[i], ?_, dq_pair al nT (dp_mono e' _ _ h2) (dp_mono e' _ _ h4)⟩
    rw [List.getElem?_map, (List.getElem?_zip_eq_some (z := (ds[i], es[i]))).mpr ⟨List.getElem?_eq_getElem hi', List.getElem?_eq_getElem hi2⟩]
    rfl
end
def itArgs (C : Ct) (w : Wk) (tg : Expr) (e : Expr) : Option (List Expr) := match w with
  | .seq => some [e]
  | .rng1 => (match e with
    | .Call (.Name x _) [a] [] _ => if x = "range" ∧ isGl C.sc x = true ∧ x ∈ C.bls then some [a] else none
    | _ => none)
  | .rng2 => (match e with
    | .Call (.Name x _) [a, b] [] _ => if x = "range" ∧ isGl C.sc x = true ∧ x ∈ C.bls then some [a, b] else none
    | _ => none)
  | .enum => (match tg, e with
    | .Tuple _ _ _, .Call (.Name x _) [a] [] _ => if x = "enumerate" ∧ isGl C.sc x = true ∧ x ∈ C.bls then some [a] else none
    | _, _ => none)
  | .zip => (match tg, e with
    | .Tuple _ _ _, .Call (.Name x _) [a, b] [] _ => if x = "zip" ∧ isGl C.sc x = true ∧ x ∈ C.bls then some [a, b] else none
    | _, _ => none)
  | .rng3 => (match e with
    | .Call (.Name x _) [a, b, c] [] _ => if x = "range" ∧ isGl C.sc x = true ∧ x ∈ C.bls then some [a, b, c] else none
    | _ => none)
  | .rev => none
theorem gl_of {C : Ct} {F : Nat → List D → R D} {G : Gs} {W : WX} {X : Cx} (g : Gd C F G W X) {x : Str} (h : isGl C.sc x = true) : Gl X x := by
  show X.env.scope.names.lookup x = _
  rw [g.sc]
  exact isGl_ok h
section
variable {C : Ct} {F : Nat → List D → R D} {G : Gs} {W : WX} {X : Cx} {ws : Es} {tg e : Expr}
theorem post_i {rep' : Hp → It → List D → Prop} {O : List Addr} {σ : L2.St} {H : Hp} {Q : It → Hp → Prop} {env : Env} {w : Wk} (h : Post rep' G σ H W Q (evI F w ws env)) :
    Post (dps X.K O) G σ H W (fun vs H1 => Same H H1 ∧ ∃ ds, DqAll X.K (cut H1 O) vs ds ∧ Post rep' G σ H1 W Q (iters w ds)) (evEs F ws env) := Post.bind h
theorem snd_it (g : Gd C F G W X) {w : Wk} {args : List Expr} (h : itArgs C w tg e = some args) (ok : args.all okE = true) (pa : PA X args (rds X.K F G W ws)) (p1 : ∀ a, args = [a] → ∃ m, ws = .cons m .nil ∧ PE X a (rd X.K F G W m)) : PI X tg e (rdI X.K F G W w ws) := by
  cases w with
  | seq =>
    cases h
    obtain ⟨m, rfl, pe⟩ := p1 e rfl
    refine pi_imp (pi_or (pi_list pe) (pi_or (pi_tup pe) (pi_str pe))) fun σ H R hR => ?_
    obtain ⟨O, env, eo, hp⟩ := hR
    unfold evI at hp
    rw [evEs, evEs] at hp
    cases r : evE F m env with
    | stuck => rw [r] at hp; exact hp.elim
    | exc c p =>
      rw [r] at hp
      refine .inl ⟨O, env, eo, ?_⟩
      rw [r]
      exact hp
    | ok d =>
      rw [r] at hp
      cases d <;> first | exact hp.elim | skip
      · refine .inr (.inr ⟨O, env, eo, ?_⟩)
        rw [r]
        intro v H' s q
        cases q
        exact ⟨_, rfl, hp _ _ s wd_str⟩
      · refine .inl ⟨O, env, eo, ?_⟩
        rw [r]
        intro v H' s q
        obtain ⟨a, xs, rfl, h1, h2⟩ := inv_l q
        exact ⟨a, rfl, ⟨xs, sqL_mono cut_le h1⟩, hp _ _ s (wd_list h1 h2)⟩
      · refine .inr (.inl ⟨O, env, eo, ?_⟩)
        rw [r]
        intro v H' s q
        obtain ⟨a, xs, rfl, h1, h2⟩ := inv_t q
        exact ⟨a, rfl, ⟨xs, sqT_mono cut_le h1⟩, hp _ _ s (wd_tup h1 h2)⟩
  | rng1 =>
    dsimp only [itArgs] at h
    split at h <;> first | cases h | skip
    split at h <;> first | cases h | skip
    rename_i hc
    obtain ⟨rfl, hg, hb⟩ := hc
    rw [List.all_cons, Bool.and_eq_true] at ok
    refine pi_imp (pi_range1 (gl_of g hg) (g.bls _ hb) pa (by rw [star_of ok.1]; rfl)) fun σ H R ⟨O, env, eo, hp⟩ => ?_
    refine ⟨O, env, eo, (post_i (X := X) hp).imp fun vs H1 _ ⟨s1, ds, q, hp⟩ => ?_⟩
    have hp : Post (repI X.K O .rng1) G σ H1 W (fun J H' => R J H') (itRng1 ds) := hp
    unfold itRng1 at hp
    split at hp <;> first | exact hp.elim | skip
    cases q with
    | cons q1 q2 =>
      cases q2
      obtain ⟨hc, hp⟩ := iteP hp
      rw [inv_i q1]
      exact ⟨_, rfl, by omega, by omega, hp _ _ (Same.refl _) wd_range⟩
  | rng2 =>
    dsimp only [itArgs] at h
    split at h <;> first | cases h | skip
    split at h <;> first | cases h | skip
    rename_i hc
    obtain ⟨rfl, hg, hb⟩ := hc
    rw [List.all_cons, Bool.and_eq_true, List.all_cons, Bool.and_eq_true] at ok
    refine pi_imp (pi_range2 (gl_of g hg) (g.bls _ hb) pa (by rw [star_of ok.1, star_of ok.2.1]; rfl) (by rw [star_of ok.2.1]; rfl)) fun σ H R ⟨O, env, eo, hp⟩ => ?_
    refine ⟨O, env, eo, (post_i (X := X) hp).imp fun vs H1 _ ⟨s1, ds, q, hp⟩ => ?_⟩
    have hp : Post (repI X.K O .rng2) G σ H1 W (fun J H' => R J H') (itRng2 ds) := hp
    unfold itRng2 at hp
    split at hp <;> first | exact hp.elim | skip
    cases q with
    | cons q1 q2 =>
      cases q2 with
      | cons q2 q3 =>
        cases q3
        obtain ⟨hc, hp⟩ := iteP hp
        rw [inv_i q1, inv_i q2]
        exact ⟨_, _, rfl, ⟨by omega, by omega, by omega, by omega⟩, hp _ _ (Same.refl _) wd_range⟩
  | rng3 =>
    dsimp only [itArgs] at h
    split at h <;> first | cases h | skip
    split at h <;> first | cases h | skip
    rename_i hc
    obtain ⟨rfl, hg, hb⟩ := hc
    rw [List.all_cons, Bool.and_eq_true, List.all_cons, Bool.and_eq_true, List.all_cons, Bool.and_eq_true] at ok
    refine pi_imp (pi_range3 (gl_of g hg) (g.bls _ hb) pa (by rw [star_of ok.1, star_of ok.2.1, star_of ok.2.2.1] <;> rfl) (by rw [star_of ok.2.1, star_of ok.2.2.1] <;> rfl)) fun σ H R ⟨O, env, eo, hp⟩ => ?_
    refine ⟨O, env, eo, (post_i (X := X) hp).imp fun vs H1 _ ⟨s1, ds, q, hp⟩ => ?_⟩
    have hp : Post (repI X.K O .rng3) G σ H1 W (fun J H' => R J H') (itRng3 ds) := hp
    unfold itRng3 at hp
    split at hp <;> first | exact hp.elim | skip
    cases q with
    | cons q1 q2 =>
      cases q2 with
      | cons q2 q3 =>
        cases q3 with
        | cons q3 q4 =>
          cases q4
          obtain ⟨hc, hp⟩ := iteP hp
          rw [inv_i q1, inv_i q2, inv_i q3]
          exact ⟨_, _, _, _, rfl, rgc_of hc, hp _ _ (Same.refl _) wd_rangeC⟩
  | enum =>
    dsimp only [itArgs] at h
    split at h <;> first | cases h | skip
    split at h <;> first | cases h | skip
    rename_i hc
    obtain ⟨rfl, hg, hb⟩ := hc
    rw [List.all_cons, Bool.and_eq_true] at ok
    refine pi_imp (pi_enumB (gl_of g hg) (g.bls _ hb) pa (by rw [star_of ok.1]; rfl)) fun σ H R ⟨O, env, eo, hp⟩ => ?_
    refine ⟨O, env, eo, (post_i (X := X) hp).imp fun vs H1 _ ⟨s1, ds, q, hp⟩ => ?_⟩
    have hp : Post (repI X.K O .enum) G σ H1 W (fun J H' => R J H') (itEnum ds) := hp
    unfold itEnum at hp
    split at hp <;> first | exact hp.elim | skip
    · cases q with
      | cons q1 q2 =>
        cases q2
        obtain ⟨a, xs, rfl, h1, h2⟩ := inv_l q1
        exact ⟨a, rfl, .inl ⟨xs, sqL_mono cut_le h1, hp _ _ (Same.refl _) (wd_enum h1 h2)⟩⟩
    · cases q with
      | cons q1 q2 =>
        cases q2
        obtain ⟨a, xs, rfl, h1, h2⟩ := inv_t q1
        exact ⟨a, rfl, .inr ⟨xs, sqT_mono cut_le h1, hp _ _ (Same.refl _) (wd_enumT h1 h2)⟩⟩
  | zip =>
    dsimp only [itArgs] at h
    split at h <;> first | cases h | skip
    split at h <;> first | cases h | skip
    rename_i hc
    obtain ⟨rfl, hg, hb⟩ := hc
    rw [List.all_cons, Bool.and_eq_true, List.all_cons, Bool.and_eq_true] at ok
    refine pi_imp (RZ.pi_zipA (gl_of g hg) (g.bls _ hb) pa (by rw [star_of ok.1]) (plain_of (by rw [List.all_cons, ok.2.1]; rfl))) fun σ H R ⟨O, env, eo, hp⟩ => ?_
    refine ⟨O, env, eo, (post_i (X := X) hp).imp fun vs H1 _ ⟨s1, ds, q, hp⟩ => ?_⟩
    have hp : Post (repI X.K O .zip) G σ H1 W (fun J H' => R J H') (itZip ds) := hp
    unfold itZip at hp
    split at hp <;> first | exact hp.elim | skip
    · cases q with
      | cons q1 q2 =>
        cases q2 with
        | cons q2 q3 =>
          cases q3
          obtain ⟨a, xs, rfl, h1, h2⟩ := inv_l q1
          obtain ⟨b, ys, rfl, h3, h4⟩ := inv_l q2
          exact ⟨a, b, xs, ys, rfl, .inl ⟨sqL_mono cut_le h1, sqL_mono cut_le h3, hp _ _ (Same.refl _) (wd_zip h1 h2 h3 h4)⟩⟩
    · cases q with
      | cons q1 q2 =>
        cases q2 with
        | cons q2 q3 =>
          cases q3
          obtain ⟨a, xs, rfl, h1, h2⟩ := inv_t q1
          obtain ⟨b, ys, rfl, h3, h4⟩ := inv_t q2
          exact ⟨a, b, xs, ys, rfl, .inr ⟨sqT_mono cut_le h1, sqT_mono cut_le h3, hp _ _ (Same.refl _) (wd_zipT h1 h2 h3 h4)⟩⟩
  | rev => cases h
end

/-! ### targets -/
def locB (C : Ct) (fnb : Str → Bool) (x : Str) : Bool := match C.sc.names.lookup x with
  | some .local => true
  | some .cell => fnb x
  | _ => false
def tgN (C : Ct) (fnb : Str → Bool) (i : Nat) : Expr → Bool
  | .Name x _ => decide (C.N[i]? = some x) && locB C fnb x
  | _ => false
def tgNs (C : Ct) (fnb : Str → Bool) : List Nat → List Expr → Bool
  | [], [] => true
  | i :: is, e :: es => tgN C fnb i e && tgNs C fnb is es
  | _, _ => false
def tgT (C : Ct) (fnb : Str → Bool) (is : List Nat) : Expr → Bool
  | .Tuple es _ _ => C.cm && tgNs C fnb is es
  | _ => false
def chkG (C : Ct) (fnb : Str → Bool) : Tg → Expr → Bool
  | .nm i, e => tgN C fnb i e
  | .tp is, e => tgT C fnb is e
def gsOf : List Nat → TGs
  | [] => gNil
  | i :: is => gCons (gName i) (gsOf is)
def gOf (K : PySem.W.Frag) : Tg → TG
  | .nm i => gName i
  | .tp is => gTup K is.length (gsOf is)
def setS : L2.St → List Nat → List V → L2.St
  | σ, i :: is, v :: vs => setS (σ.set i (some v)) is vs
  | σ, _, _ => σ
section
variable {C : Ct} {F : Nat → List D → R D} {G : Gs} {W : WX} {X : Cx} {fnb : Str → Bool}
theorem pg_tgN (g : Gd C F G W X) (hf : ∀ x, fnb x = true → X.fn x = true) {i : Nat} {e : Expr} (h : tgN C fnb i e = true) : (∃ x pos, e = .Name x pos) ∧ PG X e (gName i) := by
  unfold tgN at h
  split at h <;> first | cases h | skip
  rename_i x pos
  rw [Bool.and_eq_true, decide_eq_true_eq] at h
  obtain ⟨h1, h2⟩ := h
  unfold locB at h2
  have hi : X.N[i]? = some x := by rw [g.N]; exact h1
  refine ⟨⟨x, pos, rfl⟩, ?_⟩
  split at h2
  · rename_i q
    exact pg_name (by rw [g.N]; exact g.nd) hi (.inl (by rw [g.sc]; exact q)) (.inr (by rw [g.sc]; exact q))
  · rename_i q
    exact pg_name (by rw [g.N]; exact g.nd) hi (.inr (by rw [g.sc]; exact q)) (.inl (hf x h2))
  · cases h2
theorem pgs_tgNs (g : Gd C F G W X) (hf : ∀ x, fnb x = true → X.fn x = true) : ∀ {is : List Nat} {es : List Expr}, tgNs C fnb is es = true → PGs X es (gsOf is) ∧ (assignEach es X.env).length = is.length ∧ (assignEach es X.env).findIdx? (·.1) = none
  | [], [], _ => ⟨pgs_nil, rfl, rfl⟩
  | i :: is, e :: es, h => by
    have h' : (tgN C fnb i e && tgNs C fnb is es) = true := h
    rw [Bool.and_eq_true] at h'
    obtain ⟨⟨x, pos, rfl⟩, p⟩ := pg_tgN g hf h'.1
    obtain ⟨ps, e1, e2⟩ := pgs_tgNs g hf h'.2
    refine ⟨pgs_cons p ps rfl, ?_, ?_⟩
    · show (assignEach es X.env).length + 1 = is.length + 1
      rw [e1]
    · show ((false, assign (.Name x pos) X.env) :: assignEach es X.env).findIdx? (·.1) = none
      rw [List.findIdx?_cons, e2]
      rfl
  | [], _ :: _, h => by cases h
  | _ :: _, [], h => by cases h
theorem pg_chk (g : Gd C F G W X) (hf : ∀ x, fnb x = true → X.fn x = true) {t : Tg} {e : Expr} (h : chkG C fnb t e = true) : PG X e (gOf X.K t) := by
  cases t with
  | nm i => exact (pg_tgN g hf h).2
  | tp is =>
    have h : tgT C fnb is e = true := h
    unfold tgT at h
    split at h
    · rw [Bool.and_eq_true] at h
      obtain ⟨ps, e1, e2⟩ := pgs_tgNs g hf h.2
      exact pg_tup (g.calm h.1) ps e1 e2
    · cases h
end
section
variable {K : PySem.W.Frag} {O : List Addr} {σ : L2.St} {H : Hp} {env : Env}
theorem EnvOk.set (h : EnvOk K O σ H env) {v : V} {d : D} (i : Nat) (r : Dq K (cut H O) v d) : EnvOk K O (σ.set i (some v)) H (env.set i (some d)) := by
  refine ⟨h.al, by rw [List.length_set, List.length_set, h.len], fun j e q => ?_⟩
  by_cases hj : i = j
  · subst hj
    by_cases hl : i < env.length
    · rw [List.getElem?_set_self hl] at q
      cases q
      exact ⟨v, by rw [List.getElem?_set_self (by rw [h.len]; exact hl)], r⟩
    · rw [List.getElem?_eq_none (by rw [List.length_set]; omega)] at q
      cases q
  · rw [List.getElem?_set_ne hj] at q ⊢
    exact h.at_ j e q
theorem EnvOk.unset (h : EnvOk K O σ H env) (i : Nat) : EnvOk K O (σ.set i none) H (env.set i none) := by
  refine ⟨h.al, by rw [List.length_set, List.length_set, h.len], fun j e q => ?_⟩
  by_cases hj : i = j
  · subst hj
    by_cases hl : i < env.length
    · rw [List.getElem?_set_self hl] at q
      cases q
    · rw [List.getElem?_eq_none (by rw [List.length_set]; omega)] at q
      cases q
  · rw [List.getElem?_set_ne hj] at q ⊢
    exact h.at_ j e q
theorem EnvOk.wipe (h : EnvOk K O σ H env) : ∀ vs : List Nat, EnvOk K O (wipe σ vs) H (wipeE env vs)
  | [] => h
  | v :: vs => (EnvOk.wipe h vs).unset v
theorem EnvOk.more (h : EnvOk K O σ H env) {p : Addr} {o : HO} (hp : H p = some o) (n : ∀ (i : Nat) (d : D), env[i]? = some (some d) → ∃ v, σ[i]? = some (some v) ∧ Dq K (cut H (p :: O)) v d) : EnvOk K (p :: O) σ H env :=
  ⟨fun q hq => by
    rcases List.mem_cons.mp hq with e | hq
    · rw [e]; exact ⟨o, hp⟩
    · exact h.al q hq, h.len, n⟩
theorem setAll_ok : ∀ {is : List Nat} {vs : List V} {ds : List D} {σ : L2.St} {env : Env}, EnvOk K O σ H env → DqAll K (cut H O) vs ds → is.length = ds.length → EnvOk K O (setS σ is vs) H (setAll env is ds)
  | [], _, _, _, _, h, _, _ => h
  | i :: is, _, _, _, _, h, .cons r t, e => by
    rw [setS, setAll]
    exact setAll_ok (h.set i r) t (by simpa using e)
  | _ :: _, _, _, _, _, _, .nil, e => by cases e
theorem gs_run : ∀ {is : List Nat} {vs : List V} {σ : L2.St} {Q : L2.St → Hp → Prop}, is.length = vs.length → Q (setS σ is vs) H → gsOf is vs σ H Q
  | [], [], _, _, _, q => ⟨rfl, q⟩
  | i :: is, v :: vs, _, _, e, q => ⟨v, vs, rfl, gs_run (by simpa using e) q⟩
  | [], _ :: _, _, _, e, _ => by cases e
  | _ :: _, [], _, _, e, _ => by cases e
theorem wipe_setA {σ : L2.St} {i : Nat} {x : Option V} : ∀ vs : List Nat, (L2.wipe (σ.set i x) vs).set i none = (L2.wipe σ vs).set i none
  | [] => by
    show (σ.set i x).set i none = σ.set i none
    rw [List.set_set]
  | v :: vs => by
    show ((L2.wipe (σ.set i x) vs).set v none).set i none = ((L2.wipe σ vs).set v none).set i none
    have ih := wipe_setA (σ := σ) (i := i) (x := x) vs
    by_cases e : v = i
    · subst e
      rw [List.set_set, List.set_set]
      exact ih
    · rw [List.set_comm _ _ e, ih, List.set_comm _ _ (Ne.symm e)]
theorem wipe_set {σ : L2.St} {i : Nat} {x : Option V} : ∀ {vs : List Nat}, i ∈ vs → L2.wipe (σ.set i x) vs = L2.wipe σ vs
  | v :: vs, h => by
    show (L2.wipe (σ.set i x) vs).set v none = (L2.wipe σ vs).set v none
    by_cases e : i = v
    · subst e
      exact wipe_setA vs
    · rcases List.mem_cons.mp h with h | h
      · exact absurd h e
      · rw [wipe_set h]
theorem wipe_wipe {σ : L2.St} : ∀ vs : List Nat, L2.wipe (L2.wipe σ vs) vs = L2.wipe σ vs
  | [] => rfl
  | v :: vs => by
    show (L2.wipe ((L2.wipe σ vs).set v none) vs).set v none = (L2.wipe σ vs).set v none
    rw [wipe_setA vs, wipe_wipe vs]
def tgIn (vs : List Nat) : Tg → Prop
  | .nm i => i ∈ vs
  | .tp is => ∀ i ∈ is, i ∈ vs
theorem setS_wipe {vs : List Nat} : ∀ {is : List Nat} {xs : List V} {σ : L2.St}, (∀ i ∈ is, i ∈ vs) → L2.wipe (setS σ is xs) vs = L2.wipe σ vs
  | [], _, _, _ => rfl
  | i :: is, [], _, _ => rfl
  | i :: is, x :: xs, σ, h => by
    rw [setS, setS_wipe fun j hj => h j (List.mem_cons_of_mem _ hj), wipe_set (h i List.mem_cons_self)]
/-- a target takes a value -/
theorem g_run {t : Tg} {x : V} {d : D} {env' : Env} {Q : L2.St → Hp → Prop} (h : EnvOk K O σ H env) (r : Dq K (cut H O) x d) (e : t.asg d env = .ok env') (q : ∀ σ', EnvOk K O σ' H env' → (∀ vs, tgIn vs t → L2.wipe σ' vs = L2.wipe σ vs) → Q σ' H) : gOf K t x σ H Q := by
  cases t with
  | nm i =>
    cases e
    exact q _ (h.set i r) fun vs hv => wipe_set hv
  | tp is =>
    cases d <;> first | cases e | skip
    rename_i ds
    dsimp only [Tg.asg] at e
    by_cases hl : ds.length = is.length
    · rw [if_pos hl] at e
      cases e
      obtain ⟨a, xs, rfl, h1, h2⟩ := inv_t r
      refine ⟨a, xs, rfl, sqT_mono cut_le h1, by rw [dps_len h2, hl], gs_run (by rw [dps_len h2, hl]) (q _ (setAll_ok h h2 hl.symm) fun vs hv => setS_wipe hv)⟩
    · rw [if_neg hl] at e
      cases e
end
end Bs

namespace Bs
open PySem PySem.Spec L2
open PyProof.Rows hiding St

theorem R.bind_assoc {α β γ : Type} (r : R α) (f : α → R β) (g : β → R γ) : (r.bind f).bind g = r.bind fun a => (f a).bind g := by cases r <;> rfl

/-! ### the check of an expression against the text -/
def leafT : Expr → Bool
  | .Name .. => true
  | .Constant .. => true
  | .BinOp .. => true
  | .Call .. => true
  | .Subscript .. => true
  | .Tuple .. => true
  | .List .. => true
  | .ListComp .. => true
  | _ => false
def tstE : Expr → Bool
  | .Compare .. => true
  | .BoolOp .. => true
  | .UnaryOp .Not _ _ => true
  | e => leafT e
def blkCt (C : Ct) (scope : Scope) : Ct := { C with sc := relS scope C.sc, cx := none }
def fnbOf (scope : Scope) : Str → Bool := fun x => scope.names.lookup x == some .cell
def tgInB (vs : List Nat) : Tg → Bool
  | .nm i => vs.contains i
  | .tp is => is.all fun i => vs.contains i
theorem few_ofE {e : Expr} {pos : Pos} {env : PySem.Env} (h : okE e = true) : ((backTo pos (starEach [e] env)).all (fun x => !x.1) && (backToKw pos (keywordEach [] env)).all (fun x => x.1.isSome)
      && decide ([e].length + ([] : List Keyword).length + (if ([] : List Keyword).isEmpty then 0 else 1) < 30)) = true := by
  rw [star_of h]
  rfl
/-- what an attribute may be asked of -/
def leafA : Expr → Bool
  | .Name .. => true
  | _ => false
def leafM : Expr → Bool
  | .Name .. => true
  | .Constant .. => true
  | _ => false
def tmName : Tm → Str
  | .join => "join"
  | .part => "partition"
  | .split => "split"
mutual
def chkE (C : Ct) : E → Expr → Bool
  | .v i, e => (match e with
    | .Name x _ => decide (C.N[i]? = some x) && (isVis C.sc x && (notDbg x && notCls x))
    | _ => false)
  | .i n, e => (match e with
    | .Constant (.int k) _ _ => decide (n = k)
    | .Name x _ => decide ((x, n) ∈ C.gis) && (isGl C.sc x && notDbg x)
    | _ => false)
  | .b n, e => (match e with
    | .Constant (.bool k) _ _ => decide (n = k)
    | _ => false)
  | .s n, e => (match e with
    | .Constant (.str k) _ _ => decide (n = k)
    | _ => false)
  | .non, e => (match e with
    | .Constant .none _ _ => true
    | _ => false)
  | .op o a b, e => (match e with
    | .BinOp a' o' b' _ => decide (o' = o.py) && (chkE C a a' && chkE C b b')
    | _ => false)
  | .neg a, e => (match e with
    | .UnaryOp .USub a' _ => chkE C a a'
    | _ => false)
  | .cmp o a b, e => (match e with
    | .Compare a' [o'] [b'] _ => decide (o' = o.py) && (chkE C a a' && chkE C b b')
    | _ => false)
  | .chain o o2 a b c, e => (match e with
    | .Compare a' [o', o2'] [b', c'] _ => decide (o' = o.py) && (decide (o2' = o2.py) && (chkE C a a' && (chkE C b b' && chkE C c c')))
    | _ => false)
  | .and a b, e => (match e with
    | .BoolOp .And (a' :: b' :: r) p => chkE C a a' && (tstE a' && chkE C b (.BoolOp .And (b' :: r) p))
    | _ => false)
  | .or a b, e => (match e with
    | .BoolOp .Or (a' :: b' :: r) p => chkE C a a' && (tstE a' && chkE C b (.BoolOp .Or (b' :: r) p))
    | _ => false)
  | .one a, e => (match e with
    | .BoolOp _ [a'] _ => chkE C a a' && tstE a'
    | _ => false)
  | .not a, e => (match e with
    | .UnaryOp .Not a' _ => chkE C a a' && tstE a'
    | _ => false)
  | .ife c a b, e => (match e with
    | .IfExp c' a' b' _ => chkE C c c' && (tstE c' && (chkE C a a' && chkE C b b'))
    | _ => false)
  | .tup es, e => (match e with
    | .Tuple es' _ _ => chkEs C es es' && decide (es'.length ≤ 1000)
    | _ => false)
  | .lst es, e => (match e with
    | .List es' _ => chkEs C es es' && decide (es'.length ≤ 1000)
    | _ => false)
  | .ix a i, e => (match e with
    | .Subscript a' i' _ => chkE C a a' && chkE C i i'
    | _ => false)
  | .sl a lo hi, e => (match e with
    | .Subscript a' (.Slice l h none _) _ => chkE C a a' && (chkEs C lo l.toList && chkEs C hi h.toList)
    | _ => false)
  | .call f es, e => (match e with
    | .Call (.Name x _) as [] _ => (decide (C.fns[f]? = some (x, as.length)) || decide ((f, x, as.length) ∈ C.sfns)) && (isGl C.sc x && (notDbg x && chkEs C es as))
    | _ => false)
  | .callF f es, e => (match e with
    | .Call (.Name x _) as [] _ => decide ((f, x, as.length) ∈ C.ffns) && (isGl C.sc x && (notDbg x && chkEs C es as))
    | _ => false)
  | .callW f es m, e => (match e with
    | .Call (.Name x _) (a :: as) [⟨some kn, e', _⟩] _ => decide ((f, x, (a :: as).length, kn) ∈ C.kfns) && (isGl C.sc x && (notDbg x && (chkEs C es (a :: as) && chkE C m e')))
    | _ => false)
  | .bi b es, e => (match e with
    | .Call (.Name x _) (a :: as) [] _ => decide (x = b.name) && (C.cm && (isGl C.sc x && (decide (x ∈ C.bls) && chkEs C es (a :: as))))
    | _ => false)
  | .isi t a, e => (match e with
    | .Call (.Name x _) [a', .Name t' _] [] _ => decide (x = "isinstance") && (isGl C.sc x && (decide (x ∈ C.bls) && (chkE C a a' && (isGl C.sc t' && (decide (t' ∈ C.bls) && (decide (t' ≠ "__name__") && (notDbg t' &&
        (match bootBuiltins t' with
          | some (.type u) => decide (u = t)
          | _ => false))))))))
    | _ => false)
  | .lc w ws tg c elt own, e => (match e with
    | .ListComp elt' [⟨tg', iter, ifs, 0⟩] scope _ => C.cm && (blkC C.N C.sc scope own && (okE iter && (tgInB (own.map (·.2)) tg && (chkG (blkCt C scope) (fnbOf scope) tg tg' && ((match itArgs C w tg' iter with
        | some as => chkEs C ws as
        | none => false) && (chkEs (blkCt C scope) c ifs && (ifs.all tstE && (decide (ifs.length ≤ 1) && chkE (blkCt C scope) elt elt'))))))))
    | _ => false)
  | .rvl a, e => (match e with
    | .Subscript a' (.Slice none none (some (.UnaryOp .USub (.Constant (.int n) _ _) _)) _) _ => decide (n = 1) && chkE C a a'
    | .Call (.Name x _) [.Call (.Name y _) [a'] [] _] [] _ => decide (x = "list") && (isGl C.sc x && (decide (x ∈ C.bls) && (decide (y = "reversed") && (isGl C.sc y && (decide (y ∈ C.bls) && (C.cm && chkE C a a'))))))
    | _ => false)
  | .rvs a, e => (match e with
    | .Subscript a' (.Slice none none (some (.UnaryOp .USub (.Constant (.int n) _ _) _)) _) _ => decide (n = 1) && chkE C a a'
    | _ => false)
  | .rvt a, e => (match e with
    | .Subscript a' (.Slice none (some (.Constant (.int z) _ _)) (some (.UnaryOp .USub (.Constant (.int n) _ _) _)) _) _ => decide (z = 0) && (decide (n = 1) && chkE C a a')
    | _ => false)
  | .lset a, e => (match e with
    | .Call (.Name x _) [.Call (.Name y _) [a'] [] _] [] _ => decide (x = "len") && (isGl C.sc x && (decide (x ∈ C.bls) && (decide (y = "set") && (isGl C.sc y && (decide (y ∈ C.bls) && (C.cm && chkE C a a'))))))
    | _ => false)
  | .xq ks j, e => (match C.cx with
    | some (n, i, exs) => decide (i = j) && xqOk C n exs j ks e
    | none => false)
  | .kd d, e => (match e with
    | .Name x _ => gdHas C.gds x d && (isGl C.sc x && notDbg x)
    | _ => false)
  | .tm m a b, e => (match e with
    | .Call (.Attribute a' f apos) [b'] [] cpos => decide (f = tmName m) && (leafM a' && ((apos.endLine == cpos.line) && (chkE C a a' && chkE C b b')))
    | _ => false)
  | .idx a b, e => (match e with
    | .Call (.Attribute a' f apos) [b'] [] cpos => decide (f = "index") && (leafA a' && ((apos.endLine == cpos.line) && (chkE C a a' && chkE C b b')))
    | _ => false)
def chkEs (C : Ct) : Es → List Expr → Bool
  | .nil, es => es.isEmpty
  | .cons m ms, es => (match es with
    | e :: es => chkE C m e && chkEs C ms es
    | [] => false)
end

/-! ### soundness -/
structure Snd (F : Nat → List D → R D) (G : Gs) (W : WX) (X : Cx) (m : E) (e : Expr) : Prop where
  ok : okE e = true
  pe : PE X e (rd X.K F G W m)
  pt : tstE e = true → PT X e (rdT X.K F G W m)
  pw : (∃ o vs p, e = .BoolOp o vs p) → PW X e (rdT X.K F G W m)
structure Snds (F : Nat → List D → R D) (G : Gs) (W : WX) (X : Cx) (ms : Es) (es : List Expr) : Prop where
  ok : es.all okE = true
  len : es.length = ms.len
  pa : PA X es (rds X.K F G W ms)
  one : ∀ a, es = [a] → ∃ m, ms = .cons m .nil ∧ Snd F G W X m a
section
variable {F : Nat → List D → R D} {G : Gs} {W : WX} {X : Cx} {K : PySem.W.Frag} {m ma mb mc : E} {σ : L2.St} {H : Hp} {Q : VK}
theorem rd_op2 {r : R2} {f : D → D → R D} (os : OpS K r f) (hev : ∀ env, evE F m env = (evE F ma env).bind fun x => (evE F mb env).bind fun y => f x y) (h : rd K F G W m σ H Q) : tOp r (rd K F G W ma) (rd K F G W mb) σ H Q := by
  obtain ⟨O, env, eo, hp⟩ := h
  rw [hev] at hp
  refine ⟨O, env, eo, hp.bind.imp fun x H1 _ ⟨s1, d1, r1, hp1⟩ => ⟨O, env, eo.up s1, hp1.bind.imp fun y H2 _ ⟨s2, d2, r2, hp2⟩ => ?_⟩⟩
  exact os G O σ H2 W Q x y d1 d2 (((eo.up s1).up s2).al) (dp_mono (cut_same s2) _ _ r1) r2 hp2
/-- the reading of a bool's value goes over to a test's -/
theorem rdT_tB {Qb : Bool → Hp → Prop} (h : rdT K F G W m σ H Qb) : tB (rd K F G W m) σ H Qb := by
  obtain ⟨O, env, eo, hp⟩ := h
  refine ⟨O, env, eo, hp.bind.imp fun x H1 _ ⟨s1, d1, r1, hp1⟩ => ?_⟩
  cases d1 <;> first | exact hp1.elim | skip
  exact ⟨_, inv_b r1, post_same hp1 rfl⟩
theorem pt_leaf {e : Expr} (h : leafT e = true) (p : PE X e (rd X.K F G W m)) : PT X e (rdT X.K F G W m) := by
  refine pt_imp (pt_val p ?_) fun σ H Q hq => rdT_tB hq
  cases e <;> first | (intro _; rfl) | cases h
theorem post_ofB {rep : Hp → V → D → Prop} {O : List Addr} {f : Bool → R D} {d : D} (h : Post (dp K O) G σ H W Q ((ofB d).bind f)) : ∃ k, d = .bool k ∧ Post (dp K O) G σ H W Q (f k) := by
  cases d <;> first | exact h.elim | exact ⟨_, rfl, h⟩
theorem post_ofB' {Qb : Bool → Hp → Prop} {α : Type} {rep : Hp → Bool → Bool → Prop} {f : Bool → R Bool} {d : D} (h : Post rep G σ H W Qb ((ofB d).bind f)) : ∃ k, d = .bool k ∧ Post rep G σ H W Qb (f k) := by
  cases d <;> first | exact h.elim | exact ⟨_, rfl, h⟩
theorem Gd.blk {C : Ct} (g : Gd C F G W X) (s : Shared) (H : Hp) (scope : Scope) (Ca : Addr) (cl : List (Str × Addr)) (fp : List Addr) : Gd (blkCt C scope) F G (fun _ _ _ _ => False) (X.blk s H scope (compEnvC scope cl Ca X.env) fp) where
  N := g.N
  nd := g.nd
  sc := by
    show relS scope X.env.scope = relS scope C.sc
    rw [g.sc]
  calm := g.calm
  hu := g.hu
  tk := tk0
  fns := fun i x n h => g.fns i x n h
  bls := fun x h => g.bls x h
  gis := fun x n h => g.gis x n h
  gds := g.gds
  kfns := fun i x n kn h => g.kfns i x n kn h
  ffns := fun i x n h => g.ffns i x n h
  pfns := fun i x n k h => g.pfns i x n k h
  sfns := fun i x n h => g.sfns i x n h
  xq := fun n j exs z => nomatch z
theorem noX_cases {α β γ : Type} {rep : Hp → β → γ → Prop} {Qb : β → Hp → Prop} {r : R α} {f : α → R γ} (h : Post rep G σ H W Qb ((noX r).bind f)) : ∃ a, r = .ok a ∧ Post rep G σ H W Qb (f a) := by
  cases r with
  | stuck => exact h.elim
  | exc c p => exact h.elim
  | ok a => exact ⟨a, rfl, h⟩
end
theorem tgIn_of {vs : List Nat} {t : Tg} (h : tgInB vs t = true) : tgIn vs t := by
  cases t with
  | nm i => exact List.contains_iff_mem.mp h
  | tp is => exact fun i hi => List.contains_iff_mem.mp (List.all_eq_true.mp h i hi)

section
variable {F : Nat → List D → R D} {G : Gs} {W : WX} {X : Cx}
theorem same_cutD {H1 H2 : Hp} {D0 : Addr} {O : List Addr} (n : H1 D0 = none) (s : Same H1 H2) : Same (cut H1 O) (cut H2 (D0 :: O)) := fun a o h => by
  obtain ⟨h1, h2⟩ := cut_some h
  refine cut_of (s _ _ h1) fun m => ?_
  rcases List.mem_cons.mp m with e | m
  · subst e
    rw [n] at h1
    cases h1
  · exact h2 m
/-- the comprehension -/
theorem lc_run {C : Ct} {w : Wk} {ws : Es} {tg : Tg} {c : Es} {elt : E} {own : List (Str × Nat)} (ti : tgIn (own.map (·.2)) tg) {σ : L2.St} {H : Hp} {Q : VK} (h : rdN X.K F G W (.lc w ws tg c elt own) σ H Q) :
    tLc (rdI X.K F G W w ws) (gOf X.K tg) (rdTs X.K F G (fun _ _ _ _ => False) c) (rd X.K F G (fun _ _ _ _ => False) elt) (own.map (·.2)) σ H Q := by
  obtain ⟨O, env, eo, hp⟩ := h
  rw [evE, R.bind_assoc] at hp
  refine ⟨O, env, eo, (Post.bind (rep := repI X.K O w) hp).imp fun J H1 _ ⟨s1, items, wd, hp1⟩ => fun D0 hD => ?_⟩
  have wd := repI_toD wd
  generalize hvs : own.map (·.2) = vs at *
  generalize hfx : (fun x => noX ((tg.asg x (wipeE env vs)).bind fun env' => (evEs F c env').bind fun cs => (tstD cs).bind fun k => if k = true then (evE F elt env').bind fun d => R.ok (some d) else R.ok none)) = fx at hp1
  unfold lcD at hp1
  by_cases hsz : items.length ≤ 1000000
  case neg =>
    rw [if_neg hsz] at hp1
    exact hp1.elim
  rw [if_pos hsz, R.bind_assoc] at hp1
  have hp1 : Post (dpn X.K O H) G σ H1 W Q ((compL fx items).bind fun ds => .ok (.list ds)) := hp1
  have hDH : H D0 = none := by
    cases q : H D0 with
    | none => rfl
    | some o =>
      rw [s1 _ _ q] at hD
      cases hD
  have wd : Walk J items.length (fun H => Same (cut H1 O) H) (fun i H x H2 => Same H H2 ∧ ∀ O', Alloc O' H → Same (cut H1 O) (cut H O') → ∃ d, items[i]? = some d ∧ Dq X.K (cut H2 O') x d) := wd
  refine lc_it wd (fun i H2 => i ≤ items.length ∧ Same H1 H2 ∧ ∃ (ys : List V) (acc : List D), H2 D0 = some (.lst ys) ∧ DqAll X.K (cut H2 (D0 :: O)) ys acc ∧ acc.length ≤ i ∧ Post (dpn X.K O H) G σ H1 W Q ((compL fx (items.drop i)).bind fun r => .ok (.list (acc ++ r))))
    ⟨Nat.zero_le _, Same.new hD, [], [], upd_same, .nil, Nat.le_refl _, by rw [List.drop_zero]; exact hp1⟩
    (fun i H2 _ ⟨_, s2, _⟩ => cut_le.trans s2) ?_ ?_
  · rintro i x H2 H3 hi ⟨_, s2, ys, acc, e1, e2, hl, hp2⟩ ⟨s3, hy⟩
    have al1 : Alloc O H1 := eo.al.mono s1
    have al2 : Alloc (D0 :: O) H2 := fun a ha => by
      rcases List.mem_cons.mp ha with e | ha
      · rw [e]; exact ⟨_, e1⟩
      · exact (al1.mono s2) a ha
    obtain ⟨d, hd, rx⟩ := hy (D0 :: O) al2 (same_cutD hD s2)
    have hdr : items.drop i = d :: items.drop (i + 1) := by
      obtain ⟨hlt, e⟩ := List.getElem?_eq_some_iff.mp hd
      rw [← e]
      exact List.drop_eq_getElem_cons hlt
    rw [hdr, compL, R.bind_assoc] at hp2
    rw [← hfx] at hp2
    obtain ⟨o, ho, hp3⟩ := noX_cases hp2
    rw [hfx] at hp3
    rw [R.bind_assoc] at hp3
    have hp3 : Post (dpn X.K O H) G σ H1 W Q ((compL fx (items.drop (i + 1))).bind fun r => .ok (.list (acc ++ (o.toList ++ r)))) := hp3
    -- the assignment
    cases q1 : tg.asg d (wipeE env vs) with
    | stuck => rw [q1] at ho; cases ho
    | exc c p => rw [q1] at ho; cases ho
    | ok env' =>
      rw [q1] at ho
      have ho : ((evEs F c env').bind fun cs => (tstD cs).bind fun k => if k = true then (evE F elt env').bind fun d => R.ok (some d) else R.ok none) = .ok o := ho
      have eb : EnvOk X.K (D0 :: O) (L2.wipe σ vs) H3 (wipeE env vs) := by
        have eo1 : EnvOk X.K O σ H1 env := eo.up s1
        have z : EnvOk X.K (D0 :: O) σ H3 env := ⟨al2.mono s3, eo.len, fun j e q => by
          obtain ⟨v, a1, a2⟩ := eo1.at_ j e q
          exact ⟨v, a1, dp_mono (same_cutD hD (s2.trans s3)) _ _ a2⟩⟩
        exact z.wipe vs
      refine g_run eb rx q1 fun σ' eo' hw => ⟨by rw [hw vs ti, wipe_wipe], ?_⟩
      cases q2 : evEs F c env' with
      | stuck => rw [q2] at ho; cases ho
      | exc c p => rw [q2] at ho; cases ho
      | ok cs =>
        rw [q2] at ho
        cases q3 : tstD cs with
        | stuck => simp [q3] at ho
        | exc c p => simp [q3] at ho
        | ok k =>
          simp only [R.bind_ok, q3] at ho
          refine ⟨D0 :: O, env', eo', ?_⟩
          rw [q2]
          simp only [R.bind_ok, q3]
          intro b H5 s5 hb
          have hb : b = k := hb
          subst hb
          cases b with
          | false =>
            rw [if_neg Bool.false_ne_true] at ho ⊢
            cases ho
            exact ⟨hi, (s2.trans s3).trans s5, ys, acc, s5 _ _ (s3 _ _ e1), dps_mono (cut_same (s3.trans s5)) _ _ e2, by omega, hp3⟩
          | true =>
            rw [if_pos rfl] at ho ⊢
            cases q4 : evE F elt env' with
            | stuck => rw [q4] at ho; cases ho
            | exc c p => rw [q4] at ho; cases ho
            | ok d2 =>
              rw [q4] at ho
              cases ho
              refine ⟨D0 :: O, env', eo'.up s5, ?_⟩
              rw [q4]
              intro y H6 s6 ry
              have s26 : Same H2 H6 := (s3.trans s5).trans s6
              have eD : H6 D0 = some (.lst ys) := s26 _ _ e1
              have nol : ∀ a o, H1 a = some o → a ≠ D0 := fun a o q e => by
                subst e
                rw [hD] at q
                cases q
              have s6u : Same (cut H6 (D0 :: O)) (cut (upd H6 D0 (.lst (ys ++ [y]))) (D0 :: O)) := fun a o q => by
                obtain ⟨q1, q2⟩ := cut_some q
                refine cut_of ?_ q2
                rw [upd_ne (fun e => q2 (by rw [e]; exact List.mem_cons_self))]
                exact q1
              refine ⟨ys, eD, ?_, hi, fun a o q => ?_, ys ++ [y], acc ++ [d2], upd_same, ?_, ?_, ?_⟩
              · have h1 := dps_len e2
                have h2 : (1000000 : Nat) < sizeLine := by decide
                omega
              · rw [upd_ne (nol a o q)]
                exact s26 _ _ (s2 _ _ q)
              · exact dps_app (dps_mono s6u _ _ (dps_mono (cut_same s26) _ _ e2)) (.cons (dp_mono s6u _ _ ry) .nil)
              · rw [List.length_append]
                exact Nat.succ_le_succ hl
              · have e9 : (fun r => R.ok (PyData.list (acc ++ ((some d2).toList ++ r)))) = fun r => R.ok (PyData.list ((acc ++ [d2]) ++ r)) := by
                  funext r
                  simp
                rw [e9] at hp3
                exact hp3
  · rintro H2 ⟨_, s2, ys, acc, e1, e2, hl, hp2⟩
    rw [List.drop_length, compL] at hp2
    have hp2 : Post (dpn X.K O H) G σ H1 W Q (.ok (.list (acc ++ []))) := hp2
    rw [List.append_nil] at hp2
    exact hp2 _ _ s2 ⟨D0, ys, acc, rfl, rfl, hDH, e1, e2⟩
end

section
variable {F : Nat → List D → R D} {G : Gs}
theorem ba2 {a b : Bool} (h : (a && b) = true) : a = true ∧ b = true := by simpa using h
theorem snd_pt {W : WX} {X : Cx} {m : E} {e : Expr} (ok : okE e = true) (pe : PE X e (rd X.K F G W m)) (l : tstE e = true → leafT e = true) (nb : ∀ o vs p, e ≠ .BoolOp o vs p) : Snd F G W X m e :=
  ⟨ok, pe, fun h => pt_leaf (l h) pe, fun ⟨o, vs, p, h⟩ => absurd h (nb o vs p)⟩
theorem cut_whole {ds : List D} {lo hi : Option Int} (h : HT.sIx ds.length 0 lo = 0 ∧ HT.sIx ds.length ds.length hi = ds.length) : cutD ds lo hi = ds := by
  unfold cutD
  rw [h.1, h.2]
  simp
theorem dps_rev {K : PySem.W.Frag} {H : Hp} : ∀ {vs : List V} {ds : List PyData}, DqAll K H vs ds → DqAll K H vs.reverse ds.reverse
  | _, _, .nil => .nil
  | _, _, .cons r t => by
    rw [List.reverse_cons, List.reverse_cons]
    exact dps_app (dps_rev t) (.cons r .nil)
theorem tups_dq {K : PySem.W.Frag} {H : Hp} : ∀ {ds : List D} {kss : List (List Int)} {xs : List V}, DqAll K H xs ds → tupsD ds = some kss → ∃ ks : List (Addr × List Int), xs = (ks.map fun p => V.ref p.1) ∧ kss = ks.map (·.2) ∧ ∀ p ∈ ks, SqT K H p.1 (p.2.map V.int)
  | [], kss, xs, h, e => by
    cases h
    cases e
    exact ⟨[], rfl, rfl, fun p hp => nomatch hp⟩
  | d :: r, kss, xs, h, e => by
    cases h with
    | cons h1 h2 =>
      cases d <;> first | cases e | skip
      rename_i as
      have e : (intsD as).bind (fun k => (tupsD r).map (k :: ·)) = some kss := e
      cases q1 : intsD as with
      | none => rw [q1] at e; cases e
      | some k =>
        cases q2 : tupsD r with
        | none => rw [q1, q2] at e; cases e
        | some ms =>
          rw [q1, q2] at e
          cases e
          obtain ⟨a, ys, rfl, h3, h4⟩ := inv_t h1
          have e4 := ints_dq h4 q1
          subst e4
          obtain ⟨ks, e1, e2, e3⟩ := tups_dq h2 q2
          subst e1
          subst e2
          refine ⟨(a, k) :: ks, rfl, rfl, fun p hp => ?_⟩
          rcases List.mem_cons.mp hp with z | hp
          · rw [z]; exact h3
          · exact e3 p hp
theorem lst_list {es : Es} {env : Env} {d : D} (h : evE F (.lst es) env = .ok d) : ∃ ds, d = .list ds := by
  rw [evE] at h
  cases q : evEs F es env with
  | stuck => rw [q] at h; cases h
  | exc c p => rw [q] at h; cases h
  | ok ds => rw [q] at h; cases h; exact ⟨_, rfl⟩
theorem lc_list {w : Wk} {ws : Es} {tg : Tg} {c : Es} {elt : E} {own : List (Str × Nat)} {env : Env} {d : D} (h : evE F (.lc w ws tg c elt own) env = .ok d) : ∃ ds, d = .list ds := by
  rw [evE] at h
  cases q : ((evEs F ws env).bind fun ds => iters w ds) with
  | stuck => rw [q] at h; cases h
  | exc c p => rw [q] at h; cases h
  | ok items =>
    rw [q] at h
    have h : lcD _ items = .ok d := h
    unfold lcD at h
    split at h
    · generalize compL _ items = r at h
      cases r with
      | stuck => cases h
      | exc c p => cases h
      | ok ds => cases h; exact ⟨_, rfl⟩
    · cases h
section
variable {W : WX} {X : Cx}
theorem pn_lst {es : Es} {es' : List Expr} {pos : Pos} (ss : Snds F G W X es es') (hl : es'.length ≤ 1000) : PE X (.List es' pos) (rdN X.K F G W (.lst es)) := by
  refine pe_imp (pe_lst ss.pa) fun σ H Q ⟨O, env, eo, hp⟩ => ?_
  rw [evE, R.bind_assoc] at hp
  refine ⟨O, env, eo, ?_⟩
  cases q : evEs F es env with
  | stuck => rw [q] at hp; exact hp
  | exc c p => rw [q] at hp; exact hp
  | ok ds =>
    rw [q] at hp
    intro xs H1 s1 r1
    have h4 : (1000 : Nat) ≤ sizeLine := by decide
    refine ⟨by rw [dps_len r1, evEs_len es env ds q, ← ss.len]; omega, fun p hp0 => ?_⟩
    have hH : H p = none := by
      cases z : H p with
      | none => rfl
      | some o => rw [s1 _ _ z] at hp0; cases hp0
    exact hp _ _ (s1.trans (Same.new hp0)) ⟨p, xs, ds, rfl, rfl, hH, upd_same, dps_mono (same_cutD hp0 (Same.new hp0)) _ _ r1⟩
theorem po_of {lo : Es} {l : Option Expr} (ss : Snds F G W X lo l.toList) : PO X l (rdO X.K F G W lo) := by
  cases l with
  | none =>
    have e0 : lo = .nil := by
      cases lo with
      | nil => rfl
      | cons _ _ => exact absurd ss.len (by simp [Es.len])
    subst e0
    refine ⟨fun pins s σ H Q I ⟨O, env, eo, hp⟩ => po_none.run pins s σ H Q I ?_⟩
    rw [evEs] at hp
    exact hp none H (Same.refl _) rfl
  | some e =>
    obtain ⟨m, rfl, sm⟩ := ss.one e rfl
    refine ⟨fun pins s σ H Q I ⟨O, env, eo, hp⟩ => (po_some sm.pe).run pins s σ H Q I ?_⟩
    rw [evEs, evEs, R.bind_assoc] at hp
    refine ⟨O, env, eo, (Post.bind (rep := dp X.K O) hp).imp fun x H1 _ ⟨s1, d1, r1, hp1⟩ => ?_⟩
    cases d1 <;> first | exact hp1.elim | skip
    exact ⟨_, inv_i r1, hp1 _ _ (Same.refl _) rfl⟩
theorem pts_of {c : Es} {ifs : List Expr} (ss : Snds F G W X c ifs) (h : ifs.all tstE = true) (hl : ifs.length ≤ 1) : PTs X ifs (rdTs X.K F G W c) := by
  cases ifs with
  | nil =>
    have e0 : c = .nil := by
      cases c with
      | nil => rfl
      | cons _ _ => exact absurd ss.len (by simp [Es.len])
    subst e0
    refine ⟨fun pins s σ H Q I ⟨O, env, eo, hp⟩ => pts_nil.run pins s σ H Q I ?_⟩
    rw [evEs] at hp
    exact hp true H (Same.refl _) rfl
  | cons e r =>
    have e1 : r = [] := by
      cases r with
      | nil => rfl
      | cons _ _ => exact absurd hl (by simp)
    subst e1
    obtain ⟨m, rfl, sm⟩ := ss.one e rfl
    rw [List.all_cons, Bool.and_eq_true] at h
    refine ⟨fun pins s σ H Q I ⟨O, env, eo, hp⟩ => (pts_one (sm.pt h.1)).run pins s σ H Q I ?_⟩
    rw [evEs, evEs, R.bind_assoc] at hp
    exact ⟨O, env, eo, hp⟩
theorem pn_lc {C : Ct} {w : Wk} {ws : Es} {tg : Tg} {c : Es} {elt : E} {own : List (Str × Nat)} {elt' tg' iter : Expr} {ifs as : List Expr} {scope : Scope} {pos : Pos} (g : Gd C F G W X) (hcm : C.cm = true)
    (h1 : blkC C.N C.sc scope own = true) (h2 : okE iter = true) (h3 : tgInB (own.map (·.2)) tg = true) (h4 : chkG (blkCt C scope) (fnbOf scope) tg tg' = true) (h5 : itArgs C w tg' iter = some as) (ss : Snds F G W X ws as)
    (h7 : ifs.all tstE = true) (h8 : ifs.length ≤ 1) (sc : ∀ s H Ca cl fp, Snds F G (fun _ _ _ _ => False) (X.blk s H scope (compEnvC scope cl Ca X.env) fp) c ifs)
    (se : ∀ s H Ca cl fp, PE (X.blk s H scope (compEnvC scope cl Ca X.env) fp) elt' (rd X.K F G (fun _ _ _ _ => False) elt)) : PE X (.ListComp elt' [⟨tg', iter, ifs, 0⟩] scope pos) (rdN X.K F G W (.lc w ws tg c elt own)) := by
  refine pe_imp (pe_lc (own := own) (g := gOf X.K tg) (tt := rdTs X.K F G (fun _ _ _ _ => False) c) (g.calm hcm) (by rw [g.N]; exact g.nd) (snd_it g h5 ss.ok ss.pa (fun a q => let ⟨m, e, s⟩ := ss.one a q; ⟨m, e, s.pe⟩))
    (blkOk_by (by rw [g.N, g.sc]; exact h1)) (fun s H Ca cl fp => pg_chk (g.blk s H scope Ca cl fp) (fun x hx => hx) h4) (fun s H Ca cl fp => pts_of (sc s H Ca cl fp) h7 h8) se (fold_of h2)) fun σ H Q hq => lc_run (C := C) (tgIn_of h3) hq
end
theorem CallOk.weak {b : Bool} {X : Cx} {f : List D → R D} {x : Str} {n : Nat} (h : CallOk true X G f x n) : CallOk b X G f x n := by
  obtain ⟨k, fa, fd, ps, ds, dvs, sp, FO, r⟩ := h
  exact ⟨k, fa, fd, ps, ds, dvs, sp, FnOk.weak FO, r⟩
theorem Gd.fn_ {C : Ct} {W : WX} {X : Cx} (g : Gd C F G W X) {f n : Nat} {x : Str} (h : (decide (C.fns[f]? = some (x, n)) || decide ((f, x, n) ∈ C.sfns)) = true) : CallOk C.st X G (F f) x n := by
  rcases Bool.or_eq_true_iff.mp h with h | h
  · exact g.fns f x n (of_decide_eq_true h)
  · exact (g.sfns f x n (of_decide_eq_true h)).weak
def rdF (K : PySem.W.Frag) (F : Nat → List D → R D) (G : Gs) (W : WX) (m : E) : TE := fun σ H Q => ∃ O env, EnvOk K O σ H env ∧ Post (dpn K O H) G σ H W Q (evE F m env)
theorem rdF_rd {K : PySem.W.Frag} {F : Nat → List D → R D} {G : Gs} {W : WX} {m : E} {σ : L2.St} {H : Hp} {Q : VK} (h : rd K F G W m σ H Q) : rdF K F G W m σ H Q := by
  obtain ⟨O, env, e, p⟩ := h
  exact ⟨O, env, e, p.rep fun H' v d _ q => dp_of_dpn e.al q⟩
theorem rdF_rdN {K : PySem.W.Frag} {F : Nat → List D → R D} {G : Gs} {W : WX} {m : E} {σ : L2.St} {H : Hp} {Q : VK} (h : rdN K F G W m σ H Q) : rdF K F G W m σ H Q := by
  obtain ⟨O, env, e, p⟩ := h
  refine ⟨O, env, e, ?_⟩
  cases q : evE F m env with
  | stuck => rw [q] at p; exact p
  | exc c d => rw [q] at p; exact p
  | ok d =>
    rw [q] at p
    cases d <;> first | exact p.elim | exact p
theorem snd_callF {F : Nat → List D → R D} {G : Gs} {W : WX} {X : Cx} {C : Ct} {f : Nat} {es : Es} {x : Str} {as : List Expr} {pp pos : Pos} (g : Gd C F G W X) (ss : Snds F G W X es as) (h1 : (f, x, as.length) ∈ C.ffns) (h2 : isGl C.sc x = true) (h3 : notDbg x = true) :
    PE X (.Call (.Name x pp) as [] pos) (rdF X.K F G W (.callF f es)) := by
  obtain ⟨k, fa, fd, ps, ds, dvs, sp, FO, hr, hm, hk, hb, hd, imp⟩ := g.ffns f x as.length h1
  have fin : ∀ σ H Q, rdF X.K F G W (.callF f es) σ H Q → rds X.K F G W es σ H fun vs H1 => sp (vs ++ dvs) H1 Q (WE W σ) := by
    rintro σ H Q ⟨O, env, eo, hp⟩
    rw [evE] at hp
    refine ⟨O, env, eo, ?_⟩
    cases q : evEs F es env with
    | stuck => rw [q] at hp; exact hp
    | exc c p => rw [q] at hp; exact hp
    | ok xs =>
      rw [q] at hp
      intro vs H1 s1 r1
      refine imp vs H1 Q (WE W σ) ⟨O, xs, eo.al.mono s1, by rw [dps_len r1, evEs_len es env xs q, ss.len], r1, ?_⟩
      have hp2 : Post (dpn X.K O H) G σ H1 W Q (F f xs) := Post.up s1 hp
      have hp3 : Post (dpn X.K O H1) G σ H1 W Q (F f xs) := hp2.rep fun H' v d _ ⟨p, ws, es, e1, e2, e3, e4⟩ => ⟨p, ws, es, e1, e2, (by
        cases z : H p with
        | none => rfl
        | some o =>
          rw [s1 _ _ z] at e3
          cases e3), e4⟩
      cases z : F f xs with
      | stuck => rw [z] at hp3; exact hp3
      | ok d => rw [z] at hp3; exact hp3
      | exc c p => rw [z] at hp3; exact hp3
  cases as with
  | nil =>
    have e0 : es = .nil := by
      cases es with
      | nil => rfl
      | cons _ _ => exact absurd ss.len (by simp [Es.len])
    subst e0
    refine pe_imp (pe_callG0 (E := WE W) FO hr (gl_of g h2) hm hk hb hd (fun σ => tkAt g.tk σ) (notDbg_ok h3)) fun σ H Q hq => ?_
    obtain ⟨O, env, eo, hp⟩ := fin σ H Q hq
    rw [evEs] at hp
    exact hp [] H (Same.refl _) .nil
  | cons a0 as =>
    have ok := ss.ok
    rw [List.all_cons, Bool.and_eq_true] at ok
    exact pe_imp (pe_callG (E := WE W) FO hr (gl_of g h2) hm hk hb hd (fun σ => tkAt g.tk σ) ss.pa (notDbg_ok h3) (star_of ok.1) (plain_of ok.2)) fin
mutual
theorem snd : ∀ (m : E) {C : Ct} {W : WX} {X : Cx} {e : Expr}, Gd C F G W X → chkE C m e = true → Snd F G W X m e
  | .v i, C, W, X, e, g, h => by
    rw [chkE.eq_def] at h
    dsimp only at h
    split at h <;> first | cases h | skip
    rename_i x pos
    obtain ⟨h1, h⟩ := ba2 h
    obtain ⟨h2, h⟩ := ba2 h
    obtain ⟨h3, h4⟩ := ba2 h
    refine snd_pt rfl (pe_imp (pe_var (i := i) (by rw [g.N]; exact of_decide_eq_true h1) (by rw [g.sc]; exact isVis_ok h2) (notDbg_ok h3) (notCls_ok h4)) fun σ H Q ⟨O, env, eo, hp⟩ => ?_) (fun _ => rfl) (fun _ _ _ z => nomatch z)
    rw [evE] at hp
    unfold getE at hp
    split at hp
    · rename_i d q
      obtain ⟨v, e1, r⟩ := eo.at_ i d q
      exact ⟨v, e1, post_same hp r⟩
    · exact hp.elim
  | .i n, C, W, X, e, g, h => by
    rw [chkE.eq_def] at h
    dsimp only at h
    split at h <;> first | cases h | skip
    · have e1 := of_decide_eq_true h
      subst e1
      refine snd_pt rfl (pe_imp pe_int fun σ H Q ⟨O, env, eo, hp⟩ => ?_) (fun _ => rfl) (fun _ _ _ z => nomatch z)
      rw [evE] at hp
      exact post_same hp (.int _)
    · obtain ⟨h1, h⟩ := ba2 h
      obtain ⟨h2, h3⟩ := ba2 h
      obtain ⟨t, ht⟩ := g.gis _ _ (of_decide_eq_true h1)
      refine snd_pt rfl (pe_imp (pe_glob (v := .int n) (gl_of g h2) ht ⟨t, rfl⟩ (notDbg_ok h3)) fun σ H Q ⟨O, env, eo, hp⟩ => ?_) (fun _ => rfl) (fun _ _ _ z => nomatch z)
      rw [evE] at hp
      exact post_same hp (.int _)
  | .b n, C, W, X, e, g, h => by
    rw [chkE.eq_def] at h
    dsimp only at h
    split at h <;> first | cases h | skip
    have e1 := of_decide_eq_true h
    subst e1
    refine snd_pt rfl (pe_imp pe_bl fun σ H Q ⟨O, env, eo, hp⟩ => ?_) (fun _ => rfl) (fun _ _ _ z => nomatch z)
    rw [evE] at hp
    exact post_same hp (.bl _)
  | .s n, C, W, X, e, g, h => by
    rw [chkE.eq_def] at h
    dsimp only at h
    split at h <;> first | cases h | skip
    have e1 := of_decide_eq_true h
    subst e1
    refine snd_pt rfl (pe_imp pe_str fun σ H Q ⟨O, env, eo, hp⟩ => ?_) (fun _ => rfl) (fun _ _ _ z => nomatch z)
    rw [evE] at hp
    exact post_same hp (.str _)
  | .non, C, W, X, e, g, h => by
    rw [chkE.eq_def] at h
    dsimp only at h
    split at h <;> first | cases h | skip
    refine snd_pt rfl (pe_imp pe_non fun σ H Q ⟨O, env, eo, hp⟩ => ?_) (fun _ => rfl) (fun _ _ _ z => nomatch z)
    rw [evE] at hp
    exact post_same hp .non
  | .op o a b, C, W, X, e, g, h => by
    rw [chkE.eq_def] at h
    dsimp only at h
    split at h <;> first | cases h | skip
    obtain ⟨h1, h⟩ := ba2 h
    obtain ⟨h2, h3⟩ := ba2 h
    have e1 := of_decide_eq_true h1
    subst e1
    exact snd_pt rfl (pe_imp (pe_op (op_bop o) (snd a g h2).pe (snd b g h3).pe) fun σ H Q hq => rd_op2 (ops_bop o) (fun env => by rw [evE]) hq) (fun _ => rfl) (fun _ _ _ z => nomatch z)
  | .neg a, C, W, X, e, g, h => by
    rw [chkE.eq_def] at h
    dsimp only at h
    split at h <;> first | cases h | skip
    refine snd_pt rfl (pe_imp (pe_un un_neg (snd a g h).pe) fun σ H Q ⟨O, env, eo, hp⟩ => ?_) (fun z => by cases z) (fun _ _ _ z => nomatch z)
    rw [evE] at hp
    refine ⟨O, env, eo, hp.bind.imp fun x H1 _ ⟨s1, d1, r1, hp1⟩ => ?_⟩
    cases d1 <;> first | exact hp1.elim | skip
    exact ⟨_, inv_i r1, post_same hp1 (.int _)⟩
  | .cmp o a b, C, W, X, e, g, h => by
    rw [chkE.eq_def] at h
    dsimp only at h
    split at h <;> first | cases h | skip
    obtain ⟨h1, h⟩ := ba2 h
    obtain ⟨h2, h3⟩ := ba2 h
    have e1 := of_decide_eq_true h1
    subst e1
    have sa := snd a g h2
    have sb := snd b g h3
    refine ⟨rfl, pe_imp (pe_cmpR (op_cop g.hu o) sa.pe sb.pe (mark_of sb.ok)) fun σ H Q hq => rd_op2 (ops_cop o) (fun env => by rw [evE]) hq, fun _ => pt_imp (pt_cmpR (op_cop g.hu o) sa.pe sb.pe (mark_of sb.ok)) fun σ H Q hq => ?_, fun ⟨_, _, _, z⟩ => nomatch z⟩
    have q2 : rd X.K F G W (.cmp o a b) σ H (fun x H' => ∃ k, x = .bl k ∧ Q k H') := rdT_tB hq
    exact rd_op2 (ops_cop o) (fun env => by rw [evE]) q2
  | .chain o o2 a b c, C, W, X, e, g, h => by
    rw [chkE.eq_def] at h
    dsimp only at h
    split at h <;> first | cases h | skip
    obtain ⟨h1, h⟩ := ba2 h
    obtain ⟨h2, h⟩ := ba2 h
    obtain ⟨h3, h⟩ := ba2 h
    obtain ⟨h4, h5⟩ := ba2 h
    have e1 := of_decide_eq_true h1
    subst e1
    have e2 := of_decide_eq_true h2
    subst e2
    have sa := snd a g h3
    have sb := snd b g h4
    have sc := snd c g h5
    have hm : ∀ {b' c' : Expr}, okE c' = true → lastMarks [o.py, o2.py] [b', c'] = false := fun {b' c'} z => by
      show behindInMarks o2.py c' = false
      exact mark_of z
    have go : ∀ σ H Q, rd X.K F G W (.chain o o2 a b c) σ H Q → tChain (rCop X.K o) (rCop X.K o2) (rd X.K F G W a) (rd X.K F G W b) (rd X.K F G W c) σ H Q := by
      rintro σ H Q ⟨O, env, eo, hp⟩
      rw [evE] at hp
      refine ⟨O, env, eo, hp.bind.imp fun x H1 _ ⟨s1, d1, r1, hp1⟩ => ⟨O, env, eo.up s1, hp1.bind.imp fun y H2 _ ⟨s2, d2, r2, hp2⟩ => ?_⟩⟩
      refine ops_cop o G O σ H2 W _ x y d1 d2 (((eo.up s1).up s2).al) (dp_mono (cut_same s2) _ _ r1) r2 (hp2.bind.imp fun z H3 _ ⟨s3, t, r3, hp3⟩ => ?_)
      obtain ⟨k, rfl, hp4⟩ := post_ofB (rep := dp X.K O) hp3
      refine ⟨k, inv_b r3, ?_⟩
      cases k with
      | false =>
        rw [if_neg Bool.false_ne_true] at hp4 ⊢
        exact post_same hp4 (.bl _)
      | true =>
        rw [if_pos rfl] at hp4 ⊢
        refine ⟨O, env, ((eo.up s1).up s2).up s3, hp4.bind.imp fun w H4 _ ⟨s4, d4, r4, hp5⟩ => ?_⟩
        exact ops_cop o2 G O σ H4 W Q y w d2 d4 ((((eo.up s1).up s2).up s3).up s4).al (dp_mono (cut_same (s3.trans s4)) _ _ r2) r4 hp5
    refine ⟨rfl, pe_imp (pe_chain (op_cop g.hu o) (op_cop g.hu o2) sa.pe sb.pe sc.pe (hm sc.ok)) go, fun _ => pt_imp (pt_chain (op_cop g.hu o) (op_cop g.hu o2) sa.pe sb.pe sc.pe (hm sc.ok)) fun σ H Q hq => ?_, fun ⟨_, _, _, z⟩ => nomatch z⟩
    have q2 : rd X.K F G W (.chain o o2 a b c) σ H (fun x H' => ∃ k, x = .bl k ∧ Q k H') := rdT_tB hq
    exact go _ _ _ q2
  | .and a b, C, W, X, e, g, h => by
    rw [chkE.eq_def] at h
    dsimp only at h
    split at h <;> first | cases h | skip
    obtain ⟨h1, h⟩ := ba2 h
    obtain ⟨h2, h3⟩ := ba2 h
    have sa := snd a g h1
    have sb := snd b g h3
    have pw := PW.pt (pw_imp (pw_and (sa.pt h2) (sb.pw ⟨_, _, _, rfl⟩)) (t' := rdT X.K F G W (.and a b)) fun σ H Q ⟨O, env, eo, hp⟩ => by
      rw [evE, R.bind_assoc] at hp
      refine ⟨O, env, eo, ?_⟩
      have hp' : Post repB G σ H W Q (((evE F a env).bind fun x => ofB x).bind fun k => (if k = true then evE F b env else .ok (.bool false)).bind fun x => ofB x) := by
        rw [R.bind_assoc]
        simpa [R.bind_assoc] using hp
      refine (Post.bind (rep := repB) hp').imp fun k H1 _ ⟨s1, d1, r1, hp1⟩ => ?_
      cases r1
      cases k with
      | true => exact ⟨O, env, eo.up s1, hp1⟩
      | false => exact post_same (d := false) hp1 rfl)
    refine ⟨rfl, pe_imp (pe_and sa.pe sb.pe) fun σ H Q ⟨O, env, eo, hp⟩ => ?_, fun _ => pw, fun _ => pw_imp (pw_and (sa.pt h2) (sb.pw ⟨_, _, _, rfl⟩)) fun σ H Q ⟨O, env, eo, hp⟩ => ?_⟩
    · rw [evE] at hp
      refine ⟨O, env, eo, hp.bind.imp fun x H1 _ ⟨s1, d1, r1, hp1⟩ => ?_⟩
      obtain ⟨k, rfl, hp2⟩ := post_ofB (rep := dp X.K O) hp1
      refine ⟨k, inv_b r1, ?_⟩
      cases k with
      | true => exact ⟨O, env, eo.up s1, hp2⟩
      | false => exact post_same hp2 (.bl _)
    · rw [evE, R.bind_assoc] at hp
      refine ⟨O, env, eo, ?_⟩
      have hp' : Post repB G σ H W Q (((evE F a env).bind fun x => ofB x).bind fun k => (if k = true then evE F b env else .ok (.bool false)).bind fun x => ofB x) := by
        rw [R.bind_assoc]
        simpa [R.bind_assoc] using hp
      refine (Post.bind (rep := repB) hp').imp fun k H1 _ ⟨s1, d1, r1, hp1⟩ => ?_
      cases r1
      cases k with
      | true => exact ⟨O, env, eo.up s1, hp1⟩
      | false => exact post_same (d := false) hp1 rfl
  | .or a b, C, W, X, e, g, h => by
    rw [chkE.eq_def] at h
    dsimp only at h
    split at h <;> first | cases h | skip
    obtain ⟨h1, h⟩ := ba2 h
    obtain ⟨h2, h3⟩ := ba2 h
    have sa := snd a g h1
    have sb := snd b g h3
    have go : ∀ (σ : L2.St) (H : Hp) (Q : Bool → Hp → Prop), rdT X.K F G W (.or a b) σ H Q → tOr (rdT X.K F G W a) (rdT X.K F G W b) σ H Q := by
      rintro σ H Q ⟨O, env, eo, hp⟩
      rw [evE, R.bind_assoc] at hp
      refine ⟨O, env, eo, ?_⟩
      have hp' : Post repB G σ H W Q (((evE F a env).bind fun x => ofB x).bind fun k => (if k = true then .ok (.bool true) else evE F b env).bind fun x => ofB x) := by
        rw [R.bind_assoc]
        simpa [R.bind_assoc] using hp
      refine (Post.bind (rep := repB) hp').imp fun k H1 _ ⟨s1, d1, r1, hp1⟩ => ?_
      cases r1
      cases k with
      | false => exact ⟨O, env, eo.up s1, hp1⟩
      | true => exact post_same (d := true) hp1 rfl
    refine ⟨rfl, pe_imp (pe_or sa.pe sb.pe) fun σ H Q ⟨O, env, eo, hp⟩ => ?_, fun _ => PW.pt (pw_imp (pw_or (sa.pt h2) (sb.pw ⟨_, _, _, rfl⟩)) go), fun _ => pw_imp (pw_or (sa.pt h2) (sb.pw ⟨_, _, _, rfl⟩)) go⟩
    rw [evE] at hp
    refine ⟨O, env, eo, hp.bind.imp fun x H1 _ ⟨s1, d1, r1, hp1⟩ => ?_⟩
    obtain ⟨k, rfl, hp2⟩ := post_ofB (rep := dp X.K O) hp1
    refine ⟨k, inv_b r1, ?_⟩
    cases k with
    | false => exact ⟨O, env, eo.up s1, hp2⟩
    | true => exact post_same hp2 (.bl _)
  | .one a, C, W, X, e, g, h => by
    rw [chkE.eq_def] at h
    dsimp only at h
    split at h <;> first | cases h | skip
    obtain ⟨h1, h2⟩ := ba2 h
    have sa := snd a g h1
    have e1 : ∀ env, evE F (.one a) env = evE F a env := fun env => by rw [evE]
    have er : rd X.K F G W (.one a) = rd X.K F G W a := by
      unfold rd
      simp only [e1]
    have et : rdT X.K F G W (.one a) = rdT X.K F G W a := by
      unfold rdT
      simp only [e1]
    rename_i o a' p
    have pw : PW X (.BoolOp o [a'] p) (rdT X.K F G W (.one a)) := by
      rw [et]
      cases o with
      | And => exact pw_and1 (sa.pt h2)
      | Or => exact pw_or1 (sa.pt h2)
    refine ⟨rfl, ?_, fun _ => pw.pt, fun _ => pw⟩
    rw [er]
    exact pe_one sa.pe
  | .not a, C, W, X, e, g, h => by
    rw [chkE.eq_def] at h
    dsimp only at h
    split at h <;> first | cases h | skip
    obtain ⟨h1, h2⟩ := ba2 h
    have sa := snd a g h1
    refine ⟨rfl, pe_imp (pe_not sa.pe) fun σ H Q ⟨O, env, eo, hp⟩ => ?_, fun _ => pt_imp (pt_not (sa.pt h2)) fun σ H Q ⟨O, env, eo, hp⟩ => ?_, fun ⟨_, _, _, z⟩ => nomatch z⟩
    · rw [evE] at hp
      refine ⟨O, env, eo, hp.bind.imp fun x H1 _ ⟨s1, d1, r1, hp1⟩ => ?_⟩
      obtain ⟨k, rfl, hp2⟩ := post_ofB (rep := dp X.K O) hp1
      exact ⟨k, inv_b r1, post_same hp2 (.bl _)⟩
    · rw [evE, R.bind_assoc] at hp
      refine ⟨O, env, eo, ?_⟩
      have hp' : Post repB G σ H W Q (((evE F a env).bind fun x => ofB x).bind fun k => .ok (!k)) := by
        rw [R.bind_assoc]
        simpa [R.bind_assoc, ofB] using hp
      refine (Post.bind (rep := repB) hp').imp fun k H1 _ ⟨s1, d1, r1, hp1⟩ => ?_
      cases r1
      exact post_same hp1 rfl
  | .ife c a b, C, W, X, e, g, h => by
    rw [chkE.eq_def] at h
    dsimp only at h
    split at h <;> first | cases h | skip
    obtain ⟨h1, h⟩ := ba2 h
    obtain ⟨h2, h⟩ := ba2 h
    obtain ⟨h3, h4⟩ := ba2 h
    have sc := snd c g h1
    have sa := snd a g h3
    have sb := snd b g h4
    refine snd_pt rfl (pe_imp (pe_ifExp (sc.pt h2) sa.pe sb.pe) fun σ H Q ⟨O, env, eo, hp⟩ => ?_) (fun z => by cases z) (fun _ _ _ z => nomatch z)
    rw [evE] at hp
    have hp' : Post (dp X.K O) G σ H W Q (((evE F c env).bind fun x => ofB x).bind fun k => if k = true then evE F a env else evE F b env) := by
      rw [R.bind_assoc]
      exact hp
    refine ⟨O, env, eo, (Post.bind (rep := repB) hp').imp fun k H1 _ ⟨s1, d1, r1, hp1⟩ => ?_⟩
    cases r1
    cases k with
    | true => exact ⟨O, env, eo.up s1, hp1⟩
    | false => exact ⟨O, env, eo.up s1, hp1⟩
  | .tup es, C, W, X, e, g, h => by
    rw [chkE.eq_def] at h
    dsimp only at h
    split at h <;> first | cases h | skip
    obtain ⟨h1, h2⟩ := ba2 h
    have ss := snds es g h1
    refine snd_pt rfl (pe_imp (pe_tup ss.pa) fun σ H Q ⟨O, env, eo, hp⟩ => ?_) (fun _ => rfl) (fun _ _ _ z => nomatch z)
    rw [evE] at hp
    refine ⟨O, env, eo, ?_⟩
    cases q : evEs F es env with
    | stuck => rw [q] at hp; exact hp
    | exc c p => rw [q] at hp; exact hp
    | ok ds =>
      rw [q] at hp
      intro xs H1 s1 r1
      have h3 := of_decide_eq_true h2
      have h4 : (1000 : Nat) ≤ sizeLine := by decide
      exact ⟨by rw [dps_len r1, evEs_len es env ds q, ← ss.len]; omega, fun p hp0 => hp _ _ (s1.trans (Same.new hp0)) (dq_newT (eo.al.mono s1) hp0 r1)⟩
  | .lst es, C, W, X, e, g, h => by
    rw [chkE.eq_def] at h
    dsimp only at h
    split at h <;> first | cases h | skip
    obtain ⟨h1, h2⟩ := ba2 h
    exact snd_pt rfl (pe_imp (pn_lst (snds es g h1) (of_decide_eq_true h2)) fun σ H Q hq => rdN_of (fun _ _ z => lst_list z) hq) (fun _ => rfl) (fun _ _ _ z => nomatch z)
  | .ix a i, C, W, X, e, g, h => by
    rw [chkE.eq_def] at h
    dsimp only at h
    split at h <;> first | cases h | skip
    obtain ⟨h1, h2⟩ := ba2 h
    have si := snd i g h2
    exact snd_pt rfl (pe_imp (pe_ix (ix_list.or (ix_tup.or ix_str)) (snd a g h1).pe si.pe (ix_of si.ok)) fun σ H Q hq => rd_op2 ops_ix (fun env => by rw [evE]) hq) (fun _ => rfl) (fun _ _ _ z => nomatch z)
  | .sl a lo hi, C, W, X, e, g, h => by
    rw [chkE.eq_def] at h
    dsimp only at h
    split at h <;> first | cases h | skip
    obtain ⟨h1, h⟩ := ba2 h
    obtain ⟨h2, h3⟩ := ba2 h
    refine snd_pt rfl (pe_imp (pe_slice (SlR.or sl_list (SlR.or sl_tupA sl_str)) (snd a g h1).pe (po_of (snds lo g h2)) (po_of (snds hi g h3))) fun σ H Q ⟨O, env, eo, hp⟩ => ?_) (fun _ => rfl) (fun _ _ _ z => nomatch z)
    rw [evE] at hp
    have hp : Post (dp X.K O) G σ H W Q ((evE F a env).bind fun x => ((evEs F lo env).bind fun l => partD l).bind fun l => ((evEs F hi env).bind fun h => partD h).bind fun h => slop x l h) := by
      simpa [R.bind_assoc] using hp
    refine ⟨O, env, eo, hp.bind.imp fun x H1 _ ⟨s1, d1, r1, hp1⟩ => ⟨O, env, eo.up s1, (Post.bind (rep := fun _ o o' => o = o') hp1).imp fun l H2 _ ⟨s2, l', rl, hp2⟩ => ⟨O, env, (eo.up s1).up s2, (Post.bind (rep := fun _ o o' => o = o') hp2).imp fun u H3 _ ⟨s3, u', ru, hp3⟩ => ?_⟩⟩⟩
    subst rl
    subst ru
    have al3 := (((eo.up s1).up s2).up s3).al
    have r3 := dp_mono (cut_same (s2.trans s3)) _ _ r1
    cases d1 <;> first | exact hp3.elim | skip
    · obtain ⟨hc, hp3⟩ := iteP hp3
      have sm2 : (1000000 : Nat) ≤ sizeLine := by decide
      cases r3
      exact .inr (.inr ⟨_, rfl, by omega, post_same hp3 (.str _)⟩)
    · obtain ⟨p, xs, rfl, q1, q2⟩ := inv_l r3
      exact .inl ⟨p, xs, rfl, sqL_mono cut_le q1, fun p hp0 => hp3 _ _ (Same.new hp0) (dq_new al3 hp0 (cut_dq _ _ q2))⟩
    · obtain ⟨p, xs, rfl, q1, q2⟩ := inv_t r3
      refine .inr (.inl ⟨p, xs, rfl, sqT_mono cut_le q1, fun hw => ?_, fun _ p hp0 => hp3 _ _ (Same.new hp0) (dq_newT al3 hp0 (cut_dq _ _ q2))⟩)
      refine hp3 _ _ (Same.refl _) ?_
      have e9 : cutD _ l u = _ := cut_whole (by rw [← dps_len q2]; exact hw)
      rw [e9]
      exact r3
  | .call f es, C, W, X, e, g, h => by
    rw [chkE.eq_def] at h
    dsimp only at h
    split at h <;> first | cases h | skip
    rename_i x pp as pos
    obtain ⟨h1, h⟩ := ba2 h
    obtain ⟨h2, h⟩ := ba2 h
    obtain ⟨h3, h4⟩ := ba2 h
    have ss := snds es g h4
    obtain ⟨k, fa, fd, ps, ds, dvs, sp, FO, hr, hm, hk, hb, hd, imp⟩ := g.fn_ h1
    refine snd_pt rfl ?_ (fun _ => rfl) (fun _ _ _ z => nomatch z)
    have fin : ∀ σ H Q, rd X.K F G W (.call f es) σ H Q → rds X.K F G W es σ H fun vs H1 => sp (vs ++ dvs) H1 Q (WE W σ) := by
      rintro σ H Q ⟨O, env, eo, hp⟩
      rw [evE] at hp
      refine ⟨O, env, eo, ?_⟩
      cases q : evEs F es env with
      | stuck => rw [q] at hp; exact hp
      | exc c p => rw [q] at hp; exact hp
      | ok xs =>
        rw [q] at hp
        intro vs H1 s1 r1
        refine imp vs H1 Q (WE W σ) ⟨O, xs, eo.al.mono s1, by rw [dps_len r1, evEs_len es env xs q, ss.len], r1, ?_⟩
        have hp2 : Post (dp X.K O) G σ H1 W Q (F f xs) := Post.up s1 hp
        cases z : F f xs with
        | stuck => rw [z] at hp2; exact hp2
        | ok d => rw [z] at hp2; exact hp2
        | exc c p => rw [z] at hp2; exact hp2
    cases as with
    | nil =>
      have e0 : es = .nil := by
        cases es with
        | nil => rfl
        | cons _ _ => exact absurd ss.len (by simp [Es.len])
      subst e0
      refine pe_imp (pe_callG0 (E := WE W) FO hr (gl_of g h2) hm hk hb hd (fun σ => tkAt g.tk σ) (notDbg_ok h3)) fun σ H Q hq => ?_
      obtain ⟨O, env, eo, hp⟩ := fin σ H Q hq
      rw [evEs] at hp
      exact hp [] H (Same.refl _) .nil
    | cons a0 as =>
      have ok := ss.ok
      rw [List.all_cons, Bool.and_eq_true] at ok
      exact pe_imp (pe_callG (E := WE W) FO hr (gl_of g h2) hm hk hb hd (fun σ => tkAt g.tk σ) ss.pa (notDbg_ok h3) (star_of ok.1) (plain_of ok.2)) fin
  | .callF f es, C, W, X, e, g, h => by
    rw [chkE.eq_def] at h
    dsimp only at h
    split at h <;> first | cases h | skip
    obtain ⟨h1, h⟩ := ba2 h
    obtain ⟨h2, h⟩ := ba2 h
    obtain ⟨h3, h4⟩ := ba2 h
    exact snd_pt rfl (pe_imp (snd_callF g (snds es g h4) (of_decide_eq_true h1) h2 h3) fun σ H Q hq => rdF_rd hq) (fun _ => rfl) (fun _ _ _ z => nomatch z)
  | .callW f es m, C, W, X, e, g, h => by
    rw [chkE.eq_def] at h
    dsimp only at h
    split at h <;> first | cases h | skip
    rename_i x pp a0 as kn e' kp pos
    obtain ⟨h1, h⟩ := ba2 h
    obtain ⟨h2, h⟩ := ba2 h
    obtain ⟨h3, h⟩ := ba2 h
    obtain ⟨h4, h5⟩ := ba2 h
    have ss := snds es g h4
    have se := snd m g h5
    obtain ⟨k, fa, fd, ps, gg, sp, FO, hr, hm, hk, hb, imp⟩ := g.kfns f x (a0 :: as).length kn (of_decide_eq_true h1)
    refine snd_pt rfl ?_ (fun _ => rfl) (fun _ _ _ z => nomatch z)
    have ok := ss.ok
    have ok2 := ok
    rw [List.all_cons, Bool.and_eq_true] at ok
    refine pe_imp (pe_callK (E := WE W) FO hr (gl_of g h2) hm hk hb (fun σ => tkAt g.tk σ) ss.pa (pk_cons se.pe pk_nil) rfl rfl (notDbg_ok h3) (star_of ok.1) (by rw [plain_of ok2]; rfl)) ?_
    rintro σ H Q ⟨O, env, eo, hp⟩
    rw [evE] at hp
    refine ⟨O, env, eo, ?_⟩
    cases q : evEs F es env with
    | stuck => rw [q] at hp; exact hp
    | exc c p => rw [q] at hp; exact hp
    | ok xs =>
      rw [q] at hp
      intro vs H1 s1 r1
      refine ⟨O, env, eo.up s1, ?_⟩
      have hp1 : Post (dp X.K O) G σ H1 W Q ((evE F m env).bind fun d => F f (xs ++ [d])) := Post.up s1 hp
      cases q2 : evE F m env with
      | stuck => rw [q2] at hp1; exact hp1
      | exc c p => rw [q2] at hp1; exact hp1
      | ok d =>
        rw [q2] at hp1
        intro y H2 s2 r2
        have l1 : vs.length = (a0 :: as).length := by rw [dps_len r1, evEs_len es env xs q, ss.len]
        refine ⟨l1, rfl, imp _ H2 Q (WE W σ) ⟨O, xs ++ [d], (eo.al.mono s1).mono s2, ?_, dps_app (dps_mono (cut_same s2) _ _ r1) (.cons r2 .nil), ?_⟩⟩
        · rw [List.length_append, l1]
          rfl
        have hp2 : Post (dp X.K O) G σ H2 W Q (F f (xs ++ [d])) := Post.up s2 hp1
        cases z : F f (xs ++ [d]) with
        | stuck => rw [z] at hp2; exact hp2
        | ok d => rw [z] at hp2; exact hp2
        | exc c p => rw [z] at hp2; exact hp2
  | .bi b es, C, W, X, e, g, h => by
    rw [chkE.eq_def] at h
    dsimp only at h
    split at h <;> first | cases h | skip
    rename_i x pp a0 as pos
    obtain ⟨h1, h⟩ := ba2 h
    obtain ⟨hcm, h⟩ := ba2 h
    obtain ⟨h2, h⟩ := ba2 h
    obtain ⟨h3, h4⟩ := ba2 h
    have e1 := of_decide_eq_true h1
    subst e1
    have ss := snds es g h4
    have ok := ss.ok
    rw [List.all_cons, Bool.and_eq_true] at ok
    refine snd_pt rfl (pe_imp (pe_bi (g.calm hcm) g.hu b (gl_of g h2) (g.bls _ (of_decide_eq_true h3)) ss.pa (star_of ok.1) (plain_of ok.2)) fun σ H Q ⟨O, env, eo, hp⟩ => ?_) (fun _ => rfl) (fun _ _ _ z => nomatch z)
    rw [evE] at hp
    exact ⟨O, env, eo, (Post.bind (rep := dps X.K O) hp).imp fun vs H1 _ ⟨s1, ds, r1, hp1⟩ => bi_ok (eo.al.mono s1) r1 hp1⟩
  | .isi t a, C, W, X, e, g, h => by
    rw [chkE.eq_def] at h
    dsimp only at h
    split at h <;> first | cases h | skip
    rename_i x pp a' t' tp pos
    obtain ⟨h1, h⟩ := ba2 h
    obtain ⟨h2, h⟩ := ba2 h
    obtain ⟨h3, h⟩ := ba2 h
    obtain ⟨h4, h⟩ := ba2 h
    obtain ⟨h5, h⟩ := ba2 h
    obtain ⟨h6, h⟩ := ba2 h
    obtain ⟨h7, h⟩ := ba2 h
    obtain ⟨h8, h9⟩ := ba2 h
    have e1 := of_decide_eq_true h1
    subst e1
    have sa := snd a g h4
    split at h9 <;> first | cases h9 | skip
    rename_i u hu
    have e9 := of_decide_eq_true h9
    subst e9
    have pt : PE X (.Name t' tp) (tC (.ty u)) := pe_bltn (gl_of g h5) (g.bls _ (of_decide_eq_true h6)) hu rfl (of_decide_eq_true h7) (notDbg_ok h8)
    refine snd_pt rfl (pe_imp (pe_callB call_isi (gl_of g h2) (g.bls _ (of_decide_eq_true h3)) boot_isinstance (pa_cons sa.pe (pa_cons pt pa_nil rfl) (star_of sa.ok)) (by decide +kernel) (by decide +kernel) (star_of sa.ok) (plain_of rfl)) fun σ H Q ⟨O, env, eo, hp⟩ => ?_) (fun _ => rfl) (fun _ _ _ z => nomatch z)
    rw [evE] at hp
    refine ⟨O, env, eo, hp.bind.imp fun x H1 _ ⟨s1, d1, r1, hp1⟩ => ?_⟩
    unfold isiD at hp1
    by_cases hnd : dicD d1 = true
    · rw [if_pos hnd] at hp1
      exact hp1.elim
    rw [if_neg hnd] at hp1
    split at hp1
    · rename_i k hk
      exact ⟨x, .ty u, .type (tyD d1), .type u, k, rfl, .ty u, ty_of hnd (dp_mono cut_le _ _ r1), kit_ty hk, post_same hp1 (.bl _)⟩
    · exact hp1.elim
  | .lc w ws tg c elt own, C, W, X, e, g, h => by
    rw [chkE.eq_def] at h
    dsimp only at h
    split at h <;> first | cases h | skip
    rename_i elt' tg' iter ifs scope pos
    obtain ⟨hcm, h⟩ := ba2 h
    obtain ⟨h1, h⟩ := ba2 h
    obtain ⟨h2, h⟩ := ba2 h
    obtain ⟨h3, h⟩ := ba2 h
    obtain ⟨h4, h⟩ := ba2 h
    obtain ⟨h5, h⟩ := ba2 h
    obtain ⟨h6, h⟩ := ba2 h
    obtain ⟨h7, h⟩ := ba2 h
    obtain ⟨h8, h9⟩ := ba2 h
    split at h5 <;> first | cases h5 | skip
    rename_i as hq
    exact snd_pt rfl (pe_imp (pn_lc g hcm h1 h2 h3 h4 hq (snds ws g h5) h7 (of_decide_eq_true h8) (fun s H Ca cl fp => snds c (g.blk s H scope Ca cl fp) h6) (fun s H Ca cl fp => (snd elt (g.blk s H scope Ca cl fp) h9).pe)) fun σ H Q hq => rdN_of (fun _ _ z => lc_list z) hq) (fun _ => rfl) (fun _ _ _ z => nomatch z)
  | .rvl a, C, W, X, e, g, h => by
    rw [chkE.eq_def] at h
    dsimp only at h
    split at h <;> first | cases h | skip
    · obtain ⟨h1, h2⟩ := ba2 h
      have e1 := of_decide_eq_true h1
      subst e1
      refine snd_pt rfl (pe_imp (pe_revL (snd a g h2).pe) fun σ H Q ⟨O, env, eo, hp⟩ => ?_) (fun _ => rfl) (fun _ _ _ z => nomatch z)
      rw [evE] at hp
      refine ⟨O, env, eo, hp.bind.imp fun x H1 _ ⟨s1, d1, r1, hp1⟩ => ?_⟩
      cases d1 <;> first | exact hp1.elim | skip
      obtain ⟨p, xs, rfl, q1, q2⟩ := inv_l r1
      exact ⟨p, xs, rfl, sqL_mono cut_le q1, fun p hp0 => hp1 _ _ (Same.new hp0) (dq_new (eo.up s1).al hp0 (dps_rev q2))⟩
    · rename_i x px y py a' pos2 pos
      obtain ⟨h1, h⟩ := ba2 h
      obtain ⟨h2, h⟩ := ba2 h
      obtain ⟨h3, h⟩ := ba2 h
      obtain ⟨h4, h⟩ := ba2 h
      obtain ⟨h5, h⟩ := ba2 h
      obtain ⟨h6, h⟩ := ba2 h
      obtain ⟨hcm, h7⟩ := ba2 h
      have e0 := of_decide_eq_true h1
      have e1 := of_decide_eq_true h4
      subst e0
      subst e1
      have sa := snd a g h7
      refine snd_pt rfl (pe_imp (pe_lstRev (g.calm hcm) (gl_of g h2) (g.bls _ (of_decide_eq_true h3)) (gl_of g h5) (g.bls _ (of_decide_eq_true h6)) sa.pe (star_of sa.ok)) fun σ H Q ⟨O, env, eo, hp⟩ => ?_) (fun _ => rfl) (fun _ _ _ z => nomatch z)
      rw [evE] at hp
      refine ⟨O, env, eo, hp.bind.imp fun x H1 _ ⟨s1, d1, r1, hp1⟩ => ?_⟩
      cases d1 <;> first | exact hp1.elim | skip
      obtain ⟨p, xs, rfl, q1, q2⟩ := inv_l r1
      exact ⟨p, xs, rfl, sqL_mono cut_le q1, fun p hp0 => hp1 _ _ (Same.new hp0) (dq_new (eo.up s1).al hp0 (dps_rev q2))⟩
  | .rvs a, C, W, X, e, g, h => by
    rw [chkE.eq_def] at h
    dsimp only at h
    split at h <;> first | cases h | skip
    obtain ⟨h1, h2⟩ := ba2 h
    have e1 := of_decide_eq_true h1
    subst e1
    refine snd_pt rfl (pe_imp (pe_revS (snd a g h2).pe) fun σ H Q ⟨O, env, eo, hp⟩ => ?_) (fun _ => rfl) (fun _ _ _ z => nomatch z)
    rw [evE] at hp
    refine ⟨O, env, eo, hp.bind.imp fun x H1 _ ⟨s1, d1, r1, hp1⟩ => ?_⟩
    cases d1 <;> first | exact hp1.elim | skip
    · obtain ⟨p, xs, rfl, q1, q2⟩ := inv_l r1
      exact ⟨p, xs, rfl, .inl ⟨sqL_mono cut_le q1, fun p hp0 => hp1 _ _ (Same.new hp0) (dq_new (eo.up s1).al hp0 (dps_rev q2))⟩⟩
    · obtain ⟨p, xs, rfl, q1, q2⟩ := inv_t r1
      exact ⟨p, xs, rfl, .inr ⟨sqT_mono cut_le q1, fun p hp0 => hp1 _ _ (Same.new hp0) (dq_newT (eo.up s1).al hp0 (dps_rev q2))⟩⟩
  | .rvt a, C, W, X, e, g, h => by
    rw [chkE.eq_def] at h
    dsimp only at h
    split at h <;> first | cases h | skip
    obtain ⟨h0, h⟩ := ba2 h
    obtain ⟨h1, h2⟩ := ba2 h
    have e0 := of_decide_eq_true h0
    have e1 := of_decide_eq_true h1
    subst e0
    subst e1
    refine snd_pt rfl (pe_imp (pe_revT (snd a g h2).pe) fun σ H Q ⟨O, env, eo, hp⟩ => ?_) (fun _ => rfl) (fun _ _ _ z => nomatch z)
    rw [evE] at hp
    refine ⟨O, env, eo, hp.bind.imp fun x H1 _ ⟨s1, d1, r1, hp1⟩ => ?_⟩
    cases d1 <;> first | exact hp1.elim | skip
    obtain ⟨p, xs, rfl, q1, q2⟩ := inv_l r1
    exact ⟨p, xs, rfl, sqL_mono cut_le q1, fun p hp0 => hp1 _ _ (Same.new hp0) (dq_new (eo.up s1).al hp0 (dps_rev (dps_drop 1 q2)))⟩
  | .lset a, C, W, X, e, g, h => by
    rw [chkE.eq_def] at h
    dsimp only at h
    split at h <;> first | cases h | skip
    rename_i x px y py a' pos2 pos
    obtain ⟨h1, h⟩ := ba2 h
    obtain ⟨h2, h⟩ := ba2 h
    obtain ⟨h3, h⟩ := ba2 h
    obtain ⟨h4, h⟩ := ba2 h
    obtain ⟨h5, h⟩ := ba2 h
    obtain ⟨h6, h⟩ := ba2 h
    obtain ⟨hcm, h7⟩ := ba2 h
    have e0 := of_decide_eq_true h1
    have e1 := of_decide_eq_true h4
    subst e0
    subst e1
    have sa := snd a g h7
    refine snd_pt rfl (pe_imp (pe_lenSetT (g.calm hcm) g.hu (gl_of g h2) (g.bls _ (of_decide_eq_true h3)) (gl_of g h5) (g.bls _ (of_decide_eq_true h6)) sa.pe (star_of sa.ok)) fun σ H Q ⟨O, env, eo, hp⟩ => ?_) (fun _ => rfl) (fun _ _ _ z => nomatch z)
    rw [evE] at hp
    refine ⟨O, env, eo, hp.bind.imp fun x H1 _ ⟨s1, d1, r1, hp1⟩ => ?_⟩
    cases d1 <;> first | exact hp1.elim | skip
    rename_i ds
    obtain ⟨p, xs, rfl, q1, q2⟩ := inv_l r1
    have hp1 : Post (dp X.K O) G σ H1 W Q (lsetK (tupsD ds)) := hp1
    cases q : tupsD ds with
    | none => rw [q] at hp1; exact hp1.elim
    | some kss =>
      rw [q] at hp1
      obtain ⟨hc, hp1⟩ := iteP hp1
      obtain ⟨ks, e1, e2, e3⟩ := tups_dq q2 q
      subst e1
      subst e2
      refine ⟨p, ks, rfl, sqL_mono cut_le q1, fun z hz => sqT_mono cut_le (e3 z hz), by simpa using hc, ?_⟩
      exact post_same hp1 (.int _)
  | .xq ks j, C, W, X, e, g, h => by
    rw [chkE.eq_def] at h
    dsimp only at h
    split at h <;> first | cases h | skip
    rename_i n i exs hc
    obtain ⟨h1, h2⟩ := ba2 h
    have e1 := of_decide_eq_true h1
    subst e1
    have pe := g.xq n i exs hc ks e h2
    unfold xqOk at h2
    split at h2 <;> first | cases h2 | skip
    · exact snd_pt rfl pe (fun _ => rfl) (fun _ _ _ z => nomatch z)
    · exact snd_pt rfl pe (fun _ => rfl) (fun _ _ _ z => nomatch z)
    · exact snd_pt rfl pe (fun z => nomatch (show false = true from z)) (fun _ _ _ z => nomatch z)
  | .kd d, C, W, X, e, g, h => by
    rw [chkE.eq_def] at h
    dsimp only at h
    split at h <;> first | cases h | skip
    obtain ⟨h1, h⟩ := ba2 h
    obtain ⟨h2, h3⟩ := ba2 h
    obtain ⟨u, v, hm, hr, hd⟩ := g.gds _ _ h1
    refine snd_pt rfl (pe_imp (pe_glob (v := v) (gl_of g h2) hm hr (notDbg_ok h3)) fun σ H Q ⟨O, env, eo, hp⟩ => ?_) (fun _ => rfl) (fun _ _ _ z => nomatch z)
    rw [evE] at hp
    exact post_same hp (hd _)
  | .tm m a b, C, W, X, e, g, h => by
    rw [chkE.eq_def] at h
    dsimp only at h
    split at h <;> first | cases h | skip
    rename_i a' f apos b' cpos
    obtain ⟨h1, h⟩ := ba2 h
    obtain ⟨h2, h⟩ := ba2 h
    obtain ⟨h3, h⟩ := ba2 h
    obtain ⟨h4, h5⟩ := ba2 h
    have e1 := of_decide_eq_true h1
    subst e1
    have sa := snd a g h4
    have sb := snd b g h5
    have hb : ∀ n, attributeBase a' n X.env (eval a' X.env) = eval a' X.env := fun n => by
      cases a' <;> first | rfl | cases h2
    have sm2 : (1000000 : Nat) ≤ sizeLine := by decide
    have iteQ : ∀ {c : Prop} [Decidable c] {O : List Addr} {σ : L2.St} {H : Hp} {Q : VK} {r : R D}, Post (dp X.K O) G σ H W Q (if c then r else .stuck) → c ∧ Post (dp X.K O) G σ H W Q r := fun {c} _ {O σ H Q r} hq => by
      by_cases hc : c
      · rw [if_pos hc] at hq; exact ⟨hc, hq⟩
      · rw [if_neg hc] at hq; exact hq.elim
    cases m with
    | join =>
      refine snd_pt rfl (pe_imp (pe_join sa.pe sb.pe (star_of sb.ok) (hb _) h3) fun σ H Q ⟨O, env, eo, hp⟩ => ?_) (fun _ => rfl) (fun _ _ _ z => nomatch z)
      rw [evE] at hp
      refine ⟨O, env, eo, hp.bind.imp fun x H1 _ ⟨s1, d1, r1, hp1⟩ => ?_⟩
      cases d1 <;> first | exact hp1.elim | skip
      rename_i z
      have hp1 : Post (dp X.K O) G σ H1 W Q ((evE F b env).bind fun y => tmD .join z y) := hp1
      cases r1
      refine ⟨⟨_, rfl⟩, O, env, eo.up s1, hp1.bind.imp fun y H2 _ ⟨s2, d2, r2, hp2⟩ => ?_⟩
      have jn : ∀ {ds : List D} {p : Addr} {xs : List V}, DqAll X.K (cut H2 O) xs ds → (SqL X.K H2 p xs ∨ SqT X.K H2 p xs) → Post (dp X.K O) G σ H2 W Q (joinD z ds) → ∃ a p', ∃ ys : List Str, (V.str z) = .str a ∧ [V.ref p] = [.ref p'] ∧ (SqL X.K H2 p' (ys.map V.str) ∨ SqT X.K H2 p' (ys.map V.str)) ∧ (ys.map (·.length)).sum + ys.length * a.length ≤ 16777216 ∧ Q (.str (Txt.join a ys)) H2 := fun {ds p xs} q2 q1 hj => by
        unfold joinD at hj
        cases q : strsD ds with
        | none => rw [q] at hj; exact hj.elim
        | some ys =>
          rw [q] at hj
          obtain ⟨hc, hj⟩ := iteQ hj
          have := strs_dq q2 q
          subst this
          exact ⟨z, p, ys, rfl, rfl, q1, hc, post_same hj (.str _)⟩
      cases d2 <;> first | exact hp2.elim | skip
      · obtain ⟨p, xs, rfl, q1, q2⟩ := inv_l r2
        exact jn q2 (.inl (sqL_mono cut_le q1)) hp2
      · obtain ⟨p, xs, rfl, q1, q2⟩ := inv_t r2
        exact jn q2 (.inr (sqT_mono cut_le q1)) hp2
    | part =>
      refine snd_pt rfl (pe_imp (pe_partition sa.pe sb.pe (star_of sb.ok) (hb _) h3) fun σ H Q ⟨O, env, eo, hp⟩ => ?_) (fun _ => rfl) (fun _ _ _ z => nomatch z)
      rw [evE] at hp
      refine ⟨O, env, eo, hp.bind.imp fun x H1 _ ⟨s1, d1, r1, hp1⟩ => ?_⟩
      cases d1 <;> first | exact hp1.elim | skip
      rename_i z
      have hp1 : Post (dp X.K O) G σ H1 W Q ((evE F b env).bind fun y => tmD .part z y) := hp1
      cases r1
      refine ⟨⟨_, rfl⟩, O, env, eo.up s1, hp1.bind.imp fun y H2 _ ⟨s2, d2, r2, hp2⟩ => ?_⟩
      cases d2 <;> first | exact hp2.elim | skip
      rename_i t
      cases r2
      obtain ⟨hc, hp2⟩ := iteQ (r := .ok (.tuple [.str (Txt.partition z t).1, .str (Txt.partition z t).2.1, .str (Txt.partition z t).2.2])) hp2
      refine ⟨z, t, rfl, rfl, hc.1, by omega, fun p hp0 => hp2 _ _ (Same.new hp0) (dq_newT ((eo.up s1).up s2).al hp0 (.cons (.str _) (.cons (.str _) (.cons (.str _) .nil))))⟩
    | split =>
      refine snd_pt rfl (pe_imp (pe_split sa.pe sb.pe (star_of sb.ok) (hb _) h3) fun σ H Q ⟨O, env, eo, hp⟩ => ?_) (fun _ => rfl) (fun _ _ _ z => nomatch z)
      rw [evE] at hp
      refine ⟨O, env, eo, hp.bind.imp fun x H1 _ ⟨s1, d1, r1, hp1⟩ => ?_⟩
      cases d1 <;> first | exact hp1.elim | skip
      rename_i z
      have hp1 : Post (dp X.K O) G σ H1 W Q ((evE F b env).bind fun y => tmD .split z y) := hp1
      cases r1
      refine ⟨⟨_, rfl⟩, O, env, eo.up s1, hp1.bind.imp fun y H2 _ ⟨s2, d2, r2, hp2⟩ => ?_⟩
      cases d2 <;> first | exact hp2.elim | skip
      rename_i t
      cases r2
      obtain ⟨hc, hp2⟩ := iteQ (r := .ok (.list ((Txt.split z t).map PyData.str))) hp2
      refine ⟨z, t, rfl, rfl, hc.1, by omega, fun p hp0 => hp2 _ _ (Same.new hp0) (dq_new ((eo.up s1).up s2).al hp0 (dq_strs _))⟩
  | .idx a b, C, W, X, e, g, h => by
    rw [chkE.eq_def] at h
    dsimp only at h
    split at h <;> first | cases h | skip
    rename_i a' f apos b' cpos
    obtain ⟨h1, h⟩ := ba2 h
    obtain ⟨h2, h⟩ := ba2 h
    obtain ⟨h3, h⟩ := ba2 h
    obtain ⟨h4, h5⟩ := ba2 h
    have e1 := of_decide_eq_true h1
    subst e1
    have sa := snd a g h4
    have sb := snd b g h5
    have hb : attributeBase a' "index" X.env (eval a' X.env) = eval a' X.env := by
      cases a' <;> first | rfl | cases h2
    refine snd_pt rfl (pe_imp (pe_bm PySem.F.plainAttrs_list PySem.F.slot_list_index PySem.F.type_list_index (mt_indexD g.hu) sa.pe (pa_cons sb.pe pa_nil (star_of sb.ok)) hb (few_ofE sb.ok) h3 (star_of sb.ok) rfl) fun σ H Q ⟨O, env, eo, hp⟩ => ?_) (fun _ => rfl) (fun _ _ _ z => nomatch z)
    rw [evE] at hp
    refine ⟨O, env, eo, hp.bind.imp fun x H1 _ ⟨s1, d1, r1, hp1⟩ => ?_⟩
    cases d1 <;> first | exact hp1.elim | skip
    rename_i ds
    have hp1 : Post (dp X.K O) G σ H1 W Q ((evE F b env).bind fun y => idxD (.list ds) y) := hp1
    obtain ⟨p, xs, rfl, q1, q2⟩ := inv_l r1
    refine ⟨.inl ⟨rfl, xs, sqL_mono cut_le q1⟩, O, env, eo.up s1, hp1.bind.imp fun y H2 _ ⟨s2, d2, r2, hp2⟩ => ?_⟩
    have hp2 : Post (dp X.K O) G σ H2 W Q (if shp d2 = true ∧ shp (.list ds) = true then idxK d2 ds else .stuck) := hp2
    by_cases hc : shp d2 = true ∧ shp (.list ds) = true
    case neg =>
      rw [if_neg hc] at hp2
      exact hp2.elim
    rw [if_pos hc] at hp2
    unfold idxK at hp2
    cases hq : ds.findIdx? fun z => PyData.eqv z d2 with
    | none => rw [hq] at hp2; exact hp2.elim
    | some j =>
      rw [hq] at hp2
      obtain ⟨hj, hz, hno⟩ := List.findIdx?_eq_some_iff_getElem.mp hq
      refine ⟨p, y, d2, ds, j, ds[j], rfl, rfl, up_dp hc.2 (dp_mono (cut_same s2) _ _ r1), up_dp hc.1 r2, hc.2, hc.1, List.getElem?_eq_getElem hj, hz, fun m z' hm hz' => ?_, post_same hp2 (.int _)⟩
      obtain ⟨hm2, rfl⟩ := List.getElem?_eq_some_iff.mp hz'
      simpa using hno m hm
theorem snds : ∀ (m : Es) {C : Ct} {W : WX} {X : Cx} {es : List Expr}, Gd C F G W X → chkEs C m es = true → Snds F G W X m es
  | .nil, C, W, X, es, g, h => by
    rw [chkEs.eq_def] at h
    dsimp only at h
    have e0 : es = [] := by
      cases es with
      | nil => rfl
      | cons _ _ => cases h
    subst e0
    refine ⟨rfl, rfl, pa_imp pa_nil fun σ H Q ⟨O, env, eo, hp⟩ => ?_, fun a z => nomatch z⟩
    rw [evEs] at hp
    exact hp [] H (Same.refl _) .nil
  | .cons m ms, C, W, X, es, g, h => by
    rw [chkEs.eq_def] at h
    dsimp only at h
    split at h <;> first | cases h | skip
    rename_i e es
    obtain ⟨h1, h2⟩ := ba2 h
    have s := snd m g h1
    have ss := snds ms g h2
    refine ⟨by rw [List.all_cons, s.ok, ss.ok]; rfl, congrArg Nat.succ ss.len, pa_imp (pa_cons s.pe ss.pa (star_of s.ok)) fun σ H Q ⟨O, env, eo, hp⟩ => ?_, fun a z => ?_⟩
    · rw [evEs] at hp
      refine ⟨O, env, eo, (Post.bind (rep := dp X.K O) hp).imp fun x H1 _ ⟨s1, d1, r1, hp1⟩ => ⟨O, env, eo.up s1, (Post.bind (rep := dps X.K O) hp1).imp fun xs H2 _ ⟨s2, ds, r2, hp2⟩ => ?_⟩⟩
      exact hp2 _ _ (Same.refl _) (.cons (dp_mono (cut_same s2) _ _ r1) r2)
    · cases z
      cases ms with
      | nil => exact ⟨m, rfl, s⟩
      | cons _ _ => exact absurd ss.len (by simp [Es.len])
end
end
end Bs

namespace Bs
open PySem PySem.Spec L2
open PyProof.Rows hiding St

/-! ### what names hold -/
/-- what a name holds: nothing, data, a list of its own that may still grow -/
inductive Sl where
  | un | fr (d : D) | ow (ds : List D)
abbrev SE := List Sl
def Sl.full : Sl → Option D
  | .un => none
  | .fr d => some d
  | .ow ds => some (.list ds)
def Sl.clean : Sl → Option D
  | .fr d => some d
  | _ => none
def fullE (env : SE) : Env := env.map Sl.full
def cleanE (env : SE) : Env := env.map Sl.clean
mutual
def lfree : D → Bool
  | .list _ => false
  | .dict _ => false
  | .tuple ds => lfrees ds
  | _ => true
def lfrees : List D → Bool
  | [] => true
  | d :: ds => lfree d && lfrees ds
end
def isOw : Sl → Bool
  | .ow _ => true
  | _ => false
def noOwn (env : SE) : Bool := env.all fun s => !isOw s
def valS (F : Nat → List D → R D) (env : SE) (e : E) : R D := (evE F e (fullE env)).bind fun d => if (lfree d || noOwn env) = true then .ok d else evE F e (cleanE env)
def lsOf : D → R (List D)
  | .list ds => .ok ds
  | _ => .stuck
def newS (F : Nat → List D → R D) (env : SE) (e : E) : R (List D) := ((evE F e (fullE env)).bind lsOf).bind fun ds => if (lfrees ds || noOwn env) = true then .ok ds else (evE F e (cleanE env)).bind lsOf
def valI (F : Nat → List D → R D) (env : SE) (w : Wk) (ws : Es) : R (List D) := match w with
  | .rng1 => evI F .rng1 ws (fullE env)
  | .rng2 => evI F .rng2 ws (fullE env)
  | .rng3 => evI F .rng3 ws (fullE env)
  | w => evI F w ws (cleanE env)
def setAllS : SE → List Nat → List D → SE
  | env, i :: is, d :: ds => setAllS (env.set i (.fr d)) is ds
  | env, _, _ => env
def tgS : Tg → D → SE → Option SE
  | .nm i, d, env => some (env.set i (.fr d))
  | .tp is, .tuple ds, env => if ds.length = is.length then some (setAllS env is ds) else none
  | _, _, _ => none
def frzS (env : SE) (i : Nat) : SE := match env[i]? with
  | some (.ow ds) => env.set i (.fr (.list ds))
  | _ => env
def ownAt (env : SE) (i : Nat) : Option (List D) := match env[i]? with
  | some (.ow ds) => some ds
  | _ => none
/-! ### the state -/
structure SR (K : PySem.W.Frag) (G : Gs) (O : List Addr) (H0 B : Hp) (A : List Addr) (ad : Nat → Addr) (σ : L2.St) (H : Hp) (env : SE) : Prop where
  e0 : Same H0 H
  al0 : Alloc O H0
  alA : ∀ p ∈ A, H0 p = none ∧ ∃ vs, H p = some (.lst vs)
  len : σ.length = env.length
  fb : Same B (cut H (O ++ A))
  fr : ∀ (i : Nat) (d : D), env[i]? = some (.fr d) → ∃ v, σ[i]? = some (some v) ∧ Dq K (cut H (O ++ A)) v d
  ow : ∀ (i : Nat) (ds : List D), env[i]? = some (.ow ds) → ad i ∈ A ∧ σ[i]? = some (some (.ref (ad i))) ∧ ∃ vs, H (ad i) = some (.lst vs) ∧ DqAll K (cut H (O ++ A)) vs ds
  inj : ∀ (i j : Nat) (ds es : List D), env[i]? = some (.ow ds) → env[j]? = some (.ow es) → ad i = ad j → i = j
  pin : ∀ k p, G.kd = .pool k p → ad k = p
section
variable {K : PySem.W.Frag} {G : Gs} {O : List Addr} {H0 B B' : Hp} {A : List Addr} {ad : Nat → Addr} {σ : L2.St} {H H' : Hp} {env : SE}
theorem SR.up (s : SR K G O H0 B A ad σ H env) (e : Same H H') : SR K G O H0 B A ad σ H' env where
  e0 := s.e0.trans e
  al0 := s.al0
  alA := fun p hp => let ⟨a, vs, b⟩ := s.alA p hp; ⟨a, vs, e _ _ b⟩
  len := s.len
  fb := s.fb.trans (cut_same e)
  fr := fun i d q => let ⟨v, a, b⟩ := s.fr i d q; ⟨v, a, dp_mono (cut_same e) _ _ b⟩
  ow := fun i ds q => let ⟨a, b, vs, c, d⟩ := s.ow i ds q; ⟨a, b, vs, e _ _ c, dps_mono (cut_same e) _ _ d⟩
  inj := s.inj
  pin := s.pin
theorem SR.base (s : SR K G O H0 B' A ad σ H env) (e : Same B B') : SR K G O H0 B A ad σ H env := ⟨s.e0, s.al0, s.alA, s.len, e.trans s.fb, s.fr, s.ow, s.inj, s.pin⟩
theorem SR.alO (s : SR K G O H0 B A ad σ H env) : Alloc O H := s.al0.mono s.e0
theorem SR.alOA (s : SR K G O H0 B A ad σ H env) : Alloc (O ++ A) H := fun p hp => by
  rcases List.mem_append.mp hp with h | h
  · exact s.alO p h
  · obtain ⟨_, vs, q⟩ := s.alA p h
    exact ⟨_, q⟩
theorem SR.apart (s : SR K G O H0 B A ad σ H env) {p : Addr} (h : p ∈ A) : p ∉ O := s.al0.out (s.alA p h).1
theorem full_get {i : Nat} {d : D} (h : (fullE env)[i]? = some (some d)) : env[i]? = some (.fr d) ∨ ∃ ds, env[i]? = some (.ow ds) ∧ d = .list ds := by
  unfold fullE at h
  rw [List.getElem?_map] at h
  cases q : env[i]? with
  | none => rw [q] at h; cases h
  | some s =>
    rw [q] at h
    cases s with
    | un => cases h
    | fr d' => cases h; exact .inl rfl
    | ow ds => cases h; exact .inr ⟨ds, rfl, rfl⟩
theorem clean_get {i : Nat} {d : D} (h : (cleanE env)[i]? = some (some d)) : env[i]? = some (.fr d) := by
  unfold cleanE at h
  rw [List.getElem?_map] at h
  cases q : env[i]? with
  | none => rw [q] at h; cases h
  | some s =>
    rw [q] at h
    cases s with
    | un => cases h
    | fr d' => cases h; rfl
    | ow ds => cases h
theorem SR.full (s : SR K G O H0 B A ad σ H env) : EnvOk K O σ H (fullE env) := by
  refine ⟨s.alO, by rw [s.len]; exact (List.length_map ..).symm, fun i d q => ?_⟩
  have sub : Same (cut H (O ++ A)) (cut H O) := cut_sub fun a m => List.mem_append_left _ m
  rcases full_get q with h | ⟨ds, h, rfl⟩
  · obtain ⟨v, a, b⟩ := s.fr i d h
    exact ⟨v, a, dp_mono sub _ _ b⟩
  · obtain ⟨a, b, vs, c, d⟩ := s.ow i ds h
    exact ⟨_, b, .lst (.inl (.inl (cut_of c (s.apart a)))) (dps_mono sub _ _ d)⟩
theorem SR.clean (s : SR K G O H0 B A ad σ H env) : EnvOk K (O ++ A) σ H (cleanE env) := by
  refine ⟨s.alOA, by rw [s.len]; exact (List.length_map ..).symm, fun i d q => ?_⟩
  exact s.fr i d (clean_get q)
/-- hidden lists don't matter to what has no list -/
theorem rd_tup_hide {O1 O2 : List Addr} {a : Addr} {xs : List V} (hh : ∀ p ∈ O2, p ∈ O1 ∨ ∃ vs, H p = some (.lst vs)) (h : Rd (cut H O1) a (.tup xs)) : Rd (cut H O2) a (.tup xs) := by
  have nl : ∀ {o : HO}, cut H O1 a = some o → (∀ vs, o ≠ .lst vs) → cut H O2 a = some o := fun {o} q n => by
    obtain ⟨q1, q2⟩ := cut_some q
    refine cut_of q1 fun m => ?_
    rcases hh a m with z | ⟨vs, z⟩
    · exact q2 z
    · rw [q1] at z
      cases z
      exact n vs rfl
  rcases h with h | ⟨o, h⟩
  · exact .inl (nl h fun _ z => nomatch z)
  · exact .inr ⟨o, nl h fun _ z => nomatch z⟩
mutual
theorem lfree_hide {O1 O2 : List Addr} (hh : ∀ p ∈ O2, p ∈ O1 ∨ ∃ vs, H p = some (.lst vs)) : ∀ (d : D) (v : V), lfree d = true → Dq K (cut H O1) v d → Dq K (cut H O2) v d
  | .none, _, _, h => by cases h; exact .non
  | .bool _, _, _, h => by cases h; exact .bl _
  | .int _, _, _, h => by cases h; exact .int _
  | .str _, _, _, h => by cases h; exact .str _
  | .list _, _, l, _ => by simp [lfree] at l
  | .dict _, _, l, _ => by simp [lfree] at l
  | .tuple ds, _, l, h => by
    cases h with
    | tup h1 h2 => exact .tup (h1.elim (fun h => .inl (rd_tup_hide hh h)) .inr) (lfrees_hide hh ds _ (by simpa [lfree] using l) h2)
theorem lfrees_hide {O1 O2 : List Addr} (hh : ∀ p ∈ O2, p ∈ O1 ∨ ∃ vs, H p = some (.lst vs)) : ∀ (ds : List D) (vs : List V), lfrees ds = true → DqAll K (cut H O1) vs ds → DqAll K (cut H O2) vs ds
  | [], _, _, h => by cases h; exact .nil
  | d :: ds, _, l, h => by
    cases h with
    | cons h1 h2 =>
      have l' : lfree d = true ∧ lfrees ds = true := by simpa [lfrees] using l
      exact .cons (lfree_hide hh d _ l'.1 h1) (lfrees_hide hh ds _ l'.2 h2)
end
theorem SR.hideA (s : SR K G O H0 B A ad σ H env) : ∀ p ∈ O ++ A, p ∈ O ∨ ∃ vs, H p = some (.lst vs) := fun p hp => by
  rcases List.mem_append.mp hp with h | h
  · exact .inl h
  · exact .inr (s.alA p h).2
/-- with no list of its own, nothing needs hiding -/
theorem SR.drop (s : SR K G O H0 B A ad σ H env) (n : noOwn env = true) : SR K G O H0 B [] ad σ H env := by
  have sub : Same (cut H (O ++ A)) (cut H (O ++ [])) := cut_sub fun a m => by simp at m; exact List.mem_append_left _ m
  have no : ∀ (i : Nat) (ds : List D), env[i]? ≠ some (.ow ds) := fun i ds q => by
    have z := List.all_eq_true.mp n _ (List.mem_of_getElem? q)
    cases z
  exact ⟨s.e0, s.al0, (fun p hp => (nomatch hp)), s.len, s.fb.trans sub, fun i d q => let ⟨v, a, b⟩ := s.fr i d q; ⟨v, a, dp_mono sub _ _ b⟩, fun i ds q => absurd q (no i ds), fun i j ds es q => absurd q (no i ds), s.pin⟩
theorem SR.set (s : SR K G O H0 B A ad σ H env) {v : V} {d : D} (i : Nat) (r : Dq K (cut H (O ++ A)) v d) : SR K G O H0 B A ad (σ.set i (some v)) H (env.set i (.fr d)) := by
  have get : ∀ {j : Nat} {x : Sl}, (env.set i (.fr d))[j]? = some x → (j = i ∧ x = .fr d ∧ i < env.length) ∨ (j ≠ i ∧ env[j]? = some x) := fun {j x} q => by
    by_cases e : i = j
    · subst e
      by_cases hl : i < env.length
      · rw [List.getElem?_set_self hl] at q
        cases q
        exact .inl ⟨rfl, rfl, hl⟩
      · rw [List.getElem?_eq_none (by rw [List.length_set]; omega)] at q
        cases q
    · rw [List.getElem?_set_ne e] at q
      exact .inr ⟨fun z => e z.symm, q⟩
  refine ⟨s.e0, s.al0, s.alA, by rw [List.length_set, List.length_set, s.len], s.fb, fun j e q => ?_, fun j ds q => ?_, fun j k ds es q1 q2 => ?_, s.pin⟩
  · rcases get q with ⟨rfl, h, hl⟩ | ⟨hn, h⟩
    · cases h
      exact ⟨v, by rw [List.getElem?_set_self (by rw [s.len]; exact hl)], r⟩
    · rw [List.getElem?_set_ne (fun z => hn z.symm)]
      exact s.fr j e h
  · rcases get q with ⟨_, h, _⟩ | ⟨hn, h⟩
    · cases h
    · rw [List.getElem?_set_ne (fun z => hn z.symm)]
      exact s.ow j ds h
  · rcases get q1 with ⟨_, h, _⟩ | ⟨hn, h1⟩
    · cases h
    · rcases get q2 with ⟨_, h, _⟩ | ⟨hn2, h2⟩
      · cases h
      · exact s.inj j k ds es h1 h2
theorem SR.setAll : ∀ {is : List Nat} {vs : List V} {ds : List D} {σ : L2.St} {env : SE}, SR K G O H0 B A ad σ H env → DqAll K (cut H (O ++ A)) vs ds → is.length = ds.length → SR K G O H0 B A ad (setS σ is vs) H (setAllS env is ds)
  | [], _, _, _, _, s, _, _ => s
  | i :: is, _, _, _, _, s, .cons r t, e => by
    rw [setS, setAllS]
    exact SR.setAll (s.set i r) t (by simpa using e)
  | _ :: _, _, _, _, _, _, .nil, e => by cases e
/-- a new list of its own -/
theorem SR.setNew (s : SR K G O H0 B A ad σ H env) (e : Same H H') {p : Addr} {vs : List V} {ds : List D} (i : Nat) (hi : ∀ k q, G.kd = .pool k q → i ≠ k) (hp : H p = none) (hp' : H' p = some (.lst vs)) (r : DqAll K (cut H' (O ++ (p :: A))) vs ds) :
    SR K G O H0 B (p :: A) (fun j => if j = i then p else ad j) (σ.set i (some (.ref p))) H' (env.set i (.ow ds)) := by
  have get : ∀ {j : Nat} {x : Sl}, (env.set i (.ow ds))[j]? = some x → (j = i ∧ x = .ow ds ∧ i < env.length) ∨ (j ≠ i ∧ env[j]? = some x) := fun {j x} q => by
    by_cases e : i = j
    · subst e
      by_cases hl : i < env.length
      · rw [List.getElem?_set_self hl] at q
        cases q
        exact .inl ⟨rfl, rfl, hl⟩
      · rw [List.getElem?_eq_none (by rw [List.length_set]; omega)] at q
        cases q
    · rw [List.getElem?_set_ne e] at q
      exact .inr ⟨fun z => e z.symm, q⟩
  have up : Same (cut H (O ++ A)) (cut H' (O ++ (p :: A))) := fun a o q => by
    obtain ⟨q1, q2⟩ := cut_some q
    refine cut_of (e _ _ q1) fun m => ?_
    rcases List.mem_append.mp m with m | m
    · exact q2 (List.mem_append_left _ m)
    · rcases List.mem_cons.mp m with z | m
      · subst z
        rw [hp] at q1
        cases q1
      · exact q2 (List.mem_append_right _ m)
  have hp0 : H0 p = none := by
    cases z : H0 p with
    | none => rfl
    | some o => rw [s.e0 _ _ z] at hp; cases hp
  have nA : ∀ q ∈ A, q ≠ p := fun q hq z => by
    subst z
    obtain ⟨_, vs, w⟩ := s.alA q hq
    rw [hp] at w
    cases w
  refine ⟨s.e0.trans e, s.al0, fun q hq => ?_, by rw [List.length_set, List.length_set, s.len], s.fb.trans up, fun j d q => ?_, fun j es q => ?_, fun j k es fs q1 q2 hz => ?_, fun k q z => by rw [if_neg fun e => hi k q z e.symm]; exact s.pin k q z⟩
  · rcases List.mem_cons.mp hq with z | hq
    · subst z
      exact ⟨hp0, vs, hp'⟩
    · obtain ⟨a, ws, b⟩ := s.alA q hq
      exact ⟨a, ws, e _ _ b⟩
  · rcases get q with ⟨_, h, _⟩ | ⟨hn, h⟩
    · cases h
    · rw [List.getElem?_set_ne (fun z => hn z.symm)]
      obtain ⟨v, a, b⟩ := s.fr j d h
      exact ⟨v, a, dp_mono up _ _ b⟩
  · rcases get q with ⟨rfl, h, hl⟩ | ⟨hn, h⟩
    · cases h
      refine ⟨?_, ?_, vs, ?_, r⟩
      · rw [if_pos rfl]; exact List.mem_cons_self
      · rw [if_pos rfl, List.getElem?_set_self (by rw [s.len]; exact hl)]
      · rw [if_pos rfl]; exact hp'
    · obtain ⟨a, b, ws, c, d⟩ := s.ow j es h
      refine ⟨?_, ?_, ws, ?_, dps_mono up _ _ d⟩
      · rw [if_neg hn]; exact List.mem_cons_of_mem _ a
      · rw [if_neg hn, List.getElem?_set_ne (fun z => hn z.symm)]; exact b
      · rw [if_neg hn]; exact e _ _ c
  · rcases get q1 with ⟨rfl, h1, _⟩ | ⟨hn, h1⟩
    · rcases get q2 with ⟨rfl, h2, _⟩ | ⟨hn2, h2⟩
      · rfl
      · rw [if_pos rfl, if_neg hn2] at hz
        exact absurd hz.symm (nA _ (s.ow k fs h2).1)
    · rcases get q2 with ⟨rfl, h2, _⟩ | ⟨hn2, h2⟩
      · rw [if_pos rfl, if_neg hn] at hz
        exact absurd hz (nA _ (s.ow j es h1).1)
      · rw [if_neg hn, if_neg hn2] at hz
        exact s.inj j k es fs h1 h2 hz
/-- it has grown -/
theorem SR.grow (s : SR K G O H0 B A ad σ H env) {i : Nat} {ds : List D} (q : env[i]? = some (.ow ds)) {ws : List V} {es : List D} (r : DqAll K (cut H (O ++ A)) ws es) :
    SR K G O H0 B A ad σ (upd H (ad i) (.lst ws)) (env.set i (.ow es)) := by
  obtain ⟨ha, hσ, vs, hH, hd⟩ := s.ow i ds q
  have up : Same (cut H (O ++ A)) (cut (upd H (ad i) (.lst ws)) (O ++ A)) := fun a o z => by
    obtain ⟨q1, q2⟩ := cut_some z
    refine cut_of ?_ q2
    rw [upd_ne fun e => q2 (by rw [e]; exact List.mem_append_right _ ha)]
    exact q1
  have get : ∀ {j : Nat} {x : Sl}, (env.set i (.ow es))[j]? = some x → (j = i ∧ x = .ow es) ∨ (j ≠ i ∧ env[j]? = some x) := fun {j x} q => by
    by_cases e : i = j
    · subst e
      by_cases hl : i < env.length
      · rw [List.getElem?_set_self hl] at q
        cases q
        exact .inl ⟨rfl, rfl⟩
      · rw [List.getElem?_eq_none (by rw [List.length_set]; omega)] at q
        cases q
    · rw [List.getElem?_set_ne e] at q
      exact .inr ⟨fun z => e z.symm, q⟩
  refine ⟨fun a o z => ?_, s.al0, fun p hp => ?_, by rw [List.length_set, s.len], s.fb.trans up, fun j d z => ?_, fun j fs z => ?_, fun j k fs gs z1 z2 hz => ?_, s.pin⟩
  · rw [upd_ne fun e => by rw [e, (s.alA _ ha).1] at z; cases z]
    exact s.e0 _ _ z
  · obtain ⟨a, us, b⟩ := s.alA p hp
    refine ⟨a, ?_⟩
    by_cases e : p = ad i
    · rw [e]; exact ⟨ws, upd_same⟩
    · exact ⟨us, by rw [upd_ne e]; exact b⟩
  · rcases get z with ⟨_, h⟩ | ⟨hn, h⟩
    · cases h
    · obtain ⟨v, a, b⟩ := s.fr j d h
      exact ⟨v, a, dp_mono up _ _ b⟩
  · rcases get z with ⟨rfl, h⟩ | ⟨hn, h⟩
    · cases h
      exact ⟨ha, hσ, ws, upd_same, dps_mono up _ _ r⟩
    · obtain ⟨a, b, us, c, d⟩ := s.ow j fs h
      refine ⟨a, b, us, ?_, dps_mono up _ _ d⟩
      rw [upd_ne fun e => hn (s.inj j i fs ds h q e)]
      exact c
  · have at_ : ∀ {j : Nat} {fs : List D}, (env.set i (.ow es))[j]? = some (.ow fs) → ∃ gs, env[j]? = some (.ow gs) := fun {j fs} z => by
      rcases get z with ⟨rfl, _⟩ | ⟨_, h⟩
      · exact ⟨ds, q⟩
      · exact ⟨fs, h⟩
    obtain ⟨f1, h1⟩ := at_ z1
    obtain ⟨f2, h2⟩ := at_ z2
    exact s.inj j k f1 f2 h1 h2 hz
/-- it is let go: data from now on -/
theorem SR.freeze (s : SR K G O H0 B A ad σ H env) (i : Nat) : ∃ A', SR K G O H0 B A' ad σ H (frzS env i) := by
  unfold frzS
  cases q : env[i]? with
  | none => exact ⟨A, s⟩
  | some x =>
    cases x with
    | un => exact ⟨A, s⟩
    | fr d => exact ⟨A, s⟩
    | ow ds =>
      obtain ⟨ha, hσ, vs, hH, hd⟩ := s.ow i ds q
      have mem : ∀ {p : Addr}, p ∈ A.filter (fun p => decide (p ≠ ad i)) ↔ p ∈ A ∧ p ≠ ad i := fun {p} => by simp [List.mem_filter]
      have sub : Same (cut H (O ++ A)) (cut H (O ++ A.filter fun p => decide (p ≠ ad i))) := cut_sub fun a m => by
        rcases List.mem_append.mp m with m | m
        · exact List.mem_append_left _ m
        · exact List.mem_append_right _ (mem.mp m).1
      have hl : i < env.length := (List.getElem?_eq_some_iff.mp q).1
      have get : ∀ {j : Nat} {x : Sl}, (env.set i (.fr (.list ds)))[j]? = some x → (j = i ∧ x = .fr (.list ds)) ∨ (j ≠ i ∧ env[j]? = some x) := fun {j x} q => by
        by_cases e : i = j
        · subst e
          rw [List.getElem?_set_self hl] at q
          cases q
          exact .inl ⟨rfl, rfl⟩
        · rw [List.getElem?_set_ne e] at q
          exact .inr ⟨fun z => e z.symm, q⟩
      refine ⟨A.filter fun p => decide (p ≠ ad i), s.e0, s.al0, fun p hp => s.alA p (mem.mp hp).1, by rw [List.length_set, s.len], s.fb.trans sub, fun j d z => ?_, fun j fs z => ?_, fun j k fs gs z1 z2 hz => ?_, s.pin⟩
      · rcases get z with ⟨rfl, h⟩ | ⟨hn, h⟩
        · cases h
          refine ⟨_, hσ, .lst (.inl (.inl (cut_of hH fun m => ?_))) (dps_mono sub _ _ hd)⟩
          rcases List.mem_append.mp m with m | m
          · exact s.apart ha m
          · exact (mem.mp m).2 rfl
        · obtain ⟨v, a, b⟩ := s.fr j d h
          exact ⟨v, a, dp_mono sub _ _ b⟩
      · rcases get z with ⟨_, h⟩ | ⟨hn, h⟩
        · cases h
        · obtain ⟨a, b, us, c, d⟩ := s.ow j fs h
          exact ⟨mem.mpr ⟨a, fun e => hn (s.inj j i fs ds h q e)⟩, b, us, c, dps_mono sub _ _ d⟩
      · rcases get z1 with ⟨_, h⟩ | ⟨_, h1⟩
        · cases h
        · rcases get z2 with ⟨_, h⟩ | ⟨_, h2⟩
          · cases h
          · exact s.inj j k fs gs h1 h2 hz
end
end Bs

namespace Bs
open PySem PySem.Spec L2
open PyProof.Rows hiding St

/-! ### expressions that draw from a list of one's own -/
mutual
inductive EP where
  | pu (e : E)
  | op (o : Bop) (a b : EP) | cmp (o : Cop) (a b : EP)
  | ix (a i : EP)
  | tup (es : EPs)
  | call (f : Nat) (es : EPs)
  | pcall (f i : Nat) (es es2 : EPs)
  | bi (b : Bi) (es : EPs) | lst (es : EPs) | not (a : EP)
  | neg (a : EP) | and (a b : EP) | or (a b : EP) | one (a : EP)
  | sl (a : EP) (lo hi : EPs)
  | pcallN (f : Nat) (es : EPs) (g : Nat) (gs es2 : Es)
  | pcallL (f : Nat) (es : EPs) (ls es2 : Es)
  | popI (i : Nat) (es : EPs)
  | pcallO (f i : Nat) (gs : Es)
  | lcw (w : Wk) (ws : EPs) (tg : Tg) (e : EP) (own : List (Str × Nat))
  | lc (w : Wk) (ws : Es) (tg : Tg) (e : EP) (own : List (Str × Nat))
inductive EPs where
  | nil | cons (e : EP) (es : EPs)
end
def EPs.len : EPs → Nat
  | .nil => 0
  | .cons _ es => es.len + 1
/-- the pool's turn -/
def poolR (env : SE) (i : Nat) : D → R (D × SE)
  | .tuple [d, .list ps] => .ok (d, env.set i (.ow ps))
  | _ => .stuck
/-- the environment, but for one list -/
def seeE : SE → Nat → Env
  | [], _ => []
  | _ :: env, 0 => none :: fullE env
  | s :: env, i + 1 => s.full :: seeE env i
def poolL (env : SE) (i : Nat) : D → R (D × SE)
  | .tuple [d, .list ps] => if (lfree d && lfrees ps) = true then .ok (d, env.set i (.ow ps)) else .stuck
  | _ => .stuck
def poolO (f : List D → R D) (env : SE) (i : Nat) (es : List D) : Option (List D) → R (D × SE)
  | some ps => (noX (f (.list ps :: es))).bind (poolL env i)
  | none => .stuck
def poolC (f : List D → R D) (env : SE) (i : Nat) (ds es : List D) : Option (List D) → R (D × SE)
  | some ps => (noX (f (ds ++ .list ps :: es))).bind (poolR env i)
  | none => .stuck
/-- a pool that was made for the call -/
def dropR (env : SE) : D → R (D × SE)
  | .tuple [d, .list _] => .ok (d, env)
  | _ => .stuck
def negR (env : SE) : D → R (D × SE)
  | .int i => .ok (.int (-i), env)
  | _ => .stuck
def takeR (env : SE) (i : Nat) (ds : List D) (k : Nat) : Option D → R (D × SE)
  | some d => .ok (d, env.set i (.ow (ds.eraseIdx k)))
  | none => .stuck
/-- xs.pop(), xs.pop(k) -/
def popR (env : SE) (i : Nat) (ds : List D) : List D → R (D × SE)
  | [] => takeR env i ds (ds.length - 1) ds[ds.length - 1]?
  | [.int k] => if -1000000 ≤ k ∧ k ≤ 1000000 then (match ixN ds.length k with
    | some j => takeR env i ds j ds[j]?
    | none => .stuck) else .stuck
  | _ => .stuck
def popO (env : SE) (i : Nat) (as : List D) : Option (List D) → R (D × SE)
  | some ds => popR env i ds as
  | none => .stuck
def wipeS (env : SE) : List Nat → SE
  | [] => env
  | v :: vs => (wipeS env vs).set v .un
def compP (f : D → SE → R (D × SE)) : List D → SE → R (List D × SE)
  | [], env => .ok ([], env)
  | x :: xs, env => (f x env).bind fun p => (compP f xs p.2).bind fun q => .ok (p.1 :: q.1, q.2)
/-- one turn: the target, the element, the names of the comprehension away -/
def turnP (tg : Tg) (vs : List Nat) (f : SE → R (D × SE)) (x : D) (env : SE) : R (D × SE) := match tgS tg x env with
  | some e2 => (f e2).bind fun p => .ok (p.1, wipeS p.2 vs)
  | none => .stuck
mutual
def evP (F : Nat → List D → R D) : EP → SE → R (D × SE)
  | .pu e, env => (noX (valS F env e)).bind fun d => .ok (d, env)
  | .op o a b, env => (evP F a env).bind fun p => (evP F b p.2).bind fun q => (noX (bop o p.1 q.1)).bind fun d => .ok (d, q.2)
  | .cmp o a b, env => (evP F a env).bind fun p => (evP F b p.2).bind fun q => (noX (cop o p.1 q.1)).bind fun d => .ok (d, q.2)
  | .ix a b, env => (evP F a env).bind fun p => (evP F b p.2).bind fun q => (noX (ixop p.1 q.1)).bind fun d => .ok (d, q.2)
  | .tup es, env => (evPs F es env).bind fun p => .ok (.tuple p.1, p.2)
  | .call f es, env => (evPs F es env).bind fun p => (noX (F f p.1)).bind fun d => .ok (d, p.2)
  | .pcall f i es es2, env => (evPs F es env).bind fun p => if (ownAt p.2 i).isSome = true then (evPs F es2 p.2).bind fun q => poolC (F f) q.2 i p.1 q.1 (ownAt q.2 i) else .stuck
  | .not a, env => (evP F a env).bind fun p => (noX (ofB p.1)).bind fun k => .ok (.bool (!k), p.2)
  | .bi b es, env => (evPs F es env).bind fun p => (noX (bi b p.1)).bind fun d => .ok (d, p.2)
  | .lst es, env => (evPs F es env).bind fun p => .ok (.list p.1, p.2)
  | .lc w ws tg e own, env => (noX (valI F env w ws)).bind fun items => if items.length ≤ 1000000 then (compP (turnP tg (own.map (·.2)) fun e2 => evP F e e2) items (wipeS env (own.map (·.2)))).bind fun q => .ok (.list q.1, q.2) else .stuck
  | .neg a, env => (evP F a env).bind fun p => negR p.2 p.1
  | .and a b, env => (evP F a env).bind fun p => (noX (ofB p.1)).bind fun k => if k = true then evP F b p.2 else .ok (.bool false, p.2)
  | .or a b, env => (evP F a env).bind fun p => (noX (ofB p.1)).bind fun k => if k = true then .ok (.bool true, p.2) else evP F b p.2
  | .one a, env => evP F a env
  | .sl a lo hi, env => (evP F a env).bind fun p => ((evPs F lo p.2).bind fun l => (noX (partD l.1)).bind fun o => .ok (o, l.2)).bind fun l => ((evPs F hi l.2).bind fun h => (noX (partD h.1)).bind fun o => .ok (o, h.2)).bind fun h =>
      (noX (slop p.1 l.1 h.1)).bind fun d => .ok (d, h.2)
  | .pcallN f es g gs es2, env => (evPs F es env).bind fun p => (noX ((evEs F gs (cleanE p.2)).bind fun ds => F g ds)).bind fun l => (noX (lsOf l)).bind fun ps => (noX (evEs F es2 (cleanE p.2))).bind fun d2 => (noX (F f (p.1 ++ .list ps :: d2))).bind (dropR p.2)
  | .pcallL f es ls es2, env => (evPs F es env).bind fun p => (noX (evEs F ls (cleanE p.2))).bind fun ps => (noX (evEs F es2 (cleanE p.2))).bind fun d2 => (noX (F f (p.1 ++ .list ps :: d2))).bind (dropR p.2)
  | .popI i es, env => if (ownAt env i).isSome = true then (evPs F es env).bind fun p => popO p.2 i p.1 (ownAt p.2 i) else .stuck
  | .pcallO f i gs, env => if (ownAt env i).isSome = true then (noX (evEs F gs (seeE env i))).bind fun es => poolO (F f) env i es (ownAt env i) else .stuck
  | .lcw w ws tg e own, env => ((evPs F ws env).bind fun p => (noX (iters w p.1)).bind fun items => .ok (items, p.2)).bind fun p => if p.1.length ≤ 1000000 then (compP (turnP tg (own.map (·.2)) fun e2 => evP F e e2) p.1 (wipeS p.2 (own.map (·.2)))).bind fun q => .ok (.list q.1, q.2) else .stuck
def evPs (F : Nat → List D → R D) : EPs → SE → R (List D × SE)
  | .nil, env => .ok ([], env)
  | .cons e es, env => (evP F e env).bind fun p => (evPs F es p.2).bind fun q => .ok (p.1 :: q.1, q.2)
end
section
variable {F : Nat → List D → R D}
theorem evPs_len : ∀ (es : EPs) (env : SE) (p : List D × SE), evPs F es env = .ok p → p.1.length = es.len
  | .nil, env, p, h => by
    rw [evPs] at h
    cases h
    rfl
  | .cons e es, env, p, h => by
    rw [evPs] at h
    cases h1 : evP F e env with
    | stuck => rw [h1] at h; cases h
    | exc c p => rw [h1] at h; cases h
    | ok d =>
      rw [h1] at h
      simp only [R.bind_ok] at h
      cases h2 : evPs F es d.2 with
      | stuck => rw [h2] at h; cases h
      | exc c p => rw [h2] at h; cases h
      | ok q =>
        rw [h2] at h
        cases h
        exact congrArg Nat.succ (evPs_len es _ _ h2)
end
/-- what is wanted of a drawing's end -/
def PostG {α β : Type} (rep : Hp → β → α → Prop) (K : PySem.W.Frag) (G : Gs) (O : List Addr) (H0 B : Hp) (ad : Nat → Addr) (σ : L2.St) (Q : β → Hp → Prop) : R (α × SE) → Prop
  | .ok p => ∀ v H A, SR K G O H0 B A ad σ H p.2 → rep (cut H (O ++ A)) v p.1 → Q v H
  | _ => False
section
variable {α β γ δ : Type} {rep : Hp → β → α → Prop} {rep' : Hp → δ → γ → Prop} {K : PySem.W.Frag} {F : Nat → List D → R D} {G : Gs} {O : List Addr} {H0 B B' : Hp} {ad : Nat → Addr} {σ : L2.St} {Q : β → Hp → Prop} {Q2 : δ → Hp → Prop}
theorem PostG.bind {r : R (α × SE)} {f : α × SE → R (γ × SE)} (h : PostG rep' K G O H0 B ad σ Q2 (r.bind f)) :
    PostG rep K G O H0 B ad σ (fun v H1 => ∃ p A, r = .ok p ∧ SR K G O H0 B A ad σ H1 p.2 ∧ rep (cut H1 (O ++ A)) v p.1 ∧ PostG rep' K G O H0 B ad σ Q2 (f p)) r := by
  cases r with
  | stuck => exact h
  | exc c p => exact h
  | ok p => exact fun v H A s r => ⟨p, A, rfl, s, r, h⟩
theorem PostG.base {r : R (α × SE)} (e : Same B B') (h : PostG rep K G O H0 B ad σ Q r) : PostG rep K G O H0 B' ad σ Q r := by
  cases r with
  | stuck => exact h
  | exc c p => exact h
  | ok p => exact fun v H A s r => h v H A (s.base e) r
theorem PostG.imp {Q' : β → Hp → Prop} {r : R (α × SE)} (h : PostG rep K G O H0 B ad σ Q r) (i : ∀ v H, Q v H → Q' v H) : PostG rep K G O H0 B ad σ Q' r := by
  cases r with
  | stuck => exact h
  | exc c p => exact h
  | ok p => exact fun v H A s r => i v H (h v H A s r)
theorem SR.self {A : List Addr} {H : Hp} {env : SE} (s : SR K G O H0 B A ad σ H env) : SR K G O H0 (cut H (O ++ A)) A ad σ H env := ⟨s.e0, s.al0, s.alA, s.len, Same.refl _, s.fr, s.ow, s.inj, s.pin⟩
end
section
variable {K : PySem.W.Frag} {F : Nat → List D → R D} {G : Gs} {O : List Addr} {H0 B : Hp} {A : List Addr} {ad : Nat → Addr} {σ : L2.St} {H : Hp} {env : SE} {Q : VK} {W : WX}
/-- a value reckoned at the end -/
theorem PostG.val {r : R D} (s : SR K G O H0 B A ad σ H env) (h : PostG (Dq K) K G O H0 B ad σ Q ((noX r).bind fun d => .ok (d, env))) : Post (dp K (O ++ A)) G σ H W Q r := by
  cases r with
  | stuck => exact h
  | exc c p => exact h.elim
  | ok d => exact fun v H' e q => h v H' A (s.up e) q
theorem valP {e : E} (s : SR K G O H0 B A ad σ H env) (h : PostG (Dq K) K G O H0 B ad σ Q ((noX (valS F env e)).bind fun d => .ok (d, env))) : rd K F G W e σ H Q := by
  unfold valS at h
  cases q : evE F e (fullE env) with
  | stuck => rw [q] at h; exact h.elim
  | exc c p => rw [q] at h; exact h.elim
  | ok d =>
    rw [q] at h
    by_cases c : (lfree d || noOwn env) = true
    · have h : PostG (Dq K) K G O H0 B ad σ Q ((noX (if (lfree d || noOwn env) = true then R.ok d else evE F e (cleanE env))).bind fun d => .ok (d, env)) := h
      rw [if_pos c] at h
      refine ⟨O, fullE env, s.full, ?_⟩
      rw [q]
      intro v H' e r
      by_cases n : noOwn env = true
      · exact h v H' [] ((s.up e).drop n) (by rw [List.append_nil]; exact r)
      · have l : lfree d = true := by
          rcases Bool.or_eq_true_iff.mp c with l | l
          · exact l
          · exact absurd l n
        exact h v H' A (s.up e) (lfree_hide (s.up e).hideA _ _ l r)
    · have h : PostG (Dq K) K G O H0 B ad σ Q ((noX (if (lfree d || noOwn env) = true then R.ok d else evE F e (cleanE env))).bind fun d => .ok (d, env)) := h
      rw [if_neg c] at h
      exact ⟨O ++ A, cleanE env, s.clean, PostG.val s h⟩
/-- the pool has changed -/
theorem SR.pool (s : SR K G O H0 B A ad σ H env) {i : Nat} {ds : List D} (q : env[i]? = some (.ow ds)) {H' : Hp} {ws : List V} {es : List D} (e : Same (cut H [ad i]) H') (hw : H' (ad i) = some (.lst ws)) (r : DqAll K (cut H' (O ++ A)) ws es) :
    SR K G O H0 B A ad σ H' (env.set i (.ow es)) := by
  obtain ⟨ha, hσ, vs, hH, hd⟩ := s.ow i ds q
  have kp : ∀ {a : Addr} {o : HO}, H a = some o → a ≠ ad i → H' a = some o := fun {a o} z n => e _ _ (cut_of z (by simpa using n))
  have up : Same (cut H (O ++ A)) (cut H' (O ++ A)) := fun a o z => by
    obtain ⟨q1, q2⟩ := cut_some z
    exact cut_of (kp q1 fun e => q2 (by rw [e]; exact List.mem_append_right _ ha)) q2
  have get : ∀ {j : Nat} {x : Sl}, (env.set i (.ow es))[j]? = some x → (j = i ∧ x = .ow es) ∨ (j ≠ i ∧ env[j]? = some x) := fun {j x} q => by
    by_cases e : i = j
    · subst e
      by_cases hl : i < env.length
      · rw [List.getElem?_set_self hl] at q
        cases q
        exact .inl ⟨rfl, rfl⟩
      · rw [List.getElem?_eq_none (by rw [List.length_set]; omega)] at q
        cases q
    · rw [List.getElem?_set_ne e] at q
      exact .inr ⟨fun z => e z.symm, q⟩
  refine ⟨fun a o z => ?_, s.al0, fun p hp => ?_, by rw [List.length_set, s.len], s.fb.trans up, fun j d z => ?_, fun j fs z => ?_, fun j k fs gs z1 z2 hz => ?_, s.pin⟩
  · exact kp (s.e0 _ _ z) fun e => by rw [e, (s.alA _ ha).1] at z; cases z
  · obtain ⟨a, us, b⟩ := s.alA p hp
    refine ⟨a, ?_⟩
    by_cases e : p = ad i
    · rw [e]; exact ⟨ws, hw⟩
    · exact ⟨us, kp b e⟩
  · rcases get z with ⟨_, h⟩ | ⟨hn, h⟩
    · cases h
    · obtain ⟨v, a, b⟩ := s.fr j d h
      exact ⟨v, a, dp_mono up _ _ b⟩
  · rcases get z with ⟨rfl, h⟩ | ⟨hn, h⟩
    · cases h
      exact ⟨ha, hσ, ws, hw, r⟩
    · obtain ⟨a, b, us, c, d⟩ := s.ow j fs h
      exact ⟨a, b, us, kp c fun e => hn (s.inj j i fs ds h q e), dps_mono up _ _ d⟩
  · have at_ : ∀ {j : Nat} {fs : List D}, (env.set i (.ow es))[j]? = some (.ow fs) → ∃ gs, env[j]? = some (.ow gs) := fun {j fs} z => by
      rcases get z with ⟨rfl, _⟩ | ⟨_, h⟩
      · exact ⟨ds, q⟩
      · exact ⟨fs, h⟩
    obtain ⟨f1, h1⟩ := at_ z1
    obtain ⟨f2, h2⟩ := at_ z2
    exact s.inj j k f1 f2 h1 h2 hz
end
/-! ### the readings -/
def rdP (K : PySem.W.Frag) (F : Nat → List D → R D) (G : Gs) (m : EP) : TE := fun σ H Q => ∃ O H0 A ad env, SR K G O H0 (cut H (O ++ A)) A ad σ H env ∧ PostG (Dq K) K G O H0 (cut H (O ++ A)) ad σ Q (evP F m env)
def rdPs (K : PySem.W.Frag) (F : Nat → List D → R D) (G : Gs) (m : EPs) : TA := fun σ H Q => ∃ O H0 A ad env, SR K G O H0 (cut H (O ++ A)) A ad σ H env ∧ PostG (DqAll K) K G O H0 (cut H (O ++ A)) ad σ Q (evPs F m env)
section
variable {K : PySem.W.Frag} {F : Nat → List D → R D} {G : Gs} {σ : L2.St} {H : Hp} {Q : VK} {ma mb m : EP}
theorem rdP_op2 {r : R2} {f : D → D → R D} (os : OpS K r f) (hev : ∀ env, evP F m env = (evP F ma env).bind fun p => (evP F mb p.2).bind fun q => (noX (f p.1 q.1)).bind fun d => .ok (d, q.2)) (h : rdP K F G m σ H Q) : tOp r (rdP K F G ma) (rdP K F G mb) σ H Q := by
  obtain ⟨O, H0, A, ad, env, s, hp⟩ := h
  rw [hev] at hp
  refine ⟨O, H0, A, ad, env, s, (PostG.bind (rep := Dq K) hp).imp fun x H1 ⟨p, A1, _, s1, r1, hp1⟩ => ⟨O, H0, A1, ad, p.2, s1.self, (PostG.bind (rep := Dq K) (hp1.base s1.fb)).imp fun y H2 ⟨q, A2, _, s2, r2, hp2⟩ => ?_⟩⟩
  exact os G (O ++ A2) σ H2 (fun _ _ _ _ => False) Q x y p.1 q.1 s2.alOA (dp_mono s2.fb _ _ r1) r2 (PostG.val s2 hp2)
end
section
variable {F : Nat → List D → R D} {G : Gs} {X : Cx} {W : WX} {σ : L2.St} {H : Hp} {Q : VK}
theorem rdPs_nil {R : List V → Hp → Prop} (h : rdPs X.K F G .nil σ H R) : R [] H := by
  obtain ⟨O, H0, A, ad, env, s, hp⟩ := h
  rw [evPs] at hp
  exact hp [] H A s .nil
theorem rdPs_cons {m : EP} {ms : EPs} {R : List V → Hp → Prop} (h : rdPs X.K F G (.cons m ms) σ H R) : rdP X.K F G m σ H fun x H1 => rdPs X.K F G ms σ H1 fun vs H2 => R (x :: vs) H2 := by
  obtain ⟨O, H0, A, ad, env, s, hp⟩ := h
  rw [evPs] at hp
  refine ⟨O, H0, A, ad, env, s, (PostG.bind (rep := Dq X.K) hp).imp fun x H1 ⟨p, A1, _, s1, r1, hp1⟩ => ⟨O, H0, A1, ad, p.2, s1.self, (PostG.bind (rep := DqAll X.K) (hp1.base s1.fb)).imp fun vs H2 ⟨q, A2, _, s2, r2, hp2⟩ => ?_⟩⟩
  exact hp2 (x :: vs) H2 A2 s2 (.cons (dp_mono s2.fb _ _ r1) r2)
/-- expressions and what they draw, one by one -/
inductive AllP (F : Nat → List D → R D) (G : Gs) (X : Cx) : EPs → List Expr → Prop
  | nil : AllP F G X .nil []
  | cons {m : EP} {ms : EPs} {a : Expr} {as : List Expr} : okE a = true → PE X a (rdP X.K F G m) → AllP F G X ms as → AllP F G X (.cons m ms) (a :: as)
theorem AllP.ok {ms : EPs} {as : List Expr} (h : AllP F G X ms as) : as.all okE = true := by
  induction h with
  | nil => rfl
  | cons h1 _ _ ih => rw [List.all_cons, h1, ih]; rfl
theorem AllP.len {ms : EPs} {as : List Expr} (h : AllP F G X ms as) : as.length = ms.len := by
  induction h with
  | nil => rfl
  | cons h1 _ _ ih => exact congrArg Nat.succ ih
theorem AllP.pa {ms : EPs} {as : List Expr} (h : AllP F G X ms as) : PA X as (rdPs X.K F G ms) := by
  induction h with
  | nil => exact pa_imp pa_nil fun σ H Q hq => rdPs_nil hq
  | cons h1 h2 _ ih => exact pa_imp (pa_cons h2 ih (star_of h1)) fun σ H Q hq => rdPs_cons hq
theorem AllP.pah {ms : EPs} {as : List Expr} (h : AllP F G X ms as) {b : Expr} {bs : List Expr} {tb : TE} {tbs : TA} (ob : okE b = true) (hb : PE X b tb) (hbs : PA X bs tbs) :
    PA X (as ++ b :: bs) (fun σ H Q => rdPs X.K F G ms σ H fun vs H1 => tb σ H1 fun x H2 => tbs σ H2 fun ws H3 => Q (vs ++ x :: ws) H3) := by
  induction h with
  | nil => exact pa_imp (pa_cons hb hbs (star_of ob)) fun σ H Q hq => rdPs_nil hq
  | cons h1 h2 _ ih => exact pa_imp (pa_cons h2 ih (star_of h1)) fun σ H Q hq => rdPs_cons hq
theorem rdP_pcall {f i n k : Nat} {es es2 : EPs} {sp : Sp} {dvs : List V} {E : XK} (hk : es.len = k) (hn : es.len + es2.len + 1 = n) (imp : ∀ vs H Q E, spP X.K n k (F f) vs H Q E → sp (vs ++ dvs) H Q E) (h : rdP X.K F G (.pcall f i es es2) σ H Q) :
    rdPs X.K F G es σ H fun vs H1 => (∃ v, σ[i]? = some (some v) ∧ rdPs X.K F G es2 σ H1 fun ws H3 => sp ((vs ++ v :: ws) ++ dvs) H3 Q E) := by
  obtain ⟨O, H0, A, ad, env, s, hp⟩ := h
  rw [evP] at hp
  refine ⟨O, H0, A, ad, env, s, (PostG.bind (rep := DqAll X.K) hp).imp fun vs H1 ⟨p, A1, hp0, s1, r1, hp1⟩ => ?_⟩
  by_cases ho : (ownAt p.2 i).isSome = true
  case neg =>
    rw [if_neg ho] at hp1
    exact hp1.elim
  rw [if_pos ho] at hp1
  have own : ∀ {env : SE} {ds : List D}, ownAt env i = some ds → env[i]? = some (.ow ds) := fun {env ds} z => by
    unfold ownAt at z
    split at z
    · rename_i q
      cases z
      exact q
    · cases z
  obtain ⟨ds1, hd1⟩ := Option.isSome_iff_exists.mp ho
  obtain ⟨_, hσ, _⟩ := s1.ow i ds1 (own hd1)
  refine ⟨_, hσ, O, H0, A1, ad, p.2, s1.self, (PostG.bind (rep := DqAll X.K) (hp1.base s1.fb)).imp fun ws H2 ⟨q, A2, hq0, s2, r2, hp2⟩ => ?_⟩
  cases hd2 : ownAt q.2 i with
  | none => rw [hd2] at hp2; exact hp2.elim
  | some ps =>
    rw [hd2] at hp2
    obtain ⟨ha, _, us, hu, ru⟩ := s2.ow i ps (own hd2)
    have m1 : ∀ a ∈ ad i :: (O ++ A2).filter (fun a => decide (a ≠ ad i)), a ∈ O ++ A2 := fun a m => by
      rcases List.mem_cons.mp m with m | m
      · rw [m]; exact List.mem_append_right _ ha
      · exact (List.mem_filter.mp m).1
    have m2 : ∀ a ∈ O ++ A2, a ∈ ad i :: (O ++ A2).filter (fun a => decide (a ≠ ad i)) := fun a m => by
      by_cases e : a = ad i
      · rw [e]; exact List.mem_cons_self
      · exact List.mem_cons_of_mem _ (List.mem_filter.mpr ⟨m, by simpa using e⟩)
    have v1 : DqAll X.K (cut H2 (O ++ A2)) vs p.1 := dps_mono s2.fb _ _ r1
    refine imp _ H2 Q E ⟨(O ++ A2).filter (fun a => decide (a ≠ ad i)), ad i, us, ps, vs, ws, p.1, q.1, fun a m => s2.alOA a (List.mem_filter.mp m).1, fun m => by simpa using (List.mem_filter.mp m).2, hu, dps_mono (cut_sub m1) _ _ ru, rfl, ?_, ?_, dps_mono (cut_sub m1) _ _ v1, dps_mono (cut_sub m1) _ _ r2, ?_⟩
    · rw [dps_len r1, evPs_len es env p hp0, hk]
    · rw [List.length_append, List.length_cons, dps_len r1, dps_len r2, evPs_len es env p hp0, evPs_len es2 _ q hq0]
      omega
    · have hp2 : PostG (Dq X.K) X.K G O H0 (cut H1 (O ++ A1)) ad σ Q ((noX (F f (p.1 ++ .list ps :: q.1))).bind (poolR q.2 i)) := hp2
      cases hf : F f (p.1 ++ .list ps :: q.1) with
      | stuck => rw [hf] at hp2; exact hp2.elim
      | exc c d => rw [hf] at hp2; exact hp2.elim
      | ok d =>
        rw [hf] at hp2
        have hp2 : PostG (Dq X.K) X.K G O H0 (cut H1 (O ++ A1)) ad σ Q (poolR q.2 i d) := hp2
        unfold poolR at hp2
        split at hp2
        · rename_i d' ps' _z
          exact ⟨d', ps', rfl, fun v H' ws' e hw rw' rv => hp2 v H' A2 (s2.pool (own hd2) e hw (dps_mono (cut_sub m2) _ _ rw')) (dp_mono (cut_sub m2) _ _ rv)⟩
        · exact hp2.elim
end
section
variable {K : PySem.W.Frag} {F : Nat → List D → R D} {G : Gs} {O : List Addr} {H0 B : Hp} {A : List Addr} {ad : Nat → Addr} {σ : L2.St} {H : Hp} {env : SE}
theorem SR.unset (s : SR K G O H0 B A ad σ H env) (i : Nat) (x : Option V) : SR K G O H0 B A ad (σ.set i x) H (env.set i .un) := by
  have get : ∀ {j : Nat} {x : Sl}, (env.set i .un)[j]? = some x → x = .un ∨ (j ≠ i ∧ env[j]? = some x) := fun {j x} q => by
    by_cases e : i = j
    · subst e
      by_cases hl : i < env.length
      · rw [List.getElem?_set_self hl] at q
        cases q
        exact .inl rfl
      · rw [List.getElem?_eq_none (by rw [List.length_set]; omega)] at q
        cases q
    · rw [List.getElem?_set_ne e] at q
      exact .inr ⟨fun z => e z.symm, q⟩
  refine ⟨s.e0, s.al0, s.alA, by rw [List.length_set, List.length_set, s.len], s.fb, fun j d q => ?_, fun j ds q => ?_, fun j k ds es q1 q2 => ?_, s.pin⟩
  · rcases get q with h | ⟨hn, h⟩
    · cases h
    · rw [List.getElem?_set_ne (fun z => hn z.symm)]
      exact s.fr j d h
  · rcases get q with h | ⟨hn, h⟩
    · cases h
    · rw [List.getElem?_set_ne (fun z => hn z.symm)]
      exact s.ow j ds h
  · rcases get q1 with h | ⟨hn, h1⟩
    · cases h
    · rcases get q2 with h | ⟨hn2, h2⟩
      · cases h
      · exact s.inj j k ds es h1 h2
theorem SR.wipe (s : SR K G O H0 B A ad σ H env) : ∀ vs : List Nat, SR K G O H0 B A ad (L2.wipe σ vs) H (wipeS env vs)
  | [] => s
  | v :: vs => (SR.wipe s vs).unset v none
theorem wipeS_un {i : Nat} : ∀ {vs : List Nat}, i ∈ vs → ∀ x, (wipeS env vs)[i]? = some x → x = .un
  | v :: vs, h, x, q => by
    rw [wipeS] at q
    by_cases e : v = i
    · subst e
      by_cases hl : v < (wipeS env vs).length
      · rw [List.getElem?_set_self hl] at q
        exact (Option.some.inj q).symm
      · rw [List.getElem?_eq_none (by rw [List.length_set]; omega)] at q
        cases q
    · rw [List.getElem?_set_ne e] at q
      exact wipeS_un ((List.mem_cons.mp h).resolve_left fun z => e z.symm) x q
theorem wipe_get {i : Nat} : ∀ {vs : List Nat}, i ∉ vs → (L2.wipe σ vs)[i]? = σ[i]?
  | [], _ => rfl
  | v :: vs, h => by
    show ((L2.wipe σ vs).set v none)[i]? = _
    rw [List.getElem?_set_ne fun z => h (by rw [z]; exact List.mem_cons_self)]
    exact wipe_get fun z => h (List.mem_cons_of_mem _ z)
theorem wipe_len : ∀ vs : List Nat, (L2.wipe σ vs).length = σ.length
  | [] => rfl
  | v :: vs => by
    show ((L2.wipe σ vs).set v none).length = _
    rw [List.length_set, wipe_len vs]
/-- the names were away, and are not looked at -/
theorem SR.unwipe {vs : List Nat} (s : SR K G O H0 B A ad (L2.wipe σ vs) H env) (h : ∀ i ∈ vs, ∀ x, env[i]? = some x → x = .un) : SR K G O H0 B A ad σ H env := by
  have out : ∀ {i : Nat} {x : Sl}, env[i]? = some x → x ≠ .un → (L2.wipe σ vs)[i]? = σ[i]? := fun {i x} q n => wipe_get fun m => n (h i m x q)
  refine ⟨s.e0, s.al0, s.alA, by rw [← s.len, wipe_len], s.fb, fun j d q => ?_, fun j ds q => ?_, s.inj, s.pin⟩
  · rw [← out q (fun z => nomatch z)]
    exact s.fr j d q
  · rw [← out q (fun z => nomatch z)]
    exact s.ow j ds q
theorem tg_runW {vs : List Nat} {tg : Tg} {v : V} {d : PyData} {Q : L2.St → Hp → Prop} (ti : tgIn vs tg) (s : SR K G O H0 B A ad σ H env) (r : Dq K (cut H (O ++ A)) v d) {env' : SE} (h : tgS tg d env = some env')
    (q : ∀ σ', SR K G O H0 B A ad σ' H env' → L2.wipe σ' vs = L2.wipe σ vs → Q σ' H) : gOf K tg v σ H Q := by
  cases tg with
  | nm i =>
    cases h
    exact q _ (s.set i r) (wipe_set ti)
  | tp is =>
    cases d with
    | tuple ds =>
      have h : (if ds.length = is.length then some (setAllS env is ds) else none) = some env' := h
      by_cases hl : ds.length = is.length
      · rw [if_pos hl] at h
        cases h
        obtain ⟨a, xs, rfl, h1, h2⟩ := inv_t r
        exact ⟨a, xs, rfl, sqT_mono cut_le h1, by rw [dps_len h2, hl], gs_run (by rw [dps_len h2, hl]) (q _ (s.setAll h2 hl.symm) (setS_wipe ti))⟩
      · rw [if_neg hl] at h
        cases h
    | _ => cases h
/-- the list that grows is put away -/
theorem cut_grow {Z : List Addr} {p : Addr} {o : HO} (m : p ∈ Z) : Same (cut H Z) (cut (upd H p o) Z) := fun a u q => by
  obtain ⟨q1, q2⟩ := cut_some q
  refine cut_of ?_ q2
  rw [upd_ne fun e => q2 (by rw [e]; exact m)]
  exact q1
theorem cut_new {Z : List Addr} {p : Addr} {o : HO} (n : H p = none) : Same (cut H Z) (cut (upd H p o) (p :: Z)) := fun a u q => by
  obtain ⟨q1, q2⟩ := cut_some q
  have hne : a ≠ p := fun e => by rw [e, n] at q1; cases q1
  refine cut_of (by rw [upd_ne hne]; exact q1) fun m => ?_
  rcases List.mem_cons.mp m with e | m
  · exact hne e
  · exact q2 m
theorem SR.hide {B' : Hp} {p : Addr} (s : SR K G O H0 B A ad σ H env) (n : H p = none) (fb : Same B' (cut (upd H p (.lst [])) (p :: O ++ A))) : SR K G (p :: O) (upd H0 p (.lst [])) B' A ad σ (upd H p (.lst [])) env := by
  have h0 : H0 p = none := by
    cases z : H0 p with
    | none => rfl
    | some o => rw [s.e0 _ _ z] at n; cases n
  have nA : ∀ q ∈ A, q ≠ p := fun q hq e => by
    obtain ⟨_, vs, w⟩ := s.alA q hq
    rw [e, n] at w
    cases w
  have up : Same (cut H (O ++ A)) (cut (upd H p (.lst [])) (p :: O ++ A)) := cut_new n
  refine ⟨fun a o z => ?_, fun q hq => ?_, fun q hq => ?_, s.len, fb, fun i d q => ?_, fun i ds q => ?_, s.inj, s.pin⟩
  · by_cases e : a = p
    · rw [e] at z ⊢
      rw [upd_same] at z ⊢
      exact z
    · rw [upd_ne e] at z ⊢
      exact s.e0 _ _ z
  · rcases List.mem_cons.mp hq with e | hq
    · rw [e]; exact ⟨_, upd_same⟩
    · obtain ⟨o, z⟩ := s.al0 q hq
      exact ⟨o, by rw [upd_ne fun e => by rw [e, h0] at z; cases z]; exact z⟩
  · obtain ⟨a, vs, b⟩ := s.alA q hq
    exact ⟨by rw [upd_ne (nA q hq)]; exact a, vs, by rw [upd_ne (nA q hq)]; exact b⟩
  · obtain ⟨v, a, b⟩ := s.fr i d q
    exact ⟨v, a, dp_mono up _ _ b⟩
  · obtain ⟨a, b, vs, c, d⟩ := s.ow i ds q
    exact ⟨a, b, vs, by rw [upd_ne (nA _ a)]; exact c, dps_mono up _ _ d⟩
theorem SR.more {B' : Hp} {p : Addr} {ys zs : List V} (s : SR K G (p :: O) (upd H0 p (.lst ys)) B A ad σ H env) (fb : Same B' (cut (upd H p (.lst zs)) (p :: O ++ A))) : SR K G (p :: O) (upd H0 p (.lst zs)) B' A ad σ (upd H p (.lst zs)) env := by
  have nA : ∀ q ∈ A, q ≠ p := fun q hq e => by
    obtain ⟨a, _⟩ := s.alA q hq
    rw [e, upd_same] at a
    cases a
  have up : Same (cut H (p :: O ++ A)) (cut (upd H p (.lst zs)) (p :: O ++ A)) := cut_grow (List.mem_append_left _ List.mem_cons_self)
  refine ⟨fun a o z => ?_, fun q hq => ?_, fun q hq => ?_, s.len, fb, fun i d q => ?_, fun i ds q => ?_, s.inj, s.pin⟩
  · by_cases e : a = p
    · rw [e] at z ⊢
      rw [upd_same] at z ⊢
      exact z
    · rw [upd_ne e] at z ⊢
      exact s.e0 _ _ (by rw [upd_ne e]; exact z)
  · obtain ⟨o, z⟩ := s.al0 q hq
    by_cases e : q = p
    · rw [e]; exact ⟨_, upd_same⟩
    · exact ⟨o, by rw [upd_ne e] at z ⊢; exact z⟩
  · obtain ⟨a, vs, b⟩ := s.alA q hq
    exact ⟨by rw [upd_ne (nA q hq)] at a ⊢; exact a, vs, by rw [upd_ne (nA q hq)]; exact b⟩
  · obtain ⟨v, a, b⟩ := s.fr i d q
    exact ⟨v, a, dp_mono up _ _ b⟩
  · obtain ⟨a, b, vs, c, d⟩ := s.ow i ds q
    exact ⟨a, b, vs, by rw [upd_ne (nA _ a)]; exact c, dps_mono up _ _ d⟩
theorem SR.back {B' : Hp} {p : Addr} {ys : List V} (s : SR K G (p :: O) (upd H0 p (.lst ys)) B A ad σ H env) (h0 : H0 p = none) (al : Alloc O H0) (fb : Same B' (cut H (O ++ A))) : SR K G O H0 B' A ad σ H env := by
  have sub : Same (cut H (p :: O ++ A)) (cut H (O ++ A)) := cut_sub fun a m => List.mem_cons_of_mem _ m
  have nA : ∀ q ∈ A, q ≠ p := fun q hq e => by
    obtain ⟨a, _⟩ := s.alA q hq
    rw [e, upd_same] at a
    cases a
  refine ⟨fun a o z => s.e0 _ _ (by rw [upd_ne fun e => by rw [e, h0] at z; cases z]; exact z), al, fun q hq => ?_, s.len, fb, fun i d q => ?_, fun i ds q => ?_, s.inj, s.pin⟩
  · obtain ⟨a, b⟩ := s.alA q hq
    exact ⟨by rw [upd_ne (nA q hq)] at a; exact a, b⟩
  · obtain ⟨v, a, b⟩ := s.fr i d q
    exact ⟨v, a, dp_mono sub _ _ b⟩
  · obtain ⟨a, b, vs, c, d⟩ := s.ow i ds q
    exact ⟨a, b, vs, c, dps_mono sub _ _ d⟩
end
theorem lc_turns {K : PySem.W.Frag} {F : Nat → List D → R D} {G : Gs} {O : List Addr} {H0 B H1 : Hp} {A : List Addr} {ad : Nat → Addr} {σ : L2.St} {env : SE} {m : EP} {J : It} {items : List D} {tg : Tg} {vs : List Nat} {Q : VK} {D0 : Addr} (ti : tgIn vs tg) (s : SR K G O H0 B A ad σ H1 env) (wd : WalkD K (O ++ A) H1 J items) (hsz : items.length ≤ 1000000) (hD : H1 D0 = none)
    (hp : PostG (Dq K) K G O H0 B ad σ Q ((compP (turnP tg vs fun e2 => evP F m e2) items (wipeS env vs)).bind fun q => .ok (.list q.1, q.2))) :
    ∃ W : Nat → Nat → Hp → Prop, (∃ m, W 0 m (upd H1 D0 (.lst []))) ∧ ∀ i n H, W i n H →
      (J.stop i H ∧ Q (.ref D0) H) ∨ (J.go i H ∧ ∃ Nx : Hp → Prop, (∀ H', Nx H' → ∃ m', m' < n ∧ W (i + 1) m' H') ∧ ∀ x H', J.yld i H x H' → gOf K tg x (L2.wipe σ vs) H' fun σ2 H2 => L2.wipe σ2 vs = L2.wipe σ vs ∧ rdTs K F G (fun _ _ _ _ => False) .nil σ2 H2 fun b H3 =>
        if b = true then rdP K F G m σ2 H3 fun y H4 => ∃ acc, H4 D0 = some (.lst acc) ∧ acc.length < sizeLine ∧ Nx (upd H4 D0 (.lst (acc ++ [y]))) else Nx H3) := by
  have wd : Walk J items.length (fun H => Same (cut H1 (O ++ A)) H) (fun i H x H2 => Same H H2 ∧ ∀ O', Alloc O' H → Same (cut H1 (O ++ A)) (cut H O') → ∃ d, items[i]? = some d ∧ Dq K (cut H2 O') x d) := wd
  have h0 : H0 D0 = none := by
    cases z : H0 D0 with
    | none => rfl
    | some o => rw [s.e0 _ _ z] at hD; cases hD
  refine lc_it wd (fun i H2 => i ≤ items.length ∧ ∃ (A2 : List Addr) (env2 : SE) (ys : List V) (acc : List D), SR K G (D0 :: O) (upd H0 D0 (.lst ys)) (cut H1 (O ++ A)) A2 ad (L2.wipe σ vs) H2 env2 ∧ DqAll K (cut H2 (D0 :: O ++ A2)) ys acc ∧ acc.length ≤ i ∧ (∀ i ∈ vs, ∀ x, env2[i]? = some x → x = .un) ∧
      PostG (Dq K) K G O H0 B ad σ Q ((compP (turnP tg vs fun e2 => evP F m e2) (items.drop i) env2).bind fun q => .ok (.list (acc ++ q.1), q.2)))
    ⟨Nat.zero_le _, A, wipeS env vs, [], [], SR.hide (s.wipe vs) hD (cut_new hD), .nil, Nat.le_refl _, fun i hi x q => wipeS_un hi x q, by rw [List.drop_zero]; exact hp⟩
    (fun i H2 _ ⟨_, A2, env2, ys, acc, s2, _⟩ => s2.fb.trans cut_le) ?_ ?_
  · rintro i x H2 H3 hi ⟨_, A2, env2, ys, acc, s2, ra, hl, un, hp2⟩ ⟨e, hy⟩
    obtain ⟨d, hd, rx⟩ := hy (D0 :: O ++ A2) s2.alOA s2.fb
    have hdr : items.drop i = d :: items.drop (i + 1) := by
      obtain ⟨hlt, e⟩ := List.getElem?_eq_some_iff.mp hd
      rw [← e]
      exact List.drop_eq_getElem_cons hlt
    rw [hdr, compP, R.bind_assoc] at hp2
    cases q : tgS tg d env2 with
    | none =>
      have z : turnP tg vs (fun e2 => evP F m e2) d env2 = .stuck := by unfold turnP; rw [q]
      rw [z] at hp2
      exact hp2.elim
    | some e2 =>
      have z : turnP tg vs (fun e2 => evP F m e2) d env2 = (evP F m e2).bind fun p => .ok (p.1, wipeS p.2 vs) := by unfold turnP; rw [q]
      rw [z, R.bind_assoc] at hp2
      refine tg_runW ti (s2.up e) rx q fun σ2 s3 hw => ?_
      rw [wipe_wipe] at hw
      refine ⟨hw, D0 :: O, fullE e2, s3.full, ?_⟩
      rw [evEs]
      intro b H4 e4 hb
      have hb : b = true := hb
      subst hb
      rw [if_pos rfl]
      refine ⟨D0 :: O, upd H0 D0 (.lst ys), A2, ad, e2, (s3.up e4).self, ?_⟩
      cases q2 : evP F m e2 with
      | stuck => rw [q2] at hp2; exact hp2.elim
      | exc c p => rw [q2] at hp2; exact hp2.elim
      | ok p =>
        rw [q2] at hp2
        intro y H5 A5 s5 ry
        have hD5 : H5 D0 = some (.lst ys) := s5.e0 _ _ upd_same
        have ch : Same (cut H2 (D0 :: O ++ A2)) (cut (upd H5 D0 (.lst (ys ++ [y]))) (D0 :: O ++ A5)) := ((cut_same (e.trans e4)).trans s5.fb).trans (cut_grow List.mem_cons_self)
        refine ⟨ys, hD5, ?_, hi, A5, wipeS p.2 vs, ys ++ [y], acc ++ [p.1], ?_, dps_app (dps_mono ch _ _ ra) (.cons (dp_mono (cut_grow List.mem_cons_self) _ _ ry) .nil), ?_, fun i hi x q => wipeS_un hi x q, ?_⟩
        · have h1 := dps_len ra
          have h2 : (1000000 : Nat) < sizeLine := by decide
          omega
        · have s6 := s5.wipe vs
          rw [hw] at s6
          exact s6.more (s2.fb.trans ch)
        · rw [List.length_append]
          exact Nat.succ_le_succ hl
        · have e9 : (fun r : List D × SE => (R.ok (PyData.list (acc ++ [p.1] ++ r.1), r.2) : R (D × SE))) = fun r => R.ok (PyData.list (acc ++ (p.1 :: r.1)), r.2) := by
            funext r
            simp
          rw [e9]
          have hp2 : PostG (Dq K) K G O H0 B ad σ Q (((compP (turnP tg vs fun e2 => evP F m e2) (items.drop (i + 1)) (wipeS p.2 vs)).bind fun q => .ok (p.1 :: q.1, q.2)).bind fun q => .ok (.list (acc ++ q.1), q.2)) := hp2
          rw [R.bind_assoc] at hp2
          exact hp2
  · rintro H2 ⟨_, A2, env2, ys, acc, s2, ra, hl, un, hp2⟩
    rw [List.drop_length, compP] at hp2
    have hp2 : PostG (Dq K) K G O H0 B ad σ Q (.ok (.list (acc ++ []), env2)) := hp2
    rw [List.append_nil] at hp2
    have sub : Same (cut H2 (D0 :: O ++ A2)) (cut H2 (O ++ A2)) := cut_sub fun a m => List.mem_cons_of_mem _ m
    have hD2 : H2 D0 = some (.lst ys) := s2.e0 _ _ upd_same
    have nD : D0 ∉ O ++ A2 := fun m => by
      rcases List.mem_append.mp m with m | m
      · exact s.al0.out h0 m
      · obtain ⟨a, _⟩ := s2.alA D0 m
        rw [upd_same] at a
        cases a
    exact hp2 (.ref D0) H2 A2 ((s2.back h0 s.al0 ((s.fb.trans s2.fb).trans sub)).unwipe un) (.lst (.inl (.inl (cut_of hD2 nD))) (dps_mono sub _ _ ra))
theorem lcP_run {F : Nat → List D → R D} {G : Gs} {X : Cx} {W : WX} {w : Wk} {ws : Es} {tg : Tg} {m : EP} {own : List (Str × Nat)} (ti : tgIn (own.map (·.2)) tg) {σ : L2.St} {H : Hp} {Q : VK} (h : rdP X.K F G (.lc w ws tg m own) σ H Q) :
    tLc (rdI X.K F G W w ws) (gOf X.K tg) (rdTs X.K F G (fun _ _ _ _ => False) .nil) (rdP X.K F G m) (own.map (·.2)) σ H Q := by
  obtain ⟨O, H0, A, ad, env, s, hp⟩ := h
  rw [evP] at hp
  cases q : valI F env w ws with
  | stuck => rw [q] at hp; exact hp.elim
  | exc c p => rw [q] at hp; exact hp.elim
  | ok items =>
    rw [q] at hp
    have hp : PostG (Dq X.K) X.K G O H0 (cut H (O ++ A)) ad σ Q (if items.length ≤ 1000000 then (compP (turnP tg (own.map (·.2)) fun e2 => evP F m e2) items (wipeS env (own.map (·.2)))).bind fun q => .ok (.list q.1, q.2) else .stuck) := hp
    by_cases hsz : items.length ≤ 1000000
    case neg =>
      rw [if_neg hsz] at hp
      exact hp.elim
    rw [if_pos hsz] at hp
    by_cases hr : isRng w = true
    · have hv : valI F env w ws = evI F w ws (fullE env) := by cases w <;> first | rfl | cases hr
      rw [hv] at q
      refine ⟨O, fullE env, s.full, ?_⟩
      rw [q]
      intro J H1 e1 wd D0 hD
      unfold repI at wd
      rw [if_pos hr] at wd
      exact lc_turns ti (s.up e1) wd.toD hsz hD hp
    · have hv : valI F env w ws = evI F w ws (cleanE env) := by cases w <;> first | rfl | exact absurd rfl hr
      rw [hv] at q
      refine ⟨O ++ A, cleanE env, s.clean, ?_⟩
      rw [q]
      intro J H1 e1 wd D0 hD
      exact lc_turns ti (s.up e1) (repI_toD wd) hsz hD hp
theorem rdP_not {K : PySem.W.Frag} {F : Nat → List D → R D} {G : Gs} {σ : L2.St} {H : Hp} {Q : VK} {a : EP} (h : rdP K F G (.not a) σ H Q) : rdP K F G a σ H fun x H' => ∃ k, x = .bl k ∧ Q (.bl (!k)) H' := by
  obtain ⟨O, H0, A, ad, env, s, hp⟩ := h
  rw [evP] at hp
  refine ⟨O, H0, A, ad, env, s, (PostG.bind (rep := Dq K) hp).imp fun x H1 ⟨p, A1, hq, s1, r1, hp1⟩ => ?_⟩
  clear hq
  obtain ⟨d, e2⟩ := p
  cases d <;> first | exact hp1.elim | skip
  exact ⟨_, inv_b r1, hp1 _ _ A1 s1 (.bl _)⟩
section
variable {K : PySem.W.Frag} {F : Nat → List D → R D} {G : Gs} {σ : L2.St} {H : Hp} {Q : VK} {a b : EP}
theorem rdP_imp {Q' : VK} (h : rdP K F G a σ H Q) (i : ∀ v H', Q v H' → Q' v H') : rdP K F G a σ H Q' := by
  obtain ⟨O, H0, A, ad, env, s, hp⟩ := h
  exact ⟨O, H0, A, ad, env, s, hp.imp i⟩
theorem rdP_neg (h : rdP K F G (.neg a) σ H Q) : rdP K F G a σ H fun x H' => ∃ i, x = .int i ∧ Q (.int (-i)) H' := by
  obtain ⟨O, H0, A, ad, env, s, hp⟩ := h
  rw [evP] at hp
  refine ⟨O, H0, A, ad, env, s, (PostG.bind (rep := Dq K) hp).imp fun x H1 ⟨p, A1, hq, s1, r1, hp1⟩ => ?_⟩
  clear hq
  obtain ⟨d, e2⟩ := p
  cases d <;> first | exact hp1.elim | skip
  exact ⟨_, inv_i r1, hp1 _ _ A1 s1 (.int _)⟩
theorem rdP_and (h : rdP K F G (.and a b) σ H Q) : rdP K F G a σ H fun x H1 => ∃ c, x = .bl c ∧ if c = true then rdP K F G b σ H1 Q else Q (.bl false) H1 := by
  obtain ⟨O, H0, A, ad, env, s, hp⟩ := h
  rw [evP] at hp
  refine ⟨O, H0, A, ad, env, s, (PostG.bind (rep := Dq K) hp).imp fun x H1 ⟨p, A1, hq, s1, r1, hp1⟩ => ?_⟩
  clear hq
  obtain ⟨d, e2⟩ := p
  cases d <;> first | exact hp1.elim | skip
  rename_i k
  refine ⟨k, inv_b r1, ?_⟩
  cases k with
  | true =>
    rw [if_pos rfl]
    have hp1 : PostG (Dq K) K G O H0 (cut H (O ++ A)) ad σ Q (evP F b e2) := hp1
    exact ⟨O, H0, A1, ad, e2, s1.self, hp1.base s1.fb⟩
  | false =>
    rw [if_neg Bool.false_ne_true]
    exact hp1 _ _ A1 s1 (.bl _)
theorem rdP_or (h : rdP K F G (.or a b) σ H Q) : rdP K F G a σ H fun x H1 => ∃ c, x = .bl c ∧ if c = true then Q (.bl true) H1 else rdP K F G b σ H1 Q := by
  obtain ⟨O, H0, A, ad, env, s, hp⟩ := h
  rw [evP] at hp
  refine ⟨O, H0, A, ad, env, s, (PostG.bind (rep := Dq K) hp).imp fun x H1 ⟨p, A1, hq, s1, r1, hp1⟩ => ?_⟩
  clear hq
  obtain ⟨d, e2⟩ := p
  cases d <;> first | exact hp1.elim | skip
  rename_i k
  refine ⟨k, inv_b r1, ?_⟩
  cases k with
  | true =>
    rw [if_pos rfl]
    exact hp1 _ _ A1 s1 (.bl _)
  | false =>
    rw [if_neg Bool.false_ne_true]
    have hp1 : PostG (Dq K) K G O H0 (cut H (O ++ A)) ad σ Q (evP F b e2) := hp1
    exact ⟨O, H0, A1, ad, e2, s1.self, hp1.base s1.fb⟩
theorem rdP_one (h : rdP K F G (.one a) σ H Q) : rdP K F G a σ H Q := by
  obtain ⟨O, H0, A, ad, env, s, hp⟩ := h
  rw [evP] at hp
  exact ⟨O, H0, A, ad, env, s, hp⟩
end
def rdOP (K : PySem.W.Frag) (F : Nat → List D → R D) (G : Gs) (m : EPs) : TO := fun σ H Q => ∃ O H0 A ad env, SR K G O H0 (cut H (O ++ A)) A ad σ H env ∧ PostG (fun _ o o' => o = o') K G O H0 (cut H (O ++ A)) ad σ Q ((evPs F m env).bind fun l => (noX (partD l.1)).bind fun o => .ok (o, l.2))
theorem poP_of {F : Nat → List D → R D} {G : Gs} {X : Cx} {lo : EPs} {l : Option Expr} (ss : AllP F G X lo l.toList) : PO X l (rdOP X.K F G lo) := by
  cases l with
  | none =>
    cases ss
    refine ⟨fun pins s σ H Q I ⟨O, H0, A, ad, env, sr, hp⟩ => po_none.run pins s σ H Q I ?_⟩
    rw [evPs] at hp
    exact hp none H A sr rfl
  | some e =>
    cases ss with
    | cons h1 h2 h3 =>
      cases h3
      refine ⟨fun pins s σ H Q I ⟨O, H0, A, ad, env, sr, hp⟩ => (po_some h2).run pins s σ H Q I ?_⟩
      rw [evPs, R.bind_assoc] at hp
      refine ⟨O, H0, A, ad, env, sr, (PostG.bind (rep := Dq X.K) hp).imp fun x H1 ⟨p, A1, hq, s1, r1, hp1⟩ => ?_⟩
      clear hq
      rw [evPs] at hp1
      obtain ⟨d, e2⟩ := p
      cases d <;> first | exact hp1.elim | skip
      exact ⟨_, inv_i r1, hp1 _ _ A1 s1 rfl⟩
theorem rdP_sl {K : PySem.W.Frag} {F : Nat → List D → R D} {G : Gs} {σ : L2.St} {H : Hp} {Q : VK} {a : EP} {lo hi : EPs} (h : rdP K F G (.sl a lo hi) σ H Q) :
    rdP K F G a σ H fun x H1 => rdOP K F G lo σ H1 fun l H2 => rdOP K F G hi σ H2 fun u H3 => rSlq K x l u H3 Q := by
  obtain ⟨O, H0, A, ad, env, s, hp⟩ := h
  rw [evP] at hp
  refine ⟨O, H0, A, ad, env, s, (PostG.bind (rep := Dq K) hp).imp fun x H1 ⟨p, A1, _, s1, r1, hp1⟩ => ⟨O, H0, A1, ad, p.2, s1.self, (PostG.bind (rep := fun _ o o' => o = o') (hp1.base s1.fb)).imp fun l H2 ⟨q, A2, _, s2, r2, hp2⟩ => ⟨O, H0, A2, ad, q.2, s2.self, (PostG.bind (rep := fun _ o o' => o = o') (hp2.base s2.fb)).imp fun u H3 ⟨z, A3, _, s3, r3, hp3⟩ => ?_⟩⟩⟩
  subst r2
  subst r3
  have r3 := dp_mono (s2.fb.trans s3.fb) _ _ r1
  obtain ⟨d1, e1⟩ := p
  have r3 : Dq K (cut H3 (O ++ A3)) x d1 := r3
  have al3 := s3.alOA
  cases d1 <;> first | exact hp3.elim | skip
  · cases r3
    rename_i t _ _ _ _ _
    dsimp only at hp3
    have sm2 : (1000000 : Nat) ≤ sizeLine := by decide
    by_cases hc : t.length ≤ 1000000
    · have e0 : slop (.str t) q.1 z.1 = .ok (.str (L2.cutS t q.1 z.1)) := if_pos hc
      rw [e0] at hp3
      exact .inr (.inr ⟨t, rfl, by omega, hp3 _ _ A3 s3 (.str _)⟩)
    · have e0 : slop (.str t) q.1 z.1 = .stuck := if_neg hc
      rw [e0] at hp3
      exact hp3.elim
  · obtain ⟨p, xs, rfl, q1, q2⟩ := inv_l r3
    exact .inl ⟨p, xs, rfl, sqL_mono cut_le q1, fun p hp0 => hp3 _ _ A3 (s3.up (Same.new hp0)) (dq_new al3 hp0 (cut_dq _ _ q2))⟩
  · obtain ⟨p, xs, rfl, q1, q2⟩ := inv_t r3
    refine .inr (.inl ⟨p, xs, rfl, sqT_mono cut_le q1, fun hw => ?_, fun _ p hp0 => hp3 _ _ A3 (s3.up (Same.new hp0)) (dq_newT al3 hp0 (cut_dq _ _ q2))⟩)
    refine hp3 _ _ A3 s3 ?_
    have e9 : cutD _ q.1 z.1 = _ := cut_whole (by rw [← dps_len q2]; exact hw)
    show Dq K (cut H3 (O ++ A3)) _ (PyData.tuple (cutD _ q.1 z.1))
    rw [e9]
    exact r3
theorem dps_erase {K : PySem.W.Frag} {H : Hp} : ∀ {vs : List V} {ds : List D} (i : Nat), DqAll K H vs ds → DqAll K H (vs.eraseIdx i) (ds.eraseIdx i)
  | _, _, _, .nil => .nil
  | _, _, 0, .cons _ t => t
  | _, _, i + 1, .cons q t => .cons q (dps_erase i t)
theorem own_at {env : SE} {i : Nat} {ds : List D} (z : ownAt env i = some ds) : env[i]? = some (.ow ds) := by
  unfold ownAt at z
  split at z
  · rename_i q
    cases z
    exact q
  · cases z
section
variable {K : PySem.W.Frag} {F : Nat → List D → R D} {G : Gs} {O : List Addr} {H0 B : Hp} {A : List Addr} {ad : Nat → Addr} {σ : L2.St} {H : Hp} {env : SE} {Q : VK}
theorem take_ok {i k : Nat} {ds : List D} {vs : List V} (s : SR K G O H0 B A ad σ H env) (q : env[i]? = some (.ow ds)) (hv : DqAll K (cut H (O ++ A)) vs ds) (h : PostG (Dq K) K G O H0 B ad σ Q (takeR env i ds k ds[k]?)) :
    ∃ y, vs[k]? = some y ∧ Q y (upd H (ad i) (.lst (vs.eraseIdx k))) := by
  cases z : ds[k]? with
  | none => rw [z] at h; exact h.elim
  | some d =>
    rw [z] at h
    obtain ⟨y, h1, h2⟩ := dps_get hv z
    obtain ⟨ha, _, _⟩ := s.ow i ds q
    refine ⟨y, h1, h y _ A (s.grow q (dps_erase k hv)) (dp_mono (cut_grow (List.mem_append_right _ ha)) _ _ h2)⟩
theorem rdP_pop {i : Nat} {es : EPs} (h : rdP K F G (.popI i es) σ H Q) :
    ∃ v, σ[i]? = some (some v) ∧ tyV K "list" v H ∧ rdPs K F G es σ H fun xs H1 => rPop v xs H1 Q ∨ rPopAt v xs H1 Q := by
  obtain ⟨O, H0, A, ad, env, s, hp⟩ := h
  rw [evP] at hp
  by_cases ho : (ownAt env i).isSome = true
  case neg =>
    rw [if_neg ho] at hp
    exact hp.elim
  rw [if_pos ho] at hp
  obtain ⟨ds0, hd0⟩ := Option.isSome_iff_exists.mp ho
  obtain ⟨ha0, hσ, vs0, hH0, _⟩ := s.ow i ds0 (own_at hd0)
  refine ⟨_, hσ, .inl ⟨rfl, vs0, .inl (.inl hH0)⟩, O, H0, A, ad, env, s, (PostG.bind (rep := DqAll K) hp).imp fun xs H1 ⟨p, A1, _, s1, r1, hp1⟩ => ?_⟩
  cases hd : ownAt p.2 i with
  | none => rw [hd] at hp1; exact hp1.elim
  | some ds =>
    rw [hd] at hp1
    have hp1 : PostG (Dq K) K G O H0 (cut H (O ++ A)) ad σ Q (popR p.2 i ds p.1) := hp1
    have ho1 := own_at hd
    obtain ⟨ha, _, vs, hH, hv⟩ := s1.ow i ds ho1
    obtain ⟨as, e1⟩ := p
    have hl := dps_len hv
    unfold popR at hp1
    split at hp1
    · rename_i z
      have z : as = [] := z
      subst z
      cases r1
      obtain ⟨y, h1, h2⟩ := take_ok s1 ho1 hv hp1
      rw [← hl] at h1 h2
      rw [PyProof.Rows.Copied.eraseIdx_last] at h2
      exact .inl ⟨_, vs, y, rfl, rfl, hH, h1, h2⟩
    · rename_i k z
      have z : as = [.int k] := z
      subst z
      cases r1 with
      | cons r1 r2 =>
        cases r2
        rw [inv_i r1]
        by_cases hk : -1000000 ≤ k ∧ k ≤ 1000000
        case neg =>
          rw [if_neg hk] at hp1
          exact hp1.elim
        rw [if_pos hk] at hp1
        split at hp1
        · rename_i j hj
          obtain ⟨y, h1, h2⟩ := take_ok s1 ho1 hv hp1
          exact .inr ⟨_, vs, k, j, y, rfl, rfl, hH, by omega, by omega, by rw [hl]; exact (ixN_seq hj).1, h1, h2⟩
        · exact hp1.elim
    · exact hp1.elim
end
theorem rdP_pcallN {F : Nat → List D → R D} {G : Gs} {X : Cx} {σ : L2.St} {H : Hp} {Q : VK} {f g n k : Nat} {es : EPs} {gs es2 : Es} {sp : Sp} {dvs : List V} {W : WX} {E : XK} (hk : es.len = k) (hn : es.len + es2.len + 1 = n) (imp : ∀ vs H Q E, spP X.K n k (F f) vs H Q E → sp (vs ++ dvs) H Q E) (h : rdP X.K F G (.pcallN f es g gs es2) σ H Q) :
    rdPs X.K F G es σ H fun vs H1 => rdF X.K F G W (.callF g gs) σ H1 fun x H2 => rds X.K F G W es2 σ H2 fun ws H3 => sp ((vs ++ x :: ws) ++ dvs) H3 Q E := by
  obtain ⟨O, H0, A, ad, env, s, hp⟩ := h
  rw [evP] at hp
  refine ⟨O, H0, A, ad, env, s, (PostG.bind (rep := DqAll X.K) hp).imp fun vs H1 ⟨p, A1, hp0, s1, r1, hp1⟩ => ?_⟩
  have ev : evE F (.callF g gs) (cleanE p.2) = (evEs F gs (cleanE p.2)).bind fun ds => F g ds := by rw [evE]
  rw [← ev] at hp1
  refine ⟨O ++ A1, cleanE p.2, s1.clean, ?_⟩
  cases q1 : evE F (.callF g gs) (cleanE p.2) with
  | stuck => rw [q1] at hp1; exact hp1.elim
  | exc c d => rw [q1] at hp1; exact hp1.elim
  | ok l =>
    rw [q1] at hp1
    cases l <;> first | exact hp1.elim | skip
    rename_i ps
    have hp1 : PostG (Dq X.K) X.K G O H0 (cut H (O ++ A)) ad σ Q ((noX (evEs F es2 (cleanE p.2))).bind fun d2 => (noX (F f (p.1 ++ .list ps :: d2))).bind (dropR p.2)) := hp1
    rintro x H2 e2 ⟨pp, us, ds, rfl, he, hn0, hpp, ru⟩
    cases he
    have c1 := s1.clean
    have up : Same (cut H1 (O ++ A1)) (cut H2 (pp :: (O ++ A1))) := fun a o z => by
      obtain ⟨z1, z2⟩ := cut_some z
      refine cut_of (e2 _ _ z1) fun m => ?_
      rcases List.mem_cons.mp m with m | m
      · rw [m, hn0] at z1
        cases z1
      · exact z2 m
    refine ⟨pp :: (O ++ A1), cleanE p.2, ⟨fun a m => ?_, c1.len, fun i d z => ?_⟩, ?_⟩
    · rcases List.mem_cons.mp m with m | m
      · rw [m]; exact ⟨_, hpp⟩
      · exact (c1.al.mono e2) a m
    · obtain ⟨v, a, b⟩ := c1.at_ i d z
      exact ⟨v, a, dp_mono up _ _ b⟩
    cases q2 : evEs F es2 (cleanE p.2) with
    | stuck => rw [q2] at hp1; exact hp1.elim
    | exc c d => rw [q2] at hp1; exact hp1.elim
    | ok d2 =>
      rw [q2] at hp1
      intro ws H3 e3 rw3
      have hp1 : PostG (Dq X.K) X.K G O H0 (cut H (O ++ A)) ad σ Q ((noX (F f (p.1 ++ .list ps :: d2))).bind (dropR p.2)) := hp1
      have e13 : Same H1 H3 := e2.trans e3
      refine imp _ H3 Q E ⟨O ++ A1, pp, us, ps, vs, ws, p.1, d2, c1.al.mono e13, fun m => ?_, e3 _ _ hpp, dps_mono (cut_same e3) _ _ ru, rfl, ?_, ?_, dps_mono (up.trans (cut_same e3)) _ _ r1, rw3, ?_⟩
      · obtain ⟨o, z⟩ := c1.al pp m
        rw [hn0] at z
        cases z
      · rw [dps_len r1, evPs_len es env p hp0, hk]
      · rw [List.length_append, List.length_cons, dps_len r1, dps_len rw3, evPs_len es env p hp0, evEs_len es2 _ d2 q2]
        omega
      · cases hf : F f (p.1 ++ .list ps :: d2) with
        | stuck => rw [hf] at hp1; exact hp1.elim
        | exc c d => rw [hf] at hp1; exact hp1.elim
        | ok d =>
          rw [hf] at hp1
          have hp1 : PostG (Dq X.K) X.K G O H0 (cut H (O ++ A)) ad σ Q (dropR p.2 d) := hp1
          unfold dropR at hp1
          split at hp1
          · rename_i d' ps' _z
            refine ⟨d', ps', rfl, fun v H' ws' e hw rw' rv => ?_⟩
            have e1' : Same H1 H' := fun a o z => e _ _ (cut_of (e13 _ _ z) fun m => by
              rw [List.mem_singleton] at m
              rw [m, hn0] at z
              cases z)
            exact hp1 v H' A1 (s1.up e1') (dp_mono (cut_sub fun a m => List.mem_cons_of_mem _ m) _ _ rv)
          · exact hp1.elim
theorem rdP_pcallL {F : Nat → List D → R D} {G : Gs} {X : Cx} {σ : L2.St} {H : Hp} {Q : VK} {f n k : Nat} {es : EPs} {ls es2 : Es} {sp : Sp} {dvs : List V} {W : WX} {E : XK} (hk : es.len = k) (hn : es.len + es2.len + 1 = n) (imp : ∀ vs H Q E, spP X.K n k (F f) vs H Q E → sp (vs ++ dvs) H Q E) (h : rdP X.K F G (.pcallL f es ls es2) σ H Q) :
    rdPs X.K F G es σ H fun vs H1 => rdN X.K F G W (.lst ls) σ H1 fun x H2 => rds X.K F G W es2 σ H2 fun ws H3 => sp ((vs ++ x :: ws) ++ dvs) H3 Q E := by
  obtain ⟨O, H0, A, ad, env, s, hp⟩ := h
  rw [evP] at hp
  refine ⟨O, H0, A, ad, env, s, (PostG.bind (rep := DqAll X.K) hp).imp fun vs H1 ⟨p, A1, hp0, s1, r1, hp1⟩ => ?_⟩
  refine ⟨O ++ A1, cleanE p.2, s1.clean, ?_⟩
  rw [evE]
  cases q1 : evEs F ls (cleanE p.2) with
  | stuck => rw [q1] at hp1; exact hp1.elim
  | exc c d => rw [q1] at hp1; exact hp1.elim
  | ok ps =>
    rw [q1] at hp1
    have hp1 : PostG (Dq X.K) X.K G O H0 (cut H (O ++ A)) ad σ Q ((noX (evEs F es2 (cleanE p.2))).bind fun d2 => (noX (F f (p.1 ++ .list ps :: d2))).bind (dropR p.2)) := hp1
    show ∀ v H', Same H1 H' → dpn X.K (O ++ A1) H1 H' v (.list ps) → _
    rintro x H2 e2 ⟨pp, us, ds, rfl, he, hn0, hpp, ru⟩
    cases he
    have c1 := s1.clean
    have up : Same (cut H1 (O ++ A1)) (cut H2 (pp :: (O ++ A1))) := fun a o z => by
      obtain ⟨z1, z2⟩ := cut_some z
      refine cut_of (e2 _ _ z1) fun m => ?_
      rcases List.mem_cons.mp m with m | m
      · rw [m, hn0] at z1
        cases z1
      · exact z2 m
    refine ⟨pp :: (O ++ A1), cleanE p.2, ⟨fun a m => ?_, c1.len, fun i d z => ?_⟩, ?_⟩
    · rcases List.mem_cons.mp m with m | m
      · rw [m]; exact ⟨_, hpp⟩
      · exact (c1.al.mono e2) a m
    · obtain ⟨v, a, b⟩ := c1.at_ i d z
      exact ⟨v, a, dp_mono up _ _ b⟩
    cases q2 : evEs F es2 (cleanE p.2) with
    | stuck => rw [q2] at hp1; exact hp1.elim
    | exc c d => rw [q2] at hp1; exact hp1.elim
    | ok d2 =>
      rw [q2] at hp1
      intro ws H3 e3 rw3
      have hp1 : PostG (Dq X.K) X.K G O H0 (cut H (O ++ A)) ad σ Q ((noX (F f (p.1 ++ .list ps :: d2))).bind (dropR p.2)) := hp1
      have e13 : Same H1 H3 := e2.trans e3
      refine imp _ H3 Q E ⟨O ++ A1, pp, us, ps, vs, ws, p.1, d2, c1.al.mono e13, fun m => ?_, e3 _ _ hpp, dps_mono (cut_same e3) _ _ ru, rfl, ?_, ?_, dps_mono (up.trans (cut_same e3)) _ _ r1, rw3, ?_⟩
      · obtain ⟨o, z⟩ := c1.al pp m
        rw [hn0] at z
        cases z
      · rw [dps_len r1, evPs_len es env p hp0, hk]
      · rw [List.length_append, List.length_cons, dps_len r1, dps_len rw3, evPs_len es env p hp0, evEs_len es2 _ d2 q2]
        omega
      · cases hf : F f (p.1 ++ .list ps :: d2) with
        | stuck => rw [hf] at hp1; exact hp1.elim
        | exc c d => rw [hf] at hp1; exact hp1.elim
        | ok d =>
          rw [hf] at hp1
          have hp1 : PostG (Dq X.K) X.K G O H0 (cut H (O ++ A)) ad σ Q (dropR p.2 d) := hp1
          unfold dropR at hp1
          split at hp1
          · rename_i d' ps' _z
            refine ⟨d', ps', rfl, fun v H' ws' e hw rw' rv => ?_⟩
            have e1' : Same H1 H' := fun a o z => e _ _ (cut_of (e13 _ _ z) fun m => by
              rw [List.mem_singleton] at m
              rw [m, hn0] at z
              cases z)
            exact hp1 v H' A1 (s1.up e1') (dp_mono (cut_sub fun a m => List.mem_cons_of_mem _ m) _ _ rv)
          · exact hp1.elim
theorem seeE_len : ∀ (env : SE) (i : Nat), (seeE env i).length = env.length
  | [], _ => rfl
  | _ :: env, 0 => by rw [seeE, List.length_cons, List.length_cons]; exact congrArg Nat.succ (List.length_map ..)
  | _ :: env, i + 1 => by rw [seeE, List.length_cons, List.length_cons, seeE_len env i]
theorem seeE_get : ∀ (env : SE) (i j : Nat) {d : D}, (seeE env i)[j]? = some (some d) → j ≠ i ∧ (fullE env)[j]? = some (some d)
  | [], _, _, _, h => by cases h
  | s :: env, 0, 0, _, h => by cases h
  | s :: env, 0, j + 1, _, h => ⟨by omega, h⟩
  | s :: env, i + 1, 0, _, h => ⟨by omega, h⟩
  | s :: env, i + 1, j + 1, d, h => by
    have h : (seeE env i)[j]? = some (some d) := h
    obtain ⟨a, b⟩ := seeE_get env i j h
    exact ⟨by omega, b⟩
theorem SR.see {K : PySem.W.Frag} {G : Gs} {O : List Addr} {H0 B : Hp} {A : List Addr} {ad : Nat → Addr} {σ : L2.St} {H : Hp} {env : SE} (s : SR K G O H0 B A ad σ H env) {i : Nat} {ps : List D} (q : env[i]? = some (.ow ps)) : EnvOk K (ad i :: O) σ H (seeE env i) := by
  obtain ⟨ha, _, us, hu, _⟩ := s.ow i ps q
  have sub : Same (cut H (O ++ A)) (cut H (ad i :: O)) := cut_sub fun a m => by
    rcases List.mem_cons.mp m with m | m
    · rw [m]; exact List.mem_append_right _ ha
    · exact List.mem_append_left _ m
  refine ⟨fun a m => ?_, by rw [s.len, seeE_len], fun j d z => ?_⟩
  · rcases List.mem_cons.mp m with m | m
    · rw [m]; exact ⟨_, hu⟩
    · exact s.alO a m
  · obtain ⟨hj, z⟩ := seeE_get env i j z
    rcases full_get z with h | ⟨ds, h, rfl⟩
    · obtain ⟨v, a, b⟩ := s.fr j d h
      exact ⟨v, a, dp_mono sub _ _ b⟩
    · obtain ⟨a, b, vs, c, d⟩ := s.ow j ds h
      refine ⟨_, b, .lst (.inl (.inl (cut_of c fun m => ?_))) (dps_mono sub _ _ d)⟩
      rcases List.mem_cons.mp m with m | m
      · exact hj (s.inj j i ds ps h q m)
      · exact s.apart a m
theorem rdP_pcallO {F : Nat → List D → R D} {G : Gs} {X : Cx} {σ : L2.St} {H : Hp} {Q : VK} {f i n : Nat} {gs : Es} {sp : Sp} {dvs : List V} {W : WX} {E : XK} (hn : gs.len + 1 = n) (imp : ∀ vs H Q E, spP X.K n 0 (F f) vs H Q E → sp (vs ++ dvs) H Q E) (h : rdP X.K F G (.pcallO f i gs) σ H Q) :
    ∃ v, σ[i]? = some (some v) ∧ rds X.K F G W gs σ H fun ws H3 => sp ((v :: ws) ++ dvs) H3 Q E := by
  obtain ⟨O, H0, A, ad, env, s, hp⟩ := h
  rw [evP] at hp
  by_cases ho : (ownAt env i).isSome = true
  case neg =>
    rw [if_neg ho] at hp
    exact hp.elim
  rw [if_pos ho] at hp
  obtain ⟨ps, hd⟩ := Option.isSome_iff_exists.mp ho
  have own : env[i]? = some (.ow ps) := by
    unfold ownAt at hd
    split at hd
    · rename_i q
      cases hd
      exact q
    · cases hd
  obtain ⟨ha, hσ, _⟩ := s.ow i ps own
  refine ⟨_, hσ, ad i :: O, seeE env i, s.see own, ?_⟩
  cases q2 : evEs F gs (seeE env i) with
  | stuck => rw [q2] at hp; exact hp.elim
  | exc c d => rw [q2] at hp; exact hp.elim
  | ok d2 =>
    rw [q2] at hp
    intro ws H3 e3 rw3
    have hp : PostG (Dq X.K) X.K G O H0 (cut H (O ++ A)) ad σ Q (poolO (F f) env i d2 (ownAt env i)) := hp
    rw [hd] at hp
    have hp : PostG (Dq X.K) X.K G O H0 (cut H (O ++ A)) ad σ Q ((noX (F f (.list ps :: d2))).bind (poolL env i)) := hp
    have s3 := s.up e3
    obtain ⟨_, _, us, hu, ru⟩ := s3.ow i ps own
    have sub : ∀ a ∈ ad i :: O, a ∈ O ++ A := fun a m => by
      rcases List.mem_cons.mp m with m | m
      · rw [m]; exact List.mem_append_right _ ha
      · exact List.mem_append_left _ m
    refine imp _ H3 Q E ⟨O, ad i, us, ps, [], ws, [], d2, s3.alO, s3.apart ha, hu, dps_mono (cut_sub sub) _ _ ru, rfl, rfl, ?_, .nil, rw3, ?_⟩
    · rw [List.length_cons, dps_len rw3, evEs_len gs _ d2 q2]
      exact hn
    · cases hf : F f (.list ps :: d2) with
      | stuck => rw [hf] at hp; exact hp.elim
      | exc c d => rw [hf] at hp; exact hp.elim
      | ok d =>
        rw [hf] at hp
        have hp : PostG (Dq X.K) X.K G O H0 (cut H (O ++ A)) ad σ Q (poolL env i d) := hp
        unfold poolL at hp
        split at hp
        · rename_i d' ps' _z
          by_cases lf : (lfree d' && lfrees ps') = true
          case neg =>
            rw [if_neg lf] at hp
            exact hp.elim
          rw [if_pos lf] at hp
          obtain ⟨l1, l2⟩ := (Bool.and_eq_true_iff).mp lf
          refine ⟨d', ps', hf, fun v H' ws' e hw rw' rv => ?_⟩
          have hh : ∀ p ∈ O ++ A, p ∈ ad i :: O ∨ ∃ vs, H' p = some (.lst vs) := fun p hp => by
            rcases List.mem_append.mp hp with h | h
            · exact .inl (List.mem_cons_of_mem _ h)
            · by_cases z : p = ad i
              · exact .inl (by rw [z]; exact List.mem_cons_self)
              · obtain ⟨_, vs, hv⟩ := s3.alA p h
                exact .inr ⟨vs, e _ _ (cut_of hv (by simpa using z))⟩
          exact hp v H' A (s3.pool own e hw (lfrees_hide hh _ _ l2 rw')) (lfree_hide hh _ _ l1 rv)
        · exact hp.elim
/-! walks that draw -/
def PostI (K : PySem.W.Frag) (G : Gs) (O : List Addr) (H0 B : Hp) (ad : Nat → Addr) (σ : L2.St) (Z : It → Hp → Prop) : R (List D × SE) → Prop
  | .ok p => ∀ J H' A', SR K G O H0 B A' ad σ H' p.2 → WalkD K (O ++ A') H' J p.1 → Z J H'
  | _ => False
def evIP (F : Nat → List D → R D) (w : Wk) (ws : EPs) (env : SE) : R (List D × SE) := (evPs F ws env).bind fun p => (noX (iters w p.1)).bind fun items => .ok (items, p.2)
def rdIP (K : PySem.W.Frag) (F : Nat → List D → R D) (G : Gs) (w : Wk) (ws : EPs) : TI := fun σ H R => ∃ O H0 A ad env, SR K G O H0 (cut H (O ++ A)) A ad σ H env ∧ PostI K G O H0 (cut H (O ++ A)) ad σ R (evIP F w ws env)
theorem PostI.bind {α β : Type} {rep : Hp → β → α → Prop} {K : PySem.W.Frag} {G : Gs} {O : List Addr} {H0 B : Hp} {ad : Nat → Addr} {σ : L2.St} {R' : It → Hp → Prop} {r : R (α × SE)} {f : α × SE → R (List D × SE)} (h : PostI K G O H0 B ad σ R' (r.bind f)) :
    PostG rep K G O H0 B ad σ (fun v H1 => ∃ p A, r = .ok p ∧ SR K G O H0 B A ad σ H1 p.2 ∧ rep (cut H1 (O ++ A)) v p.1 ∧ PostI K G O H0 B ad σ R' (f p)) r := by
  cases r with
  | stuck => exact h
  | exc c p => exact h
  | ok p => exact fun v H A s r => ⟨p, A, rfl, s, r, h⟩
theorem iteI {K : PySem.W.Frag} {G : Gs} {O : List Addr} {H0 B : Hp} {ad : Nat → Addr} {σ : L2.St} {Z : It → Hp → Prop} {c : Prop} [Decidable c] {d : List D} {e : SE} (h : PostI K G O H0 B ad σ Z ((noX (if c then R.ok d else .stuck)).bind fun items => .ok (items, e))) : c ∧ PostI K G O H0 B ad σ Z (.ok (d, e)) := by
  by_cases hc : c
  · rw [if_pos hc] at h
    exact ⟨hc, h⟩
  · rw [if_neg hc] at h
    exact h.elim
theorem snd_itP {F : Nat → List D → R D} {G : Gs} {W : WX} {X : Cx} {C : Ct} {tg e : Expr} {ws : EPs} (g : Gd C F G W X) {w : Wk} {args : List Expr} (h : itArgs C w tg e = some args) (ss : AllP F G X ws args) : PI X tg e (rdIP X.K F G w ws) := by
  have pa := ss.pa
  have ok := ss.ok
  cases w with
  | seq =>
    cases h
    cases ss with
    | cons h1 h2 h3 =>
      cases h3
      rename_i m
      refine pi_imp (pi_or (pi_list h2) (pi_or (pi_tup h2) (pi_str h2))) fun σ H Z ⟨O, H0, A, ad, env, s, hp⟩ => ?_
      unfold evIP at hp
      rw [evPs, R.bind_assoc] at hp
      cases r : evP F m env with
      | stuck => rw [r] at hp; exact hp.elim
      | exc c p => rw [r] at hp; exact hp.elim
      | ok p =>
        rw [r] at hp
        obtain ⟨d, e2⟩ := p
        simp only [R.bind_ok, evPs] at hp
        cases d <;> first | exact hp.elim | skip
        · refine .inr (.inr ⟨O, H0, A, ad, env, s, ?_⟩)
          rw [r]
          intro v H' A' s' q
          cases (show Dq X.K (cut H' (O ++ A')) v (PyData.str _) from q)
          exact ⟨_, rfl, hp _ _ A' s' wd_str⟩
        · refine .inl ⟨O, H0, A, ad, env, s, ?_⟩
          rw [r]
          intro v H' A' s' q
          obtain ⟨a, xs, rfl, h1, h2⟩ := inv_l q
          exact ⟨a, rfl, ⟨xs, sqL_mono cut_le h1⟩, hp _ _ A' s' (wd_list h1 h2)⟩
        · refine .inr (.inl ⟨O, H0, A, ad, env, s, ?_⟩)
          rw [r]
          intro v H' A' s' q
          obtain ⟨a, xs, rfl, h1, h2⟩ := inv_t q
          exact ⟨a, rfl, ⟨xs, sqT_mono cut_le h1⟩, hp _ _ A' s' (wd_tup h1 h2)⟩
  | rng1 =>
    dsimp only [itArgs] at h
    split at h <;> first | cases h | skip
    split at h <;> first | cases h | skip
    rename_i hc
    obtain ⟨rfl, hg, hb⟩ := hc
    rw [List.all_cons, Bool.and_eq_true] at ok
    refine pi_imp (pi_range1 (gl_of g hg) (g.bls _ hb) pa (by rw [star_of ok.1]; rfl)) fun σ H Z ⟨O, H0, A, ad, env, s, hp⟩ => ?_
    refine ⟨O, H0, A, ad, env, s, (PostI.bind (rep := DqAll X.K) hp).imp fun vs H1 ⟨p, A1, hq, s1, q, hp⟩ => ?_⟩
    clear hq
    obtain ⟨ds, e2⟩ := p
    have hp : PostI X.K G O H0 (cut H (O ++ A)) ad σ Z ((noX (itRng1 ds)).bind fun items => .ok (items, e2)) := hp
    unfold itRng1 at hp
    split at hp <;> first | exact hp.elim | skip
    cases q with
    | cons q1 q2 =>
      cases q2
      obtain ⟨hc, hp⟩ := iteI hp
      rw [inv_i q1]
      exact ⟨_, rfl, by omega, by omega, hp _ _ A1 s1 wd_range.toD⟩
  | rng2 =>
    dsimp only [itArgs] at h
    split at h <;> first | cases h | skip
    split at h <;> first | cases h | skip
    rename_i hc
    obtain ⟨rfl, hg, hb⟩ := hc
    rw [List.all_cons, Bool.and_eq_true, List.all_cons, Bool.and_eq_true] at ok
    refine pi_imp (pi_range2 (gl_of g hg) (g.bls _ hb) pa (by rw [star_of ok.1, star_of ok.2.1]; rfl) (by rw [star_of ok.2.1]; rfl)) fun σ H Z ⟨O, H0, A, ad, env, s, hp⟩ => ?_
    refine ⟨O, H0, A, ad, env, s, (PostI.bind (rep := DqAll X.K) hp).imp fun vs H1 ⟨p, A1, hq, s1, q, hp⟩ => ?_⟩
    clear hq
    obtain ⟨ds, e2⟩ := p
    have hp : PostI X.K G O H0 (cut H (O ++ A)) ad σ Z ((noX (itRng2 ds)).bind fun items => .ok (items, e2)) := hp
    unfold itRng2 at hp
    split at hp <;> first | exact hp.elim | skip
    cases q with
    | cons q1 q2 =>
      cases q2 with
      | cons q2 q3 =>
        cases q3
        obtain ⟨hc, hp⟩ := iteI hp
        rw [inv_i q1, inv_i q2]
        exact ⟨_, _, rfl, ⟨by omega, by omega, by omega, by omega⟩, hp _ _ A1 s1 wd_range.toD⟩
  | rng3 =>
    dsimp only [itArgs] at h
    split at h <;> first | cases h | skip
    split at h <;> first | cases h | skip
    rename_i hc
    obtain ⟨rfl, hg, hb⟩ := hc
    rw [List.all_cons, Bool.and_eq_true, List.all_cons, Bool.and_eq_true, List.all_cons, Bool.and_eq_true] at ok
    refine pi_imp (pi_range3 (gl_of g hg) (g.bls _ hb) pa (by rw [star_of ok.1, star_of ok.2.1, star_of ok.2.2.1] <;> rfl) (by rw [star_of ok.2.1, star_of ok.2.2.1] <;> rfl)) fun σ H Z ⟨O, H0, A, ad, env, s, hp⟩ => ?_
    refine ⟨O, H0, A, ad, env, s, (PostI.bind (rep := DqAll X.K) hp).imp fun vs H1 ⟨p, A1, hq, s1, q, hp⟩ => ?_⟩
    clear hq
    obtain ⟨ds, e2⟩ := p
    have hp : PostI X.K G O H0 (cut H (O ++ A)) ad σ Z ((noX (itRng3 ds)).bind fun items => .ok (items, e2)) := hp
    unfold itRng3 at hp
    split at hp <;> first | exact hp.elim | skip
    cases q with
    | cons q1 q2 =>
      cases q2 with
      | cons q2 q3 =>
        cases q3 with
        | cons q3 q4 =>
          cases q4
          obtain ⟨hc, hp⟩ := iteI hp
          rw [inv_i q1, inv_i q2, inv_i q3]
          exact ⟨_, _, _, _, rfl, rgc_of hc, hp _ _ A1 s1 wd_rangeC.toD⟩
  | enum =>
    dsimp only [itArgs] at h
    split at h <;> first | cases h | skip
    split at h <;> first | cases h | skip
    rename_i hc
    obtain ⟨rfl, hg, hb⟩ := hc
    rw [List.all_cons, Bool.and_eq_true] at ok
    refine pi_imp (pi_enumB (gl_of g hg) (g.bls _ hb) pa (by rw [star_of ok.1]; rfl)) fun σ H Z ⟨O, H0, A, ad, env, s, hp⟩ => ?_
    refine ⟨O, H0, A, ad, env, s, (PostI.bind (rep := DqAll X.K) hp).imp fun vs H1 ⟨p, A1, hq, s1, q, hp⟩ => ?_⟩
    clear hq
    obtain ⟨ds, e2⟩ := p
    have hp : PostI X.K G O H0 (cut H (O ++ A)) ad σ Z ((noX (itEnum ds)).bind fun items => .ok (items, e2)) := hp
    unfold itEnum at hp
    split at hp <;> first | exact hp.elim | skip
    · cases q with
      | cons q1 q2 =>
        cases q2
        obtain ⟨a, xs, rfl, h1, h2⟩ := inv_l q1
        exact ⟨a, rfl, .inl ⟨xs, sqL_mono cut_le h1, hp _ _ A1 s1 (wd_enum h1 h2)⟩⟩
    · cases q with
      | cons q1 q2 =>
        cases q2
        obtain ⟨a, xs, rfl, h1, h2⟩ := inv_t q1
        exact ⟨a, rfl, .inr ⟨xs, sqT_mono cut_le h1, hp _ _ A1 s1 (wd_enumT h1 h2)⟩⟩
  | zip =>
    dsimp only [itArgs] at h
    split at h <;> first | cases h | skip
    split at h <;> first | cases h | skip
    rename_i hc
    obtain ⟨rfl, hg, hb⟩ := hc
    rw [List.all_cons, Bool.and_eq_true, List.all_cons, Bool.and_eq_true] at ok
    refine pi_imp (RZ.pi_zipA (gl_of g hg) (g.bls _ hb) pa (by rw [star_of ok.1]) (plain_of (by rw [List.all_cons, ok.2.1]; rfl))) fun σ H Z ⟨O, H0, A, ad, env, s, hp⟩ => ?_
    refine ⟨O, H0, A, ad, env, s, (PostI.bind (rep := DqAll X.K) hp).imp fun vs H1 ⟨p, A1, hq, s1, q, hp⟩ => ?_⟩
    clear hq
    obtain ⟨ds, e2⟩ := p
    have hp : PostI X.K G O H0 (cut H (O ++ A)) ad σ Z ((noX (itZip ds)).bind fun items => .ok (items, e2)) := hp
    unfold itZip at hp
    split at hp <;> first | exact hp.elim | skip
    · cases q with
      | cons q1 q2 =>
        cases q2 with
        | cons q2 q3 =>
          cases q3
          obtain ⟨a, xs, rfl, h1, h2⟩ := inv_l q1
          obtain ⟨b, ys, rfl, h3, h4⟩ := inv_l q2
          exact ⟨a, b, xs, ys, rfl, .inl ⟨sqL_mono cut_le h1, sqL_mono cut_le h3, hp _ _ A1 s1 (wd_zip h1 h2 h3 h4)⟩⟩
    · cases q with
      | cons q1 q2 =>
        cases q2 with
        | cons q2 q3 =>
          cases q3
          obtain ⟨a, xs, rfl, h1, h2⟩ := inv_t q1
          obtain ⟨b, ys, rfl, h3, h4⟩ := inv_t q2
          exact ⟨a, b, xs, ys, rfl, .inr ⟨sqT_mono cut_le h1, sqT_mono cut_le h3, hp _ _ A1 s1 (wd_zipT h1 h2 h3 h4)⟩⟩
  | rev => cases h
theorem lcwP_run {F : Nat → List D → R D} {G : Gs} {X : Cx} {w : Wk} {ws : EPs} {tg : Tg} {m : EP} {own : List (Str × Nat)} (ti : tgIn (own.map (·.2)) tg) {σ : L2.St} {H : Hp} {Q : VK} (h : rdP X.K F G (.lcw w ws tg m own) σ H Q) :
    tLc (rdIP X.K F G w ws) (gOf X.K tg) (rdTs X.K F G (fun _ _ _ _ => False) .nil) (rdP X.K F G m) (own.map (·.2)) σ H Q := by
  obtain ⟨O, H0, A, ad, env, s, hp⟩ := h
  rw [evP] at hp
  refine ⟨O, H0, A, ad, env, s, ?_⟩
  unfold evIP
  cases q : ((evPs F ws env).bind fun p => (noX (iters w p.1)).bind fun items => .ok (items, p.2)) with
  | stuck => rw [q] at hp; exact hp.elim
  | exc c p => rw [q] at hp; exact hp.elim
  | ok p =>
    rw [q] at hp
    have hp : PostG (Dq X.K) X.K G O H0 (cut H (O ++ A)) ad σ Q (if p.1.length ≤ 1000000 then (compP (turnP tg (own.map (·.2)) fun e2 => evP F m e2) p.1 (wipeS p.2 (own.map (·.2)))).bind fun q => .ok (.list q.1, q.2) else .stuck) := hp
    by_cases hsz : p.1.length ≤ 1000000
    case neg =>
      rw [if_neg hsz] at hp
      exact hp.elim
    rw [if_pos hsz] at hp
    intro J H1 A1 s1 wd D0 hD
    exact lc_turns ti s1 wd hsz hD hp
theorem rdPs_imp {K : PySem.W.Frag} {F : Nat → List D → R D} {G : Gs} {σ : L2.St} {H : Hp} {es : EPs} {Q Q' : List V → Hp → Prop} (h : rdPs K F G es σ H Q) (i : ∀ xs H', xs.length = es.len → Q xs H' → Q' xs H') : rdPs K F G es σ H Q' := by
  obtain ⟨O, H0, A, ad, env, s, hp⟩ := h
  refine ⟨O, H0, A, ad, env, s, ?_⟩
  cases q : evPs F es env with
  | stuck => rw [q] at hp; exact hp
  | exc c p => rw [q] at hp; exact hp
  | ok p =>
    rw [q] at hp
    exact fun v H A s r => i v H (by rw [dps_len r, evPs_len es env p q]) (hp v H A s r)
theorem few_of {e : Expr} {pos : Pos} {env : PySem.Env} (h : okE e = true) : ((backTo pos (starEach [e] env)).all (fun x => !x.1) && (backToKw pos (keywordEach [] env)).all (fun x => x.1.isSome)
      && decide ([e].length + ([] : List Keyword).length + (if ([] : List Keyword).isEmpty then 0 else 1) < 30)) = true := by
  rw [star_of h]
  rfl
/-! ### the check, soundness -/
mutual
def chkP (C : Ct) : EP → Expr → Bool
  | .pu m, e => chkE C m e
  | .op o a b, e => (match e with
    | .BinOp a' o' b' _ => decide (o' = o.py) && (chkP C a a' && chkP C b b')
    | _ => false)
  | .cmp o a b, e => (match e with
    | .Compare a' [o'] [b'] _ => decide (o' = o.py) && (chkP C a a' && chkP C b b')
    | _ => false)
  | .ix a i, e => (match e with
    | .Subscript a' i' _ => chkP C a a' && chkP C i i'
    | _ => false)
  | .tup es, e => (match e with
    | .Tuple es' _ _ => chkPs C es es' && decide (es'.length ≤ 1000)
    | _ => false)
  | .call f es, e => (match e with
    | .Call (.Name x _) as [] _ => (decide (C.fns[f]? = some (x, as.length)) || decide ((f, x, as.length) ∈ C.sfns)) && (isGl C.sc x && (notDbg x && chkPs C es as))
    | _ => false)
  | .pcall f i es es2, e => (match e with
    | .Call (.Name x _) as [] _ => decide ((f, x, as.length, es.len) ∈ C.pfns) && (isGl C.sc x && (notDbg x && (chkPs C es (as.take es.len) && (match as.drop es.len with
      | (.Name y _) :: as2 => decide (C.N[i]? = some y) && (isVis C.sc y && (notDbg y && (notCls y && chkPs C es2 as2)))
      | _ => false))))
    | _ => false)
  | .not a, e => (match e with
    | .UnaryOp .Not a' _ => chkP C a a'
    | _ => false)
  | .bi b es, e => (match e with
    | .Call (.Name x _) (a :: as) [] _ => decide (x = b.name) && (C.cm && (isGl C.sc x && (decide (x ∈ C.bls) && chkPs C es (a :: as))))
    | _ => false)
  | .lst es, e => (match e with
    | .List es' _ => chkPs C es es' && decide (es'.length ≤ 1000)
    | _ => false)
  | .lc w ws tg m own, e => (match e with
    | .ListComp elt' [⟨tg', iter, [], 0⟩] scope _ => C.cm && (blkC C.N C.sc scope own && (okE iter && (tgInB (own.map (·.2)) tg && (chkG (blkCt C scope) (fnbOf scope) tg tg' && ((match itArgs C w tg' iter with
        | some as => chkEs C ws as
        | none => false) && chkP (blkCt C scope) m elt')))))
    | _ => false)
  | .lcw w ws tg m own, e => (match e with
    | .ListComp elt' [⟨tg', iter, [], 0⟩] scope _ => C.cm && (blkC C.N C.sc scope own && (okE iter && (tgInB (own.map (·.2)) tg && (chkG (blkCt C scope) (fnbOf scope) tg tg' && ((match itArgs C w tg' iter with
        | some as => chkPs C ws as
        | none => false) && chkP (blkCt C scope) m elt')))))
    | _ => false)
  | .neg a, e => (match e with
    | .UnaryOp .USub a' _ => chkP C a a'
    | _ => false)
  | .and a b, e => (match e with
    | .BoolOp .And (a' :: b' :: r) p => chkP C a a' && chkP C b (.BoolOp .And (b' :: r) p)
    | _ => false)
  | .or a b, e => (match e with
    | .BoolOp .Or (a' :: b' :: r) p => chkP C a a' && chkP C b (.BoolOp .Or (b' :: r) p)
    | _ => false)
  | .one a, e => (match e with
    | .BoolOp _ [a'] _ => chkP C a a'
    | _ => false)
  | .sl a lo hi, e => (match e with
    | .Subscript a' (.Slice l h none _) _ => chkP C a a' && (chkPs C lo l.toList && chkPs C hi h.toList)
    | _ => false)
  | .pcallN f es g gs es2, e => (match e with
    | .Call (.Name x _) as [] _ => decide ((f, x, as.length, es.len) ∈ C.pfns) && (isGl C.sc x && (notDbg x && (chkPs C es (as.take es.len) && (match as.drop es.len with
      | (.Call (.Name y _) bs [] _) :: as2 => decide ((g, y, bs.length) ∈ C.ffns) && (isGl C.sc y && (notDbg y && (chkEs C gs bs && chkEs C es2 as2)))
      | _ => false))))
    | _ => false)
  | .pcallL f es ls es2, e => (match e with
    | .Call (.Name x _) as [] _ => decide ((f, x, as.length, es.len) ∈ C.pfns) && (isGl C.sc x && (notDbg x && (chkPs C es (as.take es.len) && (match as.drop es.len with
      | (.List bs _) :: as2 => chkEs C ls bs && (decide (bs.length ≤ 1000) && chkEs C es2 as2)
      | _ => false))))
    | _ => false)
  | .pcallO f i gs, e => (match e with
    | .Call (.Name x _) (.Name y _ :: as2) [] _ => decide ((f, x, as2.length + 1, 0) ∈ C.pfns) && (isGl C.sc x && (notDbg x && (decide (C.N[i]? = some y) && (isVis C.sc y && (notDbg y && (notCls y && chkEs C gs as2))))))
    | _ => false)
  | .popI i es, e => (match e with
    | .Call (.Attribute (.Name y _) m apos) as [] cpos => decide (m = "pop") && (decide (as.length ≤ 1) && (decide (C.N[i]? = some y) && (isVis C.sc y && (notDbg y && (notCls y && ((apos.endLine == cpos.line) && chkPs C es as))))))
    | _ => false)
def chkPs (C : Ct) : EPs → List Expr → Bool
  | .nil, es => es.isEmpty
  | .cons m ms, es => (match es with
    | e :: es => chkP C m e && chkPs C ms es
    | [] => false)
end
section
variable {F : Nat → List D → R D} {G : Gs}
mutual
theorem sndP : ∀ (m : EP) {C : Ct} {W : WX} {X : Cx} {e : Expr}, Gd C F G W X → chkP C m e = true → okE e = true ∧ PE X e (rdP X.K F G m)
  | .pu m, C, W, X, e, g, h => by
    rw [chkP.eq_def] at h
    dsimp only at h
    have sm := snd m g h
    refine ⟨sm.ok, pe_imp sm.pe fun σ H Q ⟨O, H0, A, ad, env, s, hp⟩ => ?_⟩
    rw [evP] at hp
    exact valP s hp
  | .op o a b, C, W, X, e, g, h => by
    rw [chkP.eq_def] at h
    dsimp only at h
    split at h <;> first | cases h | skip
    obtain ⟨h1, h⟩ := ba2 h
    obtain ⟨h2, h3⟩ := ba2 h
    have e1 := of_decide_eq_true h1
    subst e1
    exact ⟨rfl, pe_imp (pe_op (r := rBop X.K o) (op_bop o) (sndP a g h2).2 (sndP b g h3).2) fun σ H Q hq => rdP_op2 (ops_bop o) (fun env => by rw [evP]) hq⟩
  | .cmp o a b, C, W, X, e, g, h => by
    rw [chkP.eq_def] at h
    dsimp only at h
    split at h <;> first | cases h | skip
    obtain ⟨h1, h⟩ := ba2 h
    obtain ⟨h2, h3⟩ := ba2 h
    have e1 := of_decide_eq_true h1
    subst e1
    have sb := sndP b g h3
    exact ⟨rfl, pe_imp (pe_cmpR (op_cop g.hu o) (sndP a g h2).2 sb.2 (mark_of sb.1)) fun σ H Q hq => rdP_op2 (ops_cop o) (fun env => by rw [evP]) hq⟩
  | .ix a i, C, W, X, e, g, h => by
    rw [chkP.eq_def] at h
    dsimp only at h
    split at h <;> first | cases h | skip
    obtain ⟨h1, h2⟩ := ba2 h
    have si := sndP i g h2
    exact ⟨rfl, pe_imp (pe_ix (ix_list.or (ix_tup.or ix_str)) (sndP a g h1).2 si.2 (ix_of si.1)) fun σ H Q hq => rdP_op2 ops_ix (fun env => by rw [evP]) hq⟩
  | .tup es, C, W, X, e, g, h => by
    rw [chkP.eq_def] at h
    dsimp only at h
    split at h <;> first | cases h | skip
    obtain ⟨h1, h2⟩ := ba2 h
    have ss := sndPs es g h1
    refine ⟨rfl, pe_imp (pe_tup ss.pa) fun σ H Q ⟨O, H0, A, ad, env, s, hp⟩ => ?_⟩
    rw [evP] at hp
    refine ⟨O, H0, A, ad, env, s, (PostG.bind (rep := DqAll X.K) hp).imp fun xs H1 ⟨p, A1, q, s1, r1, hp1⟩ => ⟨?_, fun p hp0 => hp1 _ _ A1 (s1.up (Same.new hp0)) (dq_newT s1.alOA hp0 r1)⟩⟩
    have h3 := of_decide_eq_true h2
    have h4 : (1000 : Nat) ≤ sizeLine := by decide
    rw [dps_len r1, evPs_len es env p q, ← ss.len]
    omega
  | .call f es, C, W, X, e, g, h => by
    rw [chkP.eq_def] at h
    dsimp only at h
    split at h <;> first | cases h | skip
    rename_i x pp as pos
    obtain ⟨h1, h⟩ := ba2 h
    obtain ⟨h2, h⟩ := ba2 h
    obtain ⟨h3, h4⟩ := ba2 h
    have ss := sndPs es g h4
    obtain ⟨k, fa, fd, ps, ds, dvs, sp, FO, hr, hm, hk, hb, hd, imp⟩ := g.fn_ h1
    have fin : ∀ σ H Q, rdP X.K F G (.call f es) σ H Q → rdPs X.K F G es σ H fun vs H1 => sp (vs ++ dvs) H1 Q (WE W σ) := by
      rintro σ H Q ⟨O, H0, A, ad, env, s, hp⟩
      rw [evP] at hp
      refine ⟨O, H0, A, ad, env, s, (PostG.bind (rep := DqAll X.K) hp).imp fun vs H1 ⟨p, A1, q, s1, r1, hp1⟩ => imp vs H1 Q (WE W σ) ⟨O ++ A1, p.1, s1.alOA, by rw [dps_len r1, evPs_len es env p q, ss.len], r1, ?_⟩⟩
      have z : Post (dp X.K (O ++ A1)) G σ H1 (fun _ _ _ _ => False) Q (F f p.1) := PostG.val s1 hp1
      cases w : F f p.1 with
      | stuck => rw [w] at z; exact z
      | ok d => rw [w] at z; exact z
      | exc c p => rw [w] at hp1; exact hp1.elim
    refine ⟨rfl, ?_⟩
    cases as with
    | nil =>
      refine pe_imp (pe_callG0 (E := WE W) FO hr (gl_of g h2) hm hk hb hd (fun σ => tkAt g.tk σ) (notDbg_ok h3)) fun σ H Q hq => ?_
      cases ss
      exact rdPs_nil (fin σ H Q hq)
    | cons a0 as =>
      have ok := ss.ok
      rw [List.all_cons, Bool.and_eq_true] at ok
      exact pe_imp (pe_callG (E := WE W) FO hr (gl_of g h2) hm hk hb hd (fun σ => tkAt g.tk σ) ss.pa (notDbg_ok h3) (star_of ok.1) (plain_of ok.2)) fin
  | .pcall f i es es2, C, W, X, e, g, h => by
    rw [chkP.eq_def] at h
    dsimp only at h
    split at h <;> first | cases h | skip
    rename_i x pp as pos
    obtain ⟨h1, h⟩ := ba2 h
    obtain ⟨h2, h⟩ := ba2 h
    obtain ⟨h3, h⟩ := ba2 h
    obtain ⟨h4, h⟩ := ba2 h
    split at h <;> first | cases h | skip
    rename_i y py as2 hdrop
    obtain ⟨h5, h⟩ := ba2 h
    obtain ⟨h6, h⟩ := ba2 h
    obtain ⟨h7, h⟩ := ba2 h
    obtain ⟨h8, h9⟩ := ba2 h
    have s1 := sndPs es g h4
    have s2 := sndPs es2 g h9
    obtain ⟨k, fa, fd, ps, ds, dvs, sp, FO, hr, hm, hk, hb, hd, imp⟩ := g.pfns f x as.length es.len (of_decide_eq_true h1)
    have has : as = as.take es.len ++ .Name y py :: as2 := by rw [← hdrop, List.take_append_drop]
    have hl : es.len + es2.len + 1 = as.length := by
      have z := congrArg List.length has
      rw [List.length_append, List.length_cons, s1.len, s2.len] at z
      omega
    have hok : as.all okE = true := by
      rw [has, List.all_append, List.all_cons, s1.ok, s2.ok]
      rfl
    have pa := s1.pah (b := .Name y py) rfl (pe_var (i := i) (by rw [g.N]; exact of_decide_eq_true h5) (by rw [g.sc]; exact isVis_ok h6) (notDbg_ok h7) (notCls_ok h8)) s2.pa
    rw [← has] at pa
    refine ⟨rfl, ?_⟩
    clear has hdrop h1 h4
    cases as with
    | nil => simp at hl
    | cons a0 as =>
      rw [List.all_cons, Bool.and_eq_true] at hok
      exact pe_imp (pe_callG (E := WE W) FO hr (gl_of g h2) hm hk hb hd (fun σ => tkAt g.tk σ) pa (notDbg_ok h3) (star_of hok.1) (plain_of hok.2)) fun σ H Q hq => rdP_pcall rfl hl imp hq
  | .not a, C, W, X, e, g, h => by
    rw [chkP.eq_def] at h
    dsimp only at h
    split at h <;> first | cases h | skip
    exact ⟨rfl, pe_imp (pe_not (sndP a g h).2) fun σ H Q hq => rdP_not hq⟩
  | .bi b es, C, W, X, e, g, h => by
    rw [chkP.eq_def] at h
    dsimp only at h
    split at h <;> first | cases h | skip
    rename_i x pp a0 as pos
    obtain ⟨h1, h⟩ := ba2 h
    obtain ⟨hcm, h⟩ := ba2 h
    obtain ⟨h2, h⟩ := ba2 h
    obtain ⟨h3, h4⟩ := ba2 h
    have e1 := of_decide_eq_true h1
    subst e1
    have ss := sndPs es g h4
    have ok := ss.ok
    rw [List.all_cons, Bool.and_eq_true] at ok
    refine ⟨rfl, pe_imp (pe_bi (g.calm hcm) g.hu b (gl_of g h2) (g.bls _ (of_decide_eq_true h3)) ss.pa (star_of ok.1) (plain_of ok.2)) fun σ H Q ⟨O, H0, A, ad, env, s, hp⟩ => ?_⟩
    rw [evP] at hp
    exact ⟨O, H0, A, ad, env, s, (PostG.bind (rep := DqAll X.K) hp).imp fun vs H1 ⟨p, A1, _, s1, r1, hp1⟩ => bi_ok (G := G) (σ := σ) (W := fun _ _ _ _ => False) s1.alOA r1 (PostG.val s1 hp1)⟩
  | .lst es, C, W, X, e, g, h => by
    rw [chkP.eq_def] at h
    dsimp only at h
    split at h <;> first | cases h | skip
    obtain ⟨h1, h2⟩ := ba2 h
    have ss := sndPs es g h1
    refine ⟨rfl, pe_imp (pe_lst ss.pa) fun σ H Q ⟨O, H0, A, ad, env, s, hp⟩ => ?_⟩
    rw [evP] at hp
    refine ⟨O, H0, A, ad, env, s, (PostG.bind (rep := DqAll X.K) hp).imp fun xs H1 ⟨p, A1, q, s1, r1, hp1⟩ => ⟨?_, fun p hp0 => hp1 _ _ A1 (s1.up (Same.new hp0)) (dq_new s1.alOA hp0 r1)⟩⟩
    have h3 := of_decide_eq_true h2
    have h4 : (1000 : Nat) ≤ sizeLine := by decide
    rw [dps_len r1, evPs_len es env p q, ← ss.len]
    omega
  | .lc w ws tg m own, C, W, X, e, g, h => by
    rw [chkP.eq_def] at h
    dsimp only at h
    split at h <;> first | cases h | skip
    rename_i elt' tg' iter scope pos
    obtain ⟨hcm, h⟩ := ba2 h
    obtain ⟨h1, h⟩ := ba2 h
    obtain ⟨h2, h⟩ := ba2 h
    obtain ⟨h3, h⟩ := ba2 h
    obtain ⟨h4, h⟩ := ba2 h
    obtain ⟨h5, h9⟩ := ba2 h
    split at h5 <;> first | cases h5 | skip
    rename_i as hq
    have ss := snds ws g h5
    have sc : ∀ s H Ca cl fp, Snds F G (fun _ _ _ _ => False) (X.blk s H scope (compEnvC scope cl Ca X.env) fp) .nil [] := fun s H Ca cl fp => snds .nil (g.blk s H scope Ca cl fp) (by rw [chkEs.eq_def]; rfl)
    refine ⟨rfl, pe_imp (pe_lc (own := own) (g := gOf X.K tg) (tt := rdTs X.K F G (fun _ _ _ _ => False) .nil) (g.calm hcm) (by rw [g.N]; exact g.nd) (snd_it g hq ss.ok ss.pa (fun a q => let ⟨m, e, s⟩ := ss.one a q; ⟨m, e, s.pe⟩))
      (blkOk_by (by rw [g.N, g.sc]; exact h1)) (fun s H Ca cl fp => pg_chk (g.blk s H scope Ca cl fp) (fun x hx => hx) h4) (fun s H Ca cl fp => pts_of (sc s H Ca cl fp) rfl (Nat.zero_le _)) (fun s H Ca cl fp => (sndP m (g.blk s H scope Ca cl fp) h9).2) (fold_of h2)) fun σ H Q hq => lcP_run (W := W) (tgIn_of h3) hq⟩
  | .lcw w ws tg m own, C, W, X, e, g, h => by
    rw [chkP.eq_def] at h
    dsimp only at h
    split at h <;> first | cases h | skip
    rename_i elt' tg' iter scope pos
    obtain ⟨hcm, h⟩ := ba2 h
    obtain ⟨h1, h⟩ := ba2 h
    obtain ⟨h2, h⟩ := ba2 h
    obtain ⟨h3, h⟩ := ba2 h
    obtain ⟨h4, h⟩ := ba2 h
    obtain ⟨h5, h9⟩ := ba2 h
    split at h5 <;> first | cases h5 | skip
    rename_i as hq
    have ss := sndPs ws g h5
    have sc : ∀ s H Ca cl fp, Snds F G (fun _ _ _ _ => False) (X.blk s H scope (compEnvC scope cl Ca X.env) fp) .nil [] := fun s H Ca cl fp => snds .nil (g.blk s H scope Ca cl fp) (by rw [chkEs.eq_def]; rfl)
    refine ⟨rfl, pe_imp (pe_lc (own := own) (g := gOf X.K tg) (tt := rdTs X.K F G (fun _ _ _ _ => False) .nil) (g.calm hcm) (by rw [g.N]; exact g.nd) (snd_itP g hq ss)
      (blkOk_by (by rw [g.N, g.sc]; exact h1)) (fun s H Ca cl fp => pg_chk (g.blk s H scope Ca cl fp) (fun x hx => hx) h4) (fun s H Ca cl fp => pts_of (sc s H Ca cl fp) rfl (Nat.zero_le _)) (fun s H Ca cl fp => (sndP m (g.blk s H scope Ca cl fp) h9).2) (fold_of h2)) fun σ H Q hq => lcwP_run (tgIn_of h3) hq⟩
  | .neg a, C, W, X, e, g, h => by
    rw [chkP.eq_def] at h
    dsimp only at h
    split at h <;> first | cases h | skip
    exact ⟨rfl, pe_imp (pe_un un_neg (sndP a g h).2) fun σ H Q hq => rdP_neg hq⟩
  | .and a b, C, W, X, e, g, h => by
    rw [chkP.eq_def] at h
    dsimp only at h
    split at h <;> first | cases h | skip
    obtain ⟨h1, h2⟩ := ba2 h
    exact ⟨rfl, pe_imp (pe_and (sndP a g h1).2 (sndP b g h2).2) fun σ H Q hq => rdP_and hq⟩
  | .or a b, C, W, X, e, g, h => by
    rw [chkP.eq_def] at h
    dsimp only at h
    split at h <;> first | cases h | skip
    obtain ⟨h1, h2⟩ := ba2 h
    exact ⟨rfl, pe_imp (pe_or (sndP a g h1).2 (sndP b g h2).2) fun σ H Q hq => rdP_or hq⟩
  | .one a, C, W, X, e, g, h => by
    rw [chkP.eq_def] at h
    dsimp only at h
    split at h <;> first | cases h | skip
    exact ⟨rfl, pe_imp (pe_one (sndP a g h).2) fun σ H Q hq => rdP_one hq⟩
  | .sl a lo hi, C, W, X, e, g, h => by
    rw [chkP.eq_def] at h
    dsimp only at h
    split at h <;> first | cases h | skip
    obtain ⟨h1, h⟩ := ba2 h
    obtain ⟨h2, h3⟩ := ba2 h
    exact ⟨rfl, pe_imp (pe_slice (SlR.or sl_list (SlR.or sl_tupA sl_str)) (sndP a g h1).2 (poP_of (sndPs lo g h2)) (poP_of (sndPs hi g h3))) fun σ H Q hq => rdP_sl hq⟩
  | .pcallN f es gf gs es2, C, W, X, e, g, h => by
    rw [chkP.eq_def] at h
    dsimp only at h
    split at h <;> first | cases h | skip
    rename_i x pp as pos
    obtain ⟨h1, h⟩ := ba2 h
    obtain ⟨h2, h⟩ := ba2 h
    obtain ⟨h3, h⟩ := ba2 h
    obtain ⟨h4, h⟩ := ba2 h
    split at h <;> first | cases h | skip
    rename_i y py bs yq as2 hdrop
    obtain ⟨h5, h⟩ := ba2 h
    obtain ⟨h6, h⟩ := ba2 h
    obtain ⟨h7, h⟩ := ba2 h
    obtain ⟨h8, h9⟩ := ba2 h
    have s1 := sndPs es g h4
    have sg := snds gs g h8
    have s2 := snds es2 g h9
    obtain ⟨k, fa, fd, ps, ds, dvs, sp, FO, hr, hm, hk, hb, hd, imp⟩ := g.pfns f x as.length es.len (of_decide_eq_true h1)
    have has : as = as.take es.len ++ .Call (.Name y py) bs [] yq :: as2 := by rw [← hdrop, List.take_append_drop]
    have hl : es.len + es2.len + 1 = as.length := by
      have z := congrArg List.length has
      rw [List.length_append, List.length_cons, s1.len, s2.len] at z
      omega
    have hok : as.all okE = true := by
      rw [has, List.all_append, List.all_cons, s1.ok, s2.ok]
      rfl
    have pa := s1.pah (b := .Call (.Name y py) bs [] yq) rfl (snd_callF (F := F) (G := G) (W := W) g sg (of_decide_eq_true h5) h6 h7) s2.pa
    rw [← has] at pa
    refine ⟨rfl, ?_⟩
    clear has hdrop h1 h4
    cases as with
    | nil => simp at hl
    | cons a0 as =>
      rw [List.all_cons, Bool.and_eq_true] at hok
      exact pe_imp (pe_callG (E := WE W) FO hr (gl_of g h2) hm hk hb hd (fun σ => tkAt g.tk σ) pa (notDbg_ok h3) (star_of hok.1) (plain_of hok.2)) fun σ H Q hq => rdP_pcallN rfl hl imp hq
  | .pcallL f es ls es2, C, W, X, e, g, h => by
    rw [chkP.eq_def] at h
    dsimp only at h
    split at h <;> first | cases h | skip
    rename_i x pp as pos
    obtain ⟨h1, h⟩ := ba2 h
    obtain ⟨h2, h⟩ := ba2 h
    obtain ⟨h3, h⟩ := ba2 h
    obtain ⟨h4, h⟩ := ba2 h
    split at h <;> first | cases h | skip
    rename_i bs yq as2 hdrop
    obtain ⟨h8, h⟩ := ba2 h
    obtain ⟨h7, h9⟩ := ba2 h
    have s1 := sndPs es g h4
    have sg := snds (F := F) (G := G) (W := W) ls g h8
    have s2 := snds es2 g h9
    obtain ⟨k, fa, fd, ps, ds, dvs, sp, FO, hr, hm, hk, hb, hd, imp⟩ := g.pfns f x as.length es.len (of_decide_eq_true h1)
    have has : as = as.take es.len ++ .List bs yq :: as2 := by rw [← hdrop, List.take_append_drop]
    have hl : es.len + es2.len + 1 = as.length := by
      have z := congrArg List.length has
      rw [List.length_append, List.length_cons, s1.len, s2.len] at z
      omega
    have hok : as.all okE = true := by
      rw [has, List.all_append, List.all_cons, s1.ok, s2.ok]
      rfl
    have pa := s1.pah (b := .List bs yq) rfl (pn_lst sg (of_decide_eq_true h7)) s2.pa
    rw [← has] at pa
    refine ⟨rfl, ?_⟩
    clear has hdrop h1 h4
    cases as with
    | nil => simp at hl
    | cons a0 as =>
      rw [List.all_cons, Bool.and_eq_true] at hok
      exact pe_imp (pe_callG (E := WE W) FO hr (gl_of g h2) hm hk hb hd (fun σ => tkAt g.tk σ) pa (notDbg_ok h3) (star_of hok.1) (plain_of hok.2)) fun σ H Q hq => rdP_pcallL rfl hl imp hq
  | .pcallO f i gs, C, W, X, e, g, h => by
    rw [chkP.eq_def] at h
    dsimp only at h
    split at h <;> first | cases h | skip
    rename_i x pp y py as2 pos
    obtain ⟨h1, h⟩ := ba2 h
    obtain ⟨h2, h⟩ := ba2 h
    obtain ⟨h3, h⟩ := ba2 h
    obtain ⟨h5, h⟩ := ba2 h
    obtain ⟨h6, h⟩ := ba2 h
    obtain ⟨h7, h⟩ := ba2 h
    obtain ⟨h8, h9⟩ := ba2 h
    have s2 := snds (F := F) (G := G) (W := W) gs g h9
    obtain ⟨k, fa, fd, ps, ds, dvs, sp, FO, hr, hm, hk, hb, hd, imp⟩ := g.pfns f x (as2.length + 1) 0 (of_decide_eq_true h1)
    have pa := pa_cons (pe_var (i := i) (by rw [g.N]; exact of_decide_eq_true h5) (by rw [g.sc]; exact isVis_ok h6) (notDbg_ok h7) (notCls_ok h8)) s2.pa (e := .Name y py) (star_of rfl)
    exact ⟨rfl, pe_imp (pe_callG (E := WE W) FO hr (gl_of g h2) hm hk hb hd (fun σ => tkAt g.tk σ) pa (notDbg_ok h3) (star_of rfl) (plain_of s2.ok)) fun σ H Q hq => rdP_pcallO (by rw [s2.len]) imp hq⟩
  | .popI i es, C, W, X, e, g, h => by
    rw [chkP.eq_def] at h
    dsimp only at h
    split at h <;> first | cases h | skip
    rename_i y py m apos as cpos
    obtain ⟨h1, h⟩ := ba2 h
    obtain ⟨h2, h⟩ := ba2 h
    obtain ⟨h3, h⟩ := ba2 h
    obtain ⟨h4, h⟩ := ba2 h
    obtain ⟨h5, h⟩ := ba2 h
    obtain ⟨h6, h⟩ := ba2 h
    obtain ⟨h7, h8⟩ := ba2 h
    have e1 := of_decide_eq_true h1
    subst e1
    have ss := sndPs es g h8
    have sv := pe_var (X := X) (i := i) (x := y) (pos := py) (by rw [g.N]; exact of_decide_eq_true h3) (by rw [g.sc]; exact isVis_ok h4) (notDbg_ok h5) (notCls_ok h6)
    have hl := of_decide_eq_true h2
    refine ⟨rfl, ?_⟩
    cases as with
    | nil =>
      refine pe_imp (pe_bm0 PySem.F.plainAttrs_list PySem.F.slot_list_pop PySem.F.type_list_pop mt_pop sv rfl h7) fun σ H Q hq => ?_
      cases ss
      obtain ⟨v, hv, ht, hq⟩ := rdP_pop hq
      refine ⟨v, hv, ht, (rdPs_nil hq).resolve_right fun ⟨_, _, _, _, _, _, z, _⟩ => nomatch z⟩
    | cons a0 as =>
      have e1 : as = [] := by
        cases as with
        | nil => rfl
        | cons _ _ => exact absurd hl (by simp)
      subst e1
      have ok := ss.ok
      rw [List.all_cons, Bool.and_eq_true] at ok
      have hlen := ss.len
      refine pe_imp (pe_bm PySem.F.plainAttrs_list PySem.F.slot_list_pop PySem.F.type_list_pop mt_popAt sv ss.pa rfl (few_of ok.1) h7 (star_of ok.1) rfl) fun σ H Q hq => ?_
      obtain ⟨v, hv, ht, hq⟩ := rdP_pop hq
      refine ⟨v, hv, ht, rdPs_imp hq fun xs H' hx hz => hz.resolve_left fun ⟨_, _, _, _, z, _⟩ => ?_⟩
      rw [z] at hx
      rw [← hlen] at hx
      cases hx
theorem sndPs : ∀ (m : EPs) {C : Ct} {W : WX} {X : Cx} {es : List Expr}, Gd C F G W X → chkPs C m es = true → AllP F G X m es
  | .nil, C, W, X, es, g, h => by
    rw [chkPs.eq_def] at h
    dsimp only at h
    cases es with
    | nil => exact .nil
    | cons _ _ => cases h
  | .cons m ms, C, W, X, es, g, h => by
    rw [chkPs.eq_def] at h
    dsimp only at h
    split at h <;> first | cases h | skip
    obtain ⟨h1, h2⟩ := ba2 h
    exact .cons (sndP m g h1).1 (sndP m g h1).2 (sndPs ms g h2)
end
def tstPE : EP → Expr → Bool
  | .cmp _ _ _, _ => true
  | .not a, e => (match e with
    | .UnaryOp .Not a' _ => tstPE a a'
    | _ => false)
  | .and a b, e => (match e with
    | .BoolOp .And (a' :: b' :: r) p => tstPE a a' && tstPE b (.BoolOp .And (b' :: r) p)
    | _ => false)
  | .or a b, e => (match e with
    | .BoolOp .Or (a' :: b' :: r) p => tstPE a a' && tstPE b (.BoolOp .Or (b' :: r) p)
    | _ => false)
  | .one a, e => (match e with
    | .BoolOp _ [a'] _ => tstPE a a'
    | _ => false)
  | _, e => leafT e
def rdPB (K : PySem.W.Frag) (F : Nat → List D → R D) (G : Gs) (m : EP) : TT := fun σ H Q => rdP K F G m σ H fun x H' => ∃ k, x = .bl k ∧ Q k H'
theorem ptP_leaf {m : EP} {C : Ct} {W : WX} {X : Cx} {e : Expr} (g : Gd C F G W X) (h : chkP C m e = true) (l : leafT e = true) : PT X e (rdPB X.K F G m) := by
  refine pt_imp (pt_val (sndP m g h).2 ?_) fun σ H Q hq => hq
  cases e <;> first | (intro _; rfl) | cases l
theorem ptw_leaf {m : EP} {C : Ct} {W : WX} {X : Cx} {e : Expr} (g : Gd C F G W X) (h : chkP C m e = true) (l : leafT e = true) : PT X e (rdPB X.K F G m) ∧ ((∃ o vs p, e = .BoolOp o vs p) → PW X e (rdPB X.K F G m)) :=
  ⟨ptP_leaf g h l, fun ⟨_, _, _, z⟩ => by rw [z] at l; cases l⟩
theorem rdPB_and {K : PySem.W.Frag} {σ : L2.St} {H : Hp} {Q : Bool → Hp → Prop} {a b : EP} (h : rdPB K F G (.and a b) σ H Q) : rdPB K F G a σ H fun c H1 => if c = true then rdPB K F G b σ H1 Q else Q false H1 :=
  rdP_imp (rdP_and h) fun v H' ⟨c, e1, q⟩ => ⟨c, e1, by
    cases c with
    | true => exact q
    | false =>
      obtain ⟨k, e2, q⟩ := q
      cases e2
      exact q⟩
theorem rdPB_or {K : PySem.W.Frag} {σ : L2.St} {H : Hp} {Q : Bool → Hp → Prop} {a b : EP} (h : rdPB K F G (.or a b) σ H Q) : rdPB K F G a σ H fun c H1 => if c = true then Q true H1 else rdPB K F G b σ H1 Q :=
  rdP_imp (rdP_or h) fun v H' ⟨c, e1, q⟩ => ⟨c, e1, by
    cases c with
    | false => exact q
    | true =>
      obtain ⟨k, e2, q⟩ := q
      cases e2
      exact q⟩
theorem rdPB_one {K : PySem.W.Frag} {a : EP} : ∀ {σ : L2.St} {H : Hp} {Q : Bool → Hp → Prop}, rdPB K F G (.one a) σ H Q → rdPB K F G a σ H Q := fun {σ H Q} h => rdP_one h
theorem sndPTW : ∀ (m : EP) {C : Ct} {W : WX} {X : Cx} {e : Expr}, Gd C F G W X → chkP C m e = true → tstPE m e = true → PT X e (rdPB X.K F G m) ∧ ((∃ o vs p, e = .BoolOp o vs p) → PW X e (rdPB X.K F G m))
  | .cmp o a b, C, W, X, e, g, h, ht => by
    rw [chkP.eq_def] at h
    dsimp only at h
    split at h <;> first | cases h | skip
    obtain ⟨h1, h⟩ := ba2 h
    obtain ⟨h2, h3⟩ := ba2 h
    have e1 := of_decide_eq_true h1
    subst e1
    have sb := sndP b g h3
    exact ⟨pt_imp (pt_cmpR (op_cop g.hu o) (sndP a g h2).2 sb.2 (mark_of sb.1)) fun σ H Q hq => rdP_op2 (ops_cop o) (fun env => by rw [evP]) hq, fun ⟨_, _, _, z⟩ => nomatch z⟩
  | .not a, C, W, X, e, g, h, ht => by
    rw [chkP.eq_def] at h
    dsimp only at h
    split at h <;> first | cases h | skip
    exact ⟨pt_imp (pt_not (sndPTW a g h ht).1) fun σ H Q hq => by
      obtain ⟨O, H0, A, ad, env, s, hp⟩ := rdP_not hq
      refine ⟨O, H0, A, ad, env, s, hp.imp fun x H' ⟨k, e1, k2, e2, q⟩ => ⟨k, e1, ?_⟩⟩
      cases e2
      exact q, fun ⟨_, _, _, z⟩ => nomatch z⟩
  | .and a b, C, W, X, e, g, h, ht => by
    rw [chkP.eq_def] at h
    dsimp only at h
    split at h <;> first | cases h | skip
    obtain ⟨h1, h2⟩ := ba2 h
    obtain ⟨t1, t2⟩ := ba2 ht
    have pw := pw_imp (pw_and (sndPTW a g h1 t1).1 ((sndPTW b g h2 t2).2 ⟨_, _, _, rfl⟩)) (t' := rdPB X.K F G (.and a b)) fun σ H Q hq => rdPB_and hq
    exact ⟨pw.pt, fun _ => pw⟩
  | .or a b, C, W, X, e, g, h, ht => by
    rw [chkP.eq_def] at h
    dsimp only at h
    split at h <;> first | cases h | skip
    obtain ⟨h1, h2⟩ := ba2 h
    obtain ⟨t1, t2⟩ := ba2 ht
    have pw := pw_imp (pw_or (sndPTW a g h1 t1).1 ((sndPTW b g h2 t2).2 ⟨_, _, _, rfl⟩)) (t' := rdPB X.K F G (.or a b)) fun σ H Q hq => rdPB_or hq
    exact ⟨pw.pt, fun _ => pw⟩
  | .one a, C, W, X, e, g, h, ht => by
    rw [chkP.eq_def] at h
    dsimp only at h
    split at h <;> first | cases h | skip
    rename_i o a' p
    have sa := (sndPTW a g h ht).1
    have pw : PW X (.BoolOp o [a'] p) (rdPB X.K F G (.one a)) := by
      cases o with
      | And => exact pw_imp (pw_and1 sa) fun σ H Q hq => rdPB_one hq
      | Or => exact pw_imp (pw_or1 sa) fun σ H Q hq => rdPB_one hq
    exact ⟨pw.pt, fun _ => pw⟩
  | .pu m, C, W, X, e, g, h, ht => ptw_leaf g h ht
  | .op o a b, C, W, X, e, g, h, ht => ptw_leaf g h ht
  | .ix a i, C, W, X, e, g, h, ht => ptw_leaf g h ht
  | .tup es, C, W, X, e, g, h, ht => ptw_leaf g h ht
  | .call f es, C, W, X, e, g, h, ht => ptw_leaf g h ht
  | .pcall f i es es2, C, W, X, e, g, h, ht => ptw_leaf g h ht
  | .pcallN f es gf gs es2, C, W, X, e, g, h, ht => ptw_leaf g h ht
  | .pcallL f es ls es2, C, W, X, e, g, h, ht => ptw_leaf g h ht
  | .bi b es, C, W, X, e, g, h, ht => ptw_leaf g h ht
  | .lst es, C, W, X, e, g, h, ht => ptw_leaf g h ht
  | .neg a, C, W, X, e, g, h, ht => ptw_leaf g h ht
  | .sl a lo hi, C, W, X, e, g, h, ht => ptw_leaf g h ht
  | .popI i es, C, W, X, e, g, h, ht => ptw_leaf g h ht
  | .pcallO f i gs, C, W, X, e, g, h, ht => ptw_leaf g h ht
  | .lc w ws tg m own, C, W, X, e, g, h, ht => ptw_leaf g h ht
  | .lcw w ws tg m own, C, W, X, e, g, h, ht => ptw_leaf g h ht
theorem sndPT (m : EP) {C : Ct} {W : WX} {X : Cx} {e : Expr} (g : Gd C F G W X) (h : chkP C m e = true) (ht : tstPE m e = true) : PT X e (rdPB X.K F G m) := (sndPTW m g h ht).1
end
end Bs

namespace Bs
open PySem PySem.Spec L2
open PyProof.Rows hiding St

/-! ### statements -/
mutual
inductive S where
  | pass | ret (e : E) | retN | retF (e : E)
  | set (i : Nat) (e : E) | setN (i : Nat) (e : E) | unp (is : List Nat) (e : E) | par (i j : Nat) (a b : E)
  | app (i : Nat) (e : E) | exs (e : E) | stI (i : Nat) (x e : E) | stS (i : Nat) (x e : E)
  | iff (c : E) (a b : Ss) | forr (w : Wk) (ws : Es) (tg : Tg) (b : Ss) | whil (c : E) (b : Ss)
  | raise (c : Nat) | tryx (c : Nat) (b h : Ss) | tryr (c k : Nat) (b : Ss)
  | raiseP (c : Nat) (e : E) | tryE (c i : Nat) (b h : Ss) | stk
  | brk | cont
  | setP (i : Nat) (e : EP) | retP (k : Nat) (e : EP) | retPN (k : Nat) | iffP (c : EP) (a b : Ss)
  | unpP (is : List Nat) (e : EP) | appP (i : Nat) (e : EP) | forP (w : Wk) (ws : EPs) (tg : Tg) (b : Ss) | exsP (e : EP) | retQ (e : EP) | retO (i : Nat)
  | stIP (i : Nat) (x : E) (e : EP) | stQ (i : Nat) (x : EP) (e : EP) | insP (i : Nat) (es : EPs) | setNC (i f : Nat) (es : EPs) | swp (i : Nat) (a b : E) | ext (i : Nat) (e : E) | clr (i : Nat) | rev (i : Nat)
inductive Ss where
  | nil | cons (s : S) (r : Ss) | frz (i : Nat) (r : Ss)
  | tryV (c i j : Nat) (b r1 r2 : Ss)
end
inductive Rs where
  | stuck | nx (e : SE) | rt (d : D) | bk (e : SE) | ct (e : SE) | ex (c : Nat) (p : Option Int) (e : SE)
def R.toS {α : Type} (r : R α) (env : SE) (f : α → Rs) : Rs := match r with
  | .stuck => .stuck
  | .ok a => f a
  | .exc c p => .ex c p env
@[simp] theorem R.toS_ok {α : Type} (a : α) (env : SE) (f : α → Rs) : (R.ok a).toS env f = f a := rfl
def tgRun (tg : Tg) (x : D) (e : SE) (f : SE → Rs) : Rs := match tgS tg x e with
  | some e' => f e'
  | none => .stuck
def loopF (f : D → SE → Rs) : List D → SE → Rs
  | [], env => .nx env
  | x :: xs, env => match f x env with
    | .nx e => loopF f xs e
    | .ct e => loopF f xs e
    | .bk e => .nx e
    | r => r
def whileF (t : SE → R Bool) (f : SE → Rs) : Nat → SE → Rs
  | 0, _ => .stuck
  | n + 1, env => (t env).toS env fun k => if k = true then (match f env with
    | .nx e => whileF t f n e
    | .ct e => whileF t f n e
    | .bk e => .nx e
    | r => r) else .nx env
def appS (env : SE) (i : Nat) (r : R D) : Rs := match env[i]? with
  | some (.ow ds) => r.toS env fun d => if ds.length < 1000000 then .nx (env.set i (.ow (ds ++ [d]))) else .stuck
  | _ => .stuck
def unpS (env : SE) (is : List Nat) : D → Rs
  | .tuple ds => if ds.length = is.length then .nx (setAllS env is ds) else .stuck
  | .list ds => if ds.length = is.length then .nx (setAllS env is ds) else .stuck
  | _ => .stuck
def withOw (env : SE) (i : Nat) (f : List D → Rs) : Rs := match ownAt env i with
  | some ds => f ds
  | none => .stuck
def stK (env : SE) (i : Nat) (ds : List D) (d : D) : D → Rs
  | .int k => (match ixN ds.length k with
    | some j => .nx (env.set i (.ow (ds.set j d)))
    | none => .stuck)
  | _ => .stuck
def stSK (env : SE) (i : Nat) (ds es : List D) : D → Rs
  | .int k => if 0 ≤ k ∧ k ≤ ds.length ∧ ds.length + es.length ≤ 1000000 then .nx (env.set i (.ow (es ++ ds.drop k.toNat))) else .stuck
  | _ => .stuck
def setPS (i : Nat) : R (D × SE) → Rs
  | .ok p => .nx (p.2.set i (.fr p.1))
  | _ => .stuck
def retP1 (d : D) : Option (List D) → Rs
  | some ps => .rt (pairD d (.list ps))
  | none => .stuck
def retPS (k : Nat) : R (D × SE) → Rs
  | .ok p => retP1 p.1 (ownAt p.2 k)
  | _ => .stuck
def ifPS (r : R (D × SE)) (f g : SE → Rs) : Rs := match r with
  | .ok (.bool true, e) => f e
  | .ok (.bool false, e) => g e
  | _ => .stuck
def retQS : R (D × SE) → Rs
  | .ok p => .rt p.1
  | _ => .stuck
def unpPS (is : List Nat) : R (D × SE) → Rs
  | .ok p => unpS p.2 is p.1
  | _ => .stuck
def appPS (i : Nat) : R (D × SE) → Rs
  | .ok p => appS p.2 i (.ok p.1)
  | _ => .stuck
def forPS (f : D → SE → Rs) : R (List D × SE) → Rs
  | .ok p => loopF f p.1 p.2
  | _ => .stuck
def exsPS : R (D × SE) → Rs
  | .ok p => .nx p.2
  | _ => .stuck
def insK (env : SE) (i : Nat) (ds : List D) : List D → Rs
  | [.int k, d] => if 0 ≤ k ∧ k ≤ 1000000 ∧ ds.length ≤ 1000000 then .nx (env.set i (.ow (ds.take k.toNat ++ [d] ++ ds.drop k.toNat))) else .stuck
  | _ => .stuck
def insPS (i : Nat) : R (List D × SE) → Rs
  | .ok p => withOw p.2 i fun ds => insK p.2 i ds p.1
  | _ => .stuck
/-- a new list of a call whose arguments draw -/
def setNCS (f : List D → R D) (i : Nat) : R (List D × SE) → Rs
  | .ok p => (match f p.1 with
    | .ok (.list ds) => .nx (p.2.set i (.ow ds))
    | _ => .stuck)
  | _ => .stuck
def thenS : Rs → (SE → Rs) → Rs
  | .nx e, g => g e
  | r, _ => r
/-- x[a], x[b] = y, z -/
def swpK (f : SE → E → R D) (i : Nat) (a b : E) (env : SE) : D → Rs
  | .tuple [y, z] => withOw env i fun ds => (f env a).toS env fun ka => thenS (stK env i ds y ka) fun e1 => withOw e1 i fun ds1 => (f e1 b).toS e1 fun kb => stK e1 i ds1 z kb
  | _ => .stuck
def extK (env : SE) (i : Nat) (ds es : List D) : Rs := if ds.length + es.length ≤ 1000000 then .nx (env.set i (.ow (ds ++ es))) else .stuck
def stIPS (f : SE → E → R D) (i : Nat) (x : E) : R (D × SE) → Rs
  | .ok p => withOw p.2 i fun ds => (f p.2 x).toS p.2 fun k => stK p.2 i ds p.1 k
  | _ => .stuck
def stQ2 (i : Nat) (d : D) : R (D × SE) → Rs
  | .ok q => withOw q.2 i fun ds => stK q.2 i ds d q.1
  | _ => .stuck
def stQS (f : SE → R (D × SE)) (i : Nat) : R (D × SE) → Rs
  | .ok p => if (ownAt p.2 i).isSome = true then stQ2 i p.1 (f p.2) else .stuck
  | _ => .stuck
/-- the exception c is one of the class k (0: the class of all) -/
def subX (c k : Nat) : Bool := decide (c = k) || decide (k = 0)
def noEx : Rs → Rs
  | .ex _ _ _ => .stuck
  | r => r
def tryS (k : Nat) (h : SE → Rs) : Rs → Rs
  | .ex c p env => if subX c k = true then noEx (h env) else .ex c p env
  | r => r
/-- try: .. except c: raise k(..) -/
def tryR (c k : Nat) : Rs → Rs
  | .ex c' p env => if subX c' c = true then .ex k none env else .ex c' p env
  | r => r
/-- raise c(..) -/
def raiseK (c : Nat) (env : SE) : D → Rs
  | .int i => .ex c (some i) env
  | _ => .stuck
/-- what a suite may hold of an exception -/
def XD (p : Option Int) (x : D) : Prop := match p with
  | none => ∃ a : Nat, x = .dict [(.int a, .none)]
  | some i => ∃ (a d : Nat) (f : Str), x = .dict [(.int a, .int d), (.str f, .int i)]
/-- the exception c is asked for a class -/
def hitD (c : Nat) : D → Bool
  | .int k => decide (k = 11) || subX c k.toNat
  | _ => false
def fldA (c : Nat) : Option Int → R D
  | some i => if c = 9 then .ok (.int i) else .stuck
  | none => .stuck
def rowA (c : Nat) : Option Int → R D
  | some i => if c = 10 then .ok (.int i) else .stuck
  | none => .stuck
open Classical in
/-- the answers of the exception c, which the suite holds as x -/
noncomputable def exFn (c : Nat) (p : Option Int) (x : D) : Nat → List D → R D := fun _ ds => match ds with
  | d :: ks => if d = x then (match ks with
    | [] => fldA c p
    | k :: ks => if k :: ks = [.int 12] then rowA c p else .ok (.bool ((k :: ks).any (hitD c)))) else .stuck
  | [] => .stuck
theorem exFn_fld {c : Nat} {p : Option Int} {x : D} {f : Nat} : exFn c p x f [x] = fldA c p := by
  unfold exFn
  exact if_pos rfl
theorem exFn_is {c : Nat} {p : Option Int} {x k : D} {ks : List D} {f : Nat} (h : k :: ks ≠ [.int 12] := by simp) : exFn c p x f (x :: k :: ks) = .ok (.bool ((k :: ks).any (hitD c))) := by
  unfold exFn
  dsimp only
  rw [if_pos rfl, if_neg h]
theorem exFn_row {c : Nat} {p : Option Int} {x : D} {f : Nat} : exFn c p x f [x, .int 12] = rowA c p := by
  unfold exFn
  dsimp only
  rw [if_pos rfl, if_pos rfl]
/-- the name of an except clause goes -/
def clrS (i : Nat) : Rs → Rs
  | .nx e => .nx (e.set i .un)
  | .bk e => .bk (e.set i .un)
  | .ct e => .ct (e.set i .un)
  | r => r
open Classical in
/-- what a suite does, whatever the exception's place is -/
noncomputable def allX (i : Nat) (P : D → Prop) (g : D → Rs) : Rs := if hh : ∃ r, ∀ x, P x → clrS i (g x) = r then noEx hh.choose else .stuck
noncomputable def tryES (k i : Nat) (h : Nat → Option Int → D → SE → Rs) : Rs → Rs
  | .ex c p env => if subX c k = true then allX i (XD p) fun x => h c p x (env.set i (.fr x)) else .ex c p env
  | r => r
/-- behind a held exception nothing but a return ends -/
def onlyRt : Rs → Rs
  | .rt d => .rt d
  | _ => .stuck
/-- try: b, except k as e: error = e, and the rest: f where nothing came, h where the exception is held -/
noncomputable def tryVS (k i j : Nat) (f : SE → Rs) (h : Nat → Option Int → D → SE → Rs) : Rs → Rs
  | .nx e => f e
  | .ex c p env => if subX c k = true then (if i < env.length then allX i (XD p) fun x => onlyRt (h c p x (((env.set i (.fr x)).set j (.fr x)).set i .un)) else .stuck) else .ex c p env
  | r => r
mutual
noncomputable def exS (F : Nat → List D → R D) (N : Nat) : S → SE → Rs
  | .pass, env => .nx env
  | .ret e, env => (evE F e (fullE env)).toS env .rt
  | .retN, _ => .rt .none
  | .retF e, env => (newS F env e).toS env fun ds => .rt (.list ds)
  | .set i e, env => (valS F env e).toS env fun d => .nx (env.set i (.fr d))
  | .setN i e, env => (newS F env e).toS env fun ds => .nx (env.set i (.ow ds))
  | .unp is e, env => (valS F env e).toS env fun d => unpS env is d
  | .par i j a b, env => (valS F env a).toS env fun x => (valS F env b).toS env fun y => .nx ((env.set i (.fr x)).set j (.fr y))
  | .app i e, env => appS env i (valS F env e)
  | .exs e, env => (evE F e (fullE env)).toS env fun _ => .nx env
  | .stI i x e, env => withOw env i fun ds => (valS F env e).toS env fun d => (evE F x (fullE env)).toS env fun k => stK env i ds d k
  | .stS i x e, env => withOw env i fun ds => ((evE F e (fullE env)).bind lsOf).toS env fun es => if lfrees es = true then (evE F x (fullE env)).toS env fun k => stSK env i ds es k else .stuck
  | .iff c a b, env => ((evE F c (fullE env)).bind ofB).toS env fun k => if k = true then exSs F N a env else exSs F N b env
  | .forr w ws tg b, env => (valI F env w ws).toS env fun items => loopF (fun x e => tgRun tg x e fun e' => exSs F N b e') items env
  | .whil c b, env => whileF (fun e => (evE F c (fullE e)).bind ofB) (fun e => exSs F N b e) N env
  | .raise c, env => .ex c none env
  | .tryx c b h, env => tryS c (fun e => exSs F N h e) (exSs F N b env)
  | .tryr c k b, env => tryR c k (exSs F N b env)
  | .setP i e, env => setPS i (evP F e env)
  | .retP k e, env => retPS k (evP F e env)
  | .retPN k, env => retP1 .none (ownAt env k)
  | .iffP c a b, env => ifPS (evP F c env) (fun e => exSs F N a e) (fun e => exSs F N b e)
  | .unpP is e, env => unpPS is (evP F e env)
  | .appP i e, env => if (ownAt env i).isSome = true then appPS i (evP F e env) else .stuck
  | .forP w ws tg b, env => forPS (fun x e => tgRun tg x e fun e' => exSs F N b e') (evIP F w ws env)
  | .exsP e, env => exsPS (evP F e env)
  | .retQ e, env => retQS (evP F e env)
  | .stQ i x e, env => stQS (fun en => evP F x en) i (evP F e env)
  | .stIP i x e, env => stIPS (fun en x => evE F x (fullE en)) i x (evP F e env)
  | .insP i es, env => if (ownAt env i).isSome = true then insPS i (evPs F es env) else .stuck
  | .setNC i f es, env => setNCS (F f) i (evPs F es env)
  | .swp i a b, env => (valS F env (.tup (.cons (.ix (.v i) b) (.cons (.ix (.v i) a) .nil)))).toS env (swpK (fun en x => evE F x (fullE en)) i a b env)
  | .ext i e, env => withOw env i fun ds => ((evE F e (cleanE env)).bind lsOf).toS env fun es => extK env i ds es
  | .retO i, env => withOw env i fun ds => .rt (.list ds)
  | .clr i, env => withOw env i fun _ => .nx (env.set i (.ow []))
  | .rev i, env => withOw env i fun ds => .nx (env.set i (.ow ds.reverse))
  | .raiseP c e, env => (evE F e (fullE env)).toS env (raiseK c env)
  | .tryE k i b h, env => tryES k i (fun c p x e => exSs (exFn c p x) N h e) (exSs F N b env)
  | .stk, _ => .stuck
  | .brk, env => .bk env
  | .cont, env => .ct env
noncomputable def exSs (F : Nat → List D → R D) (N : Nat) : Ss → SE → Rs
  | .nil, env => .nx env
  | .cons s r, env => match exS F N s env with
    | .nx e => exSs F N r e
    | r => r
  | .frz i r, env => exSs F N r (frzS env i)
  | .tryV c i j b r1 r2, env => tryVS c i j (fun e => exSs F N r1 e) (fun c' p x e => exSs (exFn c' p x) N r2 e) (exSs F N b env)
end
def startS (n : Nat) (ds : List D) : SE := ds.map Sl.fr ++ List.replicate (n - ds.length) .un
/-- a def of n names, its body m -/
noncomputable def den (F : Nat → List D → R D) (N n : Nat) (m : Ss) (ds : List D) : R D := match exSs F N m (startS n ds) with
  | .nx _ => .ok .none
  | .rt d => .ok d
  | .ex c p _ => .exc c p
  | _ => .stuck
/-- a def that hands back a new list -/
noncomputable def denF (F : Nat → List D → R D) (N n : Nat) (m : Ss) (ds : List D) : R D := match exSs F N m (startS n ds) with
  | .rt d => .ok d
  | .ex c p _ => .exc c p
  | _ => .stuck
def poolN : Option (List D) → R D
  | some ps => .ok (pairD .none (.list ps))
  | none => .stuck
/-- a def that changes its k-th argument -/
noncomputable def denP (F : Nat → List D → R D) (N n k : Nat) (m : Ss) (ds : List D) : R D := match ds[k]? with
  | some (.list ps) => (match exSs F N m ((startS n ds).set k (.ow ps)) with
    | .rt d => .ok d
    | .nx e => poolN (ownAt e k)
    | _ => .stuck)
  | _ => .stuck
end Bs

namespace Bs
open PySem PySem.Spec L2
open PyProof.Rows hiding St

/-! ### what is wanted of a statement's end -/
def PostS (K : PySem.W.Frag) (G : Gs) (O : List Addr) (H0 B : Hp) (D : Ends) (W : WX) : Rs → Prop
  | .stuck => False
  | .nx e => ∀ A ad σ H, SR K G O H0 B A ad σ H e → D.nx σ H
  | .rt d => match G.kd with
    | .data => ∀ v H, Same H0 H → Dq K (cut H O) v d → D.rt v H
    | .fresh => ∀ v H, Same H0 H → dpn K O H0 H v d → D.rt v H
    | .pool _ p => ∃ d' ps, d = pairD d' (.list ps) ∧ ∀ v H, Same H0 H → (∃ ws, H p = some (.lst ws) ∧ DqAll K (cut H (p :: O)) ws ps) → Dq K (cut H (p :: O)) v d' → D.rt v H
  | .bk e => ∀ A ad σ H, SR K G O H0 B A ad σ H e → D.bk σ H
  | .ct e => ∀ A ad σ H, SR K G O H0 B A ad σ H e → D.ct σ H
  | .ex c p e => ∀ A ad σ H cls dd, SR K G O H0 B A ad σ H e → exR G H0 c p cls dd H → W cls dd σ H
def rdS (K : PySem.W.Frag) (F : Nat → List D → R D) (G : Gs) (N : Nat) (W : WX) (m : S) : TS := fun D σ H => ∃ O H0 B A ad env, SR K G O H0 B A ad σ H env ∧ PostS K G O H0 B D W (exS F N m env)
def rdSs (K : PySem.W.Frag) (F : Nat → List D → R D) (G : Gs) (N : Nat) (W : WX) (m : Ss) : TS := fun D σ H => ∃ O H0 B A ad env, SR K G O H0 B A ad σ H env ∧ PostS K G O H0 B D W (exSs F N m env)
section
variable {K : PySem.W.Frag} {F : Nat → List D → R D} {G : Gs} {O : List Addr} {H0 B : Hp} {A : List Addr} {ad : Nat → Addr} {σ : L2.St} {H : Hp} {env : SE} {D : Ends} {W : WX}
theorem post_toS {α β : Type} {rep : Hp → β → α → Prop} {r : R α} {f : α → Rs} (s : SR K G O H0 B A ad σ H env) (h : PostS K G O H0 B D W (r.toS env f)) :
    Post rep G σ H W (fun v H' => Same H H' ∧ ∃ d, rep H' v d ∧ PostS K G O H0 B D W (f d)) r := by
  cases r with
  | stuck => exact h
  | ok d => exact fun v H' e p => ⟨e, d, p, h⟩
  | exc c p => exact fun cls dd H' e x => h A ad σ H' cls dd (s.up e) (x.lo s.e0)
/-- a value that goes to a name -/
theorem valS_rd {e : E} {f : PyData → Rs} (s : SR K G O H0 B A ad σ H env) (h : PostS K G O H0 B D W ((valS F env e).toS env f)) :
    rd K F G W e σ H fun v H' => ∃ A' d, (∀ a ∈ A', a ∈ A) ∧ SR K G O H0 B A' ad σ H' env ∧ Dq K (cut H' (O ++ A')) v d ∧ PostS K G O H0 B D W (f d) := by
  unfold valS at h
  cases q : evE F e (fullE env) with
  | stuck => rw [q] at h; exact h.elim
  | exc c p =>
    rw [q] at h
    refine ⟨O, fullE env, s.full, ?_⟩
    rw [q]
    exact fun cls dd H' e x => h A ad σ H' cls dd (s.up e) (x.lo s.e0)
  | ok d =>
    rw [q] at h
    by_cases c : (lfree d || noOwn env) = true
    · have h : PostS K G O H0 B D W ((if (lfree d || noOwn env) = true then R.ok d else evE F e (cleanE env)).toS env f) := h
      rw [if_pos c] at h
      refine ⟨O, fullE env, s.full, ?_⟩
      rw [q]
      intro v H' e r
      by_cases n : noOwn env = true
      · exact ⟨[], d, fun a z => (nomatch z), (s.up e).drop n, by rw [List.append_nil]; exact r, h⟩
      · have l : lfree d = true := by
          rcases Bool.or_eq_true_iff.mp c with l | l
          · exact l
          · exact absurd l n
        exact ⟨A, d, fun _ z => z, s.up e, lfree_hide (s.up e).hideA _ _ l r, h⟩
    · have h : PostS K G O H0 B D W ((if (lfree d || noOwn env) = true then R.ok d else evE F e (cleanE env)).toS env f) := h
      rw [if_neg c] at h
      exact ⟨O ++ A, cleanE env, s.clean, (post_toS (rep := dp K (O ++ A)) s h).imp fun v H' _ ⟨e, d, r, p⟩ => ⟨A, d, fun _ z => z, s.up e, r, p⟩⟩
theorem rd_imp {m : E} {Q Q' : VK} (h : rd K F G W m σ H Q) (i : ∀ v H', Same H H' → Q v H' → Q' v H') : rd K F G W m σ H Q' := by
  obtain ⟨O, env, e, p⟩ := h
  exact ⟨O, env, e, p.imp i⟩
theorem rdN_imp {m : E} {Q Q' : VK} (h : rdN K F G W m σ H Q) (i : ∀ v H', Same H H' → Q v H' → Q' v H') : rdN K F G W m σ H Q' := by
  obtain ⟨O, env, e, p⟩ := h
  exact ⟨O, env, e, p.imp i⟩
theorem mem_sw {O A : List Addr} {p a : Addr} (m : a ∈ O ++ (p :: A)) : a ∈ p :: (O ++ A) := by
  rcases List.mem_append.mp m with m | m
  · exact List.mem_cons_of_mem _ (List.mem_append_left _ m)
  · rcases List.mem_cons.mp m with m | m
    · rw [m]; exact List.mem_cons_self
    · exact List.mem_cons_of_mem _ (List.mem_append_right _ m)
theorem newS_rd {e : E} {i : Nat} {f : List PyData → Rs} (hi : ∀ k q, G.kd = .pool k q → i ≠ k) (s : SR K G O H0 B A ad σ H env) (h : PostS K G O H0 B D W ((newS F env e).toS env f)) :
    rdN K F G W e σ H fun v H' => ∃ A' ad' ds, SR K G O H0 B A' ad' (σ.set i (some v)) H' (env.set i (.ow ds)) ∧ PostS K G O H0 B D W (f ds) := by
  unfold newS at h
  cases q : evE F e (fullE env) with
  | stuck => rw [q] at h; exact h.elim
  | exc c p =>
    rw [q] at h
    refine ⟨O, fullE env, s.full, ?_⟩
    rw [q]
    exact fun cls dd H' e x => h A ad σ H' cls dd (s.up e) (x.lo s.e0)
  | ok d =>
    rw [q] at h
    cases d <;> first | exact h.elim | skip
    rename_i ds
    have h : PostS K G O H0 B D W ((if (lfrees ds || noOwn env) = true then R.ok ds else (evE F e (cleanE env)).bind lsOf).toS env f) := h
    by_cases c : (lfrees ds || noOwn env) = true
    · rw [if_pos c] at h
      refine ⟨O, fullE env, s.full, ?_⟩
      rw [q]
      rintro v H' e ⟨p, vs, ds', rfl, he, hp, hp', r⟩
      cases he
      by_cases n : noOwn env = true
      · have sn := s.drop n
        exact ⟨_, _, ds, sn.setNew e i hi hp hp' (dps_mono (cut_sub fun a m => by have z := mem_sw m; rw [List.append_nil] at z; exact z) _ _ r), h⟩
      · have l : lfrees ds = true := by
          rcases Bool.or_eq_true_iff.mp c with l | l
          · exact l
          · exact absurd l n
        refine ⟨_, _, ds, s.setNew e i hi hp hp' (lfrees_hide (fun a m => ?_) _ _ l r), h⟩
        rcases List.mem_append.mp m with m | m
        · exact .inl (List.mem_cons_of_mem _ m)
        · rcases List.mem_cons.mp m with m | m
          · exact .inl (by rw [m]; exact List.mem_cons_self)
          · obtain ⟨_, ws, w⟩ := s.alA a m
            exact .inr ⟨ws, e _ _ w⟩
    · rw [if_neg c] at h
      refine ⟨O ++ A, cleanE env, s.clean, ?_⟩
      cases q2 : evE F e (cleanE env) with
      | stuck => rw [q2] at h; exact h.elim
      | exc c p =>
        rw [q2] at h
        exact fun cls dd H' e x => h A ad σ H' cls dd (s.up e) (x.lo s.e0)
      | ok d2 =>
        rw [q2] at h
        cases d2 <;> first | exact h.elim | skip
        rename_i ds2
        rintro v H' e ⟨p, vs, ds', rfl, he, hp, hp', r⟩
        cases he
        exact ⟨_, _, ds2, s.setNew e i hi hp hp' (dps_mono (cut_sub fun a m => mem_sw m) _ _ r), h⟩
theorem newF_rd {e : E} {f : List PyData → Rs} (s : SR K G O H0 B A ad σ H env) (h : PostS K G O H0 B D W ((newS F env e).toS env f)) :
    rdN K F G W e σ H fun v H' => ∃ p vs ds, v = .ref p ∧ Same H H' ∧ H p = none ∧ H' p = some (.lst vs) ∧ DqAll K (cut H' (p :: O)) vs ds ∧ PostS K G O H0 B D W (f ds) := by
  unfold newS at h
  cases q : evE F e (fullE env) with
  | stuck => rw [q] at h; exact h.elim
  | exc c p =>
    rw [q] at h
    refine ⟨O, fullE env, s.full, ?_⟩
    rw [q]
    exact fun cls dd H' e x => h A ad σ H' cls dd (s.up e) (x.lo s.e0)
  | ok d =>
    rw [q] at h
    cases d <;> first | exact h.elim | skip
    rename_i ds
    have h : PostS K G O H0 B D W ((if (lfrees ds || noOwn env) = true then R.ok ds else (evE F e (cleanE env)).bind lsOf).toS env f) := h
    by_cases c : (lfrees ds || noOwn env) = true
    · rw [if_pos c] at h
      refine ⟨O, fullE env, s.full, ?_⟩
      rw [q]
      rintro v H' e ⟨p, vs, ds', rfl, he, hp, hp', r⟩
      cases he
      exact ⟨p, vs, ds, rfl, e, hp, hp', r, h⟩
    · rw [if_neg c] at h
      refine ⟨O ++ A, cleanE env, s.clean, ?_⟩
      cases q2 : evE F e (cleanE env) with
      | stuck => rw [q2] at h; exact h.elim
      | exc c p =>
        rw [q2] at h
        exact fun cls dd H' e x => h A ad σ H' cls dd (s.up e) (x.lo s.e0)
      | ok d2 =>
        rw [q2] at h
        cases d2 <;> first | exact h.elim | skip
        rename_i ds2
        rintro v H' e ⟨p, vs, ds', rfl, he, hp, hp', r⟩
        cases he
        refine ⟨p, vs, ds2, rfl, e, hp, hp', dps_mono (cut_sub fun a m => ?_) _ _ r, h⟩
        rcases List.mem_cons.mp m with m | m
        · rw [m]; exact List.mem_cons_self
        · exact List.mem_cons_of_mem _ (List.mem_append_left _ m)
end

/-! ### the context of statements -/
structure ExcF (K : PySem.W.Frag) (C : Addr) : Prop where
  q : PySem.W.excIn K C [.type "ValueError", .type "Exception", .type "BaseException", .type "object"] "ValueError.__new__" = true
  k : PySem.W.keepIn K (.ref C) = true
  b : PySem.W.subIn K (.ref C) (.type "BaseException") = some true
  t : PySem.W.typeIn K (.ref C) = some (.type "type")
/-- what isinstance and a field ask of the classes of exceptions -/
structure XqF (K : PySem.W.Frag) (G : Gs) : Prop where
  cls : ∀ c, G.has c = true → L2.ExcC K (G.ex c)
  one : ∀ c k, G.has c = true → G.has k = true → PySem.W.kitOne K (.ref (G.ex c)) (.ref (G.ex k)) = some (subX c k)
  ve : ∀ c, G.has c = true → PySem.W.kitOne K (.ref (G.ex c)) (.type "ValueError") = some true
  fld : G.fld 9 = "board"
  xf : G.has 9 = true → L2.XfC K (G.ex 9) ∧ PySem.W.findIn K (.ref (G.ex 9)) "board" = some none
  fldR : G.fld 10 = "row"
  xfR : G.has 10 = true → L2.XfC K (G.ex 10) ∧ PySem.W.findIn K (.ref (G.ex 10)) "row" = some none
/-- how an own exception with a field is made -/
def MkOk (st : Bool) (X : Cx) (G : Gs) (c : Nat) : Prop := ∃ (k : Nat) (fI : Addr) (fd : FuncData) (ps : List Str) (sp : Sp),
  OexC X.K (G.ex c) ∧ PySem.W.findIn X.K (.ref (G.ex c)) "__init__" = some (some (.ref fI)) ∧ PySem.W.typeIn X.K (.ref fI) = some (.type "function") ∧ FnOk X.prog X.w X.K X.mg X.base (CXf st X.prog X.w) k fI fd ps sp ∧ Room (k + 1) X.A ∧ Binds X.K fd ps [] ∧
  ∀ (a : Addr) (i : Int) (H : Hp) (Q : VK) (E : XK), H a = some (exo a (G.ex c) none) → (∀ dx, H dx = none → dx ≠ a → Q .non (upd (upd H dx (exd dx [(G.fld c, .int i)])) a (exo a (G.ex c) (some dx)))) → sp [.ref a, .int i] H Q E
structure CtS extends Ct where
  exp : List Nat := []
  xqs : Bool := false
  exs : List (Nat × Str)
  exr : List Nat
  kd : Nat := 0
  pl : Nat := 0
  hot : Bool := true
def kdOk (C : CtS) : Kd → Prop
  | .data => C.kd = 0
  | .fresh => C.kd = 1
  | .pool k _ => C.kd = 2 ∧ C.pl = k
structure GdS (C : CtS) (F : Nat → List D → R D) (G : Gs) (W : WX) (X : Cx) : Prop where
  gd : Gd C.toCt F G W X
  st : X.stack = X.env :: X.outer
  frm : X.env.frame = some X.env.locals
  po : PassesOwn (model X.prog X.w) X.A X.env X.xe
  poA : C.st = false → C.hot = true → ∀ hd : Option Value, PassesOwnAt (model X.prog X.w) (X.A.mark hd) X.A X.env X.xe
  fnT : ∀ x, X.fn x = true
  exn : ∀ c, G.has c = (C.exs.lookup c).isSome
  exm : ∀ c x, C.exs.lookup c = some x → X.mg x = some (.ref (G.ex c))
  exk : ∀ c ∈ C.exr, ExcF X.K (G.ex c)
  exs : ∀ c k, G.has c = true → G.has k = true → PySem.W.exmOne X.K (.ref (G.ex c)) (.ref (G.ex k)) = some (subX c k)
  kind : kdOk C G.kd
  xqf : C.xqs = true → XqF X.K G
  exp : ∀ c ∈ C.exp, MkOk C.st X G c
theorem kd_data {C : CtS} {k : Kd} (h : kdOk C k) (e : C.kd = 0) : k = .data := by
  cases k with
  | data => rfl
  | fresh => exact absurd (e.symm.trans h) (by decide)
  | pool k p => exact absurd (e.symm.trans h.1) (by decide)
theorem kd_fresh {C : CtS} {k : Kd} (h : kdOk C k) (e : C.kd = 1) : k = .fresh := by
  cases k with
  | data => exact absurd (e.symm.trans h) (by decide)
  | fresh => rfl
  | pool k p => exact absurd (e.symm.trans h.1) (by decide)
theorem kd_pool {C : CtS} {k : Kd} (h : kdOk C k) (e : C.kd = 2) : ∃ p, k = .pool C.pl p := by
  cases k with
  | data => exact absurd (e.symm.trans h) (by decide)
  | fresh => exact absurd (e.symm.trans h) (by decide)
  | pool k p => exact ⟨p, by rw [h.2]⟩
theorem kd_ne {C : CtS} {G : Gs} (h : kdOk C G.kd) {i : Nat} (e : (decide (C.kd ≠ 2) || decide (C.pl ≠ i)) = true) : ∀ k q, G.kd = .pool k q → i ≠ k := fun k q z => by
  rw [z] at h
  obtain ⟨h1, h2⟩ := h
  rcases Bool.or_eq_true_iff.mp e with e | e
  · exact absurd h1 (of_decide_eq_true e)
  · exact fun w => of_decide_eq_true e (by rw [h2, w])
end Bs

namespace Bs
open PySem PySem.Spec L2
open PyProof.Rows hiding St

/-! ### the check of a statement -/
def isLC : Expr → Bool
  | .ListComp .. => true
  | _ => false
def isCallE : Expr → Bool
  | .Call .. => true
  | _ => false
def isTupE : Expr → Bool
  | .Tuple .. => true
  | _ => false
def newE : E → Bool
  | .lst _ => true
  | .bi .list _ => true
  | .op .add _ _ => true
  | .op .mul _ _ => true
  | .sl _ _ _ => true
  | .callF _ _ => true
  | .lc .. => true
  | _ => false
def isPLC : EP → Bool
  | .lc .. => true
  | .lcw .. => true
  | _ => false
def lcSw (C : Ct) (t e : Expr) (pos : Pos) : Bool := match t, e with
  | .Name x px, .ListComp _ _ scope ep => decide (C.sc.names.lookup x = some .local) && ((px.line == ep.line) && ((pos.line == pos.line) && !(scope.names.any fun (n, k) => n == x && (k == .local || k == .cell))))
  | _, _ => false
/-- a name that is no local one (a cell): its store is not swapped -/
def cellT (C : Ct) : Expr → Bool
  | .Name x _ => decide (C.sc.names.lookup x ≠ some .local)
  | _ => false
def hC (C : CtS) : CtS := { C with fns := [], kfns := [], ffns := [], pfns := [], sfns := [], cm := false, exr := [], exp := [], hot := false, cx := none }
/-- the body of a try whose suite raises -/
def sC (C : CtS) : CtS := { C with fns := [], kfns := [], ffns := [], pfns := [], exr := [], exp := [], hot := false, st := true, cx := none }
def tC (C : CtS) : CtS := { C with hot := false, cx := none }
def xC (C : CtS) (n : Str) (i : Nat) : CtS := { hC C with cx := some (n, i, C.exs) }
mutual
def chkS (C : CtS) : S → Stmt → Bool
  | .pass, st => (match st with
    | .Pass _ => true
    | _ => false)
  | .ret m, st => (match st with
    | .Return (some e) _ => decide (C.kd = 0) && chkE C.toCt m e
    | _ => false)
  | .retN, st => (match st with
    | .Return none _ => decide (C.kd = 0)
    | _ => false)
  | .retF m, st => (match st with
    | .Return (some e) _ => decide (C.kd = 1) && (chkE C.toCt m e && newE m)
    | _ => false)
  | .set i m, st => (match st with
    | .Assign [t] e _ => tgN C.toCt (fun _ => true) i t && (chkE C.toCt m e && !isLC e)
    | _ => false)
  | .setN i m, st => (match st with
    | .Assign [t] e pos => (decide (C.kd ≠ 2) || decide (C.pl ≠ i)) && tgN C.toCt (fun _ => true) i t && (chkE C.toCt m e && ((decide (C.sc.kind = .function) && (isLC e && lcSw C.toCt t e pos)) || ((!isLC e || cellT C.toCt t) && newE m)))
    | _ => false)
  | .unp is m, st => (match st with
    | .Assign [t] e _ => tgT C.toCt (fun _ => true) is t && (chkE C.toCt m e && (!isLC e && !isTupE e))
    | _ => false)
  | .par i j a b, st => (match st with
    | .Assign [.Tuple [.Name x px, .Name y py] _ _] (.Tuple [a', b'] _ _) _ => C.cm && (decide (C.N[i]? = some x) && (decide (C.N[j]? = some y) && (decide (i ≠ j) && (decide (C.sc.names.lookup x = some .local) && (decide (C.sc.names.lookup y = some .local) &&
        (decide (C.sc.kind = .function) && ((py.line == px.line) && (!(x == y) && (![a', b'].all (foldedForSure 8) && (![a', b'].all (constantsAlone 8) && (chkE C.toCt a a' && chkE C.toCt b b')))))))))))
    | _ => false)
  | .app i m, st => (match st with
    | .Expr (.Call (.Attribute (.Name x _) f apos) [e] [] cpos) _ => decide (f = "append") && (decide (C.N[i]? = some x) && (isVis C.sc x && (notDbg x && (notCls x && ((apos.endLine == cpos.line) && chkE C.toCt m e)))))
    | _ => false)
  | .exs m, st => (match st with
    | .Expr e _ => isCallE e && chkE C.toCt m e
    | _ => false)
  | .stI i x m, st => (match st with
    | .Assign [.Subscript (.Name y _) x' _] e _ => decide (C.N[i]? = some y) && (isVis C.sc y && (notDbg y && (notCls y && (chkE C.toCt x x' && (chkE C.toCt m e && (!isLC e && !isTupE e))))))
    | _ => false)
  | .stS i x m, st => (match st with
    | .Assign [.Subscript (.Name y _) (.Slice none (some x') none _) _] e _ => decide (C.N[i]? = some y) && (isVis C.sc y && (notDbg y && (notCls y && (chkE C.toCt x x' && (chkE C.toCt m e && (newE m && (!isLC e && !isTupE e)))))))
    | _ => false)
  | .setP i m, st => (match st with
    | .Assign [t] e pos => (decide (C.kd ≠ 2) || decide (C.pl ≠ i)) && (tgN C.toCt (fun _ => true) i t && (chkP C.toCt m e && ((!isLC e || cellT C.toCt t) || (decide (C.sc.kind = .function) && (isLC e && (isPLC m && lcSw C.toCt t e pos))))))
    | _ => false)
  | .retO i, st => (match st with
    | .Return (some (.Name x _)) _ => decide (C.kd = 1) && (decide (C.N[i]? = some x) && (isVis C.sc x && (notDbg x && notCls x)))
    | _ => false)
  | .retP k m, st => (match st with
    | .Return (some e) _ => decide (C.kd = 2) && (decide (C.pl = k) && chkP C.toCt m e)
    | _ => false)
  | .retPN k, st => (match st with
    | .Return none _ => decide (C.kd = 2) && decide (C.pl = k)
    | _ => false)
  | .iffP c a b, st => (match st with
    | .If c' a' b' _ => chkP C.toCt c c' && (tstPE c c' && (chkSs C a a' && chkSs C b b'))
    | _ => false)
  | .unpP is m, st => (match st with
    | .Assign [t] e _ => tgT C.toCt (fun _ => true) is t && (chkP C.toCt m e && (!isLC e && !isTupE e))
    | _ => false)
  | .appP i m, st => (match st with
    | .Expr (.Call (.Attribute (.Name x _) f apos) [e] [] cpos) _ => decide (f = "append") && (decide (C.N[i]? = some x) && (isVis C.sc x && (notDbg x && (notCls x && ((apos.endLine == cpos.line) && chkP C.toCt m e)))))
    | _ => false)
  | .insP i ms, st => (match st with
    | .Expr (.Call (.Attribute (.Name x _) f apos) [e, e2] [] cpos) _ => decide (f = "insert") && (decide (C.N[i]? = some x) && (isVis C.sc x && (notDbg x && (notCls x && ((apos.endLine == cpos.line) && chkPs C.toCt ms [e, e2])))))
    | _ => false)
  | .setNC i f ms, st => (match st with
    | .Assign [t] (.Call (.Name x _) as [] _) _ => (decide (C.kd ≠ 2) || decide (C.pl ≠ i)) && (tgN C.toCt (fun _ => true) i t && (decide ((f, x, as.length) ∈ C.ffns) && (isGl C.sc x && (notDbg x && chkPs C.toCt ms as))))
    | _ => false)
  | .swp i a b, st => (match st with
    | .Assign [.Tuple [.Subscript (.Name y _) a1 _, .Subscript (.Name z _) b1 _] _ _] (.Tuple [a2, b2] _ _) _ => C.cm && (decide (C.N[i]? = some y) && (decide (y = z) && (isVis C.sc y && (notDbg y && (notCls y && (chkE C.toCt a a1 && (chkE C.toCt b b1 && (chkE C.toCt (.ix (.v i) b) a2 && chkE C.toCt (.ix (.v i) a) b2))))))))
    | _ => false)
  | .ext i m, st => (match st with
    | .Expr (.Call (.Attribute (.Name x _) f apos) [e] [] cpos) _ => decide (f = "extend") && (decide (C.N[i]? = some x) && (isVis C.sc x && (notDbg x && (notCls x && ((apos.endLine == cpos.line) && chkE C.toCt m e)))))
    | _ => false)
  | .clr i, st => (match st with
    | .Expr (.Call (.Attribute (.Name x _) f apos) [] [] cpos) _ => decide (f = "clear") && (decide (C.N[i]? = some x) && (isVis C.sc x && (notDbg x && (notCls x && (apos.endLine == cpos.line)))))
    | _ => false)
  | .rev i, st => (match st with
    | .Expr (.Call (.Attribute (.Name x _) f apos) [] [] cpos) _ => decide (f = "reverse") && (decide (C.N[i]? = some x) && (isVis C.sc x && (notDbg x && (notCls x && (apos.endLine == cpos.line)))))
    | _ => false)
  | .exsP m, st => (match st with
    | .Expr e _ => isCallE e && chkP C.toCt m e
    | _ => false)
  | .retQ m, st => (match st with
    | .Return (some e) _ => decide (C.kd = 0) && chkP C.toCt m e
    | _ => false)
  | .stQ i x m, st => (match st with
    | .Assign [.Subscript (.Name y _) x' _] e _ => decide (C.N[i]? = some y) && (isVis C.sc y && (notDbg y && (notCls y && (chkP C.toCt x x' && (chkP C.toCt m e && (!isLC e && !isTupE e))))))
    | _ => false)
  | .stIP i x m, st => (match st with
    | .Assign [.Subscript (.Name y _) x' _] e _ => decide (C.N[i]? = some y) && (isVis C.sc y && (notDbg y && (notCls y && (chkE C.toCt x x' && (chkP C.toCt m e && (!isLC e && !isTupE e))))))
    | _ => false)
  | .forP w ws tg b, st => (match st with
    | .For t it body [] _ => C.cm && (okE it && (chkG C.toCt (fun _ => true) tg t && ((match itArgs C.toCt w t it with
        | some as => chkPs C.toCt ws as
        | none => false) && chkSs C b body)))
    | _ => false)
  | .iff c a b, st => (match st with
    | .If c' a' b' _ => chkE C.toCt c c' && (tstE c' && (chkSs C a a' && chkSs C b b'))
    | _ => false)
  | .forr w ws tg b, st => (match st with
    | .For t it body [] _ => C.cm && (okE it && (chkG C.toCt (fun _ => true) tg t && ((match itArgs C.toCt w t it with
        | some as => chkEs C.toCt ws as
        | none => false) && chkSs C b body)))
    | _ => false)
  | .whil c b, st => (match st with
    | .While c' body [] _ => chkE C.toCt c c' && (tstE c' && chkSs C b body)
    | _ => false)
  | .raise c, st => (match st with
    | .Raise (some (.Call (.Name x _) [.Constant (.str _) _ _] [] _)) none _ => C.cm && (decide (C.exs.lookup c = some x) && (decide (c ∈ C.exr) && (isGl C.sc x && notDbg x)))
    | _ => false)
  | .tryx c b h, st => (match st with
    | .Try body [.ExceptHandler (some (.Name x _)) none (h0 :: hs) _] [] [] _ => !C.st && (decide (C.exs.lookup c = some x) && (isGl C.sc x && (notDbg x && (chkSs (tC C) b body && chkSs (hC C) h (h0 :: hs)))))
    | _ => false)
  | .tryr c k b, st => (match st with
    | .Try body [.ExceptHandler (some (.Name x _)) none [.Raise (some (.Call (.Name y _) [.Constant (.str _) _ _] [] _)) none _] _] [] [] _ => !C.st && (C.hot && (decide (C.exs.lookup c = some x) && (isGl C.sc x && (notDbg x && (chkSs (sC C) b body && (decide (C.exs.lookup k = some y) && (decide (k ∈ C.exr) && (isGl C.sc y && notDbg y))))))))
    | _ => false)
  | .raiseP c m, st => (match st with
    | .Raise (some (.Call (.Name x _) [e] [] _)) none _ => C.cm && (!C.st && (decide (C.exs.lookup c = some x) && (decide (c ∈ C.exp) && (isGl C.sc x && (notDbg x && chkE C.toCt m e)))))
    | _ => false)
  | .tryE c i b h, st => (match st with
    | .Try body [.ExceptHandler (some (.Name x _)) (some n) (h0 :: hs) _] [] [] _ => !C.st && (C.xqs && (decide (C.exs.lookup c = some x) && (isGl C.sc x && (notDbg x && (decide (C.N[i]? = some n) && (decide (C.sc.names.lookup n = some .local) && (decide (C.kd ≠ 2) && (chkSs (tC C) b body && chkSs (xC C n i) h (h0 :: hs)))))))))
    | _ => false)
  | .stk, _ => true
  | .brk, st => (match st with
    | .Break _ => true
    | _ => false)
  | .cont, st => (match st with
    | .Continue _ => true
    | _ => false)
def chkSs (C : CtS) : Ss → List Stmt → Bool
  | .nil, st => st.isEmpty
  | .cons m ms, st => (match st with
    | s :: ss => chkS C m s && chkSs C ms ss
    | [] => false)
  | .frz _ ms, st => chkSs C ms st
  | .tryV c i j b r1 r2, st => (match st with
    | .Try body [.ExceptHandler (some (.Name x _)) (some n) [.Assign [t] e _] _] [] [] _ :: ss => !C.st && (C.xqs && (decide (C.exs.lookup c = some x) && (isGl C.sc x && (notDbg x && (decide (C.N[i]? = some n) && (decide (C.sc.names.lookup n = some .local) && (decide (C.kd ≠ 2) &&
        (chkSs (tC C) b body && ((tgN (hC C).toCt (fun _ => true) j t && (chkE (hC C).toCt (.v i) e && !isLC e)) && (chkSs C r1 ss && (match C.N[j]? with
          | some y => chkSs (xC C y j) r2 ss
          | none => false)))))))))))
    | _ => false)
end

section
variable {X : Cx} {e t : Expr} {pos : Pos}
theorem sw_no {o : Option Expr} {l : Nat} {env : PySem.Env} (h : okE e = true) (n : isLC e = false) : swapsWith e o l env = pure false := by
  cases e <;> first | rfl | exact nomatch (show false = true from h) | exact nomatch (show true = false from n)
theorem sw_no2 {C : Ct} {x : Str} {px : Pos} {l : Nat} {env : PySem.Env} (hs : env.scope = C.sc) (h : okE e = true) (n : (!isLC e || cellT C (.Name x px)) = true) : swapsWith e (some (.Name x px)) l env = pure false := by
  by_cases hn : isLC e = false
  · exact sw_no h hn
  · rcases Bool.or_eq_true_iff.mp n with n | n
    · exact absurd (by simpa using n) hn
    · have k : env.scope.names.lookup x ≠ some .local := by rw [hs]; exact of_decide_eq_true n
      cases e <;> first | rfl | skip
      all_goals
        show pure (env.blockKind == .function && env.kindOf x == some .local && px.line == _ && _) = _
        have k2 : (env.kindOf x == some .local) = false := by
          show (env.scope.names.lookup x == some .local) = false
          simpa using k
        rw [k2, Bool.and_false, Bool.false_and, Bool.false_and]
theorem sws_no {env : PySem.Env} (h : okE e = true) (n : isTupE e = false) : swappedStores [t] e env = pure none := by
  cases e <;> first | (cases t <;> rfl) | exact nomatch (show false = true from h) | exact nomatch (show true = false from n)
theorem few_of2 {e2 : Expr} {env : PySem.Env} (h : okE e = true) (h2 : okE e2 = true) : ((backTo pos (starEach [e, e2] env)).all (fun x => !x.1) && (backToKw pos (keywordEach [] env)).all (fun x => x.1.isSome)
      && decide ([e, e2].length + ([] : List Keyword).length + (if ([] : List Keyword).isEmpty then 0 else 1) < 30)) = true := by
  rw [star_of h, star_of h2]
  rfl
theorem list_extendW (l : Addr) (items : Array Value) (n : Nat) (b : Addr) (items2 : Array Value) (n2 : Nat) (dd2 : Option Addr) (sl2 : Array (Option Value)) (hc0 : ¬(!items.isEmpty && Builtin.List.listTooLong (items.size + items2.size)) = true) (hc1 : items.size ≤ sizeLine) (hs2 : items.size + items2.size ≤ sizeLine + 1 := by seq_fits) :
    Meets (Builtin.«list.extend» ⟨[.ref l, .ref b], []⟩) (fun _ R s => s.heap.get? l = some { cls := .type "list", dict := none, data := .seq items n, slots := #[] } ∧ s.heap.get? b = some { cls := .type "list", dict := dd2, data := .seq items2 n2, slots := sl2 } ∧ R (.ok (.ret Value.none)) { s with heap := s.heap.update l (Obj.mapSeq fun x => x ++ items2), toks := s.toks }) :=
  .of_wp fun prog w A R s h => by
    obtain ⟨hp, g, d, tk, os⟩ := s; obtain ⟨hl, hb, h⟩ := h; have f1 := AutoSeq1.idx_int; have f2 := AutoSeq1.sub_tuple_tuple; have f3 := AutoSeq1.sub_list_list; have f4 := AutoSeq1.sub_tuple_list; have f5 := AutoSeq1.sub_list_tuple;
    have hz' : (items ++ items2).size ≤ sizeLine + 1 := by rw [Array.size_append]; exact hs2
    wp_walk using (wpAny_updateSeq hl rfl (hz := hc1) (_hz' := hz')), wpAny_loadPart' hl, wpAny_loadPart' hb; exact ⟨_, rfl, h⟩
def rExtendS (K : PySem.W.Frag) : V → List V → Hp → VK → Prop := fun x vs H Q => ∃ l b xs zs, x = .ref l ∧ vs = [.ref b] ∧ H l = some (.lst xs) ∧ SqL K H b zs ∧ xs.length + zs.length ≤ sizeLine ∧ Q .non (upd H l (.lst (xs ++ zs)))
theorem mt_extendS : MtM X "list.extend" (rExtendS X.K) := by
  intro pins s σ H x vs v us Q I rx rv h
  obtain ⟨l, b, xs, zs, rfl, rfl, hH, hB, hz, q⟩ := h
  cases rx
  obtain ⟨u, rfl, ru⟩ := rv.one
  cases ru
  obtain ⟨z, its, n, r, hl, e⟩ := I.lstM hH
  obtain ⟨its2, r2, ⟨⟨cls2, dd2, dt2, sl2⟩, n2, ho2, hc2, hd2, hdt2⟩, z2⟩ := I.list hB
  simp only at hc2 hd2 hdt2
  subst hc2 hd2 hdt2
  have hl2 := r2.length
  have hsz : its.toArray.size + its2.toArray.size ≤ sizeLine := by rw [List.size_toArray, List.size_toArray]; omega
  have hlong : ¬ (!its.toArray.isEmpty && Builtin.List.listTooLong (its.toArray.size + its2.toArray.size)) = true := by
    rw [notLongL hsz, Bool.and_false]
    exact Bool.false_ne_true
  refine call_meets F.slot_list_extend ⟨_, e, rfl⟩ F.entry_list_extend (F.args_list_extend_2 _ _)
    (list_extendW l its.toArray n b its2.toArray n2 none sl2 hlong (by rw [List.size_toArray]; omega) (by omega)) ⟨e, ho2, ?_⟩
  refine ⟨.non, _, I.lset (its' := its ++ its2) hH e (by simp) (r.append r2) ?_, rfl, q⟩
  rw [List.length_append]
  omega
theorem swap_two {x y : Str} {px py pt pt2 : Pos} {kt k2 : Nat} {a b : Expr} {env : PySem.Env} (hk : env.scope.kind = .function) (hx : env.scope.names.lookup x = some .local) (hy : env.scope.names.lookup y = some .local) (hl : (py.line == px.line) = true) (hn : (x == y) = false)
    (ha : okE a = true) (hb : okE b = true) (h1 : [a, b].all (foldedForSure 8) = false) (h2 : [a, b].all (constantsAlone 8) = false) :
    swappedStores [.Tuple [.Name x px, .Name y py] kt pt] (.Tuple [a, b] k2 pt2) env = pure (some [x, y]) := by
  have hb' : env.blockKind = .function := by unfold Env.blockKind; rw [hk]; rfl
  have kx : env.kindOf x = some .local := hx
  have ky : env.kindOf y = some .local := hy
  have f : ∀ e, okE e = true → (match e with | .Starred .. => true | _ => false) = false := fun e he => by cases e <;> first | rfl | cases he
  have s : ([a, b].any fun e => match e with | .Starred .. => true | _ => false) = false := by
    rw [List.any_cons, List.any_cons, f a ha, f b hb]
    rfl
  have hne : ¬ x = y := fun z => by rw [z] at hn; simp at hn
  have hl' : py.line = px.line := by simpa using hl
  unfold swappedStores
  simp only [hb', kx, ky, h1, h2, s, hl', Expr.pos, List.length_cons, List.length_nil, List.head?_cons, Option.map_some, Option.getD_some, List.filterMap_cons, List.filterMap_nil, beq_self_eq_true, Bool.and_self, if_true]
  simp [List.eraseDups_cons, hne, Ne.symm, fun z : y = x => hne z.symm, hn, hb']
  intro z
  exfalso
  rcases z with z | z
  · cases a <;> first | exact nomatch (show false = true from z) | exact nomatch (show false = true from ha)
  · cases b <;> first | exact nomatch (show false = true from z) | exact nomatch (show false = true from hb)
end

/-! ### soundness -/
section
variable {F : Nat → List PyData → R PyData} {G : Gs} {N : Nat}
theorem GdS.try_ {C : CtS} {W W' : WX} {X : Cx} (g : GdS C F G W X) (hs : C.st = false) {pn : List (Addr × Obj)} {xe : Value → Shared → Prop} (tk : Takes (X.tr pn xe) W') (po : PassesOwn (model X.prog X.w) X.A X.env xe) : GdS (tC C) F G W' (X.tr pn xe) where
  gd := { N := g.gd.N, nd := g.gd.nd, sc := g.gd.sc, calm := g.gd.calm, hu := g.gd.hu, tk := (by show Tk C.st _ _; rw [hs]; exact tk), fns := fun i x n h => g.gd.fns i x n h, bls := g.gd.bls, gis := g.gd.gis, gds := g.gd.gds, kfns := fun i x n kn h => g.gd.kfns i x n kn h, ffns := fun i x n h => g.gd.ffns i x n h, pfns := fun i x n k h => g.gd.pfns i x n k h, sfns := fun i x n h => g.gd.sfns i x n h, xq := fun _ _ _ z => nomatch z }
  st := g.st
  frm := g.frm
  po := po
  poA := fun _ h => nomatch h
  fnT := g.fnT
  exn := g.exn
  exm := g.exm
  exk := g.exk
  exs := g.exs
  kind := by
    have := g.kind
    cases hk : G.kd <;> rw [hk] at this <;> exact this
  xqf := g.xqf
  exp := fun c h => g.exp c h
theorem GdS.tryN_ {C : CtS} {W W' : WX} {X : Cx} (g : GdS C F G W X) {pn : List (Addr × Obj)} {xe : Value → Shared → Prop} (tk : L2N.Takes (X.tr pn xe) W') (po : PassesOwn (model X.prog X.w) X.A X.env xe) : GdS (sC C) F G W' (X.tr pn xe) where
  gd := { N := g.gd.N, nd := g.gd.nd, sc := g.gd.sc, calm := g.gd.calm, hu := g.gd.hu, tk := tk, fns := fun i x n h => by simp [sC] at h, bls := g.gd.bls, gis := g.gd.gis, gds := g.gd.gds, kfns := fun i x n kn h => by simp [sC] at h, ffns := fun i x n h => by simp [sC] at h, pfns := fun i x n k h => by simp [sC] at h, sfns := fun i x n h => g.gd.sfns i x n h, xq := fun _ _ _ z => nomatch z }
  st := g.st
  frm := g.frm
  po := po
  poA := fun h => nomatch h
  fnT := g.fnT
  exn := g.exn
  exm := g.exm
  exk := fun c h => by simp [sC] at h
  exs := g.exs
  kind := by
    have := g.kind
    cases hk : G.kd <;> rw [hk] at this <;> exact this
  xqf := g.xqf
  exp := fun c h => by simp [sC] at h
theorem GdS.suite_ {C : CtS} {W : WX} {X : Cx} {F2 : Nat → List PyData → R PyData} (g : GdS C F G W X) {a : Addr} {pn : List (Addr × Obj)} : GdS (hC C) F2 G (fun _ _ _ _ => False) (X.suite a pn) where
  gd := { N := g.gd.N, nd := g.gd.nd, sc := g.gd.sc, calm := fun z => (nomatch z), hu := g.gd.hu, tk := tk0, fns := fun i x n h => by simp [hC] at h, bls := g.gd.bls, gis := g.gd.gis, gds := g.gd.gds, kfns := fun i x n kn h => by simp [hC] at h, ffns := fun i x n h => by simp [hC] at h, pfns := fun i x n k h => by simp [hC] at h, sfns := fun i x n h => by simp [hC] at h, xq := fun _ _ _ z => nomatch z }
  st := g.st
  frm := g.frm
  po := PassesOwn.never
  poA := fun _ h => nomatch h
  fnT := g.fnT
  exn := g.exn
  exm := g.exm
  exk := fun c h => by simp [hC] at h
  exs := g.exs
  kind := by
    have := g.kind
    cases hk : G.kd <;> rw [hk] at this <;> exact this
  xqf := g.xqf
  exp := fun c h => by simp [hC] at h
theorem bi_list_cases : ∀ ds : List PyData, (∃ xs, ds = [.list xs]) ∨ (∃ xs, ds = [.tuple xs]) ∨ bi .list ds = .stuck
  | [] => .inr (.inr rfl)
  | [.list xs] => .inl ⟨xs, rfl⟩
  | [.tuple xs] => .inr (.inl ⟨xs, rfl⟩)
  | [.none] => .inr (.inr rfl)
  | [.bool _] => .inr (.inr rfl)
  | [.int _] => .inr (.inr rfl)
  | [.str _] => .inr (.inr rfl)
  | [.dict _] => .inr (.inr rfl)
  | a :: b :: c => .inr (.inr (by cases a <;> rfl))
theorem bnot {b : Bool} (h : (!b) = true) : b = false := by simpa using h
section
variable {C : Ct} {W : WX} {X : Cx} {σ : L2.St} {H : Hp} {Q : VK}
/-- new lists by rules -/
theorem sndN {m : E} {e : Expr} (g : Gd C F G W X) (hn : newE m = true) (h : chkE C m e = true) : PE X e (rdN X.K F G W m) := by
  cases m <;> first | exact nomatch (show false = true from hn) | skip
  · rename_i o a b
    cases o <;> first | exact nomatch (show false = true from hn) | skip
    · rw [chkE.eq_def] at h
      dsimp only at h
      split at h <;> first | cases h | skip
      obtain ⟨h1, h⟩ := ba2 h
      obtain ⟨h2, h3⟩ := ba2 h
      have e1 := of_decide_eq_true h1
      subst e1
      refine pe_imp (pe_op (r := rBop X.K .add) (op_bop .add) (snd a g h2).pe (snd b g h3).pe) fun σ H Q ⟨O, env, eo, hp⟩ => ?_
      rw [evE, R.bind_assoc] at hp
      refine ⟨O, env, eo, (Post.bind (rep := dp X.K O) hp).imp fun x H1 _ ⟨s1, d1, r1, hp1⟩ => ⟨O, env, eo.up s1, ?_⟩⟩
      rw [R.bind_assoc] at hp1
      refine (Post.bind (rep := dp X.K O) hp1).imp fun y H2 _ ⟨s2, d2, r2, hp2⟩ => ?_
      have r1 := dp_mono (cut_same s2) _ _ r1
      have al2 := ((eo.up s1).up s2).al
      cases d1 with
      | list ds =>
        cases d2 with
        | list es =>
          have hp2 : Post (dpn X.K O H) G σ H2 W Q ((if ds.length + es.length ≤ sizeLine then R.ok (.list (ds ++ es)) else .stuck).bind lsD) := hp2
          by_cases hc : ds.length + es.length ≤ sizeLine
          · rw [if_pos hc] at hp2
            obtain ⟨p, xs, rfl, q1, q2⟩ := inv_l r1
            obtain ⟨p', ys, rfl, q3, q4⟩ := inv_l r2
            refine .inr (.inl ⟨_, _, _, _, rfl, rfl, sqL_mono cut_le q1, sqL_mono cut_le q3, by rw [dps_len q2, dps_len q4]; exact hc, fun p hp0 => ?_⟩)
            have hH : H p = none := by
              cases z : H p with
              | none => rfl
              | some o => rw [(s1.trans s2) _ _ z] at hp0; cases hp0
            exact hp2 _ _ (Same.new hp0) ⟨p, _, _, rfl, rfl, hH, upd_same, dps_mono (same_cutD hp0 (Same.new hp0)) _ _ (dps_app q2 q4)⟩
          · rw [if_neg hc] at hp2
            exact hp2.elim
        | _ => exact hp2.elim
      | tuple ds =>
        cases d2 with
        | tuple es =>
          have hp2 : Post (dpn X.K O H) G σ H2 W Q ((if ds ≠ [] ∧ es ≠ [] ∧ ds.length + es.length ≤ sizeLine then R.ok (.tuple (ds ++ es)) else if ds = [] ∧ es.length ≤ sizeLine then R.ok (.tuple es) else if es = [] ∧ ds.length ≤ sizeLine then R.ok (.tuple ds) else .stuck).bind lsD) := hp2
          by_cases hc : ds ≠ [] ∧ es ≠ [] ∧ ds.length + es.length ≤ sizeLine
          · rw [if_pos hc] at hp2
            exact hp2.elim
          · rw [if_neg hc] at hp2
            by_cases hc2 : ds = [] ∧ es.length ≤ sizeLine
            · rw [if_pos hc2] at hp2
              exact hp2.elim
            · rw [if_neg hc2] at hp2
              by_cases hc3 : es = [] ∧ ds.length ≤ sizeLine
              · rw [if_pos hc3] at hp2
                exact hp2.elim
              · rw [if_neg hc3] at hp2
                exact hp2.elim
        | _ => exact hp2.elim
      | str x =>
        cases d2 with
        | str y =>
          have hp2 : Post (dpn X.K O H) G σ H2 W Q ((if x.length + y.length ≤ 1000000 then R.ok (.str (x ++ y)) else .stuck).bind lsD) := hp2
          by_cases hc : x.length + y.length ≤ 1000000
          · rw [if_pos hc] at hp2
            exact hp2.elim
          · rw [if_neg hc] at hp2
            exact hp2.elim
        | _ => exact hp2.elim
      | _ => cases d2 <;> exact hp2.elim
    · rw [chkE.eq_def] at h
      dsimp only at h
      split at h <;> first | cases h | skip
      obtain ⟨h1, h⟩ := ba2 h
      obtain ⟨h2, h3⟩ := ba2 h
      have e1 := of_decide_eq_true h1
      subst e1
      refine pe_imp (pe_op (r := rBop X.K .mul) (op_bop .mul) (snd a g h2).pe (snd b g h3).pe) fun σ H Q ⟨O, env, eo, hp⟩ => ?_
      rw [evE, R.bind_assoc] at hp
      refine ⟨O, env, eo, (Post.bind (rep := dp X.K O) hp).imp fun x H1 _ ⟨s1, d1, r1, hp1⟩ => ⟨O, env, eo.up s1, ?_⟩⟩
      rw [R.bind_assoc] at hp1
      refine (Post.bind (rep := dp X.K O) hp1).imp fun y H2 _ ⟨s2, d2, r2, hp2⟩ => ?_
      have r1 := dp_mono (cut_same s2) _ _ r1
      have al2 := ((eo.up s1).up s2).al
      cases d1 with
      | list ds =>
        cases d2 with
        | int k =>
          have hp2 : Post (dpn X.K O H) G σ H2 W Q ((if k ≤ 1000 ∧ -1000 ≤ k ∧ ds.length ≤ 1000 then R.ok (.list (List.replicate k.toNat ds).flatten) else .stuck).bind lsD) := hp2
          by_cases hc : k ≤ 1000 ∧ -1000 ≤ k ∧ ds.length ≤ 1000
          · rw [if_pos hc] at hp2
            obtain ⟨p, xs, rfl, q1, q2⟩ := inv_l r1
            have r2 : y = .int k := by cases r2; rfl
            subst r2
            refine .inr (.inl ⟨_, _, _, rfl, rfl, sqL_mono cut_le q1, hc.1, hc.2.1, by rw [dps_len q2]; exact hc.2.2, fun p hp0 => ?_⟩)
            have hH : H p = none := by
              cases z : H p with
              | none => rfl
              | some o => rw [(s1.trans s2) _ _ z] at hp0; cases hp0
            exact hp2 _ _ (Same.new hp0) ⟨p, _, _, rfl, rfl, hH, upd_same, dps_mono (same_cutD hp0 (Same.new hp0)) _ _ (dps_rep q2 _)⟩
          · rw [if_neg hc] at hp2
            exact hp2.elim
        | _ => exact hp2.elim
      | int i =>
        cases d2 with
        | int j =>
          have hp2 : Post (dpn X.K O H) G σ H2 W Q ((if i.natAbs.log2 + j.natAbs.log2 < 134000000 then R.ok (.int (i * j)) else .stuck).bind lsD) := hp2
          by_cases hc : i.natAbs.log2 + j.natAbs.log2 < 134000000
          · rw [if_pos hc] at hp2
            exact hp2.elim
          · rw [if_neg hc] at hp2
            exact hp2.elim
        | _ => exact hp2.elim
      | str t =>
        cases d2 with
        | int k =>
          have hp2 : Post (dpn X.K O H) G σ H2 W Q ((if 0 ≤ k ∧ k ≤ 1000 ∧ t.length ≤ 1000 then R.ok (.str (strRep t k.toNat)) else .stuck).bind lsD) := hp2
          by_cases hc : 0 ≤ k ∧ k ≤ 1000 ∧ t.length ≤ 1000
          · rw [if_pos hc] at hp2
            exact hp2.elim
          · rw [if_neg hc] at hp2
            exact hp2.elim
        | _ => exact hp2.elim
      | _ => cases d2 <;> exact hp2.elim
  · rename_i es
    rw [chkE.eq_def] at h
    dsimp only at h
    split at h <;> first | cases h | skip
    obtain ⟨h1, h2⟩ := ba2 h
    exact pn_lst (snds es g h1) (of_decide_eq_true h2)
  · rename_i a lo hi
    rw [chkE.eq_def] at h
    dsimp only at h
    split at h <;> first | cases h | skip
    obtain ⟨h1, h⟩ := ba2 h
    obtain ⟨h2, h3⟩ := ba2 h
    refine pe_imp (pe_slice (SlR.or sl_list sl_tupA) (snd a g h1).pe (po_of (snds lo g h2)) (po_of (snds hi g h3))) fun σ H Q ⟨O, env, eo, hp⟩ => ?_
    rw [evE] at hp
    have hp : Post (dpn X.K O H) G σ H W Q ((evE F a env).bind fun x => ((evEs F lo env).bind fun l => partD l).bind fun l => ((evEs F hi env).bind fun h => partD h).bind fun h => (slop x l h).bind lsD) := by
      simpa [R.bind_assoc] using hp
    refine ⟨O, env, eo, (Post.bind (rep := dp X.K O) hp).imp fun x H1 _ ⟨s1, d1, r1, hp1⟩ => ⟨O, env, eo.up s1, (Post.bind (rep := fun _ o o' => o = o') hp1).imp fun l H2 _ ⟨s2, l', rl, hp2⟩ => ⟨O, env, (eo.up s1).up s2, (Post.bind (rep := fun _ o o' => o = o') hp2).imp fun u H3 _ ⟨s3, u', ru, hp3⟩ => ?_⟩⟩⟩
    subst rl
    subst ru
    have r3 := dp_mono (cut_same (s2.trans s3)) _ _ r1
    have noS : ∀ t : Str, d1 = .str t → False := fun t e => by
      subst e
      by_cases hc : t.length ≤ 1000000
      · have e0 : slop (.str t) l u = .ok (.str (L2.cutS t l u)) := if_pos hc
        rw [e0] at hp3
        exact hp3
      · have e0 : slop (.str t) l u = .stuck := if_neg hc
        rw [e0] at hp3
        exact hp3
    cases d1 <;> first | exact hp3.elim | exact (noS _ rfl).elim | skip
    obtain ⟨p, xs, rfl, q1, q2⟩ := inv_l r3
    refine .inl ⟨p, xs, rfl, sqL_mono cut_le q1, fun p hp0 => ?_⟩
    have hH : H p = none := by
      cases z : H p with
      | none => rfl
      | some o => rw [((s1.trans s2).trans s3) _ _ z] at hp0; cases hp0
    exact hp3 _ _ (Same.new hp0) ⟨p, _, _, rfl, rfl, hH, upd_same, dps_mono (same_cutD hp0 (Same.new hp0)) _ _ (cut_dq _ _ q2)⟩
  · rename_i b es
    cases b <;> first | exact nomatch (show false = true from hn) | skip
    rw [chkE.eq_def] at h
    dsimp only at h
    split at h <;> first | cases h | skip
    rename_i x pp a0 as pos
    obtain ⟨h1, h⟩ := ba2 h
    obtain ⟨hcm, h⟩ := ba2 h
    obtain ⟨h2, h⟩ := ba2 h
    obtain ⟨h3, h4⟩ := ba2 h
    have e1 := of_decide_eq_true h1
    subst e1
    have ss := snds es g h4
    have ok := ss.ok
    rw [List.all_cons, Bool.and_eq_true] at ok
    refine pe_imp (pe_bi (g.calm hcm) g.hu .list (gl_of g h2) (g.bls _ (of_decide_eq_true h3)) ss.pa (star_of ok.1) (plain_of ok.2)) fun σ H Q ⟨O, env, eo, hp⟩ => ?_
    rw [evE, R.bind_assoc] at hp
    refine ⟨O, env, eo, (Post.bind (rep := dps X.K O) hp).imp fun vs H1 _ ⟨s1, ds, r1, hp1⟩ => ?_⟩
    have fresh : ∀ p, H1 p = none → H p = none := fun p hp0 => by
      cases z : H p with
      | none => rfl
      | some o => rw [s1 _ _ z] at hp0; cases hp0
    rcases bi_list_cases ds with ⟨xs, rfl⟩ | ⟨xs, rfl⟩ | hb
    · cases r1 with
      | cons r1 r2 =>
        cases r2
        obtain ⟨p, xs, rfl, q1, q2⟩ := inv_l r1
        exact ⟨p, xs, rfl, .inl (sqL_mono cut_le q1), fun l hl => hp1 _ _ (Same.new hl) ⟨l, _, _, rfl, rfl, fresh l hl, upd_same, dps_mono (same_cutD hl (Same.new hl)) _ _ q2⟩⟩
    · cases r1 with
      | cons r1 r2 =>
        cases r2
        obtain ⟨p, xs, rfl, q1, q2⟩ := inv_t r1
        exact ⟨p, xs, rfl, .inr (sqT_mono cut_le q1), fun l hl => hp1 _ _ (Same.new hl) ⟨l, _, _, rfl, rfl, fresh l hl, upd_same, dps_mono (same_cutD hl (Same.new hl)) _ _ q2⟩⟩
    · rw [hb] at hp1
      exact hp1.elim
  · rename_i f es
    rw [chkE.eq_def] at h
    dsimp only at h
    split at h <;> first | cases h | skip
    obtain ⟨h1, h⟩ := ba2 h
    obtain ⟨h2, h⟩ := ba2 h
    obtain ⟨h3, h4⟩ := ba2 h
    exact pe_imp (snd_callF g (snds es g h4) (of_decide_eq_true h1) h2 h3) fun σ H Q hq => rdF_rdN hq
  · rename_i w ws tg c elt own
    rw [chkE.eq_def] at h
    dsimp only at h
    split at h <;> first | cases h | skip
    rename_i elt' tg' iter ifs scope pos
    obtain ⟨hcm, h⟩ := ba2 h
    obtain ⟨h1, h⟩ := ba2 h
    obtain ⟨h2, h⟩ := ba2 h
    obtain ⟨h3, h⟩ := ba2 h
    obtain ⟨h4, h⟩ := ba2 h
    obtain ⟨h5, h⟩ := ba2 h
    obtain ⟨h6, h⟩ := ba2 h
    obtain ⟨h7, h⟩ := ba2 h
    obtain ⟨h8, h9⟩ := ba2 h
    split at h5 <;> first | cases h5 | skip
    rename_i as hq
    exact pn_lc g hcm h1 h2 h3 h4 hq (snds ws g h5) h7 (of_decide_eq_true h8) (fun s H Ca cl fp => snds c (g.blk s H scope Ca cl fp) h6) (fun s H Ca cl fp => (snd elt (g.blk s H scope Ca cl fp) h9).pe)
end
end
end Bs

namespace Bs
open PySem PySem.Spec L2
open PyProof.Rows hiding St

/-! ### xs[:c] = ys -/
section
variable {prog : Program} {w : World} {A : Around} {E : Value → Shared → Prop} {s : Shared}
theorem front_bounds {c n : Nat} (hc : c ≤ n) : sliceBounds none (some (c : Int)) none n = (0, (c : Int), 1) := by
  have h := slice_bounds none (some (c : Int)) n
  obtain ⟨h1, h2, h3⟩ := h
  rw [HT.sIx_none] at h1
  rw [HT.sIx_nat, Nat.min_eq_left hc] at h2
  exact Prod.ext h1 (Prod.ext h2 h3)
theorem store_front {l b sl : Addr} {items new : Array Value} {n n2 : Nat} {vu : Value} {c : Nat} {Q : Unit → Shared → Prop}
    (e : s.heap.get? l = some { cls := .type "list", data := .seq items n }) (e2 : s.heap.get? b = some { cls := .type "list", data := .seq new n2 }) (hne : l ≠ b)
    (hs : s.heap.IsSliceOf sl .none vu .none) (pu : IsPart vu (some (c : Int))) (hc : c ≤ items.size)
    (hsz : items.size + new.size ≤ sizeLine) (h : Q () { s with heap := s.heap.update l (Obj.mapSeq fun xs => xs.extract 0 0 ++ new ++ xs.extract c xs.size) }) :
    wpAny (model prog w) A (setItem (.ref l) (.ref sl) (.ref b)) Q E s := by
  have hl : s.heap.IsList l items := PySem.IsL.isList e
  have hb : s.heap.IsList b new := PySem.IsL.isList e2
  obtain ⟨os, hos, hcs, hds⟩ := id hs
  have hTs : s.TypeIs (.ref sl) "slice" := ⟨os, hos, hcs⟩
  have hsame : Builtin.List.listSameRef (.ref l) (.ref b) = false := beq_eq_false_iff_ne.mpr hne
  have hmax : (max (0 : Int) (c : Int)).toNat = c := by omega
  have hz' : ((fun xs : Array Value => xs.extract 0 0 ++ new ++ xs.extract c xs.size) items).size ≤ sizeLine + 1 := by
    simp only [Array.size_append, Array.size_extract]
    omega
  unfold setItem
  refine wpAny_holding ?_
  refine wpAny_bind (wpAny_sequenceKey hl.typeIs (by decide) ?_)
  refine wpAny_bind (wpAny_callSpecial?_slot (name := Str.ofString "__setitem__") hl.typeIs slot_list_setitem
    (wpAny_call_entry slot_list_setitem hl.typeIs entry_list_setitem ?_ (args_list_setitem _ _ _)))
  show wpAny _ _ (Builtin.List.listSubscript? (.ref sl) >>= _) _ _ s
  refine wpAny_bind ?_
  unfold Builtin.List.listSubscript?
  refine wpAny_bind (wpAny_specialOf hTs slice_no_index ?_)
  simp only [Option.isNone_none, if_true]
  refine wpAny_pure ?_
  show wpAny _ _ (typeOf (.ref sl) >>= _) _ _ s
  refine wpAny_bind (wpAny_typeOf hTs ?_)
  refine PySem.W.KFB.if_not (by decide) ?_
  rw [listSliceParts_eq]
  refine wpAny_bind (wpAny_bind (wpAny_field hos hds (x := .none) rfl (wpAny_bind (wpAny_listPart .none ?_))))
  rw [if_neg (show ¬ ((rawPart none == rawInt 0) = true) from Bool.false_ne_true)]
  refine wpAny_bind (wpAny_field hos hds (x := .none) rfl (wpAny_bind (wpAny_listPart .none ?_)))
  refine wpAny_bind (wpAny_field hos hds (x := vu) rfl (wpAny_bind (wpAny_listPart pu (wpAny_pure ?_))))
  refine PySem.W.KFB.if_not (by rw [hsame]) ?_
  refine wpAny_bind (m := Builtin.List.listAllItems (.ref b) "must assign iterable to extended slice") ?_
  unfold Builtin.List.listAllItems
  refine wpAny_bind (wpAny_typeOf hb.typeIs ?_)
  refine PySem.W.KFB.if_so (by decide) ?_
  unfold Builtin.List.listItems
  refine wpAny_bind (wpAny_seqItems e2 rfl (wpAny_pure ?_))
  refine wpAny_bind (wpAny_bind (wpAny_seqItems e rfl (wpAny_pure ?_)))
  refine wpAny_bind (wpAny_of_eq ((sliceIndices_raw none (some (c : Int)) none items.size (by simp)).trans (congrArg (pure : Int × Int × Int → Sem (Int × Int × Int)) (front_bounds hc))) ?_)
  show wpAny _ _ (if ((1 : Int) == 1) = true then _ else _) _ _ s
  rw [if_pos (by decide)]
  refine wpAny_bind (wpAny_rule ?_)
  refine PySem.W.KFB.if_not (by rw [notLongL hsz]) ?_
  show wpAny _ _ (updateSeq l (fun xs => xs.extract 0 ((0 : Int)).toNat ++ new ++ xs.extract (max (0 : Int) (c : Int)).toNat xs.size) >>= _) _ _ s
  rw [hmax]
  refine wpAny_bind (wpAny_updateSeq (hz := Nat.le_trans (Nat.le_add_right _ _) hsz) (_hz' := hz') e rfl ?_)
  refine wpAny_bind (wpAny_letGo ?_)
  exact wpAny_pure ⟨.none, rfl, wpAny_pure h⟩
end
section
variable {X : Cx}
/-- o[:c] = v -/
def gFront (to : TE) (tu : TO) : TG := fun v σ H Q => to σ H fun o H1 => tu σ H1 fun oc H2 => ∃ l b xs ys c, o = .ref l ∧ v = .ref b ∧ l ≠ b ∧ oc = some c ∧ H2 l = some (.lst xs) ∧ H2 b = some (.lst ys) ∧ 0 ≤ c ∧ c ≤ xs.length ∧ xs.length + ys.length ≤ sizeLine ∧ Q σ (upd H2 l (.lst (ys ++ xs.drop c.toNat)))
theorem pg_front {o hi : Expr} {to : TE} {tu : TO} {p2 pos : Pos} (ho : PE X o to) (hu : PO X (some hi) tu) : PG X (.Subscript o (.Slice none (some hi) none p2) pos) (gFront to tu) := by
  refine ⟨fun pins s σ H v u Q I r h => ?_⟩
  show wpAny _ _ (holding [u] (eval o X.env) >>= _) _ _ s
  refine wpAny_bind (wpAny_holding (wpAny_mono (ho.run pins s σ H _ I h) (fun ov s1 q => ?_) fun _ _ x => x))
  obtain ⟨x, H1, I1, r1, q1⟩ := q
  refine wpAny_bind (wpAny_holding (wpAny_Slice ?_))
  rw [evalPart_none]
  refine wpAny_pure ?_
  refine wpAny_mono (hu.run pins s1 σ H1 _ I1 q1) (fun u2 s2 q => ?_) fun _ _ x => x
  obtain ⟨oc, H2, I2, pu, l, b, xs, ys, c, rfl, rfl, hne, rfl, hl, hb, h0, hc, hz, q2⟩ := q
  refine wpAny_pure ?_
  cases r1
  cases r
  obtain ⟨c', rfl⟩ := Int.eq_ofNat_of_zero_le h0
  have I3 : Inv X pins σ H2 { s2 with heap := s2.heap.push { cls := .type "slice", data := .fields #[.none, u2, .none] } } := I2.kept (t' := s2.toks) fun b ob q => Heap.get?_push_of_some _ q
  refine wpAny_bind (wpAny_standAt (wpAny_bind (wpAny_holding ?_)))
  obtain ⟨z, its, n, r, hl1, e⟩ := I3.lstM hl
  obtain ⟨z2, its2, n2, r2, hl2, e2⟩ := I3.lstM hb
  refine store_front (c := c') e e2 hne (Heap.IsSliceOf.new ..) pu (by rw [List.size_toArray]; omega) (by rw [List.size_toArray, List.size_toArray]; omega) (wpAny_release ⟨σ, _, ?_, q2⟩)
  refine I3.lset (its' := its2 ++ its.drop c') (t' := s2.toks) hl e ?_ (r2.append (r.drop _)) ?_
  · have := splice_eq its its2 0 c'
    simpa using this
  · rw [List.length_append, List.length_drop]
    omega
end
end Bs

namespace Bs
open PySem PySem.Spec L2
open PyProof.Rows hiding St

/-! ### what a suite asks of its exception -/
section
variable {X : Cx}
/-- isinstance of the exception at a, of the class E -/
def rIsD (K : PySem.W.Frag) (E a : Addr) (d : Option Addr) : List V → Hp → VK → Prop := fun xs H Q => ∃ (c : V) (b : Bool), xs = [.ref a, c] ∧ (∀ dd, d = some dd → ∃ fs, H dd = some (.xd fs)) ∧
  ((∃ cv, (∀ u, L2.RelV c u → u = cv) ∧ PySem.W.kitOne K (.ref E) cv = some b) ∨ ∃ T vs cvs, c = .ref T ∧ H T = some (.tup vs) ∧ (∀ us, Vals vs us → us = cvs) ∧ PySem.W.kitAny K (.ref E) cvs = some b) ∧ Q (.bl b) H
theorem call_isD {a E : Addr} {oe : Obj} {d : Option Addr} (hp : (a, oe) ∈ X.pn) (C : ExcC X.K E) (hz : Zc (.ref E) d oe) (hf : ∃ vs, oe.data = .fields vs) : CallR X (.builtin "isinstance") (rIsD X.K E a d) := by
  intro pins s σ H xs us Q I r h
  obtain ⟨c, b, e0, hd, hc, q⟩ := h
  subst e0
  obtain ⟨u1, us1, rfl, r1, r2⟩ : ∃ u1 us1, us = u1 :: us1 ∧ RelV (.ref a) u1 ∧ Vals [c] us1 := by
    cases r with
    | cons p t => exact ⟨_, _, rfl, p, t⟩
  obtain ⟨u2, rfl, r3⟩ : ∃ u2, us1 = [u2] ∧ RelV c u2 := by
    cases r2 with
    | cons p t => cases t; exact ⟨_, rfl, p⟩
  obtain rfl : u1 = Value.ref a := r1
  have pin := I.pin (a, oe) (List.mem_append_left _ hp)
  have cl : (PySem.W.clsIn X.K E).isSome = true := by
    obtain ⟨cd, hcd, _⟩ := PySem.W.any_some C.hd
    rw [hcd]
    rfl
  obtain ⟨od, J⟩ : ∃ od, PySem.W.InstAt s.heap a oe E od := by
    obtain ⟨vs, hv⟩ := hf
    have nc : PySem.W.notCls oe := by
      unfold PySem.W.notCls
      rw [hv]
    cases d with
    | none => exact ⟨none, pin.1, hz.1, nc, by rw [hz.2]; trivial⟩
    | some dd =>
      obtain ⟨fs, hx⟩ := hd dd rfl
      have ok : ObjOk X.prog X.w H s.heap dd (.xd fs) := I.hok dd _ hx
      obtain ⟨mA, hns, _⟩ := ok
      obtain ⟨ob, ho, _⟩ := lookIn_ns hns
      exact ⟨some ob, pin.1, hz.1, nc, by rw [hz.2]; exact ho⟩
  have Z := PySem.W.kitx_exc (x := a) (ox := oe) (od := od) cl C.hg C.hk C.hs C.ha C.hn C.ht C.hm
  have fin : ∀ tk, (fun v s' => L2.EP X pins σ Q v s') (.bool b) { s with toks := tk } := fun tk => ⟨.bl b, H, I.kept (t' := tk) fun _ _ z => z, rfl, q⟩
  rcases hc with ⟨cv, hcv, e⟩ | ⟨T, vs, cvs, rfl, hT, hcv, e⟩
  · rw [hcv _ r3]
    exact PySem.W.kia_one Z I.kIn J e (fun z => nomatch z) fin
  · obtain rfl : u2 = Value.ref T := r3
    obtain ⟨_, us, rus, o, ho, hc, n, hdt⟩ := I.hok T _ hT
    rw [hcv us rus] at hdt
    obtain ⟨oc, od2, odt, osl⟩ := o
    simp only at hc hdt
    subst hc hdt
    exact PySem.W.kia_tup Z I.kIn J ho e (fun z => nomatch z) fin
end
/-- a field of an exception that is pinned -/
theorem pe_xfP {X : Cx} {a C : Addr} {oe : Obj} {cls : Value} {d : Option Addr} (hp : (a, oe) ∈ X.pn) {e : Expr} {te : TE} {pos : Pos} {n : Str} (T : XfC X.K C) (hno : PySem.W.findIn X.K (.ref C) n = some none)
    (hz : Zc cls d oe) (hf : ∃ vs, oe.data = .fields vs) (he : PE X e te) (hb : attributeBase e n X.env (eval e X.env) = eval e X.env := by rfl) :
    PE X (.Attribute e n pos) (tXf a cls d C n te) := by
  refine ⟨fun pins s σ H Q I h => ?_⟩
  refine attr_of hb (thn (he.run pins s σ H _ I h) fun u s1 hh => ?_)
  obtain ⟨x, H1, I1, rx, ex, ec, dd, fs, v, ed, ea, l, q⟩ := hh
  subst ex
  obtain rfl : u = Value.ref a := rx
  subst ec
  subst ed
  obtain ⟨ha, _⟩ := I1.pin (a, oe) (List.mem_append_left _ hp)
  obtain ⟨vs, hd⟩ := hf
  have hx : ObjOk X.prog X.w H1 s1.heap dd (.xd fs) := I1.hok dd _ ea
  obtain ⟨mA, hns, hr⟩ := hx
  obtain ⟨od, ho, hl⟩ := lookIn_ns hns
  obtain ⟨u, hu, ru⟩ := RelO.some_of (v := v) (o := mA n) (by rw [← l]; exact hr n)
  have J : PySem.W.InstAt s1.heap a oe C (some od) := ⟨ha, hz.1, by unfold PySem.W.notCls; rw [hd] <;> rfl, by rw [hz.2]; exact ho⟩
  exact HandSPX.exc_get I1.kIn J T.ga T.gg T.exC (PySem.W.findObj_own T.hdC hno rfl (by rw [hl, hu])) (handed_of ru) ⟨v, H1, I1.tok _, ru, q⟩
section
variable {F : Nat → List PyData → R PyData} {G : Gs} {W : WX} {X : Cx}
theorem hit_int {c k : Nat} : hitD c (.int (k : Nat)) = (decide (k = 11) || subX c k) := by
  show (decide ((k : Int) = 11) || subX c ((k : Int)).toNat) = _
  have e : ((k : Int) = 11) ↔ k = 11 := by omega
  simp only [e, Int.toNat_natCast]
/-- a class by its name -/
theorem cls_pe {C : Ct} {exs : List (Nat × Str)} (g : Gd C F G W X) (f : XqF X.K G) (exn : ∀ k, G.has k = (exs.lookup k).isSome) (exm : ∀ k x, exs.lookup k = some x → X.mg x = some (.ref (G.ex k))) {k : Nat} {x : Str} {p : Pos}
    (h1 : clsNo C exs k x = true) (h2 : isGl C.sc x = true) (h3 : notDbg x = true) :
    ∃ v cv, PE X (.Name x p) (L2.tC v) ∧ L2.RelV v cv ∧ (∀ u, L2.RelV v u → u = cv) ∧ ∀ c, G.has c = true → PySem.W.kitOne X.K (.ref (G.ex c)) cv = some (hitD c (.int (k : Nat))) := by
  unfold clsNo at h1
  by_cases hk : k = 11
  · rw [if_pos hk] at h1
    obtain ⟨h4, h5⟩ := ba2 h1
    have e := of_decide_eq_true h4
    subst e
    subst hk
    refine ⟨.ty "ValueError", .type "ValueError", pe_bltn (gl_of g h2) (g.bls _ (of_decide_eq_true h5)) boot_ValueError rfl (by decide) (notDbg_ok h3), rfl, fun u r => r, fun c hc => ?_⟩
    rw [hit_int, f.ve c hc]
    rfl
  · rw [if_neg hk] at h1
    have e := of_decide_eq_true h1
    refine ⟨.ref (G.ex k), .ref (G.ex k), pe_glob (gl_of g h2) (exm k x e) rfl (notDbg_ok h3), rfl, fun u r => r, fun c hc => ?_⟩
    rw [hit_int, decide_eq_false hk, Bool.false_or]
    exact f.one c k hc (by rw [exn, e]; rfl)
def tCs (vs : List V) : TA := fun _ H Q => Q vs H
theorem clss_pa {C : Ct} {exs : List (Nat × Str)} (g : Gd C F G W X) (f : XqF X.K G) (exn : ∀ k, G.has k = (exs.lookup k).isSome) (exm : ∀ k x, exs.lookup k = some x → X.mg x = some (.ref (G.ex k))) : ∀ (ks : List Nat) (es : List Expr), clsNos C exs ks es = true →
    es.all okE = true ∧ ∃ vs cvs, PA X es (tCs vs) ∧ Vals vs cvs ∧ vs.length = ks.length ∧ (∀ us, Vals vs us → us = cvs) ∧ ∀ c, G.has c = true → PySem.W.kitAny X.K (.ref (G.ex c)) cvs = some (ks.any fun k => hitD c (.int (k : Nat)))
  | [], [], _ => ⟨rfl, [], [], pa_imp pa_nil fun σ H Q h => h, .nil, rfl, fun us r => by cases r; rfl, fun c _ => rfl⟩
  | [], _ :: _, h => by simp [clsNos] at h
  | k :: ks, [], h => by simp [clsNos] at h
  | k :: ks, e :: es, h => by
    unfold clsNos at h
    split at h <;> first | cases h | skip
    · rename_i q1 q2
      cases q1
    · rename_i k' ks' x p es' q1 q2
      cases q1
      cases q2
      obtain ⟨h1, h⟩ := ba2 h
      obtain ⟨h2, h⟩ := ba2 h
      obtain ⟨h3, h4⟩ := ba2 h
      obtain ⟨v, cv, pe, r0, u0, k0⟩ := cls_pe g f exn exm (p := p) h1 h2 h3
      obtain ⟨ok, vs, cvs, pa, r1, l1, u1, k1⟩ := clss_pa g f exn exm ks es h4
      refine ⟨by rw [List.all_cons, ok]; rfl, v :: vs, cv :: cvs, pa_imp (pa_cons pe pa rfl) fun σ H Q hq => hq, .cons r0 r1, congrArg Nat.succ l1, fun us r => ?_, fun c hc => ?_⟩
      · cases r with
        | cons a b => rw [u0 _ a, u1 _ b]
      · show (match PySem.W.kitOne X.K (.ref (G.ex c)) cv with
          | some true => some true
          | some false => PySem.W.kitAny X.K (.ref (G.ex c)) cvs
          | none => none) = _
        rw [k0 c hc, k1 c hc, List.any_cons]
        cases hitD c (.int (k : Nat)) <;> rfl
end
/-- what the suite's exception is held as -/
def XR (G : Gs) (c : Nat) (a : Addr) (d : Option Addr) (p : Option Int) (x : PyData) : Prop :=
  (p = none ∧ d = none ∧ x = .dict [(.int (a : Nat), .none)]) ∨ ∃ (i : Int) (dd : Addr), p = some i ∧ d = some dd ∧ x = .dict [(.int (a : Nat), .int (dd : Nat)), (.str (G.fld c), .int i)]
section
variable {F F' : Nat → List PyData → R PyData} {G : Gs} {W : WX} {X : Cx}
theorem xr_inv {K : PySem.W.Frag} {H : Hp} {c : Nat} {a : Addr} {d : Option Addr} {p : Option Int} {x : PyData} {v : V} (h : XR G c a d p x) (r : Dq K H v x) : v = .ref a ∧ ∀ dd, d = some dd → ∃ i, p = some i ∧ H dd = some (.xd [(G.fld c, .int i)]) := by
  rcases h with ⟨h1, h2, rfl⟩ | ⟨i, dd, h1, h2, rfl⟩
  · subst h2
    generalize hx : PyData.dict [(.int (a : Nat), .none)] = y at r
    cases r <;> cases hx
    exact ⟨rfl, fun dd z => nomatch z⟩
  · subst h2
    generalize hx : PyData.dict [(.int (a : Nat), .int (dd : Nat)), (.str (G.fld c), .int i)] = y at r
    cases r <;> cases hx
    rename_i q
    exact ⟨rfl, fun dd z => by cases z; exact ⟨i, h1, q⟩⟩
/-- a query's run: first the name -/
theorem xq_run {K : PySem.W.Frag} {c : Nat} {a : Addr} {d : Option Addr} {p : Option Int} {x : PyData} {ks : List Nat} {j : Nat} {σ : L2.St} {H : Hp} {Q : VK} (hx : XR G c a d p x) (h : rd K (exFn c p x) G W (.xq ks j) σ H Q) :
    rd K (exFn c p x) G W (.v j) σ H fun v H1 => v = .ref a ∧ (∀ dd, d = some dd → ∃ i, p = some i ∧ H1 dd = some (.xd [(G.fld c, .int i)])) ∧ ∃ O, Alloc O H1 ∧ Post (dp K O) G σ H1 W Q (exFn c p x 0 (x :: ks.map fun (k : Nat) => PyData.int (k : Nat))) := by
  obtain ⟨O, env, eo, hp⟩ := h
  refine ⟨O, env, eo, ?_⟩
  rw [evE] at hp
  rw [evE]
  refine (Post.bind (rep := dp K O) hp).imp fun v H1 _ ⟨s1, e, r, q⟩ => ?_
  by_cases z : e = x
  · subst z
    obtain ⟨h1, h2⟩ := xr_inv hx r
    refine ⟨h1, fun dd hd => ?_, O, eo.al.mono s1, q⟩
    obtain ⟨i, e1, e2⟩ := h2 dd hd
    exact ⟨i, e1, cut_le _ _ e2⟩
  · have e0 : exFn c p x 0 (e :: ks.map fun (k : Nat) => PyData.int (k : Nat)) = .stuck := by
      unfold exFn
      exact if_neg z
    rw [e0] at q
    exact q.elim
theorem clsNos_x {C : CtS} {n : Str} {i : Nat} {exs : List (Nat × Str)} : ∀ (ks : List Nat) (es : List Expr), clsNos (xC C n i).toCt exs ks es = clsNos (hC C).toCt exs ks es
  | [], [] => rfl
  | [], _ :: _ => rfl
  | _ :: _, [] => rfl
  | k :: ks, e :: es => by
    cases e <;> first | rfl | skip
    rename_i x p
    show (clsNo _ exs k x && (isGl _ x && (notDbg x && clsNos (xC C n i).toCt exs ks es))) = _
    rw [clsNos_x ks es]
    rfl
theorem GdS.xq_ {C : CtS} {a : Addr} {oe : Obj} {cls : Value} {d : Option Addr} (hp : (a, oe) ∈ X.pn) (hz : Zc cls d oe) (hf : ∃ vs, oe.data = .fields vs) {n : Str} {i c : Nat} {p : Option Int} {x : PyData} (g0 : GdS (hC C) (exFn c p x) G W X) (f : XqF X.K G)
    (hc : G.has c = true) (hcl : cls = .ref (G.ex c)) (hx : XR G c a d p x) : GdS (xC C n i) (exFn c p x) G W X := by
  subst hcl
  suffices hq : ∀ n' j exs, (xC C n i).toCt.cx = some (n', j, exs) → ∀ ks e, xqOk (xC C n i).toCt n' exs j ks e = true → PE X e (rd X.K (exFn c p x) G W (.xq ks j)) from
    { gd := { N := g0.gd.N, nd := g0.gd.nd, sc := g0.gd.sc, calm := g0.gd.calm, hu := g0.gd.hu, tk := g0.gd.tk, fns := g0.gd.fns, bls := g0.gd.bls, gis := g0.gd.gis, gds := g0.gd.gds, kfns := g0.gd.kfns, ffns := g0.gd.ffns, pfns := g0.gd.pfns, sfns := g0.gd.sfns, xq := hq }
      st := g0.st, frm := g0.frm, po := g0.po, poA := g0.poA, fnT := g0.fnT, exn := g0.exn, exm := g0.exm, exk := g0.exk, exs := g0.exs, kind := g0.kind, xqf := g0.xqf, exp := g0.exp }
  intro n' j exs hq ks e h
  cases hq
  have nm : ∀ {y : Str} {py : Pos}, y = n → (C.N[i]? = some n) → isVis C.sc n = true → notDbg n = true → notCls n = true → PE X (.Name y py) (rd X.K (exFn c p x) G W (.v i)) := fun {y py} e h1 h2 h3 h4 => by
    subst e
    refine (snd (.v i) (e := .Name y py) g0.gd ?_).pe
    rw [chkE.eq_def]
    show (decide (C.N[i]? = some y) && (isVis C.sc y && (notDbg y && notCls y))) = true
    rw [h1, h2, h3, h4]
    simp
  have ndb : (("isinstance" : Str) == ("__debug__" : Str)) = false := by decide
  unfold xqOk at h
  split at h <;> first | cases h | skip
  · rename_i x0 p0 y p1 k p2 p3
    obtain ⟨h1, h⟩ := ba2 h
    obtain ⟨h2, h⟩ := ba2 h
    obtain ⟨h3, h⟩ := ba2 h
    obtain ⟨h4, h⟩ := ba2 h
    obtain ⟨h5, h⟩ := ba2 h
    obtain ⟨h6, h⟩ := ba2 h
    obtain ⟨h7, h⟩ := ba2 h
    obtain ⟨h8, h⟩ := ba2 h
    obtain ⟨h9, h10⟩ := ba2 h
    obtain ⟨h912, h10⟩ := ba2 h10
    have h912 := of_decide_eq_true h912
    have e1 := of_decide_eq_true h1
    subst e1
    have P := nm (py := p1) (of_decide_eq_true h4) (of_decide_eq_true h5) h6 h7 h8
    cases ks with
    | nil => simp [clsNos] at h10
    | cons k1 kr =>
      cases kr with
      | cons _ _ => simp at h9
      | nil =>
        unfold clsNos at h10
        obtain ⟨h11, h10⟩ := ba2 h10
        obtain ⟨h12, h10⟩ := ba2 h10
        obtain ⟨h13, h14⟩ := ba2 h10
        obtain ⟨v, cv, pe, r0, u0, k0⟩ := cls_pe g0.gd f g0.exn g0.exm (p := p2) h11 h12 h13
        refine pe_imp (pe_callB (call_isD hp (f.cls c hc) hz hf) (gl_of g0.gd h2) (g0.gd.bls _ (of_decide_eq_true h3)) boot_isinstance (pa_cons P (pa_cons pe pa_nil rfl) rfl) (by decide) ndb rfl rfl) fun σ H Q hq => ?_
        obtain ⟨O, env, eo, hp⟩ := xq_run hx hq
        refine ⟨O, env, eo, hp.imp fun w H1 _ ⟨e2, hd, O1, al, q⟩ => ?_⟩
        subst e2
        refine ⟨v, hitD c (.int (k1 : Nat)), rfl, fun dd z => let ⟨i, _, e⟩ := hd dd z; ⟨_, e⟩, .inl ⟨cv, u0, k0 c hc⟩, ?_⟩
        have e3 : exFn c p x 0 (x :: [k1].map fun (k : Nat) => PyData.int (k : Nat)) = .ok (.bool (hitD c (.int (k1 : Nat)))) := by
          refine (exFn_is fun z => h912 ?_).trans ?_
          · injection z with z _
            injection z with z
            congr 1
            omega
          · simp
        rw [e3] at q
        exact q _ _ (Same.refl _) (.bl _)
  · rename_i x0 p0 y p1 es x1 p2 p3
    obtain ⟨h1, h⟩ := ba2 h
    obtain ⟨h2, h⟩ := ba2 h
    obtain ⟨h3, h⟩ := ba2 h
    obtain ⟨h4, h⟩ := ba2 h
    obtain ⟨h5, h⟩ := ba2 h
    obtain ⟨h6, h⟩ := ba2 h
    obtain ⟨h7, h⟩ := ba2 h
    obtain ⟨h8, h⟩ := ba2 h
    obtain ⟨h9, h⟩ := ba2 h
    obtain ⟨h10, h11⟩ := ba2 h
    have e1 := of_decide_eq_true h1
    subst e1
    have P := nm (py := p1) (of_decide_eq_true h4) (of_decide_eq_true h5) h6 h7 h8
    obtain ⟨ok, vs, cvs, pa, r1, l1, u1, k1⟩ := clss_pa g0.gd f g0.exn g0.exm ks es ((clsNos_x ks es).symm.trans h11)
    refine pe_imp (pe_callB (call_isD hp (f.cls c hc) hz hf) (gl_of g0.gd h2) (g0.gd.bls _ (of_decide_eq_true h3)) boot_isinstance (pa_cons P (pa_cons (pe_tup pa) pa_nil rfl) rfl) (by decide) ndb rfl rfl) fun σ H Q hq => ?_
    obtain ⟨O, env, eo, hp⟩ := xq_run hx hq
    refine ⟨O, env, eo, hp.imp fun w H1 _ ⟨e2, hd, O1, al, q⟩ => ⟨?_, fun T hT => ?_⟩⟩
    · rw [l1, sizeLine_eq]
      have := of_decide_eq_true h10
      omega
    subst e2
    refine ⟨.ref T, ks.any fun k => hitD c (.int (k : Nat)), rfl, fun dd z => ?_, .inr ⟨T, vs, cvs, rfl, upd_same, u1, k1 c hc⟩, ?_⟩
    · obtain ⟨i, _, e⟩ := hd dd z
      exact ⟨_, Same.new hT _ _ e⟩
    have e3 : exFn c p x 0 (x :: ks.map fun (k : Nat) => PyData.int (k : Nat)) = .ok (.bool (ks.any fun k => hitD c (.int (k : Nat)))) := by
      cases ks with
      | nil => simp at h9
      | cons k ks =>
        refine (exFn_is fun z => ?_).trans ?_
        · injection z with _ z
          cases ks with
          | nil => simp at h9
          | cons _ _ => cases z
        show R.ok (PyData.bool (((k :: ks).map fun (k : Nat) => PyData.int (k : Nat)).any (hitD c))) = _
        rw [List.any_map]
        rfl
    rw [e3] at q
    exact q _ _ (Same.new hT) (.bl _)
  · rename_i y p1 fl p2
    obtain ⟨h1, h⟩ := ba2 h
    obtain ⟨h4, h⟩ := ba2 h
    obtain ⟨h5, h⟩ := ba2 h
    obtain ⟨h6, h⟩ := ba2 h
    obtain ⟨h7, h⟩ := ba2 h
    obtain ⟨h8, h9⟩ := ba2 h
    have e1 := of_decide_eq_true h1
    have P := nm (py := p1) (of_decide_eq_true h4) (of_decide_eq_true h5) h6 h7 h8
    have fin : ∀ {k : Nat} {q : PyData → R PyData} {fA : Nat → Option Int → R PyData}, (G.fld k = fl) → (G.has k = true → L2.XfC X.K (G.ex k) ∧ PySem.W.findIn X.K (.ref (G.ex k)) fl = some none) →
        (∀ c p, fA c p = match p with | some i => if c = k then .ok (.int i) else .stuck | none => .stuck) → (exFn c p x 0 (x :: ks.map fun (k : Nat) => PyData.int (k : Nat)) = fA c p) → PE X (.Attribute (.Name y p1) fl p2) (rd X.K (exFn c p x) G W (.xq ks i)) := fun {k q fA} fk xk fa fe => by
      by_cases h90 : c = k
      · subst h90
        obtain ⟨T, no⟩ := xk hc
        refine pe_imp (pe_xfP hp T no hz hf P) fun σ H Q hq => ?_
        obtain ⟨O, env, eo, hp⟩ := xq_run hx hq
        refine ⟨O, env, eo, hp.imp fun w H1 _ ⟨e2, hd, O1, al, q⟩ => ⟨e2, rfl, ?_⟩⟩
        rw [fe, fa] at q
        cases p with
        | none => exact q.elim
        | some i =>
          dsimp only at q
          rw [if_pos rfl] at q
          rcases hx with ⟨z, _⟩ | ⟨i', dd, z1, z2, _⟩
          · cases z
          · cases z1
            obtain ⟨i2, z3, z4⟩ := hd dd z2
            cases z3
            refine ⟨dd, _, .int i, z2, z4, ?_, q _ _ (Same.refl _) (.int i)⟩
            rw [fk]
            simp
      · refine ⟨fun pins s σ H Q I hq => False.elim ?_⟩
        obtain ⟨O, env, eo, hp⟩ := hq
        rw [evE] at hp
        unfold getE at hp
        split at hp
        · rename_i dd hdd
          have hp : Post (dp X.K O) G σ H W Q (exFn c p x 0 (dd :: ks.map fun (k : Nat) => PyData.int (k : Nat))) := hp
          by_cases z : dd = x
          · subst z
            rw [fe, fa] at hp
            cases p with
            | none => exact hp
            | some i =>
              dsimp only at hp
              rw [if_neg h90] at hp
              exact hp
          · have e0 : exFn c p x 0 (dd :: ks.map fun (k : Nat) => PyData.int (k : Nat)) = .stuck := by
              unfold exFn
              exact if_neg z
            rw [e0] at hp
            exact hp
        · exact hp
    rcases Bool.or_eq_true_iff.mp h9 with h9 | h9
    · have e9 := of_decide_eq_true h9
      subst e9
      have e1 : fl = "board" := e1
      subst e1
      exact fin (k := 9) (q := fun d => .ok d) (fA := fldA) f.fld f.xf (fun c p => by cases p <;> rfl) exFn_fld
    · have e9 := of_decide_eq_true h9
      subst e9
      have e1 : fl = "row" := e1
      subst e1
      exact fin (k := 10) (q := fun d => .ok d) (fA := rowA) f.fldR f.xfR (fun c p => by cases p <;> rfl) exFn_row
theorem GdS.suiteX_ {C : CtS} (g : GdS C F G W X) {a : Addr} {oe : Obj} {cls : Value} {d : Option Addr} {pn : List (Addr × Obj)} (hz : Zc cls d oe) (hf : ∃ vs, oe.data = .fields vs) {n : Str} {i c : Nat} {p : Option Int} {x : PyData} (hxq : C.xqs = true)
    (hc : G.has c = true) (hcl : cls = .ref (G.ex c)) (hx : XR G c a d p x) : GdS (xC C n i) (exFn c p x) G (fun _ _ _ _ => False) (X.suite a ((a, oe) :: pn)) :=
  GdS.xq_ (X := X.suite a ((a, oe) :: pn)) List.mem_cons_self hz hf (GdS.suite_ g) (g.xqf hxq) hc hcl hx
/-- the context behind a suite: what it held is pinned -/
theorem GdS.pin_ {C : CtS} {F2 : Nat → List PyData → R PyData} (g : GdS C F G W X) {pn : List (Addr × Obj)} : GdS (hC C) F2 G (fun _ _ _ _ => False) (X.tr pn fun _ _ => False) where
  gd := { N := g.gd.N, nd := g.gd.nd, sc := g.gd.sc, calm := fun z => (nomatch z), hu := g.gd.hu, tk := tk0, fns := fun i x n h => by simp [hC] at h, bls := g.gd.bls, gis := g.gd.gis, gds := g.gd.gds, kfns := fun i x n kn h => by simp [hC] at h, ffns := fun i x n h => by simp [hC] at h, pfns := fun i x n k h => by simp [hC] at h, sfns := fun i x n h => by simp [hC] at h, xq := fun _ _ _ z => nomatch z }
  st := g.st
  frm := g.frm
  po := PassesOwn.never
  poA := fun _ h => nomatch h
  fnT := g.fnT
  exn := g.exn
  exm := g.exm
  exk := fun c h => by simp [hC] at h
  exs := g.exs
  kind := by
    have := g.kind
    cases hk : G.kd <;> rw [hk] at this <;> exact this
  xqf := g.xqf
  exp := fun c h => by simp [hC] at h
theorem GdS.pinX_ {C : CtS} (g : GdS C F G W X) {a : Addr} {oe : Obj} {cls : Value} {d : Option Addr} {pn : List (Addr × Obj)} (hz : Zc cls d oe) (hf : ∃ vs, oe.data = .fields vs) {n : Str} {i c : Nat} {p : Option Int} {x : PyData} (hxq : C.xqs = true)
    (hc : G.has c = true) (hcl : cls = .ref (G.ex c)) (hx : XR G c a d p x) : GdS (xC C n i) (exFn c p x) G (fun _ _ _ _ => False) (X.tr ((a, oe) :: pn) fun _ _ => False) :=
  GdS.xq_ (X := X.tr ((a, oe) :: pn) fun _ _ => False) List.mem_cons_self hz hf (GdS.pin_ g) (g.xqf hxq) hc hcl hx
end
/-! ### try: b, except x as n: error = n, and what stands behind it -/
/-- the slot of the clause's name is i; tr: what stands behind it -/
def wV (K : PySem.W.Frag) (c : Value) (i : Nat) (ts tr : Addr → Value → Option Addr → TS) (Wout : WX) (D : Ends) : WX := fun cls d σ H =>
  ∃ b, PySem.W.exmOne K cls c = some b ∧ (b = true → ∀ a, H a = none → ts a cls d { nx := fun σ' H' => tr a cls d D (σ'.set i none) H', rt := fun _ _ => False, bk := fun _ _ => False, ct := fun _ _ => False } (σ.set i (some (.ref a))) H) ∧
    (b = false → Wout cls d σ H)
theorem inv_repin {X : Cx} {a : Addr} {pn : List (Addr × Obj)} {σ : L2.St} {H : Hp} {s : Shared} (I : Inv (X.suite a pn) [] σ H s) (ok : X.Ok) : Inv (X.tr pn fun _ _ => False) [] σ H s :=
  ⟨ok.toTry _ _, I.os, I.bare, I.base, I.loc, I.cell, I.free, I.freeC, I.pin, I.hok, I.len⟩
theorem inv_unpin {X : Cx} {q : Addr × Obj} {pins pn' : List (Addr × Obj)} {xe : Value → Shared → Prop} {σ : L2.St} {H : Hp} {s : Shared} (I : Inv (X.tr (q :: (X.pn ++ pins)) xe) pn' σ H s) (ok : X.Ok) : Inv X pins σ H s :=
  ⟨ok, I.os, I.bare, I.base, I.loc, I.cell, I.free, I.freeC, fun p hp => I.pin p (List.mem_append_left _ (List.mem_cons_of_mem _ hp)), I.hok, I.len⟩
section
variable {X : Cx} {x n : Str} {c : Value} {i : Nat} {body ss : List Stmt} {b₀ : Stmt} {np pos pos' : Pos} {tb : WX → TS} {ts tr : Addr → Value → Option Addr → TS} {t1 : TS} {Wout : WX}
theorem pss_try_asV (hs : X.stack = X.env :: X.outer) (hf : X.env.frame = some X.env.locals) (hN : X.N.Nodup) (hi : X.N[i]? = some n) (hln : X.env.kindOf n = some .local) (hc : Names X x c) (tk : Takes X Wout)
    (hb : ∀ (W : WX) (pn : List (Addr × Obj)) (xe : Value → Shared → Prop), Takes (X.tr pn xe) W → PassesOwn (model X.prog X.w) X.A X.env xe → PSs (X.tr pn xe) body (tb W))
    (hsu : ∀ (a : Addr) (oe : Obj) (cls : Value) (d : Option Addr) (pn : List (Addr × Obj)), Zc cls d oe → (∃ vs, oe.data = .fields vs) → PSs (X.suite a ((a, oe) :: pn)) [b₀] (ts a cls d))
    (h1 : PSs X ss t1)
    (h2 : ∀ (a : Addr) (oe : Obj) (cls : Value) (d : Option Addr) (pn : List (Addr × Obj)), Zc cls d oe → (∃ vs, oe.data = .fields vs) → PSs (X.tr ((a, oe) :: pn) fun _ _ => False) ss (tr a cls d)) :
    PSs X (.Try body [.ExceptHandler (some (.Name x np)) (some n) [b₀] pos'] [] [] pos :: ss) (fun D σ H => tb (wV X.K c i ts tr Wout D) { D with nx := t1 D } σ H) := by
  refine ⟨fun pins s σ H D I h => ?_⟩
  have ok := I.ok
  have hfr : X.A.frames = some (X.env :: X.outer) := by rw [ok.frames, hs]
  have hloc : Loc X.env.scope n := .inl hln
  refine wpAny_execs_cons ?_
  refine wpAny_Try_except ?_
  refine wpAny_mono ((hb (wV X.K c i ts tr Wout D) (X.pn ++ pins) (fun e s₁ => wpAny (model X.prog X.w) X.A (noteFrame e X.env) (fun _ s₂ => wpAny (model X.prog X.w) X.A (setFlight e none) (fun _ s₃ =>
    wpAny (model X.prog X.w) X.A (handleBy e X.env [.ExceptHandler (some (.Name x np)) (some n) [b₀] pos']) _ X.xe s₃) X.xe s₂) X.xe s₁) (fun u s' xx => ?_) PassesOwn.looking).run [] s σ H { D with nx := t1 D } (I.toTry _) h) (fun f s1 hsp => ?_) (fun e s1 he => he)
  · -- the catch
    obtain ⟨a, B, sI, pins', σ', H', cls, d, rfl, J', nb, up, sky, na, os, ag, b, hb1, hyes, hno⟩ := xx
    have J : Inv X pins σ' H' sI := J'.ofTry ok
    have sky' : Sky B (X.env :: X.outer) a (Zc cls d) X.env.locals s'.heap := by rw [← hs]; exact sky
    show wpAny (model X.prog X.w) X.A (noteFrame (.ref a) X.env) _ _ _
    refine Sky.land Zc.steady hfr hf sky' fun h3 fl3 up3 => ?_
    have J3 : Inv X pins σ' H' { s' with heap := h3 } := J.landed nb fl3.1 (up.trans up3) os ag
    obtain ⟨oe3, vs3, he3, hz3, hd3⟩ := fl3.there
    have notFr : ∀ {h : Heap} {o : Obj} {vs : Array Value}, h.FunFrames B (X.env :: X.outer) → h.get? a = some o → o.data = .fields vs → a ∉ frs (X.env :: X.outer) := fun {h o vs} ff e dd hm => by
      obtain ⟨_, o', e', hnf⟩ := ff.mem hm
      rw [e] at e'; cases e'
      exact hnf _ dd
    have nfr := notFr fl3.2.2.1 he3 hd3
    have nL : a ≠ X.env.locals := fun z => nfr (List.mem_filterMap.mpr ⟨X.env, List.mem_cons_self, by rw [hf, z]⟩)
    have nF : a ∉ X.fs := fun hm => by
      obtain ⟨e, he, q⟩ := List.mem_filterMap.mp hm
      exact nfr (List.mem_filterMap.mpr ⟨e, List.mem_cons_of_mem _ he, q⟩)
    have S3 := J3.suite he3 hd3 na nL nF
    refine wpAny_handleBy_cons (codeAny_handlers_test ?_) (by intro q; cases q)
    have LT : PySem.W.Looks (model X.prog X.w) h3 (typeOf (.ref a)) cls := fun A Q E s k q => wpAny_typeOf_ref (k _ _ he3) (by rw [hz3.1]; exact q)
    have LM := PySem.W.exm_one (M := model X.prog X.w) (J3.kIn) LT hb1
    have test : ∀ {Q : Value → Shared → Prop} {E : Value → Shared → Prop}, Q c { s' with heap := h3 } → wpAny (model X.prog X.w) (X.A.mark (some (.ref a))) (eval (.Name x np) X.env) Q E { s' with heap := h3 } := fun {Q E} q => by
      obtain ⟨hg, hdbg, hm | ⟨hm, hv, hnn⟩⟩ := hc
      · exact ld_glob (X := X.suite a ((a, oe3) :: (X.pn ++ pins))) S3 hg hm q hdbg
      · exact ld_blt (X := X.suite a ((a, oe3) :: (X.pn ++ pins))) S3 hg hm hv q hnn hdbg
    refine test (LM.here ?_)
    cases b with
    | true =>
      refine codeAny_handlers_suite_as ?_
      refine HandSPX.lands_againZ fl3 fun h4 fl4 up4 => ?_
      have J4 : Inv X pins σ' H' { s' with heap := h4 } := J.landed nb fl4.1 ((up.trans up3).trans up4) os ag
      obtain ⟨oe4, vs4, he4, hz4, hd4⟩ := fl4.there
      have S4 := J4.suite he4 hd4 na nL nF
      refine store_ok (X := X.suite a ((a, oe4) :: (X.pn ++ pins))) (v := .ref a) S4 hN hi hloc rfl (fun s5 S5 => ?_) (.inr hln)
      refine wpAny_mono ((hsu a oe4 cls d (X.pn ++ pins) hz4 ⟨_, hd4⟩).run [] s5 _ H' _ S5 (hyes rfl a na)) (fun f s6 hsp => ?_) (fun _ _ z => False.elim z)
      cases f with
      | next =>
        obtain ⟨σ6, H6, S6, q6⟩ := hsp
        refine gone_ok (X := X.tr ((a, oe4) :: (X.pn ++ pins)) fun _ _ => False) (inv_repin S6 ok) hN hi hln fun s7 J7 => ?_
        refine wpAny_mono ((h2 a oe4 cls d (X.pn ++ pins) hz4 ⟨_, hd4⟩).run [] s7 _ H6 D J7 q6) (fun f s8 hsp => ?_) (fun _ _ z => False.elim z)
        cases f with
        | next =>
          obtain ⟨σ', H', J', q⟩ := hsp
          exact ⟨σ', H', inv_unpin J' ok, q⟩
        | brk =>
          obtain ⟨σ', H', J', q⟩ := hsp
          exact ⟨σ', H', inv_unpin J' ok, q⟩
        | cont =>
          obtain ⟨σ', H', J', q⟩ := hsp
          exact ⟨σ', H', inv_unpin J' ok, q⟩
        | ret u =>
          obtain ⟨v, σ', H', J', r, q⟩ := hsp
          exact ⟨v, σ', H', inv_unpin J' ok, r, q⟩
      | brk =>
        obtain ⟨σ6, H6, S6, q6⟩ := hsp
        exact q6.elim
      | cont =>
        obtain ⟨σ6, H6, S6, q6⟩ := hsp
        exact q6.elim
      | ret u =>
        obtain ⟨v6, σ6, H6, S6, r6, q6⟩ := hsp
        exact q6.elim
    | false =>
      show wpAny _ X.A (handleBy (.ref a) X.env []) _ _ _
      refine wpAny_handleBy_nil ?_
      obtain ⟨k1, k2, k3, oe, vs, T, oT, ts', he, hz, hd, h1, hr⟩ := id fl3
      unfold PySem.passOn
      refine wpAny_bind (wpAny_field he hd h1 ?_)
      rw [if_neg (show ¬ ((Value.ref T == Value.none) = true) from by simp)]
      have fin : ∀ {Φ : Flow → Shared → Prop}, wpAny (model X.prog X.w) X.A (setFlight (.ref a) X.env.frame) (fun _ s4 => wpAny (model X.prog X.w) X.A (throw (.ref a) : Sem Flow) Φ X.xe s4) X.xe { s' with heap := h3 } := fun {Φ} => by
        rw [hf]
        refine HandSPX.setFlight_upZ fl3 fun h4 hh4 up4 => wpAny_throw (tk _ _ ?_)
        exact ⟨a, B, sI, pins, σ', H', cls, d, rfl, J, nb, (up.trans up3).trans up4, .inr (.inr (by rw [hs]; exact hh4)), na, os, ag, hno rfl⟩
      first
        | exact wpAny_bind (wpAny_pure (wpAny_bind fin))
        | exact wpAny_bind fin
  · cases f with
    | next =>
      obtain ⟨σ', H', J', q⟩ := hsp
      exact wpAny_execs_nil (h1.run pins s1 σ' H' D (J'.ofTry ok) q)
    | brk =>
      obtain ⟨σ', H', J', q⟩ := hsp
      exact ⟨σ', H', J'.ofTry ok, q⟩
    | cont =>
      obtain ⟨σ', H', J', q⟩ := hsp
      exact ⟨σ', H', J'.ofTry ok, q⟩
    | ret u =>
      obtain ⟨v, σ', H', J', r, q⟩ := hsp
      exact ⟨v, σ', H', J'.ofTry ok, r, q⟩
end
end Bs

namespace Bs
open PySem PySem.Spec L2
open PyProof.Rows hiding St

section
variable {F : Nat → List PyData → R PyData} {G : Gs} {N : Nat}
theorem rdT_toS {K : PySem.W.Frag} {O : List Addr} {H0 B : Hp} {A : List Addr} {ad : Nat → Addr} {σ : L2.St} {H : Hp} {env : SE} {D : Ends} {W : WX} {c : E} {f : Bool → Rs} (s : SR K G O H0 B A ad σ H env)
    (h : PostS K G O H0 B D W (((evE F c (fullE env)).bind ofB).toS env f)) : rdT K F G W c σ H fun b H' => Same H H' ∧ PostS K G O H0 B D W (f b) :=
  ⟨O, fullE env, s.full, (post_toS (rep := repB) s h).imp fun b H' _ ⟨e, d, r, p⟩ => ⟨e, by cases r; exact p⟩⟩
theorem rdT_imp {K : PySem.W.Frag} {σ : L2.St} {H : Hp} {W : WX} {m : E} {Q Q' : Bool → Hp → Prop} (h : rdT K F G W m σ H Q) (i : ∀ v H', Same H H' → Q v H' → Q' v H') : rdT K F G W m σ H Q' := by
  obtain ⟨O, env, e, p⟩ := h
  exact ⟨O, env, e, p.imp i⟩
/-- a tuple or a list of that length -/
def gSq (K : PySem.W.Frag) (n : Nat) (t : TGs) : TG := fun v σ H Q => gTup K n t v σ H Q ∨ gLst K n t v σ H Q
theorem pg_sq {C : Ct} {W : WX} {X : Cx} {fnb : Str → Bool} (g : Gd C F G W X) (hf : ∀ x, fnb x = true → X.fn x = true) {is : List Nat} {e : Expr} (h : tgT C fnb is e = true) : PG X e (gSq X.K is.length (gsOf is)) := by
  unfold tgT at h
  split at h
  · rw [Bool.and_eq_true] at h
    obtain ⟨ps, e1, e2⟩ := pgs_tgNs g hf h.2
    have p1 := pg_tup (pos := by assumption) (k := by assumption) (g.calm h.1) ps e1 e2
    have p2 := pg_lst (pos := by assumption) (k := by assumption) (g.calm h.1) ps e1 e2
    exact ⟨fun pins s σ H v u Q I r hw => hw.elim (fun hw => p1.run pins s σ H v u Q I r hw) fun hw => p2.run pins s σ H v u Q I r hw⟩
  · cases h
theorem unp_run {K : PySem.W.Frag} {O : List Addr} {H0 B : Hp} {A : List Addr} {ad : Nat → Addr} {σ : L2.St} {H : Hp} {env : SE} {D : Ends} {W : WX} {is : List Nat} {v : V} {d : PyData} (s : SR K G O H0 B A ad σ H env) (r : Dq K (cut H (O ++ A)) v d) (h : PostS K G O H0 B D W (unpS env is d)) :
    gSq K is.length (gsOf is) v σ H D.nx := by
  cases d with
  | tuple ds =>
    have h : PostS K G O H0 B D W (if ds.length = is.length then .nx (setAllS env is ds) else .stuck) := h
    by_cases hl : ds.length = is.length
    · rw [if_pos hl] at h
      obtain ⟨a, xs, rfl, h1, h2⟩ := inv_t r
      exact .inl ⟨a, xs, rfl, sqT_mono cut_le h1, by rw [dps_len h2, hl], gs_run (by rw [dps_len h2, hl]) (h _ _ _ _ (s.setAll h2 hl.symm))⟩
    · rw [if_neg hl] at h
      exact h.elim
  | list ds =>
    have h : PostS K G O H0 B D W (if ds.length = is.length then .nx (setAllS env is ds) else .stuck) := h
    by_cases hl : ds.length = is.length
    · rw [if_pos hl] at h
      obtain ⟨a, xs, rfl, h1, h2⟩ := inv_l r
      exact .inr ⟨a, xs, rfl, sqL_mono cut_le h1, by rw [dps_len h2, hl], gs_run (by rw [dps_len h2, hl]) (h _ _ _ _ (s.setAll h2 hl.symm))⟩
    · rw [if_neg hl] at h
      exact h.elim
  | _ => exact h.elim
theorem tg_run {K : PySem.W.Frag} {O : List Addr} {H0 B : Hp} {A : List Addr} {ad : Nat → Addr} {σ : L2.St} {H : Hp} {env : SE} {tg : Tg} {v : V} {d : PyData} {Q : L2.St → Hp → Prop} (s : SR K G O H0 B A ad σ H env) (r : Dq K (cut H (O ++ A)) v d) {env' : SE} (h : tgS tg d env = some env')
    (q : ∀ σ', SR K G O H0 B A ad σ' H env' → Q σ' H) : gOf K tg v σ H Q := by
  cases tg with
  | nm i =>
    cases h
    exact q _ (s.set i r)
  | tp is =>
    cases d with
    | tuple ds =>
      have h : (if ds.length = is.length then some (setAllS env is ds) else none) = some env' := h
      by_cases hl : ds.length = is.length
      · rw [if_pos hl] at h
        cases h
        obtain ⟨a, xs, rfl, h1, h2⟩ := inv_t r
        exact ⟨a, xs, rfl, sqT_mono cut_le h1, by rw [dps_len h2, hl], gs_run (by rw [dps_len h2, hl]) (q _ (s.setAll h2 hl.symm))⟩
      · rw [if_neg hl] at h
        cases h
    | _ => cases h
theorem name_of {C : CtS} {W : WX} {X : Cx} (g : GdS C F G W X) {i : Nat} {t : Expr} (h : tgN C.toCt (fun _ => true) i t = true) : ∃ x pos, t = .Name x pos ∧ X.N[i]? = some x ∧ Loc X.env.scope x := by
  unfold tgN at h
  split at h <;> first | cases h | skip
  rename_i x pos
  rw [Bool.and_eq_true, decide_eq_true_eq] at h
  obtain ⟨h1, h2⟩ := h
  unfold locB at h2
  refine ⟨x, pos, rfl, by rw [g.gd.N]; exact h1, ?_⟩
  split at h2
  · rename_i q
    exact .inl (by rw [g.gd.sc]; exact q)
  · rename_i q
    exact .inr (by rw [g.gd.sc]; exact q)
  · cases h2
/-- the loop over what is walked -/
theorem for_run {K : PySem.W.Frag} {O : List Addr} {H0 B : Hp} {A : List Addr} {ad : Nat → Addr} {σ : L2.St} {H1 : Hp} {env : SE} {D : Ends} {W : WX} {J : It} {items : List PyData} {tg : Tg} {b : Ss} (s : SR K G O H0 B A ad σ H1 env) (wd : WalkD K (O ++ A) H1 J items)
    (h : PostS K G O H0 B D W (loopF (fun x e => tgRun tg x e fun e' => exSs F N b e') items env)) :
    ∃ W' : Nat → Nat → L2.St → Hp → Prop, (∃ m, W' 0 m σ H1) ∧ ∀ i m σ H, W' i m σ H →
      (J.stop i H ∧ D.nx σ H) ∨ (J.go i H ∧ ∃ N' : L2.St → Hp → Prop, (∀ σ' H', N' σ' H' → ∃ m', m' < m ∧ W' (i + 1) m' σ' H') ∧ ∀ x H', J.yld i H x H' → gOf K tg x σ H' fun σ2 H2 => rdSs K F G N W b { D with nx := N', ct := N', bk := D.nx } σ2 H2) := by
  have wd : Walk J items.length (fun H => Same (cut H1 (O ++ A)) H) (fun i H x H2 => Same H H2 ∧ ∀ O', Alloc O' H → Same (cut H1 (O ++ A)) (cut H O') → ∃ d, items[i]? = some d ∧ Dq K (cut H2 O') x d) := wd
  have s1 : SR K G O H0 (cut H1 (O ++ A)) A ad σ H1 env := ⟨s.e0, s.al0, s.alA, s.len, Same.refl _, s.fr, s.ow, s.inj, s.pin⟩
  refine for_it wd (fun i σ' H' => i ≤ items.length ∧ ∃ A' ad' env', SR K G O H0 (cut H1 (O ++ A)) A' ad' σ' H' env' ∧ PostS K G O H0 B D W (loopF (fun x e => tgRun tg x e fun e' => exSs F N b e') (items.drop i) env'))
    ⟨Nat.zero_le _, A, ad, env, s1, by rw [List.drop_zero]; exact h⟩ (fun i σ' H' _ ⟨_, A', ad', env', s', _⟩ => s'.fb.trans cut_le) ?_ ?_
  · rintro i x σ' H' H'' hi ⟨_, A', ad', env', s', hp⟩ ⟨e, hy⟩
    obtain ⟨d, hd, r⟩ := hy (O ++ A') s'.alOA s'.fb
    have hdr : items.drop i = d :: items.drop (i + 1) := by
      obtain ⟨hlt, q⟩ := List.getElem?_eq_some_iff.mp hd
      rw [← q]
      exact List.drop_eq_getElem_cons hlt
    rw [hdr, loopF] at hp
    cases q : tgS tg d env' with
    | none =>
      have z : tgRun tg d env' (fun e' => exSs F N b e') = .stuck := by unfold tgRun; rw [q]
      rw [z] at hp
      exact hp.elim
    | some e2 =>
      have z : tgRun tg d env' (fun e' => exSs F N b e') = exSs F N b e2 := by unfold tgRun; rw [q]
      rw [z] at hp
      refine tg_run (s'.up e) r q fun σ2 s2 => ⟨O, H0, cut H1 (O ++ A), A', ad', e2, s2, ?_⟩
      have up : ∀ {A ad σ H e}, SR K G O H0 (cut H1 (O ++ ‹List Addr›)) A ad σ H e → True := fun _ => trivial
      have bs : ∀ {A3 ad3 σ3 H3 e3}, SR K G O H0 (cut H1 (O ++ A)) A3 ad3 σ3 H3 e3 → SR K G O H0 B A3 ad3 σ3 H3 e3 := fun z => z.base s.fb
      cases q2 : exSs F N b e2 with
      | stuck => rw [q2] at hp; exact hp
      | nx e3 => rw [q2] at hp; exact fun A3 ad3 σ3 H3 s3 => ⟨hi, A3, ad3, e3, s3, hp⟩
      | ct e3 => rw [q2] at hp; exact fun A3 ad3 σ3 H3 s3 => ⟨hi, A3, ad3, e3, s3, hp⟩
      | bk e3 => rw [q2] at hp; exact fun A3 ad3 σ3 H3 s3 => hp A3 ad3 σ3 H3 (bs s3)
      | rt d3 => rw [q2] at hp; exact hp
      | ex c p e3 => rw [q2] at hp; exact fun A3 ad3 σ3 H3 cls dd s3 x3 => hp A3 ad3 σ3 H3 cls dd (bs s3) x3
  · rintro σ' H' ⟨_, A', ad', env', s', hp⟩
    rw [List.drop_length, loopF] at hp
    exact hp A' ad' σ' H' (s'.base s.fb)
theorem while_run {K : PySem.W.Frag} {O : List Addr} {H0 B : Hp} {A : List Addr} {ad : Nat → Addr} {σ : L2.St} {H : Hp} {env : SE} {D : Ends} {W : WX} {c : E} {b : Ss} {n : Nat} (s : SR K G O H0 B A ad σ H env)
    (h : PostS K G O H0 B D W (whileF (fun e => (evE F c (fullE e)).bind ofB) (fun e => exSs F N b e) n env)) : tWhile (rdT K F G W c) (rdSs K F G N W b) D σ H := by
  refine ⟨fun m σ' H' => ∃ A' ad' env', SR K G O H0 B A' ad' σ' H' env' ∧ PostS K G O H0 B D W (whileF (fun e => (evE F c (fullE e)).bind ofB) (fun e => exSs F N b e) m env'), ⟨n, A, ad, env, s, h⟩, ?_⟩
  rintro m σ' H' ⟨A', ad', env', s', hp⟩
  cases m with
  | zero => exact hp.elim
  | succ m =>
    rw [whileF] at hp
    refine rdT_imp (rdT_toS s' hp) fun k H2 _ ⟨e, hp⟩ => ?_
    cases k with
    | false =>
      rw [if_neg Bool.false_ne_true] at hp ⊢
      exact hp A' ad' σ' H2 (s'.up e)
    | true =>
      rw [if_pos rfl] at hp ⊢
      refine ⟨fun σ3 H3 => ∃ A3 ad3 e3, SR K G O H0 B A3 ad3 σ3 H3 e3 ∧ PostS K G O H0 B D W (whileF (fun e => (evE F c (fullE e)).bind ofB) (fun e => exSs F N b e) m e3), fun σ3 H3 ⟨A3, ad3, e3, s3, h3⟩ => ⟨m, Nat.lt_succ_self m, A3, ad3, e3, s3, h3⟩, O, H0, B, A', ad', env', s'.up e, ?_⟩
      cases q2 : exSs F N b env' with
      | stuck => rw [q2] at hp; exact hp
      | nx e3 => rw [q2] at hp; exact fun A3 ad3 σ3 H3 s3 => ⟨A3, ad3, e3, s3, hp⟩
      | ct e3 => rw [q2] at hp; exact fun A3 ad3 σ3 H3 s3 => ⟨A3, ad3, e3, s3, hp⟩
      | bk e3 => rw [q2] at hp; exact hp
      | rt d3 => rw [q2] at hp; exact hp
      | ex c p e3 => rw [q2] at hp; exact hp

theorem withOw_ok {K : PySem.W.Frag} {O : List Addr} {H0 B : Hp} {env : SE} {D : Ends} {W : WX} {i : Nat} {f : List PyData → Rs} (h : PostS K G O H0 B D W (withOw env i f)) : ∃ ds, env[i]? = some (.ow ds) ∧ PostS K G O H0 B D W (f ds) := by
  unfold withOw ownAt at h
  cases q : env[i]? with
  | none => rw [q] at h; exact h.elim
  | some s =>
    rw [q] at h
    cases s with
    | un => exact h.elim
    | fr d => exact h.elim
    | ow ds => exact ⟨ds, rfl, h⟩
theorem newL_rd {K : PySem.W.Frag} {O : List Addr} {H0 B : Hp} {A : List Addr} {ad : Nat → Addr} {F : Nat → List PyData → R PyData} {G : Gs} {D : Ends} {W : WX} {σ : L2.St} {H : Hp} {env : SE} {e : E} {f : List PyData → Rs} (s : SR K G O H0 B A ad σ H env) (h : PostS K G O H0 B D W (((evE F e (fullE env)).bind lsOf).toS env f)) :
    rdN K F G W e σ H fun v H' => ∃ p ys es, v = .ref p ∧ H p = none ∧ H' p = some (.lst ys) ∧ DqAll K (cut H' (p :: O)) ys es ∧ PostS K G O H0 B D W (f es) := by
  cases q : evE F e (fullE env) with
  | stuck => rw [q] at h; exact h.elim
  | exc c p =>
    rw [q] at h
    refine ⟨O, fullE env, s.full, ?_⟩
    rw [q]
    exact fun cls dd H' e x => h A ad σ H' cls dd (s.up e) (x.lo s.e0)
  | ok d =>
    rw [q] at h
    cases d <;> first | exact h.elim | skip
    rename_i ds
    refine ⟨O, fullE env, s.full, ?_⟩
    rw [q]
    rintro v H' e ⟨p, vs, ds', rfl, he, hp, hp', r⟩
    cases he
    exact ⟨p, vs, ds, rfl, hp, hp', r, h⟩
theorem assign_sub {X : Cx} {o i : Expr} {pos : Pos} (h : okE i = true) : ∀ v, assign (.Subscript o i pos) X.env v = (do
      let ov ← holding [v] (eval o X.env)
      let iv ← holding [v, ov] (eval i X.env)
      standAt pos
      holding [v, ov, iv] (setItem ov iv v)
      release [v, ov, iv] []) := by
  cases i <;> first | (intro _; rfl) | cases h
theorem iteS {K : PySem.W.Frag} {G : Gs} {O : List Addr} {H0 B : Hp} {D : Ends} {W : WX} {c : Prop} [Decidable c] {r : Rs} (h : PostS K G O H0 B D W (if c then r else .stuck)) : c ∧ PostS K G O H0 B D W r := by
  by_cases hc : c
  · rw [if_pos hc] at h
    exact ⟨hc, h⟩
  · rw [if_neg hc] at h
    exact h.elim
theorem inv_i' {K : PySem.W.Frag} {H : Hp} {v : V} {k : Int} (h : Dq K H v (.int k)) : v = .int k := by cases h; rfl
theorem lcSw_ok {C : Ct} {x : Str} {px : Pos} {e : Expr} {pos : Pos} (h4 : isLC e = true) (h5 : lcSw C (.Name x px) e pos = true) : ∃ elt gens scope ep, e = .ListComp elt gens scope ep ∧ C.sc.names.lookup x = some .local ∧ (px.line == ep.line) = true ∧ (scope.names.any fun (n, k) => n == x && (k == .local || k == .cell)) = false := by
  cases e <;> first | exact nomatch (show false = true from h4) | skip
  rename_i elt gens scope ep
  have h5 : (decide (C.sc.names.lookup x = some .local) && ((px.line == ep.line) && ((pos.line == pos.line) && !(scope.names.any fun (n, k) => n == x && (k == .local || k == .cell))))) = true := h5
  obtain ⟨k1, h5⟩ := ba2 h5
  obtain ⟨k2, h5⟩ := ba2 h5
  obtain ⟨k3, k4⟩ := ba2 h5
  exact ⟨elt, gens, scope, ep, rfl, of_decide_eq_true k1, k2, bnot k4⟩
theorem chkE_lc {C : Ct} {m : E} {elt : Expr} {gens : List Comprehension} {scope : Scope} {ep : Pos} (h : chkE C m (.ListComp elt gens scope ep) = true) : ∃ w ws tg c e own, m = .lc w ws tg c e own := by
  cases m <;> first | exact ⟨_, _, _, _, _, _, rfl⟩ | (rw [chkE.eq_def] at h; exact nomatch (show false = true from h)) | skip
  rw [chkE.eq_def] at h
  dsimp only at h
  split at h
  · exact nomatch (show false = true from (ba2 h).2)
  · exact nomatch h
end
theorem pool_end {K : PySem.W.Frag} {G : Gs} {O : List Addr} {H0 B : Hp} {A : List Addr} {ad : Nat → Addr} {σ : L2.St} {H : Hp} {env : SE} (s : SR K G O H0 B A ad σ H env) {k : Nat} {p : Addr} (hk : G.kd = .pool k p) {ps : List PyData} (ho : ownAt env k = some ps) :
    ∃ ws, H p = some (.lst ws) ∧ DqAll K (cut H (p :: O)) ws ps := by
  have own : env[k]? = some (.ow ps) := by
    unfold ownAt at ho
    split at ho
    · rename_i e
      cases ho
      exact e
    · cases ho
  obtain ⟨ha, _, us, hu, ru⟩ := s.ow k ps own
  rw [s.pin k p hk] at ha hu
  have sub : Same (cut H (O ++ A)) (cut H (p :: O)) := cut_sub fun a m => by
    rcases List.mem_cons.mp m with m | m
    · rw [m]; exact List.mem_append_right _ ha
    · exact List.mem_append_left _ m
  exact ⟨us, hu, dps_mono sub _ _ ru⟩
section
variable {G : Gs} {N : Nat}
theorem snd_set1 {F : Nat → List PyData → R PyData} {C : CtS} {W : WX} {X : Cx} {i : Nat} {m : E} {t e : Expr} {pos : Pos} (g : GdS C F G W X) (h1 : tgN C.toCt (fun _ => true) i t = true) (h2 : chkE C.toCt m e = true) (h3 : (!isLC e) = true) : PS X (.Assign [t] e pos) (rdS X.K F G N W (.set i m)) := by
  obtain ⟨x, px, rfl, hi, hx⟩ := name_of g h1
  have sm := snd m g.gd h2
  refine ps_imp (ps_set (by rw [g.gd.N]; exact g.gd.nd) hi hx sm.pe (sw_no sm.ok (bnot h3)) (.inl (g.fnT x))) fun D σ H ⟨O, H0, B, A, ad, env, s, hp⟩ => ?_
  rw [exS] at hp
  exact rd_imp (valS_rd s hp) fun v H' _ ⟨A', d, e, s', r, p⟩ => p A' ad _ H' (s'.set i r)
theorem sws_sub {o1 i1 o2 i2 : Expr} {p1 p2 p3 p4 : Pos} {k1 k2 : Nat} {a b : Expr} {env : PySem.Env} : swappedStores [.Tuple [.Subscript o1 i1 p1, .Subscript o2 i2 p2] k1 p3] (.Tuple [a, b] k2 p4) env = pure none := by
  unfold swappedStores
  simp
theorem val_held {F : Nat → List PyData → R PyData} {e : SE} {i : Nat} {y : PyData} (hl : i < e.length) : valS F (e.set i (.fr y)) (.v i) = .ok y := by
  have e1 : (e.set i (.fr y))[i]? = some (.fr y) := by rw [List.getElem?_set_self hl]
  have f1 : evE F (.v i) (fullE (e.set i (.fr y))) = .ok y := by
    rw [evE]
    unfold getE fullE
    rw [List.getElem?_map, e1]
    rfl
  have f2 : evE F (.v i) (cleanE (e.set i (.fr y))) = .ok y := by
    rw [evE]
    unfold getE cleanE
    rw [List.getElem?_map, e1]
    rfl
  unfold valS
  rw [f1, f2]
  show (if _ then R.ok y else R.ok y) = _
  split <;> rfl
mutual
theorem sndS {F : Nat → List PyData → R PyData} : ∀ (m : S) {C : CtS} {W : WX} {X : Cx} {st : Stmt}, GdS C F G W X → chkS C m st = true → PS X st (rdS X.K F G N W m)
  | .pass, C, W, X, st, g, h => by
    rw [chkS.eq_def] at h
    dsimp only at h
    split at h <;> first | cases h | skip
    refine ps_imp ps_pass fun D σ H ⟨O, H0, B, A, ad, env, s, hp⟩ => ?_
    rw [exS] at hp
    exact hp A ad σ H s
  | .ret m, C, W, X, st, g, h => by
    rw [chkS.eq_def] at h
    dsimp only at h
    split at h <;> first | cases h | skip
    obtain ⟨hk, h⟩ := ba2 h
    have hk := kd_data g.kind (of_decide_eq_true hk)
    refine ps_imp (ps_ret (snd m g.gd h).pe) fun D σ H ⟨O, H0, B, A, ad, env, s, hp⟩ => ?_
    rw [exS] at hp
    exact ⟨O, fullE env, s.full, (post_toS (rep := dp X.K O) s hp).imp fun v H' _ ⟨e, d, r, p⟩ => by
      unfold PostS at p
      rw [hk] at p
      exact p v H' (s.e0.trans e) r⟩
  | .retF m, C, W, X, st, g, h => by
    rw [chkS.eq_def] at h
    dsimp only at h
    split at h <;> first | cases h | skip
    obtain ⟨hk, h⟩ := ba2 h
    obtain ⟨h, hn⟩ := ba2 h
    have hk := kd_fresh g.kind (of_decide_eq_true hk)
    refine ps_imp (ps_ret (sndN g.gd hn h)) fun D σ H ⟨O, H0, B, A, ad, env, s, hp⟩ => ?_
    rw [exS] at hp
    refine rdN_imp (newF_rd s hp) fun v H' _ ⟨p, vs, ds, hv, e, h1, h2, r, hp⟩ => ?_
    unfold PostS at hp
    rw [hk] at hp
    refine hp v H' (s.e0.trans e) ⟨p, vs, ds, hv, rfl, ?_, h2, r⟩
    cases z : H0 p with
    | none => rfl
    | some o => rw [s.e0 _ _ z] at h1; cases h1
  | .retN, C, W, X, st, g, h => by
    rw [chkS.eq_def] at h
    dsimp only at h
    split at h <;> first | cases h | skip
    have hk := kd_data g.kind (of_decide_eq_true h)
    refine ps_imp ps_retN fun D σ H ⟨O, H0, B, A, ad, env, s, hp⟩ => ?_
    rw [exS] at hp
    unfold PostS at hp
    rw [hk] at hp
    exact hp .non H s.e0 .non
  | .set i m, C, W, X, st, g, h => by
    rw [chkS.eq_def] at h
    dsimp only at h
    split at h <;> first | cases h | skip
    obtain ⟨h1, h⟩ := ba2 h
    obtain ⟨h2, h3⟩ := ba2 h
    obtain ⟨x, px, rfl, hi, hx⟩ := name_of g h1
    have sm := snd m g.gd h2
    refine ps_imp (ps_set (by rw [g.gd.N]; exact g.gd.nd) hi hx sm.pe (sw_no sm.ok (bnot h3)) (.inl (g.fnT x))) fun D σ H ⟨O, H0, B, A, ad, env, s, hp⟩ => ?_
    rw [exS] at hp
    exact rd_imp (valS_rd s hp) fun v H' _ ⟨A', d, e, s', r, p⟩ => p A' ad _ H' (s'.set i r)
  | .setN i m, C, W, X, st, g, h => by
    rw [chkS.eq_def] at h
    dsimp only at h
    split at h <;> first | cases h | skip
    rename_i t e pos
    obtain ⟨h0, h⟩ := ba2 h
    obtain ⟨hpl, h1⟩ := ba2 h0
    obtain ⟨h2, h3⟩ := ba2 h
    obtain ⟨x, px, rfl, hi, hx⟩ := name_of g h1
    rcases Bool.or_eq_true_iff.mp h3 with h3 | h3
    · obtain ⟨hk, h3⟩ := ba2 h3
      obtain ⟨h4, h5⟩ := ba2 h3
      obtain ⟨elt', gens, scope, ep, rfl, k1, k2, k4⟩ := lcSw_ok h4 h5
      obtain ⟨w, ws, tg, c, elt, own, rfl⟩ := chkE_lc h2
      rw [chkE.eq_def] at h2
      dsimp only at h2
      split at h2 <;> first | cases h2 | skip
      rename_i elt2 tg' iter ifs scope2 pos2 q3
      injection q3 with q4 q5 q6 q7
      subst q4
      subst q5
      subst q6
      subst q7
      obtain ⟨hcm, h⟩ := ba2 h2
      obtain ⟨j1, h⟩ := ba2 h
      obtain ⟨j2, h⟩ := ba2 h
      obtain ⟨j3, h⟩ := ba2 h
      obtain ⟨j4, h⟩ := ba2 h
      obtain ⟨j5, h⟩ := ba2 h
      obtain ⟨j6, h⟩ := ba2 h
      obtain ⟨j7, h⟩ := ba2 h
      obtain ⟨j8, j9⟩ := ba2 h
      split at j5 <;> first | cases j5 | skip
      rename_i as hq
      have ss := snds ws g.gd j5
      have hnd : X.N.Nodup := by rw [g.gd.N]; exact g.gd.nd
      refine ps_imp (ps_setLc (own := own) (g := gOf X.K tg) (tt := rdTs X.K F G (fun _ _ _ _ => False) c) (te := rd X.K F G (fun _ _ _ _ => False) elt) (g.gd.calm hcm) hnd hi (by rw [g.gd.sc]; exact k1) (sw_true (by rw [g.gd.sc]; exact of_decide_eq_true hk) (by rw [g.gd.sc]; exact k1) k2 k4)
        (snd_it g.gd hq ss.ok ss.pa (fun a q => let ⟨m, e, s⟩ := ss.one a q; ⟨m, e, s.pe⟩)) (blkOk_by (by rw [g.gd.N, g.gd.sc]; exact j1)) (fun s H Ca cl fp => pg_chk (g.gd.blk s H scope Ca cl fp) (fun x hx => hx) j4)
        (fun s H Ca cl fp => pts_of (snds c (g.gd.blk s H scope Ca cl fp) j6) j7 (of_decide_eq_true j8)) (fun s H Ca cl fp => (snd elt (g.gd.blk s H scope Ca cl fp) j9).pe) (fold_of j2)) fun D σ H ⟨O, H0, B, A, ad, env, s, hp⟩ => ?_
      rw [exS] at hp
      exact lc_run (C := C.toCt) (tgIn_of j3) (rdN_imp (newS_rd (i := i) (kd_ne g.kind hpl) s hp) fun v H' _ ⟨A', ad', ds, s', p⟩ => p A' ad' _ H' s')
    · obtain ⟨h4, h5⟩ := ba2 h3
      refine ps_imp (ps_set (by rw [g.gd.N]; exact g.gd.nd) hi hx (sndN g.gd h5 h2) (sw_no2 g.gd.sc (snd m g.gd h2).ok h4) (.inl (g.fnT x))) fun D σ H ⟨O, H0, B, A, ad, env, s, hp⟩ => ?_
      rw [exS] at hp
      exact rdN_imp (newS_rd (i := i) (kd_ne g.kind hpl) s hp) fun v H' _ ⟨A', ad', ds, s', p⟩ => p A' ad' _ H' s'
  | .unp is m, C, W, X, st, g, h => by
    rw [chkS.eq_def] at h
    dsimp only at h
    split at h <;> first | cases h | skip
    rename_i t e pos
    obtain ⟨h1, h⟩ := ba2 h
    obtain ⟨h2, h⟩ := ba2 h
    obtain ⟨h3, h4⟩ := ba2 h
    have sm := snd m g.gd h2
    have pg : PG X t (gSq X.K is.length (gsOf is)) := pg_sq g.gd (fun x _ => g.fnT x) h1
    have ht : ∃ es k p, t = .Tuple es k p := by
      unfold tgT at h1
      split at h1
      · exact ⟨_, _, _, rfl⟩
      · cases h1
    obtain ⟨es, k, p, rfl⟩ := ht
    refine ps_imp (ps_asg sm.pe pg (by unfold swapsWithSole; exact sw_no sm.ok (bnot h3)) (sws_no sm.ok (bnot h4)) rfl) fun D σ H ⟨O, H0, B, A, ad, env, s, hp⟩ => ?_
    rw [exS] at hp
    exact rd_imp (valS_rd s hp) fun v H' _ ⟨A', d, e, s', r, p⟩ => unp_run s' r p
  | .par i j a b, C, W, X, st, g, h => by
    rw [chkS.eq_def] at h
    dsimp only at h
    split at h <;> first | cases h | skip
    rename_i x px y py kt pt a' b' k2 pt2 pos
    obtain ⟨h1, h⟩ := ba2 h
    obtain ⟨h2, h⟩ := ba2 h
    obtain ⟨h3, h⟩ := ba2 h
    obtain ⟨h4, h⟩ := ba2 h
    obtain ⟨h5, h⟩ := ba2 h
    obtain ⟨h6, h⟩ := ba2 h
    obtain ⟨h7, h⟩ := ba2 h
    obtain ⟨h8, h⟩ := ba2 h
    obtain ⟨h9, h⟩ := ba2 h
    obtain ⟨h10, h⟩ := ba2 h
    obtain ⟨h11, h⟩ := ba2 h
    obtain ⟨h12, h13⟩ := ba2 h
    have sa := snd a g.gd h12
    have sb := snd b g.gd h13
    have hx : X.env.scope.names.lookup x = some .local := by rw [g.gd.sc]; exact of_decide_eq_true h5
    have hy : X.env.scope.names.lookup y = some .local := by rw [g.gd.sc]; exact of_decide_eq_true h6
    refine ps_imp (ps_par (g.gd.calm h1) (by rw [g.gd.N]; exact g.gd.nd) (by rw [g.gd.N]; exact of_decide_eq_true h2) (by rw [g.gd.N]; exact of_decide_eq_true h3) (of_decide_eq_true h4) hx hy (pa_cons sa.pe (pa_cons sb.pe pa_nil (star_of sb.ok)) (star_of sa.ok))
      (swap_two (by rw [g.gd.sc]; exact of_decide_eq_true h7) hx hy h8 (bnot h9) sa.ok sb.ok (bnot h10) (bnot h11)) rfl) fun D σ H ⟨O, H0, B, A, ad, env, s, hp⟩ => ?_
    rw [exS] at hp
    refine rd_imp (valS_rd s hp) fun v H' _ ⟨A', d, e, s', r, p⟩ => rd_imp (valS_rd s' p) fun v2 H2 e2 ⟨A2, d2, e3, s2, r2, p2⟩ => ?_
    have r3 : Dq X.K (cut H2 (O ++ A2)) v d := dp_mono (cut_sub fun a m => (List.mem_append.mp m).elim (List.mem_append_left _) fun m => List.mem_append_right _ (e3 a m)) _ _ (dp_mono (cut_same e2) _ _ r)
    exact ⟨v, v2, rfl, p2 A2 ad _ H2 ((s2.set i r3).set j r2)⟩
  | .app i m, C, W, X, st, g, h => by
    rw [chkS.eq_def] at h
    dsimp only at h
    split at h <;> first | cases h | skip
    obtain ⟨h1, h⟩ := ba2 h
    obtain ⟨h2, h⟩ := ba2 h
    obtain ⟨h3, h⟩ := ba2 h
    obtain ⟨h4, h⟩ := ba2 h
    obtain ⟨h5, h⟩ := ba2 h
    obtain ⟨h6, h7⟩ := ba2 h
    have e1 := of_decide_eq_true h1
    subst e1
    have sm := snd m g.gd h7
    refine ps_imp (ps_expr (pe_bm PySem.F.plainAttrs_list PySem.F.slot_list_append PySem.F.type_list_append mt_append (pe_var (i := i) (by rw [g.gd.N]; exact of_decide_eq_true h2) (by rw [g.gd.sc]; exact isVis_ok h3) (notDbg_ok h4) (notCls_ok h5))
      (pa_cons sm.pe pa_nil (star_of sm.ok)) rfl (few_of sm.ok) h6 (star_of sm.ok) rfl) rfl) fun D σ H ⟨O, H0, B, A, ad, env, s, hp⟩ => ?_
    rw [exS] at hp
    unfold appS at hp
    split at hp
    · rename_i ds q
      obtain ⟨ha, hσ, vs, hH, hd⟩ := s.ow i ds q
      refine ⟨.ref (ad i), hσ, .inl ⟨rfl, vs, .inl (.inl hH)⟩, rd_imp (valS_rd s hp) fun v H' _ ⟨A', d, e, s', r, p⟩ => ?_⟩
      obtain ⟨ha', _, vs', hH', hd'⟩ := s'.ow i ds q
      have p : PostS X.K G O H0 B D W (if ds.length < 1000000 then .nx (env.set i (.ow (ds ++ [d]))) else .stuck) := p
      by_cases hl : ds.length < 1000000
      · rw [if_pos hl] at p
        refine ⟨ad i, vs', v, rfl, rfl, hH', ?_, p A' ad σ _ (s'.grow q (dps_app hd' (.cons r .nil)))⟩
        have h1 := dps_len hd'
        have h2 : (1000000 : Nat) < sizeLine := by decide
        omega
      · rw [if_neg hl] at p
        exact p.elim
    · exact hp.elim
  | .exs m, C, W, X, st, g, h => by
    rw [chkS.eq_def] at h
    dsimp only at h
    split at h <;> first | cases h | skip
    obtain ⟨h1, h2⟩ := ba2 h
    have sm := snd m g.gd h2
    refine ps_imp (ps_expr sm.pe (sw_no sm.ok (by
      rename_i e _
      cases e <;> first | rfl | exact nomatch (show false = true from h1)))) fun D σ H ⟨O, H0, B, A, ad, env, s, hp⟩ => ?_
    rw [exS] at hp
    exact ⟨O, fullE env, s.full, (post_toS (rep := dp X.K O) s hp).imp fun v H' _ ⟨e, d, r, p⟩ => p A ad σ H' (s.up e)⟩
  | .stI i x m, C, W, X, st, g, h => by
    rw [chkS.eq_def] at h
    dsimp only at h
    split at h <;> first | cases h | skip
    obtain ⟨h1, h⟩ := ba2 h
    obtain ⟨h2, h⟩ := ba2 h
    obtain ⟨h3, h⟩ := ba2 h
    obtain ⟨h4, h⟩ := ba2 h
    obtain ⟨h5, h⟩ := ba2 h
    obtain ⟨h6, h⟩ := ba2 h
    obtain ⟨h7, h8⟩ := ba2 h
    have sm := snd m g.gd h6
    have sx := snd x g.gd h5
    refine ps_imp (ps_asg sm.pe (pg_sub (pe_var (X := X) (i := i) (by rw [g.gd.N]; exact of_decide_eq_true h1) (by rw [g.gd.sc]; exact isVis_ok h2) (notDbg_ok h3) (notCls_ok h4)) sx.pe set_list (assign_sub sx.ok)) (by unfold swapsWithSole; exact sw_no sm.ok (bnot h7)) (sws_no sm.ok (bnot h8)) rfl) fun D σ H ⟨O, H0, B, A, ad, env, s, hp⟩ => ?_
    rw [exS] at hp
    obtain ⟨ds, q, hp⟩ := withOw_ok hp
    refine rd_imp (valS_rd s hp) fun v H' _ ⟨A', d, e, s', r, p⟩ => ?_
    have hs := (s'.full : EnvOk X.K O σ H' (fullE env))
    obtain ⟨ha', hσ', vs, hH', hd'⟩ := s'.ow i ds q
    refine ⟨_, hσ', rd_imp ⟨O, fullE env, s'.full, post_toS (rep := dp X.K O) s' p⟩ fun k H2 e2 ⟨_, dk, rk, p2⟩ => ?_⟩
    cases dk <;> first | exact p2.elim | skip
    rename_i kk
    have hkk := inv_i' rk
    subst hkk
    have p2 : PostS X.K G O H0 B D W (match ixN ds.length kk with
      | some j => .nx (env.set i (.ow (ds.set j d)))
      | none => .stuck) := p2
    cases hj : ixN ds.length kk with
    | none => rw [hj] at p2; exact p2.elim
    | some j =>
      rw [hj] at p2
      have s2 := s'.up e2
      obtain ⟨ha2, hσ2, vs2, hH2, hd2⟩ := s2.ow i ds q
      have r2 := dp_mono (cut_same (O := O ++ A') e2) _ _ r
      exact ⟨_, vs2, kk, j, rfl, rfl, hH2, by rw [dps_len hd2]; exact hj, p2 A' ad σ _ (s2.grow q (dps_set r2 j hd2))⟩
  | .stS i x m, C, W, X, st, g, h => by
    rw [chkS.eq_def] at h
    dsimp only at h
    split at h <;> first | cases h | skip
    obtain ⟨h1, h⟩ := ba2 h
    obtain ⟨h2, h⟩ := ba2 h
    obtain ⟨h3, h⟩ := ba2 h
    obtain ⟨h4, h⟩ := ba2 h
    obtain ⟨h5, h⟩ := ba2 h
    obtain ⟨h6, h⟩ := ba2 h
    obtain ⟨hn, h⟩ := ba2 h
    obtain ⟨h7, h8⟩ := ba2 h
    have sx := snd x g.gd h5
    refine ps_imp (ps_asg (sndN g.gd hn h6) (pg_front (pe_var (X := X) (i := i) (by rw [g.gd.N]; exact of_decide_eq_true h1) (by rw [g.gd.sc]; exact isVis_ok h2) (notDbg_ok h3) (notCls_ok h4)) (po_some sx.pe)) (by unfold swapsWithSole; exact sw_no (snd m g.gd h6).ok (bnot h7)) (sws_no (snd m g.gd h6).ok (bnot h8)) rfl) fun D σ H ⟨O, H0, B, A, ad, env, s, hp⟩ => ?_
    rw [exS] at hp
    obtain ⟨ds, q, hp⟩ := withOw_ok hp
    obtain ⟨ha, hσ, vs, hH, hd⟩ := s.ow i ds q
    refine rdN_imp (newL_rd s hp) fun v H' e ⟨p, ys, es, hv, hpH, hpH', r, hp⟩ => ?_
    subst hv
    by_cases hl : lfrees es = true
    case neg =>
      rw [if_neg hl] at hp
      exact hp.elim
    rw [if_pos hl] at hp
    have s' := s.up e
    have hne : ad i ≠ p := fun z => by rw [← z, hH] at hpH; cases hpH
    refine ⟨_, hσ, rd_imp ⟨O, fullE env, s'.full, post_toS (rep := dp X.K O) s' hp⟩ fun k H2 e2 ⟨_, dk, rk, p2⟩ => ?_⟩
    cases dk <;> first | exact p2.elim | skip
    rename_i kk
    have hkk := inv_i' rk
    subst hkk
    have p2 : PostS X.K G O H0 B D W (if 0 ≤ kk ∧ kk ≤ ds.length ∧ ds.length + es.length ≤ 1000000 then .nx (env.set i (.ow (es ++ ds.drop kk.toNat))) else .stuck) := p2
    by_cases hc : 0 ≤ kk ∧ kk ≤ ds.length ∧ ds.length + es.length ≤ 1000000
    case neg =>
      rw [if_neg hc] at p2
      exact p2.elim
    rw [if_pos hc] at p2
    have s2 := s'.up e2
    obtain ⟨ha2, hσ2, vs2, hH2, hd2⟩ := s2.ow i ds q
    have r2 : DqAll X.K (cut H2 (O ++ A)) ys es := dps_mono (cut_same e2) _ _ (lfrees_hide (fun a m => by
      rcases List.mem_append.mp m with m | m
      · exact .inl (List.mem_cons_of_mem _ m)
      · obtain ⟨_, ws, w⟩ := s'.alA a m
        exact .inr ⟨ws, w⟩) _ _ hl r)
    have l1 := dps_len hd2
    have l2 := dps_len r2
    have h9 : (1000000 : Nat) < sizeLine := by decide
    exact ⟨kk, rfl, _, p, vs2, ys, kk, rfl, rfl, hne, rfl, hH2, e2 _ _ hpH', hc.1, by omega, by omega, p2 A ad σ _ (s2.grow q (dps_app r2 (dps_drop _ hd2)))⟩
  | .setP i m, C, W, X, st, g, h => by
    rw [chkS.eq_def] at h
    dsimp only at h
    split at h <;> first | cases h | skip
    rename_i t e pos
    obtain ⟨hpl, h⟩ := ba2 h
    obtain ⟨h1, h⟩ := ba2 h
    obtain ⟨h2, h4⟩ := ba2 h
    obtain ⟨x, px, rfl, hi, hx⟩ := name_of g h1
    have sm := sndP m g.gd h2
    have fin : ∀ D σ H, rdS X.K F G N W (.setP i m) D σ H → rdP X.K F G m σ H fun v H' => D.nx (σ.set i (some v)) H' := by
      rintro D σ H ⟨O, H0, B, A, ad, env, s, hp⟩
      rw [exS] at hp
      refine ⟨O, H0, A, ad, env, s.self, ?_⟩
      cases q : evP F m env with
      | stuck => rw [q] at hp; exact hp.elim
      | exc c p => rw [q] at hp; exact hp.elim
      | ok p =>
        rw [q] at hp
        exact fun v H' A' s' r => hp A' ad _ H' ((s'.base s.fb).set i r)
    rcases Bool.or_eq_true_iff.mp h4 with h4 | h4
    case inr =>
      obtain ⟨hk, h4⟩ := ba2 h4
      obtain ⟨h4, h5⟩ := ba2 h4
      obtain ⟨h5, h6⟩ := ba2 h5
      obtain ⟨elt', gens, scope, ep, rfl, k1, k2, k4⟩ := lcSw_ok h4 h6
      have hnd : X.N.Nodup := by rw [g.gd.N]; exact g.gd.nd
      cases m with
      | lc w ws tg m own =>
        rw [chkP.eq_def] at h2
        dsimp only at h2
        split at h2 <;> first | cases h2 | skip
        rename_i elt2 tg' iter scope2 pos2 q3
        injection q3 with q4 q5 q6 q7
        subst q4
        subst q5
        subst q6
        subst q7
        obtain ⟨hcm, h⟩ := ba2 h2
        obtain ⟨j1, h⟩ := ba2 h
        obtain ⟨j2, h⟩ := ba2 h
        obtain ⟨j3, h⟩ := ba2 h
        obtain ⟨j4, h⟩ := ba2 h
        obtain ⟨j5, j9⟩ := ba2 h
        split at j5 <;> first | cases j5 | skip
        rename_i as hq
        have ss := snds ws g.gd j5
        have sc : ∀ s H Ca cl fp, Snds F G (fun _ _ _ _ => False) (X.blk s H scope (compEnvC scope cl Ca X.env) fp) .nil [] := fun s H Ca cl fp => snds .nil (g.gd.blk s H scope Ca cl fp) (by rw [chkEs.eq_def]; rfl)
        exact ps_imp (ps_setLc (own := own) (g := gOf X.K tg) (tt := rdTs X.K F G (fun _ _ _ _ => False) .nil) (te := rdP X.K F G m) (g.gd.calm hcm) hnd hi (by rw [g.gd.sc]; exact k1) (sw_true (by rw [g.gd.sc]; exact of_decide_eq_true hk) (by rw [g.gd.sc]; exact k1) k2 k4)
          (snd_it g.gd hq ss.ok ss.pa (fun a q => let ⟨m, e, s⟩ := ss.one a q; ⟨m, e, s.pe⟩)) (blkOk_by (by rw [g.gd.N, g.gd.sc]; exact j1)) (fun s H Ca cl fp => pg_chk (g.gd.blk s H scope Ca cl fp) (fun x hx => hx) j4)
          (fun s H Ca cl fp => pts_of (sc s H Ca cl fp) rfl (Nat.zero_le _)) (fun s H Ca cl fp => (sndP m (g.gd.blk s H scope Ca cl fp) j9).2) (fold_of j2)) fun D σ H hq => lcP_run (W := W) (tgIn_of j3) (fin D σ H hq)
      | lcw w ws tg m own =>
        rw [chkP.eq_def] at h2
        dsimp only at h2
        split at h2 <;> first | cases h2 | skip
        rename_i elt2 tg' iter scope2 pos2 q3
        injection q3 with q4 q5 q6 q7
        subst q4
        subst q5
        subst q6
        subst q7
        obtain ⟨hcm, h⟩ := ba2 h2
        obtain ⟨j1, h⟩ := ba2 h
        obtain ⟨j2, h⟩ := ba2 h
        obtain ⟨j3, h⟩ := ba2 h
        obtain ⟨j4, h⟩ := ba2 h
        obtain ⟨j5, j9⟩ := ba2 h
        split at j5 <;> first | cases j5 | skip
        rename_i as hq
        have ss := sndPs ws g.gd j5
        have sc : ∀ s H Ca cl fp, Snds F G (fun _ _ _ _ => False) (X.blk s H scope (compEnvC scope cl Ca X.env) fp) .nil [] := fun s H Ca cl fp => snds .nil (g.gd.blk s H scope Ca cl fp) (by rw [chkEs.eq_def]; rfl)
        exact ps_imp (ps_setLc (own := own) (g := gOf X.K tg) (tt := rdTs X.K F G (fun _ _ _ _ => False) .nil) (te := rdP X.K F G m) (g.gd.calm hcm) hnd hi (by rw [g.gd.sc]; exact k1) (sw_true (by rw [g.gd.sc]; exact of_decide_eq_true hk) (by rw [g.gd.sc]; exact k1) k2 k4)
          (snd_itP g.gd hq ss) (blkOk_by (by rw [g.gd.N, g.gd.sc]; exact j1)) (fun s H Ca cl fp => pg_chk (g.gd.blk s H scope Ca cl fp) (fun x hx => hx) j4)
          (fun s H Ca cl fp => pts_of (sc s H Ca cl fp) rfl (Nat.zero_le _)) (fun s H Ca cl fp => (sndP m (g.gd.blk s H scope Ca cl fp) j9).2) (fold_of j2)) fun D σ H hq => lcwP_run (tgIn_of j3) (fin D σ H hq)
      | _ => exact nomatch (show false = true from h5)
    exact ps_imp (ps_set (by rw [g.gd.N]; exact g.gd.nd) hi hx sm.2 (sw_no2 g.gd.sc sm.1 h4) (.inl (g.fnT x))) fin
  | .retO i, C, W, X, st, g, h => by
    rw [chkS.eq_def] at h
    dsimp only at h
    split at h <;> first | cases h | skip
    obtain ⟨hk, h⟩ := ba2 h
    obtain ⟨h1, h⟩ := ba2 h
    obtain ⟨h2, h⟩ := ba2 h
    obtain ⟨h3, h4⟩ := ba2 h
    have hk := kd_fresh g.kind (of_decide_eq_true hk)
    refine ps_imp (ps_ret (pe_var (i := i) (by rw [g.gd.N]; exact of_decide_eq_true h1) (by rw [g.gd.sc]; exact isVis_ok h2) (notDbg_ok h3) (notCls_ok h4))) fun D σ H ⟨O, H0, B, A, ad, env, s, hp⟩ => ?_
    rw [exS] at hp
    obtain ⟨ds, q, hp⟩ := withOw_ok hp
    unfold PostS at hp
    rw [hk] at hp
    obtain ⟨ha, hσ, vs, hH, hd⟩ := s.ow i ds q
    refine ⟨_, hσ, hp _ H s.e0 ⟨ad i, vs, ds, rfl, rfl, (s.alA _ ha).1, hH, dps_mono (cut_sub fun a m => ?_) _ _ hd⟩⟩
    rcases List.mem_cons.mp m with m | m
    · rw [m]; exact List.mem_append_right _ ha
    · exact List.mem_append_left _ m
  | .retP k m, C, W, X, st, g, h => by
    rw [chkS.eq_def] at h
    dsimp only at h
    split at h <;> first | cases h | skip
    obtain ⟨hk, h⟩ := ba2 h
    obtain ⟨hpl, h⟩ := ba2 h
    obtain ⟨p, hk⟩ := kd_pool g.kind (of_decide_eq_true hk)
    rw [of_decide_eq_true hpl] at hk
    refine ps_imp (ps_ret (sndP m g.gd h).2) fun D σ H ⟨O, H0, B, A, ad, env, s, hp⟩ => ?_
    rw [exS] at hp
    refine ⟨O, H0, A, ad, env, s.self, ?_⟩
    cases q : evP F m env with
    | stuck => rw [q] at hp; exact hp.elim
    | exc c p => rw [q] at hp; exact hp.elim
    | ok z =>
      rw [q] at hp
      have hp : PostS X.K G O H0 B D W (retP1 z.1 (ownAt z.2 k)) := hp
      cases ho : ownAt z.2 k with
      | none => rw [ho] at hp; exact hp.elim
      | some ps =>
        rw [ho] at hp
        unfold retP1 PostS at hp
        rw [hk] at hp
        obtain ⟨d', ps', hd, hp⟩ := hp
        injection hd with hd
        injection hd with hd1 hd2
        injection hd2 with hd2 _
        injection hd2 with hd2
        subst hd1
        subst hd2
        intro v H' A' s' r
        have own : z.2[k]? = some (.ow ps) := by
          unfold ownAt at ho
          split at ho
          · rename_i e
            cases ho
            exact e
          · cases ho
        obtain ⟨ha, _, us, hu, ru⟩ := s'.ow k ps own
        have hpin := s'.pin k p hk
        rw [hpin] at ha hu
        have sub : Same (cut H' (O ++ A')) (cut H' (p :: O)) := cut_sub fun a m => by
          rcases List.mem_cons.mp m with m | m
          · rw [m]; exact List.mem_append_right _ ha
          · exact List.mem_append_left _ m
        exact hp v H' s'.e0 ⟨us, hu, dps_mono sub _ _ ru⟩ (dp_mono sub _ _ r)
  | .retPN k, C, W, X, st, g, h => by
    rw [chkS.eq_def] at h
    dsimp only at h
    split at h <;> first | cases h | skip
    obtain ⟨hk, hpl⟩ := ba2 h
    obtain ⟨p, hk⟩ := kd_pool g.kind (of_decide_eq_true hk)
    rw [of_decide_eq_true hpl] at hk
    refine ps_imp ps_retN fun D σ H ⟨O, H0, B, A, ad, env, s, hp⟩ => ?_
    rw [exS] at hp
    cases ho : ownAt env k with
    | none => rw [ho] at hp; exact hp.elim
    | some ps =>
      rw [ho] at hp
      unfold retP1 PostS at hp
      rw [hk] at hp
      obtain ⟨d', ps', hd, hp⟩ := hp
      injection hd with hd
      injection hd with hd1 hd2
      injection hd2 with hd2 _
      injection hd2 with hd2
      subst hd1
      subst hd2
      exact hp .non H s.e0 (pool_end s hk ho) .non
  | .iffP c a b, C, W, X, st, g, h => by
    rw [chkS.eq_def] at h
    dsimp only at h
    split at h <;> first | cases h | skip
    obtain ⟨h1, h⟩ := ba2 h
    obtain ⟨h2, h⟩ := ba2 h
    obtain ⟨h3, h4⟩ := ba2 h
    refine ps_imp (ps_if (sndPT c g.gd h1 h2) (sndSs a g h3) (sndSs b g h4)) fun D σ H ⟨O, H0, B, A, ad, env, s, hp⟩ => ?_
    rw [exS] at hp
    refine ⟨O, H0, A, ad, env, s.self, ?_⟩
    cases q : evP F c env with
    | stuck => rw [q] at hp; exact hp.elim
    | exc c p => rw [q] at hp; exact hp.elim
    | ok p =>
      rw [q] at hp
      obtain ⟨d, e2⟩ := p
      cases d <;> first | exact hp.elim | skip
      rename_i k
      intro v H' A' s' r
      refine ⟨k, inv_b r, ?_⟩
      cases k with
      | true => exact ⟨O, H0, B, A', ad, e2, s'.base s.fb, hp⟩
      | false => exact ⟨O, H0, B, A', ad, e2, s'.base s.fb, hp⟩
  | .unpP is m, C, W, X, st, g, h => by
    rw [chkS.eq_def] at h
    dsimp only at h
    split at h <;> first | cases h | skip
    rename_i t e pos
    obtain ⟨h1, h⟩ := ba2 h
    obtain ⟨h2, h⟩ := ba2 h
    obtain ⟨h3, h4⟩ := ba2 h
    have sm := sndP m g.gd h2
    have pg : PG X t (gSq X.K is.length (gsOf is)) := pg_sq g.gd (fun x _ => g.fnT x) h1
    have ht : ∃ es k p, t = .Tuple es k p := by
      unfold tgT at h1
      split at h1
      · exact ⟨_, _, _, rfl⟩
      · cases h1
    obtain ⟨es, k, p, rfl⟩ := ht
    refine ps_imp (ps_asg sm.2 pg (by unfold swapsWithSole; exact sw_no sm.1 (bnot h3)) (sws_no sm.1 (bnot h4)) rfl) fun D σ H ⟨O, H0, B, A, ad, env, s, hp⟩ => ?_
    rw [exS] at hp
    refine ⟨O, H0, A, ad, env, s.self, ?_⟩
    cases q : evP F m env with
    | stuck => rw [q] at hp; exact hp.elim
    | exc c p => rw [q] at hp; exact hp.elim
    | ok p =>
      rw [q] at hp
      exact fun v H' A' s' r => unp_run (s'.base s.fb) r hp
  | .appP i m, C, W, X, st, g, h => by
    rw [chkS.eq_def] at h
    dsimp only at h
    split at h <;> first | cases h | skip
    obtain ⟨h1, h⟩ := ba2 h
    obtain ⟨h2, h⟩ := ba2 h
    obtain ⟨h3, h⟩ := ba2 h
    obtain ⟨h4, h⟩ := ba2 h
    obtain ⟨h5, h⟩ := ba2 h
    obtain ⟨h6, h7⟩ := ba2 h
    have e1 := of_decide_eq_true h1
    subst e1
    have sm := sndP m g.gd h7
    refine ps_imp (ps_expr (pe_bm PySem.F.plainAttrs_list PySem.F.slot_list_append PySem.F.type_list_append mt_append (pe_var (i := i) (by rw [g.gd.N]; exact of_decide_eq_true h2) (by rw [g.gd.sc]; exact isVis_ok h3) (notDbg_ok h4) (notCls_ok h5))
      (pa_cons sm.2 pa_nil (star_of sm.1)) rfl (few_of sm.1) h6 (star_of sm.1) rfl) rfl) fun D σ H ⟨O, H0, B, A, ad, env, s, hp⟩ => ?_
    rw [exS] at hp
    by_cases ho : (ownAt env i).isSome = true
    case neg =>
      rw [if_neg ho] at hp
      exact hp.elim
    rw [if_pos ho] at hp
    obtain ⟨ds0, hd0⟩ := Option.isSome_iff_exists.mp ho
    obtain ⟨ha0, hσ, vs0, hH0, _⟩ := s.ow i ds0 (own_at hd0)
    refine ⟨_, hσ, .inl ⟨rfl, vs0, .inl (.inl hH0)⟩, O, H0, A, ad, env, s.self, ?_⟩
    cases q : evP F m env with
    | stuck => rw [q] at hp; exact hp.elim
    | exc c p => rw [q] at hp; exact hp.elim
    | ok p =>
      rw [q] at hp
      intro v H' A' s' r
      have s' := s'.base s.fb
      have hp : PostS X.K G O H0 B D W (appS p.2 i (.ok p.1)) := hp
      unfold appS at hp
      split at hp
      · rename_i ds qo
        obtain ⟨ha', _, vs', hH', hd'⟩ := s'.ow i ds qo
        have hp : PostS X.K G O H0 B D W (if ds.length < 1000000 then .nx (p.2.set i (.ow (ds ++ [p.1]))) else .stuck) := hp
        by_cases hl : ds.length < 1000000
        · rw [if_pos hl] at hp
          refine ⟨ad i, vs', v, rfl, rfl, hH', ?_, hp A' ad σ _ (s'.grow qo (dps_app hd' (.cons r .nil)))⟩
          have h1 := dps_len hd'
          have h2 : (1000000 : Nat) < sizeLine := by decide
          omega
        · rw [if_neg hl] at hp
          exact hp.elim
      · exact hp.elim
  | .insP i ms, C, W, X, st, g, h => by
    rw [chkS.eq_def] at h
    dsimp only at h
    split at h <;> first | cases h | skip
    obtain ⟨h1, h⟩ := ba2 h
    obtain ⟨h2, h⟩ := ba2 h
    obtain ⟨h3, h⟩ := ba2 h
    obtain ⟨h4, h⟩ := ba2 h
    obtain ⟨h5, h⟩ := ba2 h
    obtain ⟨h6, h7⟩ := ba2 h
    have e1 := of_decide_eq_true h1
    subst e1
    have sm := sndPs ms g.gd h7
    have ok := sm.ok
    rw [List.all_cons, Bool.and_eq_true, List.all_cons, Bool.and_eq_true] at ok
    refine ps_imp (ps_expr (pe_bm PySem.F.plainAttrs_list PySem.F.slot_list_insert PySem.F.type_list_insert mt_insert (pe_var (i := i) (by rw [g.gd.N]; exact of_decide_eq_true h2) (by rw [g.gd.sc]; exact isVis_ok h3) (notDbg_ok h4) (notCls_ok h5))
      sm.pa rfl (few_of2 ok.1 ok.2.1) h6 (star_of ok.1) (plain_of (by rw [List.all_cons, ok.2.1]; rfl))) rfl) fun D σ H ⟨O, H0, B, A, ad, env, s, hp⟩ => ?_
    rw [exS] at hp
    by_cases ho : (ownAt env i).isSome = true
    case neg =>
      rw [if_neg ho] at hp
      exact hp.elim
    rw [if_pos ho] at hp
    obtain ⟨ds0, hd0⟩ := Option.isSome_iff_exists.mp ho
    obtain ⟨ha0, hσ, vs0, hH0, _⟩ := s.ow i ds0 (own_at hd0)
    refine ⟨_, hσ, .inl ⟨rfl, vs0, .inl (.inl hH0)⟩, O, H0, A, ad, env, s.self, ?_⟩
    cases q : evPs F ms env with
    | stuck => rw [q] at hp; exact hp.elim
    | exc c p => rw [q] at hp; exact hp.elim
    | ok p =>
      rw [q] at hp
      intro us H' A' s' r
      have s' := s'.base s.fb
      obtain ⟨as, e2⟩ := p
      have hp : PostS X.K G O H0 B D W (withOw e2 i fun ds => insK e2 i ds as) := hp
      obtain ⟨ds, qo, hp⟩ := withOw_ok hp
      obtain ⟨ha', _, vs', hH', hd'⟩ := s'.ow i ds qo
      unfold insK at hp
      split at hp
      · obtain ⟨hc, hp⟩ := iteS hp
        cases r with
        | cons r1 r2 =>
          cases r2 with
          | cons r2 r3 =>
            cases r3
            rw [inv_i r1]
            have h1 := dps_len hd'
            have h2 : (1000000 : Nat) < sizeLine := by decide
            exact ⟨ad i, vs', _, _, rfl, rfl, hH', by omega, hc.1, by omega, hp A' ad σ _ (s'.grow qo (dps_app (dps_app (dps_take _ hd') (.cons r2 .nil)) (dps_drop _ hd')))⟩
      · exact hp.elim
  | .setNC i f ms, C, W, X, st, g, h => by
    rw [chkS.eq_def] at h
    dsimp only at h
    split at h <;> first | cases h | skip
    rename_i t y py as cpos pos
    obtain ⟨hpl, h⟩ := ba2 h
    obtain ⟨h0, h⟩ := ba2 h
    obtain ⟨h1, h⟩ := ba2 h
    obtain ⟨h2, h⟩ := ba2 h
    obtain ⟨h3, h4⟩ := ba2 h
    obtain ⟨x, px, rfl, hi, hx⟩ := name_of g h0
    have ss := sndPs ms g.gd h4
    obtain ⟨k, fa, fd, ps, ds, dvs, sp, FO, hr, hm, hk, hb, hd, imp⟩ := g.gd.ffns f y as.length (of_decide_eq_true h1)
    have fin : ∀ {D : Ends} {σ : L2.St} {H : Hp}, rdS X.K F G N W (.setNC i f ms) D σ H → rdPs X.K F G ms σ H fun vs H1 => sp (vs ++ dvs) H1 (fun v H' => D.nx (σ.set i (some v)) H') (WE W σ) := by
      rintro D σ H ⟨O, H0, B, A, ad, env, s, hp⟩
      rw [exS] at hp
      refine ⟨O, H0, A, ad, env, s.self, ?_⟩
      cases q : evPs F ms env with
      | stuck => rw [q] at hp; exact hp.elim
      | exc c p => rw [q] at hp; exact hp.elim
      | ok p =>
        rw [q] at hp
        intro us H' A' s' r
        have s' := s'.base s.fb
        refine imp us H' _ (WE W σ) ⟨O ++ A', p.1, s'.alOA, by rw [dps_len r, evPs_len ms env p q, ss.len], r, ?_⟩
        have hp : PostS X.K G O H0 B D W (match F f p.1 with
          | .ok (.list ds) => .nx (p.2.set i (.ow ds))
          | _ => .stuck) := hp
        cases z : F f p.1 with
        | stuck => rw [z] at hp; exact hp.elim
        | exc c p => rw [z] at hp; exact hp.elim
        | ok d =>
          rw [z] at hp
          rintro v H2 e2 ⟨q', vs, ds', rfl, rfl, hp1, hp2, r2⟩
          exact hp _ _ _ _ (s'.setNew e2 i (kd_ne g.kind hpl) hp1 hp2 (dps_mono (cut_sub fun a m => mem_sw m) _ _ r2))
    have pc : PE X (.Call (.Name y py) as [] cpos) (fun σ H Q => rdPs X.K F G ms σ H fun vs H1 => sp (vs ++ dvs) H1 Q (WE W σ)) := by
      cases as with
      | nil =>
        refine pe_imp (pe_callG0 (E := WE W) FO hr (gl_of g.gd h2) hm hk hb hd (fun σ => tkAt g.gd.tk σ) (notDbg_ok h3)) fun σ H Q hq => ?_
        cases ss
        exact rdPs_nil hq
      | cons a0 as =>
        have ok := ss.ok
        rw [List.all_cons, Bool.and_eq_true] at ok
        exact pe_callG (E := WE W) FO hr (gl_of g.gd h2) hm hk hb hd (fun σ => tkAt g.gd.tk σ) ss.pa (notDbg_ok h3) (star_of ok.1) (plain_of ok.2)
    exact ps_imp (ps_set (by rw [g.gd.N]; exact g.gd.nd) hi hx pc (sw_no rfl rfl) (.inl (g.fnT x))) fun D σ H hp => fin hp
  | .swp i a b, C, W, X, st, g, h => by
    rw [chkS.eq_def] at h
    dsimp only at h
    split at h <;> first | cases h | skip
    rename_i y p1 a1 p2 z p3 b1 p4 k1 p5 a2 b2 k2 p6 pos
    obtain ⟨h0, h⟩ := ba2 h
    obtain ⟨h1, h⟩ := ba2 h
    obtain ⟨h2, h⟩ := ba2 h
    obtain ⟨h3, h⟩ := ba2 h
    obtain ⟨h4, h⟩ := ba2 h
    obtain ⟨h5, h⟩ := ba2 h
    obtain ⟨h6, h⟩ := ba2 h
    obtain ⟨h7, h⟩ := ba2 h
    obtain ⟨h8, h9⟩ := ba2 h
    have e2 := of_decide_eq_true h2
    subst e2
    have sa := snd a g.gd h6
    have sb := snd b g.gd h7
    have pv : ∀ {pp : Pos}, PE X (.Name y pp) _ := fun {pp} => pe_var (X := X) (i := i) (pos := pp) (by rw [g.gd.N]; exact of_decide_eq_true h1) (by rw [g.gd.sc]; exact isVis_ok h3) (notDbg_ok h4) (notCls_ok h5)
    have sm : Snd F G W X (.tup (.cons (.ix (.v i) b) (.cons (.ix (.v i) a) .nil))) (.Tuple [a2, b2] k2 p6) := snd _ g.gd (by
      rw [chkE.eq_def]
      dsimp only
      rw [chkEs.eq_def]
      dsimp only
      rw [chkEs.eq_def]
      dsimp only
      rw [chkEs.eq_def]
      dsimp only
      rw [h8, h9]
      rfl)
    refine ps_imp (ps_asg sm.pe (pg_tup (g.gd.calm h0) (pgs_cons (pg_sub pv sa.pe set_list (assign_sub sa.ok)) (pgs_cons (pg_sub pv sb.pe set_list (assign_sub sb.ok)) pgs_nil rfl) rfl) rfl rfl) (by unfold swapsWithSole; exact sw_no rfl rfl) (sws_sub) rfl) fun D σ H ⟨O, H0, B, A, ad, env, s, hp⟩ => ?_
    rw [exS] at hp
    refine rd_imp (valS_rd s hp) fun v H' _ ⟨A', d, e, s', r, p⟩ => ?_
    unfold swpK at p
    split at p <;> first | exact p.elim | skip
    rename_i yd zd
    obtain ⟨ta, xs, rfl, q1, q2⟩ := inv_t r
    cases q2 with
    | cons ry q2 =>
    cases q2 with
    | cons rz q2 =>
    cases q2
    rename_i vy vz
    refine ⟨ta, _, rfl, sqT_mono cut_le q1, rfl, vy, _, rfl, ?_⟩
    obtain ⟨ds, q, p⟩ := withOw_ok p
    obtain ⟨ha, hσ, vs, hH, hd⟩ := s'.ow i ds q
    refine ⟨_, hσ, rd_imp ⟨O, fullE env, s'.full, post_toS (rep := dp X.K O) s' p⟩ fun k H2 e2 ⟨_, dk, rk, p2⟩ => ?_⟩
    cases dk <;> first | exact p2.elim | skip
    rename_i kk
    have hkk := inv_i' rk
    subst hkk
    have p2 : PostS X.K G O H0 B D W (thenS (match ixN ds.length kk with
      | some j => .nx (env.set i (.ow (ds.set j yd)))
      | none => .stuck) fun e1 => withOw e1 i fun ds1 => (evE F b (fullE e1)).toS e1 fun kb => stK e1 i ds1 zd kb) := p2
    cases hj : ixN ds.length kk with
    | none => rw [hj] at p2; exact p2.elim
    | some j =>
      rw [hj] at p2
      have p2 : PostS X.K G O H0 B D W (withOw (env.set i (.ow (ds.set j yd))) i fun ds1 => (evE F b (fullE (env.set i (.ow (ds.set j yd))))).toS (env.set i (.ow (ds.set j yd))) fun kb => stK (env.set i (.ow (ds.set j yd))) i ds1 zd kb) := p2
      have s2 := s'.up e2
      obtain ⟨ha2, hσ2, vs2, hH2, hd2⟩ := s2.ow i ds q
      have r2 := dp_mono (cut_same (O := O ++ A') e2) _ _ ry
      have s3 := s2.grow q (dps_set r2 j hd2)
      refine ⟨_, vs2, kk, j, rfl, rfl, hH2, by rw [dps_len hd2]; exact hj, vz, _, rfl, ?_⟩
      obtain ⟨ds1, q1', p3⟩ := withOw_ok p2
      obtain ⟨ha3, hσ3, vs3, hH3, hd3⟩ := s3.ow i ds1 q1'
      have up : Same (cut H' (O ++ A')) (cut (upd H2 (ad i) (.lst (vs2.set j vy))) (O ++ A')) := fun a o z => by
        obtain ⟨z1, z2⟩ := cut_some z
        refine cut_of ?_ z2
        rw [upd_ne fun e => z2 (by rw [e]; exact List.mem_append_right _ ha2)]
        exact e2 _ _ z1
      refine ⟨_, hσ3, rd_imp ⟨O, fullE _, s3.full, post_toS (rep := dp X.K O) s3 p3⟩ fun k H4 e4 ⟨_, dk, rk, p4⟩ => ?_⟩
      cases dk <;> first | exact p4.elim | skip
      rename_i kb
      have hkb := inv_i' rk
      subst hkb
      have p4 : PostS X.K G O H0 B D W (match ixN ds1.length kb with
        | some j2 => .nx ((env.set i (.ow (ds.set j yd))).set i (.ow (ds1.set j2 zd)))
        | none => .stuck) := p4
      cases hj2 : ixN ds1.length kb with
      | none => rw [hj2] at p4; exact p4.elim
      | some j2 =>
        rw [hj2] at p4
        have s4 := s3.up e4
        obtain ⟨ha5, hσ5, vs5, hH5, hd5⟩ := s4.ow i ds1 q1'
        have r5 := dp_mono (cut_same (O := O ++ A') e4) _ _ (dp_mono up _ _ rz)
        exact ⟨_, vs5, kb, j2, rfl, rfl, hH5, by rw [dps_len hd5]; exact hj2, rfl, p4 A' ad σ _ (s4.grow q1' (dps_set r5 j2 hd5))⟩
  | .ext i m, C, W, X, st, g, h => by
    rw [chkS.eq_def] at h
    dsimp only at h
    split at h <;> first | cases h | skip
    obtain ⟨h1, h⟩ := ba2 h
    obtain ⟨h2, h⟩ := ba2 h
    obtain ⟨h3, h⟩ := ba2 h
    obtain ⟨h4, h⟩ := ba2 h
    obtain ⟨h5, h⟩ := ba2 h
    obtain ⟨h6, h7⟩ := ba2 h
    have e1 := of_decide_eq_true h1
    subst e1
    have sm := snd m g.gd h7
    refine ps_imp (ps_expr (pe_bm PySem.F.plainAttrs_list PySem.F.slot_list_extend PySem.F.type_list_extend mt_extendS (pe_var (i := i) (by rw [g.gd.N]; exact of_decide_eq_true h2) (by rw [g.gd.sc]; exact isVis_ok h3) (notDbg_ok h4) (notCls_ok h5))
      (pa_cons sm.pe pa_nil (star_of sm.ok)) rfl (few_of sm.ok) h6 (star_of sm.ok) rfl) rfl) fun D σ H ⟨O, H0, B, A, ad, env, s, hp⟩ => ?_
    rw [exS] at hp
    obtain ⟨ds, q, hp⟩ := withOw_ok hp
    obtain ⟨ha, hσ, vs, hH, hd⟩ := s.ow i ds q
    refine ⟨.ref (ad i), hσ, .inl ⟨rfl, vs, .inl (.inl hH)⟩, O ++ A, cleanE env, s.clean, ?_⟩
    cases q2 : evE F m (cleanE env) with
    | stuck => rw [q2] at hp; exact hp.elim
    | exc c p =>
      rw [q2] at hp
      exact fun cls dd H' e x => hp A ad σ H' cls dd (s.up e) (x.lo s.e0)
    | ok d =>
      rw [q2] at hp
      cases d <;> first | exact hp.elim | skip
      rename_i es
      intro v H' e r
      have hp : PostS X.K G O H0 B D W (extK env i ds es) := hp
      unfold extK at hp
      by_cases hl : ds.length + es.length ≤ 1000000
      · rw [if_pos hl] at hp
        obtain ⟨b, zs, rfl, r1, r2⟩ := inv_l r
        have s' := s.up e
        obtain ⟨_, _, vs', hH', hd'⟩ := s'.ow i ds q
        have h1 := dps_len hd'
        have h3 := dps_len r2
        have h2 : (1000000 : Nat) < sizeLine := by decide
        exact ⟨ad i, b, vs', zs, rfl, rfl, hH', sqL_mono cut_le r1, by omega, hp A ad σ _ (s'.grow q (dps_app hd' r2))⟩
      · rw [if_neg hl] at hp
        exact hp.elim
  | .clr i, C, W, X, st, g, h => by
    rw [chkS.eq_def] at h
    dsimp only at h
    split at h <;> first | cases h | skip
    obtain ⟨h1, h⟩ := ba2 h
    obtain ⟨h2, h⟩ := ba2 h
    obtain ⟨h3, h⟩ := ba2 h
    obtain ⟨h4, h⟩ := ba2 h
    obtain ⟨h5, h6⟩ := ba2 h
    have e1 := of_decide_eq_true h1
    subst e1
    refine ps_imp (ps_expr (pe_bm0 PySem.F.plainAttrs_list PySem.F.slot_list_clear PySem.F.type_list_clear mt_clear (pe_var (i := i) (by rw [g.gd.N]; exact of_decide_eq_true h2) (by rw [g.gd.sc]; exact isVis_ok h3) (notDbg_ok h4) (notCls_ok h5)) rfl h6) rfl) fun D σ H ⟨O, H0, B, A, ad, env, s, hp⟩ => ?_
    rw [exS] at hp
    obtain ⟨ds, q, hp⟩ := withOw_ok hp
    obtain ⟨ha, hσ, vs, hH, hd⟩ := s.ow i ds q
    exact ⟨.ref (ad i), hσ, .inl ⟨rfl, vs, .inl (.inl hH)⟩, ad i, vs, rfl, rfl, hH, hp A ad σ _ (s.grow q .nil)⟩
  | .rev i, C, W, X, st, g, h => by
    rw [chkS.eq_def] at h
    dsimp only at h
    split at h <;> first | cases h | skip
    obtain ⟨h1, h⟩ := ba2 h
    obtain ⟨h2, h⟩ := ba2 h
    obtain ⟨h3, h⟩ := ba2 h
    obtain ⟨h4, h⟩ := ba2 h
    obtain ⟨h5, h6⟩ := ba2 h
    have e1 := of_decide_eq_true h1
    subst e1
    refine ps_imp (ps_expr (pe_bm0 PySem.F.plainAttrs_list PySem.F.slot_list_reverse PySem.F.type_list_reverse mt_reverse (pe_var (i := i) (by rw [g.gd.N]; exact of_decide_eq_true h2) (by rw [g.gd.sc]; exact isVis_ok h3) (notDbg_ok h4) (notCls_ok h5)) rfl h6) rfl) fun D σ H ⟨O, H0, B, A, ad, env, s, hp⟩ => ?_
    rw [exS] at hp
    obtain ⟨ds, q, hp⟩ := withOw_ok hp
    obtain ⟨ha, hσ, vs, hH, hd⟩ := s.ow i ds q
    exact ⟨.ref (ad i), hσ, .inl ⟨rfl, vs, .inl (.inl hH)⟩, ad i, vs, rfl, rfl, hH, hp A ad σ _ (s.grow q (dps_rev hd))⟩
  | .exsP m, C, W, X, st, g, h => by
    rw [chkS.eq_def] at h
    dsimp only at h
    split at h <;> first | cases h | skip
    obtain ⟨h1, h2⟩ := ba2 h
    have sm := sndP m g.gd h2
    refine ps_imp (ps_expr sm.2 (sw_no sm.1 (by
      rename_i e _
      cases e <;> first | rfl | exact nomatch (show false = true from h1)))) fun D σ H ⟨O, H0, B, A, ad, env, s, hp⟩ => ?_
    rw [exS] at hp
    refine ⟨O, H0, A, ad, env, s.self, ?_⟩
    cases q : evP F m env with
    | stuck => rw [q] at hp; exact hp.elim
    | exc c p => rw [q] at hp; exact hp.elim
    | ok p =>
      rw [q] at hp
      exact fun v H' A' s' r => hp A' ad σ H' (s'.base s.fb)
  | .retQ m, C, W, X, st, g, h => by
    rw [chkS.eq_def] at h
    dsimp only at h
    split at h <;> first | cases h | skip
    obtain ⟨hk, h⟩ := ba2 h
    have hk := kd_data g.kind (of_decide_eq_true hk)
    refine ps_imp (ps_ret (sndP m g.gd h).2) fun D σ H ⟨O, H0, B, A, ad, env, s, hp⟩ => ?_
    rw [exS] at hp
    refine ⟨O, H0, A, ad, env, s.self, ?_⟩
    cases q : evP F m env with
    | stuck => rw [q] at hp; exact hp.elim
    | exc c p => rw [q] at hp; exact hp.elim
    | ok p =>
      rw [q] at hp
      have hp : PostS X.K G O H0 B D W (.rt p.1) := hp
      unfold PostS at hp
      rw [hk] at hp
      exact fun v H' A' s' r => hp v H' s'.e0 (dp_mono (cut_sub fun a m => List.mem_append_left _ m) _ _ r)
  | .stQ i x m, C, W, X, st, g, h => by
    rw [chkS.eq_def] at h
    dsimp only at h
    split at h <;> first | cases h | skip
    obtain ⟨h1, h⟩ := ba2 h
    obtain ⟨h2, h⟩ := ba2 h
    obtain ⟨h3, h⟩ := ba2 h
    obtain ⟨h4, h⟩ := ba2 h
    obtain ⟨h5, h⟩ := ba2 h
    obtain ⟨h6, h⟩ := ba2 h
    obtain ⟨h7, h8⟩ := ba2 h
    have sm := sndP m g.gd h6
    have sx := sndP x g.gd h5
    refine ps_imp (ps_asg sm.2 (pg_sub (pe_var (X := X) (i := i) (by rw [g.gd.N]; exact of_decide_eq_true h1) (by rw [g.gd.sc]; exact isVis_ok h2) (notDbg_ok h3) (notCls_ok h4)) sx.2 set_list (assign_sub sx.1)) (by unfold swapsWithSole; exact sw_no sm.1 (bnot h7)) (sws_no sm.1 (bnot h8)) rfl) fun D σ H ⟨O, H0, B, A, ad, env, s, hp⟩ => ?_
    rw [exS] at hp
    refine ⟨O, H0, A, ad, env, s.self, ?_⟩
    cases q : evP F m env with
    | stuck => rw [q] at hp; exact hp.elim
    | exc c p => rw [q] at hp; exact hp.elim
    | ok p =>
      rw [q] at hp
      intro v H' A' s' r
      have s' := s'.base s.fb
      have hp : PostS X.K G O H0 B D W (if (ownAt p.2 i).isSome = true then stQ2 i p.1 (evP F x p.2) else .stuck) := hp
      by_cases hi : (ownAt p.2 i).isSome = true
      · rw [if_pos hi] at hp
        obtain ⟨ds0, qo0⟩ := Option.isSome_iff_exists.mp hi
        obtain ⟨ha', hσ', vs, hH', hd'⟩ := s'.ow i ds0 (own_at qo0)
        refine ⟨_, hσ', O, H0, A', ad, p.2, s'.self, ?_⟩
        cases q2 : evP F x p.2 with
        | stuck => rw [q2] at hp; exact hp.elim
        | exc c p => rw [q2] at hp; exact hp.elim
        | ok p2 =>
          rw [q2] at hp
          intro k H2 A2 s2 rk
          have s2' := s2.base s'.fb
          have hp : PostS X.K G O H0 B D W (withOw p2.2 i fun ds => stK p2.2 i ds p.1 p2.1) := hp
          obtain ⟨ds, qo, hp⟩ := withOw_ok hp
          obtain ⟨dx, e2⟩ := p2
          cases dx with
          | int kk =>
            have hkk := inv_i' rk
            subst hkk
            have hp : PostS X.K G O H0 B D W (match ixN ds.length kk with
              | some j => .nx (e2.set i (.ow (ds.set j p.1)))
              | none => .stuck) := hp
            cases hj : ixN ds.length kk with
            | none => rw [hj] at hp; exact hp.elim
            | some j =>
              rw [hj] at hp
              obtain ⟨ha2, hσ2, vs2, hH2, hd2⟩ := s2'.ow i ds qo
              have r2 := dp_mono s2.fb _ _ r
              exact ⟨_, vs2, kk, j, rfl, rfl, hH2, by rw [dps_len hd2]; exact hj, hp A2 ad σ _ (s2'.grow qo (dps_set r2 j hd2))⟩
          | _ => exact hp.elim
      · rw [if_neg hi] at hp
        exact hp.elim
  | .stIP i x m, C, W, X, st, g, h => by
    rw [chkS.eq_def] at h
    dsimp only at h
    split at h <;> first | cases h | skip
    obtain ⟨h1, h⟩ := ba2 h
    obtain ⟨h2, h⟩ := ba2 h
    obtain ⟨h3, h⟩ := ba2 h
    obtain ⟨h4, h⟩ := ba2 h
    obtain ⟨h5, h⟩ := ba2 h
    obtain ⟨h6, h⟩ := ba2 h
    obtain ⟨h7, h8⟩ := ba2 h
    have sm := sndP m g.gd h6
    have sx := snd x g.gd h5
    refine ps_imp (ps_asg sm.2 (pg_sub (pe_var (X := X) (i := i) (by rw [g.gd.N]; exact of_decide_eq_true h1) (by rw [g.gd.sc]; exact isVis_ok h2) (notDbg_ok h3) (notCls_ok h4)) sx.pe set_list (assign_sub sx.ok)) (by unfold swapsWithSole; exact sw_no sm.1 (bnot h7)) (sws_no sm.1 (bnot h8)) rfl) fun D σ H ⟨O, H0, B, A, ad, env, s, hp⟩ => ?_
    rw [exS] at hp
    refine ⟨O, H0, A, ad, env, s.self, ?_⟩
    cases q : evP F m env with
    | stuck => rw [q] at hp; exact hp.elim
    | exc c p => rw [q] at hp; exact hp.elim
    | ok p =>
      rw [q] at hp
      intro v H' A' s' r
      have s' := s'.base s.fb
      have hp : PostS X.K G O H0 B D W (withOw p.2 i fun ds => (evE F x (fullE p.2)).toS p.2 fun k => stK p.2 i ds p.1 k) := hp
      obtain ⟨ds, qo, hp⟩ := withOw_ok hp
      obtain ⟨ha', hσ', vs, hH', hd'⟩ := s'.ow i ds qo
      refine ⟨_, hσ', rd_imp ⟨O, fullE p.2, s'.full, post_toS (rep := dp X.K O) s' hp⟩ fun k H2 e2 ⟨_, dk, rk, p2⟩ => ?_⟩
      cases dk <;> first | exact p2.elim | skip
      rename_i kk
      have hkk := inv_i' rk
      subst hkk
      have p2 : PostS X.K G O H0 B D W (match ixN ds.length kk with
        | some j => .nx (p.2.set i (.ow (ds.set j p.1)))
        | none => .stuck) := p2
      cases hj : ixN ds.length kk with
      | none => rw [hj] at p2; exact p2.elim
      | some j =>
        rw [hj] at p2
        have s2 := s'.up e2
        obtain ⟨ha2, hσ2, vs2, hH2, hd2⟩ := s2.ow i ds qo
        have r2 := dp_mono (cut_same (O := O ++ A') e2) _ _ r
        exact ⟨_, vs2, kk, j, rfl, rfl, hH2, by rw [dps_len hd2]; exact hj, p2 A' ad σ _ (s2.grow qo (dps_set r2 j hd2))⟩
  | .forP w ws tg b, C, W, X, st, g, h => by
    rw [chkS.eq_def] at h
    dsimp only at h
    split at h <;> first | cases h | skip
    obtain ⟨h1, h⟩ := ba2 h
    obtain ⟨h2, h⟩ := ba2 h
    obtain ⟨h3, h⟩ := ba2 h
    obtain ⟨h4, h5⟩ := ba2 h
    split at h4 <;> first | cases h4 | skip
    rename_i as hq
    have ss := sndPs ws g.gd h4
    refine ps_imp (ps_for g.po (g.gd.calm h1) (snd_itP g.gd hq ss) (pg_chk g.gd (fun x _ => g.fnT x) h3) (sndSs b g h5) (fold_of h2)) fun D σ H ⟨O, H0, B, A, ad, env, s, hp⟩ => ?_
    rw [exS] at hp
    refine ⟨O, H0, A, ad, env, s.self, ?_⟩
    cases q : evIP F w ws env with
    | stuck => rw [q] at hp; exact hp.elim
    | exc c p => rw [q] at hp; exact hp.elim
    | ok p =>
      rw [q] at hp
      exact fun J H' A' s' wd => for_run (s'.base s.fb) wd hp
  | .iff c a b, C, W, X, st, g, h => by
    rw [chkS.eq_def] at h
    dsimp only at h
    split at h <;> first | cases h | skip
    obtain ⟨h1, h⟩ := ba2 h
    obtain ⟨h2, h⟩ := ba2 h
    obtain ⟨h3, h4⟩ := ba2 h
    refine ps_imp (ps_if ((snd c g.gd h1).pt h2) (sndSs a g h3) (sndSs b g h4)) fun D σ H ⟨O, H0, B, A, ad, env, s, hp⟩ => ?_
    rw [exS] at hp
    refine rdT_imp (rdT_toS s hp) fun k H' _ ⟨e, p⟩ => ?_
    cases k with
    | true => exact ⟨O, H0, B, A, ad, env, s.up e, p⟩
    | false => exact ⟨O, H0, B, A, ad, env, s.up e, p⟩
  | .forr w ws tg b, C, W, X, st, g, h => by
    rw [chkS.eq_def] at h
    dsimp only at h
    split at h <;> first | cases h | skip
    obtain ⟨h1, h⟩ := ba2 h
    obtain ⟨h2, h⟩ := ba2 h
    obtain ⟨h3, h⟩ := ba2 h
    obtain ⟨h4, h5⟩ := ba2 h
    split at h4 <;> first | cases h4 | skip
    rename_i as hq
    have ss := snds ws g.gd h4
    refine ps_imp (ps_for g.po (g.gd.calm h1) (snd_it g.gd hq ss.ok ss.pa (fun a q => let ⟨m, e, s⟩ := ss.one a q; ⟨m, e, s.pe⟩)) (pg_chk g.gd (fun x _ => g.fnT x) h3) (sndSs b g h5) (fold_of h2)) fun D σ H ⟨O, H0, B, A, ad, env, s, hp⟩ => ?_
    rw [exS] at hp
    by_cases hr : isRng w = true
    · have hv : valI F env w ws = evI F w ws (fullE env) := by cases w <;> first | rfl | cases hr
      rw [hv] at hp
      refine ⟨O, fullE env, s.full, (post_toS (rep := repI X.K O w) s hp).imp fun J H' _ ⟨e, items, wd, p⟩ => ?_⟩
      unfold repI at wd
      rw [if_pos hr] at wd
      exact for_run (s.up e) wd.toD p
    · have hv : valI F env w ws = evI F w ws (cleanE env) := by cases w <;> first | rfl | exact absurd rfl hr
      rw [hv] at hp
      exact ⟨O ++ A, cleanE env, s.clean, (post_toS (rep := repI X.K (O ++ A) w) s hp).imp fun J H' _ ⟨e, items, wd, p⟩ => for_run (s.up e) (repI_toD wd) p⟩
  | .whil c b, C, W, X, st, g, h => by
    rw [chkS.eq_def] at h
    dsimp only at h
    split at h <;> first | cases h | skip
    obtain ⟨h1, h⟩ := ba2 h
    obtain ⟨h2, h3⟩ := ba2 h
    refine ps_imp (ps_while g.po ((snd c g.gd h1).pt h2) (sndSs b g h3)) fun D σ H ⟨O, H0, B, A, ad, env, s, hp⟩ => ?_
    rw [exS] at hp
    exact while_run s hp
  | .raise c, C, W, X, st, g, h => by
    rw [chkS.eq_def] at h
    dsimp only at h
    split at h <;> first | cases h | skip
    rename_i x p1 ms mk p2 p3 p4
    obtain ⟨h1, h⟩ := ba2 h
    obtain ⟨h2, h⟩ := ba2 h
    obtain ⟨h3, h⟩ := ba2 h
    obtain ⟨h4, h5⟩ := ba2 h
    have k := g.exk c (of_decide_eq_true h3)
    have hx := of_decide_eq_true h2
    have pr : PS X (.Raise (some (.Call (.Name x p1) [.Constant (.str ms) mk p2] [] p3)) none p4) (fun _ σ H => W (.ref (G.ex c)) none σ H) := by
      have tk := g.gd.tk
      cases hs : C.st with
      | false =>
        rw [hs] at tk
        exact ps_raise (g.gd.calm h1) tk (pmk_own PySem.F.excBase_ValueError k.q (g.exm c _ hx) k.k (raises_own k.b k.t) (gl_of g.gd h4) (notDbg_ok h5))
      | true =>
        rw [hs] at tk
        exact L2N.ps_raise (g.gd.calm h1) tk (L2N.pmk_own PySem.F.excBase_ValueError k.q (g.exm c _ hx) k.k (raises_own k.b k.t) (gl_of g.gd h4) (notDbg_ok h5))
    refine ps_imp pr fun D σ H ⟨O, H0, B, A, ad, env, s, hp⟩ => ?_
    rw [exS] at hp
    have hc : G.has c = true := by
      rw [g.exn, hx]
      rfl
    exact hp A ad σ H _ _ s ⟨hc, rfl, .inl ⟨rfl, rfl⟩⟩
  | .tryx c b hh, C, W, X, st, g, h => by
    rw [chkS.eq_def] at h
    dsimp only at h
    split at h <;> first | cases h | skip
    obtain ⟨h0, h⟩ := ba2 h
    obtain ⟨h1, h⟩ := ba2 h
    obtain ⟨h2, h⟩ := ba2 h
    obtain ⟨h3, h⟩ := ba2 h
    obtain ⟨h4, h5⟩ := ba2 h
    have hx := of_decide_eq_true h1
    have hc : G.has c = true := by
      rw [g.exn, hx]
      rfl
    have hst := bnot h0
    have tk0 := g.gd.tk
    rw [hst] at tk0
    refine ps_imp (ps_try_only (tb := fun W' => rdSs X.K F G N W' b) (ts := fun _ _ _ => rdSs X.K F G N (fun _ _ _ _ => False) hh) g.st g.frm ⟨gl_of g.gd h2, notDbg_ok h3, .inl (g.exm c _ hx)⟩ tk0
      (fun W' pn xe tk po => sndSs b (g.try_ hst tk po) h4) (fun a oe cls d pn _ _ => sndSs hh g.suite_ h5)) fun D σ H ⟨O, H0, B, A, ad, env, s, hp⟩ => ?_
    rw [exS] at hp
    refine ⟨O, H0, B, A, ad, env, s, ?_⟩
    cases q : exSs F N b env with
    | stuck => rw [q] at hp; exact hp
    | nx e => rw [q] at hp; exact hp
    | rt d => rw [q] at hp; exact hp
    | bk e => rw [q] at hp; exact hp
    | ct e => rw [q] at hp; exact hp
    | ex c' p e =>
      rw [q] at hp
      have hp : PostS X.K G O H0 B D W (if subX c' c = true then noEx (exSs F N hh e) else .ex c' p e) := hp
      intro A' ad' σ' H' cls dd s' x'
      obtain ⟨hc', hcl, hp'⟩ := id x'
      refine ⟨subX c' c, by rw [hcl]; exact g.exs c' c hc' hc, fun hs a ha => ?_, fun hs => ?_⟩
      · rw [if_pos hs] at hp
        refine ⟨O, H0, B, A', ad', e, s', ?_⟩
        cases q2 : exSs F N hh e with
        | stuck => rw [q2] at hp; exact hp
        | nx e3 => rw [q2] at hp; exact hp
        | rt d3 => rw [q2] at hp; exact hp
        | bk e3 => rw [q2] at hp; exact hp
        | ct e3 => rw [q2] at hp; exact hp
        | ex c3 p3 e3 => rw [q2] at hp; exact hp.elim
      · rw [if_neg (by rw [hs]; exact Bool.false_ne_true)] at hp
        exact hp A' ad' σ' H' cls dd s' x'
  | .tryr c k b, C, W, X, st, g, h => by
    rw [chkS.eq_def] at h
    dsimp only at h
    split at h <;> first | cases h | skip
    rename_i body x px y py ms mj mp rp1 rp2 hp1 tp1
    obtain ⟨h0, h⟩ := ba2 h
    obtain ⟨h01, h⟩ := ba2 h
    obtain ⟨h1, h⟩ := ba2 h
    obtain ⟨h2, h⟩ := ba2 h
    obtain ⟨h3, h⟩ := ba2 h
    obtain ⟨h4, h⟩ := ba2 h
    obtain ⟨h5, h⟩ := ba2 h
    obtain ⟨h6, h⟩ := ba2 h
    obtain ⟨h7, h8⟩ := ba2 h
    have hx := of_decide_eq_true h1
    have hy := of_decide_eq_true h5
    have hst := bnot h0
    have kk := g.exk k (of_decide_eq_true h6)
    have tk0 := g.gd.tk
    rw [hst] at tk0
    have hc : G.has c = true := by
      rw [g.exn, hx]
      rfl
    have hk : G.has k = true := by
      rw [g.exn, hy]
      rfl
    refine ps_imp (L2H.ps_try_onlyX (tb := fun W' => rdSs X.K F G N W' b) (ts := fun _ _ _ D σ H => W (.ref (G.ex k)) none σ H) g.st g.frm ⟨gl_of g.gd h2, notDbg_ok h3, .inl (g.exm c _ hx)⟩ (g.poA hst h01) tk0
      (fun W' pn xe tk tk2 po => sndSs b (g.tryN_ tk po) h4) (fun a oe cls d pn _ _ tk hot => pss_imp (pss_cons (L2H.ps_raiseH hot tk (L2N.pmk_own PySem.F.excBase_ValueError kk.q (g.exm k _ hy) kk.k (raises_own kk.b kk.t) (gl_of g.gd h7) (notDbg_ok h8))) pss_nil) fun D σ H hq => hq)) fun D σ H ⟨O, H0, B, A, ad, env, s, hp⟩ => ?_
    rw [exS] at hp
    refine ⟨O, H0, B, A, ad, env, s, ?_⟩
    cases q : exSs F N b env with
    | stuck => rw [q] at hp; exact hp
    | nx e => rw [q] at hp; exact hp
    | rt d => rw [q] at hp; exact hp
    | bk e => rw [q] at hp; exact hp
    | ct e => rw [q] at hp; exact hp
    | ex c' p e =>
      rw [q] at hp
      have hp : PostS X.K G O H0 B D W (if subX c' c = true then .ex k none e else .ex c' p e) := hp
      intro A' ad' σ' H' cls dd s' x'
      obtain ⟨hc', hcl, hp'⟩ := id x'
      refine ⟨subX c' c, by rw [hcl]; exact g.exs c' c hc' hc, fun hs a ha => ?_, fun hs => ?_⟩
      · rw [if_pos hs] at hp
        exact hp A' ad' σ' H' _ _ s' ⟨hk, rfl, .inl ⟨rfl, rfl⟩⟩
      · rw [if_neg (by rw [hs]; exact Bool.false_ne_true)] at hp
        exact hp A' ad' σ' H' cls dd s' x'
  | .stk, C, W, X, st, g, h => ⟨fun pins s σ H D I hq => False.elim (by
    obtain ⟨O, H0, B, A, ad, env, s, hp⟩ := hq
    rw [exS] at hp
    exact hp)⟩
  | .raiseP c m, C, W, X, st, g, h => by
    rw [chkS.eq_def] at h
    dsimp only at h
    split at h <;> first | cases h | skip
    rename_i x p1 e p3 p4
    obtain ⟨h1, h⟩ := ba2 h
    obtain ⟨h0, h⟩ := ba2 h
    obtain ⟨h2, h⟩ := ba2 h
    obtain ⟨h3, h⟩ := ba2 h
    obtain ⟨h4, h⟩ := ba2 h
    obtain ⟨h5, h6⟩ := ba2 h
    have hx := of_decide_eq_true h2
    have hc : G.has c = true := by
      rw [g.exn, hx]
      rfl
    have hst := bnot h0
    have tk := g.gd.tk
    rw [hst] at tk
    have se := snd m g.gd h6
    obtain ⟨k, fI, fd, ps, sp, T, iC, tI, F1, hr, hb, imp⟩ := g.exp c (of_decide_eq_true h3)
    refine ps_imp (ps_raise (g.gd.calm h1) tk (pmk_oex T iC tI F1 hr hb .nil (fun pins σ H s e s' I c => tkAt (b := C.st) (W := fun _ _ _ _ => False) tk0 σ pins H s e s' I c) (gl_of g.gd h4) (g.exm c _ hx) (pa_cons se.pe pa_nil (star_of se.ok)) (notDbg_ok h5) (star_of se.ok) rfl)) fun D σ H ⟨O, H0, B, A, ad, env, s, hp⟩ => ?_
    rw [exS] at hp
    refine ⟨O, fullE env, s.full, (post_toS (rep := dp X.K O) s hp).imp fun v H1 _ ⟨s1, d, r, q⟩ => ⟨(by show 1 ≤ 1000; decide), fun a ha => ?_⟩⟩
    cases d <;> first | exact q.elim | skip
    rename_i i
    rw [inv_i r]
    refine imp a i _ _ _ upd_same fun dx hdx hne => ⟨rfl, dx, _, upd_same, by rw [upd_ne hne]; exact upd_same, by rw [upd_ne hne] at hdx; exact hdx, ?_⟩
    have hdx1 : H1 dx = none := by rw [upd_ne hne] at hdx; exact hdx
    have sm : Same H1 (upd (del (upd (upd (upd H1 a (exo a (G.ex c) none)) dx (exd dx [(G.fld c, .int i)])) a (exo a (G.ex c) (some dx))) a) dx (.xd [(G.fld c, .int i)])) := fun b o q => by
      have nb : b ≠ dx := fun z => by rw [z, hdx1] at q; cases q
      have na : b ≠ a := fun z => by rw [z, ha] at q; cases q
      rw [upd_ne nb, del_ne na, upd_ne na, upd_ne nb, upd_ne na]
      exact q
    exact q A ad σ _ _ _ (s.up (s1.trans sm)) ⟨hc, rfl, .inr ⟨i, dx, rfl, rfl, none_lo (s.e0.trans s1) hdx1, upd_same⟩⟩
  | .tryE c i b hh, C, W, X, st, g, h => by
    rw [chkS.eq_def] at h
    dsimp only at h
    split at h <;> first | cases h | skip
    rename_i body x px n h0' hs' hp1 tp1
    obtain ⟨h0, h⟩ := ba2 h
    obtain ⟨hxq, h⟩ := ba2 h
    obtain ⟨h1, h⟩ := ba2 h
    obtain ⟨h2, h⟩ := ba2 h
    obtain ⟨h3, h⟩ := ba2 h
    obtain ⟨h4, h⟩ := ba2 h
    obtain ⟨h5, h⟩ := ba2 h
    obtain ⟨h6, h⟩ := ba2 h
    obtain ⟨h7, h8⟩ := ba2 h
    have hx := of_decide_eq_true h1
    have hn := of_decide_eq_true h4
    have hc : G.has c = true := by
      rw [g.exn, hx]
      rfl
    have hst := bnot h0
    have tk0 := g.gd.tk
    rw [hst] at tk0
    have hloc : X.env.kindOf n = some .local := by
      show X.env.scope.names.lookup n = _
      rw [g.gd.sc]
      exact of_decide_eq_true h5
    refine ps_imp (ps_try_as (i := i) (tb := fun W' => rdSs X.K F G N W' b) (ts := fun a cls d D σ H => ∃ c' p x, G.has c' = true ∧ cls = .ref (G.ex c') ∧ XR G c' a d p x ∧ rdSs X.K (exFn c' p x) G N (fun _ _ _ _ => False) hh D σ H) g.st g.frm (by rw [g.gd.N]; exact g.gd.nd) (by rw [g.gd.N]; exact hn) hloc
      ⟨gl_of g.gd h2, notDbg_ok h3, .inl (g.exm c _ hx)⟩ tk0
      (fun W' pn xe tk po => sndSs b (g.try_ hst tk po) h7) (fun a oe cls d pn hz hf => ⟨fun pins s σ H D I ⟨c', p, x, hc', hcl, hxr, hq⟩ => (sndSs hh (g.suiteX_ hz hf hxq hc' hcl hxr (n := n) (i := i)) h8).run pins s σ H D I hq⟩)) fun D σ H ⟨O, H0, B, A, ad, env, s, hp⟩ => ?_
    rw [exS] at hp
    refine ⟨O, H0, B, A, ad, env, s, ?_⟩
    cases q : exSs F N b env with
    | stuck => rw [q] at hp; exact hp
    | nx e => rw [q] at hp; exact hp
    | rt d => rw [q] at hp; exact hp
    | bk e => rw [q] at hp; exact hp
    | ct e => rw [q] at hp; exact hp
    | ex c' p e =>
      rw [q] at hp
      have hp : PostS X.K G O H0 B D W (if subX c' c = true then allX i (XD p) (fun x => exSs (exFn c' p x) N hh (e.set i (.fr x))) else .ex c' p e) := hp
      intro A' ad' σ' H' cls dd s' x'
      obtain ⟨hc', hcl, hp'⟩ := id x'
      refine ⟨subX c' c, by rw [hcl]; exact g.exs c' c hc' hc, fun hs a ha => ?_, fun hs => ?_⟩
      · rw [if_pos hs] at hp
        obtain ⟨y, hy1, hy2, hy3⟩ : ∃ y, XD p y ∧ XR G c' a dd p y ∧ Dq X.K (cut H' (O ++ A')) (.ref a) y := by
          rcases hp' with ⟨rfl, rfl⟩ | ⟨j, d, rfl, rfl, hd0, hd1⟩
          · exact ⟨_, ⟨a, rfl⟩, .inl ⟨rfl, rfl, rfl⟩, .xcp0 a⟩
          · refine ⟨_, ⟨a, d, _, rfl⟩, .inr ⟨j, d, rfl, rfl, rfl⟩, .xcp1 (cut_of hd1 fun m => ?_)⟩
            rcases List.mem_append.mp m with m | m
            · obtain ⟨o, ho⟩ := s'.al0 d m
              rw [hd0] at ho
              cases ho
            · obtain ⟨_, vs, ho⟩ := s'.alA d m
              rw [hd1] at ho
              cases ho
        refine ⟨c', p, y, hc', hcl, hy2, O, H0, B, A', ad', e.set i (.fr y), s'.set i hy3, ?_⟩
        unfold allX at hp
        by_cases hh2 : ∃ r, ∀ x, XD p x → clrS i (exSs (exFn c' p x) N hh (e.set i (.fr x))) = r
        · rw [dif_pos hh2] at hp
          rw [← hh2.choose_spec y hy1] at hp
          cases q2 : exSs (exFn c' p y) N hh (e.set i (.fr y)) with
          | stuck => rw [q2] at hp; exact hp
          | nx e3 => rw [q2] at hp; exact fun A3 ad3 σ3 H3 s3 => hp A3 ad3 _ H3 (s3.unset i none)
          | rt d3 => rw [q2] at hp; exact hp
          | bk e3 => rw [q2] at hp; exact fun A3 ad3 σ3 H3 s3 => hp A3 ad3 _ H3 (s3.unset i none)
          | ct e3 => rw [q2] at hp; exact fun A3 ad3 σ3 H3 s3 => hp A3 ad3 _ H3 (s3.unset i none)
          | ex c3 p3 e3 => rw [q2] at hp; exact hp.elim
        · rw [dif_neg hh2] at hp
          exact hp.elim
      · rw [if_neg (by rw [hs]; exact Bool.false_ne_true)] at hp
        exact hp A' ad' σ' H' cls dd s' x'
  | .brk, C, W, X, st, g, h => by
    rw [chkS.eq_def] at h
    dsimp only at h
    split at h <;> first | cases h | skip
    refine ps_imp ps_break fun D σ H ⟨O, H0, B, A, ad, env, s, hp⟩ => ?_
    rw [exS] at hp
    exact hp A ad σ H s
  | .cont, C, W, X, st, g, h => by
    rw [chkS.eq_def] at h
    dsimp only at h
    split at h <;> first | cases h | skip
    refine ps_imp ps_continue fun D σ H ⟨O, H0, B, A, ad, env, s, hp⟩ => ?_
    rw [exS] at hp
    exact hp A ad σ H s
theorem sndSs {F : Nat → List PyData → R PyData} : ∀ (m : Ss) {C : CtS} {W : WX} {X : Cx} {st : List Stmt}, GdS C F G W X → chkSs C m st = true → PSs X st (rdSs X.K F G N W m)
  | .nil, C, W, X, st, g, h => by
    rw [chkSs.eq_def] at h
    dsimp only at h
    have e0 : st = [] := by
      cases st with
      | nil => rfl
      | cons _ _ => cases h
    subst e0
    refine pss_imp pss_nil fun D σ H ⟨O, H0, B, A, ad, env, s, hp⟩ => ?_
    rw [exSs] at hp
    exact hp A ad σ H s
  | .cons m ms, C, W, X, st, g, h => by
    rw [chkSs.eq_def] at h
    dsimp only at h
    split at h <;> first | cases h | skip
    obtain ⟨h1, h2⟩ := ba2 h
    refine pss_imp (pss_cons (sndS m g h1) (sndSs ms g h2)) fun D σ H ⟨O, H0, B, A, ad, env, s, hp⟩ => ?_
    rw [exSs] at hp
    refine ⟨O, H0, B, A, ad, env, s, ?_⟩
    cases q : exS F N m env with
    | stuck => rw [q] at hp; exact hp
    | nx e => rw [q] at hp; exact fun A' ad' σ' H' s' => ⟨O, H0, B, A', ad', e, s', hp⟩
    | rt d => rw [q] at hp; exact hp
    | bk e => rw [q] at hp; exact hp
    | ct e => rw [q] at hp; exact hp
    | ex c p e => rw [q] at hp; exact hp
  | .tryV c i j b r1 r2, C, W, X, st, g, h => by
    rw [chkSs.eq_def] at h
    dsimp only at h
    split at h <;> first | cases h | skip
    rename_i body x px n t e pa hp1 tp1 ss
    obtain ⟨h0, h⟩ := ba2 h
    obtain ⟨hxq, h⟩ := ba2 h
    obtain ⟨h1, h⟩ := ba2 h
    obtain ⟨h2, h⟩ := ba2 h
    obtain ⟨h3, h⟩ := ba2 h
    obtain ⟨h4, h⟩ := ba2 h
    obtain ⟨h5, h⟩ := ba2 h
    obtain ⟨h6, h⟩ := ba2 h
    obtain ⟨h7, h⟩ := ba2 h
    obtain ⟨h8, h⟩ := ba2 h
    obtain ⟨h81, h8⟩ := ba2 h8
    obtain ⟨h82, h83⟩ := ba2 h8
    obtain ⟨h9, h10⟩ := ba2 h
    split at h10 <;> first | cases h10 | skip
    rename_i y hy
    have hx := of_decide_eq_true h1
    have hn := of_decide_eq_true h4
    have hc : G.has c = true := by
      rw [g.exn, hx]
      rfl
    have hst := bnot h0
    have tk0 := g.gd.tk
    rw [hst] at tk0
    have hloc : X.env.kindOf n = some .local := by
      show X.env.scope.names.lookup n = _
      rw [g.gd.sc]
      exact of_decide_eq_true h5
    refine pss_imp (pss_try_asV (i := i) (tb := fun W' => rdSs X.K F G N W' b) (ts := fun a cls d D σ H => ∃ c' p x, G.has c' = true ∧ cls = .ref (G.ex c') ∧ XR G c' a d p x ∧ rdS X.K (exFn c' p x) G N (fun _ _ _ _ => False) (.set j (.v i)) D σ H)
      (tr := fun a cls d D σ H => ∃ c' p x, G.has c' = true ∧ cls = .ref (G.ex c') ∧ XR G c' a d p x ∧ rdSs X.K (exFn c' p x) G N (fun _ _ _ _ => False) r2 D σ H) (t1 := rdSs X.K F G N W r1) g.st g.frm (by rw [g.gd.N]; exact g.gd.nd) (by rw [g.gd.N]; exact hn) hloc
      ⟨gl_of g.gd h2, notDbg_ok h3, .inl (g.exm c _ hx)⟩ tk0
      (fun W' pn xe tk po => sndSs b (g.try_ hst tk po) h7)
      (fun a oe cls d pn hz hf => ⟨fun pins s σ H D I ⟨c', p, x, hc', hcl, hxr, hq⟩ => (pss_one (snd_set1 (m := .v i) (GdS.suite_ (F2 := exFn c' p x) g) h81 h82 h83)).run pins s σ H D I hq⟩)
      (sndSs r1 g h9)
      (fun a oe cls d pn hz hf => ⟨fun pins s σ H D I ⟨c', p, x, hc', hcl, hxr, hq⟩ => (sndSs r2 (g.pinX_ hz hf hxq hc' hcl hxr (n := y) (i := j)) h10).run pins s σ H D I hq⟩)) fun D σ H ⟨O, H0, B, A, ad, env, s, hp⟩ => ?_
    rw [exSs] at hp
    refine ⟨O, H0, B, A, ad, env, s, ?_⟩
    cases q : exSs F N b env with
    | stuck => rw [q] at hp; exact hp
    | nx e => rw [q] at hp; exact fun A' ad' σ' H' s' => ⟨O, H0, B, A', ad', e, s', hp⟩
    | rt d => rw [q] at hp; exact hp
    | bk e => rw [q] at hp; exact hp
    | ct e => rw [q] at hp; exact hp
    | ex c' p e =>
      rw [q] at hp
      have hp : PostS X.K G O H0 B D W (if subX c' c = true then (if i < e.length then allX i (XD p) (fun x => onlyRt (exSs (exFn c' p x) N r2 (((e.set i (.fr x)).set j (.fr x)).set i .un))) else .stuck) else .ex c' p e) := hp
      intro A' ad' σ' H' cls dd s' x'
      obtain ⟨hc', hcl, hp'⟩ := id x'
      refine ⟨subX c' c, by rw [hcl]; exact g.exs c' c hc' hc, fun hs a ha => ?_, fun hs => ?_⟩
      · rw [if_pos hs] at hp
        by_cases hl : i < e.length
        · rw [if_pos hl] at hp
          obtain ⟨y, hy1, hy2, hy3⟩ : ∃ y, XD p y ∧ XR G c' a dd p y ∧ Dq X.K (cut H' (O ++ A')) (.ref a) y := by
            rcases hp' with ⟨rfl, rfl⟩ | ⟨j, d, rfl, rfl, hd0, hd1⟩
            · exact ⟨_, ⟨a, rfl⟩, .inl ⟨rfl, rfl, rfl⟩, .xcp0 a⟩
            · refine ⟨_, ⟨a, d, _, rfl⟩, .inr ⟨j, d, rfl, rfl, rfl⟩, .xcp1 (cut_of hd1 fun m => ?_)⟩
              rcases List.mem_append.mp m with m | m
              · obtain ⟨o, ho⟩ := s'.al0 d m
                rw [hd0] at ho
                cases ho
              · obtain ⟨_, vs, ho⟩ := s'.alA d m
                rw [hd1] at ho
                cases ho
          refine ⟨c', p, y, hc', hcl, hy2, O, H0, B, A', ad', e.set i (.fr y), s'.set i hy3, ?_⟩
          rw [exS, val_held hl, R.toS_ok]
          intro A3 ad3 σ3 H3 s3
          refine ⟨c', p, y, hc', hcl, hy2, O, H0, B, A3, ad3, _, s3.unset i none, ?_⟩
          unfold allX at hp
          by_cases hh2 : ∃ r, ∀ x, XD p x → clrS i (onlyRt (exSs (exFn c' p x) N r2 (((e.set i (.fr x)).set j (.fr x)).set i .un))) = r
          · rw [dif_pos hh2] at hp
            rw [← hh2.choose_spec y hy1] at hp
            cases q2 : exSs (exFn c' p y) N r2 (((e.set i (.fr y)).set j (.fr y)).set i .un) with
            | stuck => rw [q2] at hp; exact hp
            | nx e3 => rw [q2] at hp; exact hp.elim
            | rt d3 => rw [q2] at hp; exact hp
            | bk e3 => rw [q2] at hp; exact hp.elim
            | ct e3 => rw [q2] at hp; exact hp.elim
            | ex c3 p3 e3 => rw [q2] at hp; exact hp.elim
          · rw [dif_neg hh2] at hp
            exact hp.elim
        · rw [if_neg hl] at hp
          exact hp.elim
      · rw [if_neg (by rw [hs]; exact Bool.false_ne_true)] at hp
        exact hp A' ad' σ' H' cls dd s' x'
  | .frz i ms, C, W, X, st, g, h => by
    rw [chkSs.eq_def] at h
    dsimp only at h
    refine pss_imp (sndSs ms g h) fun D σ H ⟨O, H0, B, A, ad, env, s, hp⟩ => ?_
    rw [exSs] at hp
    obtain ⟨A', s'⟩ := s.freeze i
    exact ⟨O, H0, B, A', ad, _, s', hp⟩
end
end
end Bs

namespace Bs
open PySem PySem.Spec L2
open PyProof.Rows hiding St
def sel (l : List (List D → R D)) (i : Nat) : List D → R D := l.getD i fun _ => .stuck
/-- turns enough for any while here -/
@[irreducible] def fuel : Nat := 2 ^ 4000000
theorem lt_fuel {n : Nat} (h : n < 2 ^ 4000000) : n < fuel := by
  unfold fuel
  exact h
end Bs

namespace Bs
open PySem PySem.Spec L2
open PyProof.Rows hiding St

/-! ### a def -/
/-- what stands of a callee behind the top, by name: n written arguments -/
def CallD (st : Bool) (P : Program) (w : World) (K : PySem.W.Frag) (mg : Str → Option Value) (base : Heap) (G : Gs) (k : Nat) (f : List D → R D) (x : Str) (n : Nat) : Prop := ∃ (fa : Addr) (fd : FuncData) (ps : List Str) (ds : List Value) (dvs : List V) (sp : Sp),
  FnOk P w K mg base (CXf st P w) k fa fd ps sp ∧ mg x = some (.ref fa) ∧ PySem.W.keepIn K (.ref fa) = true ∧ Binds K fd ps ds ∧ Vals dvs ds ∧ ∀ vs H Q E, spD K G n f vs H Q E → sp (vs ++ dvs) H Q E
theorem CallD.mono {st : Bool} {P : Program} {w : World} {K : PySem.W.Frag} {mg : Str → Option Value} {base : Heap} {G : Gs} {j k : Nat} {f : List D → R D} {x : Str} {n : Nat} (h : CallD st P w K mg base G j f x n) (l : j ≤ k) : CallD st P w K mg base G k f x n := by
  obtain ⟨fa, fd, ps, ds, dvs, sp, h1, h2⟩ := h
  exact ⟨fa, fd, ps, ds, dvs, sp, h1.mono l, h2⟩
def CallFD (st : Bool) (P : Program) (w : World) (K : PySem.W.Frag) (mg : Str → Option Value) (base : Heap) (G : Gs) (k : Nat) (f : List D → R D) (x : Str) (n : Nat) : Prop := ∃ (fa : Addr) (fd : FuncData) (ps : List Str) (ds : List Value) (dvs : List V) (sp : Sp),
  FnOk P w K mg base (CXf st P w) k fa fd ps sp ∧ mg x = some (.ref fa) ∧ PySem.W.keepIn K (.ref fa) = true ∧ Binds K fd ps ds ∧ Vals dvs ds ∧ ∀ vs H Q E, spF K G n f vs H Q E → sp (vs ++ dvs) H Q E
theorem CallFD.mono {st : Bool} {P : Program} {w : World} {K : PySem.W.Frag} {mg : Str → Option Value} {base : Heap} {G : Gs} {j k : Nat} {f : List D → R D} {x : Str} {n : Nat} (h : CallFD st P w K mg base G j f x n) (l : j ≤ k) : CallFD st P w K mg base G k f x n := by
  obtain ⟨fa, fd, ps, ds, dvs, sp, h1, h2⟩ := h
  exact ⟨fa, fd, ps, ds, dvs, sp, h1.mono l, h2⟩
/-- a new list is data, too -/
theorem CallFD.data {st : Bool} {P : Program} {w : World} {K : PySem.W.Frag} {mg : Str → Option Value} {base : Heap} {G : Gs} {k : Nat} {f : List D → R D} {x : Str} {n : Nat} (h : CallFD st P w K mg base G k f x n) : CallD st P w K mg base G k f x n := by
  obtain ⟨fa, fd, ps, ds, dvs, sp, h1, h2, h3, h4, h5, h6⟩ := h
  exact ⟨fa, fd, ps, ds, dvs, sp, h1, h2, h3, h4, h5, fun vs H Q E ⟨O, as, al, hl, r, hp⟩ => h6 vs H Q E ⟨O, as, al, hl, r, hp.rep fun H' v d _ q => dp_of_dpn al q⟩⟩
def CallPD (st : Bool) (P : Program) (w : World) (K : PySem.W.Frag) (mg : Str → Option Value) (base : Heap) (k : Nat) (f : List D → R D) (x : Str) (n j : Nat) : Prop := ∃ (fa : Addr) (fd : FuncData) (ps : List Str) (ds : List Value) (dvs : List V) (sp : Sp),
  FnOk P w K mg base (CXf st P w) k fa fd ps sp ∧ mg x = some (.ref fa) ∧ PySem.W.keepIn K (.ref fa) = true ∧ Binds K fd ps ds ∧ Vals dvs ds ∧ ∀ vs H Q E, spP K n j f vs H Q E → sp (vs ++ dvs) H Q E
theorem CallPD.mono {st : Bool} {P : Program} {w : World} {K : PySem.W.Frag} {mg : Str → Option Value} {base : Heap} {j k : Nat} {f : List D → R D} {x : Str} {n i : Nat} (h : CallPD st P w K mg base j f x n i) (l : j ≤ k) : CallPD st P w K mg base k f x n i := by
  obtain ⟨fa, fd, ps, ds, dvs, sp, h1, h2⟩ := h
  exact ⟨fa, fd, ps, ds, dvs, sp, h1.mono l, h2⟩
def CallKD (st : Bool) (P : Program) (w : World) (K : PySem.W.Frag) (mg : Str → Option Value) (base : Heap) (G : Gs) (k : Nat) (f : List D → R D) (x : Str) (n : Nat) (kn : Str) : Prop := ∃ (fa : Addr) (fd : FuncData) (ps : List Str) (g : List Value → List Value → List Value) (sp : Sp),
  FnOk P w K mg base (CXf st P w) k fa fd ps sp ∧ mg x = some (.ref fa) ∧ PySem.W.keepIn K (.ref fa) = true ∧ KBn K fd ps n [kn] g (fun vs zs => vs ++ zs) ∧ ∀ vs H Q E, spD K G (n + 1) f vs H Q E → sp vs H Q E
theorem CallKD.mono {st : Bool} {P : Program} {w : World} {K : PySem.W.Frag} {mg : Str → Option Value} {base : Heap} {G : Gs} {j k : Nat} {f : List D → R D} {x : Str} {n : Nat} {kn : Str} (h : CallKD st P w K mg base G j f x n kn) (l : j ≤ k) : CallKD st P w K mg base G k f x n kn := by
  obtain ⟨fa, fd, ps, g, sp, h1, h2⟩ := h
  exact ⟨fa, fd, ps, g, sp, h1.mono l, h2⟩
/-- how an own exception with a field is made, by the top's facts -/
def MkD (st : Bool) (P : Program) (w : World) (K : PySem.W.Frag) (mg : Str → Option Value) (base : Heap) (G : Gs) (k : Nat) (c : Nat) : Prop := ∃ (fI : Addr) (fd : FuncData) (ps : List Str) (sp : Sp),
  OexC K (G.ex c) ∧ PySem.W.findIn K (.ref (G.ex c)) "__init__" = some (some (.ref fI)) ∧ PySem.W.typeIn K (.ref fI) = some (.type "function") ∧ FnOk P w K mg base (CXf st P w) k fI fd ps sp ∧ Binds K fd ps [] ∧
  ∀ (a : Addr) (i : Int) (H : Hp) (Q : VK) (E : XK), H a = some (exo a (G.ex c) none) → (∀ dx, H dx = none → dx ≠ a → Q .non (upd (upd H dx (exd dx [(G.fld c, .int i)])) a (exo a (G.ex c) (some dx)))) → sp [.ref a, .int i] H Q E
/-- what the top leaves besides defs -/
structure Tp (K : PySem.W.Frag) (mg : Str → Option Value) (G : Gs) (exs : List (Nat × Str)) (exr : List Nat) (bls : List Str) (gis : List (Str × Int)) : Prop where
  bls : ∀ x ∈ bls, mg x = none
  gis : ∀ x n, (x, n) ∈ gis → ∃ t, mg x = some (.int n t)
  exn : ∀ c, G.has c = (exs.lookup c).isSome
  exm : ∀ c x, exs.lookup c = some x → mg x = some (.ref (G.ex c))
  exk : ∀ c ∈ exr, ExcF K (G.ex c)
  exs : ∀ c k, G.has c = true → G.has k = true → PySem.W.exmOne K (.ref (G.ex c)) (.ref (G.ex k)) = some (subX c k)
theorem tk_of {b : Bool} {X : Cx} {E : XK} {E₁ : Value → Shared → Prop} (hs : X.stack = X.env :: X.outer) (hf : X.env.frame = some X.env.locals) (hex : X.ex = [])
    (hx : ∀ e s', X.xe e s' = wpAny (model X.prog X.w) X.A (leaving X.env e) (fun _ s'' => CXf b X.prog X.w X.outer X.H_0 X.s_0 E e s'') E₁ s') : Tk b X (fun cls d _ H => E cls d H) := by
  cases b with
  | false => exact takes_of hs hf hex (funext fun e => funext fun s' => hx e s')
  | true => exact L2N.takes_of hs hf hex (funext fun e => funext fun s' => hx e s')
theorem CallD.weak {P : Program} {w : World} {K : PySem.W.Frag} {mg : Str → Option Value} {base : Heap} {G : Gs} {k : Nat} {f : List D → R D} {x : Str} {n : Nat} (h : CallD true P w K mg base G k f x n) : CallD false P w K mg base G k f x n := by
  obtain ⟨fa, fd, ps, ds, dvs, sp, h1, h2⟩ := h
  exact ⟨fa, fd, ps, ds, dvs, sp, FnOk.weak h1, h2⟩
theorem start_sr {K : PySem.W.Frag} {G : Gs} {O : List Addr} {H : Hp} {N : List Str} {vs : List V} {ds : List D} (hG : ∀ k p, G.kd ≠ .pool k p) (al : Alloc O H) (r : DqAll K (cut H O) vs ds) :
    SR K G O H (fun _ => none) [] (fun _ => 0) (L2.start N vs) H (startS N.length ds) := by
  have hl := dps_len r
  have out : ∀ {i : Nat} {x : Sl}, (startS N.length ds)[i]? = some x → (∃ d, ds[i]? = some d ∧ x = .fr d) ∨ x = .un := fun {i x} q => by
    unfold startS at q
    by_cases h : i < ds.length
    · rw [List.getElem?_append_left (by rw [List.length_map]; exact h), List.getElem?_map] at q
      rw [List.getElem?_eq_getElem h] at q
      exact .inl ⟨_, List.getElem?_eq_getElem h, (Option.some.inj q).symm⟩
    · rw [List.getElem?_append_right (by rw [List.length_map]; omega)] at q
      exact .inr (List.eq_of_mem_replicate (List.mem_of_getElem? q))
  refine ⟨Same.refl H, al, fun p hp => (nomatch hp), ?_, fun a o h => (nomatch h), fun i d q => ?_, fun i ds' q => ?_, fun i j ds' es q => ?_, fun k p z => absurd z (hG k p)⟩
  · unfold L2.start startS
    simp [hl]
  · rcases out q with ⟨d', h1, h2⟩ | h
    · cases h2
      obtain ⟨v, h3, h4⟩ := dps_get r h1
      refine ⟨v, ?_, by rw [List.append_nil]; exact h4⟩
      unfold L2.start
      have hi : i < vs.length := (List.getElem?_eq_some_iff.mp h3).1
      rw [List.getElem?_append_left (by rw [List.length_map]; exact hi), List.getElem?_map, h3]
      rfl
    · cases h
  · rcases out q with ⟨d', h1, h2⟩ | h
    · cases h2
    · cases h
  · rcases out q with ⟨d', h1, h2⟩ | h
    · cases h2
    · cases h
theorem start_srP {K : PySem.W.Frag} {G : Gs} {O : List Addr} {H : Hp} {N : List Str} {p : Addr} {ws v1 v2 : List V} {ps d1 d2 : List D} {k : Nat} (hG : ∀ j q, G.kd = .pool j q → q = p) (al : Alloc O H) (hp : p ∉ O) (hw : H p = some (.lst ws)) (rws : DqAll K (cut H (p :: O)) ws ps)
    (hk : v1.length = k) (r1 : DqAll K (cut H (p :: O)) v1 d1) (r2 : DqAll K (cut H (p :: O)) v2 d2) :
    SR K G O (cut H [p]) (fun _ => none) [p] (fun _ => p) (L2.start N (v1 ++ .ref p :: v2)) H ((startS N.length (d1 ++ .list ps :: d2)).set k (.ow ps)) := by
  have hd1 : d1.length = k := by rw [← dps_len r1]; exact hk
  have l2 := dps_len r2
  have out : ∀ {i : Nat} {x : Sl}, (startS N.length (d1 ++ .list ps :: d2))[i]? = some x → (∃ d, (d1 ++ PyData.list ps :: d2)[i]? = some d ∧ x = .fr d) ∨ x = .un := fun {i x} q => by
    unfold startS at q
    by_cases h : i < (d1 ++ PyData.list ps :: d2).length
    · rw [List.getElem?_append_left (by rw [List.length_map]; exact h), List.getElem?_map] at q
      rw [List.getElem?_eq_getElem h] at q
      exact .inl ⟨_, List.getElem?_eq_getElem h, (Option.some.inj q).symm⟩
    · rw [List.getElem?_append_right (by rw [List.length_map]; omega)] at q
      exact .inr (List.eq_of_mem_replicate (List.mem_of_getElem? q))
  have get : ∀ {j : Nat} {x : Sl}, ((startS N.length (d1 ++ .list ps :: d2)).set k (.ow ps))[j]? = some x → (j = k ∧ x = .ow ps) ∨ (j ≠ k ∧ (startS N.length (d1 ++ .list ps :: d2))[j]? = some x) := fun {j x} q => by
    by_cases e : k = j
    · subst e
      by_cases hl : k < (startS N.length (d1 ++ .list ps :: d2)).length
      · rw [List.getElem?_set_self hl] at q
        cases q
        exact .inl ⟨rfl, rfl⟩
      · rw [List.getElem?_eq_none (by rw [List.length_set]; omega)] at q
        cases q
    · rw [List.getElem?_set_ne e] at q
      exact .inr ⟨fun z => e z.symm, q⟩
  have key : ∀ {i : Nat} {d : D}, i ≠ k → (d1 ++ PyData.list ps :: d2)[i]? = some d → ∃ v, (v1 ++ V.ref p :: v2)[i]? = some v ∧ Dq K (cut H (p :: O)) v d := fun {i d} n q => by
    by_cases h : i < k
    · rw [List.getElem?_append_left (by omega)] at q
      rw [List.getElem?_append_left (by omega)]
      exact dps_get r1 q
    · rw [List.getElem?_append_right (by omega), hd1] at q
      rw [List.getElem?_append_right (by omega), hk]
      obtain ⟨j, hj⟩ : ∃ j, i - k = j + 1 := ⟨i - k - 1, by omega⟩
      rw [hj, List.getElem?_cons_succ] at q ⊢
      exact dps_get r2 q
  have st : ∀ {i : Nat} {v : V}, (v1 ++ V.ref p :: v2)[i]? = some v → (L2.start N (v1 ++ .ref p :: v2))[i]? = some (some v) := fun {i v} q => by
    unfold L2.start
    have hi := (List.getElem?_eq_some_iff.mp q).1
    rw [List.getElem?_append_left (by rw [List.length_map]; exact hi), List.getElem?_map, q]
    rfl
  have sub1 : Same (cut H (p :: O)) (cut H (O ++ [p])) := cut_sub fun a m => by
    rcases List.mem_append.mp m with m | m
    · exact List.mem_cons_of_mem _ m
    · rw [List.mem_singleton.mp m]; exact List.mem_cons_self
  refine ⟨cut_le, fun a m => ?_, fun q m => ?_, ?_, fun a o h => (nomatch h), fun i d q => ?_, fun i ds' q => ?_, fun i j ds' es q1 q2 _ => ?_, fun j q z => (hG j q z).symm⟩
  · obtain ⟨o, h⟩ := al a m
    exact ⟨o, cut_of h fun e => by rw [List.mem_singleton.mp e] at m; exact hp m⟩
  · rw [List.mem_singleton.mp m]
    refine ⟨?_, ws, hw⟩
    unfold cut
    rw [if_pos (List.mem_singleton.mpr rfl)]
  · rw [List.length_set]
    unfold L2.start startS
    have := dps_len r1
    simp [l2, this]
  · rcases get q with ⟨_, h⟩ | ⟨hn, h⟩
    · cases h
    · rcases out h with ⟨d', h1, h2⟩ | h
      · cases h2
        obtain ⟨v, h3, h4⟩ := key hn h1
        exact ⟨v, st h3, dp_mono sub1 _ _ h4⟩
      · cases h
  · rcases get q with ⟨rfl, h⟩ | ⟨hn, h⟩
    · cases h
      refine ⟨List.mem_singleton.mpr rfl, st ?_, ws, hw, dps_mono sub1 _ _ rws⟩
      rw [List.getElem?_append_right (by omega), hk]
      simp
    · rcases out h with ⟨d', h1, h2⟩ | h
      · cases h2
      · cases h
  · have one : ∀ {i : Nat} {ds : List D}, ((startS N.length (d1 ++ .list ps :: d2)).set k (.ow ps))[i]? = some (.ow ds) → i = k := fun {i ds} q => by
      rcases get q with ⟨h, _⟩ | ⟨_, h⟩
      · exact h
      · rcases out h with ⟨d', h1, h2⟩ | h
        · cases h2
        · cases h
    rw [one q1, one q2]
section
variable {P : Program} {w : World} {K : PySem.W.Frag} {mg : Str → Option Value} {base : Heap} {G : Gs} {x qual : Str} {params : Arguments} {body : List Stmt} {scope : Scope} {dvs : List V} {kws : List (Str × V)} {f : Addr} {fd : FuncData}
/-- a def does what its translation does -/
theorem fn_sound {C : CtS} {Fs : List (List D → R D)} {N k : Nat} {ps : List Str} {m : Ss} (Fd : FunD K x qual params body scope dvs kws f fd) (S : FnScope C.N ps scope) (hsc : C.sc = scope) (T : Tp K mg G C.exs C.exr C.bls C.gis)
    (fns : ∀ i y n, C.fns[i]? = some (y, n) → CallD C.st P w K mg base G k (sel Fs i) y n) (h : chkSs C m body = true) (kf : ∀ i y n kn, (i, y, n, kn) ∈ C.kfns → CallKD C.st P w K mg base G k (sel Fs i) y n kn   := by intro _ _ _ _ h; exact nomatch h) (ff : ∀ i y n, (i, y, n) ∈ C.ffns → CallFD C.st P w K mg base G k (sel Fs i) y n := by intro _ _ _ h; exact nomatch h) (pf : ∀ i y n j, (i, y, n, j) ∈ C.pfns → CallPD C.st P w K mg base k (sel Fs i) y n j := by intro _ _ _ _ h; exact nomatch h) (sf : ∀ i y n, (i, y, n) ∈ C.sfns → CallD true P w K mg base G k (sel Fs i) y n := by intro _ _ _ h; exact nomatch h) (hk : C.kd = 0 := by rfl) (hG : G.kd = .data := by rfl) (hcx : C.cx = none := by rfl) (xq : C.xqs = true → XqF K G := by intro h; exact nomatch h) (xo : ∀ c ∈ C.exp, ∃ kx, kx + 1 ≤ k ∧ MkD C.st P w K mg base G kx c := by intro _ h; exact nomatch h) (gv : GdF K mg C.gds := by exact GdF.nil) :
    FnOk P w K mg base (CXf C.st P w) (k + 1) f fd ps (spD K G ps.length (den (sel Fs) N C.N.length m)) := by
  refine Fd.ok S (fun vs H Q E ⟨O, ds, al, hl, _⟩ => hl) fun cdv A outer s H vs Q E hr hsp => ?_
  obtain ⟨O, ds, al, hl, r, hp⟩ := hsp
  have gd : Gd C.toCt (sel Fs) G (fun cls d _ H => E cls d H) (cxOf (CXf C.st P w) P w K mg base C.N qual scope f cdv A outer s H E) :=
    { N := rfl, nd := S.nd, sc := hsc.symm, calm := fun _ => rfl, hu := by have := hr.un; show (A.deeper _).units + 65 < cLine; omega,
      tk := tk_of rfl rfl rfl (fun e s1 => rfl),
      fns := fun i y n q => by
        obtain ⟨fa, fd, ps, ds, dvs, sp, h1, h2, h3, h4, h5, h6⟩ := fns i y n q
        exact ⟨k, fa, fd, ps, ds, dvs, sp, h1, hr, h2, h3, h4, h5, h6⟩
      bls := T.bls, gis := T.gis, gds := gv,
      kfns := fun i y n kn q => by
        obtain ⟨fa, fd, ps, gg, sp, h1, h2, h3, h4, h5⟩ := kf i y n kn q
        exact ⟨k, fa, fd, ps, gg, sp, h1, hr, h2, h3, h4, h5⟩,
      ffns := fun i y n q => by
        obtain ⟨fa, fd, ps, ds, dvs, sp, h1, h2, h3, h4, h5, h6⟩ := ff i y n q
        exact ⟨k, fa, fd, ps, ds, dvs, sp, h1, hr, h2, h3, h4, h5, h6⟩,
      pfns := fun i y n j q => by
        obtain ⟨fa, fd, ps, ds, dvs, sp, h1, h2, h3, h4, h5, h6⟩ := pf i y n j q
        exact ⟨k, fa, fd, ps, ds, dvs, sp, h1, hr, h2, h3, h4, h5, h6⟩,
      sfns := fun i y n q => by
        obtain ⟨fa, fd, ps, ds, dvs, sp, h1, h2, h3, h4, h5, h6⟩ := sf i y n q
        exact ⟨k, fa, fd, ps, ds, dvs, sp, h1, hr, h2, h3, h4, h5, h6⟩
      xq := fun n j exs z => by rw [hcx] at z; cases z }
  have g : GdS C (sel Fs) G (fun cls d _ H => E cls d H) (cxOf (CXf C.st P w) P w K mg base C.N qual scope f cdv A outer s H E) :=
    { gd := gd, st := rfl, frm := rfl, po := passes_of rfl, poA := fun _ _ => L2H.passesAt_of rfl, fnT := fun _ => rfl, exn := T.exn, exm := T.exm, exk := T.exk, exs := T.exs, kind := by rw [hG]; exact hk, xqf := xq, exp := fun c h => let ⟨kx, lx, fI, fd, ps, sp, h1, h2, h3, h4, h5, h6⟩ := xo c h; ⟨kx, fI, fd, ps, sp, h1, h2, h3, h4, hr.mono lx, h5, h6⟩ }
  refine ⟨_, sndSs (N := N) m g h, ?_⟩
  refine ⟨O, H, fun _ => none, [], fun _ => 0, startS C.N.length ds, start_sr (fun k p z => by rw [hG] at z; cases z) al r, ?_⟩
  unfold den at hp
  cases q : exSs (sel Fs) N m (startS C.N.length ds) with
  | stuck => rw [q] at hp; exact hp
  | nx e => rw [q] at hp; exact fun A' ad' σ' H' s' => hp .non H' s'.e0 .non
  | rt d => rw [q] at hp; unfold PostS; rw [hG]; exact fun v H' e r => hp v H' e r
  | bk e => rw [q] at hp; exact hp.elim
  | ct e => rw [q] at hp; exact hp.elim
  | ex c p e => rw [q] at hp; exact fun A' ad' σ' H' cls dd s' xr => hp cls dd H' s'.e0 xr
/-- a def that hands back a new list -/
theorem fn_soundF {C : CtS} {Fs : List (List D → R D)} {N k : Nat} {ps : List Str} {m : Ss} (Fd : FunD K x qual params body scope dvs kws f fd) (S : FnScope C.N ps scope) (hsc : C.sc = scope) (T : Tp K mg G C.exs C.exr C.bls C.gis)
    (fns : ∀ i y n, C.fns[i]? = some (y, n) → CallD C.st P w K mg base G k (sel Fs i) y n) (h : chkSs C m body = true) (kf : ∀ i y n kn, (i, y, n, kn) ∈ C.kfns → CallKD C.st P w K mg base G k (sel Fs i) y n kn   := by intro _ _ _ _ h; exact nomatch h) (ff : ∀ i y n, (i, y, n) ∈ C.ffns → CallFD C.st P w K mg base G k (sel Fs i) y n := by intro _ _ _ h; exact nomatch h) (pf : ∀ i y n j, (i, y, n, j) ∈ C.pfns → CallPD C.st P w K mg base k (sel Fs i) y n j := by intro _ _ _ _ h; exact nomatch h) (sf : ∀ i y n, (i, y, n) ∈ C.sfns → CallD true P w K mg base G k (sel Fs i) y n := by intro _ _ _ h; exact nomatch h) (hk : C.kd = 1 := by rfl) (hG : G.kd = .data := by rfl) (hcx : C.cx = none := by rfl) (xq : C.xqs = true → XqF K G := by intro h; exact nomatch h) (xo : ∀ c ∈ C.exp, ∃ kx, kx + 1 ≤ k ∧ MkD C.st P w K mg base G kx c := by intro _ h; exact nomatch h) (gv : GdF K mg C.gds := by exact GdF.nil) :
    FnOk P w K mg base (CXf C.st P w) (k + 1) f fd ps (spF K G ps.length (denF (sel Fs) N C.N.length m)) := by
  refine Fd.ok S (fun vs H Q E ⟨O, ds, al, hl, _⟩ => hl) fun cdv A outer s H vs Q E hr hsp => ?_
  obtain ⟨O, ds, al, hl, r, hp⟩ := hsp
  have gd : Gd C.toCt (sel Fs) { G with kd := .fresh } (fun cls d _ H => E cls d H) (cxOf (CXf C.st P w) P w K mg base C.N qual scope f cdv A outer s H E) :=
    { N := rfl, nd := S.nd, sc := hsc.symm, calm := fun _ => rfl, hu := by have := hr.un; show (A.deeper _).units + 65 < cLine; omega,
      tk := tk_of rfl rfl rfl (fun e s1 => rfl),
      fns := fun i y n q => by
        obtain ⟨fa, fd, ps, ds, dvs, sp, h1, h2, h3, h4, h5, h6⟩ := fns i y n q
        exact ⟨k, fa, fd, ps, ds, dvs, sp, h1, hr, h2, h3, h4, h5, h6⟩
      bls := T.bls, gis := T.gis, gds := gv,
      kfns := fun i y n kn q => by
        obtain ⟨fa, fd, ps, gg, sp, h1, h2, h3, h4, h5⟩ := kf i y n kn q
        exact ⟨k, fa, fd, ps, gg, sp, h1, hr, h2, h3, h4, h5⟩,
      ffns := fun i y n q => by
        obtain ⟨fa, fd, ps, ds, dvs, sp, h1, h2, h3, h4, h5, h6⟩ := ff i y n q
        exact ⟨k, fa, fd, ps, ds, dvs, sp, h1, hr, h2, h3, h4, h5, h6⟩,
      pfns := fun i y n j q => by
        obtain ⟨fa, fd, ps, ds, dvs, sp, h1, h2, h3, h4, h5, h6⟩ := pf i y n j q
        exact ⟨k, fa, fd, ps, ds, dvs, sp, h1, hr, h2, h3, h4, h5, h6⟩,
      sfns := fun i y n q => by
        obtain ⟨fa, fd, ps, ds, dvs, sp, h1, h2, h3, h4, h5, h6⟩ := sf i y n q
        exact ⟨k, fa, fd, ps, ds, dvs, sp, h1, hr, h2, h3, h4, h5, h6⟩
      xq := fun n j exs z => by rw [hcx] at z; cases z }
  have g : GdS C (sel Fs) { G with kd := .fresh } (fun cls d _ H => E cls d H) (cxOf (CXf C.st P w) P w K mg base C.N qual scope f cdv A outer s H E) :=
    { gd := gd, st := rfl, frm := rfl, po := passes_of rfl, poA := fun _ _ => L2H.passesAt_of rfl, fnT := fun _ => rfl, exn := T.exn, exm := T.exm, exk := T.exk, exs := T.exs, kind := hk, xqf := fun z => let f := xq z; ⟨f.cls, f.one, f.ve, f.fld, f.xf, f.fldR, f.xfR⟩, exp := fun c h => let ⟨kx, lx, fI, fd, ps, sp, h1, h2, h3, h4, h5, h6⟩ := xo c h; ⟨kx, fI, fd, ps, sp, h1, h2, h3, h4, hr.mono lx, h5, h6⟩ }
  refine ⟨_, sndSs (N := N) m g h, ?_⟩
  refine ⟨O, H, fun _ => none, [], fun _ => 0, startS C.N.length ds, start_sr (fun k p z => by cases z) al r, ?_⟩
  unfold denF at hp
  cases q : exSs (sel Fs) N m (startS C.N.length ds) with
  | stuck => rw [q] at hp; exact hp
  | nx e => rw [q] at hp; exact hp.elim
  | rt d => rw [q] at hp; exact fun v H' e r => hp v H' e r
  | bk e => rw [q] at hp; exact hp.elim
  | ct e => rw [q] at hp; exact hp.elim
  | ex c p e => rw [q] at hp; exact fun A' ad' σ' H' cls dd s' xr => hp cls dd H' s'.e0 xr
/-- a def that changes its k-th argument -/
theorem fn_soundP {C : CtS} {Fs : List (List D → R D)} {N k kp : Nat} {ps : List Str} {m : Ss} (Fd : FunD K x qual params body scope dvs kws f fd) (S : FnScope C.N ps scope) (hsc : C.sc = scope) (T : Tp K mg G C.exs C.exr C.bls C.gis)
    (fns : ∀ i y n, C.fns[i]? = some (y, n) → CallD C.st P w K mg base G k (sel Fs i) y n) (h : chkSs C m body = true) (kf : ∀ i y n kn, (i, y, n, kn) ∈ C.kfns → CallKD C.st P w K mg base G k (sel Fs i) y n kn   := by intro _ _ _ _ h; exact nomatch h) (ff : ∀ i y n, (i, y, n) ∈ C.ffns → CallFD C.st P w K mg base G k (sel Fs i) y n := by intro _ _ _ h; exact nomatch h) (pf : ∀ i y n j, (i, y, n, j) ∈ C.pfns → CallPD C.st P w K mg base k (sel Fs i) y n j := by intro _ _ _ _ h; exact nomatch h) (sf : ∀ i y n, (i, y, n) ∈ C.sfns → CallD true P w K mg base G k (sel Fs i) y n := by intro _ _ _ h; exact nomatch h) (hk : C.kd = 2 := by rfl) (hpl : C.pl = kp := by rfl) (hcx : C.cx = none := by rfl) (xq : C.xqs = true → XqF K G := by intro h; exact nomatch h) (xo : ∀ c ∈ C.exp, ∃ kx, kx + 1 ≤ k ∧ MkD C.st P w K mg base G kx c := by intro _ h; exact nomatch h) (gv : GdF K mg C.gds := by exact GdF.nil) :
    FnOk P w K mg base (CXf C.st P w) (k + 1) f fd ps (spP K ps.length kp (denP (sel Fs) N C.N.length kp m)) := by
  refine Fd.ok S (fun vs H Q E ⟨O, p, ws, ps', v1, v2, d1, d2, _, _, _, _, _, _, hl, _⟩ => hl) fun cdv A outer s H vs Q E hr hsp => ?_
  obtain ⟨O, p, ws, ps', v1, v2, d1, d2, al, hpO, hw, rws, rfl, hv1, hl, r1, r2, hp⟩ := hsp
  have gd : Gd C.toCt (sel Fs) { G with kd := .pool kp p } (fun cls d _ H => E cls d H) (cxOf (CXf C.st P w) P w K mg base C.N qual scope f cdv A outer s H E) :=
    { N := rfl, nd := S.nd, sc := hsc.symm, calm := fun _ => rfl, hu := by have := hr.un; show (A.deeper _).units + 65 < cLine; omega,
      tk := tk_of rfl rfl rfl (fun e s1 => rfl),
      fns := fun i y n q => by
        obtain ⟨fa, fd, ps, ds, dvs, sp, h1, h2, h3, h4, h5, h6⟩ := fns i y n q
        exact ⟨k, fa, fd, ps, ds, dvs, sp, h1, hr, h2, h3, h4, h5, h6⟩
      bls := T.bls, gis := T.gis, gds := gv,
      kfns := fun i y n kn q => by
        obtain ⟨fa, fd, ps, gg, sp, h1, h2, h3, h4, h5⟩ := kf i y n kn q
        exact ⟨k, fa, fd, ps, gg, sp, h1, hr, h2, h3, h4, h5⟩,
      ffns := fun i y n q => by
        obtain ⟨fa, fd, ps, ds, dvs, sp, h1, h2, h3, h4, h5, h6⟩ := ff i y n q
        exact ⟨k, fa, fd, ps, ds, dvs, sp, h1, hr, h2, h3, h4, h5, h6⟩,
      pfns := fun i y n j q => by
        obtain ⟨fa, fd, ps, ds, dvs, sp, h1, h2, h3, h4, h5, h6⟩ := pf i y n j q
        exact ⟨k, fa, fd, ps, ds, dvs, sp, h1, hr, h2, h3, h4, h5, h6⟩,
      sfns := fun i y n q => by
        obtain ⟨fa, fd, ps, ds, dvs, sp, h1, h2, h3, h4, h5, h6⟩ := sf i y n q
        exact ⟨k, fa, fd, ps, ds, dvs, sp, h1, hr, h2, h3, h4, h5, h6⟩
      xq := fun n j exs z => by rw [hcx] at z; cases z }
  have g : GdS C (sel Fs) { G with kd := .pool kp p } (fun cls d _ H => E cls d H) (cxOf (CXf C.st P w) P w K mg base C.N qual scope f cdv A outer s H E) :=
    { gd := gd, st := rfl, frm := rfl, po := passes_of rfl, poA := fun _ _ => L2H.passesAt_of rfl, fnT := fun _ => rfl, exn := T.exn, exm := T.exm, exk := T.exk, exs := T.exs, kind := ⟨hk, hpl⟩, xqf := fun z => let f := xq z; ⟨f.cls, f.one, f.ve, f.fld, f.xf, f.fldR, f.xfR⟩, exp := fun c h => let ⟨kx, lx, fI, fd, ps, sp, h1, h2, h3, h4, h5, h6⟩ := xo c h; ⟨kx, fI, fd, ps, sp, h1, h2, h3, h4, hr.mono lx, h5, h6⟩ }
  refine ⟨_, sndSs (N := N) m g h, ?_⟩
  refine ⟨O, cut H [p], fun _ => none, [p], fun _ => p, (startS C.N.length (d1 ++ .list ps' :: d2)).set kp (.ow ps'), start_srP (fun j q z => by cases z; rfl) al hpO hw rws hv1 r1 r2, ?_⟩
  obtain ⟨d, ps2, hd, hp⟩ := hp
  have hd1 : d1.length = kp := by rw [← dps_len r1]; exact hv1
  have hk2 : (d1 ++ PyData.list ps' :: d2)[kp]? = some (.list ps') := by
    rw [List.getElem?_append_right (by omega), hd1]
    simp
  unfold denP at hd
  rw [hk2] at hd
  dsimp only at hd
  cases q : exSs (sel Fs) N m ((startS C.N.length (d1 ++ .list ps' :: d2)).set kp (.ow ps')) with
  | rt d' =>
    rw [q] at hd
    cases hd
    exact ⟨d, ps2, rfl, fun v H' e ⟨ws', h1, h2⟩ r => hp v H' ws' e h1 h2 r⟩
  | nx e =>
    rw [q] at hd
    have hd : poolN (ownAt e kp) = .ok (pairD d (.list ps2)) := hd
    cases ho : ownAt e kp with
    | none => rw [ho] at hd; cases hd
    | some ps3 =>
      rw [ho] at hd
      have hd : R.ok (PyData.tuple [.none, .list ps3]) = .ok (.tuple [d, .list ps2]) := hd
      cases hd
      intro A' ad' σ' H' s'
      obtain ⟨ws', h1, h2⟩ := pool_end s' rfl ho
      exact hp .non H' ws' s'.e0 h1 h2 .non
  | _ => rw [q] at hd; cases hd
end
end Bs


namespace Bs
open PySem PySem.Spec L2
open PyProof.Rows hiding St

/-! ### sizes of numbers -/
def bd (n : Nat) (i : Int) : Prop := i.natAbs < 2 ^ n
instance : Decidable (bd n i) := inferInstanceAs (Decidable (i.natAbs < 2 ^ n))
theorem bd.mono {m n : Nat} {i : Int} (h : bd m i) (l : m ≤ n) : bd n i := Nat.lt_of_lt_of_le h (Nat.pow_le_pow_right (by decide) l)
theorem bd_log {n : Nat} {i : Int} (h : bd n i) : i.natAbs.log2 < n + 1 := by
  unfold bd at h
  by_cases z : i.natAbs = 0
  · rw [z]
    exact Nat.lt_of_le_of_lt (by decide : Nat.log2 0 ≤ 0) (Nat.succ_pos n)
  · exact Nat.lt_succ_of_lt ((Nat.log2_lt z).mpr h)
theorem bd_lit {n : Nat} {i : Int} (h : decide (i.natAbs < 2 ^ n) = true) : bd n i := of_decide_eq_true h
theorem bd_zero : bd 0 0 := by unfold bd; decide
theorem bd_add {m n : Nat} {i j : Int} (hi : bd m i) (hj : bd n j) : bd (max m n + 1) (i + j) := by
  have h1 := bd.mono hi (Nat.le_max_left m n)
  have h2 := bd.mono hj (Nat.le_max_right m n)
  unfold bd at *
  rw [Nat.pow_succ]
  omega
theorem bd_neg {m : Nat} {i : Int} (hi : bd m i) : bd m (-i) := by
  unfold bd at *
  omega
theorem bd_sub {m n : Nat} {i j : Int} (hi : bd m i) (hj : bd n j) : bd (max m n + 1) (i - j) := by
  rw [Int.sub_eq_add_neg]
  exact bd_add hi (bd_neg hj)
theorem bd_mul {m n : Nat} {i j : Int} (hi : bd m i) (hj : bd n j) : bd (m + n) (i * j) := by
  unfold bd at *
  rw [Int.natAbs_mul, Nat.pow_add]
  exact Nat.mul_lt_mul'' hi hj
theorem natAbs_fdiv_le (i j : Int) : (i.fdiv j).natAbs ≤ i.natAbs := by
  rcases Int.le_total 0 j with h | h
  · rw [Int.fdiv_eq_ediv_of_nonneg _ h]
    exact Int.natAbs_ediv_le_natAbs i j
  · rw [← Int.neg_fdiv_neg, Int.fdiv_eq_ediv_of_nonneg _ (by omega), ← Int.natAbs_neg i]
    exact Int.natAbs_ediv_le_natAbs _ _
theorem bd_fdiv {m : Nat} {i j : Int} (hi : bd m i) : bd m (i.fdiv j) := Nat.lt_of_le_of_lt (natAbs_fdiv_le i j) hi
theorem natAbs_fmod_lt {i j : Int} (hj : j ≠ 0) : (i.fmod j).natAbs < j.natAbs := by
  rcases Int.lt_or_gt_of_ne hj with h | h
  · have e : i.fmod j = -((-i).fmod (-j)) := by rw [Int.neg_fmod_neg, Int.neg_neg]
    have h1 : 0 ≤ (-i).fmod (-j) := Int.fmod_nonneg_of_pos _ (by omega)
    have h2 : (-i).fmod (-j) < -j := Int.fmod_lt_of_pos _ (by omega)
    omega
  · have h1 : 0 ≤ i.fmod j := Int.fmod_nonneg_of_pos i h
    have h2 : i.fmod j < j := Int.fmod_lt_of_pos i h
    omega
theorem bd_fmod {n : Nat} {i j : Int} (h0 : j ≠ 0) (hj : bd n j) : bd n (i.fmod j) := Nat.lt_trans (natAbs_fmod_lt h0) hj
end Bs

namespace Bs
open PySem PySem.Spec L2
open PyProof.Rows hiding St

/-! ### the top's facts, by names -/
def nmOf (exs : List (Nat × Str)) (c : Nat) : Str := (exs.lookup c).getD ""
def GsOf (K : PySem.W.Frag) (exs : List (Nat × Str)) : Gs where
  has c := (exs.lookup c).isSome
  ex c := He.ga K (nmOf exs c)
  fld c := if c = 9 then "board" else "row"
def stdFa (exs : List (Nat × Str)) (exr : List Nat) (bls : List Str) (gis : List (Str × Int)) (names : List Str) : List He.Fa :=
  bls.map .free ++ (names.map .glo ++ (gis.map (fun p => .int p.1 p.2) ++ (exs.map (fun p => .glo p.2) ++ (exr.map (fun c => .exc (nmOf exs c)) ++ exs.flatMap fun p => exs.map fun q => .exm p.2 q.2 (subX p.1 q.1)))))
theorem says_mem {K : PySem.W.Frag} {fa : List He.Fa} {fn : List He.DefD} (c : He.SaysD fa fn K) {f : He.Fa} (h : f ∈ fa) : f.ok K = true := by
  obtain ⟨i, hi⟩ := List.getElem?_of_mem h
  exact c.fact i hi
theorem lookup_mem {α : Type} {c : Nat} {x : α} : ∀ {l : List (Nat × α)}, l.lookup c = some x → (c, x) ∈ l
  | [], h => by cases h
  | (k, y) :: l, h => by
    rw [List.lookup_cons] at h
    by_cases e : c = k
    · subst e
      simp at h
      subst h
      exact List.mem_cons_self
    · have q : (c == k) = false := by simpa using e
      rw [q] at h
      exact List.mem_cons_of_mem _ (lookup_mem h)
theorem tp_of {K : PySem.W.Frag} {h : Heap} {mg : Str → Option Value} {exs : List (Nat × Str)} {exr : List Nat} {bls : List Str} {gis : List (Str × Int)} {names : List Str} {fn : List He.DefD}
    (c : He.SaysD (stdFa exs exr bls gis names) fn K) (X : K.In h) (Gn : h.Ns mainGlobals mg) : Tp K mg (GsOf K exs) exs exr bls gis ∧ ∀ x ∈ names, mg x = some (.ref (He.ga K x)) := by
  refine ⟨⟨fun x hx => ?_, fun x n hx => ?_, fun _ => rfl, fun k x hx => ?_, fun k hk => ?_, fun a b ha hb => ?_⟩, fun x hx => ?_⟩
  · exact He.free_ok X Gn (says_mem c (List.mem_append_left _ (List.mem_map.mpr ⟨x, hx, rfl⟩)))
  · exact He.int_ok X Gn (says_mem c (List.mem_append_right _ (List.mem_append_right _ (List.mem_append_left _ (List.mem_map.mpr ⟨(x, n), hx, rfl⟩)))))
  · have e : (GsOf K exs).ex k = He.ga K x := by
      show He.ga K (nmOf exs k) = _
      unfold nmOf
      rw [hx]
      rfl
    rw [e]
    exact He.glo_ok X Gn (says_mem c (List.mem_append_right _ (List.mem_append_right _ (List.mem_append_right _ (List.mem_append_left _ (List.mem_map.mpr ⟨(k, x), lookup_mem hx, rfl⟩))))))
  · obtain ⟨h1, h2, h3, h4⟩ := He.exc_ok (says_mem c (f := .exc (nmOf exs k)) (List.mem_append_right _ (List.mem_append_right _ (List.mem_append_right _ (List.mem_append_right _ (List.mem_append_left _ (List.mem_map.mpr ⟨k, hk, rfl⟩)))))))
    exact ⟨h1, h2, h3, h4⟩
  · have some_of : ∀ {k : Nat}, (GsOf K exs).has k = true → ∃ x, exs.lookup k = some x ∧ (GsOf K exs).ex k = He.ga K x := fun {k} hk => by
      obtain ⟨x, hx⟩ := Option.isSome_iff_exists.mp (show (exs.lookup k).isSome = true from hk)
      refine ⟨x, hx, ?_⟩
      show He.ga K (nmOf exs k) = _
      unfold nmOf
      rw [hx]
      rfl
    obtain ⟨x, hx, ex⟩ := some_of ha
    obtain ⟨y, hy, ey⟩ := some_of hb
    rw [ex, ey]
    exact He.exm_ok (says_mem c (List.mem_append_right _ (List.mem_append_right _ (List.mem_append_right _ (List.mem_append_right _ (List.mem_append_right _ (List.mem_flatMap.mpr ⟨(a, x), lookup_mem hx, List.mem_map.mpr ⟨(b, y), lookup_mem hy, rfl⟩⟩)))))))
  · exact He.glo_ok X Gn (says_mem c (List.mem_append_right _ (List.mem_append_left _ (List.mem_map.mpr ⟨x, hx, rfl⟩))))

/-! ### data that the module's names bear -/
def tupO (K : PySem.W.Frag) (a : Addr) : Option (List Value) := match K.lookup a with
  | some ⟨.type c, _, .seq its _, _⟩ => if c = "tuple" ∧ its.size ≤ sizeLine then some its.toList else none
  | _ => none
theorem tupO_ok {K : PySem.W.Frag} {a : Addr} {us : List Value} (h : tupO K a = some us) : ∃ (o : Obj) (its : Array Value) (n : Nat), K.lookup a = some o ∧ o.cls = .type "tuple" ∧ o.data = .seq its n ∧ its.size ≤ sizeLine ∧ its.toList = us := by
  unfold tupO at h
  split at h
  · rename_i c dd its n sl q
    split at h
    · rename_i hc
      cases h
      refine ⟨_, its, n, q, ?_, rfl, hc.2, rfl⟩
      rw [hc.1]
    · cases h
  · cases h
mutual
def gdB (K : PySem.W.Frag) : D → Value → Bool
  | .none, .none => true
  | .bool a, .bool b => decide (a = b)
  | .int i, .int j _ => decide (i = j)
  | .str x, .str y _ => decide (x = y)
  | .tuple ds, .ref a => (match tupO K a with
    | some us => gdsB K ds us
    | none => false)
  | _, _ => false
def gdsB (K : PySem.W.Frag) : List D → List Value → Bool
  | [], [] => true
  | d :: ds, u :: us => gdB K d u && gdsB K ds us
  | _, _ => false
end
mutual
theorem gdB_ok {K : PySem.W.Frag} : ∀ {d : D} {u : Value}, gdB K d u = true → ∃ v, RelV v u ∧ ∀ H : Hp, Dq K H v d
  | .none, u, h => by
    cases u <;> first | exact ⟨.non, rfl, fun _ => .non⟩ | (unfold gdB at h; cases h)
  | .bool a, u, h => by
    cases u <;> first | (unfold gdB at h; rw [of_decide_eq_true h]; exact ⟨.bl _, rfl, fun _ => .bl _⟩) | (unfold gdB at h; cases h)
  | .int i, u, h => by
    cases u <;> first | (unfold gdB at h; rw [of_decide_eq_true h]; exact ⟨.int _, ⟨_, rfl⟩, fun _ => .int _⟩) | (unfold gdB at h; cases h)
  | .str i, u, h => by
    cases u <;> first | (unfold gdB at h; rw [of_decide_eq_true h]; exact ⟨.str _, ⟨_, rfl⟩, fun _ => .str _⟩) | (unfold gdB at h; cases h)
  | .list ds, u, h => by
    cases u <;> (unfold gdB at h; cases h)
  | .dict ds, u, h => by
    cases u <;> (unfold gdB at h; cases h)
  | .tuple ds, u, h => by
    cases u <;> first | (unfold gdB at h; cases h; done) | skip
    rename_i a
    unfold gdB at h
    cases q : tupO K a with
    | none => rw [q] at h; cases h
    | some us =>
      rw [q] at h
      obtain ⟨o, its, n, h1, h2, h3, h4, h5⟩ := tupO_ok q
      obtain ⟨vs, hv, hd⟩ := gdsB_ok h
      exact ⟨.ref a, rfl, fun H => .tup (.inr ⟨o, its, n, h1, h2, h3, h4, by rw [h5]; exact hv⟩) (hd H)⟩
theorem gdsB_ok {K : PySem.W.Frag} : ∀ {ds : List D} {us : List Value}, gdsB K ds us = true → ∃ vs, Vals vs us ∧ ∀ H : Hp, DqAll K H vs ds
  | [], us, h => by
    cases us with
    | nil => exact ⟨[], .nil, fun _ => .nil⟩
    | cons _ _ => unfold gdsB at h; cases h
  | d :: ds, us, h => by
    cases us with
    | nil => unfold gdsB at h; cases h
    | cons u us =>
      unfold gdsB at h
      obtain ⟨h1, h2⟩ := ba2 h
      obtain ⟨v, r, q⟩ := gdB_ok h1
      obtain ⟨vs, rs, qs⟩ := gdsB_ok h2
      exact ⟨v :: vs, .cons r rs, fun H => .cons (q H) (qs H)⟩
end
def gdAll (l : List (Str × D)) (K : PySem.W.Frag) : Bool := l.all fun p => match PySem.W.nsIn K mainGlobals p.1 with
  | some (some u) => gdB K p.2 u
  | _ => false
theorem gdF_of {K : PySem.W.Frag} {h : Heap} {mg : Str → Option Value} {l : List (Str × D)} (X : K.In h) (Gn : h.Ns mainGlobals mg) (c : gdAll l K = true) : GdF K mg l := by
  intro x d hh
  obtain ⟨p, hp, e⟩ := List.any_eq_true.mp hh
  obtain ⟨e1, e2⟩ := ba2 e
  have e1 := of_decide_eq_true e1
  have e2 := eqDD_ok e2
  subst e1
  subst e2
  have c1 := List.all_eq_true.mp c p hp
  cases q : PySem.W.nsIn K mainGlobals p.1 with
  | none => rw [q] at c1; cases c1
  | some o =>
    rw [q] at c1
    cases o with
    | none => cases c1
    | some u =>
      obtain ⟨v, r, hd⟩ := gdB_ok c1
      exact ⟨u, v, PySem.W.mg_of X Gn q, r, hd⟩
/-! ### facts about the classes of exceptions -/
def excCB (K : PySem.W.Frag) (E : Addr) : Bool := He.eqO (PySem.W.findIn K (.ref E) "__getattribute__") (some (some (.builtin "BaseException.__getattribute__"))) && (He.eqO (PySem.W.findIn K (.ref E) "__getattr__") (some none) &&
  (decide (PySem.W.subIn K (.ref E) (.type "BaseException") = some true) && (PySem.W.hasDictIn K E && (He.eqO (PySem.W.findIn K (.ref E) "__class__") (some (some (.builtin "object.__class__"))) &&
  (He.eqO (PySem.W.specialIn K (.builtin "object.__class__") "__get__") (some (some (.builtin "getset_descriptor.__get__"))) && (decide (PySem.W.takesIn K (.builtin "object.__class__") = some true) && decide (PySem.W.mroIn K E (.type "object") = some true)))))))
theorem excCB_ok {K : PySem.W.Frag} {E : Addr} (h : excCB K E = true) : L2.ExcC K E := by
  obtain ⟨h1, h⟩ := ba2 h
  obtain ⟨h2, h⟩ := ba2 h
  obtain ⟨h3, h⟩ := ba2 h
  obtain ⟨h4, h⟩ := ba2 h
  obtain ⟨h5, h⟩ := ba2 h
  obtain ⟨h6, h⟩ := ba2 h
  obtain ⟨h7, h8⟩ := ba2 h
  exact ⟨He.eqO_ok h1, He.eqO_ok h2, of_decide_eq_true h3, h4, He.eqO_ok h5, He.eqO_ok h6, of_decide_eq_true h7, of_decide_eq_true h8⟩
def nfB (K : PySem.W.Frag) (E : Addr) : Bool := L2.xfB K E && He.eqO (PySem.W.findIn K (.ref E) "board") (some none)
def nrB (K : PySem.W.Frag) (E : Addr) : Bool := L2.xfB K E && He.eqO (PySem.W.findIn K (.ref E) "row") (some none)
def xeB (exs : List (Nat × Str)) (K : PySem.W.Frag) : Bool := (exs.all fun p => excCB K (He.ga K p.2) && (decide (PySem.W.kitOne K (.ref (He.ga K p.2)) (.type "ValueError") = some true) && exs.all fun q => decide (PySem.W.kitOne K (.ref (He.ga K p.2)) (.ref (He.ga K q.2)) = some (subX p.1 q.1)))) &&
  ((match exs.lookup 9 with
    | some x => nfB K (He.ga K x)
    | none => true) && (match exs.lookup 10 with
    | some x => nrB K (He.ga K x)
    | none => true))
theorem gs_ex {K : PySem.W.Frag} {exs : List (Nat × Str)} {k : Nat} (hk : (GsOf K exs).has k = true) : ∃ x, exs.lookup k = some x ∧ (GsOf K exs).ex k = He.ga K x := by
  obtain ⟨x, hx⟩ := Option.isSome_iff_exists.mp (show (exs.lookup k).isSome = true from hk)
  refine ⟨x, hx, ?_⟩
  show He.ga K (nmOf exs k) = _
  unfold nmOf
  rw [hx]
  rfl
theorem xqF_of {K : PySem.W.Frag} {exs : List (Nat × Str)} (h : xeB exs K = true) : XqF K (GsOf K exs) := by
  obtain ⟨h1, h2⟩ := ba2 h
  obtain ⟨h2, h2R⟩ := ba2 h2
  have all : ∀ {k x}, exs.lookup k = some x → excCB K (He.ga K x) = true ∧ PySem.W.kitOne K (.ref (He.ga K x)) (.type "ValueError") = some true ∧ ∀ j y, exs.lookup j = some y → PySem.W.kitOne K (.ref (He.ga K x)) (.ref (He.ga K y)) = some (subX k j) := fun {k x} hx => by
    obtain ⟨h3, h4⟩ := ba2 (List.all_eq_true.mp h1 _ (lookup_mem hx))
    obtain ⟨h5, h6⟩ := ba2 h4
    exact ⟨h3, of_decide_eq_true h5, fun j y hy => of_decide_eq_true (List.all_eq_true.mp h6 _ (lookup_mem hy))⟩
  refine ⟨fun c hc => ?_, fun c k hc hk => ?_, fun c hc => ?_, rfl, fun hc => ?_, rfl, fun hc => ?_⟩
  · obtain ⟨x, hx, e⟩ := gs_ex hc
    rw [e]
    exact excCB_ok (all hx).1
  · obtain ⟨x, hx, e⟩ := gs_ex hc
    obtain ⟨y, hy, e2⟩ := gs_ex hk
    rw [e, e2]
    exact (all hx).2.2 k y hy
  · obtain ⟨x, hx, e⟩ := gs_ex hc
    rw [e]
    exact (all hx).2.1
  · obtain ⟨x, hx, e⟩ := gs_ex hc
    rw [e]
    rw [hx] at h2
    obtain ⟨h3, h4⟩ := ba2 h2
    exact ⟨L2.xfB_ok h3, He.eqO_ok h4⟩
  · obtain ⟨x, hx, e⟩ := gs_ex hc
    rw [e]
    rw [hx] at h2R
    obtain ⟨h3, h4⟩ := ba2 h2R
    exact ⟨L2.xfB_ok h3, He.eqO_ok h4⟩
/-- an own class of exceptions with its own __init__ -/
def oexB (K : PySem.W.Frag) (E : Addr) : Bool := (match K.lookup E with
  | some ⟨.type "type", _, .cls cd, sl⟩ => (match cd.mro, sl.toList with
    | .ref E' :: bm, [_, _, _, _, some (.builtin n), _] => decide (E' = E) && (decide (n = "ValueError.__new__") && (!cd.hasDel && (cd.hasDict && PySem.HandSPX.refsVE bm)))
    | _, _ => false)
  | _ => false) && (He.eqO (PySem.W.findIn K (.ref E) "__setattr__") (some (some (.builtin "object.__setattr__"))) && (decide (PySem.W.subIn K (.ref E) (.type "BaseException") = some true) && (decide (PySem.W.typeIn K (.ref E) = some (.type "type")) && PySem.W.keepIn K (.ref E))))
theorem oexB_ok {K : PySem.W.Frag} {E : Addr} (h : oexB K E = true) : OexC K E := by
  obtain ⟨h0, h⟩ := ba2 h
  obtain ⟨h2, h⟩ := ba2 h
  obtain ⟨h3, h⟩ := ba2 h
  obtain ⟨h4, h5⟩ := ba2 h
  refine ⟨?_, He.eqO_ok h2, of_decide_eq_true h3, of_decide_eq_true h4, h5⟩
  split at h0
  · rename_i dd cd sl ho
    split at h0
    · rename_i E' bm a0 a1 a2 a3 n a5 hm hs
      obtain ⟨k1, h0⟩ := ba2 h0
      obtain ⟨k2, h0⟩ := ba2 h0
      obtain ⟨k3, h0⟩ := ba2 h0
      obtain ⟨k4, k5⟩ := ba2 h0
      have k1 := of_decide_eq_true k1
      have k2 := of_decide_eq_true k2
      subst k1 k2
      obtain ⟨c1, c2, c3, c4, c5, c6, c7, c8, c9, c10, c11⟩ := cd
      have q3 : c11 = false := by simpa using k3
      dsimp only at hm k4
      clear k3
      subst hm q3 k4
      obtain ⟨l⟩ := sl
      have hs : l = [a0, a1, a2, a3, some (.builtin "ValueError.__new__"), a5] := hs
      subst hs
      exact ⟨c1, c5, c4, c2, bm, c7, c8, c9, c10, dd, a0, a1, a2, a3, a5, ho, k5⟩
    · cases h0
  · cases h0
/-- the method a of the class x, in the class's body -/
def clsBody (s : Stmt) : List Stmt := match s with
  | .ClassDef _ _ _ b _ _ _ _ _ _ _ => b
  | _ => []
def inB (x : Str) (K : PySem.W.Frag) : Bool := oexB K (He.ga K x) && (He.eqO (PySem.W.findIn K (.ref (He.ga K x)) "__init__") (some (some (.ref (He.ma K (He.ga K x) "__init__")))) && (decide (PySem.W.typeIn K (.ref (He.ma K (He.ga K x) "__init__")) = some (.type "function")) && He.eqO (PySem.W.findIn K (.ref (He.ga K x)) "board") (some none)))
def inBR (x : Str) (K : PySem.W.Frag) : Bool := oexB K (He.ga K x) && (He.eqO (PySem.W.findIn K (.ref (He.ga K x)) "__init__") (some (some (.ref (He.ma K (He.ga K x) "__init__")))) && (decide (PySem.W.typeIn K (.ref (He.ma K (He.ga K x) "__init__")) = some (.type "function")) && He.eqO (PySem.W.findIn K (.ref (He.ga K x)) "row") (some none)))
/-- self.board = board -/
def spI (E : Addr) (fl : Str) : Sp := fun vs H Q _ => ∃ (a : Addr) (i : Int), vs = [.ref a, .int i] ∧ H a = some (exo a E none) ∧ ∀ dx, H dx = none → dx ≠ a → Q .non (upd (upd H dx (exd dx [(fl, .int i)])) a (exo a E (some dx)))
section
variable {P : Program} {w : World} {K : PySem.W.Frag} {mg : Str → Option Value} {base : Heap} {x qual : Str} {params : Arguments} {body : List Stmt} {scope : Scope} {dvs : List V} {kws : List (Str × V)} {f : Addr} {fd : FuncData}
theorem init_ok {E : Addr} {p1 p2 p3 p4 : Pos} (Fd : FunD K x qual params body scope dvs kws f fd) (S : FnScope ["self", "board"] ["self", "board"] scope) (hb : body = [.Assign [.Attribute (.Name "self" p1) "board" p2] (.Name "board" p3) p4])
    (v1 : isVis scope "self" = true) (v2 : isVis scope "board" = true) (T : OexC K E) (no : PySem.W.findIn K (.ref E) "board" = some none) : FnOk P w K mg base (CXf false P w) 1 f fd ["self", "board"] (spI E "board") := by
  subst hb
  refine Fd.ok S (fun vs H Q E ⟨a, i, e, _⟩ => by rw [e]; rfl) fun cdv A outer s H vs Q E2 hr hsp => ?_
  obtain ⟨a, i, rfl, ha, hq⟩ := hsp
  refine ⟨_, pss_cons (ps_ost (pe_var (i := 0) rfl (isVis_ok v1) (by decide) (by decide)) (pe_var (i := 1) rfl (isVis_ok v2) (by decide) (by decide))) pss_nil, ?_⟩
  refine ⟨.int i, rfl, .ref a, rfl, a, E, rfl, T, no, .inl ⟨ha, fun dx h1 h2 => ?_⟩⟩
  exact hq dx h1 h2
theorem init_okR {E : Addr} {p1 p2 p3 p4 : Pos} (Fd : FunD K x qual params body scope dvs kws f fd) (S : FnScope ["self", "row"] ["self", "row"] scope) (hb : body = [.Assign [.Attribute (.Name "self" p1) "row" p2] (.Name "row" p3) p4])
    (v1 : isVis scope "self" = true) (v2 : isVis scope "row" = true) (T : OexC K E) (no : PySem.W.findIn K (.ref E) "row" = some none) : FnOk P w K mg base (CXf false P w) 1 f fd ["self", "row"] (spI E "row") := by
  subst hb
  refine Fd.ok S (fun vs H Q E ⟨a, i, e, _⟩ => by rw [e]; rfl) fun cdv A outer s H vs Q E2 hr hsp => ?_
  obtain ⟨a, i, rfl, ha, hq⟩ := hsp
  refine ⟨_, pss_cons (ps_ost (pe_var (i := 0) rfl (isVis_ok v1) (by decide) (by decide)) (pe_var (i := 1) rfl (isVis_ok v2) (by decide) (by decide))) pss_nil, ?_⟩
  refine ⟨.int i, rfl, .ref a, rfl, a, E, rfl, T, no, .inl ⟨ha, fun dx h1 h2 => ?_⟩⟩
  exact hq dx h1 h2
end
theorem mkD_of {P : Program} {w : World} {K : PySem.W.Frag} {mg : Str → Option Value} {base : Heap} {exs : List (Nat × Str)} {d : He.DefD} {fd : FuncData} {p1 p2 p3 p4 : Pos} (hx : exs.lookup 9 = some "NotFree") (h : inB "NotFree" K = true) (ha : d.at_ = (("NotFree" : Str), some ("__init__" : Str))) (Fd : FunD K d.name d.qual d.params d.body d.scope (d.dvs K) (d.kws K) (He.fAd K d.at_) fd)
    (S : FnScope ["self", "board"] ["self", "board"] d.scope) (hb : d.body = [.Assign [.Attribute (.Name "self" p1) "board" p2] (.Name "board" p3) p4]) (v1 : isVis d.scope "self" = true) (v2 : isVis d.scope "board" = true) (bd : Binds K fd ["self", "board"] []) : MkD false P w K mg base (GsOf K exs) 1 9 := by
  obtain ⟨h1, h⟩ := ba2 h
  obtain ⟨h2, h⟩ := ba2 h
  obtain ⟨h3, h4⟩ := ba2 h
  have e : (GsOf K exs).ex 9 = He.ga K "NotFree" := by
    show He.ga K (nmOf exs 9) = _
    unfold nmOf
    rw [hx]
    rfl
  have ef : He.fAd K d.at_ = He.ma K (He.ga K "NotFree") "__init__" := by rw [ha]; rfl
  rw [ef] at Fd
  refine ⟨_, fd, _, _, by rw [e]; exact oexB_ok h1, by rw [e]; exact He.eqO_ok h2, of_decide_eq_true h3, init_ok Fd S hb v1 v2 (oexB_ok h1) (He.eqO_ok h4), bd, fun a i H Q E q1 q2 => ⟨a, i, rfl, ?_, fun dx r1 r2 => ?_⟩⟩
  · rw [← e]; exact q1
  · have := q2 dx r1 r2
    rw [e] at this
    exact this
theorem mkD_ofR {P : Program} {w : World} {K : PySem.W.Frag} {mg : Str → Option Value} {base : Heap} {exs : List (Nat × Str)} {d : He.DefD} {fd : FuncData} {p1 p2 p3 p4 : Pos} (hx : exs.lookup 10 = some "NoText") (h : inBR "NoText" K = true) (ha : d.at_ = (("NoText" : Str), some ("__init__" : Str))) (Fd : FunD K d.name d.qual d.params d.body d.scope (d.dvs K) (d.kws K) (He.fAd K d.at_) fd)
    (S : FnScope ["self", "row"] ["self", "row"] d.scope) (hb : d.body = [.Assign [.Attribute (.Name "self" p1) "row" p2] (.Name "row" p3) p4]) (v1 : isVis d.scope "self" = true) (v2 : isVis d.scope "row" = true) (bd : Binds K fd ["self", "row"] []) : MkD false P w K mg base (GsOf K exs) 1 10 := by
  obtain ⟨h1, h⟩ := ba2 h
  obtain ⟨h2, h⟩ := ba2 h
  obtain ⟨h3, h4⟩ := ba2 h
  have e : (GsOf K exs).ex 10 = He.ga K "NoText" := by
    show He.ga K (nmOf exs 10) = _
    unfold nmOf
    rw [hx]
    rfl
  have ef : He.fAd K d.at_ = He.ma K (He.ga K "NoText") "__init__" := by rw [ha]; rfl
  rw [ef] at Fd
  refine ⟨_, fd, _, _, by rw [e]; exact oexB_ok h1, by rw [e]; exact He.eqO_ok h2, of_decide_eq_true h3, init_okR Fd S hb v1 v2 (oexB_ok h1) (He.eqO_ok h4), bd, fun a i H Q E q1 q2 => ⟨a, i, rfl, ?_, fun dx r1 r2 => ?_⟩⟩
  · rw [← e]; exact q1
  · have := q2 dx r1 r2
    rw [e] at this
    exact this
/-! ### the head's facts and a Bool of our own -/
abbrev AlM : Type := He.AlD × Bool
def obsM (n : Nat) (fa : List He.Fa) (fn : List He.DefD) (ex : PySem.W.Frag → Bool) (g : Addr → Option Obj) : AlM := (He.obsD fa fn (He.frG g (He.asD g n)), ex (He.frG g (He.asD g n)))
def hookM (n : Nat) (fa : List He.Fa) (fn : List He.DefD) (ex : PySem.W.Frag → Bool) : PySem.W.Hook where
  α := AlM
  obs := fun s => obsM n fa fn ex s.heap.get?
  val := fun _ => (He.valD fn, true)
  says := fun _ h => ∃ K : PySem.W.Frag, K.In h ∧ (He.SaysD fa fn K ∧ ex K = true)
  of := fun _ _ e => ⟨_, He.frG_in, congrArg (fun z : AlM => z.1) e, congrArg (fun z : AlM => z.2) e⟩
  keeps := fun _ _ _ ⟨K, hK, c⟩ k => ⟨K, PySem.W.Frag.In.keeps hK k, c⟩
theorem obsM_eq {n : Nat} {fa : List He.Fa} {fn : List He.DefD} {ex : PySem.W.Frag → Bool} {g : Addr → Option Obj} {s : Shared} (h : ∀ a, g a = s.heap.get? a) : obsM n fa fn ex g = (hookM n fa fn ex).obs s := by
  have e : g = s.heap.get? := funext h
  subst e
  rfl

/-! ### callees, one behind another -/
section
variable {st : Bool} {P : Program} {w : World} {K : PySem.W.Frag} {mg : Str → Option Value} {base : Heap} {G : Gs} {k : Nat}
def Calls (st : Bool) (P : Program) (w : World) (K : PySem.W.Frag) (mg : Str → Option Value) (base : Heap) (G : Gs) (k : Nat) (l : List (Str × Nat)) (Fs : List (List D → R D)) : Prop := ∀ i y n, l[i]? = some (y, n) → CallD st P w K mg base G k (sel Fs i) y n
theorem calls_nil {Fs : List (List D → R D)} : Calls st P w K mg base G k [] Fs := fun i y n h => by simp at h
theorem calls_cons {l : List (Str × Nat)} {Fs : List (List D → R D)} {f : List D → R D} {x : Str} {n j : Nat} (h : CallD st P w K mg base G j f x n) (lt : j ≤ k) (t : Calls st P w K mg base G k l Fs) : Calls st P w K mg base G k ((x, n) :: l) (f :: Fs) := fun i y m e => by
  cases i with
  | zero =>
    simp at e
    obtain ⟨rfl, rfl⟩ := e
    exact h.mono lt
  | succ i => exact t i y m (by simpa using e)
/-- called with all its arguments -/
theorem CallD.full {f : List D → R D} {x : Str} {n : Nat} {fa : Addr} {fd : FuncData} {ps : List Str} (F : FnOk P w K mg base (CXf st P w) k fa fd ps (spD K G n f)) (g : mg x = some (.ref fa)) (kp : PySem.W.keepIn K (.ref fa) = true) (b : Binds K fd ps []) : CallD st P w K mg base G k f x n :=
  ⟨fa, fd, ps, [], [], _, F, g, kp, b, .nil, fun vs H Q E h => by rw [List.append_nil]; exact h⟩
theorem CallD.full' {f : List D → R D} {x : Str} {n : Nat} {fa : Addr} {fd : FuncData} {ps : List Str} (F : FnOk P w K mg base (CXf st P w) k fa fd ps (spD K G n f)) (g : mg x = some (.ref fa)) (kp : PySem.W.keepIn K (.ref fa) = true) (b : ∃ ds, Vals ([] : List V) ds ∧ Binds K fd ps ds) : CallD st P w K mg base G k f x n := by
  obtain ⟨ds, hv, b⟩ := b
  cases hv
  exact CallD.full F g kp b
theorem CallFD.full {f : List D → R D} {x : Str} {n : Nat} {fa : Addr} {fd : FuncData} {ps : List Str} (F : FnOk P w K mg base (CXf st P w) k fa fd ps (spF K G n f)) (g : mg x = some (.ref fa)) (kp : PySem.W.keepIn K (.ref fa) = true) (b : Binds K fd ps []) : CallFD st P w K mg base G k f x n :=
  ⟨fa, fd, ps, [], [], _, F, g, kp, b, .nil, fun vs H Q E h => by rw [List.append_nil]; exact h⟩
theorem CallPD.full {f : List D → R D} {x : Str} {n j : Nat} {fa : Addr} {fd : FuncData} {ps : List Str} (F : FnOk P w K mg base (CXf st P w) k fa fd ps (spP K n j f)) (g : mg x = some (.ref fa)) (kp : PySem.W.keepIn K (.ref fa) = true) (b : Binds K fd ps []) : CallPD st P w K mg base k f x n j :=
  ⟨fa, fd, ps, [], [], _, F, g, kp, b, .nil, fun vs H Q E h => by rw [List.append_nil]; exact h⟩
def FCalls (st : Bool) (P : Program) (w : World) (K : PySem.W.Frag) (mg : Str → Option Value) (base : Heap) (G : Gs) (k : Nat) (l : List (Nat × Str × Nat)) (Fs : List (List D → R D)) : Prop := ∀ i y n, (i, y, n) ∈ l → CallFD st P w K mg base G k (sel Fs i) y n
theorem fcalls_nil {Fs : List (List D → R D)} : FCalls st P w K mg base G k [] Fs := fun i y n h => nomatch h
theorem fcalls_cons {l : List (Nat × Str × Nat)} {Fs : List (List D → R D)} {f : List D → R D} {i n j : Nat} {x : Str} (h : CallFD st P w K mg base G j f x n) (lt : j ≤ k) (e : sel Fs i = f) (t : FCalls st P w K mg base G k l Fs) : FCalls st P w K mg base G k ((i, x, n) :: l) Fs := fun i' y m q => by
  rcases List.mem_cons.mp q with z | q
  · simp only [Prod.mk.injEq] at z
    obtain ⟨rfl, rfl, rfl⟩ := z
    rw [e]
    exact h.mono lt
  · exact t i' y m q
def PCalls (st : Bool) (P : Program) (w : World) (K : PySem.W.Frag) (mg : Str → Option Value) (base : Heap) (k : Nat) (l : List (Nat × Str × Nat × Nat)) (Fs : List (List D → R D)) : Prop := ∀ i y n p, (i, y, n, p) ∈ l → CallPD st P w K mg base k (sel Fs i) y n p
theorem pcalls_nil {Fs : List (List D → R D)} : PCalls st P w K mg base k [] Fs := fun i y n p h => nomatch h
theorem pcalls_cons {l : List (Nat × Str × Nat × Nat)} {Fs : List (List D → R D)} {f : List D → R D} {i n p j : Nat} {x : Str} (h : CallPD st P w K mg base j f x n p) (lt : j ≤ k) (e : sel Fs i = f) (t : PCalls st P w K mg base k l Fs) : PCalls st P w K mg base k ((i, x, n, p) :: l) Fs := fun i' y m p' q => by
  rcases List.mem_cons.mp q with z | q
  · simp only [Prod.mk.injEq] at z
    obtain ⟨rfl, rfl, rfl, rfl⟩ := z
    rw [e]
    exact h.mono lt
  · exact t i' y m p' q
def SCalls (P : Program) (w : World) (K : PySem.W.Frag) (mg : Str → Option Value) (base : Heap) (G : Gs) (k : Nat) (l : List (Nat × Str × Nat)) (Fs : List (List D → R D)) : Prop := ∀ i y n, (i, y, n) ∈ l → CallD true P w K mg base G k (sel Fs i) y n
theorem scalls_nil {Fs : List (List D → R D)} : SCalls P w K mg base G k [] Fs := fun i y n h => nomatch h
theorem scalls_cons {l : List (Nat × Str × Nat)} {Fs : List (List D → R D)} {f : List D → R D} {i n j : Nat} {x : Str} (h : CallD true P w K mg base G j f x n) (lt : j ≤ k) (e : sel Fs i = f) (t : SCalls P w K mg base G k l Fs) : SCalls P w K mg base G k ((i, x, n) :: l) Fs := fun i' y m q => by
  rcases List.mem_cons.mp q with z | q
  · simp only [Prod.mk.injEq] at z
    obtain ⟨rfl, rfl, rfl⟩ := z
    rw [e]
    exact h.mono lt
  · exact t i' y m q
/-- called with all but the last, the last one by its name -/
theorem CallKD.one {f : List D → R D} {x : Str} {n : Nat} {kn : Str} {fa : Addr} {fd : FuncData} {ps : List Str} (F : FnOk P w K mg base (CXf st P w) k fa fd ps (spD K G (n + 1) f)) (g : mg x = some (.ref fa)) (kp : PySem.W.keepIn K (.ref fa) = true) (b : ∃ gg, KBn K fd ps n [kn] gg (fun vs zs => vs ++ zs)) : CallKD st P w K mg base G k f x n kn := by
  obtain ⟨gg, b⟩ := b
  exact ⟨fa, fd, ps, gg, _, F, g, kp, b, fun vs H Q E h => h⟩
theorem kcalls_one {j i n : Nat} {x kn : Str} {f : List D → R D} {Fs : List (List D → R D)} (h : CallKD st P w K mg base G j f x n kn) (lt : j ≤ k) (e : sel Fs i = f) : ∀ i' y m kn', (i', y, m, kn') ∈ [(i, x, n, kn)] → CallKD st P w K mg base G k (sel Fs i') y m kn' := fun i' y m kn' q => by
  simp only [List.mem_singleton, Prod.mk.injEq] at q
  obtain ⟨rfl, rfl, rfl, rfl⟩ := q
  rw [e]
  exact h.mono lt
/-- called with m of them, the others are its defaults, ints -/
theorem CallD.dfl {f : List D → R D} {x : Str} {n m : Nat} {fa : Addr} {fd : FuncData} {ps : List Str} {es : List Int} (F : FnOk P w K mg base (CXf st P w) k fa fd ps (spD K G n f)) (g : mg x = some (.ref fa)) (kp : PySem.W.keepIn K (.ref fa) = true) (b : ∃ ds, Vals (es.map V.int) ds ∧ Binds K fd ps ds)
    (hn : m + es.length = n) : CallD st P w K mg base G k (fun ds => f (ds ++ es.map PyData.int)) x m := by
  obtain ⟨ds, hv, b⟩ := b
  refine ⟨fa, fd, ps, ds, es.map V.int, _, F, g, kp, b, hv, fun vs H Q E ⟨O, as, al, hl, r, hp⟩ => ⟨O, _, al, ?_, dps_app r (dps_ints es), hp⟩⟩
  rw [List.length_append, List.length_map, hl, hn]
/-- called with all but the last, whose default is None -/
theorem CallD.dflN {f : List D → R D} {x : Str} {n m : Nat} {fa : Addr} {fd : FuncData} {ps : List Str} (F : FnOk P w K mg base (CXf st P w) k fa fd ps (spD K G n f)) (g : mg x = some (.ref fa)) (kp : PySem.W.keepIn K (.ref fa) = true) (b : ∃ ds, Vals [V.non] ds ∧ Binds K fd ps ds)
    (hn : m + 1 = n) : CallD st P w K mg base G k (fun ds => f (ds ++ [PyData.none])) x m := by
  obtain ⟨ds, hv, b⟩ := b
  refine ⟨fa, fd, ps, ds, [V.non], _, F, g, kp, b, hv, fun vs H Q E ⟨O, as, al, hl, r, hp⟩ => ⟨O, _, al, ?_, dps_app r (.cons .non .nil), hp⟩⟩
  rw [List.length_append, List.length_singleton, hl, hn]
end

/-! ### a law -/
theorem bits_bd {k : Int} (h : Builtin.Int.intBits k ≤ 1048576) : bd 1048576 k := by
  unfold Builtin.Int.intBits at h
  unfold bd
  split at h
  · rename_i z
    have : k.natAbs = 0 := by simpa using z
    rw [this]
    exact Nat.pow_pos (by decide)
  · exact Nat.lt_of_lt_of_le Nat.lt_log2_self (Nat.pow_le_pow_right (by decide) h)
theorem law_walk {l : PySem.W.OpenLaw} {n k : Nat} {q : Program} {loose : List Str} {XP : (Str → Option Value) → Heap → Prop} {YP : World → Heap → Prop} {d : DefRec} {x : Str} {f : List D → R D} (hn : l.most = some n) (hn2 : n ≤ sizeLine) (hdf : d.params.defaults = []) (hr : Room k callerA)
    (F : ∀ (w : World) (mg : Str → Option Value) (fa : Addr) (h : Heap), YP w h → h.Ns mainGlobals mg → mg d.name = some (.ref fa) →
      ∃ (K : PySem.W.Frag) (G : Gs) (fd : FuncData), K.In h ∧ (∀ (s : Shared) (u : Value), BindsTo s fd ⟨[u], []⟩ [(x, u)]) ∧
        (∀ base : Heap, K.In base → base.Ns mainGlobals mg → FnOk l.prog w K mg base (L2.CX l.prog w) k fa fd [x] (spD K G 1 f)))
    (hf : ∀ ns : List Int, ns.length ≤ n → (∀ k ∈ ns, bd 1048576 k) → f [.list (ns.map PyData.int)] = .ok (.bool true)) : PySem.W.WalkO q loose XP YP l.row.toRowW d [] (fun f vs => PySem.call f vs) := by
  refine Att.attach_callB hn hdf fun w s₀ s₁ mg mb fa o pm cd doc a vs ns Gd Y ho hd hcd hmg hobj hints hlen hbits hg => ?_
  obtain ⟨K, G, fd, KX, hb, hF⟩ := F w mg fa _ Y Gd.T.g hmg
  refine law_call KX Gd.T.g Gd.T.b Gd.T.builtins Gd.T.nolimit hg hobj hints (Nat.le_trans hlen hn2) hr hF hb (fun H hO hS => ?_) fun H e s' hc => ?_
  · refine ⟨[], [.list (ns.map PyData.int)], fun p hp => (nomatch hp), rfl, .cons (.lst ?_ (dps_ints ns)) .nil, ?_⟩
    · exact sqL_mono (fun a o h => cut_of h (by simp)) hS
    · rw [hf ns hlen fun k hk => bits_bd (hbits k hk)]
      exact fun v H' _ r => inv_b r
  · obtain ⟨_, _, _, _, _, _, _, _, _, _, _, _, z⟩ := hc
    exact z.elim
/-- a def that calls itself: at no depth nothing is said -/
theorem rec_zero {P : Program} {w : World} {K : PySem.W.Frag} {mg : Str → Option Value} {base : Heap} {G : Gs} {st : Bool} {x qual : Str} {params : Arguments} {body : List Stmt} {scope : Scope} {dvs : List V} {kws : List (Str × V)} {f : Addr} {fd : FuncData} {N : List Str} {ps : List Str} {k n : Nat}
    (Fd : FunD K x qual params body scope dvs kws f fd) (S : FnScope N ps scope) (hn : n = ps.length) : FnOk P w K mg base (CXf st P w) (k + 1) f fd ps (spD K G n fun _ => .stuck) := by
  subst hn
  exact Fd.ok S (fun vs H Q E ⟨O, ds, al, hl, _⟩ => hl) fun cdv A outer s H vs Q E hr hsp => by
    obtain ⟨O, ds, al, hl, r, hp⟩ := hsp
    exact hp.elim
theorem rec_zeroF {P : Program} {w : World} {K : PySem.W.Frag} {mg : Str → Option Value} {base : Heap} {G : Gs} {st : Bool} {x qual : Str} {params : Arguments} {body : List Stmt} {scope : Scope} {dvs : List V} {kws : List (Str × V)} {f : Addr} {fd : FuncData} {N : List Str} {ps : List Str} {k n : Nat}
    (Fd : FunD K x qual params body scope dvs kws f fd) (S : FnScope N ps scope) (hn : n = ps.length) : FnOk P w K mg base (CXf st P w) (k + 1) f fd ps (spF K G n fun _ => .stuck) := by
  subst hn
  exact Fd.ok S (fun vs H Q E ⟨O, ds, al, hl, _⟩ => hl) fun cdv A outer s H vs Q E hr hsp => by
    obtain ⟨O, ds, al, hl, r, hp⟩ := hsp
    exact hp.elim
theorem rec_zeroP {P : Program} {w : World} {K : PySem.W.Frag} {mg : Str → Option Value} {base : Heap} {G : Gs} {st : Bool} {x qual : Str} {params : Arguments} {body : List Stmt} {scope : Scope} {dvs : List V} {kws : List (Str × V)} {f : Addr} {fd : FuncData} {N : List Str} {ps : List Str} {k n kp : Nat}
    (Fd : FunD K x qual params body scope dvs kws f fd) (S : FnScope N ps scope) (hn : n = ps.length) : FnOk P w K mg base (CXf st P w) (k + 1) f fd ps (spP K n kp fun _ => .stuck) := by
  subst hn
  exact Fd.ok S (fun vs H Q E ⟨O, p, ws, ps', v1, v2, d1, d2, _, _, _, _, _, _, hl, _⟩ => hl) fun cdv A outer s H vs Q E hr hsp => by
    obtain ⟨O, p, ws, ps', v1, v2, d1, d2, al, hpO, hw, rws, rfl, hv1, hl, r1, r2, d, ps2, hd, hp⟩ := hsp
    cases hd
end Bs

namespace Bs
open PySem PySem.Spec L2
open PyProof.Rows hiding St

/-! ### what is wanted of a run -/
structure Pst where
  nx : SE → Prop
  rt : D → Prop
  bk : SE → Prop
  ct : SE → Prop
  ex : Nat → Option Int → SE → Prop
def Rs.sat (Q : Pst) : Rs → Prop
  | .stuck => False
  | .nx e => Q.nx e
  | .rt d => Q.rt d
  | .bk e => Q.bk e
  | .ct e => Q.ct e
  | .ex c p e => Q.ex c p e
def RP {α : Type} (r : R α) (f : α → Prop) (g : Nat → Option Int → Prop) : Prop := match r with
  | .stuck => False
  | .ok a => f a
  | .exc c p => g c p
theorem RP_ok {α : Type} (a : α) (f : α → Prop) (g : Nat → Option Int → Prop) : RP (.ok a) f g = f a := rfl
theorem RP_exc {α : Type} (c : Nat) (p : Option Int) (f : α → Prop) (g : Nat → Option Int → Prop) : RP (.exc c p) f g = g c p := rfl
abbrev Fns := Nat → List D → R D
def WS (F : Fns) (s : S) (env : SE) (Q : Pst) : Prop := (exS F fuel s env).sat Q
def WB (F : Fns) (m : Ss) (env : SE) (Q : Pst) : Prop := (exSs F fuel m env).sat Q
def LP (F : Fns) (tg : Tg) (b : Ss) (items : List D) (env : SE) (Q : Pst) : Prop := (loopF (fun x e => tgRun tg x e fun e' => exSs F fuel b e') items env).sat Q
/-! continuations by names: simp does not enter them ahead of time -/
def Pst.then (Q : Pst) (F : Fns) (r : Ss) : Pst := { Q with nx := fun e => WB F r e Q }
def Pst.setk (Q : Pst) (env : SE) (i : Nat) : D → Prop := fun d => Q.nx (env.set i (.fr d))
def Pst.ownk (Q : Pst) (env : SE) (i : Nat) : List D → Prop := fun d => Q.nx (env.set i (.ow d))
def Pst.exk (Q : Pst) (env : SE) : Nat → Option Int → Prop := fun c p => Q.ex c p env
def Pst.ifk (Q : Pst) (F : Fns) (a b : Ss) (env : SE) : Bool → Prop := fun k => (k = true → WB F a env Q) ∧ (k = false → WB F b env Q)
def Pst.unpk (Q : Pst) (env : SE) (is : List Nat) : D → Prop := fun d => (unpS env is d).sat Q
def Pst.nxk (Q : Pst) (env : SE) : D → Prop := fun _ => Q.nx env
def Pst.lpk (Q : Pst) (F : Fns) (tg : Tg) (b : Ss) (env : SE) : List D → Prop := fun items => LP F tg b items env Q
def Pst.par2 (Q : Pst) (env : SE) (i j : Nat) (x : D) : D → Prop := fun y => Q.nx ((env.set i (.fr x)).set j (.fr y))
def Pst.par1 (Q : Pst) (F : Fns) (env : SE) (i j : Nat) (b : E) : D → Prop := fun x => RP (valS F env b) (Q.par2 env i j x) (Q.exk env)
def Pst.mid (Q : Pst) (P : SE → Prop) : Pst := { Q with nx := P }
def Pst.lp (Q : Pst) (P : SE → Prop) : Pst := { Q with nx := P, ct := P, bk := Q.nx }
theorem mid_nx {Q : Pst} {P : SE → Prop} {e : SE} : (Q.mid P).nx e = P e := rfl
theorem mid_rt {Q : Pst} {P : SE → Prop} {d : D} : (Q.mid P).rt d = Q.rt d := rfl
theorem mid_bk {Q : Pst} {P : SE → Prop} {e : SE} : (Q.mid P).bk e = Q.bk e := rfl
theorem mid_ct {Q : Pst} {P : SE → Prop} {e : SE} : (Q.mid P).ct e = Q.ct e := rfl
theorem mid_ex {Q : Pst} {P : SE → Prop} {c : Nat} {p : Option Int} {e : SE} : (Q.mid P).ex c p e = Q.ex c p e := rfl
theorem lp_nx {Q : Pst} {P : SE → Prop} {e : SE} : (Q.lp P).nx e = P e := rfl
theorem lp_rt {Q : Pst} {P : SE → Prop} {d : D} : (Q.lp P).rt d = Q.rt d := rfl
theorem lp_bk {Q : Pst} {P : SE → Prop} {e : SE} : (Q.lp P).bk e = Q.nx e := rfl
theorem lp_ct {Q : Pst} {P : SE → Prop} {e : SE} : (Q.lp P).ct e = P e := rfl
theorem lp_ex {Q : Pst} {P : SE → Prop} {c : Nat} {p : Option Int} {e : SE} : (Q.lp P).ex c p e = Q.ex c p e := rfl
theorem then_nx {Q : Pst} {F : Fns} {r : Ss} {e : SE} : (Q.then F r).nx e = WB F r e Q := rfl
theorem then_rt {Q : Pst} {F : Fns} {r : Ss} {d : D} : (Q.then F r).rt d = Q.rt d := rfl
theorem then_bk {Q : Pst} {F : Fns} {r : Ss} {e : SE} : (Q.then F r).bk e = Q.bk e := rfl
theorem then_ct {Q : Pst} {F : Fns} {r : Ss} {e : SE} : (Q.then F r).ct e = Q.ct e := rfl
theorem then_ex {Q : Pst} {F : Fns} {r : Ss} {c : Nat} {p : Option Int} {e : SE} : (Q.then F r).ex c p e = Q.ex c p e := rfl
theorem setk_app {Q : Pst} {env : SE} {i : Nat} {d : D} : Q.setk env i d = Q.nx (env.set i (.fr d)) := rfl
theorem ownk_app {Q : Pst} {env : SE} {i : Nat} {d : List D} : Q.ownk env i d = Q.nx (env.set i (.ow d)) := rfl
theorem exk_app {Q : Pst} {env : SE} {c : Nat} {p : Option Int} : Q.exk env c p = Q.ex c p env := rfl
theorem ifk_app {Q : Pst} {F : Fns} {a b : Ss} {env : SE} {k : Bool} : Q.ifk F a b env k = ((k = true → WB F a env Q) ∧ (k = false → WB F b env Q)) := rfl
theorem unpk_app {Q : Pst} {env : SE} {is : List Nat} {d : D} : Q.unpk env is d = (unpS env is d).sat Q := rfl
theorem nxk_app {Q : Pst} {env : SE} {d : D} : Q.nxk env d = Q.nx env := rfl
theorem lpk_app {Q : Pst} {F : Fns} {tg : Tg} {b : Ss} {env : SE} {items : List D} : Q.lpk F tg b env items = LP F tg b items env Q := rfl
theorem par2_app {Q : Pst} {env : SE} {i j : Nat} {x y : D} : Q.par2 env i j x y = Q.nx ((env.set i (.fr x)).set j (.fr y)) := rfl
theorem par1_app {Q : Pst} {F : Fns} {env : SE} {i j : Nat} {b : E} {x : D} : Q.par1 F env i j b x = RP (valS F env b) (Q.par2 env i j x) (Q.exk env) := rfl
section
variable {F : Fns} {env : SE} {Q : Pst}
theorem sat_toS {α : Type} (r : R α) (f : α → Rs) : (r.toS env f).sat Q = RP r (fun a => (f a).sat Q) (fun c p => Q.ex c p env) := by cases r <;> rfl
theorem WB_nil : WB F .nil env Q = Q.nx env := by unfold WB; rw [exSs]; rfl
theorem WB_cons {s : S} {r : Ss} : WB F (.cons s r) env Q = WS F s env (Q.then F r) := by
  unfold WB WS
  rw [exSs]
  cases exS F fuel s env <;> rfl
theorem WB_frz {i : Nat} {r : Ss} : WB F (.frz i r) env Q = WB F r (frzS env i) Q := by unfold WB; rw [exSs]
theorem WS_pass : WS F .pass env Q = Q.nx env := by unfold WS; rw [exS]; rfl
theorem WS_ret {e : E} : WS F (.ret e) env Q = RP (evE F e (fullE env)) Q.rt (Q.exk env) := by unfold WS; rw [exS, sat_toS]; rfl
theorem WS_retN : WS F .retN env Q = Q.rt .none := by unfold WS; rw [exS]; rfl
theorem WS_set {i : Nat} {e : E} : WS F (.set i e) env Q = RP (valS F env e) (Q.setk env i) (Q.exk env) := by unfold WS; rw [exS, sat_toS]; rfl
theorem WS_setN {i : Nat} {e : E} : WS F (.setN i e) env Q = RP (newS F env e) (Q.ownk env i) (Q.exk env) := by unfold WS; rw [exS, sat_toS]; rfl
theorem WS_unp {is : List Nat} {e : E} : WS F (.unp is e) env Q = RP (valS F env e) (Q.unpk env is) (Q.exk env) := by unfold WS; rw [exS, sat_toS]; rfl
theorem unp_sat {is : List Nat} {ds : List D} : (unpS env is (.tuple ds)).sat Q = if ds.length = is.length then Q.nx (setAllS env is ds) else False := by
  show (if ds.length = is.length then Rs.nx (setAllS env is ds) else .stuck).sat Q = _
  split <;> rfl
theorem unp_satL {is : List Nat} {ds : List D} : (unpS env is (.list ds)).sat Q = if ds.length = is.length then Q.nx (setAllS env is ds) else False := by
  show (if ds.length = is.length then Rs.nx (setAllS env is ds) else .stuck).sat Q = _
  split <;> rfl
theorem WS_par {i j : Nat} {a b : E} : WS F (.par i j a b) env Q = RP (valS F env a) (Q.par1 F env i j b) (Q.exk env) := by
  unfold WS
  rw [exS, sat_toS]
  unfold Pst.par1
  congr 1
  funext x
  rw [sat_toS]
  rfl
theorem WS_app {i : Nat} {e : E} : WS F (.app i e) env Q = (appS env i (valS F env e)).sat Q := by unfold WS; rw [exS]
theorem WS_exs {e : E} : WS F (.exs e) env Q = RP (evE F e (fullE env)) (Q.nxk env) (Q.exk env) := by unfold WS; rw [exS, sat_toS]; rfl
theorem WS_iff {c : E} {a b : Ss} : WS F (.iff c a b) env Q = RP ((evE F c (fullE env)).bind ofB) (Q.ifk F a b env) (Q.exk env) := by
  unfold WS
  rw [exS, sat_toS]
  unfold Pst.ifk
  congr 1
  funext k
  cases k
  · simp [WB]
  · simp [WB]
theorem WS_for {w : Wk} {ws : Es} {tg : Tg} {b : Ss} : WS F (.forr w ws tg b) env Q = RP (valI F env w ws) (Q.lpk F tg b env) (Q.exk env) := by unfold WS; rw [exS, sat_toS]; rfl
theorem WS_raise {c : Nat} : WS F (.raise c) env Q = Q.ex c none env := by unfold WS; rw [exS]; rfl
theorem WS_brk : WS F .brk env Q = Q.bk env := by unfold WS; rw [exS]; rfl
theorem WS_cont : WS F .cont env Q = Q.ct env := by unfold WS; rw [exS]; rfl
theorem Rs.sat_imp {Q Q' : Pst} {r : Rs} (h : r.sat Q) (h1 : ∀ e, Q.nx e → Q'.nx e) (h2 : ∀ d, Q.rt d → Q'.rt d) (h3 : ∀ e, Q.bk e → Q'.bk e) (h4 : ∀ e, Q.ct e → Q'.ct e) (h5 : ∀ c p e, Q.ex c p e → Q'.ex c p e) : r.sat Q' := by
  cases r with
  | stuck => exact h
  | nx e => exact h1 e h
  | rt d => exact h2 d h
  | bk e => exact h3 e h
  | ct e => exact h4 e h
  | ex c p e => exact h5 c p e h
/-- an intermediate state -/
theorem WS_mid {s : S} {P : SE → Prop} (h : WS F s env (Q.mid P)) (k : ∀ e, P e → Q.nx e) : WS F s env Q := Rs.sat_imp h k (fun _ h => h) (fun _ h => h) (fun _ h => h) (fun _ _ _ h => h)
theorem WB_mid {s : Ss} {P : SE → Prop} (h : WB F s env (Q.mid P)) (k : ∀ e, P e → Q.nx e) : WB F s env Q := Rs.sat_imp h k (fun _ h => h) (fun _ h => h) (fun _ h => h) (fun _ _ _ h => h)
theorem LP_nil {tg : Tg} {b : Ss} : LP F tg b [] env Q = Q.nx env := rfl
/-- a loop by its invariant -/
theorem LP_inv {tg : Tg} {b : Ss} (P : Nat → SE → Prop) : ∀ {items : List D} {env : SE} (n : Nat), P n env →
    (∀ i x e, items[i]? = some x → P (n + i) e → ∃ e', tgS tg x e = some e' ∧ WB F b e' (Q.lp (P (n + i + 1)))) → (∀ e, P (n + items.length) e → Q.nx e) → LP F tg b items env Q
  | [], env, n, h0, _, fin => fin env h0
  | x :: xs, env, n, h0, step, fin => by
    obtain ⟨e', ht, hb⟩ := step 0 x env rfl h0
    unfold LP
    rw [loopF]
    unfold tgRun
    rw [ht]
    have rest : ∀ e, P (n + 1) e → (loopF (fun x e => tgRun tg x e fun e' => exSs F fuel b e') xs e).sat Q := fun e he =>
      LP_inv P (items := xs) (n + 1) he (fun i x' e2 hi hp => by
        have h2 := step (i + 1) x' e2 hi (by rw [show n + (i + 1) = n + 1 + i by omega]; exact hp)
        rw [show n + (i + 1) = n + 1 + i by omega] at h2
        exact h2) (fun e2 he2 => fin e2 (by rw [List.length_cons, show n + (xs.length + 1) = n + 1 + xs.length by omega]; exact he2))
    unfold WB at hb
    dsimp only
    cases q : exSs F fuel b e' with
    | stuck => rw [q] at hb; exact hb
    | nx e2 => rw [q] at hb; exact rest e2 hb
    | ct e2 => rw [q] at hb; exact rest e2 hb
    | bk e2 => rw [q] at hb; exact hb
    | rt d => rw [q] at hb; exact hb
    | ex c p e2 => rw [q] at hb; exact hb
theorem WS_whil {c : E} {b : Ss} (P : Nat → SE → Prop) (n : Nat) (h0 : P n env) (hn : n < fuel)
    (step : ∀ m e, P m e → RP ((evE F c (fullE e)).bind ofB) (fun k => (k = true → WB F b e (Q.lp fun e' => ∃ m', m' < m ∧ P m' e')) ∧ (k = false → Q.nx e)) (fun c p => Q.ex c p e)) : WS F (.whil c b) env Q := by
  have key : ∀ (g n : Nat) (env : SE), P n env → n < g → (whileF (fun e => (evE F c (fullE e)).bind ofB) (fun e => exSs F fuel b e) g env).sat Q := by
    intro g
    induction g with
    | zero => intro n env _ h; exact absurd h (Nat.not_lt_zero n)
    | succ g ih =>
      intro n env hp hl
      rw [whileF, sat_toS]
      have st := step n env hp
      cases q : (evE F c (fullE env)).bind ofB with
      | stuck => rw [q] at st; exact st
      | exc c p => rw [q] at st; exact st
      | ok k =>
        rw [q] at st
        obtain ⟨h1, h2⟩ := st
        rw [RP_ok]
        cases k with
        | false => exact h2 rfl
        | true =>
          rw [if_pos rfl]
          have hb := h1 rfl
          unfold WB at hb
          cases q2 : exSs F fuel b env with
          | stuck => rw [q2] at hb; exact hb
          | nx e2 => rw [q2] at hb; obtain ⟨m', hm, hp'⟩ := hb; exact ih m' e2 hp' (by omega)
          | ct e2 => rw [q2] at hb; obtain ⟨m', hm, hp'⟩ := hb; exact ih m' e2 hp' (by omega)
          | bk e2 => rw [q2] at hb; exact hb
          | rt d => rw [q2] at hb; exact hb
          | ex c p e2 => rw [q2] at hb; exact hb
  unfold WS
  rw [exS]
  exact key fuel n env h0 hn
/-- the exact end of a suite -/
def Pst.isE (i : Nat) (T : SE) : Pst := ⟨fun e => e.set i .un = T, fun _ => False, fun _ => False, fun _ => False, fun _ _ _ => False⟩
def Pst.isD (d : D) : Pst := ⟨fun _ => False, fun d' => d' = d, fun _ => False, fun _ => False, fun _ _ _ => False⟩
theorem isE_nx {i : Nat} {T e : SE} : (Pst.isE i T).nx e = (e.set i .un = T) := rfl
theorem isE_rt {i : Nat} {T : SE} {d : D} : (Pst.isE i T).rt d = False := rfl
theorem isD_nx {d : D} {e : SE} : (Pst.isD d).nx e = False := rfl
theorem isD_rt {d d' : D} : (Pst.isD d).rt d' = (d' = d) := rfl
theorem xd_some : ∀ p : Option Int, ∃ x, XD p x
  | none => ⟨_, 0, rfl⟩
  | some i => ⟨_, 0, 0, "", rfl⟩
theorem allX_sat {Q : Pst} {i : Nat} {P : D → Prop} {g : D → Rs} {r : Rs} (hx : ∃ x, P x) (h : ∀ x, P x → clrS i (g x) = r) (q : (noEx r).sat Q) : (allX i P g).sat Q := by
  unfold allX
  have hh : ∃ r, ∀ x, P x → clrS i (g x) = r := ⟨r, h⟩
  rw [dif_pos hh]
  obtain ⟨x, hx⟩ := hx
  have e : hh.choose = r := (hh.choose_spec x hx).symm.trans (h x hx)
  rw [e]
  exact q
/-- try: .. except c as e: h -/
theorem WS_tryE {c i : Nat} {b h : Ss} (hb : WB F b env { Q with ex := fun k p e => (subX k c = true →
      (∃ T, (∀ x, XD p x → WB (exFn k p x) h (e.set i (.fr x)) (Pst.isE i T)) ∧ Q.nx T) ∨ (∃ d, (∀ x, XD p x → WB (exFn k p x) h (e.set i (.fr x)) (Pst.isD d)) ∧ Q.rt d)) ∧ (subX k c = false → Q.ex k p e) }) : WS F (.tryE c i b h) env Q := by
  unfold WS
  rw [exS]
  unfold WB at hb
  cases q : exSs F fuel b env with
  | stuck => rw [q] at hb; exact hb
  | nx e2 => rw [q] at hb; exact hb
  | ct e2 => rw [q] at hb; exact hb
  | bk e2 => rw [q] at hb; exact hb
  | rt d => rw [q] at hb; exact hb
  | ex k p e2 =>
    rw [q] at hb
    obtain ⟨h1, h2⟩ := hb
    show (if subX k c = true then allX i (XD p) (fun x => exSs (exFn k p x) fuel h (e2.set i (.fr x))) else Rs.ex k p e2).sat Q
    by_cases hs : subX k c = true
    · rw [if_pos hs]
      rcases h1 hs with ⟨T, z1, z2⟩ | ⟨d, z1, z2⟩
      · refine allX_sat (r := .nx T) (xd_some p) (fun x hx => ?_) z2
        have z := z1 x hx
        unfold WB at z
        cases q2 : exSs (exFn k p x) fuel h (e2.set i (.fr x)) with
        | nx e3 => rw [q2] at z; exact congrArg Rs.nx z
        | _ => rw [q2] at z; exact z.elim
      · refine allX_sat (r := .rt d) (xd_some p) (fun x hx => ?_) z2
        have z := z1 x hx
        unfold WB at z
        cases q2 : exSs (exFn k p x) fuel h (e2.set i (.fr x)) with
        | rt e3 => rw [q2] at z; exact congrArg Rs.rt z
        | _ => rw [q2] at z; exact z.elim
    · rw [if_neg hs]
      exact h2 (by simpa using hs)
/-- try: b, except c as e: error = e, and the rest -/
theorem WB_tryV {c i j : Nat} {b r1 r2 : Ss} (hb : WB F b env { Q with nx := fun e => WB F r1 e Q, ex := fun k p e => (subX k c = true → i < e.length ∧
      ∃ d, (∀ x, XD p x → WB (exFn k p x) r2 (((e.set i (.fr x)).set j (.fr x)).set i .un) (Pst.isD d)) ∧ Q.rt d) ∧ (subX k c = false → Q.ex k p e) }) : WB F (.tryV c i j b r1 r2) env Q := by
  unfold WB
  rw [exSs]
  unfold WB at hb
  cases q : exSs F fuel b env with
  | stuck => rw [q] at hb; exact hb
  | nx e2 => rw [q] at hb; exact hb
  | ct e2 => rw [q] at hb; exact hb
  | bk e2 => rw [q] at hb; exact hb
  | rt d => rw [q] at hb; exact hb
  | ex k p e2 =>
    rw [q] at hb
    obtain ⟨h1, h2⟩ := hb
    show (if subX k c = true then (if i < e2.length then allX i (XD p) (fun x => onlyRt (exSs (exFn k p x) fuel r2 (((e2.set i (.fr x)).set j (.fr x)).set i .un))) else .stuck) else Rs.ex k p e2).sat Q
    by_cases hs : subX k c = true
    · rw [if_pos hs]
      obtain ⟨hl, d, z1, z2⟩ := h1 hs
      rw [if_pos hl]
      refine allX_sat (r := .rt d) (xd_some p) (fun x hx => ?_) z2
      have z := z1 x hx
      unfold WB at z
      cases q2 : exSs (exFn k p x) fuel r2 (((e2.set i (.fr x)).set j (.fr x)).set i .un) with
      | rt e3 => rw [q2] at z; exact congrArg Rs.rt z
      | _ => rw [q2] at z; exact z.elim
    · rw [if_neg hs]
      exact h2 (by simpa using hs)
theorem WS_raiseP {c : Nat} {e : E} (h : RP (evE F e (fullE env)) (fun d => ∃ i, d = .int i ∧ Q.ex c (some i) env) (Q.exk env)) : WS F (.raiseP c e) env Q := by
  unfold WS
  rw [exS]
  cases q : evE F e (fullE env) with
  | stuck => rw [q] at h; exact h.elim
  | exc c p => rw [q] at h; exact h
  | ok d =>
    rw [q] at h
    obtain ⟨i, rfl, h⟩ := h
    exact h
/-- try: the suite h for the exceptions of the class c -/
theorem WS_tryx {c : Nat} {b h : Ss} (hb : WB F b env { Q with ex := fun k p e => (subX k c = true → WB F h e { Q with ex := fun _ _ _ => False }) ∧ (subX k c = false → Q.ex k p e) }) : WS F (.tryx c b h) env Q := by
  unfold WS
  rw [exS]
  unfold WB at hb
  cases q : exSs F fuel b env with
  | stuck => rw [q] at hb; exact hb
  | nx e2 => rw [q] at hb; exact hb
  | ct e2 => rw [q] at hb; exact hb
  | bk e2 => rw [q] at hb; exact hb
  | rt d => rw [q] at hb; exact hb
  | ex k p e2 =>
    rw [q] at hb
    obtain ⟨h1, h2⟩ := hb
    show (if subX k c = true then noEx (exSs F fuel h e2) else Rs.ex k p e2).sat Q
    by_cases hs : subX k c = true
    · rw [if_pos hs]
      have z := h1 hs
      cases q2 : exSs F fuel h e2 with
      | ex c' p' e' => unfold WB at z; rw [q2] at z; exact z.elim
      | _ => unfold WB at z; rw [q2] at z; exact z
    · rw [if_neg hs]
      exact h2 (by simpa using hs)
end
theorem den_of (P : R D → Prop) {F : Fns} {n : Nat} {m : Ss} {ds : List D} (h : WB F m (startS n ds) ⟨fun _ => P (.ok .none), fun d => P (.ok d), fun _ => False, fun _ => False, fun c p _ => P (.exc c p)⟩) : P (den F fuel n m ds) := by
  unfold WB at h
  unfold den
  cases q : exSs F fuel m (startS n ds) with
  | stuck => rw [q] at h; exact h.elim
  | nx e2 => rw [q] at h; exact h
  | ct e2 => rw [q] at h; exact h.elim
  | bk e2 => rw [q] at h; exact h.elim
  | rt d => rw [q] at h; exact h
  | ex k p e2 => rw [q] at h; exact h

/-! ### evaluation, rule by rule -/
theorem valS_def {F : Fns} {env : SE} {e : E} : valS F env e = (evE F e (fullE env)).bind fun d => if (lfree d || noOwn env) = true then .ok d else evE F e (cleanE env) := rfl
theorem valS_ok {F : Fns} {env : SE} {e : E} {d : D} (h : evE F e (fullE env) = .ok d) (l : (lfree d || noOwn env) = true) : valS F env e = .ok d := by
  rw [valS_def, h, R.bind_ok, if_pos l]
theorem valS_clean {F : Fns} {env : SE} {e : E} {d d' : D} (h : evE F e (fullE env) = .ok d') (l : evE F e (cleanE env) = .ok d) (e' : d' = d) : valS F env e = .ok d := by
  rw [valS_def, h, R.bind_ok]
  split
  · rw [e']
  · exact l
theorem newS_ok {F : Fns} {env : SE} {e : E} {ds : List D} (h : evE F e (fullE env) = .ok (.list ds)) (l : (lfrees ds || noOwn env) = true) : newS F env e = .ok ds := by
  unfold newS
  rw [h]
  show (if (lfrees ds || noOwn env) = true then R.ok ds else _) = _
  rw [if_pos l]
theorem appS_ok {env : SE} {i : Nat} {d : D} {ds : List D} (h : env[i]? = some (.ow ds)) (l : ds.length < 1000000) : appS env i (.ok d) = .nx (env.set i (.ow (ds ++ [d]))) := by
  unfold appS
  rw [h]
  show (if ds.length < 1000000 then _ else _) = _
  rw [if_pos l]
theorem getE_zero {d : D} {env : Env} : getE (some d :: env) 0 = .ok d := rfl
theorem getE_succ {o : Option D} {env : Env} {i : Nat} : getE (o :: env) (i + 1) = getE env i := rfl
theorem fullE_nil : fullE [] = [] := rfl
theorem fullE_cons {s : Sl} {env : SE} : fullE (s :: env) = s.full :: fullE env := rfl
theorem full_fr {d : D} : (Sl.fr d).full = some d := rfl
theorem full_ow {ds : List D} : (Sl.ow ds).full = some (.list ds) := rfl
theorem full_un : Sl.un.full = none := rfl
theorem clean_fr {d : D} : (Sl.fr d).clean = some d := rfl
theorem clean_ow {ds : List D} : (Sl.ow ds).clean = none := rfl
theorem clean_un : Sl.un.clean = none := rfl
theorem cleanE_nil : cleanE [] = [] := rfl
theorem cleanE_cons {s : Sl} {env : SE} : cleanE (s :: env) = s.clean :: cleanE env := rfl
theorem noOwn_nil : noOwn [] = true := rfl
theorem noOwn_fr {d : D} {env : SE} : noOwn (.fr d :: env) = noOwn env := rfl
theorem noOwn_un {env : SE} : noOwn (.un :: env) = noOwn env := rfl
theorem noOwn_ow {d : List D} {env : SE} : noOwn (.ow d :: env) = false := rfl
theorem set_zero {s t : Sl} {env : SE} : (s :: env).set 0 t = t :: env := rfl
theorem set_succ {s t : Sl} {env : SE} {i : Nat} : (s :: env).set (i + 1) t = s :: env.set i t := rfl
theorem setE_zero {s t : Option D} {env : Env} : (s :: env).set 0 t = t :: env := rfl
theorem setE_succ {s t : Option D} {env : Env} {i : Nat} : (s :: env).set (i + 1) t = s :: env.set i t := rfl
theorem frz_zero {d : List D} {env : SE} : frzS (.ow d :: env) 0 = .fr (.list d) :: env := rfl
theorem frz_zero_fr {d : D} {env : SE} : frzS (.fr d :: env) 0 = .fr d :: env := rfl
theorem frz_zero_un {env : SE} : frzS (.un :: env) 0 = .un :: env := rfl
theorem frz_succ {s : Sl} {env : SE} {i : Nat} : frzS (s :: env) (i + 1) = s :: frzS env i := by
  unfold frzS
  rw [List.getElem?_cons_succ]
  cases h : env[i]? with
  | none => rfl
  | some x => cases x <;> rfl
theorem sel_zero {f : List D → R D} {l : List (List D → R D)} : sel (f :: l) 0 = f := rfl
theorem sel_succ {f : List D → R D} {l : List (List D → R D)} {i : Nat} : sel (f :: l) (i + 1) = sel l i := rfl
theorem ofB_bool {b : Bool} : ofB (.bool b) = .ok b := rfl
theorem bop_add {i j : Int} : bop .add (.int i) (.int j) = .ok (.int (i + j)) := rfl
theorem bop_sub {i j : Int} : bop .sub (.int i) (.int j) = .ok (.int (i - j)) := rfl
theorem bop_mul {i j : Int} {m n : Nat} (hi : bd m i) (hj : bd n j) (h : m + n + 2 ≤ 134000000) : bop .mul (.int i) (.int j) = .ok (.int (i * j)) := by
  have h1 := bd_log hi
  have h2 := bd_log hj
  show (if i.natAbs.log2 + j.natAbs.log2 < 134000000 then _ else _) = _
  rw [if_pos (by omega)]
theorem bop_fdiv {i j : Int} {n : Nat} (h0 : j ≠ 0) (hj : bd n j) (h : n ≤ 8999) : bop .fdiv (.int i) (.int j) = .ok (.int (i.fdiv j)) := by
  have h2 := bd_log hj
  show (if j ≠ 0 ∧ j.natAbs.log2 < 9000 then _ else _) = _
  rw [if_pos ⟨h0, by omega⟩]
theorem bop_mod {i j : Int} (h0 : j ≠ 0) : bop .mod (.int i) (.int j) = .ok (.int (i.fmod j)) := by
  show (if j ≠ 0 then _ else _) = _
  rw [if_pos h0]
theorem bop_pow {i j : Int} (h0 : 0 ≤ j ∧ j ≤ 1000000 ∧ i.natAbs < 2 ^ 64) : bop .pow (.int i) (.int j) = .ok (.int (i ^ j.toNat)) := by
  show (if 0 ≤ j ∧ j ≤ 1000000 ∧ i.natAbs < 2 ^ 64 then _ else _) = _
  rw [if_pos h0]
theorem bop_addL {a b : List D} (h : a.length + b.length ≤ 1000000) : bop .add (.list a) (.list b) = .ok (.list (a ++ b)) := by
  have : (1000000 : Nat) ≤ sizeLine := by decide
  show (if a.length + b.length ≤ sizeLine then _ else _) = _
  rw [if_pos (by omega)]
theorem cop_lt {i j : Int} : cop .lt (.int i) (.int j) = .ok (.bool (decide (i < j))) := rfl
theorem cop_le {i j : Int} : cop .le (.int i) (.int j) = .ok (.bool (decide (i ≤ j))) := rfl
theorem cop_gt {i j : Int} : cop .gt (.int i) (.int j) = .ok (.bool (decide (j < i))) := rfl
theorem cop_ge {i j : Int} : cop .ge (.int i) (.int j) = .ok (.bool (decide (j ≤ i))) := rfl
end Bs

namespace Bs
open PySem PySem.Spec L2
open PyProof.Rows hiding St

/-! ### conditions that a discharger meets -/
def MulOk (i j : Int) : Prop := i.natAbs.log2 + j.natAbs.log2 < 134000000
def DivOk (j : Int) : Prop := j ≠ 0 ∧ j.natAbs.log2 < 9000
theorem mulOk {m n : Nat} {i j : Int} (hi : bd m i) (hj : bd n j) (h : decide (m + n + 2 ≤ 134000000) = true) : MulOk i j := by
  have h1 := bd_log hi
  have h2 := bd_log hj
  have h3 := of_decide_eq_true h
  unfold MulOk
  omega
theorem divOk {n : Nat} {j : Int} (h0 : j ≠ 0) (hj : bd n j) (h : decide (n ≤ 8999) = true) : DivOk j := by
  have h2 := bd_log hj
  have h3 := of_decide_eq_true h
  exact ⟨h0, by omega⟩
theorem bd_self {i : Int} : bd (i.natAbs.log2 + 1) i := by
  unfold bd
  exact Nat.lt_log2_self
theorem bd_in {m n : Nat} {i : Int} (h : bd m i) (l : decide (m ≤ n) = true) : bd n i := h.mono (of_decide_eq_true l)
theorem bd_iteP {m : Nat} {i : Int} {c : Prop} [Decidable c] {j : Int} {n : Nat} (hi : bd m i) (hj : bd n j) : bd (max m n) (if c then i else j) := by
  split
  · exact hi.mono (Nat.le_max_left ..)
  · exact hj.mono (Nat.le_max_right ..)
theorem bop_mulE {i j : Int} (h : MulOk i j) : bop .mul (.int i) (.int j) = .ok (.int (i * j)) := if_pos h
theorem bop_fdivE {i j : Int} (h : DivOk j) : bop .fdiv (.int i) (.int j) = .ok (.int (i.fdiv j)) := if_pos h
theorem bop_powE {i j : Int} (h : 0 ≤ j ∧ j ≤ 1000000 ∧ i.natAbs < 2 ^ 64) : bop .pow (.int i) (.int j) = .ok (.int (i ^ j.toNat)) := if_pos h

/-! ### plain data: its equality -/
theorem lfree_int {i : Int} : lfree (.int i) = true := by simp only [lfree]
theorem lfree_bool {i : Bool} : lfree (.bool i) = true := by simp only [lfree]
theorem lfree_str {i : Str} : lfree (.str i) = true := by simp only [lfree]
theorem lfree_none : lfree .none = true := by simp only [lfree]
theorem lfree_tup {ds : List D} : lfree (.tuple ds) = lfrees ds := by simp only [lfree]
theorem lfree_list {ds : List D} : lfree (.list ds) = false := by simp only [lfree]
theorem lfrees_nil : lfrees [] = true := by simp only [lfrees]
theorem lfrees_cons {d : D} {ds : List D} : lfrees (d :: ds) = (lfree d && lfrees ds) := by simp only [lfrees]
theorem lfrees_ints {ns : List Int} : lfrees (ns.map PyData.int) = true := by
  induction ns with
  | nil => exact lfrees_nil
  | cons n ns ih => rw [List.map_cons, lfrees_cons, lfree_int, ih]; rfl
mutual
/-- numbers, texts, None, in tuples and lists n deep -/
def pl : Nat → D → Bool
  | _, .none => true
  | _, .int _ => true
  | _, .str x => PyData.strOk x
  | 0, .list _ => false
  | 0, .tuple _ => false
  | n + 1, .list ds => pls n ds
  | n + 1, .tuple ds => pls n ds
  | _, .bool _ => false
  | _, .dict _ => false
def pls : Nat → List D → Bool
  | _, [] => true
  | n, d :: ds => pl n d && pls n ds
end
mutual
theorem pl_lay : ∀ (n : Nat) (d : D), pl n d = true → PyData.canLay0 d = true ∧ d.depth ≤ n
  | n, .none, _ => by simp [PyData.canLay0, PyData.depth]
  | n, .int _, _ => by simp [PyData.canLay0, PyData.depth]
  | n, .str x, h => by
    have h' : PyData.strOk x = true := by cases n <;> simpa [pl] using h
    simp [PyData.canLay0, PyData.depth, h']
  | 0, .list ds, h => by simp [pl] at h
  | 0, .tuple ds, h => by simp [pl] at h
  | n + 1, .list ds, h => by
    have h' : pls n ds = true := by simpa [pl] using h
    have q := pls_lay n ds h'
    simp [PyData.canLay0, PyData.depth, q.1, q.2]
  | n + 1, .tuple ds, h => by
    have h' : pls n ds = true := by simpa [pl] using h
    have q := pls_lay n ds h'
    simp [PyData.canLay0, PyData.depth, q.1, q.2]
  | n, .bool b, h => by cases n <;> simp [pl] at h
  | n, .dict b, h => by cases n <;> simp [pl] at h
theorem pls_lay : ∀ (n : Nat) (ds : List D), pls n ds = true → PyData.canLayAll0 ds = true ∧ PyData.depthAll ds ≤ n
  | n, [], _ => by simp [PyData.canLayAll0, PyData.depthAll]
  | n, d :: ds, h => by
    have h' : pl n d = true ∧ pls n ds = true := by simpa [pls] using h
    have q1 := pl_lay n d h'.1
    have q2 := pls_lay n ds h'.2
    simp [PyData.canLayAll0, PyData.depthAll, q1.1, q2.1, q1.2, q2.2, Nat.max_le]
end
theorem shp_of {n : Nat} {d : D} (h : pl n d = true) (l : n ≤ 64 := by decide) : shp d = true := by
  have q := pl_lay n d h
  show (d.canLay0 && decide (d.depth ≤ 64)) = true
  rw [q.1, decide_eq_true (Nat.le_trans q.2 l)]
  rfl
mutual
theorem eqv_of : ∀ (n : Nat) (a b : D), pl n a = true → pl n b = true → (PyData.eqv a b = true ↔ a = b)
  | n, .none, b, _, hb => by cases b <;> simp_all [PyData.eqv, pl]
  | n, .int i, b, _, hb => by cases b <;> simp_all [PyData.eqv, pl]
  | n, .str x, b, _, hb => by cases b <;> simp_all [PyData.eqv, pl]
  | 0, .list ds, b, ha, _ => by simp [pl] at ha
  | 0, .tuple ds, b, ha, _ => by simp [pl] at ha
  | n + 1, .list ds, b, ha, hb => by
    have ha' : pls n ds = true := by simpa [pl] using ha
    cases b with
    | list es =>
      have hb' : pls n es = true := by simpa [pl] using hb
      have q := eqvs_of n ds es ha' hb'
      simp [PyData.eqv, q]
    | _ => simp [PyData.eqv]
  | n + 1, .tuple ds, b, ha, hb => by
    have ha' : pls n ds = true := by simpa [pl] using ha
    cases b with
    | tuple es =>
      have hb' : pls n es = true := by simpa [pl] using hb
      have q := eqvs_of n ds es ha' hb'
      simp [PyData.eqv, q]
    | _ => simp [PyData.eqv]
  | n, .bool _, b, ha, _ => by cases n <;> simp [pl] at ha
  | n, .dict _, b, ha, _ => by cases n <;> simp [pl] at ha
theorem eqvs_of : ∀ (n : Nat) (as bs : List D), pls n as = true → pls n bs = true → (PyData.eqvAll as bs = true ↔ as = bs)
  | n, [], [], _, _ => by simp [PyData.eqvAll]
  | n, [], b :: bs, _, _ => by simp [PyData.eqvAll]
  | n, a :: as, [], _, _ => by simp [PyData.eqvAll]
  | n, a :: as, b :: bs, ha, hb => by
    have ha' : pl n a = true ∧ pls n as = true := by simpa [pls] using ha
    have hb' : pl n b = true ∧ pls n bs = true := by simpa [pls] using hb
    have q1 := eqv_of n a b ha'.1 hb'.1
    have q2 := eqvs_of n as bs ha'.2 hb'.2
    simp [PyData.eqvAll, q1, q2]
end
theorem pl_int {n : Nat} {i : Int} : pl n (.int i) = true := by cases n <;> simp only [pl]
theorem pl_none {n : Nat} : pl n .none = true := by cases n <;> simp only [pl]
theorem pl_list {n : Nat} {ds : List D} : pl (n + 1) (.list ds) = pls n ds := by simp only [pl]
theorem pl_tup {n : Nat} {ds : List D} : pl (n + 1) (.tuple ds) = pls n ds := by simp only [pl]
theorem pls_nil {n : Nat} : pls n [] = true := by simp only [pls]
theorem pls_cons {n : Nat} {d : D} {ds : List D} : pls n (d :: ds) = (pl n d && pls n ds) := by simp only [pls]
theorem pls_ints {n : Nat} : ∀ {ns : List Int}, pls n (ns.map PyData.int) = true
  | [] => pls_nil
  | x :: xs => by rw [List.map_cons, pls_cons, pl_int, pls_ints]; rfl
theorem pls_all {n : Nat} : ∀ {ds : List D}, (∀ d ∈ ds, pl n d = true) → pls n ds = true
  | [], _ => pls_nil
  | d :: ds, h => by rw [pls_cons, h d List.mem_cons_self, pls_all fun e he => h e (List.mem_cons_of_mem _ he)]; rfl
theorem pls_app {n : Nat} : ∀ {ds es : List D}, pls n ds = true → pls n es = true → pls n (ds ++ es) = true
  | [], es, _, h => h
  | d :: ds, es, h1, h2 => by
    have h' : pl n d = true ∧ pls n ds = true := by simpa [pls] using h1
    rw [List.cons_append, pls_cons, h'.1, pls_app h'.2 h2]
    rfl
/-- == of plain data, by a decision -/
theorem cop_eqP {n : Nat} {a b : D} {p : Prop} [Decidable p] (ha : pl n a = true) (hb : pl n b = true) (h : a = b ↔ p) (l : n ≤ 64 := by decide) : cop .eq a b = .ok (.bool (decide p)) := by
  have e : PyData.eqv a b = decide p := by
    rw [Bool.eq_iff_iff, eqv_of n a b ha hb, decide_eq_true_iff, h]
  show (if shp a = true ∧ shp b = true then R.ok (PyData.bool (PyData.eqv a b)) else .stuck) = _
  rw [if_pos ⟨shp_of ha l, shp_of hb l⟩, e]
theorem cop_neP {n : Nat} {a b : D} {p : Prop} [Decidable p] (ha : pl n a = true) (hb : pl n b = true) (h : a = b ↔ p) (l : n ≤ 64 := by decide) : cop .ne a b = .ok (.bool (!decide p)) := by
  have e : PyData.eqv a b = decide p := by
    rw [Bool.eq_iff_iff, eqv_of n a b ha hb, decide_eq_true_iff, h]
  show (if shp a = true ∧ shp b = true then R.ok (PyData.bool (!PyData.eqv a b)) else .stuck) = _
  rw [if_pos ⟨shp_of ha l, shp_of hb l⟩, e]
theorem cop_eqI {i j : Int} : cop .eq (.int i) (.int j) = .ok (.bool (decide (i = j))) := cop_eqP (n := 0) pl_int pl_int (by simp)
theorem cop_neI {i j : Int} : cop .ne (.int i) (.int j) = .ok (.bool (!decide (i = j))) := cop_neP (n := 0) pl_int pl_int (by simp)
theorem shp_bool {b : Bool} : shp (.bool b) = true := by simp [shp, SeqAt.shaped, PyData.canLay0, PyData.depth]
theorem shp_int {b : Int} : shp (.int b) = true := shp_of (n := 0) pl_int
theorem cop_eqB {i j : Bool} : cop .eq (.bool i) (.bool j) = .ok (.bool (i == j)) := by
  show (if shp (.bool i) = true ∧ shp (.bool j) = true then R.ok (PyData.bool (PyData.eqv (.bool i) (.bool j))) else .stuck) = _
  rw [if_pos ⟨shp_bool, shp_bool⟩]
  simp only [PyData.eqv]
theorem cop_neB {i j : Bool} : cop .ne (.bool i) (.bool j) = .ok (.bool (!(i == j))) := by
  show (if shp (.bool i) = true ∧ shp (.bool j) = true then R.ok (PyData.bool (!PyData.eqv (.bool i) (.bool j))) else .stuck) = _
  rw [if_pos ⟨shp_bool, shp_bool⟩]
  simp only [PyData.eqv]
/-! tuples of two, four numbers -/
abbrev T2 (a b : Int) : D := .tuple [.int a, .int b]
abbrev T3 (a b c : Int) : D := .tuple [.int a, .int b, .int c]
abbrev T4 (a b c d : Int) : D := .tuple [.int a, .int b, .int c, .int d]
abbrev Li (ns : List Int) : D := .list (ns.map PyData.int)
theorem pl_T2 {n : Nat} {a b : Int} : pl (n + 1) (T2 a b) = true := by simp only [pl_tup, pls_cons, pls_nil, pl_int, Bool.and_self]
theorem pl_T3 {n : Nat} {a b c : Int} : pl (n + 1) (T3 a b c) = true := by simp only [pl_tup, pls_cons, pls_nil, pl_int, Bool.and_self]
theorem pl_T4 {n : Nat} {a b c d : Int} : pl (n + 1) (T4 a b c d) = true := by simp only [pl_tup, pls_cons, pls_nil, pl_int, Bool.and_self]
theorem pl_Li {n : Nat} {ns : List Int} : pl (n + 1) (Li ns) = true := by rw [pl_list, pls_ints]
theorem map_int_inj {a b : List Int} : a.map PyData.int = b.map PyData.int ↔ a = b := by
  constructor
  · intro h
    exact List.map_inj_right (fun x y h => by cases h; rfl) |>.mp h
  · intro h; rw [h]
theorem cop_eqT2 {a b c d : Int} : cop .eq (T2 a b) (T2 c d) = .ok (.bool (decide (a = c ∧ b = d))) := cop_eqP (n := 1) pl_T2 pl_T2 (by simp)
theorem cop_neT2 {a b c d : Int} : cop .ne (T2 a b) (T2 c d) = .ok (.bool (!decide (a = c ∧ b = d))) := cop_neP (n := 1) pl_T2 pl_T2 (by simp)
theorem cop_eqT4 {a b c d a' b' c' d' : Int} : cop .eq (T4 a b c d) (T4 a' b' c' d') = .ok (.bool (decide (a = a' ∧ b = b' ∧ c = c' ∧ d = d'))) := cop_eqP (n := 1) pl_T4 pl_T4 (by simp)
theorem cop_neT4 {a b c d a' b' c' d' : Int} : cop .ne (T4 a b c d) (T4 a' b' c' d') = .ok (.bool (!decide (a = a' ∧ b = b' ∧ c = c' ∧ d = d'))) := cop_neP (n := 1) pl_T4 pl_T4 (by simp)
theorem cop_eqLi {a b : List Int} : cop .eq (Li a) (Li b) = .ok (.bool (decide (a = b))) := cop_eqP (n := 1) pl_Li pl_Li (by simp [map_int_inj])
theorem cop_neLi {a b : List Int} : cop .ne (Li a) (Li b) = .ok (.bool (!decide (a = b))) := cop_neP (n := 1) pl_Li pl_Li (by simp [map_int_inj])
/-! ### built-ins, items -/
theorem bi_len {ds : List D} : bi .len [.list ds] = .ok (.int ds.length) := rfl
theorem bi_lenT {ds : List D} : bi .len [.tuple ds] = .ok (.int ds.length) := rfl
theorem bi_abs {i : Int} : bi .abs [.int i] = .ok (.int i.natAbs) := by
  show R.ok (PyData.int (if i < 0 then -i else i)) = _
  congr 2
  split <;> omega
theorem bi_max2 {i j : Int} : bi .max2 [.int i, .int j] = .ok (.int (max i j)) := by
  show R.ok (PyData.int (if j > i then j else i)) = _
  congr 2
  split <;> omega
theorem bi_min2 {i j : Int} : bi .min2 [.int i, .int j] = .ok (.int (min i j)) := by
  show R.ok (PyData.int (if j < i then j else i)) = _
  congr 2
  split <;> omega
theorem bi_intB {b : Bool} : bi .int [.bool b] = .ok (.int (if b then 1 else 0)) := rfl
theorem bi_intI {b : Int} : bi .int [.int b] = .ok (.int b) := rfl
theorem boolsD_map {bs : List Bool} : boolsD (bs.map PyData.bool) = some bs := by
  induction bs with
  | nil => rfl
  | cons b bs ih => rw [List.map_cons, boolsD, ih]; rfl
theorem intsD_map {bs : List Int} : intsD (bs.map PyData.int) = some bs := by
  induction bs with
  | nil => rfl
  | cons b bs ih => rw [List.map_cons, intsD, ih]; rfl
theorem bi_all {bs : List Bool} : bi .all [.list (bs.map PyData.bool)] = .ok (.bool (bs.all id)) := by
  show (match boolsD (bs.map PyData.bool) with
    | some ns => R.ok (PyData.bool (ns.all id))
    | none => .stuck) = _
  rw [boolsD_map]
theorem bi_sum {ns : List Int} : bi .sum [.list (ns.map PyData.int)] = .ok (.int ns.sum) := by
  show (match intsD (ns.map PyData.int) with
    | some ns => R.ok (PyData.int ns.sum)
    | none => .stuck) = _
  rw [intsD_map]
theorem ix_list {ds : List D} {i : Int} {d : D} (h : atI ds i = some d) : ixop (.list ds) (.int i) = .ok d := by
  show (match atI ds i with
    | some d => R.ok d
    | none => .stuck) = _
  rw [h]
theorem ix_tup {ds : List D} {i : Int} {d : D} (h : atI ds i = some d) : ixop (.tuple ds) (.int i) = .ok d := by
  show (match atI ds i with
    | some d => R.ok d
    | none => .stuck) = _
  rw [h]
theorem atI_nat {α : Type} {ds : List α} {n : Nat} : atI ds (n : Int) = ds[n]? := by
  unfold atI ixN
  rw [if_pos (Int.natCast_nonneg n)]
  by_cases h : (n : Int) < (ds.length : Int)
  · rw [if_pos h]
    simp
  · rw [if_neg h]
    rw [List.getElem?_eq_none (by omega)]
    rfl
theorem cop_neLi0 {a : List Int} : cop .ne (.list (a.map PyData.int)) (.list []) = .ok (.bool (!decide (a = []))) := cop_neLi (b := [])
theorem cop_eqLi0 {a : List Int} : cop .eq (.list (a.map PyData.int)) (.list []) = .ok (.bool (decide (a = []))) := cop_eqLi (b := [])
theorem ix_Li {ns : List Int} {i : Int} (h0 : 0 ≤ i) (h1 : i < ns.length) : ixop (.list (ns.map PyData.int)) (.int i) = .ok (.int (ns.getD i.toNat 0)) := by
  obtain ⟨n, rfl⟩ := Int.eq_ofNat_of_zero_le h0
  refine ix_list ?_
  rw [atI_nat, List.getElem?_map]
  have : n < ns.length := by omega
  simp [List.getElem?_eq_getElem this]
/-- items by written places -/
theorem atI_zero {α : Type} {d : α} {ds : List α} : atI (d :: ds) 0 = some d := atI_nat (n := 0)
theorem atI_one {α : Type} {d e : α} {ds : List α} : atI (e :: d :: ds) 1 = some d := atI_nat (n := 1)
theorem atI_two {α : Type} {d e f : α} {ds : List α} : atI (f :: e :: d :: ds) 2 = some d := atI_nat (n := 2)
theorem atI_three {α : Type} {d e f g : α} {ds : List α} : atI (g :: f :: e :: d :: ds) 3 = some d := atI_nat (n := 3)
theorem ix0 {d : D} {ds : List D} : ixop (.tuple (d :: ds)) (.int 0) = .ok d := ix_tup atI_zero
theorem ix1 {d e : D} {ds : List D} : ixop (.tuple (e :: d :: ds)) (.int 1) = .ok d := ix_tup atI_one
theorem ix2 {d e f : D} {ds : List D} : ixop (.tuple (f :: e :: d :: ds)) (.int 2) = .ok d := ix_tup atI_two
theorem ix3 {d e f g : D} {ds : List D} : ixop (.tuple (g :: f :: e :: d :: ds)) (.int 3) = .ok d := ix_tup atI_three
theorem ixL0 {d : D} {ds : List D} : ixop (.list (d :: ds)) (.int 0) = .ok d := ix_list atI_zero
theorem ixL1 {d e : D} {ds : List D} : ixop (.list (e :: d :: ds)) (.int 1) = .ok d := ix_list atI_one
theorem ixL2 {d e f : D} {ds : List D} : ixop (.list (f :: e :: d :: ds)) (.int 2) = .ok d := ix_list atI_two
theorem ixL3 {d e f g : D} {ds : List D} : ixop (.list (g :: f :: e :: d :: ds)) (.int 3) = .ok d := ix_list atI_three
/-- isinstance of data -/
theorem isi_of {d : D} {t : String} {b : Bool} (h : kitB (tyD d) t = some b) (hd : dicD d = false := by rfl) : isiD t d = .ok (.bool b) := by
  unfold isiD
  rw [hd, h]
  rfl
theorem isi_int_int {i : Int} : isiD "int" (.int i) = .ok (.bool true) := isi_of (by show kitB "int" "int" = _; decide +kernel)
theorem isi_bool_int {i : Int} : isiD "bool" (.int i) = .ok (.bool false) := isi_of (by show kitB "int" "bool" = _; decide +kernel)
theorem isi_bool_bool {i : Bool} : isiD "bool" (.bool i) = .ok (.bool true) := isi_of (by show kitB "bool" "bool" = _; decide +kernel)
theorem isi_tup_tup {ds : List D} : isiD "tuple" (.tuple ds) = .ok (.bool true) := isi_of (by show kitB "tuple" "tuple" = _; decide +kernel)
/-! ### ranges, walks -/
def rngD (n : Nat) : List D := (List.range n).map fun (i : Nat) => PyData.int (i : Int)
theorem itRng1_ok {j : Int} (h1 : j ≤ 1000000) (h0 : -1000000 ≤ j) : itRng1 [.int j] = .ok (rngD j.toNat) := by
  unfold itRng1
  dsimp only
  rw [if_pos ⟨h0, h1⟩]
  unfold rngD
  congr 1
  apply List.map_congr_left
  intro i _
  rw [Int.zero_add]
theorem valI_rng1 {F : Fns} {env : SE} {ws : Es} {j : Int} (h : evEs F ws (fullE env) = .ok [.int j]) (h1 : j ≤ 1000000) (h0 : -1000000 ≤ j) : valI F env .rng1 ws = .ok (rngD j.toNat) := by
  unfold valI evI
  rw [h, R.bind_ok]
  exact itRng1_ok h1 h0
theorem evI_rng1 {F : Fns} {env : Env} {ws : Es} {j : Int} (h : evEs F ws env = .ok [.int j]) (h1 : j ≤ 1000000) (h0 : -1000000 ≤ j) : ((evEs F ws env).bind fun ds => iters .rng1 ds) = .ok (rngD j.toNat) := by
  rw [h, R.bind_ok]
  exact itRng1_ok h1 h0
theorem rngD_length {n : Nat} : (rngD n).length = n := by simp [rngD]
theorem rngD_get {n i : Nat} {x : D} (h : (rngD n)[i]? = some x) : x = .int (i : Int) ∧ i < n := by
  unfold rngD at h
  rw [List.getElem?_map] at h
  by_cases hi : i < n
  · rw [List.getElem?_range hi] at h
    exact ⟨(Option.some.inj h).symm, hi⟩
  · rw [List.getElem?_eq_none (by simp; omega)] at h
    cases h
theorem tgS_nm {i : Nat} {d : D} {env : SE} : tgS (.nm i) d env = some (env.set i (.fr d)) := rfl
theorem lcD_map {α : Type} {f : D → R (Option D)} {enc : α → D} {g : α → D} {xs : List α} (h : ∀ x ∈ xs, f (enc x) = .ok (some (g x))) (l : xs.length ≤ 1000000) : lcD f (xs.map enc) = .ok (.list (xs.map g)) := by
  have key : ∀ ys : List α, (∀ x ∈ ys, f (enc x) = .ok (some (g x))) → compL f (ys.map enc) = .ok (ys.map g) := by
    intro ys
    induction ys with
    | nil => intro _; rfl
    | cons y ys ih =>
      intro h
      rw [List.map_cons, compL, h y List.mem_cons_self, R.bind_ok, ih fun x hx => h x (List.mem_cons_of_mem _ hx), R.bind_ok]
      rfl
  unfold lcD
  rw [if_pos (by rw [List.length_map]; exact l), key xs h]
  rfl
theorem compL_map {α : Type} {f : D → R (Option D)} {enc : α → D} (g : α → D) {xs : List α} (h : ∀ x ∈ xs, f (enc x) = .ok (some (g x))) : compL f (xs.map enc) = .ok (xs.map g) := by
  induction xs with
  | nil => rfl
  | cons y ys ih =>
    rw [List.map_cons, compL, h y List.mem_cons_self, R.bind_ok, ih fun x hx => h x (List.mem_cons_of_mem _ hx), R.bind_ok]
    rfl
theorem lfrees_map {α : Type} {g : α → D} (h : ∀ x, lfree (g x) = true) {xs : List α} : lfrees (xs.map g) = true := by
  induction xs with
  | nil => exact lfrees_nil
  | cons y ys ih => rw [List.map_cons, lfrees_cons, h, ih]; rfl
theorem asg_tp2 {i j : Nat} {a b : D} {env : Env} : (Tg.tp [i, j]).asg (.tuple [a, b]) env = .ok ((env.set i (some a)).set j (some b)) := rfl
theorem asg_tp3 {i j k : Nat} {a b c : D} {env : Env} : (Tg.tp [i, j, k]).asg (.tuple [a, b, c]) env = .ok (((env.set i (some a)).set j (some b)).set k (some c)) := rfl
theorem asg_tp4 {i j k l : Nat} {a b c d : D} {env : Env} : (Tg.tp [i, j, k, l]).asg (.tuple [a, b, c, d]) env = .ok ((((env.set i (some a)).set j (some b)).set k (some c)).set l (some d)) := rfl
theorem ite_okB {c : Prop} [Decidable c] {x y : Bool} : (if c then R.ok (PyData.bool x) else R.ok (PyData.bool y)) = R.ok (PyData.bool (if c then x else y)) := by split <;> rfl
/-! comprehensions, walks over written rows -/
theorem iters_list {ds : List D} : iters .seq [.list ds] = .ok ds := rfl
theorem iters_tup {ds : List D} : iters .seq [.tuple ds] = .ok ds := rfl
theorem iters_enum {ds : List D} : iters .enum [.list ds] = .ok (ds.zipIdx.map fun p => pairD (.int (p.2 : Nat)) p.1) := rfl
theorem iters_enumT {ds : List D} : iters .enum [.tuple ds] = .ok (ds.zipIdx.map fun p => pairD (.int (p.2 : Nat)) p.1) := rfl
theorem enumR {f : Nat → D} {n : Nat} : (((List.range n).map f).zipIdx.map fun p => pairD (.int (p.2 : Nat)) p.1) = (List.range n).map fun (i : Nat) => pairD (.int (i : Int)) (f i) := by
  refine List.ext_getElem (by simp) fun i h1 h2 => ?_
  simp
theorem iters_rng1 {j : Int} (h1 : j ≤ 1000000) (h0 : -1000000 ≤ j) : iters .rng1 [.int j] = .ok (rngD j.toNat) := itRng1_ok h1 h0
theorem asg_nm {i : Nat} {d : D} {env : Env} : (Tg.nm i).asg d env = .ok (env.set i (some d)) := rfl
theorem wipe_nil {env : Env} : wipeE env [] = env := rfl
theorem wipe_cons {env : Env} {v : Nat} {vs : List Nat} : wipeE env (v :: vs) = (wipeE env vs).set v none := rfl
theorem tst_nil : tstD [] = .ok true := rfl
theorem tst_one {b : Bool} : tstD [.bool b] = .ok b := rfl
theorem noX_ok {α : Type} {a : α} : noX (R.ok a) = .ok a := rfl
theorem lcD_lit {f : D → R (Option D)} {items : List D} (h : items.length ≤ 1000000) : lcD f items = (compL f items).bind fun ds => .ok (.list ds) := if_pos h
theorem compL_nil {f : D → R (Option D)} : compL f [] = .ok [] := rfl
theorem compL_cons {f : D → R (Option D)} {x : D} {xs : List D} : compL f (x :: xs) = (f x).bind fun o => (compL f xs).bind fun r => .ok (o.toList ++ r) := rfl
theorem rngD_3 : rngD 3 = [.int 0, .int 1, .int 2] := rfl
theorem rngD_4 : rngD 4 = [.int 0, .int 1, .int 2, .int 3] := rfl
def optB : Option (List Bool) → R D
  | some bs => .ok (.bool (bs.all id))
  | none => .stuck
theorem optB_some {bs : List Bool} : optB (some bs) = .ok (.bool (bs.all id)) := rfl
theorem bi_allE {ds : List D} : bi .all [.list ds] = optB (boolsD ds) := by
  show (match boolsD ds with
    | some ns => R.ok (PyData.bool (ns.all id))
    | none => .stuck) = _
  cases boolsD ds <;> rfl
theorem boolsD_nil : boolsD [] = some [] := rfl
theorem boolsD_cons {b : Bool} {ds : List D} : boolsD (.bool b :: ds) = (boolsD ds).map (b :: ·) := rfl
def optI : (List Int → R D) → Option (List Int) → R D
  | f, some bs => f bs
  | _, none => .stuck
theorem optI_some {f : List Int → R D} {bs : List Int} : optI f (some bs) = f bs := rfl
theorem bi_sumE {ds : List D} : bi .sum [.list ds] = optI (fun ns => .ok (.int ns.sum)) (intsD ds) := by
  show (match intsD ds with
    | some ns => R.ok (PyData.int ns.sum)
    | none => .stuck) = _
  cases intsD ds <;> rfl
theorem intsD_nil : intsD [] = some [] := rfl
theorem intsD_cons {b : Int} {ds : List D} : intsD (.int b :: ds) = (intsD ds).map (b :: ·) := rfl
/-- a loop over told items, by what holds behind a part of them -/
theorem LP_map {F : Fns} {tg : Tg} {b : Ss} {Q : Pst} {α : Type} {enc : α → D} {all : List α} (P : List α → SE → Prop)
    (step : ∀ pre x post e, all = pre ++ x :: post → P pre e → ∃ e', tgS tg (enc x) e = some e' ∧ WB F b e' (Q.lp (P (pre ++ [x])))) (fin : ∀ e, P all e → Q.nx e) :
    ∀ {xs pre : List α} {env : SE}, all = pre ++ xs → P pre env → LP F tg b (xs.map enc) env Q
  | [], pre, env, e, h => by
    rw [List.append_nil] at e
    subst e
    exact fin env h
  | x :: xs, pre, env, e, h => by
    obtain ⟨e', ht, hb⟩ := step pre x xs env e h
    unfold LP
    rw [List.map_cons, loopF]
    unfold tgRun
    rw [ht]
    have rest : ∀ e2, P (pre ++ [x]) e2 → (loopF (fun x e => tgRun tg x e fun e' => exSs F fuel b e') (xs.map enc) e2).sat Q := fun e2 he => LP_map P step fin (xs := xs) (by rw [e, List.append_assoc]; rfl) he
    unfold WB at hb
    dsimp only
    cases q : exSs F fuel b e' with
    | stuck => rw [q] at hb; exact hb
    | nx e2 => rw [q] at hb; exact rest e2 hb
    | ct e2 => rw [q] at hb; exact rest e2 hb
    | bk e2 => rw [q] at hb; exact hb
    | rt d => rw [q] at hb; exact hb
    | ex c p e2 => rw [q] at hb; exact hb
theorem valI_list {F : Fns} {env : SE} {e : E} {ds : List D} (h : evE F e (cleanE env) = .ok (.list ds)) : valI F env .seq (.cons e .nil) = .ok ds := by
  show (evEs F (.cons e .nil) (cleanE env)).bind (iters .seq) = _
  rw [evEs, h, R.bind_ok, evEs, R.bind_ok, R.bind_ok]
  rfl
theorem valI_tup {F : Fns} {env : SE} {e : E} {ds : List D} (h : evE F e (cleanE env) = .ok (.tuple ds)) : valI F env .seq (.cons e .nil) = .ok ds := by
  show (evEs F (.cons e .nil) (cleanE env)).bind (iters .seq) = _
  rw [evEs, h, R.bind_ok, evEs, R.bind_ok, R.bind_ok]
  rfl
/-! lists of one's own -/
theorem newS_def {F : Fns} {env : SE} {e : E} : newS F env e = ((evE F e (fullE env)).bind lsOf).bind fun ds => if (lfrees ds || noOwn env) = true then .ok ds else (evE F e (cleanE env)).bind lsOf := rfl
theorem lsOf_list {ds : List D} : lsOf (.list ds) = .ok ds := rfl
theorem ownAt_zero {ds : List D} {env : SE} : ownAt (.ow ds :: env) 0 = some ds := rfl
theorem ownAt_succ {s : Sl} {env : SE} {i : Nat} : ownAt (s :: env) (i + 1) = ownAt env i := rfl
def Pst.appk (Q : Pst) (env : SE) (i : Nat) (ds : List D) : D → Prop := fun d => ds.length < 1000000 ∧ Q.nx (env.set i (.ow (ds ++ [d])))
theorem appk_app {Q : Pst} {env : SE} {i : Nat} {ds : List D} {d : D} : Q.appk env i ds d = (ds.length < 1000000 ∧ Q.nx (env.set i (.ow (ds ++ [d])))) := rfl
def APP (Q : Pst) (env : SE) (i : Nat) (r : R D) : Option (List D) → Prop
  | some ds => RP r (Q.appk env i ds) (Q.exk env)
  | none => False
theorem APP_some {Q : Pst} {env : SE} {i : Nat} {r : R D} {ds : List D} : APP Q env i r (some ds) = RP r (Q.appk env i ds) (Q.exk env) := rfl
theorem WS_appE {F : Fns} {i : Nat} {e : E} {env : SE} {Q : Pst} : WS F (.app i e) env Q = APP Q env i (valS F env e) (ownAt env i) := by
  rw [WS_app]
  cases h : env[i]? with
  | none =>
    have e1 : appS env i (valS F env e) = .stuck := by unfold appS; rw [h]
    have e2 : ownAt env i = none := by unfold ownAt; rw [h]
    rw [e1, e2]
    rfl
  | some s =>
    cases s with
    | un =>
      have e1 : appS env i (valS F env e) = .stuck := by unfold appS; rw [h]
      have e2 : ownAt env i = none := by unfold ownAt; rw [h]
      rw [e1, e2]
      rfl
    | fr d =>
      have e1 : appS env i (valS F env e) = .stuck := by unfold appS; rw [h]
      have e2 : ownAt env i = none := by unfold ownAt; rw [h]
      rw [e1, e2]
      rfl
    | ow ds =>
      have e2 : ownAt env i = some ds := by unfold ownAt; rw [h]
      rw [e2, APP_some]
      cases q : valS F env e with
      | stuck =>
        have e1 : appS env i (.stuck) = .stuck := by unfold appS; rw [h]; rfl
        rw [e1]
        rfl
      | exc c p =>
        have e1 : appS env i (.exc c p) = .ex c p env := by unfold appS; rw [h]; rfl
        rw [e1]
        rfl
      | ok d =>
        rw [RP_ok, appk_app]
        by_cases hl : ds.length < 1000000
        · rw [appS_ok h hl]
          simp only [hl, true_and]
          rfl
        · have e1 : appS env i (.ok d) = .stuck := by
            unfold appS
            rw [h]
            show (if ds.length < 1000000 then _ else _) = _
            rw [if_neg hl]
          rw [e1]
          simp only [hl, false_and]
          rfl
theorem fmod_two (m : Int) : m.fmod 2 = 0 ∨ m.fmod 2 = 1 := by
  have h0 := Int.fmod_nonneg_of_pos m (show (0 : Int) < 2 by decide)
  have h1 := Int.fmod_lt_of_pos m (show (0 : Int) < 2 by decide)
  omega
theorem fmod_three (m : Int) : m.fmod 3 = 0 ∨ m.fmod 3 = 1 ∨ m.fmod 3 = 2 := by
  have h0 := Int.fmod_nonneg_of_pos m (show (0 : Int) < 3 by decide)
  have h1 := Int.fmod_lt_of_pos m (show (0 : Int) < 3 by decide)
  omega
theorem bi_listL {ds : List D} : bi .list [.list ds] = .ok (.list ds) := rfl
theorem bi_listT {ds : List D} : bi .list [.tuple ds] = .ok (.list ds) := rfl
theorem bi_tupL {ds : List D} : bi .tuple [.list ds] = .ok (.tuple ds) := rfl
/-! nothing but going on -/
def Pst.only (P : SE → Prop) : Pst := ⟨P, fun _ => False, fun _ => False, fun _ => False, fun _ _ _ => False⟩
def Pst.onlyL (P : SE → Prop) : Pst := ⟨P, fun _ => False, fun _ => False, P, fun _ _ _ => False⟩
theorem only_nx {P : SE → Prop} {e : SE} : (Pst.only P).nx e = P e := rfl
theorem only_rt {P : SE → Prop} {d : D} : (Pst.only P).rt d = False := rfl
theorem only_bk {P : SE → Prop} {e : SE} : (Pst.only P).bk e = False := rfl
theorem only_ct {P : SE → Prop} {e : SE} : (Pst.only P).ct e = False := rfl
theorem only_ex {P : SE → Prop} {c : Nat} {p : Option Int} {e : SE} : (Pst.only P).ex c p e = False := rfl
theorem onlyL_nx {P : SE → Prop} {e : SE} : (Pst.onlyL P).nx e = P e := rfl
theorem onlyL_rt {P : SE → Prop} {d : D} : (Pst.onlyL P).rt d = False := rfl
theorem onlyL_bk {P : SE → Prop} {e : SE} : (Pst.onlyL P).bk e = False := rfl
theorem onlyL_ct {P : SE → Prop} {e : SE} : (Pst.onlyL P).ct e = P e := rfl
theorem onlyL_ex {P : SE → Prop} {c : Nat} {p : Option Int} {e : SE} : (Pst.onlyL P).ex c p e = False := rfl
theorem WS_only {F : Fns} {s : S} {env : SE} {Q : Pst} {P : SE → Prop} (h : WS F s env (Pst.only P)) (k : ∀ e, P e → Q.nx e) : WS F s env Q := Rs.sat_imp h k (fun _ h => h.elim) (fun _ h => h.elim) (fun _ h => h.elim) (fun _ _ _ h => h.elim)
theorem WB_only {F : Fns} {s : Ss} {env : SE} {Q : Pst} {P : SE → Prop} (h : WB F s env (Pst.only P)) (k : ∀ e, P e → Q.nx e) : WB F s env Q := Rs.sat_imp h k (fun _ h => h.elim) (fun _ h => h.elim) (fun _ h => h.elim) (fun _ _ _ h => h.elim)
theorem WB_onlyL {F : Fns} {s : Ss} {env : SE} {Q : Pst} {P : SE → Prop} (h : WB F s env (Pst.onlyL P)) : WB F s env (Q.lp P) := Rs.sat_imp h (fun _ h => h) (fun _ h => h.elim) (fun _ h => h.elim) (fun _ h => h) (fun _ _ _ h => h.elim)
/-- for x in range(n), the body always goes on -/
theorem LP_rng {F : Fns} {v : Nat} {b : Ss} {Q : Pst} {env : SE} {n : Nat} (P : Nat → SE → Prop) (h0 : P 0 env) (step : ∀ i e, i < n → P i e → WB F b (e.set v (.fr (.int (i : Int)))) (Pst.onlyL (P (i + 1)))) (fin : ∀ e, P n e → Q.nx e) : LP F (.nm v) b (rngD n) env Q := by
  refine LP_inv P 0 h0 (fun i x e hx hp => ?_) (fun e he => fin e (by rw [rngD_length, Nat.zero_add] at he; exact he))
  rw [Nat.zero_add] at hp ⊢
  obtain ⟨rfl, hi⟩ := rngD_get hx
  exact ⟨_, tgS_nm, WB_onlyL (step i e hi hp)⟩
/-- for x in a told list, the body always goes on -/
theorem LP_list {F : Fns} {v : Nat} {b : Ss} {Q : Pst} {env : SE} {α : Type} {enc : α → D} {xs : List α} (P : List α → SE → Prop) (h0 : P [] env)
    (step : ∀ pre x post e, xs = pre ++ x :: post → P pre e → WB F b (e.set v (.fr (enc x))) (Pst.onlyL (P (pre ++ [x])))) (fin : ∀ e, P xs e → Q.nx e) : LP F (.nm v) b (xs.map enc) env Q :=
  LP_map (all := xs) P (fun pre x post e he hp => ⟨_, tgS_nm, WB_onlyL (step pre x post e he hp)⟩) fin (pre := []) rfl h0
/-! walks: what is walked, written rows turn by turn -/
theorem valI_rng1E {F : Fns} {env : SE} {ws : Es} : valI F env .rng1 ws = (evEs F ws (fullE env)).bind (iters .rng1) := rfl
theorem valI_rng2E {F : Fns} {env : SE} {ws : Es} : valI F env .rng2 ws = (evEs F ws (fullE env)).bind (iters .rng2) := rfl
theorem valI_seqE {F : Fns} {env : SE} {ws : Es} : valI F env .seq ws = (evEs F ws (cleanE env)).bind (iters .seq) := rfl
theorem valI_enumE {F : Fns} {env : SE} {ws : Es} : valI F env .enum ws = (evEs F ws (cleanE env)).bind (iters .enum) := rfl
theorem valI_zipE {F : Fns} {env : SE} {ws : Es} : valI F env .zip ws = (evEs F ws (cleanE env)).bind (iters .zip) := rfl
theorem bind_iters {w : Wk} {r : R (List D)} : (r.bind fun ds => iters w ds) = r.bind (iters w) := rfl
def Pst.lpc (Q : Pst) (F : Fns) (tg : Tg) (b : Ss) (xs : List D) : Pst := Q.lp fun e => LP F tg b xs e Q
theorem lpc_nx {Q : Pst} {F : Fns} {tg : Tg} {b : Ss} {xs : List D} {e : SE} : (Q.lpc F tg b xs).nx e = LP F tg b xs e Q := rfl
theorem lpc_ct {Q : Pst} {F : Fns} {tg : Tg} {b : Ss} {xs : List D} {e : SE} : (Q.lpc F tg b xs).ct e = LP F tg b xs e Q := rfl
theorem lpc_bk {Q : Pst} {F : Fns} {tg : Tg} {b : Ss} {xs : List D} {e : SE} : (Q.lpc F tg b xs).bk e = Q.nx e := rfl
theorem lpc_rt {Q : Pst} {F : Fns} {tg : Tg} {b : Ss} {xs : List D} {d : D} : (Q.lpc F tg b xs).rt d = Q.rt d := rfl
theorem lpc_ex {Q : Pst} {F : Fns} {tg : Tg} {b : Ss} {xs : List D} {c : Nat} {p : Option Int} {e : SE} : (Q.lpc F tg b xs).ex c p e = Q.ex c p e := rfl
theorem LP_cons_nm {F : Fns} {v : Nat} {b : Ss} {x : D} {xs : List D} {env : SE} {Q : Pst} : LP F (.nm v) b (x :: xs) env Q = WB F b (env.set v (.fr x)) (Q.lpc F (.nm v) b xs) := by
  unfold LP WB
  rw [loopF]
  show (match exSs F fuel b (env.set v (.fr x)) with
    | .nx e => loopF (fun x e => tgRun (.nm v) x e fun e' => exSs F fuel b e') xs e
    | .ct e => loopF (fun x e => tgRun (.nm v) x e fun e' => exSs F fuel b e') xs e
    | .bk e => .nx e
    | r => r).sat Q = _
  cases exSs F fuel b (env.set v (.fr x)) <;> rfl
theorem LP_nilE {F : Fns} {tg : Tg} {b : Ss} {env : SE} {Q : Pst} : LP F tg b [] env Q = Q.nx env := rfl
/-- a comprehension over what is told -/
theorem lc_map {α : Type} {f : D → R (Option D)} {enc : α → D} {g : α → D} {xs : List α} (h : ∀ x ∈ xs, f (enc x) = .ok (some (g x))) (l : xs.length ≤ 1000000) : lcD f (xs.map enc) = .ok (.list (xs.map g)) := lcD_map h l
theorem iters_rng2_13 : iters .rng2 [.int 1, .int 3] = .ok [.int 1, .int 2] := rfl
theorem iters_rng2_23 : iters .rng2 [.int 2, .int 3] = .ok [.int 2] := rfl
theorem iters_rng2_33 : iters .rng2 [.int 3, .int 3] = .ok [] := rfl
theorem rngD_0 : rngD 0 = [] := rfl
theorem rngD_1 : rngD 1 = [.int 0] := rfl
theorem rngD_2 : rngD 2 = [.int 0, .int 1] := rfl
theorem ix_map {α : Type} {enc : α → D} {xs : List α} {i : Int} (h0 : 0 ≤ i) (h1 : i < xs.length) : ∃ x ∈ xs, ixop (.list (xs.map enc)) (.int i) = .ok (enc x) := by
  obtain ⟨n, rfl⟩ := Int.eq_ofNat_of_zero_le h0
  have hn : n < xs.length := by omega
  refine ⟨xs[n], List.getElem_mem hn, ix_list ?_⟩
  rw [atI_nat, List.getElem?_map, List.getElem?_eq_getElem hn]
  rfl
def maxL : List Int → R D
  | n :: ns => .ok (.int (maxI n ns))
  | [] => .stuck
theorem maxL_cons {n : Int} {ns : List Int} : maxL (n :: ns) = .ok (.int (maxI n ns)) := rfl
theorem bi_max1E {ds : List D} : bi .max1 [.list ds] = optI maxL (intsD ds) := by
  show (match intsD ds with
    | some (n :: ns) => R.ok (PyData.int (maxI n ns))
    | _ => .stuck) = _
  cases intsD ds with
  | none => rfl
  | some l => cases l <;> rfl
theorem cop_ne_nil {n : Nat} {ds : List D} (h : pl n (.list ds) = true) (l : n ≤ 64 := by decide) : cop .ne (.list ds) (.list []) = .ok (.bool (!decide (ds = []))) :=
  cop_neP h (by cases n with | zero => simp [pl] at h | succ n => rw [pl_list, pls_nil]) (by simp) l
theorem cop_eq_nil {n : Nat} {ds : List D} (h : pl n (.list ds) = true) (l : n ≤ 64 := by decide) : cop .eq (.list ds) (.list []) = .ok (.bool (decide (ds = []))) :=
  cop_eqP h (by cases n with | zero => simp [pl] at h | succ n => rw [pl_list, pls_nil]) (by simp) l
/-! slices that are written -/
theorem partD_nil : partD [] = .ok none := rfl
theorem partD_one {i : Int} : partD [.int i] = .ok (some i) := rfl
theorem slop_T4_3 {a b c d : D} : slop (.tuple [a, b, c, d]) none (some 3) = .ok (.tuple [a, b, c]) := rfl
theorem slop_L4_3 {a b c d : D} : slop (.list [a, b, c, d]) none (some 3) = .ok (.list [a, b, c]) := rfl
theorem cop_eqL3 {a b c a' b' c' : Int} : cop .eq (.list [.int a, .int b, .int c]) (.list [.int a', .int b', .int c']) = .ok (.bool (decide (a = a' ∧ b = b' ∧ c = c'))) :=
  cop_eqP (n := 1) (by simp only [pl_list, pls_cons, pls_nil, pl_int, Bool.and_self]) (by simp only [pl_list, pls_cons, pls_nil, pl_int, Bool.and_self]) (by simp)
theorem cop_eqL1n {a : Int} : cop .eq (.list [.int a]) (.list []) = .ok (.bool false) := cop_eqP (n := 1) (p := False) (by simp only [pl_list, pls_cons, pls_nil, pl_int, Bool.and_self]) (by simp only [pl_list, pls_nil]) (by simp)
theorem cop_eqL2n {a b : Int} : cop .eq (.list [.int a, .int b]) (.list []) = .ok (.bool false) := cop_eqP (n := 1) (p := False) (by simp only [pl_list, pls_cons, pls_nil, pl_int, Bool.and_self]) (by simp only [pl_list, pls_nil]) (by simp)
theorem cop_eqL3n {a b c : Int} : cop .eq (.list [.int a, .int b, .int c]) (.list []) = .ok (.bool false) := cop_eqP (n := 1) (p := False) (by simp only [pl_list, pls_cons, pls_nil, pl_int, Bool.and_self]) (by simp only [pl_list, pls_nil]) (by simp)
/-! x[k] = e on a list of one's own -/
def Pst.stk2 (Q : Pst) (env : SE) (i : Nat) (ds : List D) (d : D) : D → Prop := fun k => (stK env i ds d k).sat Q
def Pst.stk1 (Q : Pst) (F : Fns) (env : SE) (i : Nat) (ds : List D) (x : E) : D → Prop := fun d => RP (evE F x (fullE env)) (Q.stk2 env i ds d) (Q.exk env)
def STI (Q : Pst) (F : Fns) (env : SE) (i : Nat) (x : E) (r : R D) : Option (List D) → Prop
  | some ds => RP r (Q.stk1 F env i ds x) (Q.exk env)
  | none => False
theorem STI_some {Q : Pst} {F : Fns} {env : SE} {i : Nat} {x : E} {r : R D} {ds : List D} : STI Q F env i x r (some ds) = RP r (Q.stk1 F env i ds x) (Q.exk env) := rfl
theorem stk1_app {Q : Pst} {F : Fns} {env : SE} {i : Nat} {ds : List D} {x : E} {d : D} : Q.stk1 F env i ds x d = RP (evE F x (fullE env)) (Q.stk2 env i ds d) (Q.exk env) := rfl
theorem stk2_app {Q : Pst} {env : SE} {i : Nat} {ds : List D} {d : D} {k : Int} (h0 : 0 ≤ k) (h1 : k < ds.length) : Q.stk2 env i ds d (.int k) = Q.nx (env.set i (.ow (ds.set k.toNat d))) := by
  unfold Pst.stk2 stK
  dsimp only
  have e : ixN ds.length k = some k.toNat := by
    unfold ixN
    rw [if_pos h0, if_pos h1]
  rw [e]
  rfl
theorem WS_stI {F : Fns} {i : Nat} {x e : E} {env : SE} {Q : Pst} : WS F (.stI i x e) env Q = STI Q F env i x (valS F env e) (ownAt env i) := by
  unfold WS
  rw [exS]
  unfold withOw
  cases ownAt env i with
  | none => rfl
  | some ds =>
    dsimp only
    rw [sat_toS, STI_some]
    congr 1
    funext d
    rw [sat_toS]
    rfl
theorem stL_zero {α : Type} {a b : α} {l : List α} : (a :: l).set 0 b = b :: l := rfl
theorem stL_succ {α : Type} {a b : α} {l : List α} {n : Nat} : (a :: l).set (n + 1) b = a :: l.set n b := rfl
theorem cop_neL2 {a b a' b' : Int} : cop .ne (.list [.int a, .int b]) (.list [.int a', .int b']) = .ok (.bool (!decide (a = a' ∧ b = b'))) :=
  cop_neP (n := 1) (by simp only [pl_list, pls_cons, pls_nil, pl_int, Bool.and_self]) (by simp only [pl_list, pls_cons, pls_nil, pl_int, Bool.and_self]) (by simp)
theorem rngD_5 : rngD 5 = [.int 0, .int 1, .int 2, .int 3, .int 4] := rfl
/-! xs[:k] = [..] on a list of one's own -/
def Pst.sts2 (Q : Pst) (env : SE) (i : Nat) (ds es : List D) : D → Prop := fun k => (stSK env i ds es k).sat Q
def Pst.sts1 (Q : Pst) (F : Fns) (env : SE) (i : Nat) (ds : List D) (x : E) : List D → Prop := fun es => if lfrees es = true then RP (evE F x (fullE env)) (Q.sts2 env i ds es) (Q.exk env) else False
def STS (Q : Pst) (F : Fns) (env : SE) (i : Nat) (x : E) (r : R (List D)) : Option (List D) → Prop
  | some ds => RP r (Q.sts1 F env i ds x) (Q.exk env)
  | none => False
theorem STS_some {Q : Pst} {F : Fns} {env : SE} {i : Nat} {x : E} {r : R (List D)} {ds : List D} : STS Q F env i x r (some ds) = RP r (Q.sts1 F env i ds x) (Q.exk env) := rfl
theorem sts1_app {Q : Pst} {F : Fns} {env : SE} {i : Nat} {ds es : List D} {x : E} : Q.sts1 F env i ds x es = if lfrees es = true then RP (evE F x (fullE env)) (Q.sts2 env i ds es) (Q.exk env) else False := rfl
theorem sts2_app {Q : Pst} {env : SE} {i : Nat} {ds es : List D} {k : Int} (h0 : 0 ≤ k) (h1 : k ≤ ds.length) (h2 : ds.length + es.length ≤ 1000000) : Q.sts2 env i ds es (.int k) = Q.nx (env.set i (.ow (es ++ ds.drop k.toNat))) := by
  unfold Pst.sts2 stSK
  dsimp only
  rw [if_pos ⟨h0, h1, h2⟩]
  rfl
theorem WS_stS {F : Fns} {i : Nat} {x e : E} {env : SE} {Q : Pst} : WS F (.stS i x e) env Q = STS Q F env i x ((evE F e (fullE env)).bind lsOf) (ownAt env i) := by
  unfold WS
  rw [exS]
  unfold withOw
  cases ownAt env i with
  | none => rfl
  | some ds =>
    dsimp only
    rw [sat_toS, STS_some]
    congr 1
    funext es
    unfold Pst.sts1
    by_cases h : lfrees es = true
    · rw [if_pos h, if_pos h, sat_toS]
      rfl
    · rw [if_neg h, if_neg h]
      rfl
end Bs

namespace Bs
open PySem PySem.Spec L2
open PyProof.Rows hiding St

/-! ### drawing from a pool, rule by rule -/
def PP (r : R (D × SE)) (f : D → SE → Prop) : Prop := match r with
  | .ok p => f p.1 p.2
  | _ => False
theorem PP_ok {d : D} {e : SE} {f : D → SE → Prop} : PP (.ok (d, e)) f = f d e := rfl
def Pst.setpk (Q : Pst) (i : Nat) : D → SE → Prop := fun d e => Q.nx (e.set i (.fr d))
def retpo (Q : Pst) (d : D) : Option (List D) → Prop
  | some ps => Q.rt (pairD d (.list ps))
  | none => False
def Pst.retpk (Q : Pst) (k : Nat) : D → SE → Prop := fun d e => retpo Q d (ownAt e k)
def Pst.ifpk (Q : Pst) (F : Fns) (a b : Ss) : D → SE → Prop
  | .bool k, e => (k = true → WB F a e Q) ∧ (k = false → WB F b e Q)
  | _, _ => False
theorem setpk_app {Q : Pst} {i : Nat} {d : D} {e : SE} : Q.setpk i d e = Q.nx (e.set i (.fr d)) := rfl
theorem retpk_app {Q : Pst} {k : Nat} {d : D} {e : SE} : Q.retpk k d e = retpo Q d (ownAt e k) := rfl
theorem retpo_some {Q : Pst} {d : D} {ps : List D} : retpo Q d (some ps) = Q.rt (pairD d (.list ps)) := rfl
theorem ifpk_app {Q : Pst} {F : Fns} {a b : Ss} {k : Bool} {e : SE} : Q.ifpk F a b (.bool k) e = ((k = true → WB F a e Q) ∧ (k = false → WB F b e Q)) := rfl
section
variable {F : Fns} {env : SE} {Q : Pst}
theorem WS_setP {i : Nat} {e : EP} : WS F (.setP i e) env Q = PP (evP F e env) (Q.setpk i) := by
  unfold WS
  rw [exS]
  cases evP F e env <;> rfl
theorem WS_retP {k : Nat} {e : EP} : WS F (.retP k e) env Q = PP (evP F e env) (Q.retpk k) := by
  unfold WS
  rw [exS]
  cases evP F e env with
  | ok p =>
    show (retP1 p.1 (ownAt p.2 k)).sat Q = retpo Q p.1 (ownAt p.2 k)
    cases ownAt p.2 k <;> rfl
  | _ => rfl
theorem WS_retPN {k : Nat} : WS F (.retPN k) env Q = retpo Q .none (ownAt env k) := by
  unfold WS
  rw [exS]
  cases ownAt env k <;> rfl
theorem WS_iffP {c : EP} {a b : Ss} : WS F (.iffP c a b) env Q = PP (evP F c env) (Q.ifpk F a b) := by
  unfold WS
  rw [exS]
  cases evP F c env with
  | ok p =>
    obtain ⟨d, e⟩ := p
    cases d <;> try rfl
    rename_i k
    cases k
    · show (exSs F fuel b e).sat Q = ((false = true → _) ∧ (false = false → _))
      simp [WB]
    · show (exSs F fuel a e).sat Q = ((true = true → _) ∧ (true = false → _))
      simp [WB]
  | _ => rfl
end
theorem poolC_some {f : List D → R D} {env : SE} {i : Nat} {ds es ps : List D} : poolC f env i ds es (some ps) = (noX (f (ds ++ .list ps :: es))).bind (poolR env i) := rfl
theorem poolR_pair {env : SE} {i : Nat} {d : D} {ps : List D} : poolR env i (pairD d (.list ps)) = .ok (d, env.set i (.ow ps)) := rfl
theorem poolO_some {f : List D → R D} {env : SE} {i : Nat} {es ps : List D} : poolO f env i es (some ps) = (noX (f (.list ps :: es))).bind (poolL env i) := rfl
theorem poolL_tup {env : SE} {i : Nat} {d : D} {ps : List D} : poolL env i (.tuple [d, .list ps]) = if (lfree d && lfrees ps) = true then .ok (d, env.set i (.ow ps)) else .stuck := rfl
theorem poolL_pair {env : SE} {i : Nat} {d : D} {ps : List D} : poolL env i (pairD d (.list ps)) = if (lfree d && lfrees ps) = true then .ok (d, env.set i (.ow ps)) else .stuck := rfl
theorem seeE_zero {s : Sl} {env : SE} : seeE (s :: env) 0 = none :: fullE env := rfl
theorem seeE_succ {s : Sl} {env : SE} {i : Nat} : seeE (s :: env) (i + 1) = s.full :: seeE env i := rfl
theorem poolR_tup {env : SE} {i : Nat} {d : D} {ps : List D} : poolR env i (.tuple [d, .list ps]) = .ok (d, env.set i (.ow ps)) := rfl
theorem compP_nil {f : D → SE → R (D × SE)} {env : SE} : compP f [] env = .ok ([], env) := rfl
theorem compP_cons {f : D → SE → R (D × SE)} {x : D} {xs : List D} {env : SE} : compP f (x :: xs) env = (f x env).bind fun p => (compP f xs p.2).bind fun q => .ok (p.1 :: q.1, q.2) := rfl
theorem turnP_nm {i : Nat} {vs : List Nat} {f : SE → R (D × SE)} {x : D} {env : SE} : turnP (.nm i) vs f x env = (f (env.set i (.fr x))).bind fun p => .ok (p.1, wipeS p.2 vs) := rfl
theorem wipeS_nil {env : SE} : wipeS env [] = env := rfl
theorem wipeS_cons {env : SE} {v : Nat} {vs : List Nat} : wipeS env (v :: vs) = (wipeS env vs).set v .un := rfl
theorem denP_of (P : R D → Prop) {F : Fns} {n k : Nat} {m : Ss} {ds ps : List D} (hk : ds[k]? = some (.list ps)) (h : WB F m ((startS n ds).set k (.ow ps)) ⟨fun _ => False, fun d => P (.ok d), fun _ => False, fun _ => False, fun _ _ _ => False⟩) : P (denP F fuel n k m ds) := by
  unfold denP
  rw [hk]
  unfold WB at h
  dsimp only
  cases q : exSs F fuel m ((startS n ds).set k (.ow ps)) with
  | rt d => rw [q] at h; exact h
  | _ => rw [q] at h; exact h.elim
theorem denP_ofN (P : R D → Prop) {F : Fns} {n k : Nat} {m : Ss} {ds ps : List D} (hk : ds[k]? = some (.list ps)) (h : WB F m ((startS n ds).set k (.ow ps)) ⟨fun e => ∃ qs, ownAt e k = some qs ∧ P (.ok (pairD .none (.list qs))), fun d => P (.ok d), fun _ => False, fun _ => False, fun _ _ _ => False⟩) : P (denP F fuel n k m ds) := by
  unfold denP
  rw [hk]
  unfold WB at h
  dsimp only
  cases q : exSs F fuel m ((startS n ds).set k (.ow ps)) with
  | rt d => rw [q] at h; exact h
  | nx e =>
    rw [q] at h
    obtain ⟨qs, h1, h2⟩ := h
    show P (poolN (ownAt e k))
    rw [h1]
    exact h2
  | _ => rw [q] at h; exact h.elim
theorem denF_of (P : R D → Prop) {F : Fns} {n : Nat} {m : Ss} {ds : List D} (h : WB F m (startS n ds) ⟨fun _ => False, fun d => P (.ok d), fun _ => False, fun _ => False, fun c p _ => P (.exc c p)⟩) : P (denF F fuel n m ds) := by
  unfold denF
  unfold WB at h
  cases q : exSs F fuel m (startS n ds) with
  | rt d => rw [q] at h; exact h
  | ex c p e => rw [q] at h; exact h
  | _ => rw [q] at h; exact h.elim

/-! ### further statements that draw -/
def PL (r : R (List D × SE)) (f : List D → SE → Prop) : Prop := match r with
  | .ok p => f p.1 p.2
  | _ => False
theorem PL_ok {d : List D} {e : SE} {f : List D → SE → Prop} : PL (.ok (d, e)) f = f d e := rfl
def Pst.unppk (Q : Pst) (is : List Nat) : D → SE → Prop := fun d e => (unpS e is d).sat Q
def apppo (Q : Pst) (e : SE) (i : Nat) (d : D) : Option (List D) → Prop
  | some ds => ds.length < 1000000 ∧ Q.nx (e.set i (.ow (ds ++ [d])))
  | none => False
def Pst.apppk (Q : Pst) (i : Nat) : D → SE → Prop := fun d e => apppo Q e i d (ownAt e i)
def Pst.lppk (Q : Pst) (F : Fns) (tg : Tg) (b : Ss) : List D → SE → Prop := fun items e => LP F tg b items e Q
def Pst.exspk (Q : Pst) : D → SE → Prop := fun _ e => Q.nx e
def Pst.retqk (Q : Pst) : D → SE → Prop := fun d _ => Q.rt d
def Pst.stipk (Q : Pst) (F : Fns) (i : Nat) (x : E) : D → SE → Prop := fun d e => STI Q F e i x (.ok d) (ownAt e i)
def inspo (Q : Pst) (e : SE) (i : Nat) (as : List D) : Option (List D) → Prop
  | some ds => (insK e i ds as).sat Q
  | none => False
def Pst.inspk (Q : Pst) (i : Nat) : List D → SE → Prop := fun as e => inspo Q e i as (ownAt e i)
def Pst.extk (Q : Pst) (env : SE) (i : Nat) (ds : List D) : List D → Prop := fun es => ds.length + es.length ≤ 1000000 ∧ Q.nx (env.set i (.ow (ds ++ es)))
def EXT (Q : Pst) (env : SE) (i : Nat) (r : R (List D)) : Option (List D) → Prop
  | some ds => RP r (Q.extk env i ds) (Q.exk env)
  | none => False
def OWN (f : List D → Prop) : Option (List D) → Prop
  | some ds => f ds
  | none => False
theorem unppk_app {Q : Pst} {is : List Nat} {d : D} {e : SE} : Q.unppk is d e = (unpS e is d).sat Q := rfl
theorem apppk_app {Q : Pst} {i : Nat} {d : D} {e : SE} : Q.apppk i d e = apppo Q e i d (ownAt e i) := rfl
theorem apppo_some {Q : Pst} {e : SE} {i : Nat} {d : D} {ds : List D} : apppo Q e i d (some ds) = (ds.length < 1000000 ∧ Q.nx (e.set i (.ow (ds ++ [d])))) := rfl
theorem lppk_app {Q : Pst} {F : Fns} {tg : Tg} {b : Ss} {items : List D} {e : SE} : Q.lppk F tg b items e = LP F tg b items e Q := rfl
theorem exspk_app {Q : Pst} {d : D} {e : SE} : Q.exspk d e = Q.nx e := rfl
theorem retqk_app {Q : Pst} {d : D} {e : SE} : Q.retqk d e = Q.rt d := rfl
theorem stipk_app {Q : Pst} {F : Fns} {i : Nat} {x : E} {d : D} {e : SE} : Q.stipk F i x d e = STI Q F e i x (.ok d) (ownAt e i) := rfl
theorem inspk_app {Q : Pst} {i : Nat} {as : List D} {e : SE} : Q.inspk i as e = inspo Q e i as (ownAt e i) := rfl
theorem inspo_some {Q : Pst} {e : SE} {i : Nat} {k : Int} {d : D} {ds : List D} : inspo Q e i [.int k, d] (some ds) = ((0 ≤ k ∧ k ≤ 1000000 ∧ ds.length ≤ 1000000) ∧ Q.nx (e.set i (.ow (ds.take k.toNat ++ [d] ++ ds.drop k.toNat)))) := by
  show (insK e i ds [.int k, d]).sat Q = _
  unfold insK
  dsimp only
  by_cases h : 0 ≤ k ∧ k ≤ 1000000 ∧ ds.length ≤ 1000000
  · rw [if_pos h]
    simp only [h, true_and, and_self]
    rfl
  · rw [if_neg h]
    simp only [h, false_and]
    rfl
theorem EXT_some {Q : Pst} {env : SE} {i : Nat} {r : R (List D)} {ds : List D} : EXT Q env i r (some ds) = RP r (Q.extk env i ds) (Q.exk env) := rfl
theorem extk_app {Q : Pst} {env : SE} {i : Nat} {ds es : List D} : Q.extk env i ds es = (ds.length + es.length ≤ 1000000 ∧ Q.nx (env.set i (.ow (ds ++ es)))) := rfl
theorem OWN_some {f : List D → Prop} {ds : List D} : OWN f (some ds) = f ds := rfl
def Pst.stqj (Q : Pst) (i : Nat) (d : D) : D → SE → Prop := fun k e => OWN (fun ds => Q.stk2 e i ds d k) (ownAt e i)
def Pst.stqk (Q : Pst) (F : Fns) (i : Nat) (x : EP) : D → SE → Prop := fun d e => if (ownAt e i).isSome = true then PP (evP F x e) (Q.stqj i d) else False
theorem stqj_app {Q : Pst} {i : Nat} {d k : D} {e : SE} : Q.stqj i d k e = OWN (fun ds => Q.stk2 e i ds d k) (ownAt e i) := rfl
theorem stqk_app {Q : Pst} {F : Fns} {i : Nat} {x : EP} {d : D} {e : SE} : Q.stqk F i x d e = if (ownAt e i).isSome = true then PP (evP F x e) (Q.stqj i d) else False := rfl
section
variable {F : Fns} {env : SE} {Q : Pst}
theorem WS_unpP {is : List Nat} {e : EP} : WS F (.unpP is e) env Q = PP (evP F e env) (Q.unppk is) := by
  unfold WS
  rw [exS]
  cases evP F e env <;> rfl
theorem appS_sat {e : SE} {i : Nat} {d : D} : (appS e i (.ok d)).sat Q = apppo Q e i d (ownAt e i) := by
  have no : ∀ s, e[i]? = s → (∀ ds, s ≠ some (.ow ds)) → (appS e i (.ok d)).sat Q = apppo Q e i d (ownAt e i) := fun s q n => by
    have e1 : appS e i (.ok d) = .stuck := by
      unfold appS
      rw [q]
      split
      · rename_i ds
        exact absurd rfl (n ds)
      · rfl
    have e2 : ownAt e i = none := by
      unfold ownAt
      rw [q]
      split
      · rename_i ds
        exact absurd rfl (n ds)
      · rfl
    rw [e1, e2]
    rfl
  cases q : e[i]? with
  | none => exact no _ q fun _ z => nomatch z
  | some x =>
    cases x with
    | un => exact no _ q fun _ z => nomatch z
    | fr _ => exact no _ q fun _ z => nomatch z
    | ow ds =>
      have e1 : appS e i (.ok d) = if ds.length < 1000000 then .nx (e.set i (.ow (ds ++ [d]))) else .stuck := by
        unfold appS
        rw [q]
        rfl
      have e2 : ownAt e i = some ds := by
        unfold ownAt
        rw [q]
      rw [e1, e2, apppo_some]
      by_cases h : ds.length < 1000000
      · rw [if_pos h]
        exact propext ⟨fun z => ⟨h, z⟩, fun z => z.2⟩
      · rw [if_neg h]
        exact propext ⟨fun z => z.elim, fun z => h z.1⟩
theorem WS_appP {i : Nat} {e : EP} : WS F (.appP i e) env Q = if (ownAt env i).isSome = true then PP (evP F e env) (Q.apppk i) else False := by
  unfold WS
  rw [exS]
  by_cases h : (ownAt env i).isSome = true
  · rw [if_pos h, if_pos h]
    cases evP F e env with
    | ok p => exact appS_sat
    | _ => rfl
  · rw [if_neg h, if_neg h]
    rfl
theorem WS_forP {w : Wk} {ws : EPs} {tg : Tg} {b : Ss} : WS F (.forP w ws tg b) env Q = PL (evIP F w ws env) (Q.lppk F tg b) := by
  unfold WS
  rw [exS]
  cases evIP F w ws env <;> rfl
theorem WS_exsP {e : EP} : WS F (.exsP e) env Q = PP (evP F e env) Q.exspk := by
  unfold WS
  rw [exS]
  cases evP F e env <;> rfl
theorem WS_retQ {e : EP} : WS F (.retQ e) env Q = PP (evP F e env) Q.retqk := by
  unfold WS
  rw [exS]
  cases evP F e env <;> rfl
theorem withOw_sat {i : Nat} {f : List D → Rs} : (withOw env i f).sat Q = OWN (fun ds => (f ds).sat Q) (ownAt env i) := by
  unfold withOw
  cases ownAt env i <;> rfl
theorem WS_stIP {i : Nat} {x : E} {e : EP} : WS F (.stIP i x e) env Q = PP (evP F e env) (Q.stipk F i x) := by
  unfold WS
  rw [exS]
  cases evP F e env with
  | ok p =>
    show (withOw p.2 i fun ds => (evE F x (fullE p.2)).toS p.2 fun k => stK p.2 i ds p.1 k).sat Q = STI Q F p.2 i x (.ok p.1) (ownAt p.2 i)
    rw [withOw_sat]
    cases ownAt p.2 i with
    | none => rfl
    | some ds =>
      show ((evE F x (fullE p.2)).toS p.2 fun k => stK p.2 i ds p.1 k).sat Q = _
      rw [sat_toS]
      rfl
  | _ => rfl
theorem WS_stQ {i : Nat} {x e : EP} : WS F (.stQ i x e) env Q = PP (evP F e env) (Q.stqk F i x) := by
  unfold WS
  rw [exS]
  cases evP F e env with
  | ok p =>
    show (if (ownAt p.2 i).isSome = true then stQ2 i p.1 (evP F x p.2) else .stuck).sat Q = if (ownAt p.2 i).isSome = true then PP (evP F x p.2) (Q.stqj i p.1) else False
    by_cases h : (ownAt p.2 i).isSome = true
    · rw [if_pos h, if_pos h]
      cases evP F x p.2 with
      | ok q => exact withOw_sat
      | _ => rfl
    · rw [if_neg h, if_neg h]
      rfl
  | _ => rfl
theorem WS_insP {i : Nat} {es : EPs} : WS F (.insP i es) env Q = if (ownAt env i).isSome = true then PL (evPs F es env) (Q.inspk i) else False := by
  unfold WS
  rw [exS]
  by_cases h : (ownAt env i).isSome = true
  · rw [if_pos h, if_pos h]
    cases evPs F es env with
    | ok p =>
      show (withOw p.2 i fun ds => insK p.2 i ds p.1).sat Q = inspo Q p.2 i p.1 (ownAt p.2 i)
      rw [withOw_sat]
      cases ownAt p.2 i <;> rfl
    | _ => rfl
  · rw [if_neg h, if_neg h]
    rfl
theorem WS_ext {i : Nat} {e : E} : WS F (.ext i e) env Q = EXT Q env i ((evE F e (cleanE env)).bind lsOf) (ownAt env i) := by
  unfold WS
  rw [exS, withOw_sat]
  cases ownAt env i with
  | none => rfl
  | some ds =>
    show (((evE F e (cleanE env)).bind lsOf).toS env fun es => extK env i ds es).sat Q = _
    rw [sat_toS]
    show RP _ _ _ = RP _ _ _
    congr 1
    funext es
    unfold extK Pst.extk
    by_cases h : ds.length + es.length ≤ 1000000
    · rw [if_pos h]
      simp only [h, true_and]
      rfl
    · rw [if_neg h]
      simp only [h, false_and]
      rfl
theorem WS_clr {i : Nat} : WS F (.clr i) env Q = OWN (fun _ => Q.nx (env.set i (.ow []))) (ownAt env i) := by
  unfold WS
  rw [exS, withOw_sat]
  rfl
theorem WS_rev {i : Nat} : WS F (.rev i) env Q = OWN (fun ds => Q.nx (env.set i (.ow ds.reverse))) (ownAt env i) := by
  unfold WS
  rw [exS, withOw_sat]
  rfl
end
theorem evIP_def {F : Fns} {w : Wk} {ws : EPs} {env : SE} : evIP F w ws env = (evPs F ws env).bind fun p => (noX (iters w p.1)).bind fun items => .ok (items, p.2) := rfl
theorem dropR_pair {env : SE} {d : D} {ps : List D} : dropR env (pairD d (.list ps)) = .ok (d, env) := rfl
theorem dropR_tup {env : SE} {d : D} {ps : List D} : dropR env (.tuple [d, .list ps]) = .ok (d, env) := rfl
theorem negR_int {env : SE} {i : Int} : negR env (.int i) = .ok (.int (-i), env) := rfl
theorem popO_some {env : SE} {i : Nat} {as ds : List D} : popO env i as (some ds) = popR env i ds as := rfl
theorem PP_ite {c : Prop} [Decidable c] {a b : R (D × SE)} {f : D → SE → Prop} : PP (if c then a else b) f = ((c → PP a f) ∧ (¬ c → PP b f)) := by
  by_cases h : c
  · rw [if_pos h]; simp [h]
  · rw [if_neg h]; simp [h]
theorem bind_ite {α β : Type} {c : Prop} [Decidable c] {a b : R α} {f : α → R β} : (if c then a else b).bind f = if c then a.bind f else b.bind f := by split <;> rfl
/-- try: .. except c: raise k(..) -/
theorem WS_tryr {F : Fns} {env : SE} {Q : Pst} {c k : Nat} {b : Ss} : WS F (.tryr c k b) env Q = WB F b env { Q with ex := fun c' p e => (subX c' c = true → Q.ex k none e) ∧ (subX c' c = false → Q.ex c' p e) } := by
  unfold WS WB
  rw [exS]
  cases exSs F fuel b env with
  | ex c' p e =>
    show (if subX c' c = true then Rs.ex k none e else .ex c' p e).sat Q = _
    cases h : subX c' c with
    | true => exact propext ⟨fun z => ⟨fun _ => z, fun w => Bool.noConfusion (h.symm.trans w)⟩, fun z => z.1 h⟩
    | false => exact propext ⟨fun z => ⟨fun w => Bool.noConfusion (h.symm.trans w), fun _ => z⟩, fun z => z.2 h⟩
  | _ => rfl
theorem WS_retO {F : Fns} {env : SE} {Q : Pst} {i : Nat} : WS F (.retO i) env Q = OWN (fun ds => Q.rt (.list ds)) (ownAt env i) := by
  unfold WS
  rw [exS, withOw_sat]
  rfl
def Pst.lsk (Q : Pst) : List D → Prop := fun ds => Q.rt (.list ds)
theorem lsk_app {Q : Pst} {ds : List D} : Q.lsk ds = Q.rt (.list ds) := rfl
theorem WS_retF {F : Fns} {env : SE} {Q : Pst} {e : E} : WS F (.retF e) env Q = RP (newS F env e) Q.lsk (Q.exk env) := by
  unfold WS
  rw [exS, sat_toS]
  rfl
theorem lisD_list {ds : List D} : lisD (.list ds) = .ok ds := rfl
theorem rvlD_list {ds : List D} : rvlD (.list ds) = .ok (.list ds.reverse) := rfl
theorem rvsD_list {ds : List D} : rvsD (.list ds) = .ok (.list ds.reverse) := rfl
theorem rvsD_tup {ds : List D} : rvsD (.tuple ds) = .ok (.tuple ds.reverse) := rfl
theorem rvtD_list {ds : List D} : rvtD (.list ds) = .ok (.list (ds.drop 1).reverse) := rfl
theorem lsetD_list {ds : List D} : lsetD (.list ds) = lsetK (tupsD ds) := rfl
theorem bop_shrE {i j : Int} (h : 0 ≤ j) : bop .shr (.int i) (.int j) = .ok (.int (i / 2 ^ j.toNat)) := if_pos h
theorem bop_addS {x y : Str} (h : x.length + y.length ≤ 1000000) : bop .add (.str x) (.str y) = .ok (.str (x ++ y)) := if_pos h
theorem cop_ltT2 {a b c d : Int} : cop .lt (T2 a b) (T2 c d) = .ok (.bool (decide (a < c ∨ (a = c ∧ b < d)))) := by
  show R.ok (PyData.bool (HT.lexLt [a, b] [c, d])) = _
  have e : HT.lexLt [a, b] [c, d] = decide (a < c ∨ (a = c ∧ b < d)) := by
    rw [HT.lexLt, HT.lexLt, HT.lexLt]
    by_cases h : a = c
    · rw [if_pos h]
      by_cases h2 : b = d
      · rw [if_pos h2]
        exact (decide_eq_false (by omega)).symm
      · rw [if_neg h2, decide_eq_decide]
        omega
    · rw [if_neg h, decide_eq_decide]
      omega
  rw [e]
theorem apppo_ok {Q : Pst} {e : SE} {i : Nat} {d : D} {ds : List D} (h : ds.length < 1000000) : apppo Q e i d (some ds) = Q.nx (e.set i (.ow (ds ++ [d]))) := by
  rw [apppo_some]
  exact propext ⟨fun z => z.2, fun z => ⟨h, z⟩⟩
theorem extk_ok {Q : Pst} {env : SE} {i : Nat} {ds es : List D} (h : ds.length + es.length ≤ 1000000) : Q.extk env i ds es = Q.nx (env.set i (.ow (ds ++ es))) := by
  rw [extk_app]
  exact propext ⟨fun z => z.2, fun z => ⟨h, z⟩⟩
theorem inspo_ok {Q : Pst} {e : SE} {i : Nat} {k : Int} {d : D} {ds : List D} (h : 0 ≤ k ∧ k ≤ 1000000 ∧ ds.length ≤ 1000000) : inspo Q e i [.int k, d] (some ds) = Q.nx (e.set i (.ow (ds.take k.toNat ++ [d] ++ ds.drop k.toNat))) := by
  rw [inspo_some]
  exact propext ⟨fun z => z.2, fun z => ⟨h, z⟩⟩
/-- for x in range(n), the body may leave -/
theorem LP_rngQ {F : Fns} {v : Nat} {b : Ss} {Q : Pst} {env : SE} {n : Nat} (P : Nat → SE → Prop) (h0 : P 0 env) (step : ∀ i e, i < n → P i e → WB F b (e.set v (.fr (.int (i : Int)))) (Q.lp (P (i + 1)))) (fin : ∀ e, P n e → Q.nx e) : LP F (.nm v) b (rngD n) env Q := by
  refine LP_inv P 0 h0 (fun i x e hx hp => ?_) (fun e he => fin e (by rw [rngD_length, Nat.zero_add] at he; exact he))
  rw [Nat.zero_add] at hp ⊢
  obtain ⟨rfl, hi⟩ := rngD_get hx
  exact ⟨_, tgS_nm, step i e hi hp⟩
/-- for x in a told list, the body may leave -/
theorem LP_listQ {F : Fns} {v : Nat} {b : Ss} {Q : Pst} {env : SE} {α : Type} {enc : α → D} {xs : List α} (P : List α → SE → Prop) (h0 : P [] env)
    (step : ∀ pre x post e, xs = pre ++ x :: post → P pre e → WB F b (e.set v (.fr (enc x))) (Q.lp (P (pre ++ [x])))) (fin : ∀ e, P xs e → Q.nx e) : LP F (.nm v) b (xs.map enc) env Q :=
  LP_map (all := xs) P (fun pre x post e he hp => ⟨_, tgS_nm, step pre x post e he hp⟩) fin (pre := []) rfl h0
/-- an item of a told list, from behind too -/
theorem atI_ex {α : Type} {xs : List α} {i : Int} (h0 : -(xs.length : Int) ≤ i) (h1 : i < xs.length) : ∃ x ∈ xs, atI xs i = some x := by
  unfold atI ixN
  by_cases h : 0 ≤ i
  · rw [if_pos h, if_pos h1]
    have hn : i.toNat < xs.length := by omega
    exact ⟨xs[i.toNat], List.getElem_mem hn, List.getElem?_eq_getElem hn⟩
  · rw [if_neg h, if_pos h0]
    have hn : (i + xs.length).toNat < xs.length := by omega
    exact ⟨xs[(i + xs.length).toNat], List.getElem_mem hn, List.getElem?_eq_getElem hn⟩
theorem atI_map {α β : Type} {f : α → β} {xs : List α} {i : Int} : atI (xs.map f) i = (atI xs i).map f := by
  unfold atI
  rw [List.length_map]
  cases ixN xs.length i with
  | none => rfl
  | some j => exact List.getElem?_map
theorem ix_mapZ {α : Type} {enc : α → D} {xs : List α} {i : Int} (h0 : -(xs.length : Int) ≤ i) (h1 : i < xs.length) : ∃ x ∈ xs, atI xs i = some x ∧ ixop (.list (xs.map enc)) (.int i) = .ok (enc x) := by
  obtain ⟨x, hx, e⟩ := atI_ex h0 h1
  exact ⟨x, hx, e, ix_list (by rw [atI_map, e]; rfl)⟩
theorem ix_mapT {α : Type} {enc : α → D} {xs : List α} {i : Int} (h0 : -(xs.length : Int) ≤ i) (h1 : i < xs.length) : ∃ x ∈ xs, atI xs i = some x ∧ ixop (.tuple (xs.map enc)) (.int i) = .ok (enc x) := by
  obtain ⟨x, hx, e⟩ := atI_ex h0 h1
  exact ⟨x, hx, e, ix_tup (by rw [atI_map, e]; rfl)⟩
end Bs

namespace Bs
open PySem PySem.Spec L2
open PyProof.Rows hiding St
def m_divisor : Ss := (.cons (.set 0 (.bi .abs (.cons (.v 0) .nil))) (.cons (.set 1 (.bi .abs (.cons (.v 1) .nil))) (.cons (.whil (.cmp .gt (.v 1) (.i 0)) (.cons (.par 0 1 (.v 1) (.op .mod (.v 0) (.v 1))) .nil)) (.cons (.ret (.v 0)) .nil))))
noncomputable def F_divisor : List D → R D := den (sel []) fuel 2 m_divisor
def m_stands_first : Ss := (.cons (.forr .rng1 (.cons (.i 3) .nil) (.nm 2) (.cons (.set 3 (.op .mul (.ix (.v 0) (.v 2)) (.ix (.v 1) (.i 3)))) (.cons (.set 4 (.op .mul (.ix (.v 1) (.v 2)) (.ix (.v 0) (.i 3)))) (.cons (.iff (.cmp .ne (.v 3) (.v 4)) (.cons (.ret (.cmp .lt (.v 3) (.v 4))) .nil) .nil) .nil)))) (.cons (.ret (.b false)) .nil))
noncomputable def F_stands_first : List D → R D := den (sel []) fuel 5 m_stands_first
def m_arrow : Ss := (.cons (.ret (.tup (.cons (.op .sub (.op .mul (.ix (.v 1) (.i 0)) (.ix (.v 0) (.i 3))) (.op .mul (.ix (.v 0) (.i 0)) (.ix (.v 1) (.i 3)))) (.cons (.op .sub (.op .mul (.ix (.v 1) (.i 1)) (.ix (.v 0) (.i 3))) (.op .mul (.ix (.v 0) (.i 1)) (.ix (.v 1) (.i 3)))) (.cons (.op .sub (.op .mul (.ix (.v 1) (.i 2)) (.ix (.v 0) (.i 3))) (.op .mul (.ix (.v 0) (.i 2)) (.ix (.v 1) (.i 3)))) .nil))))) .nil)
noncomputable def F_arrow : List D → R D := den (sel []) fuel 2 m_arrow
def m_dot : Ss := (.cons (.ret (.op .add (.op .add (.op .mul (.ix (.v 0) (.i 0)) (.ix (.v 1) (.i 0))) (.op .mul (.ix (.v 0) (.i 1)) (.ix (.v 1) (.i 1)))) (.op .mul (.ix (.v 0) (.i 2)) (.ix (.v 1) (.i 2))))) .nil)
noncomputable def F_dot : List D → R D := den (sel []) fuel 2 m_dot
def m_cross : Ss := (.cons (.ret (.tup (.cons (.op .sub (.op .mul (.ix (.v 0) (.i 1)) (.ix (.v 1) (.i 2))) (.op .mul (.ix (.v 0) (.i 2)) (.ix (.v 1) (.i 1)))) (.cons (.op .sub (.op .mul (.ix (.v 0) (.i 2)) (.ix (.v 1) (.i 0))) (.op .mul (.ix (.v 0) (.i 0)) (.ix (.v 1) (.i 2)))) (.cons (.op .sub (.op .mul (.ix (.v 0) (.i 0)) (.ix (.v 1) (.i 1))) (.op .mul (.ix (.v 0) (.i 1)) (.ix (.v 1) (.i 0)))) .nil))))) .nil)
noncomputable def F_cross : List D → R D := den (sel []) fuel 2 m_cross
def m_sign_of : Ss := (.cons (.iff (.cmp .gt (.v 0) (.i 0)) (.cons (.ret (.i 1)) .nil) .nil) (.cons (.iff (.cmp .lt (.v 0) (.i 0)) (.cons (.ret (.neg (.i 1))) .nil) .nil) (.cons (.ret (.i 0)) .nil)))
noncomputable def F_sign_of : List D → R D := den (sel []) fuel 1 m_sign_of
def m_made_plane : Ss := (.cons (.set 4 (.call 0 (.cons (.call 0 (.cons (.v 0) (.cons (.v 1) .nil))) (.cons (.v 2) .nil)))) (.cons (.iff (.cmp .eq (.v 4) (.i 0)) (.cons (.raise 3) .nil) .nil) (.cons (.set 4 (.call 0 (.cons (.v 4) (.cons (.v 3) .nil)))) (.cons (.ret (.tup (.cons (.op .fdiv (.v 0) (.v 4)) (.cons (.op .fdiv (.v 1) (.v 4)) (.cons (.op .fdiv (.v 2) (.v 4)) (.cons (.op .fdiv (.v 3) (.v 4)) .nil)))))) .nil))))
noncomputable def F_made_plane : List D → R D := den (sel [F_divisor]) fuel 5 m_made_plane
def m_through_spot : Ss := (.cons (.set 2 (.ix (.v 1) (.i 3))) (.cons (.ret (.call 0 (.cons (.op .mul (.ix (.v 0) (.i 0)) (.v 2)) (.cons (.op .mul (.ix (.v 0) (.i 1)) (.v 2)) (.cons (.op .mul (.ix (.v 0) (.i 2)) (.v 2)) (.cons (.call 1 (.cons (.v 0) (.cons (.v 1) .nil))) .nil)))))) .nil))
noncomputable def F_through_spot : List D → R D := den (sel [F_made_plane, F_dot]) fuel 3 m_through_spot
def m_turned_about : Ss := (.cons (.ret (.tup (.cons (.op .sub (.i 0) (.ix (.v 0) (.i 0))) (.cons (.op .sub (.i 0) (.ix (.v 0) (.i 1))) (.cons (.op .sub (.i 0) (.ix (.v 0) (.i 2))) (.cons (.op .sub (.i 0) (.ix (.v 0) (.i 3))) .nil)))))) .nil)
noncomputable def F_turned_about : List D → R D := den (sel []) fuel 1 m_turned_about
def m_plain_one : Ss := (.cons (.forr .seq (.cons (.sl (.v 0) .nil (.cons (.i 3) .nil)) .nil) (.nm 1) (.cons (.iff (.cmp .gt (.v 1) (.i 0)) (.cons (.ret (.v 0)) .nil) .nil) (.cons (.iff (.cmp .lt (.v 1) (.i 0)) (.cons (.ret (.call 0 (.cons (.v 0) .nil))) .nil) .nil) .nil))) (.cons (.ret (.v 0)) .nil))
noncomputable def F_plain_one : List D → R D := den (sel [F_turned_about]) fuel 2 m_plain_one
def m_plane_through : Ss := (.cons (.ret (.call 0 (.cons (.call 1 (.cons (.call 2 (.cons (.call 3 (.cons (.v 0) (.cons (.v 1) .nil))) (.cons (.call 3 (.cons (.v 0) (.cons (.v 2) .nil))) .nil))) (.cons (.v 0) .nil))) .nil))) .nil)
noncomputable def F_plane_through : List D → R D := den (sel [F_plain_one, F_through_spot, F_cross, F_arrow]) fuel 3 m_plane_through
def m_height_over : Ss := (.cons (.ret (.op .sub (.call 0 (.cons (.v 0) (.cons (.v 1) .nil))) (.op .mul (.ix (.v 0) (.i 3)) (.ix (.v 1) (.i 3))))) .nil)
noncomputable def F_height_over : List D → R D := den (sel [F_dot]) fuel 2 m_height_over
def m_side_of : Ss := (.cons (.ret (.call 0 (.cons (.call 1 (.cons (.v 0) (.cons (.v 1) .nil))) .nil))) .nil)
noncomputable def F_side_of : List D → R D := den (sel [F_sign_of, F_height_over]) fuel 2 m_side_of
def m_fences : Ss := (.cons (.set 1 (.call 0 (.cons (.ix (.v 0) (.i 0)) (.cons (.ix (.v 0) (.i 1)) (.cons (.ix (.v 0) (.i 2)) .nil))))) (.cons (.setN 2 (.lst .nil)) (.cons (.forr .enum (.cons (.v 0) .nil) (.tp [3, 4]) (.cons (.set 5 (.ix (.v 0) (.op .mod (.op .add (.v 3) (.i 1)) (.bi .len (.cons (.v 0) .nil))))) (.cons (.set 6 (.call 1 (.cons (.call 2 (.cons (.sl (.v 1) .nil (.cons (.i 3) .nil)) (.cons (.call 3 (.cons (.v 4) (.cons (.v 5) .nil))) .nil))) (.cons (.v 4) .nil)))) (.cons (.iff (.cmp .lt (.call 4 (.cons (.v 6) (.cons (.ix (.v 0) (.op .sub (.v 3) (.i 1))) .nil))) (.i 0)) (.cons (.set 6 (.call 5 (.cons (.v 6) .nil))) .nil) .nil) (.cons (.app 2 (.v 6)) .nil))))) (.frz 2 (.cons (.ret (.v 2)) .nil)))))
noncomputable def F_fences : List D → R D := den (sel [F_plane_through, F_through_spot, F_cross, F_arrow, F_side_of, F_turned_about]) fuel 7 m_fences
def m_is_round : Ss := (.cons (.forr .enum (.cons (.call 0 (.cons (.v 0) .nil)) .nil) (.tp [1, 2]) (.cons (.set 3 (.tup (.cons (.ix (.v 0) (.v 1)) (.cons (.ix (.v 0) (.op .mod (.op .add (.v 1) (.i 1)) (.bi .len (.cons (.v 0) .nil)))) .nil)))) (.cons (.forr .seq (.cons (.v 0) .nil) (.nm 4) (.cons (.iff (.and (.cmp .nin (.v 4) (.v 3)) (.one (.cmp .le (.call 1 (.cons (.v 2) (.cons (.v 4) .nil))) (.i 0)))) (.cons (.ret (.b false)) .nil) .nil) .nil)) .nil))) (.cons (.ret (.b true)) .nil))
noncomputable def F_is_round : List D → R D := den (sel [F_fences, F_side_of]) fuel 5 m_is_round
def m_in_form : Ss := (.cons (.set 1 (.i 0)) (.cons (.forr .rng2 (.cons (.i 1) (.cons (.bi .len (.cons (.v 0) .nil)) .nil)) (.nm 2) (.cons (.iff (.call 0 (.cons (.ix (.v 0) (.v 2)) (.cons (.ix (.v 0) (.v 1)) .nil))) (.cons (.set 1 (.v 2)) .nil) .nil) .nil)) (.cons (.set 3 (.op .add (.bi .list (.cons (.sl (.v 0) (.cons (.v 1) .nil) .nil) .nil)) (.bi .list (.cons (.sl (.v 0) .nil (.cons (.v 1) .nil)) .nil)))) (.cons (.iff (.call 0 (.cons (.ix (.v 3) (.neg (.i 1))) (.cons (.ix (.v 3) (.i 1)) .nil))) (.cons (.set 3 (.op .add (.sl (.v 3) .nil (.cons (.i 1) .nil)) (.rvt (.v 3)))) .nil) .nil) (.cons (.ret (.bi .tuple (.cons (.v 3) .nil))) .nil)))))
noncomputable def F_in_form : List D → R D := den (sel [F_stands_first]) fuel 4 m_in_form
def m_made_board : Ss := (.cons (.iff (.or (.not (.chain .le .le (.i 3) (.bi .len (.cons (.v 0) .nil)) (.i 8))) (.one (.cmp .lt (.lset (.v 0)) (.bi .len (.cons (.v 0) .nil))))) (.cons (.raise 4) .nil) .nil) (.cons (.tryr 3 4 (.cons (.set 1 (.call 0 (.cons (.ix (.v 0) (.i 0)) (.cons (.ix (.v 0) (.i 1)) (.cons (.ix (.v 0) (.i 2)) .nil))))) .nil)) (.cons (.forr .seq (.cons (.v 0) .nil) (.nm 2) (.cons (.iff (.cmp .ne (.call 1 (.cons (.v 1) (.cons (.v 2) .nil))) (.i 0)) (.cons (.raise 4) .nil) .nil) .nil)) (.cons (.iff (.not (.call 2 (.cons (.v 0) .nil))) (.cons (.raise 4) .nil) .nil) (.cons (.ret (.call 3 (.cons (.v 0) .nil))) .nil)))))
noncomputable def F_made_board : List D → R D := den (sel [F_plane_through, F_side_of, F_is_round, F_in_form]) fuel 3 m_made_board
def m_law_next : Ss := (.cons (.set 2 (.op .mod (.ix (.v 0) (.i 0)) (.v 1))) (.cons (.stI 0 (.i 0) (.op .fdiv (.ix (.v 0) (.i 0)) (.v 1))) (.cons (.retP 0 (.pu (.v 2))) .nil)))
noncomputable def F_law_next : List D → R D := denP (sel []) fuel 3 0 m_law_next
def m_law_left : Ss := (.cons (.iff (.or (.cmp .ge (.v 0) (.op .pow (.i 10) (.i 18))) (.one (.cmp .le (.v 0) (.neg (.op .pow (.i 10) (.i 18)))))) (.cons (.retF (.lst (.cons (.v 0) .nil))) .nil) .nil) (.cons (.set 1 (.op .mod (.op .add (.op .mul (.op .mod (.v 0) (.i 2305843009213693951)) (.i 48271)) (.i 7)) (.i 2305843009213693951))) (.cons (.set 2 (.i 0)) (.cons (.forr .rng1 (.cons (.i 9) .nil) (.nm 3) (.cons (.set 1 (.op .mod (.op .mul (.op .mod (.op .add (.op .add (.op .mul (.v 1) (.v 1)) (.op .mul (.i 977) (.v 3))) (.i 11)) (.i 2305843009213693951)) (.i 69621)) (.i 2305843009213693951))) (.cons (.set 2 (.op .add (.op .mul (.v 2) (.i 2305843009213693952)) (.v 1))) .nil))) (.cons (.retF (.lst (.cons (.op .fdiv (.v 2) (.i 1000003)) .nil))) .nil)))))
noncomputable def F_law_left : List D → R D := denF (sel []) fuel 4 m_law_left
def m_law_divisor_2 : Ss := (.cons (.set 1 (.i 0)) (.cons (.forr .seq (.cons (.v 0) .nil) (.nm 2) (.cons (.set 3 (.bi .abs (.cons (.v 2) .nil))) (.cons (.whil (.cmp .gt (.v 3) (.i 0)) (.cons (.par 1 3 (.v 3) (.op .mod (.v 1) (.v 3))) .nil)) .nil))) (.cons (.ret (.v 1)) .nil)))
noncomputable def F_law_divisor_2 : List D → R D := den (sel []) fuel 4 m_law_divisor_2
def m_law_lowest_2 : Ss := (.cons (.set 1 (.call 0 (.cons (.v 0) .nil))) (.cons (.ret (.bi .tuple (.cons (.lc .seq (.cons (.v 0) .nil) (.nm 2) .nil (.op .fdiv (.v 2) (.v 1)) [("number", 2)]) .nil))) .nil))
noncomputable def F_law_lowest_2 : List D → R D := den (sel [F_law_divisor_2]) fuel 3 m_law_lowest_2
def m_law_cross : Ss := (.cons (.ret (.tup (.cons (.op .sub (.op .mul (.ix (.v 0) (.i 1)) (.ix (.v 1) (.i 2))) (.op .mul (.ix (.v 0) (.i 2)) (.ix (.v 1) (.i 1)))) (.cons (.op .sub (.op .mul (.ix (.v 0) (.i 2)) (.ix (.v 1) (.i 0))) (.op .mul (.ix (.v 0) (.i 0)) (.ix (.v 1) (.i 2)))) (.cons (.op .sub (.op .mul (.ix (.v 0) (.i 0)) (.ix (.v 1) (.i 1))) (.op .mul (.ix (.v 0) (.i 1)) (.ix (.v 1) (.i 0)))) .nil))))) .nil)
noncomputable def F_law_cross : List D → R D := den (sel []) fuel 2 m_law_cross
def m_law_dot : Ss := (.cons (.ret (.bi .sum (.cons (.lc .rng1 (.cons (.i 3) .nil) (.nm 2) .nil (.op .mul (.ix (.v 0) (.v 2)) (.ix (.v 1) (.v 2))) [("k", 2)]) .nil))) .nil)
noncomputable def F_law_dot : List D → R D := den (sel []) fuel 3 m_law_dot
def m_law_sheet : Ss := (.cons (.setP 1 (.ix (.pu (.lst (.cons (.i 2) (.cons (.i 4) (.cons (.i 9) (.cons (.op .pow (.i 10) (.i 6)) (.cons (.op .pow (.i 10) (.i 12)) .nil))))))) (.pcall 1 0 .nil (.cons (.pu (.i 5)) .nil)))) (.cons (.setP 2 (.lc .rng1 (.cons (.i 9) .nil) (.nm 3) (.op .sub (.pcall 1 0 .nil (.cons (.pu (.op .add (.op .mul (.i 2) (.v 1)) (.i 1))) .nil)) (.pu (.v 1))) [("k", 3)])) (.cons (.set 4 (.bi .tuple (.cons (.sl (.v 2) (.cons (.i 3) .nil) (.cons (.i 6) .nil)) .nil))) (.cons (.iff (.cmp .eq (.v 4) (.tup (.cons (.i 0) (.cons (.i 0) (.cons (.i 0) .nil))))) (.cons (.set 4 (.tup (.cons (.i 1) (.cons (.i 0) (.cons (.i 0) .nil))))) .nil) .nil) (.cons (.setN 5 (.lst (.cons (.bi .tuple (.cons (.sl (.v 2) (.cons (.i 6) .nil) .nil) .nil)) .nil))) (.cons (.forr .rng1 (.cons (.i 3) .nil) (.nm 3) (.cons (.app 5 (.bi .tuple (.cons (.lc .rng1 (.cons (.i 3) .nil) (.nm 6) .nil (.op .add (.ix (.v 2) (.op .add (.i 6) (.v 6))) (.bi .int (.cons (.cmp .eq (.v 6) (.v 3)) .nil))) [("j", 6)]) .nil))) .nil)) (.frz 5 (.cons (.set 7 (.ix (.lc .seq (.cons (.v 5) .nil) (.nm 8) (.cons (.cmp .ne (.call 0 (.cons (.v 4) (.cons (.v 8) .nil))) (.tup (.cons (.i 0) (.cons (.i 0) (.cons (.i 0) .nil))))) .nil) (.v 8) [("one", 8)]) (.i 0))) (.cons (.retP 0 (.tup (.cons (.pu (.bi .tuple (.cons (.sl (.v 2) .nil (.cons (.i 3) .nil)) .nil))) (.cons (.op .add (.pu (.i 1)) (.op .mul (.pcall 1 0 .nil (.cons (.pu (.i 12)) .nil)) (.pcall 1 0 .nil (.cons (.pu (.i 2)) .nil)))) (.cons (.pu (.v 4)) (.cons (.pu (.v 7)) .nil)))))) .nil)))))))))
noncomputable def F_law_sheet : List D → R D := denP (sel [F_law_cross, F_law_next]) fuel 9 0 m_law_sheet
def m_law_shape : Ss := (.cons (.set 1 (.lst (.cons (.tup (.cons (.i 1) (.cons (.i 0) (.cons (.i 1) .nil)))) (.cons (.tup (.cons (.i 2) (.cons (.i 0) (.cons (.i 1) .nil)))) (.cons (.tup (.cons (.i 3) (.cons (.i 1) (.cons (.i 1) .nil)))) (.cons (.tup (.cons (.i 3) (.cons (.i 2) (.cons (.i 1) .nil)))) (.cons (.tup (.cons (.i 2) (.cons (.i 3) (.cons (.i 1) .nil)))) (.cons (.tup (.cons (.i 1) (.cons (.i 3) (.cons (.i 1) .nil)))) (.cons (.tup (.cons (.i 0) (.cons (.i 2) (.cons (.i 1) .nil)))) (.cons (.tup (.cons (.i 0) (.cons (.i 1) (.cons (.i 1) .nil)))) .nil)))))))))) (.cons (.setP 2 (.pcall 0 0 .nil (.cons (.pu (.i 256)) .nil))) (.cons (.setN 3 (.lc .rng1 (.cons (.i 8) .nil) (.nm 4) (.cons (.cmp .eq (.op .mod (.op .shr (.v 2) (.v 4)) (.i 2)) (.i 1)) .nil) (.ix (.v 1) (.v 4)) [("k", 4)])) (.frz 3 (.cons (.iff (.cmp .lt (.bi .len (.cons (.v 3) .nil)) (.i 3)) (.cons (.set 3 (.lst (.cons (.ix (.v 1) (.i 0)) (.cons (.ix (.v 1) (.i 3)) (.cons (.ix (.v 1) (.op .add (.i 5) (.op .mod (.v 2) (.i 3)))) .nil))))) .nil) .nil) (.cons (.unpP [5, 6] (.ix (.pu (.lst (.cons (.tup (.cons (.i 1) (.cons (.i 1) .nil))) (.cons (.tup (.cons (.i 1) (.cons (.i 1) .nil))) (.cons (.tup (.cons (.i 2) (.cons (.i 3) .nil))) (.cons (.tup (.cons (.i 3) (.cons (.i 4) .nil))) (.cons (.tup (.cons (.i 1) (.cons (.i 5) .nil))) (.cons (.tup (.cons (.i 6) (.cons (.i 1) .nil))) .nil)))))))) (.pcall 0 0 .nil (.cons (.pu (.i 6)) .nil)))) (.cons (.retP 0 (.pu (.lc .seq (.cons (.v 3) .nil) (.tp [7, 8, 9]) .nil (.tup (.cons (.op .mul (.v 7) (.v 5)) (.cons (.op .mul (.v 8) (.v 6)) (.cons (.op .mul (.v 5) (.v 6)) .nil)))) [("p", 7), ("q", 8), ("r", 9)]))) .nil)))))))
noncomputable def F_law_shape : List D → R D := denP (sel [F_law_next]) fuel 10 0 m_law_shape
def m_law_spot_2 : Ss := (.cons (.unp [2, 3, 4, 5] (.v 0)) (.cons (.unp [6, 7, 8] (.v 1)) (.cons (.setN 9 (.lst .nil)) (.cons (.forr .rng1 (.cons (.i 3) .nil) (.nm 10) (.cons (.set 11 (.op .add (.op .mul (.v 6) (.ix (.v 4) (.v 10))) (.op .mul (.v 7) (.ix (.v 5) (.v 10))))) (.cons (.app 9 (.op .add (.op .mul (.ix (.v 2) (.v 10)) (.v 8)) (.op .mul (.v 3) (.v 11)))) .nil))) (.frz 9 (.cons (.ret (.call 0 (.cons (.op .add (.v 9) (.lst (.cons (.op .mul (.v 3) (.v 8)) .nil))) .nil))) .nil))))))
noncomputable def F_law_spot_2 : List D → R D := den (sel [F_law_lowest_2]) fuel 12 m_law_spot_2
def m_law_first_2 : Ss := (.cons (.forr .rng1 (.cons (.i 3) .nil) (.nm 2) (.cons (.iff (.cmp .ne (.op .mul (.ix (.v 0) (.v 2)) (.ix (.v 1) (.i 3))) (.op .mul (.ix (.v 1) (.v 2)) (.ix (.v 0) (.i 3)))) (.cons (.ret (.cmp .lt (.op .mul (.ix (.v 0) (.v 2)) (.ix (.v 1) (.i 3))) (.op .mul (.ix (.v 1) (.v 2)) (.ix (.v 0) (.i 3))))) .nil) .nil) .nil)) (.cons (.ret (.b false)) .nil))
noncomputable def F_law_first_2 : List D → R D := den (sel []) fuel 3 m_law_first_2
def m_law_form : Ss := (.cons (.set 1 (.i 0)) (.cons (.forr .rng1 (.cons (.bi .len (.cons (.v 0) .nil)) .nil) (.nm 2) (.cons (.iff (.call 0 (.cons (.ix (.v 0) (.v 2)) (.cons (.ix (.v 0) (.v 1)) .nil))) (.cons (.set 1 (.v 2)) .nil) .nil) .nil)) (.cons (.set 3 (.op .add (.sl (.v 0) (.cons (.v 1) .nil) .nil) (.sl (.v 0) .nil (.cons (.v 1) .nil)))) (.cons (.iff (.call 0 (.cons (.ix (.v 3) (.op .sub (.bi .len (.cons (.v 3) .nil)) (.i 1))) (.cons (.ix (.v 3) (.i 1)) .nil))) (.cons (.set 3 (.op .add (.lst (.cons (.ix (.v 3) (.i 0)) .nil)) (.lc .rng1 (.cons (.op .sub (.bi .len (.cons (.v 3) .nil)) (.i 1)) .nil) (.nm 2) .nil (.ix (.v 3) (.op .sub (.op .sub (.bi .len (.cons (.v 3) .nil)) (.i 1)) (.v 2))) [("k", 2)]))) .nil) .nil) (.cons (.ret (.bi .tuple (.cons (.v 3) .nil))) .nil)))))
noncomputable def F_law_form : List D → R D := den (sel [F_law_first_2]) fuel 4 m_law_form
def m_law_board : Ss := (.cons (.ret (.call 0 (.cons (.lc .seq (.cons (.v 1) .nil) (.nm 2) .nil (.call 1 (.cons (.v 0) (.cons (.v 2) .nil))) [("place", 2)]) .nil))) .nil)
noncomputable def F_law_board : List D → R D := den (sel [F_law_form, F_law_spot_2]) fuel 3 m_law_board
def m_law_bent : Ss := (.cons (.retF (.lc .rng1 (.cons (.v 0) .nil) (.nm 1) .nil (.tup (.cons (.v 1) (.cons (.op .mul (.v 1) (.v 1)) (.cons (.i 1) .nil)))) [("k", 1)])) .nil)
noncomputable def F_law_bent : List D → R D := denF (sel []) fuel 2 m_law_bent
def m_law_within_3 : Ss := (.cons (.ret (.bi .tuple (.cons (.lc .rng1 (.cons (.i 3) .nil) (.nm 2) .nil (.bi .sum (.cons (.lc .seq (.cons (.v 0) .nil) (.nm 1) .nil (.ix (.v 1) (.v 2)) [("place", 1)]) .nil)) [("j", 2)]) .nil))) .nil)
noncomputable def F_law_within_3 : List D → R D := den (sel []) fuel 3 m_law_within_3
def m_law_lifted_2 : Ss := (.cons (.set 2 (.call 0 (.cons (.ix (.v 1) (.i 2)) (.cons (.ix (.v 1) (.i 3)) .nil)))) (.cons (.ret (.call 1 (.cons (.op .add (.lc .rng1 (.cons (.i 3) .nil) (.nm 3) .nil (.op .add (.ix (.v 0) (.v 3)) (.op .mul (.ix (.v 0) (.i 3)) (.ix (.v 2) (.v 3)))) [("k", 3)]) (.lst (.cons (.ix (.v 0) (.i 3)) .nil))) .nil))) .nil))
noncomputable def F_law_lifted_2 : List D → R D := den (sel [F_law_cross, F_law_lowest_2]) fuel 4 m_law_lifted_2
def m_law_spoilt_4 : Ss := (.cons (.setNC 3 3 (.cons (.ix (.lst (.cons (.op .add (.pu (.i 9)) (.pcall 4 0 .nil (.cons (.pu (.i 4)) .nil))) (.cons (.op .add (.pu (.i 4)) (.pcall 4 0 .nil (.cons (.pu (.i 4)) .nil))) .nil))) (.pu (.bi .int (.cons (.cmp .gt (.v 2) (.i 0)) .nil)))) .nil)) (.cons (.setP 4 (.pcall 4 0 .nil (.cons (.pu (.bi .len (.cons (.v 3) .nil))) .nil))) (.cons (.iff (.cmp .eq (.v 2) (.i 1)) (.frz 3 (.cons (.setP 3 (.sl (.pu (.v 3)) .nil (.cons (.pcall 4 0 .nil (.cons (.pu (.i 3)) .nil)) .nil))) .nil)) .nil) (.cons (.iff (.cmp .eq (.v 2) (.i 2)) (.cons (.insP 3 (.cons (.pu (.v 4)) (.cons (.pu (.bi .tuple (.cons (.lc .rng1 (.cons (.i 3) .nil) (.nm 5) .nil (.op .add (.ix (.ix (.v 3) (.v 4)) (.v 5)) (.ix (.ix (.v 3) (.op .sub (.v 4) (.i 1))) (.v 5))) [("j", 5)]) .nil))) .nil))) .nil) .nil) (.cons (.iff (.cmp .eq (.v 2) (.i 3)) (.cons (.insP 3 (.cons (.pu (.v 4)) (.cons (.pu (.call 0 (.cons (.v 3) .nil))) .nil))) .nil) .nil) (.cons (.iff (.cmp .eq (.v 2) (.i 4)) (.cons (.insP 3 (.cons (.pcall 4 0 .nil (.cons (.pu (.bi .len (.cons (.v 3) .nil))) .nil)) (.cons (.pu (.ix (.v 3) (.v 4))) .nil))) .nil) .nil) (.cons (.iff (.cmp .eq (.v 2) (.i 5)) (.cons (.swp 3 (.v 4) (.op .sub (.v 4) (.i 1))) .nil) .nil) (.frz 3 (.cons (.iff (.cmp .eq (.v 2) (.i 6)) (.cons (.setN 3 (.lc .rng1 (.cons (.i 5) .nil) (.nm 6) .nil (.ix (.callF 3 (.cons (.i 5) .nil)) (.op .mod (.op .mul (.i 2) (.v 6)) (.i 5))) [("k", 6)])) (.frz 3 .nil)) .nil) (.cons (.iff (.cmp .eq (.v 2) (.i 7)) (.cons (.setN 3 (.lc .rng1 (.cons (.bi .len (.cons (.v 3) .nil)) .nil) (.nm 6) .nil (.tup (.cons (.v 6) (.cons (.op .mul (.i 3) (.v 6)) (.cons (.i 1) .nil)))) [("k", 6)])) (.frz 3 .nil)) .nil) (.cons (.iff (.cmp .eq (.v 2) (.i 8)) (.cons (.setN 3 (.lc .seq (.cons (.v 3) .nil) (.nm 7) .nil (.ix (.v 3) (.v 4)) [("place", 7)])) (.frz 3 .nil)) .nil) (.cons (.unpP [8, 9] (.ix (.pu (.lst (.cons (.tup (.cons (.i 1) (.cons (.i 1) .nil))) (.cons (.tup (.cons (.i 2) (.cons (.i 3) .nil))) (.cons (.tup (.cons (.i 4) (.cons (.i 3) .nil))) .nil))))) (.pcall 4 0 .nil (.cons (.pu (.i 3)) .nil)))) (.cons (.setN 10 (.lc .seq (.cons (.v 3) .nil) (.tp [11, 12, 13]) .nil (.call 1 (.cons (.v 1) (.cons (.tup (.cons (.op .mul (.v 11) (.v 8)) (.cons (.op .mul (.v 12) (.v 9)) (.cons (.op .mul (.op .mul (.v 13) (.v 8)) (.v 9)) .nil)))) .nil))) [("p", 11), ("q", 12), ("r", 13)])) (.cons (.iff (.cmp .eq (.v 2) (.i 9)) (.cons (.stI 10 (.v 4) (.call 2 (.cons (.ix (.v 10) (.v 4)) (.cons (.v 1) .nil)))) .nil) .nil) (.frz 10 (.cons (.retP 0 (.pu (.v 10))) .nil))))))))))))))))
noncomputable def F_law_spoilt_4 : List D → R D := denP (sel [F_law_within_3, F_law_spot_2, F_law_lifted_2, F_law_bent, F_law_next]) fuel 14 0 m_law_spoilt_4
def m_law_refused_3 : Ss := (.cons (.set 1 .non) (.tryV 0 2 1 (.cons (.exs (.call 0 (.cons (.v 0) .nil))) .nil) (.cons .stk (.cons .stk .nil)) (.cons (.iff (.xq [8, 5, 7, 1, 3, 2, 10, 9, 6] 1) (.cons (.ret (.b false)) .nil) .nil) (.cons (.ret (.and (.xq [4] 1) (.one (.xq [11] 1)))) .nil))))
noncomputable def F_law_refused_3 : List D → R D := den (sel [F_made_board]) fuel 3 m_law_refused_3
def m_law_49 : Ss := (.cons (.forr .seq (.cons (.op .add (.lst (.cons (.i 0) .nil)) (.v 0)) .nil) (.nm 1) (.cons (.setN 2 (.callF 3 (.cons (.v 1) .nil))) (.cons (.setP 3 (.pcall 4 2 .nil .nil)) (.cons (.iff (.cmp .ne (.bi .len (.cons (.call 0 (.cons (.lc .seq (.cons (.callF 7 (.cons (.i 8) .nil)) .nil) (.nm 4) .nil (.call 1 (.cons (.v 3) (.cons (.v 4) .nil))) [("place", 4)]) .nil)) .nil)) (.i 8)) (.cons (.ret (.b false)) .nil) .nil) (.cons (.forP .seq (.cons (.lst (.cons (.pu (.i 0)) (.cons (.op .add (.pu (.i 1)) (.pcall 5 2 .nil (.cons (.pu (.i 9)) .nil))) (.cons (.op .add (.pu (.i 1)) (.pcall 5 2 .nil (.cons (.pu (.i 9)) .nil))) (.cons (.pu (.i 9)) .nil))))) .nil) (.nm 5) (.cons (.iffP (.not (.call 2 (.cons (.pcall 6 2 .nil (.cons (.pu (.v 3)) (.cons (.pu (.v 5)) .nil))) .nil))) (.cons (.ret (.b false)) .nil) .nil) .nil)) .nil))))) (.cons (.ret (.b true)) .nil))
noncomputable def F_law_49 : List D → R D := den (sel [F_made_board, F_law_spot_2, F_law_refused_3, F_law_left, F_law_sheet, F_law_next, F_law_spoilt_4, F_law_bent]) fuel 6 m_law_49
end Bs
namespace K13
open PySem PySem.Spec L2 Bs
open PyProof.Rows hiding St
abbrev PW : Program := PySem.Challenge.pw_boardsight_k13_boards_refused
def top (i : Nat) : Stmt := PW.main.body.getD i (.Pass ⟨0, 0, 0, 0⟩)
def EXS : List (Nat × Str) := [(0, "SightError"), (1, "NoNumber"), (2, "NoSpot"), (3, "NoPlane"), (4, "NoBoard"), (5, "NoFrame"), (6, "TooMany"), (7, "NoName"), (8, "NoDeed"), (9, "NotFree"), (10, "NoText")]
def EXR : List Nat := [3, 4]
def EXB (K : PySem.W.Frag) : Bool := xeB EXS K
def BLS : List Str := ["ValueError", "abs", "enumerate", "int", "isinstance", "len", "list", "range", "set", "sum", "tuple"]
def GIS : List (Str × Int) := [("FEWEST_CORNERS", 3), ("MOST_CORNERS", 8)]
abbrev s_divisor : Stmt := top 13
def d_divisor : He.DefD := ⟨("divisor", none), "divisor", "divisor", defArgs s_divisor, defBody s_divisor, defScope s_divisor, [], []⟩
abbrev s_stands_first : Stmt := top 15
def d_stands_first : He.DefD := ⟨("stands_first", none), "stands_first", "stands_first", defArgs s_stands_first, defBody s_stands_first, defScope s_stands_first, [], []⟩
abbrev s_arrow : Stmt := top 16
def d_arrow : He.DefD := ⟨("arrow", none), "arrow", "arrow", defArgs s_arrow, defBody s_arrow, defScope s_arrow, [], []⟩
abbrev s_dot : Stmt := top 18
def d_dot : He.DefD := ⟨("dot", none), "dot", "dot", defArgs s_dot, defBody s_dot, defScope s_dot, [], []⟩
abbrev s_cross : Stmt := top 19
def d_cross : He.DefD := ⟨("cross", none), "cross", "cross", defArgs s_cross, defBody s_cross, defScope s_cross, [], []⟩
abbrev s_sign_of : Stmt := top 20
def d_sign_of : He.DefD := ⟨("sign_of", none), "sign_of", "sign_of", defArgs s_sign_of, defBody s_sign_of, defScope s_sign_of, [], []⟩
abbrev s_made_plane : Stmt := top 21
def d_made_plane : He.DefD := ⟨("made_plane", none), "made_plane", "made_plane", defArgs s_made_plane, defBody s_made_plane, defScope s_made_plane, [], []⟩
abbrev s_through_spot : Stmt := top 22
def d_through_spot : He.DefD := ⟨("through_spot", none), "through_spot", "through_spot", defArgs s_through_spot, defBody s_through_spot, defScope s_through_spot, [], []⟩
abbrev s_turned_about : Stmt := top 23
def d_turned_about : He.DefD := ⟨("turned_about", none), "turned_about", "turned_about", defArgs s_turned_about, defBody s_turned_about, defScope s_turned_about, [], []⟩
abbrev s_plain_one : Stmt := top 24
def d_plain_one : He.DefD := ⟨("plain_one", none), "plain_one", "plain_one", defArgs s_plain_one, defBody s_plain_one, defScope s_plain_one, [], []⟩
abbrev s_plane_through : Stmt := top 25
def d_plane_through : He.DefD := ⟨("plane_through", none), "plane_through", "plane_through", defArgs s_plane_through, defBody s_plane_through, defScope s_plane_through, [], []⟩
abbrev s_height_over : Stmt := top 26
def d_height_over : He.DefD := ⟨("height_over", none), "height_over", "height_over", defArgs s_height_over, defBody s_height_over, defScope s_height_over, [], []⟩
abbrev s_side_of : Stmt := top 27
def d_side_of : He.DefD := ⟨("side_of", none), "side_of", "side_of", defArgs s_side_of, defBody s_side_of, defScope s_side_of, [], []⟩
abbrev s_fences : Stmt := top 31
def d_fences : He.DefD := ⟨("fences", none), "fences", "fences", defArgs s_fences, defBody s_fences, defScope s_fences, [], []⟩
abbrev s_is_round : Stmt := top 32
def d_is_round : He.DefD := ⟨("is_round", none), "is_round", "is_round", defArgs s_is_round, defBody s_is_round, defScope s_is_round, [], []⟩
abbrev s_in_form : Stmt := top 33
def d_in_form : He.DefD := ⟨("in_form", none), "in_form", "in_form", defArgs s_in_form, defBody s_in_form, defScope s_in_form, [], []⟩
abbrev s_made_board : Stmt := top 34
def d_made_board : He.DefD := ⟨("made_board", none), "made_board", "made_board", defArgs s_made_board, defBody s_made_board, defScope s_made_board, [], []⟩
abbrev s_law_next : Stmt := top 36
def d_law_next : He.DefD := ⟨("_law_next", none), "_law_next", "_law_next", defArgs s_law_next, defBody s_law_next, defScope s_law_next, [], []⟩
abbrev s_law_left : Stmt := top 37
def d_law_left : He.DefD := ⟨("_law_left", none), "_law_left", "_law_left", defArgs s_law_left, defBody s_law_left, defScope s_law_left, [], []⟩
abbrev s_law_divisor_2 : Stmt := top 38
def d_law_divisor_2 : He.DefD := ⟨("_law_divisor", none), "_law_divisor", "_law_divisor", defArgs s_law_divisor_2, defBody s_law_divisor_2, defScope s_law_divisor_2, [], []⟩
abbrev s_law_lowest_2 : Stmt := top 39
def d_law_lowest_2 : He.DefD := ⟨("_law_lowest", none), "_law_lowest", "_law_lowest", defArgs s_law_lowest_2, defBody s_law_lowest_2, defScope s_law_lowest_2, [], []⟩
abbrev s_law_cross : Stmt := top 40
def d_law_cross : He.DefD := ⟨("_law_cross", none), "_law_cross", "_law_cross", defArgs s_law_cross, defBody s_law_cross, defScope s_law_cross, [], []⟩
abbrev s_law_dot : Stmt := top 41
def d_law_dot : He.DefD := ⟨("_law_dot", none), "_law_dot", "_law_dot", defArgs s_law_dot, defBody s_law_dot, defScope s_law_dot, [], []⟩
abbrev s_law_sheet : Stmt := top 42
def d_law_sheet : He.DefD := ⟨("_law_sheet", none), "_law_sheet", "_law_sheet", defArgs s_law_sheet, defBody s_law_sheet, defScope s_law_sheet, [], []⟩
abbrev s_law_shape : Stmt := top 43
def d_law_shape : He.DefD := ⟨("_law_shape", none), "_law_shape", "_law_shape", defArgs s_law_shape, defBody s_law_shape, defScope s_law_shape, [], []⟩
abbrev s_law_spot_2 : Stmt := top 44
def d_law_spot_2 : He.DefD := ⟨("_law_spot", none), "_law_spot", "_law_spot", defArgs s_law_spot_2, defBody s_law_spot_2, defScope s_law_spot_2, [], []⟩
abbrev s_law_first_2 : Stmt := top 45
def d_law_first_2 : He.DefD := ⟨("_law_first", none), "_law_first", "_law_first", defArgs s_law_first_2, defBody s_law_first_2, defScope s_law_first_2, [], []⟩
abbrev s_law_form : Stmt := top 46
def d_law_form : He.DefD := ⟨("_law_form", none), "_law_form", "_law_form", defArgs s_law_form, defBody s_law_form, defScope s_law_form, [], []⟩
abbrev s_law_board : Stmt := top 47
def d_law_board : He.DefD := ⟨("_law_board", none), "_law_board", "_law_board", defArgs s_law_board, defBody s_law_board, defScope s_law_board, [], []⟩
abbrev s_law_bent : Stmt := top 48
def d_law_bent : He.DefD := ⟨("_law_bent", none), "_law_bent", "_law_bent", defArgs s_law_bent, defBody s_law_bent, defScope s_law_bent, [], []⟩
abbrev s_law_within_3 : Stmt := top 49
def d_law_within_3 : He.DefD := ⟨("_law_within", none), "_law_within", "_law_within", defArgs s_law_within_3, defBody s_law_within_3, defScope s_law_within_3, [], []⟩
abbrev s_law_lifted_2 : Stmt := top 50
def d_law_lifted_2 : He.DefD := ⟨("_law_lifted", none), "_law_lifted", "_law_lifted", defArgs s_law_lifted_2, defBody s_law_lifted_2, defScope s_law_lifted_2, [], []⟩
abbrev s_law_spoilt_4 : Stmt := top 51
def d_law_spoilt_4 : He.DefD := ⟨("_law_spoilt", none), "_law_spoilt", "_law_spoilt", defArgs s_law_spoilt_4, defBody s_law_spoilt_4, defScope s_law_spoilt_4, [], []⟩
abbrev s_law_refused_3 : Stmt := top 52
def d_law_refused_3 : He.DefD := ⟨("_law_refused", none), "_law_refused", "_law_refused", defArgs s_law_refused_3, defBody s_law_refused_3, defScope s_law_refused_3, [], []⟩
abbrev s_law_49 : Stmt := top 53
def d_law_49 : He.DefD := ⟨("law", none), "law", "law", defArgs s_law_49, defBody s_law_49, defScope s_law_49, [], []⟩
def fn : List He.DefD := [d_divisor, d_stands_first, d_arrow, d_dot, d_cross, d_sign_of, d_made_plane, d_through_spot, d_turned_about, d_plain_one, d_plane_through, d_height_over, d_side_of, d_fences, d_is_round, d_in_form, d_made_board, d_law_next, d_law_left, d_law_divisor_2, d_law_lowest_2, d_law_cross, d_law_dot, d_law_sheet, d_law_shape, d_law_spot_2, d_law_first_2, d_law_form, d_law_board, d_law_bent, d_law_within_3, d_law_lifted_2, d_law_spoilt_4, d_law_refused_3, d_law_49]
def nms : List Str := [("divisor" : Str), ("stands_first" : Str), ("arrow" : Str), ("dot" : Str), ("cross" : Str), ("sign_of" : Str), ("made_plane" : Str), ("through_spot" : Str), ("turned_about" : Str), ("plain_one" : Str), ("plane_through" : Str), ("height_over" : Str), ("side_of" : Str), ("fences" : Str), ("is_round" : Str), ("in_form" : Str), ("made_board" : Str), ("_law_next" : Str), ("_law_left" : Str), ("_law_divisor" : Str), ("_law_lowest" : Str), ("_law_cross" : Str), ("_law_dot" : Str), ("_law_sheet" : Str), ("_law_shape" : Str), ("_law_spot" : Str), ("_law_first" : Str), ("_law_form" : Str), ("_law_board" : Str), ("_law_bent" : Str), ("_law_within" : Str), ("_law_lifted" : Str), ("_law_spoilt" : Str), ("_law_refused" : Str), ("law" : Str)]
def fa : List He.Fa := stdFa EXS EXR BLS GIS nms
abbrev Rr : PySem.W.OpenRow := PySem.W.OpenLaw.row PySem.Challenge.rw_boardsight_k13_boards_refused
abbrev hk : PySem.W.Hook := hookM 4 fa fn EXB
def ob (s : PySem.W.SharedT) : AlM := obsM 4 fa fn EXB (HandSHeadRun.getT s)
theorem ob_eq (s : PySem.W.SharedT) : ob s = hk.obs s.abs := obsM_eq (HandSHeadRun.getT_eq s)
def loose : List Str := [("SightError" : Str), ("NoNumber" : Str), ("NoSpot" : Str), ("NoPlane" : Str), ("NoBoard" : Str), ("NoFrame" : Str), ("TooMany" : Str), ("NoName" : Str), ("NoDeed" : Str), ("NotFree" : Str), ("NoText" : Str), ("divisor" : Str), ("stands_first" : Str), ("arrow" : Str), ("dot" : Str), ("cross" : Str), ("sign_of" : Str), ("made_plane" : Str), ("through_spot" : Str), ("turned_about" : Str), ("plain_one" : Str), ("plane_through" : Str), ("height_over" : Str), ("side_of" : Str), ("FEWEST_CORNERS" : Str), ("MOST_CORNERS" : Str), ("fences" : Str), ("is_round" : Str), ("in_form" : Str), ("made_board" : Str), ("_law_next" : Str), ("_law_left" : Str), ("_law_divisor" : Str), ("_law_lowest" : Str), ("_law_cross" : Str), ("_law_dot" : Str), ("_law_sheet" : Str), ("_law_shape" : Str), ("_law_spot" : Str), ("_law_first" : Str), ("_law_form" : Str), ("_law_board" : Str), ("_law_bent" : Str), ("_law_within" : Str), ("_law_lifted" : Str), ("_law_spoilt" : Str), ("_law_refused" : Str)]
theorem run (w : World) : HandSHeadRun.RunEq Rr (PySem.W.view Rr.prog [53]) hk ob 4000 loose w := by
  intro os
  kernel_rfl
end K13
namespace Bs
open PySem PySem.Spec L2
open PyProof.Rows hiding St
local macro_rules | `(tactic| walk_at "side") => `(tactic| first | assumption | decide | omega)
local macro_rules | `(tactic| walk_at "bdt") => `(tactic| first
  | assumption
  | (with_reducible apply bd_mul <;> walk_at "bdt")
  | (with_reducible apply bd_add <;> walk_at "bdt")
  | (with_reducible apply bd_sub <;> walk_at "bdt")
  | (with_reducible apply bd_neg <;> walk_at "bdt")
  | (with_reducible apply bd_fdiv <;> walk_at "bdt")
  | (with_reducible apply bd_iteP <;> walk_at "bdt")
  | (with_reducible apply bd_fmod <;> first | walk_at "side" | walk_at "bdt")
  | exact bd_self)
local macro_rules | `(tactic| walk_at "dis") => `(tactic| first
  | assumption
  | (with_reducible apply mulOk; (focus walk_at "bdt"); (focus walk_at "bdt"); decide +kernel)
  | (with_reducible apply divOk; (focus walk_at "side"); (focus walk_at "bdt"); decide +kernel)
  | (with_reducible apply bd_in; (focus walk_at "bdt"); decide +kernel)
  | decide | omega | (simp only [List.length_cons, List.length_nil, List.length_map]; omega))
local macro_rules | `(tactic| walk_at "ev") => `(tactic| simp (disch := walk_at "dis") only [startS, List.map_cons, List.map_nil, List.length_cons, List.length_nil, Nat.reduceAdd, Nat.reduceSub, Nat.zero_add, List.replicate, List.cons_append, List.nil_append, WB_nil, 
  WB_cons, WB_frz, WS_pass, WS_ret, WS_retN, WS_set, WS_for, valI_rng1E, valI_rng2E, valI_seqE, valI_enumE, valI_zipE, bind_iters, lpc_nx, lpc_ct, lpc_bk, lpc_rt, lpc_ex, LP_cons_nm, 
  LP_nilE, PP_ok, setpk_app, retpk_app, retpo_some, ifpk_app, WS_setP, WS_retP, WS_iffP, poolC_some, poolR_tup, poolR_pair, poolO_some, poolL_tup, poolL_pair, seeE_zero, seeE_succ, 
  compP_nil, compP_cons, turnP_nm, wipeS_nil, wipeS_cons, evP, evPs, Option.isSome_some, WS_stI, STI_some, WS_stS, STS_some, sts1_app, sts2_app, List.drop_succ_cons, List.drop_zero, 
  stk1_app, stk2_app, stL_zero, stL_succ, WS_setN, newS_def, lsOf_list, ownk_app, WS_appE, ownAt_zero, ownAt_succ, APP_some, appk_app, bi_listL, bi_listT, bi_tupL, WS_unp, unp_sat, 
  WS_par, WS_exs, WS_iff, WS_raise, WS_brk, WS_cont, RP_ok, RP_exc, only_nx, only_rt, only_bk, only_ct, only_ex, onlyL_nx, onlyL_rt, onlyL_bk, onlyL_ct, onlyL_ex, mid_nx, mid_rt, 
  mid_bk, mid_ct, mid_ex, lp_nx, lp_rt, lp_bk, lp_ct, lp_ex, then_nx, then_rt, then_bk, then_ct, then_ex, setk_app, ownk_app, exk_app, ifk_app, unpk_app, nxk_app, lpk_app, par2_app, 
  par1_app, R.bind_ok, R.bind_exc, valS_def, lfree_int, lfree_bool, lfree_str, lfree_none, lfree_tup, lfree_list, lfrees_nil, lfrees_cons, Bool.and_true, Bool.true_and, Bool.true_or, 
  Bool.or_true, Bool.false_or, Bool.or_false, if_true, if_false, ite_true, ite_false, if_pos, setAllS, set_zero, set_succ, fullE_nil, fullE_cons, full_fr, full_ow, full_un, 
  cleanE_nil, cleanE_cons, clean_fr, clean_ow, clean_un, noOwn_nil, noOwn_fr, noOwn_un, noOwn_ow, frz_zero, frz_succ, frz_zero_fr, frz_zero_un, getE_zero, getE_succ, sel_zero, 
  sel_succ, ofB_bool, evE, evEs, bop_add, bop_sub, bop_mulE, bop_fdivE, bop_mod, bop_powE, bop_addL, cop_lt, cop_le, cop_gt, cop_ge, cop_eqI, cop_neI, cop_eqB, cop_neB, cop_neLi0, 
  cop_eqLi0, cop_eqT2, cop_neT2, cop_eqT4, cop_neT4, ix_Li, ix0, ix1, ix2, ix3, ixL0, ixL1, ixL2, ixL3, iters_list, iters_tup, iters_enum, iters_rng1, asg_nm, wipe_nil, wipe_cons, 
  tst_nil, tst_one, noX_ok, lcD_lit, compL_nil, compL_cons, partD_nil, partD_one, slop_T4_3, slop_L4_3, List.sum_cons, List.sum_nil, cop_eqL3, cop_neL2, cop_eqL1n, cop_eqL2n, 
  cop_eqL3n, rngD_0, rngD_1, rngD_2, rngD_3, rngD_4, rngD_5, iters_rng2_13, iters_rng2_23, iters_rng2_33, bi_max1E, maxL_cons, Option.toList, List.append_nil, optB_some, bi_allE, 
  boolsD_nil, boolsD_cons, boolsD_map, optI_some, bi_sumE, intsD_nil, intsD_cons, intsD_map, Option.map_some, Option.toList_some, Option.toList_none, setE_zero, setE_succ, 
  List.all_cons, List.all_nil, id, Int.reduceToNat, Int.cast_ofNat_Int, ite_okB, ite_self, Bool.if_true_left, Bool.if_true_right, Bool.if_false_left, Bool.if_false_right, 
  Bool.and_eq_true, Bool.or_eq_true, Bool.or_eq_false_iff, Bool.and_eq_false_iff, beq_self_eq_true, Bool.true_eq_false, not_true_eq_false, not_false_eq_true, decide_true, 
  decide_false, isi_int_int, isi_bool_int, isi_bool_bool, isi_tup_tup, List.length_map, bi_len, bi_lenT, bi_abs, bi_max2, bi_min2, bi_intB, bi_intI, decide_eq_true_eq, 
  decide_eq_false_iff_not, Bool.not_eq_true', Bool.not_eq_false', Bool.not_eq_true, Bool.not_true, Bool.not_false, ne_eq, Bool.false_eq_true, false_implies, true_implies, and_true, 
  true_and, false_and, and_false, imp_false, implies_true, PL_ok, unppk_app, apppk_app, apppo_ok, lppk_app, exspk_app, retqk_app, stipk_app, inspk_app, inspo_ok, EXT_some, extk_ok, 
  OWN_some, WS_unpP, WS_appP, WS_forP, WS_exsP, WS_retQ, WS_stIP, WS_stQ, stqk_app, stqj_app, WS_insP, WS_ext, WS_clr, WS_rev, evIP_def, dropR_pair, dropR_tup, negR_int, popO_some, 
  WS_retO, WS_retF, lsk_app, rvlD_list, rvtD_list, rvsD_list, bop_shrE, bop_addS, cop_ltT2, asg_tp2, asg_tp3, asg_tp4, iters_enumT, enumR, List.length_range, WS_retPN, lisD_list, 
  unp_satL])
local macro_rules | `(tactic| walk_at "es") => `(tactic| simp (disch := walk_at "dis") only [startS, List.map_cons, List.map_nil, List.length_cons, List.length_nil, Nat.reduceAdd, Nat.reduceSub, Nat.zero_add, List.replicate, List.cons_append, List.nil_append, WB_nil, 
  WB_cons, WB_frz, WS_pass, WS_ret, WS_retN, WS_set, WS_for, valI_rng1E, valI_rng2E, valI_seqE, valI_enumE, valI_zipE, bind_iters, lpc_nx, lpc_ct, lpc_bk, lpc_rt, lpc_ex, LP_cons_nm, 
  LP_nilE, PP_ok, setpk_app, retpk_app, retpo_some, WS_setP, WS_retP, WS_iffP, poolC_some, poolR_tup, poolR_pair, poolO_some, poolL_tup, poolL_pair, seeE_zero, seeE_succ, compP_nil, 
  compP_cons, turnP_nm, wipeS_nil, wipeS_cons, evP, evPs, Option.isSome_some, WS_stI, STI_some, WS_stS, STS_some, sts1_app, sts2_app, List.drop_succ_cons, List.drop_zero, stk1_app, 
  stk2_app, stL_zero, stL_succ, WS_setN, newS_def, lsOf_list, ownk_app, WS_appE, ownAt_zero, ownAt_succ, APP_some, appk_app, bi_listL, bi_listT, bi_tupL, WS_unp, unp_sat, WS_par, 
  WS_exs, WS_raise, WS_brk, WS_cont, RP_ok, RP_exc, only_nx, only_rt, only_bk, only_ct, only_ex, onlyL_nx, onlyL_rt, onlyL_bk, onlyL_ct, onlyL_ex, mid_nx, mid_rt, mid_bk, mid_ct, 
  mid_ex, lp_nx, lp_rt, lp_bk, lp_ct, lp_ex, then_nx, then_rt, then_bk, then_ct, then_ex, setk_app, ownk_app, exk_app, ifk_app, unpk_app, nxk_app, lpk_app, par2_app, par1_app, 
  R.bind_ok, R.bind_exc, valS_def, lfree_int, lfree_bool, lfree_str, lfree_none, lfree_tup, lfree_list, lfrees_nil, lfrees_cons, Bool.and_true, Bool.true_and, Bool.true_or, 
  Bool.or_true, Bool.false_or, Bool.or_false, if_true, if_false, ite_true, ite_false, if_pos, setAllS, set_zero, set_succ, fullE_nil, fullE_cons, full_fr, full_ow, full_un, 
  cleanE_nil, cleanE_cons, clean_fr, clean_ow, clean_un, noOwn_nil, noOwn_fr, noOwn_un, noOwn_ow, frz_zero, frz_succ, frz_zero_fr, frz_zero_un, getE_zero, getE_succ, sel_zero, 
  sel_succ, ofB_bool, evE, evEs, bop_add, bop_sub, bop_mulE, bop_fdivE, bop_mod, bop_powE, bop_addL, cop_lt, cop_le, cop_gt, cop_ge, cop_eqI, cop_neI, cop_eqB, cop_neB, cop_neLi0, 
  cop_eqLi0, cop_eqT2, cop_neT2, cop_eqT4, cop_neT4, ix_Li, ix0, ix1, ix2, ix3, ixL0, ixL1, ixL2, ixL3, iters_list, iters_tup, iters_enum, iters_rng1, asg_nm, wipe_nil, wipe_cons, 
  tst_nil, tst_one, noX_ok, lcD_lit, compL_nil, compL_cons, partD_nil, partD_one, slop_T4_3, slop_L4_3, List.sum_cons, List.sum_nil, cop_eqL3, cop_neL2, cop_eqL1n, cop_eqL2n, 
  cop_eqL3n, rngD_0, rngD_1, rngD_2, rngD_3, rngD_4, rngD_5, iters_rng2_13, iters_rng2_23, iters_rng2_33, bi_max1E, maxL_cons, Option.toList, List.append_nil, optB_some, bi_allE, 
  boolsD_nil, boolsD_cons, boolsD_map, optI_some, bi_sumE, intsD_nil, intsD_cons, intsD_map, Option.map_some, Option.toList_some, Option.toList_none, setE_zero, setE_succ, 
  List.all_cons, List.all_nil, id, Int.reduceToNat, Int.cast_ofNat_Int, ite_okB, ite_self, Bool.if_true_left, Bool.if_true_right, Bool.if_false_left, Bool.if_false_right, 
  Bool.and_eq_true, Bool.or_eq_true, Bool.or_eq_false_iff, Bool.and_eq_false_iff, beq_self_eq_true, Bool.true_eq_false, not_true_eq_false, not_false_eq_true, decide_true, 
  decide_false, isi_int_int, isi_bool_int, isi_bool_bool, isi_tup_tup, List.length_map, bi_len, bi_lenT, bi_abs, bi_max2, bi_min2, bi_intB, bi_intI, decide_eq_true_eq, 
  decide_eq_false_iff_not, Bool.not_eq_true', Bool.not_eq_false', Bool.not_eq_true, Bool.not_true, Bool.not_false, ne_eq, Bool.false_eq_true, false_implies, true_implies, and_true, 
  true_and, false_and, and_false, imp_false, implies_true, PL_ok, unppk_app, apppk_app, apppo_ok, lppk_app, exspk_app, retqk_app, stipk_app, inspk_app, inspo_ok, EXT_some, extk_ok, 
  OWN_some, WS_unpP, WS_appP, WS_forP, WS_exsP, WS_retQ, WS_stIP, WS_stQ, stqk_app, stqj_app, WS_insP, WS_ext, WS_clr, WS_rev, evIP_def, dropR_pair, dropR_tup, negR_int, popO_some, 
  WS_retO, WS_retF, lsk_app, rvlD_list, rvtD_list, rvsD_list, bop_shrE, bop_addS, cop_ltT2, asg_tp2, asg_tp3, asg_tp4, iters_enumT, enumR, List.length_range, WS_retPN, lisD_list, 
  unp_satL])
local macro_rules | `(tactic| walk_at "evh") => `(tactic| simp (disch := walk_at "dis") only [startS, List.map_cons, List.map_nil, List.length_cons, List.length_nil, Nat.reduceAdd, Nat.reduceSub, Nat.zero_add, List.replicate, List.cons_append, List.nil_append, WB_nil, 
  WB_cons, WB_frz, WS_pass, WS_ret, WS_retN, WS_set, WS_for, valI_rng1E, valI_rng2E, valI_seqE, valI_enumE, valI_zipE, bind_iters, lpc_nx, lpc_ct, lpc_bk, lpc_rt, lpc_ex, LP_cons_nm, 
  LP_nilE, PP_ok, setpk_app, retpk_app, retpo_some, ifpk_app, WS_setP, WS_retP, WS_iffP, poolC_some, poolR_tup, poolR_pair, poolO_some, poolL_tup, poolL_pair, seeE_zero, seeE_succ, 
  compP_nil, compP_cons, turnP_nm, wipeS_nil, wipeS_cons, evP, evPs, Option.isSome_some, WS_stI, STI_some, WS_stS, STS_some, sts1_app, sts2_app, List.drop_succ_cons, List.drop_zero, 
  stk1_app, stk2_app, stL_zero, stL_succ, WS_setN, newS_def, lsOf_list, ownk_app, WS_appE, ownAt_zero, ownAt_succ, APP_some, appk_app, bi_listL, bi_listT, bi_tupL, WS_unp, unp_sat, 
  WS_par, WS_exs, WS_iff, WS_raise, WS_brk, WS_cont, RP_ok, RP_exc, only_nx, only_rt, only_bk, only_ct, only_ex, onlyL_nx, onlyL_rt, onlyL_bk, onlyL_ct, onlyL_ex, mid_nx, mid_rt, 
  mid_bk, mid_ct, mid_ex, lp_nx, lp_rt, lp_bk, lp_ct, lp_ex, then_nx, then_rt, then_bk, then_ct, then_ex, setk_app, ownk_app, exk_app, ifk_app, unpk_app, nxk_app, lpk_app, par2_app, 
  par1_app, R.bind_ok, R.bind_exc, valS_def, lfree_int, lfree_bool, lfree_str, lfree_none, lfree_tup, lfree_list, lfrees_nil, lfrees_cons, Bool.and_true, Bool.true_and, Bool.true_or, 
  Bool.or_true, Bool.false_or, Bool.or_false, if_true, if_false, ite_true, ite_false, if_pos, setAllS, set_zero, set_succ, fullE_nil, fullE_cons, full_fr, full_ow, full_un, 
  cleanE_nil, cleanE_cons, clean_fr, clean_ow, clean_un, noOwn_nil, noOwn_fr, noOwn_un, noOwn_ow, frz_zero, frz_succ, frz_zero_fr, frz_zero_un, getE_zero, getE_succ, sel_zero, 
  sel_succ, ofB_bool, evE, evEs, bop_add, bop_sub, bop_mulE, bop_fdivE, bop_mod, bop_powE, bop_addL, cop_lt, cop_le, cop_gt, cop_ge, cop_eqI, cop_neI, cop_eqB, cop_neB, cop_neLi0, 
  cop_eqLi0, cop_eqT2, cop_neT2, cop_eqT4, cop_neT4, ix_Li, ix0, ix1, ix2, ix3, ixL0, ixL1, ixL2, ixL3, iters_list, iters_tup, iters_enum, iters_rng1, asg_nm, wipe_nil, wipe_cons, 
  tst_nil, tst_one, noX_ok, lcD_lit, compL_nil, compL_cons, partD_nil, partD_one, slop_T4_3, slop_L4_3, List.sum_cons, List.sum_nil, cop_eqL3, cop_neL2, cop_eqL1n, cop_eqL2n, 
  cop_eqL3n, rngD_0, rngD_1, rngD_2, rngD_3, rngD_4, rngD_5, iters_rng2_13, iters_rng2_23, iters_rng2_33, bi_max1E, maxL_cons, Option.toList, List.append_nil, optB_some, bi_allE, 
  boolsD_nil, boolsD_cons, boolsD_map, optI_some, bi_sumE, intsD_nil, intsD_cons, intsD_map, Option.map_some, Option.toList_some, Option.toList_none, setE_zero, setE_succ, 
  List.all_cons, List.all_nil, id, Int.reduceToNat, Int.cast_ofNat_Int, ite_okB, ite_self, Bool.if_true_left, Bool.if_true_right, Bool.if_false_left, Bool.if_false_right, 
  Bool.and_eq_true, Bool.or_eq_true, Bool.or_eq_false_iff, Bool.and_eq_false_iff, beq_self_eq_true, Bool.true_eq_false, not_true_eq_false, not_false_eq_true, decide_true, 
  decide_false, isi_int_int, isi_bool_int, isi_bool_bool, isi_tup_tup, List.length_map, bi_len, bi_lenT, bi_abs, bi_max2, bi_min2, bi_intB, bi_intI, decide_eq_true_eq, 
  decide_eq_false_iff_not, Bool.not_eq_true', Bool.not_eq_false', Bool.not_eq_true, Bool.not_true, Bool.not_false, ne_eq, Bool.false_eq_true, false_implies, true_implies, and_true, 
  true_and, false_and, and_false, imp_false, implies_true, PL_ok, unppk_app, apppk_app, apppo_ok, lppk_app, exspk_app, retqk_app, stipk_app, inspk_app, inspo_ok, EXT_some, extk_ok, 
  OWN_some, WS_unpP, WS_appP, WS_forP, WS_exsP, WS_retQ, WS_stIP, WS_stQ, stqk_app, stqj_app, WS_insP, WS_ext, WS_clr, WS_rev, evIP_def, dropR_pair, dropR_tup, negR_int, popO_some, 
  WS_retO, WS_retF, lsk_app, rvlD_list, rvtD_list, rvsD_list, bop_shrE, bop_addS, cop_ltT2, asg_tp2, asg_tp3, asg_tp4, iters_enumT, enumR, List.length_range, WS_retPN, lisD_list, 
  unp_satL, *])
local macro_rules | `(tactic| walk_at "esh") => `(tactic| simp (disch := walk_at "dis") only [startS, List.map_cons, List.map_nil, List.length_cons, List.length_nil, Nat.reduceAdd, Nat.reduceSub, Nat.zero_add, List.replicate, List.cons_append, List.nil_append, WB_nil, 
  WB_cons, WB_frz, WS_pass, WS_ret, WS_retN, WS_set, WS_for, valI_rng1E, valI_rng2E, valI_seqE, valI_enumE, valI_zipE, bind_iters, lpc_nx, lpc_ct, lpc_bk, lpc_rt, lpc_ex, LP_cons_nm, 
  LP_nilE, PP_ok, setpk_app, retpk_app, retpo_some, WS_setP, WS_retP, WS_iffP, poolC_some, poolR_tup, poolR_pair, poolO_some, poolL_tup, poolL_pair, seeE_zero, seeE_succ, compP_nil, 
  compP_cons, turnP_nm, wipeS_nil, wipeS_cons, evP, evPs, Option.isSome_some, WS_stI, STI_some, WS_stS, STS_some, sts1_app, sts2_app, List.drop_succ_cons, List.drop_zero, stk1_app, 
  stk2_app, stL_zero, stL_succ, WS_setN, newS_def, lsOf_list, ownk_app, WS_appE, ownAt_zero, ownAt_succ, APP_some, appk_app, bi_listL, bi_listT, bi_tupL, WS_unp, unp_sat, WS_par, 
  WS_exs, WS_raise, WS_brk, WS_cont, RP_ok, RP_exc, only_nx, only_rt, only_bk, only_ct, only_ex, onlyL_nx, onlyL_rt, onlyL_bk, onlyL_ct, onlyL_ex, mid_nx, mid_rt, mid_bk, mid_ct, 
  mid_ex, lp_nx, lp_rt, lp_bk, lp_ct, lp_ex, then_nx, then_rt, then_bk, then_ct, then_ex, setk_app, ownk_app, exk_app, ifk_app, unpk_app, nxk_app, lpk_app, par2_app, par1_app, 
  R.bind_ok, R.bind_exc, valS_def, lfree_int, lfree_bool, lfree_str, lfree_none, lfree_tup, lfree_list, lfrees_nil, lfrees_cons, Bool.and_true, Bool.true_and, Bool.true_or, 
  Bool.or_true, Bool.false_or, Bool.or_false, if_true, if_false, ite_true, ite_false, if_pos, setAllS, set_zero, set_succ, fullE_nil, fullE_cons, full_fr, full_ow, full_un, 
  cleanE_nil, cleanE_cons, clean_fr, clean_ow, clean_un, noOwn_nil, noOwn_fr, noOwn_un, noOwn_ow, frz_zero, frz_succ, frz_zero_fr, frz_zero_un, getE_zero, getE_succ, sel_zero, 
  sel_succ, ofB_bool, evE, evEs, bop_add, bop_sub, bop_mulE, bop_fdivE, bop_mod, bop_powE, bop_addL, cop_lt, cop_le, cop_gt, cop_ge, cop_eqI, cop_neI, cop_eqB, cop_neB, cop_neLi0, 
  cop_eqLi0, cop_eqT2, cop_neT2, cop_eqT4, cop_neT4, ix_Li, ix0, ix1, ix2, ix3, ixL0, ixL1, ixL2, ixL3, iters_list, iters_tup, iters_enum, iters_rng1, asg_nm, wipe_nil, wipe_cons, 
  tst_nil, tst_one, noX_ok, lcD_lit, compL_nil, compL_cons, partD_nil, partD_one, slop_T4_3, slop_L4_3, List.sum_cons, List.sum_nil, cop_eqL3, cop_neL2, cop_eqL1n, cop_eqL2n, 
  cop_eqL3n, rngD_0, rngD_1, rngD_2, rngD_3, rngD_4, rngD_5, iters_rng2_13, iters_rng2_23, iters_rng2_33, bi_max1E, maxL_cons, Option.toList, List.append_nil, optB_some, bi_allE, 
  boolsD_nil, boolsD_cons, boolsD_map, optI_some, bi_sumE, intsD_nil, intsD_cons, intsD_map, Option.map_some, Option.toList_some, Option.toList_none, setE_zero, setE_succ, 
  List.all_cons, List.all_nil, id, Int.reduceToNat, Int.cast_ofNat_Int, ite_okB, ite_self, Bool.if_true_left, Bool.if_true_right, Bool.if_false_left, Bool.if_false_right, 
  Bool.and_eq_true, Bool.or_eq_true, Bool.or_eq_false_iff, Bool.and_eq_false_iff, beq_self_eq_true, Bool.true_eq_false, not_true_eq_false, not_false_eq_true, decide_true, 
  decide_false, isi_int_int, isi_bool_int, isi_bool_bool, isi_tup_tup, List.length_map, bi_len, bi_lenT, bi_abs, bi_max2, bi_min2, bi_intB, bi_intI, decide_eq_true_eq, 
  decide_eq_false_iff_not, Bool.not_eq_true', Bool.not_eq_false', Bool.not_eq_true, Bool.not_true, Bool.not_false, ne_eq, Bool.false_eq_true, false_implies, true_implies, and_true, 
  true_and, false_and, and_false, imp_false, implies_true, PL_ok, unppk_app, apppk_app, apppo_ok, lppk_app, exspk_app, retqk_app, stipk_app, inspk_app, inspo_ok, EXT_some, extk_ok, 
  OWN_some, WS_unpP, WS_appP, WS_forP, WS_exsP, WS_retQ, WS_stIP, WS_stQ, stqk_app, stqj_app, WS_insP, WS_ext, WS_clr, WS_rev, evIP_def, dropR_pair, dropR_tup, negR_int, popO_some, 
  WS_retO, WS_retF, lsk_app, rvlD_list, rvtD_list, rvsD_list, bop_shrE, bop_addS, cop_ltT2, asg_tp2, asg_tp3, asg_tp4, iters_enumT, enumR, List.length_range, WS_retPN, lisD_list, 
  unp_satL, *])
local macro_rules | `(tactic| walk_at "eslh") => `(tactic| simp (disch := walk_at "dis") only [startS, List.map_cons, List.map_nil, List.length_cons, List.length_nil, Nat.reduceAdd, Nat.reduceSub, Nat.zero_add, List.replicate, List.cons_append, List.nil_append, WB_nil, 
  WB_cons, WB_frz, WS_pass, WS_ret, WS_retN, WS_set, WS_for, valI_rng1E, valI_rng2E, valI_seqE, valI_enumE, valI_zipE, bind_iters, lpc_nx, lpc_ct, lpc_bk, lpc_rt, lpc_ex, PP_ok, 
  setpk_app, retpk_app, retpo_some, WS_setP, WS_retP, WS_iffP, poolC_some, poolR_tup, poolR_pair, poolO_some, poolL_tup, poolL_pair, seeE_zero, seeE_succ, compP_nil, compP_cons, 
  turnP_nm, wipeS_nil, wipeS_cons, evP, evPs, Option.isSome_some, WS_stI, STI_some, WS_stS, STS_some, sts1_app, sts2_app, List.drop_succ_cons, List.drop_zero, stk1_app, stk2_app, 
  stL_zero, stL_succ, WS_setN, newS_def, lsOf_list, ownk_app, WS_appE, ownAt_zero, ownAt_succ, APP_some, appk_app, bi_listL, bi_listT, bi_tupL, WS_unp, unp_sat, WS_par, WS_exs, 
  WS_raise, WS_brk, WS_cont, RP_ok, RP_exc, only_nx, only_rt, only_bk, only_ct, only_ex, onlyL_nx, onlyL_rt, onlyL_bk, onlyL_ct, onlyL_ex, mid_nx, mid_rt, mid_bk, mid_ct, mid_ex, 
  lp_nx, lp_rt, lp_bk, lp_ct, lp_ex, then_nx, then_rt, then_bk, then_ct, then_ex, setk_app, ownk_app, exk_app, ifk_app, unpk_app, nxk_app, lpk_app, par2_app, par1_app, R.bind_ok, 
  R.bind_exc, valS_def, lfree_int, lfree_bool, lfree_str, lfree_none, lfree_tup, lfree_list, lfrees_nil, lfrees_cons, Bool.and_true, Bool.true_and, Bool.true_or, Bool.or_true, 
  Bool.false_or, Bool.or_false, if_true, if_false, ite_true, ite_false, if_pos, setAllS, set_zero, set_succ, fullE_nil, fullE_cons, full_fr, full_ow, full_un, cleanE_nil, cleanE_cons, 
  clean_fr, clean_ow, clean_un, noOwn_nil, noOwn_fr, noOwn_un, noOwn_ow, frz_zero, frz_succ, frz_zero_fr, frz_zero_un, getE_zero, getE_succ, sel_zero, sel_succ, ofB_bool, evE, evEs, 
  bop_add, bop_sub, bop_mulE, bop_fdivE, bop_mod, bop_powE, bop_addL, cop_lt, cop_le, cop_gt, cop_ge, cop_eqI, cop_neI, cop_eqB, cop_neB, cop_neLi0, cop_eqLi0, cop_eqT2, cop_neT2, 
  cop_eqT4, cop_neT4, ix_Li, ix0, ix1, ix2, ix3, ixL0, ixL1, ixL2, ixL3, iters_list, iters_tup, iters_enum, iters_rng1, asg_nm, wipe_nil, wipe_cons, tst_nil, tst_one, noX_ok, lcD_lit, 
  compL_nil, compL_cons, partD_nil, partD_one, slop_T4_3, slop_L4_3, List.sum_cons, List.sum_nil, cop_eqL3, cop_neL2, cop_eqL1n, cop_eqL2n, cop_eqL3n, rngD_0, rngD_1, rngD_2, rngD_3, 
  rngD_4, rngD_5, iters_rng2_13, iters_rng2_23, iters_rng2_33, bi_max1E, maxL_cons, Option.toList, List.append_nil, optB_some, bi_allE, boolsD_nil, boolsD_cons, boolsD_map, optI_some, 
  bi_sumE, intsD_nil, intsD_cons, intsD_map, Option.map_some, Option.toList_some, Option.toList_none, setE_zero, setE_succ, List.all_cons, List.all_nil, id, Int.reduceToNat, 
  Int.cast_ofNat_Int, ite_okB, ite_self, Bool.if_true_left, Bool.if_true_right, Bool.if_false_left, Bool.if_false_right, Bool.and_eq_true, Bool.or_eq_true, Bool.or_eq_false_iff, 
  Bool.and_eq_false_iff, beq_self_eq_true, Bool.true_eq_false, not_true_eq_false, not_false_eq_true, decide_true, decide_false, isi_int_int, isi_bool_int, isi_bool_bool, isi_tup_tup, 
  List.length_map, bi_len, bi_lenT, bi_abs, bi_max2, bi_min2, bi_intB, bi_intI, decide_eq_true_eq, decide_eq_false_iff_not, Bool.not_eq_true', Bool.not_eq_false', Bool.not_eq_true, 
  Bool.not_true, Bool.not_false, ne_eq, Bool.false_eq_true, false_implies, true_implies, and_true, true_and, false_and, and_false, imp_false, implies_true, PL_ok, unppk_app, 
  apppk_app, apppo_ok, lppk_app, exspk_app, retqk_app, stipk_app, inspk_app, inspo_ok, EXT_some, extk_ok, OWN_some, WS_unpP, WS_appP, WS_forP, WS_exsP, WS_retQ, WS_stIP, WS_stQ, 
  stqk_app, stqj_app, WS_insP, WS_ext, WS_clr, WS_rev, evIP_def, dropR_pair, dropR_tup, negR_int, popO_some, WS_retO, WS_retF, lsk_app, rvlD_list, rvtD_list, rvsD_list, bop_shrE, 
  bop_addS, cop_ltT2, asg_tp2, asg_tp3, asg_tp4, iters_enumT, enumR, List.length_range, WS_retPN, lisD_list, unp_satL, *])
local macro_rules | `(tactic| walk_at "esl") => `(tactic| simp (disch := walk_at "dis") only [startS, List.map_cons, List.map_nil, List.length_cons, List.length_nil, Nat.reduceAdd, Nat.reduceSub, Nat.zero_add, List.replicate, List.cons_append, List.nil_append, WB_nil, 
  WB_cons, WB_frz, WS_pass, WS_ret, WS_retN, WS_set, WS_for, valI_rng1E, valI_rng2E, valI_seqE, valI_enumE, valI_zipE, bind_iters, lpc_nx, lpc_ct, lpc_bk, lpc_rt, lpc_ex, PP_ok, 
  setpk_app, retpk_app, retpo_some, WS_setP, WS_retP, WS_iffP, poolC_some, poolR_tup, poolR_pair, poolO_some, poolL_tup, poolL_pair, seeE_zero, seeE_succ, compP_nil, compP_cons, 
  turnP_nm, wipeS_nil, wipeS_cons, evP, evPs, Option.isSome_some, WS_stI, STI_some, WS_stS, STS_some, sts1_app, sts2_app, List.drop_succ_cons, List.drop_zero, stk1_app, stk2_app, 
  stL_zero, stL_succ, WS_setN, newS_def, lsOf_list, ownk_app, WS_appE, ownAt_zero, ownAt_succ, APP_some, appk_app, bi_listL, bi_listT, bi_tupL, WS_unp, unp_sat, WS_par, WS_exs, 
  WS_raise, WS_brk, WS_cont, RP_ok, RP_exc, only_nx, only_rt, only_bk, only_ct, only_ex, onlyL_nx, onlyL_rt, onlyL_bk, onlyL_ct, onlyL_ex, mid_nx, mid_rt, mid_bk, mid_ct, mid_ex, 
  lp_nx, lp_rt, lp_bk, lp_ct, lp_ex, then_nx, then_rt, then_bk, then_ct, then_ex, setk_app, ownk_app, exk_app, ifk_app, unpk_app, nxk_app, lpk_app, par2_app, par1_app, R.bind_ok, 
  R.bind_exc, valS_def, lfree_int, lfree_bool, lfree_str, lfree_none, lfree_tup, lfree_list, lfrees_nil, lfrees_cons, Bool.and_true, Bool.true_and, Bool.true_or, Bool.or_true, 
  Bool.false_or, Bool.or_false, if_true, if_false, ite_true, ite_false, if_pos, setAllS, set_zero, set_succ, fullE_nil, fullE_cons, full_fr, full_ow, full_un, cleanE_nil, cleanE_cons, 
  clean_fr, clean_ow, clean_un, noOwn_nil, noOwn_fr, noOwn_un, noOwn_ow, frz_zero, frz_succ, frz_zero_fr, frz_zero_un, getE_zero, getE_succ, sel_zero, sel_succ, ofB_bool, evE, evEs, 
  bop_add, bop_sub, bop_mulE, bop_fdivE, bop_mod, bop_powE, bop_addL, cop_lt, cop_le, cop_gt, cop_ge, cop_eqI, cop_neI, cop_eqB, cop_neB, cop_neLi0, cop_eqLi0, cop_eqT2, cop_neT2, 
  cop_eqT4, cop_neT4, ix_Li, ix0, ix1, ix2, ix3, ixL0, ixL1, ixL2, ixL3, iters_list, iters_tup, iters_enum, iters_rng1, asg_nm, wipe_nil, wipe_cons, tst_nil, tst_one, noX_ok, lcD_lit, 
  compL_nil, compL_cons, partD_nil, partD_one, slop_T4_3, slop_L4_3, List.sum_cons, List.sum_nil, cop_eqL3, cop_neL2, cop_eqL1n, cop_eqL2n, cop_eqL3n, rngD_0, rngD_1, rngD_2, rngD_3, 
  rngD_4, rngD_5, iters_rng2_13, iters_rng2_23, iters_rng2_33, bi_max1E, maxL_cons, Option.toList, List.append_nil, optB_some, bi_allE, boolsD_nil, boolsD_cons, boolsD_map, optI_some, 
  bi_sumE, intsD_nil, intsD_cons, intsD_map, Option.map_some, Option.toList_some, Option.toList_none, setE_zero, setE_succ, List.all_cons, List.all_nil, id, Int.reduceToNat, 
  Int.cast_ofNat_Int, ite_okB, ite_self, Bool.if_true_left, Bool.if_true_right, Bool.if_false_left, Bool.if_false_right, Bool.and_eq_true, Bool.or_eq_true, Bool.or_eq_false_iff, 
  Bool.and_eq_false_iff, beq_self_eq_true, Bool.true_eq_false, not_true_eq_false, not_false_eq_true, decide_true, decide_false, isi_int_int, isi_bool_int, isi_bool_bool, isi_tup_tup, 
  List.length_map, bi_len, bi_lenT, bi_abs, bi_max2, bi_min2, bi_intB, bi_intI, decide_eq_true_eq, decide_eq_false_iff_not, Bool.not_eq_true', Bool.not_eq_false', Bool.not_eq_true, 
  Bool.not_true, Bool.not_false, ne_eq, Bool.false_eq_true, false_implies, true_implies, and_true, true_and, false_and, and_false, imp_false, implies_true, PL_ok, unppk_app, 
  apppk_app, apppo_ok, lppk_app, exspk_app, retqk_app, stipk_app, inspk_app, inspo_ok, EXT_some, extk_ok, OWN_some, WS_unpP, WS_appP, WS_forP, WS_exsP, WS_retQ, WS_stIP, WS_stQ, 
  stqk_app, stqj_app, WS_insP, WS_ext, WS_clr, WS_rev, evIP_def, dropR_pair, dropR_tup, negR_int, popO_some, WS_retO, WS_retF, lsk_app, rvlD_list, rvtD_list, rvsD_list, bop_shrE, 
  bop_addS, cop_ltT2, asg_tp2, asg_tp3, asg_tp4, iters_enumT, enumR, List.length_range, WS_retPN, lisD_list, unp_satL])
local macro_rules | `(tactic| simp_arith only [$ts,*]) => `(tactic| simp (disch := walk_at "dis") only [startS, List.map_cons, List.map_nil, List.length_cons, List.length_nil, Nat.reduceAdd, Nat.reduceSub, Nat.zero_add, List.replicate, List.cons_append, List.nil_append, WB_nil, 
  WB_cons, WB_frz, WS_pass, WS_ret, WS_retN, WS_set, WS_for, valI_rng1E, valI_rng2E, valI_seqE, valI_enumE, valI_zipE, bind_iters, lpc_nx, lpc_ct, lpc_bk, lpc_rt, lpc_ex, PP_ok, 
  setpk_app, retpk_app, retpo_some, WS_setP, WS_retP, WS_iffP, poolC_some, poolR_tup, poolR_pair, poolO_some, poolL_tup, poolL_pair, seeE_zero, seeE_succ, compP_nil, compP_cons, 
  turnP_nm, wipeS_nil, wipeS_cons, evP, evPs, Option.isSome_some, WS_stI, STI_some, WS_stS, STS_some, sts1_app, sts2_app, List.drop_succ_cons, List.drop_zero, stk1_app, stk2_app, 
  stL_zero, stL_succ, WS_setN, newS_def, lsOf_list, ownk_app, WS_appE, ownAt_zero, ownAt_succ, APP_some, appk_app, bi_listL, bi_listT, bi_tupL, WS_unp, unp_sat, WS_par, WS_exs, 
  WS_raise, WS_brk, WS_cont, RP_ok, RP_exc, only_nx, only_rt, only_bk, only_ct, only_ex, onlyL_nx, onlyL_rt, onlyL_bk, onlyL_ct, onlyL_ex, mid_nx, mid_rt, mid_bk, mid_ct, mid_ex, 
  lp_nx, lp_rt, lp_bk, lp_ct, lp_ex, then_nx, then_rt, then_bk, then_ct, then_ex, setk_app, ownk_app, exk_app, ifk_app, unpk_app, nxk_app, lpk_app, par2_app, par1_app, R.bind_ok, 
  R.bind_exc, valS_def, lfree_int, lfree_bool, lfree_str, lfree_none, lfree_tup, lfree_list, lfrees_nil, lfrees_cons, Bool.and_true, Bool.true_and, Bool.true_or, Bool.or_true, 
  Bool.false_or, Bool.or_false, if_true, if_false, ite_true, ite_false, if_pos, setAllS, set_zero, set_succ, fullE_nil, fullE_cons, full_fr, full_ow, full_un, cleanE_nil, cleanE_cons, 
  clean_fr, clean_ow, clean_un, noOwn_nil, noOwn_fr, noOwn_un, noOwn_ow, frz_zero, frz_succ, frz_zero_fr, frz_zero_un, getE_zero, getE_succ, sel_zero, sel_succ, ofB_bool, evE, evEs, 
  bop_add, bop_sub, bop_mulE, bop_fdivE, bop_mod, bop_powE, bop_addL, cop_lt, cop_le, cop_gt, cop_ge, cop_eqI, cop_neI, cop_eqB, cop_neB, cop_neLi0, cop_eqLi0, cop_eqT2, cop_neT2, 
  cop_eqT4, cop_neT4, ix_Li, ix0, ix1, ix2, ix3, ixL0, ixL1, ixL2, ixL3, iters_list, iters_tup, iters_enum, iters_rng1, asg_nm, wipe_nil, wipe_cons, tst_nil, tst_one, noX_ok, lcD_lit, 
  compL_nil, compL_cons, partD_nil, partD_one, slop_T4_3, slop_L4_3, List.sum_cons, List.sum_nil, cop_eqL3, cop_neL2, cop_eqL1n, cop_eqL2n, cop_eqL3n, rngD_0, rngD_1, rngD_2, rngD_3, 
  rngD_4, rngD_5, iters_rng2_13, iters_rng2_23, iters_rng2_33, bi_max1E, maxL_cons, Option.toList, List.append_nil, optB_some, bi_allE, boolsD_nil, boolsD_cons, boolsD_map, optI_some, 
  bi_sumE, intsD_nil, intsD_cons, intsD_map, Option.map_some, Option.toList_some, Option.toList_none, setE_zero, setE_succ, List.all_cons, List.all_nil, id, Int.reduceToNat, 
  Int.cast_ofNat_Int, ite_okB, ite_self, Bool.if_true_left, Bool.if_true_right, Bool.if_false_left, Bool.if_false_right, Bool.and_eq_true, Bool.or_eq_true, Bool.or_eq_false_iff, 
  Bool.and_eq_false_iff, beq_self_eq_true, Bool.true_eq_false, not_true_eq_false, not_false_eq_true, decide_true, decide_false, isi_int_int, isi_bool_int, isi_bool_bool, isi_tup_tup, 
  List.length_map, bi_len, bi_lenT, bi_abs, bi_max2, bi_min2, bi_intB, bi_intI, decide_eq_true_eq, decide_eq_false_iff_not, Bool.not_eq_true', Bool.not_eq_false', Bool.not_eq_true, 
  Bool.not_true, Bool.not_false, ne_eq, Bool.false_eq_true, false_implies, true_implies, and_true, true_and, false_and, and_false, imp_false, implies_true, PL_ok, unppk_app, 
  apppk_app, apppo_ok, lppk_app, exspk_app, retqk_app, stipk_app, inspk_app, inspo_ok, EXT_some, extk_ok, OWN_some, WS_unpP, WS_appP, WS_forP, WS_exsP, WS_retQ, WS_stIP, WS_stQ, 
  stqk_app, stqj_app, WS_insP, WS_ext, WS_clr, WS_rev, evIP_def, dropR_pair, dropR_tup, negR_int, popO_some, WS_retO, WS_retF, lsk_app, rvlD_list, rvtD_list, rvsD_list, bop_shrE, 
  bop_addS, cop_ltT2, asg_tp2, asg_tp3, asg_tp4, iters_enumT, enumR, List.length_range, WS_retPN, lisD_list, unp_satL,  $ts,*])
local macro_rules | `(tactic| simp_arith! only [$ts,*]) => `(tactic| simp (disch := walk_at "dis") only [startS, List.map_cons, List.map_nil, List.length_cons, List.length_nil, Nat.reduceAdd, Nat.reduceSub, Nat.zero_add, List.replicate, List.cons_append, List.nil_append, WB_nil, 
  WB_cons, WB_frz, WS_pass, WS_ret, WS_retN, WS_set, WS_for, valI_rng1E, valI_rng2E, valI_seqE, valI_enumE, valI_zipE, bind_iters, lpc_nx, lpc_ct, lpc_bk, lpc_rt, lpc_ex, LP_cons_nm, 
  LP_nilE, PP_ok, setpk_app, retpk_app, retpo_some, ifpk_app, WS_setP, WS_retP, WS_iffP, poolC_some, poolR_tup, poolR_pair, poolO_some, poolL_tup, poolL_pair, seeE_zero, seeE_succ, 
  compP_nil, compP_cons, turnP_nm, wipeS_nil, wipeS_cons, evP, evPs, Option.isSome_some, WS_stI, STI_some, WS_stS, STS_some, sts1_app, sts2_app, List.drop_succ_cons, List.drop_zero, 
  stk1_app, stk2_app, stL_zero, stL_succ, WS_setN, newS_def, lsOf_list, ownk_app, WS_appE, ownAt_zero, ownAt_succ, APP_some, appk_app, bi_listL, bi_listT, bi_tupL, WS_unp, unp_sat, 
  WS_par, WS_exs, WS_iff, WS_raise, WS_brk, WS_cont, RP_ok, RP_exc, only_nx, only_rt, only_bk, only_ct, only_ex, onlyL_nx, onlyL_rt, onlyL_bk, onlyL_ct, onlyL_ex, mid_nx, mid_rt, 
  mid_bk, mid_ct, mid_ex, lp_nx, lp_rt, lp_bk, lp_ct, lp_ex, then_nx, then_rt, then_bk, then_ct, then_ex, setk_app, ownk_app, exk_app, ifk_app, unpk_app, nxk_app, lpk_app, par2_app, 
  par1_app, R.bind_ok, R.bind_exc, valS_def, lfree_int, lfree_bool, lfree_str, lfree_none, lfree_tup, lfree_list, lfrees_nil, lfrees_cons, Bool.and_true, Bool.true_and, Bool.true_or, 
  Bool.or_true, Bool.false_or, Bool.or_false, if_true, if_false, ite_true, ite_false, if_pos, setAllS, set_zero, set_succ, fullE_nil, fullE_cons, full_fr, full_ow, full_un, 
  cleanE_nil, cleanE_cons, clean_fr, clean_ow, clean_un, noOwn_nil, noOwn_fr, noOwn_un, noOwn_ow, frz_zero, frz_succ, frz_zero_fr, frz_zero_un, getE_zero, getE_succ, sel_zero, 
  sel_succ, ofB_bool, evE, evEs, bop_add, bop_sub, bop_mulE, bop_fdivE, bop_mod, bop_powE, bop_addL, cop_lt, cop_le, cop_gt, cop_ge, cop_eqI, cop_neI, cop_eqB, cop_neB, cop_neLi0, 
  cop_eqLi0, cop_eqT2, cop_neT2, cop_eqT4, cop_neT4, ix_Li, ix0, ix1, ix2, ix3, ixL0, ixL1, ixL2, ixL3, iters_list, iters_tup, iters_enum, iters_rng1, asg_nm, wipe_nil, wipe_cons, 
  tst_nil, tst_one, noX_ok, lcD_lit, compL_nil, compL_cons, partD_nil, partD_one, slop_T4_3, slop_L4_3, List.sum_cons, List.sum_nil, cop_eqL3, cop_neL2, cop_eqL1n, cop_eqL2n, 
  cop_eqL3n, rngD_0, rngD_1, rngD_2, rngD_3, rngD_4, rngD_5, iters_rng2_13, iters_rng2_23, iters_rng2_33, bi_max1E, maxL_cons, Option.toList, List.append_nil, optB_some, bi_allE, 
  boolsD_nil, boolsD_cons, boolsD_map, optI_some, bi_sumE, intsD_nil, intsD_cons, intsD_map, Option.map_some, Option.toList_some, Option.toList_none, setE_zero, setE_succ, 
  List.all_cons, List.all_nil, id, Int.reduceToNat, Int.cast_ofNat_Int, ite_okB, ite_self, Bool.if_true_left, Bool.if_true_right, Bool.if_false_left, Bool.if_false_right, 
  Bool.and_eq_true, Bool.or_eq_true, Bool.or_eq_false_iff, Bool.and_eq_false_iff, beq_self_eq_true, Bool.true_eq_false, not_true_eq_false, not_false_eq_true, decide_true, 
  decide_false, isi_int_int, isi_bool_int, isi_bool_bool, isi_tup_tup, List.length_map, bi_len, bi_lenT, bi_abs, bi_max2, bi_min2, bi_intB, bi_intI, decide_eq_true_eq, 
  decide_eq_false_iff_not, Bool.not_eq_true', Bool.not_eq_false', Bool.not_eq_true, Bool.not_true, Bool.not_false, ne_eq, Bool.false_eq_true, false_implies, true_implies, and_true, 
  true_and, false_and, and_false, imp_false, implies_true, PL_ok, unppk_app, apppk_app, apppo_ok, lppk_app, exspk_app, retqk_app, stipk_app, inspk_app, inspo_ok, EXT_some, extk_ok, 
  OWN_some, WS_unpP, WS_appP, WS_forP, WS_exsP, WS_retQ, WS_stIP, WS_stQ, stqk_app, stqj_app, WS_insP, WS_ext, WS_clr, WS_rev, evIP_def, dropR_pair, dropR_tup, negR_int, popO_some, 
  WS_retO, WS_retF, lsk_app, rvlD_list, rvtD_list, rvsD_list, bop_shrE, bop_addS, cop_ltT2, asg_tp2, asg_tp3, asg_tp4, iters_enumT, enumR, List.length_range, WS_retPN, lisD_list, 
  unp_satL,  $ts,*])
local macro_rules | `(tactic| simp_all_arith only [$ts,*]) => `(tactic| simp (disch := walk_at "dis") only [startS, List.map_cons, List.map_nil, List.length_cons, List.length_nil, Nat.reduceAdd, Nat.reduceSub, Nat.zero_add, List.replicate, List.cons_append, List.nil_append, WB_nil, 
  WB_cons, WB_frz, WS_pass, WS_ret, WS_retN, WS_set, WS_for, valI_rng1E, valI_rng2E, valI_seqE, valI_enumE, valI_zipE, bind_iters, lpc_nx, lpc_ct, lpc_bk, lpc_rt, lpc_ex, LP_cons_nm, 
  LP_nilE, PP_ok, setpk_app, retpk_app, retpo_some, WS_setP, WS_retP, WS_iffP, poolC_some, poolR_tup, poolR_pair, poolO_some, poolL_tup, poolL_pair, seeE_zero, seeE_succ, compP_nil, 
  compP_cons, turnP_nm, wipeS_nil, wipeS_cons, evP, evPs, Option.isSome_some, WS_stI, STI_some, WS_stS, STS_some, sts1_app, sts2_app, List.drop_succ_cons, List.drop_zero, stk1_app, 
  stk2_app, stL_zero, stL_succ, WS_setN, newS_def, lsOf_list, ownk_app, WS_appE, ownAt_zero, ownAt_succ, APP_some, appk_app, bi_listL, bi_listT, bi_tupL, WS_unp, unp_sat, WS_par, 
  WS_exs, WS_raise, WS_brk, WS_cont, RP_ok, RP_exc, only_nx, only_rt, only_bk, only_ct, only_ex, onlyL_nx, onlyL_rt, onlyL_bk, onlyL_ct, onlyL_ex, mid_nx, mid_rt, mid_bk, mid_ct, 
  mid_ex, lp_nx, lp_rt, lp_bk, lp_ct, lp_ex, then_nx, then_rt, then_bk, then_ct, then_ex, setk_app, ownk_app, exk_app, ifk_app, unpk_app, nxk_app, lpk_app, par2_app, par1_app, 
  R.bind_ok, R.bind_exc, valS_def, lfree_int, lfree_bool, lfree_str, lfree_none, lfree_tup, lfree_list, lfrees_nil, lfrees_cons, Bool.and_true, Bool.true_and, Bool.true_or, 
  Bool.or_true, Bool.false_or, Bool.or_false, if_true, if_false, ite_true, ite_false, if_pos, setAllS, set_zero, set_succ, fullE_nil, fullE_cons, full_fr, full_ow, full_un, 
  cleanE_nil, cleanE_cons, clean_fr, clean_ow, clean_un, noOwn_nil, noOwn_fr, noOwn_un, noOwn_ow, frz_zero, frz_succ, frz_zero_fr, frz_zero_un, getE_zero, getE_succ, sel_zero, 
  sel_succ, ofB_bool, evE, evEs, bop_add, bop_sub, bop_mulE, bop_fdivE, bop_mod, bop_powE, bop_addL, cop_lt, cop_le, cop_gt, cop_ge, cop_eqI, cop_neI, cop_eqB, cop_neB, cop_neLi0, 
  cop_eqLi0, cop_eqT2, cop_neT2, cop_eqT4, cop_neT4, ix_Li, ix0, ix1, ix2, ix3, ixL0, ixL1, ixL2, ixL3, iters_list, iters_tup, iters_enum, iters_rng1, asg_nm, wipe_nil, wipe_cons, 
  tst_nil, tst_one, noX_ok, lcD_lit, compL_nil, compL_cons, partD_nil, partD_one, slop_T4_3, slop_L4_3, List.sum_cons, List.sum_nil, cop_eqL3, cop_neL2, cop_eqL1n, cop_eqL2n, 
  cop_eqL3n, rngD_0, rngD_1, rngD_2, rngD_3, rngD_4, rngD_5, iters_rng2_13, iters_rng2_23, iters_rng2_33, bi_max1E, maxL_cons, Option.toList, List.append_nil, optB_some, bi_allE, 
  boolsD_nil, boolsD_cons, boolsD_map, optI_some, bi_sumE, intsD_nil, intsD_cons, intsD_map, Option.map_some, Option.toList_some, Option.toList_none, setE_zero, setE_succ, 
  List.all_cons, List.all_nil, id, Int.reduceToNat, Int.cast_ofNat_Int, ite_okB, ite_self, Bool.if_true_left, Bool.if_true_right, Bool.if_false_left, Bool.if_false_right, 
  Bool.and_eq_true, Bool.or_eq_true, Bool.or_eq_false_iff, Bool.and_eq_false_iff, beq_self_eq_true, Bool.true_eq_false, not_true_eq_false, not_false_eq_true, decide_true, 
  decide_false, isi_int_int, isi_bool_int, isi_bool_bool, isi_tup_tup, List.length_map, bi_len, bi_lenT, bi_abs, bi_max2, bi_min2, bi_intB, bi_intI, decide_eq_true_eq, 
  decide_eq_false_iff_not, Bool.not_eq_true', Bool.not_eq_false', Bool.not_eq_true, Bool.not_true, Bool.not_false, ne_eq, Bool.false_eq_true, false_implies, true_implies, and_true, 
  true_and, false_and, and_false, imp_false, implies_true, PL_ok, unppk_app, apppk_app, apppo_ok, lppk_app, exspk_app, retqk_app, stipk_app, inspk_app, inspo_ok, EXT_some, extk_ok, 
  OWN_some, WS_unpP, WS_appP, WS_forP, WS_exsP, WS_retQ, WS_stIP, WS_stQ, stqk_app, stqj_app, WS_insP, WS_ext, WS_clr, WS_rev, evIP_def, dropR_pair, dropR_tup, negR_int, popO_some, 
  WS_retO, WS_retF, lsk_app, rvlD_list, rvtD_list, rvsD_list, bop_shrE, bop_addS, cop_ltT2, asg_tp2, asg_tp3, asg_tp4, iters_enumT, enumR, List.length_range, WS_retPN, lisD_list, 
  unp_satL,  $ts,*])

theorem divisor_spec {a b : Int} (hb : bd 4000000 b) : F_divisor [.int a, .int b] = .ok (.int (Int.gcd a b)) := by
  unfold F_divisor
  refine den_of (· = _) ?_
  unfold m_divisor
  walk_at "ev"
  refine WS_whil (fun m e => ∃ x y : Nat, e = [.fr (.int x), .fr (.int y)] ∧ Nat.gcd x y = Int.gcd a b ∧ m = y) b.natAbs ⟨_, _, rfl, rfl, rfl⟩ (lt_fuel hb) ?_
  rintro m e ⟨x, y, rfl, hg, hm⟩
  subst hm
  walk_at "ev"
  refine ⟨fun h => ?_, fun h => ?_⟩
  · have hy : (m : Int) ≠ 0 := by omega
    walk_at "ev"
    refine ⟨x % m, Nat.mod_lt _ (by omega), m, x % m, ?_, ?_, rfl⟩
    · rw [Int.fmod_eq_emod_of_nonneg _ (by omega)]
      rfl
    · rw [← hg, Nat.gcd_comm x m, Nat.gcd_rec m x, Nat.gcd_comm]
  · have hy : m = 0 := by omega
    subst hy
    rw [Nat.gcd_zero_right] at hg
    rw [hg]
/-! ### fractions -/
/-! what a fraction is -/
/-! ### drawn numbers -/
/-! ### whole numbers -/


/-! ### the greatest divisor of several -/
def dvAll (d : Nat) (l : List Int) : Prop := ∀ x ∈ l, (d : Int) ∣ x
def IsG (g : Nat) (l : List Int) : Prop := dvAll g l ∧ ∀ d : Nat, dvAll d l → d ∣ g
theorem IsG.uniq {g h : Nat} {l m : List Int} (a : IsG g l) (b : IsG h m) (e : ∀ x, x ∈ l ↔ x ∈ m) : g = h :=
  Nat.dvd_antisymm (b.2 g fun x hx => a.1 x ((e x).mpr hx)) (a.2 h fun x hx => b.1 x ((e x).mp hx))
theorem isG_two {a b : Int} : IsG (Int.gcd a b) [a, b] := by
  refine ⟨fun x hx => ?_, fun d hd => ?_⟩
  · rcases List.mem_cons.mp hx with rfl | hx
    · exact Int.gcd_dvd_left ..
    · rw [List.mem_singleton.mp hx]
      exact Int.gcd_dvd_right ..
  · exact Int.dvd_gcd (hd a List.mem_cons_self) (hd b (List.mem_cons_of_mem _ List.mem_cons_self))
theorem isG_app {g h : Nat} {l m : List Int} (a : IsG g l) (b : IsG h m) : IsG (Int.gcd (g : Int) (h : Int)) (l ++ m) := by
  refine ⟨fun x hx => ?_, fun d hd => ?_⟩
  · rcases List.mem_append.mp hx with hx | hx
    · exact Int.dvd_trans (Int.gcd_dvd_left ..) (a.1 x hx)
    · exact Int.dvd_trans (Int.gcd_dvd_right ..) (b.1 x hx)
  · exact Int.dvd_gcd (Int.natCast_dvd_natCast.mpr (a.2 d fun x hx => hd x (List.mem_append_left _ hx))) (Int.natCast_dvd_natCast.mpr (b.2 d fun x hx => hd x (List.mem_append_right _ hx)))
theorem natAbs_of_dvd {d : Nat} {x : Int} (h : (d : Int) ∣ x) : d ∣ x.natAbs := Int.ofNat_dvd_left.mp h
theorem isG_one {x : Int} : IsG x.natAbs [x] := by
  refine ⟨fun y hy => ?_, fun d hd => ?_⟩
  · rw [List.mem_singleton.mp hy]
    exact Int.natAbs_dvd.mpr (Int.dvd_refl x)
  · exact natAbs_of_dvd (hd x List.mem_cons_self)
theorem isG_nil : IsG 0 [] := ⟨fun x hx => (nomatch hx), fun d _ => Nat.dvd_zero d⟩
theorem isG_snoc {g : Nat} {l : List Int} {x : Int} (a : IsG g l) : IsG (Int.gcd (g : Int) x) (l ++ [x]) := by
  have := isG_app a (isG_one (x := x))
  exact this
theorem isG_cons {g : Nat} {l : List Int} {x : Int} (a : IsG g l) : IsG (Int.gcd x (g : Int)) (x :: l) := by
  have := isG_app (isG_one (x := x)) a
  exact this
theorem IsG.pos {g : Nat} {l : List Int} (a : IsG g l) {x : Int} (hx : x ∈ l) (h0 : x ≠ 0) : 0 < g := by
  rcases Nat.eq_zero_or_pos g with z | z
  · have := a.1 x hx
    rw [z] at this
    exact absurd (Int.zero_dvd.mp this) h0
  · exact z
theorem IsG.bd {g : Nat} {l : List Int} (a : IsG g l) {x : Int} (hx : x ∈ l) (h0 : x ≠ 0) {n : Nat} (h : Bs.bd n x) : Bs.bd n (g : Int) := by
  have := a.1 x hx
  have := Nat.le_of_dvd (by omega : 0 < x.natAbs) (natAbs_of_dvd this)
  unfold Bs.bd at *
  simp only [Int.natAbs_natCast]
  omega
/-- divided by their greatest divisor -/
theorem IsG.div {g : Nat} {l : List Int} (a : IsG g l) (h : 0 < g) : IsG 1 (l.map fun x => x / (g : Int)) := by
  refine ⟨fun x hx => by simp, fun d hd => ?_⟩
  have : dvAll (d * g) l := fun x hx => by
    have h1 := hd (x / g) (List.mem_map.mpr ⟨x, hx, rfl⟩)
    obtain ⟨k, hk⟩ := h1
    refine ⟨k, ?_⟩
    have h2 : x = x / g * g := (Int.ediv_mul_cancel (a.1 x hx)).symm
    rw [h2, hk, Int.natCast_mul, Int.mul_assoc, Int.mul_assoc, Int.mul_comm k]
  have h3 := a.2 _ this
  have h4 : d * g ∣ 1 * g := by rw [Nat.one_mul]; exact h3
  exact Nat.dvd_of_mul_dvd_mul_right h h4
theorem dvd_neg' {d : Nat} {x : Int} : (d : Int) ∣ -x ↔ (d : Int) ∣ x := Int.dvd_neg
theorem IsG.neg {g : Nat} {l : List Int} (a : IsG g l) : IsG g (l.map fun x => -x) := by
  refine ⟨fun x hx => ?_, fun d hd => a.2 d fun x hx => dvd_neg'.mp (hd (-x) (List.mem_map.mpr ⟨x, hx, rfl⟩))⟩
  obtain ⟨y, hy, rfl⟩ := List.mem_map.mp hx
  exact dvd_neg'.mpr (a.1 y hy)
theorem fdiv_pos {x : Int} {g : Nat} (h : (g : Int) ∣ x) : x.fdiv (g : Int) = x / (g : Int) := Int.fdiv_eq_ediv_of_nonneg _ (Int.natCast_nonneg g)
theorem fdiv_negG {x : Int} {g : Nat} (h : (g : Int) ∣ x) (hg : 0 < g) : x.fdiv (0 - (g : Int)) = -(x / (g : Int)) := by
  have e : 0 - (g : Int) = -(g : Int) := by omega
  have e2 : x = -(-x) := by omega
  rw [e]
  conv => lhs; rw [e2]
  rw [Int.neg_fdiv_neg, Int.fdiv_eq_ediv_of_nonneg _ (Int.natCast_nonneg g), Int.neg_ediv_of_dvd h]
/-! ### four numbers -/
def g4 (x y z w : Int) : Nat := Int.gcd (Int.gcd x y : Int) (Int.gcd z w : Int)
theorem isG_g4 {x y z w : Int} : IsG (g4 x y z w) [x, y, z, w] := isG_app isG_two isG_two
def sBy (x y z w : Int) : Int := if w < 0 then 0 - (g4 x y z w : Int) else (g4 x y z w : Int)
theorem g4_pos {x y z w : Int} (h : w ≠ 0) : 0 < g4 x y z w := isG_g4.pos (by simp) h
/-! ### four numbers as one -/
structure V4 where
  a : Int
  b : Int
  c : Int
  d : Int
  deriving DecidableEq
abbrev D4 (p : V4) : D := T4 p.a p.b p.c p.d
def V4.l (p : V4) : List Int := [p.a, p.b, p.c, p.d]
def V4.bd (n : Nat) (p : V4) : Prop := Bs.bd n p.a ∧ Bs.bd n p.b ∧ Bs.bd n p.c ∧ Bs.bd n p.d
/-- a spot -/
structure Spot (p : V4) : Prop where
  pos : 1 ≤ p.d
  low : IsG 1 p.l
theorem V4.bd.mono {m n : Nat} {p : V4} (h : V4.bd m p) (l : m ≤ n) : V4.bd n p := ⟨h.1.mono l, h.2.1.mono l, h.2.2.1.mono l, h.2.2.2.mono l⟩
def mk4 (x y z w : Int) : V4 := ⟨x.fdiv (sBy x y z w), y.fdiv (sBy x y z w), z.fdiv (sBy x y z w), w.fdiv (sBy x y z w)⟩
theorem mk4_bd {n : Nat} {x y z w : Int} (hx : bd n x) (hy : bd n y) (hz : bd n z) (hw : bd n w) : V4.bd n (mk4 x y z w) := ⟨bd_fdiv hx, bd_fdiv hy, bd_fdiv hz, bd_fdiv hw⟩
theorem IsG.mul {g : Nat} {l : List Int} (a : IsG g l) (m : Nat) (hm : 0 < m) : IsG (g * m) (l.map fun x => x * (m : Int)) := by
  refine ⟨fun x hx => ?_, fun d hd => ?_⟩
  · obtain ⟨y, hy, rfl⟩ := List.mem_map.mp hx
    rw [Int.natCast_mul]
    exact Int.mul_dvd_mul (a.1 y hy) (Int.dvd_refl _)
  · -- l's divisor, made greater
    have key : ∀ (k : List Int), (∃ h : Nat, IsG h (k.map fun x => x * (m : Int)) ∧ m ∣ h) := by
      intro k
      induction k with
      | nil => exact ⟨0, isG_nil, Nat.dvd_zero m⟩
      | cons x k ih =>
        obtain ⟨h, h1, h2⟩ := ih
        refine ⟨_, isG_cons h1, ?_⟩
        exact Int.dvd_gcd (Int.dvd_mul_left _ _) (Int.natCast_dvd_natCast.mpr h2)
    obtain ⟨h, h1, h2⟩ := key l
    obtain ⟨k, rfl⟩ := h2
    have hk : k ∣ g := a.2 k fun x hx => by
      have := h1.1 (x * m) (List.mem_map.mpr ⟨x, hx, rfl⟩)
      rw [Int.natCast_mul, Int.mul_comm (m : Int)] at this
      exact Int.dvd_of_mul_dvd_mul_right (by omega) this
    have hd2 := h1.2 d hd
    rw [Nat.mul_comm m k] at hd2
    exact Nat.dvd_trans hd2 (Nat.mul_dvd_mul_right hk m)
/-- what mk4 tells: a spot, that many times what was told -/
theorem mk4_eq {x y z w : Int} (h : w ≠ 0) : Spot (mk4 x y z w) ∧ x = (mk4 x y z w).a * sBy x y z w ∧ y = (mk4 x y z w).b * sBy x y z w ∧ z = (mk4 x y z w).c * sBy x y z w ∧ w = (mk4 x y z w).d * sBy x y z w := by
  have hp := g4_pos (x := x) (y := y) (z := z) h
  have hg := isG_g4 (x := x) (y := y) (z := z) (w := w)
  have dv : ∀ v ∈ [x, y, z, w], ((g4 x y z w : Nat) : Int) ∣ v := hg.1
  have mulv : ∀ v, ((g4 x y z w : Nat) : Int) ∣ v → v / (g4 x y z w : Int) * (g4 x y z w : Int) = v := fun v h => Int.ediv_mul_cancel h
  have hd := hg.div hp
  by_cases h2 : w < 0
  · have e : sBy x y z w = 0 - (g4 x y z w : Int) := if_pos h2
    have q : ∀ v ∈ [x, y, z, w], v.fdiv (sBy x y z w) = -(v / (g4 x y z w : Int)) := fun v hv => by rw [e]; exact fdiv_negG (dv v hv) hp
    have q2 : ∀ v ∈ [x, y, z, w], v = v.fdiv (sBy x y z w) * sBy x y z w := fun v hv => by
      rw [q v hv, e]
      have := mulv v (dv v hv)
      rw [Int.zero_sub, Int.neg_mul_neg]
      exact this.symm
    refine ⟨⟨?_, ?_⟩, q2 x (by simp), q2 y (by simp), q2 z (by simp), q2 w (by simp)⟩
    · show 1 ≤ w.fdiv (sBy x y z w)
      rw [q w (by simp)]
      have := mulv w (dv w (by simp))
      have : w / (g4 x y z w : Int) < 0 := by
        apply Int.not_le.mp
        intro z0
        have := Int.mul_nonneg z0 (Int.natCast_nonneg (g4 x y z w))
        omega
      omega
    · have := hd.neg
      simp only [List.map_map, List.map_cons, List.map_nil, Function.comp] at this
      show IsG 1 [x.fdiv (sBy x y z w), y.fdiv (sBy x y z w), z.fdiv (sBy x y z w), w.fdiv (sBy x y z w)]
      rw [q x (by simp), q y (by simp), q z (by simp), q w (by simp)]
      exact this
  · have e : sBy x y z w = (g4 x y z w : Int) := if_neg h2
    have q : ∀ v ∈ [x, y, z, w], v.fdiv (sBy x y z w) = v / (g4 x y z w : Int) := fun v hv => by rw [e]; exact fdiv_pos (dv v hv)
    have q2 : ∀ v ∈ [x, y, z, w], v = v.fdiv (sBy x y z w) * sBy x y z w := fun v hv => by
      rw [q v hv, e]
      exact (mulv v (dv v hv)).symm
    refine ⟨⟨?_, ?_⟩, q2 x (by simp), q2 y (by simp), q2 z (by simp), q2 w (by simp)⟩
    · show 1 ≤ w.fdiv (sBy x y z w)
      rw [q w (by simp)]
      have := mulv w (dv w (by simp))
      have : ¬ w / (g4 x y z w : Int) ≤ 0 := fun z0 => by
        have := Int.mul_nonpos_of_nonpos_of_nonneg z0 (Int.natCast_nonneg (g4 x y z w))
        omega
      omega
    · show IsG 1 [x.fdiv (sBy x y z w), y.fdiv (sBy x y z w), z.fdiv (sBy x y z w), w.fdiv (sBy x y z w)]
      rw [q x (by simp), q y (by simp), q z (by simp), q w (by simp)]
      exact hd
/-- it is worth what was told -/
theorem mk4_worth {x y z w : Int} (h : w ≠ 0) : (mk4 x y z w).a * w = x * (mk4 x y z w).d ∧ (mk4 x y z w).b * w = y * (mk4 x y z w).d ∧ (mk4 x y z w).c * w = z * (mk4 x y z w).d := by
  obtain ⟨_, ha, hb, hc, hd⟩ := mk4_eq (x := x) (y := y) (z := z) h
  generalize mk4 x y z w = p at *
  generalize sBy x y z w = s at *
  subst ha hb hc hd
  refine ⟨?_, ?_, ?_⟩ <;> · rw [Int.mul_assoc]; congr 1; exact Int.mul_comm ..
theorem Spot.ext {p q : V4} (hp : Spot p) (hq : Spot q) (ha : p.a * q.d = q.a * p.d) (hb : p.b * q.d = q.b * p.d) (hc : p.c * q.d = q.c * p.d) : p = q := by
  obtain ⟨m, hm⟩ := Int.eq_ofNat_of_zero_le (show 0 ≤ p.d by have := hp.pos; omega)
  obtain ⟨n, hn⟩ := Int.eq_ofNat_of_zero_le (show 0 ≤ q.d by have := hq.pos; omega)
  have hm0 : 0 < m := by have := hp.pos; omega
  have hn0 : 0 < n := by have := hq.pos; omega
  have h1 := hp.low.mul n hn0
  have h2 := hq.low.mul m hm0
  have e : p.l.map (fun x => x * (n : Int)) = q.l.map (fun x => x * (m : Int)) := by
    simp only [V4.l, List.map_cons, List.map_nil, ← hm, ← hn, ha, hb, hc, Int.mul_comm p.d q.d]
  rw [e] at h1
  have hmn : n = m := by
    have := h1.uniq h2 fun _ => Iff.rfl
    omega
  subst hmn
  have z : p.d = q.d := by rw [hm, hn]
  have hz : q.d ≠ 0 := by have := hq.pos; omega
  rw [z] at ha hb hc
  obtain ⟨a, b, c, d⟩ := p
  obtain ⟨a', b', c', d'⟩ := q
  simp only at *
  subst z
  rw [Int.eq_of_mul_eq_mul_right hz ha, Int.eq_of_mul_eq_mul_right hz hb, Int.eq_of_mul_eq_mul_right hz hc]
/-! ### the law's own -/


/-! ### arrows -/
structure V3 where
  a : Int
  b : Int
  c : Int
  deriving DecidableEq
abbrev D3 (p : V3) : D := T3 p.a p.b p.c
def V3.bd (n : Nat) (p : V3) : Prop := Bs.bd n p.a ∧ Bs.bd n p.b ∧ Bs.bd n p.c
theorem V3.bd.mono {m n : Nat} {p : V3} (h : V3.bd m p) (l : m ≤ n) : V3.bd n p := ⟨h.1.mono l, h.2.1.mono l, h.2.2.mono l⟩
abbrev ar (p q : V4) : V3 := ⟨q.a * p.d - p.a * q.d, q.b * p.d - p.b * q.d, q.c * p.d - p.c * q.d⟩
abbrev cr (u v : V3) : V3 := ⟨u.b * v.c - u.c * v.b, u.c * v.a - u.a * v.c, u.a * v.b - u.b * v.a⟩
abbrev dt (u : V3) (p : V4) : Int := u.a * p.a + u.b * p.b + u.c * p.c
theorem ar_bd {n : Nat} {p q : V4} (hp : V4.bd n p) (hq : V4.bd n q) : V3.bd (2 * n + 1) (ar p q) := by
  obtain ⟨p1, p2, p3, p4⟩ := hp
  obtain ⟨q1, q2, q3, q4⟩ := hq
  refine ⟨bd.mono (bd_sub (bd_mul q1 p4) (bd_mul p1 q4)) (by omega), bd.mono (bd_sub (bd_mul q2 p4) (bd_mul p2 q4)) (by omega), bd.mono (bd_sub (bd_mul q3 p4) (bd_mul p3 q4)) (by omega)⟩
theorem cr_bd {m n : Nat} {u v : V3} (hu : V3.bd m u) (hv : V3.bd n v) : V3.bd (m + n + 1) (cr u v) := by
  obtain ⟨p1, p2, p3⟩ := hu
  obtain ⟨q1, q2, q3⟩ := hv
  refine ⟨bd.mono (bd_sub (bd_mul p2 q3) (bd_mul p3 q2)) (by omega), bd.mono (bd_sub (bd_mul p3 q1) (bd_mul p1 q3)) (by omega), bd.mono (bd_sub (bd_mul p1 q2) (bd_mul p2 q1)) (by omega)⟩
theorem dt_bd {m n : Nat} {u : V3} {p : V4} (hu : V3.bd m u) (hp : V4.bd n p) : bd (m + n + 2) (dt u p) := by
  obtain ⟨p1, p2, p3⟩ := hu
  obtain ⟨q1, q2, q3, _⟩ := hp
  exact bd.mono (bd_add (bd_add (bd_mul p1 q1) (bd_mul p2 q2)) (bd_mul p3 q3)) (by omega)
theorem arrow_spec {p q : V4} (hp : V4.bd 8000 p) (hq : V4.bd 8000 q) : F_arrow [D4 p, D4 q] = .ok (D3 (ar p q)) := by
  unfold F_arrow
  refine den_of (· = _) ?_
  unfold m_arrow
  obtain ⟨p1, p2, p3, p4⟩ := hp
  obtain ⟨q1, q2, q3, q4⟩ := hq
  walk_at "ev"
theorem dot_spec {a b c a' b' c' : Int} {r r' : List D} (h1 : bd 8000 a) (h2 : bd 8000 b) (h3 : bd 8000 c) (h4 : bd 8000 a') (h5 : bd 8000 b') (h6 : bd 8000 c') : F_dot [.tuple (.int a :: .int b :: .int c :: r), .tuple (.int a' :: .int b' :: .int c' :: r')] = .ok (.int (a * a' + b * b' + c * c')) := by
  unfold F_dot
  refine den_of (· = _) ?_
  unfold m_dot
  walk_at "ev"
theorem cross_spec {a b c a' b' c' : Int} {r r' : List D} (h1 : bd 8000 a) (h2 : bd 8000 b) (h3 : bd 8000 c) (h4 : bd 8000 a') (h5 : bd 8000 b') (h6 : bd 8000 c') : F_cross [.tuple (.int a :: .int b :: .int c :: r), .tuple (.int a' :: .int b' :: .int c' :: r')] = .ok (D3 (cr ⟨a, b, c⟩ ⟨a', b', c'⟩)) := by
  unfold F_cross
  refine den_of (· = _) ?_
  unfold m_cross
  walk_at "ev"
/-! ### planes -/
structure Plane (p : V4) : Prop where
  ne : ¬ (p.a = 0 ∧ p.b = 0 ∧ p.c = 0)
  low : IsG 1 p.l
def p4 (a b c d : Int) : Nat := Int.gcd (Int.gcd (Int.gcd a b : Int) c : Int) d
def pl4 (a b c d : Int) : V4 := ⟨a.fdiv (p4 a b c d : Int), b.fdiv (p4 a b c d : Int), c.fdiv (p4 a b c d : Int), d.fdiv (p4 a b c d : Int)⟩
theorem isG_p4 {a b c d : Int} : IsG (p4 a b c d) [a, b, c, d] := isG_snoc (isG_snoc (isG_two (a := a) (b := b)))
theorem g3_zero {a b c : Int} : (Int.gcd (Int.gcd a b : Int) c : Int) = 0 ↔ (a = 0 ∧ b = 0 ∧ c = 0) := by
  constructor
  · intro h
    have h' : Int.gcd (Int.gcd a b : Int) c = 0 := by omega
    obtain ⟨h1, h2⟩ := Int.gcd_eq_zero_iff.mp h'
    have h1' : Int.gcd a b = 0 := by omega
    obtain ⟨h3, h4⟩ := Int.gcd_eq_zero_iff.mp h1'
    exact ⟨h3, h4, h2⟩
  · rintro ⟨rfl, rfl, rfl⟩
    rfl
theorem p4_pos {a b c d : Int} (h : ¬ (a = 0 ∧ b = 0 ∧ c = 0)) : 0 < p4 a b c d := by
  rcases Nat.eq_zero_or_pos (p4 a b c d) with z | z
  · have := (Int.gcd_eq_zero_iff.mp z).1
    exact absurd (g3_zero.mp this) h
  · exact z
theorem pl4_bd {n : Nat} {a b c d : Int} (h1 : bd n a) (h2 : bd n b) (h3 : bd n c) (h4 : bd n d) : V4.bd n (pl4 a b c d) := ⟨bd_fdiv h1, bd_fdiv h2, bd_fdiv h3, bd_fdiv h4⟩
theorem pl4_eq {a b c d : Int} (h : ¬ (a = 0 ∧ b = 0 ∧ c = 0)) : Plane (pl4 a b c d) ∧ a = (pl4 a b c d).a * (p4 a b c d : Int) ∧ b = (pl4 a b c d).b * (p4 a b c d : Int) ∧ c = (pl4 a b c d).c * (p4 a b c d : Int) ∧ d = (pl4 a b c d).d * (p4 a b c d : Int) := by
  have hp := p4_pos (d := d) h
  have hg := isG_p4 (a := a) (b := b) (c := c) (d := d)
  have dv : ∀ v ∈ [a, b, c, d], ((p4 a b c d : Nat) : Int) ∣ v := hg.1
  have q : ∀ v ∈ [a, b, c, d], v.fdiv (p4 a b c d : Int) = v / (p4 a b c d : Int) := fun v hv => fdiv_pos (dv v hv)
  have q2 : ∀ v ∈ [a, b, c, d], v = v.fdiv (p4 a b c d : Int) * (p4 a b c d : Int) := fun v hv => by
    rw [q v hv]
    exact (Int.ediv_mul_cancel (dv v hv)).symm
  refine ⟨⟨fun ⟨h1, h2, h3⟩ => h ?_, ?_⟩, q2 a (by simp), q2 b (by simp), q2 c (by simp), q2 d (by simp)⟩
  · have e1 : a.fdiv (p4 a b c d : Int) = 0 := h1
    have e2 : b.fdiv (p4 a b c d : Int) = 0 := h2
    have e3 : c.fdiv (p4 a b c d : Int) = 0 := h3
    have q3 := q2 a (by simp)
    have q4 := q2 b (by simp)
    have q5 := q2 c (by simp)
    rw [e1, Int.zero_mul] at q3
    rw [e2, Int.zero_mul] at q4
    rw [e3, Int.zero_mul] at q5
    exact ⟨q3, q4, q5⟩
  · have := hg.div hp
    show IsG 1 [a.fdiv (p4 a b c d : Int), b.fdiv (p4 a b c d : Int), c.fdiv (p4 a b c d : Int), d.fdiv (p4 a b c d : Int)]
    rw [q a (by simp), q b (by simp), q c (by simp), q d (by simp)]
    exact this
theorem made_plane_spec {a b c d : Int} (h1 : bd 8000 a) (h2 : bd 8000 b) (h3 : bd 8000 c) (h4 : bd 8000 d) : F_made_plane [.int a, .int b, .int c, .int d] = if a = 0 ∧ b = 0 ∧ c = 0 then .exc 3 none else .ok (D4 (pl4 a b c d)) := by
  unfold F_made_plane
  refine den_of (· = _) ?_
  unfold m_made_plane
  have s1 := divisor_spec (a := a) (h2.mono (by decide : 8000 ≤ 4000000))
  have s2 := divisor_spec (a := (Int.gcd a b : Int)) (h3.mono (by decide : 8000 ≤ 4000000))
  have s3 := divisor_spec (a := (Int.gcd (Int.gcd a b : Int) c : Int)) (h4.mono (by decide : 8000 ≤ 4000000))
  by_cases h : a = 0 ∧ b = 0 ∧ c = 0
  · have hz := g3_zero.mpr h
    rw [if_pos h]
    clear h
    walk_at "evh"
  · have hz := fun z => h (g3_zero.mp z)
    have hp : 0 < Int.gcd (Int.gcd (Int.gcd a b : Int) c : Int) d := p4_pos h
    have hb : bd 8000 (Int.gcd (Int.gcd (Int.gcd a b : Int) c : Int) d : Int) := by
      have : ∃ x ∈ [a, b, c], x ≠ 0 ∧ bd 8000 x := by
        by_cases ha : a = 0
        · by_cases hb : b = 0
          · exact ⟨c, by simp, fun z => h ⟨ha, hb, z⟩, h3⟩
          · exact ⟨b, by simp, hb, h2⟩
        · exact ⟨a, by simp, ha, h1⟩
      obtain ⟨x, hx, hx0, hxb⟩ := this
      exact (isG_p4 (a := a) (b := b) (c := c) (d := d)).bd (x := x) (by simp at hx ⊢; grind) hx0 hxb
    have hn : (Int.gcd (Int.gcd (Int.gcd a b : Int) c : Int) d : Int) ≠ 0 := by omega
    rw [if_neg h]
    clear h
    walk_at "evh"
    exact ⟨fun z => (hz z).elim, fun _ => rfl⟩
/-! ### plain ones -/
abbrev neg4 (p : V4) : V4 := ⟨0 - p.a, 0 - p.b, 0 - p.c, 0 - p.d⟩
def plain (p : V4) : V4 := if 0 < p.a then p else if p.a < 0 then neg4 p else if 0 < p.b then p else if p.b < 0 then neg4 p else if 0 < p.c then p else if p.c < 0 then neg4 p else p
def isPlain (p : V4) : Prop := 0 < p.a ∨ (p.a = 0 ∧ 0 < p.b) ∨ (p.a = 0 ∧ p.b = 0 ∧ 0 < p.c)
theorem neg4_bd {n : Nat} {p : V4} (h : V4.bd n p) : V4.bd n (neg4 p) := by
  obtain ⟨h1, h2, h3, h4⟩ := h
  refine ⟨?_, ?_, ?_, ?_⟩ <;> · unfold bd at *; simp only [Int.zero_sub, Int.natAbs_neg]; assumption
theorem Plane.neg {p : V4} (h : Plane p) : Plane (neg4 p) := by
  refine ⟨fun ⟨h1, h2, h3⟩ => h.ne ⟨by simp only at h1; omega, by simp only at h2; omega, by simp only at h3; omega⟩, ?_⟩
  have := h.low.neg
  simpa only [V4.l, List.map_cons, List.map_nil, Int.zero_sub] using this
theorem plain_is {p : V4} (h : Plane p) : isPlain (plain p) := by
  have := h.ne
  unfold plain isPlain
  split
  · left; assumption
  · split
    · left; simp only; omega
    · split
      · right; left; exact ⟨by omega, by assumption⟩
      · split
        · right; left; simp only; omega
        · split
          · right; right; exact ⟨by omega, by omega, by assumption⟩
          · split
            · right; right; simp only; omega
            · exfalso; exact this ⟨by omega, by omega, by omega⟩
theorem plain_or (p : V4) : plain p = p ∨ plain p = neg4 p := by
  unfold plain
  repeat' split
  all_goals first | exact Or.inl rfl | exact Or.inr rfl
theorem plain_bd {n : Nat} {p : V4} (h : V4.bd n p) : V4.bd n (plain p) := by
  rcases plain_or p with e | e <;> rw [e]
  · exact h
  · exact neg4_bd h
theorem plain_plane {p : V4} (h : Plane p) : Plane (plain p) := by
  rcases plain_or p with e | e <;> rw [e]
  · exact h
  · exact h.neg
theorem turned_spec {p : V4} : F_turned_about [D4 p] = .ok (D4 (neg4 p)) := by
  unfold F_turned_about
  refine den_of (· = _) ?_
  unfold m_turned_about
  walk_at "ev"
theorem plain_spec {p : V4} : F_plain_one [D4 p] = .ok (D4 (plain p)) := by
  unfold F_plain_one
  refine den_of (· = _) ?_
  unfold m_plain_one
  have s := turned_spec (p := p)
  walk_at "evh"
  unfold plain
  refine ⟨fun h => by rw [if_pos h], fun h => ?_⟩
  rw [if_neg h]
  refine ⟨fun h => by rw [if_pos h], fun h => ?_⟩
  rw [if_neg h]
  refine ⟨fun h => by rw [if_pos h], fun h => ?_⟩
  rw [if_neg h]
  refine ⟨fun h => by rw [if_pos h], fun h => ?_⟩
  rw [if_neg h]
  refine ⟨fun h => by rw [if_pos h], fun h => ?_⟩
  rw [if_neg h]
  refine ⟨fun h => by rw [if_pos h], fun h => by rw [if_neg h]⟩
/-! ### the plane through three spots -/
abbrev nrm (p q r : V4) : V3 := cr (ar p q) (ar p r)
def coll (p q r : V4) : Prop := (nrm p q r).a = 0 ∧ (nrm p q r).b = 0 ∧ (nrm p q r).c = 0
instance : Decidable (coll p q r) := inferInstanceAs (Decidable (_ ∧ _ ∧ _))
/-- through a spot, an arrow upright on it -/
def thr1 (u : V3) (p : V4) : V4 := pl4 (u.a * p.d) (u.b * p.d) (u.c * p.d) (dt u p)
def thr (p q r : V4) : V4 := plain (thr1 (nrm p q r) p)
theorem through_spec {u : V3} {p : V4} {m : Nat} (hu : V3.bd 4000 u) (hp : V4.bd 3900 p) (sp : Spot p) : F_through_spot [D3 u, D4 p] = if u.a = 0 ∧ u.b = 0 ∧ u.c = 0 then .exc 3 none else .ok (D4 (thr1 u p)) := by
  unfold F_through_spot
  refine den_of (· = _) ?_
  unfold m_through_spot
  obtain ⟨u1, u2, u3⟩ := hu
  obtain ⟨p1, p2, p3, p4⟩ := hp
  have s1 := dot_spec (r := []) (r' := [.int p.d]) (u1.mono (by decide : 4000 ≤ 8000)) (u2.mono (by decide : 4000 ≤ 8000)) (u3.mono (by decide : 4000 ≤ 8000)) (p1.mono (by decide : 3900 ≤ 8000)) (p2.mono (by decide : 3900 ≤ 8000)) (p3.mono (by decide : 3900 ≤ 8000))
  have s2 := made_plane_spec (a := u.a * p.d) (b := u.b * p.d) (c := u.c * p.d) (d := dt u p) (by walk_at "dis") (by walk_at "dis") (by walk_at "dis") (by walk_at "dis")
  have hd : p.d ≠ 0 := by have := sp.pos; omega
  have e : (u.a * p.d = 0 ∧ u.b * p.d = 0 ∧ u.c * p.d = 0) ↔ (u.a = 0 ∧ u.b = 0 ∧ u.c = 0) := by
    simp only [Int.mul_eq_zero, hd, or_false]
  by_cases h : u.a = 0 ∧ u.b = 0 ∧ u.c = 0
  · rw [if_pos (e.mpr h)] at s2
    rw [if_pos h]
    clear e h
    walk_at "evh"
  · rw [if_neg fun z => h (e.mp z)] at s2
    rw [if_neg h]
    clear e h
    walk_at "evh"
    rfl
theorem plane_through_spec {p q r : V4} (hp : V4.bd 900 p) (hq : V4.bd 900 q) (hr : V4.bd 900 r) (sp : Spot p) : F_plane_through [D4 p, D4 q, D4 r] = if coll p q r then .exc 3 none else .ok (D4 (thr p q r)) := by
  unfold F_plane_through
  refine den_of (· = _) ?_
  unfold m_plane_through
  have b1 := ar_bd hp hq
  have b2 := ar_bd hp hr
  have b3 := cr_bd b1 b2
  have s1 := arrow_spec (hp.mono (by decide : 900 ≤ 8000)) (hq.mono (by decide : 900 ≤ 8000))
  have s2 := arrow_spec (hp.mono (by decide : 900 ≤ 8000)) (hr.mono (by decide : 900 ≤ 8000))
  have s3 := cross_spec (r := []) (r' := []) (b1.1.mono (by decide : _ ≤ 8000)) (b1.2.1.mono (by decide : _ ≤ 8000)) (b1.2.2.mono (by decide : _ ≤ 8000)) (b2.1.mono (by decide : _ ≤ 8000)) (b2.2.1.mono (by decide : _ ≤ 8000)) (b2.2.2.mono (by decide : _ ≤ 8000))
  have s4 := through_spec (m := 0) (b3.mono (by decide)) (hp.mono (by decide)) sp
  have s5 := @plain_spec
  clear b1 b2 b3
  by_cases h : coll p q r
  · rw [if_pos h]
    have h' : (nrm p q r).a = 0 ∧ (nrm p q r).b = 0 ∧ (nrm p q r).c = 0 := h
    rw [if_pos h'] at s4
    clear h h'
    walk_at "evh"
  · rw [if_neg h]
    have h' : ¬ ((nrm p q r).a = 0 ∧ (nrm p q r).b = 0 ∧ (nrm p q r).c = 0) := h
    rw [if_neg h'] at s4
    clear h h'
    walk_at "evh"
    rfl


/-! ### heights, one plane by its multiples -/
def hgt (p s : V4) : Int := p.a * s.a + p.b * s.b + p.c * s.c - p.d * s.d
/-- what thr tells is a multiple of the arrow's plane -/
theorem thr_eq {p q r : V4} (sp : Spot p) (h : ¬ coll p q r) : Plane (thr p q r) ∧ isPlain (thr p q r) ∧ ∃ m : Int, m ≠ 0 ∧ (nrm p q r).a * p.d = (thr p q r).a * m ∧ (nrm p q r).b * p.d = (thr p q r).b * m ∧ (nrm p q r).c * p.d = (thr p q r).c * m ∧ dt (nrm p q r) p = (thr p q r).d * m := by
  have hd : p.d ≠ 0 := by have := sp.pos; omega
  have hn : ¬ ((nrm p q r).a * p.d = 0 ∧ (nrm p q r).b * p.d = 0 ∧ (nrm p q r).c * p.d = 0) := fun ⟨z1, z2, z3⟩ => h ⟨(Int.mul_eq_zero.mp z1).resolve_right hd, (Int.mul_eq_zero.mp z2).resolve_right hd, (Int.mul_eq_zero.mp z3).resolve_right hd⟩
  obtain ⟨hp, e1, e2, e3, e4⟩ := pl4_eq (d := dt (nrm p q r) p) hn
  have hp0 := p4_pos (d := dt (nrm p q r) p) hn
  refine ⟨plain_plane hp, plain_is hp, ?_⟩
  have key : ∃ m : Int, m ≠ 0 ∧ (thr1 (nrm p q r) p).a * (p4 ((nrm p q r).a * p.d) ((nrm p q r).b * p.d) ((nrm p q r).c * p.d) (dt (nrm p q r) p) : Int) = (thr p q r).a * m ∧ (thr1 (nrm p q r) p).b * (p4 ((nrm p q r).a * p.d) ((nrm p q r).b * p.d) ((nrm p q r).c * p.d) (dt (nrm p q r) p) : Int) = (thr p q r).b * m ∧ (thr1 (nrm p q r) p).c * (p4 ((nrm p q r).a * p.d) ((nrm p q r).b * p.d) ((nrm p q r).c * p.d) (dt (nrm p q r) p) : Int) = (thr p q r).c * m ∧ (thr1 (nrm p q r) p).d * (p4 ((nrm p q r).a * p.d) ((nrm p q r).b * p.d) ((nrm p q r).c * p.d) (dt (nrm p q r) p) : Int) = (thr p q r).d * m := by
    generalize p4 ((nrm p q r).a * p.d) ((nrm p q r).b * p.d) ((nrm p q r).c * p.d) (dt (nrm p q r) p) = g at hp0
    unfold thr
    generalize thr1 (nrm p q r) p = t
    rcases plain_or t with e | e <;> rw [e]
    · exact ⟨g, by omega, rfl, rfl, rfl, rfl⟩
    · refine ⟨-(g : Int), by omega, ?_, ?_, ?_, ?_⟩ <;> · simp only [Int.zero_sub, Int.neg_mul_neg]
  obtain ⟨m, hm, k1, k2, k3, k4⟩ := key
  exact ⟨m, hm, e1.trans k1, e2.trans k2, e3.trans k3, e4.trans k4⟩
theorem comb {x y N N' m n P R : Int} (f : N' = x * n) (e : N = y * m) (h : N' * P = N * R) : x * (n * P) = y * (m * R) := by
  rw [← Int.mul_assoc, ← f, h, e, Int.mul_assoc]
theorem thr_bd {n : Nat} {p q r : V4} (hp : V4.bd n p) (hq : V4.bd n q) (hr : V4.bd n r) : V4.bd (5 * n + 5) (thr p q r) := by
  have b := cr_bd (ar_bd hp hq) (ar_bd hp hr)
  have d := dt_bd b hp
  obtain ⟨b1, b2, b3⟩ := b
  obtain ⟨_, _, _, p4⟩ := hp
  exact plain_bd (pl4_bd (bd.mono (bd_mul b1 p4) (by omega)) (bd.mono (bd_mul b2 p4) (by omega)) (bd.mono (bd_mul b3 p4) (by omega)) (bd.mono d (by omega)))


/-! ### sides -/
def sgn (h : Int) : Int := if 0 < h then 1 else if h < 0 then -1 else 0
theorem sign_spec {h : Int} : F_sign_of [.int h] = .ok (.int (sgn h)) := by
  unfold F_sign_of
  refine den_of (· = _) ?_
  unfold m_sign_of
  walk_at "ev"
  unfold sgn
  refine ⟨fun h => by rw [if_pos h], fun h => ?_⟩
  rw [if_neg h]
  exact ⟨fun h => by rw [if_pos h], fun h => by rw [if_neg h]⟩
theorem height_over_spec {p s : V4} (hp : V4.bd 4000 p) (hs : V4.bd 4000 s) : F_height_over [D4 p, D4 s] = .ok (.int (hgt p s)) := by
  unfold F_height_over
  refine den_of (· = _) ?_
  unfold m_height_over
  obtain ⟨p1, p2, p3, p4⟩ := hp
  obtain ⟨q1, q2, q3, q4⟩ := hs
  have s1 := dot_spec (r := [.int p.d]) (r' := [.int s.d]) (p1.mono (by decide : 4000 ≤ 8000)) (p2.mono (by decide : 4000 ≤ 8000)) (p3.mono (by decide : 4000 ≤ 8000)) (q1.mono (by decide : 4000 ≤ 8000)) (q2.mono (by decide : 4000 ≤ 8000)) (q3.mono (by decide : 4000 ≤ 8000))
  walk_at "evh"
  rfl
theorem side_spec {p s : V4} (hp : V4.bd 4000 p) (hs : V4.bd 4000 s) : F_side_of [D4 p, D4 s] = .ok (.int (sgn (hgt p s))) := by
  unfold F_side_of
  refine den_of (· = _) ?_
  unfold m_side_of
  have s1 := height_over_spec hp hs
  have s2 := @sign_spec (hgt p s)
  walk_at "evh"


def sfb (p q : V4) : Bool := if p.a * q.d = q.a * p.d then (if p.b * q.d = q.b * p.d then (if p.c * q.d = q.c * p.d then false else decide (p.c * q.d < q.c * p.d)) else decide (p.b * q.d < q.b * p.d)) else decide (p.a * q.d < q.a * p.d)
theorem sfb_asym {p q : V4} : (sfb p q && sfb q p) = false := by
  unfold sfb
  by_cases h1 : p.a * q.d = q.a * p.d
  · rw [if_pos h1, if_pos h1.symm]
    by_cases h2 : p.b * q.d = q.b * p.d
    · rw [if_pos h2, if_pos h2.symm]
      by_cases h3 : p.c * q.d = q.c * p.d
      · rw [if_pos h3]; rfl
      · rw [if_neg h3, if_neg (Ne.symm h3)]
        simp only [Bool.and_eq_false_iff, decide_eq_false_iff_not]
        omega
    · rw [if_neg h2, if_neg (Ne.symm h2)]
      simp only [Bool.and_eq_false_iff, decide_eq_false_iff_not]
      omega
  · rw [if_neg h1, if_neg (Ne.symm h1)]
    simp only [Bool.and_eq_false_iff, decide_eq_false_iff_not]
    omega
theorem sfb_total {p q : V4} (hp : Spot p) (hq : Spot q) : (sfb p q || sfb q p) = !decide (p = q) := by
  unfold sfb
  by_cases h1 : p.a * q.d = q.a * p.d
  · rw [if_pos h1, if_pos h1.symm]
    by_cases h2 : p.b * q.d = q.b * p.d
    · rw [if_pos h2, if_pos h2.symm]
      by_cases h3 : p.c * q.d = q.c * p.d
      · rw [if_pos h3, if_pos h3.symm, decide_eq_true (Spot.ext hp hq h1 h2 h3)]; rfl
      · rw [if_neg h3, if_neg (Ne.symm h3), decide_eq_false (p := p = q) (fun z : p = q => h3 (by rw [z]))]
        simp only [Bool.not_false, Bool.or_eq_true, decide_eq_true_eq]
        omega
    · rw [if_neg h2, if_neg (Ne.symm h2), decide_eq_false (p := p = q) (fun z : p = q => h2 (by rw [z]))]
      simp only [Bool.not_false, Bool.or_eq_true, decide_eq_true_eq]
      omega
  · rw [if_neg h1, if_neg (Ne.symm h1), decide_eq_false (p := p = q) (fun z : p = q => h1 (by rw [z]))]
    simp only [Bool.not_false, Bool.or_eq_true, decide_eq_true_eq]
    omega
theorem stands_first_spec {p q : V4} (hp : V4.bd 8000 p) (hq : V4.bd 8000 q) : F_stands_first [D4 p, D4 q] = .ok (.bool (sfb p q)) := by
  unfold F_stands_first
  refine den_of (· = _) ?_
  unfold m_stands_first
  obtain ⟨p1, p2, p3, p4⟩ := hp
  obtain ⟨q1, q2, q3, q4⟩ := hq
  walk_at "ev"
  unfold sfb
  refine ⟨fun h => by rw [if_neg h], fun h => ?_⟩
  rw [if_pos h]
  refine ⟨fun h => by rw [if_neg h], fun h => ?_⟩
  rw [if_pos h]
  refine ⟨fun h => by rw [if_neg h], fun h => ?_⟩
  rw [if_pos h]


/-! ### sums, differences, products, quotients -/
/-! ### the law's own -/
/-! ### totals -/


/-! ### fractions in lowest terms are rational numbers -/
theorem ratNe {b : Int} (h : b ≠ 0) : (b : Rat) ≠ 0 := fun z => h (Rat.intCast_eq_zero_iff.mp z)
def bq (n : Nat) (q : Rat) : Prop := bd n q.num ∧ bd n (q.den : Int)
theorem bq.mono {m n : Nat} {q : Rat} (h : bq m q) (l : m ≤ n) : bq n q := ⟨h.1.mono l, h.2.mono l⟩


theorem rot_range {α : Type} (f : Nat → α) {n s : Nat} (h : s < n) : ((List.range n).map f).drop s ++ ((List.range n).map f).take s = (List.range n).map fun i => f ((i + s) % n) := by
  refine List.ext_getElem (by simp; omega) fun i h1 h2 => ?_
  have hi : i < n := by simp at h2; exact h2
  rw [List.getElem_map, List.getElem_range]
  by_cases c : i < n - s
  · rw [List.getElem_append_left (by simp; omega), List.getElem_drop, List.getElem_map, List.getElem_range, Nat.mod_eq_of_lt (by omega), Nat.add_comm]
  · rw [List.getElem_append_right (by simp; omega), List.getElem_take, List.getElem_map, List.getElem_range]
    congr 1
    simp
    rw [show i + s = i - (n - s) + n by omega, Nat.add_mod_right, Nat.mod_eq_of_lt (by omega)]
theorem ixL_nat {f : Nat → D} {n i : Nat} (h : i < n) : ixop (.list ((List.range n).map f)) (.int (i : Int)) = .ok (f i) :=
  ix_list (by rw [atI_nat, List.getElem?_map, List.getElem?_range h]; rfl)
/-- the place ahead of one, round -/
def prN (n i : Nat) : Nat := if i = 0 then n - 1 else i - 1
theorem atI_prev {f : Nat → D} {n i : Nat} (h : i < n) : atI ((List.range n).map f) ((i : Int) - 1) = some (f (prN n i)) := by
  unfold prN
  by_cases c : i = 0
  · rw [if_pos c, c]
    unfold atI ixN
    rw [if_neg (by decide), if_pos (by simp; omega)]
    have e : ((((0 : Nat) : Int) - 1) + ((List.map f (List.range n)).length : Int)).toNat = n - 1 := by simp; omega
    simp only [Option.bind_some, e]
    rw [List.getElem?_map, List.getElem?_range (by omega)]
    rfl
  · rw [if_neg c, show (i : Int) - 1 = ((i - 1 : Nat) : Int) by omega, atI_nat, List.getElem?_map, List.getElem?_range (by omega)]
    rfl
theorem ixL_prev {f : Nat → D} {n i : Nat} (h : i < n) : ixop (.list ((List.range n).map f)) (.int ((i : Int) - 1)) = .ok (f (prN n i)) := ix_list (atI_prev h)
theorem sIx_nat {n k s : Nat} (h : s ≤ n) : HT.sIx n k (some (s : Int)) = s := by
  unfold HT.sIx
  simp
  rw [if_neg (by omega)]
  omega
theorem slop_from {xs : List D} {s : Nat} (h : s ≤ xs.length) : slop (.list xs) (some (s : Int)) none = .ok (.list (xs.drop s)) := by
  show R.ok (PyData.list (cutD xs (some (s : Int)) none)) = _
  unfold cutD
  rw [sIx_nat h]
  have : HT.sIx xs.length xs.length none = xs.length := rfl
  rw [this, List.take_of_length_le (by simp)]
theorem slop_to {xs : List D} {s : Nat} (h : s ≤ xs.length) : slop (.list xs) none (some (s : Int)) = .ok (.list (xs.take s)) := by
  show R.ok (PyData.list (cutD xs none (some (s : Int)))) = _
  unfold cutD
  rw [sIx_nat h]
  have : HT.sIx xs.length 0 none = 0 := rfl
  rw [this, List.drop_zero, Nat.sub_zero]
/-- a loop over what stands at the first places -/
theorem LP_ran {F : Fns} {tg : Tg} {b : Ss} {Q : Pst} {env : SE} {m : Nat} {enc : Nat → D} (P : Nat → SE → Prop) (h0 : P 0 env) (step : ∀ i e, i < m → P i e → ∃ e', tgS tg (enc i) e = some e' ∧ WB F b e' (Q.lp (P (i + 1)))) (fin : ∀ e, P m e → Q.nx e) : LP F tg b ((List.range m).map enc) env Q := by
  refine LP_inv P 0 h0 (fun i x e hx hp => ?_) (fun e he => fin e (by simpa using he))
  rw [Nat.zero_add] at hp ⊢
  rw [List.getElem?_map] at hx
  by_cases hi : i < m
  · rw [List.getElem?_range hi] at hx
    cases hx
    exact step i e hi hp
  · rw [List.getElem?_eq_none (by simp; omega)] at hx
    cases hx
theorem tgS_tp2 {i j : Nat} {a b : D} {env : SE} : tgS (.tp [i, j]) (pairD a b) env = some ((env.set i (.fr a)).set j (.fr b)) := rfl
/-! cross products round -/
structure Pt where
  x : Rat
  y : Rat

/-! spots as points of rational space -/
@[ext] structure P3 where
  x : Rat
  y : Rat
  z : Rat
def P3.sub (u v : P3) : P3 := ⟨u.x - v.x, u.y - v.y, u.z - v.z⟩
def P3.dot (u v : P3) : Rat := u.x * v.x + u.y * v.y + u.z * v.z
def P3.cross (u v : P3) : P3 := ⟨u.y * v.z - u.z * v.y, u.z * v.x - u.x * v.z, u.x * v.y - u.y * v.x⟩
def P3.mul (k : Rat) (u : P3) : P3 := ⟨k * u.x, k * u.y, k * u.z⟩
def pnt (p : V4) : P3 := ⟨(p.a : Rat) / (p.d : Rat), (p.b : Rat) / (p.d : Rat), (p.c : Rat) / (p.d : Rat)⟩
def v3 (u : V3) : P3 := ⟨(u.a : Rat), (u.b : Rat), (u.c : Rat)⟩
theorem divEq {a b c d : Int} (hb : b ≠ 0) (hd : d ≠ 0) : (a : Rat) / (b : Rat) = (c : Rat) / (d : Rat) ↔ a * d = c * b := by
  have h1 := ratNe hb
  have h2 := ratNe hd
  refine ⟨fun h => ?_, fun h => ?_⟩
  · have : (a : Rat) * (d : Rat) = (c : Rat) * (b : Rat) := by grind
    exact_mod_cast this
  · have : (a : Rat) * (d : Rat) = (c : Rat) * (b : Rat) := by exact_mod_cast h
    grind
theorem spot_ne {p : V4} (h : Spot p) : p.d ≠ 0 := by have := h.pos; omega
theorem spotD {p : V4} (h : Spot p) : (0 : Rat) < (p.d : Rat) := by have := h.pos; exact_mod_cast (by omega : 0 < p.d)
theorem pnt_mk4 {x y z w : Int} (h : w ≠ 0) : pnt (mk4 x y z w) = ⟨(x : Rat) / (w : Rat), (y : Rat) / (w : Rat), (z : Rat) / (w : Rat)⟩ := by
  obtain ⟨h1, h2, h3⟩ := mk4_worth (x := x) (y := y) (z := z) h
  have hs := (mk4_eq (x := x) (y := y) (z := z) h).1
  show P3.mk _ _ _ = _
  rw [(divEq (spot_ne hs) h).mpr h1, (divEq (spot_ne hs) h).mpr h2, (divEq (spot_ne hs) h).mpr h3]
/-! signs -/
def sgR (q : Rat) : Int := if 0 < q then 1 else if q < 0 then -1 else 0
theorem sg_int (i : Int) : sgn i = sgR (i : Rat) := by
  unfold sgn sgR
  have e1 : (0 < i) = ((0 : Rat) < (i : Rat)) := propext ⟨fun h => by exact_mod_cast h, fun h => by exact_mod_cast h⟩
  have e2 : (i < 0) = ((i : Rat) < (0 : Rat)) := propext ⟨fun h => by exact_mod_cast h, fun h => by exact_mod_cast h⟩
  simp only [e1, e2]
theorem ratPos {a b : Rat} (ha : 0 < a) (hb : 0 < b) : 0 < a * b := Rat.mul_pos ha hb
theorem sg_mul {k q : Rat} (h : 0 < k) : sgR (k * q) = sgR q := by
  unfold sgR
  by_cases h1 : 0 < q
  · rw [if_pos h1, if_pos (ratPos h h1)]
  · rw [if_neg h1]
    by_cases h2 : q < 0
    · rw [if_pos h2]
      have : 0 < k * (-q) := ratPos h (by grind)
      rw [if_neg (by grind), if_pos (by grind)]
    · rw [if_neg h2]
      have : q = 0 := by grind
      rw [this, Rat.mul_zero]
      rfl
theorem sg_neg {q : Rat} : sgR (-q) = - sgR q := by
  unfold sgR
  by_cases h1 : 0 < q
  · rw [if_pos h1, if_neg (by grind), if_pos (by grind)]
  · rw [if_neg h1]
    by_cases h2 : q < 0
    · rw [if_pos h2, if_pos (by grind)]; rfl
    · rw [if_neg h2, if_neg (by grind), if_neg (by grind)]; rfl
theorem sg_pos {q : Rat} : sgR q = 1 ↔ 0 < q := by
  unfold sgR
  by_cases h1 : 0 < q
  · simp [h1]
  · by_cases h2 : q < 0 <;> simp [h1, h2]
theorem sg_zero {q : Rat} : sgR q = 0 ↔ q = 0 := by
  unfold sgR
  by_cases h1 : 0 < q
  · simp [h1]; grind
  · by_cases h2 : q < 0
    · simp [h1, h2]; grind
    · simp [h1, h2]; grind
/-! heights over planes -/
def lev (P : V4) (v : P3) : Rat := P.a * v.x + P.b * v.y + P.c * v.z - P.d
theorem hgt_ev {P s : V4} (hs : Spot s) : (hgt P s : Rat) = (s.d : Rat) * lev P (pnt s) := by
  have h := ratNe (spot_ne hs)
  simp only [hgt, lev, pnt]
  push_cast
  grind
theorem sgn_ev {P s : V4} (hs : Spot s) : sgn (hgt P s) = sgR (lev P (pnt s)) := by rw [sg_int, hgt_ev hs, sg_mul (spotD hs)]
theorem ev_neg {P : V4} {v : P3} : lev (neg4 P) v = - lev P v := by
  simp only [lev, neg4]
  push_cast
  grind
theorem v3_ar {p q : V4} (hp : Spot p) (hq : Spot q) : v3 (ar p q) = .mul ((p.d : Rat) * (q.d : Rat)) (.sub (pnt q) (pnt p)) := by
  have h1 := ratNe (spot_ne hp)
  have h2 := ratNe (spot_ne hq)
  simp only [v3, ar, P3.mul, P3.sub, pnt, P3.mk.injEq]
  push_cast
  refine ⟨?_, ?_, ?_⟩ <;> grind
theorem v3_cr {u v : V3} : v3 (cr u v) = .cross (v3 u) (v3 v) := by
  simp only [v3, cr, P3.cross, P3.mk.injEq]
  push_cast
  exact ⟨rfl, rfl, rfl⟩
theorem v3_zero {u : V3} : v3 u = ⟨0, 0, 0⟩ ↔ (u.a = 0 ∧ u.b = 0 ∧ u.c = 0) := by
  simp only [v3, P3.mk.injEq]
  refine ⟨fun ⟨h1, h2, h3⟩ => ⟨by exact_mod_cast h1, by exact_mod_cast h2, by exact_mod_cast h3⟩, fun ⟨h1, h2, h3⟩ => by rw [h1, h2, h3]; exact ⟨rfl, rfl, rfl⟩⟩
/-- the plane on which an arrow stands upright, through a spot -/
theorem ev_thr1 {u : V3} {p : V4} (hp : Spot p) (h : ¬ (u.a = 0 ∧ u.b = 0 ∧ u.c = 0)) (v : P3) : ∃ k : Rat, 0 < k ∧ lev (thr1 u p) v = k * P3.dot (v3 u) (P3.sub v (pnt p)) := by
  have hd := spot_ne hp
  have h' : ¬ (u.a * p.d = 0 ∧ u.b * p.d = 0 ∧ u.c * p.d = 0) := fun ⟨a, b, c⟩ => h ⟨(Int.mul_eq_zero.mp a).resolve_right hd, (Int.mul_eq_zero.mp b).resolve_right hd, (Int.mul_eq_zero.mp c).resolve_right hd⟩
  obtain ⟨_, e1, e2, e3, e4⟩ := pl4_eq (d := dt u p) h'
  have hg := p4_pos (d := dt u p) h'
  generalize hG : (p4 (u.a * p.d) (u.b * p.d) (u.c * p.d) (dt u p) : Int) = g at e1 e2 e3 e4
  have hg' : (0 : Rat) < (g : Rat) := by
    rw [← hG]
    exact_mod_cast hg
  have hT : thr1 u p = pl4 (u.a * p.d) (u.b * p.d) (u.c * p.d) (dt u p) := rfl
  rw [← hT] at e1 e2 e3 e4
  have q1 : (u.a : Rat) * (p.d : Rat) = ((thr1 u p).a : Rat) * (g : Rat) := by exact_mod_cast e1
  have q2 : (u.b : Rat) * (p.d : Rat) = ((thr1 u p).b : Rat) * (g : Rat) := by exact_mod_cast e2
  have q3 : (u.c : Rat) * (p.d : Rat) = ((thr1 u p).c : Rat) * (g : Rat) := by exact_mod_cast e3
  have q4 : (u.a : Rat) * (p.a : Rat) + (u.b : Rat) * (p.b : Rat) + (u.c : Rat) * (p.c : Rat) = ((thr1 u p).d : Rat) * (g : Rat) := by exact_mod_cast e4
  have hd' := spotD hp
  refine ⟨(p.d : Rat) / (g : Rat), ?_, ?_⟩
  · rw [Rat.div_def]
    exact ratPos hd' (Rat.inv_pos.mpr hg')
  · simp only [lev, P3.dot, v3, P3.sub, pnt]
    have h1 : (p.d : Rat) ≠ 0 := ratNe hd
    have h2 : (g : Rat) ≠ 0 := by grind
    grind
/-! sheets: a spot and two arrows -/
structure Sh where
  o : P3
  a : P3
  u : P3
def Sh.at (S : Sh) (p : Pt) : P3 := ⟨S.o.x + p.x * S.a.x + p.y * S.u.x, S.o.y + p.x * S.a.y + p.y * S.u.y, S.o.z + p.x * S.a.z + p.y * S.u.z⟩
def Sh.nor (S : Sh) : P3 := P3.cross S.a S.u
/-- twice the area, with its sign, of three places -/
def dt2 (p q r : Pt) : Rat := (q.x - p.x) * (r.y - p.y) - (q.y - p.y) * (r.x - p.x)
theorem cross_at (S : Sh) (p q r : Pt) : P3.cross (P3.sub (S.at q) (S.at p)) (P3.sub (S.at r) (S.at p)) = P3.mul (dt2 p q r) S.nor := by
  simp only [P3.cross, P3.sub, Sh.at, P3.mul, dt2, Sh.nor, P3.mk.injEq]
  refine ⟨?_, ?_, ?_⟩ <;> grind
theorem dot_self_pos {n : P3} (h : n ≠ ⟨0, 0, 0⟩) : 0 < P3.dot n n := by
  have sq : ∀ x : Rat, 0 ≤ x * x := fun x => by
    rcases (Rat.le_total : (0 : Rat) ≤ x ∨ x ≤ 0) with h | h
    · exact Rat.mul_nonneg h h
    · have := Rat.mul_nonneg (show 0 ≤ -x by grind) (show 0 ≤ -x by grind)
      grind
  have h1 := sq n.x
  have h2 := sq n.y
  have h3 := sq n.z
  simp only [P3.dot]
  apply Classical.byContradiction
  intro hn
  have e1 : n.x * n.x = 0 := by grind
  have e2 : n.y * n.y = 0 := by grind
  have e3 : n.z * n.z = 0 := by grind
  apply h
  have z : ∀ x : Rat, x * x = 0 → x = 0 := fun x hx => by
    rcases Rat.mul_eq_zero.mp hx with h | h <;> exact h
  obtain ⟨x, y, w⟩ := n
  simp only [P3.mk.injEq]
  exact ⟨z _ e1, z _ e2, z _ e3⟩
/-- upright on the sheet, along an edge: the height of a place -/
theorem up_at (S : Sh) (k : Rat) (p q x : Pt) : P3.dot (P3.cross (P3.mul k S.nor) (P3.sub (S.at q) (S.at p))) (P3.sub (S.at x) (S.at p)) = k * P3.dot S.nor S.nor * dt2 p q x := by
  simp only [P3.dot, P3.cross, P3.mul, P3.sub, Sh.at, dt2, Sh.nor]
  grind
theorem flat_at (S : Sh) (p x : Pt) : P3.dot S.nor (P3.sub (S.at x) (S.at p)) = 0 := by
  simp only [P3.dot, P3.cross, P3.sub, Sh.at, Sh.nor]
  grind
theorem nrm_at {p q r : V4} (hp : Spot p) (hq : Spot q) (hr : Spot r) {S : Sh} {i j k : Pt} (ep : pnt p = S.at i) (eq : pnt q = S.at j) (er : pnt r = S.at k) : ∃ m : Rat, 0 < m ∧ v3 (nrm p q r) = P3.mul (m * dt2 i j k) S.nor := by
  refine ⟨(p.d : Rat) * q.d * (p.d * r.d), ratPos (ratPos (spotD hp) (spotD hq)) (ratPos (spotD hp) (spotD hr)), ?_⟩
  rw [show nrm p q r = cr (ar p q) (ar p r) from rfl, v3_cr, v3_ar hp hq, v3_ar hp hr, ep, eq, er]
  have h := cross_at S i j k
  generalize P3.sub (S.at j) (S.at i) = u at h
  generalize P3.sub (S.at k) (S.at i) = v at h
  have h1 := congrArg P3.x h
  have h2 := congrArg P3.y h
  have h3 := congrArg P3.z h
  simp only [P3.cross, P3.mul, P3.mk.injEq] at h1 h2 h3 ⊢
  refine ⟨?_, ?_, ?_⟩ <;> grind
theorem mul_zero3 {k : Rat} {n : P3} (h : n ≠ ⟨0, 0, 0⟩) : P3.mul k n = ⟨0, 0, 0⟩ ↔ k = 0 := by
  refine ⟨fun e => ?_, fun e => by rw [e]; simp [P3.mul]⟩
  apply Classical.byContradiction
  intro hk
  apply h
  obtain ⟨x, y, z⟩ := n
  simp only [P3.mul, P3.mk.injEq] at e ⊢
  obtain ⟨e1, e2, e3⟩ := e
  exact ⟨(Rat.mul_eq_zero.mp e1).resolve_left hk, (Rat.mul_eq_zero.mp e2).resolve_left hk, (Rat.mul_eq_zero.mp e3).resolve_left hk⟩
theorem coll_at {p q r : V4} (hp : Spot p) (hq : Spot q) (hr : Spot r) {S : Sh} (hn : S.nor ≠ ⟨0, 0, 0⟩) {i j k : Pt} (ep : pnt p = S.at i) (eq : pnt q = S.at j) (er : pnt r = S.at k) : coll p q r ↔ dt2 i j k = 0 := by
  obtain ⟨m, hm, e⟩ := nrm_at hp hq hr ep eq er
  unfold coll
  rw [← v3_zero, e, mul_zero3 hn]
  refine ⟨fun h => (Rat.mul_eq_zero.mp h).resolve_left (by grind), fun h => by rw [h, Rat.mul_zero]⟩
theorem aux_a {N d T m K n : Rat} (hm : m ≠ 0) (q : N * d = T * m) (w : N = K * n) : T = K * d / m * n := by
  have : T * m = K * n * d := by rw [← q, w]
  grind
theorem aux_d {m K d Ta Tb Tc Td x y z a b c n1 n2 n3 : Rat} (hm : m ≠ 0) (hd : d ≠ 0) (t1 : Ta = K * d / m * n1) (t2 : Tb = K * d / m * n2) (t3 : Tc = K * d / m * n3) (t4 : K * n1 * a + K * n2 * b + K * n3 * c = Td * m) (f : n1 * (x - a / d) + n2 * (y - b / d) + n3 * (z - c / d) = 0) : Ta * x + Tb * y + Tc * z - Td = 0 := by
  have g : n1 * (d * x - a) + n2 * (d * y - b) + n3 * (d * z - c) = 0 := by grind
  have e : m * (Ta * x + Tb * y + Tc * z - Td) = 0 := by
    have e1 : m * Ta = K * d * n1 := by rw [t1]; grind
    have e2 : m * Tb = K * d * n2 := by rw [t2]; grind
    have e3 : m * Tc = K * d * n3 := by rw [t3]; grind
    clear t1 t2 t3
    grind
  exact (Rat.mul_eq_zero.mp e).resolve_left hm
/-- the plane through three spots of a sheet: its arrow stands upright on the sheet, all places lie on it -/
theorem thr_at {p q r : V4} (hp : Spot p) (hq : Spot q) (hr : Spot r) {S : Sh} (hn : S.nor ≠ ⟨0, 0, 0⟩) {i j k : Pt} (ep : pnt p = S.at i) (eq : pnt q = S.at j) (er : pnt r = S.at k) (h : dt2 i j k ≠ 0) :
    Plane (thr p q r) ∧ isPlain (thr p q r) ∧ ∃ m : Rat, m ≠ 0 ∧ v3 ⟨(thr p q r).a, (thr p q r).b, (thr p q r).c⟩ = P3.mul m S.nor ∧ ∀ x : Pt, lev (thr p q r) (S.at x) = 0 := by
  have hc : ¬ coll p q r := fun z => h ((coll_at hp hq hr hn ep eq er).mp z)
  obtain ⟨h1, h2, m, hm, e1, e2, e3, e4⟩ := thr_eq hp hc
  obtain ⟨k1, hk, ek⟩ := nrm_at hp hq hr ep eq er
  have hm' := ratNe hm
  have hd := ratNe (spot_ne hp)
  have q1 : ((nrm p q r).a : Rat) * p.d = (thr p q r).a * m := by exact_mod_cast e1
  have q2 : ((nrm p q r).b : Rat) * p.d = (thr p q r).b * m := by exact_mod_cast e2
  have q3 : ((nrm p q r).c : Rat) * p.d = (thr p q r).c * m := by exact_mod_cast e3
  have q4 : ((nrm p q r).a : Rat) * p.a + (nrm p q r).b * p.b + (nrm p q r).c * p.c = (thr p q r).d * m := by exact_mod_cast e4
  have w1 := congrArg P3.x ek
  have w2 := congrArg P3.y ek
  have w3 := congrArg P3.z ek
  simp only [v3, P3.mul] at w1 w2 w3
  rw [w1] at q1
  have t1 := aux_a hm' q1 rfl
  rw [w2] at q2
  have t2 := aux_a hm' q2 rfl
  rw [w3] at q3
  have t3 := aux_a hm' q3 rfl
  rw [w1, w2, w3] at q4
  refine ⟨h1, h2, k1 * dt2 i j k * p.d / m, ?_, ?_, fun x => ?_⟩
  · intro z
    have : k1 * dt2 i j k * p.d = 0 := by grind
    rcases Rat.mul_eq_zero.mp this with z | z
    · rcases Rat.mul_eq_zero.mp z with z | z
      · grind
      · exact h z
    · exact hd z
  · simp only [v3, P3.mul, P3.mk.injEq]
    exact ⟨t1, t2, t3⟩
  · have f := flat_at S i x
    rw [← ep] at f
    simp only [lev, P3.dot, P3.sub, pnt] at f ⊢
    exact aux_d hm' hd t1 t2 t3 q4 f


/-- the corners round a board: strictly convex, turned to the left on a sheet -/
structure Row (S : Sh) (p : Nat → Pt) (c : Nat → V4) (n B : Nat) : Prop where
  n3 : 3 ≤ n
  n8 : n ≤ 63
  per : ∀ i, c (i + n) = c i
  pper : ∀ i, p (i + n) = p i
  sp : ∀ i, Spot (c i)
  bd : ∀ i, V4.bd B (c i)
  at_ : ∀ i, pnt (c i) = S.at (p i)
  rnd : ∀ i j k, i < j → j < k → k < i + n → 0 < dt2 (p i) (p j) (p k)
  nor : S.nor ≠ ⟨0, 0, 0⟩
theorem per_mod {α : Type} {f : Nat → α} {n : Nat} (h : ∀ i, f (i + n) = f i) (i : Nat) : f (i % n) = f i := by
  have key : ∀ k i, f (i + n * k) = f i := by
    intro k
    induction k with
    | zero => intro i; rfl
    | succ k ih => intro i; rw [Nat.mul_succ, ← Nat.add_assoc, h, ih]
  conv => rhs; rw [← Nat.mod_add_div i n]
  exact (key _ _).symm
theorem per_prev {α : Type} {f : Nat → α} {n : Nat} (h : ∀ i, f (i + n) = f i) {i : Nat} (hi : i < n) : f (prN n i) = f (i + n - 1) := by
  unfold prN
  split
  · rename_i z; rw [z, Nat.zero_add]
  · rw [show i + n - 1 = i - 1 + n by omega, h]
/-- the upright plane through an edge, the spot r above it -/
def fenV (F p q r : V4) : V4 := if sgn (hgt (thr1 (cr ⟨F.a, F.b, F.c⟩ (ar p q)) p) r) < 0 then neg4 (thr1 (cr ⟨F.a, F.b, F.c⟩ (ar p q)) p) else thr1 (cr ⟨F.a, F.b, F.c⟩ (ar p q)) p
theorem sg_one_of {q : Rat} (h : 0 < q) : sgR q = 1 := sg_pos.mpr h
section
variable {S : Sh} {F p q r : V4} {i j k : Pt} {m : Rat}
theorem up_dot (hm : v3 ⟨F.a, F.b, F.c⟩ = P3.mul m S.nor) (hp : Spot p) (hq : Spot q) (ep : pnt p = S.at i) (eq : pnt q = S.at j) (x : Pt) : P3.dot (v3 (cr ⟨F.a, F.b, F.c⟩ (ar p q))) (P3.sub (S.at x) (S.at i)) = (p.d : Rat) * q.d * (m * P3.dot S.nor S.nor * dt2 i j x) := by
  rw [v3_cr, hm, v3_ar hp hq, ep, eq, ← up_at]
  simp only [P3.dot, P3.cross, P3.mul, P3.sub]
  grind
theorem up_ne (hn : S.nor ≠ ⟨0, 0, 0⟩) (hm : v3 ⟨F.a, F.b, F.c⟩ = P3.mul m S.nor) (m0 : m ≠ 0) (hp : Spot p) (hq : Spot q) (ep : pnt p = S.at i) (eq : pnt q = S.at j) (h : dt2 i j k ≠ 0) :
    ¬ ((cr ⟨F.a, F.b, F.c⟩ (ar p q)).a = 0 ∧ (cr ⟨F.a, F.b, F.c⟩ (ar p q)).b = 0 ∧ (cr ⟨F.a, F.b, F.c⟩ (ar p q)).c = 0) := fun z => by
  have e := up_dot hm hp hq ep eq k
  rw [v3_zero.mpr z] at e
  simp only [P3.dot, Rat.zero_mul, Rat.add_zero] at e
  have h1 := spotD hp
  have h2 := spotD hq
  have h3 := dot_self_pos hn
  rcases Rat.mul_eq_zero.mp e.symm with z | z
  · have := ratPos h1 h2; grind
  · rcases Rat.mul_eq_zero.mp z with z | z
    · rcases Rat.mul_eq_zero.mp z with z | z
      · exact m0 z
      · simp only [P3.dot] at h3; grind
    · exact h z
theorem up_sg (hn : S.nor ≠ ⟨0, 0, 0⟩) (hm : v3 ⟨F.a, F.b, F.c⟩ = P3.mul m S.nor) (m0 : m ≠ 0) (hp : Spot p) (hq : Spot q) (ep : pnt p = S.at i) (eq : pnt q = S.at j) (h : dt2 i j k ≠ 0) (x : Pt) :
    sgR (lev (thr1 (cr ⟨F.a, F.b, F.c⟩ (ar p q)) p) (S.at x)) = sgR (m * dt2 i j x) := by
  obtain ⟨t, ht, e⟩ := ev_thr1 hp (up_ne hn hm m0 hp hq ep eq h) (S.at x)
  have h1 := spotD hp
  have h2 := spotD hq
  have h3 := dot_self_pos hn
  rw [e, ep, up_dot hm hp hq ep eq x, show t * ((p.d : Rat) * q.d * (m * P3.dot S.nor S.nor * dt2 i j x)) = (t * ((p.d : Rat) * q.d) * P3.dot S.nor S.nor) * (m * dt2 i j x) by grind]
  exact sg_mul (ratPos (ratPos ht (ratPos h1 h2)) h3)
theorem fen_sg (hn : S.nor ≠ ⟨0, 0, 0⟩) (hm : v3 ⟨F.a, F.b, F.c⟩ = P3.mul m S.nor) (m0 : m ≠ 0) (hp : Spot p) (hq : Spot q) (hr : Spot r) (ep : pnt p = S.at i) (eq : pnt q = S.at j) (er : pnt r = S.at k) (h : 0 < dt2 i j k) (x : Pt) :
    sgR (lev (fenV F p q r) (S.at x)) = sgR (dt2 i j x) := by
  have h0 : dt2 i j k ≠ 0 := by grind
  have key := up_sg hn hm m0 hp hq ep eq h0
  unfold fenV
  rw [sgn_ev hr, er, key k]
  rcases (show m < 0 ∨ 0 < m by grind) with hm | hm
  · have e1 : sgR (m * dt2 i j k) = -1 := by
      have := sg_one_of (ratPos (show 0 < -m by grind) h)
      rw [show -m * dt2 i j k = -(m * dt2 i j k) by grind, sg_neg] at this
      omega
    rw [if_pos (by rw [e1]; decide), ev_neg, sg_neg, key x, ← sg_neg, show -(m * dt2 i j x) = (-m) * dt2 i j x by grind, sg_mul (by grind)]
  · have e1 : sgR (m * dt2 i j k) = 1 := sg_one_of (ratPos hm h)
    rw [if_neg (by rw [e1]; decide), key x, sg_mul hm]
end
theorem fen_bd {n : Nat} {F p q r : V4} (hF : V4.bd (5 * n + 5) F) (hp : V4.bd n p) (hq : V4.bd n q) : V4.bd (8 * n + 9) (fenV F p q r) := by
  have h1 : V3.bd (7 * n + 7) (cr ⟨F.a, F.b, F.c⟩ (ar p q)) := (cr_bd (show V3.bd (5 * n + 5) ⟨F.a, F.b, F.c⟩ from ⟨hF.1, hF.2.1, hF.2.2.1⟩) (ar_bd hp hq)).mono (by omega)
  have h2 : V4.bd (8 * n + 9) (thr1 (cr ⟨F.a, F.b, F.c⟩ (ar p q)) p) := pl4_bd ((bd_mul h1.1 hp.2.2.2).mono (by omega)) ((bd_mul h1.2.1 hp.2.2.2).mono (by omega)) ((bd_mul h1.2.2 hp.2.2.2).mono (by omega)) ((dt_bd h1 hp).mono (by omega))
  unfold fenV
  split
  · exact neg4_bd h2
  · exact h2


/-- a row of things, as a list or a tuple -/
structure RowD (w : D) (f : Nat → D) (n : Nat) : Prop where
  ix : ∀ i, i < n → ixop w (.int (i : Int)) = .ok (f i)
  pv : ∀ i, i < n → ixop w (.int ((i : Int) - 1)) = .ok (f (prN n i))
  len : bi .len [w] = .ok (.int (n : Int))
  en : iters .enum [w] = .ok ((List.range n).map fun (i : Nat) => pairD (.int (i : Int)) (f i))
  sq : iters .seq [w] = .ok ((List.range n).map f)
  fr : ∀ s, s ≤ n → ∃ x, slop w (some (s : Int)) none = .ok x ∧ bi .list [x] = .ok (.list (((List.range n).map f).drop s))
  to : ∀ s, s ≤ n → ∃ x, slop w none (some (s : Int)) = .ok x ∧ bi .list [x] = .ok (.list (((List.range n).map f).take s))
theorem rowL {f : Nat → D} {n : Nat} : RowD (.list ((List.range n).map f)) f n where
  ix := fun i h => ixL_nat h
  pv := fun i h => ixL_prev h
  len := by rw [bi_len, List.length_map, List.length_range]
  en := by rw [iters_enum, enumR]
  sq := rfl
  fr := fun s h => ⟨_, slop_from (by simpa using h), rfl⟩
  to := fun s h => ⟨_, slop_to (by simpa using h), rfl⟩
theorem fmod_nat {i n : Nat} (h : 0 < n) : ((i : Int)).fmod (n : Int) = ((i % n : Nat) : Int) := by rw [Int.fmod_eq_emod_of_nonneg _ (by omega)]; rfl
/-- the plane of a row -/
def flatR (c : Nat → V4) : V4 := thr (c 0) (c 1) (c 2)
def crlR (c : Nat → V4) (i : Nat) : V3 := cr ⟨(flatR c).a, (flatR c).b, (flatR c).c⟩ (ar (c i) (c (i + 1)))
def upR (c : Nat → V4) (i : Nat) : V4 := thr1 (crlR c i) (c i)
def fenR (c : Nat → V4) (n i : Nat) : V4 := fenV (flatR c) (c i) (c (i + 1)) (c (i + n - 1))
section
variable {S : Sh} {p : Nat → Pt} {c : Nat → V4} {n B : Nat}
theorem Row.d012 (h : Row S p c n B) : 0 < dt2 (p 0) (p 1) (p 2) := h.rnd 0 1 2 (by omega) (by omega) (by have := h.n3; omega)
theorem Row.flat (h : Row S p c n B) : Plane (flatR c) ∧ isPlain (flatR c) ∧ ∃ m : Rat, m ≠ 0 ∧ v3 ⟨(flatR c).a, (flatR c).b, (flatR c).c⟩ = P3.mul m S.nor ∧ ∀ x : Pt, lev (flatR c) (S.at x) = 0 :=
  thr_at (h.sp 0) (h.sp 1) (h.sp 2) h.nor (h.at_ 0) (h.at_ 1) (h.at_ 2) (by have := h.d012; grind)
theorem Row.ncoll (h : Row S p c n B) : ¬ coll (c 0) (c 1) (c 2) := fun z => by
  have := (coll_at (h.sp 0) (h.sp 1) (h.sp 2) h.nor (h.at_ 0) (h.at_ 1) (h.at_ 2)).mp z
  have := h.d012
  grind
theorem Row.flat_bd (h : Row S p c n B) : V4.bd (5 * B + 5) (flatR c) := thr_bd (h.bd 0) (h.bd 1) (h.bd 2)
theorem Row.fen_bd (h : Row S p c n B) (i : Nat) : V4.bd (8 * B + 9) (fenR c n i) := Bs.fen_bd h.flat_bd (h.bd i) (h.bd (i + 1))
theorem Row.prev (h : Row S p c n B) (i : Nat) : 0 < dt2 (p i) (p (i + 1)) (p (i + n - 1)) := h.rnd _ _ _ (by omega) (by have := h.n3; omega) (by have := h.n3; omega)
theorem Row.fen (h : Row S p c n B) (i : Nat) (x : Pt) : sgR (lev (fenR c n i) (S.at x)) = sgR (dt2 (p i) (p (i + 1)) x) := by
  obtain ⟨_, _, m, m0, hm, _⟩ := h.flat
  exact fen_sg h.nor hm m0 (h.sp _) (h.sp _) (h.sp _) (h.at_ _) (h.at_ _) (h.at_ _) (h.prev i) x
theorem Row.flat_spec (h : Row S p c n B) (hB : B ≤ 400) : F_plane_through [D4 (c 0), D4 (c 1), D4 (c 2)] = .ok (D4 (flatR c)) := by
  rw [plane_through_spec ((h.bd 0).mono (by omega)) ((h.bd 1).mono (by omega)) ((h.bd 2).mono (by omega)) (h.sp 0), if_neg h.ncoll]
  rfl
theorem Row.fences (h : Row S p c n B) (hB : B ≤ 400) {w : D} (hw : RowD w (fun i => D4 (c i)) n) : F_fences [w] = .ok (.list ((List.range n).map fun i => D4 (fenR c n i))) := by
  have h3 := h.n3
  have h8 := h.n8
  unfold F_fences
  refine den_of (· = _) ?_
  unfold m_fences
  have s0 := h.flat_spec hB
  have body : ∀ i, i < n → F_arrow [D4 (c i), D4 (c (i + 1))] = .ok (D3 (ar (c i) (c (i + 1)))) ∧
      F_cross [T3 (flatR c).a (flatR c).b (flatR c).c, D3 (ar (c i) (c (i + 1)))] = .ok (D3 (crlR c i)) ∧
      F_through_spot [D3 (crlR c i), D4 (c i)] = .ok (D4 (upR c i)) ∧
      F_side_of [D4 (upR c i), D4 (c (prN n i))] = .ok (.int (sgn (hgt (upR c i) (c (prN n i))))) ∧
      F_turned_about [D4 (upR c i)] = .ok (D4 (neg4 (upR c i))) := fun i hi => by
    have hF := h.flat_bd
    have a := ar_bd (h.bd i) (h.bd (i + 1))
    have h1 : V3.bd (7 * B + 7) (crlR c i) := (cr_bd (show V3.bd (5 * B + 5) ⟨(flatR c).a, (flatR c).b, (flatR c).c⟩ from ⟨hF.1, hF.2.1, hF.2.2.1⟩) a).mono (by omega)
    have hu : V4.bd (8 * B + 9) (upR c i) := pl4_bd ((bd_mul h1.1 (h.bd i).2.2.2).mono (by omega)) ((bd_mul h1.2.1 (h.bd i).2.2.2).mono (by omega)) ((bd_mul h1.2.2 (h.bd i).2.2.2).mono (by omega)) ((dt_bd h1 (h.bd i)).mono (by omega))
    refine ⟨arrow_spec ((h.bd i).mono (by omega)) ((h.bd (i + 1)).mono (by omega)), ?_, ?_, side_spec (hu.mono (by omega)) ((h.bd _).mono (by omega)), turned_spec⟩
    · exact cross_spec (r := []) (r' := []) (hF.1.mono (by omega)) (hF.2.1.mono (by omega)) (hF.2.2.1.mono (by omega)) (a.1.mono (by omega)) (a.2.1.mono (by omega)) (a.2.2.mono (by omega))
    · obtain ⟨_, _, m, m0, hm, _⟩ := h.flat
      have ne : ¬ ((crlR c i).a = 0 ∧ (crlR c i).b = 0 ∧ (crlR c i).c = 0) := up_ne h.nor hm m0 (h.sp i) (h.sp (i + 1)) (h.at_ i) (h.at_ (i + 1)) (k := p (i + n - 1)) (by have := h.prev i; grind)
      rw [through_spec (m := 0) (h1.mono (by omega)) ((h.bd i).mono (by omega)) (h.sp i), if_neg ne]
      rfl
  have a0 : ixop w (.int 0) = _ := hw.ix 0 (by omega)
  have a1 : ixop w (.int 1) = _ := hw.ix 1 (by omega)
  have a2 : ixop w (.int 2) = _ := hw.ix 2 (by omega)
  have a3 := hw.en
  have a4 := hw.len
  walk_at "esh"
  refine LP_ran (fun i e => ∃ x y z k : Sl, e = [.fr w, .fr (D4 (flatR c)), .ow ((List.range i).map fun i => D4 (fenR c n i)), x, y, z, k]) ⟨_, _, _, _, rfl⟩ ?_ ?_
  · rintro i e hi ⟨x, y, z, k, rfl⟩
    obtain ⟨b1, b2, b3, b4, b5⟩ := body i hi
    have hn : 0 < n := by omega
    have hn0 : (n : Int) ≠ 0 := by omega
    have m1 : ((i : Int) + 1).fmod (n : Int) = (((i + 1) % n : Nat) : Int) := fmod_nat (i := i + 1) hn
    have c1 := hw.ix ((i + 1) % n) (Nat.mod_lt _ hn)
    rw [per_mod h.per] at c1
    have c2 := hw.pv i hi
    have hf : fenR c n i = if sgn (hgt (upR c i) (c (prN n i))) < 0 then neg4 (upR c i) else upR c i := by
      rw [per_prev h.per hi]
      rfl
    have hl : i < 1000000 := by omega
    refine ⟨_, tgS_tp2, ?_⟩
    rw [List.range_succ, List.map_append, List.map_singleton]
    clear s0 body a0 a1 a2 a3 h
    by_cases hs : sgn (hgt (upR c i) (c (prN n i))) < 0
    · rw [if_pos hs] at hf
      rw [hf]
      walk_at "evh"
      exact ⟨_, _, _, _, rfl⟩
    · rw [if_neg hs] at hf
      rw [hf]
      walk_at "evh"
      exact ⟨_, _, _, _, rfl⟩
  · rintro e ⟨x, y, z, k, rfl⟩
    walk_at "ev"
end


theorem sfb_iff {p q : V4} (hp : Spot p) (hq : Spot q) : sfb p q = true ↔ ((pnt p).x < (pnt q).x ∨ ((pnt p).x = (pnt q).x ∧ ((pnt p).y < (pnt q).y ∨ ((pnt p).y = (pnt q).y ∧ (pnt p).z < (pnt q).z)))) := by
  have h1 := spotD hp
  have h2 := spotD hq
  have lt : ∀ a b : Int, ((a : Rat) / (p.d : Rat) < (b : Rat) / (q.d : Rat)) ↔ a * q.d < b * p.d := fun a b => by
    rw [Rat.div_lt_iff h1]
    have e : (b : Rat) / (q.d : Rat) * (p.d : Rat) = ((b : Rat) * (p.d : Rat)) / (q.d : Rat) := by grind
    rw [e, Rat.lt_div_iff h2]
    exact ⟨fun h => by exact_mod_cast h, fun h => by exact_mod_cast h⟩
  have eq : ∀ a b : Int, ((a : Rat) / (p.d : Rat) = (b : Rat) / (q.d : Rat)) ↔ a * q.d = b * p.d := fun a b => divEq (spot_ne hp) (spot_ne hq)
  simp only [pnt, lt, eq]
  unfold sfb
  by_cases c1 : p.a * q.d = q.a * p.d
  · rw [if_pos c1]
    by_cases c2 : p.b * q.d = q.b * p.d
    · rw [if_pos c2]
      by_cases c3 : p.c * q.d = q.c * p.d
      · rw [if_pos c3]
        simp
        omega
      · rw [if_neg c3]
        simp
        omega
    · rw [if_neg c2]
      simp
      omega
  · rw [if_neg c1]
    simp
    omega
theorem sfb_trans {p q r : V4} (hp : Spot p) (hq : Spot q) (hr : Spot r) (h1 : sfb p q = true) (h2 : sfb q r = true) : sfb p r = true := by
  rw [sfb_iff hp hq] at h1
  rw [sfb_iff hq hr] at h2
  rw [sfb_iff hp hr]
  grind
theorem sfb_tot {p q : V4} (hp : Spot p) (hq : Spot q) (h : p ≠ q) (h2 : sfb p q = false) : sfb q p = true := by
  have := sfb_total hp hq
  simp [h, h2] at this
  exact this
theorem at_inj {S : Sh} (hn : S.nor ≠ ⟨0, 0, 0⟩) {p q : Pt} (h : S.at p = S.at q) : p = q := by
  have h1 := congrArg P3.x h
  have h2 := congrArg P3.y h
  have h3 := congrArg P3.z h
  simp only [Sh.at] at h1 h2 h3
  have hN := dot_self_pos hn
  simp only [P3.dot, Sh.nor, P3.cross] at hN
  have ex : (p.x - q.x) * ((S.a.y * S.u.z - S.a.z * S.u.y) * (S.a.y * S.u.z - S.a.z * S.u.y) + (S.a.z * S.u.x - S.a.x * S.u.z) * (S.a.z * S.u.x - S.a.x * S.u.z) + (S.a.x * S.u.y - S.a.y * S.u.x) * (S.a.x * S.u.y - S.a.y * S.u.x)) = 0 := by grind
  have ey : (p.y - q.y) * ((S.a.y * S.u.z - S.a.z * S.u.y) * (S.a.y * S.u.z - S.a.z * S.u.y) + (S.a.z * S.u.x - S.a.x * S.u.z) * (S.a.z * S.u.x - S.a.x * S.u.z) + (S.a.x * S.u.y - S.a.y * S.u.x) * (S.a.x * S.u.y - S.a.y * S.u.x)) = 0 := by grind
  have fx := (Rat.mul_eq_zero.mp ex).resolve_right (by grind)
  have fy := (Rat.mul_eq_zero.mp ey).resolve_right (by grind)
  obtain ⟨px, py⟩ := p
  obtain ⟨qx, qy⟩ := q
  simp only [Pt.mk.injEq] at fx fy ⊢
  exact ⟨by grind, by grind⟩
section
variable {S : Sh} {p : Nat → Pt} {c : Nat → V4} {n B : Nat}
theorem Row.ne (h : Row S p c n B) {i j : Nat} (h1 : i < j) (h2 : j < i + n) : c i ≠ c j := fun e => by
  have n3 := h.n3
  have e2 : p i = p j := at_inj h.nor (by rw [← h.at_, ← h.at_, e])
  by_cases k : j + 1 < i + n
  · have := h.rnd i j (j + 1) h1 (by omega) k
    rw [← e2] at this
    simp only [dt2] at this
    grind
  · have := h.rnd i (i + 1) j (by omega) (by omega) (by omega)
    rw [← e2] at this
    simp only [dt2] at this
    grind
theorem Row.inj (h : Row S p c n B) {i j : Nat} (hi : i < n) (hj : j < n) (e : c i = c j) : i = j := by
  rcases Nat.lt_trichotomy i j with k | k | k
  · exact absurd e (h.ne k (by omega))
  · exact k
  · exact absurd e.symm (h.ne k (by omega))
/-- above each fence: all corners but its two -/
theorem Row.above (h : Row S p c n B) {i j : Nat} (hi : i < n) (hj : j < n) (n1 : c j ≠ c i) (n2 : c j ≠ c (i + 1)) : sgn (hgt (fenR c n i) (c j)) = 1 := by
  have n3 := h.n3
  rw [sgn_ev (h.sp j), h.at_, h.fen, sg_pos]
  have d1 : j ≠ i := fun z => n1 (by rw [z])
  have d2 : j ≠ i + 1 := fun z => n2 (by rw [z])
  by_cases k : i < j
  · exact h.rnd i (i + 1) j (by omega) (by omega) (by omega)
  · have d3 : j + n ≠ i + 1 := fun z => n2 (by rw [← z, h.per])
    have := h.rnd i (i + 1) (j + n) (by omega) (by omega) (by omega)
    rw [h.pper] at this
    exact this
theorem cop_nin2 {x a b : V4} : cop .nin (D4 x) (.tuple [D4 a, D4 b]) = .ok (.bool (decide (x ≠ a ∧ x ≠ b))) := by
  have e1 : ∀ z : V4, PyData.eqv (D4 z) (D4 x) = decide (x = z) := fun z => by
    have q := eqv_of 1 (D4 z) (D4 x) pl_T4 pl_T4
    have q2 : D4 z = D4 x ↔ x = z := ⟨fun h => by
      have h : PyData.tuple [.int z.a, .int z.b, .int z.c, .int z.d] = .tuple [.int x.a, .int x.b, .int x.c, .int x.d] := h
      simp at h
      obtain ⟨h1, h2, h3, h4⟩ := h
      obtain ⟨_, _, _, _⟩ := x
      obtain ⟨_, _, _, _⟩ := z
      simp_all, fun h => by rw [h]⟩
    rw [q2] at q
    rw [Bool.eq_iff_iff, q]
    simp
  show (if shp (D4 x) = true ∧ shp (.tuple [D4 a, D4 b]) = true then R.ok (PyData.bool (!([D4 a, D4 b].any fun z => PyData.eqv z (D4 x)))) else .stuck) = _
  rw [if_pos ⟨shp_of (n := 1) pl_T4, shp_of (n := 2) (by rw [pl_tup]; rfl)⟩]
  simp only [List.any_cons, List.any_nil, Bool.or_false, e1]
  congr 2
  rw [Bool.eq_iff_iff]
  simp
theorem Row.round (h : Row S p c n B) (hB : B ≤ 400) {w : D} (hw : RowD w (fun i => D4 (c i)) n) : F_is_round [w] = .ok (.bool true) := by
  have h3 := h.n3
  have h8 := h.n8
  unfold F_is_round
  refine den_of (· = _) ?_
  unfold m_is_round
  have s0 := h.fences hB hw
  have a3 := hw.sq
  have a4 := hw.len
  walk_at "esh"
  refine LP_ran (fun i e => ∃ x y z k : Sl, e = [.fr w, x, y, z, k]) ⟨_, _, _, _, rfl⟩ ?_ ?_
  · rintro i e hi ⟨x, y, z, k, rfl⟩
    have hn : 0 < n := by omega
    have hn0 : (n : Int) ≠ 0 := by omega
    have m1 : ((i : Int) + 1).fmod (n : Int) = (((i + 1) % n : Nat) : Int) := fmod_nat (i := i + 1) hn
    have c1 := hw.ix ((i + 1) % n) (Nat.mod_lt _ hn)
    rw [per_mod h.per] at c1
    have c2 := hw.ix i hi
    refine ⟨_, tgS_tp2, ?_⟩
    clear s0
    walk_at "esh"
    refine LP_ran (fun j e => ∃ k : Sl, e = [.fr w, .fr (.int i), .fr (D4 (fenR c n i)), .fr (.tuple [D4 (c i), D4 (c (i + 1))]), k]) ⟨_, rfl⟩ ?_ ?_
    · rintro j e hj ⟨k, rfl⟩
      refine ⟨_, tgS_nm, ?_⟩
      have s1 := side_spec (p := fenR c n i) (s := c j) ((h.fen_bd i).mono (by omega)) ((h.bd j).mono (by omega))
      have s2 := cop_nin2 (x := c j) (a := c i) (b := c (i + 1))
      by_cases q : c j ≠ c i ∧ c j ≠ c (i + 1)
      · rw [h.above hi hj q.1 q.2] at s1
        rw [decide_eq_true q] at s2
        clear h c1 c2 a3 q
        walk_at "evh"
        exact ⟨fun q => absurd q (by decide), fun _ => ⟨_, rfl⟩⟩
      · rw [decide_eq_false q] at s2
        clear h c1 c2 a3 q
        walk_at "evh"
        exact fun _ => ⟨_, rfl⟩
    · rintro e ⟨k, rfl⟩
      walk_at "ev"
      exact ⟨_, _, _, _, rfl⟩
  · rintro e ⟨x, y, z, k, rfl⟩
    walk_at "ev"
theorem rev_range (f : Nat → D) {n : Nat} (h : 0 < n) : ((List.range n).map f).take 1 ++ (((List.range n).map f).drop 1).reverse = (List.range n).map fun i => f (if i = 0 then 0 else n - i) := by
  refine List.ext_getElem (by simp; omega) fun i h1 h2 => ?_
  have hi : i < n := by simp at h2; exact h2
  rw [List.getElem_map, List.getElem_range]
  by_cases c : i = 0
  · rw [if_pos c, List.getElem_append_left (by simp; omega), List.getElem_take, List.getElem_map, List.getElem_range, c]
  · rw [if_neg c, List.getElem_append_right (by simp; omega), List.getElem_reverse, List.getElem_drop, List.getElem_map, List.getElem_range]
    congr 1
    simp
    omega
/-- the row in form: from the corner that stands first on, by way of the lesser neighbour -/
def IsRow (c : Nat → V4) (n : Nat) (r : Nat → V4) : Prop := ∃ m, m < n ∧ (∀ i, sfb (c i) (c m) = false) ∧
  ((sfb (c (m + n - 1)) (c (m + 1)) = false ∧ ∀ i, i < n → r i = c (m + i)) ∨ (sfb (c (m + n - 1)) (c (m + 1)) = true ∧ ∀ i, i < n → r i = c (m + n - i)))
theorem in_form_ex (h : Row S p c n B) (hB : B ≤ 4000) {w : D} (hw : RowD w (fun i => D4 (c i)) n) : ∃ r, IsRow c n r ∧ F_in_form [w] = .ok (.tuple ((List.range n).map fun i => D4 (r i))) := by
  have h3 := h.n3
  have h8 := h.n8
  unfold F_in_form
  refine den_of (fun y => ∃ r, IsRow c n r ∧ y = .ok (.tuple ((List.range n).map fun i => D4 (r i)))) ?_
  unfold m_in_form
  have a4 := hw.len
  have sf : ∀ i j, F_stands_first [D4 (c i), D4 (c j)] = .ok (.bool (sfb (c i) (c j))) := fun i j => stands_first_spec ((h.bd i).mono (by omega)) ((h.bd j).mono (by omega))
  have hn1 : (n : Int) - 1 = ((n - 1 : Nat) : Int) := by omega
  have it : iters .rng2 [.int 1, .int (n : Int)] = .ok ((List.range (n - 1)).map fun (k : Nat) => PyData.int (1 + (k : Int))) := by
    rw [show iters .rng2 [.int 1, .int (n : Int)] = _ from if_pos (by omega), hn1, Int.toNat_natCast]
  walk_at "esh"
  refine LP_ran (fun i e => ∃ (s : Nat) (k : Sl), e = [.fr w, .fr (.int s), k, .un] ∧ s < n ∧ ∀ j, j ≤ i → sfb (c j) (c s) = false) ⟨0, _, rfl, by omega, fun j hj => by
    rw [show j = 0 by omega]
    have := sfb_asym (p := c 0) (q := c 0)
    simpa using this⟩ ?_ ?_
  · rintro i e hi ⟨s, k, rfl, hs, hm⟩
    refine ⟨_, tgS_nm, ?_⟩
    have c1 := hw.ix s hs
    have c2 := hw.ix (i + 1) (by omega)
    rw [show ((i + 1 : Nat) : Int) = 1 + (i : Int) by omega] at c2
    have s1 := sf (i + 1) s
    have fin1 : sfb (c (i + 1)) (c s) = true → ∀ j, j ≤ i + 1 → sfb (c j) (c (i + 1)) = false := fun ht j hj => by
      by_cases e : j = i + 1
      · rw [e]
        have := sfb_asym (p := c (i + 1)) (q := c (i + 1))
        simpa using this
      · cases hq : sfb (c j) (c (i + 1)) with
        | false => rfl
        | true => exact absurd (sfb_trans (h.sp j) (h.sp _) (h.sp s) hq ht) (by rw [hm j (by omega)]; decide)
    have fin2 : sfb (c (i + 1)) (c s) = false → ∀ j, j ≤ i + 1 → sfb (c j) (c s) = false := fun ht j hj => by
      by_cases e : j = i + 1
      · rw [e]; exact ht
      · exact hm j (by omega)
    clear hm sf h
    walk_at "evh"
    have en : (1 + (i : Int)) = ((i + 1 : Nat) : Int) := by omega
    exact ⟨fun ht => ⟨i + 1, _, by rw [en], by omega, fin1 ht⟩, fun ht => ⟨s, _, rfl, hs, fin2 ht⟩⟩
  · rintro e ⟨s, k, rfl, hs, hm⟩
    have hm : ∀ i, sfb (c i) (c s) = false := fun i => by
      rw [← per_mod h.per]
      exact hm _ (by have := Nat.mod_lt i (show 0 < n by omega); omega)
    obtain ⟨x1, f1, g1⟩ := hw.fr s (by omega)
    obtain ⟨x2, f2, g2⟩ := hw.to s (by omega)
    have hr := rot_range (fun i => D4 (c i)) hs
    have hr2 : ((List.range n).map fun i => D4 (c ((i + s) % n))) = (List.range n).map fun i => D4 (c (s + i)) := by
      refine List.map_congr_left fun i _ => ?_
      rw [per_mod h.per, Nat.add_comm]
    rw [hr2] at hr
    have hl : (((List.range n).map fun i => D4 (c i)).drop s).length + (((List.range n).map fun i => D4 (c i)).take s).length ≤ 1000000 := by simp; omega
    have i1 : ixop (.list ((List.range n).map fun i => D4 (c (s + i)))) (.int 1) = _ := ixL_nat (f := fun i => D4 (c (s + i))) (show 1 < n by omega)
    have i2 : ixop (.list ((List.range n).map fun i => D4 (c (s + i)))) (.int (-1)) = _ := ixL_prev (f := fun i => D4 (c (s + i))) (show 0 < n by omega)
    rw [show prN n 0 = n - 1 from if_pos rfl, show s + (n - 1) = s + n - 1 by omega] at i2
    have s1 := sf (s + n - 1) (s + 1)
    have b1 : slop (.list ((List.range n).map fun i => D4 (c (s + i)))) none (some 1) = _ := slop_to (s := 1) (by simp; omega)
    have b2 := rev_range (fun i => D4 (c (s + i))) (show 0 < n by omega)
    have hl2 : (((List.range n).map fun i => D4 (c (s + i))).take 1).length + (((List.range n).map fun i => D4 (c (s + i))).drop 1).reverse.length ≤ 1000000 := by simp; omega
    have b3 : ((List.range n).map fun i => D4 (c (s + if i = 0 then 0 else n - i))) = (List.range n).map fun i => D4 (c (s + n - i)) := by
      refine List.map_congr_left fun i hi => ?_
      have hi := List.mem_range.mp hi
      split
      · rename_i z
        rw [z, Nat.add_zero, Nat.sub_zero, h.per]
      · rw [show s + (n - i) = s + n - i by omega]
    rw [b3] at b2
    clear sf a4 hr2 b3 it
    cases hq : sfb (c (s + n - 1)) (c (s + 1)) with
    | false =>
      rw [hq] at s1
      have fin : IsRow c n fun i => c (s + i) := ⟨s, hs, by assumption, .inl ⟨hq, fun i _ => rfl⟩⟩
      clear hq h hw
      walk_at "evh"
      exact ⟨_, fin, rfl⟩
    | true =>
      rw [hq] at s1
      have fin : IsRow c n fun i => c (s + n - i) := ⟨s, hs, by assumption, .inr ⟨hq, fun i _ => rfl⟩⟩
      clear hq h hw
      walk_at "evh"
      exact ⟨_, fin, rfl⟩
end


theorem nub_nodup {α : Type} [DecidableEq α] : ∀ {xs : List α}, xs.Nodup → nub xs = xs
  | [], _ => rfl
  | x :: xs, h => by
    rw [List.nodup_cons] at h
    rw [nub, if_neg h.1, nub_nodup h.2]
theorem tups4 (f : Nat → V4) : ∀ xs : List Nat, tupsD (xs.map fun i => D4 (f i)) = some (xs.map fun i => (f i).l)
  | [] => rfl
  | x :: xs => by
    rw [List.map_cons, List.map_cons, tupsD, tups4 f xs]
    rfl
theorem l_inj {p q : V4} (h : p.l = q.l) : p = q := by
  obtain ⟨_, _, _, _⟩ := p
  obtain ⟨_, _, _, _⟩ := q
  simpa [V4.l] using h
section
variable {S : Sh} {p : Nat → Pt} {c : Nat → V4} {n B : Nat}
theorem Row.lset (h : Row S p c n B) : lsetD (.list ((List.range n).map fun i => D4 (c i))) = .ok (.int (n : Int)) := by
  have h8 := h.n8
  rw [lsetD, tups4]
  show (if ((List.range n).map fun i => (c i).l).length < 64 then R.ok (PyData.int ((nub ((List.range n).map fun i => (c i).l)).length : Nat)) else .stuck) = _
  rw [if_pos (by simp; omega), nub_nodup, List.length_map, List.length_range]
  refine List.nodup_iff_pairwise_ne.mpr ?_
  rw [List.pairwise_map]
  refine (List.nodup_iff_pairwise_ne.mp List.nodup_range).imp_of_mem fun {i j} hi hj hne e => ?_
  exact hne (h.inj (List.mem_range.mp hi) (List.mem_range.mp hj) (l_inj e))
theorem made_board_ex (h : Row S p c n B) (hB : B ≤ 400) (h8 : n ≤ 8) : ∃ r, IsRow c n r ∧ F_made_board [.list ((List.range n).map fun i => D4 (c i))] = .ok (.tuple ((List.range n).map fun i => D4 (r i))) := by
  have h3 := h.n3
  have hw : RowD (.list ((List.range n).map fun i => D4 (c i))) (fun i => D4 (c i)) n := rowL
  obtain ⟨r, hr, s3⟩ := in_form_ex h (by omega) hw
  refine ⟨r, hr, ?_⟩
  have s0 := h.flat_spec hB
  have s1 := h.round hB hw
  have s2 := h.lset
  have s4 : ∀ i, F_side_of [D4 (flatR c), D4 (c i)] = .ok (.int 0) := fun i => by
    rw [side_spec (h.flat_bd.mono (by omega)) ((h.bd i).mono (by omega)), sgn_ev (h.sp i), h.at_]
    obtain ⟨_, _, m, m0, hm, e⟩ := h.flat
    rw [e (p i)]
    rfl
  have a0 : ixop (.list ((List.range n).map fun i => D4 (c i))) (.int 0) = _ := hw.ix 0 (by omega)
  have a1 : ixop (.list ((List.range n).map fun i => D4 (c i))) (.int 1) = _ := hw.ix 1 (by omega)
  have a2 : ixop (.list ((List.range n).map fun i => D4 (c i))) (.int 2) = _ := hw.ix 2 (by omega)
  have hl : (3 : Int) ≤ n := by omega
  have hl8 : (n : Int) ≤ 8 := by omega
  have hnn : ¬ (n : Int) < n := by omega
  clear hw hr h
  unfold F_made_board
  refine den_of (· = _) ?_
  unfold m_made_board
  walk_at "evh"
  rw [WS_tryr]
  walk_at "evh"
  refine LP_ran (fun i e => ∃ k : Sl, e = [.fr (.list ((List.range n).map fun i => D4 (c i))), .fr (D4 (flatR c)), k]) ⟨_, rfl⟩ ?_ ?_
  · rintro i e hi ⟨k, rfl⟩
    refine ⟨_, tgS_nm, ?_⟩
    have s5 := s4 i
    clear s0 s1 s2 s3 s4
    walk_at "evh"
    exact ⟨_, rfl⟩
  · rintro e ⟨k, rfl⟩
    walk_at "evh"
end
/-! the row in form is one, from whichever corner on, either way round -/
section
variable {S : Sh} {p : Nat → Pt} {c : Nat → V4} {n B : Nat}
theorem Row.min_uniq (h : Row S p c n B) {m m' : Nat} (hm : m < n) (hm' : m' < n) (a : ∀ i, sfb (c i) (c m) = false) (b : ∀ i, sfb (c i) (c m') = false) : m = m' := by
  refine h.inj hm hm' (Classical.byContradiction fun e => ?_)
  have := sfb_tot (h.sp _) (h.sp _) e (b m)
  rw [a m'] at this
  cases this
theorem IsRow.uniq (h : Row S p c n B) {r r' : Nat → V4} (a : IsRow c n r) (b : IsRow c n r') : ∀ i, i < n → r i = r' i := by
  obtain ⟨m, hm, m1, m2⟩ := a
  obtain ⟨m', hm', m1', m2'⟩ := b
  obtain rfl := h.min_uniq hm hm' m1 m1'
  rcases m2 with ⟨e, q⟩ | ⟨e, q⟩ <;> rcases m2' with ⟨e', q'⟩ | ⟨e', q'⟩
  · exact fun i hi => (q i hi).trans (q' i hi).symm
  · rw [e] at e'; cases e'
  · rw [e] at e'; cases e'
  · exact fun i hi => (q i hi).trans (q' i hi).symm
theorem IsRow.turn (h : Row S p c n B) {r : Nat → V4} {s : Nat} (a : IsRow (fun i => c (i + s)) n r) : IsRow c n r := by
  have n3 := h.n3
  obtain ⟨m, hm, m1, m2⟩ := a
  have e : ∀ k, c ((m + s) % n + k) = c (m + s + k) := fun k => by rw [← per_mod h.per, Nat.mod_add_mod, per_mod h.per]
  have e0 : c ((m + s) % n) = c (m + s) := e 0
  have m1' : ∀ i, sfb (c i) (c (m + s)) = false := fun i => by
    have q := m1 (i + (n - s % n))
    have q2 : c (i + (n - s % n) + s) = c i := by
      rw [← per_mod h.per, ← per_mod h.per i]
      congr 1
      have := Nat.mod_add_div s n
      have hs := Nat.mod_lt s (show 0 < n by omega)
      rw [show i + (n - s % n) + s = i + n * (s / n + 1) by rw [Nat.mul_add]; omega, Nat.add_mul_mod_self_left]
    simp only [q2] at q
    exact q
  refine ⟨(m + s) % n, Nat.mod_lt _ (by omega), fun i => by rw [e0]; exact m1' i, ?_⟩
  have e2 : ∀ k, k ≤ n → c ((m + s) % n + n - k) = c (m + s + n - k) := fun k hk => by
    rw [show (m + s) % n + n - k = (m + s) % n + (n - k) by omega, e, show m + s + (n - k) = m + s + n - k by omega]
  rw [e2 1 (by omega), e 1]
  have f1 : m + n - 1 + s = m + s + n - 1 := by omega
  have f2 : m + 1 + s = m + s + 1 := by omega
  simp only [f1, f2] at m2
  rcases m2 with ⟨q1, q2⟩ | ⟨q1, q2⟩
  · exact .inl ⟨q1, fun i hi => by rw [q2 i hi, e, show m + i + s = m + s + i by omega]⟩
  · exact .inr ⟨q1, fun i hi => by rw [q2 i hi, e2 i (by omega), show m + n - i + s = m + s + n - i by omega]⟩
/-- told the other way round -/
theorem IsRow.back (h : Row S p c n B) {c' r : Nat → V4} {t : Nat} (hc : ∀ i j, (i + j) % n = t % n → c' i = c j) (a : IsRow c' n r) : IsRow c n r := by
  have n3 := h.n3
  obtain ⟨m, hm, m1, m2⟩ := a
  have hj : ∃ j, j < n ∧ (m + j) % n = t % n := ⟨(t + (n - m)) % n, Nat.mod_lt _ (by omega), by rw [Nat.add_mod_mod, show m + (t + (n - m)) = t + n by omega, Nat.add_mod_right]⟩
  obtain ⟨j, hj, ej⟩ := hj
  have e1 : ∀ k, k ≤ n → c' (m + k) = c (j + n - k) := fun k hk => hc _ _ (by rw [show m + k + (j + n - k) = m + j + n by omega, Nat.add_mod_right, ej])
  have e2 : ∀ k, k ≤ n → c' (m + n - k) = c (j + k) := fun k hk => hc _ _ (by rw [show m + n - k + (j + k) = m + j + n by omega, Nat.add_mod_right, ej])
  have e0 : c' m = c j := hc _ _ ej
  have m1' : ∀ i, sfb (c i) (c j) = false := fun i => by
    have q := m1 (t + n * i - i)
    have hi : i ≤ n * i := Nat.le_mul_of_pos_left i (by omega)
    rw [e0, hc (t + n * i - i) i (by rw [show t + n * i - i + i = t + n * i by omega, Nat.add_mul_mod_self_left])] at q
    exact q
  refine ⟨j, hj, m1', ?_⟩
  rw [e2 1 (by omega), e1 1 (by omega)] at m2
  rcases m2 with ⟨q1, q2⟩ | ⟨q1, q2⟩
  · refine .inr ⟨sfb_tot (h.sp _) (h.sp _) ?_ q1, fun i hi => by rw [q2 i hi, e1 i (by omega)]⟩
    exact h.ne (by omega) (by omega)
  · refine .inl ⟨?_, fun i hi => by rw [q2 i hi, e2 i (by omega)]⟩
    have := sfb_asym (p := c (j + 1)) (q := c (j + n - 1))
    rw [q1, Bool.true_and] at this
    exact this
end


theorem fmP (i : Int) {j : Int} (h : 0 < j) : 0 ≤ i.fmod j ∧ i.fmod j < j := ⟨Int.fmod_nonneg_of_pos i h, Int.fmod_lt_of_pos i h⟩
/-- a pool of one number -/
def PoolB (ps : List D) : Prop := ∃ a : Int, ps = [.int a]
theorem next_ex {ps : List D} (h : PoolB ps) {b : Int} (h1 : 1 ≤ b) (h2 : bd 100 b) : ∃ (d : Int) (ps' : List D), F_law_next [.list ps, .int b] = .ok (pairD (.int d) (.list ps')) ∧ (0 ≤ d ∧ d < b) ∧ PoolB ps' := by
  obtain ⟨a, rfl⟩ := h
  unfold F_law_next
  refine denP_of (fun r => ∃ (d : Int) (ps' : List D), r = .ok (pairD (.int d) (.list ps')) ∧ (0 ≤ d ∧ d < b) ∧ PoolB ps') (k := 0) (ps := [.int a]) rfl ?_
  unfold m_law_next
  have hm : b ≠ 0 := by omega
  have h3 : 0 < b := by omega
  walk_at "ev"
  exact ⟨_, _, rfl, fmP a h3, _, rfl⟩
theorem left_ex (cell : Int) : ∃ ps, F_law_left [.int cell] = .ok (.list ps) ∧ PoolB ps := by
  unfold F_law_left
  refine denF_of (fun r => ∃ ps, r = .ok (.list ps) ∧ PoolB ps) ?_
  unfold m_law_left
  have r0 : bd 61 (cell.fmod 2305843009213693951) := by
    have := fmP cell (show (0 : Int) < 2305843009213693951 by decide)
    unfold bd
    omega
  by_cases q1 : 10 ^ 18 ≤ cell
  · walk_at "evh"
    exact ⟨_, rfl, _, rfl⟩
  by_cases q2 : cell ≤ -10 ^ 18
  · walk_at "evh"
    exact ⟨_, rfl, _, rfl⟩
  walk_at "evh"
  refine LP_rng (fun i e => ∃ (x y : Int) (k : Sl), e = [.fr (.int cell), .fr (.int x), .fr (.int y), k] ∧ bd 61 x ∧ bd (64 * i + 1) y) ⟨_, _, _, rfl, ?_, by unfold bd; decide⟩ ?_ ?_
  · have := fmP (cell.fmod 2305843009213693951 * 48271 + 7) (show (0 : Int) < 2305843009213693951 by decide)
    unfold bd
    omega
  · rintro i e hi ⟨x, y, k, rfl, hx, hy⟩
    have bi : bd 4 (i : Int) := by unfold bd; omega
    have f1 : bd 61 ((x * x + 977 * (i : Int) + 11).fmod 2305843009213693951) := by
      have := fmP (x * x + 977 * (i : Int) + 11) (show (0 : Int) < 2305843009213693951 by decide)
      unfold bd
      omega
    have f2 : bd 61 (((x * x + 977 * (i : Int) + 11).fmod 2305843009213693951 * 69621).fmod 2305843009213693951) := by
      have := fmP ((x * x + 977 * (i : Int) + 11).fmod 2305843009213693951 * 69621) (show (0 : Int) < 2305843009213693951 by decide)
      unfold bd
      omega
    have hy' : bd 700 y := hy.mono (by omega)
    have bc : bd 62 (2305843009213693952 : Int) := by unfold bd; decide
    have fin := bd_add (bd_mul hy bc) f2
    walk_at "ev"
    exact ⟨_, _, _, rfl, f2, fin.mono (by omega)⟩
  · rintro e ⟨x, y, k, rfl, hx, hy⟩
    walk_at "ev"
    exact ⟨_, rfl, _, rfl⟩
/-! lowest terms -/
theorem divisor2_ex {xs : List Int} (h : ∀ x ∈ xs, bd 8000 x) : ∃ g : Nat, F_law_divisor_2 [.list (xs.map PyData.int)] = .ok (.int (g : Int)) ∧ IsG g xs := by
  unfold F_law_divisor_2
  refine den_of (fun r => ∃ g : Nat, r = .ok (.int (g : Int)) ∧ IsG g xs) ?_
  unfold m_law_divisor_2
  walk_at "es"
  refine LP_list (fun pre e => ∃ (g : Nat) (x y : Sl), e = [.fr (.list (xs.map PyData.int)), .fr (.int (g : Int)), x, y] ∧ IsG g pre) ⟨0, _, _, rfl, isG_nil⟩ ?_ ?_
  · rintro pre x post e he ⟨g, y, z, rfl, hg⟩
    have hx : bd 4000000 x := (h x (by rw [he]; simp)).mono (by decide)
    walk_at "es"
    refine WS_whil (fun m e => ∃ a b : Nat, e = [.fr (.list (xs.map PyData.int)), .fr (.int (a : Int)), .fr (.int x), .fr (.int (b : Int))] ∧ Nat.gcd a b = Int.gcd (g : Int) x ∧ m = b) x.natAbs ⟨g, x.natAbs, rfl, rfl, rfl⟩ (lt_fuel hx) ?_
    rintro m e ⟨a, b, rfl, hab, rfl⟩
    walk_at "ev"
    refine ⟨fun hb => ?_, fun hb => ?_⟩
    · have hm : (m : Int) ≠ 0 := by omega
      walk_at "ev"
      refine ⟨a % m, Nat.mod_lt _ (by omega), m, a % m, ?_, ?_, rfl⟩
      · rw [Int.fmod_eq_emod_of_nonneg _ (by omega)]
        rfl
      · rw [← hab, Nat.gcd_comm a m, Nat.gcd_rec m a, Nat.gcd_comm]
    · have hm : m = 0 := by omega
      subst hm
      rw [Nat.gcd_zero_right] at hab
      exact ⟨a, _, _, rfl, by rw [hab]; exact isG_snoc hg⟩
  · rintro e ⟨g, x, y, rfl, hg⟩
    walk_at "ev"
    exact ⟨g, rfl, hg⟩
theorem lowest2_spec {x y z w : Int} (hx : bd 8000 x) (hy : bd 8000 y) (hz : bd 8000 z) (hw : bd 8000 w) (h : 1 ≤ w) : F_law_lowest_2 [.list [.int x, .int y, .int z, .int w]] = .ok (D4 (mk4 x y z w)) := by
  obtain ⟨g, s1, hg⟩ := divisor2_ex (xs := [x, y, z, w]) (by simp [hx, hy, hz, hw])
  have s1 : F_law_divisor_2 [.list [.int x, .int y, .int z, .int w]] = .ok (.int (g : Int)) := s1
  have e : g = g4 x y z w := hg.uniq isG_g4 fun _ => Iff.rfl
  have g0 : (g : Int) ≠ 0 := by have := g4_pos (x := x) (y := y) (z := z) (w := w) (by omega); omega
  have gb : bd 8000 (g : Int) := hg.bd (x := w) (by simp) (by omega) hw
  have eb : sBy x y z w = (g : Int) := by rw [sBy, if_neg (by omega), e]
  clear e
  unfold F_law_lowest_2
  refine den_of (· = _) ?_
  unfold m_law_lowest_2
  walk_at "evh"
  simp only [mk4, eb]


theorem compP_ex {f : D → SE → R (D × SE)} {items : List D} (I : List D → SE → Prop) : ∀ {xs pre : List D} {ds : List D} {env : SE}, items = pre ++ xs → ds.length = pre.length → I ds env →
    (∀ pre x post ds e, items = pre ++ x :: post → ds.length = pre.length → I ds e → ∃ d e', f x e = .ok (d, e') ∧ I (ds ++ [d]) e') → ∃ es e', compP f xs env = .ok (es, e') ∧ I (ds ++ es) e' ∧ es.length = xs.length
  | [], pre, ds, env, _, _, h, _ => ⟨[], env, rfl, by rw [List.append_nil]; exact h, rfl⟩
  | x :: xs, pre, ds, env, e, hl, h, step => by
    obtain ⟨d, e1, h1, h2⟩ := step pre x xs ds env e hl h
    obtain ⟨es, e2, h3, h4, h5⟩ := compP_ex (items := items) I (xs := xs) (pre := pre ++ [x]) (ds := ds ++ [d]) (by rw [e]; simp) (by simp [hl]) h2 step
    refine ⟨d :: es, e2, by rw [compP_cons, h1, R.bind_ok, h3]; rfl, by simpa using h4, by simp [h5]⟩
/-- a comprehension that draws -/
theorem PP_comp {f : D → SE → R (D × SE)} {items : List D} {env : SE} {Q : D → SE → Prop} (I : List D → SE → Prop) (h0 : I [] env)
    (step : ∀ pre x post ds e, items = pre ++ x :: post → ds.length = pre.length → I ds e → ∃ d e', f x e = .ok (d, e') ∧ I (ds ++ [d]) e')
    (fin : ∀ ds e, ds.length = items.length → I ds e → PP (.ok (PyData.list ds, e)) Q) : PP ((compP f items env).bind fun q => .ok (.list q.1, q.2)) Q := by
  obtain ⟨es, e', h1, h2, h3⟩ := compP_ex (items := items) I (xs := items) (pre := []) (ds := []) rfl rfl h0 step
  rw [h1]
  exact fin es e' h3 (by simpa using h2)
theorem compL_filter {α : Type} {f : D → R (Option D)} {enc : α → D} (q : α → Bool) (g : α → D) {xs : List α} (h : ∀ x ∈ xs, f (enc x) = .ok (if q x = true then some (g x) else none)) : compL f (xs.map enc) = .ok ((xs.filter q).map g) := by
  induction xs with
  | nil => rfl
  | cons y ys ih =>
    rw [List.map_cons, compL, h y List.mem_cons_self, R.bind_ok, ih fun x hx => h x (List.mem_cons_of_mem _ hx), R.bind_ok, List.filter_cons]
    cases q y <;> rfl
/-! the sheet -/
theorem cross_law {a b c a' b' c' : Int} (h1 : bd 1000 a) (h2 : bd 1000 b) (h3 : bd 1000 c) (h4 : bd 1000 a') (h5 : bd 1000 b') (h6 : bd 1000 c') : F_law_cross [T3 a b c, T3 a' b' c'] = .ok (D3 (cr ⟨a, b, c⟩ ⟨a', b', c'⟩)) := by
  unfold F_law_cross
  refine den_of (· = _) ?_
  unfold m_law_cross
  walk_at "ev"
theorem pick5 {n : Int} (h : 0 ≤ n ∧ n < 5) : ∃ x : Int, ixop (.list [.int 2, .int 4, .int 9, .int (10 ^ 6), .int (10 ^ 12)]) (.int n) = .ok (.int x) ∧ 1 ≤ x ∧ x ≤ 10 ^ 12 := by
  rcases (show n = 0 ∨ n = 1 ∨ n = 2 ∨ n = 3 ∨ n = 4 by omega) with rfl | rfl | rfl | rfl | rfl <;> exact ⟨_, rfl, by decide, by decide⟩
theorem cop_neT3 {a b c a' b' c' : Int} : cop .ne (T3 a b c) (T3 a' b' c') = .ok (.bool (!decide (a = a' ∧ b = b' ∧ c = c'))) := cop_neP (n := 1) pl_T3 pl_T3 (by simp)
theorem cop_eqT3 {a b c a' b' c' : Int} : cop .eq (T3 a b c) (T3 a' b' c') = .ok (.bool (decide (a = a' ∧ b = b' ∧ c = c'))) := cop_eqP (n := 1) pl_T3 pl_T3 (by simp)
theorem lin1 {a x r : Int} (e : a * x - r = 0) (f : a * (x + 1) - r = 0) : a = 0 := by
  rw [Int.mul_add, Int.mul_one] at f
  omega
theorem lin2 {a x r : Int} (e : r - a * x = 0) (f : r - a * (x + 1) = 0) : a = 0 := by
  rw [Int.mul_add, Int.mul_one] at f
  omega
def nzC (a x : V3) : Bool := !decide ((cr a x).a = 0 ∧ (cr a x).b = 0 ∧ (cr a x).c = 0)
abbrev DSh (s : V3) (w : Int) (a u : V3) : D := .tuple [D3 s, .int w, D3 a, D3 u]
theorem sheet_ex {ps : List D} (h : PoolB ps) : ∃ (s : V3) (w : Int) (a u : V3) (ps' : List D), F_law_sheet [.list ps] = .ok (pairD (DSh s w a u) (.list ps')) ∧ PoolB ps' ∧ V3.bd 45 s ∧ V3.bd 45 a ∧ V3.bd 45 u ∧ 1 ≤ w ∧ bd 8 w ∧ ¬ ((cr a u).a = 0 ∧ (cr a u).b = 0 ∧ (cr a u).c = 0) := by
  unfold F_law_sheet
  refine denP_of (fun r => ∃ (s : V3) (w : Int) (a u : V3) (ps' : List D), r = .ok (pairD (DSh s w a u) (.list ps')) ∧ PoolB ps' ∧ V3.bd 45 s ∧ V3.bd 45 a ∧ V3.bd 45 u ∧ 1 ≤ w ∧ bd 8 w ∧ ¬ ((cr a u).a = 0 ∧ (cr a u).b = 0 ∧ (cr a u).c = 0)) (k := 0) (ps := ps) rfl ?_
  unfold m_law_sheet
  obtain ⟨d0, p0, s0, b0, h0⟩ := next_ex h (b := 5) (by decide) (by decide)
  obtain ⟨sp, s1, q1, q2⟩ := pick5 b0
  have bs : bd 41 (2 * sp + 1) := by unfold bd; omega
  have bs2 : bd 40 sp := by unfold bd; omega
  have l1 : 1 ≤ 2 * sp + 1 := by omega
  have l2 : bd 100 (2 * sp + 1) := bs.mono (by decide)
  walk_at "es"
  simp only [s0]
  walk_at "es"
  simp only [s1]
  walk_at "es"
  refine PP_comp (fun ds e => ∃ ps', e = [.ow ps', .fr (.int sp), .un, .un, .un, .un, .un, .un, .un] ∧ PoolB ps' ∧ ∀ d ∈ ds, ∃ i : Int, d = .int i ∧ bd 41 i) ⟨p0, rfl, h0, fun d hd => (nomatch hd)⟩ ?_ ?_
  · rintro pre x post ds e _ _ ⟨ps', rfl, hp, hd⟩
    obtain ⟨n, ps2, t, b, h2⟩ := next_ex hp l1 l2
    refine ⟨.int (n - sp), _, ?_, ps2, rfl, h2, fun d hm => ?_⟩
    · clear hd h2 hp h h0 s0 s1
      walk_at "evh"
    · rcases List.mem_append.mp hm with hm | hm
      · exact hd d hm
      · rw [List.mem_singleton] at hm
        exact ⟨_, hm, by unfold bd; omega⟩
  · rintro ds e hl ⟨ps', rfl, hp, hd⟩
    have hl : ds.length = 9 := by rw [hl]; rfl
    obtain ⟨x1, x2, x3, x4, x5, x6, x7, x8, x9, rfl⟩ : ∃ a b c d e f g h i, ds = [a, b, c, d, e, f, g, h, i] := by
      match ds, hl with
      | [a, b, c, d, e, f, g, h, i], _ => exact ⟨a, b, c, d, e, f, g, h, i, rfl⟩
    obtain ⟨x1, rfl, z1⟩ := hd x1 (by simp)
    obtain ⟨x2, rfl, z2⟩ := hd x2 (by simp)
    obtain ⟨x3, rfl, z3⟩ := hd x3 (by simp)
    obtain ⟨x4, rfl, z4⟩ := hd x4 (by simp)
    obtain ⟨x5, rfl, z5⟩ := hd x5 (by simp)
    obtain ⟨x6, rfl, z6⟩ := hd x6 (by simp)
    obtain ⟨x7, rfl, z7⟩ := hd x7 (by simp)
    obtain ⟨x8, rfl, z8⟩ := hd x8 (by simp)
    obtain ⟨x9, rfl, z9⟩ := hd x9 (by simp)
    clear hd hl h h0 s0 s1 b0 bs l1 l2
    obtain ⟨m1, r1, v1, c1, k1⟩ := next_ex hp (b := 12) (by decide) (by decide)
    obtain ⟨m2, r2, v2, c2, k2⟩ := next_ex k1 (b := 2) (by decide) (by decide)
    have bm1 : bd 4 m1 := by unfold bd; omega
    have bm2 : bd 1 m2 := by unfold bd; omega
    have w1 : 1 ≤ 1 + m1 * m2 := by
      have := Int.mul_nonneg c1.1 c2.1
      omega
    have w2 : bd 8 (1 + m1 * m2) := (bd_add (show bd 1 1 by unfold bd; decide) (bd_mul bm1 bm2)).mono (by decide)
    have g1 : slop (.list [.int x1, .int x2, .int x3, .int x4, .int x5, .int x6, .int x7, .int x8, .int x9]) (some 3) (some 6) = .ok (.list [.int x4, .int x5, .int x6]) := rfl
    have g2 : slop (.list [.int x1, .int x2, .int x3, .int x4, .int x5, .int x6, .int x7, .int x8, .int x9]) (some 6) none = .ok (.list [.int x7, .int x8, .int x9]) := rfl
    have g3 : slop (.list [.int x1, .int x2, .int x3, .int x4, .int x5, .int x6, .int x7, .int x8, .int x9]) none (some 3) = .ok (.list [.int x1, .int x2, .int x3]) := rfl
    walk_at "es"
    simp only [g1]
    walk_at "es"
    have na : ∃ a : V3, V3.bd 42 a ∧ ¬ (a.a = 0 ∧ a.b = 0 ∧ a.c = 0) ∧ (if x4 = 0 ∧ x5 = 0 ∧ x6 = 0 then (⟨1, 0, 0⟩ : V3) else ⟨x4, x5, x6⟩) = a := by
      refine ⟨_, ?_, ?_, rfl⟩
      · split
        · unfold V3.bd bd; decide
        · exact ⟨z4.mono (by decide), z5.mono (by decide), z6.mono (by decide)⟩
      · split
        · decide
        · assumption
    obtain ⟨a, ba, na, ea⟩ := na
    refine WS_only (P := fun e => e = [.ow ps', .fr (.int sp), .fr (.list [.int x1, .int x2, .int x3, .int x4, .int x5, .int x6, .int x7, .int x8, .int x9]), .un, .fr (D3 a), .un, .un, .un, .un]) ?_ ?_
    · have q1 := cop_eqT3 (a := x4) (b := x5) (c := x6) (a' := 0) (b' := 0) (c' := 0)
      by_cases q : x4 = 0 ∧ x5 = 0 ∧ x6 = 0
      · rw [if_pos q] at ea
        rw [decide_eq_true q] at q1
        subst ea
        clear g1 g2 g3 v1 v2 q
        walk_at "evh"
      · rw [if_neg q] at ea
        rw [decide_eq_false q] at q1
        subst ea
        clear g1 g2 g3 v1 v2 q
        walk_at "evh"
    · rintro e rfl
      rw [then_nx, WB_cons]
      obtain ⟨bs, bl, bb, be⟩ : ∃ bs : List V3, bs.length = 4 ∧ (∀ b ∈ bs, V3.bd 43 b) ∧ bs = [⟨x7, x8, x9⟩, ⟨x7 + 1, x8 + 0, x9 + 0⟩, ⟨x7 + 0, x8 + 1, x9 + 0⟩, ⟨x7 + 0, x8 + 0, x9 + 1⟩] := by
        have o : bd 1 (1 : Int) := by unfold bd; decide
        have y7 := (bd_add z7 o).mono (by decide : max 41 1 + 1 ≤ 43)
        have y8 := (bd_add z8 o).mono (by decide : max 41 1 + 1 ≤ 43)
        have y9 := (bd_add z9 o).mono (by decide : max 41 1 + 1 ≤ 43)
        refine ⟨_, rfl, fun b hb => ?_, rfl⟩
        simp only [Int.add_zero, List.mem_cons, List.not_mem_nil, or_false] at hb
        rcases hb with rfl | rfl | rfl | rfl
        · exact ⟨z7.mono (by decide), z8.mono (by decide), z9.mono (by decide)⟩
        · exact ⟨y7, z8.mono (by decide), z9.mono (by decide)⟩
        · exact ⟨z7.mono (by decide), y8, z9.mono (by decide)⟩
        · exact ⟨z7.mono (by decide), z8.mono (by decide), y9⟩
      have bn : ∃ b ∈ bs, ¬ ((cr a b).a = 0 ∧ (cr a b).b = 0 ∧ (cr a b).c = 0) := by
        apply Classical.byContradiction
        intro hn
        have hn : ∀ b ∈ bs, ((cr a b).a = 0 ∧ (cr a b).b = 0 ∧ (cr a b).c = 0) := fun b hb => Classical.byContradiction fun z => hn ⟨b, hb, z⟩
        rw [be] at hn
        rw [Int.add_zero, Int.add_zero, Int.add_zero] at hn
        obtain ⟨e1, e2, e3⟩ := hn _ (List.mem_cons_self)
        obtain ⟨e4, e5, e6⟩ := hn _ (List.mem_cons_of_mem _ List.mem_cons_self)
        obtain ⟨e7, e8, e9⟩ := hn _ (List.mem_cons_of_mem _ (List.mem_cons_of_mem _ List.mem_cons_self))
        exact na ⟨lin1 e3 e9, lin2 e3 e6, lin1 e2 e5⟩
      refine WS_only (P := fun e => e = [.ow ps', .fr (.int sp), .fr (.list [.int x1, .int x2, .int x3, .int x4, .int x5, .int x6, .int x7, .int x8, .int x9]), .un, .fr (D3 a), .ow [D3 ⟨x7, x8, x9⟩], .un, .un, .un]) ?_ ?_
      · walk_at "es"
        simp only [g2]
        walk_at "es"
      rintro e rfl
      rw [then_nx, WB_cons]
      refine WS_only (P := fun e => ∃ k : Sl, e = [.ow ps', .fr (.int sp), .fr (.list [.int x1, .int x2, .int x3, .int x4, .int x5, .int x6, .int x7, .int x8, .int x9]), k, .fr (D3 a), .ow (bs.map D3), .un, .un, .un]) ?_ ?_
      · rw [be]
        have j0 : ixop (.list [.int x1, .int x2, .int x3, .int x4, .int x5, .int x6, .int x7, .int x8, .int x9]) (.int (6 + 0)) = .ok (.int x7) := rfl
        have j1 : ixop (.list [.int x1, .int x2, .int x3, .int x4, .int x5, .int x6, .int x7, .int x8, .int x9]) (.int (6 + 1)) = .ok (.int x8) := rfl
        have j2 : ixop (.list [.int x1, .int x2, .int x3, .int x4, .int x5, .int x6, .int x7, .int x8, .int x9]) (.int (6 + 2)) = .ok (.int x9) := rfl
        have d01 : ((0 : Int) = 1) = False := by simp
        have d02 : ((0 : Int) = 2) = False := by simp
        have d10 : ((1 : Int) = 0) = False := by simp
        have d12 : ((1 : Int) = 2) = False := by simp
        have d20 : ((2 : Int) = 0) = False := by simp
        have d21 : ((2 : Int) = 1) = False := by simp
        clear bb bn be
        walk_at "es"
        simp only [j0, j1, j2, d01, d02, d10, d12, d20, d21]
        walk_at "es"
        refine ⟨by decide, ?_⟩
        simp only [j0, j1, j2, d01, d02, d10, d12, d20, d21]
        walk_at "es"
        refine ⟨by decide, ?_⟩
        simp only [j0, j1, j2, d01, d02, d10, d12, d20, d21]
        walk_at "es"
        exact ⟨by decide, _, rfl⟩
      rintro e ⟨k, rfl⟩
      rw [then_nx]
      walk_at "es"
      have hf : ∀ x ∈ bs, F_law_cross [D3 a, D3 x] = .ok (D3 (cr a x)) := fun x hx => cross_law (ba.1.mono (by decide)) (ba.2.1.mono (by decide)) (ba.2.2.mono (by decide)) ((bb x hx).1.mono (by decide)) ((bb x hx).2.1.mono (by decide)) ((bb x hx).2.2.mono (by decide))
      rw [compL_filter (enc := D3) (nzC a) D3 (fun x hx => ?_)]
      · obtain ⟨b, hb, hbn⟩ := bn
        have hm : b ∈ bs.filter (nzC a) := List.mem_filter.mpr ⟨hb, show (!decide ((cr a b).a = 0 ∧ (cr a b).b = 0 ∧ (cr a b).c = 0)) = true by rw [decide_eq_false hbn]; rfl⟩
        obtain ⟨u, hu, iu⟩ := ix_map (enc := D3) (xs := bs.filter (nzC a)) (i := 0) (by decide) (by have := List.length_pos_of_mem hm; omega)
        obtain ⟨hu1, hu2⟩ := List.mem_filter.mp hu
        have bu := bb u hu1
        have nu : ¬ ((cr a u).a = 0 ∧ (cr a u).b = 0 ∧ (cr a u).c = 0) := fun z => by have hu2 : (!decide ((cr a u).a = 0 ∧ (cr a u).b = 0 ∧ (cr a u).c = 0)) = true := hu2; rw [decide_eq_true z] at hu2; cases hu2
        clear hf hm hb hbn hu hu1 hu2 be bb bl ea na g1 g2 c1 c2 k1
        have fin : ∃ s w a' u' ps'', R.ok (pairD (DSh ⟨x1, x2, x3⟩ (1 + m1 * m2) a u) (.list r2)) = R.ok (pairD (DSh s w a' u') (.list ps'')) ∧ PoolB ps'' ∧ V3.bd 45 s ∧ V3.bd 45 a' ∧ V3.bd 45 u' ∧ 1 ≤ w ∧ bd 8 w ∧ ¬ ((cr a' u').a = 0 ∧ (cr a' u').b = 0 ∧ (cr a' u').c = 0) :=
          ⟨⟨x1, x2, x3⟩, _, a, u, r2, rfl, k2, ⟨z1.mono (by decide), z2.mono (by decide), z3.mono (by decide)⟩, ba.mono (by decide), bu.mono (by decide), w1, w2, nu⟩
        clear k2 ba bu w1 w2 nu
        walk_at "es"
        simp only [iu]
        walk_at "es"
        simp only [g3]
        walk_at "es"
        simp only [v1]
        walk_at "es"
        simp only [v2]
        walk_at "es"
        exact fin
      · have hc := cop_neT3 (a := (cr a x).a) (b := (cr a x).b) (c := (cr a x).c) (a' := 0) (b' := 0) (c' := 0)
        show noX (((((F_law_cross [D3 a, D3 x]).bind fun x => cop Cop.ne x (T3 0 0 0)).bind fun d => R.ok [d]).bind fun cs => (tstD cs).bind fun k => if k = true then R.ok (some (D3 x)) else R.ok none)) = _
        rw [hf x hx, R.bind_ok, hc]
        by_cases q : ((cr a x).a = 0 ∧ (cr a x).b = 0 ∧ (cr a x).c = 0)
        · have e : nzC a x = false := by show (!decide ((cr a x).a = 0 ∧ (cr a x).b = 0 ∧ (cr a x).c = 0)) = false; rw [decide_eq_true q]; rfl
          rw [decide_eq_true q, e]; rfl
        · have e : nzC a x = true := by show (!decide ((cr a x).a = 0 ∧ (cr a x).b = 0 ∧ (cr a x).c = 0)) = true; rw [decide_eq_false q]; rfl
          rw [decide_eq_false q, e]; rfl


/-! rows: strictly convex on a sheet, from places in order -/
def swP (p : Pt) : Pt := ⟨p.y, p.x⟩
def swS (S : Sh) : Sh := ⟨S.o, S.u, S.a⟩
theorem sw_at (S : Sh) (p : Pt) : (swS S).at (swP p) = S.at p := by
  simp only [Sh.at, swS, swP, P3.mk.injEq]
  refine ⟨?_, ?_, ?_⟩ <;> grind
theorem sw_nor {S : Sh} (h : S.nor ≠ ⟨0, 0, 0⟩) : (swS S).nor ≠ ⟨0, 0, 0⟩ := fun z => by
  apply h
  simp only [Sh.nor, swS, P3.cross, P3.mk.injEq] at z ⊢
  obtain ⟨z1, z2, z3⟩ := z
  refine ⟨?_, ?_, ?_⟩ <;> grind
theorem sw_dt (p q r : Pt) : dt2 (swP p) (swP q) (swP r) = dt2 r q p := by simp only [dt2, swP]; grind
section
variable {S : Sh} {p : Nat → Pt} {c : Nat → V4} {n B : Nat}
theorem Row.turn (h : Row S p c n B) (s : Nat) : Row S (fun i => p (i + s)) (fun i => c (i + s)) n B where
  n3 := h.n3
  n8 := h.n8
  per := fun i => by show c (i + n + s) = _; rw [show i + n + s = i + s + n by omega, h.per]
  pper := fun i => by show p (i + n + s) = _; rw [show i + n + s = i + s + n by omega, h.pper]
  sp := fun i => h.sp _
  bd := fun i => h.bd _
  at_ := fun i => h.at_ _
  rnd := fun i j k h1 h2 h3 => h.rnd _ _ _ (by omega) (by omega) (by omega)
  nor := h.nor
/-- the row told the other way round -/
theorem Row.back (h : Row S p c n B) {c' : Nat → V4} {p' : Nat → Pt} {t : Nat} (hc : ∀ i j, (i + j) % n = t % n → c' i = c j ∧ p' i = swP (p j)) : Row (swS S) p' c' n B where
  n3 := h.n3
  n8 := h.n8
  per := fun i => by
    have e : (i + (t + n * i - i)) % n = t % n := by
      have hi : i ≤ n * i := Nat.le_mul_of_pos_left i (by have := h.n3; omega)
      rw [show i + (t + n * i - i) = t + n * i by omega, Nat.add_mul_mod_self_left]
    rw [(hc i _ e).1, (hc (i + n) (t + n * i - i) (by rw [show i + n + (t + n * i - i) = i + (t + n * i - i) + n by omega, Nat.add_mod_right, e])).1]
  pper := fun i => by
    have e : (i + (t + n * i - i)) % n = t % n := by
      have hi : i ≤ n * i := Nat.le_mul_of_pos_left i (by have := h.n3; omega)
      rw [show i + (t + n * i - i) = t + n * i by omega, Nat.add_mul_mod_self_left]
    rw [(hc i _ e).2, (hc (i + n) (t + n * i - i) (by rw [show i + n + (t + n * i - i) = i + (t + n * i - i) + n by omega, Nat.add_mod_right, e])).2]
  sp := fun i => by
    have hi : i ≤ n * i := Nat.le_mul_of_pos_left i (by have := h.n3; omega)
    rw [(hc i (t + n * i - i) (by rw [show i + (t + n * i - i) = t + n * i by omega, Nat.add_mul_mod_self_left])).1]
    exact h.sp _
  bd := fun i => by
    have hi : i ≤ n * i := Nat.le_mul_of_pos_left i (by have := h.n3; omega)
    rw [(hc i (t + n * i - i) (by rw [show i + (t + n * i - i) = t + n * i by omega, Nat.add_mul_mod_self_left])).1]
    exact h.bd _
  at_ := fun i => by
    have hi : i ≤ n * i := Nat.le_mul_of_pos_left i (by have := h.n3; omega)
    obtain ⟨e1, e2⟩ := hc i (t + n * i - i) (by rw [show i + (t + n * i - i) = t + n * i by omega, Nat.add_mul_mod_self_left])
    rw [e1, e2, sw_at]
    exact h.at_ _
  rnd := fun i j k h1 h2 h3 => by
    have hk : k ≤ n * k := Nat.le_mul_of_pos_left k (by have := h.n3; omega)
    have e : ∀ x, x ≤ k → (x + (t + n * k - x)) % n = t % n := fun x hx => by rw [show x + (t + n * k - x) = t + n * k by omega, Nat.add_mul_mod_self_left]
    rw [(hc i _ (e i (by omega))).2, (hc j _ (e j (by omega))).2, (hc k _ (e k (by omega))).2, sw_dt]
    exact h.rnd _ _ _ (by omega) (by omega) (by omega)
  nor := sw_nor h.nor
end
/-! the spot at a place of a sheet -/
def shR (s : V3) (w : Int) (a u : V3) : Sh := ⟨P3.mul (1 / (w : Rat)) (v3 s), v3 a, v3 u⟩
def spAt (s : V3) (w : Int) (a u : V3) (q : V3) : V4 := mk4 (s.a * q.c + w * (q.a * a.a + q.b * u.a)) (s.b * q.c + w * (q.a * a.b + q.b * u.b)) (s.c * q.c + w * (q.a * a.c + q.b * u.c)) (w * q.c)
def ptAt (q : V3) : Pt := ⟨(q.a : Rat) / (q.c : Rat), (q.b : Rat) / (q.c : Rat)⟩
theorem spAt_ok {s a u q : V3} {w : Int} (hw : 1 ≤ w) (hq : 1 ≤ q.c) : Spot (spAt s w a u q) ∧ pnt (spAt s w a u q) = (shR s w a u).at (ptAt q) := by
  have h : w * q.c ≠ 0 := by have := Int.mul_pos (show 0 < w by omega) (show 0 < q.c by omega); omega
  refine ⟨(mk4_eq h).1, ?_⟩
  rw [spAt, pnt_mk4 h]
  have h1 := ratNe (show w ≠ 0 by omega)
  have h2 := ratNe (show q.c ≠ 0 by omega)
  simp only [Sh.at, shR, ptAt, P3.mul, v3, P3.mk.injEq]
  push_cast
  refine ⟨?_, ?_, ?_⟩ <;> grind
theorem spAt_bd {s a u q : V3} {w : Int} (hs : V3.bd 45 s) (ha : V3.bd 45 a) (hu : V3.bd 45 u) (hw : bd 8 w) (hq : V3.bd 10 q) : V4.bd 75 (spAt s w a u q) := by
  obtain ⟨s1, s2, s3⟩ := hs
  obtain ⟨a1, a2, a3⟩ := ha
  obtain ⟨u1, u2, u3⟩ := hu
  obtain ⟨q1, q2, q3⟩ := hq
  exact mk4_bd ((bd_add (bd_mul s1 q3) (bd_mul hw (bd_add (bd_mul q1 a1) (bd_mul q2 u1)))).mono (by decide)) ((bd_add (bd_mul s2 q3) (bd_mul hw (bd_add (bd_mul q1 a2) (bd_mul q2 u2)))).mono (by decide))
    ((bd_add (bd_mul s3 q3) (bd_mul hw (bd_add (bd_mul q1 a3) (bd_mul q2 u3)))).mono (by decide)) ((bd_mul hw q3).mono (by decide))
theorem shR_nor {s a u : V3} {w : Int} (h : ¬ ((cr a u).a = 0 ∧ (cr a u).b = 0 ∧ (cr a u).c = 0)) : (shR s w a u).nor ≠ ⟨0, 0, 0⟩ := fun z => h (v3_zero.mp (by rw [v3_cr]; exact z))
theorem spot2_spec {s a u q : V3} {w : Int} (hs : V3.bd 45 s) (ha : V3.bd 45 a) (hu : V3.bd 45 u) (hw : bd 8 w) (hq : V3.bd 10 q) (w1 : 1 ≤ w) (q1 : 1 ≤ q.c) : F_law_spot_2 [DSh s w a u, D3 q] = .ok (D4 (spAt s w a u q)) := by
  have wq : 1 ≤ w * q.c := by have := Int.mul_pos (show 0 < w by omega) (show 0 < q.c by omega); omega
  obtain ⟨s1, s2, s3⟩ := hs
  obtain ⟨a1, a2, a3⟩ := ha
  obtain ⟨u1, u2, u3⟩ := hu
  obtain ⟨r1, r2, r3⟩ := hq
  have sl := lowest2_spec (x := s.a * q.c + w * (q.a * a.a + q.b * u.a)) (y := s.b * q.c + w * (q.a * a.b + q.b * u.b)) (z := s.c * q.c + w * (q.a * a.c + q.b * u.c)) (w := w * q.c)
    ((bd_add (bd_mul s1 r3) (bd_mul hw (bd_add (bd_mul r1 a1) (bd_mul r2 u1)))).mono (by decide)) ((bd_add (bd_mul s2 r3) (bd_mul hw (bd_add (bd_mul r1 a2) (bd_mul r2 u2)))).mono (by decide))
    ((bd_add (bd_mul s3 r3) (bd_mul hw (bd_add (bd_mul r1 a3) (bd_mul r2 u3)))).mono (by decide)) ((bd_mul hw r3).mono (by decide)) wq
  unfold F_law_spot_2
  refine den_of (· = _) ?_
  unfold m_law_spot_2
  walk_at "evh"
  exact ⟨by decide, by decide, by decide, rfl⟩




section
variable {S : Sh} {p : Nat → Pt} {c : Nat → V4} {n B : Nat}
end


/-- the row in form is a row itself -/
theorem IsRow.row {S : Sh} {p : Nat → Pt} {c r : Nat → V4} {n B : Nat} (h : Row S p c n B) (a : IsRow c n r) : ∃ (S' : Sh) (p' : Nat → Pt) (c' : Nat → V4), Row S' p' c' n B ∧ (∀ i, i < n → r i = c' i) ∧ ∀ q, IsRow c' n q → IsRow c n q := by
  have n3 := h.n3
  obtain ⟨m, hm, _, m2⟩ := a
  rcases m2 with ⟨_, q⟩ | ⟨_, q⟩
  · exact ⟨S, _, _, h.turn m, fun i hi => by rw [q i hi, Nat.add_comm], fun q hq => hq.turn h⟩
  · have hb : ∀ i j, (i + j) % n = m % n → c (m + n - i % n) = c j ∧ swP (p (m + n - i % n)) = swP (p j) := fun i j e => by
      have hi := Nat.mod_lt i (show 0 < n by omega)
      have e2 : (m + n - i % n) % n = j % n := by
        have q1 : ((i % n) + j) % n = m % n := by rw [Nat.mod_add_mod, e]
        have q3 : (m + (n - i % n)) % n = ((i % n) + j + (n - i % n)) % n := by rw [Nat.add_mod, ← q1, ← Nat.add_mod]
        rw [show (i % n) + j + (n - i % n) = j + n by omega, Nat.add_mod_right] at q3
        rw [← q3]
        congr 1
        omega
      exact ⟨by rw [← per_mod h.per, e2, per_mod h.per], by rw [← per_mod h.pper, e2, per_mod h.pper]⟩
    refine ⟨swS S, fun i => swP (p (m + n - i % n)), fun i => c (m + n - i % n), h.back hb, fun i hi => by
      show r i = c (m + n - i % n)
      rw [q i hi, Nat.mod_eq_of_lt hi], fun q hq => hq.back h fun i j e => (hb i j e).1⟩


/-! ### corners of one plane that need not stand round a board -/
structure Flt (S : Sh) (p : Nat → Pt) (c : Nat → V4) (n B : Nat) : Prop where
  n3 : 3 ≤ n
  n8 : n ≤ 63
  per : ∀ i, c (i + n) = c i
  pper : ∀ i, p (i + n) = p i
  sp : ∀ i, Spot (c i)
  bd : ∀ i, V4.bd B (c i)
  at_ : ∀ i, pnt (c i) = S.at (p i)
  nor : S.nor ≠ ⟨0, 0, 0⟩
  d0 : dt2 (p 0) (p 1) (p 2) ≠ 0
  ed : ∀ i, ∃ k, dt2 (p i) (p (i + 1)) (p k) ≠ 0
section
variable {S : Sh} {p : Nat → Pt} {c : Nat → V4} {n B : Nat}
theorem Flt.flat (h : Flt S p c n B) : Plane (flatR c) ∧ isPlain (flatR c) ∧ ∃ m : Rat, m ≠ 0 ∧ v3 ⟨(flatR c).a, (flatR c).b, (flatR c).c⟩ = P3.mul m S.nor ∧ ∀ x : Pt, lev (flatR c) (S.at x) = 0 :=
  thr_at (h.sp 0) (h.sp 1) (h.sp 2) h.nor (h.at_ 0) (h.at_ 1) (h.at_ 2) h.d0
theorem Flt.ncoll (h : Flt S p c n B) : ¬ coll (c 0) (c 1) (c 2) := fun z => h.d0 ((coll_at (h.sp 0) (h.sp 1) (h.sp 2) h.nor (h.at_ 0) (h.at_ 1) (h.at_ 2)).mp z)
theorem Flt.flat_bd (h : Flt S p c n B) : V4.bd (5 * B + 5) (flatR c) := thr_bd (h.bd 0) (h.bd 1) (h.bd 2)
theorem Flt.fen_bd (h : Flt S p c n B) (i : Nat) : V4.bd (8 * B + 9) (fenR c n i) := Bs.fen_bd h.flat_bd (h.bd i) (h.bd (i + 1))
theorem Flt.flat_spec (h : Flt S p c n B) (hB : B ≤ 400) : F_plane_through [D4 (c 0), D4 (c 1), D4 (c 2)] = .ok (D4 (flatR c)) := by
  rw [plane_through_spec ((h.bd 0).mono (by omega)) ((h.bd 1).mono (by omega)) ((h.bd 2).mono (by omega)) (h.sp 0), if_neg h.ncoll]
  rfl
/-- an edge that bends back: some other corner not strictly on the side of the corner ahead -/
theorem Flt.side (h : Flt S p c n B) (i j : Nat) (hb : sgR (dt2 (p i) (p (i + 1)) (p j)) * sgR (dt2 (p i) (p (i + 1)) (p (i + n - 1))) ≤ 0 ∧ sgR (dt2 (p i) (p (i + 1)) (p (i + n - 1))) ≠ 0) : sgn (hgt (fenR c n i) (c j)) ≤ 0 := by
  obtain ⟨_, _, m, m0, hm, _⟩ := h.flat
  obtain ⟨k, hk⟩ := h.ed i
  have key := up_sg h.nor hm m0 (h.sp i) (h.sp (i + 1)) (h.at_ i) (h.at_ (i + 1)) hk
  rw [sgn_ev (h.sp j), h.at_]
  unfold fenR fenV
  rw [sgn_ev (h.sp (i + n - 1)), h.at_, key]
  generalize dt2 (p i) (p (i + 1)) (p (i + n - 1)) = a at *
  have sgm : ∀ {x y : Rat}, sgR (x * y) = sgR x * sgR y := fun {x y} => by
    rcases (show x < 0 ∨ x = 0 ∨ 0 < x by grind) with hx | hx | hx
    · have e : sgR x = -1 := by
        have := sg_one_of (show 0 < -x by grind)
        rw [sg_neg] at this
        omega
      rw [e, show x * y = (-x) * (-y) by grind, sg_mul (show 0 < -x by grind), sg_neg]
      omega
    · rw [hx, Rat.zero_mul]
      have : sgR 0 = 0 := rfl
      rw [this]
      omega
    · rw [sg_mul hx, sg_one_of hx]
      omega
  obtain ⟨h1, h2⟩ := hb
  have tri : ∀ x : Rat, sgR x = 1 ∨ sgR x = -1 ∨ sgR x = 0 := fun x => by
    unfold sgR
    split
    · exact .inl rfl
    · split
      · exact .inr (.inl rfl)
      · exact .inr (.inr rfl)
  have m1 : sgR m ≠ 0 := fun z => m0 (sg_zero.mp z)
  split
  · rename_i hh
    rw [ev_neg, sg_neg, key, sgm]
    rw [sgm] at hh
    rcases tri m with e1 | e1 | e1 <;> rcases tri a with e2 | e2 | e2 <;> rw [e1] at hh m1 ⊢ <;> rw [e2] at hh h1 h2 <;> omega
  · rename_i hh
    rw [key, sgm]
    rw [sgm] at hh
    rcases tri m with e1 | e1 | e1 <;> rcases tri a with e2 | e2 | e2 <;> rw [e1] at hh m1 ⊢ <;> rw [e2] at hh h1 h2 <;> omega
/-- the corner ahead lies on the edge's line -/
theorem Flt.side0 (h : Flt S p c n B) (i : Nat) (hb : dt2 (p i) (p (i + 1)) (p (i + n - 1)) = 0) : sgn (hgt (fenR c n i) (c (i + n - 1))) ≤ 0 := by
  obtain ⟨_, _, m, m0, hm, _⟩ := h.flat
  obtain ⟨k, hk⟩ := h.ed i
  have key := up_sg h.nor hm m0 (h.sp i) (h.sp (i + 1)) (h.at_ i) (h.at_ (i + 1)) hk
  have z : sgR (m * dt2 (p i) (p (i + 1)) (p (i + n - 1))) = 0 := by rw [hb, Rat.mul_zero]; rfl
  rw [sgn_ev (h.sp _), h.at_]
  unfold fenR fenV
  rw [sgn_ev (h.sp (i + n - 1)), h.at_, key, z, if_neg (by decide), key, z]
  decide
theorem Flt.fences (h : Flt S p c n B) (hB : B ≤ 400) {w : D} (hw : RowD w (fun i => D4 (c i)) n) : F_fences [w] = .ok (.list ((List.range n).map fun i => D4 (fenR c n i))) := by
  have h3 := h.n3
  have h8 := h.n8
  unfold F_fences
  refine den_of (· = _) ?_
  unfold m_fences
  have s0 := h.flat_spec hB
  have body : ∀ i, i < n → F_arrow [D4 (c i), D4 (c (i + 1))] = .ok (D3 (ar (c i) (c (i + 1)))) ∧
      F_cross [T3 (flatR c).a (flatR c).b (flatR c).c, D3 (ar (c i) (c (i + 1)))] = .ok (D3 (crlR c i)) ∧
      F_through_spot [D3 (crlR c i), D4 (c i)] = .ok (D4 (upR c i)) ∧
      F_side_of [D4 (upR c i), D4 (c (prN n i))] = .ok (.int (sgn (hgt (upR c i) (c (prN n i))))) ∧
      F_turned_about [D4 (upR c i)] = .ok (D4 (neg4 (upR c i))) := fun i hi => by
    have hF := h.flat_bd
    have a := ar_bd (h.bd i) (h.bd (i + 1))
    have h1 : V3.bd (7 * B + 7) (crlR c i) := (cr_bd (show V3.bd (5 * B + 5) ⟨(flatR c).a, (flatR c).b, (flatR c).c⟩ from ⟨hF.1, hF.2.1, hF.2.2.1⟩) a).mono (by omega)
    have hu : V4.bd (8 * B + 9) (upR c i) := pl4_bd ((bd_mul h1.1 (h.bd i).2.2.2).mono (by omega)) ((bd_mul h1.2.1 (h.bd i).2.2.2).mono (by omega)) ((bd_mul h1.2.2 (h.bd i).2.2.2).mono (by omega)) ((dt_bd h1 (h.bd i)).mono (by omega))
    refine ⟨arrow_spec ((h.bd i).mono (by omega)) ((h.bd (i + 1)).mono (by omega)), ?_, ?_, side_spec (hu.mono (by omega)) ((h.bd _).mono (by omega)), turned_spec⟩
    · exact cross_spec (r := []) (r' := []) (hF.1.mono (by omega)) (hF.2.1.mono (by omega)) (hF.2.2.1.mono (by omega)) (a.1.mono (by omega)) (a.2.1.mono (by omega)) (a.2.2.mono (by omega))
    · obtain ⟨_, _, m, m0, hm, _⟩ := h.flat
      obtain ⟨k, hk⟩ := h.ed i
      have ne : ¬ ((crlR c i).a = 0 ∧ (crlR c i).b = 0 ∧ (crlR c i).c = 0) := up_ne h.nor hm m0 (h.sp i) (h.sp (i + 1)) (h.at_ i) (h.at_ (i + 1)) (k := p k) hk
      rw [through_spec (m := 0) (h1.mono (by omega)) ((h.bd i).mono (by omega)) (h.sp i), if_neg ne]
      rfl
  have a0 : ixop w (.int 0) = _ := hw.ix 0 (by omega)
  have a1 : ixop w (.int 1) = _ := hw.ix 1 (by omega)
  have a2 : ixop w (.int 2) = _ := hw.ix 2 (by omega)
  have a3 := hw.en
  have a4 := hw.len
  walk_at "esh"
  refine LP_ran (fun i e => ∃ x y z k : Sl, e = [.fr w, .fr (D4 (flatR c)), .ow ((List.range i).map fun i => D4 (fenR c n i)), x, y, z, k]) ⟨_, _, _, _, rfl⟩ ?_ ?_
  · rintro i e hi ⟨x, y, z, k, rfl⟩
    obtain ⟨b1, b2, b3, b4, b5⟩ := body i hi
    have hn : 0 < n := by omega
    have hn0 : (n : Int) ≠ 0 := by omega
    have m1 : ((i : Int) + 1).fmod (n : Int) = (((i + 1) % n : Nat) : Int) := fmod_nat (i := i + 1) hn
    have c1 := hw.ix ((i + 1) % n) (Nat.mod_lt _ hn)
    rw [per_mod h.per] at c1
    have c2 := hw.pv i hi
    have hf : fenR c n i = if sgn (hgt (upR c i) (c (prN n i))) < 0 then neg4 (upR c i) else upR c i := by
      rw [per_prev h.per hi]
      rfl
    have hl : i < 1000000 := by omega
    refine ⟨_, tgS_tp2, ?_⟩
    rw [List.range_succ, List.map_append, List.map_singleton]
    clear s0 body a0 a1 a2 a3 h
    by_cases hs : sgn (hgt (upR c i) (c (prN n i))) < 0
    · rw [if_pos hs] at hf
      rw [hf]
      walk_at "evh"
      exact ⟨_, _, _, _, rfl⟩
    · rw [if_neg hs] at hf
      rw [hf]
      walk_at "evh"
      exact ⟨_, _, _, _, rfl⟩
  · rintro e ⟨x, y, z, k, rfl⟩
    walk_at "ev"
theorem Flt.round_no (h : Flt S p c n B) (hB : B ≤ 400) {w : D} (hw : RowD w (fun i => D4 (c i)) n) (hbad : ∃ i j, i < n ∧ j < n ∧ c j ≠ c i ∧ c j ≠ c (i + 1) ∧ sgn (hgt (fenR c n i) (c j)) ≤ 0) : F_is_round [w] = .ok (.bool false) := by
  have h3 := h.n3
  have h8 := h.n8
  unfold F_is_round
  refine den_of (· = _) ?_
  unfold m_is_round
  have s0 := h.fences hB hw
  have a3 := hw.sq
  have a4 := hw.len
  walk_at "esh"
  refine LP_ran (fun i e => (∀ i' j, i' < i → j < n → ¬ (c j ≠ c i' ∧ c j ≠ c (i' + 1) ∧ sgn (hgt (fenR c n i') (c j)) ≤ 0)) ∧ ∃ x y z k : Sl, e = [.fr w, x, y, z, k]) ⟨fun _ _ z => (nomatch z), _, _, _, _, rfl⟩ ?_ ?_
  · rintro i e hi ⟨hno, x, y, z, k, rfl⟩
    have hn : 0 < n := by omega
    have hn0 : (n : Int) ≠ 0 := by omega
    have m1 : ((i : Int) + 1).fmod (n : Int) = (((i + 1) % n : Nat) : Int) := fmod_nat (i := i + 1) hn
    have c1 := hw.ix ((i + 1) % n) (Nat.mod_lt _ hn)
    rw [per_mod h.per] at c1
    have c2 := hw.ix i hi
    refine ⟨_, tgS_tp2, ?_⟩
    have comb : (∀ j', j' < n → ¬ (c j' ≠ c i ∧ c j' ≠ c (i + 1) ∧ sgn (hgt (fenR c n i) (c j')) ≤ 0)) → ∀ i' j, i' < i + 1 → j < n → ¬ (c j ≠ c i' ∧ c j ≠ c (i' + 1) ∧ sgn (hgt (fenR c n i') (c j)) ≤ 0) := fun h2 i' j hi' hj => by
      by_cases e : i' = i
      · subst e; exact h2 j hj
      · exact hno i' j (by omega) hj
    clear s0 hbad hno
    simp_arith! only [c1, c2, m1, a3, a4]
    refine LP_ran (fun j e => (∀ j', j' < j → ¬ (c j' ≠ c i ∧ c j' ≠ c (i + 1) ∧ sgn (hgt (fenR c n i) (c j')) ≤ 0)) ∧ ∃ k : Sl, e = [.fr w, .fr (.int i), .fr (D4 (fenR c n i)), .fr (.tuple [D4 (c i), D4 (c (i + 1))]), k]) ⟨fun _ z => (nomatch z), _, rfl⟩ ?_ ?_
    · rintro j e hj ⟨hno2, k, rfl⟩
      refine ⟨_, tgS_nm, ?_⟩
      have s1 := side_spec (p := fenR c n i) (s := c j) ((h.fen_bd i).mono (by omega)) ((h.bd j).mono (by omega))
      have s2 := cop_nin2 (x := c j) (a := c i) (b := c (i + 1))
      by_cases q : c j ≠ c i ∧ c j ≠ c (i + 1)
      · rw [decide_eq_true q] at s2
        have nx : ¬ sgn (hgt (fenR c n i) (c j)) ≤ 0 → ∀ j', j' < j + 1 → ¬ (c j' ≠ c i ∧ c j' ≠ c (i + 1) ∧ sgn (hgt (fenR c n i) (c j')) ≤ 0) := fun hp j' hj' => by
          by_cases e : j' = j
          · subst e; exact fun z => hp z.2.2
          · exact hno2 j' (by omega)
        clear h c1 c2 a3 q hno2
        generalize sgn (hgt (fenR c n i) (c j)) = sg at *
        simp_arith! only [s1, s2]
        exact fun hp => ⟨nx (by omega), _, rfl⟩
      · rw [decide_eq_false q] at s2
        have nx : ∀ j', j' < j + 1 → ¬ (c j' ≠ c i ∧ c j' ≠ c (i + 1) ∧ sgn (hgt (fenR c n i) (c j')) ≤ 0) := fun j' hj' => by
          by_cases e : j' = j
          · subst e; exact fun z => q ⟨z.1, z.2.1⟩
          · exact hno2 j' (by omega)
        clear h c1 c2 a3 q hno2
        simp_arith! only [s1, s2]
        exact fun _ => ⟨nx, _, rfl⟩
    · rintro e ⟨hno2, k, rfl⟩
      walk_at "ev"
      exact ⟨comb hno2, _, _, _, _, rfl⟩
  · rintro e ⟨hno, x, y, z, k, rfl⟩
    obtain ⟨i, j, hi, hj, q⟩ := hbad
    exact absurd q (hno i j hi hj)
end


theorem nub_le {α : Type} [DecidableEq α] : ∀ xs : List α, (nub xs).length ≤ xs.length
  | [] => Nat.le_refl _
  | x :: xs => by
    rw [nub]
    have := nub_le xs
    split
    · simp; omega
    · simp; omega
theorem nub_lt {α : Type} [DecidableEq α] : ∀ {xs : List α}, ¬ xs.Nodup → (nub xs).length < xs.length
  | [], h => absurd List.nodup_nil h
  | x :: xs, h => by
    rw [nub]
    split
    · have := nub_le xs
      simp
      omega
    · rename_i hx
      have := nub_lt (xs := xs) fun z => h (List.nodup_cons.mpr ⟨hx, z⟩)
      simp
      omega
theorem lset_any (c : Nat → V4) (n : Nat) (hn : n ≤ 60) : ∃ k : Nat, lsetD (.list ((List.range n).map fun i => D4 (c i))) = .ok (.int (k : Int)) ∧ ((∃ i j, i < j ∧ j < n ∧ c i = c j) → k < n) := by
  refine ⟨(nub ((List.range n).map fun i => (c i).l)).length, ?_, ?_⟩
  · rw [lsetD, tups4]
    show (if ((List.range n).map fun i => (c i).l).length < 64 then R.ok (PyData.int ((nub ((List.range n).map fun i => (c i).l)).length : Nat)) else .stuck) = _
    rw [if_pos (by simp; omega)]
  · rintro ⟨i, j, hij, hj, e⟩
    have := nub_lt (xs := (List.range n).map fun i => (c i).l) fun nd => by
      rw [List.nodup_iff_pairwise_ne, List.pairwise_map] at nd
      have q := List.pairwise_iff_getElem.mp nd i j (by simp; omega) (by simp; omega) hij
      simp at q
      exact q (by rw [e])
    simpa using this
/-- what makes no board -/
theorem mb_no {c : Nat → V4} {n B : Nat} (hB : B ≤ 400) (sp : ∀ i, Spot (c i)) (bd : ∀ i, V4.bd B (c i)) (n60 : n ≤ 60)
    (why : n < 3 ∨ 8 < n ∨ (∃ i j, i < j ∧ j < n ∧ c i = c j) ∨ coll (c 0) (c 1) (c 2) ∨ (∃ j, j < n ∧ sgn (hgt (flatR c) (c j)) ≠ 0) ∨ F_is_round [.list ((List.range n).map fun i => D4 (c i))] = .ok (.bool false)) :
    F_made_board [.list ((List.range n).map fun i => D4 (c i))] = .exc 4 none := by
  have hw : RowD (.list ((List.range n).map fun i => D4 (c i))) (fun i => D4 (c i)) n := rowL
  obtain ⟨k, ls, dup⟩ := lset_any c n n60
  have sq := hw.sq
  have len := hw.len
  have hpl := plane_through_spec ((bd 0).mono (by omega : B ≤ 900)) ((bd 1).mono (by omega : B ≤ 900)) ((bd 2).mono (by omega : B ≤ 900)) (sp 0)
  have fb : V4.bd (5 * B + 5) (flatR c) := thr_bd (bd 0) (bd 1) (bd 2)
  have sd : ∀ i, F_side_of [D4 (flatR c), D4 (c i)] = .ok (.int (sgn (hgt (flatR c) (c i)))) := fun i => side_spec (fb.mono (by omega)) ((bd i).mono (by omega))
  have ixs : 3 ≤ n → ixop (.list ((List.range n).map fun i => D4 (c i))) (.int 0) = .ok (D4 (c 0)) ∧ ixop (.list ((List.range n).map fun i => D4 (c i))) (.int 1) = .ok (D4 (c 1)) ∧ ixop (.list ((List.range n).map fun i => D4 (c i))) (.int 2) = .ok (D4 (c 2)) := fun h => ⟨hw.ix 0 (by omega), hw.ix 1 (by omega), hw.ix 2 (by omega)⟩
  have ev : flatR c = thr (c 0) (c 1) (c 2) := rfl
  rw [← ev] at hpl
  clear ev fb hw bd sp
  by_cases g1 : n < 3
  · have q1 : ((3 : Int) ≤ (n : Int)) = False := eq_false (by omega)
    clear why hpl sd ixs ls sq dup
    generalize (List.range n).map (fun i => D4 (c i)) = w at *
    unfold F_made_board
    refine den_of (· = _) ?_
    unfold m_made_board
    simp_arith! only [len, q1, true_or, or_true]
  have q1 : ((3 : Int) ≤ (n : Int)) = True := eq_true (by omega)
  by_cases g2 : 8 < n
  · have q2 : ((n : Int) ≤ 8) = False := eq_false (by omega)
    clear why hpl sd ixs ls sq dup
    generalize (List.range n).map (fun i => D4 (c i)) = w at *
    unfold F_made_board
    refine den_of (· = _) ?_
    unfold m_made_board
    simp_arith! only [len, q1, q2, true_or, or_true]
  have q2 : ((n : Int) ≤ 8) = True := eq_true (by omega)
  obtain ⟨a0, a1, a2⟩ := ixs (by omega)
  clear ixs
  by_cases g3 : k < n
  · have q3 : ((k : Int) < (n : Int)) = True := eq_true (by omega)
    clear why hpl sd sq dup a0 a1 a2
    generalize (List.range n).map (fun i => D4 (c i)) = w at *
    unfold F_made_board
    refine den_of (· = _) ?_
    unfold m_made_board
    simp_arith! only [len, q1, q2, ls, q3, true_or, or_true]
  have q3 : ((k : Int) < (n : Int)) = False := eq_false (by omega)
  by_cases g4 : coll (c 0) (c 1) (c 2)
  · rw [if_pos g4] at hpl
    clear why sd sq dup
    generalize (List.range n).map (fun i => D4 (c i)) = w at *
    unfold F_made_board
    refine den_of (· = _) ?_
    unfold m_made_board
    simp_arith! only [len, q1, q2, ls, q3]
    rw [WS_tryr]
    simp_arith! only [a0, a1, a2, hpl]
    exact fun h => nomatch h
  rw [if_neg g4] at hpl
  have rd : (∀ j, j < n → sgn (hgt (flatR c) (c j)) = 0) → F_is_round [.list ((List.range n).map fun i => D4 (c i))] = .ok (.bool false) := fun all => by
    rcases why with h | h | h | h | ⟨j, hj, h⟩ | h
    · omega
    · omega
    · exact absurd (dup h) g3
    · exact absurd h g4
    · exact absurd (all j hj) h
    · exact h
  clear why dup g4
  unfold F_made_board
  refine den_of (· = _) ?_
  unfold m_made_board
  generalize hws : (List.range n).map (fun i => D4 (c i)) = w at *
  generalize flatR c = fl at *
  simp_arith! only [len, q1, q2, ls, q3]
  rw [WS_tryr]
  simp_arith! only [a0, a1, a2, hpl, sq]
  clear a0 a1 a2 hpl sq ls len
  obtain ⟨w2, hw2⟩ : ∃ w2, w2 = w := ⟨w, rfl⟩
  rw [← hw2] at rd
  rw [show (PyData.list w) = PyData.list w2 by rw [hw2]]
  rw [← hws]
  clear hw2 hws
  refine LP_ran (fun i e' => (∀ j, j < i → sgn (hgt fl (c j)) = 0) ∧ ∃ x : Sl, e' = [.fr (.list w2), .fr (D4 fl), x]) ⟨fun _ z => (nomatch z), _, rfl⟩ ?_ ?_
  · rintro i e' hi ⟨hz, x, rfl⟩
    refine ⟨_, tgS_nm, ?_⟩
    have s1 := sd i
    by_cases z : sgn (hgt fl (c i)) = 0
    · have nx : ∀ j, j < i + 1 → sgn (hgt fl (c j)) = 0 := fun j hj => by
        by_cases e : j = i
        · subst e; exact z
        · exact hz j (by omega)
      have n0 : cop .ne (.int (sgn (hgt fl (c i)))) (.int 0) = .ok (.bool false) := by rw [cop_neI, decide_eq_true z]; rfl
      clear sd rd hz z
      simp_arith! only [s1, n0]
      exact ⟨nx, _, rfl⟩
    · have n0 : cop .ne (.int (sgn (hgt fl (c i)))) (.int 0) = .ok (.bool true) := by rw [cop_neI, decide_eq_false z]; rfl
      clear sd rd hz z
      simp_arith! only [s1, n0]
  · rintro e' ⟨hz, x, rfl⟩
    have rd := rd hz
    clear hz sd
    simp_arith! only [rd]


/-! ### places by whole numbers: what of them makes no board -/
def hdI (a b c : V3) : Int := (b.a * a.c - a.a * b.c) * (c.b * a.c - a.b * c.c) - (b.b * a.c - a.b * b.c) * (c.a * a.c - a.a * c.c)
theorem hd_dt {a b c : V3} (ha : 1 ≤ a.c) (hb : 1 ≤ b.c) (hc : 1 ≤ c.c) : sgR (dt2 (ptAt a) (ptAt b) (ptAt c)) = sgn (hdI a b c) := by
  have pa : (0 : Rat) < (a.c : Rat) := by exact_mod_cast (by omega : 0 < a.c)
  have pb : (0 : Rat) < (b.c : Rat) := by exact_mod_cast (by omega : 0 < b.c)
  have pc : (0 : Rat) < (c.c : Rat) := by exact_mod_cast (by omega : 0 < c.c)
  have k := ratPos (ratPos pa pa) (ratPos pb pc)
  rw [sg_int, ← sg_mul k]
  congr 1
  have e1 : (a.a : Rat) / a.c * a.c = a.a := Rat.div_mul_cancel (by grind)
  have e2 : (a.b : Rat) / a.c * a.c = a.b := Rat.div_mul_cancel (by grind)
  have e3 : (b.a : Rat) / b.c * b.c = b.a := Rat.div_mul_cancel (by grind)
  have e4 : (b.b : Rat) / b.c * b.c = b.b := Rat.div_mul_cancel (by grind)
  have e5 : (c.a : Rat) / c.c * c.c = c.a := Rat.div_mul_cancel (by grind)
  have e6 : (c.b : Rat) / c.c * c.c = c.b := Rat.div_mul_cancel (by grind)
  unfold hdI dt2 ptAt
  push_cast
  try dsimp only
  generalize (a.a : Rat) / a.c = x1 at *
  generalize (a.b : Rat) / a.c = y1 at *
  generalize (b.a : Rat) / b.c = x2 at *
  generalize (b.b : Rat) / b.c = y2 at *
  generalize (c.a : Rat) / c.c = x3 at *
  generalize (c.b : Rat) / c.c = y3 at *
  grind
def eqQ (a b : V3) : Bool := decide (a.a * b.c = b.a * a.c) && decide (a.b * b.c = b.b * a.c)
theorem eqQ_pt {a b : V3} (ha : 1 ≤ a.c) (hb : 1 ≤ b.c) (h : ptAt a = ptAt b) : eqQ a b = true := by
  unfold ptAt at h
  injection h with h1 h2
  have e1 := (divEq (a := a.a) (b := a.c) (c := b.a) (d := b.c) (by omega) (by omega)).mp h1
  have e2 := (divEq (a := a.b) (b := a.c) (c := b.b) (d := b.c) (by omega) (by omega)).mp h2
  unfold eqQ
  rw [decide_eq_true e1, decide_eq_true e2]
  rfl
def qAt (q : List V3) (i : Nat) : V3 := q.getD (i % q.length) ⟨0, 0, 1⟩
/-- an edge that shows that places do not stand round -/
def badE (q : List V3) (i j : Nat) : Bool := !eqQ (qAt q j) (qAt q i) && (!eqQ (qAt q j) (qAt q (i + 1)) && ((decide (hdI (qAt q i) (qAt q (i + 1)) (qAt q (i + q.length - 1)) ≠ 0) && decide (sgn (hdI (qAt q i) (qAt q (i + 1)) (qAt q j)) * sgn (hdI (qAt q i) (qAt q (i + 1)) (qAt q (i + q.length - 1))) ≤ 0)) ||
  (decide (hdI (qAt q i) (qAt q (i + 1)) (qAt q (i + q.length - 1)) = 0) && decide (j = (i + q.length - 1) % q.length))))
def badQ (q : List V3) : Bool := decide (q.length < 3) || (decide (8 < q.length) || ((List.range q.length).any (fun i => (List.range i).any fun j => decide (qAt q j = qAt q i)) || (decide (hdI (qAt q 0) (qAt q 1) (qAt q 2) = 0) ||
  ((List.range q.length).all (fun i => (List.range q.length).any fun k => decide (hdI (qAt q i) (qAt q (i + 1)) (qAt q k) ≠ 0)) && (List.range q.length).any fun i => (List.range q.length).any fun j => badE q i j))))
theorem qAt_lt {q : List V3} {i : Nat} (h : i < q.length) : qAt q i = q[i] := by
  unfold qAt
  rw [Nat.mod_eq_of_lt h]
  simp [List.getD, h]
theorem qAt_map (q : List V3) (f : V3 → D) : q.map f = (List.range q.length).map fun i => f (qAt q i) := by
  refine List.ext_getElem (by simp) fun i h1 h2 => ?_
  have h1 : i < q.length := by simpa using h1
  simp [qAt_lt h1]
theorem sgn0 {i : Int} : sgn i = 0 ↔ i = 0 := by
  unfold sgn
  split
  · omega
  · split <;> omega
theorem badQ_no {s a u : V3} {w : Int} {q : List V3} (hs : V3.bd 45 s) (ha : V3.bd 45 a) (hu : V3.bd 45 u) (hw : bd 8 w) (w1 : 1 ≤ w) (nz : ¬ ((cr a u).a = 0 ∧ (cr a u).b = 0 ∧ (cr a u).c = 0)) (n60 : q.length ≤ 60) (hq : ∀ x ∈ q, V3.bd 10 x ∧ 1 ≤ x.c) (h : badQ q = true) :
    F_made_board [.list (q.map fun x => D4 (spAt s w a u x))] = .exc 4 none := by
  rw [qAt_map q fun x => D4 (spAt s w a u x)]
  by_cases n0 : q.length = 0
  · have ok0 : V3.bd 10 ⟨0, 0, 1⟩ := ⟨by decide, by decide, by decide⟩
    have e0 : ∀ i, qAt q i = ⟨0, 0, 1⟩ := fun i => by
      rw [List.eq_nil_of_length_eq_zero n0]
      rfl
    exact mb_no (c := fun i => spAt s w a u (qAt q i)) (n := q.length) (B := 75) (by decide) (fun i => by rw [e0]; exact (spAt_ok w1 (by decide)).1) (fun i => by rw [e0]; exact spAt_bd hs ha hu hw ok0) n60 (.inl (by omega))
  have el : ∀ i, V3.bd 10 (qAt q i) ∧ 1 ≤ (qAt q i).c := fun i => by
    have hm : i % q.length < q.length := Nat.mod_lt _ (by omega)
    have e : qAt q i = q[i % q.length] := by
      unfold qAt
      simp [List.getD, hm]
    rw [e]
    exact hq _ (List.getElem_mem hm)
  have spo := fun i => spAt_ok (s := s) (a := a) (u := u) w1 (el i).2
  refine mb_no (c := fun i => spAt s w a u (qAt q i)) (n := q.length) (B := 75) (by decide) (fun i => (spo i).1) (fun i => spAt_bd hs ha hu hw (el i).1) n60 ?_
  have nor : (shR s w a u).nor ≠ ⟨0, 0, 0⟩ := fun z => nz (v3_zero.mp (by rw [v3_cr]; exact z))
  unfold badQ at h
  rcases Bool.or_eq_true_iff.mp h with h | h
  · exact .inl (of_decide_eq_true h)
  refine .inr ?_
  rcases Bool.or_eq_true_iff.mp h with h | h
  · exact .inl (of_decide_eq_true h)
  refine .inr ?_
  rcases Bool.or_eq_true_iff.mp h with h | h
  · obtain ⟨i, hi, h⟩ := List.any_eq_true.mp h
    obtain ⟨j, hj, h⟩ := List.any_eq_true.mp h
    refine .inl ⟨j, i, List.mem_range.mp hj, List.mem_range.mp hi, ?_⟩
    try dsimp only
    rw [of_decide_eq_true h]
  refine .inr ?_
  have dsg : ∀ i j k, sgR (dt2 (ptAt (qAt q i)) (ptAt (qAt q j)) (ptAt (qAt q k))) = sgn (hdI (qAt q i) (qAt q j) (qAt q k)) := fun i j k => hd_dt (el i).2 (el j).2 (el k).2
  have d0 : ∀ i j k, dt2 (ptAt (qAt q i)) (ptAt (qAt q j)) (ptAt (qAt q k)) = 0 ↔ hdI (qAt q i) (qAt q j) (qAt q k) = 0 := fun i j k => by rw [← sg_zero, dsg, sgn0]
  rcases Bool.or_eq_true_iff.mp h with h | h
  · exact .inl ((coll_at (spo 0).1 (spo 1).1 (spo 2).1 nor (spo 0).2 (spo 1).2 (spo 2).2).mpr ((d0 0 1 2).mpr (of_decide_eq_true h)))
  by_cases cl : coll (spAt s w a u (qAt q 0)) (spAt s w a u (qAt q 1)) (spAt s w a u (qAt q 2))
  · exact .inl cl
  refine .inr (.inr ?_)
  obtain ⟨he, hb⟩ := ba2 h
  obtain ⟨i, hi, hb⟩ := List.any_eq_true.mp hb
  obtain ⟨j, hj, hb⟩ := List.any_eq_true.mp hb
  have hi := List.mem_range.mp hi
  have hj := List.mem_range.mp hj
  by_cases n3 : q.length < 3
  · exact absurd n3 (by
      intro z
      have : q.length = 1 ∨ q.length = 2 := by omega
      have c0 : qAt q 2 = qAt q (2 % q.length) := by unfold qAt; rw [Nat.mod_mod]
      have hz : hdI (qAt q 0) (qAt q 1) (qAt q 2) = 0 := by
        rw [c0]
        rcases this with e | e <;> rw [e]
        · have c1 : qAt q 1 = qAt q 0 := by unfold qAt; rw [e]
          rw [show 2 % 1 = 0 from rfl, c1]
          unfold hdI
          grind
        · rw [show 2 % 2 = 0 from rfl]
          unfold hdI
          grind
      exact cl ((coll_at (spo 0).1 (spo 1).1 (spo 2).1 nor (spo 0).2 (spo 1).2 (spo 2).2).mpr ((d0 0 1 2).mpr hz)))
  have per : ∀ i, qAt q (i + q.length) = qAt q i := fun i => by unfold qAt; rw [Nat.add_mod_right]
  have F : Flt (shR s w a u) (fun i => ptAt (qAt q i)) (fun i => spAt s w a u (qAt q i)) q.length 75 :=
    { n3 := by omega
      n8 := by omega
      per := fun i => by rw [per]
      pper := fun i => by rw [per]
      sp := fun i => (spo i).1
      bd := fun i => spAt_bd hs ha hu hw (el i).1
      at_ := fun i => (spo i).2
      nor := nor
      d0 := fun z => cl ((coll_at (spo 0).1 (spo 1).1 (spo 2).1 nor (spo 0).2 (spo 1).2 (spo 2).2).mpr z)
      ed := fun i => by
        have hm : i % q.length < q.length := Nat.mod_lt _ (by omega)
        obtain ⟨k, hk, hz⟩ := List.any_eq_true.mp (List.all_eq_true.mp he (i % q.length) (List.mem_range.mpr hm))
        have hz := of_decide_eq_true hz
        refine ⟨k, fun z => hz ?_⟩
        have e1 : qAt q (i % q.length) = qAt q i := by unfold qAt; rw [Nat.mod_mod]
        have e2 : qAt q (i % q.length + 1) = qAt q (i + 1) := by unfold qAt; rw [Nat.mod_add_mod]
        rw [e1, e2]
        exact (d0 _ _ _).mp z }
  have hw' : RowD (.list ((List.range q.length).map fun i => D4 (spAt s w a u (qAt q i)))) (fun i => D4 (spAt s w a u (qAt q i))) q.length := rowL
  have inj : ∀ x y, spAt s w a u (qAt q x) = spAt s w a u (qAt q y) → eqQ (qAt q x) (qAt q y) = true := fun x y z => by
    have e := (spo x).2
    rw [z, (spo y).2] at e
    exact eqQ_pt (el x).2 (el y).2 (at_inj nor e).symm
  refine F.round_no (by decide) hw' ?_
  unfold badE at hb
  obtain ⟨b1, hb⟩ := ba2 hb
  obtain ⟨b2, hb⟩ := ba2 hb
  have k1 : spAt s w a u (qAt q j) ≠ spAt s w a u (qAt q i) := fun z => by rw [inj _ _ z] at b1; cases b1
  have k2 : spAt s w a u (qAt q j) ≠ spAt s w a u (qAt q (i + 1)) := fun z => by rw [inj _ _ z] at b2; cases b2
  refine ⟨i, j, hi, hj, k1, k2, ?_⟩
  rcases Bool.or_eq_true_iff.mp hb with hb | hb
  · obtain ⟨z1, z2⟩ := ba2 hb
    have z1 := of_decide_eq_true z1
    have z2 := of_decide_eq_true z2
    refine F.side i j ⟨?_, ?_⟩
    · show sgR (dt2 (ptAt (qAt q i)) (ptAt (qAt q (i + 1))) (ptAt (qAt q j))) * sgR (dt2 (ptAt (qAt q i)) (ptAt (qAt q (i + 1))) (ptAt (qAt q (i + q.length - 1)))) ≤ 0
      rw [dsg, dsg]
      exact z2
    · show sgR (dt2 (ptAt (qAt q i)) (ptAt (qAt q (i + 1))) (ptAt (qAt q (i + q.length - 1)))) ≠ 0
      rw [dsg]
      exact fun z => z1 (sgn0.mp z)
  · obtain ⟨z1, z2⟩ := ba2 hb
    have z1 := of_decide_eq_true z1
    have z2 := of_decide_eq_true z2
    have := F.side0 i ((d0 _ _ _).mpr z1)
    have e : qAt q j = qAt q (i + q.length - 1) := by
      rw [z2]
      unfold qAt
      rw [Nat.mod_mod]
    rw [e]
    exact this


/-! ### the spoilt shapes -/
def bentV (k : Nat) : V3 := ⟨(k : Int), (k : Int) * (k : Int), 1⟩
def bentL (n : Nat) : List V3 := (List.range n).map bentV
def scQ (s t : Int) (x : V3) : V3 := ⟨x.a * s, x.b * t, x.c * s * t⟩
def insQ (L : List V3) (k : Nat) (x : V3) : List V3 := L.take k ++ [x] ++ L.drop k
def midQ (n k : Nat) : V3 := ⟨(bentV k).a + (bentV (prN n k)).a, (bentV k).b + (bentV (prN n k)).b, (bentV k).c + (bentV (prN n k)).c⟩
def cenQ (n : Nat) : V3 := ⟨((List.range n).map fun k => (bentV k).a).sum, ((List.range n).map fun k => (bentV k).b).sum, ((List.range n).map fun k => (bentV k).c).sum⟩
def swpQ (n k : Nat) : List V3 := ((bentL n).set k (bentV (prN n k))).set (prN n k) (bentV k)
def starQ : List V3 := [bentV 0, bentV 2, bentV 4, bentV 1, bentV 3]
def lineQ (n : Nat) : List V3 := (List.range n).map fun (k : Nat) => ⟨(k : Int), 3 * (k : Int), 1⟩
def goodQ (q : List V3) : Bool := (q.all fun x => decide (x.a.natAbs < 1024) && (decide (x.b.natAbs < 1024) && (decide (x.c.natAbs < 1024) && decide (1 ≤ x.c)))) && (badQ q && decide (q.length ≤ 60))
def STs : List (Int × Int) := [(1, 1), (2, 3), (4, 3)]
theorem good_0 : (STs.all fun st => [9, 10, 11, 12].all fun n => goodQ ((bentL n).map (scQ st.1 st.2))) = true := by decide +kernel
theorem good_1 : (STs.all fun st => [4, 5, 6, 7].all fun n => [0, 1, 2].all fun m => goodQ (((bentL n).take m).map (scQ st.1 st.2))) = true := by decide +kernel
theorem good_2 : (STs.all fun st => [4, 5, 6, 7].all fun n => (List.range n).all fun k => goodQ ((insQ (bentL n) k (midQ n k)).map (scQ st.1 st.2))) = true := by decide +kernel
theorem good_3 : (STs.all fun st => [4, 5, 6, 7].all fun n => (List.range n).all fun k => goodQ ((insQ (bentL n) k (cenQ n)).map (scQ st.1 st.2))) = true := by decide +kernel
theorem good_4 : (STs.all fun st => [4, 5, 6, 7].all fun n => (List.range n).all fun k => (List.range n).all fun j => goodQ ((insQ (bentL n) j (bentV k)).map (scQ st.1 st.2))) = true := by decide +kernel
theorem good_5 : (STs.all fun st => [4, 5, 6, 7].all fun n => (List.range n).all fun k => goodQ ((swpQ n k).map (scQ st.1 st.2))) = true := by decide +kernel
theorem good_6 : (STs.all fun st => goodQ (starQ.map (scQ st.1 st.2))) = true := by decide +kernel
theorem good_7 : (STs.all fun st => [4, 5, 6, 7].all fun n => goodQ ((lineQ n).map (scQ st.1 st.2))) = true := by decide +kernel
theorem good_8 : (STs.all fun st => [4, 5, 6, 7].all fun n => (List.range n).all fun k => goodQ (((List.range n).map fun _ => bentV k).map (scQ st.1 st.2))) = true := by decide +kernel
theorem good_no {s a u : V3} {w : Int} {q : List V3} (hs : V3.bd 45 s) (ha : V3.bd 45 a) (hu : V3.bd 45 u) (hw : bd 8 w) (w1 : 1 ≤ w) (nz : ¬ ((cr a u).a = 0 ∧ (cr a u).b = 0 ∧ (cr a u).c = 0)) (h : goodQ q = true) :
    F_made_board [.list (q.map fun x => D4 (spAt s w a u x))] = .exc 4 none ∧ (∀ x ∈ q, V3.bd 10 x ∧ 1 ≤ x.c) ∧ q.length ≤ 60 := by
  obtain ⟨h1, h⟩ := ba2 h
  obtain ⟨h2, h3⟩ := ba2 h
  have el : ∀ x ∈ q, V3.bd 10 x ∧ 1 ≤ x.c := fun x hx => by
    have z := List.all_eq_true.mp h1 x hx
    obtain ⟨z1, z⟩ := ba2 z
    obtain ⟨z2, z⟩ := ba2 z
    obtain ⟨z3, z4⟩ := ba2 z
    exact ⟨⟨of_decide_eq_true z1, of_decide_eq_true z2, of_decide_eq_true z3⟩, of_decide_eq_true z4⟩
  exact ⟨badQ_no hs ha hu hw w1 nz (of_decide_eq_true h3) el h2, el, of_decide_eq_true h3⟩
/-! ### one corner lifted -/
def liftV (c : V4) (n : V3) : V4 := mk4 (c.a + c.d * n.a) (c.b + c.d * n.b) (c.c + c.d * n.c) c.d
theorem lift_pnt {c : V4} (sp : Spot c) (n : V3) : Spot (liftV c n) ∧ pnt (liftV c n) = ⟨(pnt c).x + n.a, (pnt c).y + n.b, (pnt c).z + n.c⟩ := by
  have hd : c.d ≠ 0 := by have := sp.pos; omega
  refine ⟨(mk4_eq hd).1, ?_⟩
  unfold liftV
  rw [pnt_mk4 hd]
  have h0 : (c.d : Rat) ≠ 0 := by have := spotD sp; grind
  unfold pnt
  simp only [P3.mk.injEq]
  push_cast
  refine ⟨?_, ?_, ?_⟩ <;> grind
/-- no plane bears three places of a sheet that are not on a line and one above them -/
theorem no_plane {S : Sh} {F : V4} (hn : S.nor ≠ ⟨0, 0, 0⟩) (pl : ¬ (F.a = 0 ∧ F.b = 0 ∧ F.c = 0)) {i j k x : Pt} (hd : dt2 i j k ≠ 0) (e1 : lev F (S.at i) = 0) (e2 : lev F (S.at j) = 0) (e3 : lev F (S.at k) = 0)
    (e4 : lev F ⟨(S.at x).x + S.nor.x, (S.at x).y + S.nor.y, (S.at x).z + S.nor.z⟩ = 0) : False := by
  -- along the arrows
  have fa : (F.a : Rat) * S.a.x + F.b * S.a.y + F.c * S.a.z = 0 := by
    refine (Rat.mul_eq_zero.mp (?_ : dt2 i j k * ((F.a : Rat) * S.a.x + F.b * S.a.y + F.c * S.a.z) = 0)).resolve_left hd
    simp only [lev, Sh.at, dt2] at *
    grind
  have fu : (F.a : Rat) * S.u.x + F.b * S.u.y + F.c * S.u.z = 0 := by
    refine (Rat.mul_eq_zero.mp (?_ : dt2 i j k * ((F.a : Rat) * S.u.x + F.b * S.u.y + F.c * S.u.z) = 0)).resolve_left hd
    simp only [lev, Sh.at, dt2] at *
    grind
  have fn : (F.a : Rat) * S.nor.x + F.b * S.nor.y + F.c * S.nor.z = 0 := by
    simp only [lev, Sh.at] at *
    grind
  have nn := dot_self_pos hn
  have sq : ((F.a : Rat) * F.a + F.b * F.b + F.c * F.c) * P3.dot S.nor S.nor = 0 := by
    have c1 : (F.b : Rat) * S.nor.z - F.c * S.nor.y = 0 := by simp only [Sh.nor, P3.cross] at *; grind
    have c2 : (F.c : Rat) * S.nor.x - F.a * S.nor.z = 0 := by simp only [Sh.nor, P3.cross] at *; grind
    have c3 : (F.a : Rat) * S.nor.y - F.b * S.nor.x = 0 := by simp only [Sh.nor, P3.cross] at *; grind
    have : ((F.a : Rat) * F.a + F.b * F.b + F.c * F.c) * P3.dot S.nor S.nor = ((F.a : Rat) * S.nor.x + F.b * S.nor.y + F.c * S.nor.z) * ((F.a : Rat) * S.nor.x + F.b * S.nor.y + F.c * S.nor.z) + (((F.b : Rat) * S.nor.z - F.c * S.nor.y) * ((F.b : Rat) * S.nor.z - F.c * S.nor.y) + (((F.c : Rat) * S.nor.x - F.a * S.nor.z) * ((F.c : Rat) * S.nor.x - F.a * S.nor.z) + ((F.a : Rat) * S.nor.y - F.b * S.nor.x) * ((F.a : Rat) * S.nor.y - F.b * S.nor.x))) := by
      simp only [P3.dot]
      grind
    rw [this, fn, c1, c2, c3]
    grind
  have f0 : (F.a : Rat) * F.a + F.b * F.b + F.c * F.c = 0 := (Rat.mul_eq_zero.mp sq).resolve_right (by grind)
  have z : F.a * F.a + F.b * F.b + F.c * F.c = 0 := by exact_mod_cast f0
  exact pl (by
    have s1 : 0 ≤ F.a * F.a := by rcases Int.le_total 0 F.a with h | h; exact Int.mul_nonneg h h; exact Int.mul_nonneg_of_nonpos_of_nonpos h h
    have s2 : 0 ≤ F.b * F.b := by rcases Int.le_total 0 F.b with h | h; exact Int.mul_nonneg h h; exact Int.mul_nonneg_of_nonpos_of_nonpos h h
    have s3 : 0 ≤ F.c * F.c := by rcases Int.le_total 0 F.c with h | h; exact Int.mul_nonneg h h; exact Int.mul_nonneg_of_nonpos_of_nonpos h h
    refine ⟨?_, ?_, ?_⟩
    · rcases Int.mul_eq_zero.mp (show F.a * F.a = 0 by omega) with h | h <;> exact h
    · rcases Int.mul_eq_zero.mp (show F.b * F.b = 0 by omega) with h | h <;> exact h
    · rcases Int.mul_eq_zero.mp (show F.c * F.c = 0 by omega) with h | h <;> exact h)
theorem good_9 : (STs.all fun st => [4, 5, 6, 7].all fun n => ((bentL n).map (scQ st.1 st.2)).all (fun x => decide (x.a.natAbs < 1024) && (decide (x.b.natAbs < 1024) && (decide (x.c.natAbs < 1024) && decide (1 ≤ x.c)))) && (List.range n).all fun k => (List.range n).any fun i1 => (List.range n).any fun i2 => (List.range n).any fun i3 =>
    decide (i1 ≠ k) && (decide (i2 ≠ k) && (decide (i3 ≠ k) && decide (hdI (qAt ((bentL n).map (scQ st.1 st.2)) i1) (qAt ((bentL n).map (scQ st.1 st.2)) i2) (qAt ((bentL n).map (scQ st.1 st.2)) i3) ≠ 0)))) = true := by decide +kernel
theorem set_range (f : Nat → D) (n k : Nat) (x : D) : ((List.range n).map f).set k x = (List.range n).map fun i => if i = k then x else f i := by
  refine List.ext_getElem (by simp) fun i h1 h2 => ?_
  rw [List.getElem_set]
  simp
  by_cases e : k = i
  · rw [if_pos e, if_pos e.symm]
  · rw [if_neg e, if_neg (Ne.symm e)]
theorem lift_no {s a u : V3} {w : Int} (hs : V3.bd 45 s) (ha : V3.bd 45 a) (hu : V3.bd 45 u) (hw : bd 8 w) (w1 : 1 ≤ w) (nz : ¬ ((cr a u).a = 0 ∧ (cr a u).b = 0 ∧ (cr a u).c = 0)) {st : Int × Int} (hst : st ∈ STs) {n k : Nat} (hn : n ∈ [4, 5, 6, 7]) (hk : k < n) :
    F_made_board [.list ((((bentL n).map (scQ st.1 st.2)).map fun x => D4 (spAt s w a u x)).set k (D4 (liftV (spAt s w a u (scQ st.1 st.2 (bentV k))) (cr a u))))] = .exc 4 none ∧ (∀ x ∈ (bentL n).map (scQ st.1 st.2), V3.bd 10 x ∧ 1 ≤ x.c) := by
  obtain ⟨g1, g2⟩ := ba2 (List.all_eq_true.mp (List.all_eq_true.mp good_9 st hst) n hn)
  have hel : ∀ x ∈ (bentL n).map (scQ st.1 st.2), V3.bd 10 x ∧ 1 ≤ x.c := fun x hx => by
    have z := List.all_eq_true.mp g1 x hx
    obtain ⟨z1, z⟩ := ba2 z
    obtain ⟨z2, z⟩ := ba2 z
    obtain ⟨z3, z4⟩ := ba2 z
    exact ⟨⟨of_decide_eq_true z1, of_decide_eq_true z2, of_decide_eq_true z3⟩, of_decide_eq_true z4⟩
  refine ⟨?_, hel⟩
  obtain ⟨i1, h1, g2⟩ := List.any_eq_true.mp (List.all_eq_true.mp g2 k (List.mem_range.mpr hk))
  obtain ⟨i2, h2, g2⟩ := List.any_eq_true.mp g2
  obtain ⟨i3, h3, g2⟩ := List.any_eq_true.mp g2
  obtain ⟨n1, g2⟩ := ba2 g2
  obtain ⟨n2, g2⟩ := ba2 g2
  obtain ⟨n3, g2⟩ := ba2 g2
  have h1 := List.mem_range.mp h1
  have h2 := List.mem_range.mp h2
  have h3 := List.mem_range.mp h3
  have n1 := of_decide_eq_true n1
  have n2 := of_decide_eq_true n2
  have n3 := of_decide_eq_true n3
  have g2 := of_decide_eq_true g2
  have n8 : n ≤ 8 ∧ 4 ≤ n := by
    simp at hn
    omega
  have ql : ((bentL n).map (scQ st.1 st.2)).length = n := by unfold bentL; simp
  have el : ∀ i, V3.bd 10 (qAt ((bentL n).map (scQ st.1 st.2)) i) ∧ 1 ≤ (qAt ((bentL n).map (scQ st.1 st.2)) i).c := fun i => by
    have n0 : 0 < ((bentL n).map (scQ st.1 st.2)).length := by rw [ql]; omega
    generalize (bentL n).map (scQ st.1 st.2) = q at *
    have hm : i % q.length < q.length := Nat.mod_lt _ n0
    have e : qAt q i = q[i % q.length] := by
      unfold qAt
      simp [List.getD, hm]
    rw [e]
    exact hel _ (List.getElem_mem hm)
  have ek : qAt ((bentL n).map (scQ st.1 st.2)) k = scQ st.1 st.2 (bentV k) := by
    rw [qAt_lt (by rw [ql]; exact hk)]
    unfold bentL
    simp
  rw [qAt_map _ fun x => D4 (spAt s w a u x), ql, set_range, ← ek]
  generalize (bentL n).map (scQ st.1 st.2) = q at *
  have nor : (shR s w a u).nor ≠ ⟨0, 0, 0⟩ := shR_nor nz
  have nn : (shR s w a u).nor = v3 (cr a u) := by rw [v3_cr]; rfl
  have spo := fun i => spAt_ok (s := s) (a := a) (u := u) w1 (el i).2
  have sb := fun i => spAt_bd hs ha hu hw (el i).1
  have lp := lift_pnt (spo k).1 (cr a u)
  obtain ⟨c, hc⟩ : ∃ c : Nat → V4, ∀ i, c i = if i = k then liftV (spAt s w a u (qAt q k)) (cr a u) else spAt s w a u (qAt q i) := ⟨_, fun _ => rfl⟩
  have e0 : ((List.range n).map fun i => if i = k then D4 (liftV (spAt s w a u (qAt q k)) (cr a u)) else D4 (spAt s w a u (qAt q i))) = (List.range n).map fun i => D4 (c i) :=
    List.map_congr_left fun i _ => by rw [hc]; split <;> rfl
  rw [e0]
  have cb : V3.bd 92 (cr a u) := (cr_bd ha hu).mono (by decide)
  have lb : V4.bd 170 (liftV (spAt s w a u (qAt q k)) (cr a u)) := by
    obtain ⟨b1, b2, b3, b4⟩ := sb k
    obtain ⟨c1, c2, c3⟩ := cb
    exact mk4_bd ((bd_add b1 (bd_mul b4 c1)).mono (by decide)) ((bd_add b2 (bd_mul b4 c2)).mono (by decide)) ((bd_add b3 (bd_mul b4 c3)).mono (by decide)) (b4.mono (by decide))
  have csp : ∀ i, Spot (c i) := fun i => by
    rw [hc]
    split
    · exact lp.1
    · exact (spo i).1
  refine mb_no (c := c) (n := n) (B := 170) (by decide) csp (fun i => ?_) (by omega) ?_
  · rw [hc]
    split
    · exact lb
    · exact (sb i).mono (by decide)
  refine .inr (.inr (.inr ?_))
  by_cases cl : coll (c 0) (c 1) (c 2)
  · exact .inl cl
  refine .inr (.inl (Classical.byContradiction fun no => ?_))
  have all : ∀ j, j < n → lev (flatR c) (pnt (c j)) = 0 := fun j hj => by
    have z : sgn (hgt (flatR c) (c j)) = 0 := Classical.byContradiction fun z => no ⟨j, hj, z⟩
    rw [sgn_ev (csp j)] at z
    exact sg_zero.mp z
  have pl : ¬ ((flatR c).a = 0 ∧ (flatR c).b = 0 ∧ (flatR c).c = 0) := (thr_eq (csp 0) cl).1.ne
  have at3 : ∀ j, j < n → j ≠ k → lev (flatR c) ((shR s w a u).at (ptAt (qAt q j))) = 0 := fun j hj hjk => by
    have z := all j hj
    rw [hc, if_neg hjk, (spo j).2] at z
    exact z
  have z4 := all k hk
  rw [show pnt (c k) = pnt (liftV (spAt s w a u (qAt q k)) (cr a u)) by rw [hc, if_pos rfl], lp.2, (spo k).2] at z4
  refine no_plane nor pl (i := ptAt (qAt q i1)) (j := ptAt (qAt q i2)) (k := ptAt (qAt q i3)) (x := ptAt (qAt q k)) (fun z => g2 ?_) (at3 i1 h1 n1) (at3 i2 h2 n2) (at3 i3 h3 n3) ?_
  · have := hd_dt (el i1).2 (el i2).2 (el i3).2
    rw [z] at this
    exact sgn0.mp this.symm
  · rw [nn]
    exact z4


theorem bent_spec {m : Nat} (hm : m ≤ 20) : F_law_bent [.int (m : Int)] = .ok (.list ((List.range m).map fun k => D3 (bentV k))) := by
  unfold F_law_bent
  refine denF_of (fun r => r = _) ?_
  unfold m_law_bent
  have hl : (m : Int) ≤ 1000000 := by omega
  have lc : lcD (fun x => noX (((((bop Bop.mul x x).bind fun d => R.ok [d, PyData.int 1]).bind fun ds => R.ok (x :: ds)).bind fun ds => R.ok (PyData.tuple ds)).bind fun d => R.ok (some d))) (rngD ((m : Int)).toNat) = .ok (.list ((List.range m).map fun k => D3 (bentV k))) := by
    rw [Int.toNat_natCast]
    refine lcD_map (enc := fun (i : Nat) => PyData.int (i : Int)) (fun k hk => ?_) (by simp; omega)
    have bk : bd 20 (k : Int) := by have := List.mem_range.mp hk; unfold bd; omega
    rw [bop_mul bk bk (by decide)]
    rfl
  walk_at "es"
  simp_arith! only [lc]
theorem lifted_spec {s a u : V3} {w : Int} {c : V4} (ha : V3.bd 45 a) (hu : V3.bd 45 u) (sp : Spot c) (hc : V4.bd 75 c) : F_law_lifted_2 [D4 c, DSh s w a u] = .ok (D4 (liftV c (cr a u))) := by
  have e1 := cross_law (ha.1.mono (by decide)) (ha.2.1.mono (by decide)) (ha.2.2.mono (by decide)) (hu.1.mono (by decide)) (hu.2.1.mono (by decide)) (hu.2.2.mono (by decide))
  have e1 : F_law_cross [D3 a, D3 u] = .ok (D3 (cr a u)) := e1
  obtain ⟨b1, b2, b3, b4⟩ := hc
  obtain ⟨c1, c2, c3⟩ : V3.bd 92 (cr a u) := (cr_bd ha hu).mono (by decide)
  have low := lowest2_spec (x := c.a + c.d * (cr a u).a) (y := c.b + c.d * (cr a u).b) (z := c.c + c.d * (cr a u).c) (w := c.d) ((bd_add b1 (bd_mul b4 c1)).mono (by decide)) ((bd_add b2 (bd_mul b4 c2)).mono (by decide)) ((bd_add b3 (bd_mul b4 c3)).mono (by decide)) (b4.mono (by decide)) sp.pos
  unfold liftV
  have i2 : ixop (DSh s w a u) (.int 2) = .ok (D3 a) := rfl
  have i3 : ixop (DSh s w a u) (.int 3) = .ok (D3 u) := rfl
  clear ha hu sp
  generalize mk4 (c.a + c.d * (cr a u).a) (c.b + c.d * (cr a u).b) (c.c + c.d * (cr a u).c) c.d = r at *
  generalize cr a u = n at *
  generalize DSh s w a u = sh at *
  unfold F_law_lifted_2
  refine den_of (· = _) ?_
  unfold m_law_lifted_2
  simp_arith! only [i2, i3, e1, low]
theorem WS_setNC {F : Fns} {env : SE} {Q : Pst} {i f : Nat} {es : EPs} {ds L : List D} {e' : SE} (h1 : evPs F es env = .ok (ds, e')) (h2 : F f ds = .ok (.list L)) (h3 : Q.nx (e'.set i (.ow L))) : WS F (.setNC i f es) env Q := by
  unfold WS
  rw [exS, h1]
  show (match F f ds with
    | .ok (.list ds) => Rs.nx (e'.set i (.ow ds))
    | _ => .stuck).sat Q
  rw [h2]
  exact h3
theorem WS_swp {F : Fns} {env : SE} {Q : Pst} {i : Nat} {a b : E} {ds : List D} {y z : D} {ka kb : Int} {j1 j2 : Nat} (h0 : ownAt env i = some ds) (h1 : valS F env (.tup (.cons (.ix (.v i) b) (.cons (.ix (.v i) a) .nil))) = .ok (.tuple [y, z])) (h2 : evE F a (fullE env) = .ok (.int ka)) (h3 : ixN ds.length ka = some j1)
    (h4 : ownAt (env.set i (.ow (ds.set j1 y))) i = some (ds.set j1 y)) (h5 : evE F b (fullE (env.set i (.ow (ds.set j1 y)))) = .ok (.int kb)) (h6 : ixN ds.length kb = some j2) (h7 : Q.nx ((env.set i (.ow (ds.set j1 y))).set i (.ow ((ds.set j1 y).set j2 z)))) : WS F (.swp i a b) env Q := by
  unfold WS
  rw [exS, h1, R.toS_ok]
  unfold swpK
  dsimp only
  unfold withOw
  rw [h0]
  dsimp only
  rw [h2, R.toS_ok]
  unfold stK
  dsimp only
  rw [h3]
  show ((match ownAt (env.set i (.ow (ds.set j1 y))) i with
    | some ds1 => (evE F b (fullE (env.set i (.ow (ds.set j1 y))))).toS (env.set i (.ow (ds.set j1 y))) fun kb => (match kb with
      | .int k => (match ixN ds1.length k with
        | some j => Rs.nx ((env.set i (.ow (ds.set j1 y))).set i (.ow (ds1.set j z)))
        | none => .stuck)
      | _ => .stuck)
    | none => Rs.stuck).sat Q)
  rw [h4]
  dsimp only
  rw [h5, R.toS_ok]
  dsimp only
  rw [List.length_set, h6]
  exact h7
theorem pick_st {j : Int} (h : 0 ≤ j ∧ j < 3) : ∃ st ∈ STs, ixop (.list [.tuple [.int 1, .int 1], .tuple [.int 2, .int 3], .tuple [.int 4, .int 3]]) (.int j) = .ok (.tuple [.int st.1, .int st.2]) := by
  rcases (show j = 0 ∨ j = 1 ∨ j = 2 by omega) with rfl | rfl | rfl
  · exact ⟨(1, 1), by simp [STs], rfl⟩
  · exact ⟨(2, 3), by simp [STs], rfl⟩
  · exact ⟨(4, 3), by simp [STs], rfl⟩
theorem skip_eq {F : Fns} {env : SE} {Q : Pst} {i : Nat} {W k : Int} {b r : Ss} (h : getE (fullE env) i = .ok (.int W)) (n : W ≠ k) : WB F (.cons (.iff (.cmp .eq (.v i) (.i k)) b .nil) r) env Q = WB F r env Q := by
  rw [WB_cons, WS_iff]
  rw [show evE F (.cmp .eq (.v i) (.i k)) (fullE env) = .ok (.bool false) by rw [evE, evE, evE, h, R.bind_ok, R.bind_ok, cop_eqI, decide_eq_false n]]
  rw [R.bind_ok, ofB_bool, RP_ok, ifk_app, WB_nil, then_nx]
  simp
theorem take_eq {F : Fns} {env : SE} {Q : Pst} {i : Nat} {W : Int} {b r : Ss} (h : getE (fullE env) i = .ok (.int W)) : WB F (.cons (.iff (.cmp .eq (.v i) (.i W)) b .nil) r) env Q = WB F b env (Q.then F r) := by
  rw [WB_cons, WS_iff]
  rw [show evE F (.cmp .eq (.v i) (.i W)) (fullE env) = .ok (.bool true) by rw [evE, evE, evE, h, R.bind_ok, R.bind_ok, cop_eqI, decide_eq_true rfl]]
  rw [R.bind_ok, ofB_bool, RP_ok, ifk_app]
  simp
def tl4 : Ss := (.cons (.unpP [8, 9] (.ix (.pu (.lst (.cons (.tup (.cons (.i 1) (.cons (.i 1) .nil))) (.cons (.tup (.cons (.i 2) (.cons (.i 3) .nil))) (.cons (.tup (.cons (.i 4) (.cons (.i 3) .nil))) .nil))))) (.pcall 4 0 .nil (.cons (.pu (.i 3)) .nil)))) (.cons (.setN 10 (.lc .seq (.cons (.v 3) .nil) (.tp [11, 12, 13]) .nil (.call 1 (.cons (.v 1) (.cons (.tup (.cons (.op .mul (.v 11) (.v 8)) (.cons (.op .mul (.v 12) (.v 9)) (.cons (.op .mul (.op .mul (.v 13) (.v 8)) (.v 9)) .nil)))) .nil))) [("p", 11), ("q", 12), ("r", 13)])) (.cons (.iff (.cmp .eq (.v 2) (.i 9)) (.cons (.stI 10 (.v 4) (.call 2 (.cons (.ix (.v 10) (.v 4)) (.cons (.v 1) .nil)))) .nil) .nil) (.frz 10 (.cons (.retP 0 (.pu (.v 10))) .nil)))))
noncomputable abbrev F4 : Fns := sel [F_law_within_3, F_law_spot_2, F_law_lifted_2, F_law_bent, F_law_next]
theorem tail_4 {p p' : List D} {sh : D} {W j : Int} {k : D} {Lq : List V3} {s a u : V3} {w : Int} {st : Int × Int} {Q : Pst} (hl : Lq.length ≤ 100) (n3 : F_law_next [.list p, .int 3] = .ok (pairD (.int j) (.list p')))
    (xs : ixop (.list [.tuple [.int 1, .int 1], .tuple [.int 2, .int 3], .tuple [.int 4, .int 3]]) (.int j) = .ok (.tuple [.int st.1, .int st.2])) (h9 : W ≠ 9)
    (sp : ∀ x ∈ Lq, F_law_spot_2 [sh, D3 (scQ st.1 st.2 x)] = .ok (D4 (spAt s w a u (scQ st.1 st.2 x)))) (hb : ∀ x ∈ Lq, bd 20 x.a ∧ bd 20 x.b ∧ bd 20 x.c) (hst : bd 5 st.1 ∧ bd 5 st.2)
    (fin : Q.rt (pairD (.list ((Lq.map (scQ st.1 st.2)).map fun x => D4 (spAt s w a u x))) (.list p'))) :
    WB F4 tl4 [.ow p, .fr sh, .fr (.int W), .fr (.list (Lq.map D3)), .fr k, .un, .un, .un, .un, .un, .un, .un, .un, .un] Q := by
  unfold tl4
  rw [WB_cons]
  refine WS_only (P := fun e => e = [.ow p', .fr sh, .fr (.int W), .fr (.list (Lq.map D3)), .fr k, .un, .un, .un, .fr (.int st.1), .fr (.int st.2), .un, .un, .un, .un]) ?_ ?_
  · simp_arith! only [n3, xs]
  rintro e rfl
  rw [then_nx, WB_cons]
  refine WS_only (P := fun e => e = [.ow p', .fr sh, .fr (.int W), .fr (.list (Lq.map D3)), .fr k, .un, .un, .un, .fr (.int st.1), .fr (.int st.2), .ow (Lq.map fun x => D4 (spAt s w a u (scQ st.1 st.2 x))), .un, .un, .un]) ?_ ?_
  · simp_arith only []
    have lfr : lfrees (Lq.map fun x => D4 (spAt s w a u (scQ st.1 st.2 x))) = true := lfrees_map fun x => rfl
    rw [compL_map (enc := D3) (fun x => D4 (spAt s w a u (scQ st.1 st.2 x))) (fun x hx => ?_), compL_map (enc := D3) (fun x => D4 (spAt s w a u (scQ st.1 st.2 x))) (fun x hx => ?_)]
    · simp_arith! only [lfr]
    all_goals
      have sx := sp x hx
      obtain ⟨z1, z2, z3⟩ := hb x hx
      obtain ⟨z4, z5⟩ := hst
      unfold scQ at sx
      clear sp hb fin n3 xs lfr
      show noX (((Tg.tp [11, 12, 13]).asg (T3 x.a x.b x.c) _).bind _) = _
      simp_arith! only [sx]
      rfl
  rintro e rfl
  rw [then_nx, skip_eq (W := W) rfl h9]
  have em : (Lq.map (scQ st.1 st.2)).map (fun x => D4 (spAt s w a u x)) = Lq.map fun x => D4 (spAt s w a u (scQ st.1 st.2 x)) := by rw [List.map_map]; rfl
  rw [em] at fin
  clear em sp hb
  generalize Lq.map (fun x => D4 (spAt s w a u (scQ st.1 st.2 x))) = R at *
  simp_arith! only []
  exact fin
theorem bentD (m : Nat) : ((List.range m).map fun k => D3 (bentV k)) = (bentL m).map D3 := by unfold bentL; rw [List.map_map]; rfl
theorem tail_9 {p p' : List D} {sh : D} {j : Int} {k : Nat} {Lq : List V3} {s a u : V3} {w : Int} {st : Int × Int} {Q : Pst} {v c0 : V4} (hl : Lq.length ≤ 100) (n3 : F_law_next [.list p, .int 3] = .ok (pairD (.int j) (.list p')))
    (xs : ixop (.list [.tuple [.int 1, .int 1], .tuple [.int 2, .int 3], .tuple [.int 4, .int 3]]) (.int j) = .ok (.tuple [.int st.1, .int st.2])) (hk : k < Lq.length)
    (sp : ∀ x ∈ Lq, F_law_spot_2 [sh, D3 (scQ st.1 st.2 x)] = .ok (D4 (spAt s w a u (scQ st.1 st.2 x)))) (hb : ∀ x ∈ Lq, bd 20 x.a ∧ bd 20 x.b ∧ bd 20 x.c) (hst : bd 5 st.1 ∧ bd 5 st.2)
    (ic : ixop (.list (Lq.map fun x => D4 (spAt s w a u (scQ st.1 st.2 x)))) (.int (k : Int)) = .ok (D4 c0)) (lf : F_law_lifted_2 [D4 c0, sh] = .ok (D4 v))
    (fin : Q.rt (pairD (.list ((Lq.map fun x => D4 (spAt s w a u (scQ st.1 st.2 x))).set k (D4 v))) (.list p'))) :
    WB F4 tl4 [.ow p, .fr sh, .fr (.int 9), .fr (.list (Lq.map D3)), .fr (.int (k : Int)), .un, .un, .un, .un, .un, .un, .un, .un, .un] Q := by
  unfold tl4
  rw [WB_cons]
  refine WS_only (P := fun e => e = [.ow p', .fr sh, .fr (.int 9), .fr (.list (Lq.map D3)), .fr (.int (k : Int)), .un, .un, .un, .fr (.int st.1), .fr (.int st.2), .un, .un, .un, .un]) ?_ ?_
  · simp_arith! only [n3, xs]
  rintro e rfl
  rw [then_nx, WB_cons]
  refine WS_only (P := fun e => e = [.ow p', .fr sh, .fr (.int 9), .fr (.list (Lq.map D3)), .fr (.int (k : Int)), .un, .un, .un, .fr (.int st.1), .fr (.int st.2), .ow (Lq.map fun x => D4 (spAt s w a u (scQ st.1 st.2 x))), .un, .un, .un]) ?_ ?_
  · simp_arith only []
    have lfr : lfrees (Lq.map fun x => D4 (spAt s w a u (scQ st.1 st.2 x))) = true := lfrees_map fun x => rfl
    rw [compL_map (enc := D3) (fun x => D4 (spAt s w a u (scQ st.1 st.2 x))) (fun x hx => ?_), compL_map (enc := D3) (fun x => D4 (spAt s w a u (scQ st.1 st.2 x))) (fun x hx => ?_)]
    · simp_arith! only [lfr]
    all_goals
      have sx := sp x hx
      obtain ⟨z1, z2, z3⟩ := hb x hx
      obtain ⟨z4, z5⟩ := hst
      unfold scQ at sx
      clear sp hb fin n3 xs lfr ic lf
      show noX (((Tg.tp [11, 12, 13]).asg (T3 x.a x.b x.c) _).bind _) = _
      simp_arith! only [sx]
      rfl
  rintro e rfl
  rw [then_nx, take_eq (W := 9) rfl]
  have hR : k < (Lq.map fun x => D4 (spAt s w a u (scQ st.1 st.2 x))).length := by rw [List.length_map]; exact hk
  clear sp hb n3 xs hst
  generalize Lq.map (fun x => D4 (spAt s w a u (scQ st.1 st.2 x))) = R at *
  have stm : ∀ (Q : Pst) (env : SE) (d : D), Q.stk2 env 10 R d (.int (k : Int)) = Q.nx (env.set 10 (.ow (R.set k d))) := fun Q env d => by
    have e : ixN R.length (k : Int) = some k := by
      unfold ixN
      simp
      omega
    show ((stK env 10 R d (.int (k : Int))).sat Q) = _
    unfold stK
    dsimp only
    rw [e]
    rfl
  rw [WB_cons]
  refine WS_only (P := fun e => e = [.ow p', .fr sh, .fr (.int 9), .fr (.list (Lq.map D3)), .fr (.int (k : Int)), .un, .un, .un, .fr (.int st.1), .fr (.int st.2), .ow (R.set k (D4 v)), .un, .un, .un]) ?_ ?_
  · simp_arith! only [ic, lf, stm]
  rintro e rfl
  rw [then_nx, WB_nil, then_nx]
  generalize R.set k (D4 v) = R2 at *
  simp_arith! only []
  exact fin


def rest4 : Ss := (.cons (.iff (.cmp .eq (.v 2) (.i 1)) (.frz 3 (.cons (.setP 3 (.sl (.pu (.v 3)) .nil (.cons (.pcall 4 0 .nil (.cons (.pu (.i 3)) .nil)) .nil))) .nil)) .nil) (.cons (.iff (.cmp .eq (.v 2) (.i 2)) (.cons (.insP 3 (.cons (.pu (.v 4)) (.cons (.pu (.bi .tuple (.cons (.lc .rng1 (.cons (.i 3) .nil) (.nm 5) .nil (.op .add (.ix (.ix (.v 3) (.v 4)) (.v 5)) (.ix (.ix (.v 3) (.op .sub (.v 4) (.i 1))) (.v 5))) [("j", 5)]) .nil))) .nil))) .nil) .nil) (.cons (.iff (.cmp .eq (.v 2) (.i 3)) (.cons (.insP 3 (.cons (.pu (.v 4)) (.cons (.pu (.call 0 (.cons (.v 3) .nil))) .nil))) .nil) .nil) (.cons (.iff (.cmp .eq (.v 2) (.i 4)) (.cons (.insP 3 (.cons (.pcall 4 0 .nil (.cons (.pu (.bi .len (.cons (.v 3) .nil))) .nil)) (.cons (.pu (.ix (.v 3) (.v 4))) .nil))) .nil) .nil) (.cons (.iff (.cmp .eq (.v 2) (.i 5)) (.cons (.swp 3 (.v 4) (.op .sub (.v 4) (.i 1))) .nil) .nil) (.frz 3 (.cons (.iff (.cmp .eq (.v 2) (.i 6)) (.cons (.setN 3 (.lc .rng1 (.cons (.i 5) .nil) (.nm 6) .nil (.ix (.callF 3 (.cons (.i 5) .nil)) (.op .mod (.op .mul (.i 2) (.v 6)) (.i 5))) [("k", 6)])) (.frz 3 .nil)) .nil) (.cons (.iff (.cmp .eq (.v 2) (.i 7)) (.cons (.setN 3 (.lc .rng1 (.cons (.bi .len (.cons (.v 3) .nil)) .nil) (.nm 6) .nil (.tup (.cons (.v 6) (.cons (.op .mul (.i 3) (.v 6)) (.cons (.i 1) .nil)))) [("k", 6)])) (.frz 3 .nil)) .nil) (.cons (.iff (.cmp .eq (.v 2) (.i 8)) (.cons (.setN 3 (.lc .seq (.cons (.v 3) .nil) (.nm 7) .nil (.ix (.v 3) (.v 4)) [("place", 7)])) (.frz 3 .nil)) .nil) (.cons (.unpP [8, 9] (.ix (.pu (.lst (.cons (.tup (.cons (.i 1) (.cons (.i 1) .nil))) (.cons (.tup (.cons (.i 2) (.cons (.i 3) .nil))) (.cons (.tup (.cons (.i 4) (.cons (.i 3) .nil))) .nil))))) (.pcall 4 0 .nil (.cons (.pu (.i 3)) .nil)))) (.cons (.setN 10 (.lc .seq (.cons (.v 3) .nil) (.tp [11, 12, 13]) .nil (.call 1 (.cons (.v 1) (.cons (.tup (.cons (.op .mul (.v 11) (.v 8)) (.cons (.op .mul (.v 12) (.v 9)) (.cons (.op .mul (.op .mul (.v 13) (.v 8)) (.v 9)) .nil)))) .nil))) [("p", 11), ("q", 12), ("r", 13)])) (.cons (.iff (.cmp .eq (.v 2) (.i 9)) (.cons (.stI 10 (.v 4) (.call 2 (.cons (.ix (.v 10) (.v 4)) (.cons (.v 1) .nil)))) .nil) .nil) (.frz 10 (.cons (.retP 0 (.pu (.v 10))) .nil))))))))))))))
theorem start4 {ps p0 p1 p2 : List D} {sh : D} {d0 d1 W k iB : Int} {b : Bool} {m : Nat} {Q : Pst} (n0 : F_law_next [.list ps, .int 4] = .ok (pairD (.int d0) (.list p0))) (n1 : F_law_next [.list p0, .int 4] = .ok (pairD (.int d1) (.list p1)))
    (c0 : cop .gt (.int W) (.int 0) = .ok (.bool b)) (b0 : bi .int [.bool b] = .ok (.int iB)) (ix : ixop (.list [.int (9 + d0), .int (4 + d1)]) (.int iB) = .ok (.int (m : Int))) (m20 : m ≤ 20)
    (n2 : F_law_next [.list p1, .int (m : Int)] = .ok (pairD (.int k) (.list p2))) (h : WB F4 rest4 [.ow p2, .fr sh, .fr (.int W), .ow ((bentL m).map D3), .fr (.int k), .un, .un, .un, .un, .un, .un, .un, .un, .un] Q) :
    WB F4 m_law_spoilt_4 [.ow ps, .fr sh, .fr (.int W), .un, .un, .un, .un, .un, .un, .un, .un, .un, .un, .un] Q := by
  unfold m_law_spoilt_4
  have bs := bent_spec m20
  rw [bentD] at bs
  rw [WB_cons]
  refine WS_setNC (ds := [.int (m : Int)]) (L := (bentL m).map D3) (e' := [.ow p1, .fr sh, .fr (.int W), .un, .un, .un, .un, .un, .un, .un, .un, .un, .un, .un]) ?_ bs ?_
  · simp_arith! only [n0, n1, c0, b0, ix]
  rw [then_nx]
  simp only [set_succ, set_zero]
  rw [WB_cons]
  have ln : bi .len [.list ((bentL m).map D3)] = .ok (.int (m : Int)) := by rw [bi_len]; unfold bentL; simp
  clear bs
  generalize (bentL m).map D3 = L at *
  refine WS_only (P := fun e => e = [.ow p2, .fr sh, .fr (.int W), .ow L, .fr (.int k), .un, .un, .un, .un, .un, .un, .un, .un, .un]) ?_ ?_
  · simp_arith! only [n2, ln]
  rintro e rfl
  rw [then_nx]
  exact h
theorem bent_ix {m k : Nat} (h : k < m) : ixop (.list ((bentL m).map D3)) (.int (k : Int)) = .ok (D3 (bentV k)) := by
  rw [← bentD]
  exact ixL_nat (f := fun k => D3 (bentV k)) h
theorem bent_pv {m k : Nat} (h : k < m) : ixop (.list ((bentL m).map D3)) (.int ((k : Int) - 1)) = .ok (D3 (bentV (prN m k))) := by
  rw [← bentD]
  exact ixL_prev (f := fun k => D3 (bentV k)) h
theorem bent_len {m : Nat} : ((bentL m).map D3).length = m := by unfold bentL; simp

theorem way4_0 {p p' : List D} {sh : D} {k m : Nat} {Q : Pst} (hk : k < m) (m20 : m ≤ 20) (h : WB F4 tl4 [.ow p, .fr sh, .fr (.int 0), .fr (.list ((bentL m).map D3)), .fr (.int (k : Int)), .un, .un, .un, .un, .un, .un, .un, .un, .un] Q) : WB F4 rest4 [.ow p, .fr sh, .fr (.int 0), .ow ((bentL m).map D3), .fr (.int (k : Int)), .un, .un, .un, .un, .un, .un, .un, .un, .un] Q := by
  unfold rest4
  rw [skip_eq (W := 0) rfl (by decide)]
  rw [skip_eq (W := 0) rfl (by decide)]
  rw [skip_eq (W := 0) rfl (by decide)]
  rw [skip_eq (W := 0) rfl (by decide)]
  rw [skip_eq (W := 0) rfl (by decide)]
  rw [WB_frz]
  simp only [frz_succ, frz_zero, frz_zero_fr]
  rw [skip_eq (W := 0) rfl (by decide)]
  rw [skip_eq (W := 0) rfl (by decide)]
  rw [skip_eq (W := 0) rfl (by decide)]
  exact h
theorem way4_9 {p p' : List D} {sh : D} {k m : Nat} {Q : Pst} (hk : k < m) (m20 : m ≤ 20) (h : WB F4 tl4 [.ow p, .fr sh, .fr (.int 9), .fr (.list ((bentL m).map D3)), .fr (.int (k : Int)), .un, .un, .un, .un, .un, .un, .un, .un, .un] Q) : WB F4 rest4 [.ow p, .fr sh, .fr (.int 9), .ow ((bentL m).map D3), .fr (.int (k : Int)), .un, .un, .un, .un, .un, .un, .un, .un, .un] Q := by
  unfold rest4
  rw [skip_eq (W := 9) rfl (by decide)]
  rw [skip_eq (W := 9) rfl (by decide)]
  rw [skip_eq (W := 9) rfl (by decide)]
  rw [skip_eq (W := 9) rfl (by decide)]
  rw [skip_eq (W := 9) rfl (by decide)]
  rw [WB_frz]
  simp only [frz_succ, frz_zero, frz_zero_fr]
  rw [skip_eq (W := 9) rfl (by decide)]
  rw [skip_eq (W := 9) rfl (by decide)]
  rw [skip_eq (W := 9) rfl (by decide)]
  exact h
theorem way4_1 {p p' : List D} {sh : D} {k m : Nat} {Q : Pst} (hk : k < m) (m20 : m ≤ 20) {jn : Nat} (hj : jn ≤ m) (n : F_law_next [.list p, .int 3] = .ok (pairD (.int (jn : Int)) (.list p'))) (h : WB F4 tl4 [.ow p', .fr sh, .fr (.int 1), .fr (.list (((bentL m).take jn).map D3)), .fr (.int (k : Int)), .un, .un, .un, .un, .un, .un, .un, .un, .un] Q) : WB F4 rest4 [.ow p, .fr sh, .fr (.int 1), .ow ((bentL m).map D3), .fr (.int (k : Int)), .un, .un, .un, .un, .un, .un, .un, .un, .un] Q := by
  unfold rest4
  rw [take_eq (W := 1) rfl, WB_frz]
  simp only [frz_succ, frz_zero, frz_zero_fr]
  have sl : slop (.list ((bentL m).map D3)) none (some (jn : Int)) = .ok (.list (((bentL m).take jn).map D3)) := by
    rw [slop_to (by rw [bent_len]; exact hj), List.map_take]
  rw [WB_cons]
  refine WS_only (P := fun e => e = [.ow p', .fr sh, .fr (.int 1), .fr (.list (((bentL m).take jn).map D3)), .fr (.int (k : Int)), .un, .un, .un, .un, .un, .un, .un, .un, .un]) ?_ ?_
  · generalize ((bentL m).take jn).map D3 = X at *
    generalize (bentL m).map D3 = L at *
    simp_arith! only [n, sl]
  rintro e rfl
  rw [then_nx, WB_nil, then_nx]
  rw [skip_eq (W := 1) rfl (by decide)]
  rw [skip_eq (W := 1) rfl (by decide)]
  rw [skip_eq (W := 1) rfl (by decide)]
  rw [skip_eq (W := 1) rfl (by decide)]
  rw [WB_frz]
  simp only [frz_succ, frz_zero, frz_zero_fr]
  rw [skip_eq (W := 1) rfl (by decide)]
  rw [skip_eq (W := 1) rfl (by decide)]
  rw [skip_eq (W := 1) rfl (by decide)]
  exact h
theorem way4_2 {p p' : List D} {sh : D} {k m : Nat} {Q : Pst} (hk : k < m) (m20 : m ≤ 20) (h : WB F4 tl4 [.ow p, .fr sh, .fr (.int 2), .fr (.list ((insQ (bentL m) k (midQ m k)).map D3)), .fr (.int (k : Int)), .un, .un, .un, .un, .un, .un, .un, .un, .un] Q) : WB F4 rest4 [.ow p, .fr sh, .fr (.int 2), .ow ((bentL m).map D3), .fr (.int (k : Int)), .un, .un, .un, .un, .un, .un, .un, .un, .un] Q := by
  unfold rest4
  rw [skip_eq (W := 2) rfl (by decide)]
  rw [take_eq (W := 2) rfl, WB_cons]
  have i1 := bent_ix hk
  have i2 := bent_pv hk
  refine WS_only (P := fun e => e = [.ow p, .fr sh, .fr (.int 2), .ow ((insQ (bentL m) k (midQ m k)).map D3), .fr (.int (k : Int)), .un, .un, .un, .un, .un, .un, .un, .un, .un]) ?_ ?_
  · have insd : ∀ (d : D), (((bentL m).map D3).take (k : Int).toNat ++ [d] ++ ((bentL m).map D3).drop (k : Int).toNat) = ((bentL m).map D3).take k ++ [d] ++ ((bentL m).map D3).drop k := fun d => by rw [Int.toNat_natCast]
    have em : (insQ (bentL m) k (midQ m k)).map D3 = ((bentL m).map D3).take k ++ [D3 (midQ m k)] ++ ((bentL m).map D3).drop k := by unfold insQ; rw [List.map_append, List.map_append, List.map_take, List.map_drop]; rfl
    rw [em]
    have ln : ((bentL m).map D3).length = m := bent_len
    have cnd : 0 ≤ (k : Int) ∧ (k : Int) ≤ 1000000 ∧ ((bentL m).map D3).length ≤ 1000000 := ⟨by omega, by omega, by omega⟩
    have io := fun (Q : Pst) (e : SE) (d : D) => inspo_ok (Q := Q) (e := e) (i := 3) (d := d) cnd
    simp only [insd] at io
    clear em insd cnd
    unfold midQ
    generalize bentV (prN m k) = v2 at *
    generalize bentV k = v1 at *
    generalize (bentL m).map D3 = L at *
    simp_arith! only [i1, i2, io]
  rintro e rfl
  rw [then_nx, WB_nil, then_nx]
  rw [skip_eq (W := 2) rfl (by decide)]
  rw [skip_eq (W := 2) rfl (by decide)]
  rw [skip_eq (W := 2) rfl (by decide)]
  rw [WB_frz]
  simp only [frz_succ, frz_zero, frz_zero_fr]
  rw [skip_eq (W := 2) rfl (by decide)]
  rw [skip_eq (W := 2) rfl (by decide)]
  rw [skip_eq (W := 2) rfl (by decide)]
  exact h
theorem way4_3 {p p' : List D} {sh : D} {k m : Nat} {Q : Pst} (hk : k < m) (m20 : m ≤ 20) (cen : F_law_within_3 [.list ((bentL m).map D3)] = .ok (D3 (cenQ m))) (h : WB F4 tl4 [.ow p, .fr sh, .fr (.int 3), .fr (.list ((insQ (bentL m) k (cenQ m)).map D3)), .fr (.int (k : Int)), .un, .un, .un, .un, .un, .un, .un, .un, .un] Q) : WB F4 rest4 [.ow p, .fr sh, .fr (.int 3), .ow ((bentL m).map D3), .fr (.int (k : Int)), .un, .un, .un, .un, .un, .un, .un, .un, .un] Q := by
  unfold rest4
  rw [skip_eq (W := 3) rfl (by decide)]
  rw [skip_eq (W := 3) rfl (by decide)]
  rw [take_eq (W := 3) rfl, WB_cons]
  refine WS_only (P := fun e => e = [.ow p, .fr sh, .fr (.int 3), .ow ((insQ (bentL m) k (cenQ m)).map D3), .fr (.int (k : Int)), .un, .un, .un, .un, .un, .un, .un, .un, .un]) ?_ ?_
  · have insd : ∀ (d : D), (((bentL m).map D3).take (k : Int).toNat ++ [d] ++ ((bentL m).map D3).drop (k : Int).toNat) = ((bentL m).map D3).take k ++ [d] ++ ((bentL m).map D3).drop k := fun d => by rw [Int.toNat_natCast]
    have em : (insQ (bentL m) k (cenQ m)).map D3 = ((bentL m).map D3).take k ++ [D3 (cenQ m)] ++ ((bentL m).map D3).drop k := by unfold insQ; rw [List.map_append, List.map_append, List.map_take, List.map_drop]; rfl
    rw [em]
    have ln : ((bentL m).map D3).length = m := bent_len
    have cnd : 0 ≤ (k : Int) ∧ (k : Int) ≤ 1000000 ∧ ((bentL m).map D3).length ≤ 1000000 := ⟨by omega, by omega, by omega⟩
    have io := fun (Q : Pst) (e : SE) (d : D) => inspo_ok (Q := Q) (e := e) (i := 3) (d := d) cnd
    simp only [insd] at io
    clear em insd cnd
    generalize cenQ m = v1 at *
    generalize (bentL m).map D3 = L at *
    simp_arith! only [cen, io]
  rintro e rfl
  rw [then_nx, WB_nil, then_nx]
  rw [skip_eq (W := 3) rfl (by decide)]
  rw [skip_eq (W := 3) rfl (by decide)]
  rw [WB_frz]
  simp only [frz_succ, frz_zero, frz_zero_fr]
  rw [skip_eq (W := 3) rfl (by decide)]
  rw [skip_eq (W := 3) rfl (by decide)]
  rw [skip_eq (W := 3) rfl (by decide)]
  exact h
theorem way4_4 {p p' : List D} {sh : D} {k m : Nat} {Q : Pst} (hk : k < m) (m20 : m ≤ 20) {jn : Nat} (hj : jn < m) (n : F_law_next [.list p, .int (m : Int)] = .ok (pairD (.int (jn : Int)) (.list p'))) (h : WB F4 tl4 [.ow p', .fr sh, .fr (.int 4), .fr (.list ((insQ (bentL m) jn (bentV k)).map D3)), .fr (.int (k : Int)), .un, .un, .un, .un, .un, .un, .un, .un, .un] Q) : WB F4 rest4 [.ow p, .fr sh, .fr (.int 4), .ow ((bentL m).map D3), .fr (.int (k : Int)), .un, .un, .un, .un, .un, .un, .un, .un, .un] Q := by
  unfold rest4
  rw [skip_eq (W := 4) rfl (by decide)]
  rw [skip_eq (W := 4) rfl (by decide)]
  rw [skip_eq (W := 4) rfl (by decide)]
  rw [take_eq (W := 4) rfl, WB_cons]
  have i1 := bent_ix hk
  have bl : bi .len [.list ((bentL m).map D3)] = .ok (.int (m : Int)) := by rw [bi_len, bent_len]
  refine WS_only (P := fun e => e = [.ow p', .fr sh, .fr (.int 4), .ow ((insQ (bentL m) jn (bentV k)).map D3), .fr (.int (k : Int)), .un, .un, .un, .un, .un, .un, .un, .un, .un]) ?_ ?_
  · have insd : ∀ (d : D), (((bentL m).map D3).take (jn : Int).toNat ++ [d] ++ ((bentL m).map D3).drop (jn : Int).toNat) = ((bentL m).map D3).take jn ++ [d] ++ ((bentL m).map D3).drop jn := fun d => by rw [Int.toNat_natCast]
    have em : (insQ (bentL m) jn (bentV k)).map D3 = ((bentL m).map D3).take jn ++ [D3 (bentV k)] ++ ((bentL m).map D3).drop jn := by unfold insQ; rw [List.map_append, List.map_append, List.map_take, List.map_drop]; rfl
    rw [em]
    have ln : ((bentL m).map D3).length = m := bent_len
    have cnd : 0 ≤ (jn : Int) ∧ (jn : Int) ≤ 1000000 ∧ ((bentL m).map D3).length ≤ 1000000 := ⟨by omega, by omega, by omega⟩
    have io := fun (Q : Pst) (e : SE) (d : D) => inspo_ok (Q := Q) (e := e) (i := 3) (d := d) cnd
    simp only [insd] at io
    clear em insd cnd
    generalize bentV k = v1 at *
    generalize (bentL m).map D3 = L at *
    simp_arith! only [i1, n, bl, io]
  rintro e rfl
  rw [then_nx, WB_nil, then_nx]
  rw [skip_eq (W := 4) rfl (by decide)]
  rw [WB_frz]
  simp only [frz_succ, frz_zero, frz_zero_fr]
  rw [skip_eq (W := 4) rfl (by decide)]
  rw [skip_eq (W := 4) rfl (by decide)]
  rw [skip_eq (W := 4) rfl (by decide)]
  exact h
theorem way4_5 {p p' : List D} {sh : D} {k m : Nat} {Q : Pst} (hk : k < m) (m20 : m ≤ 20) (h : WB F4 tl4 [.ow p, .fr sh, .fr (.int 5), .fr (.list ((swpQ m k).map D3)), .fr (.int (k : Int)), .un, .un, .un, .un, .un, .un, .un, .un, .un] Q) : WB F4 rest4 [.ow p, .fr sh, .fr (.int 5), .ow ((bentL m).map D3), .fr (.int (k : Int)), .un, .un, .un, .un, .un, .un, .un, .un, .un] Q := by
  unfold rest4
  rw [skip_eq (W := 5) rfl (by decide)]
  rw [skip_eq (W := 5) rfl (by decide)]
  rw [skip_eq (W := 5) rfl (by decide)]
  rw [skip_eq (W := 5) rfl (by decide)]
  rw [take_eq (W := 5) rfl, WB_cons]
  have i1 := bent_ix hk
  have i2 := bent_pv hk
  have em : (swpQ m k).map D3 = (((bentL m).map D3).set k (D3 (bentV (prN m k)))).set (prN m k) (D3 (bentV k)) := by unfold swpQ; rw [List.map_set, List.map_set]
  have j1 : ixN ((bentL m).map D3).length (k : Int) = some k := by rw [bent_len]; unfold ixN; simp; omega
  have j2 : ixN ((bentL m).map D3).length ((k : Int) - 1) = some (prN m k) := by
    rw [bent_len]
    by_cases z : k = 0
    · subst z
      unfold ixN prN
      simp
      omega
    · have e : ((k : Int) - 1) = ((k - 1 : Nat) : Int) := by omega
      have e2 : prN m k = k - 1 := by unfold prN; rw [if_neg z]
      rw [e, e2]
      unfold ixN
      simp
      omega
  rw [em] at h
  clear em
  refine WS_swp (ds := (bentL m).map D3) (y := D3 (bentV (prN m k))) (z := D3 (bentV k)) (ka := (k : Int)) (kb := (k : Int) - 1) (j1 := k) (j2 := prN m k) rfl ?_ rfl j1 rfl rfl j2 ?_
  · generalize (bentL m).map D3 = L at *
    simp_arith! only [i1, i2]
  rw [then_nx, WB_nil, then_nx]
  simp only [set_succ, set_zero]
  rw [WB_frz]
  simp only [frz_succ, frz_zero, frz_zero_fr]
  rw [skip_eq (W := 5) rfl (by decide)]
  rw [skip_eq (W := 5) rfl (by decide)]
  rw [skip_eq (W := 5) rfl (by decide)]
  exact h
theorem way4_6 {p p' : List D} {sh : D} {k m : Nat} {Q : Pst} (hk : k < m) (m20 : m ≤ 20) (h : WB F4 tl4 [.ow p, .fr sh, .fr (.int 6), .fr (.list (starQ.map D3)), .fr (.int (k : Int)), .un, .un, .un, .un, .un, .un, .un, .un, .un] Q) : WB F4 rest4 [.ow p, .fr sh, .fr (.int 6), .ow ((bentL m).map D3), .fr (.int (k : Int)), .un, .un, .un, .un, .un, .un, .un, .un, .un] Q := by
  unfold rest4
  rw [skip_eq (W := 6) rfl (by decide)]
  rw [skip_eq (W := 6) rfl (by decide)]
  rw [skip_eq (W := 6) rfl (by decide)]
  rw [skip_eq (W := 6) rfl (by decide)]
  rw [skip_eq (W := 6) rfl (by decide)]
  rw [WB_frz]
  simp only [frz_succ, frz_zero, frz_zero_fr]
  rw [take_eq (W := 6) rfl, WB_cons]
  have b5 : F_law_bent [.int 5] = .ok (.list ((bentL 5).map D3)) := by rw [← bentD]; exact bent_spec (m := 5) (by decide)
  have x0 : ixop (.list ((bentL 5).map D3)) (.int 0) = .ok (D3 (bentV 0)) := bent_ix (m := 5) (k := 0) (by decide)
  have x1 : ixop (.list ((bentL 5).map D3)) (.int 1) = .ok (D3 (bentV 1)) := bent_ix (m := 5) (k := 1) (by decide)
  have x2 : ixop (.list ((bentL 5).map D3)) (.int 2) = .ok (D3 (bentV 2)) := bent_ix (m := 5) (k := 2) (by decide)
  have x3 : ixop (.list ((bentL 5).map D3)) (.int 3) = .ok (D3 (bentV 3)) := bent_ix (m := 5) (k := 3) (by decide)
  have x4 : ixop (.list ((bentL 5).map D3)) (.int 4) = .ok (D3 (bentV 4)) := bent_ix (m := 5) (k := 4) (by decide)
  refine WS_only (P := fun e => e = [.ow p, .fr sh, .fr (.int 6), .ow (starQ.map D3), .fr (.int (k : Int)), .un, .un, .un, .un, .un, .un, .un, .un, .un]) ?_ ?_
  · unfold starQ
    have y0 : (2 * 0 : Int).fmod 5 = 0 := rfl
    have y1 : (2 * 1 : Int).fmod 5 = 2 := rfl
    have y2 : (2 * 2 : Int).fmod 5 = 4 := rfl
    have y3 : (2 * 3 : Int).fmod 5 = 1 := rfl
    have y4 : (2 * 4 : Int).fmod 5 = 3 := rfl
    generalize (bentL 5).map D3 = L5 at *
    generalize bentV 0 = v0 at *
    generalize bentV 1 = v1 at *
    generalize bentV 2 = v2 at *
    generalize bentV 3 = v3 at *
    generalize bentV 4 = v4 at *
    clear h
    generalize (bentL m).map D3 = L at *
    simp_arith! only [b5, y0, y1, y2, y3, y4, x0, x1, x2, x3, x4]
  rintro e rfl
  rw [then_nx, WB_frz]
  simp only [frz_succ, frz_zero, frz_zero_fr]
  rw [WB_nil, then_nx]
  rw [skip_eq (W := 6) rfl (by decide)]
  rw [skip_eq (W := 6) rfl (by decide)]
  exact h
theorem way4_7 {p p' : List D} {sh : D} {k m : Nat} {Q : Pst} (hk : k < m) (m20 : m ≤ 20) (h : WB F4 tl4 [.ow p, .fr sh, .fr (.int 7), .fr (.list ((lineQ m).map D3)), .fr (.int (k : Int)), .un, .un, .un, .un, .un, .un, .un, .un, .un] Q) : WB F4 rest4 [.ow p, .fr sh, .fr (.int 7), .ow ((bentL m).map D3), .fr (.int (k : Int)), .un, .un, .un, .un, .un, .un, .un, .un, .un] Q := by
  unfold rest4
  rw [skip_eq (W := 7) rfl (by decide)]
  rw [skip_eq (W := 7) rfl (by decide)]
  rw [skip_eq (W := 7) rfl (by decide)]
  rw [skip_eq (W := 7) rfl (by decide)]
  rw [skip_eq (W := 7) rfl (by decide)]
  rw [WB_frz]
  simp only [frz_succ, frz_zero, frz_zero_fr]
  rw [skip_eq (W := 7) rfl (by decide)]
  rw [take_eq (W := 7) rfl, WB_cons]
  have bl : bi .len [.list ((bentL m).map D3)] = .ok (.int (m : Int)) := by rw [bi_len, bent_len]
  refine WS_only (P := fun e => e = [.ow p, .fr sh, .fr (.int 7), .ow ((lineQ m).map D3), .fr (.int (k : Int)), .un, .un, .un, .un, .un, .un, .un, .un, .un]) ?_ ?_
  · clear h
    generalize (bentL m).map D3 = L at *
    have em : (lineQ m).map D3 = (List.range m).map fun (i : Nat) => D3 ⟨(i : Int), 3 * (i : Int), 1⟩ := by unfold lineQ; rw [List.map_map]; rfl
    rw [em]
    have hl : (m : Int) ≤ 1000000 := by omega
    have el : ∀ (i : Nat), i ∈ List.range m → noX (((((bop Bop.mul (.int 3) (.int (i : Int))).bind fun d => R.ok [d, PyData.int 1]).bind fun ds => R.ok (PyData.int (i : Int) :: ds)).bind fun ds => R.ok (PyData.tuple ds)).bind fun d => R.ok (some d)) = .ok (some (D3 ⟨(i : Int), 3 * (i : Int), 1⟩)) := fun i hi => by
      have bk : bd 20 (i : Int) := by have := List.mem_range.mp hi; unfold bd; omega
      rw [bop_mul (m := 3) (by decide) bk (by decide)]
      rfl
    have lc : lcD (fun x => noX (((((bop Bop.mul (.int 3) x).bind fun d => R.ok [d, PyData.int 1]).bind fun ds => R.ok (x :: ds)).bind fun ds => R.ok (PyData.tuple ds)).bind fun d => R.ok (some d))) (rngD ((m : Int)).toNat) = .ok (.list ((List.range m).map fun (i : Nat) => D3 ⟨(i : Int), 3 * (i : Int), 1⟩)) := by
      rw [Int.toNat_natCast]
      exact lcD_map (enc := fun (i : Nat) => PyData.int (i : Int)) el (by simp; omega)
    have lfr : lfrees ((List.range m).map fun (i : Nat) => D3 ⟨(i : Int), 3 * (i : Int), 1⟩) = true := lfrees_map fun x => rfl
    clear em el
    generalize ((List.range m).map fun (i : Nat) => D3 ⟨(i : Int), 3 * (i : Int), 1⟩) = X at *
    simp_arith! only [bl, lc, lfr]
  rintro e rfl
  rw [then_nx, WB_frz]
  simp only [frz_succ, frz_zero, frz_zero_fr]
  rw [WB_nil, then_nx]
  rw [skip_eq (W := 7) rfl (by decide)]
  exact h
theorem way4_8 {p p' : List D} {sh : D} {k m : Nat} {Q : Pst} (hk : k < m) (m20 : m ≤ 20) (h : WB F4 tl4 [.ow p, .fr sh, .fr (.int 8), .fr (.list (((List.range m).map fun _ => bentV k).map D3)), .fr (.int (k : Int)), .un, .un, .un, .un, .un, .un, .un, .un, .un] Q) : WB F4 rest4 [.ow p, .fr sh, .fr (.int 8), .ow ((bentL m).map D3), .fr (.int (k : Int)), .un, .un, .un, .un, .un, .un, .un, .un, .un] Q := by
  unfold rest4
  rw [skip_eq (W := 8) rfl (by decide)]
  rw [skip_eq (W := 8) rfl (by decide)]
  rw [skip_eq (W := 8) rfl (by decide)]
  rw [skip_eq (W := 8) rfl (by decide)]
  rw [skip_eq (W := 8) rfl (by decide)]
  rw [WB_frz]
  simp only [frz_succ, frz_zero, frz_zero_fr]
  rw [skip_eq (W := 8) rfl (by decide)]
  rw [skip_eq (W := 8) rfl (by decide)]
  rw [take_eq (W := 8) rfl, WB_cons]
  have i1 := bent_ix hk
  refine WS_only (P := fun e => e = [.ow p, .fr sh, .fr (.int 8), .ow (((List.range m).map fun _ => bentV k).map D3), .fr (.int (k : Int)), .un, .un, .un, .un, .un, .un, .un, .un, .un]) ?_ ?_
  · clear h
    have em : ((List.range m).map fun _ => bentV k).map D3 = (List.range m).map fun (_ : Nat) => D3 (bentV k) := by rw [List.map_map]; rfl
    rw [em]
    have lc : lcD (fun x => noX ((ixop (.list ((bentL m).map D3)) (.int (k : Int))).bind fun d => R.ok (some d))) ((bentL m).map D3) = .ok (.list ((List.range m).map fun (_ : Nat) => D3 (bentV k))) := by
      rw [i1]
      rw [← bentD]
      exact lcD_map (enc := fun (i : Nat) => D3 (bentV i)) (fun i hi => rfl) (by simp; omega)
    have lfr : lfrees ((List.range m).map fun (_ : Nat) => D3 (bentV k)) = true := lfrees_map fun x => rfl
    rw [i1] at lc
    clear em
    generalize ((List.range m).map fun (_ : Nat) => D3 (bentV k)) = X at *
    generalize (bentL m).map D3 = L at *
    generalize D3 (bentV k) = v at *
    simp only [R.bind_ok, noX_ok] at lc
    simp_arith! only [i1, lc, lfr]
  rintro e rfl
  rw [then_nx, WB_frz]
  simp only [frz_succ, frz_zero, frz_zero_fr]
  rw [WB_nil, then_nx]
  exact h


theorem within_cen {m : Nat} (h : m ∈ [4, 5, 6, 7]) : F_law_within_3 [.list ((bentL m).map D3)] = .ok (D3 (cenQ m)) := by
  unfold F_law_within_3
  refine den_of (· = _) ?_
  unfold m_law_within_3
  simp only [List.mem_cons, List.not_mem_nil, or_false] at h
  rcases h with rfl | rfl | rfl | rfl
  · have e : (bentL 4).map D3 = [T3 0 0 1, T3 1 1 1, T3 2 4 1, T3 3 9 1] := rfl
    rw [e]
    walk_at "ev"
    rfl
  · have e : (bentL 5).map D3 = [T3 0 0 1, T3 1 1 1, T3 2 4 1, T3 3 9 1, T3 4 16 1] := rfl
    rw [e]
    walk_at "ev"
    rfl
  · have e : (bentL 6).map D3 = [T3 0 0 1, T3 1 1 1, T3 2 4 1, T3 3 9 1, T3 4 16 1, T3 5 25 1] := rfl
    rw [e]
    walk_at "ev"
    rfl
  · have e : (bentL 7).map D3 = [T3 0 0 1, T3 1 1 1, T3 2 4 1, T3 3 9 1, T3 4 16 1, T3 5 25 1, T3 6 36 1] := rfl
    rw [e]
    walk_at "ev"
    rfl
theorem st_bd {st : Int × Int} (h : st ∈ STs) : bd 5 st.1 ∧ bd 5 st.2 ∧ 1 ≤ st.1 ∧ 1 ≤ st.2 := by
  simp only [STs, List.mem_cons, List.not_mem_nil, or_false] at h
  rcases h with rfl | rfl | rfl <;> exact ⟨by decide, by decide, by decide, by decide⟩
theorem unsc {x s : Int} (hs : 1 ≤ s) (h : bd 10 (x * s)) : bd 20 x := by
  unfold bd at *
  have : x.natAbs ≤ (x * s).natAbs := by
    rw [Int.natAbs_mul]
    exact Nat.le_mul_of_pos_right _ (by omega)
  omega
theorem unscQ {st : Int × Int} (h : st ∈ STs) {Lq : List V3} (hq : ∀ x ∈ Lq.map (scQ st.1 st.2), V3.bd 10 x ∧ 1 ≤ x.c) : ∀ x ∈ Lq, bd 20 x.a ∧ bd 20 x.b ∧ bd 20 x.c := fun x hx => by
  obtain ⟨_, _, h3, h4⟩ := st_bd h
  obtain ⟨⟨b1, b2, b3⟩, _⟩ := hq _ (List.mem_map_of_mem hx)
  have b3 : bd 10 (x.c * (st.1 * st.2)) := by rw [← Int.mul_assoc]; exact b3
  exact ⟨unsc h3 b1, unsc h4 b2, unsc (by have := Int.mul_pos (show 0 < st.1 by omega) (show 0 < st.2 by omega); omega) b3⟩
theorem spoilt4_ex {s a u : V3} {w : Int} (hs : V3.bd 45 s) (ha : V3.bd 45 a) (hu : V3.bd 45 u) (hw : bd 8 w) (w1 : 1 ≤ w) (nz : ¬ ((cr a u).a = 0 ∧ (cr a u).b = 0 ∧ (cr a u).c = 0)) {ps : List D} (h : PoolB ps) {W : Int} (hW : 0 ≤ W ∧ W ≤ 9) :
    ∃ (Ld ps' : List D), F_law_spoilt_4 [.list ps, DSh s w a u, .int W] = .ok (pairD (.list Ld) (.list ps')) ∧ PoolB ps' ∧ F_made_board [.list Ld] = .exc 4 none := by
  obtain ⟨d0, p0, n0, r0, h0⟩ := next_ex h (b := 4) (by decide) (by decide)
  obtain ⟨d1, p1, n1, r1, h1⟩ := next_ex h0 (b := 4) (by decide) (by decide)
  unfold F_law_spoilt_4
  refine denP_of (fun r => ∃ (Ld ps' : List D), r = .ok (pairD (.list Ld) (.list ps')) ∧ PoolB ps' ∧ F_made_board [.list Ld] = .exc 4 none) (k := 0) (ps := ps) rfl ?_
  have tail : ∀ {Lq : List V3} {st : Int × Int}, st ∈ STs → goodQ (Lq.map (scQ st.1 st.2)) = true → F_made_board [.list ((Lq.map (scQ st.1 st.2)).map fun x => D4 (spAt s w a u x))] = .exc 4 none ∧ Lq.length ≤ 100 ∧ (∀ x ∈ Lq, F_law_spot_2 [DSh s w a u, D3 (scQ st.1 st.2 x)] = .ok (D4 (spAt s w a u (scQ st.1 st.2 x)))) ∧ (∀ x ∈ Lq, bd 20 x.a ∧ bd 20 x.b ∧ bd 20 x.c) := fun {Lq st} hst g => by
    obtain ⟨g1, g2, g3⟩ := good_no hs ha hu hw w1 nz g
    refine ⟨g1, by simp at g3; omega, fun x hx => ?_, unscQ hst g2⟩
    obtain ⟨b1, b2⟩ := g2 _ (List.mem_map_of_mem hx)
    exact spot2_spec hs ha hu hw b1 w1 b2
  by_cases z0 : W = 0
  · subst z0
    obtain ⟨m, hm⟩ : ∃ m : Nat, 9 + d0 = (m : Int) := ⟨(9 + d0).toNat, by omega⟩
    have hmm : m ∈ [9, 10, 11, 12] := by simp; omega
    obtain ⟨kk, p2, n2, r2, h2⟩ := next_ex h1 (b := (m : Int)) (by omega) (by unfold bd; omega)
    obtain ⟨k, rfl⟩ : ∃ k : Nat, kk = (k : Int) := ⟨kk.toNat, by omega⟩
    obtain ⟨j, p3, n3, r3, h3⟩ := next_ex h2 (b := 3) (by decide) (by decide)
    obtain ⟨st, hst, xs⟩ := pick_st r3
    have g := List.all_eq_true.mp (List.all_eq_true.mp good_0 st hst) m hmm
    obtain ⟨t1, t2, t3, t4⟩ := tail hst g
    refine start4 n0 n1 (W := 0) (k := (k : Int)) (m := m) (iB := 0) (b := false) rfl rfl (by rw [hm]; rfl) (by omega) n2 ?_
    refine way4_0 (p' := []) (by omega) (by omega) ?_
    exact tail_4 t2 n3 xs (by decide) t3 t4 ⟨(st_bd hst).1, (st_bd hst).2.1⟩ ⟨_, _, rfl, h3, t1⟩
  obtain ⟨m, hm⟩ : ∃ m : Nat, 4 + d1 = (m : Int) := ⟨(4 + d1).toNat, by omega⟩
  have hmm : m ∈ [4, 5, 6, 7] := by simp; omega
  have m7 : m ≤ 7 ∧ 4 ≤ m := by omega
  obtain ⟨kk, p2, n2, r2, h2⟩ := next_ex h1 (b := (m : Int)) (by omega) (by unfold bd; omega)
  obtain ⟨k, rfl⟩ : ∃ k : Nat, kk = (k : Int) := ⟨kk.toNat, by omega⟩
  have hk : k < m := by omega
  have gt : cop .gt (.int W) (.int 0) = .ok (.bool true) := by rw [cop_gt, decide_eq_true (by omega)]
  refine start4 n0 n1 (W := W) (k := (k : Int)) (m := m) (iB := 1) (b := true) gt rfl (by rw [hm]; rfl) (by omega) n2 ?_
  by_cases z1 : W = 1
  · subst z1
    obtain ⟨jj, p3, n3, r3, h3⟩ := next_ex h2 (b := 3) (by decide) (by decide)
    obtain ⟨jn, rfl⟩ : ∃ jn : Nat, jj = (jn : Int) := ⟨jj.toNat, by omega⟩
    obtain ⟨j, p4, n4, r4, h4⟩ := next_ex h3 (b := 3) (by decide) (by decide)
    obtain ⟨st, hst, xs⟩ := pick_st r4
    have g := List.all_eq_true.mp (List.all_eq_true.mp (List.all_eq_true.mp good_1 st hst) m hmm) jn (by simp; omega)
    obtain ⟨t1, t2, t3, t4⟩ := tail hst g
    exact way4_1 hk (by omega) (by omega) n3 (tail_4 t2 n4 xs (by decide) t3 t4 ⟨(st_bd hst).1, (st_bd hst).2.1⟩ ⟨_, _, rfl, h4, t1⟩)
  by_cases z4 : W = 4
  · subst z4
    obtain ⟨jj, p3, n3, r3, h3⟩ := next_ex h2 (b := (m : Int)) (by omega) (by unfold bd; omega)
    obtain ⟨jn, rfl⟩ : ∃ jn : Nat, jj = (jn : Int) := ⟨jj.toNat, by omega⟩
    obtain ⟨j, p4, n4, r4, h4⟩ := next_ex h3 (b := 3) (by decide) (by decide)
    obtain ⟨st, hst, xs⟩ := pick_st r4
    have g := List.all_eq_true.mp (List.all_eq_true.mp (List.all_eq_true.mp (List.all_eq_true.mp good_4 st hst) m hmm) k (List.mem_range.mpr hk)) jn (List.mem_range.mpr (by omega))
    obtain ⟨t1, t2, t3, t4⟩ := tail hst g
    exact way4_4 hk (by omega) (by omega) n3 (tail_4 t2 n4 xs (by decide) t3 t4 ⟨(st_bd hst).1, (st_bd hst).2.1⟩ ⟨_, _, rfl, h4, t1⟩)
  obtain ⟨j, p3, n3, r3, h3⟩ := next_ex h2 (b := 3) (by decide) (by decide)
  obtain ⟨st, hst, xs⟩ := pick_st r3
  have sb := (st_bd hst)
  rcases (show W = 2 ∨ W = 3 ∨ W = 5 ∨ W = 6 ∨ W = 7 ∨ W = 8 ∨ W = 9 by omega) with rfl | rfl | rfl | rfl | rfl | rfl | rfl
  · have g := List.all_eq_true.mp (List.all_eq_true.mp (List.all_eq_true.mp good_2 st hst) m hmm) k (List.mem_range.mpr hk)
    obtain ⟨t1, t2, t3, t4⟩ := tail hst g
    exact way4_2 (p' := []) hk (by omega) (tail_4 t2 n3 xs (by decide) t3 t4 ⟨sb.1, sb.2.1⟩ ⟨_, _, rfl, h3, t1⟩)
  · have g := List.all_eq_true.mp (List.all_eq_true.mp (List.all_eq_true.mp good_3 st hst) m hmm) k (List.mem_range.mpr hk)
    obtain ⟨t1, t2, t3, t4⟩ := tail hst g
    exact way4_3 (p' := []) hk (by omega) (within_cen hmm) (tail_4 t2 n3 xs (by decide) t3 t4 ⟨sb.1, sb.2.1⟩ ⟨_, _, rfl, h3, t1⟩)
  · have g := List.all_eq_true.mp (List.all_eq_true.mp (List.all_eq_true.mp good_5 st hst) m hmm) k (List.mem_range.mpr hk)
    obtain ⟨t1, t2, t3, t4⟩ := tail hst g
    exact way4_5 (p' := []) hk (by omega) (tail_4 t2 n3 xs (by decide) t3 t4 ⟨sb.1, sb.2.1⟩ ⟨_, _, rfl, h3, t1⟩)
  · have g := List.all_eq_true.mp good_6 st hst
    obtain ⟨t1, t2, t3, t4⟩ := tail hst g
    exact way4_6 (p' := []) hk (by omega) (tail_4 t2 n3 xs (by decide) t3 t4 ⟨sb.1, sb.2.1⟩ ⟨_, _, rfl, h3, t1⟩)
  · have g := List.all_eq_true.mp (List.all_eq_true.mp good_7 st hst) m hmm
    obtain ⟨t1, t2, t3, t4⟩ := tail hst g
    exact way4_7 (p' := []) hk (by omega) (tail_4 t2 n3 xs (by decide) t3 t4 ⟨sb.1, sb.2.1⟩ ⟨_, _, rfl, h3, t1⟩)
  · have g := List.all_eq_true.mp (List.all_eq_true.mp (List.all_eq_true.mp good_8 st hst) m hmm) k (List.mem_range.mpr hk)
    obtain ⟨t1, t2, t3, t4⟩ := tail hst g
    exact way4_8 (p' := []) hk (by omega) (tail_4 t2 n3 xs (by decide) t3 t4 ⟨sb.1, sb.2.1⟩ ⟨_, _, rfl, h3, t1⟩)
  · obtain ⟨t1, hel⟩ := lift_no hs ha hu hw w1 nz hst hmm hk
    have t3 : ∀ x ∈ bentL m, F_law_spot_2 [DSh s w a u, D3 (scQ st.1 st.2 x)] = .ok (D4 (spAt s w a u (scQ st.1 st.2 x))) := fun x hx => by
      obtain ⟨b1, b2⟩ := hel _ (List.mem_map_of_mem hx)
      exact spot2_spec hs ha hu hw b1 w1 b2
    have bk := hel (scQ st.1 st.2 (bentV k)) (List.mem_map_of_mem (List.mem_map.mpr ⟨k, List.mem_range.mpr hk, rfl⟩))
    have lf := lifted_spec (s := s) (w := w) ha hu (spAt_ok (s := s) (a := a) (u := u) w1 bk.2).1 (spAt_bd hs ha hu hw bk.1)
    have ic : ixop (.list ((bentL m).map fun x => D4 (spAt s w a u (scQ st.1 st.2 x)))) (.int (k : Int)) = .ok (D4 (spAt s w a u (scQ st.1 st.2 (bentV k)))) := by
      have : ((bentL m).map fun x => D4 (spAt s w a u (scQ st.1 st.2 x))) = (List.range m).map fun i => D4 (spAt s w a u (scQ st.1 st.2 (bentV i))) := by unfold bentL; rw [List.map_map]; rfl
      rw [this]
      exact ixL_nat (f := fun i => D4 (spAt s w a u (scQ st.1 st.2 (bentV i)))) hk
    rw [List.map_map] at t1
    exact way4_9 (p' := []) hk (by omega) (tail_9 (by unfold bentL; simp; omega) n3 xs (by unfold bentL; simp; exact hk) t3 (unscQ hst hel) ⟨sb.1, sb.2.1⟩ ic lf ⟨_, _, rfl, h3, t1⟩)
theorem refused3_no {w : D} (h : F_made_board [w] = .exc 4 none) : F_law_refused_3 [w] = .ok (.bool true) := by
  have k1 : ∀ x, exFn 4 none x 0 [x, .int 8, .int 5, .int 7, .int 1, .int 3, .int 2, .int 10, .int 9, .int 6] = .ok (.bool false) := fun x => exFn_is
  have k2 : ∀ x, exFn 4 none x 0 [x, .int 4] = .ok (.bool true) := fun x => exFn_is
  have k3 : ∀ x, exFn 4 none x 0 [x, .int 11] = .ok (.bool true) := fun x => exFn_is
  unfold F_law_refused_3
  refine den_of (· = _) ?_
  unfold m_law_refused_3
  walk_at "es"
  refine WB_tryV ?_
  simp_arith! only [h]
  refine ⟨fun _ => ⟨by decide, .bool true, fun x _ => ?_, rfl⟩, fun h => nomatch h⟩
  simp_arith! only [k1, k2, k3, isD_nx, isD_rt]
/-! eight corners make a board -/
theorem bent8_dt : ((List.range 8).all fun i => (List.range 16).all fun j => (List.range 16).all fun k => decide (i < j → j < k → k < i + 8 → 0 < hdI (qAt (bentL 8) i) (qAt (bentL 8) j) (qAt (bentL 8) k))) = true := by decide +kernel
theorem bent8_row {s a u : V3} {w : Int} (hs : V3.bd 45 s) (ha : V3.bd 45 a) (hu : V3.bd 45 u) (hw : bd 8 w) (w1 : 1 ≤ w) (nz : ¬ ((cr a u).a = 0 ∧ (cr a u).b = 0 ∧ (cr a u).c = 0)) :
    Row (shR s w a u) (fun i => ptAt (qAt (bentL 8) i)) (fun i => spAt s w a u (qAt (bentL 8) i)) 8 75 ∧ (∀ x ∈ bentL 8, V3.bd 10 x ∧ 1 ≤ x.c) := by
  have ql : (bentL 8).length = 8 := by unfold bentL; simp
  have hel : ∀ x ∈ bentL 8, V3.bd 10 x ∧ 1 ≤ x.c := fun x hx => by
    obtain ⟨k, hk, rfl⟩ := List.mem_map.mp hx
    have hk := List.mem_range.mp hk
    rcases (show k = 0 ∨ k = 1 ∨ k = 2 ∨ k = 3 ∨ k = 4 ∨ k = 5 ∨ k = 6 ∨ k = 7 by omega) with rfl | rfl | rfl | rfl | rfl | rfl | rfl | rfl <;> exact ⟨⟨by decide, by decide, by decide⟩, by decide⟩
  refine ⟨?_, hel⟩
  have el : ∀ i, V3.bd 10 (qAt (bentL 8) i) ∧ 1 ≤ (qAt (bentL 8) i).c := fun i => by
    have n0 : 0 < (bentL 8).length := by rw [ql]; decide
    generalize bentL 8 = q at *
    have hm : i % q.length < q.length := Nat.mod_lt _ n0
    have e : qAt q i = q[i % q.length] := by
      unfold qAt
      simp [List.getD, hm]
    rw [e]
    exact hel _ (List.getElem_mem hm)
  have per : ∀ i, qAt (bentL 8) (i + 8) = qAt (bentL 8) i := fun i => by unfold qAt; rw [ql, Nat.add_mod_right]
  have md : ∀ i, qAt (bentL 8) i = qAt (bentL 8) (i % 8) := fun i => by unfold qAt; rw [ql, Nat.mod_mod]
  have spo := fun i => spAt_ok (s := s) (a := a) (u := u) w1 (el i).2
  exact
    { n3 := by decide
      n8 := by decide
      per := fun i => by rw [per]
      pper := fun i => by rw [per]
      sp := fun i => (spo i).1
      bd := fun i => spAt_bd hs ha hu hw (el i).1
      at_ := fun i => (spo i).2
      nor := shR_nor nz
      rnd := fun i j k h1 h2 h3 => by
        have e0 := md i
        have ej : qAt (bentL 8) j = qAt (bentL 8) (i % 8 + (j - i)) := by rw [md j, md (i % 8 + (j - i))]; congr 1; omega
        have ek : qAt (bentL 8) k = qAt (bentL 8) (i % 8 + (k - i)) := by rw [md k, md (i % 8 + (k - i))]; congr 1; omega
        rw [e0, ej, ek]
        have hi : i % 8 < 8 := Nat.mod_lt _ (by decide)
        have z := of_decide_eq_true (List.all_eq_true.mp (List.all_eq_true.mp (List.all_eq_true.mp bent8_dt (i % 8) (List.mem_range.mpr hi)) (i % 8 + (j - i)) (List.mem_range.mpr (by omega))) (i % 8 + (k - i)) (List.mem_range.mpr (by omega))) (by omega) (by omega) (by omega)
        have g := hd_dt (el (i % 8)).2 (el (i % 8 + (j - i))).2 (el (i % 8 + (k - i))).2
        have g1 : sgn (hdI (qAt (bentL 8) (i % 8)) (qAt (bentL 8) (i % 8 + (j - i))) (qAt (bentL 8) (i % 8 + (k - i)))) = 1 := by
          rw [sg_int]
          exact sg_one_of (by exact_mod_cast z)
        rw [g1] at g
        exact sg_pos.mp g }
theorem k13_law {ns : List Int} (hl : ns.length ≤ 63) : F_law_49 [Li ns] = .ok (.bool true) := by
  unfold F_law_49
  refine den_of (· = _) ?_
  unfold m_law_49
  walk_at "esl"
  generalize hy : (PyData.int 0 :: ns.map PyData.int : List D) = ys
  obtain ⟨xs, rfl⟩ : ∃ xs : List Int, ys = xs.map PyData.int := ⟨0 :: ns, hy.symm⟩
  clear hy
  refine LP_listQ (xs := xs) (enc := PyData.int) (fun pre e => ∃ a b c d f : Sl, e = [.fr (Li ns), a, b, c, d, f]) ⟨_, _, _, _, _, rfl⟩ ?_ ?_
  · rintro pre cell post e he ⟨a0, b0, c0, d0, f0, rfl⟩
    obtain ⟨ps, sl, hp⟩ := left_ex cell
    obtain ⟨s, w, a, u, p1, s1, h1, hs, ha, hu, w1, hw, nz⟩ := sheet_ex hp
    obtain ⟨row, hel⟩ := bent8_row hs ha hu hw w1 nz
    obtain ⟨r, hr, mb⟩ := made_board_ex row (by decide) (by decide)
    have ql : (bentL 8).length = 8 := by unfold bentL; simp
    have em : ((bentL 8).map fun x => D4 (spAt s w a u x)) = (List.range 8).map fun i => D4 (spAt s w a u (qAt (bentL 8) i)) := by
      have := qAt_map (bentL 8) fun x => D4 (spAt s w a u x)
      rw [ql] at this
      exact this
    rw [← em] at mb
    have b8 : F_law_bent [.int 8] = .ok (.list ((bentL 8).map D3)) := by rw [← bentD]; exact bent_spec (m := 8) (by decide)
    have lc : lcD (fun x => noX ((F_law_spot_2 [DSh s w a u, x]).bind fun d => R.ok (some d))) ((bentL 8).map D3) = .ok (.list ((bentL 8).map fun x => D4 (spAt s w a u x))) :=
      lcD_map (fun x hx => by rw [spot2_spec hs ha hu hw (hel x hx).1 w1 (hel x hx).2, R.bind_ok, noX_ok]) (by rw [ql]; decide)
    have it : iters .seq [.list ((bentL 8).map D3)] = .ok ((bentL 8).map D3) := rfl
    have ln : bi .len [.tuple ((List.range 8).map fun i => D4 (r i))] = .ok (.int 8) := by rw [bi_lenT]; simp
    obtain ⟨e1, q1, n1, r1, g1⟩ := next_ex h1 (b := 9) (by decide) (by decide)
    obtain ⟨e2, q2, n2, r2, g2⟩ := next_ex g1 (b := 9) (by decide) (by decide)
    have sp := fun {ps : List D} (h : PoolB ps) {W : Int} (hW : 0 ≤ W ∧ W ≤ 9) => spoilt4_ex hs ha hu hw w1 nz h hW
    have lfs : lfree (DSh s w a u) = true := rfl
    clear row hel hr em hs ha hu hw w1 nz h1 hp g1
    generalize (bentL 8).map (fun x => D4 (spAt s w a u x)) = B8 at *
    generalize (bentL 8).map D3 = L8 at *
    generalize (List.range 8).map (fun i => D4 (r i)) = T8 at *
    generalize DSh s w a u = sh at *
    have n8 : cop .ne (.int 8) (.int 8) = .ok (.bool false) := rfl
    simp_arith only [sl, s1, lfs]
    refine WS_only (P := fun e => e = [.fr (Li ns), .fr (.int cell), .ow p1, .fr sh, d0, f0]) ?_ ?_
    · simp_arith! only [b8, it, lc, mb, ln, n8]
    rintro e rfl
    rw [then_nx]
    clear b8 it lc mb ln n8 sl s1
    simp_arith only [n1, n2]
    refine LP_listQ (xs := ([0, 1 + e1, 1 + e2, 9] : List Int)) (enc := PyData.int) (fun pre e => ∃ (p : List D) (f : Sl), e = [.fr (Li ns), .fr (.int cell), .ow p, .fr sh, d0, f] ∧ PoolB p) ⟨_, _, rfl, g2⟩ ?_ ?_
    · rintro pre W post e he ⟨p, f, rfl, hp⟩
      have hW : 0 ≤ W ∧ W ≤ 9 := by
        have hm : W ∈ ([0, 1 + e1, 1 + e2, 9] : List Int) := by rw [he]; simp
        simp only [List.mem_cons, List.not_mem_nil, or_false] at hm
        rcases hm with rfl | rfl | rfl | rfl <;> omega
      obtain ⟨Ld, p', q1, q2, q3⟩ := sp hp hW
      have rf := refused3_no q3
      clear sp n1 n2 he hW q3 hp g2
      simp_arith! only [q1, rf]
      exact ⟨_, _, rfl, q2⟩
    · rintro e ⟨p, f, rfl, hp⟩
      clear sp n1 n2
      simp_arith! only []
      exact ⟨_, _, _, _, _, rfl⟩
  · rintro e ⟨a, b, c, d, f, rfl⟩
    walk_at "es"

end Bs
namespace K13
open PySem PySem.Spec L2 Bs
open PyProof.Rows hiding St
def C_divisor : CtS := { N := ["one", "other"], sc := defScope s_divisor, fns := [], bls := BLS, gis := GIS, exs := EXS, exr := EXR, st := true }
theorem sc_divisor : FnScope C_divisor.N ["one", "other"] (defScope s_divisor) := ⟨rfl, rfl, rfl, by decide +kernel, rfl, by decide +kernel, by decide +kernel⟩
theorem ch_divisor : chkSs C_divisor m_divisor (defBody s_divisor) = true := by decide +kernel
def C_stands_first : CtS := { N := ["one", "other", "k", "mine", "yours"], sc := defScope s_stands_first, fns := [], bls := BLS, gis := GIS, exs := EXS, exr := EXR }
theorem sc_stands_first : FnScope C_stands_first.N ["one", "other"] (defScope s_stands_first) := ⟨rfl, rfl, rfl, by decide +kernel, rfl, by decide +kernel, by decide +kernel⟩
theorem ch_stands_first : chkSs C_stands_first m_stands_first (defBody s_stands_first) = true := by decide +kernel
def C_arrow : CtS := { N := ["one", "other"], sc := defScope s_arrow, fns := [], bls := BLS, gis := GIS, exs := EXS, exr := EXR, st := true }
theorem sc_arrow : FnScope C_arrow.N ["one", "other"] (defScope s_arrow) := ⟨rfl, rfl, rfl, by decide +kernel, rfl, by decide +kernel, by decide +kernel⟩
theorem ch_arrow : chkSs C_arrow m_arrow (defBody s_arrow) = true := by decide +kernel
def C_dot : CtS := { N := ["one", "other"], sc := defScope s_dot, fns := [], bls := BLS, gis := GIS, exs := EXS, exr := EXR, st := true }
theorem sc_dot : FnScope C_dot.N ["one", "other"] (defScope s_dot) := ⟨rfl, rfl, rfl, by decide +kernel, rfl, by decide +kernel, by decide +kernel⟩
theorem ch_dot : chkSs C_dot m_dot (defBody s_dot) = true := by decide +kernel
def C_cross : CtS := { N := ["one", "other"], sc := defScope s_cross, fns := [], bls := BLS, gis := GIS, exs := EXS, exr := EXR, st := true }
theorem sc_cross : FnScope C_cross.N ["one", "other"] (defScope s_cross) := ⟨rfl, rfl, rfl, by decide +kernel, rfl, by decide +kernel, by decide +kernel⟩
theorem ch_cross : chkSs C_cross m_cross (defBody s_cross) = true := by decide +kernel
def C_sign_of : CtS := { N := ["number"], sc := defScope s_sign_of, fns := [], bls := BLS, gis := GIS, exs := EXS, exr := EXR }
theorem sc_sign_of : FnScope C_sign_of.N ["number"] (defScope s_sign_of) := ⟨rfl, rfl, rfl, by decide +kernel, rfl, by decide +kernel, by decide +kernel⟩
theorem ch_sign_of : chkSs C_sign_of m_sign_of (defBody s_sign_of) = true := by decide +kernel
def C_made_plane : CtS := { N := ["a", "b", "c", "d", "by"], sc := defScope s_made_plane, fns := [("divisor", 2)], bls := BLS, gis := GIS, exs := EXS, exr := EXR, st := true }
theorem sc_made_plane : FnScope C_made_plane.N ["a", "b", "c", "d"] (defScope s_made_plane) := ⟨rfl, rfl, rfl, by decide +kernel, rfl, by decide +kernel, by decide +kernel⟩
theorem ch_made_plane : chkSs C_made_plane m_made_plane (defBody s_made_plane) = true := by decide +kernel
def C_through_spot : CtS := { N := ["upright", "spot", "w"], sc := defScope s_through_spot, fns := [("made_plane", 4), ("dot", 2)], bls := BLS, gis := GIS, exs := EXS, exr := EXR, st := true }
theorem sc_through_spot : FnScope C_through_spot.N ["upright", "spot"] (defScope s_through_spot) := ⟨rfl, rfl, rfl, by decide +kernel, rfl, by decide +kernel, by decide +kernel⟩
theorem ch_through_spot : chkSs C_through_spot m_through_spot (defBody s_through_spot) = true := by decide +kernel
def C_turned_about : CtS := { N := ["plane"], sc := defScope s_turned_about, fns := [], bls := BLS, gis := GIS, exs := EXS, exr := EXR, st := true }
theorem sc_turned_about : FnScope C_turned_about.N ["plane"] (defScope s_turned_about) := ⟨rfl, rfl, rfl, by decide +kernel, rfl, by decide +kernel, by decide +kernel⟩
theorem ch_turned_about : chkSs C_turned_about m_turned_about (defBody s_turned_about) = true := by decide +kernel
def C_plain_one : CtS := { N := ["plane", "number"], sc := defScope s_plain_one, fns := [("turned_about", 1)], bls := BLS, gis := GIS, exs := EXS, exr := EXR, st := true }
theorem sc_plain_one : FnScope C_plain_one.N ["plane"] (defScope s_plain_one) := ⟨rfl, rfl, rfl, by decide +kernel, rfl, by decide +kernel, by decide +kernel⟩
theorem ch_plain_one : chkSs C_plain_one m_plain_one (defBody s_plain_one) = true := by decide +kernel
def C_plane_through : CtS := { N := ["one", "other", "third"], sc := defScope s_plane_through, fns := [("plain_one", 1), ("through_spot", 2), ("cross", 2), ("arrow", 2)], bls := BLS, gis := GIS, exs := EXS, exr := EXR, st := true }
theorem sc_plane_through : FnScope C_plane_through.N ["one", "other", "third"] (defScope s_plane_through) := ⟨rfl, rfl, rfl, by decide +kernel, rfl, by decide +kernel, by decide +kernel⟩
theorem ch_plane_through : chkSs C_plane_through m_plane_through (defBody s_plane_through) = true := by decide +kernel
def C_height_over : CtS := { N := ["plane", "spot"], sc := defScope s_height_over, fns := [("dot", 2)], bls := BLS, gis := GIS, exs := EXS, exr := EXR }
theorem sc_height_over : FnScope C_height_over.N ["plane", "spot"] (defScope s_height_over) := ⟨rfl, rfl, rfl, by decide +kernel, rfl, by decide +kernel, by decide +kernel⟩
theorem ch_height_over : chkSs C_height_over m_height_over (defBody s_height_over) = true := by decide +kernel
def C_side_of : CtS := { N := ["plane", "spot"], sc := defScope s_side_of, fns := [("sign_of", 1), ("height_over", 2)], bls := BLS, gis := GIS, exs := EXS, exr := EXR }
theorem sc_side_of : FnScope C_side_of.N ["plane", "spot"] (defScope s_side_of) := ⟨rfl, rfl, rfl, by decide +kernel, rfl, by decide +kernel, by decide +kernel⟩
theorem ch_side_of : chkSs C_side_of m_side_of (defBody s_side_of) = true := by decide +kernel
def C_fences : CtS := { N := ["corners", "flat", "found", "k", "corner", "following", "upright"], sc := defScope s_fences, fns := [("plane_through", 3), ("through_spot", 2), ("cross", 2), ("arrow", 2), ("side_of", 2), ("turned_about", 1)], bls := BLS, gis := GIS, exs := EXS, exr := EXR }
theorem sc_fences : FnScope C_fences.N ["corners"] (defScope s_fences) := ⟨rfl, rfl, rfl, by decide +kernel, rfl, by decide +kernel, by decide +kernel⟩
theorem ch_fences : chkSs C_fences m_fences (defBody s_fences) = true := by decide +kernel
def C_is_round : CtS := { N := ["corners", "k", "upright", "ends", "corner"], sc := defScope s_is_round, fns := [("fences", 1), ("side_of", 2)], bls := BLS, gis := GIS, exs := EXS, exr := EXR }
theorem sc_is_round : FnScope C_is_round.N ["corners"] (defScope s_is_round) := ⟨rfl, rfl, rfl, by decide +kernel, rfl, by decide +kernel, by decide +kernel⟩
theorem ch_is_round : chkSs C_is_round m_is_round (defBody s_is_round) = true := by decide +kernel
def C_in_form : CtS := { N := ["corners", "start", "k", "row"], sc := defScope s_in_form, fns := [("stands_first", 2)], bls := BLS, gis := GIS, exs := EXS, exr := EXR }
theorem sc_in_form : FnScope C_in_form.N ["corners"] (defScope s_in_form) := ⟨rfl, rfl, rfl, by decide +kernel, rfl, by decide +kernel, by decide +kernel⟩
theorem ch_in_form : chkSs C_in_form m_in_form (defBody s_in_form) = true := by decide +kernel
def C_made_board : CtS := { N := ["corners", "flat", "corner"], sc := defScope s_made_board, fns := [("plane_through", 3), ("side_of", 2), ("is_round", 1), ("in_form", 1)], bls := BLS, gis := GIS, exs := EXS, exr := EXR, sfns := [(0, "plane_through", 3)] }
theorem sc_made_board : FnScope C_made_board.N ["corners"] (defScope s_made_board) := ⟨rfl, rfl, rfl, by decide +kernel, rfl, by decide +kernel, by decide +kernel⟩
theorem ch_made_board : chkSs C_made_board m_made_board (defBody s_made_board) = true := by decide +kernel
def C_law_next : CtS := { N := ["left", "base", "digit"], sc := defScope s_law_next, fns := [], bls := BLS, gis := GIS, exs := EXS, exr := EXR, kd := 2, pl := 0 }
theorem sc_law_next : FnScope C_law_next.N ["left", "base"] (defScope s_law_next) := ⟨rfl, rfl, rfl, by decide +kernel, rfl, by decide +kernel, by decide +kernel⟩
theorem ch_law_next : chkSs C_law_next m_law_next (defBody s_law_next) = true := by decide +kernel
def C_law_left : CtS := { N := ["cell", "near", "far", "k"], sc := defScope s_law_left, fns := [], bls := BLS, gis := GIS, exs := EXS, exr := EXR, kd := 1 }
theorem sc_law_left : FnScope C_law_left.N ["cell"] (defScope s_law_left) := ⟨rfl, rfl, rfl, by decide +kernel, rfl, by decide +kernel, by decide +kernel⟩
theorem ch_law_left : chkSs C_law_left m_law_left (defBody s_law_left) = true := by decide +kernel
def C_law_divisor_2 : CtS := { N := ["numbers", "found", "number", "other"], sc := defScope s_law_divisor_2, fns := [], bls := BLS, gis := GIS, exs := EXS, exr := EXR }
theorem sc_law_divisor_2 : FnScope C_law_divisor_2.N ["numbers"] (defScope s_law_divisor_2) := ⟨rfl, rfl, rfl, by decide +kernel, rfl, by decide +kernel, by decide +kernel⟩
theorem ch_law_divisor_2 : chkSs C_law_divisor_2 m_law_divisor_2 (defBody s_law_divisor_2) = true := by decide +kernel
def C_law_lowest_2 : CtS := { N := ["numbers", "by", "number"], sc := defScope s_law_lowest_2, fns := [("_law_divisor", 1)], bls := BLS, gis := GIS, exs := EXS, exr := EXR }
theorem sc_law_lowest_2 : FnScope C_law_lowest_2.N ["numbers"] (defScope s_law_lowest_2) := ⟨rfl, rfl, rfl, by decide +kernel, rfl, by decide +kernel, by decide +kernel⟩
theorem ch_law_lowest_2 : chkSs C_law_lowest_2 m_law_lowest_2 (defBody s_law_lowest_2) = true := by decide +kernel
def C_law_cross : CtS := { N := ["one", "other"], sc := defScope s_law_cross, fns := [], bls := BLS, gis := GIS, exs := EXS, exr := EXR }
theorem sc_law_cross : FnScope C_law_cross.N ["one", "other"] (defScope s_law_cross) := ⟨rfl, rfl, rfl, by decide +kernel, rfl, by decide +kernel, by decide +kernel⟩
theorem ch_law_cross : chkSs C_law_cross m_law_cross (defBody s_law_cross) = true := by decide +kernel
def C_law_dot : CtS := { N := ["one", "other", "k"], sc := defScope s_law_dot, fns := [], bls := BLS, gis := GIS, exs := EXS, exr := EXR }
theorem sc_law_dot : FnScope C_law_dot.N ["one", "other"] (defScope s_law_dot) := ⟨rfl, rfl, rfl, by decide +kernel, rfl, by decide +kernel, by decide +kernel⟩
theorem ch_law_dot : chkSs C_law_dot m_law_dot (defBody s_law_dot) = true := by decide +kernel
def C_law_sheet : CtS := { N := ["left", "span", "numbers", "k", "across", "some", "j", "up", "one"], sc := defScope s_law_sheet, fns := [("_law_cross", 2)], bls := BLS, gis := GIS, exs := EXS, exr := EXR, pfns := [(1, "_law_next", 2, 0)], kd := 2, pl := 0 }
theorem sc_law_sheet : FnScope C_law_sheet.N ["left"] (defScope s_law_sheet) := ⟨rfl, rfl, rfl, by decide +kernel, rfl, by decide +kernel, by decide +kernel⟩
theorem ch_law_sheet : chkSs C_law_sheet m_law_sheet (defBody s_law_sheet) = true := by decide +kernel
def C_law_shape : CtS := { N := ["left", "ring", "number", "some", "k", "s", "t", "p", "q", "r"], sc := defScope s_law_shape, fns := [], bls := BLS, gis := GIS, exs := EXS, exr := EXR, pfns := [(0, "_law_next", 2, 0)], kd := 2, pl := 0 }
theorem sc_law_shape : FnScope C_law_shape.N ["left"] (defScope s_law_shape) := ⟨rfl, rfl, rfl, by decide +kernel, rfl, by decide +kernel, by decide +kernel⟩
theorem ch_law_shape : chkSs C_law_shape m_law_shape (defBody s_law_shape) = true := by decide +kernel
def C_law_spot_2 : CtS := { N := ["sheet", "place", "start", "w", "across", "up", "p", "q", "r", "found", "k", "far"], sc := defScope s_law_spot_2, fns := [("_law_lowest", 1)], bls := BLS, gis := GIS, exs := EXS, exr := EXR }
theorem sc_law_spot_2 : FnScope C_law_spot_2.N ["sheet", "place"] (defScope s_law_spot_2) := ⟨rfl, rfl, rfl, by decide +kernel, rfl, by decide +kernel, by decide +kernel⟩
theorem ch_law_spot_2 : chkSs C_law_spot_2 m_law_spot_2 (defBody s_law_spot_2) = true := by decide +kernel
def C_law_first_2 : CtS := { N := ["one", "other", "k"], sc := defScope s_law_first_2, fns := [], bls := BLS, gis := GIS, exs := EXS, exr := EXR }
theorem sc_law_first_2 : FnScope C_law_first_2.N ["one", "other"] (defScope s_law_first_2) := ⟨rfl, rfl, rfl, by decide +kernel, rfl, by decide +kernel, by decide +kernel⟩
theorem ch_law_first_2 : chkSs C_law_first_2 m_law_first_2 (defBody s_law_first_2) = true := by decide +kernel
def C_law_form : CtS := { N := ["spots", "start", "k", "row"], sc := defScope s_law_form, fns := [("_law_first", 2)], bls := BLS, gis := GIS, exs := EXS, exr := EXR }
theorem sc_law_form : FnScope C_law_form.N ["spots"] (defScope s_law_form) := ⟨rfl, rfl, rfl, by decide +kernel, rfl, by decide +kernel, by decide +kernel⟩
theorem ch_law_form : chkSs C_law_form m_law_form (defBody s_law_form) = true := by decide +kernel
def C_law_board : CtS := { N := ["sheet", "shape", "place"], sc := defScope s_law_board, fns := [("_law_form", 1), ("_law_spot", 2)], bls := BLS, gis := GIS, exs := EXS, exr := EXR }
theorem sc_law_board : FnScope C_law_board.N ["sheet", "shape"] (defScope s_law_board) := ⟨rfl, rfl, rfl, by decide +kernel, rfl, by decide +kernel, by decide +kernel⟩
theorem ch_law_board : chkSs C_law_board m_law_board (defBody s_law_board) = true := by decide +kernel
def C_law_bent : CtS := { N := ["many", "k"], sc := defScope s_law_bent, fns := [], bls := BLS, gis := GIS, exs := EXS, exr := EXR, kd := 1 }
theorem sc_law_bent : FnScope C_law_bent.N ["many"] (defScope s_law_bent) := ⟨rfl, rfl, rfl, by decide +kernel, rfl, by decide +kernel, by decide +kernel⟩
theorem ch_law_bent : chkSs C_law_bent m_law_bent (defBody s_law_bent) = true := by decide +kernel
def C_law_within_3 : CtS := { N := ["shape", "place", "j"], sc := defScope s_law_within_3, fns := [], bls := BLS, gis := GIS, exs := EXS, exr := EXR }
theorem sc_law_within_3 : FnScope C_law_within_3.N ["shape"] (defScope s_law_within_3) := ⟨rfl, rfl, rfl, by decide +kernel, rfl, by decide +kernel, by decide +kernel⟩
theorem ch_law_within_3 : chkSs C_law_within_3 m_law_within_3 (defBody s_law_within_3) = true := by decide +kernel
def C_law_lifted_2 : CtS := { N := ["spot", "sheet", "upright", "k"], sc := defScope s_law_lifted_2, fns := [("_law_cross", 2), ("_law_lowest", 1)], bls := BLS, gis := GIS, exs := EXS, exr := EXR }
theorem sc_law_lifted_2 : FnScope C_law_lifted_2.N ["spot", "sheet"] (defScope s_law_lifted_2) := ⟨rfl, rfl, rfl, by decide +kernel, rfl, by decide +kernel, by decide +kernel⟩
theorem ch_law_lifted_2 : chkSs C_law_lifted_2 m_law_lifted_2 (defBody s_law_lifted_2) = true := by decide +kernel
def C_law_spoilt_4 : CtS := { N := ["left", "sheet", "way", "shape", "at", "j", "k", "place", "s", "t", "spots", "p", "q", "r"], sc := defScope s_law_spoilt_4, fns := [("_law_within", 1), ("_law_spot", 2), ("_law_lifted", 2)], bls := BLS, gis := GIS, exs := EXS, exr := EXR, ffns := [(3, "_law_bent", 1)], pfns := [(4, "_law_next", 2, 0)], kd := 2, pl := 0 }
theorem sc_law_spoilt_4 : FnScope C_law_spoilt_4.N ["left", "sheet", "way"] (defScope s_law_spoilt_4) := ⟨rfl, rfl, rfl, by decide +kernel, rfl, by decide +kernel, by decide +kernel⟩
theorem ch_law_spoilt_4 : chkSs C_law_spoilt_4 m_law_spoilt_4 (defBody s_law_spoilt_4) = true := by decide +kernel
def C_law_refused_3 : CtS := { N := ["corners", "error", "e"], sc := defScope s_law_refused_3, fns := [("made_board", 1)], bls := BLS, gis := GIS, exs := EXS, exr := EXR, xqs := true }
theorem sc_law_refused_3 : FnScope C_law_refused_3.N ["corners"] (defScope s_law_refused_3) := ⟨rfl, rfl, rfl, by decide +kernel, rfl, by decide +kernel, by decide +kernel⟩
theorem ch_law_refused_3 : chkSs C_law_refused_3 m_law_refused_3 (defBody s_law_refused_3) = true := by decide +kernel
def C_law_49 : CtS := { N := ["script", "cell", "left", "sheet", "place", "way"], sc := defScope s_law_49, fns := [("made_board", 1), ("_law_spot", 2), ("_law_refused", 1)], bls := BLS, gis := GIS, exs := EXS, exr := EXR, ffns := [(3, "_law_left", 1), (7, "_law_bent", 1)], pfns := [(4, "_law_sheet", 1, 0), (5, "_law_next", 2, 0), (6, "_law_spoilt", 3, 0)] }
theorem sc_law_49 : FnScope C_law_49.N ["script"] (defScope s_law_49) := ⟨rfl, rfl, rfl, by decide +kernel, rfl, by decide +kernel, by decide +kernel⟩
theorem ch_law_49 : chkSs C_law_49 m_law_49 (defBody s_law_49) = true := by decide +kernel
section
variable {P : Program} {w : World} {K : PySem.W.Frag} {mg : Str → Option Value} {base : Heap} {fa : Addr} {fd : FuncData}
abbrev Fn (K : PySem.W.Frag) (d : He.DefD) (fd : FuncData) : Prop := FunD K d.name d.qual d.params d.body d.scope (d.dvs K) (d.kws K) (He.fAd K d.at_) fd
theorem ok_divisor (T : Tp K mg (GsOf K EXS) EXS EXR BLS GIS) (F : Fn K d_divisor fd)  : FnOk P w K mg base (CXf true P w) 1 (He.fAd K d_divisor.at_) fd ["one", "other"] (spD K (GsOf K EXS) 2 F_divisor) :=
  fn_sound (C := C_divisor) (Fs := []) F sc_divisor rfl T calls_nil ch_divisor
theorem bd_divisor (F : Fn K d_divisor fd) : Binds K fd ["one", "other"] [] := FunD.bindsN F fun _ _ _ _ _ _ us hl => match us, hl with | [_, _], _ => rfl
theorem ok_stands_first (T : Tp K mg (GsOf K EXS) EXS EXR BLS GIS) (F : Fn K d_stands_first fd)  : FnOk P w K mg base (CXf false P w) 1 (He.fAd K d_stands_first.at_) fd ["one", "other"] (spD K (GsOf K EXS) 2 F_stands_first) :=
  fn_sound (C := C_stands_first) (Fs := []) F sc_stands_first rfl T calls_nil ch_stands_first
theorem bd_stands_first (F : Fn K d_stands_first fd) : Binds K fd ["one", "other"] [] := FunD.bindsN F fun _ _ _ _ _ _ us hl => match us, hl with | [_, _], _ => rfl
theorem ok_arrow (T : Tp K mg (GsOf K EXS) EXS EXR BLS GIS) (F : Fn K d_arrow fd)  : FnOk P w K mg base (CXf true P w) 1 (He.fAd K d_arrow.at_) fd ["one", "other"] (spD K (GsOf K EXS) 2 F_arrow) :=
  fn_sound (C := C_arrow) (Fs := []) F sc_arrow rfl T calls_nil ch_arrow
theorem bd_arrow (F : Fn K d_arrow fd) : Binds K fd ["one", "other"] [] := FunD.bindsN F fun _ _ _ _ _ _ us hl => match us, hl with | [_, _], _ => rfl
theorem ok_dot (T : Tp K mg (GsOf K EXS) EXS EXR BLS GIS) (F : Fn K d_dot fd)  : FnOk P w K mg base (CXf true P w) 1 (He.fAd K d_dot.at_) fd ["one", "other"] (spD K (GsOf K EXS) 2 F_dot) :=
  fn_sound (C := C_dot) (Fs := []) F sc_dot rfl T calls_nil ch_dot
theorem bd_dot (F : Fn K d_dot fd) : Binds K fd ["one", "other"] [] := FunD.bindsN F fun _ _ _ _ _ _ us hl => match us, hl with | [_, _], _ => rfl
theorem ok_cross (T : Tp K mg (GsOf K EXS) EXS EXR BLS GIS) (F : Fn K d_cross fd)  : FnOk P w K mg base (CXf true P w) 1 (He.fAd K d_cross.at_) fd ["one", "other"] (spD K (GsOf K EXS) 2 F_cross) :=
  fn_sound (C := C_cross) (Fs := []) F sc_cross rfl T calls_nil ch_cross
theorem bd_cross (F : Fn K d_cross fd) : Binds K fd ["one", "other"] [] := FunD.bindsN F fun _ _ _ _ _ _ us hl => match us, hl with | [_, _], _ => rfl
theorem ok_sign_of (T : Tp K mg (GsOf K EXS) EXS EXR BLS GIS) (F : Fn K d_sign_of fd)  : FnOk P w K mg base (CXf false P w) 1 (He.fAd K d_sign_of.at_) fd ["number"] (spD K (GsOf K EXS) 1 F_sign_of) :=
  fn_sound (C := C_sign_of) (Fs := []) F sc_sign_of rfl T calls_nil ch_sign_of
theorem bd_sign_of (F : Fn K d_sign_of fd) : Binds K fd ["number"] [] := FunD.bindsN F fun _ _ _ _ _ _ us hl => match us, hl with | [_], _ => rfl
theorem ok_made_plane (T : Tp K mg (GsOf K EXS) EXS EXR BLS GIS) (F : Fn K d_made_plane fd) (c_divisor : CallD true P w K mg base (GsOf K EXS) 1 F_divisor "divisor" 2) : FnOk P w K mg base (CXf true P w) 2 (He.fAd K d_made_plane.at_) fd ["a", "b", "c", "d"] (spD K (GsOf K EXS) 4 F_made_plane) :=
  fn_sound (C := C_made_plane) (Fs := [F_divisor]) F sc_made_plane rfl T (calls_cons c_divisor (by decide) calls_nil) ch_made_plane
theorem bd_made_plane (F : Fn K d_made_plane fd) : Binds K fd ["a", "b", "c", "d"] [] := FunD.bindsN F fun _ _ _ _ _ _ us hl => match us, hl with | [_, _, _, _], _ => rfl
theorem ok_through_spot (T : Tp K mg (GsOf K EXS) EXS EXR BLS GIS) (F : Fn K d_through_spot fd) (c_made_plane : CallD true P w K mg base (GsOf K EXS) 2 F_made_plane "made_plane" 4) (c_dot : CallD true P w K mg base (GsOf K EXS) 1 F_dot "dot" 2) : FnOk P w K mg base (CXf true P w) 3 (He.fAd K d_through_spot.at_) fd ["upright", "spot"] (spD K (GsOf K EXS) 2 F_through_spot) :=
  fn_sound (C := C_through_spot) (Fs := [F_made_plane, F_dot]) F sc_through_spot rfl T (calls_cons c_made_plane (by decide) (calls_cons c_dot (by decide) calls_nil)) ch_through_spot
theorem bd_through_spot (F : Fn K d_through_spot fd) : Binds K fd ["upright", "spot"] [] := FunD.bindsN F fun _ _ _ _ _ _ us hl => match us, hl with | [_, _], _ => rfl
theorem ok_turned_about (T : Tp K mg (GsOf K EXS) EXS EXR BLS GIS) (F : Fn K d_turned_about fd)  : FnOk P w K mg base (CXf true P w) 1 (He.fAd K d_turned_about.at_) fd ["plane"] (spD K (GsOf K EXS) 1 F_turned_about) :=
  fn_sound (C := C_turned_about) (Fs := []) F sc_turned_about rfl T calls_nil ch_turned_about
theorem bd_turned_about (F : Fn K d_turned_about fd) : Binds K fd ["plane"] [] := FunD.bindsN F fun _ _ _ _ _ _ us hl => match us, hl with | [_], _ => rfl
theorem ok_plain_one (T : Tp K mg (GsOf K EXS) EXS EXR BLS GIS) (F : Fn K d_plain_one fd) (c_turned_about : CallD true P w K mg base (GsOf K EXS) 1 F_turned_about "turned_about" 1) : FnOk P w K mg base (CXf true P w) 2 (He.fAd K d_plain_one.at_) fd ["plane"] (spD K (GsOf K EXS) 1 F_plain_one) :=
  fn_sound (C := C_plain_one) (Fs := [F_turned_about]) F sc_plain_one rfl T (calls_cons c_turned_about (by decide) calls_nil) ch_plain_one
theorem bd_plain_one (F : Fn K d_plain_one fd) : Binds K fd ["plane"] [] := FunD.bindsN F fun _ _ _ _ _ _ us hl => match us, hl with | [_], _ => rfl
theorem ok_plane_through (T : Tp K mg (GsOf K EXS) EXS EXR BLS GIS) (F : Fn K d_plane_through fd) (c_plain_one : CallD true P w K mg base (GsOf K EXS) 2 F_plain_one "plain_one" 1) (c_through_spot : CallD true P w K mg base (GsOf K EXS) 3 F_through_spot "through_spot" 2) (c_cross : CallD true P w K mg base (GsOf K EXS) 1 F_cross "cross" 2) (c_arrow : CallD true P w K mg base (GsOf K EXS) 1 F_arrow "arrow" 2) : FnOk P w K mg base (CXf true P w) 4 (He.fAd K d_plane_through.at_) fd ["one", "other", "third"] (spD K (GsOf K EXS) 3 F_plane_through) :=
  fn_sound (C := C_plane_through) (Fs := [F_plain_one, F_through_spot, F_cross, F_arrow]) F sc_plane_through rfl T (calls_cons c_plain_one (by decide) (calls_cons c_through_spot (by decide) (calls_cons c_cross (by decide) (calls_cons c_arrow (by decide) calls_nil)))) ch_plane_through
theorem bd_plane_through (F : Fn K d_plane_through fd) : Binds K fd ["one", "other", "third"] [] := FunD.bindsN F fun _ _ _ _ _ _ us hl => match us, hl with | [_, _, _], _ => rfl
theorem ok_height_over (T : Tp K mg (GsOf K EXS) EXS EXR BLS GIS) (F : Fn K d_height_over fd) (c_dot : CallD true P w K mg base (GsOf K EXS) 1 F_dot "dot" 2) : FnOk P w K mg base (CXf false P w) 2 (He.fAd K d_height_over.at_) fd ["plane", "spot"] (spD K (GsOf K EXS) 2 F_height_over) :=
  fn_sound (C := C_height_over) (Fs := [F_dot]) F sc_height_over rfl T (calls_cons (CallD.weak c_dot) (by decide) calls_nil) ch_height_over
theorem bd_height_over (F : Fn K d_height_over fd) : Binds K fd ["plane", "spot"] [] := FunD.bindsN F fun _ _ _ _ _ _ us hl => match us, hl with | [_, _], _ => rfl
theorem ok_side_of (T : Tp K mg (GsOf K EXS) EXS EXR BLS GIS) (F : Fn K d_side_of fd) (c_sign_of : CallD false P w K mg base (GsOf K EXS) 1 F_sign_of "sign_of" 1) (c_height_over : CallD false P w K mg base (GsOf K EXS) 2 F_height_over "height_over" 2) : FnOk P w K mg base (CXf false P w) 3 (He.fAd K d_side_of.at_) fd ["plane", "spot"] (spD K (GsOf K EXS) 2 F_side_of) :=
  fn_sound (C := C_side_of) (Fs := [F_sign_of, F_height_over]) F sc_side_of rfl T (calls_cons c_sign_of (by decide) (calls_cons c_height_over (by decide) calls_nil)) ch_side_of
theorem bd_side_of (F : Fn K d_side_of fd) : Binds K fd ["plane", "spot"] [] := FunD.bindsN F fun _ _ _ _ _ _ us hl => match us, hl with | [_, _], _ => rfl
theorem ok_fences (T : Tp K mg (GsOf K EXS) EXS EXR BLS GIS) (F : Fn K d_fences fd) (c_plane_through : CallD true P w K mg base (GsOf K EXS) 4 F_plane_through "plane_through" 3) (c_through_spot : CallD true P w K mg base (GsOf K EXS) 3 F_through_spot "through_spot" 2) (c_cross : CallD true P w K mg base (GsOf K EXS) 1 F_cross "cross" 2) (c_arrow : CallD true P w K mg base (GsOf K EXS) 1 F_arrow "arrow" 2) (c_side_of : CallD false P w K mg base (GsOf K EXS) 3 F_side_of "side_of" 2) (c_turned_about : CallD true P w K mg base (GsOf K EXS) 1 F_turned_about "turned_about" 1) : FnOk P w K mg base (CXf false P w) 5 (He.fAd K d_fences.at_) fd ["corners"] (spD K (GsOf K EXS) 1 F_fences) :=
  fn_sound (C := C_fences) (Fs := [F_plane_through, F_through_spot, F_cross, F_arrow, F_side_of, F_turned_about]) F sc_fences rfl T (calls_cons (CallD.weak c_plane_through) (by decide) (calls_cons (CallD.weak c_through_spot) (by decide) (calls_cons (CallD.weak c_cross) (by decide) (calls_cons (CallD.weak c_arrow) (by decide) (calls_cons c_side_of (by decide) (calls_cons (CallD.weak c_turned_about) (by decide) calls_nil)))))) ch_fences
theorem bd_fences (F : Fn K d_fences fd) : Binds K fd ["corners"] [] := FunD.bindsN F fun _ _ _ _ _ _ us hl => match us, hl with | [_], _ => rfl
theorem ok_is_round (T : Tp K mg (GsOf K EXS) EXS EXR BLS GIS) (F : Fn K d_is_round fd) (c_fences : CallD false P w K mg base (GsOf K EXS) 5 F_fences "fences" 1) (c_side_of : CallD false P w K mg base (GsOf K EXS) 3 F_side_of "side_of" 2) : FnOk P w K mg base (CXf false P w) 6 (He.fAd K d_is_round.at_) fd ["corners"] (spD K (GsOf K EXS) 1 F_is_round) :=
  fn_sound (C := C_is_round) (Fs := [F_fences, F_side_of]) F sc_is_round rfl T (calls_cons c_fences (by decide) (calls_cons c_side_of (by decide) calls_nil)) ch_is_round
theorem bd_is_round (F : Fn K d_is_round fd) : Binds K fd ["corners"] [] := FunD.bindsN F fun _ _ _ _ _ _ us hl => match us, hl with | [_], _ => rfl
theorem ok_in_form (T : Tp K mg (GsOf K EXS) EXS EXR BLS GIS) (F : Fn K d_in_form fd) (c_stands_first : CallD false P w K mg base (GsOf K EXS) 1 F_stands_first "stands_first" 2) : FnOk P w K mg base (CXf false P w) 2 (He.fAd K d_in_form.at_) fd ["corners"] (spD K (GsOf K EXS) 1 F_in_form) :=
  fn_sound (C := C_in_form) (Fs := [F_stands_first]) F sc_in_form rfl T (calls_cons c_stands_first (by decide) calls_nil) ch_in_form
theorem bd_in_form (F : Fn K d_in_form fd) : Binds K fd ["corners"] [] := FunD.bindsN F fun _ _ _ _ _ _ us hl => match us, hl with | [_], _ => rfl
theorem ok_made_board (T : Tp K mg (GsOf K EXS) EXS EXR BLS GIS) (F : Fn K d_made_board fd) (c_plane_through : CallD true P w K mg base (GsOf K EXS) 4 F_plane_through "plane_through" 3) (c_side_of : CallD false P w K mg base (GsOf K EXS) 3 F_side_of "side_of" 2) (c_is_round : CallD false P w K mg base (GsOf K EXS) 6 F_is_round "is_round" 1) (c_in_form : CallD false P w K mg base (GsOf K EXS) 2 F_in_form "in_form" 1) : FnOk P w K mg base (CXf false P w) 7 (He.fAd K d_made_board.at_) fd ["corners"] (spD K (GsOf K EXS) 1 F_made_board) :=
  fn_sound (C := C_made_board) (Fs := [F_plane_through, F_side_of, F_is_round, F_in_form]) F sc_made_board rfl T (calls_cons (CallD.weak c_plane_through) (by decide) (calls_cons c_side_of (by decide) (calls_cons c_is_round (by decide) (calls_cons c_in_form (by decide) calls_nil)))) ch_made_board (sf := (scalls_cons c_plane_through (by decide) rfl scalls_nil))
theorem bd_made_board (F : Fn K d_made_board fd) : Binds K fd ["corners"] [] := FunD.bindsN F fun _ _ _ _ _ _ us hl => match us, hl with | [_], _ => rfl
theorem ok_law_next (T : Tp K mg (GsOf K EXS) EXS EXR BLS GIS) (F : Fn K d_law_next fd)  : FnOk P w K mg base (CXf false P w) 1 (He.fAd K d_law_next.at_) fd ["left", "base"] (spP K 2 0 F_law_next) :=
  fn_soundP (C := C_law_next) (Fs := []) F sc_law_next rfl T calls_nil ch_law_next
theorem bd_law_next (F : Fn K d_law_next fd) : Binds K fd ["left", "base"] [] := FunD.bindsN F fun _ _ _ _ _ _ us hl => match us, hl with | [_, _], _ => rfl
theorem ok_law_left (T : Tp K mg (GsOf K EXS) EXS EXR BLS GIS) (F : Fn K d_law_left fd)  : FnOk P w K mg base (CXf false P w) 1 (He.fAd K d_law_left.at_) fd ["cell"] (spF K (GsOf K EXS) 1 F_law_left) :=
  fn_soundF (C := C_law_left) (Fs := []) F sc_law_left rfl T calls_nil ch_law_left
theorem bd_law_left (F : Fn K d_law_left fd) : Binds K fd ["cell"] [] := FunD.bindsN F fun _ _ _ _ _ _ us hl => match us, hl with | [_], _ => rfl
theorem ok_law_divisor_2 (T : Tp K mg (GsOf K EXS) EXS EXR BLS GIS) (F : Fn K d_law_divisor_2 fd)  : FnOk P w K mg base (CXf false P w) 1 (He.fAd K d_law_divisor_2.at_) fd ["numbers"] (spD K (GsOf K EXS) 1 F_law_divisor_2) :=
  fn_sound (C := C_law_divisor_2) (Fs := []) F sc_law_divisor_2 rfl T calls_nil ch_law_divisor_2
theorem bd_law_divisor_2 (F : Fn K d_law_divisor_2 fd) : Binds K fd ["numbers"] [] := FunD.bindsN F fun _ _ _ _ _ _ us hl => match us, hl with | [_], _ => rfl
theorem ok_law_lowest_2 (T : Tp K mg (GsOf K EXS) EXS EXR BLS GIS) (F : Fn K d_law_lowest_2 fd) (c_law_divisor_2 : CallD false P w K mg base (GsOf K EXS) 1 F_law_divisor_2 "_law_divisor" 1) : FnOk P w K mg base (CXf false P w) 2 (He.fAd K d_law_lowest_2.at_) fd ["numbers"] (spD K (GsOf K EXS) 1 F_law_lowest_2) :=
  fn_sound (C := C_law_lowest_2) (Fs := [F_law_divisor_2]) F sc_law_lowest_2 rfl T (calls_cons c_law_divisor_2 (by decide) calls_nil) ch_law_lowest_2
theorem bd_law_lowest_2 (F : Fn K d_law_lowest_2 fd) : Binds K fd ["numbers"] [] := FunD.bindsN F fun _ _ _ _ _ _ us hl => match us, hl with | [_], _ => rfl
theorem ok_law_cross (T : Tp K mg (GsOf K EXS) EXS EXR BLS GIS) (F : Fn K d_law_cross fd)  : FnOk P w K mg base (CXf false P w) 1 (He.fAd K d_law_cross.at_) fd ["one", "other"] (spD K (GsOf K EXS) 2 F_law_cross) :=
  fn_sound (C := C_law_cross) (Fs := []) F sc_law_cross rfl T calls_nil ch_law_cross
theorem bd_law_cross (F : Fn K d_law_cross fd) : Binds K fd ["one", "other"] [] := FunD.bindsN F fun _ _ _ _ _ _ us hl => match us, hl with | [_, _], _ => rfl
theorem ok_law_dot (T : Tp K mg (GsOf K EXS) EXS EXR BLS GIS) (F : Fn K d_law_dot fd)  : FnOk P w K mg base (CXf false P w) 1 (He.fAd K d_law_dot.at_) fd ["one", "other"] (spD K (GsOf K EXS) 2 F_law_dot) :=
  fn_sound (C := C_law_dot) (Fs := []) F sc_law_dot rfl T calls_nil ch_law_dot
theorem bd_law_dot (F : Fn K d_law_dot fd) : Binds K fd ["one", "other"] [] := FunD.bindsN F fun _ _ _ _ _ _ us hl => match us, hl with | [_, _], _ => rfl
theorem ok_law_sheet (T : Tp K mg (GsOf K EXS) EXS EXR BLS GIS) (F : Fn K d_law_sheet fd) (c_law_cross : CallD false P w K mg base (GsOf K EXS) 1 F_law_cross "_law_cross" 2) (c_law_next : CallPD false P w K mg base 1 F_law_next "_law_next" 2 0) : FnOk P w K mg base (CXf false P w) 2 (He.fAd K d_law_sheet.at_) fd ["left"] (spP K 1 0 F_law_sheet) :=
  fn_soundP (C := C_law_sheet) (Fs := [F_law_cross, F_law_next]) F sc_law_sheet rfl T (calls_cons c_law_cross (by decide) calls_nil) ch_law_sheet (pf := (pcalls_cons c_law_next (by decide) rfl pcalls_nil))
theorem bd_law_sheet (F : Fn K d_law_sheet fd) : Binds K fd ["left"] [] := FunD.bindsN F fun _ _ _ _ _ _ us hl => match us, hl with | [_], _ => rfl
theorem ok_law_shape (T : Tp K mg (GsOf K EXS) EXS EXR BLS GIS) (F : Fn K d_law_shape fd) (c_law_next : CallPD false P w K mg base 1 F_law_next "_law_next" 2 0) : FnOk P w K mg base (CXf false P w) 2 (He.fAd K d_law_shape.at_) fd ["left"] (spP K 1 0 F_law_shape) :=
  fn_soundP (C := C_law_shape) (Fs := [F_law_next]) F sc_law_shape rfl T calls_nil ch_law_shape (pf := (pcalls_cons c_law_next (by decide) rfl pcalls_nil))
theorem bd_law_shape (F : Fn K d_law_shape fd) : Binds K fd ["left"] [] := FunD.bindsN F fun _ _ _ _ _ _ us hl => match us, hl with | [_], _ => rfl
theorem ok_law_spot_2 (T : Tp K mg (GsOf K EXS) EXS EXR BLS GIS) (F : Fn K d_law_spot_2 fd) (c_law_lowest_2 : CallD false P w K mg base (GsOf K EXS) 2 F_law_lowest_2 "_law_lowest" 1) : FnOk P w K mg base (CXf false P w) 3 (He.fAd K d_law_spot_2.at_) fd ["sheet", "place"] (spD K (GsOf K EXS) 2 F_law_spot_2) :=
  fn_sound (C := C_law_spot_2) (Fs := [F_law_lowest_2]) F sc_law_spot_2 rfl T (calls_cons c_law_lowest_2 (by decide) calls_nil) ch_law_spot_2
theorem bd_law_spot_2 (F : Fn K d_law_spot_2 fd) : Binds K fd ["sheet", "place"] [] := FunD.bindsN F fun _ _ _ _ _ _ us hl => match us, hl with | [_, _], _ => rfl
theorem ok_law_first_2 (T : Tp K mg (GsOf K EXS) EXS EXR BLS GIS) (F : Fn K d_law_first_2 fd)  : FnOk P w K mg base (CXf false P w) 1 (He.fAd K d_law_first_2.at_) fd ["one", "other"] (spD K (GsOf K EXS) 2 F_law_first_2) :=
  fn_sound (C := C_law_first_2) (Fs := []) F sc_law_first_2 rfl T calls_nil ch_law_first_2
theorem bd_law_first_2 (F : Fn K d_law_first_2 fd) : Binds K fd ["one", "other"] [] := FunD.bindsN F fun _ _ _ _ _ _ us hl => match us, hl with | [_, _], _ => rfl
theorem ok_law_form (T : Tp K mg (GsOf K EXS) EXS EXR BLS GIS) (F : Fn K d_law_form fd) (c_law_first_2 : CallD false P w K mg base (GsOf K EXS) 1 F_law_first_2 "_law_first" 2) : FnOk P w K mg base (CXf false P w) 2 (He.fAd K d_law_form.at_) fd ["spots"] (spD K (GsOf K EXS) 1 F_law_form) :=
  fn_sound (C := C_law_form) (Fs := [F_law_first_2]) F sc_law_form rfl T (calls_cons c_law_first_2 (by decide) calls_nil) ch_law_form
theorem bd_law_form (F : Fn K d_law_form fd) : Binds K fd ["spots"] [] := FunD.bindsN F fun _ _ _ _ _ _ us hl => match us, hl with | [_], _ => rfl
theorem ok_law_board (T : Tp K mg (GsOf K EXS) EXS EXR BLS GIS) (F : Fn K d_law_board fd) (c_law_form : CallD false P w K mg base (GsOf K EXS) 2 F_law_form "_law_form" 1) (c_law_spot_2 : CallD false P w K mg base (GsOf K EXS) 3 F_law_spot_2 "_law_spot" 2) : FnOk P w K mg base (CXf false P w) 4 (He.fAd K d_law_board.at_) fd ["sheet", "shape"] (spD K (GsOf K EXS) 2 F_law_board) :=
  fn_sound (C := C_law_board) (Fs := [F_law_form, F_law_spot_2]) F sc_law_board rfl T (calls_cons c_law_form (by decide) (calls_cons c_law_spot_2 (by decide) calls_nil)) ch_law_board
theorem bd_law_board (F : Fn K d_law_board fd) : Binds K fd ["sheet", "shape"] [] := FunD.bindsN F fun _ _ _ _ _ _ us hl => match us, hl with | [_, _], _ => rfl
theorem ok_law_bent (T : Tp K mg (GsOf K EXS) EXS EXR BLS GIS) (F : Fn K d_law_bent fd)  : FnOk P w K mg base (CXf false P w) 1 (He.fAd K d_law_bent.at_) fd ["many"] (spF K (GsOf K EXS) 1 F_law_bent) :=
  fn_soundF (C := C_law_bent) (Fs := []) F sc_law_bent rfl T calls_nil ch_law_bent
theorem bd_law_bent (F : Fn K d_law_bent fd) : Binds K fd ["many"] [] := FunD.bindsN F fun _ _ _ _ _ _ us hl => match us, hl with | [_], _ => rfl
theorem ok_law_within_3 (T : Tp K mg (GsOf K EXS) EXS EXR BLS GIS) (F : Fn K d_law_within_3 fd)  : FnOk P w K mg base (CXf false P w) 1 (He.fAd K d_law_within_3.at_) fd ["shape"] (spD K (GsOf K EXS) 1 F_law_within_3) :=
  fn_sound (C := C_law_within_3) (Fs := []) F sc_law_within_3 rfl T calls_nil ch_law_within_3
theorem bd_law_within_3 (F : Fn K d_law_within_3 fd) : Binds K fd ["shape"] [] := FunD.bindsN F fun _ _ _ _ _ _ us hl => match us, hl with | [_], _ => rfl
theorem ok_law_lifted_2 (T : Tp K mg (GsOf K EXS) EXS EXR BLS GIS) (F : Fn K d_law_lifted_2 fd) (c_law_cross : CallD false P w K mg base (GsOf K EXS) 1 F_law_cross "_law_cross" 2) (c_law_lowest_2 : CallD false P w K mg base (GsOf K EXS) 2 F_law_lowest_2 "_law_lowest" 1) : FnOk P w K mg base (CXf false P w) 3 (He.fAd K d_law_lifted_2.at_) fd ["spot", "sheet"] (spD K (GsOf K EXS) 2 F_law_lifted_2) :=
  fn_sound (C := C_law_lifted_2) (Fs := [F_law_cross, F_law_lowest_2]) F sc_law_lifted_2 rfl T (calls_cons c_law_cross (by decide) (calls_cons c_law_lowest_2 (by decide) calls_nil)) ch_law_lifted_2
theorem bd_law_lifted_2 (F : Fn K d_law_lifted_2 fd) : Binds K fd ["spot", "sheet"] [] := FunD.bindsN F fun _ _ _ _ _ _ us hl => match us, hl with | [_, _], _ => rfl
theorem ok_law_spoilt_4 (T : Tp K mg (GsOf K EXS) EXS EXR BLS GIS) (F : Fn K d_law_spoilt_4 fd) (c_law_within_3 : CallD false P w K mg base (GsOf K EXS) 1 F_law_within_3 "_law_within" 1) (c_law_spot_2 : CallD false P w K mg base (GsOf K EXS) 3 F_law_spot_2 "_law_spot" 2) (c_law_lifted_2 : CallD false P w K mg base (GsOf K EXS) 3 F_law_lifted_2 "_law_lifted" 2) (c_law_bent : CallFD false P w K mg base (GsOf K EXS) 1 F_law_bent "_law_bent" 1) (c_law_next : CallPD false P w K mg base 1 F_law_next "_law_next" 2 0) : FnOk P w K mg base (CXf false P w) 4 (He.fAd K d_law_spoilt_4.at_) fd ["left", "sheet", "way"] (spP K 3 0 F_law_spoilt_4) :=
  fn_soundP (C := C_law_spoilt_4) (Fs := [F_law_within_3, F_law_spot_2, F_law_lifted_2, F_law_bent, F_law_next]) F sc_law_spoilt_4 rfl T (calls_cons c_law_within_3 (by decide) (calls_cons c_law_spot_2 (by decide) (calls_cons c_law_lifted_2 (by decide) calls_nil))) ch_law_spoilt_4 (ff := (fcalls_cons c_law_bent (by decide) rfl fcalls_nil)) (pf := (pcalls_cons c_law_next (by decide) rfl pcalls_nil))
theorem bd_law_spoilt_4 (F : Fn K d_law_spoilt_4 fd) : Binds K fd ["left", "sheet", "way"] [] := FunD.bindsN F fun _ _ _ _ _ _ us hl => match us, hl with | [_, _, _], _ => rfl
theorem ok_law_refused_3 (T : Tp K mg (GsOf K EXS) EXS EXR BLS GIS) (F : Fn K d_law_refused_3 fd) (c_made_board : CallD false P w K mg base (GsOf K EXS) 7 F_made_board "made_board" 1) (XQ : XqF K (GsOf K EXS)) : FnOk P w K mg base (CXf false P w) 8 (He.fAd K d_law_refused_3.at_) fd ["corners"] (spD K (GsOf K EXS) 1 F_law_refused_3) :=
  fn_sound (C := C_law_refused_3) (Fs := [F_made_board]) F sc_law_refused_3 rfl T (calls_cons c_made_board (by decide) calls_nil) ch_law_refused_3 (xq := fun _ => XQ)
theorem bd_law_refused_3 (F : Fn K d_law_refused_3 fd) : Binds K fd ["corners"] [] := FunD.bindsN F fun _ _ _ _ _ _ us hl => match us, hl with | [_], _ => rfl
theorem ok_law_49 (T : Tp K mg (GsOf K EXS) EXS EXR BLS GIS) (F : Fn K d_law_49 fd) (c_made_board : CallD false P w K mg base (GsOf K EXS) 7 F_made_board "made_board" 1) (c_law_spot_2 : CallD false P w K mg base (GsOf K EXS) 3 F_law_spot_2 "_law_spot" 2) (c_law_refused_3 : CallD false P w K mg base (GsOf K EXS) 8 F_law_refused_3 "_law_refused" 1) (c_law_left : CallFD false P w K mg base (GsOf K EXS) 1 F_law_left "_law_left" 1) (c_law_bent : CallFD false P w K mg base (GsOf K EXS) 1 F_law_bent "_law_bent" 1) (c_law_sheet : CallPD false P w K mg base 2 F_law_sheet "_law_sheet" 1 0) (c_law_next : CallPD false P w K mg base 1 F_law_next "_law_next" 2 0) (c_law_spoilt_4 : CallPD false P w K mg base 4 F_law_spoilt_4 "_law_spoilt" 3 0) : FnOk P w K mg base (CXf false P w) 9 (He.fAd K d_law_49.at_) fd ["script"] (spD K (GsOf K EXS) 1 F_law_49) :=
  fn_sound (C := C_law_49) (Fs := [F_made_board, F_law_spot_2, F_law_refused_3, F_law_left, F_law_sheet, F_law_next, F_law_spoilt_4, F_law_bent]) F sc_law_49 rfl T (calls_cons c_made_board (by decide) (calls_cons c_law_spot_2 (by decide) (calls_cons c_law_refused_3 (by decide) calls_nil))) ch_law_49 (ff := (fcalls_cons c_law_left (by decide) rfl (fcalls_cons c_law_bent (by decide) rfl fcalls_nil))) (pf := (pcalls_cons c_law_sheet (by decide) rfl (pcalls_cons c_law_next (by decide) rfl (pcalls_cons c_law_spoilt_4 (by decide) rfl pcalls_nil))))
theorem bd_law_49 (F : Fn K d_law_49 fd) : Binds K fd ["script"] [] := FunD.bindsN F fun _ _ _ _ _ _ us hl => match us, hl with | [_], _ => rfl
end
theorem facts {P : Program} {w : World} {K : PySem.W.Frag} {h : Heap} {mg : Str → Option Value} (X : K.In h) (Gn : h.Ns mainGlobals mg) (c : He.SaysD fa fn K) (cx : EXB K = true) :
    ∃ fd : FuncData, (∀ (s : Shared) (v : Value), BindsTo s fd ⟨[v], []⟩ [("script", v)]) ∧ ∀ base : Heap, FnOk P w K mg base (L2.CX P w) 9 (He.fAd K d_law_49.at_) fd ["script"] (spD K (GsOf K EXS) 1 F_law_49) := by
  obtain ⟨T, g⟩ := tp_of (fn := fn) c X Gn
  obtain ⟨fd_divisor, D_divisor⟩ := c.def_ 0 (d := d_divisor) rfl
  obtain ⟨fd_stands_first, D_stands_first⟩ := c.def_ 1 (d := d_stands_first) rfl
  obtain ⟨fd_arrow, D_arrow⟩ := c.def_ 2 (d := d_arrow) rfl
  obtain ⟨fd_dot, D_dot⟩ := c.def_ 3 (d := d_dot) rfl
  obtain ⟨fd_cross, D_cross⟩ := c.def_ 4 (d := d_cross) rfl
  obtain ⟨fd_sign_of, D_sign_of⟩ := c.def_ 5 (d := d_sign_of) rfl
  obtain ⟨fd_made_plane, D_made_plane⟩ := c.def_ 6 (d := d_made_plane) rfl
  obtain ⟨fd_through_spot, D_through_spot⟩ := c.def_ 7 (d := d_through_spot) rfl
  obtain ⟨fd_turned_about, D_turned_about⟩ := c.def_ 8 (d := d_turned_about) rfl
  obtain ⟨fd_plain_one, D_plain_one⟩ := c.def_ 9 (d := d_plain_one) rfl
  obtain ⟨fd_plane_through, D_plane_through⟩ := c.def_ 10 (d := d_plane_through) rfl
  obtain ⟨fd_height_over, D_height_over⟩ := c.def_ 11 (d := d_height_over) rfl
  obtain ⟨fd_side_of, D_side_of⟩ := c.def_ 12 (d := d_side_of) rfl
  obtain ⟨fd_fences, D_fences⟩ := c.def_ 13 (d := d_fences) rfl
  obtain ⟨fd_is_round, D_is_round⟩ := c.def_ 14 (d := d_is_round) rfl
  obtain ⟨fd_in_form, D_in_form⟩ := c.def_ 15 (d := d_in_form) rfl
  obtain ⟨fd_made_board, D_made_board⟩ := c.def_ 16 (d := d_made_board) rfl
  obtain ⟨fd_law_next, D_law_next⟩ := c.def_ 17 (d := d_law_next) rfl
  obtain ⟨fd_law_left, D_law_left⟩ := c.def_ 18 (d := d_law_left) rfl
  obtain ⟨fd_law_divisor_2, D_law_divisor_2⟩ := c.def_ 19 (d := d_law_divisor_2) rfl
  obtain ⟨fd_law_lowest_2, D_law_lowest_2⟩ := c.def_ 20 (d := d_law_lowest_2) rfl
  obtain ⟨fd_law_cross, D_law_cross⟩ := c.def_ 21 (d := d_law_cross) rfl
  obtain ⟨fd_law_dot, D_law_dot⟩ := c.def_ 22 (d := d_law_dot) rfl
  obtain ⟨fd_law_sheet, D_law_sheet⟩ := c.def_ 23 (d := d_law_sheet) rfl
  obtain ⟨fd_law_shape, D_law_shape⟩ := c.def_ 24 (d := d_law_shape) rfl
  obtain ⟨fd_law_spot_2, D_law_spot_2⟩ := c.def_ 25 (d := d_law_spot_2) rfl
  obtain ⟨fd_law_first_2, D_law_first_2⟩ := c.def_ 26 (d := d_law_first_2) rfl
  obtain ⟨fd_law_form, D_law_form⟩ := c.def_ 27 (d := d_law_form) rfl
  obtain ⟨fd_law_board, D_law_board⟩ := c.def_ 28 (d := d_law_board) rfl
  obtain ⟨fd_law_bent, D_law_bent⟩ := c.def_ 29 (d := d_law_bent) rfl
  obtain ⟨fd_law_within_3, D_law_within_3⟩ := c.def_ 30 (d := d_law_within_3) rfl
  obtain ⟨fd_law_lifted_2, D_law_lifted_2⟩ := c.def_ 31 (d := d_law_lifted_2) rfl
  obtain ⟨fd_law_spoilt_4, D_law_spoilt_4⟩ := c.def_ 32 (d := d_law_spoilt_4) rfl
  obtain ⟨fd_law_refused_3, D_law_refused_3⟩ := c.def_ 33 (d := d_law_refused_3) rfl
  obtain ⟨fd_law_49, D_law_49⟩ := c.def_ 34 (d := d_law_49) rfl
  have cx1 := cx
  have XQ : XqF K (GsOf K EXS) := xqF_of cx1
  refine ⟨fd_law_49, fun s v => FunD.bindsA (ps := ["script"]) D_law_49 (fun _ _ _ _ _ _ us hl => match us, hl with | [_], _ => rfl) s [v] rfl, fun base => ?_⟩
  have o_divisor := ok_divisor (P := P) (w := w) (base := base) T D_divisor 
  have c_divisor : CallD true P w K mg base (GsOf K EXS) 1 F_divisor "divisor" 2 := CallD.full o_divisor (g "divisor" (List.mem_of_getElem? (i := 0) rfl)) D_divisor.kp (bd_divisor D_divisor)
  have o_stands_first := ok_stands_first (P := P) (w := w) (base := base) T D_stands_first 
  have c_stands_first : CallD false P w K mg base (GsOf K EXS) 1 F_stands_first "stands_first" 2 := CallD.full o_stands_first (g "stands_first" (List.mem_of_getElem? (i := 1) rfl)) D_stands_first.kp (bd_stands_first D_stands_first)
  have o_arrow := ok_arrow (P := P) (w := w) (base := base) T D_arrow 
  have c_arrow : CallD true P w K mg base (GsOf K EXS) 1 F_arrow "arrow" 2 := CallD.full o_arrow (g "arrow" (List.mem_of_getElem? (i := 2) rfl)) D_arrow.kp (bd_arrow D_arrow)
  have o_dot := ok_dot (P := P) (w := w) (base := base) T D_dot 
  have c_dot : CallD true P w K mg base (GsOf K EXS) 1 F_dot "dot" 2 := CallD.full o_dot (g "dot" (List.mem_of_getElem? (i := 3) rfl)) D_dot.kp (bd_dot D_dot)
  have o_cross := ok_cross (P := P) (w := w) (base := base) T D_cross 
  have c_cross : CallD true P w K mg base (GsOf K EXS) 1 F_cross "cross" 2 := CallD.full o_cross (g "cross" (List.mem_of_getElem? (i := 4) rfl)) D_cross.kp (bd_cross D_cross)
  have o_sign_of := ok_sign_of (P := P) (w := w) (base := base) T D_sign_of 
  have c_sign_of : CallD false P w K mg base (GsOf K EXS) 1 F_sign_of "sign_of" 1 := CallD.full o_sign_of (g "sign_of" (List.mem_of_getElem? (i := 5) rfl)) D_sign_of.kp (bd_sign_of D_sign_of)
  have o_made_plane := ok_made_plane (P := P) (w := w) (base := base) T D_made_plane c_divisor
  have c_made_plane : CallD true P w K mg base (GsOf K EXS) 2 F_made_plane "made_plane" 4 := CallD.full o_made_plane (g "made_plane" (List.mem_of_getElem? (i := 6) rfl)) D_made_plane.kp (bd_made_plane D_made_plane)
  have o_through_spot := ok_through_spot (P := P) (w := w) (base := base) T D_through_spot c_made_plane c_dot
  have c_through_spot : CallD true P w K mg base (GsOf K EXS) 3 F_through_spot "through_spot" 2 := CallD.full o_through_spot (g "through_spot" (List.mem_of_getElem? (i := 7) rfl)) D_through_spot.kp (bd_through_spot D_through_spot)
  have o_turned_about := ok_turned_about (P := P) (w := w) (base := base) T D_turned_about 
  have c_turned_about : CallD true P w K mg base (GsOf K EXS) 1 F_turned_about "turned_about" 1 := CallD.full o_turned_about (g "turned_about" (List.mem_of_getElem? (i := 8) rfl)) D_turned_about.kp (bd_turned_about D_turned_about)
  have o_plain_one := ok_plain_one (P := P) (w := w) (base := base) T D_plain_one c_turned_about
  have c_plain_one : CallD true P w K mg base (GsOf K EXS) 2 F_plain_one "plain_one" 1 := CallD.full o_plain_one (g "plain_one" (List.mem_of_getElem? (i := 9) rfl)) D_plain_one.kp (bd_plain_one D_plain_one)
  have o_plane_through := ok_plane_through (P := P) (w := w) (base := base) T D_plane_through c_plain_one c_through_spot c_cross c_arrow
  have c_plane_through : CallD true P w K mg base (GsOf K EXS) 4 F_plane_through "plane_through" 3 := CallD.full o_plane_through (g "plane_through" (List.mem_of_getElem? (i := 10) rfl)) D_plane_through.kp (bd_plane_through D_plane_through)
  have o_height_over := ok_height_over (P := P) (w := w) (base := base) T D_height_over c_dot
  have c_height_over : CallD false P w K mg base (GsOf K EXS) 2 F_height_over "height_over" 2 := CallD.full o_height_over (g "height_over" (List.mem_of_getElem? (i := 11) rfl)) D_height_over.kp (bd_height_over D_height_over)
  have o_side_of := ok_side_of (P := P) (w := w) (base := base) T D_side_of c_sign_of c_height_over
  have c_side_of : CallD false P w K mg base (GsOf K EXS) 3 F_side_of "side_of" 2 := CallD.full o_side_of (g "side_of" (List.mem_of_getElem? (i := 12) rfl)) D_side_of.kp (bd_side_of D_side_of)
  have o_fences := ok_fences (P := P) (w := w) (base := base) T D_fences c_plane_through c_through_spot c_cross c_arrow c_side_of c_turned_about
  have c_fences : CallD false P w K mg base (GsOf K EXS) 5 F_fences "fences" 1 := CallD.full o_fences (g "fences" (List.mem_of_getElem? (i := 13) rfl)) D_fences.kp (bd_fences D_fences)
  have o_is_round := ok_is_round (P := P) (w := w) (base := base) T D_is_round c_fences c_side_of
  have c_is_round : CallD false P w K mg base (GsOf K EXS) 6 F_is_round "is_round" 1 := CallD.full o_is_round (g "is_round" (List.mem_of_getElem? (i := 14) rfl)) D_is_round.kp (bd_is_round D_is_round)
  have o_in_form := ok_in_form (P := P) (w := w) (base := base) T D_in_form c_stands_first
  have c_in_form : CallD false P w K mg base (GsOf K EXS) 2 F_in_form "in_form" 1 := CallD.full o_in_form (g "in_form" (List.mem_of_getElem? (i := 15) rfl)) D_in_form.kp (bd_in_form D_in_form)
  have o_made_board := ok_made_board (P := P) (w := w) (base := base) T D_made_board c_plane_through c_side_of c_is_round c_in_form
  have c_made_board : CallD false P w K mg base (GsOf K EXS) 7 F_made_board "made_board" 1 := CallD.full o_made_board (g "made_board" (List.mem_of_getElem? (i := 16) rfl)) D_made_board.kp (bd_made_board D_made_board)
  have o_law_next := ok_law_next (P := P) (w := w) (base := base) T D_law_next 
  have c_law_next : CallPD false P w K mg base 1 F_law_next "_law_next" 2 0 := CallPD.full o_law_next (g "_law_next" (List.mem_of_getElem? (i := 17) rfl)) D_law_next.kp (bd_law_next D_law_next)
  have o_law_left := ok_law_left (P := P) (w := w) (base := base) T D_law_left 
  have c_law_left : CallFD false P w K mg base (GsOf K EXS) 1 F_law_left "_law_left" 1 := CallFD.full o_law_left (g "_law_left" (List.mem_of_getElem? (i := 18) rfl)) D_law_left.kp (bd_law_left D_law_left)
  have o_law_divisor_2 := ok_law_divisor_2 (P := P) (w := w) (base := base) T D_law_divisor_2 
  have c_law_divisor_2 : CallD false P w K mg base (GsOf K EXS) 1 F_law_divisor_2 "_law_divisor" 1 := CallD.full o_law_divisor_2 (g "_law_divisor" (List.mem_of_getElem? (i := 19) rfl)) D_law_divisor_2.kp (bd_law_divisor_2 D_law_divisor_2)
  have o_law_lowest_2 := ok_law_lowest_2 (P := P) (w := w) (base := base) T D_law_lowest_2 c_law_divisor_2
  have c_law_lowest_2 : CallD false P w K mg base (GsOf K EXS) 2 F_law_lowest_2 "_law_lowest" 1 := CallD.full o_law_lowest_2 (g "_law_lowest" (List.mem_of_getElem? (i := 20) rfl)) D_law_lowest_2.kp (bd_law_lowest_2 D_law_lowest_2)
  have o_law_cross := ok_law_cross (P := P) (w := w) (base := base) T D_law_cross 
  have c_law_cross : CallD false P w K mg base (GsOf K EXS) 1 F_law_cross "_law_cross" 2 := CallD.full o_law_cross (g "_law_cross" (List.mem_of_getElem? (i := 21) rfl)) D_law_cross.kp (bd_law_cross D_law_cross)
  have o_law_dot := ok_law_dot (P := P) (w := w) (base := base) T D_law_dot 
  have o_law_sheet := ok_law_sheet (P := P) (w := w) (base := base) T D_law_sheet c_law_cross c_law_next
  have c_law_sheet : CallPD false P w K mg base 2 F_law_sheet "_law_sheet" 1 0 := CallPD.full o_law_sheet (g "_law_sheet" (List.mem_of_getElem? (i := 23) rfl)) D_law_sheet.kp (bd_law_sheet D_law_sheet)
  have o_law_shape := ok_law_shape (P := P) (w := w) (base := base) T D_law_shape c_law_next
  have o_law_spot_2 := ok_law_spot_2 (P := P) (w := w) (base := base) T D_law_spot_2 c_law_lowest_2
  have c_law_spot_2 : CallD false P w K mg base (GsOf K EXS) 3 F_law_spot_2 "_law_spot" 2 := CallD.full o_law_spot_2 (g "_law_spot" (List.mem_of_getElem? (i := 25) rfl)) D_law_spot_2.kp (bd_law_spot_2 D_law_spot_2)
  have o_law_first_2 := ok_law_first_2 (P := P) (w := w) (base := base) T D_law_first_2 
  have c_law_first_2 : CallD false P w K mg base (GsOf K EXS) 1 F_law_first_2 "_law_first" 2 := CallD.full o_law_first_2 (g "_law_first" (List.mem_of_getElem? (i := 26) rfl)) D_law_first_2.kp (bd_law_first_2 D_law_first_2)
  have o_law_form := ok_law_form (P := P) (w := w) (base := base) T D_law_form c_law_first_2
  have c_law_form : CallD false P w K mg base (GsOf K EXS) 2 F_law_form "_law_form" 1 := CallD.full o_law_form (g "_law_form" (List.mem_of_getElem? (i := 27) rfl)) D_law_form.kp (bd_law_form D_law_form)
  have o_law_board := ok_law_board (P := P) (w := w) (base := base) T D_law_board c_law_form c_law_spot_2
  have o_law_bent := ok_law_bent (P := P) (w := w) (base := base) T D_law_bent 
  have c_law_bent : CallFD false P w K mg base (GsOf K EXS) 1 F_law_bent "_law_bent" 1 := CallFD.full o_law_bent (g "_law_bent" (List.mem_of_getElem? (i := 29) rfl)) D_law_bent.kp (bd_law_bent D_law_bent)
  have o_law_within_3 := ok_law_within_3 (P := P) (w := w) (base := base) T D_law_within_3 
  have c_law_within_3 : CallD false P w K mg base (GsOf K EXS) 1 F_law_within_3 "_law_within" 1 := CallD.full o_law_within_3 (g "_law_within" (List.mem_of_getElem? (i := 30) rfl)) D_law_within_3.kp (bd_law_within_3 D_law_within_3)
  have o_law_lifted_2 := ok_law_lifted_2 (P := P) (w := w) (base := base) T D_law_lifted_2 c_law_cross c_law_lowest_2
  have c_law_lifted_2 : CallD false P w K mg base (GsOf K EXS) 3 F_law_lifted_2 "_law_lifted" 2 := CallD.full o_law_lifted_2 (g "_law_lifted" (List.mem_of_getElem? (i := 31) rfl)) D_law_lifted_2.kp (bd_law_lifted_2 D_law_lifted_2)
  have o_law_spoilt_4 := ok_law_spoilt_4 (P := P) (w := w) (base := base) T D_law_spoilt_4 c_law_within_3 c_law_spot_2 c_law_lifted_2 c_law_bent c_law_next
  have c_law_spoilt_4 : CallPD false P w K mg base 4 F_law_spoilt_4 "_law_spoilt" 3 0 := CallPD.full o_law_spoilt_4 (g "_law_spoilt" (List.mem_of_getElem? (i := 32) rfl)) D_law_spoilt_4.kp (bd_law_spoilt_4 D_law_spoilt_4)
  have o_law_refused_3 := ok_law_refused_3 (P := P) (w := w) (base := base) T D_law_refused_3 c_made_board XQ
  have c_law_refused_3 : CallD false P w K mg base (GsOf K EXS) 8 F_law_refused_3 "_law_refused" 1 := CallD.full o_law_refused_3 (g "_law_refused" (List.mem_of_getElem? (i := 33) rfl)) D_law_refused_3.kp (bd_law_refused_3 D_law_refused_3)
  have o_law_49 := ok_law_49 (P := P) (w := w) (base := base) T D_law_49 c_made_board c_law_spot_2 c_law_refused_3 c_law_left c_law_bent c_law_sheet c_law_next c_law_spoilt_4
  exact o_law_49
end K13
open PySem PySem.W PySem.Calls PyProof.Rows in
theorem K13.holds_of (hf : ∀ ns : List Int, ns.length ≤ 63 → (∀ k ∈ ns, Bs.bd 1048576 k) → Bs.F_law_49 [.list (ns.map PyData.int)] = .ok (.bool true)) : PySem.Challenge.rw_boardsight_k13_boards_refused.Holds := by
  w_on; o_law
  refine HandSHeadRun.head_any (r := OpenLaw.row PySem.Challenge.rw_boardsight_k13_boards_refused) (q := view (OpenLaw.row PySem.Challenge.rw_boardsight_k13_boards_refused).prog [53]) (H := K13.hk) (ob := K13.ob) (M := 4000) (loose := K13.loose) (d := HandSHeadRun.topDef (OpenLaw.row PySem.Challenge.rw_boardsight_k13_boards_refused).prog 53) (kwd := []) K13.ob_eq
    (by kernel_rfl) (fun s => by kernel_rfl) K13.run (by kernel_rfl) (by kernel_rfl) (by kernel_rfl) (by rfl) (by first | assumption | decide +kernel) (by decide +kernel) ⟨rfl, rfl, rfl, rfl, rfl, by decide +kernel⟩ ?hw ?hc
  case hw => w_witness2
  case hc =>
    refine Bs.law_walk (l := PySem.Challenge.rw_boardsight_k13_boards_refused) (n := 63) (k := 9) (x := "script") rfl (by decide) (by kernel_rfl) ⟨rfl, by decide, by decide⟩ ?F hf
    intro w mg fa h Y Gn hmg0
    obtain ⟨K, KX, c, cx⟩ := Y
    have e : (HandSHeadRun.topDef (OpenLaw.row PySem.Challenge.rw_boardsight_k13_boards_refused).prog 53).name = ("law" : PySem.Str) := by kernel_rfl
    rw [e] at hmg0
    obtain ⟨T, g⟩ := Bs.tp_of (fn := K13.fn) c KX Gn
    have e2 := hmg0.symm.trans (g "law" (List.mem_of_getElem? (i := 34) rfl))
    cases e2
    obtain ⟨fd, hb, hF⟩ := K13.facts (P := (PySem.Challenge.rw_boardsight_k13_boards_refused).prog) (w := w) KX Gn c cx
    exact ⟨K, Bs.GsOf K K13.EXS, fd, KX, hb, fun base _ _ => hF base⟩
set_option maxRecDepth 100000 in
set_option maxHeartbeats 8000000 in
theorem PySem.Challenge.cw_boardsight_k13_boards_refused_holds : PySem.Challenge.rw_boardsight_k13_boards_refused.Holds := by
  exact K13.holds_of fun ns hl hb => Bs.k13_law hl
