import PyProof.Rows.All
import Wide.All
import OpenK.AllK
import Wide.FinOn
import HandS.ForMost
import HandS.ForExc
import HandS.Wide
import HandS.Deep
import HandS.IsInst
import HandS.Walk
import HandS.Flow
import HandS.Defaults
import HandS.TupAny
import HandS.HeadHook2
import HandS.Head2
import HandS.MakeKw
import HandS.HeadEnd
import PySem.Challenge.RW_boardsight_k04_spots_made
set_option Elab.async false
set_option linter.all false
set_option maxHeartbeats 4000000
set_option maxRecDepth 100000
/-! A small language over the hand layer: its syntax, what it computes, and that the machine does just this. -/
namespace Bs
open PySem PySem.Spec L2
open PyProof.Rows hiding St

/-! ### heaps with some addresses hidden -/
abbrev D := PyData
def cut (H : Hp) (O : List Addr) : Hp := fun a => if a ∈ O then none else H a
theorem cut_some {H : Hp} {O : List Addr} {a : Addr} {o : HO} (h : cut H O a = some o) : H a = some o ∧ a ∉ O := by
  unfold cut at h
  split at h
  · cases h
  · exact ⟨h, by assumption⟩
theorem cut_of {H : Hp} {O : List Addr} {a : Addr} {o : HO} (h : H a = some o) (n : a ∉ O) : cut H O a = some o := by
  unfold cut
  rw [if_neg n]
  exact h
theorem cut_same {H H' : Hp} {O : List Addr} (e : Same H H') : Same (cut H O) (cut H' O) := fun a o h => cut_of (e a o (cut_some h).1) (cut_some h).2
theorem cut_le {H : Hp} {O : List Addr} : Same (cut H O) H := fun a o h => (cut_some h).1
theorem cut_sub {H : Hp} {O O' : List Addr} (h : ∀ a ∈ O, a ∈ O') : Same (cut H O') (cut H O) := fun a o e => cut_of (cut_some e).1 fun m => (cut_some e).2 (h a m)
theorem Same.new {H : Hp} {p : Addr} {o : HO} (h : H p = none) : Same H (upd H p o) := fun a u e => by
  rw [upd_ne (ne_of_none e h)]
  exact e
def Alloc (O : List Addr) (H : Hp) : Prop := ∀ p ∈ O, ∃ o, H p = some o
theorem Alloc.mono {O : List Addr} {H H' : Hp} (a : Alloc O H) (e : Same H H') : Alloc O H' := fun p hp => let ⟨o, h⟩ := a p hp; ⟨o, e p o h⟩
theorem Alloc.out {O : List Addr} {H : Hp} {p : Addr} (a : Alloc O H) (h : H p = none) : p ∉ O := fun m => by
  obtain ⟨o, e⟩ := a p m
  rw [h] at e
  cases e
theorem rd_mono {H H' : Hp} {a : Addr} {u : HO} (e : Same H H') (h : Rd H a u) : Rd H' a u := by
  rcases h with h | ⟨o, h⟩
  · exact .inl (e _ _ h)
  · exact .inr ⟨o, e _ _ h⟩
theorem sqL_mono {K : PySem.W.Frag} {H H' : Hp} {a : Addr} {xs : List V} (e : Same H H') (h : SqL K H a xs) : SqL K H' a xs := h.elim (fun h => .inl (rd_mono e h)) .inr
theorem sqT_mono {K : PySem.W.Frag} {H H' : Hp} {a : Addr} {xs : List V} (e : Same H H') (h : SqT K H a xs) : SqT K H' a xs := h.elim (fun h => .inl (rd_mono e h)) .inr
mutual
/-- a value stands for data: lists tracked or locked, tuples of any origin -/
inductive Dq (K : PySem.W.Frag) (H : Hp) : V → PyData → Prop
  | non : Dq K H .non .none
  | bl (b : Bool) : Dq K H (.bl b) (.bool b)
  | int (i : Int) : Dq K H (.int i) (.int i)
  | str (x : Str) : Dq K H (.str x) (.str x)
  | lst {a : Addr} {xs : List V} {ds : List PyData} : SqL K H a xs → DqAll K H xs ds → Dq K H (.ref a) (.list ds)
  | tup {a : Addr} {xs : List V} {ds : List PyData} : SqT K H a xs → DqAll K H xs ds → Dq K H (.ref a) (.tuple ds)
inductive DqAll (K : PySem.W.Frag) (H : Hp) : List V → List PyData → Prop
  | nil : DqAll K H [] []
  | cons {v : V} {vs : List V} {d : PyData} {ds : List PyData} : Dq K H v d → DqAll K H vs ds → DqAll K H (v :: vs) (d :: ds)
end
mutual
theorem dq_dp {K : PySem.W.Frag} {H : Hp} : ∀ (d : D) (v : V), Dq K H v d → Dp K H v d
  | .none, _, h => by cases h; exact .non
  | .bool _, _, h => by cases h; exact .bl _
  | .int _, _, h => by cases h; exact .int _
  | .str _, _, h => by cases h; exact .str _
  | .list ds, _, h => by
    cases h with
    | lst hs ha => exact .lst hs (dqs_dps ds _ ha)
  | .tuple ds, _, h => by
    cases h with
    | tup hs ha => exact .tup hs (dqs_dps ds _ ha)
  | .dict _, _, h => by cases h
theorem dqs_dps {K : PySem.W.Frag} {H : Hp} : ∀ (ds : List D) (vs : List V), DqAll K H vs ds → DpAll K H vs ds
  | [], _, h => by cases h; exact .nil
  | d :: ds, _, h => by
    cases h with
    | cons h1 h2 => exact .cons (dq_dp d _ h1) (dqs_dps ds _ h2)
end
mutual
theorem dp_mono {K : PySem.W.Frag} {H H' : Hp} (e : Same H H') : ∀ (d : D) (v : V), Dq K H v d → Dq K H' v d
  | .none, _, h => by cases h; exact .non
  | .bool _, _, h => by cases h; exact .bl _
  | .int _, _, h => by cases h; exact .int _
  | .str _, _, h => by cases h; exact .str _
  | .list ds, _, h => by
    cases h with
    | lst hs ha => exact .lst (sqL_mono e hs) (dps_mono e ds _ ha)
  | .tuple ds, _, h => by
    cases h with
    | tup hs ha => exact .tup (sqT_mono e hs) (dps_mono e ds _ ha)
  | .dict _, _, h => by cases h
theorem dps_mono {K : PySem.W.Frag} {H H' : Hp} (e : Same H H') : ∀ (ds : List D) (vs : List V), DqAll K H vs ds → DqAll K H' vs ds
  | [], _, h => by cases h; exact .nil
  | d :: ds, _, h => by
    cases h with
    | cons h1 h2 => exact .cons (dp_mono e d _ h1) (dps_mono e ds _ h2)
end
theorem dps_len {K : PySem.W.Frag} {H : Hp} : ∀ {vs : List V} {ds : List D}, DqAll K H vs ds → vs.length = ds.length
  | _, _, .nil => rfl
  | _, _, .cons _ t => congrArg Nat.succ (dps_len t)
theorem dps_get {K : PySem.W.Frag} {H : Hp} : ∀ {vs : List V} {ds : List D} {i : Nat} {d : D}, DqAll K H vs ds → ds[i]? = some d → ∃ v, vs[i]? = some v ∧ Dq K H v d
  | _, _, _, _, .nil, e => by simp at e
  | _, _, 0, d, .cons r _, e => by simp at e; subst e; exact ⟨_, rfl, r⟩
  | _, _, i + 1, d, .cons _ t, e => by
    obtain ⟨v, h1, h2⟩ := dps_get (i := i) (d := d) t (by simpa using e)
    exact ⟨v, by simpa using h1, h2⟩
theorem dps_app {K : PySem.W.Frag} {H : Hp} : ∀ {vs ws : List V} {ds es : List D}, DqAll K H vs ds → DqAll K H ws es → DqAll K H (vs ++ ws) (ds ++ es)
  | _, _, _, _, .nil, s => s
  | _, _, _, _, .cons r t, s => .cons r (dps_app t s)
theorem dps_take {K : PySem.W.Frag} {H : Hp} : ∀ {vs : List V} {ds : List D} (n : Nat), DqAll K H vs ds → DqAll K H (vs.take n) (ds.take n)
  | _, _, 0, _ => .nil
  | _, _, _ + 1, .nil => .nil
  | _, _, n + 1, .cons r t => .cons r (dps_take n t)
theorem dps_drop {K : PySem.W.Frag} {H : Hp} : ∀ {vs : List V} {ds : List D} (n : Nat), DqAll K H vs ds → DqAll K H (vs.drop n) (ds.drop n)
  | _, _, 0, r => r
  | _, _, _ + 1, .nil => .nil
  | _, _, n + 1, .cons _ t => dps_drop n t
theorem dps_set {K : PySem.W.Frag} {H : Hp} {v : V} {d : D} (r : Dq K H v d) : ∀ {vs : List V} {ds : List D} (i : Nat), DqAll K H vs ds → DqAll K H (vs.set i v) (ds.set i d)
  | _, _, _, .nil => .nil
  | _, _, 0, .cons _ t => .cons r t
  | _, _, i + 1, .cons q t => .cons q (dps_set r i t)
theorem dps_ints {K : PySem.W.Frag} {H : Hp} : ∀ ns : List Int, DqAll K H (ns.map V.int) (ns.map PyData.int)
  | [] => .nil
  | n :: ns => .cons (.int n) (dps_ints ns)

/-! ### what comes of a run -/
inductive R (α : Type) where
  | stuck | ok (a : α) | exc (c : Nat) (p : Option Int)
def R.bind {α β : Type} : R α → (α → R β) → R β
  | .stuck, _ => .stuck
  | .ok a, f => f a
  | .exc c p, _ => .exc c p
@[simp] theorem R.bind_ok {α β : Type} (a : α) (f : α → R β) : (R.ok a).bind f = f a := rfl
@[simp] theorem R.bind_stuck {α β : Type} (f : α → R β) : (R.stuck : R α).bind f = .stuck := rfl
@[simp] theorem R.bind_exc {α β : Type} (c : Nat) (p : Option Int) (f : α → R β) : (R.exc c p : R α).bind f = .exc c p := rfl

/-- the classes of the exceptions by number, their fields -/
structure Gs where
  has : Nat → Bool
  ex : Nat → Addr
  fld : Nat → Str
def exR (G : Gs) (c : Nat) (p : Option Int) (cls : Value) (dd : Option Addr) (H : Hp) : Prop :=
  G.has c = true ∧ cls = .ref (G.ex c) ∧ ((p = none ∧ dd = none) ∨ ∃ i d, p = some i ∧ dd = some d ∧ H d = some (.xd [(G.fld c, .int i)]))
/-- what is wanted of a run's end at σ, H -/
def Post {α β : Type} (rep : Hp → β → α → Prop) (G : Gs) (σ : St) (H : Hp) (W : WX) (Q : β → Hp → Prop) : R α → Prop
  | .stuck => False
  | .ok d => ∀ v H', Same H H' → rep H' v d → Q v H'
  | .exc c p => ∀ cls dd H', Same H H' → exR G c p cls dd H' → W cls dd σ H'
section
variable {α β γ δ : Type} {rep : Hp → β → α → Prop} {rep' : Hp → δ → γ → Prop} {G : Gs} {σ : St} {H H1 : Hp} {W : WX} {Q Q' : β → Hp → Prop} {Q2 : δ → Hp → Prop} {r : R α}
theorem Post.up (s : Same H H1) (h : Post rep G σ H W Q r) : Post rep G σ H1 W Q r := by
  cases r with
  | stuck => exact h
  | ok d => exact fun v H' e p => h v H' (s.trans e) p
  | exc c p => exact fun cls dd H' e x => h cls dd H' (s.trans e) x
theorem Post.imp (h : Post rep G σ H W Q r) (i : ∀ v H', Same H H' → Q v H' → Q' v H') : Post rep G σ H W Q' r := by
  cases r with
  | stuck => exact h
  | ok d => exact fun v H' e p => i v H' e (h v H' e p)
  | exc c p => exact h
theorem Post.bind {f : α → R γ} (h : Post rep' G σ H W Q2 (r.bind f)) : Post rep G σ H W (fun v H1 => Same H H1 ∧ ∃ d, rep H1 v d ∧ Post rep' G σ H1 W Q2 (f d)) r := by
  cases r with
  | stuck => exact h
  | ok d => exact fun v H' e p => ⟨e, d, p, Post.up e h⟩
  | exc c p => exact h
end

/-! ### environments -/
abbrev Env := List (Option D)
abbrev dp (K : PySem.W.Frag) (O : List Addr) : Hp → V → D → Prop := fun H v d => Dq K (cut H O) v d
abbrev dps (K : PySem.W.Frag) (O : List Addr) : Hp → List V → List D → Prop := fun H vs ds => DqAll K (cut H O) vs ds

theorem pe_imp {X : Cx} {e : Expr} {t t' : TE} (h : PE X e t) (i : ∀ σ H Q, t' σ H Q → t σ H Q) : PE X e t' := ⟨fun pins s σ H Q I hw => h.run pins s σ H Q I (i σ H Q hw)⟩
theorem pa_imp {X : Cx} {e : List Expr} {t t' : TA} (h : PA X e t) (i : ∀ σ H Q, t' σ H Q → t σ H Q) : PA X e t' := ⟨fun pos pins s σ H Q I hw => h.run pos pins s σ H Q I (i σ H Q hw)⟩
theorem pt_imp {X : Cx} {e : Expr} {t t' : TT} (h : PT X e t) (i : ∀ σ H Q, t' σ H Q → t σ H Q) : PT X e t' := ⟨fun pins s σ H Q I hw => h.run pins s σ H Q I (i σ H Q hw)⟩
theorem pw_imp {X : Cx} {e : Expr} {t t' : TT} (h : PW X e t) (i : ∀ σ H Q, t' σ H Q → t σ H Q) : PW X e t' := ⟨fun wh pins s σ H Q I hw => h.run wh pins s σ H Q I (i σ H Q hw)⟩
theorem ps_imp {X : Cx} {e : Stmt} {t t' : TS} (h : PS X e t) (i : ∀ D σ H, t' D σ H → t D σ H) : PS X e t' := ⟨fun pins s σ H D I hw => h.run pins s σ H D I (i D σ H hw)⟩
theorem pss_imp {X : Cx} {e : List Stmt} {t t' : TS} (h : PSs X e t) (i : ∀ D σ H, t' D σ H → t D σ H) : PSs X e t' := ⟨fun pins s σ H D I hw => h.run pins s σ H D I (i D σ H hw)⟩
theorem pi_imp {X : Cx} {tg e : Expr} {t t' : TI} (h : PI X tg e t) (i : ∀ σ H R, t' σ H R → t σ H R) : PI X tg e t' := ⟨fun pins s σ H Q I hw => h.run pins s σ H Q I (i σ H Q hw)⟩
theorem pi_or {X : Cx} {tg e : Expr} {t t' : TI} (h : PI X tg e t) (h' : PI X tg e t') : PI X tg e (fun σ H R => t σ H R ∨ t' σ H R) := ⟨fun pins s σ H Q I hw => hw.elim (h.run pins s σ H Q I) (h'.run pins s σ H Q I)⟩

/-! ### operators on data -/
inductive Bop where
  | add | sub | mul | fdiv | mod | pow
inductive Cop where
  | eq | ne | lt | le | gt | ge | isN | notN | inn | nin
def bop : Bop → D → D → R D
  | .add, .int i, .int j => .ok (.int (i + j))
  | .add, .list xs, .list ys => if xs.length + ys.length ≤ sizeLine then .ok (.list (xs ++ ys)) else .stuck
  | .add, .tuple xs, .tuple ys => if xs ≠ [] ∧ ys ≠ [] ∧ xs.length + ys.length ≤ sizeLine then .ok (.tuple (xs ++ ys)) else .stuck
  | .sub, .int i, .int j => .ok (.int (i - j))
  | .mul, .int i, .int j => if i.natAbs.log2 + j.natAbs.log2 < 1000000 then .ok (.int (i * j)) else .stuck
  | .fdiv, .int i, .int j => if j ≠ 0 ∧ j.natAbs.log2 < 9000 then .ok (.int (i.fdiv j)) else .stuck
  | .mod, .int i, .int j => if j ≠ 0 then .ok (.int (i.fmod j)) else .stuck
  | .pow, .int i, .int j => if 0 ≤ j ∧ j ≤ 1000000 ∧ i.natAbs < 2 ^ 64 then .ok (.int (i ^ j.toNat)) else .stuck
  | _, _, _ => .stuck
def shp (d : D) : Bool := SeqAt.shaped d
def isNone : D → Bool
  | .none => true
  | _ => false
def cop : Cop → D → D → R D
  | .eq, a, b => if shp a = true ∧ shp b = true then .ok (.bool (PyData.eqv a b)) else .stuck
  | .ne, a, b => if shp a = true ∧ shp b = true then .ok (.bool (!PyData.eqv a b)) else .stuck
  | .lt, .int i, .int j => .ok (.bool (decide (i < j)))
  | .le, .int i, .int j => .ok (.bool (decide (i ≤ j)))
  | .gt, .int i, .int j => .ok (.bool (decide (j < i)))
  | .ge, .int i, .int j => .ok (.bool (decide (j ≤ i)))
  | .isN, a, .none => .ok (.bool (isNone a))
  | .notN, a, .none => .ok (.bool (!isNone a))
  | .inn, a, .list ds => if shp a = true ∧ shp (.list ds) = true then .ok (.bool (ds.any fun z => PyData.eqv z a)) else .stuck
  | .inn, a, .tuple ds => if shp a = true ∧ shp (.tuple ds) = true then .ok (.bool (ds.any fun z => PyData.eqv z a)) else .stuck
  | .nin, a, .tuple ds => if shp a = true ∧ shp (.tuple ds) = true then .ok (.bool (!ds.any fun z => PyData.eqv z a)) else .stuck
  | .nin, a, .list ds => if shp a = true ∧ shp (.list ds) = true then .ok (.bool (!ds.any fun z => PyData.eqv z a)) else .stuck
  | _, _, _ => .stuck

/-- a rule by values serves an operation on data -/
def OpS (K : PySem.W.Frag) (r : R2) (f : D → D → R D) : Prop :=
  ∀ (G : Gs) (O : List Addr) (σ : St) (H : Hp) (W : WX) (Q : VK) (x y : V) (a b : D), Alloc O H → Dq K (cut H O) x a → Dq K (cut H O) y b → Post (dp K O) G σ H W Q (f a b) → r x y H Q

theorem iteP {c : Prop} [Decidable c] {α β : Type} {rep : Hp → β → α → Prop} {G : Gs} {σ : St} {H : Hp} {W : WX} {Q : β → Hp → Prop} {d : α} (h : Post rep G σ H W Q (if c then .ok d else .stuck)) : c ∧ Post rep G σ H W Q (.ok d) := by
  by_cases hc : c
  · rw [if_pos hc] at h
    exact ⟨hc, h⟩
  · rw [if_neg hc] at h
    exact h.elim


section
variable {X : Cx}
theorem rd_ok {pins : List (Addr × Obj)} {σ : St} {H : Hp} {s : Shared} {a : Addr} {u : HO} (I : Inv X pins σ H s) (h : Rd H a u) : ObjOk X.prog X.w H s.heap a u := h.ok I.hok
/-- list + list, tracked or locked -/
def rCatL (K : PySem.W.Frag) : R2 := fun x y H Q => ∃ l b xs zs, x = .ref l ∧ y = .ref b ∧ SqL K H l xs ∧ SqL K H b zs ∧ xs.length + zs.length ≤ sizeLine ∧ ∀ p, H p = none → Q (.ref p) (upd H p (.lst (xs ++ zs)))
theorem op_catL : OpR X (binaryOp .Add) (rCatL X.K) := by
  intro pins s σ H x y v u Q I rx ry h
  obtain ⟨l, b, xs, zs, rfl, rfl, hH, hB, hz, q⟩ := h
  cases rx
  cases ry
  obtain ⟨its, r, ⟨⟨cls, dd, dt, sl⟩, n, ho, hc, hd, hdt⟩, _⟩ := I.list hH
  obtain ⟨its2, r2, ⟨⟨cls2, dd2, dt2, sl2⟩, n2, ho2, hc2, hd2, hdt2⟩, _⟩ := I.list hB
  simp only at hc hd hdt hc2 hd2 hdt2
  subst hc hd hdt hc2 hd2 hdt2
  have hl := r.length
  have hl2 := r2.length
  refine concat_meets ⟨_, ho, rfl⟩ ⟨_, ho2, rfl⟩ noFill_list_add seq_list_add PySem.F.slot_list_add PySem.F.entry_list_add (PySem.F.args_list_add_2 _ _) (list_addW l b its.toArray its2.toArray n n2 none none sl sl2 (by rw [List.size_toArray, List.size_toArray]; omega)) ⟨ho, ho2, ?_⟩
  have ea : its.toArray ++ its2.toArray = (its ++ its2).toArray := by simp
  rw [ea]
  exact ⟨.ref _, _, I.lnew (t' := s.toks) (r.append r2) (by rw [List.length_append]; omega), rfl, q _ I.fresh⟩
def CDivZ (_ j : Int) : Prop := j ≠ 0 ∧ j.natAbs.log2 < 9000
theorem op_fdivZ : OpR X (binaryOp .FloorDiv) (rI CDivZ fun i j => .int (i.fdiv j)) := opI fun _ _ _ _ _ _ _ hc q => floordiv_int hc.1 q (.inl (PyProof.noPylong_of_log2 hc.2))
def rInT (K : PySem.W.Frag) : R2 := fun x y H Q => ∃ d ds, Dp K H x d ∧ Dp K H y (.tuple ds) ∧ SeqAt.shaped d = true ∧ SeqAt.shaped (.tuple ds) = true ∧ Q (.bl (ds.any fun z => PyData.eqv z d)) H
def rNotInT (K : PySem.W.Frag) : R2 := fun x y H Q => ∃ d ds, Dp K H x d ∧ Dp K H y (.tuple ds) ∧ SeqAt.shaped d = true ∧ SeqAt.shaped (.tuple ds) = true ∧ Q (.bl (!ds.any fun z => PyData.eqv z d)) H
theorem op_inT (hu : X.A.units + 65 < cLine) : OpR X (compareOp .In) (rInT X.K) := by
  intro pins s σ H x y v u Q I rx ry h
  obtain ⟨d, ds, hd, he, sd, se, q⟩ := h
  obtain ⟨as, r1⟩ := Dp.reads I d x v hd rx
  obtain ⟨bs, r2⟩ := Dp.reads I (.tuple ds) y u he ry
  exact SeqAt.in_tuple_reads r2 r1 (SeqAt.canLay_of_shaped se) (SeqAt.canLay_of_shaped sd) (room_in_shaped sd hu) ⟨.bl _, H, I, rfl, q⟩
theorem op_notInT (hu : X.A.units + 65 < cLine) : OpR X (compareOp .NotIn) (rNotInT X.K) := by
  intro pins s σ H x y v u Q I rx ry h
  obtain ⟨d, ds, hd, he, sd, se, q⟩ := h
  obtain ⟨as, r1⟩ := Dp.reads I d x v hd rx
  obtain ⟨bs, r2⟩ := Dp.reads I (.tuple ds) y u he ry
  exact SeqAt.notIn_tuple_reads r2 r1 (SeqAt.canLay_of_shaped se) (SeqAt.canLay_of_shaped sd) (room_in_shaped sd hu) ⟨.bl _, H, I, rfl, q⟩

/-! the operators as rules -/
def rBop (K : PySem.W.Frag) : Bop → R2
  | .add => fun x y H Q => rI0 (fun i j => .int (i + j)) x y H Q ∨ rCatL K x y H Q ∨ rCatA K x y H Q
  | .sub => rI0 fun i j => .int (i - j)
  | .mul => rI CMulW fun i j => .int (i * j)
  | .fdiv => rI CDivZ fun i j => .int (i.fdiv j)
  | .mod => rI (fun _ j => j ≠ 0) fun i j => .int (i.fmod j)
  | .pow => rI CPow fun i j => .int (i ^ j.toNat)
def Bop.py : Bop → Operator
  | .add => .Add
  | .sub => .Sub
  | .mul => .Mult
  | .fdiv => .FloorDiv
  | .mod => .Mod
  | .pow => .Pow
theorem op_bop : ∀ o : Bop, OpR X (binaryOp o.py) (rBop X.K o)
  | .add => op_add.or (op_catL.or op_catA)
  | .sub => op_sub
  | .mul => op_mulW
  | .fdiv => op_fdivZ
  | .mod => op_modN
  | .pow => op_pow
theorem post_same {α β : Type} {rep : Hp → β → α → Prop} {G : Gs} {σ : St} {H : Hp} {W : WX} {Q : β → Hp → Prop} {d : α} {v : β} (h : Post rep G σ H W Q (.ok d)) (r : rep H v d) : Q v H := h v H (Same.refl H) r
theorem dq_new {K : PySem.W.Frag} {O : List Addr} {H : Hp} {p : Addr} {xs : List V} {ds : List D} (al : Alloc O H) (n : H p = none) (h : DqAll K (cut H O) xs ds) : Dq K (cut (upd H p (.lst xs)) O) (.ref p) (.list ds) :=
  .lst (.inl (.inl (cut_of upd_same (al.out n)))) (dps_mono (cut_same (Same.new n)) ds xs h)
theorem dq_newT {K : PySem.W.Frag} {O : List Addr} {H : Hp} {p : Addr} {xs : List V} {ds : List D} (al : Alloc O H) (n : H p = none) (h : DqAll K (cut H O) xs ds) : Dq K (cut (upd H p (.tup xs)) O) (.ref p) (.tuple ds) :=
  .tup (.inl (.inl (cut_of upd_same (al.out n)))) (dps_mono (cut_same (Same.new n)) ds xs h)
theorem ops_bop {K : PySem.W.Frag} : ∀ o : Bop, OpS K (rBop K o) (bop o) := by
  intro o G O σ H W Q x y a b al ha hb h
  cases o <;> cases a <;> cases b <;> first | exact h.elim | skip
  · cases ha; cases hb; exact .inl ⟨_, _, rfl, rfl, post_same h (.int _)⟩
  · obtain ⟨hc, h⟩ := iteP h
    cases ha with
    | lst h1 h2 =>
      cases hb with
      | lst h3 h4 =>
        refine .inr (.inl ⟨_, _, _, _, rfl, rfl, sqL_mono cut_le h1, sqL_mono cut_le h3, ?_, fun p hp => h _ _ (Same.new hp) (dq_new al hp (dps_app h2 h4))⟩)
        rw [dps_len h2, dps_len h4]
        exact hc
  · obtain ⟨hc, h⟩ := iteP h
    cases ha with
    | tup h1 h2 =>
      cases hb with
      | tup h3 h4 =>
        have e1 := dps_len h2
        have e2 := dps_len h4
        refine .inr (.inr ⟨_, _, _, _, rfl, rfl, sqT_mono cut_le h1, sqT_mono cut_le h3, by rw [e1, e2]; exact hc.2.2, fun z => ?_, fun _ z => ?_, fun _ _ p hp => h _ _ (Same.new hp) (dq_newT al hp (dps_app h2 h4))⟩)
        · subst z
          exact absurd (List.eq_nil_of_length_eq_zero e1.symm) hc.1
        · subst z
          exact absurd (List.eq_nil_of_length_eq_zero e2.symm) hc.2.1
  · cases ha; cases hb; exact ⟨_, _, rfl, rfl, post_same h (.int _)⟩
  · obtain ⟨hc, h⟩ := iteP h
    cases ha; cases hb; exact ⟨_, _, rfl, rfl, hc, post_same h (.int _)⟩
  · obtain ⟨hc, h⟩ := iteP h
    cases ha; cases hb; exact ⟨_, _, rfl, rfl, hc, post_same h (.int _)⟩
  · obtain ⟨hc, h⟩ := iteP h
    cases ha; cases hb; exact ⟨_, _, rfl, rfl, hc, post_same h (.int _)⟩
  · obtain ⟨hc, h⟩ := iteP h
    cases ha; cases hb; exact ⟨_, _, rfl, rfl, hc, post_same h (.int _)⟩
def rCop (K : PySem.W.Frag) : Cop → R2
  | .eq => rEqD K
  | .ne => rNeD K
  | .lt => rI0 fun i j => .bl (decide (i < j))
  | .le => rI0 fun i j => .bl (decide (i ≤ j))
  | .gt => rI0 fun i j => .bl (decide (j < i))
  | .ge => rI0 fun i j => .bl (decide (j ≤ i))
  | .isN => fun x y H Q => y = .non ∧ Q (.bl (decide (x = .non))) H
  | .notN => fun x y H Q => y = .non ∧ Q (.bl (!decide (x = .non))) H
  | .inn => fun x y H Q => rInD K x y H Q ∨ rInT K x y H Q
  | .nin => fun x y H Q => rNotInD K x y H Q ∨ rNotInT K x y H Q
def Cop.py : Cop → CmpOp
  | .eq => .Eq
  | .ne => .NotEq
  | .lt => .Lt
  | .le => .LtE
  | .gt => .Gt
  | .ge => .GtE
  | .isN => .Is
  | .notN => .IsNot
  | .inn => .In
  | .nin => .NotIn
theorem op_cop (hu : X.A.units + 65 < cLine) : ∀ o : Cop, OpR X (compareOp o.py) (rCop X.K o)
  | .eq => op_eqD (by omega)
  | .ne => op_neD (by omega)
  | .lt => op_lt
  | .le => op_le
  | .gt => op_gt
  | .ge => op_ge
  | .isN => op_isN
  | .notN => op_notN
  | .inn => (op_inD hu).or (op_inT hu)
  | .nin => (op_notInD hu).or (op_notInT hu)
theorem isNone_iff {K : PySem.W.Frag} {H : Hp} {x : V} {a : D} (h : Dq K H x a) : isNone a = decide (x = .non) := by
  cases h <;> rfl
theorem up_dp {K : PySem.W.Frag} {H : Hp} {O : List Addr} {x : V} {a : D} (h : Dq K (cut H O) x a) : Dp K H x a := dq_dp a x (dp_mono cut_le a x h)
theorem ops_cop {K : PySem.W.Frag} : ∀ o : Cop, OpS K (rCop K o) (cop o) := by
  intro o G O σ H W Q x y a b al ha hb h
  cases o with
  | eq =>
    obtain ⟨hc, h⟩ := iteP h
    exact ⟨a, b, up_dp ha, up_dp hb, hc.1, hc.2, post_same h (.bl _)⟩
  | ne =>
    obtain ⟨hc, h⟩ := iteP h
    exact ⟨a, b, up_dp ha, up_dp hb, hc.1, hc.2, post_same h (.bl _)⟩
  | isN =>
    cases b <;> first | exact h.elim | skip
    cases hb
    refine ⟨rfl, ?_⟩
    rw [← isNone_iff ha]
    exact post_same h (.bl _)
  | notN =>
    cases b <;> first | exact h.elim | skip
    cases hb
    refine ⟨rfl, ?_⟩
    rw [← isNone_iff ha]
    exact post_same h (.bl _)
  | inn =>
    cases b <;> first | exact h.elim | skip
    · obtain ⟨hc, h⟩ := iteP h
      exact .inl ⟨a, _, up_dp ha, up_dp hb, hc.1, hc.2, post_same h (.bl _)⟩
    · obtain ⟨hc, h⟩ := iteP h
      exact .inr ⟨a, _, up_dp ha, up_dp hb, hc.1, hc.2, post_same h (.bl _)⟩
  | nin =>
    cases b <;> first | exact h.elim | skip
    · obtain ⟨hc, h⟩ := iteP h
      exact .inl ⟨a, _, up_dp ha, up_dp hb, hc.1, hc.2, post_same h (.bl _)⟩
    · obtain ⟨hc, h⟩ := iteP h
      exact .inr ⟨a, _, up_dp ha, up_dp hb, hc.1, hc.2, post_same h (.bl _)⟩
  | lt => cases a <;> cases b <;> first | exact h.elim | (cases ha; cases hb; exact ⟨_, _, rfl, rfl, post_same h (.bl _)⟩)
  | le => cases a <;> cases b <;> first | exact h.elim | (cases ha; cases hb; exact ⟨_, _, rfl, rfl, post_same h (.bl _)⟩)
  | gt => cases a <;> cases b <;> first | exact h.elim | (cases ha; cases hb; exact ⟨_, _, rfl, rfl, post_same h (.bl _)⟩)
  | ge => cases a <;> cases b <;> first | exact h.elim | (cases ha; cases hb; exact ⟨_, _, rfl, rfl, post_same h (.bl _)⟩)
end
end Bs

namespace Bs
open PySem PySem.Spec L2
open PyProof.Rows hiding St

/-! ### the syntax -/
inductive Bi where
  | len | abs | max2 | min2 | sum | all | any | max1 | min1 | list | tuple | int
  deriving DecidableEq
/-- what a loop walks: a list or tuple, range(n), range(a, b), range(a, b, c), enumerate, zip, reversed -/
inductive Wk where
  | seq | rng1 | rng2 | rng3 | enum | zip | rev
  deriving DecidableEq
inductive Tg where
  | nm (i : Nat) | tp (is : List Nat)
mutual
inductive E where
  | v (i : Nat) | i (n : Int) | b (x : Bool) | s (x : Str) | non
  | op (o : Bop) (a b : E) | neg (a : E)
  | cmp (o : Cop) (a b : E) | chain (o o' : Cop) (a b c : E)
  | and (a b : E) | or (a b : E) | one (a : E) | not (a : E)
  | ife (c a b : E)
  | tup (es : Es) | lst (es : Es)
  | ix (a i : E) | sl (a : E) (lo hi : Es)
  | call (f : Nat) (es : Es) | bi (b : Bi) (es : Es) | isi (t : String) (a : E)
  | callW (f : Nat) (es : Es) (e : E)
  | lc (w : Wk) (ws : Es) (tg : Tg) (c : Es) (e : E) (own : List (Str × Nat))
inductive Es where
  | nil | cons (e : E) (es : Es)
end

/-! ### what it computes -/
def ixop : D → D → R D
  | .list ds, .int i => match atI ds i with
    | some d => .ok d
    | none => .stuck
  | .tuple ds, .int i => match atI ds i with
    | some d => .ok d
    | none => .stuck
  | _, _ => .stuck
def cutD (xs : List D) (lo hi : Option Int) : List D := (xs.drop (HT.sIx xs.length 0 lo)).take (HT.sIx xs.length xs.length hi - HT.sIx xs.length 0 lo)
def partD : List D → R (Option Int)
  | [] => .ok none
  | [.int i] => .ok (some i)
  | _ => .stuck
def slop : D → Option Int → Option Int → R D
  | .list ds, lo, hi => .ok (.list (cutD ds lo hi))
  | .tuple ds, lo, hi => .ok (.tuple (cutD ds lo hi))
  | _, _, _ => .stuck
def intsD : List D → Option (List Int)
  | [] => some []
  | .int i :: r => (intsD r).map (i :: ·)
  | _ => none
def boolsD : List D → Option (List Bool)
  | [] => some []
  | .bool i :: r => (boolsD r).map (i :: ·)
  | _ => none
def maxI : Int → List Int → Int
  | m, [] => m
  | m, x :: r => maxI (if x > m then x else m) r
def minI : Int → List Int → Int
  | m, [] => m
  | m, x :: r => minI (if x < m then x else m) r
def bi : Bi → List D → R D
  | .len, [.list ds] => .ok (.int ds.length)
  | .len, [.tuple ds] => .ok (.int ds.length)
  | .abs, [.int i] => .ok (.int (if i < 0 then -i else i))
  | .max2, [.int i, .int j] => .ok (.int (if j > i then j else i))
  | .min2, [.int i, .int j] => .ok (.int (if j < i then j else i))
  | .sum, [.list ds] => match intsD ds with
    | some ns => .ok (.int ns.sum)
    | none => .stuck
  | .max1, [.list ds] => match intsD ds with
    | some (n :: ns) => .ok (.int (maxI n ns))
    | _ => .stuck
  | .min1, [.list ds] => match intsD ds with
    | some (n :: ns) => .ok (.int (minI n ns))
    | _ => .stuck
  | .all, [.list ds] => match boolsD ds with
    | some ns => .ok (.bool (ns.all id))
    | none => .stuck
  | .any, [.list ds] => match boolsD ds with
    | some ns => .ok (.bool (ns.any id))
    | none => .stuck
  | .list, [.list ds] => .ok (.list ds)
  | .list, [.tuple ds] => .ok (.list ds)
  | .tuple, [.list ds] => .ok (.tuple ds)
  | .tuple, [.tuple ds] => .ok (.tuple ds)
  | .int, [.int i] => .ok (.int i)
  | .int, [.bool k] => .ok (.int (if k then 1 else 0))
  | _, _ => .stuck
def tyD : D → String
  | .none => "NoneType"
  | .bool _ => "bool"
  | .int _ => "int"
  | .str _ => "str"
  | .list _ => "list"
  | .tuple _ => "tuple"
  | .dict _ => "dict"
def isiD (t : String) (d : D) : R D := match kitB (tyD d) t with
  | some b => .ok (.bool b)
  | none => .stuck
def ofB : D → R Bool
  | .bool b => .ok b
  | _ => .stuck
def pairD (a b : D) : D := .tuple [a, b]
def itSeq : List D → R (List D)
  | [.list ds] => .ok ds
  | [.tuple ds] => .ok ds
  | _ => .stuck
def itRng1 : List D → R (List D)
  | [.int j] => if -1000000 ≤ j ∧ j ≤ 1000000 then .ok ((List.range j.toNat).map fun (i : Nat) => PyData.int (0 + (i : Int))) else .stuck
  | _ => .stuck
def itRng2 : List D → R (List D)
  | [.int i, .int j] => if -1000000 ≤ i ∧ i ≤ 1000000 ∧ -1000000 ≤ j ∧ j ≤ 1000000 then .ok ((List.range (j - i).toNat).map fun (k : Nat) => PyData.int (i + (k : Int))) else .stuck
  | _ => .stuck
def itEnum : List D → R (List D)
  | [.list ds] => .ok (ds.zipIdx.map fun p => pairD (.int (p.2 : Nat)) p.1)
  | _ => .stuck
def itZip : List D → R (List D)
  | [.list as, .list bs] => .ok ((as.zip bs).map fun p => pairD p.1 p.2)
  | _ => .stuck
def iters (w : Wk) (ds : List D) : R (List D) := match w with
  | .seq => itSeq ds
  | .rng1 => itRng1 ds
  | .rng2 => itRng2 ds
  | .enum => itEnum ds
  | .zip => itZip ds
  | _ => .stuck
def setAll : Env → List Nat → List D → Env
  | env, i :: is, d :: ds => setAll (env.set i (some d)) is ds
  | env, _, _ => env
def Tg.asg : Tg → D → Env → R Env
  | .nm i, d, env => .ok (env.set i (some d))
  | .tp is, .tuple ds, env => if ds.length = is.length then .ok (setAll env is ds) else .stuck
  | _, _, _ => .stuck
def wipeE (env : Env) : List Nat → Env
  | [] => env
  | v :: vs => (wipeE env vs).set v none
def compL (f : D → R (Option D)) : List D → R (List D)
  | [] => .ok []
  | x :: xs => (f x).bind fun o => (compL f xs).bind fun r => .ok (o.toList ++ r)
def noX {α : Type} : R α → R α
  | .exc _ _ => .stuck
  | r => r
def lcD (f : D → R (Option D)) (items : List D) : R D := if items.length ≤ 1000000 then (compL f items).bind fun ds => .ok (.list ds) else .stuck
def tstD : List D → R Bool
  | [] => .ok true
  | [d] => ofB d
  | _ => .stuck
def getE (env : Env) (i : Nat) : R D := match env[i]? with
  | some (some d) => .ok d
  | _ => .stuck
mutual
def evE (F : Nat → List D → R D) : E → Env → R D
  | .v i, env => getE env i
  | .i n, _ => .ok (.int n)
  | .b x, _ => .ok (.bool x)
  | .s x, _ => .ok (.str x)
  | .non, _ => .ok .none
  | .op o a b, env => (evE F a env).bind fun x => (evE F b env).bind fun y => bop o x y
  | .neg a, env => (evE F a env).bind fun x => match x with
    | .int i => .ok (.int (-i))
    | _ => .stuck
  | .cmp o a b, env => (evE F a env).bind fun x => (evE F b env).bind fun y => cop o x y
  | .chain o o' a b c, env => (evE F a env).bind fun x => (evE F b env).bind fun y => (cop o x y).bind fun t => (ofB t).bind fun k =>
      if k = true then (evE F c env).bind fun z => cop o' y z else .ok (.bool false)
  | .and a b, env => (evE F a env).bind fun x => (ofB x).bind fun k => if k = true then evE F b env else .ok (.bool false)
  | .or a b, env => (evE F a env).bind fun x => (ofB x).bind fun k => if k = true then .ok (.bool true) else evE F b env
  | .one a, env => evE F a env
  | .not a, env => (evE F a env).bind fun x => (ofB x).bind fun k => .ok (.bool (!k))
  | .ife c a b, env => (evE F c env).bind fun x => (ofB x).bind fun k => if k = true then evE F a env else evE F b env
  | .tup es, env => (evEs F es env).bind fun ds => .ok (.tuple ds)
  | .lst es, env => (evEs F es env).bind fun ds => .ok (.list ds)
  | .ix a i, env => (evE F a env).bind fun x => (evE F i env).bind fun y => ixop x y
  | .sl a lo hi, env => (evE F a env).bind fun x => (evEs F lo env).bind fun l => (partD l).bind fun l => (evEs F hi env).bind fun h => (partD h).bind fun h => slop x l h
  | .call f es, env => (evEs F es env).bind fun ds => F f ds
  | .callW f es e, env => (evEs F es env).bind fun ds => (evE F e env).bind fun d => F f (ds ++ [d])
  | .bi b es, env => (evEs F es env).bind fun ds => bi b ds
  | .isi t a, env => (evE F a env).bind fun x => isiD t x
  | .lc w ws tg c e own, env => ((evEs F ws env).bind fun ds => iters w ds).bind fun items =>
      lcD (fun x => noX ((tg.asg x (wipeE env (own.map (·.2)))).bind fun env' => (evEs F c env').bind fun cs => (tstD cs).bind fun k =>
        if k = true then (evE F e env').bind fun d => .ok (some d) else .ok none)) items
def evEs (F : Nat → List D → R D) : Es → Env → R (List D)
  | .nil, _ => .ok []
  | .cons e es, env => (evE F e env).bind fun d => (evEs F es env).bind fun ds => .ok (d :: ds)
end
def Es.len : Es → Nat
  | .nil => 0
  | .cons _ es => es.len + 1
theorem evEs_len {F : Nat → List D → R D} : ∀ (es : Es) (env : Env) (ds : List D), evEs F es env = .ok ds → ds.length = es.len
  | .nil, env, ds, h => by
    rw [evEs] at h
    cases h
    rfl
  | .cons e es, env, ds, h => by
    rw [evEs] at h
    cases h1 : evE F e env with
    | stuck => rw [h1] at h; cases h
    | exc c p => rw [h1] at h; cases h
    | ok d =>
      rw [h1] at h
      cases h2 : evEs F es env with
      | stuck => rw [h2] at h; cases h
      | exc c p => rw [h2] at h; cases h
      | ok es' =>
        rw [h2] at h
        cases h
        exact congrArg Nat.succ (evEs_len es env _ h2)

/-! ### the readings -/
structure EnvOk (K : PySem.W.Frag) (O : List Addr) (σ : L2.St) (H : Hp) (env : Env) : Prop where
  al : Alloc O H
  len : σ.length = env.length
  at_ : ∀ (i : Nat) (d : D), env[i]? = some (some d) → ∃ v, σ[i]? = some (some v) ∧ Dq K (cut H O) v d
theorem EnvOk.up {K : PySem.W.Frag} {O : List Addr} {σ : L2.St} {H H1 : Hp} {env : Env} (h : EnvOk K O σ H env) (s : Same H H1) : EnvOk K O σ H1 env :=
  ⟨h.al.mono s, h.len, fun i d e => let ⟨v, h1, h2⟩ := h.at_ i d e; ⟨v, h1, dp_mono (cut_same s) d v h2⟩⟩
def rd (K : PySem.W.Frag) (F : Nat → List D → R D) (G : Gs) (W : WX) (m : E) : TE := fun σ H Q => ∃ O env, EnvOk K O σ H env ∧ Post (dp K O) G σ H W Q (evE F m env)
def rds (K : PySem.W.Frag) (F : Nat → List D → R D) (G : Gs) (W : WX) (m : Es) : TA := fun σ H Q => ∃ O env, EnvOk K O σ H env ∧ Post (dps K O) G σ H W Q (evEs F m env)
def repB : Hp → Bool → Bool → Prop := fun _ b k => b = k
def rdTs (K : PySem.W.Frag) (F : Nat → List D → R D) (G : Gs) (W : WX) (c : Es) : TT := fun σ H Q => ∃ O env, EnvOk K O σ H env ∧ Post repB G σ H W Q ((evEs F c env).bind fun cs => tstD cs)
def rdO (K : PySem.W.Frag) (F : Nat → List D → R D) (G : Gs) (W : WX) (c : Es) : TO := fun σ H Q => ∃ O env, EnvOk K O σ H env ∧ Post (fun _ o o' => o = o') G σ H W Q ((evEs F c env).bind fun cs => partD cs)
def rdT (K : PySem.W.Frag) (F : Nat → List D → R D) (G : Gs) (W : WX) (m : E) : TT := fun σ H Q => ∃ O env, EnvOk K O σ H env ∧ Post repB G σ H W Q ((evE F m env).bind fun x => ofB x)
/-- a new list -/
def dpn (K : PySem.W.Frag) (O : List Addr) (H0 : Hp) : Hp → V → D → Prop := fun H v d => ∃ p vs ds, v = .ref p ∧ d = .list ds ∧ H0 p = none ∧ H p = some (.lst vs) ∧ DqAll K (cut H (p :: O)) vs ds
def lsD : D → R D
  | .list ds => .ok (.list ds)
  | _ => .stuck
def rdN (K : PySem.W.Frag) (F : Nat → List D → R D) (G : Gs) (W : WX) (m : E) : TE := fun σ H Q => ∃ O env, EnvOk K O σ H env ∧ Post (dpn K O H) G σ H W Q ((evE F m env).bind lsD)
theorem dp_of_dpn {K : PySem.W.Frag} {O : List Addr} {H0 H : Hp} {v : V} {d : D} (al : Alloc O H0) (h : dpn K O H0 H v d) : Dq K (cut H O) v d := by
  obtain ⟨p, vs, ds, rfl, rfl, n, e, q⟩ := h
  exact .lst (.inl (.inl (cut_of e (al.out n)))) (dps_mono (cut_sub fun a m => List.mem_cons_of_mem _ m) _ _ q)
theorem Post.rep {α β : Type} {rep rep' : Hp → β → α → Prop} {G : Gs} {σ : L2.St} {H : Hp} {W : WX} {Q : β → Hp → Prop} {r : R α} (h : Post rep G σ H W Q r) (i : ∀ H' v d, Same H H' → rep' H' v d → rep H' v d) : Post rep' G σ H W Q r := by
  cases r with
  | stuck => exact h
  | ok d => exact fun v H' e p => h v H' e (i H' v d e p)
  | exc c p => exact h
theorem rdN_of {K : PySem.W.Frag} {F : Nat → List D → R D} {G : Gs} {W : WX} {m : E} {σ : L2.St} {H : Hp} {Q : VK} (l : ∀ env d, evE F m env = .ok d → ∃ ds, d = .list ds) (h : rd K F G W m σ H Q) : rdN K F G W m σ H Q := by
  obtain ⟨O, env, e, p⟩ := h
  have z : (evE F m env).bind lsD = evE F m env := by
    cases q : evE F m env with
    | stuck => rfl
    | exc c p => rfl
    | ok d =>
      obtain ⟨ds, rfl⟩ := l env d q
      rfl
  exact ⟨O, env, e, by rw [z]; exact p.rep fun H' v d _ q => dp_of_dpn e.al q⟩

/-! ### the context -/
structure Ct where
  N : List Str
  sc : Scope
  fns : List (Str × Nat)
  bls : List Str
  cm : Bool := true
  gis : List (Str × Int) := []
  kfns : List (Nat × Str × Nat × Str) := []
/-- what a def promises -/
def spD (K : PySem.W.Frag) (G : Gs) (n : Nat) (f : List D → R D) : Sp := fun vs H Q E => ∃ O ds, Alloc O H ∧ vs.length = n ∧ DqAll K (cut H O) vs ds ∧ Post (dp K O) G [] H (fun c d _ H => E c d H) Q (f ds)
def CallOk (X : Cx) (G : Gs) (f : List D → R D) (x : Str) (n : Nat) : Prop := ∃ (k : Nat) (fa : Addr) (fd : FuncData) (ps : List Str) (ds : List Value) (dvs : List V) (sp : Sp),
  FnOk X.prog X.w X.K X.mg X.base (L2.CX X.prog X.w) k fa fd ps sp ∧ Room k X.A ∧ X.mg x = some (.ref fa) ∧ PySem.W.keepIn X.K (.ref fa) = true ∧ Binds X.K fd ps ds ∧ Vals dvs ds ∧ ∀ vs H Q E, spD X.K G n f vs H Q E → sp (vs ++ dvs) H Q E
/-- called with n values and one by its name -/
def CallKOk (X : Cx) (G : Gs) (f : List D → R D) (x : Str) (n : Nat) (kn : Str) : Prop := ∃ (k : Nat) (fa : Addr) (fd : FuncData) (ps : List Str) (g : List Value → List Value → List Value) (sp : Sp),
  FnOk X.prog X.w X.K X.mg X.base (L2.CX X.prog X.w) k fa fd ps sp ∧ Room k X.A ∧ X.mg x = some (.ref fa) ∧ PySem.W.keepIn X.K (.ref fa) = true ∧ KBn X.K fd ps n [kn] g (fun vs zs => vs ++ zs) ∧ ∀ vs H Q E, spD X.K G (n + 1) f vs H Q E → sp vs H Q E
structure Gd (C : Ct) (F : Nat → List D → R D) (G : Gs) (W : WX) (X : Cx) : Prop where
  N : X.N = C.N
  nd : C.N.Nodup
  sc : X.env.scope = C.sc
  calm : C.cm = true → X.calm = true
  hu : X.A.units + 65 < cLine
  tk : Takes X W
  fns : ∀ i x n, C.fns[i]? = some (x, n) → CallOk X G (F i) x n
  bls : ∀ x ∈ C.bls, X.mg x = none
  gis : ∀ x n, (x, n) ∈ C.gis → ∃ t, X.mg x = some (.int n t)
  kfns : ∀ i x n kn, (i, x, n, kn) ∈ C.kfns → CallKOk X G (F i) x n kn

/-! ### the checks -/
def isVis (sc : Scope) (x : Str) : Bool := match sc.names.lookup x with
  | some .local => true
  | some .cell => true
  | some .free => true
  | _ => false
def isGl (sc : Scope) (x : Str) : Bool := match sc.names.lookup x with
  | some .globalImplicit => true
  | _ => false
theorem isVis_ok {sc : Scope} {x : Str} (h : isVis sc x = true) : Vis sc x := by
  unfold isVis at h
  split at h
  · exact .inl (by assumption)
  · exact .inr (.inl (by assumption))
  · exact .inr (.inr (by assumption))
  · cases h
theorem isGl_ok {sc : Scope} {x : Str} (h : isGl sc x = true) : sc.names.lookup x = some .globalImplicit := by
  unfold isGl at h
  split at h
  · assumption
  · cases h
def notDbg (x : Str) : Bool := !(x == ("__debug__" : Str))
def notCls (x : Str) : Bool := !(x == ("__classdict__" : Str))
theorem notDbg_ok {x : Str} (h : notDbg x = true) : (x == ("__debug__" : Str)) = false := by
  unfold notDbg at h
  simpa using h
theorem notCls_ok {x : Str} (h : notCls x = true) : (x == ("__classdict__" : Str)) = false := by
  unfold notCls at h
  simpa using h
def okE : Expr → Bool
  | .Name .. => true
  | .Constant .. => true
  | .BinOp .. => true
  | .UnaryOp .. => true
  | .Compare .. => true
  | .BoolOp .. => true
  | .IfExp .. => true
  | .Call .. => true
  | .Subscript .. => true
  | .Tuple .. => true
  | .List .. => true
  | .ListComp .. => true
  | _ => false
theorem star_of {e : Expr} {es : List Expr} {env : PySem.Env} (h : okE e = true) : starEach (e :: es) env = (false, eval e env) :: starEach es env := by
  cases e <;> first | rfl | cases h
theorem plain_of : ∀ {es : List Expr} {env : PySem.Env} {pos : Pos}, es.all okE = true → (backTo pos (starEach es env)).any (·.1) = false
  | [], _, _, _ => rfl
  | e :: es, env, pos, h => by
    rw [List.all_cons, Bool.and_eq_true] at h
    rw [star_of h.1]
    show (false || (backTo pos (starEach es env)).any (·.1)) = false
    rw [plain_of h.2]
    rfl
theorem ix_of {e : Expr} (h : okE e = true) : PlainIx e := by
  cases e <;> first | (intro _ _; rfl) | cases h
theorem fold_of {e : Expr} {env : PySem.Env} (h : okE e = true) : ∀ x, foldedSetIterable e env x = pure x := by
  cases e <;> first | (intro _; rfl) | cases h
theorem mark_of {o : CmpOp} {e : Expr} (h : okE e = true) : behindInMarks o e = false := by
  cases e <;> first | rfl | cases h
end Bs

namespace Bs
open PySem PySem.Spec L2
open PyProof.Rows hiding St

/-! ### calls -/
section
variable {X : Cx} {CX : CXT} {k : Nat} {f : Addr} {fd : FuncData} {ps : List Str} {sp : Sp} {dvs : List V} {ds : List Value} {E : L2.St → XK} {x : Str} {p pos : Pos} {e : Expr} {es : List Expr} {t : TA}
theorem run_fnG {pins : List (Addr × Obj)} {σ : L2.St} {H : Hp} {s : Shared} {Q : VK} {us : List Value} {vs : List V} (F : FnOk X.prog X.w X.K X.mg X.base CX k f fd ps sp) (hr : Room k X.A) (hb : Binds X.K fd ps ds) (hd : Vals dvs ds) (hx : PassesAt CX X σ (E σ))
    (I : Inv X pins σ H s) (r : Vals vs us) (h : sp (vs ++ dvs) H Q (E σ)) : wpAny (model X.prog X.w) X.A (call (.ref f) us) (EP X pins σ Q) X.xe s := by
  have r2 : Vals (vs ++ dvs) (us ++ ds) := r.append hd
  have hl : (us ++ ds).length = ps.length := by rw [← r2.length]; exact F.len _ _ _ _ h
  refine wpAny_call (codeAny_mono (F.run X.A X.stack s H ⟨us, []⟩ (us ++ ds) (vs ++ dvs) Q (E σ) hr I.env0 (hb s us I.kIn hl) r2 h) fun r s' hq => ?_)
  cases r with
  | error e => exact hx pins H s e s' I hq
  | ok fl =>
    cases fl with
    | ret u => exact I.after hq
    | next => exact False.elim hq
    | brk => exact False.elim hq
    | cont => exact False.elim hq
theorem pe_callG (F : FnOk X.prog X.w X.K X.mg X.base CX k f fd ps sp) (hr : Room k X.A) (hg : Gl X x) (hm : X.mg x = some (.ref f)) (hk : PySem.W.keepIn X.K (.ref f) = true) (hb : Binds X.K fd ps ds) (hd : Vals dvs ds) (hx : ∀ σ, PassesAt CX X σ (E σ))
    (ha : PA X (e :: es) t) (hdb : (x == ("__debug__" : Str)) = false) (he : starEach (e :: es) X.env = (false, eval e X.env) :: starEach es X.env) (hpl : (backTo pos (starEach es X.env)).any (·.1) = false) :
    PE X (.Call (.Name x p) (e :: es) [] pos) (fun σ H Q => t σ H fun vs H1 => sp (vs ++ dvs) H1 Q (E σ)) := by
  refine ⟨fun pins s σ H Q I h => ?_⟩
  refine wpAny_Call_Name_kw (ld_glob I hg hm ?_ hdb)
  refine PySem.W.callWith_K (h₀ := X.base) I.ok.mod.kin hk (thn (ha.run pos pins s σ H _ I h) fun us s1 ⟨vs, H1, I1, r, q⟩ => ⟨I1.kIn, ?_⟩) he hpl
  exact run_fnG F hr hb hd (hx σ) I1 r q
theorem pe_callG0 (F : FnOk X.prog X.w X.K X.mg X.base CX k f fd ps sp) (hr : Room k X.A) (hg : Gl X x) (hm : X.mg x = some (.ref f)) (hk : PySem.W.keepIn X.K (.ref f) = true) (hb : Binds X.K fd ps ds) (hd : Vals dvs ds) (hx : ∀ σ, PassesAt CX X σ (E σ))
    (hdb : (x == ("__debug__" : Str)) = false) : PE X (.Call (.Name x p) [] [] pos) (fun σ H Q => sp ([] ++ dvs) H Q (E σ)) := by
  refine ⟨fun pins s σ H Q I h => ?_⟩
  refine wpAny_Call_Name_kw (ld_glob I hg hm ?_ hdb)
  exact PySem.W.callWith_K0 I.kIn hk (run_fnG (us := []) F hr hb hd (hx σ) I .nil h)
end

section
variable {X : Cx} {CX : CXT} {k n : Nat} {f : Addr} {fd : FuncData} {ps ks : List Str} {sp : Sp} {E : L2.St → XK} {x : Str} {p pos : Pos} {e : Expr} {es : List Expr} {kws : List Keyword} {t tk : TA} {g : List Value → List Value → List Value} {gV : List V → List V → List V}
theorem pe_callK (F : FnOk X.prog X.w X.K X.mg X.base CX k f fd ps sp) (hr : Room k X.A) (hg : Gl X x) (hm : X.mg x = some (.ref f)) (hk : PySem.W.keepIn X.K (.ref f) = true) (hb : KBn X.K fd ps n ks g gV) (hx : ∀ σ, PassesAt CX X σ (E σ))
    (ha : PA X (e :: es) t) (hkw : PK X kws tk) (hall : (backToKw pos (keywordEach kws X.env)).all (·.1.isSome) = true) (hks : (backToKw pos (keywordEach kws X.env)).filterMap (·.1) = ks)
    (hdb : (x == ("__debug__" : Str)) = false) (he : starEach (e :: es) X.env = (false, eval e X.env) :: starEach es X.env)
    (hpl : ((backTo pos (starEach (e :: es) X.env)).any (·.1) || (backToKw pos (keywordEach kws X.env)).any (·.1.isNone)) = false) :
    PE X (.Call (.Name x p) (e :: es) kws pos) (fun σ H Q => t σ H fun vs H1 => tk σ H1 fun zs H2 => vs.length = n ∧ zs.length = ks.length ∧ sp (gV vs zs) H2 Q (E σ)) := by
  refine ⟨fun pins s σ H Q I h => ?_⟩
  refine wpAny_Call_Name_kw (ld_glob I hg hm ?_ hdb)
  refine PySem.W.callWith_KW (h₀ := X.base) I.ok.mod.kin hk hall (thn (ha.run pos pins s σ H _ I h) fun us s1 ⟨vs, H1, I1, r, q⟩ => ?_) hpl he
  refine thn (hkw.run pos pins s1 σ H1 _ I1 q) fun ws s2 ⟨zs, H2, I2, rz, l1, l2, q2⟩ => ⟨I2.kIn, ?_⟩
  rw [hks]
  have r2 := hb.rel r rz
  refine wpAny_call (codeAny_mono (F.run X.A X.stack s2 H2 ⟨us, ks.zip ws⟩ (g us ws) (gV vs zs) Q (E σ) hr I2.env0 (hb.to s2 us ws I2.kIn (r.length.symm.trans l1) (rz.length.symm.trans l2)) r2 q2) fun r s' hq => ?_)
  cases r with
  | error e => exact hx σ pins H2 s2 e s' I2 hq
  | ok fl =>
    cases fl with
    | ret u => exact I2.after hq
    | next => exact False.elim hq
    | brk => exact False.elim hq
    | cont => exact False.elim hq
end

/-! ### values by their data -/
section
variable {K : PySem.W.Frag} {H : Hp} {x : V}
theorem inv_b {k : Bool} (h : Dq K H x (.bool k)) : x = .bl k := by cases h; rfl
theorem inv_i {k : Int} (h : Dq K H x (.int k)) : x = .int k := by cases h; rfl
theorem inv_l {ds : List D} (h : Dq K H x (.list ds)) : ∃ a xs, x = .ref a ∧ SqL K H a xs ∧ DqAll K H xs ds := by cases h with | lst h1 h2 => exact ⟨_, _, rfl, h1, h2⟩
theorem inv_t {ds : List D} (h : Dq K H x (.tuple ds)) : ∃ a xs, x = .ref a ∧ SqT K H a xs ∧ DqAll K H xs ds := by cases h with | tup h1 h2 => exact ⟨_, _, rfl, h1, h2⟩
theorem ixN_lt {n : Nat} {i : Int} {j : Nat} (h : ixN n i = some j) : j < n := (ixN_seq h).2.1
theorem atI_dq {xs : List V} {ds : List D} {i : Int} {d : D} (h : DqAll K H xs ds) (e : atI ds i = some d) : ∃ v, atI xs i = some v ∧ Dq K H v d := by
  have hl := dps_len h
  unfold atI at e ⊢
  rw [hl]
  cases q : ixN ds.length i with
  | none => rw [q] at e; cases e
  | some j =>
    rw [q] at e
    exact dps_get h e
theorem cut_dq {xs : List V} {ds : List D} (lo hi : Option Int) (h : DqAll K H xs ds) : DqAll K H (cutV xs lo hi) (cutD ds lo hi) := by
  unfold cutV cutD
  rw [dps_len h]
  exact dps_take _ (dps_drop _ h)
theorem ints_dq : ∀ {ds : List D} {ns : List Int} {xs : List V}, DqAll K H xs ds → intsD ds = some ns → xs = ns.map V.int
  | [], ns, xs, h, e => by
    cases h
    cases e
    rfl
  | d :: r, ns, xs, h, e => by
    cases h with
    | cons h1 h2 =>
      cases d <;> first | cases e | skip
      rename_i i
      cases q : intsD r with
      | none => simp [intsD, q] at e
      | some ms =>
        simp [intsD, q] at e
        subst e
        rw [inv_i h1, ints_dq h2 q]
        rfl
theorem bools_dq : ∀ {ds : List D} {ns : List Bool} {xs : List V}, DqAll K H xs ds → boolsD ds = some ns → xs = ns.map V.bl
  | [], ns, xs, h, e => by
    cases h
    cases e
    rfl
  | d :: r, ns, xs, h, e => by
    cases h with
    | cons h1 h2 =>
      cases d <;> first | cases e | skip
      rename_i i
      cases q : boolsD r with
      | none => simp [boolsD, q] at e
      | some ms =>
        simp [boolsD, q] at e
        subst e
        rw [inv_b h1, bools_dq h2 q]
        rfl
end
theorem maxI_mem : ∀ (ns : List Int) (m : Int), maxI m ns ∈ m :: ns ∧ ∀ y ∈ m :: ns, y ≤ maxI m ns
  | [], m => ⟨by simp [maxI], by simp [maxI]⟩
  | x :: r, m => by
    obtain ⟨h1, h2⟩ := maxI_mem r (if x > m then x else m)
    rw [maxI]
    by_cases c : x > m
    · rw [if_pos c] at h1 h2 ⊢
      refine ⟨List.mem_cons_of_mem _ h1, fun y hy => ?_⟩
      rcases List.mem_cons.mp hy with e | hy
      · have := h2 x List.mem_cons_self
        omega
      · exact h2 y hy
    · rw [if_neg c] at h1 h2 ⊢
      refine ⟨?_, fun y hy => ?_⟩
      · rcases List.mem_cons.mp h1 with e | h
        · rw [e]; exact List.mem_cons_self
        · exact List.mem_cons_of_mem _ (List.mem_cons_of_mem _ h)
      · rcases List.mem_cons.mp hy with e | hy
        · rw [e]; exact h2 m List.mem_cons_self
        · rcases List.mem_cons.mp hy with e | hy
          · have := h2 m List.mem_cons_self
            omega
          · exact h2 y (List.mem_cons_of_mem _ hy)
theorem minI_mem : ∀ (ns : List Int) (m : Int), minI m ns ∈ m :: ns ∧ ∀ y ∈ m :: ns, minI m ns ≤ y
  | [], m => ⟨by simp [minI], by simp [minI]⟩
  | x :: r, m => by
    obtain ⟨h1, h2⟩ := minI_mem r (if x < m then x else m)
    rw [minI]
    by_cases c : x < m
    · rw [if_pos c] at h1 h2 ⊢
      refine ⟨List.mem_cons_of_mem _ h1, fun y hy => ?_⟩
      rcases List.mem_cons.mp hy with e | hy
      · have := h2 x List.mem_cons_self
        omega
      · exact h2 y hy
    · rw [if_neg c] at h1 h2 ⊢
      refine ⟨?_, fun y hy => ?_⟩
      · rcases List.mem_cons.mp h1 with e | h
        · rw [e]; exact List.mem_cons_self
        · exact List.mem_cons_of_mem _ (List.mem_cons_of_mem _ h)
      · rcases List.mem_cons.mp hy with e | hy
        · rw [e]; exact h2 m List.mem_cons_self
        · rcases List.mem_cons.mp hy with e | hy
          · have := h2 m List.mem_cons_self
            omega
          · exact h2 y (List.mem_cons_of_mem _ hy)

/-! ### subscripts, slices, built-ins -/
def rIxq (K : PySem.W.Frag) : R2 := fun x y H Q => rIxL K x y H Q ∨ rIxT K x y H Q
theorem ops_ix {K : PySem.W.Frag} : OpS K (rIxq K) ixop := by
  intro G O σ H W Q x y a b al ha hb h
  cases a <;> cases b <;> first | exact h.elim | skip
  · rename_i ds i
    obtain ⟨p, xs, rfl, h1, h2⟩ := inv_l ha
    rw [inv_i hb]
    cases q : atI ds i with
    | none => simp [ixop, q] at h; exact h.elim
    | some d =>
      simp [ixop, q] at h
      obtain ⟨v, e, r⟩ := atI_dq h2 q
      exact .inl ⟨p, xs, i, v, rfl, rfl, sqL_mono cut_le h1, e, post_same h r⟩
  · rename_i ds i
    obtain ⟨p, xs, rfl, h1, h2⟩ := inv_t ha
    rw [inv_i hb]
    cases q : atI ds i with
    | none => simp [ixop, q] at h; exact h.elim
    | some d =>
      simp [ixop, q] at h
      obtain ⟨v, e, r⟩ := atI_dq h2 q
      exact .inr ⟨p, xs, i, v, rfl, rfl, sqT_mono cut_le h1, e, post_same h r⟩
def rSlq (K : PySem.W.Frag) : V → Option Int → Option Int → Hp → VK → Prop := fun x lo hi H Q => rSlL K x lo hi H Q ∨ rSlA K x lo hi H Q
def rBi (K : PySem.W.Frag) : Bi → List V → Hp → VK → Prop
  | .len => fun xs H Q => ∃ p ys, xs = [.ref p] ∧ (SqL K H p ys ∨ SqT K H p ys) ∧ Q (.int ys.length) H
  | .abs => fun xs H Q => ∃ i, xs = [.int i] ∧ Q (.int (if i < 0 then -i else i)) H
  | .max2 => fun xs H Q => ∃ i j, xs = [.int i, .int j] ∧ Q (.int (if j > i then j else i)) H
  | .min2 => fun xs H Q => ∃ i j, xs = [.int i, .int j] ∧ Q (.int (if j < i then j else i)) H
  | .sum => rSum K
  | .max1 => rMax K
  | .min1 => rMin K
  | .all => rAll K
  | .any => rAny K
  | .list => fun xs H Q => ∃ p ys, xs = [.ref p] ∧ (SqL K H p ys ∨ SqT K H p ys) ∧ ∀ l, H l = none → Q (.ref l) (upd H l (.lst ys))
  | .tuple => fun xs H Q => ∃ p ys, xs = [.ref p] ∧ ((SqL K H p ys ∧ ∀ l, H l = none → Q (.ref l) (upd H l (.tup ys))) ∨ (SqT K H p ys ∧ Q (.ref p) H))
  | .int => fun xs H Q => (∃ i, xs = [.int i] ∧ Q (.int i) H) ∨ ∃ k, xs = [.bl k] ∧ Q (.int (if k then 1 else 0)) H
def Bi.name : Bi → Str
  | .len => "len"
  | .abs => "abs"
  | .max2 => "max"
  | .min2 => "min"
  | .sum => "sum"
  | .max1 => "max"
  | .min1 => "min"
  | .all => "all"
  | .any => "any"
  | .list => "list"
  | .tuple => "tuple"
  | .int => "int"
section
variable {X : Cx} {p pos : Pos} {e : Expr} {es : List Expr} {t : TA}
theorem pe_bi (hc : X.calm = true) (b : Bi) (hg : Gl X b.name) (hm : X.mg b.name = none) (ha : PA X (e :: es) t)
    (he : starEach (e :: es) X.env = (false, eval e X.env) :: starEach es X.env) (hpl : (backTo pos (starEach es X.env)).any (·.1) = false) : PE X (.Call (.Name b.name p) (e :: es) [] pos) (tCB (rBi X.K b) t) := by
  cases b with
  | len => exact pe_callB call_len_seq hg hm boot_len ha (by decide +kernel) (by decide +kernel) he hpl
  | abs => exact pe_callB call_abs hg hm boot_abs ha (by decide +kernel) (by decide +kernel) he hpl
  | max2 => exact pe_callB (call_max2 hc) hg hm boot_max ha (by decide +kernel) (by decide +kernel) he hpl
  | min2 => exact pe_callB (call_min2 hc) hg hm boot_min ha (by decide +kernel) (by decide +kernel) he hpl
  | sum => exact pe_callB (cr_sum hc) hg hm boot_sum ha (by decide +kernel) (by decide +kernel) he hpl
  | max1 => exact pe_callB (cr_max hc) hg hm boot_max ha (by decide +kernel) (by decide +kernel) he hpl
  | min1 => exact pe_callB (cr_min hc) hg hm boot_min ha (by decide +kernel) (by decide +kernel) he hpl
  | all => exact pe_callB (cr_all hc) hg hm (by decide +kernel) ha (by decide +kernel) (by decide +kernel) he hpl
  | any => exact pe_callB (cr_any hc) hg hm (by decide +kernel) ha (by decide +kernel) (by decide +kernel) he hpl
  | list => exact pe_callTy call_list_of hg hm boot_list ha (by decide +kernel) (by decide +kernel) he hpl
  | tuple => exact pe_callTy call_tuple_of hg hm boot_tuple ha (by decide +kernel) (by decide +kernel) he hpl
  | int => exact pe_callTy call_int1 hg hm boot_int ha (by decide +kernel) (by decide +kernel) he hpl
end
theorem bi_ok {K : PySem.W.Frag} {G : Gs} {O : List Addr} {σ : L2.St} {H : Hp} {W : WX} {Q : VK} {b : Bi} {vs : List V} {ds : List D} (al : Alloc O H) (h : DqAll K (cut H O) vs ds) (q : Post (dp K O) G σ H W Q (bi b ds)) : rBi K b vs H Q := by
  have lst : ∀ {p : Addr} {xs : List V}, SqL K (cut H O) p xs → SqL K H p xs := fun r => sqL_mono cut_le r
  have tup : ∀ {p : Addr} {xs : List V}, SqT K (cut H O) p xs → SqT K H p xs := fun r => sqT_mono cut_le r
  unfold bi at q
  split at q
  case h_1 =>
    cases h with
    | cons h1 h2 =>
      cases h2
      obtain ⟨p, xs, rfl, r1, r2⟩ := inv_l h1
      refine ⟨p, xs, rfl, .inl (lst r1), ?_⟩
      rw [dps_len r2]
      exact post_same q (.int _)
  case h_2 =>
    cases h with
    | cons h1 h2 =>
      cases h2
      obtain ⟨p, xs, rfl, r1, r2⟩ := inv_t h1
      refine ⟨p, xs, rfl, .inr (tup r1), ?_⟩
      rw [dps_len r2]
      exact post_same q (.int _)
  case h_3 =>
    cases h with
    | cons h1 h2 =>
      cases h2
      rw [inv_i h1]
      exact ⟨_, rfl, post_same q (.int _)⟩
  case h_4 =>
    cases h with
    | cons h1 h2 =>
      cases h2 with
      | cons h2 h3 =>
        cases h3
        rw [inv_i h1, inv_i h2]
        exact ⟨_, _, rfl, post_same q (.int _)⟩
  case h_5 =>
    cases h with
    | cons h1 h2 =>
      cases h2 with
      | cons h2 h3 =>
        cases h3
        rw [inv_i h1, inv_i h2]
        exact ⟨_, _, rfl, post_same q (.int _)⟩
  case h_6 =>
    cases h with
    | cons h1 h2 =>
      cases h2
      obtain ⟨p, xs, rfl, r1, r2⟩ := inv_l h1
      split at q
      · rename_i ns e
        have e2 := ints_dq r2 e
        subst e2
        exact ⟨p, ns, rfl, lst r1, post_same q (.int _)⟩
      · exact q.elim
  case h_7 =>
    cases h with
    | cons h1 h2 =>
      cases h2
      obtain ⟨p, xs, rfl, r1, r2⟩ := inv_l h1
      split at q
      · rename_i n ns e
        have e2 := ints_dq r2 e
        subst e2
        refine ⟨p, n :: ns, rfl, lst r1, by simp, fun m hm hy => ?_⟩
        obtain ⟨m1, m2⟩ := maxI_mem ns n
        have em : m = maxI n ns := by
          have a1 := m2 m hm
          have a2 := hy _ m1
          omega
        rw [em]
        exact post_same q (.int _)
      · exact q.elim
  case h_8 =>
    cases h with
    | cons h1 h2 =>
      cases h2
      obtain ⟨p, xs, rfl, r1, r2⟩ := inv_l h1
      split at q
      · rename_i n ns e
        have e2 := ints_dq r2 e
        subst e2
        refine ⟨p, n :: ns, rfl, lst r1, by simp, fun m hm hy => ?_⟩
        obtain ⟨m1, m2⟩ := minI_mem ns n
        have em : m = minI n ns := by
          have a1 := m2 m hm
          have a2 := hy _ m1
          omega
        rw [em]
        exact post_same q (.int _)
      · exact q.elim
  case h_9 =>
    cases h with
    | cons h1 h2 =>
      cases h2
      obtain ⟨p, xs, rfl, r1, r2⟩ := inv_l h1
      split at q
      · rename_i ns e
        have e2 := bools_dq r2 e
        subst e2
        exact ⟨p, ns, rfl, lst r1, post_same q (.bl _)⟩
      · exact q.elim
  case h_10 =>
    cases h with
    | cons h1 h2 =>
      cases h2
      obtain ⟨p, xs, rfl, r1, r2⟩ := inv_l h1
      split at q
      · rename_i ns e
        have e2 := bools_dq r2 e
        subst e2
        exact ⟨p, ns, rfl, lst r1, post_same q (.bl _)⟩
      · exact q.elim
  case h_11 =>
    cases h with
    | cons h1 h2 =>
      cases h2
      obtain ⟨p, xs, rfl, r1, r2⟩ := inv_l h1
      exact ⟨p, xs, rfl, .inl (lst r1), fun l hl => q _ _ (Same.new hl) (dq_new al hl r2)⟩
  case h_12 =>
    cases h with
    | cons h1 h2 =>
      cases h2
      obtain ⟨p, xs, rfl, r1, r2⟩ := inv_t h1
      exact ⟨p, xs, rfl, .inr (tup r1), fun l hl => q _ _ (Same.new hl) (dq_new al hl r2)⟩
  case h_13 =>
    cases h with
    | cons h1 h2 =>
      cases h2
      obtain ⟨p, xs, rfl, r1, r2⟩ := inv_l h1
      exact ⟨p, xs, rfl, .inl ⟨lst r1, fun l hl => q _ _ (Same.new hl) (dq_newT al hl r2)⟩⟩
  case h_14 =>
    cases h with
    | cons h1 h2 =>
      cases h2
      obtain ⟨p, xs, rfl, r1, r2⟩ := inv_t h1
      exact ⟨p, xs, rfl, .inr ⟨tup r1, post_same q h1⟩⟩
  case h_15 =>
    cases h with
    | cons h1 h2 =>
      cases h2
      rw [inv_i h1]
      exact .inl ⟨_, rfl, post_same q (.int _)⟩
  case h_16 =>
    cases h with
    | cons h1 h2 =>
      cases h2
      rw [inv_b h1]
      exact .inr ⟨_, rfl, post_same q (.int _)⟩
  case h_17 => exact q.elim
/-- a value's type by its data -/
theorem ty_of {K : PySem.W.Frag} {H : Hp} {x : V} {d : D} (h : Dq K H x d) : TyX K H x (.type (tyD d)) := by
  cases h with
  | non => exact .base .non
  | bl b => exact .base (.bl b)
  | int i => exact .base (.int i)
  | str s => exact .base (.str s)
  | lst h1 _ =>
    rcases h1 with (h1 | ⟨o, h1⟩) | ⟨o, its, n, h1, h2, _⟩
    · exact .base (.lst h1)
    · exact .base (.frz h1)
    · exact .kList h1 h2
  | tup h1 _ =>
    rcases h1 with (h1 | ⟨o, h1⟩) | ⟨o, its, n, h1, h2, _⟩
    · exact .base (.tup h1)
    · exact .fTuple h1
    · exact .kTuple h1 h2
end Bs

namespace Bs
open PySem PySem.Spec L2
open PyProof.Rows hiding St

/-! ### what is walked -/
def WalkD (K : PySem.W.Frag) (O : List Addr) (H1 : Hp) (J : It) (items : List D) : Prop :=
  Walk J items.length (fun H => Same (cut H1 O) H) (fun i H x H2 => Same H H2 ∧ ∀ O', Alloc O' H → Same (cut H1 O) (cut H O') → ∃ d, items[i]? = some d ∧ Dq K (cut H2 O') x d)
/-- a range: it leans on nothing -/
def WalkN (K : PySem.W.Frag) (J : It) (items : List D) : Prop := Walk J items.length (fun _ => True) (fun i H x H2 => Same H H2 ∧ ∃ d, items[i]? = some d ∧ ∀ O', Dq K (cut H2 O') x d)
theorem WalkN.toD {K : PySem.W.Frag} {O : List Addr} {H1 : Hp} {J : It} {items : List D} (w : WalkN K J items) : WalkD K O H1 J items :=
  Walk.mono w (fun _ _ => trivial) fun i H x H' _ _ ⟨a, d, b, c⟩ => ⟨a, fun O' _ _ => ⟨d, b, c O'⟩⟩
def isRng : Wk → Bool
  | .rng1 => true
  | .rng2 => true
  | _ => false
def repI (K : PySem.W.Frag) (O : List Addr) (w : Wk) : Hp → It → List D → Prop := fun H J items => if isRng w = true then WalkN K J items else WalkD K O H J items
theorem repI_toD {K : PySem.W.Frag} {O : List Addr} {w : Wk} {H : Hp} {J : It} {items : List D} (h : repI K O w H J items) : WalkD K O H J items := by
  unfold repI at h
  split at h
  · exact h.toD
  · exact h
def evI (F : Nat → List D → R D) (w : Wk) (ws : Es) (env : Env) : R (List D) := (evEs F ws env).bind fun ds => iters w ds
def rdI (K : PySem.W.Frag) (F : Nat → List D → R D) (G : Gs) (W : WX) (w : Wk) (ws : Es) : TI := fun σ H Q => ∃ O env, EnvOk K O σ H env ∧ Post (repI K O w) G σ H W (fun J H' => Q J H') (evI F w ws env)
section
variable {K : PySem.W.Frag} {O : List Addr} {H1 : Hp}
theorem wd_list {a : Addr} {xs : List V} {ds : List D} (h : SqL K (cut H1 O) a xs) (r : DqAll K (cut H1 O) xs ds) : WalkD K O H1 (Itl K a) ds := by
  have w := (walk_list (K := K) (a := a) (xs := xs)).mono (G' := fun H => Same (cut H1 O) H) (Y' := fun i H x H2 => Same H H2 ∧ ∀ O', Alloc O' H → Same (cut H1 O) (cut H O') → ∃ d, ds[i]? = some d ∧ Dq K (cut H2 O') x d) (fun H e => sqL_mono e h) (fun i H x H2 hi e y => ?_)
  · rw [dps_len r] at w
    exact w
  · obtain ⟨rfl, y⟩ := y
    refine ⟨Same.refl _, fun O' al e' => ?_⟩
    have hi' : i < ds.length := by rw [← dps_len r]; exact hi
    obtain ⟨v, h1, h2⟩ := dps_get r (List.getElem?_eq_getElem hi')
    rw [h1] at y
    cases y
    exact ⟨_, List.getElem?_eq_getElem hi', dp_mono e' _ _ h2⟩
theorem wd_tup {a : Addr} {xs : List V} {ds : List D} (h : SqT K (cut H1 O) a xs) (r : DqAll K (cut H1 O) xs ds) : WalkD K O H1 (Itt K a) ds := by
  have w := (walk_tup (K := K) (a := a) (xs := xs)).mono (G' := fun H => Same (cut H1 O) H) (Y' := fun i H x H2 => Same H H2 ∧ ∀ O', Alloc O' H → Same (cut H1 O) (cut H O') → ∃ d, ds[i]? = some d ∧ Dq K (cut H2 O') x d) (fun H e => sqT_mono e h) (fun i H x H2 hi e y => ?_)
  · rw [dps_len r] at w
    exact w
  · obtain ⟨rfl, y⟩ := y
    refine ⟨Same.refl _, fun O' al e' => ?_⟩
    have hi' : i < ds.length := by rw [← dps_len r]; exact hi
    obtain ⟨v, h1, h2⟩ := dps_get r (List.getElem?_eq_getElem hi')
    rw [h1] at y
    cases y
    exact ⟨_, List.getElem?_eq_getElem hi', dp_mono e' _ _ h2⟩
theorem wd_rev {a : Addr} {xs : List V} {ds : List D} (h : SqL K (cut H1 O) a xs) (r : DqAll K (cut H1 O) xs ds) : WalkD K O H1 (Itv K a xs.length) ds.reverse := by
  have w := (walk_rev (K := K) (a := a) (xs := xs)).mono (G' := fun H => Same (cut H1 O) H) (Y' := fun i H x H2 => Same H H2 ∧ ∀ O', Alloc O' H → Same (cut H1 O) (cut H O') → ∃ d, ds.reverse[i]? = some d ∧ Dq K (cut H2 O') x d) (fun H e => sqL_mono e h) (fun i H x H2 hi e y => ?_)
  · rw [dps_len r, ← List.length_reverse] at w
    rw [dps_len r, ← List.length_reverse]
    exact w
  · obtain ⟨rfl, y⟩ := y
    refine ⟨Same.refl _, fun O' al e' => ?_⟩
    have hl := dps_len r
    have hi' : ds.length - 1 - i < ds.length := by omega
    obtain ⟨v, h1, h2⟩ := dps_get r (List.getElem?_eq_getElem hi')
    rw [hl, h1] at y
    cases y
    refine ⟨_, ?_, dp_mono e' _ _ h2⟩
    rw [List.getElem?_reverse (by omega)]
    exact List.getElem?_eq_getElem hi'
theorem wd_range {lo : Int} {n : Nat} : WalkN K (Itr lo n) ((List.range n).map fun (i : Nat) => PyData.int (lo + (i : Int))) := by
  have w := (walk_range (lo := lo) (n := n)).mono (G' := fun _ => True) (Y' := fun i H x H2 => Same H H2 ∧ ∃ d, ((List.range n).map fun (i : Nat) => PyData.int (lo + (i : Int)))[i]? = some d ∧ ∀ O', Dq K (cut H2 O') x d) (fun H e => trivial) (fun i H x H2 hi e y => ?_)
  · show Walk _ ((List.range n).map fun (i : Nat) => PyData.int (lo + (i : Int))).length _ _
    rw [List.length_map, List.length_range]
    exact w
  · obtain ⟨rfl, rfl⟩ := y
    refine ⟨Same.refl _, .int (lo + i), ?_, fun O' => .int _⟩
    rw [List.getElem?_map, List.getElem?_range hi]
    rfl
theorem dq_pair {H : Hp} {T : Addr} {x y : V} {a b : D} {O' : List Addr} (al : Alloc O' H) (n : H T = none) (hx : Dq K (cut H O') x a) (hy : Dq K (cut H O') y b) : Dq K (cut (upd H T (.tup [x, y])) O') (.ref T) (pairD a b) :=
  dq_newT al n (.cons hx (.cons hy .nil))
theorem wd_enum {a : Addr} {xs : List V} {ds : List D} (h : SqL K (cut H1 O) a xs) (r : DqAll K (cut H1 O) xs ds) : WalkD K O H1 (Ite K a) (ds.zipIdx.map fun p => pairD (.int (p.2 : Nat)) p.1) := by
  have w := (walk_enum (K := K) (a := a) (xs := xs)).mono (G' := fun H => Same (cut H1 O) H) (Y' := fun i H x H2 => Same H H2 ∧ ∀ O', Alloc O' H → Same (cut H1 O) (cut H O') → ∃ d, (ds.zipIdx.map fun p => pairD (.int (p.2 : Nat)) p.1)[i]? = some d ∧ Dq K (cut H2 O') x d) (fun H e => sqL_mono e h) (fun i H x H2 hi e y => ?_)
  · show Walk _ (ds.zipIdx.map fun p => pairD (.int (p.2 : Nat)) p.1).length _ _
    rw [List.length_map, List.length_zipIdx, ← dps_len r]
    exact w
  · obtain ⟨T, x0, x1, rfl, nT, rfl, e0, e1⟩ := y
    cases e0
    refine ⟨Same.new nT, fun O' al e' => ?_⟩
    have hi' : i < ds.length := by rw [← dps_len r]; exact hi
    obtain ⟨v, h1, h2⟩ := dps_get r (List.getElem?_eq_getElem hi')
    have e1 : xs[i]? = some x1 := e1
    rw [h1] at e1
    cases e1
    refine ⟨pairD (.int (i : Nat)) ds[i], ?_, dq_pair al nT (.int _) (dp_mono e' _ _ h2)⟩
    rw [List.getElem?_map, List.getElem?_zipIdx, List.getElem?_eq_getElem hi']
    simp
theorem wd_zip {a b : Addr} {xs ys : List V} {ds es : List D} (h : SqL K (cut H1 O) a xs) (r : DqAll K (cut H1 O) xs ds) (h' : SqL K (cut H1 O) b ys) (r' : DqAll K (cut H1 O) ys es) : WalkD K O H1 (Itz K a b) ((ds.zip es).map fun p => pairD p.1 p.2) := by
  have w := (walk_zip (K := K) (a := a) (b := b) (xs := xs) (ys := ys) rfl).mono (G' := fun H => Same (cut H1 O) H) (Y' := fun i H x H2 => Same H H2 ∧ ∀ O', Alloc O' H → Same (cut H1 O) (cut H O') → ∃ d, ((ds.zip es).map fun p => pairD p.1 p.2)[i]? = some d ∧ Dq K (cut H2 O') x d) (fun H e => ⟨sqL_mono e h, sqL_mono e h'⟩) (fun i H x H2 hi e y => ?_)
  · show Walk _ ((ds.zip es).map fun p => pairD p.1 p.2).length _ _
    rw [List.length_map, List.length_zip, ← dps_len r, ← dps_len r']
    exact w
  · obtain ⟨T, x0, x1, rfl, nT, rfl, e0, e1⟩ := y
    refine ⟨Same.new nT, fun O' al e' => ?_⟩
    have q1 := dps_len r
    have q2 := dps_len r'
    have hi' : i < ds.length := by omega
    have hi2 : i < es.length := by omega
    obtain ⟨v, h1, h2⟩ := dps_get r (List.getElem?_eq_getElem hi')
    obtain ⟨v', h3, h4⟩ := dps_get r' (List.getElem?_eq_getElem hi2)
    have e0 : xs[i]? = some x0 := e0
    have e1 : ys[i]? = some x1 := e1
    rw [h1] at e0
    rw [h3] at e1
    cases e0
    cases e1
    refine ⟨pairD ds[i] es[i], ?_, dq_pair al nT (dp_mono e' _ _ h2) (dp_mono e' _ _ h4)⟩
    rw [List.getElem?_map, (List.getElem?_zip_eq_some (z := (ds[i], es[i]))).mpr ⟨List.getElem?_eq_getElem hi', List.getElem?_eq_getElem hi2⟩]
    rfl
end
def itArgs (C : Ct) (w : Wk) (tg : Expr) (e : Expr) : Option (List Expr) := match w with
  | .seq => some [e]
  | .rng1 => (match e with
    | .Call (.Name x _) [a] [] _ => if x = "range" ∧ isGl C.sc x = true ∧ x ∈ C.bls then some [a] else none
    | _ => none)
  | .rng2 => (match e with
    | .Call (.Name x _) [a, b] [] _ => if x = "range" ∧ isGl C.sc x = true ∧ x ∈ C.bls then some [a, b] else none
    | _ => none)
  | .enum => (match tg, e with
    | .Tuple _ _ _, .Call (.Name x _) [a] [] _ => if x = "enumerate" ∧ isGl C.sc x = true ∧ x ∈ C.bls then some [a] else none
    | _, _ => none)
  | .zip => (match tg, e with
    | .Tuple _ _ _, .Call (.Name x _) [a, b] [] _ => if x = "zip" ∧ isGl C.sc x = true ∧ x ∈ C.bls then some [a, b] else none
    | _, _ => none)
  | .rev => none
  | .rng3 => none
theorem gl_of {C : Ct} {F : Nat → List D → R D} {G : Gs} {W : WX} {X : Cx} (g : Gd C F G W X) {x : Str} (h : isGl C.sc x = true) : Gl X x := by
  show X.env.scope.names.lookup x = _
  rw [g.sc]
  exact isGl_ok h
section
variable {C : Ct} {F : Nat → List D → R D} {G : Gs} {W : WX} {X : Cx} {ws : Es} {tg e : Expr}
theorem post_i {rep' : Hp → It → List D → Prop} {O : List Addr} {σ : L2.St} {H : Hp} {Q : It → Hp → Prop} {env : Env} {w : Wk} (h : Post rep' G σ H W Q (evI F w ws env)) :
    Post (dps X.K O) G σ H W (fun vs H1 => Same H H1 ∧ ∃ ds, DqAll X.K (cut H1 O) vs ds ∧ Post rep' G σ H1 W Q (iters w ds)) (evEs F ws env) := Post.bind h
theorem snd_it (g : Gd C F G W X) {w : Wk} {args : List Expr} (h : itArgs C w tg e = some args) (ok : args.all okE = true) (pa : PA X args (rds X.K F G W ws)) (p1 : ∀ a, args = [a] → ∃ m, ws = .cons m .nil ∧ PE X a (rd X.K F G W m)) : PI X tg e (rdI X.K F G W w ws) := by
  cases w with
  | seq =>
    cases h
    obtain ⟨m, rfl, pe⟩ := p1 e rfl
    refine pi_imp (pi_or (pi_list pe) (pi_tup pe)) fun σ H R hR => ?_
    obtain ⟨O, env, eo, hp⟩ := hR
    unfold evI at hp
    rw [evEs, evEs] at hp
    cases r : evE F m env with
    | stuck => rw [r] at hp; exact hp.elim
    | exc c p =>
      rw [r] at hp
      refine .inl ⟨O, env, eo, ?_⟩
      rw [r]
      exact hp
    | ok d =>
      rw [r] at hp
      cases d <;> first | exact hp.elim | skip
      · refine .inl ⟨O, env, eo, ?_⟩
        rw [r]
        intro v H' s q
        obtain ⟨a, xs, rfl, h1, h2⟩ := inv_l q
        exact ⟨a, rfl, ⟨xs, sqL_mono cut_le h1⟩, hp _ _ s (wd_list h1 h2)⟩
      · refine .inr ⟨O, env, eo, ?_⟩
        rw [r]
        intro v H' s q
        obtain ⟨a, xs, rfl, h1, h2⟩ := inv_t q
        exact ⟨a, rfl, ⟨xs, sqT_mono cut_le h1⟩, hp _ _ s (wd_tup h1 h2)⟩
  | rng1 =>
    dsimp only [itArgs] at h
    split at h <;> first | cases h | skip
    split at h <;> first | cases h | skip
    rename_i hc
    obtain ⟨rfl, hg, hb⟩ := hc
    rw [List.all_cons, Bool.and_eq_true] at ok
    refine pi_imp (pi_range1 (gl_of g hg) (g.bls _ hb) pa (by rw [star_of ok.1]; rfl)) fun σ H R ⟨O, env, eo, hp⟩ => ?_
    refine ⟨O, env, eo, (post_i (X := X) hp).imp fun vs H1 _ ⟨s1, ds, q, hp⟩ => ?_⟩
    have hp : Post (repI X.K O .rng1) G σ H1 W (fun J H' => R J H') (itRng1 ds) := hp
    unfold itRng1 at hp
    split at hp <;> first | exact hp.elim | skip
    cases q with
    | cons q1 q2 =>
      cases q2
      obtain ⟨hc, hp⟩ := iteP hp
      rw [inv_i q1]
      exact ⟨_, rfl, by omega, by omega, hp _ _ (Same.refl _) wd_range⟩
  | rng2 =>
    dsimp only [itArgs] at h
    split at h <;> first | cases h | skip
    split at h <;> first | cases h | skip
    rename_i hc
    obtain ⟨rfl, hg, hb⟩ := hc
    rw [List.all_cons, Bool.and_eq_true, List.all_cons, Bool.and_eq_true] at ok
    refine pi_imp (pi_range2 (gl_of g hg) (g.bls _ hb) pa (by rw [star_of ok.1, star_of ok.2.1]; rfl) (by rw [star_of ok.2.1]; rfl)) fun σ H R ⟨O, env, eo, hp⟩ => ?_
    refine ⟨O, env, eo, (post_i (X := X) hp).imp fun vs H1 _ ⟨s1, ds, q, hp⟩ => ?_⟩
    have hp : Post (repI X.K O .rng2) G σ H1 W (fun J H' => R J H') (itRng2 ds) := hp
    unfold itRng2 at hp
    split at hp <;> first | exact hp.elim | skip
    cases q with
    | cons q1 q2 =>
      cases q2 with
      | cons q2 q3 =>
        cases q3
        obtain ⟨hc, hp⟩ := iteP hp
        rw [inv_i q1, inv_i q2]
        exact ⟨_, _, rfl, ⟨by omega, by omega, by omega, by omega⟩, hp _ _ (Same.refl _) wd_range⟩
  | enum =>
    dsimp only [itArgs] at h
    split at h <;> first | cases h | skip
    split at h <;> first | cases h | skip
    rename_i hc
    obtain ⟨rfl, hg, hb⟩ := hc
    rw [List.all_cons, Bool.and_eq_true] at ok
    refine pi_imp (pi_enum (gl_of g hg) (g.bls _ hb) pa (by rw [star_of ok.1]; rfl)) fun σ H R ⟨O, env, eo, hp⟩ => ?_
    refine ⟨O, env, eo, (post_i (X := X) hp).imp fun vs H1 _ ⟨s1, ds, q, hp⟩ => ?_⟩
    have hp : Post (repI X.K O .enum) G σ H1 W (fun J H' => R J H') (itEnum ds) := hp
    unfold itEnum at hp
    split at hp <;> first | exact hp.elim | skip
    cases q with
    | cons q1 q2 =>
      cases q2
      obtain ⟨a, xs, rfl, h1, h2⟩ := inv_l q1
      exact ⟨a, xs, rfl, sqL_mono cut_le h1, hp _ _ (Same.refl _) (wd_enum h1 h2)⟩
  | zip =>
    dsimp only [itArgs] at h
    split at h <;> first | cases h | skip
    split at h <;> first | cases h | skip
    rename_i hc
    obtain ⟨rfl, hg, hb⟩ := hc
    rw [List.all_cons, Bool.and_eq_true, List.all_cons, Bool.and_eq_true] at ok
    refine pi_imp (pi_zip (gl_of g hg) (g.bls _ hb) pa (by rw [star_of ok.1]) (plain_of (by rw [List.all_cons, ok.2.1]; rfl))) fun σ H R ⟨O, env, eo, hp⟩ => ?_
    refine ⟨O, env, eo, (post_i (X := X) hp).imp fun vs H1 _ ⟨s1, ds, q, hp⟩ => ?_⟩
    have hp : Post (repI X.K O .zip) G σ H1 W (fun J H' => R J H') (itZip ds) := hp
    unfold itZip at hp
    split at hp <;> first | exact hp.elim | skip
    cases q with
    | cons q1 q2 =>
      cases q2 with
      | cons q2 q3 =>
        cases q3
        obtain ⟨a, xs, rfl, h1, h2⟩ := inv_l q1
        obtain ⟨b, ys, rfl, h3, h4⟩ := inv_l q2
        exact ⟨a, b, xs, ys, rfl, sqL_mono cut_le h1, sqL_mono cut_le h3, hp _ _ (Same.refl _) (wd_zip h1 h2 h3 h4)⟩
  | rev => cases h
  | rng3 => cases h
end

/-! ### targets -/
def locB (C : Ct) (fnb : Str → Bool) (x : Str) : Bool := match C.sc.names.lookup x with
  | some .local => true
  | some .cell => fnb x
  | _ => false
def tgN (C : Ct) (fnb : Str → Bool) (i : Nat) : Expr → Bool
  | .Name x _ => decide (C.N[i]? = some x) && locB C fnb x
  | _ => false
def tgNs (C : Ct) (fnb : Str → Bool) : List Nat → List Expr → Bool
  | [], [] => true
  | i :: is, e :: es => tgN C fnb i e && tgNs C fnb is es
  | _, _ => false
def tgT (C : Ct) (fnb : Str → Bool) (is : List Nat) : Expr → Bool
  | .Tuple es _ _ => C.cm && tgNs C fnb is es
  | _ => false
def chkG (C : Ct) (fnb : Str → Bool) : Tg → Expr → Bool
  | .nm i, e => tgN C fnb i e
  | .tp is, e => tgT C fnb is e
def gsOf : List Nat → TGs
  | [] => gNil
  | i :: is => gCons (gName i) (gsOf is)
def gOf (K : PySem.W.Frag) : Tg → TG
  | .nm i => gName i
  | .tp is => gTup K is.length (gsOf is)
def setS : L2.St → List Nat → List V → L2.St
  | σ, i :: is, v :: vs => setS (σ.set i (some v)) is vs
  | σ, _, _ => σ
section
variable {C : Ct} {F : Nat → List D → R D} {G : Gs} {W : WX} {X : Cx} {fnb : Str → Bool}
theorem pg_tgN (g : Gd C F G W X) (hf : ∀ x, fnb x = true → X.fn x = true) {i : Nat} {e : Expr} (h : tgN C fnb i e = true) : (∃ x pos, e = .Name x pos) ∧ PG X e (gName i) := by
  unfold tgN at h
  split at h <;> first | cases h | skip
  rename_i x pos
  rw [Bool.and_eq_true, decide_eq_true_eq] at h
  obtain ⟨h1, h2⟩ := h
  unfold locB at h2
  have hi : X.N[i]? = some x := by rw [g.N]; exact h1
  refine ⟨⟨x, pos, rfl⟩, ?_⟩
  split at h2
  · rename_i q
    exact pg_name (by rw [g.N]; exact g.nd) hi (.inl (by rw [g.sc]; exact q)) (.inr (by rw [g.sc]; exact q))
  · rename_i q
    exact pg_name (by rw [g.N]; exact g.nd) hi (.inr (by rw [g.sc]; exact q)) (.inl (hf x h2))
  · cases h2
theorem pgs_tgNs (g : Gd C F G W X) (hf : ∀ x, fnb x = true → X.fn x = true) : ∀ {is : List Nat} {es : List Expr}, tgNs C fnb is es = true → PGs X es (gsOf is) ∧ (assignEach es X.env).length = is.length ∧ (assignEach es X.env).findIdx? (·.1) = none
  | [], [], _ => ⟨pgs_nil, rfl, rfl⟩
  | i :: is, e :: es, h => by
    have h' : (tgN C fnb i e && tgNs C fnb is es) = true := h
    rw [Bool.and_eq_true] at h'
    obtain ⟨⟨x, pos, rfl⟩, p⟩ := pg_tgN g hf h'.1
    obtain ⟨ps, e1, e2⟩ := pgs_tgNs g hf h'.2
    refine ⟨pgs_cons p ps rfl, ?_, ?_⟩
    · show (assignEach es X.env).length + 1 = is.length + 1
      rw [e1]
    · show ((false, assign (.Name x pos) X.env) :: assignEach es X.env).findIdx? (·.1) = none
      rw [List.findIdx?_cons, e2]
      rfl
  | [], _ :: _, h => by cases h
  | _ :: _, [], h => by cases h
theorem pg_chk (g : Gd C F G W X) (hf : ∀ x, fnb x = true → X.fn x = true) {t : Tg} {e : Expr} (h : chkG C fnb t e = true) : PG X e (gOf X.K t) := by
  cases t with
  | nm i => exact (pg_tgN g hf h).2
  | tp is =>
    have h : tgT C fnb is e = true := h
    unfold tgT at h
    split at h
    · rw [Bool.and_eq_true] at h
      obtain ⟨ps, e1, e2⟩ := pgs_tgNs g hf h.2
      exact pg_tup (g.calm h.1) ps e1 e2
    · cases h
end
section
variable {K : PySem.W.Frag} {O : List Addr} {σ : L2.St} {H : Hp} {env : Env}
theorem EnvOk.set (h : EnvOk K O σ H env) {v : V} {d : D} (i : Nat) (r : Dq K (cut H O) v d) : EnvOk K O (σ.set i (some v)) H (env.set i (some d)) := by
  refine ⟨h.al, by rw [List.length_set, List.length_set, h.len], fun j e q => ?_⟩
  by_cases hj : i = j
  · subst hj
    by_cases hl : i < env.length
    · rw [List.getElem?_set_self hl] at q
      cases q
      exact ⟨v, by rw [List.getElem?_set_self (by rw [h.len]; exact hl)], r⟩
    · rw [List.getElem?_eq_none (by rw [List.length_set]; omega)] at q
      cases q
  · rw [List.getElem?_set_ne hj] at q ⊢
    exact h.at_ j e q
theorem EnvOk.unset (h : EnvOk K O σ H env) (i : Nat) : EnvOk K O (σ.set i none) H (env.set i none) := by
  refine ⟨h.al, by rw [List.length_set, List.length_set, h.len], fun j e q => ?_⟩
  by_cases hj : i = j
  · subst hj
    by_cases hl : i < env.length
    · rw [List.getElem?_set_self hl] at q
      cases q
    · rw [List.getElem?_eq_none (by rw [List.length_set]; omega)] at q
      cases q
  · rw [List.getElem?_set_ne hj] at q ⊢
    exact h.at_ j e q
theorem EnvOk.wipe (h : EnvOk K O σ H env) : ∀ vs : List Nat, EnvOk K O (wipe σ vs) H (wipeE env vs)
  | [] => h
  | v :: vs => (EnvOk.wipe h vs).unset v
theorem EnvOk.more (h : EnvOk K O σ H env) {p : Addr} {o : HO} (hp : H p = some o) (n : ∀ (i : Nat) (d : D), env[i]? = some (some d) → ∃ v, σ[i]? = some (some v) ∧ Dq K (cut H (p :: O)) v d) : EnvOk K (p :: O) σ H env :=
  ⟨fun q hq => by
    rcases List.mem_cons.mp hq with e | hq
    · rw [e]; exact ⟨o, hp⟩
    · exact h.al q hq, h.len, n⟩
theorem setAll_ok : ∀ {is : List Nat} {vs : List V} {ds : List D} {σ : L2.St} {env : Env}, EnvOk K O σ H env → DqAll K (cut H O) vs ds → is.length = ds.length → EnvOk K O (setS σ is vs) H (setAll env is ds)
  | [], _, _, _, _, h, _, _ => h
  | i :: is, _, _, _, _, h, .cons r t, e => by
    rw [setS, setAll]
    exact setAll_ok (h.set i r) t (by simpa using e)
  | _ :: _, _, _, _, _, _, .nil, e => by cases e
theorem gs_run : ∀ {is : List Nat} {vs : List V} {σ : L2.St} {Q : L2.St → Hp → Prop}, is.length = vs.length → Q (setS σ is vs) H → gsOf is vs σ H Q
  | [], [], _, _, _, q => ⟨rfl, q⟩
  | i :: is, v :: vs, _, _, e, q => ⟨v, vs, rfl, gs_run (by simpa using e) q⟩
  | [], _ :: _, _, _, e, _ => by cases e
  | _ :: _, [], _, _, e, _ => by cases e
theorem wipe_setA {σ : L2.St} {i : Nat} {x : Option V} : ∀ vs : List Nat, (L2.wipe (σ.set i x) vs).set i none = (L2.wipe σ vs).set i none
  | [] => by
    show (σ.set i x).set i none = σ.set i none
    rw [List.set_set]
  | v :: vs => by
    show ((L2.wipe (σ.set i x) vs).set v none).set i none = ((L2.wipe σ vs).set v none).set i none
    have ih := wipe_setA (σ := σ) (i := i) (x := x) vs
    by_cases e : v = i
    · subst e
      rw [List.set_set, List.set_set]
      exact ih
    · rw [List.set_comm _ _ e, ih, List.set_comm _ _ (Ne.symm e)]
theorem wipe_set {σ : L2.St} {i : Nat} {x : Option V} : ∀ {vs : List Nat}, i ∈ vs → L2.wipe (σ.set i x) vs = L2.wipe σ vs
  | v :: vs, h => by
    show (L2.wipe (σ.set i x) vs).set v none = (L2.wipe σ vs).set v none
    by_cases e : i = v
    · subst e
      exact wipe_setA vs
    · rcases List.mem_cons.mp h with h | h
      · exact absurd h e
      · rw [wipe_set h]
theorem wipe_wipe {σ : L2.St} : ∀ vs : List Nat, L2.wipe (L2.wipe σ vs) vs = L2.wipe σ vs
  | [] => rfl
  | v :: vs => by
    show (L2.wipe ((L2.wipe σ vs).set v none) vs).set v none = (L2.wipe σ vs).set v none
    rw [wipe_setA vs, wipe_wipe vs]
def tgIn (vs : List Nat) : Tg → Prop
  | .nm i => i ∈ vs
  | .tp is => ∀ i ∈ is, i ∈ vs
theorem setS_wipe {vs : List Nat} : ∀ {is : List Nat} {xs : List V} {σ : L2.St}, (∀ i ∈ is, i ∈ vs) → L2.wipe (setS σ is xs) vs = L2.wipe σ vs
  | [], _, _, _ => rfl
  | i :: is, [], _, _ => rfl
  | i :: is, x :: xs, σ, h => by
    rw [setS, setS_wipe fun j hj => h j (List.mem_cons_of_mem _ hj), wipe_set (h i List.mem_cons_self)]
/-- a target takes a value -/
theorem g_run {t : Tg} {x : V} {d : D} {env' : Env} {Q : L2.St → Hp → Prop} (h : EnvOk K O σ H env) (r : Dq K (cut H O) x d) (e : t.asg d env = .ok env') (q : ∀ σ', EnvOk K O σ' H env' → (∀ vs, tgIn vs t → L2.wipe σ' vs = L2.wipe σ vs) → Q σ' H) : gOf K t x σ H Q := by
  cases t with
  | nm i =>
    cases e
    exact q _ (h.set i r) fun vs hv => wipe_set hv
  | tp is =>
    cases d <;> first | cases e | skip
    rename_i ds
    dsimp only [Tg.asg] at e
    by_cases hl : ds.length = is.length
    · rw [if_pos hl] at e
      cases e
      obtain ⟨a, xs, rfl, h1, h2⟩ := inv_t r
      refine ⟨a, xs, rfl, sqT_mono cut_le h1, by rw [dps_len h2, hl], gs_run (by rw [dps_len h2, hl]) (q _ (setAll_ok h h2 hl.symm) fun vs hv => setS_wipe hv)⟩
    · rw [if_neg hl] at e
      cases e
end
end Bs

namespace Bs
open PySem PySem.Spec L2
open PyProof.Rows hiding St

theorem R.bind_assoc {α β γ : Type} (r : R α) (f : α → R β) (g : β → R γ) : (r.bind f).bind g = r.bind fun a => (f a).bind g := by cases r <;> rfl

/-! ### the check of an expression against the text -/
def leafT : Expr → Bool
  | .Name .. => true
  | .Constant .. => true
  | .BinOp .. => true
  | .Call .. => true
  | .Subscript .. => true
  | .Tuple .. => true
  | .List .. => true
  | .ListComp .. => true
  | _ => false
def tstE : Expr → Bool
  | .Compare .. => true
  | .BoolOp .. => true
  | .UnaryOp .Not _ _ => true
  | e => leafT e
def blkCt (C : Ct) (scope : Scope) : Ct := { C with sc := relS scope C.sc }
def fnbOf (scope : Scope) : Str → Bool := fun x => scope.names.lookup x == some .cell
def tgInB (vs : List Nat) : Tg → Bool
  | .nm i => vs.contains i
  | .tp is => is.all fun i => vs.contains i
mutual
def chkE (C : Ct) : E → Expr → Bool
  | .v i, e => (match e with
    | .Name x _ => decide (C.N[i]? = some x) && (isVis C.sc x && (notDbg x && notCls x))
    | _ => false)
  | .i n, e => (match e with
    | .Constant (.int k) _ _ => decide (n = k)
    | .Name x _ => decide ((x, n) ∈ C.gis) && (isGl C.sc x && notDbg x)
    | _ => false)
  | .b n, e => (match e with
    | .Constant (.bool k) _ _ => decide (n = k)
    | _ => false)
  | .s n, e => (match e with
    | .Constant (.str k) _ _ => decide (n = k)
    | _ => false)
  | .non, e => (match e with
    | .Constant .none _ _ => true
    | _ => false)
  | .op o a b, e => (match e with
    | .BinOp a' o' b' _ => decide (o' = o.py) && (chkE C a a' && chkE C b b')
    | _ => false)
  | .neg a, e => (match e with
    | .UnaryOp .USub a' _ => chkE C a a'
    | _ => false)
  | .cmp o a b, e => (match e with
    | .Compare a' [o'] [b'] _ => decide (o' = o.py) && (chkE C a a' && chkE C b b')
    | _ => false)
  | .chain o o2 a b c, e => (match e with
    | .Compare a' [o', o2'] [b', c'] _ => decide (o' = o.py) && (decide (o2' = o2.py) && (chkE C a a' && (chkE C b b' && chkE C c c')))
    | _ => false)
  | .and a b, e => (match e with
    | .BoolOp .And (a' :: b' :: r) p => chkE C a a' && (tstE a' && chkE C b (.BoolOp .And (b' :: r) p))
    | _ => false)
  | .or a b, e => (match e with
    | .BoolOp .Or (a' :: b' :: r) p => chkE C a a' && (tstE a' && chkE C b (.BoolOp .Or (b' :: r) p))
    | _ => false)
  | .one a, e => (match e with
    | .BoolOp _ [a'] _ => chkE C a a' && tstE a'
    | _ => false)
  | .not a, e => (match e with
    | .UnaryOp .Not a' _ => chkE C a a' && tstE a'
    | _ => false)
  | .ife c a b, e => (match e with
    | .IfExp c' a' b' _ => chkE C c c' && (tstE c' && (chkE C a a' && chkE C b b'))
    | _ => false)
  | .tup es, e => (match e with
    | .Tuple es' _ _ => chkEs C es es' && decide (es'.length ≤ 1000)
    | _ => false)
  | .lst es, e => (match e with
    | .List es' _ => chkEs C es es' && decide (es'.length ≤ 1000)
    | _ => false)
  | .ix a i, e => (match e with
    | .Subscript a' i' _ => chkE C a a' && chkE C i i'
    | _ => false)
  | .sl a lo hi, e => (match e with
    | .Subscript a' (.Slice l h none _) _ => chkE C a a' && (chkEs C lo l.toList && chkEs C hi h.toList)
    | _ => false)
  | .call f es, e => (match e with
    | .Call (.Name x _) as [] _ => decide (C.fns[f]? = some (x, as.length)) && (isGl C.sc x && (notDbg x && chkEs C es as))
    | _ => false)
  | .callW f es m, e => (match e with
    | .Call (.Name x _) (a :: as) [⟨some kn, e', _⟩] _ => decide ((f, x, (a :: as).length, kn) ∈ C.kfns) && (isGl C.sc x && (notDbg x && (chkEs C es (a :: as) && chkE C m e')))
    | _ => false)
  | .bi b es, e => (match e with
    | .Call (.Name x _) (a :: as) [] _ => decide (x = b.name) && (C.cm && (isGl C.sc x && (decide (x ∈ C.bls) && chkEs C es (a :: as))))
    | _ => false)
  | .isi t a, e => (match e with
    | .Call (.Name x _) [a', .Name t' _] [] _ => decide (x = "isinstance") && (isGl C.sc x && (decide (x ∈ C.bls) && (chkE C a a' && (isGl C.sc t' && (decide (t' ∈ C.bls) && (decide (t' ≠ "__name__") && (notDbg t' &&
        (match bootBuiltins t' with
          | some (.type u) => decide (u = t)
          | _ => false))))))))
    | _ => false)
  | .lc w ws tg c elt own, e => (match e with
    | .ListComp elt' [⟨tg', iter, ifs, 0⟩] scope _ => C.cm && (blkC C.N C.sc scope own && (okE iter && (tgInB (own.map (·.2)) tg && (chkG (blkCt C scope) (fnbOf scope) tg tg' && ((match itArgs C w tg' iter with
        | some as => chkEs C ws as
        | none => false) && (chkEs (blkCt C scope) c ifs && (ifs.all tstE && (decide (ifs.length ≤ 1) && chkE (blkCt C scope) elt elt'))))))))
    | _ => false)
def chkEs (C : Ct) : Es → List Expr → Bool
  | .nil, es => es.isEmpty
  | .cons m ms, es => (match es with
    | e :: es => chkE C m e && chkEs C ms es
    | [] => false)
end

/-! ### soundness -/
structure Snd (F : Nat → List D → R D) (G : Gs) (W : WX) (X : Cx) (m : E) (e : Expr) : Prop where
  ok : okE e = true
  pe : PE X e (rd X.K F G W m)
  pt : tstE e = true → PT X e (rdT X.K F G W m)
  pw : (∃ o vs p, e = .BoolOp o vs p) → PW X e (rdT X.K F G W m)
structure Snds (F : Nat → List D → R D) (G : Gs) (W : WX) (X : Cx) (ms : Es) (es : List Expr) : Prop where
  ok : es.all okE = true
  len : es.length = ms.len
  pa : PA X es (rds X.K F G W ms)
  one : ∀ a, es = [a] → ∃ m, ms = .cons m .nil ∧ Snd F G W X m a
section
variable {F : Nat → List D → R D} {G : Gs} {W : WX} {X : Cx} {K : PySem.W.Frag} {m ma mb mc : E} {σ : L2.St} {H : Hp} {Q : VK}
theorem rd_op2 {r : R2} {f : D → D → R D} (os : OpS K r f) (hev : ∀ env, evE F m env = (evE F ma env).bind fun x => (evE F mb env).bind fun y => f x y) (h : rd K F G W m σ H Q) : tOp r (rd K F G W ma) (rd K F G W mb) σ H Q := by
  obtain ⟨O, env, eo, hp⟩ := h
  rw [hev] at hp
  refine ⟨O, env, eo, hp.bind.imp fun x H1 _ ⟨s1, d1, r1, hp1⟩ => ⟨O, env, eo.up s1, hp1.bind.imp fun y H2 _ ⟨s2, d2, r2, hp2⟩ => ?_⟩⟩
  exact os G O σ H2 W Q x y d1 d2 (((eo.up s1).up s2).al) (dp_mono (cut_same s2) _ _ r1) r2 hp2
/-- the reading of a bool's value goes over to a test's -/
theorem rdT_tB {Qb : Bool → Hp → Prop} (h : rdT K F G W m σ H Qb) : tB (rd K F G W m) σ H Qb := by
  obtain ⟨O, env, eo, hp⟩ := h
  refine ⟨O, env, eo, hp.bind.imp fun x H1 _ ⟨s1, d1, r1, hp1⟩ => ?_⟩
  cases d1 <;> first | exact hp1.elim | skip
  exact ⟨_, inv_b r1, post_same hp1 rfl⟩
theorem pt_leaf {e : Expr} (h : leafT e = true) (p : PE X e (rd X.K F G W m)) : PT X e (rdT X.K F G W m) := by
  refine pt_imp (pt_val p ?_) fun σ H Q hq => rdT_tB hq
  cases e <;> first | (intro _; rfl) | cases h
theorem post_ofB {rep : Hp → V → D → Prop} {O : List Addr} {f : Bool → R D} {d : D} (h : Post (dp K O) G σ H W Q ((ofB d).bind f)) : ∃ k, d = .bool k ∧ Post (dp K O) G σ H W Q (f k) := by
  cases d <;> first | exact h.elim | exact ⟨_, rfl, h⟩
theorem post_ofB' {Qb : Bool → Hp → Prop} {α : Type} {rep : Hp → Bool → Bool → Prop} {f : Bool → R Bool} {d : D} (h : Post rep G σ H W Qb ((ofB d).bind f)) : ∃ k, d = .bool k ∧ Post rep G σ H W Qb (f k) := by
  cases d <;> first | exact h.elim | exact ⟨_, rfl, h⟩
theorem Gd.blk {C : Ct} (g : Gd C F G W X) (s : Shared) (H : Hp) (scope : Scope) (Ca : Addr) (cl : List (Str × Addr)) (fp : List Addr) : Gd (blkCt C scope) F G (fun _ _ _ _ => False) (X.blk s H scope (compEnvC scope cl Ca X.env) fp) where
  N := g.N
  nd := g.nd
  sc := by
    show relS scope X.env.scope = relS scope C.sc
    rw [g.sc]
  calm := g.calm
  hu := g.hu
  tk := takes0
  fns := fun i x n h => g.fns i x n h
  bls := fun x h => g.bls x h
  gis := fun x n h => g.gis x n h
  kfns := fun i x n kn h => g.kfns i x n kn h
theorem noX_cases {α β γ : Type} {rep : Hp → β → γ → Prop} {Qb : β → Hp → Prop} {r : R α} {f : α → R γ} (h : Post rep G σ H W Qb ((noX r).bind f)) : ∃ a, r = .ok a ∧ Post rep G σ H W Qb (f a) := by
  cases r with
  | stuck => exact h.elim
  | exc c p => exact h.elim
  | ok a => exact ⟨a, rfl, h⟩
end
theorem tgIn_of {vs : List Nat} {t : Tg} (h : tgInB vs t = true) : tgIn vs t := by
  cases t with
  | nm i => exact List.contains_iff_mem.mp h
  | tp is => exact fun i hi => List.contains_iff_mem.mp (List.all_eq_true.mp h i hi)

section
variable {F : Nat → List D → R D} {G : Gs} {W : WX} {X : Cx}
theorem same_cutD {H1 H2 : Hp} {D0 : Addr} {O : List Addr} (n : H1 D0 = none) (s : Same H1 H2) : Same (cut H1 O) (cut H2 (D0 :: O)) := fun a o h => by
  obtain ⟨h1, h2⟩ := cut_some h
  refine cut_of (s _ _ h1) fun m => ?_
  rcases List.mem_cons.mp m with e | m
  · subst e
    rw [n] at h1
    cases h1
  · exact h2 m
/-- the comprehension -/
theorem lc_run {C : Ct} {w : Wk} {ws : Es} {tg : Tg} {c : Es} {elt : E} {own : List (Str × Nat)} (ti : tgIn (own.map (·.2)) tg) {σ : L2.St} {H : Hp} {Q : VK} (h : rdN X.K F G W (.lc w ws tg c elt own) σ H Q) :
    tLc (rdI X.K F G W w ws) (gOf X.K tg) (rdTs X.K F G (fun _ _ _ _ => False) c) (rd X.K F G (fun _ _ _ _ => False) elt) (own.map (·.2)) σ H Q := by
  obtain ⟨O, env, eo, hp⟩ := h
  rw [evE, R.bind_assoc] at hp
  refine ⟨O, env, eo, (Post.bind (rep := repI X.K O w) hp).imp fun J H1 _ ⟨s1, items, wd, hp1⟩ => fun D0 hD => ?_⟩
  have wd := repI_toD wd
  generalize hvs : own.map (·.2) = vs at *
  generalize hfx : (fun x => noX ((tg.asg x (wipeE env vs)).bind fun env' => (evEs F c env').bind fun cs => (tstD cs).bind fun k => if k = true then (evE F elt env').bind fun d => R.ok (some d) else R.ok none)) = fx at hp1
  unfold lcD at hp1
  by_cases hsz : items.length ≤ 1000000
  case neg =>
    rw [if_neg hsz] at hp1
    exact hp1.elim
  rw [if_pos hsz, R.bind_assoc] at hp1
  have hp1 : Post (dpn X.K O H) G σ H1 W Q ((compL fx items).bind fun ds => .ok (.list ds)) := hp1
  have hDH : H D0 = none := by
    cases q : H D0 with
    | none => rfl
    | some o =>
      rw [s1 _ _ q] at hD
      cases hD
  have wd : Walk J items.length (fun H => Same (cut H1 O) H) (fun i H x H2 => Same H H2 ∧ ∀ O', Alloc O' H → Same (cut H1 O) (cut H O') → ∃ d, items[i]? = some d ∧ Dq X.K (cut H2 O') x d) := wd
  refine lc_it wd (fun i H2 => i ≤ items.length ∧ Same H1 H2 ∧ ∃ (ys : List V) (acc : List D), H2 D0 = some (.lst ys) ∧ DqAll X.K (cut H2 (D0 :: O)) ys acc ∧ acc.length ≤ i ∧ Post (dpn X.K O H) G σ H1 W Q ((compL fx (items.drop i)).bind fun r => .ok (.list (acc ++ r))))
    ⟨Nat.zero_le _, Same.new hD, [], [], upd_same, .nil, Nat.le_refl _, by rw [List.drop_zero]; exact hp1⟩
    (fun i H2 _ ⟨_, s2, _⟩ => cut_le.trans s2) ?_ ?_
  · rintro i x H2 H3 hi ⟨_, s2, ys, acc, e1, e2, hl, hp2⟩ ⟨s3, hy⟩
    have al1 : Alloc O H1 := eo.al.mono s1
    have al2 : Alloc (D0 :: O) H2 := fun a ha => by
      rcases List.mem_cons.mp ha with e | ha
      · rw [e]; exact ⟨_, e1⟩
      · exact (al1.mono s2) a ha
    obtain ⟨d, hd, rx⟩ := hy (D0 :: O) al2 (same_cutD hD s2)
    have hdr : items.drop i = d :: items.drop (i + 1) := by
      obtain ⟨hlt, e⟩ := List.getElem?_eq_some_iff.mp hd
      rw [← e]
      exact List.drop_eq_getElem_cons hlt
    rw [hdr, compL, R.bind_assoc] at hp2
    rw [← hfx] at hp2
    obtain ⟨o, ho, hp3⟩ := noX_cases hp2
    rw [hfx] at hp3
    rw [R.bind_assoc] at hp3
    have hp3 : Post (dpn X.K O H) G σ H1 W Q ((compL fx (items.drop (i + 1))).bind fun r => .ok (.list (acc ++ (o.toList ++ r)))) := hp3
    -- the assignment
    cases q1 : tg.asg d (wipeE env vs) with
    | stuck => rw [q1] at ho; cases ho
    | exc c p => rw [q1] at ho; cases ho
    | ok env' =>
      rw [q1] at ho
      have ho : ((evEs F c env').bind fun cs => (tstD cs).bind fun k => if k = true then (evE F elt env').bind fun d => R.ok (some d) else R.ok none) = .ok o := ho
      have eb : EnvOk X.K (D0 :: O) (L2.wipe σ vs) H3 (wipeE env vs) := by
        have eo1 : EnvOk X.K O σ H1 env := eo.up s1
        have z : EnvOk X.K (D0 :: O) σ H3 env := ⟨al2.mono s3, eo.len, fun j e q => by
          obtain ⟨v, a1, a2⟩ := eo1.at_ j e q
          exact ⟨v, a1, dp_mono (same_cutD hD (s2.trans s3)) _ _ a2⟩⟩
        exact z.wipe vs
      refine g_run eb rx q1 fun σ' eo' hw => ⟨by rw [hw vs ti, wipe_wipe], ?_⟩
      cases q2 : evEs F c env' with
      | stuck => rw [q2] at ho; cases ho
      | exc c p => rw [q2] at ho; cases ho
      | ok cs =>
        rw [q2] at ho
        cases q3 : tstD cs with
        | stuck => simp [q3] at ho
        | exc c p => simp [q3] at ho
        | ok k =>
          simp only [R.bind_ok, q3] at ho
          refine ⟨D0 :: O, env', eo', ?_⟩
          rw [q2]
          simp only [R.bind_ok, q3]
          intro b H5 s5 hb
          have hb : b = k := hb
          subst hb
          cases b with
          | false =>
            rw [if_neg Bool.false_ne_true] at ho ⊢
            cases ho
            exact ⟨hi, (s2.trans s3).trans s5, ys, acc, s5 _ _ (s3 _ _ e1), dps_mono (cut_same (s3.trans s5)) _ _ e2, by omega, hp3⟩
          | true =>
            rw [if_pos rfl] at ho ⊢
            cases q4 : evE F elt env' with
            | stuck => rw [q4] at ho; cases ho
            | exc c p => rw [q4] at ho; cases ho
            | ok d2 =>
              rw [q4] at ho
              cases ho
              refine ⟨D0 :: O, env', eo'.up s5, ?_⟩
              rw [q4]
              intro y H6 s6 ry
              have s26 : Same H2 H6 := (s3.trans s5).trans s6
              have eD : H6 D0 = some (.lst ys) := s26 _ _ e1
              have nol : ∀ a o, H1 a = some o → a ≠ D0 := fun a o q e => by
                subst e
                rw [hD] at q
                cases q
              have s6u : Same (cut H6 (D0 :: O)) (cut (upd H6 D0 (.lst (ys ++ [y]))) (D0 :: O)) := fun a o q => by
                obtain ⟨q1, q2⟩ := cut_some q
                refine cut_of ?_ q2
                rw [upd_ne (fun e => q2 (by rw [e]; exact List.mem_cons_self))]
                exact q1
              refine ⟨ys, eD, ?_, hi, fun a o q => ?_, ys ++ [y], acc ++ [d2], upd_same, ?_, ?_, ?_⟩
              · have h1 := dps_len e2
                have h2 : (1000000 : Nat) < sizeLine := by decide
                omega
              · rw [upd_ne (nol a o q)]
                exact s26 _ _ (s2 _ _ q)
              · exact dps_app (dps_mono s6u _ _ (dps_mono (cut_same s26) _ _ e2)) (.cons (dp_mono s6u _ _ ry) .nil)
              · rw [List.length_append]
                exact Nat.succ_le_succ hl
              · have e9 : (fun r => R.ok (PyData.list (acc ++ ((some d2).toList ++ r)))) = fun r => R.ok (PyData.list ((acc ++ [d2]) ++ r)) := by
                  funext r
                  simp
                rw [e9] at hp3
                exact hp3
  · rintro H2 ⟨_, s2, ys, acc, e1, e2, hl, hp2⟩
    rw [List.drop_length, compL] at hp2
    have hp2 : Post (dpn X.K O H) G σ H1 W Q (.ok (.list (acc ++ []))) := hp2
    rw [List.append_nil] at hp2
    exact hp2 _ _ s2 ⟨D0, ys, acc, rfl, rfl, hDH, e1, e2⟩
end

section
variable {F : Nat → List D → R D} {G : Gs}
theorem ba2 {a b : Bool} (h : (a && b) = true) : a = true ∧ b = true := by simpa using h
theorem snd_pt {W : WX} {X : Cx} {m : E} {e : Expr} (ok : okE e = true) (pe : PE X e (rd X.K F G W m)) (l : tstE e = true → leafT e = true) (nb : ∀ o vs p, e ≠ .BoolOp o vs p) : Snd F G W X m e :=
  ⟨ok, pe, fun h => pt_leaf (l h) pe, fun ⟨o, vs, p, h⟩ => absurd h (nb o vs p)⟩
theorem cut_whole {ds : List D} {lo hi : Option Int} (h : HT.sIx ds.length 0 lo = 0 ∧ HT.sIx ds.length ds.length hi = ds.length) : cutD ds lo hi = ds := by
  unfold cutD
  rw [h.1, h.2]
  simp
theorem lst_list {es : Es} {env : Env} {d : D} (h : evE F (.lst es) env = .ok d) : ∃ ds, d = .list ds := by
  rw [evE] at h
  cases q : evEs F es env with
  | stuck => rw [q] at h; cases h
  | exc c p => rw [q] at h; cases h
  | ok ds => rw [q] at h; cases h; exact ⟨_, rfl⟩
theorem lc_list {w : Wk} {ws : Es} {tg : Tg} {c : Es} {elt : E} {own : List (Str × Nat)} {env : Env} {d : D} (h : evE F (.lc w ws tg c elt own) env = .ok d) : ∃ ds, d = .list ds := by
  rw [evE] at h
  cases q : ((evEs F ws env).bind fun ds => iters w ds) with
  | stuck => rw [q] at h; cases h
  | exc c p => rw [q] at h; cases h
  | ok items =>
    rw [q] at h
    have h : lcD _ items = .ok d := h
    unfold lcD at h
    split at h
    · generalize compL _ items = r at h
      cases r with
      | stuck => cases h
      | exc c p => cases h
      | ok ds => cases h; exact ⟨_, rfl⟩
    · cases h
section
variable {W : WX} {X : Cx}
theorem pn_lst {es : Es} {es' : List Expr} {pos : Pos} (ss : Snds F G W X es es') (hl : es'.length ≤ 1000) : PE X (.List es' pos) (rdN X.K F G W (.lst es)) := by
  refine pe_imp (pe_lst ss.pa) fun σ H Q ⟨O, env, eo, hp⟩ => ?_
  rw [evE, R.bind_assoc] at hp
  refine ⟨O, env, eo, ?_⟩
  cases q : evEs F es env with
  | stuck => rw [q] at hp; exact hp
  | exc c p => rw [q] at hp; exact hp
  | ok ds =>
    rw [q] at hp
    intro xs H1 s1 r1
    have h4 : (1000 : Nat) ≤ sizeLine := by decide
    refine ⟨by rw [dps_len r1, evEs_len es env ds q, ← ss.len]; omega, fun p hp0 => ?_⟩
    have hH : H p = none := by
      cases z : H p with
      | none => rfl
      | some o => rw [s1 _ _ z] at hp0; cases hp0
    exact hp _ _ (s1.trans (Same.new hp0)) ⟨p, xs, ds, rfl, rfl, hH, upd_same, dps_mono (same_cutD hp0 (Same.new hp0)) _ _ r1⟩
theorem po_of {lo : Es} {l : Option Expr} (ss : Snds F G W X lo l.toList) : PO X l (rdO X.K F G W lo) := by
  cases l with
  | none =>
    have e0 : lo = .nil := by
      cases lo with
      | nil => rfl
      | cons _ _ => exact absurd ss.len (by simp [Es.len])
    subst e0
    refine ⟨fun pins s σ H Q I ⟨O, env, eo, hp⟩ => po_none.run pins s σ H Q I ?_⟩
    rw [evEs] at hp
    exact hp none H (Same.refl _) rfl
  | some e =>
    obtain ⟨m, rfl, sm⟩ := ss.one e rfl
    refine ⟨fun pins s σ H Q I ⟨O, env, eo, hp⟩ => (po_some sm.pe).run pins s σ H Q I ?_⟩
    rw [evEs, evEs, R.bind_assoc] at hp
    refine ⟨O, env, eo, (Post.bind (rep := dp X.K O) hp).imp fun x H1 _ ⟨s1, d1, r1, hp1⟩ => ?_⟩
    cases d1 <;> first | exact hp1.elim | skip
    exact ⟨_, inv_i r1, hp1 _ _ (Same.refl _) rfl⟩
theorem pts_of {c : Es} {ifs : List Expr} (ss : Snds F G W X c ifs) (h : ifs.all tstE = true) (hl : ifs.length ≤ 1) : PTs X ifs (rdTs X.K F G W c) := by
  cases ifs with
  | nil =>
    have e0 : c = .nil := by
      cases c with
      | nil => rfl
      | cons _ _ => exact absurd ss.len (by simp [Es.len])
    subst e0
    refine ⟨fun pins s σ H Q I ⟨O, env, eo, hp⟩ => pts_nil.run pins s σ H Q I ?_⟩
    rw [evEs] at hp
    exact hp true H (Same.refl _) rfl
  | cons e r =>
    have e1 : r = [] := by
      cases r with
      | nil => rfl
      | cons _ _ => exact absurd hl (by simp)
    subst e1
    obtain ⟨m, rfl, sm⟩ := ss.one e rfl
    rw [List.all_cons, Bool.and_eq_true] at h
    refine ⟨fun pins s σ H Q I ⟨O, env, eo, hp⟩ => (pts_one (sm.pt h.1)).run pins s σ H Q I ?_⟩
    rw [evEs, evEs, R.bind_assoc] at hp
    exact ⟨O, env, eo, hp⟩
theorem pn_lc {C : Ct} {w : Wk} {ws : Es} {tg : Tg} {c : Es} {elt : E} {own : List (Str × Nat)} {elt' tg' iter : Expr} {ifs as : List Expr} {scope : Scope} {pos : Pos} (g : Gd C F G W X) (hcm : C.cm = true)
    (h1 : blkC C.N C.sc scope own = true) (h2 : okE iter = true) (h3 : tgInB (own.map (·.2)) tg = true) (h4 : chkG (blkCt C scope) (fnbOf scope) tg tg' = true) (h5 : itArgs C w tg' iter = some as) (ss : Snds F G W X ws as)
    (h7 : ifs.all tstE = true) (h8 : ifs.length ≤ 1) (sc : ∀ s H Ca cl fp, Snds F G (fun _ _ _ _ => False) (X.blk s H scope (compEnvC scope cl Ca X.env) fp) c ifs)
    (se : ∀ s H Ca cl fp, PE (X.blk s H scope (compEnvC scope cl Ca X.env) fp) elt' (rd X.K F G (fun _ _ _ _ => False) elt)) : PE X (.ListComp elt' [⟨tg', iter, ifs, 0⟩] scope pos) (rdN X.K F G W (.lc w ws tg c elt own)) := by
  refine pe_imp (pe_lc (own := own) (g := gOf X.K tg) (tt := rdTs X.K F G (fun _ _ _ _ => False) c) (g.calm hcm) (by rw [g.N]; exact g.nd) (snd_it g h5 ss.ok ss.pa (fun a q => let ⟨m, e, s⟩ := ss.one a q; ⟨m, e, s.pe⟩))
    (blkOk_by (by rw [g.N, g.sc]; exact h1)) (fun s H Ca cl fp => pg_chk (g.blk s H scope Ca cl fp) (fun x hx => hx) h4) (fun s H Ca cl fp => pts_of (sc s H Ca cl fp) h7 h8) se (fold_of h2)) fun σ H Q hq => lc_run (C := C) (tgIn_of h3) hq
end
mutual
theorem snd : ∀ (m : E) {C : Ct} {W : WX} {X : Cx} {e : Expr}, Gd C F G W X → chkE C m e = true → Snd F G W X m e
  | .v i, C, W, X, e, g, h => by
    rw [chkE.eq_def] at h
    dsimp only at h
    split at h <;> first | cases h | skip
    rename_i x pos
    obtain ⟨h1, h⟩ := ba2 h
    obtain ⟨h2, h⟩ := ba2 h
    obtain ⟨h3, h4⟩ := ba2 h
    refine snd_pt rfl (pe_imp (pe_var (i := i) (by rw [g.N]; exact of_decide_eq_true h1) (by rw [g.sc]; exact isVis_ok h2) (notDbg_ok h3) (notCls_ok h4)) fun σ H Q ⟨O, env, eo, hp⟩ => ?_) (fun _ => rfl) (fun _ _ _ z => nomatch z)
    rw [evE] at hp
    unfold getE at hp
    split at hp
    · rename_i d q
      obtain ⟨v, e1, r⟩ := eo.at_ i d q
      exact ⟨v, e1, post_same hp r⟩
    · exact hp.elim
  | .i n, C, W, X, e, g, h => by
    rw [chkE.eq_def] at h
    dsimp only at h
    split at h <;> first | cases h | skip
    · have e1 := of_decide_eq_true h
      subst e1
      refine snd_pt rfl (pe_imp pe_int fun σ H Q ⟨O, env, eo, hp⟩ => ?_) (fun _ => rfl) (fun _ _ _ z => nomatch z)
      rw [evE] at hp
      exact post_same hp (.int _)
    · obtain ⟨h1, h⟩ := ba2 h
      obtain ⟨h2, h3⟩ := ba2 h
      obtain ⟨t, ht⟩ := g.gis _ _ (of_decide_eq_true h1)
      refine snd_pt rfl (pe_imp (pe_glob (v := .int n) (gl_of g h2) ht ⟨t, rfl⟩ (notDbg_ok h3)) fun σ H Q ⟨O, env, eo, hp⟩ => ?_) (fun _ => rfl) (fun _ _ _ z => nomatch z)
      rw [evE] at hp
      exact post_same hp (.int _)
  | .b n, C, W, X, e, g, h => by
    rw [chkE.eq_def] at h
    dsimp only at h
    split at h <;> first | cases h | skip
    have e1 := of_decide_eq_true h
    subst e1
    refine snd_pt rfl (pe_imp pe_bl fun σ H Q ⟨O, env, eo, hp⟩ => ?_) (fun _ => rfl) (fun _ _ _ z => nomatch z)
    rw [evE] at hp
    exact post_same hp (.bl _)
  | .s n, C, W, X, e, g, h => by
    rw [chkE.eq_def] at h
    dsimp only at h
    split at h <;> first | cases h | skip
    have e1 := of_decide_eq_true h
    subst e1
    refine snd_pt rfl (pe_imp pe_str fun σ H Q ⟨O, env, eo, hp⟩ => ?_) (fun _ => rfl) (fun _ _ _ z => nomatch z)
    rw [evE] at hp
    exact post_same hp (.str _)
  | .non, C, W, X, e, g, h => by
    rw [chkE.eq_def] at h
    dsimp only at h
    split at h <;> first | cases h | skip
    refine snd_pt rfl (pe_imp pe_non fun σ H Q ⟨O, env, eo, hp⟩ => ?_) (fun _ => rfl) (fun _ _ _ z => nomatch z)
    rw [evE] at hp
    exact post_same hp .non
  | .op o a b, C, W, X, e, g, h => by
    rw [chkE.eq_def] at h
    dsimp only at h
    split at h <;> first | cases h | skip
    obtain ⟨h1, h⟩ := ba2 h
    obtain ⟨h2, h3⟩ := ba2 h
    have e1 := of_decide_eq_true h1
    subst e1
    exact snd_pt rfl (pe_imp (pe_op (op_bop o) (snd a g h2).pe (snd b g h3).pe) fun σ H Q hq => rd_op2 (ops_bop o) (fun env => by rw [evE]) hq) (fun _ => rfl) (fun _ _ _ z => nomatch z)
  | .neg a, C, W, X, e, g, h => by
    rw [chkE.eq_def] at h
    dsimp only at h
    split at h <;> first | cases h | skip
    refine snd_pt rfl (pe_imp (pe_un un_neg (snd a g h).pe) fun σ H Q ⟨O, env, eo, hp⟩ => ?_) (fun z => by cases z) (fun _ _ _ z => nomatch z)
    rw [evE] at hp
    refine ⟨O, env, eo, hp.bind.imp fun x H1 _ ⟨s1, d1, r1, hp1⟩ => ?_⟩
    cases d1 <;> first | exact hp1.elim | skip
    exact ⟨_, inv_i r1, post_same hp1 (.int _)⟩
  | .cmp o a b, C, W, X, e, g, h => by
    rw [chkE.eq_def] at h
    dsimp only at h
    split at h <;> first | cases h | skip
    obtain ⟨h1, h⟩ := ba2 h
    obtain ⟨h2, h3⟩ := ba2 h
    have e1 := of_decide_eq_true h1
    subst e1
    have sa := snd a g h2
    have sb := snd b g h3
    refine ⟨rfl, pe_imp (pe_cmpR (op_cop g.hu o) sa.pe sb.pe (mark_of sb.ok)) fun σ H Q hq => rd_op2 (ops_cop o) (fun env => by rw [evE]) hq, fun _ => pt_imp (pt_cmpR (op_cop g.hu o) sa.pe sb.pe (mark_of sb.ok)) fun σ H Q hq => ?_, fun ⟨_, _, _, z⟩ => nomatch z⟩
    have q2 : rd X.K F G W (.cmp o a b) σ H (fun x H' => ∃ k, x = .bl k ∧ Q k H') := rdT_tB hq
    exact rd_op2 (ops_cop o) (fun env => by rw [evE]) q2
  | .chain o o2 a b c, C, W, X, e, g, h => by
    rw [chkE.eq_def] at h
    dsimp only at h
    split at h <;> first | cases h | skip
    obtain ⟨h1, h⟩ := ba2 h
    obtain ⟨h2, h⟩ := ba2 h
    obtain ⟨h3, h⟩ := ba2 h
    obtain ⟨h4, h5⟩ := ba2 h
    have e1 := of_decide_eq_true h1
    subst e1
    have e2 := of_decide_eq_true h2
    subst e2
    have sa := snd a g h3
    have sb := snd b g h4
    have sc := snd c g h5
    have hm : ∀ {b' c' : Expr}, okE c' = true → lastMarks [o.py, o2.py] [b', c'] = false := fun {b' c'} z => by
      show behindInMarks o2.py c' = false
      exact mark_of z
    have go : ∀ σ H Q, rd X.K F G W (.chain o o2 a b c) σ H Q → tChain (rCop X.K o) (rCop X.K o2) (rd X.K F G W a) (rd X.K F G W b) (rd X.K F G W c) σ H Q := by
      rintro σ H Q ⟨O, env, eo, hp⟩
      rw [evE] at hp
      refine ⟨O, env, eo, hp.bind.imp fun x H1 _ ⟨s1, d1, r1, hp1⟩ => ⟨O, env, eo.up s1, hp1.bind.imp fun y H2 _ ⟨s2, d2, r2, hp2⟩ => ?_⟩⟩
      refine ops_cop o G O σ H2 W _ x y d1 d2 (((eo.up s1).up s2).al) (dp_mono (cut_same s2) _ _ r1) r2 (hp2.bind.imp fun z H3 _ ⟨s3, t, r3, hp3⟩ => ?_)
      obtain ⟨k, rfl, hp4⟩ := post_ofB (rep := dp X.K O) hp3
      refine ⟨k, inv_b r3, ?_⟩
      cases k with
      | false =>
        rw [if_neg Bool.false_ne_true] at hp4 ⊢
        exact post_same hp4 (.bl _)
      | true =>
        rw [if_pos rfl] at hp4 ⊢
        refine ⟨O, env, ((eo.up s1).up s2).up s3, hp4.bind.imp fun w H4 _ ⟨s4, d4, r4, hp5⟩ => ?_⟩
        exact ops_cop o2 G O σ H4 W Q y w d2 d4 ((((eo.up s1).up s2).up s3).up s4).al (dp_mono (cut_same (s3.trans s4)) _ _ r2) r4 hp5
    refine ⟨rfl, pe_imp (pe_chain (op_cop g.hu o) (op_cop g.hu o2) sa.pe sb.pe sc.pe (hm sc.ok)) go, fun _ => pt_imp (pt_chain (op_cop g.hu o) (op_cop g.hu o2) sa.pe sb.pe sc.pe (hm sc.ok)) fun σ H Q hq => ?_, fun ⟨_, _, _, z⟩ => nomatch z⟩
    have q2 : rd X.K F G W (.chain o o2 a b c) σ H (fun x H' => ∃ k, x = .bl k ∧ Q k H') := rdT_tB hq
    exact go _ _ _ q2
  | .and a b, C, W, X, e, g, h => by
    rw [chkE.eq_def] at h
    dsimp only at h
    split at h <;> first | cases h | skip
    obtain ⟨h1, h⟩ := ba2 h
    obtain ⟨h2, h3⟩ := ba2 h
    have sa := snd a g h1
    have sb := snd b g h3
    have pw := PW.pt (pw_imp (pw_and (sa.pt h2) (sb.pw ⟨_, _, _, rfl⟩)) (t' := rdT X.K F G W (.and a b)) fun σ H Q ⟨O, env, eo, hp⟩ => by
      rw [evE, R.bind_assoc] at hp
      refine ⟨O, env, eo, ?_⟩
      have hp' : Post repB G σ H W Q (((evE F a env).bind fun x => ofB x).bind fun k => (if k = true then evE F b env else .ok (.bool false)).bind fun x => ofB x) := by
        rw [R.bind_assoc]
        simpa [R.bind_assoc] using hp
      refine (Post.bind (rep := repB) hp').imp fun k H1 _ ⟨s1, d1, r1, hp1⟩ => ?_
      cases r1
      cases k with
      | true => exact ⟨O, env, eo.up s1, hp1⟩
      | false => exact post_same (d := false) hp1 rfl)
    refine ⟨rfl, pe_imp (pe_and sa.pe sb.pe) fun σ H Q ⟨O, env, eo, hp⟩ => ?_, fun _ => pw, fun _ => pw_imp (pw_and (sa.pt h2) (sb.pw ⟨_, _, _, rfl⟩)) fun σ H Q ⟨O, env, eo, hp⟩ => ?_⟩
    · rw [evE] at hp
      refine ⟨O, env, eo, hp.bind.imp fun x H1 _ ⟨s1, d1, r1, hp1⟩ => ?_⟩
      obtain ⟨k, rfl, hp2⟩ := post_ofB (rep := dp X.K O) hp1
      refine ⟨k, inv_b r1, ?_⟩
      cases k with
      | true => exact ⟨O, env, eo.up s1, hp2⟩
      | false => exact post_same hp2 (.bl _)
    · rw [evE, R.bind_assoc] at hp
      refine ⟨O, env, eo, ?_⟩
      have hp' : Post repB G σ H W Q (((evE F a env).bind fun x => ofB x).bind fun k => (if k = true then evE F b env else .ok (.bool false)).bind fun x => ofB x) := by
        rw [R.bind_assoc]
        simpa [R.bind_assoc] using hp
      refine (Post.bind (rep := repB) hp').imp fun k H1 _ ⟨s1, d1, r1, hp1⟩ => ?_
      cases r1
      cases k with
      | true => exact ⟨O, env, eo.up s1, hp1⟩
      | false => exact post_same (d := false) hp1 rfl
  | .or a b, C, W, X, e, g, h => by
    rw [chkE.eq_def] at h
    dsimp only at h
    split at h <;> first | cases h | skip
    obtain ⟨h1, h⟩ := ba2 h
    obtain ⟨h2, h3⟩ := ba2 h
    have sa := snd a g h1
    have sb := snd b g h3
    have go : ∀ (σ : L2.St) (H : Hp) (Q : Bool → Hp → Prop), rdT X.K F G W (.or a b) σ H Q → tOr (rdT X.K F G W a) (rdT X.K F G W b) σ H Q := by
      rintro σ H Q ⟨O, env, eo, hp⟩
      rw [evE, R.bind_assoc] at hp
      refine ⟨O, env, eo, ?_⟩
      have hp' : Post repB G σ H W Q (((evE F a env).bind fun x => ofB x).bind fun k => (if k = true then .ok (.bool true) else evE F b env).bind fun x => ofB x) := by
        rw [R.bind_assoc]
        simpa [R.bind_assoc] using hp
      refine (Post.bind (rep := repB) hp').imp fun k H1 _ ⟨s1, d1, r1, hp1⟩ => ?_
      cases r1
      cases k with
      | false => exact ⟨O, env, eo.up s1, hp1⟩
      | true => exact post_same (d := true) hp1 rfl
    refine ⟨rfl, pe_imp (pe_or sa.pe sb.pe) fun σ H Q ⟨O, env, eo, hp⟩ => ?_, fun _ => PW.pt (pw_imp (pw_or (sa.pt h2) (sb.pw ⟨_, _, _, rfl⟩)) go), fun _ => pw_imp (pw_or (sa.pt h2) (sb.pw ⟨_, _, _, rfl⟩)) go⟩
    rw [evE] at hp
    refine ⟨O, env, eo, hp.bind.imp fun x H1 _ ⟨s1, d1, r1, hp1⟩ => ?_⟩
    obtain ⟨k, rfl, hp2⟩ := post_ofB (rep := dp X.K O) hp1
    refine ⟨k, inv_b r1, ?_⟩
    cases k with
    | false => exact ⟨O, env, eo.up s1, hp2⟩
    | true => exact post_same hp2 (.bl _)
  | .one a, C, W, X, e, g, h => by
    rw [chkE.eq_def] at h
    dsimp only at h
    split at h <;> first | cases h | skip
    obtain ⟨h1, h2⟩ := ba2 h
    have sa := snd a g h1
    have e1 : ∀ env, evE F (.one a) env = evE F a env := fun env => by rw [evE]
    have er : rd X.K F G W (.one a) = rd X.K F G W a := by
      unfold rd
      simp only [e1]
    have et : rdT X.K F G W (.one a) = rdT X.K F G W a := by
      unfold rdT
      simp only [e1]
    rename_i o a' p
    have pw : PW X (.BoolOp o [a'] p) (rdT X.K F G W (.one a)) := by
      rw [et]
      cases o with
      | And => exact pw_and1 (sa.pt h2)
      | Or => exact pw_or1 (sa.pt h2)
    refine ⟨rfl, ?_, fun _ => pw.pt, fun _ => pw⟩
    rw [er]
    exact pe_one sa.pe
  | .not a, C, W, X, e, g, h => by
    rw [chkE.eq_def] at h
    dsimp only at h
    split at h <;> first | cases h | skip
    obtain ⟨h1, h2⟩ := ba2 h
    have sa := snd a g h1
    refine ⟨rfl, pe_imp (pe_not sa.pe) fun σ H Q ⟨O, env, eo, hp⟩ => ?_, fun _ => pt_imp (pt_not (sa.pt h2)) fun σ H Q ⟨O, env, eo, hp⟩ => ?_, fun ⟨_, _, _, z⟩ => nomatch z⟩
    · rw [evE] at hp
      refine ⟨O, env, eo, hp.bind.imp fun x H1 _ ⟨s1, d1, r1, hp1⟩ => ?_⟩
      obtain ⟨k, rfl, hp2⟩ := post_ofB (rep := dp X.K O) hp1
      exact ⟨k, inv_b r1, post_same hp2 (.bl _)⟩
    · rw [evE, R.bind_assoc] at hp
      refine ⟨O, env, eo, ?_⟩
      have hp' : Post repB G σ H W Q (((evE F a env).bind fun x => ofB x).bind fun k => .ok (!k)) := by
        rw [R.bind_assoc]
        simpa [R.bind_assoc, ofB] using hp
      refine (Post.bind (rep := repB) hp').imp fun k H1 _ ⟨s1, d1, r1, hp1⟩ => ?_
      cases r1
      exact post_same hp1 rfl
  | .ife c a b, C, W, X, e, g, h => by
    rw [chkE.eq_def] at h
    dsimp only at h
    split at h <;> first | cases h | skip
    obtain ⟨h1, h⟩ := ba2 h
    obtain ⟨h2, h⟩ := ba2 h
    obtain ⟨h3, h4⟩ := ba2 h
    have sc := snd c g h1
    have sa := snd a g h3
    have sb := snd b g h4
    refine snd_pt rfl (pe_imp (pe_ifExp (sc.pt h2) sa.pe sb.pe) fun σ H Q ⟨O, env, eo, hp⟩ => ?_) (fun z => by cases z) (fun _ _ _ z => nomatch z)
    rw [evE] at hp
    have hp' : Post (dp X.K O) G σ H W Q (((evE F c env).bind fun x => ofB x).bind fun k => if k = true then evE F a env else evE F b env) := by
      rw [R.bind_assoc]
      exact hp
    refine ⟨O, env, eo, (Post.bind (rep := repB) hp').imp fun k H1 _ ⟨s1, d1, r1, hp1⟩ => ?_⟩
    cases r1
    cases k with
    | true => exact ⟨O, env, eo.up s1, hp1⟩
    | false => exact ⟨O, env, eo.up s1, hp1⟩
  | .tup es, C, W, X, e, g, h => by
    rw [chkE.eq_def] at h
    dsimp only at h
    split at h <;> first | cases h | skip
    obtain ⟨h1, h2⟩ := ba2 h
    have ss := snds es g h1
    refine snd_pt rfl (pe_imp (pe_tup ss.pa) fun σ H Q ⟨O, env, eo, hp⟩ => ?_) (fun _ => rfl) (fun _ _ _ z => nomatch z)
    rw [evE] at hp
    refine ⟨O, env, eo, ?_⟩
    cases q : evEs F es env with
    | stuck => rw [q] at hp; exact hp
    | exc c p => rw [q] at hp; exact hp
    | ok ds =>
      rw [q] at hp
      intro xs H1 s1 r1
      have h3 := of_decide_eq_true h2
      have h4 : (1000 : Nat) ≤ sizeLine := by decide
      exact ⟨by rw [dps_len r1, evEs_len es env ds q, ← ss.len]; omega, fun p hp0 => hp _ _ (s1.trans (Same.new hp0)) (dq_newT (eo.al.mono s1) hp0 r1)⟩
  | .lst es, C, W, X, e, g, h => by
    rw [chkE.eq_def] at h
    dsimp only at h
    split at h <;> first | cases h | skip
    obtain ⟨h1, h2⟩ := ba2 h
    exact snd_pt rfl (pe_imp (pn_lst (snds es g h1) (of_decide_eq_true h2)) fun σ H Q hq => rdN_of (fun _ _ z => lst_list z) hq) (fun _ => rfl) (fun _ _ _ z => nomatch z)
  | .ix a i, C, W, X, e, g, h => by
    rw [chkE.eq_def] at h
    dsimp only at h
    split at h <;> first | cases h | skip
    obtain ⟨h1, h2⟩ := ba2 h
    have si := snd i g h2
    exact snd_pt rfl (pe_imp (pe_ix (ix_list.or ix_tup) (snd a g h1).pe si.pe (ix_of si.ok)) fun σ H Q hq => rd_op2 ops_ix (fun env => by rw [evE]) hq) (fun _ => rfl) (fun _ _ _ z => nomatch z)
  | .sl a lo hi, C, W, X, e, g, h => by
    rw [chkE.eq_def] at h
    dsimp only at h
    split at h <;> first | cases h | skip
    obtain ⟨h1, h⟩ := ba2 h
    obtain ⟨h2, h3⟩ := ba2 h
    refine snd_pt rfl (pe_imp (pe_slice (SlR.or sl_list sl_tupA) (snd a g h1).pe (po_of (snds lo g h2)) (po_of (snds hi g h3))) fun σ H Q ⟨O, env, eo, hp⟩ => ?_) (fun _ => rfl) (fun _ _ _ z => nomatch z)
    rw [evE] at hp
    have hp : Post (dp X.K O) G σ H W Q ((evE F a env).bind fun x => ((evEs F lo env).bind fun l => partD l).bind fun l => ((evEs F hi env).bind fun h => partD h).bind fun h => slop x l h) := by
      simpa [R.bind_assoc] using hp
    refine ⟨O, env, eo, hp.bind.imp fun x H1 _ ⟨s1, d1, r1, hp1⟩ => ⟨O, env, eo.up s1, (Post.bind (rep := fun _ o o' => o = o') hp1).imp fun l H2 _ ⟨s2, l', rl, hp2⟩ => ⟨O, env, (eo.up s1).up s2, (Post.bind (rep := fun _ o o' => o = o') hp2).imp fun u H3 _ ⟨s3, u', ru, hp3⟩ => ?_⟩⟩⟩
    subst rl
    subst ru
    have al3 := (((eo.up s1).up s2).up s3).al
    have r3 := dp_mono (cut_same (s2.trans s3)) _ _ r1
    cases d1 <;> first | exact hp3.elim | skip
    · obtain ⟨p, xs, rfl, q1, q2⟩ := inv_l r3
      exact .inl ⟨p, xs, rfl, sqL_mono cut_le q1, fun p hp0 => hp3 _ _ (Same.new hp0) (dq_new al3 hp0 (cut_dq _ _ q2))⟩
    · obtain ⟨p, xs, rfl, q1, q2⟩ := inv_t r3
      refine .inr ⟨p, xs, rfl, sqT_mono cut_le q1, fun hw => ?_, fun _ p hp0 => hp3 _ _ (Same.new hp0) (dq_newT al3 hp0 (cut_dq _ _ q2))⟩
      refine hp3 _ _ (Same.refl _) ?_
      have e9 : cutD _ l u = _ := cut_whole (by rw [← dps_len q2]; exact hw)
      rw [e9]
      exact r3
  | .call f es, C, W, X, e, g, h => by
    rw [chkE.eq_def] at h
    dsimp only at h
    split at h <;> first | cases h | skip
    rename_i x pp as pos
    obtain ⟨h1, h⟩ := ba2 h
    obtain ⟨h2, h⟩ := ba2 h
    obtain ⟨h3, h4⟩ := ba2 h
    have ss := snds es g h4
    obtain ⟨k, fa, fd, ps, ds, dvs, sp, FO, hr, hm, hk, hb, hd, imp⟩ := g.fns f x as.length (of_decide_eq_true h1)
    refine snd_pt rfl ?_ (fun _ => rfl) (fun _ _ _ z => nomatch z)
    have fin : ∀ σ H Q, rd X.K F G W (.call f es) σ H Q → rds X.K F G W es σ H fun vs H1 => sp (vs ++ dvs) H1 Q (WE W σ) := by
      rintro σ H Q ⟨O, env, eo, hp⟩
      rw [evE] at hp
      refine ⟨O, env, eo, ?_⟩
      cases q : evEs F es env with
      | stuck => rw [q] at hp; exact hp
      | exc c p => rw [q] at hp; exact hp
      | ok xs =>
        rw [q] at hp
        intro vs H1 s1 r1
        refine imp vs H1 Q (WE W σ) ⟨O, xs, eo.al.mono s1, by rw [dps_len r1, evEs_len es env xs q, ss.len], r1, ?_⟩
        have hp2 : Post (dp X.K O) G σ H1 W Q (F f xs) := Post.up s1 hp
        cases z : F f xs with
        | stuck => rw [z] at hp2; exact hp2
        | ok d => rw [z] at hp2; exact hp2
        | exc c p => rw [z] at hp2; exact hp2
    cases as with
    | nil =>
      have e0 : es = .nil := by
        cases es with
        | nil => rfl
        | cons _ _ => exact absurd ss.len (by simp [Es.len])
      subst e0
      refine pe_imp (pe_callG0 (E := WE W) FO hr (gl_of g h2) hm hk hb hd (fun σ => passAt g.tk σ) (notDbg_ok h3)) fun σ H Q hq => ?_
      obtain ⟨O, env, eo, hp⟩ := fin σ H Q hq
      rw [evEs] at hp
      exact hp [] H (Same.refl _) .nil
    | cons a0 as =>
      have ok := ss.ok
      rw [List.all_cons, Bool.and_eq_true] at ok
      exact pe_imp (pe_callG (E := WE W) FO hr (gl_of g h2) hm hk hb hd (fun σ => passAt g.tk σ) ss.pa (notDbg_ok h3) (star_of ok.1) (plain_of ok.2)) fin
  | .callW f es m, C, W, X, e, g, h => by
    rw [chkE.eq_def] at h
    dsimp only at h
    split at h <;> first | cases h | skip
    rename_i x pp a0 as kn e' kp pos
    obtain ⟨h1, h⟩ := ba2 h
    obtain ⟨h2, h⟩ := ba2 h
    obtain ⟨h3, h⟩ := ba2 h
    obtain ⟨h4, h5⟩ := ba2 h
    have ss := snds es g h4
    have se := snd m g h5
    obtain ⟨k, fa, fd, ps, gg, sp, FO, hr, hm, hk, hb, imp⟩ := g.kfns f x (a0 :: as).length kn (of_decide_eq_true h1)
    refine snd_pt rfl ?_ (fun _ => rfl) (fun _ _ _ z => nomatch z)
    have ok := ss.ok
    have ok2 := ok
    rw [List.all_cons, Bool.and_eq_true] at ok
    refine pe_imp (pe_callK (E := WE W) FO hr (gl_of g h2) hm hk hb (fun σ => passAt g.tk σ) ss.pa (pk_cons se.pe pk_nil) rfl rfl (notDbg_ok h3) (star_of ok.1) (by rw [plain_of ok2]; rfl)) ?_
    rintro σ H Q ⟨O, env, eo, hp⟩
    rw [evE] at hp
    refine ⟨O, env, eo, ?_⟩
    cases q : evEs F es env with
    | stuck => rw [q] at hp; exact hp
    | exc c p => rw [q] at hp; exact hp
    | ok xs =>
      rw [q] at hp
      intro vs H1 s1 r1
      refine ⟨O, env, eo.up s1, ?_⟩
      have hp1 : Post (dp X.K O) G σ H1 W Q ((evE F m env).bind fun d => F f (xs ++ [d])) := Post.up s1 hp
      cases q2 : evE F m env with
      | stuck => rw [q2] at hp1; exact hp1
      | exc c p => rw [q2] at hp1; exact hp1
      | ok d =>
        rw [q2] at hp1
        intro y H2 s2 r2
        have l1 : vs.length = (a0 :: as).length := by rw [dps_len r1, evEs_len es env xs q, ss.len]
        refine ⟨l1, rfl, imp _ H2 Q (WE W σ) ⟨O, xs ++ [d], (eo.al.mono s1).mono s2, ?_, dps_app (dps_mono (cut_same s2) _ _ r1) (.cons r2 .nil), ?_⟩⟩
        · rw [List.length_append, l1]
          rfl
        have hp2 : Post (dp X.K O) G σ H2 W Q (F f (xs ++ [d])) := Post.up s2 hp1
        cases z : F f (xs ++ [d]) with
        | stuck => rw [z] at hp2; exact hp2
        | ok d => rw [z] at hp2; exact hp2
        | exc c p => rw [z] at hp2; exact hp2
  | .bi b es, C, W, X, e, g, h => by
    rw [chkE.eq_def] at h
    dsimp only at h
    split at h <;> first | cases h | skip
    rename_i x pp a0 as pos
    obtain ⟨h1, h⟩ := ba2 h
    obtain ⟨hcm, h⟩ := ba2 h
    obtain ⟨h2, h⟩ := ba2 h
    obtain ⟨h3, h4⟩ := ba2 h
    have e1 := of_decide_eq_true h1
    subst e1
    have ss := snds es g h4
    have ok := ss.ok
    rw [List.all_cons, Bool.and_eq_true] at ok
    refine snd_pt rfl (pe_imp (pe_bi (g.calm hcm) b (gl_of g h2) (g.bls _ (of_decide_eq_true h3)) ss.pa (star_of ok.1) (plain_of ok.2)) fun σ H Q ⟨O, env, eo, hp⟩ => ?_) (fun _ => rfl) (fun _ _ _ z => nomatch z)
    rw [evE] at hp
    exact ⟨O, env, eo, (Post.bind (rep := dps X.K O) hp).imp fun vs H1 _ ⟨s1, ds, r1, hp1⟩ => bi_ok (eo.al.mono s1) r1 hp1⟩
  | .isi t a, C, W, X, e, g, h => by
    rw [chkE.eq_def] at h
    dsimp only at h
    split at h <;> first | cases h | skip
    rename_i x pp a' t' tp pos
    obtain ⟨h1, h⟩ := ba2 h
    obtain ⟨h2, h⟩ := ba2 h
    obtain ⟨h3, h⟩ := ba2 h
    obtain ⟨h4, h⟩ := ba2 h
    obtain ⟨h5, h⟩ := ba2 h
    obtain ⟨h6, h⟩ := ba2 h
    obtain ⟨h7, h⟩ := ba2 h
    obtain ⟨h8, h9⟩ := ba2 h
    have e1 := of_decide_eq_true h1
    subst e1
    have sa := snd a g h4
    split at h9 <;> first | cases h9 | skip
    rename_i u hu
    have e9 := of_decide_eq_true h9
    subst e9
    have pt : PE X (.Name t' tp) (tC (.ty u)) := pe_bltn (gl_of g h5) (g.bls _ (of_decide_eq_true h6)) hu rfl (of_decide_eq_true h7) (notDbg_ok h8)
    refine snd_pt rfl (pe_imp (pe_callB call_isi (gl_of g h2) (g.bls _ (of_decide_eq_true h3)) boot_isinstance (pa_cons sa.pe (pa_cons pt pa_nil rfl) (star_of sa.ok)) (by decide +kernel) (by decide +kernel) (star_of sa.ok) (plain_of rfl)) fun σ H Q ⟨O, env, eo, hp⟩ => ?_) (fun _ => rfl) (fun _ _ _ z => nomatch z)
    rw [evE] at hp
    refine ⟨O, env, eo, hp.bind.imp fun x H1 _ ⟨s1, d1, r1, hp1⟩ => ?_⟩
    unfold isiD at hp1
    split at hp1
    · rename_i k hk
      exact ⟨x, .ty u, .type (tyD d1), .type u, k, rfl, .ty u, ty_of (dp_mono cut_le _ _ r1), kit_ty hk, post_same hp1 (.bl _)⟩
    · exact hp1.elim
  | .lc w ws tg c elt own, C, W, X, e, g, h => by
    rw [chkE.eq_def] at h
    dsimp only at h
    split at h <;> first | cases h | skip
    rename_i elt' tg' iter ifs scope pos
    obtain ⟨hcm, h⟩ := ba2 h
    obtain ⟨h1, h⟩ := ba2 h
    obtain ⟨h2, h⟩ := ba2 h
    obtain ⟨h3, h⟩ := ba2 h
    obtain ⟨h4, h⟩ := ba2 h
    obtain ⟨h5, h⟩ := ba2 h
    obtain ⟨h6, h⟩ := ba2 h
    obtain ⟨h7, h⟩ := ba2 h
    obtain ⟨h8, h9⟩ := ba2 h
    split at h5 <;> first | cases h5 | skip
    rename_i as hq
    exact snd_pt rfl (pe_imp (pn_lc g hcm h1 h2 h3 h4 hq (snds ws g h5) h7 (of_decide_eq_true h8) (fun s H Ca cl fp => snds c (g.blk s H scope Ca cl fp) h6) (fun s H Ca cl fp => (snd elt (g.blk s H scope Ca cl fp) h9).pe)) fun σ H Q hq => rdN_of (fun _ _ z => lc_list z) hq) (fun _ => rfl) (fun _ _ _ z => nomatch z)
theorem snds : ∀ (m : Es) {C : Ct} {W : WX} {X : Cx} {es : List Expr}, Gd C F G W X → chkEs C m es = true → Snds F G W X m es
  | .nil, C, W, X, es, g, h => by
    rw [chkEs.eq_def] at h
    dsimp only at h
    have e0 : es = [] := by
      cases es with
      | nil => rfl
      | cons _ _ => cases h
    subst e0
    refine ⟨rfl, rfl, pa_imp pa_nil fun σ H Q ⟨O, env, eo, hp⟩ => ?_, fun a z => nomatch z⟩
    rw [evEs] at hp
    exact hp [] H (Same.refl _) .nil
  | .cons m ms, C, W, X, es, g, h => by
    rw [chkEs.eq_def] at h
    dsimp only at h
    split at h <;> first | cases h | skip
    rename_i e es
    obtain ⟨h1, h2⟩ := ba2 h
    have s := snd m g h1
    have ss := snds ms g h2
    refine ⟨by rw [List.all_cons, s.ok, ss.ok]; rfl, congrArg Nat.succ ss.len, pa_imp (pa_cons s.pe ss.pa (star_of s.ok)) fun σ H Q ⟨O, env, eo, hp⟩ => ?_, fun a z => ?_⟩
    · rw [evEs] at hp
      refine ⟨O, env, eo, (Post.bind (rep := dp X.K O) hp).imp fun x H1 _ ⟨s1, d1, r1, hp1⟩ => ⟨O, env, eo.up s1, (Post.bind (rep := dps X.K O) hp1).imp fun xs H2 _ ⟨s2, ds, r2, hp2⟩ => ?_⟩⟩
      exact hp2 _ _ (Same.refl _) (.cons (dp_mono (cut_same s2) _ _ r1) r2)
    · cases z
      cases ms with
      | nil => exact ⟨m, rfl, s⟩
      | cons _ _ => exact absurd ss.len (by simp [Es.len])
end
end
end Bs

namespace Bs
open PySem PySem.Spec L2
open PyProof.Rows hiding St

/-! ### statements -/
mutual
inductive S where
  | pass | ret (e : E) | retN
  | set (i : Nat) (e : E) | setN (i : Nat) (e : E) | unp (is : List Nat) (e : E) | par (i j : Nat) (a b : E)
  | app (i : Nat) (e : E) | exs (e : E) | stI (i : Nat) (x e : E) | stS (i : Nat) (x e : E)
  | iff (c : E) (a b : Ss) | forr (w : Wk) (ws : Es) (tg : Tg) (b : Ss) | whil (c : E) (b : Ss)
  | raise (c : Nat) | tryx (c : Nat) (b h : Ss)
  | brk | cont
inductive Ss where
  | nil | cons (s : S) (r : Ss) | frz (i : Nat) (r : Ss)
end
/-- what a name holds: nothing, data, a list of its own that may still grow -/
inductive Sl where
  | un | fr (d : D) | ow (ds : List D)
abbrev SE := List Sl
def Sl.full : Sl → Option D
  | .un => none
  | .fr d => some d
  | .ow ds => some (.list ds)
def Sl.clean : Sl → Option D
  | .fr d => some d
  | _ => none
def fullE (env : SE) : Env := env.map Sl.full
def cleanE (env : SE) : Env := env.map Sl.clean
mutual
def lfree : D → Bool
  | .list _ => false
  | .dict _ => false
  | .tuple ds => lfrees ds
  | _ => true
def lfrees : List D → Bool
  | [] => true
  | d :: ds => lfree d && lfrees ds
end
def isOw : Sl → Bool
  | .ow _ => true
  | _ => false
def noOwn (env : SE) : Bool := env.all fun s => !isOw s
inductive Rs where
  | stuck | nx (e : SE) | rt (d : D) | bk (e : SE) | ct (e : SE) | ex (c : Nat) (p : Option Int) (e : SE)
def R.toS {α : Type} (r : R α) (env : SE) (f : α → Rs) : Rs := match r with
  | .stuck => .stuck
  | .ok a => f a
  | .exc c p => .ex c p env
@[simp] theorem R.toS_ok {α : Type} (a : α) (env : SE) (f : α → Rs) : (R.ok a).toS env f = f a := rfl
def valS (F : Nat → List D → R D) (env : SE) (e : E) : R D := (evE F e (fullE env)).bind fun d => if (lfree d || noOwn env) = true then .ok d else evE F e (cleanE env)
def lsOf : D → R (List D)
  | .list ds => .ok ds
  | _ => .stuck
def newS (F : Nat → List D → R D) (env : SE) (e : E) : R (List D) := ((evE F e (fullE env)).bind lsOf).bind fun ds => if (lfrees ds || noOwn env) = true then .ok ds else (evE F e (cleanE env)).bind lsOf
def valI (F : Nat → List D → R D) (env : SE) (w : Wk) (ws : Es) : R (List D) := match w with
  | .rng1 => evI F .rng1 ws (fullE env)
  | .rng2 => evI F .rng2 ws (fullE env)
  | w => evI F w ws (cleanE env)
def setAllS : SE → List Nat → List D → SE
  | env, i :: is, d :: ds => setAllS (env.set i (.fr d)) is ds
  | env, _, _ => env
def tgS : Tg → D → SE → Option SE
  | .nm i, d, env => some (env.set i (.fr d))
  | .tp is, .tuple ds, env => if ds.length = is.length then some (setAllS env is ds) else none
  | _, _, _ => none
def tgRun (tg : Tg) (x : D) (e : SE) (f : SE → Rs) : Rs := match tgS tg x e with
  | some e' => f e'
  | none => .stuck
def loopF (f : D → SE → Rs) : List D → SE → Rs
  | [], env => .nx env
  | x :: xs, env => match f x env with
    | .nx e => loopF f xs e
    | .ct e => loopF f xs e
    | .bk e => .nx e
    | r => r
def whileF (t : SE → R Bool) (f : SE → Rs) : Nat → SE → Rs
  | 0, _ => .stuck
  | n + 1, env => (t env).toS env fun k => if k = true then (match f env with
    | .nx e => whileF t f n e
    | .ct e => whileF t f n e
    | .bk e => .nx e
    | r => r) else .nx env
def frzS (env : SE) (i : Nat) : SE := match env[i]? with
  | some (.ow ds) => env.set i (.fr (.list ds))
  | _ => env
def appS (env : SE) (i : Nat) (r : R D) : Rs := match env[i]? with
  | some (.ow ds) => r.toS env fun d => if ds.length < 1000000 then .nx (env.set i (.ow (ds ++ [d]))) else .stuck
  | _ => .stuck
def unpS (env : SE) (is : List Nat) : D → Rs
  | .tuple ds => if ds.length = is.length then .nx (setAllS env is ds) else .stuck
  | _ => .stuck
def ownAt (env : SE) (i : Nat) : Option (List D) := match env[i]? with
  | some (.ow ds) => some ds
  | _ => none
def withOw (env : SE) (i : Nat) (f : List D → Rs) : Rs := match ownAt env i with
  | some ds => f ds
  | none => .stuck
def stK (env : SE) (i : Nat) (ds : List D) (d : D) : D → Rs
  | .int k => (match ixN ds.length k with
    | some j => .nx (env.set i (.ow (ds.set j d)))
    | none => .stuck)
  | _ => .stuck
def stSK (env : SE) (i : Nat) (ds es : List D) : D → Rs
  | .int k => if 0 ≤ k ∧ k ≤ ds.length ∧ ds.length + es.length ≤ 1000000 then .nx (env.set i (.ow (es ++ ds.drop k.toNat))) else .stuck
  | _ => .stuck
/-- the exception c is one of the class k (0: the class of all) -/
def subX (c k : Nat) : Bool := decide (c = k) || decide (k = 0)
def noEx : Rs → Rs
  | .ex _ _ _ => .stuck
  | r => r
def tryS (k : Nat) (h : SE → Rs) : Rs → Rs
  | .ex c p env => if subX c k = true then noEx (h env) else .ex c p env
  | r => r
mutual
def exS (F : Nat → List D → R D) (N : Nat) : S → SE → Rs
  | .pass, env => .nx env
  | .ret e, env => (evE F e (fullE env)).toS env .rt
  | .retN, _ => .rt .none
  | .set i e, env => (valS F env e).toS env fun d => .nx (env.set i (.fr d))
  | .setN i e, env => (newS F env e).toS env fun ds => .nx (env.set i (.ow ds))
  | .unp is e, env => (valS F env e).toS env fun d => unpS env is d
  | .par i j a b, env => (valS F env a).toS env fun x => (valS F env b).toS env fun y => .nx ((env.set i (.fr x)).set j (.fr y))
  | .app i e, env => appS env i (valS F env e)
  | .exs e, env => (evE F e (fullE env)).toS env fun _ => .nx env
  | .stI i x e, env => withOw env i fun ds => (valS F env e).toS env fun d => (evE F x (fullE env)).toS env fun k => stK env i ds d k
  | .stS i x e, env => withOw env i fun ds => ((evE F e (fullE env)).bind lsOf).toS env fun es => if lfrees es = true then (evE F x (fullE env)).toS env fun k => stSK env i ds es k else .stuck
  | .iff c a b, env => ((evE F c (fullE env)).bind ofB).toS env fun k => if k = true then exSs F N a env else exSs F N b env
  | .forr w ws tg b, env => (valI F env w ws).toS env fun items => loopF (fun x e => tgRun tg x e fun e' => exSs F N b e') items env
  | .whil c b, env => whileF (fun e => (evE F c (fullE e)).bind ofB) (fun e => exSs F N b e) N env
  | .raise c, env => .ex c none env
  | .tryx c b h, env => tryS c (fun e => exSs F N h e) (exSs F N b env)
  | .brk, env => .bk env
  | .cont, env => .ct env
def exSs (F : Nat → List D → R D) (N : Nat) : Ss → SE → Rs
  | .nil, env => .nx env
  | .cons s r, env => match exS F N s env with
    | .nx e => exSs F N r e
    | r => r
  | .frz i r, env => exSs F N r (frzS env i)
end
def startS (n : Nat) (ds : List D) : SE := ds.map Sl.fr ++ List.replicate (n - ds.length) .un
/-- a def of n names, its body m -/
def den (F : Nat → List D → R D) (N n : Nat) (m : Ss) (ds : List D) : R D := match exSs F N m (startS n ds) with
  | .nx _ => .ok .none
  | .rt d => .ok d
  | .ex c p _ => .exc c p
  | _ => .stuck

/-! ### the state -/
structure SR (K : PySem.W.Frag) (O : List Addr) (H0 B : Hp) (A : List Addr) (ad : Nat → Addr) (σ : L2.St) (H : Hp) (env : SE) : Prop where
  e0 : Same H0 H
  al0 : Alloc O H0
  alA : ∀ p ∈ A, H0 p = none ∧ ∃ vs, H p = some (.lst vs)
  len : σ.length = env.length
  fb : Same B (cut H (O ++ A))
  fr : ∀ (i : Nat) (d : D), env[i]? = some (.fr d) → ∃ v, σ[i]? = some (some v) ∧ Dq K (cut H (O ++ A)) v d
  ow : ∀ (i : Nat) (ds : List D), env[i]? = some (.ow ds) → ad i ∈ A ∧ σ[i]? = some (some (.ref (ad i))) ∧ ∃ vs, H (ad i) = some (.lst vs) ∧ DqAll K (cut H (O ++ A)) vs ds
  inj : ∀ (i j : Nat) (ds es : List D), env[i]? = some (.ow ds) → env[j]? = some (.ow es) → ad i = ad j → i = j
section
variable {K : PySem.W.Frag} {O : List Addr} {H0 B B' : Hp} {A : List Addr} {ad : Nat → Addr} {σ : L2.St} {H H' : Hp} {env : SE}
theorem SR.up (s : SR K O H0 B A ad σ H env) (e : Same H H') : SR K O H0 B A ad σ H' env where
  e0 := s.e0.trans e
  al0 := s.al0
  alA := fun p hp => let ⟨a, vs, b⟩ := s.alA p hp; ⟨a, vs, e _ _ b⟩
  len := s.len
  fb := s.fb.trans (cut_same e)
  fr := fun i d q => let ⟨v, a, b⟩ := s.fr i d q; ⟨v, a, dp_mono (cut_same e) _ _ b⟩
  ow := fun i ds q => let ⟨a, b, vs, c, d⟩ := s.ow i ds q; ⟨a, b, vs, e _ _ c, dps_mono (cut_same e) _ _ d⟩
  inj := s.inj
theorem SR.base (s : SR K O H0 B' A ad σ H env) (e : Same B B') : SR K O H0 B A ad σ H env := ⟨s.e0, s.al0, s.alA, s.len, e.trans s.fb, s.fr, s.ow, s.inj⟩
theorem SR.alO (s : SR K O H0 B A ad σ H env) : Alloc O H := s.al0.mono s.e0
theorem SR.alOA (s : SR K O H0 B A ad σ H env) : Alloc (O ++ A) H := fun p hp => by
  rcases List.mem_append.mp hp with h | h
  · exact s.alO p h
  · obtain ⟨_, vs, q⟩ := s.alA p h
    exact ⟨_, q⟩
theorem SR.apart (s : SR K O H0 B A ad σ H env) {p : Addr} (h : p ∈ A) : p ∉ O := s.al0.out (s.alA p h).1
theorem full_get {i : Nat} {d : D} (h : (fullE env)[i]? = some (some d)) : env[i]? = some (.fr d) ∨ ∃ ds, env[i]? = some (.ow ds) ∧ d = .list ds := by
  unfold fullE at h
  rw [List.getElem?_map] at h
  cases q : env[i]? with
  | none => rw [q] at h; cases h
  | some s =>
    rw [q] at h
    cases s with
    | un => cases h
    | fr d' => cases h; exact .inl rfl
    | ow ds => cases h; exact .inr ⟨ds, rfl, rfl⟩
theorem clean_get {i : Nat} {d : D} (h : (cleanE env)[i]? = some (some d)) : env[i]? = some (.fr d) := by
  unfold cleanE at h
  rw [List.getElem?_map] at h
  cases q : env[i]? with
  | none => rw [q] at h; cases h
  | some s =>
    rw [q] at h
    cases s with
    | un => cases h
    | fr d' => cases h; rfl
    | ow ds => cases h
theorem SR.full (s : SR K O H0 B A ad σ H env) : EnvOk K O σ H (fullE env) := by
  refine ⟨s.alO, by rw [s.len]; exact (List.length_map ..).symm, fun i d q => ?_⟩
  have sub : Same (cut H (O ++ A)) (cut H O) := cut_sub fun a m => List.mem_append_left _ m
  rcases full_get q with h | ⟨ds, h, rfl⟩
  · obtain ⟨v, a, b⟩ := s.fr i d h
    exact ⟨v, a, dp_mono sub _ _ b⟩
  · obtain ⟨a, b, vs, c, d⟩ := s.ow i ds h
    exact ⟨_, b, .lst (.inl (.inl (cut_of c (s.apart a)))) (dps_mono sub _ _ d)⟩
theorem SR.clean (s : SR K O H0 B A ad σ H env) : EnvOk K (O ++ A) σ H (cleanE env) := by
  refine ⟨s.alOA, by rw [s.len]; exact (List.length_map ..).symm, fun i d q => ?_⟩
  exact s.fr i d (clean_get q)
/-- hidden lists don't matter to what has no list -/
theorem rd_tup_hide {O1 O2 : List Addr} {a : Addr} {xs : List V} (hh : ∀ p ∈ O2, p ∈ O1 ∨ ∃ vs, H p = some (.lst vs)) (h : Rd (cut H O1) a (.tup xs)) : Rd (cut H O2) a (.tup xs) := by
  have nl : ∀ {o : HO}, cut H O1 a = some o → (∀ vs, o ≠ .lst vs) → cut H O2 a = some o := fun {o} q n => by
    obtain ⟨q1, q2⟩ := cut_some q
    refine cut_of q1 fun m => ?_
    rcases hh a m with z | ⟨vs, z⟩
    · exact q2 z
    · rw [q1] at z
      cases z
      exact n vs rfl
  rcases h with h | ⟨o, h⟩
  · exact .inl (nl h fun _ z => nomatch z)
  · exact .inr ⟨o, nl h fun _ z => nomatch z⟩
mutual
theorem lfree_hide {O1 O2 : List Addr} (hh : ∀ p ∈ O2, p ∈ O1 ∨ ∃ vs, H p = some (.lst vs)) : ∀ (d : D) (v : V), lfree d = true → Dq K (cut H O1) v d → Dq K (cut H O2) v d
  | .none, _, _, h => by cases h; exact .non
  | .bool _, _, _, h => by cases h; exact .bl _
  | .int _, _, _, h => by cases h; exact .int _
  | .str _, _, _, h => by cases h; exact .str _
  | .list _, _, l, _ => by simp [lfree] at l
  | .dict _, _, l, _ => by simp [lfree] at l
  | .tuple ds, _, l, h => by
    cases h with
    | tup h1 h2 => exact .tup (h1.elim (fun h => .inl (rd_tup_hide hh h)) .inr) (lfrees_hide hh ds _ (by simpa [lfree] using l) h2)
theorem lfrees_hide {O1 O2 : List Addr} (hh : ∀ p ∈ O2, p ∈ O1 ∨ ∃ vs, H p = some (.lst vs)) : ∀ (ds : List D) (vs : List V), lfrees ds = true → DqAll K (cut H O1) vs ds → DqAll K (cut H O2) vs ds
  | [], _, _, h => by cases h; exact .nil
  | d :: ds, _, l, h => by
    cases h with
    | cons h1 h2 =>
      have l' : lfree d = true ∧ lfrees ds = true := by simpa [lfrees] using l
      exact .cons (lfree_hide hh d _ l'.1 h1) (lfrees_hide hh ds _ l'.2 h2)
end
theorem SR.hideA (s : SR K O H0 B A ad σ H env) : ∀ p ∈ O ++ A, p ∈ O ∨ ∃ vs, H p = some (.lst vs) := fun p hp => by
  rcases List.mem_append.mp hp with h | h
  · exact .inl h
  · exact .inr (s.alA p h).2
/-- with no list of its own, nothing needs hiding -/
theorem SR.drop (s : SR K O H0 B A ad σ H env) (n : noOwn env = true) : SR K O H0 B [] ad σ H env := by
  have sub : Same (cut H (O ++ A)) (cut H (O ++ [])) := cut_sub fun a m => by simp at m; exact List.mem_append_left _ m
  have no : ∀ (i : Nat) (ds : List D), env[i]? ≠ some (.ow ds) := fun i ds q => by
    have z := List.all_eq_true.mp n _ (List.mem_of_getElem? q)
    cases z
  exact ⟨s.e0, s.al0, (fun p hp => (nomatch hp)), s.len, s.fb.trans sub, fun i d q => let ⟨v, a, b⟩ := s.fr i d q; ⟨v, a, dp_mono sub _ _ b⟩, fun i ds q => absurd q (no i ds), fun i j ds es q => absurd q (no i ds)⟩
theorem SR.set (s : SR K O H0 B A ad σ H env) {v : V} {d : D} (i : Nat) (r : Dq K (cut H (O ++ A)) v d) : SR K O H0 B A ad (σ.set i (some v)) H (env.set i (.fr d)) := by
  have get : ∀ {j : Nat} {x : Sl}, (env.set i (.fr d))[j]? = some x → (j = i ∧ x = .fr d ∧ i < env.length) ∨ (j ≠ i ∧ env[j]? = some x) := fun {j x} q => by
    by_cases e : i = j
    · subst e
      by_cases hl : i < env.length
      · rw [List.getElem?_set_self hl] at q
        cases q
        exact .inl ⟨rfl, rfl, hl⟩
      · rw [List.getElem?_eq_none (by rw [List.length_set]; omega)] at q
        cases q
    · rw [List.getElem?_set_ne e] at q
      exact .inr ⟨fun z => e z.symm, q⟩
  refine ⟨s.e0, s.al0, s.alA, by rw [List.length_set, List.length_set, s.len], s.fb, fun j e q => ?_, fun j ds q => ?_, fun j k ds es q1 q2 => ?_⟩
  · rcases get q with ⟨rfl, h, hl⟩ | ⟨hn, h⟩
    · cases h
      exact ⟨v, by rw [List.getElem?_set_self (by rw [s.len]; exact hl)], r⟩
    · rw [List.getElem?_set_ne (fun z => hn z.symm)]
      exact s.fr j e h
  · rcases get q with ⟨_, h, _⟩ | ⟨hn, h⟩
    · cases h
    · rw [List.getElem?_set_ne (fun z => hn z.symm)]
      exact s.ow j ds h
  · rcases get q1 with ⟨_, h, _⟩ | ⟨hn, h1⟩
    · cases h
    · rcases get q2 with ⟨_, h, _⟩ | ⟨hn2, h2⟩
      · cases h
      · exact s.inj j k ds es h1 h2
theorem SR.setAll : ∀ {is : List Nat} {vs : List V} {ds : List D} {σ : L2.St} {env : SE}, SR K O H0 B A ad σ H env → DqAll K (cut H (O ++ A)) vs ds → is.length = ds.length → SR K O H0 B A ad (setS σ is vs) H (setAllS env is ds)
  | [], _, _, _, _, s, _, _ => s
  | i :: is, _, _, _, _, s, .cons r t, e => by
    rw [setS, setAllS]
    exact SR.setAll (s.set i r) t (by simpa using e)
  | _ :: _, _, _, _, _, _, .nil, e => by cases e
/-- a new list of its own -/
theorem SR.setNew (s : SR K O H0 B A ad σ H env) (e : Same H H') {p : Addr} {vs : List V} {ds : List D} (i : Nat) (hp : H p = none) (hp' : H' p = some (.lst vs)) (r : DqAll K (cut H' (O ++ (p :: A))) vs ds) :
    SR K O H0 B (p :: A) (fun j => if j = i then p else ad j) (σ.set i (some (.ref p))) H' (env.set i (.ow ds)) := by
  have get : ∀ {j : Nat} {x : Sl}, (env.set i (.ow ds))[j]? = some x → (j = i ∧ x = .ow ds ∧ i < env.length) ∨ (j ≠ i ∧ env[j]? = some x) := fun {j x} q => by
    by_cases e : i = j
    · subst e
      by_cases hl : i < env.length
      · rw [List.getElem?_set_self hl] at q
        cases q
        exact .inl ⟨rfl, rfl, hl⟩
      · rw [List.getElem?_eq_none (by rw [List.length_set]; omega)] at q
        cases q
    · rw [List.getElem?_set_ne e] at q
      exact .inr ⟨fun z => e z.symm, q⟩
  have up : Same (cut H (O ++ A)) (cut H' (O ++ (p :: A))) := fun a o q => by
    obtain ⟨q1, q2⟩ := cut_some q
    refine cut_of (e _ _ q1) fun m => ?_
    rcases List.mem_append.mp m with m | m
    · exact q2 (List.mem_append_left _ m)
    · rcases List.mem_cons.mp m with z | m
      · subst z
        rw [hp] at q1
        cases q1
      · exact q2 (List.mem_append_right _ m)
  have hp0 : H0 p = none := by
    cases z : H0 p with
    | none => rfl
    | some o => rw [s.e0 _ _ z] at hp; cases hp
  have nA : ∀ q ∈ A, q ≠ p := fun q hq z => by
    subst z
    obtain ⟨_, vs, w⟩ := s.alA q hq
    rw [hp] at w
    cases w
  refine ⟨s.e0.trans e, s.al0, fun q hq => ?_, by rw [List.length_set, List.length_set, s.len], s.fb.trans up, fun j d q => ?_, fun j es q => ?_, fun j k es fs q1 q2 hz => ?_⟩
  · rcases List.mem_cons.mp hq with z | hq
    · subst z
      exact ⟨hp0, vs, hp'⟩
    · obtain ⟨a, ws, b⟩ := s.alA q hq
      exact ⟨a, ws, e _ _ b⟩
  · rcases get q with ⟨_, h, _⟩ | ⟨hn, h⟩
    · cases h
    · rw [List.getElem?_set_ne (fun z => hn z.symm)]
      obtain ⟨v, a, b⟩ := s.fr j d h
      exact ⟨v, a, dp_mono up _ _ b⟩
  · rcases get q with ⟨rfl, h, hl⟩ | ⟨hn, h⟩
    · cases h
      refine ⟨?_, ?_, vs, ?_, r⟩
      · rw [if_pos rfl]; exact List.mem_cons_self
      · rw [if_pos rfl, List.getElem?_set_self (by rw [s.len]; exact hl)]
      · rw [if_pos rfl]; exact hp'
    · obtain ⟨a, b, ws, c, d⟩ := s.ow j es h
      refine ⟨?_, ?_, ws, ?_, dps_mono up _ _ d⟩
      · rw [if_neg hn]; exact List.mem_cons_of_mem _ a
      · rw [if_neg hn, List.getElem?_set_ne (fun z => hn z.symm)]; exact b
      · rw [if_neg hn]; exact e _ _ c
  · rcases get q1 with ⟨rfl, h1, _⟩ | ⟨hn, h1⟩
    · rcases get q2 with ⟨rfl, h2, _⟩ | ⟨hn2, h2⟩
      · rfl
      · rw [if_pos rfl, if_neg hn2] at hz
        exact absurd hz.symm (nA _ (s.ow k fs h2).1)
    · rcases get q2 with ⟨rfl, h2, _⟩ | ⟨hn2, h2⟩
      · rw [if_pos rfl, if_neg hn] at hz
        exact absurd hz (nA _ (s.ow j es h1).1)
      · rw [if_neg hn, if_neg hn2] at hz
        exact s.inj j k es fs h1 h2 hz
/-- it has grown -/
theorem SR.grow (s : SR K O H0 B A ad σ H env) {i : Nat} {ds : List D} (q : env[i]? = some (.ow ds)) {ws : List V} {es : List D} (r : DqAll K (cut H (O ++ A)) ws es) :
    SR K O H0 B A ad σ (upd H (ad i) (.lst ws)) (env.set i (.ow es)) := by
  obtain ⟨ha, hσ, vs, hH, hd⟩ := s.ow i ds q
  have up : Same (cut H (O ++ A)) (cut (upd H (ad i) (.lst ws)) (O ++ A)) := fun a o z => by
    obtain ⟨q1, q2⟩ := cut_some z
    refine cut_of ?_ q2
    rw [upd_ne fun e => q2 (by rw [e]; exact List.mem_append_right _ ha)]
    exact q1
  have get : ∀ {j : Nat} {x : Sl}, (env.set i (.ow es))[j]? = some x → (j = i ∧ x = .ow es) ∨ (j ≠ i ∧ env[j]? = some x) := fun {j x} q => by
    by_cases e : i = j
    · subst e
      by_cases hl : i < env.length
      · rw [List.getElem?_set_self hl] at q
        cases q
        exact .inl ⟨rfl, rfl⟩
      · rw [List.getElem?_eq_none (by rw [List.length_set]; omega)] at q
        cases q
    · rw [List.getElem?_set_ne e] at q
      exact .inr ⟨fun z => e z.symm, q⟩
  refine ⟨fun a o z => ?_, s.al0, fun p hp => ?_, by rw [List.length_set, s.len], s.fb.trans up, fun j d z => ?_, fun j fs z => ?_, fun j k fs gs z1 z2 hz => ?_⟩
  · rw [upd_ne fun e => by rw [e, (s.alA _ ha).1] at z; cases z]
    exact s.e0 _ _ z
  · obtain ⟨a, us, b⟩ := s.alA p hp
    refine ⟨a, ?_⟩
    by_cases e : p = ad i
    · rw [e]; exact ⟨ws, upd_same⟩
    · exact ⟨us, by rw [upd_ne e]; exact b⟩
  · rcases get z with ⟨_, h⟩ | ⟨hn, h⟩
    · cases h
    · obtain ⟨v, a, b⟩ := s.fr j d h
      exact ⟨v, a, dp_mono up _ _ b⟩
  · rcases get z with ⟨rfl, h⟩ | ⟨hn, h⟩
    · cases h
      exact ⟨ha, hσ, ws, upd_same, dps_mono up _ _ r⟩
    · obtain ⟨a, b, us, c, d⟩ := s.ow j fs h
      refine ⟨a, b, us, ?_, dps_mono up _ _ d⟩
      rw [upd_ne fun e => hn (s.inj j i fs ds h q e)]
      exact c
  · have at_ : ∀ {j : Nat} {fs : List D}, (env.set i (.ow es))[j]? = some (.ow fs) → ∃ gs, env[j]? = some (.ow gs) := fun {j fs} z => by
      rcases get z with ⟨rfl, _⟩ | ⟨_, h⟩
      · exact ⟨ds, q⟩
      · exact ⟨fs, h⟩
    obtain ⟨f1, h1⟩ := at_ z1
    obtain ⟨f2, h2⟩ := at_ z2
    exact s.inj j k f1 f2 h1 h2 hz
/-- it is let go: data from now on -/
theorem SR.freeze (s : SR K O H0 B A ad σ H env) (i : Nat) : ∃ A', SR K O H0 B A' ad σ H (frzS env i) := by
  unfold frzS
  cases q : env[i]? with
  | none => exact ⟨A, s⟩
  | some x =>
    cases x with
    | un => exact ⟨A, s⟩
    | fr d => exact ⟨A, s⟩
    | ow ds =>
      obtain ⟨ha, hσ, vs, hH, hd⟩ := s.ow i ds q
      have mem : ∀ {p : Addr}, p ∈ A.filter (fun p => decide (p ≠ ad i)) ↔ p ∈ A ∧ p ≠ ad i := fun {p} => by simp [List.mem_filter]
      have sub : Same (cut H (O ++ A)) (cut H (O ++ A.filter fun p => decide (p ≠ ad i))) := cut_sub fun a m => by
        rcases List.mem_append.mp m with m | m
        · exact List.mem_append_left _ m
        · exact List.mem_append_right _ (mem.mp m).1
      have hl : i < env.length := (List.getElem?_eq_some_iff.mp q).1
      have get : ∀ {j : Nat} {x : Sl}, (env.set i (.fr (.list ds)))[j]? = some x → (j = i ∧ x = .fr (.list ds)) ∨ (j ≠ i ∧ env[j]? = some x) := fun {j x} q => by
        by_cases e : i = j
        · subst e
          rw [List.getElem?_set_self hl] at q
          cases q
          exact .inl ⟨rfl, rfl⟩
        · rw [List.getElem?_set_ne e] at q
          exact .inr ⟨fun z => e z.symm, q⟩
      refine ⟨A.filter fun p => decide (p ≠ ad i), s.e0, s.al0, fun p hp => s.alA p (mem.mp hp).1, by rw [List.length_set, s.len], s.fb.trans sub, fun j d z => ?_, fun j fs z => ?_, fun j k fs gs z1 z2 hz => ?_⟩
      · rcases get z with ⟨rfl, h⟩ | ⟨hn, h⟩
        · cases h
          refine ⟨_, hσ, .lst (.inl (.inl (cut_of hH fun m => ?_))) (dps_mono sub _ _ hd)⟩
          rcases List.mem_append.mp m with m | m
          · exact s.apart ha m
          · exact (mem.mp m).2 rfl
        · obtain ⟨v, a, b⟩ := s.fr j d h
          exact ⟨v, a, dp_mono sub _ _ b⟩
      · rcases get z with ⟨_, h⟩ | ⟨hn, h⟩
        · cases h
        · obtain ⟨a, b, us, c, d⟩ := s.ow j fs h
          exact ⟨mem.mpr ⟨a, fun e => hn (s.inj j i fs ds h q e)⟩, b, us, c, dps_mono sub _ _ d⟩
      · rcases get z1 with ⟨_, h⟩ | ⟨_, h1⟩
        · cases h
        · rcases get z2 with ⟨_, h⟩ | ⟨_, h2⟩
          · cases h
          · exact s.inj j k fs gs h1 h2 hz
end
end Bs

namespace Bs
open PySem PySem.Spec L2
open PyProof.Rows hiding St

/-! ### what is wanted of a statement's end -/
def PostS (K : PySem.W.Frag) (G : Gs) (O : List Addr) (H0 B : Hp) (D : Ends) (W : WX) : Rs → Prop
  | .stuck => False
  | .nx e => ∀ A ad σ H, SR K O H0 B A ad σ H e → D.nx σ H
  | .rt d => ∀ v H, Same H0 H → Dq K (cut H O) v d → D.rt v H
  | .bk e => ∀ A ad σ H, SR K O H0 B A ad σ H e → D.bk σ H
  | .ct e => ∀ A ad σ H, SR K O H0 B A ad σ H e → D.ct σ H
  | .ex c p e => ∀ A ad σ H cls dd, SR K O H0 B A ad σ H e → exR G c p cls dd H → W cls dd σ H
def rdS (K : PySem.W.Frag) (F : Nat → List D → R D) (G : Gs) (N : Nat) (W : WX) (m : S) : TS := fun D σ H => ∃ O H0 B A ad env, SR K O H0 B A ad σ H env ∧ PostS K G O H0 B D W (exS F N m env)
def rdSs (K : PySem.W.Frag) (F : Nat → List D → R D) (G : Gs) (N : Nat) (W : WX) (m : Ss) : TS := fun D σ H => ∃ O H0 B A ad env, SR K O H0 B A ad σ H env ∧ PostS K G O H0 B D W (exSs F N m env)
section
variable {K : PySem.W.Frag} {F : Nat → List D → R D} {G : Gs} {O : List Addr} {H0 B : Hp} {A : List Addr} {ad : Nat → Addr} {σ : L2.St} {H : Hp} {env : SE} {D : Ends} {W : WX}
theorem post_toS {α β : Type} {rep : Hp → β → α → Prop} {r : R α} {f : α → Rs} (s : SR K O H0 B A ad σ H env) (h : PostS K G O H0 B D W (r.toS env f)) :
    Post rep G σ H W (fun v H' => Same H H' ∧ ∃ d, rep H' v d ∧ PostS K G O H0 B D W (f d)) r := by
  cases r with
  | stuck => exact h
  | ok d => exact fun v H' e p => ⟨e, d, p, h⟩
  | exc c p => exact fun cls dd H' e x => h A ad σ H' cls dd (s.up e) x
/-- a value that goes to a name -/
theorem valS_rd {e : E} {f : PyData → Rs} (s : SR K O H0 B A ad σ H env) (h : PostS K G O H0 B D W ((valS F env e).toS env f)) :
    rd K F G W e σ H fun v H' => ∃ A' d, (∀ a ∈ A', a ∈ A) ∧ SR K O H0 B A' ad σ H' env ∧ Dq K (cut H' (O ++ A')) v d ∧ PostS K G O H0 B D W (f d) := by
  unfold valS at h
  cases q : evE F e (fullE env) with
  | stuck => rw [q] at h; exact h.elim
  | exc c p =>
    rw [q] at h
    refine ⟨O, fullE env, s.full, ?_⟩
    rw [q]
    exact fun cls dd H' e x => h A ad σ H' cls dd (s.up e) x
  | ok d =>
    rw [q] at h
    by_cases c : (lfree d || noOwn env) = true
    · have h : PostS K G O H0 B D W ((if (lfree d || noOwn env) = true then R.ok d else evE F e (cleanE env)).toS env f) := h
      rw [if_pos c] at h
      refine ⟨O, fullE env, s.full, ?_⟩
      rw [q]
      intro v H' e r
      by_cases n : noOwn env = true
      · exact ⟨[], d, fun a z => (nomatch z), (s.up e).drop n, by rw [List.append_nil]; exact r, h⟩
      · have l : lfree d = true := by
          rcases Bool.or_eq_true_iff.mp c with l | l
          · exact l
          · exact absurd l n
        exact ⟨A, d, fun _ z => z, s.up e, lfree_hide (s.up e).hideA _ _ l r, h⟩
    · have h : PostS K G O H0 B D W ((if (lfree d || noOwn env) = true then R.ok d else evE F e (cleanE env)).toS env f) := h
      rw [if_neg c] at h
      exact ⟨O ++ A, cleanE env, s.clean, (post_toS (rep := dp K (O ++ A)) s h).imp fun v H' _ ⟨e, d, r, p⟩ => ⟨A, d, fun _ z => z, s.up e, r, p⟩⟩
theorem rd_imp {m : E} {Q Q' : VK} (h : rd K F G W m σ H Q) (i : ∀ v H', Same H H' → Q v H' → Q' v H') : rd K F G W m σ H Q' := by
  obtain ⟨O, env, e, p⟩ := h
  exact ⟨O, env, e, p.imp i⟩
theorem rdN_imp {m : E} {Q Q' : VK} (h : rdN K F G W m σ H Q) (i : ∀ v H', Same H H' → Q v H' → Q' v H') : rdN K F G W m σ H Q' := by
  obtain ⟨O, env, e, p⟩ := h
  exact ⟨O, env, e, p.imp i⟩
theorem mem_sw {O A : List Addr} {p a : Addr} (m : a ∈ O ++ (p :: A)) : a ∈ p :: (O ++ A) := by
  rcases List.mem_append.mp m with m | m
  · exact List.mem_cons_of_mem _ (List.mem_append_left _ m)
  · rcases List.mem_cons.mp m with m | m
    · rw [m]; exact List.mem_cons_self
    · exact List.mem_cons_of_mem _ (List.mem_append_right _ m)
theorem newS_rd {e : E} {i : Nat} {f : List PyData → Rs} (s : SR K O H0 B A ad σ H env) (h : PostS K G O H0 B D W ((newS F env e).toS env f)) :
    rdN K F G W e σ H fun v H' => ∃ A' ad' ds, SR K O H0 B A' ad' (σ.set i (some v)) H' (env.set i (.ow ds)) ∧ PostS K G O H0 B D W (f ds) := by
  unfold newS at h
  cases q : evE F e (fullE env) with
  | stuck => rw [q] at h; exact h.elim
  | exc c p =>
    rw [q] at h
    refine ⟨O, fullE env, s.full, ?_⟩
    rw [q]
    exact fun cls dd H' e x => h A ad σ H' cls dd (s.up e) x
  | ok d =>
    rw [q] at h
    cases d <;> first | exact h.elim | skip
    rename_i ds
    have h : PostS K G O H0 B D W ((if (lfrees ds || noOwn env) = true then R.ok ds else (evE F e (cleanE env)).bind lsOf).toS env f) := h
    by_cases c : (lfrees ds || noOwn env) = true
    · rw [if_pos c] at h
      refine ⟨O, fullE env, s.full, ?_⟩
      rw [q]
      rintro v H' e ⟨p, vs, ds', rfl, he, hp, hp', r⟩
      cases he
      by_cases n : noOwn env = true
      · have sn := s.drop n
        exact ⟨_, _, ds, sn.setNew e i hp hp' (dps_mono (cut_sub fun a m => by have z := mem_sw m; rw [List.append_nil] at z; exact z) _ _ r), h⟩
      · have l : lfrees ds = true := by
          rcases Bool.or_eq_true_iff.mp c with l | l
          · exact l
          · exact absurd l n
        refine ⟨_, _, ds, s.setNew e i hp hp' (lfrees_hide (fun a m => ?_) _ _ l r), h⟩
        rcases List.mem_append.mp m with m | m
        · exact .inl (List.mem_cons_of_mem _ m)
        · rcases List.mem_cons.mp m with m | m
          · exact .inl (by rw [m]; exact List.mem_cons_self)
          · obtain ⟨_, ws, w⟩ := s.alA a m
            exact .inr ⟨ws, e _ _ w⟩
    · rw [if_neg c] at h
      refine ⟨O ++ A, cleanE env, s.clean, ?_⟩
      cases q2 : evE F e (cleanE env) with
      | stuck => rw [q2] at h; exact h.elim
      | exc c p =>
        rw [q2] at h
        exact fun cls dd H' e x => h A ad σ H' cls dd (s.up e) x
      | ok d2 =>
        rw [q2] at h
        cases d2 <;> first | exact h.elim | skip
        rename_i ds2
        rintro v H' e ⟨p, vs, ds', rfl, he, hp, hp', r⟩
        cases he
        exact ⟨_, _, ds2, s.setNew e i hp hp' (dps_mono (cut_sub fun a m => mem_sw m) _ _ r), h⟩
end

/-! ### the context of statements -/
structure ExcF (K : PySem.W.Frag) (C : Addr) : Prop where
  q : PySem.W.excIn K C [.type "ValueError", .type "Exception", .type "BaseException", .type "object"] "ValueError.__new__" = true
  k : PySem.W.keepIn K (.ref C) = true
  b : PySem.W.subIn K (.ref C) (.type "BaseException") = some true
  t : PySem.W.typeIn K (.ref C) = some (.type "type")
structure CtS extends Ct where
  exs : List (Nat × Str)
  exr : List Nat
structure GdS (C : CtS) (F : Nat → List D → R D) (G : Gs) (W : WX) (X : Cx) : Prop where
  gd : Gd C.toCt F G W X
  st : X.stack = X.env :: X.outer
  frm : X.env.frame = some X.env.locals
  po : PassesOwn (model X.prog X.w) X.A X.env X.xe
  fnT : ∀ x, X.fn x = true
  exn : ∀ c, G.has c = (C.exs.lookup c).isSome
  exm : ∀ c x, C.exs.lookup c = some x → X.mg x = some (.ref (G.ex c))
  exk : ∀ c ∈ C.exr, ExcF X.K (G.ex c)
  exs : ∀ c k, G.has c = true → G.has k = true → PySem.W.exmOne X.K (.ref (G.ex c)) (.ref (G.ex k)) = some (subX c k)
end Bs

namespace Bs
open PySem PySem.Spec L2
open PyProof.Rows hiding St

/-! ### the check of a statement -/
def isLC : Expr → Bool
  | .ListComp .. => true
  | _ => false
def isCallE : Expr → Bool
  | .Call .. => true
  | _ => false
def isTupE : Expr → Bool
  | .Tuple .. => true
  | _ => false
def newE : E → Bool
  | .lst _ => true
  | .bi .list _ => true
  | .op .add _ _ => true
  | .sl _ _ _ => true
  | _ => false
def lcSw (C : Ct) (t e : Expr) (pos : Pos) : Bool := match t, e with
  | .Name x px, .ListComp _ _ scope ep => decide (C.sc.names.lookup x = some .local) && ((px.line == ep.line) && ((pos.line == pos.line) && !(scope.names.any fun (n, k) => n == x && (k == .local || k == .cell))))
  | _, _ => false
def hC (C : CtS) : CtS := { C with fns := [], kfns := [], cm := false, exr := [] }
mutual
def chkS (C : CtS) : S → Stmt → Bool
  | .pass, st => (match st with
    | .Pass _ => true
    | _ => false)
  | .ret m, st => (match st with
    | .Return (some e) _ => chkE C.toCt m e
    | _ => false)
  | .retN, st => (match st with
    | .Return none _ => true
    | _ => false)
  | .set i m, st => (match st with
    | .Assign [t] e _ => tgN C.toCt (fun _ => true) i t && (chkE C.toCt m e && !isLC e)
    | _ => false)
  | .setN i m, st => (match st with
    | .Assign [t] e pos => tgN C.toCt (fun _ => true) i t && (chkE C.toCt m e && ((decide (C.sc.kind = .function) && (isLC e && lcSw C.toCt t e pos)) || (!isLC e && newE m)))
    | _ => false)
  | .unp is m, st => (match st with
    | .Assign [t] e _ => tgT C.toCt (fun _ => true) is t && (chkE C.toCt m e && (!isLC e && !isTupE e))
    | _ => false)
  | .par i j a b, st => (match st with
    | .Assign [.Tuple [.Name x px, .Name y py] _ _] (.Tuple [a', b'] _ _) _ => C.cm && (decide (C.N[i]? = some x) && (decide (C.N[j]? = some y) && (decide (i ≠ j) && (decide (C.sc.names.lookup x = some .local) && (decide (C.sc.names.lookup y = some .local) &&
        (decide (C.sc.kind = .function) && ((py.line == px.line) && (!(x == y) && (![a', b'].all (foldedForSure 8) && (![a', b'].all (constantsAlone 8) && (chkE C.toCt a a' && chkE C.toCt b b')))))))))))
    | _ => false)
  | .app i m, st => (match st with
    | .Expr (.Call (.Attribute (.Name x _) f apos) [e] [] cpos) _ => decide (f = "append") && (decide (C.N[i]? = some x) && (isVis C.sc x && (notDbg x && (notCls x && ((apos.endLine == cpos.line) && chkE C.toCt m e)))))
    | _ => false)
  | .exs m, st => (match st with
    | .Expr e _ => isCallE e && chkE C.toCt m e
    | _ => false)
  | .stI i x m, st => (match st with
    | .Assign [.Subscript (.Name y _) x' _] e _ => decide (C.N[i]? = some y) && (isVis C.sc y && (notDbg y && (notCls y && (chkE C.toCt x x' && (chkE C.toCt m e && (!isLC e && !isTupE e))))))
    | _ => false)
  | .stS i x m, st => (match st with
    | .Assign [.Subscript (.Name y _) (.Slice none (some x') none _) _] e _ => decide (C.N[i]? = some y) && (isVis C.sc y && (notDbg y && (notCls y && (chkE C.toCt x x' && (chkE C.toCt m e && (newE m && (!isLC e && !isTupE e)))))))
    | _ => false)
  | .iff c a b, st => (match st with
    | .If c' a' b' _ => chkE C.toCt c c' && (tstE c' && (chkSs C a a' && chkSs C b b'))
    | _ => false)
  | .forr w ws tg b, st => (match st with
    | .For t it body [] _ => C.cm && (okE it && (chkG C.toCt (fun _ => true) tg t && ((match itArgs C.toCt w t it with
        | some as => chkEs C.toCt ws as
        | none => false) && chkSs C b body)))
    | _ => false)
  | .whil c b, st => (match st with
    | .While c' body [] _ => chkE C.toCt c c' && (tstE c' && chkSs C b body)
    | _ => false)
  | .raise c, st => (match st with
    | .Raise (some (.Call (.Name x _) [.Constant (.str _) _ _] [] _)) none _ => C.cm && (decide (C.exs.lookup c = some x) && (decide (c ∈ C.exr) && (isGl C.sc x && notDbg x)))
    | _ => false)
  | .tryx c b h, st => (match st with
    | .Try body [.ExceptHandler (some (.Name x _)) none (h0 :: hs) _] [] [] _ => decide (C.exs.lookup c = some x) && (isGl C.sc x && (notDbg x && (chkSs C b body && chkSs (hC C) h (h0 :: hs))))
    | _ => false)
  | .brk, st => (match st with
    | .Break _ => true
    | _ => false)
  | .cont, st => (match st with
    | .Continue _ => true
    | _ => false)
def chkSs (C : CtS) : Ss → List Stmt → Bool
  | .nil, st => st.isEmpty
  | .cons m ms, st => (match st with
    | s :: ss => chkS C m s && chkSs C ms ss
    | [] => false)
  | .frz _ ms, st => chkSs C ms st
end

section
variable {X : Cx} {e t : Expr} {pos : Pos}
theorem sw_no {o : Option Expr} {l : Nat} {env : PySem.Env} (h : okE e = true) (n : isLC e = false) : swapsWith e o l env = pure false := by
  cases e <;> first | rfl | exact nomatch (show false = true from h) | exact nomatch (show true = false from n)
theorem sws_no {env : PySem.Env} (h : okE e = true) (n : isTupE e = false) : swappedStores [t] e env = pure none := by
  cases e <;> first | (cases t <;> rfl) | exact nomatch (show false = true from h) | exact nomatch (show true = false from n)
theorem few_of {env : PySem.Env} (h : okE e = true) : ((backTo pos (starEach [e] env)).all (fun x => !x.1) && (backToKw pos (keywordEach [] env)).all (fun x => x.1.isSome)
      && decide ([e].length + ([] : List Keyword).length + (if ([] : List Keyword).isEmpty then 0 else 1) < 30)) = true := by
  rw [star_of h]
  rfl
theorem swap_two {x y : Str} {px py pt pt2 : Pos} {kt k2 : Nat} {a b : Expr} {env : PySem.Env} (hk : env.scope.kind = .function) (hx : env.scope.names.lookup x = some .local) (hy : env.scope.names.lookup y = some .local) (hl : (py.line == px.line) = true) (hn : (x == y) = false)
    (ha : okE a = true) (hb : okE b = true) (h1 : [a, b].all (foldedForSure 8) = false) (h2 : [a, b].all (constantsAlone 8) = false) :
    swappedStores [.Tuple [.Name x px, .Name y py] kt pt] (.Tuple [a, b] k2 pt2) env = pure (some [x, y]) := by
  have hb' : env.blockKind = .function := by unfold Env.blockKind; rw [hk]; rfl
  have kx : env.kindOf x = some .local := hx
  have ky : env.kindOf y = some .local := hy
  have f : ∀ e, okE e = true → (match e with | .Starred .. => true | _ => false) = false := fun e he => by cases e <;> first | rfl | cases he
  have s : ([a, b].any fun e => match e with | .Starred .. => true | _ => false) = false := by
    rw [List.any_cons, List.any_cons, f a ha, f b hb]
    rfl
  have hne : ¬ x = y := fun z => by rw [z] at hn; simp at hn
  have hl' : py.line = px.line := by simpa using hl
  unfold swappedStores
  simp only [hb', kx, ky, h1, h2, s, hl', Expr.pos, List.length_cons, List.length_nil, List.head?_cons, Option.map_some, Option.getD_some, List.filterMap_cons, List.filterMap_nil, beq_self_eq_true, Bool.and_self, if_true]
  simp [List.eraseDups_cons, hne, Ne.symm, fun z : y = x => hne z.symm, hn, hb']
  intro z
  exfalso
  rcases z with z | z
  · cases a <;> first | exact nomatch (show false = true from z) | exact nomatch (show false = true from ha)
  · cases b <;> first | exact nomatch (show false = true from z) | exact nomatch (show false = true from hb)
end

/-! ### soundness -/
section
variable {F : Nat → List PyData → R PyData} {G : Gs} {N : Nat}
theorem GdS.try_ {C : CtS} {W W' : WX} {X : Cx} (g : GdS C F G W X) {pn : List (Addr × Obj)} {xe : Value → Shared → Prop} (tk : Takes (X.tr pn xe) W') (po : PassesOwn (model X.prog X.w) X.A X.env xe) : GdS C F G W' (X.tr pn xe) where
  gd := { N := g.gd.N, nd := g.gd.nd, sc := g.gd.sc, calm := g.gd.calm, hu := g.gd.hu, tk := tk, fns := fun i x n h => g.gd.fns i x n h, bls := g.gd.bls, gis := g.gd.gis, kfns := fun i x n kn h => g.gd.kfns i x n kn h }
  st := g.st
  frm := g.frm
  po := po
  fnT := g.fnT
  exn := g.exn
  exm := g.exm
  exk := g.exk
  exs := g.exs
theorem GdS.suite_ {C : CtS} {W : WX} {X : Cx} (g : GdS C F G W X) {a : Addr} {pn : List (Addr × Obj)} : GdS (hC C) F G (fun _ _ _ _ => False) (X.suite a pn) where
  gd := { N := g.gd.N, nd := g.gd.nd, sc := g.gd.sc, calm := fun z => (nomatch z), hu := g.gd.hu, tk := takes0, fns := fun i x n h => by simp [hC] at h, bls := g.gd.bls, gis := g.gd.gis, kfns := fun i x n kn h => by simp [hC] at h }
  st := g.st
  frm := g.frm
  po := PassesOwn.never
  fnT := g.fnT
  exn := g.exn
  exm := g.exm
  exk := fun c h => by simp [hC] at h
  exs := g.exs
theorem bi_list_cases : ∀ ds : List PyData, (∃ xs, ds = [.list xs]) ∨ (∃ xs, ds = [.tuple xs]) ∨ bi .list ds = .stuck
  | [] => .inr (.inr rfl)
  | [.list xs] => .inl ⟨xs, rfl⟩
  | [.tuple xs] => .inr (.inl ⟨xs, rfl⟩)
  | [.none] => .inr (.inr rfl)
  | [.bool _] => .inr (.inr rfl)
  | [.int _] => .inr (.inr rfl)
  | [.str _] => .inr (.inr rfl)
  | [.dict _] => .inr (.inr rfl)
  | a :: b :: c => .inr (.inr (by cases a <;> rfl))
theorem bnot {b : Bool} (h : (!b) = true) : b = false := by simpa using h
section
variable {C : Ct} {W : WX} {X : Cx} {σ : L2.St} {H : Hp} {Q : VK}
/-- new lists by rules -/
theorem sndN {m : E} {e : Expr} (g : Gd C F G W X) (hn : newE m = true) (h : chkE C m e = true) : PE X e (rdN X.K F G W m) := by
  cases m <;> first | exact nomatch (show false = true from hn) | skip
  · rename_i o a b
    cases o <;> first | exact nomatch (show false = true from hn) | skip
    rw [chkE.eq_def] at h
    dsimp only at h
    split at h <;> first | cases h | skip
    obtain ⟨h1, h⟩ := ba2 h
    obtain ⟨h2, h3⟩ := ba2 h
    have e1 := of_decide_eq_true h1
    subst e1
    refine pe_imp (pe_op (r := rBop X.K .add) (op_bop .add) (snd a g h2).pe (snd b g h3).pe) fun σ H Q ⟨O, env, eo, hp⟩ => ?_
    rw [evE, R.bind_assoc] at hp
    refine ⟨O, env, eo, (Post.bind (rep := dp X.K O) hp).imp fun x H1 _ ⟨s1, d1, r1, hp1⟩ => ⟨O, env, eo.up s1, ?_⟩⟩
    rw [R.bind_assoc] at hp1
    refine (Post.bind (rep := dp X.K O) hp1).imp fun y H2 _ ⟨s2, d2, r2, hp2⟩ => ?_
    have r1 := dp_mono (cut_same s2) _ _ r1
    have al2 := ((eo.up s1).up s2).al
    cases d1 with
    | list ds =>
      cases d2 with
      | list es =>
        have hp2 : Post (dpn X.K O H) G σ H2 W Q ((if ds.length + es.length ≤ sizeLine then R.ok (.list (ds ++ es)) else .stuck).bind lsD) := hp2
        by_cases hc : ds.length + es.length ≤ sizeLine
        · rw [if_pos hc] at hp2
          obtain ⟨p, xs, rfl, q1, q2⟩ := inv_l r1
          obtain ⟨p', ys, rfl, q3, q4⟩ := inv_l r2
          refine .inr (.inl ⟨_, _, _, _, rfl, rfl, sqL_mono cut_le q1, sqL_mono cut_le q3, by rw [dps_len q2, dps_len q4]; exact hc, fun p hp0 => ?_⟩)
          have hH : H p = none := by
            cases z : H p with
            | none => rfl
            | some o => rw [(s1.trans s2) _ _ z] at hp0; cases hp0
          exact hp2 _ _ (Same.new hp0) ⟨p, _, _, rfl, rfl, hH, upd_same, dps_mono (same_cutD hp0 (Same.new hp0)) _ _ (dps_app q2 q4)⟩
        · rw [if_neg hc] at hp2
          exact hp2.elim
      | _ => exact hp2.elim
    | tuple ds =>
      cases d2 with
      | tuple es =>
        have hp2 : Post (dpn X.K O H) G σ H2 W Q ((if ds ≠ [] ∧ es ≠ [] ∧ ds.length + es.length ≤ sizeLine then R.ok (.tuple (ds ++ es)) else .stuck).bind lsD) := hp2
        by_cases hc : ds ≠ [] ∧ es ≠ [] ∧ ds.length + es.length ≤ sizeLine
        · rw [if_pos hc] at hp2
          exact hp2.elim
        · rw [if_neg hc] at hp2
          exact hp2.elim
      | _ => exact hp2.elim
    | _ => cases d2 <;> exact hp2.elim
  · rename_i es
    rw [chkE.eq_def] at h
    dsimp only at h
    split at h <;> first | cases h | skip
    obtain ⟨h1, h2⟩ := ba2 h
    exact pn_lst (snds es g h1) (of_decide_eq_true h2)
  · rename_i a lo hi
    rw [chkE.eq_def] at h
    dsimp only at h
    split at h <;> first | cases h | skip
    obtain ⟨h1, h⟩ := ba2 h
    obtain ⟨h2, h3⟩ := ba2 h
    refine pe_imp (pe_slice (SlR.or sl_list sl_tupA) (snd a g h1).pe (po_of (snds lo g h2)) (po_of (snds hi g h3))) fun σ H Q ⟨O, env, eo, hp⟩ => ?_
    rw [evE] at hp
    have hp : Post (dpn X.K O H) G σ H W Q ((evE F a env).bind fun x => ((evEs F lo env).bind fun l => partD l).bind fun l => ((evEs F hi env).bind fun h => partD h).bind fun h => (slop x l h).bind lsD) := by
      simpa [R.bind_assoc] using hp
    refine ⟨O, env, eo, (Post.bind (rep := dp X.K O) hp).imp fun x H1 _ ⟨s1, d1, r1, hp1⟩ => ⟨O, env, eo.up s1, (Post.bind (rep := fun _ o o' => o = o') hp1).imp fun l H2 _ ⟨s2, l', rl, hp2⟩ => ⟨O, env, (eo.up s1).up s2, (Post.bind (rep := fun _ o o' => o = o') hp2).imp fun u H3 _ ⟨s3, u', ru, hp3⟩ => ?_⟩⟩⟩
    subst rl
    subst ru
    have r3 := dp_mono (cut_same (s2.trans s3)) _ _ r1
    cases d1 <;> first | exact hp3.elim | skip
    obtain ⟨p, xs, rfl, q1, q2⟩ := inv_l r3
    refine .inl ⟨p, xs, rfl, sqL_mono cut_le q1, fun p hp0 => ?_⟩
    have hH : H p = none := by
      cases z : H p with
      | none => rfl
      | some o => rw [((s1.trans s2).trans s3) _ _ z] at hp0; cases hp0
    exact hp3 _ _ (Same.new hp0) ⟨p, _, _, rfl, rfl, hH, upd_same, dps_mono (same_cutD hp0 (Same.new hp0)) _ _ (cut_dq _ _ q2)⟩
  · rename_i b es
    cases b <;> first | exact nomatch (show false = true from hn) | skip
    rw [chkE.eq_def] at h
    dsimp only at h
    split at h <;> first | cases h | skip
    rename_i x pp a0 as pos
    obtain ⟨h1, h⟩ := ba2 h
    obtain ⟨hcm, h⟩ := ba2 h
    obtain ⟨h2, h⟩ := ba2 h
    obtain ⟨h3, h4⟩ := ba2 h
    have e1 := of_decide_eq_true h1
    subst e1
    have ss := snds es g h4
    have ok := ss.ok
    rw [List.all_cons, Bool.and_eq_true] at ok
    refine pe_imp (pe_bi (g.calm hcm) .list (gl_of g h2) (g.bls _ (of_decide_eq_true h3)) ss.pa (star_of ok.1) (plain_of ok.2)) fun σ H Q ⟨O, env, eo, hp⟩ => ?_
    rw [evE, R.bind_assoc] at hp
    refine ⟨O, env, eo, (Post.bind (rep := dps X.K O) hp).imp fun vs H1 _ ⟨s1, ds, r1, hp1⟩ => ?_⟩
    have fresh : ∀ p, H1 p = none → H p = none := fun p hp0 => by
      cases z : H p with
      | none => rfl
      | some o => rw [s1 _ _ z] at hp0; cases hp0
    rcases bi_list_cases ds with ⟨xs, rfl⟩ | ⟨xs, rfl⟩ | hb
    · cases r1 with
      | cons r1 r2 =>
        cases r2
        obtain ⟨p, xs, rfl, q1, q2⟩ := inv_l r1
        exact ⟨p, xs, rfl, .inl (sqL_mono cut_le q1), fun l hl => hp1 _ _ (Same.new hl) ⟨l, _, _, rfl, rfl, fresh l hl, upd_same, dps_mono (same_cutD hl (Same.new hl)) _ _ q2⟩⟩
    · cases r1 with
      | cons r1 r2 =>
        cases r2
        obtain ⟨p, xs, rfl, q1, q2⟩ := inv_t r1
        exact ⟨p, xs, rfl, .inr (sqT_mono cut_le q1), fun l hl => hp1 _ _ (Same.new hl) ⟨l, _, _, rfl, rfl, fresh l hl, upd_same, dps_mono (same_cutD hl (Same.new hl)) _ _ q2⟩⟩
    · rw [hb] at hp1
      exact hp1.elim
end
end
end Bs

namespace Bs
open PySem PySem.Spec L2
open PyProof.Rows hiding St

/-! ### xs[:c] = ys -/
section
variable {prog : Program} {w : World} {A : Around} {E : Value → Shared → Prop} {s : Shared}
theorem front_bounds {c n : Nat} (hc : c ≤ n) : sliceBounds none (some (c : Int)) none n = (0, (c : Int), 1) := by
  have h := slice_bounds none (some (c : Int)) n
  obtain ⟨h1, h2, h3⟩ := h
  rw [HT.sIx_none] at h1
  rw [HT.sIx_nat, Nat.min_eq_left hc] at h2
  exact Prod.ext h1 (Prod.ext h2 h3)
theorem store_front {l b sl : Addr} {items new : Array Value} {n n2 : Nat} {vu : Value} {c : Nat} {Q : Unit → Shared → Prop}
    (e : s.heap.get? l = some { cls := .type "list", data := .seq items n }) (e2 : s.heap.get? b = some { cls := .type "list", data := .seq new n2 }) (hne : l ≠ b)
    (hs : s.heap.IsSliceOf sl .none vu .none) (pu : IsPart vu (some (c : Int))) (hc : c ≤ items.size)
    (hsz : items.size + new.size ≤ sizeLine) (h : Q () { s with heap := s.heap.update l (Obj.mapSeq fun xs => xs.extract 0 0 ++ new ++ xs.extract c xs.size) }) :
    wpAny (model prog w) A (setItem (.ref l) (.ref sl) (.ref b)) Q E s := by
  have hl : s.heap.IsList l items := PySem.IsL.isList e
  have hb : s.heap.IsList b new := PySem.IsL.isList e2
  obtain ⟨os, hos, hcs, hds⟩ := id hs
  have hTs : s.TypeIs (.ref sl) "slice" := ⟨os, hos, hcs⟩
  have hsame : Builtin.List.listSameRef (.ref l) (.ref b) = false := beq_eq_false_iff_ne.mpr hne
  have hmax : (max (0 : Int) (c : Int)).toNat = c := by omega
  have hz' : ((fun xs : Array Value => xs.extract 0 0 ++ new ++ xs.extract c xs.size) items).size ≤ sizeLine + 1 := by
    simp only [Array.size_append, Array.size_extract]
    omega
  unfold setItem
  refine wpAny_holding ?_
  refine wpAny_bind (wpAny_sequenceKey hl.typeIs (by decide) ?_)
  refine wpAny_bind (wpAny_callSpecial?_slot (name := Str.ofString "__setitem__") hl.typeIs slot_list_setitem
    (wpAny_call_entry slot_list_setitem hl.typeIs entry_list_setitem ?_ (args_list_setitem _ _ _)))
  show wpAny _ _ (Builtin.List.listSubscript? (.ref sl) >>= _) _ _ s
  refine wpAny_bind ?_
  unfold Builtin.List.listSubscript?
  refine wpAny_bind (wpAny_specialOf hTs slice_no_index ?_)
  simp only [Option.isNone_none, if_true]
  refine wpAny_pure ?_
  show wpAny _ _ (typeOf (.ref sl) >>= _) _ _ s
  refine wpAny_bind (wpAny_typeOf hTs ?_)
  refine PySem.W.KFB.if_not (by decide) ?_
  rw [listSliceParts_eq]
  refine wpAny_bind (wpAny_bind (wpAny_field hos hds (x := .none) rfl (wpAny_bind (wpAny_listPart .none ?_))))
  rw [if_neg (show ¬ ((rawPart none == rawInt 0) = true) from Bool.false_ne_true)]
  refine wpAny_bind (wpAny_field hos hds (x := .none) rfl (wpAny_bind (wpAny_listPart .none ?_)))
  refine wpAny_bind (wpAny_field hos hds (x := vu) rfl (wpAny_bind (wpAny_listPart pu (wpAny_pure ?_))))
  refine PySem.W.KFB.if_not (by rw [hsame]) ?_
  refine wpAny_bind (m := Builtin.List.listAllItems (.ref b) "must assign iterable to extended slice") ?_
  unfold Builtin.List.listAllItems
  refine wpAny_bind (wpAny_typeOf hb.typeIs ?_)
  refine PySem.W.KFB.if_so (by decide) ?_
  unfold Builtin.List.listItems
  refine wpAny_bind (wpAny_seqItems e2 rfl (wpAny_pure ?_))
  refine wpAny_bind (wpAny_bind (wpAny_seqItems e rfl (wpAny_pure ?_)))
  refine wpAny_bind (wpAny_of_eq ((sliceIndices_raw none (some (c : Int)) none items.size (by simp)).trans (congrArg (pure : Int × Int × Int → Sem (Int × Int × Int)) (front_bounds hc))) ?_)
  show wpAny _ _ (if ((1 : Int) == 1) = true then _ else _) _ _ s
  rw [if_pos (by decide)]
  refine wpAny_bind (wpAny_rule ?_)
  refine PySem.W.KFB.if_not (by rw [notLongL hsz]) ?_
  show wpAny _ _ (updateSeq l (fun xs => xs.extract 0 ((0 : Int)).toNat ++ new ++ xs.extract (max (0 : Int) (c : Int)).toNat xs.size) >>= _) _ _ s
  rw [hmax]
  refine wpAny_bind (wpAny_updateSeq (hz := Nat.le_trans (Nat.le_add_right _ _) hsz) (_hz' := hz') e rfl ?_)
  refine wpAny_bind (wpAny_letGo ?_)
  exact wpAny_pure ⟨.none, rfl, wpAny_pure h⟩
end
section
variable {X : Cx}
/-- o[:c] = v -/
def gFront (to : TE) (tu : TO) : TG := fun v σ H Q => to σ H fun o H1 => tu σ H1 fun oc H2 => ∃ l b xs ys c, o = .ref l ∧ v = .ref b ∧ l ≠ b ∧ oc = some c ∧ H2 l = some (.lst xs) ∧ H2 b = some (.lst ys) ∧ 0 ≤ c ∧ c ≤ xs.length ∧ xs.length + ys.length ≤ sizeLine ∧ Q σ (upd H2 l (.lst (ys ++ xs.drop c.toNat)))
theorem pg_front {o hi : Expr} {to : TE} {tu : TO} {p2 pos : Pos} (ho : PE X o to) (hu : PO X (some hi) tu) : PG X (.Subscript o (.Slice none (some hi) none p2) pos) (gFront to tu) := by
  refine ⟨fun pins s σ H v u Q I r h => ?_⟩
  show wpAny _ _ (holding [u] (eval o X.env) >>= _) _ _ s
  refine wpAny_bind (wpAny_holding (wpAny_mono (ho.run pins s σ H _ I h) (fun ov s1 q => ?_) fun _ _ x => x))
  obtain ⟨x, H1, I1, r1, q1⟩ := q
  refine wpAny_bind (wpAny_holding (wpAny_Slice ?_))
  rw [evalPart_none]
  refine wpAny_pure ?_
  refine wpAny_mono (hu.run pins s1 σ H1 _ I1 q1) (fun u2 s2 q => ?_) fun _ _ x => x
  obtain ⟨oc, H2, I2, pu, l, b, xs, ys, c, rfl, rfl, hne, rfl, hl, hb, h0, hc, hz, q2⟩ := q
  refine wpAny_pure ?_
  cases r1
  cases r
  obtain ⟨c', rfl⟩ := Int.eq_ofNat_of_zero_le h0
  have I3 : Inv X pins σ H2 { s2 with heap := s2.heap.push { cls := .type "slice", data := .fields #[.none, u2, .none] } } := I2.kept (t' := s2.toks) fun b ob q => Heap.get?_push_of_some _ q
  refine wpAny_bind (wpAny_standAt (wpAny_bind (wpAny_holding ?_)))
  obtain ⟨z, its, n, r, hl1, e⟩ := I3.lstM hl
  obtain ⟨z2, its2, n2, r2, hl2, e2⟩ := I3.lstM hb
  refine store_front (c := c') e e2 hne (Heap.IsSliceOf.new ..) pu (by rw [List.size_toArray]; omega) (by rw [List.size_toArray, List.size_toArray]; omega) (wpAny_release ⟨σ, _, ?_, q2⟩)
  refine I3.lset (its' := its2 ++ its.drop c') (t' := s2.toks) hl e ?_ (r2.append (r.drop _)) ?_
  · have := splice_eq its its2 0 c'
    simpa using this
  · rw [List.length_append, List.length_drop]
    omega
end
end Bs

namespace Bs
open PySem PySem.Spec L2
open PyProof.Rows hiding St

section
variable {F : Nat → List PyData → R PyData} {G : Gs} {N : Nat}
theorem rdT_toS {K : PySem.W.Frag} {O : List Addr} {H0 B : Hp} {A : List Addr} {ad : Nat → Addr} {σ : L2.St} {H : Hp} {env : SE} {D : Ends} {W : WX} {c : E} {f : Bool → Rs} (s : SR K O H0 B A ad σ H env)
    (h : PostS K G O H0 B D W (((evE F c (fullE env)).bind ofB).toS env f)) : rdT K F G W c σ H fun b H' => Same H H' ∧ PostS K G O H0 B D W (f b) :=
  ⟨O, fullE env, s.full, (post_toS (rep := repB) s h).imp fun b H' _ ⟨e, d, r, p⟩ => ⟨e, by cases r; exact p⟩⟩
theorem rdT_imp {K : PySem.W.Frag} {σ : L2.St} {H : Hp} {W : WX} {m : E} {Q Q' : Bool → Hp → Prop} (h : rdT K F G W m σ H Q) (i : ∀ v H', Same H H' → Q v H' → Q' v H') : rdT K F G W m σ H Q' := by
  obtain ⟨O, env, e, p⟩ := h
  exact ⟨O, env, e, p.imp i⟩
theorem unp_run {K : PySem.W.Frag} {O : List Addr} {H0 B : Hp} {A : List Addr} {ad : Nat → Addr} {σ : L2.St} {H : Hp} {env : SE} {D : Ends} {W : WX} {is : List Nat} {v : V} {d : PyData} (s : SR K O H0 B A ad σ H env) (r : Dq K (cut H (O ++ A)) v d) (h : PostS K G O H0 B D W (unpS env is d)) :
    gTup K is.length (gsOf is) v σ H D.nx := by
  cases d with
  | tuple ds =>
    have h : PostS K G O H0 B D W (if ds.length = is.length then .nx (setAllS env is ds) else .stuck) := h
    by_cases hl : ds.length = is.length
    · rw [if_pos hl] at h
      obtain ⟨a, xs, rfl, h1, h2⟩ := inv_t r
      exact ⟨a, xs, rfl, sqT_mono cut_le h1, by rw [dps_len h2, hl], gs_run (by rw [dps_len h2, hl]) (h _ _ _ _ (s.setAll h2 hl.symm))⟩
    · rw [if_neg hl] at h
      exact h.elim
  | _ => exact h.elim
theorem tg_run {K : PySem.W.Frag} {O : List Addr} {H0 B : Hp} {A : List Addr} {ad : Nat → Addr} {σ : L2.St} {H : Hp} {env : SE} {tg : Tg} {v : V} {d : PyData} {Q : L2.St → Hp → Prop} (s : SR K O H0 B A ad σ H env) (r : Dq K (cut H (O ++ A)) v d) {env' : SE} (h : tgS tg d env = some env')
    (q : ∀ σ', SR K O H0 B A ad σ' H env' → Q σ' H) : gOf K tg v σ H Q := by
  cases tg with
  | nm i =>
    cases h
    exact q _ (s.set i r)
  | tp is =>
    cases d with
    | tuple ds =>
      have h : (if ds.length = is.length then some (setAllS env is ds) else none) = some env' := h
      by_cases hl : ds.length = is.length
      · rw [if_pos hl] at h
        cases h
        obtain ⟨a, xs, rfl, h1, h2⟩ := inv_t r
        exact ⟨a, xs, rfl, sqT_mono cut_le h1, by rw [dps_len h2, hl], gs_run (by rw [dps_len h2, hl]) (q _ (s.setAll h2 hl.symm))⟩
      · rw [if_neg hl] at h
        cases h
    | _ => cases h
theorem name_of {C : CtS} {W : WX} {X : Cx} (g : GdS C F G W X) {i : Nat} {t : Expr} (h : tgN C.toCt (fun _ => true) i t = true) : ∃ x pos, t = .Name x pos ∧ X.N[i]? = some x ∧ Loc X.env.scope x := by
  unfold tgN at h
  split at h <;> first | cases h | skip
  rename_i x pos
  rw [Bool.and_eq_true, decide_eq_true_eq] at h
  obtain ⟨h1, h2⟩ := h
  unfold locB at h2
  refine ⟨x, pos, rfl, by rw [g.gd.N]; exact h1, ?_⟩
  split at h2
  · rename_i q
    exact .inl (by rw [g.gd.sc]; exact q)
  · rename_i q
    exact .inr (by rw [g.gd.sc]; exact q)
  · cases h2
/-- the loop over what is walked -/
theorem for_run {K : PySem.W.Frag} {O : List Addr} {H0 B : Hp} {A : List Addr} {ad : Nat → Addr} {σ : L2.St} {H1 : Hp} {env : SE} {D : Ends} {W : WX} {J : It} {items : List PyData} {tg : Tg} {b : Ss} (s : SR K O H0 B A ad σ H1 env) (wd : WalkD K (O ++ A) H1 J items)
    (h : PostS K G O H0 B D W (loopF (fun x e => tgRun tg x e fun e' => exSs F N b e') items env)) :
    ∃ W' : Nat → Nat → L2.St → Hp → Prop, (∃ m, W' 0 m σ H1) ∧ ∀ i m σ H, W' i m σ H →
      (J.stop i H ∧ D.nx σ H) ∨ (J.go i H ∧ ∃ N' : L2.St → Hp → Prop, (∀ σ' H', N' σ' H' → ∃ m', m' < m ∧ W' (i + 1) m' σ' H') ∧ ∀ x H', J.yld i H x H' → gOf K tg x σ H' fun σ2 H2 => rdSs K F G N W b { D with nx := N', ct := N', bk := D.nx } σ2 H2) := by
  have wd : Walk J items.length (fun H => Same (cut H1 (O ++ A)) H) (fun i H x H2 => Same H H2 ∧ ∀ O', Alloc O' H → Same (cut H1 (O ++ A)) (cut H O') → ∃ d, items[i]? = some d ∧ Dq K (cut H2 O') x d) := wd
  have s1 : SR K O H0 (cut H1 (O ++ A)) A ad σ H1 env := ⟨s.e0, s.al0, s.alA, s.len, Same.refl _, s.fr, s.ow, s.inj⟩
  refine for_it wd (fun i σ' H' => i ≤ items.length ∧ ∃ A' ad' env', SR K O H0 (cut H1 (O ++ A)) A' ad' σ' H' env' ∧ PostS K G O H0 B D W (loopF (fun x e => tgRun tg x e fun e' => exSs F N b e') (items.drop i) env'))
    ⟨Nat.zero_le _, A, ad, env, s1, by rw [List.drop_zero]; exact h⟩ (fun i σ' H' _ ⟨_, A', ad', env', s', _⟩ => s'.fb.trans cut_le) ?_ ?_
  · rintro i x σ' H' H'' hi ⟨_, A', ad', env', s', hp⟩ ⟨e, hy⟩
    obtain ⟨d, hd, r⟩ := hy (O ++ A') s'.alOA s'.fb
    have hdr : items.drop i = d :: items.drop (i + 1) := by
      obtain ⟨hlt, q⟩ := List.getElem?_eq_some_iff.mp hd
      rw [← q]
      exact List.drop_eq_getElem_cons hlt
    rw [hdr, loopF] at hp
    cases q : tgS tg d env' with
    | none =>
      have z : tgRun tg d env' (fun e' => exSs F N b e') = .stuck := by unfold tgRun; rw [q]
      rw [z] at hp
      exact hp.elim
    | some e2 =>
      have z : tgRun tg d env' (fun e' => exSs F N b e') = exSs F N b e2 := by unfold tgRun; rw [q]
      rw [z] at hp
      refine tg_run (s'.up e) r q fun σ2 s2 => ⟨O, H0, cut H1 (O ++ A), A', ad', e2, s2, ?_⟩
      have up : ∀ {A ad σ H e}, SR K O H0 (cut H1 (O ++ ‹List Addr›)) A ad σ H e → True := fun _ => trivial
      have bs : ∀ {A3 ad3 σ3 H3 e3}, SR K O H0 (cut H1 (O ++ A)) A3 ad3 σ3 H3 e3 → SR K O H0 B A3 ad3 σ3 H3 e3 := fun z => z.base s.fb
      cases q2 : exSs F N b e2 with
      | stuck => rw [q2] at hp; exact hp
      | nx e3 => rw [q2] at hp; exact fun A3 ad3 σ3 H3 s3 => ⟨hi, A3, ad3, e3, s3, hp⟩
      | ct e3 => rw [q2] at hp; exact fun A3 ad3 σ3 H3 s3 => ⟨hi, A3, ad3, e3, s3, hp⟩
      | bk e3 => rw [q2] at hp; exact fun A3 ad3 σ3 H3 s3 => hp A3 ad3 σ3 H3 (bs s3)
      | rt d3 => rw [q2] at hp; exact hp
      | ex c p e3 => rw [q2] at hp; exact fun A3 ad3 σ3 H3 cls dd s3 x3 => hp A3 ad3 σ3 H3 cls dd (bs s3) x3
  · rintro σ' H' ⟨_, A', ad', env', s', hp⟩
    rw [List.drop_length, loopF] at hp
    exact hp A' ad' σ' H' (s'.base s.fb)
theorem while_run {K : PySem.W.Frag} {O : List Addr} {H0 B : Hp} {A : List Addr} {ad : Nat → Addr} {σ : L2.St} {H : Hp} {env : SE} {D : Ends} {W : WX} {c : E} {b : Ss} {n : Nat} (s : SR K O H0 B A ad σ H env)
    (h : PostS K G O H0 B D W (whileF (fun e => (evE F c (fullE e)).bind ofB) (fun e => exSs F N b e) n env)) : tWhile (rdT K F G W c) (rdSs K F G N W b) D σ H := by
  refine ⟨fun m σ' H' => ∃ A' ad' env', SR K O H0 B A' ad' σ' H' env' ∧ PostS K G O H0 B D W (whileF (fun e => (evE F c (fullE e)).bind ofB) (fun e => exSs F N b e) m env'), ⟨n, A, ad, env, s, h⟩, ?_⟩
  rintro m σ' H' ⟨A', ad', env', s', hp⟩
  cases m with
  | zero => exact hp.elim
  | succ m =>
    rw [whileF] at hp
    refine rdT_imp (rdT_toS s' hp) fun k H2 _ ⟨e, hp⟩ => ?_
    cases k with
    | false =>
      rw [if_neg Bool.false_ne_true] at hp ⊢
      exact hp A' ad' σ' H2 (s'.up e)
    | true =>
      rw [if_pos rfl] at hp ⊢
      refine ⟨fun σ3 H3 => ∃ A3 ad3 e3, SR K O H0 B A3 ad3 σ3 H3 e3 ∧ PostS K G O H0 B D W (whileF (fun e => (evE F c (fullE e)).bind ofB) (fun e => exSs F N b e) m e3), fun σ3 H3 ⟨A3, ad3, e3, s3, h3⟩ => ⟨m, Nat.lt_succ_self m, A3, ad3, e3, s3, h3⟩, O, H0, B, A', ad', env', s'.up e, ?_⟩
      cases q2 : exSs F N b env' with
      | stuck => rw [q2] at hp; exact hp
      | nx e3 => rw [q2] at hp; exact fun A3 ad3 σ3 H3 s3 => ⟨A3, ad3, e3, s3, hp⟩
      | ct e3 => rw [q2] at hp; exact fun A3 ad3 σ3 H3 s3 => ⟨A3, ad3, e3, s3, hp⟩
      | bk e3 => rw [q2] at hp; exact hp
      | rt d3 => rw [q2] at hp; exact hp
      | ex c p e3 => rw [q2] at hp; exact hp

theorem withOw_ok {K : PySem.W.Frag} {O : List Addr} {H0 B : Hp} {env : SE} {D : Ends} {W : WX} {i : Nat} {f : List PyData → Rs} (h : PostS K G O H0 B D W (withOw env i f)) : ∃ ds, env[i]? = some (.ow ds) ∧ PostS K G O H0 B D W (f ds) := by
  unfold withOw ownAt at h
  cases q : env[i]? with
  | none => rw [q] at h; exact h.elim
  | some s =>
    rw [q] at h
    cases s with
    | un => exact h.elim
    | fr d => exact h.elim
    | ow ds => exact ⟨ds, rfl, h⟩
theorem newL_rd {K : PySem.W.Frag} {O : List Addr} {H0 B : Hp} {A : List Addr} {ad : Nat → Addr} {F : Nat → List PyData → R PyData} {G : Gs} {D : Ends} {W : WX} {σ : L2.St} {H : Hp} {env : SE} {e : E} {f : List PyData → Rs} (s : SR K O H0 B A ad σ H env) (h : PostS K G O H0 B D W (((evE F e (fullE env)).bind lsOf).toS env f)) :
    rdN K F G W e σ H fun v H' => ∃ p ys es, v = .ref p ∧ H p = none ∧ H' p = some (.lst ys) ∧ DqAll K (cut H' (p :: O)) ys es ∧ PostS K G O H0 B D W (f es) := by
  cases q : evE F e (fullE env) with
  | stuck => rw [q] at h; exact h.elim
  | exc c p =>
    rw [q] at h
    refine ⟨O, fullE env, s.full, ?_⟩
    rw [q]
    exact fun cls dd H' e x => h A ad σ H' cls dd (s.up e) x
  | ok d =>
    rw [q] at h
    cases d <;> first | exact h.elim | skip
    rename_i ds
    refine ⟨O, fullE env, s.full, ?_⟩
    rw [q]
    rintro v H' e ⟨p, vs, ds', rfl, he, hp, hp', r⟩
    cases he
    exact ⟨p, vs, ds, rfl, hp, hp', r, h⟩
theorem assign_sub {X : Cx} {o i : Expr} {pos : Pos} (h : okE i = true) : ∀ v, assign (.Subscript o i pos) X.env v = (do
      let ov ← holding [v] (eval o X.env)
      let iv ← holding [v, ov] (eval i X.env)
      standAt pos
      holding [v, ov, iv] (setItem ov iv v)
      release [v, ov, iv] []) := by
  cases i <;> first | (intro _; rfl) | cases h
theorem inv_i' {K : PySem.W.Frag} {H : Hp} {v : V} {k : Int} (h : Dq K H v (.int k)) : v = .int k := by cases h; rfl
theorem lcSw_ok {C : Ct} {x : Str} {px : Pos} {e : Expr} {pos : Pos} (h4 : isLC e = true) (h5 : lcSw C (.Name x px) e pos = true) : ∃ elt gens scope ep, e = .ListComp elt gens scope ep ∧ C.sc.names.lookup x = some .local ∧ (px.line == ep.line) = true ∧ (scope.names.any fun (n, k) => n == x && (k == .local || k == .cell)) = false := by
  cases e <;> first | exact nomatch (show false = true from h4) | skip
  rename_i elt gens scope ep
  have h5 : (decide (C.sc.names.lookup x = some .local) && ((px.line == ep.line) && ((pos.line == pos.line) && !(scope.names.any fun (n, k) => n == x && (k == .local || k == .cell))))) = true := h5
  obtain ⟨k1, h5⟩ := ba2 h5
  obtain ⟨k2, h5⟩ := ba2 h5
  obtain ⟨k3, k4⟩ := ba2 h5
  exact ⟨elt, gens, scope, ep, rfl, of_decide_eq_true k1, k2, bnot k4⟩
theorem chkE_lc {C : Ct} {m : E} {elt : Expr} {gens : List Comprehension} {scope : Scope} {ep : Pos} (h : chkE C m (.ListComp elt gens scope ep) = true) : ∃ w ws tg c e own, m = .lc w ws tg c e own := by
  cases m <;> first | exact ⟨_, _, _, _, _, _, rfl⟩ | (rw [chkE.eq_def] at h; exact nomatch (show false = true from h))
mutual
theorem sndS : ∀ (m : S) {C : CtS} {W : WX} {X : Cx} {st : Stmt}, GdS C F G W X → chkS C m st = true → PS X st (rdS X.K F G N W m)
  | .pass, C, W, X, st, g, h => by
    rw [chkS.eq_def] at h
    dsimp only at h
    split at h <;> first | cases h | skip
    refine ps_imp ps_pass fun D σ H ⟨O, H0, B, A, ad, env, s, hp⟩ => ?_
    rw [exS] at hp
    exact hp A ad σ H s
  | .ret m, C, W, X, st, g, h => by
    rw [chkS.eq_def] at h
    dsimp only at h
    split at h <;> first | cases h | skip
    refine ps_imp (ps_ret (snd m g.gd h).pe) fun D σ H ⟨O, H0, B, A, ad, env, s, hp⟩ => ?_
    rw [exS] at hp
    exact ⟨O, fullE env, s.full, (post_toS (rep := dp X.K O) s hp).imp fun v H' _ ⟨e, d, r, p⟩ => p v H' (s.e0.trans e) r⟩
  | .retN, C, W, X, st, g, h => by
    rw [chkS.eq_def] at h
    dsimp only at h
    split at h <;> first | cases h | skip
    refine ps_imp ps_retN fun D σ H ⟨O, H0, B, A, ad, env, s, hp⟩ => ?_
    rw [exS] at hp
    exact hp .non H s.e0 .non
  | .set i m, C, W, X, st, g, h => by
    rw [chkS.eq_def] at h
    dsimp only at h
    split at h <;> first | cases h | skip
    obtain ⟨h1, h⟩ := ba2 h
    obtain ⟨h2, h3⟩ := ba2 h
    obtain ⟨x, px, rfl, hi, hx⟩ := name_of g h1
    have sm := snd m g.gd h2
    refine ps_imp (ps_set (by rw [g.gd.N]; exact g.gd.nd) hi hx sm.pe (sw_no sm.ok (bnot h3)) (.inl (g.fnT x))) fun D σ H ⟨O, H0, B, A, ad, env, s, hp⟩ => ?_
    rw [exS] at hp
    exact rd_imp (valS_rd s hp) fun v H' _ ⟨A', d, e, s', r, p⟩ => p A' ad _ H' (s'.set i r)
  | .setN i m, C, W, X, st, g, h => by
    rw [chkS.eq_def] at h
    dsimp only at h
    split at h <;> first | cases h | skip
    rename_i t e pos
    obtain ⟨h1, h⟩ := ba2 h
    obtain ⟨h2, h3⟩ := ba2 h
    obtain ⟨x, px, rfl, hi, hx⟩ := name_of g h1
    rcases Bool.or_eq_true_iff.mp h3 with h3 | h3
    · obtain ⟨hk, h3⟩ := ba2 h3
      obtain ⟨h4, h5⟩ := ba2 h3
      obtain ⟨elt', gens, scope, ep, rfl, k1, k2, k4⟩ := lcSw_ok h4 h5
      obtain ⟨w, ws, tg, c, elt, own, rfl⟩ := chkE_lc h2
      rw [chkE.eq_def] at h2
      dsimp only at h2
      split at h2 <;> first | cases h2 | skip
      rename_i elt2 tg' iter ifs scope2 pos2 q3
      injection q3 with q4 q5 q6 q7
      subst q4
      subst q5
      subst q6
      subst q7
      obtain ⟨hcm, h⟩ := ba2 h2
      obtain ⟨j1, h⟩ := ba2 h
      obtain ⟨j2, h⟩ := ba2 h
      obtain ⟨j3, h⟩ := ba2 h
      obtain ⟨j4, h⟩ := ba2 h
      obtain ⟨j5, h⟩ := ba2 h
      obtain ⟨j6, h⟩ := ba2 h
      obtain ⟨j7, h⟩ := ba2 h
      obtain ⟨j8, j9⟩ := ba2 h
      split at j5 <;> first | cases j5 | skip
      rename_i as hq
      have ss := snds ws g.gd j5
      have hnd : X.N.Nodup := by rw [g.gd.N]; exact g.gd.nd
      refine ps_imp (ps_setLc (own := own) (g := gOf X.K tg) (tt := rdTs X.K F G (fun _ _ _ _ => False) c) (te := rd X.K F G (fun _ _ _ _ => False) elt) (g.gd.calm hcm) hnd hi (by rw [g.gd.sc]; exact k1) (sw_true (by rw [g.gd.sc]; exact of_decide_eq_true hk) (by rw [g.gd.sc]; exact k1) k2 k4)
        (snd_it g.gd hq ss.ok ss.pa (fun a q => let ⟨m, e, s⟩ := ss.one a q; ⟨m, e, s.pe⟩)) (blkOk_by (by rw [g.gd.N, g.gd.sc]; exact j1)) (fun s H Ca cl fp => pg_chk (g.gd.blk s H scope Ca cl fp) (fun x hx => hx) j4)
        (fun s H Ca cl fp => pts_of (snds c (g.gd.blk s H scope Ca cl fp) j6) j7 (of_decide_eq_true j8)) (fun s H Ca cl fp => (snd elt (g.gd.blk s H scope Ca cl fp) j9).pe) (fold_of j2)) fun D σ H ⟨O, H0, B, A, ad, env, s, hp⟩ => ?_
      rw [exS] at hp
      exact lc_run (C := C.toCt) (tgIn_of j3) (rdN_imp (newS_rd (i := i) s hp) fun v H' _ ⟨A', ad', ds, s', p⟩ => p A' ad' _ H' s')
    · obtain ⟨h4, h5⟩ := ba2 h3
      refine ps_imp (ps_set (by rw [g.gd.N]; exact g.gd.nd) hi hx (sndN g.gd h5 h2) (sw_no (snd m g.gd h2).ok (bnot h4)) (.inl (g.fnT x))) fun D σ H ⟨O, H0, B, A, ad, env, s, hp⟩ => ?_
      rw [exS] at hp
      exact rdN_imp (newS_rd (i := i) s hp) fun v H' _ ⟨A', ad', ds, s', p⟩ => p A' ad' _ H' s'
  | .unp is m, C, W, X, st, g, h => by
    rw [chkS.eq_def] at h
    dsimp only at h
    split at h <;> first | cases h | skip
    rename_i t e pos
    obtain ⟨h1, h⟩ := ba2 h
    obtain ⟨h2, h⟩ := ba2 h
    obtain ⟨h3, h4⟩ := ba2 h
    have sm := snd m g.gd h2
    have pg : PG X t (gOf X.K (.tp is)) := pg_chk g.gd (fun x _ => g.fnT x) (t := .tp is) h1
    have ht : ∃ es k p, t = .Tuple es k p := by
      unfold tgT at h1
      split at h1
      · exact ⟨_, _, _, rfl⟩
      · cases h1
    obtain ⟨es, k, p, rfl⟩ := ht
    refine ps_imp (ps_asg sm.pe pg (by unfold swapsWithSole; exact sw_no sm.ok (bnot h3)) (sws_no sm.ok (bnot h4)) rfl) fun D σ H ⟨O, H0, B, A, ad, env, s, hp⟩ => ?_
    rw [exS] at hp
    exact rd_imp (valS_rd s hp) fun v H' _ ⟨A', d, e, s', r, p⟩ => unp_run s' r p
  | .par i j a b, C, W, X, st, g, h => by
    rw [chkS.eq_def] at h
    dsimp only at h
    split at h <;> first | cases h | skip
    rename_i x px y py kt pt a' b' k2 pt2 pos
    obtain ⟨h1, h⟩ := ba2 h
    obtain ⟨h2, h⟩ := ba2 h
    obtain ⟨h3, h⟩ := ba2 h
    obtain ⟨h4, h⟩ := ba2 h
    obtain ⟨h5, h⟩ := ba2 h
    obtain ⟨h6, h⟩ := ba2 h
    obtain ⟨h7, h⟩ := ba2 h
    obtain ⟨h8, h⟩ := ba2 h
    obtain ⟨h9, h⟩ := ba2 h
    obtain ⟨h10, h⟩ := ba2 h
    obtain ⟨h11, h⟩ := ba2 h
    obtain ⟨h12, h13⟩ := ba2 h
    have sa := snd a g.gd h12
    have sb := snd b g.gd h13
    have hx : X.env.scope.names.lookup x = some .local := by rw [g.gd.sc]; exact of_decide_eq_true h5
    have hy : X.env.scope.names.lookup y = some .local := by rw [g.gd.sc]; exact of_decide_eq_true h6
    refine ps_imp (ps_par (g.gd.calm h1) (by rw [g.gd.N]; exact g.gd.nd) (by rw [g.gd.N]; exact of_decide_eq_true h2) (by rw [g.gd.N]; exact of_decide_eq_true h3) (of_decide_eq_true h4) hx hy (pa_cons sa.pe (pa_cons sb.pe pa_nil (star_of sb.ok)) (star_of sa.ok))
      (swap_two (by rw [g.gd.sc]; exact of_decide_eq_true h7) hx hy h8 (bnot h9) sa.ok sb.ok (bnot h10) (bnot h11)) rfl) fun D σ H ⟨O, H0, B, A, ad, env, s, hp⟩ => ?_
    rw [exS] at hp
    refine rd_imp (valS_rd s hp) fun v H' _ ⟨A', d, e, s', r, p⟩ => rd_imp (valS_rd s' p) fun v2 H2 e2 ⟨A2, d2, e3, s2, r2, p2⟩ => ?_
    have r3 : Dq X.K (cut H2 (O ++ A2)) v d := dp_mono (cut_sub fun a m => (List.mem_append.mp m).elim (List.mem_append_left _) fun m => List.mem_append_right _ (e3 a m)) _ _ (dp_mono (cut_same e2) _ _ r)
    exact ⟨v, v2, rfl, p2 A2 ad _ H2 ((s2.set i r3).set j r2)⟩
  | .app i m, C, W, X, st, g, h => by
    rw [chkS.eq_def] at h
    dsimp only at h
    split at h <;> first | cases h | skip
    obtain ⟨h1, h⟩ := ba2 h
    obtain ⟨h2, h⟩ := ba2 h
    obtain ⟨h3, h⟩ := ba2 h
    obtain ⟨h4, h⟩ := ba2 h
    obtain ⟨h5, h⟩ := ba2 h
    obtain ⟨h6, h7⟩ := ba2 h
    have e1 := of_decide_eq_true h1
    subst e1
    have sm := snd m g.gd h7
    refine ps_imp (ps_expr (pe_bm PySem.F.plainAttrs_list PySem.F.slot_list_append PySem.F.type_list_append mt_append (pe_var (i := i) (by rw [g.gd.N]; exact of_decide_eq_true h2) (by rw [g.gd.sc]; exact isVis_ok h3) (notDbg_ok h4) (notCls_ok h5))
      (pa_cons sm.pe pa_nil (star_of sm.ok)) rfl (few_of sm.ok) h6 (star_of sm.ok) rfl) rfl) fun D σ H ⟨O, H0, B, A, ad, env, s, hp⟩ => ?_
    rw [exS] at hp
    unfold appS at hp
    split at hp
    · rename_i ds q
      obtain ⟨ha, hσ, vs, hH, hd⟩ := s.ow i ds q
      refine ⟨.ref (ad i), hσ, .inl ⟨rfl, vs, .inl (.inl hH)⟩, rd_imp (valS_rd s hp) fun v H' _ ⟨A', d, e, s', r, p⟩ => ?_⟩
      obtain ⟨ha', _, vs', hH', hd'⟩ := s'.ow i ds q
      have p : PostS X.K G O H0 B D W (if ds.length < 1000000 then .nx (env.set i (.ow (ds ++ [d]))) else .stuck) := p
      by_cases hl : ds.length < 1000000
      · rw [if_pos hl] at p
        refine ⟨ad i, vs', v, rfl, rfl, hH', ?_, p A' ad σ _ (s'.grow q (dps_app hd' (.cons r .nil)))⟩
        have h1 := dps_len hd'
        have h2 : (1000000 : Nat) < sizeLine := by decide
        omega
      · rw [if_neg hl] at p
        exact p.elim
    · exact hp.elim
  | .exs m, C, W, X, st, g, h => by
    rw [chkS.eq_def] at h
    dsimp only at h
    split at h <;> first | cases h | skip
    obtain ⟨h1, h2⟩ := ba2 h
    have sm := snd m g.gd h2
    refine ps_imp (ps_expr sm.pe (sw_no sm.ok (by
      rename_i e _
      cases e <;> first | rfl | exact nomatch (show false = true from h1)))) fun D σ H ⟨O, H0, B, A, ad, env, s, hp⟩ => ?_
    rw [exS] at hp
    exact ⟨O, fullE env, s.full, (post_toS (rep := dp X.K O) s hp).imp fun v H' _ ⟨e, d, r, p⟩ => p A ad σ H' (s.up e)⟩
  | .stI i x m, C, W, X, st, g, h => by
    rw [chkS.eq_def] at h
    dsimp only at h
    split at h <;> first | cases h | skip
    obtain ⟨h1, h⟩ := ba2 h
    obtain ⟨h2, h⟩ := ba2 h
    obtain ⟨h3, h⟩ := ba2 h
    obtain ⟨h4, h⟩ := ba2 h
    obtain ⟨h5, h⟩ := ba2 h
    obtain ⟨h6, h⟩ := ba2 h
    obtain ⟨h7, h8⟩ := ba2 h
    have sm := snd m g.gd h6
    have sx := snd x g.gd h5
    refine ps_imp (ps_asg sm.pe (pg_sub (pe_var (X := X) (i := i) (by rw [g.gd.N]; exact of_decide_eq_true h1) (by rw [g.gd.sc]; exact isVis_ok h2) (notDbg_ok h3) (notCls_ok h4)) sx.pe set_list (assign_sub sx.ok)) (by unfold swapsWithSole; exact sw_no sm.ok (bnot h7)) (sws_no sm.ok (bnot h8)) rfl) fun D σ H ⟨O, H0, B, A, ad, env, s, hp⟩ => ?_
    rw [exS] at hp
    obtain ⟨ds, q, hp⟩ := withOw_ok hp
    refine rd_imp (valS_rd s hp) fun v H' _ ⟨A', d, e, s', r, p⟩ => ?_
    have hs := (s'.full : EnvOk X.K O σ H' (fullE env))
    obtain ⟨ha', hσ', vs, hH', hd'⟩ := s'.ow i ds q
    refine ⟨_, hσ', rd_imp ⟨O, fullE env, s'.full, post_toS (rep := dp X.K O) s' p⟩ fun k H2 e2 ⟨_, dk, rk, p2⟩ => ?_⟩
    cases dk <;> first | exact p2.elim | skip
    rename_i kk
    have hkk := inv_i' rk
    subst hkk
    have p2 : PostS X.K G O H0 B D W (match ixN ds.length kk with
      | some j => .nx (env.set i (.ow (ds.set j d)))
      | none => .stuck) := p2
    cases hj : ixN ds.length kk with
    | none => rw [hj] at p2; exact p2.elim
    | some j =>
      rw [hj] at p2
      have s2 := s'.up e2
      obtain ⟨ha2, hσ2, vs2, hH2, hd2⟩ := s2.ow i ds q
      have r2 := dp_mono (cut_same (O := O ++ A') e2) _ _ r
      exact ⟨_, vs2, kk, j, rfl, rfl, hH2, by rw [dps_len hd2]; exact hj, p2 A' ad σ _ (s2.grow q (dps_set r2 j hd2))⟩
  | .stS i x m, C, W, X, st, g, h => by
    rw [chkS.eq_def] at h
    dsimp only at h
    split at h <;> first | cases h | skip
    obtain ⟨h1, h⟩ := ba2 h
    obtain ⟨h2, h⟩ := ba2 h
    obtain ⟨h3, h⟩ := ba2 h
    obtain ⟨h4, h⟩ := ba2 h
    obtain ⟨h5, h⟩ := ba2 h
    obtain ⟨h6, h⟩ := ba2 h
    obtain ⟨hn, h⟩ := ba2 h
    obtain ⟨h7, h8⟩ := ba2 h
    have sx := snd x g.gd h5
    refine ps_imp (ps_asg (sndN g.gd hn h6) (pg_front (pe_var (X := X) (i := i) (by rw [g.gd.N]; exact of_decide_eq_true h1) (by rw [g.gd.sc]; exact isVis_ok h2) (notDbg_ok h3) (notCls_ok h4)) (po_some sx.pe)) (by unfold swapsWithSole; exact sw_no (snd m g.gd h6).ok (bnot h7)) (sws_no (snd m g.gd h6).ok (bnot h8)) rfl) fun D σ H ⟨O, H0, B, A, ad, env, s, hp⟩ => ?_
    rw [exS] at hp
    obtain ⟨ds, q, hp⟩ := withOw_ok hp
    obtain ⟨ha, hσ, vs, hH, hd⟩ := s.ow i ds q
    refine rdN_imp (newL_rd s hp) fun v H' e ⟨p, ys, es, hv, hpH, hpH', r, hp⟩ => ?_
    subst hv
    by_cases hl : lfrees es = true
    case neg =>
      rw [if_neg hl] at hp
      exact hp.elim
    rw [if_pos hl] at hp
    have s' := s.up e
    have hne : ad i ≠ p := fun z => by rw [← z, hH] at hpH; cases hpH
    refine ⟨_, hσ, rd_imp ⟨O, fullE env, s'.full, post_toS (rep := dp X.K O) s' hp⟩ fun k H2 e2 ⟨_, dk, rk, p2⟩ => ?_⟩
    cases dk <;> first | exact p2.elim | skip
    rename_i kk
    have hkk := inv_i' rk
    subst hkk
    have p2 : PostS X.K G O H0 B D W (if 0 ≤ kk ∧ kk ≤ ds.length ∧ ds.length + es.length ≤ 1000000 then .nx (env.set i (.ow (es ++ ds.drop kk.toNat))) else .stuck) := p2
    by_cases hc : 0 ≤ kk ∧ kk ≤ ds.length ∧ ds.length + es.length ≤ 1000000
    case neg =>
      rw [if_neg hc] at p2
      exact p2.elim
    rw [if_pos hc] at p2
    have s2 := s'.up e2
    obtain ⟨ha2, hσ2, vs2, hH2, hd2⟩ := s2.ow i ds q
    have r2 : DqAll X.K (cut H2 (O ++ A)) ys es := dps_mono (cut_same e2) _ _ (lfrees_hide (fun a m => by
      rcases List.mem_append.mp m with m | m
      · exact .inl (List.mem_cons_of_mem _ m)
      · obtain ⟨_, ws, w⟩ := s'.alA a m
        exact .inr ⟨ws, w⟩) _ _ hl r)
    have l1 := dps_len hd2
    have l2 := dps_len r2
    have h9 : (1000000 : Nat) < sizeLine := by decide
    exact ⟨kk, rfl, _, p, vs2, ys, kk, rfl, rfl, hne, rfl, hH2, e2 _ _ hpH', hc.1, by omega, by omega, p2 A ad σ _ (s2.grow q (dps_app r2 (dps_drop _ hd2)))⟩
  | .iff c a b, C, W, X, st, g, h => by
    rw [chkS.eq_def] at h
    dsimp only at h
    split at h <;> first | cases h | skip
    obtain ⟨h1, h⟩ := ba2 h
    obtain ⟨h2, h⟩ := ba2 h
    obtain ⟨h3, h4⟩ := ba2 h
    refine ps_imp (ps_if ((snd c g.gd h1).pt h2) (sndSs a g h3) (sndSs b g h4)) fun D σ H ⟨O, H0, B, A, ad, env, s, hp⟩ => ?_
    rw [exS] at hp
    refine rdT_imp (rdT_toS s hp) fun k H' _ ⟨e, p⟩ => ?_
    cases k with
    | true => exact ⟨O, H0, B, A, ad, env, s.up e, p⟩
    | false => exact ⟨O, H0, B, A, ad, env, s.up e, p⟩
  | .forr w ws tg b, C, W, X, st, g, h => by
    rw [chkS.eq_def] at h
    dsimp only at h
    split at h <;> first | cases h | skip
    obtain ⟨h1, h⟩ := ba2 h
    obtain ⟨h2, h⟩ := ba2 h
    obtain ⟨h3, h⟩ := ba2 h
    obtain ⟨h4, h5⟩ := ba2 h
    split at h4 <;> first | cases h4 | skip
    rename_i as hq
    have ss := snds ws g.gd h4
    refine ps_imp (ps_for g.po (g.gd.calm h1) (snd_it g.gd hq ss.ok ss.pa (fun a q => let ⟨m, e, s⟩ := ss.one a q; ⟨m, e, s.pe⟩)) (pg_chk g.gd (fun x _ => g.fnT x) h3) (sndSs b g h5) (fold_of h2)) fun D σ H ⟨O, H0, B, A, ad, env, s, hp⟩ => ?_
    rw [exS] at hp
    by_cases hr : isRng w = true
    · have hv : valI F env w ws = evI F w ws (fullE env) := by cases w <;> first | rfl | cases hr
      rw [hv] at hp
      refine ⟨O, fullE env, s.full, (post_toS (rep := repI X.K O w) s hp).imp fun J H' _ ⟨e, items, wd, p⟩ => ?_⟩
      unfold repI at wd
      rw [if_pos hr] at wd
      exact for_run (s.up e) wd.toD p
    · have hv : valI F env w ws = evI F w ws (cleanE env) := by cases w <;> first | rfl | exact absurd rfl hr
      rw [hv] at hp
      exact ⟨O ++ A, cleanE env, s.clean, (post_toS (rep := repI X.K (O ++ A) w) s hp).imp fun J H' _ ⟨e, items, wd, p⟩ => for_run (s.up e) (repI_toD wd) p⟩
  | .whil c b, C, W, X, st, g, h => by
    rw [chkS.eq_def] at h
    dsimp only at h
    split at h <;> first | cases h | skip
    obtain ⟨h1, h⟩ := ba2 h
    obtain ⟨h2, h3⟩ := ba2 h
    refine ps_imp (ps_while g.po ((snd c g.gd h1).pt h2) (sndSs b g h3)) fun D σ H ⟨O, H0, B, A, ad, env, s, hp⟩ => ?_
    rw [exS] at hp
    exact while_run s hp
  | .raise c, C, W, X, st, g, h => by
    rw [chkS.eq_def] at h
    dsimp only at h
    split at h <;> first | cases h | skip
    obtain ⟨h1, h⟩ := ba2 h
    obtain ⟨h2, h⟩ := ba2 h
    obtain ⟨h3, h⟩ := ba2 h
    obtain ⟨h4, h5⟩ := ba2 h
    have k := g.exk c (of_decide_eq_true h3)
    have hx := of_decide_eq_true h2
    refine ps_imp (ps_raise (g.gd.calm h1) g.gd.tk (pmk_own PySem.F.excBase_ValueError k.q (g.exm c _ hx) k.k (raises_own k.b k.t) (gl_of g.gd h4) (notDbg_ok h5))) fun D σ H ⟨O, H0, B, A, ad, env, s, hp⟩ => ?_
    rw [exS] at hp
    have hc : G.has c = true := by
      rw [g.exn, hx]
      rfl
    exact hp A ad σ H _ _ s ⟨hc, rfl, .inl ⟨rfl, rfl⟩⟩
  | .tryx c b hh, C, W, X, st, g, h => by
    rw [chkS.eq_def] at h
    dsimp only at h
    split at h <;> first | cases h | skip
    obtain ⟨h1, h⟩ := ba2 h
    obtain ⟨h2, h⟩ := ba2 h
    obtain ⟨h3, h⟩ := ba2 h
    obtain ⟨h4, h5⟩ := ba2 h
    have hx := of_decide_eq_true h1
    have hc : G.has c = true := by
      rw [g.exn, hx]
      rfl
    refine ps_imp (ps_try_only (tb := fun W' => rdSs X.K F G N W' b) (ts := fun _ _ _ => rdSs X.K F G N (fun _ _ _ _ => False) hh) g.st g.frm ⟨gl_of g.gd h2, notDbg_ok h3, .inl (g.exm c _ hx)⟩ g.gd.tk
      (fun W' pn xe tk po => sndSs b (g.try_ tk po) h4) (fun a oe cls d pn _ _ => sndSs hh g.suite_ h5)) fun D σ H ⟨O, H0, B, A, ad, env, s, hp⟩ => ?_
    rw [exS] at hp
    refine ⟨O, H0, B, A, ad, env, s, ?_⟩
    cases q : exSs F N b env with
    | stuck => rw [q] at hp; exact hp
    | nx e => rw [q] at hp; exact hp
    | rt d => rw [q] at hp; exact hp
    | bk e => rw [q] at hp; exact hp
    | ct e => rw [q] at hp; exact hp
    | ex c' p e =>
      rw [q] at hp
      have hp : PostS X.K G O H0 B D W (if subX c' c = true then noEx (exSs F N hh e) else .ex c' p e) := hp
      intro A' ad' σ' H' cls dd s' x'
      obtain ⟨hc', hcl, hp'⟩ := id x'
      refine ⟨subX c' c, by rw [hcl]; exact g.exs c' c hc' hc, fun hs a ha => ?_, fun hs => ?_⟩
      · rw [if_pos hs] at hp
        refine ⟨O, H0, B, A', ad', e, s', ?_⟩
        cases q2 : exSs F N hh e with
        | stuck => rw [q2] at hp; exact hp
        | nx e3 => rw [q2] at hp; exact hp
        | rt d3 => rw [q2] at hp; exact hp
        | bk e3 => rw [q2] at hp; exact hp
        | ct e3 => rw [q2] at hp; exact hp
        | ex c3 p3 e3 => rw [q2] at hp; exact hp.elim
      · rw [if_neg (by rw [hs]; exact Bool.false_ne_true)] at hp
        exact hp A' ad' σ' H' cls dd s' x'
  | .brk, C, W, X, st, g, h => by
    rw [chkS.eq_def] at h
    dsimp only at h
    split at h <;> first | cases h | skip
    refine ps_imp ps_break fun D σ H ⟨O, H0, B, A, ad, env, s, hp⟩ => ?_
    rw [exS] at hp
    exact hp A ad σ H s
  | .cont, C, W, X, st, g, h => by
    rw [chkS.eq_def] at h
    dsimp only at h
    split at h <;> first | cases h | skip
    refine ps_imp ps_continue fun D σ H ⟨O, H0, B, A, ad, env, s, hp⟩ => ?_
    rw [exS] at hp
    exact hp A ad σ H s
theorem sndSs : ∀ (m : Ss) {C : CtS} {W : WX} {X : Cx} {st : List Stmt}, GdS C F G W X → chkSs C m st = true → PSs X st (rdSs X.K F G N W m)
  | .nil, C, W, X, st, g, h => by
    rw [chkSs.eq_def] at h
    dsimp only at h
    have e0 : st = [] := by
      cases st with
      | nil => rfl
      | cons _ _ => cases h
    subst e0
    refine pss_imp pss_nil fun D σ H ⟨O, H0, B, A, ad, env, s, hp⟩ => ?_
    rw [exSs] at hp
    exact hp A ad σ H s
  | .cons m ms, C, W, X, st, g, h => by
    rw [chkSs.eq_def] at h
    dsimp only at h
    split at h <;> first | cases h | skip
    obtain ⟨h1, h2⟩ := ba2 h
    refine pss_imp (pss_cons (sndS m g h1) (sndSs ms g h2)) fun D σ H ⟨O, H0, B, A, ad, env, s, hp⟩ => ?_
    rw [exSs] at hp
    refine ⟨O, H0, B, A, ad, env, s, ?_⟩
    cases q : exS F N m env with
    | stuck => rw [q] at hp; exact hp
    | nx e => rw [q] at hp; exact fun A' ad' σ' H' s' => ⟨O, H0, B, A', ad', e, s', hp⟩
    | rt d => rw [q] at hp; exact hp
    | bk e => rw [q] at hp; exact hp
    | ct e => rw [q] at hp; exact hp
    | ex c p e => rw [q] at hp; exact hp
  | .frz i ms, C, W, X, st, g, h => by
    rw [chkSs.eq_def] at h
    dsimp only at h
    refine pss_imp (sndSs ms g h) fun D σ H ⟨O, H0, B, A, ad, env, s, hp⟩ => ?_
    rw [exSs] at hp
    obtain ⟨A', s'⟩ := s.freeze i
    exact ⟨O, H0, B, A', ad, _, s', hp⟩
end
end
end Bs

namespace Bs
open PySem PySem.Spec L2
open PyProof.Rows hiding St
def sel (l : List (List D → R D)) (i : Nat) : List D → R D := l.getD i fun _ => .stuck
/-- turns enough for any while here -/
@[irreducible] def fuel : Nat := 2 ^ 4000000
theorem lt_fuel {n : Nat} (h : n < 2 ^ 4000000) : n < fuel := by
  unfold fuel
  exact h
end Bs

namespace Bs
open PySem PySem.Spec L2
open PyProof.Rows hiding St

/-! ### a def -/
/-- what stands of a callee behind the top, by name: n written arguments -/
def CallD (P : Program) (w : World) (K : PySem.W.Frag) (mg : Str → Option Value) (base : Heap) (G : Gs) (k : Nat) (f : List D → R D) (x : Str) (n : Nat) : Prop := ∃ (fa : Addr) (fd : FuncData) (ps : List Str) (ds : List Value) (dvs : List V) (sp : Sp),
  FnOk P w K mg base (L2.CX P w) k fa fd ps sp ∧ mg x = some (.ref fa) ∧ PySem.W.keepIn K (.ref fa) = true ∧ Binds K fd ps ds ∧ Vals dvs ds ∧ ∀ vs H Q E, spD K G n f vs H Q E → sp (vs ++ dvs) H Q E
theorem CallD.mono {P : Program} {w : World} {K : PySem.W.Frag} {mg : Str → Option Value} {base : Heap} {G : Gs} {j k : Nat} {f : List D → R D} {x : Str} {n : Nat} (h : CallD P w K mg base G j f x n) (l : j ≤ k) : CallD P w K mg base G k f x n := by
  obtain ⟨fa, fd, ps, ds, dvs, sp, h1, h2⟩ := h
  exact ⟨fa, fd, ps, ds, dvs, sp, h1.mono l, h2⟩
def CallKD (P : Program) (w : World) (K : PySem.W.Frag) (mg : Str → Option Value) (base : Heap) (G : Gs) (k : Nat) (f : List D → R D) (x : Str) (n : Nat) (kn : Str) : Prop := ∃ (fa : Addr) (fd : FuncData) (ps : List Str) (g : List Value → List Value → List Value) (sp : Sp),
  FnOk P w K mg base (L2.CX P w) k fa fd ps sp ∧ mg x = some (.ref fa) ∧ PySem.W.keepIn K (.ref fa) = true ∧ KBn K fd ps n [kn] g (fun vs zs => vs ++ zs) ∧ ∀ vs H Q E, spD K G (n + 1) f vs H Q E → sp vs H Q E
theorem CallKD.mono {P : Program} {w : World} {K : PySem.W.Frag} {mg : Str → Option Value} {base : Heap} {G : Gs} {j k : Nat} {f : List D → R D} {x : Str} {n : Nat} {kn : Str} (h : CallKD P w K mg base G j f x n kn) (l : j ≤ k) : CallKD P w K mg base G k f x n kn := by
  obtain ⟨fa, fd, ps, g, sp, h1, h2⟩ := h
  exact ⟨fa, fd, ps, g, sp, h1.mono l, h2⟩
/-- what the top leaves besides defs -/
structure Tp (K : PySem.W.Frag) (mg : Str → Option Value) (G : Gs) (exs : List (Nat × Str)) (exr : List Nat) (bls : List Str) (gis : List (Str × Int)) : Prop where
  bls : ∀ x ∈ bls, mg x = none
  gis : ∀ x n, (x, n) ∈ gis → ∃ t, mg x = some (.int n t)
  exn : ∀ c, G.has c = (exs.lookup c).isSome
  exm : ∀ c x, exs.lookup c = some x → mg x = some (.ref (G.ex c))
  exk : ∀ c ∈ exr, ExcF K (G.ex c)
  exs : ∀ c k, G.has c = true → G.has k = true → PySem.W.exmOne K (.ref (G.ex c)) (.ref (G.ex k)) = some (subX c k)
theorem start_sr {K : PySem.W.Frag} {O : List Addr} {H : Hp} {N : List Str} {vs : List V} {ds : List D} (al : Alloc O H) (r : DqAll K (cut H O) vs ds) :
    SR K O H (fun _ => none) [] (fun _ => 0) (L2.start N vs) H (startS N.length ds) := by
  have hl := dps_len r
  have out : ∀ {i : Nat} {x : Sl}, (startS N.length ds)[i]? = some x → (∃ d, ds[i]? = some d ∧ x = .fr d) ∨ x = .un := fun {i x} q => by
    unfold startS at q
    by_cases h : i < ds.length
    · rw [List.getElem?_append_left (by rw [List.length_map]; exact h), List.getElem?_map] at q
      rw [List.getElem?_eq_getElem h] at q
      exact .inl ⟨_, List.getElem?_eq_getElem h, (Option.some.inj q).symm⟩
    · rw [List.getElem?_append_right (by rw [List.length_map]; omega)] at q
      exact .inr (List.eq_of_mem_replicate (List.mem_of_getElem? q))
  refine ⟨Same.refl H, al, fun p hp => (nomatch hp), ?_, fun a o h => (nomatch h), fun i d q => ?_, fun i ds' q => ?_, fun i j ds' es q => ?_⟩
  · unfold L2.start startS
    simp [hl]
  · rcases out q with ⟨d', h1, h2⟩ | h
    · cases h2
      obtain ⟨v, h3, h4⟩ := dps_get r h1
      refine ⟨v, ?_, by rw [List.append_nil]; exact h4⟩
      unfold L2.start
      have hi : i < vs.length := (List.getElem?_eq_some_iff.mp h3).1
      rw [List.getElem?_append_left (by rw [List.length_map]; exact hi), List.getElem?_map, h3]
      rfl
    · cases h
  · rcases out q with ⟨d', h1, h2⟩ | h
    · cases h2
    · cases h
  · rcases out q with ⟨d', h1, h2⟩ | h
    · cases h2
    · cases h
section
variable {P : Program} {w : World} {K : PySem.W.Frag} {mg : Str → Option Value} {base : Heap} {G : Gs} {x qual : Str} {params : Arguments} {body : List Stmt} {scope : Scope} {dvs : List V} {kws : List (Str × V)} {f : Addr} {fd : FuncData}
/-- a def does what its translation does -/
theorem fn_sound {C : CtS} {Fs : List (List D → R D)} {N k : Nat} {ps : List Str} {m : Ss} (Fd : FunD K x qual params body scope dvs kws f fd) (S : FnScope C.N ps scope) (hsc : C.sc = scope) (T : Tp K mg G C.exs C.exr C.bls C.gis)
    (fns : ∀ i y n, C.fns[i]? = some (y, n) → CallD P w K mg base G k (sel Fs i) y n) (h : chkSs C m body = true) (kf : ∀ i y n kn, (i, y, n, kn) ∈ C.kfns → CallKD P w K mg base G k (sel Fs i) y n kn := by intro _ _ _ _ h; exact nomatch h) :
    FnOk P w K mg base (L2.CX P w) (k + 1) f fd ps (spD K G ps.length (den (sel Fs) N C.N.length m)) := by
  refine Fd.ok S (fun vs H Q E ⟨O, ds, al, hl, _⟩ => hl) fun cdv A outer s H vs Q E hr hsp => ?_
  obtain ⟨O, ds, al, hl, r, hp⟩ := hsp
  have gd : Gd C.toCt (sel Fs) G (fun cls d _ H => E cls d H) (cxOf (L2.CX P w) P w K mg base C.N qual scope f cdv A outer s H E) :=
    { N := rfl, nd := S.nd, sc := hsc.symm, calm := fun _ => rfl, hu := by have := hr.un; show (A.deeper _).units + 65 < cLine; omega,
      tk := takes_of rfl rfl rfl rfl,
      fns := fun i y n q => by
        obtain ⟨fa, fd, ps, ds, dvs, sp, h1, h2, h3, h4, h5, h6⟩ := fns i y n q
        exact ⟨k, fa, fd, ps, ds, dvs, sp, h1, hr, h2, h3, h4, h5, h6⟩
      bls := T.bls, gis := T.gis,
      kfns := fun i y n kn q => by
        obtain ⟨fa, fd, ps, gg, sp, h1, h2, h3, h4, h5⟩ := kf i y n kn q
        exact ⟨k, fa, fd, ps, gg, sp, h1, hr, h2, h3, h4, h5⟩ }
  have g : GdS C (sel Fs) G (fun cls d _ H => E cls d H) (cxOf (L2.CX P w) P w K mg base C.N qual scope f cdv A outer s H E) :=
    { gd := gd, st := rfl, frm := rfl, po := passes_of rfl, fnT := fun _ => rfl, exn := T.exn, exm := T.exm, exk := T.exk, exs := T.exs }
  refine ⟨_, sndSs (N := N) m g h, ?_⟩
  refine ⟨O, H, fun _ => none, [], fun _ => 0, startS C.N.length ds, start_sr al r, ?_⟩
  unfold den at hp
  cases q : exSs (sel Fs) N m (startS C.N.length ds) with
  | stuck => rw [q] at hp; exact hp
  | nx e => rw [q] at hp; exact fun A' ad' σ' H' s' => hp .non H' s'.e0 .non
  | rt d => rw [q] at hp; exact fun v H' e r => hp v H' e r
  | bk e => rw [q] at hp; exact hp.elim
  | ct e => rw [q] at hp; exact hp.elim
  | ex c p e => rw [q] at hp; exact fun A' ad' σ' H' cls dd s' xr => hp cls dd H' s'.e0 xr
end
end Bs

namespace Bs
open PySem PySem.Spec L2
open PyProof.Rows hiding St

/-! ### the top's facts, by names -/
def nmOf (exs : List (Nat × Str)) (c : Nat) : Str := (exs.lookup c).getD ""
def GsOf (K : PySem.W.Frag) (exs : List (Nat × Str)) : Gs where
  has c := (exs.lookup c).isSome
  ex c := He.ga K (nmOf exs c)
  fld c := if c = 9 then "board" else "row"
def stdFa (exs : List (Nat × Str)) (exr : List Nat) (bls : List Str) (gis : List (Str × Int)) (names : List Str) : List He.Fa :=
  bls.map .free ++ (names.map .glo ++ (gis.map (fun p => .int p.1 p.2) ++ (exs.map (fun p => .glo p.2) ++ (exr.map (fun c => .exc (nmOf exs c)) ++ exs.flatMap fun p => exs.map fun q => .exm p.2 q.2 (subX p.1 q.1)))))
theorem says_mem {K : PySem.W.Frag} {fa : List He.Fa} {fn : List He.DefD} (c : He.SaysD fa fn K) {f : He.Fa} (h : f ∈ fa) : f.ok K = true := by
  obtain ⟨i, hi⟩ := List.getElem?_of_mem h
  exact c.fact i hi
theorem lookup_mem {α : Type} {c : Nat} {x : α} : ∀ {l : List (Nat × α)}, l.lookup c = some x → (c, x) ∈ l
  | [], h => by cases h
  | (k, y) :: l, h => by
    rw [List.lookup_cons] at h
    by_cases e : c = k
    · subst e
      simp at h
      subst h
      exact List.mem_cons_self
    · have q : (c == k) = false := by simpa using e
      rw [q] at h
      exact List.mem_cons_of_mem _ (lookup_mem h)
theorem tp_of {K : PySem.W.Frag} {h : Heap} {mg : Str → Option Value} {exs : List (Nat × Str)} {exr : List Nat} {bls : List Str} {gis : List (Str × Int)} {names : List Str} {fn : List He.DefD}
    (c : He.SaysD (stdFa exs exr bls gis names) fn K) (X : K.In h) (Gn : h.Ns mainGlobals mg) : Tp K mg (GsOf K exs) exs exr bls gis ∧ ∀ x ∈ names, mg x = some (.ref (He.ga K x)) := by
  refine ⟨⟨fun x hx => ?_, fun x n hx => ?_, fun _ => rfl, fun k x hx => ?_, fun k hk => ?_, fun a b ha hb => ?_⟩, fun x hx => ?_⟩
  · exact He.free_ok X Gn (says_mem c (List.mem_append_left _ (List.mem_map.mpr ⟨x, hx, rfl⟩)))
  · exact He.int_ok X Gn (says_mem c (List.mem_append_right _ (List.mem_append_right _ (List.mem_append_left _ (List.mem_map.mpr ⟨(x, n), hx, rfl⟩)))))
  · have e : (GsOf K exs).ex k = He.ga K x := by
      show He.ga K (nmOf exs k) = _
      unfold nmOf
      rw [hx]
      rfl
    rw [e]
    exact He.glo_ok X Gn (says_mem c (List.mem_append_right _ (List.mem_append_right _ (List.mem_append_right _ (List.mem_append_left _ (List.mem_map.mpr ⟨(k, x), lookup_mem hx, rfl⟩))))))
  · obtain ⟨h1, h2, h3, h4⟩ := He.exc_ok (says_mem c (f := .exc (nmOf exs k)) (List.mem_append_right _ (List.mem_append_right _ (List.mem_append_right _ (List.mem_append_right _ (List.mem_append_left _ (List.mem_map.mpr ⟨k, hk, rfl⟩)))))))
    exact ⟨h1, h2, h3, h4⟩
  · have some_of : ∀ {k : Nat}, (GsOf K exs).has k = true → ∃ x, exs.lookup k = some x ∧ (GsOf K exs).ex k = He.ga K x := fun {k} hk => by
      obtain ⟨x, hx⟩ := Option.isSome_iff_exists.mp (show (exs.lookup k).isSome = true from hk)
      refine ⟨x, hx, ?_⟩
      show He.ga K (nmOf exs k) = _
      unfold nmOf
      rw [hx]
      rfl
    obtain ⟨x, hx, ex⟩ := some_of ha
    obtain ⟨y, hy, ey⟩ := some_of hb
    rw [ex, ey]
    exact He.exm_ok (says_mem c (List.mem_append_right _ (List.mem_append_right _ (List.mem_append_right _ (List.mem_append_right _ (List.mem_append_right _ (List.mem_flatMap.mpr ⟨(a, x), lookup_mem hx, List.mem_map.mpr ⟨(b, y), lookup_mem hy, rfl⟩⟩)))))))
  · exact He.glo_ok X Gn (says_mem c (List.mem_append_right _ (List.mem_append_left _ (List.mem_map.mpr ⟨x, hx, rfl⟩))))

/-! ### callees, one behind another -/
section
variable {P : Program} {w : World} {K : PySem.W.Frag} {mg : Str → Option Value} {base : Heap} {G : Gs} {k : Nat}
def Calls (P : Program) (w : World) (K : PySem.W.Frag) (mg : Str → Option Value) (base : Heap) (G : Gs) (k : Nat) (l : List (Str × Nat)) (Fs : List (List D → R D)) : Prop := ∀ i y n, l[i]? = some (y, n) → CallD P w K mg base G k (sel Fs i) y n
theorem calls_nil : Calls P w K mg base G k [] [] := fun i y n h => by simp at h
theorem calls_cons {l : List (Str × Nat)} {Fs : List (List D → R D)} {f : List D → R D} {x : Str} {n j : Nat} (h : CallD P w K mg base G j f x n) (lt : j ≤ k) (t : Calls P w K mg base G k l Fs) : Calls P w K mg base G k ((x, n) :: l) (f :: Fs) := fun i y m e => by
  cases i with
  | zero =>
    simp at e
    obtain ⟨rfl, rfl⟩ := e
    exact h.mono lt
  | succ i => exact t i y m (by simpa using e)
/-- called with all its arguments -/
theorem CallD.full {f : List D → R D} {x : Str} {n : Nat} {fa : Addr} {fd : FuncData} {ps : List Str} (F : FnOk P w K mg base (L2.CX P w) k fa fd ps (spD K G n f)) (g : mg x = some (.ref fa)) (kp : PySem.W.keepIn K (.ref fa) = true) (b : Binds K fd ps []) : CallD P w K mg base G k f x n :=
  ⟨fa, fd, ps, [], [], _, F, g, kp, b, .nil, fun vs H Q E h => by rw [List.append_nil]; exact h⟩
theorem CallD.full' {f : List D → R D} {x : Str} {n : Nat} {fa : Addr} {fd : FuncData} {ps : List Str} (F : FnOk P w K mg base (L2.CX P w) k fa fd ps (spD K G n f)) (g : mg x = some (.ref fa)) (kp : PySem.W.keepIn K (.ref fa) = true) (b : ∃ ds, Vals ([] : List V) ds ∧ Binds K fd ps ds) : CallD P w K mg base G k f x n := by
  obtain ⟨ds, hv, b⟩ := b
  cases hv
  exact CallD.full F g kp b
/-- called with all but the last, the last one by its name -/
theorem CallKD.one {f : List D → R D} {x : Str} {n : Nat} {kn : Str} {fa : Addr} {fd : FuncData} {ps : List Str} (F : FnOk P w K mg base (L2.CX P w) k fa fd ps (spD K G (n + 1) f)) (g : mg x = some (.ref fa)) (kp : PySem.W.keepIn K (.ref fa) = true) (b : ∃ gg, KBn K fd ps n [kn] gg (fun vs zs => vs ++ zs)) : CallKD P w K mg base G k f x n kn := by
  obtain ⟨gg, b⟩ := b
  exact ⟨fa, fd, ps, gg, _, F, g, kp, b, fun vs H Q E h => h⟩
theorem kcalls_one {j i n : Nat} {x kn : Str} {f : List D → R D} {Fs : List (List D → R D)} (h : CallKD P w K mg base G j f x n kn) (lt : j ≤ k) (e : sel Fs i = f) : ∀ i' y m kn', (i', y, m, kn') ∈ [(i, x, n, kn)] → CallKD P w K mg base G k (sel Fs i') y m kn' := fun i' y m kn' q => by
  simp only [List.mem_singleton, Prod.mk.injEq] at q
  obtain ⟨rfl, rfl, rfl, rfl⟩ := q
  rw [e]
  exact h.mono lt
/-- called with m of them, the others are its defaults, ints -/
theorem CallD.dfl {f : List D → R D} {x : Str} {n m : Nat} {fa : Addr} {fd : FuncData} {ps : List Str} {es : List Int} (F : FnOk P w K mg base (L2.CX P w) k fa fd ps (spD K G n f)) (g : mg x = some (.ref fa)) (kp : PySem.W.keepIn K (.ref fa) = true) (b : ∃ ds, Vals (es.map V.int) ds ∧ Binds K fd ps ds)
    (hn : m + es.length = n) : CallD P w K mg base G k (fun ds => f (ds ++ es.map PyData.int)) x m := by
  obtain ⟨ds, hv, b⟩ := b
  refine ⟨fa, fd, ps, ds, es.map V.int, _, F, g, kp, b, hv, fun vs H Q E ⟨O, as, al, hl, r, hp⟩ => ⟨O, _, al, ?_, dps_app r (dps_ints es), hp⟩⟩
  rw [List.length_append, List.length_map, hl, hn]
end

/-! ### a law -/
theorem law_walk {l : PySem.W.OpenLaw} {n k : Nat} {q : Program} {loose : List Str} {XP : (Str → Option Value) → Heap → Prop} {YP : World → Heap → Prop} {d : DefRec} {x : Str} {f : List D → R D} (hn : l.most = some n) (hn2 : n ≤ sizeLine) (hdf : d.params.defaults = []) (hr : Room k callerA)
    (F : ∀ (w : World) (mg : Str → Option Value) (fa : Addr) (h : Heap), YP w h → h.Ns mainGlobals mg → mg d.name = some (.ref fa) →
      ∃ (K : PySem.W.Frag) (G : Gs) (fd : FuncData), K.In h ∧ (∀ (s : Shared) (u : Value), BindsTo s fd ⟨[u], []⟩ [(x, u)]) ∧
        (∀ base : Heap, K.In base → base.Ns mainGlobals mg → FnOk l.prog w K mg base (L2.CX l.prog w) k fa fd [x] (spD K G 1 f)))
    (hf : ∀ ns : List Int, ns.length ≤ n → f [.list (ns.map PyData.int)] = .ok (.bool true)) : PySem.W.WalkO q loose XP YP l.row.toRowW d [] (fun f vs => PySem.call f vs) := by
  refine Att.attach_call hn hdf fun w s₀ s₁ mg mb fa o pm cd doc a vs ns Gd Y ho hd hcd hmg hobj hints hlen hg => ?_
  obtain ⟨K, G, fd, KX, hb, hF⟩ := F w mg fa _ Y Gd.T.g hmg
  refine law_call KX Gd.T.g Gd.T.b Gd.T.builtins Gd.T.nolimit hg hobj hints (Nat.le_trans hlen hn2) hr hF hb (fun H hO hS => ?_) fun H e s' hc => ?_
  · refine ⟨[], [.list (ns.map PyData.int)], fun p hp => (nomatch hp), rfl, .cons (.lst ?_ (dps_ints ns)) .nil, ?_⟩
    · exact sqL_mono (fun a o h => cut_of h (by simp)) hS
    · rw [hf ns hlen]
      exact fun v H' _ r => inv_b r
  · obtain ⟨_, _, _, _, _, _, _, _, _, _, _, _, z⟩ := hc
    exact z.elim
end Bs

namespace Bs
open PySem PySem.Spec L2
open PyProof.Rows hiding St

/-! ### sizes of numbers -/
def bd (n : Nat) (i : Int) : Prop := i.natAbs < 2 ^ n
instance : Decidable (bd n i) := inferInstanceAs (Decidable (i.natAbs < 2 ^ n))
theorem bd.mono {m n : Nat} {i : Int} (h : bd m i) (l : m ≤ n) : bd n i := Nat.lt_of_lt_of_le h (Nat.pow_le_pow_right (by decide) l)
theorem bd_log {n : Nat} {i : Int} (h : bd n i) : i.natAbs.log2 < n + 1 := by
  unfold bd at h
  by_cases z : i.natAbs = 0
  · rw [z]
    exact Nat.lt_of_le_of_lt (by decide : Nat.log2 0 ≤ 0) (Nat.succ_pos n)
  · exact Nat.lt_succ_of_lt ((Nat.log2_lt z).mpr h)
theorem bd_lit {n : Nat} {i : Int} (h : decide (i.natAbs < 2 ^ n) = true) : bd n i := of_decide_eq_true h
theorem bd_zero : bd 0 0 := by unfold bd; decide
theorem bd_add {m n : Nat} {i j : Int} (hi : bd m i) (hj : bd n j) : bd (max m n + 1) (i + j) := by
  have h1 := bd.mono hi (Nat.le_max_left m n)
  have h2 := bd.mono hj (Nat.le_max_right m n)
  unfold bd at *
  rw [Nat.pow_succ]
  omega
theorem bd_neg {m : Nat} {i : Int} (hi : bd m i) : bd m (-i) := by
  unfold bd at *
  omega
theorem bd_sub {m n : Nat} {i j : Int} (hi : bd m i) (hj : bd n j) : bd (max m n + 1) (i - j) := by
  rw [Int.sub_eq_add_neg]
  exact bd_add hi (bd_neg hj)
theorem bd_mul {m n : Nat} {i j : Int} (hi : bd m i) (hj : bd n j) : bd (m + n) (i * j) := by
  unfold bd at *
  rw [Int.natAbs_mul, Nat.pow_add]
  exact Nat.mul_lt_mul'' hi hj
theorem natAbs_fdiv_le (i j : Int) : (i.fdiv j).natAbs ≤ i.natAbs := by
  rcases Int.le_total 0 j with h | h
  · rw [Int.fdiv_eq_ediv_of_nonneg _ h]
    exact Int.natAbs_ediv_le_natAbs i j
  · rw [← Int.neg_fdiv_neg, Int.fdiv_eq_ediv_of_nonneg _ (by omega), ← Int.natAbs_neg i]
    exact Int.natAbs_ediv_le_natAbs _ _
theorem bd_fdiv {m : Nat} {i j : Int} (hi : bd m i) : bd m (i.fdiv j) := Nat.lt_of_le_of_lt (natAbs_fdiv_le i j) hi
theorem natAbs_fmod_lt {i j : Int} (hj : j ≠ 0) : (i.fmod j).natAbs < j.natAbs := by
  rcases Int.lt_or_gt_of_ne hj with h | h
  · have e : i.fmod j = -((-i).fmod (-j)) := by rw [Int.neg_fmod_neg, Int.neg_neg]
    have h1 : 0 ≤ (-i).fmod (-j) := Int.fmod_nonneg_of_pos _ (by omega)
    have h2 : (-i).fmod (-j) < -j := Int.fmod_lt_of_pos _ (by omega)
    omega
  · have h1 : 0 ≤ i.fmod j := Int.fmod_nonneg_of_pos i h
    have h2 : i.fmod j < j := Int.fmod_lt_of_pos i h
    omega
theorem bd_fmod {n : Nat} {i j : Int} (h0 : j ≠ 0) (hj : bd n j) : bd n (i.fmod j) := Nat.lt_trans (natAbs_fmod_lt h0) hj
end Bs

namespace Bs
open PySem PySem.Spec L2
open PyProof.Rows hiding St

/-! ### what is wanted of a run -/
structure Pst where
  nx : SE → Prop
  rt : D → Prop
  bk : SE → Prop
  ct : SE → Prop
  ex : Nat → Option Int → SE → Prop
def Rs.sat (Q : Pst) : Rs → Prop
  | .stuck => False
  | .nx e => Q.nx e
  | .rt d => Q.rt d
  | .bk e => Q.bk e
  | .ct e => Q.ct e
  | .ex c p e => Q.ex c p e
def RP {α : Type} (r : R α) (f : α → Prop) (g : Nat → Option Int → Prop) : Prop := match r with
  | .stuck => False
  | .ok a => f a
  | .exc c p => g c p
theorem RP_ok {α : Type} (a : α) (f : α → Prop) (g : Nat → Option Int → Prop) : RP (.ok a) f g = f a := rfl
theorem RP_exc {α : Type} (c : Nat) (p : Option Int) (f : α → Prop) (g : Nat → Option Int → Prop) : RP (.exc c p) f g = g c p := rfl
abbrev Fns := Nat → List D → R D
def WS (F : Fns) (s : S) (env : SE) (Q : Pst) : Prop := (exS F fuel s env).sat Q
def WB (F : Fns) (m : Ss) (env : SE) (Q : Pst) : Prop := (exSs F fuel m env).sat Q
def LP (F : Fns) (tg : Tg) (b : Ss) (items : List D) (env : SE) (Q : Pst) : Prop := (loopF (fun x e => tgRun tg x e fun e' => exSs F fuel b e') items env).sat Q
/-! continuations by names: simp does not enter them ahead of time -/
def Pst.then (Q : Pst) (F : Fns) (r : Ss) : Pst := { Q with nx := fun e => WB F r e Q }
def Pst.setk (Q : Pst) (env : SE) (i : Nat) : D → Prop := fun d => Q.nx (env.set i (.fr d))
def Pst.ownk (Q : Pst) (env : SE) (i : Nat) : List D → Prop := fun d => Q.nx (env.set i (.ow d))
def Pst.exk (Q : Pst) (env : SE) : Nat → Option Int → Prop := fun c p => Q.ex c p env
def Pst.ifk (Q : Pst) (F : Fns) (a b : Ss) (env : SE) : Bool → Prop := fun k => (k = true → WB F a env Q) ∧ (k = false → WB F b env Q)
def Pst.unpk (Q : Pst) (env : SE) (is : List Nat) : D → Prop := fun d => (unpS env is d).sat Q
def Pst.nxk (Q : Pst) (env : SE) : D → Prop := fun _ => Q.nx env
def Pst.lpk (Q : Pst) (F : Fns) (tg : Tg) (b : Ss) (env : SE) : List D → Prop := fun items => LP F tg b items env Q
def Pst.par2 (Q : Pst) (env : SE) (i j : Nat) (x : D) : D → Prop := fun y => Q.nx ((env.set i (.fr x)).set j (.fr y))
def Pst.par1 (Q : Pst) (F : Fns) (env : SE) (i j : Nat) (b : E) : D → Prop := fun x => RP (valS F env b) (Q.par2 env i j x) (Q.exk env)
def Pst.mid (Q : Pst) (P : SE → Prop) : Pst := { Q with nx := P }
def Pst.lp (Q : Pst) (P : SE → Prop) : Pst := { Q with nx := P, ct := P, bk := Q.nx }
theorem mid_nx {Q : Pst} {P : SE → Prop} {e : SE} : (Q.mid P).nx e = P e := rfl
theorem mid_rt {Q : Pst} {P : SE → Prop} {d : D} : (Q.mid P).rt d = Q.rt d := rfl
theorem mid_bk {Q : Pst} {P : SE → Prop} {e : SE} : (Q.mid P).bk e = Q.bk e := rfl
theorem mid_ct {Q : Pst} {P : SE → Prop} {e : SE} : (Q.mid P).ct e = Q.ct e := rfl
theorem mid_ex {Q : Pst} {P : SE → Prop} {c : Nat} {p : Option Int} {e : SE} : (Q.mid P).ex c p e = Q.ex c p e := rfl
theorem lp_nx {Q : Pst} {P : SE → Prop} {e : SE} : (Q.lp P).nx e = P e := rfl
theorem lp_rt {Q : Pst} {P : SE → Prop} {d : D} : (Q.lp P).rt d = Q.rt d := rfl
theorem lp_bk {Q : Pst} {P : SE → Prop} {e : SE} : (Q.lp P).bk e = Q.nx e := rfl
theorem lp_ct {Q : Pst} {P : SE → Prop} {e : SE} : (Q.lp P).ct e = P e := rfl
theorem lp_ex {Q : Pst} {P : SE → Prop} {c : Nat} {p : Option Int} {e : SE} : (Q.lp P).ex c p e = Q.ex c p e := rfl
theorem then_nx {Q : Pst} {F : Fns} {r : Ss} {e : SE} : (Q.then F r).nx e = WB F r e Q := rfl
theorem then_rt {Q : Pst} {F : Fns} {r : Ss} {d : D} : (Q.then F r).rt d = Q.rt d := rfl
theorem then_bk {Q : Pst} {F : Fns} {r : Ss} {e : SE} : (Q.then F r).bk e = Q.bk e := rfl
theorem then_ct {Q : Pst} {F : Fns} {r : Ss} {e : SE} : (Q.then F r).ct e = Q.ct e := rfl
theorem then_ex {Q : Pst} {F : Fns} {r : Ss} {c : Nat} {p : Option Int} {e : SE} : (Q.then F r).ex c p e = Q.ex c p e := rfl
theorem setk_app {Q : Pst} {env : SE} {i : Nat} {d : D} : Q.setk env i d = Q.nx (env.set i (.fr d)) := rfl
theorem ownk_app {Q : Pst} {env : SE} {i : Nat} {d : List D} : Q.ownk env i d = Q.nx (env.set i (.ow d)) := rfl
theorem exk_app {Q : Pst} {env : SE} {c : Nat} {p : Option Int} : Q.exk env c p = Q.ex c p env := rfl
theorem ifk_app {Q : Pst} {F : Fns} {a b : Ss} {env : SE} {k : Bool} : Q.ifk F a b env k = ((k = true → WB F a env Q) ∧ (k = false → WB F b env Q)) := rfl
theorem unpk_app {Q : Pst} {env : SE} {is : List Nat} {d : D} : Q.unpk env is d = (unpS env is d).sat Q := rfl
theorem nxk_app {Q : Pst} {env : SE} {d : D} : Q.nxk env d = Q.nx env := rfl
theorem lpk_app {Q : Pst} {F : Fns} {tg : Tg} {b : Ss} {env : SE} {items : List D} : Q.lpk F tg b env items = LP F tg b items env Q := rfl
theorem par2_app {Q : Pst} {env : SE} {i j : Nat} {x y : D} : Q.par2 env i j x y = Q.nx ((env.set i (.fr x)).set j (.fr y)) := rfl
theorem par1_app {Q : Pst} {F : Fns} {env : SE} {i j : Nat} {b : E} {x : D} : Q.par1 F env i j b x = RP (valS F env b) (Q.par2 env i j x) (Q.exk env) := rfl
section
variable {F : Fns} {env : SE} {Q : Pst}
theorem sat_toS {α : Type} (r : R α) (f : α → Rs) : (r.toS env f).sat Q = RP r (fun a => (f a).sat Q) (fun c p => Q.ex c p env) := by cases r <;> rfl
theorem WB_nil : WB F .nil env Q = Q.nx env := by unfold WB; rw [exSs]; rfl
theorem WB_cons {s : S} {r : Ss} : WB F (.cons s r) env Q = WS F s env (Q.then F r) := by
  unfold WB WS
  rw [exSs]
  cases exS F fuel s env <;> rfl
theorem WB_frz {i : Nat} {r : Ss} : WB F (.frz i r) env Q = WB F r (frzS env i) Q := by unfold WB; rw [exSs]
theorem WS_pass : WS F .pass env Q = Q.nx env := by unfold WS; rw [exS]; rfl
theorem WS_ret {e : E} : WS F (.ret e) env Q = RP (evE F e (fullE env)) Q.rt (Q.exk env) := by unfold WS; rw [exS, sat_toS]; rfl
theorem WS_retN : WS F .retN env Q = Q.rt .none := by unfold WS; rw [exS]; rfl
theorem WS_set {i : Nat} {e : E} : WS F (.set i e) env Q = RP (valS F env e) (Q.setk env i) (Q.exk env) := by unfold WS; rw [exS, sat_toS]; rfl
theorem WS_setN {i : Nat} {e : E} : WS F (.setN i e) env Q = RP (newS F env e) (Q.ownk env i) (Q.exk env) := by unfold WS; rw [exS, sat_toS]; rfl
theorem WS_unp {is : List Nat} {e : E} : WS F (.unp is e) env Q = RP (valS F env e) (Q.unpk env is) (Q.exk env) := by unfold WS; rw [exS, sat_toS]; rfl
theorem unp_sat {is : List Nat} {ds : List D} : (unpS env is (.tuple ds)).sat Q = if ds.length = is.length then Q.nx (setAllS env is ds) else False := by
  show (if ds.length = is.length then Rs.nx (setAllS env is ds) else .stuck).sat Q = _
  split <;> rfl
theorem WS_par {i j : Nat} {a b : E} : WS F (.par i j a b) env Q = RP (valS F env a) (Q.par1 F env i j b) (Q.exk env) := by
  unfold WS
  rw [exS, sat_toS]
  unfold Pst.par1
  congr 1
  funext x
  rw [sat_toS]
  rfl
theorem WS_app {i : Nat} {e : E} : WS F (.app i e) env Q = (appS env i (valS F env e)).sat Q := by unfold WS; rw [exS]
theorem WS_exs {e : E} : WS F (.exs e) env Q = RP (evE F e (fullE env)) (Q.nxk env) (Q.exk env) := by unfold WS; rw [exS, sat_toS]; rfl
theorem WS_iff {c : E} {a b : Ss} : WS F (.iff c a b) env Q = RP ((evE F c (fullE env)).bind ofB) (Q.ifk F a b env) (Q.exk env) := by
  unfold WS
  rw [exS, sat_toS]
  unfold Pst.ifk
  congr 1
  funext k
  cases k
  · simp [WB]
  · simp [WB]
theorem WS_for {w : Wk} {ws : Es} {tg : Tg} {b : Ss} : WS F (.forr w ws tg b) env Q = RP (valI F env w ws) (Q.lpk F tg b env) (Q.exk env) := by unfold WS; rw [exS, sat_toS]; rfl
theorem WS_raise {c : Nat} : WS F (.raise c) env Q = Q.ex c none env := by unfold WS; rw [exS]; rfl
theorem WS_brk : WS F .brk env Q = Q.bk env := by unfold WS; rw [exS]; rfl
theorem WS_cont : WS F .cont env Q = Q.ct env := by unfold WS; rw [exS]; rfl
theorem Rs.sat_imp {Q Q' : Pst} {r : Rs} (h : r.sat Q) (h1 : ∀ e, Q.nx e → Q'.nx e) (h2 : ∀ d, Q.rt d → Q'.rt d) (h3 : ∀ e, Q.bk e → Q'.bk e) (h4 : ∀ e, Q.ct e → Q'.ct e) (h5 : ∀ c p e, Q.ex c p e → Q'.ex c p e) : r.sat Q' := by
  cases r with
  | stuck => exact h
  | nx e => exact h1 e h
  | rt d => exact h2 d h
  | bk e => exact h3 e h
  | ct e => exact h4 e h
  | ex c p e => exact h5 c p e h
/-- an intermediate state -/
theorem WS_mid {s : S} {P : SE → Prop} (h : WS F s env (Q.mid P)) (k : ∀ e, P e → Q.nx e) : WS F s env Q := Rs.sat_imp h k (fun _ h => h) (fun _ h => h) (fun _ h => h) (fun _ _ _ h => h)
theorem WB_mid {s : Ss} {P : SE → Prop} (h : WB F s env (Q.mid P)) (k : ∀ e, P e → Q.nx e) : WB F s env Q := Rs.sat_imp h k (fun _ h => h) (fun _ h => h) (fun _ h => h) (fun _ _ _ h => h)
theorem LP_nil {tg : Tg} {b : Ss} : LP F tg b [] env Q = Q.nx env := rfl
/-- a loop by its invariant -/
theorem LP_inv {tg : Tg} {b : Ss} (P : Nat → SE → Prop) : ∀ {items : List D} {env : SE} (n : Nat), P n env →
    (∀ i x e, items[i]? = some x → P (n + i) e → ∃ e', tgS tg x e = some e' ∧ WB F b e' (Q.lp (P (n + i + 1)))) → (∀ e, P (n + items.length) e → Q.nx e) → LP F tg b items env Q
  | [], env, n, h0, _, fin => fin env h0
  | x :: xs, env, n, h0, step, fin => by
    obtain ⟨e', ht, hb⟩ := step 0 x env rfl h0
    unfold LP
    rw [loopF]
    unfold tgRun
    rw [ht]
    have rest : ∀ e, P (n + 1) e → (loopF (fun x e => tgRun tg x e fun e' => exSs F fuel b e') xs e).sat Q := fun e he =>
      LP_inv P (items := xs) (n + 1) he (fun i x' e2 hi hp => by
        have h2 := step (i + 1) x' e2 hi (by rw [show n + (i + 1) = n + 1 + i by omega]; exact hp)
        rw [show n + (i + 1) = n + 1 + i by omega] at h2
        exact h2) (fun e2 he2 => fin e2 (by rw [List.length_cons, show n + (xs.length + 1) = n + 1 + xs.length by omega]; exact he2))
    unfold WB at hb
    dsimp only
    cases q : exSs F fuel b e' with
    | stuck => rw [q] at hb; exact hb
    | nx e2 => rw [q] at hb; exact rest e2 hb
    | ct e2 => rw [q] at hb; exact rest e2 hb
    | bk e2 => rw [q] at hb; exact hb
    | rt d => rw [q] at hb; exact hb
    | ex c p e2 => rw [q] at hb; exact hb
theorem WS_whil {c : E} {b : Ss} (P : Nat → SE → Prop) (n : Nat) (h0 : P n env) (hn : n < fuel)
    (step : ∀ m e, P m e → RP ((evE F c (fullE e)).bind ofB) (fun k => (k = true → WB F b e (Q.lp fun e' => ∃ m', m' < m ∧ P m' e')) ∧ (k = false → Q.nx e)) (fun c p => Q.ex c p e)) : WS F (.whil c b) env Q := by
  have key : ∀ (g n : Nat) (env : SE), P n env → n < g → (whileF (fun e => (evE F c (fullE e)).bind ofB) (fun e => exSs F fuel b e) g env).sat Q := by
    intro g
    induction g with
    | zero => intro n env _ h; exact absurd h (Nat.not_lt_zero n)
    | succ g ih =>
      intro n env hp hl
      rw [whileF, sat_toS]
      have st := step n env hp
      cases q : (evE F c (fullE env)).bind ofB with
      | stuck => rw [q] at st; exact st
      | exc c p => rw [q] at st; exact st
      | ok k =>
        rw [q] at st
        obtain ⟨h1, h2⟩ := st
        rw [RP_ok]
        cases k with
        | false => exact h2 rfl
        | true =>
          rw [if_pos rfl]
          have hb := h1 rfl
          unfold WB at hb
          cases q2 : exSs F fuel b env with
          | stuck => rw [q2] at hb; exact hb
          | nx e2 => rw [q2] at hb; obtain ⟨m', hm, hp'⟩ := hb; exact ih m' e2 hp' (by omega)
          | ct e2 => rw [q2] at hb; obtain ⟨m', hm, hp'⟩ := hb; exact ih m' e2 hp' (by omega)
          | bk e2 => rw [q2] at hb; exact hb
          | rt d => rw [q2] at hb; exact hb
          | ex c p e2 => rw [q2] at hb; exact hb
  unfold WS
  rw [exS]
  exact key fuel n env h0 hn
/-- try: the suite h for the exceptions of the class c -/
theorem WS_tryx {c : Nat} {b h : Ss} (hb : WB F b env { Q with ex := fun k p e => (subX k c = true → WB F h e { Q with ex := fun _ _ _ => False }) ∧ (subX k c = false → Q.ex k p e) }) : WS F (.tryx c b h) env Q := by
  unfold WS
  rw [exS]
  unfold WB at hb
  cases q : exSs F fuel b env with
  | stuck => rw [q] at hb; exact hb
  | nx e2 => rw [q] at hb; exact hb
  | ct e2 => rw [q] at hb; exact hb
  | bk e2 => rw [q] at hb; exact hb
  | rt d => rw [q] at hb; exact hb
  | ex k p e2 =>
    rw [q] at hb
    obtain ⟨h1, h2⟩ := hb
    show (if subX k c = true then noEx (exSs F fuel h e2) else Rs.ex k p e2).sat Q
    by_cases hs : subX k c = true
    · rw [if_pos hs]
      have z := h1 hs
      cases q2 : exSs F fuel h e2 with
      | ex c' p' e' => unfold WB at z; rw [q2] at z; exact z.elim
      | _ => unfold WB at z; rw [q2] at z; exact z
    · rw [if_neg hs]
      exact h2 (by simpa using hs)
end
theorem den_of (P : R D → Prop) {F : Fns} {n : Nat} {m : Ss} {ds : List D} (h : WB F m (startS n ds) ⟨fun _ => P (.ok .none), fun d => P (.ok d), fun _ => False, fun _ => False, fun c p _ => P (.exc c p)⟩) : P (den F fuel n m ds) := by
  unfold WB at h
  unfold den
  cases q : exSs F fuel m (startS n ds) with
  | stuck => rw [q] at h; exact h.elim
  | nx e2 => rw [q] at h; exact h
  | ct e2 => rw [q] at h; exact h.elim
  | bk e2 => rw [q] at h; exact h.elim
  | rt d => rw [q] at h; exact h
  | ex k p e2 => rw [q] at h; exact h

/-! ### evaluation, rule by rule -/
theorem valS_def {F : Fns} {env : SE} {e : E} : valS F env e = (evE F e (fullE env)).bind fun d => if (lfree d || noOwn env) = true then .ok d else evE F e (cleanE env) := rfl
theorem valS_ok {F : Fns} {env : SE} {e : E} {d : D} (h : evE F e (fullE env) = .ok d) (l : (lfree d || noOwn env) = true) : valS F env e = .ok d := by
  rw [valS_def, h, R.bind_ok, if_pos l]
theorem valS_clean {F : Fns} {env : SE} {e : E} {d d' : D} (h : evE F e (fullE env) = .ok d') (l : evE F e (cleanE env) = .ok d) (e' : d' = d) : valS F env e = .ok d := by
  rw [valS_def, h, R.bind_ok]
  split
  · rw [e']
  · exact l
theorem newS_ok {F : Fns} {env : SE} {e : E} {ds : List D} (h : evE F e (fullE env) = .ok (.list ds)) (l : (lfrees ds || noOwn env) = true) : newS F env e = .ok ds := by
  unfold newS
  rw [h]
  show (if (lfrees ds || noOwn env) = true then R.ok ds else _) = _
  rw [if_pos l]
theorem appS_ok {env : SE} {i : Nat} {d : D} {ds : List D} (h : env[i]? = some (.ow ds)) (l : ds.length < 1000000) : appS env i (.ok d) = .nx (env.set i (.ow (ds ++ [d]))) := by
  unfold appS
  rw [h]
  show (if ds.length < 1000000 then _ else _) = _
  rw [if_pos l]
theorem getE_zero {d : D} {env : Env} : getE (some d :: env) 0 = .ok d := rfl
theorem getE_succ {o : Option D} {env : Env} {i : Nat} : getE (o :: env) (i + 1) = getE env i := rfl
theorem fullE_nil : fullE [] = [] := rfl
theorem fullE_cons {s : Sl} {env : SE} : fullE (s :: env) = s.full :: fullE env := rfl
theorem full_fr {d : D} : (Sl.fr d).full = some d := rfl
theorem full_ow {ds : List D} : (Sl.ow ds).full = some (.list ds) := rfl
theorem full_un : Sl.un.full = none := rfl
theorem clean_fr {d : D} : (Sl.fr d).clean = some d := rfl
theorem clean_ow {ds : List D} : (Sl.ow ds).clean = none := rfl
theorem clean_un : Sl.un.clean = none := rfl
theorem cleanE_nil : cleanE [] = [] := rfl
theorem cleanE_cons {s : Sl} {env : SE} : cleanE (s :: env) = s.clean :: cleanE env := rfl
theorem noOwn_nil : noOwn [] = true := rfl
theorem noOwn_fr {d : D} {env : SE} : noOwn (.fr d :: env) = noOwn env := rfl
theorem noOwn_un {env : SE} : noOwn (.un :: env) = noOwn env := rfl
theorem noOwn_ow {d : List D} {env : SE} : noOwn (.ow d :: env) = false := rfl
theorem set_zero {s t : Sl} {env : SE} : (s :: env).set 0 t = t :: env := rfl
theorem set_succ {s t : Sl} {env : SE} {i : Nat} : (s :: env).set (i + 1) t = s :: env.set i t := rfl
theorem setE_zero {s t : Option D} {env : Env} : (s :: env).set 0 t = t :: env := rfl
theorem setE_succ {s t : Option D} {env : Env} {i : Nat} : (s :: env).set (i + 1) t = s :: env.set i t := rfl
theorem frz_zero {d : List D} {env : SE} : frzS (.ow d :: env) 0 = .fr (.list d) :: env := rfl
theorem frz_zero_fr {d : D} {env : SE} : frzS (.fr d :: env) 0 = .fr d :: env := rfl
theorem frz_zero_un {env : SE} : frzS (.un :: env) 0 = .un :: env := rfl
theorem frz_succ {s : Sl} {env : SE} {i : Nat} : frzS (s :: env) (i + 1) = s :: frzS env i := by
  unfold frzS
  rw [List.getElem?_cons_succ]
  cases h : env[i]? with
  | none => rfl
  | some x => cases x <;> rfl
theorem sel_zero {f : List D → R D} {l : List (List D → R D)} : sel (f :: l) 0 = f := rfl
theorem sel_succ {f : List D → R D} {l : List (List D → R D)} {i : Nat} : sel (f :: l) (i + 1) = sel l i := rfl
theorem ofB_bool {b : Bool} : ofB (.bool b) = .ok b := rfl
theorem bop_add {i j : Int} : bop .add (.int i) (.int j) = .ok (.int (i + j)) := rfl
theorem bop_sub {i j : Int} : bop .sub (.int i) (.int j) = .ok (.int (i - j)) := rfl
theorem bop_mul {i j : Int} {m n : Nat} (hi : bd m i) (hj : bd n j) (h : m + n + 2 ≤ 1000000) : bop .mul (.int i) (.int j) = .ok (.int (i * j)) := by
  have h1 := bd_log hi
  have h2 := bd_log hj
  show (if i.natAbs.log2 + j.natAbs.log2 < 1000000 then _ else _) = _
  rw [if_pos (by omega)]
theorem bop_fdiv {i j : Int} {n : Nat} (h0 : j ≠ 0) (hj : bd n j) (h : n ≤ 8999) : bop .fdiv (.int i) (.int j) = .ok (.int (i.fdiv j)) := by
  have h2 := bd_log hj
  show (if j ≠ 0 ∧ j.natAbs.log2 < 9000 then _ else _) = _
  rw [if_pos ⟨h0, by omega⟩]
theorem bop_mod {i j : Int} (h0 : j ≠ 0) : bop .mod (.int i) (.int j) = .ok (.int (i.fmod j)) := by
  show (if j ≠ 0 then _ else _) = _
  rw [if_pos h0]
theorem bop_pow {i j : Int} (h0 : 0 ≤ j ∧ j ≤ 1000000 ∧ i.natAbs < 2 ^ 64) : bop .pow (.int i) (.int j) = .ok (.int (i ^ j.toNat)) := by
  show (if 0 ≤ j ∧ j ≤ 1000000 ∧ i.natAbs < 2 ^ 64 then _ else _) = _
  rw [if_pos h0]
theorem bop_addL {a b : List D} (h : a.length + b.length ≤ 1000000) : bop .add (.list a) (.list b) = .ok (.list (a ++ b)) := by
  have : (1000000 : Nat) ≤ sizeLine := by decide
  show (if a.length + b.length ≤ sizeLine then _ else _) = _
  rw [if_pos (by omega)]
theorem cop_lt {i j : Int} : cop .lt (.int i) (.int j) = .ok (.bool (decide (i < j))) := rfl
theorem cop_le {i j : Int} : cop .le (.int i) (.int j) = .ok (.bool (decide (i ≤ j))) := rfl
theorem cop_gt {i j : Int} : cop .gt (.int i) (.int j) = .ok (.bool (decide (j < i))) := rfl
theorem cop_ge {i j : Int} : cop .ge (.int i) (.int j) = .ok (.bool (decide (j ≤ i))) := rfl
end Bs

namespace Bs
open PySem PySem.Spec L2
open PyProof.Rows hiding St

/-! ### conditions that a discharger meets -/
def MulOk (i j : Int) : Prop := i.natAbs.log2 + j.natAbs.log2 < 1000000
def DivOk (j : Int) : Prop := j ≠ 0 ∧ j.natAbs.log2 < 9000
theorem mulOk {m n : Nat} {i j : Int} (hi : bd m i) (hj : bd n j) (h : decide (m + n + 2 ≤ 1000000) = true) : MulOk i j := by
  have h1 := bd_log hi
  have h2 := bd_log hj
  have h3 := of_decide_eq_true h
  unfold MulOk
  omega
theorem divOk {n : Nat} {j : Int} (h0 : j ≠ 0) (hj : bd n j) (h : decide (n ≤ 8999) = true) : DivOk j := by
  have h2 := bd_log hj
  have h3 := of_decide_eq_true h
  exact ⟨h0, by omega⟩
theorem bd_self {i : Int} : bd (i.natAbs.log2 + 1) i := by
  unfold bd
  exact Nat.lt_log2_self
theorem bd_in {m n : Nat} {i : Int} (h : bd m i) (l : decide (m ≤ n) = true) : bd n i := h.mono (of_decide_eq_true l)
theorem bd_iteP {m : Nat} {i : Int} {c : Prop} [Decidable c] {j : Int} {n : Nat} (hi : bd m i) (hj : bd n j) : bd (max m n) (if c then i else j) := by
  split
  · exact hi.mono (Nat.le_max_left ..)
  · exact hj.mono (Nat.le_max_right ..)
theorem bop_mulE {i j : Int} (h : MulOk i j) : bop .mul (.int i) (.int j) = .ok (.int (i * j)) := if_pos h
theorem bop_fdivE {i j : Int} (h : DivOk j) : bop .fdiv (.int i) (.int j) = .ok (.int (i.fdiv j)) := if_pos h
theorem bop_powE {i j : Int} (h : 0 ≤ j ∧ j ≤ 1000000 ∧ i.natAbs < 2 ^ 64) : bop .pow (.int i) (.int j) = .ok (.int (i ^ j.toNat)) := if_pos h

/-! ### plain data: its equality -/
theorem lfree_int {i : Int} : lfree (.int i) = true := by simp only [lfree]
theorem lfree_bool {i : Bool} : lfree (.bool i) = true := by simp only [lfree]
theorem lfree_str {i : Str} : lfree (.str i) = true := by simp only [lfree]
theorem lfree_none : lfree .none = true := by simp only [lfree]
theorem lfree_tup {ds : List D} : lfree (.tuple ds) = lfrees ds := by simp only [lfree]
theorem lfree_list {ds : List D} : lfree (.list ds) = false := by simp only [lfree]
theorem lfrees_nil : lfrees [] = true := by simp only [lfrees]
theorem lfrees_cons {d : D} {ds : List D} : lfrees (d :: ds) = (lfree d && lfrees ds) := by simp only [lfrees]
theorem lfrees_ints {ns : List Int} : lfrees (ns.map PyData.int) = true := by
  induction ns with
  | nil => exact lfrees_nil
  | cons n ns ih => rw [List.map_cons, lfrees_cons, lfree_int, ih]; rfl
mutual
/-- numbers, texts, None, in tuples and lists n deep -/
def pl : Nat → D → Bool
  | _, .none => true
  | _, .int _ => true
  | _, .str x => PyData.strOk x
  | 0, .list _ => false
  | 0, .tuple _ => false
  | n + 1, .list ds => pls n ds
  | n + 1, .tuple ds => pls n ds
  | _, .bool _ => false
  | _, .dict _ => false
def pls : Nat → List D → Bool
  | _, [] => true
  | n, d :: ds => pl n d && pls n ds
end
mutual
theorem pl_lay : ∀ (n : Nat) (d : D), pl n d = true → PyData.canLay0 d = true ∧ d.depth ≤ n
  | n, .none, _ => by simp [PyData.canLay0, PyData.depth]
  | n, .int _, _ => by simp [PyData.canLay0, PyData.depth]
  | n, .str x, h => by
    have h' : PyData.strOk x = true := by cases n <;> simpa [pl] using h
    simp [PyData.canLay0, PyData.depth, h']
  | 0, .list ds, h => by simp [pl] at h
  | 0, .tuple ds, h => by simp [pl] at h
  | n + 1, .list ds, h => by
    have h' : pls n ds = true := by simpa [pl] using h
    have q := pls_lay n ds h'
    simp [PyData.canLay0, PyData.depth, q.1, q.2]
  | n + 1, .tuple ds, h => by
    have h' : pls n ds = true := by simpa [pl] using h
    have q := pls_lay n ds h'
    simp [PyData.canLay0, PyData.depth, q.1, q.2]
  | n, .bool b, h => by cases n <;> simp [pl] at h
  | n, .dict b, h => by cases n <;> simp [pl] at h
theorem pls_lay : ∀ (n : Nat) (ds : List D), pls n ds = true → PyData.canLayAll0 ds = true ∧ PyData.depthAll ds ≤ n
  | n, [], _ => by simp [PyData.canLayAll0, PyData.depthAll]
  | n, d :: ds, h => by
    have h' : pl n d = true ∧ pls n ds = true := by simpa [pls] using h
    have q1 := pl_lay n d h'.1
    have q2 := pls_lay n ds h'.2
    simp [PyData.canLayAll0, PyData.depthAll, q1.1, q2.1, q1.2, q2.2, Nat.max_le]
end
theorem shp_of {n : Nat} {d : D} (h : pl n d = true) (l : n ≤ 64 := by decide) : shp d = true := by
  have q := pl_lay n d h
  show (d.canLay0 && decide (d.depth ≤ 64)) = true
  rw [q.1, decide_eq_true (Nat.le_trans q.2 l)]
  rfl
mutual
theorem eqv_of : ∀ (n : Nat) (a b : D), pl n a = true → pl n b = true → (PyData.eqv a b = true ↔ a = b)
  | n, .none, b, _, hb => by cases b <;> simp_all [PyData.eqv, pl]
  | n, .int i, b, _, hb => by cases b <;> simp_all [PyData.eqv, pl]
  | n, .str x, b, _, hb => by cases b <;> simp_all [PyData.eqv, pl]
  | 0, .list ds, b, ha, _ => by simp [pl] at ha
  | 0, .tuple ds, b, ha, _ => by simp [pl] at ha
  | n + 1, .list ds, b, ha, hb => by
    have ha' : pls n ds = true := by simpa [pl] using ha
    cases b with
    | list es =>
      have hb' : pls n es = true := by simpa [pl] using hb
      have q := eqvs_of n ds es ha' hb'
      simp [PyData.eqv, q]
    | _ => simp [PyData.eqv]
  | n + 1, .tuple ds, b, ha, hb => by
    have ha' : pls n ds = true := by simpa [pl] using ha
    cases b with
    | tuple es =>
      have hb' : pls n es = true := by simpa [pl] using hb
      have q := eqvs_of n ds es ha' hb'
      simp [PyData.eqv, q]
    | _ => simp [PyData.eqv]
  | n, .bool _, b, ha, _ => by cases n <;> simp [pl] at ha
  | n, .dict _, b, ha, _ => by cases n <;> simp [pl] at ha
theorem eqvs_of : ∀ (n : Nat) (as bs : List D), pls n as = true → pls n bs = true → (PyData.eqvAll as bs = true ↔ as = bs)
  | n, [], [], _, _ => by simp [PyData.eqvAll]
  | n, [], b :: bs, _, _ => by simp [PyData.eqvAll]
  | n, a :: as, [], _, _ => by simp [PyData.eqvAll]
  | n, a :: as, b :: bs, ha, hb => by
    have ha' : pl n a = true ∧ pls n as = true := by simpa [pls] using ha
    have hb' : pl n b = true ∧ pls n bs = true := by simpa [pls] using hb
    have q1 := eqv_of n a b ha'.1 hb'.1
    have q2 := eqvs_of n as bs ha'.2 hb'.2
    simp [PyData.eqvAll, q1, q2]
end
theorem pl_int {n : Nat} {i : Int} : pl n (.int i) = true := by cases n <;> simp only [pl]
theorem pl_none {n : Nat} : pl n .none = true := by cases n <;> simp only [pl]
theorem pl_list {n : Nat} {ds : List D} : pl (n + 1) (.list ds) = pls n ds := by simp only [pl]
theorem pl_tup {n : Nat} {ds : List D} : pl (n + 1) (.tuple ds) = pls n ds := by simp only [pl]
theorem pls_nil {n : Nat} : pls n [] = true := by simp only [pls]
theorem pls_cons {n : Nat} {d : D} {ds : List D} : pls n (d :: ds) = (pl n d && pls n ds) := by simp only [pls]
theorem pls_ints {n : Nat} : ∀ {ns : List Int}, pls n (ns.map PyData.int) = true
  | [] => pls_nil
  | x :: xs => by rw [List.map_cons, pls_cons, pl_int, pls_ints]; rfl
theorem pls_all {n : Nat} : ∀ {ds : List D}, (∀ d ∈ ds, pl n d = true) → pls n ds = true
  | [], _ => pls_nil
  | d :: ds, h => by rw [pls_cons, h d List.mem_cons_self, pls_all fun e he => h e (List.mem_cons_of_mem _ he)]; rfl
theorem pls_app {n : Nat} : ∀ {ds es : List D}, pls n ds = true → pls n es = true → pls n (ds ++ es) = true
  | [], es, _, h => h
  | d :: ds, es, h1, h2 => by
    have h' : pl n d = true ∧ pls n ds = true := by simpa [pls] using h1
    rw [List.cons_append, pls_cons, h'.1, pls_app h'.2 h2]
    rfl
/-- == of plain data, by a decision -/
theorem cop_eqP {n : Nat} {a b : D} {p : Prop} [Decidable p] (ha : pl n a = true) (hb : pl n b = true) (h : a = b ↔ p) (l : n ≤ 64 := by decide) : cop .eq a b = .ok (.bool (decide p)) := by
  have e : PyData.eqv a b = decide p := by
    rw [Bool.eq_iff_iff, eqv_of n a b ha hb, decide_eq_true_iff, h]
  show (if shp a = true ∧ shp b = true then R.ok (PyData.bool (PyData.eqv a b)) else .stuck) = _
  rw [if_pos ⟨shp_of ha l, shp_of hb l⟩, e]
theorem cop_neP {n : Nat} {a b : D} {p : Prop} [Decidable p] (ha : pl n a = true) (hb : pl n b = true) (h : a = b ↔ p) (l : n ≤ 64 := by decide) : cop .ne a b = .ok (.bool (!decide p)) := by
  have e : PyData.eqv a b = decide p := by
    rw [Bool.eq_iff_iff, eqv_of n a b ha hb, decide_eq_true_iff, h]
  show (if shp a = true ∧ shp b = true then R.ok (PyData.bool (!PyData.eqv a b)) else .stuck) = _
  rw [if_pos ⟨shp_of ha l, shp_of hb l⟩, e]
theorem cop_eqI {i j : Int} : cop .eq (.int i) (.int j) = .ok (.bool (decide (i = j))) := cop_eqP (n := 0) pl_int pl_int (by simp)
theorem cop_neI {i j : Int} : cop .ne (.int i) (.int j) = .ok (.bool (!decide (i = j))) := cop_neP (n := 0) pl_int pl_int (by simp)
theorem shp_bool {b : Bool} : shp (.bool b) = true := by simp [shp, SeqAt.shaped, PyData.canLay0, PyData.depth]
theorem shp_int {b : Int} : shp (.int b) = true := shp_of (n := 0) pl_int
theorem cop_eqB {i j : Bool} : cop .eq (.bool i) (.bool j) = .ok (.bool (i == j)) := by
  show (if shp (.bool i) = true ∧ shp (.bool j) = true then R.ok (PyData.bool (PyData.eqv (.bool i) (.bool j))) else .stuck) = _
  rw [if_pos ⟨shp_bool, shp_bool⟩]
  simp only [PyData.eqv]
theorem cop_neB {i j : Bool} : cop .ne (.bool i) (.bool j) = .ok (.bool (!(i == j))) := by
  show (if shp (.bool i) = true ∧ shp (.bool j) = true then R.ok (PyData.bool (!PyData.eqv (.bool i) (.bool j))) else .stuck) = _
  rw [if_pos ⟨shp_bool, shp_bool⟩]
  simp only [PyData.eqv]
/-! tuples of two, four numbers -/
abbrev T2 (a b : Int) : D := .tuple [.int a, .int b]
abbrev T3 (a b c : Int) : D := .tuple [.int a, .int b, .int c]
abbrev T4 (a b c d : Int) : D := .tuple [.int a, .int b, .int c, .int d]
abbrev Li (ns : List Int) : D := .list (ns.map PyData.int)
theorem pl_T2 {n : Nat} {a b : Int} : pl (n + 1) (T2 a b) = true := by simp only [pl_tup, pls_cons, pls_nil, pl_int, Bool.and_self]
theorem pl_T3 {n : Nat} {a b c : Int} : pl (n + 1) (T3 a b c) = true := by simp only [pl_tup, pls_cons, pls_nil, pl_int, Bool.and_self]
theorem pl_T4 {n : Nat} {a b c d : Int} : pl (n + 1) (T4 a b c d) = true := by simp only [pl_tup, pls_cons, pls_nil, pl_int, Bool.and_self]
theorem pl_Li {n : Nat} {ns : List Int} : pl (n + 1) (Li ns) = true := by rw [pl_list, pls_ints]
theorem map_int_inj {a b : List Int} : a.map PyData.int = b.map PyData.int ↔ a = b := by
  constructor
  · intro h
    exact List.map_inj_right (fun x y h => by cases h; rfl) |>.mp h
  · intro h; rw [h]
theorem cop_eqT2 {a b c d : Int} : cop .eq (T2 a b) (T2 c d) = .ok (.bool (decide (a = c ∧ b = d))) := cop_eqP (n := 1) pl_T2 pl_T2 (by simp)
theorem cop_neT2 {a b c d : Int} : cop .ne (T2 a b) (T2 c d) = .ok (.bool (!decide (a = c ∧ b = d))) := cop_neP (n := 1) pl_T2 pl_T2 (by simp)
theorem cop_eqT4 {a b c d a' b' c' d' : Int} : cop .eq (T4 a b c d) (T4 a' b' c' d') = .ok (.bool (decide (a = a' ∧ b = b' ∧ c = c' ∧ d = d'))) := cop_eqP (n := 1) pl_T4 pl_T4 (by simp)
theorem cop_neT4 {a b c d a' b' c' d' : Int} : cop .ne (T4 a b c d) (T4 a' b' c' d') = .ok (.bool (!decide (a = a' ∧ b = b' ∧ c = c' ∧ d = d'))) := cop_neP (n := 1) pl_T4 pl_T4 (by simp)
theorem cop_eqLi {a b : List Int} : cop .eq (Li a) (Li b) = .ok (.bool (decide (a = b))) := cop_eqP (n := 1) pl_Li pl_Li (by simp [map_int_inj])
theorem cop_neLi {a b : List Int} : cop .ne (Li a) (Li b) = .ok (.bool (!decide (a = b))) := cop_neP (n := 1) pl_Li pl_Li (by simp [map_int_inj])
/-! ### built-ins, items -/
theorem bi_len {ds : List D} : bi .len [.list ds] = .ok (.int ds.length) := rfl
theorem bi_lenT {ds : List D} : bi .len [.tuple ds] = .ok (.int ds.length) := rfl
theorem bi_abs {i : Int} : bi .abs [.int i] = .ok (.int i.natAbs) := by
  show R.ok (PyData.int (if i < 0 then -i else i)) = _
  congr 2
  split <;> omega
theorem bi_max2 {i j : Int} : bi .max2 [.int i, .int j] = .ok (.int (max i j)) := by
  show R.ok (PyData.int (if j > i then j else i)) = _
  congr 2
  split <;> omega
theorem bi_min2 {i j : Int} : bi .min2 [.int i, .int j] = .ok (.int (min i j)) := by
  show R.ok (PyData.int (if j < i then j else i)) = _
  congr 2
  split <;> omega
theorem bi_intB {b : Bool} : bi .int [.bool b] = .ok (.int (if b then 1 else 0)) := rfl
theorem bi_intI {b : Int} : bi .int [.int b] = .ok (.int b) := rfl
theorem boolsD_map {bs : List Bool} : boolsD (bs.map PyData.bool) = some bs := by
  induction bs with
  | nil => rfl
  | cons b bs ih => rw [List.map_cons, boolsD, ih]; rfl
theorem intsD_map {bs : List Int} : intsD (bs.map PyData.int) = some bs := by
  induction bs with
  | nil => rfl
  | cons b bs ih => rw [List.map_cons, intsD, ih]; rfl
theorem bi_all {bs : List Bool} : bi .all [.list (bs.map PyData.bool)] = .ok (.bool (bs.all id)) := by
  show (match boolsD (bs.map PyData.bool) with
    | some ns => R.ok (PyData.bool (ns.all id))
    | none => .stuck) = _
  rw [boolsD_map]
theorem bi_sum {ns : List Int} : bi .sum [.list (ns.map PyData.int)] = .ok (.int ns.sum) := by
  show (match intsD (ns.map PyData.int) with
    | some ns => R.ok (PyData.int ns.sum)
    | none => .stuck) = _
  rw [intsD_map]
theorem ix_list {ds : List D} {i : Int} {d : D} (h : atI ds i = some d) : ixop (.list ds) (.int i) = .ok d := by
  show (match atI ds i with
    | some d => R.ok d
    | none => .stuck) = _
  rw [h]
theorem ix_tup {ds : List D} {i : Int} {d : D} (h : atI ds i = some d) : ixop (.tuple ds) (.int i) = .ok d := by
  show (match atI ds i with
    | some d => R.ok d
    | none => .stuck) = _
  rw [h]
theorem atI_nat {α : Type} {ds : List α} {n : Nat} : atI ds (n : Int) = ds[n]? := by
  unfold atI ixN
  rw [if_pos (Int.natCast_nonneg n)]
  by_cases h : (n : Int) < (ds.length : Int)
  · rw [if_pos h]
    simp
  · rw [if_neg h]
    rw [List.getElem?_eq_none (by omega)]
    rfl
theorem cop_neLi0 {a : List Int} : cop .ne (.list (a.map PyData.int)) (.list []) = .ok (.bool (!decide (a = []))) := cop_neLi (b := [])
theorem cop_eqLi0 {a : List Int} : cop .eq (.list (a.map PyData.int)) (.list []) = .ok (.bool (decide (a = []))) := cop_eqLi (b := [])
theorem ix_Li {ns : List Int} {i : Int} (h0 : 0 ≤ i) (h1 : i < ns.length) : ixop (.list (ns.map PyData.int)) (.int i) = .ok (.int (ns.getD i.toNat 0)) := by
  obtain ⟨n, rfl⟩ := Int.eq_ofNat_of_zero_le h0
  refine ix_list ?_
  rw [atI_nat, List.getElem?_map]
  have : n < ns.length := by omega
  simp [List.getElem?_eq_getElem this]
/-- items by written places -/
theorem atI_zero {α : Type} {d : α} {ds : List α} : atI (d :: ds) 0 = some d := atI_nat (n := 0)
theorem atI_one {α : Type} {d e : α} {ds : List α} : atI (e :: d :: ds) 1 = some d := atI_nat (n := 1)
theorem atI_two {α : Type} {d e f : α} {ds : List α} : atI (f :: e :: d :: ds) 2 = some d := atI_nat (n := 2)
theorem atI_three {α : Type} {d e f g : α} {ds : List α} : atI (g :: f :: e :: d :: ds) 3 = some d := atI_nat (n := 3)
theorem ix0 {d : D} {ds : List D} : ixop (.tuple (d :: ds)) (.int 0) = .ok d := ix_tup atI_zero
theorem ix1 {d e : D} {ds : List D} : ixop (.tuple (e :: d :: ds)) (.int 1) = .ok d := ix_tup atI_one
theorem ix2 {d e f : D} {ds : List D} : ixop (.tuple (f :: e :: d :: ds)) (.int 2) = .ok d := ix_tup atI_two
theorem ix3 {d e f g : D} {ds : List D} : ixop (.tuple (g :: f :: e :: d :: ds)) (.int 3) = .ok d := ix_tup atI_three
theorem ixL0 {d : D} {ds : List D} : ixop (.list (d :: ds)) (.int 0) = .ok d := ix_list atI_zero
theorem ixL1 {d e : D} {ds : List D} : ixop (.list (e :: d :: ds)) (.int 1) = .ok d := ix_list atI_one
theorem ixL2 {d e f : D} {ds : List D} : ixop (.list (f :: e :: d :: ds)) (.int 2) = .ok d := ix_list atI_two
theorem ixL3 {d e f g : D} {ds : List D} : ixop (.list (g :: f :: e :: d :: ds)) (.int 3) = .ok d := ix_list atI_three
/-- isinstance of data -/
theorem isi_of {d : D} {t : String} {b : Bool} (h : kitB (tyD d) t = some b) : isiD t d = .ok (.bool b) := by
  unfold isiD
  rw [h]
theorem isi_int_int {i : Int} : isiD "int" (.int i) = .ok (.bool true) := isi_of (by show kitB "int" "int" = _; decide +kernel)
theorem isi_bool_int {i : Int} : isiD "bool" (.int i) = .ok (.bool false) := isi_of (by show kitB "int" "bool" = _; decide +kernel)
theorem isi_bool_bool {i : Bool} : isiD "bool" (.bool i) = .ok (.bool true) := isi_of (by show kitB "bool" "bool" = _; decide +kernel)
theorem isi_tup_tup {ds : List D} : isiD "tuple" (.tuple ds) = .ok (.bool true) := isi_of (by show kitB "tuple" "tuple" = _; decide +kernel)
/-! ### ranges, walks -/
def rngD (n : Nat) : List D := (List.range n).map fun (i : Nat) => PyData.int (i : Int)
theorem itRng1_ok {j : Int} (h1 : j ≤ 1000000) (h0 : -1000000 ≤ j) : itRng1 [.int j] = .ok (rngD j.toNat) := by
  unfold itRng1
  dsimp only
  rw [if_pos ⟨h0, h1⟩]
  unfold rngD
  congr 1
  apply List.map_congr_left
  intro i _
  rw [Int.zero_add]
theorem valI_rng1 {F : Fns} {env : SE} {ws : Es} {j : Int} (h : evEs F ws (fullE env) = .ok [.int j]) (h1 : j ≤ 1000000) (h0 : -1000000 ≤ j) : valI F env .rng1 ws = .ok (rngD j.toNat) := by
  unfold valI evI
  rw [h, R.bind_ok]
  exact itRng1_ok h1 h0
theorem evI_rng1 {F : Fns} {env : Env} {ws : Es} {j : Int} (h : evEs F ws env = .ok [.int j]) (h1 : j ≤ 1000000) (h0 : -1000000 ≤ j) : ((evEs F ws env).bind fun ds => iters .rng1 ds) = .ok (rngD j.toNat) := by
  rw [h, R.bind_ok]
  exact itRng1_ok h1 h0
theorem rngD_length {n : Nat} : (rngD n).length = n := by simp [rngD]
theorem rngD_get {n i : Nat} {x : D} (h : (rngD n)[i]? = some x) : x = .int (i : Int) ∧ i < n := by
  unfold rngD at h
  rw [List.getElem?_map] at h
  by_cases hi : i < n
  · rw [List.getElem?_range hi] at h
    exact ⟨(Option.some.inj h).symm, hi⟩
  · rw [List.getElem?_eq_none (by simp; omega)] at h
    cases h
theorem tgS_nm {i : Nat} {d : D} {env : SE} : tgS (.nm i) d env = some (env.set i (.fr d)) := rfl
theorem lcD_map {α : Type} {f : D → R (Option D)} {enc : α → D} {g : α → D} {xs : List α} (h : ∀ x ∈ xs, f (enc x) = .ok (some (g x))) (l : xs.length ≤ 1000000) : lcD f (xs.map enc) = .ok (.list (xs.map g)) := by
  have key : ∀ ys : List α, (∀ x ∈ ys, f (enc x) = .ok (some (g x))) → compL f (ys.map enc) = .ok (ys.map g) := by
    intro ys
    induction ys with
    | nil => intro _; rfl
    | cons y ys ih =>
      intro h
      rw [List.map_cons, compL, h y List.mem_cons_self, R.bind_ok, ih fun x hx => h x (List.mem_cons_of_mem _ hx), R.bind_ok]
      rfl
  unfold lcD
  rw [if_pos (by rw [List.length_map]; exact l), key xs h]
  rfl
theorem ite_okB {c : Prop} [Decidable c] {x y : Bool} : (if c then R.ok (PyData.bool x) else R.ok (PyData.bool y)) = R.ok (PyData.bool (if c then x else y)) := by split <;> rfl
/-! comprehensions, walks over written rows -/
theorem iters_list {ds : List D} : iters .seq [.list ds] = .ok ds := rfl
theorem iters_tup {ds : List D} : iters .seq [.tuple ds] = .ok ds := rfl
theorem iters_enum {ds : List D} : iters .enum [.list ds] = .ok (ds.zipIdx.map fun p => pairD (.int (p.2 : Nat)) p.1) := rfl
theorem iters_rng1 {j : Int} (h1 : j ≤ 1000000) (h0 : -1000000 ≤ j) : iters .rng1 [.int j] = .ok (rngD j.toNat) := itRng1_ok h1 h0
theorem asg_nm {i : Nat} {d : D} {env : Env} : (Tg.nm i).asg d env = .ok (env.set i (some d)) := rfl
theorem wipe_nil {env : Env} : wipeE env [] = env := rfl
theorem wipe_cons {env : Env} {v : Nat} {vs : List Nat} : wipeE env (v :: vs) = (wipeE env vs).set v none := rfl
theorem tst_nil : tstD [] = .ok true := rfl
theorem tst_one {b : Bool} : tstD [.bool b] = .ok b := rfl
theorem noX_ok {α : Type} {a : α} : noX (R.ok a) = .ok a := rfl
theorem lcD_lit {f : D → R (Option D)} {items : List D} (h : items.length ≤ 1000000) : lcD f items = (compL f items).bind fun ds => .ok (.list ds) := if_pos h
theorem compL_nil {f : D → R (Option D)} : compL f [] = .ok [] := rfl
theorem compL_cons {f : D → R (Option D)} {x : D} {xs : List D} : compL f (x :: xs) = (f x).bind fun o => (compL f xs).bind fun r => .ok (o.toList ++ r) := rfl
theorem rngD_3 : rngD 3 = [.int 0, .int 1, .int 2] := rfl
theorem rngD_4 : rngD 4 = [.int 0, .int 1, .int 2, .int 3] := rfl
def optB : Option (List Bool) → R D
  | some bs => .ok (.bool (bs.all id))
  | none => .stuck
theorem optB_some {bs : List Bool} : optB (some bs) = .ok (.bool (bs.all id)) := rfl
theorem bi_allE {ds : List D} : bi .all [.list ds] = optB (boolsD ds) := by
  show (match boolsD ds with
    | some ns => R.ok (PyData.bool (ns.all id))
    | none => .stuck) = _
  cases boolsD ds <;> rfl
theorem boolsD_nil : boolsD [] = some [] := rfl
theorem boolsD_cons {b : Bool} {ds : List D} : boolsD (.bool b :: ds) = (boolsD ds).map (b :: ·) := rfl
def optI : (List Int → R D) → Option (List Int) → R D
  | f, some bs => f bs
  | _, none => .stuck
theorem optI_some {f : List Int → R D} {bs : List Int} : optI f (some bs) = f bs := rfl
theorem bi_sumE {ds : List D} : bi .sum [.list ds] = optI (fun ns => .ok (.int ns.sum)) (intsD ds) := by
  show (match intsD ds with
    | some ns => R.ok (PyData.int ns.sum)
    | none => .stuck) = _
  cases intsD ds <;> rfl
theorem intsD_nil : intsD [] = some [] := rfl
theorem intsD_cons {b : Int} {ds : List D} : intsD (.int b :: ds) = (intsD ds).map (b :: ·) := rfl
/-- a loop over told items, by what holds behind a part of them -/
theorem LP_map {F : Fns} {tg : Tg} {b : Ss} {Q : Pst} {α : Type} {enc : α → D} {all : List α} (P : List α → SE → Prop)
    (step : ∀ pre x post e, all = pre ++ x :: post → P pre e → ∃ e', tgS tg (enc x) e = some e' ∧ WB F b e' (Q.lp (P (pre ++ [x])))) (fin : ∀ e, P all e → Q.nx e) :
    ∀ {xs pre : List α} {env : SE}, all = pre ++ xs → P pre env → LP F tg b (xs.map enc) env Q
  | [], pre, env, e, h => by
    rw [List.append_nil] at e
    subst e
    exact fin env h
  | x :: xs, pre, env, e, h => by
    obtain ⟨e', ht, hb⟩ := step pre x xs env e h
    unfold LP
    rw [List.map_cons, loopF]
    unfold tgRun
    rw [ht]
    have rest : ∀ e2, P (pre ++ [x]) e2 → (loopF (fun x e => tgRun tg x e fun e' => exSs F fuel b e') (xs.map enc) e2).sat Q := fun e2 he => LP_map P step fin (xs := xs) (by rw [e, List.append_assoc]; rfl) he
    unfold WB at hb
    dsimp only
    cases q : exSs F fuel b e' with
    | stuck => rw [q] at hb; exact hb
    | nx e2 => rw [q] at hb; exact rest e2 hb
    | ct e2 => rw [q] at hb; exact rest e2 hb
    | bk e2 => rw [q] at hb; exact hb
    | rt d => rw [q] at hb; exact hb
    | ex c p e2 => rw [q] at hb; exact hb
theorem valI_list {F : Fns} {env : SE} {e : E} {ds : List D} (h : evE F e (cleanE env) = .ok (.list ds)) : valI F env .seq (.cons e .nil) = .ok ds := by
  show (evEs F (.cons e .nil) (cleanE env)).bind (iters .seq) = _
  rw [evEs, h, R.bind_ok, evEs, R.bind_ok, R.bind_ok]
  rfl
theorem valI_tup {F : Fns} {env : SE} {e : E} {ds : List D} (h : evE F e (cleanE env) = .ok (.tuple ds)) : valI F env .seq (.cons e .nil) = .ok ds := by
  show (evEs F (.cons e .nil) (cleanE env)).bind (iters .seq) = _
  rw [evEs, h, R.bind_ok, evEs, R.bind_ok, R.bind_ok]
  rfl
/-! lists of one's own -/
theorem newS_def {F : Fns} {env : SE} {e : E} : newS F env e = ((evE F e (fullE env)).bind lsOf).bind fun ds => if (lfrees ds || noOwn env) = true then .ok ds else (evE F e (cleanE env)).bind lsOf := rfl
theorem lsOf_list {ds : List D} : lsOf (.list ds) = .ok ds := rfl
theorem ownAt_zero {ds : List D} {env : SE} : ownAt (.ow ds :: env) 0 = some ds := rfl
theorem ownAt_succ {s : Sl} {env : SE} {i : Nat} : ownAt (s :: env) (i + 1) = ownAt env i := rfl
def Pst.appk (Q : Pst) (env : SE) (i : Nat) (ds : List D) : D → Prop := fun d => ds.length < 1000000 ∧ Q.nx (env.set i (.ow (ds ++ [d])))
theorem appk_app {Q : Pst} {env : SE} {i : Nat} {ds : List D} {d : D} : Q.appk env i ds d = (ds.length < 1000000 ∧ Q.nx (env.set i (.ow (ds ++ [d])))) := rfl
def APP (Q : Pst) (env : SE) (i : Nat) (r : R D) : Option (List D) → Prop
  | some ds => RP r (Q.appk env i ds) (Q.exk env)
  | none => False
theorem APP_some {Q : Pst} {env : SE} {i : Nat} {r : R D} {ds : List D} : APP Q env i r (some ds) = RP r (Q.appk env i ds) (Q.exk env) := rfl
theorem WS_appE {F : Fns} {i : Nat} {e : E} {env : SE} {Q : Pst} : WS F (.app i e) env Q = APP Q env i (valS F env e) (ownAt env i) := by
  rw [WS_app]
  cases h : env[i]? with
  | none =>
    have e1 : appS env i (valS F env e) = .stuck := by unfold appS; rw [h]
    have e2 : ownAt env i = none := by unfold ownAt; rw [h]
    rw [e1, e2]
    rfl
  | some s =>
    cases s with
    | un =>
      have e1 : appS env i (valS F env e) = .stuck := by unfold appS; rw [h]
      have e2 : ownAt env i = none := by unfold ownAt; rw [h]
      rw [e1, e2]
      rfl
    | fr d =>
      have e1 : appS env i (valS F env e) = .stuck := by unfold appS; rw [h]
      have e2 : ownAt env i = none := by unfold ownAt; rw [h]
      rw [e1, e2]
      rfl
    | ow ds =>
      have e2 : ownAt env i = some ds := by unfold ownAt; rw [h]
      rw [e2, APP_some]
      cases q : valS F env e with
      | stuck =>
        have e1 : appS env i (.stuck) = .stuck := by unfold appS; rw [h]; rfl
        rw [e1]
        rfl
      | exc c p =>
        have e1 : appS env i (.exc c p) = .ex c p env := by unfold appS; rw [h]; rfl
        rw [e1]
        rfl
      | ok d =>
        rw [RP_ok, appk_app]
        by_cases hl : ds.length < 1000000
        · rw [appS_ok h hl]
          simp only [hl, true_and]
          rfl
        · have e1 : appS env i (.ok d) = .stuck := by
            unfold appS
            rw [h]
            show (if ds.length < 1000000 then _ else _) = _
            rw [if_neg hl]
          rw [e1]
          simp only [hl, false_and]
          rfl
theorem fmod_two (m : Int) : m.fmod 2 = 0 ∨ m.fmod 2 = 1 := by
  have h0 := Int.fmod_nonneg_of_pos m (show (0 : Int) < 2 by decide)
  have h1 := Int.fmod_lt_of_pos m (show (0 : Int) < 2 by decide)
  omega
theorem fmod_three (m : Int) : m.fmod 3 = 0 ∨ m.fmod 3 = 1 ∨ m.fmod 3 = 2 := by
  have h0 := Int.fmod_nonneg_of_pos m (show (0 : Int) < 3 by decide)
  have h1 := Int.fmod_lt_of_pos m (show (0 : Int) < 3 by decide)
  omega
theorem bi_listL {ds : List D} : bi .list [.list ds] = .ok (.list ds) := rfl
theorem bi_listT {ds : List D} : bi .list [.tuple ds] = .ok (.list ds) := rfl
theorem bi_tupL {ds : List D} : bi .tuple [.list ds] = .ok (.tuple ds) := rfl
/-! nothing but going on -/
def Pst.only (P : SE → Prop) : Pst := ⟨P, fun _ => False, fun _ => False, fun _ => False, fun _ _ _ => False⟩
def Pst.onlyL (P : SE → Prop) : Pst := ⟨P, fun _ => False, fun _ => False, P, fun _ _ _ => False⟩
theorem only_nx {P : SE → Prop} {e : SE} : (Pst.only P).nx e = P e := rfl
theorem only_rt {P : SE → Prop} {d : D} : (Pst.only P).rt d = False := rfl
theorem only_bk {P : SE → Prop} {e : SE} : (Pst.only P).bk e = False := rfl
theorem only_ct {P : SE → Prop} {e : SE} : (Pst.only P).ct e = False := rfl
theorem only_ex {P : SE → Prop} {c : Nat} {p : Option Int} {e : SE} : (Pst.only P).ex c p e = False := rfl
theorem onlyL_nx {P : SE → Prop} {e : SE} : (Pst.onlyL P).nx e = P e := rfl
theorem onlyL_rt {P : SE → Prop} {d : D} : (Pst.onlyL P).rt d = False := rfl
theorem onlyL_bk {P : SE → Prop} {e : SE} : (Pst.onlyL P).bk e = False := rfl
theorem onlyL_ct {P : SE → Prop} {e : SE} : (Pst.onlyL P).ct e = P e := rfl
theorem onlyL_ex {P : SE → Prop} {c : Nat} {p : Option Int} {e : SE} : (Pst.onlyL P).ex c p e = False := rfl
theorem WS_only {F : Fns} {s : S} {env : SE} {Q : Pst} {P : SE → Prop} (h : WS F s env (Pst.only P)) (k : ∀ e, P e → Q.nx e) : WS F s env Q := Rs.sat_imp h k (fun _ h => h.elim) (fun _ h => h.elim) (fun _ h => h.elim) (fun _ _ _ h => h.elim)
theorem WB_only {F : Fns} {s : Ss} {env : SE} {Q : Pst} {P : SE → Prop} (h : WB F s env (Pst.only P)) (k : ∀ e, P e → Q.nx e) : WB F s env Q := Rs.sat_imp h k (fun _ h => h.elim) (fun _ h => h.elim) (fun _ h => h.elim) (fun _ _ _ h => h.elim)
theorem WB_onlyL {F : Fns} {s : Ss} {env : SE} {Q : Pst} {P : SE → Prop} (h : WB F s env (Pst.onlyL P)) : WB F s env (Q.lp P) := Rs.sat_imp h (fun _ h => h) (fun _ h => h.elim) (fun _ h => h.elim) (fun _ h => h) (fun _ _ _ h => h.elim)
/-- for x in range(n), the body always goes on -/
theorem LP_rng {F : Fns} {v : Nat} {b : Ss} {Q : Pst} {env : SE} {n : Nat} (P : Nat → SE → Prop) (h0 : P 0 env) (step : ∀ i e, i < n → P i e → WB F b (e.set v (.fr (.int (i : Int)))) (Pst.onlyL (P (i + 1)))) (fin : ∀ e, P n e → Q.nx e) : LP F (.nm v) b (rngD n) env Q := by
  refine LP_inv P 0 h0 (fun i x e hx hp => ?_) (fun e he => fin e (by rw [rngD_length, Nat.zero_add] at he; exact he))
  rw [Nat.zero_add] at hp ⊢
  obtain ⟨rfl, hi⟩ := rngD_get hx
  exact ⟨_, tgS_nm, WB_onlyL (step i e hi hp)⟩
/-- for x in a told list, the body always goes on -/
theorem LP_list {F : Fns} {v : Nat} {b : Ss} {Q : Pst} {env : SE} {α : Type} {enc : α → D} {xs : List α} (P : List α → SE → Prop) (h0 : P [] env)
    (step : ∀ pre x post e, xs = pre ++ x :: post → P pre e → WB F b (e.set v (.fr (enc x))) (Pst.onlyL (P (pre ++ [x])))) (fin : ∀ e, P xs e → Q.nx e) : LP F (.nm v) b (xs.map enc) env Q :=
  LP_map (all := xs) P (fun pre x post e he hp => ⟨_, tgS_nm, WB_onlyL (step pre x post e he hp)⟩) fin (pre := []) rfl h0
/-! walks: what is walked, written rows turn by turn -/
theorem valI_rng1E {F : Fns} {env : SE} {ws : Es} : valI F env .rng1 ws = (evEs F ws (fullE env)).bind (iters .rng1) := rfl
theorem valI_rng2E {F : Fns} {env : SE} {ws : Es} : valI F env .rng2 ws = (evEs F ws (fullE env)).bind (iters .rng2) := rfl
theorem valI_seqE {F : Fns} {env : SE} {ws : Es} : valI F env .seq ws = (evEs F ws (cleanE env)).bind (iters .seq) := rfl
theorem valI_enumE {F : Fns} {env : SE} {ws : Es} : valI F env .enum ws = (evEs F ws (cleanE env)).bind (iters .enum) := rfl
theorem valI_zipE {F : Fns} {env : SE} {ws : Es} : valI F env .zip ws = (evEs F ws (cleanE env)).bind (iters .zip) := rfl
theorem bind_iters {w : Wk} {r : R (List D)} : (r.bind fun ds => iters w ds) = r.bind (iters w) := rfl
def Pst.lpc (Q : Pst) (F : Fns) (tg : Tg) (b : Ss) (xs : List D) : Pst := Q.lp fun e => LP F tg b xs e Q
theorem lpc_nx {Q : Pst} {F : Fns} {tg : Tg} {b : Ss} {xs : List D} {e : SE} : (Q.lpc F tg b xs).nx e = LP F tg b xs e Q := rfl
theorem lpc_ct {Q : Pst} {F : Fns} {tg : Tg} {b : Ss} {xs : List D} {e : SE} : (Q.lpc F tg b xs).ct e = LP F tg b xs e Q := rfl
theorem lpc_bk {Q : Pst} {F : Fns} {tg : Tg} {b : Ss} {xs : List D} {e : SE} : (Q.lpc F tg b xs).bk e = Q.nx e := rfl
theorem lpc_rt {Q : Pst} {F : Fns} {tg : Tg} {b : Ss} {xs : List D} {d : D} : (Q.lpc F tg b xs).rt d = Q.rt d := rfl
theorem lpc_ex {Q : Pst} {F : Fns} {tg : Tg} {b : Ss} {xs : List D} {c : Nat} {p : Option Int} {e : SE} : (Q.lpc F tg b xs).ex c p e = Q.ex c p e := rfl
theorem LP_cons_nm {F : Fns} {v : Nat} {b : Ss} {x : D} {xs : List D} {env : SE} {Q : Pst} : LP F (.nm v) b (x :: xs) env Q = WB F b (env.set v (.fr x)) (Q.lpc F (.nm v) b xs) := by
  unfold LP WB
  rw [loopF]
  show (match exSs F fuel b (env.set v (.fr x)) with
    | .nx e => loopF (fun x e => tgRun (.nm v) x e fun e' => exSs F fuel b e') xs e
    | .ct e => loopF (fun x e => tgRun (.nm v) x e fun e' => exSs F fuel b e') xs e
    | .bk e => .nx e
    | r => r).sat Q = _
  cases exSs F fuel b (env.set v (.fr x)) <;> rfl
theorem LP_nilE {F : Fns} {tg : Tg} {b : Ss} {env : SE} {Q : Pst} : LP F tg b [] env Q = Q.nx env := rfl
/-- a comprehension over what is told -/
theorem lc_map {α : Type} {f : D → R (Option D)} {enc : α → D} {g : α → D} {xs : List α} (h : ∀ x ∈ xs, f (enc x) = .ok (some (g x))) (l : xs.length ≤ 1000000) : lcD f (xs.map enc) = .ok (.list (xs.map g)) := lcD_map h l
theorem iters_rng2_13 : iters .rng2 [.int 1, .int 3] = .ok [.int 1, .int 2] := rfl
theorem iters_rng2_23 : iters .rng2 [.int 2, .int 3] = .ok [.int 2] := rfl
theorem iters_rng2_33 : iters .rng2 [.int 3, .int 3] = .ok [] := rfl
theorem rngD_0 : rngD 0 = [] := rfl
theorem rngD_1 : rngD 1 = [.int 0] := rfl
theorem rngD_2 : rngD 2 = [.int 0, .int 1] := rfl
theorem ix_map {α : Type} {enc : α → D} {xs : List α} {i : Int} (h0 : 0 ≤ i) (h1 : i < xs.length) : ∃ x ∈ xs, ixop (.list (xs.map enc)) (.int i) = .ok (enc x) := by
  obtain ⟨n, rfl⟩ := Int.eq_ofNat_of_zero_le h0
  have hn : n < xs.length := by omega
  refine ⟨xs[n], List.getElem_mem hn, ix_list ?_⟩
  rw [atI_nat, List.getElem?_map, List.getElem?_eq_getElem hn]
  rfl
def maxL : List Int → R D
  | n :: ns => .ok (.int (maxI n ns))
  | [] => .stuck
theorem maxL_cons {n : Int} {ns : List Int} : maxL (n :: ns) = .ok (.int (maxI n ns)) := rfl
theorem bi_max1E {ds : List D} : bi .max1 [.list ds] = optI maxL (intsD ds) := by
  show (match intsD ds with
    | some (n :: ns) => R.ok (PyData.int (maxI n ns))
    | _ => .stuck) = _
  cases intsD ds with
  | none => rfl
  | some l => cases l <;> rfl
theorem cop_ne_nil {n : Nat} {ds : List D} (h : pl n (.list ds) = true) (l : n ≤ 64 := by decide) : cop .ne (.list ds) (.list []) = .ok (.bool (!decide (ds = []))) :=
  cop_neP h (by cases n with | zero => simp [pl] at h | succ n => rw [pl_list, pls_nil]) (by simp) l
theorem cop_eq_nil {n : Nat} {ds : List D} (h : pl n (.list ds) = true) (l : n ≤ 64 := by decide) : cop .eq (.list ds) (.list []) = .ok (.bool (decide (ds = []))) :=
  cop_eqP h (by cases n with | zero => simp [pl] at h | succ n => rw [pl_list, pls_nil]) (by simp) l
/-! slices that are written -/
theorem partD_nil : partD [] = .ok none := rfl
theorem partD_one {i : Int} : partD [.int i] = .ok (some i) := rfl
theorem slop_T4_3 {a b c d : D} : slop (.tuple [a, b, c, d]) none (some 3) = .ok (.tuple [a, b, c]) := rfl
theorem slop_L4_3 {a b c d : D} : slop (.list [a, b, c, d]) none (some 3) = .ok (.list [a, b, c]) := rfl
theorem cop_eqL3 {a b c a' b' c' : Int} : cop .eq (.list [.int a, .int b, .int c]) (.list [.int a', .int b', .int c']) = .ok (.bool (decide (a = a' ∧ b = b' ∧ c = c'))) :=
  cop_eqP (n := 1) (by simp only [pl_list, pls_cons, pls_nil, pl_int, Bool.and_self]) (by simp only [pl_list, pls_cons, pls_nil, pl_int, Bool.and_self]) (by simp)
theorem cop_eqL1n {a : Int} : cop .eq (.list [.int a]) (.list []) = .ok (.bool false) := cop_eqP (n := 1) (p := False) (by simp only [pl_list, pls_cons, pls_nil, pl_int, Bool.and_self]) (by simp only [pl_list, pls_nil]) (by simp)
theorem cop_eqL2n {a b : Int} : cop .eq (.list [.int a, .int b]) (.list []) = .ok (.bool false) := cop_eqP (n := 1) (p := False) (by simp only [pl_list, pls_cons, pls_nil, pl_int, Bool.and_self]) (by simp only [pl_list, pls_nil]) (by simp)
theorem cop_eqL3n {a b c : Int} : cop .eq (.list [.int a, .int b, .int c]) (.list []) = .ok (.bool false) := cop_eqP (n := 1) (p := False) (by simp only [pl_list, pls_cons, pls_nil, pl_int, Bool.and_self]) (by simp only [pl_list, pls_nil]) (by simp)
/-! x[k] = e on a list of one's own -/
def Pst.stk2 (Q : Pst) (env : SE) (i : Nat) (ds : List D) (d : D) : D → Prop := fun k => (stK env i ds d k).sat Q
def Pst.stk1 (Q : Pst) (F : Fns) (env : SE) (i : Nat) (ds : List D) (x : E) : D → Prop := fun d => RP (evE F x (fullE env)) (Q.stk2 env i ds d) (Q.exk env)
def STI (Q : Pst) (F : Fns) (env : SE) (i : Nat) (x : E) (r : R D) : Option (List D) → Prop
  | some ds => RP r (Q.stk1 F env i ds x) (Q.exk env)
  | none => False
theorem STI_some {Q : Pst} {F : Fns} {env : SE} {i : Nat} {x : E} {r : R D} {ds : List D} : STI Q F env i x r (some ds) = RP r (Q.stk1 F env i ds x) (Q.exk env) := rfl
theorem stk1_app {Q : Pst} {F : Fns} {env : SE} {i : Nat} {ds : List D} {x : E} {d : D} : Q.stk1 F env i ds x d = RP (evE F x (fullE env)) (Q.stk2 env i ds d) (Q.exk env) := rfl
theorem stk2_app {Q : Pst} {env : SE} {i : Nat} {ds : List D} {d : D} {k : Int} (h0 : 0 ≤ k) (h1 : k < ds.length) : Q.stk2 env i ds d (.int k) = Q.nx (env.set i (.ow (ds.set k.toNat d))) := by
  unfold Pst.stk2 stK
  dsimp only
  have e : ixN ds.length k = some k.toNat := by
    unfold ixN
    rw [if_pos h0, if_pos h1]
  rw [e]
  rfl
theorem WS_stI {F : Fns} {i : Nat} {x e : E} {env : SE} {Q : Pst} : WS F (.stI i x e) env Q = STI Q F env i x (valS F env e) (ownAt env i) := by
  unfold WS
  rw [exS]
  unfold withOw
  cases ownAt env i with
  | none => rfl
  | some ds =>
    dsimp only
    rw [sat_toS, STI_some]
    congr 1
    funext d
    rw [sat_toS]
    rfl
theorem stL_zero {α : Type} {a b : α} {l : List α} : (a :: l).set 0 b = b :: l := rfl
theorem stL_succ {α : Type} {a b : α} {l : List α} {n : Nat} : (a :: l).set (n + 1) b = a :: l.set n b := rfl
theorem cop_neL2 {a b a' b' : Int} : cop .ne (.list [.int a, .int b]) (.list [.int a', .int b']) = .ok (.bool (!decide (a = a' ∧ b = b'))) :=
  cop_neP (n := 1) (by simp only [pl_list, pls_cons, pls_nil, pl_int, Bool.and_self]) (by simp only [pl_list, pls_cons, pls_nil, pl_int, Bool.and_self]) (by simp)
theorem rngD_5 : rngD 5 = [.int 0, .int 1, .int 2, .int 3, .int 4] := rfl
/-! xs[:k] = [..] on a list of one's own -/
def Pst.sts2 (Q : Pst) (env : SE) (i : Nat) (ds es : List D) : D → Prop := fun k => (stSK env i ds es k).sat Q
def Pst.sts1 (Q : Pst) (F : Fns) (env : SE) (i : Nat) (ds : List D) (x : E) : List D → Prop := fun es => if lfrees es = true then RP (evE F x (fullE env)) (Q.sts2 env i ds es) (Q.exk env) else False
def STS (Q : Pst) (F : Fns) (env : SE) (i : Nat) (x : E) (r : R (List D)) : Option (List D) → Prop
  | some ds => RP r (Q.sts1 F env i ds x) (Q.exk env)
  | none => False
theorem STS_some {Q : Pst} {F : Fns} {env : SE} {i : Nat} {x : E} {r : R (List D)} {ds : List D} : STS Q F env i x r (some ds) = RP r (Q.sts1 F env i ds x) (Q.exk env) := rfl
theorem sts1_app {Q : Pst} {F : Fns} {env : SE} {i : Nat} {ds es : List D} {x : E} : Q.sts1 F env i ds x es = if lfrees es = true then RP (evE F x (fullE env)) (Q.sts2 env i ds es) (Q.exk env) else False := rfl
theorem sts2_app {Q : Pst} {env : SE} {i : Nat} {ds es : List D} {k : Int} (h0 : 0 ≤ k) (h1 : k ≤ ds.length) (h2 : ds.length + es.length ≤ 1000000) : Q.sts2 env i ds es (.int k) = Q.nx (env.set i (.ow (es ++ ds.drop k.toNat))) := by
  unfold Pst.sts2 stSK
  dsimp only
  rw [if_pos ⟨h0, h1, h2⟩]
  rfl
theorem WS_stS {F : Fns} {i : Nat} {x e : E} {env : SE} {Q : Pst} : WS F (.stS i x e) env Q = STS Q F env i x ((evE F e (fullE env)).bind lsOf) (ownAt env i) := by
  unfold WS
  rw [exS]
  unfold withOw
  cases ownAt env i with
  | none => rfl
  | some ds =>
    dsimp only
    rw [sat_toS, STS_some]
    congr 1
    funext es
    unfold Pst.sts1
    by_cases h : lfrees es = true
    · rw [if_pos h, if_pos h, sat_toS]
      rfl
    · rw [if_neg h, if_neg h]
      rfl
end Bs

namespace Bs
open PySem PySem.Spec L2
open PyProof.Rows hiding St
def m_divisor : Ss := (.cons (.set 0 (.bi .abs (.cons (.v 0) .nil))) (.cons (.set 1 (.bi .abs (.cons (.v 1) .nil))) (.cons (.whil (.cmp .gt (.v 1) (.i 0)) (.cons (.par 0 1 (.v 1) (.op .mod (.v 0) (.v 1))) .nil)) (.cons (.ret (.v 0)) .nil))))
def F_divisor : List D → R D := den (sel []) fuel 2 m_divisor
def m_made_spot : Ss := (.cons (.iff (.cmp .eq (.v 3) (.i 0)) (.cons (.raise 2) .nil) .nil) (.cons (.set 4 (.call 0 (.cons (.call 0 (.cons (.v 0) (.cons (.v 1) .nil))) (.cons (.call 0 (.cons (.v 2) (.cons (.v 3) .nil))) .nil)))) (.cons (.iff (.cmp .lt (.v 3) (.i 0)) (.cons (.set 4 (.op .sub (.i 0) (.v 4))) .nil) .nil) (.cons (.ret (.tup (.cons (.op .fdiv (.v 0) (.v 4)) (.cons (.op .fdiv (.v 1) (.v 4)) (.cons (.op .fdiv (.v 2) (.v 4)) (.cons (.op .fdiv (.v 3) (.v 4)) .nil)))))) .nil))))
def F_made_spot : List D → R D := den (sel [F_divisor]) fuel 5 m_made_spot
def F_made_spot_d3 : List D → R D := fun ds => F_made_spot (ds ++ ([1] : List Int).map PyData.int)
def m_law_number : Ss := (.cons (.set 2 (.i 0)) (.cons (.set 3 (.v 1)) (.cons (.iff (.cmp .ne (.v 0) (.lst .nil)) (.cons (.set 2 (.ix (.v 0) (.op .mod (.v 1) (.bi .len (.cons (.v 0) .nil))))) (.cons (.set 3 (.op .fdiv (.v 1) (.bi .len (.cons (.v 0) .nil)))) .nil)) .nil) (.cons (.iff (.cmp .ge (.bi .abs (.cons (.v 2) .nil)) (.op .pow (.i 10) (.i 18))) (.cons (.set 4 (.bi .abs (.cons (.v 2) .nil))) (.cons (.forr .rng1 (.cons (.v 3) .nil) (.nm 5) (.cons (.set 4 (.op .fdiv (.v 4) (.op .pow (.i 10) (.i 31)))) .nil)) (.cons (.iff (.cmp .gt (.v 4) (.i 0)) (.cons (.ret (.op .mod (.v 4) (.op .pow (.i 10) (.i 31)))) .nil) .nil) .nil))) .nil) (.cons (.set 6 (.i 618970019642690137449562111)) (.cons (.set 7 (.op .mod (.op .mul (.op .add (.op .add (.op .add (.op .mod (.v 2) (.v 6)) (.op .mul (.op .mul (.i 7919) (.v 1)) (.v 1))) (.v 1)) (.i 1)) (.i 48271)) (.v 6))) (.cons (.set 7 (.op .mod (.op .add (.op .mul (.v 7) (.v 7)) (.op .mul (.i 69621) (.v 1))) (.v 6))) (.cons (.ret (.op .mod (.op .mul (.op .mod (.op .mul (.v 7) (.v 7)) (.v 6)) (.i 282475249)) (.op .pow (.i 10) (.i 31)))) .nil))))))))
def F_law_number : List D → R D := den (sel []) fuel 8 m_law_number
def m_law_whole : Ss := (.cons (.ret (.and (.isi "int" (.v 0)) (.one (.not (.isi "bool" (.v 0)))))) .nil)
def F_law_whole : List D → R D := den (sel []) fuel 1 m_law_whole
def m_law_int : Ss := (.cons (.set 1 (.op .mod (.v 0) (.i 8))) (.cons (.set 0 (.op .fdiv (.v 0) (.i 8))) (.cons (.iff (.cmp .lt (.v 1) (.i 4)) (.cons (.ret (.op .sub (.op .mod (.v 0) (.i 13)) (.i 6))) .nil) .nil) (.cons (.iff (.cmp .lt (.v 1) (.i 6)) (.cons (.ret (.op .sub (.op .mod (.v 0) (.i 2000001)) (.i 1000000))) .nil) .nil) (.cons (.iff (.cmp .eq (.v 1) (.i 6)) (.cons (.ret (.op .sub (.op .mod (.v 0) (.i 3)) (.i 1))) .nil) .nil) (.cons (.ret (.op .sub (.op .mod (.op .mul (.v 0) (.i 99991)) (.op .sub (.op .mul (.i 2) (.op .pow (.i 10) (.i 30))) (.i 1))) (.op .sub (.op .pow (.i 10) (.i 30)) (.i 1)))) .nil))))))
def F_law_int : List D → R D := den (sel []) fuel 2 m_law_int
def m_law_divisor : Ss := (.cons (.set 0 (.bi .abs (.cons (.v 0) .nil))) (.cons (.set 1 (.bi .abs (.cons (.v 1) .nil))) (.cons (.whil (.cmp .gt (.v 1) (.i 0)) (.cons (.par 0 1 (.v 1) (.op .mod (.v 0) (.v 1))) .nil)) (.cons (.ret (.v 0)) .nil))))
def F_law_divisor : List D → R D := den (sel []) fuel 2 m_law_divisor
def m_law_tuple : Ss := (.cons (.iff (.or (.not (.isi "tuple" (.v 0))) (.one (.cmp .ne (.bi .len (.cons (.v 0) .nil)) (.v 1)))) (.cons (.ret (.b false)) .nil) .nil) (.cons (.ret (.bi .all (.cons (.lc .seq (.cons (.v 0) .nil) (.nm 2) .nil (.call 0 (.cons (.v 2) .nil)) [("one", 2)]) .nil))) .nil))
def F_law_tuple : List D → R D := den (sel [F_law_whole]) fuel 3 m_law_tuple
def m_law_lowest : Ss := (.cons (.set 1 (.i 0)) (.cons (.forr .seq (.cons (.v 0) .nil) (.nm 2) (.cons (.set 1 (.call 0 (.cons (.v 1) (.cons (.v 2) .nil)))) .nil)) (.cons (.ret (.cmp .eq (.v 1) (.i 1))) .nil)))
def F_law_lowest : List D → R D := den (sel [F_law_divisor]) fuel 3 m_law_lowest
def m_law_asked_5 : Ss := (.cons (.set 1 .non) (.cons (.set 2 (.b false)) (.cons (.tryx 2 (.cons (.set 1 (.callW 0 (.cons (.ix (.v 0) (.i 0)) (.cons (.ix (.v 0) (.i 1)) (.cons (.ix (.v 0) (.i 2)) .nil))) (.ix (.v 0) (.i 3)))) .nil) (.cons (.set 2 (.b true)) .nil)) (.cons (.ret (.tup (.cons (.v 1) (.cons (.v 2) .nil)))) .nil))))
def F_law_asked_5 : List D → R D := den (sel [F_made_spot]) fuel 3 m_law_asked_5
def m_law_right_6 : Ss := (.cons (.iff (.or (.not (.call 0 (.cons (.v 0) (.cons (.i 4) .nil)))) (.or (.cmp .lt (.ix (.v 0) (.i 3)) (.i 1)) (.one (.not (.call 1 (.cons (.v 0) .nil)))))) (.cons (.ret (.b false)) .nil) .nil) (.cons (.ret (.bi .all (.cons (.lc .rng1 (.cons (.i 3) .nil) (.nm 2) .nil (.cmp .eq (.op .mul (.ix (.v 0) (.v 2)) (.ix (.v 1) (.i 3))) (.op .mul (.ix (.v 1) (.v 2)) (.ix (.v 0) (.i 3)))) [("j", 2)]) .nil))) .nil))
def F_law_right_6 : List D → R D := den (sel [F_law_tuple, F_law_lowest]) fuel 3 m_law_right_6
def m_law_10 : Ss := (.cons (.forr .rng1 (.cons (.bi .max2 (.cons (.i 3) (.cons (.bi .len (.cons (.v 0) .nil)) .nil))) .nil) (.nm 1) (.cons (.setN 2 (.lc .rng1 (.cons (.i 4) .nil) (.nm 3) .nil (.call 0 (.cons (.call 1 (.cons (.v 0) (.cons (.op .add (.op .mul (.i 4) (.v 1)) (.v 3)) .nil))) .nil)) [("j", 3)])) (.frz 2 (.cons (.set 4 (.op .fdiv (.call 1 (.cons (.v 0) (.cons (.op .mul (.i 4) (.v 1)) .nil))) (.i 8))) (.cons (.iff (.cmp .eq (.op .mod (.v 4) (.i 3)) (.i 1)) (.cons (.setN 2 (.lc .seq (.cons (.v 2) .nil) (.nm 5) .nil (.op .mul (.op .mod (.v 5) (.op .pow (.i 10) (.i 20))) (.op .add (.op .mod (.op .fdiv (.v 4) (.i 3)) (.i 1000)) (.i 1))) [("number", 5)])) (.frz 2 .nil)) .nil) (.cons (.unp [6, 7] (.call 2 (.cons (.v 2) .nil))) (.cons (.iff (.or (.cmp .ne (.v 7) (.cmp .eq (.ix (.v 2) (.i 3)) (.i 0))) (.one (.and (.not (.v 7)) (.one (.not (.call 3 (.cons (.v 6) (.cons (.v 2) .nil)))))))) (.cons (.ret (.b false)) .nil) .nil) (.cons (.iff (.not (.call 3 (.cons (.call 4 (.cons (.ix (.v 2) (.i 0)) (.cons (.ix (.v 2) (.i 1)) (.cons (.ix (.v 2) (.i 2)) .nil)))) (.cons (.op .add (.sl (.v 2) .nil (.cons (.i 3) .nil)) (.lst (.cons (.i 1) .nil))) .nil)))) (.cons (.ret (.b false)) .nil) .nil) (.cons (.iff (.and (.cmp .notN (.v 6) .non) (.one (.cmp .ne (.call 5 (.cons (.ix (.v 2) (.i 0)) (.cons (.ix (.v 2) (.i 1)) (.cons (.ix (.v 2) (.i 2)) (.cons (.ix (.v 2) (.i 3)) .nil))))) (.v 6)))) (.cons (.ret (.b false)) .nil) .nil) .nil))))))))) (.cons (.ret (.b true)) .nil))
def F_law_10 : List D → R D := den (sel [F_law_int, F_law_number, F_law_asked_5, F_law_right_6, F_made_spot_d3, F_made_spot]) fuel 8 m_law_10
def m_fraction : Ss := (.cons (.iff (.cmp .eq (.v 1) (.i 0)) (.cons (.raise 1) .nil) .nil) (.cons (.set 2 (.call 0 (.cons (.v 0) (.cons (.v 1) .nil)))) (.cons (.iff (.cmp .lt (.v 1) (.i 0)) (.cons (.set 2 (.op .sub (.i 0) (.v 2))) .nil) .nil) (.cons (.ret (.tup (.cons (.op .fdiv (.v 0) (.v 2)) (.cons (.op .fdiv (.v 1) (.v 2)) .nil)))) .nil))))
def F_fraction : List D → R D := den (sel [F_divisor]) fuel 3 m_fraction
def F_fraction_d1 : List D → R D := fun ds => F_fraction (ds ++ ([1] : List Int).map PyData.int)
def m_law_spot : Ss := (.cons (.setN 2 (.lc .rng1 (.cons (.i 3) .nil) (.nm 3) .nil (.call 0 (.cons (.call 1 (.cons (.v 0) (.cons (.op .add (.v 1) (.v 3)) .nil))) .nil)) [("j", 3)])) (.frz 2 (.cons (.set 4 (.i 1)) (.cons (.iff (.cmp .eq (.op .mod (.call 1 (.cons (.v 0) (.cons (.op .add (.v 1) (.i 3)) .nil))) (.i 2)) (.i 1)) (.cons (.set 4 (.op .add (.i 1) (.op .mod (.bi .abs (.cons (.call 0 (.cons (.op .fdiv (.call 1 (.cons (.v 0) (.cons (.op .add (.v 1) (.i 3)) .nil))) (.i 2)) .nil)) .nil)) (.op .sub (.op .pow (.i 10) (.i 30)) (.i 1))))) .nil) .nil) (.cons (.set 5 (.v 4)) (.cons (.forr .seq (.cons (.v 2) .nil) (.nm 6) (.cons (.set 5 (.call 2 (.cons (.v 5) (.cons (.v 6) .nil)))) .nil)) (.cons (.ret (.tup (.cons (.op .fdiv (.ix (.v 2) (.i 0)) (.v 5)) (.cons (.op .fdiv (.ix (.v 2) (.i 1)) (.v 5)) (.cons (.op .fdiv (.ix (.v 2) (.i 2)) (.v 5)) (.cons (.op .fdiv (.v 4) (.v 5)) .nil)))))) .nil)))))))
def F_law_spot : List D → R D := den (sel [F_law_int, F_law_number, F_law_divisor]) fuel 7 m_law_spot
def m_shared_spot : Ss := (.cons (.set 3 (.op .mul (.ix (.v 1) (.i 3)) (.op .sub (.ix (.v 2) (.i 1)) (.ix (.v 2) (.i 0))))) (.cons (.set 4 (.op .mul (.ix (.v 0) (.i 3)) (.ix (.v 2) (.i 0)))) (.cons (.ret (.call 0 (.cons (.op .add (.op .mul (.ix (.v 0) (.i 0)) (.v 3)) (.op .mul (.ix (.v 1) (.i 0)) (.v 4))) (.cons (.op .add (.op .mul (.ix (.v 0) (.i 1)) (.v 3)) (.op .mul (.ix (.v 1) (.i 1)) (.v 4))) (.cons (.op .add (.op .mul (.ix (.v 0) (.i 2)) (.v 3)) (.op .mul (.ix (.v 1) (.i 2)) (.v 4))) (.cons (.op .mul (.op .mul (.ix (.v 0) (.i 3)) (.ix (.v 1) (.i 3))) (.ix (.v 2) (.i 1))) .nil)))))) .nil)))
def F_shared_spot : List D → R D := den (sel [F_made_spot]) fuel 5 m_shared_spot
def m_law_share : Ss := (.cons (.set 1 (.op .mod (.v 0) (.i 8))) (.cons (.set 0 (.op .fdiv (.v 0) (.i 8))) (.cons (.iff (.cmp .lt (.v 1) (.i 4)) (.cons (.ret (.ix (.lst (.cons (.tup (.cons (.i 0) (.cons (.i 1) .nil))) (.cons (.tup (.cons (.i 1) (.cons (.i 1) .nil))) (.cons (.tup (.cons (.i 1) (.cons (.i 2) .nil))) (.cons (.tup (.cons (.neg (.i 1)) (.cons (.i 3) .nil))) .nil))))) (.v 1))) .nil) .nil) (.cons (.iff (.cmp .eq (.v 1) (.i 4)) (.cons (.par 2 3 (.op .sub (.op .mod (.v 0) (.i 41)) (.i 20)) (.op .add (.i 1) (.op .mod (.op .fdiv (.v 0) (.i 41)) (.i 12)))) .nil) (.cons (.iff (.cmp .eq (.v 1) (.i 5)) (.cons (.par 2 3 (.op .add (.i 1) (.op .mod (.v 0) (.i 11))) (.i 12)) .nil) (.cons (.par 2 3 (.op .sub (.op .mod (.v 0) (.op .add (.op .mul (.i 2) (.op .pow (.i 10) (.i 12))) (.i 1))) (.op .pow (.i 10) (.i 12))) (.op .add (.i 1) (.op .mod (.op .fdiv (.v 0) (.i 7)) (.op .pow (.i 10) (.i 12))))) .nil)) .nil)) (.cons (.set 4 (.call 0 (.cons (.v 2) (.cons (.v 3) .nil)))) (.cons (.ret (.tup (.cons (.op .fdiv (.v 2) (.v 4)) (.cons (.op .fdiv (.v 3) (.v 4)) .nil)))) .nil))))))
def F_law_share : List D → R D := den (sel [F_law_divisor]) fuel 5 m_law_share
def m_law_right_2 : Ss := (.cons (.iff (.or (.not (.call 0 (.cons (.v 0) (.cons (.i 4) .nil)))) (.or (.cmp .lt (.ix (.v 0) (.i 3)) (.i 1)) (.one (.not (.call 1 (.cons (.v 0) .nil)))))) (.cons (.ret (.b false)) .nil) .nil) (.cons (.set 4 (.op .mul (.op .mul (.ix (.v 1) (.i 3)) (.ix (.v 2) (.i 3))) (.ix (.v 3) (.i 1)))) (.cons (.forr .rng1 (.cons (.i 3) .nil) (.nm 5) (.cons (.set 6 (.op .mul (.op .mul (.ix (.v 1) (.v 5)) (.ix (.v 2) (.i 3))) (.op .sub (.ix (.v 3) (.i 1)) (.ix (.v 3) (.i 0))))) (.cons (.set 6 (.op .add (.v 6) (.op .mul (.op .mul (.ix (.v 2) (.v 5)) (.ix (.v 1) (.i 3))) (.ix (.v 3) (.i 0))))) (.cons (.iff (.cmp .ne (.op .mul (.ix (.v 0) (.v 5)) (.v 4)) (.op .mul (.ix (.v 0) (.i 3)) (.v 6))) (.cons (.ret (.b false)) .nil) .nil) .nil)))) (.cons (.ret (.b true)) .nil))))
def F_law_right_2 : List D → R D := den (sel [F_law_tuple, F_law_lowest]) fuel 7 m_law_right_2
def m_law_4 : Ss := (.cons (.forr .rng1 (.cons (.bi .max2 (.cons (.i 3) (.cons (.bi .len (.cons (.v 0) .nil)) .nil))) .nil) (.nm 1) (.cons (.set 2 (.call 0 (.cons (.v 0) (.cons (.op .mul (.i 9) (.v 1)) .nil)))) (.cons (.set 3 (.call 0 (.cons (.v 0) (.cons (.op .add (.op .mul (.i 9) (.v 1)) (.i 4)) .nil)))) (.cons (.set 4 (.call 1 (.cons (.v 0) (.cons (.op .add (.op .mul (.i 9) (.v 1)) (.i 8)) .nil)))) (.cons (.iff (.cmp .eq (.op .mod (.v 4) (.i 7)) (.i 3)) (.cons (.set 3 (.v 2)) .nil) .nil) (.cons (.set 5 (.call 2 (.cons (.op .fdiv (.v 4) (.i 7)) .nil))) (.cons (.iff (.not (.call 3 (.cons (.call 4 (.cons (.v 2) (.cons (.v 3) (.cons (.v 5) .nil)))) (.cons (.v 2) (.cons (.v 3) (.cons (.v 5) .nil)))))) (.cons (.ret (.b false)) .nil) .nil) (.cons (.iff (.or (.cmp .ne (.call 4 (.cons (.v 2) (.cons (.v 3) (.cons (.tup (.cons (.i 0) (.cons (.i 1) .nil))) .nil)))) (.v 2)) (.one (.cmp .ne (.call 4 (.cons (.v 2) (.cons (.v 3) (.cons (.tup (.cons (.i 1) (.cons (.i 1) .nil))) .nil)))) (.v 3)))) (.cons (.ret (.b false)) .nil) .nil) .nil)))))))) (.cons (.ret (.b true)) .nil))
def F_law_4 : List D → R D := den (sel [F_law_spot, F_law_number, F_law_share, F_law_right_2, F_shared_spot]) fuel 6 m_law_4
def m_law_made : Ss := (.cons (.set 2 (.v 1)) (.cons (.forr .seq (.cons (.v 0) .nil) (.nm 3) (.cons (.set 2 (.call 0 (.cons (.v 2) (.cons (.v 3) .nil)))) .nil)) (.cons (.ret (.tup (.cons (.op .fdiv (.ix (.v 0) (.i 0)) (.v 2)) (.cons (.op .fdiv (.ix (.v 0) (.i 1)) (.v 2)) (.cons (.op .fdiv (.ix (.v 0) (.i 2)) (.v 2)) (.cons (.op .fdiv (.v 1) (.v 2)) .nil)))))) .nil)))
def F_law_made : List D → R D := den (sel [F_law_divisor]) fuel 4 m_law_made
end Bs
section
namespace Bs
open PySem PySem.Spec L2
open PyProof.Rows hiding St
local macro_rules | `(tactic| walk_at "side") => `(tactic| first | assumption | decide | omega)
local macro_rules | `(tactic| walk_at "bdt") => `(tactic| first
  | assumption
  | (with_reducible apply bd_mul <;> walk_at "bdt")
  | (with_reducible apply bd_add <;> walk_at "bdt")
  | (with_reducible apply bd_sub <;> walk_at "bdt")
  | (with_reducible apply bd_neg <;> walk_at "bdt")
  | (with_reducible apply bd_fdiv <;> walk_at "bdt")
  | (with_reducible apply bd_iteP <;> walk_at "bdt")
  | (with_reducible apply bd_fmod <;> first | walk_at "side" | walk_at "bdt")
  | exact bd_self)
local macro_rules | `(tactic| walk_at "dis") => `(tactic| first
  | assumption
  | (with_reducible apply mulOk; (focus walk_at "bdt"); (focus walk_at "bdt"); decide +kernel)
  | (with_reducible apply divOk; (focus walk_at "side"); (focus walk_at "bdt"); decide +kernel)
  | (with_reducible apply bd_in; (focus walk_at "bdt"); decide +kernel)
  | decide | omega | (simp only [List.length_cons, List.length_nil, List.length_map]; omega))
local macro_rules | `(tactic| walk_at "ev") => `(tactic| simp (disch := walk_at "dis") only [startS, List.map_cons, List.map_nil, List.length_cons, List.length_nil, Nat.reduceAdd, Nat.reduceSub, Nat.zero_add, List.replicate, List.cons_append, List.nil_append,
  WB_nil, WB_cons, WB_frz, WS_pass, WS_ret, WS_retN, WS_set, WS_for, valI_rng1E, valI_rng2E, valI_seqE, valI_enumE, valI_zipE, bind_iters, lpc_nx, lpc_ct, lpc_bk, lpc_rt, lpc_ex, LP_cons_nm, LP_nilE, WS_stI, STI_some, WS_stS, STS_some, sts1_app, sts2_app, List.drop_succ_cons, List.drop_zero, stk1_app, stk2_app, stL_zero, stL_succ, WS_setN, newS_def, lsOf_list, ownk_app, WS_appE, ownAt_zero, ownAt_succ, APP_some, appk_app, bi_listL, bi_listT, bi_tupL, WS_unp, unp_sat, WS_par, WS_exs, WS_iff, WS_raise, WS_brk, WS_cont, RP_ok, RP_exc, only_nx, only_rt, only_bk, only_ct, only_ex, onlyL_nx, onlyL_rt, onlyL_bk, onlyL_ct, onlyL_ex, mid_nx, mid_rt, mid_bk, mid_ct, mid_ex, lp_nx, lp_rt, lp_bk, lp_ct, lp_ex, then_nx, then_rt, then_bk, then_ct, then_ex, setk_app, ownk_app, exk_app, ifk_app, unpk_app, nxk_app, lpk_app, par2_app, par1_app, R.bind_ok, R.bind_exc, valS_def, lfree_int, lfree_bool, lfree_str, lfree_none, lfree_tup, lfree_list, lfrees_nil, lfrees_cons, Bool.and_true, Bool.true_and, Bool.true_or, Bool.or_true, Bool.false_or, Bool.or_false, if_true, if_false, ite_true, ite_false, if_pos,
  setAllS, set_zero, set_succ, fullE_nil, fullE_cons, full_fr, full_ow, full_un, cleanE_nil, cleanE_cons, clean_fr, clean_ow, clean_un, noOwn_nil, noOwn_fr, noOwn_un, noOwn_ow, frz_zero, frz_succ, frz_zero_fr, frz_zero_un, getE_zero, getE_succ, sel_zero, sel_succ, ofB_bool,
  evE, evEs, bop_add, bop_sub, bop_mulE, bop_fdivE, bop_mod, bop_powE, bop_addL, cop_lt, cop_le, cop_gt, cop_ge, cop_eqI, cop_neI, cop_eqB, cop_neB, cop_neLi0, cop_eqLi0, cop_eqT2, cop_neT2, cop_eqT4, cop_neT4, ix_Li, ix0, ix1, ix2, ix3, ixL0, ixL1, ixL2, ixL3, iters_list, iters_tup, iters_enum, iters_rng1, asg_nm, wipe_nil, wipe_cons, tst_nil, tst_one, noX_ok, lcD_lit, compL_nil, compL_cons, partD_nil, partD_one, slop_T4_3, slop_L4_3, List.sum_cons, List.sum_nil, cop_eqL3, cop_neL2, cop_eqL1n, cop_eqL2n, cop_eqL3n, rngD_0, rngD_1, rngD_2, rngD_3, rngD_4, rngD_5, iters_rng2_13, iters_rng2_23, iters_rng2_33, bi_max1E, maxL_cons, Option.toList, List.append_nil, optB_some, bi_allE, boolsD_nil, boolsD_cons, boolsD_map, optI_some, bi_sumE, intsD_nil, intsD_cons, intsD_map, Option.map_some, Option.toList_some, Option.toList_none, setE_zero, setE_succ, List.all_cons, List.all_nil, id, Int.reduceToNat, Int.cast_ofNat_Int, ite_okB, ite_self, Bool.if_true_left, Bool.if_true_right, Bool.if_false_left, Bool.if_false_right, Bool.and_eq_true, Bool.or_eq_true, Bool.or_eq_false_iff, Bool.and_eq_false_iff, beq_self_eq_true, Bool.true_eq_false, not_true_eq_false, not_false_eq_true, decide_true, decide_false,  isi_int_int, isi_bool_int, isi_bool_bool, isi_tup_tup, List.length_map, bi_len, bi_lenT, bi_abs, bi_max2, bi_min2, bi_intB, bi_intI, decide_eq_true_eq, decide_eq_false_iff_not, Bool.not_eq_true', Bool.not_eq_false', Bool.not_eq_true, Bool.not_true, Bool.not_false, ne_eq, Bool.false_eq_true, false_implies, true_implies, and_true, true_and, false_and, and_false, imp_false, implies_true])
local macro_rules | `(tactic| walk_at "es") => `(tactic| simp (disch := walk_at "dis") only [startS, List.map_cons, List.map_nil, List.length_cons, List.length_nil, Nat.reduceAdd, Nat.reduceSub, Nat.zero_add, List.replicate, List.cons_append, List.nil_append,
  WB_nil, WB_cons, WB_frz, WS_pass, WS_ret, WS_retN, WS_set, WS_for, valI_rng1E, valI_rng2E, valI_seqE, valI_enumE, valI_zipE, bind_iters, lpc_nx, lpc_ct, lpc_bk, lpc_rt, lpc_ex, LP_cons_nm, LP_nilE, WS_stI, STI_some, WS_stS, STS_some, sts1_app, sts2_app, List.drop_succ_cons, List.drop_zero, stk1_app, stk2_app, stL_zero, stL_succ, WS_setN, newS_def, lsOf_list, ownk_app, WS_appE, ownAt_zero, ownAt_succ, APP_some, appk_app, bi_listL, bi_listT, bi_tupL, WS_unp, unp_sat, WS_par, WS_exs, WS_raise, WS_brk, WS_cont, RP_ok, RP_exc, only_nx, only_rt, only_bk, only_ct, only_ex, onlyL_nx, onlyL_rt, onlyL_bk, onlyL_ct, onlyL_ex, mid_nx, mid_rt, mid_bk, mid_ct, mid_ex, lp_nx, lp_rt, lp_bk, lp_ct, lp_ex, then_nx, then_rt, then_bk, then_ct, then_ex, setk_app, ownk_app, exk_app, ifk_app, unpk_app, nxk_app, lpk_app, par2_app, par1_app, R.bind_ok, R.bind_exc, valS_def, lfree_int, lfree_bool, lfree_str, lfree_none, lfree_tup, lfree_list, lfrees_nil, lfrees_cons, Bool.and_true, Bool.true_and, Bool.true_or, Bool.or_true, Bool.false_or, Bool.or_false, if_true, if_false, ite_true, ite_false, if_pos,
  setAllS, set_zero, set_succ, fullE_nil, fullE_cons, full_fr, full_ow, full_un, cleanE_nil, cleanE_cons, clean_fr, clean_ow, clean_un, noOwn_nil, noOwn_fr, noOwn_un, noOwn_ow, frz_zero, frz_succ, frz_zero_fr, frz_zero_un, getE_zero, getE_succ, sel_zero, sel_succ, ofB_bool,
  evE, evEs, bop_add, bop_sub, bop_mulE, bop_fdivE, bop_mod, bop_powE, bop_addL, cop_lt, cop_le, cop_gt, cop_ge, cop_eqI, cop_neI, cop_eqB, cop_neB, cop_neLi0, cop_eqLi0, cop_eqT2, cop_neT2, cop_eqT4, cop_neT4, ix_Li, ix0, ix1, ix2, ix3, ixL0, ixL1, ixL2, ixL3, iters_list, iters_tup, iters_enum, iters_rng1, asg_nm, wipe_nil, wipe_cons, tst_nil, tst_one, noX_ok, lcD_lit, compL_nil, compL_cons, partD_nil, partD_one, slop_T4_3, slop_L4_3, List.sum_cons, List.sum_nil, cop_eqL3, cop_neL2, cop_eqL1n, cop_eqL2n, cop_eqL3n, rngD_0, rngD_1, rngD_2, rngD_3, rngD_4, rngD_5, iters_rng2_13, iters_rng2_23, iters_rng2_33, bi_max1E, maxL_cons, Option.toList, List.append_nil, optB_some, bi_allE, boolsD_nil, boolsD_cons, boolsD_map, optI_some, bi_sumE, intsD_nil, intsD_cons, intsD_map, Option.map_some, Option.toList_some, Option.toList_none, setE_zero, setE_succ, List.all_cons, List.all_nil, id, Int.reduceToNat, Int.cast_ofNat_Int, ite_okB, ite_self, Bool.if_true_left, Bool.if_true_right, Bool.if_false_left, Bool.if_false_right, Bool.and_eq_true, Bool.or_eq_true, Bool.or_eq_false_iff, Bool.and_eq_false_iff, beq_self_eq_true, Bool.true_eq_false, not_true_eq_false, not_false_eq_true, decide_true, decide_false,  isi_int_int, isi_bool_int, isi_bool_bool, isi_tup_tup, List.length_map, bi_len, bi_lenT, bi_abs, bi_max2, bi_min2, bi_intB, bi_intI, decide_eq_true_eq, decide_eq_false_iff_not, Bool.not_eq_true', Bool.not_eq_false', Bool.not_eq_true, Bool.not_true, Bool.not_false, ne_eq, Bool.false_eq_true, false_implies, true_implies, and_true, true_and, false_and, and_false, imp_false, implies_true])
local macro_rules | `(tactic| walk_at "evh") => `(tactic| simp (disch := walk_at "dis") only [startS, List.map_cons, List.map_nil, List.length_cons, List.length_nil, Nat.reduceAdd, Nat.reduceSub, Nat.zero_add, List.replicate, List.cons_append, List.nil_append,
  WB_nil, WB_cons, WB_frz, WS_pass, WS_ret, WS_retN, WS_set, WS_for, valI_rng1E, valI_rng2E, valI_seqE, valI_enumE, valI_zipE, bind_iters, lpc_nx, lpc_ct, lpc_bk, lpc_rt, lpc_ex, LP_cons_nm, LP_nilE, WS_stI, STI_some, WS_stS, STS_some, sts1_app, sts2_app, List.drop_succ_cons, List.drop_zero, stk1_app, stk2_app, stL_zero, stL_succ, WS_setN, newS_def, lsOf_list, ownk_app, WS_appE, ownAt_zero, ownAt_succ, APP_some, appk_app, bi_listL, bi_listT, bi_tupL, WS_unp, unp_sat, WS_par, WS_exs, WS_iff, WS_raise, WS_brk, WS_cont, RP_ok, RP_exc, only_nx, only_rt, only_bk, only_ct, only_ex, onlyL_nx, onlyL_rt, onlyL_bk, onlyL_ct, onlyL_ex, mid_nx, mid_rt, mid_bk, mid_ct, mid_ex, lp_nx, lp_rt, lp_bk, lp_ct, lp_ex, then_nx, then_rt, then_bk, then_ct, then_ex, setk_app, ownk_app, exk_app, ifk_app, unpk_app, nxk_app, lpk_app, par2_app, par1_app, R.bind_ok, R.bind_exc, valS_def, lfree_int, lfree_bool, lfree_str, lfree_none, lfree_tup, lfree_list, lfrees_nil, lfrees_cons, Bool.and_true, Bool.true_and, Bool.true_or, Bool.or_true, Bool.false_or, Bool.or_false, if_true, if_false, ite_true, ite_false, if_pos,
  setAllS, set_zero, set_succ, fullE_nil, fullE_cons, full_fr, full_ow, full_un, cleanE_nil, cleanE_cons, clean_fr, clean_ow, clean_un, noOwn_nil, noOwn_fr, noOwn_un, noOwn_ow, frz_zero, frz_succ, frz_zero_fr, frz_zero_un, getE_zero, getE_succ, sel_zero, sel_succ, ofB_bool,
  evE, evEs, bop_add, bop_sub, bop_mulE, bop_fdivE, bop_mod, bop_powE, bop_addL, cop_lt, cop_le, cop_gt, cop_ge, cop_eqI, cop_neI, cop_eqB, cop_neB, cop_neLi0, cop_eqLi0, cop_eqT2, cop_neT2, cop_eqT4, cop_neT4, ix_Li, ix0, ix1, ix2, ix3, ixL0, ixL1, ixL2, ixL3, iters_list, iters_tup, iters_enum, iters_rng1, asg_nm, wipe_nil, wipe_cons, tst_nil, tst_one, noX_ok, lcD_lit, compL_nil, compL_cons, partD_nil, partD_one, slop_T4_3, slop_L4_3, List.sum_cons, List.sum_nil, cop_eqL3, cop_neL2, cop_eqL1n, cop_eqL2n, cop_eqL3n, rngD_0, rngD_1, rngD_2, rngD_3, rngD_4, rngD_5, iters_rng2_13, iters_rng2_23, iters_rng2_33, bi_max1E, maxL_cons, Option.toList, List.append_nil, optB_some, bi_allE, boolsD_nil, boolsD_cons, boolsD_map, optI_some, bi_sumE, intsD_nil, intsD_cons, intsD_map, Option.map_some, Option.toList_some, Option.toList_none, setE_zero, setE_succ, List.all_cons, List.all_nil, id, Int.reduceToNat, Int.cast_ofNat_Int, ite_okB, ite_self, Bool.if_true_left, Bool.if_true_right, Bool.if_false_left, Bool.if_false_right, Bool.and_eq_true, Bool.or_eq_true, Bool.or_eq_false_iff, Bool.and_eq_false_iff, beq_self_eq_true, Bool.true_eq_false, not_true_eq_false, not_false_eq_true, decide_true, decide_false,  isi_int_int, isi_bool_int, isi_bool_bool, isi_tup_tup, List.length_map, bi_len, bi_lenT, bi_abs, bi_max2, bi_min2, bi_intB, bi_intI, decide_eq_true_eq, decide_eq_false_iff_not, Bool.not_eq_true', Bool.not_eq_false', Bool.not_eq_true, Bool.not_true, Bool.not_false, ne_eq, Bool.false_eq_true, false_implies, true_implies, and_true, true_and, false_and, and_false, imp_false, implies_true, *])
local macro_rules | `(tactic| walk_at "esh") => `(tactic| simp (disch := walk_at "dis") only [startS, List.map_cons, List.map_nil, List.length_cons, List.length_nil, Nat.reduceAdd, Nat.reduceSub, Nat.zero_add, List.replicate, List.cons_append, List.nil_append,
  WB_nil, WB_cons, WB_frz, WS_pass, WS_ret, WS_retN, WS_set, WS_for, valI_rng1E, valI_rng2E, valI_seqE, valI_enumE, valI_zipE, bind_iters, lpc_nx, lpc_ct, lpc_bk, lpc_rt, lpc_ex, LP_cons_nm, LP_nilE, WS_stI, STI_some, WS_stS, STS_some, sts1_app, sts2_app, List.drop_succ_cons, List.drop_zero, stk1_app, stk2_app, stL_zero, stL_succ, WS_setN, newS_def, lsOf_list, ownk_app, WS_appE, ownAt_zero, ownAt_succ, APP_some, appk_app, bi_listL, bi_listT, bi_tupL, WS_unp, unp_sat, WS_par, WS_exs, WS_raise, WS_brk, WS_cont, RP_ok, RP_exc, only_nx, only_rt, only_bk, only_ct, only_ex, onlyL_nx, onlyL_rt, onlyL_bk, onlyL_ct, onlyL_ex, mid_nx, mid_rt, mid_bk, mid_ct, mid_ex, lp_nx, lp_rt, lp_bk, lp_ct, lp_ex, then_nx, then_rt, then_bk, then_ct, then_ex, setk_app, ownk_app, exk_app, ifk_app, unpk_app, nxk_app, lpk_app, par2_app, par1_app, R.bind_ok, R.bind_exc, valS_def, lfree_int, lfree_bool, lfree_str, lfree_none, lfree_tup, lfree_list, lfrees_nil, lfrees_cons, Bool.and_true, Bool.true_and, Bool.true_or, Bool.or_true, Bool.false_or, Bool.or_false, if_true, if_false, ite_true, ite_false, if_pos,
  setAllS, set_zero, set_succ, fullE_nil, fullE_cons, full_fr, full_ow, full_un, cleanE_nil, cleanE_cons, clean_fr, clean_ow, clean_un, noOwn_nil, noOwn_fr, noOwn_un, noOwn_ow, frz_zero, frz_succ, frz_zero_fr, frz_zero_un, getE_zero, getE_succ, sel_zero, sel_succ, ofB_bool,
  evE, evEs, bop_add, bop_sub, bop_mulE, bop_fdivE, bop_mod, bop_powE, bop_addL, cop_lt, cop_le, cop_gt, cop_ge, cop_eqI, cop_neI, cop_eqB, cop_neB, cop_neLi0, cop_eqLi0, cop_eqT2, cop_neT2, cop_eqT4, cop_neT4, ix_Li, ix0, ix1, ix2, ix3, ixL0, ixL1, ixL2, ixL3, iters_list, iters_tup, iters_enum, iters_rng1, asg_nm, wipe_nil, wipe_cons, tst_nil, tst_one, noX_ok, lcD_lit, compL_nil, compL_cons, partD_nil, partD_one, slop_T4_3, slop_L4_3, List.sum_cons, List.sum_nil, cop_eqL3, cop_neL2, cop_eqL1n, cop_eqL2n, cop_eqL3n, rngD_0, rngD_1, rngD_2, rngD_3, rngD_4, rngD_5, iters_rng2_13, iters_rng2_23, iters_rng2_33, bi_max1E, maxL_cons, Option.toList, List.append_nil, optB_some, bi_allE, boolsD_nil, boolsD_cons, boolsD_map, optI_some, bi_sumE, intsD_nil, intsD_cons, intsD_map, Option.map_some, Option.toList_some, Option.toList_none, setE_zero, setE_succ, List.all_cons, List.all_nil, id, Int.reduceToNat, Int.cast_ofNat_Int, ite_okB, ite_self, Bool.if_true_left, Bool.if_true_right, Bool.if_false_left, Bool.if_false_right, Bool.and_eq_true, Bool.or_eq_true, Bool.or_eq_false_iff, Bool.and_eq_false_iff, beq_self_eq_true, Bool.true_eq_false, not_true_eq_false, not_false_eq_true, decide_true, decide_false,  isi_int_int, isi_bool_int, isi_bool_bool, isi_tup_tup, List.length_map, bi_len, bi_lenT, bi_abs, bi_max2, bi_min2, bi_intB, bi_intI, decide_eq_true_eq, decide_eq_false_iff_not, Bool.not_eq_true', Bool.not_eq_false', Bool.not_eq_true, Bool.not_true, Bool.not_false, ne_eq, Bool.false_eq_true, false_implies, true_implies, and_true, true_and, false_and, and_false, imp_false, implies_true, *])
local macro_rules | `(tactic| walk_at "eslh") => `(tactic| simp (disch := walk_at "dis") only [startS, List.map_cons, List.map_nil, List.length_cons, List.length_nil, Nat.reduceAdd, Nat.reduceSub, Nat.zero_add, List.replicate, List.cons_append, List.nil_append,
  WB_nil, WB_cons, WB_frz, WS_pass, WS_ret, WS_retN, WS_set, WS_for, valI_rng1E, valI_rng2E, valI_seqE, valI_enumE, valI_zipE, bind_iters, lpc_nx, lpc_ct, lpc_bk, lpc_rt, lpc_ex, WS_stI, STI_some, WS_stS, STS_some, sts1_app, sts2_app, List.drop_succ_cons, List.drop_zero, stk1_app, stk2_app, stL_zero, stL_succ, WS_setN, newS_def, lsOf_list, ownk_app, WS_appE, ownAt_zero, ownAt_succ, APP_some, appk_app, bi_listL, bi_listT, bi_tupL, WS_unp, unp_sat, WS_par, WS_exs, WS_raise, WS_brk, WS_cont, RP_ok, RP_exc, only_nx, only_rt, only_bk, only_ct, only_ex, onlyL_nx, onlyL_rt, onlyL_bk, onlyL_ct, onlyL_ex, mid_nx, mid_rt, mid_bk, mid_ct, mid_ex, lp_nx, lp_rt, lp_bk, lp_ct, lp_ex, then_nx, then_rt, then_bk, then_ct, then_ex, setk_app, ownk_app, exk_app, ifk_app, unpk_app, nxk_app, lpk_app, par2_app, par1_app, R.bind_ok, R.bind_exc, valS_def, lfree_int, lfree_bool, lfree_str, lfree_none, lfree_tup, lfree_list, lfrees_nil, lfrees_cons, Bool.and_true, Bool.true_and, Bool.true_or, Bool.or_true, Bool.false_or, Bool.or_false, if_true, if_false, ite_true, ite_false, if_pos,
  setAllS, set_zero, set_succ, fullE_nil, fullE_cons, full_fr, full_ow, full_un, cleanE_nil, cleanE_cons, clean_fr, clean_ow, clean_un, noOwn_nil, noOwn_fr, noOwn_un, noOwn_ow, frz_zero, frz_succ, frz_zero_fr, frz_zero_un, getE_zero, getE_succ, sel_zero, sel_succ, ofB_bool,
  evE, evEs, bop_add, bop_sub, bop_mulE, bop_fdivE, bop_mod, bop_powE, bop_addL, cop_lt, cop_le, cop_gt, cop_ge, cop_eqI, cop_neI, cop_eqB, cop_neB, cop_neLi0, cop_eqLi0, cop_eqT2, cop_neT2, cop_eqT4, cop_neT4, ix_Li, ix0, ix1, ix2, ix3, ixL0, ixL1, ixL2, ixL3, iters_list, iters_tup, iters_enum, iters_rng1, asg_nm, wipe_nil, wipe_cons, tst_nil, tst_one, noX_ok, lcD_lit, compL_nil, compL_cons, partD_nil, partD_one, slop_T4_3, slop_L4_3, List.sum_cons, List.sum_nil, cop_eqL3, cop_neL2, cop_eqL1n, cop_eqL2n, cop_eqL3n, rngD_0, rngD_1, rngD_2, rngD_3, rngD_4, rngD_5, iters_rng2_13, iters_rng2_23, iters_rng2_33, bi_max1E, maxL_cons, Option.toList, List.append_nil, optB_some, bi_allE, boolsD_nil, boolsD_cons, boolsD_map, optI_some, bi_sumE, intsD_nil, intsD_cons, intsD_map, Option.map_some, Option.toList_some, Option.toList_none, setE_zero, setE_succ, List.all_cons, List.all_nil, id, Int.reduceToNat, Int.cast_ofNat_Int, ite_okB, ite_self, Bool.if_true_left, Bool.if_true_right, Bool.if_false_left, Bool.if_false_right, Bool.and_eq_true, Bool.or_eq_true, Bool.or_eq_false_iff, Bool.and_eq_false_iff, beq_self_eq_true, Bool.true_eq_false, not_true_eq_false, not_false_eq_true, decide_true, decide_false,  isi_int_int, isi_bool_int, isi_bool_bool, isi_tup_tup, List.length_map, bi_len, bi_lenT, bi_abs, bi_max2, bi_min2, bi_intB, bi_intI, decide_eq_true_eq, decide_eq_false_iff_not, Bool.not_eq_true', Bool.not_eq_false', Bool.not_eq_true, Bool.not_true, Bool.not_false, ne_eq, Bool.false_eq_true, false_implies, true_implies, and_true, true_and, false_and, and_false, imp_false, implies_true, *])
theorem bd_natAbs {n : Nat} {i : Int} (h : bd n i) : bd n (i.natAbs : Int) := h
theorem divisor_spec {a b : Int} (hb : bd 4000000 b) : F_divisor [.int a, .int b] = .ok (.int (Int.gcd a b)) := by
  unfold F_divisor
  refine den_of (· = _) ?_
  unfold m_divisor
  walk_at "ev"
  refine WS_whil (fun m e => ∃ x y : Nat, e = [.fr (.int x), .fr (.int y)] ∧ Nat.gcd x y = Int.gcd a b ∧ m = y) b.natAbs ⟨_, _, rfl, rfl, rfl⟩ (lt_fuel hb) ?_
  rintro m e ⟨x, y, rfl, hg, hm⟩
  subst hm
  walk_at "ev"
  refine ⟨fun h => ?_, fun h => ?_⟩
  · have hy : (m : Int) ≠ 0 := by omega
    walk_at "ev"
    refine ⟨x % m, Nat.mod_lt _ (by omega), m, x % m, ?_, ?_, rfl⟩
    · rw [Int.fmod_eq_emod_of_nonneg _ (by omega)]
      rfl
    · rw [← hg, Nat.gcd_comm x m, Nat.gcd_rec m x, Nat.gcd_comm]
  · have hy : m = 0 := by omega
    subst hy
    rw [Nat.gcd_zero_right] at hg
    rw [hg]
theorem law_divisor_spec {a b : Int} (hb : bd 4000000 b) : F_law_divisor [.int a, .int b] = .ok (.int (Int.gcd a b)) := divisor_spec hb
/-! ### fractions -/
def fBy (a b : Int) : Int := if b < 0 then 0 - (Int.gcd a b : Int) else (Int.gcd a b : Int)
def fTop (a b : Int) : Int := a.fdiv (fBy a b)
def fBot (a b : Int) : Int := b.fdiv (fBy a b)
theorem gcd_pos {a b : Int} (h : b ≠ 0) : 0 < Int.gcd a b := Int.gcd_pos_of_ne_zero_right a h
theorem bd_gcd {n : Nat} {a b : Int} (h : b ≠ 0) (hb : bd n b) : bd n (Int.gcd a b : Int) := by
  unfold bd at *
  have := Nat.le_of_dvd (by omega : 0 < b.natAbs) (Int.gcd_dvd_natAbs_right a b)
  simp only [Int.natAbs_natCast]
  omega
theorem fBy_ne {a b : Int} (h : b ≠ 0) : fBy a b ≠ 0 := by
  have := gcd_pos (a := a) h
  unfold fBy
  split <;> omega
theorem fraction_spec {a b : Int} (hb : bd 8000 b) : F_fraction [.int a, .int b] = if b = 0 then .exc 1 none else .ok (T2 (fTop a b) (fBot a b)) := by
  unfold F_fraction
  refine den_of (· = _) ?_
  unfold m_fraction
  have hg := divisor_spec (a := a) (hb.mono (by decide : 8000 ≤ 4000000))
  walk_at "ev"
  refine ⟨fun h => by rw [if_pos h], fun h => ?_⟩
  have hg2 := bd_gcd (a := a) h hb
  have hp := gcd_pos (a := a) h
  simp only [hg]
  walk_at "ev"
  refine ⟨fun h2 => ?_, fun h2 => ?_⟩
  · rw [if_neg h]
    unfold fTop fBot fBy
    rw [if_pos h2]
  · rw [if_neg h]
    unfold fTop fBot fBy
    rw [if_neg h2]
/-! what a fraction is -/
theorem gcd_div {a b : Int} (h : b ≠ 0) : ∃ x y : Int, a = x * Int.gcd a b ∧ b = y * Int.gcd a b ∧ Int.gcd x y = 1 := by
  have hp := gcd_pos (a := a) h
  obtain ⟨x, hx⟩ := Int.gcd_dvd_left a b
  obtain ⟨y, hy⟩ := Int.gcd_dvd_right a b
  refine ⟨x, y, by rw [Int.mul_comm]; exact hx, by rw [Int.mul_comm]; exact hy, ?_⟩
  have e : Int.gcd a b = Int.gcd a b * Int.gcd x y := by
    have := Int.gcd_mul_left (Int.gcd a b : Int) x y
    rw [← hx, ← hy] at this
    simpa using this
  exact Nat.eq_of_mul_eq_mul_left hp (by omega)
theorem fr_spec {a b : Int} (h : b ≠ 0) : 1 ≤ fBot a b ∧ Int.gcd (fTop a b) (fBot a b) = 1 ∧ fTop a b * b = a * fBot a b ∧ fTop a b * fBy a b = a ∧ fBot a b * fBy a b = b := by
  have hp := gcd_pos (a := a) h
  obtain ⟨x, y, hx, hy, hg⟩ := gcd_div (a := a) h
  have hy0 : y ≠ 0 := fun z => by rw [z, Int.zero_mul] at hy; exact h hy
  generalize hgg : Int.gcd a b = g at *
  have hg0 : (g : Int) ≠ 0 := by omega
  have ne : ∀ z : Int, z * (g : Int) < 0 ↔ z < 0 := fun z => by
    constructor
    · intro q
      apply Int.not_le.mp
      intro q2
      have := Int.mul_nonneg q2 (Int.natCast_nonneg g)
      omega
    · intro q
      exact Int.mul_neg_of_neg_of_pos q (by omega)
  by_cases hb : b < 0
  · have ey : fBy a b = -(g : Int) := by unfold fBy; rw [if_pos hb, hgg]; omega
    have et : fTop a b = -x := by
      unfold fTop
      rw [ey]
      have : a = (-x) * (-(g : Int)) := by rw [Int.neg_mul_neg]; exact hx
      rw [this]
      exact Int.mul_fdiv_cancel _ (by omega)
    have eb : fBot a b = -y := by
      unfold fBot
      rw [ey]
      have : b = (-y) * (-(g : Int)) := by rw [Int.neg_mul_neg]; exact hy
      rw [this]
      exact Int.mul_fdiv_cancel _ (by omega)
    have yn : y < 0 := (ne y).mp (by rw [← hy]; exact hb)
    rw [et, eb, ey]
    refine ⟨by omega, by rw [Int.neg_gcd, Int.gcd_neg]; exact hg, ?_, by rw [Int.neg_mul_neg]; exact hx.symm, by rw [Int.neg_mul_neg]; exact hy.symm⟩
    have h1 : a * -y = -(a * y) := Int.mul_neg a y
    have h2 : -x * b = -(x * b) := Int.neg_mul x b
    rw [h1, h2]
    congr 1
    calc x * b = x * (y * g) := by rw [← hy]
      _ = (x * g) * y := by rw [Int.mul_assoc, Int.mul_comm y]
      _ = a * y := by rw [← hx]
  · have ey : fBy a b = (g : Int) := by unfold fBy; rw [if_neg hb, hgg]
    have et : fTop a b = x := by
      unfold fTop
      rw [ey]
      conv => lhs; rw [hx]
      exact Int.mul_fdiv_cancel _ hg0
    have eb : fBot a b = y := by
      unfold fBot
      rw [ey]
      conv => lhs; rw [hy]
      exact Int.mul_fdiv_cancel _ hg0
    have yn : ¬ y < 0 := fun z => hb (by rw [hy]; exact (ne y).mpr z)
    rw [et, eb, ey]
    refine ⟨by omega, hg, ?_, hx.symm, hy.symm⟩
    calc x * b = x * (y * g) := by rw [← hy]
      _ = (x * g) * y := by rw [Int.mul_assoc, Int.mul_comm y]
      _ = a * y := by rw [← hx]
theorem bd_fTop {n : Nat} {a b : Int} (h : bd n a) : bd n (fTop a b) := bd_fdiv h
theorem bd_fBot {n : Nat} {a b : Int} (h : bd n b) : bd n (fBot a b) := bd_fdiv h
/-! ### drawn numbers -/
def outI : R D → Int
  | .ok (.int x) => x
  | _ => 0
def numb (ns : List Int) (k : Int) : Int := outI (F_law_number [Li ns, .int k])
theorem outI_of {r : R D} {P : Int → Prop} (h : ∃ x, r = .ok (.int x) ∧ P x) : r = .ok (.int (outI r)) ∧ P (outI r) := by
  obtain ⟨x, rfl, hp⟩ := h
  exact ⟨rfl, hp⟩
theorem law_number_ex {ns : List Int} {k : Int} (hl : ns.length ≤ 63) (h0 : 0 ≤ k) (h1 : k ≤ 100000) : ∃ x, F_law_number [Li ns, .int k] = .ok (.int x) ∧ (0 ≤ x ∧ x < 10 ^ 31) := by
  unfold F_law_number
  refine den_of (fun r => ∃ x, r = .ok (.int x) ∧ (0 ≤ x ∧ x < 10 ^ 31)) ?_
  unfold m_law_number
  walk_at "es"
  have bk : bd 17 k := by unfold bd; omega
  refine WS_mid (P := fun e => ∃ c t : Int, e = [.fr (Li ns), .fr (.int k), .fr (.int c), .fr (.int t), .un, .un, .un, .un] ∧ 0 ≤ t ∧ t ≤ k) ?_ ?_
  · have bl : bd 6 (ns.length : Int) := by unfold bd; omega
    walk_at "ev"
    refine ⟨fun hn => ?_, fun _ => ⟨0, k, rfl, h0, Int.le_refl _⟩⟩
    have hp : 0 < (ns.length : Int) := by
      cases ns with
      | nil => exact absurd rfl hn
      | cons => simp
    have hp' : (ns.length : Int) ≠ 0 := by omega
    have q0 : 0 ≤ k.fmod (ns.length : Int) := Int.fmod_nonneg_of_pos _ hp
    have q1 : k.fmod (ns.length : Int) < (ns.length : Int) := Int.fmod_lt_of_pos _ hp
    walk_at "ev"
    refine ⟨_, _, rfl, Int.fdiv_nonneg h0 (by omega), ?_⟩
    have := natAbs_fdiv_le k ns.length
    have := Int.fdiv_nonneg h0 (Int.le_of_lt hp)
    omega
  · rintro e ⟨c, t, rfl, ht0, ht1⟩
    walk_at "es"
    refine WS_mid (P := fun e => ∃ l j : Sl, e = [.fr (Li ns), .fr (.int k), .fr (.int c), .fr (.int t), l, j, .un, .un]) ?_ ?_
    · walk_at "ev"
      refine ⟨fun hc => ?_, fun _ => ⟨_, _, rfl⟩⟩
      refine LP_inv (fun _ e => ∃ (l : Int) (j : Sl), e = [.fr (Li ns), .fr (.int k), .fr (.int c), .fr (.int t), .fr (.int l), j, .un, .un]) 0 ⟨_, _, rfl⟩ ?_ ?_
      · rintro i x e hx ⟨l, j, rfl⟩
        refine ⟨_, tgS_nm, ?_⟩
        walk_at "ev"
        exact ⟨_, _, rfl⟩
      · rintro e ⟨l, j, rfl⟩
        walk_at "ev"
        refine ⟨fun h => ?_, fun h => ⟨_, _, rfl⟩⟩
        refine ⟨_, rfl, ?_, ?_⟩
        · exact Int.fmod_nonneg_of_pos _ (by decide)
        · exact Int.fmod_lt_of_pos _ (by decide)
    · rintro e ⟨l, j, rfl⟩
      walk_at "ev"
      exact ⟨_, rfl, Int.fmod_nonneg_of_pos _ (by decide), Int.fmod_lt_of_pos _ (by decide)⟩
theorem law_number_spec {ns : List Int} {k : Int} (hl : ns.length ≤ 63) (h0 : 0 ≤ k) (h1 : k ≤ 100000) : F_law_number [Li ns, .int k] = .ok (.int (numb ns k)) ∧ (0 ≤ numb ns k ∧ numb ns k < 10 ^ 31) := outI_of (law_number_ex hl h0 h1)
theorem bd_numb {ns : List Int} {k : Int} (hl : ns.length ≤ 63) (h0 : 0 ≤ k) (h1 : k ≤ 100000) : bd 103 (numb ns k) := by
  have h := (law_number_spec hl h0 h1).2
  unfold bd
  omega
/-! ### whole numbers -/
theorem law_whole_int {i : Int} : F_law_whole [.int i] = .ok (.bool true) := by
  unfold F_law_whole
  refine den_of (· = _) ?_
  unfold m_law_whole
  walk_at "ev"
theorem law_int_ex {n : Int} (h0 : 0 ≤ n) (h1 : n < 10 ^ 31) : ∃ x, F_law_int [.int n] = .ok (.int x) ∧ (-(10 ^ 30) < x ∧ x < 10 ^ 30) := by
  unfold F_law_int
  refine den_of (fun r => ∃ x, r = .ok (.int x) ∧ (-(10 ^ 30) < x ∧ x < 10 ^ 30)) ?_
  unfold m_law_int
  have b : bd 103 n := by unfold bd; omega
  walk_at "ev"
  have key : ∀ a m : Int, 0 < m → 0 ≤ a.fmod m ∧ a.fmod m < m := fun a m hm => ⟨Int.fmod_nonneg_of_pos _ hm, Int.fmod_lt_of_pos _ hm⟩
  refine ⟨fun _ => ⟨_, rfl, ?_⟩, fun _ => ⟨fun _ => ⟨_, rfl, ?_⟩, fun _ => ⟨fun _ => ⟨_, rfl, ?_⟩, fun _ => ⟨_, rfl, ?_⟩⟩⟩⟩
  · have := key (n.fdiv 8) 13 (by decide)
    omega
  · have := key (n.fdiv 8) 2000001 (by decide)
    omega
  · have := key (n.fdiv 8) 3 (by decide)
    omega
  · have := key (n.fdiv 8 * 99991) (2 * 10 ^ 30 - 1) (by decide)
    omega
def intX (n : Int) : Int := outI (F_law_int [.int n])
theorem law_int_spec {n : Int} (h0 : 0 ≤ n) (h1 : n < 10 ^ 31) : F_law_int [.int n] = .ok (.int (intX n)) ∧ (-(10 ^ 30) < intX n ∧ intX n < 10 ^ 30) := outI_of (law_int_ex h0 h1)
theorem law_tuple_T2 {a b : Int} : F_law_tuple [T2 a b, .int 2] = .ok (.bool true) := by
  unfold F_law_tuple
  refine den_of (· = _) ?_
  unfold m_law_tuple
  walk_at "ev"
  simp only [law_whole_int]
  walk_at "ev"
theorem law_tuple_T4 {a b c d : Int} : F_law_tuple [T4 a b c d, .int 4] = .ok (.bool true) := by
  unfold F_law_tuple
  refine den_of (· = _) ?_
  unfold m_law_tuple
  walk_at "ev"
  simp only [law_whole_int]
  walk_at "ev"
end Bs

end
section
namespace Bs
open PySem PySem.Spec L2
open PyProof.Rows hiding St
local macro_rules | `(tactic| walk_at "side") => `(tactic| first | assumption | decide | omega)
local macro_rules | `(tactic| walk_at "bdt") => `(tactic| first
  | assumption
  | (with_reducible apply bd_mul <;> walk_at "bdt")
  | (with_reducible apply bd_add <;> walk_at "bdt")
  | (with_reducible apply bd_sub <;> walk_at "bdt")
  | (with_reducible apply bd_neg <;> walk_at "bdt")
  | (with_reducible apply bd_fdiv <;> walk_at "bdt")
  | (with_reducible apply bd_iteP <;> walk_at "bdt")
  | (with_reducible apply bd_fmod <;> first | walk_at "side" | walk_at "bdt")
  | exact bd_self)
local macro_rules | `(tactic| walk_at "dis") => `(tactic| first
  | assumption
  | (with_reducible apply mulOk; (focus walk_at "bdt"); (focus walk_at "bdt"); decide +kernel)
  | (with_reducible apply divOk; (focus walk_at "side"); (focus walk_at "bdt"); decide +kernel)
  | (with_reducible apply bd_in; (focus walk_at "bdt"); decide +kernel)
  | decide | omega | (simp only [List.length_cons, List.length_nil, List.length_map]; omega))
local macro_rules | `(tactic| walk_at "ev") => `(tactic| simp (disch := walk_at "dis") only [startS, List.map_cons, List.map_nil, List.length_cons, List.length_nil, Nat.reduceAdd, Nat.reduceSub, Nat.zero_add, List.replicate, List.cons_append, List.nil_append,
  WB_nil, WB_cons, WB_frz, WS_pass, WS_ret, WS_retN, WS_set, WS_for, valI_rng1E, valI_rng2E, valI_seqE, valI_enumE, valI_zipE, bind_iters, lpc_nx, lpc_ct, lpc_bk, lpc_rt, lpc_ex, LP_cons_nm, LP_nilE, WS_stI, STI_some, WS_stS, STS_some, sts1_app, sts2_app, List.drop_succ_cons, List.drop_zero, stk1_app, stk2_app, stL_zero, stL_succ, WS_setN, newS_def, lsOf_list, ownk_app, WS_appE, ownAt_zero, ownAt_succ, APP_some, appk_app, bi_listL, bi_listT, bi_tupL, WS_unp, unp_sat, WS_par, WS_exs, WS_iff, WS_raise, WS_brk, WS_cont, RP_ok, RP_exc, only_nx, only_rt, only_bk, only_ct, only_ex, onlyL_nx, onlyL_rt, onlyL_bk, onlyL_ct, onlyL_ex, mid_nx, mid_rt, mid_bk, mid_ct, mid_ex, lp_nx, lp_rt, lp_bk, lp_ct, lp_ex, then_nx, then_rt, then_bk, then_ct, then_ex, setk_app, ownk_app, exk_app, ifk_app, unpk_app, nxk_app, lpk_app, par2_app, par1_app, R.bind_ok, R.bind_exc, valS_def, lfree_int, lfree_bool, lfree_str, lfree_none, lfree_tup, lfree_list, lfrees_nil, lfrees_cons, Bool.and_true, Bool.true_and, Bool.true_or, Bool.or_true, Bool.false_or, Bool.or_false, if_true, if_false, ite_true, ite_false, if_pos,
  setAllS, set_zero, set_succ, fullE_nil, fullE_cons, full_fr, full_ow, full_un, cleanE_nil, cleanE_cons, clean_fr, clean_ow, clean_un, noOwn_nil, noOwn_fr, noOwn_un, noOwn_ow, frz_zero, frz_succ, frz_zero_fr, frz_zero_un, getE_zero, getE_succ, sel_zero, sel_succ, ofB_bool,
  evE, evEs, bop_add, bop_sub, bop_mulE, bop_fdivE, bop_mod, bop_powE, bop_addL, cop_lt, cop_le, cop_gt, cop_ge, cop_eqI, cop_neI, cop_eqB, cop_neB, cop_neLi0, cop_eqLi0, cop_eqT2, cop_neT2, cop_eqT4, cop_neT4, ix_Li, ix0, ix1, ix2, ix3, ixL0, ixL1, ixL2, ixL3, iters_list, iters_tup, iters_enum, iters_rng1, asg_nm, wipe_nil, wipe_cons, tst_nil, tst_one, noX_ok, lcD_lit, compL_nil, compL_cons, partD_nil, partD_one, slop_T4_3, slop_L4_3, List.sum_cons, List.sum_nil, cop_eqL3, cop_neL2, cop_eqL1n, cop_eqL2n, cop_eqL3n, rngD_0, rngD_1, rngD_2, rngD_3, rngD_4, rngD_5, iters_rng2_13, iters_rng2_23, iters_rng2_33, bi_max1E, maxL_cons, Option.toList, List.append_nil, optB_some, bi_allE, boolsD_nil, boolsD_cons, boolsD_map, optI_some, bi_sumE, intsD_nil, intsD_cons, intsD_map, Option.map_some, Option.toList_some, Option.toList_none, setE_zero, setE_succ, List.all_cons, List.all_nil, id, Int.reduceToNat, Int.cast_ofNat_Int, ite_okB, ite_self, Bool.if_true_left, Bool.if_true_right, Bool.if_false_left, Bool.if_false_right, Bool.and_eq_true, Bool.or_eq_true, Bool.or_eq_false_iff, Bool.and_eq_false_iff, beq_self_eq_true, Bool.true_eq_false, not_true_eq_false, not_false_eq_true, decide_true, decide_false,  isi_int_int, isi_bool_int, isi_bool_bool, isi_tup_tup, List.length_map, bi_len, bi_lenT, bi_abs, bi_max2, bi_min2, bi_intB, bi_intI, decide_eq_true_eq, decide_eq_false_iff_not, Bool.not_eq_true', Bool.not_eq_false', Bool.not_eq_true, Bool.not_true, Bool.not_false, ne_eq, Bool.false_eq_true, false_implies, true_implies, and_true, true_and, false_and, and_false, imp_false, implies_true])
local macro_rules | `(tactic| walk_at "es") => `(tactic| simp (disch := walk_at "dis") only [startS, List.map_cons, List.map_nil, List.length_cons, List.length_nil, Nat.reduceAdd, Nat.reduceSub, Nat.zero_add, List.replicate, List.cons_append, List.nil_append,
  WB_nil, WB_cons, WB_frz, WS_pass, WS_ret, WS_retN, WS_set, WS_for, valI_rng1E, valI_rng2E, valI_seqE, valI_enumE, valI_zipE, bind_iters, lpc_nx, lpc_ct, lpc_bk, lpc_rt, lpc_ex, LP_cons_nm, LP_nilE, WS_stI, STI_some, WS_stS, STS_some, sts1_app, sts2_app, List.drop_succ_cons, List.drop_zero, stk1_app, stk2_app, stL_zero, stL_succ, WS_setN, newS_def, lsOf_list, ownk_app, WS_appE, ownAt_zero, ownAt_succ, APP_some, appk_app, bi_listL, bi_listT, bi_tupL, WS_unp, unp_sat, WS_par, WS_exs, WS_raise, WS_brk, WS_cont, RP_ok, RP_exc, only_nx, only_rt, only_bk, only_ct, only_ex, onlyL_nx, onlyL_rt, onlyL_bk, onlyL_ct, onlyL_ex, mid_nx, mid_rt, mid_bk, mid_ct, mid_ex, lp_nx, lp_rt, lp_bk, lp_ct, lp_ex, then_nx, then_rt, then_bk, then_ct, then_ex, setk_app, ownk_app, exk_app, ifk_app, unpk_app, nxk_app, lpk_app, par2_app, par1_app, R.bind_ok, R.bind_exc, valS_def, lfree_int, lfree_bool, lfree_str, lfree_none, lfree_tup, lfree_list, lfrees_nil, lfrees_cons, Bool.and_true, Bool.true_and, Bool.true_or, Bool.or_true, Bool.false_or, Bool.or_false, if_true, if_false, ite_true, ite_false, if_pos,
  setAllS, set_zero, set_succ, fullE_nil, fullE_cons, full_fr, full_ow, full_un, cleanE_nil, cleanE_cons, clean_fr, clean_ow, clean_un, noOwn_nil, noOwn_fr, noOwn_un, noOwn_ow, frz_zero, frz_succ, frz_zero_fr, frz_zero_un, getE_zero, getE_succ, sel_zero, sel_succ, ofB_bool,
  evE, evEs, bop_add, bop_sub, bop_mulE, bop_fdivE, bop_mod, bop_powE, bop_addL, cop_lt, cop_le, cop_gt, cop_ge, cop_eqI, cop_neI, cop_eqB, cop_neB, cop_neLi0, cop_eqLi0, cop_eqT2, cop_neT2, cop_eqT4, cop_neT4, ix_Li, ix0, ix1, ix2, ix3, ixL0, ixL1, ixL2, ixL3, iters_list, iters_tup, iters_enum, iters_rng1, asg_nm, wipe_nil, wipe_cons, tst_nil, tst_one, noX_ok, lcD_lit, compL_nil, compL_cons, partD_nil, partD_one, slop_T4_3, slop_L4_3, List.sum_cons, List.sum_nil, cop_eqL3, cop_neL2, cop_eqL1n, cop_eqL2n, cop_eqL3n, rngD_0, rngD_1, rngD_2, rngD_3, rngD_4, rngD_5, iters_rng2_13, iters_rng2_23, iters_rng2_33, bi_max1E, maxL_cons, Option.toList, List.append_nil, optB_some, bi_allE, boolsD_nil, boolsD_cons, boolsD_map, optI_some, bi_sumE, intsD_nil, intsD_cons, intsD_map, Option.map_some, Option.toList_some, Option.toList_none, setE_zero, setE_succ, List.all_cons, List.all_nil, id, Int.reduceToNat, Int.cast_ofNat_Int, ite_okB, ite_self, Bool.if_true_left, Bool.if_true_right, Bool.if_false_left, Bool.if_false_right, Bool.and_eq_true, Bool.or_eq_true, Bool.or_eq_false_iff, Bool.and_eq_false_iff, beq_self_eq_true, Bool.true_eq_false, not_true_eq_false, not_false_eq_true, decide_true, decide_false,  isi_int_int, isi_bool_int, isi_bool_bool, isi_tup_tup, List.length_map, bi_len, bi_lenT, bi_abs, bi_max2, bi_min2, bi_intB, bi_intI, decide_eq_true_eq, decide_eq_false_iff_not, Bool.not_eq_true', Bool.not_eq_false', Bool.not_eq_true, Bool.not_true, Bool.not_false, ne_eq, Bool.false_eq_true, false_implies, true_implies, and_true, true_and, false_and, and_false, imp_false, implies_true])
local macro_rules | `(tactic| walk_at "evh") => `(tactic| simp (disch := walk_at "dis") only [startS, List.map_cons, List.map_nil, List.length_cons, List.length_nil, Nat.reduceAdd, Nat.reduceSub, Nat.zero_add, List.replicate, List.cons_append, List.nil_append,
  WB_nil, WB_cons, WB_frz, WS_pass, WS_ret, WS_retN, WS_set, WS_for, valI_rng1E, valI_rng2E, valI_seqE, valI_enumE, valI_zipE, bind_iters, lpc_nx, lpc_ct, lpc_bk, lpc_rt, lpc_ex, LP_cons_nm, LP_nilE, WS_stI, STI_some, WS_stS, STS_some, sts1_app, sts2_app, List.drop_succ_cons, List.drop_zero, stk1_app, stk2_app, stL_zero, stL_succ, WS_setN, newS_def, lsOf_list, ownk_app, WS_appE, ownAt_zero, ownAt_succ, APP_some, appk_app, bi_listL, bi_listT, bi_tupL, WS_unp, unp_sat, WS_par, WS_exs, WS_iff, WS_raise, WS_brk, WS_cont, RP_ok, RP_exc, only_nx, only_rt, only_bk, only_ct, only_ex, onlyL_nx, onlyL_rt, onlyL_bk, onlyL_ct, onlyL_ex, mid_nx, mid_rt, mid_bk, mid_ct, mid_ex, lp_nx, lp_rt, lp_bk, lp_ct, lp_ex, then_nx, then_rt, then_bk, then_ct, then_ex, setk_app, ownk_app, exk_app, ifk_app, unpk_app, nxk_app, lpk_app, par2_app, par1_app, R.bind_ok, R.bind_exc, valS_def, lfree_int, lfree_bool, lfree_str, lfree_none, lfree_tup, lfree_list, lfrees_nil, lfrees_cons, Bool.and_true, Bool.true_and, Bool.true_or, Bool.or_true, Bool.false_or, Bool.or_false, if_true, if_false, ite_true, ite_false, if_pos,
  setAllS, set_zero, set_succ, fullE_nil, fullE_cons, full_fr, full_ow, full_un, cleanE_nil, cleanE_cons, clean_fr, clean_ow, clean_un, noOwn_nil, noOwn_fr, noOwn_un, noOwn_ow, frz_zero, frz_succ, frz_zero_fr, frz_zero_un, getE_zero, getE_succ, sel_zero, sel_succ, ofB_bool,
  evE, evEs, bop_add, bop_sub, bop_mulE, bop_fdivE, bop_mod, bop_powE, bop_addL, cop_lt, cop_le, cop_gt, cop_ge, cop_eqI, cop_neI, cop_eqB, cop_neB, cop_neLi0, cop_eqLi0, cop_eqT2, cop_neT2, cop_eqT4, cop_neT4, ix_Li, ix0, ix1, ix2, ix3, ixL0, ixL1, ixL2, ixL3, iters_list, iters_tup, iters_enum, iters_rng1, asg_nm, wipe_nil, wipe_cons, tst_nil, tst_one, noX_ok, lcD_lit, compL_nil, compL_cons, partD_nil, partD_one, slop_T4_3, slop_L4_3, List.sum_cons, List.sum_nil, cop_eqL3, cop_neL2, cop_eqL1n, cop_eqL2n, cop_eqL3n, rngD_0, rngD_1, rngD_2, rngD_3, rngD_4, rngD_5, iters_rng2_13, iters_rng2_23, iters_rng2_33, bi_max1E, maxL_cons, Option.toList, List.append_nil, optB_some, bi_allE, boolsD_nil, boolsD_cons, boolsD_map, optI_some, bi_sumE, intsD_nil, intsD_cons, intsD_map, Option.map_some, Option.toList_some, Option.toList_none, setE_zero, setE_succ, List.all_cons, List.all_nil, id, Int.reduceToNat, Int.cast_ofNat_Int, ite_okB, ite_self, Bool.if_true_left, Bool.if_true_right, Bool.if_false_left, Bool.if_false_right, Bool.and_eq_true, Bool.or_eq_true, Bool.or_eq_false_iff, Bool.and_eq_false_iff, beq_self_eq_true, Bool.true_eq_false, not_true_eq_false, not_false_eq_true, decide_true, decide_false,  isi_int_int, isi_bool_int, isi_bool_bool, isi_tup_tup, List.length_map, bi_len, bi_lenT, bi_abs, bi_max2, bi_min2, bi_intB, bi_intI, decide_eq_true_eq, decide_eq_false_iff_not, Bool.not_eq_true', Bool.not_eq_false', Bool.not_eq_true, Bool.not_true, Bool.not_false, ne_eq, Bool.false_eq_true, false_implies, true_implies, and_true, true_and, false_and, and_false, imp_false, implies_true, *])
local macro_rules | `(tactic| walk_at "esh") => `(tactic| simp (disch := walk_at "dis") only [startS, List.map_cons, List.map_nil, List.length_cons, List.length_nil, Nat.reduceAdd, Nat.reduceSub, Nat.zero_add, List.replicate, List.cons_append, List.nil_append,
  WB_nil, WB_cons, WB_frz, WS_pass, WS_ret, WS_retN, WS_set, WS_for, valI_rng1E, valI_rng2E, valI_seqE, valI_enumE, valI_zipE, bind_iters, lpc_nx, lpc_ct, lpc_bk, lpc_rt, lpc_ex, LP_cons_nm, LP_nilE, WS_stI, STI_some, WS_stS, STS_some, sts1_app, sts2_app, List.drop_succ_cons, List.drop_zero, stk1_app, stk2_app, stL_zero, stL_succ, WS_setN, newS_def, lsOf_list, ownk_app, WS_appE, ownAt_zero, ownAt_succ, APP_some, appk_app, bi_listL, bi_listT, bi_tupL, WS_unp, unp_sat, WS_par, WS_exs, WS_raise, WS_brk, WS_cont, RP_ok, RP_exc, only_nx, only_rt, only_bk, only_ct, only_ex, onlyL_nx, onlyL_rt, onlyL_bk, onlyL_ct, onlyL_ex, mid_nx, mid_rt, mid_bk, mid_ct, mid_ex, lp_nx, lp_rt, lp_bk, lp_ct, lp_ex, then_nx, then_rt, then_bk, then_ct, then_ex, setk_app, ownk_app, exk_app, ifk_app, unpk_app, nxk_app, lpk_app, par2_app, par1_app, R.bind_ok, R.bind_exc, valS_def, lfree_int, lfree_bool, lfree_str, lfree_none, lfree_tup, lfree_list, lfrees_nil, lfrees_cons, Bool.and_true, Bool.true_and, Bool.true_or, Bool.or_true, Bool.false_or, Bool.or_false, if_true, if_false, ite_true, ite_false, if_pos,
  setAllS, set_zero, set_succ, fullE_nil, fullE_cons, full_fr, full_ow, full_un, cleanE_nil, cleanE_cons, clean_fr, clean_ow, clean_un, noOwn_nil, noOwn_fr, noOwn_un, noOwn_ow, frz_zero, frz_succ, frz_zero_fr, frz_zero_un, getE_zero, getE_succ, sel_zero, sel_succ, ofB_bool,
  evE, evEs, bop_add, bop_sub, bop_mulE, bop_fdivE, bop_mod, bop_powE, bop_addL, cop_lt, cop_le, cop_gt, cop_ge, cop_eqI, cop_neI, cop_eqB, cop_neB, cop_neLi0, cop_eqLi0, cop_eqT2, cop_neT2, cop_eqT4, cop_neT4, ix_Li, ix0, ix1, ix2, ix3, ixL0, ixL1, ixL2, ixL3, iters_list, iters_tup, iters_enum, iters_rng1, asg_nm, wipe_nil, wipe_cons, tst_nil, tst_one, noX_ok, lcD_lit, compL_nil, compL_cons, partD_nil, partD_one, slop_T4_3, slop_L4_3, List.sum_cons, List.sum_nil, cop_eqL3, cop_neL2, cop_eqL1n, cop_eqL2n, cop_eqL3n, rngD_0, rngD_1, rngD_2, rngD_3, rngD_4, rngD_5, iters_rng2_13, iters_rng2_23, iters_rng2_33, bi_max1E, maxL_cons, Option.toList, List.append_nil, optB_some, bi_allE, boolsD_nil, boolsD_cons, boolsD_map, optI_some, bi_sumE, intsD_nil, intsD_cons, intsD_map, Option.map_some, Option.toList_some, Option.toList_none, setE_zero, setE_succ, List.all_cons, List.all_nil, id, Int.reduceToNat, Int.cast_ofNat_Int, ite_okB, ite_self, Bool.if_true_left, Bool.if_true_right, Bool.if_false_left, Bool.if_false_right, Bool.and_eq_true, Bool.or_eq_true, Bool.or_eq_false_iff, Bool.and_eq_false_iff, beq_self_eq_true, Bool.true_eq_false, not_true_eq_false, not_false_eq_true, decide_true, decide_false,  isi_int_int, isi_bool_int, isi_bool_bool, isi_tup_tup, List.length_map, bi_len, bi_lenT, bi_abs, bi_max2, bi_min2, bi_intB, bi_intI, decide_eq_true_eq, decide_eq_false_iff_not, Bool.not_eq_true', Bool.not_eq_false', Bool.not_eq_true, Bool.not_true, Bool.not_false, ne_eq, Bool.false_eq_true, false_implies, true_implies, and_true, true_and, false_and, and_false, imp_false, implies_true, *])
local macro_rules | `(tactic| walk_at "eslh") => `(tactic| simp (disch := walk_at "dis") only [startS, List.map_cons, List.map_nil, List.length_cons, List.length_nil, Nat.reduceAdd, Nat.reduceSub, Nat.zero_add, List.replicate, List.cons_append, List.nil_append,
  WB_nil, WB_cons, WB_frz, WS_pass, WS_ret, WS_retN, WS_set, WS_for, valI_rng1E, valI_rng2E, valI_seqE, valI_enumE, valI_zipE, bind_iters, lpc_nx, lpc_ct, lpc_bk, lpc_rt, lpc_ex, WS_stI, STI_some, WS_stS, STS_some, sts1_app, sts2_app, List.drop_succ_cons, List.drop_zero, stk1_app, stk2_app, stL_zero, stL_succ, WS_setN, newS_def, lsOf_list, ownk_app, WS_appE, ownAt_zero, ownAt_succ, APP_some, appk_app, bi_listL, bi_listT, bi_tupL, WS_unp, unp_sat, WS_par, WS_exs, WS_raise, WS_brk, WS_cont, RP_ok, RP_exc, only_nx, only_rt, only_bk, only_ct, only_ex, onlyL_nx, onlyL_rt, onlyL_bk, onlyL_ct, onlyL_ex, mid_nx, mid_rt, mid_bk, mid_ct, mid_ex, lp_nx, lp_rt, lp_bk, lp_ct, lp_ex, then_nx, then_rt, then_bk, then_ct, then_ex, setk_app, ownk_app, exk_app, ifk_app, unpk_app, nxk_app, lpk_app, par2_app, par1_app, R.bind_ok, R.bind_exc, valS_def, lfree_int, lfree_bool, lfree_str, lfree_none, lfree_tup, lfree_list, lfrees_nil, lfrees_cons, Bool.and_true, Bool.true_and, Bool.true_or, Bool.or_true, Bool.false_or, Bool.or_false, if_true, if_false, ite_true, ite_false, if_pos,
  setAllS, set_zero, set_succ, fullE_nil, fullE_cons, full_fr, full_ow, full_un, cleanE_nil, cleanE_cons, clean_fr, clean_ow, clean_un, noOwn_nil, noOwn_fr, noOwn_un, noOwn_ow, frz_zero, frz_succ, frz_zero_fr, frz_zero_un, getE_zero, getE_succ, sel_zero, sel_succ, ofB_bool,
  evE, evEs, bop_add, bop_sub, bop_mulE, bop_fdivE, bop_mod, bop_powE, bop_addL, cop_lt, cop_le, cop_gt, cop_ge, cop_eqI, cop_neI, cop_eqB, cop_neB, cop_neLi0, cop_eqLi0, cop_eqT2, cop_neT2, cop_eqT4, cop_neT4, ix_Li, ix0, ix1, ix2, ix3, ixL0, ixL1, ixL2, ixL3, iters_list, iters_tup, iters_enum, iters_rng1, asg_nm, wipe_nil, wipe_cons, tst_nil, tst_one, noX_ok, lcD_lit, compL_nil, compL_cons, partD_nil, partD_one, slop_T4_3, slop_L4_3, List.sum_cons, List.sum_nil, cop_eqL3, cop_neL2, cop_eqL1n, cop_eqL2n, cop_eqL3n, rngD_0, rngD_1, rngD_2, rngD_3, rngD_4, rngD_5, iters_rng2_13, iters_rng2_23, iters_rng2_33, bi_max1E, maxL_cons, Option.toList, List.append_nil, optB_some, bi_allE, boolsD_nil, boolsD_cons, boolsD_map, optI_some, bi_sumE, intsD_nil, intsD_cons, intsD_map, Option.map_some, Option.toList_some, Option.toList_none, setE_zero, setE_succ, List.all_cons, List.all_nil, id, Int.reduceToNat, Int.cast_ofNat_Int, ite_okB, ite_self, Bool.if_true_left, Bool.if_true_right, Bool.if_false_left, Bool.if_false_right, Bool.and_eq_true, Bool.or_eq_true, Bool.or_eq_false_iff, Bool.and_eq_false_iff, beq_self_eq_true, Bool.true_eq_false, not_true_eq_false, not_false_eq_true, decide_true, decide_false,  isi_int_int, isi_bool_int, isi_bool_bool, isi_tup_tup, List.length_map, bi_len, bi_lenT, bi_abs, bi_max2, bi_min2, bi_intB, bi_intI, decide_eq_true_eq, decide_eq_false_iff_not, Bool.not_eq_true', Bool.not_eq_false', Bool.not_eq_true, Bool.not_true, Bool.not_false, ne_eq, Bool.false_eq_true, false_implies, true_implies, and_true, true_and, false_and, and_false, imp_false, implies_true, *])
/-! ### the greatest divisor of several -/
def dvAll (d : Nat) (l : List Int) : Prop := ∀ x ∈ l, (d : Int) ∣ x
def IsG (g : Nat) (l : List Int) : Prop := dvAll g l ∧ ∀ d : Nat, dvAll d l → d ∣ g
theorem IsG.uniq {g h : Nat} {l m : List Int} (a : IsG g l) (b : IsG h m) (e : ∀ x, x ∈ l ↔ x ∈ m) : g = h :=
  Nat.dvd_antisymm (b.2 g fun x hx => a.1 x ((e x).mpr hx)) (a.2 h fun x hx => b.1 x ((e x).mp hx))
theorem isG_two {a b : Int} : IsG (Int.gcd a b) [a, b] := by
  refine ⟨fun x hx => ?_, fun d hd => ?_⟩
  · rcases List.mem_cons.mp hx with rfl | hx
    · exact Int.gcd_dvd_left ..
    · rw [List.mem_singleton.mp hx]
      exact Int.gcd_dvd_right ..
  · exact Int.dvd_gcd (hd a List.mem_cons_self) (hd b (List.mem_cons_of_mem _ List.mem_cons_self))
theorem isG_app {g h : Nat} {l m : List Int} (a : IsG g l) (b : IsG h m) : IsG (Int.gcd (g : Int) (h : Int)) (l ++ m) := by
  refine ⟨fun x hx => ?_, fun d hd => ?_⟩
  · rcases List.mem_append.mp hx with hx | hx
    · exact Int.dvd_trans (Int.gcd_dvd_left ..) (a.1 x hx)
    · exact Int.dvd_trans (Int.gcd_dvd_right ..) (b.1 x hx)
  · exact Int.dvd_gcd (Int.natCast_dvd_natCast.mpr (a.2 d fun x hx => hd x (List.mem_append_left _ hx))) (Int.natCast_dvd_natCast.mpr (b.2 d fun x hx => hd x (List.mem_append_right _ hx)))
theorem natAbs_of_dvd {d : Nat} {x : Int} (h : (d : Int) ∣ x) : d ∣ x.natAbs := Int.ofNat_dvd_left.mp h
theorem isG_one {x : Int} : IsG x.natAbs [x] := by
  refine ⟨fun y hy => ?_, fun d hd => ?_⟩
  · rw [List.mem_singleton.mp hy]
    exact Int.natAbs_dvd.mpr (Int.dvd_refl x)
  · exact natAbs_of_dvd (hd x List.mem_cons_self)
theorem mul_ne' {a b : Int} (ha : a ≠ 0) (hb : b ≠ 0) : a * b ≠ 0 := Int.mul_ne_zero ha hb
theorem isG_nil : IsG 0 [] := ⟨fun x hx => (nomatch hx), fun d _ => Nat.dvd_zero d⟩
theorem isG_snoc {g : Nat} {l : List Int} {x : Int} (a : IsG g l) : IsG (Int.gcd (g : Int) x) (l ++ [x]) := by
  have := isG_app a (isG_one (x := x))
  exact this
theorem isG_cons {g : Nat} {l : List Int} {x : Int} (a : IsG g l) : IsG (Int.gcd x (g : Int)) (x :: l) := by
  have := isG_app (isG_one (x := x)) a
  exact this
theorem IsG.pos {g : Nat} {l : List Int} (a : IsG g l) {x : Int} (hx : x ∈ l) (h0 : x ≠ 0) : 0 < g := by
  rcases Nat.eq_zero_or_pos g with z | z
  · have := a.1 x hx
    rw [z] at this
    exact absurd (Int.zero_dvd.mp this) h0
  · exact z
theorem IsG.bd {g : Nat} {l : List Int} (a : IsG g l) {x : Int} (hx : x ∈ l) (h0 : x ≠ 0) {n : Nat} (h : Bs.bd n x) : Bs.bd n (g : Int) := by
  have := a.1 x hx
  have := Nat.le_of_dvd (by omega : 0 < x.natAbs) (natAbs_of_dvd this)
  unfold Bs.bd at *
  simp only [Int.natAbs_natCast]
  omega
/-- divided by their greatest divisor -/
theorem IsG.div {g : Nat} {l : List Int} (a : IsG g l) (h : 0 < g) : IsG 1 (l.map fun x => x / (g : Int)) := by
  refine ⟨fun x hx => by simp, fun d hd => ?_⟩
  have : dvAll (d * g) l := fun x hx => by
    have h1 := hd (x / g) (List.mem_map.mpr ⟨x, hx, rfl⟩)
    obtain ⟨k, hk⟩ := h1
    refine ⟨k, ?_⟩
    have h2 : x = x / g * g := (Int.ediv_mul_cancel (a.1 x hx)).symm
    rw [h2, hk, Int.natCast_mul, Int.mul_assoc, Int.mul_assoc, Int.mul_comm k]
  have h3 := a.2 _ this
  have h4 : d * g ∣ 1 * g := by rw [Nat.one_mul]; exact h3
  exact Nat.dvd_of_mul_dvd_mul_right h h4
theorem dvd_neg' {d : Nat} {x : Int} : (d : Int) ∣ -x ↔ (d : Int) ∣ x := Int.dvd_neg
theorem IsG.neg {g : Nat} {l : List Int} (a : IsG g l) : IsG g (l.map fun x => -x) := by
  refine ⟨fun x hx => ?_, fun d hd => a.2 d fun x hx => dvd_neg'.mp (hd (-x) (List.mem_map.mpr ⟨x, hx, rfl⟩))⟩
  obtain ⟨y, hy, rfl⟩ := List.mem_map.mp hx
  exact dvd_neg'.mpr (a.1 y hy)
theorem fdiv_pos {x : Int} {g : Nat} (h : (g : Int) ∣ x) : x.fdiv (g : Int) = x / (g : Int) := Int.fdiv_eq_ediv_of_nonneg _ (Int.natCast_nonneg g)
theorem fdiv_negG {x : Int} {g : Nat} (h : (g : Int) ∣ x) (hg : 0 < g) : x.fdiv (0 - (g : Int)) = -(x / (g : Int)) := by
  have e : 0 - (g : Int) = -(g : Int) := by omega
  have e2 : x = -(-x) := by omega
  rw [e]
  conv => lhs; rw [e2]
  rw [Int.neg_fdiv_neg, Int.fdiv_eq_ediv_of_nonneg _ (Int.natCast_nonneg g), Int.neg_ediv_of_dvd h]
/-! ### four numbers -/
def g4 (x y z w : Int) : Nat := Int.gcd (Int.gcd x y : Int) (Int.gcd z w : Int)
theorem isG_g4 {x y z w : Int} : IsG (g4 x y z w) [x, y, z, w] := isG_app isG_two isG_two
def sBy (x y z w : Int) : Int := if w < 0 then 0 - (g4 x y z w : Int) else (g4 x y z w : Int)
abbrev Sp (x y z w : Int) : D := T4 (x.fdiv (sBy x y z w)) (y.fdiv (sBy x y z w)) (z.fdiv (sBy x y z w)) (w.fdiv (sBy x y z w))
theorem g4_pos {x y z w : Int} (h : w ≠ 0) : 0 < g4 x y z w := isG_g4.pos (by simp) h
theorem made_spot_spec {x y z w : Int} (hx : bd 8000 x) (hy : bd 8000 y) (hz : bd 8000 z) (hw : bd 8000 w) : F_made_spot [.int x, .int y, .int z, .int w] = if w = 0 then .exc 2 none else .ok (Sp x y z w) := by
  unfold F_made_spot
  refine den_of (· = _) ?_
  unfold m_made_spot
  by_cases h : w = 0
  · subst h
    walk_at "ev"
  · have s1 := divisor_spec (a := x) (hy.mono (by decide : 8000 ≤ 4000000))
    have s2 := divisor_spec (a := z) (hw.mono (by decide : 8000 ≤ 4000000))
    have hb : bd 8000 (Int.gcd z w : Int) := bd_gcd h hw
    have s3 := divisor_spec (a := (Int.gcd x y : Int)) (hb.mono (by decide : 8000 ≤ 4000000))
    have hg : bd 8000 (Int.gcd (Int.gcd x y : Int) (Int.gcd z w : Int) : Int) := isG_g4.bd (x := w) (by simp) h hw
    have hp : 0 < Int.gcd (Int.gcd x y : Int) (Int.gcd z w : Int) := g4_pos h
    walk_at "evh"
    refine ⟨fun h2 => ?_, fun h2 => ?_⟩
    · simp only [Sp, sBy, g4, if_pos h2]
    · simp only [Sp, sBy, g4, if_neg h2]
/-! ### four numbers as one -/
structure V4 where
  a : Int
  b : Int
  c : Int
  d : Int
  deriving DecidableEq
abbrev D4 (p : V4) : D := T4 p.a p.b p.c p.d
def V4.l (p : V4) : List Int := [p.a, p.b, p.c, p.d]
def V4.bd (n : Nat) (p : V4) : Prop := Bs.bd n p.a ∧ Bs.bd n p.b ∧ Bs.bd n p.c ∧ Bs.bd n p.d
/-- a spot -/
structure Spot (p : V4) : Prop where
  pos : 1 ≤ p.d
  low : IsG 1 p.l
theorem V4.bd.mono {m n : Nat} {p : V4} (h : V4.bd m p) (l : m ≤ n) : V4.bd n p := ⟨h.1.mono l, h.2.1.mono l, h.2.2.1.mono l, h.2.2.2.mono l⟩
def mk4 (x y z w : Int) : V4 := ⟨x.fdiv (sBy x y z w), y.fdiv (sBy x y z w), z.fdiv (sBy x y z w), w.fdiv (sBy x y z w)⟩
theorem mk4_bd {n : Nat} {x y z w : Int} (hx : bd n x) (hy : bd n y) (hz : bd n z) (hw : bd n w) : V4.bd n (mk4 x y z w) := ⟨bd_fdiv hx, bd_fdiv hy, bd_fdiv hz, bd_fdiv hw⟩
theorem IsG.mul {g : Nat} {l : List Int} (a : IsG g l) (m : Nat) (hm : 0 < m) : IsG (g * m) (l.map fun x => x * (m : Int)) := by
  refine ⟨fun x hx => ?_, fun d hd => ?_⟩
  · obtain ⟨y, hy, rfl⟩ := List.mem_map.mp hx
    rw [Int.natCast_mul]
    exact Int.mul_dvd_mul (a.1 y hy) (Int.dvd_refl _)
  · -- l's divisor, made greater
    have key : ∀ (k : List Int), (∃ h : Nat, IsG h (k.map fun x => x * (m : Int)) ∧ m ∣ h) := by
      intro k
      induction k with
      | nil => exact ⟨0, isG_nil, Nat.dvd_zero m⟩
      | cons x k ih =>
        obtain ⟨h, h1, h2⟩ := ih
        refine ⟨_, isG_cons h1, ?_⟩
        exact Int.dvd_gcd (Int.dvd_mul_left _ _) (Int.natCast_dvd_natCast.mpr h2)
    obtain ⟨h, h1, h2⟩ := key l
    obtain ⟨k, rfl⟩ := h2
    have hk : k ∣ g := a.2 k fun x hx => by
      have := h1.1 (x * m) (List.mem_map.mpr ⟨x, hx, rfl⟩)
      rw [Int.natCast_mul, Int.mul_comm (m : Int)] at this
      exact Int.dvd_of_mul_dvd_mul_right (by omega) this
    have hd2 := h1.2 d hd
    rw [Nat.mul_comm m k] at hd2
    exact Nat.dvd_trans hd2 (Nat.mul_dvd_mul_right hk m)
/-- what mk4 tells: a spot, that many times what was told -/
theorem mk4_eq {x y z w : Int} (h : w ≠ 0) : Spot (mk4 x y z w) ∧ x = (mk4 x y z w).a * sBy x y z w ∧ y = (mk4 x y z w).b * sBy x y z w ∧ z = (mk4 x y z w).c * sBy x y z w ∧ w = (mk4 x y z w).d * sBy x y z w := by
  have hp := g4_pos (x := x) (y := y) (z := z) h
  have hg := isG_g4 (x := x) (y := y) (z := z) (w := w)
  have dv : ∀ v ∈ [x, y, z, w], ((g4 x y z w : Nat) : Int) ∣ v := hg.1
  have mulv : ∀ v, ((g4 x y z w : Nat) : Int) ∣ v → v / (g4 x y z w : Int) * (g4 x y z w : Int) = v := fun v h => Int.ediv_mul_cancel h
  have hd := hg.div hp
  by_cases h2 : w < 0
  · have e : sBy x y z w = 0 - (g4 x y z w : Int) := if_pos h2
    have q : ∀ v ∈ [x, y, z, w], v.fdiv (sBy x y z w) = -(v / (g4 x y z w : Int)) := fun v hv => by rw [e]; exact fdiv_negG (dv v hv) hp
    have q2 : ∀ v ∈ [x, y, z, w], v = v.fdiv (sBy x y z w) * sBy x y z w := fun v hv => by
      rw [q v hv, e]
      have := mulv v (dv v hv)
      rw [Int.zero_sub, Int.neg_mul_neg]
      exact this.symm
    refine ⟨⟨?_, ?_⟩, q2 x (by simp), q2 y (by simp), q2 z (by simp), q2 w (by simp)⟩
    · show 1 ≤ w.fdiv (sBy x y z w)
      rw [q w (by simp)]
      have := mulv w (dv w (by simp))
      have : w / (g4 x y z w : Int) < 0 := by
        apply Int.not_le.mp
        intro z0
        have := Int.mul_nonneg z0 (Int.natCast_nonneg (g4 x y z w))
        omega
      omega
    · have := hd.neg
      simp only [List.map_map, List.map_cons, List.map_nil, Function.comp] at this
      show IsG 1 [x.fdiv (sBy x y z w), y.fdiv (sBy x y z w), z.fdiv (sBy x y z w), w.fdiv (sBy x y z w)]
      rw [q x (by simp), q y (by simp), q z (by simp), q w (by simp)]
      exact this
  · have e : sBy x y z w = (g4 x y z w : Int) := if_neg h2
    have q : ∀ v ∈ [x, y, z, w], v.fdiv (sBy x y z w) = v / (g4 x y z w : Int) := fun v hv => by rw [e]; exact fdiv_pos (dv v hv)
    have q2 : ∀ v ∈ [x, y, z, w], v = v.fdiv (sBy x y z w) * sBy x y z w := fun v hv => by
      rw [q v hv, e]
      exact (mulv v (dv v hv)).symm
    refine ⟨⟨?_, ?_⟩, q2 x (by simp), q2 y (by simp), q2 z (by simp), q2 w (by simp)⟩
    · show 1 ≤ w.fdiv (sBy x y z w)
      rw [q w (by simp)]
      have := mulv w (dv w (by simp))
      have : ¬ w / (g4 x y z w : Int) ≤ 0 := fun z0 => by
        have := Int.mul_nonpos_of_nonpos_of_nonneg z0 (Int.natCast_nonneg (g4 x y z w))
        omega
      omega
    · show IsG 1 [x.fdiv (sBy x y z w), y.fdiv (sBy x y z w), z.fdiv (sBy x y z w), w.fdiv (sBy x y z w)]
      rw [q x (by simp), q y (by simp), q z (by simp), q w (by simp)]
      exact hd
/-- it is worth what was told -/
theorem mk4_worth {x y z w : Int} (h : w ≠ 0) : (mk4 x y z w).a * w = x * (mk4 x y z w).d ∧ (mk4 x y z w).b * w = y * (mk4 x y z w).d ∧ (mk4 x y z w).c * w = z * (mk4 x y z w).d := by
  obtain ⟨_, ha, hb, hc, hd⟩ := mk4_eq (x := x) (y := y) (z := z) h
  generalize mk4 x y z w = p at *
  generalize sBy x y z w = s at *
  subst ha hb hc hd
  refine ⟨?_, ?_, ?_⟩ <;> · rw [Int.mul_assoc]; congr 1; exact Int.mul_comm ..
theorem Spot.ext {p q : V4} (hp : Spot p) (hq : Spot q) (ha : p.a * q.d = q.a * p.d) (hb : p.b * q.d = q.b * p.d) (hc : p.c * q.d = q.c * p.d) : p = q := by
  obtain ⟨m, hm⟩ := Int.eq_ofNat_of_zero_le (show 0 ≤ p.d by have := hp.pos; omega)
  obtain ⟨n, hn⟩ := Int.eq_ofNat_of_zero_le (show 0 ≤ q.d by have := hq.pos; omega)
  have hm0 : 0 < m := by have := hp.pos; omega
  have hn0 : 0 < n := by have := hq.pos; omega
  have h1 := hp.low.mul n hn0
  have h2 := hq.low.mul m hm0
  have e : p.l.map (fun x => x * (n : Int)) = q.l.map (fun x => x * (m : Int)) := by
    simp only [V4.l, List.map_cons, List.map_nil, ← hm, ← hn, ha, hb, hc, Int.mul_comm p.d q.d]
  rw [e] at h1
  have hmn : n = m := by
    have := h1.uniq h2 fun _ => Iff.rfl
    omega
  subst hmn
  have z : p.d = q.d := by rw [hm, hn]
  have hz : q.d ≠ 0 := by have := hq.pos; omega
  rw [z] at ha hb hc
  obtain ⟨a, b, c, d⟩ := p
  obtain ⟨a', b', c', d'⟩ := q
  simp only at *
  subst z
  rw [Int.eq_of_mul_eq_mul_right hz ha, Int.eq_of_mul_eq_mul_right hz hb, Int.eq_of_mul_eq_mul_right hz hc]
theorem mk4_of {x y z w : Int} {p : V4} (hp : Spot p) (h : w ≠ 0) (ha : p.a * w = x * p.d) (hb : p.b * w = y * p.d) (hc : p.c * w = z * p.d) : mk4 x y z w = p := by
  obtain ⟨sp, qa, qb, qc, qd⟩ := mk4_eq (x := x) (y := y) (z := z) h
  have hs : sBy x y z w ≠ 0 := fun z0 => by rw [z0, Int.mul_zero] at qd; exact h qd
  generalize mk4 x y z w = q at *
  generalize sBy x y z w = s at *
  subst qa qb qc qd
  refine (Spot.ext hp sp ?_ ?_ ?_).symm
  · exact Int.eq_of_mul_eq_mul_right hs (by rw [Int.mul_assoc, ha]; rw [Int.mul_assoc, Int.mul_assoc, Int.mul_comm s])
  · exact Int.eq_of_mul_eq_mul_right hs (by rw [Int.mul_assoc, hb]; rw [Int.mul_assoc, Int.mul_assoc, Int.mul_comm s])
  · exact Int.eq_of_mul_eq_mul_right hs (by rw [Int.mul_assoc, hc]; rw [Int.mul_assoc, Int.mul_assoc, Int.mul_comm s])
theorem made_ok {x y z w : Int} (hx : bd 8000 x) (hy : bd 8000 y) (hz : bd 8000 z) (hw : bd 8000 w) (h : w ≠ 0) : F_made_spot [.int x, .int y, .int z, .int w] = .ok (D4 (mk4 x y z w)) := by
  rw [made_spot_spec hx hy hz hw, if_neg h]
  rfl
/-! ### the law's own -/
theorem law_lowest_spec {p : V4} (hb : V4.bd 8000 p) (h : IsG 1 p.l) : F_law_lowest [D4 p] = .ok (.bool true) := by
  unfold F_law_lowest
  refine den_of (· = _) ?_
  unfold m_law_lowest
  have s : ∀ {x y : Int}, bd 8000 y → F_law_divisor [.int x, .int y] = .ok (.int (Int.gcd x y)) := fun {x y} h => law_divisor_spec (h.mono (by decide))
  have s1 := s (x := 0) hb.1
  have s2 := s (x := Int.gcd 0 p.a) hb.2.1
  have s3 := s (x := Int.gcd (Int.gcd 0 p.a) p.b) hb.2.2.1
  have s4 := s (x := Int.gcd (Int.gcd (Int.gcd 0 p.a) p.b) p.c) hb.2.2.2
  have e : Int.gcd (Int.gcd (Int.gcd (Int.gcd 0 p.a) p.b) p.c) p.d = 1 := (isG_snoc (isG_snoc (isG_snoc (isG_snoc isG_nil)))).uniq h fun x => by simp [V4.l]
  clear s
  walk_at "evh"
/-- by their greatest divisor, begun with the last -/
theorem by_four {x y z w : Int} {n : Nat} (bx : bd n x) (by' : bd n y) (bz : bd n z) (bw : bd n w) (hn : n ≤ 8000) (h : 1 ≤ w) :
    F_law_divisor [.int w, .int x] = .ok (.int (Int.gcd w x)) ∧ F_law_divisor [.int (Int.gcd w x), .int y] = .ok (.int (Int.gcd (Int.gcd w x) y)) ∧ F_law_divisor [.int (Int.gcd (Int.gcd w x) y), .int z] = .ok (.int (Int.gcd (Int.gcd (Int.gcd w x) y) z)) ∧
    DivOk (Int.gcd (Int.gcd (Int.gcd w x : Int) y : Int) z : Int) ∧ T4 (x.fdiv (Int.gcd (Int.gcd (Int.gcd w x : Int) y : Int) z : Int)) (y.fdiv (Int.gcd (Int.gcd (Int.gcd w x : Int) y : Int) z : Int)) (z.fdiv (Int.gcd (Int.gcd (Int.gcd w x : Int) y : Int) z : Int)) (w.fdiv (Int.gcd (Int.gcd (Int.gcd w x : Int) y : Int) z : Int)) = D4 (mk4 x y z w) := by
  have wne : w ≠ 0 := by omega
  have hg : IsG (Int.gcd (Int.gcd (Int.gcd w x : Int) y : Int) z) [w, x, y, z] := isG_snoc (isG_snoc (isG_two (a := w) (b := x)))
  have hgp := hg.pos (x := w) (by simp) wne
  have hgb : bd n ((Int.gcd (Int.gcd (Int.gcd w x : Int) y : Int) z : Nat) : Int) := hg.bd (x := w) (by simp) wne bw
  have e1 : sBy x y z w = ((Int.gcd (Int.gcd (Int.gcd w x : Int) y : Int) z : Nat) : Int) := by
    unfold sBy
    rw [if_neg (by omega), isG_g4.uniq hg (by intro v; simp only [List.mem_cons, List.not_mem_nil, or_false]; grind)]
  refine ⟨law_divisor_spec (bx.mono (by omega)), law_divisor_spec (by'.mono (by omega)), law_divisor_spec (bz.mono (by omega)), divOk (by omega) (hgb.mono hn) (by decide), ?_⟩
  simp only [D4, mk4, e1]
theorem law_made_spec {x y z w : Int} (bx : bd 8000 x) (by' : bd 8000 y) (bz : bd 8000 z) (bw : bd 8000 w) (h : 1 ≤ w) : F_law_made [.list [.int x, .int y, .int z], .int w] = .ok (D4 (mk4 x y z w)) := by
  unfold F_law_made
  refine den_of (· = _) ?_
  unfold m_law_made
  obtain ⟨s1, s2, s3, s4, s5⟩ := by_four bx by' bz bw (by decide) h
  walk_at "evh"
end Bs

end
section
namespace Bs
open PySem PySem.Spec L2
open PyProof.Rows hiding St
local macro_rules | `(tactic| walk_at "side") => `(tactic| first | assumption | decide | omega)
local macro_rules | `(tactic| walk_at "bdt") => `(tactic| first
  | assumption
  | (with_reducible apply bd_mul <;> walk_at "bdt")
  | (with_reducible apply bd_add <;> walk_at "bdt")
  | (with_reducible apply bd_sub <;> walk_at "bdt")
  | (with_reducible apply bd_neg <;> walk_at "bdt")
  | (with_reducible apply bd_fdiv <;> walk_at "bdt")
  | (with_reducible apply bd_iteP <;> walk_at "bdt")
  | (with_reducible apply bd_fmod <;> first | walk_at "side" | walk_at "bdt")
  | exact bd_self)
local macro_rules | `(tactic| walk_at "dis") => `(tactic| first
  | assumption
  | (with_reducible apply mulOk; (focus walk_at "bdt"); (focus walk_at "bdt"); decide +kernel)
  | (with_reducible apply divOk; (focus walk_at "side"); (focus walk_at "bdt"); decide +kernel)
  | (with_reducible apply bd_in; (focus walk_at "bdt"); decide +kernel)
  | decide | omega | (simp only [List.length_cons, List.length_nil, List.length_map]; omega))
local macro_rules | `(tactic| walk_at "ev") => `(tactic| simp (disch := walk_at "dis") only [startS, List.map_cons, List.map_nil, List.length_cons, List.length_nil, Nat.reduceAdd, Nat.reduceSub, Nat.zero_add, List.replicate, List.cons_append, List.nil_append,
  WB_nil, WB_cons, WB_frz, WS_pass, WS_ret, WS_retN, WS_set, WS_for, valI_rng1E, valI_rng2E, valI_seqE, valI_enumE, valI_zipE, bind_iters, lpc_nx, lpc_ct, lpc_bk, lpc_rt, lpc_ex, LP_cons_nm, LP_nilE, WS_stI, STI_some, WS_stS, STS_some, sts1_app, sts2_app, List.drop_succ_cons, List.drop_zero, stk1_app, stk2_app, stL_zero, stL_succ, WS_setN, newS_def, lsOf_list, ownk_app, WS_appE, ownAt_zero, ownAt_succ, APP_some, appk_app, bi_listL, bi_listT, bi_tupL, WS_unp, unp_sat, WS_par, WS_exs, WS_iff, WS_raise, WS_brk, WS_cont, RP_ok, RP_exc, only_nx, only_rt, only_bk, only_ct, only_ex, onlyL_nx, onlyL_rt, onlyL_bk, onlyL_ct, onlyL_ex, mid_nx, mid_rt, mid_bk, mid_ct, mid_ex, lp_nx, lp_rt, lp_bk, lp_ct, lp_ex, then_nx, then_rt, then_bk, then_ct, then_ex, setk_app, ownk_app, exk_app, ifk_app, unpk_app, nxk_app, lpk_app, par2_app, par1_app, R.bind_ok, R.bind_exc, valS_def, lfree_int, lfree_bool, lfree_str, lfree_none, lfree_tup, lfree_list, lfrees_nil, lfrees_cons, Bool.and_true, Bool.true_and, Bool.true_or, Bool.or_true, Bool.false_or, Bool.or_false, if_true, if_false, ite_true, ite_false, if_pos,
  setAllS, set_zero, set_succ, fullE_nil, fullE_cons, full_fr, full_ow, full_un, cleanE_nil, cleanE_cons, clean_fr, clean_ow, clean_un, noOwn_nil, noOwn_fr, noOwn_un, noOwn_ow, frz_zero, frz_succ, frz_zero_fr, frz_zero_un, getE_zero, getE_succ, sel_zero, sel_succ, ofB_bool,
  evE, evEs, bop_add, bop_sub, bop_mulE, bop_fdivE, bop_mod, bop_powE, bop_addL, cop_lt, cop_le, cop_gt, cop_ge, cop_eqI, cop_neI, cop_eqB, cop_neB, cop_neLi0, cop_eqLi0, cop_eqT2, cop_neT2, cop_eqT4, cop_neT4, ix_Li, ix0, ix1, ix2, ix3, ixL0, ixL1, ixL2, ixL3, iters_list, iters_tup, iters_enum, iters_rng1, asg_nm, wipe_nil, wipe_cons, tst_nil, tst_one, noX_ok, lcD_lit, compL_nil, compL_cons, partD_nil, partD_one, slop_T4_3, slop_L4_3, List.sum_cons, List.sum_nil, cop_eqL3, cop_neL2, cop_eqL1n, cop_eqL2n, cop_eqL3n, rngD_0, rngD_1, rngD_2, rngD_3, rngD_4, rngD_5, iters_rng2_13, iters_rng2_23, iters_rng2_33, bi_max1E, maxL_cons, Option.toList, List.append_nil, optB_some, bi_allE, boolsD_nil, boolsD_cons, boolsD_map, optI_some, bi_sumE, intsD_nil, intsD_cons, intsD_map, Option.map_some, Option.toList_some, Option.toList_none, setE_zero, setE_succ, List.all_cons, List.all_nil, id, Int.reduceToNat, Int.cast_ofNat_Int, ite_okB, ite_self, Bool.if_true_left, Bool.if_true_right, Bool.if_false_left, Bool.if_false_right, Bool.and_eq_true, Bool.or_eq_true, Bool.or_eq_false_iff, Bool.and_eq_false_iff, beq_self_eq_true, Bool.true_eq_false, not_true_eq_false, not_false_eq_true, decide_true, decide_false,  isi_int_int, isi_bool_int, isi_bool_bool, isi_tup_tup, List.length_map, bi_len, bi_lenT, bi_abs, bi_max2, bi_min2, bi_intB, bi_intI, decide_eq_true_eq, decide_eq_false_iff_not, Bool.not_eq_true', Bool.not_eq_false', Bool.not_eq_true, Bool.not_true, Bool.not_false, ne_eq, Bool.false_eq_true, false_implies, true_implies, and_true, true_and, false_and, and_false, imp_false, implies_true])
local macro_rules | `(tactic| walk_at "es") => `(tactic| simp (disch := walk_at "dis") only [startS, List.map_cons, List.map_nil, List.length_cons, List.length_nil, Nat.reduceAdd, Nat.reduceSub, Nat.zero_add, List.replicate, List.cons_append, List.nil_append,
  WB_nil, WB_cons, WB_frz, WS_pass, WS_ret, WS_retN, WS_set, WS_for, valI_rng1E, valI_rng2E, valI_seqE, valI_enumE, valI_zipE, bind_iters, lpc_nx, lpc_ct, lpc_bk, lpc_rt, lpc_ex, LP_cons_nm, LP_nilE, WS_stI, STI_some, WS_stS, STS_some, sts1_app, sts2_app, List.drop_succ_cons, List.drop_zero, stk1_app, stk2_app, stL_zero, stL_succ, WS_setN, newS_def, lsOf_list, ownk_app, WS_appE, ownAt_zero, ownAt_succ, APP_some, appk_app, bi_listL, bi_listT, bi_tupL, WS_unp, unp_sat, WS_par, WS_exs, WS_raise, WS_brk, WS_cont, RP_ok, RP_exc, only_nx, only_rt, only_bk, only_ct, only_ex, onlyL_nx, onlyL_rt, onlyL_bk, onlyL_ct, onlyL_ex, mid_nx, mid_rt, mid_bk, mid_ct, mid_ex, lp_nx, lp_rt, lp_bk, lp_ct, lp_ex, then_nx, then_rt, then_bk, then_ct, then_ex, setk_app, ownk_app, exk_app, ifk_app, unpk_app, nxk_app, lpk_app, par2_app, par1_app, R.bind_ok, R.bind_exc, valS_def, lfree_int, lfree_bool, lfree_str, lfree_none, lfree_tup, lfree_list, lfrees_nil, lfrees_cons, Bool.and_true, Bool.true_and, Bool.true_or, Bool.or_true, Bool.false_or, Bool.or_false, if_true, if_false, ite_true, ite_false, if_pos,
  setAllS, set_zero, set_succ, fullE_nil, fullE_cons, full_fr, full_ow, full_un, cleanE_nil, cleanE_cons, clean_fr, clean_ow, clean_un, noOwn_nil, noOwn_fr, noOwn_un, noOwn_ow, frz_zero, frz_succ, frz_zero_fr, frz_zero_un, getE_zero, getE_succ, sel_zero, sel_succ, ofB_bool,
  evE, evEs, bop_add, bop_sub, bop_mulE, bop_fdivE, bop_mod, bop_powE, bop_addL, cop_lt, cop_le, cop_gt, cop_ge, cop_eqI, cop_neI, cop_eqB, cop_neB, cop_neLi0, cop_eqLi0, cop_eqT2, cop_neT2, cop_eqT4, cop_neT4, ix_Li, ix0, ix1, ix2, ix3, ixL0, ixL1, ixL2, ixL3, iters_list, iters_tup, iters_enum, iters_rng1, asg_nm, wipe_nil, wipe_cons, tst_nil, tst_one, noX_ok, lcD_lit, compL_nil, compL_cons, partD_nil, partD_one, slop_T4_3, slop_L4_3, List.sum_cons, List.sum_nil, cop_eqL3, cop_neL2, cop_eqL1n, cop_eqL2n, cop_eqL3n, rngD_0, rngD_1, rngD_2, rngD_3, rngD_4, rngD_5, iters_rng2_13, iters_rng2_23, iters_rng2_33, bi_max1E, maxL_cons, Option.toList, List.append_nil, optB_some, bi_allE, boolsD_nil, boolsD_cons, boolsD_map, optI_some, bi_sumE, intsD_nil, intsD_cons, intsD_map, Option.map_some, Option.toList_some, Option.toList_none, setE_zero, setE_succ, List.all_cons, List.all_nil, id, Int.reduceToNat, Int.cast_ofNat_Int, ite_okB, ite_self, Bool.if_true_left, Bool.if_true_right, Bool.if_false_left, Bool.if_false_right, Bool.and_eq_true, Bool.or_eq_true, Bool.or_eq_false_iff, Bool.and_eq_false_iff, beq_self_eq_true, Bool.true_eq_false, not_true_eq_false, not_false_eq_true, decide_true, decide_false,  isi_int_int, isi_bool_int, isi_bool_bool, isi_tup_tup, List.length_map, bi_len, bi_lenT, bi_abs, bi_max2, bi_min2, bi_intB, bi_intI, decide_eq_true_eq, decide_eq_false_iff_not, Bool.not_eq_true', Bool.not_eq_false', Bool.not_eq_true, Bool.not_true, Bool.not_false, ne_eq, Bool.false_eq_true, false_implies, true_implies, and_true, true_and, false_and, and_false, imp_false, implies_true])
local macro_rules | `(tactic| walk_at "evh") => `(tactic| simp (disch := walk_at "dis") only [startS, List.map_cons, List.map_nil, List.length_cons, List.length_nil, Nat.reduceAdd, Nat.reduceSub, Nat.zero_add, List.replicate, List.cons_append, List.nil_append,
  WB_nil, WB_cons, WB_frz, WS_pass, WS_ret, WS_retN, WS_set, WS_for, valI_rng1E, valI_rng2E, valI_seqE, valI_enumE, valI_zipE, bind_iters, lpc_nx, lpc_ct, lpc_bk, lpc_rt, lpc_ex, LP_cons_nm, LP_nilE, WS_stI, STI_some, WS_stS, STS_some, sts1_app, sts2_app, List.drop_succ_cons, List.drop_zero, stk1_app, stk2_app, stL_zero, stL_succ, WS_setN, newS_def, lsOf_list, ownk_app, WS_appE, ownAt_zero, ownAt_succ, APP_some, appk_app, bi_listL, bi_listT, bi_tupL, WS_unp, unp_sat, WS_par, WS_exs, WS_iff, WS_raise, WS_brk, WS_cont, RP_ok, RP_exc, only_nx, only_rt, only_bk, only_ct, only_ex, onlyL_nx, onlyL_rt, onlyL_bk, onlyL_ct, onlyL_ex, mid_nx, mid_rt, mid_bk, mid_ct, mid_ex, lp_nx, lp_rt, lp_bk, lp_ct, lp_ex, then_nx, then_rt, then_bk, then_ct, then_ex, setk_app, ownk_app, exk_app, ifk_app, unpk_app, nxk_app, lpk_app, par2_app, par1_app, R.bind_ok, R.bind_exc, valS_def, lfree_int, lfree_bool, lfree_str, lfree_none, lfree_tup, lfree_list, lfrees_nil, lfrees_cons, Bool.and_true, Bool.true_and, Bool.true_or, Bool.or_true, Bool.false_or, Bool.or_false, if_true, if_false, ite_true, ite_false, if_pos,
  setAllS, set_zero, set_succ, fullE_nil, fullE_cons, full_fr, full_ow, full_un, cleanE_nil, cleanE_cons, clean_fr, clean_ow, clean_un, noOwn_nil, noOwn_fr, noOwn_un, noOwn_ow, frz_zero, frz_succ, frz_zero_fr, frz_zero_un, getE_zero, getE_succ, sel_zero, sel_succ, ofB_bool,
  evE, evEs, bop_add, bop_sub, bop_mulE, bop_fdivE, bop_mod, bop_powE, bop_addL, cop_lt, cop_le, cop_gt, cop_ge, cop_eqI, cop_neI, cop_eqB, cop_neB, cop_neLi0, cop_eqLi0, cop_eqT2, cop_neT2, cop_eqT4, cop_neT4, ix_Li, ix0, ix1, ix2, ix3, ixL0, ixL1, ixL2, ixL3, iters_list, iters_tup, iters_enum, iters_rng1, asg_nm, wipe_nil, wipe_cons, tst_nil, tst_one, noX_ok, lcD_lit, compL_nil, compL_cons, partD_nil, partD_one, slop_T4_3, slop_L4_3, List.sum_cons, List.sum_nil, cop_eqL3, cop_neL2, cop_eqL1n, cop_eqL2n, cop_eqL3n, rngD_0, rngD_1, rngD_2, rngD_3, rngD_4, rngD_5, iters_rng2_13, iters_rng2_23, iters_rng2_33, bi_max1E, maxL_cons, Option.toList, List.append_nil, optB_some, bi_allE, boolsD_nil, boolsD_cons, boolsD_map, optI_some, bi_sumE, intsD_nil, intsD_cons, intsD_map, Option.map_some, Option.toList_some, Option.toList_none, setE_zero, setE_succ, List.all_cons, List.all_nil, id, Int.reduceToNat, Int.cast_ofNat_Int, ite_okB, ite_self, Bool.if_true_left, Bool.if_true_right, Bool.if_false_left, Bool.if_false_right, Bool.and_eq_true, Bool.or_eq_true, Bool.or_eq_false_iff, Bool.and_eq_false_iff, beq_self_eq_true, Bool.true_eq_false, not_true_eq_false, not_false_eq_true, decide_true, decide_false,  isi_int_int, isi_bool_int, isi_bool_bool, isi_tup_tup, List.length_map, bi_len, bi_lenT, bi_abs, bi_max2, bi_min2, bi_intB, bi_intI, decide_eq_true_eq, decide_eq_false_iff_not, Bool.not_eq_true', Bool.not_eq_false', Bool.not_eq_true, Bool.not_true, Bool.not_false, ne_eq, Bool.false_eq_true, false_implies, true_implies, and_true, true_and, false_and, and_false, imp_false, implies_true, *])
local macro_rules | `(tactic| walk_at "esh") => `(tactic| simp (disch := walk_at "dis") only [startS, List.map_cons, List.map_nil, List.length_cons, List.length_nil, Nat.reduceAdd, Nat.reduceSub, Nat.zero_add, List.replicate, List.cons_append, List.nil_append,
  WB_nil, WB_cons, WB_frz, WS_pass, WS_ret, WS_retN, WS_set, WS_for, valI_rng1E, valI_rng2E, valI_seqE, valI_enumE, valI_zipE, bind_iters, lpc_nx, lpc_ct, lpc_bk, lpc_rt, lpc_ex, LP_cons_nm, LP_nilE, WS_stI, STI_some, WS_stS, STS_some, sts1_app, sts2_app, List.drop_succ_cons, List.drop_zero, stk1_app, stk2_app, stL_zero, stL_succ, WS_setN, newS_def, lsOf_list, ownk_app, WS_appE, ownAt_zero, ownAt_succ, APP_some, appk_app, bi_listL, bi_listT, bi_tupL, WS_unp, unp_sat, WS_par, WS_exs, WS_raise, WS_brk, WS_cont, RP_ok, RP_exc, only_nx, only_rt, only_bk, only_ct, only_ex, onlyL_nx, onlyL_rt, onlyL_bk, onlyL_ct, onlyL_ex, mid_nx, mid_rt, mid_bk, mid_ct, mid_ex, lp_nx, lp_rt, lp_bk, lp_ct, lp_ex, then_nx, then_rt, then_bk, then_ct, then_ex, setk_app, ownk_app, exk_app, ifk_app, unpk_app, nxk_app, lpk_app, par2_app, par1_app, R.bind_ok, R.bind_exc, valS_def, lfree_int, lfree_bool, lfree_str, lfree_none, lfree_tup, lfree_list, lfrees_nil, lfrees_cons, Bool.and_true, Bool.true_and, Bool.true_or, Bool.or_true, Bool.false_or, Bool.or_false, if_true, if_false, ite_true, ite_false, if_pos,
  setAllS, set_zero, set_succ, fullE_nil, fullE_cons, full_fr, full_ow, full_un, cleanE_nil, cleanE_cons, clean_fr, clean_ow, clean_un, noOwn_nil, noOwn_fr, noOwn_un, noOwn_ow, frz_zero, frz_succ, frz_zero_fr, frz_zero_un, getE_zero, getE_succ, sel_zero, sel_succ, ofB_bool,
  evE, evEs, bop_add, bop_sub, bop_mulE, bop_fdivE, bop_mod, bop_powE, bop_addL, cop_lt, cop_le, cop_gt, cop_ge, cop_eqI, cop_neI, cop_eqB, cop_neB, cop_neLi0, cop_eqLi0, cop_eqT2, cop_neT2, cop_eqT4, cop_neT4, ix_Li, ix0, ix1, ix2, ix3, ixL0, ixL1, ixL2, ixL3, iters_list, iters_tup, iters_enum, iters_rng1, asg_nm, wipe_nil, wipe_cons, tst_nil, tst_one, noX_ok, lcD_lit, compL_nil, compL_cons, partD_nil, partD_one, slop_T4_3, slop_L4_3, List.sum_cons, List.sum_nil, cop_eqL3, cop_neL2, cop_eqL1n, cop_eqL2n, cop_eqL3n, rngD_0, rngD_1, rngD_2, rngD_3, rngD_4, rngD_5, iters_rng2_13, iters_rng2_23, iters_rng2_33, bi_max1E, maxL_cons, Option.toList, List.append_nil, optB_some, bi_allE, boolsD_nil, boolsD_cons, boolsD_map, optI_some, bi_sumE, intsD_nil, intsD_cons, intsD_map, Option.map_some, Option.toList_some, Option.toList_none, setE_zero, setE_succ, List.all_cons, List.all_nil, id, Int.reduceToNat, Int.cast_ofNat_Int, ite_okB, ite_self, Bool.if_true_left, Bool.if_true_right, Bool.if_false_left, Bool.if_false_right, Bool.and_eq_true, Bool.or_eq_true, Bool.or_eq_false_iff, Bool.and_eq_false_iff, beq_self_eq_true, Bool.true_eq_false, not_true_eq_false, not_false_eq_true, decide_true, decide_false,  isi_int_int, isi_bool_int, isi_bool_bool, isi_tup_tup, List.length_map, bi_len, bi_lenT, bi_abs, bi_max2, bi_min2, bi_intB, bi_intI, decide_eq_true_eq, decide_eq_false_iff_not, Bool.not_eq_true', Bool.not_eq_false', Bool.not_eq_true, Bool.not_true, Bool.not_false, ne_eq, Bool.false_eq_true, false_implies, true_implies, and_true, true_and, false_and, and_false, imp_false, implies_true, *])
local macro_rules | `(tactic| walk_at "eslh") => `(tactic| simp (disch := walk_at "dis") only [startS, List.map_cons, List.map_nil, List.length_cons, List.length_nil, Nat.reduceAdd, Nat.reduceSub, Nat.zero_add, List.replicate, List.cons_append, List.nil_append,
  WB_nil, WB_cons, WB_frz, WS_pass, WS_ret, WS_retN, WS_set, WS_for, valI_rng1E, valI_rng2E, valI_seqE, valI_enumE, valI_zipE, bind_iters, lpc_nx, lpc_ct, lpc_bk, lpc_rt, lpc_ex, WS_stI, STI_some, WS_stS, STS_some, sts1_app, sts2_app, List.drop_succ_cons, List.drop_zero, stk1_app, stk2_app, stL_zero, stL_succ, WS_setN, newS_def, lsOf_list, ownk_app, WS_appE, ownAt_zero, ownAt_succ, APP_some, appk_app, bi_listL, bi_listT, bi_tupL, WS_unp, unp_sat, WS_par, WS_exs, WS_raise, WS_brk, WS_cont, RP_ok, RP_exc, only_nx, only_rt, only_bk, only_ct, only_ex, onlyL_nx, onlyL_rt, onlyL_bk, onlyL_ct, onlyL_ex, mid_nx, mid_rt, mid_bk, mid_ct, mid_ex, lp_nx, lp_rt, lp_bk, lp_ct, lp_ex, then_nx, then_rt, then_bk, then_ct, then_ex, setk_app, ownk_app, exk_app, ifk_app, unpk_app, nxk_app, lpk_app, par2_app, par1_app, R.bind_ok, R.bind_exc, valS_def, lfree_int, lfree_bool, lfree_str, lfree_none, lfree_tup, lfree_list, lfrees_nil, lfrees_cons, Bool.and_true, Bool.true_and, Bool.true_or, Bool.or_true, Bool.false_or, Bool.or_false, if_true, if_false, ite_true, ite_false, if_pos,
  setAllS, set_zero, set_succ, fullE_nil, fullE_cons, full_fr, full_ow, full_un, cleanE_nil, cleanE_cons, clean_fr, clean_ow, clean_un, noOwn_nil, noOwn_fr, noOwn_un, noOwn_ow, frz_zero, frz_succ, frz_zero_fr, frz_zero_un, getE_zero, getE_succ, sel_zero, sel_succ, ofB_bool,
  evE, evEs, bop_add, bop_sub, bop_mulE, bop_fdivE, bop_mod, bop_powE, bop_addL, cop_lt, cop_le, cop_gt, cop_ge, cop_eqI, cop_neI, cop_eqB, cop_neB, cop_neLi0, cop_eqLi0, cop_eqT2, cop_neT2, cop_eqT4, cop_neT4, ix_Li, ix0, ix1, ix2, ix3, ixL0, ixL1, ixL2, ixL3, iters_list, iters_tup, iters_enum, iters_rng1, asg_nm, wipe_nil, wipe_cons, tst_nil, tst_one, noX_ok, lcD_lit, compL_nil, compL_cons, partD_nil, partD_one, slop_T4_3, slop_L4_3, List.sum_cons, List.sum_nil, cop_eqL3, cop_neL2, cop_eqL1n, cop_eqL2n, cop_eqL3n, rngD_0, rngD_1, rngD_2, rngD_3, rngD_4, rngD_5, iters_rng2_13, iters_rng2_23, iters_rng2_33, bi_max1E, maxL_cons, Option.toList, List.append_nil, optB_some, bi_allE, boolsD_nil, boolsD_cons, boolsD_map, optI_some, bi_sumE, intsD_nil, intsD_cons, intsD_map, Option.map_some, Option.toList_some, Option.toList_none, setE_zero, setE_succ, List.all_cons, List.all_nil, id, Int.reduceToNat, Int.cast_ofNat_Int, ite_okB, ite_self, Bool.if_true_left, Bool.if_true_right, Bool.if_false_left, Bool.if_false_right, Bool.and_eq_true, Bool.or_eq_true, Bool.or_eq_false_iff, Bool.and_eq_false_iff, beq_self_eq_true, Bool.true_eq_false, not_true_eq_false, not_false_eq_true, decide_true, decide_false,  isi_int_int, isi_bool_int, isi_bool_bool, isi_tup_tup, List.length_map, bi_len, bi_lenT, bi_abs, bi_max2, bi_min2, bi_intB, bi_intI, decide_eq_true_eq, decide_eq_false_iff_not, Bool.not_eq_true', Bool.not_eq_false', Bool.not_eq_true, Bool.not_true, Bool.not_false, ne_eq, Bool.false_eq_true, false_implies, true_implies, and_true, true_and, false_and, and_false, imp_false, implies_true, *])
theorem law_spot_ex {ns : List Int} {k : Int} (hl : ns.length ≤ 63) (h0 : 0 ≤ k) (h1 : k ≤ 99990) : ∃ p : V4, F_law_spot [Li ns, .int k] = .ok (D4 p) ∧ V4.bd 104 p ∧ Spot p := by
  unfold F_law_spot
  refine den_of (fun r => ∃ p : V4, r = .ok (D4 p) ∧ V4.bd 104 p ∧ Spot p) ?_
  unfold m_law_spot
  obtain ⟨s0, s01, s02⟩ := law_number_spec (ns := ns) (k := k + 0) hl (by omega) (by omega)
  obtain ⟨s1, s11, s12⟩ := law_number_spec (ns := ns) (k := k + 1) hl (by omega) (by omega)
  obtain ⟨s2, s21, s22⟩ := law_number_spec (ns := ns) (k := k + 2) hl (by omega) (by omega)
  obtain ⟨s3, s31, s32⟩ := law_number_spec (ns := ns) (k := k + 3) hl (by omega) (by omega)
  generalize numb ns (k + 0) = n0 at *
  generalize numb ns (k + 1) = n1 at *
  generalize numb ns (k + 2) = n2 at *
  generalize numb ns (k + 3) = n3 at *
  obtain ⟨t0, t01, t02⟩ := law_int_spec s01 s02
  obtain ⟨t1, t11, t12⟩ := law_int_spec s11 s12
  obtain ⟨t2, t21, t22⟩ := law_int_spec s21 s22
  have f0 := Int.fdiv_nonneg s31 (show (0 : Int) ≤ 2 by decide)
  have f1 : n3.fdiv 2 < 10 ^ 31 := by
    have := natAbs_fdiv_le n3 2
    omega
  obtain ⟨t3, t31, t32⟩ := law_int_spec f0 f1
  generalize intX n0 = x at *
  generalize intX n1 = y at *
  generalize intX n2 = z at *
  have bx : bd 103 x := by unfold bd; omega
  have by' : bd 103 y := by unfold bd; omega
  have bz : bd 103 z := by unfold bd; omega
  have b3 : bd 103 n3 := by unfold bd; omega
  walk_at "esh"
  refine WS_only (P := fun e => ∃ w : Int, e = [.fr (Li ns), .fr (.int k), .fr (.list [.int x, .int y, .int z]), .un, .fr (.int w), .un, .un] ∧ 1 ≤ w ∧ w < 10 ^ 31) ?_ ?_
  · have q0 : 0 ≤ (↑(intX (n3.fdiv 2)).natAbs : Int).fmod (10 ^ 30 - 1) := Int.fmod_nonneg_of_pos _ (by decide)
    have q1 : (↑(intX (n3.fdiv 2)).natAbs : Int).fmod (10 ^ 30 - 1) < 10 ^ 30 - 1 := Int.fmod_lt_of_pos _ (by decide)
    generalize hq : (↑(intX (n3.fdiv 2)).natAbs : Int).fmod (10 ^ 30 - 1) = q at q0 q1
    walk_at "evh"
    exact ⟨fun _ => ⟨_, rfl, by omega, by omega⟩, fun _ => ⟨_, rfl, by omega, by omega⟩⟩
  · rintro e ⟨w, rfl, hw0, hw1⟩
    have bw : bd 104 w := by unfold bd; omega
    have wne : w ≠ 0 := by omega
    have u0 := law_divisor_spec (a := w) (bx.mono (by decide : 103 ≤ 4000000))
    have u1 := law_divisor_spec (a := (Int.gcd w x : Int)) (by'.mono (by decide : 103 ≤ 4000000))
    have u2 := law_divisor_spec (a := (Int.gcd (Int.gcd w x : Int) y : Int)) (bz.mono (by decide : 103 ≤ 4000000))
    have hg : IsG (Int.gcd (Int.gcd (Int.gcd w x : Int) y : Int) z) [w, x, y, z] := isG_snoc (isG_snoc (isG_two (a := w) (b := x)))
    have hgp := hg.pos (x := w) (by simp) wne
    have hgb : bd 104 ((Int.gcd (Int.gcd (Int.gcd w x : Int) y : Int) z : Nat) : Int) := hg.bd (x := w) (by simp) wne bw
    have hgn : ((Int.gcd (Int.gcd (Int.gcd w x : Int) y : Int) z : Nat) : Int) ≠ 0 := by omega
    have e1 : sBy x y z w = ((Int.gcd (Int.gcd (Int.gcd w x : Int) y : Int) z : Nat) : Int) := by
      unfold sBy
      rw [if_neg (by omega), isG_g4.uniq hg (by intro v; simp only [List.mem_cons, List.not_mem_nil, or_false]; grind)]
    clear hg hgp
    walk_at "esh"
    refine ⟨mk4 x y z w, ?_, mk4_bd (bx.mono (by decide)) (by'.mono (by decide)) (bz.mono (by decide)) bw, (mk4_eq wne).1⟩
    simp only [D4, mk4, e1]
theorem shared_ok {p q : V4} {t u : Int} (hp : V4.bd 1000 p) (hq : V4.bd 1000 q) (ht : bd 1000 t) (hu : bd 1000 u) (sp : Spot p) (sq : Spot q) (h : u ≠ 0) :
    F_shared_spot [D4 p, D4 q, T2 t u] = .ok (D4 (mk4 (p.a * (q.d * (u - t)) + q.a * (p.d * t)) (p.b * (q.d * (u - t)) + q.b * (p.d * t)) (p.c * (q.d * (u - t)) + q.c * (p.d * t)) (p.d * q.d * u))) := by
  unfold F_shared_spot
  refine den_of (· = _) ?_
  unfold m_shared_spot
  obtain ⟨p1, p2, p3, p4⟩ := hp
  obtain ⟨q1, q2, q3, q4⟩ := hq
  have hw : p.d * q.d * u ≠ 0 := mul_ne' (mul_ne' (by have := sp.pos; omega) (by have := sq.pos; omega)) h
  have s := made_ok (x := p.a * (q.d * (u - t)) + q.a * (p.d * t)) (y := p.b * (q.d * (u - t)) + q.b * (p.d * t)) (z := p.c * (q.d * (u - t)) + q.c * (p.d * t)) (w := p.d * q.d * u)
    (by walk_at "dis") (by walk_at "dis") (by walk_at "dis") (by walk_at "dis") hw
  walk_at "esh"
theorem fmod_cases4 {n : Int} (h : n.fmod 8 < 4) : n.fmod 8 = 0 ∨ n.fmod 8 = 1 ∨ n.fmod 8 = 2 ∨ n.fmod 8 = 3 := by
  have := Int.fmod_nonneg_of_pos n (show (0 : Int) < 8 by decide)
  omega
theorem law_share_ex {n : Int} (h0 : 0 ≤ n) (h1 : n < 10 ^ 31) : ∃ t u : Int, F_law_share [.int n] = .ok (T2 t u) ∧ bd 50 t ∧ bd 50 u ∧ 1 ≤ u := by
  unfold F_law_share
  refine den_of (fun r => ∃ t u : Int, r = .ok (T2 t u) ∧ bd 50 t ∧ bd 50 u ∧ 1 ≤ u) ?_
  unfold m_law_share
  have bn : bd 103 n := by unfold bd; omega
  walk_at "es"
  walk_at "ev"
  refine ⟨fun h => ?_, fun _ => ?_⟩
  · have hc := fmod_cases4 h
    generalize n.fmod 8 = w at hc ⊢
    rcases hc with rfl | rfl | rfl | rfl
    · walk_at "ev"
      exact ⟨_, _, rfl, by decide, by decide, by decide⟩
    · walk_at "ev"
      exact ⟨_, _, rfl, by decide, by decide, by decide⟩
    · walk_at "ev"
      exact ⟨_, _, rfl, by decide, by decide, by decide⟩
    · walk_at "ev"
      exact ⟨_, _, rfl, by decide, by decide, by decide⟩
  · have key : ∀ (t u : Int), bd 50 t → bd 50 u → 1 ≤ u → F_law_divisor [.int t, .int u] = .ok (.int (Int.gcd t u)) ∧ (Int.gcd t u : Int) ≠ 0 ∧ bd 50 (Int.gcd t u : Int) ∧ bd 50 (t.fdiv (Int.gcd t u : Int)) ∧ bd 50 (u.fdiv (Int.gcd t u : Int)) ∧ 1 ≤ u.fdiv (Int.gcd t u : Int) := fun t u ht hu h => by
      have hp := gcd_pos (a := t) (show u ≠ 0 by omega)
      have := (fr_spec (a := t) (show u ≠ 0 by omega)).1
      unfold fBot at this
      have e : fBy t u = (Int.gcd t u : Int) := by unfold fBy; rw [if_neg (by omega)]
      rw [e] at this
      exact ⟨law_divisor_spec (hu.mono (by decide)), by omega, bd_gcd (by omega) hu, bd_fdiv ht, bd_fdiv hu, this⟩
    have m0 : ∀ a m : Int, 0 < m → 0 ≤ a.fmod m ∧ a.fmod m < m := fun a m hm => ⟨Int.fmod_nonneg_of_pos _ hm, Int.fmod_lt_of_pos _ hm⟩
    refine ⟨fun _ => ?_, fun _ => ⟨fun _ => ?_, fun _ => ?_⟩⟩
    · have a1 := m0 (n.fdiv 8) 41 (by decide)
      have a2 := m0 ((n.fdiv 8).fdiv 41) 12 (by decide)
      generalize (n.fdiv 8).fmod 41 = x at *
      generalize ((n.fdiv 8).fdiv 41).fmod 12 = y at *
      obtain ⟨k1, k2, k3, k4, k5, k6⟩ := key (x - 20) (1 + y) (by unfold bd; omega) (by unfold bd; omega) (by omega)
      walk_at "evh"
      exact ⟨_, _, rfl, k4, k5, k6⟩
    · have a1 := m0 (n.fdiv 8) 11 (by decide)
      generalize (n.fdiv 8).fmod 11 = x at *
      obtain ⟨k1, k2, k3, k4, k5, k6⟩ := key (1 + x) 12 (by unfold bd; omega) (by decide) (by omega)
      walk_at "evh"
      exact ⟨_, _, rfl, k4, k5, k6⟩
    · have a1 := m0 (n.fdiv 8) (2 * 10 ^ 12 + 1) (by decide)
      have a2 := m0 ((n.fdiv 8).fdiv 7) (10 ^ 12) (by decide)
      generalize (n.fdiv 8).fmod (2 * 10 ^ 12 + 1) = x at *
      generalize ((n.fdiv 8).fdiv 7).fmod (10 ^ 12) = y at *
      obtain ⟨k1, k2, k3, k4, k5, k6⟩ := key (x - 10 ^ 12) (1 + y) (by unfold bd; omega) (by unfold bd; omega) (by omega)
      walk_at "evh"
      exact ⟨_, _, rfl, k4, k5, k6⟩
theorem k06_right {p q r : V4} {t u : Int} (hp : V4.bd 1000 p) (hq : V4.bd 1000 q) (hr : V4.bd 4000 r) (ht : bd 1000 t) (hu : bd 1000 u) (sr : Spot r)
    (w1 : r.a * (p.d * q.d * u) = (p.a * (q.d * (u - t)) + q.a * (p.d * t)) * r.d) (w2 : r.b * (p.d * q.d * u) = (p.b * (q.d * (u - t)) + q.b * (p.d * t)) * r.d) (w3 : r.c * (p.d * q.d * u) = (p.c * (q.d * (u - t)) + q.c * (p.d * t)) * r.d) :
    F_law_right_2 [D4 r, D4 p, D4 q, T2 t u] = .ok (.bool true) := by
  unfold F_law_right_2
  refine den_of (· = _) ?_
  unfold m_law_right_2
  have s1 := @law_tuple_T4
  have s2 := law_lowest_spec (hr.mono (by decide)) sr.low
  have s3 : ¬ r.d < 1 := by have := sr.pos; omega
  have e1 : r.d * (p.a * q.d * (u - t) + q.a * p.d * t) = r.a * (p.d * q.d * u) := by rw [w1, Int.mul_comm r.d, Int.mul_assoc p.a, Int.mul_assoc q.a]
  have e2 : r.d * (p.b * q.d * (u - t) + q.b * p.d * t) = r.b * (p.d * q.d * u) := by rw [w2, Int.mul_comm r.d, Int.mul_assoc p.b, Int.mul_assoc q.b]
  have e3 : r.d * (p.c * q.d * (u - t) + q.c * p.d * t) = r.c * (p.d * q.d * u) := by rw [w3, Int.mul_comm r.d, Int.mul_assoc p.c, Int.mul_assoc q.c]
  clear w1 w2 w3 sr
  obtain ⟨p1, p2, p3, p4⟩ := hp
  obtain ⟨q1, q2, q3, q4⟩ := hq
  obtain ⟨r1, r2, r3, r4⟩ := hr
  walk_at "esh"
  walk_at "evh"
theorem k06_law {ns : List Int} (hl : ns.length ≤ 63) : F_law_4 [Li ns] = .ok (.bool true) := by
  unfold F_law_4
  refine den_of (· = _) ?_
  unfold m_law_4
  have bl : bd 7 (ns.length : Int) := by unfold bd; omega
  walk_at "es"
  refine LP_rng (fun _ e => ∃ a b c d f : Sl, e = [.fr (Li ns), a, b, c, d, f]) ⟨_, _, _, _, _, rfl⟩ ?_ ?_
  · rintro i e hi ⟨a, b, c, d, f, rfl⟩
    have hi2 : i < 63 := by omega
    have b3 : bd 6 (i : Int) := by unfold bd; omega
    obtain ⟨p, s1, hp, sp⟩ := law_spot_ex (ns := ns) (k := 9 * (i : Int)) hl (by omega) (by omega)
    obtain ⟨q, s2, hq, sq⟩ := law_spot_ex (ns := ns) (k := 9 * (i : Int) + 4) hl (by omega) (by omega)
    obtain ⟨s3, s31, s32⟩ := law_number_spec (ns := ns) (k := 9 * (i : Int) + 8) hl (by omega) (by omega)
    generalize numb ns (9 * (i : Int) + 8) = n at *
    have f0 := Int.fdiv_nonneg s31 (show (0 : Int) ≤ 7 by decide)
    have f1 : n.fdiv 7 < 10 ^ 31 := by
      have := natAbs_fdiv_le n 7
      omega
    obtain ⟨t, u, s4, ht, hu, hu1⟩ := law_share_ex f0 f1
    walk_at "esh"
    refine WS_only (P := fun e => ∃ q : V4, e = [.fr (Li ns), .fr (.int i), .fr (D4 p), .fr (D4 q), .fr (.int n), f] ∧ V4.bd 104 q ∧ Spot q) ?_ ?_
    · walk_at "ev"
      exact ⟨fun _ => ⟨p, rfl, hp, sp⟩, fun _ => ⟨q, rfl, hq, sq⟩⟩
    · clear hq sq
      rintro e ⟨q, rfl, hq, sq⟩
      have hp' := hp.mono (by decide : 104 ≤ 1000)
      have hq' := hq.mono (by decide : 104 ≤ 1000)
      have ht' := ht.mono (by decide : 50 ≤ 1000)
      have hu' := hu.mono (by decide : 50 ≤ 1000)
      have une : u ≠ 0 := by omega
      have wne : p.d * q.d * u ≠ 0 := mul_ne' (mul_ne' (by have := sp.pos; omega) (by have := sq.pos; omega)) une
      have s5 := shared_ok hp' hq' ht' hu' sp sq une
      obtain ⟨p1, p2, p3, p4⟩ := hp'
      obtain ⟨q1, q2, q3, q4⟩ := hq'
      obtain ⟨w1, w2, w3⟩ := mk4_worth (x := p.a * (q.d * (u - t)) + q.a * (p.d * t)) (y := p.b * (q.d * (u - t)) + q.b * (p.d * t)) (z := p.c * (q.d * (u - t)) + q.c * (p.d * t)) wne
      have sr := (mk4_eq (x := p.a * (q.d * (u - t)) + q.a * (p.d * t)) (y := p.b * (q.d * (u - t)) + q.b * (p.d * t)) (z := p.c * (q.d * (u - t)) + q.c * (p.d * t)) wne).1
      have hr : V4.bd 4000 (mk4 (p.a * (q.d * (u - t)) + q.a * (p.d * t)) (p.b * (q.d * (u - t)) + q.b * (p.d * t)) (p.c * (q.d * (u - t)) + q.c * (p.d * t)) (p.d * q.d * u)) := mk4_bd (by walk_at "dis") (by walk_at "dis") (by walk_at "dis") (by walk_at "dis")
      have s6 := k06_right ⟨p1, p2, p3, p4⟩ ⟨q1, q2, q3, q4⟩ hr ht' hu' sr w1 w2 w3
      have s7 := shared_ok (t := 0) (u := 1) ⟨p1, p2, p3, p4⟩ ⟨q1, q2, q3, q4⟩ (by decide) (by decide) sp sq (by decide)
      have s8 := shared_ok (t := 1) (u := 1) ⟨p1, p2, p3, p4⟩ ⟨q1, q2, q3, q4⟩ (by decide) (by decide) sp sq (by decide)
      have wn1 : p.d * q.d * 1 ≠ 0 := mul_ne' (mul_ne' (by have := sp.pos; omega) (by have := sq.pos; omega)) (by decide)
      rw [mk4_of sp wn1 (by simp [Int.mul_comm, Int.mul_assoc, Int.mul_left_comm]) (by simp [Int.mul_comm, Int.mul_assoc, Int.mul_left_comm]) (by simp [Int.mul_comm, Int.mul_assoc, Int.mul_left_comm])] at s7
      rw [mk4_of sq wn1 (by simp [Int.mul_comm, Int.mul_assoc, Int.mul_left_comm]) (by simp [Int.mul_comm, Int.mul_assoc, Int.mul_left_comm]) (by simp [Int.mul_comm, Int.mul_assoc, Int.mul_left_comm])] at s8
      clear w1 w2 w3 sr hr sp sq
      walk_at "esh"
      walk_at "evh"
      exact ⟨_, _, _, _, _, rfl⟩
  · rintro e ⟨a, b, c, d, f, rfl⟩
    walk_at "ev"
end Bs

end
section
namespace Bs
open PySem PySem.Spec L2
open PyProof.Rows hiding St
local macro_rules | `(tactic| walk_at "side") => `(tactic| first | assumption | decide | omega)
local macro_rules | `(tactic| walk_at "bdt") => `(tactic| first
  | assumption
  | (with_reducible apply bd_mul <;> walk_at "bdt")
  | (with_reducible apply bd_add <;> walk_at "bdt")
  | (with_reducible apply bd_sub <;> walk_at "bdt")
  | (with_reducible apply bd_neg <;> walk_at "bdt")
  | (with_reducible apply bd_fdiv <;> walk_at "bdt")
  | (with_reducible apply bd_iteP <;> walk_at "bdt")
  | (with_reducible apply bd_fmod <;> first | walk_at "side" | walk_at "bdt")
  | exact bd_self)
local macro_rules | `(tactic| walk_at "dis") => `(tactic| first
  | assumption
  | (with_reducible apply mulOk; (focus walk_at "bdt"); (focus walk_at "bdt"); decide +kernel)
  | (with_reducible apply divOk; (focus walk_at "side"); (focus walk_at "bdt"); decide +kernel)
  | (with_reducible apply bd_in; (focus walk_at "bdt"); decide +kernel)
  | decide | omega | (simp only [List.length_cons, List.length_nil, List.length_map]; omega))
local macro_rules | `(tactic| walk_at "ev") => `(tactic| simp (disch := walk_at "dis") only [startS, List.map_cons, List.map_nil, List.length_cons, List.length_nil, Nat.reduceAdd, Nat.reduceSub, Nat.zero_add, List.replicate, List.cons_append, List.nil_append,
  WB_nil, WB_cons, WB_frz, WS_pass, WS_ret, WS_retN, WS_set, WS_for, valI_rng1E, valI_rng2E, valI_seqE, valI_enumE, valI_zipE, bind_iters, lpc_nx, lpc_ct, lpc_bk, lpc_rt, lpc_ex, LP_cons_nm, LP_nilE, WS_stI, STI_some, WS_stS, STS_some, sts1_app, sts2_app, List.drop_succ_cons, List.drop_zero, stk1_app, stk2_app, stL_zero, stL_succ, WS_setN, newS_def, lsOf_list, ownk_app, WS_appE, ownAt_zero, ownAt_succ, APP_some, appk_app, bi_listL, bi_listT, bi_tupL, WS_unp, unp_sat, WS_par, WS_exs, WS_iff, WS_raise, WS_brk, WS_cont, RP_ok, RP_exc, only_nx, only_rt, only_bk, only_ct, only_ex, onlyL_nx, onlyL_rt, onlyL_bk, onlyL_ct, onlyL_ex, mid_nx, mid_rt, mid_bk, mid_ct, mid_ex, lp_nx, lp_rt, lp_bk, lp_ct, lp_ex, then_nx, then_rt, then_bk, then_ct, then_ex, setk_app, ownk_app, exk_app, ifk_app, unpk_app, nxk_app, lpk_app, par2_app, par1_app, R.bind_ok, R.bind_exc, valS_def, lfree_int, lfree_bool, lfree_str, lfree_none, lfree_tup, lfree_list, lfrees_nil, lfrees_cons, Bool.and_true, Bool.true_and, Bool.true_or, Bool.or_true, Bool.false_or, Bool.or_false, if_true, if_false, ite_true, ite_false, if_pos,
  setAllS, set_zero, set_succ, fullE_nil, fullE_cons, full_fr, full_ow, full_un, cleanE_nil, cleanE_cons, clean_fr, clean_ow, clean_un, noOwn_nil, noOwn_fr, noOwn_un, noOwn_ow, frz_zero, frz_succ, frz_zero_fr, frz_zero_un, getE_zero, getE_succ, sel_zero, sel_succ, ofB_bool,
  evE, evEs, bop_add, bop_sub, bop_mulE, bop_fdivE, bop_mod, bop_powE, bop_addL, cop_lt, cop_le, cop_gt, cop_ge, cop_eqI, cop_neI, cop_eqB, cop_neB, cop_neLi0, cop_eqLi0, cop_eqT2, cop_neT2, cop_eqT4, cop_neT4, ix_Li, ix0, ix1, ix2, ix3, ixL0, ixL1, ixL2, ixL3, iters_list, iters_tup, iters_enum, iters_rng1, asg_nm, wipe_nil, wipe_cons, tst_nil, tst_one, noX_ok, lcD_lit, compL_nil, compL_cons, partD_nil, partD_one, slop_T4_3, slop_L4_3, List.sum_cons, List.sum_nil, cop_eqL3, cop_neL2, cop_eqL1n, cop_eqL2n, cop_eqL3n, rngD_0, rngD_1, rngD_2, rngD_3, rngD_4, rngD_5, iters_rng2_13, iters_rng2_23, iters_rng2_33, bi_max1E, maxL_cons, Option.toList, List.append_nil, optB_some, bi_allE, boolsD_nil, boolsD_cons, boolsD_map, optI_some, bi_sumE, intsD_nil, intsD_cons, intsD_map, Option.map_some, Option.toList_some, Option.toList_none, setE_zero, setE_succ, List.all_cons, List.all_nil, id, Int.reduceToNat, Int.cast_ofNat_Int, ite_okB, ite_self, Bool.if_true_left, Bool.if_true_right, Bool.if_false_left, Bool.if_false_right, Bool.and_eq_true, Bool.or_eq_true, Bool.or_eq_false_iff, Bool.and_eq_false_iff, beq_self_eq_true, Bool.true_eq_false, not_true_eq_false, not_false_eq_true, decide_true, decide_false,  isi_int_int, isi_bool_int, isi_bool_bool, isi_tup_tup, List.length_map, bi_len, bi_lenT, bi_abs, bi_max2, bi_min2, bi_intB, bi_intI, decide_eq_true_eq, decide_eq_false_iff_not, Bool.not_eq_true', Bool.not_eq_false', Bool.not_eq_true, Bool.not_true, Bool.not_false, ne_eq, Bool.false_eq_true, false_implies, true_implies, and_true, true_and, false_and, and_false, imp_false, implies_true])
local macro_rules | `(tactic| walk_at "es") => `(tactic| simp (disch := walk_at "dis") only [startS, List.map_cons, List.map_nil, List.length_cons, List.length_nil, Nat.reduceAdd, Nat.reduceSub, Nat.zero_add, List.replicate, List.cons_append, List.nil_append,
  WB_nil, WB_cons, WB_frz, WS_pass, WS_ret, WS_retN, WS_set, WS_for, valI_rng1E, valI_rng2E, valI_seqE, valI_enumE, valI_zipE, bind_iters, lpc_nx, lpc_ct, lpc_bk, lpc_rt, lpc_ex, LP_cons_nm, LP_nilE, WS_stI, STI_some, WS_stS, STS_some, sts1_app, sts2_app, List.drop_succ_cons, List.drop_zero, stk1_app, stk2_app, stL_zero, stL_succ, WS_setN, newS_def, lsOf_list, ownk_app, WS_appE, ownAt_zero, ownAt_succ, APP_some, appk_app, bi_listL, bi_listT, bi_tupL, WS_unp, unp_sat, WS_par, WS_exs, WS_raise, WS_brk, WS_cont, RP_ok, RP_exc, only_nx, only_rt, only_bk, only_ct, only_ex, onlyL_nx, onlyL_rt, onlyL_bk, onlyL_ct, onlyL_ex, mid_nx, mid_rt, mid_bk, mid_ct, mid_ex, lp_nx, lp_rt, lp_bk, lp_ct, lp_ex, then_nx, then_rt, then_bk, then_ct, then_ex, setk_app, ownk_app, exk_app, ifk_app, unpk_app, nxk_app, lpk_app, par2_app, par1_app, R.bind_ok, R.bind_exc, valS_def, lfree_int, lfree_bool, lfree_str, lfree_none, lfree_tup, lfree_list, lfrees_nil, lfrees_cons, Bool.and_true, Bool.true_and, Bool.true_or, Bool.or_true, Bool.false_or, Bool.or_false, if_true, if_false, ite_true, ite_false, if_pos,
  setAllS, set_zero, set_succ, fullE_nil, fullE_cons, full_fr, full_ow, full_un, cleanE_nil, cleanE_cons, clean_fr, clean_ow, clean_un, noOwn_nil, noOwn_fr, noOwn_un, noOwn_ow, frz_zero, frz_succ, frz_zero_fr, frz_zero_un, getE_zero, getE_succ, sel_zero, sel_succ, ofB_bool,
  evE, evEs, bop_add, bop_sub, bop_mulE, bop_fdivE, bop_mod, bop_powE, bop_addL, cop_lt, cop_le, cop_gt, cop_ge, cop_eqI, cop_neI, cop_eqB, cop_neB, cop_neLi0, cop_eqLi0, cop_eqT2, cop_neT2, cop_eqT4, cop_neT4, ix_Li, ix0, ix1, ix2, ix3, ixL0, ixL1, ixL2, ixL3, iters_list, iters_tup, iters_enum, iters_rng1, asg_nm, wipe_nil, wipe_cons, tst_nil, tst_one, noX_ok, lcD_lit, compL_nil, compL_cons, partD_nil, partD_one, slop_T4_3, slop_L4_3, List.sum_cons, List.sum_nil, cop_eqL3, cop_neL2, cop_eqL1n, cop_eqL2n, cop_eqL3n, rngD_0, rngD_1, rngD_2, rngD_3, rngD_4, rngD_5, iters_rng2_13, iters_rng2_23, iters_rng2_33, bi_max1E, maxL_cons, Option.toList, List.append_nil, optB_some, bi_allE, boolsD_nil, boolsD_cons, boolsD_map, optI_some, bi_sumE, intsD_nil, intsD_cons, intsD_map, Option.map_some, Option.toList_some, Option.toList_none, setE_zero, setE_succ, List.all_cons, List.all_nil, id, Int.reduceToNat, Int.cast_ofNat_Int, ite_okB, ite_self, Bool.if_true_left, Bool.if_true_right, Bool.if_false_left, Bool.if_false_right, Bool.and_eq_true, Bool.or_eq_true, Bool.or_eq_false_iff, Bool.and_eq_false_iff, beq_self_eq_true, Bool.true_eq_false, not_true_eq_false, not_false_eq_true, decide_true, decide_false,  isi_int_int, isi_bool_int, isi_bool_bool, isi_tup_tup, List.length_map, bi_len, bi_lenT, bi_abs, bi_max2, bi_min2, bi_intB, bi_intI, decide_eq_true_eq, decide_eq_false_iff_not, Bool.not_eq_true', Bool.not_eq_false', Bool.not_eq_true, Bool.not_true, Bool.not_false, ne_eq, Bool.false_eq_true, false_implies, true_implies, and_true, true_and, false_and, and_false, imp_false, implies_true])
local macro_rules | `(tactic| walk_at "evh") => `(tactic| simp (disch := walk_at "dis") only [startS, List.map_cons, List.map_nil, List.length_cons, List.length_nil, Nat.reduceAdd, Nat.reduceSub, Nat.zero_add, List.replicate, List.cons_append, List.nil_append,
  WB_nil, WB_cons, WB_frz, WS_pass, WS_ret, WS_retN, WS_set, WS_for, valI_rng1E, valI_rng2E, valI_seqE, valI_enumE, valI_zipE, bind_iters, lpc_nx, lpc_ct, lpc_bk, lpc_rt, lpc_ex, LP_cons_nm, LP_nilE, WS_stI, STI_some, WS_stS, STS_some, sts1_app, sts2_app, List.drop_succ_cons, List.drop_zero, stk1_app, stk2_app, stL_zero, stL_succ, WS_setN, newS_def, lsOf_list, ownk_app, WS_appE, ownAt_zero, ownAt_succ, APP_some, appk_app, bi_listL, bi_listT, bi_tupL, WS_unp, unp_sat, WS_par, WS_exs, WS_iff, WS_raise, WS_brk, WS_cont, RP_ok, RP_exc, only_nx, only_rt, only_bk, only_ct, only_ex, onlyL_nx, onlyL_rt, onlyL_bk, onlyL_ct, onlyL_ex, mid_nx, mid_rt, mid_bk, mid_ct, mid_ex, lp_nx, lp_rt, lp_bk, lp_ct, lp_ex, then_nx, then_rt, then_bk, then_ct, then_ex, setk_app, ownk_app, exk_app, ifk_app, unpk_app, nxk_app, lpk_app, par2_app, par1_app, R.bind_ok, R.bind_exc, valS_def, lfree_int, lfree_bool, lfree_str, lfree_none, lfree_tup, lfree_list, lfrees_nil, lfrees_cons, Bool.and_true, Bool.true_and, Bool.true_or, Bool.or_true, Bool.false_or, Bool.or_false, if_true, if_false, ite_true, ite_false, if_pos,
  setAllS, set_zero, set_succ, fullE_nil, fullE_cons, full_fr, full_ow, full_un, cleanE_nil, cleanE_cons, clean_fr, clean_ow, clean_un, noOwn_nil, noOwn_fr, noOwn_un, noOwn_ow, frz_zero, frz_succ, frz_zero_fr, frz_zero_un, getE_zero, getE_succ, sel_zero, sel_succ, ofB_bool,
  evE, evEs, bop_add, bop_sub, bop_mulE, bop_fdivE, bop_mod, bop_powE, bop_addL, cop_lt, cop_le, cop_gt, cop_ge, cop_eqI, cop_neI, cop_eqB, cop_neB, cop_neLi0, cop_eqLi0, cop_eqT2, cop_neT2, cop_eqT4, cop_neT4, ix_Li, ix0, ix1, ix2, ix3, ixL0, ixL1, ixL2, ixL3, iters_list, iters_tup, iters_enum, iters_rng1, asg_nm, wipe_nil, wipe_cons, tst_nil, tst_one, noX_ok, lcD_lit, compL_nil, compL_cons, partD_nil, partD_one, slop_T4_3, slop_L4_3, List.sum_cons, List.sum_nil, cop_eqL3, cop_neL2, cop_eqL1n, cop_eqL2n, cop_eqL3n, rngD_0, rngD_1, rngD_2, rngD_3, rngD_4, rngD_5, iters_rng2_13, iters_rng2_23, iters_rng2_33, bi_max1E, maxL_cons, Option.toList, List.append_nil, optB_some, bi_allE, boolsD_nil, boolsD_cons, boolsD_map, optI_some, bi_sumE, intsD_nil, intsD_cons, intsD_map, Option.map_some, Option.toList_some, Option.toList_none, setE_zero, setE_succ, List.all_cons, List.all_nil, id, Int.reduceToNat, Int.cast_ofNat_Int, ite_okB, ite_self, Bool.if_true_left, Bool.if_true_right, Bool.if_false_left, Bool.if_false_right, Bool.and_eq_true, Bool.or_eq_true, Bool.or_eq_false_iff, Bool.and_eq_false_iff, beq_self_eq_true, Bool.true_eq_false, not_true_eq_false, not_false_eq_true, decide_true, decide_false,  isi_int_int, isi_bool_int, isi_bool_bool, isi_tup_tup, List.length_map, bi_len, bi_lenT, bi_abs, bi_max2, bi_min2, bi_intB, bi_intI, decide_eq_true_eq, decide_eq_false_iff_not, Bool.not_eq_true', Bool.not_eq_false', Bool.not_eq_true, Bool.not_true, Bool.not_false, ne_eq, Bool.false_eq_true, false_implies, true_implies, and_true, true_and, false_and, and_false, imp_false, implies_true, *])
local macro_rules | `(tactic| walk_at "esh") => `(tactic| simp (disch := walk_at "dis") only [startS, List.map_cons, List.map_nil, List.length_cons, List.length_nil, Nat.reduceAdd, Nat.reduceSub, Nat.zero_add, List.replicate, List.cons_append, List.nil_append,
  WB_nil, WB_cons, WB_frz, WS_pass, WS_ret, WS_retN, WS_set, WS_for, valI_rng1E, valI_rng2E, valI_seqE, valI_enumE, valI_zipE, bind_iters, lpc_nx, lpc_ct, lpc_bk, lpc_rt, lpc_ex, LP_cons_nm, LP_nilE, WS_stI, STI_some, WS_stS, STS_some, sts1_app, sts2_app, List.drop_succ_cons, List.drop_zero, stk1_app, stk2_app, stL_zero, stL_succ, WS_setN, newS_def, lsOf_list, ownk_app, WS_appE, ownAt_zero, ownAt_succ, APP_some, appk_app, bi_listL, bi_listT, bi_tupL, WS_unp, unp_sat, WS_par, WS_exs, WS_raise, WS_brk, WS_cont, RP_ok, RP_exc, only_nx, only_rt, only_bk, only_ct, only_ex, onlyL_nx, onlyL_rt, onlyL_bk, onlyL_ct, onlyL_ex, mid_nx, mid_rt, mid_bk, mid_ct, mid_ex, lp_nx, lp_rt, lp_bk, lp_ct, lp_ex, then_nx, then_rt, then_bk, then_ct, then_ex, setk_app, ownk_app, exk_app, ifk_app, unpk_app, nxk_app, lpk_app, par2_app, par1_app, R.bind_ok, R.bind_exc, valS_def, lfree_int, lfree_bool, lfree_str, lfree_none, lfree_tup, lfree_list, lfrees_nil, lfrees_cons, Bool.and_true, Bool.true_and, Bool.true_or, Bool.or_true, Bool.false_or, Bool.or_false, if_true, if_false, ite_true, ite_false, if_pos,
  setAllS, set_zero, set_succ, fullE_nil, fullE_cons, full_fr, full_ow, full_un, cleanE_nil, cleanE_cons, clean_fr, clean_ow, clean_un, noOwn_nil, noOwn_fr, noOwn_un, noOwn_ow, frz_zero, frz_succ, frz_zero_fr, frz_zero_un, getE_zero, getE_succ, sel_zero, sel_succ, ofB_bool,
  evE, evEs, bop_add, bop_sub, bop_mulE, bop_fdivE, bop_mod, bop_powE, bop_addL, cop_lt, cop_le, cop_gt, cop_ge, cop_eqI, cop_neI, cop_eqB, cop_neB, cop_neLi0, cop_eqLi0, cop_eqT2, cop_neT2, cop_eqT4, cop_neT4, ix_Li, ix0, ix1, ix2, ix3, ixL0, ixL1, ixL2, ixL3, iters_list, iters_tup, iters_enum, iters_rng1, asg_nm, wipe_nil, wipe_cons, tst_nil, tst_one, noX_ok, lcD_lit, compL_nil, compL_cons, partD_nil, partD_one, slop_T4_3, slop_L4_3, List.sum_cons, List.sum_nil, cop_eqL3, cop_neL2, cop_eqL1n, cop_eqL2n, cop_eqL3n, rngD_0, rngD_1, rngD_2, rngD_3, rngD_4, rngD_5, iters_rng2_13, iters_rng2_23, iters_rng2_33, bi_max1E, maxL_cons, Option.toList, List.append_nil, optB_some, bi_allE, boolsD_nil, boolsD_cons, boolsD_map, optI_some, bi_sumE, intsD_nil, intsD_cons, intsD_map, Option.map_some, Option.toList_some, Option.toList_none, setE_zero, setE_succ, List.all_cons, List.all_nil, id, Int.reduceToNat, Int.cast_ofNat_Int, ite_okB, ite_self, Bool.if_true_left, Bool.if_true_right, Bool.if_false_left, Bool.if_false_right, Bool.and_eq_true, Bool.or_eq_true, Bool.or_eq_false_iff, Bool.and_eq_false_iff, beq_self_eq_true, Bool.true_eq_false, not_true_eq_false, not_false_eq_true, decide_true, decide_false,  isi_int_int, isi_bool_int, isi_bool_bool, isi_tup_tup, List.length_map, bi_len, bi_lenT, bi_abs, bi_max2, bi_min2, bi_intB, bi_intI, decide_eq_true_eq, decide_eq_false_iff_not, Bool.not_eq_true', Bool.not_eq_false', Bool.not_eq_true, Bool.not_true, Bool.not_false, ne_eq, Bool.false_eq_true, false_implies, true_implies, and_true, true_and, false_and, and_false, imp_false, implies_true, *])
local macro_rules | `(tactic| walk_at "eslh") => `(tactic| simp (disch := walk_at "dis") only [startS, List.map_cons, List.map_nil, List.length_cons, List.length_nil, Nat.reduceAdd, Nat.reduceSub, Nat.zero_add, List.replicate, List.cons_append, List.nil_append,
  WB_nil, WB_cons, WB_frz, WS_pass, WS_ret, WS_retN, WS_set, WS_for, valI_rng1E, valI_rng2E, valI_seqE, valI_enumE, valI_zipE, bind_iters, lpc_nx, lpc_ct, lpc_bk, lpc_rt, lpc_ex, WS_stI, STI_some, WS_stS, STS_some, sts1_app, sts2_app, List.drop_succ_cons, List.drop_zero, stk1_app, stk2_app, stL_zero, stL_succ, WS_setN, newS_def, lsOf_list, ownk_app, WS_appE, ownAt_zero, ownAt_succ, APP_some, appk_app, bi_listL, bi_listT, bi_tupL, WS_unp, unp_sat, WS_par, WS_exs, WS_raise, WS_brk, WS_cont, RP_ok, RP_exc, only_nx, only_rt, only_bk, only_ct, only_ex, onlyL_nx, onlyL_rt, onlyL_bk, onlyL_ct, onlyL_ex, mid_nx, mid_rt, mid_bk, mid_ct, mid_ex, lp_nx, lp_rt, lp_bk, lp_ct, lp_ex, then_nx, then_rt, then_bk, then_ct, then_ex, setk_app, ownk_app, exk_app, ifk_app, unpk_app, nxk_app, lpk_app, par2_app, par1_app, R.bind_ok, R.bind_exc, valS_def, lfree_int, lfree_bool, lfree_str, lfree_none, lfree_tup, lfree_list, lfrees_nil, lfrees_cons, Bool.and_true, Bool.true_and, Bool.true_or, Bool.or_true, Bool.false_or, Bool.or_false, if_true, if_false, ite_true, ite_false, if_pos,
  setAllS, set_zero, set_succ, fullE_nil, fullE_cons, full_fr, full_ow, full_un, cleanE_nil, cleanE_cons, clean_fr, clean_ow, clean_un, noOwn_nil, noOwn_fr, noOwn_un, noOwn_ow, frz_zero, frz_succ, frz_zero_fr, frz_zero_un, getE_zero, getE_succ, sel_zero, sel_succ, ofB_bool,
  evE, evEs, bop_add, bop_sub, bop_mulE, bop_fdivE, bop_mod, bop_powE, bop_addL, cop_lt, cop_le, cop_gt, cop_ge, cop_eqI, cop_neI, cop_eqB, cop_neB, cop_neLi0, cop_eqLi0, cop_eqT2, cop_neT2, cop_eqT4, cop_neT4, ix_Li, ix0, ix1, ix2, ix3, ixL0, ixL1, ixL2, ixL3, iters_list, iters_tup, iters_enum, iters_rng1, asg_nm, wipe_nil, wipe_cons, tst_nil, tst_one, noX_ok, lcD_lit, compL_nil, compL_cons, partD_nil, partD_one, slop_T4_3, slop_L4_3, List.sum_cons, List.sum_nil, cop_eqL3, cop_neL2, cop_eqL1n, cop_eqL2n, cop_eqL3n, rngD_0, rngD_1, rngD_2, rngD_3, rngD_4, rngD_5, iters_rng2_13, iters_rng2_23, iters_rng2_33, bi_max1E, maxL_cons, Option.toList, List.append_nil, optB_some, bi_allE, boolsD_nil, boolsD_cons, boolsD_map, optI_some, bi_sumE, intsD_nil, intsD_cons, intsD_map, Option.map_some, Option.toList_some, Option.toList_none, setE_zero, setE_succ, List.all_cons, List.all_nil, id, Int.reduceToNat, Int.cast_ofNat_Int, ite_okB, ite_self, Bool.if_true_left, Bool.if_true_right, Bool.if_false_left, Bool.if_false_right, Bool.and_eq_true, Bool.or_eq_true, Bool.or_eq_false_iff, Bool.and_eq_false_iff, beq_self_eq_true, Bool.true_eq_false, not_true_eq_false, not_false_eq_true, decide_true, decide_false,  isi_int_int, isi_bool_int, isi_bool_bool, isi_tup_tup, List.length_map, bi_len, bi_lenT, bi_abs, bi_max2, bi_min2, bi_intB, bi_intI, decide_eq_true_eq, decide_eq_false_iff_not, Bool.not_eq_true', Bool.not_eq_false', Bool.not_eq_true, Bool.not_true, Bool.not_false, ne_eq, Bool.false_eq_true, false_implies, true_implies, and_true, true_and, false_and, and_false, imp_false, implies_true, *])
theorem cop_notN_T {ds : List D} : cop .notN (.tuple ds) .none = .ok (.bool true) := rfl
theorem cop_notN_N : cop .notN .none .none = .ok (.bool false) := rfl
theorem k04_asked {x y z w : Int} (h1 : bd 8000 x) (h2 : bd 8000 y) (h3 : bd 8000 z) (h4 : bd 8000 w) : F_law_asked_5 [.list [.int x, .int y, .int z, .int w]] = .ok (.tuple [if w = 0 then .none else D4 (mk4 x y z w), .bool (decide (w = 0))]) := by
  unfold F_law_asked_5
  refine den_of (· = _) ?_
  unfold m_law_asked_5
  by_cases h : w = 0
  · have s := made_spot_spec h1 h2 h3 h4
    rw [if_pos h] at s ⊢
    rw [decide_eq_true h]
    clear h
    walk_at "es"
    refine WS_tryx ?_
    walk_at "esh"
    exact fun z => (by cases z)
  · have s := made_ok h1 h2 h3 h4 h
    rw [if_neg h]
    rw [decide_eq_false h]
    clear h
    walk_at "es"
    refine WS_tryx ?_
    walk_at "esh"
theorem k04_right {x y z w : Int} (h1 : bd 200 x) (h2 : bd 200 y) (h3 : bd 200 z) (h4 : bd 200 w) (h : w ≠ 0) : F_law_right_6 [D4 (mk4 x y z w), .list [.int x, .int y, .int z, .int w]] = .ok (.bool true) := by
  unfold F_law_right_6
  refine den_of (· = _) ?_
  unfold m_law_right_6
  have hb := mk4_bd h1 h2 h3 h4
  have sr := (mk4_eq (x := x) (y := y) (z := z) h).1
  obtain ⟨w1, w2, w3⟩ := mk4_worth (x := x) (y := y) (z := z) h
  have s1 := @law_tuple_T4
  have s2 := law_lowest_spec (hb.mono (by decide)) sr.low
  have s3 : ¬ (mk4 x y z w).d < 1 := by have := sr.pos; omega
  obtain ⟨b1, b2, b3, b4⟩ := hb
  generalize mk4 x y z w = r at *
  clear sr
  walk_at "esh"
  walk_at "evh"
theorem k04_law {ns : List Int} (hl : ns.length ≤ 63) : F_law_10 [Li ns] = .ok (.bool true) := by
  unfold F_law_10
  refine den_of (· = _) ?_
  unfold m_law_10
  have bl : bd 7 (ns.length : Int) := by unfold bd; omega
  walk_at "es"
  refine LP_rng (fun _ e => ∃ a b c d f g h : Sl, e = [.fr (Li ns), a, b, c, d, f, g, h]) ⟨_, _, _, _, _, _, _, rfl⟩ ?_ ?_
  · rintro i e hi ⟨a0, a1, a2, a3, a4, a5, a6, rfl⟩
    have hi2 : i < 63 := by omega
    have b3 : bd 6 (i : Int) := by unfold bd; omega
    obtain ⟨s0, s01, s02⟩ := law_number_spec (ns := ns) (k := 4 * (i : Int) + 0) hl (by omega) (by omega)
    obtain ⟨s1, s11, s12⟩ := law_number_spec (ns := ns) (k := 4 * (i : Int) + 1) hl (by omega) (by omega)
    obtain ⟨s2, s21, s22⟩ := law_number_spec (ns := ns) (k := 4 * (i : Int) + 2) hl (by omega) (by omega)
    obtain ⟨s3, s31, s32⟩ := law_number_spec (ns := ns) (k := 4 * (i : Int) + 3) hl (by omega) (by omega)
    obtain ⟨s4, s41, s42⟩ := law_number_spec (ns := ns) (k := 4 * (i : Int)) hl (by omega) (by omega)
    generalize numb ns (4 * (i : Int) + 0) = n0 at *
    generalize numb ns (4 * (i : Int) + 1) = n1 at *
    generalize numb ns (4 * (i : Int) + 2) = n2 at *
    generalize numb ns (4 * (i : Int) + 3) = n3 at *
    generalize numb ns (4 * (i : Int)) = n4 at *
    obtain ⟨t0, t01, t02⟩ := law_int_spec s01 s02
    obtain ⟨t1, t11, t12⟩ := law_int_spec s11 s12
    obtain ⟨t2, t21, t22⟩ := law_int_spec s21 s22
    obtain ⟨t3, t31, t32⟩ := law_int_spec s31 s32
    generalize intX n0 = x at *
    generalize intX n1 = y at *
    generalize intX n2 = z at *
    generalize intX n3 = w at *
    have bx : bd 200 x := by unfold bd; omega
    have by' : bd 200 y := by unfold bd; omega
    have bz : bd 200 z := by unfold bd; omega
    have bw : bd 200 w := by unfold bd; omega
    have b4 : bd 103 n4 := by unfold bd; omega
    clear s01 s02 s11 s12 s21 s22 s31 s32 s41 s42 t01 t02 t11 t12 t21 t22 t31 t32
    walk_at "esh"
    refine WS_only (P := fun e => ∃ x y z w : Int, e = [.fr (Li ns), .fr (.int i), .fr (.list [.int x, .int y, .int z, .int w]), a2, .fr (.int (n4.fdiv 8)), a4, a5, a6] ∧ bd 200 x ∧ bd 200 y ∧ bd 200 z ∧ bd 200 w) ?_ ?_
    · have c1 := bd_fmod (i := (n4.fdiv 8).fdiv 3) (j := 1000) (by decide) (bd_self (i := 1000))
      have c2 : ∀ u : Int, bd 80 (u.fmod (10 ^ 20)) := fun u => (bd_fmod (i := u) (j := 10 ^ 20) (by decide) (bd_self (i := 10 ^ 20))).mono (by decide +kernel)
      have c3 : ∀ u : Int, bd 200 (u.fmod (10 ^ 20) * (((n4.fdiv 8).fdiv 3).fmod 1000 + 1)) := fun u => (bd_mul (c2 u) (bd_add c1 (bd_self (i := 1)))).mono (by decide +kernel)
      walk_at "ev"
      exact ⟨fun _ => ⟨_, _, _, _, rfl, c3 _, c3 _, c3 _, c3 _⟩, fun _ => ⟨_, _, _, _, rfl, bx, by', bz, bw⟩⟩
    · clear bx by' bz bw s0 s1 s2 s3 s4 t0 t1 t2 t3
      rintro e ⟨x, y, z, w, rfl, bx, by', bz, bw⟩
      have hx := bx.mono (by decide : 200 ≤ 8000)
      have hy := by'.mono (by decide : 200 ≤ 8000)
      have hz := bz.mono (by decide : 200 ≤ 8000)
      have hw := bw.mono (by decide : 200 ≤ 8000)
      have u1 := k04_asked hx hy hz hw
      have u2 : F_made_spot_d3 [.int x, .int y, .int z] = .ok (D4 (mk4 x y z 1)) := made_ok hx hy hz (by decide) (by decide)
      have u3 := k04_right bx by' bz (by decide : bd 200 1) (by decide)
      have u4 := @cop_notN_T
      have u5 := cop_notN_N
      by_cases h : w = 0
      · rw [if_pos h, decide_eq_true h] at u1
        generalize mk4 x y z 1 = r at *
        clear hx hy hz hw
        subst h
        walk_at "esh"
        walk_at "evh"
        exact ⟨_, _, _, _, _, _, _, rfl⟩
      · rw [if_neg h, decide_eq_false h] at u1
        have u6 := k04_right bx by' bz bw h
        have u7 := made_ok hx hy hz hw h
        generalize mk4 x y z 1 = r at *
        generalize mk4 x y z w = q at *
        clear hx hy hz hw
        walk_at "esh"
        walk_at "evh"
        exact ⟨_, _, _, _, _, _, _, rfl⟩
  · rintro e ⟨a0, a1, a2, a3, a4, a5, a6, rfl⟩
    walk_at "ev"
end Bs

end
namespace K04
open PySem PySem.Spec L2 Bs
open PyProof.Rows hiding St
abbrev PW : Program := PySem.Challenge.pw_boardsight_k04_spots_made
def top (i : Nat) : Stmt := PW.main.body.getD i (.Pass ⟨0, 0, 0, 0⟩)
def EXS : List (Nat × Str) := [(0, "SightError"), (2, "NoSpot")]
def EXR : List Nat := [2]
def BLS : List Str := ["abs", "all", "bool", "int", "isinstance", "len", "max", "range", "tuple"]
def GIS : List (Str × Int) := []
abbrev s_divisor : Stmt := top 4
def C_divisor : CtS := { N := ["one", "other"], sc := defScope s_divisor, fns := [], bls := BLS, gis := GIS, exs := EXS, exr := EXR }
def d_divisor : He.DefD := ⟨("divisor", none), "divisor", "divisor", defArgs s_divisor, defBody s_divisor, defScope s_divisor, [], []⟩
theorem sc_divisor : FnScope C_divisor.N ["one", "other"] (defScope s_divisor) := ⟨rfl, rfl, rfl, by decide +kernel, rfl, by decide +kernel, by decide +kernel⟩
theorem ch_divisor : chkSs C_divisor m_divisor (defBody s_divisor) = true := by decide +kernel
abbrev s_made_spot : Stmt := top 6
def C_made_spot : CtS := { N := ["x", "y", "z", "w", "by"], sc := defScope s_made_spot, fns := [("divisor", 2)], bls := BLS, gis := GIS, exs := EXS, exr := EXR }
def d_made_spot : He.DefD := ⟨("made_spot", none), "made_spot", "made_spot", defArgs s_made_spot, defBody s_made_spot, defScope s_made_spot, [.int 1], []⟩
theorem sc_made_spot : FnScope C_made_spot.N ["x", "y", "z", "w"] (defScope s_made_spot) := ⟨rfl, rfl, rfl, by decide +kernel, rfl, by decide +kernel, by decide +kernel⟩
theorem ch_made_spot : chkSs C_made_spot m_made_spot (defBody s_made_spot) = true := by decide +kernel
abbrev s_law_number : Stmt := top 8
def C_law_number : CtS := { N := ["script", "k", "cell", "turn", "left", "j", "prime", "number"], sc := defScope s_law_number, fns := [], bls := BLS, gis := GIS, exs := EXS, exr := EXR }
def d_law_number : He.DefD := ⟨("_law_number", none), "_law_number", "_law_number", defArgs s_law_number, defBody s_law_number, defScope s_law_number, [], []⟩
theorem sc_law_number : FnScope C_law_number.N ["script", "k"] (defScope s_law_number) := ⟨rfl, rfl, rfl, by decide +kernel, rfl, by decide +kernel, by decide +kernel⟩
theorem ch_law_number : chkSs C_law_number m_law_number (defBody s_law_number) = true := by decide +kernel
abbrev s_law_whole : Stmt := top 9
def C_law_whole : CtS := { N := ["found"], sc := defScope s_law_whole, fns := [], bls := BLS, gis := GIS, exs := EXS, exr := EXR }
def d_law_whole : He.DefD := ⟨("_law_whole", none), "_law_whole", "_law_whole", defArgs s_law_whole, defBody s_law_whole, defScope s_law_whole, [], []⟩
theorem sc_law_whole : FnScope C_law_whole.N ["found"] (defScope s_law_whole) := ⟨rfl, rfl, rfl, by decide +kernel, rfl, by decide +kernel, by decide +kernel⟩
theorem ch_law_whole : chkSs C_law_whole m_law_whole (defBody s_law_whole) = true := by decide +kernel
abbrev s_law_int : Stmt := top 10
def C_law_int : CtS := { N := ["number", "way"], sc := defScope s_law_int, fns := [], bls := BLS, gis := GIS, exs := EXS, exr := EXR }
def d_law_int : He.DefD := ⟨("_law_int", none), "_law_int", "_law_int", defArgs s_law_int, defBody s_law_int, defScope s_law_int, [], []⟩
theorem sc_law_int : FnScope C_law_int.N ["number"] (defScope s_law_int) := ⟨rfl, rfl, rfl, by decide +kernel, rfl, by decide +kernel, by decide +kernel⟩
theorem ch_law_int : chkSs C_law_int m_law_int (defBody s_law_int) = true := by decide +kernel
abbrev s_law_divisor : Stmt := top 11
def C_law_divisor : CtS := { N := ["one", "other"], sc := defScope s_law_divisor, fns := [], bls := BLS, gis := GIS, exs := EXS, exr := EXR }
def d_law_divisor : He.DefD := ⟨("_law_divisor", none), "_law_divisor", "_law_divisor", defArgs s_law_divisor, defBody s_law_divisor, defScope s_law_divisor, [], []⟩
theorem sc_law_divisor : FnScope C_law_divisor.N ["one", "other"] (defScope s_law_divisor) := ⟨rfl, rfl, rfl, by decide +kernel, rfl, by decide +kernel, by decide +kernel⟩
theorem ch_law_divisor : chkSs C_law_divisor m_law_divisor (defBody s_law_divisor) = true := by decide +kernel
abbrev s_law_tuple : Stmt := top 12
def C_law_tuple : CtS := { N := ["found", "many", "one"], sc := defScope s_law_tuple, fns := [("_law_whole", 1)], bls := BLS, gis := GIS, exs := EXS, exr := EXR }
def d_law_tuple : He.DefD := ⟨("_law_tuple", none), "_law_tuple", "_law_tuple", defArgs s_law_tuple, defBody s_law_tuple, defScope s_law_tuple, [], []⟩
theorem sc_law_tuple : FnScope C_law_tuple.N ["found", "many"] (defScope s_law_tuple) := ⟨rfl, rfl, rfl, by decide +kernel, rfl, by decide +kernel, by decide +kernel⟩
theorem ch_law_tuple : chkSs C_law_tuple m_law_tuple (defBody s_law_tuple) = true := by decide +kernel
abbrev s_law_lowest : Stmt := top 13
def C_law_lowest : CtS := { N := ["found", "by", "one"], sc := defScope s_law_lowest, fns := [("_law_divisor", 2)], bls := BLS, gis := GIS, exs := EXS, exr := EXR }
def d_law_lowest : He.DefD := ⟨("_law_lowest", none), "_law_lowest", "_law_lowest", defArgs s_law_lowest, defBody s_law_lowest, defScope s_law_lowest, [], []⟩
theorem sc_law_lowest : FnScope C_law_lowest.N ["found"] (defScope s_law_lowest) := ⟨rfl, rfl, rfl, by decide +kernel, rfl, by decide +kernel, by decide +kernel⟩
theorem ch_law_lowest : chkSs C_law_lowest m_law_lowest (defBody s_law_lowest) = true := by decide +kernel
abbrev s_law_asked_5 : Stmt := top 14
def C_law_asked_5 : CtS := { N := ["numbers", "found", "refused"], sc := defScope s_law_asked_5, fns := [("made_spot", 4)], bls := BLS, gis := GIS, exs := EXS, exr := EXR, kfns := [(0, "made_spot", 3, "w")] }
def d_law_asked_5 : He.DefD := ⟨("_law_asked", none), "_law_asked", "_law_asked", defArgs s_law_asked_5, defBody s_law_asked_5, defScope s_law_asked_5, [], []⟩
theorem sc_law_asked_5 : FnScope C_law_asked_5.N ["numbers"] (defScope s_law_asked_5) := ⟨rfl, rfl, rfl, by decide +kernel, rfl, by decide +kernel, by decide +kernel⟩
theorem ch_law_asked_5 : chkSs C_law_asked_5 m_law_asked_5 (defBody s_law_asked_5) = true := by decide +kernel
abbrev s_law_right_6 : Stmt := top 15
def C_law_right_6 : CtS := { N := ["found", "numbers", "j"], sc := defScope s_law_right_6, fns := [("_law_tuple", 2), ("_law_lowest", 1)], bls := BLS, gis := GIS, exs := EXS, exr := EXR }
def d_law_right_6 : He.DefD := ⟨("_law_right", none), "_law_right", "_law_right", defArgs s_law_right_6, defBody s_law_right_6, defScope s_law_right_6, [], []⟩
theorem sc_law_right_6 : FnScope C_law_right_6.N ["found", "numbers"] (defScope s_law_right_6) := ⟨rfl, rfl, rfl, by decide +kernel, rfl, by decide +kernel, by decide +kernel⟩
theorem ch_law_right_6 : chkSs C_law_right_6 m_law_right_6 (defBody s_law_right_6) = true := by decide +kernel
abbrev s_law_10 : Stmt := top 16
def C_law_10 : CtS := { N := ["script", "k", "numbers", "j", "rest", "number", "found", "refused"], sc := defScope s_law_10, fns := [("_law_int", 1), ("_law_number", 2), ("_law_asked", 1), ("_law_right", 2), ("made_spot", 3), ("made_spot", 4)], bls := BLS, gis := GIS, exs := EXS, exr := EXR }
def d_law_10 : He.DefD := ⟨("law", none), "law", "law", defArgs s_law_10, defBody s_law_10, defScope s_law_10, [], []⟩
theorem sc_law_10 : FnScope C_law_10.N ["script"] (defScope s_law_10) := ⟨rfl, rfl, rfl, by decide +kernel, rfl, by decide +kernel, by decide +kernel⟩
theorem ch_law_10 : chkSs C_law_10 m_law_10 (defBody s_law_10) = true := by decide +kernel
section
variable {P : Program} {w : World} {K : PySem.W.Frag} {mg : Str → Option Value} {base : Heap} {fa : Addr} {fd : FuncData}
abbrev Fn (K : PySem.W.Frag) (d : He.DefD) (fd : FuncData) : Prop := FunD K d.name d.qual d.params d.body d.scope (d.dvs K) (d.kws K) (He.fAd K d.at_) fd
theorem ok_divisor (T : Tp K mg (GsOf K EXS) EXS EXR BLS GIS) (F : Fn K d_divisor fd)  : FnOk P w K mg base (L2.CX P w) 1 (He.fAd K d_divisor.at_) fd ["one", "other"] (spD K (GsOf K EXS) 2 F_divisor) :=
  fn_sound (C := C_divisor) (Fs := []) F sc_divisor rfl T calls_nil ch_divisor
theorem bd_divisor (F : Fn K d_divisor fd) : Binds K fd ["one", "other"] [] := FunD.bindsN F fun _ _ _ _ _ _ us hl => match us, hl with | [_, _], _ => rfl
theorem ok_made_spot (T : Tp K mg (GsOf K EXS) EXS EXR BLS GIS) (F : Fn K d_made_spot fd) (c_divisor : CallD P w K mg base (GsOf K EXS) 1 F_divisor "divisor" 2) : FnOk P w K mg base (L2.CX P w) 2 (He.fAd K d_made_spot.at_) fd ["x", "y", "z", "w"] (spD K (GsOf K EXS) 4 F_made_spot) :=
  fn_sound (C := C_made_spot) (Fs := [F_divisor]) F sc_made_spot rfl T (calls_cons c_divisor (by decide) calls_nil) ch_made_spot
theorem bk_made_spot (F : Fn K d_made_spot fd) : ∃ gg, KBn K fd ["x", "y", "z", "w"] 3 ["w"] gg (fun vs zs => vs ++ zs) := let ⟨_, h⟩ := FunD.kbindsD F 3 ["w"] (fun vs _ zs => vs ++ zs) (List.cons_ne_nil _ _) (fun a _ c => a.append c) fun T _ _ _ _ _ _ us its ws hl hm hn => match us, its, ws, hl, hm, hn with | [_, _, _], [_], [_], _, _, _ => ⟨_, rfl, rfl⟩; ⟨_, h⟩
theorem bd_made_spot_3 (F : Fn K d_made_spot fd) : ∃ ds, Vals ((d_made_spot.dvs K).drop 0) ds ∧ Binds K fd ["x", "y", "z", "w"] ds := FunD.binds1 F 3 0 (List.cons_ne_nil _ _) rfl fun T _ _ _ _ _ _ us its hl hm => match us, its, hl, hm with | [_, _, _], [_], _, _ => ⟨_, rfl, rfl⟩
theorem bd_made_spot_4 (F : Fn K d_made_spot fd) : ∃ ds, Vals ((d_made_spot.dvs K).drop 1) ds ∧ Binds K fd ["x", "y", "z", "w"] ds := FunD.binds1 F 4 1 (List.cons_ne_nil _ _) rfl fun T _ _ _ _ _ _ us its hl hm => match us, its, hl, hm with | [_, _, _, _], [_], _, _ => ⟨_, rfl, rfl⟩
theorem ok_law_number (T : Tp K mg (GsOf K EXS) EXS EXR BLS GIS) (F : Fn K d_law_number fd)  : FnOk P w K mg base (L2.CX P w) 1 (He.fAd K d_law_number.at_) fd ["script", "k"] (spD K (GsOf K EXS) 2 F_law_number) :=
  fn_sound (C := C_law_number) (Fs := []) F sc_law_number rfl T calls_nil ch_law_number
theorem bd_law_number (F : Fn K d_law_number fd) : Binds K fd ["script", "k"] [] := FunD.bindsN F fun _ _ _ _ _ _ us hl => match us, hl with | [_, _], _ => rfl
theorem ok_law_whole (T : Tp K mg (GsOf K EXS) EXS EXR BLS GIS) (F : Fn K d_law_whole fd)  : FnOk P w K mg base (L2.CX P w) 1 (He.fAd K d_law_whole.at_) fd ["found"] (spD K (GsOf K EXS) 1 F_law_whole) :=
  fn_sound (C := C_law_whole) (Fs := []) F sc_law_whole rfl T calls_nil ch_law_whole
theorem bd_law_whole (F : Fn K d_law_whole fd) : Binds K fd ["found"] [] := FunD.bindsN F fun _ _ _ _ _ _ us hl => match us, hl with | [_], _ => rfl
theorem ok_law_int (T : Tp K mg (GsOf K EXS) EXS EXR BLS GIS) (F : Fn K d_law_int fd)  : FnOk P w K mg base (L2.CX P w) 1 (He.fAd K d_law_int.at_) fd ["number"] (spD K (GsOf K EXS) 1 F_law_int) :=
  fn_sound (C := C_law_int) (Fs := []) F sc_law_int rfl T calls_nil ch_law_int
theorem bd_law_int (F : Fn K d_law_int fd) : Binds K fd ["number"] [] := FunD.bindsN F fun _ _ _ _ _ _ us hl => match us, hl with | [_], _ => rfl
theorem ok_law_divisor (T : Tp K mg (GsOf K EXS) EXS EXR BLS GIS) (F : Fn K d_law_divisor fd)  : FnOk P w K mg base (L2.CX P w) 1 (He.fAd K d_law_divisor.at_) fd ["one", "other"] (spD K (GsOf K EXS) 2 F_law_divisor) :=
  fn_sound (C := C_law_divisor) (Fs := []) F sc_law_divisor rfl T calls_nil ch_law_divisor
theorem bd_law_divisor (F : Fn K d_law_divisor fd) : Binds K fd ["one", "other"] [] := FunD.bindsN F fun _ _ _ _ _ _ us hl => match us, hl with | [_, _], _ => rfl
theorem ok_law_tuple (T : Tp K mg (GsOf K EXS) EXS EXR BLS GIS) (F : Fn K d_law_tuple fd) (c_law_whole : CallD P w K mg base (GsOf K EXS) 1 F_law_whole "_law_whole" 1) : FnOk P w K mg base (L2.CX P w) 2 (He.fAd K d_law_tuple.at_) fd ["found", "many"] (spD K (GsOf K EXS) 2 F_law_tuple) :=
  fn_sound (C := C_law_tuple) (Fs := [F_law_whole]) F sc_law_tuple rfl T (calls_cons c_law_whole (by decide) calls_nil) ch_law_tuple
theorem bd_law_tuple (F : Fn K d_law_tuple fd) : Binds K fd ["found", "many"] [] := FunD.bindsN F fun _ _ _ _ _ _ us hl => match us, hl with | [_, _], _ => rfl
theorem ok_law_lowest (T : Tp K mg (GsOf K EXS) EXS EXR BLS GIS) (F : Fn K d_law_lowest fd) (c_law_divisor : CallD P w K mg base (GsOf K EXS) 1 F_law_divisor "_law_divisor" 2) : FnOk P w K mg base (L2.CX P w) 2 (He.fAd K d_law_lowest.at_) fd ["found"] (spD K (GsOf K EXS) 1 F_law_lowest) :=
  fn_sound (C := C_law_lowest) (Fs := [F_law_divisor]) F sc_law_lowest rfl T (calls_cons c_law_divisor (by decide) calls_nil) ch_law_lowest
theorem bd_law_lowest (F : Fn K d_law_lowest fd) : Binds K fd ["found"] [] := FunD.bindsN F fun _ _ _ _ _ _ us hl => match us, hl with | [_], _ => rfl
theorem ok_law_asked_5 (T : Tp K mg (GsOf K EXS) EXS EXR BLS GIS) (F : Fn K d_law_asked_5 fd) (c_made_spot : CallD P w K mg base (GsOf K EXS) 2 F_made_spot "made_spot" 4) (k_made_spot : CallKD P w K mg base (GsOf K EXS) 2 F_made_spot "made_spot" 3 "w") : FnOk P w K mg base (L2.CX P w) 3 (He.fAd K d_law_asked_5.at_) fd ["numbers"] (spD K (GsOf K EXS) 1 F_law_asked_5) :=
  fn_sound (C := C_law_asked_5) (Fs := [F_made_spot]) F sc_law_asked_5 rfl T (calls_cons c_made_spot (by decide) calls_nil) ch_law_asked_5 (kf := kcalls_one k_made_spot (by decide) rfl)
theorem bd_law_asked_5 (F : Fn K d_law_asked_5 fd) : Binds K fd ["numbers"] [] := FunD.bindsN F fun _ _ _ _ _ _ us hl => match us, hl with | [_], _ => rfl
theorem ok_law_right_6 (T : Tp K mg (GsOf K EXS) EXS EXR BLS GIS) (F : Fn K d_law_right_6 fd) (c_law_tuple : CallD P w K mg base (GsOf K EXS) 2 F_law_tuple "_law_tuple" 2) (c_law_lowest : CallD P w K mg base (GsOf K EXS) 2 F_law_lowest "_law_lowest" 1) : FnOk P w K mg base (L2.CX P w) 3 (He.fAd K d_law_right_6.at_) fd ["found", "numbers"] (spD K (GsOf K EXS) 2 F_law_right_6) :=
  fn_sound (C := C_law_right_6) (Fs := [F_law_tuple, F_law_lowest]) F sc_law_right_6 rfl T (calls_cons c_law_tuple (by decide) (calls_cons c_law_lowest (by decide) calls_nil)) ch_law_right_6
theorem bd_law_right_6 (F : Fn K d_law_right_6 fd) : Binds K fd ["found", "numbers"] [] := FunD.bindsN F fun _ _ _ _ _ _ us hl => match us, hl with | [_, _], _ => rfl
theorem ok_law_10 (T : Tp K mg (GsOf K EXS) EXS EXR BLS GIS) (F : Fn K d_law_10 fd) (c_law_int : CallD P w K mg base (GsOf K EXS) 1 F_law_int "_law_int" 1) (c_law_number : CallD P w K mg base (GsOf K EXS) 1 F_law_number "_law_number" 2) (c_law_asked_5 : CallD P w K mg base (GsOf K EXS) 3 F_law_asked_5 "_law_asked" 1) (c_law_right_6 : CallD P w K mg base (GsOf K EXS) 3 F_law_right_6 "_law_right" 2) (c_made_spot_d3 : CallD P w K mg base (GsOf K EXS) 2 F_made_spot_d3 "made_spot" 3) (c_made_spot : CallD P w K mg base (GsOf K EXS) 2 F_made_spot "made_spot" 4) : FnOk P w K mg base (L2.CX P w) 4 (He.fAd K d_law_10.at_) fd ["script"] (spD K (GsOf K EXS) 1 F_law_10) :=
  fn_sound (C := C_law_10) (Fs := [F_law_int, F_law_number, F_law_asked_5, F_law_right_6, F_made_spot_d3, F_made_spot]) F sc_law_10 rfl T (calls_cons c_law_int (by decide) (calls_cons c_law_number (by decide) (calls_cons c_law_asked_5 (by decide) (calls_cons c_law_right_6 (by decide) (calls_cons c_made_spot_d3 (by decide) (calls_cons c_made_spot (by decide) calls_nil)))))) ch_law_10
theorem bd_law_10 (F : Fn K d_law_10 fd) : Binds K fd ["script"] [] := FunD.bindsN F fun _ _ _ _ _ _ us hl => match us, hl with | [_], _ => rfl
end
def fn : List He.DefD := [d_divisor, d_made_spot, d_law_number, d_law_whole, d_law_int, d_law_divisor, d_law_tuple, d_law_lowest, d_law_asked_5, d_law_right_6, d_law_10]
def nms : List Str := ["divisor", "made_spot", "_law_number", "_law_whole", "_law_int", "_law_divisor", "_law_tuple", "_law_lowest", "_law_asked", "_law_right", "law"]
def fa : List He.Fa := stdFa EXS EXR BLS GIS nms
abbrev Rr : PySem.W.OpenRow := PySem.W.OpenLaw.row PySem.Challenge.rw_boardsight_k04_spots_made
abbrev hk : PySem.W.Hook := He.hookD 4 fa fn
def ob (s : PySem.W.SharedT) : He.AlD := He.obsDG 4 fa fn (HandSHeadRun.getT s)
theorem ob_eq (s : PySem.W.SharedT) : ob s = hk.obs s.abs := He.obsDG_eq (HandSHeadRun.getT_eq s)
def loose : List Str := ["SightError", "NoSpot", "divisor", "made_spot", "_law_number", "_law_whole", "_law_int", "_law_divisor", "_law_tuple", "_law_lowest", "_law_asked", "_law_right"]
theorem run (w : World) : HandSHeadRun.RunEq Rr (PySem.W.view Rr.prog [16]) hk ob 4000 loose w := by
  intro os
  kernel_rfl
theorem facts {P : Program} {w : World} {K : PySem.W.Frag} {h : Heap} {mg : Str → Option Value} (X : K.In h) (Gn : h.Ns mainGlobals mg) (c : He.SaysD fa fn K) :
    ∃ fd : FuncData, (∀ (s : Shared) (v : Value), BindsTo s fd ⟨[v], []⟩ [("script", v)]) ∧ ∀ base : Heap, FnOk P w K mg base (L2.CX P w) 4 (He.fAd K d_law_10.at_) fd ["script"] (spD K (GsOf K EXS) 1 F_law_10) := by
  obtain ⟨T, g⟩ := tp_of (fn := fn) c X Gn
  obtain ⟨fd_divisor, D_divisor⟩ := c.def_ 0 (d := d_divisor) rfl
  obtain ⟨fd_made_spot, D_made_spot⟩ := c.def_ 1 (d := d_made_spot) rfl
  obtain ⟨fd_law_number, D_law_number⟩ := c.def_ 2 (d := d_law_number) rfl
  obtain ⟨fd_law_whole, D_law_whole⟩ := c.def_ 3 (d := d_law_whole) rfl
  obtain ⟨fd_law_int, D_law_int⟩ := c.def_ 4 (d := d_law_int) rfl
  obtain ⟨fd_law_divisor, D_law_divisor⟩ := c.def_ 5 (d := d_law_divisor) rfl
  obtain ⟨fd_law_tuple, D_law_tuple⟩ := c.def_ 6 (d := d_law_tuple) rfl
  obtain ⟨fd_law_lowest, D_law_lowest⟩ := c.def_ 7 (d := d_law_lowest) rfl
  obtain ⟨fd_law_asked_5, D_law_asked_5⟩ := c.def_ 8 (d := d_law_asked_5) rfl
  obtain ⟨fd_law_right_6, D_law_right_6⟩ := c.def_ 9 (d := d_law_right_6) rfl
  obtain ⟨fd_law_10, D_law_10⟩ := c.def_ 10 (d := d_law_10) rfl
  refine ⟨fd_law_10, fun s v => FunD.bindsA (ps := ["script"]) D_law_10 (fun _ _ _ _ _ _ us hl => match us, hl with | [_], _ => rfl) s [v] rfl, fun base => ?_⟩
  have o_divisor := ok_divisor (P := P) (w := w) (base := base) T D_divisor 
  have c_divisor : CallD P w K mg base (GsOf K EXS) 1 F_divisor "divisor" 2 := CallD.full o_divisor (g "divisor" (List.mem_of_getElem? (i := 0) rfl)) D_divisor.kp (bd_divisor D_divisor)
  have o_made_spot := ok_made_spot (P := P) (w := w) (base := base) T D_made_spot c_divisor
  have k_made_spot : CallKD P w K mg base (GsOf K EXS) 2 F_made_spot "made_spot" 3 "w" := CallKD.one o_made_spot (g "made_spot" (List.mem_of_getElem? (i := 1) rfl)) D_made_spot.kp (bk_made_spot D_made_spot)
  have c_made_spot_d3 : CallD P w K mg base (GsOf K EXS) 2 F_made_spot_d3 "made_spot" 3 := CallD.dfl (es := [1]) o_made_spot (g "made_spot" (List.mem_of_getElem? (i := 1) rfl)) D_made_spot.kp (bd_made_spot_3 D_made_spot) rfl
  have c_made_spot : CallD P w K mg base (GsOf K EXS) 2 F_made_spot "made_spot" 4 := CallD.full' o_made_spot (g "made_spot" (List.mem_of_getElem? (i := 1) rfl)) D_made_spot.kp (bd_made_spot_4 D_made_spot)
  have o_law_number := ok_law_number (P := P) (w := w) (base := base) T D_law_number 
  have c_law_number : CallD P w K mg base (GsOf K EXS) 1 F_law_number "_law_number" 2 := CallD.full o_law_number (g "_law_number" (List.mem_of_getElem? (i := 2) rfl)) D_law_number.kp (bd_law_number D_law_number)
  have o_law_whole := ok_law_whole (P := P) (w := w) (base := base) T D_law_whole 
  have c_law_whole : CallD P w K mg base (GsOf K EXS) 1 F_law_whole "_law_whole" 1 := CallD.full o_law_whole (g "_law_whole" (List.mem_of_getElem? (i := 3) rfl)) D_law_whole.kp (bd_law_whole D_law_whole)
  have o_law_int := ok_law_int (P := P) (w := w) (base := base) T D_law_int 
  have c_law_int : CallD P w K mg base (GsOf K EXS) 1 F_law_int "_law_int" 1 := CallD.full o_law_int (g "_law_int" (List.mem_of_getElem? (i := 4) rfl)) D_law_int.kp (bd_law_int D_law_int)
  have o_law_divisor := ok_law_divisor (P := P) (w := w) (base := base) T D_law_divisor 
  have c_law_divisor : CallD P w K mg base (GsOf K EXS) 1 F_law_divisor "_law_divisor" 2 := CallD.full o_law_divisor (g "_law_divisor" (List.mem_of_getElem? (i := 5) rfl)) D_law_divisor.kp (bd_law_divisor D_law_divisor)
  have o_law_tuple := ok_law_tuple (P := P) (w := w) (base := base) T D_law_tuple c_law_whole
  have c_law_tuple : CallD P w K mg base (GsOf K EXS) 2 F_law_tuple "_law_tuple" 2 := CallD.full o_law_tuple (g "_law_tuple" (List.mem_of_getElem? (i := 6) rfl)) D_law_tuple.kp (bd_law_tuple D_law_tuple)
  have o_law_lowest := ok_law_lowest (P := P) (w := w) (base := base) T D_law_lowest c_law_divisor
  have c_law_lowest : CallD P w K mg base (GsOf K EXS) 2 F_law_lowest "_law_lowest" 1 := CallD.full o_law_lowest (g "_law_lowest" (List.mem_of_getElem? (i := 7) rfl)) D_law_lowest.kp (bd_law_lowest D_law_lowest)
  have o_law_asked_5 := ok_law_asked_5 (P := P) (w := w) (base := base) T D_law_asked_5 c_made_spot k_made_spot
  have c_law_asked_5 : CallD P w K mg base (GsOf K EXS) 3 F_law_asked_5 "_law_asked" 1 := CallD.full o_law_asked_5 (g "_law_asked" (List.mem_of_getElem? (i := 8) rfl)) D_law_asked_5.kp (bd_law_asked_5 D_law_asked_5)
  have o_law_right_6 := ok_law_right_6 (P := P) (w := w) (base := base) T D_law_right_6 c_law_tuple c_law_lowest
  have c_law_right_6 : CallD P w K mg base (GsOf K EXS) 3 F_law_right_6 "_law_right" 2 := CallD.full o_law_right_6 (g "_law_right" (List.mem_of_getElem? (i := 9) rfl)) D_law_right_6.kp (bd_law_right_6 D_law_right_6)
  have o_law_10 := ok_law_10 (P := P) (w := w) (base := base) T D_law_10 c_law_int c_law_number c_law_asked_5 c_law_right_6 c_made_spot_d3 c_made_spot
  exact o_law_10
end K04
open PySem PySem.W PySem.Calls PyProof.Rows in
theorem K04.holds_of (hf : ∀ ns : List Int, ns.length ≤ 63 → Bs.F_law_10 [.list (ns.map PyData.int)] = .ok (.bool true)) : PySem.Challenge.rw_boardsight_k04_spots_made.Holds := by
  w_on; o_law
  refine HandSHeadRun.head_any (r := OpenLaw.row PySem.Challenge.rw_boardsight_k04_spots_made) (q := view (OpenLaw.row PySem.Challenge.rw_boardsight_k04_spots_made).prog [16]) (H := K04.hk) (ob := K04.ob) (M := 4000) (loose := K04.loose) (d := HandSHeadRun.topDef (OpenLaw.row PySem.Challenge.rw_boardsight_k04_spots_made).prog 16) (kwd := []) K04.ob_eq
    (by kernel_rfl) (fun s => by kernel_rfl) K04.run (by kernel_rfl) (by kernel_rfl) (by kernel_rfl) (by rfl) (by first | assumption | decide +kernel) (by decide +kernel) ⟨rfl, rfl, rfl, rfl, rfl, by decide +kernel⟩ ?hw ?hc
  case hw => w_witness2
  case hc =>
    refine Bs.law_walk (l := PySem.Challenge.rw_boardsight_k04_spots_made) (n := 63) (k := 4) (x := "script") rfl (by decide) (by kernel_rfl) ⟨rfl, by decide, by decide⟩ ?F hf
    intro w mg fa h Y Gn hmg0
    obtain ⟨K, KX, c⟩ := Y
    have e : (HandSHeadRun.topDef (OpenLaw.row PySem.Challenge.rw_boardsight_k04_spots_made).prog 16).name = ("law" : PySem.Str) := by kernel_rfl
    rw [e] at hmg0
    obtain ⟨T, g⟩ := Bs.tp_of (fn := K04.fn) c KX Gn
    have e2 := hmg0.symm.trans (g "law" (List.mem_of_getElem? (i := 10) rfl))
    cases e2
    obtain ⟨fd, hb, hF⟩ := K04.facts (P := (PySem.Challenge.rw_boardsight_k04_spots_made).prog) (w := w) KX Gn c
    exact ⟨K, Bs.GsOf K K04.EXS, fd, KX, hb, fun base _ _ => hF base⟩
set_option maxRecDepth 100000 in
set_option maxHeartbeats 8000000 in
theorem PySem.Challenge.cw_boardsight_k04_spots_made_holds : PySem.Challenge.rw_boardsight_k04_spots_made.Holds := by
  exact K04.holds_of fun ns hl => Bs.k04_law hl
