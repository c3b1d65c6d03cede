import PyProof.Rows.All
import Wide.All
import OpenK.AllK
import Wide.FinOn
import HandS.Base
import HandS.Call
import HandS.List
import HandS.Comp
import HandS.Ends
import HandS.Dict
import HandS.Iter
import HandS.Text
import HandS.More
import HandS.Words
import HandS.WordsList
import HandS.WordsDict
import HandS.Wide
import HandS.IsInst
import HandS.Exc
import HandS.ExcInit
import HandS.ExcField
import HandS.TryOnly
import HandS.ExcOwn
import HandS.WordsExc
import HandS.Star
import HandS.Slots
import HandS.SlotsOwn
import HandS.ClsMeth
import KE.GoesEnum
import KE.GoesMore
import HandS.HeadHook1
import HandS.HeadHook2
import HandS.HeadHook3
import HandS.Defaults
import HandS.MakeKw
import HandS.MakeKwOnly
import HandS.Property
import HandS.Lambda
import HandS.TupAny
import HandS.Deep
import HandS.SortKw
import HandS.StrMore
import HandS.RaiseMore
import HandS.Zip
import KE.GoesZip
import HandS.Style
import HandS.SortRule
import KE.DataCmp
import HandS.FStr
import HandS.Flow
import HandS.HeadNt
import HandS.ExcIs
import HandS.SetFor
import HandS.Conv
import HandS.RevTup
import KE.SortKeyHeap
import KE.KSortKey
import KE.SortData
import PyProof.EqAt
import HandS.HeadWalk
import KE.KNestM
import HandS.IterVal
import KE.KOwnIter
import PyProof.Rows.RegReprOcc
import PyProof.ReprRoads
import PyProof.ReprBulk
import PyProof.FitsInt
import HandS.SetKeys
import KE.KxField
import PyProof.FString3
import HandS.Nested
import KE.KFmtOwn
import HandS.DictComp
import HandS.ListItems
import PyProof.AutoSeq1
import HandS.Spec
import HandS.GenBody
import HandS.GenCall
import HandS.GenList
import HandS.RaiseFrom
import HandS.Finally
import KE.KExcRaise
import PySem.Challenge.RW_oldplaces_k49_first_cases_of_long_texts
set_option Elab.async false
set_option linter.all false
set_option maxRecDepth 100000
set_option maxHeartbeats 2000000
namespace My
open PySem PySem.Spec PyProof.Rows L2
structure Fr (H : Hp) (p : Addr) : Prop where
  e : H p = none
theorem Fr.ne {H : Hp} {p a : Addr} {o : HO} (n : Fr H p) (h : H a = some o) : p ≠ a := (ne_of_none h n.e).symm
structure Xb (L : List Addr) (H H' : Hp) : Prop where
  go : ∀ a o, a ∉ L → H a = some o → H' a = some o
theorem Xb.refl {L : List Addr} (H : Hp) : Xb L H H := ⟨fun _ _ _ h => h⟩
theorem Xb.trans {L : List Addr} {H H1 H2 : Hp} (x : Xb L H H1) (y : Xb L H1 H2) : Xb L H H2 := ⟨fun a o n h => y.go a o n (x.go a o n h)⟩
theorem Xb.weak {L L' : List Addr} {H H' : Hp} (x : Xb L H H') (s : ∀ a, a ∈ L → a ∈ L') : Xb L' H H' := ⟨fun a o n h => x.go a o (fun q => n (s a q)) h⟩
theorem Xb.any {L : List Addr} {H H' : Hp} (x : Xb [] H H') : Xb L H H' := ⟨fun a o _ h => x.go a o (fun q => nomatch q) h⟩
theorem Xb.new {H : Hp} {p : Addr} {o : HO} (hp : H p = none) : Xb [] H (upd H p o) := ⟨fun a u _ e => by
  rw [upd_ne (ne_of_none e hp)]
  exact e⟩
theorem Xb.put {H : Hp} {p : Addr} {o : HO} : Xb [p] H (upd H p o) := ⟨fun a u n e => by
  rw [upd_ne (fun q => n (by rw [q]; exact .head _))]
  exact e⟩
theorem Xb.get0 {H H' : Hp} {a : Addr} {o : HO} (x : Xb [] H H') (h : H a = some o) : H' a = some o := x.go a o (fun q => nomatch q) h
theorem Xb.get1 {b : Addr} {H H' : Hp} {a : Addr} {o : HO} (x : Xb [b] H H') (n : a ≠ b) (h : H a = some o) : H' a = some o := x.go a o (fun q => n (List.mem_singleton.mp q)) h
theorem Xb.t0 {L : List Addr} {H H1 H2 : Hp} (x : Xb L H H1) (y : Xb [] H1 H2) : Xb L H H2 := x.trans y.any
theorem Xb.t1 {L : List Addr} {c : Addr} {H H1 H2 : Hp} (x : Xb L H H1) (y : Xb [c] H1 H2) (m : c ∈ L) : Xb L H H2 := x.trans (y.weak fun a q => by
  rw [List.mem_singleton.mp q]
  exact m)
theorem Xb.b0 {L : List Addr} {H H1 H2 : Hp} (y : Xb [] H1 H2) (x : Xb L H H1) : Xb L H H2 := x.t0 y
theorem Xb.b1 {L : List Addr} {c : Addr} {H H1 H2 : Hp} (y : Xb [c] H1 H2) (m : c ∈ L) (x : Xb L H H1) : Xb L H H2 := x.t1 y m
theorem Xb.loc {L : List Addr} {p : Addr} {H H1 H2 : Hp} (x : Xb L H H1) (hp : H p = none) (y : Xb [p] H1 H2) : Xb L H H2 := ⟨fun a o n h =>
  y.go a o (fun q => by
    rw [List.mem_singleton] at q
    rw [q, hp] at h
    cases h) (x.go a o n h)⟩
theorem Xb.free {L : List Addr} {H H' : Hp} (x : Xb L H H') {l : Addr} (n : l ∉ L) (h : H' l = Option.none) : H l = Option.none := by
  cases q : H l with
  | none => rfl
  | some o =>
    rw [x.go l o n q] at h
    cases h
theorem Xb.bl {L : List Addr} {p : Addr} {H H1 H2 : Hp} (y : Xb [p] H1 H2) (hp : Fr H p) (x : Xb L H H1) : Xb L H H2 := x.loc hp.e y
theorem Xb.seq {K : PySem.W.Frag} {L : List Addr} {H H' : Hp} {a : Addr} {xs : List V} (e : Xb L H H') (n : a ∉ L) (h : SqL K H a xs) : SqL K H' a xs := by
  rcases h with (h | ⟨o, h⟩) | h
  · exact .inl (.inl (e.go _ _ n h))
  · exact .inl (.inr ⟨o, e.go _ _ n h⟩)
  · exact .inr h
section
variable {X : Cx}
def mE (t : TE) : TE := fun σ H Q => ∃ Q0 : VK, t σ H Q0 ∧ ∀ v H', Q0 v H' → Q v H'
def mA (t : TA) : TA := fun σ H Q => ∃ Q0 : List V → Hp → Prop, t σ H Q0 ∧ ∀ v H', Q0 v H' → Q v H'
theorem pe_m {e : Expr} {t : TE} (h : PE X e t) : PE X e (mE t) := ⟨fun pins s σ H Q I ⟨Q0, hw, m⟩ =>
  thn (h.run pins s σ H Q0 I hw) fun v s1 ⟨x, H1, I1, r1, q1⟩ => ⟨x, H1, I1, r1, m _ _ q1⟩⟩
theorem pa_m {es : List Expr} {t : TA} (h : PA X es t) : PA X es (mA t) := ⟨fun pos pins s σ H Q I ⟨Q0, hw, m⟩ =>
  thn (h.run pos pins s σ H Q0 I hw) fun v s1 ⟨x, H1, I1, r1, q1⟩ => ⟨x, H1, I1, r1, m _ _ q1⟩⟩
theorem pe_imp {e : Expr} {t t' : TE} (h : PE X e t) (k : ∀ σ H Q, t' σ H Q → t σ H Q) : PE X e t' := ⟨fun pins s σ H Q I hw => h.run pins s σ H Q I (k σ H Q hw)⟩
theorem ps_imp {e : Stmt} {t t' : TS} (h : PS X e t) (k : ∀ D σ H, t' D σ H → t D σ H) : PS X e t' := ⟨fun pins s σ H D I hw => h.run pins s σ H D I (k D σ H hw)⟩
def nLst (xs : List V) (H1 : Hp) (Q : VK) : Prop := xs.length ≤ sizeLine ∧ ∀ p H', Fr H1 p → Xb [] H1 H' → H' p = some (.lst xs) → Q (.ref p) H'
def nTup (xs : List V) (H1 : Hp) (Q : VK) : Prop := xs.length ≤ sizeLine ∧ ∀ p H', Fr H1 p → Xb [] H1 H' → H' p = some (.tup xs) → Q (.ref p) H'
def xLst (t : TA) : TE := fun σ H Q => t σ H fun xs H1 => nLst xs H1 Q
def xTup (t : TA) : TE := fun σ H Q => t σ H fun xs H1 => nTup xs H1 Q
theorem px_lst {es : List Expr} {t : TA} {pos : Pos} (ha : PA X es t) : PE X (.List es pos) (xLst t) :=
  pe_imp (pe_lst (pa_m ha)) fun σ H Q h => ⟨_, h, fun v H' q => ⟨q.1, fun p hp => q.2 p _ ⟨hp⟩ (Xb.new hp) upd_same⟩⟩
theorem px_tup {es : List Expr} {t : TA} {k : Nat} {pos : Pos} (ha : PA X es t) : PE X (.Tuple es k pos) (xTup t) :=
  pe_imp (pe_tup (pa_m ha)) fun σ H Q h => ⟨_, h, fun v H' q => ⟨q.1, fun p hp => q.2 p _ ⟨hp⟩ (Xb.new hp) upd_same⟩⟩
end
section
variable {X : Cx}
abbrev nL (xs : List V) (H : Hp) (Q : VK) : Prop := ∀ (p : Addr) (H' : Hp), Fr H p → Xb [] H H' → H' p = some (.lst xs) → Q (.ref p) H'
abbrev nT (xs : List V) (H : Hp) (Q : VK) : Prop := ∀ (p : Addr) (H' : Hp), Fr H p → Xb [] H H' → H' p = some (.tup xs) → Q (.ref p) H'
abbrev wL (l : Addr) (xs : List V) (H : Hp) (Q : Hp → Prop) : Prop := ∀ H' : Hp, Xb [l] H H' → H' l = some (.lst xs) → Q H'
theorem nL.of {xs : List V} {H : Hp} {Q : VK} (k : nL xs H Q) : ∀ p, H p = none → Q (.ref p) (upd H p (.lst xs)) := fun p hp => k p _ ⟨hp⟩ (Xb.new hp) upd_same
theorem nT.of {xs : List V} {H : Hp} {Q : VK} (k : nT xs H Q) : ∀ p, H p = none → Q (.ref p) (upd H p (.tup xs)) := fun p hp => k p _ ⟨hp⟩ (Xb.new hp) upd_same
theorem cx_list : CallR X (.type "list") (fun xs H Q => ∃ p, xs = [.ref p] ∧ ∃ ys, (SqL X.K H p ys ∨ SqT X.K H p ys) ∧ nL ys H Q) := fun pins s σ H xs us Q I r ⟨p, e, ys, h, k⟩ =>
  call_list_of pins s σ H xs us Q I r ⟨p, ys, e, h, k.of⟩
theorem cx_tuple : CallR X (.type "tuple") (fun xs H Q => ∃ p, xs = [.ref p] ∧ ∃ ys, SqL X.K H p ys ∧ nT ys H Q) := fun pins s σ H xs us Q I r ⟨p, e, ys, h, k⟩ =>
  call_tuple_of pins s σ H xs us Q I r ⟨p, ys, e, .inl ⟨h, k.of⟩⟩
theorem mx_append : MtR X "list.append" (fun x vs H Q => ∃ l y, x = .ref l ∧ vs = [y] ∧ ∃ xs, H l = some (.lst xs) ∧ xs.length < sizeLine ∧ wL l (xs ++ [y]) H (Q .non)) := fun pins s σ H x xs v us Q I rx r ⟨l, y, e1, e2, ys, h, n, k⟩ =>
  mt_append pins s σ H x xs v us Q I rx r ⟨l, ys, y, e1, e2, h, n, k _ Xb.put upd_same⟩
theorem setx_list : PSet X (fun o i v H Q => ∃ p k, o = .ref p ∧ i = .int k ∧ ∃ xs j, H p = some (.lst xs) ∧ ixN xs.length k = some j ∧ wL p (xs.set j v) H Q) := fun pins s σ H o i v ov iv u Q I ro ri rv ⟨p, k, e1, e2, xs, j, h, hj, q⟩ =>
  set_list pins s σ H o i v ov iv u Q I ro ri rv ⟨p, xs, k, j, e1, e2, h, hj, q _ Xb.put upd_same⟩
theorem ox_cat : OpR X (binaryOp .Add) (fun x y H Q => ∃ l b, x = .ref l ∧ y = .ref b ∧ ∃ xs zs, H l = some (.lst xs) ∧ H b = some (.lst zs) ∧ xs.length + zs.length ≤ sizeLine ∧ nL (xs ++ zs) H Q) := fun pins s σ H x y v u Q I rx ry ⟨l, b, e1, e2, xs, zs, h1, h2, n, k⟩ =>
  op_cat pins s σ H x y v u Q I rx ry ⟨l, b, xs, zs, e1, e2, h1, h2, n, k.of⟩
def gLst (K : PySem.W.Frag) : V → V → Hp → VK → Prop := fun x y H Q => ∃ p xs i v, x = .ref p ∧ y = .int i ∧ SqL K H p xs ∧ (0 ≤ i ∧ i < 2 ^ 62) ∧ xs[i.toNat]? = some v ∧ Q v H
theorem get_lst : PGet X (gLst X.K) := by
  intro pins s σ H o i ov iv Q I ro ri h
  obtain ⟨p, xs, i, v, rfl, rfl, hq, ⟨h0, h1⟩, hx, q⟩ := h
  cases ro
  obtain ⟨t, rfl⟩ := ri
  obtain ⟨its, r, pl, hz⟩ := I.list hq
  obtain ⟨w, ew, rw'⟩ := r.get hx
  exact wpAny_getItem_list pl.isList h0 (by omega) (by simpa using ew) ⟨v, H, I, rw', q⟩
end
structure Cl (P : Program) (w : World) (K : PySem.W.Frag) (mg : Str → Option Value) (base : Heap) (k : Nat) (x : Str) (sp : Sp) : Prop where
  ex : ∃ (f : Addr) (fd : FuncData) (ps : List Str), FnOk P w K mg base CX0 k f fd ps sp ∧ mg x = some (.ref f) ∧ PySem.W.keepIn K (.ref f) = true ∧ Binds K fd ps []
section
variable {X : Cx} {k j : Nat} {x : Str} {sp : Sp} {p pos : Pos} {e : Expr} {es : List Expr} {t : TA}
end
theorem sz {n : Nat} (h : n ≤ 100000) : n ≤ sizeLine := Nat.le_trans h (by decide)
structure BagS (b l : Addr) (H : Hp) (ns : List Int) (i g st : Int) : Prop where
  hb : H b = some (.lst [.ref l, .int i, .int g, .int st])
  hl : H l = some (.lst (ns.map V.int))
  len : ns.length ≤ 63
  i0 : 0 ≤ i
  iN : i ≤ 63
  g0 : 0 ≤ g
  s0 : 0 ≤ st
  sN : st < 2147483629
structure Bag (b l : Addr) (H : Hp) : Prop where
  ne : l ≠ b
  ex : ∃ (ns : List Int) (i g st : Int), BagS b l H ns i g st
theorem Bag.b {b l : Addr} {H : Hp} (h : Bag b l H) : ∃ xs, H b = some (.lst xs) := by
  obtain ⟨_, ns, i, g, st, B⟩ := h
  exact ⟨_, B.hb⟩
theorem Bag.l {b l : Addr} {H : Hp} (h : Bag b l H) : ∃ xs, H l = some (.lst xs) := by
  obtain ⟨_, ns, i, g, st, B⟩ := h
  exact ⟨_, B.hl⟩
theorem Bag.keep {L : List Addr} {b l : Addr} {H H' : Hp} (h : Bag b l H) (x : Xb L H H') (nb : b ∉ L) (nl : l ∉ L) : Bag b l H' := by
  obtain ⟨n, ns, i, g, st, B⟩ := h
  exact ⟨n, ns, i, g, st, x.go b _ nb B.hb, x.go l _ nl B.hl, B.len, B.i0, B.iN, B.g0, B.s0, B.sN⟩
def LimOk (lim : Int) : Prop := 0 < lim ∧ lim.natAbs < 2 ^ 250
theorem LimOk.of {lim : Int} (h : (decide (0 < lim) && Nat.blt lim.natAbs (2 ^ 250)) = true) : LimOk lim := by
  rw [Bool.and_eq_true] at h
  exact ⟨of_decide_eq_true h.1, Nat.blt_eq.mp h.2⟩
theorem LimOk.le {lim : Int} (h0 : 0 < lim) (h1 : lim ≤ 1000000000) : LimOk lim := ⟨h0, Nat.lt_of_le_of_lt (by omega : lim.natAbs ≤ 1000000000) (by decide)⟩
section
variable {K : PySem.W.Frag} {p : Addr} {i : Int} {H : Hp} {xs : List V} {Q : VK}
end
def LcI (Pv : Nat → Hp → List V → Prop) (D : Addr) (i : Nat) (H : Hp) : Prop := ∃ acc, H D = some (.lst acc) ∧ Pv i H acc
theorem LcI.start {Pv : Nat → Hp → List V → Prop} {D : Addr} {H : Hp} (hD : H D = none) (k : ∀ H', Fr H D → Xb [] H H' → H' D = some (.lst []) → Pv 0 H' []) : LcI Pv D 0 (upd H D (.lst [])) :=
  ⟨[], upd_same, k _ ⟨hD⟩ (Xb.new hD) upd_same⟩
theorem LcI.put {Pv : Nat → Hp → List V → Prop} {D : Addr} {j : Nat} {H : Hp} {acc : List V} {y : V} (k : ∀ H', Xb [D] H H' → H' D = some (.lst (acc ++ [y])) → Pv j H' (acc ++ [y])) : LcI Pv D j (upd H D (.lst (acc ++ [y]))) :=
  ⟨_, upd_same, k _ Xb.put upd_same⟩
section
variable {X : Cx}
end
def PairAt (H : Hp) (v : V) (p : Int × Int) : Prop := ∃ a, v = .ref a ∧ H a = some (.tup [.int p.1, .int p.2])
abbrev Pairs (H : Hp) (xs : List V) (ps : List (Int × Int)) : Prop := Paired (PairAt H) xs ps
theorem PairAt.keep {H H' : Hp} {v : V} {p : Int × Int} (x : Xb [] H H') (h : PairAt H v p) : PairAt H' v p := by
  obtain ⟨a, e, h⟩ := h
  exact ⟨a, e, x.get0 h⟩
theorem Pairs.keep {H H' : Hp} {xs : List V} {ps : List (Int × Int)} (x : Xb [] H H') (h : Pairs H xs ps) : Pairs H' xs ps := L2.Paired.mapP h fun _ _ q => q.keep x
theorem paired_app {α β : Type} {F : α → β → Prop} : ∀ {a c : List α} {b d : List β}, Paired F a b → Paired F c d → Paired F (a ++ c) (b ++ d)
  | _, _, _, _, .nil, h => h
  | _, _, _, _, .cons f t, h => .cons f (paired_app t h)
theorem paired_get {α β : Type} {F : α → β → Prop} : ∀ {a : List α} {b : List β} {i : Nat} {x : α}, Paired F a b → a[i]? = some x → ∃ y, b[i]? = some y ∧ F x y
  | _, _, _, _, .nil, e => by simp at e
  | _, _, 0, _, .cons f _, e => by
    simp at e
    subst e
    exact ⟨_, rfl, f⟩
  | _, _, i + 1, x, .cons _ t, e => by
    obtain ⟨y, h1, h2⟩ := paired_get (i := i) (x := x) t (by simpa using e)
    exact ⟨y, by simpa using h1, h2⟩
end My
set_option Elab.async false
set_option linter.all false
set_option maxRecDepth 100000
set_option maxHeartbeats 4000000
namespace My
open PySem PySem.Spec PyProof.Rows L2
theorem meets_enum1 {v : Value} {o : Obj} {H : Heap → Prop} (B : Begins v o H) :
    Meets (Builtin.«enumerate.__new__» ⟨[.type "enumerate", v], []⟩) (fun _ R s => H s.heap ∧
      R (.ok (.ret (.ref (s.heap.push o).objs.size))) { s with heap := (s.heap.push o).push { cls := .type "enumerate", data := .fields #[.none, .bool false, .ref s.heap.objs.size, rawInt 0, .none, .none] } }) :=
  .of_wp fun prog w A R s h => by
    obtain ⟨hp, g, d, tk, os⟩ := s; obtain ⟨h1, h⟩ := h
    have hsub := sub_enumerate
    have q1 : ∀ {A' : Around} {E : Value → Shared → Prop} {Q : Value → Shared → Prop}, Q (.ref hp.objs.size) ⟨hp.push o, g, d, tk, os⟩ → wpAny (model prog w) A' (pyIter v) Q E ⟨hp, g, d, tk, os⟩ :=
      fun q => B.iter prog w _ _ ⟨hp, g, d, tk, os⟩ _ h1 q
    wp_walk using q1
    refine wpAny_stack_any fun st => wpAny_pure ?_
    split
    · rename_i c _ _ _ _ _
      cases (c == Value.type "enumerate")
      all_goals
        wp_walk using q1
        exact ⟨_, rfl, h⟩
    · wp_walk using q1
      exact ⟨_, rfl, h⟩
theorem call_enum1 {prog : Program} {w : World} {A : Around} {E : Value → Shared → Prop} {s : Shared} {v : Value} {o : Obj} {H : Heap → Prop} {Q : Value → Shared → Prop} (B : Begins v o H) (h1 : H s.heap)
    (h : ∀ h', IsEnum h' (s.heap.objs.size + 1) s.heap.objs.size 0 .none → h'.get? s.heap.objs.size = some o → h'.objs.size = s.heap.objs.size + 2 →
      (∀ b o, s.heap.get? b = some o → h'.get? b = some o) → Q (.ref (s.heap.objs.size + 1)) { s with heap := h' }) :
    wpAny (model prog w) A (call (.type "enumerate") [v]) Q E s := by
  refine callType_new F.called_enumerate (by decide) (F.typeCall_enumerate_1 _) (F.newCall_enumerate_1 _) (fun obj => F.args_object_init_2 obj _) F.entry_enumerate_new (meets_enum1 B) ⟨h1, ?_⟩
  have hz : (s.heap.push o).objs.size = s.heap.objs.size + 1 := Heap.size_push ..
  show _ ∧ _
  rw [hz]
  have he : IsEnum ((s.heap.push o).push { cls := .type "enumerate", data := .fields #[.none, .bool false, .ref s.heap.objs.size, rawInt 0, .none, .none] }) (s.heap.objs.size + 1) s.heap.objs.size 0 .none := by
    have e := Heap.get?_push_size (s.heap.push o) (o := { cls := .type "enumerate", data := .fields #[.none, .bool false, .ref s.heap.objs.size, rawInt 0, .none, .none] }) rfl
    rw [hz] at e
    exact e
  exact ⟨⟨_, he, rfl⟩, h _ he (Heap.get?_push_of_some _ (Heap.get?_push_size _ B.free)) (by rw [Heap.size_push, hz]) fun b o x => Heap.get?_push_of_some _ (Heap.get?_push_of_some _ x)⟩
def IteT (K : PySem.W.Frag) (a : Addr) : It :=
  ⟨fun i H => ∃ (xs : List V) (x : V), SqT K H a xs ∧ xs[i]? = some x, fun i H v H' => ∃ T x, v = .ref T ∧ H T = none ∧ H' = upd H T (.tup [.int (i : Nat), x]) ∧ ∀ xs, SqT K H a xs → xs[i]? = some x, fun i H => ∃ xs : List V, SqT K H a xs ∧ xs.length ≤ i⟩
theorem turn_enumT {P : Program} {w : World} {K : PySem.W.Frag} {elts : List Expr} {kk : Nat} {tpos : Pos} (a e it : Addr) :
    Turn P w K (.Tuple elts kk tpos) (IteT K a) [e, it] e (fun i h => (∃ old, IsEnum h e it ((i : Nat) : Int) old) ∧ h.IsTupleIter it a i ∧ e ≠ it ∧ a ≠ it ∧ e ≠ a) where
  mem := by simp
  obj := fun i h st b hb => by
    obtain ⟨⟨old, he⟩, ⟨o, ho, hc, hd⟩, _⟩ := st
    have e' : b = e ∨ b = it := by simpa using hb
    rcases e' with z | z
    · rw [z]; exact ⟨_, he, fun v q => nomatch q⟩
    · rw [z]; exact ⟨o, ho, fun v q => by rw [hd] at q; cases q⟩
  keep := fun i h h' st k => let ⟨⟨old, he⟩, hi, hne⟩ := st; ⟨⟨old, k e (by simp) _ he⟩, hi.at fun o q => k it (by simp) o q, hne⟩
  item := by
    intro X hP hw hK hc i pins s σ H E I hf st hg
    subst hP hw hK
    obtain ⟨⟨old, he⟩, hit, hne, hai, hea⟩ := st
    obtain ⟨xs, x, hq, hx⟩ := hg
    obtain ⟨its, rv, p, hz⟩ := I.tuple hq
    obtain ⟨u, hu, ru⟩ := rv.get hx
    have hel : e < s.heap.objs.size := Heap.lt_size he
    have hil : it < s.heap.objs.size := by obtain ⟨_, q, _⟩ := hit; exact Heap.lt_size q
    have hlt : i < its.toArray.size := by
      rw [List.size_toArray]
      exact (List.getElem?_eq_some_iff.mp hu).1
    have D := Draws.tuple (prog := X.prog) (w := X.w) (A := X.A.in1) (I.ok.hd hc) it a hai its.toArray
    refine wpAny_pyNext_enum_itemD D he ⟨hit, p⟩ hlt hne (by simp [hne, hea]) fun x' h' tk hx' ho hst hT hsz hk => ?_
    have ex : x' = u := by
      have z : its.toArray[i]? = some u := by simpa using hu
      rw [hx'] at z
      exact Option.some.inj z
    subst ex
    refine ⟨_, rfl, wpAny_letOwnedTupleGo_enum (s := { s with heap := h', toks := tk + 1 }) ho fun h'' he' sb => ?_⟩
    have hT2 : h''.get? s.heap.objs.size = some { cls := .type "tuple", data := .seq #[.int i tk, x'] } := (sb.2 _ (Nat.ne_of_gt hel)).trans hT
    have new : ObjOk X.prog X.w (upd H s.heap.objs.size (.tup [.int (i : Nat), x])) h'' s.heap.objs.size (.tup [.int (i : Nat), x]) :=
      ⟨by show 2 ≤ sizeLine; decide, [.int i tk, x'], .cons ⟨_, rfl⟩ (.cons ru .nil), ⟨_, hT2, rfl, _, rfl⟩⟩
    have I1 : Inv X pins σ (upd H s.heap.objs.size (.tup [.int (i : Nat), x])) { s with heap := h'', toks := tk + 1 } :=
      I.turnedNew (ch := [e, it]) (fun b ob hb q => (sb.2 b (fun z => hb (by simp [z]))).trans (hk b ob (fun z => hb (by simp [z])) (fun z => hb (by simp [z])) q)) hf (Nat.le_refl _) new
    refine ⟨.ref s.heap.objs.size, _, I1, rfl, ⟨_, x, rfl, I.hok.fresh (Nat.le_refl _), rfl, fun ys hy => by rw [I.tuple_inj hy hq]; exact hx⟩, ⟨⟨x', ?_⟩, hst.1.at fun o q => (sb.2 it (Ne.symm hne)).trans q, hne, hai, hea⟩, fun b hb => ?_⟩
    · have e1 : ((i + 1 : Nat) : Int) = (i : Int) + 1 := by omega
      rw [e1]; exact he'
    · have hb' : b < s.heap.objs.size := by
        have e' : b = e ∨ b = it := by simpa using hb
        rcases e' with z | z
        · rw [z]; exact hel
        · rw [z]; exact hil
      rw [upd_ne (Nat.ne_of_lt hb')]
      exact (hf b hb).1
  done := by
    intro X hP hw hK hc i pins s σ H E I hf st hg
    subst hP hw hK
    obtain ⟨⟨old, he⟩, hit, hne, hai, hea⟩ := st
    obtain ⟨xs, hq, hx⟩ := hg
    obtain ⟨its, rv, p, hz⟩ := I.tuple hq
    obtain ⟨f0, f1, f2, f3, f4, f5⟩ := hf it (by simp)
    have hl := rv.length
    have hn : its.toArray[i]? = none := by
      rw [Array.getElem?_eq_none_iff, List.size_toArray]
      omega
    have D : Draws X.prog X.w X.A.in1 it [it, a] i (fun _ _ => False) (fun j h => j = i ∧ h.IsTupleIter it a i ∧ h.IsTuple a its.toArray) := {
      live := fun _ _ st => let ⟨o, ho, _⟩ := st.2.1; ⟨o, ho⟩
      frame := fun _ _ _ st hk => ⟨st.1, st.2.1.at fun o e => hk it (by simp) o e, st.2.2.at fun o e => hk a (by simp) o e⟩
      item := fun j s Q E hj st _ => absurd st.1 (Nat.ne_of_lt hj)
      done := fun s Q E st hE => wpAny_nextOf_tuple_end (I.ok.hd hc) st.2.1 st.2.2 hn hE }
    exact wpAny_pyNext_enum_endD D he ⟨rfl, hit, p⟩ fun h' eb => ⟨rfl, I.turned (t' := s.toks) (fun b o hb q => eb b o hb q) f0 f1 f3 f4 f5⟩
  self := fun A i s Q E st h => let ⟨⟨_, he⟩, _⟩ := st; wpAny_pyIter_enum he h
def iEnumT (K : PySem.W.Frag) (ta : TA) : TI := fun σ H R => ta σ H fun vs H1 => ∃ a xs, vs = [.ref a] ∧ SqT K H1 a xs ∧ R (IteT K a) H1
theorem pi_enumT {X : Cx} {e : Expr} {ta : TA} {p pos tpos : Pos} {elts : List Expr} {kk : Nat} (hg : Gl X "enumerate") (hm : X.mg "enumerate" = none) (ha : PA X [e] ta) (hs : starEach [e] X.env = [(false, eval e X.env)] := by rfl) :
    PI X (.Tuple elts kk tpos) (.Call (.Name "enumerate" p) [e] [] pos) (iEnumT X.K ta) := by
  refine ⟨fun pins s σ H R I h => ?_⟩
  refine Call_ (ld_blt I hg hm boot_enumerate (PyProof.Rows.callWith_type1 (thn (ha.run pos pins s σ H _ I h) fun us s1 ⟨vs, H1, I1, r1, q1⟩ => ?_) hs rfl))
  obtain ⟨a, xs, ex, hq, q⟩ := q1
  subst ex
  cases r1 with
  | cons r rr =>
    cases rr
    cases r
    obtain ⟨its, rv, p', hz⟩ := I1.tuple hq
    refine call_enum1 (begins_tuple a its.toArray) p' fun h' he hit hsz hk => wpAny_pyIter_enum he ?_
    have I2 : Inv X pins σ H1 { s1 with heap := h' } := I1.kept (t' := s1.toks) hk
    have hal : a < s1.heap.objs.size := by
      obtain ⟨o, ho, _⟩ := p'
      exact Heap.lt_size ho
    refine ⟨s1.heap.objs.size + 1, [s1.heap.objs.size + 1, s1.heap.objs.size], _, _, H1, rfl, I2, turn_enumT a (s1.heap.objs.size + 1) s1.heap.objs.size, ⟨⟨.none, he⟩, ⟨_, hit, rfl, rfl⟩, Nat.succ_ne_self _, Nat.ne_of_lt hal, Nat.ne_of_gt (Nat.lt_succ_of_lt hal)⟩, fun b hb => ?_, q⟩
    have e' : b = s1.heap.objs.size + 1 ∨ b = s1.heap.objs.size := by simpa using hb
    have hle : s1.heap.objs.size ≤ b := by
      rcases e' with z | z
      · rw [z]; exact Nat.le_add_right _ _
      · rw [z]; exact Nat.le_refl _
    exact I1.fpOk hle (I1.hok.fresh hle)
section
variable {K : PySem.W.Frag} {a : Addr} {xs : List V} {g : TG} {tb : TS} {D : Ends} {σ : L2.St} {H : Hp}
end
end My
set_option Elab.async false
set_option linter.all false
set_option maxRecDepth 100000
set_option maxHeartbeats 4000000
namespace My
open PySem PySem.Spec PyProof.Rows L2
structure ExK (K : PySem.W.Frag) (mg : Str → Option Value) (x : Str) (C fI : Addr) (fs : List Str) : Prop where
  ox : OexC K C
  xf : XfC K C
  no : ∀ f ∈ fs, PySem.W.findIn K (.ref C) f = some none
  iC : PySem.W.findIn K (.ref C) "__init__" = some (some (.ref fI))
  tI : PySem.W.typeIn K (.ref fI) = some (.type "function")
  gC : mg x = some (.ref C)
  self : PySem.W.exmOne K (.ref C) (.ref C) = some true
structure ExB (K : PySem.W.Frag) (mg : Str → Option Value) (x : Str) (B : Addr) (mc : Value) : Prop where
  gB : mg x = some (.ref B)
  rd : ClX.CRead K B mc
  fi : PySem.W.findCls K (.ref B) mc "__init__" = some (.val (.builtin "ValueError.__init__"))
section
variable {X : Cx} {e : Expr} {es : List Expr} {te : TE} {ta : TA} {p p1 p2 pos : Pos} {bn : Str} {B : Addr} {mc : Value}
theorem pe_obinit {pl : Sem Bool} (T0 : ExB X.K X.mg bn B mc) (hg : Gl X bn) (ha : PA X (e :: es) ta)
    (hc : eval (.Call (.Attribute (.Name bn p1) "__init__" p2) (e :: es) [] pos) X.env = (do
      let ov ← eval (.Name bn p1) X.env
      standAt p2.atName
      let (f, first) ← holding [ov] (getMethod ov "__init__" pl)
      callWith pos f first (backTo pos (starEach (e :: es) X.env)) (backToKw pos (keywordEach [] X.env))) := by rfl)
    (hdb : (bn == ("__debug__" : Str)) = false := by decide)
    (he : starEach (e :: es) X.env = (false, eval e X.env) :: starEach es X.env := by rfl) (hpl : (backTo pos (starEach es X.env)).any (·.1) = false := by rfl) :
    PE X (.Call (.Attribute (.Name bn p1) "__init__" p2) (e :: es) [] pos) (tVeI X.K ta) := by
  refine ⟨fun pins s σ H Q I h => ?_⟩
  refine PySem.W.methodCall_KW (ld_glob I hg T0.gB ?_ hdb) hc
  refine PySem.W.method_cls I.kIn T0.rd.ga (PySem.W.cls_value I.kIn T0.rd.rd T0.fi (by decide +kernel) ?_)
  show wpAny _ _ (callWith pos (Value.builtin "ValueError.__init__") [] (backTo pos (starEach (e :: es) X.env)) []) _ _ _
  refine PyProof.Rows.callWith_method1 (thn (ha.run pos pins _ σ H _ (I.tok _) h) fun us s1 ⟨vs, H1, I1, r1, a, C, ws, ev, hl, T, ea, q⟩ => ?_) he hpl
  subst ev
  cases r1 with
  | @cons _ u0 _ ur ra rw' =>
    obtain rfl : u0 = Value.ref a := ra
    have hlen : ur.length ≤ sizeLine := by
      rw [← Paired.length rw', sizeLine_eq]
      omega
    exact oinit_ok T I1 ea hlen fun s' J => ⟨.non, H1, J, rfl, q⟩
end
def spXI1 (C : Addr) (f : Str) : Sp := fun vs H Q _ => ∃ (a : Addr) (v : V), vs = [.ref a, v] ∧ H a = some (exo a C none) ∧ ∀ dx, H dx = none → dx ≠ a → Q .non (upd (upd H dx (exd dx [(f, v)])) a (exo a C (some dx)))
section
variable {X : Cx} {e : Expr} {te : TE} {p pos : Pos} {x f : Str} {C fI : Addr} {fd : FuncData} {k : Nat}
def tMk1 (C : Addr) (f : Str) (te : TE) : L2.St → Hp → XK → Prop := fun σ H Q => te σ H fun v H1 => ∀ (d : Addr) (H' : Hp), Fr H1 d → Xb [] H1 H' → H' d = some (.xd [(f, v)]) → Q (.ref C) (some d) H'
theorem pmk_x1 {fs : List Str} (T : ExK X.K X.mg x C fI fs) (F1 : FnOk X.prog X.w X.K X.mg X.base CX0 k fI fd ["self", f] (spXI1 C f)) (hr : Room (k + 1) X.A) (hb : Binds X.K fd ["self", f] []) (hg : Gl X x) (he : PE X e te)
    (hdb : (x == ("__debug__" : Str)) = false := by decide) (hst : starEach [e] X.env = (false, eval e X.env) :: starEach [] X.env := by rfl) (hpl : (backTo pos (starEach [] X.env)).any (·.1) = false := by rfl) :
    PMk X (.Call (.Name x p) [e] [] pos) (tMk1 C f te) := by
  intro pins s σ H Q I h
  refine pmk_oex T.ox T.iC T.tI F1 hr hb .nil pass0 hg T.gC (pa_m (pa_cons he pa_nil hst)) hdb hst hpl pins s σ H Q I ?_
  refine ⟨fun vs H1 => match vs with | [v] => ∀ (d : Addr) (H' : Hp), Fr H1 d → Xb [] H1 H' → H' d = some (.xd [(f, v)]) → Q (.ref C) (some d) H' | _ => False, h, fun vs H1 q => ?_⟩
  match vs, q with
  | [v], q =>
    refine ⟨by show 1 ≤ 1000; decide, fun a ha => ⟨a, v, rfl, upd_same, fun dx hdx hne => ?_⟩⟩
    rw [upd_ne hne] at hdx
    refine ⟨rfl, dx, [(f, v)], upd_same, by rw [upd_ne hne, upd_same], hdx, q dx _ ⟨hdx⟩ ⟨fun c o _ hc => ?_⟩ upd_same⟩
    have n1 : c ≠ dx := ne_of_none hc hdx
    have n2 : c ≠ a := ne_of_none hc ha
    rw [upd_ne n1, del_ne n2, upd_ne n2, upd_ne n1, upd_ne n2]
    exact hc
end
end My
set_option Elab.async false
set_option linter.all false
set_option maxRecDepth 100000
set_option maxHeartbeats 4000000
namespace My
open PySem PySem.Spec PyProof.Rows L2
def Callee (P : Program) (w : World) (K : PySem.W.Frag) (mg : Str → Option Value) (base : Heap) (k : Nat) (v : Addr) (sp : Sp) : Prop :=
  ∀ (X : Cx) (pins : List (Addr × Obj)) (σ : L2.St) (H : Hp) (s : Shared) (us : List Value) (vs : List V) (Q : VK) (E : XK), X.prog = P → X.w = w → X.K = K → X.mg = mg → X.base = base →
    Room k X.A → PassesAt (L2.CX X.prog X.w) X σ E → Inv X pins σ H s → Vals vs us → sp vs H Q E → wpAny (model X.prog X.w) X.A (call (.ref v) us) (EP X pins σ Q) X.xe s
structure Cf (P : Program) (w : World) (K : PySem.W.Frag) (mg : Str → Option Value) (base : Heap) (k : Nat) (x : Str) (sp : Sp) : Prop where
  ex : ∃ v : Addr, Callee P w K mg base k v sp ∧ mg x = some (.ref v) ∧ PySem.W.keepIn K (.ref v) = true
section
variable {P : Program} {w : World} {K : PySem.W.Frag} {mg : Str → Option Value} {base : Heap} {k : Nat} {v f C : Addr} {x : Str} {sp sp' : Sp}
theorem Callee.imp (c : Callee P w K mg base k v sp) (h : ∀ vs H Q E, sp' vs H Q E → sp vs H Q E) : Callee P w K mg base k v sp' := fun X pins σ H s us vs Q E e1 e2 e3 e4 e5 hr hx I r hs => c X pins σ H s us vs Q E e1 e2 e3 e4 e5 hr hx I r (h _ _ _ _ hs)
theorem Cf.imp (c : Cf P w K mg base k x sp) (h : ∀ vs H Q E, sp' vs H Q E → sp vs H Q E) : Cf P w K mg base k x sp' := by
  obtain ⟨v, c, hm, hk⟩ := c.ex
  exact ⟨v, c.imp h, hm, hk⟩
theorem FnR.or (F : FnR P w K mg base (L2.CX P w) k f sp) (F' : FnR P w K mg base (L2.CX P w) k f sp') : FnR P w K mg base (L2.CX P w) k f (fun vs H Q E => sp vs H Q E ∨ sp' vs H Q E) :=
  fun A outer s H us vs Q E hr e0 r h => h.elim (F A outer s H us vs Q E hr e0 r) (F' A outer s H us vs Q E hr e0 r)
theorem Callee.of_fn (F : FnR P w K mg base (L2.CX P w) k f sp) : Callee P w K mg base k f sp := by
  rintro X pins σ H s us vs Q E rfl rfl rfl rfl rfl hr hx I r h
  refine wpAny_call (codeAny_mono (F X.A X.stack s H us vs Q E hr I.env0 r h) fun r s' hq => ?_)
  cases r with
  | error e => exact hx pins H s e s' I hq
  | ok fl =>
    cases fl with
    | ret u => exact I.after hq
    | next => exact False.elim hq
    | brk => exact False.elim hq
    | cont => exact False.elim hq
def spMk (C : Addr) (spI : Sp) : Sp := fun vs H Q E => ∀ (a d : Addr) (H2 : Hp), Fr H a → Fr H d → d ≠ a → Xb [] H H2 → H2 a = some (.ins C d []) → H2 d = some (.own a) → spI (.ref a :: vs) H2 (fun v H3 => v = .non ∧ Q (.ref a) H3) E
theorem Callee.of_cls (M : Mk K C f) (F : FnR P w K mg base (L2.CX P w) k f sp) : Callee P w K mg base (k + 1) C (spMk C sp) := by
  rintro X pins σ H s us vs Q E rfl rfl rfl rfl rfl hr hx I r h
  have n1 : H (s.heap.objs.size + 1) = none := I.hok.fresh (Nat.le_succ _)
  have n2 : H s.heap.objs.size = none := I.hok.fresh (Nat.le_refl _)
  have ne : s.heap.objs.size ≠ s.heap.objs.size + 1 := Nat.ne_of_lt (Nat.lt_succ_self _)
  have hq := h (s.heap.objs.size + 1) s.heap.objs.size (upd (upd H s.heap.objs.size (.own (s.heap.objs.size + 1))) (s.heap.objs.size + 1) (.ins C s.heap.objs.size [])) ⟨n1⟩ ⟨n2⟩ ne
    ((Xb.new n2).t0 (Xb.new (by rw [upd_ne (Ne.symm ne)]; exact n1))) upd_same (by rw [upd_ne ne, upd_same])
  have I2 := Inv.made (C := C) I
  have r2 : Vals (V.ref (s.heap.objs.size + 1) :: vs) (Value.ref (s.heap.objs.size + 1) :: us) := .cons rfl r
  refine wpAny_call (make_map (f := f) I.kIn M.makes M.init (beq_iff_eq.mp M.fn) (codeAny_mono (F _ X.stack _ _ (Value.ref (s.heap.objs.size + 1) :: us) _ _ E (hr.make C us []) (I2.env0.make C us []) r2 hq) fun r s' hq' => ?_))
  cases r with
  | error e => exact hx pins _ _ e s' I2 hq'
  | ok fl =>
    cases fl with
    | ret u =>
      obtain ⟨v, H', I3, rv, ev, q3⟩ := I2.after hq'
      subst ev
      exact ⟨rv, ⟨V.ref (s.heap.objs.size + 1), H', I3, rfl, q3⟩⟩
    | next => exact False.elim hq'
    | brk => exact False.elim hq'
    | cont => exact False.elim hq'
end
section
variable {X : Cx} {W : WX} {k j : Nat} {x : Str} {sp : Sp} {p pos : Pos} {e : Expr} {es : List Expr} {t : TA}
theorem passN (σ : L2.St) : PassesAt (L2.CX X.prog X.w) X σ E0 := fun pins H s e s' I h => passL pins σ H s e s' I h
theorem pn (c : Cf X.prog X.w X.K X.mg X.base k x sp) (hr : Room j X.A) (hg : Gl X x) (ha : PA X (e :: es) t) (hk : k ≤ j := by decide)
    (hdb : (x == ("__debug__" : Str)) = false := by decide) (he : starEach (e :: es) X.env = (false, eval e X.env) :: starEach es X.env := by rfl) (hpl : (backTo pos (starEach es X.env)).any (·.1) = false := by rfl) :
    PE X (.Call (.Name x p) (e :: es) [] pos) (fun σ H Q => t σ H fun vs H1 => sp vs H1 Q E0) := by
  obtain ⟨v, c, hm, kp⟩ := c.ex
  refine ⟨fun pins s σ H Q I h => ?_⟩
  refine wpAny_Call_Name_kw (ld_glob I hg hm ?_ hdb)
  refine PySem.W.callWith_K (h₀ := X.base) I.ok.mod.kin kp (thn (ha.run pos pins s σ H _ I h) fun us s1 ⟨vs, H1, I1, r, q⟩ => ⟨I1.kIn, ?_⟩) he hpl
  exact c X pins σ H1 s1 us vs Q E0 rfl rfl rfl rfl rfl (hr.mono hk) (passN σ) I1 r q
theorem px (c : Cf X.prog X.w X.K X.mg X.base k x sp) (hr : Room j X.A) (tk : Takes X W) (hg : Gl X x) (ha : PA X (e :: es) t) (hk : k ≤ j := by decide)
    (hdb : (x == ("__debug__" : Str)) = false := by decide) (he : starEach (e :: es) X.env = (false, eval e X.env) :: starEach es X.env := by rfl) (hpl : (backTo pos (starEach es X.env)).any (·.1) = false := by rfl) :
    PE X (.Call (.Name x p) (e :: es) [] pos) (fun σ H Q => t σ H fun vs H1 => sp vs H1 Q (WE W σ)) := by
  obtain ⟨v, c, hm, kp⟩ := c.ex
  refine ⟨fun pins s σ H Q I h => ?_⟩
  refine wpAny_Call_Name_kw (ld_glob I hg hm ?_ hdb)
  refine PySem.W.callWith_K (h₀ := X.base) I.ok.mod.kin kp (thn (ha.run pos pins s σ H _ I h) fun us s1 ⟨vs, H1, I1, r, q⟩ => ⟨I1.kIn, ?_⟩) he hpl
  exact c X pins σ H1 s1 us vs Q (WE W σ) rfl rfl rfl rfl rfl (hr.mono hk) (passAt tk σ) I1 r q
end
def oxB (K : PySem.W.Frag) (C : Addr) : Bool := match K.lookup C with
  | some ⟨.type "type", _, .cls cd, sl⟩ => (match cd.mro, sl.toList with
    | .ref C' :: bm, [_, _, _, _, some (.builtin n), _] => C' == C && n == "ValueError.__new__" && !cd.hasDel && cd.hasDict && refsVE' bm
    | _, _ => false)
  | _ => false
where refsVE' (bm : List Value) : Bool := PySem.HandSPX.refsVE bm
theorem ox_of {K : PySem.W.Frag} {C : Addr} (q : oxB K C = true) : ∃ nm q N bs bm sn sub ab col dd k0 k1 k2 k3 k5, K.lookup C = some (excClassObj nm q C N bs bm true sn sub ab col dd k0 k1 k2 k3 k5 "ValueError.__new__") ∧ PySem.HandSPX.refsVE bm = true := by
  unfold oxB at q
  split at q
  · rename_i dd cd sl ho
    split at q
    · rename_i C' bm k0 k1 k2 k3 n k5 hm hs
      simp only [Bool.and_eq_true, beq_iff_eq, Bool.not_eq_true'] at q
      obtain ⟨⟨⟨⟨rfl, rfl⟩, hdel⟩, hdi⟩, hr⟩ := q
      obtain ⟨nm, bs, mro, ns, qn, hd, sn, sub, ab, col, del⟩ := cd
      dsimp only at hm hdel hdi
      subst hm hdel hdi
      have hsl : sl = #[k0, k1, k2, k3, some (.builtin "ValueError.__new__"), k5] := by
        obtain ⟨l⟩ := sl
        simp only at hs
        rw [hs]
      subst hsl
      exact ⟨_, _, _, _, _, _, _, _, _, _, _, _, _, _, _, ho, hr⟩
    · cases q
  · cases q
def exkB (K : PySem.W.Frag) (x : Str) (fs : List Str) : Bool :=
  oxB K (He.ga K x) && (He.eqO (PySem.W.findIn K (.ref (He.ga K x)) "__setattr__") (some (some (.builtin "object.__setattr__"))) && (decide (PySem.W.subIn K (.ref (He.ga K x)) (.type "BaseException") = some true) &&
  (decide (PySem.W.typeIn K (.ref (He.ga K x)) = some (.type "type")) && (PySem.W.keepIn K (.ref (He.ga K x)) && (xfB K (He.ga K x) && ((fs.all fun f => He.eqO (PySem.W.findIn K (.ref (He.ga K x)) f) (some none)) &&
  (He.eqO (PySem.W.findIn K (.ref (He.ga K x)) "__init__") (some (some (.ref (He.ma K (He.ga K x) "__init__")))) && (decide (PySem.W.typeIn K (.ref (He.ma K (He.ga K x) "__init__")) = some (.type "function")) &&
  (He.eqO (PySem.W.nsIn K mainGlobals x) (some (some (.ref (He.ga K x)))) && decide (PySem.W.exmOne K (.ref (He.ga K x)) (.ref (He.ga K x)) = some true))))))))))
theorem exk_ok {K : PySem.W.Frag} {h : Heap} {mg : Str → Option Value} (X : K.In h) (G : h.Ns mainGlobals mg) {x : Str} {fs : List Str} (c : exkB K x fs = true) : ExK K mg x (He.ga K x) (He.ma K (He.ga K x) "__init__") fs := by
  unfold exkB at c
  simp only [Bool.and_eq_true, decide_eq_true_eq, List.all_eq_true] at c
  obtain ⟨c1, c2, c3, c4, c5, c6, c7, c8, c9, c10, c11⟩ := c
  exact ⟨⟨ox_of c1, He.eqO_ok c2, c3, c4, c5⟩, xfB_ok c6, fun f hf => He.eqO_ok (c7 f hf), He.eqO_ok c8, c9, PySem.W.mg_of X G (He.eqO_ok c10), c11⟩
def exbB (K : PySem.W.Frag) (x : Str) : Bool :=
  He.eqO (PySem.W.nsIn K mainGlobals x) (some (some (.ref (He.ga K x)))) && (PySem.W.readsIn K (He.ga K x) (.type "type") && (He.eqO (PySem.W.specialIn K (.ref (He.ga K x)) "__getattribute__") (some (some (.builtin "type.__getattribute__"))) &&
  (match PySem.W.findCls K (.ref (He.ga K x)) (.type "type") "__init__" with
   | some (.val (.builtin n)) => decide (n = "ValueError.__init__")
   | _ => false)))
theorem exb_ok {K : PySem.W.Frag} {h : Heap} {mg : Str → Option Value} (X : K.In h) (G : h.Ns mainGlobals mg) {x : Str} (c : exbB K x = true) : ExB K mg x (He.ga K x) (.type "type") := by
  unfold exbB at c
  simp only [Bool.and_eq_true] at c
  obtain ⟨c1, c2, c3, c4⟩ := c
  refine ⟨PySem.W.mg_of X G (He.eqO_ok c1), ⟨c2, He.eqO_ok c3⟩, ?_⟩
  revert c4
  split
  · rename_i n e
    intro c
    rw [e, of_decide_eq_true c]
  · intro c
    cases c
structure TupK (K : PySem.W.Frag) (mg : Str → Option Value) (x : Str) (xs : List V) : Prop where
  ex : ∃ a, mg x = some (.ref a) ∧ (∀ H, SqT K H a xs) ∧ ∃ o, K.lookup a = some o ∧ o.cls = .type "tuple"
theorem TupK.cl {K : PySem.W.Frag} {mg : Str → Option Value} {x : Str} {xs : List V} (t : TupK K mg x xs) : ∃ o, K.lookup t.ex.choose = some o ∧ o.cls = .type "tuple" := t.ex.choose_spec.2.2
end My
set_option Elab.async false
set_option linter.all false
set_option maxRecDepth 100000
set_option maxHeartbeats 4000000
namespace My
open PySem PySem.Spec PyProof.Rows L2
structure Rz1 (P : Program) (w : World) (K : PySem.W.Frag) (mg : Str → Option Value) (base : Heap) (k : Nat) (x f : Str) : Prop where
  ex : ∃ (fI : Addr) (fd : FuncData) (fs : List Str), ExK K mg x (He.ga K x) fI fs ∧ FnOk P w K mg base CX0 k fI fd ["self", f] (spXI1 (He.ga K x) f) ∧ Binds K fd ["self", f] []
section
variable {X : Cx} {e : Expr} {te : TE} {p pos : Pos} {x f : Str} {k j : Nat}
theorem pz1 (c : Rz1 X.prog X.w X.K X.mg X.base k x f) (hr : Room j X.A) (hg : Gl X x) (he : PE X e te) (hk : k + 1 ≤ j := by decide) (hdb : (x == ("__debug__" : Str)) = false := by decide)
    (hst : starEach [e] X.env = (false, eval e X.env) :: starEach [] X.env := by rfl) (hpl : (backTo pos (starEach [] X.env)).any (·.1) = false := by rfl) : PMk X (.Call (.Name x p) [e] [] pos) (tMk1 (He.ga X.K x) f te) := by
  obtain ⟨fI, fd, fs, T, F, b⟩ := c.ex
  exact pmk_x1 T F (hr.mono hk) b hg he hdb hst hpl
end
def spXI2 (C : Addr) (f g : Str) : Sp := fun vs H Q _ => ∃ (a : Addr) (v u : V), vs = [.ref a, v, u] ∧ H a = some (exo a C none) ∧ ∀ dx, H dx = none → dx ≠ a → Q .non (upd (upd (upd H dx (exd dx [(f, v)])) a (exo a C (some dx))) dx (exd dx [(g, u), (f, v)]))
structure Rz2 (P : Program) (w : World) (K : PySem.W.Frag) (mg : Str → Option Value) (base : Heap) (k : Nat) (x f g : Str) : Prop where
  ex : ∃ (fI : Addr) (fd : FuncData) (fs : List Str), ExK K mg x (He.ga K x) fI fs ∧ FnOk P w K mg base CX0 k fI fd ["self", f, g] (spXI2 (He.ga K x) f g) ∧ Binds K fd ["self", f, g] []
def tMk2 (C : Addr) (f g : Str) (te tu : TE) : L2.St → Hp → XK → Prop := fun σ H Q => te σ H fun v H1 => tu σ H1 fun u H2 => ∀ (d : Addr) (H' : Hp), Fr H2 d → Xb [] H2 H' → H' d = some (.xd [(g, u), (f, v)]) → Q (.ref C) (some d) H'
section
variable {X : Cx} {e e' : Expr} {te tu : TE} {p pos : Pos} {x f g : Str} {k j : Nat}
theorem pz2 (c : Rz2 X.prog X.w X.K X.mg X.base k x f g) (hr : Room j X.A) (hg : Gl X x) (he : PE X e te) (he' : PE X e' tu) (hk : k + 1 ≤ j := by decide) (hdb : (x == ("__debug__" : Str)) = false := by decide)
    (hst : starEach [e, e'] X.env = (false, eval e X.env) :: starEach [e'] X.env := by rfl) (hst' : starEach [e'] X.env = (false, eval e' X.env) :: starEach [] X.env := by rfl) (hpl : (backTo pos (starEach [e'] X.env)).any (·.1) = false := by rfl) :
    PMk X (.Call (.Name x p) [e, e'] [] pos) (tMk2 (He.ga X.K x) f g te tu) := by
  obtain ⟨fI, fd, fs, T, F1, hb⟩ := c.ex
  intro pins s σ H Q I h
  refine pmk_oex T.ox T.iC T.tI F1 (hr.mono hk) hb .nil pass0 hg T.gC (pa_m (pa_cons (pe_m he) (pa_cons (pe_m he') pa_nil hst') hst)) hdb hst hpl pins s σ H Q I ?_
  refine ⟨fun vs H1 => match vs with | [v, u] => ∀ (d : Addr) (H' : Hp), Fr H1 d → Xb [] H1 H' → H' d = some (.xd [(g, u), (f, v)]) → Q (.ref (He.ga X.K x)) (some d) H' | _ => False, ?_, fun vs H1 q => ?_⟩
  · exact ⟨_, h, fun v H1 q => ⟨_, q, fun u H2 q2 => q2⟩⟩
  · match vs, q with
    | [v, u], q =>
      refine ⟨by show 2 ≤ 1000; decide, fun a ha => ⟨a, v, u, rfl, upd_same, fun dx hdx hne => ?_⟩⟩
      rw [upd_ne hne] at hdx
      refine ⟨rfl, dx, [(g, u), (f, v)], by rw [upd_ne (Ne.symm hne), upd_same], upd_same, hdx, q dx _ ⟨hdx⟩ ⟨fun c o _ hc => ?_⟩ upd_same⟩
      have n1 : c ≠ dx := ne_of_none hc hdx
      have n2 : c ≠ a := ne_of_none hc ha
      rw [upd_ne n1, del_ne n2, upd_ne n1, upd_ne n2, upd_ne n1, upd_ne n2]
      exact hc
end
section
variable {X : Cx} {o e value : Expr} {f : Str} {pos pos' : Pos} {ta tv : TE} {C : Addr}
end
section
variable {P : Program} {w : World} {K : PySem.W.Frag} {mg : Str → Option Value} {base : Heap} {x qual : Str} {params : Arguments} {body : List Stmt} {scope : Scope} {kws : List (Str × V)} {f : Addr} {fd : FuncData} {N ps : List Str} {pv : Str} {k : Nat} {sp : Sp}
theorem okR {CX : CXT} {ps : List Str} (F : FnOk P w K mg base CX k f fd ps sp) (b : Binds K fd ps []) : FnR P w K mg base CX k f sp :=
  FnR.imp (F.raw b .nil) fun vs H Q E h => by
    rw [List.append_nil]
    exact h
end
theorem pss_imp {X : Cx} {b : List Stmt} {t t' : TS} (h : PSs X b t) (k : ∀ D σ H, t' D σ H → t D σ H) : PSs X b t' := ⟨fun pins s σ H D I hw => h.run pins s σ H D I (k D σ H hw)⟩
section
variable {X : Cx} {x n : Str} {c : Value} {i : Nat} {body suite : List Stmt} {b₀ : Stmt} {np pos pos' : Pos} {Wout : WX}
  {tb : WX → List (Addr × Obj) → (Value → Shared → Prop) → TS} {ts : Addr → Value → Option Addr → Obj → List (Addr × Obj) → TS}
end
end My
set_option Elab.async false
set_option linter.all false
set_option maxRecDepth 100000
set_option maxHeartbeats 2000000
namespace Vl
open PySem PySem.Spec PyProof.Rows L2 My
def tabDefs : List ((Str × Option Str) × Str) := [(("passed_rows", none), "passed_rows"), (("Rule", some "in_text"), "Rule.in_text"), (("normal_form", none), "normal_form"), (("sets_of", none), "sets_of")]
def cdAt (K : PySem.W.Frag) (f : Addr) : Option Addr := (K.lookup f).bind fun o => match o.data with
  | .func fd => (match fd.body with
    | .stmts [_] => none
    | _ => (match fd.code with | .ref c => some c | _ => none))
  | _ => none
def tbAt (K : PySem.W.Frag) (c : Addr) : Option Addr := (K.lookup c).bind fun o => match o.data with
  | .fields vs => (match (vs[11]? : Option Value) with | some (.ref P) => some P | _ => none)
  | _ => none
def lamQ (q : Str) : Str := q ++ ".<locals>." ++ "<lambda>"
def TK (K : PySem.W.Frag) : List (Addr × Str) := tabDefs.filterMap fun d => ((cdAt K (He.fAd K d.1)).bind (tbAt K)).map fun P => (P, lamQ d.2)
def TabV (I H : Hp) (P : Addr) (q : Str) : Prop := ∃ ps : Array Value, H P = some (.tbl ps) ∧ TriplesOk ps.toList ∧ ∀ (z : Pos) (cv : Value), codeAmong z ps.toList = some cv → ∃ c, cv = .ref c ∧ I c = some (LamX.CodeO c q)
structure TabsV (K : PySem.W.Frag) (I H : Hp) : Prop where
  e : ∀ p ∈ TK K, TabV I H p.1 p.2
structure NoTab (I : Hp) : Prop where
  e : ∀ a ps, I a ≠ some (.tbl ps)
structure NTb (o : HO) : Prop where
  e : ∀ ps, o ≠ .tbl ps
theorem NTb.lst {xs : List V} : NTb (.lst xs) := ⟨fun _ z => nomatch z⟩
theorem NTb.xd {xs : List (Str × V)} : NTb (.xd xs) := ⟨fun _ z => nomatch z⟩
theorem NTb.tup {xs : List V} : NTb (.tup xs) := ⟨fun _ z => nomatch z⟩
theorem NTb.slO {a C dx : Addr} {us : List (Option V)} : NTb (SlX.SlO a C dx us) := ⟨fun _ z => by unfold SlX.SlO at z; cases z⟩
theorem NTb.code {c : Addr} {q : Str} : NTb (LamX.CodeO c q) := ⟨fun ps => LamX.codeO_ne ps⟩
theorem NoTab.upd {I : Hp} {a : Addr} {o : HO} (n : NoTab I) (h : NTb o) : NoTab (upd I a o) := ⟨fun b ps e => by
  by_cases z : b = a
  · subst z; rw [upd_same] at e; exact h.e ps (Option.some.inj e)
  · rw [upd_ne z] at e; exact n.e b ps e⟩
theorem TabV.mono {I H I' H' : Hp} {P : Addr} {q : Str} (t : TabV I H P q) (l : ∀ a o, I a = some o → I' a = some o) (e : ∀ ps, H P = some (.tbl ps) → H' P = some (.tbl ps)) : TabV I' H' P q := by
  obtain ⟨ps, h1, h2, h3⟩ := t
  refine ⟨ps, e ps h1, h2, fun z cv hc => ?_⟩
  obtain ⟨c, e1, e2⟩ := h3 z cv hc
  exact ⟨c, e1, l _ _ e2⟩
theorem TabsV.mono {K : PySem.W.Frag} {I H I' H' : Hp} (t : TabsV K I H) (l : ∀ a o, I a = some o → I' a = some o) (e : ∀ a ps, H a = some (.tbl ps) → H' a = some (.tbl ps)) : TabsV K I' H' :=
  ⟨fun p hp => (t.e p hp).mono l (e p.1)⟩
inductive D where
  | non | bl (b : Bool) | int (i : Int) | str (x : Str)
  | lst (xs : List D) | seq (xs : List D) | tup (xs : List D) | dct (kvs : List (D × D)) | kdc (kvs : List (Str × D))
  | ins (c : Str) (fs : List (Str × D)) | exv (a d : Addr) (c : Str) (fs : List (Str × D)) | cls (c : Str) | raw (v : V)
  | slo (c : Str) (vs : List (Option D))
def kD : Key → D
  | .inl i => .int i
  | .inr x => .str x
def DcK (K : PySem.W.Frag) (a : Addr) (kvs : List (Str × V)) : Prop :=
  ∃ (es : Array DictEntry) (n : Nat), K.lookup a = some ⟨.type "dict", none, .dict es n, #[]⟩ ∧ (∀ w : World, PySem.W.KeysLit w.params es.toList) ∧ (a == sysModules) = false ∧
    ∀ z : Str, ∃ r, PySem.W.nsIn K a z = some r ∧ RelO (kvs.lookup z) r
mutual
inductive Rep (K : PySem.W.Frag) (I : Hp) : V → D → Prop
  | non : Rep K I .non .non
  | bl (b : Bool) : Rep K I (.bl b) (.bl b)
  | int (i : Int) : Rep K I (.int i) (.int i)
  | str (x : Str) : Rep K I (.str x) (.str x)
  | lst {a : Addr} {xs : List V} {ds : List D} (h : I a = some (.lst xs)) (r : Reps K I xs ds) : Rep K I (.ref a) (.lst ds)
  | seq {a : Addr} {xs : List V} {ds : List D} (h : SqL K I a xs) (r : Reps K I xs ds) : Rep K I (.ref a) (.seq ds)
  | tup {a : Addr} {xs : List V} {ds : List D} (h : SqT K I a xs) (r : Reps K I xs ds) : Rep K I (.ref a) (.tup ds)
  | dct {a : Addr} {xs : List (Key × V)} {ds : List (D × D)} (h : I a = some (.dK xs)) (r : RepK K I xs ds) : Rep K I (.ref a) (.dct ds)
  | kdc {a : Addr} {xs : List (Str × V)} {ds : List (Str × D)} (h : DcK K a xs) (r : RepF K I xs ds) : Rep K I (.ref a) (.kdc ds)
  | ins {a dx : Addr} {c : Str} {fs : List (Str × V)} {ds : List (Str × D)} (h : I a = some (.ins (He.ga K c) dx fs)) (r : RepF K I fs ds) : Rep K I (.ref a) (.ins c ds)
  | exv {a d : Addr} {c : Str} {fs : List (Str × V)} {ds : List (Str × D)} (h : I d = some (.xd fs)) (r : RepF K I fs ds) : Rep K I (.ref a) (.exv a d c ds)
  | cls (c : Str) : Rep K I (.ref (He.ga K c)) (.cls c)
  | raw (v : V) : Rep K I v (.raw v)
  | slo {a dx : Addr} {c : Str} {us : List (Option V)} {ds : List (Option D)} (h : I a = some (SlX.SlO a (He.ga K c) dx us)) (hd : I dx = some (.xd [])) (r : RepO K I us ds) : Rep K I (.ref a) (.slo c ds)
inductive Reps (K : PySem.W.Frag) (I : Hp) : List V → List D → Prop
  | nil : Reps K I [] []
  | cons {v : V} {d : D} {vs : List V} {ds : List D} (h : Rep K I v d) (t : Reps K I vs ds) : Reps K I (v :: vs) (d :: ds)
inductive RepK (K : PySem.W.Frag) (I : Hp) : List (Key × V) → List (D × D) → Prop
  | nil : RepK K I [] []
  | cons {k : Key} {v : V} {d : D} {vs : List (Key × V)} {ds : List (D × D)} (h : Rep K I v d) (t : RepK K I vs ds) : RepK K I ((k, v) :: vs) ((kD k, d) :: ds)
inductive RepF (K : PySem.W.Frag) (I : Hp) : List (Str × V) → List (Str × D) → Prop
  | nil : RepF K I [] []
  | cons {f : Str} {v : V} {d : D} {vs : List (Str × V)} {ds : List (Str × D)} (h : Rep K I v d) (t : RepF K I vs ds) : RepF K I ((f, v) :: vs) ((f, d) :: ds)
inductive RepO (K : PySem.W.Frag) (I : Hp) : List (Option V) → List (Option D) → Prop
  | nil : RepO K I [] []
  | non {vs : List (Option V)} {ds : List (Option D)} (t : RepO K I vs ds) : RepO K I (none :: vs) (none :: ds)
  | cons {v : V} {d : D} {vs : List (Option V)} {ds : List (Option D)} (h : Rep K I v d) (t : RepO K I vs ds) : RepO K I (some v :: vs) (some d :: ds)
end
def Le (I I' : Hp) : Prop := ∀ a o, I a = some o → I' a = some o
theorem Le.refl (I : Hp) : Le I I := fun _ _ h => h
theorem Le.trans {I J M : Hp} (a : Le I J) (b : Le J M) : Le I M := fun c o h => b c o (a c o h)
theorem Le.sqL {K : PySem.W.Frag} {I I' : Hp} (l : Le I I') {a : Addr} {xs : List V} (h : SqL K I a xs) : SqL K I' a xs := by
  rcases h with (h | ⟨o, h⟩) | h
  · exact .inl (.inl (l _ _ h))
  · exact .inl (.inr ⟨o, l _ _ h⟩)
  · exact .inr h
theorem Le.sqT {K : PySem.W.Frag} {I I' : Hp} (l : Le I I') {a : Addr} {xs : List V} (h : SqT K I a xs) : SqT K I' a xs := by
  rcases h with (h | ⟨o, h⟩) | h
  · exact .inl (.inl (l _ _ h))
  · exact .inl (.inr ⟨o, l _ _ h⟩)
  · exact .inr h
mutual
theorem Rep.mono {K : PySem.W.Frag} {I I' : Hp} (l : Le I I') : ∀ {v : V} {d : D}, Rep K I v d → Rep K I' v d
  | _, _, .non => .non
  | _, _, .bl b => .bl b
  | _, _, .int i => .int i
  | _, _, .str x => .str x
  | _, _, .lst h r => .lst (l _ _ h) (Reps.mono l r)
  | _, _, .seq h r => .seq (l.sqL h) (Reps.mono l r)
  | _, _, .tup h r => .tup (l.sqT h) (Reps.mono l r)
  | _, _, .dct h r => .dct (l _ _ h) (RepK.mono l r)
  | _, _, .kdc h r => .kdc h (RepF.mono l r)
  | _, _, .ins h r => .ins (l _ _ h) (RepF.mono l r)
  | _, _, .exv h r => .exv (l _ _ h) (RepF.mono l r)
  | _, _, .cls c => .cls c
  | _, _, .raw v => .raw v
  | _, _, .slo h hd r => .slo (l _ _ h) (l _ _ hd) (RepO.mono l r)
theorem Reps.mono {K : PySem.W.Frag} {I I' : Hp} (l : Le I I') : ∀ {v : List V} {d : List D}, Reps K I v d → Reps K I' v d
  | _, _, .nil => .nil
  | _, _, .cons h t => .cons (Rep.mono l h) (Reps.mono l t)
theorem RepK.mono {K : PySem.W.Frag} {I I' : Hp} (l : Le I I') : ∀ {v : List (Key × V)} {d : List (D × D)}, RepK K I v d → RepK K I' v d
  | _, _, .nil => .nil
  | _, _, .cons h t => .cons (Rep.mono l h) (RepK.mono l t)
theorem RepF.mono {K : PySem.W.Frag} {I I' : Hp} (l : Le I I') : ∀ {v : List (Str × V)} {d : List (Str × D)}, RepF K I v d → RepF K I' v d
  | _, _, .nil => .nil
  | _, _, .cons h t => .cons (Rep.mono l h) (RepF.mono l t)
theorem RepO.mono {K : PySem.W.Frag} {I I' : Hp} (l : Le I I') : ∀ {v : List (Option V)} {d : List (Option D)}, RepO K I v d → RepO K I' v d
  | _, _, .nil => .nil
  | _, _, .non t => .non (RepO.mono l t)
  | _, _, .cons h t => .cons (Rep.mono l h) (RepO.mono l t)
end
theorem Reps.length {K : PySem.W.Frag} {I : Hp} : ∀ {v : List V} {d : List D}, Reps K I v d → v.length = d.length
  | _, _, .nil => rfl
  | _, _, .cons _ t => congrArg Nat.succ t.length
theorem Reps.get {K : PySem.W.Frag} {I : Hp} : ∀ {vs : List V} {ds : List D} {i : Nat} {d : D}, Reps K I vs ds → ds[i]? = some d → ∃ v, vs[i]? = some v ∧ Rep K I v d
  | _, _, 0, d, .cons h _, e => ⟨_, rfl, by simp at e; exact e ▸ h⟩
  | _, _, i + 1, d, .cons _ t, e => by
    obtain ⟨v, h1, h2⟩ := t.get (i := i) (d := d) (by simpa using e)
    exact ⟨v, by simpa using h1, h2⟩
theorem Reps.append {K : PySem.W.Frag} {I : Hp} : ∀ {vs ws : List V} {ds es : List D}, Reps K I vs ds → Reps K I ws es → Reps K I (vs ++ ws) (ds ++ es)
  | _, _, _, _, .nil, s => s
  | _, _, _, _, .cons h t, s => .cons h (t.append s)
theorem Reps.set {K : PySem.W.Frag} {I : Hp} {v : V} {d : D} (h : Rep K I v d) : ∀ {vs : List V} {ds : List D} (i : Nat), Reps K I vs ds → Reps K I (vs.set i v) (ds.set i d)
  | _, _, _, .nil => .nil
  | _, _, 0, .cons _ t => .cons h t
  | _, _, i + 1, .cons q t => .cons q (t.set h i)
theorem Reps.take {K : PySem.W.Frag} {I : Hp} : ∀ {vs : List V} {ds : List D} (n : Nat), Reps K I vs ds → Reps K I (vs.take n) (ds.take n)
  | _, _, 0, _ => .nil
  | _, _, _ + 1, .nil => .nil
  | _, _, n + 1, .cons h t => .cons h (t.take n)
theorem Reps.drop {K : PySem.W.Frag} {I : Hp} : ∀ {vs : List V} {ds : List D} (n : Nat), Reps K I vs ds → Reps K I (vs.drop n) (ds.drop n)
  | _, _, 0, r => r
  | _, _, _ + 1, .nil => .nil
  | _, _, n + 1, .cons _ t => t.drop n
theorem Reps.one {K : PySem.W.Frag} {I : Hp} {v : V} {d : D} (h : Rep K I v d) : Reps K I [v] [d] := .cons h .nil
theorem RepF.get {K : PySem.W.Frag} {I : Hp} {f : Str} : ∀ {fs : List (Str × V)} {ds : List (Str × D)} {d : D}, RepF K I fs ds → ds.lookup f = some d → ∃ v, fs.lookup f = some v ∧ Rep K I v d
  | _, _, d, .nil, e => by simp at e
  | (k, v) :: vs, (_, d') :: ds, d, .cons h t, e => by
    rw [List.lookup_cons] at e
    rw [List.lookup_cons]
    split at e
    · cases e; exact ⟨v, rfl, h⟩
    · exact t.get e
theorem RepF.none {K : PySem.W.Frag} {I : Hp} {f : Str} : ∀ {fs : List (Str × V)} {ds : List (Str × D)}, RepF K I fs ds → ds.lookup f = Option.none → fs.lookup f = Option.none
  | _, _, .nil, e => rfl
  | (k, v) :: vs, (_, d') :: ds, .cons h t, e => by
    rw [List.lookup_cons] at e
    rw [List.lookup_cons]
    split at e
    · cases e
    · exact t.none e
theorem RepF.length {K : PySem.W.Frag} {I : Hp} : ∀ {v : List (Str × V)} {d : List (Str × D)}, RepF K I v d → v.length = d.length
  | _, _, .nil => rfl
  | _, _, .cons _ t => congrArg Nat.succ t.length
def putD (f : Str) (d : D) : List (Str × D) → List (Str × D)
  | [] => [(f, d)]
  | (g, x) :: r => if g = f then (g, d) :: r else (g, x) :: putD f d r
theorem RepF.put {K : PySem.W.Frag} {I : Hp} {f : Str} {v : V} {d : D} (h : Rep K I v d) : ∀ {fs : List (Str × V)} {ds : List (Str × D)}, RepF K I fs ds → RepF K I (putF f v fs) (putD f d ds)
  | _, _, .nil => .cons h .nil
  | (g, x) :: r, (_, y) :: s, .cons q t => by
    show RepF K I (if g = f then (g, v) :: r else (g, x) :: putF f v r) (if g = f then (g, d) :: s else (g, y) :: putD f d s)
    split
    · exact .cons h t
    · exact .cons q (t.put h)
inductive Sl where
  | un | val (t : Bool) (d : D) | own (t : Bool) (d : D)
def Sl.tag : Sl → Bool
  | .un => false
  | .val t _ => t
  | .own t _ => t
abbrev Sg := List Sl
def OwnAt (K : PySem.W.Frag) (I H : Hp) (a : Addr) : D → Prop
  | .lst ds => ∃ xs, H a = some (.lst xs) ∧ Reps K I xs ds
  | .dct ds => ∃ xs, H a = some (.dK xs) ∧ RepK K I xs ds
  | .ins c ds => ∃ dx fs, H a = some (.ins (He.ga K c) dx fs) ∧ RepF K I fs ds
  | .slo c ds => ∃ dx us, H a = some (SlX.SlO a (He.ga K c) dx us) ∧ I dx = some (.xd []) ∧ RepO K I us ds
  | _ => False
def SlR (K : PySem.W.Frag) (I H : Hp) (o : Option V) : Sl → Prop
  | .un => True
  | .val _ d => ∃ v, o = some v ∧ Rep K I v d
  | .own _ d => ∃ a, o = some (.ref a) ∧ OwnAt K I H a d ∧ I a = none
structure Cfg where
  I : Hp
  σ : L2.St
  H : Hp
  g : Sg
def Cfg.Own (c : Cfg) (a : Addr) : Prop := ∃ (i : Nat) (t : Bool) (d : D), c.g[i]? = some (.own t d) ∧ c.σ[i]? = some (some (.ref a))
structure Ok (K : PySem.W.Frag) (c : Cfg) : Prop where
  sub : Le c.I c.H
  sl : ∀ (i : Nat) (s : Sl), c.g[i]? = some s → ∃ o, c.σ[i]? = some o ∧ SlR K c.I c.H o s
  dist : ∀ (i j : Nat) (t t' : Bool) (d d' : D), c.g[i]? = some (.own t d) → c.g[j]? = some (.own t' d') → c.σ[i]? = c.σ[j]? → i = j
  nt : NoTab c.I
  tab : TabsV K c.I c.H
def Cfg.OwnF (c : Cfg) (a : Addr) : Prop := ∃ (i : Nat) (d : D), c.g[i]? = some (.own false d) ∧ c.σ[i]? = some (some (.ref a))
structure Go (c c' : Cfg) : Prop where
  sub : Le c.I c'.I
  keep : ∀ a o, c.H a = some o → ¬ c.Own a → NTb o → c'.H a = some o
  dom : ∀ a, c'.H a = none → c.H a = none
  grow : ∀ a, c.I a = none → c'.I a ≠ none → c.Own a ∨ c.H a = none
  own : ∀ a, c'.Own a → c.Own a ∨ c.H a = none
  ownf : ∀ a, c'.OwnF a → c.OwnF a ∨ c.H a = none
  tag : ∀ (i : Nat) (s' : Sl), c'.g[i]? = some s' → s'.tag = true → (∃ s, c.g[i]? = some s ∧ s.tag = true) ∧ c'.σ[i]? = c.σ[i]?
theorem Go.refl (c : Cfg) : Go c c := ⟨Le.refl _, fun _ _ h _ _ => h, fun _ h => h, fun _ h h' => (h' h).elim, fun _ h => .inl h, fun _ h => .inl h, fun _ s h t => ⟨⟨s, h, t⟩, rfl⟩⟩
theorem Go.trans {c c1 c2 : Cfg} (x : Go c c1) (y : Go c1 c2) : Go c c2 where
  sub := x.sub.trans y.sub
  keep := fun a o h n nt => y.keep a o (x.keep a o h n nt) (fun q => (x.own a q).elim n fun z => by rw [h] at z; cases z) nt
  dom := fun a h => x.dom a (y.dom a h)
  grow := fun a h h' => by
    by_cases q : c1.I a = none
    · rcases y.grow a q h' with z | z
      · exact x.own a z
      · exact .inr (x.dom a z)
    · exact x.grow a h q
  own := fun a h => by
    rcases y.own a h with z | z
    · exact x.own a z
    · exact .inr (x.dom a z)
  ownf := fun a h => by
    rcases y.ownf a h with z | z
    · exact x.ownf a z
    · exact .inr (x.dom a z)
  tag := fun i s' h t => by
    obtain ⟨⟨s, h1, h2⟩, e⟩ := y.tag i s' h t
    obtain ⟨r, e'⟩ := x.tag i s h1 h2
    exact ⟨r, e.trans e'⟩
inductive RV where
  | val (d : D) | at_ (i : Nat) | fr (d : D)
inductive Res (α : Type) where
  | ok (r : α) (g : Sg) | exn (c : Str) (fs : List (Str × D)) (g : Sg) | stuck
def RvR (K : PySem.W.Frag) (c0 c : Cfg) (v : V) : RV → Prop
  | .val d => Rep K c.I v d
  | .at_ i => c.σ[i]? = some (some v)
  | .fr d => ∃ a, v = .ref a ∧ OwnAt K c.I c.H a d ∧ c.I a = none ∧ ¬ c.Own a ∧ c0.H a = none
def XdAt (K : PySem.W.Frag) (c0 c : Cfg) (e : Addr) (fs : List (Str × D)) : Prop := ∃ xs, c.H e = some (.xd xs) ∧ RepF K c.I xs fs ∧ ¬ c.Own e ∧ c.I e = none ∧ c0.H e = none
theorem XdAt.go {K : PySem.W.Frag} {c0 c1 c2 : Cfg} {e : Addr} {fs : List (Str × D)} (x : Go c0 c1) (h : XdAt K c1 c2 e fs) : XdAt K c0 c2 e fs := by
  obtain ⟨xs, h1, h2, h3, h4, h5⟩ := h
  exact ⟨xs, h1, h2, h3, h4, x.dom e h5⟩
abbrev Rel (γ α : Type) := Cfg → Cfg → γ → α → Prop
class GoR {γ α : Type} (R : Rel γ α) : Prop where
  go : ∀ {c0 c1 c2 : Cfg} {v : γ} {r : α}, Go c0 c1 → R c1 c2 v r → R c0 c2 v r
instance (K : PySem.W.Frag) : GoR (RvR K) := ⟨fun {c0 c1 c2 v r} x h => by
  cases r with
  | val d => exact h
  | at_ i => exact h
  | fr d =>
    obtain ⟨a, e, o, n, w, z⟩ := h
    exact ⟨a, e, o, n, w, x.dom a z⟩⟩
def RbR : Rel Bool Bool := fun _ _ v r => v = r
instance : GoR RbR := ⟨fun _ h => h⟩
def Rem {γ α : Type} (K : PySem.W.Frag) (W : WX) (R : Rel γ α) (c0 : Cfg) (r : Res α) (Q : γ → Hp → Prop) : Prop := match r with
  | .ok r g => ∀ I H v, Ok K ⟨I, c0.σ, H, g⟩ → Go c0 ⟨I, c0.σ, H, g⟩ → R c0 ⟨I, c0.σ, H, g⟩ v r → Q v H
  | .exn x fs g => ∀ I H e, Ok K ⟨I, c0.σ, H, g⟩ → Go c0 ⟨I, c0.σ, H, g⟩ → XdAt K c0 ⟨I, c0.σ, H, g⟩ e fs → W (.ref (He.ga K x)) (some e) c0.σ H
  | .stuck => False
section
variable {γ α δ β : Type} {K : PySem.W.Frag} {W : WX} {R : Rel γ α} {S : Rel δ β}
theorem Rem.go [GoR R] {c0 c1 : Cfg} {r : Res α} {Q : γ → Hp → Prop} (x : Go c0 c1) (e : c1.σ = c0.σ) (h : Rem K W R c0 r Q) : Rem K W R c1 r Q := by
  cases r with
  | ok r g => exact fun I H v o y rv => by rw [e] at o y rv; exact h I H v o (x.trans y) (GoR.go x rv)
  | exn c fs g => exact fun I H v o y rv => by rw [e] at o y rv ⊢; exact h I H v o (x.trans y) (rv.go x)
  | stuck => exact h
theorem Rem.mono {c0 : Cfg} {r : Res α} {Q Q' : γ → Hp → Prop} (h : Rem K W R c0 r Q) (m : ∀ v H, Q v H → Q' v H) : Rem K W R c0 r Q' := by
  cases r with
  | ok r g => exact fun I H v o y rv => m v H (h I H v o y rv)
  | exn c fs g => exact h
  | stuck => exact h
def Res.bind {α β : Type} (r : Res α) (k : α → Sg → Res β) : Res β := match r with
  | .ok r g => k r g
  | .exn c fs g => .exn c fs g
  | .stuck => .stuck
theorem Rem.bind [GoR S] {c0 : Cfg} {r : Res α} {k : α → Sg → Res β} {Q : δ → Hp → Prop} (h : Rem K W S c0 (r.bind k) Q) :
    Rem K W R c0 r fun v H1 => ∃ I1 g1 x, Ok K ⟨I1, c0.σ, H1, g1⟩ ∧ Go c0 ⟨I1, c0.σ, H1, g1⟩ ∧ R c0 ⟨I1, c0.σ, H1, g1⟩ v x ∧ Rem K W S ⟨I1, c0.σ, H1, g1⟩ (k x g1) Q := by
  cases r with
  | ok x g => exact fun I H v o y rv => ⟨I, g, x, o, y, rv, Rem.go (c0 := c0) (c1 := ⟨I, c0.σ, H, g⟩) y rfl h⟩
  | exn c fs g => exact h
  | stuck => exact h
end
abbrev Ft := Sg → Res RV
abbrev Fb := Sg → Res Bool
def rdE (K : PySem.W.Frag) (W : WX) (f : Ft) : TE := fun σ H Q => ∃ I g, Ok K ⟨I, σ, H, g⟩ ∧ Rem K W (RvR K) ⟨I, σ, H, g⟩ (f g) Q
structure VE (X : Cx) (W : WX) (e : Expr) (f : Ft) : Prop where
  pe : PE X e (rdE X.K W f)
def rdT (K : PySem.W.Frag) (W : WX) (f : Fb) : TT := fun σ H Q => ∃ I g, Ok K ⟨I, σ, H, g⟩ ∧ Rem K W RbR ⟨I, σ, H, g⟩ (f g) Q
structure VT (X : Cx) (W : WX) (e : Expr) (f : Fb) : Prop where
  pt : PT X e (rdT X.K W f)
theorem no_some {α : Type} {x : Option α} {u : α} (a : x = none) (b : x = some u) : False := by rw [a] at b; cases b
theorem OwnAt.some {K : PySem.W.Frag} {I H : Hp} {a : Addr} {d : D} (h : OwnAt K I H a d) : ∃ o, H a = some o := by
  cases d <;> first | exact (False.elim h) | skip
  · obtain ⟨xs, e, _⟩ := h; exact ⟨_, e⟩
  · obtain ⟨xs, e, _⟩ := h; exact ⟨_, e⟩
  · obtain ⟨dx, fs, e, _⟩ := h; exact ⟨_, e⟩
  · obtain ⟨dx, fs, e, _⟩ := h; exact ⟨_, e⟩
theorem OwnAt.ntb {K : PySem.W.Frag} {I H : Hp} {a : Addr} {d : D} {o : HO} (h : OwnAt K I H a d) (e : H a = Option.some o) : NTb o := by
  cases d <;> first | exact (False.elim h) | skip
  · obtain ⟨xs, q, _⟩ := h; rw [e] at q; cases q; exact ⟨fun _ z => nomatch z⟩
  · obtain ⟨xs, q, _⟩ := h; rw [e] at q; cases q; exact ⟨fun _ z => nomatch z⟩
  · obtain ⟨dx, fs, q, _⟩ := h; rw [e] at q; cases q; exact ⟨fun _ z => nomatch z⟩
  · obtain ⟨dx, fs, q, _⟩ := h; rw [e] at q; cases q; exact NTb.slO
theorem OwnAt.mono {K : PySem.W.Frag} {I I' H H' : Hp} {a : Addr} {d : D} (l : Le I I') (e : H' a = H a) (h : OwnAt K I H a d) : OwnAt K I' H' a d := by
  cases d <;> first | exact (False.elim h) | skip
  · obtain ⟨xs, q, r⟩ := h; exact ⟨xs, e.trans q, r.mono l⟩
  · obtain ⟨xs, q, r⟩ := h; exact ⟨xs, e.trans q, r.mono l⟩
  · obtain ⟨dx, fs, q, r⟩ := h; exact ⟨dx, fs, e.trans q, r.mono l⟩
  · obtain ⟨dx, fs, q, hd, r⟩ := h; exact ⟨dx, fs, e.trans q, l _ _ hd, r.mono l⟩
theorem OwnAt.rep {K : PySem.W.Frag} {I I' H : Hp} {a : Addr} {d : D} (l : Le I I') (e : I' a = H a) (h : OwnAt K I H a d) : Rep K I' (.ref a) d := by
  cases d <;> first | exact (False.elim h) | skip
  · obtain ⟨xs, q, r⟩ := h; exact .lst (e.trans q) (r.mono l)
  · obtain ⟨xs, q, r⟩ := h; exact .dct (e.trans q) (r.mono l)
  · obtain ⟨dx, fs, q, r⟩ := h; exact .ins (e.trans q) (r.mono l)
  · obtain ⟨dx, fs, q, hd, r⟩ := h; exact .slo (e.trans q) (l _ _ hd) (r.mono l)
theorem Le.upd {I : Hp} {a : Addr} {o : HO} (h : I a = none) : Le I (upd I a o) := fun b u e => by
  rw [upd_ne (ne_of_none e h)]; exact e
theorem SlR.mono {K : PySem.W.Frag} {I I' H H' : Hp} {o : Option V} {s : Sl} (l : Le I I') (hk : ∀ a t d, s = .own t d → o = some (.ref a) → H' a = H a ∧ I' a = none) (h : SlR K I H o s) : SlR K I' H' o s := by
  cases s with
  | un => trivial
  | val t d => obtain ⟨v, e, r⟩ := h; exact ⟨v, e, r.mono l⟩
  | own t d =>
    obtain ⟨a, e, r, n⟩ := h
    obtain ⟨h1, h2⟩ := hk a t d rfl e
    exact ⟨a, e, r.mono l h1, h2⟩
theorem Ok.grow {K : PySem.W.Frag} {I I' H H' : Hp} {σ : L2.St} {g : Sg} (o : Ok K ⟨I, σ, H, g⟩) (l : Le I I') (s : Le I' H') (hk : ∀ a, Cfg.Own ⟨I, σ, H, g⟩ a → H' a = H a ∧ I' a = none) (nt : NoTab I') (tb : ∀ a ps, H a = some (.tbl ps) → H' a = some (.tbl ps)) : Ok K ⟨I', σ, H', g⟩ where
  nt := nt
  tab := o.tab.mono l tb
  sub := s
  sl := fun i s h => by
    obtain ⟨v, e, r⟩ := o.sl i s h
    exact ⟨v, e, r.mono l fun a t d es ev => hk a ⟨i, t, d, by rw [← es]; exact h, by rw [← ev]; exact e⟩⟩
  dist := o.dist
theorem Ok.frz {K : PySem.W.Frag} {I H : Hp} {σ : L2.St} {g : Sg} {a : Addr} {u : HO} (o : Ok K ⟨I, σ, H, g⟩) (h : H a = some u) (n : I a = none) (w : ¬ Cfg.Own ⟨I, σ, H, g⟩ a) (nt : NTb u) : Ok K ⟨upd I a u, σ, H, g⟩ := by
  refine o.grow (Le.upd n) (fun b v e => ?_) (fun b hb => ⟨rfl, ?_⟩) (o.nt.upd nt) (fun _ _ e => e)
  · by_cases z : b = a
    · subst z; rw [upd_same] at e; rw [← e]; exact h
    · rw [upd_ne z] at e; exact o.sub b v e
  · rw [upd_ne (show b ≠ a from fun z => by subst z; exact w hb)]
    obtain ⟨i, t, d, h1, h2⟩ := hb
    obtain ⟨v, e1, b', e2, _, r⟩ := o.sl i _ h1
    have h2 : σ[i]? = some (some (V.ref b)) := h2
    have e1 : σ[i]? = some v := e1
    rw [h2] at e1
    cases e1
    cases e2
    exact r
theorem Go.frz {I H : Hp} {σ : L2.St} {g : Sg} {a : Addr} {u : HO} {c0 : Cfg} (x : Go c0 ⟨I, σ, H, g⟩) (n : I a = none) (z : c0.H a = none) : Go c0 ⟨upd I a u, σ, H, g⟩ where
  sub := x.sub.trans (Le.upd n)
  keep := x.keep
  dom := x.dom
  grow := fun b h h' => by
    by_cases e : b = a
    · subst e; exact .inr z
    · exact x.grow b h fun q => h' (show upd I a u b = none by rw [upd_ne e]; exact q)
  own := x.own
  ownf := x.ownf
  tag := x.tag
def settle (r : Res RV) : Res RV := match r with
  | .ok (.fr d) g => .ok (.val d) g
  | r => r
theorem Rem.settle {K : PySem.W.Frag} {W : WX} {c0 : Cfg} {r : Res RV} {Q : VK} (h : Rem K W (RvR K) c0 (settle r) Q) : Rem K W (RvR K) c0 r Q := by
  cases r with
  | ok x g =>
    cases x with
    | fr d =>
      rintro I H v o y ⟨a, rfl, ha, n, w, z⟩
      obtain ⟨u, hu⟩ := ha.some
      exact h (upd I a u) H (.ref a) (o.frz hu n w (ha.ntb hu)) (y.frz n z) (ha.rep (Le.upd n) (upd_same.trans hu.symm))
    | val d => exact h
    | at_ i => exact h
  | exn c fs g => exact h
  | stuck => exact h
theorem VE.settle {X : Cx} {W : WX} {e : Expr} {f : Ft} (h : VE X W e f) : VE X W e fun g => Vl.settle (f g) :=
  ⟨pe_imp h.pe fun σ H Q ⟨I, g, o, r⟩ => ⟨I, g, o, Rem.settle r⟩⟩
def deref (g : Sg) : RV → Option D
  | .val d => some d
  | .fr d => some d
  | .at_ i => match g[i]? with
    | some (.own _ d) => some d
    | some (.val _ d) => some d
    | _ => none
def RdD (K : PySem.W.Frag) (c : Cfg) (v : V) (d : D) : Prop := Rep K c.I v d ∨ ∃ a, v = .ref a ∧ OwnAt K c.I c.H a d
theorem deref_rd {K : PySem.W.Frag} {c0 c : Cfg} {v : V} {r : RV} {d : D} (o : Ok K c) (h : RvR K c0 c v r) (e : deref c.g r = some d) : RdD K c v d := by
  cases r with
  | val x => cases e; exact .inl h
  | fr x => cases e; obtain ⟨a, e, q, _⟩ := h; exact .inr ⟨a, e, q⟩
  | at_ i =>
    simp only [deref] at e
    have h : c.σ[i]? = some (some v) := h
    split at e
    · cases e
      rename_i t d' q
      obtain ⟨u, e1, a, e2, r, n⟩ := o.sl i _ q
      rw [h] at e1
      cases e1
      cases e2
      exact .inr ⟨a, rfl, r⟩
    · cases e
      rename_i t d' q
      obtain ⟨u, e1, w, e2, r⟩ := o.sl i _ q
      rw [h] at e1
      cases e1
      cases e2
      exact .inl r
    · cases e
section
variable {K : PySem.W.Frag} {c : Cfg} {v : V}
theorem RdD.int {i : Int} (h : RdD K c v (.int i)) : v = .int i := by
  rcases h with h | ⟨a, e, h⟩
  · cases h; rfl
  · exact h.elim
theorem RdD.str {i : Str} (h : RdD K c v (.str i)) : v = .str i := by
  rcases h with h | ⟨a, e, h⟩
  · cases h; rfl
  · exact h.elim
theorem RdD.bl {i : Bool} (h : RdD K c v (.bl i)) : v = .bl i := by
  rcases h with h | ⟨a, e, h⟩
  · cases h; rfl
  · exact h.elim
theorem RdD.non (h : RdD K c v .non) : v = .non := by
  rcases h with h | ⟨a, e, h⟩
  · cases h; rfl
  · exact h.elim
theorem RdD.lst {ds : List D} (o : Ok K c) (h : RdD K c v (.lst ds)) : ∃ a xs, v = .ref a ∧ c.H a = some (.lst xs) ∧ Reps K c.I xs ds := by
  rcases h with h | ⟨a, e, h⟩
  · cases h with
    | lst q r => exact ⟨_, _, rfl, o.sub _ _ q, r⟩
  · obtain ⟨xs, q, r⟩ := h
    exact ⟨a, xs, e, q, r⟩
theorem RdD.seq {ds : List D} (o : Ok K c) (h : RdD K c v (.seq ds)) : ∃ a xs, v = .ref a ∧ SqL K c.H a xs ∧ Reps K c.I xs ds := by
  rcases h with h | ⟨a, e, h⟩
  · cases h with
    | seq q r => exact ⟨_, _, rfl, o.sub.sqL q, r⟩
  · exact h.elim
theorem RdD.tup {ds : List D} (o : Ok K c) (h : RdD K c v (.tup ds)) : ∃ a xs, v = .ref a ∧ SqT K c.H a xs ∧ Reps K c.I xs ds := by
  rcases h with h | ⟨a, e, h⟩
  · cases h with
    | tup q r => exact ⟨_, _, rfl, o.sub.sqT q, r⟩
  · exact h.elim
theorem RdD.ins {x : Str} {ds : List (Str × D)} (o : Ok K c) (h : RdD K c v (.ins x ds)) : ∃ a dx fs, v = .ref a ∧ c.H a = some (.ins (He.ga K x) dx fs) ∧ RepF K c.I fs ds := by
  rcases h with h | ⟨a, e, h⟩
  · cases h with
    | ins q r => exact ⟨_, _, _, rfl, o.sub _ _ q, r⟩
  · obtain ⟨dx, fs, q, r⟩ := h
    exact ⟨a, dx, fs, e, q, r⟩
theorem RdD.slo {x : Str} {ds : List (Option D)} (o : Ok K c) (h : RdD K c v (.slo x ds)) : ∃ a dx us, v = .ref a ∧ c.H a = some (SlX.SlO a (He.ga K x) dx us) ∧ c.H dx = some (.xd []) ∧ RepO K c.I us ds := by
  rcases h with h | ⟨a, e, h⟩
  · cases h with
    | slo q hd r => exact ⟨_, _, _, rfl, o.sub _ _ q, o.sub _ _ hd, r⟩
  · obtain ⟨dx, us, q, hd, r⟩ := h
    exact ⟨a, dx, us, e, q, o.sub _ _ hd, r⟩
theorem RdD.dct {ds : List (D × D)} (o : Ok K c) (h : RdD K c v (.dct ds)) : ∃ a xs, v = .ref a ∧ c.H a = some (.dK xs) ∧ RepK K c.I xs ds := by
  rcases h with h | ⟨a, e, h⟩
  · cases h with
    | dct q r => exact ⟨_, _, rfl, o.sub _ _ q, r⟩
  · obtain ⟨fs, q, r⟩ := h
    exact ⟨a, fs, e, q, r⟩
theorem RdD.kdc {ds : List (Str × D)} (h : RdD K c v (.kdc ds)) : ∃ a xs, v = .ref a ∧ DcK K a xs ∧ RepF K c.I xs ds := by
  rcases h with h | ⟨a, e, h⟩
  · cases h with
    | kdc q r => exact ⟨_, _, rfl, q, r⟩
  · exact h.elim
end
def Gives (K : PySem.W.Frag) (c : Cfg) (p : Option RV) (Q : VK) : Prop := match p with
  | some r => ∀ I H v, Ok K ⟨I, c.σ, H, c.g⟩ → Go c ⟨I, c.σ, H, c.g⟩ → RvR K c ⟨I, c.σ, H, c.g⟩ v r → Q v H
  | none => False
theorem Gives.now {K : PySem.W.Frag} {c : Cfg} {r : RV} {Q : VK} (h : Gives K c (some r) Q) (o : Ok K c) {v : V} (rv : RvR K c c v r) : Q v c.H := h c.I c.H v o (Go.refl c) rv
theorem Ok.new {K : PySem.W.Frag} {I H H' : Hp} {σ : L2.St} {g : Sg} (o : Ok K ⟨I, σ, H, g⟩) (x : Xb [] H H') : Ok K ⟨I, σ, H', g⟩ := by
  refine o.grow (Le.refl I) (fun b v e => x.get0 (o.sub b v e)) (fun a ha => ?_) o.nt (fun a ps e => x.get0 e)
  obtain ⟨i, t, d, h1, h2⟩ := ha
  obtain ⟨v, e1, b', e2, r, n⟩ := o.sl i _ h1
  have h2 : σ[i]? = some (some (V.ref a)) := h2
  have e1 : σ[i]? = some v := e1
  rw [h2] at e1
  cases e1
  cases e2
  obtain ⟨u, hu⟩ := r.some
  exact ⟨(x.get0 hu).trans hu.symm, n⟩
theorem Go.new {I H H' : Hp} {σ : L2.St} {g : Sg} (x : Xb [] H H') : Go ⟨I, σ, H, g⟩ ⟨I, σ, H', g⟩ := by
  refine ⟨Le.refl I, fun a o h _ _ => x.get0 h, fun a h => ?_, fun _ h h' => (h' h).elim, fun _ h => .inl h, fun _ h => .inl h, fun _ s h t => ⟨⟨s, h, t⟩, rfl⟩⟩
  exact x.free (fun q => nomatch q) h
theorem Ok.own_some {K : PySem.W.Frag} {c : Cfg} {a : Addr} (o : Ok K c) (h : c.Own a) : ∃ u, c.H a = some u := by
  obtain ⟨i, t, d, h1, h2⟩ := h
  obtain ⟨v, e1, b', e2, r, n⟩ := o.sl i _ h1
  rw [h2] at e1
  cases e1
  cases e2
  exact r.some
theorem Ok.own_free {K : PySem.W.Frag} {c : Cfg} {a : Addr} (o : Ok K c) (h : c.Own a) : c.I a = none := by
  obtain ⟨i, t, d, h1, h2⟩ := h
  obtain ⟨v, e1, b', e2, r, n⟩ := o.sl i _ h1
  rw [h2] at e1
  cases e1
  cases e2
  exact n
theorem Gives.fresh {K : PySem.W.Frag} {c : Cfg} {d : D} {Q : VK} (h : Gives K c (some (.fr d)) Q) (o : Ok K c) {p : Addr} {H' : Hp} (fr : Fr c.H p) (x : Xb [] c.H H') (w : OwnAt K c.I H' p d) : Q (.ref p) H' := by
  obtain ⟨I, σ, H, g⟩ := c
  have n : I p = none := by
    cases e : I p with
    | none => rfl
    | some u => exact (no_some fr.e (o.sub p u e)).elim
  refine h I H' (.ref p) (o.new x) (Go.new x) ⟨p, rfl, w, n, fun q => ?_, fr.e⟩
  obtain ⟨u, hu⟩ := o.own_some (a := p) q
  exact no_some fr.e hu
theorem Gives.froz {K : PySem.W.Frag} {c : Cfg} {d : D} {Q : VK} (h : Gives K c (some (.val d)) Q) (o : Ok K c) {p : Addr} {H' : Hp} {u : HO} (fr : Fr c.H p) (x : Xb [] c.H H') (hp : H' p = some u) (nt : NTb u)
    (w : ∀ I', Le c.I I' → I' p = some u → Rep K I' (.ref p) d) : Q (.ref p) H' := by
  obtain ⟨I, σ, H, g⟩ := c
  have n : I p = none := by
    cases e : I p with
    | none => rfl
    | some u => exact (no_some fr.e (o.sub p u e)).elim
  have nw : ¬ Cfg.Own ⟨I, σ, H', g⟩ p := fun q => by
    obtain ⟨v, hv⟩ := o.own_some (a := p) q
    exact no_some fr.e hv
  exact h (upd I p u) H' (.ref p) ((o.new x).frz hp n nw nt) ((Go.new x).frz n fr.e) (w _ (Le.upd n) upd_same)
def lift1 (p : D → Option RV) (x : RV) (g : Sg) : Res RV := match deref g x with
  | some a => (match p a with | some r => .ok r g | none => .stuck)
  | none => .stuck
def lift2 (p : D → D → Option RV) (x y : RV) (g : Sg) : Res RV := match deref g x, deref g y with
  | some a, some b => (match p a b with | some r => .ok r g | none => .stuck)
  | _, _ => .stuck
theorem gives_of {K : PySem.W.Frag} {W : WX} {c : Cfg} {p : Option RV} {Q : VK} (h : Rem K W (RvR K) c (match p with | some r => .ok r c.g | none => .stuck) Q) : Gives K c p Q := by
  cases p with
  | none => exact h
  | some r => exact h
theorem lift2_gives {K : PySem.W.Frag} {W : WX} {c c1 c3 : Cfg} {p : D → D → Option RV} {x y : RV} {v u : V} {Q : VK} (o : Ok K c) (rx : RvR K c1 c v x) (ry : RvR K c3 c u y) (h : Rem K W (RvR K) c (lift2 p x y c.g) Q) :
    ∃ a b, RdD K c v a ∧ RdD K c u b ∧ Gives K c (p a b) Q := by
  unfold lift2 at h
  split at h
  · rename_i a b ea eb
    exact ⟨a, b, deref_rd o rx ea, deref_rd o ry eb, gives_of h⟩
  · exact h.elim
theorem lift1_gives {K : PySem.W.Frag} {W : WX} {c c1 : Cfg} {p : D → Option RV} {x : RV} {v : V} {Q : VK} (o : Ok K c) (rx : RvR K c1 c v x) (h : Rem K W (RvR K) c (lift1 p x c.g) Q) :
    ∃ a, RdD K c v a ∧ Gives K c (p a) Q := by
  unfold lift1 at h
  split at h
  · rename_i a ea
    exact ⟨a, deref_rd o rx ea, gives_of h⟩
  · exact h.elim
theorem RvR.on {K : PySem.W.Frag} {c0 c1 c2 : Cfg} {v : V} {r : RV} (o2 : Ok K c2) (e : c2.σ = c1.σ) (x : Go c1 c2) (h : RvR K c0 c1 v r) : RvR K c0 c2 v r := by
  cases r with
  | val d => exact Rep.mono x.sub h
  | at_ i => exact (show c2.σ[i]? = some (some v) by rw [e]; exact h)
  | fr d =>
    obtain ⟨a, ev, q, n, w, z⟩ := h
    obtain ⟨u, hu⟩ := q.some
    refine ⟨a, ev, q.mono x.sub ((x.keep a u hu w (q.ntb hu)).trans hu.symm), ?_, fun k => ?_, z⟩
    · cases q2 : c2.I a with
      | none => rfl
      | some o =>
        rcases x.grow a n (by rw [q2]; exact fun z => nomatch z) with k | k
        · exact (w k).elim
        · rw [k] at hu; cases hu
    · rcases x.own a k with k | k
      · exact w k
      · rw [k] at hu; cases hu
def op2 (p : D → D → Option RV) (fa fb : Ft) : Ft := fun g => (settle (fa g)).bind fun x g1 => (settle (fb g1)).bind fun y g2 => lift2 p x y g2
def op1 (p : D → Option RV) (fa : Ft) : Ft := fun g => (settle (fa g)).bind fun x g1 => lift1 p x g1
theorem rd2 {K : PySem.W.Frag} {W : WX} {fa fb : Ft} {p : D → D → Option RV} {σ : L2.St} {H : Hp} {Q : VK} {R : V → V → Hp → Prop} (h : rdE K W (op2 p fa fb) σ H Q)
    (hr : ∀ c v u a b, c.σ = σ → Ok K c → RdD K c v a → RdD K c u b → Gives K c (p a b) Q → R v u c.H) :
    rdE K W fa σ H fun v H1 => rdE K W fb σ H1 fun u H2 => R v u H2 := by
  obtain ⟨I, g, o, r⟩ := h
  refine ⟨I, g, o, Rem.settle ((Rem.bind (R := RvR K) r).mono ?_)⟩
  rintro v H1 ⟨I1, g1, x, o1, y1, rx, r1⟩
  refine ⟨I1, g1, o1, Rem.settle ((Rem.bind (R := RvR K) r1).mono ?_)⟩
  rintro u H2 ⟨I2, g2, y, o2, y2, ry, r2⟩
  obtain ⟨a, b, ha, hb, q⟩ := lift2_gives o2 (RvR.on (c1 := ⟨I1, σ, H1, g1⟩) o2 rfl y2 rx) ry r2
  exact hr ⟨I2, σ, H2, g2⟩ v u a b rfl o2 ha hb q
end Vl
set_option Elab.async false
set_option linter.all false
set_option maxRecDepth 100000
set_option maxHeartbeats 2000000
namespace Vl
open PySem PySem.Spec PyProof.Rows L2 My
section
variable {X : Cx} {W : WX} {e a b c : Expr} {fa fb fc f : Ft} {ta tb tc t : Fb} {pos : Pos}
def nameF (i : Nat) : Ft := fun g => match g[i]? with
  | some (.val _ d) => .ok (.val d) g
  | some (.own _ _) => .ok (.at_ i) g
  | _ => .stuck
theorem ve_name (i : Nat) (h : PE X e (tVar i)) : VE X W e (nameF i) := ⟨pe_imp h fun σ H Q ⟨I, g, o, r⟩ => by
  unfold nameF at r
  split at r
  · rename_i t d q
    obtain ⟨u, e1, v, e2, rv⟩ := o.sl i _ q
    cases e2
    exact ⟨v, e1, r I H v o (Go.refl _) rv⟩
  · rename_i t d q
    obtain ⟨u, e1, v, e2, rv⟩ := o.sl i _ q
    cases e2
    exact ⟨.ref v, e1, r I H (.ref v) o (Go.refl _) e1⟩
  · exact r.elim⟩
def cF (d : D) : Ft := fun g => .ok (.val d) g
theorem ve_c {v : V} {d : D} (h : PE X e (tC v)) (r : ∀ I, Rep X.K I v d) : VE X W e (cF d) := ⟨pe_imp h fun σ H Q ⟨I, g, o, q⟩ => q I H v o (Go.refl _) (r I)⟩
theorem ve_int {i : Int} {j} : VE X W (.Constant (.int i) j pos) (cF (.int i)) := ve_c pe_int fun _ => .int i
theorem ve_str {i : Str} {j} : VE X W (.Constant (.str i) j pos) (cF (.str i)) := ve_c pe_str fun _ => .str i
theorem ve_bl {i : Bool} {j} : VE X W (.Constant (.bool i) j pos) (cF (.bl i)) := ve_c pe_bl fun _ => .bl i
theorem ve_non {j} : VE X W (.Constant .none j pos) (cF .non) := ve_c pe_non fun _ => .non
structure P2 (X : Cx) (f : Value → Value → Sem Value) (p : D → D → Option RV) : Prop where
  ex : ∃ r : R2, OpR X f r ∧ ∀ c v u a b Q, Ok X.K c → RdD X.K c v a → RdD X.K c u b → Gives X.K c (p a b) Q → r v u c.H Q
theorem OpR.or {f : Value → Value → Sem Value} {r r' : R2} (h : OpR X f r) (h' : OpR X f r') : OpR X f (fun x y H Q => r x y H Q ∨ r' x y H Q) :=
  fun pins s σ H x y v u Q I rx ry k => k.elim (h pins s σ H x y v u Q I rx ry) (h' pins s σ H x y v u Q I rx ry)
theorem ve_bin {op : Operator} {p : D → D → Option RV} (h : P2 X (binaryOp op) p) (ha : VE X W a fa) (hb : VE X W b fb) : VE X W (.BinOp a op b pos) (op2 p fa fb) := by
  obtain ⟨r, hr, k⟩ := h.ex
  exact ⟨pe_imp (pe_op hr ha.pe hb.pe) fun σ H Q q => rd2 q fun c v u a b _ o ra rb g => k c v u a b Q o ra rb g⟩
theorem ve_cmp {op : CmpOp} {p : D → D → Option RV} (h : P2 X (compareOp op) p) (ha : VE X W a fa) (hb : VE X W b fb) (hm : behindInMarks op b = false) : VE X W (.Compare a [op] [b] pos) (op2 p fa fb) := by
  obtain ⟨r, hr, k⟩ := h.ex
  exact ⟨pe_imp (pe_cmpR hr ha.pe hb.pe hm) fun σ H Q q => rd2 q fun c v u a b _ o ra rb g => k c v u a b Q o ra rb g⟩
def blF (f : Ft) : Fb := fun g => (f g).bind fun x g1 => match x with
  | .val (.bl b) => .ok b g1
  | _ => .stuck
theorem blF_rem {K : PySem.W.Frag} {c0 : Cfg} {r : Res RV} {Q : Bool → Hp → Prop} (h : Rem K W RbR c0 (r.bind fun x g1 => match x with
  | .val (.bl b) => .ok b g1
  | _ => .stuck) Q) : Rem K W (RvR K) c0 r fun x H' => ∃ k, x = .bl k ∧ Q k H' := by
  refine (Rem.bind (R := RvR K) h).mono ?_
  rintro v H1 ⟨I1, g1, x, o1, y1, rx, r1⟩
  split at r1
  · rename_i k
    cases rx
    exact ⟨k, rfl, r1 I1 H1 k o1 (Go.refl _) rfl⟩
  · exact r1.elim
theorem vt_cmp {op : CmpOp} {p : D → D → Option RV} (h : P2 X (compareOp op) p) (ha : VE X W a fa) (hb : VE X W b fb) (hm : behindInMarks op b = false) : VT X W (.Compare a [op] [b] pos) (blF (op2 p fa fb)) := by
  obtain ⟨r, hr, k⟩ := h.ex
  refine ⟨⟨fun pins s σ H Q I q => (pt_cmpR hr ha.pe hb.pe hm).run pins s σ H Q I ?_⟩⟩
  obtain ⟨J, g, o, q⟩ := q
  exact rd2 ⟨J, g, o, blF_rem q⟩ fun c v u a b _ o ra rb g => k c v u a b _ o ra rb g
def truth : D → Option Bool
  | .non => some false
  | .bl b => some b
  | .int i => some (i != 0)
  | .str x => if x.length ≤ sizeLine then some ((x.length : Int) != 0) else none
  | .lst xs => some (!xs.isEmpty)
  | .tup xs => some (!xs.isEmpty)
  | _ => none
def truF (f : Ft) : Fb := fun g => (settle (f g)).bind fun x g1 => match (deref g1 x).bind truth with
  | some b => .ok b g1
  | none => .stuck
theorem isEmpty_reps {K : PySem.W.Frag} {I : Hp} {xs : List V} {ds : List D} (r : Reps K I xs ds) : (!xs.isEmpty) = !ds.isEmpty := by
  cases r <;> rfl
theorem vt_tru (h : VE X W e f) (he : ∀ whole, isTrue e X.env whole = (do let v ← whole; standAt e.pos; holding [v] (truthy v)) := by intro _; rfl) : VT X W e (truF f) := by
  refine ⟨⟨fun pins s σ H Q I ⟨J, g, o, q⟩ => (pt_truth h.pe he).run pins s σ H Q I ?_⟩⟩
  refine ⟨J, g, o, Rem.settle ((Rem.bind (R := RvR X.K) q).mono ?_)⟩
  rintro v H1 ⟨I1, g1, x, o1, y1, rx, r1⟩
  split at r1
  · rename_i k ek
    have q1 : Q k H1 := r1 I1 H1 k o1 (Go.refl _) rfl
    obtain ⟨d, ed, et⟩ := Option.bind_eq_some_iff.mp ek
    have rd := deref_rd o1 rx ed
    refine ⟨k, ?_, q1⟩
    cases d <;> simp only [truth] at et <;> first | cases et | skip
    · rw [rd.non]; rfl
    · rw [rd.bl]; rfl
    · rw [rd.int]; rfl
    · rw [rd.str]
      split at et
      · cases et
        exact ⟨by assumption, rfl⟩
      · cases et
    · obtain ⟨p, xs, rfl, hq, hr⟩ := rd.lst o1
      exact .inl ⟨xs, SqL.of hq, (isEmpty_reps hr).symm⟩
    · obtain ⟨p, xs, rfl, hq, hr⟩ := rd.tup o1
      exact .inr (.inl ⟨xs, hq, (isEmpty_reps hr).symm⟩)
  · exact r1.elim
def andB (ta tb : Fb) : Fb := fun g => (ta g).bind fun k g1 => if k = true then tb g1 else .ok false g1
def orB (ta tb : Fb) : Fb := fun g => (ta g).bind fun k g1 => if k = true then .ok true g1 else tb g1
def notB (ta : Fb) : Fb := fun g => (ta g).bind fun k g1 => .ok (!k) g1
structure VW (X : Cx) (W : WX) (e : Expr) (f : Fb) : Prop where
  pw : PW X e (rdT X.K W f)
theorem VW.vt (h : VW X W e ta) : VT X W e ta := ⟨h.pw.pt⟩
theorem PT.imp {e : Expr} {t t' : TT} (h : PT X e t) (k : ∀ σ H Q, t' σ H Q → t σ H Q) : PT X e t' := ⟨fun pins s σ H Q I hw => h.run pins s σ H Q I (k σ H Q hw)⟩
theorem PW.imp {e : Expr} {t t' : TT} (h : PW X e t) (k : ∀ σ H Q, t' σ H Q → t σ H Q) : PW X e t' := ⟨fun w pins s σ H Q I hw => h.run w pins s σ H Q I (k σ H Q hw)⟩
variable {rest : List Expr}
theorem vw_and1 (ha : VT X W a ta) : VW X W (.BoolOp .And [a] pos) ta := ⟨pw_and1 ha.pt⟩
theorem vw_or1 (ha : VT X W a ta) : VW X W (.BoolOp .Or [a] pos) ta := ⟨pw_or1 ha.pt⟩
theorem vw_and (ha : VT X W a ta) (hb : VW X W (.BoolOp .And (b :: rest) pos) tb) : VW X W (.BoolOp .And (a :: b :: rest) pos) (andB ta tb) := ⟨PW.imp (pw_and ha.pt hb.pw) fun σ H Q ⟨I, g, o, r⟩ => by
  refine ⟨I, g, o, (Rem.bind (R := RbR) r).mono ?_⟩
  rintro v H1 ⟨I1, g1, x, o1, y1, rfl, r1⟩
  cases v with
  | true => exact ⟨I1, g1, o1, r1⟩
  | false => exact r1 I1 H1 false o1 (Go.refl _) rfl⟩
theorem vw_or (ha : VT X W a ta) (hb : VW X W (.BoolOp .Or (b :: rest) pos) tb) : VW X W (.BoolOp .Or (a :: b :: rest) pos) (orB ta tb) := ⟨PW.imp (pw_or ha.pt hb.pw) fun σ H Q ⟨I, g, o, r⟩ => by
  refine ⟨I, g, o, (Rem.bind (R := RbR) r).mono ?_⟩
  rintro v H1 ⟨I1, g1, x, o1, y1, rfl, r1⟩
  cases v with
  | false => exact ⟨I1, g1, o1, r1⟩
  | true => exact r1 I1 H1 true o1 (Go.refl _) rfl⟩
theorem vt_not (ha : VT X W a ta) : VT X W (.UnaryOp .Not a pos) (notB ta) := ⟨PT.imp (pt_not ha.pt) fun σ H Q ⟨I, g, o, r⟩ => by
  refine ⟨I, g, o, (Rem.bind (R := RbR) r).mono ?_⟩
  rintro v H1 ⟨I1, g1, x, o1, y1, rfl, r1⟩
  exact r1 I1 H1 _ o1 (Go.refl _) rfl⟩
def ifF (t : Fb) (fa fb : Ft) : Ft := fun g => (t g).bind fun k g1 => if k = true then fa g1 else fb g1
def andV (fa fb : Ft) : Ft := fun g => (blF fa g).bind fun k g1 => if k = true then fb g1 else .ok (.val (.bl false)) g1
def orV (fa fb : Ft) : Ft := fun g => (blF fa g).bind fun k g1 => if k = true then .ok (.val (.bl true)) g1 else fb g1
theorem blF_bind {K : PySem.W.Frag} {c0 : Cfg} {r : Res RV} {k : Bool → Sg → Res RV} {Q : VK} (h : Rem K W (RvR K) c0 ((r.bind fun x g1 => match x with
  | .val (.bl b) => .ok b g1
  | _ => .stuck).bind k) Q) : Rem K W (RvR K) c0 r fun x H1 => ∃ c, x = .bl c ∧ ∃ I1 g1, Ok K ⟨I1, c0.σ, H1, g1⟩ ∧ Rem K W (RvR K) ⟨I1, c0.σ, H1, g1⟩ (k c g1) Q := by
  have h' := Rem.bind (R := RbR) h
  refine (blF_rem h').mono ?_
  rintro v H1 ⟨c, e, I1, g1, x, o1, y1, ex, r1⟩
  subst ex
  exact ⟨c, e, I1, g1, o1, r1⟩
theorem ve_and1 (ha : VE X W a fa) : VE X W (.BoolOp .And [a] pos) fa := ⟨pe_one ha.pe⟩
theorem ve_or1 (ha : VE X W a fa) : VE X W (.BoolOp .Or [a] pos) fa := ⟨pe_one ha.pe⟩
theorem ve_and (ha : VE X W a fa) (hb : VE X W (.BoolOp .And (b :: rest) pos) fb) : VE X W (.BoolOp .And (a :: b :: rest) pos) (andV fa fb) := ⟨pe_imp (pe_and ha.pe hb.pe) fun σ H Q ⟨I, g, o, r⟩ => by
  refine ⟨I, g, o, (blF_bind r).mono ?_⟩
  rintro v H1 ⟨c, ec, I1, g1, o1, r1⟩
  refine ⟨c, ec, ?_⟩
  cases c with
  | true => exact ⟨I1, g1, o1, r1⟩
  | false => exact r1 I1 H1 _ o1 (Go.refl _) (.bl false)⟩
theorem ve_or (ha : VE X W a fa) (hb : VE X W (.BoolOp .Or (b :: rest) pos) fb) : VE X W (.BoolOp .Or (a :: b :: rest) pos) (orV fa fb) := ⟨pe_imp (pe_or ha.pe hb.pe) fun σ H Q ⟨I, g, o, r⟩ => by
  refine ⟨I, g, o, (blF_bind r).mono ?_⟩
  rintro v H1 ⟨c, ec, I1, g1, o1, r1⟩
  refine ⟨c, ec, ?_⟩
  cases c with
  | false => exact ⟨I1, g1, o1, r1⟩
  | true => exact r1 I1 H1 _ o1 (Go.refl _) (.bl true)⟩
def notF (fa : Ft) : Ft := fun g => (blF fa g).bind fun k g1 => .ok (.val (.bl (!k))) g1
end
end Vl
set_option Elab.async false
set_option linter.all false
set_option maxRecDepth 100000
set_option maxHeartbeats 2000000
namespace Vl
open PySem PySem.Spec PyProof.Rows L2 My
section
variable {X : Cx} {W : WX}
abbrev vI (i : Int) : Option RV := some (.val (.int i))
abbrev vB (b : Bool) : Option RV := some (.val (.bl b))
abbrev vS (x : Str) : Option RV := some (.val (.str x))
def addP : D → D → Option RV
  | .int a, .int b => vI (a + b)
  | .str a, .str b => if a.length + b.length ≤ sizeLine then vS (a ++ b) else none
  | .lst a, .lst b => if a.length + b.length ≤ sizeLine then some (.fr (.lst (a ++ b))) else none
  | .tup a, .tup b => if a.length + b.length ≤ sizeLine then some (.val (.tup (a ++ b))) else none
  | _, _ => none
theorem Reps.nil_iff {K : PySem.W.Frag} {I : Hp} {xs : List V} {ds : List D} (r : Reps K I xs ds) : xs = [] ↔ ds = [] := by
  cases r <;> simp
theorem p_add : P2 X (binaryOp .Add) addP := by
  refine ⟨_, (op_add (X := X)).or ((op_add_str (X := X)).or ((ox_cat (X := X)).or (op_catA (X := X)))), fun c v u a b Q o ra rb h => ?_⟩
  cases a <;> cases b <;> simp only [addP] at h <;> first | exact h.elim | skip
  · rename_i i j
    rw [ra.int, rb.int]
    exact .inl ⟨i, j, rfl, rfl, h.now o (.int _)⟩
  · rename_i i j
    rw [ra.str, rb.str]
    split at h
    · exact .inr (.inl ⟨i, j, rfl, rfl, by assumption, h.now o (.str _)⟩)
    · exact h.elim
  · rename_i xs ys
    split at h
    · rename_i hz
      obtain ⟨p, us, rfl, hp, rp⟩ := ra.lst o
      obtain ⟨q, ws, rfl, hq, rq⟩ := rb.lst o
      exact .inr (.inr (.inl ⟨p, q, rfl, rfl, us, ws, hp, hq, by rw [rp.length, rq.length]; exact hz, fun l H' fr x hl => h.fresh o fr x ⟨_, hl, rp.append rq⟩⟩))
    · exact h.elim
  · rename_i xs ys
    split at h
    · rename_i hz
      obtain ⟨p, us, rfl, hp, rp⟩ := ra.tup o
      obtain ⟨q, ws, rfl, hq, rq⟩ := rb.tup o
      have rr := rp.append rq
      refine .inr (.inr (.inr ⟨p, q, us, ws, rfl, rfl, hp, hq, by rw [rp.length, rq.length]; exact hz, fun e => ?_, fun e e' => ?_, fun e e' l hl => ?_⟩))
      · have := rp.nil_iff.mp e
        subst this
        rcases rb with rb | ⟨_, _, rb⟩
        · exact h.now o rb
        · exact rb.elim
      · have := rq.nil_iff.mp e'
        subst this
        rw [List.append_nil] at h
        rcases ra with ra | ⟨_, _, ra⟩
        · exact h.now o ra
        · exact ra.elim
      · exact h.froz o ⟨hl⟩ (Xb.new hl) upd_same .tup fun I' l' e => .tup (SqT.of e) (rr.mono l')
    · exact h.elim
theorem p_int {f : Value → Value → Sem Value} {g : Int → Int → V} {g' : Int → Int → D} {p : D → D → Option RV} (h : OpR X f (rI0 g)) (hg : ∀ I i j, Rep X.K I (g i j) (g' i j))
    (hp : ∀ a b, p a b = match a, b with | .int i, .int j => some (.val (g' i j)) | _, _ => none) : P2 X f p := by
  refine ⟨_, h, fun c v u a b Q o ra rb k => ?_⟩
  rw [hp] at k
  cases a <;> cases b <;> first | exact k.elim | skip
  rename_i i j
  rw [ra.int, rb.int]
  exact ⟨i, j, rfl, rfl, k.now o (hg _ i j)⟩
theorem p_intC {f : Value → Value → Sem Value} {C : Int → Int → Prop} {B : Int → Int → Bool} {g : Int → Int → V} {g' : Int → Int → D} {p : D → D → Option RV} (h : OpR X f (rI C g)) (hC : ∀ i j, B i j = true → C i j) (hg : ∀ I i j, Rep X.K I (g i j) (g' i j))
    (hp : ∀ a b, p a b = match a, b with | .int i, .int j => if B i j = true then some (.val (g' i j)) else none | _, _ => none) : P2 X f p := by
  refine ⟨_, h, fun c v u a b Q o ra rb k => ?_⟩
  rw [hp] at k
  cases a <;> cases b <;> first | exact k.elim | skip
  rename_i i j
  rw [ra.int, rb.int]
  dsimp only at k
  split at k
  · exact ⟨i, j, rfl, rfl, hC i j (by assumption), k.now o (hg _ i j)⟩
  · exact k.elim
def subP : D → D → Option RV
  | .int a, .int b => vI (a - b)
  | _, _ => none
theorem p_sub : P2 X (binaryOp .Sub) subP := p_int op_sub (fun _ i j => .int _) fun a b => by cases a <;> cases b <;> rfl
def mulOk (i j : Int) : Bool := decide (-(2 ^ 64) < i ∧ i < 2 ^ 64) || (decide (-(2 ^ 64) < j ∧ j < 2 ^ 64) || decide (i.natAbs.log2 + j.natAbs.log2 < 1000000))
def divOk (j : Int) : Bool := decide (0 < j) && decide (j.natAbs.log2 < 9000)
def powOk (i j : Int) : Bool := decide (0 ≤ j) && (decide (j ≤ 1000000) && decide (i.natAbs < 2 ^ 64))
def mulP : D → D → Option RV
  | .int a, .int b => if mulOk a b = true then vI (a * b) else none
  | _, _ => none
theorem OpR.cond {f : Value → Value → Sem Value} {C C' : Int → Int → Prop} {g : Int → Int → V} (h : OpR X f (rI C g)) (h' : OpR X f (rI C' g)) : OpR X f (rI (fun i j => C i j ∨ C' i j) g) :=
  fun pins s σ H x y v u Q I rx ry ⟨i, j, e1, e2, c, q⟩ => c.elim (fun c => h pins s σ H x y v u Q I rx ry ⟨i, j, e1, e2, c, q⟩) fun c => h' pins s σ H x y v u Q I rx ry ⟨i, j, e1, e2, c, q⟩
theorem p_mul : P2 X (binaryOp .Mult) mulP := p_intC (B := mulOk) (OpR.cond op_mul op_mulW) (fun i j h => by
  simp only [mulOk, Bool.or_eq_true, decide_eq_true_eq] at h
  rcases h with h | h | h
  · exact .inl (.inl h)
  · exact .inl (.inr h)
  · exact .inr h) (fun _ i j => .int _) fun a b => by cases a <;> cases b <;> rfl
def fdivP : D → D → Option RV
  | .int a, .int b => if divOk b = true then vI (a / b) else none
  | _, _ => none
theorem p_fdiv : P2 X (binaryOp .FloorDiv) fdivP := p_intC (B := fun _ j => divOk j) op_fdivW (fun i j h => by
  simp only [divOk, Bool.and_eq_true, decide_eq_true_eq] at h
  exact h) (fun _ i j => .int _) fun a b => by cases a <;> cases b <;> rfl
def modP : D → D → Option RV
  | .int a, .int b => if decide (0 < b) = true then vI (a % b) else none
  | _, _ => none
theorem p_mod : P2 X (binaryOp .Mod) modP := p_intC (B := fun _ j => decide (0 < j)) op_mod (fun i j h => of_decide_eq_true h) (fun _ i j => .int _) fun a b => by cases a <;> cases b <;> rfl
def powP : D → D → Option RV
  | .int a, .int b => if powOk a b = true then vI (a ^ b.toNat) else none
  | _, _ => none
theorem p_pow : P2 X (binaryOp .Pow) powP := p_intC (B := powOk) op_pow (fun i j h => by
  simp only [powOk, Bool.and_eq_true, decide_eq_true_eq] at h
  exact h) (fun _ i j => .int _) fun a b => by cases a <;> cases b <;> rfl
def negP : D → Option RV
  | .int a => vI (-a)
  | _ => none
theorem ve_neg {a : Expr} {fa : Ft} {pos : Pos} (ha : VE X W a fa) : VE X W (.UnaryOp .USub a pos) (op1 negP fa) := ⟨pe_imp (pe_un un_neg ha.pe) fun σ H Q ⟨I, g, o, r⟩ => by
  refine ⟨I, g, o, Rem.settle ((Rem.bind (R := RvR X.K) r).mono ?_)⟩
  rintro v H1 ⟨I1, g1, x, o1, y1, rx, r1⟩
  obtain ⟨d, rd, q⟩ := lift1_gives o1 rx r1
  cases d <;> first | exact q.elim | skip
  rename_i i
  exact ⟨i, rd.int, q.now o1 (.int _)⟩⟩
def scD : D → D → Option Bool
  | .non, .non => some true
  | .non, .int _ => some false | .int _, .non => some false | .non, .bl _ => some false | .bl _, .non => some false | .non, .str _ => some false | .str _, .non => some false
  | .int a, .int b => some (decide (a = b)) | .bl a, .bl b => some (decide (a = b)) | .str a, .str b => some (decide (a = b))
  | .int _, .str _ => some false | .str _, .int _ => some false | .bl _, .str _ => some false | .str _, .bl _ => some false
  | _, _ => none
mutual
def toP : D → Option PyData
  | .non => some .none
  | .bl b => some (.bool b)
  | .int i => some (.int i)
  | .str x => some (.str x)
  | .lst xs => (toPs xs).map PyData.list
  | .tup xs => (toPs xs).map PyData.tuple
  | _ => none
def toPs : List D → Option (List PyData)
  | [] => some []
  | x :: xs => (toP x).bind fun p => (toPs xs).map (p :: ·)
end
def eqD (a b : D) : Option Bool := match scD a b with
  | some r => some r
  | none => match toP a, toP b with
    | some p, some q => if SeqAt.shaped p = true ∧ SeqAt.shaped q = true then some (PyData.eqv p q) else none
    | _, _ => none
mutual
theorem dp_rep {K : PySem.W.Frag} {I H : Hp} (l : Le I H) : ∀ {v : V} {d : D} {p : PyData}, Rep K I v d → toP d = some p → Dp K H v p
  | _, _, _, .non, e => by cases e; exact .non
  | _, _, _, .bl b, e => by cases e; exact .bl b
  | _, _, _, .int i, e => by cases e; exact .int i
  | _, _, _, .str x, e => by cases e; exact .str x
  | _, _, _, .lst h r, e => by
    simp only [toP, Option.map_eq_some_iff] at e
    obtain ⟨ps, e1, rfl⟩ := e
    exact .lst (SqL.of (l _ _ h)) (dp_reps l r e1)
  | _, _, _, .tup h r, e => by
    simp only [toP, Option.map_eq_some_iff] at e
    obtain ⟨ps, e1, rfl⟩ := e
    exact .tup (l.sqT h) (dp_reps l r e1)
  | _, _, _, .seq h r, e => by simp [toP] at e
  | _, _, _, .dct h r, e => by simp [toP] at e
  | _, _, _, .kdc h r, e => by simp [toP] at e
  | _, _, _, .ins h r, e => by simp [toP] at e
  | _, _, _, .exv h r, e => by simp [toP] at e
  | _, _, _, .cls c, e => by simp [toP] at e
  | _, _, _, .raw c, e => by simp [toP] at e
  | _, _, _, .slo h hd r, e => by simp [toP] at e
theorem dp_reps {K : PySem.W.Frag} {I H : Hp} (l : Le I H) : ∀ {v : List V} {d : List D} {p : List PyData}, Reps K I v d → toPs d = some p → DpAll K H v p
  | _, _, _, .nil, e => by simp only [toPs, Option.some.injEq] at e; subst e; exact .nil
  | _, _, _, .cons h t, e => by
    simp only [toPs, Option.bind_eq_some_iff, Option.map_eq_some_iff] at e
    obtain ⟨p, e1, ps, e2, rfl⟩ := e
    exact .cons (dp_rep l h e1) (dp_reps l t e2)
end
theorem RdD.dp {K : PySem.W.Frag} {c : Cfg} {v : V} {d : D} {p : PyData} (o : Ok K c) (h : RdD K c v d) (e : toP d = some p) : Dp K c.H v p := by
  rcases h with h | ⟨a, rfl, h⟩
  · exact dp_rep o.sub h e
  · cases d <;> first | exact h.elim | skip
    · obtain ⟨xs, q, r⟩ := h
      simp only [toP, Option.map_eq_some_iff] at e
      obtain ⟨ps, e1, rfl⟩ := e
      exact .lst (SqL.of q) (dp_reps o.sub r e1)
    · simp [toP] at e
    · simp [toP] at e
    · simp [toP] at e
def eqP (a b : D) : Option RV := (eqD a b).map fun k => .val (.bl k)
def neP (a b : D) : Option RV := (eqD a b).map fun k => .val (.bl (!k))
theorem sc_scal {K : PySem.W.Frag} {c : Cfg} {v u : V} {a b : D} {k : Bool} (ra : RdD K c v a) (rb : RdD K c u b) (h : scD a b = some k) : scal v u = true ∧ decide (v = u) = k := by
  cases a <;> cases b <;> simp only [scD] at h <;> first | cases h | skip
  all_goals first
    | (rw [ra.non, rb.non]; exact ⟨rfl, rfl⟩)
    | (rw [ra.non, rb.int]; exact ⟨rfl, rfl⟩)
    | (rw [ra.int, rb.non]; exact ⟨rfl, rfl⟩)
    | (rw [ra.non, rb.bl]; exact ⟨rfl, rfl⟩)
    | (rw [ra.bl, rb.non]; exact ⟨rfl, rfl⟩)
    | (rw [ra.non, rb.str]; exact ⟨rfl, rfl⟩)
    | (rw [ra.str, rb.non]; exact ⟨rfl, rfl⟩)
    | (rw [ra.int, rb.int]; exact ⟨rfl, by simp⟩)
    | (rw [ra.bl, rb.bl]; exact ⟨rfl, by simp⟩)
    | (rw [ra.str, rb.str]; exact ⟨rfl, by simp⟩)
    | (rw [ra.int, rb.str]; exact ⟨rfl, rfl⟩)
    | (rw [ra.str, rb.int]; exact ⟨rfl, rfl⟩)
    | (rw [ra.bl, rb.str]; exact ⟨rfl, rfl⟩)
    | (rw [ra.str, rb.bl]; exact ⟨rfl, rfl⟩)
theorem eqD_cases {K : PySem.W.Frag} {c : Cfg} {v u : V} {a b : D} {k : Bool} (o : Ok K c) (ra : RdD K c v a) (rb : RdD K c u b) (h : eqD a b = some k) :
    (scal v u = true ∧ decide (v = u) = k) ∨ ∃ d e, Dp K c.H v d ∧ Dp K c.H u e ∧ SeqAt.shaped d = true ∧ SeqAt.shaped e = true ∧ PyData.eqv d e = k := by
  unfold eqD at h
  split at h
  · rename_i r e
    cases h
    exact .inl (sc_scal ra rb e)
  · split at h
    · rename_i p q ep eq
      split at h
      · rename_i hs
        cases h
        exact .inr ⟨p, q, ra.dp o ep, rb.dp o eq, hs.1, hs.2, rfl⟩
      · cases h
    · cases h
theorem p_eq (hu : X.A.units + 64 < cLine) : P2 X (compareOp .Eq) eqP := by
  refine ⟨_, (op_eq (X := X)).or (op_eqD hu), fun c v u a b Q o ra rb h => ?_⟩
  unfold eqP at h
  cases e : eqD a b with
  | none => rw [e] at h; exact h.elim
  | some k =>
    rw [e] at h
    have q := h.now o (v := .bl k) (.bl k)
    rcases eqD_cases o ra rb e with ⟨h1, h2⟩ | ⟨d, e, h1, h2, h3, h4, h5⟩
    · exact .inl ⟨h1, by rw [h2]; exact q⟩
    · exact .inr ⟨d, e, h1, h2, h3, h4, by rw [h5]; exact q⟩
theorem p_ne (hu : X.A.units + 64 < cLine) : P2 X (compareOp .NotEq) neP := by
  refine ⟨_, (op_ne (X := X)).or (op_neD hu), fun c v u a b Q o ra rb h => ?_⟩
  unfold neP at h
  cases e : eqD a b with
  | none => rw [e] at h; exact h.elim
  | some k =>
    rw [e] at h
    have q := h.now o (v := .bl (!k)) (.bl (!k))
    rcases eqD_cases o ra rb e with ⟨h1, h2⟩ | ⟨d, e, h1, h2, h3, h4, h5⟩
    · exact .inl ⟨h1, by rw [h2]; exact q⟩
    · exact .inr ⟨d, e, h1, h2, h3, h4, by rw [h5]; exact q⟩
def intsD : List D → Option (List Int)
  | [] => some []
  | .int i :: r => (intsD r).map (i :: ·)
  | _ => none
theorem reps_ints {K : PySem.W.Frag} {I : Hp} : ∀ {vs : List V} {ds : List D} {ns : List Int}, Reps K I vs ds → intsD ds = some ns → vs = ns.map V.int
  | _, _, _, .nil, e => by cases e; rfl
  | _, d :: ds, ns, .cons h t, e => by
    cases d <;> simp only [intsD, Option.map_eq_some_iff] at e <;> first | cases e | skip
    rename_i ms
    obtain ⟨e1, rfl⟩ := ms
    cases h
    rw [List.map_cons, reps_ints t e1]
def ltP : D → D → Option RV
  | .int a, .int b => vB (decide (a < b))
  | .str a, .str b => vB (decide (a.cps.toList < b.cps.toList))
  | .tup a, .tup b => match intsD a, intsD b with
    | some x, some y => vB (HT.lexLt x y)
    | _, _ => none
  | _, _ => none
theorem p_lt (hu : X.A.units < cLine) : P2 X (compareOp .Lt) ltP := by
  refine ⟨_, (op_lt (X := X)).or ((op_lt_str (X := X)).or (op_ltT hu)), fun c v u a b Q o ra rb h => ?_⟩
  cases a <;> cases b <;> simp only [ltP] at h <;> first | exact h.elim | skip
  · rename_i i j
    rw [ra.int, rb.int]
    exact .inl ⟨i, j, rfl, rfl, h.now o (.bl _)⟩
  · rename_i i j
    rw [ra.str, rb.str]
    exact .inr (.inl ⟨i, j, rfl, rfl, h.now o (.bl _)⟩)
  · rename_i xs ys
    split at h
    · rename_i x y ex ey
      obtain ⟨p, us, rfl, hp, rp⟩ := ra.tup o
      obtain ⟨q, ws, rfl, hq, rq⟩ := rb.tup o
      rw [reps_ints rp ex] at hp
      rw [reps_ints rq ey] at hq
      exact .inr (.inr ⟨p, q, x, y, rfl, rfl, hp, hq, h.now o (.bl _)⟩)
    · exact h.elim
def leP : D → D → Option RV
  | .int a, .int b => vB (decide (a ≤ b))
  | .str a, .str b => vB (!decide (b.cps.toList < a.cps.toList))
  | _, _ => none
theorem p_le : P2 X (compareOp .LtE) leP := by
  refine ⟨_, (op_le (X := X)).or (op_le_str (X := X)), fun c v u a b Q o ra rb h => ?_⟩
  cases a <;> cases b <;> simp only [leP] at h <;> first | exact h.elim | skip
  · rename_i i j
    rw [ra.int, rb.int]
    exact .inl ⟨i, j, rfl, rfl, h.now o (.bl _)⟩
  · rename_i i j
    rw [ra.str, rb.str]
    exact .inr ⟨i, j, rfl, rfl, h.now o (.bl _)⟩
def gtP : D → D → Option RV
  | .int a, .int b => vB (decide (b < a))
  | .str a, .str b => vB (decide (b.cps.toList < a.cps.toList))
  | _, _ => none
theorem p_gt : P2 X (compareOp .Gt) gtP := by
  refine ⟨_, (op_gt (X := X)).or (op_gt_str (X := X)), fun c v u a b Q o ra rb h => ?_⟩
  cases a <;> cases b <;> simp only [gtP] at h <;> first | exact h.elim | skip
  · rename_i i j
    rw [ra.int, rb.int]
    exact .inl ⟨i, j, rfl, rfl, h.now o (.bl _)⟩
  · rename_i i j
    rw [ra.str, rb.str]
    exact .inr ⟨i, j, rfl, rfl, h.now o (.bl _)⟩
def geP : D → D → Option RV
  | .int a, .int b => vB (decide (b ≤ a))
  | .str a, .str b => vB (!decide (a.cps.toList < b.cps.toList))
  | _, _ => none
theorem p_ge : P2 X (compareOp .GtE) geP := by
  refine ⟨_, (op_ge (X := X)).or (op_ge_str (X := X)), fun c v u a b Q o ra rb h => ?_⟩
  cases a <;> cases b <;> simp only [geP] at h <;> first | exact h.elim | skip
  · rename_i i j
    rw [ra.int, rb.int]
    exact .inl ⟨i, j, rfl, rfl, h.now o (.bl _)⟩
  · rename_i i j
    rw [ra.str, rb.str]
    exact .inr ⟨i, j, rfl, rfl, h.now o (.bl _)⟩
end
end Vl
set_option Elab.async false
set_option linter.all false
set_option maxRecDepth 100000
set_option maxHeartbeats 2000000
namespace Vl
open PySem PySem.Spec PyProof.Rows L2 My
section
variable {X : Cx} {W : WX}
def keyOf : D → Option Key
  | .int i => some (.inl i)
  | .str x => some (.inr x)
  | _ => none
theorem keyOf_kD (k : Key) : keyOf (kD k) = some k := by cases k <;> rfl
def valD : List (D × D) → Key → Option D
  | [], _ => none
  | (q, d) :: r, k => if keyOf q = some k then some d else valD r k
theorem RepK.val {K : PySem.W.Frag} {I : Hp} {k : Key} : ∀ {vs : List (Key × V)} {ds : List (D × D)}, RepK K I vs ds → (∀ d, valD ds k = some d → ∃ v, valV vs k = some v ∧ Rep K I v d) ∧ (valD ds k = none → valV vs k = none)
  | _, _, .nil => ⟨fun d e => (nomatch e), fun _ => rfl⟩
  | (q, v) :: vs, (_, d') :: ds, .cons h t => by
    by_cases e : q = k
    · subst e
      refine ⟨fun d e => ⟨v, valV_pos rfl, ?_⟩, fun e => ?_⟩
      · simp only [valD, keyOf_kD, if_true, Option.some.injEq] at e
        exact e ▸ h
      · simp [valD, keyOf_kD] at e
    · have e' : ¬ keyOf (kD q) = some k := by rw [keyOf_kD]; simpa using e
      refine ⟨fun d e1 => ?_, fun e1 => ?_⟩
      · rw [valV_neg e]
        simp only [valD, if_neg e'] at e1
        exact t.val.1 d e1
      · rw [valV_neg e]
        simp only [valD, if_neg e'] at e1
        exact t.val.2 e1
theorem kD_kV {K : PySem.W.Frag} {c : Cfg} {v : V} {d : D} {k : Key} (h : RdD K c v d) (e : keyOf d = some k) : v = kV k := by
  cases d <;> simp only [keyOf, Option.some.injEq] at e <;> first | cases e | skip
  · exact h.int
  · exact h.str
def flatD : D → Bool
  | .non | .bl _ | .int _ | .str _ => true
  | _ => false
def eqF : D → D → Bool
  | .non, .non => true
  | .bl a, .bl b => a == b
  | .bl a, .int b => (if a then 1 else 0) == b
  | .int a, .bl b => a == (if b then 1 else 0)
  | .int a, .int b => a == b
  | .str a, .str b => a == b
  | _, _ => false
def inF (x : D) (xs : List D) : Option Bool :=
  if flatD x = true ∧ xs.all flatD = true then some (xs.any fun y => eqF y x) else
    match toP x, toPs xs with
    | some p, some ps => if SeqAt.shaped p = true ∧ SeqAt.shaped (.list ps) = true then some (ps.any fun z => PyData.eqv z p) else none
    | _, _ => none
def inT (x : D) (xs : List D) : Option Bool := if flatD x = true ∧ xs.all flatD = true then some (xs.any fun y => eqF y x) else none
def inD : D → D → Option Bool
  | .str a, .str b => some (!(Builtin.Str.occurrences b a 0 b.length 1).isEmpty)
  | x, .lst ys => inF x ys
  | x, .tup ys => inT x ys
  | x, .dct kvs => (keyOf x).map fun k => (valD kvs k).isSome
  | .str z, .kdc kvs => some (kvs.lookup z).isSome
  | _, _ => none
theorem flat_rep {K : PySem.W.Frag} {I : Hp} {v : V} {d : D} (h : Rep K I v d) (f : flatD d = true) : flatV v = true := by
  cases h <;> first | rfl | cases f
theorem eqF_eqV {K : PySem.W.Frag} {I : Hp} {v u : V} {a b : D} (h : Rep K I v a) (h' : Rep K I u b) (f : flatD a = true) (f' : flatD b = true) : eqV v u = eqF a b := by
  cases h <;> first | cases f | skip
  all_goals (cases h' <;> first | rfl | cases f')
theorem RdD.rep_flat {K : PySem.W.Frag} {c : Cfg} {v : V} {d : D} (h : RdD K c v d) (f : flatD d = true) : Rep K c.I v d := by
  rcases h with h | ⟨a, e, h⟩
  · exact h
  · cases d <;> first | exact h.elim | cases f
theorem inV_inF {K : PySem.W.Frag} {I : Hp} {v : V} {d : D} (h : Rep K I v d) (f : flatD d = true) : ∀ {vs : List V} {ds : List D}, Reps K I vs ds → ds.all flatD = true → vs.all flatV = true ∧ inV v vs = ds.any fun y => eqF y d
  | _, _, .nil, _ => ⟨rfl, rfl⟩
  | v' :: vs, d' :: ds, .cons q t, fs => by
    rw [List.all_cons, Bool.and_eq_true] at fs
    obtain ⟨h1, h2⟩ := inV_inF h f t fs.2
    refine ⟨by rw [List.all_cons, flat_rep q fs.1, h1]; rfl, ?_⟩
    show (eqV v' v || inV v vs) = _
    rw [h2, eqF_eqV q h fs.1 f, List.any_cons]
theorem op_in_dct (hu : X.A.units + 1 < cLine) : OpR X (compareOp .In) (fun x y H Q => ∃ a ov, y = .ref a ∧ DGet H a x ov ∧ Q (.bl ov.isSome) H) := by
  rintro pins s σ H x y v u Q I rx ry ⟨a, ov, rfl, g, q⟩
  cases ry
  exact d_in hu I g rx fun s' I' => ⟨.bl ov.isSome, H, I', rfl, q⟩
theorem op_notIn_dct (hu : X.A.units + 1 < cLine) : OpR X (compareOp .NotIn) (fun x y H Q => ∃ a ov, y = .ref a ∧ DGet H a x ov ∧ Q (.bl (!ov.isSome)) H) := by
  rintro pins s σ H x y v u Q I rx ry ⟨a, ov, rfl, g, q⟩
  cases ry
  exact d_notIn hu I g rx fun s' I' => ⟨.bl (!ov.isSome), H, I', rfl, q⟩
theorem op_in_dcK : OpR X (compareOp .In) (fun x y H Q => ∃ z d kvs, x = .str z ∧ y = .ref d ∧ DcK X.K d kvs ∧ Q (.bl (kvs.lookup z).isSome) H) := by
  rintro pins s σ H x y v u Q I rx ry ⟨z, d, kvs, rfl, rfl, ⟨es, n, h1, h2, h3, h4⟩, q⟩
  obtain ⟨r, e, rr⟩ := h4 z
  refine op_in_kd ⟨h1, h2 X.w, h3⟩ pins s σ H _ _ v u Q I rx ry ⟨z, r, rfl, rfl, e, ?_⟩
  have : (kvs.lookup z).isSome = r.isSome := by
    cases q1 : kvs.lookup z <;> cases r <;> rw [q1] at rr <;> first | rfl | exact rr.elim
  rw [← this]
  exact q
theorem op_notIn_dcK : OpR X (compareOp .NotIn) (fun x y H Q => ∃ z d kvs, x = .str z ∧ y = .ref d ∧ DcK X.K d kvs ∧ Q (.bl (!(kvs.lookup z).isSome)) H) := by
  rintro pins s σ H x y v u Q I rx ry ⟨z, d, kvs, rfl, rfl, ⟨es, n, h1, h2, h3, h4⟩, q⟩
  obtain ⟨r, e, rr⟩ := h4 z
  refine op_notIn_kd ⟨h1, h2 X.w, h3⟩ pins s σ H _ _ v u Q I rx ry ⟨z, r, rfl, rfl, e, ?_⟩
  have : (kvs.lookup z).isSome = r.isSome := by
    cases q1 : kvs.lookup z <;> cases r <;> rw [q1] at rr <;> first | rfl | exact rr.elim
  rw [← this]
  exact q
def inP (a b : D) : Option RV := (inD a b).map fun k => .val (.bl k)
def notInP (a b : D) : Option RV := (inD a b).map fun k => .val (.bl (!k))
def inCase (K : PySem.W.Frag) (x y : V) (H : Hp) (k : Bool) : Prop :=
  (∃ i j, x = .str i ∧ y = .str j ∧ k = !(Builtin.Str.occurrences j i 0 j.length 1).isEmpty) ∨
  (∃ p xs, y = .ref p ∧ (SqL K H p xs ∨ SqT K H p xs) ∧ flatV x = true ∧ xs.all flatV = true ∧ k = inV x xs) ∨
  (∃ d ds, Dp K H x d ∧ Dp K H y (.list ds) ∧ SeqAt.shaped d = true ∧ SeqAt.shaped (.list ds) = true ∧ k = ds.any fun z => PyData.eqv z d) ∨
  (∃ a ov, y = .ref a ∧ DGet H a x ov ∧ k = ov.isSome) ∨ (∃ z d kvs, x = .str z ∧ y = .ref d ∧ DcK K d kvs ∧ k = (kvs.lookup z).isSome)
theorem in_cases {K : PySem.W.Frag} {c : Cfg} {v u : V} {a b : D} {k : Bool} (o : Ok K c) (ra : RdD K c v a) (rb : RdD K c u b) (h0 : inD a b = some k) : inCase K v u c.H k := by
  have flats : ∀ (xs : List D) (vs : List V), Reps K c.I vs xs → flatD a = true ∧ xs.all flatD = true → flatV v = true ∧ vs.all flatV = true ∧ inV v vs = xs.any fun y => eqF y a := fun xs vs r f => by
    obtain ⟨h1, h2⟩ := inV_inF (ra.rep_flat f.1) f.1 r f.2
    exact ⟨flat_rep (ra.rep_flat f.1) f.1, h1, h2⟩
  have lst : ∀ ys, b = .lst ys → inF a ys = some k → inCase K v u c.H k := fun ys e h => by
    subst e
    obtain ⟨p, vs, rfl, hp, rp⟩ := rb.lst o
    unfold inF at h
    split at h
    · rename_i f
      cases h
      obtain ⟨f1, f2, f3⟩ := flats _ _ rp f
      exact .inr (.inl ⟨p, vs, rfl, .inl (SqL.of hp), f1, f2, f3.symm⟩)
    · split at h
      · rename_i p' ps e1 e2
        split at h
        · rename_i hs
          cases h
          exact .inr (.inr (.inl ⟨p', ps, ra.dp o e1, .lst (SqL.of hp) (dp_reps o.sub rp e2), hs.1, hs.2, rfl⟩))
        · cases h
      · cases h
  have tup : ∀ ys, b = .tup ys → inT a ys = some k → inCase K v u c.H k := fun ys e h => by
    subst e
    obtain ⟨p, vs, rfl, hp, rp⟩ := rb.tup o
    unfold inT at h
    split at h
    · rename_i f
      cases h
      obtain ⟨f1, f2, f3⟩ := flats _ _ rp f
      exact .inr (.inl ⟨p, vs, rfl, .inr hp, f1, f2, f3.symm⟩)
    · cases h
  have dct : ∀ ys, b = .dct ys → ((keyOf a).map fun k => (valD ys k).isSome) = some k → inCase K v u c.H k := fun ys e h => by
    subst e
    obtain ⟨k', e1, rfl⟩ := Option.map_eq_some_iff.mp h
    obtain ⟨p, vs, rfl, hp, rp⟩ := rb.dct o
    refine .inr (.inr (.inr (.inl ⟨p, _, rfl, by rw [kD_kV ra e1]; exact DGet.k hp, ?_⟩)))
    cases q : valD ys k' with
    | none => rw [(rp.val (k := k')).2 q]; rfl
    | some d => obtain ⟨w, h1, _⟩ := (rp.val (k := k')).1 d q; rw [h1]; rfl
  have kdc : ∀ ys z, b = .kdc ys → a = .str z → some (ys.lookup z).isSome = some k → inCase K v u c.H k := fun ys z e e2 h => by
    subst e e2
    cases h
    obtain ⟨p, vs, rfl, hp, rp⟩ := rb.kdc
    refine .inr (.inr (.inr (.inr ⟨z, p, vs, ra.str, rfl, hp, ?_⟩)))
    cases q : ys.lookup z with
    | none => rw [rp.none q]; rfl
    | some d => obtain ⟨w, h1, _⟩ := rp.get q; rw [h1]; rfl
  cases b <;> cases a <;> simp only [inD] at h0 <;> first
    | exact lst _ rfl h0
    | exact tup _ rfl h0
    | exact dct _ rfl h0
    | exact kdc _ _ rfl rfl h0
    | cases h0
    | skip
  rw [ra.str, rb.str]
  exact .inl ⟨_, _, rfl, rfl, rfl⟩
theorem p_in (hu : X.A.units + 65 < cLine) : P2 X (compareOp .In) inP := by
  refine ⟨_, (op_in_str (X := X)).or ((op_in_seq (X := X)).or ((op_inD hu).or ((op_in_dct (X := X) (by omega)).or op_in_dcK))), fun c v u a b Q o ra rb h => ?_⟩
  unfold inP at h
  cases e : inD a b with
  | none => rw [e] at h; exact h.elim
  | some k =>
    rw [e] at h
    have q := h.now o (v := .bl k) (.bl k)
    rcases in_cases o ra rb e with ⟨i, j, e1, e2, ek⟩ | ⟨p, xs, e1, hq, f1, f2, ek⟩ | ⟨d, ds, d1, d2, s1, s2, ek⟩ | ⟨a', ov, e1, g, ek⟩ | ⟨z, d, kvs, e1, e2, g, ek⟩ <;> rw [ek] at q
    · exact .inl ⟨i, j, e1, e2, q⟩
    · exact .inr (.inl ⟨p, xs, e1, hq, f1, f2, q⟩)
    · exact .inr (.inr (.inl ⟨d, ds, d1, d2, s1, s2, q⟩))
    · exact .inr (.inr (.inr (.inl ⟨a', ov, e1, g, q⟩)))
    · exact .inr (.inr (.inr (.inr ⟨z, d, kvs, e1, e2, g, q⟩)))
theorem p_notIn (hu : X.A.units + 65 < cLine) : P2 X (compareOp .NotIn) notInP := by
  refine ⟨_, (op_notin_str (X := X)).or ((op_notIn_seq (X := X)).or ((op_notInD hu).or ((op_notIn_dct (X := X) (by omega)).or op_notIn_dcK))), fun c v u a b Q o ra rb h => ?_⟩
  unfold notInP at h
  cases e : inD a b with
  | none => rw [e] at h; exact h.elim
  | some k =>
    rw [e] at h
    have q := h.now o (v := .bl (!k)) (.bl (!k))
    rcases in_cases o ra rb e with ⟨i, j, e1, e2, ek⟩ | ⟨p, xs, e1, hq, f1, f2, ek⟩ | ⟨d, ds, d1, d2, s1, s2, ek⟩ | ⟨a', ov, e1, g, ek⟩ | ⟨z, d, kvs, e1, e2, g, ek⟩ <;> rw [ek] at q
    · exact .inl ⟨i, j, e1, e2, q⟩
    · exact .inr (.inl ⟨p, xs, e1, hq, f1, f2, q⟩)
    · exact .inr (.inr (.inl ⟨d, ds, d1, d2, s1, s2, q⟩))
    · exact .inr (.inr (.inr (.inl ⟨a', ov, e1, g, q⟩)))
    · exact .inr (.inr (.inr (.inr ⟨z, d, kvs, e1, e2, g, q⟩)))
def isN : D → Bool
  | .non => true
  | _ => false
def known : D → Bool
  | .raw _ => false
  | _ => true
def isP (a b : D) : Option RV := if known a = true ∧ isN b = true then vB (isN a) else none
def isNotP (a b : D) : Option RV := if known a = true ∧ isN b = true then vB (!isN a) else none
theorem isN_rd {K : PySem.W.Frag} {c : Cfg} {v : V} {a : D} (h : RdD K c v a) (k : known a = true) : decide (v = .non) = isN a := by
  rcases h with h | ⟨p, rfl, h⟩
  · cases h <;> first | rfl | cases k
  · cases a <;> first | exact h.elim | rfl
theorem isN_non {K : PySem.W.Frag} {c : Cfg} {v : V} {a : D} (h : RdD K c v a) (k : isN a = true) : v = .non := by
  cases a <;> first | cases k | skip
  exact h.non
theorem p_is : P2 X (compareOp .Is) isP := by
  refine ⟨_, op_isN, fun c v u a b Q o ra rb h => ?_⟩
  unfold isP at h
  split at h
  · rename_i hk
    exact ⟨isN_non rb hk.2, by rw [isN_rd ra hk.1]; exact h.now o (.bl _)⟩
  · exact h.elim
theorem p_isNot : P2 X (compareOp .IsNot) isNotP := by
  refine ⟨_, op_notN, fun c v u a b Q o ra rb h => ?_⟩
  unfold isNotP at h
  split at h
  · rename_i hk
    exact ⟨isN_non rb hk.2, by rw [isN_rd ra hk.1]; exact h.now o (.bl _)⟩
  · exact h.elim
def chB (p q : D → D → Option RV) (fa fb fc : Ft) : Fb := fun g => (settle (fa g)).bind fun x g1 => (settle (fb g1)).bind fun y g2 => (blF (fun g => lift2 p x y g) g2).bind fun k g3 =>
  if k = true then (settle (fc g3)).bind fun z g4 => blF (fun g => lift2 q y z g) g4 else .ok false g3
theorem vt_chain {op op' : CmpOp} {p q : D → D → Option RV} {a b c : Expr} {fa fb fc : Ft} {pos : Pos} (h : P2 X (compareOp op) p) (h' : P2 X (compareOp op') q) (ha : VE X W a fa) (hb : VE X W b fb) (hc : VE X W c fc)
    (hm : lastMarks [op, op'] [b, c] = false := by with_unfolding_all rfl) : VT X W (.Compare a [op, op'] [b, c] pos) (chB p q fa fb fc) := by
  obtain ⟨r, hr, k⟩ := h.ex
  obtain ⟨r', hr', k'⟩ := h'.ex
  refine ⟨PT.imp (pt_chain hr hr' ha.pe hb.pe hc.pe hm) fun σ H Q ⟨I, g, o, h1⟩ => ?_⟩
  refine ⟨I, g, o, Rem.settle ((Rem.bind (R := RvR X.K) h1).mono ?_)⟩
  rintro v H1 ⟨I1, g1, x, o1, y1, rx, h2⟩
  refine ⟨I1, g1, o1, Rem.settle ((Rem.bind (R := RvR X.K) h2).mono ?_)⟩
  rintro u H2 ⟨I2, g2, y, o2, y2, ry, h3⟩
  have rx2 := RvR.on (c1 := ⟨I1, σ, H1, g1⟩) o2 rfl y2 rx
  have h4 := blF_rem (Rem.bind (R := RbR) h3)
  obtain ⟨da, db, ra, rb, gv⟩ := lift2_gives (c := ⟨I2, σ, H2, g2⟩) o2 rx2 ry h4
  refine k ⟨I2, σ, H2, g2⟩ v u da db _ o2 ra rb ?_
  cases ep : p da db with
  | none => rw [ep] at gv; exact gv.elim
  | some rv =>
    rw [ep] at gv
    intro I3 H3 w o3 y3 rw3
    obtain ⟨kb, ew, I4, g4, x4, o4, y4, e4, h5⟩ := gv I3 H3 w o3 y3 rw3
    subst e4
    refine ⟨kb, ew, ?_⟩
    cases kb with
    | false => exact ⟨false, rfl, h5 I4 H3 false o4 (Go.refl _) rfl⟩
    | true =>
      refine ⟨I4, g4, o4, Rem.settle ((Rem.bind (R := RvR X.K) h5).mono ?_)⟩
      rintro z H5 ⟨I5, g5, x5, o5, y5, rz, h6⟩
      obtain ⟨dc, dd, rc, rd, gv2⟩ := lift2_gives (c := ⟨I5, σ, H5, g5⟩) o5 (RvR.on (c1 := ⟨I2, σ, H2, g2⟩) o5 rfl (y4.trans y5) ry) rz (blF_rem h6)
      exact k' ⟨I5, σ, H5, g5⟩ u z dc dd _ o5 rc rd gv2
end
end Vl
set_option Elab.async false
set_option linter.all false
set_option maxRecDepth 100000
set_option maxHeartbeats 2000000
namespace Vl
open PySem PySem.Spec PyProof.Rows L2 My
section
variable {X : Cx} {W : WX}
def ixP : D → D → Option RV
  | .lst xs, .int i => (atI xs i).map .val
  | .seq xs, .int i => (atI xs i).map .val
  | .tup xs, .int i => (atI xs i).map .val
  | .str z, .int i => if z.length ≤ sizeLine then (atI z.cps.toList i).map fun c => .val (.str ⟨#[c]⟩) else none
  | .dct kvs, k => ((keyOf k).bind fun k => valD kvs k).map .val
  | .kdc kvs, .str z => (kvs.lookup z).map .val
  | _, _ => none
theorem reps_atI {K : PySem.W.Frag} {I : Hp} {vs : List V} {ds : List D} {i : Int} {d : D} (r : Reps K I vs ds) (e : atI ds i = some d) : ∃ v, atI vs i = some v ∧ Rep K I v d := by
  unfold atI at e ⊢
  rw [r.length]
  cases q : ixN ds.length i with
  | none => rw [q] at e; cases e
  | some j => rw [q] at e; exact r.get e
theorem ix_dct (hu : X.A.units + 1 < cLine) : IxR X (fun x y H Q => ∃ a v, x = .ref a ∧ DGet H a y (some v) ∧ Q v H) := by
  rintro value slice pins s σ H x y v u Q I rx ry ⟨a, w, rfl, g, q⟩ hs
  cases rx
  exact tail_any (dict_typeIs I g) PySem.F.slot_dict_getitem.lookup (d_getItem hu I g ry fun w' s' I' r => ⟨w, H, I', r, q⟩) hs
theorem ve_ix {a b : Expr} {fa fb : Ft} {pos : Pos} (hu : X.A.units + 1 < cLine) (ha : VE X W a fa) (hb : VE X W b fb) (hs : PlainIx b := by exact fun _ _ => rfl) : VE X W (.Subscript a b pos) (op2 ixP fa fb) := by
  refine ⟨pe_imp (pe_ix ((ix_seq (X := X)).or ((ix_dct hu).or ix_kdict)) ha.pe hb.pe hs) fun σ H Q q => rd2 q fun c v u a b _ o ra rb h => ?_⟩
  cases a <;> cases b <;> simp only [ixP] at h <;> first | exact h.elim | skip
  all_goals first
    | (rename_i z i
       rw [ra.str, rb.int]
       split at h
       · cases e : atI z.cps.toList i with
         | none => rw [e] at h; exact h.elim
         | some d => rw [e] at h; exact .inl (.inr (.inr ⟨z, i, d, rfl, rfl, by assumption, e, h.now o (.str _)⟩))
       · exact h.elim)
    | (rename_i xs i
       obtain ⟨p, us, rfl, hp, rp⟩ := ra.lst o
       cases e : atI xs i with
       | none => rw [e] at h; exact h.elim
       | some d =>
         rw [e] at h
         obtain ⟨w, hw, rw'⟩ := reps_atI rp e
         rw [rb.int]
         exact .inl (.inl ⟨p, us, i, w, rfl, rfl, SqL.of hp, hw, h.now o rw'⟩))
    | (rename_i xs i
       obtain ⟨p, us, rfl, hp, rp⟩ := ra.seq o
       cases e : atI xs i with
       | none => rw [e] at h; exact h.elim
       | some d =>
         rw [e] at h
         obtain ⟨w, hw, rw'⟩ := reps_atI rp e
         rw [rb.int]
         exact .inl (.inl ⟨p, us, i, w, rfl, rfl, hp, hw, h.now o rw'⟩))
    | (rename_i xs i
       obtain ⟨p, us, rfl, hp, rp⟩ := ra.tup o
       cases e : atI xs i with
       | none => rw [e] at h; exact h.elim
       | some d =>
         rw [e] at h
         obtain ⟨w, hw, rw'⟩ := reps_atI rp e
         rw [rb.int]
         exact .inl (.inr (.inl ⟨p, us, i, w, rfl, rfl, hp, hw, h.now o rw'⟩)))
    | (rename_i xs i
       obtain ⟨p, us, rfl, hp, rp⟩ := ra.dct o
       simp only [keyOf, Option.bind_some, Option.bind_none, Option.map_none] at h
       first | exact h.elim | skip
       cases e : valD xs (.inl i) with
       | none => rw [e] at h; exact h.elim
       | some d =>
         rw [e] at h
         obtain ⟨w, hw, rw'⟩ := (rp.val).1 d e
         rw [rb.int]
         exact .inr (.inl ⟨p, w, rfl, .inl ⟨us, .inl i, .inl hp, rfl, hw.symm⟩, h.now o rw'⟩))
    | (rename_i xs i
       obtain ⟨p, us, rfl, hp, rp⟩ := ra.dct o
       simp only [keyOf, Option.bind_some, Option.bind_none, Option.map_none] at h
       first | exact h.elim | skip
       cases e : valD xs (.inr i) with
       | none => rw [e] at h; exact h.elim
       | some d =>
         rw [e] at h
         obtain ⟨w, hw, rw'⟩ := (rp.val).1 d e
         rw [rb.str]
         exact .inr (.inl ⟨p, w, rfl, .inl ⟨us, .inr i, .inl hp, rfl, hw.symm⟩, h.now o rw'⟩))
    | (rename_i xs i
       obtain ⟨p, us, rfl, ⟨es, n, h1, h2, h3, h4⟩, rp⟩ := ra.kdc
       cases e : xs.lookup i with
       | none => rw [e] at h; exact h.elim
       | some d =>
         rw [e] at h
         obtain ⟨w, hw, rw'⟩ := rp.get e
         obtain ⟨r, e1, rr⟩ := h4 i
         rw [hw] at rr
         obtain ⟨u0, rfl, ru⟩ : ∃ u0, r = some u0 ∧ RelV w u0 := by
           cases r with
           | none => exact rr.elim
           | some u0 => exact ⟨u0, rfl, rr⟩
         rw [rb.str]
         exact .inr (.inr ⟨p, i, w, rfl, rfl, ⟨es, n, u0, h1, h2 X.w, e1, ru⟩, h.now o rw'⟩))
    | (simp only [keyOf, Option.bind_none, Option.map_none] at h; exact h.elim)
def cutD (xs : List D) (lo hi : Option Int) : List D := (xs.drop (HT.sIx xs.length 0 lo)).take (HT.sIx xs.length xs.length hi - HT.sIx xs.length 0 lo)
theorem Reps.cut {K : PySem.W.Frag} {I : Hp} {vs : List V} {ds : List D} (r : Reps K I vs ds) (lo hi : Option Int) : Reps K I (cutV vs lo hi) (cutD ds lo hi) := by
  unfold cutV cutD
  rw [r.length]
  exact (r.drop _).take _
def slP (a : D) (lo hi : Option Int) : Option RV := match a with
  | .lst xs => some (.fr (.lst (cutD xs lo hi)))
  | .seq xs => some (.fr (.lst (cutD xs lo hi)))
  | .tup xs => some (.val (.tup (cutD xs lo hi)))
  | .str z => if z.length ≤ sizeLine then some (.val (.str (cutS z lo hi))) else none
  | _ => none
def optF (o : Option Ft) (k : Option Int → Sg → Res RV) : Sg → Res RV := fun g => match o with
  | none => k none g
  | some f => (settle (f g)).bind fun x g1 => match deref g1 x with
    | some (.int i) => k (some i) g1
    | _ => .stuck
def slF (fa : Ft) (lo hi : Option Ft) : Ft := fun g => (settle (fa g)).bind fun x g1 => optF lo (fun l g2 => optF hi (fun h g3 => lift1 (fun d => slP d l h) x g3) g2) g1
inductive VO (X : Cx) (W : WX) : Option Expr → Option Ft → Prop
  | none : VO X W none none
  | some {e : Expr} {f : Ft} (h : VE X W e f) : VO X W (some e) (some f)
theorem VO.po {e : Option Expr} {f : Option Ft} (h : VO X W e f) : ∃ t, PO X e t ∧ ∀ (σ : L2.St) (H : Hp) (I : Hp) (g : Sg) (k : Option Int → Sg → Res RV) (Q : VK) (R : Option Int → Hp → Prop), Ok X.K ⟨I, σ, H, g⟩ → Rem X.K W (RvR X.K) ⟨I, σ, H, g⟩ (optF f k g) Q →
    (∀ o H1 I1 g1, Ok X.K ⟨I1, σ, H1, g1⟩ → Go ⟨I, σ, H, g⟩ ⟨I1, σ, H1, g1⟩ → Rem X.K W (RvR X.K) ⟨I1, σ, H1, g1⟩ (k o g1) Q → R o H1) → t σ H R := by
  cases h with
  | none => exact ⟨_, po_none, fun σ H I g k Q R o r m => m Option.none H I g o (Go.refl _) r⟩
  | some h =>
    refine ⟨_, po_some h.pe, fun σ H I g k Q R o r m => ⟨I, g, o, Rem.settle ((Rem.bind (R := RvR X.K) r).mono ?_)⟩⟩
    rintro v H1 ⟨I1, g1, x, o1, y1, rx, r1⟩
    split at r1
    · rename_i i e
      exact ⟨i, (deref_rd o1 rx e).int, m _ _ I1 g1 o1 y1 r1⟩
    · exact r1.elim
theorem ve_slice {e : Expr} {lo hi : Option Expr} {fe : Ft} {fl fh : Option Ft} {pos p2 : Pos} (he : VE X W e fe) (hl : VO X W lo fl) (hh : VO X W hi fh) : VE X W (.Subscript e (.Slice lo hi none p2) pos) (slF fe fl fh) := by
  obtain ⟨tl, pl, kl⟩ := hl.po
  obtain ⟨th, ph, kh⟩ := hh.po
  refine ⟨pe_imp (pe_slice ((sl_list (X := X)).or ((sl_tupA (X := X)).or sl_str)) he.pe pl ph) fun σ H Q ⟨I, g, o, r⟩ => ?_⟩
  refine ⟨I, g, o, Rem.settle ((Rem.bind (R := RvR X.K) r).mono ?_)⟩
  rintro v H1 ⟨I1, g1, x, o1, y1, rx, r1⟩
  refine kl σ H1 I1 g1 _ _ _ o1 r1 fun l H2 I2 g2 o2 y2 r2 => ?_
  refine kh σ H2 I2 g2 _ _ _ o2 r2 fun u H3 I3 g3 o3 y3 r3 => ?_
  obtain ⟨d, rd, h⟩ := lift1_gives (c := ⟨I3, σ, H3, g3⟩) o3 (RvR.on (c1 := ⟨I1, σ, H1, g1⟩) o3 rfl (y2.trans y3) rx) r3
  cases d <;> simp only [slP] at h <;> first | exact h.elim | skip
  · rename_i z
    split at h
    · exact .inr (.inr ⟨z, rd.str, by assumption, h.now o3 (.str _)⟩)
    · exact h.elim
  · rename_i xs
    obtain ⟨p, us, rfl, hp, rp⟩ := rd.lst o3
    exact .inl ⟨p, us, rfl, SqL.of hp, fun q hq => h.fresh o3 ⟨hq⟩ (Xb.new hq) ⟨_, upd_same, rp.cut l u⟩⟩
  · rename_i xs
    obtain ⟨p, us, rfl, hp, rp⟩ := rd.seq o3
    exact .inl ⟨p, us, rfl, hp, fun q hq => h.fresh o3 ⟨hq⟩ (Xb.new hq) ⟨_, upd_same, rp.cut l u⟩⟩
  · rename_i xs
    obtain ⟨p, us, rfl, hp, rp⟩ := rd.tup o3
    refine .inr (.inl ⟨p, us, rfl, hp, fun hw => ?_, fun hw q hq => h.froz o3 ⟨hq⟩ (Xb.new hq) upd_same .tup fun I' l' e => .tup (SqT.of e) ((rp.cut l u).mono l')⟩)
    have e : cutD xs l u = xs := by
      unfold cutD
      rw [rp.length] at hw
      rw [hw.1, hw.2, List.drop_zero, Nat.sub_zero, List.take_length]
    rw [e] at h
    rcases rd with rd | ⟨_, _, rd⟩
    · exact h.now o3 rd
    · exact rd.elim
def evA : List Ft → Sg → Res (List RV)
  | [], g => .ok [] g
  | f :: fs, g => (settle (f g)).bind fun x g1 => (evA fs g1).bind fun xs g2 => .ok (x :: xs) g2
def RvsR (K : PySem.W.Frag) : Rel (List V) (List RV) := fun _ c vs rs => Paired (fun v r => ∃ c', RvR K c' c v r ∧ ∀ d, r ≠ .fr d) vs rs
instance (K : PySem.W.Frag) : GoR (RvsR K) := ⟨fun _ h => h⟩
def rdA (K : PySem.W.Frag) (W : WX) (fs : List Ft) : TA := fun σ H Q => ∃ I g, Ok K ⟨I, σ, H, g⟩ ∧ Rem K W (RvsR K) ⟨I, σ, H, g⟩ (evA fs g) Q
structure VA (X : Cx) (W : WX) (es : List Expr) (fs : List Ft) : Prop where
  pa : PA X es (rdA X.K W fs)
theorem RvsR.on {K : PySem.W.Frag} {c0 c1 c2 : Cfg} (o2 : Ok K c2) (e : c2.σ = c1.σ) (x : Go c1 c2) : ∀ {vs : List V} {rs : List RV}, RvsR K c0 c1 vs rs → RvsR K c0 c2 vs rs
  | _, _, .nil => .nil
  | _, _, .cons ⟨c', h, n⟩ t => .cons ⟨c', RvR.on o2 e x h, n⟩ (RvsR.on (c0 := c0) o2 e x t)
theorem settle_nofr {r : Res RV} {x : RV} {g : Sg} (h : settle r = .ok x g) : ∀ d, x ≠ .fr d := by
  intro d e
  subst e
  cases r with
  | ok y g' => cases y <;> cases h
  | exn c fs g' => cases h
  | stuck => cases h
theorem va_nil : VA X W [] [] := ⟨⟨fun pos pins s σ H Q I ⟨J, g, o, r⟩ => pa_nil.run pos pins s σ H Q I (r J H [] o (Go.refl _) .nil)⟩⟩
theorem pa_imp {es : List Expr} {t t' : TA} (h : PA X es t) (k : ∀ σ H Q, t' σ H Q → t σ H Q) : PA X es t' := ⟨fun pos pins s σ H Q I hw => h.run pos pins s σ H Q I (k σ H Q hw)⟩
theorem va_cons {e : Expr} {es : List Expr} {f : Ft} {fs : List Ft} (he : VE X W e f) (hs : VA X W es fs) (hst : starEach (e :: es) X.env = (false, eval e X.env) :: starEach es X.env := by rfl) : VA X W (e :: es) (f :: fs) := by
  refine ⟨pa_imp (pa_cons he.pe hs.pa hst) fun σ H Q ⟨I, g, o, r⟩ => ?_⟩
  refine ⟨I, g, o, Rem.settle ?_⟩
  have nf : ∀ x g', settle (f g) = .ok x g' → ∀ d, x ≠ .fr d := fun x g' h => settle_nofr h
  have r' : Rem X.K W (RvsR X.K) ⟨I, σ, H, g⟩ ((settle (f g)).bind fun x g1 => (evA fs g1).bind fun xs g2 => .ok (x :: xs) g2) Q := r
  revert nf r'
  generalize settle (f g) = sr
  intro nf r'
  cases sr with
  | stuck => exact r'
  | exn c fs' g' => exact r'
  | ok x g1 =>
    intro I1 H1 v o1 y1 rx
    have r1 : Rem X.K W (RvsR X.K) ⟨I1, σ, H1, g1⟩ ((evA fs g1).bind fun xs g2 => .ok (x :: xs) g2) Q := Rem.go (c0 := ⟨I, σ, H, g⟩) (c1 := ⟨I1, σ, H1, g1⟩) y1 rfl r'
    refine ⟨I1, g1, o1, (Rem.bind (R := RvsR X.K) r1).mono ?_⟩
    rintro vs H2 ⟨I2, g2, xs, o2, y2, rxs, r2⟩
    exact r2 I2 H2 (v :: vs) o2 (Go.refl _) (.cons ⟨_, RvR.on (c1 := ⟨I1, σ, H1, g1⟩) o2 rfl y2 rx, nf x g1 rfl⟩ rxs)
def frz1 (x : RV) (g : Sg) : Option (D × Sg) := match x with
  | .val d => some (d, g)
  | .fr d => some (d, g)
  | .at_ i => match g[i]? with
    | some (.own t d) => some (d, g.set i (.val t d))
    | some (.val _ d) => some (d, g)
    | _ => none
def frzA : List RV → Sg → Option (List D × Sg)
  | [], g => some ([], g)
  | x :: xs, g => (frz1 x g).bind fun p => (frzA xs p.2).map fun q => (p.1 :: q.1, q.2)
theorem get_set_of {α : Type} {l : List α} {i j : Nat} {x y : α} (h : (l.set i x)[j]? = some y) : (j = i ∧ y = x) ∨ (j ≠ i ∧ l[j]? = some y) := by
  by_cases e : i = j
  · subst e
    rw [List.getElem?_set] at h
    split at h
    · split at h
      · cases h; exact .inl ⟨rfl, rfl⟩
      · cases h
    · exact absurd rfl ‹¬ i = i›
  · rw [List.getElem?_set_ne e] at h
    exact .inr ⟨fun q => e q.symm, h⟩
theorem Ok.frzSl {K : PySem.W.Frag} {I H : Hp} {σ : L2.St} {g : Sg} {i : Nat} {t : Bool} {d : D} (o : Ok K ⟨I, σ, H, g⟩) (h : g[i]? = some (.own t d)) :
    ∃ a u, σ[i]? = some (some (.ref a)) ∧ H a = some u ∧ I a = none ∧ Ok K ⟨upd I a u, σ, H, g.set i (.val t d)⟩ ∧ Go ⟨I, σ, H, g⟩ ⟨upd I a u, σ, H, g.set i (.val t d)⟩ ∧ Rep K (upd I a u) (.ref a) d := by
  obtain ⟨v, e1, a, e2, r, n⟩ := o.sl i _ h
  subst e2
  have e1 : σ[i]? = some (some (V.ref a)) := e1
  obtain ⟨u, hu⟩ := r.some
  have rr : Rep K (upd I a u) (.ref a) d := r.rep (Le.upd n) (upd_same.trans hu.symm)
  have sub : ∀ (j : Nat) (t' : Bool) (d' : D), (g.set i (.val t d))[j]? = some (.own t' d') → j ≠ i ∧ g[j]? = some (.own t' d') := fun j t' d' q => by
    rcases get_set_of q with ⟨_, q⟩ | q
    · cases q
    · exact q
  have nea : ∀ (j : Nat) (t' : Bool) (d' : D) (b : Addr), j ≠ i → g[j]? = some (.own t' d') → σ[j]? = some (some (.ref b)) → b ≠ a := fun j t' d' b nj q qb z => by
    subst z
    exact nj (o.dist j i t' t d' d q h (qb.trans e1.symm))
  refine ⟨a, u, e1, hu, n, ⟨fun b w e => ?_, fun j s q => ?_, fun j k t' t'' d' d'' q q' e => ?_, o.nt.upd (r.ntb hu), o.tab.mono (Le.upd n) fun _ _ e => e⟩, ⟨Le.upd n, fun b w e _ _ => e, fun b e => e, fun b e e' => ?_, fun b q => ?_, fun b q => ?_, fun j s' q tg => ?_⟩, rr⟩
  · have e : upd I a u b = some w := e
    by_cases z : b = a
    · subst z; rw [upd_same] at e; rw [← e]; exact hu
    · rw [upd_ne z] at e; exact o.sub b w e
  · rcases get_set_of q with ⟨rfl, rfl⟩ | ⟨nj, q⟩
    · exact ⟨_, e1, _, rfl, rr⟩
    · obtain ⟨v', e', r'⟩ := o.sl j s q
      refine ⟨v', e', r'.mono (Le.upd n) fun b t' d' es ev => ⟨rfl, ?_⟩⟩
      subst es ev
      obtain ⟨b', eb, _, nb⟩ := r'
      cases eb
      show upd I a u b = none
      rw [upd_ne (nea j t' d' b nj q e')]
      exact nb
  · exact o.dist j k t' t'' d' d'' (sub j t' d' q).2 (sub k t'' d'' q').2 e
  · by_cases z : b = a
    · subst z; exact .inl ⟨i, t, d, h, e1⟩
    · exact absurd (show upd I a u b = none by rw [upd_ne z]; exact e) e'
  · obtain ⟨j, t', d', q1, q2⟩ := q
    exact .inl ⟨j, t', d', (sub j t' d' q1).2, q2⟩
  · obtain ⟨j, d', q1, q2⟩ := q
    exact .inl ⟨j, d', (sub j false d' q1).2, q2⟩
  · rcases get_set_of q with ⟨rfl, rfl⟩ | ⟨nj, q⟩
    · exact ⟨⟨_, h, tg⟩, rfl⟩
    · exact ⟨⟨s', q, tg⟩, rfl⟩
theorem frz1_ok {K : PySem.W.Frag} {c0 c' : Cfg} {I H : Hp} {σ : L2.St} {g g' : Sg} {v : V} {x : RV} {d : D} (o : Ok K ⟨I, σ, H, g⟩) (rx : RvR K c' ⟨I, σ, H, g⟩ v x) (nf : ∀ d, x ≠ .fr d) (h : frz1 x g = some (d, g')) :
    ∃ I', Ok K ⟨I', σ, H, g'⟩ ∧ Go ⟨I, σ, H, g⟩ ⟨I', σ, H, g'⟩ ∧ Rep K I' v d := by
  cases x with
  | val d' => cases h; exact ⟨I, o, Go.refl _, rx⟩
  | fr d' => exact absurd rfl (nf d')
  | at_ i =>
    have rx : σ[i]? = some (some v) := rx
    simp only [frz1] at h
    split at h
    · rename_i t d' q
      cases h
      obtain ⟨a, u, e1, _, _, o', y', r'⟩ := o.frzSl q
      rw [rx] at e1
      cases e1
      exact ⟨_, o', y', r'⟩
    · rename_i t d' q
      cases h
      obtain ⟨w, e1, w', e2, r⟩ := o.sl i _ q
      have e1 : σ[i]? = some w := e1
      rw [rx] at e1
      cases e1
      cases e2
      exact ⟨I, o, Go.refl _, r⟩
    · cases h
theorem frzA_ok {K : PySem.W.Frag} {c0 : Cfg} {H : Hp} {σ : L2.St} : ∀ {xs : List RV} {vs : List V} {I : Hp} {g g' : Sg} {ds : List D}, Ok K ⟨I, σ, H, g⟩ → RvsR K c0 ⟨I, σ, H, g⟩ vs xs → frzA xs g = some (ds, g') →
    ∃ I', Ok K ⟨I', σ, H, g'⟩ ∧ Go ⟨I, σ, H, g⟩ ⟨I', σ, H, g'⟩ ∧ Reps K I' vs ds
  | [], _, I, g, g', ds, o, .nil, h => by cases h; exact ⟨I, o, Go.refl _, .nil⟩
  | x :: xs, v :: vs, I, g, g', ds, o, .cons ⟨c', rx, nf⟩ t, h => by
    simp only [frzA, Option.bind_eq_some_iff, Option.map_eq_some_iff] at h
    obtain ⟨⟨d, g1⟩, h1, ⟨ds', g2⟩, h2, h3⟩ := h
    cases h3
    obtain ⟨I1, o1, y1, r1⟩ := frz1_ok (c0 := c0) o rx nf h1
    obtain ⟨I2, o2, y2, r2⟩ := frzA_ok (c0 := c0) o1 (RvsR.on (c0 := c0) (c1 := ⟨I, σ, H, g⟩) o1 rfl y1 t) h2
    exact ⟨I2, o2, y1.trans y2, .cons (r1.mono y2.sub) r2⟩
end
end Vl
set_option Elab.async false
set_option linter.all false
set_option maxRecDepth 100000
set_option maxHeartbeats 2000000
namespace Vl
open PySem PySem.Spec PyProof.Rows L2 My
section
variable {X : Cx} {W : WX}
def valsF (fs : List Ft) (k : List D → Option RV) : Ft := fun g => (evA fs g).bind fun xs g1 => match frzA xs g1 with
  | some (ds, g2) => (match k ds with | some r => .ok r g2 | none => .stuck)
  | none => .stuck
theorem valsF_rd {fs : List Ft} {k : List D → Option RV} {σ : L2.St} {H : Hp} {Q : VK} {R : List V → Hp → Prop} (h : rdE X.K W (valsF fs k) σ H Q)
    (hr : ∀ c vs ds, c.σ = σ → Ok X.K c → Reps X.K c.I vs ds → Gives X.K c (k ds) Q → R vs c.H) : rdA X.K W fs σ H R := by
  obtain ⟨I, g, o, r⟩ := h
  refine ⟨I, g, o, (Rem.bind (R := RvsR X.K) r).mono ?_⟩
  rintro vs H1 ⟨I1, g1, xs, o1, y1, rx, r1⟩
  dsimp only at r1
  cases e : frzA xs g1 with
  | none => rw [e] at r1; exact r1.elim
  | some p =>
    obtain ⟨ds, g2⟩ := p
    rw [e] at r1
    obtain ⟨I2, o2, y2, rr⟩ := frzA_ok o1 rx e
    exact hr ⟨I2, σ, H1, g2⟩ vs ds rfl o2 rr (gives_of (W := W) (Rem.go (c0 := ⟨I1, σ, H1, g1⟩) (c1 := ⟨I2, σ, H1, g2⟩) y2 rfl r1))
def lstP (ds : List D) : Option RV := if ds.length ≤ sizeLine then some (.fr (.lst ds)) else none
def tupP (ds : List D) : Option RV := if ds.length ≤ sizeLine then some (.val (.tup ds)) else none
theorem ve_lst {es : List Expr} {fs : List Ft} {pos : Pos} (ha : VA X W es fs) : VE X W (.List es pos) (valsF fs lstP) := by
  refine ⟨pe_imp (px_lst ha.pa) fun σ H Q q => valsF_rd q fun c vs ds _ o rr h => ?_⟩
  unfold lstP at h
  split at h
  · exact ⟨by rw [rr.length]; assumption, fun p H' fr x hp => h.fresh o fr x ⟨vs, hp, rr⟩⟩
  · exact h.elim
theorem ve_tup {es : List Expr} {fs : List Ft} {pos : Pos} {k : Nat} (ha : VA X W es fs) : VE X W (.Tuple es k pos) (valsF fs tupP) := by
  refine ⟨pe_imp (px_tup ha.pa) fun σ H Q q => valsF_rd q fun c vs ds _ o rr h => ?_⟩
  unfold tupP at h
  split at h
  · exact ⟨by rw [rr.length]; assumption, fun p H' fr x hp => h.froz o fr x hp .tup fun I' l e => .tup (SqT.of e) (rr.mono l)⟩
  · exact h.elim
def derefA (g : Sg) : List RV → Option (List D)
  | [] => some []
  | x :: xs => (deref g x).bind fun d => (derefA g xs).map (d :: ·)
def callF (p : List D → Option RV) (fs : List Ft) : Ft := fun g => (evA fs g).bind fun xs g1 => match derefA g1 xs with
  | some ds => (match p ds with | some r => .ok r g1 | none => .stuck)
  | none => .stuck
structure PCl (X : Cx) (f : Value) (p : List D → Option RV) : Prop where
  ex : ∃ r : List V → Hp → VK → Prop, CallR X f r ∧ ∀ c vs ds Q, Ok X.K c → Paired (RdD X.K c) vs ds → Gives X.K c (p ds) Q → r vs c.H Q
theorem derefA_rd {K : PySem.W.Frag} {c0 c : Cfg} (o : Ok K c) : ∀ {vs : List V} {xs : List RV} {ds : List D}, RvsR K c0 c vs xs → derefA c.g xs = some ds → Paired (RdD K c) vs ds
  | [], [], ds, .nil, h => by cases h; exact .nil
  | v :: vs, x :: xs, ds, .cons ⟨c', rx, nf⟩ t, h => by
    simp only [derefA, Option.bind_eq_some_iff, Option.map_eq_some_iff] at h
    obtain ⟨d, h1, ds', h2, rfl⟩ := h
    exact .cons (deref_rd o rx h1) (derefA_rd (c0 := c0) o t h2)
theorem callF_rd {fs : List Ft} {p : List D → Option RV} {σ : L2.St} {H : Hp} {Q : VK} {R : List V → Hp → Prop} (h : rdE X.K W (callF p fs) σ H Q)
    (hr : ∀ c vs ds, c.σ = σ → Ok X.K c → Paired (RdD X.K c) vs ds → Gives X.K c (p ds) Q → R vs c.H) : rdA X.K W fs σ H R := by
  obtain ⟨I, g, o, r⟩ := h
  refine ⟨I, g, o, (Rem.bind (R := RvsR X.K) r).mono ?_⟩
  rintro vs H1 ⟨I1, g1, xs, o1, y1, rx, r1⟩
  dsimp only at r1
  cases e : derefA g1 xs with
  | none => rw [e] at r1; exact r1.elim
  | some ds =>
    rw [e] at r1
    exact hr ⟨I1, σ, H1, g1⟩ vs ds rfl o1 (derefA_rd (c := ⟨I1, σ, H1, g1⟩) o1 rx e) (gives_of (W := W) r1)
section
variable {p p1 : Pos} {pos : Pos} {x : Str} {e : Expr} {es : List Expr} {fs : List Ft} {id T : String} {pf : List D → Option RV}
theorem ve_callB (hc : PCl X (.builtin id) pf) (hg : Gl X x) (hm : X.mg x = none) (hv : bootBuiltins x = some (.builtin id)) (ha : VA X W (e :: es) fs) (hn : x ≠ "__name__" := by decide) (hdb : (x == ("__debug__" : Str)) = false := by decide)
    (he : starEach (e :: es) X.env = (false, eval e X.env) :: starEach es X.env := by rfl) (hpl : (backTo pos (starEach es X.env)).any (·.1) = false := by rfl) : VE X W (.Call (.Name x p) (e :: es) [] pos) (callF pf fs) := by
  obtain ⟨r, h1, h2⟩ := hc.ex
  exact ⟨pe_imp (pe_callB h1 hg hm hv ha.pa hn hdb he hpl) fun σ H Q q => callF_rd q fun c vs ds _ o rr h => h2 c vs ds Q o rr h⟩
theorem ve_callTy (hc : PCl X (.type T) pf) (hg : Gl X x) (hm : X.mg x = none) (hv : bootBuiltins x = some (.type T)) (ha : VA X W (e :: es) fs) (hn : x ≠ "__name__" := by decide) (hdb : (x == ("__debug__" : Str)) = false := by decide)
    (he : starEach (e :: es) X.env = (false, eval e X.env) :: starEach es X.env := by rfl) (hpl : (backTo pos (starEach es X.env)).any (·.1) = false := by rfl) : VE X W (.Call (.Name x p) (e :: es) [] pos) (callF pf fs) := by
  obtain ⟨r, h1, h2⟩ := hc.ex
  exact ⟨pe_imp (pe_callTy h1 hg hm hv ha.pa hn hdb he hpl) fun σ H Q q => callF_rd q fun c vs ds _ o rr h => h2 c vs ds Q o rr h⟩
end
theorem paired1 {K : PySem.W.Frag} {c : Cfg} {vs : List V} {d : D} (h : Paired (RdD K c) vs [d]) : ∃ v, vs = [v] ∧ RdD K c v d := by
  cases h with
  | cons a t => cases t; exact ⟨_, rfl, a⟩
theorem paired2 {K : PySem.W.Frag} {c : Cfg} {vs : List V} {d e : D} (h : Paired (RdD K c) vs [d, e]) : ∃ v u, vs = [v, u] ∧ RdD K c v d ∧ RdD K c u e := by
  cases h with
  | cons a t =>
    obtain ⟨u, rfl, b⟩ := paired1 t
    exact ⟨_, _, rfl, a, b⟩
def lenP : List D → Option RV
  | [.lst xs] => vI xs.length
  | [.seq xs] => vI xs.length
  | [.tup xs] => vI xs.length
  | [.dct xs] => vI xs.length
  | [.str z] => if z.length ≤ sizeLine then vI z.length else none
  | _ => none
theorem RepK.length {K : PySem.W.Frag} {I : Hp} : ∀ {v : List (Key × V)} {d : List (D × D)}, RepK K I v d → v.length = d.length
  | _, _, .nil => rfl
  | _, _, .cons _ t => congrArg Nat.succ t.length
theorem c_len : PCl X (.builtin "len") lenP := by
  refine ⟨_, (call_len_seq (X := X)).or ((call_len_str (X := X)).or call_lenD), fun c vs ds Q o rr h => ?_⟩
  match ds, h with
  | [.lst xs], h =>
    obtain ⟨v, rfl, r⟩ := paired1 rr
    obtain ⟨p, us, rfl, hp, rp⟩ := r.lst o
    exact .inl ⟨p, us, rfl, .inl (SqL.of hp), by rw [rp.length]; exact h.now o (.int _)⟩
  | [.seq xs], h =>
    obtain ⟨v, rfl, r⟩ := paired1 rr
    obtain ⟨p, us, rfl, hp, rp⟩ := r.seq o
    exact .inl ⟨p, us, rfl, .inl hp, by rw [rp.length]; exact h.now o (.int _)⟩
  | [.tup xs], h =>
    obtain ⟨v, rfl, r⟩ := paired1 rr
    obtain ⟨p, us, rfl, hp, rp⟩ := r.tup o
    exact .inl ⟨p, us, rfl, .inr hp, by rw [rp.length]; exact h.now o (.int _)⟩
  | [.dct xs], h =>
    obtain ⟨v, rfl, r⟩ := paired1 rr
    obtain ⟨p, us, rfl, hp, rp⟩ := r.dct o
    exact .inr (.inr ⟨p, us, rfl, hp, by rw [rp.length]; exact h.now o (.int _)⟩)
  | [.str z], h =>
    obtain ⟨v, rfl, r⟩ := paired1 rr
    simp only [lenP] at h
    split at h
    · exact .inr (.inl ⟨z, by rw [r.str], by assumption, h.now o (.int _)⟩)
    · exact h.elim
def intP : List D → Option RV
  | [.int i] => vI i
  | [.bl k] => vI (if k = true then 1 else 0)
  | [.str a] => if a.length ≤ 640 then (PySem.intText? a).map fun n => .val (.int n) else none
  | _ => none
theorem c_int : PCl X (.type "int") intP := by
  refine ⟨_, (call_int1 (X := X)).or call_int_str, fun c vs ds Q o rr h => ?_⟩
  match ds, h with
  | [.int i], h =>
    obtain ⟨v, rfl, r⟩ := paired1 rr
    exact .inl (.inl ⟨i, by rw [r.int], h.now o (.int _)⟩)
  | [.bl k], h =>
    obtain ⟨v, rfl, r⟩ := paired1 rr
    exact .inl (.inr ⟨k, by rw [r.bl], h.now o (.int _)⟩)
  | [.str a], h =>
    obtain ⟨v, rfl, r⟩ := paired1 rr
    simp only [intP] at h
    split at h
    · cases e : PySem.intText? a with
      | none => rw [e] at h; exact h.elim
      | some n => rw [e] at h; exact .inr ⟨a, n, by rw [r.str], e, by assumption, h.now o (.int _)⟩
    · exact h.elim
def listP : List D → Option RV
  | [.lst xs] => some (.fr (.lst xs))
  | [.seq xs] => some (.fr (.lst xs))
  | [.tup xs] => some (.fr (.lst xs))
  | _ => none
theorem c_list : PCl X (.type "list") listP := by
  refine ⟨_, cx_list, fun c vs ds Q o rr h => ?_⟩
  match ds, h with
  | [.lst xs], h =>
    obtain ⟨v, rfl, r⟩ := paired1 rr
    obtain ⟨p, us, rfl, hp, rp⟩ := r.lst o
    exact ⟨p, rfl, us, .inl (SqL.of hp), fun q H' fr x hq => h.fresh o fr x ⟨us, hq, rp⟩⟩
  | [.seq xs], h =>
    obtain ⟨v, rfl, r⟩ := paired1 rr
    obtain ⟨p, us, rfl, hp, rp⟩ := r.seq o
    exact ⟨p, rfl, us, .inl hp, fun q H' fr x hq => h.fresh o fr x ⟨us, hq, rp⟩⟩
  | [.tup xs], h =>
    obtain ⟨v, rfl, r⟩ := paired1 rr
    obtain ⟨p, us, rfl, hp, rp⟩ := r.tup o
    exact ⟨p, rfl, us, .inr hp, fun q H' fr x hq => h.fresh o fr x ⟨us, hq, rp⟩⟩
def tupleP : List D → Option RV
  | [.lst xs] => some (.val (.tup xs))
  | [.seq xs] => some (.val (.tup xs))
  | [.tup xs] => some (.val (.tup xs))
  | _ => none
theorem c_tuple : PCl X (.type "tuple") tupleP := by
  refine ⟨_, (cx_tuple (X := X)).or call_tupleT, fun c vs ds Q o rr h => ?_⟩
  match ds, h with
  | [.lst xs], h =>
    obtain ⟨v, rfl, r⟩ := paired1 rr
    obtain ⟨p, us, rfl, hp, rp⟩ := r.lst o
    exact .inl ⟨p, rfl, us, SqL.of hp, fun q H' fr x hq => h.froz o fr x hq .tup fun I' l e => .tup (SqT.of e) (rp.mono l)⟩
  | [.seq xs], h =>
    obtain ⟨v, rfl, r⟩ := paired1 rr
    obtain ⟨p, us, rfl, hp, rp⟩ := r.seq o
    exact .inl ⟨p, rfl, us, hp, fun q H' fr x hq => h.froz o fr x hq .tup fun I' l e => .tup (SqT.of e) (rp.mono l)⟩
  | [.tup xs], h =>
    obtain ⟨v, rfl, r⟩ := paired1 rr
    obtain ⟨p, us, rfl, hp, rp⟩ := r.tup o
    refine .inr ⟨p, us, rfl, hp, ?_⟩
    rcases r with r | ⟨_, _, r⟩
    · exact h.now o r
    · exact r.elim
def maxL : List Int → Int
  | [] => 0
  | [a] => a
  | a :: r => if maxL r < a then a else maxL r
def minL : List Int → Int
  | [] => 0
  | [a] => a
  | a :: r => if a < minL r then a else minL r
theorem minL_spec : ∀ {ns : List Int}, 0 < ns.length → minL ns ∈ ns ∧ ∀ y ∈ ns, minL ns ≤ y
  | [a], _ => ⟨.head _, fun y h => by simp at h; subst h; exact Int.le_refl _⟩
  | a :: b :: r, _ => by
    obtain ⟨h1, h2⟩ := minL_spec (ns := b :: r) (by simp)
    show (if a < minL (b :: r) then a else minL (b :: r)) ∈ a :: b :: r ∧ ∀ y ∈ a :: b :: r, (if a < minL (b :: r) then a else minL (b :: r)) ≤ y
    split
    · refine ⟨.head _, fun y h => ?_⟩
      rcases List.mem_cons.mp h with rfl | h
      · exact Int.le_refl _
      · have := h2 y h; omega
    · refine ⟨.tail _ h1, fun y h => ?_⟩
      rcases List.mem_cons.mp h with rfl | h
      · omega
      · exact h2 y h
def maxP : List D → Option RV
  | [.int i, .int j] => vI (if j > i then j else i)
  | [.lst xs] => (intsD xs).bind fun ns => if 0 < ns.length then vI (maxL ns) else none
  | _ => none
def minP : List D → Option RV
  | [.int i, .int j] => vI (if j < i then j else i)
  | [.lst xs] => (intsD xs).bind fun ns => if 0 < ns.length then vI (minL ns) else none
  | _ => none
theorem c_min (hc : X.calm = true) : PCl X (.builtin "min") minP := by
  refine ⟨_, (call_min2 hc).or (cr_min hc), fun c vs ds Q o rr h => ?_⟩
  match ds, h with
  | [.int i, .int j], h =>
    obtain ⟨v, u, rfl, r, r'⟩ := paired2 rr
    exact .inl ⟨i, j, by rw [r.int, r'.int], h.now o (.int _)⟩
  | [.lst xs], h =>
    obtain ⟨v, rfl, r⟩ := paired1 rr
    obtain ⟨p, us, rfl, hp, rp⟩ := r.lst o
    simp only [minP] at h
    cases e : intsD xs with
    | none => rw [e] at h; exact h.elim
    | some ns =>
      rw [e] at h
      simp only [Option.bind_some] at h
      split at h
      · rename_i hl
        rw [reps_ints rp e] at hp
        refine .inr ⟨p, ns, rfl, SqL.of hp, hl, fun m m1 m2 => ?_⟩
        obtain ⟨k1, k2⟩ := minL_spec hl
        have : m = minL ns := Int.le_antisymm (m2 _ k1) (k2 m m1)
        subst this
        exact h.now o (.int _)
      · exact h.elim
def blsD : List D → Option (List Bool)
  | [] => some []
  | .bl i :: r => (blsD r).map (i :: ·)
  | _ => none
theorem reps_bls {K : PySem.W.Frag} {I : Hp} : ∀ {vs : List V} {ds : List D} {ns : List Bool}, Reps K I vs ds → blsD ds = some ns → vs = ns.map V.bl
  | _, _, _, .nil, e => by cases e; rfl
  | _, d :: ds, ns, .cons h t, e => by
    cases d <;> simp only [blsD, Option.map_eq_some_iff] at e <;> first | cases e | skip
    rename_i ms
    obtain ⟨e1, rfl⟩ := ms
    cases h
    rw [List.map_cons, reps_bls t e1]
def anyP : List D → Option RV
  | [.lst xs] => (blsD xs).map fun ns => .val (.bl (ns.any id))
  | _ => none
def allP : List D → Option RV
  | [.lst xs] => (blsD xs).map fun ns => .val (.bl (ns.all id))
  | _ => none
theorem c_any (hc : X.calm = true) : PCl X (.builtin "any") anyP := by
  refine ⟨_, cr_any hc, fun c vs ds Q o rr h => ?_⟩
  match ds, h with
  | [.lst xs], h =>
    obtain ⟨v, rfl, r⟩ := paired1 rr
    obtain ⟨p, us, rfl, hp, rp⟩ := r.lst o
    simp only [anyP] at h
    cases e : blsD xs with
    | none => rw [e] at h; exact h.elim
    | some ns =>
      rw [e] at h
      rw [reps_bls rp e] at hp
      exact ⟨p, ns, rfl, SqL.of hp, h.now o (.bl _)⟩
theorem c_all (hc : X.calm = true) : PCl X (.builtin "all") allP := by
  refine ⟨_, cr_all hc, fun c vs ds Q o rr h => ?_⟩
  match ds, h with
  | [.lst xs], h =>
    obtain ⟨v, rfl, r⟩ := paired1 rr
    obtain ⟨p, us, rfl, hp, rp⟩ := r.lst o
    simp only [allP] at h
    cases e : blsD xs with
    | none => rw [e] at h; exact h.elim
    | some ns =>
      rw [e] at h
      rw [reps_bls rp e] at hp
      exact ⟨p, ns, rfl, SqL.of hp, h.now o (.bl _)⟩
end
end Vl
set_option Elab.async false
set_option linter.all false
set_option maxRecDepth 100000
set_option maxHeartbeats 2000000
namespace Vl
open PySem PySem.Spec PyProof.Rows L2 My
inductive Rs where
  | nx (g : Sg) | rt (r : RV) (g : Sg) | bk (g : Sg) | ct (g : Sg) | exn (c : Str) (fs : List (Str × D)) (g : Sg) | stuck
abbrev Fs := Sg → Rs
def RtR (K : PySem.W.Frag) (c0 c : Cfg) (v : V) : RV → Prop
  | .val d => Rep K c.I v d
  | .at_ _ => False
  | .fr d => ∃ a, v = .ref a ∧ OwnAt K c.I c.H a d ∧ c.I a = none ∧ ¬ c.Own a ∧ (c0.OwnF a ∨ c0.H a = none)
def RemS (K : PySem.W.Frag) (W : WX) (c0 : Cfg) (r : Rs) (D : Ends) : Prop := match r with
  | .nx g => ∀ I σ H, Ok K ⟨I, σ, H, g⟩ → Go c0 ⟨I, σ, H, g⟩ → D.nx σ H
  | .bk g => ∀ I σ H, Ok K ⟨I, σ, H, g⟩ → Go c0 ⟨I, σ, H, g⟩ → D.bk σ H
  | .ct g => ∀ I σ H, Ok K ⟨I, σ, H, g⟩ → Go c0 ⟨I, σ, H, g⟩ → D.ct σ H
  | .rt r g => ∀ I σ H v, Ok K ⟨I, σ, H, g⟩ → Go c0 ⟨I, σ, H, g⟩ → RtR K c0 ⟨I, σ, H, g⟩ v r → D.rt v H
  | .exn x fs g => ∀ I σ H e, Ok K ⟨I, σ, H, g⟩ → Go c0 ⟨I, σ, H, g⟩ → XdAt K c0 ⟨I, σ, H, g⟩ e fs → W (.ref (He.ga K x)) (some e) σ H
  | .stuck => False
def rdS (K : PySem.W.Frag) (W : WX) (f : Fs) : TS := fun D σ H => ∃ I g, Ok K ⟨I, σ, H, g⟩ ∧ RemS K W ⟨I, σ, H, g⟩ (f g) D
structure VS (X : Cx) (W : WX) (st : Stmt) (f : Fs) : Prop where
  ps : PS X st (rdS X.K W f)
structure VSs (X : Cx) (W : WX) (st : List Stmt) (f : Fs) : Prop where
  pss : PSs X st (rdS X.K W f)
theorem RtR.go {K : PySem.W.Frag} {c0 c1 c2 : Cfg} {v : V} {r : RV} (x : Go c0 c1) (h : RtR K c1 c2 v r) : RtR K c0 c2 v r := by
  cases r with
  | val d => exact h
  | at_ i => exact h
  | fr d =>
    obtain ⟨a, e, o, n, w, z⟩ := h
    exact ⟨a, e, o, n, w, z.elim (fun z => x.ownf a z) fun z => .inr (x.dom a z)⟩
theorem RemS.go {K : PySem.W.Frag} {W : WX} {c0 c1 : Cfg} {r : Rs} {D : Ends} (x : Go c0 c1) (h : RemS K W c0 r D) : RemS K W c1 r D := by
  cases r with
  | nx g => exact fun I σ H o y => h I σ H o (x.trans y)
  | bk g => exact fun I σ H o y => h I σ H o (x.trans y)
  | ct g => exact fun I σ H o y => h I σ H o (x.trans y)
  | rt r g => exact fun I σ H v o y rv => h I σ H v o (x.trans y) (rv.go x)
  | exn c fs g => exact fun I σ H e o y rv => h I σ H e o (x.trans y) (rv.go x)
  | stuck => exact h
def bindE {α : Type} (r : Res α) (k : α → Sg → Rs) : Rs := match r with
  | .ok a g => k a g
  | .exn c fs g => .exn c fs g
  | .stuck => .stuck
theorem RemS.bindE {γ α : Type} {K : PySem.W.Frag} {W : WX} {R : Rel γ α} {c0 : Cfg} {r : Res α} {k : α → Sg → Rs} {D : Ends} (h : RemS K W c0 (bindE r k) D) :
    Rem K W R c0 r fun v H1 => ∃ I1 g1 x, Ok K ⟨I1, c0.σ, H1, g1⟩ ∧ Go c0 ⟨I1, c0.σ, H1, g1⟩ ∧ R c0 ⟨I1, c0.σ, H1, g1⟩ v x ∧ RemS K W c0 (k x g1) D := by
  cases r with
  | ok x g => exact fun I H v o y rv => ⟨I, g, x, o, y, rv, h⟩
  | exn c fs g => exact fun I H e o y rv => h I _ H e o y rv
  | stuck => exact h
def seqF (f k : Fs) : Fs := fun g => match f g with
  | .nx g1 => k g1
  | r => r
section
variable {X : Cx} {W : WX} {st : Stmt} {rest : List Stmt} {f k : Fs} {e : Expr} {fe : Ft} {pos : Pos}
theorem ps_imp' {e : Stmt} {t t' : TS} (h : PS X e t) (k : ∀ D σ H, t' D σ H → t D σ H) : PS X e t' := My.ps_imp h k
theorem vss_nil : VSs X W [] .nx := ⟨pss_imp pss_nil fun D σ H ⟨I, g, o, r⟩ => r I σ H o (Go.refl _)⟩
theorem vss_one (h : VS X W st f) : VSs X W [st] f := ⟨pss_one h.ps⟩
theorem vss_cons (h : VS X W st f) (hr : VSs X W rest k) : VSs X W (st :: rest) (seqF f k) := by
  refine ⟨pss_imp (pss_cons h.ps hr.pss) fun D σ H ⟨I, g, o, r⟩ => ⟨I, g, o, ?_⟩⟩
  unfold seqF at r
  cases q : f g with
  | nx g1 => rw [q] at r; exact fun I1 σ1 H1 o1 y1 => ⟨I1, g1, o1, RemS.go y1 r⟩
  | rt x g1 => rw [q] at r; exact r
  | bk g1 => rw [q] at r; exact r
  | ct g1 => rw [q] at r; exact r
  | exn c fs g1 => rw [q] at r; exact r
  | stuck => rw [q] at r; exact r
theorem vs_break : VS X W (.Break pos) .bk := ⟨ps_imp' ps_break fun D σ H ⟨I, g, o, r⟩ => r I σ H o (Go.refl _)⟩
def exprF (f : Ft) : Fs := fun g => bindE (f g) fun _ g1 => .nx g1
theorem vs_expr (h : VE X W e fe) (hs : swapsWith e none pos.line X.env = pure false := by rfl) : VS X W (.Expr e pos) (exprF fe) := ⟨ps_imp' (ps_expr h.pe hs) fun D σ H ⟨I, g, o, r⟩ => by
  refine ⟨I, g, o, (RemS.bindE (R := RvR X.K) r).mono ?_⟩
  rintro v H1 ⟨I1, g1, x, o1, y1, rx, r1⟩
  exact r1 I1 σ H1 o1 y1⟩
def retK (x : RV) (g : Sg) : Rs := match x with
  | .val d => .rt (.val d) g
  | .fr d => .rt (.fr d) g
  | .at_ i => match g[i]? with
    | some (.own false d) => .rt (.fr d) (g.set i .un)
    | some (.own true d) => .rt (.val d) (g.set i (.val true d))
    | some (.val _ d) => .rt (.val d) g
    | _ => .stuck
def retF (f : Ft) : Fs := fun g => bindE (f g) retK
theorem Ok.drop {K : PySem.W.Frag} {I H : Hp} {σ σ' : L2.St} {g : Sg} {i : Nat} (o : Ok K ⟨I, σ, H, g⟩) (hσ : ∀ j, j ≠ i → σ'[j]? = σ[j]?) (hi : ∃ o, σ'[i]? = some o) : Ok K ⟨I, σ', H, g.set i .un⟩ where
  sub := o.sub
  nt := o.nt
  tab := o.tab
  sl := fun j s h => by
    rcases get_set_of h with ⟨rfl, rfl⟩ | ⟨nj, q⟩
    · obtain ⟨u, hu⟩ := hi
      exact ⟨u, hu, trivial⟩
    · obtain ⟨u, h1, h2⟩ := o.sl j s q
      exact ⟨u, (hσ j nj).trans h1, h2⟩
  dist := fun j k t t' d d' h h' e => by
    rcases get_set_of h with ⟨rfl, q⟩ | ⟨nj, q⟩
    · cases q
    · rcases get_set_of h' with ⟨rfl, q'⟩ | ⟨nk, q'⟩
      · cases q'
      · exact o.dist j k t t' d d' q q' (((hσ j nj).symm.trans e).trans (hσ k nk))
theorem Go.drop {I H : Hp} {σ σ' : L2.St} {g : Sg} {i : Nat} (hσ : ∀ j, j ≠ i → σ'[j]? = σ[j]?) : Go ⟨I, σ, H, g⟩ ⟨I, σ', H, g.set i .un⟩ where
  sub := Le.refl _
  keep := fun _ _ h _ _ => h
  dom := fun _ h => h
  grow := fun _ h h' => (h' h).elim
  own := fun a ⟨j, t, d, h1, h2⟩ => by
    rcases get_set_of h1 with ⟨rfl, q⟩ | ⟨nj, q⟩
    · cases q
    · exact .inl ⟨j, t, d, q, (hσ j nj).symm.trans h2⟩
  ownf := fun a ⟨j, d, h1, h2⟩ => by
    rcases get_set_of h1 with ⟨rfl, q⟩ | ⟨nj, q⟩
    · cases q
    · exact .inl ⟨j, d, q, (hσ j nj).symm.trans h2⟩
  tag := fun j s' h t => by
    rcases get_set_of h with ⟨rfl, rfl⟩ | ⟨nj, q⟩
    · cases t
    · exact ⟨⟨s', q, t⟩, hσ j nj⟩
theorem vs_ret (h : VE X W e fe) : VS X W (.Return (some e) pos) (retF fe) := ⟨ps_imp' (ps_ret h.pe) fun D σ H ⟨I, g, o, r⟩ => by
  refine ⟨I, g, o, (RemS.bindE (R := RvR X.K) r).mono ?_⟩
  rintro v H1 ⟨I1, g1, x, o1, y1, rx, r1⟩
  cases x with
  | val d => exact r1 I1 σ H1 v o1 y1 rx
  | fr d =>
    obtain ⟨a, e, ow, n, w, z⟩ := rx
    exact r1 I1 σ H1 v o1 y1 ⟨a, e, ow, n, w, .inr z⟩
  | at_ i =>
    have rx : σ[i]? = some (some v) := rx
    simp only [retK] at r1
    split at r1
    · rename_i d q
      obtain ⟨u, e1, a, e2, ow, n⟩ := o1.sl i _ q
      have e1 : σ[i]? = some u := e1
      rw [rx] at e1
      cases e1
      cases e2
      have y2 : Go ⟨I1, σ, H1, g1⟩ ⟨I1, σ, H1, g1.set i .un⟩ := Go.drop fun _ _ => rfl
      refine r1 I1 σ H1 (.ref a) (o1.drop (fun _ _ => rfl) ⟨_, rx⟩) (y1.trans y2) ⟨a, rfl, ow, n, fun k => ?_, y1.ownf a ⟨i, d, q, rx⟩⟩
      obtain ⟨j, t, d', h1, h2⟩ := k
      rcases get_set_of h1 with ⟨rfl, z⟩ | ⟨nj, z⟩
      · cases z
      · exact nj (o1.dist j i t false d' d z q ((show σ[j]? = some (some (V.ref a)) from h2).trans rx.symm))
    · rename_i d q
      obtain ⟨a, u, e1, _, _, o2, y2, r2⟩ := o1.frzSl q
      rw [rx] at e1
      cases e1
      exact r1 _ σ H1 _ o2 (y1.trans y2) r2
    · rename_i t d q
      obtain ⟨u, e1, w, e2, r2⟩ := o1.sl i _ q
      have e1 : σ[i]? = some u := e1
      rw [rx] at e1
      cases e1
      cases e2
      exact r1 I1 σ H1 v o1 y1 r2
    · exact r1.elim⟩
def iteS (t : Fb) (f k : Fs) : Fs := fun g => bindE (t g) fun b g1 => if b = true then f g1 else k g1
theorem vs_if {c : Expr} {a b : List Stmt} {t : Fb} {fa fb : Fs} (hc : VT X W c t) (ha : VSs X W a fa) (hb : VSs X W b fb) : VS X W (.If c a b pos) (iteS t fa fb) := ⟨ps_imp' (ps_if hc.pt ha.pss hb.pss) fun D σ H ⟨I, g, o, r⟩ => by
  refine ⟨I, g, o, (RemS.bindE (R := RbR) r).mono ?_⟩
  rintro v H1 ⟨I1, g1, x, o1, y1, rfl, r1⟩
  cases v with
  | true => exact ⟨I1, g1, o1, RemS.go y1 r1⟩
  | false => exact ⟨I1, g1, o1, RemS.go y1 r1⟩⟩
theorem Ok.store {K : PySem.W.Frag} {I H : Hp} {σ : L2.St} {g : Sg} {i : Nat} {v : V} {s : Sl} (o : Ok K ⟨I, σ, H, g⟩) (h : SlR K I H (some v) s) (hd : ∀ t d, s = .own t d → ∀ a, v = .ref a → ¬ Cfg.Own ⟨I, σ, H, g⟩ a) :
    Ok K ⟨I, σ.set i (some v), H, g.set i s⟩ where
  sub := o.sub
  nt := o.nt
  tab := o.tab
  sl := fun j s' q => by
    rcases get_set_of q with ⟨rfl, rfl⟩ | ⟨nj, q⟩
    · refine ⟨some v, ?_, h⟩
      have hl : j < g.length := by
        have := (List.getElem?_eq_some_iff.mp q).1
        simpa using this
      obtain ⟨u, hu, _⟩ := o.sl j g[j] (List.getElem?_eq_getElem hl)
      have hs : j < σ.length := (List.getElem?_eq_some_iff.mp hu).1
      show (σ.set j (some v))[j]? = _
      rw [List.getElem?_set_self hs]
    · obtain ⟨u, h1, h2⟩ := o.sl j s' q
      refine ⟨u, ?_, h2⟩
      show (σ.set i (some v))[j]? = _
      rw [List.getElem?_set_ne (fun z => nj z.symm)]
      exact h1
  dist := fun j k t t' d d' h1 h2 e => by
    have key : ∀ (j k : Nat) (t t' : Bool) (d d' : D), j = i → k ≠ i → s = .own t d → (g.set i s)[j]? = some (.own t d) → g[k]? = some (.own t' d') → (σ.set i (some v))[j]? = (σ.set i (some v))[k]? → False := by
      intro j k t t' d d' ej nk es hj hk e
      subst ej
      obtain ⟨u, hu, a, e2, r, n⟩ := o.sl k _ hk
      have hu : σ[k]? = some u := hu
      have hl : j < g.length := by
        have := (List.getElem?_eq_some_iff.mp hj).1
        simpa using this
      obtain ⟨u', hu', _⟩ := o.sl j g[j] (List.getElem?_eq_getElem hl)
      have hs : j < σ.length := (List.getElem?_eq_some_iff.mp hu').1
      rw [List.getElem?_set_self hs, List.getElem?_set_ne (fun z => nk z.symm), hu] at e
      cases e
      cases e2
      exact hd t d es a rfl ⟨k, t', d', hk, hu⟩
    have e : (σ.set i (some v))[j]? = (σ.set i (some v))[k]? := e
    rcases get_set_of h1 with ⟨ej, q⟩ | ⟨nj, q⟩
    · rcases get_set_of h2 with ⟨ek, q'⟩ | ⟨nk, q'⟩
      · exact ej.trans ek.symm
      · exact (key j k t t' d d' ej nk q.symm h1 q' e).elim
    · rcases get_set_of h2 with ⟨ek, q'⟩ | ⟨nk, q'⟩
      · exact (key k j t' t d' d ek nj q'.symm h2 q e.symm).elim
      · rw [List.getElem?_set_ne (fun z => nj z.symm), List.getElem?_set_ne (fun z => nk z.symm)] at e
        exact o.dist j k t t' d d' q q' e
theorem Go.store {I H : Hp} {σ : L2.St} {g : Sg} {i : Nat} {v : V} {d : D} : Go ⟨I, σ, H, g⟩ ⟨I, σ.set i (some v), H, g.set i (.val false d)⟩ where
  sub := Le.refl _
  keep := fun _ _ h _ _ => h
  dom := fun _ h => h
  grow := fun _ h h' => (h' h).elim
  own := fun a ⟨j, t, d, h1, h2⟩ => by
    rcases get_set_of h1 with ⟨rfl, q⟩ | ⟨nj, q⟩
    · cases q
    · exact .inl ⟨j, t, d, q, by rw [← h2]; exact (List.getElem?_set_ne (fun z => nj z.symm)).symm⟩
  ownf := fun a ⟨j, d, h1, h2⟩ => by
    rcases get_set_of h1 with ⟨rfl, q⟩ | ⟨nj, q⟩
    · cases q
    · exact .inl ⟨j, d, q, by rw [← h2]; exact (List.getElem?_set_ne (fun z => nj z.symm)).symm⟩
  tag := fun j s' h t => by
    rcases get_set_of h with ⟨rfl, rfl⟩ | ⟨nj, q⟩
    · cases t
    · exact ⟨⟨s', q, t⟩, List.getElem?_set_ne (fun z => nj z.symm)⟩
theorem Go.storeF {c0 : Cfg} {I H : Hp} {σ : L2.St} {g : Sg} {i : Nat} {a : Addr} {d : D} (y : Go c0 ⟨I, σ, H, g⟩) (z : c0.H a = none) : Go c0 ⟨I, σ.set i (some (.ref a)), H, g.set i (.own false d)⟩ where
  sub := y.sub
  keep := y.keep
  dom := y.dom
  grow := y.grow
  own := fun b ⟨j, t, d, h1, h2⟩ => by
    have h2 : (σ.set i (some (V.ref a)))[j]? = some (some (.ref b)) := h2
    rcases get_set_of h1 with ⟨rfl, q⟩ | ⟨nj, q⟩
    · rcases get_set_of h2 with ⟨_, q2⟩ | ⟨nj, _⟩
      · cases q2; exact .inr z
      · exact absurd rfl nj
    · exact y.own b ⟨j, t, d, q, by rw [← h2]; exact (List.getElem?_set_ne (fun z => nj z.symm)).symm⟩
  ownf := fun b ⟨j, d, h1, h2⟩ => by
    have h2 : (σ.set i (some (V.ref a)))[j]? = some (some (.ref b)) := h2
    rcases get_set_of h1 with ⟨rfl, q⟩ | ⟨nj, q⟩
    · rcases get_set_of h2 with ⟨_, q2⟩ | ⟨nj, _⟩
      · cases q2; exact .inr z
      · exact absurd rfl nj
    · exact y.ownf b ⟨j, d, q, by rw [← h2]; exact (List.getElem?_set_ne (fun z => nj z.symm)).symm⟩
  tag := fun j s' h t => by
    rcases get_set_of h with ⟨rfl, rfl⟩ | ⟨nj, q⟩
    · cases t
    · obtain ⟨h1, h2⟩ := y.tag j s' q t
      exact ⟨h1, (List.getElem?_set_ne (fun z => nj z.symm)).trans h2⟩
def setK (i : Nat) (x : RV) (g : Sg) : Rs := match x with
  | .val d => .nx (g.set i (.val false d))
  | .fr d => .nx (g.set i (.own false d))
  | .at_ j => match g[j]? with
    | some (.own t d) => .nx ((g.set j (.val t d)).set i (.val false d))
    | some (.val _ d) => .nx (g.set i (.val false d))
    | _ => .stuck
def setF (i : Nat) (f : Ft) : Fs := fun g => bindE (f g) (setK i)
theorem setK_ok {K : PySem.W.Frag} {c0 : Cfg} {I H : Hp} {σ : L2.St} {g : Sg} {i : Nat} {x : RV} {v : V} {D' : Ends} (o1 : Ok K ⟨I, σ, H, g⟩) (y1 : Go c0 ⟨I, σ, H, g⟩) (rx : RvR K c0 ⟨I, σ, H, g⟩ v x) (h : RemS K W c0 (setK i x g) D') :
    D'.nx (σ.set i (some v)) H := by
  cases x with
  | val d => exact h I _ H (o1.store ⟨v, rfl, rx⟩ fun t d e => nomatch e) (y1.trans Go.store)
  | fr d =>
    obtain ⟨a, rfl, ow, n, w, z⟩ := rx
    exact h I _ H (o1.store ⟨a, rfl, ow, n⟩ fun t d e b eb => by cases eb; exact w) (y1.storeF z)
  | at_ j =>
    have rx : σ[j]? = some (some v) := rx
    simp only [setK] at h
    split at h
    · rename_i t d q
      obtain ⟨a, u, e1, _, _, o2, y2, r2⟩ := o1.frzSl q
      rw [rx] at e1
      cases e1
      exact h _ _ H (o2.store ⟨_, rfl, r2⟩ fun t d e => nomatch e) ((y1.trans y2).trans Go.store)
    · rename_i t d q
      obtain ⟨u, e1, w, e2, r2⟩ := o1.sl j _ q
      have e1 : σ[j]? = some u := e1
      rw [rx] at e1
      cases e1
      cases e2
      exact h _ _ H (o1.store ⟨_, rfl, r2⟩ fun t d e => nomatch e) (y1.trans Go.store)
    · exact h.elim
theorem vs_asg {i : Nat} {st : Stmt} {te : Ft → TE} (h : PS X st (tAsg (rdE X.K W fe) (gName i))) : VS X W st (setF i fe) := ⟨ps_imp' h fun D σ H ⟨I, g, o, r⟩ => by
  refine ⟨I, g, o, (RemS.bindE (R := RvR X.K) r).mono ?_⟩
  rintro v H1 ⟨I1, g1, x, o1, y1, rx, r1⟩
  exact setK_ok o1 y1 rx r1⟩
theorem vs_set {i : Nat} {x : Str} {pos' : Pos} (hN : X.N.Nodup) (hi : X.N[i]? = some x) (hx : Loc X.env.scope x) (he : VE X W e fe) (hs : swapsWith e (some (.Name x pos')) pos.line X.env = pure false := by rfl) (hf : X.fn x = true ∨ X.env.scope.names.lookup x = some .local := by first | exact .inl rfl | exact .inr rfl | assumption) :
    VS X W (.Assign [.Name x pos'] e pos) (setF i fe) := vs_asg (te := fun _ => rdE X.K W fe) (ps_set hN hi hx he.pe hs hf)
end
end Vl
set_option Elab.async false
set_option linter.all false
set_option maxRecDepth 100000
set_option maxHeartbeats 2000000
namespace Vl
open PySem PySem.Spec PyProof.Rows L2 My
theorem Ok.own_at {K : PySem.W.Frag} {I H : Hp} {σ : L2.St} {g : Sg} {i : Nat} {t : Bool} {d : D} (o : Ok K ⟨I, σ, H, g⟩) (h : g[i]? = some (.own t d)) : ∃ a, σ[i]? = some (some (.ref a)) ∧ OwnAt K I H a d ∧ I a = none := by
  obtain ⟨v, e1, a, e2, r, n⟩ := o.sl i _ h
  subst e2
  exact ⟨a, e1, r, n⟩
def appF (i : Nat) (fe : Ft) : Ft := fun g => match g[i]? with
  | some (.own _ (.lst _)) => (evA [fe] g).bind fun xs g1 => match frzA xs g1 with
    | some ([d], g2) => (match g2[i]? with
      | some (.own t (.lst ds)) => if ds.length < sizeLine then .ok (.val .non) (g2.set i (.own t (.lst (ds ++ [d])))) else .stuck
      | _ => .stuck)
    | _ => .stuck
  | _ => .stuck
theorem Ok.wr {K : PySem.W.Frag} {I H H' : Hp} {σ : L2.St} {g : Sg} {i : Nat} {t : Bool} {d d' : D} {a : Addr} (o : Ok K ⟨I, σ, H, g⟩) (h : g[i]? = some (.own t d)) (ha : σ[i]? = some (some (.ref a))) (x : Xb [a] H H') (w : OwnAt K I H' a d') :
    Ok K ⟨I, σ, H', g.set i (.own t d')⟩ ∧ Go ⟨I, σ, H, g⟩ ⟨I, σ, H', g.set i (.own t d')⟩ := by
  have own : Cfg.Own ⟨I, σ, H, g⟩ a := ⟨i, t, d, h, ha⟩
  have na : I a = none := o.own_free own
  have stay : ∀ b u, b ≠ a → H b = some u → H' b = some u := fun b u n e => x.get1 n e
  refine ⟨⟨fun b u e => ?_, fun j s q => ?_, fun j k t1 t2 d1 d2 q q' e => ?_, o.nt, o.tab.mono (Le.refl _) fun b ps e => stay b _ (fun z => by
    subst z
    obtain ⟨a2, hs, r2, _⟩ := o.own_at h
    rw [ha] at hs
    cases hs
    exact (r2.ntb e).e ps rfl) e⟩, ⟨Le.refl _, fun b u e n _ => ?_, fun b e => ?_, fun b e e' => (e' e).elim, fun b ⟨j, t1, d1, q, q2⟩ => ?_, fun b ⟨j, d1, q, q2⟩ => ?_, fun j s' q tg => ?_⟩⟩
  · have e : I b = some u := e
    exact stay b u (fun z => by subst z; exact no_some na e) (o.sub b u e)
  · rcases get_set_of q with ⟨rfl, rfl⟩ | ⟨nj, q⟩
    · exact ⟨_, ha, a, rfl, w, na⟩
    · obtain ⟨v, e1, r⟩ := o.sl j s q
      refine ⟨v, e1, r.mono (Le.refl _) fun b t1 d1 es ev => ?_⟩
      subst es ev
      obtain ⟨b', eb, r2, nb⟩ := r
      cases eb
      obtain ⟨u, hu⟩ := r2.some
      have nba : b ≠ a := fun z => by
        subst z
        exact nj (o.dist j i t1 t d1 d q h ((show σ[j]? = some (some (V.ref b)) from e1).trans ha.symm))
      exact ⟨(stay b u nba hu).trans hu.symm, nb⟩
  · have key : ∀ (j : Nat) (t1 : Bool) (d1 : D), (g.set i (.own t d'))[j]? = some (.own t1 d1) → ∃ t2 d2, g[j]? = some (.own t2 d2) := fun j t1 d1 q => by
      rcases get_set_of q with ⟨rfl, _⟩ | ⟨_, q⟩
      · exact ⟨t, d, h⟩
      · exact ⟨t1, d1, q⟩
    obtain ⟨_, _, p1⟩ := key j t1 d1 q
    obtain ⟨_, _, p2⟩ := key k t2 d2 q'
    exact o.dist j k _ _ _ _ p1 p2 e
  · exact stay b u (fun z => by subst z; exact n own) e
  · by_cases z : b = a
    · subst z
      obtain ⟨u, hu⟩ := w.some
      exact (no_some e hu).elim
    · cases q : H b with
      | none => exact q
      | some u => exact (no_some e (stay b u z q)).elim
  · rcases get_set_of q with ⟨rfl, _⟩ | ⟨_, q⟩
    · exact .inl ⟨j, t, d, h, q2⟩
    · exact .inl ⟨j, t1, d1, q, q2⟩
  · rcases get_set_of q with ⟨rfl, e⟩ | ⟨_, q⟩
    · cases e; exact .inl ⟨j, d, h, q2⟩
    · exact .inl ⟨j, d1, q, q2⟩
  · rcases get_set_of q with ⟨rfl, rfl⟩ | ⟨_, q⟩
    · exact ⟨⟨_, h, tg⟩, rfl⟩
    · exact ⟨⟨s', q, tg⟩, rfl⟩
section
variable {X : Cx} {W : WX}
theorem ve_append {o e : Expr} {i : Nat} {fe : Ft} {apos cpos : Pos} (ho : PE X o (tVar i)) (ha : VA X W [e] [fe])
    (hbase : attributeBase o "append" X.env (eval o X.env) = eval o X.env := by rfl)
    (hfew : ((backTo cpos (starEach [e] X.env)).all (fun x => !x.1) && (backToKw cpos (keywordEach [] X.env)).all (fun x => x.1.isSome)
      && decide ([e].length + ([] : List Keyword).length + (if ([] : List Keyword).isEmpty then 0 else 1) < 30)) = true := by rfl)
    (hline : (apos.endLine == cpos.line) = true := by rfl) (hs : starEach [e] X.env = (false, eval e X.env) :: starEach [] X.env := by rfl) (hplain : (backTo cpos (starEach [] X.env)).any (·.1) = false := by rfl) :
    VE X W (.Call (.Attribute o "append" apos) [e] [] cpos) (appF i fe) := by
  refine ⟨pe_imp (pe_bm PySem.F.plainAttrs_list PySem.F.slot_list_append PySem.F.type_list_append mx_append ho ha.pa hbase hfew hline hs hplain) fun σ H Q ⟨I, g, o, r⟩ => ?_⟩
  unfold appF at r
  split at r
  · rename_i t0 ds0 q0
    obtain ⟨a, ea, ow, na⟩ := o.own_at q0
    refine ⟨.ref a, ea, ?_⟩
    obtain ⟨xs0, hx0, _⟩ := ow
    refine ⟨.inl ⟨rfl, _, SqL.of hx0⟩, I, g, o, (Rem.bind (R := RvsR X.K) r).mono ?_⟩
    rintro vs H1 ⟨I1, g1, xs, o1, y1, rx, r1⟩
    dsimp only at r1
    split at r1
    · rename_i d g2 e2
      obtain ⟨I2, o2, y2, rr⟩ := frzA_ok o1 rx e2
      split at r1
      · rename_i t ds q2
        split at r1
        · rename_i hl
          obtain ⟨a', ea', ⟨xs', hx', rp⟩, na'⟩ := o2.own_at q2
          rw [ea] at ea'
          cases ea'
          cases rr with
          | cons r1' t1 =>
            cases t1
            refine ⟨a, _, rfl, rfl, xs', hx', by rw [rp.length]; exact hl, fun H' x h' => ?_⟩
            obtain ⟨o3, y3⟩ := o2.wr q2 ea x (d' := .lst (ds ++ [d])) ⟨_, h', rp.append (.one r1')⟩
            exact r1 I2 H' .non o3 (y2.trans y3) .non
        · exact r1.elim
      · exact r1.elim
    · exact r1.elim
  · exact r.elim
def putKD (kvs : List (D × D)) (k : Key) (v : D) : List (D × D) :=
  if (kvs.any fun kv => decide (keyOf kv.1 = some k)) = true then kvs.map (fun kv => if keyOf kv.1 = some k then (kv.1, v) else kv) else kvs ++ [(kD k, v)]
theorem RepK.put {K : PySem.W.Frag} {I : Hp} {k : Key} {v : V} {d : D} (h : Rep K I v d) {vs : List (Key × V)} {ds : List (D × D)} (r : RepK K I vs ds) : RepK K I (putK vs k v) (putKD ds k d) := by
  have anyE : ∀ {vs : List (Key × V)} {ds : List (D × D)}, RepK K I vs ds → (vs.any fun kv => decide (kv.1 = k)) = ds.any fun kv => decide (keyOf kv.1 = some k) := by
    intro vs
    induction vs with
    | nil => intro ds r; cases r; rfl
    | cons p vs ih =>
      intro ds r
      cases r with
      | cons h t =>
        rw [List.any_cons, List.any_cons, ih t]
        simp only [keyOf_kD, Option.some.injEq]
  have mapE : ∀ {vs : List (Key × V)} {ds : List (D × D)}, RepK K I vs ds → RepK K I (vs.map fun kv => if kv.1 = k then (kv.1, v) else kv) (ds.map fun kv => if keyOf kv.1 = some k then (kv.1, d) else kv) := by
    intro vs
    induction vs with
    | nil => intro ds r; cases r; exact .nil
    | cons p vs ih =>
      intro ds r
      cases r with
      | @cons q w d' vs' ds' h' t =>
        rw [List.map_cons, List.map_cons]
        by_cases e : q = k
        · subst e
          simp only [if_true, keyOf_kD]
          exact .cons h (ih t)
        · simp only [keyOf_kD, Option.some.injEq, if_neg e]
          exact .cons h' (ih t)
  have appE : ∀ {vs : List (Key × V)} {ds : List (D × D)}, RepK K I vs ds → RepK K I (vs ++ [(k, v)]) (ds ++ [(kD k, d)]) := by
    intro vs
    induction vs with
    | nil => intro ds r; cases r; exact .cons h .nil
    | cons p vs ih =>
      intro ds r
      cases r with
      | cons h' t => exact .cons h' (ih t)
  unfold putK putKD
  rw [anyE r]
  split
  · exact mapE r
  · exact appE r
def putAt (c : D) (k : D) (v : D) : Option D := match c, k with
  | .lst xs, .int i => (ixN xs.length i).map fun j => .lst (xs.set j v)
  | .dct kvs, k => (keyOf k).bind fun k => if kvs.length < sizeLine then some (.dct (putKD kvs k v)) else none
  | _, _ => none
theorem setx_both (hu : X.A.units + 1 < cLine) : PSet X (fun o i v H Q => ∃ a, o = .ref a ∧ ((∃ k xs j, i = .int k ∧ H a = some (.lst xs) ∧ ixN xs.length k = some j ∧ wL a (xs.set j v) H Q) ∨
    (∃ z kvs, i = kV z ∧ H a = some (.dK kvs) ∧ kvs.length < sizeLine ∧ ∀ H', Xb [a] H H' → H' a = some (.dK (putK kvs z v)) → Q H'))) := by
  rintro pins s σ H o i v ov iv u Q I ro ri rv ⟨a, rfl, ⟨k, xs, j, e2, h, hj, q⟩ | ⟨z, kvs, e2, h, n, k⟩⟩
  · exact setx_list pins s σ H _ i v ov iv u Q I ro ri rv ⟨a, k, rfl, e2, xs, j, h, hj, q⟩
  · subst e2
    cases ro
    exact d_setItem hu I (DPut.k (k := z) h n) ri rv fun s4 I4 => ⟨_, I4, k _ Xb.put upd_same⟩
def putK' (i : Nat) (fk : Ft) (d : D) (g : Sg) : Rs := match g[i]? with
  | some (.own _ _) => bindE (evA [fk] g) fun ks g1 => match frzA ks g1 with
    | some ([k], g2) => (match g2[i]? with
      | some (.own t c) => (match putAt c k d with | some c' => .nx (g2.set i (.own t c')) | none => .stuck)
      | _ => .stuck)
    | _ => .stuck
  | _ => .stuck
theorem putAt_ok {K : PySem.W.Frag} {I H : Hp} {σ : L2.St} {g : Sg} {i : Nat} {t : Bool} {c k d c' : D} {a : Addr} {kv v : V} {R : Hp → Prop} (o : Ok K ⟨I, σ, H, g⟩) (h : g[i]? = some (.own t c)) (ha : σ[i]? = some (some (.ref a)))
    (rk : Rep K I kv k) (rv : Rep K I v d) (e : putAt c k d = some c') (hR : ∀ H', Ok K ⟨I, σ, H', g.set i (.own t c')⟩ → Go ⟨I, σ, H, g⟩ ⟨I, σ, H', g.set i (.own t c')⟩ → R H') :
    ∃ b, V.ref a = .ref b ∧ ((∃ k xs j, kv = .int k ∧ H b = some (.lst xs) ∧ ixN xs.length k = some j ∧ wL b (xs.set j v) H R) ∨
    (∃ z kvs, kv = kV z ∧ H b = some (.dK kvs) ∧ kvs.length < sizeLine ∧ ∀ H', Xb [b] H H' → H' b = some (.dK (putK kvs z v)) → R H')) := by
  obtain ⟨a', ea, ow, na⟩ := o.own_at h
  rw [ha] at ea
  cases ea
  refine ⟨a, rfl, ?_⟩
  unfold putAt at e
  split at e
  · rename_i xs j
    obtain ⟨us, hx, rp⟩ := ow
    cases rk
    obtain ⟨n, hn, rfl⟩ := Option.map_eq_some_iff.mp e
    refine .inl ⟨j, us, n, rfl, hx, by rw [rp.length]; exact hn, fun H' x h' => ?_⟩
    obtain ⟨o3, y3⟩ := o.wr h ha x (d' := .lst (xs.set n d)) ⟨_, h', rp.set rv n⟩
    exact hR H' o3 y3
  · rename_i kvs
    obtain ⟨us, hx, rp⟩ := ow
    obtain ⟨z, ez, e⟩ := Option.bind_eq_some_iff.mp e
    split at e
    · rename_i hl
      cases e
      refine .inr ⟨z, us, kD_kV (c := ⟨I, σ, H, g⟩) (.inl rk) ez, hx, by rw [rp.length]; exact hl, fun H' x h' => ?_⟩
      obtain ⟨o3, y3⟩ := o.wr h ha x (d' := .dct (putKD kvs z d)) ⟨_, h', rp.put rv⟩
      exact hR H' o3 y3
    · cases e
  · cases e
def putF (i : Nat) (fk fe : Ft) : Fs := fun g => bindE (evA [fe] g) fun xs g1 => match frzA xs g1 with
  | some ([d], g2) => putK' i fk d g2
  | _ => .stuck
theorem rd1 {fe : Ft} {σ : L2.St} {H : Hp} {K : PySem.W.Frag} {I : Hp} {g : Sg} {k : List RV → Sg → Rs} {D : Ends} {c0 : Cfg} {R : VK} (e0 : c0 = ⟨I, σ, H, g⟩) (o : Ok K ⟨I, σ, H, g⟩) (h : RemS K W c0 (bindE (evA [fe] g) k) D)
    (hr : ∀ v H1 I1 g1 x, Ok K ⟨I1, σ, H1, g1⟩ → Go c0 ⟨I1, σ, H1, g1⟩ → RvsR K c0 ⟨I1, σ, H1, g1⟩ [v] [x] → RemS K W c0 (k [x] g1) D → R v H1) : rdE K W fe σ H R := by
  subst e0
  have nf : ∀ x g', settle (fe g) = .ok x g' → ∀ d, x ≠ .fr d := fun x g' h => settle_nofr h
  refine ⟨I, g, o, Rem.settle ?_⟩
  have h : RemS K W ⟨I, σ, H, g⟩ (bindE ((settle (fe g)).bind fun x g1 => (Res.ok (α := List RV) [] g1).bind fun xs g2 => .ok (x :: xs) g2) k) D := h
  revert nf h
  generalize settle (fe g) = sr
  intro nf h
  cases sr with
  | stuck => exact h
  | exn c fs' g' => exact fun I H e o y rv => h I _ H e o y rv
  | ok x g1 => exact fun I1 H1 v o1 y1 rx => hr v H1 I1 g1 x o1 y1 (.cons ⟨_, rx, nf x g1 rfl⟩ .nil) h
theorem vs_put {o ie e : Expr} {i : Nat} {fk fe : Ft} {pos pos' : Pos} (hu : X.A.units + 1 < cLine) (ho : PE X o (tVar i)) (hk : VE X W ie fk) (he : VE X W e fe)
    (ha : ∀ v, assign (.Subscript o ie pos') X.env v = (do
      let ov ← holding [v] (eval o X.env)
      let iv ← holding [v, ov] (eval ie X.env)
      standAt pos'
      holding [v, ov, iv] (setItem ov iv v)
      release [v, ov, iv] []) := by intro _; rfl)
    (hs : swapsWithSole [.Subscript o ie pos'] e pos.line X.env = pure false := by rfl) (hw : swappedStores [.Subscript o ie pos'] e X.env = pure none := by rfl)
    (h1 : (assignEach [.Subscript o ie pos'] X.env).map (·.2) = [assign (.Subscript o ie pos') X.env] := by rfl) : VS X W (.Assign [.Subscript o ie pos'] e pos) (putF i fk fe) := by
  refine ⟨ps_imp' (ps_asg he.pe (pg_sub ho hk.pe (setx_both hu) ha) hs hw h1) fun D σ H ⟨I, g, o, r⟩ => ?_⟩
  refine rd1 rfl o r fun v H1 I1 g1 x o1 y1 rx r1 => ?_
  split at r1
  · rename_i d g2 e2
    obtain ⟨I2, o2, y2, rr⟩ := frzA_ok o1 rx e2
    cases rr with
    | cons rv tt =>
      cases tt
      unfold putK' at r1
      split at r1
      · rename_i t0 c0 q0
        obtain ⟨a, ea, ow, na⟩ := o2.own_at q0
        refine ⟨.ref a, ea, rd1 (c0 := ⟨I2, σ, H1, g2⟩) rfl o2 (RemS.go (y1.trans y2) r1) fun kv H3 I3 g3 y o3 y3 ry r3 => ?_⟩
        split at r3
        · rename_i k g4 e4
          obtain ⟨I4, o4, y4, rr4⟩ := frzA_ok o3 ry e4
          cases rr4 with
          | cons rk tt =>
            cases tt
            split at r3
            · rename_i t c q4
              split at r3
              · rename_i c' e'
                exact putAt_ok (σ := σ) (g := g4) o4 q4 ea rk (rv.mono (y3.trans y4).sub) e' fun H' o5 y5 => r3 I4 σ H' o5 ((y3.trans y4).trans y5)
              · exact r3.elim
            · exact r3.elim
        · exact r3.elim
      · exact r1.elim
  · exact r1.elim
end
end Vl
set_option Elab.async false
set_option linter.all false
set_option maxRecDepth 100000
set_option maxHeartbeats 2000000
namespace Vl
open PySem PySem.Spec PyProof.Rows L2 My
section
variable {X : Cx} {W : WX}
structure PIpV (X : Cx) (op : Operator) (p : D → D → Option RV) : Prop where
  ex : ∃ r : TIp, PIp X op r ∧ ∀ c v u a b Q, Ok X.K c → RdD X.K c v a → RdD X.K c u b → Gives X.K c (p a b) Q → r v u c.H Q
def iaddP : D → D → Option RV
  | .int a, .int b => vI (a + b)
  | .str a, .str b => if a.length + b.length ≤ sizeLine then vS (a ++ b) else none
  | _, _ => none
theorem i_add : PIpV X .Add iaddP := by
  refine ⟨fun x y H Q => ipI (fun i j => i + j) x y H Q ∨ (∃ i j, x = .str i ∧ y = .str j ∧ i.length + j.length ≤ sizeLine ∧ Q (.str (i ++ j)) H), fun pins s σ H x y v u Q I rx ry h => h.elim (ip_add pins s σ H x y v u Q I rx ry) (iop_add_str pins s σ H x y v u Q I rx ry), fun c v u a b Q o ra rb h => ?_⟩
  cases a <;> cases b <;> simp only [iaddP] at h <;> first | exact h.elim | skip
  · rename_i i j
    rw [ra.int, rb.int]
    exact .inl ⟨i, j, rfl, rfl, h.now o (.int _)⟩
  · rename_i i j
    rw [ra.str, rb.str]
    split at h
    · exact .inr ⟨i, j, rfl, rfl, by assumption, h.now o (.str _)⟩
    · exact h.elim
def getAt (c k : D) : Option D := match c, k with
  | .lst xs, .int i => if decide (0 ≤ i ∧ i < 2 ^ 62) = true then xs[i.toNat]? else none
  | .dct kvs, k => (keyOf k).bind fun k => valD kvs k
  | _, _ => none
theorem get_both (hu : X.A.units + 1 < cLine) : PGet X (fun o i H Q => gLst X.K o i H Q ∨ ∃ a v, o = .ref a ∧ DGet H a i (some v) ∧ Q v H) := by
  rintro pins s σ H o i ov iv Q I ro ri (h | ⟨a, v, rfl, g, q⟩)
  · exact get_lst pins s σ H o i ov iv Q I ro ri h
  · cases ro
    exact d_getItem hu I g ri fun w' s' I' r => ⟨v, H, I', r, q⟩
def augSF (i : Nat) (fk : Ft) (p : D → D → Option RV) (fe : Ft) : Fs := fun g => match g[i]? with
  | some (.own _ _) => bindE (evA [fk] g) fun ks g1 => match frzA ks g1 with
    | some ([k], g2) => (match g2[i]? with
      | some (.own _ c) => (match getAt c k with
        | some a => bindE (evA [fe] g2) fun xs g3 => (match derefA g3 xs with
          | some [b] => (match p a b, g3[i]? with
            | some (.val d), some (.own t c') => (match putAt c' k d with | some c2 => .nx (g3.set i (.own t c2)) | none => .stuck)
            | _, _ => .stuck)
          | _ => .stuck)
        | none => .stuck)
      | _ => .stuck)
    | _ => .stuck
  | _ => .stuck
theorem vs_augS {o ie e : Expr} {i : Nat} {fk fe : Ft} {op : Operator} {p : D → D → Option RV} {pos tpos : Pos} (hp : PIpV X op p) (hu : X.A.units + 1 < cLine) (ho : PE X o (tVar i)) (hk : VE X W ie fk) (he : VE X W e fe)
    (ha : ∀ ov iv new, augStore ie ov iv new = (do holding [new, ov, iv] (setItem ov iv new); release [new, ov, iv] []; pure .next) := by intros; rfl) : VS X W (.AugAssign (.Subscript o ie tpos) op e pos) (augSF i fk p fe) := by
  obtain ⟨r, h1, h2⟩ := hp.ex
  refine ⟨ps_imp' (ps_augS ho hk.pe (get_both hu) he.pe h1 (setx_both hu) ha) fun D σ H ⟨I, g, o, q⟩ => ?_⟩
  unfold augSF at q
  split at q
  · rename_i t0 c0 q0
    obtain ⟨a, ea, ow, na⟩ := o.own_at q0
    refine ⟨.ref a, ea, rd1 rfl o q fun kv H1 I1 g1 y o1 y1 ry r1 => ?_⟩
    split at r1
    · rename_i k g2 e2
      obtain ⟨I2, o2, y2, rr⟩ := frzA_ok o1 ry e2
      cases rr with
      | cons rk tt =>
        cases tt
        split at r1
        · rename_i t1 c1 q1
          split at r1
          · rename_i d ed
            obtain ⟨a', ea', ow', na'⟩ := o2.own_at q1
            rw [ea] at ea'
            cases ea'
            -- the item, then the rest
            have key : ∀ w, Rep X.K I2 w d → rdE X.K W fe σ H1 (fun y H4 => r w y H4 fun z H5 => ∃ a1, V.ref a = .ref a1 ∧ ((∃ k xs j, kv = .int k ∧ H5 a1 = some (.lst xs) ∧ ixN xs.length k = some j ∧ wL a1 (xs.set j z) H5 (D.nx σ)) ∨
                (∃ z' kvs, kv = kV z' ∧ H5 a1 = some (.dK kvs) ∧ kvs.length < sizeLine ∧ ∀ H', Xb [a1] H5 H' → H' a1 = some (.dK (putK kvs z' z)) → D.nx σ H'))) := by
              intro w rw'
              refine rd1 rfl o2 (RemS.go (y1.trans y2) r1) fun u H3 I3 g3 x o3 y3 rx r3 => ?_
              split at r3
              · rename_i b eb
                have rb := derefA_rd (c := ⟨I3, σ, H3, g3⟩) o3 rx eb
                cases rb with
                | cons rb tt =>
                  refine h2 ⟨I3, σ, H3, g3⟩ w u d b _ o3 (.inl (Rep.mono y3.sub rw')) rb ?_
                  split at r3
                  · rename_i d' t3 c3 ep q3
                    rw [ep]
                    intro I5 H5 v5 o5 y5 rv5
                    split at r3
                    · rename_i c4 e4
                      refine putAt_ok (σ := σ) (g := g3) o5 q3 ea (rk.mono (y3.trans y5).sub) rv5 e4 fun H' o6 y6 => r3 I5 σ H' o6 ((y3.trans y5).trans y6)
                    · exact r3.elim
                  · exact r3.elim
              · exact r3.elim
            unfold getAt at ed
            split at ed
            · rename_i xs j
              split at ed
              · rename_i hj
                obtain ⟨us, hx, rp⟩ := ow'
                cases rk
                obtain ⟨w, hw, rw'⟩ := rp.get ed
                exact .inl ⟨a, us, j, w, rfl, rfl, SqL.of hx, of_decide_eq_true hj, hw, key w rw'⟩
              · cases ed
            · rename_i kvs
              obtain ⟨z, ez, ed⟩ := Option.bind_eq_some_iff.mp ed
              obtain ⟨us, hx, rp⟩ := ow'
              obtain ⟨w, hw, rw'⟩ := rp.val.1 d ed
              have ek : kv = kV z := kD_kV (c := ⟨I2, σ, H1, g2⟩) (.inl rk) ez
              refine .inr ⟨a, w, rfl, ?_, key w rw'⟩
              rw [ek, ← hw]
              exact DGet.k hx
            · cases ed
          · exact r1.elim
        · exact r1.elim
    · exact r1.elim
  · exact q.elim
inductive Tg where
  | name (i : Nat) | tup (ts : List Tg)
mutual
def tgF : Tg → D → Sg → Option Sg
  | .name i, d, g => some (g.set i (.val false d))
  | .tup ts, d, g => match d with
    | .tup ds => tgsF ts ds g
    | _ => none
def tgsF : List Tg → List D → Sg → Option Sg
  | [], [], g => some g
  | t :: ts, d :: ds, g => (tgF t d g).bind (tgsF ts ds)
  | _, _, _ => none
end
mutual
def Tg.ns : Tg → List Nat
  | .name i => [i]
  | .tup ts => Tg.nss ts
def Tg.nss : List Tg → List Nat
  | [] => []
  | t :: ts => t.ns ++ Tg.nss ts
end
def Dif (l : List Nat) (σ σ' : L2.St) : Prop := σ'.length = σ.length ∧ ∀ j, j ∉ l → σ'[j]? = σ[j]?
def rdG (K : PySem.W.Frag) (t : Tg) : TG := fun v σ H Q => ∃ I g d, Ok K ⟨I, σ, H, g⟩ ∧ Rep K I v d ∧ ∃ g', tgF t d g = some g' ∧ ∀ σ', Ok K ⟨I, σ', H, g'⟩ → Go ⟨I, σ, H, g⟩ ⟨I, σ', H, g'⟩ → Dif t.ns σ σ' → Q σ' H
def rdGs (K : PySem.W.Frag) (ts : List Tg) : TGs := fun vs σ H Q => ∃ I g ds, Ok K ⟨I, σ, H, g⟩ ∧ Reps K I vs ds ∧ ∃ g', tgsF ts ds g = some g' ∧ ∀ σ', Ok K ⟨I, σ', H, g'⟩ → Go ⟨I, σ, H, g⟩ ⟨I, σ', H, g'⟩ → Dif (Tg.nss ts) σ σ' → Q σ' H
structure VG (X : Cx) (e : Expr) (t : Tg) : Prop where
  pg : PG X e (rdG X.K t)
structure VGs (X : Cx) (es : List Expr) (ts : List Tg) : Prop where
  pgs : PGs X es (rdGs X.K ts)
theorem pg_imp {e : Expr} {t t' : TG} (h : PG X e t) (k : ∀ v σ H Q, t' v σ H Q → t v σ H Q) : PG X e t' := ⟨fun pins s σ H v u Q I r hw => h.run pins s σ H v u Q I r (k v σ H Q hw)⟩
theorem pgs_imp {e : List Expr} {t t' : TGs} (h : PGs X e t) (k : ∀ v σ H Q, t' v σ H Q → t v σ H Q) : PGs X e t' := ⟨fun pins s σ H v u Q I r hw => h.run pins s σ H v u Q I r (k v σ H Q hw)⟩
theorem vg_name {i : Nat} {x : Str} {pos : Pos} (hN : X.N.Nodup) (hi : X.N[i]? = some x) (hx : Loc X.env.scope x) (hf : X.fn x = true ∨ X.env.scope.names.lookup x = some .local := by first | exact .inl rfl | exact .inr rfl | assumption) : VG X (.Name x pos) (.name i) :=
  ⟨pg_imp (pg_name hN hi hx hf) fun v σ H Q ⟨I, g, d, o, r, g', e, k⟩ => by
    cases e
    exact k _ (o.store ⟨v, rfl, r⟩ fun t d e => nomatch e) Go.store ⟨List.length_set .., fun j hj => List.getElem?_set_ne fun z => hj (by rw [z]; exact .head _)⟩⟩
theorem vgs_nil : VGs X [] [] := ⟨pgs_imp pgs_nil fun v σ H Q ⟨I, g, ds, o, r, g', e, k⟩ => by
  cases r with
  | nil => cases e; exact ⟨rfl, k σ o (Go.refl _) ⟨rfl, fun _ _ => rfl⟩⟩
  | cons _ _ => cases e⟩
end
end Vl
set_option Elab.async false
set_option linter.all false
set_option maxRecDepth 100000
set_option maxHeartbeats 2000000
namespace Vl
open PySem PySem.Spec PyProof.Rows L2 My
section
variable {X : Cx} {W : WX}
theorem vgs_cons {e : Expr} {es : List Expr} {t : Tg} {ts : List Tg} (h1 : VG X e t) (h2 : VGs X es ts)
    (hs : (assignEach (e :: es) X.env).map (·.2) = assign e X.env :: (assignEach es X.env).map (·.2) := by rfl) : VGs X (e :: es) (t :: ts) := ⟨pgs_imp (pgs_cons h1.pg h2.pgs hs) fun vs σ H Q ⟨I, g, ds, o, r, g', e, k⟩ => by
  cases r with
  | nil => cases e
  | @cons v d vs' ds' h tt =>
    obtain ⟨g1, e1, e2⟩ := Option.bind_eq_some_iff.mp e
    refine ⟨v, vs', rfl, I, g, d, o, h, g1, e1, fun σ1 o1 y1 d1 => ?_⟩
    exact ⟨I, g1, ds', o1, tt, g', e2, fun σ2 o2 y2 d2 => k σ2 o2 (y1.trans y2) ⟨d2.1.trans d1.1, fun j hj => (d2.2 j fun q => hj (List.mem_append_right _ q)).trans (d1.2 j fun q => hj (List.mem_append_left _ q))⟩⟩⟩
theorem vg_tup {es : List Expr} {k : Nat} {ts : List Tg} {pos : Pos} (hc : X.calm = true) (h : VGs X es ts)
    (hn : (assignEach es X.env).length = ts.length := by rfl) (hst : (assignEach es X.env).findIdx? (·.1) = none := by rfl) : VG X (.Tuple es k pos) (.tup ts) := ⟨pg_imp (pg_tup hc h.pgs hn hst) fun v σ H Q ⟨I, g, d, o, r, g', e, k⟩ => by
  cases d <;> first | (cases e; done) | skip
  rename_i ds
  cases r with
  | tup hq rr =>
    have hl : ∀ (ts : List Tg) (ds : List D) (g g' : Sg), tgsF ts ds g = some g' → ds.length = ts.length := by
      intro ts
      induction ts with
      | nil => intro ds g g' e; cases ds with
        | nil => rfl
        | cons _ _ => cases e
      | cons t ts ih => intro ds g g' e; cases ds with
        | nil => cases e
        | cons d ds =>
          obtain ⟨g1, _, e2⟩ := Option.bind_eq_some_iff.mp e
          rw [List.length_cons, List.length_cons, ih ds g1 g' e2]
    exact ⟨_, _, rfl, o.sub.sqT hq, by rw [rr.length]; exact hl ts ds g g' e, I, g, ds, o, rr, g', e, k⟩⟩
def asgF (t : Tg) (f : Ft) : Fs := fun g => bindE (settle (f g)) fun x g1 => match frz1 x g1 with
  | some (d, g2) => (match tgF t d g2 with | some g3 => .nx g3 | none => .stuck)
  | none => .stuck
theorem RemS.settled {K : PySem.W.Frag} {c0 : Cfg} {r : Res RV} {k : RV → Sg → Rs} {D : Ends} (h : RemS K W c0 (Vl.bindE (Vl.settle r) k) D) : Rem K W (RvR K) c0 r fun v H1 => ∃ I1 g1 x, Ok K ⟨I1, c0.σ, H1, g1⟩ ∧ Go c0 ⟨I1, c0.σ, H1, g1⟩ ∧ (∃ c', RvR K c' ⟨I1, c0.σ, H1, g1⟩ v x ∧ ∀ d, x ≠ .fr d) ∧ RemS K W c0 (k x g1) D := by
  have nf : ∀ x g', Vl.settle r = .ok x g' → ∀ d, x ≠ .fr d := fun x g' h => settle_nofr h
  refine Rem.settle ?_
  revert nf h
  generalize Vl.settle r = sr
  intro h nf
  cases sr with
  | ok x g => exact fun I H v o y rv => ⟨I, g, x, o, y, ⟨_, rv, nf x g rfl⟩, h⟩
  | exn c fs g => exact fun I H e o y rv => h I _ H e o y rv
  | stuck => exact h
def ItOk (K : PySem.W.Frag) (c1 : Cfg) (J : It) (ds : List D) : Prop := ∀ c2 : Cfg, Go c1 c2 → Ok K c2 → ∀ n : Nat,
  (∀ d, ds[n]? = some d → J.go n c2.H ∧ ∀ x H', J.yld n c2.H x H' → ∃ I', Ok K ⟨I', c2.σ, H', c2.g⟩ ∧ Go c2 ⟨I', c2.σ, H', c2.g⟩ ∧ Rep K I' x d) ∧ (ds.length ≤ n → J.stop n c2.H)
def RemI (K : PySem.W.Frag) (W : WX) (c0 : Cfg) (r : Res (List D)) (R : It → Hp → Prop) : Prop := match r with
  | .ok ds g => ∀ I H J, Ok K ⟨I, c0.σ, H, g⟩ → Go c0 ⟨I, c0.σ, H, g⟩ → ItOk K ⟨I, c0.σ, H, g⟩ J ds → R J H
  | .exn x fs g => ∀ I H e, Ok K ⟨I, c0.σ, H, g⟩ → Go c0 ⟨I, c0.σ, H, g⟩ → XdAt K c0 ⟨I, c0.σ, H, g⟩ e fs → W (.ref (He.ga K x)) (some e) c0.σ H
  | .stuck => False
abbrev Fi := Sg → Res (List D)
def rdI (K : PySem.W.Frag) (W : WX) (f : Fi) : TI := fun σ H R => ∃ I g, Ok K ⟨I, σ, H, g⟩ ∧ RemI K W ⟨I, σ, H, g⟩ (f g) R
structure VI (X : Cx) (W : WX) (tg iter : Expr) (f : Fi) : Prop where
  pi : PI X tg iter (rdI X.K W f)
theorem pi_imp {tg e : Expr} {t t' : TI} (h : PI X tg e t) (k : ∀ σ H R, t' σ H R → t σ H R) : PI X tg e t' := ⟨fun pins s σ H R I hw => h.run pins s σ H R I (k σ H R hw)⟩
theorem PI.or {tg e : Expr} {t t' : TI} (h : PI X tg e t) (h' : PI X tg e t') : PI X tg e (fun σ H R => t σ H R ∨ t' σ H R) := ⟨fun pins s σ H R I hw => hw.elim (h.run pins s σ H R I) (h'.run pins s σ H R I)⟩
def charsD (z : Str) : List D := z.cps.toList.map fun c => .str ⟨#[c]⟩
def itemsOf : D → Option (List D)
  | .lst xs => some xs
  | .seq xs => some xs
  | .tup xs => some xs
  | .str z => some (charsD z)
  | _ => none
def iterF (f : Ft) : Fi := fun g => (settle (f g)).bind fun x g1 => match frz1 x g1 with
  | some (d, g2) => (match itemsOf d with | some ds => .ok ds g2 | none => .stuck)
  | none => .stuck
theorem RemI.settled {K : PySem.W.Frag} {c0 : Cfg} {r : Res RV} {k : RV → Sg → Res (List D)} {R : It → Hp → Prop} (h : RemI K W c0 ((Vl.settle r).bind k) R) : Rem K W (RvR K) c0 r fun v H1 => ∃ I1 g1 x, Ok K ⟨I1, c0.σ, H1, g1⟩ ∧ Go c0 ⟨I1, c0.σ, H1, g1⟩ ∧ (∃ c', RvR K c' ⟨I1, c0.σ, H1, g1⟩ v x ∧ ∀ d, x ≠ .fr d) ∧ RemI K W c0 (k x g1) R := by
  have nf : ∀ x g', Vl.settle r = .ok x g' → ∀ d, x ≠ .fr d := fun x g' h => settle_nofr h
  refine Rem.settle ?_
  revert nf h
  generalize Vl.settle r = sr
  intro h nf
  cases sr with
  | ok x g => exact fun I H v o y rv => ⟨I, g, x, o, y, ⟨_, rv, nf x g rfl⟩, h⟩
  | exn c fs g => exact h
  | stuck => exact h
theorem itOk_list {K : PySem.W.Frag} {c : Cfg} {a : Addr} {xs : List V} {ds : List D} (h : SqL K c.I a xs) (r : Reps K c.I xs ds) : ItOk K c (Itl K a) ds := fun c2 y o n => by
  have h2 : SqL K c2.H a xs := o.sub.sqL (y.sub.sqL h)
  refine ⟨fun d e => ?_, fun e => ⟨xs, h2, by rw [r.length]; exact e⟩⟩
  obtain ⟨v, hv, rv⟩ := r.get e
  refine ⟨⟨xs, v, h2, hv⟩, fun x H' ⟨eH, hx⟩ => ?_⟩
  subst eH
  have := hx xs h2
  rw [hv] at this
  cases this
  exact ⟨c2.I, o, Go.refl _, rv.mono y.sub⟩
theorem itOk_tup {K : PySem.W.Frag} {c : Cfg} {a : Addr} {xs : List V} {ds : List D} (h : SqT K c.I a xs) (r : Reps K c.I xs ds) : ItOk K c (Itt K a) ds := fun c2 y o n => by
  have h2 : SqT K c2.H a xs := o.sub.sqT (y.sub.sqT h)
  refine ⟨fun d e => ?_, fun e => ⟨xs, h2, by rw [r.length]; exact e⟩⟩
  obtain ⟨v, hv, rv⟩ := r.get e
  refine ⟨⟨xs, v, h2, hv⟩, fun x H' ⟨eH, hx⟩ => ?_⟩
  subst eH
  have := hx xs h2
  rw [hv] at this
  cases this
  exact ⟨c2.I, o, Go.refl _, rv.mono y.sub⟩
theorem itOk_str {K : PySem.W.Frag} {c : Cfg} {z : Str} : ItOk K c (Its z) (charsD z) := fun c2 y o n => by
  refine ⟨fun d e => ?_, fun e => ?_⟩
  · unfold charsD at e
    rw [List.getElem?_map, Option.map_eq_some_iff] at e
    obtain ⟨c1, e1, rfl⟩ := e
    have e1' : z.cps[n]? = some c1 := by rw [← Array.getElem?_toList]; exact e1
    refine ⟨(Array.getElem?_eq_some_iff.mp e1').1, fun x H' ⟨eH, k, ek, ex⟩ => ?_⟩
    subst eH
    rw [e1'] at ek
    cases ek
    subst ex
    exact ⟨c2.I, o, Go.refl _, .str _⟩
  · unfold charsD at e
    rw [List.length_map, Array.length_toList] at e
    exact e
theorem vi_of {tg e : Expr} {fe : Ft} (h : VE X W e fe) : VI X W tg e (iterF fe) := by
  refine ⟨pi_imp (PI.or (pi_list h.pe) (PI.or (pi_tup h.pe) (pi_str h.pe))) fun σ H R ⟨I, g, o, r⟩ => ?_⟩
  have r0 := RemI.settled r
  unfold iterF at r
  -- which of the three is decided by the result
  have key : ∀ (P : V → Hp → Prop), (∀ v H1 I1 g1 d, Ok X.K ⟨I1, σ, H1, g1⟩ → Go ⟨I, σ, H, g⟩ ⟨I1, σ, H1, g1⟩ → Rep X.K I1 v d → RemI X.K W ⟨I, σ, H, g⟩ (match itemsOf d with | some ds => .ok ds g1 | none => .stuck) R →
      (∃ x g0, settle (fe g) = .ok x g0 ∧ frz1 x g0 = some (d, g1)) → P v H1) → rdE X.K W fe σ H P := by
    intro P hP
    refine ⟨I, g, o, ?_⟩
    have nf : ∀ x g', Vl.settle (fe g) = .ok x g' → ∀ d, x ≠ .fr d := fun x g' h => settle_nofr h
    refine Rem.settle ?_
    revert hP nf r
    generalize Vl.settle (fe g) = sr
    intro r hP nf
    cases sr with
    | stuck => exact r
    | exn c fs g => exact r
    | ok x g0 =>
      intro I1 H1 v o1 y1 rx
      have r : RemI X.K W ⟨I, σ, H, g⟩ (match frz1 x g0 with
        | some (d, g2) => (match itemsOf d with | some ds => .ok ds g2 | none => .stuck)
        | none => .stuck) R := r
      cases e : frz1 x g0 with
      | none => rw [e] at r; exact r.elim
      | some p =>
        obtain ⟨d, g1⟩ := p
        rw [e] at r
        obtain ⟨I2, o2, y2, rr⟩ := frz1_ok (c0 := ⟨I, σ, H, g⟩) o1 rx (nf x g0 rfl) e
        exact hP v H1 I2 g1 d o2 (y1.trans y2) rr r ⟨x, g0, rfl, e⟩
  -- by what the iterable is
  by_cases hc : ∃ x g0 d g1, settle (fe g) = .ok x g0 ∧ frz1 x g0 = some (d, g1) ∧ ((∃ xs, d = .tup xs) ∨ ∃ z, d = .str z)
  · obtain ⟨x0, g0, d0, g1, e0, e1, hd⟩ := hc
    rcases hd with ⟨xs, rfl⟩ | ⟨z, rfl⟩
    · refine .inr (.inl (key _ fun v H1 I1 g2 d o1 y1 rr r1 ⟨x, g3, e2, e3⟩ => ?_))
      rw [e0] at e2
      cases e2
      rw [e1] at e3
      cases e3
      cases rr with
      | tup hq rr => exact ⟨_, rfl, ⟨_, o1.sub.sqT hq⟩, r1 I1 H1 _ o1 y1 (itOk_tup hq rr)⟩
    · refine .inr (.inr (key _ fun v H1 I1 g2 d o1 y1 rr r1 ⟨x, g3, e2, e3⟩ => ?_))
      rw [e0] at e2
      cases e2
      rw [e1] at e3
      cases e3
      cases rr
      exact ⟨z, rfl, r1 I1 H1 _ o1 y1 itOk_str⟩
  · refine .inl (key _ fun v H1 I1 g2 d o1 y1 rr r1 ⟨x, g3, e2, e3⟩ => ?_)
    cases d <;> first | exact r1.elim | skip
    · exact (hc ⟨x, g3, _, g2, e2, e3, .inr ⟨_, rfl⟩⟩).elim
    · cases rr with
      | lst hq rr => exact ⟨_, rfl, ⟨_, SqL.of (o1.sub _ _ hq)⟩, r1 I1 H1 _ o1 y1 (itOk_list (SqL.of hq) rr)⟩
    · cases rr with
      | seq hq rr => exact ⟨_, rfl, ⟨_, o1.sub.sqL hq⟩, r1 I1 H1 _ o1 y1 (itOk_list hq rr)⟩
    · exact (hc ⟨x, g3, _, g2, e2, e3, .inl ⟨_, rfl⟩⟩).elim
def rangeD (lo : Int) (n : Nat) : List D := (List.range n).map fun i : Nat => .int (lo + i)
def rangeOf1 : List D → Option (List D)
  | [.int j] => if decide (-(2 ^ 62) ≤ j ∧ j < 2 ^ 62) = true then some (rangeD 0 j.toNat) else none
  | _ => none
def rangeOf2 : List D → Option (List D)
  | [.int i, .int j] => if decide (-(2 ^ 62) ≤ i ∧ i < 2 ^ 62 ∧ -(2 ^ 62) ≤ j ∧ j < 2 ^ 62) = true then some (rangeD i (j - i).toNat) else none
  | _ => none
def argsI (k : List D → Option (List D)) (fs : List Ft) : Fi := fun g => (evA fs g).bind fun xs g1 => match frzA xs g1 with
  | some (ds, g2) => (match k ds with | some r => .ok r g2 | none => .stuck)
  | none => .stuck
def argsV (fs : List Ft) (g : Sg) : Option (List D) := match evA fs g with
  | .ok xs g1 => (frzA xs g1).map (·.1)
  | _ => none
theorem argsI_rd' {fs : List Ft} {k : List D → Option (List D)} {I : Hp} {g : Sg} {σ : L2.St} {H : Hp} {R : It → Hp → Prop} {P : List V → Hp → Prop} (o : Ok X.K ⟨I, σ, H, g⟩) (r : RemI X.K W ⟨I, σ, H, g⟩ (argsI k fs g) R)
    (hr : ∀ c vs ds r, Ok X.K c → Reps X.K c.I vs ds → argsV fs g = some ds → k ds = some r → (∀ J, ItOk X.K c J r → R J c.H) → P vs c.H) : rdA X.K W fs σ H P := by
  refine ⟨I, g, o, ?_⟩
  unfold argsI at r
  unfold argsV at hr
  revert r hr
  generalize evA fs g = sr
  intro r hr
  cases sr with
  | stuck => exact r
  | exn c fs g => exact r
  | ok xs g0 =>
    intro I1 H1 vs o1 y1 rx
    have r : RemI X.K W ⟨I, σ, H, g⟩ (match frzA xs g0 with
      | some (ds, g2) => (match k ds with | some r => .ok r g2 | none => .stuck)
      | none => .stuck) R := r
    cases e : frzA xs g0 with
    | none => rw [e] at r; exact r.elim
    | some p =>
      obtain ⟨ds, g1⟩ := p
      rw [e] at r
      obtain ⟨I2, o2, y2, rr⟩ := frzA_ok o1 rx e
      dsimp only at r
      cases e2 : k ds with
      | none => rw [e2] at r; exact r.elim
      | some l =>
        rw [e2] at r
        exact hr ⟨I2, σ, H1, g1⟩ vs ds l o2 rr (by simp [e]) e2 fun J hJ => r I2 H1 J o2 (y1.trans y2) hJ
theorem argsI_rd {fs : List Ft} {k : List D → Option (List D)} {σ : L2.St} {H : Hp} {R : It → Hp → Prop} {P : List V → Hp → Prop} (h : rdI X.K W (argsI k fs) σ H R)
    (hr : ∀ c vs ds r, Ok X.K c → Reps X.K c.I vs ds → k ds = some r → (∀ J, ItOk X.K c J r → R J c.H) → P vs c.H) : rdA X.K W fs σ H P := by
  obtain ⟨I, g, o, r⟩ := h
  exact argsI_rd' o r fun c vs ds r o rr _ ek hJ => hr c vs ds r o rr ek hJ
theorem itOk_rng {K : PySem.W.Frag} {c : Cfg} {lo : Int} {n : Nat} : ItOk K c (Itr lo n) (rangeD lo n) := fun c2 y o i => by
  refine ⟨fun d e => ?_, fun e => by rw [rangeD, List.length_map, List.length_range] at e; exact e⟩
  have hi : i < n := by
    have := (List.getElem?_eq_some_iff.mp e).1
    simpa [rangeD] using this
  simp [rangeD, hi] at e
  subst e
  refine ⟨hi, fun x H' ⟨eH, ex⟩ => ?_⟩
  subst eH ex
  exact ⟨c2.I, o, Go.refl _, .int _⟩
theorem vi_range1 {tg a : Expr} {fs : List Ft} {p pos : Pos} (hg : Gl X "range") (hm : X.mg "range" = none) (ha : VA X W [a] fs) (hs : starEach [a] X.env = [(false, eval a X.env)] := by rfl) : VI X W tg (.Call (.Name "range" p) [a] [] pos) (argsI rangeOf1 fs) := by
  refine ⟨pi_imp (pi_range1 hg hm ha.pa hs) fun σ H R r => argsI_rd r fun c vs ds l o rr ek hJ => ?_⟩
  unfold rangeOf1 at ek
  split at ek
  · rename_i j
    split at ek
    · rename_i hj
      cases ek
      have hj := of_decide_eq_true hj
      cases rr with
      | cons h t => cases h; cases t; exact ⟨j, rfl, hj.1, hj.2, hJ _ itOk_rng⟩
    · cases ek
  · cases ek
def enumD (xs : List D) : List D := xs.mapIdx fun i d => .tup [.int (i : Nat), d]
def enumOf : List D → Option (List D)
  | [.lst xs] => some (enumD xs)
  | [.seq xs] => some (enumD xs)
  | [.tup xs] => some (enumD xs)
  | _ => none
theorem itOk_new {K : PySem.W.Frag} {c2 : Cfg} {T : Addr} {vs : List V} {ds : List D} (o : Ok K c2) (hT : c2.H T = none) (r : Reps K c2.I vs ds) :
    ∃ I', Ok K ⟨I', c2.σ, upd c2.H T (.tup vs), c2.g⟩ ∧ Go c2 ⟨I', c2.σ, upd c2.H T (.tup vs), c2.g⟩ ∧ Rep K I' (.ref T) (.tup ds) := by
  obtain ⟨I, σ, H, g⟩ := c2
  have fr : Fr H T := ⟨hT⟩
  have n : I T = none := by
    cases e : I T with
    | none => rfl
    | some u => exact (no_some fr.e (o.sub T u e)).elim
  have x : Xb [] H (upd H T (.tup vs)) := Xb.new hT
  have nw : ¬ Cfg.Own ⟨I, σ, upd H T (.tup vs), g⟩ T := fun q => by
    obtain ⟨v, hv⟩ := o.own_some (a := T) q
    exact no_some fr.e hv
  exact ⟨upd I T (.tup vs), (o.new x).frz upd_same n nw .tup, (Go.new x).frz n fr.e, .tup (SqT.of upd_same) (r.mono (Le.upd n))⟩
theorem itOk_enumL {K : PySem.W.Frag} {c : Cfg} {a : Addr} {xs : List V} {ds : List D} (h : SqL K c.I a xs) (r : Reps K c.I xs ds) : ItOk K c (Ite K a) (enumD ds) := fun c2 y o n => by
  have h2 : SqL K c2.H a xs := o.sub.sqL (y.sub.sqL h)
  refine ⟨fun d e => ?_, fun e => ⟨xs, h2, by rw [r.length]; simpa [enumD] using e⟩⟩
  unfold enumD at e
  rw [List.getElem?_mapIdx, Option.map_eq_some_iff] at e
  obtain ⟨d0, e1, rfl⟩ := e
  obtain ⟨v, hv, rv⟩ := r.get e1
  refine ⟨⟨xs, v, h2, hv⟩, fun x H' ⟨T, z, ex, hT, eH, hz⟩ => ?_⟩
  have := hz xs h2
  rw [hv] at this
  cases this
  subst ex eH
  exact itOk_new o hT (.cons (.int _) (.one (rv.mono y.sub)))
theorem itOk_enumT {K : PySem.W.Frag} {c : Cfg} {a : Addr} {xs : List V} {ds : List D} (h : SqT K c.I a xs) (r : Reps K c.I xs ds) : ItOk K c (IteT K a) (enumD ds) := fun c2 y o n => by
  have h2 : SqT K c2.H a xs := o.sub.sqT (y.sub.sqT h)
  refine ⟨fun d e => ?_, fun e => ⟨xs, h2, by rw [r.length]; simpa [enumD] using e⟩⟩
  unfold enumD at e
  rw [List.getElem?_mapIdx, Option.map_eq_some_iff] at e
  obtain ⟨d0, e1, rfl⟩ := e
  obtain ⟨v, hv, rv⟩ := r.get e1
  refine ⟨⟨xs, v, h2, hv⟩, fun x H' ⟨T, z, ex, hT, eH, hz⟩ => ?_⟩
  have := hz xs h2
  rw [hv] at this
  cases this
  subst ex eH
  exact itOk_new o hT (.cons (.int _) (.one (rv.mono y.sub)))
theorem vi_enum {e : Expr} {fs : List Ft} {p pos tpos : Pos} {elts : List Expr} {kk : Nat} (hg : Gl X "enumerate") (hm : X.mg "enumerate" = none) (ha : VA X W [e] fs) (hs : starEach [e] X.env = [(false, eval e X.env)] := by rfl) :
    VI X W (.Tuple elts kk tpos) (.Call (.Name "enumerate" p) [e] [] pos) (argsI enumOf fs) := by
  refine ⟨pi_imp (PI.or (pi_enum hg hm ha.pa hs) (pi_enumT hg hm ha.pa hs)) fun σ H R ⟨I, g, o, r⟩ => ?_⟩
  by_cases hc : ∃ ys, argsV fs g = some [.tup ys]
  · obtain ⟨ys, hc⟩ := hc
    refine .inr (argsI_rd' o r fun c vs ds l o rr ea ek hJ => ?_)
    rw [hc] at ea
    cases ea
    cases ek
    cases rr with
    | cons h t => cases t; cases h with
      | tup hq rq => exact ⟨_, _, rfl, o.sub.sqT hq, hJ _ (itOk_enumT hq rq)⟩
  · refine .inl (argsI_rd' o r fun c vs ds l o rr ea ek hJ => ?_)
    unfold enumOf at ek
    split at ek
    · cases ek
      cases rr with
      | cons h t => cases t; cases h with
        | lst hq rq => exact ⟨_, _, rfl, SqL.of (o.sub _ _ hq), hJ _ (itOk_enumL (SqL.of hq) rq)⟩
    · cases ek
      cases rr with
      | cons h t => cases t; cases h with
        | seq hq rq => exact ⟨_, _, rfl, o.sub.sqL hq, hJ _ (itOk_enumL hq rq)⟩
    · exact (hc ⟨_, ea⟩).elim
    · cases ek
def zipD (xs ys : List D) : List D := List.zipWith (fun a b => .tup [a, b]) xs ys
def zipOf : List D → Option (List D)
  | [.lst xs, .lst ys] => some (zipD xs ys)
  | [.tup xs, .tup ys] => some (zipD xs ys)
  | _ => none
theorem itOk_zipL {K : PySem.W.Frag} {c : Cfg} {a b : Addr} {xs ys : List V} {ds es : List D} (h : SqL K c.I a xs) (h' : SqL K c.I b ys) (r : Reps K c.I xs ds) (r' : Reps K c.I ys es) : ItOk K c (Itz K a b) (zipD ds es) := fun c2 y o n => by
  have h2 : SqL K c2.H a xs := o.sub.sqL (y.sub.sqL h)
  have h3 : SqL K c2.H b ys := o.sub.sqL (y.sub.sqL h')
  refine ⟨fun d e => ?_, fun e => ⟨xs, ys, h2, h3, ?_⟩⟩
  · unfold zipD at e
    rw [List.getElem?_zipWith] at e
    cases e1 : ds[n]? with
    | none => rw [e1] at e; cases e
    | some d1 =>
      cases e2 : es[n]? with
      | none => rw [e1, e2] at e; cases e
      | some d2 =>
        rw [e1, e2] at e
        cases e
        obtain ⟨v, hv, rv⟩ := r.get e1
        obtain ⟨u, hu, ru⟩ := r'.get e2
        refine ⟨⟨xs, ys, v, u, h2, h3, hv, hu⟩, fun x H' ⟨T, z1, z2, ex, hT, eH, hz1, hz2⟩ => ?_⟩
        have k1 := hz1 xs h2
        have k2 := hz2 ys h3
        rw [hv] at k1
        rw [hu] at k2
        cases k1
        cases k2
        subst ex eH
        exact itOk_new o hT (.cons (rv.mono y.sub) (.one (ru.mono y.sub)))
  · rw [r.length, r'.length]
    simp only [zipD, List.length_zipWith] at e
    omega
theorem itOk_zipT {K : PySem.W.Frag} {c : Cfg} {a b : Addr} {xs ys : List V} {ds es : List D} (h : SqT K c.I a xs) (h' : SqT K c.I b ys) (r : Reps K c.I xs ds) (r' : Reps K c.I ys es) : ItOk K c (RZ.ItzT K a b) (zipD ds es) := fun c2 y o n => by
  have h2 : SqT K c2.H a xs := o.sub.sqT (y.sub.sqT h)
  have h3 : SqT K c2.H b ys := o.sub.sqT (y.sub.sqT h')
  refine ⟨fun d e => ?_, fun e => ⟨xs, ys, h2, h3, ?_⟩⟩
  · unfold zipD at e
    rw [List.getElem?_zipWith] at e
    cases e1 : ds[n]? with
    | none => rw [e1] at e; cases e
    | some d1 =>
      cases e2 : es[n]? with
      | none => rw [e1, e2] at e; cases e
      | some d2 =>
        rw [e1, e2] at e
        cases e
        obtain ⟨v, hv, rv⟩ := r.get e1
        obtain ⟨u, hu, ru⟩ := r'.get e2
        refine ⟨⟨xs, ys, v, u, h2, h3, hv, hu⟩, fun x H' ⟨T, z1, z2, ex, hT, eH, hz1, hz2⟩ => ?_⟩
        have k1 := hz1 xs h2
        have k2 := hz2 ys h3
        rw [hv] at k1
        rw [hu] at k2
        cases k1
        cases k2
        subst ex eH
        exact itOk_new o hT (.cons (rv.mono y.sub) (.one (ru.mono y.sub)))
  · rw [r.length, r'.length]
    simp only [zipD, List.length_zipWith] at e
    omega
theorem vi_zip {e e2 : Expr} {fs : List Ft} {p pos tpos : Pos} {elts : List Expr} {kk : Nat} (hg : Gl X "zip") (hm : X.mg "zip" = none) (ha : VA X W [e, e2] fs)
    (hs : starEach [e, e2] X.env = (false, eval e X.env) :: starEach [e2] X.env := by rfl) (hpl : (backTo pos (starEach [e2] X.env)).any (·.1) = false := by rfl) : VI X W (.Tuple elts kk tpos) (.Call (.Name "zip" p) [e, e2] [] pos) (argsI zipOf fs) := by
  refine ⟨pi_imp (RZ.pi_zipA hg hm ha.pa hs hpl) fun σ H R r => argsI_rd r fun c vs ds l o rr ek hJ => ?_⟩
  unfold zipOf at ek
  split at ek
  · cases ek
    cases rr with
    | cons h t => cases t with
      | cons h' t => cases t; cases h with
        | lst hq rq => cases h' with
          | lst hq' rq' => exact ⟨_, _, _, _, rfl, .inl ⟨SqL.of (o.sub _ _ hq), SqL.of (o.sub _ _ hq'), hJ _ (itOk_zipL (SqL.of hq) (SqL.of hq') rq rq')⟩⟩
  · cases ek
    cases rr with
    | cons h t => cases t with
      | cons h' t => cases t; cases h with
        | tup hq rq => cases h' with
          | tup hq' rq' => exact ⟨_, _, _, _, rfl, .inr ⟨o.sub.sqT hq, o.sub.sqT hq', hJ _ (itOk_zipT hq hq' rq rq')⟩⟩
  · cases ek
def loopF (t : Tg) (body : Fs) : List D → Sg → Rs
  | [], g => .nx g
  | d :: ds, g => match tgF t d g with
    | some g1 => (match body g1 with
      | .nx g2 => loopF t body ds g2
      | .ct g2 => loopF t body ds g2
      | .bk g2 => .nx g2
      | r => r)
    | none => .stuck
def forF (fi : Fi) (t : Tg) (body : Fs) : Fs := fun g => bindE (fi g) fun ds g1 => loopF t body ds g1
theorem vs_for {tg iter : Expr} {body : List Stmt} {fi : Fi} {t : Tg} {fb : Fs} {pos : Pos} (hp : PassesOwn (model X.prog X.w) X.A X.env X.xe) (hc : X.calm = true) (hi : VI X W tg iter fi) (hg : VG X tg t) (hb : VSs X W body fb)
    (hs : ∀ x, foldedSetIterable iter X.env x = pure x := by intro _; rfl) : VS X W (.For tg iter body [] pos) (forF fi t fb) := by
  refine ⟨ps_imp' (ps_for hp hc hi.pi hg.pg hb.pss hs) fun D σ H ⟨I, g, o, r⟩ => ?_⟩
  refine ⟨I, g, o, ?_⟩
  unfold forF at r
  cases e : fi g with
  | stuck => rw [e] at r; exact r
  | exn c fs g' => rw [e] at r; exact fun I1 H1 e1 o1 y1 x1 => r I1 σ H1 e1 o1 y1 x1
  | ok ds g1 =>
    rw [e] at r
    intro I1 H1 J o1 y1 hJ
    refine ⟨fun i m σ2 H2 => m = ds.length - i ∧ i ≤ ds.length ∧ ∃ I2 g2, Ok X.K ⟨I2, σ2, H2, g2⟩ ∧ Go ⟨I1, σ, H1, g1⟩ ⟨I2, σ2, H2, g2⟩ ∧ RemS X.K W ⟨I2, σ2, H2, g2⟩ (loopF t fb (ds.drop i) g2) D,
      ⟨ds.length, by simp, Nat.zero_le _, I1, g1, o1, Go.refl _, RemS.go y1 r⟩, ?_⟩
    rintro i m σ2 H2 ⟨rfl, hi', I2, g2, o2, y2, r2⟩
    obtain ⟨k1, k2⟩ := hJ ⟨I2, σ2, H2, g2⟩ y2 o2 i
    by_cases hlt : i < ds.length
    · obtain ⟨q1, q2⟩ := k1 ds[i] (List.getElem?_eq_getElem hlt)
      refine .inr ⟨q1, fun σ3 H3 => ∃ I3 g3, Ok X.K ⟨I3, σ3, H3, g3⟩ ∧ Go ⟨I1, σ, H1, g1⟩ ⟨I3, σ3, H3, g3⟩ ∧ RemS X.K W ⟨I3, σ3, H3, g3⟩ (loopF t fb (ds.drop (i + 1)) g3) D,
        fun σ' H' ⟨I3, g3, o3, y3, r3⟩ => ⟨ds.length - (i + 1), by omega, rfl, hlt, I3, g3, o3, y3, r3⟩, fun x H' hy => ?_⟩
      obtain ⟨I3, o3, y3, rv⟩ := q2 x H' hy
      rw [List.drop_eq_getElem_cons hlt] at r2
      unfold loopF at r2
      split at r2
      · rename_i g4 e4
        refine ⟨I3, g2, ds[i], o3, rv, g4, e4, fun σ4 o4 y4 _ => ?_⟩
        have y14 := y2.trans (y3.trans y4)
        refine ⟨I3, g4, o4, ?_⟩
        have r5 := RemS.go (y3.trans y4) r2
        cases q : fb g4 with
        | nx g5 => rw [q] at r5; exact fun I5 σ5 H5 o5 y5 => ⟨I5, g5, o5, y14.trans y5, RemS.go y5 r5⟩
        | ct g5 => rw [q] at r5; exact fun I5 σ5 H5 o5 y5 => ⟨I5, g5, o5, y14.trans y5, RemS.go y5 r5⟩
        | bk g5 => rw [q] at r5; exact r5
        | rt x g5 => rw [q] at r5; exact r5
        | exn c fs g5 => rw [q] at r5; exact r5
        | stuck => rw [q] at r5; exact r5
      · exact r2.elim
    · have e5 : i = ds.length := by omega
      subst e5
      rw [List.drop_length] at r2
      exact .inl ⟨k2 (Nat.le_refl _), r2 I2 σ2 H2 o2 (Go.refl _)⟩
def Rs.fin : Rs → Prop
  | .stuck => False
  | _ => True
end
end Vl
set_option Elab.async false
set_option linter.all false
set_option maxRecDepth 100000
set_option maxHeartbeats 2000000
namespace Vl
open PySem PySem.Spec PyProof.Rows L2 My
abbrev W0 : WX := fun _ _ _ _ => False
theorem takes0' {X : Cx} : Takes X W0 := fun u s' ⟨_, _, _, _, _, _, _, _, _, _, _, _, _, _, _, _, w⟩ => w.elim
def wipeG (g : Sg) : List Nat → Sg
  | [] => g
  | v :: vs => (wipeG g vs).set v .un
theorem wipeG_get {g : Sg} {j : Nat} {s : Sl} : ∀ {vs : List Nat}, (wipeG g vs)[j]? = some s → s = .un ∨ (g[j]? = some s ∧ j ∉ vs)
  | [], h => .inr ⟨h, by simp⟩
  | v :: vs, h => by
    rcases get_set_of h with ⟨_, e⟩ | ⟨n, h⟩
    · exact .inl e
    · rcases wipeG_get h with e | ⟨e, m⟩
      · exact .inl e
      · exact .inr ⟨e, by simp [n, m]⟩
theorem wipe_get {σ : L2.St} {j : Nat} : ∀ {vs : List Nat}, j ∉ vs → (wipe σ vs)[j]? = σ[j]?
  | [], _ => rfl
  | v :: vs, h => by
    simp only [List.mem_cons, not_or] at h
    show ((wipe σ vs).set v none)[j]? = _
    rw [List.getElem?_set_ne (fun z => h.1 z.symm)]
    exact wipe_get h.2
theorem wipe_dif {σ σ' : L2.St} {vs : List Nat} (hl : σ'.length = σ.length) (h : ∀ j, j ∉ vs → σ'[j]? = σ[j]?) : wipe σ' vs = wipe σ vs := by
  apply List.ext_getElem?
  intro j
  by_cases hj : j ∈ vs
  · have key : ∀ (σ : L2.St) (vs : List Nat), j ∈ vs → j < σ.length → (wipe σ vs)[j]? = some none := by
      intro σ vs
      induction vs with
      | nil => intro h; cases h
      | cons v vs ih =>
        intro h hlt
        show ((wipe σ vs).set v none)[j]? = _
        by_cases e : v = j
        · subst e
          rw [List.getElem?_set_self (by rw [wipe_length]; exact hlt)]
        · rw [List.getElem?_set_ne e]
          rcases List.mem_cons.mp h with h | h
          · exact absurd h.symm e
          · exact ih h hlt
    by_cases hlt : j < σ.length
    · rw [key σ' vs hj (by rw [hl]; exact hlt), key σ vs hj hlt]
    · rw [List.getElem?_eq_none (by rw [wipe_length, hl]; omega), List.getElem?_eq_none (by rw [wipe_length]; omega)]
  · rw [wipe_get hj, wipe_get hj]
    exact h j hj
theorem Ok.wiped {K : PySem.W.Frag} {I H : Hp} {σ σ' : L2.St} {g : Sg} {vs : List Nat} (o : Ok K ⟨I, σ, H, g⟩) (hl : σ'.length = σ.length) (h : ∀ j, j ∉ vs → σ'[j]? = σ[j]?) : Ok K ⟨I, σ', H, wipeG g vs⟩ where
  sub := o.sub
  nt := o.nt
  tab := o.tab
  sl := fun j s q => by
    have hlen : ∀ vs : List Nat, (wipeG g vs).length = g.length := by
      intro vs
      induction vs with
      | nil => rfl
      | cons v vs ih => show ((wipeG g vs).set v .un).length = _; rw [List.length_set]; exact ih
    have hj : j < g.length := by
      have := (List.getElem?_eq_some_iff.mp q).1
      rw [hlen] at this
      exact this
    obtain ⟨u, hu, _⟩ := o.sl j g[j] (List.getElem?_eq_getElem hj)
    have hs : j < σ'.length := by rw [hl]; exact (List.getElem?_eq_some_iff.mp hu).1
    rcases wipeG_get q with rfl | ⟨q, m⟩
    · exact ⟨_, List.getElem?_eq_getElem hs, trivial⟩
    · obtain ⟨v, h1, h2⟩ := o.sl j s q
      exact ⟨v, (h j m).trans h1, h2⟩
  dist := fun j k t t' d d' q q' e => by
    rcases wipeG_get q with z | ⟨q, m⟩
    · cases z
    · rcases wipeG_get q' with z | ⟨q', m'⟩
      · cases z
      · exact o.dist j k t t' d d' q q' (((h j m).symm.trans e).trans (h k m'))
theorem Go.wiped {I H : Hp} {σ σ' : L2.St} {g : Sg} {vs : List Nat} (h : ∀ j, j ∉ vs → σ'[j]? = σ[j]?) : Go ⟨I, σ, H, g⟩ ⟨I, σ', H, wipeG g vs⟩ where
  sub := Le.refl _
  keep := fun _ _ h _ _ => h
  dom := fun _ h => h
  grow := fun _ h h' => (h' h).elim
  own := fun a ⟨j, t, d, h1, h2⟩ => by
    rcases wipeG_get h1 with z | ⟨q, m⟩
    · cases z
    · exact .inl ⟨j, t, d, q, (h j m).symm.trans h2⟩
  ownf := fun a ⟨j, d, h1, h2⟩ => by
    rcases wipeG_get h1 with z | ⟨q, m⟩
    · cases z
    · exact .inl ⟨j, d, q, (h j m).symm.trans h2⟩
  tag := fun j s' q t => by
    rcases wipeG_get q with rfl | ⟨q, m⟩
    · cases t
    · exact ⟨⟨s', q, t⟩, h j m⟩
def noX {α : Type} (r : Res α) : Res α := match r with
  | .exn _ _ _ => .stuck
  | r => r
def compL (t : Tg) (tt : Option Fb) (fe : Ft) (vs : List Nat) : List D → Sg → List D → Res RV
  | [], g, acc => .ok (.fr (.lst acc)) g
  | d :: ds, g, acc => match tgF t d g with
    | some g1 => (match (match tt with | some tt => noX (tt g1) | none => .ok true g1) with
      | .ok true g2 => (match noX (settle (fe g2)) with
        | .ok x g3 => (match frz1 x g3 with
          | some (y, g4) => if acc.length < sizeLine then compL t tt fe vs ds (wipeG g4 vs) (acc ++ [y]) else .stuck
          | none => .stuck)
        | _ => .stuck)
      | .ok false g2 => compL t tt fe vs ds (wipeG g2 vs) acc
      | _ => .stuck)
    | none => .stuck
def compF (fi : Fi) (t : Tg) (tt : Option Fb) (fe : Ft) (vs : List Nat) : Ft := fun g => (fi g).bind fun ds g1 => compL t tt fe vs ds (wipeG g1 vs) []
inductive VTs (X : Cx) : List Expr → Option Fb → Prop
  | none : VTs X [] none
  | one {e : Expr} {f : Fb} (h : VT X W0 e f) : VTs X [e] (some f)
def rdTs (K : PySem.W.Frag) : Option Fb → TT
  | none => tYes
  | some f => rdT K W0 f
theorem VTs.pts {X : Cx} {es : List Expr} {f : Option Fb} (h : VTs X es f) : PTs X es (rdTs X.K f) := by
  cases h with
  | none => exact pts_nil
  | one h => exact pts_one h.pt
section
variable {X : Cx} {W : WX}
theorem comp_rd {fi : Fi} {t : Tg} {tt : Option Fb} {fe : Ft} {vs : List Nat} {σ : L2.St} {H : Hp} {Q : VK} (hn : ∀ i ∈ t.ns, i ∈ vs) (h : rdE X.K W (compF fi t tt fe vs) σ H Q) :
    tLc (rdI X.K W fi) (rdG X.K t) (rdTs X.K tt) (rdE X.K W0 fe) vs σ H Q := by
  obtain ⟨I, g, o, r⟩ := h
  refine ⟨I, g, o, ?_⟩
  unfold compF at r
  cases e : fi g with
  | stuck => rw [e] at r; exact r
  | exn c fs g' => rw [e] at r; exact r
  | ok ds g1 =>
    rw [e] at r
    intro I1 H1 J o1 y1 hJ Dd hD
    have frD : Fr H1 Dd := ⟨hD⟩
    have nI : I1 Dd = none := by
      cases q : I1 Dd with
      | none => rfl
      | some u => exact (no_some hD (o1.sub Dd u q)).elim
    -- between turns: the list at Dd holds acc
    let Inv (i : Nat) (H2 : Hp) : Prop := ∃ I2 g2 acc us, Ok X.K ⟨I2, wipe σ vs, H2, g2⟩ ∧ Go ⟨I1, σ, H1, g1⟩ ⟨I2, wipe σ vs, H2, g2⟩ ∧ wipeG g2 vs = g2 ∧ H2 Dd = some (.lst us) ∧ Reps X.K I2 us acc ∧ I2 Dd = none ∧ ¬ Cfg.Own ⟨I2, wipe σ vs, H2, g2⟩ Dd ∧
      Rem X.K W (RvR X.K) ⟨I, σ, H, g⟩ (compL t tt fe vs (ds.drop i) g2 acc) Q
    have wlen : (wipe σ vs).length = σ.length := wipe_length σ vs
    have nOwn : ∀ {I2 : Hp} {σ2 : L2.St} {H2 : Hp} {g2 : Sg}, Go ⟨I1, σ, H1, g1⟩ ⟨I2, σ2, H2, g2⟩ → True := fun _ => trivial
    have wipe2 : ∀ (g : Sg) (vs : List Nat), wipeG (wipeG g vs) vs = wipeG g vs := by
      intro g vs
      apply List.ext_getElem?
      intro j
      have hlen : ∀ (g : Sg) (vs : List Nat), (wipeG g vs).length = g.length := by
        intro g vs
        induction vs with
        | nil => rfl
        | cons v vs ih => show ((wipeG g vs).set v .un).length = _; rw [List.length_set]; exact ih
      have key : ∀ (g : Sg) (vs : List Nat), (j ∈ vs → j < g.length → (wipeG g vs)[j]? = some .un) ∧ (j ∉ vs → (wipeG g vs)[j]? = g[j]?) := by
        intro g vs
        induction vs with
        | nil => exact ⟨fun h => (nomatch h), fun _ => rfl⟩
        | cons v vs ih =>
          refine ⟨fun h hl => ?_, fun h => ?_⟩
          · show ((wipeG g vs).set v .un)[j]? = _
            by_cases e : v = j
            · subst e; rw [List.getElem?_set_self (by rw [hlen]; exact hl)]
            · rw [List.getElem?_set_ne e]
              rcases List.mem_cons.mp h with h | h
              · exact absurd h.symm e
              · exact ih.1 h hl
          · simp only [List.mem_cons, not_or] at h
            show ((wipeG g vs).set v .un)[j]? = _
            rw [List.getElem?_set_ne (fun z => h.1 z.symm)]
            exact ih.2 h.2
      by_cases hj : j ∈ vs
      · by_cases hl : j < g.length
        · rw [(key _ vs).1 hj (by rw [hlen]; exact hl), (key g vs).1 hj hl]
        · rw [List.getElem?_eq_none (by rw [hlen, hlen]; omega), List.getElem?_eq_none (by rw [hlen]; omega)]
      · rw [(key _ vs).2 hj]
    refine ⟨fun i m H2 => m = ds.length - i ∧ i ≤ ds.length ∧ Inv i H2, ⟨ds.length, by simp, Nat.zero_le _, ?_⟩, ?_⟩
    · -- the start
      have x : Xb [] H1 (upd H1 Dd (.lst [])) := Xb.new hD
      have oN : Ok X.K ⟨I1, σ, upd H1 Dd (.lst []), g1⟩ := o1.new x
      have yN : Go ⟨I1, σ, H1, g1⟩ ⟨I1, σ, upd H1 Dd (.lst []), g1⟩ := Go.new x
      refine ⟨I1, wipeG g1 vs, [], [], oN.wiped wlen (fun j hj => wipe_get hj), yN.trans (Go.wiped fun j hj => wipe_get hj), wipe2 _ _, upd_same, .nil, nI, fun q => ?_, ?_⟩
      · obtain ⟨j, t', d', q1, q2⟩ := q
        rcases wipeG_get q1 with z | ⟨q1, m⟩
        · cases z
        · obtain ⟨u, hu⟩ := o1.own_some (a := Dd) ⟨j, t', d', q1, by rw [← wipe_get (σ := σ) m]; exact q2⟩
          exact no_some hD hu
      · exact r
    · rintro i m H2 ⟨rfl, hi, I2, g2, acc, us, o2, y2, w2, hd, ra, n2, nw, r2⟩
      obtain ⟨k1, k2⟩ := hJ ⟨I2, wipe σ vs, H2, g2⟩ y2 o2 i
      by_cases hlt : i < ds.length
      · obtain ⟨q1, q2⟩ := k1 ds[i] (List.getElem?_eq_getElem hlt)
        refine .inr ⟨q1, Inv (i + 1), fun H' hI => ⟨ds.length - (i + 1), by omega, rfl, hlt, hI⟩, fun x H' hy => ?_⟩
        obtain ⟨I3, o3, y3, rv⟩ := q2 x H' hy
        rw [List.drop_eq_getElem_cons hlt] at r2
        unfold compL at r2
        have hd3 : H' Dd = some (.lst us) := y3.keep Dd _ hd nw .lst
        -- a later state keeps the list
        have later : ∀ {I4 : Hp} {σ4 : L2.St} {H4 : Hp} {g4 : Sg}, Go ⟨I2, wipe σ vs, H2, g2⟩ ⟨I4, σ4, H4, g4⟩ → H4 Dd = some (.lst us) ∧ I4 Dd = none ∧ ¬ Cfg.Own ⟨I4, σ4, H4, g4⟩ Dd := fun {I4 σ4 H4 g4} y => by
          refine ⟨y.keep Dd _ hd nw .lst, ?_, fun q => ?_⟩
          · cases q : I4 Dd with
            | none => rfl
            | some u =>
              rcases y.grow Dd n2 (by show I4 Dd ≠ none; rw [q]; exact fun z => nomatch z) with z | z
              · exact (nw z).elim
              · exact (no_some z hd).elim
          · rcases y.own Dd q with z | z
            · exact nw z
            · exact no_some z hd
        split at r2
        · rename_i g5 e5
          refine ⟨I3, g2, ds[i], o3, rv, g5, e5, fun σ5 o5 y5 d5 => ⟨?_, ?_⟩⟩
          · rw [wipe_dif d5.1 fun j hj => d5.2 j fun q => hj (hn j q)]
            exact wipe_dif wlen fun j hj => wipe_get hj
          · have w5 : ∀ j, j ∉ vs → (wipe σ vs)[j]? = σ5[j]? := fun j hj => (d5.2 j fun q => hj (hn j q)).symm
            have l5 : (wipe σ vs).length = σ5.length := d5.1.symm
            have y25 : Go ⟨I2, wipe σ vs, H2, g2⟩ ⟨I3, σ5, H', g5⟩ := y3.trans y5
            -- the test
            have fin : ∀ {b : Bool} {I6 : Hp} {H6 : Hp} {g6 : Sg}, Ok X.K ⟨I6, σ5, H6, g6⟩ → Go ⟨I2, wipe σ vs, H2, g2⟩ ⟨I6, σ5, H6, g6⟩ →
                Rem X.K W (RvR X.K) ⟨I, σ, H, g⟩ (match b with
                  | true => (match noX (settle (fe g6)) with
                    | .ok x g3 => (match frz1 x g3 with
                      | some (y, g4) => if acc.length < sizeLine then compL t tt fe vs (ds.drop (i + 1)) (wipeG g4 vs) (acc ++ [y]) else .stuck
                      | none => .stuck)
                    | _ => .stuck)
                  | false => compL t tt fe vs (ds.drop (i + 1)) (wipeG g6 vs) acc) Q →
                if b = true then rdE X.K W0 fe σ5 H6 (fun y H4 => ∃ acc, H4 Dd = some (.lst acc) ∧ acc.length < sizeLine ∧ Inv (i + 1) (upd H4 Dd (.lst (acc ++ [y])))) else Inv (i + 1) H6 := by
              intro b I6 H6 g6 o6 y6 r6
              cases b with
              | false =>
                rw [if_neg (by decide)]
                obtain ⟨p1, p2, p3⟩ := later (y6.trans (Go.wiped (vs := vs) (σ' := wipe σ vs) w5))
                exact ⟨I6, wipeG g6 vs, acc, us, o6.wiped l5 w5, (y2.trans y6).trans (Go.wiped w5), wipe2 _ _, p1, ra.mono y6.sub, p2, p3, r6⟩
              | true =>
                rw [if_pos rfl]
                refine ⟨I6, g6, o6, Rem.settle ?_⟩
                have r6 : Rem X.K W (RvR X.K) ⟨I, σ, H, g⟩ (match noX (settle (fe g6)) with
                    | .ok x g3 => (match frz1 x g3 with
                      | some (y, g4) => if acc.length < sizeLine then compL t tt fe vs (ds.drop (i + 1)) (wipeG g4 vs) (acc ++ [y]) else .stuck
                      | none => .stuck)
                    | _ => .stuck) Q := r6
                have nf : ∀ x g', settle (fe g6) = .ok x g' → ∀ d, x ≠ .fr d := fun x g' h => settle_nofr h
                revert r6 nf
                generalize settle (fe g6) = sr
                intro r6 nf
                cases sr with
                | stuck => exact r6
                | exn c fs gg => exact fun _ _ _ _ _ _ => r6
                | ok x7 g7 =>
                  intro I7 H7 v7 o7 y7 rx7
                  have r7 : Rem X.K W (RvR X.K) ⟨I, σ, H, g⟩ (match frz1 x7 g7 with
                      | some (y, g4) => if acc.length < sizeLine then compL t tt fe vs (ds.drop (i + 1)) (wipeG g4 vs) (acc ++ [y]) else .stuck
                      | none => .stuck) Q := r6
                  split at r7
                  · rename_i y8 g8 e8
                    obtain ⟨I8, o8, y8', rr8⟩ := frz1_ok (c0 := ⟨I, σ, H, g⟩) o7 rx7 (nf x7 g7 rfl) e8
                    split at r7
                    · rename_i hl
                      have y28 := (y6.trans y7).trans y8'
                      have y9 : Go ⟨I2, wipe σ vs, H2, g2⟩ ⟨I8, wipe σ vs, H7, wipeG g8 vs⟩ := y28.trans (Go.wiped (vs := vs) (σ' := wipe σ vs) w5)
                      obtain ⟨p1, p2, p3⟩ := later y9
                      have o9 : Ok X.K ⟨I8, wipe σ vs, H7, wipeG g8 vs⟩ := o8.wiped l5 w5
                      refine ⟨us, p1, by rw [ra.length]; exact hl, ?_⟩
                      -- the list grows
                      have ne : ∀ b, b ≠ Dd → upd H7 Dd (.lst (us ++ [v7])) b = H7 b := fun b hb => upd_ne hb
                      have o10 : Ok X.K ⟨I8, wipe σ vs, upd H7 Dd (.lst (us ++ [v7])), wipeG g8 vs⟩ := by
                        refine o9.grow (Le.refl _) (fun b u hb => ?_) (fun b hb => ⟨ne b fun z => by subst z; exact p3 hb, o9.own_free hb⟩) o9.nt (fun b ps hb => by rw [ne b fun z => by subst z; rw [p1] at hb; cases hb]; exact hb)
                        rw [ne b fun z => by subst z; exact no_some p2 hb]
                        exact o9.sub b u hb
                      have y10 : Go ⟨I1, σ, H1, g1⟩ ⟨I8, wipe σ vs, upd H7 Dd (.lst (us ++ [v7])), wipeG g8 vs⟩ := by
                        have y := y2.trans y9
                        refine ⟨y.sub, fun b u hb hw nt => ?_, fun b hb => ?_, y.grow, y.own, y.ownf, y.tag⟩
                        · have hb : H1 b = some u := hb
                          show upd H7 Dd (.lst (us ++ [v7])) b = some u
                          rw [ne b fun z => by subst z; exact no_some hD hb]
                          exact y.keep b u hb hw nt
                        · have hb : upd H7 Dd (.lst (us ++ [v7])) b = none := hb
                          by_cases z : b = Dd
                          · subst z; exact hD
                          · rw [ne b z] at hb; exact y.dom b hb
                      exact ⟨I8, wipeG g8 vs, acc ++ [y8], us ++ [v7], o10, y10, wipe2 _ _, upd_same, (ra.mono y28.sub).append (.one rr8), p2, p3, r7⟩
                    · exact r7.elim
                  · exact r7.elim
            cases tt with
            | none =>
              refine fin (b := true) o5 y25 ?_
              exact r2
            | some tf =>
              refine ⟨I3, g5, o5, ?_⟩
              have r2 : Rem X.K W (RvR X.K) ⟨I, σ, H, g⟩ (match noX (tf g5) with
                | .ok true g2 => (match noX (settle (fe g2)) with
                  | .ok x g3 => (match frz1 x g3 with
                    | some (y, g4) => if acc.length < sizeLine then compL t (some tf) fe vs (ds.drop (i + 1)) (wipeG g4 vs) (acc ++ [y]) else .stuck
                    | none => .stuck)
                  | _ => .stuck)
                | .ok false g2 => compL t (some tf) fe vs (ds.drop (i + 1)) (wipeG g2 vs) acc
                | _ => .stuck) Q := r2
              revert r2
              generalize tf g5 = tr
              intro r2
              cases tr with
              | stuck => exact r2
              | exn c fs gg => exact fun _ _ _ _ _ _ => r2
              | ok b g6 =>
                intro I6 H6 b' o6 y6 eb
                subst eb
                refine fin (b := b') o6 (y25.trans y6) ?_
                cases b' <;> exact r2
        · exact r2.elim
      · have e5 : i = ds.length := by omega
        subst e5
        rw [List.drop_length] at r2
        refine .inl ⟨k2 (Nat.le_refl _), ?_⟩
        -- back to the def's own slots
        have w6 : ∀ j, j ∉ vs → σ[j]? = (wipe σ vs)[j]? := fun j hj => (wipe_get hj).symm
        have o6 : Ok X.K ⟨I2, σ, H2, g2⟩ := by rw [← w2]; exact o2.wiped wlen.symm w6
        have y6 : Go ⟨I1, σ, H1, g1⟩ ⟨I2, σ, H2, g2⟩ := by
          have := y2.trans (Go.wiped (vs := vs) (σ' := σ) w6)
          rw [w2] at this
          exact this
        refine r2 I2 H2 (.ref Dd) o6 (y1.trans y6) ⟨Dd, rfl, ⟨us, hd, ra⟩, n2, fun q => ?_, y1.dom Dd hD⟩
        have yb : Go ⟨I2, wipe σ vs, H2, g2⟩ ⟨I2, σ, H2, g2⟩ := by
          have := Go.wiped (I := I2) (H := H2) (g := g2) (vs := vs) (σ := wipe σ vs) (σ' := σ) w6
          rw [w2] at this
          exact this
        rcases yb.own Dd q with z | z
        · exact nw z
        · exact no_some z hd
section
variable {elt tg iter : Expr} {ifs : List Expr} {scope : Scope} {own : List (Str × Nat)} {pos : Pos} {fi : Fi} {t : Tg} {tt : Option Fb} {fe : Ft}
theorem ve_comp (hc : X.calm = true) (hN : X.N.Nodup) (hi : VI X W tg iter fi) (ok : BlkOk X.N X.env.scope scope own) (hn : ∀ i ∈ t.ns, i ∈ own.map (·.2))
    (hg : ∀ (s : Shared) (H : Hp) (C : Addr) (cl : List (Str × Addr)) (fp : List Addr), VG (X.blk s H scope (compEnvC scope cl C X.env) fp) tg t) (ht : ∀ (s : Shared) (H : Hp) (C : Addr) (cl : List (Str × Addr)) (fp : List Addr), VTs (X.blk s H scope (compEnvC scope cl C X.env) fp) ifs tt)
    (he : ∀ (s : Shared) (H : Hp) (C : Addr) (cl : List (Str × Addr)) (fp : List Addr), VE (X.blk s H scope (compEnvC scope cl C X.env) fp) W0 elt fe) (hs : ∀ x, foldedSetIterable iter X.env x = pure x := by intro _; rfl) :
    VE X W (.ListComp elt [⟨tg, iter, ifs, 0⟩] scope pos) (compF fi t tt fe (own.map (·.2))) :=
  ⟨pe_imp (pe_lc (g := rdG X.K t) (tt := rdTs X.K tt) (te := rdE X.K W0 fe) hc hN hi.pi ok (fun s H C cl fp => (hg s H C cl fp).pg) (fun s H C cl fp => (ht s H C cl fp).pts) (fun s H C cl fp => (he s H C cl fp).pe) hs) fun σ H Q h => comp_rd hn h⟩
end
end
end Vl
set_option Elab.async false
set_option linter.all false
set_option maxRecDepth 100000
set_option maxHeartbeats 2000000
namespace Vl
open PySem PySem.Spec PyProof.Rows L2 My
inductive Ar where
  | val (d : D) | own (d : D)
inductive Rc where
  | ok (r : RV) (outs : List Sl) | exn (c : Str) (fs : List (Str × D)) | stuck
abbrev Fm := List Ar → Rc
def ArR (K : PySem.W.Frag) (I H : Hp) (v : V) : Ar → Prop
  | .val d => Rep K I v d
  | .own d => ∃ a, v = .ref a ∧ OwnAt K I H a d ∧ I a = none
def Mine (vs : List V) (as : List Ar) (a : Addr) : Prop := ∃ (j : Nat) (d : D), as[j]? = some (.own d) ∧ vs[j]? = some (.ref a)
structure Wld (K : PySem.W.Frag) (I0 H0 : Hp) (vs : List V) (as : List Ar) (I H : Hp) : Prop where
  le : Le I H
  sub : Le I0 I
  keep : ∀ a o, H0 a = some o → ¬ Mine vs as a → NTb o → H a = some o
  dom : ∀ a, H a = none → H0 a = none
  grow : ∀ a, I0 a = none → I a ≠ none → Mine vs as a ∨ H0 a = none
  nt : NoTab I
  tab : TabsV K I H
def OutR (K : PySem.W.Frag) (I H : Hp) (a : Addr) : Option Sl → Prop
  | some (.own true d) => OwnAt K I H a d ∧ I a = none
  | some (.val true d) => Rep K I (.ref a) d
  | _ => True
def RtC (K : PySem.W.Frag) (H0 I H : Hp) (v : V) : RV → Prop
  | .val d => Rep K I v d
  | .fr d => ∃ a, v = .ref a ∧ OwnAt K I H a d ∧ I a = none ∧ H0 a = none
  | .at_ _ => False
def RemC (K : PySem.W.Frag) (I0 H0 : Hp) (vs : List V) (as : List Ar) (r : Rc) (Q : VK) (E : XK) : Prop := match r with
  | .ok r outs => ∀ I H v, Wld K I0 H0 vs as I H → (∀ (j : Nat) (d : D) (a : Addr), as[j]? = some (.own d) → vs[j]? = some (.ref a) → OutR K I H a outs[j]?) → RtC K H0 I H v r → Q v H
  | .exn c fs => ∀ I H e, Wld K I0 H0 vs as I H → (∃ xs, H e = some (.xd xs) ∧ RepF K I xs fs) → H0 e = none → I e = none → E (.ref (He.ga K c)) (some e) H
  | .stuck => False
def Apart (vs : List V) (as : List Ar) : Prop := ∀ (i j : Nat) (d d' : D), as[i]? = some (.own d) → as[j]? = some (.own d') → vs[i]? = vs[j]? → i = j
def spV (K : PySem.W.Frag) (m : Fm) : Sp := fun vs H Q E => ∃ I as, Le I H ∧ (NoTab I ∧ TabsV K I H) ∧ Paired (ArR K I H) vs as ∧ Apart vs as ∧ RemC K I H vs as (m as) Q E
def startG (n : Nat) (as : List Ar) : Sg := as.map (fun a => match a with | .val d => Sl.val true d | .own d => Sl.own true d) ++ List.replicate (n - as.length) .un
def fnK (k : Nat) (r : Rs) : Rc := match r with
  | .rt r g => .ok r (g.take k)
  | .nx g => .ok (.val .non) (g.take k)
  | .exn c fs _ => .exn c fs
  | _ => .stuck
def fnM (k n : Nat) (f : Fs) : Fm := fun as => if as.length = k then fnK k (f (startG n as)) else .stuck
theorem paired_get {α β : Type} {R : α → β → Prop} : ∀ {xs : List α} {ys : List β} {i : Nat} {y : β}, Paired R xs ys → ys[i]? = some y → ∃ x, xs[i]? = some x ∧ R x y
  | _, _, 0, y, .cons h _, e => ⟨_, rfl, by simp at e; exact e ▸ h⟩
  | _, _, i + 1, y, .cons _ t, e => by
    obtain ⟨v, h1, h2⟩ := paired_get (i := i) (y := y) t (by simpa using e)
    exact ⟨v, by simpa using h1, h2⟩
theorem startG_get {n : Nat} {as : List Ar} {i : Nat} {s : Sl} (h : (startG n as)[i]? = some s) : (∃ d, as[i]? = some (.val d) ∧ s = .val true d) ∨ (∃ d, as[i]? = some (.own d) ∧ s = .own true d) ∨ (as.length ≤ i ∧ s = .un ∧ i < n) := by
  unfold startG at h
  by_cases hi : i < as.length
  · rw [List.getElem?_append_left (by simpa using hi), List.getElem?_map, List.getElem?_eq_getElem hi] at h
    rw [List.getElem?_eq_getElem hi]
    cases e : as[i] with
    | val d => rw [e] at h; cases h; exact .inl ⟨d, rfl, rfl⟩
    | own d => rw [e] at h; cases h; exact .inr (.inl ⟨d, rfl, rfl⟩)
  · rw [List.getElem?_append_right (by simpa using Nat.le_of_not_lt hi)] at h
    have := List.getElem?_eq_some_iff.mp h
    obtain ⟨h1, h2⟩ := this
    rw [List.getElem_replicate] at h2
    rw [List.length_replicate, List.length_map] at h1
    exact .inr (.inr ⟨Nat.le_of_not_lt hi, h2.symm, by omega⟩)
theorem start_lt {N : List Str} {vs : List V} {i : Nat} {v : V} (h : vs[i]? = some v) : (L2.start N vs)[i]? = some (some v) := by
  unfold L2.start
  have hi := (List.getElem?_eq_some_iff.mp h).1
  rw [List.getElem?_append_left (by simpa using hi), List.getElem?_map, h]
  rfl
theorem start_ge {N : List Str} {vs : List V} {i : Nat} (h : vs.length ≤ i) (hn : i < N.length) : (L2.start N vs)[i]? = some none := by
  unfold L2.start
  rw [List.getElem?_append_right (by simpa using h), List.length_map, List.getElem?_replicate_of_lt (by omega)]
section
variable {P : Program} {w : World} {K : PySem.W.Frag} {mg : Str → Option Value} {base : Heap}
theorem fn_len {k n : Nat} {f : Fs} {vs : List V} {H : Hp} {Q : VK} {E : XK} (h : spV K (fnM k n f) vs H Q E) : vs.length = k := by
  obtain ⟨I, as, le, tb, pr, ap, r⟩ := h
  unfold fnM at r
  split at r
  · rw [Paired.length pr]; assumption
  · exact r.elim
theorem body_sp {X : Cx} {N : List Str} {k : Nat} {body : List Stmt} {f : Fs} {vs : List V} {H : Hp} {Q : VK} {E : XK} (hb : VSs X (fun cls d _ H => E cls d H) body f) (h : spV X.K (fnM k N.length f) vs H Q E) :
    ∃ t, PSs X body t ∧ t { nx := fun _ H' => Q .non H', rt := Q } (L2.start N vs) H := by
  obtain ⟨I, as, le, tb, pr, ap, r⟩ := h
  unfold fnM at r
  split at r
  rotate_left
  · exact r.elim
  rename_i hk
  subst hk
  refine ⟨_, hb.pss, I, startG N.length as, ?_, ?_⟩
  · refine ⟨le, fun i s hs => ?_, fun i j t t' d d' h1 h2 e => ?_, tb.1, tb.2⟩
    · rcases startG_get hs with ⟨d, e, rfl⟩ | ⟨d, e, rfl⟩ | ⟨e, rfl, hi⟩
      · obtain ⟨v, hv, rv⟩ := paired_get pr e
        exact ⟨_, start_lt hv, v, rfl, rv⟩
      · obtain ⟨v, hv, a, rfl, q⟩ := paired_get pr e
        exact ⟨_, start_lt hv, a, rfl, q⟩
      · exact ⟨_, start_ge (by rw [Paired.length pr]; exact e) hi, trivial⟩
    · rcases startG_get h1 with ⟨d1, e1, z⟩ | ⟨d1, e1, z⟩ | ⟨e1, z, _⟩ <;> cases z
      rcases startG_get h2 with ⟨d2, e2, z⟩ | ⟨d2, e2, z⟩ | ⟨e2, z, _⟩ <;> cases z
      obtain ⟨v, hv, _⟩ := paired_get pr e1
      obtain ⟨u, hu, _⟩ := paired_get pr e2
      refine ap i j _ _ e1 e2 ?_
      have e : (L2.start N vs)[i]? = (L2.start N vs)[j]? := e
      rw [start_lt hv, start_lt hu] at e
      rw [hv, hu]
      cases e
      rfl
  · -- the result
    let c0 : Cfg := ⟨I, L2.start N vs, H, startG N.length as⟩
    have own : ∀ a, c0.Own a → Mine vs as a := fun a ⟨i, t, d, h1, h2⟩ => by
      rcases startG_get h1 with ⟨d1, e1, z⟩ | ⟨d1, e1, z⟩ | ⟨e1, z, _⟩ <;> cases z
      obtain ⟨v, hv, _⟩ := paired_get pr e1
      have h2 : (L2.start N vs)[i]? = some (some (.ref a)) := h2
      rw [start_lt hv] at h2
      cases h2
      exact ⟨i, _, e1, hv⟩
    have ownf : ∀ a, ¬ c0.OwnF a := fun a ⟨i, d, h1, _⟩ => by
      rcases startG_get h1 with ⟨d1, e1, z⟩ | ⟨d1, e1, z⟩ | ⟨e1, z, _⟩ <;> cases z
    have wld : ∀ {I' : Hp} {σ' : L2.St} {H' : Hp} {g' : Sg}, Ok X.K ⟨I', σ', H', g'⟩ → Go c0 ⟨I', σ', H', g'⟩ → Wld X.K I H vs as I' H' := fun o y =>
      ⟨o.sub, y.sub, fun a u e n nt => y.keep a u e (fun q => n (own a q)) nt, y.dom, fun a e e' => (y.grow a e e').imp (own a) id, o.nt, o.tab⟩
    have outs : ∀ {I' : Hp} {σ' : L2.St} {H' : Hp} {g' : Sg}, Ok X.K ⟨I', σ', H', g'⟩ → Go c0 ⟨I', σ', H', g'⟩ → ∀ (j : Nat) (d : D) (a : Addr), as[j]? = some (.own d) → vs[j]? = some (.ref a) → OutR X.K I' H' a (g'.take as.length)[j]? := by
      intro I' σ' H' g' o y j d a e1 e2
      have hj := (List.getElem?_eq_some_iff.mp e1).1
      rw [List.getElem?_take_of_lt hj]
      cases q : g'[j]? with
      | none => trivial
      | some s =>
        cases s with
        | un => trivial
        | val t d' =>
          cases t with
          | false => trivial
          | true =>
            obtain ⟨_, es⟩ := y.tag j _ q rfl
            obtain ⟨u, hu, v, ev, rv⟩ := o.sl j _ q
            have es : σ'[j]? = (L2.start N vs)[j]? := es
            have hu : σ'[j]? = some u := hu
            rw [es, start_lt e2] at hu
            cases hu
            cases ev
            exact rv
        | own t d' =>
          cases t with
          | false => trivial
          | true =>
            obtain ⟨_, es⟩ := y.tag j _ q rfl
            obtain ⟨u, hu, b, ev, rv, n⟩ := o.sl j _ q
            have es : σ'[j]? = (L2.start N vs)[j]? := es
            have hu : σ'[j]? = some u := hu
            rw [es, start_lt e2] at hu
            cases hu
            cases ev
            exact ⟨rv, n⟩
    have r : RemC X.K I H vs as (fnK as.length (f (startG N.length as))) Q E := r
    show RemS X.K (fun cls d _ H => E cls d H) c0 (f (startG N.length as)) _
    revert r
    generalize f (startG N.length as) = res
    intro r
    cases res with
    | stuck => exact r
    | bk g => exact r.elim
    | ct g => exact r.elim
    | nx g => exact fun I' σ' H' o y => r I' H' .non (wld o y) (outs o y) .non
    | rt x g =>
      refine fun I' σ' H' v o y rv => r I' H' v (wld o y) (outs o y) ?_
      cases x with
      | val d => exact rv
      | at_ i => exact rv
      | fr d =>
        obtain ⟨a, e, ow, n, _, z⟩ := rv
        exact ⟨a, e, ow, n, z.elim (fun z => (ownf a z).elim) id⟩
    | exn c fs g =>
      refine fun I' σ' H' e o y ⟨xs, h1, h2, h3, h4, h5⟩ => r I' H' e (wld o y) ⟨xs, h1, h2⟩ h5 h4
end
end Vl
set_option Elab.async false
set_option linter.all false
set_option maxRecDepth 100000
set_option maxHeartbeats 2000000
namespace Vl
open PySem PySem.Spec PyProof.Rows L2 My
def ixs : List RV → List Nat
  | [] => []
  | .at_ i :: r => i :: ixs r
  | _ :: r => ixs r
def toAr (g : Sg) : RV → Option Ar
  | .val d => some (.val d)
  | .at_ i => match g[i]? with
    | some (.own _ d) => some (.own d)
    | some (.val _ d) => some (.val d)
    | _ => none
  | .fr _ => none
def toArs (g : Sg) : List RV → Option (List Ar)
  | [] => some []
  | x :: xs => (toAr g x).bind fun a => (toArs g xs).map (a :: ·)
def outFor (j : Nat) : List RV → List Sl → Option Sl
  | [], _ => none
  | .at_ i :: rs, os => if i = j then some (os.headD .un) else outFor j rs os.tail
  | _ :: rs, os => outFor j rs os.tail
def outC (t : Bool) : Sl → Sl
  | .own true d => .own t d
  | .val true d => .val t d
  | _ => .un
def putOuts (rs : List RV) (os : List Sl) (g : Sg) : Sg := g.mapIdx fun j s => match s with
  | .own t d => (match outFor j rs os with | some o => outC t o | none => .own t d)
  | s => s
def callK (m : Fm) (rs : List RV) (g : Sg) : Res RV := if (ixs rs).Nodup then
    (match toArs g rs with
    | some as => (match m as with
      | .ok (.val d) outs => .ok (.val d) (putOuts rs outs g)
      | .ok (.fr d) outs => .ok (.fr d) (putOuts rs outs g)
      | .exn c fs => .exn c fs (putOuts rs [] g)
      | _ => .stuck)
    | none => .stuck) else .stuck
def callM (m : Fm) (fs : List Ft) : Ft := fun g => (evA fs g).bind (callK m)
theorem toArs_get {g : Sg} : ∀ {rs : List RV} {as : List Ar} {k : Nat} {a : Ar}, toArs g rs = some as → as[k]? = some a → ∃ r, rs[k]? = some r ∧ toAr g r = some a
  | [], as, k, a, h, e => by cases h; simp at e
  | r :: rs, as, k, a, h, e => by
    simp only [toArs, Option.bind_eq_some_iff, Option.map_eq_some_iff] at h
    obtain ⟨b, h1, bs, h2, rfl⟩ := h
    cases k with
    | zero => simp at e; subst e; exact ⟨r, rfl, h1⟩
    | succ k =>
      obtain ⟨r', q1, q2⟩ := toArs_get (k := k) (a := a) h2 (by simpa using e)
      exact ⟨r', by simpa using q1, q2⟩
theorem toArs_len {g : Sg} : ∀ {rs : List RV} {as : List Ar}, toArs g rs = some as → as.length = rs.length
  | [], as, h => by cases h; rfl
  | r :: rs, as, h => by
    simp only [toArs, Option.bind_eq_some_iff, Option.map_eq_some_iff] at h
    obtain ⟨b, h1, bs, h2, rfl⟩ := h
    rw [List.length_cons, List.length_cons, toArs_len h2]
theorem mem_ixs {i : Nat} : ∀ {rs : List RV} {k : Nat}, rs[k]? = some (.at_ i) → i ∈ ixs rs
  | [], k, h => by simp at h
  | r :: rs, 0, h => by simp at h; subst h; exact .head _
  | r :: rs, k + 1, h => by
    have := mem_ixs (rs := rs) (k := k) (by simpa using h)
    cases r <;> first | exact this | exact .tail _ this
theorem ixs_inj {i : Nat} : ∀ {rs : List RV} {k l : Nat}, (ixs rs).Nodup → rs[k]? = some (.at_ i) → rs[l]? = some (.at_ i) → k = l
  | [], k, l, _, h, _ => by simp at h
  | r :: rs, 0, 0, _, _, _ => rfl
  | r :: rs, 0, l + 1, n, h, h' => by
    simp at h
    subst h
    have := mem_ixs (rs := rs) (k := l) (by simpa using h')
    exact absurd this (List.nodup_cons.mp n).1
  | r :: rs, k + 1, 0, n, h, h' => by
    simp at h'
    subst h'
    have := mem_ixs (rs := rs) (k := k) (by simpa using h)
    exact absurd this (List.nodup_cons.mp n).1
  | r :: rs, k + 1, l + 1, n, h, h' => by
    have n' : (ixs rs).Nodup := by cases r <;> first | exact n | exact (List.nodup_cons.mp n).2
    rw [ixs_inj (rs := rs) (k := k) (l := l) n' (by simpa using h) (by simpa using h')]
theorem outFor_some {j : Nat} : ∀ {rs : List RV} {os : List Sl} {o : Sl}, outFor j rs os = some o → ∃ k : Nat, rs[k]? = some (RV.at_ j) ∧ (os[k]? = some o ∨ (os[k]? = none ∧ o = .un))
  | [], os, o, h => by cases h
  | r :: rs, os, o, h => by
    have rc : outFor j rs os.tail = some o → ∃ k : Nat, (r :: rs)[k]? = some (RV.at_ j) ∧ (os[k]? = some o ∨ (os[k]? = none ∧ o = .un)) := fun h => by
      obtain ⟨k, h1, h2⟩ := outFor_some h
      refine ⟨k + 1, by simpa using h1, ?_⟩
      cases os with
      | nil => simpa using h2
      | cons x os => simpa using h2
    cases r with
    | val d => exact rc h
    | fr d => exact rc h
    | at_ i =>
      simp only [outFor] at h
      split at h
      · rename_i e
        subst e
        refine ⟨0, rfl, ?_⟩
        cases h
        cases os with
        | nil => exact .inr ⟨rfl, rfl⟩
        | cons x os => exact .inl rfl
      · exact rc h
theorem outFor_none {j : Nat} : ∀ {rs : List RV} {os : List Sl}, outFor j rs os = none → ∀ k : Nat, rs[k]? ≠ some (RV.at_ j)
  | [], os, h, k => by simp
  | r :: rs, os, h, k => by
    have rc : outFor j rs os.tail = none → ∀ k : Nat, rs[k]? ≠ some (RV.at_ j) := fun h => outFor_none h
    cases r with
    | val d => cases k with
      | zero => simp
      | succ k => simpa using rc h k
    | fr d => cases k with
      | zero => simp
      | succ k => simpa using rc h k
    | at_ i =>
      simp only [outFor] at h
      split at h
      · cases h
      · rename_i e
        cases k with
        | zero => simpa using e
        | succ k => simpa using rc h k
theorem putOuts_get {rs : List RV} {os : List Sl} {g : Sg} {j : Nat} {s' : Sl} (h : (putOuts rs os g)[j]? = some s') :
    (∃ t d, g[j]? = some (.own t d) ∧ ((s' = .own t d ∧ ∀ k : Nat, rs[k]? ≠ some (RV.at_ j)) ∨ ∃ k : Nat, rs[k]? = some (RV.at_ j) ∧ ∃ o, (os[k]? = some o ∨ (os[k]? = none ∧ o = .un)) ∧ s' = outC t o)) ∨ (g[j]? = some s' ∧ ∀ t d, s' ≠ .own t d) := by
  unfold putOuts at h
  rw [List.getElem?_mapIdx, Option.map_eq_some_iff] at h
  obtain ⟨s, e, h⟩ := h
  cases s with
  | un => cases h; exact .inr ⟨e, fun _ _ z => nomatch z⟩
  | val t d => cases h; exact .inr ⟨e, fun _ _ z => nomatch z⟩
  | own t d =>
    refine .inl ⟨t, d, e, ?_⟩
    have h : (match outFor j rs os with | some o => outC t o | none => .own t d) = s' := h
    cases q : outFor j rs os with
    | none => rw [q] at h; exact .inl ⟨h.symm, outFor_none q⟩
    | some o =>
      rw [q] at h
      obtain ⟨k, h1, h2⟩ := outFor_some q
      exact .inr ⟨k, h1, o, h2, h.symm⟩
section
variable {X : Cx} {W : WX}
theorem args_ok {K : PySem.W.Frag} {c0 : Cfg} {I H : Hp} {σ : L2.St} {g : Sg} (o : Ok K ⟨I, σ, H, g⟩) : ∀ {vs : List V} {rs : List RV} {as : List Ar}, RvsR K c0 ⟨I, σ, H, g⟩ vs rs → toArs g rs = some as → Paired (ArR K I H) vs as
  | [], [], as, .nil, h => by cases h; exact .nil
  | v :: vs, r :: rs, as, .cons ⟨c', rx, nf⟩ t, h => by
    simp only [toArs, Option.bind_eq_some_iff, Option.map_eq_some_iff] at h
    obtain ⟨b, h1, bs, h2, rfl⟩ := h
    refine .cons ?_ (args_ok (c0 := c0) o t h2)
    cases r with
    | val d => cases h1; exact rx
    | fr d => cases h1
    | at_ i =>
      have rx : σ[i]? = some (some v) := rx
      simp only [toAr] at h1
      split at h1
      · rename_i t' d q
        cases h1
        obtain ⟨u, e1, a, e2, r, n⟩ := o.sl i _ q
        have e1 : σ[i]? = some u := e1
        rw [rx] at e1
        cases e1
        cases e2
        exact ⟨a, rfl, r, n⟩
      · rename_i t' d q
        cases h1
        obtain ⟨u, e1, w, e2, r⟩ := o.sl i _ q
        have e1 : σ[i]? = some u := e1
        rw [rx] at e1
        cases e1
        cases e2
        exact r
      · cases h1
theorem call_ok {K : PySem.W.Frag} {c0 : Cfg} {I H I' H' : Hp} {σ : L2.St} {g : Sg} {vs : List V} {rs : List RV} {as : List Ar} {os : List Sl} (o : Ok K ⟨I, σ, H, g⟩) (rr : RvsR K c0 ⟨I, σ, H, g⟩ vs rs) (ea : toArs g rs = some as) (nd : (ixs rs).Nodup)
    (wl : Wld K I H vs as I' H') (ho : ∀ (j : Nat) (d : D) (a : Addr), as[j]? = some (.own d) → vs[j]? = some (.ref a) → OutR K I' H' a os[j]?) :
    Ok K ⟨I', σ, H', putOuts rs os g⟩ ∧ Go ⟨I, σ, H, g⟩ ⟨I', σ, H', putOuts rs os g⟩ ∧ ∀ a, Mine vs as a → Cfg.Own ⟨I, σ, H, g⟩ a := by
  have val : ∀ (k : Nat) (r : RV), rs[k]? = some r → ∃ v, vs[k]? = some v ∧ ∃ c', RvR K c' ⟨I, σ, H, g⟩ v r ∧ ∀ d, r ≠ .fr d := fun k r h => by
    obtain ⟨v, h1, h2⟩ := paired_get rr h
    exact ⟨v, h1, h2⟩
  have mine : ∀ a, Mine vs as a → Cfg.Own ⟨I, σ, H, g⟩ a := fun a ⟨k, d, h1, h2⟩ => by
    obtain ⟨r, h3, h4⟩ := toArs_get ea h1
    obtain ⟨v, h5, c', h6, _⟩ := val k r h3
    rw [h2] at h5
    cases h5
    cases r with
    | val d => cases h4
    | fr d => cases h4
    | at_ i =>
      simp only [toAr] at h4
      split at h4
      · rename_i t d' q
        exact ⟨i, t, d', q, h6⟩
      · cases h4
      · cases h4
  -- an object that was handed on: where it is
  have handed : ∀ (k j : Nat) (t : Bool) (d : D), rs[k]? = some (.at_ j) → g[j]? = some (.own t d) → ∃ a, σ[j]? = some (some (.ref a)) ∧ as[k]? = some (.own d) ∧ vs[k]? = some (.ref a) := fun k j t d h1 h2 => by
    obtain ⟨v, h5, c', h6, _⟩ := val k _ h1
    obtain ⟨u, e1, a, e2, _, _⟩ := o.sl j _ h2
    have e1 : σ[j]? = some u := e1
    have h6 : σ[j]? = some (some v) := h6
    rw [h6] at e1
    cases e1
    cases e2
    refine ⟨a, h6, ?_, h5⟩
    have hk : k < as.length := by rw [toArs_len ea]; exact (List.getElem?_eq_some_iff.mp h1).1
    obtain ⟨r, h3, h4⟩ := toArs_get ea (List.getElem?_eq_getElem hk)
    rw [h1] at h3
    cases h3
    simp only [toAr, h2, Option.some.injEq] at h4
    rw [List.getElem?_eq_getElem hk, ← h4]
  have stay : ∀ (j : Nat) (t : Bool) (d : D) (a : Addr), g[j]? = some (.own t d) → σ[j]? = some (some (.ref a)) → (∀ k : Nat, rs[k]? ≠ some (RV.at_ j)) → OwnAt K I' H' a d ∧ I' a = none := fun j t d a h1 h2 h3 => by
    obtain ⟨u, e1, b, e2, ow, n⟩ := o.sl j _ h1
    have e1 : σ[j]? = some u := e1
    rw [h2] at e1
    cases e1
    cases e2
    have nm : ¬ Mine vs as a := fun ⟨k, d', q1, q2⟩ => by
      obtain ⟨r, q3, q4⟩ := toArs_get ea q1
      cases r with
      | val d => cases q4
      | fr d => cases q4
      | at_ i =>
        simp only [toAr] at q4
        split at q4
        · rename_i t' d'' q
          obtain ⟨a', q5, _, q6⟩ := handed k i t' d'' q3 q
          rw [q2] at q6
          cases q6
          have : i = j := o.dist i j t' t d'' d q h1 (q5.trans h2.symm)
          subst this
          exact h3 k q3
        · cases q4
        · cases q4
    obtain ⟨u, hu⟩ := ow.some
    refine ⟨ow.mono wl.sub ((wl.keep a u hu nm (ow.ntb hu)).trans hu.symm), ?_⟩
    cases q : I' a with
    | none => rfl
    | some x =>
      rcases wl.grow a n (by rw [q]; exact fun z => nomatch z) with z | z
      · exact (nm z).elim
      · exact (no_some z hu).elim
  have owns : ∀ (j : Nat) (t : Bool) (d : D), (putOuts rs os g)[j]? = some (.own t d) → ∃ d0, g[j]? = some (.own t d0) := fun j t d h => by
    rcases putOuts_get h with ⟨t', d', h1, h2⟩ | ⟨h1, h2⟩
    · rcases h2 with ⟨e, _⟩ | ⟨k, _, o', _, e⟩
      · cases e; exact ⟨_, h1⟩
      · unfold outC at e
        split at e
        · cases e; exact ⟨_, h1⟩
        · cases e
        · cases e
    · exact (h2 t d rfl).elim
  refine ⟨⟨wl.le, fun j s h => ?_, fun i j t t' d d' h1 h2 e => ?_, wl.nt, wl.tab⟩, ⟨wl.sub, fun a u h n nt => wl.keep a u h (fun q => n (mine a q)) nt, wl.dom, fun a h h' => (wl.grow a h h').imp (mine a) id, fun a ⟨j, t, d, h1, h2⟩ => ?_, fun a ⟨j, d, h1, h2⟩ => ?_, fun j s' h tg => ?_⟩, mine⟩
  · rcases putOuts_get h with ⟨t, d, h1, h2⟩ | ⟨h1, h2⟩
    · obtain ⟨u, e1, a, e2, _, _⟩ := o.sl j _ h1
      subst e2
      have e1 : σ[j]? = some (some (V.ref a)) := e1
      refine ⟨_, e1, ?_⟩
      rcases h2 with ⟨rfl, nk⟩ | ⟨k, hk, o', ho', rfl⟩
      · exact ⟨a, rfl, stay j t d a h1 e1 nk⟩
      · obtain ⟨a', q1, q2, q3⟩ := handed k j t d hk h1
        rw [e1] at q1
        cases q1
        have := ho k d a q2 q3
        rcases ho' with ho' | ⟨_, rfl⟩
        · rw [ho'] at this
          unfold outC
          split
          · exact ⟨a, rfl, this⟩
          · exact ⟨_, rfl, this⟩
          · trivial
        · trivial
    · obtain ⟨u, e1, r⟩ := o.sl j s h1
      exact ⟨u, e1, r.mono wl.sub fun a t d es _ => (h2 t d es).elim⟩
  · obtain ⟨_, q1⟩ := owns i t d h1
    obtain ⟨_, q2⟩ := owns j t' d' h2
    exact o.dist i j _ _ _ _ q1 q2 e
  · obtain ⟨d0, q⟩ := owns j t d h1
    exact .inl ⟨j, t, d0, q, h2⟩
  · obtain ⟨d0, q⟩ := owns j false d h1
    exact .inl ⟨j, d0, q, h2⟩
  · refine ⟨?_, rfl⟩
    rcases putOuts_get h with ⟨t, d, h1, h2⟩ | ⟨h1, h2⟩
    · rcases h2 with ⟨rfl, _⟩ | ⟨k, _, o', _, rfl⟩
      · exact ⟨_, h1, tg⟩
      · refine ⟨_, h1, ?_⟩
        unfold outC at tg
        split at tg <;> first | exact tg | cases tg
    · exact ⟨_, h1, tg⟩
theorem call_sp {K : PySem.W.Frag} {c0 : Cfg} {I H : Hp} {σ : L2.St} {g : Sg} {vs : List V} {rs : List RV} {m : Fm} {Q : VK} (o : Ok K ⟨I, σ, H, g⟩) (rr : RvsR K c0 ⟨I, σ, H, g⟩ vs rs) (h : Rem K W (RvR K) ⟨I, σ, H, g⟩ (callK m rs g) Q) : spV K m vs H Q (WE W σ) := by
  unfold callK at h
  split at h
  · rename_i nd
    split at h
    · rename_i as ea
      have pr := args_ok (c0 := c0) o rr ea
      refine ⟨I, as, o.sub, ⟨o.nt, o.tab⟩, pr, ?_, ?_⟩
      · intro i j d d' e1 e2 e
        obtain ⟨r1, q1, q2⟩ := toArs_get ea e1
        obtain ⟨r2, q3, q4⟩ := toArs_get ea e2
        cases r1 with
        | val d => cases q2
        | fr d => cases q2
        | at_ x =>
          cases r2 with
          | val d => cases q4
          | fr d => cases q4
          | at_ y =>
            simp only [toAr] at q2 q4
            split at q2
            · rename_i t1 d1 p1
              split at q4
              · rename_i t2 d2 p2
                obtain ⟨v1, k1, c1, k2, _⟩ := paired_get rr q1
                obtain ⟨v2, k3, c2, k4, _⟩ := paired_get rr q3
                have k2 : σ[x]? = some (some v1) := k2
                have k4 : σ[y]? = some (some v2) := k4
                rw [k1, k3] at e
                cases e
                have : x = y := o.dist x y t1 t2 d1 d2 p1 p2 (k2.trans k4.symm)
                subst this
                exact ixs_inj nd q1 q3
              · cases q4
              · cases q4
            · cases q2
            · cases q2
      · split at h
        · rename_i d outs em
          rw [em]
          intro I' H' v wl ho rv
          obtain ⟨o', y', _⟩ := call_ok o rr ea nd wl ho
          exact h I' H' v o' y' rv
        · rename_i d outs em
          rw [em]
          rintro I' H' v wl ho ⟨a, rfl, ow, n, z⟩
          obtain ⟨o', y', _⟩ := call_ok o rr ea nd wl ho
          refine h I' H' _ o' y' ⟨a, rfl, ow, n, fun q => ?_, z⟩
          rcases y'.own a q with q | q
          · obtain ⟨u, hu⟩ := o.own_some q
            exact no_some z hu
          · obtain ⟨j, t, d1, h1, h2⟩ := ‹Cfg.Own _ a›
            rcases putOuts_get h1 with ⟨t', d', p1, _⟩ | ⟨p1, p2⟩
            · obtain ⟨u, hu⟩ := o.own_some (a := a) ⟨j, t', d', p1, h2⟩
              exact no_some z hu
            · exact p2 t d1 rfl
        · rename_i c fs em
          rw [em]
          rintro I' H' e wl ⟨xs, h1, h2⟩ z n
          obtain ⟨o', y', _⟩ := call_ok (os := []) o rr ea nd wl fun j d a e1 e2 => trivial
          refine h I' H' e o' y' ⟨xs, h1, h2, fun q => ?_, n, z⟩
          obtain ⟨j, t, d1, q1, q2⟩ := q
          rcases putOuts_get q1 with ⟨t', d', p1, _⟩ | ⟨p1, p2⟩
          · obtain ⟨u, hu⟩ := o.own_some (a := e) ⟨j, t', d', p1, q2⟩
            exact no_some z hu
          · exact p2 t d1 rfl
        · exact h.elim
    · exact h.elim
  · exact h.elim
section
variable {k j : Nat} {x : Str} {m : Fm} {p pos : Pos} {e : Expr} {es : List Expr} {fs : List Ft}
theorem ve_call (c : Cf X.prog X.w X.K X.mg X.base k x (spV X.K m)) (hr : Room j X.A) (tk : Takes X W) (hg : Gl X x) (ha : VA X W (e :: es) fs) (hk : k ≤ j := by decide)
    (hdb : (x == ("__debug__" : Str)) = false := by decide) (he : starEach (e :: es) X.env = (false, eval e X.env) :: starEach es X.env := by rfl) (hpl : (backTo pos (starEach es X.env)).any (·.1) = false := by rfl) :
    VE X W (.Call (.Name x p) (e :: es) [] pos) (callM m fs) := by
  refine ⟨pe_imp (px c hr tk hg ha.pa hk hdb he hpl) fun σ H Q ⟨I, g, o, r⟩ => ?_⟩
  refine ⟨I, g, o, (Rem.bind (R := RvsR X.K) r).mono ?_⟩
  rintro vs H1 ⟨I1, g1, rs, o1, y1, rr, r1⟩
  exact call_sp o1 rr r1
end
end
end Vl
set_option Elab.async false
set_option linter.all false
set_option maxRecDepth 100000
set_option maxHeartbeats 2000000
namespace Vl
open PySem PySem.Spec PyProof.Rows L2 My
section
variable {X : Cx} {W : WX}
def raiseF1 (x f : Str) (fe : Ft) : Fs := fun g => bindE (evA [fe] g) fun rs g1 => match frzA rs g1 with
  | some ([d], g2) => .exn x [(f, d)] g2
  | _ => .stuck
theorem xd_new {K : PySem.W.Frag} {c0 : Cfg} {I H H' : Hp} {σ : L2.St} {g : Sg} {d : Addr} {xs : List (Str × V)} {fs : List (Str × D)} (o : Ok K ⟨I, σ, H, g⟩) (y : Go c0 ⟨I, σ, H, g⟩) (fr : Fr H d) (x : Xb [] H H') (h : H' d = some (.xd xs)) (r : RepF K I xs fs) :
    Ok K ⟨I, σ, H', g⟩ ∧ Go c0 ⟨I, σ, H', g⟩ ∧ XdAt K c0 ⟨I, σ, H', g⟩ d fs := by
  have n : I d = none := by
    cases e : I d with
    | none => rfl
    | some u => exact (no_some fr.e (o.sub d u e)).elim
  refine ⟨o.new x, y.trans (Go.new x), xs, h, r, fun q => ?_, n, y.dom d fr.e⟩
  obtain ⟨u, hu⟩ := o.own_some (a := d) q
  exact no_some fr.e hu
theorem vs_raise1 {x f : Str} {k j : Nat} {e : Expr} {fe : Ft} {p pos pos' : Pos} (hc : X.calm = true) (tk : Takes X W) (c : Rz1 X.prog X.w X.K X.mg X.base k x f) (hr : Room j X.A) (hg : Gl X x) (he : VE X W e fe) (hk : k + 1 ≤ j := by decide) (hdb : (x == ("__debug__" : Str)) = false := by decide)
    (hst : starEach [e] X.env = (false, eval e X.env) :: starEach [] X.env := by rfl) (hpl : (backTo pos (starEach [] X.env)).any (·.1) = false := by rfl) : VS X W (.Raise (some (.Call (.Name x p) [e] [] pos)) none pos') (raiseF1 x f fe) := by
  refine ⟨ps_imp' (ps_raise hc tk (pz1 c hr hg he.pe hk hdb hst hpl)) fun D σ H ⟨I, g, o, r⟩ => ?_⟩
  refine rd1 rfl o r fun v H1 I1 g1 y o1 y1 ry r1 => ?_
  split at r1
  · rename_i d g2 e2
    obtain ⟨I2, o2, y2, rr⟩ := frzA_ok o1 ry e2
    cases rr with
    | cons rv t =>
      cases t
      intro dd H' fr x h
      obtain ⟨o3, y3, z3⟩ := xd_new o2 (y1.trans y2) fr x h (.cons rv .nil)
      exact r1 I2 σ H' dd o3 y3 z3
  · exact r1.elim
def raiseF2 (x f g' : Str) (fe fu : Ft) : Fs := fun g => bindE (evA [fe] g) fun rs g1 => bindE (evA [fu] g1) fun ss g2 => match frzA (rs ++ ss) g2 with
  | some ([d, e], g3) => .exn x [(g', e), (f, d)] g3
  | _ => .stuck
theorem vs_raise2 {x f g' : Str} {k j : Nat} {e e' : Expr} {fe fu : Ft} {p pos pos' : Pos} (hc : X.calm = true) (tk : Takes X W) (c : Rz2 X.prog X.w X.K X.mg X.base k x f g') (hr : Room j X.A) (hg : Gl X x) (he : VE X W e fe) (he' : VE X W e' fu) (hk : k + 1 ≤ j := by decide) (hdb : (x == ("__debug__" : Str)) = false := by decide)
    (hst : starEach [e, e'] X.env = (false, eval e X.env) :: starEach [e'] X.env := by rfl) (hst' : starEach [e'] X.env = (false, eval e' X.env) :: starEach [] X.env := by rfl) (hpl : (backTo pos (starEach [e'] X.env)).any (·.1) = false := by rfl) :
    VS X W (.Raise (some (.Call (.Name x p) [e, e'] [] pos)) none pos') (raiseF2 x f g' fe fu) := by
  refine ⟨ps_imp' (ps_raise hc tk (pz2 c hr hg he.pe he'.pe hk hdb hst hst' hpl)) fun D σ H ⟨I, g, o, r⟩ => ?_⟩
  refine rd1 rfl o r fun v H1 I1 g1 y o1 y1 ry r1 => ?_
  refine rd1 rfl o1 (RemS.go y1 r1) fun u H2 I2 g2 z o2 y2 rz r2 => ?_
  split at r2
  · rename_i d e3 g3 eq
    have rr2 : RvsR X.K ⟨I, σ, H, g⟩ ⟨I2, σ, H2, g2⟩ [v, u] [y, z] := by
      have := RvsR.on (c0 := ⟨I, σ, H, g⟩) (c1 := ⟨I1, σ, H1, g1⟩) o2 rfl y2 ry
      cases this with
      | cons a t => cases rz with
        | cons b t' => cases t; cases t'; exact .cons a (.cons b .nil)
    obtain ⟨I3, o3, y3, rr⟩ := frzA_ok o2 rr2 eq
    cases rr with
    | cons rv t =>
      cases t with
      | cons ru t =>
        cases t
        intro dd H' fr x h
        obtain ⟨o4, y4, z4⟩ := xd_new o3 (y2.trans y3) fr x h (.cons ru (.cons rv .nil))
        exact r2 I3 σ H' dd o4 y4 z4
  · exact r2.elim
def noXS : Rs → Rs
  | .exn _ _ _ => .stuck
  | r => r
structure KC (K : PySem.W.Frag) (mg : Str → Option Value) (x : Str) (d : D) : Prop where
  ex : ∃ v u, mg x = some u ∧ RelV v u ∧ ∀ I, Rep K I v d
theorem ve_kc {x : Str} {d : D} {pos : Pos} (c : KC X.K X.mg x d) (hg : Gl X x) (hd : (x == ("__debug__" : Str)) = false := by decide) : VE X W (.Name x pos) (cF d) := by
  obtain ⟨v, u, h1, h2, h3⟩ := c.ex
  exact ve_c (pe_glob hg h1 h2 hd) h3
mutual
def repB (K : PySem.W.Frag) : D → Value → Bool
  | .int i, u => (match u with | .int j _ => decide (j = i) | _ => false)
  | .str x, u => (match u with | .str y _ => decide (y = x) | _ => false)
  | .non, u => (match u with | .none => true | _ => false)
  | .bl b, u => (match u with | .bool c => decide (c = b) | _ => false)
  | .tup ds, u => (match u with
    | .ref a => (match K.lookup a with
      | some ⟨.type t, _, .seq its _, _⟩ => decide (t = "tuple") && (decide (its.size ≤ sizeLine) && repsB K ds its.toList)
      | _ => false)
    | _ => false)
  | _, _ => false
def repsB (K : PySem.W.Frag) : List D → List Value → Bool
  | [], us => (match us with | [] => true | _ => false)
  | d :: ds, us => (match us with | u :: r => repB K d u && repsB K ds r | [] => false)
end
mutual
theorem repB_ok {K : PySem.W.Frag} : ∀ (d : D) (u : Value), repB K d u = true → ∃ v, RelV v u ∧ ∀ I, Rep K I v d
  | .int i, u, h => by
    unfold repB at h
    split at h
    · exact ⟨.int _, ⟨_, rfl⟩, fun I => of_decide_eq_true h ▸ .int _⟩
    · cases h
  | .str i, u, h => by
    unfold repB at h
    split at h
    · exact ⟨.str _, ⟨_, rfl⟩, fun I => of_decide_eq_true h ▸ .str _⟩
    · cases h
  | .non, u, h => by
    unfold repB at h
    split at h
    · exact ⟨.non, rfl, fun I => .non⟩
    · cases h
  | .bl b, u, h => by
    unfold repB at h
    split at h
    · exact ⟨.bl _, rfl, fun I => of_decide_eq_true h ▸ .bl _⟩
    · cases h
  | .tup ds, u, h => by
    unfold repB at h
    split at h
    · rename_i a
      split at h
      · rename_i t dd its n sl q
        obtain ⟨h1, h2⟩ := He.ba h
        obtain ⟨h2, h3⟩ := He.ba h2
        obtain ⟨vs, r1, r2⟩ := repsB_ok ds its.toList h3
        have ht : t = "tuple" := of_decide_eq_true h1
        subst ht
        exact ⟨.ref a, rfl, fun I => .tup (.inr ⟨_, its, n, q, rfl, rfl, of_decide_eq_true h2, r1⟩) (r2 I)⟩
      · cases h
    · cases h
  | .lst _, u, h => by simp [repB] at h
  | .seq _, u, h => by simp [repB] at h
  | .dct _, u, h => by simp [repB] at h
  | .kdc _, u, h => by simp [repB] at h
  | .ins _ _, u, h => by simp [repB] at h
  | .exv _ _ _ _, u, h => by simp [repB] at h
  | .cls _, u, h => by simp [repB] at h
  | .raw _, u, h => by simp [repB] at h
theorem repsB_ok {K : PySem.W.Frag} : ∀ (ds : List D) (us : List Value), repsB K ds us = true → ∃ vs, Vals vs us ∧ ∀ I, Reps K I vs ds
  | [], us, h => by
    unfold repsB at h
    split at h
    · exact ⟨[], .nil, fun I => .nil⟩
    · cases h
  | d :: ds, us, h => by
    unfold repsB at h
    split at h
    · obtain ⟨h1, h2⟩ := He.ba h
      obtain ⟨v, r1, r2⟩ := repB_ok d _ h1
      obtain ⟨vs, r3, r4⟩ := repsB_ok ds _ h2
      exact ⟨v :: vs, .cons r1 r3, fun I => .cons (r2 I) (r4 I)⟩
    · cases h
end
def kcB (K : PySem.W.Frag) (x : Str) (d : D) : Bool := match PySem.W.nsIn K mainGlobals x with
  | some (some u) => repB K d u
  | _ => false
theorem kc_ok {K : PySem.W.Frag} {h : Heap} {mg : Str → Option Value} (X : K.In h) (G : h.Ns mainGlobals mg) {x : Str} {d : D} (c : kcB K x d = true) : KC K mg x d := by
  unfold kcB at c
  split at c
  · rename_i u e
    obtain ⟨v, r1, r2⟩ := repB_ok d u c
    exact ⟨v, u, PySem.W.mg_of X G e, r1, r2⟩
  · cases c
end
end Vl
set_option Elab.async false
set_option linter.all false
set_option maxRecDepth 100000
set_option maxHeartbeats 2000000
namespace Vl
open PySem PySem.Spec PyProof.Rows L2 My
section
variable {X : Cx} {W : WX}
def tyN : D → Option String
  | .non => some "NoneType"
  | .bl _ => some "bool"
  | .int _ => some "int"
  | .str _ => some "str"
  | .lst _ => some "list"
  | .tup _ => some "tuple"
  | .dct _ => some "dict"
  | _ => none
def isiP (T : String) (d : D) : Option RV := (tyN d).bind fun t => (kitB t T).map fun b => .val (.bl b)
theorem tyN_ty {K : PySem.W.Frag} {c : Cfg} {v : V} {d : D} {t : String} (o : Ok K c) (h : RdD K c v d) (e : tyN d = some t) : TyX K c.H v (.type t) := by
  cases d <;> simp only [tyN] at e <;> cases e
  · rw [h.non]; exact .base .non
  · rw [h.bl]; exact .base (.bl _)
  · rw [h.int]; exact .base (.int _)
  · rw [h.str]; exact .base (.str _)
  · obtain ⟨a, xs, rfl, q, _⟩ := h.lst o; exact .base (.lst q)
  · obtain ⟨a, xs, rfl, q, _⟩ := h.tup o
    rcases q with (q | ⟨u, q⟩) | ⟨u, its, n, q, q2, _⟩
    · exact .base (.tup q)
    · exact .fTuple q
    · exact .kTuple q q2
  · obtain ⟨a, xs, rfl, q, _⟩ := h.dct o; exact .base (.dK q)
theorem ve_isi {e : Expr} {fe : Ft} {tn : Str} {T : String} {p q pos : Pos} (he : VE X W e fe) (hg : Gl X "isinstance") (hm : X.mg "isinstance" = none) (gt : Gl X tn) (mt : X.mg tn = none) (bt : bootBuiltins tn = some (.type T)) (hn : tn ≠ "__name__" := by decide) (hd : (tn == ("__debug__" : Str)) = false := by decide)
    (h1 : starEach [e, .Name tn q] X.env = (false, eval e X.env) :: starEach [.Name tn q] X.env := by rfl) (h2 : starEach [.Name tn q] X.env = (false, eval (.Name tn q) X.env) :: starEach [] X.env := by rfl)
    (hpl : (backTo pos (starEach [.Name tn q] X.env)).any (·.1) = false := by rfl) : VE X W (.Call (.Name "isinstance" p) [e, .Name tn q] [] pos) (op1 (isiP T) fe) := by
  refine ⟨pe_imp (pe_callB call_isi hg hm (by decide +kernel) (pa_cons he.pe (pa_cons (pe_bltn (v := .ty T) gt mt bt rfl hn hd) pa_nil h2) h1) (by decide) (by decide) h1 hpl) fun σ H Q ⟨I, g, o, r⟩ => ?_⟩
  refine ⟨I, g, o, Rem.settle ((Rem.bind (R := RvR X.K) r).mono ?_)⟩
  rintro v H1 ⟨I1, g1, x, o1, y1, rx, r1⟩
  obtain ⟨d, rd, h⟩ := lift1_gives o1 rx r1
  unfold isiP at h
  cases e1 : tyN d with
  | none => rw [e1] at h; exact h.elim
  | some t =>
    rw [e1] at h
    simp only [Option.bind_some] at h
    cases e2 : kitB t T with
    | none => rw [e2] at h; exact h.elim
    | some b =>
      rw [e2] at h
      exact ⟨v, .ty T, .type t, .type T, b, rfl, .ty T, tyN_ty o1 rd e1, kit_ty e2, h.now o1 (.bl b)⟩
end
end Vl
set_option Elab.async false
set_option linter.all false
set_option maxRecDepth 100000
set_option maxHeartbeats 2000000
namespace Vl
open PySem PySem.Spec PyProof.Rows L2 My
section
variable {X : Cx} {W : WX}
def strM1 (p : Str → D → Option RV) (fo fe : Ft) : Ft := fun g => (settle (fo g)).bind fun x g1 => match deref g1 x with
  | some (.str z) => (settle (fe g1)).bind fun y g2 => lift1 (p z) y g2
  | _ => .stuck
structure PM1 (X : Cx) (id : String) (p : Str → D → Option RV) : Prop where
  ex : ∃ r : V → List V → Hp → VK → Prop, MtR X id r ∧ ∀ c u z b Q, Ok X.K c → RdD X.K c u b → Gives X.K c (p z b) Q → r (.str z) [u] c.H Q
theorem ve_strM1 {id : String} {name : Str} {o e : Expr} {fo fe : Ft} {p : Str → D → Option RV} {apos pos : Pos} (hp : PM1 X id p) (slot : Slot "str" name id) (ty : typeOf (.builtin id) = pure (.type "method_descriptor")) (ho : VE X W o fo) (he : VE X W e fe)
    (hs : starEach [e] X.env = [(false, eval e X.env)] := by rfl) (hbase : attributeBase o name X.env (eval o X.env) = eval o X.env := by rfl) (hline : (apos.endLine == pos.line) = true := by rfl) : VE X W (.Call (.Attribute o name apos) [e] [] pos) (strM1 p fo fe) := by
  obtain ⟨r, h1, h2⟩ := hp.ex
  refine ⟨pe_imp (pe_m1 slot ty h1 ho.pe he.pe hs hbase hline) fun σ H Q ⟨I, g, o, r⟩ => ?_⟩
  refine ⟨I, g, o, Rem.settle ((Rem.bind (R := RvR X.K) r).mono ?_)⟩
  rintro v H1 ⟨I1, g1, x, o1, y1, rx, r1⟩
  split at r1
  · rename_i z ez
    have ev := (deref_rd o1 rx ez).str
    subst ev
    refine ⟨⟨z, rfl⟩, I1, g1, o1, Rem.settle ((Rem.bind (R := RvR X.K) r1).mono ?_)⟩
    rintro u H2 ⟨I2, g2, y, o2, y2, ry, r2⟩
    obtain ⟨b, rb, gv⟩ := lift1_gives (c := ⟨I2, σ, H2, g2⟩) o2 ry r2
    exact h2 ⟨I2, σ, H2, g2⟩ u z b Q o2 rb gv
  · exact r1.elim
def strsD : List D → Option (List Str)
  | [] => some []
  | .str i :: r => (strsD r).map (i :: ·)
  | _ => none
theorem reps_strs {K : PySem.W.Frag} {I : Hp} : ∀ {vs : List V} {ds : List D} {ns : List Str}, Reps K I vs ds → strsD ds = some ns → vs = ns.map V.str
  | _, _, _, .nil, e => by cases e; rfl
  | _, d :: ds, ns, .cons h t, e => by
    cases d <;> simp only [strsD, Option.map_eq_some_iff] at e <;> first | cases e | skip
    rename_i ms
    obtain ⟨e1, rfl⟩ := ms
    cases h
    rw [List.map_cons, reps_strs t e1]
def joinP (z : Str) : D → Option RV
  | .lst xs => (strsD xs).bind fun ys => if (ys.map (·.length)).sum + ys.length * z.length ≤ 16777216 then vS (Txt.join z ys) else none
  | .tup xs => (strsD xs).bind fun ys => if (ys.map (·.length)).sum + ys.length * z.length ≤ 16777216 then vS (Txt.join z ys) else none
  | _ => none
theorem m_join : PM1 X "str.join" joinP := by
  refine ⟨_, mt_join, fun c u z b Q o rb g => ?_⟩
  cases b <;> simp only [joinP] at g <;> first | exact g.elim | skip
  · rename_i xs
    obtain ⟨p, us, rfl, hp, rp⟩ := rb.lst o
    cases e : strsD xs with
    | none => rw [e] at g; exact g.elim
    | some ys =>
      rw [e] at g
      simp only [Option.bind_some] at g
      split at g
      · rw [reps_strs rp e] at hp
        exact ⟨z, p, ys, rfl, rfl, .inl (SqL.of hp), by assumption, g.now o (.str _)⟩
      · exact g.elim
  · rename_i xs
    obtain ⟨p, us, rfl, hp, rp⟩ := rb.tup o
    cases e : strsD xs with
    | none => rw [e] at g; exact g.elim
    | some ys =>
      rw [e] at g
      simp only [Option.bind_some] at g
      split at g
      · rw [reps_strs rp e] at hp
        exact ⟨z, p, ys, rfl, rfl, .inr hp, by assumption, g.now o (.str _)⟩
      · exact g.elim
end
end Vl
set_option Elab.async false
set_option linter.all false
set_option maxRecDepth 100000
set_option maxHeartbeats 2000000
namespace Vl
open PySem PySem.Spec PyProof.Rows L2 My
structure FldK (K : PySem.W.Frag) (f : Str) (ts : List (Str × Option Nat)) : Prop where
  ex : ∀ c o, ts.lookup c = some o → match o with
    | none => Cls K (He.ga K c) ∧ NoAttr K (He.ga K c) f
    | some i => SlX.SCls K (He.ga K c) ∧ ∃ q, SlX.Slot1 K (He.ga K c) f q i
def fldP (f : Str) (ts : List (Str × Option Nat)) : D → Option RV
  | .ins c fs => (match ts.lookup c with | some none => (fs.lookup f).map RV.val | _ => none)
  | .slo c vs => (match ts.lookup c with | some (some i) => (match vs[i]? with | some (some d) => some (.val d) | _ => none) | _ => none)
  | _ => none
theorem RepO.get {K : PySem.W.Frag} {I : Hp} : ∀ {vs : List (Option V)} {ds : List (Option D)} {i : Nat} {d : D}, RepO K I vs ds → ds[i]? = some (some d) → ∃ v, vs[i]? = some (some v) ∧ Rep K I v d
  | _, _, i, d, .nil, e => by simp at e
  | _, _, 0, d, .non t, e => by simp at e
  | _, _, i + 1, d, .non t, e => by
    obtain ⟨v, h1, h2⟩ := t.get (i := i) (d := d) (by simpa using e)
    exact ⟨v, by simpa using h1, h2⟩
  | _, _, 0, d, .cons h t, e => by simp at e; subst e; exact ⟨_, rfl, h⟩
  | _, _, i + 1, d, .cons h t, e => by
    obtain ⟨v, h1, h2⟩ := t.get (i := i) (d := d) (by simpa using e)
    exact ⟨v, by simpa using h1, h2⟩
theorem RepO.length {K : PySem.W.Frag} {I : Hp} : ∀ {vs : List (Option V)} {ds : List (Option D)}, RepO K I vs ds → vs.length = ds.length
  | _, _, .nil => rfl
  | _, _, .non t => congrArg Nat.succ t.length
  | _, _, .cons _ t => congrArg Nat.succ t.length
def putO (i : Nat) (d : D) (vs : List (Option D)) : List (Option D) := (vs ++ List.replicate (i + 1 - vs.length) none).set i (some d)
theorem RepO.append {K : PySem.W.Frag} {I : Hp} : ∀ {vs us : List (Option V)} {ds es : List (Option D)}, RepO K I vs ds → RepO K I us es → RepO K I (vs ++ us) (ds ++ es)
  | _, _, _, _, .nil, s => s
  | _, _, _, _, .non t, s => .non (t.append s)
  | _, _, _, _, .cons h t, s => .cons h (t.append s)
theorem RepO.reps {K : PySem.W.Frag} {I : Hp} : ∀ n : Nat, RepO K I (List.replicate n none) (List.replicate n none)
  | 0 => .nil
  | n + 1 => .non (RepO.reps n)
theorem RepO.set {K : PySem.W.Frag} {I : Hp} {v : V} {d : D} (h : Rep K I v d) : ∀ {vs : List (Option V)} {ds : List (Option D)} (i : Nat), RepO K I vs ds → RepO K I (vs.set i (some v)) (ds.set i (some d))
  | _, _, _, .nil => .nil
  | _, _, 0, .non t => .cons h t
  | _, _, i + 1, .non t => .non (t.set h i)
  | _, _, 0, .cons _ t => .cons h t
  | _, _, i + 1, .cons q t => .cons q (t.set h i)
theorem RepO.put {K : PySem.W.Frag} {I : Hp} {v : V} {d : D} {i : Nat} {vs : List (Option V)} {ds : List (Option D)} (h : Rep K I v d) (r : RepO K I vs ds) : RepO K I (SlX.putS i v vs) (putO i d ds) := by
  unfold SlX.putS putO
  rw [r.length]
  exact (r.append (RepO.reps _)).set h i
section
variable {X : Cx} {W : WX}
section
variable {o e value : Expr} {f : Str} {pos pos' : Pos} {ta tv : TE}
theorem pe_attr (he : PE X e ta) (hb : attributeBase e f X.env (eval e X.env) = eval e X.env := by rfl) :
    PE X (.Attribute e f pos) (fun σ H Q => ta σ H fun x H1 => ∃ a, x = .ref a ∧ ((∃ C dx fs v, H1 a = some (.ins C dx fs) ∧ Cls X.K C ∧ NoAttr X.K C f ∧ fs.lookup f = some v ∧ Q v H1) ∨
      (∃ C dx p vs i v, SlX.Slt H1 a C dx vs ∧ SlX.SCls X.K C ∧ SlX.Slot1 X.K C f p i ∧ vs[i]? = some (some v) ∧ Q v H1))) := by
  refine ⟨fun pins s σ H Q I h => ?_⟩
  refine attr_of hb (thn (he.run pins s σ H _ I h) fun u s1 ⟨x, H1, I1, rx, a, ex, q⟩ => ?_)
  subst ex
  obtain rfl : u = Value.ref a := rx
  rcases q with ⟨C, dx, fs, v, ea, c, n, l, q⟩ | ⟨C, dx, p, vs, i, v, hs, c, t, l, q⟩
  · exact getattr_ok I1 ea c n l fun u' s2 I2 ru => ⟨v, H1, I2, ru, q⟩
  · exact SlX.getslot_ok I1 hs c t l fun u' s2 I2 ru => ⟨v, H1, I2, ru, q⟩
theorem ve_fld {ts : List (Str × Option Nat)} {fe : Ft} (k : FldK X.K f ts) (he : VE X W e fe) (hb : attributeBase e f X.env (eval e X.env) = eval e X.env := by rfl) : VE X W (.Attribute e f pos) (op1 (fldP f ts) fe) := by
  refine ⟨pe_imp (pe_attr he.pe hb) fun σ H Q ⟨I, g, o, r⟩ => ?_⟩
  refine ⟨I, g, o, Rem.settle ((Rem.bind (R := RvR X.K) r).mono ?_)⟩
  rintro v H1 ⟨I1, g1, x, o1, y1, rx, r1⟩
  obtain ⟨d, rd, q⟩ := lift1_gives o1 rx r1
  cases d <;> simp only [fldP] at q <;> first | exact q.elim | skip
  · rename_i c fs
    split at q
    · rename_i el
      cases el2 : fs.lookup f with
      | none => rw [el2] at q; exact q.elim
      | some d =>
        rw [el2] at q
        obtain ⟨a, dx, us, rfl, ha, rf⟩ := rd.ins o1
        obtain ⟨v, hv, rv⟩ := rf.get el2
        have z := k.ex _ _ el
        exact ⟨a, rfl, .inl ⟨_, dx, us, v, ha, z.1, z.2, hv, q.now o1 rv⟩⟩
    · exact q.elim
  · rename_i c vs
    split at q
    · rename_i i el
      split at q
      · rename_i d el2
        obtain ⟨a, dx, us, rfl, ha, hd, rf⟩ := rd.slo o1
        obtain ⟨v, hv, rv⟩ := rf.get el2
        obtain ⟨z1, p, z2⟩ := k.ex _ _ el
        exact ⟨a, rfl, .inr ⟨_, dx, p, us, i, v, .inr ⟨ha, hd⟩, z1, z2, hv, q.now o1 rv⟩⟩
      · exact q.elim
    · exact q.elim
theorem ps_attr (ha : PE X o ta) (hv : PE X value tv) (hs : swapsWith value (some (.Attribute o f pos')) pos.line X.env = pure false := by rfl) :
    PS X (.Assign [.Attribute o f pos'] value pos) (fun D σ H => tv σ H fun y H1 => ta σ H1 fun x H2 => ∃ a, x = .ref a ∧
      ((∃ C dx fs, H2 a = some (.ins C dx fs) ∧ Cls X.K C ∧ NoAttr X.K C f ∧ fs.length < 1000 ∧ ∀ H3, Xb [a] H2 H3 → H3 a = some (.ins C dx (L2.putF f y fs)) → D.nx σ H3) ∨
       (∃ C dx p vs i, H2 a = some (SlX.SlO a C dx vs) ∧ H2 dx = some (.xd []) ∧ SlX.SCls X.K C ∧ SlX.Slot1 X.K C f p i ∧ ∀ H3, Xb [a] H2 H3 → H3 a = some (SlX.SlO a C dx (SlX.putS i y vs)) → D.nx σ H3))) := by
  refine ⟨fun pins s σ H D I h => ?_⟩
  refine plainObj_wpAny_Assign_Attribute (thn (hv.run pins s σ H _ I h) fun u s1 ⟨y, H1, I1, ry, q⟩ => thn (ha.run pins s1 σ H1 _ I1 q) fun ov s2 ⟨x, H2, I2, rx, a, ex, q2⟩ => ?_) hs
  subst ex
  obtain rfl : ov = Value.ref a := rx
  rcases q2 with ⟨C, dx, fs, ea, c, n, hl, q2⟩ | ⟨C, dx, p, vs, i, ea, hd, c, t, q2⟩
  · exact setattr_ok I2 ea c n hl ry fun s3 I3 => ⟨σ, _, I3, q2 _ Xb.put upd_same⟩
  · refine SlX.setslot_ok I2 (.inr ⟨ea, hd⟩) c t ry fun s3 I3 => ⟨σ, _, I3, q2 _ ⟨fun b u nb e => ?_⟩ upd_same⟩
    have na : b ≠ a := fun z => nb (by rw [z]; exact .head _)
    unfold SlX.slH
    rw [upd_ne na]
    by_cases z : b = dx
    · subst z
      rw [upd_same, ← e, hd]
    · rw [upd_ne z]
      exact e
end
def setA (i : Nat) (f : Str) (ts : List (Str × Option Nat)) (fe : Ft) : Fs := fun g => bindE (evA [fe] g) fun xs g1 => match frzA xs g1 with
  | some ([d], g2) => (match g2[i]? with
    | some (.own t (.ins c fs)) => if ts.lookup c = some none ∧ fs.length < 1000 then .nx (g2.set i (.own t (.ins c (putD f d fs)))) else .stuck
    | some (.own t (.slo c vs)) => (match ts.lookup c with
      | some (some j) => .nx (g2.set i (.own t (.slo c (putO j d vs))))
      | _ => .stuck)
    | _ => .stuck)
  | _ => .stuck
theorem vs_attr {o value : Expr} {f : Str} {pos pos' : Pos} {i : Nat} {ts : List (Str × Option Nat)} {fe : Ft} (k : FldK X.K f ts) (ho : PE X o (tVar i)) (he : VE X W value fe) (hs : swapsWith value (some (.Attribute o f pos')) pos.line X.env = pure false := by rfl) :
    VS X W (.Assign [.Attribute o f pos'] value pos) (setA i f ts fe) := by
  refine ⟨ps_imp' (ps_attr ho he.pe hs) fun D σ H ⟨I, g, o, r⟩ => ?_⟩
  refine rd1 rfl o r fun v H1 I1 g1 x o1 y1 rx r1 => ?_
  split at r1
  · rename_i d g2 e2
    obtain ⟨I2, o2, y2, rr⟩ := frzA_ok o1 rx e2
    cases rr with
    | cons rv tt =>
      cases tt
      split at r1
      · rename_i t c fs q
        split at r1
        · rename_i hh
          obtain ⟨a, ea, ⟨dx, us, ha, rf⟩, na⟩ := o2.own_at q
          have z := k.ex _ _ hh.1
          refine ⟨.ref a, ea, a, rfl, .inl ⟨_, dx, us, ha, z.1, z.2, by rw [rf.length]; exact hh.2, fun H3 x3 h3 => ?_⟩⟩
          obtain ⟨o3, y3⟩ := o2.wr q ea x3 (d' := .ins c (putD f d fs)) ⟨dx, _, h3, rf.put rv⟩
          exact r1 I2 σ H3 o3 ((y1.trans y2).trans y3)
        · exact r1.elim
      · rename_i t c vs q
        split at r1
        · rename_i j el
          obtain ⟨a, ea, ⟨dx, us, ha, hd, rf⟩, na⟩ := o2.own_at q
          obtain ⟨z1, p, z2⟩ := k.ex _ _ el
          refine ⟨.ref a, ea, a, rfl, .inr ⟨_, dx, p, us, j, ha, o2.sub _ _ hd, z1, z2, fun H3 x3 h3 => ?_⟩⟩
          obtain ⟨o3, y3⟩ := o2.wr q ea x3 (d' := .slo c (putO j d vs)) ⟨dx, _, h3, hd, rf.put rv⟩
          exact r1 I2 σ H3 o3 ((y1.trans y2).trans y3)
        · exact r1.elim
      · exact r1.elim
  · exact r1.elim
end
end Vl
set_option Elab.async false
set_option linter.all false
set_option maxRecDepth 100000
set_option maxHeartbeats 2000000
namespace Vl
open PySem PySem.Spec PyProof.Rows L2 My
inductive MethAt (K : PySem.W.Frag) (H : Hp) (a : Addr) (m : Str) (g : Addr) : Prop
  | ins {C dx : Addr} {fs : List (Str × V)} (h : H a = some (.ins C dx fs)) (l : fs.lookup m = none) (c : Cls K C) (k : Meth K C m g)
  | slo {C dx : Addr} {vs : List (Option V)} (h : SlX.Slt H a C dx vs) (c : SlX.SCls K C) (k : Meth K C m g)
theorem MethAt.kp {K : PySem.W.Frag} {H : Hp} {a g : Addr} {m : Str} (h : MethAt K H a m g) : PySem.W.keepIn K (.ref g) = true := by
  cases h with
  | ins _ _ _ k => exact k.kp
  | slo _ _ k => exact k.kp
theorem MethAt.ok {X : Cx} {pins : List (Addr × Obj)} {σ : L2.St} {H : Hp} {s : Shared} {a g : Addr} {m : Str} {A : Around} {E : Value → Shared → Prop} {pl : Sem Bool} {Q : Value × List Value → Shared → Prop} (I : Inv X pins σ H s) (k : MethAt X.K H a m g) (h : Q (.ref g, [.ref a]) s) :
    wpAny (model X.prog X.w) A (getMethod (.ref a) m pl) Q E s := by
  cases k with
  | ins e l c k => exact getmeth_ok I e c k l h
  | slo e c k => exact SlX.getmethsl_ok I e c k h
section
variable {X : Cx} {W : WX} {o e : Expr} {es : List Expr} {m : Str} {pos apos : Pos} {ta : TE} {t : TA} {j : Nat} {pl : Sem Bool}
theorem px_meth (he : PE X o ta) (ha : PA X (e :: es) t) (hr : Room j X.A) (tk : Takes X W)
    (hst : starEach (e :: es) X.env = (false, eval e X.env) :: starEach es X.env := by rfl) (hpl : (backTo pos (starEach es X.env)).any (·.1) = false := by rfl)
    (ht : eval (.Call (.Attribute o m apos) (e :: es) [] pos) X.env = (do
      let ov ← eval o X.env
      standAt apos.atName
      let (f, first) ← holding [ov] (getMethod ov m pl)
      callWith pos f first (backTo pos (starEach (e :: es) X.env)) (backToKw pos (keywordEach [] X.env))) := by rfl) :
    PE X (.Call (.Attribute o m apos) (e :: es) [] pos) (fun σ H Q => ta σ H fun x H1 => ∃ (a g : Addr) (k : Nat) (sp : Sp), x = .ref a ∧ MethAt X.K H1 a m g ∧ k ≤ j ∧ Callee X.prog X.w X.K X.mg X.base k g sp ∧ t σ H1 fun vs H2 => sp (x :: vs) H2 Q (WE W σ)) := by
  refine ⟨fun pins s σ H Q I h => ?_⟩
  refine PySem.W.methodCall_KW (pl := pl) (thn (he.run pins s σ H _ I h) fun u s1 ⟨x, H1, I1, rx, a, g, k, sp, ex, mk, hk, c, q⟩ => ?_) ht
  subst ex
  obtain rfl : u = Value.ref a := rx
  refine mk.ok I1 ?_
  refine PySem.W.callWith_K (first := [.ref a]) (h₀ := X.base) I.ok.mod.kin mk.kp (thn (ha.run pos pins s1 σ H1 _ I1 q) fun us s2 ⟨vs, H2, I2, r, q2⟩ => ⟨I2.kIn, ?_⟩) hst hpl
  exact c X pins σ H2 s2 (.ref a :: us) (.ref a :: vs) Q (WE W σ) rfl rfl rfl rfl rfl (hr.mono hk) (passAt tk σ) I2 (.cons rfl r) q2
end
structure MethK (P : Program) (w : World) (K : PySem.W.Frag) (mg : Str → Option Value) (base : Heap) (j : Nat) (nm : Str) (ms : List (Str × Bool × Fm)) : Prop where
  ex : ∀ c b m, ms.lookup c = some (b, m) → ∃ (g : Addr) (k : Nat), k ≤ j ∧ Callee P w K mg base k g (spV K m) ∧ Meth K (He.ga K c) nm g ∧ (b = false → Cls K (He.ga K c)) ∧ (b = true → SlX.SCls K (He.ga K c))
def pickM (nm : Str) (ms : List (Str × Bool × Fm)) : D → Option Fm
  | .ins c fs => if (fs.lookup nm).isNone = true then (match ms.lookup c with | some (false, m) => some m | _ => none) else none
  | .slo c _ => (match ms.lookup c with | some (true, m) => some m | _ => none)
  | _ => none
def methK (fs : List Ft) (m : Fm) (x : RV) : Sg → Res RV := fun g => (evA fs g).bind fun rs g2 => callK m (x :: rs) g2
def methC (nm : Str) (ms : List (Str × Bool × Fm)) (fs : List Ft) (x : RV) (g1 : Sg) : Res RV := match (deref g1 x).bind (pickM nm ms) with
  | some m => methK fs m x g1
  | none => .stuck
def methM (nm : Str) (ms : List (Str × Bool × Fm)) (fo : Ft) (fs : List Ft) : Ft := fun g => (settle (fo g)).bind (methC nm ms fs)
section
variable {X : Cx} {W : WX} {o e : Expr} {es : List Expr} {nm : Str} {pos apos : Pos} {j : Nat} {pl : Sem Bool} {ms : List (Str × Bool × Fm)} {fo : Ft} {fs : List Ft}
theorem meth_at {c : Cfg} {v : V} {d : D} {m : Fm} (k : MethK X.prog X.w X.K X.mg X.base j nm ms) (o : Ok X.K c) (rd : RdD X.K c v d) (h : pickM nm ms d = some m) :
    ∃ (a g : Addr) (k : Nat), v = .ref a ∧ MethAt X.K c.H a nm g ∧ k ≤ j ∧ Callee X.prog X.w X.K X.mg X.base k g (spV X.K m) := by
  cases d <;> simp only [pickM] at h <;> first | cases h | skip
  · rename_i c fs
    split at h
    · rename_i hl
      split at h
      · rename_i m' el
        cases h
        obtain ⟨g, k', hk, hc, hm, hp, _⟩ := k.ex _ _ _ el
        obtain ⟨a, dx, us, rfl, ha, rf⟩ := rd.ins o
        exact ⟨a, g, k', rfl, .ins ha (rf.none (Option.isNone_iff_eq_none.mp hl)) (hp rfl) hm, hk, hc⟩
      · cases h
    · cases h
  · rename_i c vs
    split at h
    · rename_i m' el
      cases h
      obtain ⟨g, k', hk, hc, hm, _, hp⟩ := k.ex _ _ _ el
      obtain ⟨a, dx, us, rfl, ha, hd, rf⟩ := rd.slo o
      exact ⟨a, g, k', rfl, .slo (.inr ⟨ha, hd⟩) (hp rfl) hm, hk, hc⟩
    · cases h
theorem nofr_of {f : Ft} {g : Sg} : ∀ x g', settle (f g) = .ok x g' → ∀ d, x ≠ .fr d := fun x g' h => settle_nofr h
theorem ve_meth (k : MethK X.prog X.w X.K X.mg X.base j nm ms) (hr : Room j X.A) (tk : Takes X W) (ho : VE X W o fo) (ha : VA X W (e :: es) fs)
    (hst : starEach (e :: es) X.env = (false, eval e X.env) :: starEach es X.env := by rfl) (hpl : (backTo pos (starEach es X.env)).any (·.1) = false := by rfl)
    (ht : eval (.Call (.Attribute o nm apos) (e :: es) [] pos) X.env = (do
      let ov ← eval o X.env
      standAt apos.atName
      let (f, first) ← holding [ov] (getMethod ov nm pl)
      callWith pos f first (backTo pos (starEach (e :: es) X.env)) (backToKw pos (keywordEach [] X.env))) := by rfl) :
    VE X W (.Call (.Attribute o nm apos) (e :: es) [] pos) (methM nm ms fo fs) := by
  refine ⟨pe_imp (px_meth ho.pe ha.pa hr tk hst hpl ht) fun σ H Q ⟨I, g, o, r⟩ => ?_⟩
  refine ⟨I, g, o, Rem.settle ?_⟩
  have nf := nofr_of (f := fo) (g := g)
  unfold methM at r
  revert nf r
  generalize settle (fo g) = sr
  intro r nf
  cases sr with
  | stuck => exact r
  | exn c fs' g' => exact r
  | ok x g1 =>
    intro I1 H1 v o1 y1 rx
    have r1 : Rem X.K W (RvR X.K) ⟨I1, σ, H1, g1⟩ (methC nm ms fs x g1) Q := Rem.go (c0 := ⟨I, σ, H, g⟩) (c1 := ⟨I1, σ, H1, g1⟩) y1 rfl r
    unfold methC at r1
    cases ed : (deref g1 x).bind (pickM nm ms) with
    | none => rw [ed] at r1; exact r1.elim
    | some m =>
      rw [ed] at r1
      obtain ⟨d, hd, hm⟩ := Option.bind_eq_some_iff.mp ed
      obtain ⟨a, gg, k', rfl, mt, hk, hc⟩ := meth_at k o1 (deref_rd (c := ⟨I1, σ, H1, g1⟩) o1 rx hd) hm
      refine ⟨a, gg, k', _, rfl, mt, hk, hc, I1, g1, o1, (Rem.bind (R := RvsR X.K) (r := evA fs g1) r1).mono ?_⟩
      rintro vs H2 ⟨I2, g2, rs, o2, y2, rr, r2⟩
      exact call_sp (c0 := ⟨I1, σ, H1, g1⟩) o2 (.cons ⟨_, RvR.on (c1 := ⟨I1, σ, H1, g1⟩) o2 rfl y2 rx, nf x g1 rfl⟩ rr) r2
end
def mkM (d0 : D) (m : Fm) : Fm := fun as => match m (.own d0 :: as) with
  | .ok (.val .non) (.own true d :: os) => .ok (.fr d) os
  | .exn c fs => .exn c fs
  | _ => .stuck
def spMkS (C : Addr) (spI : Sp) : Sp := fun vs H Q E => ∀ (a d : Addr) (H2 : Hp), Fr H a → Fr H d → d ≠ a → Xb [] H H2 → H2 a = some (SlX.SlO a C d []) → H2 d = some (.xd []) → spI (.ref a :: vs) H2 (fun v H3 => v = .non ∧ Q (.ref a) H3) E
section
variable {P : Program} {w : World} {K : PySem.W.Frag} {mg : Str → Option Value} {base : Heap} {k : Nat} {v f C : Addr} {x : Str} {sp sp' : Sp}
theorem Callee.of_clsS (M : Mk K C f) (F : FnR P w K mg base (L2.CX P w) k f sp) : Callee P w K mg base (k + 1) C (spMkS C sp) := by
  rintro X pins σ H s us vs Q E rfl rfl rfl rfl rfl hr hx I r h
  have n1 : H (s.heap.objs.size + 1) = none := I.hok.fresh (Nat.le_succ _)
  have n2 : H s.heap.objs.size = none := I.hok.fresh (Nat.le_refl _)
  have ne : s.heap.objs.size ≠ s.heap.objs.size + 1 := Nat.ne_of_lt (Nat.lt_succ_self _)
  have I1 := Inv.made (C := C) I
  have sl : SlX.Slt (upd (upd H s.heap.objs.size (.own (s.heap.objs.size + 1))) (s.heap.objs.size + 1) (.ins C s.heap.objs.size [])) (s.heap.objs.size + 1) C s.heap.objs.size [] := .inl ⟨upd_same, rfl⟩
  obtain ⟨_, sl0, mA, e0, _, _, _⟩ := SlX.slt_at I1 sl
  have I2 := SlX.inv_slot (vs' := []) (t' := s.toks) I1 sl (fun b o _ _ z => z) (fun m z => z) e0 (SlX.SlR.nil _)
  have hq := h (s.heap.objs.size + 1) s.heap.objs.size _ ⟨n1⟩ ⟨n2⟩ ne (show Xb [] H (SlX.slH (upd (upd H s.heap.objs.size (.own (s.heap.objs.size + 1))) (s.heap.objs.size + 1) (.ins C s.heap.objs.size [])) (s.heap.objs.size + 1) C s.heap.objs.size []) from ⟨fun b u _ e => by
    have b1 : b ≠ s.heap.objs.size + 1 := ne_of_none e n1
    have b2 : b ≠ s.heap.objs.size := ne_of_none e n2
    unfold SlX.slH
    rw [upd_ne b1, upd_ne b2, upd_ne b1, upd_ne b2]
    exact e⟩) (by unfold SlX.slH; exact upd_same) (by unfold SlX.slH; rw [upd_ne ne]; exact upd_same)
  have r2 : Vals (V.ref (s.heap.objs.size + 1) :: vs) (Value.ref (s.heap.objs.size + 1) :: us) := .cons rfl r
  refine wpAny_call (make_map (f := f) I.kIn M.makes M.init (beq_iff_eq.mp M.fn) (codeAny_mono (F _ X.stack _ _ (Value.ref (s.heap.objs.size + 1) :: us) _ _ E (hr.make C us []) (I2.env0.make C us []) r2 hq) fun r s' hq' => ?_))
  cases r with
  | error e => exact hx pins _ _ e s' I2 hq'
  | ok fl =>
    cases fl with
    | ret u =>
      obtain ⟨v, H', I3, rv, ev, q3⟩ := I2.after hq'
      subst ev
      exact ⟨rv, ⟨V.ref (s.heap.objs.size + 1), H', I3, rfl, q3⟩⟩
    | next => exact False.elim hq'
    | brk => exact False.elim hq'
    | cont => exact False.elim hq'
theorem ArR.mono {K : PySem.W.Frag} {I I' H H' : Hp} {v : V} {a : Ar} (l : Le I I') (hk : ∀ b d, a = .own d → v = .ref b → H' b = H b ∧ I' b = none) (h : ArR K I H v a) : ArR K I' H' v a := by
  cases a with
  | val d => exact Rep.mono l h
  | own d =>
    obtain ⟨b, e, r, n⟩ := h
    obtain ⟨h1, h2⟩ := hk b d rfl e
    exact ⟨b, e, r.mono l h1, h2⟩
theorem paired_mapI {α β : Type} {F G : α → β → Prop} : ∀ {l₁ : List α} {l₂ : List β}, Paired F l₁ l₂ → (∀ (i : Nat) a b, l₁[i]? = some a → l₂[i]? = some b → F a b → G a b) → Paired G l₁ l₂
  | _, _, .nil, _ => .nil
  | _, _, .cons r t, f => .cons (f 0 _ _ rfl rfl r) (paired_mapI t fun i a b h1 h2 => f (i + 1) a b (by simpa using h1) (by simpa using h2))
theorem mk_sp {d0 : D} {m : Fm} {vs : List V} {H H2 I2x : Hp} {Q : VK} {E : XK} {a d : Addr} (h : spV K (mkM d0 m) vs H Q E) (ha : Fr H a) (hd : Fr H d) (ne : d ≠ a) (x : Xb [] H H2)
    (hI : ∀ I, Le I H → ∃ I2, (NoTab I → NoTab I2) ∧ Le I I2 ∧ Le I2 H2 ∧ (∀ b, I b = none → I2 b ≠ none → b = d) ∧ OwnAt K I2 H2 a d0 ∧ I2 a = none) : spV K m (.ref a :: vs) H2 (fun v H3 => v = .non ∧ Q (.ref a) H3) E := by
  obtain ⟨I, as, le, tb, pr, ap, r⟩ := h
  obtain ⟨I2, l0, l1, l2, l3, ow, na⟩ := hI I le
  have old : ∀ (j : Nat) (b : Addr) (e : D), vs[j]? = some (.ref b) → as[j]? = some (.own e) → (∃ u, H b = some u) ∧ b ≠ a ∧ b ≠ d ∧ I b = none := fun j b e h1 h2 => by
    obtain ⟨v, h3, c, h4, h5, h6⟩ := paired_get pr h2
    rw [h1] at h3
    cases h3
    cases h4
    obtain ⟨u, hu⟩ := h5.some
    exact ⟨⟨u, hu⟩, ne_of_none hu ha.e, ne_of_none hu hd.e, h6⟩
  have mine : ∀ b, Mine (.ref a :: vs) (.own d0 :: as) b → b = a ∨ Mine vs as b := fun b ⟨j, e, h1, h2⟩ => by
    cases j with
    | zero => simp at h2; exact .inl h2.symm
    | succ j => exact .inr ⟨j, e, by simpa using h1, by simpa using h2⟩
  have wld : ∀ {I3 H3 : Hp}, Wld K I2 H2 (.ref a :: vs) (.own d0 :: as) I3 H3 → Wld K I H vs as I3 H3 := fun {I3 H3} wl => by
    refine ⟨wl.le, l1.trans wl.sub, fun b o e n nt => ?_, fun b e => x.free (fun z => nomatch z) (wl.dom b e), fun b e e' => ?_, wl.nt, wl.tab⟩
    · refine wl.keep b o (x.get0 e) (fun q => ?_) nt
      rcases mine b q with z | z
      · subst z; exact no_some ha.e e
      · exact n z
    · by_cases q : I2 b = none
      · rcases wl.grow b q e' with z | z
        · rcases mine b z with z | z
          · subst z; exact .inr ha.e
          · exact .inl z
        · exact .inr (x.free (fun z => nomatch z) z)
      · have := l3 b e q
        subst this
        exact .inr hd.e
  refine ⟨I2, .own d0 :: as, l2, ⟨l0 tb.1, tb.2.mono l1 fun b ps e => x.get0 e⟩, .cons ⟨a, rfl, ow, na⟩ (paired_mapI pr fun i v y e1 e2 q => q.mono l1 fun b e ey ev => ?_), fun i j e e' h1 h2 q => ?_, ?_⟩
  · subst ey ev
    obtain ⟨⟨u, hu⟩, h1, h2, h3⟩ := old i b e e1 e2
    refine ⟨(x.get0 hu).trans hu.symm, ?_⟩
    cases z : I2 b with
    | none => rfl
    | some w => exact (h2 (l3 b h3 (by rw [z]; exact fun z => nomatch z))).elim
  · have key : ∀ (i : Nat) (e : D), as[i]? = some (.own e) → vs[i]? ≠ some (.ref a) := fun i e h1 h2 => (old i a e h2 h1).2.1 rfl
    cases i with
    | zero =>
      cases j with
      | zero => rfl
      | succ j =>
        have q' : vs[j]? = some (.ref a) := by simpa using q.symm
        exact (key j e' (by simpa using h2) q').elim
    | succ i =>
      cases j with
      | zero =>
        have q' : vs[i]? = some (.ref a) := by simpa using q
        exact (key i e (by simpa using h1) q').elim
      | succ j => rw [ap i j e e' (by simpa using h1) (by simpa using h2) (by simpa using q)]
  · unfold mkM at r
    cases em : m (.own d0 :: as) with
    | stuck => rw [em] at r; exact r.elim
    | exn c fs =>
      rw [em] at r
      exact fun I3 H3 e wl h1 h2 h3 => r I3 H3 e (wld wl) h1 (x.free (fun z => nomatch z) h2) h3
    | ok rv outs =>
      rw [em] at r
      cases rv with
      | at_ i => exact r.elim
      | fr d' => exact r.elim
      | val d' =>
        cases d' <;> first | exact r.elim | skip
        match outs, r with
        | .own true d' :: os, r =>
          intro I3 H3 v wl ho rv
          cases rv
          have h0 := ho 0 d0 a rfl rfl
          exact ⟨rfl, r I3 H3 (.ref a) (wld wl) (fun j e b h1 h2 => ho (j + 1) e b (by simpa using h1) (by simpa using h2)) ⟨a, rfl, h0.1, h0.2, ha.e⟩⟩
theorem mk_plain {c : Str} {m : Fm} {f : Addr} (M : Mk K (He.ga K c) f) (F : FnR P w K mg base (L2.CX P w) k f (spV K m)) : Callee P w K mg base (k + 1) (He.ga K c) (spV K (mkM (.ins c []) m)) :=
  (Callee.of_cls M F).imp fun vs H Q E h a d H2 ha hd ne x h1 h2 => mk_sp (I2x := H) h ha hd ne x fun I le => ⟨I, id, Le.refl _, fun b u e => x.get0 (le b u e), fun b e e' => (e' e).elim, ⟨d, [], h1, .nil⟩, by
    cases q : I a with
    | none => rfl
    | some u => exact (no_some ha.e (le a u q)).elim⟩
theorem mk_slots {c : Str} {m : Fm} {f : Addr} (M : Mk K (He.ga K c) f) (F : FnR P w K mg base (L2.CX P w) k f (spV K m)) : Callee P w K mg base (k + 1) (He.ga K c) (spV K (mkM (.slo c []) m)) :=
  (Callee.of_clsS M F).imp fun vs H Q E h a d H2 ha hd ne x h1 h2 => mk_sp (I2x := H) h ha hd ne x fun I le => by
    have nd : I d = none := by
      cases q : I d with
      | none => rfl
      | some u => exact (no_some hd.e (le d u q)).elim
    refine ⟨upd I d (.xd []), fun n => n.upd .xd, Le.upd nd, fun b u e => ?_, fun b e e' => ?_, ⟨d, [], h1, upd_same, .nil⟩, ?_⟩
    · by_cases z : b = d
      · subst z; rw [upd_same] at e; rw [← e]; exact h2
      · rw [upd_ne z] at e; exact x.get0 (le b u e)
    · by_cases z : b = d
      · exact z
      · rw [upd_ne z] at e'; exact (e' e).elim
    · rw [upd_ne (Ne.symm ne)]
      cases q : I a with
      | none => rfl
      | some u => exact (no_some ha.e (le a u q)).elim
def dflM (k : Nat) (ds : List D) (m : Fm) : Fm := fun as => if k ≤ as.length + ds.length ∧ as.length ≤ k then m (as ++ (ds.drop (as.length + ds.length - k)).map Ar.val) else .stuck
theorem spV.more {m : Fm} {vs dvs : List V} {ds : List D} {H : Hp} {Q : VK} {E : XK} {as : List Ar} {I : Hp} (hr : Reps K I dvs ds) (le : Le I H) (tb : NoTab I ∧ TabsV K I H) (pr : Paired (ArR K I H) vs as) (ap : Apart vs as) (r : RemC K I H vs as (m (as ++ ds.map Ar.val)) Q E) : spV K m (vs ++ dvs) H Q E := by
  have hl := Paired.length pr
  have get : ∀ (j : Nat) (d : D), (as ++ ds.map Ar.val)[j]? = some (.own d) → as[j]? = some (.own d) ∧ (vs ++ dvs)[j]? = vs[j]? := fun j d h => by
    by_cases hj : j < as.length
    · rw [List.getElem?_append_left hj] at h
      exact ⟨h, List.getElem?_append_left (by omega)⟩
    · rw [List.getElem?_append_right (by omega), List.getElem?_map, Option.map_eq_some_iff] at h
      obtain ⟨_, _, h⟩ := h
      cases h
  have bak : ∀ (j : Nat) (d : D), as[j]? = some (.own d) → (as ++ ds.map Ar.val)[j]? = some (.own d) ∧ (vs ++ dvs)[j]? = vs[j]? := fun j d h => by
    have hj := (List.getElem?_eq_some_iff.mp h).1
    exact ⟨by rw [List.getElem?_append_left hj]; exact h, List.getElem?_append_left (by omega)⟩
  have mine : ∀ b, Mine (vs ++ dvs) (as ++ ds.map Ar.val) b ↔ Mine vs as b := fun b => ⟨fun ⟨j, d, h1, h2⟩ => by
    obtain ⟨h3, h4⟩ := get j d h1
    exact ⟨j, d, h3, h4 ▸ h2⟩, fun ⟨j, d, h1, h2⟩ => by
    obtain ⟨h3, h4⟩ := bak j d h1
    exact ⟨j, d, h3, h4.trans h2⟩⟩
  have wld : ∀ {I' H' : Hp}, Wld K I H (vs ++ dvs) (as ++ ds.map Ar.val) I' H' → Wld K I H vs as I' H' := fun wl =>
    ⟨wl.le, wl.sub, fun a o e n nt => wl.keep a o e (fun q => n ((mine a).mp q)) nt, wl.dom, fun a e e' => (wl.grow a e e').imp (mine a).mp id, wl.nt, wl.tab⟩
  have pr2 : ∀ {dvs : List V} {ds : List D}, Reps K I dvs ds → Paired (ArR K I H) dvs (ds.map Ar.val) := by
    intro dvs
    induction dvs with
    | nil => intro ds h; cases h; exact .nil
    | cons v r ih => intro ds h; cases h with | cons q t => exact .cons q (ih t)
  have app : ∀ {a c : List V} {b d : List Ar}, Paired (ArR K I H) a b → Paired (ArR K I H) c d → Paired (ArR K I H) (a ++ c) (b ++ d) := fun h1 h2 => paired_app h1 h2
  refine ⟨I, as ++ ds.map Ar.val, le, tb, app pr (pr2 hr), fun i j d d' h1 h2 q => ?_, ?_⟩
  · obtain ⟨g1, g2⟩ := get i d h1
    obtain ⟨g3, g4⟩ := get j d' h2
    exact ap i j d d' g1 g3 (by rw [← g2, ← g4]; exact q)
  · revert r
    generalize m (as ++ ds.map Ar.val) = rc
    intro r
    cases rc with
    | stuck => exact r.elim
    | exn c fs => exact fun I' H' e wl h1 h2 h3 => r I' H' e (wld wl) h1 h2 h3
    | ok rv outs => exact fun I' H' v wl ho rv => r I' H' v (wld wl) (fun j d a h1 h2 => by
        obtain ⟨g1, g2⟩ := bak j d h1
        exact ho j d a g1 (g2.trans h2)) rv
theorem dfl_of {CX : CXT} {n : Nat} {ds : List D} {dvs : List V} {m : Fm} {f : Addr} (hr : ∀ I, Reps K I dvs ds) (hF : ∀ j, j ≤ ds.length → FnR P w K mg base CX k f (fun vs H Q E => vs.length + ds.length = n + j ∧ spV K m (vs ++ dvs.drop j) H Q E)) :
    FnR P w K mg base CX k f (spV K (dflM n ds m)) := by
  intro A outer s H us vs Q E hrm e0 rv h
  obtain ⟨I, as, le, tb, pr, ap, r⟩ := h
  unfold dflM at r
  split at r
  · rename_i hh
    have hl := Paired.length pr
    have r' : RemC K I H vs as (m (as ++ (ds.drop (as.length + ds.length - n)).map Ar.val)) Q E := r
    refine hF (as.length + ds.length - n) (by omega) A outer s H us vs Q E hrm e0 rv ⟨by omega, spV.more ((hr I).drop _) le tb pr ap r'⟩
  · exact r.elim
end
end Vl
set_option Elab.async false
set_option linter.all false
set_option maxRecDepth 100000
set_option maxHeartbeats 2000000
namespace Vl
open PySem PySem.Spec PyProof.Rows L2 My
def KCal (P : Program) (w : World) (K : PySem.W.Frag) (mg : Str → Option Value) (base : Heap) (k : Nat) (v : Addr) (n : Nat) (ks : List Str) (gV : List V → List V → List V) (sp : Sp) : Prop :=
  ∀ (X : Cx) (pins : List (Addr × Obj)) (σ : L2.St) (H : Hp) (s : Shared) (us ws : List Value) (vs zs : List V) (Q : VK) (E : XK), X.prog = P → X.w = w → X.K = K → X.mg = mg → X.base = base →
    Room k X.A → PassesAt (L2.CX X.prog X.w) X σ E → Inv X pins σ H s → Vals vs us → Vals zs ws → vs.length = n → zs.length = ks.length → sp (gV vs zs) H Q E → wpAny (model X.prog X.w) X.A (call (.ref v) us (ks.zip ws)) (EP X pins σ Q) X.xe s
structure KCf (P : Program) (w : World) (K : PySem.W.Frag) (mg : Str → Option Value) (base : Heap) (k : Nat) (x : Str) (n : Nat) (ks : List Str) (gD : List D → List D → List D) (m : Fm) : Prop where
  ex : ∃ (v : Addr) (gV : List V → List V → List V), KCal P w K mg base k v n ks gV (spV K m) ∧ mg x = some (.ref v) ∧ PySem.W.keepIn K (.ref v) = true ∧ ∀ I vs ds zs es, Reps K I vs ds → Reps K I zs es → Reps K I (gV vs zs) (gD ds es)
section
variable {P : Program} {w : World} {K : PySem.W.Frag} {mg : Str → Option Value} {base : Heap} {k n : Nat} {v f C : Addr} {fd : FuncData} {ps ks : List Str} {x : Str} {sp : Sp} {g : List Value → List Value → List Value} {gV gV' : List V → List V → List V}
theorem KCal.imp {sp' : Sp} (c : KCal P w K mg base k v n ks gV sp) (h : ∀ vs H Q E, sp' vs H Q E → sp vs H Q E) : KCal P w K mg base k v n ks gV sp' :=
  fun X pins σ H s us ws vs zs Q E e1 e2 e3 e4 e5 hr hx I r rz l1 l2 hs => c X pins σ H s us ws vs zs Q E e1 e2 e3 e4 e5 hr hx I r rz l1 l2 (h _ _ _ _ hs)
theorem KCal.of_fn (F : FnOk P w K mg base (L2.CX P w) k f fd ps sp) (hb : KBn K fd ps n ks g gV) : KCal P w K mg base k f n ks gV sp := by
  rintro X pins σ H s us ws vs zs Q E rfl rfl rfl rfl rfl hr hx I r rz l1 l2 h
  have r2 := hb.rel r rz
  have e1 : us.length = n := r.length.symm.trans l1
  have e2 : ws.length = ks.length := rz.length.symm.trans l2
  refine wpAny_call (codeAny_mono (F.run X.A X.stack s H ⟨us, ks.zip ws⟩ (g us ws) (gV vs zs) Q E hr I.env0 (hb.to s us ws I.kIn e1 e2) r2 h) fun r s' hq => ?_)
  cases r with
  | error e => exact hx pins H s e s' I hq
  | ok fl =>
    cases fl with
    | ret u => exact I.after hq
    | next => exact False.elim hq
    | brk => exact False.elim hq
    | cont => exact False.elim hq
theorem KCal.of_cls (M : Mk K C f) (F : FnOk P w K mg base (L2.CX P w) k f fd ps sp) (hb : KBn K fd ps (n + 1) ks g gV) (hg : ∀ y vs zs, gV (y :: vs) zs = y :: gV' vs zs) : KCal P w K mg base (k + 1) C n ks gV' (spMk C sp) := by
  rintro X pins σ H s us ws vs zs Q E rfl rfl rfl rfl rfl hr hx I r rz l1 l2 h
  have n1 : H (s.heap.objs.size + 1) = none := I.hok.fresh (Nat.le_succ _)
  have n2 : H s.heap.objs.size = none := I.hok.fresh (Nat.le_refl _)
  have ne : s.heap.objs.size ≠ s.heap.objs.size + 1 := Nat.ne_of_lt (Nat.lt_succ_self _)
  have hq := h (s.heap.objs.size + 1) s.heap.objs.size (upd (upd H s.heap.objs.size (.own (s.heap.objs.size + 1))) (s.heap.objs.size + 1) (.ins C s.heap.objs.size [])) ⟨n1⟩ ⟨n2⟩ ne
    ((Xb.new n2).t0 (Xb.new (by rw [upd_ne (Ne.symm ne)]; exact n1))) upd_same (by rw [upd_ne ne, upd_same])
  have I2 := Inv.made (C := C) I
  have r1 : Vals (V.ref (s.heap.objs.size + 1) :: vs) (Value.ref (s.heap.objs.size + 1) :: us) := .cons rfl r
  have r2 := hb.rel r1 rz
  rw [hg] at r2
  have e1 : (Value.ref (s.heap.objs.size + 1) :: us).length = n + 1 := r1.length.symm.trans (congrArg Nat.succ l1)
  have e2 : ws.length = ks.length := rz.length.symm.trans l2
  refine wpAny_call (make_map (f := f) I.kIn M.makes M.init (beq_iff_eq.mp M.fn) (codeAny_mono (F.run _ X.stack _ _ ⟨Value.ref (s.heap.objs.size + 1) :: us, ks.zip ws⟩ (g (Value.ref (s.heap.objs.size + 1) :: us) ws) _ _ E (hr.make C us (ks.zip ws))
    (I2.env0.make C us (ks.zip ws)) (hb.to _ (Value.ref (s.heap.objs.size + 1) :: us) ws I2.kIn e1 e2) r2 hq) fun r s' hq' => ?_))
  cases r with
  | error e => exact hx pins _ _ e s' I2 hq'
  | ok fl =>
    cases fl with
    | ret u =>
      obtain ⟨v, H', I3, rv, ev, q3⟩ := I2.after hq'
      subst ev
      exact ⟨rv, ⟨V.ref (s.heap.objs.size + 1), H', I3, rfl, q3⟩⟩
    | next => exact False.elim hq'
    | brk => exact False.elim hq'
    | cont => exact False.elim hq'
theorem kmk_plain {c : Str} {m : Fm} (M : Mk K (He.ga K c) f) (F : FnOk P w K mg base (L2.CX P w) k f fd ps (spV K m)) (hb : KBn K fd ps (n + 1) ks g gV) (hg : ∀ y vs zs, gV (y :: vs) zs = y :: gV' vs zs) :
    KCal P w K mg base (k + 1) (He.ga K c) n ks gV' (spV K (mkM (.ins c []) m)) :=
  (KCal.of_cls M F hb hg).imp fun vs H Q E h a d H2 ha hd ne x h1 h2 => mk_sp (I2x := H) h ha hd ne x fun I le => ⟨I, id, Le.refl _, fun b u e => x.get0 (le b u e), fun b e e' => (e' e).elim, ⟨d, [], h1, .nil⟩, by
    cases q : I a with
    | none => rfl
    | some u => exact (no_some ha.e (le a u q)).elim⟩
end
section
variable {X : Cx} {W : WX} {k j n : Nat} {x : Str} {sp : Sp} {p pos : Pos} {e : Expr} {es : List Expr} {t tk : TA} {kws : List Keyword} {ks : List Str} {gD : List D → List D → List D} {gV : List V → List V → List V} {m : Fm} {v : Addr} {fs fk : List Ft}
theorem px_kw0 (c : KCal X.prog X.w X.K X.mg X.base k v 0 ks gV sp) (hm : X.mg x = some (.ref v)) (kp : PySem.W.keepIn X.K (.ref v) = true) (hr : Room j X.A) (tkx : Takes X W) (hg : Gl X x) (hkw : PK X kws tk) (hk : k ≤ j)
    (hall : (backToKw pos (keywordEach kws X.env)).all (·.1.isSome) = true) (hks : (backToKw pos (keywordEach kws X.env)).filterMap (·.1) = ks) (hdb : (x == ("__debug__" : Str)) = false)
    (hpl : ((backTo pos (starEach [] X.env)).any (·.1) || (backToKw pos (keywordEach kws X.env)).any (·.1.isNone)) = false) :
    PE X (.Call (.Name x p) [] kws pos) (fun σ H Q => tk σ H fun zs H2 => zs.length = ks.length ∧ sp (gV [] zs) H2 Q (WE W σ)) := by
  refine ⟨fun pins s σ H Q I h => ?_⟩
  refine wpAny_Call_Name_kw (ld_glob I hg hm ?_ hdb)
  refine PySem.W.callWith_KW0 (h₀ := X.base) I.ok.mod.kin kp hall ?_ hpl
  refine thn (hkw.run pos pins s σ H _ I h) fun ws s2 ⟨zs, H2, I2, rz, l2, q2⟩ => ⟨I2.kIn, ?_⟩
  rw [hks]
  exact c X pins σ H2 s2 [] ws [] zs Q (WE W σ) rfl rfl rfl rfl rfl (hr.mono hk) (passAt tkx σ) I2 .nil rz rfl l2 q2
structure VAK (X : Cx) (W : WX) (kws : List Keyword) (fs : List Ft) : Prop where
  pk : PK X kws (rdA X.K W fs)
theorem pk_imp {kws : List Keyword} {t t' : TA} (h : PK X kws t) (k : ∀ σ H Q, t' σ H Q → t σ H Q) : PK X kws t' := ⟨fun pos pins s σ H Q I hw => h.run pos pins s σ H Q I (k σ H Q hw)⟩
theorem vk_nil : VAK X W [] [] := ⟨⟨fun pos pins s σ H Q I ⟨J, g, o, r⟩ => pk_nil.run pos pins s σ H Q I (r J H [] o (Go.refl _) .nil)⟩⟩
theorem vk_cons {nm : Option Str} {e : Expr} {kpos : Pos} {kws : List Keyword} {f : Ft} {fs : List Ft} (he : VE X W e f) (hs : VAK X W kws fs) : VAK X W (⟨nm, e, kpos⟩ :: kws) (f :: fs) := by
  refine ⟨pk_imp (pk_cons he.pe hs.pk) fun σ H Q ⟨I, g, o, r⟩ => ?_⟩
  refine ⟨I, g, o, Rem.settle ?_⟩
  have nf : ∀ x g', settle (f g) = .ok x g' → ∀ d, x ≠ .fr d := fun x g' h => settle_nofr h
  have r' : Rem X.K W (RvsR X.K) ⟨I, σ, H, g⟩ ((settle (f g)).bind fun x g1 => (evA fs g1).bind fun xs g2 => .ok (x :: xs) g2) Q := r
  revert nf r'
  generalize settle (f g) = sr
  intro nf r'
  cases sr with
  | stuck => exact r'
  | exn c fs' g' => exact r'
  | ok x g1 =>
    intro I1 H1 v o1 y1 rx
    have r1 : Rem X.K W (RvsR X.K) ⟨I1, σ, H1, g1⟩ ((evA fs g1).bind fun xs g2 => .ok (x :: xs) g2) Q := Rem.go (c0 := ⟨I, σ, H, g⟩) (c1 := ⟨I1, σ, H1, g1⟩) y1 rfl r'
    refine ⟨I1, g1, o1, (Rem.bind (R := RvsR X.K) r1).mono ?_⟩
    rintro vs H2 ⟨I2, g2, xs, o2, y2, rxs, r2⟩
    exact r2 I2 H2 (v :: vs) o2 (Go.refl _) (.cons ⟨_, RvR.on (c1 := ⟨I1, σ, H1, g1⟩) o2 rfl y2 rx, nf x g1 rfl⟩ rxs)
def kwK (gD : List D → List D → List D) (m : Fm) (n : Nat) (ks : Nat) (xs : List RV) (g : Sg) : Res RV := if xs.length = n + ks then (match frzA xs g with
  | some (ds, g3) => callK m ((gD (ds.take n) (ds.drop n)).map RV.val) g3
  | none => .stuck) else .stuck
def callKw (gD : List D → List D → List D) (m : Fm) (n q : Nat) (fs fk : List Ft) : Ft := fun g => (evA fs g).bind fun xs g1 => if xs.length = n then (evA fk g1).bind fun ys g2 => kwK gD m n q (xs ++ ys) g2 else .stuck
theorem rvs_app {c0 c : Cfg} : ∀ {a b : List V} {x y : List RV}, RvsR X.K c0 c a x → RvsR X.K c0 c b y → RvsR X.K c0 c (a ++ b) (x ++ y)
  | _, _, _, _, .nil, h => h
  | _, _, _, _, .cons h t, q => .cons h (rvs_app t q)
theorem rvs_val {c : Cfg} : ∀ {vs : List V} {ds : List D}, Reps X.K c.I vs ds → RvsR X.K c c vs (ds.map RV.val)
  | _, _, .nil => .nil
  | _, _, .cons h t => .cons ⟨c, h, fun d z => nomatch z⟩ (rvs_val t)
theorem kw_ok {c0 : Cfg} {I H : Hp} {σ : L2.St} {g : Sg} {xs ys : List RV} {vs zs : List V} {Q : VK} (o : Ok X.K ⟨I, σ, H, g⟩) (rr : RvsR X.K c0 ⟨I, σ, H, g⟩ vs xs) (rz : RvsR X.K c0 ⟨I, σ, H, g⟩ zs ys) (hn : xs.length = n)
    (hG : ∀ I vs ds zs es, Reps X.K I vs ds → Reps X.K I zs es → Reps X.K I (gV vs zs) (gD ds es)) (h : Rem X.K W (RvR X.K) ⟨I, σ, H, g⟩ (kwK gD m n q (xs ++ ys) g) Q) : vs.length = n ∧ zs.length = q ∧ spV X.K m (gV vs zs) H Q (WE W σ) := by
  have l1 : vs.length = n := (Paired.length rr).trans hn
  have l2 := Paired.length rz
  unfold kwK at h
  split at h
  · rename_i hl
    rw [List.length_append] at hl
    split at h
    · rename_i ds g3 e
      obtain ⟨I3, o3, y3, r3⟩ := frzA_ok (c0 := c0) o (rvs_app rr rz) e
      have h3 := Rem.go (c0 := ⟨I, σ, H, g⟩) (c1 := ⟨I3, σ, H, g3⟩) y3 rfl h
      refine ⟨l1, by omega, call_sp (c0 := ⟨I3, σ, H, g3⟩) o3 (rvs_val (hG I3 _ _ _ _ (?_ : Reps X.K I3 vs (ds.take n)) ?_)) h3⟩
      · have := r3.take n
        rwa [List.take_append_of_le_length (by omega), List.take_of_length_le (by omega)] at this
      · have := r3.drop n
        rwa [List.drop_append_of_le_length (by omega), List.drop_of_length_le (by omega), List.nil_append] at this
    · exact h.elim
  · exact h.elim
theorem ve_kw0 (c : KCf X.prog X.w X.K X.mg X.base k x 0 ks gD m) (hr : Room j X.A) (tkx : Takes X W) (hg : Gl X x) (hkw : VAK X W kws fk) (hk : k ≤ j := by decide)
    (hall : (backToKw pos (keywordEach kws X.env)).all (·.1.isSome) = true := by rfl) (hks : (backToKw pos (keywordEach kws X.env)).filterMap (·.1) = ks := by rfl) (hdb : (x == ("__debug__" : Str)) = false := by decide)
    (hpl : ((backTo pos (starEach [] X.env)).any (·.1) || (backToKw pos (keywordEach kws X.env)).any (·.1.isNone)) = false := by rfl) :
    VE X W (.Call (.Name x p) [] kws pos) (callKw gD m 0 ks.length [] fk) := by
  obtain ⟨v, gV, c, hm, kp, hG⟩ := c.ex
  refine ⟨pe_imp (px_kw0 c hm kp hr tkx hg hkw.pk hk hall hks hdb hpl) fun σ H Q ⟨I, g, o, r⟩ => ?_⟩
  have r : Rem X.K W (RvR X.K) ⟨I, σ, H, g⟩ ((evA fk g).bind fun ys g2 => kwK gD m 0 ks.length ([] ++ ys) g2) Q := r
  refine ⟨I, g, o, (Rem.bind (R := RvsR X.K) r).mono ?_⟩
  rintro zs H2 ⟨I2, g2, ys, o2, y2, rz, r2⟩
  exact (kw_ok (c0 := ⟨I, σ, H, g⟩) o2 .nil rz rfl hG r2).2
end
theorem FldK.nil {K : PySem.W.Frag} {f : Str} : FldK K f [] := ⟨fun c o h => nomatch h⟩
theorem FldK.pl {K : PySem.W.Frag} {f c : Str} {ts : List (Str × Option Nat)} (h : Cls K (He.ga K c)) (n : NoAttr K (He.ga K c) f) (t : FldK K f ts) : FldK K f ((c, none) :: ts) := ⟨fun c' o e => by
  rw [List.lookup_cons] at e
  split at e
  · rename_i q
    cases e
    rw [eq_of_beq q]
    exact ⟨h, n⟩
  · exact t.ex c' o e⟩
theorem FldK.sl {K : PySem.W.Frag} {f c : Str} {i : Nat} {ts : List (Str × Option Nat)} (h : SlX.SCls K (He.ga K c)) (n : ∃ q, SlX.Slot1 K (He.ga K c) f q i) (t : FldK K f ts) : FldK K f ((c, some i) :: ts) := ⟨fun c' o e => by
  rw [List.lookup_cons] at e
  split at e
  · rename_i q
    cases e
    rw [eq_of_beq q]
    exact ⟨h, n⟩
  · exact t.ex c' o e⟩
theorem MethK.nil {P : Program} {w : World} {K : PySem.W.Frag} {mg : Str → Option Value} {base : Heap} {j : Nat} {nm : Str} : MethK P w K mg base j nm [] := ⟨fun c b m h => nomatch h⟩
theorem MethK.pl {P : Program} {w : World} {K : PySem.W.Frag} {mg : Str → Option Value} {base : Heap} {j k : Nat} {nm c : Str} {m : Fm} {ms : List (Str × Bool × Fm)} {g : Addr} (hk : k ≤ j) (hc : Callee P w K mg base k g (spV K m)) (hm : Meth K (He.ga K c) nm g) (h : Cls K (He.ga K c)) (t : MethK P w K mg base j nm ms) :
    MethK P w K mg base j nm ((c, false, m) :: ms) := ⟨fun c' b m' e => by
  rw [List.lookup_cons] at e
  split at e
  · rename_i q
    cases e
    rw [eq_of_beq q]
    exact ⟨g, k, hk, hc, hm, fun _ => h, fun z => nomatch z⟩
  · exact t.ex c' b m' e⟩
theorem MethK.sl {P : Program} {w : World} {K : PySem.W.Frag} {mg : Str → Option Value} {base : Heap} {j k : Nat} {nm c : Str} {m : Fm} {ms : List (Str × Bool × Fm)} {g : Addr} (hk : k ≤ j) (hc : Callee P w K mg base k g (spV K m)) (hm : Meth K (He.ga K c) nm g) (h : SlX.SCls K (He.ga K c)) (t : MethK P w K mg base j nm ms) :
    MethK P w K mg base j nm ((c, true, m) :: ms) := ⟨fun c' b m' e => by
  rw [List.lookup_cons] at e
  split at e
  · rename_i q
    cases e
    rw [eq_of_beq q]
    exact ⟨g, k, hk, hc, hm, fun z => (nomatch z), fun _ => h⟩
  · exact t.ex c' b m' e⟩
theorem MethK.up {P : Program} {w : World} {K : PySem.W.Frag} {mg : Str → Option Value} {base : Heap} {i j : Nat} {nm : Str} {ms : List (Str × Bool × Fm)} (h : MethK P w K mg base i nm ms) (hj : i ≤ j) : MethK P w K mg base j nm ms :=
  ⟨fun c b m e => let ⟨g, k, h1, h2⟩ := h.ex c b m e; ⟨g, k, Nat.le_trans h1 hj, h2⟩⟩
def sclsB (K : PySem.W.Frag) (x : Str) : Bool := PySem.W.plainGet K (He.ga K x) Str.empty && (PySem.W.isClsIn K (He.ga K x) && (PySem.W.plainOver K (He.ga K x) && He.eqO (PySem.W.findIn K (.ref (He.ga K x)) "__setattr__") (some (some (.builtin "object.__setattr__")))))
theorem scls_ok {K : PySem.W.Frag} {x : Str} (c : sclsB K x = true) : SlX.SCls K (He.ga K x) := by
  unfold sclsB at c
  simp only [Bool.and_eq_true] at c
  exact ⟨c.1, c.2.1, c.2.2.1, He.eqO_ok c.2.2.2⟩
def slotB (K : PySem.W.Frag) (x f : Str) (i : Nat) : Bool := match PySem.W.findIn K (.ref (He.ga K x)) f with
  | some (some (.ref p)) => He.eqO (PySem.W.specialIn K (.ref p) "__get__") (some (some (.builtin "member_descriptor.__get__"))) && (decide (PySem.W.takesIn K (.ref p) = some true) && (decide (PySem.W.typeIn K (.ref p) = some (.type "member_descriptor")) &&
    (decide (PySem.W.slotIn K p (He.ga K x) = some i) && decide (i < 1000))))
  | _ => false
theorem slot_ok {K : PySem.W.Frag} {x f : Str} {i : Nat} (c : slotB K x f i = true) : ∃ q, SlX.Slot1 K (He.ga K x) f q i := by
  unfold slotB at c
  split at c
  · rename_i p e
    simp only [Bool.and_eq_true, decide_eq_true_eq] at c
    exact ⟨p, e, He.eqO_ok c.1, c.2.1, c.2.2.1, c.2.2.2.1, c.2.2.2.2⟩
  · cases c
end Vl
set_option Elab.async false
set_option linter.all false
set_option maxRecDepth 100000
set_option maxHeartbeats 2000000
namespace Vl
open PySem PySem.Spec PyProof.Rows L2 My
section
variable {X : Cx} {W : WX}
def repS (x : Str) (n : Int) : Str := if n < 1 then Str.empty else if (n == 1 || x.length == 0) = true then x else ⟨(List.replicate n.toNat x.cps).foldl (· ++ ·) #[]⟩
theorem op_mulS : OpR X (binaryOp .Mult) (fun x y H Q => ∃ z n, x = V.str z ∧ y = V.int n ∧ -1000 ≤ n ∧ n ≤ 1000 ∧ z.length ≤ 1000 ∧ Q (.str (repS z n)) H) := by
  intro pins s σ H x y v u Q I rx ry ⟨z, n, ex, ey, h1, h2, h3, q⟩
  subst ex ey
  obtain ⟨t, rfl⟩ := (show ∃ t, v = Value.str z t from rx)
  obtain ⟨t', rfl⟩ := (show ∃ t, u = Value.int n t from ry)
  refine PySem.P.mul_str (by
      rw [decide_eq_false (by omega : ¬ n < -(2 ^ 63 : Int)), decide_eq_false (by omega : ¬ n ≥ 2 ^ 63)]; rfl) (fun k1 _ => ?_) (fun k1 _ => ?_) ?_
  · have : (9223372036854775 : Int) ≤ (2 ^ 63 - 1) / n := by
      refine (Int.le_ediv_iff_mul_le (by omega)).mpr ?_
      omega
    omega
  · have : z.length * n.toNat ≤ 1000 * 1000 := Nat.mul_le_mul h3 (by omega)
    unfold PySem.Builtin.Str.tooLong
    have h4 := sizeLine_eq
    first | exact decide_eq_false (by omega) | (simp; omega)
  · unfold repS at q
    split
    · rename_i k
      rw [if_pos k] at q
      exact ⟨by decide, V.str Str.empty, H, I.tok _, ⟨_, rfl⟩, q⟩
    · rename_i k
      rw [if_neg k] at q
      split
      · rename_i k2
        rw [if_pos k2] at q
        exact ⟨V.str z, H, I, ⟨_, rfl⟩, q⟩
      · rename_i k2
        rw [if_neg k2] at q
        refine ⟨?_, V.str _, H, I.tok _, ⟨_, rfl⟩, q⟩
        have e : ∀ (n : Nat) (a : Array Nat), ((List.replicate n z.cps).foldl (· ++ ·) a).size = a.size + n * z.cps.size := by
          intro n
          induction n with
          | zero => intro a; simp
          | succ n ih => intro a; rw [List.replicate_succ, List.foldl_cons, ih, Array.size_append, Nat.succ_mul]; omega
        show ((List.replicate n.toNat z.cps).foldl (· ++ ·) #[]).size ≤ _
        rw [e]
        have : n.toNat * z.cps.size ≤ 1000 * 1000 := Nat.mul_le_mul (by omega) h3
        have h4 := sizeLine_eq
        simp
        omega
def mulQ : D → D → Option RV
  | .str z, .int n => if -1000 ≤ n ∧ n ≤ 1000 ∧ z.length ≤ 1000 then vS (repS z n) else none
  | a, b => mulP a b
theorem p_mulQ : P2 X (binaryOp .Mult) mulQ := by
  obtain ⟨r, h1, h2⟩ := (p_mul (X := X)).ex
  refine ⟨_, h1.or op_mulS, fun c v u a b Q o ra rb k => ?_⟩
  unfold mulQ at k
  split at k
  · rename_i z n
    split at k
    · rename_i hh
      rw [ra.str, rb.int]
      exact .inr ⟨z, n, rfl, rfl, hh.1, hh.2.1, hh.2.2, k.now o (.str _)⟩
    · exact k.elim
  · exact .inl (h2 c v u _ _ Q o ra rb k)
end
end Vl
namespace Vl
open PySem PySem.Spec PyProof.Rows L2 My
def pickL {α : Type} (idx : List Nat) (l : List α) : List α := idx.filterMap fun i => l[i]?
theorem vals_get : ∀ {vs : List V} {us : List Value} (i : Nat), Vals vs us → (vs[i]? = none ∧ us[i]? = none) ∨ ∃ v u, vs[i]? = some v ∧ us[i]? = some u ∧ RelV v u
  | _, _, i, .nil => .inl ⟨by simp, by simp⟩
  | _, _, 0, .cons h _ => .inr ⟨_, _, rfl, rfl, h⟩
  | _, _, i + 1, .cons _ t => by simpa using vals_get i t
theorem vals_pick {vs : List V} {us : List Value} (r : Vals vs us) : ∀ idx : List Nat, Vals (pickL idx vs) (pickL idx us)
  | [] => .nil
  | i :: l => by
    unfold pickL
    rw [List.filterMap_cons, List.filterMap_cons]
    rcases vals_get i r with ⟨h1, h2⟩ | ⟨v, u, h1, h2, h3⟩
    · rw [h1, h2]; exact vals_pick r l
    · rw [h1, h2]; exact .cons h3 (vals_pick r l)
theorem reps_get {K : PySem.W.Frag} {I : Hp} : ∀ {vs : List V} {us : List D} (i : Nat), Reps K I vs us → (vs[i]? = none ∧ us[i]? = none) ∨ ∃ v u, vs[i]? = some v ∧ us[i]? = some u ∧ Rep K I v u
  | _, _, i, .nil => .inl ⟨by simp, by simp⟩
  | _, _, 0, .cons h _ => .inr ⟨_, _, rfl, rfl, h⟩
  | _, _, i + 1, .cons _ t => by simpa using reps_get i t
theorem reps_pick {K : PySem.W.Frag} {I : Hp} {vs : List V} {us : List D} (r : Reps K I vs us) : ∀ idx : List Nat, Reps K I (pickL idx vs) (pickL idx us)
  | [] => .nil
  | i :: l => by
    unfold pickL
    rw [List.filterMap_cons, List.filterMap_cons]
    rcases reps_get i r with ⟨h1, h2⟩ | ⟨v, u, h1, h2, h3⟩
    · rw [h1, h2]; exact reps_pick r l
    · rw [h1, h2]; exact .cons h3 (reps_pick r l)
section
variable {K : PySem.W.Frag} {x qual : Str} {params : Arguments} {body : List Stmt} {scope : Scope} {f : Addr} {fd : FuncData} {ps : List Str}
theorem FunD.kbindsN (F : FunD K x qual params body scope [] [] f fd) (n : Nat) (ks : List Str) (g : {α : Type} → List α → List α → List α)
    (hrel : ∀ {vs zs : List V} {us ws : List Value}, Vals vs us → Vals zs ws → Vals (g vs zs) (g us ws))
    (h : ∀ (kV doc pm : Value) (an : Option Addr) (cdv ct : Value) (us ws : List Value), us.length = n → ws.length = ks.length → bindArgs (PySem.W.fnOf x qual params body scope .none kV doc pm an cdv ct) ⟨us, ks.zip ws⟩ = pure (ps.zip (g us ws))) :
    KBn K fd ps n ks (fun us ws => g us ws) (fun vs zs => g vs zs) := by
  obtain ⟨oc, od, dV, kV, doc, pm, an, cdv, ct, osl, rfl, lk, hcd, hD, hK⟩ := F.ex
  rcases hD with ⟨_, rfl⟩ | ⟨e, _⟩
  · exact ⟨fun s us ws X l1 l2 => .of_eq (h kV doc pm an cdv ct us ws l1 l2), fun r1 r2 => hrel r1 r2⟩
  · exact absurd rfl e
end
end Vl
set_option Elab.async false
set_option linter.all false
set_option maxRecDepth 100000
set_option maxHeartbeats 2000000
namespace Vl
open PySem PySem.Spec PyProof.Rows L2 My
def ItzM (K : PySem.W.Frag) (a b : Addr) (xs ys : List V) : It :=
  ⟨fun i H => SqL K H a xs ∧ SqT K H b ys ∧ i < xs.length ∧ i < ys.length,
    fun i H v H' => ∃ T x y, v = .ref T ∧ H T = none ∧ H' = upd H T (.tup [x, y]) ∧ xs[i]? = some x ∧ ys[i]? = some y,
    fun i H => SqL K H a xs ∧ SqT K H b ys ∧ (xs.length ≤ i ∨ ys.length ≤ i)⟩
def ZipSt (a b : Addr) (n m1 m2 : Nat) (i : Nat) (h : Heap) : Prop :=
  IsZip h (n + 4) (n + 2) (n + 3) .none ∧ IsTupOf2 h (n + 2) (.ref n) (.ref (n + 1)) ∧ (∃ x y, IsTupOf2 h (n + 3) x y) ∧ h.IsListIter n a i ∧ h.IsTupleIter (n + 1) b i ∧ i ≤ m1 ∧ i ≤ m2
def zipFp (n : Nat) : List Addr := [n, n + 1, n + 2, n + 3, n + 4]
theorem zipFp_mem {n c : Nat} : c ∈ zipFp n ↔ n ≤ c ∧ c ≤ n + 4 := by
  unfold zipFp
  simp only [List.mem_cons, List.not_mem_nil, or_false]
  omega
theorem nadd {n i j : Nat} (h : i ≠ j) : n + i ≠ n + j := by omega
theorem nlt {n a j : Nat} (h : a < n) : n + j ≠ a := by omega
theorem nbig {n m j : Nat} (h : n + 4 < m) (hj : j ≤ 4) : m ≠ n + j := by omega
theorem nex {c n : Nat} (h : n ≤ c) (h' : c ≤ n + 4) : ∃ j, c = n + j ∧ j ≤ 4 := ⟨c - n, by omega, by omega⟩
theorem zip_sep {n a b : Nat} (ha : a < n) (hb : b < n) : ZipSep2 (n + 4) (n + 2) (n + 3) n (n + 1) [n, a] [n + 1, b] := by
  have ni : ∀ {c x y : Nat}, c ≠ x → c ≠ y → c ∉ [x, y] := fun h1 h2 q => by
    simp only [List.mem_cons, List.not_mem_nil, or_false] at q
    exact q.elim h1 h2
  exact ⟨nadd (by decide), nadd (by decide), nadd (by decide), nadd (j := 0) (by decide), by simp, ni (nadd (j := 0) (by decide)) (nlt ha), ni (nadd (j := 0) (by decide)) (nlt ha), nadd (by decide), by simp, ni (nadd (by decide)) (nlt hb), ni (nadd (by decide)) (nlt hb),
    ni (nadd (i := 0) (by decide)) (nlt (j := 0) hb), ni (nadd (j := 0) (by decide)) (nlt ha)⟩
theorem turn_zipM {P : Program} {w : World} {K : PySem.W.Frag} {elts : List Expr} {kk : Nat} {tpos : Pos} {n a b : Nat} {xs ys : List V} (ha : a < n) (hb : b < n) :
    Turn P w K (.Tuple elts kk tpos) (ItzM K a b xs ys) (zipFp n) (n + 4) (ZipSt a b n xs.length ys.length) where
  mem := zipFp_mem.mpr ⟨by omega, by omega⟩
  obj := by
    rintro i h ⟨hz, hI, ⟨x, y, hO⟩, ⟨o1, e1, _, d1⟩, ⟨o2, e2, _, d2⟩, _⟩ c hc
    obtain ⟨h1, h2⟩ := zipFp_mem.mp hc
    obtain ⟨j, rfl, h2⟩ := nex h1 h2
    match j, h2 with
    | 0, _ => exact ⟨o1, e1, fun v q => by rw [d1] at q; cases q⟩
    | 1, _ => exact ⟨o2, e2, fun v q => by rw [d2] at q; cases q⟩
    | 2, _ => exact ⟨_, hI, fun v q => nomatch q⟩
    | 3, _ => exact ⟨_, hO, fun v q => nomatch q⟩
    | 4, _ => exact ⟨_, hz, fun v q => nomatch q⟩
    | j + 5, h => exact absurd h (by omega)
  keep := by
    rintro i h h' ⟨hz, hI, ⟨x, y, hO⟩, h1, h2, l1, l2⟩ k
    have kk : ∀ j, j ≤ 4 → ∀ o, h.get? (n + j) = some o → h'.get? (n + j) = some o := fun j hj => k (n + j) (zipFp_mem.mpr ⟨Nat.le_add_right _ _, Nat.add_le_add_left hj _⟩)
    exact ⟨kk 4 (by decide) _ hz, kk 2 (by decide) _ hI, ⟨x, y, kk 3 (by decide) _ hO⟩, h1.at fun o q => kk 0 (by decide) o q, h2.at fun o q => kk 1 (by decide) o q, l1, l2⟩
  item := by
    rintro X rfl rfl rfl hc i pins s σ H E I hf ⟨hz, hI, ⟨x0, y0, hO⟩, h1, h2, l1, l2⟩ ⟨hx, hy, g1, g2⟩
    obtain ⟨us, ru, pu, _⟩ := I.list hx
    obtain ⟨ws, rw_, pw, _⟩ := I.tuple hy
    have hh : X.A.in1.handled = none := I.ok.hd hc
    have e1 : us.toArray.size = xs.length := ru.length.symm
    have e2 : ws.toArray.size = ys.length := rw_.length.symm
    have big : n + 4 < s.heap.objs.size := Heap.lt_size (a := n + 4) hz
    refine wpAny_pyNext_zipD2_item (zip_sep ha hb) (Draws.list hh n a (Nat.ne_of_lt ha) us.toArray) (Draws.tuple hh (n + 1) b (fun e => nlt (j := 1) hb e.symm) ws.toArray) hz hI hO ⟨h1, pu.isList⟩ ⟨h2, pw⟩ (by omega) (by omega) fun u1 u2 h' tk q1 q2 z' O' s1 s2 hT hsz hk => ?_
    obtain ⟨x, ex⟩ : ∃ x, xs[i]? = some x := ⟨_, List.getElem?_eq_getElem g1⟩
    obtain ⟨y, ey⟩ : ∃ y, ys[i]? = some y := ⟨_, List.getElem?_eq_getElem g2⟩
    obtain ⟨v1, f1, r1⟩ := ru.get ex
    obtain ⟨v2, f2, r2⟩ := rw_.get ey
    have q1' : us[i]? = some u1 := by simpa using q1
    have q2' : ws[i]? = some u2 := by simpa using q2
    rw [f1] at q1'
    rw [f2] at q2'
    cases q1'
    cases q2'
    refine ⟨_, rfl, wpAny_letOwnedTupleGo_zip (s := { s with heap := h', toks := tk }) z' fun h2' z2 sb => ?_⟩
    have old : ∀ c o, c ∉ zipFp n → s.heap.get? c = some o → h2'.get? c = some o := fun c o nc q => by
      have nz : ∀ j, j ≤ 4 → c ≠ n + j := fun j hj e => nc (by rw [e]; exact zipFp_mem.mpr ⟨Nat.le_add_right _ _, Nat.add_le_add_left hj _⟩)
      exact (sb.2 c (nz 4 (by decide))).trans (hk c o (nz 4 (by decide)) (nz 3 (by decide)) (nz 0 (by decide)) (nz 1 (by decide)) q)
    have hT2 : h2'.get? s.heap.objs.size = some { cls := .type "tuple", data := .seq #[u1, u2] } := (sb.2 _ (nbig big (by decide))).trans hT
    have fresh : H s.heap.objs.size = none := I.hok.fresh (Nat.le_refl _)
    have I1 : Inv X pins σ (upd H s.heap.objs.size (.tup [x, y])) { s with heap := h2', toks := tk } :=
      I.turnedNew (ch := zipFp n) old hf (Nat.le_refl _) ⟨by show 2 ≤ sizeLine; decide, [u1, u2], .cons r1 (.cons r2 .nil), ⟨_, hT2, rfl, _, rfl⟩⟩
    have ne4 : ∀ c o, c ≠ n + 4 → h'.get? c = some o → h2'.get? c = some o := fun c o nc q => (sb.2 c nc).trans q
    refine ⟨.ref s.heap.objs.size, _, I1, rfl, ⟨_, x, y, rfl, fresh, rfl, ex, ey⟩, ⟨z2, ne4 _ _ (nadd (by decide)) ?_, ⟨u1, u2, ne4 _ _ (nadd (by decide)) O'⟩, s1.1.at fun o q => ne4 _ o (nadd (i := 0) (by decide)) q, s2.1.at fun o q => ne4 _ o (nadd (by decide)) q, g1, g2⟩, fun c hcm => ?_⟩
    · exact hk _ _ (nadd (by decide)) (nadd (by decide)) (nadd (j := 0) (by decide)) (nadd (by decide)) hI
    · have hcm' := zipFp_mem.mp hcm
      obtain ⟨j, rfl, hj⟩ := nex hcm'.1 hcm'.2
      rw [upd_ne (fun e => nbig big hj e.symm)]
      exact (hf _ hcm).1
  done := by
    rintro X rfl rfl rfl hc i pins s σ H E I hf ⟨hz, hI, ⟨x0, y0, hO⟩, h1, h2, l1, l2⟩ ⟨hx, hy, hend⟩
    obtain ⟨us, ru, pu, _⟩ := I.list hx
    obtain ⟨ws, rw_, pw, _⟩ := I.tuple hy
    have hh : X.A.in1.handled = none := I.ok.hd hc
    have e1 : us.toArray.size = xs.length := ru.length.symm
    have e2 : ws.toArray.size = ys.length := rw_.length.symm
    refine wpAny_pyNext_zipD2_end (zip_sep ha hb) (Draws.list hh n a (Nat.ne_of_lt ha) us.toArray) (Draws.tuple hh (n + 1) b (fun e => nlt (j := 1) hb e.symm) ws.toArray) hz hI hO ⟨h1, pu.isList⟩ ⟨h2, pw⟩ (by omega) (by omega) (by omega) fun h' tk hk => ?_
    exact ⟨rfl, I.turnedL (ch := zipFp n) (fun c o nc q => by
      have nz : ∀ j, j ≤ 4 → c ≠ n + j := fun j hj e => nc (by rw [e]; exact zipFp_mem.mpr ⟨Nat.le_add_right _ _, Nat.add_le_add_left hj _⟩)
      exact hk c o (nz 4 (by decide)) (nz 3 (by decide)) (nz 0 (by decide)) (nz 1 (by decide)) q) hf⟩
  self := fun A i s Q E st h => wpAny_pyIter_zip st.1 h
theorem pi_zipM {X : Cx} {e e2 : Expr} {ta : TA} {p pos tpos : Pos} {elts : List Expr} {kk : Nat} (hg : Gl X "zip") (hm : X.mg "zip" = none) (ha : PA X [e, e2] ta)
    (hs : starEach [e, e2] X.env = (false, eval e X.env) :: starEach [e2] X.env := by rfl) (hpl : (backTo pos (starEach [e2] X.env)).any (·.1) = false := by rfl) :
    PI X (.Tuple elts kk tpos) (.Call (.Name "zip" p) [e, e2] [] pos) (fun σ H R => ta σ H fun vs H1 => ∃ a b xs ys, vs = [.ref a, .ref b] ∧ SqL X.K H1 a xs ∧ SqT X.K H1 b ys ∧ R (ItzM X.K a b xs ys) H1) := by
  refine ⟨fun pins s σ H R I h => ?_⟩
  refine Call_ (ld_blt I hg hm PyProof.Rows.boot_zip (PyProof.Rows.callWith_type1 (thn (ha.run pos pins s σ H _ I h) fun us s1 ⟨vs, H1, I1, r1, a, b, xs, ys, ex, hx, hy, q⟩ => ?_) hs hpl))
  subst ex
  obtain ⟨u, u2, rfl, ra, rb⟩ := vals2 r1
  cases ra
  cases rb
  obtain ⟨us, ru, pu, _⟩ := I1.list hx
  obtain ⟨ws, rw_, pw, _⟩ := I1.tuple hy
  obtain ⟨o2, ho2, _⟩ := id pw
  refine zip_begins2 (begins_list a us.toArray) (begins_tuple b ws.toArray) pu.isList pw fun h' hz hI hO h1 h2 hsz hk => wpAny_pyIter_zip hz ?_
  refine ⟨s1.heap.objs.size + 4, zipFp s1.heap.objs.size, _, _, H1, rfl, I1.kept (t' := s1.toks) hk, turn_zipM pu.lt (Heap.lt_size ho2), ⟨hz, hI, ⟨_, _, hO⟩, ⟨_, h1, rfl, rfl⟩, ⟨_, h2, rfl, rfl⟩, Nat.zero_le _, Nat.zero_le _⟩, fun c hc => ?_, q⟩
  have hle := (zipFp_mem.mp hc).1
  exact I1.fpOk hle (I1.hok.fresh hle)
def zipOf2 : List D → Option (List D)
  | [.lst xs, .tup ys] => some (zipD xs ys)
  | l => zipOf l
theorem itOk_zipM {K : PySem.W.Frag} {c : Cfg} {a b : Addr} {xs ys : List V} {ds es : List D} (h : SqL K c.I a xs) (h' : SqT K c.I b ys) (r : Reps K c.I xs ds) (r' : Reps K c.I ys es) : ItOk K c (ItzM K a b xs ys) (zipD ds es) := fun c2 y o n => by
  have h2 : SqL K c2.H a xs := o.sub.sqL (y.sub.sqL h)
  have h3 : SqT K c2.H b ys := o.sub.sqT (y.sub.sqT h')
  have e1 := r.length
  have e2 := r'.length
  refine ⟨fun d e => ?_, fun e => ⟨h2, h3, ?_⟩⟩
  · unfold zipD at e
    rw [List.getElem?_zipWith] at e
    cases q1 : ds[n]? with
    | none => rw [q1] at e; cases e
    | some d1 =>
      cases q2 : es[n]? with
      | none => rw [q1, q2] at e; cases e
      | some d2 =>
        rw [q1, q2] at e
        cases e
        obtain ⟨v, hv, rv⟩ := r.get q1
        obtain ⟨u, hu, ru⟩ := r'.get q2
        refine ⟨⟨h2, h3, (List.getElem?_eq_some_iff.mp hv).1, (List.getElem?_eq_some_iff.mp hu).1⟩, fun x H' ⟨T, z1, z2, ex, hT, eH, k1, k2⟩ => ?_⟩
        rw [hv] at k1
        rw [hu] at k2
        cases k1
        cases k2
        subst ex eH
        exact itOk_new o hT (.cons (rv.mono y.sub) (.one (ru.mono y.sub)))
  · simp only [zipD, List.length_zipWith] at e
    omega
section
variable {X : Cx} {W : WX}
theorem vi_zip2 {e e2 : Expr} {fs : List Ft} {p pos tpos : Pos} {elts : List Expr} {kk : Nat} (hg : Gl X "zip") (hm : X.mg "zip" = none) (ha : VA X W [e, e2] fs)
    (hs : starEach [e, e2] X.env = (false, eval e X.env) :: starEach [e2] X.env := by rfl) (hpl : (backTo pos (starEach [e2] X.env)).any (·.1) = false := by rfl) : VI X W (.Tuple elts kk tpos) (.Call (.Name "zip" p) [e, e2] [] pos) (argsI zipOf2 fs) := by
  refine ⟨pi_imp (PI.or (vi_zip hg hm ha hs hpl).pi (pi_zipM hg hm ha.pa hs hpl)) fun σ H R ⟨I, g, o, r⟩ => ?_⟩
  by_cases hc : ∃ xs ys, argsV fs g = some [.lst xs, .tup ys]
  · obtain ⟨xs, ys, hc⟩ := hc
    refine .inr (argsI_rd' o r fun c vs ds l o rr ea ek hJ => ?_)
    rw [hc] at ea
    cases ea
    cases ek
    cases rr with
    | cons h t => cases t with
      | cons h' t => cases t; cases h with
        | lst hq rq => cases h' with
          | tup hq' rq' => exact ⟨_, _, _, _, rfl, SqL.of (o.sub _ _ hq), o.sub.sqT hq', hJ _ (itOk_zipM (SqL.of hq) hq' rq rq')⟩
  · refine .inl ⟨I, g, o, ?_⟩
    revert r
    unfold argsI argsV at *
    cases ev : evA fs g with
    | stuck => exact id
    | exn c fs' g' => exact id
    | ok rs g1 =>
      rw [ev] at hc
      have hc : ¬ ∃ xs ys, (frzA rs g1).map (·.1) = some [D.lst xs, .tup ys] := hc
      show RemI X.K W _ (match frzA rs g1 with | some (ds, g2) => (match zipOf2 ds with | some r => Res.ok r g2 | none => .stuck) | none => .stuck) R → RemI X.K W _ (match frzA rs g1 with | some (ds, g2) => (match zipOf ds with | some r => Res.ok r g2 | none => .stuck) | none => .stuck) R
      cases ef : frzA rs g1 with
      | none => exact id
      | some p =>
        obtain ⟨ds, g2⟩ := p
        rw [ef] at hc
        have : zipOf2 ds = zipOf ds := by
          unfold zipOf2
          split
          · exact (hc ⟨_, _, rfl⟩).elim
          · rfl
        show RemI X.K W _ (match zipOf2 ds with | some r => Res.ok r g2 | none => .stuck) R → _
        rw [this]
        exact id
end
end Vl
set_option Elab.async false
set_option linter.all false
set_option maxRecDepth 100000
set_option maxHeartbeats 2000000
namespace Vl
open PySem PySem.Spec PyProof.Rows L2 My
def Apt : List V → List RV → Prop
  | v :: vs, r :: rs => (∀ d, r = .fr d → v ∉ vs ∨ ∀ (k : Nat) (d' : D), rs[k]? = some (.fr d') → vs[k]? ≠ some v) ∧ Apt vs rs
  | _, _ => True
def RvsN (K : PySem.W.Frag) : Rel (List V) (List RV) := fun c0 c vs rs => Paired (RvR K c0 c) vs rs ∧ Apt vs rs
theorem rvsN_go {K : PySem.W.Frag} {c0 c1 c2 : Cfg} {vs : List V} {rs : List RV} (x : Go c0 c1) (h : Paired (RvR K c1 c2) vs rs) : Paired (RvR K c0 c2) vs rs := L2.Paired.mapP h fun v r q => GoR.go x q
instance (K : PySem.W.Frag) : GoR (RvsN K) := ⟨fun x h => ⟨rvsN_go x h.1, h.2⟩⟩
section
variable {X : Cx} {W : WX}
def noat : RV → Bool
  | .at_ _ => false
  | _ => true
end
end Vl
set_option Elab.async false
set_option linter.all false
set_option maxRecDepth 100000
set_option maxHeartbeats 2000000
namespace Vl
open PySem PySem.Spec PyProof.Rows L2 My
end Vl
set_option Elab.async false
set_option linter.all false
set_option maxRecDepth 100000
set_option maxHeartbeats 2000000
namespace Vl
open PySem PySem.Spec PyProof.Rows L2 My
def baseT : List String := ["NoneType", "bool", "int", "str", "list", "tuple", "dict"]
structure IsoK (K : PySem.W.Frag) (C : Str) (ts : List (Str × Bool × Bool)) : Prop where
  ex : ∀ c sl b, ts.lookup c = some (sl, b) → PySem.W.kitOne K (.ref (He.ga K c)) (.ref (He.ga K C)) = some b ∧ SlX.SIsi K (He.ga K c) ∧ (sl = false → Cls K (He.ga K c)) ∧ (sl = true → SlX.SCls K (He.ga K c))
  base : ∀ T ∈ baseT, PySem.W.kitOne K (.type T) (.ref (He.ga K C)) = some false
section
variable {X : Cx} {W : WX} {e : Expr} {fe : Ft} {C : Str} {p q pos : Pos} {ts : List (Str × Bool × Bool)}
end
def isoB (K : PySem.W.Frag) (C : Str) : Bool := baseT.all fun T => decide (PySem.W.kitOne K (.type T) (.ref (He.ga K C)) = some false)
theorem IsoK.nil {K : PySem.W.Frag} {C : Str} (h : isoB K C = true) : IsoK K C [] := ⟨fun c sl b e => (nomatch e), fun T hT => of_decide_eq_true (List.all_eq_true.mp h T hT)⟩
theorem IsoK.pl {K : PySem.W.Frag} {C c : Str} {b : Bool} {ts : List (Str × Bool × Bool)} (h : PySem.W.kitOne K (.ref (He.ga K c)) (.ref (He.ga K C)) = some b ∧ SlX.SIsi K (He.ga K c)) (hc : Cls K (He.ga K c)) (t : IsoK K C ts) : IsoK K C ((c, false, b) :: ts) := ⟨fun c' sl b' e => by
  rw [List.lookup_cons] at e
  split at e
  · rename_i q
    cases e
    rw [eq_of_beq q]
    exact ⟨h.1, h.2, fun _ => hc, fun z => nomatch z⟩
  · exact t.ex c' sl b' e, t.base⟩
theorem IsoK.sl {K : PySem.W.Frag} {C c : Str} {b : Bool} {ts : List (Str × Bool × Bool)} (h : PySem.W.kitOne K (.ref (He.ga K c)) (.ref (He.ga K C)) = some b ∧ SlX.SIsi K (He.ga K c)) (hc : SlX.SCls K (He.ga K c)) (t : IsoK K C ts) : IsoK K C ((c, true, b) :: ts) := ⟨fun c' sl b' e => by
  rw [List.lookup_cons] at e
  split at e
  · rename_i q
    cases e
    rw [eq_of_beq q]
    exact ⟨h.1, h.2, fun z => (nomatch z), fun _ => hc⟩
  · exact t.ex c' sl b' e, t.base⟩
end Vl
set_option Elab.async false
set_option linter.all false
set_option maxRecDepth 100000
set_option maxHeartbeats 2000000
namespace Vl
open PySem PySem.Spec PyProof.Rows L2 My
section
variable {X : Cx} {W : WX} {e : Expr} {st : Stmt}
end
section
variable {X : Cx} {W : WX} {pins : List (Addr × Obj)} {σ : L2.St} {H : Hp} {s : Shared} {A' : Around} {k : Nat} {g : Addr} {sp : Sp} {us : List Value} {vs : List V} {Q : VK}
end
abbrev Ow := D → D → Option (Fm × Bool)
structure OwnB (X : Cx) (f : Value → Value → Sem Value) (C : V → Prop) (ow : Ow) : Prop where
  ok : ∀ (c : Cfg) (v u : V) (a b : D) (m : Fm) (rv : Bool), Ok X.K c → RdD X.K c v a → RdD X.K c u b → ow a b = some (m, rv) → ∃ (k : Nat) (g : Addr), Callee X.prog X.w X.K X.mg X.base k g (spV X.K m) ∧ Room k X.A ∧
    ∀ (pins : List (Addr × Obj)) (s : Shared) (v' u' : Value) (Q : Value → Shared → Prop) (E : Value → Shared → Prop), Inv X pins c.σ c.H s → RelV v v' → RelV u u' → wpAny (model X.prog X.w) X.A (call (.ref g) (if rv = true then [u', v'] else [v', u'])) (fun w s' => PySem.W.CmpBack Q w s' ∧ ∃ z, RelV z w ∧ C z) E s →
      wpAny (model X.prog X.w) X.A (f v' u') Q E s
section
variable {X : Cx} {W : WX} {f : Value → Value → Sem Value} {p : D → D → Option RV} {ow : Ow} {chk : Option (RV → Bool)} {C : V → Prop}
end
section
variable {X : Cx} {W : WX} {e a b : Expr} {fa fb : Ft} {pos : Pos} {p : D → D → Option RV} {ow : Ow} {chk : Option (RV → Bool)} {C : V → Prop}
end
section
variable {X : Cx} {W : WX} {pins : List (Addr × Obj)} {s : Shared} {c : Cfg} {v u : V} {u' : Value} {a b : D} {j : Nat} {nm : Str} {ms : List (Str × Bool × Fm)} {m : Fm}
end
def owOr (f g : Ow) : Ow := fun a b => match f a b with
  | some r => some r
  | none => g a b
section
variable {X : Cx} {W : WX} {f : Value → Value → Sem Value} {o1 o2 : Ow} {C : V → Prop} {j : Nat} {nm : Str} {ms : List (Str × Bool × Fm)}
theorem OwnB.or (h1 : OwnB X f C o1) (h2 : OwnB X f C o2) : OwnB X f C (owOr o1 o2) := ⟨by
  intro c v u a b m rv o ra rb h
  unfold owOr at h
  split at h
  · rename_i r e
    cases h
    exact h1.ok c v u a b m rv o ra rb e
  · exact h2.ok c v u a b m rv o ra rb h⟩
end
end Vl
set_option Elab.async false
set_option linter.all false
set_option maxRecDepth 100000
set_option maxHeartbeats 2000000
namespace Vl
open PySem PySem.Spec PyProof.Rows L2 My
section
variable {X : Cx} {W : WX} {pins : List (Addr × Obj)} {s : Shared} {c c1 : Cfg} {v : V} {a : D} {j : Nat} {nm : Str} {ms : List (Str × Bool × Fm)} {m : Fm} {x : RV} {chk : Option (RV → Bool)} {C : V → Prop} {Q : VK} {p : D → Option RV}
end
section
variable {X : Cx} {W : WX} {e : Expr} {fe : Ft} {pos : Pos} {j : Nat} {ms : List (Str × Bool × Fm)}
theorem vals1 (p : Addr) : Vals [V.ref p] [Value.ref p] := .cons rfl .nil
end
end Vl
namespace Vl
open PySem PySem.Spec PyProof.Rows L2 My
section
variable {X : Cx} {j : Nat} {ms : List (Str × Bool × Fm)}
end
section
variable {X : Cx} {W : WX} {a b : Expr} {fa fb : Ft} {pos : Pos} {p : D → D → Option RV} {j : Nat} {ms : List (Str × Bool × Fm)}
end
end Vl
set_option Elab.async false
set_option linter.all false
set_option maxRecDepth 100000
set_option maxHeartbeats 2000000
namespace Vl
open PySem PySem.Spec PyProof.Rows L2 My
def noNone : PyData → Bool | .none => false | _ => true
theorem noNone_ne {d : PyData} (h : noNone d = true) : d ≠ .none := fun e => by subst e; cases h
def datP (f : PyData → PyData → Bool) (a b : D) : Option RV := match toP a, toP b with
  | some x, some y => if (PySem.W.alike x y && (noNone x && decide (x.depth ≤ 60))) = true then vB (f x y) else none
  | _, _ => none
def orP (p q : D → D → Option RV) (a b : D) : Option RV := match p a b with
  | some r => some r
  | none => q a b
def ltQ : D → D → Option RV := orP ltP (datP PySem.W.dataLt)
section
variable {X : Cx} {f : Value → Value → Sem Value} {p q : D → D → Option RV}
theorem P2.or' (h1 : P2 X f p) (h2 : P2 X f q) : P2 X f (orP p q) := by
  obtain ⟨r1, o1, k1⟩ := h1.ex
  obtain ⟨r2, o2, k2⟩ := h2.ex
  refine ⟨_, o1.or o2, fun c v u a b Q o ra rb h => ?_⟩
  unfold orP at h
  cases e : p a b with
  | some r => rw [e] at h; exact .inl (k1 c v u a b Q o ra rb (by rw [e]; exact h))
  | none => rw [e] at h; exact .inr (k2 c v u a b Q o ra rb h)
theorem p_dat {op : CmpOp} {g : PyData → PyData → Bool} (hu : X.A.units + 65 < cLine)
    (hc : ∀ (s : Shared) (a b : Value) (da db : PyData) (as bs : List Addr) (Q E : Value → Shared → Prop), Reads s.heap a da as → Reads s.heap b db bs → PySem.W.alike da db = true → da ≠ .none → X.A.units + min da.depth db.depth < cLine → Q (.bool (g da db)) s → wpAny (model X.prog X.w) X.A (compareOp op a b) Q E s) :
    P2 X (compareOp op) (datP g) := by
  refine ⟨fun x y H Q => ∃ d e, Dp X.K H x d ∧ Dp X.K H y e ∧ PySem.W.alike d e = true ∧ noNone d = true ∧ d.depth ≤ 60 ∧ Q (.bl (g d e)) H, fun pins s σ H x y v u Q I rx ry h => ?_, fun c v u a b Q o ra rb h => ?_⟩
  · obtain ⟨d, e, hd, he, ha, hn, hz, q⟩ := h
    obtain ⟨as, r1⟩ := Dp.reads I d x v hd rx
    obtain ⟨bs, r2⟩ := Dp.reads I e y u he ry
    exact hc s v u d e as bs _ _ r1 r2 ha (noNone_ne hn) (by have : min d.depth e.depth ≤ d.depth := Nat.min_le_left _ _; omega) ⟨.bl _, H, I, rfl, q⟩
  · unfold datP at h
    split at h
    · rename_i x y ex ey
      split at h
      · rename_i hk
        simp only [Bool.and_eq_true, decide_eq_true_eq] at hk
        exact ⟨x, y, ra.dp o ex, rb.dp o ey, hk.1, hk.2.1, hk.2.2, h.now o (.bl _)⟩
      · exact h.elim
    · exact h.elim
theorem p_ltQ (hu : X.A.units + 65 < cLine) : P2 X (compareOp .Lt) ltQ := (p_lt (by omega)).or' (p_dat hu fun _ _ _ _ _ _ _ _ _ ra rb h hn hz hq => PySem.W.lt_data ra rb h hn hz hq)
end
section
variable {X : Cx} {W : WX} {e : Expr} {fe : Ft} {pos : Pos}
end
def settleF (f : Ft) : Ft := fun g => settle (f g)
theorem ve_settle {X : Cx} {W : WX} {e : Expr} {f : Ft} (h : VE X W e f) : VE X W e (settleF f) := h.settle
theorem Gives.mono {K : PySem.W.Frag} {c : Cfg} {p : Option RV} {Q Q' : VK} (h : Gives K c p Q) (m : ∀ v H, Q v H → Q' v H) : Gives K c p Q' := by
  cases p with
  | none => exact h
  | some r => exact fun I H v o y rv => m v H (h I H v o y rv)
end Vl
set_option Elab.async false
set_option linter.all false
set_option maxRecDepth 100000
set_option maxHeartbeats 2000000
namespace Vl
open PySem PySem.Spec PyProof.Rows L2 My
def CodC (P : Program) (w : World) (K : PySem.W.Frag) (mg : Str → Option Value) (base : Heap) (k : Nat) (v : Addr) (n : Nat) (ks : List Str) (gV : List V → List V → List V) (sp : Sp) : Prop :=
  ∀ (X : Cx) (pins : List (Addr × Obj)) (σ : L2.St) (H : Hp) (s : Shared) (us ws : List Value) (vs zs : List V) (Q : VK) (E : XK), X.prog = P → X.w = w → X.K = K → X.mg = mg → X.base = base →
    Room k X.A → PassesAt (L2.CX X.prog X.w) X σ E → Inv X pins σ H s → Vals vs us → Vals zs ws → vs.length = n → zs.length = ks.length → sp (gV vs zs) H Q E →
    codeAny (model X.prog X.w) X.A (.call (.ref v) ⟨us, ks.zip ws⟩) (fun r s' => match r with | .ok (.ret v) => EP X pins σ Q v s' | .ok _ => False | .error e => X.xe e s') s
section
variable {P : Program} {w : World} {K : PySem.W.Frag} {mg : Str → Option Value} {base : Heap} {k n : Nat} {v f C : Addr} {fd : FuncData} {ps ks : List Str} {x : Str} {sp : Sp} {g : List Value → List Value → List Value} {gV gV' : List V → List V → List V}
theorem CodC.of_fn (F : FnOk P w K mg base (L2.CX P w) k f fd ps sp) (hb : KBn K fd ps n ks g gV) : CodC P w K mg base k f n ks gV sp := by
  rintro X pins σ H s us ws vs zs Q E rfl rfl rfl rfl rfl hr hx I r rz l1 l2 h
  have r2 := hb.rel r rz
  have e1 : us.length = n := r.length.symm.trans l1
  have e2 : ws.length = ks.length := rz.length.symm.trans l2
  refine codeAny_mono (F.run X.A X.stack s H ⟨us, ks.zip ws⟩ (g us ws) (gV vs zs) Q E hr I.env0 (hb.to s us ws I.kIn e1 e2) r2 h) fun r s' hq => ?_
  cases r with
  | error e => exact hx pins H s e s' I hq
  | ok fl =>
    cases fl with
    | ret u => exact I.after hq
    | next => exact False.elim hq
    | brk => exact False.elim hq
    | cont => exact False.elim hq
theorem CodC.of_fnr (F : FnR P w K mg base (L2.CX P w) k f sp) : CodC P w K mg base k f n [] (fun vs _ => vs) sp := by
  rintro X pins σ H s us ws vs zs Q E rfl rfl rfl rfl rfl hr hx I r rz l1 l2 h
  have e2 : zs = [] := List.length_eq_zero_iff.mp l2
  subst e2
  cases rz
  refine codeAny_mono (F X.A X.stack s H us vs Q E hr I.env0 r h) fun r s' hq => ?_
  cases r with
  | error e => exact hx pins H s e s' I hq
  | ok fl =>
    cases fl with
    | ret u => exact I.after hq
    | next => exact False.elim hq
    | brk => exact False.elim hq
    | cont => exact False.elim hq
end
structure CalR (K : PySem.W.Frag) (R : Addr → Nat → Fm → Prop) (j : Nat) (ms : List (Str × Bool × Fm)) : Prop where
  ex : ∀ c b m, ms.lookup c = some (b, m) → ∃ (g : Addr) (k : Nat), k ≤ j ∧ R g k m ∧ Meth K (He.ga K c) "__call__" g ∧ (b = false → Cls K (He.ga K c)) ∧ (b = true → SlX.SCls K (He.ga K c))
section
variable {K : PySem.W.Frag} {R : Addr → Nat → Fm → Prop} {j k : Nat} {c : Str} {m : Fm} {ms : List (Str × Bool × Fm)} {g : Addr}
theorem CalR.nil : CalR K R j [] := ⟨fun c b m h => nomatch h⟩
theorem CalR.pl (hk : k ≤ j) (hc : R g k m) (hm : Meth K (He.ga K c) "__call__" g) (h : Cls K (He.ga K c)) (t : CalR K R j ms) : CalR K R j ((c, false, m) :: ms) := ⟨fun c' b m' e => by
  rw [List.lookup_cons] at e
  split at e
  · rename_i q
    cases e
    rw [eq_of_beq q]
    exact ⟨g, k, hk, hc, hm, fun _ => h, (fun z => nomatch z)⟩
  · exact t.ex c' b m' e⟩
theorem CalR.sl (hk : k ≤ j) (hc : R g k m) (hm : Meth K (He.ga K c) "__call__" g) (h : SlX.SCls K (He.ga K c)) (t : CalR K R j ms) : CalR K R j ((c, true, m) :: ms) := ⟨fun c' b m' e => by
  rw [List.lookup_cons] at e
  split at e
  · rename_i q
    cases e
    rw [eq_of_beq q]
    exact ⟨g, k, hk, hc, hm, (fun z => nomatch z), fun _ => h⟩
  · exact t.ex c' b m' e⟩
theorem CalR.up {i : Nat} (h : CalR K R i ms) (hj : i ≤ j) : CalR K R j ms :=
  ⟨fun c b m e => let ⟨g, k, h1, h2⟩ := h.ex c b m e; ⟨g, k, Nat.le_trans h1 hj, h2⟩⟩
end
section
variable {X : Cx} {W : WX} {pins : List (Addr × Obj)} {s : Shared} {c : Cfg} {v : V} {a : D} {j n : Nat} {ms : List (Str × Bool × Fm)} {m : Fm} {ks : List Str} {gD : List D → List D → List D}
end
section
variable {X : Cx} {W : WX} {x : Str} {p pos : Pos} {e : Expr} {es : List Expr} {j n : Nat} {ms : List (Str × Bool × Fm)} {fo : Ft} {fs fk : List Ft} {ks : List Str} {gD : List D → List D → List D} {kws : List Keyword}
end
section
variable {X : Cx} {W : WX} {e : Expr} {fe : Ft} {p pos : Pos} {j : Nat} {ms : List (Str × Bool × Fm)}
end
end Vl
set_option Elab.async false
set_option linter.all false
set_option maxRecDepth 100000
set_option maxHeartbeats 2000000
namespace Vl
open PySem PySem.Spec PyProof.Rows L2 My
section
variable {X : Cx} {W : WX} {a b : Expr} {fa fb : Ft} {rest : List Expr} {pos : Pos}
end
theorem noX_rem {K : PySem.W.Frag} {W : WX} {γ α : Type} {R : Rel γ α} {c0 : Cfg} {r : Res α} {Q : γ → Hp → Prop} (h : Rem K W R c0 (noX r) Q) : Rem K W0 R c0 r Q := by
  cases r with
  | ok r g => exact h
  | exn c fs g => exact h.elim
  | stuck => exact h
structure PropK (P : Program) (w : World) (K : PySem.W.Frag) (mg : Str → Option Value) (base : Heap) (j : Nat) (nm : Str) (ms : List (Str × Bool × Fm)) : Prop where
  ex : ∀ c b m, ms.lookup c = some (b, m) → ∃ (g p : Addr) (k : Nat), k ≤ j ∧ (∀ n, CodC P w K mg base k g n [] (fun vs _ => vs) (spV K m)) ∧ PropOf K (He.ga K c) nm p g ∧ PySem.W.isClsIn K (He.ga K c) = true ∧ PySem.W.plainGet K (He.ga K c) Str.empty = true
section
variable {P : Program} {w : World} {K : PySem.W.Frag} {mg : Str → Option Value} {base : Heap} {j k : Nat} {nm c : Str} {b : Bool} {m : Fm} {ms : List (Str × Bool × Fm)} {g p : Addr}
theorem PropK.nil : PropK P w K mg base j nm [] := ⟨fun c b m h => nomatch h⟩
theorem PropK.cons (hk : k ≤ j) (hc : ∀ n, CodC P w K mg base k g n [] (fun vs _ => vs) (spV K m)) (hp : PropOf K (He.ga K c) nm p g ∧ PySem.W.isClsIn K (He.ga K c) = true ∧ PySem.W.plainGet K (He.ga K c) Str.empty = true) (t : PropK P w K mg base j nm ms) : PropK P w K mg base j nm ((c, b, m) :: ms) := ⟨fun c' b' m' e => by
  rw [List.lookup_cons] at e
  split at e
  · rename_i q
    cases e
    rw [eq_of_beq q]
    exact ⟨g, p, k, hk, hc, hp⟩
  · exact t.ex c' b' m' e⟩
theorem PropK.up {i : Nat} (h : PropK P w K mg base i nm ms) (hj : i ≤ j) : PropK P w K mg base j nm ms :=
  ⟨fun c b m e => let ⟨g, p, k, h1, h2⟩ := h.ex c b m e; ⟨g, p, k, Nat.le_trans h1 hj, h2⟩⟩
end
def pg (K : PySem.W.Frag) (c m : Str) : Addr := He5.wf K (He.ga K c) "property" m
def propB (K : PySem.W.Frag) (c m : Str) : Bool := (match PySem.W.findIn K (.ref (He.ga K c)) m with
  | some (some (.ref p)) => He.eqO (PySem.W.specialIn K (.ref p) "__get__") (some (some (.builtin "property.__get__"))) && (decide (PySem.W.takesIn K (.ref p) = some true) && (decide (p = He.ma K (He.ga K c) m) && (match PySem.W.recIn K p "property" with
    | some (.ref _ :: _) => true
    | _ => false)))
  | _ => false) && (PySem.W.isClsIn K (He.ga K c) && PySem.W.plainGet K (He.ga K c) Str.empty)
theorem prop_ok {K : PySem.W.Frag} {c m : Str} (h : propB K c m = true) : PropOf K (He.ga K c) m (He.ma K (He.ga K c) m) (pg K c m) ∧ PySem.W.isClsIn K (He.ga K c) = true ∧ PySem.W.plainGet K (He.ga K c) Str.empty = true := by
  unfold propB at h
  simp only [Bool.and_eq_true] at h
  obtain ⟨h1, h2, h3⟩ := h
  refine ⟨?_, h2, h3⟩
  split at h1
  · rename_i p e
    simp only [Bool.and_eq_true, decide_eq_true_eq] at h1
    obtain ⟨k1, k2, k3, k4⟩ := h1
    subst k3
    refine ⟨e, He.eqO_ok k1, k2, ?_⟩
    unfold pg He5.wf
    split at k4
    · rename_i f r e2
      rw [e2]
      exact ⟨r, rfl⟩
    · cases k4
  · cases h1
def propC (ms : List (Str × Bool × Fm)) (x : RV) (g : Sg) : Res RV := match (deref g x).bind (pickP ms) with
  | some m => noX (callK m [x] g)
  | none => .stuck
where pickP (ms : List (Str × Bool × Fm)) : D → Option Fm
  | .ins c _ => (match ms.lookup c with | some (false, m) => some m | _ => none)
  | .slo c _ => (match ms.lookup c with | some (true, m) => some m | _ => none)
  | _ => none
def propF (ms : List (Str × Bool × Fm)) (fo : Ft) : Ft := fun g => (settle (fo g)).bind (propC ms)
section
variable {X : Cx} {W : WX} {o e : Expr} {nm : Str} {pos : Pos} {j : Nat} {ms : List (Str × Bool × Fm)} {fo : Ft}
theorem cod_at {A' : Around} {k n : Nat} {g : Addr} {sp : Sp} {pins : List (Addr × Obj)} {σ : L2.St} {H : Hp} {s : Shared} {us : List Value} {vs : List V} {Q : VK} (hf : A'.frames = X.A.frames) (hh : A'.handled = X.A.handled) (c : CodC X.prog X.w X.K X.mg X.base k g n [] (fun vs _ => vs) sp) (hr : Room k A')
    (I : Inv X pins σ H s) (r : Vals vs us) (hn : vs.length = n) (h : sp vs H Q (fun _ _ _ => False)) :
    codeAny (model X.prog X.w) A' (.call (.ref g) ⟨us, []⟩) (fun r s' => match r with | .ok (.ret v) => EP X pins σ Q v s' | .ok _ => False | .error _ => False) s := by
  have z := c { X with A := A', xe := fun _ _ => False } pins σ H s us [] vs [] Q (fun _ _ _ => False) rfl rfl rfl rfl rfl hr (fun pins H s e s' I' cx => by
    obtain ⟨a, B, H', cls, d, _, _, _, _, _, _, _, hE⟩ := cx
    exact hE) ⟨{ I.ok with hd := fun z => hh.trans (I.ok.hd z), frames := hf.trans I.ok.frames }, I.os, I.bare, I.base, I.loc, I.cell, I.free, I.freeC, I.pin, I.hok, I.len⟩ r .nil hn rfl h
  refine codeAny_mono z fun r s' hq => ?_
  cases r with
  | error e => exact hq
  | ok fl =>
    cases fl with
    | ret u =>
      obtain ⟨x, H', I', rv, q⟩ := hq
      exact ⟨x, H', ⟨{ I'.ok with hd := I.ok.hd, frames := I.ok.frames }, I'.os, I'.bare, I'.base, I'.loc, I'.cell, I'.free, I'.freeC, I'.pin, I'.hok, I'.len⟩, rv, q⟩
    | next => exact hq
    | brk => exact hq
    | cont => exact hq
theorem ve_prop (k : PropK X.prog X.w X.K X.mg X.base j nm ms) (hr : Room (j + 1) X.A) (ho : VE X W o fo) (hb : attributeBase o nm X.env (eval o X.env) = eval o X.env := by rfl) : VE X W (.Attribute o nm pos) (propF ms fo) := by
  refine ⟨⟨fun pins s σ H Q I ⟨J, g, oo, r⟩ => ?_⟩⟩
  have nf := nofr_of (f := fo) (g := g)
  unfold propF at r
  have step : rdE X.K W fo σ H fun v H1 => ∃ (p : Addr) (x : Str) (m : Fm) (sb : Bool), v = .ref p ∧ ms.lookup x = some (sb, m) ∧ (∀ (pins : List (Addr × Obj)) (s : Shared), Inv X pins σ H1 s → ∃ (dx : Addr) (sl : Array (Option Value)) (od : Obj), PySem.W.InstAt s.heap p ⟨.ref (He.ga X.K x), some dx, .plain, sl⟩ (He.ga X.K x) (some od)) ∧ spV X.K m [.ref p] H1 Q (fun _ _ _ => False) := by
    refine ⟨J, g, oo, Rem.settle ?_⟩
    revert nf r
    generalize settle (fo g) = sr
    intro r nf
    cases sr with
    | stuck => exact r
    | exn c fs' g' => exact r
    | ok xx g1 =>
      intro I1 H1 v o1 y1 rx
      have r1 := Rem.go (c0 := ⟨J, σ, H, g⟩) (c1 := ⟨I1, σ, H1, g1⟩) y1 rfl r
      dsimp only [Res.bind] at r1
      unfold propC at r1
      cases ed : (deref g1 xx).bind (propC.pickP ms) with
      | none => rw [ed] at r1; exact r1.elim
      | some m =>
        rw [ed] at r1
        obtain ⟨d, hd, hm⟩ := Option.bind_eq_some_iff.mp ed
        have rd := deref_rd (c := ⟨I1, σ, H1, g1⟩) o1 rx hd
        have hs := call_sp (W := W0) (c0 := ⟨J, σ, H, g⟩) (vs := [v]) o1 (.cons ⟨_, rx, nf xx g1 rfl⟩ .nil) (noX_rem r1)
        cases d <;> simp only [propC.pickP] at hm <;> first | cases hm | skip
        · rename_i c' fs
          split at hm
          · rename_i m' el
            cases hm
            obtain ⟨a, dx, us, rfl, ha, rf⟩ := rd.ins o1
            refine ⟨a, _, _, _, rfl, el, fun pins s I => ?_, hs⟩
            obtain ⟨mA, J, _⟩ := ins_get I.hok ha
            obtain ⟨od, J, _⟩ := J.look
            exact ⟨dx, #[], od, J⟩
          · cases hm
        · rename_i c' vs
          split at hm
          · rename_i m' el
            cases hm
            obtain ⟨a, dx, us, rfl, ha, hd, rf⟩ := rd.slo o1
            refine ⟨a, _, _, _, rfl, el, fun pins s I => ?_, hs⟩
            obtain ⟨sl, od, _, J, _⟩ := SlX.slt_inst I (show SlX.Slt H1 a _ dx us from .inr ⟨ha, hd⟩)
            exact ⟨dx, sl, od, J⟩
          · cases hm
  refine attr_of hb (thn (ho.pe.run pins s σ H _ I step) fun u s1 ⟨v, H1, I1, ru, p, x, m, sb, ev, el, hi, hs⟩ => ?_)
  subst ev
  cases ru
  obtain ⟨g', pp, k', hk, hc, hp, ic, pgt⟩ := k.ex _ _ _ el
  obtain ⟨dx, sl, od, J2⟩ := hi pins s1 I1
  obtain ⟨rest, hrec⟩ := hp.rec_
  have I2 := I1.tok (s1.toks + 1)
  have pgm : PySem.W.plainGet X.K (He.ga X.K x) nm = true := pgt
  refine PySem.W.get_bind I1.kIn J2 (PySem.W.plainGet_of pgm).1 (PySem.W.findObj_data ic hp.at_ hp.get hp.tak) (PySem.W.plainGet_of pgm).2 (wpAny_call (PySem.W.prop_get (s := { s1 with toks := s1.toks + 1 }) I1.kIn hrec ?_))
  refine codeAny_mono (cod_at (A' := X.A.in1) rfl rfl (hc 1) (hr.in1.mono hk) I2 (vals1 p) rfl hs) fun r s' hq => ?_
  cases r with
  | error er => exact False.elim hq
  | ok fl =>
    cases fl with
    | ret u =>
      obtain ⟨v, H', I3, rv, q3⟩ := hq
      show wpAny _ _ (handedOut u) _ _ _
      rw [PySem.W.handedOut_of (handed_of rv)]
      exact wpAny_pure ⟨v, H', I3, rv, q3⟩
    | next => exact False.elim hq
    | brk => exact False.elim hq
    | cont => exact False.elim hq
end
structure CmK (P : Program) (w : World) (K : PySem.W.Frag) (mg : Str → Option Value) (base : Heap) (j : Nat) (c nm : Str) (m : Fm) : Prop where
  ex : ∃ (p g : Addr) (k : Nat) (mc : Value), k ≤ j ∧ (∀ n, CodC P w K mg base k g n [] (fun vs _ => vs) (spV K m)) ∧ ClX.CRead K (He.ga K c) mc ∧ ClX.CMet K (He.ga K c) mc nm p g ∧ mg c = some (.ref (He.ga K c))
theorem CmK.up {P : Program} {w : World} {K : PySem.W.Frag} {mg : Str → Option Value} {base : Heap} {i j : Nat} {c nm : Str} {m : Fm} (h : CmK P w K mg base i c nm m) (hj : i ≤ j) : CmK P w K mg base j c nm m :=
  ⟨let ⟨p, g, k, mc, h1, h2⟩ := h.ex; ⟨p, g, k, mc, Nat.le_trans h1 hj, h2⟩⟩
def cg (K : PySem.W.Frag) (c m : Str) : Addr := He5.wf K (He.ga K c) "classmethod" m
section
variable {X : Cx} {W : WX} {e : Expr} {es : List Expr} {c nm : Str} {p pos apos : Pos} {j : Nat} {m : Fm} {fs : List Ft} {pl : Sem Bool}
end
section
variable {X : Cx} {W : WX} {e : Expr} {es : List Expr} {c x : Str} {p pos : Pos} {j k : Nat} {m : Fm} {fo : Ft} {fs : List Ft}
end
section
variable {P : Program} {w : World} {K : PySem.W.Frag} {mg : Str → Option Value} {base : Heap} {k n : Nat} {f C : Addr} {fd : FuncData} {ps ks : List Str} {sp : Sp} {g : List Value → List Value → List Value} {gV gV' : List V → List V → List V}
theorem KCal.of_clsS (M : Mk K C f) (F : FnOk P w K mg base (L2.CX P w) k f fd ps sp) (hb : KBn K fd ps (n + 1) ks g gV) (hg : ∀ y vs zs, gV (y :: vs) zs = y :: gV' vs zs) : KCal P w K mg base (k + 1) C n ks gV' (spMkS C sp) := by
  rintro X pins σ H s us ws vs zs Q E rfl rfl rfl rfl rfl hr hx I r rz l1 l2 h
  have n1 : H (s.heap.objs.size + 1) = none := I.hok.fresh (Nat.le_succ _)
  have n2 : H s.heap.objs.size = none := I.hok.fresh (Nat.le_refl _)
  have ne : s.heap.objs.size ≠ s.heap.objs.size + 1 := Nat.ne_of_lt (Nat.lt_succ_self _)
  have I1 := Inv.made (C := C) I
  have sl : SlX.Slt (upd (upd H s.heap.objs.size (.own (s.heap.objs.size + 1))) (s.heap.objs.size + 1) (.ins C s.heap.objs.size [])) (s.heap.objs.size + 1) C s.heap.objs.size [] := .inl ⟨upd_same, rfl⟩
  obtain ⟨_, sl0, mA, e0, _, _, _⟩ := SlX.slt_at I1 sl
  have I2 := SlX.inv_slot (vs' := []) (t' := s.toks) I1 sl (fun b o _ _ z => z) (fun m z => z) e0 (SlX.SlR.nil _)
  have hq := h (s.heap.objs.size + 1) s.heap.objs.size _ ⟨n1⟩ ⟨n2⟩ ne (show Xb [] H (SlX.slH (upd (upd H s.heap.objs.size (.own (s.heap.objs.size + 1))) (s.heap.objs.size + 1) (.ins C s.heap.objs.size [])) (s.heap.objs.size + 1) C s.heap.objs.size []) from ⟨fun b u _ e => by
    have b1 : b ≠ s.heap.objs.size + 1 := ne_of_none e n1
    have b2 : b ≠ s.heap.objs.size := ne_of_none e n2
    unfold SlX.slH
    rw [upd_ne b1, upd_ne b2, upd_ne b1, upd_ne b2]
    exact e⟩) (by unfold SlX.slH; exact upd_same) (by unfold SlX.slH; rw [upd_ne ne]; exact upd_same)
  have r1 : Vals (V.ref (s.heap.objs.size + 1) :: vs) (Value.ref (s.heap.objs.size + 1) :: us) := .cons rfl r
  have r2 := hb.rel r1 rz
  rw [hg] at r2
  have e1 : (Value.ref (s.heap.objs.size + 1) :: us).length = n + 1 := r1.length.symm.trans (congrArg Nat.succ l1)
  have e2 : ws.length = ks.length := rz.length.symm.trans l2
  refine wpAny_call (make_map (f := f) I.kIn M.makes M.init (beq_iff_eq.mp M.fn) (codeAny_mono (F.run _ X.stack _ _ ⟨Value.ref (s.heap.objs.size + 1) :: us, ks.zip ws⟩ (g (Value.ref (s.heap.objs.size + 1) :: us) ws) _ _ E (hr.make C us (ks.zip ws))
    (I2.env0.make C us (ks.zip ws)) (hb.to _ (Value.ref (s.heap.objs.size + 1) :: us) ws I2.kIn e1 e2) r2 hq) fun r s' hq' => ?_))
  cases r with
  | error e => exact hx pins _ _ e s' I2 hq'
  | ok fl =>
    cases fl with
    | ret u =>
      obtain ⟨v, H', I3, rv, ev, q3⟩ := I2.after hq'
      subst ev
      exact ⟨rv, ⟨V.ref (s.heap.objs.size + 1), H', I3, rfl, q3⟩⟩
    | next => exact False.elim hq'
    | brk => exact False.elim hq'
    | cont => exact False.elim hq'
end
end Vl
set_option Elab.async false
set_option linter.all false
set_option maxRecDepth 100000
set_option maxHeartbeats 2000000
namespace Vl
open PySem PySem.Spec PyProof.Rows L2 My
section
variable {X : Cx} {W : WX} {a b : Expr} {fa fb : Ft} {pos : Pos} {j : Nat} {ms : List (Str × Bool × Fm)}
end
section
variable {X : Cx} {W : WX} {a dd : Addr} {c C : Str} {i : Nat} {oe : Obj} {pn : List (Addr × Obj)} {e : Expr} {p q pos : Pos} {ts : List (Str × Bool)}
end
end Vl
set_option Elab.async false
set_option linter.all false
set_option maxRecDepth 100000
set_option maxHeartbeats 2000000
namespace Vl
open PySem PySem.Spec PyProof.Rows L2 My
def chN : RV → List ((D → D → Option RV) × Ft) → Sg → Res Bool
  | _, [], g => .ok true g
  | x, (p, f) :: r, g => (settle (f g)).bind fun y g1 => (blF (fun g => lift2 p x y g) g1).bind fun k g2 => if k = true then chN y r g2 else .ok false g2
def ch3B (p q s : D → D → Option RV) (fa fb fc fd : Ft) : Fb := fun g => (settle (fa g)).bind fun x g1 => chN x [(p, fb), (q, fc), (s, fd)] g1
def ch3V (p q s : D → D → Option RV) (fa fb fc fd : Ft) : Ft := fun g => (ch3B p q s fa fb fc fd g).bind fun k g1 => .ok (.val (.bl k)) g1
def tChain3 (r1 r2 r3 : R2) (ta tb tc td : TE) : TE := fun σ H Q => ta σ H fun x H1 => tb σ H1 fun y H2 => r1 x y H2 fun z H3 => ∃ k, z = .bl k ∧
  (if k = true then tc σ H3 fun w H4 => r2 y w H4 fun z' H5 => ∃ k', z' = .bl k' ∧ (if k' = true then td σ H5 fun w' H6 => r3 w w' H6 Q else Q (.bl false) H5) else Q (.bl false) H3)
section
variable {X : Cx} {W : WX} {a b c d : Expr} {ta tb tc td : TE} {fa fb fc fd : Ft} {pos : Pos} {p q s : D → D → Option RV}
theorem pe_chain3 {o1 o2 o3 : CmpOp} {r1 r2 r3 : R2} (h1 : OpR X (compareOp o1) r1) (h2 : OpR X (compareOp o2) r2) (h3 : OpR X (compareOp o3) r3) (ha : PE X a ta) (hb : PE X b tb) (hc : PE X c tc) (hd : PE X d td)
    (hm : lastMarks [o1, o2, o3] [b, c, d] = false := by with_unfolding_all rfl) : PE X (.Compare a [o1, o2, o3] [b, c, d] pos) (tChain3 r1 r2 r3 ta tb tc td) := by
  refine ⟨fun pins s σ H Q I h => ?_⟩
  refine Compare_chain (thn (ha.run pins s σ H _ I h) fun v s1 ⟨x, H1, I1, r1, q1⟩ => chain_link (thn (hb.run pins s1 σ H1 _ I1 q1) fun u s2 ⟨y, H2, I2, r2, q2⟩ =>
    thn (h1 pins s2 σ H2 x y v u _ I2 r1 r2 q2) fun d s3 ⟨z, H3, I3, r3, k, e, q3⟩ => ?_)) hm
  subst e
  cases r3
  refine wpAny_truthy_bool ?_
  cases k with
  | false => exact ite_ff ⟨.bl false, H3, I3, rfl, q3⟩
  | true =>
    refine ite_tt (chain_link (thn (hc.run pins s3 σ H3 _ I3 q3) fun w' s4 ⟨z', H4, I4, r4, q4⟩ => thn (h2 pins s4 σ H4 y z' u w' _ I4 r2 r4 q4) fun d s5 ⟨z5, H5, I5, r5, k, e, q5⟩ => ?_))
    subst e
    cases r5
    refine wpAny_truthy_bool ?_
    cases k with
    | false => exact ite_ff ⟨.bl false, H5, I5, rfl, q5⟩
    | true => exact ite_tt (chain_last (thn (hd.run pins s5 σ H5 _ I5 q5) fun w6 s6 ⟨z6, H6, I6, r6, q6⟩ => h3 pins s6 σ H6 z' z6 w' w6 Q I6 r4 r6 q6))
theorem chain_step {f : Ft} {op : CmpOp} {r : R2} {rest : List ((D → D → Option RV) × Ft)} (hk : ∀ c v u a b Q, Ok X.K c → RdD X.K c v a → RdD X.K c u b → Gives X.K c (p a b) Q → r v u c.H Q) {c0 c1 : Cfg} {v : V} {x : RV} {Q : Bool → Hp → Prop} {T : V → VK} (o : Ok X.K c1) (rx : RvR X.K c0 c1 v x)
    (h : Rem X.K W RbR c1 (chN x ((p, f) :: rest) c1.g) Q) (hT : ∀ u kb H3, (kb = false → Q false H3) → (kb = true → ∃ I3 g3 y c', Ok X.K ⟨I3, c1.σ, H3, g3⟩ ∧ RvR X.K c' ⟨I3, c1.σ, H3, g3⟩ u y ∧ Rem X.K W RbR ⟨I3, c1.σ, H3, g3⟩ (chN y rest g3) Q) → T u (.bl kb) H3) :
    rdE X.K W f c1.σ c1.H fun u H2 => r v u H2 (T u) := by
  refine ⟨c1.I, c1.g, o, Rem.settle ((Rem.bind (R := RvR X.K) h).mono ?_)⟩
  rintro u H2 ⟨I2, g2, y, o2, y2, ry, h3⟩
  have rx2 := RvR.on (c1 := c1) o2 rfl y2 rx
  have h4 := blF_rem (Rem.bind (R := RbR) h3)
  obtain ⟨da, db, ra, rb, gv⟩ := lift2_gives (c := ⟨I2, c1.σ, H2, g2⟩) o2 rx2 ry h4
  refine hk ⟨I2, c1.σ, H2, g2⟩ v u da db _ o2 ra rb ?_
  cases ep : p da db with
  | none => rw [ep] at gv; exact gv.elim
  | some rv =>
    rw [ep] at gv
    intro I3 H3 w o3 y3 rw3
    obtain ⟨kb, ew, I4, g4, x4, o4, y4, e4, h5⟩ := gv I3 H3 w o3 y3 rw3
    subst e4
    subst ew
    refine hT u kb H3 (fun e => ?_) fun e => ?_
    · subst e
      exact h5 I4 H3 false o4 (Go.refl _) rfl
    · subst e
      exact ⟨I4, g4, y, _, o4, RvR.on (c1 := ⟨I2, c1.σ, H2, g2⟩) o4 rfl y4 ry, h5⟩
theorem ch3_rd {r1 r2 r3 : R2} (k1 : ∀ c v u a b Q, Ok X.K c → RdD X.K c v a → RdD X.K c u b → Gives X.K c (p a b) Q → r1 v u c.H Q) (k2 : ∀ c v u a b Q, Ok X.K c → RdD X.K c v a → RdD X.K c u b → Gives X.K c (q a b) Q → r2 v u c.H Q) (k3 : ∀ c v u a b Q, Ok X.K c → RdD X.K c v a → RdD X.K c u b → Gives X.K c (s a b) Q → r3 v u c.H Q)
    {σ : L2.St} {H : Hp} {Q : VK} (h : rdT X.K W (ch3B p q s fa fb fc fd) σ H fun k H => Q (.bl k) H) : tChain3 r1 r2 r3 (rdE X.K W fa) (rdE X.K W fb) (rdE X.K W fc) (rdE X.K W fd) σ H Q := by
  obtain ⟨I, g, o, h1⟩ := h
  refine ⟨I, g, o, Rem.settle ((Rem.bind (R := RvR X.K) h1).mono ?_)⟩
  rintro v H1 ⟨I1, g1, x, o1, y1, rx, h2⟩
  refine chain_step (op := .Eq) (c1 := ⟨I1, σ, H1, g1⟩) k1 o1 rx h2 fun u kb H3 hf ht => ⟨kb, rfl, ?_⟩
  cases kb with
  | false => exact hf rfl
  | true =>
    obtain ⟨I3, g3, y, c', o3, ry, h3⟩ := ht rfl
    refine chain_step (op := .Eq) (c1 := ⟨I3, σ, H3, g3⟩) k2 o3 ry h3 fun u kb H5 hf ht => ⟨kb, rfl, ?_⟩
    cases kb with
    | false => exact hf rfl
    | true =>
      obtain ⟨I5, g5, z, c'', o5, rz, h5⟩ := ht rfl
      refine chain_step (op := .Eq) (T := fun _ => Q) (c1 := ⟨I5, σ, H5, g5⟩) k3 o5 rz h5 fun u kb H7 hf ht => ?_
      cases kb with
      | false => exact hf rfl
      | true =>
        obtain ⟨I7, g7, w, _, o7, _, h7⟩ := ht rfl
        exact h7 I7 H7 true o7 (Go.refl _) rfl
theorem ve_chain3 {o1 o2 o3 : CmpOp} (h1 : P2 X (compareOp o1) p) (h2 : P2 X (compareOp o2) q) (h3 : P2 X (compareOp o3) s) (ha : VE X W a fa) (hb : VE X W b fb) (hc : VE X W c fc) (hd : VE X W d fd)
    (hm : lastMarks [o1, o2, o3] [b, c, d] = false := by with_unfolding_all rfl) : VE X W (.Compare a [o1, o2, o3] [b, c, d] pos) (ch3V p q s fa fb fc fd) := by
  obtain ⟨r1, q1, k1⟩ := h1.ex
  obtain ⟨r2, q2, k2⟩ := h2.ex
  obtain ⟨r3, q3, k3⟩ := h3.ex
  refine ⟨pe_imp (pe_chain3 q1 q2 q3 ha.pe hb.pe hc.pe hd.pe hm) fun σ H Q ⟨I, g, o, h0⟩ => ch3_rd k1 k2 k3 ⟨I, g, o, (Rem.bind (R := RbR) h0).mono fun v H1 ⟨I1, g1, x, o1, y1, rx, r1⟩ => by
    cases rx
    exact r1 I1 H1 (.bl v) o1 (Go.refl _) (.bl _)⟩⟩
end
end Vl
set_option Elab.async false
set_option linter.all false
set_option maxRecDepth 100000
set_option maxHeartbeats 2000000
namespace Vl
open PySem PySem.Spec PyProof.Rows L2 My
section
variable {X : Cx} {W : WX}
section
variable {elt tg iter : Expr} {ifs : List Expr} {scope : Scope} {own : List (Str × Nat)} {pos : Pos} {t : Tg} {tt : Option Fb} {fe : Ft} {p : Nat}
end
end
end Vl
set_option Elab.async false
set_option linter.all false
set_option maxRecDepth 100000
set_option maxHeartbeats 2000000
namespace Vl
open PySem PySem.Spec PyProof.Rows L2 My
end Vl
set_option Elab.async false
set_option linter.all false
set_option maxRecDepth 100000
set_option maxHeartbeats 2000000
namespace Vl
open PySem PySem.Spec PyProof.Rows L2 My
section
variable {X : Cx} {W : WX}
theorem Reps.rep {K : PySem.W.Frag} {I : Hp} {vs : List V} {ds : List D} (r : Reps K I vs ds) : ∀ n : Nat, Reps K I (List.replicate n vs).flatten (List.replicate n ds).flatten
  | 0 => .nil
  | n + 1 => by
    rw [List.replicate_succ, List.replicate_succ, List.flatten_cons, List.flatten_cons]
    exact r.append (Reps.rep r n)
end
end Vl
set_option Elab.async false
set_option linter.all false
set_option maxRecDepth 100000
set_option maxHeartbeats 2000000
namespace Vl
open PySem PySem.Spec PyProof.Rows L2 My
section
variable {X : Cx} {pins : List (Addr × Obj)} {σ : L2.St} {H : Hp} {s : Shared}
end
structure LamP (sc scope : Scope) (x : Str) : Prop where
  kind : scope.kind = .function
  co : scope.isCoroutine = false
  gen : scope.isGenerator = false
  nc : ∀ y ∈ scope.names, y.2 ≠ .cell
  xl : scope.names.lookup x = some .local
  free : ∀ y ∈ scope.names, y.2 = .free → sc.names.lookup y.1 = some .cell ∨ sc.names.lookup y.1 = some .free
theorem LamP.has {X : Cx} {scope : Scope} {x : Str} (L : LamP X.env.scope scope x) (ok : X.Ok) : ∀ y ∈ scope.names, y.2 = .free → ∃ c, X.env.cells.lookup y.1 = some c := fun y hy e => (L.free y hy e).elim (fun k => ok.has _ (.inl k)) fun k => ok.has _ (.inr k)
def Grown (s s' : Shared) : Prop := ∃ h' tk, s' = { s with heap := h', toks := tk } ∧ ∀ b o, s.heap.get? b = some o → h'.get? b = some o
theorem Grown.refl (s : Shared) : Grown s s := ⟨s.heap, s.toks, rfl, fun _ _ e => e⟩
theorem Grown.tok (s : Shared) (t : Nat) : Grown s { s with toks := t } := ⟨s.heap, t, rfl, fun _ _ e => e⟩
theorem Grown.trans {s s1 s2 : Shared} (a : Grown s s1) (b : Grown s1 s2) : Grown s s2 := by
  obtain ⟨h1, t1, rfl, k1⟩ := a
  obtain ⟨h2, t2, rfl, k2⟩ := b
  exact ⟨h2, t2, rfl, fun b o e => k2 b o (k1 b o e)⟩
theorem Grown.ns {s s' : Shared} {l : Addr} {m : Str → Option Value} (g : Grown s s') (n : s.heap.Ns l m) : s'.heap.Ns l m := by
  obtain ⟨h1, t1, rfl, k1⟩ := g
  exact n.keeps k1
theorem Grown.get {s s' : Shared} (g : Grown s s') {b : Addr} {o : Obj} (e : s.heap.get? b = some o) : s'.heap.get? b = some o := by
  obtain ⟨h1, t1, rfl, k1⟩ := g
  exact k1 b o e
section
variable {X : Cx} {scope : Scope} {x : Str}
end
section
variable {X : Cx} {scope : Scope} {x : Str}
end
structure KeyT (κ : Type) where
  enc : κ → PyData
  le : κ → κ → Bool
  hle : ∀ {β : Type} (k : β → κ), PySem.W.dataLe false (fun b => enc (k b)) = fun a b => le (k a) (k b)
  al : ∀ a b, PySem.W.alike (enc a) (enc b) = true
  so : ∀ {β : Type} (k : β → κ) (bs : List β), PySem.W.Sortable (bs.map fun b => enc (k b))
  dp : ∀ a, (enc a).depth ≤ 1
section
variable {X : Cx} {scope : Scope} {x : Str}
end
section
variable {κ : Type} {X : Cx} {W : WX} {scope : Scope} {x : Str} {T : KeyT κ} {kf : Sg → D → Option κ} {body : Expr}
end
theorem sql_keep {K : PySem.W.Frag} {H H1 : Hp} {a : Addr} {xs : List V} (h : SqL K H a xs) (k : ∀ a o, H a = some o → NTb o → H1 a = some o) : SqL K H1 a xs := by
  rcases h with (h | ⟨o, h⟩) | h
  · exact .inl (.inl (k _ _ h .lst))
  · exact .inl (.inr ⟨o, k _ _ h ⟨fun _ z => nomatch z⟩⟩)
  · exact .inr h
section
variable {κ : Type} {X : Cx} {W : WX} {scope : Scope} {x : Str} {T : KeyT κ} {kf : Sg → D → Option κ} {body : Expr}
end
section
variable {κ : Type} {X : Cx} {W : WX} {scope : Scope} {x : Str} {T : KeyT κ} {kf : Sg → D → Option κ} {body e : Expr} {fe : Ft} {k : Nat} {params : Arguments} {p pos z kp : Pos}
end
section
variable {κ : Type} {X : Cx} {W : WX} {scope : Scope} {x : Str} {T : KeyT κ} {kf : Sg → D → Option κ} {body : Expr}
end
end Vl
set_option Elab.async false
set_option linter.all false
set_option maxRecDepth 100000
set_option maxHeartbeats 2000000
namespace Vl
open PySem PySem.Spec PyProof.Rows L2 My
end Vl
set_option Elab.async false
set_option linter.all false
set_option maxRecDepth 100000
set_option maxHeartbeats 2000000
namespace Vl
open PySem PySem.Spec PyProof.Rows L2 My
section
variable {X : Cx}
end
end Vl
set_option Elab.async false
set_option linter.all false
set_option maxRecDepth 100000
set_option maxHeartbeats 2000000
namespace Vl
open PySem PySem.Spec PyProof.Rows L2 My
section
variable {X : Cx} {W : WX}
theorem PS.or {st : Stmt} {t t' : TS} (h : PS X st t) (h' : PS X st t') : PS X st (fun D σ H => t D σ H ∨ t' D σ H) := ⟨fun pins s σ H D I hw => hw.elim (h.run pins s σ H D I) (h'.run pins s σ H D I)⟩
end
end Vl
set_option Elab.async false
set_option linter.all false
set_option maxRecDepth 100000
set_option maxHeartbeats 2000000
namespace Vl
open PySem PySem.Spec PyProof.Rows L2 My
section
variable {X : Cx}
end
section
variable {X : Cx}
end
end Vl
set_option Elab.async false
set_option linter.all false
set_option maxRecDepth 100000
set_option maxHeartbeats 2000000
namespace Vl
open PySem PySem.Spec PyProof.Rows L2 My
section
variable {X : Cx} {W : WX}
end
end Vl
set_option Elab.async false
set_option linter.all false
set_option maxRecDepth 100000
set_option maxHeartbeats 2000000
namespace Vl
open PySem PySem.Spec PyProof.Rows L2 My
structure MethR (K : PySem.W.Frag) (R : Addr → Nat → Fm → Prop) (j : Nat) (nm : Str) (ms : List (Str × Bool × Fm)) : Prop where
  ex : ∀ c b m, ms.lookup c = some (b, m) → ∃ (g : Addr) (k : Nat), k ≤ j ∧ R g k m ∧ Meth K (He.ga K c) nm g ∧ (b = false → Cls K (He.ga K c)) ∧ (b = true → SlX.SCls K (He.ga K c))
section
variable {K : PySem.W.Frag} {R : Addr → Nat → Fm → Prop} {j k : Nat} {c nm : Str} {m : Fm} {ms : List (Str × Bool × Fm)} {g : Addr}
theorem MethR.nil : MethR K R j nm [] := ⟨fun c b m h => nomatch h⟩
theorem MethR.pl (hk : k ≤ j) (hc : R g k m) (hm : Meth K (He.ga K c) nm g) (h : Cls K (He.ga K c)) (t : MethR K R j nm ms) : MethR K R j nm ((c, false, m) :: ms) := ⟨fun c' b m' e => by
  rw [List.lookup_cons] at e
  split at e
  · rename_i q
    cases e
    rw [eq_of_beq q]
    exact ⟨g, k, hk, hc, hm, fun _ => h, (fun z => nomatch z)⟩
  · exact t.ex c' b m' e⟩
theorem MethR.sl (hk : k ≤ j) (hc : R g k m) (hm : Meth K (He.ga K c) nm g) (h : SlX.SCls K (He.ga K c)) (t : MethR K R j nm ms) : MethR K R j nm ((c, true, m) :: ms) := ⟨fun c' b m' e => by
  rw [List.lookup_cons] at e
  split at e
  · rename_i q
    cases e
    rw [eq_of_beq q]
    exact ⟨g, k, hk, hc, hm, (fun z => nomatch z), fun _ => h⟩
  · exact t.ex c' b m' e⟩
theorem MethR.up {i : Nat} (h : MethR K R i nm ms) (hj : i ≤ j) : MethR K R j nm ms :=
  ⟨fun c b m e => let ⟨g, k, h1, h2⟩ := h.ex c b m e; ⟨g, k, Nat.le_trans h1 hj, h2⟩⟩
end
section
variable {X : Cx} {W : WX} {o e : Expr} {es : List Expr} {m : Str} {pos apos : Pos} {ta : TE} {t tk : TA} {j n : Nat} {pl : Sem Bool} {kws : List Keyword} {ks : List Str}
end
section
variable {X : Cx} {W : WX} {o e : Expr} {es : List Expr} {nm : Str} {pos apos : Pos} {j n : Nat} {pl : Sem Bool} {ms : List (Str × Bool × Fm)} {fo : Ft} {fs fk : List Ft} {kws : List Keyword} {ks : List Str} {gD : List D → List D → List D}
end
end Vl
set_option Elab.async false
set_option linter.all false
set_option maxRecDepth 100000
set_option maxHeartbeats 2000000
namespace Vl
open PySem PySem.Spec PyProof.Rows L2 My
section
variable {X : Cx} {W : WX}
end
end Vl
set_option Elab.async false
set_option linter.all false
set_option maxRecDepth 100000
set_option maxHeartbeats 2000000
namespace Vl
open PySem PySem.Spec PyProof.Rows L2 My
section
open AutoSeq1 (wpAny_loadPart')
variable {prog : Program} {w : World} {A : Around} {E : Value → Shared → Prop}
end
section
variable {X : Cx} {W : WX} {ms : List (Str × Bool × Fm)} {j : Nat}
end
end Vl
set_option Elab.async false
set_option linter.all false
set_option maxRecDepth 100000
set_option maxHeartbeats 2000000
namespace Vl
open PySem PySem.Spec PyProof.Rows L2 My
section
variable {X : Cx} {W : WX} {x : Str} {p pos : Pos} {e : Expr} {es : List Expr} {j n : Nat} {ms : List (Str × Bool × Fm)} {fo : Ft} {fs fk : List Ft} {ks : List Str} {gD : List D → List D → List D} {kws : List Keyword}
end
end Vl
set_option Elab.async false
set_option linter.all false
set_option maxRecDepth 100000
set_option maxHeartbeats 2000000
namespace Vl
open PySem PySem.Spec PyProof.Rows L2 My
def zipFp3 (n : Nat) : List Addr := [n, n + 1, n + 2, n + 3, n + 4, n + 5]
theorem zipFp3_mem {n c : Nat} : c ∈ zipFp3 n ↔ n ≤ c ∧ c ≤ n + 5 := by
  unfold zipFp3
  simp only [List.mem_cons, List.not_mem_nil, or_false]
  omega
theorem nex5 {c n : Nat} (h : n ≤ c) (h' : c ≤ n + 5) : ∃ j, c = n + j ∧ j ≤ 5 := ⟨c - n, by omega, by omega⟩
theorem nbig5 {n m j : Nat} (h : n + 5 < m) (hj : j ≤ 5) : m ≠ n + j := by omega
theorem sep3 {n a b d : Nat} (ha : a < n) (hb : b < n) (hd : d < n) : ZipSep3 (n + 5) (n + 3) (n + 4) n (n + 1) (n + 2) [n, a] [n + 1, b] [n + 2, d] :=
  zip_sep3 (N := n) (fp1 := [a]) (fp2 := [b]) (fp3 := [d]) (fun x h => by rw [List.mem_singleton] at h; rw [h]; exact ha) (fun x h => by rw [List.mem_singleton] at h; rw [h]; exact hb) (fun x h => by rw [List.mem_singleton] at h; rw [h]; exact hd)
def zipD3 : List D → List D → List D → List D
  | x :: xs, y :: ys, z :: zs => .tup [x, y, z] :: zipD3 xs ys zs
  | _, _, _ => []
theorem zipD3_get : ∀ (xs ys zs : List D) (n : Nat), (zipD3 xs ys zs)[n]? = (xs[n]?).bind fun x => (ys[n]?).bind fun y => (zs[n]?).map fun z => D.tup [x, y, z]
  | [], ys, zs, n => by cases ys <;> cases zs <;> simp [zipD3]
  | x :: xs, [], zs, n => by
    cases zs <;> simp [zipD3]
  | x :: xs, y :: ys, [], n => by
    simp [zipD3]
  | x :: xs, y :: ys, z :: zs, 0 => by simp [zipD3]
  | x :: xs, y :: ys, z :: zs, n + 1 => by
    rw [zipD3, List.getElem?_cons_succ, zipD3_get xs ys zs n]
    simp
theorem zipD3_len : ∀ (xs ys zs : List D), (zipD3 xs ys zs).length = min (min xs.length ys.length) zs.length
  | [], ys, zs => by cases ys <;> cases zs <;> simp [zipD3]
  | x :: xs, [], zs => by cases zs <;> simp [zipD3]
  | x :: xs, y :: ys, [] => by simp [zipD3]
  | x :: xs, y :: ys, z :: zs => by
    rw [zipD3, List.length_cons, zipD3_len xs ys zs]
    simp only [List.length_cons]
    omega
section
variable {X : Cx} {W : WX}
end
end Vl
set_option Elab.async false
set_option linter.all false
set_option maxRecDepth 100000
set_option maxHeartbeats 2000000
namespace Vl
open PySem PySem.Spec PyProof.Rows L2 My
theorem hu65 {A : Around} {k : Nat} (hr : Room k A) : A.units + 65 < cLine := by have := hr.un; omega
def csK (K : PySem.W.Frag) : List (Addr × Addr) := tabDefs.filterMap fun d => (cdAt K (He.fAd K d.1)).bind fun c => (tbAt K c).map fun P => (c, P)
structure TabsE (K : PySem.W.Frag) (H : Hp) : Prop where
  e : ∀ p ∈ csK K, H p.2 = some (.tbl #[])
structure TbsOk (K : PySem.W.Frag) (mg : Str → Option Value) (base : Heap) : Prop where
  e : ∀ p ∈ csK K, LamX.TabB base mg p.1 p.2
theorem tk_cs {K : PySem.W.Frag} {p : Addr × Str} (h : p ∈ TK K) : ∃ c, (c, p.1) ∈ csK K := by
  unfold TK at h
  obtain ⟨d, hd, e⟩ := List.mem_filterMap.mp h
  rw [Option.map_eq_some_iff] at e
  obtain ⟨P, e1, rfl⟩ := e
  rw [Option.bind_eq_some_iff] at e1
  obtain ⟨c, e1, e2⟩ := e1
  refine ⟨c, List.mem_filterMap.mpr ⟨d, hd, ?_⟩⟩
  rw [e1]
  show (tbAt K c).map _ = _
  rw [e2]
  rfl
def unT (H : Hp) : Hp := fun a => match H a with
  | some (.tbl _) => none
  | o => o
theorem unT_some {H : Hp} {a : Addr} {o : HO} (h : H a = some o) (n : NTb o) : unT H a = some o := by
  unfold unT
  rw [h]
  cases o <;> first | rfl | exact (n.e _ rfl).elim
theorem unT_le (H : Hp) : Le (unT H) H := fun a o e => by
  unfold unT at e
  split at e
  · cases e
  · exact e
theorem unT_nt (H : Hp) : NoTab (unT H) := ⟨fun a ps e => by
  unfold unT at e
  split at e
  · cases e
  · rename_i n
    exact n ps e⟩
theorem tabs_of {K : PySem.W.Frag} {I H : Hp} (h : TabsE K H) : TabsV K I H := ⟨fun p hp => by
  obtain ⟨c, hc⟩ := tk_cs hp
  refine ⟨#[], h.e _ hc, True.intro, fun z cv q => ?_⟩
  have q : codeAmong z [] = some cv := q
  simp [codeAmong] at q⟩
def spLaw {K : PySem.W.Frag} : Sp := fun vs H Q _ => ∃ a, vs = [.ref a] ∧ ∃ ns : List Int, SqL K H a (ns.map V.int) ∧ ns.length ≤ 63 ∧ TabsE K H ∧ ∀ H', Q (.bl true) H'
theorem reps_int {K : PySem.W.Frag} {I : Hp} : ∀ ns : List Int, Reps K I (ns.map V.int) (ns.map D.int)
  | [] => .nil
  | n :: r => .cons (.int n) (reps_int r)
theorem body_law {X : Cx} {N : List Str} {body : List Stmt} {f : Fs} {a : Addr} {ns : List Int} {H : Hp} {Q : VK} {outs : List Sl} (hb : VSs X.nox W0 body f) (hl : fnM 1 N.length f [.val (.seq (ns.map D.int))] = .ok (.val (.bl true)) outs) (hS : SqL X.K H a (ns.map V.int)) (hE : TabsE X.K H) (k : ∀ H', Q (.bl true) H') :
    ∃ t, PSs X body t ∧ t { nx := fun _ H' => Q .non H', rt := Q } (L2.start N [.ref a]) H := by
  have hs : spV X.nox.K (fnM 1 N.length f) [.ref a] H Q (fun _ _ _ => False) := by
    refine ⟨unT H, [.val (.seq (ns.map D.int))], unT_le H, ⟨unT_nt H, tabs_of hE⟩, .cons (.seq (sql_keep hS fun a o e n => unT_some e n) (reps_int ns)) .nil, ?_, ?_⟩
    · intro i j d d' e1 e2 e
      match i, e1 with
      | 0, e1 => cases e1
      | i + 1, e1 => simp at e1
    · rw [hl]
      intro I' H' v wl ho rv
      cases rv
      exact k H'
  obtain ⟨t, h1, h2⟩ := body_sp (X := X.nox) hb hs
  exact ⟨t, PSs.nox h1, h2⟩
section
variable {P : Program} {w : World} {K : PySem.W.Frag} {mg : Str → Option Value} {base : Heap} {x qual : Str} {params : Arguments} {body : List Stmt} {scope : Scope} {dvs : List V} {kws : List (Str × V)} {f : Addr} {fd : FuncData}
end
def tabsB (K : PySem.W.Frag) (ts : List Addr) : Bool := (csK K).all fun p => decide (p.2 ∈ ts) && ((K.lookup p.2).isNone && PySem.W.codeHdIn K p.1 p.2)
theorem walkT {l : PySem.W.OpenLaw} {q : Program} {loose : List Str} {XP : (Str → Option Value) → Heap → Prop} {YP : World → Heap → Prop} {d : DefRec} {K : Params → PySem.W.Frag} {k : Nat} {x : Str} (ts : List Addr) (hn : l.most = some 63) (hdf : d.params.defaults = []) (hr : Room k callerA)
    (hY : ∀ (w : World) (h : Heap), YP w h → (K w.params).In h) (hT : ∀ (w : World) (h : Heap), YP w h → ∀ P ∈ ts, h.get? P = some (PySem.W.tabObj #[])) (hB : ∀ w : World, tabsB (K w.params) ts = true)
    (F : ∀ (w : World) (mg : Str → Option Value) (fa : Addr) (h : Heap), (K w.params).In h → h.Ns mainGlobals mg → mg d.name = some (.ref fa) →
      ∃ fd : FuncData, (∀ (s : Shared) (u : Value), BindsTo s fd ⟨[u], []⟩ [(x, u)]) ∧ ∀ base : Heap, (K w.params).In base → base.Ns mainGlobals mg → TbsOk (K w.params) mg base → FnOk l.prog w (K w.params) mg base CX0 k fa fd [x] (spLaw (K := K w.params))) :
    PySem.W.WalkO q loose XP YP l.row.toRowW d [] (fun f vs => PySem.call f vs) := by
  refine LamX.walk_ofTs (n := 63) (k := k) (x := x) (CX := fun _ => CX0) hn (by decide) hdf hr hY (fun w mg fa h Y KX G hmg => ?_) fun _ _ _ _ _ z => z
  obtain ⟨fd, hb, hF⟩ := F w mg fa h KX G hmg
  have B : ∀ p ∈ csK (K w.params), p.2 ∈ ts ∧ (K w.params).lookup p.2 = none ∧ PySem.W.codeHdIn (K w.params) p.1 p.2 = true := fun p hp => by
    have := List.all_eq_true.mp (hB w) p hp
    simp only [Bool.and_eq_true, decide_eq_true_eq, Option.isNone_iff_eq_none] at this
    exact this
  exact ⟨fd, csK (K w.params), spLaw (K := K w.params), fun p hp => hT w h Y _ (B p hp).1, fun p hp => (B p hp).2.1, fun p hp => PySem.W.codeHd_of_K KX (B p hp).2.2, hb, fun H a ns hl _ hE hS => ⟨a, rfl, ns, hS, hl, ⟨hE⟩, fun _ => rfl⟩, fun base h1 h2 h3 => hF base h1 h2 ⟨h3⟩⟩
end Vl
set_option Elab.async false
set_option linter.all false
set_option maxRecDepth 100000
set_option maxHeartbeats 4000000
namespace Vl
open PySem PySem.Spec PyProof.Rows L2 My
def m__law_bag : Fm := fnM 1 1 (retF (valsF [(callF listP [(nameF 0)]), (cF (.int 0)), (cF (.int 0)), (cF (.int 20011))] lstP))
def m__law_pick : Fm := fnM 2 4 (seqF (iteS (andB (blF (op2 eqP (op2 ixP (nameF 0) (cF (.int 2))) (cF (.int 0)))) (blF (op2 ltP (op2 ixP (nameF 0) (cF (.int 1))) (callF lenP [(op2 ixP (nameF 0) (cF (.int 0)))])))) (seqF (setF 2 (op2 ixP (op2 ixP (nameF 0) (cF (.int 0))) (op2 ixP (nameF 0) (cF (.int 1)))))
    (seqF (augSF 0 (cF (.int 1)) iaddP (cF (.int 1)))
    (iteS (blF (op2 geP (nameF 2) (op2 powP (cF (.int 10)) (cF (.int 18))))) (putF 0 (cF (.int 2)) (nameF 2)) (putF 0 (cF (.int 3)) (op2 modP (callF intP [(op2 addP (op2 addP (op2 mulQ (op2 ixP (nameF 0) (cF (.int 3))) (cF (.int 16807))) (op2 mulQ (nameF 2) (cF (.int 7919)))) (op2 ixP (nameF 0) (cF (.int 1))))]) (cF (.int 2147483629))))))) .nx)
    (seqF (iteS (blF (op2 gtP (op2 ixP (nameF 0) (cF (.int 2))) (cF (.int 0)))) (seqF (setF 3 (op2 modP (callF intP [(op2 ixP (nameF 0) (cF (.int 2)))]) (nameF 1)))
    (seqF (putF 0 (cF (.int 2)) (op2 fdivP (op2 ixP (nameF 0) (cF (.int 2))) (nameF 1)))
    (retF (nameF 3)))) .nx)
    (seqF (putF 0 (cF (.int 3)) (op2 modP (callF intP [(op2 addP (op2 mulQ (op2 ixP (nameF 0) (cF (.int 3))) (cF (.int 30269))) (cF (.int 12345)))]) (cF (.int 2147483629))))
    (retF (op2 modP (callF intP [(op2 fdivP (op2 modP (callF intP [(op2 mulQ (op2 ixP (nameF 0) (cF (.int 3))) (cF (.int 17389)))]) (cF (.int 2147483587))) (cF (.int 11)))]) (nameF 1))))))
structure GB (b : D) : Prop where
  ex : ∃ (ns : List Int) (i g st : Int), b = .lst [.lst (ns.map D.int), .int i, .int g, .int st] ∧ ns.length ≤ 63 ∧ 0 ≤ i ∧ i ≤ 63 ∧ 0 ≤ g ∧ 0 ≤ st ∧ st < 2147483629
theorem bag_ok {ns : List Int} (h : ns.length ≤ 63) : ∃ b, m__law_bag [.val (.seq (ns.map D.int))] = .ok (.fr b) [.val true (.seq (ns.map D.int))] ∧ GB b := by
  refine ⟨.lst [.lst (ns.map D.int), .int 0, .int 0, .int 20011], ?_, ⟨ns, 0, 0, 20011, rfl, h, by decide, by decide, by decide, by decide, by decide⟩⟩
  simp [m__law_bag, fnM, fnK, startG, retF, retK, valsF, evA, callF, nameF, cF, settle, Res.bind, bindE, derefA, deref, listP, frzA, frz1, lstP, sizeLine]
theorem atI_lit {α : Type} {xs : List α} {i : Int} {x : α} (h0 : 0 ≤ i) (h : xs[i.toNat]? = some x) : atI xs i = some x := by
  have := atI_nat (j := i.toNat) h
  rwa [show ((i.toNat : Nat) : Int) = i by omega] at this
theorem mulOk_r {i j : Int} (h : -(2 ^ 64) < j ∧ j < 2 ^ 64) : mulOk i j = true := by
  unfold mulOk
  rw [decide_eq_true (p := -(2 ^ 64) < j ∧ j < 2 ^ 64) h]
  simp
theorem pick_ok {b : D} {lim : Int} (hb : GB b) (h0 : 0 < lim) (h1 : lim.natAbs.log2 < 9000) : ∃ n b', m__law_pick [.own b, .val (.int lim)] = .ok (.val (.int n)) [.own true b', .val true (.int lim)] ∧ GB b' ∧ 0 ≤ n ∧ n < lim := by
  obtain ⟨ns, i, g, st, rfl, hl, hi0, hi1, hg, hs0, hs1⟩ := hb
  have dv : divOk lim = true := by simp [divOk, h0, h1]
  -- behind the first if
  have tail : ∀ (v : Sl) (ns : List Int) (i g st : Int), ns.length ≤ 63 → 0 ≤ i → i ≤ 63 → 0 ≤ g → 0 ≤ st → st < 2147483629 → ∃ n b', GB b' ∧ 0 ≤ n ∧ n < lim ∧ ∃ v2 v3,
      seqF (iteS (blF (op2 gtP (op2 ixP (nameF 0) (cF (.int 2))) (cF (.int 0)))) (seqF (setF 3 (op2 modP (callF intP [(op2 ixP (nameF 0) (cF (.int 2)))]) (nameF 1)))
    (seqF (putF 0 (cF (.int 2)) (op2 fdivP (op2 ixP (nameF 0) (cF (.int 2))) (nameF 1)))
    (retF (nameF 3)))) .nx)
    (seqF (putF 0 (cF (.int 3)) (op2 modP (callF intP [(op2 addP (op2 mulQ (op2 ixP (nameF 0) (cF (.int 3))) (cF (.int 30269))) (cF (.int 12345)))]) (cF (.int 2147483629))))
    (retF (op2 modP (callF intP [(op2 fdivP (op2 modP (callF intP [(op2 mulQ (op2 ixP (nameF 0) (cF (.int 3))) (cF (.int 17389)))]) (cF (.int 2147483587))) (cF (.int 11)))]) (nameF 1)))) [.own true (.lst [.lst (ns.map D.int), .int i, .int g, .int st]), .val true (.int lim), v, .un] = .rt (.val (.int n)) [.own true b', .val true (.int lim), v2, v3] := by
    intro v ns i g st hl hi0 hi1 hg hs0 hs1
    by_cases hgp : 0 < g
    · refine ⟨g % lim, .lst [.lst (ns.map D.int), .int i, .int (g / lim), .int st], ⟨ns, i, g / lim, st, rfl, hl, hi0, hi1, Int.ediv_nonneg hg (by omega), hs0, hs1⟩, Int.emod_nonneg _ (by omega), Int.emod_lt_of_pos _ h0, ?_⟩
      simp [seqF, iteS, blF, op2, op1, nameF, cF, retF, retK, settle, Res.bind, bindE, lift2, lift1, deref, gtP, ixP, atI, ixN, setF, setK, modP, callF, evA, derefA, intP, putF, putK', frzA, frz1, putAt, fdivP, dv, h0, hgp]
    · refine ⟨(((st * 30269 + 12345) % 2147483629 * 17389) % 2147483587 / 11) % lim, .lst [.lst (ns.map D.int), .int i, .int g, .int ((st * 30269 + 12345) % 2147483629)], ⟨ns, i, g, _, rfl, hl, hi0, hi1, hg, Int.emod_nonneg _ (by decide), Int.emod_lt_of_pos _ (by decide)⟩, Int.emod_nonneg _ (by omega), Int.emod_lt_of_pos _ h0, ?_⟩
      have m1 : mulOk st 30269 = true := mulOk_r (by decide)
      have m2 : mulOk ((st * 30269 + 12345) % 2147483629) 17389 = true := mulOk_r (by decide)
      have d1 : divOk 11 = true := by decide
      simp [seqF, iteS, blF, op2, op1, nameF, cF, retF, retK, settle, Res.bind, bindE, lift2, lift1, deref, gtP, ixP, atI, ixN, setF, setK, modP, callF, evA, derefA, intP, putF, putK', frzA, frz1, putAt, fdivP, mulQ, mulP, addP, m1, m2, d1, h0, hgp]
  have fin : ∀ (first : Fs) (rest : Fs) (v : Sl) (ns : List Int) (i' g' st' : Int), first [.own true (.lst [.lst (ns.map D.int), .int i, .int g, .int st]), .val true (.int lim), .un, .un] = .nx [.own true (.lst [.lst (ns.map D.int), .int i', .int g', .int st']), .val true (.int lim), v, .un] →
      (∃ n b', GB b' ∧ 0 ≤ n ∧ n < lim ∧ ∃ v2 v3, rest [.own true (.lst [.lst (ns.map D.int), .int i', .int g', .int st']), .val true (.int lim), v, .un] = .rt (.val (.int n)) [.own true b', .val true (.int lim), v2, v3]) →
      ∃ n b', fnM 2 4 (seqF first rest) [.own (.lst [.lst (ns.map D.int), .int i, .int g, .int st]), .val (.int lim)] = .ok (.val (.int n)) [.own true b', .val true (.int lim)] ∧ GB b' ∧ 0 ≤ n ∧ n < lim := by
    rintro first rest v ns i' g' st' h ⟨n, b', hb, n0, n1, v2, v3, hr⟩
    refine ⟨n, b', ?_, hb, n0, n1⟩
    simp [fnM, fnK, startG, seqF, h, hr]
  unfold m__law_pick
  by_cases hg0 : g = 0
  · subst hg0
    have a0 : atI [D.lst (ns.map D.int), .int i, .int 0, .int st] 0 = some (.lst (ns.map D.int)) := by simp [atI, ixN]
    have a1 : atI [D.lst (ns.map D.int), .int i, .int 0, .int st] 1 = some (.int i) := by simp [atI, ixN]
    have a2 : atI [D.lst (ns.map D.int), .int i, .int 0, .int st] 2 = some (.int 0) := by simp [atI, ixN]
    by_cases hlt : i < (ns.length : Int)
    · obtain ⟨z, hz⟩ : ∃ z, ns[i.toNat]? = some z := ⟨ns[i.toNat]'(by omega), List.getElem?_eq_getElem _⟩
      have hz' : atI (ns.map D.int) i = some (.int z) := atI_lit hi0 (by rw [List.getElem?_map, hz]; rfl)
      have b1 : atI [D.lst (ns.map D.int), .int (i + 1), .int 0, .int st] 1 = some (.int (i + 1)) := by simp [atI, ixN]
      have b3 : atI [D.lst (ns.map D.int), .int (i + 1), .int 0, .int st] 3 = some (.int st) := by simp [atI, ixN]
      have m1 : mulOk st 16807 = true := mulOk_r (by decide)
      have m2 : mulOk z 7919 = true := mulOk_r (by decide)
      have pw : powOk 10 18 = true := by decide
      by_cases hc : (1000000000000000000 : Int) ≤ z
      · refine fin _ _ (.val false (.int z)) ns (i + 1) z st ?_ (tail _ ns (i + 1) z st hl (by omega) (by omega) (by omega) hs0 hs1)
        simp [seqF, iteS, andB, blF, op2, op1, nameF, cF, settle, Res.bind, bindE, lift2, lift1, deref, eqP, eqD, scD, ltP, a0, a1, a2, callF, evA, derefA, lenP, hlt, setF, setK, ixP, hz', augSF, frzA, frz1, getAt, iaddP, putAt, ixN, geP, powP, pw, putF, putK', hc]
      · refine fin _ _ (.val false (.int z)) ns (i + 1) 0 ((st * 16807 + z * 7919 + (i + 1)) % 2147483629) ?_ (tail _ ns (i + 1) 0 _ hl (by omega) (by omega) hg (Int.emod_nonneg _ (by decide)) (Int.emod_lt_of_pos _ (by decide)))
        simp [seqF, iteS, andB, blF, op2, op1, nameF, cF, settle, Res.bind, bindE, lift2, lift1, deref, eqP, eqD, scD, ltP, a0, a1, a2, b1, b3, callF, evA, derefA, lenP, hlt, setF, setK, ixP, hz', augSF, frzA, frz1, getAt, iaddP, putAt, ixN, geP, powP, pw, putF, putK', modP, intP, addP, mulQ, mulP, m1, m2, hc]
    · refine fin _ _ .un ns i 0 st ?_ (tail _ ns i 0 st hl hi0 hi1 hg hs0 hs1)
      simp [seqF, iteS, andB, blF, op2, op1, nameF, cF, settle, Res.bind, bindE, lift2, lift1, deref, eqP, eqD, scD, ltP, a0, a1, a2, callF, evA, derefA, lenP, hlt, ixP]
  · refine fin _ _ .un ns i g st ?_ (tail _ ns i g st hl hi0 hi1 hg hs0 hs1)
    have a2 : atI [D.lst (ns.map D.int), .int i, .int g, .int st] 2 = some (.int g) := by simp [atI, ixN]
    simp [seqF, iteS, andB, blF, op2, op1, nameF, cF, settle, Res.bind, bindE, lift2, lift1, deref, eqP, eqD, scD, a2, hg0, ixP]
end Vl
set_option Elab.async false
set_option linter.all false
set_option maxRecDepth 100000
set_option maxHeartbeats 4000000
namespace Vl
open PySem PySem.Spec PyProof.Rows L2 My
theorem eqD_int (a b : Int) : eqD (.int a) (.int b) = some (decide (a = b)) := rfl
theorem eqD_str (a b : Str) : eqD (.str a) (.str b) = some (decide (a = b)) := rfl
theorem eqD_bl (a b : Bool) : eqD (.bl a) (.bl b) = some (decide (a = b)) := rfl
theorem toPs_ints : ∀ xs : List Int, toPs (xs.map D.int) = some (xs.map PyData.int)
  | [] => rfl
  | a :: r => by simp [toPs, toP, toPs_ints r]
theorem canLay_ints : ∀ xs : List Int, PyData.canLayAll0 (xs.map PyData.int) = true
  | [] => by simp [PyData.canLayAll0]
  | a :: r => by simp [PyData.canLayAll0, PyData.canLay0, canLay_ints r]
theorem depth_ints : ∀ xs : List Int, PyData.depthAll (xs.map PyData.int) = 0
  | [] => by simp [PyData.depthAll]
  | a :: r => by simp [PyData.depthAll, PyData.depth, depth_ints r]
theorem seqF_nx {f k : Fs} {g g1 : Sg} (h : f g = .nx g1) : seqF f k g = k g1 := by unfold seqF; rw [h]
theorem outFor_at {j i : Nat} {rs : List RV} {os : List Sl} : outFor j (.at_ i :: rs) os = if i = j then some (os.headD .un) else outFor j rs os.tail := rfl
def putSl (rs : List RV) (os : List Sl) (j : Nat) (s : Sl) : Sl := match s with
  | .own t d => (match outFor j rs os with | some o => outC t o | none => .own t d)
  | s => s
theorem putOuts_eq (rs : List RV) (os : List Sl) (g : Sg) : putOuts rs os g = g.mapIdx (putSl rs os) := rfl
theorem putSl_nil {os : List Sl} {j : Nat} {s : Sl} : putSl [] os j s = s := by cases s <;> rfl
theorem putSl_v {d : D} {rs : List RV} {os : List Sl} {j : Nat} {s : Sl} : putSl (.val d :: rs) os j s = putSl rs os.tail j s := by cases s <;> rfl
theorem putSl_ne {i : Nat} {rs : List RV} {os : List Sl} {j : Nat} {s : Sl} (h : ¬ i = j) : putSl (.at_ i :: rs) os j s = putSl rs os.tail j s := by
  cases s <;> simp [putSl, outFor_at, h]
theorem putSl_at {rs : List RV} {os : List Sl} {j : Nat} {t : Bool} {d : D} : putSl (.at_ j :: rs) os j (.own t d) = outC t (os.headD .un) := by
  simp [putSl, outFor_at]
theorem putSl_val {rs : List RV} {os : List Sl} {j : Nat} {t : Bool} {d : D} : putSl rs os j (.val t d) = .val t d := rfl
theorem putSl_un {rs : List RV} {os : List Sl} {j : Nat} : putSl rs os j .un = .un := rfl
theorem loop_inv {t : Tg} {body : Fs} (P : Sg → Prop) : ∀ {ds : List D} {g : Sg}, P g → (∀ d ∈ ds, ∀ g, P g → ∃ g1, tgF t d g = some g1 ∧ ∃ g2, (body g1 = .nx g2 ∨ body g1 = .ct g2) ∧ P g2) → ∃ g', loopF t body ds g = .nx g' ∧ P g'
  | [], g, h, _ => ⟨g, rfl, h⟩
  | d :: ds, g, h, k => by
    obtain ⟨g1, e1, g2, e2, h2⟩ := k d (.head _) g h
    obtain ⟨g', e3, h3⟩ := loop_inv P (ds := ds) h2 fun d hd g hg => k d (.tail _ hd) g hg
    refine ⟨g', ?_, h3⟩
    unfold loopF
    rw [e1]
    rcases e2 with e2 | e2 <;> (simp only [e2]; exact e3)
end Vl
set_option Elab.async false
set_option linter.all false
set_option maxRecDepth 100000
set_option maxHeartbeats 4000000
namespace Vl
open PySem PySem.Spec PyProof.Rows L2 My
theorem comp_map {t : Tg} {fe : Ft} {vs : List Nat} {g : Sg} (F : D → D) : ∀ {ds : List D} {acc : List D}, acc.length + ds.length ≤ sizeLine →
    (∀ d ∈ ds, ∃ g1, tgF t d g = some g1 ∧ ∃ x g3, noX (settle (fe g1)) = .ok x g3 ∧ ∃ g4, frz1 x g3 = some (F d, g4) ∧ wipeG g4 vs = g) →
    compL t none fe vs ds g acc = .ok (.fr (.lst (acc ++ ds.map F))) g
  | [], acc, _, _ => by simp [compL]
  | d :: ds, acc, hl, k => by
    obtain ⟨g1, e1, x, g3, e2, g4, e3, h4⟩ := k d (.head _)
    rw [List.length_cons] at hl
    have ih := comp_map F (ds := ds) (acc := acc ++ [F d]) (by rw [List.length_append]; simp; omega) fun d hd => k d (.tail _ hd)
    have hl2 : acc.length < sizeLine := by omega
    unfold compL
    rw [e1]
    simp only [e2, e3, if_pos hl2, h4, ih, List.append_assoc, List.singleton_append, List.map_cons]
end Vl
set_option Elab.async false
set_option linter.all false
set_option maxRecDepth 100000
set_option maxHeartbeats 4000000
namespace Vl
open PySem PySem.Spec PyProof.Rows L2 My
end Vl
set_option Elab.async false
set_option linter.all false
set_option maxRecDepth 100000
set_option maxHeartbeats 4000000
namespace Vl
open PySem PySem.Spec PyProof.Rows L2 My
theorem seqF_rt {f k : Fs} {g g1 : Sg} {v : RV} (h : f g = .rt v g1) : seqF f k g = .rt v g1 := by unfold seqF; rw [h]
theorem lk_hit {β : Type} {a : Str} {b : β} {r : List (Str × β)} : List.lookup a ((a, b) :: r) = some b := by simp [List.lookup_cons]
theorem fn_go {k n : Nat} {f : Fs} {as : List Ar} (h : as.length = k) : fnM k n f as = fnK k (f (startG n as)) := by simp [fnM, h]
end Vl
set_option Elab.async false
set_option linter.all false
set_option maxRecDepth 100000
set_option maxHeartbeats 4000000
namespace Vl
open PySem PySem.Spec PyProof.Rows L2 My
abbrev Rn := Option Int × Int × Int
def Nm : List Rn → Prop
  | [] => True
  | [r] => r.2.1 < r.2.2
  | r :: q :: t => r.2.1 < r.2.2 ∧ ¬ (r.1 = q.1 ∧ r.2.2 = q.2.1) ∧ Nm (q :: t)
theorem Nm.tail {r : Rn} : ∀ {t : List Rn}, Nm (r :: t) → Nm t
  | [], _ => trivial
  | _ :: _, h => h.2.2
theorem Nm.head {r : Rn} : ∀ {t : List Rn}, Nm (r :: t) → r.2.1 < r.2.2
  | [], h => h
  | _ :: _, h => h.1
theorem Nm.ext {h : Option Int} {a b c : Int} (hc : b ≤ c) : ∀ {l : List Rn}, Nm (l ++ [(h, a, b)]) → Nm (l ++ [(h, a, c)])
  | [], hn => Int.lt_of_lt_of_le (show a < b from hn) hc
  | [x], hn => ⟨hn.1, hn.2.1, Int.lt_of_lt_of_le (show a < b from hn.2.2) hc⟩
  | x :: y :: l, hn => ⟨hn.1, hn.2.1, Nm.ext (l := y :: l) hc hn.2.2⟩
def size (rs : List Rn) : Int := (rs.map fun r => r.2.2 - r.2.1).sum
end Vl
set_option Elab.async false
set_option linter.all false
set_option maxRecDepth 100000
set_option maxHeartbeats 4000000
namespace Vl
open PySem PySem.Spec PyProof.Rows L2 My
end Vl
set_option Elab.async false
set_option linter.all false
set_option maxRecDepth 100000
set_option maxHeartbeats 2000000
namespace Vl
open PySem PySem.Spec PyProof.Rows L2 My
section
variable {X : Cx} {W : WX} {e u : Expr} {fe fu : Ft} {p z pos kp : Pos}
end
section
variable {X : Cx} {W : WX} {elt tg iter : Expr} {ifs : List Expr} {scope : Scope} {own : List (Str × Nat)} {pos : Pos} {fi : Fi} {t : Tg} {tt : Option Fb} {fe : Ft}
end
end Vl
set_option Elab.async false
set_option linter.all false
set_option maxRecDepth 100000
set_option maxHeartbeats 2000000
namespace Vl
open PySem PySem.Spec PyProof.Rows L2 My
section
variable {P : Program} {w : World} {K : PySem.W.Frag} {mg : Str → Option Value} {base : Heap} {x qual : Str} {params : Arguments} {body : List Stmt} {scope : Scope} {kws : List (Str × V)} {f : Addr} {fd : FuncData} {N ps : List Str} {pv : Str} {k : Nat} {m : Fm}
end
end Vl
set_option Elab.async false
set_option linter.all false
set_option maxRecDepth 100000
set_option maxHeartbeats 4000000
namespace Vl
open PySem PySem.Spec PyProof.Rows L2 My
section
variable {X : Cx} {x1 x2 n : Str} {c1 c2 : Value} {i : Nat} {body s1 s2 : List Stmt} {b1 b2 : Stmt} {np1 np2 p1 p2 pos : Pos} {tb : WX → TS} {ts1 ts2 : Addr → Value → Option Addr → TS} {Wout : WX}
end
section
variable {X : Cx} {W : WX}
end
end Vl
set_option Elab.async false
set_option linter.all false
set_option maxRecDepth 100000
set_option maxHeartbeats 2000000
namespace Vl
open PySem PySem.Spec PyProof.Rows L2 My
abbrev itT (t : Addr) : Obj := { cls := .type "tuple_iterator", data := .fields #[.ref t, .int 0 0] }
section
variable {prog : Program} {w : World} {A : Around} {E : Value → Shared → Prop} {s : Shared} {t : Addr} {items : Array Value}
end
def ItTO (t it : Addr) : HO := .ext fun h => h.get? it = some (itT t)
def rIterT (K : PySem.W.Frag) (n : Nat) : List V → Hp → VK → Prop := fun xs H Q => ∃ (t : Addr) (zs : List V), xs = [.ref t] ∧ SqT K H t zs ∧ ∀ it, H it = Option.none → n ≤ it → Q (.ref it) (upd H it (ItTO t it))
end Vl
set_option Elab.async false
set_option linter.all false
set_option maxRecDepth 100000
set_option maxHeartbeats 4000000
namespace Vl
open PySem PySem.Spec PyProof.Rows L2 My
end Vl
set_option Elab.async false
set_option linter.all false
set_option maxRecDepth 100000
set_option maxHeartbeats 2000000
namespace Vl
open PySem PySem.Spec PyProof.Rows L2 My
section
variable {X : Cx} {W : WX}
end
section
variable {X : Cx} {W : WX} {pos apos : Pos} {a e : Expr} {es : List Expr} {f : Str} {j n : Nat} {ts : List (Str × Option Nat)} {ms : List (Str × Bool × Fm)} {fo : Ft} {fs : List Ft} {pl : Sem Bool}
end
section
variable {X : Cx} {W : WX}
end
end Vl
set_option Elab.async false
set_option linter.all false
set_option maxRecDepth 100000
set_option maxHeartbeats 4000000
namespace Vl
open PySem PySem.Spec PyProof.Rows L2 My
end Vl
set_option Elab.async false
set_option linter.all false
set_option maxRecDepth 100000
set_option maxHeartbeats 4000000
namespace Vl
open PySem PySem.Spec PyProof.Rows L2 My
section
variable {X : Cx} {x1 x2 x3 n : Str} {c1 c2 c3 : Value} {i : Nat} {body s1 s2 s3 : List Stmt} {b1 b2 b3 : Stmt} {np1 np2 np3 p1 p2 p3 pos : Pos} {tb : WX → TS} {ts1 ts2 ts3 : Addr → Value → Option Addr → TS} {Wout : WX}
end
section
variable {X : Cx} {W : WX}
end
end Vl
set_option Elab.async false
set_option linter.all false
set_option maxRecDepth 100000
set_option maxHeartbeats 2000000
namespace Vl
open PySem PySem.Spec PyProof.Rows L2 My
section
variable {X : Cx} {W : WX}
end
end Vl
set_option Elab.async false
set_option linter.all false
set_option maxRecDepth 100000
set_option maxHeartbeats 2000000
namespace Vl
open PySem PySem.Spec PyProof.Rows L2 My
structure FnN (P : Program) (w : World) (K : PySem.W.Frag) (mg : Str → Option Value) (base : Heap) (k : Nat) (f : Addr) (fd : FuncData) (ps : List Str) (sp : Nat → Sp) : Prop where
  run : ∀ (A : Around) (outer : List Env) (s : Shared) (H : Hp) (args : Args) (us : List Value) (vs : List V) (Q : VK) (E : XK), Room k A → Env0 P w K mg base A outer s H → BindsTo s fd args (ps.zip us) → Vals vs us → vs.length = ps.length → sp s.heap.objs.size vs H Q E →
    codeAny (model P w) A (.call (.ref f) args) (CR (L2.CX P w) outer P w H s Q E) s
section
variable {P : Program} {w : World} {K : PySem.W.Frag} {mg : Str → Option Value} {base : Heap} {x qual : Str} {params : Arguments} {body : List Stmt} {scope : Scope} {dvs : List V} {kws : List (Str × V)} {f : Addr} {fd : FuncData}
end
def rIt (K : PySem.W.Frag) (n : Nat) : List V → Hp → VK → Prop := fun xs H Q => ItX.rIterN K n xs H Q ∨ rIterT K n xs H Q
def spIt (K : PySem.W.Frag) (f : Str) (n : Nat) : Sp := fun vs H Q _ => ∃ (a C dx : Addr) (fs : List (Str × V)) (y : V), vs = [.ref a] ∧ H a = some (.ins C dx fs) ∧ Cls K C ∧ NoAttr K C f ∧ fs.lookup f = some y ∧ rIt K n [y] H Q
section
variable {X : Cx} {f : Str} {o : Expr} {p ap pos rp : Pos}
end
structure OIt (P : Program) (w : World) (K : PySem.W.Frag) (mg : Str → Option Value) (base : Heap) (j : Nat) (c f : Str) : Prop where
  ex : ∃ (g : Addr) (k : Nat) (fd : FuncData) (p : Str), k ≤ j ∧ FnN P w K mg base k g fd [p] (spIt K f) ∧ Binds K fd [p] [] ∧ Meth K (He.ga K c) "__iter__" g ∧ Cls K (He.ga K c) ∧ NoAttr K (He.ga K c) f
theorem OIt.up {P : Program} {w : World} {K : PySem.W.Frag} {mg : Str → Option Value} {base : Heap} {j j' : Nat} {c f : Str} (h : OIt P w K mg base j c f) (l : j ≤ j') : OIt P w K mg base j' c f :=
  let ⟨g, k, fd, p, hk, r⟩ := h.ex
  ⟨g, k, fd, p, Nat.le_trans hk l, r⟩
section
variable {X : Cx} {pins : List (Addr × Obj)} {σ : L2.St} {H : Hp} {s : Shared} {a dx : Addr} {fs : List (Str × V)} {c f : Str} {y : V} {j : Nat}
end
section
variable {X : Cx} {W : WX} {tg e : Expr} {fe : Ft} {f : Str} {cs : List Str} {j : Nat}
end
end Vl
set_option Elab.async false
set_option linter.all false
set_option maxRecDepth 100000
set_option maxHeartbeats 2000000
namespace Vl
open PySem PySem.Spec PyProof.Rows L2 My
section
variable {X : Cx} {pins : List (Addr × Obj)} {σ : L2.St} {H : Hp} {s : Shared} {g : Addr} {k : Nat} {sp : Sp} {A' : Around} {us : List Value} {vs : List V} {Q : VK}
end
section
variable {X : Cx} {W : WX} {pins : List (Addr × Obj)} {σ : L2.St} {H : Hp} {s : Shared} {a dx g : Addr} {fs : List (Str × V)} {c : Str} {k : Nat} {sp : Sp} {A : Around}
end
section
variable {X : Cx} {pins : List (Addr × Obj)} {σ : L2.St} {a q it l : Addr} {A1 : Around}
end
section
variable {X : Cx} {c f : Str} {j : Nat} {ms : List (Str × Bool × Fm)}
end
section
variable {X : Cx} {W : WX} {e : Expr} {fe : Ft} {f : Str} {cs : List Str} {j : Nat} {ms : List (Str × Bool × Fm)} {p pos : Pos}
end
end Vl
set_option Elab.async false
set_option linter.all false
set_option maxRecDepth 100000
set_option maxHeartbeats 2000000
namespace Vl
open PySem PySem.Spec PyProof.Rows L2 My
section
variable {X : Cx} {W : WX} {pos : Pos} {keys : List (Option Expr)} {values : List Expr} {fs : List (Ft × Ft)}
end
end Vl
set_option Elab.async false
set_option linter.all false
set_option maxRecDepth 100000
set_option maxHeartbeats 2000000
namespace Vl
open PySem PySem.Spec PyProof.Rows L2 My
section
variable {X : Cx} {W : WX} {e : Expr} {c x : Str} {p pos sp_ : Pos} {j k : Nat} {m : Fm} {fo fe : Ft}
end
end Vl
set_option Elab.async false
set_option linter.all false
set_option maxRecDepth 100000
set_option maxHeartbeats 2000000
namespace Vl
open PySem PySem.Spec PyProof.Rows L2 My
section
variable {X : Cx} {W : WX} {pins : List (Addr × Obj)} {s : Shared} {σ : L2.St} {H : Hp} {b a : Addr} {ks : List Str} {A : Around} {E : Value → Shared → Prop}
variable {tvs : List (List Str × D)}
end
section
variable {X : Cx} {W : WX} {x : Str} {tvs : List (List Str × D)} {b : Expr} {fb : Ft} {p pos : Pos}
end
end Vl
set_option Elab.async false
set_option linter.all false
set_option maxRecDepth 100000
set_option maxHeartbeats 2000000
namespace Vl
open PySem PySem.Spec PyProof.Rows L2 My
variable {X : Cx} {W : WX} {x : Str} {b : Expr} {fb : Ft} {p pos : Pos}
end Vl
set_option Elab.async false
set_option linter.all false
set_option maxRecDepth 100000
set_option maxHeartbeats 2000000
namespace Vl
open PySem PySem.Spec PyProof.Rows L2 My
def keysD : List (D × D) → List D := List.map (·.1)
theorem RepK.keys {K : PySem.W.Frag} {I : Hp} : ∀ {xs : List (Key × V)} {ds : List (D × D)}, RepK K I xs ds → Reps K I (xs.map fun kv => kV kv.1) (keysD ds)
  | _, _, .nil => .nil
  | (k, v) :: xs, _, .cons h t => by
    refine .cons ?_ t.keys
    cases k
    · exact .int _
    · exact .str _
section
variable {X : Cx} {W : WX}
end
end Vl
set_option Elab.async false
set_option linter.all false
set_option maxRecDepth 100000
set_option maxHeartbeats 2000000
namespace Vl
open PySem PySem.Spec PyProof.Rows L2 My
def rpOk (p : PyData) : Bool := p.showable && (!p.hasDict && (decide (p.shown.length ≤ sizeLine) && decide (p.depth ≤ 60)))
end Vl
set_option Elab.async false
set_option linter.all false
set_option maxRecDepth 100000
set_option maxHeartbeats 2000000
namespace Vl
open PySem PySem.Spec PyProof.Rows L2 My
section
variable {P : Program} {w : World} {K : PySem.W.Frag} {mg : Str → Option Value} {base : Heap} {x qual : Str} {params : Arguments} {body : List Stmt} {scope : Scope} {dvs : List V} {kws : List (Str × V)} {f : Addr} {fd : FuncData}
end
section
variable {X : Cx} {W : WX} {e : Expr} {es : List Expr} {x : Str} {p pos : Pos} {j k : Nat} {sp : Sp} {t : TA} {m : Fm} {fs : List Ft} {f : Addr} {fd : FuncData} {ps : List Str}
end
end Vl
set_option Elab.async false
set_option linter.all false
set_option maxRecDepth 100000
set_option maxHeartbeats 2000000
namespace Vl
open PySem PySem.Spec PyProof.Rows L2 My
def solid : Data → Bool
  | .seq _ _ => false
  | .fields vs => decide (0 < vs.size)
  | _ => true
structure Dawn (K : PySem.W.Frag) (mg mb : Str → Option Value) (cs : List (Addr × Addr)) (s : Shared) (a : Addr) (us : List Value) (ns : List Int) : Prop where
  kin : K.In s.heap
  glo : s.heap.Ns mainGlobals mg
  bui : s.heap.Ns builtinsNs mb
  boot : ∀ x : Str, x ≠ "__name__" → mb x = bootBuiltins x
  lim : s.heap.NoLimit
  gens : s.gens = #[]
  tab : ∀ p ∈ cs, s.heap.get? p.2 = some (PySem.W.tabObj #[])
  tabK : ∀ p ∈ cs, K.lookup p.2 = none
  code : ∀ p ∈ cs, PySem.W.CodeHd s.heap p.1 p.2
  bm : ∃ (m : Addr) (ob : Obj), mg "__builtins__" = some (.ref m) ∧ m ≠ builtinsNs ∧ s.heap.get? m = some ob ∧ ob.cls = .type "module" ∧ ob.dict = some builtinsNs ∧ ob.data = .plain
  scr : s.heap.get? a = some { cls := .type "list", data := .seq us.toArray }
  ints_ : IntsAre us ns
  few : ns.length ≤ sizeLine
def scrO (us : List Value) : Obj := { cls := .type "list", data := .seq us.toArray }
def dawnH (K : PySem.W.Frag) (a : Addr) (us : List Value) (ns : List Int) (ts : List Addr) : Hp := fun b =>
  if b ∈ ts then some (.tbl #[]) else if b = a ∧ K.lookup a = none then some (.frz (scrO us) (.lst (ns.map V.int))) else none
section
variable {P : Program} {w : World} {K : PySem.W.Frag} {mg mb : Str → Option Value} {cs : List (Addr × Addr)} {s : Shared} {a : Addr} {us : List Value} {ns : List Int}
theorem Dawn.tabs (D : Dawn K mg mb cs s a us ns) {b : Addr} (h : b ∈ (cs.map (·.2))) : s.heap.get? b = some (PySem.W.tabObj #[]) ∧ K.lookup b = none := by
  obtain ⟨p, hp, rfl⟩ := List.mem_map.mp h
  exact ⟨D.tab p hp, D.tabK p hp⟩
theorem dawn_none {b : Addr} (h : b ∉ (cs.map (·.2))) (h2 : ¬ (b = a ∧ K.lookup a = none)) : (dawnH K a us ns (cs.map (·.2))) b = none := (if_neg h).trans (if_neg h2)
theorem dawn_cases (b : Addr) : (b ∈ (cs.map (·.2)) ∧ (dawnH K a us ns (cs.map (·.2))) b = some (.tbl #[])) ∨ (b ∉ (cs.map (·.2)) ∧ b = a ∧ K.lookup a = none ∧ (dawnH K a us ns (cs.map (·.2))) b = some (.frz (scrO us) (.lst (ns.map V.int)))) ∨ (b ∉ (cs.map (·.2)) ∧ (dawnH K a us ns (cs.map (·.2))) b = none) := by
  by_cases h : b ∈ (cs.map (·.2))
  · exact .inl ⟨h, if_pos h⟩
  · by_cases h2 : b = a ∧ K.lookup a = none
    · exact .inr (.inl ⟨h, h2.1, h2.2, (if_neg h).trans (if_pos h2)⟩)
    · exact .inr (.inr ⟨h, dawn_none h h2⟩)
theorem Dawn.unseen (D : Dawn K mg mb cs s a us ns) {b : Addr} {o : Obj} (e : s.heap.get? b = some o) (q : solid o.data = true) : (dawnH K a us ns (cs.map (·.2))) b = none := by
  rcases dawn_cases (K := K) (a := a) (us := us) (ns := ns) (cs := cs) b with h | h | h
  · rw [(D.tabs h.1).1] at e
    cases e
    cases q
  · rw [h.2.1, D.scr] at e
    cases e
    cases q
  · exact h.2
theorem Dawn.seen (D : Dawn K mg mb cs s a us ns) {b : Addr} {o : Obj} (e : s.heap.get? b = some o) (q : solid o.data = true) : (hidT s.heap (dawnH K a us ns (cs.map (·.2)))).get? b = some o := hidT_get e (D.unseen e q)
theorem Dawn.space (D : Dawn K mg mb cs s a us ns) {b : Addr} {m : Str → Option Value} (h : s.heap.Ns b m) : (hidT s.heap (dawnH K a us ns (cs.map (·.2)))).Ns b m := by
  obtain ⟨o, es, ep, e, d, r⟩ := h
  exact ⟨o, es, ep, D.seen e (by rw [d]; rfl), d, r⟩
theorem Dawn.kinH (D : Dawn K mg mb cs s a us ns) : K.In (hidT s.heap (dawnH K a us ns (cs.map (·.2)))) := fun b o e => by
  refine hidT_get (D.kin b o e) ?_
  refine dawn_none (fun h => ?_) fun h => ?_
  · rw [(D.tabs h).2] at e
    cases e
  · rw [h.1, h.2] at e
    cases e
theorem Dawn.held (D : Dawn K mg mb cs s a us ns) : HOk P w (dawnH K a us ns (cs.map (·.2))) s.heap := fun b u e => by
  rcases dawn_cases (K := K) (a := a) (us := us) (ns := ns) (cs := cs) b with h | h | h
  · rw [h.2] at e
    cases e
    exact (D.tabs h.1).1
  · rw [h.2.2.2] at e
    cases e
    rw [h.2.1]
    exact ⟨D.scr, by rw [List.length_map]; exact D.few, us, _, vals_ints D.ints_, D.scr⟩
  · rw [h.2] at e
    cases e
theorem Dawn.env0 (D : Dawn K mg mb cs s a us ns) : Env0 P w K mg (hidT s.heap (dawnH K a us ns (cs.map (·.2)))) callerA [] s (dawnH K a us ns (cs.map (·.2))) := by
  obtain ⟨mc, l1, l2⟩ := D.lim
  exact ⟨rfl, ⟨D.kinH, D.space D.glo, ⟨mb, D.space D.bui, D.boot⟩, ⟨mc, D.space l1, l2⟩⟩, fun b o e => of_hidT e, Nat.le_of_eq (hidT_size _ _), trivial, fun b hb => (nomatch hb), D.held, .of_eq D.gens⟩
end
end Vl
set_option Elab.async false
set_option linter.all false
set_option maxRecDepth 100000
set_option maxHeartbeats 4000000
namespace Vl
open PySem PySem.Spec PyProof.Rows L2 My
theorem rp_of {p : PyData} (s : p.showable = true) (n : p.hasDict = false) (l : p.leavesShort 70 = true) (d : p.depth ≤ 60) (b : p.bulk ≤ 200000) : rpOk p = true := by
  have h := PyData.shown_le_bulk 70 (by decide) p l
  have z : p.shown.length ≤ sizeLine := by
    rw [sizeLine_eq]
    omega
  simp only [rpOk, s, n, decide_eq_true z, decide_eq_true d, Bool.not_false, Bool.and_self]
structure Sm (m k : Nat) (p : PyData) : Prop where
  s : p.showable = true
  n : p.hasDict = false
  l : p.leavesShort 70 = true
  d : p.depth ≤ m
  b : p.bulk ≤ k
theorem Sm.rp {m k : Nat} {p : PyData} (h : Sm m k p) (hm : m ≤ 60) (hk : k ≤ 200000) : rpOk p = true := rp_of h.s h.n h.l (Nat.le_trans h.d hm) (Nat.le_trans h.b hk)
structure Sms (m k : Nat) (ps : List PyData) : Prop where
  s : PyData.showableAll ps = true
  n : PyData.hasDictAll ps = false
  l : PyData.leavesShortAll 70 ps = true
  d : PyData.depthAll ps ≤ m
  b : PyData.bulkAll ps ≤ k
theorem Sm.mono {m k m' k' : Nat} {p : PyData} (h : Sm m k p) (hm : m ≤ m') (hk : k ≤ k') : Sm m' k' p := ⟨h.s, h.n, h.l, Nat.le_trans h.d hm, Nat.le_trans h.b hk⟩
theorem Sms.mono {m k m' k' : Nat} {p : List PyData} (h : Sms m k p) (hm : m ≤ m') (hk : k ≤ k') : Sms m' k' p := ⟨h.s, h.n, h.l, Nat.le_trans h.d hm, Nat.le_trans h.b hk⟩
end Vl
set_option Elab.async false
set_option linter.all false
set_option maxRecDepth 100000
set_option maxHeartbeats 2000000
namespace Vl
open PySem PySem.Spec PyProof.Rows L2 My
section
variable {X : Cx} {W : WX} {o : Expr} {m : Str} {pos apos : Pos} {ta : TE} {tk : TA} {j : Nat} {pl : Sem Bool} {kws : List Keyword} {ks : List Str}
end
section
variable {X : Cx} {W : WX} {o : Expr} {nm : Str} {pos apos : Pos} {j : Nat} {pl : Sem Bool} {ms : List (Str × Bool × Fm)} {fo : Ft} {fk : List Ft} {kws : List Keyword} {ks : List Str} {gD : List D → List D → List D}
end
section
variable {X : Cx} {W : WX}
end
end Vl
set_option Elab.async false
set_option linter.all false
set_option maxRecDepth 100000
set_option maxHeartbeats 2000000
namespace Vl
open PySem PySem.Spec PyProof.Rows L2 My
end Vl
set_option Elab.async false
set_option linter.all false
set_option maxRecDepth 100000
set_option maxHeartbeats 2000000
namespace Vl
open PySem PySem.Spec PyProof.Rows L2 My
open PySem.Builtin PySem.Builtin.Str PySem.Builtin.Int PySem.Builtin.Float
section
variable {X : Cx} {W : WX} {e : Expr} {te : TE} {fe : Ft} {pos jp cp : Pos} {sp : PySem.Str} {k : Nat}
end
end Vl
set_option Elab.async false
set_option linter.all false
set_option maxRecDepth 100000
set_option maxHeartbeats 4000000
namespace Vl
open PySem PySem.Spec PyProof.Rows L2 My
section
variable {X : Cx} {x n : Str} {c : Value} {i : Nat} {body suite rest : List Stmt} {b₀ : Stmt} {np pos pos' : Pos} {tb : WX → TS} {ts tr : Addr → Value → Option Addr → TS} {u : TS} {Wout : WX}
end
section
variable {X : Cx} {W : WX}
end
section
variable {X : Cx} {W : WX}
variable {a dd : Addr} {c C : Str} {i : Nat} {oe : Obj} {pn : List (Addr × Obj)} {xe : Value → Shared → Prop} {e : Expr} {p q pos : Pos} {ts : List (Str × Bool)}
end
end Vl
set_option Elab.async false
set_option linter.all false
set_option maxRecDepth 100000
set_option maxHeartbeats 2000000
namespace Vl
open PySem PySem.Spec PyProof.Rows L2 My
section
variable {X : Cx} {W : WX} {c x : Str} {p pos : Pos} {j k : Nat} {m : Fm} {fo : Ft} {fk : List Ft} {kws : List Keyword} {ks : List Str} {gD : List D → List D → List D}
end
section
variable {X : Cx} {W : WX} {o : Expr} {fo : Ft} {apos pos : Pos}
end
end Vl
set_option Elab.async false
set_option linter.all false
set_option maxRecDepth 100000
set_option maxHeartbeats 4000000
namespace Vl
open PySem PySem.Spec PyProof.Rows L2 My
variable {X : Cx} {W : WX}
end Vl
set_option Elab.async false
set_option linter.all false
set_option maxRecDepth 100000
set_option maxHeartbeats 4000000
namespace Vl
open PySem PySem.Spec PyProof.Rows L2 My
structure PSA (X : Cx) (b0 : List Stmt) (st : Stmt) (t : TS) : Prop where
  run : ∀ (pins : List (Addr × Obj)) (s : Shared) (σ : L2.St) (H : Hp) (D : Ends), Inv X pins σ H s → t D σ H → PySem.wpAt (model X.prog X.w) X.A (.func b0 X.env) (exec st X.env) (SP X pins D) X.xe s
structure PSsA (X : Cx) (b0 : List Stmt) (st : List Stmt) (t : TS) : Prop where
  run : ∀ (pins : List (Addr × Obj)) (s : Shared) (σ : L2.St) (H : Hp) (D : Ends), Inv X pins σ H s → t D σ H → PySem.wpAt (model X.prog X.w) X.A (.func b0 X.env) (execs st X.env) (SP X pins D) X.xe s
section
variable {X : Cx} {b0 : List Stmt} {a b e : Expr} {st : Stmt} {rest body : List Stmt} {ta tb te : TE} {t u : TS} {pos : Pos}
theorem PSA.of (h : PS X st t) : PSA X b0 st t := ⟨fun pins s σ H D I q => wpAt_of_wpAny (h.run pins s σ H D I q)⟩
theorem PSsA.of (h : PSs X body t) : PSsA X b0 body t := ⟨fun pins s σ H D I q => wpAt_of_wpAny (h.run pins s σ H D I q)⟩
end
structure VSA (X : Cx) (W : WX) (b0 : List Stmt) (st : Stmt) (f : Fs) : Prop where
  ps : PSA X b0 st (rdS X.K W f)
structure VSsA (X : Cx) (W : WX) (b0 : List Stmt) (st : List Stmt) (f : Fs) : Prop where
  pss : PSsA X b0 st (rdS X.K W f)
section
variable {X : Cx} {W : WX} {b0 : List Stmt} {a b e : Expr} {st : Stmt} {rest body : List Stmt} {f k : Fs} {fa fb fe : Ft} {pos : Pos}
theorem VSA.of (h : VS X W st f) : VSA X W b0 st f := ⟨.of h.ps⟩
theorem VSsA.of (h : VSs X W body f) : VSsA X W b0 body f := ⟨.of h.pss⟩
end
section
variable {P : Program} {w : World} {K : PySem.W.Frag} {mg : Str → Option Value} {base : Heap}
end
structure SupK (P : Program) (K : PySem.W.Frag) (mg : Str → Option Value) (c : Str) (f cda cc : Addr) : Prop where
  fn : ∃ (oc : Value) (od : Option Addr) (fd : FuncData) (osl : Array (Option Value)) (a : Arg), K.lookup f = some ⟨oc, od, .func fd, osl⟩ ∧ (fd.params.posonlyargs ++ fd.params.args).head? = some a ∧ a.arg = "self"
  cd : ∃ (oc : Value) (od : Option Addr) (vs : Array Value) (osl : Array (Option Value)) (file : Str) (tf : Tok), K.lookup cda = some ⟨oc, od, .fields vs, osl⟩ ∧ vs[2]? = some (.str file tf) ∧ ((P.main.file : Str) == file) = true
  ce : ∃ (oc : Value) (od : Option Addr) (osl : Array (Option Value)), K.lookup cc = some ⟨oc, od, .cell (some (.ref (He.ga K c))), osl⟩
  cl : ∃ cd, PySem.W.clsIn K (He.ga K c) = some cd
  sub : PySem.W.mroIn K (He.ga K c) (.ref (He.ga K c)) = some true
  opq : PySem.W.nsIn K cStatics "thirdparty.any" = some none
  top : (P.main.scope.names.lookup ("super" : Str)).isSome = false
  mg : mg "super" = none
structure SupM (P : Program) (w : World) (K : PySem.W.Frag) (mg : Str → Option Value) (base : Heap) (j : Nat) (c nm : Str) (m : Fm) : Prop where
  ex : ∃ (g : Addr) (k : Nat), k ≤ j ∧ (∀ n, CodC P w K mg base k g n [] (fun vs _ => vs) (spV K m)) ∧ PySem.W.ks_superIn K (He.ga K c) (He.ga K c) nm = some (some (.ref g)) ∧ PySem.W.typeIn K (.ref g) = some (.type "function") ∧ PySem.W.fnIn K g = true
theorem SupM.up {P : Program} {w : World} {K : PySem.W.Frag} {mg : Str → Option Value} {base : Heap} {i j : Nat} {c nm : Str} {m : Fm} (h : SupM P w K mg base i c nm m) (hj : i ≤ j) : SupM P w K mg base j c nm m :=
  ⟨let ⟨g, k, h1, h2⟩ := h.ex; ⟨g, k, Nat.le_trans h1 hj, h2⟩⟩
section
variable {X : Cx} {pins : List (Addr × Obj)} {σ : L2.St} {H : Hp} {s : Shared} {b0 : List Stmt} {c nm : Str} {f cda cc : Addr} {p0 p1 apos : Pos}
end
section
variable {X : Cx} {W : WX} {b0 : List Stmt} {c nm : Str} {f cda cc : Addr} {p0 p1 apos pos : Pos} {e : Expr} {es : List Expr} {fs : List Ft} {j : Nat} {m : Fm} {pl : Sem Bool}
end
structure FunS (P : Program) (K : PySem.W.Frag) (mg : Str → Option Value) (c x qual : Str) (params : Arguments) (body : List Stmt) (scope : Scope) (dvs : List V) (kws : List (Str × V)) (f : Addr) (fd : FuncData) : Prop where
  ex : ∃ (oc : Value) (od : Option Addr) (dV kV doc pm : Value) (an : Option Addr) (cda cc : Addr) (ct : Value) (osl : Array (Option Value)),
    fd = PySem.W.fnX x qual params body scope [("__class__", cc)] dV kV doc pm an (.ref cda) ct ∧ K.lookup f = some ⟨oc, od, .func fd, osl⟩ ∧ PySem.W.codeIn K (.ref cda) qual = true ∧ DflV K dV dvs ∧ KwdV K kV kws ∧ SupK P K mg c f cda cc
  kp : PySem.W.keepIn K (.ref f) = true
section
variable {P : Program} {w : World} {K : PySem.W.Frag} {mg : Str → Option Value} {base : Heap} {c x qual : Str} {params : Arguments} {body : List Stmt} {scope : Scope} {dvs : List V} {kws : List (Str × V)} {f : Addr} {fd : FuncData} {ps : List Str}
abbrev nfS (x qual : Str) (params : Arguments) (body : List Stmt) (scope : Scope) (cc cda : Addr) : NdefX.NF := ⟨x, qual, params, body, scope, [("__class__", cc)], cda⟩
theorem startF_eq {N : List Str} {vs : List V} (h : vs.length + 1 ≤ N.length) : NdefX.startF N vs [none] = L2.start N vs := by
  unfold NdefX.startF L2.start
  obtain ⟨n, e⟩ : ∃ n, N.length - vs.length = n + 1 := ⟨N.length - vs.length - 1, by omega⟩
  have e2 : N.length - vs.length - [(none : Option V)].length = n := by show N.length - vs.length - 1 = n; omega
  rw [e2, e, List.replicate_succ]
  rfl
theorem FunS.ok {CX : CXT} {N : List Str} {k : Nat} {sp : Sp} (F : FunS P K mg c x qual params body scope dvs kws f fd) (S : NdefX.NScope N ps ["__class__"] scope) (len : ∀ vs H Q E, sp vs H Q E → vs.length = ps.length)
    (hbody : ∀ (cda cc : Addr) (A : Around) (outer : List Env) (s : Shared) (H : Hp) (vs : List V) (Q : VK) (E : XK), SupK P K mg c f cda cc → Room k (A.deeper (NdefX.envF (nfS x qual params body scope cc cda) f s.heap.objs.size)) → sp vs H Q E →
      ∃ t, PSsA (NdefX.ncx CX P w K mg base N (nfS x qual params body scope cc cda) f A outer s H E) body body t ∧ t { nx := fun _ H' => Q .non H', rt := Q } (L2.start N vs) H) : FnOk P w K mg base CX (k + 1) f fd ps sp := by
  obtain ⟨oc, od, dV, kV, doc, pm, an, cda, cc, ct, osl, rfl, lk, hcd, _, _, SK⟩ := F.ex
  refine ⟨len, fun A outer s H args us vs Q E hr e0 hb r hsp => ?_⟩
  have hl := len _ _ _ _ hsp
  have hpl : vs.length + 1 ≤ N.length := by
    have q := congrArg List.length S.pre
    rw [List.length_take, List.length_append] at q
    have : ps.length + 1 ≤ N.length := by
      have z : (["__class__"] : List Str).length = 1 := rfl
      omega
    omega
  have KX : K.In s.heap := e0.mod.kin.keeps fun b o e => (e0.bs b o e).1
  have lim : s.heap.NoLimit := e0.mod.nolimit.keeps fun b o e => (e0.bs b o e).1
  refine codeAny_call_function hr.depth (KX _ _ lk) rfl S.co S.gen rfl (PySem.W.codeRec_of KX hcd) (hb _ _ _ _ ?_)
  refine wpAny_newFunctionEnv S.nocell (fun ⟨n, _⟩ hy => S.par n (List.of_mem_zip hy).1) (fun h₁ hns hsb => ⟨lim.fresh _ hsb, ?_⟩) S.kind
  show codeAny _ _ (.func body (NdefX.envF (nfS x qual params body scope cc cda) f s.heap.objs.size)) _ _
  refine ks_codeAny_funcAt ?_
  have kp : ∀ b o, s.heap.get? b = some o → h₁.get? b = some o := fun b o e => hsb.extBut b o (Nat.ne_of_lt (Heap.lt_size e)) (Heap.get?_push_of_some _ e)
  obtain ⟨t, ht, hq⟩ := hbody cda cc A outer s H vs Q E SK (hr.deeper _) hsp
  obtain ⟨oc3, od3, osl3, lcell⟩ := SK.ce
  have bc := e0.bs _ _ (e0.mod.kin _ _ lcell)
  have one : ∀ {y : Str} {a : Addr}, ([("__class__", cc)] : List (Str × Addr)).lookup y = some a → y = "__class__" ∧ a = cc := fun {y a} e => by
    unfold List.lookup at e
    split at e
    · rename_i q
      cases e
      exact ⟨eq_of_beq q, rfl⟩
    · cases e
  have C : NdefX.CellsAt [("__class__", cc)] ["__class__"] [none] s.heap H := by
    refine ⟨rfl, fun y a e => ?_, fun y z a e1 e2 => (one e1).1.trans (one e2).1.symm, fun i y e => ?_⟩
    · obtain ⟨_, rfl⟩ := one e
      exact ⟨bc.2, _, _, bc.1, rfl⟩
    · have hy : y = "__class__" := by
        cases i with
        | zero => simpa using e.symm
        | succ i => simp at e
      subst hy
      refine ⟨cc, by simp [List.lookup], fun v hv => ?_⟩
      cases i with
      | zero => simp at hv
      | succ i => simp at hv
  have I : Inv (NdefX.ncx CX P w K mg base N (nfS x qual params body scope cc cda) f A outer s H E) [] (NdefX.startF N vs [none]) H { s with heap := h₁, toks := s.toks + (ps.zip us).length } := NdefX.inv_startN S hr.hd e0 hl r C hns kp
  rw [startF_eq hpl] at I
  refine ks_wpAt_mono (ht.run [] _ (L2.start N vs) H _ I hq) (fun fl s' hs => ?_) fun e s' hs => hs
  have fin : ∀ {σ' : L2.St} {H' : Hp} {v : V} {u : Value}, Inv (NdefX.ncx CX P w K mg base N (nfS x qual params body scope cc cda) f A outer s H E) [] σ' H' s' → L2.RelV v u → Q v H' → CE outer P w H s Q u s' :=
    fun {σ' H' v u} J rv q => ⟨v, H', J.os, J.bare, J.base, J.hok, rv, q⟩
  cases fl with
  | ret u =>
    obtain ⟨v, σ', H', J, rv, q⟩ := hs
    exact fin J rv q
  | next =>
    obtain ⟨σ', H', J, q⟩ := hs
    exact fin (v := V.non) (u := Value.none) J rfl q
  | brk =>
    obtain ⟨_, _, _, q⟩ := hs
    exact False.elim q
  | cont =>
    obtain ⟨_, _, _, q⟩ := hs
    exact False.elim q
theorem FunS.bindsN (F : FunS P K mg c x qual params body scope [] kws f fd)
    (h : ∀ (kV doc pm : Value) (an : Option Addr) (cc : Addr) (cdv ct : Value) (us : List Value), us.length = ps.length → bindArgs (PySem.W.fnX x qual params body scope [("__class__", cc)] .none kV doc pm an cdv ct) ⟨us, []⟩ = pure (ps.zip us)) : Binds K fd ps [] := by
  obtain ⟨oc, od, dV, kV, doc, pm, an, cda, cc, ct, osl, rfl, lk, hcd, hD, hK, _⟩ := F.ex
  rcases hD with ⟨_, rfl⟩ | ⟨e, _⟩
  · exact .all (h kV doc pm an cc _ ct)
  · exact absurd rfl e
theorem FunS.kbinds0 (F : FunS P K mg c x qual params body scope [] kws f fd) (n : Nat) (ks : List Str) (ms : List (Str × V)) (g : {α : Type} → List α → List α → List α → List α) (hk : kws ≠ []) (hms : ∀ q ∈ ms, q ∈ kws)
    (hrel : ∀ {vs mz zs : List V} {us mv ws : List Value}, Vals vs us → Vals mz mv → Vals zs ws → Vals (g vs mz zs) (g us mv ws))
    (h : ∀ (D : Addr) (doc pm : Value) (an : Option Addr) (cc : Addr) (cdv ct : Value) (us mv ws : List Value), us.length = n → mv.length = ms.length → ws.length = ks.length →
      KwChain D ((ms.map (·.1)).zip mv) (bindArgs (PySem.W.fnX x qual params body scope [("__class__", cc)] .none (.ref D) doc pm an cdv ct) ⟨us, ks.zip ws⟩) (ps.zip (g us mv ws))) :
    ∃ mv : List Value, KBn K fd ps n ks (fun us ws => g us mv ws) (fun vs zs => g vs (ms.map (·.2)) zs) := by
  obtain ⟨oc, od, dV, kV, doc, pm, an, cda, cc, ct, osl, rfl, lk, hcd, hD, hK, _⟩ := F.ex
  rcases hD with ⟨_, rfl⟩ | ⟨e, _⟩
  · rcases hK with e | ⟨D, rfl, hq⟩
    · exact absurd e hk
    · obtain ⟨mv, hl, rk, hks⟩ := kwd_vals (ms := ms) fun q hm => hq q (hms q hm)
      exact ⟨mv, ⟨fun s us ws X l1 l2 => BindsTo.of_looks fun M => KwChain.looks X hks (h D doc pm an cc _ ct us mv ws l1 hl l2), fun r1 r2 => hrel r1 rk r2⟩⟩
  · exact absurd rfl e
end
abbrev FnWS : Type := Option (Str × Str × Arguments × FuncBody × Scope × Addr × List Str × Addr)
structure DefS where
  c : Str
  name : Str
  qual : Str
  params : Arguments
  body : List Stmt
  scope : Scope
  kwd : List (Str × He.Dv) := []
def DefS.at_ (d : DefS) (K : PySem.W.Frag) : Addr := He.ma K (He.ga K d.c) d.name
def DefS.val (d : DefS) : FnWS := some (d.name, d.qual, d.params, .stmts d.body, d.scope, mainGlobals, ["__class__"], builtinsNs)
def DefS.kws (K : PySem.W.Frag) (d : DefS) : List (Str × V) := d.kwd.map fun q => (q.1, q.2.v K)
def supB (P : Program) (K : PySem.W.Frag) (c : Str) (fd : FuncData) : Bool :=
  (match fd.code with
    | .ref cda => (match K.lookup cda with
      | some ⟨_, _, .fields vs, _⟩ => (match (vs.toList[2]? : Option Value) with
        | some (Value.str file _) => (P.main.file : Str) == file
        | _ => false)
      | _ => false)
    | _ => false) &&
  ((match fd.closure with
    | [(_, cc)] => (match K.lookup cc with
      | some ⟨_, _, .cell (some (.ref D)), _⟩ => decide (D = He.ga K c)
      | _ => false)
    | _ => false) &&
  ((match (fd.params.posonlyargs ++ fd.params.args).head? with
    | some a => decide (a.arg = "self")
    | none => false) &&
  ((PySem.W.clsIn K (He.ga K c)).isSome && (decide (PySem.W.mroIn K (He.ga K c) (.ref (He.ga K c)) = some true) && (He.eqO (PySem.W.nsIn K cStatics "thirdparty.any") (some none) && !(P.main.scope.names.lookup ("super" : Str)).isSome)))))
def DefS.ok (P : Program) (K : PySem.W.Frag) (d : DefS) : Bool := PySem.W.keepIn K (.ref (d.at_ K)) && (match K.lookup (d.at_ K) with
  | some ⟨_, _, .func fd, _⟩ => PySem.W.codeIn K fd.code d.qual && (He.dflB K fd.defaults [] && (He.kwdB K fd.kwdefaults (d.kws K) && supB P K d.c fd))
  | _ => false)
end Vl
set_option Elab.async false
set_option linter.all false
set_option maxRecDepth 100000
set_option maxHeartbeats 4000000
namespace Vl
open PySem PySem.Spec PyProof.Rows L2 My
section
variable {X : Cx} {pins : List (Addr × Obj)} {σ : L2.St} {H : Hp} {s : Shared} {a b : Addr} {us ms : List (Key × V)} {A : Around} {E : Value → Shared → Prop}
end
section
variable {X : Cx} {W : WX}
end
end Vl
set_option Elab.async false
set_option linter.all false
set_option maxRecDepth 100000
set_option maxHeartbeats 4000000
namespace Vl
open PySem PySem.Spec PyProof.Rows L2 My
inductive RcN where
  | ok (rs : List RV) (outs : List Sl) | exn (c : Str) (fs : List (Str × D)) | stuck
abbrev FmN := List Ar → RcN
inductive RsN where
  | rt (rs : List RV) (g : Sg) | exn (c : Str) (fs : List (Str × D)) (g : Sg) | stuck
abbrev FsN := Sg → RsN
def RemSN (K : PySem.W.Frag) (W : WX) (c0 : Cfg) (r : RsN) (D : Ends) : Prop := match r with
  | .rt rs g => ∀ I σ H p ws, Ok K ⟨I, σ, H, g⟩ → Go c0 ⟨I, σ, H, g⟩ → H p = some (.lst ws) → Paired (RtR K c0 ⟨I, σ, H, g⟩) ws rs → Apt ws rs → D.rt (.ref p) H
  | .exn x fs g => ∀ I σ H e, Ok K ⟨I, σ, H, g⟩ → Go c0 ⟨I, σ, H, g⟩ → XdAt K c0 ⟨I, σ, H, g⟩ e fs → W (.ref (He.ga K x)) (some e) σ H
  | .stuck => False
theorem RemSN.go {K : PySem.W.Frag} {W : WX} {c0 c1 : Cfg} {r : RsN} {D : Ends} (x : Go c0 c1) (h : RemSN K W c0 r D) : RemSN K W c1 r D := by
  cases r with
  | rt r g => exact fun I σ H p ws o y hp rv ap => h I σ H p ws o (x.trans y) hp (L2.Paired.mapP rv fun v r q => RtR.go x q) ap
  | exn c fs g => exact fun I σ H e o y rv => h I σ H e o (x.trans y) (rv.go x)
  | stuck => exact h
section
variable {X : Cx} {W : WX} {st : Stmt} {rest : List Stmt} {f : Fs} {k : FsN} {es : List Expr} {fs : List Ft} {pos pos' : Pos}
end
section
variable {P : Program} {w : World} {K : PySem.W.Frag} {mg : Str → Option Value} {base : Heap}
end
section
variable {X : Cx} {W : WX} {k j : Nat} {x : Str} {m : FmN} {p pos spos tpos : Pos} {kt : Nat} {e : Expr} {es ts : List Expr} {fs : List Ft} {is : List Nat}
end
end Vl
set_option Elab.async false
set_option linter.all false
set_option maxRecDepth 100000
set_option maxHeartbeats 4000000
namespace Vl
open PySem PySem.Spec PyProof.Rows L2 My
section
variable {X : Cx} {W : WX} {e : Expr} {fe : Ft} {pos : Pos} {j : Nat} {ms : List (Str × Bool × Fm)} {ns : List Str}
end
end Vl
set_option Elab.async false
set_option linter.all false
set_option maxRecDepth 100000
set_option maxHeartbeats 4000000
namespace Vl
open PySem PySem.Spec PyProof.Rows L2 My
section
variable {X : Cx} {W : WX} {k j : Nat} {x : Str} {p pos : Pos} {kws : List Keyword} {ks : List Str} {gD : List D → List D → List D} {m : Fm} {fk : List Ft} {idx : List Nat} {cs : List D}
end
end Vl
set_option Elab.async false
set_option linter.all false
set_option maxRecDepth 100000
set_option maxHeartbeats 4000000
namespace Vl
open PySem PySem.Spec PyProof.Rows L2 My
section
variable {X : Cx} {W : WX}
end
end Vl
set_option Elab.async false
set_option linter.all false
set_option maxRecDepth 100000
set_option maxHeartbeats 4000000
namespace Vl
open PySem PySem.Spec PyProof.Rows L2 My
section
variable {X : Cx}
end
structure CellAt (K : PySem.W.Frag) (c : Cfg) (a : Addr) (ds : List D) : Prop where
  ow : OwnAt K c.I c.H a (.lst ds)
  fr : c.I a = none
  no : ¬ c.Own a
structure Cells (K : PySem.W.Frag) (c : Cfg) (r : List (Addr × List D)) : Prop where
  at_ : ∀ a ds, (a, ds) ∈ r → CellAt K c a ds
  nd : (r.map (·.1)).Nodup
theorem CellAt.go {K : PySem.W.Frag} {c c' : Cfg} {a : Addr} {ds : List D} (h : CellAt K c a ds) (g : Go c c') : CellAt K c' a ds := by
  obtain ⟨vs, e, r⟩ := h.ow
  have e' := g.keep a _ e h.no NTb.lst
  refine ⟨⟨vs, e', Reps.mono g.sub r⟩, ?_, fun q => ?_⟩
  · by_cases z : c'.I a = none
    · exact z
    · rcases g.grow a h.fr z with y | y
      · exact absurd y h.no
      · rw [e] at y; cases y
  · rcases g.own a q with y | y
    · exact h.no y
    · rw [e] at y; cases y
theorem Cells.go {K : PySem.W.Frag} {c c' : Cfg} {r : List (Addr × List D)} (h : Cells K c r) (g : Go c c') : Cells K c' r := ⟨fun a ds m => (h.at_ a ds m).go g, h.nd⟩
end Vl
set_option Elab.async false
set_option linter.all false
set_option maxRecDepth 100000
set_option maxHeartbeats 4000000
namespace Vl
open PySem PySem.Spec PyProof.Rows L2 My
section
variable {X : Cx} {W : WX} {o e f : Expr} {apos cpos : Pos} {td ty tx : TE} {d : Addr} {es : Array DictEntry} {n : Nat}
end
end Vl
set_option Elab.async false
set_option linter.all false
set_option maxRecDepth 100000
set_option maxHeartbeats 4000000
namespace Vl
open PySem PySem.Spec PyProof.Rows L2 My
abbrev Cl := List (Addr × List D)
structure GoC (c : Cfg) (r : Cl) (c' : Cfg) (r' : Cl) : Prop where
  sub : Le c.I c'.I
  keep : ∀ a o, c.H a = some o → ¬ c.Own a → a ∉ r.map (·.1) → NTb o → c'.H a = some o
  dom : ∀ a, c'.H a = none → c.H a = none
  grow : ∀ a, c.I a = none → c'.I a ≠ none → c.Own a ∨ a ∈ r.map (·.1) ∨ c.H a = none
  own : ∀ a, c'.Own a → c.Own a ∨ c.H a = none
  ownf : ∀ a, c'.OwnF a → c.OwnF a ∨ c.H a = none
  cel : ∀ a ∈ r'.map (·.1), a ∈ r.map (·.1) ∨ c.H a = none
  tag : ∀ (i : Nat) (s' : Sl), c'.g[i]? = some s' → s'.tag = true → (∃ s, c.g[i]? = some s ∧ s.tag = true) ∧ c'.σ[i]? = c.σ[i]?
theorem GoC.of {c c' : Cfg} (r : Cl) (x : Go c c') : GoC c r c' r := ⟨x.sub, fun a o h n _ t => x.keep a o h n t, x.dom, fun a h h' => (x.grow a h h').imp id .inr, x.own, x.ownf, fun a h => .inl h, x.tag⟩
theorem GoC.trans {c c1 c2 : Cfg} {r r1 r2 : Cl} (x : GoC c r c1 r1) (y : GoC c1 r1 c2 r2) : GoC c r c2 r2 where
  sub := x.sub.trans y.sub
  keep := fun a o h n m t => y.keep a o (x.keep a o h n m t) (fun q => (x.own a q).elim n fun z => by rw [h] at z; cases z) (fun q => (x.cel a q).elim m fun z => by rw [h] at z; cases z) t
  dom := fun a h => x.dom a (y.dom a h)
  grow := fun a h h' => by
    by_cases z : c1.I a = none
    · rcases y.grow a z h' with w | w | w
      · exact (x.own a w).imp id .inr
      · exact .inr (x.cel a w)
      · exact .inr (.inr (x.dom a w))
    · exact x.grow a h z
  own := fun a h => (y.own a h).elim (x.own a) fun z => .inr (x.dom a z)
  ownf := fun a h => (y.ownf a h).elim (x.ownf a) fun z => .inr (x.dom a z)
  cel := fun a h => (y.cel a h).elim (x.cel a) fun z => .inr (x.dom a z)
  tag := fun i s' h t => by
    obtain ⟨⟨s, h1, h2⟩, e⟩ := y.tag i s' h t
    obtain ⟨h3, e'⟩ := x.tag i s h1 h2
    exact ⟨h3, e.trans e'⟩
theorem XdAt.goC {K : PySem.W.Frag} {c0 c1 c2 : Cfg} {r0 r1 : Cl} {e : Addr} {fs : List (Str × D)} (x : GoC c0 r0 c1 r1) (h : XdAt K c1 c2 e fs) : XdAt K c0 c2 e fs := by
  obtain ⟨xs, h1, h2, h3, h4, h5⟩ := h
  exact ⟨xs, h1, h2, h3, h4, x.dom e h5⟩
theorem RtR.goC {K : PySem.W.Frag} {c0 c1 c2 : Cfg} {r0 r1 : Cl} {v : V} {r : RV} (x : GoC c0 r0 c1 r1) (h : RtR K c1 c2 v r) : RtR K c0 c2 v r := by
  cases r with
  | val d => exact h
  | at_ i => exact h
  | fr d =>
    obtain ⟨a, e, o, n, w, z⟩ := h
    exact ⟨a, e, o, n, w, z.elim (fun z => x.ownf a z) fun z => .inr (x.dom a z)⟩
structure EC where
  nx : Sg → Cl → Prop := fun _ _ => False
  bk : Sg → Cl → Prop := fun _ _ => False
  ct : Sg → Cl → Prop := fun _ _ => False
  rt : RV → Sg → Cl → Prop := fun _ _ _ => False
  exn : Str → List (Str × D) → Prop := fun _ _ => False
structure BackC (K : PySem.W.Frag) (W : WX) (c0 : Cfg) (r0 : Cl) (E : EC) (D : Ends) : Prop where
  nx : ∀ I σ H g r, Ok K ⟨I, σ, H, g⟩ → Cells K ⟨I, σ, H, g⟩ r → GoC c0 r0 ⟨I, σ, H, g⟩ r → E.nx g r → D.nx σ H
  bk : ∀ I σ H g r, Ok K ⟨I, σ, H, g⟩ → Cells K ⟨I, σ, H, g⟩ r → GoC c0 r0 ⟨I, σ, H, g⟩ r → E.bk g r → D.bk σ H
  ct : ∀ I σ H g r, Ok K ⟨I, σ, H, g⟩ → Cells K ⟨I, σ, H, g⟩ r → GoC c0 r0 ⟨I, σ, H, g⟩ r → E.ct g r → D.ct σ H
  rt : ∀ I σ H v x g r, Ok K ⟨I, σ, H, g⟩ → Cells K ⟨I, σ, H, g⟩ r → GoC c0 r0 ⟨I, σ, H, g⟩ r → RtR K c0 ⟨I, σ, H, g⟩ v x → E.rt x g r → D.rt v H
  exn : ∀ I σ H e c fs g r, Ok K ⟨I, σ, H, g⟩ → Cells K ⟨I, σ, H, g⟩ r → GoC c0 r0 ⟨I, σ, H, g⟩ r → XdAt K c0 ⟨I, σ, H, g⟩ e fs → E.exn c fs → W (.ref (He.ga K c)) (some e) σ H
theorem BackC.go {K : PySem.W.Frag} {W : WX} {c0 c1 : Cfg} {r0 r1 : Cl} {E : EC} {D : Ends} (x : GoC c0 r0 c1 r1) (b : BackC K W c0 r0 E D) : BackC K W c1 r1 E D where
  nx := fun I σ H g r o c y h => b.nx I σ H g r o c (x.trans y) h
  bk := fun I σ H g r o c y h => b.bk I σ H g r o c (x.trans y) h
  ct := fun I σ H g r o c y h => b.ct I σ H g r o c (x.trans y) h
  rt := fun I σ H v z g r o c y rv h => b.rt I σ H v z g r o c (x.trans y) (rv.goC x) h
  exn := fun I σ H e k fs g r o c y xd h => b.exn I σ H e k fs g r o c (x.trans y) (xd.goC x) h
abbrev TC := EC → Sg → Cl → Prop
def rdC (K : PySem.W.Frag) (W : WX) (T : TC) : TS := fun D σ H => ∃ I g r E, Ok K ⟨I, σ, H, g⟩ ∧ Cells K ⟨I, σ, H, g⟩ r ∧ T E g r ∧ BackC K W ⟨I, σ, H, g⟩ r E D
structure VC (X : Cx) (W : WX) (st : Stmt) (T : TC) : Prop where
  ps : PS X st (rdC X.K W T)
structure VCs (X : Cx) (W : WX) (st : List Stmt) (T : TC) : Prop where
  pss : PSs X st (rdC X.K W T)
def outC' (E : EC) (x : Rs) (r : Cl) : Prop := match x with
  | .nx g => E.nx g r
  | .bk g => E.bk g r
  | .ct g => E.ct g r
  | .rt x g => E.rt x g r
  | .exn c fs _ => E.exn c fs
  | .stuck => False
def liftC (f : Fs) : TC := fun E g r => outC' E (f g) r
theorem outC_rem {K : PySem.W.Frag} {W : WX} {c0 : Cfg} {r : Cl} {x : Rs} {E : EC} {D : Ends} (hc : Cells K c0 r) (h : outC' E x r) (b : BackC K W c0 r E D) : RemS K W c0 x D := by
  cases x with
  | nx g => exact fun I σ H o y => b.nx I σ H g r o (hc.go y) (.of r y) h
  | bk g => exact fun I σ H o y => b.bk I σ H g r o (hc.go y) (.of r y) h
  | ct g => exact fun I σ H o y => b.ct I σ H g r o (hc.go y) (.of r y) h
  | rt x g => exact fun I σ H v o y rv => b.rt I σ H v x g r o (hc.go y) (.of r y) rv h
  | exn c fs g => exact fun I σ H e o y xd => b.exn I σ H e c fs g r o (hc.go y) (.of r y) xd h
  | stuck => exact h
def seqC (T T' : TC) : TC := fun E g r => T { E with nx := T' E } g r
section
variable {X : Cx} {W : WX} {st : Stmt} {rest : List Stmt} {f : Fs} {T T' : TC} {pos : Pos}
theorem VS.cells (h : VS X W st f) : VC X W st (liftC f) := ⟨ps_imp' h.ps fun D σ H ⟨I, g, r, E, o, c, t, b⟩ => ⟨I, g, o, outC_rem c t b⟩⟩
theorem VSs.cells (h : VSs X W rest f) : VCs X W rest (liftC f) := ⟨pss_imp h.pss fun D σ H ⟨I, g, r, E, o, c, t, b⟩ => ⟨I, g, o, outC_rem c t b⟩⟩
structure EC.Le (E E' : EC) : Prop where
  nx : ∀ g r, E.nx g r → E'.nx g r
  bk : ∀ g r, E.bk g r → E'.bk g r
  ct : ∀ g r, E.ct g r → E'.ct g r
  rt : ∀ x g r, E.rt x g r → E'.rt x g r
  exn : ∀ c fs, E.exn c fs → E'.exn c fs
def iteC (t : Fb) (T T' : TC) : TC := fun E g r => match t g with
  | .ok b g1 => if b = true then T E g1 r else T' E g1 r
  | .exn c fs _ => E.exn c fs
  | .stuck => False
def ItOkW (K : PySem.W.Frag) (c1 : Cfg) (J : It) (ds : List D) : Prop := ∀ c2 : Cfg, Le c1.I c2.I → Ok K c2 → ∀ n : Nat,
  (∀ d, ds[n]? = some d → J.go n c2.H ∧ ∀ x H', J.yld n c2.H x H' → ∃ I', Ok K ⟨I', c2.σ, H', c2.g⟩ ∧ Go c2 ⟨I', c2.σ, H', c2.g⟩ ∧ Rep K I' x d) ∧ (ds.length ≤ n → J.stop n c2.H)
def RemIW (K : PySem.W.Frag) (W : WX) (c0 : Cfg) (r : Res (List D)) (R : It → Hp → Prop) : Prop := match r with
  | .ok ds g => ∀ I H J, Ok K ⟨I, c0.σ, H, g⟩ → Go c0 ⟨I, c0.σ, H, g⟩ → ItOkW K ⟨I, c0.σ, H, g⟩ J ds → R J H
  | .exn x fs g => ∀ I H e, Ok K ⟨I, c0.σ, H, g⟩ → Go c0 ⟨I, c0.σ, H, g⟩ → XdAt K c0 ⟨I, c0.σ, H, g⟩ e fs → W (.ref (He.ga K x)) (some e) c0.σ H
  | .stuck => False
def rdIW (K : PySem.W.Frag) (W : WX) (f : Fi) : TI := fun σ H R => ∃ I g, Ok K ⟨I, σ, H, g⟩ ∧ RemIW K W ⟨I, σ, H, g⟩ (f g) R
structure VIW (X : Cx) (W : WX) (tg iter : Expr) (f : Fi) : Prop where
  pi : PI X tg iter (rdIW X.K W f)
def loopC (t : Tg) (T : TC) (E : EC) : List D → Sg → Cl → Prop
  | [], g, r => E.nx g r
  | d :: ds, g, r => match tgF t d g with
    | some g1 => T { nx := loopC t T E ds, bk := E.nx, ct := loopC t T E ds, rt := E.rt, exn := E.exn } g1 r
    | none => False
def forC (fi : Fi) (t : Tg) (T : TC) : TC := fun E g r => match fi g with
  | .ok ds g1 => loopC t T E ds g1 r
  | .exn c fs _ => E.exn c fs
  | .stuck => False
def putC (b : Addr) (ds : List D) (r : Cl) : Cl := r.map fun p => if p.1 = b then (b, ds) else p
end
end Vl
set_option Elab.async false
set_option linter.all false
set_option maxRecDepth 100000
set_option maxHeartbeats 4000000
namespace Vl
open PySem PySem.Spec PyProof.Rows L2 My
def fill1 (r : Cl) : D → D
  | .raw (.ref b) => (match r.find? (fun p => decide (p.1 = b)) with | some p => .lst p.2 | none => .raw (.ref b))
  | d => d
def fill (r : Cl) : D → D
  | .dct kvs => .dct (kvs.map fun p => (p.1, fill1 r p.2))
  | .ins c fs => .ins c (fs.map fun p => (p.1, fill1 r p.2))
  | d => d
def lentI (a : Addr) (r : Cl) (I H : Hp) : Hp := fun x => if x = a ∨ x ∈ r.map (·.1) then H x else I x
theorem lentI_in {a : Addr} {r : Cl} {I H : Hp} {x : Addr} (h : x = a ∨ x ∈ r.map (·.1)) : lentI a r I H x = H x := if_pos h
theorem lentI_out {a : Addr} {r : Cl} {I H : Hp} {x : Addr} (h : ¬ (x = a ∨ x ∈ r.map (·.1))) : lentI a r I H x = I x := if_neg h
section
variable {K : PySem.W.Frag} {I H : Hp} {σ : L2.St} {g : Sg} {r : Cl} {i : Nat} {t : Bool} {d : D} {a : Addr}
theorem lent_le (n : I a = none) (c : Cells K ⟨I, σ, H, g⟩ r) : Le I (lentI a r I H) := fun x o e => by
  rw [lentI_out]
  · exact e
  · rintro (rfl | h)
    · exact no_some n e
    · obtain ⟨p, hp, rfl⟩ := List.mem_map.mp h
      exact no_some (c.at_ p.1 p.2 hp).fr e
theorem fill1_rep {v : V} {d : D} (n : I a = none) (c : Cells K ⟨I, σ, H, g⟩ r) (h : Rep K I v d) : Rep K (lentI a r I H) v (fill1 r d) := by
  have le := lent_le n c
  unfold fill1
  split
  · rename_i b
    cases h
    split
    · rename_i p e
      have hp := List.mem_of_find?_eq_some e
      have hb : p.1 = b := by simpa using List.find?_some e
      obtain ⟨us, hu, ru⟩ := (c.at_ p.1 p.2 hp).ow
      subst hb
      exact .lst ((lentI_in (.inr (List.mem_map.mpr ⟨p, hp, rfl⟩))).trans hu) (ru.mono le)
    · exact .raw _
  · exact h.mono le
theorem fillK_rep (n : I a = none) (c : Cells K ⟨I, σ, H, g⟩ r) : ∀ {xs : List (Key × V)} {kvs : List (D × D)}, RepK K I xs kvs → RepK K (lentI a r I H) xs (kvs.map fun p => (p.1, fill1 r p.2))
  | _, _, .nil => .nil
  | _, _, .cons h t => .cons (fill1_rep n c h) (fillK_rep n c t)
theorem fillF_rep (n : I a = none) (c : Cells K ⟨I, σ, H, g⟩ r) : ∀ {xs : List (Str × V)} {kvs : List (Str × D)}, RepF K I xs kvs → RepF K (lentI a r I H) xs (kvs.map fun p => (p.1, fill1 r p.2))
  | _, _, .nil => .nil
  | _, _, .cons h t => .cons (fill1_rep n c h) (fillF_rep n c t)
theorem fill_rep (n : I a = none) (c : Cells K ⟨I, σ, H, g⟩ r) (h : OwnAt K I H a d) : Rep K (lentI a r I H) (.ref a) (fill r d) := by
  have le := lent_le n c
  have ea : lentI a r I H a = H a := lentI_in (.inl rfl)
  cases d <;> first | exact (False.elim h) | skip
  · exact h.rep le ea
  · rename_i kvs
    obtain ⟨xs, q, rk⟩ := h
    exact .dct (ea.trans q) (fillK_rep n c rk)
  · rename_i cn fs
    obtain ⟨dx, xs, q, rk⟩ := h
    exact .ins (ea.trans q) (fillF_rep n c rk)
  · exact h.rep le ea
def lendG (r : Cl) (g : Sg) : Sg := g.map fun s => match s with
  | .own _ d => .val true (fill r d)
  | .val _ d => .val true d
  | .un => .un
def frzG (r : Cl) (g : Sg) : Sg := g.map fun s => match s with
  | .own t d => .val t (fill r d)
  | s => s
def Sole (g : Sg) (i : Nat) : Prop := ∃ t d, g[i]? = some (.own t d) ∧ (∀ c ds, d ≠ .slo c ds) ∧ ∀ (j : Nat) (t' : Bool) (d' : D), g[j]? = some (.own t' d') → j = i
theorem lent_ok (f : Sl → Sl) (hv : ∀ t d, f (.val t d) = .val (f (.val t d)).tag d) (ho : ∀ t d, f (.own t d) = .val (f (.own t d)).tag (fill r d)) (hu : f .un = .un)
    (o : Ok K ⟨I, σ, H, g⟩) (c : Cells K ⟨I, σ, H, g⟩ r) (hs : ∀ (j : Nat) (t' : Bool) (d' : D), g[j]? = some (.own t' d') → j = i) (hi : g[i]? = some (.own t d)) (ea : σ[i]? = some (some (.ref a))) :
    Ok K ⟨lentI a r I H, σ, H, g.map f⟩ ∧ ∀ x, ¬ Cfg.Own ⟨lentI a r I H, σ, H, g.map f⟩ x := by
  obtain ⟨a', ea', ow, na⟩ := o.own_at hi
  rw [ea] at ea'; cases ea'
  have le := lent_le na c
  have noOwn : ∀ (j : Nat) (t1 : Bool) (d1 : D), (g.map f)[j]? ≠ some (.own t1 d1) := fun j t1 d1 e => by
    rw [List.getElem?_map, Option.map_eq_some_iff] at e
    obtain ⟨s, _, e⟩ := e
    cases s with
    | un => rw [hu] at e; cases e
    | val t2 d2 => rw [hv] at e; cases e
    | own t2 d2 => rw [ho] at e; cases e
  refine ⟨⟨fun x u e => ?_, fun j s e => ?_, fun j k t1 t2 d1 d2 e => (noOwn j t1 d1 e).elim, ⟨fun x ps e => ?_⟩, o.tab.mono le fun _ _ e => e⟩, fun x ⟨j, t1, d1, e, _⟩ => noOwn j t1 d1 e⟩
  · have e : lentI a r I H x = some u := e
    by_cases z : x = a ∨ x ∈ r.map (·.1)
    · rwa [lentI_in z] at e
    · rw [lentI_out z] at e; exact o.sub x u e
  · rw [List.getElem?_map, Option.map_eq_some_iff] at e
    obtain ⟨s0, e0, rfl⟩ := e
    obtain ⟨v, hv1, hv2⟩ := o.sl j s0 e0
    refine ⟨v, hv1, ?_⟩
    cases s0 with
    | un => rw [hu]; trivial
    | val t2 d2 =>
      obtain ⟨w, e1, e2⟩ := hv2
      rw [hv]
      exact ⟨w, e1, e2.mono le⟩
    | own t2 d2 =>
      obtain rfl : j = i := hs j t2 d2 e0
      rw [e0] at hi; cases hi
      have hv1 : σ[j]? = some v := hv1
      rw [ea] at hv1; cases hv1
      rw [ho]
      exact ⟨_, rfl, fill_rep na c ow⟩
  · have e : lentI a r I H x = some (.tbl ps) := e
    by_cases z : x = a ∨ x ∈ r.map (·.1)
    · rcases z with rfl | z
      · have e' := (lentI_in (I := I) (H := H) (r := r) (.inl rfl)).symm.trans e
        exact (ow.ntb e').e ps rfl
      · rw [lentI_in (.inr z)] at e
        obtain ⟨p, hp, rfl⟩ := List.mem_map.mp z
        obtain ⟨us, h2, _⟩ := (c.at_ p.1 p.2 hp).ow
        have h2 : H p.1 = some (.lst us) := h2
        rw [h2] at e; cases e
    · rw [lentI_out z] at e; exact o.nt.e x ps e
end
def frzC (i : Nat) (T : TC) : TC := fun E g r => Sole g i ∧ T E (frzG r g) []
theorem frz_rd {K : PySem.W.Frag} {W : WX} {i : Nat} {T : TC} {D : Ends} {σ : L2.St} {H : Hp} (h : rdC K W (frzC i T) D σ H) : rdC K W T D σ H := by
  obtain ⟨I, g, r, E, o, c, ⟨⟨t, d, hi, nsl, hs⟩, hT⟩, b⟩ := h
  obtain ⟨a, ea, ow, na⟩ := o.own_at hi
  obtain ⟨o1, no1⟩ := lent_ok (fun s => match s with | .own t d => .val t (fill r d) | s => s) (fun _ _ => rfl) (fun _ _ => rfl) rfl o c hs hi ea
  have gc : GoC ⟨I, σ, H, g⟩ r ⟨lentI a r I H, σ, H, frzG r g⟩ [] := ⟨lent_le na c, fun _ _ e _ _ _ => e, fun _ e => e, fun x n z => ?_, fun x z => (no1 x z).elim, fun x ⟨j, d1, e, e2⟩ => (no1 x ⟨j, false, d1, e, e2⟩).elim, fun _ m => (nomatch m), fun j s e tg => ?_⟩
  · exact ⟨lentI a r I H, frzG r g, [], E, o1, ⟨fun _ _ m => (nomatch m), List.nodup_nil⟩, hT, b.go gc⟩
  · by_cases w : x = a ∨ x ∈ r.map (·.1)
    · rcases w with rfl | w
      · exact .inl ⟨i, t, d, hi, ea⟩
      · exact .inr (.inl w)
    · exact (z ((lentI_out w).trans n)).elim
  · have e : (frzG r g)[j]? = some s := e
    unfold frzG at e
    rw [List.getElem?_map, Option.map_eq_some_iff] at e
    obtain ⟨s0, e0, rfl⟩ := e
    refine ⟨⟨s0, e0, ?_⟩, rfl⟩
    cases s0 <;> exact tg
def flatE : D → Bool
  | .non => true
  | .bl _ => true
  | .int _ => true
  | .str _ => true
  | .raw _ => true
  | .cls _ => true
  | _ => false
def flatFs (fs : List (Str × D)) : Bool := fs.all fun p => flatE p.2
def backG (g g2 : Sg) : Sg := g2.mapIdx fun j s => match s with
  | .un => .un
  | .val false d => .val false d
  | _ => (g[j]?).getD .un
def flatL : Sl → Bool
  | .un => true
  | .val false d => flatE d
  | s => s.tag
def flatG (g2 : Sg) : Bool := g2.all flatL
def lendC (i : Nat) (f : Fs) : TC := fun E g r => Sole g i ∧ (match f (lendG r g) with
  | .nx g2 => flatG g2 = true ∧ E.nx (backG g g2) r
  | .exn c fs _ => flatFs fs = true ∧ E.exn c fs
  | _ => False)
theorem VC.frz {X : Cx} {W : WX} {st : Stmt} {T : TC} (i : Nat) (h : VC X W st T) : VC X W st (frzC i T) := ⟨ps_imp' h.ps fun D σ H k => frz_rd k⟩
theorem VCs.frz {X : Cx} {W : WX} {st : List Stmt} {T : TC} (i : Nat) (h : VCs X W st T) : VCs X W st (frzC i T) := ⟨pss_imp h.pss fun D σ H k => frz_rd k⟩
end Vl
set_option Elab.async false
set_option linter.all false
set_option maxRecDepth 100000
set_option maxHeartbeats 4000000
namespace Vl
open PySem PySem.Spec PyProof.Rows L2 My
section
variable {X : Cx} {W : WX}
theorem argsIW_rd {fs : List Ft} {k : List D → Option (List D)} {σ : L2.St} {H : Hp} {R : It → Hp → Prop} {P : List V → Hp → Prop} (h : rdIW X.K W (argsI k fs) σ H R)
    (hr : ∀ c vs ds r, Ok X.K c → Reps X.K c.I vs ds → k ds = some r → (∀ J, ItOkW X.K c J r → R J c.H) → P vs c.H) : rdA X.K W fs σ H P := by
  obtain ⟨I, g, o, r⟩ := h
  refine ⟨I, g, o, ?_⟩
  unfold argsI at r
  revert r
  generalize evA fs g = sr
  intro r
  cases sr with
  | stuck => exact r
  | exn c fs g => exact r
  | ok xs g0 =>
    intro I1 H1 vs o1 y1 rx
    have r : RemIW X.K W ⟨I, σ, H, g⟩ (match frzA xs g0 with
      | some (ds, g2) => (match k ds with | some r => .ok r g2 | none => .stuck)
      | none => .stuck) R := r
    cases e : frzA xs g0 with
    | none => rw [e] at r; exact r.elim
    | some p =>
      obtain ⟨ds, g1⟩ := p
      rw [e] at r
      obtain ⟨I2, o2, y2, rr⟩ := frzA_ok o1 rx e
      dsimp only at r
      cases e2 : k ds with
      | none => rw [e2] at r; exact r.elim
      | some l =>
        rw [e2] at r
        exact hr ⟨I2, σ, H1, g1⟩ vs ds l o2 rr e2 fun J hJ => r I2 H1 J o2 (y1.trans y2) hJ
end
end Vl
set_option Elab.async false
set_option linter.all false
set_option maxRecDepth 100000
set_option maxHeartbeats 4000000
namespace Vl
open PySem PySem.Spec PyProof.Rows L2 My
def fnC (k : Nat) (m : Fm) : Fm := fun as => if as.length = k then m as else .stuck
end Vl
set_option Elab.async false
set_option linter.all false
set_option maxRecDepth 100000
set_option maxHeartbeats 4000000
namespace Vl
open PySem PySem.Spec PyProof.Rows L2 My
section
variable {X : Cx} {W : WX}
end
end Vl
set_option Elab.async false
set_option linter.all false
set_option maxRecDepth 100000
set_option maxHeartbeats 4000000
namespace Vl
open PySem PySem.Spec PyProof.Rows L2 My
section
variable {X : Cx} {W : WX}
end
end Vl
set_option Elab.async false
set_option linter.all false
set_option maxRecDepth 100000
set_option maxHeartbeats 4000000
namespace Vl
open PySem PySem.Spec PyProof.Rows L2 My
section
variable {X : Cx} {e : Expr} {te : TE} {p apos cpos pos : Pos}
end
section
variable {X : Cx} {W : WX} {e : Expr} {p apos cpos pos : Pos}
end
end Vl
set_option Elab.async false
set_option linter.all false
set_option maxRecDepth 100000
set_option maxHeartbeats 4000000
namespace Vl
open PySem PySem.Spec PyProof.Rows L2 My
section
open PySem.SeqAt PySem.MeetsSeq PySem.MeetsSeq2 PySem.MeetsSeq3
end
section
variable {X : Cx} {W : WX}
end
end Vl
set_option Elab.async false
set_option linter.all false
set_option maxRecDepth 100000
set_option maxHeartbeats 4000000
namespace Vl
open PySem PySem.Spec PyProof.Rows L2 My
structure WldC (K : PySem.W.Frag) (I0 H0 : Hp) (vs : List V) (as : List Ar) (r : Cl) (I H : Hp) : Prop where
  le : Le I H
  sub : Le I0 I
  keep : ∀ a o, H0 a = some o → ¬ Mine vs as a → a ∉ r.map (·.1) → NTb o → H a = some o
  dom : ∀ a, H a = none → H0 a = none
  grow : ∀ a, I0 a = none → I a ≠ none → Mine vs as a ∨ a ∈ r.map (·.1) ∨ H0 a = none
  nt : NoTab I
  tab : TabsV K I H
def CellsF (K : PySem.W.Frag) (H0 : Hp) (r : Cl) (I H : Hp) (r' : Cl) : Prop := (∀ a ds, (a, ds) ∈ r' → OwnAt K I H a (.lst ds) ∧ I a = none ∧ (a ∈ r.map (·.1) ∨ H0 a = none)) ∧ (r'.map (·.1)).Nodup
structure EK where
  rt : RV → List Sl → Cl → Prop := fun _ _ _ => False
  exn : Str → List (Str × D) → Prop := fun _ _ => False
abbrev FC := List Ar → Cl → EK → Prop
def spC (K : PySem.W.Frag) (M : FC) : Sp := fun vs H Q E => ∃ I as r ek, Le I H ∧ (NoTab I ∧ TabsV K I H) ∧ Paired (ArR K I H) vs as ∧ Apart vs as ∧ (∀ a ds, (a, ds) ∈ r → OwnAt K I H a (.lst ds) ∧ I a = none ∧ ¬ Mine vs as a) ∧ (r.map (·.1)).Nodup ∧ M as r ek ∧
  (∀ x outs r' I' H' v, WldC K I H vs as r I' H' → (∀ (j : Nat) (d : D) (a : Addr), as[j]? = some (.own d) → vs[j]? = some (.ref a) → OutR K I' H' a outs[j]?) → RtC K H I' H' v x → CellsF K H r I' H' r' → ek.rt x outs r' → Q v H') ∧
  (∀ c fs I' H' e, WldC K I H vs as r I' H' → (∃ xs, H' e = some (.xd xs) ∧ RepF K I' xs fs) → H e = none → I' e = none → ek.exn c fs → E (.ref (He.ga K c)) (some e) H')
section
variable {X : Cx} {W : WX}
end
end Vl
set_option Elab.async false
set_option linter.all false
set_option maxRecDepth 100000
set_option maxHeartbeats 4000000
namespace Vl
open PySem PySem.Spec PyProof.Rows L2 My
theorem GoC.storeF {c0 : Cfg} {r r' : Cl} {I H : Hp} {σ : L2.St} {g : Sg} {i : Nat} {a : Addr} {d : D} (y : GoC c0 r ⟨I, σ, H, g⟩ r') (z : c0.H a = none) : GoC c0 r ⟨I, σ.set i (some (.ref a)), H, g.set i (.own false d)⟩ r' where
  sub := y.sub
  keep := y.keep
  dom := y.dom
  grow := y.grow
  cel := y.cel
  own := fun b ⟨j, t, d, h1, h2⟩ => by
    have h2 : (σ.set i (some (V.ref a)))[j]? = some (some (.ref b)) := h2
    rcases get_set_of h1 with ⟨rfl, q⟩ | ⟨nj, q⟩
    · rcases get_set_of h2 with ⟨_, q2⟩ | ⟨nj, _⟩
      · cases q2; exact .inr z
      · exact absurd rfl nj
    · exact y.own b ⟨j, t, d, q, by rw [← h2]; exact (List.getElem?_set_ne (fun z => nj z.symm)).symm⟩
  ownf := fun b ⟨j, d, h1, h2⟩ => by
    have h2 : (σ.set i (some (V.ref a)))[j]? = some (some (.ref b)) := h2
    rcases get_set_of h1 with ⟨rfl, q⟩ | ⟨nj, q⟩
    · rcases get_set_of h2 with ⟨_, q2⟩ | ⟨nj, _⟩
      · cases q2; exact .inr z
      · exact absurd rfl nj
    · exact y.ownf b ⟨j, d, q, by rw [← h2]; exact (List.getElem?_set_ne (fun z => nj z.symm)).symm⟩
  tag := fun j s' h t => by
    rcases get_set_of h with ⟨rfl, rfl⟩ | ⟨nj, q⟩
    · cases t
    · obtain ⟨h1, h2⟩ := y.tag j s' q t
      exact ⟨h1, (List.getElem?_set_ne (fun z => nj z.symm)).trans h2⟩
theorem GoC.store {c0 : Cfg} {r r' : Cl} {I H : Hp} {σ : L2.St} {g : Sg} {i : Nat} {v : V} {d : D} (y : GoC c0 r ⟨I, σ, H, g⟩ r') : GoC c0 r ⟨I, σ.set i (some v), H, g.set i (.val false d)⟩ r' := y.trans (.of r' Go.store)
def okRes : RV → Prop
  | .val _ => True
  | .fr (.ins _ _) => True
  | _ => False
def stK (i : Nat) (x : RV) (g : Sg) : Sg := match x with
  | .val d => g.set i (.val false d)
  | .fr d => g.set i (.own false d)
  | .at_ _ => g
structure MethKC (P : Program) (w : World) (K : PySem.W.Frag) (mg : Str → Option Value) (base : Heap) (j : Nat) (nm cls : Str) (M : FC) : Prop where
  ex : ∃ (g : Addr) (k : Nat), k ≤ j ∧ Callee P w K mg base k g (spC K M) ∧ Meth K (He.ga K cls) nm g ∧ Cls K (He.ga K cls)
def metC (i p : Nat) (nm cls : Str) (M : FC) (fs : List Ft) : TC := fun E g r => ∃ t fl rs as, g[p]? = some (.own t (.ins cls fl)) ∧ fl.lookup nm = none ∧ evA fs g = .ok rs g ∧ (ixs (.at_ p :: rs)).Nodup ∧ toArs g (.at_ p :: rs) = some as ∧
  M as r ⟨fun x outs r' => okRes x ∧ E.nx (stK i x (putOuts (.at_ p :: rs) outs g)) r', fun c fs => E.exn c fs⟩
section
variable {X : Cx} {W : WX}
end
end Vl
set_option Elab.async false
set_option linter.all false
set_option maxRecDepth 100000
set_option maxHeartbeats 4000000
namespace Vl
open PySem PySem.Spec PyProof.Rows L2 My
section
variable {X : Cx} {W : WX}
def newC (i : Nat) (f : Str) (ts : List (Str × Option Nat)) : TC := fun E g r => match g[i]? with
  | some (.own t (.ins c fs)) => ts.lookup c = some none ∧ fs.length < 1000 ∧ ∀ b : Addr, b ∉ r.map (·.1) → E.nx (g.set i (.own t (.ins c (putD f (.raw (.ref b)) fs)))) (r ++ [(b, [])])
  | _ => False
theorem itOkW_list {K : PySem.W.Frag} {c : Cfg} {a : Addr} {xs : List V} {ds : List D} (h : SqL K c.I a xs) (r : Reps K c.I xs ds) : ItOkW K c (Itl K a) ds := fun c2 y o n => by
  have h2 : SqL K c2.H a xs := o.sub.sqL (y.sqL h)
  refine ⟨fun d e => ?_, fun e => ⟨xs, h2, by rw [r.length]; exact e⟩⟩
  obtain ⟨v, hv, rv⟩ := r.get e
  refine ⟨⟨xs, v, h2, hv⟩, fun x H' ⟨eH, hx⟩ => ?_⟩
  subst eH
  have := hx xs h2
  rw [hv] at this
  cases this
  exact ⟨c2.I, o, Go.refl _, rv.mono y⟩
theorem RemIW.settled {K : PySem.W.Frag} {c0 : Cfg} {r : Res RV} {k : RV → Sg → Res (List D)} {R : It → Hp → Prop} (h : RemIW K W c0 ((Vl.settle r).bind k) R) : Rem K W (RvR K) c0 r fun v H1 => ∃ I1 g1 x, Ok K ⟨I1, c0.σ, H1, g1⟩ ∧ Go c0 ⟨I1, c0.σ, H1, g1⟩ ∧ (∃ c', RvR K c' ⟨I1, c0.σ, H1, g1⟩ v x ∧ ∀ d, x ≠ .fr d) ∧ RemIW K W c0 (k x g1) R := by
  have nf : ∀ x g', Vl.settle r = .ok x g' → ∀ d, x ≠ .fr d := fun x g' h => settle_nofr h
  refine Rem.settle ?_
  revert nf h
  generalize Vl.settle r = sr
  intro h nf
  cases sr with
  | ok x g => exact fun I H v o y rv => ⟨I, g, x, o, y, ⟨_, rv, nf x g rfl⟩, h⟩
  | exn c fs g => exact h
  | stuck => exact h
def frzJ (j : Nat) (T : TC) : TC := fun E g r => match g[j]? with
  | some (.own t d) => T E (g.set j (.val t d)) r
  | _ => T E g r
theorem frzJ_rd {K : PySem.W.Frag} {W : WX} {j : Nat} {T : TC} {D : Ends} {σ : L2.St} {H : Hp} (h : rdC K W (frzJ j T) D σ H) : rdC K W T D σ H := by
  obtain ⟨I, g, r, E, o, c, hT, b⟩ := h
  unfold frzJ at hT
  split at hT
  · rename_i t d q
    obtain ⟨a, u, e1, _, _, o', y', r'⟩ := o.frzSl q
    exact ⟨_, _, r, E, o', c.go y', hT, b.go (.of r y')⟩
  · exact ⟨I, g, r, E, o, c, hT, b⟩
theorem VC.frzJ {st : Stmt} {T : TC} (j : Nat) (h : VC X W st T) : VC X W st (Vl.frzJ j T) := ⟨ps_imp' h.ps fun D σ H q => frzJ_rd q⟩
end
theorem MethKC.up {P : Program} {w : World} {K : PySem.W.Frag} {mg : Str → Option Value} {base : Heap} {j j' : Nat} {nm cls : Str} {M : FC} (k : MethKC P w K mg base j nm cls M) (h : j ≤ j') : MethKC P w K mg base j' nm cls M := by
  obtain ⟨g, k', hk, r⟩ := k.ex
  exact ⟨g, k', Nat.le_trans hk h, r⟩
section
variable {P : Program} {w : World} {K : PySem.W.Frag} {mg : Str → Option Value} {base : Heap} {k : Nat} {f : Addr} {c : Str} {M : FC}
end
end Vl
set_option Elab.async false
set_option linter.all false
set_option maxRecDepth 100000
set_option maxHeartbeats 4000000
namespace Vl
open PySem PySem.Spec PyProof.Rows L2 My
def EC.and (E E' : EC) : EC where
  nx := fun g r => E.nx g r ∧ E'.nx g r
  bk := fun g r => E.bk g r ∧ E'.bk g r
  ct := fun g r => E.ct g r ∧ E'.ct g r
  rt := fun x g r => E.rt x g r ∧ E'.rt x g r
  exn := fun c fs => E.exn c fs ∧ E'.exn c fs
structure EC.Bot (E : EC) : Prop where
  nx : ∀ g r, ¬ E.nx g r
  bk : ∀ g r, ¬ E.bk g r
  ct : ∀ g r, ¬ E.ct g r
  rt : ∀ x g r, ¬ E.rt x g r
  exn : ∀ c fs, ¬ E.exn c fs
structure TcD (T : TC) : Prop where
  conj : ∀ E E' g r, T E g r → T E' g r → T (E.and E') g r
  bot : ∀ E g r, E.Bot → ¬ T E g r
  mono : ∀ E E' g r, E.Le E' → T E g r → T E' g r
def EK.and (E E' : EK) : EK := ⟨fun x o r => E.rt x o r ∧ E'.rt x o r, fun c fs => E.exn c fs ∧ E'.exn c fs⟩
structure EK.Bot (E : EK) : Prop where
  rt : ∀ x o r, ¬ E.rt x o r
  exn : ∀ c fs, ¬ E.exn c fs
structure EK.Le (E E' : EK) : Prop where
  rt : ∀ x o r, E.rt x o r → E'.rt x o r
  exn : ∀ c fs, E.exn c fs → E'.exn c fs
structure FcD (M : FC) : Prop where
  conj : ∀ E E' as r, M as r E → M as r E' → M as r (E.and E')
  bot : ∀ E as r, E.Bot → ¬ M as r E
  mono : ∀ E E' as r, E.Le E' → M as r E → M as r E'
theorem EC.Le.refl (E : EC) : E.Le E := ⟨fun _ _ h => h, fun _ _ h => h, fun _ _ h => h, fun _ _ _ h => h, fun _ _ h => h⟩
theorem tcd_nx : TcD (fun E g r => E.nx g r) := ⟨fun _ _ _ _ h h' => ⟨h, h'⟩, fun _ _ _ b h => b.nx _ _ h, fun _ _ _ _ l h => l.nx _ _ h⟩
theorem tcd_lift {f : Fs} : TcD (liftC f) := by
  refine ⟨fun E E' g r h h' => ?_, fun E g r b h => ?_, fun E E' g r l h => ?_⟩
  · unfold liftC at *
    cases e : f g <;> rw [e] at h h' <;> first | exact ⟨h, h'⟩ | exact h.elim
  · unfold liftC at h
    cases e : f g <;> rw [e] at h <;> first | exact b.nx _ _ h | exact b.bk _ _ h | exact b.ct _ _ h | exact b.rt _ _ _ h | exact b.exn _ _ h | exact h
  · unfold liftC at *
    cases e : f g <;> rw [e] at h <;> first | exact l.nx _ _ h | exact l.bk _ _ h | exact l.ct _ _ h | exact l.rt _ _ _ h | exact l.exn _ _ h | exact h
theorem tcd_seq {T T' : TC} (t : TcD T) (t' : TcD T') : TcD (seqC T T') := by
  refine ⟨fun E E' g r h h' => ?_, fun E g r b h => ?_, fun E E' g r l h => ?_⟩
  · have h : T { E with nx := T' E } g r := h
    have h' : T { E' with nx := T' E' } g r := h'
    show T { E.and E' with nx := T' (E.and E') } g r
    exact t.mono ({ E with nx := T' E }.and { E' with nx := T' E' }) _ g r ⟨fun g r (h : T' E g r ∧ T' E' g r) => t'.conj _ _ _ _ h.1 h.2, fun _ _ h => h, fun _ _ h => h, fun _ _ _ h => h, fun _ _ h => h⟩ (t.conj _ _ _ _ h h')
  · have h : T { E with nx := T' E } g r := h
    exact t.bot { E with nx := T' E } g r ⟨fun g r (h : T' E g r) => t'.bot _ _ _ b h, b.bk, b.ct, b.rt, b.exn⟩ h
  · have h : T { E with nx := T' E } g r := h
    show T { E' with nx := T' E' } g r
    exact t.mono { E with nx := T' E } { E' with nx := T' E' } g r ⟨fun g r (h : T' E g r) => t'.mono _ _ _ _ l h, l.bk, l.ct, l.rt, l.exn⟩ h
theorem tcd_ite {c : Fb} {T T' : TC} (t : TcD T) (t' : TcD T') : TcD (iteC c T T') := by
  refine ⟨fun E E' g r h h' => ?_, fun E g r b h => ?_, fun E E' g r l h => ?_⟩
  · unfold iteC at *
    cases e : c g with
    | ok b g1 =>
      rw [e] at h h'
      cases b
      · exact t'.conj _ _ _ _ h h'
      · exact t.conj _ _ _ _ h h'
    | exn x fs g1 => rw [e] at h h'; exact ⟨h, h'⟩
    | stuck => rw [e] at h; exact h
  · unfold iteC at h
    cases e : c g with
    | ok v g1 =>
      rw [e] at h
      cases v
      · exact t'.bot _ _ _ b h
      · exact t.bot _ _ _ b h
    | exn x fs g1 => rw [e] at h; exact b.exn _ _ h
    | stuck => rw [e] at h; exact h
  · unfold iteC at *
    cases e : c g with
    | ok v g1 =>
      rw [e] at h
      cases v
      · exact t'.mono _ _ _ _ l h
      · exact t.mono _ _ _ _ l h
    | exn x fs g1 => rw [e] at h; exact l.exn _ _ h
    | stuck => rw [e] at h; exact h
theorem tcd_loop {t : Tg} {T : TC} (d : TcD T) : ∀ ds : List D, TcD (fun E g r => loopC t T E ds g r)
  | [] => tcd_nx
  | x :: ds => by
    have ih := tcd_loop (t := t) d ds
    refine ⟨fun E E' g r h h' => ?_, fun E g r b h => ?_, fun E E' g r l h => ?_⟩
    · unfold loopC at h h' ⊢
      cases e : tgF t x g with
      | none => rw [e] at h; exact h
      | some g1 =>
        rw [e] at h h'
        let F (E : EC) : EC := { nx := loopC t T E ds, bk := E.nx, ct := loopC t T E ds, rt := E.rt, exn := E.exn }
        exact d.mono ((F E).and (F E')) (F (E.and E')) g1 r ⟨fun g r h => ih.conj E E' g r h.1 h.2, fun _ _ h => h, fun g r h => ih.conj E E' g r h.1 h.2, fun _ _ _ h => h, fun _ _ h => h⟩ (d.conj (F E) (F E') g1 r h h')
    · unfold loopC at h
      cases e : tgF t x g with
      | none => rw [e] at h; exact h
      | some g1 =>
        rw [e] at h
        let F (E : EC) : EC := { nx := loopC t T E ds, bk := E.nx, ct := loopC t T E ds, rt := E.rt, exn := E.exn }
        exact d.bot (F E) g1 r ⟨fun g r h => ih.bot E g r b h, b.nx, fun g r h => ih.bot E g r b h, b.rt, b.exn⟩ h
    · unfold loopC at h ⊢
      cases e : tgF t x g with
      | none => rw [e] at h; exact h
      | some g1 =>
        rw [e] at h
        let F (E : EC) : EC := { nx := loopC t T E ds, bk := E.nx, ct := loopC t T E ds, rt := E.rt, exn := E.exn }
        exact d.mono (F E) (F E') g1 r ⟨fun g r h => ih.mono E E' g r l h, l.nx, fun g r h => ih.mono E E' g r l h, l.rt, l.exn⟩ h
theorem tcd_for {fi : Fi} {t : Tg} {T : TC} (d : TcD T) : TcD (forC fi t T) := by
  refine ⟨fun E E' g r h h' => ?_, fun E g r b h => ?_, fun E E' g r l h => ?_⟩
  · unfold forC at *
    cases e : fi g with
    | ok ds g1 => rw [e] at h h'; exact (tcd_loop d ds).conj _ _ _ _ h h'
    | exn x fs g1 => rw [e] at h h'; exact ⟨h, h'⟩
    | stuck => rw [e] at h; exact h
  · unfold forC at h
    cases e : fi g with
    | ok ds g1 => rw [e] at h; exact (tcd_loop d ds).bot _ _ _ b h
    | exn x fs g1 => rw [e] at h; exact b.exn _ _ h
    | stuck => rw [e] at h; exact h
  · unfold forC at *
    cases e : fi g with
    | ok ds g1 => rw [e] at h; exact (tcd_loop d ds).mono _ _ _ _ l h
    | exn x fs g1 => rw [e] at h; exact l.exn _ _ h
    | stuck => rw [e] at h; exact h
theorem fresh_of (l : List Nat) : ∃ b, b ∉ l := ⟨l.sum + 1, fun h => by
  have : ∀ (l : List Nat) (x : Nat), x ∈ l → x ≤ l.sum := by
    intro l
    induction l with
    | nil => intro x h; cases h
    | cons a r ih =>
      intro x h
      rw [List.sum_cons]
      rcases List.mem_cons.mp h with rfl | h
      · omega
      · have := ih x h; omega
  have := this l _ h
  omega⟩
theorem tcd_new {i : Nat} {f : Str} {ts : List (Str × Option Nat)} : TcD (newC i f ts) := by
  refine ⟨fun E E' g r h h' => ?_, fun E g r b h => ?_, fun E E' g r l h => ?_⟩
  · unfold newC at *
    split at h
    · rename_i q
      rw [q] at h'
      exact ⟨h.1, h.2.1, fun b hb => ⟨h.2.2 b hb, h'.2.2 b hb⟩⟩
    · exact h.elim
  · unfold newC at h
    split at h
    · obtain ⟨a, ha⟩ := fresh_of (r.map (·.1))
      exact b.nx _ _ (h.2.2 a ha)
    · exact h
  · unfold newC at *
    split at h
    · exact ⟨h.1, h.2.1, fun b hb => l.nx _ _ (h.2.2 b hb)⟩
    · exact h
def appR (fo fe : Ft) (g : Sg) (r : Cl) : Option (Sg × Cl) := match fo g with
  | .ok (.val (.raw (.ref b))) g1 => (match evA [fe] g1 with
    | .ok xs g2 => (match frzA xs g2 with
      | some ([d], g3) => (match r.find? (fun p => decide (p.1 = b)) with
        | some p => if p.2.length < sizeLine then some (g3, putC b (p.2 ++ [d]) r) else none
        | none => none)
      | _ => none)
    | _ => none)
  | _ => none
def appD (fo fe : Ft) : TC := fun E g r => match appR fo fe g r with
  | some (g', r') => E.nx g' r'
  | none => False
theorem tcd_app {fo fe : Ft} : TcD (appD fo fe) := by
  refine ⟨fun E E' g r h h' => ?_, fun E g r b h => ?_, fun E E' g r l h => ?_⟩
  · unfold appD at *
    cases e : appR fo fe g r with
    | none => rw [e] at h; exact h.elim
    | some q => rw [e] at h h'; exact ⟨h, h'⟩
  · unfold appD at *
    cases e : appR fo fe g r with
    | none => rw [e] at h; exact h.elim
    | some q => rw [e] at h; exact b.nx _ _ h
  · unfold appD at *
    cases e : appR fo fe g r with
    | none => rw [e] at h; exact h.elim
    | some q => rw [e] at h; exact l.nx _ _ h
theorem tcd_lend {i : Nat} {f : Fs} : TcD (lendC i f) := by
  refine ⟨fun E E' g r h h' => ?_, fun E g r b h => ?_, fun E E' g r l h => ?_⟩
  · obtain ⟨s, h⟩ := h
    obtain ⟨_, h'⟩ := h'
    refine ⟨s, ?_⟩
    cases e : f (lendG r g) <;> rw [e] at h h' <;> first | exact ⟨h.1, h.2, h'.2⟩ | exact h.elim
  · obtain ⟨s, h⟩ := h
    cases e : f (lendG r g) <;> rw [e] at h
    · exact b.nx _ _ h.2
    · exact h
    · exact h
    · exact h
    · exact b.exn _ _ h.2
    · exact h
  · obtain ⟨s, h⟩ := h
    refine ⟨s, ?_⟩
    cases e : f (lendG r g) <;> rw [e] at h
    · exact ⟨h.1, l.nx _ _ h.2⟩
    · exact h
    · exact h
    · exact h
    · exact ⟨h.1, l.exn _ _ h.2⟩
    · exact h
theorem tcd_frz {i : Nat} {T : TC} (t : TcD T) : TcD (frzC i T) := ⟨fun _ _ _ _ h h' => ⟨h.1, t.conj _ _ _ _ h.2 h'.2⟩, fun _ _ _ b h => t.bot _ _ _ b h.2, fun _ _ _ _ l h => ⟨h.1, t.mono _ _ _ _ l h.2⟩⟩
theorem tcd_frzJ {j : Nat} {T : TC} (t : TcD T) : TcD (frzJ j T) := by
  have key : ∀ g : Sg, ∃ g', ∀ E r, frzJ j T E g r = T E g' r := fun g => by
    unfold frzJ
    cases e : g[j]? with
    | none => exact ⟨g, fun _ _ => rfl⟩
    | some s => cases s with
      | un => exact ⟨g, fun _ _ => rfl⟩
      | val t d => exact ⟨g, fun _ _ => rfl⟩
      | own t d => exact ⟨_, fun _ _ => rfl⟩
  refine ⟨fun E E' g r h h' => ?_, fun E g r b h => ?_, fun E E' g r l h => ?_⟩
  · obtain ⟨g', e⟩ := key g
    rw [e] at *
    exact t.conj _ _ _ _ h h'
  · obtain ⟨g', e⟩ := key g
    rw [e] at h
    exact t.bot _ _ _ b h
  · obtain ⟨g', e⟩ := key g
    rw [e] at *
    exact t.mono _ _ _ _ l h
theorem tcd_met {i p : Nat} {nm cls : Str} {M : FC} {fs : List Ft} (m : FcD M) : TcD (metC i p nm cls M fs) := by
  refine ⟨fun E E' g r h h' => ?_, fun E g r b h => ?_, fun E E' g r l h => ?_⟩
  · obtain ⟨t, fl, rs, as, e0, e1, e2, e3, e4, h⟩ := h
    obtain ⟨t', fl', rs', as', e0', e1', e2', _, e4', h'⟩ := h'
    rw [e2] at e2'; cases e2'
    rw [e4] at e4'; cases e4'
    refine ⟨t, fl, rs, as, e0, e1, e2, e3, e4, m.mono _ _ _ _ ?_ (m.conj _ _ _ _ h h')⟩
    exact ⟨fun x o r h => ⟨h.1.1, h.1.2, h.2.2⟩, fun _ _ h => h⟩
  · obtain ⟨t, fl, rs, as, e0, e1, e2, e3, e4, h⟩ := h
    refine m.bot _ _ _ ?_ h
    exact ⟨fun x o r h => b.nx _ _ h.2, b.exn⟩
  · obtain ⟨t, fl, rs, as, e0, e1, e2, e3, e4, h⟩ := h
    refine ⟨t, fl, rs, as, e0, e1, e2, e3, e4, m.mono _ _ _ _ ?_ h⟩
    exact ⟨fun x o r h => ⟨h.1, l.nx _ _ h.2⟩, l.exn⟩
section
variable {X : Cx} {W : WX} {st : Stmt} {T T' : TC}
theorem VC.mono (h : VC X W st T) (l : ∀ E g r, T' E g r → T E g r) : VC X W st T' := ⟨ps_imp' h.ps fun D σ H ⟨I, g, r, E, o, c, t, b⟩ => ⟨I, g, r, E, o, c, l E g r t, b⟩⟩
end
end Vl
set_option Elab.async false
set_option linter.all false
set_option maxRecDepth 100000
namespace Vl
open PySem PySem.Spec PyProof.Rows L2 My
section
variable {X : Cx} {W : WX}
end
end Vl
set_option Elab.async false
set_option linter.all false
set_option maxRecDepth 100000
namespace Vl
open PySem PySem.Spec PyProof.Rows L2 My
section
variable {prog : Program} {w : World} {A : Around} {R : GenEnd} {Y : Protocol} {n : Nat} {s₀ : Shared} {c : Code} {fs : List Frame} {s : Shared} {env : Env}
  {K : Flow → Sem PySem.Fin} {H : Value → Sem PySem.Fin} {gd : Bool → Bool} {lv : List Value → List Value}
abbrev noted1 (env : Env) (e : Value) : Sem PySem.Fin := (do noteFrame e env; theTreesLotGoes e : Sem Unit).bind fun _ => .raise e
end
theorem GC.more {X : Cx} {S : Addr} {ip ip' : List (Addr × Obj)} {A : Around} {c : Code} {fs : List Frame} {gd : Bool → Bool} (g : L2.GC X S ip A c fs gd) (h : ∀ p ∈ ip', p.1 ≠ S) : L2.GC X S ip' A c fs gd :=
  ⟨g.pn, h, g.apart, g.over, g.split, g.guard, g.gd⟩
end Vl
set_option Elab.async false
set_option linter.all false
set_option maxRecDepth 100000
namespace Vl
open PySem PySem.Spec PyProof.Rows L2 My
structure EG where
  nx : List D → Sg → Cl → Prop := fun _ _ _ => False
  bk : List D → Sg → Cl → Prop := fun _ _ _ => False
  ct : List D → Sg → Cl → Prop := fun _ _ _ => False
  rt : RV → List D → Sg → Cl → Prop := fun _ _ _ _ => False
  exn : Str → List (Str × D) → Prop := fun _ _ => False
def EG.at (E : EG) (ds : List D) : EC := { nx := E.nx ds, bk := E.bk ds, ct := E.ct ds, rt := fun x g r => E.rt x ds g r, exn := E.exn }
abbrev TGC := EG → List D → Sg → Cl → Prop
structure BackG (K : PySem.W.Frag) (W : WX) (c0 : Cfg) (r0 : Cl) (E : EG) (D : L2.GEnds) : Prop where
  nx : ∀ I σ H g r ys ds, Ok K ⟨I, σ, H, g⟩ → Cells K ⟨I, σ, H, g⟩ r → GoC c0 r0 ⟨I, σ, H, g⟩ r → Reps K I ys ds → E.nx ds g r → D.nx ys σ H
  bk : ∀ I σ H g r ys ds, Ok K ⟨I, σ, H, g⟩ → Cells K ⟨I, σ, H, g⟩ r → GoC c0 r0 ⟨I, σ, H, g⟩ r → Reps K I ys ds → E.bk ds g r → D.bk ys σ H
  ct : ∀ I σ H g r ys ds, Ok K ⟨I, σ, H, g⟩ → Cells K ⟨I, σ, H, g⟩ r → GoC c0 r0 ⟨I, σ, H, g⟩ r → Reps K I ys ds → E.ct ds g r → D.ct ys σ H
  rt : ∀ I σ H v x g r ys ds, Ok K ⟨I, σ, H, g⟩ → Cells K ⟨I, σ, H, g⟩ r → GoC c0 r0 ⟨I, σ, H, g⟩ r → RtR K c0 ⟨I, σ, H, g⟩ v x → Reps K I ys ds → E.rt x ds g r → D.rt ys v H
  exn : ∀ I σ H e c fs g r, Ok K ⟨I, σ, H, g⟩ → Cells K ⟨I, σ, H, g⟩ r → GoC c0 r0 ⟨I, σ, H, g⟩ r → XdAt K c0 ⟨I, σ, H, g⟩ e fs → E.exn c fs → W (.ref (He.ga K c)) (some e) σ H
theorem BackG.go {K : PySem.W.Frag} {W : WX} {c0 c1 : Cfg} {r0 r1 : Cl} {E : EG} {D : L2.GEnds} (x : GoC c0 r0 c1 r1) (b : BackG K W c0 r0 E D) : BackG K W c1 r1 E D where
  nx := fun I σ H g r ys ds o c y p h => b.nx I σ H g r ys ds o c (x.trans y) p h
  bk := fun I σ H g r ys ds o c y p h => b.bk I σ H g r ys ds o c (x.trans y) p h
  ct := fun I σ H g r ys ds o c y p h => b.ct I σ H g r ys ds o c (x.trans y) p h
  rt := fun I σ H v z g r ys ds o c y rv p h => b.rt I σ H v z g r ys ds o c (x.trans y) (rv.goC x) p h
  exn := fun I σ H e k fs g r o c y xd h => b.exn I σ H e k fs g r o c (x.trans y) (xd.goC x) h
theorem BackG.at {K : PySem.W.Frag} {W : WX} {c0 : Cfg} {r0 : Cl} {E : EG} {Q : L2.GEnds} {ys : List V} {ds : List D} (b : BackG K W c0 r0 E Q) (p : Reps K c0.I ys ds) : BackC K W c0 r0 (E.at ds) (Q.at ys) where
  nx := fun I σ H g r o c y h => b.nx I σ H g r ys ds o c y (p.mono y.sub) h
  bk := fun I σ H g r o c y h => b.bk I σ H g r ys ds o c y (p.mono y.sub) h
  ct := fun I σ H g r o c y h => b.ct I σ H g r ys ds o c y (p.mono y.sub) h
  rt := fun I σ H v x g r o c y rv h => b.rt I σ H v x g r ys ds o c y rv (p.mono y.sub) h
  exn := b.exn
def rdGC (K : PySem.W.Frag) (W : WX) (T : TGC) : L2.TGn := fun D ys σ H => ∃ I g r E ds, Ok K ⟨I, σ, H, g⟩ ∧ Cells K ⟨I, σ, H, g⟩ r ∧ Reps K I ys ds ∧ T E ds g r ∧ BackG K W ⟨I, σ, H, g⟩ r E D
structure VGC (X : Cx) (W : WX) (st : Stmt) (T : TGC) : Prop where
  gs : L2.GS X st (rdGC X.K W T)
structure VGCs (X : Cx) (W : WX) (st : List Stmt) (T : TGC) : Prop where
  gss : L2.GSs X st (rdGC X.K W T)
section
variable {X : Cx} {W : WX} {st : Stmt} {rest : List Stmt} {T T' : TC} {U U' : TGC} {pos : Pos}
theorem gs_imp {t t' : L2.TGn} (h : L2.GS X st t) (k : ∀ D ys σ H, t' D ys σ H → t D ys σ H) : L2.GS X st t' := ⟨fun A S ip R n ys s₀ c fs K J gd lv s σ H D g hn kk hI ht => h.run A S ip R n ys s₀ c fs K J gd lv s σ H D g hn kk hI (k D ys σ H ht)⟩
theorem gss_imp {t t' : L2.TGn} (h : L2.GSs X rest t) (k : ∀ D ys σ H, t' D ys σ H → t D ys σ H) : L2.GSs X rest t' := ⟨fun A S ip R n ys s₀ c fs K J gd lv s σ H D g hn kk hI ht => h.run A S ip R n ys s₀ c fs K J gd lv s σ H D g hn kk hI (k D ys σ H ht)⟩
def liftG (T : TC) : TGC := fun E ds g r => T (E.at ds) g r
theorem VC.gen (h : VC X W st T) : VGC X W st (liftG T) := ⟨gs_imp (L2.gs_ps h.ps) fun D ys σ H ⟨I, g, r, E, ds, o, c, p, t, b⟩ => ⟨I, g, r, E.at ds, o, c, t, b.at p⟩⟩
theorem VCs.gen (h : VCs X W rest T) : VGCs X W rest (liftG T) := ⟨gss_imp (L2.gss_pss h.pss) fun D ys σ H ⟨I, g, r, E, ds, o, c, p, t, b⟩ => ⟨I, g, r, E.at ds, o, c, t, b.at p⟩⟩
def seqG (U U' : TGC) : TGC := fun E ds g r => U { E with nx := U' E } ds g r
def loopG (t : Tg) (U : TGC) (E : EG) : List D → List D → Sg → Cl → Prop
  | [], ds, g, r => E.nx ds g r
  | x :: xs, ds, g, r => match tgF t x g with
    | some g1 => U { nx := loopG t U E xs, bk := E.nx, ct := loopG t U E xs, rt := E.rt, exn := E.exn } ds g1 r
    | none => False
def forG (fi : Fi) (t : Tg) (U : TGC) : TGC := fun E ds g r => match fi g with
  | .ok xs g1 => loopG t U E xs ds g1 r
  | .exn c fs _ => E.exn c fs
  | .stuck => False
end
section
variable {X : Cx} {W : WX}
end
end Vl
set_option Elab.async false
set_option linter.all false
set_option maxRecDepth 100000
namespace Vl
open PySem PySem.Spec PyProof.Rows L2 My
def EG.and (E E' : EG) : EG where
  nx := fun ds g r => E.nx ds g r ∧ E'.nx ds g r
  bk := fun ds g r => E.bk ds g r ∧ E'.bk ds g r
  ct := fun ds g r => E.ct ds g r ∧ E'.ct ds g r
  rt := fun x ds g r => E.rt x ds g r ∧ E'.rt x ds g r
  exn := fun c fs => E.exn c fs ∧ E'.exn c fs
structure EG.Bot (E : EG) : Prop where
  nx : ∀ ds g r, ¬ E.nx ds g r
  bk : ∀ ds g r, ¬ E.bk ds g r
  ct : ∀ ds g r, ¬ E.ct ds g r
  rt : ∀ x ds g r, ¬ E.rt x ds g r
  exn : ∀ c fs, ¬ E.exn c fs
structure EG.Le (E E' : EG) : Prop where
  nx : ∀ ds g r, E.nx ds g r → E'.nx ds g r
  bk : ∀ ds g r, E.bk ds g r → E'.bk ds g r
  ct : ∀ ds g r, E.ct ds g r → E'.ct ds g r
  rt : ∀ x ds g r, E.rt x ds g r → E'.rt x ds g r
  exn : ∀ c fs, E.exn c fs → E'.exn c fs
structure TgD (T : TGC) : Prop where
  conj : ∀ E E' ds g r, T E ds g r → T E' ds g r → T (E.and E') ds g r
  bot : ∀ E ds g r, E.Bot → ¬ T E ds g r
  mono : ∀ E E' ds g r, E.Le E' → T E ds g r → T E' ds g r
theorem tgd_nx : TgD (fun E ds g r => E.nx ds g r) := ⟨fun _ _ _ _ _ h h' => ⟨h, h'⟩, fun _ _ _ _ b h => b.nx _ _ _ h, fun _ _ _ _ _ l h => l.nx _ _ _ h⟩
theorem tgd_lift {T : TC} (t : TcD T) : TgD (liftG T) :=
  ⟨fun E E' ds g r h h' => t.mono _ _ _ _ ⟨fun _ _ h => h, fun _ _ h => h, fun _ _ h => h, fun _ _ _ h => h, fun _ _ h => h⟩ (t.conj (E.at ds) (E'.at ds) g r h h'),
   fun E ds g r b h => t.bot (E.at ds) g r ⟨fun g r => b.nx ds g r, fun g r => b.bk ds g r, fun g r => b.ct ds g r, fun x g r => b.rt x ds g r, b.exn⟩ h,
   fun E E' ds g r l h => t.mono (E.at ds) (E'.at ds) g r ⟨fun g r => l.nx ds g r, fun g r => l.bk ds g r, fun g r => l.ct ds g r, fun x g r => l.rt x ds g r, l.exn⟩ h⟩
theorem tgd_seq {U U' : TGC} (t : TgD U) (t' : TgD U') : TgD (seqG U U') := by
  refine ⟨fun E E' ds g r h h' => ?_, fun E ds g r b h => ?_, fun E E' ds g r l h => ?_⟩
  · exact t.mono ({ E with nx := U' E }.and { E' with nx := U' E' }) { E.and E' with nx := U' (E.and E') } ds g r ⟨fun ds g r (h : U' E ds g r ∧ U' E' ds g r) => t'.conj _ _ _ _ _ h.1 h.2, fun _ _ _ h => h, fun _ _ _ h => h, fun _ _ _ _ h => h, fun _ _ h => h⟩ (t.conj _ _ _ _ _ h h')
  · exact t.bot { E with nx := U' E } ds g r ⟨fun ds g r (h : U' E ds g r) => t'.bot _ _ _ _ b h, b.bk, b.ct, b.rt, b.exn⟩ h
  · exact t.mono { E with nx := U' E } { E' with nx := U' E' } ds g r ⟨fun ds g r (h : U' E ds g r) => t'.mono _ _ _ _ _ l h, l.bk, l.ct, l.rt, l.exn⟩ h
theorem tgd_loop {t : Tg} {U : TGC} (d : TgD U) : ∀ xs : List D, TgD (fun E ds g r => loopG t U E xs ds g r)
  | [] => tgd_nx
  | x :: xs => by
    have ih := tgd_loop (t := t) d xs
    refine ⟨fun E E' ds g r h h' => ?_, fun E ds g r b h => ?_, fun E E' ds g r l h => ?_⟩
    · unfold loopG at h h' ⊢
      cases e : tgF t x g with
      | none => rw [e] at h; exact h
      | some g1 =>
        rw [e] at h h'
        let F (E : EG) : EG := { nx := loopG t U E xs, bk := E.nx, ct := loopG t U E xs, rt := E.rt, exn := E.exn }
        exact d.mono ((F E).and (F E')) (F (E.and E')) ds g1 r ⟨fun ds g r h => ih.conj E E' ds g r h.1 h.2, fun _ _ _ h => h, fun ds g r h => ih.conj E E' ds g r h.1 h.2, fun _ _ _ _ h => h, fun _ _ h => h⟩ (d.conj (F E) (F E') ds g1 r h h')
    · unfold loopG at h
      cases e : tgF t x g with
      | none => rw [e] at h; exact h
      | some g1 =>
        rw [e] at h
        let F (E : EG) : EG := { nx := loopG t U E xs, bk := E.nx, ct := loopG t U E xs, rt := E.rt, exn := E.exn }
        exact d.bot (F E) ds g1 r ⟨fun ds g r h => ih.bot E ds g r b h, b.nx, fun ds g r h => ih.bot E ds g r b h, b.rt, b.exn⟩ h
    · unfold loopG at h ⊢
      cases e : tgF t x g with
      | none => rw [e] at h; exact h
      | some g1 =>
        rw [e] at h
        let F (E : EG) : EG := { nx := loopG t U E xs, bk := E.nx, ct := loopG t U E xs, rt := E.rt, exn := E.exn }
        exact d.mono (F E) (F E') ds g1 r ⟨fun ds g r h => ih.mono E E' ds g r l h, l.nx, fun ds g r h => ih.mono E E' ds g r l h, l.rt, l.exn⟩ h
theorem tgd_for {fi : Fi} {t : Tg} {U : TGC} (d : TgD U) : TgD (forG fi t U) := by
  refine ⟨fun E E' ds g r h h' => ?_, fun E ds g r b h => ?_, fun E E' ds g r l h => ?_⟩
  · unfold forG at *
    cases e : fi g with
    | ok xs g1 => rw [e] at h h'; exact (tgd_loop d xs).conj _ _ _ _ _ h h'
    | exn x fs g1 => rw [e] at h h'; exact ⟨h, h'⟩
    | stuck => rw [e] at h; exact h
  · unfold forG at h
    cases e : fi g with
    | ok xs g1 => rw [e] at h; exact (tgd_loop d xs).bot _ _ _ _ b h
    | exn x fs g1 => rw [e] at h; exact b.exn _ _ h
    | stuck => rw [e] at h; exact h
  · unfold forG at *
    cases e : fi g with
    | ok xs g1 => rw [e] at h; exact (tgd_loop d xs).mono _ _ _ _ _ l h
    | exn x fs g1 => rw [e] at h; exact l.exn _ _ h
    | stuck => rw [e] at h; exact h
def endG (k : Nat) (rc : Rc) : EG where
  nx := fun ds g _ => rc = .ok (.fr (.lst ds)) (g.take k)
  rt := fun x ds g _ => x = .val .non ∧ rc = .ok (.fr (.lst ds)) (g.take k)
noncomputable def hmG (k n : Nat) (U : TGC) : Fm := fun as => open Classical in if h : ∃ rc : Rc, rc ≠ .stuck ∧ U (endG k rc) [] (startG n as) [] then h.choose else .stuck
theorem hand_G {k n : Nat} {U : TGC} {as : List Ar} (h : hmG k n U as ≠ .stuck) : U (endG k (hmG k n U as)) [] (startG n as) [] := by
  unfold hmG at *
  split at h
  · rename_i q
    rw [dif_pos q]
    exact q.choose_spec.2
  · exact absurd rfl h
theorem hmG_eq {k n : Nat} {U : TGC} {as : List Ar} {rc : Rc} (t : TgD U) (hs : rc ≠ .stuck) (h : U (endG k rc) [] (startG n as) []) : hmG k n U as = rc := by
  have ex : ∃ rc : Rc, rc ≠ .stuck ∧ U (endG k rc) [] (startG n as) [] := ⟨rc, hs, h⟩
  unfold hmG
  rw [dif_pos ex]
  have h' := ex.choose_spec.2
  generalize ex.choose = rc' at h'
  by_cases e : rc' = rc
  · exact e
  · exfalso
    refine t.bot _ _ _ _ ⟨fun ds g r q => ?_, fun ds g r q => ?_, fun ds g r q => ?_, fun x ds g r q => ?_, fun c fs q => ?_⟩ (t.conj _ _ _ _ _ h' h)
    · exact e (q.1.trans q.2.symm)
    · exact q.1
    · exact q.1
    · exact e (q.1.2.trans q.2.2.symm)
    · exact q.1
def onlyL (m : Fm) : Fm := fun as => match m as with
  | .ok (.fr (.lst ds)) o => .ok (.fr (.lst ds)) o
  | _ => .stuck
theorem onlyL_cases (m : Fm) (as : List Ar) : onlyL m as = .stuck ∨ ∃ ds o, onlyL m as = .ok (.fr (.lst ds)) o ∧ m as = .ok (.fr (.lst ds)) o := by
  unfold onlyL
  split
  · rename_i ds o e
    exact .inr ⟨ds, o, rfl, e⟩
  · exact .inl rfl
theorem onlyL_ok {m : Fm} {as : List Ar} {ds : List D} {o : List Sl} (h : m as = .ok (.fr (.lst ds)) o) : onlyL m as = .ok (.fr (.lst ds)) o := by
  unfold onlyL
  rw [h]
section
variable {X : Cx} {W : WX} {k j n : Nat} {x nm : Str} {sp : L2.SpG} {p p2 pos pos2 : Pos} {e : Expr} {es : List Expr} {t tk : TA} {kws : List Keyword} {ks : List Str} {gD : List D → List D → List D} {gV : List V → List V → List V} {gW : List Value → List Value → List Value} {m : Fm} {f : Addr} {fd : FuncData} {ps : List Str} {fs fk : List Ft}
end
end Vl
set_option Elab.async false
set_option linter.all false
set_option maxRecDepth 100000
namespace Vl
open PySem PySem.Spec PyProof.Rows L2 My
end Vl
set_option Elab.async false
set_option linter.all false
set_option maxRecDepth 100000
set_option maxHeartbeats 4000000
namespace Vl
open PySem PySem.Spec PyProof.Rows L2 My
end Vl
set_option Elab.async false
set_option linter.all false
set_option maxRecDepth 100000
set_option maxHeartbeats 2000000
namespace Vl
open PySem PySem.Spec PyProof.Rows L2 My
section
variable {X : Cx} {W : WX} {a b : Expr} {fa fb : Ft} {pos : Pos} {p : D → D → Option RV} {j : Nat} {ms : List (Str × Bool × Fm)}
end
end Vl
set_option Elab.async false
set_option linter.all false
set_option maxRecDepth 100000
namespace Vl
open PySem PySem.Spec PyProof.Rows L2 My
section
variable {X : Cx} {W : WX} {k j n : Nat} {x nm : Str} {sp : L2.SpG} {p p2 pos pos2 : Pos} {e : Expr} {es : List Expr} {t tk : TA} {kws : List Keyword} {ks : List Str} {gD : List D → List D → List D} {gV : List V → List V → List V} {gW : List Value → List Value → List Value} {m : Fm} {cs : List Str} {f : Addr} {fd : FuncData} {ps : List Str} {fs fk : List Ft}
end
end Vl
set_option Elab.async false
set_option linter.all false
set_option maxRecDepth 100000
set_option maxHeartbeats 2000000
namespace Vl
open PySem PySem.Spec PyProof.Rows L2 My
end Vl
set_option Elab.async false
set_option linter.all false
set_option maxRecDepth 100000
set_option maxHeartbeats 2000000
namespace Vl
open PySem PySem.Spec PyProof.Rows L2 My
end Vl
set_option Elab.async false
set_option linter.all false
set_option maxRecDepth 100000
set_option maxHeartbeats 4000000
namespace Vl
open PySem PySem.Spec PyProof.Rows L2 My
section
variable {X : Cx} {W : WX}
end
section
variable {X : Cx} {W : WX} {i j r : Nat} {e e2 ek tg tg2 elt : Expr} {ifs : List Expr} {scope scope2 : Scope} {own own2 : List (Str × Nat)} {pos ipos pos2 : Pos} {tt : Option Fb} {fe : Ft}
end
end Vl
set_option Elab.async false
set_option linter.all false
set_option maxRecDepth 100000
set_option maxHeartbeats 1000000
namespace Gn
open PySem PySem.Spec PyProof.Rows GenW
def Sg (M : Model) (A : Around) (Φ : End → Shared → Prop) (c : Code) (t : Sem PySem.Fin) (fs : List Frame) (s : Shared) : Prop :=
  ∀ Γ p, Γ.code = c → Γ.Woken A → ∃ e s', Runs M Γ p t fs s e s' ∧ Φ e s'
section
variable {M : Model} {A : Around} {Φ : End → Shared → Prop} {c : Code} {fs : List Frame} {s : Shared}
theorem sg_wrap {α : Type} {m : Sem α} {K : α → Sem PySem.Fin} {H : Value → Sem PySem.Fin} {gd lv}
    (h : wpAny M (A.over c fs) m (fun a s' => Sg M A Φ c (K a) fs s') (fun x s' => Sg M A Φ c (H x) fs s') s) : Sg M A Φ c (m.wrap K H gd lv) fs s := by
  rintro Γ p rfl hΓ
  exact runs_wrap_of_wp K H gd lv m (h (Γ.over fs) p (hΓ.over fs)) (fun a p' s' h' => h' Γ p' rfl hΓ) (fun x p' s' h' => h' Γ p' rfl hΓ)
theorem sg_at {p' : Pos} {k : Unit → Sem PySem.Fin} (h : Sg M A Φ c (k ()) fs s) : Sg M A Φ c (.at p' k) fs s :=
  sg_wrap (m := standAt p') (K := k) (H := .raise) (gd := id) (lv := id) (wpAny_standAt h)
theorem sg_point {l : List Value} {k : Unit → Sem PySem.Fin} (h : Sg M A Φ c (k ()) fs s) : Sg M A Φ c (.point l k) fs s :=
  sg_wrap (m := point) (K := k) (H := .raise) (gd := id) (lv := fun _ => l) (wpAny_point h)
theorem sg_call {c' : Code} {h g l} {k : Result → Sem PySem.Fin} (hc : ∀ p, Sg M A Φ c' (M.den c') (.ret k h g l c p [] :: fs) s) : Sg M A Φ c (.call c' h g l k) fs s := by
  rintro Γ p rfl hΓ
  obtain ⟨e, s', hr, he⟩ := hc p (Γ.goto c') p rfl (hΓ.goto c')
  exact ⟨e, s', runs_call_seg hr, he⟩
theorem sg_leaf {k h g l c₁ p₁ kp} (r : Result) (hk : Sg M A Φ c₁ (k r) fs s) : Sg M A Φ c (leafOf r) (.ret k h g l c₁ p₁ kp :: fs) s := by
  rintro Γ p rfl hΓ
  obtain ⟨e, s', hr, he⟩ := hk (Γ.goto c₁) p₁ rfl (hΓ.goto c₁)
  exact ⟨e, s', Runs.pop r hr, he⟩
theorem sg_again {c' : Code} (hq : c'.quiet = true) (hc : Sg M A Φ c' (M.den c') fs s) : Sg M A Φ c (.pure (.again c')) fs s := by
  rintro Γ p rfl hΓ
  obtain ⟨e, s', hr, he⟩ := hc (Γ.goto c') p rfl (hΓ.goto c')
  exact ⟨e, s', Runs.head (c₁ := c') (fun _ _ x => .again hq x) hr, he⟩
theorem sg_end (r : Result) (h : Φ (.ret r) s) : Sg M A Φ c (leafOf r) [] s := by
  rintro Γ p rfl _
  exact ⟨.ret r, s, Runs.leaf r, h⟩
theorem sg_yield {v g l} {k : Resume → Sem PySem.Fin} (hfs : splitAtGen fs = none) (hg : g = false) (hfg : fs.any Frame.guarded = false)
    (h : ∀ g' l' p', g' = false → (End.susp v g' l' k c p' fs).quiet = true → Φ (.susp v g' l' k c p' fs) s) : Sg M A Φ c (.yield v g l k) fs s := by
  rintro Γ p rfl _
  exact ⟨_, s, Runs.yield' fs hfs, h _ _ _ hg (by simp [End.quiet, hg, hfg])⟩
end
section
variable {M : Model} {A : Around} {Φ : End → Shared → Prop} {c : Code} {fs : List Frame} {s : Shared} {env : Env} {K : Flow → Sem PySem.Fin} {H : Value → Sem PySem.Fin} {gd : Bool → Bool} {lv : List Value → List Value}
theorem sg_execs_cons {st : Stmt} {rest : List Stmt} (h : Sg M A Φ c ((exec st env).wrap (fun f => match f with | .next => (execs rest env).wrap K H gd lv | f => K f) H gd lv) fs s) :
    Sg M A Φ c ((execs (st :: rest) env).wrap K H gd lv) fs s := by rw [execs_cons_wrap]; exact h
theorem sg_bindw {α β : Type} {m : Sem α} {f : α → Sem β} {K : β → Sem PySem.Fin} {H : Value → Sem PySem.Fin} {gd lv}
    (h : wpAny M (A.over c fs) m (fun a s' => Sg M A Φ c ((f a).wrap K H gd lv) fs s') (fun x s' => Sg M A Φ c (H x) fs s') s) : Sg M A Φ c ((m >>= f).wrap K H gd lv) fs s := by
  rw [Sem.bind_eq_wrap', Sem.wrap_wrap]
  exact sg_wrap h
theorem sg_ExprYield {e : Expr} {ypos pos : Pos} (hfs : splitAtGen fs = none) (hgd : gd false = false) (hfg : fs.any Frame.guarded = false)
    (h : wpAny M (A.over c fs) (eval e env) (fun v s' => ∀ e' , (∃ g' l' k' p', e' = .susp v g' l' k' c p' fs ∧ e'.quiet = true ∧ ∀ (Φ' : End → Shared → Prop) s'', Sg M A Φ' c (K .next) fs s'' → Sg M A Φ' c (k' (.send .none)) fs s'') → Φ e' s')
      (fun x s' => Sg M A Φ c (H x) fs s') s) (hco : env.scope.isCoroutine = false := by rfl) (hi : interactive env = false := by rfl) :
    Sg M A Φ c ((exec (.Expr (.Yield (some e) ypos) pos) env).wrap K H gd lv) fs s := by
  rw [exec_Expr env _ pos hi rfl]
  show Sg M A Φ c (.at pos fun _ => ((eval e env >>= fun v => (standAt ypos >>= fun _ => yieldOut env v)) >>= fun x => dropValue (.Yield (some e) ypos) pos x).wrap K H gd lv) fs s
  have hy : ∀ v, yieldOut env v = yieldValue v := fun v => by simp only [yieldOut, hco, Bool.false_eq_true, if_false]
  simp only [hy]
  refine sg_at ?_
  rw [Sem.bind_eq_wrap', Sem.bind_eq_wrap', Sem.wrap_wrap, Sem.wrap_wrap]
  refine sg_wrap (wpAny_mono h (fun v s' h' => ?_) fun _ _ x => x)
  refine sg_at (sg_yield hfs hgd hfg fun g' l' p' e1 e2 => ?_)
  exact h' _ ⟨g', l', _, p', rfl, e2, fun Φ' s'' z => z⟩
theorem sg_func {prog : Program} {w : World} {body : List Stmt}
    (h : Sg (model prog w) A Φ (.func body env) ((execs body env).wrap (fun f => .pure (.done (.ret (match f with | .ret v => v | _ => .none)))) (fun e => (PySem.leaving env e).wrap (fun _ => .raise e) .raise id id) id id) fs s) :
    Sg (model prog w) A Φ (.func body env) ((model prog w).den (.func body env)) fs s := by
  show Sg _ A Φ _ (.point [] fun _ => ((execs body env).onRaise (PySem.leaving env)) >>= _) fs s
  refine sg_point ?_
  rw [Sem.onRaise_eq_wrap, Sem.bind_eq_wrap', Sem.wrap_wrap]
  rw [Sem.wrap_congr (execs body env) _ _ (K' := fun f => .pure (.done (.ret (match f with | .ret v => v | _ => .none))))
    (H' := fun e => (PySem.leaving env e).wrap (fun _ => .raise e) .raise id id) (fun f => by cases f <;> rfl) (fun e => by rw [Sem.bind_eq_wrap, Sem.wrap_wrap]; rfl)]
  exact h
end
section
variable {prog : Program} {w : World} {A : Around} {Φ : End → Shared → Prop} {c : Code} {fs : List Frame} {s : Shared} {env : Env} {K : Flow → Sem PySem.Fin} {H : Value → Sem PySem.Fin} {gd : Bool → Bool} {lv : List Value → List Value}
theorem sg_forLoop {target : Expr} {it : Value} {body : List Stmt}
    (h : wpAny (model prog w) (A.over (.forLoop target it body [] env) fs) (pyNext it) (fun r s1 => match r with
        | none => Sg (model prog w) A Φ (.block [] env) (.pure (.done .next)) fs s1
        | some v => wpAny (model prog w) (A.over (.forLoop target it body [] env) fs) (letOwnedTupleGo target it v) (fun _ s2 =>
            wpAny (model prog w) (A.over (.forLoop target it body [] env) fs) (assign target env v) (fun _ s3 =>
              Sg (model prog w) A Φ (.forLoop target it body [] env) ((execs body env).wrap (fun f => match f with
                | .next | .cont => .pure (.again (.forLoop target it body [] env))
                | .brk => .pure (.done .next)
                | .ret v => .pure (.done (.ret v))) (Vl.noted1 env) id id) fs s3)
              (fun x s' => Sg (model prog w) A Φ (.forLoop target it body [] env) (Vl.noted1 env x) fs s') s2)
            (fun x s' => Sg (model prog w) A Φ (.forLoop target it body [] env) (Vl.noted1 env x) fs s') s1)
      (fun x s' => Sg (model prog w) A Φ (.forLoop target it body [] env) (Vl.noted1 env x) fs s') s) :
    Sg (model prog w) A Φ (.forLoop target it body [] env) ((model prog w).den (.forLoop target it body [] env)) fs s := by
  show Sg _ A Φ _ ((forTurn target it body [] env).onRaise (fun x => do noteFrame x env; theTreesLotGoes x)) fs s
  rw [Sem.onRaise_eq_wrap]
  unfold forTurn
  refine sg_at ?_
  show Sg _ A Φ _ (Sem.wrap .pure (Vl.noted1 env) id id (((pyNext it).onRaise (fun _ => standAt { target.pos with line := 0 })) >>= fun r => (match r with
    | none => again (.block [] env)
    | some v => (letOwnedTupleGo target it v >>= fun _ => (assign target env v >>= fun _ => (execs body env >>= fun f => (match f with
      | .next | .cont => again (.forLoop target it body [] env)
      | .brk => pure (.done .next)
      | .ret v => pure (.done (.ret v))))))))) fs s
  refine sg_bindw (wpAny_onRaise (wpAny_mono h (fun r s1 h1 => ?_) fun x s1 h1 => wpAny_standAt h1))
  cases r with
  | none => exact sg_again rfl h1
  | some v =>
    refine sg_bindw (wpAny_mono h1 (fun _ s2 h2 => ?_) fun x s' hx => hx)
    refine sg_bindw (wpAny_mono h2 (fun _ s3 h3 => ?_) fun x s' hx => hx)
    rw [Sem.bind_eq_wrap', Sem.wrap_wrap]
    have e : ∀ (K1 K2 : Flow → Sem PySem.Fin), (∀ f, K1 f = K2 f) → Sem.wrap K1 (Vl.noted1 env) id id (execs body env) = Sem.wrap K2 (Vl.noted1 env) id id (execs body env) := fun K1 K2 hk => Sem.wrap_congr _ _ _ hk fun _ => rfl
    show Sg (model prog w) A Φ (.forLoop target it body [] env) (Sem.wrap (fun a => Sem.wrap Sem.pure (Vl.noted1 env) id id (match a with
      | .next | .cont => again (.forLoop target it body [] env)
      | .brk => pure (.done .next)
      | .ret v => pure (.done (.ret v)))) (Vl.noted1 env) id id (execs body env)) fs s3
    rw [e _ _ fun f => ?_]
    · exact h3
    · cases f <;> rfl
theorem sg_For {target iter : Expr} {body : List Stmt} {pos : Pos} (hs : ∀ x, foldedSetIterable iter env x = pure x)
    (h : wpAny (model prog w) (A.over c fs) (eval iter env) (fun v s1 => wpAny (model prog w) (A.over c fs) (pyIter v) (fun it s2 => ∀ p,
      Sg (model prog w) A Φ (.forLoop target it body [] env) ((model prog w).den (.forLoop target it body [] env))
      (.ret (fun r => ((match r with | .ok f => (.pure f : Sem Flow) | .error e => .raise e).onRaise (L2.cameBack env)).wrap K H gd lv) none (gd false) (lv []) c p [] :: fs) s2)
      (fun x s' => Sg (model prog w) A Φ c (H x) fs s') s1) (fun x s' => Sg (model prog w) A Φ c (H x) fs s') s) :
    Sg (model prog w) A Φ c ((exec (.For target iter body [] pos) env).wrap K H gd lv) fs s := by
  rw [exec_For]
  refine sg_at ?_
  show Sg _ A Φ c (Sem.wrap K H gd lv (eval iter env >>= fun v => (foldedSetIterable iter env v >>= fun x => (standAt iter.pos >>= fun _ => (holding [x] (pyIter x) >>= fun it => runOwn (.forLoop target it body [] env) env))))) fs s
  refine sg_bindw (wpAny_mono h (fun v s1 h1 => ?_) fun x s' hx => hx)
  rw [hs v]
  show Sg _ A Φ c (Sem.wrap K H gd lv (standAt iter.pos >>= fun _ => (holding [v] (pyIter v) >>= fun it => runOwn (.forLoop target it body [] env) env))) fs s1
  refine sg_bindw (wpAny_standAt ?_)
  refine sg_bindw (wpAny_holding (wpAny_mono h1 (fun it s2 h2 => ?_) fun x s' hx => hx))
  exact sg_call h2
end
end Gn
set_option Elab.async false
set_option linter.all false
set_option maxRecDepth 100000
set_option maxHeartbeats 1000000
namespace Gn
open PySem PySem.Spec PyProof.Rows GenW
open Sem (wp)
def Rest (M : Model) (A : Around) (Φ : End → Shared → Prop) (gs : GenState) (s : Shared) : Prop := match gs with
  | .fresh c => Sg M A Φ c (M.den c) [] s
  | .suspended k _ c _ fs _ => Sg M A Φ c (k (.send .none)) fs s
  | _ => False
section
variable {M : Model}
theorem wp_resume1 {A : Around} {Φ : End → Shared → Prop} {E : Value → Shared → Prop} {s : Shared} {g : Nat} {gs : GenState} {l : List Value} {α : Type} {k : GenResult → Sem α} {Q : α → Shared → Prop} (hq : ∀ e s', Φ e s' → e.quiet = true) (hg : s.gens[g]? = some gs)
    (hgo : Rest M A Φ gs (s.setGen g .running))
    (hR : ∀ x s₁, Φ (.ret x) s₁ → wpAny M A (k (End.ret x).result) Q E (s₁.setGen g .finished))
    (hY : ∀ v g₀ l₀ k₀ c₀ p₀ fs₀ s₁, Φ (.susp v g₀ l₀ k₀ c₀ p₀ fs₀) s₁ → wpAny M A (k (.yielded v)) Q E (s₁.setGen g (End.susp v g₀ l₀ k₀ c₀ p₀ fs₀).genState)) :
    wpAny M A (.resume g (.send .none) l k) Q E s := by
  intro Γ p hΓ
  rw [Sem.wp_resume]
  have hB : ∀ c, (Γ.wake c p).Woken A := fun c => hΓ.wake c p
  have fin : ∀ e₁ s₁, Φ e₁ s₁ → wp M Γ (k e₁.result) (fun a _ s' => Q a s') (fun e _ s' => E e s') p (s₁.setGen g e₁.genState) := by
    intro e₁ s₁ he
    cases e₁ with
    | ret x => exact hR x s₁ he Γ p hΓ
    | susp v g₀ l₀ k₀ c₀ p₀ fs₀ => exact hY v g₀ l₀ k₀ c₀ p₀ fs₀ s₁ he Γ p hΓ
  cases gs with
  | fresh c =>
    obtain ⟨e₁, s₁, hr, he⟩ := hgo (Γ.wake c p) p rfl (hB c)
    exact ⟨_, _, by unfold Wakes; rw [hg]; exact ⟨e₁, s₁, hr, hq e₁ s₁ he, rfl, rfl⟩, fin e₁ s₁ he⟩
  | suspended k₀ l₀ c₀ p₀ fs₀ cl =>
    obtain ⟨e₁, s₁, hr, he⟩ := hgo (Γ.wake c₀ p) p₀ rfl (hB c₀)
    exact ⟨_, _, by unfold Wakes; rw [hg]; exact ⟨e₁, s₁, hr, hq e₁ s₁ he, rfl, rfl⟩, fin e₁ s₁ he⟩
  | running => exact hgo.elim
  | finished => exact hgo.elim
end
section
variable {P : Program} {w : World} {A : Around} {E : Value → Shared → Prop} {s : Shared}
theorem next1 {a : Addr} {g : Nat} {gs : GenState} {Φ : End → Shared → Prop} {Q : Option Value → Shared → Prop} (hh : A.handled = none) (hl : s.heap.NoLimit) (hroom : A.depth < recursionLimit) (hg : s.heap.IsGen a g) (hgs : s.gens[g]? = some gs)
    (hq : ∀ e s', Φ e s' → e.quiet = true) (hgo : Rest (model P w) A.in1 Φ gs (s.setGen g .running))
    (hY : ∀ v g₀ l₀ k₀ c₀ p₀ fs₀ s₁, Φ (.susp v g₀ l₀ k₀ c₀ p₀ fs₀) s₁ → Q (some v) (s₁.setGen g (End.susp v g₀ l₀ k₀ c₀ p₀ fs₀).genState))
    (hP : ∀ x s₁, Φ (.ret x) s₁ → (x = .ok (.ret .none) ∨ x = .ok .next) ∧ ∀ h', (∀ b o, s₁.heap.get? b = some o → h'.get? b = some o) → Q none { s₁.setGen g .finished with heap := h' }) :
    wpAny (model P w) A (pyNext (.ref a)) Q E s := by
  unfold pyNext
  refine wpAny_bind (wpAny_attempt (wpAny_callSpecial?_slot (name := Str.ofString "__next__") hg.typeIs slot_gen_next
    (wpAny_call_entry slot_gen_next hg.typeIs entry_gen_next ?_ (args_gen_next _))))
  show wpAny _ A.in1 (Builtin.Generator.genWake (.ref a) (.send .none)) _ _ s
  unfold Builtin.Generator.genWake
  refine wpAny_bind (wpAny_holding (wpAny_genNumber hg (wpAny_bind (wpAny_genState hgs ?_))))
  cases gs with
  | running => exact hgo.elim
  | finished => exact hgo.elim
  | _ =>
    refine wpAny_bind (wpAny_roomToWake hl hroom ?_)
    show wpAny _ A.in1 (.resume g (.send .none) [] _) _ _ s
    refine wp_resume1 hq hgs hgo (fun x s₁ hx => ?_) (fun v g₀ l₀ k₀ c₀ p₀ fs₀ s₁ hv => ?_)
    · obtain ⟨hr, hp⟩ := hP x s₁ hx
      have hres : End.result (.ret x) = .returned .none := by
        rcases hr with hr | hr <;> rw [hr] <;> rfl
      first | rw [hres] | simp only [hres]
      show wpAny _ A.in1 (newExc (.type "StopIteration") [] >>= _) _ _ _
      refine wpAny_bind ?_
      simp only [newExc, newTuple]
      refine wpAny_bind (wpAny_newObj_type ?_ (by size_fits))
      refine wpAny_bind (m := firstArgMember _ _) (wpAny_of_eq (a := Value.none) (by first | rfl | (simp only [firstArgMember]; rfl)) ?_)
      refine wpAny_newObj_type ?_ (by size_fits)
      simp only [raiseNew]
      refine wpAny_bind (wpAny_bind (wpAny_handled ?_))
      first | rw [show A.in1.handled = none from hh] | rw [hh]
      refine wpAny_throw ?_
      refine wpAny_bind (wpAny_isInstance (T := "StopIteration") (b := true) ⟨_, Heap.get?_push_size _ rfl, rfl⟩ isSubtype_stop ?_)
      exact wpAny_pure (hp _ fun b o hb => Heap.get?_push_of_some _ (Heap.get?_push_of_some _ hb))
    · exact wpAny_pure ⟨v, rfl, wpAny_pure (hY v g₀ l₀ k₀ c₀ p₀ fs₀ s₁ hv)⟩
end
end Gn
set_option Elab.async false
set_option linter.all false
set_option maxRecDepth 100000
set_option maxHeartbeats 1000000
namespace Gn
open PySem PySem.Spec PyProof.Rows GenW
open Sem (wp)
abbrev Old := Nat → Option GenState
def rg (o : Old) (gs : Array GenState) : Array GenState := gs.mapIdx fun i x => (o i).getD x
def rs (o : Old) (s : Shared) : Shared := { s with gens := rg o s.gens }
structure Pz (o : Old) (gs : Array GenState) : Prop where
  at_ : ∀ i x, o i = some x → ∃ l c p fs cl, gs[i]? = some (.suspended (fun _ => .unsupported "") l c p fs cl) ∧ GenState.seen (.suspended (fun _ => .unsupported "") l c p fs cl) = x.seen
  ng : ∀ i k l c p fs cl, o i = none → gs[i]? = some (.suspended k l c p fs cl) → splitAtGen fs = none
def NG : End → Prop
  | .ret _ => True
  | .susp _ _ _ _ _ _ fs => splitAtGen fs = none
section
variable {o : Old} {gs : Array GenState}
theorem rg_size : (rg o gs).size = gs.size := Array.size_mapIdx ..
theorem rg_get {i : Nat} : (rg o gs)[i]? = (gs[i]?).map fun x => (o i).getD x := by
  unfold rg
  rw [Array.getElem?_mapIdx]
theorem rg_none {i : Nat} (h : o i = none) : (rg o gs)[i]? = gs[i]? := by
  rw [rg_get, h]
  cases gs[i]? <;> rfl
theorem rg_set {i : Nat} {y : GenState} (h : o i = none) : rg o (gs.setIfInBounds i y) = (rg o gs).setIfInBounds i y := by
  apply Array.ext_getElem?
  intro j
  rw [rg_get, Array.getElem?_setIfInBounds, Array.getElem?_setIfInBounds, rg_get, rg_size]
  by_cases e : i = j
  · subst e
    rw [if_pos rfl, if_pos rfl, h]
    split <;> rfl
  · rw [if_neg e, if_neg e]
theorem rs_setGen {s : Shared} {g : Nat} {y : GenState} (h : o g = none) : rs o (s.setGen g y) = (rs o s).setGen g y := by
  unfold rs Shared.setGen
  simp only [rg_set h]
theorem Pz.lt (z : Pz o gs) {i : Nat} {x : GenState} (h : o i = some x) : i < gs.size := by
  obtain ⟨_, _, _, _, _, e, _⟩ := z.at_ i x h
  exact (Array.getElem?_eq_some_iff.mp e).1
theorem Pz.top (z : Pz o gs) : o gs.size = none := by
  cases h : o gs.size with
  | none => rfl
  | some x => exact absurd (z.lt h) (Nat.lt_irrefl _)
theorem rg_push {y : GenState} (h : o gs.size = none) : rg o (gs.push y) = (rg o gs).push y := by
  apply Array.ext_getElem?
  intro j
  rw [rg_get, Array.getElem?_push, Array.getElem?_push, rg_get, rg_size]
  by_cases e : j = gs.size
  · subst e
    rw [if_pos rfl, if_pos rfl, h]; rfl
  · rw [if_neg e, if_neg e]
theorem Pz.set (z : Pz o gs) {i : Nat} {y : GenState} (h : o i = none) (hy : ∀ k l c p fs cl, y = .suspended k l c p fs cl → splitAtGen fs = none) : Pz o (gs.setIfInBounds i y) := by
  refine ⟨fun j x hj => ?_, fun j k l c p fs cl hj hg => ?_⟩
  · have ne : i ≠ j := fun e => by subst e; rw [h] at hj; cases hj
    rw [Array.getElem?_setIfInBounds, if_neg ne]
    exact z.at_ j x hj
  · rw [Array.getElem?_setIfInBounds] at hg
    by_cases e : i = j
    · rw [if_pos e] at hg
      split at hg
      · cases hg; exact hy _ _ _ _ _ _ rfl
      · cases hg
    · rw [if_neg e] at hg
      exact z.ng j k l c p fs cl hj hg
theorem Pz.push (z : Pz o gs) {c : Code} : Pz o (gs.push (.fresh c)) := by
  refine ⟨fun j x hj => ?_, fun j k l c' p fs cl hj hg => ?_⟩
  · rw [Array.getElem?_push, if_neg (Nat.ne_of_lt (z.lt hj))]
    exact z.at_ j x hj
  · rw [Array.getElem?_push] at hg
    split at hg
    · cases hg
    · exact z.ng j k l c' p fs cl hj hg
theorem ng_genState {e : End} (h : NG e) : ∀ k l c p fs cl, e.genState = .suspended k l c p fs cl → splitAtGen fs = none := by
  intro k l c p fs cl q
  cases e with
  | ret r => cases q
  | susp v g l k c p fs => cases q; exact h
theorem not_old0 {M : Model} {Γ : PySem.Ctx} {p : Pos} {s : Shared} {e : End} {s' : Shared} {w : String} : ¬ Runs M Γ p (.unsupported w) [] s e s' := fun h => nomatch h
theorem not_old {M : Model} {Γ : PySem.Ctx} {p : Pos} {fs : List Frame} {s : Shared} {e : End} {s' : Shared} {w : String} : ¬ Runs M Γ p (.unsupported w) fs s e s' := by
  intro h
  cases fs with
  | nil => exact not_old0 h
  | cons F fs => cases h with
    | segRet a b => exact not_old0 a
    | segGen a b => exact not_old0 a
    | segSuspOut a b => exact not_old0 b
    | segSuspGen a b c d => exact not_old0 b
theorem split_cons {F : Frame} {fs : List Frame} (h : splitAtGen (F :: fs) = none) : splitAtGen fs = none ∧ ∀ g k l c p, F ≠ .gen g k l c p := by
  cases F with
  | gen g k l c p => cases h
  | ret k h' g l c p kp =>
    have h : (splitAtGen fs).map _ = none := h
    refine ⟨?_, fun g k l c p e => nomatch e⟩
    cases e : splitAtGen fs with
    | none => rfl
    | some x => rw [e] at h; cases h
theorem split_append {a b : List Frame} (ha : splitAtGen a = none) (hb : splitAtGen b = none) : splitAtGen (a ++ b) = none := by
  rw [splitAtGen_append_none _ ha, hb]; rfl
theorem runs_frame {M : Model} {Γ : PySem.Ctx} {p : Pos} {t : Sem PySem.Fin} {fs : List Frame} {s : Shared} {e : End} {s' : Shared} (h : Runs M Γ p t fs s e s') :
    splitAtGen fs = none → Pz o s.gens → Runs M Γ p t fs (rs o s) e (rs o s') ∧ Pz o s'.gens ∧ NG e := by
  induction h with
  | done => exact fun _ z => ⟨.done, z, trivial⟩
  | raise => exact fun _ z => ⟨.raise, z, trivial⟩
  | again q _ ih => exact fun hf z => ⟨.again q (ih hf z).1, (ih hf z).2⟩
  | rule _ ih => exact fun hf z => ⟨.rule (ih hf z).1, (ih hf z).2⟩
  | «at» _ ih => exact fun hf z => ⟨.at (ih hf z).1, (ih hf z).2⟩
  | load e1 _ ih => exact fun hf z => ⟨.load e1 (ih hf z).1, (ih hf z).2⟩
  | update e1 _ ih => exact fun hf z => ⟨.update e1 (ih hf z).1, (ih hf z).2⟩
  | loadIfAlive _ ih => exact fun hf z => ⟨.loadIfAlive (ih hf z).1, (ih hf z).2⟩
  | point _ ih => exact fun hf z => ⟨.point (ih hf z).1, (ih hf z).2⟩
  | alloc _ ih => exact fun hf z => ⟨.alloc (ih hf z).1, (ih hf z).2⟩
  | fresh _ ih => exact fun hf z => ⟨.fresh (ih hf z).1, (ih hf z).2⟩
  | ask _ ih => exact fun hf z => ⟨.ask (ih hf z).1, (ih hf z).2⟩
  | choose e1 _ ih => exact fun hf z => ⟨.choose e1 (ih hf z).1, (ih hf z).2⟩
  | os _ ih => exact fun hf z => ⟨.os (ih hf z).1, (ih hf z).2⟩
  | handled _ ih => exact fun hf z => ⟨.handled (ih hf z).1, (ih hf z).2⟩
  | stack _ ih => exact fun hf z => ⟨.stack (ih hf z).1, (ih hf z).2⟩
  | thread _ ih => exact fun hf z => ⟨.thread (ih hf z).1, (ih hf z).2⟩
  | @genState g st Γ p k s e s' e1 _ ih =>
    intro hf z
    refine ⟨?_, (ih hf z).2⟩
    cases ho : o g with
    | none => exact .genState ((rg_none ho).trans e1) (ih hf z).1
    | some x =>
      obtain ⟨l, c, p, fs, cl, e2, e3⟩ := z.at_ g x ho
      have e4 : (rg o s.gens)[g]? = some x := by rw [rg_get, e2, ho]; rfl
      rw [e1] at e2
      cases e2
      refine .genState e4 ?_
      rw [← e3]
      exact (ih hf z).1
  | @newGen Γ p k s e s' c _ ih =>
    intro hf z
    have a := ih hf z.push
    refine ⟨.newGen ?_, a.2⟩
    have b := a.1
    show Runs _ _ _ (k (rg o s.gens).size) _ { rs o s with gens := (rg o s.gens).push _ } _ _
    rw [rg_size, ← rg_push z.top]
    exact b
  | call _ _ ih1 ih2 =>
    intro hf z
    obtain ⟨a1, a2, _⟩ := ih1 rfl z
    obtain ⟨b1, b2⟩ := ih2 hf a2
    exact ⟨.call a1 b1, b2⟩
  | callSusp _ ih =>
    intro hf z
    obtain ⟨a1, a2, a3⟩ := ih rfl z
    exact ⟨.callSusp a1, a2, split_append a3 rfl⟩
  | yield => exact fun _ z => ⟨.yield, z, rfl⟩
  | @resumeFresh Γ p g l k s c e₁ s₁ e s' e1 _ q _ ih1 ih2 =>
    intro hf z
    cases ho : o g with
    | some x => obtain ⟨_, _, _, _, _, e2, _⟩ := z.at_ g x ho; rw [e1] at e2; cases e2
    | none =>
      have z1 : Pz o (s.setGen g .running).gens := z.set ho fun _ _ _ _ _ _ q => nomatch q
      obtain ⟨a1, a2, a3⟩ := ih1 rfl z1
      have z2 : Pz o (s₁.setGen g e₁.genState).gens := a2.set ho (ng_genState a3)
      obtain ⟨b1, b2⟩ := ih2 hf z2
      refine ⟨.resumeFresh ((rg_none ho).trans e1) (s₁ := rs o s₁) ?_ q ?_, b2⟩
      · show Runs _ _ _ _ _ { rs o s with gens := (rg o s.gens).setIfInBounds g .running } _ _
        rw [← rg_set ho]; exact a1
      · show Runs _ _ _ _ _ { rs o s₁ with gens := (rg o s₁.gens).setIfInBounds g _ } _ _
        rw [← rg_set ho]; exact b1
  | @resumeSuspended Γ p g r l k s k₀ l₀ c₀ p₀ fs cl e₁ s₁ e s' e1 hr q _ ih1 ih2 =>
    intro hf z
    cases ho : o g with
    | some x =>
      obtain ⟨_, _, _, _, _, e2, _⟩ := z.at_ g x ho
      rw [e1] at e2; cases e2
      exact (not_old hr).elim
    | none =>
      have z1 : Pz o (s.setGen g .running).gens := z.set ho fun _ _ _ _ _ _ q => nomatch q
      obtain ⟨a1, a2, a3⟩ := ih1 (z.ng g _ _ _ _ _ _ ho e1) z1
      have z2 : Pz o (s₁.setGen g e₁.genState).gens := a2.set ho (ng_genState a3)
      obtain ⟨b1, b2⟩ := ih2 hf z2
      refine ⟨.resumeSuspended ((rg_none ho).trans e1) (s₁ := rs o s₁) ?_ q ?_, b2⟩
      · show Runs _ _ _ _ _ { rs o s with gens := (rg o s.gens).setIfInBounds g .running } _ _
        rw [← rg_set ho]; exact a1
      · show Runs _ _ _ _ _ { rs o s₁ with gens := (rg o s₁.gens).setIfInBounds g _ } _ _
        rw [← rg_set ho]; exact b1
  | @resumeJustStarted g v Γ p k s e s' l c e1 hv _ ih =>
    intro hf z
    cases ho : o g with
    | some x => obtain ⟨_, _, _, _, _, e2, _⟩ := z.at_ g x ho; rw [e1] at e2; cases e2
    | none => exact ⟨.resumeJustStarted ((rg_none ho).trans e1) hv (ih hf z).1, (ih hf z).2⟩
  | @resumeThrowFresh g Γ p k e s' x l s c e1 _ ih =>
    intro hf z
    cases ho : o g with
    | some x => obtain ⟨_, _, _, _, _, e2, _⟩ := z.at_ g x ho; rw [e1] at e2; cases e2
    | none =>
      have z1 : Pz o (s.setGen g .finished).gens := z.set ho fun _ _ _ _ _ _ q => nomatch q
      refine ⟨.resumeThrowFresh ((rg_none ho).trans e1) ?_, (ih hf z1).2⟩
      show Runs _ _ _ _ _ { rs o s with gens := (rg o s.gens).setIfInBounds g _ } _ _
      rw [← rg_set ho]; exact (ih hf z1).1
  | @resumeRunning g Γ p k s e s' r l e1 _ ih =>
    intro hf z
    cases ho : o g with
    | some x => obtain ⟨_, _, _, _, _, e2, _⟩ := z.at_ g x ho; rw [e1] at e2; cases e2
    | none => exact ⟨.resumeRunning ((rg_none ho).trans e1) (ih hf z).1, (ih hf z).2⟩
  | @resumeFinished g Γ p k s e s' r l e1 _ ih =>
    intro hf z
    cases ho : o g with
    | some x => obtain ⟨_, _, _, _, _, e2, _⟩ := z.at_ g x ho; rw [e1] at e2; cases e2
    | none => exact ⟨.resumeFinished ((rg_none ho).trans e1) (ih hf z).1, (ih hf z).2⟩
  | segRet _ _ ih1 ih2 =>
    intro hf z
    obtain ⟨a1, a2, _⟩ := ih1 rfl z
    obtain ⟨b1, b2⟩ := ih2 (split_cons hf).1 a2
    exact ⟨.segRet a1 b1, b2⟩
  | segGen => exact fun hf _ => ((split_cons hf).2 _ _ _ _ _ rfl).elim
  | segSuspOut e1 _ ih =>
    intro hf z
    obtain ⟨a1, a2, a3⟩ := ih rfl z
    exact ⟨.segSuspOut e1 a1, a2, split_append a3 e1⟩
  | segSuspGen e1 => exact fun hf _ => by rw [hf] at e1; cases e1
theorem wakes_frame {M : Model} {Γ : PySem.Ctx} {p : Pos} {g : Nat} {r : Resume} {s s' : Shared} {res : GenResult} (h : Wakes M Γ p g r s res s') (z : Pz o s.gens) : Wakes M Γ p g r (rs o s) res (rs o s') ∧ Pz o s'.gens := by
  unfold Wakes at h ⊢
  have key : ∀ x, s.gens[g]? = some x → (∀ k l c p fs cl, x ≠ .suspended k l c p fs cl) → o g = none := fun x e1 hx => by
    cases ho : o g with
    | none => rfl
    | some y =>
      obtain ⟨_, _, _, _, _, e2, _⟩ := z.at_ g y ho
      rw [e1] at e2
      cases e2
      exact (hx _ _ _ _ _ _ rfl).elim
  cases e1 : s.gens[g]? with
  | none => rw [e1] at h; exact h.elim
  | some x =>
    rw [e1] at h
    cases x with
    | fresh c =>
      have ho := key _ e1 fun _ _ _ _ _ _ q => nomatch q
      rw [show (rs o s).gens[g]? = s.gens[g]? from rg_none ho, e1]
      cases r with
      | throw x =>
        obtain ⟨rfl, rfl⟩ := h
        refine ⟨⟨rfl, ?_⟩, z.set ho fun _ _ _ _ _ _ q => nomatch q⟩
        exact rs_setGen ho
      | send v =>
        cases v with
        | none =>
          obtain ⟨e₁, s₁, hr, q, rfl, rfl⟩ := h
          have z1 : Pz o (s.setGen g .running).gens := z.set ho fun _ _ _ _ _ _ q => nomatch q
          obtain ⟨a1, a2, a3⟩ := runs_frame hr rfl z1
          refine ⟨⟨e₁, rs o s₁, ?_, q, rfl, ?_⟩, a2.set ho (ng_genState a3)⟩
          · show Runs _ _ _ _ _ { rs o s with gens := (rg o s.gens).setIfInBounds g .running } _ _
            rw [← rg_set ho]; exact a1
          · exact rs_setGen ho
        | _ => obtain ⟨rfl, rfl⟩ := h; exact ⟨⟨rfl, rfl⟩, z⟩
    | suspended k₀ l₀ c₀ p₀ fs cl =>
      obtain ⟨e₁, s₁, hr, q, rfl, rfl⟩ := h
      have ho : o g = none := by
        cases ho : o g with
        | none => rfl
        | some y =>
          obtain ⟨_, _, _, _, _, e2, _⟩ := z.at_ g y ho
          rw [e1] at e2
          cases e2
          exact (not_old hr).elim
      rw [show (rs o s).gens[g]? = s.gens[g]? from rg_none ho, e1]
      have z1 : Pz o (s.setGen g .running).gens := z.set ho fun _ _ _ _ _ _ q => nomatch q
      obtain ⟨a1, a2, a3⟩ := runs_frame hr (z.ng g _ _ _ _ _ _ ho e1) z1
      refine ⟨⟨e₁, rs o s₁, ?_, q, rfl, ?_⟩, a2.set ho (ng_genState a3)⟩
      · show Runs _ _ _ _ _ { rs o s with gens := (rg o s.gens).setIfInBounds g .running } _ _
        rw [← rg_set ho]; exact a1
      · exact rs_setGen ho
    | running =>
      have ho := key _ e1 fun _ _ _ _ _ _ q => nomatch q
      rw [show (rs o s).gens[g]? = s.gens[g]? from rg_none ho, e1]
      obtain ⟨rfl, rfl⟩ := h
      exact ⟨⟨rfl, rfl⟩, z⟩
    | finished =>
      have ho := key _ e1 fun _ _ _ _ _ _ q => nomatch q
      rw [show (rs o s).gens[g]? = s.gens[g]? from rg_none ho, e1]
      obtain ⟨rfl, rfl⟩ := h
      exact ⟨⟨rfl, rfl⟩, z⟩
def Bk (o : Old) {α : Type} (Q : α → Pos → Shared → Prop) : α → Pos → Shared → Prop := fun a p s' => ∃ s1, s' = rs o s1 ∧ Pz o s1.gens ∧ Q a p s1
theorem wp_frame {α : Type} {M : Model} {Γ : PySem.Ctx} (t : Sem α) {Q : α → Pos → Shared → Prop} {E : Value → Pos → Shared → Prop} (p : Pos) (s : Shared) (z : Pz o s.gens) (h : wp M Γ t Q E p s) : wp M Γ t (Bk o Q) (Bk o E) p (rs o s) := by
  revert h
  induction t generalizing p s with
  | pure x => exact fun h => ⟨s, rfl, z, h⟩
  | raise v => exact fun h => ⟨s, rfl, z, h⟩
  | unsupported | finish | yield | fork | await | register => exact fun h => h.elim
  | rule _ k ih | «at» _ k ih | alloc _ k ih | loadIfAlive _ k ih | point _ k ih | fresh k ih | ask k ih | os _ _ k ih | handled _ k ih | stack k ih | thread k ih => 
    intro h
    refine ih _ _ _ ?_ h
    exact z
  | newGen c k ih =>
    intro h
    have a := ih _ _ _ z.push h
    show wp _ _ (k (rg o s.gens).size) _ _ _ { rs o s with gens := (rg o s.gens).push _ }
    rw [rg_size, ← rg_push z.top]
    exact a
  | load a _ k ih => exact fun ⟨o', ho, h⟩ => ⟨o', ho, by refine ih _ _ _ ?_ h; exact z⟩
  | genState g k ih =>
    rintro ⟨st, e1, h⟩
    cases ho : o g with
    | none => exact ⟨st, (rg_none ho).trans e1, ih _ _ _ z h⟩
    | some x =>
      obtain ⟨l, c, p', fs, cl, e2, e3⟩ := z.at_ g x ho
      have e4 : (rg o s.gens)[g]? = some x := by rw [rg_get, e2, ho]; rfl
      rw [e1] at e2
      cases e2
      refine ⟨x, e4, ?_⟩
      rw [← e3]
      exact ih _ _ _ z h
  | update a _ f k ih => exact fun ⟨ha, h⟩ => ⟨ha, by refine ih _ _ _ ?_ h; exact z⟩
  | choose _ _ k ih => exact fun ⟨ha, h⟩ => ⟨ha, by refine ih _ _ _ ?_ h; exact z⟩
  | call c h g l k ih =>
    rintro ⟨r, s', hr, hk⟩
    obtain ⟨a1, a2, _⟩ := runs_frame hr rfl z
    exact ⟨r, rs o s', a1, ih _ _ _ a2 hk⟩
  | resume g r l k ih =>
    rintro ⟨res, s', hw, hk⟩
    obtain ⟨a1, a2⟩ := wakes_frame hw z
    exact ⟨res, rs o s', a1, ih _ _ _ a2 hk⟩
end
def Kept (s s' : Shared) : Prop := ∀ (i : Nat) k l c p fs cl, s.gens[i]? = some (GenState.suspended k l c p fs cl) → s'.gens[i]? = some (GenState.suspended k l c p fs cl)
theorem Kept.refl (s : Shared) : Kept s s := fun _ _ _ _ _ _ _ h => h
def pz1 : GenState → GenState
  | .suspended _ l c p fs cl => .suspended (fun _ => .unsupported "") l c p fs cl
  | x => x
def oldOf (gs : Array GenState) : Old := fun i => match gs[i]? with
  | some (.suspended k l c p fs cl) => some (.suspended k l c p fs cl)
  | _ => none
theorem pz_of (gs : Array GenState) : Pz (oldOf gs) (gs.map pz1) := by
  refine ⟨fun i x h => ?_, fun i k l c p fs cl h hg => ?_⟩
  · unfold oldOf at h
    split at h
    · rename_i k l c p fs cl e
      cases h
      exact ⟨l, c, p, fs, cl, by rw [Array.getElem?_map, e]; rfl, rfl⟩
    · cases h
  · rw [Array.getElem?_map] at hg
    cases e : gs[i]? with
    | none => rw [e] at hg; cases hg
    | some x =>
      rw [e] at hg
      cases x with
      | suspended k l c p fs cl => unfold oldOf at h; rw [e] at h; cases h
      | _ => cases hg
theorem rg_of (gs : Array GenState) : rg (oldOf gs) (gs.map pz1) = gs := by
  apply Array.ext_getElem?
  intro i
  rw [rg_get, Array.getElem?_map]
  unfold oldOf
  cases e : gs[i]? with
  | none => rfl
  | some x => cases x <;> rfl
theorem bare_pz {gs : Array GenState} (h : AllBare gs) : AllBare (gs.map pz1) := by
  intro y hy
  obtain ⟨x, hx, rfl⟩ := Array.mem_map.mp hy
  have := h x hx
  cases x <;> exact this
theorem bare_rg {gs g1 : Array GenState} (h : AllBare gs) (h1 : AllBare g1) : AllBare (rg (oldOf gs) g1) := by
  intro y hy
  obtain ⟨i, hi⟩ := Array.mem_iff_getElem?.mp hy
  rw [rg_get] at hi
  cases e : g1[i]? with
  | none => rw [e] at hi; cases hi
  | some x =>
    rw [e] at hi
    unfold oldOf at hi
    split at hi
    · rename_i k l c p fs cl e2
      cases hi
      exact h _ (Array.mem_of_getElem? e2)
    · cases hi
      exact h1 _ (Array.mem_of_getElem? e)
theorem kept_rg {s : Shared} {s1 : Shared} (z : Pz (oldOf s.gens) s1.gens) : Kept s (rs (oldOf s.gens) s1) := by
  intro i k l c p fs cl e
  have ho : oldOf s.gens i = some (.suspended k l c p fs cl) := by unfold oldOf; rw [e]
  show (rg _ s1.gens)[i]? = _
  obtain ⟨_, _, _, _, _, e2, _⟩ := z.at_ i _ ho
  rw [rg_get, e2, ho]; rfl
def Same (Q : Shared → Prop) (s s' : Shared) : Prop := Kept s s' ∧ ∃ g1, (AllBare g1 → AllBare s'.gens) ∧ Q { s' with gens := g1 }
theorem wpAny_kept {α : Type} {M : Model} {A : Around} {t : Sem α} {Q : α → Shared → Prop} {E : Value → Shared → Prop} {s : Shared} (hb : AllBare s.gens) (h : ∀ g1, AllBare g1 → wpAny M A t Q E { s with gens := g1 }) :
    wpAny M A t (fun a s' => Same (Q a) s s') (fun e s' => Same (E e) s s') s := by
  intro Γ p hΓ
  have a := wp_frame t p { s with gens := s.gens.map pz1 } (pz_of s.gens) (h _ (bare_pz hb) Γ p hΓ)
  have e : rs (oldOf s.gens) { s with gens := s.gens.map pz1 } = s := by
    show { s with gens := rg _ _ } = s
    rw [rg_of]
  rw [e] at a
  refine Sem.wp_mono M Γ t ?_ ?_ p s a
  · rintro x p' s' ⟨s1, rfl, z, q⟩
    exact ⟨kept_rg z, s1.gens, fun b => bare_rg hb b, q⟩
  · rintro x p' s' ⟨s1, rfl, z, q⟩
    exact ⟨kept_rg z, s1.gens, fun b => bare_rg hb b, q⟩
end Gn
set_option Elab.async false
set_option linter.all false
set_option maxRecDepth 100000
set_option maxHeartbeats 1000000
namespace Gn
open PySem PySem.Spec PyProof.Rows GenW L2
structure Bs where
  b : Shared
  H : Hp
  cp : List (Addr × Obj)
structure Gd where
  P : Program
  w : World
  K : PySem.W.Frag
  mg : Str → Option Value
  base : Heap
  N : List Str
  qual : Str
  scope : Scope
  n0 : Nat
  f : Addr
  cd : Value
  A : Around
  outer : List Env
  E : XK
  pn : List (Addr × Obj)
  gi : Nat
  nw : Bool
  os : OsState
abbrev Gd.env (G : Gd) : Env := envOfC G.qual G.scope G.n0 G.f G.cd
def Gd.cx (G : Gd) (β : Bs) : Cx where
  prog := G.P
  w := G.w
  K := G.K
  mg := G.mg
  base := G.base
  A := G.A.deeper G.env
  N := G.N
  s_0 := β.b
  H_0 := β.H
  env := G.env
  outer := G.outer
  stack := G.env :: G.outer
  ex := []
  calm := true
  fn := fun _ => true
  pn := G.pn ++ β.cp
  xe := fun e s' => wpAny (model G.P G.w) (G.A.deeper G.env) (PySem.leaving G.env e) (fun _ s'' => CX G.P G.w G.outer β.H β.b G.E e s'' ∧ ∀ p ∈ G.pn ++ β.cp, s''.heap.get? p.1 = some p.2) (fun _ _ => False) s'
theorem takes_gx {G : Gd} {β : Bs} : Takes (G.cx β) (fun cls d _ H' => G.E cls d H') := fun u s' x => XE.leaveG (W := fun cls d _ H' => G.E cls d H') (E := G.E) rfl rfl rfl (fun _ _ _ _ h => h) x
theorem owns_gx {G : Gd} {β : Bs} : PassesOwn (model G.P G.w) (G.cx β).A (G.cx β).env (G.cx β).xe :=
  passes_of (X := G.cx β) (K := fun e s'' => CX G.P G.w G.outer β.H β.b G.E e s'' ∧ ∀ p ∈ G.pn ++ β.cp, s''.heap.get? p.1 = some p.2) (E₁ := fun _ _ => False) rfl
def Pn (o : Old) (n : Nat) (gs : Array GenState) : Prop := Pz o gs ∧ n ≤ gs.size
def Bk1 (o : Old) (n : Nat) (P : Shared → Prop) (s' : Shared) : Prop := ∃ s1, s' = rs o s1 ∧ Pn o n s1.gens ∧ P s1
def OB (o : Old) : Prop := ∀ i x, o i = some x → x.bare = true
def Up (P : Shared → Prop) (s : Shared) : Prop := P s ∨ ∃ o n, OB o ∧ Bk1 o n P s
theorem Up.imp {P Q : Shared → Prop} {s : Shared} (k : ∀ s, P s → Q s) : Up P s → Up Q s
  | .inl h => .inl (k s h)
  | .inr ⟨o, n, ho, s1, e, z, h⟩ => .inr ⟨o, n, ho, s1, e, z, k s1 h⟩
theorem ob_of {gs : Array GenState} (h : AllBare gs) : OB (oldOf gs) := fun i x e => by
  unfold oldOf at e
  split at e
  · rename_i k l c p fs cl e2
    cases e
    exact h _ (Array.mem_of_getElem? e2)
  · cases e
theorem bare_rs {o : Old} {gs : Array GenState} (h : OB o) (b : AllBare gs) : AllBare (rg o gs) := fun y hy => by
  obtain ⟨i, hi⟩ := Array.mem_iff_getElem?.mp hy
  rw [rg_get] at hi
  cases e : gs[i]? with
  | none => rw [e] at hi; cases hi
  | some x =>
    rw [e] at hi
    cases e2 : o i with
    | none => rw [e2] at hi; cases hi; exact b _ (Array.mem_of_getElem? e)
    | some z => rw [e2] at hi; cases hi; exact h i _ e2
theorem gsz_both {α : Type} {M : Model} {A : Around} {t : Sem α} {Q : α → Shared → Prop} {E : Value → Shared → Prop} {n : Nat} {s : Shared} (hn : n ≤ s.gens.size) (h : wpAny M A t Q E s) : wpAny M A t (fun a s' => n ≤ s'.gens.size ∧ Q a s') (fun e s' => n ≤ s'.gens.size ∧ E e s') s :=
  wpAny_gsz hn (wpAny_mono h (fun _ _ q hs => ⟨hs, q⟩) fun _ _ q hs => ⟨hs, q⟩)
theorem wpAny_bk {α : Type} {M : Model} {A : Around} {t : Sem α} {Q : α → Shared → Prop} {E : Value → Shared → Prop} {o : Old} {n : Nat} {s : Shared} (z : Pn o n s.gens) (h : wpAny M A t Q E s) :
    wpAny M A t (fun a => Bk1 o n (Q a)) (fun e => Bk1 o n (E e)) (rs o s) := by
  intro Γ p hΓ
  have h := gsz_both (n := n) z.2 h
  refine Sem.wp_mono M Γ t ?_ ?_ p _ (wp_frame t p s z.1 (h Γ p hΓ))
  · rintro x p' s' ⟨s1, rfl, z, q⟩
    exact ⟨s1, rfl, ⟨z, q.1⟩, q.2⟩
  · rintro x p' s' ⟨s1, rfl, z, q⟩
    exact ⟨s1, rfl, ⟨z, q.1⟩, q.2⟩
theorem wpAny_up {α : Type} {M : Model} {A : Around} {t : Sem α} {Q : α → Shared → Prop} {E : Value → Shared → Prop} {s : Shared} (h : Up (wpAny M A t Q E) s) : wpAny M A t (fun a => Up (Q a)) (fun e => Up (E e)) s := by
  rcases h with h | ⟨o, n, ho, s1, rfl, z, h⟩
  · exact wpAny_mono h (fun a s' q => .inl q) fun e s' q => .inl q
  · exact wpAny_mono (wpAny_bk z h) (fun a s' q => .inr ⟨o, n, ho, q⟩) fun e s' q => .inr ⟨o, n, ho, q⟩
abbrev pzd (s : Shared) : Shared := { s with gens := s.gens.map pz1 }
theorem rs_pzd (s : Shared) : rs (oldOf s.gens) (pzd s) = s := by
  show { s with gens := rg _ _ } = s
  rw [rg_of]
theorem inv_gens {X : Cx} {pins : List (Addr × Obj)} {σ : L2.St} {H : Hp} {s : Shared} {gs : Array GenState} (V : Inv X pins σ H s) (h : AllBare gs) : Inv X pins σ H { s with gens := gs } :=
  ⟨V.ok, V.os, h, V.base, V.loc, V.cell, V.free, V.freeC, V.pin, V.hok, V.len⟩
theorem inv_pzd {X : Cx} {pins : List (Addr × Obj)} {σ : L2.St} {H : Hp} {s : Shared} (V : Inv X pins σ H s) : Inv X pins σ H (pzd s) := inv_gens V (bare_pz V.bare)
theorem inv_rs {X : Cx} {pins : List (Addr × Obj)} {σ : L2.St} {H : Hp} {s : Shared} {o : Old} (h : OB o) (V : Inv X pins σ H s) : Inv X pins σ H (rs o s) := inv_gens V (bare_rs h V.bare)
theorem sp_rs {X : Cx} {pins : List (Addr × Obj)} {D : Ends} {f : Flow} {s : Shared} {o : Old} (h : OB o) (V : SP X pins D f s) : SP X pins D f (rs o s) := by
  cases f with
  | next => obtain ⟨σ, H, I, q⟩ := V; exact ⟨σ, H, inv_rs h I, q⟩
  | brk => obtain ⟨σ, H, I, q⟩ := V; exact ⟨σ, H, inv_rs h I, q⟩
  | cont => obtain ⟨σ, H, I, q⟩ := V; exact ⟨σ, H, inv_rs h I, q⟩
  | ret u => obtain ⟨v, σ, H, I, r, q⟩ := V; exact ⟨v, σ, H, inv_rs h I, r, q⟩
def Kp (gk gs : Array GenState) : Prop := ∀ (i : Nat) k l c p fs cl, gk[i]? = some (GenState.suspended k l c p fs cl) → gs[i]? = some (GenState.suspended k l c p fs cl)
theorem Kp.trans {a b c : Array GenState} (h : Kp a b) (h' : Kp b c) : Kp a c := fun i k l cc p fs cl e => h' i k l cc p fs cl (h i k l cc p fs cl e)
theorem kp_none (gs : Array GenState) : Kp #[] gs := fun i k l c p fs cl e => by simp at e
theorem kp_rs {s s1 : Shared} (z : Pz (oldOf s.gens) s1.gens) : Kp s.gens (rs (oldOf s.gens) s1).gens := fun i k l c p fs cl e => kept_rg z i k l c p fs cl e
structure Kq (gi : Nat) (gk gs : Array GenState) : Prop where
  kp : Kp gk gs
  kn : ∀ (i : Nat) k l c p fs cl, gk[i]? = some (GenState.suspended k l c p fs cl) → gi < i
  sz : gi < gs.size
theorem Kq.rs {gi : Nat} {gk : Array GenState} {s s1 : Shared} (q : Kq gi gk s.gens) (z : Pn (oldOf s.gens) s.gens.size s1.gens) : Kq gi gk (rs (oldOf s.gens) s1).gens :=
  ⟨q.kp.trans (kp_rs z.1), q.kn, by show gi < (rg _ s1.gens).size; rw [rg_size]; exact Nat.lt_of_lt_of_le q.sz z.2⟩
theorem kq_none {gi : Nat} {gs : Array GenState} (h : gi < gs.size) : Kq gi #[] gs := ⟨kp_none _, fun i k l c p fs cl e => by simp at e, h⟩
structure Gd.Run (G : Gd) (β : Bs) (ip : List (Addr × Obj)) (gk : Array GenState) (σ : L2.St) (H : Hp) (s : Shared) : Prop where
  n : β.b.heap.objs.size = G.n0 ∧ β.b.os = G.os
  I : Inv (G.cx β) ip σ H s
  sep : ∀ p ∈ (G.cx β).pn, ∀ q ∈ ip, p.1 ≠ q.1
  kp : Kq G.gi gk s.gens
section
variable {Ω : Type}
structure GE (Ω : Type) where
  nx : Ω → List V → L2.St → Hp → Prop
  rt : Ω → List V → VK
  bk : Ω → List V → L2.St → Hp → Prop := fun _ _ _ _ => False
  ct : Ω → List V → L2.St → Hp → Prop := fun _ _ _ _ => False
  yl : Ω → List V → L2.St → Hp → (Hp → Ω → Prop) → Prop
def GE.at (D : GE Ω) (ω : Ω) (ys : List V) : Ends := { nx := D.nx ω ys, rt := D.rt ω ys, bk := D.bk ω ys, ct := D.ct ω ys }
abbrev TG2 (Ω : Type) := GE Ω → Ω → List V → L2.St → Hp → Prop
abbrev YL (Ω : Type) := Ω → List V → L2.St → Hp → (Hp → Ω → Prop) → Prop
def Ph (G : Gd) (Aw : Around) (R : Nat → Bs → Ω → Result → Shared → Prop) (Y : YL Ω) (m : Nat) : Nat → Bs → Ω → End → Shared → Prop
  | n, β, ω, .ret r, s' => R n β ω r s'
  | 0, _, _, .susp .., _ => False
  | n + 1, β, ω, .susp v g l k c p fs, s' => (End.susp v g l k c p fs).quiet = true ∧ ∃ ys x ip gk σ H Wp, n + 1 + ys.length = m ∧ RelV x v ∧ G.Run β ip gk σ H s' ∧ Y ω (ys ++ [x]) σ H Wp ∧
      ∀ β' H2 ω2 s'', G.Run β' ip gk σ H2 s'' → Wp H2 ω2 → Sg (model G.P G.w) Aw (fun e s3 => Ph G Aw R Y m n β' ω2 e s3) c (k (.send .none)) fs s''
theorem Ph.quiet {G : Gd} {Aw : Around} {R : Nat → Bs → Ω → Result → Shared → Prop} {Y : YL Ω} {m : Nat} : ∀ {n β ω e s}, Ph G Aw R Y m n β ω e s → e.quiet = true
  | n, β, ω, .ret r, s, _ => rfl
  | 0, _, _, .susp .., _, h => by unfold Ph at h; exact h.elim
  | n + 1, β, ω, .susp v g l k c p fs, s', h => by unfold Ph at h; exact h.1
def GSP2 (G : Gd) (β : Bs) (ip : List (Addr × Obj)) (gk : Array GenState) (D : GE Ω) (ω : Ω) (ys : List V) (f : Flow) (s : Shared) : Prop := match f with
  | .next => ∃ σ H, G.Run β ip gk σ H s ∧ D.nx ω ys σ H
  | .brk => ∃ σ H, G.Run β ip gk σ H s ∧ D.bk ω ys σ H
  | .cont => ∃ σ H, G.Run β ip gk σ H s ∧ D.ct ω ys σ H
  | .ret u => ∃ v σ H, G.Run β ip gk σ H s ∧ RelV v u ∧ D.rt ω ys v H
structure GC2 (G : Gd) (Aw : Around) (c : Code) (fs : List Frame) (gd : Bool → Bool) : Prop where
  over : Aw.over c fs = G.A.deeper G.env
  split : splitAtGen fs = none
  guard : fs.any Frame.guarded = false
  gd : gd false = false
structure GK2 (G : Gd) (Aw : Around) (R : Nat → Bs → Ω → Result → Shared → Prop) (Y : YL Ω) (m : Nat) (ip : List (Addr × Obj)) (gk : Array GenState) (c : Code) (fs : List Frame) (K : Flow → Sem PySem.Fin) (J : Value → Sem PySem.Fin) (D : GE Ω) : Prop where
  ok : ∀ (n : Nat) (β : Bs) (ω : Ω) (ys : List V) (s : Shared) (f : Flow), n + ys.length = m → GSP2 G β ip gk D ω ys f s → Sg (model G.P G.w) Aw (fun e s => Ph G Aw R Y m n β ω e s) c (K f) fs s
  exc : ∀ (n : Nat) (β : Bs) (ω : Ω) (e : Value) (s : Shared), Up ((G.cx β).xe e) s → Sg (model G.P G.w) Aw (fun e s => Ph G Aw R Y m n β ω e s) c (J e) fs s
def Few (Y : YL Ω) (m : Nat) : Prop := ∀ ω zs σ H Wp, Y ω zs σ H Wp → zs.length ≤ m
structure GS2 (G : Gd) (st : Stmt) (t : TG2 Ω) : Prop where
  run : ∀ (Aw : Around) (R : Nat → Bs → Ω → Result → Shared → Prop) (m n : Nat) (ip : List (Addr × Obj)) (gk : Array GenState) (β : Bs) (ω : Ω) (ys : List V) (c : Code) (fs : List Frame) (K : Flow → Sem PySem.Fin) (J : Value → Sem PySem.Fin) (gd : Bool → Bool) (lv : List Value → List Value) (s : Shared) (σ : L2.St) (H : Hp) (D : GE Ω),
    Few D.yl m → GC2 G Aw c fs gd → n + ys.length = m → GK2 G Aw R D.yl m ip gk c fs K J D → G.Run β ip gk σ H s → t D ω ys σ H →
    Sg (model G.P G.w) Aw (fun e s => Ph G Aw R D.yl m n β ω e s) c ((exec st G.env).wrap K J gd lv) fs s
structure GSs2 (G : Gd) (st : List Stmt) (t : TG2 Ω) : Prop where
  run : ∀ (Aw : Around) (R : Nat → Bs → Ω → Result → Shared → Prop) (m n : Nat) (ip : List (Addr × Obj)) (gk : Array GenState) (β : Bs) (ω : Ω) (ys : List V) (c : Code) (fs : List Frame) (K : Flow → Sem PySem.Fin) (J : Value → Sem PySem.Fin) (gd : Bool → Bool) (lv : List Value → List Value) (s : Shared) (σ : L2.St) (H : Hp) (D : GE Ω),
    Few D.yl m → GC2 G Aw c fs gd → n + ys.length = m → GK2 G Aw R D.yl m ip gk c fs K J D → G.Run β ip gk σ H s → t D ω ys σ H →
    Sg (model G.P G.w) Aw (fun e s => Ph G Aw R D.yl m n β ω e s) c ((execs st G.env).wrap K J gd lv) fs s
section
variable {G : Gd} {st : Stmt} {rest : List Stmt}
theorem gsp_of {β : Bs} {ip : List (Addr × Obj)} {gk : Array GenState} {D : GE Ω} {ω : Ω} {ys : List V} {f : Flow} {s : Shared} (n : β.b.heap.objs.size = G.n0 ∧ β.b.os = G.os) (sep : ∀ p ∈ (G.cx β).pn, ∀ q ∈ ip, p.1 ≠ q.1) (kp : Kq G.gi gk s.gens) (h : SP (G.cx β) ip (D.at ω ys) f s) : GSP2 G β ip gk D ω ys f s := by
  cases f with
  | next => obtain ⟨σ, H, I, q⟩ := h; exact ⟨σ, H, ⟨n, I, sep, kp⟩, q⟩
  | brk => obtain ⟨σ, H, I, q⟩ := h; exact ⟨σ, H, ⟨n, I, sep, kp⟩, q⟩
  | cont => obtain ⟨σ, H, I, q⟩ := h; exact ⟨σ, H, ⟨n, I, sep, kp⟩, q⟩
  | ret u => obtain ⟨v, σ, H, I, r, q⟩ := h; exact ⟨v, σ, H, ⟨n, I, sep, kp⟩, r, q⟩
theorem wpAny_sleep {α : Type} {A : Around} {t : Sem α} {Q : α → Shared → Prop} {E : Value → Shared → Prop} {s : Shared} {M : Model} (hb : AllBare s.gens) (h : wpAny M A t Q E (pzd s)) :
    wpAny M A t (fun a s' => ∃ s1, s' = rs (oldOf s.gens) s1 ∧ Pn (oldOf s.gens) s.gens.size s1.gens ∧ Q a s1) (fun e => Up (E e)) s := by
  have w := wpAny_bk (n := s.gens.size) ⟨pz_of s.gens, by show s.gens.size ≤ (s.gens.map pz1).size; rw [Array.size_map]; exact Nat.le_refl _⟩ h
  rw [rs_pzd] at w
  exact wpAny_mono w (fun a s' q => q) fun e s' q => .inr ⟨_, _, ob_of hb, q⟩
def tPl (t : TS) : TG2 Ω := fun D ω ys σ H => t (D.at ω ys) σ H
theorem g2_ps {t : TS} (h : ∀ β, PS (G.cx β) st t) : GS2 (Ω := Ω) G st (tPl t) :=
  ⟨fun Aw R m n ip gk β ω ys c fs K J gd lv s σ H D fw g hn k ⟨h0, I, sep, kp⟩ ht => by
    refine sg_wrap ?_
    rw [g.over]
    refine wpAny_mono (wpAny_sleep I.bare ((h β).run ip (pzd s) σ H (D.at ω ys) (inv_pzd I) ht)) (fun f s' hs => ?_) fun x s' hx => k.exc n β ω x s' hx
    obtain ⟨s1, rfl, z, hs⟩ := hs
    exact k.ok n β ω ys _ f hn (gsp_of h0 sep (kp.rs (z)) (sp_rs (ob_of I.bare) hs))⟩
theorem g2s_pss {t : TS} (h : ∀ β, PSs (G.cx β) rest t) : GSs2 (Ω := Ω) G rest (tPl t) :=
  ⟨fun Aw R m n ip gk β ω ys c fs K J gd lv s σ H D fw g hn k ⟨h0, I, sep, kp⟩ ht => by
    refine sg_wrap ?_
    rw [g.over]
    refine wpAny_mono (wpAny_sleep I.bare ((h β).run ip (pzd s) σ H (D.at ω ys) (inv_pzd I) ht)) (fun f s' hs => ?_) fun x s' hx => k.exc n β ω x s' hx
    obtain ⟨s1, rfl, z, hs⟩ := hs
    exact k.ok n β ω ys _ f hn (gsp_of h0 sep (kp.rs (z)) (sp_rs (ob_of I.bare) hs))⟩
def t20 : TG2 Ω := fun D ω ys σ H => D.nx ω ys σ H
theorem g2s_nil : GSs2 (Ω := Ω) G [] t20 := ⟨fun Aw R m n ip gk β ω ys c fs K J gd lv s σ H D fw g hn k hI ht => k.ok n β ω ys s .next hn ⟨σ, H, hI, ht⟩⟩
def t2Then (t u : TG2 Ω) : TG2 Ω := fun D ω ys σ H => t { D with nx := fun ω' ys' σ' H' => u D ω' ys' σ' H' } ω ys σ H
theorem g2s_cons {t u : TG2 Ω} (a : GS2 G st t) (b : GSs2 G rest u) : GSs2 G (st :: rest) (t2Then t u) := by
  refine ⟨fun Aw R m n ip gk β ω ys c fs K J gd lv s σ H D fw g hn k hI ht => ?_⟩
  refine sg_execs_cons ?_
  refine a.run Aw R m n ip gk β ω ys c fs _ J gd lv s σ H { D with nx := fun ω' ys' σ' H' => u D ω' ys' σ' H' } fw g hn ⟨fun n' β' ω' ys' s' f hn' hs => ?_, k.exc⟩ hI ht
  cases f with
  | next =>
    obtain ⟨σ', H', I', q⟩ := hs
    exact b.run Aw R m n' ip gk β' ω' ys' c fs K J gd lv s' σ' H' D fw g hn' k I' q
  | brk => exact k.ok n' β' ω' ys' s' .brk hn' hs
  | cont => exact k.ok n' β' ω' ys' s' .cont hn' hs
  | ret u => exact k.ok n' β' ω' ys' s' (.ret u) hn' hs
def t2If (c : TT) (t u : TG2 Ω) : TG2 Ω := fun D ω ys σ H => c σ H fun b H1 => if b = true then t D ω ys σ H1 else u D ω ys σ H1
theorem g2_if {test : Expr} {body orelse : List Stmt} {pos : Pos} {tc : TT} {t u : TG2 Ω} (hc : ∀ β, PT (G.cx β) test tc) (a : GSs2 G body t) (b : GSs2 G orelse u) : GS2 G (.If test body orelse pos) (t2If tc t u) := by
  refine ⟨fun Aw R m n ip gk β ω ys c fs K J gd lv s σ H D fw g hn k ⟨h0, I, sep, kp⟩ ht => ?_⟩
  rw [exec_If]
  refine sg_at ?_
  show Sg _ Aw _ c (Sem.wrap K J gd lv (isTrue test G.env (eval test G.env) >>= fun b => if b = true then execs body G.env else execs orelse G.env)) fs s
  refine sg_bindw ?_
  rw [g.over]
  refine wpAny_mono (wpAny_sleep I.bare ((hc β).run ip (pzd s) σ H _ (inv_pzd I) ht)) (fun bb s' hb => ?_) fun x s' hx => k.exc n β ω x s' hx
  obtain ⟨s1, rfl, z, H2, I2, q2⟩ := hb
  have I2 := inv_rs (ob_of I.bare) I2
  have kp := kp.rs (z)
  cases bb with
  | true =>
    rw [if_pos rfl] at q2 ⊢
    exact a.run Aw R m n ip gk β ω ys c fs K J gd lv _ σ H2 D fw g hn k ⟨h0, I2, sep, kp⟩ q2
  | false =>
    rw [if_neg Bool.false_ne_true] at q2 ⊢
    exact b.run Aw R m n ip gk β ω ys c fs K J gd lv _ σ H2 D fw g hn k ⟨h0, I2, sep, kp⟩ q2
def t2Yield (te : TE) : TG2 Ω := fun D ω ys σ H => te σ H fun x H1 => ∃ Wp, D.yl ω (ys ++ [x]) σ H1 Wp ∧ ∀ H2 ω2, Wp H2 ω2 → D.nx ω2 (ys ++ [x]) σ H2
theorem g2_yield {e : Expr} {yp pos : Pos} {te : TE} (he : ∀ β, PE (G.cx β) e te) (hco : G.env.scope.isCoroutine = false := by rfl) (hi : interactive G.env = false := by rfl) : GS2 (Ω := Ω) G (.Expr (.Yield (some e) yp) pos) (t2Yield te) := by
  refine ⟨fun Aw R m n ip gk β ω ys c fs K J gd lv s σ H D fw g hn k ⟨h0, I, sep, kp⟩ ht => ?_⟩
  refine sg_ExprYield g.split g.gd g.guard ?_ hco hi
  rw [g.over]
  refine wpAny_mono (wpAny_sleep I.bare ((he β).run ip (pzd s) σ H _ (inv_pzd I) ht)) (fun v s' hv => ?_) fun x s' hx => k.exc n β ω x s' hx
  obtain ⟨s1, rfl, z, x, H1, I1, rv, Wp, q1, q2⟩ := hv
  have I1 := inv_rs (ob_of I.bare) I1
  have kp := kp.rs (z)
  rintro e' ⟨g', l', k', p', rfl, hq, hk⟩
  have l1 := fw _ _ _ _ _ q1
  rw [List.length_append, List.length_singleton] at l1
  obtain ⟨n, rfl⟩ : ∃ j, n = j + 1 := ⟨n - 1, by omega⟩
  unfold Ph
  refine ⟨hq, ys, x, ip, gk, σ, H1, Wp, hn, rv, ⟨h0, I1, sep, kp⟩, q1, fun β' H2 ω2 s'' hR hW => hk _ s'' ?_⟩
  exact k.ok n β' ω2 (ys ++ [x]) s'' .next (by rw [List.length_append, List.length_singleton]; omega) ⟨σ, H2, hR, q2 H2 ω2 hW⟩
theorem gc2_loop {Aw : Around} {c c' : Code} {fs : List Frame} {gd : Bool → Bool} {k : Result → Sem PySem.Fin} {l kp : List Value} {p : Pos} (g : GC2 G Aw c fs gd) (hw : c'.weight = 0) (hu : c'.cUnits = 0) : GC2 G Aw c' (.ret k none (gd false) l c p kp :: fs) id where
  over := (over_loop hw hu).trans g.over
  split := by
    show (splitAtGen fs).map _ = none
    rw [g.split]; rfl
  guard := by
    show (gd false || fs.any Frame.guarded) = false
    rw [g.gd, g.guard]; rfl
  gd := rfl
theorem sg_cameBack {Aw : Around} {R : Nat → Bs → Ω → Result → Shared → Prop} {Y : YL Ω} {m : Nat} {ip : List (Addr × Obj)} {gk : Array GenState} {c : Code} {fs : List Frame} {K : Flow → Sem PySem.Fin} {J : Value → Sem PySem.Fin} {gd : Bool → Bool} {lv : List Value → List Value} {D : GE Ω} {n : Nat} {β : Bs} {ω : Ω} {s : Shared} {e : Value}
    (g : GC2 G Aw c fs gd) (k : GK2 G Aw R Y m ip gk c fs K J D) (h : Up (cameBackBy (model G.P G.w) (G.cx β).A (G.cx β).env (G.cx β).xe e) s) :
    Sg (model G.P G.w) Aw (fun e s => Ph G Aw R Y m n β ω e s) c (((Sem.raise e : Sem Flow).onRaise (L2.cameBack G.env)).wrap K J gd lv) fs s := by
  show Sg _ _ _ _ (((L2.cameBack G.env e).bind fun _ => (Sem.raise e : Sem Flow)).wrap K J gd lv) _ _
  rw [Sem.bind_eq_wrap, Sem.wrap_wrap]
  refine sg_wrap ?_
  rw [g.over]
  exact wpAny_mono (wpAny_up h) (fun _ s' hx => k.exc n β ω e s' hx) fun x s' hx => k.exc n β ω x s' hx
def t2For (wi : TI) (g : TG) (tb : TG2 Ω) : TG2 Ω := fun D ω ys σ H => wi σ H fun J H1 => ∃ W : Nat → Nat → Ω → List V → L2.St → Hp → Prop, (∃ m, W 0 m ω ys σ H1) ∧ ∀ i m ω ys σ H, W i m ω ys σ H →
  (J.stop i H ∧ D.nx ω ys σ H) ∨ (J.go i H ∧ ∃ N : Ω → List V → L2.St → Hp → Prop, (∀ ω' ys' σ' H', N ω' ys' σ' H' → ∃ m', m' < m ∧ W (i + 1) m' ω' ys' σ' H') ∧ ∀ x H', J.yld i H x H' → g x σ H' fun σ2 H2 => tb { D with nx := N, ct := N, bk := D.nx } ω ys σ2 H2)
theorem g2_for {tg iter : Expr} {body : List Stmt} {wi : TI} {gt : TG} {tb : TG2 Ω} {pos : Pos} (hi : ∀ β, PI (G.cx β) tg iter wi) (hg : ∀ β, PG (G.cx β) tg gt) (hb : GSs2 G body tb) (hs : ∀ x, foldedSetIterable iter G.env x = pure x := by intro _; rfl) :
    GS2 G (.For tg iter body [] pos) (t2For wi gt tb) := by
  refine ⟨fun Aw R mm n ip gk β ω ys c fs K JJ gd lv s σ H D fw g hn k ⟨h0, I0, sep0, kp0⟩ ht => ?_⟩
  refine sg_For hs ?_
  rw [g.over]
  refine wpAny_mono (wpAny_sleep I0.bare ((hi β).run ip (pzd s) σ H _ (inv_pzd I0) ht)) (fun v s1 h1 => ?_) fun x s' hx => k.exc n β ω x s' hx
  obtain ⟨s1, rfl, z1, h1⟩ := h1
  refine wpAny_mono (wpAny_bk z1 h1) (fun itv s2 h2 => ?_) fun x s' hx => k.exc n β ω x s' (.inr ⟨_, _, ob_of I0.bare, hx⟩)
  obtain ⟨s2, rfl, z2, it, fp, tn, J, H2, e, I2, T, st2, f2, W, ⟨m0, w0⟩, turn⟩ := h2
  subst e
  intro p
  have gl := fun (kk : Result → Sem PySem.Fin) => gc2_loop (k := kk) (c' := .forLoop tg (.ref it) body [] G.env) (l := lv []) (kp := []) (p := p) g rfl rfl
  have stat : ∀ {β' : Bs} {H' : Hp}, β'.b.heap.objs.size = G.n0 → (∀ p ∈ (G.cx β').pn, ∀ b ∈ fp, p.1 ≠ b) → (∀ b ∈ fp, H' b = none) → ∀ b ∈ fp, FpOk (G.cx β') ip H' b := fun {β' H'} hz hsep hn b hb => by
    obtain ⟨_, a2, a3, a4, a5, a6⟩ := f2 b hb
    refine ⟨hn b hb, a2, a3, ?_, a5, fun p hp => ?_⟩
    · right
      rcases a4 with a4 | a4
      · exact absurd (show b ∈ ([] : List Addr) from a4) (by simp)
      · show β'.b.heap.objs.size ≤ b
        have a4 : β.b.heap.objs.size ≤ b := a4
        rw [hz, ← h0.1]; exact a4
    · rcases List.mem_append.mp hp with hp | hp
      · exact hsep p hp b hb
      · exact a6 p (List.mem_append_right _ hp)
  have loop : ∀ (m n i : Nat) (β : Bs) (ω : Ω) (ys : List V) (s : Shared) (σ : L2.St) (H : Hp), n + ys.length = mm → W i m ω ys σ H → G.Run β ip gk σ H s → (∀ p ∈ (G.cx β).pn, ∀ b ∈ fp, p.1 ≠ b) → tn i s.heap → (∀ b ∈ fp, H b = none) →
      Sg (model G.P G.w) Aw (fun e s => Ph G Aw R D.yl mm n β ω e s) (.forLoop tg (.ref it) body [] G.env) ((model G.P G.w).den (.forLoop tg (.ref it) body [] G.env))
        (.ret (fun r => ((match r with | .ok f => (.pure f : Sem Flow) | .error e => .raise e).onRaise (L2.cameBack G.env)).wrap K JJ gd lv) none (gd false) (lv []) c p [] :: fs) s := by
    intro m
    induction m using Nat.strongRecOn with
    | ind m ih =>
      intro n i β ω ys s σ H hn w ⟨h0, I, sep, kp⟩ sepf st fr
      have ee : ∀ (n : Nat) (β : Bs) (ω : Ω) (x : Value) (s' : Shared), Up ((G.cx β).xe x) s' → Sg (model G.P G.w) Aw (fun e s => Ph G Aw R D.yl mm n β ω e s) (.forLoop tg (.ref it) body [] G.env) (Vl.noted1 G.env x)
          (.ret (fun r => ((match r with | .ok f => (.pure f : Sem Flow) | .error e => .raise e).onRaise (L2.cameBack G.env)).wrap K JJ gd lv) none (gd false) (lv []) c p [] :: fs) s' := fun n β ω x s' hx => by
        unfold Vl.noted1
        rw [Sem.bind_eq_wrap]
        refine sg_wrap ?_
        rw [(gl _).over]
        refine wpAny_bind (wpAny_mono (wpAny_up (Up.imp (fun s1 h => owns_gx (G := G) (β := β) x s1 h) hx)) (fun _ s'' hcb => wpAny_theTreesLotGoes ?_) fun y s'' hcb => ?_)
        · exact sg_leaf (.error x) (sg_cameBack g k hcb)
        · exact sg_leaf (.error y) (sg_cameBack g k hcb)
      refine sg_forLoop ?_
      rw [(gl _).over]
      rcases turn i m ω ys σ H w with ⟨stop, qn⟩ | ⟨go, N, hN, step⟩
      · refine wpAny_mono (wpAny_sleep I.bare (T.done (G.cx β) rfl rfl rfl rfl i _ (pzd s) σ H (G.cx β).xe (inv_pzd I) (stat h0.1 sepf fr) st stop)) (fun r1 s4 hh => ?_) fun x s' hx => ee n β ω x s' hx
        obtain ⟨s4, rfl, z4, hr, I4⟩ := hh
        subst hr
        exact sg_leaf (.ok .next) (k.ok n β ω ys _ .next hn ⟨σ, H, ⟨h0, inv_rs (ob_of I.bare) I4, sep, kp.rs (z4)⟩, qn⟩)
      · refine wpAny_mono (wpAny_sleep I.bare (T.item (G.cx β) rfl rfl rfl rfl i _ (pzd s) σ H (G.cx β).xe (inv_pzd I) (stat h0.1 sepf fr) st go)) (fun r1 s4 hh => ?_) fun x s' hx => ee n β ω x s' hx
        obtain ⟨s4, rfl, z4, u, hr, h4⟩ := hh
        subst hr
        refine wpAny_mono (wpAny_bk z4 h4) (fun _ s5 hh => ?_) fun x s' hx => ee n β ω x s' (.inr ⟨_, _, ob_of I.bare, hx⟩)
        obtain ⟨s5, rfl, z5, x, H5, I5, r5, y5, st5, fr5⟩ := hh
        have I5' := I5.pinned (stat h0.1 sepf fr5) (T.obj _ _ st5)
        refine wpAny_mono (wpAny_bk z5 ((hg β).run _ s5 σ H5 x u _ I5' r5 (step x H5 y5))) (fun _ s6 hh => ?_) fun x s' hx => ee n β ω x s' (.inr ⟨_, _, ob_of I.bare, hx⟩)
        obtain ⟨s6, rfl, z6, σ6, H6, I6, q6⟩ := hh
        have sep6 : ∀ p ∈ (G.cx β).pn, ∀ q ∈ ip ++ pinsAt fp s5.heap, p.1 ≠ q.1 := fun p hp q hq => by
          rcases List.mem_append.mp hq with hq | hq
          · exact sep p hp q hq
          · exact sepf p hp q.1 (of_pinsAt hq).1
        refine hb.run Aw R mm n (ip ++ pinsAt fp s5.heap) gk β ω ys _ _ _ _ id id _ σ6 H6 { D with nx := N, ct := N, bk := D.nx } fw (gl _) hn ⟨fun n' β' ω' ys' s7 f hn' hs => ?_, fun n' β' ω' x s3 hx => ee n' β' ω' x s3 hx⟩ ⟨h0, inv_rs (ob_of I.bare) I6, sep6, kp.rs (z6)⟩ q6
        have again : ∀ {σ7 H7}, G.Run β' (ip ++ pinsAt fp s5.heap) gk σ7 H7 s7 → N ω' ys' σ7 H7 → Sg (model G.P G.w) Aw (fun e s => Ph G Aw R D.yl mm n' β' ω' e s) (.forLoop tg (.ref it) body [] G.env) (.pure (.again (.forLoop tg (.ref it) body [] G.env)))
            (.ret (fun r => ((match r with | .ok f => (.pure f : Sem Flow) | .error e => .raise e).onRaise (L2.cameBack G.env)).wrap K JJ gd lv) none (gd false) (lv []) c p [] :: fs) s7 := fun {σ7 H7} ⟨h7, I7, sep7, kp7⟩ n7 => by
          obtain ⟨m', hm, w7⟩ := hN ω' ys' σ7 H7 n7
          refine sg_again rfl (ih m' hm n' (i + 1) β' ω' ys' s7 σ7 H7 hn' w7 ⟨h7, Inv.unpinned (pl := pinsAt fp s5.heap) I7, fun p hp q hq => sep7 p hp q (List.mem_append_left _ hq), kp7⟩ (fun p hp b hb => ?_) (T.keep _ _ _ st5 fun b hb o e => (I7.pin (b, o) (List.mem_append_right _ (List.mem_append_right _ (mem_pinsAt hb e)))).1) fun b hb => ?_)
          · obtain ⟨o, e, d⟩ := T.obj _ _ st5 b hb
            exact sep7 p hp (b, o) (List.mem_append_right _ (mem_pinsAt hb e))
          · obtain ⟨o, e, d⟩ := T.obj _ _ st5 b hb
            exact (I7.pin (b, o) (List.mem_append_right _ (List.mem_append_right _ (mem_pinsAt hb e)))).2.1
        have back : ∀ {σ7 H7}, G.Run β' (ip ++ pinsAt fp s5.heap) gk σ7 H7 s7 → G.Run β' ip gk σ7 H7 s7 := fun ⟨h7, I7, sep7, kp7⟩ => ⟨h7, Inv.unpinned (pl := pinsAt fp s5.heap) I7, fun p hp q hq => sep7 p hp q (List.mem_append_left _ hq), kp7⟩
        cases f with
        | next =>
          obtain ⟨σ7, H7, I7, n7⟩ := hs
          exact again I7 n7
        | cont =>
          obtain ⟨σ7, H7, I7, n7⟩ := hs
          exact again I7 n7
        | brk =>
          obtain ⟨σ7, H7, I7, q7⟩ := hs
          exact sg_leaf (.ok .next) (k.ok n' β' ω' ys' s7 .next hn' ⟨σ7, H7, back I7, q7⟩)
        | ret u7 =>
          obtain ⟨v7, σ7, H7, I7, e7, q7⟩ := hs
          exact sg_leaf (.ok (.ret u7)) (k.ok n' β' ω' ys' s7 (.ret u7) hn' ⟨v7, σ7, H7, back I7, e7, q7⟩)
  exact loop m0 n 0 β ω ys _ σ H2 hn w0 ⟨h0, inv_rs (ob_of I0.bare) I2, sep0, kp0.rs z2⟩ (fun p hp b hb => (f2 b hb).2.2.2.2.2 p (List.mem_append_left _ hp)) st2 fun b hb => (f2 b hb).1
structure GS3 (G : Gd) (st : Stmt) (t : TG2 Ω) : Prop where
  run : ∀ (Aw : Around) (R : Nat → Bs → Ω → Result → Shared → Prop) (m n : Nat) (ip : List (Addr × Obj)) (β : Bs) (ω : Ω) (ys : List V) (c : Code) (fs : List Frame) (K : Flow → Sem PySem.Fin) (J : Value → Sem PySem.Fin) (gd : Bool → Bool) (lv : List Value → List Value) (s : Shared) (σ : L2.St) (H : Hp) (D : GE Ω),
    Few D.yl m → GC2 G Aw c fs gd → n + ys.length = m → GK2 G Aw R D.yl m ip #[] c fs K J D → G.Run β ip #[] σ H s → t D ω ys σ H →
    Sg (model G.P G.w) Aw (fun e s => Ph G Aw R D.yl m n β ω e s) c ((exec st G.env).wrap K J gd lv) fs s
structure GSs3 (G : Gd) (st : List Stmt) (t : TG2 Ω) : Prop where
  run : ∀ (Aw : Around) (R : Nat → Bs → Ω → Result → Shared → Prop) (m n : Nat) (ip : List (Addr × Obj)) (β : Bs) (ω : Ω) (ys : List V) (c : Code) (fs : List Frame) (K : Flow → Sem PySem.Fin) (J : Value → Sem PySem.Fin) (gd : Bool → Bool) (lv : List Value → List Value) (s : Shared) (σ : L2.St) (H : Hp) (D : GE Ω),
    Few D.yl m → GC2 G Aw c fs gd → n + ys.length = m → GK2 G Aw R D.yl m ip #[] c fs K J D → G.Run β ip #[] σ H s → t D ω ys σ H →
    Sg (model G.P G.w) Aw (fun e s => Ph G Aw R D.yl m n β ω e s) c ((execs st G.env).wrap K J gd lv) fs s
theorem GS2.g3 {t : TG2 Ω} (h : GS2 G st t) : GS3 G st t := ⟨fun Aw R m n ip => h.run Aw R m n ip #[]⟩
theorem GSs2.g3 {t : TG2 Ω} (h : GSs2 G rest t) : GSs3 G rest t := ⟨fun Aw R m n ip => h.run Aw R m n ip #[]⟩
theorem g3s_cons {t u : TG2 Ω} (a : GS3 G st t) (b : GSs3 G rest u) : GSs3 G (st :: rest) (t2Then t u) := by
  refine ⟨fun Aw R m n ip β ω ys c fs K J gd lv s σ H D fw g hn k hI ht => ?_⟩
  refine sg_execs_cons ?_
  refine a.run Aw R m n ip β ω ys c fs _ J gd lv s σ H { D with nx := fun ω' ys' σ' H' => u D ω' ys' σ' H' } fw g hn ⟨fun n' β' ω' ys' s' f hn' hs => ?_, k.exc⟩ hI ht
  cases f with
  | next =>
    obtain ⟨σ', H', I', q⟩ := hs
    exact b.run Aw R m n' ip β' ω' ys' c fs K J gd lv s' σ' H' D fw g hn' k I' q
  | brk => exact k.ok n' β' ω' ys' s' .brk hn' hs
  | cont => exact k.ok n' β' ω' ys' s' .cont hn' hs
  | ret u => exact k.ok n' β' ω' ys' s' (.ret u) hn' hs
theorem g3_if {test : Expr} {body orelse : List Stmt} {pos : Pos} {tc : TT} {t u : TG2 Ω} (hc : ∀ β, PT (G.cx β) test tc) (a : GSs3 G body t) (b : GSs3 G orelse u) : GS3 G (.If test body orelse pos) (t2If tc t u) := by
  refine ⟨fun Aw R m n ip β ω ys c fs K J gd lv s σ H D fw g hn k ⟨h0, I, sep, kp⟩ ht => ?_⟩
  rw [exec_If]
  refine sg_at ?_
  show Sg _ Aw _ c (Sem.wrap K J gd lv (isTrue test G.env (eval test G.env) >>= fun b => if b = true then execs body G.env else execs orelse G.env)) fs s
  refine sg_bindw ?_
  rw [g.over]
  refine wpAny_mono (wpAny_sleep I.bare ((hc β).run ip (pzd s) σ H _ (inv_pzd I) ht)) (fun bb s' hb => ?_) fun x s' hx => k.exc n β ω x s' hx
  obtain ⟨s1, rfl, z, H2, I2, q2⟩ := hb
  have I2 := inv_rs (ob_of I.bare) I2
  have kp := kp.rs (z)
  cases bb with
  | true =>
    rw [if_pos rfl] at q2 ⊢
    exact a.run Aw R m n ip β ω ys c fs K J gd lv _ σ H2 D fw g hn k ⟨h0, I2, sep, kp⟩ q2
  | false =>
    rw [if_neg Bool.false_ne_true] at q2 ⊢
    exact b.run Aw R m n ip β ω ys c fs K J gd lv _ σ H2 D fw g hn k ⟨h0, I2, sep, kp⟩ q2
end
end
end Gn
set_option Elab.async false
set_option linter.all false
set_option maxRecDepth 100000
set_option maxHeartbeats 1000000
namespace Gn
open PySem PySem.Spec PyProof.Rows GenW L2
def cutH (n : Nat) (h : Heap) : Heap := ⟨(h.objs.toList.take n).toArray, h.life⟩
theorem cutH_size {n : Nat} {h : Heap} (l : n ≤ h.objs.size) : (cutH n h).objs.size = n := by
  show ((h.objs.toList.take n).toArray).size = n
  simp
  omega
theorem cutH_get {n : Nat} {h : Heap} {a : Addr} (l : a < n) : (cutH n h).get? a = h.get? a := by
  have e : ((h.objs.toList.take n).toArray)[a]? = h.objs[a]? := by
    rw [List.getElem?_toArray, List.getElem?_take_of_lt l, Array.getElem?_toList]
  show (match ((h.objs.toList.take n).toArray)[a]? with | some ⟨_, _, .freed, _⟩ => none | o => o) = _
  rw [e]
  rfl
theorem cutH_some {n : Nat} {h : Heap} {a : Addr} {o : Obj} (l : n ≤ h.objs.size) (e : (cutH n h).get? a = some o) : a < n ∧ h.get? a = some o := by
  have q := Heap.lt_size e
  rw [cutH_size l] at q
  exact ⟨q, by rw [cutH_get q] at e; exact e⟩
def bsAt (n0 : Nat) (s2 : Shared) (H2 : Hp) (cp : List (Addr × Obj)) : Bs := ⟨{ s2 with heap := cutH n0 s2.heap }, H2, cp⟩
theorem funFrames_of {h h' base : Heap} {l : List Env} (hl : h.FunFrames base l) (k : ∀ env ∈ l, ∀ L, env.frame = some L → ∀ o, h.get? L = some o → (∀ vs, o.data ≠ .fields vs) → ∃ o', h'.get? L = some o' ∧ ∀ vs, o'.data ≠ .fields vs) : h'.FunFrames base l := by
  induction l with
  | nil => trivial
  | cons env rest ih =>
    obtain ⟨h1, ⟨L, o, e1, e2, e3, e4⟩, h3⟩ := hl
    obtain ⟨o', f1, f2⟩ := k env (.head _) L e1 o e3 e4
    exact ⟨h1, ⟨L, o', e1, e2, f1, f2⟩, ih h3 fun e he => k e (.tail _ he)⟩
structure Left (G : Gd) (ip : List (Addr × Obj)) (s : Shared) (H2 : Hp) (s2 : Shared) (cp : List (Addr × Obj)) : Prop where
  os : s2.os = s.os
  bare : AllBare s2.gens
  hok : HOk G.P G.w H2 s2.heap
  sz : G.n0 ≤ s2.heap.objs.size
  own : ∀ p ∈ G.pn ++ ip, s2.heap.get? p.1 = some p.2 ∧ H2 p.1 = none
  loc : ∀ o, s.heap.get? G.n0 = some o → s2.heap.get? G.n0 = some o
  locH : H2 G.n0 = none
  bs : ∀ b o, G.base.get? b = some o → s2.heap.get? b = some o ∧ H2 b = none
  fr : ∀ env ∈ G.outer, ∀ L, env.frame = some L → ∃ o', s2.heap.get? L = some o' ∧ ∀ vs, o'.data ≠ .fields vs
  frf : ∀ b ∈ frs G.outer, H2 b = none ∧ b < G.n0
  cps : ∀ p ∈ cp, s2.heap.get? p.1 = some p.2 ∧ H2 p.1 = none ∧ p.1 ≠ G.n0 ∧ p.1 ∉ frs G.outer ∧ ∀ v, p.2.data ≠ .cell v
  sep : ∀ p ∈ cp, ∀ q ∈ ip, p.1 ≠ q.1
theorem Gd.Run.woken {G : Gd} {β : Bs} {ip : List (Addr × Obj)} {gk : Array GenState} {σ : L2.St} {H H2 : Hp} {s s2 : Shared} {cp : List (Addr × Obj)} (R : G.Run β ip gk σ H s) (hcl : G.env.cells = []) (h : Left G ip s H2 s2 cp) (hk : Kq G.gi gk s2.gens) : G.Run (bsAt G.n0 s2 H2 cp) ip gk σ H2 s2 := by
  obtain ⟨n, I, sep, _⟩ := R
  have ln : G.n0 ≤ s.heap.objs.size := by
    obtain ⟨m, ⟨o, es, ep, ho, r⟩, _⟩ := I.loc
    exact Nat.le_of_lt (Heap.lt_size ho)
  have l2 : G.n0 ≤ s2.heap.objs.size := h.sz
  have noc : ∀ x c, G.env.cells.lookup x = some c → False := fun x c e => by rw [hcl] at e; cases e
  refine ⟨⟨cutH_size l2, (h.os.trans I.os).trans n.2⟩, ⟨⟨I.ok.mod, I.ok.kind, I.ok.glob, I.ok.blt, ?_, fun x y c e => (noc x c e).elim, I.ok.has, fun x c _ e => (noc x c e).elim, I.ok.hd, I.ok.frames, I.ok.stk, fun b hb => absurd (show b ∈ ([] : List Addr) from hb) (by simp), fun b o e => ?_, ?_, fun b o e hb => absurd (show b ∈ ([] : List Addr) from hb) (by simp), fun b hb => absurd (show b ∈ ([] : List Addr) from hb) (by simp), ?_, fun b hb => (h.frf b hb).1⟩,
    rfl, h.bare, ⟨fun b o e _ _ _ => (cutH_some l2 e).2, fun b o e _ _ _ => ⟨o.slots, (cutH_some l2 e).2⟩, fun b o _ e _ => e, fun b o e _ => ⟨o, (cutH_some l2 e).2⟩, fun b xs e => e, fun b o u e => e, fun b ps e => ⟨#[], by have e9 : H2 b = some (.tbl ps) := e; rw [e9]; simp⟩⟩, ?_, fun x c e => (noc x c e).elim, h.locH, fun x c e => (noc x c e).elim, fun p hp => ?_, h.hok, I.len⟩, fun p hp q hq => ?_, hk⟩
  · show (cutH G.n0 s2.heap).objs.size ≤ G.n0
    rw [cutH_size l2]
    exact Nat.le_refl _
  · obtain ⟨q1, q2⟩ := h.bs b o e
    refine ⟨?_, q2⟩
    show (cutH G.n0 s2.heap).get? b = some o
    rw [cutH_get]
    · exact q1
    · have := I.ok.bsz
      have this : G.base.objs.size ≤ β.b.heap.objs.size := this
      rw [n.1] at this
      exact Nat.lt_of_lt_of_le (Heap.lt_size e) this
  · show G.base.objs.size ≤ (cutH G.n0 s2.heap).objs.size
    rw [cutH_size l2, ← n.1]
    exact I.ok.bsz
  · refine funFrames_of I.ok.funs fun env he L hL o _ _ => ?_
    obtain ⟨o', f1, f2⟩ := h.fr env he L hL
    have hm : L ∈ frs G.outer := List.mem_filterMap.mpr ⟨env, he, hL⟩
    refine ⟨o', ?_, f2⟩
    show (cutH G.n0 s2.heap).get? L = some o'
    rw [cutH_get (h.frf L hm).2]
    exact f1
  · obtain ⟨m, ⟨o, es, ep, ho, r⟩, hl⟩ := I.loc
    refine ⟨m, ⟨o, es, ep, h.loc o ho, r⟩, fun i x v e1 e2 e3 => ?_⟩
    obtain ⟨u, ru, l⟩ := hl i x v e1 e2 e3
    refine ⟨u, ru, ?_⟩
    rcases l with l | ⟨_, c, e, _⟩
    · exact .inl l
    · exact (noc x c e).elim
  · have hp : p ∈ (G.pn ++ cp) ++ ip := hp
    rcases List.mem_append.mp hp with hp | hp
    · rcases List.mem_append.mp hp with hp | hp
      · obtain ⟨_, _, a3, a4, a5⟩ := I.pin p (List.mem_append_left _ (List.mem_append_left _ hp))
        obtain ⟨b1, b2⟩ := h.own p (List.mem_append_left _ hp)
        exact ⟨b1, b2, a3, a4, a5⟩
      · exact h.cps p hp
    · obtain ⟨_, _, a3, a4, a5⟩ := I.pin p (List.mem_append_right _ hp)
      obtain ⟨b1, b2⟩ := h.own p (List.mem_append_right _ hp)
      exact ⟨b1, b2, a3, a4, a5⟩
  · have hp : p ∈ G.pn ++ cp := hp
    rcases List.mem_append.mp hp with hp | hp
    · exact sep p (List.mem_append_left _ hp) q hq
    · exact h.sep p hp q hq
section
variable {Ω : Type}
def Rend (G : Gd) (D : GE Ω) (m n : Nat) (β : Bs) (ω : Ω) (r : Result) (s' : Shared) : Prop :=
  ((r = .ok (.ret .none) ∨ r = .ok .next) ∧ ∃ ys ip gk σ H, n + ys.length = m ∧ G.Run β ip gk σ H s' ∧ (D.nx ω ys σ H ∨ D.rt ω ys .non H)) ∨ ∃ e, r = .error e ∧ Up (fun s' => CX G.P G.w G.outer β.H β.b G.E e s') s'
def Made2 (P : Program) (w : World) (K : PySem.W.Frag) (mg : Str → Option Value) (base : Heap) (k nN : Nat) (nw : Bool) (outer : List Env) (H : Hp) (s : Shared) (vs : List V) (t : TG2 Ω) (E : XK) (u : Value) (s' : Shared) : Prop :=
  ∃ (a : Addr) (g : Nat) (c : Code) (N : List Str) (qual : Str) (scope : Scope) (f : Addr) (cd : Value) (go : Obj), u = .ref a ∧ s.heap.objs.size < a ∧ a < s'.heap.objs.size ∧ (∀ h : Heap, h.get? a = some go → h.IsGen a g) ∧ (∀ v, go.data ≠ .cell v) ∧ s'.heap.get? a = some go ∧ s'.gens[g]? = some (.fresh c) ∧ s.gens.size ≤ g ∧ s'.os = s.os ∧ AllBare s'.gens ∧ s'.heap.NoLimit ∧
    (∀ b o, s.heap.get? b = some o → s'.heap.get? b = some o) ∧ (cellsFrom (s.heap.objs.size + 1) scope.names []) = [] ∧ N.length = nN ∧
    ∀ (A : Around), Room k A → A.frames = some outer →
      (⟨P, w, K, mg, base, N, qual, scope, s.heap.objs.size, f, cd, A, outer, E, [(a, go)], g, nw, s.os⟩ : Gd).Run ⟨s, H, []⟩ [] #[] (start N vs) H s' ∧
      ∀ (D : GE Ω) (m : Nat) (β : Bs) (ω : Ω) (H2 : Hp) (s2 : Shared), (∀ ω ys v H, D.rt ω ys v H → v = .non) → (∀ ω ys σ H, ¬ D.bk ω ys σ H ∧ ¬ D.ct ω ys σ H) → (⟨P, w, K, mg, base, N, qual, scope, s.heap.objs.size, f, cd, A, outer, E, [(a, go)], g, nw, s.os⟩ : Gd).Run β [] #[] (start N vs) H2 s2 → Few D.yl m → t D ω [] (start N vs) H2 →
        Sg (model P w) A (fun e s3 => Ph (⟨P, w, K, mg, base, N, qual, scope, s.heap.objs.size, f, cd, A, outer, E, [(a, go)], g, nw, s.os⟩ : Gd) A (Rend ⟨P, w, K, mg, base, N, qual, scope, s.heap.objs.size, f, cd, A, outer, E, [(a, go)], g, nw, s.os⟩ D m) D.yl m m β ω e s3) c ((model P w).den c) [] s2
structure GFn2 (P : Program) (w : World) (K : PySem.W.Frag) (mg : Str → Option Value) (base : Heap) (k nN : Nat) (nw : Bool) (f : Addr) (fd : FuncData) (ps : List Str) (t : List V → TG2 Ω) : Prop where
  run : ∀ (A : Around) (outer : List Env) (s : Shared) (H : Hp) (args : Args) (us : List Value) (vs : List V) (E : XK), Room k A → Env0 P w K mg base A outer s H → BindsTo s fd args (ps.zip us) → Vals vs us → vs.length = ps.length →
    codeAny (model P w) A (.call (.ref f) args) (fun r s' => match r with | .ok (.ret u) => Made2 P w K mg base k nN nw outer H s vs (t vs) E u s' | _ => False) s
theorem gfn2_of {nw : Bool} {P : Program} {w : World} {K : PySem.W.Frag} {mg : Str → Option Value} {base : Heap} {k : Nat} {f : Addr} {name qual : Str} {params : Arguments} {body : List Stmt} {scope : Scope} {dV kV doc pm cdv ct oc : Value} {an od : Option Addr}
    {osl : Array (Option Value)} {N ps : List Str} {t : List V → TG2 Ω} (lk : K.lookup f = some ⟨oc, od, .func (PySem.W.fnOf name qual params body scope dV kV doc pm an cdv ct), osl⟩) (hcd : PySem.W.codeIn K cdv qual = true) (S : GScope N ps scope) (hnc : ∀ n, cellsFrom n scope.names [] = [])
    (hbody : ∀ (A : Around) (outer : List Env) (n0 : Nat) (E : XK) (pn : List (Addr × Obj)) (gi : Nat) (os : OsState) (vs : List V), Room k (A.deeper (envOfC qual scope n0 f cdv)) → GSs3 (⟨P, w, K, mg, base, N, qual, scope, n0, f, cdv, A, outer, E, pn, gi, nw, os⟩ : Gd) body (t vs)) :
    GFn2 P w K mg base (k + 1) N.length nw f (PySem.W.fnOf name qual params body scope dV kV doc pm an cdv ct) ps t := by
  refine ⟨fun A outer s H args us vs E hr e0 hb r hl => ?_⟩
  have KX : K.In s.heap := e0.mod.kin.keeps fun b o e => (e0.bs b o e).1
  have lim : s.heap.NoLimit := e0.mod.nolimit.keeps fun b o e => (e0.bs b o e).1
  have hkind : ∀ y ∈ ps.zip us, scope.names.lookup y.1 = some .local ∨ (scope.names.lookup y.1 = some .cell ∧ ((cellsFrom (s.heap.objs.size + 1) scope.names []).lookup y.1).isSome = true) := fun ⟨n, v⟩ hy => by
    rcases S.par n (List.of_mem_zip hy).1 with q | q
    · exact .inl q
    · exact .inr ⟨q, PySem.W.cellsFrom_some _ _ _ (.inl q)⟩
  refine codeAny_call_generator hr.depth (KX _ _ lk) rfl S.co S.gen rfl (PySem.W.codeRec_of KX hcd) (hb _ _ _ _ ?_)
  refine wpAny_newFunctionEnv_cells S.kind hkind fun env he s1 x => ?_
  subst he
  have lim1 : s1.heap.NoLimit := lim.keeps x.toInCall.keep
  refine ⟨lim1, ?_⟩
  obtain ⟨h1, tk, es1, hk1⟩ := x.done
  have os1 : s1.os = s.os := by rw [es1]
  have gen1 : s1.gens = s.gens := by rw [es1]
  have lt1 : s.heap.objs.size < s1.heap.objs.size := x.toInCall.ns.lt
  have sz1 : s.heap.objs.size ≤ s1.heap.objs.size := Nat.le_of_lt lt1
  have kp1 : ∀ b o, s.heap.get? b = some o → s1.heap.get? b = some o := x.toInCall.keep
  have main : ∀ (go : Obj) (nm qn : Value) (tk2 : Nat), go.cls = .type "generator" → go.data = .fields #[.int s1.gens.size 0, nm, qn] → go.slots = #[] → (∀ h : Heap, (h.push go).get? h.objs.size = some go) →
      Made2 P w K mg base (k + 1) N.length nw outer H s vs (t vs) E (.ref s1.heap.objs.size) { s1 with gens := s1.gens.push (.fresh (.func body (envOfC qual scope s.heap.objs.size f cdv))), toks := tk2, heap := s1.heap.push go } := by
    intro go nm qn tk2 hgc hgd0 hgs hgp
    have hgd : ∀ v, go.data ≠ .cell v := fun v q => by rw [hgd0] at q; cases q
    have hgen : ∀ h : Heap, h.get? s1.heap.objs.size = some go → h.IsGen s1.heap.objs.size s1.gens.size := fun h e => ⟨go, nm, qn, e, hgc, hgd0, hgs⟩
    have hpushed : (s1.heap.push go).get? s1.heap.objs.size = some go := hgp _
    have hbare : AllBare (s1.gens.push (.fresh (.func body (envOfC qual scope s.heap.objs.size f cdv)))) := AllBare.push (by rw [gen1]; exact e0.bare) rfl
    refine ⟨s1.heap.objs.size, s1.gens.size, _, N, qual, scope, f, cdv, go, rfl, lt1, ?_, hgen, hgd, hpushed, Array.getElem?_push_size .., by rw [gen1]; exact Nat.le_refl _, os1, hbare, lim1.keeps fun b o e => Heap.get?_push_of_some _ e, fun b o e => Heap.get?_push_of_some _ (kp1 b o e), hnc _, rfl, fun Aw hrw hfr => ⟨?_, ?_⟩⟩
    · show _ < (s1.heap.push _).objs.size
      rw [Heap.size_push]; exact Nat.lt_succ_self _
    · have e0w : Env0 P w K mg base Aw outer s H := ⟨hfr, e0.mod, e0.bs, e0.bsz, e0.funs, e0.frf, e0.hok, e0.bare⟩
      have I1 : Inv (gcxOf P w K mg base N qual scope f cdv Aw outer s H E []) [] (start N vs) H s1 := inv_startG S hrw.hd e0w hl r x
      have kp2 : ∀ b o, s1.heap.get? b = some o → (s1.heap.push go).get? b = some o := fun b o e => Heap.get?_push_of_some _ e
      have I2 : Inv (gcxOf P w K mg base N qual scope f cdv Aw outer s H E []) [] (start N vs) H { s1 with gens := s1.gens.push (.fresh (.func body (envOfC qual scope s.heap.objs.size f cdv))), toks := tk2, heap := s1.heap.push go } :=
        I1.call' (ch := []) rfl (Un.kept kp2) (I1.hok.kept kp2) hbare fun b z => by simp at z
      refine ⟨⟨rfl, rfl⟩, Inv.pinnedG (pn := [(s1.heap.objs.size, go)]) I2 fun p hp => ?_, fun p hp q hq => absurd hq (by simp), kq_none (by show _ < (s1.gens.push _).size; rw [Array.size_push]; exact Nat.lt_succ_self _)⟩
      rcases List.mem_append.mp hp with z | z
      · rw [List.mem_singleton.mp z]
        exact ⟨hpushed, I1.hok.fresh (Nat.le_refl _), Nat.ne_of_gt lt1, I1.nofs (Nat.le_refl _), hgd⟩
      · exact absurd z (by simp)
    · intro D m β ω H2 s2 hrt hbc hR hfew ht
      refine sg_func ?_
      refine (hbody Aw outer s.heap.objs.size E [(s1.heap.objs.size, go)] s1.gens.size s.os vs (hrw.deeper _)).run Aw _ m m [] β ω [] _ [] _ _ id id s2 (start N vs) H2 D hfew ⟨over_func, rfl, rfl, rfl⟩ (Nat.add_zero _) ⟨fun n β' ω' ys s' fl hn hs => ?_, fun n β' ω' e s' hx => ?_⟩ hR ht
      · cases fl with
        | next =>
          obtain ⟨σ', H', hI, hQ⟩ := hs
          refine sg_end (.ok (.ret .none)) ?_
          unfold Ph
          exact .inl ⟨.inl rfl, ys, [], _, σ', H', hn, hI, .inl hQ⟩
        | brk =>
          obtain ⟨σ', H', hI, hQ⟩ := hs
          exact ((hbc _ _ _ _).1 hQ).elim
        | cont =>
          obtain ⟨σ', H', hI, hQ⟩ := hs
          exact ((hbc _ _ _ _).2 hQ).elim
        | ret u =>
          obtain ⟨v, σ', H', hI, rv, hQ⟩ := hs
          have ev := hrt _ _ _ _ hQ
          subst ev
          have eu : u = Value.none := rv
          subst eu
          refine sg_end (.ok (.ret .none)) ?_
          unfold Ph
          exact .inl ⟨.inl rfl, ys, [], _, σ', H', hn, hI, .inr hQ⟩
      · refine sg_wrap ?_
        rw [over_func]
        refine wpAny_mono (wpAny_up (show Up (wpAny (model P w) (Aw.deeper (envOfC qual scope s.heap.objs.size f cdv)) (PySem.leaving (envOfC qual scope s.heap.objs.size f cdv) e) (fun _ s'' => CX P w outer β'.H β'.b E e s'' ∧ ∀ p ∈ [(s1.heap.objs.size, go)] ++ β'.cp, s''.heap.get? p.1 = some p.2) (fun _ _ => False)) s' from hx)) (fun _ s'' q => ?_) fun _ s'' q => ?_
        · refine sg_end (.error e) ?_
          unfold Ph
          exact .inr ⟨e, rfl, q.imp fun s q => q.1⟩
        · rcases q with q | ⟨o, nn, ho, s1, es, z, q⟩
          · exact q.elim
          · exact q.elim
  exact main _ _ _ _ rfl rfl rfl fun h => Heap.get?_push_size _ rfl
end
end Gn
set_option Elab.async false
set_option linter.all false
set_option maxRecDepth 100000
set_option maxHeartbeats 1000000
namespace Vl
open PySem PySem.Spec PyProof.Rows L2 My Gn
abbrev Om := Cfg × Cl
def Wk (K : PySem.W.Frag) (I : Hp) (g : Sg) (r : Cl) (σ : L2.St) : Hp → Om → Prop := fun H2 ω2 => ∃ I2, Le I I2 ∧ ω2 = (⟨I2, σ, H2, g⟩, r) ∧ Ok K ⟨I2, σ, H2, g⟩ ∧ Cells K ⟨I2, σ, H2, g⟩ r
def Vo (g : Sg) (r : Cl) : Prop := (∀ (i : Nat) t d, g[i]? ≠ some (Sl.own t d)) ∧ r = []
structure Back2 (K : PySem.W.Frag) (nw : Bool) (I0 : Hp) (Pp : List D → Prop) (E : EG) (D : GE Om) : Prop where
  nx : ∀ (ω : Om) I σ H g r ys ds, Le I0 I → Ok K ⟨I, σ, H, g⟩ → Cells K ⟨I, σ, H, g⟩ r → GoC ω.1 ω.2 ⟨I, σ, H, g⟩ r → Reps K I ys ds → E.nx ds g r → D.nx ω ys σ H
  bk : ∀ (ω : Om) I σ H g r ys ds, Le I0 I → Ok K ⟨I, σ, H, g⟩ → Cells K ⟨I, σ, H, g⟩ r → GoC ω.1 ω.2 ⟨I, σ, H, g⟩ r → Reps K I ys ds → E.bk ds g r → D.bk ω ys σ H
  ct : ∀ (ω : Om) I σ H g r ys ds, Le I0 I → Ok K ⟨I, σ, H, g⟩ → Cells K ⟨I, σ, H, g⟩ r → GoC ω.1 ω.2 ⟨I, σ, H, g⟩ r → Reps K I ys ds → E.ct ds g r → D.ct ω ys σ H
  rt : ∀ (ω : Om) I σ H v x g r ys ds, Le I0 I → Ok K ⟨I, σ, H, g⟩ → Cells K ⟨I, σ, H, g⟩ r → GoC ω.1 ω.2 ⟨I, σ, H, g⟩ r → RtR K ω.1 ⟨I, σ, H, g⟩ v x → Reps K I ys ds → E.rt x ds g r → D.rt ω ys v H
  yl : ∀ (ω : Om) I σ H g r ys x ds d, Le I0 I → Ok K ⟨I, σ, H, g⟩ → Cells K ⟨I, σ, H, g⟩ r → GoC ω.1 ω.2 ⟨I, σ, H, g⟩ r → Reps K I (ys ++ [x]) (ds ++ [d]) → Pp (ds ++ [d]) → (nw = true → Vo g r) → D.yl ω (ys ++ [x]) σ H (Wk K I g r σ)
  pnx : ∀ ds g r, E.nx ds g r → Pp ds
  pbk : ∀ ds g r, E.bk ds g r → Pp ds
  pct : ∀ ds g r, E.ct ds g r → Pp ds
  prt : ∀ x ds g r, E.rt x ds g r → Pp ds
  pex : ∀ c fs, ¬ E.exn c fs
  cl : ∀ ds es, Pp (ds ++ es) → Pp ds
def Lead (T : TGC) : Prop := ∀ (E : EG) (Pp : List D → Prop), (∀ ds es, Pp (ds ++ es) → Pp ds) → (∀ ds g r, E.nx ds g r → Pp ds) → (∀ ds g r, E.bk ds g r → Pp ds) → (∀ ds g r, E.ct ds g r → Pp ds) → (∀ x ds g r, E.rt x ds g r → Pp ds) → (∀ c fs, ¬ E.exn c fs) → ∀ ds g r, T E ds g r → Pp ds
def rdY (K : PySem.W.Frag) (nw : Bool) (T : TGC) : TG2 Om := fun D ω ys σ H => ∃ I g r E ds Pp, Ok K ⟨I, σ, H, g⟩ ∧ Cells K ⟨I, σ, H, g⟩ r ∧ GoC ω.1 ω.2 ⟨I, σ, H, g⟩ r ∧ Reps K I ys ds ∧ T E ds g r ∧ Back2 K nw I Pp E D
theorem Back2.up {nw : Bool} {K : PySem.W.Frag} {I0 I1 : Hp} {Pp : List D → Prop} {E : EG} {DD : GE Om} (l : Le I0 I1) (b : Back2 K nw I0 Pp E DD) : Back2 K nw I1 Pp E DD := ⟨fun ω I σ H g r ys ds h => b.nx ω I σ H g r ys ds (l.trans h), fun ω I σ H g r ys ds h => b.bk ω I σ H g r ys ds (l.trans h), fun ω I σ H g r ys ds h => b.ct ω I σ H g r ys ds (l.trans h), fun ω I σ H v x g r ys ds h => b.rt ω I σ H v x g r ys ds (l.trans h), fun ω I σ H g r ys x ds d h => b.yl ω I σ H g r ys x ds d (l.trans h), b.pnx, b.pbk, b.pct, b.prt, b.pex, b.cl⟩
structure VGC2 (G : Gd) (st : Stmt) (T : TGC) : Prop where
  gs : GS2 G st (rdY G.K G.nw T)
  lead : Lead T
structure VGCs2 (G : Gd) (st : List Stmt) (T : TGC) : Prop where
  gss : GSs2 G st (rdY G.K G.nw T)
  lead : Lead T
theorem g2_imp {G : Gd} {st : Stmt} {t t' : TG2 Om} (h : GS2 G st t) (k : ∀ D ω ys σ H, t' D ω ys σ H → t D ω ys σ H) : GS2 G st t' := ⟨fun Aw R m n ip gk β ω ys c fs K J gd lv s σ H D fw g hn kk hI ht => h.run Aw R m n ip gk β ω ys c fs K J gd lv s σ H D fw g hn kk hI (k D ω ys σ H ht)⟩
theorem g2s_imp {G : Gd} {st : List Stmt} {t t' : TG2 Om} (h : GSs2 G st t) (k : ∀ D ω ys σ H, t' D ω ys σ H → t D ω ys σ H) : GSs2 G st t' := ⟨fun Aw R m n ip gk β ω ys c fs K J gd lv s σ H D fw g hn kk hI ht => h.run Aw R m n ip gk β ω ys c fs K J gd lv s σ H D fw g hn kk hI (k D ω ys σ H ht)⟩
section
variable {G : Gd} {W : WX} {st : Stmt} {rest : List Stmt} {T T' : TC} {U U' : TGC} {pos : Pos}
theorem lead_nx : Lead (fun E ds g r => E.nx ds g r) := fun E Pp _ h _ _ _ _ ds g r k => h ds g r k
theorem lead_lift (td : TcD T) : Lead (liftG T) := fun E Pp _ h1 h2 h3 h4 h5 ds g r k => by
  by_cases e : Pp ds
  · exact e
  · exact (td.bot (E.at ds) g r ⟨fun g r q => e (h1 ds g r q), fun g r q => e (h2 ds g r q), fun g r q => e (h3 ds g r q), fun x g r q => e (h4 x ds g r q), h5⟩ k).elim
theorem lead_seq (a : Lead U) (b : Lead U') : Lead (seqG U U') := fun E Pp c h1 h2 h3 h4 h5 ds g r k =>
  a { E with nx := U' E } Pp c (fun ds g r q => b E Pp c h1 h2 h3 h4 h5 ds g r q) h2 h3 h4 h5 ds g r k
theorem back2_at {nw : Bool} {K : PySem.W.Frag} {Pp : List D → Prop} {E : EG} {DD : GE Om} {ω : Om} {c0 : Cfg} {r0 : Cl} {ys : List V} {ds : List D} (b : Back2 K nw c0.I Pp E DD) (y : GoC ω.1 ω.2 c0 r0) (p : Reps K c0.I ys ds) {W : WX} : BackC K W c0 r0 (E.at ds) (DD.at ω ys) where
  nx := fun I σ H g r o c x h => b.nx ω I σ H g r ys ds x.sub o c (y.trans x) (p.mono x.sub) h
  bk := fun I σ H g r o c x h => b.bk ω I σ H g r ys ds x.sub o c (y.trans x) (p.mono x.sub) h
  ct := fun I σ H g r o c x h => b.ct ω I σ H g r ys ds x.sub o c (y.trans x) (p.mono x.sub) h
  rt := fun I σ H v z g r o c x rv h => b.rt ω I σ H v z g r ys ds x.sub o c (y.trans x) (rv.goC y) (p.mono x.sub) h
  exn := fun I σ H e c fs g r _ _ _ _ h => (b.pex c fs h).elim
theorem VC.gen2 (td : TcD T) (h : ∀ β, VC (G.cx β) W st T) : VGC2 G st (liftG T) :=
  ⟨g2_imp (g2_ps (t := rdC G.K W T) fun β => (h β).ps) fun D ω ys σ H ⟨I, g, r, E, ds, Pp, o, c, y, p, t, b⟩ => ⟨I, g, r, E.at ds, o, c, t, back2_at b y p⟩, lead_lift td⟩
theorem VCs.gen2 (td : TcD T) (h : ∀ β, VCs (G.cx β) W rest T) : VGCs2 G rest (liftG T) :=
  ⟨g2s_imp (g2s_pss (t := rdC G.K W T) fun β => (h β).pss) fun D ω ys σ H ⟨I, g, r, E, ds, Pp, o, c, y, p, t, b⟩ => ⟨I, g, r, E.at ds, o, c, t, back2_at b y p⟩, lead_lift td⟩
theorem vg2_nil : VGCs2 G [] (fun E ds g r => E.nx ds g r) := ⟨g2s_imp g2s_nil fun D ω ys σ H ⟨I, g, r, E, ds, Pp, o, c, y, p, t, b⟩ => b.nx ω I σ H g r ys ds (Le.refl _) o c y p t, lead_nx⟩
theorem vg2_cons (h : VGC2 G st U) (hr : VGCs2 G rest U') : VGCs2 G (st :: rest) (seqG U U') := by
  refine ⟨g2s_imp (g2s_cons h.gs hr.gss) fun D ω ys σ H ⟨I, g, r, E, ds, Pp, o, c, y, p, t, b⟩ => ⟨I, g, r, { E with nx := U' E }, ds, Pp, o, c, y, p, t, ?_⟩, lead_seq h.lead hr.lead⟩
  exact ⟨fun ω1 I1 σ1 H1 g1 r1 ys1 ds1 l1 o1 c1 y1 p1 h1 => ⟨I1, g1, r1, E, ds1, Pp, o1, c1, y1, p1, h1, b.up l1⟩, b.bk, b.ct, b.rt, b.yl, fun ds g r q => hr.lead E Pp b.cl b.pnx b.pbk b.pct b.prt b.pex ds g r q, b.pbk, b.pct, b.prt, b.pex, b.cl⟩
def iteG (t : Fb) (U U' : TGC) : TGC := fun E ds g r => match t g with
  | .ok b g1 => if b = true then U E ds g1 r else U' E ds g1 r
  | .exn c fs _ => E.exn c fs
  | .stuck => False
theorem lead_ite {t : Fb} (a : Lead U) (b : Lead U') : Lead (iteG t U U') := fun E Pp c h1 h2 h3 h4 h5 ds g r k => by
  unfold iteG at k
  split at k
  · rename_i v g1 e
    cases v with
    | true => exact a E Pp c h1 h2 h3 h4 h5 ds g1 r k
    | false => exact b E Pp c h1 h2 h3 h4 h5 ds g1 r k
  · exact (h5 _ _ k).elim
  · exact k.elim
theorem vg2_if {c : Expr} {a b : List Stmt} {t : Fb} (hc : ∀ β, VT (G.cx β) W c t) (ha : VGCs2 G a U) (hb : VGCs2 G b U') : VGC2 G (.If c a b pos) (iteG t U U') := by
  refine ⟨g2_imp (g2_if (tc := rdT G.K W t) (fun β => (hc β).pt) ha.gss hb.gss) fun D ω ys σ H ⟨I, g, r, E, ds, Pp, o, c, y, p, h, b⟩ => ?_, lead_ite ha.lead hb.lead⟩
  refine ⟨I, g, o, ?_⟩
  unfold iteG at h
  split at h
  · rename_i v g1 e
    rw [e]
    rintro I1 H1 v' o1 y1 rfl
    cases v' with
    | true => exact ⟨I1, g1, r, E, ds, Pp, o1, c.go y1, y.trans (.of r y1), p.mono y1.sub, h, b.up y1.sub⟩
    | false => exact ⟨I1, g1, r, E, ds, Pp, o1, c.go y1, y.trans (.of r y1), p.mono y1.sub, h, b.up y1.sub⟩
  · exact (b.pex _ _ h).elim
  · exact h.elim
theorem lead_loop {t : Tg} (d : Lead U) : ∀ xs : List D, Lead (fun E ds g r => loopG t U E xs ds g r)
  | [] => lead_nx
  | x :: xs => fun E Pp c h1 h2 h3 h4 h5 ds g r k => by
    have ih := lead_loop (t := t) d xs
    unfold loopG at k
    cases e : tgF t x g with
    | none => rw [e] at k; exact k.elim
    | some g1 =>
      rw [e] at k
      exact d { nx := loopG t U E xs, bk := E.nx, ct := loopG t U E xs, rt := E.rt, exn := E.exn } Pp c (fun ds g r q => ih E Pp c h1 h2 h3 h4 h5 ds g r q) h1 (fun ds g r q => ih E Pp c h1 h2 h3 h4 h5 ds g r q) h4 h5 ds g1 r k
theorem lead_for {fi : Fi} {t : Tg} (d : Lead U) : Lead (forG fi t U) := fun E Pp c h1 h2 h3 h4 h5 ds g r k => by
  unfold forG at k
  cases e : fi g with
  | ok xs g1 => rw [e] at k; exact lead_loop d xs E Pp c h1 h2 h3 h4 h5 ds g1 r k
  | exn x fs g1 => rw [e] at k; exact (h5 _ _ k).elim
  | stuck => rw [e] at k; exact k.elim
theorem vg2_for {tg iter : Expr} {body : List Stmt} {fi : Fi} {t : Tg} (hi : ∀ β, VIW (G.cx β) W tg iter fi) (hg : ∀ β, VG (G.cx β) tg t) (hb : VGCs2 G body U)
    (hs : ∀ x, foldedSetIterable iter G.env x = pure x := by intro _; rfl) : VGC2 G (.For tg iter body [] pos) (forG fi t U) := by
  refine ⟨g2_imp (g2_for (wi := rdIW G.K W fi) (gt := rdG G.K t) (fun β => (hi β).pi) (fun β => (hg β).pg) hb.gss hs) fun D ω ys σ H ⟨I, g, r, E, ds, Pp, o, c, y, p, h, b⟩ => ?_, lead_for hb.lead⟩
  refine ⟨I, g, o, ?_⟩
  unfold forG at h
  cases e : fi g with
  | stuck => rw [e] at h; exact h
  | exn c' fs g1 => rw [e] at h; exact (b.pex _ _ h).elim
  | ok xs g1 =>
    rw [e] at h
    intro I1 H1 J o1 y1 hJ
    have c1 := c.go y1
    refine ⟨fun i m ω2 ys2 σ2 H2 => m = xs.length - i ∧ i ≤ xs.length ∧ ∃ I2 g2 r2 ds2, Ok G.K ⟨I2, σ2, H2, g2⟩ ∧ Cells G.K ⟨I2, σ2, H2, g2⟩ r2 ∧ GoC ω2.1 ω2.2 ⟨I2, σ2, H2, g2⟩ r2 ∧ Le I1 I2 ∧ Reps G.K I2 ys2 ds2 ∧ loopG t U E (xs.drop i) ds2 g2 r2,
      ⟨xs.length, by simp, Nat.zero_le _, I1, g1, r, ds, o1, c1, y.trans (.of r y1), Le.refl _, p.mono y1.sub, h⟩, ?_⟩
    rintro i m ω2 ys2 σ2 H2 ⟨rfl, hi', I2, g2, r2, ds2, o2, c2, y2, le2, p2, h2⟩
    obtain ⟨k1, k2⟩ := hJ ⟨I2, σ2, H2, g2⟩ le2 o2 i
    by_cases hlt : i < xs.length
    · obtain ⟨q1, q2⟩ := k1 xs[i] (List.getElem?_eq_getElem hlt)
      refine .inr ⟨q1, fun ω3 ys3 σ3 H3 => ∃ I3 g3 r3 ds3, Ok G.K ⟨I3, σ3, H3, g3⟩ ∧ Cells G.K ⟨I3, σ3, H3, g3⟩ r3 ∧ GoC ω3.1 ω3.2 ⟨I3, σ3, H3, g3⟩ r3 ∧ Le I1 I3 ∧ Reps G.K I3 ys3 ds3 ∧ loopG t U E (xs.drop (i + 1)) ds3 g3 r3,
        fun ω' ys' σ' H' ⟨I3, g3, r3, ds3, o3, c3, y3, le3, p3, h3⟩ => ⟨xs.length - (i + 1), by omega, rfl, hlt, I3, g3, r3, ds3, o3, c3, y3, le3, p3, h3⟩, fun x H' hy => ?_⟩
      obtain ⟨I3, o3, y3, rv⟩ := q2 x H' hy
      rw [List.drop_eq_getElem_cons hlt] at h2
      unfold loopG at h2
      split at h2
      · rename_i g4 e4
        refine ⟨I3, g2, xs[i], o3, rv, g4, e4, fun σ4 o4 y4 _ => ?_⟩
        have y24 := y3.trans y4
        refine ⟨I3, g4, r2, { nx := loopG t U E (xs.drop (i + 1)), bk := E.nx, ct := loopG t U E (xs.drop (i + 1)), rt := E.rt, exn := E.exn }, ds2, Pp, o4, c2.go y24, y2.trans (.of r2 y24), p2.mono y24.sub, h2, ?_⟩
        have le4 : Le I1 I3 := le2.trans y3.sub
        refine ⟨fun ω5 I5 σ5 H5 g5 r5 ys5 ds5 l5 o5 c5 y5 p5 h5 => ⟨I5, g5, r5, ds5, o5, c5, y5, le4.trans l5, p5, h5⟩, fun ω5 I5 σ5 H5 g5 r5 ys5 ds5 l5 o5 c5 y5 p5 h5 => b.nx ω5 I5 σ5 H5 g5 r5 ys5 ds5 (y1.sub.trans (le4.trans l5)) o5 c5 y5 p5 h5, fun ω5 I5 σ5 H5 g5 r5 ys5 ds5 l5 o5 c5 y5 p5 h5 => ⟨I5, g5, r5, ds5, o5, c5, y5, le4.trans l5, p5, h5⟩,
          (b.up (y1.sub.trans le4)).rt, (b.up (y1.sub.trans le4)).yl, fun ds g r q => lead_loop hb.lead _ E Pp b.cl b.pnx b.pbk b.pct b.prt b.pex ds g r q, b.pnx, fun ds g r q => lead_loop hb.lead _ E Pp b.cl b.pnx b.pbk b.pct b.prt b.pex ds g r q, b.prt, b.pex, b.cl⟩
      · exact h2.elim
    · have e5 : i = xs.length := by omega
      subst e5
      rw [List.drop_length] at h2
      exact .inl ⟨k2 (Nat.le_refl _), b.nx ω2 I2 σ2 H2 g2 r2 ys2 ds2 (y1.sub.trans le2) o2 c2 y2 p2 h2⟩
structure VGC3 (G : Gd) (st : Stmt) (T : TGC) : Prop where
  gs : GS3 G st (rdY G.K G.nw T)
  lead : Lead T
structure VGCs3 (G : Gd) (st : List Stmt) (T : TGC) : Prop where
  gss : GSs3 G st (rdY G.K G.nw T)
  lead : Lead T
theorem VGC2.g3 (h : VGC2 G st U) : VGC3 G st U := ⟨h.gs.g3, h.lead⟩
theorem VGCs2.g3 (h : VGCs2 G rest U) : VGCs3 G rest U := ⟨h.gss.g3, h.lead⟩
theorem g3_imp {G : Gd} {st : Stmt} {t t' : TG2 Om} (h : GS3 G st t) (k : ∀ D ω ys σ H, t' D ω ys σ H → t D ω ys σ H) : GS3 G st t' := ⟨fun Aw R m n ip β ω ys c fs K J gd lv s σ H D fw g hn kk hI ht => h.run Aw R m n ip β ω ys c fs K J gd lv s σ H D fw g hn kk hI (k D ω ys σ H ht)⟩
theorem g3s_imp {G : Gd} {st : List Stmt} {t t' : TG2 Om} (h : GSs3 G st t) (k : ∀ D ω ys σ H, t' D ω ys σ H → t D ω ys σ H) : GSs3 G st t' := ⟨fun Aw R m n ip β ω ys c fs K J gd lv s σ H D fw g hn kk hI ht => h.run Aw R m n ip β ω ys c fs K J gd lv s σ H D fw g hn kk hI (k D ω ys σ H ht)⟩
theorem vg3_cons (h : VGC3 G st U) (hr : VGCs3 G rest U') : VGCs3 G (st :: rest) (seqG U U') := by
  refine ⟨g3s_imp (g3s_cons h.gs hr.gss) fun D ω ys σ H ⟨I, g, r, E, ds, Pp, o, c, y, p, t, b⟩ => ⟨I, g, r, { E with nx := U' E }, ds, Pp, o, c, y, p, t, ?_⟩, lead_seq h.lead hr.lead⟩
  exact ⟨fun ω1 I1 σ1 H1 g1 r1 ys1 ds1 l1 o1 c1 y1 p1 h1 => ⟨I1, g1, r1, E, ds1, Pp, o1, c1, y1, p1, h1, b.up l1⟩, b.bk, b.ct, b.rt, b.yl, fun ds g r q => hr.lead E Pp b.cl b.pnx b.pbk b.pct b.prt b.pex ds g r q, b.pbk, b.pct, b.prt, b.pex, b.cl⟩
theorem vg3_if {c : Expr} {a b : List Stmt} {t : Fb} (hc : ∀ β, VT (G.cx β) W c t) (ha : VGCs3 G a U) (hb : VGCs3 G b U') : VGC3 G (.If c a b pos) (iteG t U U') := by
  refine ⟨g3_imp (g3_if (tc := rdT G.K W t) (fun β => (hc β).pt) ha.gss hb.gss) fun D ω ys σ H ⟨I, g, r, E, ds, Pp, o, c, y, p, h, b⟩ => ?_, lead_ite ha.lead hb.lead⟩
  refine ⟨I, g, o, ?_⟩
  unfold iteG at h
  split at h
  · rename_i v g1 e
    rw [e]
    rintro I1 H1 v' o1 y1 rfl
    cases v' with
    | true => exact ⟨I1, g1, r, E, ds, Pp, o1, c.go y1, y.trans (.of r y1), p.mono y1.sub, h, b.up y1.sub⟩
    | false => exact ⟨I1, g1, r, E, ds, Pp, o1, c.go y1, y.trans (.of r y1), p.mono y1.sub, h, b.up y1.sub⟩
  · exact (b.pex _ _ h).elim
  · exact h.elim
end
end Vl
set_option Elab.async false
set_option linter.all false
set_option maxRecDepth 100000
set_option maxHeartbeats 1000000
namespace Vl
open PySem PySem.Spec PyProof.Rows L2 My Gn
theorem GoC.refl (c : Cfg) (r : Cl) : GoC c r c r := .of r (Go.refl c)
theorem yl_item {nw : Bool} {K : PySem.W.Frag} {Pp : List D → Prop} {E : EG} {DD : GE Om} {ω : Om} {I0 I H : Hp} {σ : L2.St} {g : Sg} {r : Cl} {ys : List V} {x : V} {ds : List D} {d : D} (b : Back2 K nw I0 Pp E DD) (l : Le I0 I) (o : Ok K ⟨I, σ, H, g⟩) (c : Cells K ⟨I, σ, H, g⟩ r) (y : GoC ω.1 ω.2 ⟨I, σ, H, g⟩ r) (p : Reps K I ys ds) (rv : Rep K I x d) (h : E.nx (ds ++ [d]) g r) (vo : nw = true → Vo g r) :
    ∃ Wp, DD.yl ω (ys ++ [x]) σ H Wp ∧ ∀ H2 ω2, Wp H2 ω2 → DD.nx ω2 (ys ++ [x]) σ H2 :=
  ⟨Wk K I g r σ, b.yl ω I σ H g r ys x ds d l o c y (p.append (.cons rv .nil)) (b.pnx _ _ _ h) vo, fun H2 ω2 ⟨I2, l2, e, o2, c2⟩ => by
    subst e
    exact b.nx _ I2 σ H2 g r _ _ (l.trans l2) o2 c2 (GoC.refl _ _) ((p.append (.cons rv .nil)).mono l2) h⟩
section
variable {G : Gd} {W : WX}
def yVal (f : Ft) : TGC := fun E ds g r => match f g with
  | .ok (.val d) g1 => E.nx (ds ++ [d]) g1 r
  | .exn c fs _ => E.exn c fs
  | _ => False
def voB (g : Sg) (r : Cl) : Bool := (g.all fun x => match x with | .own _ _ => false | _ => true) && r.isEmpty
theorem vo_of {g : Sg} {r : Cl} (h : voB g r = true) : Vo g r := by
  unfold voB at h
  rw [Bool.and_eq_true] at h
  refine ⟨fun i t d e => ?_, List.isEmpty_iff.mp h.2⟩
  have := List.all_eq_true.mp h.1 _ (List.mem_of_getElem? e)
  cases this
def yValN (f : Ft) : TGC := fun E ds g r => match f g with
  | .ok (.val d) g1 => voB g1 r = true ∧ E.nx (ds ++ [d]) g1 r
  | .exn c fs _ => E.exn c fs
  | _ => False
theorem lead_yValN {f : Ft} : Lead (yValN f) := fun E Pp c h1 h2 h3 h4 h5 ds g r k => by
  unfold yValN at k
  split at k
  · exact c _ _ (h1 _ _ _ k.2)
  · exact (h5 _ _ k).elim
  · exact k.elim
theorem vg2_yieldN {e : Expr} {f : Ft} {yp spos : Pos} (he : ∀ β, VE (G.cx β) W e f) (hco : G.env.scope.isCoroutine = false := by rfl) (hi : interactive G.env = false := by rfl) : VGC2 G (.Expr (.Yield (some e) yp) spos) (yValN f) := by
  refine ⟨g2_imp (g2_yield (te := rdE G.K W f) (fun β => (he β).pe) hco hi) fun DD ω ys σ H ⟨I, g, r, E, ds, Pp, o, c, y, p, h, b⟩ => ?_, lead_yValN⟩
  refine ⟨I, g, o, ?_⟩
  unfold yValN at h
  split at h
  · rename_i d g1 e1
    rw [e1]
    intro I1 H1 v o1 y1 rv
    exact yl_item b y1.sub o1 (c.go y1) (y.trans (.of r y1)) (p.mono y1.sub) rv h.2 fun _ => vo_of h.1
  · exact (b.pex _ _ h).elim
  · exact h.elim
end
end Vl
set_option Elab.async false
set_option linter.all false
set_option maxRecDepth 100000
set_option maxHeartbeats 1000000
namespace Vl
open PySem PySem.Spec PyProof.Rows L2 My Gn GenW
abbrev mkG (X : Cx) (B : Around) (n0 : Nat) (N : List Str) (qual : Str) (scope : Scope) (f : Addr) (cd : Value) (a : Addr) (go : Obj) (gi : Nat) (nw : Bool) (os : OsState) : Gd :=
  ⟨X.prog, X.w, X.K, X.mg, X.base, N, qual, scope, n0, f, cd, B.in1, X.stack, fun _ _ _ => False, [(a, go)], gi, nw, os⟩
def genD (K : PySem.W.Frag) (nw : Bool) (out : List D) : GE Om where
  nx := fun ω ys σ H => ∃ I g r, Ok K ⟨I, σ, H, g⟩ ∧ GoC ω.1 ω.2 ⟨I, σ, H, g⟩ r ∧ Reps K I ys out
  rt := fun ω ys v H => v = .non ∧ ∃ I σ g r, Ok K ⟨I, σ, H, g⟩ ∧ GoC ω.1 ω.2 ⟨I, σ, H, g⟩ r ∧ Reps K I ys out
  yl := fun ω zs σ H Wp => ∃ I g r ds, Ok K ⟨I, σ, H, g⟩ ∧ Cells K ⟨I, σ, H, g⟩ r ∧ GoC ω.1 ω.2 ⟨I, σ, H, g⟩ r ∧ Reps K I zs ds ∧ ds <+: out ∧ Wp = Wk K I g r σ ∧ (nw = true → Vo g r)
theorem few_genD {nw : Bool} {K : PySem.W.Frag} {out : List D} : Few (genD K nw out).yl out.length := fun ω zs σ H Wp ⟨I, g, r, ds, _, _, _, p, q, _, _⟩ => by
  rw [p.length]
  exact q.length_le
theorem back2_gen {nw : Bool} {K : PySem.W.Frag} {I0 : Hp} {k : Nat} {rc : Rc} {out : List D} {outs : List Sl} (e : rc = .ok (.fr (.lst out)) outs) : Back2 K nw I0 (fun ds => ds <+: out) (endG k rc) (genD K nw out) where
  nx := fun ω I σ H g r ys ds _ o c y p h => by
    have h : rc = .ok (.fr (.lst ds)) (g.take k) := h
    rw [e] at h
    cases h
    exact ⟨I, g, r, o, y, p⟩
  bk := fun ω I σ H g r ys ds _ o c y p h => h.elim
  ct := fun ω I σ H g r ys ds _ o c y p h => h.elim
  rt := fun ω I σ H v x g r ys ds _ o c y rv p h => by
    obtain ⟨hx, h⟩ : x = .val .non ∧ rc = .ok (.fr (.lst ds)) (g.take k) := h
    rw [e] at h
    cases h
    subst hx
    have rv : Rep K I v .non := rv
    refine ⟨?_, I, σ, g, r, o, y, p⟩
    cases rv
    rfl
  yl := fun ω I σ H g r ys x ds d _ o c y p h v => ⟨I, g, r, ds ++ [d], o, c, y, p, h, rfl, v⟩
  pnx := fun ds g r h => by
    have h : rc = .ok (.fr (.lst ds)) (g.take k) := h
    rw [e] at h
    cases h
    exact List.prefix_refl _
  pbk := fun ds g r h => h.elim
  pct := fun ds g r h => h.elim
  prt := fun x ds g r h => by
    obtain ⟨hx, h⟩ : x = .val .non ∧ rc = .ok (.fr (.lst ds)) (g.take k) := h
    rw [e] at h
    cases h
    exact List.prefix_refl _
  pex := fun c fs h => h
  cl := fun ds es h => (List.prefix_append ds es).trans h
theorem go_over {K : PySem.W.Frag} {c0 : Cfg} {I H Iy Hy : Hp} {σ σg σy : L2.St} {g gg gy : Sg} {rg ry : Cl} (x : Go c0 ⟨I, σ, H, g⟩) (Y : GoC ⟨I, σg, H, gg⟩ rg ⟨Iy, σy, Hy, gy⟩ ry)
    (d : ∀ b, (Cfg.Own ⟨I, σg, H, gg⟩ b ∨ b ∈ rg.map (·.1)) → c0.H b = none) : Go c0 ⟨Iy, σ, Hy, g⟩ where
  sub := x.sub.trans Y.sub
  keep := fun a o e n nt => Y.keep a o (x.keep a o e n nt) (fun q => no_some (d a (.inl q)) e) (fun q => no_some (d a (.inr q)) e) nt
  dom := fun a h => x.dom a (Y.dom a h)
  grow := fun a h h' => by
    by_cases z : I a = none
    · rcases Y.grow a z h' with q | q | q
      · exact .inr (d a (.inl q))
      · exact .inr (d a (.inr q))
      · exact .inr (x.dom a q)
    · exact x.grow a h z
  own := fun a h => x.own a h
  ownf := fun a h => x.ownf a h
  tag := x.tag
theorem ok_over {K : PySem.W.Frag} {I H Iy Hy : Hp} {σ σg σy : L2.St} {g gg gy : Sg} {rg ry : Cl} (o : Ok K ⟨I, σ, H, g⟩) (oy : Ok K ⟨Iy, σy, Hy, gy⟩) (Y : GoC ⟨I, σg, H, gg⟩ rg ⟨Iy, σy, Hy, gy⟩ ry)
    (dj : ∀ b, Cfg.Own ⟨I, σ, H, g⟩ b → ¬ Cfg.Own ⟨I, σg, H, gg⟩ b ∧ b ∉ rg.map (·.1)) : Ok K ⟨Iy, σ, Hy, g⟩ where
  sub := oy.sub
  nt := oy.nt
  tab := oy.tab
  dist := o.dist
  sl := fun i s h => by
    obtain ⟨v, e, r⟩ := o.sl i s h
    refine ⟨v, e, SlR.mono Y.sub (fun a t d es ev => ?_) r⟩
    have own : Cfg.Own ⟨I, σ, H, g⟩ a := ⟨i, t, d, by rw [← es]; exact h, by rw [← ev]; exact e⟩
    obtain ⟨n1, n2⟩ := dj a own
    subst es ev
    obtain ⟨b, eb, ow, nI⟩ := r
    cases eb
    obtain ⟨u, hu⟩ := ow.some
    have k := Y.keep a u hu n1 n2 (ow.ntb hu)
    refine ⟨k.trans hu.symm, ?_⟩
    by_cases z : Iy a = none
    · exact z
    · rcases Y.grow a nI z with q | q | q
      · exact (n1 q).elim
      · exact (n2 q).elim
      · exact (no_some q hu).elim
theorem own_some' {K : PySem.W.Frag} {c : Cfg} (o : Ok K c) {b : Addr} (h : c.Own b) : ∃ u, c.H b = some u := by
  obtain ⟨i, t, d, h1, h2⟩ := h
  obtain ⟨v, e, r⟩ := o.sl i _ h1
  rw [h2] at e
  cases e
  obtain ⟨b', eb, ow, _⟩ := r
  cases eb
  exact ow.some
theorem cell_some {K : PySem.W.Frag} {c : Cfg} {r : Cl} (h : Cells K c r) {b : Addr} (m : b ∈ r.map (·.1)) : ∃ u, c.H b = some u := by
  obtain ⟨⟨b', ds⟩, hm, rfl⟩ := List.mem_map.mp m
  exact (h.at_ _ _ hm).ow.some
theorem cells_over {K : PySem.W.Frag} {I H : Hp} {σg : L2.St} {gg : Sg} {rg : Cl} {c c' : Cfg} (hI : c.I = I) (hH : c.H = H) (h : Cells K ⟨I, σg, H, gg⟩ rg) (Y : Go c c') (dj : ∀ b ∈ rg.map (·.1), ¬ c.Own b) : Cells K ⟨c'.I, σg, c'.H, gg⟩ rg := by
  subst hI hH
  refine ⟨fun a ds m => ?_, h.nd⟩
  obtain ⟨ow, fr, no⟩ := h.at_ a ds m
  have n1 := dj a (List.mem_map.mpr ⟨_, m, rfl⟩)
  obtain ⟨u, hu⟩ := ow.some
  have k := Y.keep a u hu n1 (ow.ntb hu)
  refine ⟨OwnAt.mono Y.sub (k.trans hu.symm) ow, ?_, no⟩
  by_cases z : c'.I a = none
  · exact z
  · rcases Y.grow a fr z with q | q
    · exact (n1 q).elim
    · exact (no_some q hu).elim
theorem obj_there {P : Program} {w : World} {H : Hp} {h : Heap} {a : Addr} {o : HO} (x : ObjOk P w H h a o) : ∃ u, h.get? a = some u := by
  cases o with
  | lst xs => obtain ⟨z, its, n, r, e⟩ := x; exact ⟨_, e⟩
  | tup xs => obtain ⟨z, its, r, ob, e, c⟩ := x; exact ⟨_, e⟩
  | dK kvs => obtain ⟨z, y, vs, r, ob, es, ep, e, c⟩ := x; exact ⟨_, e⟩
  | dT kvs => obtain ⟨z, y, xs, r, ob, es, ep, e, c⟩ := x; exact ⟨_, e⟩
  | set S n => obtain ⟨ob, es, ep, t, e, c⟩ := x; exact ⟨_, e⟩
  | ins C dx fs => obtain ⟨d, z, ne, e, _⟩ := x; exact ⟨_, e⟩
  | own y => obtain ⟨ob, e⟩ := x; exact ⟨_, e⟩
  | xd fs => obtain ⟨mA, ⟨od, es, ep, e, c⟩, r⟩ := x; exact ⟨_, e⟩
  | rng lo hi => obtain ⟨t, u, v, e⟩ := x; exact ⟨_, e⟩
  | frz ob u => obtain ⟨e, q⟩ := x; exact ⟨_, e⟩
  | tbl ps => exact ⟨_, (x : h.get? a = some { cls := .none, data := .fields ps })⟩
  | met f y => exact ⟨_, (x : h.get? a = some (PySem.W.methodObj (.ref f) (.ref y)))⟩
  | ext φ => obtain ⟨p, ⟨o, e⟩, st⟩ := x; exact ⟨_, e⟩
structure Lows (X : Cx) (pins : List (Addr × Obj)) (n0 : Nat) (pr : List Addr) (c0 : Cfg) : Prop where
  s0 : ∀ b, n0 ≤ b → c0.H b = none → b ∉ pr → b ∈ X.ex ∨ X.s_0.heap.objs.size ≤ b
  loc : (X.env.locals < n0 ∧ X.env.locals ∈ frs X.stack) ∨ (n0 ≤ X.env.locals ∧ X.env.locals ∉ frs X.stack)
  cel : ∀ x c, X.env.cells.lookup x = some c → c < n0
  pin : ∀ p ∈ X.pn ++ pins, p.1 < n0
  fr : ∀ b ∈ frs X.stack, b < n0
  sub : ∀ b ∈ X.fs, b ∈ frs X.stack
structure LowsG (X : Cx) (n0 : Nat) (pr : List Addr) (c0 : Cfg) : Prop where
  s0 : ∀ b, n0 ≤ b → c0.H b = none → b ∉ pr → b ∈ X.ex ∨ X.s_0.heap.objs.size ≤ b
  loc : (X.env.locals < n0 ∧ X.env.locals ∈ frs X.stack) ∨ (n0 ≤ X.env.locals ∧ X.env.locals ∉ frs X.stack)
  cel : ∀ x c, X.env.cells.lookup x = some c → c < n0
  fr : ∀ b ∈ frs X.stack, b < n0
  sub : ∀ b ∈ X.fs, b ∈ frs X.stack
theorem Lows.g {X : Cx} {pins : List (Addr × Obj)} {n0 : Nat} {pr : List Addr} {c0 : Cfg} (h : Lows X pins n0 pr c0) : LowsG X n0 pr c0 := ⟨h.s0, h.loc, h.cel, h.fr, h.sub⟩
theorem Lows.of {X : Cx} {pins : List (Addr × Obj)} {σ : L2.St} {H : Hp} {s : Shared} (V : Inv X pins σ H s) (h1 : X.stack = X.env :: X.outer) (h2 : X.env.frame = some X.env.locals) (pr : List Addr) (c0 : Cfg) : Lows X pins s.heap.objs.size pr c0 := by
  have l : X.env.locals < s.heap.objs.size := by
    obtain ⟨m, ⟨o, es, ep, ho, r⟩, _⟩ := V.loc
    exact Heap.lt_size ho
  refine ⟨fun b hb _ _ => .inr (Nat.le_trans (Nat.le_of_lt (Nat.lt_of_le_of_lt V.ok.above l)) hb), .inl ⟨l, ?_⟩, fun x c h => ?_, fun p hp => Heap.lt_size (V.pin p hp).1, fun b hb => ?_, fun b hb => ?_⟩
  · rw [h1]
    unfold frs
    rw [List.filterMap_cons, h2]
    exact List.mem_cons_self
  · obtain ⟨v, o, ho, _⟩ := V.cell x c h
    exact Heap.lt_size ho
  · obtain ⟨_, o, ho, _⟩ := V.stack.mem hb
    exact Heap.lt_size ho
  · rw [h1]
    unfold frs
    rw [List.filterMap_cons, h2]
    exact List.mem_cons_of_mem _ hb
theorem Inv.behind {X : Cx} {pins : List (Addr × Obj)} {σ : L2.St} {H H' : Hp} {s s' : Shared} {n0 : Nat} {pr : List Addr} {c0 : Cfg} (V : Inv X pins σ H s) (lw : LowsG X n0 pr c0) (hpr : ∀ b ∈ pr, H b ≠ none) (hc0 : ∀ b, H b = none → c0.H b = none) (os : s'.os = s.os)
    (u : Un (frs X.stack) [] H H' (cutH n0 s.heap) s'.heap) (hok : HOk X.prog X.w H' s'.heap) (dom : ∀ b, H' b = none → H b = none) (bare : AllBare s'.gens)
    (hcp : ∀ b, n0 ≤ b → (b = X.env.locals ∨ b ∈ (X.pn ++ pins).map (·.1)) → ∃ o, s.heap.get? b = some o ∧ s'.heap.get? b = some o ∧ H' b = none) : Inv X pins σ H' s' := by
  let ch := (List.range s.heap.objs.size).filter (fun b => decide (n0 ≤ b) && (H b).isNone && (b != X.env.locals) && !decide (b ∈ (X.pn ++ pins).map (·.1)))
  have mch : ∀ b o, s.heap.get? b = some o → b ∉ ch → b < n0 ∨ H b ≠ none ∨ (n0 ≤ b ∧ (b = X.env.locals ∨ b ∈ (X.pn ++ pins).map (·.1))) := fun b o e n => by
    by_cases z : b < n0
    · exact .inl z
    · by_cases z2 : H b = none
      · by_cases z3 : b = X.env.locals
        · exact .inr (.inr ⟨Nat.le_of_not_lt z, .inl z3⟩)
        · by_cases z4 : b ∈ (X.pn ++ pins).map (·.1)
          · exact .inr (.inr ⟨Nat.le_of_not_lt z, .inr z4⟩)
          · refine (n (List.mem_filter.mpr ⟨List.mem_range.mpr (Heap.lt_size e), ?_⟩)).elim
            rw [decide_eq_true (Nat.le_of_not_lt z), z2, decide_eq_false z4]
            simp [z3]
      · exact .inr (.inl z2)
  have cg : ∀ b o, s.heap.get? b = some o → b < n0 → (cutH n0 s.heap).get? b = some o := fun b o e z => (cutH_get z).trans e
  have n0' : ∀ b : Addr, b ∉ ([] : List Addr) := fun b h => by simp at h
  refine V.call' (ch := ch) os ⟨fun b o e n hb hx => ?_, fun b o e n hb hx => u.slot b o (cg b o e (lw.fr b hb)) n hb (n0' b), fun b o e n hx => ?_, fun b o e hx => ?_, u.tups, u.frzs, u.tbls⟩ hok bare fun b hb => ?_
  · rcases mch b o e hx with z | z | ⟨z, q⟩
    · exact u.keep b o (cg b o e z) n hb (n0' b)
    · exact (z n).elim
    · obtain ⟨o', e1, e2, _⟩ := hcp b z q
      rw [e] at e1
      cases e1
      exact e2
  · rcases mch b o e hx with z | z | ⟨z, q⟩
    · exact u.free b o (cg b o e z) n (n0' b)
    · exact (z n).elim
    · obtain ⟨o', e1, e2, e3⟩ := hcp b z q
      exact e3
  · rcases mch b o e hx with z | z | ⟨z, q⟩
    · exact u.there b o (cg b o e z) (n0' b)
    · cases q : H' b with
      | none => exact (z (dom b q)).elim
      | some t => exact obj_there (hok b t q)
    · obtain ⟨o', e1, e2, e3⟩ := hcp b z q
      exact ⟨o', e2⟩
  · have hb := (List.mem_filter.mp hb).2
    rw [Bool.and_eq_true] at hb
    obtain ⟨hb, hb4⟩ := hb
    simp only [Bool.and_eq_true, decide_eq_true_eq, Option.isNone_iff_eq_none, bne_iff_ne, ne_eq] at hb
    have hb4 : ¬ b ∈ (X.pn ++ pins).map (·.1) := by
      intro q
      rw [decide_eq_true q] at hb4
      cases hb4
    obtain ⟨⟨hb1, hb2⟩, hb3⟩ := hb
    refine ⟨lw.s0 b hb1 (hc0 b hb2) (fun q => hpr b q hb2), hb3, fun x c h e => ?_, fun p hp e => hb4 (List.mem_map.mpr ⟨p, hp, e⟩)⟩
    have := lw.cel x c h
    rw [e] at this
    exact absurd this (Nat.not_lt.mpr hb1)
structure SlpD (X : Cx) (B : Around) (out : List D) (i n0 lo : Nat) (nw : Bool) (a : Addr) (pr : List Addr) (c0 c : Cfg) (s : Shared) (N : List Str) (qual : Str) (scope : Scope) (f : Addr) (cd : Value) (go oloc : Obj) (gi : Nat) (gs : GenState) (ip : List (Addr × Obj)) (gk : Array GenState) (σg : L2.St) (gg : Sg) (rg : Cl) (β0 : Bs) (H0 : Hp) (s0 : Shared) (os0 : OsState) : Prop where
  gens : s.gens[gi]? = some gs
  lo : lo ≤ gi
  sus : 0 < i → ∃ k l c p fs cl, gs = GenState.suspended k l c p fs cl
  isg : ∀ h : Heap, h.get? a = some go → h.IsGen a gi
  na : n0 < a
  ncl : (mkG X B n0 N qual scope f cd a go gi nw os0).env.cells = []
  run : (mkG X B n0 N qual scope f cd a go gi nw os0).Run β0 ip gk σg H0 s0
  loc : s0.heap.get? n0 = some oloc
  kg : Kp gk s.gens
  os : s0.os = s.os
  le : i ≤ out.length
  vo : nw = true → Vo gg rg
  fr0 : i = 0 → ip = []
  ok : Ok X.K ⟨c.I, σg, c.H, gg⟩
  cel : Cells X.K ⟨c.I, σg, c.H, gg⟩ rg
  dj : ∀ b, (Cfg.Own ⟨c.I, σg, c.H, gg⟩ b ∨ b ∈ rg.map (·.1)) → c0.H b = none ∧ ¬ c.Own b ∧ b ∉ pr
  wake : ∀ β H2 I2 s2, (mkG X B n0 N qual scope f cd a go gi nw os0).Run β ip gk σg H2 s2 → Ok X.K ⟨I2, σg, H2, gg⟩ → Cells X.K ⟨I2, σg, H2, gg⟩ rg → Le c.I I2 →
    Rest (model X.prog X.w) B.in1 (fun e s3 => Ph (mkG X B n0 N qual scope f cd a go gi nw os0) B.in1 (Rend (mkG X B n0 N qual scope f cd a go gi nw os0) (genD X.K nw out) out.length) (genD X.K nw out).yl out.length (out.length - i) β (⟨I2, σg, H2, gg⟩, rg) e s3) gs s2
def Slp (X : Cx) (B : Around) (out : List D) (i n0 lo : Nat) (nw : Bool) (a : Addr) (gp : List (Addr × Obj)) (pr : List Addr) (c0 c : Cfg) (s : Shared) : Prop :=
  ∃ N qual scope f cd go oloc gi gs ip gk σg gg rg β0 H0 s0 os0, gp = (n0, oloc) :: (a, go) :: ip ∧ SlpD X B out i n0 lo nw a pr c0 c s N qual scope f cd go oloc gi gs ip gk σg gg rg β0 H0 s0 os0
theorem Slp.go {X : Cx} {B : Around} {out : List D} {i n0 lo : Nat} {nw : Bool} {a : Addr} {gp : List (Addr × Obj)} {pr : List Addr} {c0 c c' : Cfg} {s s' : Shared} (h : Slp X B out i n0 lo nw a gp pr c0 c s) (Y : Go c c') (o' : Ok X.K c')
    (kp : (0 < i ∧ ∀ (j : Nat) k l cc p fs cl, s.gens[j]? = some (GenState.suspended k l cc p fs cl) → s'.gens[j]? = some (GenState.suspended k l cc p fs cl)) ∨ s'.gens = s.gens) (os : s'.os = s.os) : Slp X B out i n0 lo nw a gp pr c0 c' s' := by
  obtain ⟨N, qual, scope, f, cd, go, oloc, gi, gs, ip, gk, σg, gg, rg, β0, H0, s0, os0, e, d⟩ := h
  refine ⟨N, qual, scope, f, cd, go, oloc, gi, gs, ip, gk, σg, gg, rg, β0, H0, s0, os0, e, ?_⟩
  refine ⟨?_, d.lo, d.sus, d.isg, d.na, d.ncl, d.run, d.loc, ?_, d.os.trans os.symm, d.le, d.vo, d.fr0, ?_, ?_, fun b hb => ?_, fun β H2 I2 s2 hR ho hc hl => d.wake β H2 I2 s2 hR ho hc (Y.sub.trans hl)⟩
  · rcases kp with ⟨hi, kp⟩ | kp
    · obtain ⟨k, l, cc, p, fs, cl, eg⟩ := d.sus hi
      rw [eg]
      exact kp gi k l cc p fs cl (by rw [← eg]; exact d.gens)
    · rw [kp]
      exact d.gens
  · rcases kp with ⟨hi, kp⟩ | kp
    · exact d.kg.trans kp
    · rw [kp]
      exact d.kg
  · exact ok_over (gy := c'.g) (σy := c'.σ) (rg := []) (ry := []) d.ok o' (GoC.of [] Y) fun b hb => ⟨(d.dj b (.inl hb)).2.1, by simp⟩
  · exact cells_over rfl rfl d.cel Y fun b hb => (d.dj b (.inr hb)).2.1
  · have hb : Cfg.Own ⟨c.I, σg, c.H, gg⟩ b ∨ b ∈ rg.map (·.1) := hb
    obtain ⟨q1, q2, q3⟩ := d.dj b hb
    refine ⟨q1, fun q => ?_, q3⟩
    rcases Y.own b q with z | z
    · exact q2 z
    · rcases hb with hb | hb
      · obtain ⟨u, hu⟩ := own_some' d.ok hb
        exact no_some z hu
      · obtain ⟨u, hu⟩ := cell_some d.cel hb
        exact no_some z hu
theorem Slp.goC {X : Cx} {B : Around} {out : List D} {i n0 lo : Nat} {nw : Bool} {a : Addr} {gp : List (Addr × Obj)} {pr : List Addr} {c0 c c' : Cfg} {r r' : Cl} {s s' : Shared} (h : Slp X B out i n0 lo nw a gp pr c0 c s) (hr : ∀ b ∈ r.map (·.1), b ∈ pr) (Y : GoC c r c' r') (o' : Ok X.K c')
    (kp : (0 < i ∧ ∀ (j : Nat) k l cc p fs cl, s.gens[j]? = some (GenState.suspended k l cc p fs cl) → s'.gens[j]? = some (GenState.suspended k l cc p fs cl)) ∨ s'.gens = s.gens) (os : s'.os = s.os) : Slp X B out i n0 lo nw a gp pr c0 c' s' := by
  obtain ⟨N, qual, scope, f, cd, go, oloc, gi, gs, ip, gk, σg, gg, rg, β0, H0, s0, os0, e, d⟩ := h
  refine ⟨N, qual, scope, f, cd, go, oloc, gi, gs, ip, gk, σg, gg, rg, β0, H0, s0, os0, e, ?_⟩
  have nr : ∀ b, (Cfg.Own ⟨c.I, σg, c.H, gg⟩ b ∨ b ∈ rg.map (·.1)) → b ∉ r.map (·.1) := fun b hb q => (d.dj b hb).2.2 (hr b q)
  refine ⟨?_, d.lo, d.sus, d.isg, d.na, d.ncl, d.run, d.loc, ?_, d.os.trans os.symm, d.le, d.vo, d.fr0, ?_, ?_, fun b hb => ?_, fun β H2 I2 s2 hR ho hc hl => d.wake β H2 I2 s2 hR ho hc (Y.sub.trans hl)⟩
  · rcases kp with ⟨hi, kp⟩ | kp
    · obtain ⟨k, l, cc, p, fs, cl, eg⟩ := d.sus hi
      rw [eg]
      exact kp gi k l cc p fs cl (by rw [← eg]; exact d.gens)
    · rw [kp]
      exact d.gens
  · rcases kp with ⟨hi, kp⟩ | kp
    · exact d.kg.trans kp
    · rw [kp]
      exact d.kg
  · exact ok_over (gy := c'.g) (σy := c'.σ) d.ok o' Y fun b hb => ⟨(d.dj b (.inl hb)).2.1, nr b (.inl hb)⟩
  · refine ⟨fun b ds m => ?_, d.cel.nd⟩
    obtain ⟨ow, fr, no⟩ := d.cel.at_ b ds m
    have mm : b ∈ rg.map (·.1) := List.mem_map.mpr ⟨_, m, rfl⟩
    obtain ⟨u, hu⟩ := ow.some
    have k := Y.keep b u hu (d.dj b (.inr mm)).2.1 (nr b (.inr mm)) (ow.ntb hu)
    refine ⟨OwnAt.mono Y.sub (k.trans hu.symm) ow, ?_, no⟩
    by_cases z : c'.I b = none
    · exact z
    · rcases Y.grow b fr z with q | q | q
      · exact ((d.dj b (.inr mm)).2.1 q).elim
      · exact (nr b (.inr mm) q).elim
      · exact (no_some q hu).elim
  · have hb : Cfg.Own ⟨c.I, σg, c.H, gg⟩ b ∨ b ∈ rg.map (·.1) := hb
    obtain ⟨q1, q2, q3⟩ := d.dj b hb
    refine ⟨q1, fun q => ?_, q3⟩
    rcases Y.own b q with z | z
    · exact q2 z
    · rcases hb with hb | hb
      · obtain ⟨u, hu⟩ := own_some' d.ok hb
        exact no_some z hu
      · obtain ⟨u, hu⟩ := cell_some d.cel hb
        exact no_some z hu
structure Prt (pr : List Addr) (I H I' H' : Hp) : Prop where
  sub : Le I I'
  keep : ∀ b ∈ pr, ∀ u, H b = some u → NTb u → H' b = some u
  free : ∀ b ∈ pr, I b = none → I' b = none
def NX (X : Cx) (B : Around) (pins : List (Addr × Obj)) (out : List D) (i n0 lo : Nat) (nw : Bool) (a : Addr) (pr : List Addr) (c0 : Cfg) (σ : L2.St) (g : Sg) (I H : Hp) (r : Option Value) (s' : Shared) : Prop :=
  (i = out.length ∧ r = none ∧ ∃ I' H', Inv X pins σ H' s' ∧ Ok X.K ⟨I', σ, H', g⟩ ∧ Go c0 ⟨I', σ, H', g⟩ ∧ Prt pr I H I' H') ∨
  ∃ d v x I' H' gp', out[i]? = some d ∧ r = some v ∧ RelV x v ∧ Rep X.K I' x d ∧ Inv X (pins ++ gp') σ H' s' ∧ Ok X.K ⟨I', σ, H', g⟩ ∧ Go c0 ⟨I', σ, H', g⟩ ∧ Prt pr I H I' H' ∧ Slp X B out (i + 1) n0 lo nw a gp' pr c0 ⟨I', σ, H', g⟩ s'
def NXP (P : List (Addr × Obj)) (X : Cx) (B : Around) (pins : List (Addr × Obj)) (out : List D) (i n0 lo : Nat) (nw : Bool) (a : Addr) (pr : List Addr) (c0 : Cfg) (σ : L2.St) (g : Sg) (I H : Hp) (r : Option Value) (s' : Shared) : Prop :=
  (i = out.length ∧ r = none ∧ ∃ I' H', Inv X pins σ H' s' ∧ Ok X.K ⟨I', σ, H', g⟩ ∧ Go c0 ⟨I', σ, H', g⟩ ∧ Prt pr I H I' H') ∨
  ∃ d v x I' H' gp', out[i]? = some d ∧ r = some v ∧ RelV x v ∧ Rep X.K I' x d ∧ Inv X (pins ++ gp') σ H' s' ∧ Ok X.K ⟨I', σ, H', g⟩ ∧ Go c0 ⟨I', σ, H', g⟩ ∧ Prt pr I H I' H' ∧ Slp X B out (i + 1) n0 lo nw a gp' pr c0 ⟨I', σ, H', g⟩ s' ∧ ∀ p ∈ P, ∀ q ∈ gp', p.1 ≠ q.1
theorem Slp.nextP (P : List (Addr × Obj)) {X : Cx} {B : Around} {out : List D} {i n0 lo : Nat} {nw : Bool} {a : Addr} {gp pins : List (Addr × Obj)} {pr : List Addr} {c0 : Cfg} {I H : Hp} {σ : L2.St} {g : Sg} {s : Shared} {E : Value → Shared → Prop} (hc : B.handled = none) (hd : B.depth < recursionLimit)
    (hP : ∀ p ∈ P, p ∈ X.pn ++ pins) (hn : ∀ p ∈ X.pn ++ pins, n0 ≤ p.1 → p ∈ P) (sp : ∀ p ∈ P, ∀ q ∈ gp, p.1 ≠ q.1) (lw : LowsG X n0 pr c0) (hpr : ∀ b ∈ pr, H b ≠ none) (V : Inv X (pins ++ gp) σ H s) (o : Ok X.K ⟨I, σ, H, g⟩) (y : Go c0 ⟨I, σ, H, g⟩) (h : Slp X B out i n0 lo nw a gp pr c0 ⟨I, σ, H, g⟩ s) :
    wpAny (model X.prog X.w) B (pyNext (.ref a)) (NXP P X B pins out i n0 lo nw a pr c0 σ g I H) E s := by
  obtain ⟨N, qual, scope, f, cd, go, oloc, gi, gs, ip, gk, σg, gg, rg, β0, H0, s0, os0, rfl, d⟩ := h
  have hlt : gi < s.gens.size := (Array.getElem?_eq_some_iff.mp d.gens).1
  have V0 : Inv X pins σ H s := Inv.unpinned V
  have pl := V.pin (n0, oloc) (List.mem_append_right _ (List.mem_append_right _ (.head _)))
  have pg := V.pin (a, go) (List.mem_append_right _ (List.mem_append_right _ (.tail _ (.head _))))
  have sz : n0 ≤ s.heap.objs.size := Nat.le_of_lt (Heap.lt_size pl.1)
  obtain ⟨mL, ⟨oL, esL, epL, hoL, rL⟩, _⟩ := id V.loc
  obtain ⟨cp, hcp1, hcp2, hcp3⟩ : ∃ cp : List (Addr × Obj), (∀ p ∈ cp, p ∈ P ∨ (p = (X.env.locals, oL) ∧ n0 ≤ X.env.locals)) ∧ (n0 ≤ X.env.locals → (X.env.locals, oL) ∈ cp) ∧ ∀ p ∈ P, p ∈ cp := by
    by_cases z : n0 ≤ X.env.locals
    · refine ⟨P ++ [(X.env.locals, oL)], fun p hp => ?_, fun _ => List.mem_append_right _ (.head _), fun p hp => List.mem_append_left _ hp⟩
      rcases List.mem_append.mp hp with hp | hp
      · exact .inl hp
      · exact .inr ⟨List.mem_singleton.mp hp, z⟩
    · exact ⟨P, fun p hp => .inl hp, fun q => (z q).elim, fun p hp => hp⟩
  have vP : ∀ p ∈ P, s.heap.get? p.1 = some p.2 ∧ H p.1 = none ∧ p.1 ≠ X.env.locals ∧ p.1 ∉ X.fs ∧ ∀ v, p.2.data ≠ .cell v := fun p hp => V.pin p (by
    rcases List.mem_append.mp (hP p hp) with q | q
    · exact List.mem_append_left _ q
    · exact List.mem_append_right _ (List.mem_append_left _ q))
  have nst : n0 ≤ X.env.locals → X.env.locals ∉ frs X.stack := fun z => by
    rcases lw.loc with q | q
    · exact absurd q.1 (Nat.not_lt.mpr z)
    · exact q.2
  have ngl : ∀ p ∈ (n0, oloc) :: (a, go) :: ip, p.1 ≠ X.env.locals := fun p hp => (V.pin p (List.mem_append_right _ (List.mem_append_right _ hp))).2.2.1
  have left : Left (mkG X B n0 N qual scope f cd a go gi nw os0) ip s0 H (s.setGen gi .running) cp := by
    refine ⟨d.os.symm, allBare_setGen V.bare rfl, V.hok, sz, fun p hp => ?_, fun o' ho' => ?_, pl.2.1, fun b o' ho' => V.bs b o' ho', fun env he L hL => ?_, fun b hb => ⟨V.env0.frf b hb, lw.fr b hb⟩, fun p hp => ?_, fun p hp q hq => ?_⟩
    · have hp : p ∈ (a, go) :: ip := hp
      have := V.pin p (List.mem_append_right _ (List.mem_append_right _ (.tail _ hp)))
      exact ⟨this.1, this.2.1⟩
    · have ho' : s0.heap.get? n0 = some o' := ho'
      rw [d.loc] at ho'
      cases ho'
      exact pl.1
    · obtain ⟨_, o', e', hnf⟩ := V.stack.mem (b := L) (List.mem_filterMap.mpr ⟨env, he, hL⟩)
      exact ⟨o', e', hnf⟩
    · rcases hcp1 p hp with hp | ⟨rfl, z⟩
      · obtain ⟨v1, v2, v3, v4, v5⟩ := vP p hp
        refine ⟨v1, v2, sp p hp _ (.head _), fun q => ?_, v5⟩
        rcases List.mem_cons.mp (V0.stkSub p.1 q) with q | q
        · exact v3 q
        · exact v4 q
      refine ⟨hoL, V.free, fun e => (ngl (n0, oloc) (.head _)) e.symm, nst z, fun v q => ?_⟩
      have q : oL.data = .cell v := q
      rw [rL.1] at q
      cases q
    · rcases hcp1 p hp with hp | ⟨rfl, z⟩
      · exact sp p hp q (.tail _ (.tail _ hq))
      exact fun e => ngl q (.tail _ (.tail _ hq)) e.symm
  have kq : Kq gi gk (s.setGen gi .running).gens := ⟨fun j k l cc p fs cl e => by
    have ne : gi ≠ j := Nat.ne_of_lt (d.run.kp.kn j k l cc p fs cl e)
    show (s.gens.setIfInBounds gi .running)[j]? = _
    rw [Array.getElem?_setIfInBounds, if_neg ne]
    exact d.kg j k l cc p fs cl e, d.run.kp.kn, by
    show gi < (s.gens.setIfInBounds gi .running).size
    rw [Array.size_setIfInBounds]
    exact hlt⟩
  have hR := d.run.woken d.ncl left kq
  have hgo := d.wake _ H I _ hR d.ok d.cel (Le.refl _)
  have hc0 : ∀ b, H b = none → c0.H b = none := y.dom
  have dj1 : ∀ b, (Cfg.Own ⟨I, σg, H, gg⟩ b ∨ b ∈ rg.map (·.1)) → c0.H b = none := fun b hb => (d.dj b hb).1
  have dj2 : ∀ b, Cfg.Own ⟨I, σ, H, g⟩ b → ¬ Cfg.Own ⟨I, σg, H, gg⟩ b ∧ b ∉ rg.map (·.1) := fun b hb => ⟨fun q => (d.dj b (.inl q)).2.1 hb, fun q => (d.dj b (.inr q)).2.1 hb⟩
  have dj3 : ∀ b ∈ pr, ¬ Cfg.Own ⟨I, σg, H, gg⟩ b ∧ b ∉ rg.map (·.1) := fun b hb => ⟨fun q => (d.dj b (.inl q)).2.2 hb, fun q => (d.dj b (.inr q)).2.2 hb⟩
  have prt : ∀ {Iy Hy : Hp} {σy : L2.St} {gy : Sg} {ry : Cl}, GoC ⟨I, σg, H, gg⟩ rg ⟨Iy, σy, Hy, gy⟩ ry → Prt pr I H Iy Hy := fun {Iy Hy σy gy ry} Yy =>
    ⟨Yy.sub, fun b hb u e nt => Yy.keep b u e (dj3 b hb).1 (dj3 b hb).2 nt, fun b hb e => by
      by_cases z : Iy b = none
      · exact z
      · rcases Yy.grow b e z with q | q | q
        · exact ((dj3 b hb).1 q).elim
        · exact ((dj3 b hb).2 q).elim
        · exact (hpr b hb q).elim⟩
  have stays : ∀ {ip' : List (Addr × Obj)} {gk' : Array GenState} {σy : L2.St} {Hy : Hp} {s₁ : Shared}, (mkG X B n0 N qual scope f cd a go gi nw os0).Run (bsAt n0 (s.setGen gi .running) H cp) ip' gk' σy Hy s₁ → ∀ b, n0 ≤ b → (b = X.env.locals ∨ b ∈ (X.pn ++ pins).map (·.1)) → ∃ o, s.heap.get? b = some o ∧ s₁.heap.get? b = some o ∧ Hy b = none := fun {ip' gk' σy Hy s₁} R1 b z hb => by
    rcases hb with rfl | hb
    · have q := R1.I.pin (X.env.locals, oL) (List.mem_append_left _ (List.mem_append_right _ (hcp2 z)))
      exact ⟨oL, hoL, q.1, q.2.1⟩
    · obtain ⟨p, hp, rfl⟩ := List.mem_map.mp hb
      have hp := hn p hp z
      have q := R1.I.pin p (List.mem_append_left _ (List.mem_append_right _ (hcp3 p hp)))
      exact ⟨p.2, (vP p hp).1, q.1, q.2.1⟩
  refine wpAny_gsz (n := gi + 1) hlt (next1 hc V.nolimit hd (d.isg _ pg.1) d.gens (fun e s' he => Ph.quiet he) hgo (fun v g₀ l₀ k₀ c₀ p₀ fs₀ s₁ hv => ?_) fun x s₁ hx => ?_)
  · -- an item
    intro hsz
    generalize hn : out.length - i = n at hv
    cases n with
    | zero => unfold Ph at hv; exact hv.elim
    | succ n =>
      unfold Ph at hv
      obtain ⟨hq, ys, x, ip', gk', σy, Hy, Wp, en, rv, R1, ⟨Iy, gy, ry, ds, oy, cy, Yy, pr, pre, eW, vo⟩, wk⟩ := hv
      subst eW
      have Yy : GoC ⟨I, σg, H, gg⟩ rg ⟨Iy, σy, Hy, gy⟩ ry := Yy
      have lys : ys.length = i := by have := d.le; omega
      have il : i < out.length := by omega
      obtain ⟨dd, ed⟩ : ∃ dd, out[i]? = some dd := ⟨out[i], List.getElem?_eq_getElem il⟩
      have ld : ds.length = i + 1 := by rw [← pr.length, List.length_append, lys]; rfl
      have dsi : ds[i]? = some dd := by
        obtain ⟨t, rfl⟩ := pre
        rw [List.getElem?_append_left (by omega)] at ed
        exact ed
      have rx : Rep X.K Iy x dd := by
        obtain ⟨v', e1, e2⟩ := pr.get dsi
        rw [← lys, List.getElem?_append_right (Nat.le_refl _)] at e1
        simp at e1
        rw [e1]
        exact e2
      have bare1 : AllBare (s₁.setGen gi (End.susp v g₀ l₀ k₀ c₀ p₀ fs₀).genState).gens := allBare_setGen R1.I.bare (End.bare_of_quiet hq)
      have os1 : s₁.os = s.os := R1.I.os
      have sz1 : gi < s₁.gens.size := by
        have q : (s₁.setGen gi (End.susp v g₀ l₀ k₀ c₀ p₀ fs₀).genState).gens.size = s₁.gens.size := setGen_size _ _ _
        omega
      have kg' : Kp gk' (s₁.setGen gi (End.susp v g₀ l₀ k₀ c₀ p₀ fs₀).genState).gens := fun j k l cc p fs cl e => by
        have ne : gi ≠ j := Nat.ne_of_lt (R1.kp.kn j k l cc p fs cl e)
        show (s₁.gens.setIfInBounds gi _)[j]? = _
        rw [Array.getElem?_setIfInBounds, if_neg ne]
        exact R1.kp.kp j k l cc p fs cl e
      have V1 : Inv X pins σ Hy (s₁.setGen gi (End.susp v g₀ l₀ k₀ c₀ p₀ fs₀).genState) := Inv.behind V0 lw hpr hc0 os1 R1.I.base R1.I.hok Yy.dom bare1 (stays (s₁ := s₁) R1)
      obtain ⟨m1, ⟨ol, es1, ep1, ho1, r1⟩, _⟩ := id R1.I.loc
      have ho1 : s₁.heap.get? n0 = some ol := ho1
      have xl : ∀ p : Addr × Obj, p.1 ∉ frs X.stack → (n0 ≤ X.env.locals → p.1 ≠ X.env.locals) → p.1 ≠ X.env.locals := fun p q1 q2 => by
        rcases lw.loc with q | q
        · exact fun e => q1 (e ▸ q.2)
        · exact q2 q.1
      refine .inr ⟨dd, v, x, Iy, Hy, (n0, ol) :: (a, go) :: ip', ed, rfl, rv, rx, V1.pins_of fun p hp => ?_, ok_over o oy Yy dj2, go_over (K := X.K) y Yy dj1, prt Yy, ⟨N, qual, scope, f, cd, go, ol, gi, (End.susp v g₀ l₀ k₀ c₀ p₀ fs₀).genState, ip', gk', σy, gy, ry, bsAt n0 (s.setGen gi .running) H cp, Hy, s₁, os0, rfl, ?_⟩, fun p hp q hq => ?_⟩
      · rcases List.mem_append.mp hp with hp | hp
        · exact V1.pin p (List.mem_append_right _ hp)
        · rcases List.mem_cons.mp hp with rfl | hp
          · have nf : n0 ∉ frs X.stack := fun q => absurd (lw.fr _ q) (Nat.lt_irrefl _)
            refine ⟨ho1, R1.I.free, ngl (n0, oloc) (.head _), fun q => nf (lw.sub _ q), fun v q => ?_⟩
            have q : ol.data = .cell v := q
            rw [r1.1] at q
            cases q
          · have q := R1.I.pin p (by
              rcases List.mem_cons.mp hp with rfl | hp
              · exact List.mem_append_left _ (.head _)
              · exact List.mem_append_right _ hp)
            have q4 : p.1 ∉ frs X.stack := q.2.2.2.1
            refine ⟨q.1, q.2.1, xl p q4 fun z => ?_, fun z => q4 (lw.sub _ z), q.2.2.2.2⟩
            rcases List.mem_cons.mp hp with rfl | hp
            · exact ngl (a, go) (.tail _ (.head _))
            · exact fun e => R1.sep (X.env.locals, oL) (List.mem_append_right _ (hcp2 z)) p hp e.symm
      · refine ⟨setGen_at sz1, d.lo, fun _ => ⟨_, _, _, _, _, _, rfl⟩, d.isg, d.na, d.ncl, R1, ho1, kg', rfl, il, vo, (fun q => by omega), oy, cy, fun b hb => ?_, fun β H2 I2 s2 hR2 ho2 hc2 hl2 => ?_⟩
        · have hb : Cfg.Own ⟨Iy, σy, Hy, gy⟩ b ∨ b ∈ ry.map (·.1) := hb
          have hb2 : (Cfg.Own ⟨I, σg, H, gg⟩ b ∨ b ∈ rg.map (·.1)) ∨ H b = none := by
            rcases hb with hb | hb
            · exact (Yy.own b hb).imp .inl id
            · exact (Yy.cel b hb).imp .inr id
          rcases hb2 with hb2 | hb2
          · exact d.dj b hb2
          · refine ⟨y.dom b hb2, fun q => ?_, fun q => hpr b q hb2⟩
            obtain ⟨u, hu⟩ := own_some' o q
            exact no_some hb2 hu
        · have e : out.length - (i + 1) = n := by omega
          rw [e]
          exact wk β H2 _ s2 hR2 ⟨I2, hl2, rfl, ho2, hc2⟩
      · rcases List.mem_cons.mp hq with rfl | hq
        · exact sp p hp (n0, oloc) (.head _)
        · rcases List.mem_cons.mp hq with rfl | hq
          · exact sp p hp (a, go) (.tail _ (.head _))
          · exact R1.sep p (List.mem_append_right _ (hcp3 p hp)) q hq
  · -- the end
    have hx : Rend (mkG X B n0 N qual scope f cd a go gi nw os0) (genD X.K nw out) out.length (out.length - i) (bsAt n0 (s.setGen gi .running) H cp) (⟨I, σg, H, gg⟩, rg) x s₁ := by
      generalize out.length - i = n at hx
      cases n <;> (unfold Ph at hx; exact hx)
    rcases hx with ⟨hr, ys, ip', gk', σy, Hy, en, R1, hq⟩ | ⟨e, _, hcx⟩
    · refine ⟨hr, fun h' hk hsz => ?_⟩
      have key : ∃ Iy σy' gy ry, Ok X.K ⟨Iy, σy', Hy, gy⟩ ∧ GoC ⟨I, σg, H, gg⟩ rg ⟨Iy, σy', Hy, gy⟩ ry ∧ Reps X.K Iy ys out := by
        rcases hq with ⟨Iy, gy, ry, oy, Yy, pr⟩ | ⟨_, Iy, σy', gy, ry, oy, Yy, pr⟩
        · exact ⟨Iy, σy, gy, ry, oy, Yy, pr⟩
        · exact ⟨Iy, σy', gy, ry, oy, Yy, pr⟩
      obtain ⟨Iy, σy', gy, ry, oy, Yy, pr⟩ := key
      have l := pr.length
      have V1 : Inv X pins σ Hy (s₁.setGen gi .finished) := Inv.behind V0 lw hpr hc0 R1.I.os R1.I.base R1.I.hok Yy.dom (allBare_setGen R1.I.bare rfl) (stays (s₁ := s₁) R1)
      refine .inl ⟨by have := d.le; omega, rfl, Iy, Hy, ?_, ok_over o oy Yy dj2, go_over (K := X.K) y Yy dj1, prt Yy⟩
      exact V1.call' (ch := []) rfl (Un.kept hk) (V1.hok.kept hk) V1.bare fun b z => by simp at z
    · rcases hcx with hcx | ⟨oo, nn, ho, sx, ex, z, hcx⟩ <;> (obtain ⟨aa, B, H', cls, dx, _, _, _, _, _, _, _, hE⟩ := hcx; exact hE.elim)
theorem Slp.next {X : Cx} {B : Around} {out : List D} {i n0 lo : Nat} {nw : Bool} {a : Addr} {gp pins : List (Addr × Obj)} {pr : List Addr} {c0 : Cfg} {I H : Hp} {σ : L2.St} {g : Sg} {s : Shared} {E : Value → Shared → Prop} (hc : B.handled = none) (hd : B.depth < recursionLimit)
    (lw : Lows X pins n0 pr c0) (hpr : ∀ b ∈ pr, H b ≠ none) (V : Inv X (pins ++ gp) σ H s) (o : Ok X.K ⟨I, σ, H, g⟩) (y : Go c0 ⟨I, σ, H, g⟩) (h : Slp X B out i n0 lo nw a gp pr c0 ⟨I, σ, H, g⟩ s) :
    wpAny (model X.prog X.w) B (pyNext (.ref a)) (NX X B pins out i n0 lo nw a pr c0 σ g I H) E s := by
  refine wpAny_mono (Slp.nextP [] hc hd (fun p hp => by simp at hp) (fun p hp q => absurd (lw.pin p hp) (Nat.not_lt.mpr q)) (fun p hp => by simp at hp) lw.g hpr V o y h) (fun r s' q => ?_) fun _ _ z => z
  rcases q with q | ⟨d, v, x, I', H', gp', q1, q2, q3, q4, q5, q6, q7, q8, q9, _⟩
  · exact .inl q
  · exact .inr ⟨d, v, x, I', H', gp', q1, q2, q3, q4, q5, q6, q7, q8, q9⟩
end Vl
set_option Elab.async false
set_option linter.all false
set_option maxRecDepth 100000
set_option maxHeartbeats 1000000
namespace Vl
open PySem PySem.Spec PyProof.Rows L2 My Gn GenW
theorem gsz_post {α : Type} {M : Model} {A : Around} {t : Sem α} {Q : α → Shared → Prop} {E : Value → Shared → Prop} {n : Nat} {s : Shared} (hn : n ≤ s.gens.size) (h : wpAny M A t Q E s) : wpAny M A t (fun a s' => n ≤ s'.gens.size ∧ Q a s') E s :=
  wpAny_gsz hn (wpAny_mono h (fun _ _ q hs => ⟨hs, q⟩) fun _ _ q _ => q)
theorem vo_start (N : Nat) (ds : List D) (j : Nat) (t : Bool) (d : D) : (startG N (ds.map .val))[j]? ≠ some (Sl.own t d) := fun q => by
  have m := List.mem_of_getElem? q
  unfold startG at m
  rcases List.mem_append.mp m with m | m
  · obtain ⟨a, ha, e⟩ := List.mem_map.mp m
    obtain ⟨x, _, rfl⟩ := List.mem_map.mp ha
    cases e
  · have := List.eq_of_mem_replicate m
    cases this
def XnI (K : PySem.W.Frag) (W : WX) (c0 : Cfg) (r : Res (List D)) : Prop := match r with
  | .ok _ _ => True
  | .exn x fs g => ∀ I H e, Ok K ⟨I, c0.σ, H, g⟩ → Go c0 ⟨I, c0.σ, H, g⟩ → XdAt K c0 ⟨I, c0.σ, H, g⟩ e fs → W (.ref (He.ga K x)) (some e) c0.σ H
  | .stuck => False
structure VGen (X : Cx) (W : WX) (k : Nat) (nw : Bool) (e : Expr) (fi : Fi) : Prop where
  run : ∀ (pins : List (Addr × Obj)) (s : Shared) (σ : L2.St) (H I : Hp) (g : Sg), Inv X pins σ H s → Ok X.K ⟨I, σ, H, g⟩ → XnI X.K W ⟨I, σ, H, g⟩ (fi g) →
    wpAny (model X.prog X.w) X.A (eval e X.env) (fun u s' => ∃ ds g1 I1 H1 n0 lo a gp, fi g = .ok ds g1 ∧ u = .ref a ∧ Inv X (pins ++ gp) σ H1 s' ∧ Ok X.K ⟨I1, σ, H1, g1⟩ ∧ Go ⟨I, σ, H, g⟩ ⟨I1, σ, H1, g1⟩ ∧ (∀ B, Room (k + 1) B → B.frames = some X.stack → ∀ c0 pr, Slp X B ds 0 n0 lo nw a gp pr c0 ⟨I1, σ, H1, g1⟩ s') ∧ (∀ c0 pr, Lows X pins n0 pr c0) ∧ n0 ≤ s'.heap.objs.size ∧ s.gens.size ≤ lo) X.xe s
structure GKf2 (P : Program) (w : World) (K : PySem.W.Frag) (mg : Str → Option Value) (base : Heap) (k : Nat) (nw : Bool) (x : Str) (n : Nat) (ks : List Str) (gD : List D → List D → List D) (m : Fm) : Prop where
  ex : ∃ (f : Addr) (fd : FuncData) (ps : List Str) (gW : List Value → List Value → List Value) (gV : List V → List V → List V) (nN : Nat) (U : TGC),
    GFn2 (Ω := Om) P w K mg base k nN nw f fd ps (fun _ => rdY K nw U) ∧ KBn K fd ps n ks gW gV ∧ mg x = some (.ref f) ∧ PySem.W.keepIn K (.ref f) = true ∧ (∀ I vs ds zs es, Reps K I vs ds → Reps K I zs es → Reps K I (gV vs zs) (gD ds es)) ∧
    ∀ as ds o, m as = .ok (.fr (.lst ds)) o → as.length = ps.length ∧ U (endG ps.length (m as)) [] (startG nN as) []
def valsO : List RV → Option (List D)
  | [] => some []
  | .val d :: r => (valsO r).map (d :: ·)
  | _ :: _ => none
def genK (gD : List D → List D → List D) (m : Fm) (n q : Nat) (rs zs : List RV) : Option (List D) := match valsO rs, valsO zs with
  | some ds, some es => if ds.length = n ∧ es.length = q then (match m ((gD ds es).map .val) with
    | .ok (.fr (.lst out)) _ => some out
    | _ => none) else none
  | _, _ => none
def genI (gD : List D → List D → List D) (m : Fm) (n q : Nat) (fs fk : List Ft) : Fi := fun g => (evA fs g).bind fun rs g1 => (evA fk g1).bind fun zs g2 => match genK gD m n q rs zs with
  | some out => .ok out g2
  | none => .stuck
theorem valsO_ok {K : PySem.W.Frag} {c0 c : Cfg} : ∀ {vs : List V} {rs : List RV} {ds : List D}, RvsR K c0 c vs rs → valsO rs = some ds → Reps K c.I vs ds
  | _, _, _, .nil, e => by cases e; exact .nil
  | _, _, _, .cons ⟨c', h, n⟩ t, e => by
    rename_i r _ _
    cases r with
    | val d =>
      obtain ⟨ds, e1, rfl⟩ := Option.map_eq_some_iff.mp e
      exact .cons h (valsO_ok (c0 := c0) t e1)
    | at_ i => cases e
    | fr d => cases e
theorem ok_startV {K : PySem.W.Frag} {I H : Hp} {σ : L2.St} {g : Sg} {N : List Str} {vs : List V} {ds : List D} (o : Ok K ⟨I, σ, H, g⟩) (r : Reps K I vs ds) : Ok K ⟨I, L2.start N vs, H, startG N.length (ds.map .val)⟩ ∧ ∀ b, ¬ Cfg.Own ⟨I, L2.start N vs, H, startG N.length (ds.map .val)⟩ b := by
  have no : ∀ {i : Nat} {t : Bool} {d : D}, (startG N.length (ds.map Ar.val))[i]? = some (.own t d) → False := fun {i t d} h => by
    rcases startG_get h with ⟨d1, e1, z⟩ | ⟨d1, e1, z⟩ | ⟨e1, z, _⟩ <;> cases z
    rw [List.getElem?_map, Option.map_eq_some_iff] at e1
    obtain ⟨x, _, e2⟩ := e1
    cases e2
  refine ⟨⟨o.sub, fun i s hs => ?_, fun i j t t' d d' h1 h2 e => (no h1).elim, o.nt, o.tab⟩, fun b ⟨i, t, d, h1, _⟩ => no h1⟩
  rcases startG_get hs with ⟨d, e, rfl⟩ | ⟨d, e, rfl⟩ | ⟨e, rfl, hi⟩
  · rw [List.getElem?_map, Option.map_eq_some_iff] at e
    obtain ⟨x, e1, e2⟩ := e
    cases e2
    obtain ⟨v, hv, rv⟩ := r.get e1
    exact ⟨_, start_lt hv, v, rfl, rv⟩
  · exact (no hs).elim
  · refine ⟨_, start_ge ?_ hi, trivial⟩
    rw [List.length_map] at e
    rw [r.length]
    exact e
section
variable {X : Cx} {W : WX} {k n : Nat} {x : Str} {p pos : Pos} {e : Expr} {es : List Expr} {kws : List Keyword} {ks : List Str} {gD : List D → List D → List D} {m : Fm} {fs fk : List Ft}
theorem gen_call {nw : Bool} {pins : List (Addr × Obj)} {σ : L2.St} {H I : Hp} {g : Sg} {s : Shared} {us ws : List Value} {vs zs : List V} {ds es : List D} {out : List D} {outs : List Sl} {f : Addr} {fd : FuncData} {ps : List Str} {gW : List Value → List Value → List Value} {gV : List V → List V → List V} {nN : Nat} {U : TGC} {E : Value → Shared → Prop}
    (F : GFn2 (Ω := Om) X.prog X.w X.K X.mg X.base k nN nw f fd ps (fun _ => rdY X.K nw U)) (hb : KBn X.K fd ps n ks gW gV) (hG : ∀ I vs ds zs es, Reps X.K I vs ds → Reps X.K I zs es → Reps X.K I (gV vs zs) (gD ds es))
    (hr : Room k X.A) (h1 : X.stack = X.env :: X.outer) (h2 : X.env.frame = some X.env.locals) (V : Inv X pins σ H s) (o : Ok X.K ⟨I, σ, H, g⟩) (r : Vals vs us) (rz : Vals zs ws) (rd : Reps X.K I vs ds) (re : Reps X.K I zs es) (hn : ds.length = n) (hq : es.length = ks.length)
    (hm : m ((gD ds es).map .val) = .ok (.fr (.lst out)) outs) (hU : ((gD ds es).map Ar.val).length = ps.length ∧ U (endG ps.length (m ((gD ds es).map .val))) [] (startG nN ((gD ds es).map .val)) []) :
    wpAny (model X.prog X.w) X.A (call (.ref f) us (ks.zip ws)) (fun u s' => ∃ n0 lo a gp, u = .ref a ∧ Inv X (pins ++ gp) σ H s' ∧ (∀ B, Room (k + 1) B → B.frames = some X.stack → ∀ c0 pr, Slp X B out 0 n0 lo nw a gp pr c0 ⟨I, σ, H, g⟩ s') ∧ (∀ c0 pr, Lows X pins n0 pr c0) ∧ n0 ≤ s'.heap.objs.size ∧ s.gens.size ≤ lo) E s := by
  have r2 := hb.rel r rz
  have lv : vs.length = n := rd.length.trans hn
  have lz : zs.length = ks.length := re.length.trans hq
  have e1 : us.length = n := r.length.symm.trans lv
  have e2 : ws.length = ks.length := rz.length.symm.trans lz
  have rg := hG I vs ds zs es rd re
  have lp : (gV vs zs).length = ps.length := by rw [rg.length, ← hU.1, List.length_map]
  refine wpAny_call (codeAny_mono (F.run X.A X.stack s H ⟨us, ks.zip ws⟩ (gW us ws) (gV vs zs) (fun _ _ _ => False) hr V.env0 (hb.to s us ws V.kIn e1 e2) r2 lp) fun r s' hq => ?_)
  cases r with
  | error e => exact False.elim hq
  | ok fl =>
    cases fl with
    | next => exact False.elim hq
    | brk => exact False.elim hq
    | cont => exact False.elim hq
    | ret u =>
      obtain ⟨a, gi, c, N, qual, scope, ff, cd, go, rfl, na, ha2, hgen, hcell, hget, hgens, hlo, hos, hbare, hlim, hkeep, hcells, rfl, hA⟩ := hq
      obtain ⟨R0, _⟩ := hA X.A ⟨hr.hd, hr.dp, hr.un⟩ V.ok.frames
      have V1 : Inv X pins σ H s' := V.call' (ch := []) hos (Un.kept hkeep) (V.hok.kept hkeep) hbare fun b z => by simp at z
      obtain ⟨mL, ⟨ol, es1, ep1, ho1, r1⟩, _⟩ := id R0.I.loc
      have ho1 : s'.heap.get? s.heap.objs.size = some ol := ho1
      have pg := R0.I.pin (a, go) (List.mem_append_left _ (.head _))
      have lw := fun c0 pr => Lows.of V h1 h2 pr c0
      have l0 := lw ⟨I, σ, H, g⟩ []
      have stl : X.env.locals ∈ frs X.stack := by
        rcases l0.loc with q | q
        · exact q.2
        · have : X.env.locals < s.heap.objs.size := by
            obtain ⟨m, ⟨o, es, ep, ho, r⟩, _⟩ := V.loc
            exact Heap.lt_size ho
          exact absurd this (Nat.not_lt.mpr q.1)
      obtain ⟨og, nown⟩ := ok_startV (N := N) o rg
      refine ⟨s.heap.objs.size, s.gens.size, a, [(s.heap.objs.size, ol), (a, go)], rfl, V1.pins_of fun p hp => ?_, fun B hB hBf c0 pr => ⟨N, qual, scope, ff, cd, go, ol, gi, .fresh c, [], #[], L2.start N (gV vs zs), startG N.length ((gD ds es).map .val), [], ⟨s, H, []⟩, H, s', s.os, rfl, ?_⟩, lw, Nat.le_of_lt (Heap.lt_size ho1), Nat.le_refl _⟩
      · rcases List.mem_append.mp hp with hp | hp
        · exact V1.pin p (List.mem_append_right _ hp)
        · rcases List.mem_cons.mp hp with rfl | hp
          · refine ⟨ho1, R0.I.free, fun e => ?_, fun q => ?_, fun v q => ?_⟩
            · have : X.env.locals < s.heap.objs.size := l0.fr _ stl
              rw [← e] at this
              exact absurd this (Nat.lt_irrefl _)
            · exact absurd (l0.fr _ (l0.sub _ q)) (Nat.lt_irrefl _)
            · have q : ol.data = .cell v := q
              rw [r1.1] at q
              cases q
          · have hp := List.mem_singleton.mp hp
            subst hp
            have q4 : a ∉ frs X.stack := pg.2.2.2.1
            exact ⟨pg.1, pg.2.1, fun e => q4 (by have e : a = X.env.locals := e; rw [e]; exact stl), fun z => q4 (l0.sub _ z), pg.2.2.2.2⟩
      · obtain ⟨R0, wake⟩ := hA B.in1 hB.in1 hBf
        refine ⟨hgens, hlo, fun h => absurd h (Nat.lt_irrefl _), hgen, na, hcells, R0, ho1, kp_none _, rfl, Nat.zero_le _, fun _ => ⟨fun j t d q => (vo_start _ _ j t d q).elim, rfl⟩, fun _ => rfl, og, ⟨fun _ _ q => (nomatch q), List.nodup_nil⟩, fun b hb => ?_, fun β H3 I3 s3 hR ho hc hl => ?_⟩
        · rcases hb with hb | hb
          · exact (nown b hb).elim
          · simp at hb
        · refine wake (genD X.K nw out) out.length β (⟨I3, L2.start N (gV vs zs), H3, startG N.length ((gD ds es).map .val)⟩, []) H3 s3 (fun _ _ _ _ h => h.1) (fun _ _ _ _ => ⟨id, id⟩) hR few_genD ?_
          exact ⟨I3, _, [], endG ps.length (m ((gD ds es).map .val)), [], fun ds => ds <+: out, ho, hc, GoC.refl _ _, .nil, hU.2, back2_gen hm⟩
theorem vgen_kw {nw : Bool} (c : GKf2 X.prog X.w X.K X.mg X.base k nw x n ks gD m) (hr : Room k X.A) (h1 : X.stack = X.env :: X.outer) (h2 : X.env.frame = some X.env.locals) (hg : Gl X x) (ha : VA X W (e :: es) fs) (hkw : VAK X W kws fk)
    (hall : (backToKw pos (keywordEach kws X.env)).all (·.1.isSome) = true := by rfl) (hks : (backToKw pos (keywordEach kws X.env)).filterMap (·.1) = ks := by rfl) (hdb : (x == ("__debug__" : Str)) = false := by decide)
    (he : starEach (e :: es) X.env = (false, eval e X.env) :: starEach es X.env := by rfl) (hpl : ((backTo pos (starEach (e :: es) X.env)).any (·.1) || (backToKw pos (keywordEach kws X.env)).any (·.1.isNone)) = false := by rfl) :
    VGen X W k nw (.Call (.Name x p) (e :: es) kws pos) (genI gD m n ks.length fs fk) := by
  obtain ⟨f, fd, ps, gW, gV, nN, U, F, hb, hm, kp, hG, hU⟩ := c.ex
  refine ⟨fun pins s σ H I g V o h => ?_⟩
  refine wpAny_Call_Name_kw (ld_glob V hg hm ?_ hdb)
  refine PySem.W.callWith_KW (h₀ := X.base) V.ok.mod.kin kp hall (thn (gsz_post (Nat.le_refl _) (ha.pa.run pos pins s σ H (fun vs H1 => ∃ I1 g1 rs, evA fs g = .ok rs g1 ∧ Ok X.K ⟨I1, σ, H1, g1⟩ ∧ Go ⟨I, σ, H, g⟩ ⟨I1, σ, H1, g1⟩ ∧ RvsR X.K ⟨I, σ, H, g⟩ ⟨I1, σ, H1, g1⟩ vs rs) V ⟨I, g, o, ?_⟩)) fun us s1 ⟨hz1, vs, H1, V1, r, I1, g1, rs, e1, o1, y1, rr⟩ => ?_) hpl he
  · unfold genI at h
    cases e : evA fs g with
    | ok rs g1 => exact fun I1 H1 vs o1 y1 rr => ⟨I1, g1, rs, rfl, o1, y1, rr⟩
    | exn c fs g1 => rw [e] at h; exact h
    | stuck => rw [e] at h; exact h
  have h : XnI X.K W ⟨I, σ, H, g⟩ ((evA fk g1).bind fun zs g2 => match genK gD m n ks.length rs zs with | some out => .ok out g2 | none => .stuck) := by
    unfold genI at h
    rw [e1] at h
    exact h
  refine thn (gsz_post hz1 (hkw.pk.run pos pins s1 σ H1 (fun zs H2 => ∃ I2 g2 ys, evA fk g1 = .ok ys g2 ∧ Ok X.K ⟨I2, σ, H2, g2⟩ ∧ Go ⟨I1, σ, H1, g1⟩ ⟨I2, σ, H2, g2⟩ ∧ RvsR X.K ⟨I1, σ, H1, g1⟩ ⟨I2, σ, H2, g2⟩ zs ys) V1 ⟨I1, g1, o1, ?_⟩)) fun ws s2 ⟨hz2, zs, H2, V2, rz, I2, g2, ys, e2, o2, y2, ry⟩ => ⟨V2.kIn, ?_⟩
  · cases e : evA fk g1 with
    | ok rs g1 => exact fun I1 H1 vs o1 y1 rr => ⟨I1, _, rs, rfl, o1, y1, rr⟩
    | exn c fs g2 => rw [e] at h; exact fun I2 H2 e2 o2 y2 x2 => h I2 H2 e2 o2 (y1.trans y2) (x2.go y1)
    | stuck => rw [e] at h; exact h
  rw [hks]
  rw [e2] at h
  have h : XnI X.K W ⟨I, σ, H, g⟩ (match genK gD m n ks.length rs ys with | some out => .ok out g2 | none => .stuck) := h
  cases e3 : genK gD m n ks.length rs ys with
  | none => rw [e3] at h; exact h.elim
  | some out =>
    have e4 := e3
    unfold genK at e4
    split at e4
    · rename_i ds es ed ee
      split at e4
      · rename_i hnq
        split at e4
        · rename_i out' outs em
          cases e4
          have rd := (valsO_ok rr ed).mono y2.sub
          have re := valsO_ok ry ee
          refine wpAny_mono (gen_call (E := X.xe) F hb hG hr h1 h2 V2 o2 r rz rd re hnq.1 hnq.2 em (hU _ _ _ em)) (fun u s' ⟨n0, lo, a, gp, eu, V3, sl, lw, ln, hlo⟩ => ?_) fun _ _ z => z
          refine ⟨out, g2, I2, H2, n0, lo, a, gp, ?_, eu, V3, o2, y1.trans y2, sl, lw, ln, Nat.le_trans hz2 hlo⟩
          unfold genI
          rw [e1]
          show (evA fk g1).bind _ = _
          rw [e2]
          show (match genK gD m n ks.length rs ys with | some out => _ | none => _) = _
          rw [e3]
        · cases e4
      · cases e4
    · cases e4
end
def forG2 (fi : Fi) (t : Tg) (fb : Fs) : Fs := fun g => bindE (fi g) fun ds g1 => noXS (loopF t fb ds g1)
theorem remS_noX {K : PySem.W.Frag} {W : WX} {c0 : Cfg} {r : Rs} {D : Ends} (h : RemS K W c0 (noXS r) D) : RemS K W0 c0 r D := by
  cases r <;> first | exact h | exact h.elim
theorem Inv.gens' {X : Cx} {pins : List (Addr × Obj)} {σ : L2.St} {H : Hp} {s : Shared} {gs : Array GenState} (V : Inv X pins σ H s) (h : AllBare gs) : Inv X pins σ H { s with gens := gs } :=
  ⟨V.ok, V.os, h, V.base, V.loc, V.cell, V.free, V.freeC, V.pin, V.hok, V.len⟩
theorem Inv.back' {X : Cx} {pins pn' : List (Addr × Obj)} {σ : L2.St} {H : Hp} {s : Shared} {gs : Array GenState} {xe : Value → Shared → Prop} (V : Inv (X.tr (X.pn ++ pins) xe) pn' σ H { s with gens := gs }) (ok : X.Ok) (h : AllBare s.gens) : Inv X pins σ H s := by
  have V1 := Inv.ofTry V ok
  exact ⟨V1.ok, V1.os, h, V1.base, V1.loc, V1.cell, V1.free, V1.freeC, V1.pin, V1.hok, V1.len⟩
section
variable {X : Cx} {W : WX}
theorem vs_forGen {tg e : Expr} {body : List Stmt} {fi : Fi} {t : Tg} {fb : Fs} {pos : Pos} {k : Nat} {nw : Bool} (hp : PassesOwn (model X.prog X.w) X.A X.env X.xe) (hc : X.calm = true) (hr : Room (k + 1) X.A) (hi : VGen X W k nw e fi) (hg : ∀ (pn : List (Addr × Obj)) (xe : Value → Shared → Prop), VG (X.tr pn xe) tg t)
    (hb : ∀ (W : WX) (pn : List (Addr × Obj)) (xe : Value → Shared → Prop), Takes (X.tr pn xe) W → PassesOwn (model X.prog X.w) X.A X.env xe → VSs (X.tr pn xe) W body fb)
    (hs : ∀ x, foldedSetIterable e X.env x = pure x := by intro _; rfl) : VS X W (.For tg e body [] pos) (forG2 fi t fb) := by
  refine ⟨⟨fun pins s σ H D V ⟨I, g, o, r⟩ => ?_⟩⟩
  unfold forG2 at r
  have hx : XnI X.K W ⟨I, σ, H, g⟩ (fi g) := by
    cases e : fi g with
    | ok ds g1 => exact True.intro
    | exn c fs g1 => rw [e] at r; exact fun I1 H1 e1 o1 y1 x1 => r I1 σ H1 e1 o1 y1 x1
    | stuck => rw [e] at r; exact r
  refine wpAny_For (thn (hi.run pins s σ H I g V o hx) fun v s1 ⟨ds, g1, I1, H1, n0, lo, a, gp, e, eu, V1, o1, y1, sl, lw, ln, _⟩ => ?_) hs
  subst eu
  rw [e] at r
  have r1 : RemS X.K W0 ⟨I1, σ, H1, g1⟩ (loopF t fb ds g1) D := RemS.go y1 (remS_noX r)
  have sl := sl X.A hr V1.ok.frames
  have gen : ∀ {i : Nat} {gp : List (Addr × Obj)} {pr : List Addr} {c0 c : Cfg} {s2 : Shared} {σ2 : L2.St} {H2 : Hp}, Slp X X.A ds i n0 lo nw a gp pr c0 c s2 → Inv X (pins ++ gp) σ2 H2 s2 → ∃ gi, s2.heap.IsGen a gi := fun {i gp pr c0 c s2 σ2 H2} sl V => by
    obtain ⟨N, qual, scope, f, cd, go, oloc, gi, gs, ip, gk, σg, gg, rg, β0, H0, s0, os0, rfl, d⟩ := sl
    exact ⟨gi, d.isg _ (V.pin (a, go) (List.mem_append_right _ (List.mem_append_right _ (.tail _ (.head _))))).1⟩
  obtain ⟨gi, hgi⟩ := gen (sl ⟨I1, σ, H1, g1⟩ []) V1
  refine wpAny_pyIter_gen hgi ?_
  refine codeAny_forLoop_any (fun n s' => ∃ i σ' I' H' g' gp, n = ds.length - i ∧ i ≤ ds.length ∧ Inv X (pins ++ gp) σ' H' s' ∧ Ok X.K ⟨I', σ', H', g'⟩ ∧ Go ⟨I1, σ, H1, g1⟩ ⟨I', σ', H', g'⟩ ∧ Slp X X.A ds i n0 lo nw a gp [] ⟨I1, σ, H1, g1⟩ ⟨I', σ', H', g'⟩ s' ∧ RemS X.K W0 ⟨I1, σ, H1, g1⟩ (loopF t fb (ds.drop i) g') D) ?_ ds.length
    ⟨0, σ, I1, H1, g1, gp, rfl, Nat.zero_le _, V1, o1, Go.refl _, sl _ _, r1⟩
  rintro n s3 ⟨i, σ3, I3, H3, g3, gp3, rfl, hi', V3, o3, y3, sl3, r3⟩
  refine wpAny_passesOwn hp (thn (Slp.next (V3.ok.hd hc) hr.depth (lw _ _) (fun b hb => by simp at hb) V3 o3 y3 sl3) fun r s4 hr4 => ?_)
  rcases hr4 with ⟨ei, rfl, I4, H4, V4, o4, y4, _⟩ | ⟨d, v, x, I4, H4, gp4, ed, rfl, rv, rx, V4, o4, y4, _, sl4⟩
  · subst ei
    rw [List.drop_length] at r3
    exact wpAny_execs_nil ⟨σ3, H4, V4, r3 I4 σ3 H4 o4 y4⟩
  · have hlt : i < ds.length := (List.getElem?_eq_some_iff.mp ed).1
    obtain ⟨gj, oj, nm, qn, ho, hcl, hda, _⟩ := gen sl4 V4
    refine wpAny_passesOwn hp (go_of ho hcl hda (by decide) ?_)
    have e5 : ds.drop i = d :: ds.drop (i + 1) := by
      rw [List.drop_eq_getElem_cons hlt]
      congr 1
      rw [List.getElem?_eq_getElem hlt] at ed
      exact Option.some.inj ed
    rw [e5] at r3
    unfold loopF at r3
    cases e4 : tgF t d g3 with
    | none => rw [e4] at r3; exact r3.elim
    | some g4 =>
      rw [e4] at r3
      have r3 : RemS X.K W0 ⟨I1, σ, H1, g1⟩ (match fb g4 with
        | .nx g2 => loopF t fb (ds.drop (i + 1)) g2
        | .ct g2 => loopF t fb (ds.drop (i + 1)) g2
        | .bk g2 => .nx g2
        | r => r) D := r3
      have nx : ∀ {α : Type} {t : Sem α} {Q Q' : α → Shared → Prop} {E : Value → Shared → Prop} {s : Shared}, AllBare s.gens → (∀ gs, AllBare gs → wpAny (model X.prog X.w) X.A t Q (fun _ _ => False) { s with gens := gs }) → (∀ a s', Same (Q a) s s' → Q' a s') → wpAny (model X.prog X.w) X.A t Q' E s :=
        fun hb h hq => wpAny_mono (wpAny_kept hb h) hq fun _ _ ⟨_, _, _, z⟩ => z.elim
      refine nx V4.bare (fun gs hgs => (hg (X.pn ++ (pins ++ gp4)) (fun _ _ => False)).pg.run [] _ σ3 H4 x v (fun σ6 H6 => H6 = H4 ∧ Ok X.K ⟨I4, σ6, H4, g4⟩ ∧ Go ⟨I4, σ3, H4, g3⟩ ⟨I4, σ6, H4, g4⟩) (Inv.toTry (Inv.gens' V4 hgs) _) rv ⟨I4, g3, d, o4, rx, g4, e4, fun σ6 o6 y6 _ => ⟨rfl, o6, y6⟩⟩) fun _ s6 ⟨kp6, gs6, hb6, σ6, H6, V6', eH, o6, y6⟩ => ?_
      subst eH
      have V6 : Inv X (pins ++ gp4) σ6 H6 s6 := Inv.back' V6' V4.ok (hb6 V6'.bare)
      have y06 : Go ⟨I1, σ, H1, g1⟩ ⟨I4, σ6, H6, g4⟩ := y4.trans y6
      let D5 : Ends := { nx := fun σ7 H7 => ∃ I7 g7, Ok X.K ⟨I7, σ7, H7, g7⟩ ∧ Go ⟨I4, σ6, H6, g4⟩ ⟨I7, σ7, H7, g7⟩ ∧ RemS X.K W0 ⟨I1, σ, H1, g1⟩ (loopF t fb (ds.drop (i + 1)) g7) D, ct := fun σ7 H7 => ∃ I7 g7, Ok X.K ⟨I7, σ7, H7, g7⟩ ∧ Go ⟨I4, σ6, H6, g4⟩ ⟨I7, σ7, H7, g7⟩ ∧ RemS X.K W0 ⟨I1, σ, H1, g1⟩ (loopF t fb (ds.drop (i + 1)) g7) D, bk := D.nx, rt := D.rt }
      have rem : RemS X.K W0 ⟨I4, σ6, H6, g4⟩ (fb g4) D5 := by
        cases q : fb g4 with
        | nx g5 => rw [q] at r3; exact fun I5 σ5 H5 o5 y5 => ⟨I5, g5, o5, y5, r3⟩
        | ct g5 => rw [q] at r3; exact fun I5 σ5 H5 o5 y5 => ⟨I5, g5, o5, y5, r3⟩
        | bk g5 => rw [q] at r3; exact fun I5 σ5 H5 o5 y5 => r3 I5 σ5 H5 o5 (y06.trans y5)
        | rt x g5 => rw [q] at r3; exact fun I5 σ5 H5 v5 o5 y5 rv5 => r3 I5 σ5 H5 v5 o5 (y06.trans y5) (rv5.go y06)
        | exn c fs g5 => rw [q] at r3; exact fun I5 σ5 H5 e5 o5 y5 x5 => r3 I5 σ5 H5 e5 o5 (y06.trans y5) (x5.go y06)
        | stuck => rw [q] at r3; exact r3
      refine nx V6.bare (fun gs hgs => (hb W0 (X.pn ++ (pins ++ gp4)) (fun _ _ => False) takes0' PassesOwn.never).pss.run [] _ σ6 H6 D5 (Inv.toTry (Inv.gens' V6 hgs) _) ⟨I4, g4, o6, rem⟩) fun f s7 ⟨kp7, gs7, hb7, sp⟩ => ?_
      have kp : ∀ (j : Nat) k l cc p fs cl, s4.gens[j]? = some (GenState.suspended k l cc p fs cl) → s7.gens[j]? = some (GenState.suspended k l cc p fs cl) := fun j k l cc p fs cl h => kp7 j k l cc p fs cl (kp6 j k l cc p fs cl h)
      have again : ∀ {σ7 : L2.St} {H7 : Hp}, Inv (X.tr (X.pn ++ (pins ++ gp4)) (fun _ _ => False)) [] σ7 H7 { s7 with gens := gs7 } → D5.nx σ7 H7 → ∃ m, m < ds.length - i ∧ ∃ i σ' I' H' g' gp, m = ds.length - i ∧ i ≤ ds.length ∧ Inv X (pins ++ gp) σ' H' s7 ∧ Ok X.K ⟨I', σ', H', g'⟩ ∧ Go ⟨I1, σ, H1, g1⟩ ⟨I', σ', H', g'⟩ ∧ Slp X X.A ds i n0 lo nw a gp [] ⟨I1, σ, H1, g1⟩ ⟨I', σ', H', g'⟩ s7 ∧ RemS X.K W0 ⟨I1, σ, H1, g1⟩ (loopF t fb (ds.drop i) g') D := fun {σ7 H7} V7' ⟨I7, g7, o7, y7, r7⟩ => by
        have V7 : Inv X (pins ++ gp4) σ7 H7 s7 := Inv.back' V7' V4.ok (hb7 V7'.bare)
        exact ⟨ds.length - (i + 1), by omega, i + 1, σ7, I7, H7, g7, gp4, rfl, hlt, V7, o7, y06.trans y7, sl4.go (y6.trans y7) o7 (.inl ⟨Nat.succ_pos _, kp⟩) (V7.os.trans V4.os.symm), r7⟩
      cases f with
      | next => obtain ⟨σ7, H7, V7, n7⟩ := sp; exact again V7 n7
      | cont => obtain ⟨σ7, H7, V7, n7⟩ := sp; exact again V7 n7
      | brk => obtain ⟨σ7, H7, V7, q7⟩ := sp; exact ⟨σ7, H7, Inv.unpinned (Inv.back' V7 V4.ok (hb7 V7.bare)), q7⟩
      | ret u => obtain ⟨x7, σ7, H7, V7, r7, q7⟩ := sp; exact ⟨x7, σ7, H7, Inv.unpinned (Inv.back' V7 V4.ok (hb7 V7.bare)), r7, q7⟩
end
end Vl
set_option Elab.async false
set_option linter.all false
set_option maxRecDepth 100000
set_option maxHeartbeats 1000000
namespace Vl
open PySem PySem.Spec PyProof.Rows L2 My Gn GenW
variable {nw : Bool}
section
variable {X : Cx} {W : WX} {elt tg iter : Expr} {ifs : List Expr} {scope : Scope} {own : List (Str × Nat)} {pos : Pos} {fi : Fi} {t : Tg} {tt : Option Fb} {fe : Ft}
theorem Slp.blk {B : Around} {out : List D} {i n0 lo : Nat} {a : Addr} {gp : List (Addr × Obj)} {pr : List Addr} {c0 c : Cfg} {s s3 : Shared} {H3 : Hp} {sc : Scope} {ce : Env} {fp : List Addr} (h : Slp X B out i n0 lo nw a gp pr c0 c s) : Slp (X.blk s3 H3 sc ce fp) B out i n0 lo nw a gp pr c0 c s := by
  obtain ⟨N, qual, scope, f, cd, go, oloc, gi, gs, ip, gk, σg, gg, rg, β0, H0, s0, os0, e, d⟩ := h
  exact ⟨N, qual, scope, f, cd, go, oloc, gi, gs, ip, gk, σg, gg, rg, β0, H0, s0, os0, e, ⟨d.gens, d.lo, d.sus, d.isg, d.na, d.ncl, d.run, d.loc, d.kg, d.os, d.le, d.vo, d.fr0, d.ok, d.cel, d.dj, d.wake⟩⟩
end
end Vl
set_option Elab.async false
set_option linter.all false
set_option maxRecDepth 100000
set_option maxHeartbeats 1000000
namespace Vl
open PySem PySem.Spec PyProof.Rows L2 My Gn GenW
variable {nw : Bool}
section
variable {X : Cx} {W : WX} {k n : Nat} {x : Str} {p pos : Pos} {kws : List Keyword} {ks : List Str} {gD : List D → List D → List D} {m : Fm} {fk : List Ft}
end
end Vl
set_option Elab.async false
set_option linter.all false
set_option maxRecDepth 100000
set_option maxHeartbeats 1000000
namespace Vl
open PySem PySem.Spec PyProof.Rows L2 My Gn GenW
variable {nw : Bool}
theorem FunD.okG2 {P : Program} {w : World} {K : PySem.W.Frag} {mg : Str → Option Value} {base : Heap} {x qual : Str} {params : Arguments} {body : List Stmt} {scope : Scope} {dvs : List V} {kws : List (Str × V)} {f : Addr} {fd : FuncData} {N ps : List Str} {k : Nat} {T : TGC} (F : FunD K x qual params body scope dvs kws f fd) (S : L2.GScope N ps scope) (hnc : ∀ n, cellsFrom n scope.names [] = [])
    (hbody : ∀ (cdv : Value) (A : Around) (outer : List Env) (n0 : Nat) (E : XK) (pn : List (Addr × Obj)) (gi : Nat) (os : OsState), Room k (A.deeper (envOfC qual scope n0 f cdv)) →
      (∀ β, Takes (Gd.cx (⟨P, w, K, mg, base, N, qual, scope, n0, f, cdv, A, outer, E, pn, gi, nw, os⟩ : Gd) β) (fun cls d _ H' => E cls d H')) →
      (∀ β, PassesOwn (model P w) (Gd.cx (⟨P, w, K, mg, base, N, qual, scope, n0, f, cdv, A, outer, E, pn, gi, nw, os⟩ : Gd) β).A (Gd.cx (⟨P, w, K, mg, base, N, qual, scope, n0, f, cdv, A, outer, E, pn, gi, nw, os⟩ : Gd) β).env (Gd.cx (⟨P, w, K, mg, base, N, qual, scope, n0, f, cdv, A, outer, E, pn, gi, nw, os⟩ : Gd) β).xe) →
      VGCs3 (⟨P, w, K, mg, base, N, qual, scope, n0, f, cdv, A, outer, E, pn, gi, nw, os⟩ : Gd) body T) :
    GFn2 (Ω := Om) P w K mg base (k + 1) N.length nw f fd ps (fun _ => rdY K nw T) := by
  obtain ⟨oc, od, dV, kV, doc, pm, an, cdv, ct, osl, rfl, lk, hcd, _, _⟩ := F.ex
  exact gfn2_of lk hcd S hnc fun A outer n0 E pn gi os vs hr => (hbody cdv A outer n0 E pn gi os hr (fun β => takes_gx) (fun β => owns_gx)).gss
theorem hand2 {k n : Nat} {U : TGC} : ∀ as ds o, onlyL (fnC k (hmG k n U)) as = .ok (.fr (.lst ds)) o → as.length = k ∧ U (endG k (onlyL (fnC k (hmG k n U)) as)) [] (startG n as) [] := fun as ds o e => by
  rcases onlyL_cases (fnC k (hmG k n U)) as with h | ⟨ds', o', e1, e2⟩
  · rw [h] at e; cases e
  · rw [e1]
    unfold fnC at e2
    split at e2
    · rename_i hk
      refine ⟨hk, ?_⟩
      rw [← e2]
      exact hand_G fun q => by rw [q] at e2; cases e2
    · cases e2
theorem tgd_yVal {f : Ft} : TgD (yVal f) := by
  refine ⟨fun E E' ds g r h h' => ?_, fun E ds g r b h => ?_, fun E E' ds g r l h => ?_⟩
  · unfold yVal at *
    split at h
    · rename_i d g1 e
      rw [e] at h'
      exact ⟨h, h'⟩
    · rename_i c fs g1 e
      rw [e] at h'
      exact ⟨h, h'⟩
    · exact h.elim
  · unfold yVal at h
    split at h
    · exact b.nx _ _ _ h
    · exact b.exn _ _ h
    · exact h
  · unfold yVal at *
    split at h
    · exact l.nx _ _ _ h
    · exact l.exn _ _ h
    · exact h
theorem tgd_ite {t : Fb} {U U' : TGC} (a : TgD U) (b : TgD U') : TgD (iteG t U U') := by
  refine ⟨fun E E' ds g r h h' => ?_, fun E ds g r bb h => ?_, fun E E' ds g r l h => ?_⟩
  · unfold iteG at *
    split at h
    · rename_i v g1 e
      rw [e] at h'
      cases v
      · exact b.conj _ _ _ _ _ h h'
      · exact a.conj _ _ _ _ _ h h'
    · rename_i c fs g1 e
      rw [e] at h'
      exact ⟨h, h'⟩
    · exact h.elim
  · unfold iteG at h
    split at h
    · rename_i v g1 e
      cases v
      · exact b.bot _ _ _ _ bb h
      · exact a.bot _ _ _ _ bb h
    · exact bb.exn _ _ h
    · exact h
  · unfold iteG at *
    split at h
    · rename_i v g1 e
      cases v
      · exact b.mono _ _ _ _ _ l h
      · exact a.mono _ _ _ _ _ l h
    · exact l.exn _ _ h
    · exact h
section
variable {X : Cx} {W : WX} {elt tg iter : Expr} {ifs : List Expr} {scope : Scope} {own : List (Str × Nat)} {pos : Pos} {fi : Fi} {t : Tg} {tt : Option Fb} {fe : Ft}
end
end Vl
set_option Elab.async false
set_option linter.all false
set_option maxRecDepth 100000
set_option maxHeartbeats 2000000
namespace Vl
open PySem PySem.Spec PyProof.Rows L2 My
variable {nw : Bool}
section
variable {X : Cx} {W : WX}
theorem itOkW_tup {K : PySem.W.Frag} {c : Cfg} {a : Addr} {xs : List V} {ds : List D} (h : SqT K c.I a xs) (r : Reps K c.I xs ds) : ItOkW K c (Itt K a) ds := fun c2 y o n => by
  have h2 : SqT K c2.H a xs := o.sub.sqT (y.sqT h)
  refine ⟨fun d e => ?_, fun e => ⟨xs, h2, by rw [r.length]; exact e⟩⟩
  obtain ⟨v, hv, rv⟩ := r.get e
  refine ⟨⟨xs, v, h2, hv⟩, fun x H' ⟨eH, hx⟩ => ?_⟩
  subst eH
  have := hx xs h2
  rw [hv] at this
  cases this
  exact ⟨c2.I, o, Go.refl _, rv.mono y⟩
theorem itOkW_str {K : PySem.W.Frag} {c : Cfg} {z : Str} : ItOkW K c (Its z) (charsD z) := fun c2 y o n => by
  refine ⟨fun d e => ?_, fun e => ?_⟩
  · unfold charsD at e
    rw [List.getElem?_map, Option.map_eq_some_iff] at e
    obtain ⟨c1, e1, rfl⟩ := e
    have e1' : z.cps[n]? = some c1 := by rw [← Array.getElem?_toList]; exact e1
    refine ⟨(Array.getElem?_eq_some_iff.mp e1').1, fun x H' ⟨eH, k, ek, ex⟩ => ?_⟩
    subst eH
    rw [e1'] at ek
    cases ek
    subst ex
    exact ⟨c2.I, o, Go.refl _, .str _⟩
  · unfold charsD at e
    rw [List.length_map, Array.length_toList] at e
    exact e
theorem viw_any {tg e : Expr} {fe : Ft} (h : VE X W e fe) : VIW X W tg e (iterF fe) := by
  refine ⟨pi_imp (PI.or (pi_list h.pe) (PI.or (pi_tup h.pe) (pi_str h.pe))) fun σ H R ⟨I, g, o, r⟩ => ?_⟩
  have r0 := RemIW.settled r
  unfold iterF at r
  -- which of the three is decided by the result
  have key : ∀ (P : V → Hp → Prop), (∀ v H1 I1 g1 d, Ok X.K ⟨I1, σ, H1, g1⟩ → Go ⟨I, σ, H, g⟩ ⟨I1, σ, H1, g1⟩ → Rep X.K I1 v d → RemIW X.K W ⟨I, σ, H, g⟩ (match itemsOf d with | some ds => .ok ds g1 | none => .stuck) R →
      (∃ x g0, settle (fe g) = .ok x g0 ∧ frz1 x g0 = some (d, g1)) → P v H1) → rdE X.K W fe σ H P := by
    intro P hP
    refine ⟨I, g, o, ?_⟩
    have nf : ∀ x g', Vl.settle (fe g) = .ok x g' → ∀ d, x ≠ .fr d := fun x g' h => settle_nofr h
    refine Rem.settle ?_
    revert hP nf r
    generalize Vl.settle (fe g) = sr
    intro r hP nf
    cases sr with
    | stuck => exact r
    | exn c fs g => exact r
    | ok x g0 =>
      intro I1 H1 v o1 y1 rx
      have r : RemIW X.K W ⟨I, σ, H, g⟩ (match frz1 x g0 with
        | some (d, g2) => (match itemsOf d with | some ds => .ok ds g2 | none => .stuck)
        | none => .stuck) R := r
      cases e : frz1 x g0 with
      | none => rw [e] at r; exact r.elim
      | some p =>
        obtain ⟨d, g1⟩ := p
        rw [e] at r
        obtain ⟨I2, o2, y2, rr⟩ := frz1_ok (c0 := ⟨I, σ, H, g⟩) o1 rx (nf x g0 rfl) e
        exact hP v H1 I2 g1 d o2 (y1.trans y2) rr r ⟨x, g0, rfl, e⟩
  -- by what the iterable is
  by_cases hc : ∃ x g0 d g1, settle (fe g) = .ok x g0 ∧ frz1 x g0 = some (d, g1) ∧ ((∃ xs, d = .tup xs) ∨ ∃ z, d = .str z)
  · obtain ⟨x0, g0, d0, g1, e0, e1, hd⟩ := hc
    rcases hd with ⟨xs, rfl⟩ | ⟨z, rfl⟩
    · refine .inr (.inl (key _ fun v H1 I1 g2 d o1 y1 rr r1 ⟨x, g3, e2, e3⟩ => ?_))
      rw [e0] at e2
      cases e2
      rw [e1] at e3
      cases e3
      cases rr with
      | tup hq rr => exact ⟨_, rfl, ⟨_, o1.sub.sqT hq⟩, r1 I1 H1 _ o1 y1 (itOkW_tup hq rr)⟩
    · refine .inr (.inr (key _ fun v H1 I1 g2 d o1 y1 rr r1 ⟨x, g3, e2, e3⟩ => ?_))
      rw [e0] at e2
      cases e2
      rw [e1] at e3
      cases e3
      cases rr
      exact ⟨z, rfl, r1 I1 H1 _ o1 y1 itOkW_str⟩
  · refine .inl (key _ fun v H1 I1 g2 d o1 y1 rr r1 ⟨x, g3, e2, e3⟩ => ?_)
    cases d <;> first | exact r1.elim | skip
    · exact (hc ⟨x, g3, _, g2, e2, e3, .inr ⟨_, rfl⟩⟩).elim
    · cases rr with
      | lst hq rr => exact ⟨_, rfl, ⟨_, SqL.of (o1.sub _ _ hq)⟩, r1 I1 H1 _ o1 y1 (itOkW_list (SqL.of hq) rr)⟩
    · cases rr with
      | seq hq rr => exact ⟨_, rfl, ⟨_, o1.sub.sqL hq⟩, r1 I1 H1 _ o1 y1 (itOkW_list hq rr)⟩
    · exact (hc ⟨x, g3, _, g2, e2, e3, .inl ⟨_, rfl⟩⟩).elim
end
end Vl
set_option Elab.async false
set_option linter.all false
set_option maxRecDepth 100000
set_option maxHeartbeats 1000000
namespace Vl
open PySem PySem.Spec PyProof.Rows L2 My Gn GenW
def young (gi : Nat) (gs : Array GenState) : Array GenState := gs.mapIdx fun i x => if gi < i then x else .finished
theorem young_get {gi i : Nat} {gs : Array GenState} : (young gi gs)[i]? = (gs[i]?).map fun x => if gi < i then x else .finished := by
  unfold young
  rw [Array.getElem?_mapIdx]
theorem young_at {gi i : Nat} {gs : Array GenState} (h : gi < i) : (young gi gs)[i]? = gs[i]? := by
  rw [young_get]
  cases gs[i]? with
  | none => rfl
  | some x => rw [Option.map_some, if_pos h]
theorem young_old {gi i : Nat} {gs : Array GenState} {k l c p fs cl} (e : (young gi gs)[i]? = some (GenState.suspended k l c p fs cl)) : gi < i ∧ gs[i]? = some (GenState.suspended k l c p fs cl) := by
  by_cases h : gi < i
  · rw [young_at h] at e
    exact ⟨h, e⟩
  · rw [young_get] at e
    cases e2 : gs[i]? with
    | none => rw [e2] at e; cases e
    | some x => rw [e2, Option.map_some, if_neg h] at e; cases e
theorem kq_young {gi : Nat} {gs : Array GenState} (h : gi < gs.size) : Kq gi (young gi gs) gs := ⟨fun i k l c p fs cl e => (young_old e).2, fun i k l c p fs cl e => (young_old e).1, h⟩
theorem kp_young {gi : Nat} {a b : Array GenState} (h : Kp a b) : Kp (young gi a) (young gi b) := fun i k l c p fs cl e => by
  obtain ⟨e1, e2⟩ := young_old e
  rw [young_at e1]
  exact h i k l c p fs cl e2
theorem Slp.over {X X' : Cx} {B : Around} {out : List D} {i n0 lo gj : Nat} {a : Addr} {gp : List (Addr × Obj)} {pr pr' : List Addr} {c0 c0' c c' : Cfg} {s s' : Shared} (h : Slp X B out i n0 lo true a gp pr c0 c s) (eX : X'.prog = X.prog ∧ X'.w = X.w ∧ X'.K = X.K ∧ X'.mg = X.mg ∧ X'.base = X.base ∧ X'.stack = X.stack) (hi : 0 < i) (hlo : gj < lo) (le : Le c.I c'.I) (o' : Ok X.K c')
    (kp : Kp (young gj s.gens) s'.gens) (os : s'.os = s.os) : Slp X' B out i n0 lo true a gp pr' c0' c' s' := by
  obtain ⟨N, qual, scope, f, cd, go, oloc, gi, gs, ip, gk, σg, gg, rg, β0, H0, s0, os0, e, d⟩ := h
  have em : mkG X' B n0 N qual scope f cd a go gi true os0 = mkG X B n0 N qual scope f cd a go gi true os0 := by
    obtain ⟨e1, e2, e3, e4, e5, e6⟩ := eX
    unfold mkG
    rw [e1, e2, e3, e4, e5, e6]
  obtain ⟨e1, e2, e3, e4, e5, e6⟩ := eX
  obtain ⟨v1, v2⟩ := d.vo rfl
  subst v2
  have lt : gj < gi := Nat.lt_of_lt_of_le hlo d.lo
  refine ⟨N, qual, scope, f, cd, go, oloc, gi, gs, ip, gk, σg, gg, [], β0, H0, s0, os0, e, ?_⟩
  refine ⟨?_, d.lo, d.sus, d.isg, d.na, by rw [em]; exact d.ncl, by rw [em]; exact d.run, d.loc, ?_, d.os.trans os.symm, d.le, fun _ => ⟨v1, rfl⟩, d.fr0, ?_, ⟨fun _ _ q => (nomatch q), List.nodup_nil⟩, fun b hb => ?_, ?_⟩
  · obtain ⟨k, l, cc, p, fs, cl, eg⟩ := d.sus hi
    rw [eg]
    exact kp gi k l cc p fs cl (by rw [young_at lt, ← eg]; exact d.gens)
  · exact fun j k l cc p fs cl ej => kp j k l cc p fs cl (by rw [young_at (Nat.lt_trans lt (d.run.kp.kn j k l cc p fs cl ej))]; exact d.kg j k l cc p fs cl ej)
  · rw [e3]
    refine { sub := o'.sub, nt := o'.nt, tab := o'.tab, dist := d.ok.dist, sl := fun j x hx => ?_ }
    obtain ⟨v, ev, r⟩ := d.ok.sl j x hx
    refine ⟨v, ev, SlR.mono le (fun a t dd es _ => ?_) r⟩
    subst es
    exact absurd hx (v1 j t dd)
  · rcases hb with hb | hb
    · obtain ⟨j, t, dd, q, _⟩ := hb
      exact absurd q (v1 j t dd)
    · simp at hb
  · rw [em, e1, e2, e3]
    exact fun β H2 I2 s2 hR ho hc hl => d.wake β H2 I2 s2 hR ho hc (le.trans hl)
def loopN (t : Tg) (U : TGC) (E : EG) : List D → List D → Sg → Cl → Prop
  | [], ds, g, r => r = [] ∧ E.nx ds g r
  | x :: xs, ds, g, r => r = [] ∧ match tgF t x g with
    | some g1 => U { nx := loopN t U E xs, bk := E.nx, ct := loopN t U E xs, rt := E.rt, exn := E.exn } ds g1 r
    | none => False
def forN (fi : Fi) (t : Tg) (U : TGC) : TGC := fun E ds g r => r = [] ∧ match fi g with
  | .ok xs g1 => loopN t U E xs ds g1 r
  | .exn c fs _ => E.exn c fs
  | .stuck => False
theorem loopN_nil {t : Tg} {U : TGC} {E : EG} {xs ds : List D} {g : Sg} {r : Cl} (h : loopN t U E xs ds g r) : r = [] := by
  cases xs <;> exact h.1
theorem lead_loopN {t : Tg} {U : TGC} (d : Lead U) : ∀ xs : List D, Lead (fun E ds g r => loopN t U E xs ds g r)
  | [] => fun E Pp _ h _ _ _ _ ds g r k => h ds g r k.2
  | x :: xs => fun E Pp c h1 h2 h3 h4 h5 ds g r k => by
    have ih := lead_loopN (t := t) d xs
    unfold loopN at k
    obtain ⟨_, k⟩ := k
    cases e : tgF t x g with
    | none => rw [e] at k; exact k.elim
    | some g1 =>
      rw [e] at k
      exact d { nx := loopN t U E xs, bk := E.nx, ct := loopN t U E xs, rt := E.rt, exn := E.exn } Pp c (fun ds g r q => ih E Pp c h1 h2 h3 h4 h5 ds g r q) h1 (fun ds g r q => ih E Pp c h1 h2 h3 h4 h5 ds g r q) h4 h5 ds g1 r k
theorem lead_forN {fi : Fi} {t : Tg} {U : TGC} (d : Lead U) : Lead (forN fi t U) := fun E Pp c h1 h2 h3 h4 h5 ds g r k => by
  unfold forN at k
  obtain ⟨_, k⟩ := k
  cases e : fi g with
  | ok xs g1 => rw [e] at k; exact lead_loopN d xs E Pp c h1 h2 h3 h4 h5 ds g1 r k
  | exn x fs g1 => rw [e] at k; exact (h5 _ _ k).elim
  | stuck => rw [e] at k; exact k.elim
theorem cells_nil {K : PySem.W.Frag} (c : Cfg) : Cells K c [] := ⟨fun _ _ q => (nomatch q), List.nodup_nil⟩
section
variable {G : Gd} {W : WX}
theorem lowsG_of {β β' : Bs} {n0 : Nat} {pr pr' : List Addr} {c0 c0' : Cfg} (h : LowsG (G.cx β) n0 pr c0) (hn : β'.b.heap.objs.size = G.n0) : LowsG (G.cx β') n0 pr' c0' := by
  have l : G.n0 ≤ n0 := by
    rcases h.loc with q | q
    · exact Nat.le_of_lt q.1
    · refine absurd ?_ q.2
      show G.n0 ∈ frs (G.env :: G.outer)
      unfold frs
      rw [List.filterMap_cons, show G.env.frame = some G.n0 from rfl]
      exact .head _
  refine ⟨fun b hb _ _ => .inr ?_, h.loc, h.cel, h.fr, h.sub⟩
  show β'.b.heap.objs.size ≤ b
  omega
theorem vg3_forGen {tg e : Expr} {body : List Stmt} {fi : Fi} {t : Tg} {U : TGC} {pos : Pos} {k : Nat} (hr : Room (k + 1) (G.A.deeper G.env)) (hi : ∀ β, VGen (G.cx β) W k true e fi) (hg : ∀ β, VG (G.cx β) tg t) (hb : VGCs2 G body U)
    (hs : ∀ x, foldedSetIterable e G.env x = pure x := by intro _; rfl) : VGC3 G (.For tg e body [] pos) (forN fi t U) := by
  refine ⟨⟨fun Aw R mm n ip β ω ys c fs K JJ gd lv s σ H DD fw g hn kk ⟨h0, I0, sep0, kq0⟩ ⟨I, g0, r0, E, ds0, Pp, o, cc, y, p, h, b⟩ => ?_⟩, lead_forN hb.lead⟩
  unfold forN at h
  obtain ⟨er, h⟩ := h
  subst er
  have hx : XnI G.K W ⟨I, σ, H, g0⟩ (fi g0) := by
    cases e : fi g0 with
    | ok ds g1 => exact True.intro
    | exn c fs g1 => rw [e] at h; exact (b.pex _ _ h).elim
    | stuck => rw [e] at h; exact h.elim
  refine sg_For hs ?_
  rw [g.over]
  refine wpAny_mono (gsz_both (n := s.gens.size) (Nat.le_refl _) ((hi β).run ip s σ H I g0 I0 o hx)) (fun v s1 h1 => ?_) fun x s' hx => kk.exc n β ω x s' (.inl hx.2)
  obtain ⟨hz1, xs, g1, I1, H1, n0, lo, a, gp, e1, eu, V1, o1, y1, sl, lw, ln, hlo⟩ := h1
  subst eu
  rw [e1] at h
  have glo : G.gi < lo := Nat.lt_of_lt_of_le kq0.sz hlo
  have sl := sl (G.cx β).A hr V1.ok.frames
  have gen : ∀ {β : Bs} {i : Nat} {gp : List (Addr × Obj)} {pr : List Addr} {c0 c : Cfg} {s2 : Shared} {σ2 : L2.St} {H2 : Hp}, Slp (G.cx β) (G.cx β).A xs i n0 lo true a gp pr c0 c s2 → Inv (G.cx β) (ip ++ gp) σ2 H2 s2 → ∃ gi, s2.heap.IsGen a gi := fun {β i gp pr c0 c s2 σ2 H2} sl V => by
    obtain ⟨N, qual, scope, f, cd, go, oloc, gi, gs, ip, gk, σg, gg, rg, β0, H0, s0, os0, rfl, d⟩ := sl
    exact ⟨gi, d.isg _ (V.pin (a, go) (List.mem_append_right _ (List.mem_append_right _ (.tail _ (.head _))))).1⟩
  obtain ⟨gi, hgi⟩ := gen (sl ⟨I1, σ, H1, g1⟩ []) V1
  refine wpAny_pyIter_gen hgi ?_
  intro pp
  have gl := fun (kx : Result → Sem PySem.Fin) => gc2_loop (k := kx) (c' := .forLoop tg (.ref a) body [] G.env) (l := lv []) (kp := []) (p := pp) g rfl rfl
  have ee : ∀ (n : Nat) (β : Bs) (ω : Om) (x : Value) (s' : Shared), Up ((G.cx β).xe x) s' → Gn.Sg (model G.P G.w) Aw (fun e s => Ph G Aw R DD.yl mm n β ω e s) (.forLoop tg (.ref a) body [] G.env) (Vl.noted1 G.env x)
      (.ret (fun r => ((match r with | .ok f => (.pure f : Sem Flow) | .error e => .raise e).onRaise (L2.cameBack G.env)).wrap K JJ gd lv) none (gd false) (lv []) c pp [] :: fs) s' := fun n β ω x s' hx => by
    unfold Vl.noted1
    rw [Sem.bind_eq_wrap]
    refine sg_wrap ?_
    rw [(gl _).over]
    refine wpAny_bind (wpAny_mono (wpAny_up (Up.imp (fun s1 h => owns_gx (G := G) (β := β) x s1 h) hx)) (fun _ s'' hcb => wpAny_theTreesLotGoes ?_) fun y s'' hcb => ?_)
    · exact sg_leaf (.error x) (sg_cameBack g kk hcb)
    · exact sg_leaf (.error y) (sg_cameBack g kk hcb)
  have lw0 := (lw ⟨I1, σ, H1, g1⟩ []).g
  have loop : ∀ (m n i : Nat) (β : Bs) (ω : Om) (ys : List V) (ds : List D) (s : Shared) (σ : L2.St) (I H : Hp) (g1 : Sg) (gp : List (Addr × Obj)), m = xs.length - i → i ≤ xs.length → n + ys.length = mm → (β.b.heap.objs.size = G.n0 ∧ β.b.os = G.os) → Inv (G.cx β) (ip ++ gp) σ H s → (∀ p ∈ (G.cx β).pn ++ ip, ∀ q ∈ gp, p.1 ≠ q.1) → (∀ p ∈ (G.cx β).pn, ∀ q ∈ ip, p.1 ≠ q.1) → G.gi < s.gens.size →
      Ok G.K ⟨I, σ, H, g1⟩ → GoC ω.1 ω.2 ⟨I, σ, H, g1⟩ [] → Le I1 I → Reps G.K I ys ds → loopN t U E (xs.drop i) ds g1 [] → Slp (G.cx β) (G.cx β).A xs i n0 lo true a gp [] ⟨I, σ, H, g1⟩ ⟨I, σ, H, g1⟩ s →
      Gn.Sg (model G.P G.w) Aw (fun e s => Ph G Aw R DD.yl mm n β ω e s) (.forLoop tg (.ref a) body [] G.env) ((model G.P G.w).den (.forLoop tg (.ref a) body [] G.env))
        (.ret (fun r => ((match r with | .ok f => (.pure f : Sem Flow) | .error e => .raise e).onRaise (L2.cameBack G.env)).wrap K JJ gd lv) none (gd false) (lv []) c pp [] :: fs) s := by
    intro m
    induction m using Nat.strongRecOn with
    | ind m ih =>
      intro n i β ω ys ds s σ I H g1 gp hm hi' hn h0 VI sp sep hgz o y le1 p h sl
      refine sg_forLoop ?_
      rw [(gl _).over]
      refine wpAny_mono (gsz_both (n := G.gi + 1) hgz (Slp.nextP (E := fun _ _ => False) ((G.cx β).pn ++ ip) (VI.ok.hd rfl) hr.depth (fun p hp => hp) (fun p hp _ => hp) sp (lowsG_of lw0 h0.1) (fun b hb => by simp at hb) VI o (Go.refl _) sl)) (fun r1 s4 h4 => ?_) fun x s' hx => hx.2.elim
      obtain ⟨hz4, h4⟩ := h4
      rcases h4 with ⟨ei, rfl, I4, H4, V4, o4, y4, prt⟩ | ⟨d, v, x, I4, H4, gp4, ed, rfl, rv, rx, V4, o4, y4, prt, sl4, sp4⟩
      · subst ei
        rw [List.drop_length] at h
        exact sg_leaf (.ok .next) (kk.ok n β ω ys s4 .next hn ⟨σ, H4, ⟨h0, V4, sep, kq_none hz4⟩, b.nx ω I4 σ H4 g1 [] ys ds ((y1.sub.trans le1).trans prt.sub) o4 (cells_nil _) (y.trans (.of [] y4)) (p.mono prt.sub) h.2⟩)
      · have hlt : i < xs.length := (List.getElem?_eq_some_iff.mp ed).1
        obtain ⟨gj, oj, nm, qn, ho, hcl, hda, _⟩ := gen sl4 V4
        refine go_of ho hcl hda (by decide) ?_
        have e5 : xs.drop i = d :: xs.drop (i + 1) := by
          rw [List.drop_eq_getElem_cons hlt]
          congr 1
          rw [List.getElem?_eq_getElem hlt] at ed
          exact Option.some.inj ed
        rw [e5] at h
        unfold loopN at h
        obtain ⟨_, h⟩ := h
        cases e4 : tgF t d g1 with
        | none => rw [e4] at h; exact h.elim
        | some g4 =>
          rw [e4] at h
          refine wpAny_mono (wpAny_sleep V4.bare ((hg β).pg.run (ip ++ gp4) (pzd s4) σ H4 x v (fun σ6 H6 => H6 = H4 ∧ Ok G.K ⟨I4, σ6, H4, g4⟩ ∧ Go ⟨I4, σ, H4, g1⟩ ⟨I4, σ6, H4, g4⟩) (inv_pzd V4) rv ⟨I4, g1, d, o4, rx, g4, e4, fun σ6 o6 y6 _ => ⟨rfl, o6, y6⟩⟩)) (fun _ s6 h6 => ?_) fun x s' hx => ee n β ω x s' hx
          obtain ⟨s6, rfl, z6, σ6, H6, V6, eH, o6, y6⟩ := h6
          subst eH
          have V6 := inv_rs (ob_of V4.bare) V6
          have kp6 : Kp s4.gens (rs (oldOf s4.gens) s6).gens := kp_rs z6.1
          have hz6 : G.gi < (rs (oldOf s4.gens) s6).gens.size := by
            show G.gi < (rg _ s6.gens).size
            rw [rg_size]
            exact Nat.lt_of_lt_of_le hz4 z6.2
          have le04 : Le I I4 := prt.sub
          have sepn : ∀ p ∈ (G.cx β).pn, ∀ q ∈ ip ++ gp4, p.1 ≠ q.1 := fun p hp q hq => by
            rcases List.mem_append.mp hq with hq | hq
            · exact sep p hp q hq
            · exact sp4 p (List.mem_append_left _ hp) q hq
          let N : Om → List V → L2.St → Hp → Prop := fun ω3 ys3 σ3 H3 => ∃ I3 g3 r3 ds3, Ok G.K ⟨I3, σ3, H3, g3⟩ ∧ GoC ω3.1 ω3.2 ⟨I3, σ3, H3, g3⟩ r3 ∧ Le I4 I3 ∧ Reps G.K I3 ys3 ds3 ∧ loopN t U E (xs.drop (i + 1)) ds3 g3 r3
          have leb : ∀ {J : Hp}, Le I4 J → Le _ J := fun {J} l => ((y1.sub.trans le1).trans le04).trans l
          refine hb.gss.run Aw R mm n (ip ++ gp4) (young G.gi (rs (oldOf s4.gens) s6).gens) β ω ys _ _ _ _ id id _ σ6 H6 { DD with nx := N, ct := N, bk := DD.nx } fw (gl _) hn ⟨fun n' β' ω' ys' s7 f hn' hsP => ?_, fun n' β' ω' x s3 hx => ee n' β' ω' x s3 hx⟩ ⟨h0, V6, sepn, kq_young hz6⟩
            ⟨I4, g4, [], { nx := loopN t U E (xs.drop (i + 1)), bk := E.nx, ct := loopN t U E (xs.drop (i + 1)), rt := E.rt, exn := E.exn }, ds, Pp, o6, cells_nil _, y.trans (.of [] (y4.trans y6)), p.mono le04, h, ?_⟩
          · have again : ∀ {σ7 H7}, G.Run β' (ip ++ gp4) (young G.gi (rs (oldOf s4.gens) s6).gens) σ7 H7 s7 → N ω' ys' σ7 H7 → Gn.Sg (model G.P G.w) Aw (fun e s => Ph G Aw R DD.yl mm n' β' ω' e s) (.forLoop tg (.ref a) body [] G.env) (.pure (.again (.forLoop tg (.ref a) body [] G.env)))
                (.ret (fun r => ((match r with | .ok f => (.pure f : Sem Flow) | .error e => .raise e).onRaise (L2.cameBack G.env)).wrap K JJ gd lv) none (gd false) (lv []) c pp [] :: fs) s7 := fun {σ7 H7} ⟨h7, I7, sep7, kq7⟩ ⟨I8, g8, r8, ds8, o8, y8, le8, p8, h8⟩ => by
              have er := loopN_nil h8
              subst er
              refine sg_again rfl (ih (xs.length - (i + 1)) (by omega) n' (i + 1) β' ω' ys' ds8 s7 σ7 I8 H7 g8 gp4 rfl hlt hn' h7 I7 (fun p hp q hq => ?_) (fun p hp q hq => sep7 p hp q (List.mem_append_left _ hq)) kq7.sz o8 y8 ((le1.trans le04).trans le8) p8 h8
                (Slp.over sl4 ⟨rfl, rfl, rfl, rfl, rfl, rfl⟩ (Nat.succ_pos _) glo le8 o8 ((kp_young kp6).trans kq7.kp) ?_))
              · rcases List.mem_append.mp hp with hp | hp
                · exact sep7 p hp q (List.mem_append_right _ hq)
                · exact sp4 p (List.mem_append_right _ hp) q hq
              · have q7 : s7.os = β'.b.os := I7.os
                have q4 : s4.os = β.b.os := V4.os
                rw [q7, q4, h7.2, h0.2]
            cases f with
            | next =>
              obtain ⟨σ7, H7, R7, n7⟩ := hsP
              exact again R7 n7
            | cont =>
              obtain ⟨σ7, H7, R7, n7⟩ := hsP
              exact again R7 n7
            | brk =>
              obtain ⟨σ7, H7, ⟨h7, I7, sep7, kq7⟩, q7⟩ := hsP
              exact sg_leaf (.ok .next) (kk.ok n' β' ω' ys' s7 .next hn' ⟨σ7, H7, ⟨h7, Inv.unpinned I7, fun p hp q hq => sep7 p hp q (List.mem_append_left _ hq), kq_none kq7.sz⟩, q7⟩)
            | ret u7 =>
              obtain ⟨v7, σ7, H7, ⟨h7, I7, sep7, kq7⟩, e7, q7⟩ := hsP
              exact sg_leaf (.ok (.ret u7)) (kk.ok n' β' ω' ys' s7 (.ret u7) hn' ⟨v7, σ7, H7, ⟨h7, Inv.unpinned I7, fun p hp q hq => sep7 p hp q (List.mem_append_left _ hq), kq_none kq7.sz⟩, e7, q7⟩)
          · exact ⟨fun ω5 I5 σ5 H5 g5 r5 ys5 ds5 l5 o5 c5 y5 p5 h5 => ⟨I5, g5, r5, ds5, o5, y5, l5, p5, h5⟩, fun ω5 I5 σ5 H5 g5 r5 ys5 ds5 l5 o5 c5 y5 p5 h5 => b.nx ω5 I5 σ5 H5 g5 r5 ys5 ds5 (leb l5) o5 c5 y5 p5 h5, fun ω5 I5 σ5 H5 g5 r5 ys5 ds5 l5 o5 c5 y5 p5 h5 => ⟨I5, g5, r5, ds5, o5, y5, l5, p5, h5⟩,
              (b.up (leb (Le.refl _))).rt, (b.up (leb (Le.refl _))).yl, fun ds g r q => lead_loopN hb.lead _ E Pp b.cl b.pnx b.pbk b.pct b.prt b.pex ds g r q, b.pnx, fun ds g r q => lead_loopN hb.lead _ E Pp b.cl b.pnx b.pbk b.pct b.prt b.pex ds g r q, b.prt, b.pex, b.cl⟩
  have spi : ∀ p ∈ (G.cx β).pn ++ ip, ∀ q ∈ gp, p.1 ≠ q.1 := fun p hp q hq => by
    have lt := (lw ⟨I1, σ, H1, g1⟩ []).pin p hp
    obtain ⟨N, qual, scope, f, cd, go, oloc, gi, gs, ip', gk, σg, gg, rg, β0, H0, s0, os0, rfl, d⟩ := sl ⟨I1, σ, H1, g1⟩ []
    rw [d.fr0 rfl] at hq
    have na := d.na
    rcases List.mem_cons.mp hq with rfl | hq
    · exact Nat.ne_of_lt lt
    · rcases List.mem_cons.mp hq with rfl | hq
      · exact Nat.ne_of_lt (Nat.lt_trans lt na)
      · simp at hq
  exact loop (xs.length - 0) n 0 β ω ys ds0 s1 σ I1 H1 g1 gp rfl (Nat.zero_le _) hn h0 V1 spi sep0 (Nat.lt_of_lt_of_le kq0.sz hz1) o1 (y.trans (.of [] y1)) (Le.refl _) (p.mono y1.sub) h (sl _ [])
end
theorem tgd_and {p : Sg → Cl → Prop} {T : TGC} (d : TgD T) : TgD (fun E ds g r => p g r ∧ T E ds g r) :=
  ⟨fun E E' ds g r h h' => ⟨h.1, d.conj _ _ _ _ _ h.2 h'.2⟩, fun E ds g r b h => d.bot _ _ _ _ b h.2, fun E E' ds g r l h => ⟨h.1, d.mono _ _ _ _ _ l h.2⟩⟩
theorem tgd_yValN {f : Ft} : TgD (yValN f) := by
  refine ⟨fun E E' ds g r h h' => ?_, fun E ds g r b h => ?_, fun E E' ds g r l h => ?_⟩
  · unfold yValN at *
    split at h
    · rename_i d g1 e
      rw [e] at h'
      exact ⟨h.1, h.2, h'.2⟩
    · rename_i c fs g1 e
      rw [e] at h'
      exact ⟨h, h'⟩
    · exact h.elim
  · unfold yValN at h
    split at h
    · exact b.nx _ _ _ h.2
    · exact b.exn _ _ h
    · exact h
  · unfold yValN at *
    split at h
    · exact ⟨h.1, l.nx _ _ _ h.2⟩
    · exact l.exn _ _ h
    · exact h
theorem tgd_loopN {t : Tg} {U : TGC} (d : TgD U) : ∀ xs : List D, TgD (fun E ds g r => loopN t U E xs ds g r)
  | [] => tgd_and (p := fun _ r => r = []) tgd_nx
  | x :: xs => by
    have ih := tgd_loopN (t := t) d xs
    refine ⟨fun E E' ds g r h h' => ?_, fun E ds g r b h => ?_, fun E E' ds g r l h => ?_⟩
    · unfold loopN at h h' ⊢
      obtain ⟨q, h⟩ := h
      obtain ⟨_, h'⟩ := h'
      refine ⟨q, ?_⟩
      cases e : tgF t x g with
      | none => rw [e] at h; exact h
      | some g1 =>
        rw [e] at h h'
        let F (E : EG) : EG := { nx := loopN t U E xs, bk := E.nx, ct := loopN t U E xs, rt := E.rt, exn := E.exn }
        exact d.mono ((F E).and (F E')) (F (E.and E')) ds g1 r ⟨fun ds g r h => ih.conj E E' ds g r h.1 h.2, fun _ _ _ h => h, fun ds g r h => ih.conj E E' ds g r h.1 h.2, fun _ _ _ _ h => h, fun _ _ h => h⟩ (d.conj (F E) (F E') ds g1 r h h')
    · unfold loopN at h
      obtain ⟨_, h⟩ := h
      cases e : tgF t x g with
      | none => rw [e] at h; exact h
      | some g1 =>
        rw [e] at h
        let F (E : EG) : EG := { nx := loopN t U E xs, bk := E.nx, ct := loopN t U E xs, rt := E.rt, exn := E.exn }
        exact d.bot (F E) ds g1 r ⟨fun ds g r h => ih.bot E ds g r b h, b.nx, fun ds g r h => ih.bot E ds g r b h, b.rt, b.exn⟩ h
    · unfold loopN at h ⊢
      obtain ⟨q, h⟩ := h
      refine ⟨q, ?_⟩
      cases e : tgF t x g with
      | none => rw [e] at h; exact h
      | some g1 =>
        rw [e] at h
        let F (E : EG) : EG := { nx := loopN t U E xs, bk := E.nx, ct := loopN t U E xs, rt := E.rt, exn := E.exn }
        exact d.mono (F E) (F E') ds g1 r ⟨fun ds g r h => ih.mono E E' ds g r l h, l.nx, fun ds g r h => ih.mono E E' ds g r l h, l.rt, l.exn⟩ h
theorem tgd_forN {fi : Fi} {t : Tg} {U : TGC} (d : TgD U) : TgD (forN fi t U) := by
  refine ⟨fun E E' ds g r h h' => ?_, fun E ds g r b h => ?_, fun E E' ds g r l h => ?_⟩
  · unfold forN at *
    obtain ⟨q, h⟩ := h
    obtain ⟨_, h'⟩ := h'
    refine ⟨q, ?_⟩
    cases e : fi g with
    | ok xs g1 => rw [e] at h h'; exact (tgd_loopN d xs).conj _ _ _ _ _ h h'
    | exn x fs g1 => rw [e] at h h'; exact ⟨h, h'⟩
    | stuck => rw [e] at h; exact h
  · unfold forN at h
    obtain ⟨_, h⟩ := h
    cases e : fi g with
    | ok xs g1 => rw [e] at h; exact (tgd_loopN d xs).bot _ _ _ _ b h
    | exn x fs g1 => rw [e] at h; exact b.exn _ _ h
    | stuck => rw [e] at h; exact h
  · unfold forN at *
    obtain ⟨q, h⟩ := h
    refine ⟨q, ?_⟩
    cases e : fi g with
    | ok xs g1 => rw [e] at h; exact (tgd_loopN d xs).mono _ _ _ _ _ l h
    | exn x fs g1 => rw [e] at h; exact l.exn _ _ h
    | stuck => rw [e] at h; exact h
theorem tgd_bot : TgD (fun _ _ _ _ => False) := ⟨fun _ _ _ _ _ h _ => h.elim, fun _ _ _ _ _ h => h, fun _ _ _ _ _ _ h => h⟩
theorem vgcs3_bot {G : Gd} {st : List Stmt} : VGCs3 G st (fun _ _ _ _ => False) := ⟨⟨fun Aw R m n ip β ω ys c fs K J gd lv s σ H D fw g hn k hI ⟨_, _, _, _, _, _, _, _, _, _, h, _⟩ => h.elim⟩, fun E Pp _ _ _ _ _ _ ds g r k => k.elim⟩
end Vl
set_option Elab.async false
set_option linter.all false
set_option maxRecDepth 100000
set_option maxHeartbeats 4000000
namespace Vl
open PySem PySem.Spec PyProof.Rows L2 My
section
variable {X : Cx} {W : WX}
theorem itOkW_rng {K : PySem.W.Frag} {c : Cfg} {lo : Int} {n : Nat} : ItOkW K c (Itr lo n) (rangeD lo n) := fun c2 y o i => by
  refine ⟨fun d e => ?_, fun e => by rw [rangeD, List.length_map, List.length_range] at e; exact e⟩
  have hi : i < n := by
    have := (List.getElem?_eq_some_iff.mp e).1
    simpa [rangeD] using this
  simp [rangeD, hi] at e
  subst e
  refine ⟨hi, fun x H' ⟨eH, ex⟩ => ?_⟩
  subst eH ex
  exact ⟨c2.I, o, Go.refl _, .int _⟩
theorem viw_range1 {tg a : Expr} {fs : List Ft} {p pos : Pos} (hg : Gl X "range") (hm : X.mg "range" = none) (ha : VA X W [a] fs) (hs : starEach [a] X.env = [(false, eval a X.env)] := by rfl) : VIW X W tg (.Call (.Name "range" p) [a] [] pos) (argsI rangeOf1 fs) := by
  refine ⟨pi_imp (pi_range1 hg hm ha.pa hs) fun σ H R r => argsIW_rd r fun c vs ds l o rr ek hJ => ?_⟩
  unfold rangeOf1 at ek
  split at ek
  · rename_i j
    split at ek
    · rename_i hj
      cases ek
      have hj := of_decide_eq_true hj
      cases rr with
      | cons h t => cases h; cases t; exact ⟨j, rfl, hj.1, hj.2, hJ _ itOkW_rng⟩
    · cases ek
  · cases ek
theorem viw_range2 {tg a b : Expr} {fs : List Ft} {p pos : Pos} (hg : Gl X "range") (hm : X.mg "range" = none) (ha : VA X W [a, b] fs)
    (hs : starEach [a, b] X.env = [(false, eval a X.env), (false, eval b X.env)] := by rfl) (hpl : starEach [b] X.env = [(false, eval b X.env)] := by rfl) : VIW X W tg (.Call (.Name "range" p) [a, b] [] pos) (argsI rangeOf2 fs) := by
  refine ⟨pi_imp (pi_range2 hg hm ha.pa hs hpl) fun σ H R r => argsIW_rd r fun c vs ds l o rr ek hJ => ?_⟩
  unfold rangeOf2 at ek
  split at ek
  · rename_i i j
    split at ek
    · rename_i hj
      cases ek
      have hj := of_decide_eq_true hj
      cases rr with
      | cons h t => cases h; cases t with
        | cons h t => cases h; cases t; exact ⟨i, j, rfl, hj, hJ _ itOkW_rng⟩
    · cases ek
  · cases ek
end
def snocF (fe : Ft) (fs : List Ft) : Ft := fun g => (settle (fe g)).bind fun x g1 => match deref g1 x with
  | some (.tup ds) => (evA fs g1).bind fun ys g2 => (match frzA ys g2 with
    | some (es, g3) => if ds.length + es.length ≤ sizeLine then .ok (.val (.tup (ds ++ es))) g3 else .stuck
    | none => .stuck)
  | _ => .stuck
section
variable {X : Cx} {W : WX}
def tTupS (K : PySem.W.Frag) (te : TE) (t : TA) : TE := fun σ H Q => te σ H fun y H1 => ∃ a xs, y = .ref a ∧ SqT K H1 a xs ∧ t σ H1 fun us H2 => xs.length + us.length ≤ sizeLine ∧ ∀ p, H2 p = none → Q (.ref p) (upd H2 p (.tup (xs ++ us)))
theorem pe_tupS {e : Expr} {es : List Expr} {sp_ pos : Pos} {k : Nat} {te : TE} {t : TA} (he : PE X e te) (ha : PA X es t) : PE X (.Tuple (.Starred e sp_ :: es) k pos) (tTupS X.K te t) := by
  refine ⟨fun pins s σ H Q I hq => ?_⟩
  refine wpAny_Tuple_spliced (PySem.W.items_star (thn (he.run pins s σ H _ I hq) fun v s1 ⟨y, H1, I1, ry, a, xs, ey, hxs, q⟩ => ?_))
  subst ey
  obtain rfl : v = Value.ref a := ry
  refine star_tup I1 hxs fun us s2 I2 ru => ?_
  refine thn (ha.run pos pins s2 σ H1 _ I2 q) fun ws s3 ⟨zs, H2, I3, rz, z, q⟩ => ⟨by rw [List.length_append, ← ru.length, ← rz.length]; exact z, ?_⟩
  have hf : H2 s3.heap.objs.size = none := I3.hok.fresh (Nat.le_refl _)
  refine ⟨.ref s3.heap.objs.size, upd H2 s3.heap.objs.size (.tup (xs ++ zs)), I3.laid (t' := s3.toks) (fun b u e => Heap.get?_push_of_some _ e) (Nat.le_refl _) ?_, rfl, q _ hf⟩
  exact ⟨by rw [List.length_append]; exact z, us ++ ws, ru.append rz, ⟨_, Heap.get?_push_size _ rfl, rfl, _, rfl⟩⟩
theorem snoc_rd {fe : Ft} {fs : List Ft} {σ : L2.St} {H : Hp} {Q : VK} (h : rdE X.K W (snocF fe fs) σ H Q) : tTupS X.K (rdE X.K W fe) (rdA X.K W fs) σ H Q := by
  obtain ⟨I, g, o, r⟩ := h
  refine ⟨I, g, o, Rem.settle ((Rem.bind (R := RvR X.K) r).mono ?_)⟩
  rintro v H1 ⟨I1, g1, x, o1, y1, rx, r1⟩
  cases e : deref g1 x with
  | none => rw [e] at r1; exact r1.elim
  | some d =>
    rw [e] at r1
    cases d <;> first | exact r1.elim | skip
    rename_i ds
    obtain ⟨a, xs, ev, hq, rr⟩ := (deref_rd (c := ⟨I1, σ, H1, g1⟩) o1 rx e).tup o1
    refine ⟨a, xs, ev, hq, I1, g1, o1, (Rem.bind (R := RvsR X.K) r1).mono ?_⟩
    rintro us H2 ⟨I2, g2, ys, o2, y2, ry, r2⟩
    dsimp only at r2
    cases e2 : frzA ys g2 with
    | none => rw [e2] at r2; exact r2.elim
    | some p =>
      obtain ⟨es, g3⟩ := p
      rw [e2] at r2
      obtain ⟨I3, o3, y3, ru⟩ := frzA_ok o2 ry e2
      dsimp only at r2
      split at r2
      · rename_i hz
        have rx3 : Reps X.K I3 xs ds := rr.mono (y2.sub.trans y3.sub)
        refine ⟨by rw [rx3.length, ru.length]; exact hz, fun p hp => ?_⟩
        have r3 : Gives X.K ⟨I3, σ, H2, g3⟩ (some (.val (.tup (ds ++ es)))) Q := gives_of (W := W) (Rem.go (c0 := ⟨I2, σ, H2, g2⟩) (c1 := ⟨I3, σ, H2, g3⟩) y3 rfl r2)
        exact r3.froz o3 ⟨hp⟩ (Xb.new hp) upd_same .tup fun I' l e => .tup (SqT.of e) ((rx3.append ru).mono l)
      · exact r2.elim
theorem ve_tupS {e : Expr} {es : List Expr} {sp_ pos : Pos} {k : Nat} {fe : Ft} {fs : List Ft} (he : VE X W e fe) (ha : VA X W es fs) : VE X W (.Tuple (.Starred e sp_ :: es) k pos) (snocF fe fs) :=
  ⟨pe_imp (pe_tupS he.pe ha.pa) fun σ H Q h => snoc_rd h⟩
end
def tstO (tt : Option Fb) (g : Sg) : Res Bool := match tt with
  | some tt => noX (tt g)
  | none => .ok true g
def compI (t : Tg) (tt : Option Fb) (fe : Ft) (vs : List Nat) : List D → Sg → List D → Option (List D × Sg)
  | [], g, acc => some (acc, g)
  | d :: ds, g, acc => match tgF t d g with
    | some g1 => (match tstO tt g1 with
      | .ok true g2 => (match noX (settle (fe g2)) with
        | .ok x g3 => (match frz1 x g3 with
          | some (y, g4) => if acc.length < sizeLine then compI t tt fe vs ds (wipeG g4 vs) (acc ++ [y]) else none
          | none => none)
        | _ => none)
      | .ok false g2 => compI t tt fe vs ds (wipeG g2 vs) acc
      | _ => none)
    | none => none
def compL2 (t : Tg) (tt : Option Fb) (fi1 : Fi) (t1 : Tg) (tt1 : Option Fb) (fe : Ft) (vs vs1 : List Nat) : List D → Sg → List D → Res RV
  | [], g, acc => .ok (.fr (.lst acc)) g
  | d :: ds, g, acc => match tgF t d g with
    | some g1 => (match tstO tt g1 with
      | .ok true g2 => (match fi1 g2 with
        | .ok es g3 => (match compI t1 tt1 fe vs1 es (wipeG g3 vs1) acc with
          | some (acc1, g4) => compL2 t tt fi1 t1 tt1 fe vs vs1 ds (wipeG g4 vs) acc1
          | none => .stuck)
        | _ => .stuck)
      | .ok false g2 => compL2 t tt fi1 t1 tt1 fe vs vs1 ds (wipeG g2 vs) acc
      | _ => .stuck)
    | none => .stuck
def compF2 (fi : Fi) (t : Tg) (tt : Option Fb) (fi1 : Fi) (t1 : Tg) (tt1 : Option Fb) (fe : Ft) (vs vs1 : List Nat) : Ft := fun g => (fi g).bind fun ds g1 => compL2 t tt fi1 t1 tt1 fe vs vs1 ds (wipeG g1 vs) []
theorem wipeG_length (g : Sg) (vs : List Nat) : (wipeG g vs).length = g.length := by
  induction vs with
  | nil => rfl
  | cons v vs ih => show ((wipeG g vs).set v .un).length = _; rw [List.length_set]; exact ih
theorem wipeG_in {g : Sg} {j : Nat} : ∀ {vs : List Nat}, j ∈ vs → j < g.length → (wipeG g vs)[j]? = some .un
  | v :: vs, h, hl => by
    show ((wipeG g vs).set v .un)[j]? = _
    by_cases e : v = j
    · subst e; rw [List.getElem?_set_self (by rw [wipeG_length]; exact hl)]
    · rw [List.getElem?_set_ne e]
      rcases List.mem_cons.mp h with h | h
      · exact absurd h.symm e
      · exact wipeG_in h hl
theorem wipeG_no {g : Sg} {j : Nat} : ∀ {vs : List Nat}, j ∉ vs → (wipeG g vs)[j]? = g[j]?
  | [], _ => rfl
  | v :: vs, h => by
    simp only [List.mem_cons, not_or] at h
    show ((wipeG g vs).set v .un)[j]? = _
    rw [List.getElem?_set_ne (fun z => h.1 z.symm)]
    exact wipeG_no h.2
theorem wipeG_two (g : Sg) (vs : List Nat) : wipeG (wipeG g vs) vs = wipeG g vs := by
  apply List.ext_getElem?
  intro j
  by_cases hj : j ∈ vs
  · by_cases hl : j < g.length
    · rw [wipeG_in hj (by rw [wipeG_length]; exact hl), wipeG_in hj hl]
    · rw [List.getElem?_eq_none (by rw [wipeG_length, wipeG_length]; omega), List.getElem?_eq_none (by rw [wipeG_length]; omega)]
  · rw [wipeG_no hj]
structure Btw (K : PySem.W.Frag) (c1 : Cfg) (Dd : Addr) (τ : L2.St) (vs : List Nat) (I2 H2 : Hp) (g2 : Sg) (acc : List D) (us : List V) : Prop where
  ok : Ok K ⟨I2, τ, H2, g2⟩
  go : Go c1 ⟨I2, τ, H2, g2⟩
  wp : wipeG g2 vs = g2
  at_ : H2 Dd = some (.lst us)
  rep : Reps K I2 us acc
  nI : I2 Dd = none
  nO : ¬ Cfg.Own ⟨I2, τ, H2, g2⟩ Dd
section
variable {X : Cx} {W : WX}
theorem Btw.later {c1 : Cfg} {Dd : Addr} {τ : L2.St} {vs : List Nat} {I2 H2 : Hp} {g2 : Sg} {acc : List D} {us : List V} (b : Btw X.K c1 Dd τ vs I2 H2 g2 acc us) {I4 : Hp} {σ4 : L2.St} {H4 : Hp} {g4 : Sg} (y : Go ⟨I2, τ, H2, g2⟩ ⟨I4, σ4, H4, g4⟩) :
    H4 Dd = some (.lst us) ∧ I4 Dd = none ∧ ¬ Cfg.Own ⟨I4, σ4, H4, g4⟩ Dd := by
  have h2 : H2 Dd = some (.lst us) := b.at_
  refine ⟨y.keep Dd _ h2 b.nO .lst, ?_, fun q => ?_⟩
  · cases q : I4 Dd with
    | none => rfl
    | some u =>
      rcases y.grow Dd b.nI (by show I4 Dd ≠ none; rw [q]; exact fun z => nomatch z) with z | z
      · exact (b.nO z).elim
      · exact (no_some z h2).elim
  · rcases y.own Dd q with z | z
    · exact b.nO z
    · exact no_some z h2
theorem Btw.app {c1 : Cfg} {Dd : Addr} {τ : L2.St} {vs : List Nat} {I2 H2 : Hp} {g2 : Sg} {acc : List D} {us : List V} (hD : c1.H Dd = none) (b : Btw X.K c1 Dd τ vs I2 H2 g2 acc us) {v : V} {d : D} (rv : Rep X.K I2 v d) :
    Btw X.K c1 Dd τ vs I2 (upd H2 Dd (.lst (us ++ [v]))) g2 (acc ++ [d]) (us ++ [v]) := by
  have ne : ∀ b, b ≠ Dd → upd H2 Dd (.lst (us ++ [v])) b = H2 b := fun b hb => upd_ne hb
  have o9 := b.ok
  refine ⟨?_, ?_, b.wp, upd_same, b.rep.append (.one rv), b.nI, b.nO⟩
  · refine o9.grow (Le.refl _) (fun b' u hb => ?_) (fun b' hb => ⟨ne b' fun z => by subst z; exact b.nO hb, o9.own_free hb⟩) o9.nt (fun b' ps hb => by rw [ne b' fun z => by subst z; rw [show H2 b' = _ from b.at_] at hb; cases hb]; exact hb)
    rw [ne b' fun z => by subst z; exact no_some b.nI hb]
    exact o9.sub b' u hb
  · have y := b.go
    refine ⟨y.sub, fun b' u hb hw nt => ?_, fun b' hb => ?_, y.grow, y.own, y.ownf, y.tag⟩
    · have hb : c1.H b' = some u := hb
      show upd H2 Dd (.lst (us ++ [v])) b' = some u
      rw [ne b' fun z => by subst z; exact no_some hD hb]
      exact y.keep b' u hb hw nt
    · have hb : upd H2 Dd (.lst (us ++ [v])) b' = none := hb
      by_cases z : b' = Dd
      · subst z; exact hD
      · rw [ne b' z] at hb; exact y.dom b' hb
theorem Btw.wiped {c1 : Cfg} {Dd : Addr} {τ τ' : L2.St} {vs ws : List Nat} {I2 H2 : Hp} {g2 : Sg} {acc : List D} {us : List V} (b : Btw X.K c1 Dd τ vs I2 H2 g2 acc us) (hl : τ'.length = τ.length) (h : ∀ j, j ∉ ws → τ'[j]? = τ[j]?) :
    Btw X.K c1 Dd τ' ws I2 H2 (wipeG g2 ws) acc us := by
  have y : Go ⟨I2, τ, H2, g2⟩ ⟨I2, τ', H2, wipeG g2 ws⟩ := Go.wiped h
  exact ⟨b.ok.wiped hl h, b.go.trans y, wipeG_two _ _, b.at_, b.rep, b.nI, (b.later y).2.2⟩
theorem Btw.step {c1 : Cfg} {Dd : Addr} {τ τ' τ6 : L2.St} {vs ws : List Nat} {I2 H2 I6 H6 : Hp} {g2 g6 : Sg} {acc : List D} {us : List V} (b : Btw X.K c1 Dd τ vs I2 H2 g2 acc us) (o6 : Ok X.K ⟨I6, τ6, H6, g6⟩) (y : Go ⟨I2, τ, H2, g2⟩ ⟨I6, τ6, H6, g6⟩)
    (hl : τ'.length = τ6.length) (h : ∀ j, j ∉ ws → τ'[j]? = τ6[j]?) : Btw X.K c1 Dd τ' ws I6 H6 (wipeG g6 ws) acc us := by
  have y2 : Go ⟨I6, τ6, H6, g6⟩ ⟨I6, τ', H6, wipeG g6 ws⟩ := Go.wiped h
  obtain ⟨p1, p2, p3⟩ := b.later (y.trans y2)
  exact ⟨o6.wiped hl h, b.go.trans (y.trans y2), wipeG_two _ _, p1, b.rep.mono y.sub, p2, p3⟩
theorem rdTs_of {tt : Option Fb} {I H : Hp} {σ : L2.St} {g : Sg} {Q : Bool → Hp → Prop} (o : Ok X.K ⟨I, σ, H, g⟩) (hs : tstO tt g ≠ .stuck) (hx : ∀ c fs g', tstO tt g ≠ .exn c fs g')
    (h : ∀ b g6, tstO tt g = .ok b g6 → ∀ I6 H6, Ok X.K ⟨I6, σ, H6, g6⟩ → Go ⟨I, σ, H, g⟩ ⟨I6, σ, H6, g6⟩ → Q b H6) : rdTs X.K tt σ H Q := by
  cases tt with
  | none => exact h true g rfl I H o (Go.refl _)
  | some tf =>
    refine ⟨I, g, o, ?_⟩
    unfold tstO at hs hx h
    dsimp only at hs hx h
    revert hs hx h
    generalize tf g = tr
    intro hs hx h
    cases tr with
    | stuck => exact (hs rfl).elim
    | exn c fs gg => exact (hs rfl).elim
    | ok b g6 =>
      intro I6 H6 b' o6 y6 eb
      subst eb
      exact h b' g6 rfl I6 H6 o6 y6
theorem tstO_nx {tt : Option Fb} {g : Sg} : ∀ c fs g', tstO tt g ≠ .exn c fs g' := by
  intro c fs g' e
  unfold tstO at e
  cases tt with
  | none => cases e
  | some tf =>
    dsimp only at e
    cases h : tf g with
    | stuck => rw [h] at e; cases e
    | exn c fs gg => rw [h] at e; cases e
    | ok b gg => rw [h] at e; cases e
theorem loop_rd {t : Tg} {tt : Option Fb} {fe : Ft} {vs : List Nat} {σ : L2.St} {c1 : Cfg} {Dd : Addr} {J : It} {ds : List D} {I7 H0 : Hp} {N : Hp → Prop} (P : Option (List D × Sg) → Prop) (hn : ∀ i ∈ t.ns, i ∈ vs) (hP : ¬ P none) (hD : c1.H Dd = none)
    (hJ : ∀ c2 : Cfg, Le I7 c2.I → Ok X.K c2 → ∀ n : Nat, (∀ d, ds[n]? = some d → J.go n c2.H ∧ ∀ x H', J.yld n c2.H x H' → ∃ I', Ok X.K ⟨I', c2.σ, H', c2.g⟩ ∧ Go c2 ⟨I', c2.σ, H', c2.g⟩ ∧ Rep X.K I' x d) ∧ (ds.length ≤ n → J.stop n c2.H))
    (st : ∃ I2 g2 acc us, Btw X.K c1 Dd (wipe σ vs) vs I2 H0 g2 acc us ∧ Le I7 I2 ∧ P (compI t tt fe vs ds g2 acc))
    (fin : ∀ I2 H2 g2 acc us, Btw X.K c1 Dd (wipe σ vs) vs I2 H2 g2 acc us → P (some (acc, g2)) → N H2) :
    ∃ W : Nat → Nat → Hp → Prop, (∃ m, W 0 m H0) ∧ ∀ i m H, W i m H → (J.stop i H ∧ N H) ∨ (J.go i H ∧ ∃ Nx : Hp → Prop, (∀ H', Nx H' → ∃ m', m' < m ∧ W (i + 1) m' H') ∧ ∀ x H', J.yld i H x H' → rdG X.K t x (wipe σ vs) H' fun σ2 H2 => wipe σ2 vs = wipe σ vs ∧ rdTs X.K tt σ2 H2 fun b H3 =>
      if b = true then rdE X.K W0 fe σ2 H3 fun y H4 => ∃ acc, H4 Dd = some (.lst acc) ∧ acc.length < sizeLine ∧ Nx (upd H4 Dd (.lst (acc ++ [y]))) else Nx H3) := by
  have wlen : (wipe σ vs).length = σ.length := wipe_length σ vs
  let Inv (i : Nat) (H2 : Hp) : Prop := ∃ I2 g2 acc us, Btw X.K c1 Dd (wipe σ vs) vs I2 H2 g2 acc us ∧ Le I7 I2 ∧ P (compI t tt fe vs (ds.drop i) g2 acc)
  refine ⟨fun i m H2 => m = ds.length - i ∧ i ≤ ds.length ∧ Inv i H2, ⟨ds.length, by simp, Nat.zero_le _, st⟩, ?_⟩
  rintro i m H2 ⟨rfl, hi, I2, g2, acc, us, b2, le2, r2⟩
  obtain ⟨k1, k2⟩ := hJ ⟨I2, wipe σ vs, H2, g2⟩ le2 b2.ok i
  by_cases hlt : i < ds.length
  · obtain ⟨q1, q2⟩ := k1 ds[i] (List.getElem?_eq_getElem hlt)
    refine .inr ⟨q1, Inv (i + 1), fun H' hI => ⟨ds.length - (i + 1), by omega, rfl, hlt, hI⟩, fun x H' hy => ?_⟩
    obtain ⟨I3, o3, y3, rv⟩ := q2 x H' hy
    rw [List.drop_eq_getElem_cons hlt] at r2
    unfold compI at r2
    cases e5 : tgF t ds[i] g2 with
    | none => rw [e5] at r2; exact (hP r2).elim
    | some g5 =>
      rw [e5] at r2
      dsimp only at r2
      refine ⟨I3, g2, ds[i], o3, rv, g5, e5, fun σ5 o5 y5 d5 => ⟨?_, ?_⟩⟩
      · rw [wipe_dif d5.1 fun j hj => d5.2 j fun q => hj (hn j q)]
        exact wipe_dif wlen fun j hj => wipe_get hj
      · have w5 : ∀ j, j ∉ vs → (wipe σ vs)[j]? = σ5[j]? := fun j hj => (d5.2 j fun q => hj (hn j q)).symm
        have l5 : (wipe σ vs).length = σ5.length := d5.1.symm
        have y25 : Go ⟨I2, wipe σ vs, H2, g2⟩ ⟨I3, σ5, H', g5⟩ := y3.trans y5
        refine rdTs_of o5 (fun z => by rw [z] at r2; exact hP r2) tstO_nx fun b g6 e6 I6 H6 o6 y6 => ?_
        rw [e6] at r2
        have y26 := y25.trans y6
        cases b with
        | false =>
          rw [if_neg (by decide)]
          exact ⟨I6, wipeG g6 vs, acc, us, b2.step o6 y26 l5 w5, le2.trans y26.sub, r2⟩
        | true =>
          rw [if_pos rfl]
          dsimp only at r2
          refine ⟨I6, g6, o6, Rem.settle ?_⟩
          have nf : ∀ x g', settle (fe g6) = .ok x g' → ∀ d, x ≠ .fr d := fun x g' h => settle_nofr h
          revert r2 nf
          generalize settle (fe g6) = sr
          intro r2 nf
          cases sr with
          | stuck => exact (hP r2).elim
          | exn c fs gg => exact (hP r2).elim
          | ok x7 g7 =>
            intro I7' H7 v7 o7 y7 rx7
            have r7 : P (match frz1 x7 g7 with
              | some (y, g4) => if acc.length < sizeLine then compI t tt fe vs (ds.drop (i + 1)) (wipeG g4 vs) (acc ++ [y]) else none
              | none => none) := r2
            cases e8 : frz1 x7 g7 with
            | none => rw [e8] at r7; exact (hP r7).elim
            | some p8 =>
              obtain ⟨y8, g8⟩ := p8
              rw [e8] at r7
              dsimp only at r7
              obtain ⟨I8, o8, y8', rr8⟩ := frz1_ok (c0 := ⟨I6, σ5, H6, g6⟩) o7 rx7 (nf x7 g7 rfl) e8
              by_cases hl : acc.length < sizeLine
              · rw [if_pos hl] at r7
                have y28 := (y26.trans y7).trans y8'
                have b9 := b2.step (ws := vs) o8 y28 l5 w5
                refine ⟨us, b9.at_, by rw [b2.rep.length]; exact hl, ?_⟩
                exact ⟨I8, wipeG g8 vs, acc ++ [y8], us ++ [v7], b9.app hD rr8, le2.trans y28.sub, r7⟩
              · rw [if_neg hl] at r7; exact (hP r7).elim
  · have e5 : i = ds.length := by omega
    subst e5
    rw [List.drop_length] at r2
    exact .inl ⟨k2 (Nat.le_refl _), fin I2 H2 g2 acc us b2 r2⟩
theorem comp2_rd {fi fi1 : Fi} {t t1 : Tg} {tt tt1 : Option Fb} {fe : Ft} {vs vs1 : List Nat} {σ : L2.St} {H : Hp} {Q : VK} (hn : ∀ i ∈ t.ns, i ∈ vs) (hn1 : ∀ i ∈ t1.ns, i ∈ vs1) (hv : ∀ i ∈ vs1, i ∈ vs) (h : rdE X.K W (compF2 fi t tt fi1 t1 tt1 fe vs vs1) σ H Q) :
    tLc2 (rdI X.K W fi) (rdG X.K t) (rdTs X.K tt) (rdIW X.K W0 fi1) (rdG X.K t1) (rdTs X.K tt1) (rdE X.K W0 fe) vs vs1 σ H Q := by
  obtain ⟨I, g, o, r⟩ := h
  refine ⟨I, g, o, ?_⟩
  unfold compF2 at r
  cases e : fi g with
  | stuck => rw [e] at r; exact r
  | exn c fs g' => rw [e] at r; exact r
  | ok ds g1 =>
    rw [e] at r
    intro I1 H1 J o1 y1 hJ Dd hD
    have nI : I1 Dd = none := by
      cases q : I1 Dd with
      | none => rfl
      | some u => exact (no_some hD (o1.sub Dd u q)).elim
    have wlen : (wipe σ vs).length = σ.length := wipe_length σ vs
    let c1 : Cfg := ⟨I1, σ, H1, g1⟩
    let Inv (i : Nat) (H2 : Hp) : Prop := ∃ I2 g2 acc us, Btw X.K c1 Dd (wipe σ vs) vs I2 H2 g2 acc us ∧ Rem X.K W (RvR X.K) ⟨I, σ, H, g⟩ (compL2 t tt fi1 t1 tt1 fe vs vs1 (ds.drop i) g2 acc) Q
    refine ⟨fun i m H2 => m = ds.length - i ∧ i ≤ ds.length ∧ Inv i H2, ⟨ds.length, by simp, Nat.zero_le _, ?_⟩, ?_⟩
    · have x : Xb [] H1 (upd H1 Dd (.lst [])) := Xb.new hD
      have oN : Ok X.K ⟨I1, σ, upd H1 Dd (.lst []), g1⟩ := o1.new x
      have yN : Go ⟨I1, σ, H1, g1⟩ ⟨I1, σ, upd H1 Dd (.lst []), g1⟩ := Go.new x
      refine ⟨I1, wipeG g1 vs, [], [], ⟨oN.wiped wlen (fun j hj => wipe_get hj), yN.trans (Go.wiped fun j hj => wipe_get hj), wipeG_two _ _, upd_same, .nil, nI, fun q => ?_⟩, r⟩
      obtain ⟨j, t', d', q1, q2⟩ := q
      rcases wipeG_get q1 with z | ⟨q1, m⟩
      · cases z
      · obtain ⟨u, hu⟩ := o1.own_some (a := Dd) ⟨j, t', d', q1, by rw [← wipe_get (σ := σ) m]; exact q2⟩
        exact no_some hD hu
    · rintro i m H2 ⟨rfl, hi, I2, g2, acc, us, b2, r2⟩
      obtain ⟨k1, k2⟩ := hJ ⟨I2, wipe σ vs, H2, g2⟩ b2.go b2.ok i
      by_cases hlt : i < ds.length
      · obtain ⟨q1, q2⟩ := k1 ds[i] (List.getElem?_eq_getElem hlt)
        refine .inr ⟨q1, Inv (i + 1), fun H' hI => ⟨ds.length - (i + 1), by omega, rfl, hlt, hI⟩, fun x H' hy => ?_⟩
        obtain ⟨I3, o3, y3, rv⟩ := q2 x H' hy
        rw [List.drop_eq_getElem_cons hlt] at r2
        unfold compL2 at r2
        cases e5 : tgF t ds[i] g2 with
        | none => rw [e5] at r2; exact r2.elim
        | some g5 =>
          rw [e5] at r2
          dsimp only at r2
          refine ⟨I3, g2, ds[i], o3, rv, g5, e5, fun σ5 o5 y5 d5 => ⟨?_, ?_⟩⟩
          · rw [wipe_dif d5.1 fun j hj => d5.2 j fun q => hj (hn j q)]
            exact wipe_dif wlen fun j hj => wipe_get hj
          · have w5 : ∀ j, j ∉ vs → (wipe σ vs)[j]? = σ5[j]? := fun j hj => (d5.2 j fun q => hj (hn j q)).symm
            have l5 : (wipe σ vs).length = σ5.length := d5.1.symm
            have y25 : Go ⟨I2, wipe σ vs, H2, g2⟩ ⟨I3, σ5, H', g5⟩ := y3.trans y5
            refine rdTs_of o5 (fun z => by rw [z] at r2; exact r2) tstO_nx fun b g6 e6 I6 H6 o6 y6 => ?_
            rw [e6] at r2
            have y26 := y25.trans y6
            cases b with
            | false =>
              rw [if_neg (by decide)]
              exact ⟨I6, wipeG g6 vs, acc, us, b2.step o6 y26 l5 w5, r2⟩
            | true =>
              rw [if_pos rfl]
              dsimp only at r2
              refine ⟨I6, g6, o6, ?_⟩
              cases e7 : fi1 g6 with
              | stuck => rw [e7] at r2; exact r2.elim
              | exn c fs gg => rw [e7] at r2; exact r2.elim
              | ok es g7 =>
                rw [e7] at r2
                intro I7 H7 J1 o7 y7 hJ1
                have y27 : Go ⟨I2, wipe σ vs, H2, g2⟩ ⟨I7, σ5, H7, g7⟩ := y26.trans y7
                refine loop_rd (I7 := I7) (ds := es) (c1 := c1) (fun r => Rem X.K W (RvR X.K) ⟨I, σ, H, g⟩ (match r with
                  | some (acc1, g4) => compL2 t tt fi1 t1 tt1 fe vs vs1 (ds.drop (i + 1)) (wipeG g4 vs) acc1
                  | none => .stuck) Q) hn1 (fun z => z) hD (fun c2 l2 o2 n => hJ1 c2 l2 o2 n) ⟨I7, wipeG g7 vs1, acc, us, b2.step o7 y27 (wipe_length _ _) (fun j hj => wipe_get hj), Le.refl _, r2⟩ ?_
                intro I9 H9 g9 acc9 us9 b9 r9
                refine ⟨I9, wipeG g9 vs, acc9, us9, b9.wiped ?_ fun j hj => ?_, r9⟩
                · rw [wipe_length, wipe_length, ← wlen.symm.trans l5]
                · rw [wipe_get fun z => hj (hv j z)]
                  exact w5 j hj
      · have e5 : i = ds.length := by omega
        subst e5
        rw [List.drop_length] at r2
        refine .inl ⟨k2 (Nat.le_refl _), ?_⟩
        have w6 : ∀ j, j ∉ vs → σ[j]? = (wipe σ vs)[j]? := fun j hj => (wipe_get hj).symm
        have b6 := b2.wiped (ws := vs) wlen.symm w6
        rw [b2.wp] at b6
        exact r2 I2 H2 (.ref Dd) b6.ok (y1.trans b6.go) ⟨Dd, rfl, ⟨us, b6.at_, b6.rep⟩, b6.nI, b6.nO, y1.dom Dd hD⟩
section
variable {elt tg iter tg1 iter1 : Expr} {ifs ifs1 : List Expr} {scope : Scope} {own : List (Str × Nat)} {pos : Pos} {fi fi1 : Fi} {t t1 : Tg} {tt tt1 : Option Fb} {fe : Ft} {vs1 : List Nat}
theorem ve_comp2 (hc : X.calm = true) (hN : X.N.Nodup) (hi : VI X W tg iter fi) (ok : BlkOk X.N X.env.scope scope own) (hn : ∀ i ∈ t.ns, i ∈ own.map (·.2)) (hn1 : ∀ i ∈ t1.ns, i ∈ vs1) (hv : ∀ i ∈ vs1, i ∈ own.map (·.2))
    (hg : ∀ (s : Shared) (H : Hp) (C : Addr) (cl : List (Str × Addr)) (fp : List Addr), VG (X.blk s H scope (compEnvC scope cl C X.env) fp) tg t) (ht : ∀ (s : Shared) (H : Hp) (C : Addr) (cl : List (Str × Addr)) (fp : List Addr), VTs (X.blk s H scope (compEnvC scope cl C X.env) fp) ifs tt)
    (hi1 : ∀ (s : Shared) (H : Hp) (C : Addr) (cl : List (Str × Addr)) (fp : List Addr), VIW (X.blk s H scope (compEnvC scope cl C X.env) fp) W0 tg1 iter1 fi1)
    (hg1 : ∀ (s : Shared) (H : Hp) (C : Addr) (cl : List (Str × Addr)) (fp : List Addr), VG (X.blk s H scope (compEnvC scope cl C X.env) fp) tg1 t1) (ht1 : ∀ (s : Shared) (H : Hp) (C : Addr) (cl : List (Str × Addr)) (fp : List Addr), VTs (X.blk s H scope (compEnvC scope cl C X.env) fp) ifs1 tt1)
    (he : ∀ (s : Shared) (H : Hp) (C : Addr) (cl : List (Str × Addr)) (fp : List Addr), VE (X.blk s H scope (compEnvC scope cl C X.env) fp) W0 elt fe) (hs : ∀ x, foldedSetIterable iter X.env x = pure x := by intro _; rfl) (hs1 : ∀ env x, foldedSetIterable iter1 env x = pure x := by intro _ _; rfl) :
    VE X W (.ListComp elt [⟨tg, iter, ifs, 0⟩, ⟨tg1, iter1, ifs1, 0⟩] scope pos) (compF2 fi t tt fi1 t1 tt1 fe (own.map (·.2)) vs1) :=
  ⟨pe_imp (pe_lc2 (g := rdG X.K t) (tt := rdTs X.K tt) (wi1 := rdIW X.K W0 fi1) (g1 := rdG X.K t1) (tt1 := rdTs X.K tt1) (te := rdE X.K W0 fe) hc hN hi.pi ok hv (fun s H C cl fp => (hg s H C cl fp).pg) (fun s H C cl fp => (ht s H C cl fp).pts)
    (fun s H C cl fp => (hi1 s H C cl fp).pi) (fun s H C cl fp => (hg1 s H C cl fp).pg) (fun s H C cl fp => (ht1 s H C cl fp).pts) (fun s H C cl fp => (he s H C cl fp).pe) hs hs1) fun σ H Q h => comp2_rd hn hn1 hv h⟩
theorem vs_setComp2 {i : Nat} {y : Str} {py spos : Pos} (hc : X.calm = true) (hN : X.N.Nodup) (hy : X.N[i]? = some y) (hyl : X.env.scope.names.lookup y = some .local)
    (hsw : swapsWith (.ListComp elt [⟨tg, iter, ifs, 0⟩, ⟨tg1, iter1, ifs1, 0⟩] scope pos) (some (.Name y py)) spos.line X.env = pure true) (hi : VI X W tg iter fi) (ok : BlkOk X.N X.env.scope scope own) (hn : ∀ i ∈ t.ns, i ∈ own.map (·.2)) (hn1 : ∀ i ∈ t1.ns, i ∈ vs1) (hv : ∀ i ∈ vs1, i ∈ own.map (·.2))
    (hg : ∀ (s : Shared) (H : Hp) (C : Addr) (cl : List (Str × Addr)) (fp : List Addr), VG (X.blk s H scope (compEnvC scope cl C X.env) fp) tg t) (ht : ∀ (s : Shared) (H : Hp) (C : Addr) (cl : List (Str × Addr)) (fp : List Addr), VTs (X.blk s H scope (compEnvC scope cl C X.env) fp) ifs tt)
    (hi1 : ∀ (s : Shared) (H : Hp) (C : Addr) (cl : List (Str × Addr)) (fp : List Addr), VIW (X.blk s H scope (compEnvC scope cl C X.env) fp) W0 tg1 iter1 fi1)
    (hg1 : ∀ (s : Shared) (H : Hp) (C : Addr) (cl : List (Str × Addr)) (fp : List Addr), VG (X.blk s H scope (compEnvC scope cl C X.env) fp) tg1 t1) (ht1 : ∀ (s : Shared) (H : Hp) (C : Addr) (cl : List (Str × Addr)) (fp : List Addr), VTs (X.blk s H scope (compEnvC scope cl C X.env) fp) ifs1 tt1)
    (he : ∀ (s : Shared) (H : Hp) (C : Addr) (cl : List (Str × Addr)) (fp : List Addr), VE (X.blk s H scope (compEnvC scope cl C X.env) fp) W0 elt fe) (hs : ∀ x, foldedSetIterable iter X.env x = pure x := by intro _; rfl) (hs1 : ∀ env x, foldedSetIterable iter1 env x = pure x := by intro _ _; rfl) :
    VS X W (.Assign [.Name y py] (.ListComp elt [⟨tg, iter, ifs, 0⟩, ⟨tg1, iter1, ifs1, 0⟩] scope pos) spos) (setF i (settleF (compF2 fi t tt fi1 t1 tt1 fe (own.map (·.2)) vs1))) := by
  refine ⟨ps_imp' (ps_setLc2 (g := rdG X.K t) (tt := rdTs X.K tt) (wi1 := rdIW X.K W0 fi1) (g1 := rdG X.K t1) (tt1 := rdTs X.K tt1) (te := rdE X.K W0 fe) hc hN hy hyl hsw hi.pi ok hv (fun s H C cl fp => (hg s H C cl fp).pg) (fun s H C cl fp => (ht s H C cl fp).pts)
    (fun s H C cl fp => (hi1 s H C cl fp).pi) (fun s H C cl fp => (hg1 s H C cl fp).pg) (fun s H C cl fp => (ht1 s H C cl fp).pts) (fun s H C cl fp => (he s H C cl fp).pe) hs hs1) fun D σ H ⟨I, g, o, r⟩ => ?_⟩
  refine comp2_rd hn hn1 hv ⟨I, g, o, Rem.settle ((RemS.bindE (R := RvR X.K) r).mono ?_)⟩
  rintro v H1 ⟨I1, g1, x, o1, y1, rx, r1⟩
  exact setK_ok o1 y1 rx r1
end
end
end Vl
set_option Elab.async false
set_option linter.all false
set_option maxRecDepth 100000
set_option maxHeartbeats 2000000
namespace Vl
open PySem PySem.Spec PyProof.Rows L2 My
theorem isTup_lt {h : Heap} {a : Addr} {vs : Array Value} (p : h.IsTuple a vs) : a < h.objs.size := by
  obtain ⟨o, ho, _⟩ := id p
  exact Heap.lt_size ho
def zipOf3T : List D → Option (List D)
  | [.tup xs, .tup ys, .tup zs] => some (zipD3 xs ys zs)
  | _ => none
def Itz3T (K : PySem.W.Frag) (a b d : Addr) (xs ys us : List V) : It :=
  ⟨fun i H => SqT K H a xs ∧ SqT K H b ys ∧ SqT K H d us ∧ i < xs.length ∧ i < ys.length ∧ i < us.length,
    fun i H v H' => ∃ T x y u, v = .ref T ∧ H T = none ∧ H' = upd H T (.tup [x, y, u]) ∧ xs[i]? = some x ∧ ys[i]? = some y ∧ us[i]? = some u,
    fun i H => SqT K H a xs ∧ SqT K H b ys ∧ SqT K H d us ∧ (xs.length ≤ i ∨ ys.length ≤ i ∨ us.length ≤ i)⟩
def ZipSt3T (a b d : Addr) (n m1 m2 m3 : Nat) (i : Nat) (h : Heap) : Prop :=
  IsZip h (n + 5) (n + 3) (n + 4) .none ∧ IsTupOf3 h (n + 3) (.ref n) (.ref (n + 1)) (.ref (n + 2)) ∧ (∃ x y u, IsTupOf3 h (n + 4) x y u) ∧ h.IsTupleIter n a i ∧ h.IsTupleIter (n + 1) b i ∧ h.IsTupleIter (n + 2) d i ∧ i ≤ m1 ∧ i ≤ m2 ∧ i ≤ m3
theorem turn_zip3T {P : Program} {w : World} {K : PySem.W.Frag} {elts : List Expr} {kk : Nat} {tpos : Pos} {n a b d : Nat} {xs ys zs : List V} (ha : a < n) (hb : b < n) (hd : d < n) :
    Turn P w K (.Tuple elts kk tpos) (Itz3T K a b d xs ys zs) (zipFp3 n) (n + 5) (ZipSt3T a b d n xs.length ys.length zs.length) where
  mem := zipFp3_mem.mpr ⟨by omega, by omega⟩
  obj := by
    rintro i h ⟨hz, hI, ⟨x, y, u, hO⟩, ⟨o1, e1, _, d1⟩, ⟨o2, e2, _, d2⟩, ⟨o3, e3, _, d3⟩, _⟩ c hc
    obtain ⟨h1, h2⟩ := zipFp3_mem.mp hc
    obtain ⟨j, rfl, h2⟩ := nex5 h1 h2
    match j, h2 with
    | 0, _ => exact ⟨o1, e1, fun v q => by rw [d1] at q; cases q⟩
    | 1, _ => exact ⟨o2, e2, fun v q => by rw [d2] at q; cases q⟩
    | 2, _ => exact ⟨o3, e3, fun v q => by rw [d3] at q; cases q⟩
    | 3, _ => exact ⟨_, hI, fun v q => nomatch q⟩
    | 4, _ => exact ⟨_, hO, fun v q => nomatch q⟩
    | 5, _ => exact ⟨_, hz, fun v q => nomatch q⟩
    | j + 6, h => exact absurd h (by omega)
  keep := by
    rintro i h h' ⟨hz, hI, ⟨x, y, u, hO⟩, h1, h2, h3, l1, l2, l3⟩ k
    have kk : ∀ j, j ≤ 5 → ∀ o, h.get? (n + j) = some o → h'.get? (n + j) = some o := fun j hj => k (n + j) (zipFp3_mem.mpr ⟨Nat.le_add_right _ _, Nat.add_le_add_left hj _⟩)
    exact ⟨kk 5 (by decide) _ hz, kk 3 (by decide) _ hI, ⟨x, y, u, kk 4 (by decide) _ hO⟩, h1.at fun o q => kk 0 (by decide) o q, h2.at fun o q => kk 1 (by decide) o q, h3.at fun o q => kk 2 (by decide) o q, l1, l2, l3⟩
  item := by
    rintro X rfl rfl rfl hc i pins s σ H E I hf ⟨hz, hI, ⟨x0, y0, u0, hO⟩, h1, h2, h3, l1, l2, l3⟩ ⟨hx, hy, hu, g1, g2, g3⟩
    obtain ⟨us, ru, pu, _⟩ := I.tuple hx
    obtain ⟨ws, rw_, pw, _⟩ := I.tuple hy
    obtain ⟨ts, rt, pt, _⟩ := I.tuple hu
    have hh : X.A.in1.handled = none := I.ok.hd hc
    have e1 : us.toArray.size = xs.length := ru.length.symm
    have e2 : ws.toArray.size = ys.length := rw_.length.symm
    have e3 : ts.toArray.size = zs.length := rt.length.symm
    have big : n + 5 < s.heap.objs.size := Heap.lt_size (a := n + 5) hz
    refine wpAny_pyNext_zipD3_item (sep3 ha hb hd) (Draws.tuple hh n a (Nat.ne_of_lt ha) us.toArray) (Draws.tuple hh (n + 1) b (fun e => nlt (j := 1) hb e.symm) ws.toArray) (Draws.tuple hh (n + 2) d (fun e => nlt (j := 2) hd e.symm) ts.toArray) hz hI hO ⟨h1, pu⟩ ⟨h2, pw⟩ ⟨h3, pt⟩ (by omega) (by omega) (by omega) fun u1 u2 u3 h' tk q1 q2 q3 z' O' s1 s2 s3 hT hsz hk => ?_
    obtain ⟨x, ex⟩ : ∃ x, xs[i]? = some x := ⟨_, List.getElem?_eq_getElem g1⟩
    obtain ⟨y, ey⟩ : ∃ y, ys[i]? = some y := ⟨_, List.getElem?_eq_getElem g2⟩
    obtain ⟨u, eu⟩ : ∃ u, zs[i]? = some u := ⟨_, List.getElem?_eq_getElem g3⟩
    obtain ⟨v1, f1, r1⟩ := ru.get ex
    obtain ⟨v2, f2, r2⟩ := rw_.get ey
    obtain ⟨v3, f3, r3⟩ := rt.get eu
    have q1' : us[i]? = some u1 := by simpa using q1
    have q2' : ws[i]? = some u2 := by simpa using q2
    have q3' : ts[i]? = some u3 := by simpa using q3
    rw [f1] at q1'
    rw [f2] at q2'
    rw [f3] at q3'
    cases q1'
    cases q2'
    cases q3'
    refine ⟨_, rfl, wpAny_letOwnedTupleGo_zip (s := { s with heap := h', toks := tk }) z' fun h2' z2 sb => ?_⟩
    have old : ∀ c o, c ∉ zipFp3 n → s.heap.get? c = some o → h2'.get? c = some o := fun c o nc q => by
      have nz : ∀ j, j ≤ 5 → c ≠ n + j := fun j hj e => nc (by rw [e]; exact zipFp3_mem.mpr ⟨Nat.le_add_right _ _, Nat.add_le_add_left hj _⟩)
      exact (sb.2 c (nz 5 (by decide))).trans (hk c o (nz 5 (by decide)) (nz 4 (by decide)) (nz 0 (by decide)) (nz 1 (by decide)) (nz 2 (by decide)) q)
    have hT2 : h2'.get? s.heap.objs.size = some { cls := .type "tuple", data := .seq #[u1, u2, u3] } := (sb.2 _ (nbig5 big (by decide))).trans hT
    have fresh : H s.heap.objs.size = none := I.hok.fresh (Nat.le_refl _)
    have I1 : Inv X pins σ (upd H s.heap.objs.size (.tup [x, y, u])) { s with heap := h2', toks := tk } :=
      I.turnedNew (ch := zipFp3 n) old hf (Nat.le_refl _) ⟨by show 3 ≤ sizeLine; decide, [u1, u2, u3], .cons r1 (.cons r2 (.cons r3 .nil)), ⟨_, hT2, rfl, _, rfl⟩⟩
    have ne5 : ∀ c o, c ≠ n + 5 → h'.get? c = some o → h2'.get? c = some o := fun c o nc q => (sb.2 c nc).trans q
    refine ⟨.ref s.heap.objs.size, _, I1, rfl, ⟨_, x, y, u, rfl, fresh, rfl, ex, ey, eu⟩, ⟨z2, ne5 _ _ (nadd (by decide)) ?_, ⟨u1, u2, u3, ne5 _ _ (nadd (by decide)) O'⟩, s1.1.at fun o q => ne5 _ o (nadd (i := 0) (by decide)) q, s2.1.at fun o q => ne5 _ o (nadd (by decide)) q, s3.1.at fun o q => ne5 _ o (nadd (by decide)) q, g1, g2, g3⟩, fun c hcm => ?_⟩
    · exact hk _ _ (nadd (by decide)) (nadd (by decide)) (nadd (j := 0) (by decide)) (nadd (by decide)) (nadd (by decide)) hI
    · have hcm' := zipFp3_mem.mp hcm
      obtain ⟨j, rfl, hj⟩ := nex5 hcm'.1 hcm'.2
      rw [upd_ne (fun e => nbig5 big hj e.symm)]
      exact (hf _ hcm).1
  done := by
    rintro X rfl rfl rfl hc i pins s σ H E I hf ⟨hz, hI, ⟨x0, y0, u0, hO⟩, h1, h2, h3, l1, l2, l3⟩ ⟨hx, hy, hu, hend⟩
    obtain ⟨us, ru, pu, _⟩ := I.tuple hx
    obtain ⟨ws, rw_, pw, _⟩ := I.tuple hy
    obtain ⟨ts, rt, pt, _⟩ := I.tuple hu
    have hh : X.A.in1.handled = none := I.ok.hd hc
    have e1 : us.toArray.size = xs.length := ru.length.symm
    have e2 : ws.toArray.size = ys.length := rw_.length.symm
    have e3 : ts.toArray.size = zs.length := rt.length.symm
    refine wpAny_pyNext_zipD3_end (sep3 ha hb hd) (Draws.tuple hh n a (Nat.ne_of_lt ha) us.toArray) (Draws.tuple hh (n + 1) b (fun e => nlt (j := 1) hb e.symm) ws.toArray) (Draws.tuple hh (n + 2) d (fun e => nlt (j := 2) hd e.symm) ts.toArray) hz hI hO ⟨h1, pu⟩ ⟨h2, pw⟩ ⟨h3, pt⟩ (by omega) (by omega) (by omega) (by omega) fun h' tk hk => ?_
    exact ⟨rfl, I.turnedL (ch := zipFp3 n) (fun c o nc q => by
      have nz : ∀ j, j ≤ 5 → c ≠ n + j := fun j hj e => nc (by rw [e]; exact zipFp3_mem.mpr ⟨Nat.le_add_right _ _, Nat.add_le_add_left hj _⟩)
      exact hk c o (nz 5 (by decide)) (nz 4 (by decide)) (nz 0 (by decide)) (nz 1 (by decide)) (nz 2 (by decide)) q) hf⟩
  self := fun A i s Q E st h => wpAny_pyIter_zip st.1 h
theorem pi_zip3T {X : Cx} {e e2 e3 : Expr} {ta : TA} {p pos tpos : Pos} {elts : List Expr} {kk : Nat} (hg : Gl X "zip") (hm : X.mg "zip" = none) (ha : PA X [e, e2, e3] ta)
    (hs : starEach [e, e2, e3] X.env = (false, eval e X.env) :: starEach [e2, e3] X.env := by rfl) (hpl : (backTo pos (starEach [e2, e3] X.env)).any (·.1) = false := by rfl) :
    PI X (.Tuple elts kk tpos) (.Call (.Name "zip" p) [e, e2, e3] [] pos) (fun σ H R => ta σ H fun vs H1 => ∃ a b d xs ys zs, vs = [.ref a, .ref b, .ref d] ∧ SqT X.K H1 a xs ∧ SqT X.K H1 b ys ∧ SqT X.K H1 d zs ∧ R (Itz3T X.K a b d xs ys zs) H1) := by
  refine ⟨fun pins s σ H R I h => ?_⟩
  refine Call_ (ld_blt I hg hm PyProof.Rows.boot_zip (PyProof.Rows.callWith_type1 (thn (ha.run pos pins s σ H _ I h) fun us s1 ⟨vs, H1, I1, r1, a, b, d, xs, ys, zs, ex, hx, hy, hz0, q⟩ => ?_) hs hpl))
  subst ex
  cases r1 with
  | cons ra t =>
  cases t with
  | cons rb t =>
  cases t with
  | cons rd t =>
  cases t
  cases ra
  cases rb
  cases rd
  obtain ⟨us, ru, pu, _⟩ := I1.tuple hx
  obtain ⟨ws, rw_, pw, _⟩ := I1.tuple hy
  obtain ⟨ts, rt, pt, _⟩ := I1.tuple hz0
  refine zip_begins3 (begins_tuple a us.toArray) (begins_tuple b ws.toArray) (begins_tuple d ts.toArray) pu pw pt fun h' hz hI hO h1 h2 h3 hsz hk => wpAny_pyIter_zip hz ?_
  refine ⟨s1.heap.objs.size + 5, zipFp3 s1.heap.objs.size, _, _, H1, rfl, I1.kept (t' := s1.toks) hk, turn_zip3T (isTup_lt pu) (isTup_lt pw) (isTup_lt pt), ⟨hz, hI, ⟨_, _, _, hO⟩, ⟨_, h1, rfl, rfl⟩, ⟨_, h2, rfl, rfl⟩, ⟨_, h3, rfl, rfl⟩, Nat.zero_le _, Nat.zero_le _, Nat.zero_le _⟩, fun c hc => ?_, q⟩
  have hle := (zipFp3_mem.mp hc).1
  exact I1.fpOk hle (I1.hok.fresh hle)
theorem itOk_zip3T {K : PySem.W.Frag} {c : Cfg} {a b d : Addr} {xs ys zs : List V} {ds es fs : List D} (h : SqT K c.I a xs) (h' : SqT K c.I b ys) (h'' : SqT K c.I d zs) (r : Reps K c.I xs ds) (r' : Reps K c.I ys es) (r'' : Reps K c.I zs fs) : ItOk K c (Itz3T K a b d xs ys zs) (zipD3 ds es fs) := fun c2 y o n => by
  have h2 : SqT K c2.H a xs := o.sub.sqT (y.sub.sqT h)
  have h3 : SqT K c2.H b ys := o.sub.sqT (y.sub.sqT h')
  have h4 : SqT K c2.H d zs := o.sub.sqT (y.sub.sqT h'')
  have e1 := r.length
  have e2 := r'.length
  have e3 := r''.length
  refine ⟨fun q e => ?_, fun e => ⟨h2, h3, h4, ?_⟩⟩
  · rw [zipD3_get] at e
    cases q1 : ds[n]? with
    | none => rw [q1] at e; cases e
    | some d1 =>
      cases q2 : es[n]? with
      | none => rw [q1, q2] at e; cases e
      | some d2 =>
        cases q3 : fs[n]? with
        | none => rw [q1, q2, q3] at e; cases e
        | some d3 =>
          rw [q1, q2, q3] at e
          cases e
          obtain ⟨v, hv, rv⟩ := r.get q1
          obtain ⟨u, hu, ru⟩ := r'.get q2
          obtain ⟨t, ht, rt⟩ := r''.get q3
          refine ⟨⟨h2, h3, h4, (List.getElem?_eq_some_iff.mp hv).1, (List.getElem?_eq_some_iff.mp hu).1, (List.getElem?_eq_some_iff.mp ht).1⟩, fun x H' ⟨T, z1, z2, z3, ex, hT, eH, k1, k2, k3⟩ => ?_⟩
          rw [hv] at k1
          rw [hu] at k2
          rw [ht] at k3
          cases k1
          cases k2
          cases k3
          subst ex eH
          exact itOk_new o hT (.cons (rv.mono y.sub) (.cons (ru.mono y.sub) (.one (rt.mono y.sub))))
  · have := zipD3_len ds es fs
    have e : (zipD3 ds es fs).length ≤ n := by simpa using e
    omega
section
variable {X : Cx} {W : WX}
theorem vi_zip3T {e e2 e3 : Expr} {fs : List Ft} {p pos tpos : Pos} {elts : List Expr} {kk : Nat} (hg : Gl X "zip") (hm : X.mg "zip" = none) (ha : VA X W [e, e2, e3] fs)
    (hs : starEach [e, e2, e3] X.env = (false, eval e X.env) :: starEach [e2, e3] X.env := by rfl) (hpl : (backTo pos (starEach [e2, e3] X.env)).any (·.1) = false := by rfl) : VI X W (.Tuple elts kk tpos) (.Call (.Name "zip" p) [e, e2, e3] [] pos) (argsI zipOf3T fs) := by
  refine ⟨pi_imp (pi_zip3T hg hm ha.pa hs hpl) fun σ H R r => argsI_rd r fun c vs ds l o rr ek hJ => ?_⟩
  unfold zipOf3T at ek
  split at ek
  · cases ek
    cases rr with
    | cons h t => cases t with
      | cons h' t => cases t with
        | cons h'' t => cases t; cases h with
          | tup hq rq => cases h' with
            | tup hq' rq' => cases h'' with
              | tup hq'' rq'' => exact ⟨_, _, _, _, _, _, rfl, o.sub.sqT hq, o.sub.sqT hq', o.sub.sqT hq'', hJ _ (itOk_zip3T hq hq' hq'' rq rq' rq'')⟩
  · cases ek
end
end Vl
set_option Elab.async false
set_option linter.all false
set_option maxRecDepth 100000
set_option maxHeartbeats 4000000
namespace Vl
open PySem PySem.Spec PyProof.Rows L2 My
def m__law_rule : Fm := fnM 1 6 (seqF (setF 1 (op2 ixP (valsF [(cF (.str "overlap")), (cF (.str "same")), (cF (.str "touch"))] lstP) (callM m__law_pick [(nameF 0), (cF (.int 3))])))
    (seqF (setF 2 (op2 ixP (valsF [(cF (.str "refuse")), (cF (.str "earliest")), (cF (.str "latest")), (cF (.str "leftmost")), (cF (.str "join")), (cF (.str "never"))] lstP) (callM m__law_pick [(nameF 0), (cF (.int 6))])))
    (seqF (setF 3 (op2 ixP (valsF [(cF (.str "up")), (cF (.str "down"))] lstP) (callM m__law_pick [(nameF 0), (cF (.int 2))])))
    (seqF (setF 4 (op2 ixP (valsF [(cF (.str "any")), (cF (.str "rising"))] lstP) (callM m__law_pick [(nameF 0), (cF (.int 2))])))
    (seqF (setF 5 (op2 ixP (valsF [(cF (.str "open")), (cF (.str "closed"))] lstP) (callM m__law_pick [(nameF 0), (cF (.int 2))])))
    (seqF (iteS (andB (blF (op2 eqP (nameF 1) (cF (.str "touch")))) (blF (op2 eqP (nameF 5) (cF (.str "closed"))))) (setF 5 (cF (.str "open"))) .nx)
    (retF (valsF [(nameF 1), (nameF 2), (nameF 3), (nameF 4), (nameF 5)] tupP))))))))
def b_are_words_0 : Fs := (iteS (blF (op2 notInP (nameF 1) (nameF 2))) (retF (cF (.bl false))) .nx)
def m_are_words : Fm := fnM 1 3 (seqF (iteS (blF (op2 neP (callF lenP [(nameF 0)]) (callF lenP [(cF (.tup [(.tup [(.str "overlap"), (.str "same"), (.str "touch")]), (.tup [(.str "refuse"), (.str "earliest"), (.str "latest"), (.str "leftmost"), (.str "join"), (.str "never")]), (.tup [(.str "up"), (.str "down")]), (.tup [(.str "any"), (.str "rising")]), (.tup [(.str "open"), (.str "closed")])]))]))) (retF (cF (.bl false))) .nx)
    (seqF (forF (argsI zipOf2 [(nameF 0), (cF (.tup [(.tup [(.str "overlap"), (.str "same"), (.str "touch")]), (.tup [(.str "refuse"), (.str "earliest"), (.str "latest"), (.str "leftmost"), (.str "join"), (.str "never")]), (.tup [(.str "up"), (.str "down")]), (.tup [(.str "any"), (.str "rising")]), (.tup [(.str "open"), (.str "closed")])]))]) (.tup [(.name 1), (.name 2)]) b_are_words_0)
    (retF (orV (op2 neP (op2 ixP (nameF 0) (cF (.int 0))) (cF (.str "touch"))) (op2 neP (op2 ixP (nameF 0) (cF (.int 4))) (cF (.str "closed")))))))
def m_Rule_init : Fm := fnM 6 7 (seqF (setF 6 (valsF [(nameF 1), (nameF 2), (nameF 3), (nameF 4), (nameF 5)] lstP))
    (seqF (iteS (notB (truF (callM m_are_words [(nameF 6)]))) (raiseF1 "BadRule" "text" (strM1 joinP (cF (.str " ")) (nameF 6))) .nx)
    (seqF (setA 0 "clash" [("Rule", none)] (nameF 1))
    (seqF (setA 0 "settle" [("Rule", none)] (nameF 2))
    (seqF (setA 0 "ties" [("Rule", none)] (nameF 3))
    (seqF (setA 0 "comes" [("Rule", none)] (nameF 4))
    (setA 0 "ends" [("Rule", none)] (nameF 5))))))))
def x_Rule : Fm := mkM (.ins "Rule" []) m_Rule_init
def m_stretches : Fm := fnM 1 3 (retF (compF2 (argsI rangeOf1 [(op2 addP (nameF 0) (cF (.int 1)))]) (.name 1) none (argsI rangeOf2 [(nameF 1), (op2 addP (nameF 0) (cF (.int 1)))]) (.name 2) none (valsF [(nameF 1), (nameF 2)] tupP) [1, 2] [2]))
def m_overlap : Fm := fnM 2 2 (retF (andV (op2 ltP (op1 (fldP "begin" [("Change", some 0)]) (nameF 0)) (op1 (fldP "end" [("Change", some 1)]) (nameF 1))) (op2 ltP (op1 (fldP "begin" [("Change", some 0)]) (nameF 1)) (op1 (fldP "end" [("Change", some 1)]) (nameF 0)))))
def m_Rule_clashes : Fm := fnM 3 3 (seqF (iteS (truF (callM m_overlap [(nameF 1), (nameF 2)])) (retF (cF (.bl true))) .nx)
    (seqF (iteS (blF (op2 eqP (op1 (fldP "clash" [("Rule", none)]) (nameF 0)) (cF (.str "touch")))) (retF (andV (op2 leP (op1 (fldP "begin" [("Change", some 0)]) (nameF 1)) (op1 (fldP "end" [("Change", some 1)]) (nameF 2))) (op2 leP (op1 (fldP "begin" [("Change", some 0)]) (nameF 2)) (op1 (fldP "end" [("Change", some 1)]) (nameF 1))))) .nx)
    (retF (andV (op2 eqP (op1 (fldP "clash" [("Rule", none)]) (nameF 0)) (cF (.str "same"))) (op2 eqP (op1 (fldP "begin" [("Change", some 0)]) (nameF 1)) (op1 (fldP "begin" [("Change", some 0)]) (nameF 2)))))))
def ms_clashes : List (Str × Bool × Fm) := [("Rule", false, m_Rule_clashes)]
def b_Rule_met_by_0 : Fs := (iteS (truF (methM "clashes" ms_clashes (nameF 0) [(nameF 1), (nameF 4)])) (retF (nameF 3)) .nx)
def m_Rule_met_by : Fm := fnM 3 5 (seqF (forF (argsI enumOf [(nameF 2)]) (.tup [(.name 3), (.name 4)]) b_Rule_met_by_0)
    (retF (cF .non)))
def ms_met_by : List (Str × Bool × Fm) := [("Rule", false, m_Rule_met_by)]
def b_Rule_bars_0 : Fs := (seqF (iteS (andB (blF (op2 eqP (op1 (fldP "ends" [("Rule", none)]) (nameF 0)) (cF (.str "closed")))) (blF (op2 eqP (op1 (fldP "begin" [("Change", some 0)]) (nameF 3)) (op1 (fldP "end" [("Change", some 1)]) (nameF 3))))) (retF (nameF 2)) .nx)
    (seqF (iteS (andB (blF (op2 eqP (op1 (fldP "comes" [("Rule", none)]) (nameF 0)) (cF (.str "rising")))) (andB (blF (op2 gtP (nameF 2) (cF (.int 0)))) (blF (op2 ltP (op1 (fldP "begin" [("Change", some 0)]) (nameF 3)) (op1 (fldP "begin" [("Change", some 0)]) (op2 ixP (nameF 1) (op2 subP (nameF 2) (cF (.int 1))))))))) (retF (nameF 2)) .nx)
    (iteS (andB (blF (op2 eqP (op1 (fldP "settle" [("Rule", none)]) (nameF 0)) (cF (.str "never")))) (blF (op2 isNotP (methM "met_by" ms_met_by (nameF 0) [(nameF 3), (slF (nameF 1) none (some (nameF 2)))]) (cF .non)))) (retF (nameF 2)) .nx)))
def m_Rule_bars : Fm := fnM 2 4 (seqF (forF (argsI enumOf [(nameF 1)]) (.tup [(.name 2), (.name 3)]) b_Rule_bars_0)
    (retF (cF .non)))
def ms_bars : List (Str × Bool × Fm) := [("Rule", false, m_Rule_bars)]
def r_Change_init : Fm := fnM 4 4 (seqF (iteS (notB (chB leP leP (cF (.int 0)) (nameF 1) (nameF 2))) (raiseF2 "BadChange" "begin" "end" (nameF 1) (nameF 2)) .nx)
    (seqF (setA 0 "begin" [("Change", some 0)] (nameF 1))
    (seqF (setA 0 "end" [("Change", some 1)] (nameF 2))
    (setA 0 "new" [("Change", some 2)] (nameF 3)))))
def m_Change_init : Fm := dflM 4 [(.str "")] r_Change_init
def m_Change : Fm := mkM (.slo "Change" []) m_Change_init
noncomputable def t_stretch_rows__r0 : TGC := (fun E ds g r => False)
noncomputable def hm_stretch_rows__r0 : Fm := hmG 3 8 t_stretch_rows__r0
noncomputable def r_stretch_rows__r0 : Fm := fnC 3 hm_stretch_rows__r0
noncomputable def m_stretch_rows__r0 : Fm := onlyL r_stretch_rows__r0
def gq_stretch_rows__r0_3_ : List D → List D → List D := fun ds es => pickL [0, 1, 2] (ds ++ ([] ++ es))
noncomputable def t_stretch_rows__r1 : TGC := (seqG (iteG (blF (op2 eqP (nameF 1) (cF (.int 0)))) (seqG (yValN (settleF (valsF [] tupP)))
    (fun E ds g r => E.nx ds g r)) (seqG (forN (genI gq_stretch_rows__r0_3_ m_stretch_rows__r0 3 0 [(nameF 0), (op2 subP (nameF 1) (cF (.int 1))), (nameF 2)] []) (.name 3) (seqG (forG (iterF (callM m_stretches [(nameF 2)])) (.name 4) (seqG (liftG (liftC (setF 5 (snocF (nameF 3) [(nameF 4)]))))
    (seqG (iteG (blF (op2 isP (methM "bars" ms_bars (nameF 0) [(compF (iterF (nameF 5)) (.tup [(.name 6), (.name 7)]) none (callM m_Change [(nameF 6), (nameF 7)]) [6, 7])]) (cF .non))) (seqG (yValN (settleF (nameF 5)))
    (fun E ds g r => E.nx ds g r)) (fun E ds g r => E.nx ds g r))
    (fun E ds g r => E.nx ds g r))))
    (fun E ds g r => E.nx ds g r)))
    (fun E ds g r => E.nx ds g r)))
    (fun E ds g r => E.nx ds g r))
noncomputable def hm_stretch_rows__r1 : Fm := hmG 3 8 t_stretch_rows__r1
noncomputable def r_stretch_rows__r1 : Fm := fnC 3 hm_stretch_rows__r1
noncomputable def m_stretch_rows__r1 : Fm := onlyL r_stretch_rows__r1
theorem td_stretch_rows__r1 : TgD t_stretch_rows__r1 := by
  unfold t_stretch_rows__r1
  repeat' (first | (with_reducible exact tgd_nx) | (with_reducible apply tgd_seq) | (with_reducible apply tgd_for) | (with_reducible exact tgd_yVal) | (with_reducible exact tgd_bot) | (with_reducible exact tgd_yValN) | (with_reducible apply tgd_forN) | (with_reducible apply tgd_ite) | (with_reducible apply tgd_lift) | (with_reducible exact tcd_lift) | (with_reducible apply tcd_seq) | (with_reducible apply tcd_ite) | (with_reducible apply tcd_frzJ) | (with_reducible apply tcd_frz) | (with_reducible exact tcd_nx))
def gq_stretch_rows__r1_3_ : List D → List D → List D := fun ds es => pickL [0, 1, 2] (ds ++ ([] ++ es))
noncomputable def t_stretch_rows__r2 : TGC := (seqG (iteG (blF (op2 eqP (nameF 1) (cF (.int 0)))) (seqG (yValN (settleF (valsF [] tupP)))
    (fun E ds g r => E.nx ds g r)) (seqG (forN (genI gq_stretch_rows__r1_3_ m_stretch_rows__r1 3 0 [(nameF 0), (op2 subP (nameF 1) (cF (.int 1))), (nameF 2)] []) (.name 3) (seqG (forG (iterF (callM m_stretches [(nameF 2)])) (.name 4) (seqG (liftG (liftC (setF 5 (snocF (nameF 3) [(nameF 4)]))))
    (seqG (iteG (blF (op2 isP (methM "bars" ms_bars (nameF 0) [(compF (iterF (nameF 5)) (.tup [(.name 6), (.name 7)]) none (callM m_Change [(nameF 6), (nameF 7)]) [6, 7])]) (cF .non))) (seqG (yValN (settleF (nameF 5)))
    (fun E ds g r => E.nx ds g r)) (fun E ds g r => E.nx ds g r))
    (fun E ds g r => E.nx ds g r))))
    (fun E ds g r => E.nx ds g r)))
    (fun E ds g r => E.nx ds g r)))
    (fun E ds g r => E.nx ds g r))
noncomputable def hm_stretch_rows__r2 : Fm := hmG 3 8 t_stretch_rows__r2
noncomputable def r_stretch_rows__r2 : Fm := fnC 3 hm_stretch_rows__r2
noncomputable def m_stretch_rows__r2 : Fm := onlyL r_stretch_rows__r2
theorem td_stretch_rows__r2 : TgD t_stretch_rows__r2 := by
  unfold t_stretch_rows__r2
  repeat' (first | (with_reducible exact tgd_nx) | (with_reducible apply tgd_seq) | (with_reducible apply tgd_for) | (with_reducible exact tgd_yVal) | (with_reducible exact tgd_bot) | (with_reducible exact tgd_yValN) | (with_reducible apply tgd_forN) | (with_reducible apply tgd_ite) | (with_reducible apply tgd_lift) | (with_reducible exact tcd_lift) | (with_reducible apply tcd_seq) | (with_reducible apply tcd_ite) | (with_reducible apply tcd_frzJ) | (with_reducible apply tcd_frz) | (with_reducible exact tcd_nx))
def gq_stretch_rows__r2_3_ : List D → List D → List D := fun ds es => pickL [0, 1, 2] (ds ++ ([] ++ es))
noncomputable def t_stretch_rows__r3 : TGC := (seqG (iteG (blF (op2 eqP (nameF 1) (cF (.int 0)))) (seqG (yValN (settleF (valsF [] tupP)))
    (fun E ds g r => E.nx ds g r)) (seqG (forN (genI gq_stretch_rows__r2_3_ m_stretch_rows__r2 3 0 [(nameF 0), (op2 subP (nameF 1) (cF (.int 1))), (nameF 2)] []) (.name 3) (seqG (forG (iterF (callM m_stretches [(nameF 2)])) (.name 4) (seqG (liftG (liftC (setF 5 (snocF (nameF 3) [(nameF 4)]))))
    (seqG (iteG (blF (op2 isP (methM "bars" ms_bars (nameF 0) [(compF (iterF (nameF 5)) (.tup [(.name 6), (.name 7)]) none (callM m_Change [(nameF 6), (nameF 7)]) [6, 7])]) (cF .non))) (seqG (yValN (settleF (nameF 5)))
    (fun E ds g r => E.nx ds g r)) (fun E ds g r => E.nx ds g r))
    (fun E ds g r => E.nx ds g r))))
    (fun E ds g r => E.nx ds g r)))
    (fun E ds g r => E.nx ds g r)))
    (fun E ds g r => E.nx ds g r))
noncomputable def hm_stretch_rows__r3 : Fm := hmG 3 8 t_stretch_rows__r3
noncomputable def r_stretch_rows__r3 : Fm := fnC 3 hm_stretch_rows__r3
noncomputable def m_stretch_rows__r3 : Fm := onlyL r_stretch_rows__r3
theorem td_stretch_rows__r3 : TgD t_stretch_rows__r3 := by
  unfold t_stretch_rows__r3
  repeat' (first | (with_reducible exact tgd_nx) | (with_reducible apply tgd_seq) | (with_reducible apply tgd_for) | (with_reducible exact tgd_yVal) | (with_reducible exact tgd_bot) | (with_reducible exact tgd_yValN) | (with_reducible apply tgd_forN) | (with_reducible apply tgd_ite) | (with_reducible apply tgd_lift) | (with_reducible exact tcd_lift) | (with_reducible apply tcd_seq) | (with_reducible apply tcd_ite) | (with_reducible apply tcd_frzJ) | (with_reducible apply tcd_frz) | (with_reducible exact tcd_nx))
def gq_stretch_rows__r3_3_ : List D → List D → List D := fun ds es => pickL [0, 1, 2] (ds ++ ([] ++ es))
noncomputable def t_stretch_rows : TGC := (seqG (iteG (blF (op2 eqP (nameF 1) (cF (.int 0)))) (seqG (yValN (settleF (valsF [] tupP)))
    (fun E ds g r => E.nx ds g r)) (seqG (forN (genI gq_stretch_rows__r3_3_ m_stretch_rows__r3 3 0 [(nameF 0), (op2 subP (nameF 1) (cF (.int 1))), (nameF 2)] []) (.name 3) (seqG (forG (iterF (callM m_stretches [(nameF 2)])) (.name 4) (seqG (liftG (liftC (setF 5 (snocF (nameF 3) [(nameF 4)]))))
    (seqG (iteG (blF (op2 isP (methM "bars" ms_bars (nameF 0) [(compF (iterF (nameF 5)) (.tup [(.name 6), (.name 7)]) none (callM m_Change [(nameF 6), (nameF 7)]) [6, 7])]) (cF .non))) (seqG (yValN (settleF (nameF 5)))
    (fun E ds g r => E.nx ds g r)) (fun E ds g r => E.nx ds g r))
    (fun E ds g r => E.nx ds g r))))
    (fun E ds g r => E.nx ds g r)))
    (fun E ds g r => E.nx ds g r)))
    (fun E ds g r => E.nx ds g r))
noncomputable def hm_stretch_rows : Fm := hmG 3 8 t_stretch_rows
noncomputable def r_stretch_rows : Fm := fnC 3 hm_stretch_rows
noncomputable def m_stretch_rows : Fm := onlyL r_stretch_rows
theorem td_stretch_rows : TgD t_stretch_rows := by
  unfold t_stretch_rows
  repeat' (first | (with_reducible exact tgd_nx) | (with_reducible apply tgd_seq) | (with_reducible apply tgd_for) | (with_reducible exact tgd_yVal) | (with_reducible exact tgd_bot) | (with_reducible exact tgd_yValN) | (with_reducible apply tgd_forN) | (with_reducible apply tgd_ite) | (with_reducible apply tgd_lift) | (with_reducible exact tcd_lift) | (with_reducible apply tcd_seq) | (with_reducible apply tcd_ite) | (with_reducible apply tcd_frzJ) | (with_reducible apply tcd_frz) | (with_reducible exact tcd_nx))
def b_size_rows_0 : Fs := (setF 1 (settleF (compF2 (iterF (nameF 1)) (.name 3) none (argsI rangeOf1 [(cF (.int 3))]) (.name 4) none (snocF (nameF 3) [(nameF 4)]) [3, 4] [4])))
def m_size_rows : Fm := fnM 1 5 (seqF (setF 1 (valsF [(valsF [] tupP)] lstP))
    (seqF (forF (argsI rangeOf1 [(nameF 0)]) (.name 2) b_size_rows_0)
    (retF (nameF 1))))
def m_Case_init : Fm := fnM 3 3 (seqF (setA 0 "length" [("Case", none)] (nameF 1))
    (setA 0 "changes" [("Case", none)] (callF tupleP [(nameF 2)])))
def m_Case : Fm := mkM (.ins "Case" []) m_Case_init
def b_case_of_0 : Fs := (exprF (appF 3 (callM m_Change [(nameF 4), (nameF 5), (slF (nameF 7) none (some (nameF 6)))])))
def m_case_of : Fm := fnM 3 8 (seqF (setF 3 (valsF [] lstP))
    (seqF (forF (argsI zipOf3T [(nameF 1), (nameF 2), (cF (.tup [(.str "AB"), (.str "CD"), (.str "EF")]))]) (.tup [(.tup [(.name 4), (.name 5)]), (.name 6), (.name 7)]) b_case_of_0)
    (retF (callM m_Case [(nameF 0), (nameF 3)]))))
def gq_stretch_rows_3_ : List D → List D → List D := fun ds es => pickL [0, 1, 2] (ds ++ ([] ++ es))
noncomputable def t_cases : TGC := (seqG (forN (genI gq_stretch_rows_3_ m_stretch_rows 3 0 [(nameF 0), (nameF 1), (nameF 2)] []) (.name 3) (seqG (forG (iterF (callM m_size_rows [(nameF 1)])) (.name 4) (seqG (yValN (settleF (callM m_case_of [(nameF 2), (nameF 3), (nameF 4)])))
    (fun E ds g r => E.nx ds g r)))
    (fun E ds g r => E.nx ds g r)))
    (fun E ds g r => E.nx ds g r))
noncomputable def hm_cases : Fm := hmG 3 5 t_cases
noncomputable def r_cases : Fm := fnC 3 hm_cases
noncomputable def m_cases : Fm := onlyL r_cases
theorem td_cases : TgD t_cases := by
  unfold t_cases
  repeat' (first | (with_reducible exact tgd_nx) | (with_reducible apply tgd_seq) | (with_reducible apply tgd_for) | (with_reducible exact tgd_yVal) | (with_reducible exact tgd_bot) | (with_reducible exact tgd_yValN) | (with_reducible apply tgd_forN) | (with_reducible apply tgd_ite) | (with_reducible apply tgd_lift) | (with_reducible exact tcd_lift) | (with_reducible apply tcd_seq) | (with_reducible apply tcd_ite) | (with_reducible apply tcd_frzJ) | (with_reducible apply tcd_frz) | (with_reducible exact tcd_nx))
def b__law_key_0 : Fs := (setF 1 (op2 addP (nameF 1) (valsF [(op2 ixP (nameF 2) (cF (.int 0))), (op2 ixP (nameF 2) (cF (.int 1)))] lstP)))
def m__law_key : Fm := fnM 1 3 (seqF (setF 1 (valsF [] lstP))
    (seqF (forF (iterF (nameF 0)) (.name 2) b__law_key_0)
    (retF (valsF [(nameF 1), (compF (iterF (nameF 0)) (.name 2) none (callF lenP [(op2 ixP (nameF 2) (cF (.int 2)))]) [2])] tupP))))
def m__law_clash : Fm := fnM 3 3 (seqF (iteS (blF (op2 eqP (nameF 0) (cF (.str "touch")))) (retF (andV (op2 leP (op2 ixP (nameF 1) (cF (.int 0))) (op2 ixP (nameF 2) (cF (.int 1)))) (op2 leP (op2 ixP (nameF 2) (cF (.int 0))) (op2 ixP (nameF 1) (cF (.int 1)))))) .nx)
    (retF (orV (andV (op2 ltP (op2 ixP (nameF 1) (cF (.int 0))) (op2 ixP (nameF 2) (cF (.int 1)))) (op2 ltP (op2 ixP (nameF 2) (cF (.int 0))) (op2 ixP (nameF 1) (cF (.int 1))))) (andV (op2 eqP (nameF 0) (cF (.str "same"))) (op2 eqP (op2 ixP (nameF 1) (cF (.int 0))) (op2 ixP (nameF 2) (cF (.int 0))))))))
def b__law_bars_0 : Fs := (seqF (iteS (andB (blF (op2 eqP (op2 ixP (nameF 0) (cF (.int 3))) (cF (.str "rising")))) (andB (blF (op2 gtP (nameF 2) (cF (.int 0)))) (blF (op2 ltP (op2 ixP (op2 ixP (nameF 1) (nameF 2)) (cF (.int 0))) (op2 ixP (op2 ixP (nameF 1) (op2 subP (nameF 2) (cF (.int 1)))) (cF (.int 0))))))) (retF (nameF 2)) .nx)
    (seqF (iteS (andB (blF (op2 eqP (op2 ixP (nameF 0) (cF (.int 4))) (cF (.str "closed")))) (blF (op2 eqP (op2 ixP (op2 ixP (nameF 1) (nameF 2)) (cF (.int 0))) (op2 ixP (op2 ixP (nameF 1) (nameF 2)) (cF (.int 1)))))) (retF (nameF 2)) .nx)
    (iteS (andB (blF (op2 eqP (op2 ixP (nameF 0) (cF (.int 1))) (cF (.str "never")))) (truF (callF anyP [(compF (iterF (slF (nameF 1) none (some (nameF 2)))) (.name 3) none (callM m__law_clash [(op2 ixP (nameF 0) (cF (.int 0))), (nameF 3), (op2 ixP (nameF 1) (nameF 2))]) [3])]))) (retF (nameF 2)) .nx)))
def m__law_bars : Fm := fnM 2 4 (seqF (forF (argsI rangeOf1 [(callF lenP [(nameF 1)])]) (.name 2) b__law_bars_0)
    (retF (cF .non)))
def m__law_case_rows : Fm := fnM 1 2 (retF (compF (iterF (op1 (fldP "changes" [("Case", none)]) (nameF 0))) (.name 1) none (valsF [(op1 (fldP "begin" [("Change", some 0)]) (nameF 1)), (op1 (fldP "end" [("Change", some 1)]) (nameF 1)), (op1 (fldP "new" [("Change", some 2)]) (nameF 1))] tupP) [1]))
def m_Case_letters : Fm := fnM 1 1 (retF (slF (cF (.str "abcdefghijklmnopqrstuvwxyz")) none (some (op1 (fldP "length" [("Case", none)]) (nameF 0)))))
def ps_letters : List (Str × Bool × Fm) := [("Case", false, m_Case_letters)]
def m__law_is_case : Fm := fnM 2 5 (seqF (setF 2 (callM m__law_case_rows [(nameF 0)]))
    (seqF (iteS (orB (notB (truF (op1 (isiP "tuple") (op1 (fldP "changes" [("Case", none)]) (nameF 0))))) (orB (blF (op2 gtP (callF lenP [(nameF 2)]) (cF (.int 3)))) (blF (op2 isNotP (callM m__law_bars [(nameF 1), (nameF 2)]) (cF .non))))) (retF (cF (.bl false))) .nx)
    (seqF (iteS (notB (truF (callF allP [(compF (iterF (nameF 2)) (.name 3) none (ch3V leP leP leP (cF (.int 0)) (op2 ixP (nameF 3) (cF (.int 0))) (op2 ixP (nameF 3) (cF (.int 1))) (op1 (fldP "length" [("Case", none)]) (nameF 0))) [3])]))) (retF (cF (.bl false))) .nx)
    (seqF (iteS (notB (truF (callF allP [(compF (argsI rangeOf1 [(callF lenP [(nameF 2)])]) (.name 4) none (op2 inP (op2 ixP (op2 ixP (nameF 2) (nameF 4)) (cF (.int 2))) (valsF [(cF (.str "")), (op2 ixP (cF (.str "ACE")) (nameF 4)), (op2 ixP (valsF [(cF (.str "AB")), (cF (.str "CD")), (cF (.str "EF"))] lstP) (nameF 4))] tupP)) [4])]))) (retF (cF (.bl false))) .nx)
    (retF (op2 eqP (propF ps_letters (nameF 0)) (slF (cF (.str "abcdefghijklmnopqrstuvwxyz")) none (some (op1 (fldP "length" [("Case", none)]) (nameF 0))))))))))
def gq_Rule_0_clash_settle_ties_comes_ends : List D → List D → List D := fun ds es => pickL [0, 1, 2, 3, 4] (ds ++ ([] ++ es))
def gq_cases_3_ : List D → List D → List D := fun ds es => pickL [0, 1, 2] (ds ++ ([] ++ es))
def b_law_0 : Fs := (iteS (blF (op2 ltP (callF lenP [(nameF 6)]) (cF (.int 40)))) (seqF (iteS (orB (blF (op2 neP (op1 (fldP "length" [("Case", none)]) (nameF 7)) (nameF 5))) (orB (notB (truF (callM m__law_is_case [(nameF 7), (nameF 2)]))) (blF (op2 neP (callF lenP [(op1 (fldP "changes" [("Case", none)]) (nameF 7))]) (nameF 4))))) (retF (cF (.bl false))) .nx)
    (seqF (exprF (appF 6 (callM m__law_key [(callM m__law_case_rows [(nameF 7)])])))
    (iteS (andB (blF (op2 gtP (callF lenP [(nameF 6)]) (cF (.int 1)))) (notB (blF (op2 ltQ (op2 ixP (nameF 6) (op1 negP (cF (.int 2)))) (op2 ixP (nameF 6) (op1 negP (cF (.int 1)))))))) (retF (cF (.bl false))) .nx))) .bk)
def b_law_1 : Fs := (seqF (setF 11 (callF minP [(nameF 5), (callM m__law_pick [(nameF 1), (cF (.int 3))])]))
    (seqF (setF 12 (callF minP [(nameF 5), (op2 addP (nameF 11) (callM m__law_pick [(nameF 1), (cF (.int 4))]))]))
    (exprF (appF 9 (valsF [(nameF 11), (nameF 12), (slF (op2 ixP (valsF [(cF (.str "AB")), (cF (.str "CD")), (cF (.str "EF"))] lstP) (nameF 10)) none (some (callM m__law_pick [(nameF 1), (cF (.int 3))])))] tupP)))))
def b_law_2 : Fs := (seqF (setF 9 (valsF [] lstP))
    (seqF (forF (argsI rangeOf1 [(nameF 4)]) (.name 10) b_law_1)
    (iteS (andB (blF (op2 isP (callM m__law_bars [(nameF 2), (nameF 9)]) (cF .non))) (orB (blF (op2 ltP (callF lenP [(nameF 6)]) (cF (.int 40)))) (blF (op2 ltQ (callM m__law_key [(nameF 9)]) (op2 ixP (nameF 6) (op1 negP (cF (.int 1)))))))) (iteS (blF (op2 notInP (callM m__law_key [(nameF 9)]) (nameF 6))) (retF (cF (.bl false))) .nx) .nx)))
noncomputable def m_law : Fm := fnM 1 13 (seqF (setF 1 (callM m__law_bag [(nameF 0)]))
    (seqF (setF 2 (callM m__law_rule [(nameF 1)]))
    (seqF (setF 3 (settleF (callKw gq_Rule_0_clash_settle_ties_comes_ends x_Rule 0 5 [] [(op2 ixP (nameF 2) (cF (.int 0))), (op2 ixP (nameF 2) (cF (.int 1))), (op2 ixP (nameF 2) (cF (.int 2))), (op2 ixP (nameF 2) (cF (.int 3))), (op2 ixP (nameF 2) (cF (.int 4)))])))
    (seqF (setF 4 (op2 addP (cF (.int 1)) (callM m__law_pick [(nameF 1), (cF (.int 3))])))
    (seqF (setF 5 (callM m__law_pick [(nameF 1), (cF (.int 27))]))
    (seqF (setF 6 (valsF [] lstP))
    (seqF (forG2 (genI gq_cases_3_ m_cases 3 0 [(nameF 3), (nameF 4), (nameF 5)] []) (.name 7) b_law_0)
    (seqF (forF (argsI rangeOf1 [(cF (.int 6))]) (.name 8) b_law_2)
    (retF (cF (.bl true)))))))))))
end Vl
set_option Elab.async false
set_option linter.all false
set_option maxRecDepth 100000
set_option maxHeartbeats 4000000
namespace Vl
open PySem PySem.Spec PyProof.Rows L2 My
def top (i : Nat) : Stmt := PySem.Challenge.pw_oldplaces_k49_first_cases_of_long_texts.main.body.getD i (.Pass ⟨0, 0, 0, 0⟩)
structure Txt (K : PySem.W.Frag) (w : World) (mg : Str → Option Value) : Prop where
  exb : ExB K mg "OldPlacesError" (He.ga K "OldPlacesError") (.type "type")
  ex_BadChange : ExK K mg "BadChange" (He.ga K "BadChange") (He.ma K (He.ga K "BadChange") "__init__") ["begin", "end"]
  ex_BadRule : ExK K mg "BadRule" (He.ga K "BadRule") (He.ma K (He.ga K "BadRule") "__init__") ["text"]
  list : mg "list" = none
  gl__law_bag : mg "_law_bag" = some (.ref (He.ga K "_law_bag"))
  len : mg "len" = none
  int : mg "int" = none
  gl__law_pick : mg "_law_pick" = some (.ref (He.ga K "_law_pick"))
  gl__law_rule : mg "_law_rule" = some (.ref (He.ga K "_law_rule"))
  k_WORDS : KC K mg "WORDS" (.tup [(.tup [(.str "overlap"), (.str "same"), (.str "touch")]), (.tup [(.str "refuse"), (.str "earliest"), (.str "latest"), (.str "leftmost"), (.str "join"), (.str "never")]), (.tup [(.str "up"), (.str "down")]), (.tup [(.str "any"), (.str "rising")]), (.tup [(.str "open"), (.str "closed")])])
  zip : mg "zip" = none
  gl_are_words : mg "are_words" = some (.ref (He.ga K "are_words"))
  cl_Rule : Cls K (He.ga K "Rule")
  fl_clash : FldK K "clash" [("Rule", none)]
  fl_settle : FldK K "settle" [("Rule", none)]
  fl_ties : FldK K "ties" [("Rule", none)]
  fl_comes : FldK K "comes" [("Rule", none)]
  fl_ends : FldK K "ends" [("Rule", none)]
  mk_Rule : Mk K (He.ga K "Rule") (He.ma K (He.ga K "Rule") "__init__")
  gl_Rule : mg "Rule" = some (.ref (He.ga K "Rule"))
  range : mg "range" = none
  gl_stretches : mg "stretches" = some (.ref (He.ga K "stretches"))
  cl_Change : SlX.SCls K (He.ga K "Change")
  fl_begin : FldK K "begin" [("Change", some 0)]
  fl_end : FldK K "end" [("Change", some 1)]
  gl_overlap : mg "overlap" = some (.ref (He.ga K "overlap"))
  enumerate : mg "enumerate" = none
  fl_new : FldK K "new" [("Change", some 2)]
  mk_Change : Mk K (He.ga K "Change") (He.ma K (He.ga K "Change") "__init__")
  gl_Change : mg "Change" = some (.ref (He.ga K "Change"))
  gl_stretch_rows : mg "stretch_rows" = some (.ref (He.ga K "stretch_rows"))
  gl_size_rows : mg "size_rows" = some (.ref (He.ga K "size_rows"))
  cl_Case : Cls K (He.ga K "Case")
  fl_length : FldK K "length" [("Case", none)]
  fl_changes : FldK K "changes" [("Case", none)]
  tuple : mg "tuple" = none
  mk_Case : Mk K (He.ga K "Case") (He.ma K (He.ga K "Case") "__init__")
  gl_Case : mg "Case" = some (.ref (He.ga K "Case"))
  k_NEWS : KC K mg "NEWS" (.tup [(.str "AB"), (.str "CD"), (.str "EF")])
  gl_case_of : mg "case_of" = some (.ref (He.ga K "case_of"))
  gl_cases : mg "cases" = some (.ref (He.ga K "cases"))
  gl__law_key : mg "_law_key" = some (.ref (He.ga K "_law_key"))
  gl__law_clash : mg "_law_clash" = some (.ref (He.ga K "_law_clash"))
  any : mg "any" = none
  gl__law_bars : mg "_law_bars" = some (.ref (He.ga K "_law_bars"))
  gl__law_case_rows : mg "_law_case_rows" = some (.ref (He.ga K "_law_case_rows"))
  k_LETTERS : KC K mg "LETTERS" (.str "abcdefghijklmnopqrstuvwxyz")
  isinstance : mg "isinstance" = none
  all : mg "all" = none
  gl__law_is_case : mg "_law_is_case" = some (.ref (He.ga K "_law_is_case"))
  min : mg "min" = none
  gl_law : True
section
variable {P : Program} {w : World} {K : PySem.W.Frag} {mg : Str → Option Value} {base : Heap}
abbrev sBadChange_init : Stmt := inClass (top 3) 0
theorem scBadChange_init : FnScope ["self", "begin", "end"] ["self", "begin", "end"] (defScope sBadChange_init) := ⟨rfl, rfl, rfl, by decide +kernel, rfl, by decide +kernel, by decide +kernel⟩
theorem okBadChange_init {f : Addr} {fd : FuncData} (F : FunD K "__init__" "BadChange.__init__" (defArgs sBadChange_init) (defBody sBadChange_init) (defScope sBadChange_init) [] [] f fd) (T : Txt K w mg) : FnOk P w K mg base CX0 1 f fd ["self", "begin", "end"] (spXI2 (He.ga K "BadChange") "begin" "end") := by
  have nd := scBadChange_init.nd
  refine F.ok scBadChange_init (fun vs H Q E h => ?_) (fun cdv A outer s H vs Q E hr h => ?_)
  · obtain ⟨a, v, u, rfl, h, k⟩ := h
    rfl
  · obtain ⟨a, v, u, rfl, h, k⟩ := h
    refine ⟨_, (pss_cons (ps_expr (pe_obinit T.exb (by rfl) (pa_cons (pv 0) (pa_cons pe_str pa_nil))))
      (pss_cons (ps_ost (pv 0) (pv 1)) (pss_one (ps_ost (pv 0) (pv 2))))), ?_⟩
    refine ⟨_, rfl, _, (He.ga K "BadChange"), [_], rfl, by decide, T.ex_BadChange.ox, h, ?_⟩
    exact ⟨_, rfl, _, rfl, a, _, rfl, T.ex_BadChange.ox, T.ex_BadChange.no _ (.head _), .inl ⟨h, fun dx hd ne => ⟨_, rfl, _, rfl, a, _, rfl, T.ex_BadChange.ox, T.ex_BadChange.no _ (.tail _ (.head _)), .inr ⟨dx, _, upd_same, by rw [upd_ne ne, upd_same], Nat.le_of_ble_eq_true rfl, k dx hd ne⟩⟩⟩⟩
abbrev sBadRule_init : Stmt := inClass (top 4) 0
theorem scBadRule_init : FnScope ["self", "text"] ["self", "text"] (defScope sBadRule_init) := ⟨rfl, rfl, rfl, by decide +kernel, rfl, by decide +kernel, by decide +kernel⟩
theorem okBadRule_init {f : Addr} {fd : FuncData} (F : FunD K "__init__" "BadRule.__init__" (defArgs sBadRule_init) (defBody sBadRule_init) (defScope sBadRule_init) [] [] f fd) (T : Txt K w mg) : FnOk P w K mg base CX0 1 f fd ["self", "text"] (spXI1 (He.ga K "BadRule") "text") := by
  have nd := scBadRule_init.nd
  refine F.ok scBadRule_init (fun vs H Q E h => ?_) (fun cdv A outer s H vs Q E hr h => ?_)
  · obtain ⟨a, v, rfl, h, k⟩ := h
    rfl
  · obtain ⟨a, v, rfl, h, k⟩ := h
    refine ⟨_, (pss_cons (ps_expr (pe_obinit T.exb (by rfl) (pa_cons (pv 0) (pa_cons pe_str pa_nil))))
      (pss_one (ps_ost (pv 0) (pv 1)))), ?_⟩
    refine ⟨_, rfl, _, (He.ga K "BadRule"), [_], rfl, by decide, T.ex_BadRule.ox, h, ?_⟩
    exact ⟨_, rfl, _, rfl, a, _, rfl, T.ex_BadRule.ox, T.ex_BadRule.no _ (.head _), .inl ⟨h, fun dx hd ne => k dx hd ne⟩⟩
abbrev s_law_bag : Stmt := top 22
theorem sc_law_bag : FnScope ["_law_script"] ["_law_script"] (defScope s_law_bag) := ⟨rfl, rfl, rfl, by decide +kernel, rfl, by decide +kernel, by decide +kernel⟩
theorem ok_law_bag {f : Addr} {fd : FuncData} (F : FunD K "_law_bag" "_law_bag" (defArgs s_law_bag) (defBody s_law_bag) (defScope s_law_bag) [] [] f fd) (T : Txt K w mg)  : FnOk P w K mg base (L2.CX P w) 1 f fd ["_law_script"] (spV K m__law_bag) := by
  have nd := sc_law_bag.nd
  exact F.ok sc_law_bag (fun vs H Q E h => fn_len h) (fun cdv A outer s H vs Q E hr h => body_sp
      (vss_one (vs_ret (ve_lst (va_cons (ve_callTy c_list (by rfl) T.list (by decide +kernel) (va_cons (ve_name 0 (pv 0)) va_nil)) (va_cons ve_int (va_cons ve_int (va_cons ve_int va_nil))))))) h)
abbrev s_law_pick : Stmt := top 23
theorem sc_law_pick : FnScope ["_law_bag_here", "_law_limit", "_law_cell", "_law_found"] ["_law_bag_here", "_law_limit"] (defScope s_law_pick) := ⟨rfl, rfl, rfl, by decide +kernel, rfl, by decide +kernel, by decide +kernel⟩
theorem ok_law_pick {f : Addr} {fd : FuncData} (F : FunD K "_law_pick" "_law_pick" (defArgs s_law_pick) (defBody s_law_pick) (defScope s_law_pick) [] [] f fd) (T : Txt K w mg)  : FnOk P w K mg base (L2.CX P w) 1 f fd ["_law_bag_here", "_law_limit"] (spV K m__law_pick) := by
  have nd := sc_law_pick.nd
  exact F.ok sc_law_pick (fun vs H Q E h => fn_len h) (fun cdv A outer s H vs Q E hr h => body_sp
      (vss_cons (vs_if (VW.vt (vw_and (vt_cmp (p_eq hr.units) (ve_ix (hu_of hr) (ve_name 0 (pv 0)) ve_int) ve_int (nomark _)) (vw_and1 (vt_cmp (p_lt hr.units0) (ve_ix (hu_of hr) (ve_name 0 (pv 0)) ve_int) (ve_callB c_len (by rfl) T.len (by decide +kernel) (va_cons (ve_ix (hu_of hr) (ve_name 0 (pv 0)) ve_int) va_nil)) (nomark _))))) (vss_cons (vs_set (i := 2) nd rfl (.inl rfl) (ve_ix (hu_of hr) (ve_ix (hu_of hr) (ve_name 0 (pv 0)) ve_int) (ve_ix (hu_of hr) (ve_name 0 (pv 0)) ve_int)))
      (vss_cons (vs_augS (i := 0) i_add (hu_of hr) (pv 0) ve_int ve_int)
      (vss_one (vs_if (vt_cmp p_ge (ve_name 2 (pv 2)) (ve_bin p_pow ve_int ve_int) (nomark _)) (vss_one (vs_put (i := 0) (hu_of hr) (pv 0) ve_int (ve_name 2 (pv 2)))) (vss_one (vs_put (i := 0) (hu_of hr) (pv 0) ve_int (ve_bin p_mod (ve_callTy c_int (by rfl) T.int (by decide +kernel) (va_cons (ve_bin p_add (ve_bin p_add (ve_bin p_mulQ (ve_ix (hu_of hr) (ve_name 0 (pv 0)) ve_int) ve_int) (ve_bin p_mulQ (ve_name 2 (pv 2)) ve_int)) (ve_ix (hu_of hr) (ve_name 0 (pv 0)) ve_int)) va_nil)) ve_int))))))) vss_nil)
      (vss_cons (vs_if (vt_cmp p_gt (ve_ix (hu_of hr) (ve_name 0 (pv 0)) ve_int) ve_int (nomark _)) (vss_cons (vs_set (i := 3) nd rfl (.inl rfl) (ve_bin p_mod (ve_callTy c_int (by rfl) T.int (by decide +kernel) (va_cons (ve_ix (hu_of hr) (ve_name 0 (pv 0)) ve_int) va_nil)) (ve_name 1 (pv 1))))
      (vss_cons (vs_put (i := 0) (hu_of hr) (pv 0) ve_int (ve_bin p_fdiv (ve_ix (hu_of hr) (ve_name 0 (pv 0)) ve_int) (ve_name 1 (pv 1))))
      (vss_one (vs_ret (ve_name 3 (pv 3)))))) vss_nil)
      (vss_cons (vs_put (i := 0) (hu_of hr) (pv 0) ve_int (ve_bin p_mod (ve_callTy c_int (by rfl) T.int (by decide +kernel) (va_cons (ve_bin p_add (ve_bin p_mulQ (ve_ix (hu_of hr) (ve_name 0 (pv 0)) ve_int) ve_int) ve_int) va_nil)) ve_int))
      (vss_one (vs_ret (ve_bin p_mod (ve_callTy c_int (by rfl) T.int (by decide +kernel) (va_cons (ve_bin p_fdiv (ve_bin p_mod (ve_callTy c_int (by rfl) T.int (by decide +kernel) (va_cons (ve_bin p_mulQ (ve_ix (hu_of hr) (ve_name 0 (pv 0)) ve_int) ve_int) va_nil)) ve_int) ve_int) va_nil)) (ve_name 1 (pv 1)))))))) h)
abbrev s_law_rule : Stmt := top 26
theorem sc_law_rule : FnScope ["_law_bag_here", "_law_clash_here", "_law_settle", "_law_ties", "_law_comes", "_law_ends"] ["_law_bag_here"] (defScope s_law_rule) := ⟨rfl, rfl, rfl, by decide +kernel, rfl, by decide +kernel, by decide +kernel⟩
theorem ok_law_rule {f : Addr} {fd : FuncData} (F : FunD K "_law_rule" "_law_rule" (defArgs s_law_rule) (defBody s_law_rule) (defScope s_law_rule) [] [] f fd) (T : Txt K w mg) (c_law_pick : Cf P w K mg base 1 "_law_pick" (spV K m__law_pick)) : FnOk P w K mg base (L2.CX P w) 2 f fd ["_law_bag_here"] (spV K m__law_rule) := by
  have nd := sc_law_rule.nd
  exact F.ok sc_law_rule (fun vs H Q E h => fn_len h) (fun cdv A outer s H vs Q E hr h => body_sp
      (vss_cons (vs_set (i := 1) nd rfl (.inl rfl) (ve_ix (hu_of hr) (ve_lst (va_cons ve_str (va_cons ve_str (va_cons ve_str va_nil)))) (ve_call (c_law_pick) hr (takes_of rfl rfl rfl rfl) (by rfl) (va_cons (ve_name 0 (pv 0)) (va_cons ve_int va_nil)))))
      (vss_cons (vs_set (i := 2) nd rfl (.inl rfl) (ve_ix (hu_of hr) (ve_lst (va_cons ve_str (va_cons ve_str (va_cons ve_str (va_cons ve_str (va_cons ve_str (va_cons ve_str va_nil))))))) (ve_call (c_law_pick) hr (takes_of rfl rfl rfl rfl) (by rfl) (va_cons (ve_name 0 (pv 0)) (va_cons ve_int va_nil)))))
      (vss_cons (vs_set (i := 3) nd rfl (.inl rfl) (ve_ix (hu_of hr) (ve_lst (va_cons ve_str (va_cons ve_str va_nil))) (ve_call (c_law_pick) hr (takes_of rfl rfl rfl rfl) (by rfl) (va_cons (ve_name 0 (pv 0)) (va_cons ve_int va_nil)))))
      (vss_cons (vs_set (i := 4) nd rfl (.inl rfl) (ve_ix (hu_of hr) (ve_lst (va_cons ve_str (va_cons ve_str va_nil))) (ve_call (c_law_pick) hr (takes_of rfl rfl rfl rfl) (by rfl) (va_cons (ve_name 0 (pv 0)) (va_cons ve_int va_nil)))))
      (vss_cons (vs_set (i := 5) nd rfl (.inl rfl) (ve_ix (hu_of hr) (ve_lst (va_cons ve_str (va_cons ve_str va_nil))) (ve_call (c_law_pick) hr (takes_of rfl rfl rfl rfl) (by rfl) (va_cons (ve_name 0 (pv 0)) (va_cons ve_int va_nil)))))
      (vss_cons (vs_if (VW.vt (vw_and (vt_cmp (p_eq hr.units) (ve_name 1 (pv 1)) ve_str (nomark _)) (vw_and1 (vt_cmp (p_eq hr.units) (ve_name 5 (pv 5)) ve_str (nomark _))))) (vss_one (vs_set (i := 5) nd rfl (.inl rfl) ve_str)) vss_nil)
      (vss_one (vs_ret (ve_tup (va_cons (ve_name 1 (pv 1)) (va_cons (ve_name 2 (pv 2)) (va_cons (ve_name 3 (pv 3)) (va_cons (ve_name 4 (pv 4)) (va_cons (ve_name 5 (pv 5)) va_nil)))))))))))))) h)
abbrev sare_words : Stmt := top 18
theorem scare_words : FnScope ["words", "word", "known"] ["words"] (defScope sare_words) := ⟨rfl, rfl, rfl, by decide +kernel, rfl, by decide +kernel, by decide +kernel⟩
theorem okare_words {f : Addr} {fd : FuncData} (F : FunD K "are_words" "are_words" (defArgs sare_words) (defBody sare_words) (defScope sare_words) [] [] f fd) (T : Txt K w mg)  : FnOk P w K mg base (L2.CX P w) 1 f fd ["words"] (spV K m_are_words) := by
  have nd := scare_words.nd
  exact F.ok scare_words (fun vs H Q E h => fn_len h) (fun cdv A outer s H vs Q E hr h => body_sp
      (vss_cons (vs_if (vt_cmp (p_ne hr.units) (ve_callB c_len (by rfl) T.len (by decide +kernel) (va_cons (ve_name 0 (pv 0)) va_nil)) (ve_callB c_len (by rfl) T.len (by decide +kernel) (va_cons (ve_kc T.k_WORDS (by rfl)) va_nil)) (nomark _)) (vss_one (vs_ret ve_bl)) vss_nil)
      (vss_cons (vs_for (passes_of rfl) rfl (vi_zip2 (by rfl) T.zip (va_cons (ve_name 0 (pv 0)) (va_cons (ve_kc T.k_WORDS (by rfl)) va_nil))) (vg_tup rfl (vgs_cons (vg_name (i := 1) nd rfl (.inl rfl)) (vgs_cons (vg_name (i := 2) nd rfl (.inl rfl)) vgs_nil))) (vss_one (vs_if (vt_cmp (p_notIn (hu65 hr)) (ve_name 1 (pv 1)) (ve_name 2 (pv 2)) (by rfl)) (vss_one (vs_ret ve_bl)) vss_nil)))
      (vss_one (vs_ret (ve_or (ve_cmp (p_ne hr.units) (ve_ix (hu_of hr) (ve_name 0 (pv 0)) ve_int) ve_str (nomark _)) (ve_or1 (ve_cmp (p_ne hr.units) (ve_ix (hu_of hr) (ve_name 0 (pv 0)) ve_int) ve_str (nomark _)))))))) h)
abbrev sRule_init : Stmt := inClass (top 19) 0
theorem scRule_init : FnScope ["self", "clash", "settle", "ties", "comes", "ends", "words"] ["self", "clash", "settle", "ties", "comes", "ends"] (defScope sRule_init) := ⟨rfl, rfl, rfl, by decide +kernel, rfl, by decide +kernel, by decide +kernel⟩
theorem okRule_init {f : Addr} {fd : FuncData} (F : FunD K "__init__" "Rule.__init__" (defArgs sRule_init) (defBody sRule_init) (defScope sRule_init) [] [("clash", .str "overlap"), ("settle", .str "refuse"), ("ties", .str "up"), ("comes", .str "any"), ("ends", .str "open")] f fd) (T : Txt K w mg) (care_words : Cf P w K mg base 1 "are_words" (spV K m_are_words)) (cBadRule : Rz1 P w K mg base 1 "BadRule" "text") : FnOk P w K mg base (L2.CX P w) 3 f fd ["self", "clash", "settle", "ties", "comes", "ends"] (spV K m_Rule_init) := by
  have nd := scRule_init.nd
  exact F.ok scRule_init (fun vs H Q E h => fn_len h) (fun cdv A outer s H vs Q E hr h => body_sp
      (vss_cons (vs_set (i := 6) nd rfl (.inl rfl) (ve_lst (va_cons (ve_name 1 (pv 1)) (va_cons (ve_name 2 (pv 2)) (va_cons (ve_name 3 (pv 3)) (va_cons (ve_name 4 (pv 4)) (va_cons (ve_name 5 (pv 5)) va_nil)))))))
      (vss_cons (vs_if (vt_not (vt_tru (ve_call (care_words) hr (takes_of rfl rfl rfl rfl) (by rfl) (va_cons (ve_name 6 (pv 6)) va_nil)))) (vss_one (vs_raise1 rfl (takes_of rfl rfl rfl rfl) cBadRule hr (by rfl) (ve_strM1 m_join PySem.F.slot_str_join PySem.F.type_str_join ve_str (ve_name 6 (pv 6))))) vss_nil)
      (vss_cons (vs_attr T.fl_clash (pv 0) (ve_name 1 (pv 1)))
      (vss_cons (vs_attr T.fl_settle (pv 0) (ve_name 2 (pv 2)))
      (vss_cons (vs_attr T.fl_ties (pv 0) (ve_name 3 (pv 3)))
      (vss_cons (vs_attr T.fl_comes (pv 0) (ve_name 4 (pv 4)))
      (vss_one (vs_attr T.fl_ends (pv 0) (ve_name 5 (pv 5)))))))))) h)
abbrev sstretches : Stmt := top 11
theorem scstretches : FnScope ["length", "begin", "end"] ["length"] (defScope sstretches) := ⟨rfl, rfl, rfl, by decide +kernel, rfl, by decide +kernel, by decide +kernel⟩
theorem okstretches {f : Addr} {fd : FuncData} (F : FunD K "stretches" "stretches" (defArgs sstretches) (defBody sstretches) (defScope sstretches) [] [] f fd) (T : Txt K w mg)  : FnOk P w K mg base (L2.CX P w) 1 f fd ["length"] (spV K m_stretches) := by
  have nd := scstretches.nd
  exact F.ok scstretches (fun vs H Q E h => fn_len h) (fun cdv A outer s H vs Q E hr h => body_sp
      (vss_one (vs_ret (ve_comp2 (own := [("begin", 1), ("end", 2)]) rfl nd (vs1 := [2]) (vi_range1 (by rfl) T.range (va_cons (ve_bin p_add (ve_name 0 (pv 0)) ve_int) va_nil)) (blkOk_by (own := [("begin", 1), ("end", 2)]) (N := ["length", "begin", "end"]) (sc := defScope sstretches) (by decide +kernel)) (by decide) (by decide) (by decide) (fun _ _ _ _ _ => (vg_name (i := 1) nd rfl (.inl rfl))) (fun _ _ _ _ _ => .none) (fun _ _ _ _ _ => (viw_range2 (by rfl) T.range (va_cons (ve_name 1 (pv 1)) (va_cons (ve_bin p_add (ve_name 0 (pv 0)) ve_int) va_nil)))) (fun _ _ _ _ _ => (vg_name (i := 2) nd rfl (.inl rfl))) (fun _ _ _ _ _ => .none) (fun _ _ _ _ _ => (ve_tup (va_cons (ve_name 1 (pv 1)) (va_cons (ve_name 2 (pv 2)) va_nil))))))) h)
abbrev soverlap : Stmt := top 20
theorem scoverlap : FnScope ["one", "other"] ["one", "other"] (defScope soverlap) := ⟨rfl, rfl, rfl, by decide +kernel, rfl, by decide +kernel, by decide +kernel⟩
theorem okoverlap {f : Addr} {fd : FuncData} (F : FunD K "overlap" "overlap" (defArgs soverlap) (defBody soverlap) (defScope soverlap) [] [] f fd) (T : Txt K w mg)  : FnOk P w K mg base (L2.CX P w) 1 f fd ["one", "other"] (spV K m_overlap) := by
  have nd := scoverlap.nd
  exact F.ok scoverlap (fun vs H Q E h => fn_len h) (fun cdv A outer s H vs Q E hr h => body_sp
      (vss_one (vs_ret (ve_and (ve_cmp (p_lt hr.units0) (ve_fld T.fl_begin (ve_name 0 (pv 0))) (ve_fld T.fl_end (ve_name 1 (pv 1))) (nomark _)) (ve_and1 (ve_cmp (p_lt hr.units0) (ve_fld T.fl_begin (ve_name 1 (pv 1))) (ve_fld T.fl_end (ve_name 0 (pv 0))) (nomark _)))))) h)
abbrev sRule_clashes : Stmt := inClass (top 19) 3
theorem scRule_clashes : FnScope ["self", "one", "other"] ["self", "one", "other"] (defScope sRule_clashes) := ⟨rfl, rfl, rfl, by decide +kernel, rfl, by decide +kernel, by decide +kernel⟩
theorem okRule_clashes {f : Addr} {fd : FuncData} (F : FunD K "clashes" "Rule.clashes" (defArgs sRule_clashes) (defBody sRule_clashes) (defScope sRule_clashes) [] [] f fd) (T : Txt K w mg) (coverlap : Cf P w K mg base 1 "overlap" (spV K m_overlap)) : FnOk P w K mg base (L2.CX P w) 2 f fd ["self", "one", "other"] (spV K m_Rule_clashes) := by
  have nd := scRule_clashes.nd
  exact F.ok scRule_clashes (fun vs H Q E h => fn_len h) (fun cdv A outer s H vs Q E hr h => body_sp
      (vss_cons (vs_if (vt_tru (ve_call (coverlap) hr (takes_of rfl rfl rfl rfl) (by rfl) (va_cons (ve_name 1 (pv 1)) (va_cons (ve_name 2 (pv 2)) va_nil)))) (vss_one (vs_ret ve_bl)) vss_nil)
      (vss_cons (vs_if (vt_cmp (p_eq hr.units) (ve_fld T.fl_clash (ve_name 0 (pv 0))) ve_str (nomark _)) (vss_one (vs_ret (ve_and (ve_cmp p_le (ve_fld T.fl_begin (ve_name 1 (pv 1))) (ve_fld T.fl_end (ve_name 2 (pv 2))) (nomark _)) (ve_and1 (ve_cmp p_le (ve_fld T.fl_begin (ve_name 2 (pv 2))) (ve_fld T.fl_end (ve_name 1 (pv 1))) (nomark _)))))) vss_nil)
      (vss_one (vs_ret (ve_and (ve_cmp (p_eq hr.units) (ve_fld T.fl_clash (ve_name 0 (pv 0))) ve_str (nomark _)) (ve_and1 (ve_cmp (p_eq hr.units) (ve_fld T.fl_begin (ve_name 1 (pv 1))) (ve_fld T.fl_begin (ve_name 2 (pv 2))) (nomark _)))))))) h)
abbrev sRule_met_by : Stmt := inClass (top 19) 5
theorem scRule_met_by : FnScope ["self", "change", "others", "index", "other"] ["self", "change", "others"] (defScope sRule_met_by) := ⟨rfl, rfl, rfl, by decide +kernel, rfl, by decide +kernel, by decide +kernel⟩
theorem okRule_met_by {f : Addr} {fd : FuncData} (F : FunD K "met_by" "Rule.met_by" (defArgs sRule_met_by) (defBody sRule_met_by) (defScope sRule_met_by) [] [] f fd) (T : Txt K w mg) (k_clashes : MethK P w K mg base 2 "clashes" ms_clashes) : FnOk P w K mg base (L2.CX P w) 3 f fd ["self", "change", "others"] (spV K m_Rule_met_by) := by
  have nd := scRule_met_by.nd
  exact F.ok scRule_met_by (fun vs H Q E h => fn_len h) (fun cdv A outer s H vs Q E hr h => body_sp
      (vss_cons (vs_for (passes_of rfl) rfl (vi_enum (by rfl) T.enumerate (va_cons (ve_name 2 (pv 2)) va_nil)) (vg_tup rfl (vgs_cons (vg_name (i := 3) nd rfl (.inl rfl)) (vgs_cons (vg_name (i := 4) nd rfl (.inl rfl)) vgs_nil))) (vss_one (vs_if (vt_tru (ve_meth (k_clashes.up (by decide)) hr (takes_of rfl rfl rfl rfl) (ve_name 0 (pv 0)) (va_cons (ve_name 1 (pv 1)) (va_cons (ve_name 4 (pv 4)) va_nil)))) (vss_one (vs_ret (ve_name 3 (pv 3)))) vss_nil)))
      (vss_one (vs_ret ve_non))) h)
abbrev sRule_bars : Stmt := inClass (top 19) 4
theorem scRule_bars : FnScope ["self", "changes", "index", "change"] ["self", "changes"] (defScope sRule_bars) := ⟨rfl, rfl, rfl, by decide +kernel, rfl, by decide +kernel, by decide +kernel⟩
theorem okRule_bars {f : Addr} {fd : FuncData} (F : FunD K "bars" "Rule.bars" (defArgs sRule_bars) (defBody sRule_bars) (defScope sRule_bars) [] [] f fd) (T : Txt K w mg) (k_met_by : MethK P w K mg base 3 "met_by" ms_met_by) : FnOk P w K mg base (L2.CX P w) 4 f fd ["self", "changes"] (spV K m_Rule_bars) := by
  have nd := scRule_bars.nd
  exact F.ok scRule_bars (fun vs H Q E h => fn_len h) (fun cdv A outer s H vs Q E hr h => body_sp
      (vss_cons (vs_for (passes_of rfl) rfl (vi_enum (by rfl) T.enumerate (va_cons (ve_name 1 (pv 1)) va_nil)) (vg_tup rfl (vgs_cons (vg_name (i := 2) nd rfl (.inl rfl)) (vgs_cons (vg_name (i := 3) nd rfl (.inl rfl)) vgs_nil))) (vss_cons (vs_if (VW.vt (vw_and (vt_cmp (p_eq hr.units) (ve_fld T.fl_ends (ve_name 0 (pv 0))) ve_str (nomark _)) (vw_and1 (vt_cmp (p_eq hr.units) (ve_fld T.fl_begin (ve_name 3 (pv 3))) (ve_fld T.fl_end (ve_name 3 (pv 3))) (nomark _))))) (vss_one (vs_ret (ve_name 2 (pv 2)))) vss_nil)
      (vss_cons (vs_if (VW.vt (vw_and (vt_cmp (p_eq hr.units) (ve_fld T.fl_comes (ve_name 0 (pv 0))) ve_str (nomark _)) (vw_and (vt_cmp p_gt (ve_name 2 (pv 2)) ve_int (nomark _)) (vw_and1 (vt_cmp (p_lt hr.units0) (ve_fld T.fl_begin (ve_name 3 (pv 3))) (ve_fld T.fl_begin (ve_ix (hu_of hr) (ve_name 1 (pv 1)) (ve_bin p_sub (ve_name 2 (pv 2)) ve_int))) (nomark _)))))) (vss_one (vs_ret (ve_name 2 (pv 2)))) vss_nil)
      (vss_one (vs_if (VW.vt (vw_and (vt_cmp (p_eq hr.units) (ve_fld T.fl_settle (ve_name 0 (pv 0))) ve_str (nomark _)) (vw_and1 (vt_cmp p_isNot (ve_meth (k_met_by.up (by decide)) hr (takes_of rfl rfl rfl rfl) (ve_name 0 (pv 0)) (va_cons (ve_name 3 (pv 3)) (va_cons (ve_slice (ve_name 1 (pv 1)) .none (.some (ve_name 2 (pv 2)))) va_nil))) ve_non (nomark _))))) (vss_one (vs_ret (ve_name 2 (pv 2)))) vss_nil)))))
      (vss_one (vs_ret ve_non))) h)
abbrev sChange_init : Stmt := inClass (top 6) 1
theorem scChange_init : FnScope ["self", "begin", "end", "new"] ["self", "begin", "end", "new"] (defScope sChange_init) := ⟨rfl, rfl, rfl, by decide +kernel, rfl, by decide +kernel, by decide +kernel⟩
theorem okChange_init {f : Addr} {fd : FuncData} (F : FunD K "__init__" "Change.__init__" (defArgs sChange_init) (defBody sChange_init) (defScope sChange_init) [.str ""] [] f fd) (T : Txt K w mg) (cBadChange : Rz2 P w K mg base 1 "BadChange" "begin" "end") : FnOk P w K mg base (L2.CX P w) 3 f fd ["self", "begin", "end", "new"] (spV K r_Change_init) := by
  have nd := scChange_init.nd
  exact F.ok scChange_init (fun vs H Q E h => fn_len h) (fun cdv A outer s H vs Q E hr h => body_sp
      (vss_cons (vs_if (vt_not (vt_chain p_le p_le ve_int (ve_name 1 (pv 1)) (ve_name 2 (pv 2)))) (vss_one (vs_raise2 rfl (takes_of rfl rfl rfl rfl) cBadChange hr (by rfl) (ve_name 1 (pv 1)) (ve_name 2 (pv 2)))) vss_nil)
      (vss_cons (vs_attr T.fl_begin (pv 0) (ve_name 1 (pv 1)))
      (vss_cons (vs_attr T.fl_end (pv 0) (ve_name 2 (pv 2)))
      (vss_one (vs_attr T.fl_new (pv 0) (ve_name 3 (pv 3))))))) h)
abbrev sstretch_rows__r0 : Stmt := top 12
theorem scstretch_rows__r0 : L2.GScope ["rule", "count", "length", "row", "pair", "longer", "begin", "end"] ["rule", "count", "length"] (defScope sstretch_rows__r0) := ⟨rfl, rfl, rfl, by decide +kernel, rfl, by decide +kernel, by decide +kernel⟩
theorem okstretch_rows__r0 {f : Addr} {fd : FuncData} (F : FunD K "stretch_rows" "stretch_rows" (defArgs sstretch_rows__r0) (defBody sstretch_rows__r0) (defScope sstretch_rows__r0) [] [] f fd) (T : Txt K w mg) (cstretches : Cf P w K mg base 1 "stretches" (spV K m_stretches)) (k_bars : MethK P w K mg base 4 "bars" ms_bars) (cChange : Cf P w K mg base 4 "Change" (spV K m_Change)) : Gn.GFn2 (Ω := Om) P w K mg base 5 8 true f fd ["rule", "count", "length"] (fun _ => rdY K true t_stretch_rows__r0) := by
  have nd := scstretch_rows__r0.nd
  exact FunD.okG2 F scstretch_rows__r0 (fun n => rfl) (fun cdv A outer n0 E pn gi os hr tk2 ow2 => 
      vgcs3_bot)
abbrev sstretch_rows__r1 : Stmt := top 12
theorem scstretch_rows__r1 : L2.GScope ["rule", "count", "length", "row", "pair", "longer", "begin", "end"] ["rule", "count", "length"] (defScope sstretch_rows__r1) := ⟨rfl, rfl, rfl, by decide +kernel, rfl, by decide +kernel, by decide +kernel⟩
theorem okstretch_rows__r1 {f : Addr} {fd : FuncData} (F : FunD K "stretch_rows" "stretch_rows" (defArgs sstretch_rows__r1) (defBody sstretch_rows__r1) (defScope sstretch_rows__r1) [] [] f fd) (T : Txt K w mg) (q_stretch_rows__r0_3_ : GKf2 P w K mg base 5 true "stretch_rows" 3 [] gq_stretch_rows__r0_3_ m_stretch_rows__r0) (cstretches : Cf P w K mg base 1 "stretches" (spV K m_stretches)) (k_bars : MethK P w K mg base 4 "bars" ms_bars) (cChange : Cf P w K mg base 4 "Change" (spV K m_Change)) : Gn.GFn2 (Ω := Om) P w K mg base 11 8 true f fd ["rule", "count", "length"] (fun _ => rdY K true t_stretch_rows__r1) := by
  have nd := scstretch_rows__r1.nd
  exact FunD.okG2 F scstretch_rows__r1 (fun n => rfl) (fun cdv A outer n0 E pn gi os hr tk2 ow2 => 
      (vg3_cons (by exact vg3_if (W := fun cls d _ H2 => E cls d H2) (fun β => (vt_cmp (p_eq hr.units) (ve_name 1 (pv 1)) ve_int (nomark _))) (vg3_cons (VGC2.g3 (by exact vg2_yieldN (W := fun cls d _ H2 => E cls d H2) (fun β => (ve_settle (ve_tup va_nil))))) (VGCs2.g3 vg2_nil)) (vg3_cons (by exact vg3_forGen (k := 5) (W := fun cls d _ H2 => E cls d H2) (hr.mono (by decide)) (fun β => by exact (vgen_kw (k := 5) (ks := []) q_stretch_rows__r0_3_ (hr.mono (by decide)) rfl rfl (by rfl) (va_cons (ve_name 0 (pv 0)) (va_cons (ve_bin p_sub (ve_name 1 (pv 1)) ve_int) (va_cons (ve_name 2 (pv 2)) va_nil))) vk_nil)) (fun β => (vg_name (i := 3) nd rfl (.inl rfl))) (vg2_cons (by exact vg2_for (W := fun cls d _ H2 => E cls d H2) (fun β => by exact viw_any (ve_call (cstretches) hr (tk2 β) (by rfl) (va_cons (ve_name 2 (pv 2)) va_nil))) (fun β => (vg_name (i := 4) nd rfl (.inl rfl))) (vg2_cons (by exact VC.gen2 (W := fun cls d _ H2 => E cls d H2) (by first | exact tcd_lift | (repeat' (first | (with_reducible exact tcd_lift) | (with_reducible exact tcd_app) | (with_reducible exact tcd_lend) | (with_reducible exact tcd_new) | (with_reducible apply tcd_seq) | (with_reducible apply tcd_ite) | (with_reducible apply tcd_frzJ) | (with_reducible apply tcd_frz) | (with_reducible apply tcd_for) | (with_reducible apply tcd_met) | assumption))) (fun β => (VS.cells (vs_set (i := 5) nd rfl (.inl rfl) (ve_tupS (ve_name 3 (pv 3)) (va_cons (ve_name 4 (pv 4)) va_nil)))))) (vg2_cons (by exact vg2_if (W := fun cls d _ H2 => E cls d H2) (fun β => (vt_cmp p_is (ve_meth (k_bars.up (by decide)) hr (tk2 β) (ve_name 0 (pv 0)) (va_cons (ve_comp (own := [("begin", 6), ("end", 7)]) rfl nd (vi_of (ve_name 5 (pv 5))) (blkOk_by (own := [("begin", 6), ("end", 7)]) (N := ["rule", "count", "length", "row", "pair", "longer", "begin", "end"]) (sc := defScope sstretch_rows__r1) (by decide +kernel)) (by decide) (fun _ _ _ _ _ => (vg_tup rfl (vgs_cons (vg_name (i := 6) nd rfl (.inl rfl)) (vgs_cons (vg_name (i := 7) nd rfl (.inl rfl)) vgs_nil)))) (fun _ _ _ _ _ => .none) (fun _ _ _ _ _ => (ve_call (cChange) hr takes0' (by rfl) (va_cons (ve_name 6 (pv 6)) (va_cons (ve_name 7 (pv 7)) va_nil))))) va_nil)) ve_non (nomark _))) (vg2_cons (by exact vg2_yieldN (W := fun cls d _ H2 => E cls d H2) (fun β => (ve_settle (ve_name 5 (pv 5))))) vg2_nil) vg2_nil) vg2_nil))) vg2_nil)) (VGCs2.g3 vg2_nil))) (VGCs2.g3 vg2_nil)))
abbrev sstretch_rows__r2 : Stmt := top 12
theorem scstretch_rows__r2 : L2.GScope ["rule", "count", "length", "row", "pair", "longer", "begin", "end"] ["rule", "count", "length"] (defScope sstretch_rows__r2) := ⟨rfl, rfl, rfl, by decide +kernel, rfl, by decide +kernel, by decide +kernel⟩
theorem okstretch_rows__r2 {f : Addr} {fd : FuncData} (F : FunD K "stretch_rows" "stretch_rows" (defArgs sstretch_rows__r2) (defBody sstretch_rows__r2) (defScope sstretch_rows__r2) [] [] f fd) (T : Txt K w mg) (q_stretch_rows__r1_3_ : GKf2 P w K mg base 11 true "stretch_rows" 3 [] gq_stretch_rows__r1_3_ m_stretch_rows__r1) (cstretches : Cf P w K mg base 1 "stretches" (spV K m_stretches)) (k_bars : MethK P w K mg base 4 "bars" ms_bars) (cChange : Cf P w K mg base 4 "Change" (spV K m_Change)) : Gn.GFn2 (Ω := Om) P w K mg base 17 8 true f fd ["rule", "count", "length"] (fun _ => rdY K true t_stretch_rows__r2) := by
  have nd := scstretch_rows__r2.nd
  exact FunD.okG2 F scstretch_rows__r2 (fun n => rfl) (fun cdv A outer n0 E pn gi os hr tk2 ow2 => 
      (vg3_cons (by exact vg3_if (W := fun cls d _ H2 => E cls d H2) (fun β => (vt_cmp (p_eq hr.units) (ve_name 1 (pv 1)) ve_int (nomark _))) (vg3_cons (VGC2.g3 (by exact vg2_yieldN (W := fun cls d _ H2 => E cls d H2) (fun β => (ve_settle (ve_tup va_nil))))) (VGCs2.g3 vg2_nil)) (vg3_cons (by exact vg3_forGen (k := 11) (W := fun cls d _ H2 => E cls d H2) (hr.mono (by decide)) (fun β => by exact (vgen_kw (k := 11) (ks := []) q_stretch_rows__r1_3_ (hr.mono (by decide)) rfl rfl (by rfl) (va_cons (ve_name 0 (pv 0)) (va_cons (ve_bin p_sub (ve_name 1 (pv 1)) ve_int) (va_cons (ve_name 2 (pv 2)) va_nil))) vk_nil)) (fun β => (vg_name (i := 3) nd rfl (.inl rfl))) (vg2_cons (by exact vg2_for (W := fun cls d _ H2 => E cls d H2) (fun β => by exact viw_any (ve_call (cstretches) hr (tk2 β) (by rfl) (va_cons (ve_name 2 (pv 2)) va_nil))) (fun β => (vg_name (i := 4) nd rfl (.inl rfl))) (vg2_cons (by exact VC.gen2 (W := fun cls d _ H2 => E cls d H2) (by first | exact tcd_lift | (repeat' (first | (with_reducible exact tcd_lift) | (with_reducible exact tcd_app) | (with_reducible exact tcd_lend) | (with_reducible exact tcd_new) | (with_reducible apply tcd_seq) | (with_reducible apply tcd_ite) | (with_reducible apply tcd_frzJ) | (with_reducible apply tcd_frz) | (with_reducible apply tcd_for) | (with_reducible apply tcd_met) | assumption))) (fun β => (VS.cells (vs_set (i := 5) nd rfl (.inl rfl) (ve_tupS (ve_name 3 (pv 3)) (va_cons (ve_name 4 (pv 4)) va_nil)))))) (vg2_cons (by exact vg2_if (W := fun cls d _ H2 => E cls d H2) (fun β => (vt_cmp p_is (ve_meth (k_bars.up (by decide)) hr (tk2 β) (ve_name 0 (pv 0)) (va_cons (ve_comp (own := [("begin", 6), ("end", 7)]) rfl nd (vi_of (ve_name 5 (pv 5))) (blkOk_by (own := [("begin", 6), ("end", 7)]) (N := ["rule", "count", "length", "row", "pair", "longer", "begin", "end"]) (sc := defScope sstretch_rows__r2) (by decide +kernel)) (by decide) (fun _ _ _ _ _ => (vg_tup rfl (vgs_cons (vg_name (i := 6) nd rfl (.inl rfl)) (vgs_cons (vg_name (i := 7) nd rfl (.inl rfl)) vgs_nil)))) (fun _ _ _ _ _ => .none) (fun _ _ _ _ _ => (ve_call (cChange) hr takes0' (by rfl) (va_cons (ve_name 6 (pv 6)) (va_cons (ve_name 7 (pv 7)) va_nil))))) va_nil)) ve_non (nomark _))) (vg2_cons (by exact vg2_yieldN (W := fun cls d _ H2 => E cls d H2) (fun β => (ve_settle (ve_name 5 (pv 5))))) vg2_nil) vg2_nil) vg2_nil))) vg2_nil)) (VGCs2.g3 vg2_nil))) (VGCs2.g3 vg2_nil)))
abbrev sstretch_rows__r3 : Stmt := top 12
theorem scstretch_rows__r3 : L2.GScope ["rule", "count", "length", "row", "pair", "longer", "begin", "end"] ["rule", "count", "length"] (defScope sstretch_rows__r3) := ⟨rfl, rfl, rfl, by decide +kernel, rfl, by decide +kernel, by decide +kernel⟩
theorem okstretch_rows__r3 {f : Addr} {fd : FuncData} (F : FunD K "stretch_rows" "stretch_rows" (defArgs sstretch_rows__r3) (defBody sstretch_rows__r3) (defScope sstretch_rows__r3) [] [] f fd) (T : Txt K w mg) (q_stretch_rows__r2_3_ : GKf2 P w K mg base 17 true "stretch_rows" 3 [] gq_stretch_rows__r2_3_ m_stretch_rows__r2) (cstretches : Cf P w K mg base 1 "stretches" (spV K m_stretches)) (k_bars : MethK P w K mg base 4 "bars" ms_bars) (cChange : Cf P w K mg base 4 "Change" (spV K m_Change)) : Gn.GFn2 (Ω := Om) P w K mg base 23 8 true f fd ["rule", "count", "length"] (fun _ => rdY K true t_stretch_rows__r3) := by
  have nd := scstretch_rows__r3.nd
  exact FunD.okG2 F scstretch_rows__r3 (fun n => rfl) (fun cdv A outer n0 E pn gi os hr tk2 ow2 => 
      (vg3_cons (by exact vg3_if (W := fun cls d _ H2 => E cls d H2) (fun β => (vt_cmp (p_eq hr.units) (ve_name 1 (pv 1)) ve_int (nomark _))) (vg3_cons (VGC2.g3 (by exact vg2_yieldN (W := fun cls d _ H2 => E cls d H2) (fun β => (ve_settle (ve_tup va_nil))))) (VGCs2.g3 vg2_nil)) (vg3_cons (by exact vg3_forGen (k := 17) (W := fun cls d _ H2 => E cls d H2) (hr.mono (by decide)) (fun β => by exact (vgen_kw (k := 17) (ks := []) q_stretch_rows__r2_3_ (hr.mono (by decide)) rfl rfl (by rfl) (va_cons (ve_name 0 (pv 0)) (va_cons (ve_bin p_sub (ve_name 1 (pv 1)) ve_int) (va_cons (ve_name 2 (pv 2)) va_nil))) vk_nil)) (fun β => (vg_name (i := 3) nd rfl (.inl rfl))) (vg2_cons (by exact vg2_for (W := fun cls d _ H2 => E cls d H2) (fun β => by exact viw_any (ve_call (cstretches) hr (tk2 β) (by rfl) (va_cons (ve_name 2 (pv 2)) va_nil))) (fun β => (vg_name (i := 4) nd rfl (.inl rfl))) (vg2_cons (by exact VC.gen2 (W := fun cls d _ H2 => E cls d H2) (by first | exact tcd_lift | (repeat' (first | (with_reducible exact tcd_lift) | (with_reducible exact tcd_app) | (with_reducible exact tcd_lend) | (with_reducible exact tcd_new) | (with_reducible apply tcd_seq) | (with_reducible apply tcd_ite) | (with_reducible apply tcd_frzJ) | (with_reducible apply tcd_frz) | (with_reducible apply tcd_for) | (with_reducible apply tcd_met) | assumption))) (fun β => (VS.cells (vs_set (i := 5) nd rfl (.inl rfl) (ve_tupS (ve_name 3 (pv 3)) (va_cons (ve_name 4 (pv 4)) va_nil)))))) (vg2_cons (by exact vg2_if (W := fun cls d _ H2 => E cls d H2) (fun β => (vt_cmp p_is (ve_meth (k_bars.up (by decide)) hr (tk2 β) (ve_name 0 (pv 0)) (va_cons (ve_comp (own := [("begin", 6), ("end", 7)]) rfl nd (vi_of (ve_name 5 (pv 5))) (blkOk_by (own := [("begin", 6), ("end", 7)]) (N := ["rule", "count", "length", "row", "pair", "longer", "begin", "end"]) (sc := defScope sstretch_rows__r3) (by decide +kernel)) (by decide) (fun _ _ _ _ _ => (vg_tup rfl (vgs_cons (vg_name (i := 6) nd rfl (.inl rfl)) (vgs_cons (vg_name (i := 7) nd rfl (.inl rfl)) vgs_nil)))) (fun _ _ _ _ _ => .none) (fun _ _ _ _ _ => (ve_call (cChange) hr takes0' (by rfl) (va_cons (ve_name 6 (pv 6)) (va_cons (ve_name 7 (pv 7)) va_nil))))) va_nil)) ve_non (nomark _))) (vg2_cons (by exact vg2_yieldN (W := fun cls d _ H2 => E cls d H2) (fun β => (ve_settle (ve_name 5 (pv 5))))) vg2_nil) vg2_nil) vg2_nil))) vg2_nil)) (VGCs2.g3 vg2_nil))) (VGCs2.g3 vg2_nil)))
abbrev sstretch_rows : Stmt := top 12
theorem scstretch_rows : L2.GScope ["rule", "count", "length", "row", "pair", "longer", "begin", "end"] ["rule", "count", "length"] (defScope sstretch_rows) := ⟨rfl, rfl, rfl, by decide +kernel, rfl, by decide +kernel, by decide +kernel⟩
theorem okstretch_rows {f : Addr} {fd : FuncData} (F : FunD K "stretch_rows" "stretch_rows" (defArgs sstretch_rows) (defBody sstretch_rows) (defScope sstretch_rows) [] [] f fd) (T : Txt K w mg) (q_stretch_rows__r3_3_ : GKf2 P w K mg base 23 true "stretch_rows" 3 [] gq_stretch_rows__r3_3_ m_stretch_rows__r3) (cstretches : Cf P w K mg base 1 "stretches" (spV K m_stretches)) (k_bars : MethK P w K mg base 4 "bars" ms_bars) (cChange : Cf P w K mg base 4 "Change" (spV K m_Change)) : Gn.GFn2 (Ω := Om) P w K mg base 29 8 true f fd ["rule", "count", "length"] (fun _ => rdY K true t_stretch_rows) := by
  have nd := scstretch_rows.nd
  exact FunD.okG2 F scstretch_rows (fun n => rfl) (fun cdv A outer n0 E pn gi os hr tk2 ow2 => 
      (vg3_cons (by exact vg3_if (W := fun cls d _ H2 => E cls d H2) (fun β => (vt_cmp (p_eq hr.units) (ve_name 1 (pv 1)) ve_int (nomark _))) (vg3_cons (VGC2.g3 (by exact vg2_yieldN (W := fun cls d _ H2 => E cls d H2) (fun β => (ve_settle (ve_tup va_nil))))) (VGCs2.g3 vg2_nil)) (vg3_cons (by exact vg3_forGen (k := 23) (W := fun cls d _ H2 => E cls d H2) (hr.mono (by decide)) (fun β => by exact (vgen_kw (k := 23) (ks := []) q_stretch_rows__r3_3_ (hr.mono (by decide)) rfl rfl (by rfl) (va_cons (ve_name 0 (pv 0)) (va_cons (ve_bin p_sub (ve_name 1 (pv 1)) ve_int) (va_cons (ve_name 2 (pv 2)) va_nil))) vk_nil)) (fun β => (vg_name (i := 3) nd rfl (.inl rfl))) (vg2_cons (by exact vg2_for (W := fun cls d _ H2 => E cls d H2) (fun β => by exact viw_any (ve_call (cstretches) hr (tk2 β) (by rfl) (va_cons (ve_name 2 (pv 2)) va_nil))) (fun β => (vg_name (i := 4) nd rfl (.inl rfl))) (vg2_cons (by exact VC.gen2 (W := fun cls d _ H2 => E cls d H2) (by first | exact tcd_lift | (repeat' (first | (with_reducible exact tcd_lift) | (with_reducible exact tcd_app) | (with_reducible exact tcd_lend) | (with_reducible exact tcd_new) | (with_reducible apply tcd_seq) | (with_reducible apply tcd_ite) | (with_reducible apply tcd_frzJ) | (with_reducible apply tcd_frz) | (with_reducible apply tcd_for) | (with_reducible apply tcd_met) | assumption))) (fun β => (VS.cells (vs_set (i := 5) nd rfl (.inl rfl) (ve_tupS (ve_name 3 (pv 3)) (va_cons (ve_name 4 (pv 4)) va_nil)))))) (vg2_cons (by exact vg2_if (W := fun cls d _ H2 => E cls d H2) (fun β => (vt_cmp p_is (ve_meth (k_bars.up (by decide)) hr (tk2 β) (ve_name 0 (pv 0)) (va_cons (ve_comp (own := [("begin", 6), ("end", 7)]) rfl nd (vi_of (ve_name 5 (pv 5))) (blkOk_by (own := [("begin", 6), ("end", 7)]) (N := ["rule", "count", "length", "row", "pair", "longer", "begin", "end"]) (sc := defScope sstretch_rows) (by decide +kernel)) (by decide) (fun _ _ _ _ _ => (vg_tup rfl (vgs_cons (vg_name (i := 6) nd rfl (.inl rfl)) (vgs_cons (vg_name (i := 7) nd rfl (.inl rfl)) vgs_nil)))) (fun _ _ _ _ _ => .none) (fun _ _ _ _ _ => (ve_call (cChange) hr takes0' (by rfl) (va_cons (ve_name 6 (pv 6)) (va_cons (ve_name 7 (pv 7)) va_nil))))) va_nil)) ve_non (nomark _))) (vg2_cons (by exact vg2_yieldN (W := fun cls d _ H2 => E cls d H2) (fun β => (ve_settle (ve_name 5 (pv 5))))) vg2_nil) vg2_nil) vg2_nil))) vg2_nil)) (VGCs2.g3 vg2_nil))) (VGCs2.g3 vg2_nil)))
abbrev ssize_rows : Stmt := top 13
theorem scsize_rows : FnScope ["count", "found", "turn", "row", "size"] ["count"] (defScope ssize_rows) := ⟨rfl, rfl, rfl, by decide +kernel, rfl, by decide +kernel, by decide +kernel⟩
theorem oksize_rows {f : Addr} {fd : FuncData} (F : FunD K "size_rows" "size_rows" (defArgs ssize_rows) (defBody ssize_rows) (defScope ssize_rows) [] [] f fd) (T : Txt K w mg)  : FnOk P w K mg base (L2.CX P w) 1 f fd ["count"] (spV K m_size_rows) := by
  have nd := scsize_rows.nd
  exact F.ok scsize_rows (fun vs H Q E h => fn_len h) (fun cdv A outer s H vs Q E hr h => body_sp
      (vss_cons (vs_set (i := 1) nd rfl (.inl rfl) (ve_lst (va_cons (ve_tup va_nil) va_nil)))
      (vss_cons (vs_for (passes_of rfl) rfl (vi_range1 (by rfl) T.range (va_cons (ve_name 0 (pv 0)) va_nil)) (vg_name (i := 2) nd rfl (.inl rfl)) (vss_one (vs_setComp2 (i := 1) (own := [("row", 3), ("size", 4)]) rfl nd rfl rfl (sw_true rfl rfl rfl (by decide +kernel)) (vs1 := [4]) (vi_of (ve_name 1 (pv 1))) (blkOk_by (own := [("row", 3), ("size", 4)]) (N := ["count", "found", "turn", "row", "size"]) (sc := defScope ssize_rows) (by decide +kernel)) (by decide) (by decide) (by decide) (fun _ _ _ _ _ => (vg_name (i := 3) nd rfl (.inl rfl))) (fun _ _ _ _ _ => .none) (fun _ _ _ _ _ => (viw_range1 (by rfl) T.range (va_cons ve_int va_nil))) (fun _ _ _ _ _ => (vg_name (i := 4) nd rfl (.inl rfl))) (fun _ _ _ _ _ => .none) (fun _ _ _ _ _ => (ve_tupS (ve_name 3 (pv 3)) (va_cons (ve_name 4 (pv 4)) va_nil))))))
      (vss_one (vs_ret (ve_name 1 (pv 1)))))) h)
abbrev sCase_init : Stmt := inClass (top 10) 0
theorem scCase_init : FnScope ["self", "length", "changes"] ["self", "length", "changes"] (defScope sCase_init) := ⟨rfl, rfl, rfl, by decide +kernel, rfl, by decide +kernel, by decide +kernel⟩
theorem okCase_init {f : Addr} {fd : FuncData} (F : FunD K "__init__" "Case.__init__" (defArgs sCase_init) (defBody sCase_init) (defScope sCase_init) [] [] f fd) (T : Txt K w mg)  : FnOk P w K mg base (L2.CX P w) 1 f fd ["self", "length", "changes"] (spV K m_Case_init) := by
  have nd := scCase_init.nd
  exact F.ok scCase_init (fun vs H Q E h => fn_len h) (fun cdv A outer s H vs Q E hr h => body_sp
      (vss_cons (vs_attr T.fl_length (pv 0) (ve_name 1 (pv 1)))
      (vss_one (vs_attr T.fl_changes (pv 0) (ve_callTy c_tuple (by rfl) T.tuple (by decide +kernel) (va_cons (ve_name 2 (pv 2)) va_nil))))) h)
abbrev scase_of : Stmt := top 14
theorem sccase_of : FnScope ["length", "row", "sizes", "changes", "begin", "end", "size", "new"] ["length", "row", "sizes"] (defScope scase_of) := ⟨rfl, rfl, rfl, by decide +kernel, rfl, by decide +kernel, by decide +kernel⟩
theorem okcase_of {f : Addr} {fd : FuncData} (F : FunD K "case_of" "case_of" (defArgs scase_of) (defBody scase_of) (defScope scase_of) [] [] f fd) (T : Txt K w mg) (cCase : Cf P w K mg base 2 "Case" (spV K m_Case)) (cChange : Cf P w K mg base 4 "Change" (spV K m_Change)) : FnOk P w K mg base (L2.CX P w) 5 f fd ["length", "row", "sizes"] (spV K m_case_of) := by
  have nd := sccase_of.nd
  exact F.ok sccase_of (fun vs H Q E h => fn_len h) (fun cdv A outer s H vs Q E hr h => body_sp
      (vss_cons (vs_set (i := 3) nd rfl (.inl rfl) (ve_lst va_nil))
      (vss_cons (vs_for (passes_of rfl) rfl (vi_zip3T (by rfl) T.zip (va_cons (ve_name 1 (pv 1)) (va_cons (ve_name 2 (pv 2)) (va_cons (ve_kc T.k_NEWS (by rfl)) va_nil)))) (vg_tup rfl (vgs_cons (vg_tup rfl (vgs_cons (vg_name (i := 4) nd rfl (.inl rfl)) (vgs_cons (vg_name (i := 5) nd rfl (.inl rfl)) vgs_nil))) (vgs_cons (vg_name (i := 6) nd rfl (.inl rfl)) (vgs_cons (vg_name (i := 7) nd rfl (.inl rfl)) vgs_nil)))) (vss_one (vs_expr (ve_append (i := 3) (pv 3) (va_cons (ve_call (cChange) hr (takes_of rfl rfl rfl rfl) (by rfl) (va_cons (ve_name 4 (pv 4)) (va_cons (ve_name 5 (pv 5)) (va_cons (ve_slice (ve_name 7 (pv 7)) .none (.some (ve_name 6 (pv 6)))) va_nil)))) va_nil)))))
      (vss_one (vs_ret (ve_call (cCase) hr (takes_of rfl rfl rfl rfl) (by rfl) (va_cons (ve_name 0 (pv 0)) (va_cons (ve_name 3 (pv 3)) va_nil))))))) h)
abbrev scases : Stmt := top 15
theorem sccases : L2.GScope ["rule", "count", "length", "row", "sizes"] ["rule", "count", "length"] (defScope scases) := ⟨rfl, rfl, rfl, by decide +kernel, rfl, by decide +kernel, by decide +kernel⟩
theorem okcases {f : Addr} {fd : FuncData} (F : FunD K "cases" "cases" (defArgs scases) (defBody scases) (defScope scases) [] [] f fd) (T : Txt K w mg) (q_stretch_rows_3_ : GKf2 P w K mg base 29 true "stretch_rows" 3 [] gq_stretch_rows_3_ m_stretch_rows) (csize_rows : Cf P w K mg base 1 "size_rows" (spV K m_size_rows)) (ccase_of : Cf P w K mg base 5 "case_of" (spV K m_case_of)) : Gn.GFn2 (Ω := Om) P w K mg base 35 5 true f fd ["rule", "count", "length"] (fun _ => rdY K true t_cases) := by
  have nd := sccases.nd
  exact FunD.okG2 F sccases (fun n => rfl) (fun cdv A outer n0 E pn gi os hr tk2 ow2 => 
      (vg3_cons (by exact vg3_forGen (k := 29) (W := fun cls d _ H2 => E cls d H2) (hr.mono (by decide)) (fun β => by exact (vgen_kw (k := 29) (ks := []) q_stretch_rows_3_ (hr.mono (by decide)) rfl rfl (by rfl) (va_cons (ve_name 0 (pv 0)) (va_cons (ve_name 1 (pv 1)) (va_cons (ve_name 2 (pv 2)) va_nil))) vk_nil)) (fun β => (vg_name (i := 3) nd rfl (.inl rfl))) (vg2_cons (by exact vg2_for (W := fun cls d _ H2 => E cls d H2) (fun β => by exact viw_any (ve_call (csize_rows) hr (tk2 β) (by rfl) (va_cons (ve_name 1 (pv 1)) va_nil))) (fun β => (vg_name (i := 4) nd rfl (.inl rfl))) (vg2_cons (by exact vg2_yieldN (W := fun cls d _ H2 => E cls d H2) (fun β => (ve_settle (ve_call (ccase_of) hr (tk2 β) (by rfl) (va_cons (ve_name 2 (pv 2)) (va_cons (ve_name 3 (pv 3)) (va_cons (ve_name 4 (pv 4)) va_nil))))))) vg2_nil)) vg2_nil)) (VGCs2.g3 vg2_nil)))
abbrev s_law_key : Stmt := top 28
theorem sc_law_key : FnScope ["_law_rows", "_law_numbers", "_law_row"] ["_law_rows"] (defScope s_law_key) := ⟨rfl, rfl, rfl, by decide +kernel, rfl, by decide +kernel, by decide +kernel⟩
theorem ok_law_key {f : Addr} {fd : FuncData} (F : FunD K "_law_key" "_law_key" (defArgs s_law_key) (defBody s_law_key) (defScope s_law_key) [] [] f fd) (T : Txt K w mg)  : FnOk P w K mg base (L2.CX P w) 1 f fd ["_law_rows"] (spV K m__law_key) := by
  have nd := sc_law_key.nd
  exact F.ok sc_law_key (fun vs H Q E h => fn_len h) (fun cdv A outer s H vs Q E hr h => body_sp
      (vss_cons (vs_set (i := 1) nd rfl (.inl rfl) (ve_lst va_nil))
      (vss_cons (vs_for (passes_of rfl) rfl (vi_of (ve_name 0 (pv 0))) (vg_name (i := 2) nd rfl (.inl rfl)) (vss_one (vs_set (i := 1) nd rfl (.inl rfl) (ve_bin p_add (ve_name 1 (pv 1)) (ve_lst (va_cons (ve_ix (hu_of hr) (ve_name 2 (pv 2)) ve_int) (va_cons (ve_ix (hu_of hr) (ve_name 2 (pv 2)) ve_int) va_nil)))))))
      (vss_one (vs_ret (ve_tup (va_cons (ve_name 1 (pv 1)) (va_cons (ve_comp (own := [("_law_row", 2)]) rfl nd (vi_of (ve_name 0 (pv 0))) (blkOk_by (own := [("_law_row", 2)]) (N := ["_law_rows", "_law_numbers", "_law_row"]) (sc := defScope s_law_key) (by decide +kernel)) (by decide) (fun _ _ _ _ _ => (vg_name (i := 2) nd rfl (.inl rfl))) (fun _ _ _ _ _ => .none) (fun _ _ _ _ _ => (ve_callB c_len (by rfl) T.len (by decide +kernel) (va_cons (ve_ix (hu_of hr) (ve_name 2 (pv 2)) ve_int) va_nil)))) va_nil))))))) h)
abbrev s_law_clash : Stmt := top 24
theorem sc_law_clash : FnScope ["_law_word", "_law_one", "_law_two"] ["_law_word", "_law_one", "_law_two"] (defScope s_law_clash) := ⟨rfl, rfl, rfl, by decide +kernel, rfl, by decide +kernel, by decide +kernel⟩
theorem ok_law_clash {f : Addr} {fd : FuncData} (F : FunD K "_law_clash" "_law_clash" (defArgs s_law_clash) (defBody s_law_clash) (defScope s_law_clash) [] [] f fd) (T : Txt K w mg)  : FnOk P w K mg base (L2.CX P w) 1 f fd ["_law_word", "_law_one", "_law_two"] (spV K m__law_clash) := by
  have nd := sc_law_clash.nd
  exact F.ok sc_law_clash (fun vs H Q E h => fn_len h) (fun cdv A outer s H vs Q E hr h => body_sp
      (vss_cons (vs_if (vt_cmp (p_eq hr.units) (ve_name 0 (pv 0)) ve_str (nomark _)) (vss_one (vs_ret (ve_and (ve_cmp p_le (ve_ix (hu_of hr) (ve_name 1 (pv 1)) ve_int) (ve_ix (hu_of hr) (ve_name 2 (pv 2)) ve_int) (nomark _)) (ve_and1 (ve_cmp p_le (ve_ix (hu_of hr) (ve_name 2 (pv 2)) ve_int) (ve_ix (hu_of hr) (ve_name 1 (pv 1)) ve_int) (nomark _)))))) vss_nil)
      (vss_one (vs_ret (ve_or (ve_and (ve_cmp (p_lt hr.units0) (ve_ix (hu_of hr) (ve_name 1 (pv 1)) ve_int) (ve_ix (hu_of hr) (ve_name 2 (pv 2)) ve_int) (nomark _)) (ve_and1 (ve_cmp (p_lt hr.units0) (ve_ix (hu_of hr) (ve_name 2 (pv 2)) ve_int) (ve_ix (hu_of hr) (ve_name 1 (pv 1)) ve_int) (nomark _)))) (ve_or1 (ve_and (ve_cmp (p_eq hr.units) (ve_name 0 (pv 0)) ve_str (nomark _)) (ve_and1 (ve_cmp (p_eq hr.units) (ve_ix (hu_of hr) (ve_name 1 (pv 1)) ve_int) (ve_ix (hu_of hr) (ve_name 2 (pv 2)) ve_int) (nomark _))))))))) h)
abbrev s_law_bars : Stmt := top 25
theorem sc_law_bars : FnScope ["_law_rule_here", "_law_changes", "_law_k", "_law_one"] ["_law_rule_here", "_law_changes"] (defScope s_law_bars) := ⟨rfl, rfl, rfl, by decide +kernel, rfl, by decide +kernel, by decide +kernel⟩
theorem ok_law_bars {f : Addr} {fd : FuncData} (F : FunD K "_law_bars" "_law_bars" (defArgs s_law_bars) (defBody s_law_bars) (defScope s_law_bars) [] [] f fd) (T : Txt K w mg) (c_law_clash : Cf P w K mg base 1 "_law_clash" (spV K m__law_clash)) : FnOk P w K mg base (L2.CX P w) 2 f fd ["_law_rule_here", "_law_changes"] (spV K m__law_bars) := by
  have nd := sc_law_bars.nd
  exact F.ok sc_law_bars (fun vs H Q E h => fn_len h) (fun cdv A outer s H vs Q E hr h => body_sp
      (vss_cons (vs_for (passes_of rfl) rfl (vi_range1 (by rfl) T.range (va_cons (ve_callB c_len (by rfl) T.len (by decide +kernel) (va_cons (ve_name 1 (pv 1)) va_nil)) va_nil)) (vg_name (i := 2) nd rfl (.inr rfl)) (vss_cons (vs_if (VW.vt (vw_and (vt_cmp (p_eq hr.units) (ve_ix (hu_of hr) (ve_name 0 (pv 0)) ve_int) ve_str (nomark _)) (vw_and (vt_cmp p_gt (ve_name 2 (pv 2)) ve_int (nomark _)) (vw_and1 (vt_cmp (p_lt hr.units0) (ve_ix (hu_of hr) (ve_ix (hu_of hr) (ve_name 1 (pv 1)) (ve_name 2 (pv 2))) ve_int) (ve_ix (hu_of hr) (ve_ix (hu_of hr) (ve_name 1 (pv 1)) (ve_bin p_sub (ve_name 2 (pv 2)) ve_int)) ve_int) (nomark _)))))) (vss_one (vs_ret (ve_name 2 (pv 2)))) vss_nil)
      (vss_cons (vs_if (VW.vt (vw_and (vt_cmp (p_eq hr.units) (ve_ix (hu_of hr) (ve_name 0 (pv 0)) ve_int) ve_str (nomark _)) (vw_and1 (vt_cmp (p_eq hr.units) (ve_ix (hu_of hr) (ve_ix (hu_of hr) (ve_name 1 (pv 1)) (ve_name 2 (pv 2))) ve_int) (ve_ix (hu_of hr) (ve_ix (hu_of hr) (ve_name 1 (pv 1)) (ve_name 2 (pv 2))) ve_int) (nomark _))))) (vss_one (vs_ret (ve_name 2 (pv 2)))) vss_nil)
      (vss_one (vs_if (VW.vt (vw_and (vt_cmp (p_eq hr.units) (ve_ix (hu_of hr) (ve_name 0 (pv 0)) ve_int) ve_str (nomark _)) (vw_and1 (vt_tru (ve_callB (c_any rfl) (by rfl) T.any (by decide +kernel) (va_cons (ve_comp (own := [("_law_one", 3)]) rfl nd (vi_of (ve_slice (ve_name 1 (pv 1)) .none (.some (ve_name 2 (pv 2))))) (blkOk_by (own := [("_law_one", 3)]) (N := ["_law_rule_here", "_law_changes", "_law_k", "_law_one"]) (sc := defScope s_law_bars) (by decide +kernel)) (by decide) (fun _ _ _ _ _ => (vg_name (i := 3) nd rfl (.inl rfl))) (fun _ _ _ _ _ => .none) (fun _ _ _ _ _ => (ve_call (c_law_clash) hr takes0' (by rfl) (va_cons (ve_ix (hu_of hr) (ve_name 0 (pv 0)) ve_int) (va_cons (ve_name 3 (pv 3)) (va_cons (ve_ix (hu_of hr) (ve_name 1 (pv 1)) (ve_name 2 (pv 2))) va_nil)))))) va_nil)))))) (vss_one (vs_ret (ve_name 2 (pv 2)))) vss_nil)))))
      (vss_one (vs_ret ve_non))) h)
abbrev s_law_case_rows : Stmt := top 27
theorem sc_law_case_rows : FnScope ["_law_case", "_law_one"] ["_law_case"] (defScope s_law_case_rows) := ⟨rfl, rfl, rfl, by decide +kernel, rfl, by decide +kernel, by decide +kernel⟩
theorem ok_law_case_rows {f : Addr} {fd : FuncData} (F : FunD K "_law_case_rows" "_law_case_rows" (defArgs s_law_case_rows) (defBody s_law_case_rows) (defScope s_law_case_rows) [] [] f fd) (T : Txt K w mg)  : FnOk P w K mg base (L2.CX P w) 1 f fd ["_law_case"] (spV K m__law_case_rows) := by
  have nd := sc_law_case_rows.nd
  exact F.ok sc_law_case_rows (fun vs H Q E h => fn_len h) (fun cdv A outer s H vs Q E hr h => body_sp
      (vss_one (vs_ret (ve_comp (own := [("_law_one", 1)]) rfl nd (vi_of (ve_fld T.fl_changes (ve_name 0 (pv 0)))) (blkOk_by (own := [("_law_one", 1)]) (N := ["_law_case", "_law_one"]) (sc := defScope s_law_case_rows) (by decide +kernel)) (by decide) (fun _ _ _ _ _ => (vg_name (i := 1) nd rfl (.inl rfl))) (fun _ _ _ _ _ => .none) (fun _ _ _ _ _ => (ve_tup (va_cons (ve_fld T.fl_begin (ve_name 1 (pv 1))) (va_cons (ve_fld T.fl_end (ve_name 1 (pv 1))) (va_cons (ve_fld T.fl_new (ve_name 1 (pv 1))) va_nil)))))))) h)
abbrev sCase_letters : Stmt := inClass (top 10) 1
theorem scCase_letters : FnScope ["self"] ["self"] (defScope sCase_letters) := ⟨rfl, rfl, rfl, by decide +kernel, rfl, by decide +kernel, by decide +kernel⟩
theorem okCase_letters {f : Addr} {fd : FuncData} (F : FunD K "letters" "Case.letters" (defArgs sCase_letters) (defBody sCase_letters) (defScope sCase_letters) [] [] f fd) (T : Txt K w mg)  : FnOk P w K mg base (L2.CX P w) 1 f fd ["self"] (spV K m_Case_letters) := by
  have nd := scCase_letters.nd
  exact F.ok scCase_letters (fun vs H Q E h => fn_len h) (fun cdv A outer s H vs Q E hr h => body_sp
      (vss_one (vs_ret (ve_slice (ve_kc T.k_LETTERS (by rfl)) .none (.some (ve_fld T.fl_length (ve_name 0 (pv 0))))))) h)
abbrev s_law_is_case : Stmt := top 29
theorem sc_law_is_case : FnScope ["_law_case", "_law_words", "_law_rows", "_law_row", "_law_k"] ["_law_case", "_law_words"] (defScope s_law_is_case) := ⟨rfl, rfl, rfl, by decide +kernel, rfl, by decide +kernel, by decide +kernel⟩
theorem ok_law_is_case {f : Addr} {fd : FuncData} (F : FunD K "_law_is_case" "_law_is_case" (defArgs s_law_is_case) (defBody s_law_is_case) (defScope s_law_is_case) [] [] f fd) (T : Txt K w mg) (c_law_case_rows : Cf P w K mg base 1 "_law_case_rows" (spV K m__law_case_rows)) (p_letters : PropK P w K mg base 1 "letters" ps_letters) (c_law_bars : Cf P w K mg base 2 "_law_bars" (spV K m__law_bars)) : FnOk P w K mg base (L2.CX P w) 3 f fd ["_law_case", "_law_words"] (spV K m__law_is_case) := by
  have nd := sc_law_is_case.nd
  exact F.ok sc_law_is_case (fun vs H Q E h => fn_len h) (fun cdv A outer s H vs Q E hr h => body_sp
      (vss_cons (vs_set (i := 2) nd rfl (.inr rfl) (ve_call (c_law_case_rows) hr (takes_of rfl rfl rfl rfl) (by rfl) (va_cons (ve_name 0 (pv 0)) va_nil)))
      (vss_cons (vs_if (VW.vt (vw_or (vt_not (vt_tru (ve_isi (T := "tuple") (ve_fld T.fl_changes (ve_name 0 (pv 0))) (by rfl) T.isinstance (by rfl) T.tuple (by decide +kernel)))) (vw_or (vt_cmp p_gt (ve_callB c_len (by rfl) T.len (by decide +kernel) (va_cons (ve_name 2 (pv 2)) va_nil)) ve_int (nomark _)) (vw_or1 (vt_cmp p_isNot (ve_call (c_law_bars) hr (takes_of rfl rfl rfl rfl) (by rfl) (va_cons (ve_name 1 (pv 1)) (va_cons (ve_name 2 (pv 2)) va_nil))) ve_non (nomark _)))))) (vss_one (vs_ret ve_bl)) vss_nil)
      (vss_cons (vs_if (vt_not (vt_tru (ve_callB (c_all rfl) (by rfl) T.all (by decide +kernel) (va_cons (ve_comp (own := [("_law_row", 3)]) rfl nd (vi_of (ve_name 2 (pv 2))) (blkOk_by (own := [("_law_row", 3)]) (N := ["_law_case", "_law_words", "_law_rows", "_law_row", "_law_k"]) (sc := defScope s_law_is_case) (by decide +kernel)) (by decide) (fun _ _ _ _ _ => (vg_name (i := 3) nd rfl (.inl rfl))) (fun _ _ _ _ _ => .none) (fun _ _ _ _ _ => (ve_chain3 p_le p_le p_le ve_int (ve_ix (hu_of hr) (ve_name 3 (pv 3)) ve_int) (ve_ix (hu_of hr) (ve_name 3 (pv 3)) ve_int) (ve_fld T.fl_length (ve_name 0 (pv 0)))))) va_nil)))) (vss_one (vs_ret ve_bl)) vss_nil)
      (vss_cons (vs_if (vt_not (vt_tru (ve_callB (c_all rfl) (by rfl) T.all (by decide +kernel) (va_cons (ve_comp (own := [("_law_k", 4)]) rfl nd (vi_range1 (by rfl) T.range (va_cons (ve_callB c_len (by rfl) T.len (by decide +kernel) (va_cons (ve_name 2 (pv 2)) va_nil)) va_nil)) (blkOk_by (own := [("_law_k", 4)]) (N := ["_law_case", "_law_words", "_law_rows", "_law_row", "_law_k"]) (sc := defScope s_law_is_case) (by decide +kernel)) (by decide) (fun _ _ _ _ _ => (vg_name (i := 4) nd rfl (.inl rfl))) (fun _ _ _ _ _ => .none) (fun _ _ _ _ _ => (ve_cmp (p_in (hu65 hr)) (ve_ix (hu_of hr) (ve_ix (hu_of hr) (ve_name 2 (pv 2)) (ve_name 4 (pv 4))) ve_int) (ve_tup (va_cons ve_str (va_cons (ve_ix (hu_of hr) ve_str (ve_name 4 (pv 4))) (va_cons (ve_ix (hu_of hr) (ve_lst (va_cons ve_str (va_cons ve_str (va_cons ve_str va_nil)))) (ve_name 4 (pv 4))) va_nil)))) (by rfl)))) va_nil)))) (vss_one (vs_ret ve_bl)) vss_nil)
      (vss_one (vs_ret (ve_cmp (p_eq hr.units) (ve_prop (p_letters.up (by decide)) hr (ve_name 0 (pv 0))) (ve_slice ve_str .none (.some (ve_fld T.fl_length (ve_name 0 (pv 0))))) (nomark _)))))))) h)
abbrev slaw : Stmt := top 30
theorem sclaw : FnScope ["_law_script", "_law_bag_here", "_law_words", "_law_rule_here", "_law_count", "_law_length", "_law_keys", "_law_case", "_law_turn", "_law_rows", "_law_k", "_law_begin", "_law_end"] ["_law_script"] (defScope slaw) := ⟨rfl, rfl, rfl, by decide +kernel, rfl, by decide +kernel, by decide +kernel⟩
theorem oklaw {f : Addr} {fd : FuncData} (F : FunD K "law" "law" (defArgs slaw) (defBody slaw) (defScope slaw) [] [] f fd) (T : Txt K w mg) (c_law_bag : Cf P w K mg base 1 "_law_bag" (spV K m__law_bag)) (c_law_rule : Cf P w K mg base 2 "_law_rule" (spV K m__law_rule)) (q_Rule_0_clash_settle_ties_comes_ends : KCf P w K mg base 4 "Rule" 0 ["clash", "settle", "ties", "comes", "ends"] gq_Rule_0_clash_settle_ties_comes_ends x_Rule) (c_law_pick : Cf P w K mg base 1 "_law_pick" (spV K m__law_pick)) (q_cases_3_ : GKf2 P w K mg base 35 true "cases" 3 [] gq_cases_3_ m_cases) (c_law_key : Cf P w K mg base 1 "_law_key" (spV K m__law_key)) (c_law_bars : Cf P w K mg base 2 "_law_bars" (spV K m__law_bars)) (c_law_is_case : Cf P w K mg base 3 "_law_is_case" (spV K m__law_is_case)) (c_law_case_rows : Cf P w K mg base 1 "_law_case_rows" (spV K m__law_case_rows)) (hl : ∀ ns : List Int, ns.length ≤ 63 → ∃ outs, m_law [.val (.seq (ns.map D.int))] = .ok (.val (.bl true)) outs) : FnOk P w K mg base CX0 41 f fd ["_law_script"] (spLaw (K := K)) := by
  have nd := sclaw.nd
  refine F.ok sclaw (fun vs H Q E h => ?_) (fun cdv A outer s H vs Q E hr h => ?_)
  · obtain ⟨a, rfl, _⟩ := h
    rfl
  · obtain ⟨a, rfl, ns, hS, hlen, hE, k⟩ := h
    obtain ⟨outs, hl⟩ := hl ns hlen
    exact body_law
      (vss_cons (vs_set (i := 1) nd rfl (.inl rfl) (ve_call (c_law_bag) hr takes0' (by rfl) (va_cons (ve_name 0 (pv 0)) va_nil)))
      (vss_cons (vs_set (i := 2) nd rfl (.inl rfl) (ve_call (c_law_rule) hr takes0' (by rfl) (va_cons (ve_name 1 (pv 1)) va_nil)))
      (vss_cons (vs_set (i := 3) nd rfl (.inl rfl) (ve_settle (ve_kw0 q_Rule_0_clash_settle_ties_comes_ends hr takes0' (by rfl) (vk_cons (ve_ix (hu_of hr) (ve_name 2 (pv 2)) ve_int) (vk_cons (ve_ix (hu_of hr) (ve_name 2 (pv 2)) ve_int) (vk_cons (ve_ix (hu_of hr) (ve_name 2 (pv 2)) ve_int) (vk_cons (ve_ix (hu_of hr) (ve_name 2 (pv 2)) ve_int) (vk_cons (ve_ix (hu_of hr) (ve_name 2 (pv 2)) ve_int) vk_nil))))))))
      (vss_cons (vs_set (i := 4) nd rfl (.inl rfl) (ve_bin p_add ve_int (ve_call (c_law_pick) hr takes0' (by rfl) (va_cons (ve_name 1 (pv 1)) (va_cons ve_int va_nil)))))
      (vss_cons (vs_set (i := 5) nd rfl (.inl rfl) (ve_call (c_law_pick) hr takes0' (by rfl) (va_cons (ve_name 1 (pv 1)) (va_cons ve_int va_nil))))
      (vss_cons (vs_set (i := 6) nd rfl (.inl rfl) (ve_lst va_nil))
      (vss_cons (vs_forGen PassesOwn.never rfl (hr.mono (by decide)) (vgen_kw (k := 35) (ks := []) q_cases_3_ (hr.mono (by decide)) rfl rfl (by rfl) (va_cons (ve_name 3 (pv 3)) (va_cons (ve_name 4 (pv 4)) (va_cons (ve_name 5 (pv 5)) va_nil))) vk_nil) (fun pn xe => (vg_name (i := 7) nd rfl (.inl rfl))) (fun W pn xe tk1 hp1 => (vss_one (vs_if (vt_cmp (p_lt hr.units0) (ve_callB c_len (by rfl) T.len (by decide +kernel) (va_cons (ve_name 6 (pv 6)) va_nil)) ve_int (nomark _)) (vss_cons (vs_if (VW.vt (vw_or (vt_cmp (p_ne hr.units) (ve_fld T.fl_length (ve_name 7 (pv 7))) (ve_name 5 (pv 5)) (nomark _)) (vw_or (vt_not (vt_tru (ve_call (c_law_is_case) hr tk1 (by rfl) (va_cons (ve_name 7 (pv 7)) (va_cons (ve_name 2 (pv 2)) va_nil))))) (vw_or1 (vt_cmp (p_ne hr.units) (ve_callB c_len (by rfl) T.len (by decide +kernel) (va_cons (ve_fld T.fl_changes (ve_name 7 (pv 7))) va_nil)) (ve_name 4 (pv 4)) (nomark _)))))) (vss_one (vs_ret ve_bl)) vss_nil)
      (vss_cons (vs_expr (ve_append (i := 6) (pv 6) (va_cons (ve_call (c_law_key) hr tk1 (by rfl) (va_cons (ve_call (c_law_case_rows) hr tk1 (by rfl) (va_cons (ve_name 7 (pv 7)) va_nil)) va_nil)) va_nil)))
      (vss_one (vs_if (VW.vt (vw_and (vt_cmp p_gt (ve_callB c_len (by rfl) T.len (by decide +kernel) (va_cons (ve_name 6 (pv 6)) va_nil)) ve_int (nomark _)) (vw_and1 (vt_not (vt_cmp (p_ltQ (hu65 hr)) (ve_ix (hu_of hr) (ve_name 6 (pv 6)) (ve_neg ve_int)) (ve_ix (hu_of hr) (ve_name 6 (pv 6)) (ve_neg ve_int)) (nomark _)))))) (vss_one (vs_ret ve_bl)) vss_nil)))) (vss_one vs_break)))))
      (vss_cons (vs_for PassesOwn.never rfl (vi_range1 (by rfl) T.range (va_cons ve_int va_nil)) (vg_name (i := 8) nd rfl (.inl rfl)) (vss_cons (vs_set (i := 9) nd rfl (.inl rfl) (ve_lst va_nil))
      (vss_cons (vs_for PassesOwn.never rfl (vi_range1 (by rfl) T.range (va_cons (ve_name 4 (pv 4)) va_nil)) (vg_name (i := 10) nd rfl (.inl rfl)) (vss_cons (vs_set (i := 11) nd rfl (.inl rfl) (ve_callB (c_min rfl) (by rfl) T.min (by decide +kernel) (va_cons (ve_name 5 (pv 5)) (va_cons (ve_call (c_law_pick) hr takes0' (by rfl) (va_cons (ve_name 1 (pv 1)) (va_cons ve_int va_nil))) va_nil))))
      (vss_cons (vs_set (i := 12) nd rfl (.inl rfl) (ve_callB (c_min rfl) (by rfl) T.min (by decide +kernel) (va_cons (ve_name 5 (pv 5)) (va_cons (ve_bin p_add (ve_name 11 (pv 11)) (ve_call (c_law_pick) hr takes0' (by rfl) (va_cons (ve_name 1 (pv 1)) (va_cons ve_int va_nil)))) va_nil))))
      (vss_one (vs_expr (ve_append (i := 9) (pv 9) (va_cons (ve_tup (va_cons (ve_name 11 (pv 11)) (va_cons (ve_name 12 (pv 12)) (va_cons (ve_slice (ve_ix (hu_of hr) (ve_lst (va_cons ve_str (va_cons ve_str (va_cons ve_str va_nil)))) (ve_name 10 (pv 10))) .none (.some (ve_call (c_law_pick) hr takes0' (by rfl) (va_cons (ve_name 1 (pv 1)) (va_cons ve_int va_nil))))) va_nil)))) va_nil)))))))
      (vss_one (vs_if (VW.vt (vw_and (vt_cmp p_is (ve_call (c_law_bars) hr takes0' (by rfl) (va_cons (ve_name 2 (pv 2)) (va_cons (ve_name 9 (pv 9)) va_nil))) ve_non (nomark _)) (vw_and1 (VW.vt (vw_or (vt_cmp (p_lt hr.units0) (ve_callB c_len (by rfl) T.len (by decide +kernel) (va_cons (ve_name 6 (pv 6)) va_nil)) ve_int (nomark _)) (vw_or1 (vt_cmp (p_ltQ (hu65 hr)) (ve_call (c_law_key) hr takes0' (by rfl) (va_cons (ve_name 9 (pv 9)) va_nil)) (ve_ix (hu_of hr) (ve_name 6 (pv 6)) (ve_neg ve_int)) (nomark _)))))))) (vss_one (vs_if (vt_cmp (p_notIn (hu65 hr)) (ve_call (c_law_key) hr takes0' (by rfl) (va_cons (ve_name 9 (pv 9)) va_nil)) (ve_name 6 (pv 6)) (by rfl)) (vss_one (vs_ret ve_bl)) vss_nil)) vss_nil)))))
      (vss_one (vs_ret ve_bl)))))))))) hl hS hE k
end
end Vl
set_option Elab.async false
set_option linter.all false
set_option maxRecDepth 100000
set_option maxHeartbeats 4000000
namespace Vl
open PySem PySem.Spec PyProof.Rows L2 My
structure Wds (c s t m e : Str) : Prop where
  k1 : c = "overlap" ∨ c = "same" ∨ c = "touch"
  k2 : s = "refuse" ∨ s = "earliest" ∨ s = "latest" ∨ s = "leftmost" ∨ s = "join" ∨ s = "never"
  k3 : t = "up" ∨ t = "down"
  k4 : m = "any" ∨ m = "rising"
  k5 : e = "open" ∨ e = "closed"
  k6 : ¬ (c = "touch" ∧ e = "closed")
theorem at2 {α : Type} {n : Int} (a b : α) (h0 : 0 ≤ n) (h1 : n < 2) : ∃ x, atI [a, b] n = some x ∧ (x = a ∨ x = b) := by
  have : n = 0 ∨ n = 1 := by omega
  rcases this with rfl | rfl
  · exact ⟨a, rfl, .inl rfl⟩
  · exact ⟨b, rfl, .inr rfl⟩
theorem at3 {α : Type} {n : Int} (a b c : α) (h0 : 0 ≤ n) (h1 : n < 3) : ∃ x, atI [a, b, c] n = some x ∧ (x = a ∨ x = b ∨ x = c) := by
  have : n = 0 ∨ n = 1 ∨ n = 2 := by omega
  rcases this with rfl | rfl | rfl
  · exact ⟨a, rfl, .inl rfl⟩
  · exact ⟨b, rfl, .inr (.inl rfl)⟩
  · exact ⟨c, rfl, .inr (.inr rfl)⟩
theorem at6 {α : Type} {n : Int} (a b c d e f : α) (h0 : 0 ≤ n) (h1 : n < 6) : ∃ x, atI [a, b, c, d, e, f] n = some x ∧ (x = a ∨ x = b ∨ x = c ∨ x = d ∨ x = e ∨ x = f) := by
  have : n = 0 ∨ n = 1 ∨ n = 2 ∨ n = 3 ∨ n = 4 ∨ n = 5 := by omega
  rcases this with rfl | rfl | rfl | rfl | rfl | rfl <;> simp [atI, ixN]
theorem rule_ok {b : D} (hb : GB b) : ∃ c s t m e b', m__law_rule [.own b] = .ok (.val (.tup [.str c, .str s, .str t, .str m, .str e])) [.own true b'] ∧ GB b' ∧ Wds c s t m e := by
  obtain ⟨n1, b1, e1, g1, p1, q1⟩ := pick_ok hb (lim := 3) (by decide) (by decide)
  obtain ⟨n2, b2, e2, g2, p2, q2⟩ := pick_ok g1 (lim := 6) (by decide) (by decide)
  obtain ⟨n3, b3, e3, g3, p3, q3⟩ := pick_ok g2 (lim := 2) (by decide) (by decide)
  obtain ⟨n4, b4, e4, g4, p4, q4⟩ := pick_ok g3 (lim := 2) (by decide) (by decide)
  obtain ⟨n5, b5, e5, g5, p5, q5⟩ := pick_ok g4 (lim := 2) (by decide) (by decide)
  have key : ∃ c s t m e, atI [D.str "overlap", .str "same", .str "touch"] n1 = some (.str c) ∧ atI [D.str "refuse", .str "earliest", .str "latest", .str "leftmost", .str "join", .str "never"] n2 = some (.str s) ∧
      atI [D.str "up", .str "down"] n3 = some (.str t) ∧ atI [D.str "any", .str "rising"] n4 = some (.str m) ∧ atI [D.str "open", .str "closed"] n5 = some (.str e) ∧ (c = "overlap" ∨ c = "same" ∨ c = "touch") ∧
      (s = "refuse" ∨ s = "earliest" ∨ s = "latest" ∨ s = "leftmost" ∨ s = "join" ∨ s = "never") ∧ (t = "up" ∨ t = "down") ∧ (m = "any" ∨ m = "rising") ∧ (e = "open" ∨ e = "closed") := by
    obtain ⟨x1, h1, k1⟩ := at3 (D.str "overlap") (.str "same") (.str "touch") p1 q1
    obtain ⟨x2, h2, k2⟩ := at6 (D.str "refuse") (.str "earliest") (.str "latest") (.str "leftmost") (.str "join") (.str "never") p2 q2
    obtain ⟨x3, h3, k3⟩ := at2 (D.str "up") (.str "down") p3 q3
    obtain ⟨x4, h4, k4⟩ := at2 (D.str "any") (.str "rising") p4 q4
    obtain ⟨x5, h5, k5⟩ := at2 (D.str "open") (.str "closed") p5 q5
    have f1 : ∃ c, x1 = .str c ∧ (c = "overlap" ∨ c = "same" ∨ c = "touch") := by rcases k1 with rfl | rfl | rfl <;> exact ⟨_, rfl, by simp⟩
    have f2 : ∃ s, x2 = .str s ∧ (s = "refuse" ∨ s = "earliest" ∨ s = "latest" ∨ s = "leftmost" ∨ s = "join" ∨ s = "never") := by rcases k2 with rfl | rfl | rfl | rfl | rfl | rfl <;> exact ⟨_, rfl, by simp⟩
    have f3 : ∃ c, x3 = .str c ∧ (c = "up" ∨ c = "down") := by rcases k3 with rfl | rfl <;> exact ⟨_, rfl, by simp⟩
    have f4 : ∃ c, x4 = .str c ∧ (c = "any" ∨ c = "rising") := by rcases k4 with rfl | rfl <;> exact ⟨_, rfl, by simp⟩
    have f5 : ∃ c, x5 = .str c ∧ (c = "open" ∨ c = "closed") := by rcases k5 with rfl | rfl <;> exact ⟨_, rfl, by simp⟩
    obtain ⟨c, rfl, kc⟩ := f1
    obtain ⟨s, rfl, ks⟩ := f2
    obtain ⟨t, rfl, kt⟩ := f3
    obtain ⟨m, rfl, km⟩ := f4
    obtain ⟨e, rfl, ke⟩ := f5
    exact ⟨c, s, t, m, e, h1, h2, h3, h4, h5, kc, ks, kt, km, ke⟩
  obtain ⟨c, s, t, m, e, h1, h2, h3, h4, h5, kc, ks, kt, km, ke⟩ := key
  unfold m__law_rule
  by_cases hce : c = "touch" ∧ e = "closed"
  · obtain ⟨rfl, rfl⟩ := hce
    refine ⟨"touch", s, t, m, "open", b5, ?_, g5, ⟨kc, ks, kt, km, .inl rfl, by decide⟩⟩
    clear kc ks kt km ke
    simp [fnM, fnK, startG, seqF, iteS, andB, blF, op2, op1, nameF, cF, retF, retK, settle, Res.bind, bindE, lift2, lift1, deref, setF, setK, frz1, frzA, callM, callK, evA, ixs, toArs, toAr, putOuts, outFor, outC, valsF, lstP, tupP, ixP, eqP, eqD, scD, sizeLine, e1, e2, e3, e4, e5, h1, h2, h3, h4, h5]
  · refine ⟨c, s, t, m, e, b5, ?_, g5, ⟨kc, ks, kt, km, ke, hce⟩⟩
    clear kc ks kt km ke
    by_cases hc : c = "touch"
    · have he : ¬ e = "closed" := fun z => hce ⟨hc, z⟩
      subst hc
      simp [fnM, fnK, startG, seqF, iteS, andB, blF, op2, op1, nameF, cF, retF, retK, settle, Res.bind, bindE, lift2, lift1, deref, setF, setK, frz1, frzA, callM, callK, evA, ixs, toArs, toAr, putOuts, outFor, outC, valsF, lstP, tupP, ixP, eqP, eqD, scD, sizeLine, e1, e2, e3, e4, e5, h1, h2, h3, h4, h5, he]
    · simp [fnM, fnK, startG, seqF, iteS, andB, blF, op2, op1, nameF, cF, retF, retK, settle, Res.bind, bindE, lift2, lift1, deref, setF, setK, frz1, frzA, callM, callK, evA, ixs, toArs, toAr, putOuts, outFor, outC, valsF, lstP, tupP, ixP, eqP, eqD, scD, sizeLine, e1, e2, e3, e4, e5, h1, h2, h3, h4, h5, hc]
theorem change_ok {lo hi : Int} {z : Str} (h0 : 0 ≤ lo) (h1 : lo ≤ hi) : m_Change [.val (.int lo), .val (.int hi), .val (.str z)] = .ok (.fr (.slo "Change" [some (.int lo), some (.int hi), some (.str z)])) [.val true (.int lo), .val true (.int hi), .val true (.str z)] := by
  unfold m_Change m_Change_init r_Change_init
  simp [fnM, fnK, startG, seqF, iteS, andB, orB, notB, blF, truF, truth, op2, op1, nameF, cF, retF, retK, ifF, andV, orV, notF, settle, Res.bind, bindE, lift2, lift1, deref, derefA, setF, setK, exprF, appF, asgF, tgF, tgsF, frz1, frzA, callM, callF, callK, evA, ixs, toArs, toAr, putOuts_eq, putSl_nil, putSl_v, putSl_ne, putSl_at, putSl_val, putSl_un, outC, valsF, lstP, tupP, ixP, atI, ixN, eqP, neP, eqD_int, eqD_str, eqD_bl, ltP, leP, gtP, geP, addP, subP, lenP, maxP, minP, chB, sizeLine, methM, methC, methK, pickM, callKw, kwK, pickL, setA, putD, putO, fldP, mkM, dflM, isiP, tyN, h0, h1]
theorem are_words_ok {c s t m e : Str} (w : Wds c s t m e) : m_are_words [.own (.lst [.str c, .str s, .str t, .str m, .str e])] = .ok (.val (.bl true)) [.val true (.lst [.str c, .str s, .str t, .str m, .str e])] := by
  have n1 : notInP (.str c) (.tup [.str "overlap", .str "same", .str "touch"]) = some (.val (.bl false)) := by rcases w.k1 with rfl | rfl | rfl <;> rfl
  have n2 : notInP (.str s) (.tup [.str "refuse", .str "earliest", .str "latest", .str "leftmost", .str "join", .str "never"]) = some (.val (.bl false)) := by rcases w.k2 with rfl | rfl | rfl | rfl | rfl | rfl <;> rfl
  have n3 : notInP (.str t) (.tup [.str "up", .str "down"]) = some (.val (.bl false)) := by rcases w.k3 with rfl | rfl <;> rfl
  have n4 : notInP (.str m) (.tup [.str "any", .str "rising"]) = some (.val (.bl false)) := by rcases w.k4 with rfl | rfl <;> rfl
  have n5 : notInP (.str e) (.tup [.str "open", .str "closed"]) = some (.val (.bl false)) := by rcases w.k5 with rfl | rfl <;> rfl
  have k6 := w.k6
  clear w
  unfold m_are_words
  by_cases hc : c = "touch"
  · have he : ¬ e = "closed" := fun z => k6 ⟨hc, z⟩
    subst hc
    simp [fnM, fnK, startG, seqF, iteS, andB, orB, notB, blF, truF, truth, op2, op1, nameF, cF, retF, retK, ifF, andV, orV, notF, settle, Res.bind, bindE, lift2, lift1, deref, derefA, setF, setK, exprF, appF, asgF, tgF, tgsF, frz1, frzA, callM, callF, callK, evA, ixs, toArs, toAr, putOuts_eq, putSl_nil, putSl_v, putSl_ne, putSl_at, putSl_val, putSl_un, outC, valsF, lstP, tupP, ixP, atI, ixN, eqP, neP, eqD_int, eqD_str, eqD_bl, ltP, leP, gtP, geP, addP, subP, lenP, maxP, minP, chB, sizeLine, methM, methC, methK, pickM, callKw, kwK, pickL, setA, putD, putO, fldP, mkM, dflM, isiP, tyN, argsI, forF, loopF, b_are_words_0, zipOf2, zipD, n1, n2, n3, n4, n5, he]
  · simp [fnM, fnK, startG, seqF, iteS, andB, orB, notB, blF, truF, truth, op2, op1, nameF, cF, retF, retK, ifF, andV, orV, notF, settle, Res.bind, bindE, lift2, lift1, deref, derefA, setF, setK, exprF, appF, asgF, tgF, tgsF, frz1, frzA, callM, callF, callK, evA, ixs, toArs, toAr, putOuts_eq, putSl_nil, putSl_v, putSl_ne, putSl_at, putSl_val, putSl_un, outC, valsF, lstP, tupP, ixP, atI, ixN, eqP, neP, eqD_int, eqD_str, eqD_bl, ltP, leP, gtP, geP, addP, subP, lenP, maxP, minP, chB, sizeLine, methM, methC, methK, pickM, callKw, kwK, pickL, setA, putD, putO, fldP, mkM, dflM, isiP, tyN, argsI, forF, loopF, b_are_words_0, zipOf2, zipD, n1, n2, n3, n4, n5, hc]
abbrev ruleD (c s t m e : Str) : D := .ins "Rule" [("clash", .str c), ("settle", .str s), ("ties", .str t), ("comes", .str m), ("ends", .str e)]
theorem rule_made {c s t m e : Str} (w : Wds c s t m e) : ∃ outs, x_Rule [.val (.str c), .val (.str s), .val (.str t), .val (.str m), .val (.str e)] = .ok (.fr (ruleD c s t m e)) outs := by
  have h := are_words_ok w
  clear w
  unfold x_Rule m_Rule_init
  exact ⟨_, by simp [fnM, fnK, startG, seqF, iteS, andB, orB, notB, blF, truF, truth, op2, op1, nameF, cF, retF, retK, ifF, andV, orV, notF, settle, Res.bind, bindE, lift2, lift1, deref, derefA, setF, setK, exprF, appF, asgF, tgF, tgsF, frz1, frzA, callM, callF, callK, evA, ixs, toArs, toAr, putOuts_eq, putSl_nil, putSl_v, putSl_ne, putSl_at, putSl_val, putSl_un, outC, valsF, lstP, tupP, ixP, atI, ixN, eqP, neP, eqD_int, eqD_str, eqD_bl, ltP, leP, gtP, geP, addP, subP, lenP, maxP, minP, chB, sizeLine, methM, methC, methK, pickM, callKw, kwK, pickL, setA, putD, putO, fldP, mkM, dflM, isiP, tyN, h]; rfl⟩
abbrev chD (a b : Int) (z : Str) : D := .slo "Change" [some (.int a), some (.int b), some (.str z)]
def clashB (w : Str) (a b c d : Int) : Bool := if w = "touch" then decide (a ≤ d) && decide (c ≤ b) else (decide (a < d) && decide (c < b)) || (decide (w = "same") && decide (a = c))
abbrev row3 (q : Int × Int × Str) : D := .tup [.int q.1, .int q.2.1, .str q.2.2]
theorem clash_ok (w : Str) (p q : Int × Int × Str) : m__law_clash [.val (.str w), .val (row3 p), .val (row3 q)] = .ok (.val (.bl (clashB w p.1 p.2.1 q.1 q.2.1))) [.val true (.str w), .val true (row3 p), .val true (row3 q)] := by
  obtain ⟨a, b, y⟩ := p
  obtain ⟨c, d, z⟩ := q
  unfold m__law_clash clashB
  by_cases hw : w = "touch"
  · by_cases h1 : a ≤ d <;> by_cases h2 : c ≤ b <;> simp [fnM, fnK, startG, seqF, iteS, andB, orB, notB, blF, truF, truth, op2, op1, nameF, cF, retF, retK, ifF, andV, orV, notF, settle, Res.bind, bindE, lift2, lift1, deref, derefA, setF, setK, exprF, appF, asgF, tgF, tgsF, frz1, frzA, callM, callF, callK, evA, ixs, toArs, toAr, putOuts_eq, putSl_nil, putSl_v, putSl_ne, putSl_at, putSl_val, putSl_un, outC, valsF, lstP, tupP, ixP, atI, ixN, eqP, neP, eqD_int, eqD_str, eqD_bl, ltP, leP, gtP, geP, addP, subP, lenP, maxP, minP, chB, sizeLine, methM, methC, methK, pickM, callKw, kwK, pickL, setA, putD, putO, fldP, mkM, dflM, isiP, tyN, hw, h1, h2]
  · by_cases h1 : a < d <;> by_cases h2 : c < b <;> by_cases hs : w = "same" <;> simp (decide := true) [fnM, fnK, startG, seqF, iteS, andB, orB, notB, blF, truF, truth, op2, op1, nameF, cF, retF, retK, ifF, andV, orV, notF, settle, Res.bind, bindE, lift2, lift1, deref, derefA, setF, setK, exprF, appF, asgF, tgF, tgsF, frz1, frzA, callM, callF, callK, evA, ixs, toArs, toAr, putOuts_eq, putSl_nil, putSl_v, putSl_ne, putSl_at, putSl_val, putSl_un, outC, valsF, lstP, tupP, ixP, atI, ixN, eqP, neP, eqD_int, eqD_str, eqD_bl, ltP, leP, gtP, geP, addP, subP, lenP, maxP, minP, chB, sizeLine, methM, methC, methK, pickM, callKw, kwK, pickL, setA, putD, putO, fldP, mkM, dflM, isiP, tyN, hw, h1, h2, hs]
abbrev chOf (q : Int × Int × Str) : D := chD q.1 q.2.1 q.2.2
def rowAt (rows : List (Int × Int × Str)) (j : Nat) : Int × Int × Str := (rows[j]?).getD (0, 0, "")
theorem clash_sym (w : Str) (a b c d : Int) : clashB w a b c d = clashB w c d a b := by
  unfold clashB
  rw [Bool.and_comm (decide (a ≤ d)), Bool.and_comm (decide (a < d))]
  simp only [eq_comm]
theorem blsD_map : ∀ ks : List Bool, blsD (ks.map D.bl) = some ks
  | [] => rfl
  | a :: r => by simp [blsD, blsD_map r]
abbrev wordsD (c s t m e : Str) : D := .tup [.str c, .str s, .str t, .str m, .str e]
theorem range_of {n : Nat} (h : n ≤ 100000) : rangeOf1 [.int (n : Int)] = some ((List.range n).map fun j => D.int (j : Nat)) := by
  have hc : decide (-(2 ^ 62 : Int) ≤ (n : Int) ∧ (n : Int) < 2 ^ 62) = true := decide_eq_true ⟨by omega, by omega⟩
  simp only [rangeOf1]
  rw [if_pos hc]
  simp [rangeD]
theorem len_of {xs : List D} {n : Nat} (h : xs.length = n) (hn : n ≤ 100000) : lenP [.lst xs] = some (.val (.int (n : Int))) := by
  subst h
  rfl
theorem argsI_of {k : List D → Option (List D)} {fs : List Ft} {g g1 g2 : Sg} {xs : List RV} {ds es : List D} (h1 : evA fs g = .ok xs g1) (h2 : frzA xs g1 = some (ds, g2)) (h3 : k ds = some es) : argsI k fs g = .ok es g2 := by
  unfold argsI
  rw [h1]
  simp only [Res.bind, h2, h3]
theorem forF_of {fi : Fi} {t : Tg} {body : Fs} {g g1 : Sg} {ds : List D} (h : fi g = .ok ds g1) : forF fi t body g = loopF t body ds g1 := by
  unfold forF
  rw [h]
  rfl
theorem evA1 {f : Ft} {g g1 : Sg} {d : D} (h : f g = .ok (.val d) g1) : evA [f] g = .ok [.val d] g1 := by
  simp only [evA, h, settle, Res.bind]
abbrev Row := Int × Int × Str
theorem callFo {p : List D → Option RV} {i : Nat} {g : Sg} {t : Bool} {d : D} {r : RV} (h1 : g[i]? = some (.own t d)) (h2 : p [d] = some r) : callF p [nameF i] g = .ok r g := by
  simp only [callF, evA, nameF, h1, settle, Res.bind, derefA, deref, Option.bind_some, Option.map_some, h2]
theorem rows_at {rows : List Row} {j : Nat} (h : j < rows.length) : rowAt rows j = rows[j] := by simp [rowAt, List.getElem?_eq_getElem h]
theorem row_ix {rows : List Row} {j : Nat} (h : j < rows.length) : ixP (.lst (rows.map row3)) (.int (j : Nat)) = some (.val (row3 (rowAt rows j))) := by
  have := atI_lit (xs := rows.map row3) (i := ((j : Nat) : Int)) (x := row3 rows[j]) (by omega) (by rw [List.getElem?_map]; simp [List.getElem?_eq_getElem h])
  rw [rows_at h]
  simp only [ixP, this]
  rfl
theorem enum_rows (rows : List (Int × Int × Str)) : enumD (rows.map chOf) = (List.range rows.length).map fun j => .tup [.int (j : Nat), chOf (rowAt rows j)] := by
  apply List.ext_getElem?
  intro j
  unfold enumD
  rw [List.getElem?_mapIdx, List.getElem?_map, List.getElem?_map]
  by_cases h : j < rows.length
  · rw [List.getElem?_eq_getElem h, List.getElem?_range h]
    simp [rowAt, List.getElem?_eq_getElem h]
  · rw [List.getElem?_eq_none (by omega), List.getElem?_eq_none (by simp; omega)]
    rfl
def r4 (t : Str) (rows : List Row) (j : Nat) : List Int := [(rowAt rows j).1, (rowAt rows j).2.1, (if t = "down" then -(j : Int) else (j : Int)), (j : Int)]
def f4 (w : Int) (rows : List Row) : D → D
  | .int j => .tup [.int (rowAt rows j.toNat).1, .int (rowAt rows j.toNat).2.1, .int (w * j), .int j]
  | d => d
def Arg (rows : List D) (a : Ar) (sl : Sl) : Prop := (a = .own (.lst rows) ∧ sl = .own true (.lst rows)) ∨ (a = .val (.lst rows) ∧ sl = .val true (.lst rows))
theorem find_congr {f g : Nat → Bool} : ∀ {l : List Nat}, (∀ x ∈ l, f x = g x) → l.find? f = l.find? g
  | [], _ => rfl
  | x :: l, h => by
    rw [List.find?_cons, List.find?_cons, h x (.head _), find_congr fun y hy => h y (.tail _ hy)]
def Be (rows : List Row) : Prop := ∀ q ∈ rows, q.1 ≤ q.2.1
theorem Be.at_ {rows : List Row} (h : Be rows) {j : Nat} (hj : j < rows.length) : (rowAt rows j).1 ≤ (rowAt rows j).2.1 := by
  rw [rows_at hj]
  exact h _ (List.getElem_mem hj)
def meets (c : Str) (rows : List Row) (acc : List Nat) (k : Nat) : Bool := acc.any fun o => clashB c (rowAt rows k).1 (rowAt rows k).2.1 (rowAt rows o).1 (rowAt rows o).2.1
def gstep (c : Str) (rows : List Row) (acc : List Nat) (k : Nat) : List Nat := if meets c rows acc k = true then acc else acc ++ [k]
def cl (c : Str) (rows : List Row) (a b : Nat) : Bool := clashB c (rowAt rows a).1 (rowAt rows a).2.1 (rowAt rows b).1 (rowAt rows b).2.1
theorem cl_sym (c : Str) (rows : List Row) (a b : Nat) : cl c rows a b = cl c rows b a := clash_sym c _ _ _ _
structure GF (c : Str) (rows : List Row) (pre acc : List Nat) : Prop where
  sub : ∀ k ∈ acc, k ∈ pre
  nd : acc.Nodup
  no : ∀ a ∈ acc, ∀ b ∈ acc, a ≠ b → cl c rows a b = false
  out : ∀ k ∈ pre, k ∉ acc → ∃ o ∈ acc, cl c rows k o = true ∧ ∃ i j : Nat, i < j ∧ pre[i]? = some o ∧ pre[j]? = some k
theorem GF.step {c : Str} {rows : List Row} {pre acc : List Nat} {k : Nat} (h : GF c rows pre acc) (hk : k ∉ pre) : GF c rows (pre ++ [k]) (gstep c rows acc k) := by
  have hka : k ∉ acc := fun q => hk (h.sub k q)
  have old : ∀ x ∈ pre, x ∉ acc → ∃ o ∈ acc, cl c rows x o = true ∧ ∃ i j : Nat, i < j ∧ (pre ++ [k])[i]? = some o ∧ (pre ++ [k])[j]? = some x := fun x hx hn => by
    obtain ⟨o, ho, ck, i, j, ij, hi, hj⟩ := h.out x hx hn
    have li := (List.getElem?_eq_some_iff.mp hi).1
    have lj := (List.getElem?_eq_some_iff.mp hj).1
    exact ⟨o, ho, ck, i, j, ij, by rw [List.getElem?_append_left li]; exact hi, by rw [List.getElem?_append_left lj]; exact hj⟩
  unfold gstep
  by_cases m : meets c rows acc k = true
  · rw [if_pos m]
    refine ⟨fun x hx => List.mem_append.mpr (.inl (h.sub x hx)), h.nd, h.no, fun x hx hn => ?_⟩
    rcases List.mem_append.mp hx with hx | hx
    · exact old x hx hn
    · rw [List.mem_singleton] at hx
      subst hx
      unfold meets at m
      obtain ⟨o, ho, ck⟩ := List.any_eq_true.mp m
      obtain ⟨i, hi⟩ := List.getElem?_of_mem (h.sub o ho)
      have li := (List.getElem?_eq_some_iff.mp hi).1
      exact ⟨o, ho, ck, i, pre.length, li, by rw [List.getElem?_append_left li]; exact hi, by simp⟩
  · rw [if_neg m]
    have mm : ∀ o ∈ acc, cl c rows k o = false := fun o ho => by
      have m : meets c rows acc k = false := by simpa using m
      unfold meets at m
      have := List.any_eq_false.mp m o ho
      simpa [cl] using this
    refine ⟨fun x hx => ?_, ?_, fun a ha b hb ab => ?_, fun x hx hn => ?_⟩
    · rcases List.mem_append.mp hx with hx | hx
      · exact List.mem_append.mpr (.inl (h.sub x hx))
      · exact List.mem_append.mpr (.inr hx)
    · rw [List.nodup_append]
      refine ⟨h.nd, by simp, fun a ha b hb e => ?_⟩
      rw [List.mem_singleton] at hb
      subst hb e
      exact hka ha
    · rcases List.mem_append.mp ha with h1 | h1
      · rcases List.mem_append.mp hb with h2 | h2
        · exact h.no a h1 b h2 ab
        · rw [List.mem_singleton] at h2
          rw [h2, cl_sym]
          exact mm a h1
      · rw [List.mem_singleton] at h1
        rw [h1]
        rcases List.mem_append.mp hb with h2 | h2
        · exact mm b h2
        · rw [List.mem_singleton] at h2
          exact absurd (h1.trans h2.symm) ab
    · rcases List.mem_append.mp hx with hx | hx
      · obtain ⟨o, ho, r⟩ := old x hx fun q => hn (List.mem_append.mpr (.inl q))
        exact ⟨o, List.mem_append.mpr (.inl ho), r⟩
      · exact absurd (List.mem_append.mpr (.inr hx)) hn
end Vl
set_option Elab.async false
set_option linter.all false
set_option maxRecDepth 100000
set_option maxHeartbeats 4000000
namespace Vl
open PySem PySem.Spec PyProof.Rows L2 My
def due (w : Str) (a b c d : Int) : Bool := if (decide (a < d) && decide (c < b)) = true then true else if w = "touch" then decide (a ≤ d) && decide (c ≤ b) else if w = "same" then decide (a = c) else false
theorem due_clash (w : Str) (a b c d : Int) (h1 : a ≤ b) (h2 : c ≤ d) : due w a b c d = clashB w a b c d := by
  have sm : ¬ (("same" : Str) = "touch") := by decide
  unfold due clashB
  by_cases hw : w = "touch"
  · by_cases p : a < d <;> by_cases q : c < b <;> simp [hw, p, q] <;> omega
  · by_cases hs : w = "same" <;> by_cases p : a < d <;> by_cases q : c < b <;> simp [hw, hs, p, q, sm]
theorem g_overlap_v (a b c d : Int) (y z : Str) : m_overlap [.val (chD a b y), .val (chD c d z)] = .ok (.val (.bl (decide (a < d) && decide (c < b)))) [.val true (chD a b y), .val true (chD c d z)] := by
  unfold m_overlap
  by_cases h1 : a < d <;> by_cases h2 : c < b <;> simp [fnM, fnK, startG, seqF, iteS, andB, orB, notB, blF, truF, truth, op2, op1, nameF, cF, retF, retK, ifF, andV, orV, notF, settle, Res.bind, bindE, lift2, lift1, deref, derefA, setF, setK, exprF, appF, asgF, tgF, tgsF, frz1, frzA, callM, callF, callK, evA, ixs, toArs, toAr, putOuts_eq, putSl_nil, putSl_v, putSl_ne, putSl_at, putSl_val, putSl_un, outC, valsF, lstP, tupP, ixP, atI, ixN, eqP, neP, eqD_int, eqD_str, eqD_bl, ltP, leP, gtP, geP, addP, subP, lenP, maxP, minP, chB, sizeLine, methM, methC, methK, pickM, callKw, kwK, pickL, setA, putD, putO, fldP, mkM, dflM, isiP, tyN, h1, h2]
theorem g_clashes_v (w s t m e : Str) (a b c d : Int) (y z : Str) : m_Rule_clashes [.val (ruleD w s t m e), .val (chD a b y), .val (chD c d z)] = .ok (.val (.bl (due w a b c d))) [.val true (ruleD w s t m e), .val true (chD a b y), .val true (chD c d z)] := by
  unfold m_Rule_clashes due
  have h := g_overlap_v a b c d y z
  revert h
  generalize (decide (a < d) && decide (c < b)) = k
  intro h
  have st : ¬ (("same" : Str) = "touch") := by decide
  cases k with
  | true => simp [fnM, fnK, startG, seqF, iteS, andB, orB, notB, blF, truF, truth, op2, op1, nameF, cF, retF, retK, ifF, andV, orV, notF, settle, Res.bind, bindE, lift2, lift1, deref, derefA, setF, setK, exprF, appF, asgF, tgF, tgsF, frz1, frzA, callM, callF, callK, evA, ixs, toArs, toAr, putOuts_eq, putSl_nil, putSl_v, putSl_ne, putSl_at, putSl_val, putSl_un, outC, valsF, lstP, tupP, ixP, atI, ixN, eqP, neP, eqD_int, eqD_str, eqD_bl, ltP, leP, gtP, geP, addP, subP, lenP, maxP, minP, chB, sizeLine, methM, methC, methK, pickM, callKw, kwK, pickL, setA, putD, putO, fldP, mkM, dflM, isiP, tyN, h]
  | false =>
    by_cases hw : w = "touch"
    · by_cases h1 : a ≤ d <;> by_cases h2 : c ≤ b <;> simp [fnM, fnK, startG, seqF, iteS, andB, orB, notB, blF, truF, truth, op2, op1, nameF, cF, retF, retK, ifF, andV, orV, notF, settle, Res.bind, bindE, lift2, lift1, deref, derefA, setF, setK, exprF, appF, asgF, tgF, tgsF, frz1, frzA, callM, callF, callK, evA, ixs, toArs, toAr, putOuts_eq, putSl_nil, putSl_v, putSl_ne, putSl_at, putSl_val, putSl_un, outC, valsF, lstP, tupP, ixP, atI, ixN, eqP, neP, eqD_int, eqD_str, eqD_bl, ltP, leP, gtP, geP, addP, subP, lenP, maxP, minP, chB, sizeLine, methM, methC, methK, pickM, callKw, kwK, pickL, setA, putD, putO, fldP, mkM, dflM, isiP, tyN, h, hw, h1, h2]
    · by_cases hs : w = "same" <;> simp [fnM, fnK, startG, seqF, iteS, andB, orB, notB, blF, truF, truth, op2, op1, nameF, cF, retF, retK, ifF, andV, orV, notF, settle, Res.bind, bindE, lift2, lift1, deref, derefA, setF, setK, exprF, appF, asgF, tgF, tgsF, frz1, frzA, callM, callF, callK, evA, ixs, toArs, toAr, putOuts_eq, putSl_nil, putSl_v, putSl_ne, putSl_at, putSl_val, putSl_un, outC, valsF, lstP, tupP, ixP, atI, ixN, eqP, neP, eqD_int, eqD_str, eqD_bl, ltP, leP, gtP, geP, addP, subP, lenP, maxP, minP, chB, sizeLine, methM, methC, methK, pickM, callKw, kwK, pickL, setA, putD, putO, fldP, mkM, dflM, isiP, tyN, h, hw, hs, st]
theorem enum_paired : ∀ (xs : List D) (f : Nat → Int), Paired (fun d x => ∃ i : Int, d = .tup [.int i, x]) (xs.mapIdx fun i x => D.tup [.int (f i), x]) xs
  | [], f => by simp; exact .nil
  | x :: r, f => by
    rw [List.mapIdx_cons]
    exact .cons ⟨_, rfl⟩ (enum_paired r fun i => f (i + 1))
theorem g_met_loop (w s t m e : Str) (p : Int × Int × Str) (v2 : Sl) : ∀ (qs : List (Int × Int × Str)) (ds : List D) (s3 s4 : Sl), Paired (fun d x => ∃ i : Int, d = .tup [.int i, x]) ds (qs.map chOf) →
    ((qs.any fun q => due w p.1 p.2.1 q.1 q.2.1) = false ∧ ∃ s3' s4', loopF (.tup [.name 3, .name 4]) b_Rule_met_by_0 ds [.val true (ruleD w s t m e), .val true (chOf p), v2, s3, s4] = .nx [.val true (ruleD w s t m e), .val true (chOf p), v2, s3', s4']) ∨
    ((qs.any fun q => due w p.1 p.2.1 q.1 q.2.1) = true ∧ ∃ (i : Int) (s3' s4' : Sl), loopF (.tup [.name 3, .name 4]) b_Rule_met_by_0 ds [.val true (ruleD w s t m e), .val true (chOf p), v2, s3, s4] = .rt (.val (.int i)) [.val true (ruleD w s t m e), .val true (chOf p), v2, s3', s4'])
  | [], _, s3, s4, .nil => .inl ⟨rfl, s3, s4, rfl⟩
  | q :: qs, _, s3, s4, .cons ⟨i, ei⟩ tl => by
    subst ei
    have ck := g_clashes_v w s t m e p.1 p.2.1 q.1 q.2.1 p.2.2 q.2.2
    have tg : tgF (.tup [.name 3, .name 4]) (.tup [.int i, chOf q]) [.val true (ruleD w s t m e), .val true (chOf p), v2, s3, s4] = some [.val true (ruleD w s t m e), .val true (chOf p), v2, .val false (.int i), .val false (chOf q)] := by simp [tgF, tgsF]
    have pk : pickM "clashes" ms_clashes (ruleD w s t m e) = some m_Rule_clashes := rfl
    cases hd : due w p.1 p.2.1 q.1 q.2.1 with
    | true =>
      refine .inr ⟨by simp [hd], i, .val false (.int i), .val false (chOf q), ?_⟩
      rw [hd] at ck
      unfold loopF
      rw [tg]
      have bd : b_Rule_met_by_0 [.val true (ruleD w s t m e), .val true (chOf p), v2, .val false (.int i), .val false (chOf q)] = .rt (.val (.int i)) [.val true (ruleD w s t m e), .val true (chOf p), v2, .val false (.int i), .val false (chOf q)] := by
        unfold b_Rule_met_by_0
        generalize ruleD w s t m e = R at ck pk
        simp [iteS, truF, truth, nameF, retF, retK, settle, Res.bind, bindE, deref, methM, methC, methK, pk, evA, callK, ixs, toArs, toAr, putOuts_eq, putSl_nil, putSl_v, putSl_ne, putSl_at, putSl_val, putSl_un, outC, ck]
      simp only [bd]
    | false =>
      rw [hd] at ck
      have bd : b_Rule_met_by_0 [.val true (ruleD w s t m e), .val true (chOf p), v2, .val false (.int i), .val false (chOf q)] = .nx [.val true (ruleD w s t m e), .val true (chOf p), v2, .val false (.int i), .val false (chOf q)] := by
        unfold b_Rule_met_by_0
        generalize ruleD w s t m e = R at ck pk
        simp [iteS, truF, truth, nameF, retF, retK, settle, Res.bind, bindE, deref, methM, methC, methK, pk, evA, callK, ixs, toArs, toAr, putOuts_eq, putSl_nil, putSl_v, putSl_ne, putSl_at, putSl_val, putSl_un, outC, ck]
      rcases g_met_loop w s t m e p v2 qs _ (.val false (.int i)) (.val false (chOf q)) tl with ⟨h1, a, b, h2⟩ | ⟨h1, j, a, b, h2⟩
      · refine .inl ⟨by simp [hd, h1], a, b, ?_⟩
        unfold loopF
        rw [tg]
        simp only [bd, h2]
      · refine .inr ⟨by simp [hd, h1], j, a, b, ?_⟩
        unfold loopF
        rw [tg]
        simp only [bd, h2]
theorem g_met_ok (w s t m e : Str) (p : Int × Int × Str) (qs : List (Int × Int × Str)) : ∃ r, m_Rule_met_by [.val (ruleD w s t m e), .val (chOf p), .val (.lst (qs.map chOf))] = .ok (.val r) [.val true (ruleD w s t m e), .val true (chOf p), .val true (.lst (qs.map chOf))] ∧ known r = true ∧ isN r = !(qs.any fun q => due w p.1 p.2.1 q.1 q.2.1) := by
  have en : enumOf [.lst (qs.map chOf)] = some (enumD (qs.map chOf)) := rfl
  have lp := g_met_loop w s t m e p (.val true (.lst (qs.map chOf))) qs (enumD (qs.map chOf)) .un .un (enum_paired (qs.map chOf) fun i => (i : Nat))
  unfold m_Rule_met_by
  generalize ruleD w s t m e = R at lp ⊢
  generalize hQ : qs.map chOf = Q at lp en ⊢
  generalize enumD Q = E at lp en
  rcases lp with ⟨h, a, b, lp⟩ | ⟨h, i, a, b, lp⟩
  · exact ⟨.non, by simp [fnM, fnK, startG, seqF, iteS, andB, orB, notB, blF, truF, truth, op2, op1, nameF, cF, retF, retK, ifF, andV, orV, notF, settle, Res.bind, bindE, lift2, lift1, deref, derefA, setF, setK, exprF, appF, asgF, tgF, tgsF, frz1, frzA, callM, callF, callK, evA, ixs, toArs, toAr, putOuts_eq, putSl_nil, putSl_v, putSl_ne, putSl_at, putSl_val, putSl_un, outC, valsF, lstP, tupP, eqP, neP, eqD_int, eqD_str, eqD_bl, ltP, leP, gtP, geP, addP, subP, lenP, maxP, minP, chB, sizeLine, methM, methC, methK, pickM, callKw, kwK, pickL, setA, putD, putO, fldP, mkM, dflM, isiP, tyN, argsI, forF, en, lp], rfl, by rw [h]; rfl⟩
  · exact ⟨.int i, by simp [fnM, fnK, startG, seqF, iteS, andB, orB, notB, blF, truF, truth, op2, op1, nameF, cF, retF, retK, ifF, andV, orV, notF, settle, Res.bind, bindE, lift2, lift1, deref, derefA, setF, setK, exprF, appF, asgF, tgF, tgsF, frz1, frzA, callM, callF, callK, evA, ixs, toArs, toAr, putOuts_eq, putSl_nil, putSl_v, putSl_ne, putSl_at, putSl_val, putSl_un, outC, valsF, lstP, tupP, eqP, neP, eqD_int, eqD_str, eqD_bl, ltP, leP, gtP, geP, addP, subP, lenP, maxP, minP, chB, sizeLine, methM, methC, methK, pickM, callKw, kwK, pickL, setA, putD, putO, fldP, mkM, dflM, isiP, tyN, argsI, forF, en, lp], rfl, by rw [h]; rfl⟩
def t1 (e : Str) (q : Int × Int × Str) : Bool := decide (e = "closed") && decide (q.1 = q.2.1)
def t2 (m : Str) (rows : List (Int × Int × Str)) (i : Nat) (q : Int × Int × Str) : Bool := decide (m = "rising") && (decide (0 < i) && decide (q.1 < ((rows[i - 1]?).getD (0, 0, "")).1))
def t3 (c s : Str) (rows : List (Int × Int × Str)) (i : Nat) (q : Int × Int × Str) : Bool := decide (s = "never") && ((rows.take i).any fun r => due c q.1 q.2.1 r.1 r.2.1)
def barB (c s m e : Str) (rows : List (Int × Int × Str)) (i : Nat) (q : Int × Int × Str) : Bool := t1 e q || (t2 m rows i q || t3 c s rows i q)
theorem g_bars_body (c s t m e : Str) {rows : List (Int × Int × Str)} {i : Nat} {q : Int × Int × Str} (hi : i < rows.length) (hl : rows.length ≤ 1000) :
    b_Rule_bars_0 [.val true (ruleD c s t m e), .val true (.lst (rows.map chOf)), .val false (.int i), .val false (chOf q)] =
      if barB c s m e rows i q = true then .rt (.val (.int i)) [.val true (ruleD c s t m e), .val true (.lst (rows.map chOf)), .val false (.int i), .val false (chOf q)] else .nx [.val true (ruleD c s t m e), .val true (.lst (rows.map chOf)), .val false (.int i), .val false (chOf q)] := by
  obtain ⟨r, e1, kr, nr⟩ := g_met_ok c s t m e q (rows.take i)
  have f1 : fldP "ends" [("Rule", none)] (ruleD c s t m e) = some (.val (.str e)) := rfl
  have f2 : fldP "comes" [("Rule", none)] (ruleD c s t m e) = some (.val (.str m)) := rfl
  have f3 : fldP "settle" [("Rule", none)] (ruleD c s t m e) = some (.val (.str s)) := rfl
  have f4 : ∀ q, fldP "begin" [("Change", some 0)] (chOf q) = some (.val (.int q.1)) := fun _ => rfl
  have f5 : ∀ q, fldP "end" [("Change", some 1)] (chOf q) = some (.val (.int q.2.1)) := fun _ => rfl
  have pk : pickM "met_by" ms_met_by (ruleD c s t m e) = some m_Rule_met_by := rfl
  have cut : cutD (rows.map chOf) none (some (i : Int)) = (rows.take i).map chOf := by
    unfold cutD
    rw [HT.sIx_nat, HT.sIx_none]
    simp
  have prev : 0 < i → ∃ w, ixP (.lst (rows.map chOf)) (.int ((i : Int) - 1)) = some (.val (chOf w)) ∧ (rows[i - 1]?).getD (0, 0, "") = w := fun h0 => by
    have hj : i - 1 < rows.length := by omega
    have e : ((i : Int) - 1).toNat = i - 1 := by omega
    have := atI_lit (xs := rows.map chOf) (i := (i : Int) - 1) (x := chOf rows[i - 1]) (by omega) (by rw [e, List.getElem?_map, List.getElem?_eq_getElem hj]; rfl)
    exact ⟨rows[i - 1], by simp only [ixP, this]; rfl, by rw [List.getElem?_eq_getElem hj]; rfl⟩
  have g4 := f4 q
  have g5 := f5 q
  generalize hM : (rows.take i).map chOf = M at e1 cut
  generalize hR : ruleD c s t m e = R at e1 f1 f2 f3 pk ⊢
  generalize hA : rows.map chOf = A at cut prev ⊢
  generalize hC : chOf q = C at e1 g4 g5 ⊢
  unfold b_Rule_bars_0 barB
  cases h1 : t1 e q with
  | true =>
    have hh : e = "closed" ∧ q.1 = q.2.1 := by simpa [t1] using h1
    simp [fnM, fnK, startG, seqF, iteS, andB, orB, notB, blF, truF, truth, op2, op1, nameF, cF, retF, retK, ifF, andV, orV, notF, settle, Res.bind, bindE, lift2, lift1, deref, derefA, setF, setK, exprF, appF, asgF, tgF, tgsF, frz1, frzA, callM, callF, callK, evA, ixs, toArs, toAr, putOuts_eq, putSl_nil, putSl_v, putSl_ne, putSl_at, putSl_val, putSl_un, outC, valsF, lstP, tupP, eqP, neP, eqD_int, eqD_str, eqD_bl, ltP, leP, gtP, geP, addP, subP, lenP, maxP, minP, chB, sizeLine, methM, methC, methK, callKw, kwK, setA, putD, putO, mkM, dflM, isiP, tyN, f1, g4, g5, hh.1, hh.2]
  | false =>
    rw [seqF_nx (g1 := [.val true R, .val true (.lst A), .val false (.int i), .val false C]) (by
      by_cases he : e = "closed"
      · have hn : ¬ q.1 = q.2.1 := fun k => by simp [t1, he, k] at h1
        simp [fnM, fnK, startG, seqF, iteS, andB, orB, notB, blF, truF, truth, op2, op1, nameF, cF, retF, retK, ifF, andV, orV, notF, settle, Res.bind, bindE, lift2, lift1, deref, derefA, setF, setK, exprF, appF, asgF, tgF, tgsF, frz1, frzA, callM, callF, callK, evA, ixs, toArs, toAr, putOuts_eq, putSl_nil, putSl_v, putSl_ne, putSl_at, putSl_val, putSl_un, outC, valsF, lstP, tupP, eqP, neP, eqD_int, eqD_str, eqD_bl, ltP, leP, gtP, geP, addP, subP, lenP, maxP, minP, chB, sizeLine, methM, methC, methK, callKw, kwK, setA, putD, putO, mkM, dflM, isiP, tyN, f1, g4, g5, he, hn]
      · simp [fnM, fnK, startG, seqF, iteS, andB, orB, notB, blF, truF, truth, op2, op1, nameF, cF, retF, retK, ifF, andV, orV, notF, settle, Res.bind, bindE, lift2, lift1, deref, derefA, setF, setK, exprF, appF, asgF, tgF, tgsF, frz1, frzA, callM, callF, callK, evA, ixs, toArs, toAr, putOuts_eq, putSl_nil, putSl_v, putSl_ne, putSl_at, putSl_val, putSl_un, outC, valsF, lstP, tupP, eqP, neP, eqD_int, eqD_str, eqD_bl, ltP, leP, gtP, geP, addP, subP, lenP, maxP, minP, chB, sizeLine, methM, methC, methK, callKw, kwK, setA, putD, putO, mkM, dflM, isiP, tyN, f1, he])]
    cases h2 : t2 m rows i q with
    | true =>
      simp only [t2, Bool.and_eq_true, decide_eq_true_eq] at h2
      obtain ⟨hm, h0, hlt⟩ := h2
      obtain ⟨w, p1, p2⟩ := prev h0
      rw [p2] at hlt
      have h0' : (0 : Int) < (i : Int) := by omega
      simp [fnM, fnK, startG, seqF, iteS, andB, orB, notB, blF, truF, truth, op2, op1, nameF, cF, retF, retK, ifF, andV, orV, notF, settle, Res.bind, bindE, lift2, lift1, deref, derefA, setF, setK, exprF, appF, asgF, tgF, tgsF, frz1, frzA, callM, callF, callK, evA, ixs, toArs, toAr, putOuts_eq, putSl_nil, putSl_v, putSl_ne, putSl_at, putSl_val, putSl_un, outC, valsF, lstP, tupP, eqP, neP, eqD_int, eqD_str, eqD_bl, ltP, leP, gtP, geP, addP, subP, lenP, maxP, minP, chB, sizeLine, methM, methC, methK, callKw, kwK, setA, putD, putO, mkM, dflM, isiP, tyN, f2, g4, hm, h0, h0', p1, f4 w, hlt]
    | false =>
      rw [seqF_nx (g1 := [.val true R, .val true (.lst A), .val false (.int i), .val false C]) (by
        by_cases hm : m = "rising"
        · by_cases h0 : 0 < i
          · obtain ⟨w, p1, p2⟩ := prev h0
            have hlt : ¬ q.1 < w.1 := fun k => by simp [t2, hm, h0, p2, k] at h2
            simp [fnM, fnK, startG, seqF, iteS, andB, orB, notB, blF, truF, truth, op2, op1, nameF, cF, retF, retK, ifF, andV, orV, notF, settle, Res.bind, bindE, lift2, lift1, deref, derefA, setF, setK, exprF, appF, asgF, tgF, tgsF, frz1, frzA, callM, callF, callK, evA, ixs, toArs, toAr, putOuts_eq, putSl_nil, putSl_v, putSl_ne, putSl_at, putSl_val, putSl_un, outC, valsF, lstP, tupP, eqP, neP, eqD_int, eqD_str, eqD_bl, ltP, leP, gtP, geP, addP, subP, lenP, maxP, minP, chB, sizeLine, methM, methC, methK, callKw, kwK, setA, putD, putO, mkM, dflM, isiP, tyN, f2, g4, hm, h0, p1, f4 w, hlt]
          · simp [fnM, fnK, startG, seqF, iteS, andB, orB, notB, blF, truF, truth, op2, op1, nameF, cF, retF, retK, ifF, andV, orV, notF, settle, Res.bind, bindE, lift2, lift1, deref, derefA, setF, setK, exprF, appF, asgF, tgF, tgsF, frz1, frzA, callM, callF, callK, evA, ixs, toArs, toAr, putOuts_eq, putSl_nil, putSl_v, putSl_ne, putSl_at, putSl_val, putSl_un, outC, valsF, lstP, tupP, eqP, neP, eqD_int, eqD_str, eqD_bl, ltP, leP, gtP, geP, addP, subP, lenP, maxP, minP, chB, sizeLine, methM, methC, methK, callKw, kwK, setA, putD, putO, mkM, dflM, isiP, tyN, f2, hm, h0]
        · simp [fnM, fnK, startG, seqF, iteS, andB, orB, notB, blF, truF, truth, op2, op1, nameF, cF, retF, retK, ifF, andV, orV, notF, settle, Res.bind, bindE, lift2, lift1, deref, derefA, setF, setK, exprF, appF, asgF, tgF, tgsF, frz1, frzA, callM, callF, callK, evA, ixs, toArs, toAr, putOuts_eq, putSl_nil, putSl_v, putSl_ne, putSl_at, putSl_val, putSl_un, outC, valsF, lstP, tupP, eqP, neP, eqD_int, eqD_str, eqD_bl, ltP, leP, gtP, geP, addP, subP, lenP, maxP, minP, chB, sizeLine, methM, methC, methK, callKw, kwK, setA, putD, putO, mkM, dflM, isiP, tyN, f2, hm])]
      by_cases hs : s = "never"
      · have ip : isNotP r .non = some (.val (.bl ((rows.take i).any fun r => due c q.1 q.2.1 r.1 r.2.1))) := by
          unfold isNotP
          rw [if_pos ⟨kr, rfl⟩, nr, Bool.not_not]
        unfold t3
        generalize ((rows.take i).any fun r => due c q.1 q.2.1 r.1 r.2.1) = k at ip ⊢
        cases k <;> simp [fnM, fnK, startG, seqF, iteS, andB, orB, notB, blF, truF, truth, op2, op1, nameF, cF, retF, retK, ifF, andV, orV, notF, settle, Res.bind, bindE, lift2, lift1, deref, derefA, setF, setK, exprF, appF, asgF, tgF, tgsF, frz1, frzA, callM, callF, callK, evA, ixs, toArs, toAr, putOuts_eq, putSl_nil, putSl_v, putSl_ne, putSl_at, putSl_val, putSl_un, outC, valsF, lstP, tupP, eqP, neP, eqD_int, eqD_str, eqD_bl, ltP, leP, gtP, geP, addP, subP, lenP, maxP, minP, chB, sizeLine, methM, methC, methK, callKw, kwK, setA, putD, putO, mkM, dflM, isiP, tyN, f3, hs, pk, slF, optF, slP, cut, e1, ip]
      · simp [fnM, fnK, startG, seqF, iteS, andB, orB, notB, blF, truF, truth, op2, op1, nameF, cF, retF, retK, ifF, andV, orV, notF, settle, Res.bind, bindE, lift2, lift1, deref, derefA, setF, setK, exprF, appF, asgF, tgF, tgsF, frz1, frzA, callM, callF, callK, evA, ixs, toArs, toAr, putOuts_eq, putSl_nil, putSl_v, putSl_ne, putSl_at, putSl_val, putSl_un, outC, valsF, lstP, tupP, eqP, neP, eqD_int, eqD_str, eqD_bl, ltP, leP, gtP, geP, addP, subP, lenP, maxP, minP, chB, sizeLine, methM, methC, methK, callKw, kwK, setA, putD, putO, mkM, dflM, isiP, tyN, f3, hs, t3]
theorem g_bars_loop (c s t m e : Str) {rows : List (Int × Int × Str)} (hl : rows.length ≤ 1000) : ∀ (js : List Nat) (s2 s3 : Sl), (∀ j ∈ js, j < rows.length) →
    ∃ s2' s3', loopF (.tup [.name 2, .name 3]) b_Rule_bars_0 (js.map fun j => D.tup [.int (j : Nat), chOf (rowAt rows j)]) [.val true (ruleD c s t m e), .val true (.lst (rows.map chOf)), s2, s3] =
      match js.find? fun j => barB c s m e rows j (rowAt rows j) with
      | some j => .rt (.val (.int (j : Nat))) [.val true (ruleD c s t m e), .val true (.lst (rows.map chOf)), s2', s3']
      | none => .nx [.val true (ruleD c s t m e), .val true (.lst (rows.map chOf)), s2', s3']
  | [], s2, s3, _ => ⟨s2, s3, rfl⟩
  | j :: js, s2, s3, h => by
    have bb := g_bars_body c s t m e (rows := rows) (i := j) (q := rowAt rows j) (h j (.head _)) hl
    have tg : tgF (.tup [.name 2, .name 3]) (.tup [.int (j : Nat), chOf (rowAt rows j)]) [.val true (ruleD c s t m e), .val true (.lst (rows.map chOf)), s2, s3] = some [.val true (ruleD c s t m e), .val true (.lst (rows.map chOf)), .val false (.int (j : Nat)), .val false (chOf (rowAt rows j))] := by simp [tgF, tgsF]
    cases hb : barB c s m e rows j (rowAt rows j) with
    | true =>
      refine ⟨.val false (.int (j : Nat)), .val false (chOf (rowAt rows j)), ?_⟩
      rw [hb, if_pos rfl] at bb
      rw [List.map_cons, List.find?_cons_of_pos (by exact hb)]
      unfold loopF
      rw [tg]
      simp only [bb]
    | false =>
      rw [hb, if_neg (by decide)] at bb
      obtain ⟨a, b, ih⟩ := g_bars_loop c s t m e hl js (.val false (.int (j : Nat))) (.val false (chOf (rowAt rows j))) fun k hk => h k (.tail _ hk)
      refine ⟨a, b, ?_⟩
      rw [List.map_cons, List.find?_cons_of_neg (by rw [hb]; decide)]
      unfold loopF
      rw [tg]
      simp only [bb, ih]
def firstB (c s m e : Str) (rows : List (Int × Int × Str)) : Option Nat := (List.range rows.length).find? fun j => barB c s m e rows j (rowAt rows j)
def g_optD : Option Nat → D
  | some j => .int (j : Nat)
  | none => .non
theorem g_bars_ok (c s t m e : Str) {rows : List (Int × Int × Str)} (hl : rows.length ≤ 1000) {a : Ar} (ha : a = .own (.lst (rows.map chOf)) ∨ a = .val (.lst (rows.map chOf))) :
    m_Rule_bars [.val (ruleD c s t m e), a] = .ok (.val (g_optD (firstB c s m e rows))) [.val true (ruleD c s t m e), .val true (.lst (rows.map chOf))] := by
  have en : enumOf [.lst (rows.map chOf)] = some (enumD (rows.map chOf)) := rfl
  obtain ⟨x, y, lp⟩ := g_bars_loop c s t m e hl (List.range rows.length) .un .un fun j hj => List.mem_range.mp hj
  rw [← enum_rows] at lp
  change loopF _ _ _ _ = (match firstB c s m e rows with | some j => _ | none => _) at lp
  generalize firstB c s m e rows = fb at lp ⊢
  unfold m_Rule_bars
  generalize ruleD c s t m e = R at lp ⊢
  generalize rows.map chOf = A at lp en ha ⊢
  generalize enumD A = E at lp en
  cases fb with
  | none => rcases ha with rfl | rfl <;> simp [fnM, fnK, startG, seqF, iteS, andB, orB, notB, blF, truF, truth, op2, op1, nameF, cF, retF, retK, ifF, andV, orV, notF, settle, Res.bind, bindE, lift2, lift1, deref, derefA, setF, setK, exprF, appF, asgF, tgF, tgsF, frz1, frzA, callM, callF, callK, evA, ixs, toArs, toAr, putOuts_eq, putSl_nil, putSl_v, putSl_ne, putSl_at, putSl_val, putSl_un, outC, valsF, lstP, tupP, eqP, neP, eqD_int, eqD_str, eqD_bl, ltP, leP, gtP, geP, addP, subP, lenP, maxP, minP, chB, sizeLine, methM, methC, methK, pickM, callKw, kwK, pickL, setA, putD, putO, fldP, mkM, dflM, isiP, tyN, argsI, forF, en, lp, g_optD]
  | some j => rcases ha with rfl | rfl <;> simp [fnM, fnK, startG, seqF, iteS, andB, orB, notB, blF, truF, truth, op2, op1, nameF, cF, retF, retK, ifF, andV, orV, notF, settle, Res.bind, bindE, lift2, lift1, deref, derefA, setF, setK, exprF, appF, asgF, tgF, tgsF, frz1, frzA, callM, callF, callK, evA, ixs, toArs, toAr, putOuts_eq, putSl_nil, putSl_v, putSl_ne, putSl_at, putSl_val, putSl_un, outC, valsF, lstP, tupP, eqP, neP, eqD_int, eqD_str, eqD_bl, ltP, leP, gtP, geP, addP, subP, lenP, maxP, minP, chB, sizeLine, methM, methC, methK, pickM, callKw, kwK, pickL, setA, putD, putO, fldP, mkM, dflM, isiP, tyN, argsI, forF, en, lp, g_optD]
def clOf (c : Str) (q : Int × Int × Str) : D → D
  | .tup [.int a, .int b, .str _] => .bl (clashB c a b q.1 q.2.1)
  | d => d
def pos (l : List Nat) (k : Nat) : Nat := ((l.map fun (j : Nat) => (j : Int)).findIdx? fun x => x == (k : Int)).getD 0
theorem any_map {l : List Nat} {f : Nat → Bool} : anyP [.lst (l.map fun o => D.bl (f o))] = some (.val (.bl (l.any f))) := by
  have e1 : (l.map fun o => D.bl (f o)) = (l.map f).map D.bl := by
    rw [List.map_map]
    rfl
  rw [e1]
  simp only [anyP, blsD_map, Option.map_some, List.any_map]
  rfl
theorem all_map {l : List Nat} {f : Nat → Bool} : allP [.lst (l.map fun o => D.bl (f o))] = some (.val (.bl (l.all f))) := by
  have e1 : (l.map fun o => D.bl (f o)) = (l.map f).map D.bl := by
    rw [List.map_map]
    rfl
  rw [e1]
  simp only [allP, blsD_map, Option.map_some, List.all_map]
  rfl
end Vl
set_option Elab.async false
set_option linter.all false
set_option maxRecDepth 100000
set_option maxHeartbeats 4000000
namespace Vl
open PySem PySem.Spec PyProof.Rows L2 My
end Vl
set_option Elab.async false
set_option linter.all false
set_option maxRecDepth 100000
set_option maxHeartbeats 2000000
namespace Vl
open PySem PySem.Spec PyProof.Rows L2 My
def stl : RV → Option D
  | .val d => some d
  | .fr d => some d
  | .at_ _ => none
def Sv (f : Ft) (g : Sg) (a : D) (g1 : Sg) : Prop := settle (f g) = .ok (.val a) g1
section
variable {f f1 f2 f3 f4 f5 f6 : Ft} {fs : List Ft} {g g1 g2 g3 g4 g5 g6 : Sg} {a b c d e5 e6 : D} {r : RV} {os : List Sl} {m : Fm} {i : Nat} {t : Bool} {p : D → Option RV} {p2 : D → D → Option RV} {x y : Bool} {t1 t2 : Fb} {s1 s2 : Fs} {rs : Rs}
theorem e_der (h : g[i]? = some (.own t d)) : deref g (.at_ i) = some d := by
  show (match g[i]? with | some (.own _ d) => some d | some (.val _ d) => some d | _ => none) = _
  rw [h]
theorem e_toA (h : g[i]? = some (.own t d)) : toAr g (.at_ i) = some (.own d) := by
  show (match g[i]? with | some (.own _ d) => some (Ar.own d) | some (.val _ d) => some (Ar.val d) | _ => none) = _
  rw [h]
theorem e_nm (h : g[i]? = some (.val t d)) : nameF i g = .ok (.val d) g := by unfold nameF; rw [h]
theorem e_c : cF d g = .ok (.val d) g := rfl
theorem e_sv (h : f g = .ok r g1) (e : stl r = some a) : Sv f g a g1 := by
  unfold Sv
  rw [h]
  cases r with
  | val d => cases e; rfl
  | fr d => cases e; rfl
  | at_ j => cases e
theorem e_op1 (h : Sv f g a g1) (e : p a = some r) : op1 p f g = .ok r g1 := by
  unfold op1
  rw [h]
  show lift1 p (.val a) g1 = _
  unfold lift1
  show (match p a with | some r => Res.ok r g1 | none => .stuck) = _
  rw [e]
theorem e_op2 (h : Sv f1 g a g1) (k : Sv f2 g1 b g2) (e : p2 a b = some r) : op2 p2 f1 f2 g = .ok r g2 := by
  unfold op2
  rw [h]
  show (settle (f2 g1)).bind _ = _
  rw [k]
  show lift2 p2 (.val a) (.val b) g2 = _
  show (match p2 a b with | some r => Res.ok r g2 | none => .stuck) = _
  rw [e]
theorem e_op2n (h : g[i]? = some (.own t a)) (k : Sv f2 g b g) (e : p2 a b = some r) : op2 p2 (nameF i) f2 g = .ok r g := by
  have hn : nameF i g = .ok (.at_ i) g := by unfold nameF; rw [h]
  unfold op2
  rw [hn]
  show (settle (f2 g)).bind _ = _
  rw [k]
  show lift2 p2 (.at_ i) (.val b) g = _
  unfold lift2
  rw [e_der h]
  show (match p2 a b with | some r => Res.ok r g | none => .stuck) = _
  rw [e]
theorem e_op2m (k : Sv f1 g a g1) (h : g1[i]? = some (.own t b)) (e : p2 a b = some r) : op2 p2 f1 (nameF i) g = .ok r g1 := by
  have hn : nameF i g1 = .ok (.at_ i) g1 := by unfold nameF; rw [h]
  unfold op2
  rw [k]
  show (settle (nameF i g1)).bind _ = _
  rw [hn]
  show lift2 p2 (.val a) (.at_ i) g1 = _
  unfold lift2
  rw [e_der h]
  show (match p2 a b with | some r => Res.ok r g1 | none => .stuck) = _
  rw [e]
theorem e_app {ds : List D} {u : Bool} (h : g[i]? = some (.own t (.lst ds))) (k : Sv f g d g1) (h2 : g1[i]? = some (.own u (.lst ds))) (hl : ds.length < sizeLine) : exprF (appF i f) g = .nx (g1.set i (.own u (.lst (ds ++ [d])))) := by
  have ev : evA [f] g = .ok [.val d] g1 := by
    unfold evA
    rw [k]
    rfl
  have a : appF i f g = .ok (.val .non) (g1.set i (.own u (.lst (ds ++ [d])))) := by
    unfold appF
    rw [h]
    dsimp only
    rw [ev]
    show (match frzA [.val d] g1 with
    | some ([d], g2) => (match g2[i]? with
      | some (.own t (.lst ds)) => if ds.length < sizeLine then Res.ok (RV.val D.non) (g2.set i (.own t (.lst (ds ++ [d])))) else .stuck
      | _ => .stuck)
    | _ => .stuck) = _
    rw [show frzA [.val d] g1 = some ([d], g1) from rfl]
    dsimp only
    rw [h2]
    dsimp only
    rw [if_pos hl]
  unfold exprF
  rw [a]
  rfl
theorem e_st (h : f g = .ok r g1) (e : stl r = some a) : settleF f g = .ok (.val a) g1 := e_sv h e
theorem e_bl (h : f g = .ok (.val (.bl x)) g1) : blF f g = .ok x g1 := by unfold blF; rw [h]; rfl
theorem e_tru (h : Sv f g a g1) (e : truth a = some x) : truF f g = .ok x g1 := by
  unfold truF
  rw [h]
  show (match truth a with | some b => Res.ok b g1 | none => .stuck) = _
  rw [e]
theorem e_not (h : t1 g = .ok x g1) : notB t1 g = .ok (!x) g1 := by unfold notB; rw [h]; rfl
theorem e_and (h : t1 g = .ok x g) (k : t2 g = .ok y g) : andB t1 t2 g = .ok (x && y) g := by
  unfold andB
  rw [h]
  show (if x = true then t2 g else .ok false g) = _
  cases x
  · rfl
  · exact k
theorem e_or (h : t1 g = .ok x g) (k : t2 g = .ok y g) : orB t1 t2 g = .ok (x || y) g := by
  unfold orB
  rw [h]
  show (if x = true then .ok true g else t2 g) = _
  cases x
  · exact k
  · rfl
theorem e_andK (h : t1 g = .ok x g) (k : x = true → t2 g = .ok y g) (n : x = false → y = false) : andB t1 t2 g = .ok y g := by
  unfold andB
  rw [h]
  show (if x = true then t2 g else .ok false g) = _
  cases x
  · rw [n rfl]; rfl
  · exact k rfl
theorem e_orK (h : t1 g = .ok x g) (k : x = false → t2 g = .ok y g) (n : x = true → y = true) : orB t1 t2 g = .ok y g := by
  unfold orB
  rw [h]
  show (if x = true then .ok true g else t2 g) = _
  cases x
  · exact k rfl
  · rw [n rfl]; rfl
theorem e_ite (h : t1 g = .ok x g1) : iteS t1 s1 s2 g = if x = true then s1 g1 else s2 g1 := by unfold iteS; rw [h]; rfl
theorem e_iteT (h : t1 g = .ok true g1) (k : s1 g1 = rs) : iteS t1 s1 s2 g = rs := by rw [e_ite h, if_pos rfl, k]
theorem e_iteN (h : t1 g = .ok false g1) (k : s2 g1 = rs) : iteS t1 s1 s2 g = rs := by rw [e_ite h, if_neg (by decide), k]
theorem e_seq (h : s1 g = .nx g1) (k : s2 g1 = rs) : seqF s1 s2 g = rs := by unfold seqF; rw [h]; exact k
theorem e_setv (h : f g = .ok (.val d) g1) : setF i f g = .nx (g1.set i (.val false d)) := by unfold setF; rw [h]; rfl
theorem e_setf (h : f g = .ok (.fr d) g1) : setF i f g = .nx (g1.set i (.own false d)) := by unfold setF; rw [h]; rfl
theorem e_ret (h : f g = .ok r g1) (e : stl r = some a) : retF f g = .rt r g1 := by
  unfold retF
  rw [h]
  cases r with
  | val d => rfl
  | fr d => rfl
  | at_ j => cases e
theorem e_fn {k n : Nat} {F : Fs} {as : List Ar} (h : as.length = k) (e : F (startG n as) = .rt r g) : fnM k n F as = .ok r (g.take k) := by rw [fn_go h, e]; rfl
theorem e_a0 : evA [] g = .ok (([] : List D).map RV.val) g := rfl
theorem e_a {ds : List D} (h : Sv f g d g1) (k : evA fs g1 = .ok (ds.map RV.val) g2) : evA (f :: fs) g = .ok ((d :: ds).map RV.val) g2 := by
  unfold evA
  rw [h]
  show (evA fs g1).bind _ = _
  rw [k]
  rfl
theorem e_toArs (g : Sg) : ∀ ds : List D, toArs g (ds.map RV.val) = some (ds.map Ar.val)
  | [] => rfl
  | d :: ds => by
    show ((toAr g (.val d)).bind fun a => (toArs g (ds.map RV.val)).map (a :: ·)) = _
    rw [e_toArs g ds]
    rfl
theorem e_ixs : ∀ ds : List D, ixs (ds.map RV.val) = []
  | [] => rfl
  | d :: ds => e_ixs ds
theorem e_outF (j : Nat) : ∀ (ds : List D) (os : List Sl), outFor j (ds.map RV.val) os = none
  | [], _ => rfl
  | d :: ds, os => e_outF j ds os.tail
theorem e_outs {ds : List D} : putOuts (ds.map RV.val) os g = g := by
  unfold putOuts
  refine List.ext_getElem (by simp) fun j h1 h2 => ?_
  rw [List.getElem_mapIdx, e_outF]
  cases g[j] <;> rfl
theorem e_callK {ds : List D} (h : m (ds.map Ar.val) = .ok r os) (n : stl r = some a) : callK m (ds.map RV.val) g = .ok r g := by
  unfold callK
  rw [e_ixs, if_pos (by simp), e_toArs]
  dsimp only
  rw [h]
  cases r with
  | val d => dsimp only; rw [e_outs]
  | fr d => dsimp only; rw [e_outs]
  | at_ j => cases n
theorem e_callA {ds : List D} (ev : evA fs g = .ok (ds.map RV.val) g1) (h : m (ds.map Ar.val) = .ok r os) (n : stl r = some a) : callM m fs g = .ok r g1 := by
  unfold callM
  rw [ev]
  exact e_callK h n
theorem e_call1 (h1 : Sv f1 g b g1) (h : m [.val b] = .ok r os) (n : stl r = some a) : callM m [f1] g = .ok r g1 := e_callA (ds := [b]) (e_a h1 e_a0) h n
theorem e_call2 (h1 : Sv f1 g b g1) (h2 : Sv f2 g1 c g2) (h : m [.val b, .val c] = .ok r os) (n : stl r = some a) : callM m [f1, f2] g = .ok r g2 := e_callA (ds := [b, c]) (e_a h1 (e_a h2 e_a0)) h n
theorem e_call3 (h1 : Sv f1 g b g1) (h2 : Sv f2 g1 c g2) (h3 : Sv f3 g2 d g3) (h : m [.val b, .val c, .val d] = .ok r os) (n : stl r = some a) : callM m [f1, f2, f3] g = .ok r g3 := e_callA (ds := [b, c, d]) (e_a h1 (e_a h2 (e_a h3 e_a0))) h n
theorem e_methA {nm : Str} {ms : List (Str × Bool × Fm)} {ds : List D} (h1 : Sv f g b g1) (pk : pickM nm ms b = some m) (ev : evA fs g1 = .ok (ds.map RV.val) g2) (h : m ((b :: ds).map Ar.val) = .ok r os) (n : stl r = some a) : methM nm ms f fs g = .ok r g2 := by
  unfold methM
  rw [h1]
  show methC nm ms fs (.val b) g1 = _
  unfold methC
  show (match pickM nm ms b with | some m => methK fs m (.val b) g1 | none => .stuck) = _
  rw [pk]
  show methK fs m (.val b) g1 = _
  unfold methK
  rw [ev]
  exact e_callK (ds := b :: ds) h n
theorem e_meth1 {nm : Str} {ms : List (Str × Bool × Fm)} (h1 : Sv f g b g1) (pk : pickM nm ms b = some m) (h2 : Sv f1 g1 c g2) (h : m [.val b, .val c] = .ok r os) (n : stl r = some a) : methM nm ms f [f1] g = .ok r g2 := e_methA (ds := [c]) h1 pk (e_a h2 e_a0) h n
theorem e_callB (hx : g[i]? = some (.own t b)) {ds : List D} (ev : evA fs g = .ok (ds.map RV.val) g) (h : m (.own b :: ds.map Ar.val) = .ok r (.own true c :: os)) (n : stl r = some a) : callM m (nameF i :: fs) g = .ok r (g.set i (.own t c)) := by
  have hn : nameF i g = .ok (.at_ i) g := by unfold nameF; rw [hx]
  have e1 : evA (nameF i :: fs) g = .ok (.at_ i :: ds.map RV.val) g := by
    unfold evA
    rw [hn]
    show (evA fs g).bind _ = _
    rw [ev]
    rfl
  have po : putOuts (.at_ i :: ds.map RV.val) (.own true c :: os) g = g.set i (.own t c) := by
    unfold putOuts
    refine List.ext_getElem (by simp) fun j h1 h2 => ?_
    rw [List.getElem_mapIdx, List.getElem_set]
    by_cases hj : i = j
    · subst hj
      have : g[i]'(by simpa using h1) = .own t b := by
        have := List.getElem?_eq_getElem (l := g) (i := i) (by simpa using h1)
        rw [hx] at this
        exact (Option.some.inj this).symm
      rw [this]
      simp [outFor, outC]
    · rw [if_neg hj]
      have : outFor j (.at_ i :: ds.map RV.val) (.own true c :: os) = none := by
        unfold outFor
        rw [if_neg hj]
        exact e_outF j ds os
      rw [this]
      cases g[j]'(by simpa using h1) <;> rfl
  unfold callM
  rw [e1]
  show callK m _ g = _
  unfold callK
  have ix : ixs (.at_ i :: ds.map RV.val) = [i] := by
    show i :: ixs (ds.map RV.val) = _
    rw [e_ixs]
  have ta : toArs g (.at_ i :: ds.map RV.val) = some (.own b :: ds.map Ar.val) := by
    show ((toAr g (.at_ i)).bind fun a => (toArs g (ds.map RV.val)).map (a :: ·)) = _
    rw [e_toArs, e_toA hx]
    rfl
  rw [ix, if_pos (by simp), ta]
  dsimp only
  rw [h]
  cases r with
  | val d => dsimp only; rw [po]
  | fr d => dsimp only; rw [po]
  | at_ j => cases n
theorem e_callB0 (h : g[i]? = some (.own t b)) (hm : m [.own b] = .ok r (.own true c :: os)) (n : stl r = some a) : callM m [nameF i] g = .ok r (g.set i (.own t c)) := e_callB (ds := []) h e_a0 hm n
theorem e_callB1 (h : g[i]? = some (.own t b)) (h1 : Sv f1 g d g) (hm : m [.own b, .val d] = .ok r (.own true c :: os)) (n : stl r = some a) : callM m [nameF i, f1] g = .ok r (g.set i (.own t c)) := e_callB (ds := [d]) h (e_a h1 e_a0) hm n
theorem e_deA (g : Sg) : ∀ ds : List D, derefA g (ds.map RV.val) = some ds
  | [] => rfl
  | d :: ds => by
    show ((deref g (.val d)).bind fun a => (derefA g (ds.map RV.val)).map (a :: ·)) = _
    rw [e_deA g ds]
    rfl
theorem e_frA (g : Sg) : ∀ ds : List D, frzA (ds.map RV.val) g = some (ds, g)
  | [] => rfl
  | d :: ds => by
    show ((frz1 (.val d) g).bind fun p => (frzA (ds.map RV.val) p.2).map fun q => (p.1 :: q.1, q.2)) = _
    show ((frzA (ds.map RV.val) g).map fun q => (d :: q.1, q.2)) = _
    rw [e_frA g ds]
    rfl
theorem e_cl {q : List D → Option RV} {ds : List D} (ev : evA fs g = .ok (ds.map RV.val) g1) (e : q ds = some r) : callF q fs g = .ok r g1 := by
  unfold callF
  rw [ev]
  show (match derefA g1 (ds.map RV.val) with | some ds => (match q ds with | some r => Res.ok r g1 | none => .stuck) | none => .stuck) = _
  rw [e_deA]
  dsimp only
  rw [e]
theorem e_cln {q : List D → Option RV} (h : g[i]? = some (.own t d)) (e : q [d] = some r) : callF q [nameF i] g = .ok r g := by
  have hn : nameF i g = .ok (.at_ i) g := by unfold nameF; rw [h]
  unfold callF evA
  rw [hn]
  show (match derefA g [.at_ i] with | some ds => (match q ds with | some r => Res.ok r g | none => .stuck) | none => .stuck) = _
  have : derefA g [.at_ i] = some [d] := by
    show ((deref g (.at_ i)).bind fun a => (derefA g []).map (a :: ·)) = _
    rw [e_der h]
    rfl
  rw [this]
  dsimp only
  rw [e]
theorem e_vals {q : List D → Option RV} {ds : List D} (ev : evA fs g = .ok (ds.map RV.val) g1) (e : q ds = some r) : valsF fs q g = .ok r g1 := by
  unfold valsF
  rw [ev]
  show (match frzA (ds.map RV.val) g1 with | some (ds, g2) => (match q ds with | some r => Res.ok r g2 | none => .stuck) | none => .stuck) = _
  rw [e_frA]
  dsimp only
  rw [e]
theorem e_it {ds : List D} (h : Sv f g a g1) (e : itemsOf a = some ds) : iterF f g = .ok ds g1 := by
  unfold iterF
  rw [h]
  show (match frz1 (.val a) g1 with | some (d, g2) => (match itemsOf d with | some ds => Res.ok ds g2 | none => .stuck) | none => .stuck) = _
  show (match itemsOf a with | some ds => Res.ok ds g1 | none => .stuck) = _
  rw [e]
theorem e_for {fi : Fi} {tg : Tg} {B : Fs} {ds : List D} (h : fi g = .ok ds g1) (e : loopF tg B ds g1 = rs) : forF fi tg B g = rs := by
  unfold forF
  rw [h]
  exact e
theorem e_ai {q : List D → Option (List D)} {ds es : List D} (ev : evA fs g = .ok (ds.map RV.val) g1) (e : q ds = some es) : argsI q fs g = .ok es g1 := by
  unfold argsI
  rw [ev]
  show (match frzA (ds.map RV.val) g1 with | some (ds, g2) => (match q ds with | some r => Res.ok r g2 | none => .stuck) | none => .stuck) = _
  rw [e_frA]
  dsimp only
  rw [e]
theorem l_eqS (a b : Str) : eqP (.str a) (.str b) = some (.val (.bl (decide (a = b)))) := by simp only [eqP, eqD_str, Option.map_some]
theorem l_eqI (a b : Int) : eqP (.int a) (.int b) = some (.val (.bl (decide (a = b)))) := by simp only [eqP, eqD_int, Option.map_some]
theorem l_neI (a b : Int) : neP (.int a) (.int b) = some (.val (.bl (!decide (a = b)))) := by simp only [neP, eqD_int, Option.map_some]
end
end Vl
set_option Elab.async false
set_option linter.all false
set_option maxRecDepth 100000
set_option maxHeartbeats 4000000
namespace Vl
open PySem PySem.Spec PyProof.Rows L2 My
abbrev Srow := List (Int × Int)
abbrev pD48 (p : Int × Int) : D := .tup [.int p.1, .int p.2]
abbrev srD (r : Srow) : D := .tup (r.map pD48)
def strL (n : Nat) : Srow := (List.range (n + 1)).flatMap fun b => (List.range (n + 1 - b)).map fun (k : Nat) => ((b : Int), (b : Int) + (k : Int))
def chR48 (r : Srow) : List Row := r.map fun p => (p.1, p.2, "")
def okRw (c s m e : Str) (r : Srow) : Bool := (firstB c s m e (chR48 r)).isNone
def SR (c s m e : Str) (n : Nat) : Nat → List Srow
  | 0 => [[]]
  | k + 1 => (SR c s m e n k).flatMap fun row => ((strL n).map fun p => row ++ [p]).filter (okRw c s m e)
theorem compI_map {α : Type} {t : Tg} {fe : Ft} {vs : List Nat} {g : Sg} (dI F : α → D) : ∀ {xs : List α} {acc : List D}, acc.length + xs.length ≤ sizeLine →
    (∀ a ∈ xs, ∃ g1, tgF t (dI a) g = some g1 ∧ ∃ x g3, noX (settle (fe g1)) = .ok x g3 ∧ ∃ g4, frz1 x g3 = some (F a, g4) ∧ wipeG g4 vs = g) →
    compI t none fe vs (xs.map dI) g acc = some (acc ++ xs.map F, g)
  | [], acc, _, _ => by simp [compI]
  | a :: xs, acc, hl, k => by
    obtain ⟨g1, e1, x, g3, e2, g4, e3, h4⟩ := k a (.head _)
    rw [List.length_cons] at hl
    rw [List.map_cons, compI, e1]
    dsimp only [tstO]
    rw [e2]
    dsimp only
    rw [e3]
    dsimp only
    rw [if_pos (by omega), h4, compI_map dI F (xs := xs) (acc := acc ++ [F a]) (by rw [List.length_append, List.length_singleton]; omega) fun b hb => k b (.tail _ hb)]
    simp
theorem compL2_map {α β : Type} {fi1 : Fi} {t t1 : Tg} {fe : Ft} {vs vs1 : List Nat} {g : Sg} (dI : α → D) (ys : α → List β) (dJ : β → D) (F : α → β → D) : ∀ {xs : List α} {acc : List D}, acc.length + (xs.flatMap ys).length ≤ sizeLine →
    (∀ a ∈ xs, ∃ g1, tgF t (dI a) g = some g1 ∧ ∃ g3, fi1 g1 = .ok ((ys a).map dJ) g3 ∧ wipeG (wipeG g3 vs1) vs = g ∧ ∀ b ∈ ys a, ∃ h1, tgF t1 (dJ b) (wipeG g3 vs1) = some h1 ∧ ∃ x h3, noX (settle (fe h1)) = .ok x h3 ∧ ∃ h4, frz1 x h3 = some (F a b, h4) ∧ wipeG h4 vs1 = wipeG g3 vs1) →
    compL2 t none fi1 t1 none fe vs vs1 (xs.map dI) g acc = .ok (.fr (.lst (acc ++ xs.flatMap fun a => (ys a).map (F a)))) g
  | [], acc, _, _ => by simp [compL2]
  | a :: xs, acc, hl, k => by
    obtain ⟨g1, e1, g3, e2, e3, st⟩ := k a (.head _)
    rw [List.flatMap_cons, List.length_append] at hl
    have ci := compI_map (t := t1) (fe := fe) (vs := vs1) (g := wipeG g3 vs1) dJ (F a) (xs := ys a) (acc := acc) (by omega) st
    rw [List.map_cons, compL2, e1]
    dsimp only [tstO]
    rw [e2]
    dsimp only
    rw [ci]
    dsimp only
    rw [e3, compL2_map dI ys dJ F (xs := xs) (acc := acc ++ (ys a).map (F a)) (by rw [List.length_append, List.length_map]; omega) fun b hb => k b (.tail _ hb)]
    simp [List.flatMap_cons]
theorem strL_len (n : Nat) (hn : n ≤ 100) : (strL n).length ≤ 10201 := by
  unfold strL
  have : ∀ (xs : List Nat), (xs.flatMap fun b => (List.range (n + 1 - b)).map fun (k : Nat) => ((b : Int), (b : Int) + (k : Int))).length ≤ xs.length * (n + 1) := by
    intro xs
    induction xs with
    | nil => simp
    | cons x xs ih =>
      rw [List.flatMap_cons, List.length_append, List.length_map, List.length_range, List.length_cons, Nat.add_mul]
      omega
  have := this (List.range (n + 1))
  rw [List.length_range] at this
  have : (n + 1) * (n + 1) ≤ 101 * 101 := Nat.mul_le_mul (by omega) (by omega)
  omega
theorem stretches_ok {n : Nat} (hn : n ≤ 100) : m_stretches [.val (.int (n : Nat))] = .ok (.fr (.lst ((strL n).map pD48))) [.val true (.int (n : Nat))] := by
  let N : Sl := .val true (.int (n : Nat))
  let G : Sg := [N, .un, .un]
  have a1 : ∀ s1 s2, op2 addP (nameF 0) (cF (.int 1)) [N, s1, s2] = .ok (.val (.int ((n : Int) + 1))) [N, s1, s2] := fun _ _ => e_op2 (e_sv (e_nm rfl) rfl) (e_sv e_c rfl) rfl
  have r1 : rangeOf1 [.int ((n : Int) + 1)] = some ((List.range (n + 1)).map fun (b : Nat) => D.int (b : Int)) := range_of (n := n + 1) (by omega)
  have it : argsI rangeOf1 [(op2 addP (nameF 0) (cF (.int 1)))] G = .ok ((List.range (n + 1)).map fun (b : Nat) => D.int (b : Int)) G := e_ai (e_a (e_sv (a1 _ _) rfl) e_a0) r1
  have cl := compL2_map (fi1 := argsI rangeOf2 [(nameF 1), (op2 addP (nameF 0) (cF (.int 1)))]) (t := .name 1) (t1 := .name 2) (fe := valsF [(nameF 1), (nameF 2)] tupP) (vs := [1, 2]) (vs1 := [2]) (g := G) (fun (b : Nat) => D.int (b : Int)) (fun b => (List.range (n + 1 - b)).map fun (k : Nat) => ((b : Int) + (k : Int))) (fun (i : Int) => D.int i) (fun b i => pD48 ((b : Int), i)) (xs := List.range (n + 1)) (acc := []) (by
    have := strL_len n hn
    have e : ((List.range (n + 1)).flatMap fun b => (List.range (n + 1 - b)).map fun (k : Nat) => ((b : Int) + (k : Int))).length = (strL n).length := by
      unfold strL
      simp only [List.length_flatMap, List.length_map]
    rw [e]
    simp [sizeLine]
    omega) fun b hb => by
    have hb := List.mem_range.mp hb
    let B : Sl := .val false (.int (b : Int))
    have r2 : rangeOf2 [.int (b : Int), .int ((n : Int) + 1)] = some (((List.range (n + 1 - b)).map fun (k : Nat) => ((b : Int) + (k : Int))).map fun (i : Int) => D.int i) := by
      simp only [rangeOf2]
      rw [if_pos (decide_eq_true ⟨by omega, by omega, by omega, by omega⟩)]
      simp only [rangeD, List.map_map]
      rw [show ((n : Int) + 1 - (b : Int)).toNat = n + 1 - b by omega]
      rfl
    refine ⟨[N, B, .un], rfl, [N, B, .un], e_ai (ds := [.int (b : Int), .int ((n : Int) + 1)]) (e_a (e_sv (e_nm rfl) rfl) (e_a (e_sv (a1 _ _) rfl) e_a0)) r2, rfl, fun i hi => ?_⟩
    exact ⟨[N, B, .val false (.int i)], rfl, .val (pD48 ((b : Int), i)), [N, B, .val false (.int i)], rfl, [N, B, .val false (.int i)], rfl, rfl⟩
  rw [List.nil_append] at cl
  have ee : ((List.range (n + 1)).flatMap fun b => ((List.range (n + 1 - b)).map fun (k : Nat) => ((b : Int) + (k : Int))).map fun i => pD48 ((b : Int), i)) = (strL n).map pD48 := by
    have go : ∀ xs : List Nat, (xs.flatMap fun b => ((List.range (n + 1 - b)).map fun (k : Nat) => ((b : Int) + (k : Int))).map fun i => pD48 ((b : Int), i)) = (xs.flatMap fun b => (List.range (n + 1 - b)).map fun (k : Nat) => ((b : Int), (b : Int) + (k : Int))).map pD48 := by
      intro xs
      induction xs with
      | nil => rfl
      | cons x xs ih =>
        rw [List.flatMap_cons, List.flatMap_cons, List.map_append, ih, List.map_map, List.map_map]
        rfl
    exact go _
  rw [ee] at cl
  have cf : compF2 (argsI rangeOf1 [(op2 addP (nameF 0) (cF (.int 1)))]) (.name 1) none (argsI rangeOf2 [(nameF 1), (op2 addP (nameF 0) (cF (.int 1)))]) (.name 2) none (valsF [(nameF 1), (nameF 2)] tupP) [1, 2] [2] G = .ok (.fr (.lst ((strL n).map pD48))) G := by
    unfold compF2
    rw [it]
    exact cl
  have r0 := e_ret cf (a := .lst ((strL n).map pD48)) rfl
  exact e_fn (k := 1) (n := 3) (as := [.val (.int (n : Nat))]) rfl r0
end Vl
set_option Elab.async false
set_option linter.all false
set_option maxRecDepth 100000
set_option maxHeartbeats 4000000
namespace Vl
open PySem PySem.Spec PyProof.Rows L2 My
theorem comp_mapI {α : Type} {t : Tg} {fe : Ft} {vs : List Nat} {g : Sg} (dI F : α → D) : ∀ {xs : List α} {acc : List D}, acc.length + xs.length ≤ sizeLine →
    (∀ a ∈ xs, ∃ g1, tgF t (dI a) g = some g1 ∧ ∃ x g3, noX (settle (fe g1)) = .ok x g3 ∧ ∃ g4, frz1 x g3 = some (F a, g4) ∧ wipeG g4 vs = g) →
    compL t none fe vs (xs.map dI) g acc = .ok (.fr (.lst (acc ++ xs.map F))) g
  | [], acc, _, _ => by simp [compL]
  | a :: xs, acc, hl, k => by
    obtain ⟨g1, e1, x, g3, e2, g4, e3, h4⟩ := k a (.head _)
    rw [List.length_cons] at hl
    have ih := comp_mapI dI F (xs := xs) (acc := acc ++ [F a]) (by rw [List.length_append]; simp; omega) fun d hd => k d (.tail _ hd)
    have hl2 : acc.length < sizeLine := by omega
    rw [List.map_cons]
    unfold compL
    rw [e1]
    simp only [e2, e3, if_pos hl2, h4, ih, List.append_assoc, List.singleton_append, List.map_cons]
theorem compF_of2 {fi : Fi} {t : Tg} {tt : Option Fb} {fe : Ft} {vs : List Nat} {g g1 : Sg} {ds : List D} {r : Res RV} (h1 : fi g = .ok ds g1) (h2 : wipeG g1 vs = g1) (h3 : compL t tt fe vs ds g1 [] = r) : compF fi t tt fe vs g = r := by
  unfold compF
  rw [h1]
  simp only [Res.bind]
  rw [h2, h3]
theorem chD2 {a b : Int} (h0 : 0 ≤ a) (h1 : a ≤ b) : ∃ os, m_Change [.val (.int a), .val (.int b)] = .ok (.fr (chD a b "")) os := by
  have c := change_ok (lo := a) (hi := b) (z := "") h0 h1
  exact ⟨_, c⟩
theorem strL_ok {n : Nat} {p : Int × Int} (h : p ∈ strL n) : 0 ≤ p.1 ∧ p.1 ≤ p.2 ∧ p.2 ≤ n := by
  unfold strL at h
  obtain ⟨b, hb, h⟩ := List.mem_flatMap.mp h
  obtain ⟨k, hk, rfl⟩ := List.mem_map.mp h
  have hb := List.mem_range.mp hb
  have hk := List.mem_range.mp hk
  dsimp only
  omega
structure RwOk (n k : Nat) (r : Srow) : Prop where
  l : r.length = k
  o : ∀ p ∈ r, 0 ≤ p.1 ∧ p.1 ≤ p.2 ∧ p.2 ≤ n
theorem SR_ok {c s m e : Str} {n : Nat} : ∀ {k : Nat}, ∀ r ∈ SR c s m e n k, RwOk n k r
  | 0, r, h => by
    have : r = [] := by simpa [SR] using h
    subst this
    exact ⟨rfl, fun p h => nomatch h⟩
  | k + 1, r, h => by
    unfold SR at h
    obtain ⟨q, hq, h⟩ := List.mem_flatMap.mp h
    obtain ⟨h, _⟩ := List.mem_filter.mp h
    obtain ⟨p, hp, rfl⟩ := List.mem_map.mp h
    have i := SR_ok (k := k) q hq
    refine ⟨by rw [List.length_append, i.l]; rfl, fun x hx => ?_⟩
    rcases List.mem_append.mp hx with hx | hx
    · exact i.o x hx
    · rw [List.mem_singleton] at hx
      subst hx
      exact strL_ok hp
theorem bars_pk48 (c s t m e : Str) : pickM "bars" ms_bars (ruleD c s t m e) = some m_Rule_bars := by
  simp [pickM, ms_bars, lk_hit]
  decide +kernel
noncomputable def B48 : TGC := (seqG (liftG (liftC (setF 5 (snocF (nameF 3) [(nameF 4)]))))
    (seqG (iteG (blF (op2 isP (methM "bars" ms_bars (nameF 0) [(compF (iterF (nameF 5)) (.tup [(.name 6), (.name 7)]) none (callM m_Change [(nameF 6), (nameF 7)]) [6, 7])]) (cF .non))) (seqG (yValN (settleF (nameF 5)))
    (fun E ds g r => E.nx ds g r)) (fun E ds g r => E.nx ds g r))
    (fun E ds g r => E.nx ds g r)))
noncomputable def A48 (ST : Fm) : TGC := (seqG (forG (iterF (callM ST [(nameF 2)])) (.name 4) B48)
    (fun E ds g r => E.nx ds g r))
noncomputable def Y48 : TGC := (seqG (yValN (settleF (valsF [] tupP)))
    (fun E ds g r => E.nx ds g r))
noncomputable def N48 (ST : Fm) (gq : List D → List D → List D) (m : Fm) : TGC := (seqG (forN (genI gq m 3 0 [(nameF 0), (op2 subP (nameF 1) (cF (.int 1))), (nameF 2)] []) (.name 3) (A48 ST))
    (fun E ds g r => E.nx ds g r))
noncomputable def T48 (ST : Fm) (gq : List D → List D → List D) (m : Fm) : TGC := (seqG (iteG (blF (op2 eqP (nameF 1) (cF (.int 0)))) Y48 (N48 ST gq m))
    (fun E ds g r => E.nx ds g r))
section
variable {ST : Fm} {E : EG} {ds : List D} {g g1 : Sg} {r : Cl} {gq : List D → List D → List D} {m : Fm}
theorem A48_of (h : forG (iterF (callM ST [(nameF 2)])) (.name 4) B48 E ds g r) : A48 ST E ds g r := h
theorem T48_of0 (ht : blF (op2 eqP (nameF 1) (cF (.int 0))) g = .ok true g1) (h : Y48 E ds g1 r) : T48 ST gq m E ds g r := by
  show iteG (blF (op2 eqP (nameF 1) (cF (.int 0)))) Y48 (N48 ST gq m) E ds g r
  unfold iteG
  rw [ht]
  exact h
theorem T48_of1 (ht : blF (op2 eqP (nameF 1) (cF (.int 0))) g = .ok false g1) (h : N48 ST gq m E ds g1 r) : T48 ST gq m E ds g r := by
  show iteG (blF (op2 eqP (nameF 1) (cF (.int 0)))) Y48 (N48 ST gq m) E ds g r
  unfold iteG
  rw [ht]
  exact h
theorem N48_of {xs : List D} (gi : genI gq m 3 0 [(nameF 0), (op2 subP (nameF 1) (cF (.int 1))), (nameF 2)] [] g = .ok xs g1) (h : loopN (.name 3) (A48 ST) E xs ds g1 []) : N48 ST gq m E ds g [] := by
  show forN (genI gq m 3 0 [(nameF 0), (op2 subP (nameF 1) (cF (.int 1))), (nameF 2)] []) (.name 3) (A48 ST) E ds g []
  refine ⟨rfl, ?_⟩
  rw [gi]
  exact h
theorem loopN_cons {t : Tg} {U : TGC} {x : D} {xs : List D} (h1 : tgF t x g = some g1) (h : U { nx := loopN t U E xs, bk := E.nx, ct := loopN t U E xs, rt := E.rt, exn := E.exn } ds g1 []) : loopN t U E (x :: xs) ds g [] := by
  refine ⟨rfl, ?_⟩
  rw [h1]
  exact h
theorem loopG_cons {t : Tg} {U : TGC} {x : D} {xs : List D} (h1 : tgF t x g = some g1) (h : U { nx := loopG t U E xs, bk := E.nx, ct := loopG t U E xs, rt := E.rt, exn := E.exn } ds g1 r) : loopG t U E (x :: xs) ds g r := by
  unfold loopG
  rw [h1]
  exact h
theorem forG_of {fi : Fi} {t : Tg} {U : TGC} {xs : List D} (h1 : fi g = .ok xs g1) (h : loopG t U E xs ds g1 r) : forG fi t U E ds g r := by
  unfold forG
  rw [h1]
  exact h
end
abbrev gS (R : D) (k n : Int) (s3 s4 s5 : Sl) : Sg := [.val true R, .val true (.int k), .val true (.int n), s3, s4, s5, .un, .un]
section
variable {ST : Fm} {c s t m e : Str} {n : Nat} {k : Int}
theorem bars48 {r : Srow} (hr : ∀ p ∈ r, 0 ≤ p.1 ∧ p.1 ≤ p.2) (hl : r.length ≤ 1000) {s3 s4 : Sl} :
    blF (op2 isP (methM "bars" ms_bars (nameF 0) [(compF (iterF (nameF 5)) (.tup [(.name 6), (.name 7)]) none (callM m_Change [(nameF 6), (nameF 7)]) [6, 7])]) (cF .non)) (gS (ruleD c s t m e) k n s3 s4 (.val false (srD r))) = .ok (okRw c s m e r) (gS (ruleD c s t m e) k n s3 s4 (.val false (srD r))) := by
  have bo := g_bars_ok c s t m e (rows := chR48 r) (by unfold chR48; rw [List.length_map]; omega) (.inr rfl : (Ar.val (.lst ((chR48 r).map chOf)) = .own (.lst ((chR48 r).map chOf)) ∨ Ar.val (.lst ((chR48 r).map chOf)) = .val (.lst ((chR48 r).map chOf))))
  have pk := bars_pk48 c s t m e
  generalize hR : ruleD c s t m e = R at *
  let G : Sg := gS R k n s3 s4 (.val false (srD r))
  have cm := comp_mapI (t := .tup [(.name 6), (.name 7)]) (fe := callM m_Change [(nameF 6), (nameF 7)]) (vs := [6, 7]) (g := G) pD48 (fun p : Int × Int => chOf (p.1, p.2, "")) (xs := r) (acc := []) (by simp [sizeLine]; omega) fun p hp => by
    let H : Sg := [.val true R, .val true (.int k), .val true (.int n), s3, s4, .val false (srD r), .val false (.int p.1), .val false (.int p.2)]
    obtain ⟨h0, h1⟩ := hr p hp
    obtain ⟨os, cd⟩ := chD2 h0 h1
    have cc : callM m_Change [(nameF 6), (nameF 7)] H = .ok (.fr (chD p.1 p.2 "")) H := e_call2 (e_sv (e_nm rfl) rfl) (e_sv (e_nm rfl) rfl) cd rfl
    refine ⟨H, rfl, .val (chD p.1 p.2 ""), H, ?_, H, rfl, rfl⟩
    rw [cc]
    rfl
  rw [List.nil_append] at cm
  have it : iterF (nameF 5) G = .ok (r.map pD48) G := rfl
  have cf := compF_of2 it rfl cm
  have er : r.map (fun p : Int × Int => chOf (p.1, p.2, "")) = (chR48 r).map chOf := by unfold chR48; rw [List.map_map]; rfl
  rw [er] at cf
  have nR : nameF 0 G = .ok (.val R) G := rfl
  have mb : methM "bars" ms_bars (nameF 0) [(compF (iterF (nameF 5)) (.tup [(.name 6), (.name 7)]) none (callM m_Change [(nameF 6), (nameF 7)]) [6, 7])] G = .ok (.val (g_optD (firstB c s m e (chR48 r)))) G := e_meth1 (e_sv nR rfl) pk (e_sv cf rfl) bo rfl
  have is : isP (g_optD (firstB c s m e (chR48 r))) .non = some (.val (.bl (okRw c s m e r))) := by
    unfold okRw
    cases firstB c s m e (chR48 r) <;> rfl
  exact e_bl (e_op2 (e_sv mb rfl) (e_sv e_c rfl) is)
theorem inner48 {row : Srow} {p : Int × Int} (hr : ∀ q ∈ row ++ [p], 0 ≤ q.1 ∧ q.1 ≤ q.2) (hl : row.length ≤ 900) {s5 : Sl} {E : EG} {ds : List D}
    (cont : E.nx (ds ++ ([row ++ [p]].filter (okRw c s m e)).map srD) (gS (ruleD c s t m e) k n (.val false (srD row)) (.val false (pD48 p)) (.val false (srD (row ++ [p])))) []) : B48 E ds (gS (ruleD c s t m e) k n (.val false (srD row)) (.val false (pD48 p)) s5) [] := by
  have bs := bars48 (c := c) (s := s) (t := t) (m := m) (e := e) (n := n) (k := k) hr (by rw [List.length_append, List.length_singleton]; omega) (s3 := .val false (srD row)) (s4 := .val false (pD48 p))
  generalize hR : ruleD c s t m e = R at *
  have sn : snocF (nameF 3) [(nameF 4)] (gS R k n (.val false (srD row)) (.val false (pD48 p)) s5) = .ok (.val (srD (row ++ [p]))) (gS R k n (.val false (srD row)) (.val false (pD48 p)) s5) := by
    have n3 : nameF 3 (gS R k n (.val false (srD row)) (.val false (pD48 p)) s5) = .ok (.val (srD row)) (gS R k n (.val false (srD row)) (.val false (pD48 p)) s5) := rfl
    have ev : evA [(nameF 4)] (gS R k n (.val false (srD row)) (.val false (pD48 p)) s5) = .ok [RV.val (pD48 p)] (gS R k n (.val false (srD row)) (.val false (pD48 p)) s5) := rfl
    have fr : frzA [RV.val (pD48 p)] (gS R k n (.val false (srD row)) (.val false (pD48 p)) s5) = some ([pD48 p], gS R k n (.val false (srD row)) (.val false (pD48 p)) s5) := rfl
    have hz : (row.map pD48).length + [pD48 p].length ≤ sizeLine := by rw [List.length_map]; show row.length + 1 ≤ 16777216; omega
    unfold snocF
    simp only [n3, settle, Res.bind, deref, ev, fr]
    rw [if_pos hz]
    simp [srD]
  have a5 : setF 5 (snocF (nameF 3) [(nameF 4)]) (gS R k n (.val false (srD row)) (.val false (pD48 p)) s5) = .nx (gS R k n (.val false (srD row)) (.val false (pD48 p)) (.val false (srD (row ++ [p])))) := (e_setv sn).trans rfl
  show outC' _ (setF 5 (snocF (nameF 3) [(nameF 4)]) (gS R k n (.val false (srD row)) (.val false (pD48 p)) s5)) []
  rw [a5]
  show iteG _ _ _ _ ds (gS R k n (.val false (srD row)) (.val false (pD48 p)) (.val false (srD (row ++ [p])))) []
  unfold iteG
  rw [bs]
  dsimp only
  by_cases h : okRw c s m e (row ++ [p]) = true
  · rw [if_pos h]
    have e1 : [row ++ [p]].filter (okRw c s m e) = [row ++ [p]] := by simp [h]
    rw [e1] at cont
    exact ⟨rfl, cont⟩
  · rw [if_neg h]
    have e1 : [row ++ [p]].filter (okRw c s m e) = [] := by simp [h]
    rw [e1] at cont
    simpa using cont
theorem pairs48 {row : Srow} (hrow : ∀ q ∈ row, 0 ≤ q.1 ∧ q.1 ≤ q.2) (hl : row.length ≤ 900) : ∀ (ps : Srow) (s4 s5 : Sl) (E : EG) (ds : List D), (∀ p ∈ ps, 0 ≤ p.1 ∧ p.1 ≤ p.2) →
    (∀ s4 s5, E.nx (ds ++ ((ps.map fun p => row ++ [p]).filter (okRw c s m e)).map srD) (gS (ruleD c s t m e) k n (.val false (srD row)) s4 s5) []) → loopG (.name 4) B48 E (ps.map pD48) ds (gS (ruleD c s t m e) k n (.val false (srD row)) s4 s5) []
  | [], s4, s5, E, ds, _, cont => by
    have := cont s4 s5
    simpa [loopG] using this
  | p :: ps, s4, s5, E, ds, hp, cont => by
    rw [List.map_cons]
    refine loopG_cons (g1 := gS (ruleD c s t m e) k n (.val false (srD row)) (.val false (pD48 p)) s5) rfl (inner48 (fun q hq => ?_) hl ?_)
    · rcases List.mem_append.mp hq with hq | hq
      · exact hrow q hq
      · rw [List.mem_singleton] at hq
        subst hq
        exact hp q (.head _)
    · show loopG (.name 4) B48 E (ps.map pD48) _ _ []
      refine pairs48 hrow hl ps _ _ E _ (fun q hq => hp q (.tail _ hq)) fun s4 s5 => ?_
      have := cont s4 s5
      rw [List.append_assoc, ← List.map_append, ← List.filter_append]
      exact this
theorem row48 {S : Srow} (st : ST [.val (.int (n : Nat))] = .ok (.fr (.lst (S.map pD48))) [.val true (.int (n : Nat))]) (so : ∀ p ∈ S, 0 ≤ p.1 ∧ p.1 ≤ p.2) {row : Srow} (hrow : ∀ q ∈ row, 0 ≤ q.1 ∧ q.1 ≤ q.2) (hl : row.length ≤ 900) {s4 s5 : Sl} {E : EG} {ds : List D}
    (cont : ∀ s4 s5, E.nx (ds ++ ((S.map fun p => row ++ [p]).filter (okRw c s m e)).map srD) (gS (ruleD c s t m e) k n (.val false (srD row)) s4 s5) []) : A48 ST E ds (gS (ruleD c s t m e) k n (.val false (srD row)) s4 s5) [] := by
  have it : iterF (callM ST [(nameF 2)]) (gS (ruleD c s t m e) k n (.val false (srD row)) s4 s5) = .ok (S.map pD48) (gS (ruleD c s t m e) k n (.val false (srD row)) s4 s5) := e_it (e_sv (e_call1 (e_sv (e_nm rfl) rfl) st rfl) rfl) rfl
  have z := pairs48 (c := c) (s := s) (t := t) (m := m) (e := e) (n := n) (k := k) (row := row) hrow hl S s4 s5 E ds so cont
  exact A48_of (forG_of it z)
theorem rows48 {S : Srow} (st : ST [.val (.int (n : Nat))] = .ok (.fr (.lst (S.map pD48))) [.val true (.int (n : Nat))]) (so : ∀ p ∈ S, 0 ≤ p.1 ∧ p.1 ≤ p.2) : ∀ (rs : List Srow) (s3 s4 s5 : Sl) (E : EG) (ds : List D), (∀ r ∈ rs, (∀ q ∈ r, 0 ≤ q.1 ∧ q.1 ≤ q.2) ∧ r.length ≤ 900) →
    (∀ s3 s4 s5, E.nx (ds ++ (rs.flatMap fun row => (S.map fun p => row ++ [p]).filter (okRw c s m e)).map srD) (gS (ruleD c s t m e) k n s3 s4 s5) []) → loopN (.name 3) (A48 ST) E (rs.map srD) ds (gS (ruleD c s t m e) k n s3 s4 s5) []
  | [], s3, s4, s5, E, ds, _, cont => ⟨rfl, by simpa using cont s3 s4 s5⟩
  | r :: rs, s3, s4, s5, E, ds, hr, cont => by
    obtain ⟨h1, h2⟩ := hr r (.head _)
    rw [List.map_cons]
    refine loopN_cons (g1 := gS (ruleD c s t m e) k n (.val false (srD r)) s4 s5) rfl (row48 (c := c) (s := s) (t := t) (m := m) (e := e) (n := n) (k := k) (row := r) st so h1 h2 fun s4 s5 => ?_)
    show loopN (.name 3) (A48 ST) E (rs.map srD) _ _ []
    refine rows48 st so rs _ s4 s5 E _ (fun q hq => hr q (.tail _ hq)) fun s3 s4 s5 => ?_
    have := cont s3 s4 s5
    rw [List.flatMap_cons] at this
    rw [List.append_assoc, ← List.map_append]
    exact this
theorem T48_zero {gq : List D → List D → List D} {M : Fm} : T48 ST gq M (endG 3 (.ok (.fr (.lst ((SR c s m e n 0).map srD))) [.val true (ruleD c s t m e), .val true (.int 0), .val true (.int n)])) [] (startG 8 [.val (ruleD c s t m e), .val (.int 0), .val (.int n)]) [] := by
  generalize ruleD c s t m e = R
  have ht : blF (op2 eqP (nameF 1) (cF (.int 0))) (gS R 0 n .un .un .un) = .ok true (gS R 0 n .un .un .un) := e_bl ((e_op2 (e_sv (e_nm rfl) rfl) (e_sv e_c rfl) (l_eqI 0 0)).trans (by rw [decide_eq_true rfl]))
  have st : startG 8 [.val R, .val (.int 0), .val (.int n)] = gS R 0 n .un .un .un := rfl
  rw [st]
  exact T48_of0 ht ⟨rfl, rfl⟩
theorem T48_succ {gq : List D → List D → List D} {M : Fm} {q : Nat} {os : List Sl} (hn : n ≤ 100) (hq : q ≤ 100) (hg : ∀ a b c, gq [a, b, c] [] = [a, b, c]) (hm : M [.val (ruleD c s t m e), .val (.int (q : Nat)), .val (.int n)] = .ok (.fr (.lst ((SR c s m e n q).map srD))) os) :
    T48 m_stretches gq M (endG 3 (.ok (.fr (.lst ((SR c s m e n (q + 1)).map srD))) [.val true (ruleD c s t m e), .val true (.int ((q : Int) + 1)), .val true (.int n)])) [] (startG 8 [.val (ruleD c s t m e), .val (.int ((q : Int) + 1)), .val (.int n)]) [] := by
  have e1 : SR c s m e n (q + 1) = (SR c s m e n q).flatMap fun row => ((strL n).map fun p => row ++ [p]).filter (okRw c s m e) := rfl
  have rw_ := rows48 (c := c) (s := s) (t := t) (m := m) (e := e) (n := n) (k := (q : Int) + 1) (stretches_ok hn) (fun p hp => by have := strL_ok hp; omega) (SR c s m e n q) .un .un .un (endG 3 (.ok (.fr (.lst ((SR c s m e n (q + 1)).map srD))) [.val true (ruleD c s t m e), .val true (.int ((q : Int) + 1)), .val true (.int n)])) [] (fun r hr => by
    have := SR_ok r hr
    exact ⟨fun p hp => by have := this.o p hp; omega, by rw [this.l]; omega⟩) fun s3 s4 s5 => by
      rw [← e1, List.nil_append]
      rfl
  generalize ruleD c s t m e = R at *
  have ht : blF (op2 eqP (nameF 1) (cF (.int 0))) (gS R ((q : Int) + 1) n .un .un .un) = .ok false (gS R ((q : Int) + 1) n .un .un .un) := e_bl ((e_op2 (e_sv (e_nm rfl) rfl) (e_sv e_c rfl) (l_eqI _ 0)).trans (by rw [decide_eq_false (by omega)]))
  have st : startG 8 [.val R, .val (.int ((q : Int) + 1)), .val (.int n)] = gS R ((q : Int) + 1) n .un .un .un := rfl
  have o1 : op2 subP (nameF 1) (cF (.int 1)) (gS R ((q : Int) + 1) n .un .un .un) = .ok (.val (.int (q : Int))) (gS R ((q : Int) + 1) n .un .un .un) := e_op2 (e_sv (e_nm rfl) rfl) (e_sv e_c rfl) (by show some (RV.val (.int ((q : Int) + 1 - 1))) = _; rw [show (q : Int) + 1 - 1 = q by omega])
  have ev : evA [(nameF 0), (op2 subP (nameF 1) (cF (.int 1))), (nameF 2)] (gS R ((q : Int) + 1) n .un .un .un) = .ok [.val R, .val (.int (q : Int)), .val (.int n)] (gS R ((q : Int) + 1) n .un .un .un) := e_a (ds := [.int (q : Int), .int n]) (e_sv (e_nm rfl) rfl) (e_a (ds := [.int n]) (e_sv o1 rfl) (e_a (ds := []) (e_sv (e_nm rfl) rfl) e_a0))
  have gi : genI gq M 3 0 [(nameF 0), (op2 subP (nameF 1) (cF (.int 1))), (nameF 2)] [] (gS R ((q : Int) + 1) n .un .un .un) = .ok ((SR c s m e n q).map srD) (gS R ((q : Int) + 1) n .un .un .un) := by
    have e0 : evA [] (gS R ((q : Int) + 1) n .un .un .un) = .ok [] (gS R ((q : Int) + 1) n .un .un .un) := rfl
    have k : genK gq M 3 0 [.val R, .val (.int (q : Int)), .val (.int n)] [] = some ((SR c s m e n q).map srD) := by
      show (if ([R, .int (q : Int), .int n] : List D).length = 3 ∧ ([] : List D).length = 0 then (match M ((gq [R, .int (q : Int), .int n] []).map Ar.val) with | .ok (.fr (.lst out)) _ => some out | _ => none) else none) = _
      rw [if_pos ⟨rfl, rfl⟩, hg]
      show (match M [.val R, .val (.int (q : Int)), .val (.int n)] with | .ok (.fr (.lst out)) _ => some out | _ => none) = _
      rw [hm]
    unfold genI
    rw [ev]
    simp only [Res.bind, e0, k]
  rw [st]
  exact T48_of1 ht (N48_of gi rw_)
theorem lev48 {T : TGC} {M : Fm} {k : Int} {rs : List Srow} (td : TgD T) (hM : M = onlyL (fnC 3 (hmG 3 8 T))) (h : T (endG 3 (.ok (.fr (.lst (rs.map srD))) [.val true (ruleD c s t m e), .val true (.int k), .val true (.int n)])) [] (startG 8 [.val (ruleD c s t m e), .val (.int k), .val (.int n)]) []) :
    M [.val (ruleD c s t m e), .val (.int k), .val (.int n)] = .ok (.fr (.lst (rs.map srD))) [.val true (ruleD c s t m e), .val true (.int k), .val true (.int n)] := by
  subst hM
  refine onlyL_ok ?_
  unfold fnC
  rw [if_pos (show ([.val (ruleD c s t m e), .val (.int k), .val (.int n)] : List Ar).length = 3 from rfl)]
  exact hmG_eq td (fun e => nomatch e) h
theorem gq48 (a b c : D) : pickL [0, 1, 2] ([a, b, c] ++ ([] ++ [])) = [a, b, c] := rfl
theorem srows_ok (hn : n ≤ 100) {k : Nat} (hk : k ≤ 3) : m_stretch_rows [.val (ruleD c s t m e), .val (.int (k : Nat)), .val (.int n)] = .ok (.fr (.lst ((SR c s m e n k).map srD))) [.val true (ruleD c s t m e), .val true (.int (k : Nat)), .val true (.int n)] := by
  have a0 : m_stretch_rows__r1 [.val (ruleD c s t m e), .val (.int ((0 : Nat) : Int)), .val (.int n)] = _ := lev48 (T := t_stretch_rows__r1) td_stretch_rows__r1 rfl (T48_zero (ST := m_stretches) (gq := gq_stretch_rows__r0_3_) (M := m_stretch_rows__r0))
  have b0 : m_stretch_rows__r2 [.val (ruleD c s t m e), .val (.int ((0 : Nat) : Int)), .val (.int n)] = _ := lev48 (T := t_stretch_rows__r2) td_stretch_rows__r2 rfl (T48_zero (ST := m_stretches) (gq := gq_stretch_rows__r1_3_) (M := m_stretch_rows__r1))
  have c0 : m_stretch_rows__r3 [.val (ruleD c s t m e), .val (.int ((0 : Nat) : Int)), .val (.int n)] = _ := lev48 (T := t_stretch_rows__r3) td_stretch_rows__r3 rfl (T48_zero (ST := m_stretches) (gq := gq_stretch_rows__r2_3_) (M := m_stretch_rows__r2))
  have b1 : m_stretch_rows__r2 [.val (ruleD c s t m e), .val (.int ((1 : Nat) : Int)), .val (.int n)] = _ := lev48 (T := t_stretch_rows__r2) td_stretch_rows__r2 rfl (T48_succ (q := 0) (gq := gq_stretch_rows__r1_3_) hn (by omega) (fun a b c => gq48 a b c) a0)
  have c1 : m_stretch_rows__r3 [.val (ruleD c s t m e), .val (.int ((1 : Nat) : Int)), .val (.int n)] = _ := lev48 (T := t_stretch_rows__r3) td_stretch_rows__r3 rfl (T48_succ (q := 0) (gq := gq_stretch_rows__r2_3_) hn (by omega) (fun a b c => gq48 a b c) b0)
  have c2 : m_stretch_rows__r3 [.val (ruleD c s t m e), .val (.int ((2 : Nat) : Int)), .val (.int n)] = _ := lev48 (T := t_stretch_rows__r3) td_stretch_rows__r3 rfl (T48_succ (q := 1) (gq := gq_stretch_rows__r2_3_) hn (by omega) (fun a b c => gq48 a b c) b1)
  have hk : k = 0 ∨ k = 1 ∨ k = 2 ∨ k = 3 := by omega
  rcases hk with rfl | rfl | rfl | rfl
  · exact lev48 (T := t_stretch_rows) td_stretch_rows rfl (T48_zero (ST := m_stretches) (gq := gq_stretch_rows__r3_3_) (M := m_stretch_rows__r3))
  · exact lev48 (T := t_stretch_rows) td_stretch_rows rfl (T48_succ (q := 0) (gq := gq_stretch_rows__r3_3_) hn (by omega) (fun a b c => gq48 a b c) c0)
  · exact lev48 (T := t_stretch_rows) td_stretch_rows rfl (T48_succ (q := 1) (gq := gq_stretch_rows__r3_3_) hn (by omega) (fun a b c => gq48 a b c) c1)
  · exact lev48 (T := t_stretch_rows) td_stretch_rows rfl (T48_succ (q := 2) (gq := gq_stretch_rows__r3_3_) hn (by omega) (fun a b c => gq48 a b c) c2)
end
end Vl
set_option Elab.async false
set_option linter.all false
set_option maxRecDepth 100000
set_option maxHeartbeats 4000000
namespace Vl
open PySem PySem.Spec PyProof.Rows L2 My
def SZ : Nat → List (List Nat)
  | 0 => [[]]
  | k + 1 => (SZ k).flatMap fun r => (List.range 3).map fun z => r ++ [z]
abbrev szD (l : List Nat) : D := .tup (l.map fun (z : Nat) => D.int (z : Int))
theorem sizes_ok {k : Nat} (hk : k ≤ 3) : ∃ r os, m_size_rows [.val (.int (k : Nat))] = .ok r os ∧ stl r = some (.lst ((SZ k).map szD)) := by
  have hk : k = 0 ∨ k = 1 ∨ k = 2 ∨ k = 3 := by omega
  rcases hk with rfl | rfl | rfl | rfl
  · exact ⟨.fr (.lst ((SZ 0).map szD)), [.val true (.int 0)], by kernel_rfl, rfl⟩
  · exact ⟨.val (.lst ((SZ 1).map szD)), [.val true (.int 1)], by kernel_rfl, rfl⟩
  · exact ⟨.val (.lst ((SZ 2).map szD)), [.val true (.int 2)], by kernel_rfl, rfl⟩
  · exact ⟨.val (.lst ((SZ 3).map szD)), [.val true (.int 3)], by kernel_rfl, rfl⟩
theorem SZ_ok : ∀ {k : Nat}, ∀ l ∈ SZ k, l.length = k ∧ ∀ z ∈ l, z ≤ 2
  | 0, l, h => by
    have : l = [] := by simpa [SZ] using h
    subst this
    exact ⟨rfl, fun z h => nomatch h⟩
  | k + 1, l, h => by
    unfold SZ at h
    obtain ⟨q, hq, h⟩ := List.mem_flatMap.mp h
    obtain ⟨z, hz, rfl⟩ := List.mem_map.mp h
    obtain ⟨i1, i2⟩ := SZ_ok (k := k) q hq
    refine ⟨by rw [List.length_append, i1]; rfl, fun x hx => ?_⟩
    rcases List.mem_append.mp hx with hx | hx
    · exact i2 x hx
    · rw [List.mem_singleton] at hx
      subst hx
      have := List.mem_range.mp hz
      omega
abbrev NW48 : List Str := ["AB", "CD", "EF"]
def zip48 : Srow → List Nat → List Str → List ((Int × Int) × Nat × Str)
  | p :: r, z :: l, w :: s => (p, z, w) :: zip48 r l s
  | _, _, _ => []
abbrev itD (x : (Int × Int) × Nat × Str) : D := .tup [pD48 x.1, .int (x.2.1 : Int), .str x.2.2]
def toRow (x : (Int × Int) × Nat × Str) : Row := (x.1.1, x.1.2, cutS x.2.2 none (some (x.2.1 : Int)))
def mkR (r : Srow) (l : List Nat) : List Row := (zip48 r l NW48).map toRow
theorem zip_D48 : ∀ (r : Srow) (l : List Nat) (s : List Str), zipD3 (r.map pD48) (l.map fun (z : Nat) => D.int (z : Int)) (s.map D.str) = (zip48 r l s).map itD
  | [], l, s => by cases l <;> cases s <;> rfl
  | p :: r, [], s => by cases s <;> rfl
  | p :: r, z :: l, [] => rfl
  | p :: r, z :: l, w :: s => by
    show _ :: zipD3 (r.map pD48) (l.map fun (z : Nat) => D.int (z : Int)) (s.map D.str) = _
    rw [zip_D48 r l s]
    rfl
theorem zip_mem48 : ∀ {r : Srow} {l : List Nat} {s : List Str} {x : (Int × Int) × Nat × Str}, x ∈ zip48 r l s → x.1 ∈ r ∧ x.2.1 ∈ l ∧ x.2.2 ∈ s
  | [], l, s, x, h => by cases l <;> cases s <;> cases h
  | p :: r, [], s, x, h => by cases s <;> cases h
  | p :: r, z :: l, [], x, h => by cases h
  | p :: r, z :: l, w :: s, x, h => by
    rcases List.mem_cons.mp h with rfl | h
    · exact ⟨.head _, .head _, .head _⟩
    · obtain ⟨a, b, c⟩ := zip_mem48 h
      exact ⟨.tail _ a, .tail _ b, .tail _ c⟩
theorem zip_len48 : ∀ {r : Srow} {l : List Nat} {s : List Str}, r.length = l.length → r.length ≤ s.length → (zip48 r l s).length = r.length
  | [], l, s, _, _ => by cases l <;> cases s <;> rfl
  | p :: r, [], s, h, _ => by simp at h
  | p :: r, z :: l, [], _, h => by simp at h
  | p :: r, z :: l, w :: s, h1, h2 => by
    show (zip48 r l s).length + 1 = _
    rw [zip_len48 (by simpa using h1) (by simpa using h2)]
    rfl
theorem zip_fst48 : ∀ {r : Srow} {l : List Nat} {s : List Str}, r.length = l.length → r.length ≤ s.length → (zip48 r l s).map (·.1) = r
  | [], l, s, _, _ => by cases l <;> cases s <;> rfl
  | p :: r, [], s, h, _ => by simp at h
  | p :: r, z :: l, [], _, h => by simp at h
  | p :: r, z :: l, w :: s, h1, h2 => by
    show p :: (zip48 r l s).map (·.1) = _
    rw [zip_fst48 (by simpa using h1) (by simpa using h2)]
theorem zip_snd48 : ∀ {r : Srow} {l : List Nat} {s : List Str}, r.length = l.length → r.length ≤ s.length → (zip48 r l s).map (·.2.1) = l
  | [], [], s, _, _ => by cases s <;> rfl
  | [], z :: l, s, h, _ => by simp at h
  | p :: r, [], s, h, _ => by simp at h
  | p :: r, z :: l, [], _, h => by simp at h
  | p :: r, z :: l, w :: s, h1, h2 => by
    show z :: (zip48 r l s).map (·.2.1) = _
    rw [zip_snd48 (by simpa using h1) (by simpa using h2)]
abbrev caD (n : Int) (rows : List Row) : D := .ins "Case" [("length", .int n), ("changes", .tup (rows.map chOf))]
theorem cut48 (w : Str) (h : w.length ≤ 10) (z : Nat) : slP (.str w) none (some (z : Int)) = some (.val (.str (cutS w none (some (z : Int))))) := by
  have hs : w.length ≤ sizeLine := by show w.length ≤ 16777216; omega
  simp only [slP]
  rw [if_pos hs]
theorem case_go48 {N R S : Sl} : ∀ (xs : List ((Int × Int) × Nat × Str)) (acc : List Row) (s4 s5 s6 s7 : Sl), (∀ x ∈ xs, 0 ≤ x.1.1 ∧ x.1.1 ≤ x.1.2 ∧ x.2.2.length ≤ 10) → acc.length + xs.length ≤ 100 →
    ∃ t4 t5 t6 t7, loopF (.tup [(.tup [(.name 4), (.name 5)]), (.name 6), (.name 7)]) b_case_of_0 (xs.map itD) [N, R, S, .own false (.lst (acc.map chOf)), s4, s5, s6, s7] = .nx [N, R, S, .own false (.lst ((acc ++ xs.map toRow).map chOf)), t4, t5, t6, t7]
  | [], acc, s4, s5, s6, s7, _, _ => ⟨s4, s5, s6, s7, by simp only [List.map_nil, List.append_nil, loopF]⟩
  | x :: xs, acc, s4, s5, s6, s7, h, hl => by
    obtain ⟨h0, h1, h2⟩ := h x (.head _)
    rw [List.length_cons] at hl
    obtain ⟨⟨a, b⟩, z, w⟩ := x
    dsimp only at h0 h1 h2
    let G : Sg := [N, R, S, .own false (.lst (acc.map chOf)), .val false (.int a), .val false (.int b), .val false (.int (z : Int)), .val false (.str w)]
    have n6 : nameF 6 G = .ok (.val (.int (z : Int))) G := rfl
    have n7 : nameF 7 G = .ok (.val (.str w)) G := rfl
    have sl : slF (nameF 7) none (some (nameF 6)) G = .ok (.val (.str (cutS w none (some (z : Int))))) G := by
      have c := cut48 w h2 z
      generalize nameF 6 = F6 at *
      generalize nameF 7 = F7 at *
      simp only [slF, n7, settle, Res.bind, optF, n6, lift1, deref, c]
    have cc : callM m_Change [(nameF 4), (nameF 5), (slF (nameF 7) none (some (nameF 6)))] G = .ok (.fr (chD a b (cutS w none (some (z : Int))))) G := e_call3 (e_sv (e_nm rfl) rfl) (e_sv (e_nm rfl) rfl) (e_sv sl rfl) (change_ok h0 h1) rfl
    have ap := e_app (i := 3) (g := G) rfl (e_sv cc rfl) rfl (by rw [List.length_map]; show acc.length < 16777216; omega)
    have bd : b_case_of_0 G = .nx [N, R, S, .own false (.lst ((acc ++ [toRow ((a, b), z, w)]).map chOf)), .val false (.int a), .val false (.int b), .val false (.int (z : Int)), .val false (.str w)] := by
      unfold b_case_of_0
      refine ap.trans ?_
      rw [List.map_append]
      rfl
    obtain ⟨t4, t5, t6, t7, e⟩ := case_go48 xs (acc ++ [toRow ((a, b), z, w)]) _ _ _ _ (fun y hy => h y (.tail _ hy)) (by rw [List.length_append, List.length_singleton]; omega)
    refine ⟨t4, t5, t6, t7, ?_⟩
    rw [List.map_cons, loopF, show tgF (.tup [(.tup [(.name 4), (.name 5)]), (.name 6), (.name 7)]) (itD ((a, b), z, w)) [N, R, S, .own false (.lst (acc.map chOf)), s4, s5, s6, s7] = some G from rfl]
    dsimp only
    rw [bd]
    dsimp only
    rw [e, List.append_assoc]
    rfl
theorem caseof_ok {n : Int} {r : Srow} {l : List Nat} (hr : ∀ p ∈ r, 0 ≤ p.1 ∧ p.1 ≤ p.2) (hl : r.length ≤ 3) : ∃ os, m_case_of [.val (.int n), .val (srD r), .val (szD l)] = .ok (.fr (caD n (mkR r l))) os := by
  let N : Sl := .val true (.int n)
  let R : Sl := .val true (srD r)
  let S : Sl := .val true (szD l)
  have zl : (zip48 r l NW48).length ≤ 3 := by
    have : ∀ (r : Srow) (l : List Nat) (s : List Str), (zip48 r l s).length ≤ r.length := by
      intro r
      induction r with
      | nil => intro l s; cases l <;> cases s <;> exact Nat.le_refl 0
      | cons p r ih =>
        intro l s
        cases l with
        | nil => cases s <;> exact Nat.zero_le _
        | cons z l =>
          cases s with
          | nil => exact Nat.zero_le _
          | cons w s => exact Nat.succ_le_succ (ih l s)
    exact Nat.le_trans (this r l NW48) hl
  obtain ⟨t4, t5, t6, t7, lp⟩ := case_go48 (N := N) (R := R) (S := S) (zip48 r l NW48) [] .un .un .un .un (fun x hx => by
    obtain ⟨a, _, c⟩ := zip_mem48 hx
    have := hr _ a
    refine ⟨this.1, this.2, ?_⟩
    have : ∀ w ∈ NW48, w.length ≤ 10 := by decide
    exact this _ c) (by simp; omega)
  rw [List.nil_append] at lp
  have ai : argsI zipOf3T [(nameF 1), (nameF 2), (cF (.tup [(.str "AB"), (.str "CD"), (.str "EF")]))] [N, R, S, .own false (.lst []), .un, .un, .un, .un] = .ok ((zip48 r l NW48).map itD) [N, R, S, .own false (.lst []), .un, .un, .un, .un] := by
    have z : zipOf3T [srD r, szD l, .tup [(.str "AB"), (.str "CD"), (.str "EF")]] = some ((zip48 r l NW48).map itD) := by
      rw [← zip_D48]
      rfl
    exact e_ai (ds := [srD r, szD l, .tup [(.str "AB"), (.str "CD"), (.str "EF")]]) (e_a (e_sv (e_nm rfl) rfl) (e_a (e_sv (e_nm rfl) rfl) (e_a (e_sv e_c rfl) e_a0))) z
  have mk : ∀ rows : List Row, m_Case [.val (.int n), .own (.lst (rows.map chOf))] = .ok (.fr (caD n rows)) [.val true (.int n), .own true (.lst (rows.map chOf))] := fun rows => by
    generalize rows.map chOf = X
    kernel_rfl
  have s3 : setF 3 (valsF [] lstP) [N, R, S, .un, .un, .un, .un, .un] = .nx [N, R, S, .own false (.lst []), .un, .un, .un, .un] := rfl
  have c0 : callM m_Case [(nameF 0), (nameF 3)] [N, R, S, .own false (.lst ((mkR r l).map chOf)), t4, t5, t6, t7] = .ok (.fr (caD n (mkR r l))) [N, R, S, .own false (.lst ((mkR r l).map chOf)), t4, t5, t6, t7] := by
    have m := mk (mkR r l)
    generalize (mkR r l).map chOf = X at *
    unfold callM
    show (evA [(nameF 0), (nameF 3)] [N, R, S, .own false (.lst X), t4, t5, t6, t7]).bind (callK m_Case) = _
    rw [show evA [(nameF 0), (nameF 3)] [N, R, S, .own false (.lst X), t4, t5, t6, t7] = .ok [.val (.int n), .at_ 3] [N, R, S, .own false (.lst X), t4, t5, t6, t7] from rfl]
    simp only [Res.bind, callK]
    rw [show toArs [N, R, S, .own false (.lst X), t4, t5, t6, t7] [.val (.int n), .at_ 3] = some [.val (.int n), .own (.lst X)] from rfl]
    simp only [m]
    rw [if_pos (show (ixs [RV.val (D.int n), RV.at_ 3]).Nodup from (by decide : ([3] : List Nat).Nodup))]
    cases t4 <;> cases t5 <;> cases t6 <;> cases t7 <;> rfl
  unfold m_case_of
  exact ⟨_, e_fn rfl (e_seq s3 (e_seq (e_for ai lp) (e_ret c0 rfl)))⟩
def CS48 (c s m e : Str) (n k : Nat) : List (List Row) := (SR c s m e n k).flatMap fun r => (SZ k).map (mkR r)
noncomputable def D48 (CO : Fm) : TGC := (seqG (yValN (settleF (callM CO [(nameF 2), (nameF 3), (nameF 4)])))
    (fun E ds g r => E.nx ds g r))
noncomputable def F48 (SI CO : Fm) : TGC := (seqG (forG (iterF (callM SI [(nameF 1)])) (.name 4) (D48 CO))
    (fun E ds g r => E.nx ds g r))
noncomputable def C48 (gq : List D → List D → List D) (M SI CO : Fm) : TGC := (seqG (forN (genI gq M 3 0 [(nameF 0), (nameF 1), (nameF 2)] []) (.name 3) (F48 SI CO))
    (fun E ds g r => E.nx ds g r))
abbrev gC (R : D) (k n : Int) (s3 s4 : Sl) : Sg := [.val true R, .val true (.int k), .val true (.int n), s3, s4]
section
variable {M SI CO : Fm} {R : D} {k n : Int} {gq : List D → List D → List D}
theorem sz48 (hc : ∀ r l, r.length ≤ 3 → (∀ p ∈ r, 0 ≤ p.1 ∧ p.1 ≤ p.2) → ∃ os, CO [.val (.int n), .val (srD r), .val (szD l)] = .ok (.fr (caD n (mkR r l))) os) {r : Srow} (hl : r.length ≤ 3) (hr : ∀ p ∈ r, 0 ≤ p.1 ∧ p.1 ≤ p.2) : ∀ (ls : List (List Nat)) (s4 : Sl) (E : EG) (ds : List D),
    (∀ s4, E.nx (ds ++ ((ls.map (mkR r)).map (caD n))) (gC R k n (.val false (srD r)) s4) []) → loopG (.name 4) (D48 CO) E (ls.map szD) ds (gC R k n (.val false (srD r)) s4) []
  | [], s4, E, ds, cont => by simpa [loopG] using cont s4
  | l :: ls, s4, E, ds, cont => by
    obtain ⟨os, co⟩ := hc r l hl hr
    have yv : settleF (callM CO [(nameF 2), (nameF 3), (nameF 4)]) (gC R k n (.val false (srD r)) (.val false (szD l))) = .ok (.val (caD n (mkR r l))) (gC R k n (.val false (srD r)) (.val false (szD l))) := e_st (e_call3 (e_sv (e_nm rfl) rfl) (e_sv (e_nm rfl) rfl) (e_sv (e_nm rfl) rfl) co rfl) rfl
    have ih := sz48 hc hl hr ls (.val false (szD l)) E (ds ++ [caD n (mkR r l)]) fun s4 => by
      have := cont s4
      rw [List.append_assoc]
      exact this
    rw [List.map_cons]
    refine loopG_cons (g1 := gC R k n (.val false (srD r)) (.val false (szD l))) rfl ?_
    show yValN (settleF (callM CO [(nameF 2), (nameF 3), (nameF 4)])) _ ds (gC R k n (.val false (srD r)) (.val false (szD l))) []
    unfold yValN
    rw [yv]
    exact ⟨rfl, ih⟩
theorem rw48 (hc : ∀ r l, r.length ≤ 3 → (∀ p ∈ r, 0 ≤ p.1 ∧ p.1 ≤ p.2) → ∃ os, CO [.val (.int n), .val (srD r), .val (szD l)] = .ok (.fr (caD n (mkR r l))) os) {ls : List (List Nat)} {sr : RV} {os : List Sl} (hs : SI [.val (.int k)] = .ok sr os) (hs2 : stl sr = some (.lst (ls.map szD))) : ∀ (rs : List Srow) (s3 s4 : Sl) (E : EG) (ds : List D), (∀ r ∈ rs, r.length ≤ 3 ∧ ∀ p ∈ r, 0 ≤ p.1 ∧ p.1 ≤ p.2) →
    (∀ s3 s4, E.nx (ds ++ (rs.flatMap fun r => (ls.map (mkR r))).map (caD n)) (gC R k n s3 s4) []) → loopN (.name 3) (F48 SI CO) E (rs.map srD) ds (gC R k n s3 s4) []
  | [], s3, s4, E, ds, _, cont => ⟨rfl, by simpa using cont s3 s4⟩
  | r :: rs, s3, s4, E, ds, h, cont => by
    obtain ⟨h1, h2⟩ := h r (.head _)
    have it : iterF (callM SI [(nameF 1)]) (gC R k n (.val false (srD r)) s4) = .ok (ls.map szD) (gC R k n (.val false (srD r)) s4) := e_it (e_sv (e_call1 (e_sv (e_nm rfl) rfl) hs hs2) hs2) rfl
    rw [List.map_cons]
    refine loopN_cons (g1 := gC R k n (.val false (srD r)) s4) rfl ?_
    show forG (iterF (callM SI [(nameF 1)])) (.name 4) (D48 CO) _ ds (gC R k n (.val false (srD r)) s4) []
    refine forG_of it (sz48 hc h1 h2 ls s4 _ ds fun s4 => ?_)
    show loopN (.name 3) (F48 SI CO) E (rs.map srD) _ _ []
    refine rw48 hc hs hs2 rs _ s4 E _ (fun q hq => h q (.tail _ hq)) fun s3 s4 => ?_
    have := cont s3 s4
    rw [List.flatMap_cons] at this
    rw [List.append_assoc, ← List.map_append]
    exact this
end
theorem cases_ok {c s t m e : Str} {n k : Nat} (hn : n ≤ 100) (hk : k ≤ 3) : m_cases [.val (ruleD c s t m e), .val (.int (k : Nat)), .val (.int n)] = .ok (.fr (.lst ((CS48 c s m e n k).map (caD n)))) [.val true (ruleD c s t m e), .val true (.int (k : Nat)), .val true (.int n)] := by
  obtain ⟨sr, so, s1, s2⟩ := sizes_ok hk
  have sw := srows_ok (c := c) (s := s) (t := t) (m := m) (e := e) hn hk
  have eC : CS48 c s m e n k = (SR c s m e n k).flatMap fun r => (SZ k).map (mkR r) := rfl
  have body := rw48 (R := ruleD c s t m e) (n := (n : Int)) (CO := m_case_of) (fun r l hl hr => caseof_ok hr hl) s1 s2 (SR c s m e n k) .un .un (endG 3 (.ok (.fr (.lst ((CS48 c s m e n k).map (caD n)))) [.val true (ruleD c s t m e), .val true (.int (k : Nat)), .val true (.int n)])) [] (fun r hr => by
    have := SR_ok r hr
    exact ⟨by rw [this.l]; exact hk, fun p hp => by have := this.o p hp; omega⟩) fun s3 s4 => by
      rw [← eC, List.nil_append]
      rfl
  refine onlyL_ok ?_
  show fnC 3 hm_cases _ = _
  unfold fnC
  rw [if_pos (show ([.val (ruleD c s t m e), .val (.int (k : Nat)), .val (.int n)] : List Ar).length = 3 from rfl)]
  refine hmG_eq td_cases (fun e => nomatch e) ?_
  show C48 gq_stretch_rows_3_ m_stretch_rows m_size_rows m_case_of _ [] (startG 5 [.val (ruleD c s t m e), .val (.int (k : Nat)), .val (.int n)]) []
  generalize m_case_of = CO at *
  generalize m_size_rows = SI at *
  generalize m_stretch_rows = M at *
  generalize ruleD c s t m e = R at *
  have ev : evA [(nameF 0), (nameF 1), (nameF 2)] (gC R k n .un .un) = .ok [.val R, .val (.int (k : Nat)), .val (.int n)] (gC R k n .un .un) := rfl
  have gi : genI gq_stretch_rows_3_ M 3 0 [(nameF 0), (nameF 1), (nameF 2)] [] (gC R k n .un .un) = .ok ((SR c s m e n k).map srD) (gC R k n .un .un) := by
    have e0 : evA [] (gC R k n .un .un) = .ok [] (gC R k n .un .un) := rfl
    have kk : genK gq_stretch_rows_3_ M 3 0 [.val R, .val (.int (k : Nat)), .val (.int n)] [] = some ((SR c s m e n k).map srD) := by
      show (if ([R, .int (k : Nat), .int n] : List D).length = 3 ∧ ([] : List D).length = 0 then (match M ((gq_stretch_rows_3_ [R, .int (k : Nat), .int n] []).map Ar.val) with | .ok (.fr (.lst out)) _ => some out | _ => none) else none) = _
      rw [if_pos ⟨rfl, rfl⟩]
      show (match M [.val R, .val (.int (k : Nat)), .val (.int n)] with | .ok (.fr (.lst out)) _ => some out | _ => none) = _
      rw [sw]
    unfold genI
    rw [ev]
    simp only [Res.bind, e0, kk]
  show forN (genI gq_stretch_rows_3_ M 3 0 [(nameF 0), (nameF 1), (nameF 2)] []) (.name 3) (F48 SI CO) _ [] (gC R k n .un .un) []
  refine ⟨rfl, ?_⟩
  rw [gi]
  exact body
end Vl
set_option Elab.async false
set_option linter.all false
set_option maxRecDepth 100000
set_option maxHeartbeats 4000000
namespace Vl
open PySem PySem.Spec PyProof.Rows L2 My
def SP (n : Nat) : Nat → List Srow
  | 0 => [[]]
  | k + 1 => (SP n k).flatMap fun row => (strL n).map fun p => row ++ [p]
theorem barB_pre {c s m e : Str} {rows : List Row} {x : Row} {j : Nat} (hj : j < rows.length) : barB c s m e (rows ++ [x]) j (rowAt (rows ++ [x]) j) = barB c s m e rows j (rowAt rows j) := by
  have h1 : rowAt (rows ++ [x]) j = rowAt rows j := by
    unfold rowAt
    rw [List.getElem?_append_left hj]
  rw [h1]
  unfold barB t2 t3
  rw [List.take_append_of_le_length (by omega), List.getElem?_append_left (by omega)]
theorem firstB_none {c s m e : Str} {rows : List Row} : firstB c s m e rows = none ↔ ∀ j, j < rows.length → barB c s m e rows j (rowAt rows j) = false := by
  unfold firstB
  rw [List.find?_eq_none]
  constructor
  · intro h j hj
    simpa using h j (List.mem_range.mpr hj)
  · intro h j hj
    simpa using h j (List.mem_range.mp hj)
theorem okR_pre {c s m e : Str} {row : Srow} {p : Int × Int} (h : okRw c s m e (row ++ [p]) = true) : okRw c s m e row = true := by
  unfold okRw at *
  rw [Option.isNone_iff_eq_none, firstB_none] at *
  intro j hj
  have e : chR48 (row ++ [p]) = chR48 row ++ [((p.1, p.2, "") : Row)] := by unfold chR48; rw [List.map_append]; rfl
  rw [← barB_pre (x := (p.1, p.2, "")) hj, ← e]
  exact h j (by rw [e, List.length_append]; omega)
theorem filt_flat {α β : Type} {q : β → Bool} {p : α → Bool} {f : α → List β} : ∀ {l : List α}, (∀ a ∈ l, ∀ b ∈ f a, q b = true → p a = true) → (l.filter p).flatMap (fun a => (f a).filter q) = (l.flatMap f).filter q
  | [], _ => rfl
  | a :: l, h => by
    have ih := filt_flat (l := l) fun a ha => h a (.tail _ ha)
    rw [List.flatMap_cons, List.filter_append, ← ih, List.filter_cons]
    by_cases hp : p a = true
    · rw [if_pos hp, List.flatMap_cons]
    · rw [if_neg hp]
      have : (f a).filter q = [] := by
        rw [List.filter_eq_nil_iff]
        intro b hb hq
        exact hp (h a (.head _) b hb hq)
      rw [this, List.nil_append]
theorem SR_SP {c s m e : Str} {n : Nat} : ∀ {k : Nat}, SR c s m e n k = (SP n k).filter (okRw c s m e)
  | 0 => by
    show [[]] = List.filter (okRw c s m e) [[]]
    rw [List.filter_cons, if_pos (show okRw c s m e [] = true from rfl)]
    rfl
  | k + 1 => by
    unfold SR SP
    rw [SR_SP (k := k)]
    refine filt_flat fun row _ b hb hq => ?_
    obtain ⟨p, _, rfl⟩ := List.mem_map.mp hb
    exact okR_pre hq
def nums48 (r : Srow) : List Int := r.flatMap fun p => [p.1, p.2]
theorem compF_of3 {fi : Fi} {t : Tg} {tt : Option Fb} {fe : Ft} {vs : List Nat} {g g1 g2 : Sg} {ds : List D} {r : Res RV} (h1 : fi g = .ok ds g1) (h2 : wipeG g1 vs = g2) (h3 : compL t tt fe vs ds g2 [] = r) : compF fi t tt fe vs g = r := by
  unfold compF
  rw [h1]
  simp only [Res.bind]
  rw [h2, h3]
theorem crows_ok {n : Int} {rows : List Row} (hl : rows.length ≤ 900) : ∃ os, m__law_case_rows [.val (caD n rows)] = .ok (.fr (.lst (rows.map row3))) os := by
  let G : Sg := [.val true (caD n rows), .un]
  have cm := comp_mapI (t := .name 1) (fe := (valsF [(op1 (fldP "begin" [("Change", some 0)]) (nameF 1)), (op1 (fldP "end" [("Change", some 1)]) (nameF 1)), (op1 (fldP "new" [("Change", some 2)]) (nameF 1))] tupP)) (vs := [1]) (g := G) chOf row3 (xs := rows) (acc := []) (by simp [sizeLine]; omega) fun q hq => by
    let H : Sg := [.val true (caD n rows), .val false (chOf q)]
    have vf : valsF [(op1 (fldP "begin" [("Change", some 0)]) (nameF 1)), (op1 (fldP "end" [("Change", some 1)]) (nameF 1)), (op1 (fldP "new" [("Change", some 2)]) (nameF 1))] tupP H = .ok (.val (row3 q)) H := rfl
    refine ⟨H, rfl, .val (row3 q), H, ?_, H, rfl, rfl⟩
    rw [vf]
    rfl
  rw [List.nil_append] at cm
  have it : iterF (op1 (fldP "changes" [("Case", none)]) (nameF 0)) G = .ok (rows.map chOf) G := rfl
  have cf := compF_of3 (vs := [1]) it (show wipeG G [1] = G from rfl) cm
  unfold m__law_case_rows
  exact ⟨_, e_fn rfl (e_ret cf rfl)⟩
def knums (rows : List Row) : List Int := rows.flatMap fun q => [q.1, q.2.1]
abbrev rkD (rows : List Row) : D := .tup [.lst ((knums rows).map D.int), .lst (rows.map fun q => D.int (q.2.2.length : Nat))]
theorem key_loop48 {R : Sl} : ∀ (rows : List Row) (acc : List Int) (s2 : Sl), acc.length + 2 * rows.length ≤ 2000 → ∃ t2, loopF (.name 2) b__law_key_0 (rows.map row3) [R, .own false (.lst (acc.map D.int)), s2] = .nx [R, .own false (.lst ((acc ++ knums rows).map D.int)), t2]
  | [], acc, s2, _ => ⟨s2, by simp only [knums, List.flatMap_nil, List.append_nil, List.map_nil, loopF]⟩
  | q :: rows, acc, s2, h => by
    rw [List.length_cons] at h
    let H : Sg := [R, .own false (.lst (acc.map D.int)), .val false (row3 q)]
    have bd : b__law_key_0 H = .nx [R, .own false (.lst ((acc ++ [q.1, q.2.1]).map D.int)), .val false (row3 q)] := by
      have ap : addP (.lst (acc.map D.int)) (.lst [.int q.1, .int q.2.1]) = some (.fr (.lst ((acc ++ [q.1, q.2.1]).map D.int))) := by
        rw [List.map_append]
        show (if (acc.map D.int).length + 2 ≤ sizeLine then _ else _) = _
        rw [if_pos (by rw [List.length_map]; show acc.length + 2 ≤ 16777216; omega)]
        rfl
      have vf : valsF [(op2 ixP (nameF 2) (cF (.int 0))), (op2 ixP (nameF 2) (cF (.int 1)))] lstP H = .ok (.fr (.lst [.int q.1, .int q.2.1])) H := rfl
      unfold b__law_key_0
      exact (e_setf (e_op2n (i := 1) (g := H) rfl (e_sv vf rfl) ap)).trans rfl
    obtain ⟨t2, ih⟩ := key_loop48 (R := R) rows (acc ++ [q.1, q.2.1]) (.val false (row3 q)) (by rw [List.length_append]; simp; omega)
    refine ⟨t2, ?_⟩
    rw [List.map_cons, loopF, show tgF (.name 2) (row3 q) [R, .own false (.lst (acc.map D.int)), s2] = some H from rfl]
    dsimp only
    rw [bd]
    dsimp only
    rw [ih]
    unfold knums
    rw [List.flatMap_cons, List.append_assoc]
theorem lkey_ok {rows : List Row} (hl : rows.length ≤ 900) (hz : ∀ q ∈ rows, q.2.2.length ≤ 10000) : ∃ os, m__law_key [.val (.lst (rows.map row3))] = .ok (.val (rkD rows)) os := by
  let R : Sl := .val true (.lst (rows.map row3))
  obtain ⟨t2, lp⟩ := key_loop48 (R := R) rows [] .un (by simp; omega)
  rw [List.nil_append] at lp
  let X : List D := (knums rows).map D.int
  let G : Sg := [R, .own false (.lst X), t2]
  let G1 : Sg := [R, .val false (.lst X), .un]
  let G2 : Sg := [R, .own false (.lst X), .un]
  have cm := comp_mapI (t := .name 2) (fe := (callF lenP [(op2 ixP (nameF 2) (cF (.int 2)))])) (vs := [2]) (g := G2) row3 (fun q => D.int (q.2.2.length : Nat)) (xs := rows) (acc := []) (by simp [sizeLine]; omega) fun q hq => by
    let H : Sg := [R, .own false (.lst X), .val false (row3 q)]
    have ln : lenP [.str q.2.2] = some (.val (.int (q.2.2.length : Nat))) := by
      have := hz q hq
      show (if q.2.2.length ≤ sizeLine then _ else _) = _
      rw [if_pos (by show q.2.2.length ≤ 16777216; omega)]
    have n2 : op2 ixP (nameF 2) (cF (.int 2)) H = .ok (.val (.str q.2.2)) H := rfl
    have vf : callF lenP [(op2 ixP (nameF 2) (cF (.int 2)))] H = .ok (.val (.int (q.2.2.length : Nat))) H := e_cl (ds := [.str q.2.2]) (e_a (e_sv n2 rfl) e_a0) ln
    refine ⟨H, rfl, .val (.int (q.2.2.length : Nat)), H, ?_, H, rfl, rfl⟩
    rw [vf]
    rfl
  rw [List.nil_append] at cm
  have it : iterF (nameF 0) G = .ok (rows.map row3) G := rfl
  have cf := compF_of3 (vs := [2]) it (show wipeG G [2] = G2 from rfl) cm
  have vf : valsF [(nameF 1), (compF (iterF (nameF 0)) (.name 2) none (callF lenP [(op2 ixP (nameF 2) (cF (.int 2)))]) [2])] tupP G = .ok (.val (rkD rows)) G1 := by
    have ev : evA [(nameF 1), (compF (iterF (nameF 0)) (.name 2) none (callF lenP [(op2 ixP (nameF 2) (cF (.int 2)))]) [2])] G = .ok [.at_ 1, .val (.lst (rows.map fun q => D.int (q.2.2.length : Nat)))] G2 := by
      have n1 : nameF 1 G = .ok (.at_ 1) G := rfl
      simp only [evA, n1, settle, Res.bind, cf]
    unfold valsF
    rw [ev]
    rfl
  have s1 : setF 1 (valsF [] lstP) (startG 3 [.val (.lst (rows.map row3))]) = .nx [R, .own false (.lst []), .un] := rfl
  have it2 : iterF (nameF 0) [R, .own false (.lst []), .un] = .ok (rows.map row3) [R, .own false (.lst []), .un] := rfl
  unfold m__law_key
  exact ⟨_, e_fn rfl (e_seq s1 (e_seq (e_for it2 lp) (e_ret vf rfl)))⟩
end Vl
set_option Elab.async false
set_option linter.all false
set_option maxRecDepth 100000
set_option maxHeartbeats 4000000
namespace Vl
open PySem PySem.Spec PyProof.Rows L2 My
theorem lbars_bodyO (c s t m e : Str) {rows : List (Int × Int × Str)} {i : Nat} (hi : i < rows.length) (hl : rows.length ≤ 1000) (hr : ∀ r ∈ rows, r.1 ≤ r.2.1) :
    b__law_bars_0 [.val true (wordsD c s t m e), .own true (.lst (rows.map row3)), .val false (.int i), .un] =
      if barB c s m e rows i (rowAt rows i) = true then .rt (.val (.int i)) [.val true (wordsD c s t m e), .own true (.lst (rows.map row3)), .val false (.int i), .un] else .nx [.val true (wordsD c s t m e), .own true (.lst (rows.map row3)), .val false (.int i), .un] := by
  have w0 : ixP (wordsD c s t m e) (.int 0) = some (.val (.str c)) := rfl
  have w1 : ixP (wordsD c s t m e) (.int 1) = some (.val (.str s)) := rfl
  have w3 : ixP (wordsD c s t m e) (.int 3) = some (.val (.str m)) := rfl
  have w4 : ixP (wordsD c s t m e) (.int 4) = some (.val (.str e)) := rfl
  have r0 : ∀ q : Int × Int × Str, ixP (row3 q) (.int 0) = some (.val (.int q.1)) := fun _ => rfl
  have r1 : ∀ q : Int × Int × Str, ixP (row3 q) (.int 1) = some (.val (.int q.2.1)) := fun _ => rfl
  have at_ : ∀ j : Nat, j < rows.length → ixP (.lst (rows.map row3)) (.int (j : Nat)) = some (.val (row3 (rowAt rows j))) ∧ rowAt rows j ∈ rows := fun j hj => by
    have e : rowAt rows j = rows[j] := by simp [rowAt, List.getElem?_eq_getElem hj]
    have := atI_lit (xs := rows.map row3) (i := ((j : Nat) : Int)) (x := row3 rows[j]) (by omega) (by rw [List.getElem?_map]; simp [List.getElem?_eq_getElem hj])
    exact ⟨by rw [e]; simp only [ixP, this]; rfl, by rw [e]; exact List.getElem_mem hj⟩
  obtain ⟨ri, rm⟩ := at_ i hi
  have prev : 0 < i → ixP (.lst (rows.map row3)) (.int ((i : Int) - 1)) = some (.val (row3 ((rows[i - 1]?).getD (0, 0, "")))) := fun h0 => by
    have := (at_ (i - 1) (by omega)).1
    rwa [show (((i - 1 : Nat) : Int)) = (i : Int) - 1 by omega] at this
  have cut : cutD (rows.map row3) none (some (i : Int)) = (rows.take i).map row3 := by
    unfold cutD
    rw [HT.sIx_nat, HT.sIx_none]
    simp
  have cm := comp_map (t := .name 3) (fe := callM m__law_clash [(op2 ixP (nameF 0) (cF (.int 0))), (nameF 3), (op2 ixP (nameF 1) (nameF 2))]) (vs := [3]) (g := [.val true (wordsD c s t m e), .own true (.lst (rows.map row3)), .val false (.int i), .un]) (clOf c (rowAt rows i)) (ds := (rows.take i).map row3) (acc := []) (by simp [sizeLine]; omega) (by
    intro d hd
    obtain ⟨r, hr', rfl⟩ := List.mem_map.mp hd
    have ck := clash_ok c r (rowAt rows i)
    refine ⟨[.val true (wordsD c s t m e), .own true (.lst (rows.map row3)), .val false (.int i), .val false (row3 r)], rfl, .val (clOf c (rowAt rows i) (row3 r)), [.val true (wordsD c s t m e), .own true (.lst (rows.map row3)), .val false (.int i), .val false (row3 r)], ?_, _, rfl, rfl⟩
    have cl : clOf c (rowAt rows i) (row3 r) = .bl (clashB c r.1 r.2.1 (rowAt rows i).1 (rowAt rows i).2.1) := rfl
    rw [cl]
    generalize row3 r = RR at ck ⊢
    generalize row3 (rowAt rows i) = RI at ri ck
    generalize rows.map row3 = A at ri ⊢
    generalize wordsD c s t m e = WD at w0 ⊢
    simp [fnM, fnK, startG, seqF, iteS, andB, orB, notB, blF, truF, truth, op2, op1, nameF, cF, retF, retK, ifF, andV, orV, notF, settle, Res.bind, bindE, lift2, lift1, deref, derefA, setF, setK, exprF, appF, asgF, tgF, tgsF, frz1, frzA, callM, callF, callK, evA, ixs, toArs, toAr, putOuts_eq, putSl_nil, putSl_v, putSl_ne, putSl_at, putSl_val, putSl_un, outC, valsF, lstP, tupP, eqP, neP, eqD_int, eqD_str, eqD_bl, ltP, leP, gtP, geP, addP, subP, lenP, maxP, minP, chB, sizeLine, methM, methC, methK, callKw, kwK, setA, putD, putO, mkM, dflM, isiP, tyN, noX, w0, ri, ck])
  simp only [List.nil_append] at cm
  have an : anyP [.lst (((rows.take i).map row3).map (clOf c (rowAt rows i)))] = some (.val (.bl ((rows.take i).any fun r => due c (rowAt rows i).1 (rowAt rows i).2.1 r.1 r.2.1))) := by
    have e1 : ((rows.take i).map row3).map (clOf c (rowAt rows i)) = ((rows.take i).map fun r => due c (rowAt rows i).1 (rowAt rows i).2.1 r.1 r.2.1).map D.bl := by
      rw [List.map_map, List.map_map]
      apply List.map_congr_left
      intro r hr'
      show D.bl (clashB c r.1 r.2.1 (rowAt rows i).1 (rowAt rows i).2.1) = D.bl (due c (rowAt rows i).1 (rowAt rows i).2.1 r.1 r.2.1)
      rw [due_clash _ _ _ _ _ (hr _ rm) (hr r (List.mem_of_mem_take hr')), clash_sym]
    rw [e1]
    simp only [anyP, blsD_map, Option.map_some, List.any_map]
    rfl
  generalize rowAt rows i = q at ri an cm ⊢
  generalize hM : (rows.take i).map row3 = M at cut cm an
  generalize M.map (clOf c q) = MM at cm an
  generalize hA : rows.map row3 = A at ri prev cut cm ⊢
  generalize wordsD c s t m e = WD at w0 w1 w3 w4 cm ⊢
  unfold b__law_bars_0 barB
  cases h2 : t2 m rows i q with
  | true =>
    simp only [t2, Bool.and_eq_true, decide_eq_true_eq] at h2
    obtain ⟨hm, h0, hlt⟩ := h2
    have pv := prev h0
    generalize (rows[i - 1]?).getD (0, 0, "") = w at pv hlt
    simp [fnM, fnK, startG, seqF, iteS, andB, orB, notB, blF, truF, truth, op2, op1, nameF, cF, retF, retK, ifF, andV, orV, notF, settle, Res.bind, bindE, lift2, lift1, deref, derefA, setF, setK, exprF, appF, asgF, tgF, tgsF, frz1, frzA, callM, callF, callK, evA, ixs, toArs, toAr, putOuts_eq, putSl_nil, putSl_v, putSl_ne, putSl_at, putSl_val, putSl_un, outC, valsF, lstP, tupP, eqP, neP, eqD_int, eqD_str, eqD_bl, ltP, leP, gtP, geP, addP, subP, lenP, maxP, minP, chB, sizeLine, methM, methC, methK, callKw, kwK, setA, putD, putO, mkM, dflM, isiP, tyN, w3, ri, r0, hm, h0, pv, hlt]
  | false =>
    rw [seqF_nx (g1 := [.val true WD, .own true (.lst A), .val false (.int i), .un]) (by
      by_cases hm : m = "rising"
      · by_cases h0 : 0 < i
        · have pv := prev h0
          have hlt : ¬ q.1 < ((rows[i - 1]?).getD (0, 0, "")).1 := fun k => by simp [t2, hm, h0, k] at h2
          generalize (rows[i - 1]?).getD (0, 0, "") = w at pv hlt
          simp [fnM, fnK, startG, seqF, iteS, andB, orB, notB, blF, truF, truth, op2, op1, nameF, cF, retF, retK, ifF, andV, orV, notF, settle, Res.bind, bindE, lift2, lift1, deref, derefA, setF, setK, exprF, appF, asgF, tgF, tgsF, frz1, frzA, callM, callF, callK, evA, ixs, toArs, toAr, putOuts_eq, putSl_nil, putSl_v, putSl_ne, putSl_at, putSl_val, putSl_un, outC, valsF, lstP, tupP, eqP, neP, eqD_int, eqD_str, eqD_bl, ltP, leP, gtP, geP, addP, subP, lenP, maxP, minP, chB, sizeLine, methM, methC, methK, callKw, kwK, setA, putD, putO, mkM, dflM, isiP, tyN, w3, ri, r0, hm, h0, pv, hlt]
        · simp [fnM, fnK, startG, seqF, iteS, andB, orB, notB, blF, truF, truth, op2, op1, nameF, cF, retF, retK, ifF, andV, orV, notF, settle, Res.bind, bindE, lift2, lift1, deref, derefA, setF, setK, exprF, appF, asgF, tgF, tgsF, frz1, frzA, callM, callF, callK, evA, ixs, toArs, toAr, putOuts_eq, putSl_nil, putSl_v, putSl_ne, putSl_at, putSl_val, putSl_un, outC, valsF, lstP, tupP, eqP, neP, eqD_int, eqD_str, eqD_bl, ltP, leP, gtP, geP, addP, subP, lenP, maxP, minP, chB, sizeLine, methM, methC, methK, callKw, kwK, setA, putD, putO, mkM, dflM, isiP, tyN, w3, hm, h0]
      · simp [fnM, fnK, startG, seqF, iteS, andB, orB, notB, blF, truF, truth, op2, op1, nameF, cF, retF, retK, ifF, andV, orV, notF, settle, Res.bind, bindE, lift2, lift1, deref, derefA, setF, setK, exprF, appF, asgF, tgF, tgsF, frz1, frzA, callM, callF, callK, evA, ixs, toArs, toAr, putOuts_eq, putSl_nil, putSl_v, putSl_ne, putSl_at, putSl_val, putSl_un, outC, valsF, lstP, tupP, eqP, neP, eqD_int, eqD_str, eqD_bl, ltP, leP, gtP, geP, addP, subP, lenP, maxP, minP, chB, sizeLine, methM, methC, methK, callKw, kwK, setA, putD, putO, mkM, dflM, isiP, tyN, w3, hm])]
    cases h1 : t1 e q with
    | true =>
      have hh : e = "closed" ∧ q.1 = q.2.1 := by simpa [t1] using h1
      simp [fnM, fnK, startG, seqF, iteS, andB, orB, notB, blF, truF, truth, op2, op1, nameF, cF, retF, retK, ifF, andV, orV, notF, settle, Res.bind, bindE, lift2, lift1, deref, derefA, setF, setK, exprF, appF, asgF, tgF, tgsF, frz1, frzA, callM, callF, callK, evA, ixs, toArs, toAr, putOuts_eq, putSl_nil, putSl_v, putSl_ne, putSl_at, putSl_val, putSl_un, outC, valsF, lstP, tupP, eqP, neP, eqD_int, eqD_str, eqD_bl, ltP, leP, gtP, geP, addP, subP, lenP, maxP, minP, chB, sizeLine, methM, methC, methK, callKw, kwK, setA, putD, putO, mkM, dflM, isiP, tyN, w4, ri, r0, r1, hh.1, hh.2]
    | false =>
      rw [seqF_nx (g1 := [.val true WD, .own true (.lst A), .val false (.int i), .un]) (by
        by_cases he : e = "closed"
        · have hn : ¬ q.1 = q.2.1 := fun k => by simp [t1, he, k] at h1
          simp [fnM, fnK, startG, seqF, iteS, andB, orB, notB, blF, truF, truth, op2, op1, nameF, cF, retF, retK, ifF, andV, orV, notF, settle, Res.bind, bindE, lift2, lift1, deref, derefA, setF, setK, exprF, appF, asgF, tgF, tgsF, frz1, frzA, callM, callF, callK, evA, ixs, toArs, toAr, putOuts_eq, putSl_nil, putSl_v, putSl_ne, putSl_at, putSl_val, putSl_un, outC, valsF, lstP, tupP, eqP, neP, eqD_int, eqD_str, eqD_bl, ltP, leP, gtP, geP, addP, subP, lenP, maxP, minP, chB, sizeLine, methM, methC, methK, callKw, kwK, setA, putD, putO, mkM, dflM, isiP, tyN, w4, ri, r0, r1, he, hn]
        · simp [fnM, fnK, startG, seqF, iteS, andB, orB, notB, blF, truF, truth, op2, op1, nameF, cF, retF, retK, ifF, andV, orV, notF, settle, Res.bind, bindE, lift2, lift1, deref, derefA, setF, setK, exprF, appF, asgF, tgF, tgsF, frz1, frzA, callM, callF, callK, evA, ixs, toArs, toAr, putOuts_eq, putSl_nil, putSl_v, putSl_ne, putSl_at, putSl_val, putSl_un, outC, valsF, lstP, tupP, eqP, neP, eqD_int, eqD_str, eqD_bl, ltP, leP, gtP, geP, addP, subP, lenP, maxP, minP, chB, sizeLine, methM, methC, methK, callKw, kwK, setA, putD, putO, mkM, dflM, isiP, tyN, w4, he])]
      by_cases hs : s = "never"
      · unfold t3
        generalize ((rows.take i).any fun r => due c q.1 q.2.1 r.1 r.2.1) = k at an ⊢
        cases k <;> simp [fnM, fnK, startG, seqF, iteS, andB, orB, notB, blF, truF, truth, op2, op1, nameF, cF, retF, retK, ifF, andV, orV, notF, settle, Res.bind, bindE, lift2, lift1, deref, derefA, setF, setK, exprF, appF, asgF, tgF, tgsF, frz1, frzA, callM, callF, callK, evA, ixs, toArs, toAr, putOuts_eq, putSl_nil, putSl_v, putSl_ne, putSl_at, putSl_val, putSl_un, outC, valsF, lstP, tupP, eqP, neP, eqD_int, eqD_str, eqD_bl, ltP, leP, gtP, geP, addP, subP, lenP, maxP, minP, chB, sizeLine, methM, methC, methK, callKw, kwK, setA, putD, putO, mkM, dflM, isiP, tyN, w1, hs, slF, optF, slP, cut, compF, iterF, itemsOf, wipeG, cm, an]
      · simp [fnM, fnK, startG, seqF, iteS, andB, orB, notB, blF, truF, truth, op2, op1, nameF, cF, retF, retK, ifF, andV, orV, notF, settle, Res.bind, bindE, lift2, lift1, deref, derefA, setF, setK, exprF, appF, asgF, tgF, tgsF, frz1, frzA, callM, callF, callK, evA, ixs, toArs, toAr, putOuts_eq, putSl_nil, putSl_v, putSl_ne, putSl_at, putSl_val, putSl_un, outC, valsF, lstP, tupP, eqP, neP, eqD_int, eqD_str, eqD_bl, ltP, leP, gtP, geP, addP, subP, lenP, maxP, minP, chB, sizeLine, methM, methC, methK, callKw, kwK, setA, putD, putO, mkM, dflM, isiP, tyN, w1, hs, t3]
theorem lbars_loopO (c s t m e : Str) {rows : List (Int × Int × Str)} (hl : rows.length ≤ 1000) (hr : ∀ r ∈ rows, r.1 ≤ r.2.1) : ∀ (js : List Nat) (s2 : Sl), (∀ j ∈ js, j < rows.length) →
    ∃ s2', loopF (.name 2) b__law_bars_0 (js.map fun j => D.int (j : Nat)) [.val true (wordsD c s t m e), .own true (.lst (rows.map row3)), s2, .un] =
      match js.find? fun j => barB c s m e rows j (rowAt rows j) with
      | some j => .rt (.val (.int (j : Nat))) [.val true (wordsD c s t m e), .own true (.lst (rows.map row3)), s2', .un]
      | none => .nx [.val true (wordsD c s t m e), .own true (.lst (rows.map row3)), s2', .un]
  | [], s2, h => ⟨s2, rfl⟩
  | j :: js, s2, h => by
    have bb := lbars_bodyO c s t m e (rows := rows) (i := j) (h j (.head _)) hl hr
    have tg : tgF (.name 2) (.int (j : Nat)) [.val true (wordsD c s t m e), .own true (.lst (rows.map row3)), s2, .un] = some [.val true (wordsD c s t m e), .own true (.lst (rows.map row3)), .val false (.int (j : Nat)), .un] := rfl
    cases hb : barB c s m e rows j (rowAt rows j) with
    | true =>
      refine ⟨.val false (.int (j : Nat)), ?_⟩
      rw [hb, if_pos rfl] at bb
      rw [List.map_cons, List.find?_cons_of_pos (by exact hb)]
      unfold loopF
      rw [tg]
      simp only [bb]
    | false =>
      rw [hb, if_neg (by decide)] at bb
      obtain ⟨a, ih⟩ := lbars_loopO c s t m e hl hr js (.val false (.int (j : Nat))) fun k hk => h k (.tail _ hk)
      refine ⟨a, ?_⟩
      rw [List.map_cons, List.find?_cons_of_neg (by rw [hb]; decide)]
      unfold loopF
      rw [tg]
      simp only [bb, ih]
theorem g_coreO (W : D) (A : List D) (E : List D) (fb : Option Nat) (N : Int) (x : Sl) (rg : rangeOf1 [.int N] = some E) (ln : lenP [.lst A] = some (.val (.int N)))
  (lp : loopF (.name 2) b__law_bars_0 E [.val true W, .own true (.lst A), .un, .un] = match fb with
      | some j => .rt (.val (.int (j : Nat))) [.val true W, .own true (.lst A), x, .un]
      | none => .nx [.val true W, .own true (.lst A), x, .un]) :
  m__law_bars [.val W, .own (.lst A)] = .ok (.val (g_optD fb)) [.val true W, .own true (.lst A)] := by
  have e3 := forF_of (t := .name 2) (body := b__law_bars_0) (argsI_of (k := rangeOf1) (evA1 (callFo (p := lenP) (i := 1) (g := [.val true W, .own true (.lst A), .un, .un]) rfl ln)) rfl rg)
  rw [lp] at e3
  unfold m__law_bars
  generalize argsI rangeOf1 [callF lenP [nameF 1]] = AI at e3
  rw [fn_go (by rfl)]
  have e4 : startG 4 [Ar.val W, Ar.own (.lst A)] = [.val true W, .own true (.lst A), .un, .un] := rfl
  rw [e4]
  cases fb with
  | none =>
    rw [seqF_nx e3]
    simp [retF, cF, bindE, settle, retK, fnK, frz1, g_optD]
  | some j =>
    rw [seqF_rt e3]
    simp [retF, cF, bindE, settle, retK, fnK, frz1, g_optD]
theorem lbars_okO (c s t m e : Str) {rows : List (Int × Int × Str)} (hl : rows.length ≤ 1000) (hr : ∀ r ∈ rows, r.1 ≤ r.2.1) :
    m__law_bars [.val (wordsD c s t m e), .own (.lst (rows.map row3))] = .ok (.val (g_optD (firstB c s m e rows))) [.val true (wordsD c s t m e), .own true (.lst (rows.map row3))] := by
  obtain ⟨x, lp⟩ := lbars_loopO c s t m e hl hr (List.range rows.length) .un fun j hj => List.mem_range.mp hj
  exact g_coreO _ _ _ (firstB c s m e rows) _ x (range_of (n := rows.length) (by omega)) (len_of (xs := rows.map row3) (n := rows.length) (by simp) (by omega)) lp
end Vl
set_option Elab.async false
set_option linter.all false
set_option maxRecDepth 100000
set_option maxHeartbeats 4000000
namespace Vl
open PySem PySem.Spec PyProof.Rows L2 My
def f048 (q : Row) : Row := (q.1, q.2.1, "")
theorem rowAt_f0 (rows : List Row) (j : Nat) : rowAt (rows.map f048) j = f048 (rowAt rows j) := by
  unfold rowAt
  rw [List.getElem?_map]
  cases rows[j]? <;> rfl
theorem barB_f0 {c s m e : Str} {rows : List Row} {j : Nat} {q : Row} : barB c s m e (rows.map f048) j (f048 q) = barB c s m e rows j q := by
  unfold barB t1 t2 t3
  rw [← List.map_take, List.any_map, List.getElem?_map]
  cases rows[j - 1]? <;> rfl
theorem firstB_f0 {c s m e : Str} {rows : List Row} : firstB c s m e (rows.map f048) = firstB c s m e rows := by
  unfold firstB
  rw [List.length_map]
  exact find_congr fun j _ => by rw [rowAt_f0, barB_f0]
structure Cz (r : Srow) (l : List Nat) : Prop where
  l1 : r.length = l.length
  l3 : r.length ≤ 3
  z2 : ∀ z ∈ l, z ≤ 2
theorem Cz.fst {r : Srow} {l : List Nat} (h : Cz r l) : (zip48 r l NW48).map (·.1) = r := zip_fst48 h.l1 h.l3
theorem Cz.snd {r : Srow} {l : List Nat} (h : Cz r l) : (zip48 r l NW48).map (·.2.1) = l := zip_snd48 h.l1 h.l3
theorem Cz.len {r : Srow} {l : List Nat} (h : Cz r l) : (mkR r l).length = r.length := by
  unfold mkR
  rw [List.length_map]
  exact zip_len48 h.l1 h.l3
theorem mkR_f0 {r : Srow} {l : List Nat} (h : Cz r l) : (mkR r l).map f048 = chR48 r := by
  conv => rhs; rw [← h.fst]
  unfold mkR chR48
  rw [List.map_map, List.map_map]
  rfl
theorem cut_len48 : ∀ w ∈ NW48, ∀ z : Nat, z ≤ 2 → (cutS w none (some (z : Int))).length = z := by
  intro w hw z hz
  have hw : w = "AB" ∨ w = "CD" ∨ w = "EF" := by simpa [NW48] using hw
  have hz : z = 0 ∨ z = 1 ∨ z = 2 := by omega
  rcases hw with rfl | rfl | rfl <;> rcases hz with rfl | rfl | rfl <;> decide +kernel
theorem mkR_nums {r : Srow} {l : List Nat} (h : Cz r l) : knums (mkR r l) = nums48 r := by
  conv => rhs; rw [← h.fst]
  unfold mkR knums nums48
  rw [List.flatMap_map, List.flatMap_map]
  rfl
theorem mkR_row {r : Srow} {l : List Nat} (h : Cz r l) {q : Row} (hq : q ∈ mkR r l) : (q.1, q.2.1) ∈ r ∧ q.2.2.length ≤ 2 := by
  unfold mkR at hq
  obtain ⟨x, hx, rfl⟩ := List.mem_map.mp hq
  obtain ⟨h1, h2, h3⟩ := zip_mem48 hx
  refine ⟨h1, ?_⟩
  show (cutS x.2.2 none (some (x.2.1 : Int))).length ≤ 2
  rw [cut_len48 _ h3 _ (h.z2 _ h2)]
  exact h.z2 _ h2
abbrev NWD : D := .lst [.str "AB", .str "CD", .str "EF"]
theorem all_true : ∀ {α : Type} {l : List α}, allP [.lst (l.map fun _ => D.bl true)] = some (.val (.bl true)) := by
  intro α l
  have e1 : (l.map fun _ => D.bl true) = (l.map fun _ => true).map D.bl := by
    rw [List.map_map]
    rfl
  rw [e1]
  simp only [allP, blsD_map, Option.map_some, List.all_map]
  have : l.all (id ∘ fun _ => true) = true := by
    clear e1
    induction l with
    | nil => rfl
    | cons a l ih => exact ih
  rw [this]
theorem new48 (j z : Nat) (hj : j < 3) (hz : z ≤ 2) : ∃ w, NW48[j]? = some w ∧ ∀ (R : D) (g : Sg) (f : Ft), f g = .ok (.val (.str (cutS w none (some (z : Int))))) g → nameF 4 g = .ok (.val (.int (j : Nat))) g → op2 inP f (valsF [(cF (.str "")), (op2 ixP (cF (.str "ACE")) (nameF 4)), (op2 ixP (valsF [(cF (.str "AB")), (cF (.str "CD")), (cF (.str "EF"))] lstP) (nameF 4))] tupP) g = .ok (.val (.bl true)) g := by
  have hj : j = 0 ∨ j = 1 ∨ j = 2 := by omega
  have hz : z = 0 ∨ z = 1 ∨ z = 2 := by omega
  have key : ∀ (w a : Str) (j z : Nat), ixP (.str "ACE") (.int (j : Nat)) = some (.val (.str a)) → ixP NWD (.int (j : Nat)) = some (.val (.str w)) → inP (.str (cutS w none (some (z : Int)))) (.tup [.str "", .str a, .str w]) = some (.val (.bl true)) → ∀ (R : D) (g : Sg) (f : Ft), f g = .ok (.val (.str (cutS w none (some (z : Int))))) g → nameF 4 g = .ok (.val (.int (j : Nat))) g → op2 inP f (valsF [(cF (.str "")), (op2 ixP (cF (.str "ACE")) (nameF 4)), (op2 ixP (valsF [(cF (.str "AB")), (cF (.str "CD")), (cF (.str "EF"))] lstP) (nameF 4))] tupP) g = .ok (.val (.bl true)) g := by
    intro w a j z h1 h2 h3 R g f hf h4
    have o1 : Sv (op2 ixP (cF (.str "ACE")) (nameF 4)) g (.str a) g := e_sv (e_op2 (e_sv e_c rfl) (e_sv h4 rfl) h1) rfl
    have v1 : valsF [(cF (.str "AB")), (cF (.str "CD")), (cF (.str "EF"))] lstP g = .ok (.fr NWD) g := rfl
    have o2 : Sv (op2 ixP (valsF [(cF (.str "AB")), (cF (.str "CD")), (cF (.str "EF"))] lstP) (nameF 4)) g (.str w) g := e_sv (e_op2 (e_sv v1 rfl) (e_sv h4 rfl) h2) rfl
    exact e_op2 (e_sv hf rfl) (e_sv (e_vals (ds := [.str "", .str a, .str w]) (e_a (e_sv e_c rfl) (e_a o1 (e_a o2 e_a0))) rfl) rfl) h3
  rcases hj with rfl | rfl | rfl
  · refine ⟨"AB", rfl, key "AB" "A" 0 z (by kernel_rfl) (by kernel_rfl) ?_⟩
    rcases hz with rfl | rfl | rfl <;> kernel_rfl
  · refine ⟨"CD", rfl, key "CD" "C" 1 z (by kernel_rfl) (by kernel_rfl) ?_⟩
    rcases hz with rfl | rfl | rfl <;> kernel_rfl
  · refine ⟨"EF", rfl, key "EF" "E" 2 z (by kernel_rfl) (by kernel_rfl) ?_⟩
    rcases hz with rfl | rfl | rfl <;> kernel_rfl
theorem zip_at48 : ∀ {r : Srow} {l : List Nat} {s : List Str} {j : Nat} {x : (Int × Int) × Nat × Str}, (zip48 r l s)[j]? = some x → s[j]? = some x.2.2 ∧ x.2.1 ∈ l
  | [], l, s, j, x, h => by cases l <;> cases s <;> cases h
  | p :: r, [], s, j, x, h => by cases s <;> cases h
  | p :: r, z :: l, [], j, x, h => by cases h
  | p :: r, z :: l, w :: s, 0, x, h => by
    cases h
    exact ⟨rfl, .head _⟩
  | p :: r, z :: l, w :: s, j + 1, x, h => by
    have h : (zip48 r l s)[j]? = some x := h
    obtain ⟨a, b⟩ := zip_at48 h
    exact ⟨a, .tail _ b⟩
abbrev ALPH : Str := "abcdefghijklmnopqrstuvwxyz"
theorem slA48 {C : D} {n : Int} {F : Ft} {g : Sg} (a2 : F g = .ok (.val (.int n)) g) : slF (cF (.str ALPH)) none (some F) g = .ok (.val (.str (cutS ALPH none (some n)))) g := by
  have c : slP (.str ALPH) none (some n) = some (.val (.str (cutS ALPH none (some n)))) := by
    have h : ALPH.length ≤ sizeLine := by decide +kernel
    generalize ALPH = A at *
    simp only [slP]
    rw [if_pos h]
  generalize ALPH = A at *
  simp only [slF, cF, settle, Res.bind, optF, a2, lift1, deref, c]
theorem lettm48 {n : Int} {rows : List Row} : m_Case_letters [.val (caD n rows)] = .ok (.val (.str (cutS ALPH none (some n)))) [.val true (caD n rows)] := by
  have a2 : op1 (fldP "length" [("Case", none)]) (nameF 0) [.val true (caD n rows)] = .ok (.val (.int n)) [.val true (caD n rows)] := rfl
  have h := slA48 (C := caD n rows) a2
  unfold m_Case_letters
  generalize (slF (cF (.str ALPH)) none (some (op1 (fldP "length" [("Case", none)]) (nameF 0)))) = F at *
  generalize cutS ALPH none (some n) = z at *
  exact (e_fn rfl (e_ret h (a := .str z) rfl)).trans rfl
theorem lett48 {n : Int} {rows : List Row} {W : D} {s2 s3 s4 : Sl} : op2 eqP (propF ps_letters (nameF 0)) (slF (cF (.str "abcdefghijklmnopqrstuvwxyz")) none (some (op1 (fldP "length" [("Case", none)]) (nameF 0)))) [.val true (caD n rows), .val true W, s2, s3, s4] = .ok (.val (.bl true)) [.val true (caD n rows), .val true W, s2, s3, s4] := by
  have m := lettm48 (n := n) (rows := rows)
  have pk : propC.pickP ps_letters (caD n rows) = some m_Case_letters := rfl
  have a2 : op1 (fldP "length" [("Case", none)]) (nameF 0) [.val true (caD n rows), .val true W, s2, s3, s4] = .ok (.val (.int n)) [.val true (caD n rows), .val true W, s2, s3, s4] := rfl
  have h := slA48 (C := caD n rows) a2
  generalize (slF (cF (.str "abcdefghijklmnopqrstuvwxyz")) none (some (op1 (fldP "length" [("Case", none)]) (nameF 0)))) = F at *
  generalize cutS ALPH none (some n) = z at *
  generalize m_Case_letters = M at *
  generalize caD n rows = C at *
  generalize ps_letters = P at *
  have ck : callK M [.val C] [.val true C, .val true W, s2, s3, s4] = .ok (.val (.str z)) [.val true C, .val true W, s2, s3, s4] := e_callK (ds := [C]) m rfl
  have n0 : nameF 0 [.val true C, .val true W, s2, s3, s4] = .ok (.val C) [.val true C, .val true W, s2, s3, s4] := rfl
  have lt : propF P (nameF 0) [.val true C, .val true W, s2, s3, s4] = .ok (.val (.str z)) [.val true C, .val true W, s2, s3, s4] := by
    unfold propF
    rw [n0]
    show propC P (.val C) [.val true C, .val true W, s2, s3, s4] = _
    unfold propC
    rw [show deref [.val true C, .val true W, s2, s3, s4] (.val C) = some C from rfl]
    simp only [Option.bind_some, pk]
    rw [ck]
    rfl
  exact e_op2 (e_sv lt rfl) (e_sv h rfl) (by rw [l_eqS]; simp)
end Vl
set_option Elab.async false
set_option linter.all false
set_option maxRecDepth 100000
set_option maxHeartbeats 4000000
namespace Vl
open PySem PySem.Spec PyProof.Rows L2 My
theorem lbC48 {LB : Fm} {C W : D} {A : List D} {o : D} (lb : LB [.val W, .own (.lst A)] = .ok (.val o) [.val true W, .own true (.lst A)]) : callM LB [(nameF 1), (nameF 2)] [.val true C, .val true W, .own false (.lst A), .un, .un] = .ok (.val o) [.val true C, .val true W, .own false (.lst A), .un, .un] := by
  have ev : evA [(nameF 1), (nameF 2)] [.val true C, .val true W, .own false (.lst A), .un, .un] = .ok [.val W, .at_ 2] [.val true C, .val true W, .own false (.lst A), .un, .un] := rfl
  have ta : toArs [.val true C, .val true W, .own false (.lst A), .un, .un] [.val W, .at_ 2] = some [.val W, .own (.lst A)] := rfl
  unfold callM
  rw [ev]
  simp only [Res.bind, callK]
  rw [if_pos (show (ixs [RV.val W, RV.at_ 2]).Nodup from (by decide : ([2] : List Nat).Nodup)), ta]
  simp only [lb]
  rfl
theorem iscase_ok {c s t m e : Str} {n : Nat} {r : Srow} {l : List Nat} (h : Cz r l) (hr : ∀ p ∈ r, 0 ≤ p.1 ∧ p.1 ≤ p.2 ∧ p.2 ≤ n) (hb : okRw c s m e r = true) : ∃ os, m__law_is_case [.val (caD n (mkR r l)), .val (wordsD c s t m e)] = .ok (.val (.bl true)) os := by
  obtain ⟨o1, cr⟩ := crows_ok (n := (n : Int)) (rows := mkR r l) (by rw [h.len]; have := h.l3; omega)
  have fb : firstB c s m e (mkR r l) = none := by
    rw [← firstB_f0, mkR_f0 h]
    unfold okRw at hb
    exact Option.isNone_iff_eq_none.mp hb
  have lb := lbars_okO c s t m e (rows := mkR r l) (by rw [h.len]; have := h.l3; omega) (fun q hq => by have := (hr _ (mkR_row h hq).1); exact this.2.1)
  rw [fb] at lb
  have hlen : (mkR r l).length ≤ 3 := by rw [h.len]; exact h.l3
  have hA : ∀ q ∈ mkR r l, 0 ≤ q.1 ∧ q.1 ≤ q.2.1 ∧ q.2.1 ≤ n := fun q hq => hr _ (mkR_row h hq).1
  have hN : ∀ j, j < (mkR r l).length → ∃ w z, NW48[j]? = some w ∧ z ≤ 2 ∧ rowAt (mkR r l) j ∈ mkR r l ∧ (rowAt (mkR r l) j).2.2 = cutS w none (some ((z : Nat) : Int)) := fun j hj => by
    have hz : j < (zip48 r l NW48).length := by simpa [mkR] using hj
    have ha := zip_at48 (j := j) (List.getElem?_eq_getElem hz)
    have e : rowAt (mkR r l) j = toRow (zip48 r l NW48)[j] := by
      unfold rowAt mkR
      rw [List.getElem?_map, List.getElem?_eq_getElem hz]
      rfl
    exact ⟨_, _, ha.1, h.z2 _ ha.2, by rw [e]; exact List.mem_map_of_mem (List.getElem_mem hz), by rw [e]; rfl⟩
  generalize mkR r l = rows at *
  generalize wordsD c s t m e = W at *
  let C : D := caD n rows
  let G : Sg := [.val true C, .val true W, .own false (.lst (rows.map row3)), .un, .un]
  have s2 : setF 2 (callM m__law_case_rows [(nameF 0)]) (startG 5 [.val C, .val W]) = .nx G := by
    have n0 : nameF 0 (startG 5 [.val C, .val W]) = .ok (.val C) (startG 5 [.val C, .val W]) := rfl
    exact (e_setf (e_call1 (e_sv n0 rfl) cr rfl)).trans rfl
  have n0 : nameF 0 G = .ok (.val C) G := rfl
  have n1 : nameF 1 G = .ok (.val W) G := rfl
  have fc : Sv (op1 (fldP "changes" [("Case", none)]) (nameF 0)) G (.tup (rows.map chOf)) G := e_sv (e_op1 (e_sv n0 rfl) rfl) rfl
  have fl : Sv (op1 (fldP "length" [("Case", none)]) (nameF 0)) G (.int (n : Int)) G := e_sv (e_op1 (e_sv n0 rfl) rfl) rfl
  have i1 : truF (op1 (isiP "tuple") (op1 (fldP "changes" [("Case", none)]) (nameF 0))) G = .ok true G := e_tru (e_sv (e_op1 fc rfl) rfl) rfl
  have ln : callF lenP [(nameF 2)] G = .ok (.val (.int (rows.length : Nat))) G := e_cln (i := 2) (g := G) rfl (len_of (by rw [List.length_map]) (by omega))
  have i2 : blF (op2 gtP (callF lenP [(nameF 2)]) (cF (.int 3))) G = .ok false G := by
    refine e_bl (e_op2 (e_sv ln rfl) (e_sv e_c rfl) ?_)
    show some (RV.val (D.bl (decide ((3 : Int) < (rows.length : Nat))))) = _
    rw [decide_eq_false (by omega)]
  have lbC : callM m__law_bars [(nameF 1), (nameF 2)] G = .ok (.val .non) G := lbC48 lb
  have i3 : blF (op2 isNotP (callM m__law_bars [(nameF 1), (nameF 2)]) (cF .non)) G = .ok false G := e_bl (e_op2 (e_sv lbC rfl) (e_sv e_c rfl) rfl)
  have t1 := e_or (e_not i1) (e_or i2 i3)
  let G1 : Sg := [.val true C, .val true W, .val false (.lst (rows.map row3)), .un, .un]
  have cm1 := comp_mapI (t := .name 3) (fe := (ch3V leP leP leP (cF (.int 0)) (op2 ixP (nameF 3) (cF (.int 0))) (op2 ixP (nameF 3) (cF (.int 1))) (op1 (fldP "length" [("Case", none)]) (nameF 0)))) (vs := [3]) (g := G1) row3 (fun _ => D.bl true) (xs := rows) (acc := []) (by simp [sizeLine]; omega) fun q hq => by
    obtain ⟨h0, h1, h2⟩ := hA q hq
    let H : Sg := [.val true C, .val true W, .val false (.lst (rows.map row3)), .val false (row3 q), .un]
    refine ⟨H, rfl, .val (.bl true), H, ?_, H, rfl, rfl⟩
    have cv : ch3V leP leP leP (cF (.int 0)) (op2 ixP (nameF 3) (cF (.int 0))) (op2 ixP (nameF 3) (cF (.int 1))) (op1 (fldP "length" [("Case", none)]) (nameF 0)) H = .ok (.val (.bl true)) H := by
      have a0 : op2 ixP (nameF 3) (cF (.int 0)) H = .ok (.val (.int q.1)) H := rfl
      have a1 : op2 ixP (nameF 3) (cF (.int 1)) H = .ok (.val (.int q.2.1)) H := rfl
      have a2 : op1 (fldP "length" [("Case", none)]) (nameF 0) H = .ok (.val (.int (n : Int))) H := rfl
      have l0 : leP (.int 0) (.int q.1) = some (.val (.bl true)) := by simp [leP, h0]
      have l1 : leP (.int q.1) (.int q.2.1) = some (.val (.bl true)) := by simp [leP, h1]
      have l2 : leP (.int q.2.1) (.int (n : Int)) = some (.val (.bl true)) := by simp [leP, h2]
      simp [ch3V, ch3B, chN, settle, Res.bind, cF, a0, a1, a2, l0, l1, l2, lift2, lift1, deref, blF]
    rw [cv]
    rfl
  rw [List.nil_append] at cm1
  have it1 : iterF (nameF 2) G = .ok (rows.map row3) G1 := rfl
  have al1 : truF (callF allP [(compF (iterF (nameF 2)) (.name 3) none (ch3V leP leP leP (cF (.int 0)) (op2 ixP (nameF 3) (cF (.int 0))) (op2 ixP (nameF 3) (cF (.int 1))) (op1 (fldP "length" [("Case", none)]) (nameF 0))) [3])]) G = .ok true G1 :=
    e_tru (e_sv (e_cl (ds := [.lst (rows.map fun _ => D.bl true)]) (e_a (e_sv (compF_of3 (vs := [3]) it1 (show wipeG G1 [3] = G1 from rfl) cm1) rfl) e_a0) all_true) rfl) rfl
  have cm2 := comp_mapI (t := .name 4) (fe := (op2 inP (op2 ixP (op2 ixP (nameF 2) (nameF 4)) (cF (.int 2))) (valsF [(cF (.str "")), (op2 ixP (cF (.str "ACE")) (nameF 4)), (op2 ixP (valsF [(cF (.str "AB")), (cF (.str "CD")), (cF (.str "EF"))] lstP) (nameF 4))] tupP))) (vs := [4]) (g := G1) (fun j : Nat => D.int (j : Nat)) (fun _ => D.bl true) (xs := List.range rows.length) (acc := []) (by simp [sizeLine]; omega) fun j hj => by
    have hj := List.mem_range.mp hj
    obtain ⟨w, z, hw, hz, hm, ht⟩ := hN j hj
    obtain ⟨w2, e2, k⟩ := new48 j z (by omega) hz
    rw [hw] at e2
    cases e2
    let H : Sg := [.val true C, .val true W, .val false (.lst (rows.map row3)), .un, .val false (.int (j : Nat))]
    refine ⟨H, rfl, .val (.bl true), H, ?_, H, rfl, rfl⟩
    have n4 : nameF 4 H = .ok (.val (.int (j : Nat))) H := rfl
    have n2 : nameF 2 H = .ok (.val (.lst (rows.map row3))) H := rfl
    have rx := e_op2 (e_sv n2 rfl) (e_sv n4 rfl) (row_ix (rows := rows) hj)
    have r2 : op2 ixP (op2 ixP (nameF 2) (nameF 4)) (cF (.int 2)) H = .ok (.val (.str (rowAt rows j).2.2)) H := e_op2 (e_sv rx rfl) (e_sv e_c rfl) rfl
    rw [ht] at r2
    rw [k W H _ r2 n4]
    rfl
  rw [List.nil_append] at cm2
  have n2 : nameF 2 G1 = .ok (.val (.lst (rows.map row3))) G1 := rfl
  have ln1 : callF lenP [(nameF 2)] G1 = .ok (.val (.int (rows.length : Nat))) G1 := e_cl (ds := [.lst (rows.map row3)]) (e_a (e_sv n2 rfl) e_a0) (len_of (by rw [List.length_map]) (by omega))
  have it2 : argsI rangeOf1 [(callF lenP [(nameF 2)])] G1 = .ok ((List.range rows.length).map fun j => D.int (j : Nat)) G1 := e_ai (ds := [.int (rows.length : Nat)]) (e_a (e_sv ln1 rfl) e_a0) (range_of (by omega))
  have al2 : truF (callF allP [(compF (argsI rangeOf1 [(callF lenP [(nameF 2)])]) (.name 4) none (op2 inP (op2 ixP (op2 ixP (nameF 2) (nameF 4)) (cF (.int 2))) (valsF [(cF (.str "")), (op2 ixP (cF (.str "ACE")) (nameF 4)), (op2 ixP (valsF [(cF (.str "AB")), (cF (.str "CD")), (cF (.str "EF"))] lstP) (nameF 4))] tupP)) [4])]) G1 = .ok true G1 :=
    e_tru (e_sv (e_cl (ds := [.lst ((List.range rows.length).map fun _ => D.bl true)]) (e_a (e_sv (compF_of3 (vs := [4]) it2 (show wipeG G1 [4] = G1 from rfl) cm2) rfl) e_a0) all_true) rfl) rfl
  have eq := lett48 (n := (n : Int)) (rows := rows) (W := W) (s2 := .val false (.lst (rows.map row3))) (s3 := .un) (s4 := .un)
  unfold m__law_is_case
  exact ⟨_, e_fn rfl (e_seq s2 (e_seq (e_iteN t1 rfl) (e_seq (e_iteN (e_not al1) rfl) (e_seq (e_iteN (e_not al2) rfl) (e_ret eq rfl)))))⟩
end Vl
set_option Elab.async false
set_option linter.all false
set_option maxRecDepth 100000
set_option maxHeartbeats 4000000
namespace Vl
open PySem PySem.Spec PyProof.Rows L2 My
def lens48 (rows : List Row) : List Int := rows.map fun q => ((q.2.2.length : Nat) : Int)
def rkP (rows : List Row) : PyData := .tuple [.list ((knums rows).map PyData.int), .list ((lens48 rows).map PyData.int)]
theorem toP_rk (rows : List Row) : toP (rkD rows) = some (rkP rows) := by
  have e : (rows.map fun q => D.int (q.2.2.length : Nat)) = (lens48 rows).map D.int := by unfold lens48; rw [List.map_map]; rfl
  show toP (.tup [.lst ((knums rows).map D.int), .lst (rows.map fun q => D.int (q.2.2.length : Nat))]) = _
  rw [e]
  simp [toP, toPs, toPs_ints, rkP]
def lxk (k : Bool) : List Int → List Int → Bool
  | x :: xs, y :: ys => decide (x < y) || (!decide (y < x) && lxk k xs ys)
  | _, _ => k
theorem lxk_app {k : Bool} {s t : List Int} : ∀ {a b : List Int}, a.length = b.length → lxk (lxk k s t) a b = lxk k (a ++ s) (b ++ t)
  | [], [], _ => by rw [List.nil_append, List.nil_append]; rfl
  | [], _ :: _, h => by simp at h
  | _ :: _, [], h => by simp at h
  | x :: a, y :: b, h => by
    show (decide (x < y) || (!decide (y < x) && lxk (lxk k s t) a b)) = (decide (x < y) || (!decide (y < x) && lxk k (a ++ s) (b ++ t)))
    rw [lxk_app (a := a) (b := b) (by simpa using h)]
theorem lxk_self {k : Bool} {s t : List Int} : ∀ a : List Int, lxk k (a ++ s) (a ++ t) = lxk k s t
  | [] => rfl
  | x :: a => by
    show (decide (x < x) || (!decide (x < x) && lxk k (a ++ s) (a ++ t))) = _
    rw [lxk_self a, decide_eq_false (Int.lt_irrefl x)]
    rfl
theorem lxk_pre {k : Bool} {s t : List Int} : ∀ {a b : List Int}, lxk false a b = true → lxk k (a ++ s) (b ++ t) = true
  | [], b, h => by cases b <;> cases h
  | _ :: _, [], h => by cases h
  | x :: a, y :: b, h => by
    have h : (decide (x < y) || (!decide (y < x) && lxk false a b)) = true := h
    show (decide (x < y) || (!decide (y < x) && lxk k (a ++ s) (b ++ t))) = true
    cases h1 : decide (x < y) with
    | true => rfl
    | false =>
      rw [h1, Bool.false_or, Bool.and_eq_true] at h
      rw [Bool.false_or, h.1, lxk_pre h.2]
      rfl
abbrev tokI (xs : List Int) : List (Int ⊕ List Nat) := PySem.W.keyToksAll (xs.map PyData.int)
theorem tok_lx {a b : List (Int ⊕ List Nat)} : ∀ {xs ys : List Int}, xs.length = ys.length → PyProof.Rows.lexLt PyProof.Rows.itemOrd (tokI xs ++ a) (tokI ys ++ b) = lxk (PyProof.Rows.lexLt PyProof.Rows.itemOrd a b) xs ys
  | [], [], _ => by
    show PyProof.Rows.lexLt PyProof.Rows.itemOrd (Sum.inl 0 :: a) (Sum.inl 0 :: b) = _
    rw [PyProof.Rows.lex_self]
    rfl
  | [], _ :: _, h => by simp at h
  | _ :: _, [], h => by simp at h
  | x :: xs, y :: ys, h => by
    have e1 : tokI (x :: xs) ++ a = Sum.inl 1 :: Sum.inl x :: (tokI xs ++ a) := by simp [tokI, PySem.W.keyToksAll, PySem.W.keyToks]
    have e2 : tokI (y :: ys) ++ b = Sum.inl 1 :: Sum.inl y :: (tokI ys ++ b) := by simp [tokI, PySem.W.keyToksAll, PySem.W.keyToks]
    rw [e1, e2, PyProof.Rows.lex_self, PyProof.Rows.lex_cons, tok_lx (xs := xs) (ys := ys) (by simpa using h)]
    rfl
theorem key_lt {n z n' z' : List Int} (h1 : n.length = n'.length) (h2 : z.length = z'.length) : PySem.W.dataLt (.tuple [.list (n.map PyData.int), .list (z.map PyData.int)]) (.tuple [.list (n'.map PyData.int), .list (z'.map PyData.int)]) = lxk false (n ++ z) (n' ++ z') := by
  have e : ∀ a b : List Int, PySem.W.keyToks (.tuple [.list (a.map PyData.int), .list (b.map PyData.int)]) = Sum.inl 1 :: (tokI a ++ (Sum.inl 1 :: (tokI b ++ [Sum.inl 0]))) := fun a b => by simp [tokI, PySem.W.keyToksAll, PySem.W.keyToks]
  unfold PySem.W.dataLt
  rw [e, e, PyProof.Rows.lex_self, tok_lx h1, PyProof.Rows.lex_self, tok_lx h2, PyProof.Rows.lex_irrefl, lxk_app h1]
def DL49 (a b : List Row) : Prop := PySem.W.dataLt (rkP a) (rkP b) = true
theorem DL49.trans {a b c : List Row} (h1 : DL49 a b) (h2 : DL49 b c) : DL49 a c := PyProof.Rows.lex_trans _ _ _ h1 h2
theorem DL49.irrefl {a : List Row} : ¬ DL49 a a := fun h => by
  have := PyProof.Rows.lex_irrefl (O := PyProof.Rows.itemOrd) (PySem.W.keyToks (rkP a))
  unfold DL49 PySem.W.dataLt at h
  rw [this] at h
  cases h
theorem lens_mkR {r : Srow} {l : List Nat} (h : Cz r l) : lens48 (mkR r l) = l.map fun (z : Nat) => (z : Int) := by
  conv => rhs; rw [← h.snd]
  unfold mkR lens48
  rw [List.map_map, List.map_map]
  apply List.map_congr_left
  intro x hx
  obtain ⟨_, hz, hw⟩ := zip_mem48 hx
  show ((cutS x.2.2 none (some (x.2.1 : Int))).length : Int) = (x.2.1 : Int)
  rw [cut_len48 _ hw _ (h.z2 _ hz)]
theorem nums_len (r : Srow) : (nums48 r).length = 2 * r.length := by
  induction r with
  | nil => rfl
  | cons p r ih => simp only [nums48, List.flatMap_cons, List.length_append, List.length_cons, List.length_nil] at *; omega
theorem DL49_of {r r' : Srow} {l l' : List Nat} (h : Cz r l) (h' : Cz r' l') (e : r.length = r'.length) (q : lxk false (nums48 r ++ l.map fun (z : Nat) => (z : Int)) (nums48 r' ++ l'.map fun (z : Nat) => (z : Int)) = true) : DL49 (mkR r l) (mkR r' l') := by
  unfold DL49 rkP
  rw [mkR_nums h, mkR_nums h', lens_mkR h, lens_mkR h', key_lt (by rw [nums_len, nums_len, e]) (by rw [List.length_map, List.length_map, ← h.l1, ← h'.l1, e])]
  exact q
theorem strL_pw (n : Nat) : (strL n).Pairwise fun p q => p.1 < q.1 ∨ (p.1 = q.1 ∧ p.2 < q.2) := by
  unfold strL
  rw [List.pairwise_flatMap]
  refine ⟨fun b _ => ?_, ?_⟩
  · rw [List.pairwise_map]
    exact List.pairwise_lt_range.imp fun {k k'} h => .inr ⟨rfl, by dsimp only; omega⟩
  · refine List.pairwise_lt_range.imp fun {b b'} h x hx y hy => ?_
    obtain ⟨k, _, rfl⟩ := List.mem_map.mp hx
    obtain ⟨k', _, rfl⟩ := List.mem_map.mp hy
    exact .inl (by dsimp only; omega)
theorem nums_snoc (r : Srow) (p : Int × Int) : nums48 (r ++ [p]) = nums48 r ++ [p.1, p.2] := by
  unfold nums48
  rw [List.flatMap_append]
  rfl
theorem SP_pw (n : Nat) : ∀ k, (SP n k).Pairwise fun a b => lxk false (nums48 a) (nums48 b) = true
  | 0 => by unfold SP; exact List.pairwise_singleton _ _
  | k + 1 => by
    unfold SP
    rw [List.pairwise_flatMap]
    refine ⟨fun row _ => ?_, ?_⟩
    · rw [List.pairwise_map]
      refine (strL_pw n).imp fun {p q} h => ?_
      rw [nums_snoc, nums_snoc, lxk_self]
      show (decide (p.1 < q.1) || (!decide (q.1 < p.1) && (decide (p.2 < q.2) || (!decide (q.2 < p.2) && false)))) = true
      rcases h with h | ⟨h1, h2⟩
      · rw [decide_eq_true h]; rfl
      · rw [decide_eq_true h2, decide_eq_false (show ¬ q.1 < p.1 by omega)]
        simp
    · refine (SP_pw n k).imp fun {a b} h x hx y hy => ?_
      obtain ⟨p, _, rfl⟩ := List.mem_map.mp hx
      obtain ⟨q, _, rfl⟩ := List.mem_map.mp hy
      rw [nums_snoc, nums_snoc]
      exact lxk_pre h
abbrev zI (l : List Nat) : List Int := l.map fun (z : Nat) => (z : Int)
theorem SZ_pw : ∀ k, (SZ k).Pairwise fun a b => lxk false (zI a) (zI b) = true
  | 0 => by unfold SZ; exact List.pairwise_singleton _ _
  | k + 1 => by
    unfold SZ
    rw [List.pairwise_flatMap]
    refine ⟨fun row _ => ?_, ?_⟩
    · rw [List.pairwise_map]
      refine List.pairwise_lt_range.imp fun {p q} h => ?_
      show lxk false ((row ++ [p]).map _) ((row ++ [q]).map _) = true
      rw [List.map_append, List.map_append, lxk_self]
      show (decide ((p : Int) < (q : Int)) || (!decide ((q : Int) < (p : Int)) && false)) = true
      rw [decide_eq_true (by omega)]
      rfl
    · refine (SZ_pw k).imp fun {a b} h x hx y hy => ?_
      obtain ⟨p, _, rfl⟩ := List.mem_map.mp hx
      obtain ⟨q, _, rfl⟩ := List.mem_map.mp hy
      show lxk false ((a ++ [p]).map _) ((b ++ [q]).map _) = true
      rw [List.map_append, List.map_append]
      exact lxk_pre h
theorem cz49 {c s m e : Str} {k n : Nat} (h : k ≤ 3) : ∀ r ∈ SR c s m e n k, ∀ l ∈ SZ k, Cz r l := fun r hr l hl => by
  have ro := SR_ok r hr
  obtain ⟨a, b⟩ := SZ_ok l hl
  exact ⟨by rw [ro.l, a], by rw [ro.l]; exact h, b⟩
theorem CS_pw {c s m e : Str} {k n : Nat} (h : k ≤ 3) : (CS48 c s m e n k).Pairwise DL49 := by
  unfold CS48
  rw [List.pairwise_flatMap]
  refine ⟨fun r hr => ?_, ?_⟩
  · rw [List.pairwise_map]
    refine (SZ_pw k).imp_of_mem fun {a b} ha hb q => ?_
    exact DL49_of (cz49 h r hr a ha) (cz49 h r hr b hb) rfl (by rw [lxk_self]; exact q)
  · have p : (SR c s m e n k).Pairwise fun a b => lxk false (nums48 a) (nums48 b) = true := by
      rw [SR_SP]
      exact (SP_pw n k).filter _
    refine p.imp_of_mem fun {a b} ha hb q x hx y hy => ?_
    obtain ⟨l, hl, rfl⟩ := List.mem_map.mp hx
    obtain ⟨l', hl', rfl⟩ := List.mem_map.mp hy
    exact DL49_of (cz49 h a ha l hl) (cz49 h b hb l' hl') (by rw [(SR_ok a ha).l, (SR_ok b hb).l]) (lxk_pre q)
theorem mem_strL {n : Nat} {p : Int × Int} (h0 : 0 ≤ p.1) (h1 : p.1 ≤ p.2) (h2 : p.2 ≤ n) : p ∈ strL n := by
  unfold strL
  rw [List.mem_flatMap]
  refine ⟨p.1.toNat, List.mem_range.mpr (by omega), List.mem_map.mpr ⟨(p.2 - p.1).toNat, List.mem_range.mpr (by omega), ?_⟩⟩
  obtain ⟨a, b⟩ := p
  dsimp only at *
  rw [Prod.mk.injEq]
  constructor <;> omega
theorem mem_SP {n : Nat} : ∀ (k : Nat) {r : Srow}, r.length = k → (∀ p ∈ r, p ∈ strL n) → r ∈ SP n k
  | 0, r, h, _ => by
    rw [List.length_eq_zero_iff.mp h]
    exact .head _
  | k + 1, r, h, hp => by
    have hne : r ≠ [] := fun e => by rw [e] at h; cases h
    have e := List.dropLast_concat_getLast hne
    unfold SP
    rw [List.mem_flatMap]
    refine ⟨r.dropLast, mem_SP k (by rw [List.length_dropLast, h]; rfl) fun p h => hp p (List.dropLast_subset _ h), List.mem_map.mpr ⟨r.getLast hne, hp _ (List.getLast_mem hne), e⟩⟩
theorem mem_SZ : ∀ (k : Nat) {l : List Nat}, l.length = k → (∀ z ∈ l, z ≤ 2) → l ∈ SZ k
  | 0, r, h, _ => by
    rw [List.length_eq_zero_iff.mp h]
    exact .head _
  | k + 1, r, h, hp => by
    have hne : r ≠ [] := fun e => by rw [e] at h; cases h
    have e := List.dropLast_concat_getLast hne
    unfold SZ
    rw [List.mem_flatMap]
    refine ⟨r.dropLast, mem_SZ k (by rw [List.length_dropLast, h]; rfl) fun p h => hp p (List.dropLast_subset _ h), List.mem_map.mpr ⟨r.getLast hne, List.mem_range.mpr (by have := hp _ (List.getLast_mem hne); omega), e⟩⟩
theorem first49 {L : List (List Row)} (hp : L.Pairwise DL49) {x y : List Row} {a : List (List Row)} {b : List (List Row)} (e : L = (a ++ [y]) ++ b) (hx : x ∈ L) (hl : DL49 x y) : x ∈ a ++ [y] := by
  rw [e] at hx hp
  rcases List.mem_append.mp hx with h | h
  · exact h
  · have := (List.pairwise_append.mp hp).2.2 y (by simp) x h
    exact absurd (this.trans hl) DL49.irrefl
theorem alike_ints : ∀ xs ys : List Int, PySem.W.alikeAll (xs.map PyData.int) (ys.map PyData.int) = true
  | [], ys => by cases ys <;> simp [PySem.W.alikeAll]
  | _ :: _, [] => by simp [PySem.W.alikeAll]
  | x :: xs, y :: ys => by simp [PySem.W.alikeAll, PySem.W.alike, alike_ints xs ys]
theorem ltQ_rk (a b : List Row) : ltQ (rkD a) (rkD b) = some (.val (.bl (PySem.W.dataLt (rkP a) (rkP b)))) := by
  have h1 : ltP (rkD a) (rkD b) = none := rfl
  have h2 : PySem.W.alike (rkP a) (rkP b) = true := by simp [rkP, PySem.W.alike, PySem.W.alikeAll, alike_ints]
  have h3 : (rkP a).depth ≤ 60 := by simp [rkP, PyData.depth, PyData.depthAll, depth_ints]
  unfold ltQ orP
  rw [h1]
  dsimp only
  unfold datP
  rw [toP_rk, toP_rk]
  dsimp only
  rw [h2, decide_eq_true h3, show noNone (rkP a) = true from rfl]
  rfl
theorem toPs_rk : ∀ xs : List (List Row), toPs (xs.map rkD) = some (xs.map rkP)
  | [] => rfl
  | r :: t => by simp only [List.map_cons, toPs, toPs_rk t, Option.map_some, toP_rk]; rfl
theorem sh_rk (a : List Row) : SeqAt.shaped (rkP a) = true := by
  simp [SeqAt.shaped, rkP, PyData.canLay0, PyData.canLayAll0, canLay_ints, PyData.depth, PyData.depthAll, depth_ints]
theorem shs_rk (xs : List (List Row)) : SeqAt.shaped (.list (xs.map rkP)) = true := by
  have h2 : PyData.canLayAll0 (xs.map rkP) = true := by
    induction xs with
    | nil => rfl
    | cons r t ih => simp [rkP, PyData.canLayAll0, PyData.canLay0, canLay_ints, ih]
  have h3 : PyData.depthAll (xs.map rkP) ≤ 2 := by
    clear h2
    induction xs with
    | nil => simp [PyData.depthAll]
    | cons r t ih => simp [rkP, PyData.depthAll, PyData.depth, depth_ints]; omega
  simp [SeqAt.shaped, PyData.canLay0, h2, PyData.depth]
  omega
theorem in_rk {x : List Row} {xs : List (List Row)} (h : x ∈ xs) : notInP (rkD x) (.lst (xs.map rkD)) = some (.val (.bl false)) := by
  have e : inD (rkD x) (.lst (xs.map rkD)) = some true := by
    show inF (rkD x) (xs.map rkD) = some true
    unfold inF
    rw [if_neg (fun h => absurd h.1 (show ¬ flatD (rkD x) = true from by rw [show flatD (rkD x) = false from rfl]; decide)), toP_rk, toPs_rk]
    dsimp only
    rw [if_pos ⟨sh_rk x, shs_rk xs⟩]
    have : (xs.map rkP).any (fun z => PyData.eqv z (rkP x)) = true := by
      rw [List.any_eq_true]
      exact ⟨rkP x, List.mem_map_of_mem h, SeqAt.eqv_refl _ (SeqAt.canLay_of_shaped (sh_rk x))⟩
    rw [this]
  unfold notInP
  rw [e]
  rfl
end Vl
set_option Elab.async false
set_option linter.all false
set_option maxRecDepth 100000
set_option maxHeartbeats 4000000
namespace Vl
open PySem PySem.Spec PyProof.Rows L2 My
theorem or_F {t1 t2 : Fb} {g g1 : Sg} {y : Bool} (h : t1 g = .ok false g) (k : t2 g = .ok y g1) : orB t1 t2 g = .ok y g1 := by
  unfold orB
  rw [h]
  exact k
theorem and_T {t1 t2 : Fb} {g g1 : Sg} {y : Bool} (h : t1 g = .ok true g) (k : t2 g = .ok y g1) : andB t1 t2 g = .ok y g1 := by
  unfold andB
  rw [h]
  exact k
theorem ix_m2 {α : Type} (F : α → D) (a : List α) (p q : α) : ixP (.lst ((a ++ [p]).map F ++ [F q])) (.int (-2)) = some (.val (F p)) := by
  have e : atI ((a ++ [p]).map F ++ [F q]) (-2) = some (F p) := by
    have hl : ((a ++ [p]).map F ++ [F q]).length = a.length + 2 := by simp
    unfold atI ixN
    rw [hl, if_neg (by decide), if_pos (by omega)]
    show ((a ++ [p]).map F ++ [F q])[((-2 : Int) + ((a.length + 2 : Nat) : Int)).toNat]? = _
    rw [show ((-2 : Int) + ((a.length + 2 : Nat) : Int)).toNat = a.length by omega, List.getElem?_append_left (by simp), List.getElem?_map, List.getElem?_append_right (Nat.le_refl _), Nat.sub_self]
    rfl
  simp only [ixP, e]
  rfl
theorem ix_m1 {α : Type} (F : α → D) (a : List α) (q : α) : ixP (.lst (a.map F ++ [F q])) (.int (-1)) = some (.val (F q)) := by
  have e : atI (a.map F ++ [F q]) (-1) = some (F q) := by
    have hl : (a.map F ++ [F q]).length = a.length + 1 := by simp
    unfold atI ixN
    rw [hl, if_neg (by decide), if_pos (by omega)]
    show (a.map F ++ [F q])[((-1 : Int) + ((a.length + 1 : Nat) : Int)).toNat]? = _
    rw [show ((-1 : Int) + ((a.length + 1 : Nat) : Int)).toNat = a.length by omega, List.getElem?_append_right (by simp), List.length_map, Nat.sub_self]
    rfl
  simp only [ixP, e]
  rfl
abbrev g49 (NS b W R : D) (k n : Int) (ky s7 s8 s9 s10 s11 s12 : Sl) : Sg := [.val true NS, .own false b, .val false W, .val false R, .val false (.int k), .val false (.int n), ky, s7, s8, s9, s10, s11, s12]
abbrev ky49 (a : List (List Row)) : Sl := .own false (.lst (a.map rkD))
def B49 (CR KE IC : Fm) : Fs := (iteS (blF (op2 ltP (callF lenP [(nameF 6)]) (cF (.int 40)))) (seqF (iteS (orB (blF (op2 neP (op1 (fldP "length" [("Case", none)]) (nameF 7)) (nameF 5))) (orB (notB (truF (callM IC [(nameF 7), (nameF 2)]))) (blF (op2 neP (callF lenP [(op1 (fldP "changes" [("Case", none)]) (nameF 7))]) (nameF 4))))) (retF (cF (.bl false))) .nx)
    (seqF (exprF (appF 6 (callM KE [(callM CR [(nameF 7)])])))
    (iteS (andB (blF (op2 gtP (callF lenP [(nameF 6)]) (cF (.int 1)))) (notB (blF (op2 ltQ (op2 ixP (nameF 6) (op1 negP (cF (.int 2)))) (op2 ixP (nameF 6) (op1 negP (cF (.int 1)))))))) (retF (cF (.bl false))) .nx))) .bk)
theorem b0_49 : b_law_0 = B49 m__law_case_rows m__law_key m__law_is_case := rfl
section
variable {NS b W R : D} {n : Int} {CR KE IC : Fm} {s8 s9 s10 s11 s12 : Sl}
def Hr49 (CR KE IC : Fm) (W : D) (n : Int) (k : Nat) (rows : List Row) : Prop := rows.length = k ∧ ∃ o1 o2 o3, CR [.val (caD n rows)] = .ok (.fr (.lst (rows.map row3))) o1 ∧ KE [.val (.lst (rows.map row3))] = .ok (.val (rkD rows)) o2 ∧ IC [.val (caD n rows), .val W] = .ok (.val (.bl true)) o3
theorem lt40 {a : List (List Row)} {k : Int} {s7 : Sl} (hl : a.length ≤ 1000) : blF (op2 ltP (callF lenP [(nameF 6)]) (cF (.int 40))) (g49 NS b W R k n (ky49 a) s7 s8 s9 s10 s11 s12) = .ok (decide (a.length < 40)) (g49 NS b W R k n (ky49 a) s7 s8 s9 s10 s11 s12) := by
  have ln : callF lenP [(nameF 6)] (g49 NS b W R k n (ky49 a) s7 s8 s9 s10 s11 s12) = .ok (.val (.int (a.length : Nat))) (g49 NS b W R k n (ky49 a) s7 s8 s9 s10 s11 s12) := e_cln (i := 6) rfl (len_of (by rw [List.length_map]) (by omega))
  refine e_bl (e_op2 (e_sv ln rfl) (e_sv e_c rfl) ?_)
  show some (RV.val (D.bl (decide (((a.length : Nat) : Int) < 40)))) = _
  congr 3
  exact decide_eq_decide.mpr (by omega)
theorem turn49 {k : Nat} {acc : List (List Row)} {rows : List Row} (ha : acc.length < 40) (hr : Hr49 CR KE IC W n k rows) (hd : ∀ a d, acc = a ++ [d] → DL49 d rows) :
    B49 CR KE IC (g49 NS b W R (k : Nat) n (ky49 acc) (.val false (caD n rows)) s8 s9 s10 s11 s12) = .nx (g49 NS b W R (k : Nat) n (ky49 (acc ++ [rows])) (.val false (caD n rows)) s8 s9 s10 s11 s12) := by
  obtain ⟨hk, o1, o2, o3, h1, h2, h3⟩ := hr
  let G : Sg := g49 NS b W R (k : Nat) n (ky49 acc) (.val false (caD n rows)) s8 s9 s10 s11 s12
  let G1 : Sg := g49 NS b W R (k : Nat) n (.own false (.lst (acc.map rkD ++ [rkD rows]))) (.val false (caD n rows)) s8 s9 s10 s11 s12
  have t0 : blF (op2 ltP (callF lenP [(nameF 6)]) (cF (.int 40))) G = .ok true G := by
    have := lt40 (NS := NS) (b := b) (W := W) (R := R) (n := n) (k := (k : Nat)) (s7 := .val false (caD n rows)) (s8 := s8) (s9 := s9) (s10 := s10) (s11 := s11) (s12 := s12) (a := acc) (by omega)
    rw [decide_eq_true ha] at this
    exact this
  have n7 : nameF 7 G = .ok (.val (caD n rows)) G := rfl
  have n5 : nameF 5 G = .ok (.val (.int n)) G := rfl
  have n4 : nameF 4 G = .ok (.val (.int (k : Nat))) G := rfl
  have n2 : nameF 2 G = .ok (.val W) G := rfl
  have fl : op1 (fldP "length" [("Case", none)]) (nameF 7) G = .ok (.val (.int n)) G := e_op1 (e_sv n7 rfl) rfl
  have fc : op1 (fldP "changes" [("Case", none)]) (nameF 7) G = .ok (.val (.tup (rows.map chOf))) G := e_op1 (e_sv n7 rfl) rfl
  have q1 : blF (op2 neP (op1 (fldP "length" [("Case", none)]) (nameF 7)) (nameF 5)) G = .ok false G := e_bl (e_op2 (e_sv fl rfl) (e_sv n5 rfl) (by rw [l_neI]; simp))
  have q2 : notB (truF (callM IC [(nameF 7), (nameF 2)])) G = .ok (!true) G := e_not (e_tru (e_sv (e_call2 (e_sv n7 rfl) (e_sv n2 rfl) h3 rfl) rfl) rfl)
  have ln : callF lenP [(op1 (fldP "changes" [("Case", none)]) (nameF 7))] G = .ok (.val (.int (k : Nat))) G := e_cl (ds := [.tup (rows.map chOf)]) (e_a (e_sv fc rfl) e_a0) (by
    show some (RV.val (D.int ((rows.map chOf).length : Nat))) = _
    rw [List.length_map, hk])
  have q3 : blF (op2 neP (callF lenP [(op1 (fldP "changes" [("Case", none)]) (nameF 7))]) (nameF 4)) G = .ok false G := e_bl (e_op2 (e_sv ln rfl) (e_sv n4 rfl) (by rw [l_neI]; simp))
  have t1 := e_or q1 (e_or q2 q3)
  have c := e_call1 (e_sv (e_call1 (e_sv n7 rfl) h1 rfl) rfl) h2 rfl
  have ap : exprF (appF 6 (callM KE [(callM CR [(nameF 7)])])) G = .nx G1 := (e_app (i := 6) (g := G) rfl (e_sv c rfl) rfl (by rw [List.length_map]; show acc.length < 16777216; omega)).trans rfl
  have ln1 : callF lenP [(nameF 6)] G1 = .ok (.val (.int ((acc.length + 1 : Nat) : Int))) G1 := e_cln (i := 6) rfl (len_of (by rw [List.length_append, List.length_map]; rfl) (by omega))
  have m2 : op1 negP (cF (.int 2)) G1 = .ok (.val (.int (-2))) G1 := rfl
  have m1 : op1 negP (cF (.int 1)) G1 = .ok (.val (.int (-1))) G1 := rfl
  have t2 : andB (blF (op2 gtP (callF lenP [(nameF 6)]) (cF (.int 1)))) (notB (blF (op2 ltQ (op2 ixP (nameF 6) (op1 negP (cF (.int 2)))) (op2 ixP (nameF 6) (op1 negP (cF (.int 1))))))) G1 = .ok false G1 := by
    have a1 : blF (op2 gtP (callF lenP [(nameF 6)]) (cF (.int 1))) G1 = .ok (decide ((1 : Int) < ((acc.length + 1 : Nat) : Int))) G1 := e_bl (e_op2 (e_sv ln1 rfl) (e_sv e_c rfl) rfl)
    rcases List.eq_nil_or_concat acc with e | ⟨a, d, e⟩
    · subst e
      exact e_andK a1 (fun h => by simp at h) fun _ => rfl
    · rw [List.concat_eq_append] at e
      have i1 : op2 ixP (nameF 6) (op1 negP (cF (.int 1))) G1 = .ok (.val (rkD rows)) G1 := e_op2n (i := 6) (g := G1) rfl (e_sv m1 rfl) (ix_m1 rkD acc rows)
      have i2 : op2 ixP (nameF 6) (op1 negP (cF (.int 2))) G1 = .ok (.val (rkD d)) G1 := e_op2n (i := 6) (g := G1) rfl (e_sv m2 rfl) (by rw [e]; exact ix_m2 rkD a d rows)
      have dl : PySem.W.dataLt (rkP d) (rkP rows) = true := hd a d e
      have l : blF (op2 ltQ (op2 ixP (nameF 6) (op1 negP (cF (.int 2)))) (op2 ixP (nameF 6) (op1 negP (cF (.int 1))))) G1 = .ok true G1 := e_bl (e_op2 (e_sv i2 rfl) (e_sv i1 rfl) (by rw [ltQ_rk, dl]))
      exact e_andK a1 (fun _ => e_not l) fun _ => rfl
  unfold B49
  refine (e_iteT t0 (e_seq (e_iteN t1 rfl) (e_seq ap (e_iteN t2 rfl)))).trans ?_
  show Rs.nx G1 = Rs.nx (g49 NS b W R (k : Nat) n (.own false (.lst ((acc ++ [rows]).map rkD))) (.val false (caD n rows)) s8 s9 s10 s11 s12)
  rw [List.map_append]
  rfl
theorem loop49 {k : Nat} : ∀ (cs acc : List (List Row)) (s7 : Sl), (∀ rows ∈ cs, Hr49 CR KE IC W n k rows) → (acc ++ cs).Pairwise DL49 → acc.length ≤ 40 →
    ∃ t7, loopF (.name 7) (B49 CR KE IC) (cs.map (caD n)) (g49 NS b W R (k : Nat) n (ky49 acc) s7 s8 s9 s10 s11 s12) = .nx (g49 NS b W R (k : Nat) n (ky49 (acc ++ cs.take (40 - acc.length))) t7 s8 s9 s10 s11 s12)
  | [], acc, s7, _, _, _ => ⟨s7, by simp [loopF]⟩
  | rows :: cs, acc, s7, h, hp, hl => by
    have tg : tgF (.name 7) (caD n rows) (g49 NS b W R (k : Nat) n (ky49 acc) s7 s8 s9 s10 s11 s12) = some (g49 NS b W R (k : Nat) n (ky49 acc) (.val false (caD n rows)) s8 s9 s10 s11 s12) := rfl
    by_cases ha : acc.length < 40
    · have t := turn49 (NS := NS) (b := b) (R := R) (s8 := s8) (s9 := s9) (s10 := s10) (s11 := s11) (s12 := s12) ha (h rows (.head _)) fun a d e => by
        rw [e] at hp
        exact (List.pairwise_append.mp hp).2.2 d (by simp) rows (.head _)
      obtain ⟨t7, ih⟩ := loop49 cs (acc ++ [rows]) (.val false (caD n rows)) (fun r hr => h r (.tail _ hr)) (by rw [List.append_assoc]; exact hp) (by rw [List.length_append]; exact ha)
      refine ⟨t7, ?_⟩
      rw [List.map_cons, loopF, tg]
      dsimp only
      rw [t]
      dsimp only
      rw [ih, List.length_append, List.length_singleton, List.append_assoc, show 40 - acc.length = (40 - (acc.length + 1)) + 1 by omega, List.take_succ_cons]
      rfl
    · have t0 := lt40 (NS := NS) (b := b) (W := W) (R := R) (n := n) (k := (k : Nat)) (s7 := .val false (caD n rows)) (s8 := s8) (s9 := s9) (s10 := s10) (s11 := s11) (s12 := s12) (a := acc) (by omega)
      rw [decide_eq_false ha] at t0
      have t : B49 CR KE IC (g49 NS b W R (k : Nat) n (ky49 acc) (.val false (caD n rows)) s8 s9 s10 s11 s12) = .bk (g49 NS b W R (k : Nat) n (ky49 acc) (.val false (caD n rows)) s8 s9 s10 s11 s12) := e_iteN t0 rfl
      refine ⟨.val false (caD n rows), ?_⟩
      rw [List.map_cons, loopF, tg]
      dsimp only
      rw [t]
      dsimp only
      rw [show 40 - acc.length = 0 by omega, List.take_zero, List.append_nil]
end
theorem zip_snoc48 {p : Int × Int} {z : Nat} {w : Str} : ∀ {r : Srow} {l : List Nat} {s : List Str}, r.length = l.length → s[r.length]? = some w → zip48 (r ++ [p]) (l ++ [z]) s = zip48 r l s ++ [(p, z, w)]
  | [], [], [], _, h => by cases h
  | [], [], w' :: s, _, h => by cases h; cases s <;> rfl
  | [], _ :: _, _, h, _ => by simp at h
  | _ :: _, [], _, h, _ => by simp at h
  | q :: r, y :: l, [], _, h => by cases h
  | q :: r, y :: l, w' :: s, h, h2 => by
    show (q, y, w') :: zip48 (r ++ [p]) (l ++ [z]) s = _
    rw [zip_snoc48 (by simpa using h) (by simpa using h2)]
    rfl
theorem mkR_snoc {p : Int × Int} {z : Nat} {w : Str} {r : Srow} {l : List Nat} (h : r.length = l.length) (hw : NW48[r.length]? = some w) : mkR (r ++ [p]) (l ++ [z]) = mkR r l ++ [(p.1, p.2, cutS w none (some (z : Int)))] := by
  unfold mkR
  rw [zip_snoc48 h hw, List.map_append]
  rfl
def C49 (PK : Fm) : Fs := (seqF (setF 11 (callF minP [(nameF 5), (callM PK [(nameF 1), (cF (.int 3))])]))
    (seqF (setF 12 (callF minP [(nameF 5), (op2 addP (nameF 11) (callM PK [(nameF 1), (cF (.int 4))]))]))
    (exprF (appF 9 (valsF [(nameF 11), (nameF 12), (slF (op2 ixP (valsF [(cF (.str "AB")), (cF (.str "CD")), (cF (.str "EF"))] lstP) (nameF 10)) none (some (callM PK [(nameF 1), (cF (.int 3))])))] tupP)))))
theorem own49 {NS b W R : D} {k n : Int} {ky s7 s8 s11 s12 : Sl} {j : Nat} {w : Str} {X : List D} (hb : GB b) (n0 : 0 ≤ n) (hw : ixP NWD (.int (j : Nat)) = some (.val (.str w))) (hwl : w.length ≤ 10) (hX : X.length ≤ 900) :
    ∃ b' : D, ∃ p : Int × Int, ∃ z : Nat, ∃ t11 t12 : Sl, GB b' ∧ (0 ≤ p.1 ∧ p.1 ≤ p.2 ∧ p.2 ≤ n) ∧ z ≤ 2 ∧ C49 m__law_pick (g49 NS b W R k n ky s7 s8 (.own false (.lst X)) (.val false (.int (j : Nat))) s11 s12) = .nx (g49 NS b' W R k n ky s7 s8 (.own false (.lst (X ++ [row3 (p.1, p.2, cutS w none (some (z : Int)))]))) (.val false (.int (j : Nat))) t11 t12) := by
  obtain ⟨x, b1, p1, g1, x0, x1⟩ := pick_ok hb (lim := 3) (by decide) (by decide)
  obtain ⟨y, b2, p2, g2, y0, y1⟩ := pick_ok g1 (lim := 4) (by decide) (by decide)
  obtain ⟨v, b3, p3, g3, v0, v1⟩ := pick_ok g2 (lim := 3) (by decide) (by decide)
  obtain ⟨a, ea⟩ : ∃ a : Int, a = if x < n then x else n := ⟨_, rfl⟩
  obtain ⟨q, eq⟩ : ∃ q : Int, q = if a + y < n then a + y else n := ⟨_, rfl⟩
  obtain ⟨z, rfl⟩ : ∃ z : Nat, v = (z : Int) := ⟨v.toNat, by omega⟩
  have a0 : 0 ≤ a ∧ a ≤ n := by subst ea; split <;> omega
  have q0 : a ≤ q ∧ q ≤ n := by subst eq; split <;> omega
  refine ⟨b3, (a, q), z, .val false (.int a), .val false (.int q), g3, ⟨a0.1, q0.1, q0.2⟩, by omega, ?_⟩
  generalize m__law_pick = PK at *
  let G0 : Sg := g49 NS b W R k n ky s7 s8 (.own false (.lst X)) (.val false (.int (j : Nat))) s11 s12
  let G1 : Sg := g49 NS b1 W R k n ky s7 s8 (.own false (.lst X)) (.val false (.int (j : Nat))) s11 s12
  let G2 : Sg := g49 NS b1 W R k n ky s7 s8 (.own false (.lst X)) (.val false (.int (j : Nat))) (.val false (.int a)) s12
  let G3 : Sg := g49 NS b2 W R k n ky s7 s8 (.own false (.lst X)) (.val false (.int (j : Nat))) (.val false (.int a)) s12
  let G4 : Sg := g49 NS b2 W R k n ky s7 s8 (.own false (.lst X)) (.val false (.int (j : Nat))) (.val false (.int a)) (.val false (.int q))
  let G5 : Sg := g49 NS b3 W R k n ky s7 s8 (.own false (.lst X)) (.val false (.int (j : Nat))) (.val false (.int a)) (.val false (.int q))
  have c1 : callM PK [(nameF 1), (cF (.int 3))] G0 = .ok (.val (.int x)) G1 := (e_callB1 (i := 1) (g := G0) rfl (e_sv e_c rfl) p1 rfl).trans rfl
  have m1 : callF minP [(nameF 5), (callM PK [(nameF 1), (cF (.int 3))])] G0 = .ok (.val (.int a)) G1 := e_cl (ds := [.int n, .int x]) (e_a (e_sv (show nameF 5 G0 = .ok (.val (.int n)) G0 from rfl) rfl) (e_a (e_sv c1 rfl) e_a0)) (by rw [ea]; rfl)
  have a1 : setF 11 (callF minP [(nameF 5), (callM PK [(nameF 1), (cF (.int 3))])]) G0 = .nx G2 := (e_setv m1).trans rfl
  have c2 : callM PK [(nameF 1), (cF (.int 4))] G2 = .ok (.val (.int y)) G3 := (e_callB1 (i := 1) (g := G2) rfl (e_sv e_c rfl) p2 rfl).trans rfl
  have ad : op2 addP (nameF 11) (callM PK [(nameF 1), (cF (.int 4))]) G2 = .ok (.val (.int (a + y))) G3 := e_op2 (e_sv (show nameF 11 G2 = .ok (.val (.int a)) G2 from rfl) rfl) (e_sv c2 rfl) rfl
  have m2 : callF minP [(nameF 5), (op2 addP (nameF 11) (callM PK [(nameF 1), (cF (.int 4))]))] G2 = .ok (.val (.int q)) G3 := e_cl (ds := [.int n, .int (a + y)]) (e_a (e_sv (show nameF 5 G2 = .ok (.val (.int n)) G2 from rfl) rfl) (e_a (e_sv ad rfl) e_a0)) (by rw [eq]; rfl)
  have a2 : setF 12 (callF minP [(nameF 5), (op2 addP (nameF 11) (callM PK [(nameF 1), (cF (.int 4))]))]) G2 = .nx G4 := (e_setv m2).trans rfl
  have c3 : callM PK [(nameF 1), (cF (.int 3))] G4 = .ok (.val (.int (z : Int))) G5 := (e_callB1 (i := 1) (g := G4) rfl (e_sv e_c rfl) p3 rfl).trans rfl
  have v1 : valsF [(cF (.str "AB")), (cF (.str "CD")), (cF (.str "EF"))] lstP G4 = .ok (.fr NWD) G4 := rfl
  have o1 : op2 ixP (valsF [(cF (.str "AB")), (cF (.str "CD")), (cF (.str "EF"))] lstP) (nameF 10) G4 = .ok (.val (.str w)) G4 := e_op2 (e_sv v1 rfl) (e_sv (show nameF 10 G4 = .ok (.val (.int (j : Nat))) G4 from rfl) rfl) hw
  have sl : slF (op2 ixP (valsF [(cF (.str "AB")), (cF (.str "CD")), (cF (.str "EF"))] lstP) (nameF 10)) none (some (callM PK [(nameF 1), (cF (.int 3))])) G4 = .ok (.val (.str (cutS w none (some (z : Int))))) G5 := by
    have c := cut48 w hwl z
    generalize (op2 ixP (valsF [(cF (.str "AB")), (cF (.str "CD")), (cF (.str "EF"))] lstP) (nameF 10)) = F1 at *
    generalize (callM PK [(nameF 1), (cF (.int 3))]) = F2 at *
    simp only [slF, o1, settle, Res.bind, optF, c3, lift1, deref, c]
  have vv : valsF [(nameF 11), (nameF 12), (slF (op2 ixP (valsF [(cF (.str "AB")), (cF (.str "CD")), (cF (.str "EF"))] lstP) (nameF 10)) none (some (callM PK [(nameF 1), (cF (.int 3))])))] tupP G4 = .ok (.val (row3 (a, q, cutS w none (some (z : Int))))) G5 :=
    e_vals (ds := [.int a, .int q, .str (cutS w none (some (z : Int)))]) (e_a (e_sv (show nameF 11 G4 = .ok (.val (.int a)) G4 from rfl) rfl) (e_a (e_sv (show nameF 12 G4 = .ok (.val (.int q)) G4 from rfl) rfl) (e_a (e_sv sl rfl) e_a0))) rfl
  have ap := (e_app (i := 9) (g := G4) rfl (e_sv vv rfl) rfl (show X.length < 16777216 by omega))
  unfold C49
  exact e_seq a1 (e_seq a2 (ap.trans rfl))
structure Ow49 (n : Int) (j : Nat) (r : Srow) (l : List Nat) : Prop where
  l1 : r.length = j
  l2 : l.length = j
  o : ∀ p ∈ r, 0 ≤ p.1 ∧ p.1 ≤ p.2 ∧ p.2 ≤ n
  z : ∀ z ∈ l, z ≤ 2
theorem nw49 {j : Nat} (h : j < 3) : ∃ w, NW48[j]? = some w ∧ ixP NWD (.int (j : Nat)) = some (.val (.str w)) ∧ w.length ≤ 10 := by
  have : j = 0 ∨ j = 1 ∨ j = 2 := by omega
  rcases this with rfl | rfl | rfl
  · exact ⟨"AB", rfl, by kernel_rfl, by decide⟩
  · exact ⟨"CD", rfl, by kernel_rfl, by decide⟩
  · exact ⟨"EF", rfl, by kernel_rfl, by decide⟩
theorem owns49 {NS W R : D} {k n : Int} {ky s7 s8 : Sl} (n0 : 0 ≤ n) : ∀ (d j : Nat) (b : D) (r : Srow) (l : List Nat) (s10 s11 s12 : Sl), j + d ≤ 3 → GB b → Ow49 n j r l →
    ∃ b' r' l' t10 t11 t12, GB b' ∧ Ow49 n (j + d) r' l' ∧ loopF (.name 10) (C49 m__law_pick) ((List.range' j d).map fun i => D.int (i : Nat)) (g49 NS b W R k n ky s7 s8 (.own false (.lst ((mkR r l).map row3))) s10 s11 s12) = .nx (g49 NS b' W R k n ky s7 s8 (.own false (.lst ((mkR r' l').map row3))) t10 t11 t12)
  | 0, j, b, r, l, s10, s11, s12, _, hb, ho => ⟨b, r, l, s10, s11, s12, hb, ho, rfl⟩
  | d + 1, j, b, r, l, s10, s11, s12, hj, hb, ho => by
    obtain ⟨w, hw, hx, hwl⟩ := nw49 (j := j) (by omega)
    have hX : ((mkR r l).map row3).length ≤ 900 := by
      rw [List.length_map]
      unfold mkR
      rw [List.length_map, zip_len48 (by rw [ho.l1, ho.l2]) (by rw [ho.l1]; show j ≤ 3; omega), ho.l1]
      omega
    obtain ⟨b1, p, z, u11, u12, hb1, hp, hz, e⟩ := own49 (NS := NS) (W := W) (R := R) (k := k) (n := n) (ky := ky) (s7 := s7) (s8 := s8) (s11 := s11) (s12 := s12) hb n0 hx hwl hX
    have ho1 : Ow49 n (j + 1) (r ++ [p]) (l ++ [z]) := ⟨by rw [List.length_append, ho.l1]; rfl, by rw [List.length_append, ho.l2]; rfl, fun q hq => by
      rcases List.mem_append.mp hq with h | h
      · exact ho.o q h
      · rw [List.mem_singleton] at h; subst h; exact hp, fun q hq => by
      rcases List.mem_append.mp hq with h | h
      · exact ho.z q h
      · rw [List.mem_singleton] at h; subst h; exact hz⟩
    obtain ⟨b', r', l', t10, t11, t12, hb', ho', ih⟩ := owns49 n0 d (j + 1) b1 (r ++ [p]) (l ++ [z]) (.val false (.int (j : Nat))) u11 u12 (by omega) hb1 ho1
    refine ⟨b', r', l', t10, t11, t12, hb', by rw [show j + (d + 1) = j + 1 + d by omega]; exact ho', ?_⟩
    rw [mkR_snoc (by rw [ho.l1, ho.l2]) (by rw [ho.l1]; exact hw), List.map_append] at ih
    rw [List.range'_succ, List.map_cons, loopF, show tgF (.name 10) (.int (j : Nat)) (g49 NS b W R k n ky s7 s8 (.own false (.lst ((mkR r l).map row3))) s10 s11 s12) = some (g49 NS b W R k n ky s7 s8 (.own false (.lst ((mkR r l).map row3))) (.val false (.int (j : Nat))) s11 s12) from rfl]
    dsimp only
    rw [e]
    dsimp only
    exact ih
end Vl
set_option Elab.async false
set_option linter.all false
set_option maxRecDepth 100000
set_option maxHeartbeats 4000000
namespace Vl
open PySem PySem.Spec PyProof.Rows L2 My
theorem lkey_okO {rows : List Row} (hl : rows.length ≤ 900) (hz : ∀ q ∈ rows, q.2.2.length ≤ 10000) : m__law_key [.own (.lst (rows.map row3))] = .ok (.val (rkD rows)) [.val true (.lst (rows.map row3))] := by
  let R : Sl := .val true (.lst (rows.map row3))
  obtain ⟨t2, lp⟩ := key_loop48 (R := R) rows [] .un (by simp; omega)
  rw [List.nil_append] at lp
  let X : List D := (knums rows).map D.int
  let G : Sg := [R, .own false (.lst X), t2]
  let G1 : Sg := [R, .val false (.lst X), .un]
  let G2 : Sg := [R, .own false (.lst X), .un]
  have cm := comp_mapI (t := .name 2) (fe := (callF lenP [(op2 ixP (nameF 2) (cF (.int 2)))])) (vs := [2]) (g := G2) row3 (fun q => D.int (q.2.2.length : Nat)) (xs := rows) (acc := []) (by simp [sizeLine]; omega) fun q hq => by
    let H : Sg := [R, .own false (.lst X), .val false (row3 q)]
    have ln : lenP [.str q.2.2] = some (.val (.int (q.2.2.length : Nat))) := by
      have := hz q hq
      show (if q.2.2.length ≤ sizeLine then _ else _) = _
      rw [if_pos (by show q.2.2.length ≤ 16777216; omega)]
    have n2 : op2 ixP (nameF 2) (cF (.int 2)) H = .ok (.val (.str q.2.2)) H := rfl
    have vf : callF lenP [(op2 ixP (nameF 2) (cF (.int 2)))] H = .ok (.val (.int (q.2.2.length : Nat))) H := e_cl (ds := [.str q.2.2]) (e_a (e_sv n2 rfl) e_a0) ln
    refine ⟨H, rfl, .val (.int (q.2.2.length : Nat)), H, ?_, H, rfl, rfl⟩
    rw [vf]
    rfl
  rw [List.nil_append] at cm
  have it : iterF (nameF 0) G = .ok (rows.map row3) G := rfl
  have cf := compF_of3 (vs := [2]) it (show wipeG G [2] = G2 from rfl) cm
  have vf : valsF [(nameF 1), (compF (iterF (nameF 0)) (.name 2) none (callF lenP [(op2 ixP (nameF 2) (cF (.int 2)))]) [2])] tupP G = .ok (.val (rkD rows)) G1 := by
    have ev : evA [(nameF 1), (compF (iterF (nameF 0)) (.name 2) none (callF lenP [(op2 ixP (nameF 2) (cF (.int 2)))]) [2])] G = .ok [.at_ 1, .val (.lst (rows.map fun q => D.int (q.2.2.length : Nat)))] G2 := by
      have n1 : nameF 1 G = .ok (.at_ 1) G := rfl
      simp only [evA, n1, settle, Res.bind, cf]
    unfold valsF
    rw [ev]
    rfl
  have s1 : setF 1 (valsF [] lstP) (startG 3 [.own (.lst (rows.map row3))]) = .nx [.own true (.lst (rows.map row3)), .own false (.lst []), .un] := rfl
  have it2 : iterF (nameF 0) [.own true (.lst (rows.map row3)), .own false (.lst []), .un] = .ok (rows.map row3) [R, .own false (.lst []), .un] := rfl
  unfold m__law_key
  exact (e_fn rfl (e_seq s1 (e_seq (e_for it2 lp) (e_ret vf rfl)))).trans rfl
theorem callKO49 {KE : Fm} {g : Sg} {i : Nat} {t : Bool} {A o c : D} {os : List Sl} (hx : g[i]? = some (.own t A)) (h : KE [.own A] = .ok (.val o) (.val true c :: os)) : callM KE [nameF i] g = .ok (.val o) (g.set i (.val t c)) := by
  have hn : nameF i g = .ok (.at_ i) g := by unfold nameF; rw [hx]
  have e1 : evA [nameF i] g = .ok [.at_ i] g := by
    unfold evA
    rw [hn]
    rfl
  have po : putOuts [.at_ i] (.val true c :: os) g = g.set i (.val t c) := by
    unfold putOuts
    refine List.ext_getElem (by simp) fun j h1 h2 => ?_
    rw [List.getElem_mapIdx, List.getElem_set]
    by_cases hj : i = j
    · subst hj
      have : g[i]'(by simpa using h1) = .own t A := by
        have := List.getElem?_eq_getElem (l := g) (i := i) (by simpa using h1)
        rw [hx] at this
        exact (Option.some.inj this).symm
      rw [this]
      simp [outFor, outC]
    · rw [if_neg hj]
      have : outFor j [.at_ i] (.val true c :: os) = none := by
        unfold outFor
        rw [if_neg hj]
        rfl
      rw [this]
      cases g[j]'(by simpa using h1) <;> rfl
  unfold callM
  rw [e1]
  show callK KE _ g = _
  unfold callK
  have ta : toArs g [.at_ i] = some [.own A] := by
    show ((toAr g (.at_ i)).bind fun a => (toArs g []).map (a :: ·)) = _
    rw [e_toA hx]
    rfl
  rw [show ixs [.at_ i] = [i] from rfl, if_pos (by simp), ta]
  dsimp only
  rw [h]
  dsimp only
  rw [po]
theorem callLB49 {LB : Fm} {g : Sg} {i j : Nat} {t : Bool} {A o W : D} (hi : nameF i g = .ok (.val W) g) (hx : g[j]? = some (.own t A)) (h : LB [.val W, .own A] = .ok (.val o) [.val true W, .own true A]) : callM LB [nameF i, nameF j] g = .ok (.val o) g := by
  have hn : nameF j g = .ok (.at_ j) g := by unfold nameF; rw [hx]
  have e1 : evA [nameF i, nameF j] g = .ok [.val W, .at_ j] g := by
    have e2 : evA [nameF j] g = .ok [.at_ j] g := by
      unfold evA
      rw [hn]
      rfl
    unfold evA
    rw [hi]
    show (evA [nameF j] g).bind _ = _
    rw [e2]
    rfl
  have po : putOuts [.val W, .at_ j] [.val true W, .own true A] g = g := by
    unfold putOuts
    refine List.ext_getElem (by simp) fun q h1 h2 => ?_
    rw [List.getElem_mapIdx]
    by_cases hj : j = q
    · subst hj
      have : g[j]'(by simpa using h1) = .own t A := by
        have := List.getElem?_eq_getElem (l := g) (i := j) (by simpa using h1)
        rw [hx] at this
        exact (Option.some.inj this).symm
      rw [this]
      simp [outFor, outC]
    · have : outFor q [.val W, .at_ j] [.val true W, .own true A] = none := by
        unfold outFor
        unfold outFor
        rw [if_neg hj]
        rfl
      rw [this]
      cases g[q]'(by simpa using h1) <;> rfl
  unfold callM
  rw [e1]
  show callK LB _ g = _
  unfold callK
  have ta : toArs g [.val W, .at_ j] = some [.val W, .own A] := by
    show ((toAr g (.val W)).bind fun a => (((toAr g (.at_ j)).bind fun a => (toArs g []).map (a :: ·))).map (a :: ·)) = _
    rw [e_toA hx]
    rfl
  rw [show ixs [.val W, .at_ j] = [j] from rfl, if_pos (by simp), ta]
  dsimp only
  rw [h]
  dsimp only
  rw [po]
def T49 (LB KE : Fm) : Fs := (iteS (andB (blF (op2 isP (callM LB [(nameF 2), (nameF 9)]) (cF .non))) (orB (blF (op2 ltP (callF lenP [(nameF 6)]) (cF (.int 40)))) (blF (op2 ltQ (callM KE [(nameF 9)]) (op2 ixP (nameF 6) (op1 negP (cF (.int 1)))))))) (iteS (blF (op2 notInP (callM KE [(nameF 9)]) (nameF 6))) (retF (cF (.bl false))) .nx) .nx)
def E49 (LB KE PK : Fm) : Fs := (seqF (setF 9 (valsF [] lstP))
    (seqF (forF (argsI rangeOf1 [(nameF 4)]) (.name 10) (C49 PK))
    (T49 LB KE)))
theorem b2_49 : b_law_2 = E49 m__law_bars m__law_key m__law_pick := rfl
theorem look49 {LB KE : Fm} {NS b W R : D} {k n : Int} {rows : List Row} {ks : List (List Row)} {o : D} {bo : Bool} {s7 s10 s11 s12 : Sl} {d : D}
    (lb : LB [.val W, .own (.lst (rows.map row3))] = .ok (.val o) [.val true W, .own true (.lst (rows.map row3))]) (ho : isP o .non = some (.val (.bl bo)))
    (kO : KE [.own (.lst (rows.map row3))] = .ok (.val (rkD rows)) [.val true (.lst (rows.map row3))]) (kV : ∃ os, KE [.val (.lst (rows.map row3))] = .ok (.val (rkD rows)) os) (hl : ks.length ≤ 40) 
    (h1 : bo = true → ks.length < 40 → rows ∈ ks) (h2 : bo = true → ∀ a y, ks = a ++ [y] → DL49 rows y → rows ∈ ks) :
    ∃ t9, T49 LB KE (g49 NS b W R k n (ky49 ks) s7 (.val false d) (.own false (.lst (rows.map row3))) s10 s11 s12) = .nx (g49 NS b W R k n (ky49 ks) s7 (.val false d) t9 s10 s11 s12) := by
  let G : Sg := g49 NS b W R k n (ky49 ks) s7 (.val false d) (.own false (.lst (rows.map row3))) s10 s11 s12
  let G1 : Sg := g49 NS b W R k n (ky49 ks) s7 (.val false d) (.val false (.lst (rows.map row3))) s10 s11 s12
  have q0 : blF (op2 isP (callM LB [(nameF 2), (nameF 9)]) (cF .non)) G = .ok bo G := e_bl (e_op2 (e_sv (callLB49 (i := 2) (j := 9) (g := G) rfl rfl lb) rfl) (e_sv e_c rfl) ho)
  unfold T49
  cases bo with
  | false => exact ⟨_, e_iteN (e_andK q0 (fun h => nomatch h) fun _ => rfl) rfl⟩
  | true =>
    have ck : callM KE [(nameF 9)] G = .ok (.val (rkD rows)) G1 := (callKO49 (i := 9) (g := G) rfl kO).trans rfl
    have l4 := lt40 (NS := NS) (b := b) (W := W) (R := R) (n := n) (k := k) (s7 := s7) (s8 := .val false d) (s9 := .own false (.lst (rows.map row3))) (s10 := s10) (s11 := s11) (s12 := s12) (a := ks) (by omega)
    by_cases hk : ks.length < 40
    · rw [decide_eq_true hk] at l4
      have t1 := e_and q0 (e_orK l4 (t2 := (blF (op2 ltQ (callM KE [(nameF 9)]) (op2 ixP (nameF 6) (op1 negP (cF (.int 1))))))) (y := true) (fun h => nomatch h) fun _ => rfl)
      have t2 : blF (op2 notInP (callM KE [(nameF 9)]) (nameF 6)) G = .ok false G1 := e_bl (e_op2m (i := 6) (e_sv ck rfl) rfl (in_rk (h1 rfl hk)))
      exact ⟨_, e_iteT t1 (e_iteN t2 rfl)⟩
    · rw [decide_eq_false hk] at l4
      rcases List.eq_nil_or_concat ks with e | ⟨a, y, e⟩
      · rw [e] at hk
        exact absurd (show ([] : List (List Row)).length < 40 by decide) hk
      · rw [List.concat_eq_append] at e
        have m1 : op1 negP (cF (.int 1)) G1 = .ok (.val (.int (-1))) G1 := rfl
        have i1 : op2 ixP (nameF 6) (op1 negP (cF (.int 1))) G1 = .ok (.val (rkD y)) G1 := e_op2n (i := 6) (g := G1) rfl (e_sv m1 rfl) (by rw [e, List.map_append]; exact ix_m1 rkD a y)
        have lt : blF (op2 ltQ (callM KE [(nameF 9)]) (op2 ixP (nameF 6) (op1 negP (cF (.int 1))))) G = .ok (PySem.W.dataLt (rkP rows) (rkP y)) G1 := e_bl (e_op2 (e_sv ck rfl) (e_sv i1 rfl) (ltQ_rk rows y))
        have t1 := and_T q0 (or_F l4 lt)
        cases hd : PySem.W.dataLt (rkP rows) (rkP y) with
        | false =>
          rw [hd] at t1
          exact ⟨_, e_iteN t1 rfl⟩
        | true =>
          rw [hd] at t1
          obtain ⟨os, kV⟩ := kV
          have ck1 : callM KE [(nameF 9)] G1 = .ok (.val (rkD rows)) G1 := e_call1 (e_sv (show nameF 9 G1 = .ok (.val (.lst (rows.map row3))) G1 from rfl) rfl) kV rfl
          have t2 : blF (op2 notInP (callM KE [(nameF 9)]) (nameF 6)) G1 = .ok false G1 := e_bl (e_op2m (i := 6) (e_sv ck1 rfl) rfl (in_rk (h2 rfl a y e hd)))
          exact ⟨_, e_iteT t1 (e_iteN t2 rfl)⟩
theorem round49 {NS W R : D} {k n : Nat} {ks : List (List Row)} {c s t m e : Str} (hk : k ≤ 3) (hl : ks.length ≤ 40) (hW : W = wordsD c s t m e)
    (h1 : ∀ r l, Ow49 n k r l → okRw c s m e r = true → ks.length < 40 → mkR r l ∈ ks) (h2 : ∀ r l, Ow49 n k r l → okRw c s m e r = true → ∀ a y, ks = a ++ [y] → DL49 (mkR r l) y → mkR r l ∈ ks)
    {b : D} (hb : GB b) {s7 s9 s10 s11 s12 : Sl} {d : D} : ∃ b' t9 t10 t11 t12, GB b' ∧ b_law_2 (g49 NS b W R (k : Nat) (n : Nat) (ky49 ks) s7 (.val false d) s9 s10 s11 s12) = .nx (g49 NS b' W R (k : Nat) (n : Nat) (ky49 ks) s7 (.val false d) t9 t10 t11 t12) := by
  obtain ⟨b1, r, l, u10, u11, u12, hb1, ho, lp⟩ := owns49 (NS := NS) (W := W) (R := R) (k := (k : Nat)) (n := (n : Nat)) (ky := ky49 ks) (s7 := s7) (s8 := .val false d) (by omega) k 0 b [] [] s10 s11 s12 (by omega) hb ⟨rfl, rfl, (fun _ h => nomatch h), (fun _ h => nomatch h)⟩
  rw [Nat.zero_add] at ho
  have cz : Cz r l := ⟨by rw [ho.l1, ho.l2], by rw [ho.l1]; exact hk, ho.z⟩
  have lenR : (mkR r l).length ≤ 3 := by rw [cz.len, ho.l1]; exact hk
  have fb : firstB c s m e (mkR r l) = firstB c s m e (chR48 r) := by rw [← firstB_f0, mkR_f0 cz]
  have lb := lbars_okO c s t m e (rows := mkR r l) (by omega) (fun q hq => (ho.o _ (mkR_row cz hq).1).2.1)
  rw [fb] at lb
  have hio : isP (g_optD (firstB c s m e (chR48 r))) .non = some (.val (.bl (okRw c s m e r))) := by
    unfold okRw
    cases firstB c s m e (chR48 r) <;> rfl
  have kO := lkey_okO (rows := mkR r l) (by omega) (fun q hq => by have := (mkR_row cz hq).2; omega)
  have kV := lkey_ok (rows := mkR r l) (by omega) (fun q hq => by have := (mkR_row cz hq).2; omega)
  have p1 := h1 r l ho
  have p2 := h2 r l ho
  rw [← hW] at lb
  obtain ⟨t9, lk⟩ := look49 (NS := NS) (b := b1) (R := R) (k := (k : Nat)) (n := (n : Nat)) (s7 := s7) (s10 := u10) (s11 := u11) (s12 := u12) (d := d) lb hio kO kV hl p1 p2
  refine ⟨b1, t9, u10, u11, u12, hb1, ?_⟩
  rw [b2_49]
  clear lb kO kV p1 p2 h1 h2
  generalize m__law_bars = LB at *
  generalize m__law_key = KE at *
  have st : setF 9 (valsF [] lstP) (g49 NS b W R (k : Nat) (n : Nat) (ky49 ks) s7 (.val false d) s9 s10 s11 s12) = .nx (g49 NS b W R (k : Nat) (n : Nat) (ky49 ks) s7 (.val false d) (.own false (.lst [])) s10 s11 s12) := rfl
  have n4 : nameF 4 (g49 NS b W R (k : Nat) (n : Nat) (ky49 ks) s7 (.val false d) (.own false (.lst [])) s10 s11 s12) = .ok (.val (.int (k : Nat))) (g49 NS b W R (k : Nat) (n : Nat) (ky49 ks) s7 (.val false d) (.own false (.lst [])) s10 s11 s12) := rfl
  have it := e_ai (ds := [.int (k : Nat)]) (e_a (e_sv n4 rfl) e_a0) (range_of (n := k) (by omega))
  rw [List.range_eq_range'] at it
  unfold E49
  exact e_seq st (e_seq (e_for it lp) lk)
theorem mkrule49 {c s t m e : Str} (w : Wds c s t m e) {g : Sg} (n2 : nameF 2 g = .ok (.val (wordsD c s t m e)) g) : callKw gq_Rule_0_clash_settle_ties_comes_ends x_Rule 0 5 [] [(op2 ixP (nameF 2) (cF (.int 0))), (op2 ixP (nameF 2) (cF (.int 1))), (op2 ixP (nameF 2) (cF (.int 2))), (op2 ixP (nameF 2) (cF (.int 3))), (op2 ixP (nameF 2) (cF (.int 4)))] g = .ok (.fr (ruleD c s t m e)) g := by
  obtain ⟨outs, h⟩ := rule_made w
  have x0 : op2 ixP (nameF 2) (cF (.int 0)) g = .ok (.val (.str c)) g := e_op2 (e_sv n2 rfl) (e_sv e_c rfl) rfl
  have x1 : op2 ixP (nameF 2) (cF (.int 1)) g = .ok (.val (.str s)) g := e_op2 (e_sv n2 rfl) (e_sv e_c rfl) rfl
  have x2 : op2 ixP (nameF 2) (cF (.int 2)) g = .ok (.val (.str t)) g := e_op2 (e_sv n2 rfl) (e_sv e_c rfl) rfl
  have x3 : op2 ixP (nameF 2) (cF (.int 3)) g = .ok (.val (.str m)) g := e_op2 (e_sv n2 rfl) (e_sv e_c rfl) rfl
  have x4 : op2 ixP (nameF 2) (cF (.int 4)) g = .ok (.val (.str e)) g := e_op2 (e_sv n2 rfl) (e_sv e_c rfl) rfl
  have ev : evA [(op2 ixP (nameF 2) (cF (.int 0))), (op2 ixP (nameF 2) (cF (.int 1))), (op2 ixP (nameF 2) (cF (.int 2))), (op2 ixP (nameF 2) (cF (.int 3))), (op2 ixP (nameF 2) (cF (.int 4)))] g = .ok ([.str c, .str s, .str t, .str m, .str e].map RV.val) g := e_a (e_sv x0 rfl) (e_a (e_sv x1 rfl) (e_a (e_sv x2 rfl) (e_a (e_sv x3 rfl) (e_a (e_sv x4 rfl) e_a0))))
  have e0 : evA [] g = .ok [] g := rfl
  have kk : callK x_Rule ([.str c, .str s, .str t, .str m, .str e].map RV.val) g = .ok (.fr (ruleD c s t m e)) g := e_callK (ds := [.str c, .str s, .str t, .str m, .str e]) h rfl
  unfold callKw
  rw [e0]
  show (if ([] : List RV).length = 0 then (evA _ g).bind (fun ys g2 => kwK gq_Rule_0_clash_settle_ties_comes_ends x_Rule 0 5 ([] ++ ys) g2) else .stuck) = _
  rw [if_pos (show ([] : List RV).length = 0 from rfl), ev]
  have key : ∀ xs : List RV, xs = [.str c, .str s, .str t, .str m, .str e].map RV.val → kwK gq_Rule_0_clash_settle_ties_comes_ends x_Rule 0 5 xs g = .ok (.fr (ruleD c s t m e)) g := by
    intro xs hx
    subst hx
    unfold kwK
    refine (if_pos rfl).trans ?_
    rw [e_frA g [.str c, .str s, .str t, .str m, .str e]]
    exact kk
  exact key _ rfl
end Vl
set_option Elab.async false
set_option linter.all false
set_option maxRecDepth 100000
set_option maxHeartbeats 4000000
namespace Vl
open PySem PySem.Spec PyProof.Rows L2 My
theorem core49 {NS b0 b1 b2 b3 W R : D} {k0 k n : Int} {BG RU PK : Fm} {RL : Ft} {GI : Fi} {B0 B2 : Fs} {CL ks : List D} {t7 : Sl} {g' : Sg} (e0 : ∃ os, BG [.val NS] = .ok (.fr b0) os)
    (e1 : RU [.own b0] = .ok (.val W) [.own true b1]) (rl : ∀ g : Sg, nameF 2 g = .ok (.val W) g → RL g = .ok (.fr R) g) (hR : stl (.fr R) = some R) (ek : 1 + k0 = k)
    (p1 : PK [.own b1, .val (.int 3)] = .ok (.val (.int k0)) [.own true b2, .val true (.int 3)]) (p2 : PK [.own b2, .val (.int 27)] = .ok (.val (.int n)) [.own true b3, .val true (.int 27)])
    (gi : ∀ g : Sg, nameF 3 g = .ok (.val R) g → nameF 4 g = .ok (.val (.int k)) g → nameF 5 g = .ok (.val (.int n)) g → GI g = .ok CL g)
    (l1 : loopF (.name 7) B0 CL (g49 NS b3 W R k n (.own false (.lst [])) .un .un .un .un .un .un) = .nx (g49 NS b3 W R k n (.own false (.lst ks)) t7 .un .un .un .un .un))
    (l2 : loopF (.name 8) B2 (rangeD 0 6) (g49 NS b3 W R k n (.own false (.lst ks)) t7 .un .un .un .un .un) = .nx g') :
    ∃ outs, fnM 1 13 (seqF (setF 1 (callM BG [(nameF 0)]))
    (seqF (setF 2 (callM RU [(nameF 1)]))
    (seqF (setF 3 (settleF RL))
    (seqF (setF 4 (op2 addP (cF (.int 1)) (callM PK [(nameF 1), (cF (.int 3))])))
    (seqF (setF 5 (callM PK [(nameF 1), (cF (.int 27))]))
    (seqF (setF 6 (valsF [] lstP))
    (seqF (forG2 GI (.name 7) B0)
    (seqF (forF (argsI rangeOf1 [(cF (.int 6))]) (.name 8) B2)
    (retF (cF (.bl true)))))))))) ) [.val NS] = .ok (.val (.bl true)) outs := by
  obtain ⟨os, e0⟩ := e0
  let S : D → Sl → Sl → Sl → Sl → Sl → Sg := fun b x2 x3 x4 x5 x6 => [.val true NS, .own false b, x2, x3, x4, x5, x6, .un, .un, .un, .un, .un, .un]
  have a1 : setF 1 (callM BG [(nameF 0)]) (startG 13 [.val NS]) = .nx (S b0 .un .un .un .un .un) := (e_setf (e_call1 (e_sv (e_nm rfl) rfl) e0 rfl)).trans rfl
  have a2 : setF 2 (callM RU [(nameF 1)]) (S b0 .un .un .un .un .un) = .nx (S b1 (.val false W) .un .un .un .un) := (e_setv (e_callB0 (i := 1) (g := S b0 .un .un .un .un .un) rfl e1 rfl)).trans rfl
  have a3 : setF 3 (settleF RL) (S b1 (.val false W) .un .un .un .un) = .nx (S b1 (.val false W) (.val false R) .un .un .un) := (e_setv (e_st (rl (S b1 (.val false W) .un .un .un .un) rfl) hR)).trans rfl
  have c4 : callM PK [(nameF 1), (cF (.int 3))] (S b1 (.val false W) (.val false R) .un .un .un) = .ok (.val (.int k0)) (S b2 (.val false W) (.val false R) .un .un .un) := (e_callB1 (i := 1) (g := S b1 (.val false W) (.val false R) .un .un .un) rfl (e_sv e_c rfl) p1 rfl).trans rfl
  have a4 : setF 4 (op2 addP (cF (.int 1)) (callM PK [(nameF 1), (cF (.int 3))])) (S b1 (.val false W) (.val false R) .un .un .un) = .nx (S b2 (.val false W) (.val false R) (.val false (.int k)) .un .un) := (e_setv (d := .int k) (e_op2 (p2 := addP) (a := .int 1) (b := .int k0) (e_sv e_c rfl) (e_sv c4 rfl) (by rw [← ek]; rfl))).trans rfl
  have a5 : setF 5 (callM PK [(nameF 1), (cF (.int 27))]) (S b2 (.val false W) (.val false R) (.val false (.int k)) .un .un) = .nx (S b3 (.val false W) (.val false R) (.val false (.int k)) (.val false (.int n)) .un) := (e_setv (e_callB1 (i := 1) (g := S b2 (.val false W) (.val false R) (.val false (.int k)) .un .un) rfl (e_sv e_c rfl) p2 rfl)).trans rfl
  have a6 : setF 6 (valsF [] lstP) (S b3 (.val false W) (.val false R) (.val false (.int k)) (.val false (.int n)) .un) = .nx (g49 NS b3 W R k n (.own false (.lst [])) .un .un .un .un .un .un) := rfl
  have a7 : forG2 GI (.name 7) B0 (g49 NS b3 W R k n (.own false (.lst [])) .un .un .un .un .un .un) = .nx (g49 NS b3 W R k n (.own false (.lst ks)) t7 .un .un .un .un .un) := by
    unfold forG2
    rw [gi _ rfl rfl rfl]
    show noXS (loopF (.name 7) B0 CL _) = _
    rw [l1]
    rfl
  exact ⟨_, e_fn rfl (e_seq a1 (e_seq a2 (e_seq a3 (e_seq a4 (e_seq a5 (e_seq a6 (e_seq a7 (e_seq (e_for (ds := rangeD 0 6) rfl l2) rfl))))))))⟩
theorem geni49 {gq : List D → List D → List D} {M : Fm} {os : List Sl} {cs : List D} {R : D} {k n : Int} (hq : gq [R, .int k, .int n] [] = [R, .int k, .int n]) (hm : M [.val R, .val (.int k), .val (.int n)] = .ok (.fr (.lst cs)) os) (g : Sg) (h4 : nameF 3 g = .ok (.val R) g) (h5 : nameF 4 g = .ok (.val (.int k)) g) (h6 : nameF 5 g = .ok (.val (.int n)) g) : genI gq M 3 0 [(nameF 3), (nameF 4), (nameF 5)] [] g = .ok cs g := by
  have ev : evA [(nameF 3), (nameF 4), (nameF 5)] g = .ok ([R, .int k, .int n].map RV.val) g := e_a (e_sv h4 rfl) (e_a (e_sv h5 rfl) (e_a (e_sv h6 rfl) e_a0))
  have e0 : evA [] g = .ok [] g := rfl
  have kk : genK gq M 3 0 ([R, .int k, .int n].map RV.val) [] = some cs := by
    show (if ([R, .int k, .int n] : List D).length = 3 ∧ ([] : List D).length = 0 then (match M ((gq [R, .int k, .int n] []).map Ar.val) with | .ok (.fr (.lst out)) _ => some out | _ => none) else none) = _
    rw [if_pos ⟨rfl, rfl⟩, hq]
    show (match M [.val R, .val (.int k), .val (.int n)] with | .ok (.fr (.lst out)) _ => some out | _ => none) = _
    rw [hm]
  unfold genI
  rw [ev]
  simp only [Res.bind, e0, kk]
theorem mem49 {c s m e : Str} {k n : Nat} {r : Srow} {l : List Nat} (ho : Ow49 n k r l) (hb : okRw c s m e r = true) : mkR r l ∈ CS48 c s m e n k := by
  unfold CS48
  rw [List.mem_flatMap]
  refine ⟨r, ?_, List.mem_map.mpr ⟨l, mem_SZ k ho.l2 ho.z, rfl⟩⟩
  rw [SR_SP]
  exact List.mem_filter.mpr ⟨mem_SP k ho.l1 fun p hp => by have := ho.o p hp; exact mem_strL this.1 this.2.1 this.2.2, hb⟩
theorem law_true : ∀ ns : List Int, ns.length ≤ 63 → ∃ outs, m_law [.val (.seq (ns.map D.int))] = .ok (.val (.bl true)) outs := by
  intro ns hl
  obtain ⟨b0, e0, g0⟩ := bag_ok hl
  generalize D.seq (ns.map D.int) = NS at *
  obtain ⟨c, s, t, m, e, b1, e1, g1, w⟩ := rule_ok g0
  obtain ⟨k0, b2, p1, g2, u0, u1⟩ := pick_ok g1 (lim := 3) (by decide) (by decide)
  obtain ⟨n0, b3, p2, g3, v0, v1⟩ := pick_ok g2 (lim := 27) (by decide) (by decide)
  obtain ⟨k, ek⟩ : ∃ k : Nat, 1 + k0 = (k : Int) := ⟨(1 + k0).toNat, by omega⟩
  obtain ⟨n, rfl⟩ : ∃ n : Nat, n0 = (n : Int) := ⟨n0.toNat, by omega⟩
  have hk : k ≤ 3 := by omega
  have e1 : m__law_rule [.own b0] = .ok (.val (wordsD c s t m e)) [.own true b1] := e1
  have ca := cases_ok (c := c) (s := s) (t := t) (m := m) (e := e) (n := n) (k := k) (by omega) hk
  have hr : ∀ rows ∈ CS48 c s m e n k, Hr49 m__law_case_rows m__law_key m__law_is_case (wordsD c s t m e) n k rows := fun rows hm => by
    obtain ⟨r, hr, hx⟩ := List.mem_flatMap.mp hm
    obtain ⟨l, hl, rfl⟩ := List.mem_map.mp hx
    have cz := cz49 hk r hr l hl
    have hf : okRw c s m e r = true := by
      rw [SR_SP] at hr
      exact (List.mem_filter.mp hr).2
    have lr : (mkR r l).length = k := by rw [cz.len, (SR_ok r hr).l]
    obtain ⟨o1, c1⟩ := crows_ok (n := (n : Int)) (rows := mkR r l) (by omega)
    obtain ⟨o2, c2⟩ := lkey_ok (rows := mkR r l) (by omega) (fun q hq => by have := (mkR_row cz hq).2; omega)
    obtain ⟨o3, c3⟩ := iscase_ok (t := t) cz (SR_ok r hr).o hf
    exact ⟨lr, o1, o2, o3, c1, c2, c3⟩
  have pw := CS_pw (c := c) (s := s) (m := m) (e := e) (k := k) (n := n) hk
  have mem : ∀ r l, Ow49 n k r l → okRw c s m e r = true → mkR r l ∈ CS48 c s m e n k := fun r l h1 h2 => mem49 h1 h2
  obtain ⟨t7, lp⟩ := loop49 (NS := NS) (b := b3) (R := ruleD c s t m e) (s8 := .un) (s9 := .un) (s10 := .un) (s11 := .un) (s12 := .un) (CS48 c s m e n k) [] .un hr (by rw [List.nil_append]; exact pw) (by decide)
  rw [List.nil_append, show 40 - ([] : List (List Row)).length = 40 from rfl] at lp
  have hq : gq_cases_3_ [ruleD c s t m e, .int (k : Int), .int (n : Int)] [] = [ruleD c s t m e, .int (k : Int), .int (n : Int)] := rfl
  have gi := geni49 hq ca
  have rl := fun g => mkrule49 w (g := g)
  generalize CS48 c s m e n k = cs at *
  have kl : (cs.take 40).length ≤ 40 := by rw [List.length_take]; omega
  have h1 : ∀ r l, Ow49 n k r l → okRw c s m e r = true → (cs.take 40).length < 40 → mkR r l ∈ cs.take 40 := fun r l a b h => by
    rw [List.length_take] at h
    rw [List.take_of_length_le (by omega)]
    exact mem r l a b
  have h2 : ∀ r l, Ow49 n k r l → okRw c s m e r = true → ∀ a y, cs.take 40 = a ++ [y] → DL49 (mkR r l) y → mkR r l ∈ cs.take 40 := fun r l h1 h2 a y h h3 => by
    rw [h]
    exact first49 pw (b := cs.drop 40) (by rw [← h, List.take_append_drop]) (mem r l h1 h2) h3
  have rd := @round49 NS (wordsD c s t m e) (ruleD c s t m e) k n (cs.take 40) c s t m e hk kl rfl h1 h2
  obtain ⟨g', l2, _⟩ := loop_inv (t := .name 8) (body := b_law_2) (fun g => ∃ b s8 s9 s10 s11 s12, g = g49 NS b (wordsD c s t m e) (ruleD c s t m e) (k : Nat) (n : Nat) (ky49 (cs.take 40)) t7 s8 s9 s10 s11 s12 ∧ GB b) (ds := rangeD 0 6) (g := g49 NS b3 (wordsD c s t m e) (ruleD c s t m e) (k : Nat) (n : Nat) (ky49 (cs.take 40)) t7 .un .un .un .un .un) ⟨b3, _, _, _, _, _, rfl, g3⟩ fun d hd g hg => by
      obtain ⟨b, s8, s9, s10, s11, s12, rfl, hb⟩ := hg
      obtain ⟨b', t9, t10, t11, t12, gb, e⟩ := rd (d := d) hb (s7 := t7) (s9 := s9) (s10 := s10) (s11 := s11) (s12 := s12)
      exact ⟨_, rfl, _, .inl e, b', _, _, _, _, _, rfl, gb⟩
  have z := b0_49
  clear rd h1 h2 hr pw mem ca hq
  rw [← z] at lp
  have fin := core49 (RL := callKw gq_Rule_0_clash_settle_ties_comes_ends x_Rule 0 5 [] [(op2 ixP (nameF 2) (cF (.int 0))), (op2 ixP (nameF 2) (cF (.int 1))), (op2 ixP (nameF 2) (cF (.int 2))), (op2 ixP (nameF 2) (cF (.int 3))), (op2 ixP (nameF 2) (cF (.int 4)))]) (B0 := b_law_0) (B2 := b_law_2) ⟨_, e0⟩ e1 (fun g h => rl g h) rfl ek p1 p2 gi lp l2
  exact fin
end Vl
set_option Elab.async false
set_option linter.all false
set_option maxRecDepth 100000
set_option maxHeartbeats 4000000
open PySem PySem.Spec PyProof.Rows L2 My Vl
namespace Vl
def fa : List He.Fa := [.free "list", .glo "_law_bag", .free "len", .free "int", .glo "_law_pick", .glo "_law_rule", .free "zip", .glo "are_words", .cls "Rule", .noat "Rule" "clash", .noat "Rule" "settle", .noat "Rule" "ties", .noat "Rule" "comes", .noat "Rule" "ends", .mkr "Rule", .glo "Rule", .free "range", .glo "stretches", .glo "overlap", .meth "Rule" "clashes", .free "enumerate", .meth "Rule" "met_by", .meth "Rule" "bars", .mkr "Change", .glo "Change", .glo "stretch_rows", .glo "size_rows", .cls "Case", .noat "Case" "length", .noat "Case" "changes", .free "tuple", .mkr "Case", .glo "Case", .glo "case_of", .glo "cases", .glo "_law_key", .glo "_law_clash", .free "any", .glo "_law_bars", .glo "_law_case_rows", .free "isinstance", .free "all", .glo "_law_is_case", .free "min", .glo "law"]
def fn : List He.DefD := [⟨("BadChange", some "__init__"), "__init__", "BadChange.__init__", defArgs sBadChange_init, defBody sBadChange_init, defScope sBadChange_init, [], []⟩, ⟨("BadRule", some "__init__"), "__init__", "BadRule.__init__", defArgs sBadRule_init, defBody sBadRule_init, defScope sBadRule_init, [], []⟩, ⟨("_law_bag", none), "_law_bag", "_law_bag", defArgs s_law_bag, defBody s_law_bag, defScope s_law_bag, [], []⟩, ⟨("_law_pick", none), "_law_pick", "_law_pick", defArgs s_law_pick, defBody s_law_pick, defScope s_law_pick, [], []⟩, ⟨("_law_rule", none), "_law_rule", "_law_rule", defArgs s_law_rule, defBody s_law_rule, defScope s_law_rule, [], []⟩, ⟨("are_words", none), "are_words", "are_words", defArgs sare_words, defBody sare_words, defScope sare_words, [], []⟩, ⟨("Rule", some "__init__"), "__init__", "Rule.__init__", defArgs sRule_init, defBody sRule_init, defScope sRule_init, [], [("clash", .str "overlap"), ("settle", .str "refuse"), ("ties", .str "up"), ("comes", .str "any"), ("ends", .str "open")]⟩, ⟨("stretches", none), "stretches", "stretches", defArgs sstretches, defBody sstretches, defScope sstretches, [], []⟩, ⟨("overlap", none), "overlap", "overlap", defArgs soverlap, defBody soverlap, defScope soverlap, [], []⟩, ⟨("Rule", some "clashes"), "clashes", "Rule.clashes", defArgs sRule_clashes, defBody sRule_clashes, defScope sRule_clashes, [], []⟩, ⟨("Rule", some "met_by"), "met_by", "Rule.met_by", defArgs sRule_met_by, defBody sRule_met_by, defScope sRule_met_by, [], []⟩, ⟨("Rule", some "bars"), "bars", "Rule.bars", defArgs sRule_bars, defBody sRule_bars, defScope sRule_bars, [], []⟩, ⟨("Change", some "__init__"), "__init__", "Change.__init__", defArgs sChange_init, defBody sChange_init, defScope sChange_init, [.str ""], []⟩, ⟨("stretch_rows", none), "stretch_rows", "stretch_rows", defArgs sstretch_rows__r0, defBody sstretch_rows__r0, defScope sstretch_rows__r0, [], []⟩, ⟨("stretch_rows", none), "stretch_rows", "stretch_rows", defArgs sstretch_rows__r1, defBody sstretch_rows__r1, defScope sstretch_rows__r1, [], []⟩, ⟨("stretch_rows", none), "stretch_rows", "stretch_rows", defArgs sstretch_rows__r2, defBody sstretch_rows__r2, defScope sstretch_rows__r2, [], []⟩, ⟨("stretch_rows", none), "stretch_rows", "stretch_rows", defArgs sstretch_rows__r3, defBody sstretch_rows__r3, defScope sstretch_rows__r3, [], []⟩, ⟨("stretch_rows", none), "stretch_rows", "stretch_rows", defArgs sstretch_rows, defBody sstretch_rows, defScope sstretch_rows, [], []⟩, ⟨("size_rows", none), "size_rows", "size_rows", defArgs ssize_rows, defBody ssize_rows, defScope ssize_rows, [], []⟩, ⟨("Case", some "__init__"), "__init__", "Case.__init__", defArgs sCase_init, defBody sCase_init, defScope sCase_init, [], []⟩, ⟨("case_of", none), "case_of", "case_of", defArgs scase_of, defBody scase_of, defScope scase_of, [], []⟩, ⟨("cases", none), "cases", "cases", defArgs scases, defBody scases, defScope scases, [], []⟩, ⟨("_law_key", none), "_law_key", "_law_key", defArgs s_law_key, defBody s_law_key, defScope s_law_key, [], []⟩, ⟨("_law_clash", none), "_law_clash", "_law_clash", defArgs s_law_clash, defBody s_law_clash, defScope s_law_clash, [], []⟩, ⟨("_law_bars", none), "_law_bars", "_law_bars", defArgs s_law_bars, defBody s_law_bars, defScope s_law_bars, [], []⟩, ⟨("_law_case_rows", none), "_law_case_rows", "_law_case_rows", defArgs s_law_case_rows, defBody s_law_case_rows, defScope s_law_case_rows, [], []⟩, ⟨("_law_is_case", none), "_law_is_case", "_law_is_case", defArgs s_law_is_case, defBody s_law_is_case, defScope s_law_is_case, [], []⟩, ⟨("law", none), "law", "law", defArgs slaw, defBody slaw, defScope slaw, [], []⟩]
def dA_0 : He5.DefA := ⟨(fun K => pg K "Case" "letters"), "letters", "Case.letters", defArgs sCase_letters, defBody sCase_letters, defScope sCase_letters, [], []⟩
def fnB : List He5.DefA := [dA_0]
theorem feGet {K : PySem.W.Frag} (fe : fnB.map (fun d => He5.fnA K (d.at_ K)) = fnB.map He5.DefA.val) (i : Nat) {d : He5.DefA} (h : fnB[i]? = some d) : He5.fnA K (d.at_ K) = d.val := by
  have := congrArg (fun l => l[i]?) fe
  simp only [List.getElem?_map, h, Option.map_some, Option.some.injEq] at this
  exact this
def exL : List (PySem.W.Frag → Bool) := [(fun K => exbB K "OldPlacesError"), (fun K => exkB K "BadChange" ["begin", "end"]), (fun K => exkB K "BadRule" ["text"]), (fun K => kcB K "WORDS" (.tup [(.tup [(.str "overlap"), (.str "same"), (.str "touch")]), (.tup [(.str "refuse"), (.str "earliest"), (.str "latest"), (.str "leftmost"), (.str "join"), (.str "never")]), (.tup [(.str "up"), (.str "down")]), (.tup [(.str "any"), (.str "rising")]), (.tup [(.str "open"), (.str "closed")])])), (fun K => sclsB K "Change"), (fun K => slotB K "Change" "begin" 0), (fun K => slotB K "Change" "end" 1), (fun K => slotB K "Change" "new" 2), (fun K => kcB K "NEWS" (.tup [(.str "AB"), (.str "CD"), (.str "EF")])), (fun K => kcB K "LETTERS" (.str "abcdefghijklmnopqrstuvwxyz")), (fun K => He5.DefA.ok K dA_0), (fun K => propB K "Case" "letters")]
def dcL : List (Str × List Str) := []
theorem exGet {K : PySem.W.Frag} (e : exL.all (fun f => f K) = true) (i : Nat) {f : PySem.W.Frag → Bool} (h : exL[i]? = some f) : f K = true := List.all_eq_true.mp e f (List.mem_of_getElem? h)
theorem all_mk {l : PySem.W.OpenLaw} {w : World} {K : PySem.W.Frag} {h : Heap} {mg : Str → Option Value} {fL : Addr} (X : K.In h) (G : h.Ns mainGlobals mg) (hfa : mg "law" = some (.ref fL)) (c : He.SaysD fa fn K) (e : exL.all (fun f => f K) = true) (dd : dcL.map (fun p => He.dicW K (He.ga K p.1)) = dcL.map (fun p => some (He.keysIn w.params p.2))) (fe : fnB.map (fun d => He5.fnA K (d.at_ K)) = fnB.map He5.DefA.val)
    (hl : ∀ ns : List Int, ns.length ≤ 63 → ∃ outs, m_law [.val (.seq (ns.map D.int))] = .ok (.val (.bl true)) outs) :
    ∃ fd : FuncData, (∀ (s : Shared) (v : Value), BindsTo s fd ⟨[v], []⟩ [("_law_script", v)]) ∧ ∀ base : Heap, K.In base → base.Ns mainGlobals mg → TbsOk K mg base → FnOk l.prog w K mg base CX0 41 fL fd ["_law_script"] (spLaw (K := K)) := by
  have hl' := hfa.symm.trans (He.glo_ok X G (c.fact 44 rfl))
  cases hl'
  have T : Txt K w mg := { exb := (exb_ok X G (exGet e 0 rfl)), ex_BadChange := (exk_ok X G (exGet e 1 rfl)), ex_BadRule := (exk_ok X G (exGet e 2 rfl)), list := (He.free_ok X G (c.fact 0 rfl)), gl__law_bag := (He.glo_ok X G (c.fact 1 rfl)), len := (He.free_ok X G (c.fact 2 rfl)), int := (He.free_ok X G (c.fact 3 rfl)), gl__law_pick := (He.glo_ok X G (c.fact 4 rfl)), gl__law_rule := (He.glo_ok X G (c.fact 5 rfl)), k_WORDS := (kc_ok X G (exGet e 3 rfl)), zip := (He.free_ok X G (c.fact 6 rfl)), gl_are_words := (He.glo_ok X G (c.fact 7 rfl)), cl_Rule := (He.cls_ok (c.fact 8 rfl)), fl_clash := (FldK.pl (He.cls_ok (c.fact 8 rfl)) (He.noat_ok (c.fact 9 rfl)) FldK.nil), fl_settle := (FldK.pl (He.cls_ok (c.fact 8 rfl)) (He.noat_ok (c.fact 10 rfl)) FldK.nil), fl_ties := (FldK.pl (He.cls_ok (c.fact 8 rfl)) (He.noat_ok (c.fact 11 rfl)) FldK.nil), fl_comes := (FldK.pl (He.cls_ok (c.fact 8 rfl)) (He.noat_ok (c.fact 12 rfl)) FldK.nil), fl_ends := (FldK.pl (He.cls_ok (c.fact 8 rfl)) (He.noat_ok (c.fact 13 rfl)) FldK.nil), mk_Rule := (He.mkr_ok (c.fact 14 rfl)), gl_Rule := (He.glo_ok X G (c.fact 15 rfl)), range := (He.free_ok X G (c.fact 16 rfl)), gl_stretches := (He.glo_ok X G (c.fact 17 rfl)), cl_Change := (scls_ok (exGet e 4 rfl)), fl_begin := (FldK.sl (scls_ok (exGet e 4 rfl)) (slot_ok (exGet e 5 rfl)) FldK.nil), fl_end := (FldK.sl (scls_ok (exGet e 4 rfl)) (slot_ok (exGet e 6 rfl)) FldK.nil), gl_overlap := (He.glo_ok X G (c.fact 18 rfl)), enumerate := (He.free_ok X G (c.fact 20 rfl)), fl_new := (FldK.sl (scls_ok (exGet e 4 rfl)) (slot_ok (exGet e 7 rfl)) FldK.nil), mk_Change := (He.mkr_ok (c.fact 23 rfl)), gl_Change := (He.glo_ok X G (c.fact 24 rfl)), gl_stretch_rows := (He.glo_ok X G (c.fact 25 rfl)), gl_size_rows := (He.glo_ok X G (c.fact 26 rfl)), cl_Case := (He.cls_ok (c.fact 27 rfl)), fl_length := (FldK.pl (He.cls_ok (c.fact 27 rfl)) (He.noat_ok (c.fact 28 rfl)) FldK.nil), fl_changes := (FldK.pl (He.cls_ok (c.fact 27 rfl)) (He.noat_ok (c.fact 29 rfl)) FldK.nil), tuple := (He.free_ok X G (c.fact 30 rfl)), mk_Case := (He.mkr_ok (c.fact 31 rfl)), gl_Case := (He.glo_ok X G (c.fact 32 rfl)), k_NEWS := (kc_ok X G (exGet e 8 rfl)), gl_case_of := (He.glo_ok X G (c.fact 33 rfl)), gl_cases := (He.glo_ok X G (c.fact 34 rfl)), gl__law_key := (He.glo_ok X G (c.fact 35 rfl)), gl__law_clash := (He.glo_ok X G (c.fact 36 rfl)), any := (He.free_ok X G (c.fact 37 rfl)), gl__law_bars := (He.glo_ok X G (c.fact 38 rfl)), gl__law_case_rows := (He.glo_ok X G (c.fact 39 rfl)), k_LETTERS := (kc_ok X G (exGet e 9 rfl)), isinstance := (He.free_ok X G (c.fact 40 rfl)), all := (He.free_ok X G (c.fact 41 rfl)), gl__law_is_case := (He.glo_ok X G (c.fact 42 rfl)), min := (He.free_ok X G (c.fact 43 rfl)), gl_law := ((fun _ => trivial) (c.fact 44 rfl)) }
  obtain ⟨fd0, F0⟩ := c.def_ 0 rfl
  have b0 := FunD.bindsN (ps := ["self", "begin", "end"]) F0 fun _ _ _ _ _ _ us hl => match us, hl with | [_, _, _], _ => rfl
  have cBadChange : ∀ base, TbsOk K mg base → Rz2 l.prog w K mg base 1 "BadChange" "begin" "end" := fun base tb => ⟨_, fd0, _, T.ex_BadChange, okBadChange_init F0 T, b0⟩
  obtain ⟨fd1, F1⟩ := c.def_ 1 rfl
  have b1 := FunD.bindsN (ps := ["self", "text"]) F1 fun _ _ _ _ _ _ us hl => match us, hl with | [_, _], _ => rfl
  have cBadRule : ∀ base, TbsOk K mg base → Rz1 l.prog w K mg base 1 "BadRule" "text" := fun base tb => ⟨_, fd1, _, T.ex_BadRule, okBadRule_init F1 T, b1⟩
  obtain ⟨fd2, F2⟩ := c.def_ 2 rfl
  have b2 := FunD.bindsN (ps := ["_law_script"]) F2 fun _ _ _ _ _ _ us hl => match us, hl with | [_], _ => rfl
  have c_law_bag : ∀ base, TbsOk K mg base → Cf l.prog w K mg base 1 "_law_bag" (spV K m__law_bag) := fun base tb => ⟨_, Callee.of_fn (okR (ok_law_bag F2 T ) b2), T.gl__law_bag, F2.kp⟩
  obtain ⟨fd3, F3⟩ := c.def_ 3 rfl
  have b3 := FunD.bindsN (ps := ["_law_bag_here", "_law_limit"]) F3 fun _ _ _ _ _ _ us hl => match us, hl with | [_, _], _ => rfl
  have c_law_pick : ∀ base, TbsOk K mg base → Cf l.prog w K mg base 1 "_law_pick" (spV K m__law_pick) := fun base tb => ⟨_, Callee.of_fn (okR (ok_law_pick F3 T ) b3), T.gl__law_pick, F3.kp⟩
  obtain ⟨fd4, F4⟩ := c.def_ 4 rfl
  have b4 := FunD.bindsN (ps := ["_law_bag_here"]) F4 fun _ _ _ _ _ _ us hl => match us, hl with | [_], _ => rfl
  have c_law_rule : ∀ base, TbsOk K mg base → Cf l.prog w K mg base 2 "_law_rule" (spV K m__law_rule) := fun base tb => ⟨_, Callee.of_fn (okR (ok_law_rule F4 T (c_law_pick base tb)) b4), T.gl__law_rule, F4.kp⟩
  obtain ⟨fd5, F5⟩ := c.def_ 5 rfl
  have b5 := FunD.bindsN (ps := ["words"]) F5 fun _ _ _ _ _ _ us hl => match us, hl with | [_], _ => rfl
  have care_words : ∀ base, TbsOk K mg base → Cf l.prog w K mg base 1 "are_words" (spV K m_are_words) := fun base tb => ⟨_, Callee.of_fn (okR (okare_words F5 T ) b5), T.gl_are_words, F5.kp⟩
  obtain ⟨fd6, F6⟩ := c.def_ 6 rfl
  obtain ⟨fd7, F7⟩ := c.def_ 7 rfl
  have b7 := FunD.bindsN (ps := ["length"]) F7 fun _ _ _ _ _ _ us hl => match us, hl with | [_], _ => rfl
  have cstretches : ∀ base, TbsOk K mg base → Cf l.prog w K mg base 1 "stretches" (spV K m_stretches) := fun base tb => ⟨_, Callee.of_fn (okR (okstretches F7 T ) b7), T.gl_stretches, F7.kp⟩
  obtain ⟨fd8, F8⟩ := c.def_ 8 rfl
  have b8 := FunD.bindsN (ps := ["one", "other"]) F8 fun _ _ _ _ _ _ us hl => match us, hl with | [_, _], _ => rfl
  have coverlap : ∀ base, TbsOk K mg base → Cf l.prog w K mg base 1 "overlap" (spV K m_overlap) := fun base tb => ⟨_, Callee.of_fn (okR (okoverlap F8 T ) b8), T.gl_overlap, F8.kp⟩
  obtain ⟨fd9, F9⟩ := c.def_ 9 rfl
  have b9 := FunD.bindsN (ps := ["self", "one", "other"]) F9 fun _ _ _ _ _ _ us hl => match us, hl with | [_, _, _], _ => rfl
  have k_clashes : ∀ base, TbsOk K mg base → MethK l.prog w K mg base 2 "clashes" ms_clashes := fun base tb => (MethK.pl (by decide) (Callee.of_fn (okR (okRule_clashes F9 T (coverlap base tb)) b9)) (He.meth_ok (c.fact 19 rfl)) T.cl_Rule MethK.nil)
  obtain ⟨fd10, F10⟩ := c.def_ 10 rfl
  have b10 := FunD.bindsN (ps := ["self", "change", "others"]) F10 fun _ _ _ _ _ _ us hl => match us, hl with | [_, _, _], _ => rfl
  have k_met_by : ∀ base, TbsOk K mg base → MethK l.prog w K mg base 3 "met_by" ms_met_by := fun base tb => (MethK.pl (by decide) (Callee.of_fn (okR (okRule_met_by F10 T (k_clashes base tb)) b10)) (He.meth_ok (c.fact 21 rfl)) T.cl_Rule MethK.nil)
  obtain ⟨fd11, F11⟩ := c.def_ 11 rfl
  have b11 := FunD.bindsN (ps := ["self", "changes"]) F11 fun _ _ _ _ _ _ us hl => match us, hl with | [_, _], _ => rfl
  have k_bars : ∀ base, TbsOk K mg base → MethK l.prog w K mg base 4 "bars" ms_bars := fun base tb => (MethK.pl (by decide) (Callee.of_fn (okR (okRule_bars F11 T (k_met_by base tb)) b11)) (He.meth_ok (c.fact 22 rfl)) T.cl_Rule MethK.nil)
  obtain ⟨fd12, F12⟩ := c.def_ 12 rfl
  have fr12 : ∀ base, TbsOk K mg base → FnR l.prog w K mg base (L2.CX l.prog w) 3 (He.fAd K ("Change", some "__init__")) (spV K m_Change_init) := fun base tb => dfl_of (ds := [(.str "")]) (dvs := [.str ""]) (fun I => (.cons (.str _) .nil)) fun j hj => match j, hj with
      | 0, _ => let ⟨dd, r, b⟩ := FunD.binds1 (ps := ["self", "begin", "end", "new"]) F12 3 0 (List.cons_ne_nil _ _) rfl (fun T kV doc pm an cdv ct us its l1 l2 => match us, l1, its, l2 with | [_, _, _], _, [_], _ => ⟨_, rfl, rfl⟩); FnR.imp (FnOk.raw (okChange_init F12 T (cBadChange base tb)) b r) fun vs H Q E h => h.2
      | 1, _ => let ⟨dd, r, b⟩ := FunD.binds1 (ps := ["self", "begin", "end", "new"]) F12 4 1 (List.cons_ne_nil _ _) rfl (fun T kV doc pm an cdv ct us its l1 l2 => match us, l1, its, l2 with | [_, _, _, _], _, [_], _ => ⟨_, rfl, rfl⟩); FnR.imp (FnOk.raw (okChange_init F12 T (cBadChange base tb)) b r) fun vs H Q E h => h.2
      | j + 2, hj => absurd hj (by simp)
  have cChange : ∀ base, TbsOk K mg base → Cf l.prog w K mg base 4 "Change" (spV K m_Change) := fun base tb => ⟨_, mk_slots T.mk_Change (fr12 base tb), T.gl_Change, T.mk_Change.kp⟩
  obtain ⟨fd13, F13⟩ := c.def_ 13 rfl
  have q_stretch_rows__r0_3_ : ∀ base, TbsOk K mg base → GKf2 l.prog w K mg base 5 true "stretch_rows" 3 [] gq_stretch_rows__r0_3_ m_stretch_rows__r0 := fun base tb => by
    exact ⟨_, _, _, _, _, _, _, (okstretch_rows__r0 F13 T (cstretches base tb) (k_bars base tb) (cChange base tb)), (FunD.kbindsN (ps := ["rule", "count", "length"]) F13 3 [] (fun us ws => pickL [0, 1, 2] (us ++ ([] ++ ws))) (fun r1 r2 => vals_pick (r1.append (Vals.append .nil r2)) _) (fun kV doc pm an cdv ct us ws l1 l2 => match us, l1, ws, l2 with | [_, _, _], _, [], _ => rfl)), T.gl_stretch_rows, F13.kp, fun I vs ds zs es r1 r2 => reps_pick (r1.append (Reps.append .nil r2)) _, hand2⟩
  obtain ⟨fd14, F14⟩ := c.def_ 14 rfl
  have q_stretch_rows__r1_3_ : ∀ base, TbsOk K mg base → GKf2 l.prog w K mg base 11 true "stretch_rows" 3 [] gq_stretch_rows__r1_3_ m_stretch_rows__r1 := fun base tb => by
    exact ⟨_, _, _, _, _, _, _, (okstretch_rows__r1 F14 T (q_stretch_rows__r0_3_ base tb) (cstretches base tb) (k_bars base tb) (cChange base tb)), (FunD.kbindsN (ps := ["rule", "count", "length"]) F14 3 [] (fun us ws => pickL [0, 1, 2] (us ++ ([] ++ ws))) (fun r1 r2 => vals_pick (r1.append (Vals.append .nil r2)) _) (fun kV doc pm an cdv ct us ws l1 l2 => match us, l1, ws, l2 with | [_, _, _], _, [], _ => rfl)), T.gl_stretch_rows, F14.kp, fun I vs ds zs es r1 r2 => reps_pick (r1.append (Reps.append .nil r2)) _, hand2⟩
  obtain ⟨fd15, F15⟩ := c.def_ 15 rfl
  have q_stretch_rows__r2_3_ : ∀ base, TbsOk K mg base → GKf2 l.prog w K mg base 17 true "stretch_rows" 3 [] gq_stretch_rows__r2_3_ m_stretch_rows__r2 := fun base tb => by
    exact ⟨_, _, _, _, _, _, _, (okstretch_rows__r2 F15 T (q_stretch_rows__r1_3_ base tb) (cstretches base tb) (k_bars base tb) (cChange base tb)), (FunD.kbindsN (ps := ["rule", "count", "length"]) F15 3 [] (fun us ws => pickL [0, 1, 2] (us ++ ([] ++ ws))) (fun r1 r2 => vals_pick (r1.append (Vals.append .nil r2)) _) (fun kV doc pm an cdv ct us ws l1 l2 => match us, l1, ws, l2 with | [_, _, _], _, [], _ => rfl)), T.gl_stretch_rows, F15.kp, fun I vs ds zs es r1 r2 => reps_pick (r1.append (Reps.append .nil r2)) _, hand2⟩
  obtain ⟨fd16, F16⟩ := c.def_ 16 rfl
  have q_stretch_rows__r3_3_ : ∀ base, TbsOk K mg base → GKf2 l.prog w K mg base 23 true "stretch_rows" 3 [] gq_stretch_rows__r3_3_ m_stretch_rows__r3 := fun base tb => by
    exact ⟨_, _, _, _, _, _, _, (okstretch_rows__r3 F16 T (q_stretch_rows__r2_3_ base tb) (cstretches base tb) (k_bars base tb) (cChange base tb)), (FunD.kbindsN (ps := ["rule", "count", "length"]) F16 3 [] (fun us ws => pickL [0, 1, 2] (us ++ ([] ++ ws))) (fun r1 r2 => vals_pick (r1.append (Vals.append .nil r2)) _) (fun kV doc pm an cdv ct us ws l1 l2 => match us, l1, ws, l2 with | [_, _, _], _, [], _ => rfl)), T.gl_stretch_rows, F16.kp, fun I vs ds zs es r1 r2 => reps_pick (r1.append (Reps.append .nil r2)) _, hand2⟩
  obtain ⟨fd17, F17⟩ := c.def_ 17 rfl
  obtain ⟨fd18, F18⟩ := c.def_ 18 rfl
  have b18 := FunD.bindsN (ps := ["count"]) F18 fun _ _ _ _ _ _ us hl => match us, hl with | [_], _ => rfl
  have csize_rows : ∀ base, TbsOk K mg base → Cf l.prog w K mg base 1 "size_rows" (spV K m_size_rows) := fun base tb => ⟨_, Callee.of_fn (okR (oksize_rows F18 T ) b18), T.gl_size_rows, F18.kp⟩
  obtain ⟨fd19, F19⟩ := c.def_ 19 rfl
  have b19 := FunD.bindsN (ps := ["self", "length", "changes"]) F19 fun _ _ _ _ _ _ us hl => match us, hl with | [_, _, _], _ => rfl
  have cCase : ∀ base, TbsOk K mg base → Cf l.prog w K mg base 2 "Case" (spV K m_Case) := fun base tb => ⟨_, mk_plain T.mk_Case (okR (okCase_init F19 T ) b19), T.gl_Case, T.mk_Case.kp⟩
  obtain ⟨fd20, F20⟩ := c.def_ 20 rfl
  have b20 := FunD.bindsN (ps := ["length", "row", "sizes"]) F20 fun _ _ _ _ _ _ us hl => match us, hl with | [_, _, _], _ => rfl
  have ccase_of : ∀ base, TbsOk K mg base → Cf l.prog w K mg base 5 "case_of" (spV K m_case_of) := fun base tb => ⟨_, Callee.of_fn (okR (okcase_of F20 T (cCase base tb) (cChange base tb)) b20), T.gl_case_of, F20.kp⟩
  have q_stretch_rows_3_ : ∀ base, TbsOk K mg base → GKf2 l.prog w K mg base 29 true "stretch_rows" 3 [] gq_stretch_rows_3_ m_stretch_rows := fun base tb => by
    exact ⟨_, _, _, _, _, _, _, (okstretch_rows F17 T (q_stretch_rows__r3_3_ base tb) (cstretches base tb) (k_bars base tb) (cChange base tb)), (FunD.kbindsN (ps := ["rule", "count", "length"]) F17 3 [] (fun us ws => pickL [0, 1, 2] (us ++ ([] ++ ws))) (fun r1 r2 => vals_pick (r1.append (Vals.append .nil r2)) _) (fun kV doc pm an cdv ct us ws l1 l2 => match us, l1, ws, l2 with | [_, _, _], _, [], _ => rfl)), T.gl_stretch_rows, F17.kp, fun I vs ds zs es r1 r2 => reps_pick (r1.append (Reps.append .nil r2)) _, hand2⟩
  obtain ⟨fd21, F21⟩ := c.def_ 21 rfl
  obtain ⟨fd22, F22⟩ := c.def_ 22 rfl
  have b22 := FunD.bindsN (ps := ["_law_rows"]) F22 fun _ _ _ _ _ _ us hl => match us, hl with | [_], _ => rfl
  have c_law_key : ∀ base, TbsOk K mg base → Cf l.prog w K mg base 1 "_law_key" (spV K m__law_key) := fun base tb => ⟨_, Callee.of_fn (okR (ok_law_key F22 T ) b22), T.gl__law_key, F22.kp⟩
  obtain ⟨fd23, F23⟩ := c.def_ 23 rfl
  have b23 := FunD.bindsN (ps := ["_law_word", "_law_one", "_law_two"]) F23 fun _ _ _ _ _ _ us hl => match us, hl with | [_, _, _], _ => rfl
  have c_law_clash : ∀ base, TbsOk K mg base → Cf l.prog w K mg base 1 "_law_clash" (spV K m__law_clash) := fun base tb => ⟨_, Callee.of_fn (okR (ok_law_clash F23 T ) b23), T.gl__law_clash, F23.kp⟩
  obtain ⟨fd24, F24⟩ := c.def_ 24 rfl
  have b24 := FunD.bindsN (ps := ["_law_rule_here", "_law_changes"]) F24 fun _ _ _ _ _ _ us hl => match us, hl with | [_, _], _ => rfl
  have c_law_bars : ∀ base, TbsOk K mg base → Cf l.prog w K mg base 2 "_law_bars" (spV K m__law_bars) := fun base tb => ⟨_, Callee.of_fn (okR (ok_law_bars F24 T (c_law_clash base tb)) b24), T.gl__law_bars, F24.kp⟩
  obtain ⟨fd25, F25⟩ := c.def_ 25 rfl
  have b25 := FunD.bindsN (ps := ["_law_case"]) F25 fun _ _ _ _ _ _ us hl => match us, hl with | [_], _ => rfl
  have c_law_case_rows : ∀ base, TbsOk K mg base → Cf l.prog w K mg base 1 "_law_case_rows" (spV K m__law_case_rows) := fun base tb => ⟨_, Callee.of_fn (okR (ok_law_case_rows F25 T ) b25), T.gl__law_case_rows, F25.kp⟩
  obtain ⟨fd1000, F1000⟩ := He5.DefA.funD (d := dA_0) (feGet fe 0 rfl) (exGet e 10 rfl)
  have b1000 := FunD.bindsN (ps := ["self"]) F1000 fun _ _ _ _ _ _ us hl => match us, hl with | [_], _ => rfl
  have p_letters : ∀ base, TbsOk K mg base → PropK l.prog w K mg base 1 "letters" ps_letters := fun base tb => (PropK.cons (by decide) (fun n => CodC.of_fnr (okR (okCase_letters F1000 T ) b1000)) (prop_ok (exGet e 11 rfl)) PropK.nil)
  obtain ⟨fd26, F26⟩ := c.def_ 26 rfl
  have b26 := FunD.bindsN (ps := ["_law_case", "_law_words"]) F26 fun _ _ _ _ _ _ us hl => match us, hl with | [_, _], _ => rfl
  have c_law_is_case : ∀ base, TbsOk K mg base → Cf l.prog w K mg base 3 "_law_is_case" (spV K m__law_is_case) := fun base tb => ⟨_, Callee.of_fn (okR (ok_law_is_case F26 T (c_law_case_rows base tb) (p_letters base tb) (c_law_bars base tb)) b26), T.gl__law_is_case, F26.kp⟩
  have q_Rule_0_clash_settle_ties_comes_ends : ∀ base, TbsOk K mg base → KCf l.prog w K mg base 4 "Rule" 0 ["clash", "settle", "ties", "comes", "ends"] gq_Rule_0_clash_settle_ties_comes_ends x_Rule := fun base tb => by
    obtain ⟨mv, hb⟩ := FunD.kbinds0 (ps := ["self", "clash", "settle", "ties", "comes", "ends"]) F6 1 ["clash", "settle", "ties", "comes", "ends"] [] (fun us mv ws => pickL [0, 1, 2, 3, 4, 5] (us ++ (mv ++ ws))) (List.cons_ne_nil _ _) (by first | (intro q h; exact absurd h List.not_mem_nil) | (intro q h; show q ∈ ([("clash", .str "overlap"), ("settle", .str "refuse"), ("ties", .str "up"), ("comes", .str "any"), ("ends", .str "open")] : List (Str × V)); simp only [List.mem_cons, List.not_mem_nil, or_false] at h ⊢; (repeat' rcases h with h | h) <;> simp)) (fun r1 r2 r3 => vals_pick (r1.append (r2.append r3)) _) (fun D doc pm an cdv ct us mv ws l1 l2 l3 => match us, l1, mv, l2, ws, l3 with | [_], _, [], _, [_, _, _, _, _], _ => rfl)
    exact ⟨_, _, kmk_plain T.mk_Rule (okRule_init F6 T (care_words base tb) (cBadRule base tb)) hb (fun _ _ _ => rfl), T.gl_Rule, T.mk_Rule.kp, fun I vs ds zs es r1 r2 => reps_pick (r1.append (Reps.append .nil r2)) _⟩
  have q_cases_3_ : ∀ base, TbsOk K mg base → GKf2 l.prog w K mg base 35 true "cases" 3 [] gq_cases_3_ m_cases := fun base tb => by
    exact ⟨_, _, _, _, _, _, _, (okcases F21 T (q_stretch_rows_3_ base tb) (csize_rows base tb) (ccase_of base tb)), (FunD.kbindsN (ps := ["rule", "count", "length"]) F21 3 [] (fun us ws => pickL [0, 1, 2] (us ++ ([] ++ ws))) (fun r1 r2 => vals_pick (r1.append (Vals.append .nil r2)) _) (fun kV doc pm an cdv ct us ws l1 l2 => match us, l1, ws, l2 with | [_, _, _], _, [], _ => rfl)), T.gl_cases, F21.kp, fun I vs ds zs es r1 r2 => reps_pick (r1.append (Reps.append .nil r2)) _, hand2⟩
  obtain ⟨fd27, F27⟩ := c.def_ 27 rfl
  refine ⟨fd27, fun s v => FunD.bindsA (ps := ["_law_script"]) F27 (fun _ _ _ _ _ _ us hl => match us, hl with | [_], _ => rfl) s [v] rfl, fun base _ _ tb => ?_⟩
  exact oklaw F27 T (c_law_bag base tb) (c_law_rule base tb) (q_Rule_0_clash_settle_ties_comes_ends base tb) (c_law_pick base tb) (q_cases_3_ base tb) (c_law_key base tb) (c_law_bars base tb) (c_law_is_case base tb) (c_law_case_rows base tb) hl
end Vl
open PySem PySem.W PyProof.Rows in
set_option maxRecDepth 100000 in
set_option maxHeartbeats 0 in
theorem PySem.Challenge.cw_oldplaces_k49_first_cases_of_long_texts_holds : PySem.Challenge.rw_oldplaces_k49_first_cases_of_long_texts.Holds := by
  w_on; o_law; k_head; (case hw => w_witness2)
  k_fill
  refine Vl.walkT (x := "_law_script") (k := 41) _ rfl rfl ⟨rfl, by decide, by decide⟩ (fun w h Y => PySem.W.kIn_of Y) (fun w h Y => fun P h => (nomatch (show P ∈ ([] : List Addr) from h))) ?B ?F
  case B =>
    intro w
    kernel_rfl
  case F =>
    intro w mg fa h KX G hmg
    refine' Vl.all_mk (l := PySem.Challenge.rw_oldplaces_k49_first_cases_of_long_texts) KX G hmg ?c ?e ?d ?f Vl.law_true
    (case c => show He.obsD Vl.fa Vl.fn _ = He.valD Vl.fn; kernel_rfl)
    (case e => kernel_rfl)
    (case d => kernel_rfl)
    (case f => kernel_rfl)
