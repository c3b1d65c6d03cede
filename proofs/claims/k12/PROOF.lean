import PyProof.Rows.All
import Wide.All
import OpenK.AllK
import Wide.FinOn
import HandS.Base
import HandS.Call
import HandS.List
import HandS.Comp
import HandS.Ends
import HandS.Dict
import HandS.Iter
import HandS.Text
import HandS.More
import HandS.Words
import HandS.WordsList
import HandS.WordsDict
import HandS.Wide
import HandS.IsInst
import HandS.Exc
import HandS.ExcInit
import HandS.ExcField
import HandS.TryOnly
import HandS.ExcOwn
import HandS.WordsExc
import HandS.Star
import HandS.Slots
import HandS.SlotsOwn
import HandS.ClsMeth
import KE.GoesEnum
import KE.GoesMore
import HandS.HeadHook1
import HandS.HeadHook2
import HandS.HeadHook3
import HandS.Defaults
import HandS.MakeKw
import HandS.MakeKwOnly
import HandS.Property
import HandS.Lambda
import HandS.TupAny
import HandS.Deep
import HandS.SortKw
import HandS.StrMore
import HandS.RaiseMore
import HandS.Zip
import KE.GoesZip
import HandS.Style
import HandS.SortRule
import KE.DataCmp
import HandS.FStr
import HandS.Flow
import HandS.HeadNt
import HandS.ExcIs
import HandS.SetFor
import HandS.Conv
import HandS.RevTup
import KE.SortKeyHeap
import KE.KSortKey
import KE.SortData
import PyProof.EqAt
import HandS.HeadWalk
import KE.KNestM
import PySem.Challenge.RW_oldplaces_k12_orders_of_handling
set_option Elab.async false
set_option linter.all false
set_option maxRecDepth 100000
set_option maxHeartbeats 2000000
namespace My
open PySem PySem.Spec PyProof.Rows L2

/-- nothing stands at p (a structure, so that no search reads it as another fact) -/
structure Fr (H : Hp) (p : Addr) : Prop where
  e : H p = none
theorem Fr.ne {H : Hp} {p a : Addr} {o : HO} (n : Fr H p) (h : H a = some o) : p ≠ a := (ne_of_none h n.e).symm
theorem Fr.ne' {H : Hp} {p a : Addr} {o : HO} (n : Fr H p) (h : H a = some o) : a ≠ p := ne_of_none h n.e
/-! ### heaps: all but L is kept -/
structure Xb (L : List Addr) (H H' : Hp) : Prop where
  go : ∀ a o, a ∉ L → H a = some o → H' a = some o
theorem Xb.refl {L : List Addr} (H : Hp) : Xb L H H := ⟨fun _ _ _ h => h⟩
theorem Xb.trans {L : List Addr} {H H1 H2 : Hp} (x : Xb L H H1) (y : Xb L H1 H2) : Xb L H H2 := ⟨fun a o n h => y.go a o n (x.go a o n h)⟩
theorem Xb.weak {L L' : List Addr} {H H' : Hp} (x : Xb L H H') (s : ∀ a, a ∈ L → a ∈ L') : Xb L' H H' := ⟨fun a o n h => x.go a o (fun q => n (s a q)) h⟩
theorem Xb.any {L : List Addr} {H H' : Hp} (x : Xb [] H H') : Xb L H H' := ⟨fun a o _ h => x.go a o (fun q => nomatch q) h⟩
theorem Xb.new {H : Hp} {p : Addr} {o : HO} (hp : H p = none) : Xb [] H (upd H p o) := ⟨fun a u _ e => by
  rw [upd_ne (ne_of_none e hp)]
  exact e⟩
theorem Xb.put {H : Hp} {p : Addr} {o : HO} : Xb [p] H (upd H p o) := ⟨fun a u n e => by
  rw [upd_ne (fun q => n (by rw [q]; exact .head _))]
  exact e⟩
theorem Xb.get0 {H H' : Hp} {a : Addr} {o : HO} (x : Xb [] H H') (h : H a = some o) : H' a = some o := x.go a o (fun q => nomatch q) h
theorem Xb.get1 {b : Addr} {H H' : Hp} {a : Addr} {o : HO} (x : Xb [b] H H') (n : a ≠ b) (h : H a = some o) : H' a = some o := x.go a o (fun q => n (List.mem_singleton.mp q)) h
theorem Xb.get2 {b c : Addr} {H H' : Hp} {a : Addr} {o : HO} (x : Xb [b, c] H H') (n : a ≠ b) (n' : a ≠ c) (h : H a = some o) : H' a = some o := x.go a o (fun q => by
  rcases List.mem_cons.mp q with e | q
  · exact n e
  · exact n' (List.mem_singleton.mp q)) h
theorem Xb.t0 {L : List Addr} {H H1 H2 : Hp} (x : Xb L H H1) (y : Xb [] H1 H2) : Xb L H H2 := x.trans y.any
theorem Xb.t1 {L : List Addr} {c : Addr} {H H1 H2 : Hp} (x : Xb L H H1) (y : Xb [c] H1 H2) (m : c ∈ L) : Xb L H H2 := x.trans (y.weak fun a q => by
  rw [List.mem_singleton.mp q]
  exact m)
theorem Xb.b0 {L : List Addr} {H H1 H2 : Hp} (y : Xb [] H1 H2) (x : Xb L H H1) : Xb L H H2 := x.t0 y
theorem Xb.b1 {L : List Addr} {c : Addr} {H H1 H2 : Hp} (y : Xb [c] H1 H2) (m : c ∈ L) (x : Xb L H H1) : Xb L H H2 := x.t1 y m
/-- what was made within may change -/
theorem Xb.loc {L : List Addr} {p : Addr} {H H1 H2 : Hp} (x : Xb L H H1) (hp : H p = none) (y : Xb [p] H1 H2) : Xb L H H2 := ⟨fun a o n h =>
  y.go a o (fun q => by
    rw [List.mem_singleton] at q
    rw [q, hp] at h
    cases h) (x.go a o n h)⟩
theorem Xb.loc2 {L M : List Addr} {H H1 H2 : Hp} (x : Xb L H H1) (hp : ∀ p, p ∈ M → p ∈ L ∨ H p = none) (y : Xb M H1 H2) : Xb L H H2 := ⟨fun a o n h =>
  y.go a o (fun q => by
    rcases hp a q with k | k
    · exact n k
    · rw [k] at h
      cases h) (x.go a o n h)⟩
theorem Xb.free {L : List Addr} {H H' : Hp} (x : Xb L H H') {l : Addr} (n : l ∉ L) (h : H' l = Option.none) : H l = Option.none := by
  cases q : H l with
  | none => rfl
  | some o =>
    rw [x.go l o n q] at h
    cases h
theorem Xb.bl {L : List Addr} {p : Addr} {H H1 H2 : Hp} (y : Xb [p] H1 H2) (hp : Fr H p) (x : Xb L H H1) : Xb L H H2 := x.loc hp.e y
theorem Xb.free0 {H H' : Hp} {l : Addr} (h : Fr H' l) (x : Xb [] H H') : Fr H l := ⟨x.free (fun q => nomatch q) h.e⟩
theorem Xb.free1 {b : Addr} {H H' : Hp} {l : Addr} (h : Fr H' l) (x : Xb [b] H H') (n : l ≠ b) : Fr H l := ⟨x.free (fun q => n (List.mem_singleton.mp q)) h.e⟩
theorem Xb.locb {L : List Addr} {b p : Addr} {H H1 H2 : Hp} (x : Xb L H H1) (m : b ∈ L) (hp : Fr H p) (y : Xb [b, p] H1 H2) : Xb L H H2 := x.loc2 (fun a q => by
  rcases List.mem_cons.mp q with e | q
  · exact .inl (by rw [e]; exact m)
  · exact .inr (by rw [List.mem_singleton.mp q]; exact hp.e)) y
theorem Xb.seq {K : PySem.W.Frag} {L : List Addr} {H H' : Hp} {a : Addr} {xs : List V} (e : Xb L H H') (n : a ∉ L) (h : SqL K H a xs) : SqL K H' a xs := by
  rcases h with (h | ⟨o, h⟩) | h
  · exact .inl (.inl (e.go _ _ n h))
  · exact .inl (.inr ⟨o, e.go _ _ n h⟩)
  · exact .inr h
theorem Xb.seqT {K : PySem.W.Frag} {L : List Addr} {H H' : Hp} {a : Addr} {xs : List V} (e : Xb L H H') (n : a ∉ L) (h : SqT K H a xs) : SqT K H' a xs := by
  rcases h with (h | ⟨o, h⟩) | h
  · exact .inl (.inl (e.go _ _ n h))
  · exact .inl (.inr ⟨o, e.go _ _ n h⟩)
  · exact .inr h

theorem Xb.seq0 {K : PySem.W.Frag} {H H' : Hp} {a : Addr} {xs : List V} (e : Xb [] H H') (h : SqL K H a xs) : SqL K H' a xs := e.seq (fun q => nomatch q) h
theorem Xb.seqT0 {K : PySem.W.Frag} {H H' : Hp} {a : Addr} {xs : List V} (e : Xb [] H H') (h : SqT K H a xs) : SqT K H' a xs := e.seqT (fun q => nomatch q) h
/-! ### readings weakened -/
section
variable {X : Cx}
def mE (t : TE) : TE := fun σ H Q => ∃ Q0 : VK, t σ H Q0 ∧ ∀ v H', Q0 v H' → Q v H'
def mA (t : TA) : TA := fun σ H Q => ∃ Q0 : List V → Hp → Prop, t σ H Q0 ∧ ∀ v H', Q0 v H' → Q v H'
theorem pe_m {e : Expr} {t : TE} (h : PE X e t) : PE X e (mE t) := ⟨fun pins s σ H Q I ⟨Q0, hw, m⟩ =>
  thn (h.run pins s σ H Q0 I hw) fun v s1 ⟨x, H1, I1, r1, q1⟩ => ⟨x, H1, I1, r1, m _ _ q1⟩⟩
theorem pa_m {es : List Expr} {t : TA} (h : PA X es t) : PA X es (mA t) := ⟨fun pos pins s σ H Q I ⟨Q0, hw, m⟩ =>
  thn (h.run pos pins s σ H Q0 I hw) fun v s1 ⟨x, H1, I1, r1, q1⟩ => ⟨x, H1, I1, r1, m _ _ q1⟩⟩
theorem pe_imp {e : Expr} {t t' : TE} (h : PE X e t) (k : ∀ σ H Q, t' σ H Q → t σ H Q) : PE X e t' := ⟨fun pins s σ H Q I hw => h.run pins s σ H Q I (k σ H Q hw)⟩
theorem ps_imp {e : Stmt} {t t' : TS} (h : PS X e t) (k : ∀ D σ H, t' D σ H → t D σ H) : PS X e t' := ⟨fun pins s σ H D I hw => h.run pins s σ H D I (k D σ H hw)⟩

/-! ### displays, with the heap behind them told by what stands in it -/
def nLst (xs : List V) (H1 : Hp) (Q : VK) : Prop := xs.length ≤ sizeLine ∧ ∀ p H', Fr H1 p → Xb [] H1 H' → H' p = some (.lst xs) → Q (.ref p) H'
def nTup (xs : List V) (H1 : Hp) (Q : VK) : Prop := xs.length ≤ sizeLine ∧ ∀ p H', Fr H1 p → Xb [] H1 H' → H' p = some (.tup xs) → Q (.ref p) H'
def xLst (t : TA) : TE := fun σ H Q => t σ H fun xs H1 => nLst xs H1 Q
def xTup (t : TA) : TE := fun σ H Q => t σ H fun xs H1 => nTup xs H1 Q
theorem px_lst {es : List Expr} {t : TA} {pos : Pos} (ha : PA X es t) : PE X (.List es pos) (xLst t) :=
  pe_imp (pe_lst (pa_m ha)) fun σ H Q h => ⟨_, h, fun v H' q => ⟨q.1, fun p hp => q.2 p _ ⟨hp⟩ (Xb.new hp) upd_same⟩⟩
theorem px_tup {es : List Expr} {t : TA} {k : Nat} {pos : Pos} (ha : PA X es t) : PE X (.Tuple es k pos) (xTup t) :=
  pe_imp (pe_tup (pa_m ha)) fun σ H Q h => ⟨_, h, fun v H' q => ⟨q.1, fun p hp => q.2 p _ ⟨hp⟩ (Xb.new hp) upd_same⟩⟩
end

section
variable {X : Cx}
/-! ### by values: new objects, written objects -/
abbrev nL (xs : List V) (H : Hp) (Q : VK) : Prop := ∀ (p : Addr) (H' : Hp), Fr H p → Xb [] H H' → H' p = some (.lst xs) → Q (.ref p) H'
abbrev nT (xs : List V) (H : Hp) (Q : VK) : Prop := ∀ (p : Addr) (H' : Hp), Fr H p → Xb [] H H' → H' p = some (.tup xs) → Q (.ref p) H'
abbrev wL (l : Addr) (xs : List V) (H : Hp) (Q : Hp → Prop) : Prop := ∀ H' : Hp, Xb [l] H H' → H' l = some (.lst xs) → Q H'
theorem nL.of {xs : List V} {H : Hp} {Q : VK} (k : nL xs H Q) : ∀ p, H p = none → Q (.ref p) (upd H p (.lst xs)) := fun p hp => k p _ ⟨hp⟩ (Xb.new hp) upd_same
theorem nT.of {xs : List V} {H : Hp} {Q : VK} (k : nT xs H Q) : ∀ p, H p = none → Q (.ref p) (upd H p (.tup xs)) := fun p hp => k p _ ⟨hp⟩ (Xb.new hp) upd_same
theorem cx_list : CallR X (.type "list") (fun xs H Q => ∃ p, xs = [.ref p] ∧ ∃ ys, (SqL X.K H p ys ∨ SqT X.K H p ys) ∧ nL ys H Q) := fun pins s σ H xs us Q I r ⟨p, e, ys, h, k⟩ =>
  call_list_of pins s σ H xs us Q I r ⟨p, ys, e, h, k.of⟩
theorem cx_tuple : CallR X (.type "tuple") (fun xs H Q => ∃ p, xs = [.ref p] ∧ ∃ ys, SqL X.K H p ys ∧ nT ys H Q) := fun pins s σ H xs us Q I r ⟨p, e, ys, h, k⟩ =>
  call_tuple_of pins s σ H xs us Q I r ⟨p, ys, e, .inl ⟨h, k.of⟩⟩
theorem mx_append : MtR X "list.append" (fun x vs H Q => ∃ l y, x = .ref l ∧ vs = [y] ∧ ∃ xs, H l = some (.lst xs) ∧ xs.length < sizeLine ∧ wL l (xs ++ [y]) H (Q .non)) := fun pins s σ H x xs v us Q I rx r ⟨l, y, e1, e2, ys, h, n, k⟩ =>
  mt_append pins s σ H x xs v us Q I rx r ⟨l, ys, y, e1, e2, h, n, k _ Xb.put upd_same⟩
theorem setx_list : PSet X (fun o i v H Q => ∃ p k, o = .ref p ∧ i = .int k ∧ ∃ xs j, H p = some (.lst xs) ∧ ixN xs.length k = some j ∧ wL p (xs.set j v) H Q) := fun pins s σ H o i v ov iv u Q I ro ri rv ⟨p, k, e1, e2, xs, j, h, hj, q⟩ =>
  set_list pins s σ H o i v ov iv u Q I ro ri rv ⟨p, xs, k, j, e1, e2, h, hj, q _ Xb.put upd_same⟩
theorem ox_cat : OpR X (binaryOp .Add) (fun x y H Q => ∃ l b, x = .ref l ∧ y = .ref b ∧ ∃ xs zs, H l = some (.lst xs) ∧ H b = some (.lst zs) ∧ xs.length + zs.length ≤ sizeLine ∧ nL (xs ++ zs) H Q) := fun pins s σ H x y v u Q I rx ry ⟨l, b, e1, e2, xs, zs, h1, h2, n, k⟩ =>
  op_cat pins s σ H x y v u Q I rx ry ⟨l, b, xs, zs, e1, e2, h1, h2, n, k.of⟩
theorem ox_catT : OpR X (binaryOp .Add) (fun x y H Q => ∃ l b, x = .ref l ∧ y = .ref b ∧ ∃ xs zs, SqT X.K H l xs ∧ SqT X.K H b zs ∧ xs ≠ [] ∧ zs ≠ [] ∧ xs.length + zs.length ≤ sizeLine ∧ nT (xs ++ zs) H Q) := fun pins s σ H x y v u Q I rx ry ⟨l, b, e1, e2, xs, zs, h1, h2, n1, n2, n, k⟩ =>
  op_catT pins s σ H x y v u Q I rx ry ⟨l, b, xs, zs, e1, e2, h1, h2, n1, n, fun e => (n2 e).elim, fun _ => k.of⟩
theorem sx_list : SlR X (fun x lo hi H Q => ∃ a, x = .ref a ∧ ∃ xs, SqL X.K H a xs ∧ nL (cutV xs lo hi) H Q) := fun pins s σ H x v vl vu lo hi sl Q I rx hs pl pu ⟨a, e, xs, h, k⟩ =>
  sl_list pins s σ H x v vl vu lo hi sl Q I rx hs pl pu ⟨a, xs, e, h, k.of⟩
theorem mx_split : MtR X "str.split" (fun x xs H Q => ∃ a b, x = .str a ∧ xs = [.str b] ∧ (b.length == 0) = false ∧ a.length + 2 ≤ sizeLine ∧ nL ((Txt.split a b).map V.str) H Q) := fun pins s σ H x xs v us Q I rx r ⟨a, b, e1, e2, h1, h2, k⟩ =>
  mt_split pins s σ H x xs v us Q I rx r ⟨a, b, e1, e2, h1, h2, k.of⟩
theorem px_split {o e : Expr} {to te : TE} {apos pos : Pos} (ho : PE X o to) (he : PE X e te) (hs : starEach [e] X.env = [(false, eval e X.env)] := by rfl) (hbase : attributeBase o "split" X.env (eval o X.env) = eval o X.env := by rfl) (hline : (apos.endLine == pos.line) = true := by rfl) :
    PE X (.Call (.Attribute o "split" apos) [e] [] pos) (tM1 (fun x xs H Q => ∃ a b, x = .str a ∧ xs = [.str b] ∧ (b.length == 0) = false ∧ a.length + 2 ≤ sizeLine ∧ nL ((Txt.split a b).map V.str) H Q) to te) :=
  pe_m1 F.slot_str_split F.type_str_split mx_split ho he hs hbase hline
theorem px_dnew {pos : Pos} : PE X (.Dict [] [] pos) (fun σ H Q => ∀ (p : Addr) (H' : Hp), Fr H p → Xb [] H H' → H' p = some (.dK []) → Q (.ref p) H') :=
  pe_imp pe_dnewK fun σ H Q k p hp => k p _ ⟨hp⟩ (Xb.new hp) upd_same
theorem cx_listD (hc : X.calm = true) : CallR X (.type "list") (fun xs H Q => ∃ a, xs = [.ref a] ∧ ∃ kvs : List (Key × V), Rd H a (.dK kvs) ∧ nL (kvs.map fun kv => kV kv.1) H Q) := fun pins s σ H xs us Q I r ⟨a, e, kvs, h, k⟩ =>
  call_listD hc pins s σ H xs us Q I r ⟨a, kvs, e, h, k.of⟩

/-- xs[i] of a list, 0 ≤ i: for xs[i] += e -/
def gLst (K : PySem.W.Frag) : V → V → Hp → VK → Prop := fun x y H Q => ∃ p xs i v, x = .ref p ∧ y = .int i ∧ SqL K H p xs ∧ (0 ≤ i ∧ i < 2 ^ 62) ∧ xs[i.toNat]? = some v ∧ Q v H
theorem get_lst : PGet X (gLst X.K) := by
  intro pins s σ H o i ov iv Q I ro ri h
  obtain ⟨p, xs, i, v, rfl, rfl, hq, ⟨h0, h1⟩, hx, q⟩ := h
  cases ro
  obtain ⟨t, rfl⟩ := ri
  obtain ⟨its, r, pl, hz⟩ := I.list hq
  obtain ⟨w, ew, rw'⟩ := r.get hx
  exact wpAny_getItem_list pl.isList h0 (by omega) (by simpa using ew) ⟨v, H, I, rw', q⟩
/-- what follows a statement is shown once, from Mid -/
def tMid (t : TS) : TS := fun D σ H => ∃ Mid : L2.St → Hp → Prop, t { D with nx := Mid } σ H ∧ ∀ σ' H', Mid σ' H' → D.nx σ' H'
theorem ps_mid {st : Stmt} {t : TS} (h : PS X st t) : PS X st (tMid t) := by
  refine ⟨fun pins s σ H D I ⟨Mid, hm, hu⟩ => thn (h.run pins s σ H { D with nx := Mid } I hm) fun f s1 q => ?_⟩
  cases f with
  | next =>
    obtain ⟨σ', H', I', q⟩ := q
    exact ⟨σ', H', I', hu σ' H' q⟩
  | ret v => exact q
  | brk => exact q
  | cont => exact q
end
/-! ### a def that may be called by its name -/
structure Cl (P : Program) (w : World) (K : PySem.W.Frag) (mg : Str → Option Value) (base : Heap) (k : Nat) (x : Str) (sp : Sp) : Prop where
  ex : ∃ (f : Addr) (fd : FuncData) (ps : List Str), FnOk P w K mg base CX0 k f fd ps sp ∧ mg x = some (.ref f) ∧ PySem.W.keepIn K (.ref f) = true ∧ Binds K fd ps []
section
variable {X : Cx} {k j : Nat} {x : Str} {sp : Sp} {p pos : Pos} {e : Expr} {es : List Expr} {t : TA}
theorem pc (c : Cl X.prog X.w X.K X.mg X.base k x sp) (hr : Room j X.A) (hg : Gl X x) (ha : PA X (e :: es) t) (hk : k ≤ j := by decide)
    (hdb : (x == ("__debug__" : Str)) = false := by decide) (he : starEach (e :: es) X.env = (false, eval e X.env) :: starEach es X.env := by rfl) (hpl : (backTo pos (starEach es X.env)).any (·.1) = false := by rfl) :
    PE X (.Call (.Name x p) (e :: es) [] pos) (tCall sp [] E0 t) := by
  obtain ⟨f, fd, ps, F, hm, kp, b⟩ := c.ex
  exact pe_call F (hr.mono hk) hg hm kp b .nil pass0 ha hdb he hpl
theorem pc0 (c : Cl X.prog X.w X.K X.mg X.base k x sp) (hr : Room j X.A) (hg : Gl X x) (hk : k ≤ j := by decide) (hdb : (x == ("__debug__" : Str)) = false := by decide) :
    PE X (.Call (.Name x p) [] [] pos) (tCall sp [] E0 tNil) := by
  obtain ⟨f, fd, ps, F, hm, kp, b⟩ := c.ex
  exact pe_call0 F (hr.mono hk) hg hm kp b .nil pass0 hdb
end
theorem sz {n : Nat} (h : n ≤ 100000) : n ≤ sizeLine := Nat.le_trans h (by decide)
theorem sz_lt {n : Nat} (h : n < 100000) : n < sizeLine := Nat.lt_of_lt_of_le h (by decide)

/-! ### the bag that the laws draw from: the script's cells, the next one's place, a great number, a state -/
structure BagS (b l : Addr) (H : Hp) (ns : List Int) (i g st : Int) : Prop where
  hb : H b = some (.lst [.ref l, .int i, .int g, .int st])
  hl : H l = some (.lst (ns.map V.int))
  len : ns.length ≤ 63
  i0 : 0 ≤ i
  iN : i ≤ 63
  g0 : 0 ≤ g
  s0 : 0 ≤ st
  sN : st < 2147483629
structure Bag (b l : Addr) (H : Hp) : Prop where
  ne : l ≠ b
  ex : ∃ (ns : List Int) (i g st : Int), BagS b l H ns i g st
theorem Bag.b {b l : Addr} {H : Hp} (h : Bag b l H) : ∃ xs, H b = some (.lst xs) := by
  obtain ⟨_, ns, i, g, st, B⟩ := h
  exact ⟨_, B.hb⟩
theorem Bag.l {b l : Addr} {H : Hp} (h : Bag b l H) : ∃ xs, H l = some (.lst xs) := by
  obtain ⟨_, ns, i, g, st, B⟩ := h
  exact ⟨_, B.hl⟩
theorem Bag.neb {b l p : Addr} {H : Hp} (hp : Fr H p) (h : Bag b l H) : p ≠ b := by
  obtain ⟨xs, e⟩ := h.b
  exact (ne_of_none e hp.e).symm
theorem Bag.nel {b l p : Addr} {H : Hp} (hp : Fr H p) (h : Bag b l H) : p ≠ l := by
  obtain ⟨xs, e⟩ := h.l
  exact (ne_of_none e hp.e).symm
theorem Bag.netb {b l p : Addr} {H : Hp} {xs : List V} (hp : H p = some (.tup xs)) (h : Bag b l H) : p ≠ b := by
  obtain ⟨ys, e⟩ := h.b
  exact ne_of hp e (fun q => nomatch q)
theorem Bag.keep {L : List Addr} {b l : Addr} {H H' : Hp} (h : Bag b l H) (x : Xb L H H') (nb : b ∉ L) (nl : l ∉ L) : Bag b l H' := by
  obtain ⟨n, ns, i, g, st, B⟩ := h
  exact ⟨n, ns, i, g, st, x.go b _ nb B.hb, x.go l _ nl B.hl, B.len, B.i0, B.iN, B.g0, B.s0, B.sN⟩
theorem Bag.keep0 {b l : Addr} {H H' : Hp} (x : Xb [] H H') (h : Bag b l H) : Bag b l H' := h.keep x (fun q => nomatch q) fun q => nomatch q
theorem Bag.keep1 {b l p : Addr} {H H' : Hp} (x : Xb [p] H H') (nb : p ≠ b) (nl : p ≠ l) (h : Bag b l H) : Bag b l H' :=
  h.keep x (fun q => nb (List.mem_singleton.mp q).symm) fun q => nl (List.mem_singleton.mp q).symm
/-- a new bag of the script -/
def spBag (K : PySem.W.Frag) : Sp := fun vs H Q _ => ∃ a, vs = [.ref a] ∧ ∃ ns : List Int, SqL K H a (ns.map V.int) ∧ ns.length ≤ 63 ∧
  ∀ (b l : Addr) (H' : Hp), Bag b l H' → Xb [] H H' → Q (.ref b) H'
/-- a limit of a draw -/
def LimOk (lim : Int) : Prop := 0 < lim ∧ lim.natAbs < 2 ^ 250
theorem LimOk.of {lim : Int} (h : (decide (0 < lim) && Nat.blt lim.natAbs (2 ^ 250)) = true) : LimOk lim := by
  rw [Bool.and_eq_true] at h
  exact ⟨of_decide_eq_true h.1, Nat.blt_eq.mp h.2⟩
theorem LimOk.le {lim : Int} (h0 : 0 < lim) (h1 : lim ≤ 1000000000) : LimOk lim := ⟨h0, Nat.lt_of_le_of_lt (by omega : lim.natAbs ≤ 1000000000) (by decide)⟩
/-- a number from 0 to lim - 1 -/
def spPick : Sp := fun vs H Q _ => ∃ (b : Addr) (lim : Int), vs = [.ref b, .int lim] ∧ ∃ l, Bag b l H ∧ LimOk lim ∧
  ∀ (n : Int) (H' : Hp), Xb [b] H H' → Bag b l H' → 0 ≤ n → n < lim → Q (.int n) H'

/-! ### an item at a place that is not written -/
def isIV : V → Bool | .int _ => true | _ => false
def isSV : V → Bool | .str _ => true | _ => false
theorem atI_in {xs : List V} {n : Int} (h0 : 0 ≤ n) (h1 : n < xs.length) : ∃ v, atI xs n = some v ∧ v ∈ xs := by
  have h : n.toNat < xs.length := by omega
  exact ⟨xs[n.toNat], at_of (j := n.toNat) (by omega) (List.getElem?_eq_getElem h), List.getElem_mem h⟩
section
variable {K : PySem.W.Frag} {p : Addr} {i : Int} {H : Hp} {xs : List V} {Q : VK}
theorem rd_ixI (hq : SqL K H p xs) (h0 : 0 ≤ i) (h1 : i < xs.length) (hs : xs.all isIV = true) (k : ∀ z, V.int z ∈ xs → Q (.int z) H) : rIxL K (.ref p) (.int i) H Q := by
  obtain ⟨v, e, m⟩ := atI_in h0 h1
  have hv := List.all_eq_true.mp hs v m
  cases v with
  | int z => exact ⟨p, xs, i, _, rfl, rfl, hq, e, k z m⟩
  | _ => cases hv
theorem rd_ixS (hq : SqL K H p xs) (h0 : 0 ≤ i) (h1 : i < xs.length) (hs : xs.all isSV = true) (k : ∀ z, V.str z ∈ xs → Q (.str z) H) : rIxL K (.ref p) (.int i) H Q := by
  obtain ⟨v, e, m⟩ := atI_in h0 h1
  have hv := List.all_eq_true.mp hs v m
  cases v with
  | str z => exact ⟨p, xs, i, _, rfl, rfl, hq, e, k z m⟩
  | _ => cases hv
theorem rd_ixN {ns : List Int} (hq : SqL K H p (ns.map V.int)) (h0 : 0 ≤ i) (h1 : i < ns.length) (k : ∀ z, z ∈ ns → Q (.int z) H) : rIxL K (.ref p) (.int i) H Q :=
  rd_ixI hq h0 (by rw [List.length_map]; exact h1) (by rw [List.all_map]; exact List.all_eq_true.mpr fun _ _ => rfl) fun z m => by
    obtain ⟨y, hy, e⟩ := List.mem_map.mp m
    cases e
    exact k z hy
end
theorem map_snoc {α : Type} (f : α → V) (xs : List α) (y : α) : xs.map f ++ [f y] = (xs ++ [y]).map f := by rw [List.map_append]; rfl

/-! ### a comprehension's list told apart -/
def LcI (Pv : Nat → Hp → List V → Prop) (D : Addr) (i : Nat) (H : Hp) : Prop := ∃ acc, H D = some (.lst acc) ∧ Pv i H acc
theorem LcI.start {Pv : Nat → Hp → List V → Prop} {D : Addr} {H : Hp} (hD : H D = none) (k : ∀ H', Fr H D → Xb [] H H' → H' D = some (.lst []) → Pv 0 H' []) : LcI Pv D 0 (upd H D (.lst [])) :=
  ⟨[], upd_same, k _ ⟨hD⟩ (Xb.new hD) upd_same⟩
theorem LcI.put {Pv : Nat → Hp → List V → Prop} {D : Addr} {j : Nat} {H : Hp} {acc : List V} {y : V} (k : ∀ H', Xb [D] H H' → H' D = some (.lst (acc ++ [y])) → Pv j H' (acc ++ [y])) : LcI Pv D j (upd H D (.lst (acc ++ [y]))) :=
  ⟨_, upd_same, k _ Xb.put upd_same⟩

theorem ite_T {c A B : Prop} [Decidable c] (h : c) (a : A) : if c then A else B := by
  rw [if_pos h]
  exact a
theorem ite_F {c A B : Prop} [Decidable c] (h : ¬ c) (b : B) : if c then A else B := by
  rw [if_neg h]
  exact b
theorem cx_int {X : Cx} : CallR X (.type "int") (fun xs H Q => ∃ i, xs = [.int i] ∧ Q (.int i) H) := fun pins s σ H xs us Q I r h => call_int1 pins s σ H xs us Q I r (.inl h)

/-! ### texts -/
theorem join4 (a b c d : Str) : Txt.join "" [a, b, c, d] = a ++ b ++ c ++ d := by
  rw [TL.join_eq]
  show a ++ Str.empty ++ (b ++ Str.empty ++ (c ++ Str.empty ++ d)) = _
  rw [PySem.Str.append_empty, PySem.Str.append_empty, PySem.Str.append_empty, PySem.Str.append_assoc, PySem.Str.append_assoc]
theorem lt_irr : ∀ l : List Nat, ltCps l l = false
  | [] => rfl
  | a :: r => by simp [ltCps, lt_irr r]
theorem le_anti : ∀ {a b : List Nat}, ltCps a b = false → ltCps b a = false → a = b
  | [], [], _, _ => rfl
  | [], _ :: _, h, _ => by simp [ltCps] at h
  | _ :: _, [], _, h => by simp [ltCps] at h
  | x :: a, y :: b, h, h' => by
    simp only [ltCps, Bool.or_eq_false_iff, decide_eq_false_iff_not, Bool.and_eq_false_iff, beq_eq_false_iff_ne] at h h'
    have e : x = y := by omega
    subst e
    rw [le_anti (h.2.resolve_left fun q => q rfl) (h'.2.resolve_left fun q => q rfl)]
theorem le_trans' : ∀ {a b c : List Nat}, ltCps b a = false → ltCps c b = false → ltCps c a = false
  | [], _, [], _, _ => rfl
  | [], [], _ :: _, _, h => by simp [ltCps] at h ⊢
  | [], _ :: _, _ :: _, _, _ => by simp [ltCps]
  | _ :: _, [], _, h, _ => by simp [ltCps] at h
  | _ :: _, _ :: _, [], _, h => by simp [ltCps] at h
  | x :: a, y :: b, z :: c, h, h' => by
    simp only [ltCps, Bool.or_eq_false_iff, decide_eq_false_iff_not, Bool.and_eq_false_iff, beq_eq_false_iff_ne] at h h' ⊢
    refine ⟨by omega, ?_⟩
    by_cases e : z = x
    · have e1 : y = x := by omega
      subst e e1
      exact .inr (le_trans' (h.2.resolve_left fun q => q rfl) (h'.2.resolve_left fun q => q rfl))
    · exact .inl e
theorem rising_pw : ∀ {l : List Str} {p : Str}, risingS p l = true → (p :: l).Pairwise (fun a b => ltCps b.cps.toList a.cps.toList = false)
  | [], _, _ => List.pairwise_singleton _ _
  | x :: r, p, h => by
    simp only [risingS, Bool.and_eq_true, Bool.not_eq_true'] at h
    have ih := rising_pw h.2
    refine .cons (fun b hb => ?_) ih
    rcases List.mem_cons.mp hb with e | m
    · rw [e]
      exact h.1
    · exact le_trans' h.1 ((List.pairwise_cons.mp ih).1 b m)
theorem sorted_pw {l : List Str} (h : sortedS l = true) : l.Pairwise (fun a b => ltCps b.cps.toList a.cps.toList = false) := by
  cases l with
  | nil => exact .nil
  | cons x r => exact rising_pw h
theorem sorted_same {a b : List Str} (hp : a.Perm b) (ha : sortedS a = true) (hb : sortedS b = true) : a = b :=
  hp.eq_of_pairwise (fun x y _ _ h1 h2 => PySem.Str.ext' (Array.toList_inj.mp (le_anti h2 h1))) (sorted_pw ha) (sorted_pw hb)
section
variable {X : Cx}
theorem cx_sortedS : CallR X (.builtin "sorted") (fun vs H Q => ∃ a, vs = [V.ref a] ∧ ∃ xs : List Str, SqL X.K H a (xs.map V.str) ∧ xs.length < 64 ∧ ∀ (ys : List Str) (p : Addr) (H' : Hp), ys.Perm xs → sortedS ys = true → Fr H p → Xb [] H H' → H' p = some (.lst (ys.map V.str)) → Q (.ref p) H') :=
  fun pins s σ H xs us Q I r ⟨a, e, zs, h, n, k⟩ => cr_sortedS pins s σ H xs us Q I r ⟨a, zs, e, h, n, fun ys p h1 h2 hp => k ys p _ h1 h2 ⟨hp⟩ (Xb.new hp) upd_same⟩
/-- d[z] = v, z a text -/
theorem setx_dictS (hu : X.A.units + 1 < cLine) : PSet X (fun o i v H Q => ∃ a z, o = .ref a ∧ i = .str z ∧ ∃ kvs, H a = some (.dK kvs) ∧ kvs.length < sizeLine ∧ ∀ H', Xb [a] H H' → H' a = some (.dK (putK kvs (.inr z) v)) → Q H') :=
  fun pins s σ H o i v ov iv u Q I ro ri rv ⟨a, z, e1, e2, kvs, h, n, k⟩ => by
    subst e1 e2
    cases ro
    exact d_setItem hu I (DPut.k (k := .inr z) h n) ri rv fun s4 I4 => ⟨_, I4, k _ Xb.put upd_same⟩
end
/-! ### lists of pairs of ints -/
def PairAt (H : Hp) (v : V) (p : Int × Int) : Prop := ∃ a, v = .ref a ∧ H a = some (.tup [.int p.1, .int p.2])
abbrev Pairs (H : Hp) (xs : List V) (ps : List (Int × Int)) : Prop := Paired (PairAt H) xs ps
theorem PairAt.keep {H H' : Hp} {v : V} {p : Int × Int} (x : Xb [] H H') (h : PairAt H v p) : PairAt H' v p := by
  obtain ⟨a, e, h⟩ := h
  exact ⟨a, e, x.get0 h⟩
theorem Pairs.keep {H H' : Hp} {xs : List V} {ps : List (Int × Int)} (x : Xb [] H H') (h : Pairs H xs ps) : Pairs H' xs ps := L2.Paired.mapP h fun _ _ q => q.keep x
theorem Pairs.snoc {H : Hp} {xs : List V} {ps : List (Int × Int)} {v : V} {p : Int × Int} (h : Pairs H xs ps) (q : PairAt H v p) : Pairs H (xs ++ [v]) (ps ++ [p]) := Paired.snoc h q
theorem paired_app {α β : Type} {F : α → β → Prop} : ∀ {a c : List α} {b d : List β}, Paired F a b → Paired F c d → Paired F (a ++ c) (b ++ d)
  | _, _, _, _, .nil, h => h
  | _, _, _, _, .cons f t, h => .cons f (paired_app t h)
theorem paired_len {α β : Type} {F : α → β → Prop} : ∀ {a : List α} {b : List β}, Paired F a b → a.length = b.length
  | _, _, .nil => rfl
  | _, _, .cons _ t => by rw [List.length_cons, List.length_cons, paired_len t]
theorem paired_get {α β : Type} {F : α → β → Prop} : ∀ {a : List α} {b : List β} {i : Nat} {x : α}, Paired F a b → a[i]? = some x → ∃ y, b[i]? = some y ∧ F x y
  | _, _, _, _, .nil, e => by simp at e
  | _, _, 0, _, .cons f _, e => by
    simp at e
    subst e
    exact ⟨_, rfl, f⟩
  | _, _, i + 1, x, .cons _ t, e => by
    obtain ⟨y, h1, h2⟩ := paired_get (i := i) (x := x) t (by simpa using e)
    exact ⟨y, by simpa using h1, h2⟩

theorem PairAt.keepd {H H' : Hp} {v : V} {p : Int × Int} {d : Addr} {kvs : List (Key × V)} (x : Xb [d] H H') (hd : H d = some (.dK kvs)) (h : PairAt H v p) : PairAt H' v p := by
  obtain ⟨a, e, h⟩ := h
  exact ⟨a, e, x.get1 (ne_of h hd fun q => nomatch q) h⟩
theorem Pairs.keepd {H H' : Hp} {xs : List V} {ps : List (Int × Int)} {d : Addr} {kvs : List (Key × V)} (x : Xb [d] H H') (hd : H d = some (.dK kvs)) (h : Pairs H xs ps) : Pairs H' xs ps := L2.Paired.mapP h fun _ _ q => q.keepd x hd
theorem putK_len {kvs : List (Key × V)} {k : Key} {v : V} : (putK kvs k v).length ≤ kvs.length + 1 := by
  unfold putK
  split
  · rw [List.length_map]
    omega
  · rw [List.length_append]
    exact Nat.le_refl _
theorem dp_strs {K : PySem.W.Frag} {H : Hp} : ∀ ss : List Str, DpAll K H (ss.map V.str) (ss.map PyData.str)
  | [] => .nil
  | z :: r => .cons (.str z) (dp_strs r)
theorem in_strs {z : Str} {ss : List Str} (h : z ∈ ss) : inV (.str z) (ss.map V.str) = true := by
  unfold inV
  rw [List.any_map, List.any_eq_true]
  exact ⟨z, h, by show eqV (.str z) (.str z) = true; simp [eqV]⟩
theorem PairAt.keepl {H H' : Hp} {v : V} {p : Int × Int} {d : Addr} {ys : List V} (x : Xb [d] H H') (hd : H d = some (.lst ys)) (h : PairAt H v p) : PairAt H' v p := by
  obtain ⟨a, e, h⟩ := h
  exact ⟨a, e, x.get1 (ne_of h hd fun q => nomatch q) h⟩
theorem Pairs.keepl {H H' : Hp} {xs : List V} {ps : List (Int × Int)} {d : Addr} {ys : List V} (x : Xb [d] H H') (hd : H d = some (.lst ys)) (h : Pairs H xs ps) : Pairs H' xs ps := L2.Paired.mapP h fun _ _ q => q.keepl x hd
end My

set_option Elab.async false
set_option linter.all false
set_option maxRecDepth 100000
set_option maxHeartbeats 4000000
namespace My
open PySem PySem.Spec PyProof.Rows L2

/-! ### enumerate(t), t a tuple -/
theorem meets_enum1 {v : Value} {o : Obj} {H : Heap → Prop} (B : Begins v o H) :
    Meets (Builtin.«enumerate.__new__» ⟨[.type "enumerate", v], []⟩) (fun _ R s => H s.heap ∧
      R (.ok (.ret (.ref (s.heap.push o).objs.size))) { s with heap := (s.heap.push o).push { cls := .type "enumerate", data := .fields #[.none, .bool false, .ref s.heap.objs.size, rawInt 0, .none, .none] } }) :=
  .of_wp fun prog w A R s h => by
    obtain ⟨hp, g, d, tk, os⟩ := s; obtain ⟨h1, h⟩ := h
    have hsub := sub_enumerate
    have q1 : ∀ {A' : Around} {E : Value → Shared → Prop} {Q : Value → Shared → Prop}, Q (.ref hp.objs.size) ⟨hp.push o, g, d, tk, os⟩ → wpAny (model prog w) A' (pyIter v) Q E ⟨hp, g, d, tk, os⟩ :=
      fun q => B.iter prog w _ _ ⟨hp, g, d, tk, os⟩ _ h1 q
    wp_walk using q1
    refine wpAny_stack_any fun st => wpAny_pure ?_
    split
    · rename_i c _ _ _ _ _
      cases (c == Value.type "enumerate")
      all_goals
        wp_walk using q1
        exact ⟨_, rfl, h⟩
    · wp_walk using q1
      exact ⟨_, rfl, h⟩
theorem call_enum1 {prog : Program} {w : World} {A : Around} {E : Value → Shared → Prop} {s : Shared} {v : Value} {o : Obj} {H : Heap → Prop} {Q : Value → Shared → Prop} (B : Begins v o H) (h1 : H s.heap)
    (h : ∀ h', IsEnum h' (s.heap.objs.size + 1) s.heap.objs.size 0 .none → h'.get? s.heap.objs.size = some o → h'.objs.size = s.heap.objs.size + 2 →
      (∀ b o, s.heap.get? b = some o → h'.get? b = some o) → Q (.ref (s.heap.objs.size + 1)) { s with heap := h' }) :
    wpAny (model prog w) A (call (.type "enumerate") [v]) Q E s := by
  refine callType_new F.called_enumerate (by decide) (F.typeCall_enumerate_1 _) (F.newCall_enumerate_1 _) (fun obj => F.args_object_init_2 obj _) F.entry_enumerate_new (meets_enum1 B) ⟨h1, ?_⟩
  have hz : (s.heap.push o).objs.size = s.heap.objs.size + 1 := Heap.size_push ..
  show _ ∧ _
  rw [hz]
  have he : IsEnum ((s.heap.push o).push { cls := .type "enumerate", data := .fields #[.none, .bool false, .ref s.heap.objs.size, rawInt 0, .none, .none] }) (s.heap.objs.size + 1) s.heap.objs.size 0 .none := by
    have e := Heap.get?_push_size (s.heap.push o) (o := { cls := .type "enumerate", data := .fields #[.none, .bool false, .ref s.heap.objs.size, rawInt 0, .none, .none] }) rfl
    rw [hz] at e
    exact e
  exact ⟨⟨_, he, rfl⟩, h _ he (Heap.get?_push_of_some _ (Heap.get?_push_size _ B.free)) (by rw [Heap.size_push, hz]) fun b o x => Heap.get?_push_of_some _ (Heap.get?_push_of_some _ x)⟩
/-- the tuple at a, each item in a new pair -/
def IteT (K : PySem.W.Frag) (a : Addr) : It :=
  ⟨fun i H => ∃ (xs : List V) (x : V), SqT K H a xs ∧ xs[i]? = some x, fun i H v H' => ∃ T x, v = .ref T ∧ H T = none ∧ H' = upd H T (.tup [.int (i : Nat), x]) ∧ ∀ xs, SqT K H a xs → xs[i]? = some x, fun i H => ∃ xs : List V, SqT K H a xs ∧ xs.length ≤ i⟩
theorem turn_enumT {P : Program} {w : World} {K : PySem.W.Frag} {elts : List Expr} {kk : Nat} {tpos : Pos} (a e it : Addr) :
    Turn P w K (.Tuple elts kk tpos) (IteT K a) [e, it] e (fun i h => (∃ old, IsEnum h e it ((i : Nat) : Int) old) ∧ h.IsTupleIter it a i ∧ e ≠ it ∧ a ≠ it ∧ e ≠ a) where
  mem := by simp
  obj := fun i h st b hb => by
    obtain ⟨⟨old, he⟩, ⟨o, ho, hc, hd⟩, _⟩ := st
    have e' : b = e ∨ b = it := by simpa using hb
    rcases e' with z | z
    · rw [z]; exact ⟨_, he, fun v q => nomatch q⟩
    · rw [z]; exact ⟨o, ho, fun v q => by rw [hd] at q; cases q⟩
  keep := fun i h h' st k => let ⟨⟨old, he⟩, hi, hne⟩ := st; ⟨⟨old, k e (by simp) _ he⟩, hi.at fun o q => k it (by simp) o q, hne⟩
  item := by
    intro X hP hw hK hc i pins s σ H E I hf st hg
    subst hP hw hK
    obtain ⟨⟨old, he⟩, hit, hne, hai, hea⟩ := st
    obtain ⟨xs, x, hq, hx⟩ := hg
    obtain ⟨its, rv, p, hz⟩ := I.tuple hq
    obtain ⟨u, hu, ru⟩ := rv.get hx
    have hel : e < s.heap.objs.size := Heap.lt_size he
    have hil : it < s.heap.objs.size := by obtain ⟨_, q, _⟩ := hit; exact Heap.lt_size q
    have hlt : i < its.toArray.size := by
      rw [List.size_toArray]
      exact (List.getElem?_eq_some_iff.mp hu).1
    have D := Draws.tuple (prog := X.prog) (w := X.w) (A := X.A.in1) (I.ok.hd hc) it a hai its.toArray
    refine wpAny_pyNext_enum_itemD D he ⟨hit, p⟩ hlt hne (by simp [hne, hea]) fun x' h' tk hx' ho hst hT hsz hk => ?_
    have ex : x' = u := by
      have z : its.toArray[i]? = some u := by simpa using hu
      rw [hx'] at z
      exact Option.some.inj z
    subst ex
    refine ⟨_, rfl, wpAny_letOwnedTupleGo_enum (s := { s with heap := h', toks := tk + 1 }) ho fun h'' he' sb => ?_⟩
    have hT2 : h''.get? s.heap.objs.size = some { cls := .type "tuple", data := .seq #[.int i tk, x'] } := (sb.2 _ (Nat.ne_of_gt hel)).trans hT
    have new : ObjOk X.prog X.w (upd H s.heap.objs.size (.tup [.int (i : Nat), x])) h'' s.heap.objs.size (.tup [.int (i : Nat), x]) :=
      ⟨by show 2 ≤ sizeLine; decide, [.int i tk, x'], .cons ⟨_, rfl⟩ (.cons ru .nil), ⟨_, hT2, rfl, _, rfl⟩⟩
    have I1 : Inv X pins σ (upd H s.heap.objs.size (.tup [.int (i : Nat), x])) { s with heap := h'', toks := tk + 1 } :=
      I.turnedNew (ch := [e, it]) (fun b ob hb q => (sb.2 b (fun z => hb (by simp [z]))).trans (hk b ob (fun z => hb (by simp [z])) (fun z => hb (by simp [z])) q)) hf (Nat.le_refl _) new
    refine ⟨.ref s.heap.objs.size, _, I1, rfl, ⟨_, x, rfl, I.hok.fresh (Nat.le_refl _), rfl, fun ys hy => by rw [I.tuple_inj hy hq]; exact hx⟩, ⟨⟨x', ?_⟩, hst.1.at fun o q => (sb.2 it (Ne.symm hne)).trans q, hne, hai, hea⟩, fun b hb => ?_⟩
    · have e1 : ((i + 1 : Nat) : Int) = (i : Int) + 1 := by omega
      rw [e1]; exact he'
    · have hb' : b < s.heap.objs.size := by
        have e' : b = e ∨ b = it := by simpa using hb
        rcases e' with z | z
        · rw [z]; exact hel
        · rw [z]; exact hil
      rw [upd_ne (Nat.ne_of_lt hb')]
      exact (hf b hb).1
  done := by
    intro X hP hw hK hc i pins s σ H E I hf st hg
    subst hP hw hK
    obtain ⟨⟨old, he⟩, hit, hne, hai, hea⟩ := st
    obtain ⟨xs, hq, hx⟩ := hg
    obtain ⟨its, rv, p, hz⟩ := I.tuple hq
    obtain ⟨f0, f1, f2, f3, f4, f5⟩ := hf it (by simp)
    have hl := rv.length
    have hn : its.toArray[i]? = none := by
      rw [Array.getElem?_eq_none_iff, List.size_toArray]
      omega
    have D : Draws X.prog X.w X.A.in1 it [it, a] i (fun _ _ => False) (fun j h => j = i ∧ h.IsTupleIter it a i ∧ h.IsTuple a its.toArray) := {
      live := fun _ _ st => let ⟨o, ho, _⟩ := st.2.1; ⟨o, ho⟩
      frame := fun _ _ _ st hk => ⟨st.1, st.2.1.at fun o e => hk it (by simp) o e, st.2.2.at fun o e => hk a (by simp) o e⟩
      item := fun j s Q E hj st _ => absurd st.1 (Nat.ne_of_lt hj)
      done := fun s Q E st hE => wpAny_nextOf_tuple_end (I.ok.hd hc) st.2.1 st.2.2 hn hE }
    exact wpAny_pyNext_enum_endD D he ⟨rfl, hit, p⟩ fun h' eb => ⟨rfl, I.turned (t' := s.toks) (fun b o hb q => eb b o hb q) f0 f1 f3 f4 f5⟩
  self := fun A i s Q E st h => let ⟨⟨_, he⟩, _⟩ := st; wpAny_pyIter_enum he h
def iEnumT (K : PySem.W.Frag) (ta : TA) : TI := fun σ H R => ta σ H fun vs H1 => ∃ a xs, vs = [.ref a] ∧ SqT K H1 a xs ∧ R (IteT K a) H1
theorem pi_enumT {X : Cx} {e : Expr} {ta : TA} {p pos tpos : Pos} {elts : List Expr} {kk : Nat} (hg : Gl X "enumerate") (hm : X.mg "enumerate" = none) (ha : PA X [e] ta) (hs : starEach [e] X.env = [(false, eval e X.env)] := by rfl) :
    PI X (.Tuple elts kk tpos) (.Call (.Name "enumerate" p) [e] [] pos) (iEnumT X.K ta) := by
  refine ⟨fun pins s σ H R I h => ?_⟩
  refine Call_ (ld_blt I hg hm boot_enumerate (PyProof.Rows.callWith_type1 (thn (ha.run pos pins s σ H _ I h) fun us s1 ⟨vs, H1, I1, r1, q1⟩ => ?_) hs rfl))
  obtain ⟨a, xs, ex, hq, q⟩ := q1
  subst ex
  cases r1 with
  | cons r rr =>
    cases rr
    cases r
    obtain ⟨its, rv, p', hz⟩ := I1.tuple hq
    refine call_enum1 (begins_tuple a its.toArray) p' fun h' he hit hsz hk => wpAny_pyIter_enum he ?_
    have I2 : Inv X pins σ H1 { s1 with heap := h' } := I1.kept (t' := s1.toks) hk
    have hal : a < s1.heap.objs.size := by
      obtain ⟨o, ho, _⟩ := p'
      exact Heap.lt_size ho
    refine ⟨s1.heap.objs.size + 1, [s1.heap.objs.size + 1, s1.heap.objs.size], _, _, H1, rfl, I2, turn_enumT a (s1.heap.objs.size + 1) s1.heap.objs.size, ⟨⟨.none, he⟩, ⟨_, hit, rfl, rfl⟩, Nat.succ_ne_self _, Nat.ne_of_lt hal, Nat.ne_of_gt (Nat.lt_succ_of_lt hal)⟩, fun b hb => ?_, q⟩
    have e' : b = s1.heap.objs.size + 1 ∨ b = s1.heap.objs.size := by simpa using hb
    have hle : s1.heap.objs.size ≤ b := by
      rcases e' with z | z
      · rw [z]; exact Nat.le_add_right _ _
      · rw [z]; exact Nat.le_refl _
    exact I1.fpOk hle (I1.hok.fresh hle)
section
variable {K : PySem.W.Frag} {a : Addr} {xs : List V} {g : TG} {tb : TS} {D : Ends} {σ : L2.St} {H : Hp}
/-- for i, x in enumerate(t) -/
theorem for_enumT (Pv : Nat → L2.St → Hp → Prop) (h0 : Pv 0 σ H) (hl : ∀ i σ H, i ≤ xs.length → Pv i σ H → SqT K H a xs)
    (hs : ∀ i x σ H, xs[i]? = some x → Pv i σ H → ∀ (T : Addr) (H' : Hp), Fr H T → Xb [] H H' → H' T = some (.tup [.int (i : Nat), x]) → g (.ref T) σ H' fun σ2 H2 => tb { D with nx := Pv (i + 1), ct := Pv (i + 1), bk := D.nx } σ2 H2)
    (hd : ∀ σ H, Pv xs.length σ H → D.nx σ H) :
    ∃ W : Nat → Nat → L2.St → Hp → Prop, (∃ m, W 0 m σ H) ∧ ∀ i m σ H, W i m σ H →
      ((IteT K a).stop i H ∧ D.nx σ H) ∨ ((IteT K a).go i H ∧ ∃ N : L2.St → Hp → Prop, (∀ σ' H', N σ' H' → ∃ m', m' < m ∧ W (i + 1) m' σ' H') ∧ ∀ x H', (IteT K a).yld i H x H' → g x σ H' fun σ2 H2 => tb { D with nx := N, ct := N, bk := D.nx } σ2 H2) := by
  refine ⟨fun i m σ H => m = xs.length - i ∧ i ≤ xs.length ∧ Pv i σ H, ⟨xs.length, by simp, Nat.zero_le _, h0⟩, ?_⟩
  rintro i m σ H ⟨rfl, hi, p⟩
  have q := hl i σ H hi p
  by_cases hlt : i < xs.length
  · refine .inr ⟨⟨xs, xs[i], q, by simp [hlt]⟩, Pv (i + 1), fun σ' H' p' => ⟨xs.length - (i + 1), by omega, rfl, hlt, p'⟩, fun x H' y => ?_⟩
    obtain ⟨T, z, rfl, hT, rfl, hz⟩ := y
    exact hs i z σ H (hz xs q) p T _ ⟨hT⟩ (Xb.new hT) upd_same
  · have e : i = xs.length := by omega
    subst e
    exact .inl ⟨⟨xs, q, Nat.le_refl _⟩, hd σ H p⟩
/-- for i, x in enumerate(xs), a list -/
theorem for_enumL (Pv : Nat → L2.St → Hp → Prop) (h0 : Pv 0 σ H) (hl : ∀ i σ H, i ≤ xs.length → Pv i σ H → SqL K H a xs)
    (hs : ∀ i x σ H, xs[i]? = some x → Pv i σ H → ∀ (T : Addr) (H' : Hp), Fr H T → Xb [] H H' → H' T = some (.tup [.int (i : Nat), x]) → g (.ref T) σ H' fun σ2 H2 => tb { D with nx := Pv (i + 1), ct := Pv (i + 1), bk := D.nx } σ2 H2)
    (hd : ∀ σ H, Pv xs.length σ H → D.nx σ H) :
    ∃ W : Nat → Nat → L2.St → Hp → Prop, (∃ m, W 0 m σ H) ∧ ∀ i m σ H, W i m σ H →
      ((Ite K a).stop i H ∧ D.nx σ H) ∨ ((Ite K a).go i H ∧ ∃ N : L2.St → Hp → Prop, (∀ σ' H', N σ' H' → ∃ m', m' < m ∧ W (i + 1) m' σ' H') ∧ ∀ x H', (Ite K a).yld i H x H' → g x σ H' fun σ2 H2 => tb { D with nx := N, ct := N, bk := D.nx } σ2 H2) := by
  refine ⟨fun i m σ H => m = xs.length - i ∧ i ≤ xs.length ∧ Pv i σ H, ⟨xs.length, by simp, Nat.zero_le _, h0⟩, ?_⟩
  rintro i m σ H ⟨rfl, hi, p⟩
  have q := hl i σ H hi p
  by_cases hlt : i < xs.length
  · refine .inr ⟨⟨xs, xs[i], q, by simp [hlt]⟩, Pv (i + 1), fun σ' H' p' => ⟨xs.length - (i + 1), by omega, rfl, hlt, p'⟩, fun x H' y => ?_⟩
    obtain ⟨T, z, rfl, hT, rfl, hz⟩ := y
    exact hs i z σ H (hz xs q) p T _ ⟨hT⟩ (Xb.new hT) upd_same
  · have e : i = xs.length := by omega
    subst e
    exact .inl ⟨⟨xs, q, Nat.le_refl _⟩, hd σ H p⟩
end

end My

set_option Elab.async false
set_option linter.all false
set_option maxRecDepth 100000
set_option maxHeartbeats 4000000
namespace My
open PySem PySem.Spec PyProof.Rows L2
/-! ### own exceptions: their class, their __init__, raising them, catching them -/
/-- the class at C, under ValueError by the class at B (named N in the text): its __init__ is at fI, its fields are fs -/
structure ExK (K : PySem.W.Frag) (mg : Str → Option Value) (x : Str) (C fI : Addr) (fs : List Str) : Prop where
  ox : OexC K C
  xf : XfC K C
  no : ∀ f ∈ fs, PySem.W.findIn K (.ref C) f = some none
  iC : PySem.W.findIn K (.ref C) "__init__" = some (some (.ref fI))
  tI : PySem.W.typeIn K (.ref fI) = some (.type "function")
  gC : mg x = some (.ref C)
  self : PySem.W.exmOne K (.ref C) (.ref C) = some true
/-- the base class of the package's errors -/
structure ExB (K : PySem.W.Frag) (mg : Str → Option Value) (x : Str) (B : Addr) (mc : Value) : Prop where
  gB : mg x = some (.ref B)
  rd : ClX.CRead K B mc
  fi : PySem.W.findCls K (.ref B) mc "__init__" = some (.val (.builtin "ValueError.__init__"))
section
variable {X : Cx} {e : Expr} {es : List Expr} {te : TE} {ta : TA} {p p1 p2 pos : Pos} {bn : Str} {B : Addr} {mc : Value}
theorem pe_obinit {pl : Sem Bool} (T0 : ExB X.K X.mg bn B mc) (hg : Gl X bn) (ha : PA X (e :: es) ta)
    (hc : eval (.Call (.Attribute (.Name bn p1) "__init__" p2) (e :: es) [] pos) X.env = (do
      let ov ← eval (.Name bn p1) X.env
      standAt p2.atName
      let (f, first) ← holding [ov] (getMethod ov "__init__" pl)
      callWith pos f first (backTo pos (starEach (e :: es) X.env)) (backToKw pos (keywordEach [] X.env))) := by rfl)
    (hdb : (bn == ("__debug__" : Str)) = false := by decide)
    (he : starEach (e :: es) X.env = (false, eval e X.env) :: starEach es X.env := by rfl) (hpl : (backTo pos (starEach es X.env)).any (·.1) = false := by rfl) :
    PE X (.Call (.Attribute (.Name bn p1) "__init__" p2) (e :: es) [] pos) (tVeI X.K ta) := by
  refine ⟨fun pins s σ H Q I h => ?_⟩
  refine PySem.W.methodCall_KW (ld_glob I hg T0.gB ?_ hdb) hc
  refine PySem.W.method_cls I.kIn T0.rd.ga (PySem.W.cls_value I.kIn T0.rd.rd T0.fi (by decide +kernel) ?_)
  show wpAny _ _ (callWith pos (Value.builtin "ValueError.__init__") [] (backTo pos (starEach (e :: es) X.env)) []) _ _ _
  refine PyProof.Rows.callWith_method1 (thn (ha.run pos pins _ σ H _ (I.tok _) h) fun us s1 ⟨vs, H1, I1, r1, a, C, ws, ev, hl, T, ea, q⟩ => ?_) he hpl
  subst ev
  cases r1 with
  | @cons _ u0 _ ur ra rw' =>
    obtain rfl : u0 = Value.ref a := ra
    have hlen : ur.length ≤ sizeLine := by
      rw [← Paired.length rw', sizeLine_eq]
      omega
    exact oinit_ok T I1 ea hlen fun s' J => ⟨.non, H1, J, rfl, q⟩
end
/-- __init__(self, v): the field f is v -/
def spXI1 (C : Addr) (f : Str) : Sp := fun vs H Q _ => ∃ (a : Addr) (v : V), vs = [.ref a, v] ∧ H a = some (exo a C none) ∧ ∀ dx, H dx = none → dx ≠ a → Q .non (upd (upd H dx (exd dx [(f, v)])) a (exo a C (some dx)))
section
variable {X : Cx} {e : Expr} {te : TE} {p pos : Pos} {x f : Str} {C fI : Addr} {fd : FuncData} {k : Nat}
/-- C(e), raised: its own dict is new and holds f -/
def tMk1 (C : Addr) (f : Str) (te : TE) : L2.St → Hp → XK → Prop := fun σ H Q => te σ H fun v H1 => ∀ (d : Addr) (H' : Hp), Fr H1 d → Xb [] H1 H' → H' d = some (.xd [(f, v)]) → Q (.ref C) (some d) H'
theorem pmk_x1 {fs : List Str} (T : ExK X.K X.mg x C fI fs) (F1 : FnOk X.prog X.w X.K X.mg X.base CX0 k fI fd ["self", f] (spXI1 C f)) (hr : Room (k + 1) X.A) (hb : Binds X.K fd ["self", f] []) (hg : Gl X x) (he : PE X e te)
    (hdb : (x == ("__debug__" : Str)) = false := by decide) (hst : starEach [e] X.env = (false, eval e X.env) :: starEach [] X.env := by rfl) (hpl : (backTo pos (starEach [] X.env)).any (·.1) = false := by rfl) :
    PMk X (.Call (.Name x p) [e] [] pos) (tMk1 C f te) := by
  intro pins s σ H Q I h
  refine pmk_oex T.ox T.iC T.tI F1 hr hb .nil pass0 hg T.gC (pa_m (pa_cons he pa_nil hst)) hdb hst hpl pins s σ H Q I ?_
  refine ⟨fun vs H1 => match vs with | [v] => ∀ (d : Addr) (H' : Hp), Fr H1 d → Xb [] H1 H' → H' d = some (.xd [(f, v)]) → Q (.ref C) (some d) H' | _ => False, h, fun vs H1 q => ?_⟩
  match vs, q with
  | [v], q =>
    refine ⟨by show 1 ≤ 1000; decide, fun a ha => ⟨a, v, rfl, upd_same, fun dx hdx hne => ?_⟩⟩
    rw [upd_ne hne] at hdx
    refine ⟨rfl, dx, [(f, v)], upd_same, by rw [upd_ne hne, upd_same], hdx, q dx _ ⟨hdx⟩ ⟨fun c o _ hc => ?_⟩ upd_same⟩
    have n1 : c ≠ dx := ne_of_none hc hdx
    have n2 : c ≠ a := ne_of_none hc ha
    rw [upd_ne n1, del_ne n2, upd_ne n2, upd_ne n1, upd_ne n2]
    exact hc
end
end My

set_option Elab.async false
set_option linter.all false
set_option maxRecDepth 100000
set_option maxHeartbeats 4000000
namespace My
open PySem PySem.Spec PyProof.Rows L2
/-! ### what may be called by its name: defs, classes -/
/-- the value at v may be called with positional values that meet sp -/
def Callee (P : Program) (w : World) (K : PySem.W.Frag) (mg : Str → Option Value) (base : Heap) (k : Nat) (v : Addr) (sp : Sp) : Prop :=
  ∀ (X : Cx) (pins : List (Addr × Obj)) (σ : L2.St) (H : Hp) (s : Shared) (us : List Value) (vs : List V) (Q : VK) (E : XK), X.prog = P → X.w = w → X.K = K → X.mg = mg → X.base = base →
    Room k X.A → PassesAt (L2.CX X.prog X.w) X σ E → Inv X pins σ H s → Vals vs us → sp vs H Q E → wpAny (model X.prog X.w) X.A (call (.ref v) us) (EP X pins σ Q) X.xe s
structure Cf (P : Program) (w : World) (K : PySem.W.Frag) (mg : Str → Option Value) (base : Heap) (k : Nat) (x : Str) (sp : Sp) : Prop where
  ex : ∃ v : Addr, Callee P w K mg base k v sp ∧ mg x = some (.ref v) ∧ PySem.W.keepIn K (.ref v) = true
section
variable {P : Program} {w : World} {K : PySem.W.Frag} {mg : Str → Option Value} {base : Heap} {k : Nat} {v f C : Addr} {x : Str} {sp sp' : Sp}
theorem Callee.imp (c : Callee P w K mg base k v sp) (h : ∀ vs H Q E, sp' vs H Q E → sp vs H Q E) : Callee P w K mg base k v sp' := fun X pins σ H s us vs Q E e1 e2 e3 e4 e5 hr hx I r hs => c X pins σ H s us vs Q E e1 e2 e3 e4 e5 hr hx I r (h _ _ _ _ hs)
theorem Cf.imp (c : Cf P w K mg base k x sp) (h : ∀ vs H Q E, sp' vs H Q E → sp vs H Q E) : Cf P w K mg base k x sp' := by
  obtain ⟨v, c, hm, hk⟩ := c.ex
  exact ⟨v, c.imp h, hm, hk⟩
theorem FnR.or (F : FnR P w K mg base (L2.CX P w) k f sp) (F' : FnR P w K mg base (L2.CX P w) k f sp') : FnR P w K mg base (L2.CX P w) k f (fun vs H Q E => sp vs H Q E ∨ sp' vs H Q E) :=
  fun A outer s H us vs Q E hr e0 r h => h.elim (F A outer s H us vs Q E hr e0 r) (F' A outer s H us vs Q E hr e0 r)
theorem Callee.of_fn (F : FnR P w K mg base (L2.CX P w) k f sp) : Callee P w K mg base k f sp := by
  rintro X pins σ H s us vs Q E rfl rfl rfl rfl rfl hr hx I r h
  refine wpAny_call (codeAny_mono (F X.A X.stack s H us vs Q E hr I.env0 r h) fun r s' hq => ?_)
  cases r with
  | error e => exact hx pins H s e s' I hq
  | ok fl =>
    cases fl with
    | ret u => exact I.after hq
    | next => exact False.elim hq
    | brk => exact False.elim hq
    | cont => exact False.elim hq
/-- a class: its __init__ keeps spI -/
def spMk (C : Addr) (spI : Sp) : Sp := fun vs H Q E => ∀ (a d : Addr) (H2 : Hp), Fr H a → Fr H d → d ≠ a → Xb [] H H2 → H2 a = some (.ins C d []) → H2 d = some (.own a) → spI (.ref a :: vs) H2 (fun v H3 => v = .non ∧ Q (.ref a) H3) E
theorem Callee.of_cls (M : Mk K C f) (F : FnR P w K mg base (L2.CX P w) k f sp) : Callee P w K mg base (k + 1) C (spMk C sp) := by
  rintro X pins σ H s us vs Q E rfl rfl rfl rfl rfl hr hx I r h
  have n1 : H (s.heap.objs.size + 1) = none := I.hok.fresh (Nat.le_succ _)
  have n2 : H s.heap.objs.size = none := I.hok.fresh (Nat.le_refl _)
  have ne : s.heap.objs.size ≠ s.heap.objs.size + 1 := Nat.ne_of_lt (Nat.lt_succ_self _)
  have hq := h (s.heap.objs.size + 1) s.heap.objs.size (upd (upd H s.heap.objs.size (.own (s.heap.objs.size + 1))) (s.heap.objs.size + 1) (.ins C s.heap.objs.size [])) ⟨n1⟩ ⟨n2⟩ ne
    ((Xb.new n2).t0 (Xb.new (by rw [upd_ne (Ne.symm ne)]; exact n1))) upd_same (by rw [upd_ne ne, upd_same])
  have I2 := Inv.made (C := C) I
  have r2 : Vals (V.ref (s.heap.objs.size + 1) :: vs) (Value.ref (s.heap.objs.size + 1) :: us) := .cons rfl r
  refine wpAny_call (make_map (f := f) I.kIn M.makes M.init (beq_iff_eq.mp M.fn) (codeAny_mono (F _ X.stack _ _ (Value.ref (s.heap.objs.size + 1) :: us) _ _ E (hr.make C us []) (I2.env0.make C us []) r2 hq) fun r s' hq' => ?_))
  cases r with
  | error e => exact hx pins _ _ e s' I2 hq'
  | ok fl =>
    cases fl with
    | ret u =>
      obtain ⟨v, H', I3, rv, ev, q3⟩ := I2.after hq'
      subst ev
      exact ⟨rv, ⟨V.ref (s.heap.objs.size + 1), H', I3, rfl, q3⟩⟩
    | next => exact False.elim hq'
    | brk => exact False.elim hq'
    | cont => exact False.elim hq'
end
section
variable {X : Cx} {W : WX} {k j : Nat} {x : Str} {sp : Sp} {p pos : Pos} {e : Expr} {es : List Expr} {t : TA}
theorem passN (σ : L2.St) : PassesAt (L2.CX X.prog X.w) X σ E0 := fun pins H s e s' I h => passL pins σ H s e s' I h
/-- a call that lets nothing out -/
theorem pn (c : Cf X.prog X.w X.K X.mg X.base k x sp) (hr : Room j X.A) (hg : Gl X x) (ha : PA X (e :: es) t) (hk : k ≤ j := by decide)
    (hdb : (x == ("__debug__" : Str)) = false := by decide) (he : starEach (e :: es) X.env = (false, eval e X.env) :: starEach es X.env := by rfl) (hpl : (backTo pos (starEach es X.env)).any (·.1) = false := by rfl) :
    PE X (.Call (.Name x p) (e :: es) [] pos) (fun σ H Q => t σ H fun vs H1 => sp vs H1 Q E0) := by
  obtain ⟨v, c, hm, kp⟩ := c.ex
  refine ⟨fun pins s σ H Q I h => ?_⟩
  refine wpAny_Call_Name_kw (ld_glob I hg hm ?_ hdb)
  refine PySem.W.callWith_K (h₀ := X.base) I.ok.mod.kin kp (thn (ha.run pos pins s σ H _ I h) fun us s1 ⟨vs, H1, I1, r, q⟩ => ⟨I1.kIn, ?_⟩) he hpl
  exact c X pins σ H1 s1 us vs Q E0 rfl rfl rfl rfl rfl (hr.mono hk) (passN σ) I1 r q
theorem pn0 (c : Cf X.prog X.w X.K X.mg X.base k x sp) (hr : Room j X.A) (hg : Gl X x) (hk : k ≤ j := by decide) (hdb : (x == ("__debug__" : Str)) = false := by decide) :
    PE X (.Call (.Name x p) [] [] pos) (fun σ H Q => sp [] H Q E0) := by
  obtain ⟨v, c, hm, kp⟩ := c.ex
  refine ⟨fun pins s σ H Q I h => ?_⟩
  refine wpAny_Call_Name_kw (ld_glob I hg hm ?_ hdb)
  exact PySem.W.callWith_K0 I.kIn kp (c X pins σ H s [] [] Q E0 rfl rfl rfl rfl rfl (hr.mono hk) (passN σ) I .nil h)
/-- a call that may raise -/
theorem px (c : Cf X.prog X.w X.K X.mg X.base k x sp) (hr : Room j X.A) (tk : Takes X W) (hg : Gl X x) (ha : PA X (e :: es) t) (hk : k ≤ j := by decide)
    (hdb : (x == ("__debug__" : Str)) = false := by decide) (he : starEach (e :: es) X.env = (false, eval e X.env) :: starEach es X.env := by rfl) (hpl : (backTo pos (starEach es X.env)).any (·.1) = false := by rfl) :
    PE X (.Call (.Name x p) (e :: es) [] pos) (fun σ H Q => t σ H fun vs H1 => sp vs H1 Q (WE W σ)) := by
  obtain ⟨v, c, hm, kp⟩ := c.ex
  refine ⟨fun pins s σ H Q I h => ?_⟩
  refine wpAny_Call_Name_kw (ld_glob I hg hm ?_ hdb)
  refine PySem.W.callWith_K (h₀ := X.base) I.ok.mod.kin kp (thn (ha.run pos pins s σ H _ I h) fun us s1 ⟨vs, H1, I1, r, q⟩ => ⟨I1.kIn, ?_⟩) he hpl
  exact c X pins σ H1 s1 us vs Q (WE W σ) rfl rfl rfl rfl rfl (hr.mono hk) (passAt tk σ) I1 r q
theorem px0 (c : Cf X.prog X.w X.K X.mg X.base k x sp) (hr : Room j X.A) (tk : Takes X W) (hg : Gl X x) (hk : k ≤ j := by decide) (hdb : (x == ("__debug__" : Str)) = false := by decide) :
    PE X (.Call (.Name x p) [] [] pos) (fun σ H Q => sp [] H Q (WE W σ)) := by
  obtain ⟨v, c, hm, kp⟩ := c.ex
  refine ⟨fun pins s σ H Q I h => ?_⟩
  refine wpAny_Call_Name_kw (ld_glob I hg hm ?_ hdb)
  exact PySem.W.callWith_K0 I.kIn kp (c X pins σ H s [] [] Q (WE W σ) rfl rfl rfl rfl rfl (hr.mono hk) (passAt tk σ) I .nil h)
end
/-! ### facts as Bools -/
def oxB (K : PySem.W.Frag) (C : Addr) : Bool := match K.lookup C with
  | some ⟨.type "type", _, .cls cd, sl⟩ => (match cd.mro, sl.toList with
    | .ref C' :: bm, [_, _, _, _, some (.builtin n), _] => C' == C && n == "ValueError.__new__" && !cd.hasDel && cd.hasDict && refsVE' bm
    | _, _ => false)
  | _ => false
where refsVE' (bm : List Value) : Bool := PySem.HandSPX.refsVE bm
theorem ox_of {K : PySem.W.Frag} {C : Addr} (q : oxB K C = true) : ∃ nm q N bs bm sn sub ab col dd k0 k1 k2 k3 k5, K.lookup C = some (excClassObj nm q C N bs bm true sn sub ab col dd k0 k1 k2 k3 k5 "ValueError.__new__") ∧ PySem.HandSPX.refsVE bm = true := by
  unfold oxB at q
  split at q
  · rename_i dd cd sl ho
    split at q
    · rename_i C' bm k0 k1 k2 k3 n k5 hm hs
      simp only [Bool.and_eq_true, beq_iff_eq, Bool.not_eq_true'] at q
      obtain ⟨⟨⟨⟨rfl, rfl⟩, hdel⟩, hdi⟩, hr⟩ := q
      obtain ⟨nm, bs, mro, ns, qn, hd, sn, sub, ab, col, del⟩ := cd
      dsimp only at hm hdel hdi
      subst hm hdel hdi
      have hsl : sl = #[k0, k1, k2, k3, some (.builtin "ValueError.__new__"), k5] := by
        obtain ⟨l⟩ := sl
        simp only at hs
        rw [hs]
      subst hsl
      exact ⟨_, _, _, _, _, _, _, _, _, _, _, _, _, _, _, ho, hr⟩
    · cases q
  · cases q

theorem ba3 {a b c : Bool} (h : (a && (b && c)) = true) : a = true ∧ b = true ∧ c = true := ⟨(He.ba h).1, (He.ba (He.ba h).2).1, (He.ba (He.ba h).2).2⟩
/-- an own exception class named x with the fields fs -/
def exkB (K : PySem.W.Frag) (x : Str) (fs : List Str) : Bool :=
  oxB K (He.ga K x) && (He.eqO (PySem.W.findIn K (.ref (He.ga K x)) "__setattr__") (some (some (.builtin "object.__setattr__"))) && (decide (PySem.W.subIn K (.ref (He.ga K x)) (.type "BaseException") = some true) &&
  (decide (PySem.W.typeIn K (.ref (He.ga K x)) = some (.type "type")) && (PySem.W.keepIn K (.ref (He.ga K x)) && (xfB K (He.ga K x) && ((fs.all fun f => He.eqO (PySem.W.findIn K (.ref (He.ga K x)) f) (some none)) &&
  (He.eqO (PySem.W.findIn K (.ref (He.ga K x)) "__init__") (some (some (.ref (He.ma K (He.ga K x) "__init__")))) && (decide (PySem.W.typeIn K (.ref (He.ma K (He.ga K x) "__init__")) = some (.type "function")) &&
  (He.eqO (PySem.W.nsIn K mainGlobals x) (some (some (.ref (He.ga K x)))) && decide (PySem.W.exmOne K (.ref (He.ga K x)) (.ref (He.ga K x)) = some true))))))))))
theorem exk_ok {K : PySem.W.Frag} {h : Heap} {mg : Str → Option Value} (X : K.In h) (G : h.Ns mainGlobals mg) {x : Str} {fs : List Str} (c : exkB K x fs = true) : ExK K mg x (He.ga K x) (He.ma K (He.ga K x) "__init__") fs := by
  unfold exkB at c
  simp only [Bool.and_eq_true, decide_eq_true_eq, List.all_eq_true] at c
  obtain ⟨c1, c2, c3, c4, c5, c6, c7, c8, c9, c10, c11⟩ := c
  exact ⟨⟨ox_of c1, He.eqO_ok c2, c3, c4, c5⟩, xfB_ok c6, fun f hf => He.eqO_ok (c7 f hf), He.eqO_ok c8, c9, PySem.W.mg_of X G (He.eqO_ok c10), c11⟩
def exbB (K : PySem.W.Frag) (x : Str) : Bool :=
  He.eqO (PySem.W.nsIn K mainGlobals x) (some (some (.ref (He.ga K x)))) && (PySem.W.readsIn K (He.ga K x) (.type "type") && (He.eqO (PySem.W.specialIn K (.ref (He.ga K x)) "__getattribute__") (some (some (.builtin "type.__getattribute__"))) &&
  (match PySem.W.findCls K (.ref (He.ga K x)) (.type "type") "__init__" with
   | some (.val (.builtin n)) => decide (n = "ValueError.__init__")
   | _ => false)))
theorem exb_ok {K : PySem.W.Frag} {h : Heap} {mg : Str → Option Value} (X : K.In h) (G : h.Ns mainGlobals mg) {x : Str} (c : exbB K x = true) : ExB K mg x (He.ga K x) (.type "type") := by
  unfold exbB at c
  simp only [Bool.and_eq_true] at c
  obtain ⟨c1, c2, c3, c4⟩ := c
  refine ⟨PySem.W.mg_of X G (He.eqO_ok c1), ⟨c2, He.eqO_ok c3⟩, ?_⟩
  revert c4
  split
  · rename_i n e
    intro c
    rw [e, of_decide_eq_true c]
  · intro c
    cases c
/-- a tuple of the module: its items, its object -/
def tupKB (K : PySem.W.Frag) (x : Str) (vs : List He.Dv) : Bool := He.tupB K x vs && He.eqO (PySem.W.nsIn K mainGlobals x) (some (some (.ref (He.ga K x))))
structure TupK (K : PySem.W.Frag) (mg : Str → Option Value) (x : Str) (xs : List V) : Prop where
  ex : ∃ a, mg x = some (.ref a) ∧ (∀ H, SqT K H a xs) ∧ ∃ o, K.lookup a = some o ∧ o.cls = .type "tuple"
theorem TupK.sq {K : PySem.W.Frag} {mg : Str → Option Value} {x : Str} {xs : List V} (t : TupK K mg x xs) (H : Hp) : SqT K H t.ex.choose xs := t.ex.choose_spec.2.1 H
theorem TupK.cl {K : PySem.W.Frag} {mg : Str → Option Value} {x : Str} {xs : List V} (t : TupK K mg x xs) : ∃ o, K.lookup t.ex.choose = some o ∧ o.cls = .type "tuple" := t.ex.choose_spec.2.2
theorem tupK_ok {K : PySem.W.Frag} {h : Heap} {mg : Str → Option Value} (X : K.In h) (G : h.Ns mainGlobals mg) {x : Str} {vs : List He.Dv} (c : tupKB K x vs = true) : TupK K mg x (vs.map (He.Dv.v K)) := by
  obtain ⟨c1, c2⟩ := He.ba c
  refine ⟨_, PySem.W.mg_of X G (He.eqO_ok c2), He.tupB_ok c1, ?_⟩
  have c3 := c1
  unfold He.tupB at c3
  split at c3
  · rename_i cc its n sl q
    exact ⟨_, q, congrArg Value.type (of_decide_eq_true (He.ba c3).1)⟩
  · cases c3
end My

set_option Elab.async false
set_option linter.all false
set_option maxRecDepth 100000
set_option maxHeartbeats 4000000
namespace My
open PySem PySem.Spec PyProof.Rows L2
/-! ### raising own exceptions -/
/-- C(v) may be raised: C has the one field f -/
structure Rz1 (P : Program) (w : World) (K : PySem.W.Frag) (mg : Str → Option Value) (base : Heap) (k : Nat) (x f : Str) : Prop where
  ex : ∃ (fI : Addr) (fd : FuncData) (fs : List Str), ExK K mg x (He.ga K x) fI fs ∧ FnOk P w K mg base CX0 k fI fd ["self", f] (spXI1 (He.ga K x) f) ∧ Binds K fd ["self", f] []
section
variable {X : Cx} {e : Expr} {te : TE} {p pos : Pos} {x f : Str} {k j : Nat}
theorem pz1 (c : Rz1 X.prog X.w X.K X.mg X.base k x f) (hr : Room j X.A) (hg : Gl X x) (he : PE X e te) (hk : k + 1 ≤ j := by decide) (hdb : (x == ("__debug__" : Str)) = false := by decide)
    (hst : starEach [e] X.env = (false, eval e X.env) :: starEach [] X.env := by rfl) (hpl : (backTo pos (starEach [] X.env)).any (·.1) = false := by rfl) : PMk X (.Call (.Name x p) [e] [] pos) (tMk1 (He.ga X.K x) f te) := by
  obtain ⟨fI, fd, fs, T, F, b⟩ := c.ex
  exact pmk_x1 T F (hr.mono hk) b hg he hdb hst hpl
end
/-- __init__(self, v, u): two fields -/
def spXI2 (C : Addr) (f g : Str) : Sp := fun vs H Q _ => ∃ (a : Addr) (v u : V), vs = [.ref a, v, u] ∧ H a = some (exo a C none) ∧ ∀ dx, H dx = none → dx ≠ a → Q .non (upd (upd (upd H dx (exd dx [(f, v)])) a (exo a C (some dx))) dx (exd dx [(g, u), (f, v)]))
structure Rz2 (P : Program) (w : World) (K : PySem.W.Frag) (mg : Str → Option Value) (base : Heap) (k : Nat) (x f g : Str) : Prop where
  ex : ∃ (fI : Addr) (fd : FuncData) (fs : List Str), ExK K mg x (He.ga K x) fI fs ∧ FnOk P w K mg base CX0 k fI fd ["self", f, g] (spXI2 (He.ga K x) f g) ∧ Binds K fd ["self", f, g] []
def tMk2 (C : Addr) (f g : Str) (te tu : TE) : L2.St → Hp → XK → Prop := fun σ H Q => te σ H fun v H1 => tu σ H1 fun u H2 => ∀ (d : Addr) (H' : Hp), Fr H2 d → Xb [] H2 H' → H' d = some (.xd [(g, u), (f, v)]) → Q (.ref C) (some d) H'
section
variable {X : Cx} {e e' : Expr} {te tu : TE} {p pos : Pos} {x f g : Str} {k j : Nat}
theorem pz2 (c : Rz2 X.prog X.w X.K X.mg X.base k x f g) (hr : Room j X.A) (hg : Gl X x) (he : PE X e te) (he' : PE X e' tu) (hk : k + 1 ≤ j := by decide) (hdb : (x == ("__debug__" : Str)) = false := by decide)
    (hst : starEach [e, e'] X.env = (false, eval e X.env) :: starEach [e'] X.env := by rfl) (hst' : starEach [e'] X.env = (false, eval e' X.env) :: starEach [] X.env := by rfl) (hpl : (backTo pos (starEach [e'] X.env)).any (·.1) = false := by rfl) :
    PMk X (.Call (.Name x p) [e, e'] [] pos) (tMk2 (He.ga X.K x) f g te tu) := by
  obtain ⟨fI, fd, fs, T, F1, hb⟩ := c.ex
  intro pins s σ H Q I h
  refine pmk_oex T.ox T.iC T.tI F1 (hr.mono hk) hb .nil pass0 hg T.gC (pa_m (pa_cons (pe_m he) (pa_cons (pe_m he') pa_nil hst') hst)) hdb hst hpl pins s σ H Q I ?_
  refine ⟨fun vs H1 => match vs with | [v, u] => ∀ (d : Addr) (H' : Hp), Fr H1 d → Xb [] H1 H' → H' d = some (.xd [(g, u), (f, v)]) → Q (.ref (He.ga X.K x)) (some d) H' | _ => False, ?_, fun vs H1 q => ?_⟩
  · exact ⟨_, h, fun v H1 q => ⟨_, q, fun u H2 q2 => q2⟩⟩
  · match vs, q with
    | [v, u], q =>
      refine ⟨by show 2 ≤ 1000; decide, fun a ha => ⟨a, v, u, rfl, upd_same, fun dx hdx hne => ?_⟩⟩
      rw [upd_ne hne] at hdx
      refine ⟨rfl, dx, [(g, u), (f, v)], by rw [upd_ne (Ne.symm hne), upd_same], upd_same, hdx, q dx _ ⟨hdx⟩ ⟨fun c o _ hc => ?_⟩ upd_same⟩
      have n1 : c ≠ dx := ne_of_none hc hdx
      have n2 : c ≠ a := ne_of_none hc ha
      rw [upd_ne n1, del_ne n2, upd_ne n1, upd_ne n2, upd_ne n1, upd_ne n2]
      exact hc
end
/-! ### fields of instances -/
section
variable {X : Cx} {o e value : Expr} {f : Str} {pos pos' : Pos} {ta tv : TE} {C : Addr}
theorem px_fld (c : Cls X.K C) (n : NoAttr X.K C f) (he : PE X e ta) (hb : attributeBase e f X.env (eval e X.env) = eval e X.env := by rfl) :
    PE X (.Attribute e f pos) (fun σ H Q => ta σ H fun x H1 => ∃ a dx fs v, x = .ref a ∧ H1 a = some (.ins C dx fs) ∧ fs.lookup f = some v ∧ Q v H1) :=
  pe_imp (pe_fld (pe_m he) hb) fun σ H Q h => ⟨_, h, fun x H1 ⟨a, dx, fs, v, e, ha, l, q⟩ => ⟨a, C, dx, fs, v, e, ha, c, n, l, q⟩⟩
theorem sx_fld (c : Cls X.K C) (n : NoAttr X.K C f) (ha : PE X o ta) (hv : PE X value tv) (hs : swapsWith value (some (.Attribute o f pos')) pos.line X.env = pure false := by rfl) :
    PS X (.Assign [.Attribute o f pos'] value pos) (fun D σ H => tv σ H fun y H1 => ta σ H1 fun x H2 => ∃ a dx fs, x = .ref a ∧ H2 a = some (.ins C dx fs) ∧ fs.length < 1000 ∧ ∀ H3, Xb [a] H2 H3 → H3 a = some (.ins C dx (putF f y fs)) → D.nx σ H3) :=
  ps_imp (ps_fld (pe_m ha) (pe_m hv) hs) fun D σ H h => ⟨_, h, fun y H1 q => ⟨_, q, fun x H2 ⟨a, dx, fs, e, h, n', k⟩ => ⟨a, C, dx, fs, e, h, c, n, n', k _ Xb.put upd_same⟩⟩⟩
end
/-! ### defs with a star parameter -/
theorem bs1 {fd : FuncData} {p1 pv : Str} (h0 : ∀ a, bindArgs fd ⟨[a], []⟩ = (newTuple [] >>= fun t => pure [(p1, a), (pv, t)])) (h1 : ∀ a r rs, bindArgs fd ⟨a :: r :: rs, []⟩ = (newTuple (r :: rs) >>= fun t => pure [(p1, a), (pv, t)])) :
    ∀ us rest : List Value, us.length = [p1].length → bindArgs fd ⟨us ++ rest, []⟩ = (newTuple rest >>= fun t => pure ([p1].zip us ++ [(pv, t)])) := StX.bind_star1 (B := fun us => bindArgs fd ⟨us, []⟩) h0 h1
theorem bs2 {fd : FuncData} {p1 p2 pv : Str} (h0 : ∀ a b, bindArgs fd ⟨[a, b], []⟩ = (newTuple [] >>= fun t => pure [(p1, a), (p2, b), (pv, t)])) (h1 : ∀ a b r rs, bindArgs fd ⟨a :: b :: r :: rs, []⟩ = (newTuple (r :: rs) >>= fun t => pure [(p1, a), (p2, b), (pv, t)])) :
    ∀ us rest : List Value, us.length = [p1, p2].length → bindArgs fd ⟨us ++ rest, []⟩ = (newTuple rest >>= fun t => pure ([p1, p2].zip us ++ [(pv, t)])) := StX.bind_star2 (B := fun us => bindArgs fd ⟨us, []⟩) h0 h1
section
variable {P : Program} {w : World} {K : PySem.W.Frag} {mg : Str → Option Value} {base : Heap} {x qual : Str} {params : Arguments} {body : List Stmt} {scope : Scope} {kws : List (Str × V)} {f : Addr} {fd : FuncData} {N ps : List Str} {pv : Str} {k : Nat} {sp : Sp}
theorem okV (F : FunD K x qual params body scope [] kws f fd) (S : FnScope N (ps ++ [pv]) scope)
    (hb : ∀ (kV doc pm : Value) (an : Option Addr) (cdv ct : Value) (us rest : List Value), us.length = ps.length → bindArgs (PySem.W.fnOf x qual params body scope .none kV doc pm an cdv ct) ⟨us ++ rest, []⟩ = (newTuple rest >>= fun t => pure (ps.zip us ++ [(pv, t)])))
    (hbody : ∀ (cdv : Value) (A : Around) (outer : List Env) (s : Shared) (H : Hp) (vs : List V) (Q : VK) (E : XK), Room k (A.deeper (envOfC qual scope s.heap.objs.size f cdv)) → sp vs H Q E →
      ∃ t, PSs (cxOf (L2.CX P w) P w K mg base N qual scope f cdv A outer s H E) body t ∧ t { nx := fun _ H' => Q .non H', rt := Q } (start N vs) H) :
    FnR P w K mg base (L2.CX P w) (k + 1) f (fun vs H Q E => ∃ ws rest, vs = ws ++ rest ∧ ws.length = ps.length ∧ rest.length ≤ sizeLine ∧ ∀ p H', Fr H p → Xb [] H H' → H' p = some (.tup rest) → sp (ws ++ [V.ref p]) H' Q E) := by
  obtain ⟨oc, od, dV, kV, doc, pm, an, cdv, ct, osl, rfl, lk, hcd, hD, hK⟩ := F.ex
  rcases hD with ⟨_, rfl⟩ | ⟨e, _⟩
  · refine FnR.imp (StX.fn_star (sp := sp) lk hcd S StX.cxUp (hb kV doc pm an cdv ct) fun A outer s H vs Q E hr hsp => hbody cdv A outer s H vs Q E hr hsp) fun vs H Q E ⟨ws, rest, e, hl, hz, q⟩ => ⟨ws, rest, e, hl, hz, fun p hp => q p _ ⟨hp⟩ (Xb.new hp) upd_same⟩
  · exact absurd rfl e
/-- a def without defaults, by positional values -/
theorem okR {CX : CXT} {ps : List Str} (F : FnOk P w K mg base CX k f fd ps sp) (b : Binds K fd ps []) : FnR P w K mg base CX k f sp :=
  FnR.imp (F.raw b .nil) fun vs H Q E h => by
    rw [List.append_nil]
    exact h
end
/-! ### try .. except: readings that may name the context -/
theorem pss_imp {X : Cx} {b : List Stmt} {t t' : TS} (h : PSs X b t) (k : ∀ D σ H, t' D σ H → t D σ H) : PSs X b t' := ⟨fun pins s σ H D I hw => h.run pins s σ H D I (k D σ H hw)⟩
section
variable {X : Cx} {x n : Str} {c : Value} {i : Nat} {body suite : List Stmt} {b₀ : Stmt} {np pos pos' : Pos} {Wout : WX}
  {tb : WX → List (Addr × Obj) → (Value → Shared → Prop) → TS} {ts : Addr → Value → Option Addr → Obj → List (Addr × Obj) → TS}
theorem ps_tryA (hs : X.stack = X.env :: X.outer) (hf : X.env.frame = some X.env.locals) (hN : X.N.Nodup) (hi : X.N[i]? = some n) (hln : X.env.kindOf n = some .local) (hc : Names X x c) (tk : Takes X Wout)
    (hb : ∀ (W : WX) (pn : List (Addr × Obj)) (xe : Value → Shared → Prop), Takes (X.tr pn xe) W → PassesOwn (model X.prog X.w) X.A X.env xe → PSs (X.tr pn xe) body (tb W pn xe))
    (hsu : ∀ (a : Addr) (oe : Obj) (cls : Value) (d : Option Addr) (pn : List (Addr × Obj)), Zc cls d oe → (∃ vs, oe.data = .fields vs) → PSs (X.suite a ((a, oe) :: pn)) (b₀ :: suite) (ts a cls d oe pn)) :
    PS X (.Try body [.ExceptHandler (some (.Name x np)) (some n) (b₀ :: suite) pos'] [] [] pos) (fun D σ H => ∀ pn xe, tb (wAs X.K c i (fun a cls d D σ H => ∀ oe pn, ts a cls d oe pn D σ H) Wout D) pn xe D σ H) :=
  ps_try_as (tb := fun W D σ H => ∀ pn xe, tb W pn xe D σ H) (ts := fun a cls d D σ H => ∀ oe pn, ts a cls d oe pn D σ H) hs hf hN hi hln hc tk
    (fun W pn xe h1 h2 => pss_imp (hb W pn xe h1 h2) fun _ _ _ q => q pn xe) fun a oe cls d pn h1 h2 => pss_imp (hsu a oe cls d pn h1 h2) fun _ _ _ q => q oe pn
theorem ps_tryO (hs : X.stack = X.env :: X.outer) (hf : X.env.frame = some X.env.locals) (hc : Names X x c) (tk : Takes X Wout)
    (hb : ∀ (W : WX) (pn : List (Addr × Obj)) (xe : Value → Shared → Prop), Takes (X.tr pn xe) W → PassesOwn (model X.prog X.w) X.A X.env xe → PSs (X.tr pn xe) body (tb W pn xe))
    (hsu : ∀ (a : Addr) (oe : Obj) (cls : Value) (d : Option Addr) (pn : List (Addr × Obj)), Zc cls d oe → (∃ vs, oe.data = .fields vs) → PSs (X.suite a ((a, oe) :: pn)) (b₀ :: suite) (ts a cls d oe pn)) :
    PS X (.Try body [.ExceptHandler (some (.Name x np)) none (b₀ :: suite) pos'] [] [] pos) (fun D σ H => ∀ pn xe, tb (wOnly X.K c (fun a cls d D σ H => ∀ oe pn, ts a cls d oe pn D σ H) Wout D) pn xe D σ H) :=
  ps_try_only (tb := fun W D σ H => ∀ pn xe, tb W pn xe D σ H) (ts := fun a cls d D σ H => ∀ oe pn, ts a cls d oe pn D σ H) hs hf hc tk
    (fun W pn xe h1 h2 => pss_imp (hb W pn xe h1 h2) fun _ _ _ q => q pn xe) fun a oe cls d pn h1 h2 => pss_imp (hsu a oe cls d pn h1 h2) fun _ _ _ q => q oe pn
end
/-! ### comprehensions: readings that may name the block's context -/
def aE (te : Shared → Hp → Addr → List (Str × Addr) → List Addr → TE) : TE := fun σ H' Q => ∀ s H C cl fp, te s H C cl fp σ H' Q
def aT (tt : Shared → Hp → Addr → List (Str × Addr) → List Addr → TT) : TT := fun σ H' Q => ∀ s H C cl fp, tt s H C cl fp σ H' Q
theorem eA {X : Cx} {scope : Scope} {elt : Expr} {te : Shared → Hp → Addr → List (Str × Addr) → List Addr → TE} (h : ∀ (s : Shared) (H : Hp) (C : Addr) (cl : List (Str × Addr)) (fp : List Addr), PE (X.blk s H scope (compEnvC scope cl C X.env) fp) elt (te s H C cl fp)) :
    ∀ (s : Shared) (H : Hp) (C : Addr) (cl : List (Str × Addr)) (fp : List Addr), PE (X.blk s H scope (compEnvC scope cl C X.env) fp) elt (aE te) :=
  fun s H C cl fp => pe_imp (h s H C cl fp) fun _ _ _ q => q s H C cl fp
theorem tA {X : Cx} {scope : Scope} {ifs : List Expr} {tt : Shared → Hp → Addr → List (Str × Addr) → List Addr → TT} (h : ∀ (s : Shared) (H : Hp) (C : Addr) (cl : List (Str × Addr)) (fp : List Addr), PTs (X.blk s H scope (compEnvC scope cl C X.env) fp) ifs (tt s H C cl fp)) :
    ∀ (s : Shared) (H : Hp) (C : Addr) (cl : List (Str × Addr)) (fp : List Addr), PTs (X.blk s H scope (compEnvC scope cl C X.env) fp) ifs (aT tt) :=
  fun s0 H0 C cl fp => ⟨fun pins s σ H Q I hw => (h s0 H0 C cl fp).run pins s σ H Q I (hw s0 H0 C cl fp)⟩
end My

set_option Elab.async false
set_option linter.all false
set_option maxRecDepth 100000
set_option maxHeartbeats 2000000
/-! the value layer: what a def computes, told by values (trees) and slots; objects that may change stand in slots -/
namespace Vl
open PySem PySem.Spec PyProof.Rows L2 My

/-! ### tables of code objects (of the defs that hold a lambda) -/
/-- where they stand, their names -/
def tabDefs : List ((Str × Option Str) × Str) := [(("passed_rows", none), "passed_rows"), (("Rule", some "in_text"), "Rule.in_text"), (("normal_form", none), "normal_form"), (("sets_of", none), "sets_of")]
def cdAt (K : PySem.W.Frag) (f : Addr) : Option Addr := (K.lookup f).bind fun o => match o.data with
  | .func fd => (match fd.code with | .ref c => some c | _ => none)
  | _ => none
def tbAt (K : PySem.W.Frag) (c : Addr) : Option Addr := (K.lookup c).bind fun o => match o.data with
  | .fields vs => (match (vs[11]? : Option Value) with | some (.ref P) => some P | _ => none)
  | _ => none
def lamQ (q : Str) : Str := q ++ ".<locals>." ++ "<lambda>"
/-- the tables, and the name that each code object in it bears -/
def TK (K : PySem.W.Frag) : List (Addr × Str) := tabDefs.filterMap fun d => ((cdAt K (He.fAd K d.1)).bind (tbAt K)).map fun P => (P, lamQ d.2)
def TabV (I H : Hp) (P : Addr) (q : Str) : Prop := ∃ ps : Array Value, H P = some (.tbl ps) ∧ TriplesOk ps.toList ∧ ∀ (z : Pos) (cv : Value), codeAmong z ps.toList = some cv → ∃ c, cv = .ref c ∧ I c = some (LamX.CodeO c q)
structure TabsV (K : PySem.W.Frag) (I H : Hp) : Prop where
  e : ∀ p ∈ TK K, TabV I H p.1 p.2
/-- no table is frozen -/
structure NoTab (I : Hp) : Prop where
  e : ∀ a ps, I a ≠ some (.tbl ps)
structure NTb (o : HO) : Prop where
  e : ∀ ps, o ≠ .tbl ps
theorem NTb.lst {xs : List V} : NTb (.lst xs) := ⟨fun _ z => nomatch z⟩
theorem NTb.xd {xs : List (Str × V)} : NTb (.xd xs) := ⟨fun _ z => nomatch z⟩
theorem NTb.tup {xs : List V} : NTb (.tup xs) := ⟨fun _ z => nomatch z⟩
theorem NTb.slO {a C dx : Addr} {us : List (Option V)} : NTb (SlX.SlO a C dx us) := ⟨fun _ z => by unfold SlX.SlO at z; cases z⟩
theorem NTb.code {c : Addr} {q : Str} : NTb (LamX.CodeO c q) := ⟨fun ps => LamX.codeO_ne ps⟩
theorem NoTab.upd {I : Hp} {a : Addr} {o : HO} (n : NoTab I) (h : NTb o) : NoTab (upd I a o) := ⟨fun b ps e => by
  by_cases z : b = a
  · subst z; rw [upd_same] at e; exact h.e ps (Option.some.inj e)
  · rw [upd_ne z] at e; exact n.e b ps e⟩
theorem TabV.mono {I H I' H' : Hp} {P : Addr} {q : Str} (t : TabV I H P q) (l : ∀ a o, I a = some o → I' a = some o) (e : ∀ ps, H P = some (.tbl ps) → H' P = some (.tbl ps)) : TabV I' H' P q := by
  obtain ⟨ps, h1, h2, h3⟩ := t
  refine ⟨ps, e ps h1, h2, fun z cv hc => ?_⟩
  obtain ⟨c, e1, e2⟩ := h3 z cv hc
  exact ⟨c, e1, l _ _ e2⟩
theorem TabsV.mono {K : PySem.W.Frag} {I H I' H' : Hp} (t : TabsV K I H) (l : ∀ a o, I a = some o → I' a = some o) (e : ∀ a ps, H a = some (.tbl ps) → H' a = some (.tbl ps)) : TabsV K I' H' :=
  ⟨fun p hp => (t.e p hp).mono l (e p.1)⟩

/-- a value as a tree -/
inductive D where
  | non | bl (b : Bool) | int (i : Int) | str (x : Str)
  | lst (xs : List D) | seq (xs : List D) | tup (xs : List D) | dct (kvs : List (D × D)) | kdc (kvs : List (Str × D))
  | ins (c : Str) (fs : List (Str × D)) | exv (a d : Addr) (c : Str) (fs : List (Str × D)) | cls (c : Str) | raw (v : V)
  | slo (c : Str) (vs : List (Option D))

def kD : Key → D
  | .inl i => .int i
  | .inr x => .str x

/-- a dict of the module, with text keys -/
def DcK (K : PySem.W.Frag) (a : Addr) (kvs : List (Str × V)) : Prop :=
  ∃ (es : Array DictEntry) (n : Nat), K.lookup a = some ⟨.type "dict", none, .dict es n, #[]⟩ ∧ (∀ w : World, PySem.W.KeysLit w.params es.toList) ∧ (a == sysModules) = false ∧
    ∀ z : Str, ∃ r, PySem.W.nsIn K a z = some r ∧ RelO (kvs.lookup z) r

mutual
inductive Rep (K : PySem.W.Frag) (I : Hp) : V → D → Prop
  | non : Rep K I .non .non
  | bl (b : Bool) : Rep K I (.bl b) (.bl b)
  | int (i : Int) : Rep K I (.int i) (.int i)
  | str (x : Str) : Rep K I (.str x) (.str x)
  | lst {a : Addr} {xs : List V} {ds : List D} (h : I a = some (.lst xs)) (r : Reps K I xs ds) : Rep K I (.ref a) (.lst ds)
  | seq {a : Addr} {xs : List V} {ds : List D} (h : SqL K I a xs) (r : Reps K I xs ds) : Rep K I (.ref a) (.seq ds)
  | tup {a : Addr} {xs : List V} {ds : List D} (h : SqT K I a xs) (r : Reps K I xs ds) : Rep K I (.ref a) (.tup ds)
  | dct {a : Addr} {xs : List (Key × V)} {ds : List (D × D)} (h : I a = some (.dK xs)) (r : RepK K I xs ds) : Rep K I (.ref a) (.dct ds)
  | kdc {a : Addr} {xs : List (Str × V)} {ds : List (Str × D)} (h : DcK K a xs) (r : RepF K I xs ds) : Rep K I (.ref a) (.kdc ds)
  | ins {a dx : Addr} {c : Str} {fs : List (Str × V)} {ds : List (Str × D)} (h : I a = some (.ins (He.ga K c) dx fs)) (r : RepF K I fs ds) : Rep K I (.ref a) (.ins c ds)
  | exv {a d : Addr} {c : Str} {fs : List (Str × V)} {ds : List (Str × D)} (h : I d = some (.xd fs)) (r : RepF K I fs ds) : Rep K I (.ref a) (.exv a d c ds)
  | cls (c : Str) : Rep K I (.ref (He.ga K c)) (.cls c)
  | raw (v : V) : Rep K I v (.raw v)
  | slo {a dx : Addr} {c : Str} {us : List (Option V)} {ds : List (Option D)} (h : I a = some (SlX.SlO a (He.ga K c) dx us)) (hd : I dx = some (.xd [])) (r : RepO K I us ds) : Rep K I (.ref a) (.slo c ds)
inductive Reps (K : PySem.W.Frag) (I : Hp) : List V → List D → Prop
  | nil : Reps K I [] []
  | cons {v : V} {d : D} {vs : List V} {ds : List D} (h : Rep K I v d) (t : Reps K I vs ds) : Reps K I (v :: vs) (d :: ds)
inductive RepK (K : PySem.W.Frag) (I : Hp) : List (Key × V) → List (D × D) → Prop
  | nil : RepK K I [] []
  | cons {k : Key} {v : V} {d : D} {vs : List (Key × V)} {ds : List (D × D)} (h : Rep K I v d) (t : RepK K I vs ds) : RepK K I ((k, v) :: vs) ((kD k, d) :: ds)
inductive RepF (K : PySem.W.Frag) (I : Hp) : List (Str × V) → List (Str × D) → Prop
  | nil : RepF K I [] []
  | cons {f : Str} {v : V} {d : D} {vs : List (Str × V)} {ds : List (Str × D)} (h : Rep K I v d) (t : RepF K I vs ds) : RepF K I ((f, v) :: vs) ((f, d) :: ds)
inductive RepO (K : PySem.W.Frag) (I : Hp) : List (Option V) → List (Option D) → Prop
  | nil : RepO K I [] []
  | non {vs : List (Option V)} {ds : List (Option D)} (t : RepO K I vs ds) : RepO K I (none :: vs) (none :: ds)
  | cons {v : V} {d : D} {vs : List (Option V)} {ds : List (Option D)} (h : Rep K I v d) (t : RepO K I vs ds) : RepO K I (some v :: vs) (some d :: ds)
end

/-- I' holds all that I holds -/
def Le (I I' : Hp) : Prop := ∀ a o, I a = some o → I' a = some o
theorem Le.refl (I : Hp) : Le I I := fun _ _ h => h
theorem Le.trans {I J M : Hp} (a : Le I J) (b : Le J M) : Le I M := fun c o h => b c o (a c o h)
theorem Le.sqL {K : PySem.W.Frag} {I I' : Hp} (l : Le I I') {a : Addr} {xs : List V} (h : SqL K I a xs) : SqL K I' a xs := by
  rcases h with (h | ⟨o, h⟩) | h
  · exact .inl (.inl (l _ _ h))
  · exact .inl (.inr ⟨o, l _ _ h⟩)
  · exact .inr h
theorem Le.sqT {K : PySem.W.Frag} {I I' : Hp} (l : Le I I') {a : Addr} {xs : List V} (h : SqT K I a xs) : SqT K I' a xs := by
  rcases h with (h | ⟨o, h⟩) | h
  · exact .inl (.inl (l _ _ h))
  · exact .inl (.inr ⟨o, l _ _ h⟩)
  · exact .inr h
mutual
theorem Rep.mono {K : PySem.W.Frag} {I I' : Hp} (l : Le I I') : ∀ {v : V} {d : D}, Rep K I v d → Rep K I' v d
  | _, _, .non => .non
  | _, _, .bl b => .bl b
  | _, _, .int i => .int i
  | _, _, .str x => .str x
  | _, _, .lst h r => .lst (l _ _ h) (Reps.mono l r)
  | _, _, .seq h r => .seq (l.sqL h) (Reps.mono l r)
  | _, _, .tup h r => .tup (l.sqT h) (Reps.mono l r)
  | _, _, .dct h r => .dct (l _ _ h) (RepK.mono l r)
  | _, _, .kdc h r => .kdc h (RepF.mono l r)
  | _, _, .ins h r => .ins (l _ _ h) (RepF.mono l r)
  | _, _, .exv h r => .exv (l _ _ h) (RepF.mono l r)
  | _, _, .cls c => .cls c
  | _, _, .raw v => .raw v
  | _, _, .slo h hd r => .slo (l _ _ h) (l _ _ hd) (RepO.mono l r)
theorem Reps.mono {K : PySem.W.Frag} {I I' : Hp} (l : Le I I') : ∀ {v : List V} {d : List D}, Reps K I v d → Reps K I' v d
  | _, _, .nil => .nil
  | _, _, .cons h t => .cons (Rep.mono l h) (Reps.mono l t)
theorem RepK.mono {K : PySem.W.Frag} {I I' : Hp} (l : Le I I') : ∀ {v : List (Key × V)} {d : List (D × D)}, RepK K I v d → RepK K I' v d
  | _, _, .nil => .nil
  | _, _, .cons h t => .cons (Rep.mono l h) (RepK.mono l t)
theorem RepF.mono {K : PySem.W.Frag} {I I' : Hp} (l : Le I I') : ∀ {v : List (Str × V)} {d : List (Str × D)}, RepF K I v d → RepF K I' v d
  | _, _, .nil => .nil
  | _, _, .cons h t => .cons (Rep.mono l h) (RepF.mono l t)
theorem RepO.mono {K : PySem.W.Frag} {I I' : Hp} (l : Le I I') : ∀ {v : List (Option V)} {d : List (Option D)}, RepO K I v d → RepO K I' v d
  | _, _, .nil => .nil
  | _, _, .non t => .non (RepO.mono l t)
  | _, _, .cons h t => .cons (Rep.mono l h) (RepO.mono l t)
end
theorem Reps.length {K : PySem.W.Frag} {I : Hp} : ∀ {v : List V} {d : List D}, Reps K I v d → v.length = d.length
  | _, _, .nil => rfl
  | _, _, .cons _ t => congrArg Nat.succ t.length
theorem Reps.get {K : PySem.W.Frag} {I : Hp} : ∀ {vs : List V} {ds : List D} {i : Nat} {d : D}, Reps K I vs ds → ds[i]? = some d → ∃ v, vs[i]? = some v ∧ Rep K I v d
  | _, _, 0, d, .cons h _, e => ⟨_, rfl, by simp at e; exact e ▸ h⟩
  | _, _, i + 1, d, .cons _ t, e => by
    obtain ⟨v, h1, h2⟩ := t.get (i := i) (d := d) (by simpa using e)
    exact ⟨v, by simpa using h1, h2⟩
theorem Reps.append {K : PySem.W.Frag} {I : Hp} : ∀ {vs ws : List V} {ds es : List D}, Reps K I vs ds → Reps K I ws es → Reps K I (vs ++ ws) (ds ++ es)
  | _, _, _, _, .nil, s => s
  | _, _, _, _, .cons h t, s => .cons h (t.append s)
theorem Reps.set {K : PySem.W.Frag} {I : Hp} {v : V} {d : D} (h : Rep K I v d) : ∀ {vs : List V} {ds : List D} (i : Nat), Reps K I vs ds → Reps K I (vs.set i v) (ds.set i d)
  | _, _, _, .nil => .nil
  | _, _, 0, .cons _ t => .cons h t
  | _, _, i + 1, .cons q t => .cons q (t.set h i)
theorem Reps.take {K : PySem.W.Frag} {I : Hp} : ∀ {vs : List V} {ds : List D} (n : Nat), Reps K I vs ds → Reps K I (vs.take n) (ds.take n)
  | _, _, 0, _ => .nil
  | _, _, _ + 1, .nil => .nil
  | _, _, n + 1, .cons h t => .cons h (t.take n)
theorem Reps.drop {K : PySem.W.Frag} {I : Hp} : ∀ {vs : List V} {ds : List D} (n : Nat), Reps K I vs ds → Reps K I (vs.drop n) (ds.drop n)
  | _, _, 0, r => r
  | _, _, _ + 1, .nil => .nil
  | _, _, n + 1, .cons _ t => t.drop n
theorem Reps.one {K : PySem.W.Frag} {I : Hp} {v : V} {d : D} (h : Rep K I v d) : Reps K I [v] [d] := .cons h .nil
theorem Reps.getV {K : PySem.W.Frag} {I : Hp} : ∀ {vs : List V} {ds : List D} {i : Nat} {v : V}, Reps K I vs ds → vs[i]? = some v → ∃ d, ds[i]? = some d ∧ Rep K I v d
  | _, _, 0, d, .cons h _, e => ⟨_, rfl, by simp at e; exact e ▸ h⟩
  | _, _, i + 1, d, .cons _ t, e => by
    obtain ⟨v, h1, h2⟩ := t.getV (i := i) (v := d) (by simpa using e)
    exact ⟨v, by simpa using h1, h2⟩
theorem RepF.get {K : PySem.W.Frag} {I : Hp} {f : Str} : ∀ {fs : List (Str × V)} {ds : List (Str × D)} {d : D}, RepF K I fs ds → ds.lookup f = some d → ∃ v, fs.lookup f = some v ∧ Rep K I v d
  | _, _, d, .nil, e => by simp at e
  | (k, v) :: vs, (_, d') :: ds, d, .cons h t, e => by
    rw [List.lookup_cons] at e
    rw [List.lookup_cons]
    split at e
    · cases e; exact ⟨v, rfl, h⟩
    · exact t.get e
theorem RepF.none {K : PySem.W.Frag} {I : Hp} {f : Str} : ∀ {fs : List (Str × V)} {ds : List (Str × D)}, RepF K I fs ds → ds.lookup f = Option.none → fs.lookup f = Option.none
  | _, _, .nil, e => rfl
  | (k, v) :: vs, (_, d') :: ds, .cons h t, e => by
    rw [List.lookup_cons] at e
    rw [List.lookup_cons]
    split at e
    · cases e
    · exact t.none e
theorem RepF.length {K : PySem.W.Frag} {I : Hp} : ∀ {v : List (Str × V)} {d : List (Str × D)}, RepF K I v d → v.length = d.length
  | _, _, .nil => rfl
  | _, _, .cons _ t => congrArg Nat.succ t.length
/-- a field put, as putF -/
def putD (f : Str) (d : D) : List (Str × D) → List (Str × D)
  | [] => [(f, d)]
  | (g, x) :: r => if g = f then (g, d) :: r else (g, x) :: putD f d r

theorem RepF.put {K : PySem.W.Frag} {I : Hp} {f : Str} {v : V} {d : D} (h : Rep K I v d) : ∀ {fs : List (Str × V)} {ds : List (Str × D)}, RepF K I fs ds → RepF K I (putF f v fs) (putD f d ds)
  | _, _, .nil => .cons h .nil
  | (g, x) :: r, (_, y) :: s, .cons q t => by
    show RepF K I (if g = f then (g, v) :: r else (g, x) :: putF f v r) (if g = f then (g, d) :: s else (g, y) :: putD f d s)
    split
    · exact .cons h t
    · exact .cons q (t.put h)

/-! ### slots -/
inductive Sl where
  | un | val (t : Bool) (d : D) | own (t : Bool) (d : D)
def Sl.tag : Sl → Bool
  | .un => false
  | .val t _ => t
  | .own t _ => t
abbrev Sg := List Sl
/-- an object that may change, at a -/
def OwnAt (K : PySem.W.Frag) (I H : Hp) (a : Addr) : D → Prop
  | .lst ds => ∃ xs, H a = some (.lst xs) ∧ Reps K I xs ds
  | .dct ds => ∃ xs, H a = some (.dK xs) ∧ RepK K I xs ds
  | .ins c ds => ∃ dx fs, H a = some (.ins (He.ga K c) dx fs) ∧ RepF K I fs ds
  | .slo c ds => ∃ dx us, H a = some (SlX.SlO a (He.ga K c) dx us) ∧ I dx = some (.xd []) ∧ RepO K I us ds
  | _ => False
def SlR (K : PySem.W.Frag) (I H : Hp) (o : Option V) : Sl → Prop
  | .un => True
  | .val _ d => ∃ v, o = some v ∧ Rep K I v d
  | .own _ d => ∃ a, o = some (.ref a) ∧ OwnAt K I H a d ∧ I a = none
structure Cfg where
  I : Hp
  σ : L2.St
  H : Hp
  g : Sg
def Cfg.Own (c : Cfg) (a : Addr) : Prop := ∃ (i : Nat) (t : Bool) (d : D), c.g[i]? = some (.own t d) ∧ c.σ[i]? = some (some (.ref a))
structure Ok (K : PySem.W.Frag) (c : Cfg) : Prop where
  sub : Le c.I c.H
  sl : ∀ (i : Nat) (s : Sl), c.g[i]? = some s → ∃ o, c.σ[i]? = some o ∧ SlR K c.I c.H o s
  dist : ∀ (i j : Nat) (t t' : Bool) (d d' : D), c.g[i]? = some (.own t d) → c.g[j]? = some (.own t' d') → c.σ[i]? = c.σ[j]? → i = j
  nt : NoTab c.I
  tab : TabsV K c.I c.H
def Cfg.OwnF (c : Cfg) (a : Addr) : Prop := ∃ (i : Nat) (d : D), c.g[i]? = some (.own false d) ∧ c.σ[i]? = some (some (.ref a))
structure Go (c c' : Cfg) : Prop where
  sub : Le c.I c'.I
  keep : ∀ a o, c.H a = some o → ¬ c.Own a → NTb o → c'.H a = some o
  dom : ∀ a, c'.H a = none → c.H a = none
  grow : ∀ a, c.I a = none → c'.I a ≠ none → c.Own a ∨ c.H a = none
  own : ∀ a, c'.Own a → c.Own a ∨ c.H a = none
  ownf : ∀ a, c'.OwnF a → c.OwnF a ∨ c.H a = none
  tag : ∀ (i : Nat) (s' : Sl), c'.g[i]? = some s' → s'.tag = true → (∃ s, c.g[i]? = some s ∧ s.tag = true) ∧ c'.σ[i]? = c.σ[i]?
theorem Go.refl (c : Cfg) : Go c c := ⟨Le.refl _, fun _ _ h _ _ => h, fun _ h => h, fun _ h h' => (h' h).elim, fun _ h => .inl h, fun _ h => .inl h, fun _ s h t => ⟨⟨s, h, t⟩, rfl⟩⟩
theorem Go.trans {c c1 c2 : Cfg} (x : Go c c1) (y : Go c1 c2) : Go c c2 where
  sub := x.sub.trans y.sub
  keep := fun a o h n nt => y.keep a o (x.keep a o h n nt) (fun q => (x.own a q).elim n fun z => by rw [h] at z; cases z) nt
  dom := fun a h => x.dom a (y.dom a h)
  grow := fun a h h' => by
    by_cases q : c1.I a = none
    · rcases y.grow a q h' with z | z
      · exact x.own a z
      · exact .inr (x.dom a z)
    · exact x.grow a h q
  own := fun a h => by
    rcases y.own a h with z | z
    · exact x.own a z
    · exact .inr (x.dom a z)
  ownf := fun a h => by
    rcases y.ownf a h with z | z
    · exact x.ownf a z
    · exact .inr (x.dom a z)
  tag := fun i s' h t => by
    obtain ⟨⟨s, h1, h2⟩, e⟩ := y.tag i s' h t
    obtain ⟨r, e'⟩ := x.tag i s h1 h2
    exact ⟨r, e.trans e'⟩

/-! ### results -/
/-- what an expression gives: a value; the object of slot i; a new object -/
inductive RV where
  | val (d : D) | at_ (i : Nat) | fr (d : D)
inductive Res (α : Type) where
  | ok (r : α) (g : Sg) | exn (c : Str) (fs : List (Str × D)) (g : Sg) | stuck
def RvR (K : PySem.W.Frag) (c0 c : Cfg) (v : V) : RV → Prop
  | .val d => Rep K c.I v d
  | .at_ i => c.σ[i]? = some (some v)
  | .fr d => ∃ a, v = .ref a ∧ OwnAt K c.I c.H a d ∧ c.I a = none ∧ ¬ c.Own a ∧ c0.H a = none
def XdAt (K : PySem.W.Frag) (c0 c : Cfg) (e : Addr) (fs : List (Str × D)) : Prop := ∃ xs, c.H e = some (.xd xs) ∧ RepF K c.I xs fs ∧ ¬ c.Own e ∧ c.I e = none ∧ c0.H e = none
theorem XdAt.go {K : PySem.W.Frag} {c0 c1 c2 : Cfg} {e : Addr} {fs : List (Str × D)} (x : Go c0 c1) (h : XdAt K c1 c2 e fs) : XdAt K c0 c2 e fs := by
  obtain ⟨xs, h1, h2, h3, h4, h5⟩ := h
  exact ⟨xs, h1, h2, h3, h4, x.dom e h5⟩
/-- how a result's value is told: from where, at where -/
abbrev Rel (γ α : Type) := Cfg → Cfg → γ → α → Prop
class GoR {γ α : Type} (R : Rel γ α) : Prop where
  go : ∀ {c0 c1 c2 : Cfg} {v : γ} {r : α}, Go c0 c1 → R c1 c2 v r → R c0 c2 v r
instance (K : PySem.W.Frag) : GoR (RvR K) := ⟨fun {c0 c1 c2 v r} x h => by
  cases r with
  | val d => exact h
  | at_ i => exact h
  | fr d =>
    obtain ⟨a, e, o, n, w, z⟩ := h
    exact ⟨a, e, o, n, w, x.dom a z⟩⟩
def RbR : Rel Bool Bool := fun _ _ v r => v = r
instance : GoR RbR := ⟨fun _ h => h⟩
/-- what is left to be shown of a result -/
def Rem {γ α : Type} (K : PySem.W.Frag) (W : WX) (R : Rel γ α) (c0 : Cfg) (r : Res α) (Q : γ → Hp → Prop) : Prop := match r with
  | .ok r g => ∀ I H v, Ok K ⟨I, c0.σ, H, g⟩ → Go c0 ⟨I, c0.σ, H, g⟩ → R c0 ⟨I, c0.σ, H, g⟩ v r → Q v H
  | .exn x fs g => ∀ I H e, Ok K ⟨I, c0.σ, H, g⟩ → Go c0 ⟨I, c0.σ, H, g⟩ → XdAt K c0 ⟨I, c0.σ, H, g⟩ e fs → W (.ref (He.ga K x)) (some e) c0.σ H
  | .stuck => False
section
variable {γ α δ β : Type} {K : PySem.W.Frag} {W : WX} {R : Rel γ α} {S : Rel δ β}
/-- from a later place -/
theorem Rem.go [GoR R] {c0 c1 : Cfg} {r : Res α} {Q : γ → Hp → Prop} (x : Go c0 c1) (e : c1.σ = c0.σ) (h : Rem K W R c0 r Q) : Rem K W R c1 r Q := by
  cases r with
  | ok r g => exact fun I H v o y rv => by rw [e] at o y rv; exact h I H v o (x.trans y) (GoR.go x rv)
  | exn c fs g => exact fun I H v o y rv => by rw [e] at o y rv ⊢; exact h I H v o (x.trans y) (rv.go x)
  | stuck => exact h
theorem Rem.mono {c0 : Cfg} {r : Res α} {Q Q' : γ → Hp → Prop} (h : Rem K W R c0 r Q) (m : ∀ v H, Q v H → Q' v H) : Rem K W R c0 r Q' := by
  cases r with
  | ok r g => exact fun I H v o y rv => m v H (h I H v o y rv)
  | exn c fs g => exact h
  | stuck => exact h
def Res.bind {α β : Type} (r : Res α) (k : α → Sg → Res β) : Res β := match r with
  | .ok r g => k r g
  | .exn c fs g => .exn c fs g
  | .stuck => .stuck
/-- the first of two -/
theorem Rem.bind [GoR S] {c0 : Cfg} {r : Res α} {k : α → Sg → Res β} {Q : δ → Hp → Prop} (h : Rem K W S c0 (r.bind k) Q) :
    Rem K W R c0 r fun v H1 => ∃ I1 g1 x, Ok K ⟨I1, c0.σ, H1, g1⟩ ∧ Go c0 ⟨I1, c0.σ, H1, g1⟩ ∧ R c0 ⟨I1, c0.σ, H1, g1⟩ v x ∧ Rem K W S ⟨I1, c0.σ, H1, g1⟩ (k x g1) Q := by
  cases r with
  | ok x g => exact fun I H v o y rv => ⟨I, g, x, o, y, rv, Rem.go (c0 := c0) (c1 := ⟨I, c0.σ, H, g⟩) y rfl h⟩
  | exn c fs g => exact h
  | stuck => exact h
end
abbrev Ft := Sg → Res RV
abbrev Fb := Sg → Res Bool
def rdE (K : PySem.W.Frag) (W : WX) (f : Ft) : TE := fun σ H Q => ∃ I g, Ok K ⟨I, σ, H, g⟩ ∧ Rem K W (RvR K) ⟨I, σ, H, g⟩ (f g) Q
structure VE (X : Cx) (W : WX) (e : Expr) (f : Ft) : Prop where
  pe : PE X e (rdE X.K W f)
def rdT (K : PySem.W.Frag) (W : WX) (f : Fb) : TT := fun σ H Q => ∃ I g, Ok K ⟨I, σ, H, g⟩ ∧ Rem K W RbR ⟨I, σ, H, g⟩ (f g) Q
structure VT (X : Cx) (W : WX) (e : Expr) (f : Fb) : Prop where
  pt : PT X e (rdT X.K W f)

theorem no_some {α : Type} {x : Option α} {u : α} (a : x = none) (b : x = some u) : False := by rw [a] at b; cases b
/-! ### freezing -/
theorem OwnAt.some {K : PySem.W.Frag} {I H : Hp} {a : Addr} {d : D} (h : OwnAt K I H a d) : ∃ o, H a = some o := by
  cases d <;> first | exact (False.elim h) | skip
  · obtain ⟨xs, e, _⟩ := h; exact ⟨_, e⟩
  · obtain ⟨xs, e, _⟩ := h; exact ⟨_, e⟩
  · obtain ⟨dx, fs, e, _⟩ := h; exact ⟨_, e⟩
  · obtain ⟨dx, fs, e, _⟩ := h; exact ⟨_, e⟩
theorem OwnAt.ntb {K : PySem.W.Frag} {I H : Hp} {a : Addr} {d : D} {o : HO} (h : OwnAt K I H a d) (e : H a = Option.some o) : NTb o := by
  cases d <;> first | exact (False.elim h) | skip
  · obtain ⟨xs, q, _⟩ := h; rw [e] at q; cases q; exact ⟨fun _ z => nomatch z⟩
  · obtain ⟨xs, q, _⟩ := h; rw [e] at q; cases q; exact ⟨fun _ z => nomatch z⟩
  · obtain ⟨dx, fs, q, _⟩ := h; rw [e] at q; cases q; exact ⟨fun _ z => nomatch z⟩
  · obtain ⟨dx, fs, q, _⟩ := h; rw [e] at q; cases q; exact NTb.slO
theorem OwnAt.mono {K : PySem.W.Frag} {I I' H H' : Hp} {a : Addr} {d : D} (l : Le I I') (e : H' a = H a) (h : OwnAt K I H a d) : OwnAt K I' H' a d := by
  cases d <;> first | exact (False.elim h) | skip
  · obtain ⟨xs, q, r⟩ := h; exact ⟨xs, e.trans q, r.mono l⟩
  · obtain ⟨xs, q, r⟩ := h; exact ⟨xs, e.trans q, r.mono l⟩
  · obtain ⟨dx, fs, q, r⟩ := h; exact ⟨dx, fs, e.trans q, r.mono l⟩
  · obtain ⟨dx, fs, q, hd, r⟩ := h; exact ⟨dx, fs, e.trans q, l _ _ hd, r.mono l⟩
theorem OwnAt.rep {K : PySem.W.Frag} {I I' H : Hp} {a : Addr} {d : D} (l : Le I I') (e : I' a = H a) (h : OwnAt K I H a d) : Rep K I' (.ref a) d := by
  cases d <;> first | exact (False.elim h) | skip
  · obtain ⟨xs, q, r⟩ := h; exact .lst (e.trans q) (r.mono l)
  · obtain ⟨xs, q, r⟩ := h; exact .dct (e.trans q) (r.mono l)
  · obtain ⟨dx, fs, q, r⟩ := h; exact .ins (e.trans q) (r.mono l)
  · obtain ⟨dx, fs, q, hd, r⟩ := h; exact .slo (e.trans q) (l _ _ hd) (r.mono l)
theorem Le.upd {I : Hp} {a : Addr} {o : HO} (h : I a = none) : Le I (upd I a o) := fun b u e => by
  rw [upd_ne (ne_of_none e h)]; exact e
theorem SlR.mono {K : PySem.W.Frag} {I I' H H' : Hp} {o : Option V} {s : Sl} (l : Le I I') (hk : ∀ a t d, s = .own t d → o = some (.ref a) → H' a = H a ∧ I' a = none) (h : SlR K I H o s) : SlR K I' H' o s := by
  cases s with
  | un => trivial
  | val t d => obtain ⟨v, e, r⟩ := h; exact ⟨v, e, r.mono l⟩
  | own t d =>
    obtain ⟨a, e, r, n⟩ := h
    obtain ⟨h1, h2⟩ := hk a t d rfl e
    exact ⟨a, e, r.mono l h1, h2⟩
/-- the slots stay, the heaps grow at what no slot owns -/
theorem Ok.grow {K : PySem.W.Frag} {I I' H H' : Hp} {σ : L2.St} {g : Sg} (o : Ok K ⟨I, σ, H, g⟩) (l : Le I I') (s : Le I' H') (hk : ∀ a, Cfg.Own ⟨I, σ, H, g⟩ a → H' a = H a ∧ I' a = none) (nt : NoTab I') (tb : ∀ a ps, H a = some (.tbl ps) → H' a = some (.tbl ps)) : Ok K ⟨I', σ, H', g⟩ where
  nt := nt
  tab := o.tab.mono l tb
  sub := s
  sl := fun i s h => by
    obtain ⟨v, e, r⟩ := o.sl i s h
    exact ⟨v, e, r.mono l fun a t d es ev => hk a ⟨i, t, d, by rw [← es]; exact h, by rw [← ev]; exact e⟩⟩
  dist := o.dist
theorem Ok.frz {K : PySem.W.Frag} {I H : Hp} {σ : L2.St} {g : Sg} {a : Addr} {u : HO} (o : Ok K ⟨I, σ, H, g⟩) (h : H a = some u) (n : I a = none) (w : ¬ Cfg.Own ⟨I, σ, H, g⟩ a) (nt : NTb u) : Ok K ⟨upd I a u, σ, H, g⟩ := by
  refine o.grow (Le.upd n) (fun b v e => ?_) (fun b hb => ⟨rfl, ?_⟩) (o.nt.upd nt) (fun _ _ e => e)
  · by_cases z : b = a
    · subst z; rw [upd_same] at e; rw [← e]; exact h
    · rw [upd_ne z] at e; exact o.sub b v e
  · rw [upd_ne (show b ≠ a from fun z => by subst z; exact w hb)]
    obtain ⟨i, t, d, h1, h2⟩ := hb
    obtain ⟨v, e1, b', e2, _, r⟩ := o.sl i _ h1
    have h2 : σ[i]? = some (some (V.ref b)) := h2
    have e1 : σ[i]? = some v := e1
    rw [h2] at e1
    cases e1
    cases e2
    exact r
theorem Go.frz {I H : Hp} {σ : L2.St} {g : Sg} {a : Addr} {u : HO} {c0 : Cfg} (x : Go c0 ⟨I, σ, H, g⟩) (n : I a = none) (z : c0.H a = none) : Go c0 ⟨upd I a u, σ, H, g⟩ where
  sub := x.sub.trans (Le.upd n)
  keep := x.keep
  dom := x.dom
  grow := fun b h h' => by
    by_cases e : b = a
    · subst e; exact .inr z
    · exact x.grow b h fun q => h' (show upd I a u b = none by rw [upd_ne e]; exact q)
  own := x.own
  ownf := x.ownf
  tag := x.tag
/-- a new object becomes a value -/
def settle (r : Res RV) : Res RV := match r with
  | .ok (.fr d) g => .ok (.val d) g
  | r => r
theorem Rem.settle {K : PySem.W.Frag} {W : WX} {c0 : Cfg} {r : Res RV} {Q : VK} (h : Rem K W (RvR K) c0 (settle r) Q) : Rem K W (RvR K) c0 r Q := by
  cases r with
  | ok x g =>
    cases x with
    | fr d =>
      rintro I H v o y ⟨a, rfl, ha, n, w, z⟩
      obtain ⟨u, hu⟩ := ha.some
      exact h (upd I a u) H (.ref a) (o.frz hu n w (ha.ntb hu)) (y.frz n z) (ha.rep (Le.upd n) (upd_same.trans hu.symm))
    | val d => exact h
    | at_ i => exact h
  | exn c fs g => exact h
  | stuck => exact h
theorem VE.settle {X : Cx} {W : WX} {e : Expr} {f : Ft} (h : VE X W e f) : VE X W e fun g => Vl.settle (f g) :=
  ⟨pe_imp h.pe fun σ H Q ⟨I, g, o, r⟩ => ⟨I, g, o, Rem.settle r⟩⟩

/-! ### operands -/
def deref (g : Sg) : RV → Option D
  | .val d => some d
  | .fr d => some d
  | .at_ i => match g[i]? with
    | some (.own _ d) => some d
    | some (.val _ d) => some d
    | _ => none
/-- v can be read as d -/
def RdD (K : PySem.W.Frag) (c : Cfg) (v : V) (d : D) : Prop := Rep K c.I v d ∨ ∃ a, v = .ref a ∧ OwnAt K c.I c.H a d
theorem deref_rd {K : PySem.W.Frag} {c0 c : Cfg} {v : V} {r : RV} {d : D} (o : Ok K c) (h : RvR K c0 c v r) (e : deref c.g r = some d) : RdD K c v d := by
  cases r with
  | val x => cases e; exact .inl h
  | fr x => cases e; obtain ⟨a, e, q, _⟩ := h; exact .inr ⟨a, e, q⟩
  | at_ i =>
    simp only [deref] at e
    have h : c.σ[i]? = some (some v) := h
    split at e
    · cases e
      rename_i t d' q
      obtain ⟨u, e1, a, e2, r, n⟩ := o.sl i _ q
      rw [h] at e1
      cases e1
      cases e2
      exact .inr ⟨a, rfl, r⟩
    · cases e
      rename_i t d' q
      obtain ⟨u, e1, w, e2, r⟩ := o.sl i _ q
      rw [h] at e1
      cases e1
      cases e2
      exact .inl r
    · cases e
section
variable {K : PySem.W.Frag} {c : Cfg} {v : V}
theorem RdD.int {i : Int} (h : RdD K c v (.int i)) : v = .int i := by
  rcases h with h | ⟨a, e, h⟩
  · cases h; rfl
  · exact h.elim
theorem RdD.str {i : Str} (h : RdD K c v (.str i)) : v = .str i := by
  rcases h with h | ⟨a, e, h⟩
  · cases h; rfl
  · exact h.elim
theorem RdD.bl {i : Bool} (h : RdD K c v (.bl i)) : v = .bl i := by
  rcases h with h | ⟨a, e, h⟩
  · cases h; rfl
  · exact h.elim
theorem RdD.non (h : RdD K c v .non) : v = .non := by
  rcases h with h | ⟨a, e, h⟩
  · cases h; rfl
  · exact h.elim
theorem RdD.lst {ds : List D} (o : Ok K c) (h : RdD K c v (.lst ds)) : ∃ a xs, v = .ref a ∧ c.H a = some (.lst xs) ∧ Reps K c.I xs ds := by
  rcases h with h | ⟨a, e, h⟩
  · cases h with
    | lst q r => exact ⟨_, _, rfl, o.sub _ _ q, r⟩
  · obtain ⟨xs, q, r⟩ := h
    exact ⟨a, xs, e, q, r⟩
theorem RdD.seq {ds : List D} (o : Ok K c) (h : RdD K c v (.seq ds)) : ∃ a xs, v = .ref a ∧ SqL K c.H a xs ∧ Reps K c.I xs ds := by
  rcases h with h | ⟨a, e, h⟩
  · cases h with
    | seq q r => exact ⟨_, _, rfl, o.sub.sqL q, r⟩
  · exact h.elim
theorem RdD.tup {ds : List D} (o : Ok K c) (h : RdD K c v (.tup ds)) : ∃ a xs, v = .ref a ∧ SqT K c.H a xs ∧ Reps K c.I xs ds := by
  rcases h with h | ⟨a, e, h⟩
  · cases h with
    | tup q r => exact ⟨_, _, rfl, o.sub.sqT q, r⟩
  · exact h.elim
theorem RdD.ins {x : Str} {ds : List (Str × D)} (o : Ok K c) (h : RdD K c v (.ins x ds)) : ∃ a dx fs, v = .ref a ∧ c.H a = some (.ins (He.ga K x) dx fs) ∧ RepF K c.I fs ds := by
  rcases h with h | ⟨a, e, h⟩
  · cases h with
    | ins q r => exact ⟨_, _, _, rfl, o.sub _ _ q, r⟩
  · obtain ⟨dx, fs, q, r⟩ := h
    exact ⟨a, dx, fs, e, q, r⟩
theorem RdD.slo {x : Str} {ds : List (Option D)} (o : Ok K c) (h : RdD K c v (.slo x ds)) : ∃ a dx us, v = .ref a ∧ c.H a = some (SlX.SlO a (He.ga K x) dx us) ∧ c.H dx = some (.xd []) ∧ RepO K c.I us ds := by
  rcases h with h | ⟨a, e, h⟩
  · cases h with
    | slo q hd r => exact ⟨_, _, _, rfl, o.sub _ _ q, o.sub _ _ hd, r⟩
  · obtain ⟨dx, us, q, hd, r⟩ := h
    exact ⟨a, dx, us, e, q, o.sub _ _ hd, r⟩
theorem RdD.dct {ds : List (D × D)} (o : Ok K c) (h : RdD K c v (.dct ds)) : ∃ a xs, v = .ref a ∧ c.H a = some (.dK xs) ∧ RepK K c.I xs ds := by
  rcases h with h | ⟨a, e, h⟩
  · cases h with
    | dct q r => exact ⟨_, _, rfl, o.sub _ _ q, r⟩
  · obtain ⟨fs, q, r⟩ := h
    exact ⟨a, fs, e, q, r⟩
theorem RdD.kdc {ds : List (Str × D)} (h : RdD K c v (.kdc ds)) : ∃ a xs, v = .ref a ∧ DcK K a xs ∧ RepF K c.I xs ds := by
  rcases h with h | ⟨a, e, h⟩
  · cases h with
    | kdc q r => exact ⟨_, _, rfl, q, r⟩
  · exact h.elim
end
/-- what is wanted behind an operation on values -/
def Gives (K : PySem.W.Frag) (c : Cfg) (p : Option RV) (Q : VK) : Prop := match p with
  | some r => ∀ I H v, Ok K ⟨I, c.σ, H, c.g⟩ → Go c ⟨I, c.σ, H, c.g⟩ → RvR K c ⟨I, c.σ, H, c.g⟩ v r → Q v H
  | none => False
theorem Gives.now {K : PySem.W.Frag} {c : Cfg} {r : RV} {Q : VK} (h : Gives K c (some r) Q) (o : Ok K c) {v : V} (rv : RvR K c c v r) : Q v c.H := h c.I c.H v o (Go.refl c) rv
theorem Ok.new {K : PySem.W.Frag} {I H H' : Hp} {σ : L2.St} {g : Sg} (o : Ok K ⟨I, σ, H, g⟩) (x : Xb [] H H') : Ok K ⟨I, σ, H', g⟩ := by
  refine o.grow (Le.refl I) (fun b v e => x.get0 (o.sub b v e)) (fun a ha => ?_) o.nt (fun a ps e => x.get0 e)
  obtain ⟨i, t, d, h1, h2⟩ := ha
  obtain ⟨v, e1, b', e2, r, n⟩ := o.sl i _ h1
  have h2 : σ[i]? = some (some (V.ref a)) := h2
  have e1 : σ[i]? = some v := e1
  rw [h2] at e1
  cases e1
  cases e2
  obtain ⟨u, hu⟩ := r.some
  exact ⟨(x.get0 hu).trans hu.symm, n⟩
theorem Go.new {I H H' : Hp} {σ : L2.St} {g : Sg} (x : Xb [] H H') : Go ⟨I, σ, H, g⟩ ⟨I, σ, H', g⟩ := by
  refine ⟨Le.refl I, fun a o h _ _ => x.get0 h, fun a h => ?_, fun _ h h' => (h' h).elim, fun _ h => .inl h, fun _ h => .inl h, fun _ s h t => ⟨⟨s, h, t⟩, rfl⟩⟩
  exact x.free (fun q => nomatch q) h
/-- what a slot owns stands there -/
theorem Ok.own_some {K : PySem.W.Frag} {c : Cfg} {a : Addr} (o : Ok K c) (h : c.Own a) : ∃ u, c.H a = some u := by
  obtain ⟨i, t, d, h1, h2⟩ := h
  obtain ⟨v, e1, b', e2, r, n⟩ := o.sl i _ h1
  rw [h2] at e1
  cases e1
  cases e2
  exact r.some
theorem Ok.own_free {K : PySem.W.Frag} {c : Cfg} {a : Addr} (o : Ok K c) (h : c.Own a) : c.I a = none := by
  obtain ⟨i, t, d, h1, h2⟩ := h
  obtain ⟨v, e1, b', e2, r, n⟩ := o.sl i _ h1
  rw [h2] at e1
  cases e1
  cases e2
  exact n
/-- a new object -/
theorem Gives.fresh {K : PySem.W.Frag} {c : Cfg} {d : D} {Q : VK} (h : Gives K c (some (.fr d)) Q) (o : Ok K c) {p : Addr} {H' : Hp} (fr : Fr c.H p) (x : Xb [] c.H H') (w : OwnAt K c.I H' p d) : Q (.ref p) H' := by
  obtain ⟨I, σ, H, g⟩ := c
  have n : I p = none := by
    cases e : I p with
    | none => rfl
    | some u => exact (no_some fr.e (o.sub p u e)).elim
  refine h I H' (.ref p) (o.new x) (Go.new x) ⟨p, rfl, w, n, fun q => ?_, fr.e⟩
  obtain ⟨u, hu⟩ := o.own_some (a := p) q
  exact no_some fr.e hu
/-- .. that is a value at once (a tuple) -/
theorem Gives.froz {K : PySem.W.Frag} {c : Cfg} {d : D} {Q : VK} (h : Gives K c (some (.val d)) Q) (o : Ok K c) {p : Addr} {H' : Hp} {u : HO} (fr : Fr c.H p) (x : Xb [] c.H H') (hp : H' p = some u) (nt : NTb u)
    (w : ∀ I', Le c.I I' → I' p = some u → Rep K I' (.ref p) d) : Q (.ref p) H' := by
  obtain ⟨I, σ, H, g⟩ := c
  have n : I p = none := by
    cases e : I p with
    | none => rfl
    | some u => exact (no_some fr.e (o.sub p u e)).elim
  have nw : ¬ Cfg.Own ⟨I, σ, H', g⟩ p := fun q => by
    obtain ⟨v, hv⟩ := o.own_some (a := p) q
    exact no_some fr.e hv
  exact h (upd I p u) H' (.ref p) ((o.new x).frz hp n nw nt) ((Go.new x).frz n fr.e) (w _ (Le.upd n) upd_same)
def lift1 (p : D → Option RV) (x : RV) (g : Sg) : Res RV := match deref g x with
  | some a => (match p a with | some r => .ok r g | none => .stuck)
  | none => .stuck
def lift2 (p : D → D → Option RV) (x y : RV) (g : Sg) : Res RV := match deref g x, deref g y with
  | some a, some b => (match p a b with | some r => .ok r g | none => .stuck)
  | _, _ => .stuck
theorem gives_of {K : PySem.W.Frag} {W : WX} {c : Cfg} {p : Option RV} {Q : VK} (h : Rem K W (RvR K) c (match p with | some r => .ok r c.g | none => .stuck) Q) : Gives K c p Q := by
  cases p with
  | none => exact h
  | some r => exact h
theorem lift2_gives {K : PySem.W.Frag} {W : WX} {c c1 c3 : Cfg} {p : D → D → Option RV} {x y : RV} {v u : V} {Q : VK} (o : Ok K c) (rx : RvR K c1 c v x) (ry : RvR K c3 c u y) (h : Rem K W (RvR K) c (lift2 p x y c.g) Q) :
    ∃ a b, RdD K c v a ∧ RdD K c u b ∧ Gives K c (p a b) Q := by
  unfold lift2 at h
  split at h
  · rename_i a b ea eb
    exact ⟨a, b, deref_rd o rx ea, deref_rd o ry eb, gives_of h⟩
  · exact h.elim
theorem lift1_gives {K : PySem.W.Frag} {W : WX} {c c1 : Cfg} {p : D → Option RV} {x : RV} {v : V} {Q : VK} (o : Ok K c) (rx : RvR K c1 c v x) (h : Rem K W (RvR K) c (lift1 p x c.g) Q) :
    ∃ a, RdD K c v a ∧ Gives K c (p a) Q := by
  unfold lift1 at h
  split at h
  · rename_i a ea
    exact ⟨a, deref_rd o rx ea, gives_of h⟩
  · exact h.elim
/-- an operand's value stays readable -/
theorem RvR.on {K : PySem.W.Frag} {c0 c1 c2 : Cfg} {v : V} {r : RV} (o2 : Ok K c2) (e : c2.σ = c1.σ) (x : Go c1 c2) (h : RvR K c0 c1 v r) : RvR K c0 c2 v r := by
  cases r with
  | val d => exact Rep.mono x.sub h
  | at_ i => exact (show c2.σ[i]? = some (some v) by rw [e]; exact h)
  | fr d =>
    obtain ⟨a, ev, q, n, w, z⟩ := h
    obtain ⟨u, hu⟩ := q.some
    refine ⟨a, ev, q.mono x.sub ((x.keep a u hu w (q.ntb hu)).trans hu.symm), ?_, fun k => ?_, z⟩
    · cases q2 : c2.I a with
      | none => rfl
      | some o =>
        rcases x.grow a n (by rw [q2]; exact fun z => nomatch z) with k | k
        · exact (w k).elim
        · rw [k] at hu; cases hu
    · rcases x.own a k with k | k
      · exact w k
      · rw [k] at hu; cases hu
/-- an operation on two values -/
def op2 (p : D → D → Option RV) (fa fb : Ft) : Ft := fun g => (settle (fa g)).bind fun x g1 => (settle (fb g1)).bind fun y g2 => lift2 p x y g2
def op1 (p : D → Option RV) (fa : Ft) : Ft := fun g => (settle (fa g)).bind fun x g1 => lift1 p x g1
theorem rd2 {K : PySem.W.Frag} {W : WX} {fa fb : Ft} {p : D → D → Option RV} {σ : L2.St} {H : Hp} {Q : VK} {R : V → V → Hp → Prop} (h : rdE K W (op2 p fa fb) σ H Q)
    (hr : ∀ c v u a b, c.σ = σ → Ok K c → RdD K c v a → RdD K c u b → Gives K c (p a b) Q → R v u c.H) :
    rdE K W fa σ H fun v H1 => rdE K W fb σ H1 fun u H2 => R v u H2 := by
  obtain ⟨I, g, o, r⟩ := h
  refine ⟨I, g, o, Rem.settle ((Rem.bind (R := RvR K) r).mono ?_)⟩
  rintro v H1 ⟨I1, g1, x, o1, y1, rx, r1⟩
  refine ⟨I1, g1, o1, Rem.settle ((Rem.bind (R := RvR K) r1).mono ?_)⟩
  rintro u H2 ⟨I2, g2, y, o2, y2, ry, r2⟩
  obtain ⟨a, b, ha, hb, q⟩ := lift2_gives o2 (RvR.on (c1 := ⟨I1, σ, H1, g1⟩) o2 rfl y2 rx) ry r2
  exact hr ⟨I2, σ, H2, g2⟩ v u a b rfl o2 ha hb q
end Vl

set_option Elab.async false
set_option linter.all false
set_option maxRecDepth 100000
set_option maxHeartbeats 2000000
/-! the value layer: rules of expressions -/
namespace Vl
open PySem PySem.Spec PyProof.Rows L2 My
section
variable {X : Cx} {W : WX} {e a b c : Expr} {fa fb fc f : Ft} {ta tb tc t : Fb} {pos : Pos}

/-! ### names, constants -/
def nameF (i : Nat) : Ft := fun g => match g[i]? with
  | some (.val _ d) => .ok (.val d) g
  | some (.own _ _) => .ok (.at_ i) g
  | _ => .stuck
theorem ve_name (i : Nat) (h : PE X e (tVar i)) : VE X W e (nameF i) := ⟨pe_imp h fun σ H Q ⟨I, g, o, r⟩ => by
  unfold nameF at r
  split at r
  · rename_i t d q
    obtain ⟨u, e1, v, e2, rv⟩ := o.sl i _ q
    cases e2
    exact ⟨v, e1, r I H v o (Go.refl _) rv⟩
  · rename_i t d q
    obtain ⟨u, e1, v, e2, rv⟩ := o.sl i _ q
    cases e2
    exact ⟨.ref v, e1, r I H (.ref v) o (Go.refl _) e1⟩
  · exact r.elim⟩
def cF (d : D) : Ft := fun g => .ok (.val d) g
theorem ve_c {v : V} {d : D} (h : PE X e (tC v)) (r : ∀ I, Rep X.K I v d) : VE X W e (cF d) := ⟨pe_imp h fun σ H Q ⟨I, g, o, q⟩ => q I H v o (Go.refl _) (r I)⟩
theorem ve_int {i : Int} {j} : VE X W (.Constant (.int i) j pos) (cF (.int i)) := ve_c pe_int fun _ => .int i
theorem ve_str {i : Str} {j} : VE X W (.Constant (.str i) j pos) (cF (.str i)) := ve_c pe_str fun _ => .str i
theorem ve_bl {i : Bool} {j} : VE X W (.Constant (.bool i) j pos) (cF (.bl i)) := ve_c pe_bl fun _ => .bl i
theorem ve_non {j} : VE X W (.Constant .none j pos) (cF .non) := ve_c pe_non fun _ => .non

/-! ### operations on two values, on one -/
structure P2 (X : Cx) (f : Value → Value → Sem Value) (p : D → D → Option RV) : Prop where
  ex : ∃ r : R2, OpR X f r ∧ ∀ c v u a b Q, Ok X.K c → RdD X.K c v a → RdD X.K c u b → Gives X.K c (p a b) Q → r v u c.H Q
theorem OpR.or {f : Value → Value → Sem Value} {r r' : R2} (h : OpR X f r) (h' : OpR X f r') : OpR X f (fun x y H Q => r x y H Q ∨ r' x y H Q) :=
  fun pins s σ H x y v u Q I rx ry k => k.elim (h pins s σ H x y v u Q I rx ry) (h' pins s σ H x y v u Q I rx ry)
theorem ve_bin {op : Operator} {p : D → D → Option RV} (h : P2 X (binaryOp op) p) (ha : VE X W a fa) (hb : VE X W b fb) : VE X W (.BinOp a op b pos) (op2 p fa fb) := by
  obtain ⟨r, hr, k⟩ := h.ex
  exact ⟨pe_imp (pe_op hr ha.pe hb.pe) fun σ H Q q => rd2 q fun c v u a b _ o ra rb g => k c v u a b Q o ra rb g⟩
theorem ve_cmp {op : CmpOp} {p : D → D → Option RV} (h : P2 X (compareOp op) p) (ha : VE X W a fa) (hb : VE X W b fb) (hm : behindInMarks op b = false) : VE X W (.Compare a [op] [b] pos) (op2 p fa fb) := by
  obtain ⟨r, hr, k⟩ := h.ex
  exact ⟨pe_imp (pe_cmpR hr ha.pe hb.pe hm) fun σ H Q q => rd2 q fun c v u a b _ o ra rb g => k c v u a b Q o ra rb g⟩
/-- a value that is a bool -/
def blF (f : Ft) : Fb := fun g => (f g).bind fun x g1 => match x with
  | .val (.bl b) => .ok b g1
  | _ => .stuck
theorem blF_rem {K : PySem.W.Frag} {c0 : Cfg} {r : Res RV} {Q : Bool → Hp → Prop} (h : Rem K W RbR c0 (r.bind fun x g1 => match x with
  | .val (.bl b) => .ok b g1
  | _ => .stuck) Q) : Rem K W (RvR K) c0 r fun x H' => ∃ k, x = .bl k ∧ Q k H' := by
  refine (Rem.bind (R := RvR K) h).mono ?_
  rintro v H1 ⟨I1, g1, x, o1, y1, rx, r1⟩
  split at r1
  · rename_i k
    cases rx
    exact ⟨k, rfl, r1 I1 H1 k o1 (Go.refl _) rfl⟩
  · exact r1.elim
theorem vt_cmp {op : CmpOp} {p : D → D → Option RV} (h : P2 X (compareOp op) p) (ha : VE X W a fa) (hb : VE X W b fb) (hm : behindInMarks op b = false) : VT X W (.Compare a [op] [b] pos) (blF (op2 p fa fb)) := by
  obtain ⟨r, hr, k⟩ := h.ex
  refine ⟨⟨fun pins s σ H Q I q => (pt_cmpR hr ha.pe hb.pe hm).run pins s σ H Q I ?_⟩⟩
  obtain ⟨J, g, o, q⟩ := q
  exact rd2 ⟨J, g, o, blF_rem q⟩ fun c v u a b _ o ra rb g => k c v u a b _ o ra rb g
theorem vt_val (h : VE X W e f) (he : ∀ whole, isTrue e X.env whole = (do let v ← whole; standAt e.pos; holding [v] (truthy v)) := by intro _; rfl) : VT X W e (blF f) :=
  ⟨⟨fun pins s σ H Q I ⟨J, g, o, q⟩ => (pt_val h.pe he).run pins s σ H Q I ⟨J, g, o, blF_rem q⟩⟩⟩
/-- truth -/
def truth : D → Option Bool
  | .non => some false
  | .bl b => some b
  | .int i => some (i != 0)
  | .str x => if x.length ≤ sizeLine then some ((x.length : Int) != 0) else none
  | .lst xs => some (!xs.isEmpty)
  | .tup xs => some (!xs.isEmpty)
  | _ => none
def truF (f : Ft) : Fb := fun g => (settle (f g)).bind fun x g1 => match (deref g1 x).bind truth with
  | some b => .ok b g1
  | none => .stuck
theorem isEmpty_reps {K : PySem.W.Frag} {I : Hp} {xs : List V} {ds : List D} (r : Reps K I xs ds) : (!xs.isEmpty) = !ds.isEmpty := by
  cases r <;> rfl
theorem vt_tru (h : VE X W e f) (he : ∀ whole, isTrue e X.env whole = (do let v ← whole; standAt e.pos; holding [v] (truthy v)) := by intro _; rfl) : VT X W e (truF f) := by
  refine ⟨⟨fun pins s σ H Q I ⟨J, g, o, q⟩ => (pt_truth h.pe he).run pins s σ H Q I ?_⟩⟩
  refine ⟨J, g, o, Rem.settle ((Rem.bind (R := RvR X.K) q).mono ?_)⟩
  rintro v H1 ⟨I1, g1, x, o1, y1, rx, r1⟩
  split at r1
  · rename_i k ek
    have q1 : Q k H1 := r1 I1 H1 k o1 (Go.refl _) rfl
    obtain ⟨d, ed, et⟩ := Option.bind_eq_some_iff.mp ek
    have rd := deref_rd o1 rx ed
    refine ⟨k, ?_, q1⟩
    cases d <;> simp only [truth] at et <;> first | cases et | skip
    · rw [rd.non]; rfl
    · rw [rd.bl]; rfl
    · rw [rd.int]; rfl
    · rw [rd.str]
      split at et
      · cases et
        exact ⟨by assumption, rfl⟩
      · cases et
    · obtain ⟨p, xs, rfl, hq, hr⟩ := rd.lst o1
      exact .inl ⟨xs, SqL.of hq, (isEmpty_reps hr).symm⟩
    · obtain ⟨p, xs, rfl, hq, hr⟩ := rd.tup o1
      exact .inr (.inl ⟨xs, hq, (isEmpty_reps hr).symm⟩)
  · exact r1.elim

/-! ### and, or, not, if -/
def andB (ta tb : Fb) : Fb := fun g => (ta g).bind fun k g1 => if k = true then tb g1 else .ok false g1
def orB (ta tb : Fb) : Fb := fun g => (ta g).bind fun k g1 => if k = true then .ok true g1 else tb g1
def notB (ta : Fb) : Fb := fun g => (ta g).bind fun k g1 => .ok (!k) g1
structure VW (X : Cx) (W : WX) (e : Expr) (f : Fb) : Prop where
  pw : PW X e (rdT X.K W f)
theorem VW.vt (h : VW X W e ta) : VT X W e ta := ⟨h.pw.pt⟩
theorem PT.imp {e : Expr} {t t' : TT} (h : PT X e t) (k : ∀ σ H Q, t' σ H Q → t σ H Q) : PT X e t' := ⟨fun pins s σ H Q I hw => h.run pins s σ H Q I (k σ H Q hw)⟩
theorem PW.imp {e : Expr} {t t' : TT} (h : PW X e t) (k : ∀ σ H Q, t' σ H Q → t σ H Q) : PW X e t' := ⟨fun w pins s σ H Q I hw => h.run w pins s σ H Q I (k σ H Q hw)⟩
variable {rest : List Expr}
theorem vw_and1 (ha : VT X W a ta) : VW X W (.BoolOp .And [a] pos) ta := ⟨pw_and1 ha.pt⟩
theorem vw_or1 (ha : VT X W a ta) : VW X W (.BoolOp .Or [a] pos) ta := ⟨pw_or1 ha.pt⟩
theorem vw_and (ha : VT X W a ta) (hb : VW X W (.BoolOp .And (b :: rest) pos) tb) : VW X W (.BoolOp .And (a :: b :: rest) pos) (andB ta tb) := ⟨PW.imp (pw_and ha.pt hb.pw) fun σ H Q ⟨I, g, o, r⟩ => by
  refine ⟨I, g, o, (Rem.bind (R := RbR) r).mono ?_⟩
  rintro v H1 ⟨I1, g1, x, o1, y1, rfl, r1⟩
  cases v with
  | true => exact ⟨I1, g1, o1, r1⟩
  | false => exact r1 I1 H1 false o1 (Go.refl _) rfl⟩
theorem vw_or (ha : VT X W a ta) (hb : VW X W (.BoolOp .Or (b :: rest) pos) tb) : VW X W (.BoolOp .Or (a :: b :: rest) pos) (orB ta tb) := ⟨PW.imp (pw_or ha.pt hb.pw) fun σ H Q ⟨I, g, o, r⟩ => by
  refine ⟨I, g, o, (Rem.bind (R := RbR) r).mono ?_⟩
  rintro v H1 ⟨I1, g1, x, o1, y1, rfl, r1⟩
  cases v with
  | false => exact ⟨I1, g1, o1, r1⟩
  | true => exact r1 I1 H1 true o1 (Go.refl _) rfl⟩
theorem vt_not (ha : VT X W a ta) : VT X W (.UnaryOp .Not a pos) (notB ta) := ⟨PT.imp (pt_not ha.pt) fun σ H Q ⟨I, g, o, r⟩ => by
  refine ⟨I, g, o, (Rem.bind (R := RbR) r).mono ?_⟩
  rintro v H1 ⟨I1, g1, x, o1, y1, rfl, r1⟩
  exact r1 I1 H1 _ o1 (Go.refl _) rfl⟩
def ifF (t : Fb) (fa fb : Ft) : Ft := fun g => (t g).bind fun k g1 => if k = true then fa g1 else fb g1
theorem ve_if (hc : VT X W c t) (ha : VE X W a fa) (hb : VE X W b fb) : VE X W (.IfExp c a b pos) (ifF t fa fb) := ⟨pe_imp (pe_ifExp hc.pt ha.pe hb.pe) fun σ H Q ⟨I, g, o, r⟩ => by
  refine ⟨I, g, o, (Rem.bind (R := RbR) r).mono ?_⟩
  rintro v H1 ⟨I1, g1, x, o1, y1, rfl, r1⟩
  cases v with
  | true => exact ⟨I1, g1, o1, r1⟩
  | false => exact ⟨I1, g1, o1, r1⟩⟩
/-- bools by and, or, not as values -/
def andV (fa fb : Ft) : Ft := fun g => (blF fa g).bind fun k g1 => if k = true then fb g1 else .ok (.val (.bl false)) g1
def orV (fa fb : Ft) : Ft := fun g => (blF fa g).bind fun k g1 => if k = true then .ok (.val (.bl true)) g1 else fb g1
def notV (ta : Fb) : Ft := fun g => (ta g).bind fun k g1 => .ok (.val (.bl (!k))) g1
theorem blF_bind {K : PySem.W.Frag} {c0 : Cfg} {r : Res RV} {k : Bool → Sg → Res RV} {Q : VK} (h : Rem K W (RvR K) c0 ((r.bind fun x g1 => match x with
  | .val (.bl b) => .ok b g1
  | _ => .stuck).bind k) Q) : Rem K W (RvR K) c0 r fun x H1 => ∃ c, x = .bl c ∧ ∃ I1 g1, Ok K ⟨I1, c0.σ, H1, g1⟩ ∧ Rem K W (RvR K) ⟨I1, c0.σ, H1, g1⟩ (k c g1) Q := by
  have h' := Rem.bind (R := RbR) h
  refine (blF_rem h').mono ?_
  rintro v H1 ⟨c, e, I1, g1, x, o1, y1, ex, r1⟩
  subst ex
  exact ⟨c, e, I1, g1, o1, r1⟩
theorem ve_and1 (ha : VE X W a fa) : VE X W (.BoolOp .And [a] pos) fa := ⟨pe_one ha.pe⟩
theorem ve_or1 (ha : VE X W a fa) : VE X W (.BoolOp .Or [a] pos) fa := ⟨pe_one ha.pe⟩
theorem ve_and (ha : VE X W a fa) (hb : VE X W (.BoolOp .And (b :: rest) pos) fb) : VE X W (.BoolOp .And (a :: b :: rest) pos) (andV fa fb) := ⟨pe_imp (pe_and ha.pe hb.pe) fun σ H Q ⟨I, g, o, r⟩ => by
  refine ⟨I, g, o, (blF_bind r).mono ?_⟩
  rintro v H1 ⟨c, ec, I1, g1, o1, r1⟩
  refine ⟨c, ec, ?_⟩
  cases c with
  | true => exact ⟨I1, g1, o1, r1⟩
  | false => exact r1 I1 H1 _ o1 (Go.refl _) (.bl false)⟩
theorem ve_or (ha : VE X W a fa) (hb : VE X W (.BoolOp .Or (b :: rest) pos) fb) : VE X W (.BoolOp .Or (a :: b :: rest) pos) (orV fa fb) := ⟨pe_imp (pe_or ha.pe hb.pe) fun σ H Q ⟨I, g, o, r⟩ => by
  refine ⟨I, g, o, (blF_bind r).mono ?_⟩
  rintro v H1 ⟨c, ec, I1, g1, o1, r1⟩
  refine ⟨c, ec, ?_⟩
  cases c with
  | false => exact ⟨I1, g1, o1, r1⟩
  | true => exact r1 I1 H1 _ o1 (Go.refl _) (.bl true)⟩
def notF (fa : Ft) : Ft := fun g => (blF fa g).bind fun k g1 => .ok (.val (.bl (!k))) g1
theorem ve_not (ha : VE X W a fa) : VE X W (.UnaryOp .Not a pos) (notF fa) := ⟨pe_imp (pe_not ha.pe) fun σ H Q ⟨I, g, o, r⟩ => by
  refine ⟨I, g, o, (blF_bind r).mono ?_⟩
  rintro v H1 ⟨c, ec, I1, g1, o1, r1⟩
  exact ⟨c, ec, r1 I1 H1 _ o1 (Go.refl _) (.bl _)⟩⟩
end
end Vl

set_option Elab.async false
set_option linter.all false
set_option maxRecDepth 100000
set_option maxHeartbeats 2000000
/-! the value layer: operations -/
namespace Vl
open PySem PySem.Spec PyProof.Rows L2 My
section
variable {X : Cx} {W : WX}
abbrev vI (i : Int) : Option RV := some (.val (.int i))
abbrev vB (b : Bool) : Option RV := some (.val (.bl b))
abbrev vS (x : Str) : Option RV := some (.val (.str x))

/-! ### arithmetic -/
def addP : D → D → Option RV
  | .int a, .int b => vI (a + b)
  | .str a, .str b => if a.length + b.length ≤ sizeLine then vS (a ++ b) else none
  | .lst a, .lst b => if a.length + b.length ≤ sizeLine then some (.fr (.lst (a ++ b))) else none
  | .tup a, .tup b => if a.length + b.length ≤ sizeLine then some (.val (.tup (a ++ b))) else none
  | _, _ => none
theorem Reps.nil_iff {K : PySem.W.Frag} {I : Hp} {xs : List V} {ds : List D} (r : Reps K I xs ds) : xs = [] ↔ ds = [] := by
  cases r <;> simp
theorem p_add : P2 X (binaryOp .Add) addP := by
  refine ⟨_, (op_add (X := X)).or ((op_add_str (X := X)).or ((ox_cat (X := X)).or (op_catA (X := X)))), fun c v u a b Q o ra rb h => ?_⟩
  cases a <;> cases b <;> simp only [addP] at h <;> first | exact h.elim | skip
  · rename_i i j
    rw [ra.int, rb.int]
    exact .inl ⟨i, j, rfl, rfl, h.now o (.int _)⟩
  · rename_i i j
    rw [ra.str, rb.str]
    split at h
    · exact .inr (.inl ⟨i, j, rfl, rfl, by assumption, h.now o (.str _)⟩)
    · exact h.elim
  · rename_i xs ys
    split at h
    · rename_i hz
      obtain ⟨p, us, rfl, hp, rp⟩ := ra.lst o
      obtain ⟨q, ws, rfl, hq, rq⟩ := rb.lst o
      exact .inr (.inr (.inl ⟨p, q, rfl, rfl, us, ws, hp, hq, by rw [rp.length, rq.length]; exact hz, fun l H' fr x hl => h.fresh o fr x ⟨_, hl, rp.append rq⟩⟩))
    · exact h.elim
  · rename_i xs ys
    split at h
    · rename_i hz
      obtain ⟨p, us, rfl, hp, rp⟩ := ra.tup o
      obtain ⟨q, ws, rfl, hq, rq⟩ := rb.tup o
      have rr := rp.append rq
      refine .inr (.inr (.inr ⟨p, q, us, ws, rfl, rfl, hp, hq, by rw [rp.length, rq.length]; exact hz, fun e => ?_, fun e e' => ?_, fun e e' l hl => ?_⟩))
      · have := rp.nil_iff.mp e
        subst this
        rcases rb with rb | ⟨_, _, rb⟩
        · exact h.now o rb
        · exact rb.elim
      · have := rq.nil_iff.mp e'
        subst this
        rw [List.append_nil] at h
        rcases ra with ra | ⟨_, _, ra⟩
        · exact h.now o ra
        · exact ra.elim
      · exact h.froz o ⟨hl⟩ (Xb.new hl) upd_same .tup fun I' l' e => .tup (SqT.of e) (rr.mono l')
    · exact h.elim

theorem p_int {f : Value → Value → Sem Value} {g : Int → Int → V} {g' : Int → Int → D} {p : D → D → Option RV} (h : OpR X f (rI0 g)) (hg : ∀ I i j, Rep X.K I (g i j) (g' i j))
    (hp : ∀ a b, p a b = match a, b with | .int i, .int j => some (.val (g' i j)) | _, _ => none) : P2 X f p := by
  refine ⟨_, h, fun c v u a b Q o ra rb k => ?_⟩
  rw [hp] at k
  cases a <;> cases b <;> first | exact k.elim | skip
  rename_i i j
  rw [ra.int, rb.int]
  exact ⟨i, j, rfl, rfl, k.now o (hg _ i j)⟩
theorem p_intC {f : Value → Value → Sem Value} {C : Int → Int → Prop} {B : Int → Int → Bool} {g : Int → Int → V} {g' : Int → Int → D} {p : D → D → Option RV} (h : OpR X f (rI C g)) (hC : ∀ i j, B i j = true → C i j) (hg : ∀ I i j, Rep X.K I (g i j) (g' i j))
    (hp : ∀ a b, p a b = match a, b with | .int i, .int j => if B i j = true then some (.val (g' i j)) else none | _, _ => none) : P2 X f p := by
  refine ⟨_, h, fun c v u a b Q o ra rb k => ?_⟩
  rw [hp] at k
  cases a <;> cases b <;> first | exact k.elim | skip
  rename_i i j
  rw [ra.int, rb.int]
  dsimp only at k
  split at k
  · exact ⟨i, j, rfl, rfl, hC i j (by assumption), k.now o (hg _ i j)⟩
  · exact k.elim
def subP : D → D → Option RV
  | .int a, .int b => vI (a - b)
  | _, _ => none
theorem p_sub : P2 X (binaryOp .Sub) subP := p_int op_sub (fun _ i j => .int _) fun a b => by cases a <;> cases b <;> rfl
/-- when a product is not too large -/
def mulOk (i j : Int) : Bool := decide (-(2 ^ 64) < i ∧ i < 2 ^ 64) || (decide (-(2 ^ 64) < j ∧ j < 2 ^ 64) || decide (i.natAbs.log2 + j.natAbs.log2 < 1000000))
def divOk (j : Int) : Bool := decide (0 < j) && decide (j.natAbs.log2 < 9000)
def powOk (i j : Int) : Bool := decide (0 ≤ j) && (decide (j ≤ 1000000) && decide (i.natAbs < 2 ^ 64))
/-- a list, n times -/
def repL (n : Nat) (xs : List D) : List D := (List.replicate n xs).flatten
def mulP : D → D → Option RV
  | .int a, .int b => if mulOk a b = true then vI (a * b) else none
  | _, _ => none
theorem OpR.cond {f : Value → Value → Sem Value} {C C' : Int → Int → Prop} {g : Int → Int → V} (h : OpR X f (rI C g)) (h' : OpR X f (rI C' g)) : OpR X f (rI (fun i j => C i j ∨ C' i j) g) :=
  fun pins s σ H x y v u Q I rx ry ⟨i, j, e1, e2, c, q⟩ => c.elim (fun c => h pins s σ H x y v u Q I rx ry ⟨i, j, e1, e2, c, q⟩) fun c => h' pins s σ H x y v u Q I rx ry ⟨i, j, e1, e2, c, q⟩
theorem p_mul : P2 X (binaryOp .Mult) mulP := p_intC (B := mulOk) (OpR.cond op_mul op_mulW) (fun i j h => by
  simp only [mulOk, Bool.or_eq_true, decide_eq_true_eq] at h
  rcases h with h | h | h
  · exact .inl (.inl h)
  · exact .inl (.inr h)
  · exact .inr h) (fun _ i j => .int _) fun a b => by cases a <;> cases b <;> rfl
def fdivP : D → D → Option RV
  | .int a, .int b => if divOk b = true then vI (a / b) else none
  | _, _ => none
theorem p_fdiv : P2 X (binaryOp .FloorDiv) fdivP := p_intC (B := fun _ j => divOk j) op_fdivW (fun i j h => by
  simp only [divOk, Bool.and_eq_true, decide_eq_true_eq] at h
  exact h) (fun _ i j => .int _) fun a b => by cases a <;> cases b <;> rfl
def modP : D → D → Option RV
  | .int a, .int b => if decide (0 < b) = true then vI (a % b) else none
  | _, _ => none
theorem p_mod : P2 X (binaryOp .Mod) modP := p_intC (B := fun _ j => decide (0 < j)) op_mod (fun i j h => of_decide_eq_true h) (fun _ i j => .int _) fun a b => by cases a <;> cases b <;> rfl
def powP : D → D → Option RV
  | .int a, .int b => if powOk a b = true then vI (a ^ b.toNat) else none
  | _, _ => none
theorem p_pow : P2 X (binaryOp .Pow) powP := p_intC (B := powOk) op_pow (fun i j h => by
  simp only [powOk, Bool.and_eq_true, decide_eq_true_eq] at h
  exact h) (fun _ i j => .int _) fun a b => by cases a <;> cases b <;> rfl
def negP : D → Option RV
  | .int a => vI (-a)
  | _ => none
theorem ve_neg {a : Expr} {fa : Ft} {pos : Pos} (ha : VE X W a fa) : VE X W (.UnaryOp .USub a pos) (op1 negP fa) := ⟨pe_imp (pe_un un_neg ha.pe) fun σ H Q ⟨I, g, o, r⟩ => by
  refine ⟨I, g, o, Rem.settle ((Rem.bind (R := RvR X.K) r).mono ?_)⟩
  rintro v H1 ⟨I1, g1, x, o1, y1, rx, r1⟩
  obtain ⟨d, rd, q⟩ := lift1_gives o1 rx r1
  cases d <;> first | exact q.elim | skip
  rename_i i
  exact ⟨i, rd.int, q.now o1 (.int _)⟩⟩

/-! ### comparisons -/
def scD : D → D → Option Bool
  | .non, .non => some true
  | .non, .int _ => some false | .int _, .non => some false | .non, .bl _ => some false | .bl _, .non => some false | .non, .str _ => some false | .str _, .non => some false
  | .int a, .int b => some (decide (a = b)) | .bl a, .bl b => some (decide (a = b)) | .str a, .str b => some (decide (a = b))
  | .int _, .str _ => some false | .str _, .int _ => some false | .bl _, .str _ => some false | .str _, .bl _ => some false
  | _, _ => none
mutual
def toP : D → Option PyData
  | .non => some .none
  | .bl b => some (.bool b)
  | .int i => some (.int i)
  | .str x => some (.str x)
  | .lst xs => (toPs xs).map PyData.list
  | .tup xs => (toPs xs).map PyData.tuple
  | _ => none
def toPs : List D → Option (List PyData)
  | [] => some []
  | x :: xs => (toP x).bind fun p => (toPs xs).map (p :: ·)
end
def eqD (a b : D) : Option Bool := match scD a b with
  | some r => some r
  | none => match toP a, toP b with
    | some p, some q => if SeqAt.shaped p = true ∧ SeqAt.shaped q = true then some (PyData.eqv p q) else none
    | _, _ => none
mutual
theorem dp_rep {K : PySem.W.Frag} {I H : Hp} (l : Le I H) : ∀ {v : V} {d : D} {p : PyData}, Rep K I v d → toP d = some p → Dp K H v p
  | _, _, _, .non, e => by cases e; exact .non
  | _, _, _, .bl b, e => by cases e; exact .bl b
  | _, _, _, .int i, e => by cases e; exact .int i
  | _, _, _, .str x, e => by cases e; exact .str x
  | _, _, _, .lst h r, e => by
    simp only [toP, Option.map_eq_some_iff] at e
    obtain ⟨ps, e1, rfl⟩ := e
    exact .lst (SqL.of (l _ _ h)) (dp_reps l r e1)
  | _, _, _, .tup h r, e => by
    simp only [toP, Option.map_eq_some_iff] at e
    obtain ⟨ps, e1, rfl⟩ := e
    exact .tup (l.sqT h) (dp_reps l r e1)
  | _, _, _, .seq h r, e => by simp [toP] at e
  | _, _, _, .dct h r, e => by simp [toP] at e
  | _, _, _, .kdc h r, e => by simp [toP] at e
  | _, _, _, .ins h r, e => by simp [toP] at e
  | _, _, _, .exv h r, e => by simp [toP] at e
  | _, _, _, .cls c, e => by simp [toP] at e
  | _, _, _, .raw c, e => by simp [toP] at e
  | _, _, _, .slo h hd r, e => by simp [toP] at e
theorem dp_reps {K : PySem.W.Frag} {I H : Hp} (l : Le I H) : ∀ {v : List V} {d : List D} {p : List PyData}, Reps K I v d → toPs d = some p → DpAll K H v p
  | _, _, _, .nil, e => by simp only [toPs, Option.some.injEq] at e; subst e; exact .nil
  | _, _, _, .cons h t, e => by
    simp only [toPs, Option.bind_eq_some_iff, Option.map_eq_some_iff] at e
    obtain ⟨p, e1, ps, e2, rfl⟩ := e
    exact .cons (dp_rep l h e1) (dp_reps l t e2)
end
theorem RdD.dp {K : PySem.W.Frag} {c : Cfg} {v : V} {d : D} {p : PyData} (o : Ok K c) (h : RdD K c v d) (e : toP d = some p) : Dp K c.H v p := by
  rcases h with h | ⟨a, rfl, h⟩
  · exact dp_rep o.sub h e
  · cases d <;> first | exact h.elim | skip
    · obtain ⟨xs, q, r⟩ := h
      simp only [toP, Option.map_eq_some_iff] at e
      obtain ⟨ps, e1, rfl⟩ := e
      exact .lst (SqL.of q) (dp_reps o.sub r e1)
    · simp [toP] at e
    · simp [toP] at e
    · simp [toP] at e
def eqP (a b : D) : Option RV := (eqD a b).map fun k => .val (.bl k)
def neP (a b : D) : Option RV := (eqD a b).map fun k => .val (.bl (!k))
theorem sc_scal {K : PySem.W.Frag} {c : Cfg} {v u : V} {a b : D} {k : Bool} (ra : RdD K c v a) (rb : RdD K c u b) (h : scD a b = some k) : scal v u = true ∧ decide (v = u) = k := by
  cases a <;> cases b <;> simp only [scD] at h <;> first | cases h | skip
  all_goals first
    | (rw [ra.non, rb.non]; exact ⟨rfl, rfl⟩)
    | (rw [ra.non, rb.int]; exact ⟨rfl, rfl⟩)
    | (rw [ra.int, rb.non]; exact ⟨rfl, rfl⟩)
    | (rw [ra.non, rb.bl]; exact ⟨rfl, rfl⟩)
    | (rw [ra.bl, rb.non]; exact ⟨rfl, rfl⟩)
    | (rw [ra.non, rb.str]; exact ⟨rfl, rfl⟩)
    | (rw [ra.str, rb.non]; exact ⟨rfl, rfl⟩)
    | (rw [ra.int, rb.int]; exact ⟨rfl, by simp⟩)
    | (rw [ra.bl, rb.bl]; exact ⟨rfl, by simp⟩)
    | (rw [ra.str, rb.str]; exact ⟨rfl, by simp⟩)
    | (rw [ra.int, rb.str]; exact ⟨rfl, rfl⟩)
    | (rw [ra.str, rb.int]; exact ⟨rfl, rfl⟩)
    | (rw [ra.bl, rb.str]; exact ⟨rfl, rfl⟩)
    | (rw [ra.str, rb.bl]; exact ⟨rfl, rfl⟩)
theorem eqD_cases {K : PySem.W.Frag} {c : Cfg} {v u : V} {a b : D} {k : Bool} (o : Ok K c) (ra : RdD K c v a) (rb : RdD K c u b) (h : eqD a b = some k) :
    (scal v u = true ∧ decide (v = u) = k) ∨ ∃ d e, Dp K c.H v d ∧ Dp K c.H u e ∧ SeqAt.shaped d = true ∧ SeqAt.shaped e = true ∧ PyData.eqv d e = k := by
  unfold eqD at h
  split at h
  · rename_i r e
    cases h
    exact .inl (sc_scal ra rb e)
  · split at h
    · rename_i p q ep eq
      split at h
      · rename_i hs
        cases h
        exact .inr ⟨p, q, ra.dp o ep, rb.dp o eq, hs.1, hs.2, rfl⟩
      · cases h
    · cases h
theorem p_eq (hu : X.A.units + 64 < cLine) : P2 X (compareOp .Eq) eqP := by
  refine ⟨_, (op_eq (X := X)).or (op_eqD hu), fun c v u a b Q o ra rb h => ?_⟩
  unfold eqP at h
  cases e : eqD a b with
  | none => rw [e] at h; exact h.elim
  | some k =>
    rw [e] at h
    have q := h.now o (v := .bl k) (.bl k)
    rcases eqD_cases o ra rb e with ⟨h1, h2⟩ | ⟨d, e, h1, h2, h3, h4, h5⟩
    · exact .inl ⟨h1, by rw [h2]; exact q⟩
    · exact .inr ⟨d, e, h1, h2, h3, h4, by rw [h5]; exact q⟩
theorem p_ne (hu : X.A.units + 64 < cLine) : P2 X (compareOp .NotEq) neP := by
  refine ⟨_, (op_ne (X := X)).or (op_neD hu), fun c v u a b Q o ra rb h => ?_⟩
  unfold neP at h
  cases e : eqD a b with
  | none => rw [e] at h; exact h.elim
  | some k =>
    rw [e] at h
    have q := h.now o (v := .bl (!k)) (.bl (!k))
    rcases eqD_cases o ra rb e with ⟨h1, h2⟩ | ⟨d, e, h1, h2, h3, h4, h5⟩
    · exact .inl ⟨h1, by rw [h2]; exact q⟩
    · exact .inr ⟨d, e, h1, h2, h3, h4, by rw [h5]; exact q⟩
/-- the ints of a tuple -/
def intsD : List D → Option (List Int)
  | [] => some []
  | .int i :: r => (intsD r).map (i :: ·)
  | _ => none
theorem reps_ints {K : PySem.W.Frag} {I : Hp} : ∀ {vs : List V} {ds : List D} {ns : List Int}, Reps K I vs ds → intsD ds = some ns → vs = ns.map V.int
  | _, _, _, .nil, e => by cases e; rfl
  | _, d :: ds, ns, .cons h t, e => by
    cases d <;> simp only [intsD, Option.map_eq_some_iff] at e <;> first | cases e | skip
    rename_i ms
    obtain ⟨e1, rfl⟩ := ms
    cases h
    rw [List.map_cons, reps_ints t e1]
def ltP : D → D → Option RV
  | .int a, .int b => vB (decide (a < b))
  | .str a, .str b => vB (decide (a.cps.toList < b.cps.toList))
  | .tup a, .tup b => match intsD a, intsD b with
    | some x, some y => vB (HT.lexLt x y)
    | _, _ => none
  | _, _ => none
theorem p_lt (hu : X.A.units < cLine) : P2 X (compareOp .Lt) ltP := by
  refine ⟨_, (op_lt (X := X)).or ((op_lt_str (X := X)).or (op_ltT hu)), fun c v u a b Q o ra rb h => ?_⟩
  cases a <;> cases b <;> simp only [ltP] at h <;> first | exact h.elim | skip
  · rename_i i j
    rw [ra.int, rb.int]
    exact .inl ⟨i, j, rfl, rfl, h.now o (.bl _)⟩
  · rename_i i j
    rw [ra.str, rb.str]
    exact .inr (.inl ⟨i, j, rfl, rfl, h.now o (.bl _)⟩)
  · rename_i xs ys
    split at h
    · rename_i x y ex ey
      obtain ⟨p, us, rfl, hp, rp⟩ := ra.tup o
      obtain ⟨q, ws, rfl, hq, rq⟩ := rb.tup o
      rw [reps_ints rp ex] at hp
      rw [reps_ints rq ey] at hq
      exact .inr (.inr ⟨p, q, x, y, rfl, rfl, hp, hq, h.now o (.bl _)⟩)
    · exact h.elim
def leP : D → D → Option RV
  | .int a, .int b => vB (decide (a ≤ b))
  | .str a, .str b => vB (!decide (b.cps.toList < a.cps.toList))
  | _, _ => none
theorem p_le : P2 X (compareOp .LtE) leP := by
  refine ⟨_, (op_le (X := X)).or (op_le_str (X := X)), fun c v u a b Q o ra rb h => ?_⟩
  cases a <;> cases b <;> simp only [leP] at h <;> first | exact h.elim | skip
  · rename_i i j
    rw [ra.int, rb.int]
    exact .inl ⟨i, j, rfl, rfl, h.now o (.bl _)⟩
  · rename_i i j
    rw [ra.str, rb.str]
    exact .inr ⟨i, j, rfl, rfl, h.now o (.bl _)⟩
def gtP : D → D → Option RV
  | .int a, .int b => vB (decide (b < a))
  | .str a, .str b => vB (decide (b.cps.toList < a.cps.toList))
  | _, _ => none
theorem p_gt : P2 X (compareOp .Gt) gtP := by
  refine ⟨_, (op_gt (X := X)).or (op_gt_str (X := X)), fun c v u a b Q o ra rb h => ?_⟩
  cases a <;> cases b <;> simp only [gtP] at h <;> first | exact h.elim | skip
  · rename_i i j
    rw [ra.int, rb.int]
    exact .inl ⟨i, j, rfl, rfl, h.now o (.bl _)⟩
  · rename_i i j
    rw [ra.str, rb.str]
    exact .inr ⟨i, j, rfl, rfl, h.now o (.bl _)⟩
def geP : D → D → Option RV
  | .int a, .int b => vB (decide (b ≤ a))
  | .str a, .str b => vB (!decide (a.cps.toList < b.cps.toList))
  | _, _ => none
theorem p_ge : P2 X (compareOp .GtE) geP := by
  refine ⟨_, (op_ge (X := X)).or (op_ge_str (X := X)), fun c v u a b Q o ra rb h => ?_⟩
  cases a <;> cases b <;> simp only [geP] at h <;> first | exact h.elim | skip
  · rename_i i j
    rw [ra.int, rb.int]
    exact .inl ⟨i, j, rfl, rfl, h.now o (.bl _)⟩
  · rename_i i j
    rw [ra.str, rb.str]
    exact .inr ⟨i, j, rfl, rfl, h.now o (.bl _)⟩
end
end Vl

set_option Elab.async false
set_option linter.all false
set_option maxRecDepth 100000
set_option maxHeartbeats 2000000
/-! the value layer: membership, items, slices, arguments, displays, calls of built-ins -/
namespace Vl
open PySem PySem.Spec PyProof.Rows L2 My
section
variable {X : Cx} {W : WX}

/-! ### dicts -/
def keyOf : D → Option Key
  | .int i => some (.inl i)
  | .str x => some (.inr x)
  | _ => none
theorem keyOf_kD (k : Key) : keyOf (kD k) = some k := by cases k <;> rfl
def valD : List (D × D) → Key → Option D
  | [], _ => none
  | (q, d) :: r, k => if keyOf q = some k then some d else valD r k
theorem RepK.val {K : PySem.W.Frag} {I : Hp} {k : Key} : ∀ {vs : List (Key × V)} {ds : List (D × D)}, RepK K I vs ds → (∀ d, valD ds k = some d → ∃ v, valV vs k = some v ∧ Rep K I v d) ∧ (valD ds k = none → valV vs k = none)
  | _, _, .nil => ⟨fun d e => (nomatch e), fun _ => rfl⟩
  | (q, v) :: vs, (_, d') :: ds, .cons h t => by
    by_cases e : q = k
    · subst e
      refine ⟨fun d e => ⟨v, valV_pos rfl, ?_⟩, fun e => ?_⟩
      · simp only [valD, keyOf_kD, if_true, Option.some.injEq] at e
        exact e ▸ h
      · simp [valD, keyOf_kD] at e
    · have e' : ¬ keyOf (kD q) = some k := by rw [keyOf_kD]; simpa using e
      refine ⟨fun d e1 => ?_, fun e1 => ?_⟩
      · rw [valV_neg e]
        simp only [valD, if_neg e'] at e1
        exact t.val.1 d e1
      · rw [valV_neg e]
        simp only [valD, if_neg e'] at e1
        exact t.val.2 e1
theorem kD_kV {K : PySem.W.Frag} {c : Cfg} {v : V} {d : D} {k : Key} (h : RdD K c v d) (e : keyOf d = some k) : v = kV k := by
  cases d <;> simp only [keyOf, Option.some.injEq] at e <;> first | cases e | skip
  · exact h.int
  · exact h.str

/-! ### in -/
def flatD : D → Bool
  | .non | .bl _ | .int _ | .str _ => true
  | _ => false
def eqF : D → D → Bool
  | .non, .non => true
  | .bl a, .bl b => a == b
  | .bl a, .int b => (if a then 1 else 0) == b
  | .int a, .bl b => a == (if b then 1 else 0)
  | .int a, .int b => a == b
  | .str a, .str b => a == b
  | _, _ => false
def inF (x : D) (xs : List D) : Option Bool :=
  if flatD x = true ∧ xs.all flatD = true then some (xs.any fun y => eqF y x) else
    match toP x, toPs xs with
    | some p, some ps => if SeqAt.shaped p = true ∧ SeqAt.shaped (.list ps) = true then some (ps.any fun z => PyData.eqv z p) else none
    | _, _ => none
def inT (x : D) (xs : List D) : Option Bool := if flatD x = true ∧ xs.all flatD = true then some (xs.any fun y => eqF y x) else none
def inD : D → D → Option Bool
  | .str a, .str b => some (!(Builtin.Str.occurrences b a 0 b.length 1).isEmpty)
  | x, .lst ys => inF x ys
  | x, .tup ys => inT x ys
  | x, .dct kvs => (keyOf x).map fun k => (valD kvs k).isSome
  | .str z, .kdc kvs => some (kvs.lookup z).isSome
  | _, _ => none
theorem flat_rep {K : PySem.W.Frag} {I : Hp} {v : V} {d : D} (h : Rep K I v d) (f : flatD d = true) : flatV v = true := by
  cases h <;> first | rfl | cases f
theorem eqF_eqV {K : PySem.W.Frag} {I : Hp} {v u : V} {a b : D} (h : Rep K I v a) (h' : Rep K I u b) (f : flatD a = true) (f' : flatD b = true) : eqV v u = eqF a b := by
  cases h <;> first | cases f | skip
  all_goals (cases h' <;> first | rfl | cases f')
theorem RdD.rep_flat {K : PySem.W.Frag} {c : Cfg} {v : V} {d : D} (h : RdD K c v d) (f : flatD d = true) : Rep K c.I v d := by
  rcases h with h | ⟨a, e, h⟩
  · exact h
  · cases d <;> first | exact h.elim | cases f
theorem inV_inF {K : PySem.W.Frag} {I : Hp} {v : V} {d : D} (h : Rep K I v d) (f : flatD d = true) : ∀ {vs : List V} {ds : List D}, Reps K I vs ds → ds.all flatD = true → vs.all flatV = true ∧ inV v vs = ds.any fun y => eqF y d
  | _, _, .nil, _ => ⟨rfl, rfl⟩
  | v' :: vs, d' :: ds, .cons q t, fs => by
    rw [List.all_cons, Bool.and_eq_true] at fs
    obtain ⟨h1, h2⟩ := inV_inF h f t fs.2
    refine ⟨by rw [List.all_cons, flat_rep q fs.1, h1]; rfl, ?_⟩
    show (eqV v' v || inV v vs) = _
    rw [h2, eqF_eqV q h fs.1 f, List.any_cons]
theorem op_in_dct (hu : X.A.units + 1 < cLine) : OpR X (compareOp .In) (fun x y H Q => ∃ a ov, y = .ref a ∧ DGet H a x ov ∧ Q (.bl ov.isSome) H) := by
  rintro pins s σ H x y v u Q I rx ry ⟨a, ov, rfl, g, q⟩
  cases ry
  exact d_in hu I g rx fun s' I' => ⟨.bl ov.isSome, H, I', rfl, q⟩
theorem op_notIn_dct (hu : X.A.units + 1 < cLine) : OpR X (compareOp .NotIn) (fun x y H Q => ∃ a ov, y = .ref a ∧ DGet H a x ov ∧ Q (.bl (!ov.isSome)) H) := by
  rintro pins s σ H x y v u Q I rx ry ⟨a, ov, rfl, g, q⟩
  cases ry
  exact d_notIn hu I g rx fun s' I' => ⟨.bl (!ov.isSome), H, I', rfl, q⟩
theorem op_in_dcK : OpR X (compareOp .In) (fun x y H Q => ∃ z d kvs, x = .str z ∧ y = .ref d ∧ DcK X.K d kvs ∧ Q (.bl (kvs.lookup z).isSome) H) := by
  rintro pins s σ H x y v u Q I rx ry ⟨z, d, kvs, rfl, rfl, ⟨es, n, h1, h2, h3, h4⟩, q⟩
  obtain ⟨r, e, rr⟩ := h4 z
  refine op_in_kd ⟨h1, h2 X.w, h3⟩ pins s σ H _ _ v u Q I rx ry ⟨z, r, rfl, rfl, e, ?_⟩
  have : (kvs.lookup z).isSome = r.isSome := by
    cases q1 : kvs.lookup z <;> cases r <;> rw [q1] at rr <;> first | rfl | exact rr.elim
  rw [← this]
  exact q
theorem op_notIn_dcK : OpR X (compareOp .NotIn) (fun x y H Q => ∃ z d kvs, x = .str z ∧ y = .ref d ∧ DcK X.K d kvs ∧ Q (.bl (!(kvs.lookup z).isSome)) H) := by
  rintro pins s σ H x y v u Q I rx ry ⟨z, d, kvs, rfl, rfl, ⟨es, n, h1, h2, h3, h4⟩, q⟩
  obtain ⟨r, e, rr⟩ := h4 z
  refine op_notIn_kd ⟨h1, h2 X.w, h3⟩ pins s σ H _ _ v u Q I rx ry ⟨z, r, rfl, rfl, e, ?_⟩
  have : (kvs.lookup z).isSome = r.isSome := by
    cases q1 : kvs.lookup z <;> cases r <;> rw [q1] at rr <;> first | rfl | exact rr.elim
  rw [← this]
  exact q
def inP (a b : D) : Option RV := (inD a b).map fun k => .val (.bl k)
def notInP (a b : D) : Option RV := (inD a b).map fun k => .val (.bl (!k))
/-- all that membership is told by -/
def inCase (K : PySem.W.Frag) (x y : V) (H : Hp) (k : Bool) : Prop :=
  (∃ i j, x = .str i ∧ y = .str j ∧ k = !(Builtin.Str.occurrences j i 0 j.length 1).isEmpty) ∨
  (∃ p xs, y = .ref p ∧ (SqL K H p xs ∨ SqT K H p xs) ∧ flatV x = true ∧ xs.all flatV = true ∧ k = inV x xs) ∨
  (∃ d ds, Dp K H x d ∧ Dp K H y (.list ds) ∧ SeqAt.shaped d = true ∧ SeqAt.shaped (.list ds) = true ∧ k = ds.any fun z => PyData.eqv z d) ∨
  (∃ a ov, y = .ref a ∧ DGet H a x ov ∧ k = ov.isSome) ∨ (∃ z d kvs, x = .str z ∧ y = .ref d ∧ DcK K d kvs ∧ k = (kvs.lookup z).isSome)
theorem in_cases {K : PySem.W.Frag} {c : Cfg} {v u : V} {a b : D} {k : Bool} (o : Ok K c) (ra : RdD K c v a) (rb : RdD K c u b) (h0 : inD a b = some k) : inCase K v u c.H k := by
  have flats : ∀ (xs : List D) (vs : List V), Reps K c.I vs xs → flatD a = true ∧ xs.all flatD = true → flatV v = true ∧ vs.all flatV = true ∧ inV v vs = xs.any fun y => eqF y a := fun xs vs r f => by
    obtain ⟨h1, h2⟩ := inV_inF (ra.rep_flat f.1) f.1 r f.2
    exact ⟨flat_rep (ra.rep_flat f.1) f.1, h1, h2⟩
  have lst : ∀ ys, b = .lst ys → inF a ys = some k → inCase K v u c.H k := fun ys e h => by
    subst e
    obtain ⟨p, vs, rfl, hp, rp⟩ := rb.lst o
    unfold inF at h
    split at h
    · rename_i f
      cases h
      obtain ⟨f1, f2, f3⟩ := flats _ _ rp f
      exact .inr (.inl ⟨p, vs, rfl, .inl (SqL.of hp), f1, f2, f3.symm⟩)
    · split at h
      · rename_i p' ps e1 e2
        split at h
        · rename_i hs
          cases h
          exact .inr (.inr (.inl ⟨p', ps, ra.dp o e1, .lst (SqL.of hp) (dp_reps o.sub rp e2), hs.1, hs.2, rfl⟩))
        · cases h
      · cases h
  have tup : ∀ ys, b = .tup ys → inT a ys = some k → inCase K v u c.H k := fun ys e h => by
    subst e
    obtain ⟨p, vs, rfl, hp, rp⟩ := rb.tup o
    unfold inT at h
    split at h
    · rename_i f
      cases h
      obtain ⟨f1, f2, f3⟩ := flats _ _ rp f
      exact .inr (.inl ⟨p, vs, rfl, .inr hp, f1, f2, f3.symm⟩)
    · cases h
  have dct : ∀ ys, b = .dct ys → ((keyOf a).map fun k => (valD ys k).isSome) = some k → inCase K v u c.H k := fun ys e h => by
    subst e
    obtain ⟨k', e1, rfl⟩ := Option.map_eq_some_iff.mp h
    obtain ⟨p, vs, rfl, hp, rp⟩ := rb.dct o
    refine .inr (.inr (.inr (.inl ⟨p, _, rfl, by rw [kD_kV ra e1]; exact DGet.k hp, ?_⟩)))
    cases q : valD ys k' with
    | none => rw [(rp.val (k := k')).2 q]; rfl
    | some d => obtain ⟨w, h1, _⟩ := (rp.val (k := k')).1 d q; rw [h1]; rfl
  have kdc : ∀ ys z, b = .kdc ys → a = .str z → some (ys.lookup z).isSome = some k → inCase K v u c.H k := fun ys z e e2 h => by
    subst e e2
    cases h
    obtain ⟨p, vs, rfl, hp, rp⟩ := rb.kdc
    refine .inr (.inr (.inr (.inr ⟨z, p, vs, ra.str, rfl, hp, ?_⟩)))
    cases q : ys.lookup z with
    | none => rw [rp.none q]; rfl
    | some d => obtain ⟨w, h1, _⟩ := rp.get q; rw [h1]; rfl
  cases b <;> cases a <;> simp only [inD] at h0 <;> first
    | exact lst _ rfl h0
    | exact tup _ rfl h0
    | exact dct _ rfl h0
    | exact kdc _ _ rfl rfl h0
    | cases h0
    | skip
  rw [ra.str, rb.str]
  exact .inl ⟨_, _, rfl, rfl, rfl⟩

theorem p_in (hu : X.A.units + 65 < cLine) : P2 X (compareOp .In) inP := by
  refine ⟨_, (op_in_str (X := X)).or ((op_in_seq (X := X)).or ((op_inD hu).or ((op_in_dct (X := X) (by omega)).or op_in_dcK))), fun c v u a b Q o ra rb h => ?_⟩
  unfold inP at h
  cases e : inD a b with
  | none => rw [e] at h; exact h.elim
  | some k =>
    rw [e] at h
    have q := h.now o (v := .bl k) (.bl k)
    rcases in_cases o ra rb e with ⟨i, j, e1, e2, ek⟩ | ⟨p, xs, e1, hq, f1, f2, ek⟩ | ⟨d, ds, d1, d2, s1, s2, ek⟩ | ⟨a', ov, e1, g, ek⟩ | ⟨z, d, kvs, e1, e2, g, ek⟩ <;> rw [ek] at q
    · exact .inl ⟨i, j, e1, e2, q⟩
    · exact .inr (.inl ⟨p, xs, e1, hq, f1, f2, q⟩)
    · exact .inr (.inr (.inl ⟨d, ds, d1, d2, s1, s2, q⟩))
    · exact .inr (.inr (.inr (.inl ⟨a', ov, e1, g, q⟩)))
    · exact .inr (.inr (.inr (.inr ⟨z, d, kvs, e1, e2, g, q⟩)))
theorem p_notIn (hu : X.A.units + 65 < cLine) : P2 X (compareOp .NotIn) notInP := by
  refine ⟨_, (op_notin_str (X := X)).or ((op_notIn_seq (X := X)).or ((op_notInD hu).or ((op_notIn_dct (X := X) (by omega)).or op_notIn_dcK))), fun c v u a b Q o ra rb h => ?_⟩
  unfold notInP at h
  cases e : inD a b with
  | none => rw [e] at h; exact h.elim
  | some k =>
    rw [e] at h
    have q := h.now o (v := .bl (!k)) (.bl (!k))
    rcases in_cases o ra rb e with ⟨i, j, e1, e2, ek⟩ | ⟨p, xs, e1, hq, f1, f2, ek⟩ | ⟨d, ds, d1, d2, s1, s2, ek⟩ | ⟨a', ov, e1, g, ek⟩ | ⟨z, d, kvs, e1, e2, g, ek⟩ <;> rw [ek] at q
    · exact .inl ⟨i, j, e1, e2, q⟩
    · exact .inr (.inl ⟨p, xs, e1, hq, f1, f2, q⟩)
    · exact .inr (.inr (.inl ⟨d, ds, d1, d2, s1, s2, q⟩))
    · exact .inr (.inr (.inr (.inl ⟨a', ov, e1, g, q⟩)))
    · exact .inr (.inr (.inr (.inr ⟨z, d, kvs, e1, e2, g, q⟩)))
/-- x is None -/
def isN : D → Bool
  | .non => true
  | _ => false
def known : D → Bool
  | .raw _ => false
  | _ => true
def isP (a b : D) : Option RV := if known a = true ∧ isN b = true then vB (isN a) else none
def isNotP (a b : D) : Option RV := if known a = true ∧ isN b = true then vB (!isN a) else none
theorem isN_rd {K : PySem.W.Frag} {c : Cfg} {v : V} {a : D} (h : RdD K c v a) (k : known a = true) : decide (v = .non) = isN a := by
  rcases h with h | ⟨p, rfl, h⟩
  · cases h <;> first | rfl | cases k
  · cases a <;> first | exact h.elim | rfl
theorem isN_non {K : PySem.W.Frag} {c : Cfg} {v : V} {a : D} (h : RdD K c v a) (k : isN a = true) : v = .non := by
  cases a <;> first | cases k | skip
  exact h.non
theorem p_is : P2 X (compareOp .Is) isP := by
  refine ⟨_, op_isN, fun c v u a b Q o ra rb h => ?_⟩
  unfold isP at h
  split at h
  · rename_i hk
    exact ⟨isN_non rb hk.2, by rw [isN_rd ra hk.1]; exact h.now o (.bl _)⟩
  · exact h.elim
theorem p_isNot : P2 X (compareOp .IsNot) isNotP := by
  refine ⟨_, op_notN, fun c v u a b Q o ra rb h => ?_⟩
  unfold isNotP at h
  split at h
  · rename_i hk
    exact ⟨isN_non rb hk.2, by rw [isN_rd ra hk.1]; exact h.now o (.bl _)⟩
  · exact h.elim

/-! ### a < b < c -/
def chB (p q : D → D → Option RV) (fa fb fc : Ft) : Fb := fun g => (settle (fa g)).bind fun x g1 => (settle (fb g1)).bind fun y g2 => (blF (fun g => lift2 p x y g) g2).bind fun k g3 =>
  if k = true then (settle (fc g3)).bind fun z g4 => blF (fun g => lift2 q y z g) g4 else .ok false g3
def P2B (p : D → D → Option RV) : Prop := ∀ a b r, p a b = some r → ∃ k, r = .val (.bl k)
theorem vt_chain {op op' : CmpOp} {p q : D → D → Option RV} {a b c : Expr} {fa fb fc : Ft} {pos : Pos} (h : P2 X (compareOp op) p) (h' : P2 X (compareOp op') q) (ha : VE X W a fa) (hb : VE X W b fb) (hc : VE X W c fc)
    (hm : lastMarks [op, op'] [b, c] = false := by with_unfolding_all rfl) : VT X W (.Compare a [op, op'] [b, c] pos) (chB p q fa fb fc) := by
  obtain ⟨r, hr, k⟩ := h.ex
  obtain ⟨r', hr', k'⟩ := h'.ex
  refine ⟨PT.imp (pt_chain hr hr' ha.pe hb.pe hc.pe hm) fun σ H Q ⟨I, g, o, h1⟩ => ?_⟩
  refine ⟨I, g, o, Rem.settle ((Rem.bind (R := RvR X.K) h1).mono ?_)⟩
  rintro v H1 ⟨I1, g1, x, o1, y1, rx, h2⟩
  refine ⟨I1, g1, o1, Rem.settle ((Rem.bind (R := RvR X.K) h2).mono ?_)⟩
  rintro u H2 ⟨I2, g2, y, o2, y2, ry, h3⟩
  have rx2 := RvR.on (c1 := ⟨I1, σ, H1, g1⟩) o2 rfl y2 rx
  have h4 := blF_rem (Rem.bind (R := RbR) h3)
  obtain ⟨da, db, ra, rb, gv⟩ := lift2_gives (c := ⟨I2, σ, H2, g2⟩) o2 rx2 ry h4
  refine k ⟨I2, σ, H2, g2⟩ v u da db _ o2 ra rb ?_
  cases ep : p da db with
  | none => rw [ep] at gv; exact gv.elim
  | some rv =>
    rw [ep] at gv
    intro I3 H3 w o3 y3 rw3
    obtain ⟨kb, ew, I4, g4, x4, o4, y4, e4, h5⟩ := gv I3 H3 w o3 y3 rw3
    subst e4
    refine ⟨kb, ew, ?_⟩
    cases kb with
    | false => exact ⟨false, rfl, h5 I4 H3 false o4 (Go.refl _) rfl⟩
    | true =>
      refine ⟨I4, g4, o4, Rem.settle ((Rem.bind (R := RvR X.K) h5).mono ?_)⟩
      rintro z H5 ⟨I5, g5, x5, o5, y5, rz, h6⟩
      obtain ⟨dc, dd, rc, rd, gv2⟩ := lift2_gives (c := ⟨I5, σ, H5, g5⟩) o5 (RvR.on (c1 := ⟨I2, σ, H2, g2⟩) o5 rfl (y4.trans y5) ry) rz (blF_rem h6)
      exact k' ⟨I5, σ, H5, g5⟩ u z dc dd _ o5 rc rd gv2
end
end Vl

set_option Elab.async false
set_option linter.all false
set_option maxRecDepth 100000
set_option maxHeartbeats 2000000
/-! the value layer: items, slices, arguments, displays, calls of built-ins -/
namespace Vl
open PySem PySem.Spec PyProof.Rows L2 My
section
variable {X : Cx} {W : WX}

/-! ### a[i] -/
def ixP : D → D → Option RV
  | .lst xs, .int i => (atI xs i).map .val
  | .seq xs, .int i => (atI xs i).map .val
  | .tup xs, .int i => (atI xs i).map .val
  | .str z, .int i => if z.length ≤ sizeLine then (atI z.cps.toList i).map fun c => .val (.str ⟨#[c]⟩) else none
  | .dct kvs, k => ((keyOf k).bind fun k => valD kvs k).map .val
  | .kdc kvs, .str z => (kvs.lookup z).map .val
  | _, _ => none
theorem reps_atI {K : PySem.W.Frag} {I : Hp} {vs : List V} {ds : List D} {i : Int} {d : D} (r : Reps K I vs ds) (e : atI ds i = some d) : ∃ v, atI vs i = some v ∧ Rep K I v d := by
  unfold atI at e ⊢
  rw [r.length]
  cases q : ixN ds.length i with
  | none => rw [q] at e; cases e
  | some j => rw [q] at e; exact r.get e
theorem ix_dct (hu : X.A.units + 1 < cLine) : IxR X (fun x y H Q => ∃ a v, x = .ref a ∧ DGet H a y (some v) ∧ Q v H) := by
  rintro value slice pins s σ H x y v u Q I rx ry ⟨a, w, rfl, g, q⟩ hs
  cases rx
  exact tail_any (dict_typeIs I g) PySem.F.slot_dict_getitem.lookup (d_getItem hu I g ry fun w' s' I' r => ⟨w, H, I', r, q⟩) hs
theorem ve_ix {a b : Expr} {fa fb : Ft} {pos : Pos} (hu : X.A.units + 1 < cLine) (ha : VE X W a fa) (hb : VE X W b fb) (hs : PlainIx b := by exact fun _ _ => rfl) : VE X W (.Subscript a b pos) (op2 ixP fa fb) := by
  refine ⟨pe_imp (pe_ix ((ix_seq (X := X)).or ((ix_dct hu).or ix_kdict)) ha.pe hb.pe hs) fun σ H Q q => rd2 q fun c v u a b _ o ra rb h => ?_⟩
  cases a <;> cases b <;> simp only [ixP] at h <;> first | exact h.elim | skip
  all_goals first
    | (rename_i z i
       rw [ra.str, rb.int]
       split at h
       · cases e : atI z.cps.toList i with
         | none => rw [e] at h; exact h.elim
         | some d => rw [e] at h; exact .inl (.inr (.inr ⟨z, i, d, rfl, rfl, by assumption, e, h.now o (.str _)⟩))
       · exact h.elim)
    | (rename_i xs i
       obtain ⟨p, us, rfl, hp, rp⟩ := ra.lst o
       cases e : atI xs i with
       | none => rw [e] at h; exact h.elim
       | some d =>
         rw [e] at h
         obtain ⟨w, hw, rw'⟩ := reps_atI rp e
         rw [rb.int]
         exact .inl (.inl ⟨p, us, i, w, rfl, rfl, SqL.of hp, hw, h.now o rw'⟩))
    | (rename_i xs i
       obtain ⟨p, us, rfl, hp, rp⟩ := ra.seq o
       cases e : atI xs i with
       | none => rw [e] at h; exact h.elim
       | some d =>
         rw [e] at h
         obtain ⟨w, hw, rw'⟩ := reps_atI rp e
         rw [rb.int]
         exact .inl (.inl ⟨p, us, i, w, rfl, rfl, hp, hw, h.now o rw'⟩))
    | (rename_i xs i
       obtain ⟨p, us, rfl, hp, rp⟩ := ra.tup o
       cases e : atI xs i with
       | none => rw [e] at h; exact h.elim
       | some d =>
         rw [e] at h
         obtain ⟨w, hw, rw'⟩ := reps_atI rp e
         rw [rb.int]
         exact .inl (.inr (.inl ⟨p, us, i, w, rfl, rfl, hp, hw, h.now o rw'⟩)))
    | (rename_i xs i
       obtain ⟨p, us, rfl, hp, rp⟩ := ra.dct o
       simp only [keyOf, Option.bind_some, Option.bind_none, Option.map_none] at h
       first | exact h.elim | skip
       cases e : valD xs (.inl i) with
       | none => rw [e] at h; exact h.elim
       | some d =>
         rw [e] at h
         obtain ⟨w, hw, rw'⟩ := (rp.val).1 d e
         rw [rb.int]
         exact .inr (.inl ⟨p, w, rfl, .inl ⟨us, .inl i, .inl hp, rfl, hw.symm⟩, h.now o rw'⟩))
    | (rename_i xs i
       obtain ⟨p, us, rfl, hp, rp⟩ := ra.dct o
       simp only [keyOf, Option.bind_some, Option.bind_none, Option.map_none] at h
       first | exact h.elim | skip
       cases e : valD xs (.inr i) with
       | none => rw [e] at h; exact h.elim
       | some d =>
         rw [e] at h
         obtain ⟨w, hw, rw'⟩ := (rp.val).1 d e
         rw [rb.str]
         exact .inr (.inl ⟨p, w, rfl, .inl ⟨us, .inr i, .inl hp, rfl, hw.symm⟩, h.now o rw'⟩))
    | (rename_i xs i
       obtain ⟨p, us, rfl, ⟨es, n, h1, h2, h3, h4⟩, rp⟩ := ra.kdc
       cases e : xs.lookup i with
       | none => rw [e] at h; exact h.elim
       | some d =>
         rw [e] at h
         obtain ⟨w, hw, rw'⟩ := rp.get e
         obtain ⟨r, e1, rr⟩ := h4 i
         rw [hw] at rr
         obtain ⟨u0, rfl, ru⟩ : ∃ u0, r = some u0 ∧ RelV w u0 := by
           cases r with
           | none => exact rr.elim
           | some u0 => exact ⟨u0, rfl, rr⟩
         rw [rb.str]
         exact .inr (.inr ⟨p, i, w, rfl, rfl, ⟨es, n, u0, h1, h2 X.w, e1, ru⟩, h.now o rw'⟩))
    | (simp only [keyOf, Option.bind_none, Option.map_none] at h; exact h.elim)

/-! ### a[lo:hi] -/
def cutD (xs : List D) (lo hi : Option Int) : List D := (xs.drop (HT.sIx xs.length 0 lo)).take (HT.sIx xs.length xs.length hi - HT.sIx xs.length 0 lo)
theorem Reps.cut {K : PySem.W.Frag} {I : Hp} {vs : List V} {ds : List D} (r : Reps K I vs ds) (lo hi : Option Int) : Reps K I (cutV vs lo hi) (cutD ds lo hi) := by
  unfold cutV cutD
  rw [r.length]
  exact (r.drop _).take _
def slP (a : D) (lo hi : Option Int) : Option RV := match a with
  | .lst xs => some (.fr (.lst (cutD xs lo hi)))
  | .seq xs => some (.fr (.lst (cutD xs lo hi)))
  | .tup xs => some (.val (.tup (cutD xs lo hi)))
  | .str z => if z.length ≤ sizeLine then some (.val (.str (cutS z lo hi))) else none
  | _ => none
/-- a part of a slice: nothing, an int -/
def optF (o : Option Ft) (k : Option Int → Sg → Res RV) : Sg → Res RV := fun g => match o with
  | none => k none g
  | some f => (settle (f g)).bind fun x g1 => match deref g1 x with
    | some (.int i) => k (some i) g1
    | _ => .stuck
def slF (fa : Ft) (lo hi : Option Ft) : Ft := fun g => (settle (fa g)).bind fun x g1 => optF lo (fun l g2 => optF hi (fun h g3 => lift1 (fun d => slP d l h) x g3) g2) g1
inductive VO (X : Cx) (W : WX) : Option Expr → Option Ft → Prop
  | none : VO X W none none
  | some {e : Expr} {f : Ft} (h : VE X W e f) : VO X W (some e) (some f)
theorem VO.po {e : Option Expr} {f : Option Ft} (h : VO X W e f) : ∃ t, PO X e t ∧ ∀ (σ : L2.St) (H : Hp) (I : Hp) (g : Sg) (k : Option Int → Sg → Res RV) (Q : VK) (R : Option Int → Hp → Prop), Ok X.K ⟨I, σ, H, g⟩ → Rem X.K W (RvR X.K) ⟨I, σ, H, g⟩ (optF f k g) Q →
    (∀ o H1 I1 g1, Ok X.K ⟨I1, σ, H1, g1⟩ → Go ⟨I, σ, H, g⟩ ⟨I1, σ, H1, g1⟩ → Rem X.K W (RvR X.K) ⟨I1, σ, H1, g1⟩ (k o g1) Q → R o H1) → t σ H R := by
  cases h with
  | none => exact ⟨_, po_none, fun σ H I g k Q R o r m => m Option.none H I g o (Go.refl _) r⟩
  | some h =>
    refine ⟨_, po_some h.pe, fun σ H I g k Q R o r m => ⟨I, g, o, Rem.settle ((Rem.bind (R := RvR X.K) r).mono ?_)⟩⟩
    rintro v H1 ⟨I1, g1, x, o1, y1, rx, r1⟩
    split at r1
    · rename_i i e
      exact ⟨i, (deref_rd o1 rx e).int, m _ _ I1 g1 o1 y1 r1⟩
    · exact r1.elim
theorem ve_slice {e : Expr} {lo hi : Option Expr} {fe : Ft} {fl fh : Option Ft} {pos p2 : Pos} (he : VE X W e fe) (hl : VO X W lo fl) (hh : VO X W hi fh) : VE X W (.Subscript e (.Slice lo hi none p2) pos) (slF fe fl fh) := by
  obtain ⟨tl, pl, kl⟩ := hl.po
  obtain ⟨th, ph, kh⟩ := hh.po
  refine ⟨pe_imp (pe_slice ((sl_list (X := X)).or ((sl_tupA (X := X)).or sl_str)) he.pe pl ph) fun σ H Q ⟨I, g, o, r⟩ => ?_⟩
  refine ⟨I, g, o, Rem.settle ((Rem.bind (R := RvR X.K) r).mono ?_)⟩
  rintro v H1 ⟨I1, g1, x, o1, y1, rx, r1⟩
  refine kl σ H1 I1 g1 _ _ _ o1 r1 fun l H2 I2 g2 o2 y2 r2 => ?_
  refine kh σ H2 I2 g2 _ _ _ o2 r2 fun u H3 I3 g3 o3 y3 r3 => ?_
  obtain ⟨d, rd, h⟩ := lift1_gives (c := ⟨I3, σ, H3, g3⟩) o3 (RvR.on (c1 := ⟨I1, σ, H1, g1⟩) o3 rfl (y2.trans y3) rx) r3
  cases d <;> simp only [slP] at h <;> first | exact h.elim | skip
  · rename_i z
    split at h
    · exact .inr (.inr ⟨z, rd.str, by assumption, h.now o3 (.str _)⟩)
    · exact h.elim
  · rename_i xs
    obtain ⟨p, us, rfl, hp, rp⟩ := rd.lst o3
    exact .inl ⟨p, us, rfl, SqL.of hp, fun q hq => h.fresh o3 ⟨hq⟩ (Xb.new hq) ⟨_, upd_same, rp.cut l u⟩⟩
  · rename_i xs
    obtain ⟨p, us, rfl, hp, rp⟩ := rd.seq o3
    exact .inl ⟨p, us, rfl, hp, fun q hq => h.fresh o3 ⟨hq⟩ (Xb.new hq) ⟨_, upd_same, rp.cut l u⟩⟩
  · rename_i xs
    obtain ⟨p, us, rfl, hp, rp⟩ := rd.tup o3
    refine .inr (.inl ⟨p, us, rfl, hp, fun hw => ?_, fun hw q hq => h.froz o3 ⟨hq⟩ (Xb.new hq) upd_same .tup fun I' l' e => .tup (SqT.of e) ((rp.cut l u).mono l')⟩)
    have e : cutD xs l u = xs := by
      unfold cutD
      rw [rp.length] at hw
      rw [hw.1, hw.2, List.drop_zero, Nat.sub_zero, List.take_length]
    rw [e] at h
    rcases rd with rd | ⟨_, _, rd⟩
    · exact h.now o3 rd
    · exact rd.elim

/-! ### argument lists -/
/-- values of expressions from the left; new objects are values at once, what a slot holds is told by the slot -/
def evA : List Ft → Sg → Res (List RV)
  | [], g => .ok [] g
  | f :: fs, g => (settle (f g)).bind fun x g1 => (evA fs g1).bind fun xs g2 => .ok (x :: xs) g2
def RvsR (K : PySem.W.Frag) : Rel (List V) (List RV) := fun _ c vs rs => Paired (fun v r => ∃ c', RvR K c' c v r ∧ ∀ d, r ≠ .fr d) vs rs
instance (K : PySem.W.Frag) : GoR (RvsR K) := ⟨fun _ h => h⟩
def rdA (K : PySem.W.Frag) (W : WX) (fs : List Ft) : TA := fun σ H Q => ∃ I g, Ok K ⟨I, σ, H, g⟩ ∧ Rem K W (RvsR K) ⟨I, σ, H, g⟩ (evA fs g) Q
structure VA (X : Cx) (W : WX) (es : List Expr) (fs : List Ft) : Prop where
  pa : PA X es (rdA X.K W fs)
theorem RvsR.on {K : PySem.W.Frag} {c0 c1 c2 : Cfg} (o2 : Ok K c2) (e : c2.σ = c1.σ) (x : Go c1 c2) : ∀ {vs : List V} {rs : List RV}, RvsR K c0 c1 vs rs → RvsR K c0 c2 vs rs
  | _, _, .nil => .nil
  | _, _, .cons ⟨c', h, n⟩ t => .cons ⟨c', RvR.on o2 e x h, n⟩ (RvsR.on (c0 := c0) o2 e x t)
theorem settle_nofr {r : Res RV} {x : RV} {g : Sg} (h : settle r = .ok x g) : ∀ d, x ≠ .fr d := by
  intro d e
  subst e
  cases r with
  | ok y g' => cases y <;> cases h
  | exn c fs g' => cases h
  | stuck => cases h
theorem va_nil : VA X W [] [] := ⟨⟨fun pos pins s σ H Q I ⟨J, g, o, r⟩ => pa_nil.run pos pins s σ H Q I (r J H [] o (Go.refl _) .nil)⟩⟩
theorem pa_imp {es : List Expr} {t t' : TA} (h : PA X es t) (k : ∀ σ H Q, t' σ H Q → t σ H Q) : PA X es t' := ⟨fun pos pins s σ H Q I hw => h.run pos pins s σ H Q I (k σ H Q hw)⟩
theorem va_cons {e : Expr} {es : List Expr} {f : Ft} {fs : List Ft} (he : VE X W e f) (hs : VA X W es fs) (hst : starEach (e :: es) X.env = (false, eval e X.env) :: starEach es X.env := by rfl) : VA X W (e :: es) (f :: fs) := by
  refine ⟨pa_imp (pa_cons he.pe hs.pa hst) fun σ H Q ⟨I, g, o, r⟩ => ?_⟩
  refine ⟨I, g, o, Rem.settle ?_⟩
  have nf : ∀ x g', settle (f g) = .ok x g' → ∀ d, x ≠ .fr d := fun x g' h => settle_nofr h
  have r' : Rem X.K W (RvsR X.K) ⟨I, σ, H, g⟩ ((settle (f g)).bind fun x g1 => (evA fs g1).bind fun xs g2 => .ok (x :: xs) g2) Q := r
  revert nf r'
  generalize settle (f g) = sr
  intro nf r'
  cases sr with
  | stuck => exact r'
  | exn c fs' g' => exact r'
  | ok x g1 =>
    intro I1 H1 v o1 y1 rx
    have r1 : Rem X.K W (RvsR X.K) ⟨I1, σ, H1, g1⟩ ((evA fs g1).bind fun xs g2 => .ok (x :: xs) g2) Q := Rem.go (c0 := ⟨I, σ, H, g⟩) (c1 := ⟨I1, σ, H1, g1⟩) y1 rfl r'
    refine ⟨I1, g1, o1, (Rem.bind (R := RvsR X.K) r1).mono ?_⟩
    rintro vs H2 ⟨I2, g2, xs, o2, y2, rxs, r2⟩
    exact r2 I2 H2 (v :: vs) o2 (Go.refl _) (.cons ⟨_, RvR.on (c1 := ⟨I1, σ, H1, g1⟩) o2 rfl y2 rx, nf x g1 rfl⟩ rxs)
/-- .. each a value: what slots hold is a value from here on -/
def frz1 (x : RV) (g : Sg) : Option (D × Sg) := match x with
  | .val d => some (d, g)
  | .fr d => some (d, g)
  | .at_ i => match g[i]? with
    | some (.own t d) => some (d, g.set i (.val t d))
    | some (.val _ d) => some (d, g)
    | _ => none
def frzA : List RV → Sg → Option (List D × Sg)
  | [], g => some ([], g)
  | x :: xs, g => (frz1 x g).bind fun p => (frzA xs p.2).map fun q => (p.1 :: q.1, q.2)
theorem get_set_of {α : Type} {l : List α} {i j : Nat} {x y : α} (h : (l.set i x)[j]? = some y) : (j = i ∧ y = x) ∨ (j ≠ i ∧ l[j]? = some y) := by
  by_cases e : i = j
  · subst e
    rw [List.getElem?_set] at h
    split at h
    · split at h
      · cases h; exact .inl ⟨rfl, rfl⟩
      · cases h
    · exact absurd rfl ‹¬ i = i›
  · rw [List.getElem?_set_ne e] at h
    exact .inr ⟨fun q => e q.symm, h⟩
/-- the object of a slot becomes a value -/
theorem Ok.frzSl {K : PySem.W.Frag} {I H : Hp} {σ : L2.St} {g : Sg} {i : Nat} {t : Bool} {d : D} (o : Ok K ⟨I, σ, H, g⟩) (h : g[i]? = some (.own t d)) :
    ∃ a u, σ[i]? = some (some (.ref a)) ∧ H a = some u ∧ I a = none ∧ Ok K ⟨upd I a u, σ, H, g.set i (.val t d)⟩ ∧ Go ⟨I, σ, H, g⟩ ⟨upd I a u, σ, H, g.set i (.val t d)⟩ ∧ Rep K (upd I a u) (.ref a) d := by
  obtain ⟨v, e1, a, e2, r, n⟩ := o.sl i _ h
  subst e2
  have e1 : σ[i]? = some (some (V.ref a)) := e1
  obtain ⟨u, hu⟩ := r.some
  have rr : Rep K (upd I a u) (.ref a) d := r.rep (Le.upd n) (upd_same.trans hu.symm)
  have sub : ∀ (j : Nat) (t' : Bool) (d' : D), (g.set i (.val t d))[j]? = some (.own t' d') → j ≠ i ∧ g[j]? = some (.own t' d') := fun j t' d' q => by
    rcases get_set_of q with ⟨_, q⟩ | q
    · cases q
    · exact q
  have nea : ∀ (j : Nat) (t' : Bool) (d' : D) (b : Addr), j ≠ i → g[j]? = some (.own t' d') → σ[j]? = some (some (.ref b)) → b ≠ a := fun j t' d' b nj q qb z => by
    subst z
    exact nj (o.dist j i t' t d' d q h (qb.trans e1.symm))
  refine ⟨a, u, e1, hu, n, ⟨fun b w e => ?_, fun j s q => ?_, fun j k t' t'' d' d'' q q' e => ?_, o.nt.upd (r.ntb hu), o.tab.mono (Le.upd n) fun _ _ e => e⟩, ⟨Le.upd n, fun b w e _ _ => e, fun b e => e, fun b e e' => ?_, fun b q => ?_, fun b q => ?_, fun j s' q tg => ?_⟩, rr⟩
  · have e : upd I a u b = some w := e
    by_cases z : b = a
    · subst z; rw [upd_same] at e; rw [← e]; exact hu
    · rw [upd_ne z] at e; exact o.sub b w e
  · rcases get_set_of q with ⟨rfl, rfl⟩ | ⟨nj, q⟩
    · exact ⟨_, e1, _, rfl, rr⟩
    · obtain ⟨v', e', r'⟩ := o.sl j s q
      refine ⟨v', e', r'.mono (Le.upd n) fun b t' d' es ev => ⟨rfl, ?_⟩⟩
      subst es ev
      obtain ⟨b', eb, _, nb⟩ := r'
      cases eb
      show upd I a u b = none
      rw [upd_ne (nea j t' d' b nj q e')]
      exact nb
  · exact o.dist j k t' t'' d' d'' (sub j t' d' q).2 (sub k t'' d'' q').2 e
  · by_cases z : b = a
    · subst z; exact .inl ⟨i, t, d, h, e1⟩
    · exact absurd (show upd I a u b = none by rw [upd_ne z]; exact e) e'
  · obtain ⟨j, t', d', q1, q2⟩ := q
    exact .inl ⟨j, t', d', (sub j t' d' q1).2, q2⟩
  · obtain ⟨j, d', q1, q2⟩ := q
    exact .inl ⟨j, d', (sub j false d' q1).2, q2⟩
  · rcases get_set_of q with ⟨rfl, rfl⟩ | ⟨nj, q⟩
    · exact ⟨⟨_, h, tg⟩, rfl⟩
    · exact ⟨⟨s', q, tg⟩, rfl⟩
theorem frz1_ok {K : PySem.W.Frag} {c0 c' : Cfg} {I H : Hp} {σ : L2.St} {g g' : Sg} {v : V} {x : RV} {d : D} (o : Ok K ⟨I, σ, H, g⟩) (rx : RvR K c' ⟨I, σ, H, g⟩ v x) (nf : ∀ d, x ≠ .fr d) (h : frz1 x g = some (d, g')) :
    ∃ I', Ok K ⟨I', σ, H, g'⟩ ∧ Go ⟨I, σ, H, g⟩ ⟨I', σ, H, g'⟩ ∧ Rep K I' v d := by
  cases x with
  | val d' => cases h; exact ⟨I, o, Go.refl _, rx⟩
  | fr d' => exact absurd rfl (nf d')
  | at_ i =>
    have rx : σ[i]? = some (some v) := rx
    simp only [frz1] at h
    split at h
    · rename_i t d' q
      cases h
      obtain ⟨a, u, e1, _, _, o', y', r'⟩ := o.frzSl q
      rw [rx] at e1
      cases e1
      exact ⟨_, o', y', r'⟩
    · rename_i t d' q
      cases h
      obtain ⟨w, e1, w', e2, r⟩ := o.sl i _ q
      have e1 : σ[i]? = some w := e1
      rw [rx] at e1
      cases e1
      cases e2
      exact ⟨I, o, Go.refl _, r⟩
    · cases h
theorem frzA_ok {K : PySem.W.Frag} {c0 : Cfg} {H : Hp} {σ : L2.St} : ∀ {xs : List RV} {vs : List V} {I : Hp} {g g' : Sg} {ds : List D}, Ok K ⟨I, σ, H, g⟩ → RvsR K c0 ⟨I, σ, H, g⟩ vs xs → frzA xs g = some (ds, g') →
    ∃ I', Ok K ⟨I', σ, H, g'⟩ ∧ Go ⟨I, σ, H, g⟩ ⟨I', σ, H, g'⟩ ∧ Reps K I' vs ds
  | [], _, I, g, g', ds, o, .nil, h => by cases h; exact ⟨I, o, Go.refl _, .nil⟩
  | x :: xs, v :: vs, I, g, g', ds, o, .cons ⟨c', rx, nf⟩ t, h => by
    simp only [frzA, Option.bind_eq_some_iff, Option.map_eq_some_iff] at h
    obtain ⟨⟨d, g1⟩, h1, ⟨ds', g2⟩, h2, h3⟩ := h
    cases h3
    obtain ⟨I1, o1, y1, r1⟩ := frz1_ok (c0 := c0) o rx nf h1
    obtain ⟨I2, o2, y2, r2⟩ := frzA_ok (c0 := c0) o1 (RvsR.on (c0 := c0) (c1 := ⟨I, σ, H, g⟩) o1 rfl y1 t) h2
    exact ⟨I2, o2, y1.trans y2, .cons (r1.mono y2.sub) r2⟩
end
end Vl

set_option Elab.async false
set_option linter.all false
set_option maxRecDepth 100000
set_option maxHeartbeats 2000000
/-! the value layer: displays, calls of built-ins -/
namespace Vl
open PySem PySem.Spec PyProof.Rows L2 My
section
variable {X : Cx} {W : WX}
/-- the arguments, each a value, then k -/
def valsF (fs : List Ft) (k : List D → Option RV) : Ft := fun g => (evA fs g).bind fun xs g1 => match frzA xs g1 with
  | some (ds, g2) => (match k ds with | some r => .ok r g2 | none => .stuck)
  | none => .stuck
theorem valsF_rd {fs : List Ft} {k : List D → Option RV} {σ : L2.St} {H : Hp} {Q : VK} {R : List V → Hp → Prop} (h : rdE X.K W (valsF fs k) σ H Q)
    (hr : ∀ c vs ds, c.σ = σ → Ok X.K c → Reps X.K c.I vs ds → Gives X.K c (k ds) Q → R vs c.H) : rdA X.K W fs σ H R := by
  obtain ⟨I, g, o, r⟩ := h
  refine ⟨I, g, o, (Rem.bind (R := RvsR X.K) r).mono ?_⟩
  rintro vs H1 ⟨I1, g1, xs, o1, y1, rx, r1⟩
  dsimp only at r1
  cases e : frzA xs g1 with
  | none => rw [e] at r1; exact r1.elim
  | some p =>
    obtain ⟨ds, g2⟩ := p
    rw [e] at r1
    obtain ⟨I2, o2, y2, rr⟩ := frzA_ok o1 rx e
    exact hr ⟨I2, σ, H1, g2⟩ vs ds rfl o2 rr (gives_of (W := W) (Rem.go (c0 := ⟨I1, σ, H1, g1⟩) (c1 := ⟨I2, σ, H1, g2⟩) y2 rfl r1))
def lstP (ds : List D) : Option RV := if ds.length ≤ sizeLine then some (.fr (.lst ds)) else none
def tupP (ds : List D) : Option RV := if ds.length ≤ sizeLine then some (.val (.tup ds)) else none
theorem ve_lst {es : List Expr} {fs : List Ft} {pos : Pos} (ha : VA X W es fs) : VE X W (.List es pos) (valsF fs lstP) := by
  refine ⟨pe_imp (px_lst ha.pa) fun σ H Q q => valsF_rd q fun c vs ds _ o rr h => ?_⟩
  unfold lstP at h
  split at h
  · exact ⟨by rw [rr.length]; assumption, fun p H' fr x hp => h.fresh o fr x ⟨vs, hp, rr⟩⟩
  · exact h.elim
theorem ve_tup {es : List Expr} {fs : List Ft} {pos : Pos} {k : Nat} (ha : VA X W es fs) : VE X W (.Tuple es k pos) (valsF fs tupP) := by
  refine ⟨pe_imp (px_tup ha.pa) fun σ H Q q => valsF_rd q fun c vs ds _ o rr h => ?_⟩
  unfold tupP at h
  split at h
  · exact ⟨by rw [rr.length]; assumption, fun p H' fr x hp => h.froz o fr x hp .tup fun I' l e => .tup (SqT.of e) (rr.mono l)⟩
  · exact h.elim
theorem ve_dnew {pos : Pos} : VE X W (.Dict [] [] pos) (fun g => .ok (.fr (.dct [])) g) := by
  refine ⟨pe_imp px_dnew fun σ H Q ⟨I, g, o, r⟩ p H' fr x hp => ?_⟩
  exact Gives.fresh (c := ⟨I, σ, H, g⟩) (d := .dct []) (gives_of (W := W) r) o fr x ⟨[], hp, .nil⟩

/-! ### calls of built-ins -/
/-- the arguments as they can be read -/
def derefA (g : Sg) : List RV → Option (List D)
  | [] => some []
  | x :: xs => (deref g x).bind fun d => (derefA g xs).map (d :: ·)
def callF (p : List D → Option RV) (fs : List Ft) : Ft := fun g => (evA fs g).bind fun xs g1 => match derefA g1 xs with
  | some ds => (match p ds with | some r => .ok r g1 | none => .stuck)
  | none => .stuck
structure PCl (X : Cx) (f : Value) (p : List D → Option RV) : Prop where
  ex : ∃ r : List V → Hp → VK → Prop, CallR X f r ∧ ∀ c vs ds Q, Ok X.K c → Paired (RdD X.K c) vs ds → Gives X.K c (p ds) Q → r vs c.H Q
theorem derefA_rd {K : PySem.W.Frag} {c0 c : Cfg} (o : Ok K c) : ∀ {vs : List V} {xs : List RV} {ds : List D}, RvsR K c0 c vs xs → derefA c.g xs = some ds → Paired (RdD K c) vs ds
  | [], [], ds, .nil, h => by cases h; exact .nil
  | v :: vs, x :: xs, ds, .cons ⟨c', rx, nf⟩ t, h => by
    simp only [derefA, Option.bind_eq_some_iff, Option.map_eq_some_iff] at h
    obtain ⟨d, h1, ds', h2, rfl⟩ := h
    exact .cons (deref_rd o rx h1) (derefA_rd (c0 := c0) o t h2)
theorem callF_rd {fs : List Ft} {p : List D → Option RV} {σ : L2.St} {H : Hp} {Q : VK} {R : List V → Hp → Prop} (h : rdE X.K W (callF p fs) σ H Q)
    (hr : ∀ c vs ds, c.σ = σ → Ok X.K c → Paired (RdD X.K c) vs ds → Gives X.K c (p ds) Q → R vs c.H) : rdA X.K W fs σ H R := by
  obtain ⟨I, g, o, r⟩ := h
  refine ⟨I, g, o, (Rem.bind (R := RvsR X.K) r).mono ?_⟩
  rintro vs H1 ⟨I1, g1, xs, o1, y1, rx, r1⟩
  dsimp only at r1
  cases e : derefA g1 xs with
  | none => rw [e] at r1; exact r1.elim
  | some ds =>
    rw [e] at r1
    exact hr ⟨I1, σ, H1, g1⟩ vs ds rfl o1 (derefA_rd (c := ⟨I1, σ, H1, g1⟩) o1 rx e) (gives_of (W := W) r1)
section
variable {p p1 : Pos} {pos : Pos} {x : Str} {e : Expr} {es : List Expr} {fs : List Ft} {id T : String} {pf : List D → Option RV}
theorem ve_callB (hc : PCl X (.builtin id) pf) (hg : Gl X x) (hm : X.mg x = none) (hv : bootBuiltins x = some (.builtin id)) (ha : VA X W (e :: es) fs) (hn : x ≠ "__name__" := by decide) (hdb : (x == ("__debug__" : Str)) = false := by decide)
    (he : starEach (e :: es) X.env = (false, eval e X.env) :: starEach es X.env := by rfl) (hpl : (backTo pos (starEach es X.env)).any (·.1) = false := by rfl) : VE X W (.Call (.Name x p) (e :: es) [] pos) (callF pf fs) := by
  obtain ⟨r, h1, h2⟩ := hc.ex
  exact ⟨pe_imp (pe_callB h1 hg hm hv ha.pa hn hdb he hpl) fun σ H Q q => callF_rd q fun c vs ds _ o rr h => h2 c vs ds Q o rr h⟩
theorem ve_callTy (hc : PCl X (.type T) pf) (hg : Gl X x) (hm : X.mg x = none) (hv : bootBuiltins x = some (.type T)) (ha : VA X W (e :: es) fs) (hn : x ≠ "__name__" := by decide) (hdb : (x == ("__debug__" : Str)) = false := by decide)
    (he : starEach (e :: es) X.env = (false, eval e X.env) :: starEach es X.env := by rfl) (hpl : (backTo pos (starEach es X.env)).any (·.1) = false := by rfl) : VE X W (.Call (.Name x p) (e :: es) [] pos) (callF pf fs) := by
  obtain ⟨r, h1, h2⟩ := hc.ex
  exact ⟨pe_imp (pe_callTy h1 hg hm hv ha.pa hn hdb he hpl) fun σ H Q q => callF_rd q fun c vs ds _ o rr h => h2 c vs ds Q o rr h⟩
end
theorem paired1 {K : PySem.W.Frag} {c : Cfg} {vs : List V} {d : D} (h : Paired (RdD K c) vs [d]) : ∃ v, vs = [v] ∧ RdD K c v d := by
  cases h with
  | cons a t => cases t; exact ⟨_, rfl, a⟩
theorem paired2 {K : PySem.W.Frag} {c : Cfg} {vs : List V} {d e : D} (h : Paired (RdD K c) vs [d, e]) : ∃ v u, vs = [v, u] ∧ RdD K c v d ∧ RdD K c u e := by
  cases h with
  | cons a t =>
    obtain ⟨u, rfl, b⟩ := paired1 t
    exact ⟨_, _, rfl, a, b⟩
def lenP : List D → Option RV
  | [.lst xs] => vI xs.length
  | [.seq xs] => vI xs.length
  | [.tup xs] => vI xs.length
  | [.dct xs] => vI xs.length
  | [.str z] => if z.length ≤ sizeLine then vI z.length else none
  | _ => none
theorem RepK.length {K : PySem.W.Frag} {I : Hp} : ∀ {v : List (Key × V)} {d : List (D × D)}, RepK K I v d → v.length = d.length
  | _, _, .nil => rfl
  | _, _, .cons _ t => congrArg Nat.succ t.length
theorem c_len : PCl X (.builtin "len") lenP := by
  refine ⟨_, (call_len_seq (X := X)).or ((call_len_str (X := X)).or call_lenD), fun c vs ds Q o rr h => ?_⟩
  match ds, h with
  | [.lst xs], h =>
    obtain ⟨v, rfl, r⟩ := paired1 rr
    obtain ⟨p, us, rfl, hp, rp⟩ := r.lst o
    exact .inl ⟨p, us, rfl, .inl (SqL.of hp), by rw [rp.length]; exact h.now o (.int _)⟩
  | [.seq xs], h =>
    obtain ⟨v, rfl, r⟩ := paired1 rr
    obtain ⟨p, us, rfl, hp, rp⟩ := r.seq o
    exact .inl ⟨p, us, rfl, .inl hp, by rw [rp.length]; exact h.now o (.int _)⟩
  | [.tup xs], h =>
    obtain ⟨v, rfl, r⟩ := paired1 rr
    obtain ⟨p, us, rfl, hp, rp⟩ := r.tup o
    exact .inl ⟨p, us, rfl, .inr hp, by rw [rp.length]; exact h.now o (.int _)⟩
  | [.dct xs], h =>
    obtain ⟨v, rfl, r⟩ := paired1 rr
    obtain ⟨p, us, rfl, hp, rp⟩ := r.dct o
    exact .inr (.inr ⟨p, us, rfl, hp, by rw [rp.length]; exact h.now o (.int _)⟩)
  | [.str z], h =>
    obtain ⟨v, rfl, r⟩ := paired1 rr
    simp only [lenP] at h
    split at h
    · exact .inr (.inl ⟨z, by rw [r.str], by assumption, h.now o (.int _)⟩)
    · exact h.elim
def intP : List D → Option RV
  | [.int i] => vI i
  | [.bl k] => vI (if k = true then 1 else 0)
  | [.str a] => if a.length ≤ 640 then (PySem.intText? a).map fun n => .val (.int n) else none
  | _ => none
theorem c_int : PCl X (.type "int") intP := by
  refine ⟨_, (call_int1 (X := X)).or call_int_str, fun c vs ds Q o rr h => ?_⟩
  match ds, h with
  | [.int i], h =>
    obtain ⟨v, rfl, r⟩ := paired1 rr
    exact .inl (.inl ⟨i, by rw [r.int], h.now o (.int _)⟩)
  | [.bl k], h =>
    obtain ⟨v, rfl, r⟩ := paired1 rr
    exact .inl (.inr ⟨k, by rw [r.bl], h.now o (.int _)⟩)
  | [.str a], h =>
    obtain ⟨v, rfl, r⟩ := paired1 rr
    simp only [intP] at h
    split at h
    · cases e : PySem.intText? a with
      | none => rw [e] at h; exact h.elim
      | some n => rw [e] at h; exact .inr ⟨a, n, by rw [r.str], e, by assumption, h.now o (.int _)⟩
    · exact h.elim
def strP : List D → Option RV
  | [.int i] => if i.natAbs.log2 < 1920 then vS (toString i) else none
  | [.str a] => vS a
  | _ => none
theorem c_str : PCl X (.type "str") strP := by
  refine ⟨_, (call_str_int (X := X)).or SkE.call_str_str, fun c vs ds Q o rr h => ?_⟩
  match ds, h with
  | [.int i], h =>
    obtain ⟨v, rfl, r⟩ := paired1 rr
    simp only [strP] at h
    split at h
    · exact .inl ⟨i, by rw [r.int], by assumption, h.now o (.str _)⟩
    · exact h.elim
  | [.str a], h =>
    obtain ⟨v, rfl, r⟩ := paired1 rr
    exact .inr ⟨a, by rw [r.str], h.now o (.str _)⟩
def boolP : List D → Option RV
  | [.int i] => vB (i != 0)
  | [.bl k] => vB k
  | _ => none
theorem c_bool : PCl X (.type "bool") boolP := by
  refine ⟨_, call_bool1, fun c vs ds Q o rr h => ?_⟩
  match ds, h with
  | [.int i], h =>
    obtain ⟨v, rfl, r⟩ := paired1 rr
    exact .inl ⟨i, by rw [r.int], h.now o (.bl _)⟩
  | [.bl k], h =>
    obtain ⟨v, rfl, r⟩ := paired1 rr
    exact .inr ⟨k, by rw [r.bl], h.now o (.bl _)⟩
def listP : List D → Option RV
  | [.lst xs] => some (.fr (.lst xs))
  | [.seq xs] => some (.fr (.lst xs))
  | [.tup xs] => some (.fr (.lst xs))
  | _ => none
theorem c_list : PCl X (.type "list") listP := by
  refine ⟨_, cx_list, fun c vs ds Q o rr h => ?_⟩
  match ds, h with
  | [.lst xs], h =>
    obtain ⟨v, rfl, r⟩ := paired1 rr
    obtain ⟨p, us, rfl, hp, rp⟩ := r.lst o
    exact ⟨p, rfl, us, .inl (SqL.of hp), fun q H' fr x hq => h.fresh o fr x ⟨us, hq, rp⟩⟩
  | [.seq xs], h =>
    obtain ⟨v, rfl, r⟩ := paired1 rr
    obtain ⟨p, us, rfl, hp, rp⟩ := r.seq o
    exact ⟨p, rfl, us, .inl hp, fun q H' fr x hq => h.fresh o fr x ⟨us, hq, rp⟩⟩
  | [.tup xs], h =>
    obtain ⟨v, rfl, r⟩ := paired1 rr
    obtain ⟨p, us, rfl, hp, rp⟩ := r.tup o
    exact ⟨p, rfl, us, .inr hp, fun q H' fr x hq => h.fresh o fr x ⟨us, hq, rp⟩⟩
def tupleP : List D → Option RV
  | [.lst xs] => some (.val (.tup xs))
  | [.seq xs] => some (.val (.tup xs))
  | [.tup xs] => some (.val (.tup xs))
  | _ => none
theorem c_tuple : PCl X (.type "tuple") tupleP := by
  refine ⟨_, (cx_tuple (X := X)).or call_tupleT, fun c vs ds Q o rr h => ?_⟩
  match ds, h with
  | [.lst xs], h =>
    obtain ⟨v, rfl, r⟩ := paired1 rr
    obtain ⟨p, us, rfl, hp, rp⟩ := r.lst o
    exact .inl ⟨p, rfl, us, SqL.of hp, fun q H' fr x hq => h.froz o fr x hq .tup fun I' l e => .tup (SqT.of e) (rp.mono l)⟩
  | [.seq xs], h =>
    obtain ⟨v, rfl, r⟩ := paired1 rr
    obtain ⟨p, us, rfl, hp, rp⟩ := r.seq o
    exact .inl ⟨p, rfl, us, hp, fun q H' fr x hq => h.froz o fr x hq .tup fun I' l e => .tup (SqT.of e) (rp.mono l)⟩
  | [.tup xs], h =>
    obtain ⟨v, rfl, r⟩ := paired1 rr
    obtain ⟨p, us, rfl, hp, rp⟩ := r.tup o
    refine .inr ⟨p, us, rfl, hp, ?_⟩
    rcases r with r | ⟨_, _, r⟩
    · exact h.now o r
    · exact r.elim
def absP : List D → Option RV
  | [.int i] => vI (if i < 0 then -i else i)
  | _ => none
theorem c_abs : PCl X (.builtin "abs") absP := by
  refine ⟨_, call_abs, fun c vs ds Q o rr h => ?_⟩
  match ds, h with
  | [.int i], h =>
    obtain ⟨v, rfl, r⟩ := paired1 rr
    exact ⟨i, by rw [r.int], h.now o (.int _)⟩
/-- the greatest, the least -/
def maxL : List Int → Int
  | [] => 0
  | [a] => a
  | a :: r => if maxL r < a then a else maxL r
def minL : List Int → Int
  | [] => 0
  | [a] => a
  | a :: r => if a < minL r then a else minL r
theorem maxL_spec : ∀ {ns : List Int}, 0 < ns.length → maxL ns ∈ ns ∧ ∀ y ∈ ns, y ≤ maxL ns
  | [a], _ => ⟨.head _, fun y h => by simp at h; subst h; exact Int.le_refl _⟩
  | a :: b :: r, _ => by
    obtain ⟨h1, h2⟩ := maxL_spec (ns := b :: r) (by simp)
    show (if maxL (b :: r) < a then a else maxL (b :: r)) ∈ a :: b :: r ∧ ∀ y ∈ a :: b :: r, y ≤ (if maxL (b :: r) < a then a else maxL (b :: r))
    split
    · refine ⟨.head _, fun y h => ?_⟩
      rcases List.mem_cons.mp h with rfl | h
      · exact Int.le_refl _
      · have := h2 y h; omega
    · refine ⟨.tail _ h1, fun y h => ?_⟩
      rcases List.mem_cons.mp h with rfl | h
      · omega
      · exact h2 y h
theorem minL_spec : ∀ {ns : List Int}, 0 < ns.length → minL ns ∈ ns ∧ ∀ y ∈ ns, minL ns ≤ y
  | [a], _ => ⟨.head _, fun y h => by simp at h; subst h; exact Int.le_refl _⟩
  | a :: b :: r, _ => by
    obtain ⟨h1, h2⟩ := minL_spec (ns := b :: r) (by simp)
    show (if a < minL (b :: r) then a else minL (b :: r)) ∈ a :: b :: r ∧ ∀ y ∈ a :: b :: r, (if a < minL (b :: r) then a else minL (b :: r)) ≤ y
    split
    · refine ⟨.head _, fun y h => ?_⟩
      rcases List.mem_cons.mp h with rfl | h
      · exact Int.le_refl _
      · have := h2 y h; omega
    · refine ⟨.tail _ h1, fun y h => ?_⟩
      rcases List.mem_cons.mp h with rfl | h
      · omega
      · exact h2 y h
def maxP : List D → Option RV
  | [.int i, .int j] => vI (if j > i then j else i)
  | [.lst xs] => (intsD xs).bind fun ns => if 0 < ns.length then vI (maxL ns) else none
  | _ => none
def minP : List D → Option RV
  | [.int i, .int j] => vI (if j < i then j else i)
  | [.lst xs] => (intsD xs).bind fun ns => if 0 < ns.length then vI (minL ns) else none
  | _ => none
theorem c_max (hc : X.calm = true) : PCl X (.builtin "max") maxP := by
  refine ⟨_, (call_max2 hc).or (cr_max hc), fun c vs ds Q o rr h => ?_⟩
  match ds, h with
  | [.int i, .int j], h =>
    obtain ⟨v, u, rfl, r, r'⟩ := paired2 rr
    exact .inl ⟨i, j, by rw [r.int, r'.int], h.now o (.int _)⟩
  | [.lst xs], h =>
    obtain ⟨v, rfl, r⟩ := paired1 rr
    obtain ⟨p, us, rfl, hp, rp⟩ := r.lst o
    simp only [maxP] at h
    cases e : intsD xs with
    | none => rw [e] at h; exact h.elim
    | some ns =>
      rw [e] at h
      simp only [Option.bind_some] at h
      split at h
      · rename_i hl
        rw [reps_ints rp e] at hp
        refine .inr ⟨p, ns, rfl, SqL.of hp, hl, fun m m1 m2 => ?_⟩
        obtain ⟨k1, k2⟩ := maxL_spec hl
        have : m = maxL ns := Int.le_antisymm (k2 m m1) (m2 _ k1)
        subst this
        exact h.now o (.int _)
      · exact h.elim
theorem c_min (hc : X.calm = true) : PCl X (.builtin "min") minP := by
  refine ⟨_, (call_min2 hc).or (cr_min hc), fun c vs ds Q o rr h => ?_⟩
  match ds, h with
  | [.int i, .int j], h =>
    obtain ⟨v, u, rfl, r, r'⟩ := paired2 rr
    exact .inl ⟨i, j, by rw [r.int, r'.int], h.now o (.int _)⟩
  | [.lst xs], h =>
    obtain ⟨v, rfl, r⟩ := paired1 rr
    obtain ⟨p, us, rfl, hp, rp⟩ := r.lst o
    simp only [minP] at h
    cases e : intsD xs with
    | none => rw [e] at h; exact h.elim
    | some ns =>
      rw [e] at h
      simp only [Option.bind_some] at h
      split at h
      · rename_i hl
        rw [reps_ints rp e] at hp
        refine .inr ⟨p, ns, rfl, SqL.of hp, hl, fun m m1 m2 => ?_⟩
        obtain ⟨k1, k2⟩ := minL_spec hl
        have : m = minL ns := Int.le_antisymm (m2 _ k1) (k2 m m1)
        subst this
        exact h.now o (.int _)
      · exact h.elim
def sumP : List D → Option RV
  | [.lst xs] => (intsD xs).map fun ns => .val (.int ns.sum)
  | _ => none
theorem c_sum (hc : X.calm = true) : PCl X (.builtin "sum") sumP := by
  refine ⟨_, cr_sum hc, fun c vs ds Q o rr h => ?_⟩
  match ds, h with
  | [.lst xs], h =>
    obtain ⟨v, rfl, r⟩ := paired1 rr
    obtain ⟨p, us, rfl, hp, rp⟩ := r.lst o
    simp only [sumP] at h
    cases e : intsD xs with
    | none => rw [e] at h; exact h.elim
    | some ns =>
      rw [e] at h
      rw [reps_ints rp e] at hp
      exact ⟨p, ns, rfl, SqL.of hp, h.now o (.int _)⟩
def blsD : List D → Option (List Bool)
  | [] => some []
  | .bl i :: r => (blsD r).map (i :: ·)
  | _ => none
theorem reps_bls {K : PySem.W.Frag} {I : Hp} : ∀ {vs : List V} {ds : List D} {ns : List Bool}, Reps K I vs ds → blsD ds = some ns → vs = ns.map V.bl
  | _, _, _, .nil, e => by cases e; rfl
  | _, d :: ds, ns, .cons h t, e => by
    cases d <;> simp only [blsD, Option.map_eq_some_iff] at e <;> first | cases e | skip
    rename_i ms
    obtain ⟨e1, rfl⟩ := ms
    cases h
    rw [List.map_cons, reps_bls t e1]
def anyP : List D → Option RV
  | [.lst xs] => (blsD xs).map fun ns => .val (.bl (ns.any id))
  | _ => none
def allP : List D → Option RV
  | [.lst xs] => (blsD xs).map fun ns => .val (.bl (ns.all id))
  | _ => none
theorem c_any (hc : X.calm = true) : PCl X (.builtin "any") anyP := by
  refine ⟨_, cr_any hc, fun c vs ds Q o rr h => ?_⟩
  match ds, h with
  | [.lst xs], h =>
    obtain ⟨v, rfl, r⟩ := paired1 rr
    obtain ⟨p, us, rfl, hp, rp⟩ := r.lst o
    simp only [anyP] at h
    cases e : blsD xs with
    | none => rw [e] at h; exact h.elim
    | some ns =>
      rw [e] at h
      rw [reps_bls rp e] at hp
      exact ⟨p, ns, rfl, SqL.of hp, h.now o (.bl _)⟩
theorem c_all (hc : X.calm = true) : PCl X (.builtin "all") allP := by
  refine ⟨_, cr_all hc, fun c vs ds Q o rr h => ?_⟩
  match ds, h with
  | [.lst xs], h =>
    obtain ⟨v, rfl, r⟩ := paired1 rr
    obtain ⟨p, us, rfl, hp, rp⟩ := r.lst o
    simp only [allP] at h
    cases e : blsD xs with
    | none => rw [e] at h; exact h.elim
    | some ns =>
      rw [e] at h
      rw [reps_bls rp e] at hp
      exact ⟨p, ns, rfl, SqL.of hp, h.now o (.bl _)⟩
end
end Vl

set_option Elab.async false
set_option linter.all false
set_option maxRecDepth 100000
set_option maxHeartbeats 2000000
/-! the value layer: statements -/
namespace Vl
open PySem PySem.Spec PyProof.Rows L2 My
inductive Rs where
  | nx (g : Sg) | rt (r : RV) (g : Sg) | bk (g : Sg) | ct (g : Sg) | exn (c : Str) (fs : List (Str × D)) (g : Sg) | stuck
abbrev Fs := Sg → Rs
/-- a value that is handed back -/
def RtR (K : PySem.W.Frag) (c0 c : Cfg) (v : V) : RV → Prop
  | .val d => Rep K c.I v d
  | .at_ _ => False
  | .fr d => ∃ a, v = .ref a ∧ OwnAt K c.I c.H a d ∧ c.I a = none ∧ ¬ c.Own a ∧ (c0.OwnF a ∨ c0.H a = none)
def RemS (K : PySem.W.Frag) (W : WX) (c0 : Cfg) (r : Rs) (D : Ends) : Prop := match r with
  | .nx g => ∀ I σ H, Ok K ⟨I, σ, H, g⟩ → Go c0 ⟨I, σ, H, g⟩ → D.nx σ H
  | .bk g => ∀ I σ H, Ok K ⟨I, σ, H, g⟩ → Go c0 ⟨I, σ, H, g⟩ → D.bk σ H
  | .ct g => ∀ I σ H, Ok K ⟨I, σ, H, g⟩ → Go c0 ⟨I, σ, H, g⟩ → D.ct σ H
  | .rt r g => ∀ I σ H v, Ok K ⟨I, σ, H, g⟩ → Go c0 ⟨I, σ, H, g⟩ → RtR K c0 ⟨I, σ, H, g⟩ v r → D.rt v H
  | .exn x fs g => ∀ I σ H e, Ok K ⟨I, σ, H, g⟩ → Go c0 ⟨I, σ, H, g⟩ → XdAt K c0 ⟨I, σ, H, g⟩ e fs → W (.ref (He.ga K x)) (some e) σ H
  | .stuck => False
def rdS (K : PySem.W.Frag) (W : WX) (f : Fs) : TS := fun D σ H => ∃ I g, Ok K ⟨I, σ, H, g⟩ ∧ RemS K W ⟨I, σ, H, g⟩ (f g) D
structure VS (X : Cx) (W : WX) (st : Stmt) (f : Fs) : Prop where
  ps : PS X st (rdS X.K W f)
structure VSs (X : Cx) (W : WX) (st : List Stmt) (f : Fs) : Prop where
  pss : PSs X st (rdS X.K W f)
theorem RtR.go {K : PySem.W.Frag} {c0 c1 c2 : Cfg} {v : V} {r : RV} (x : Go c0 c1) (h : RtR K c1 c2 v r) : RtR K c0 c2 v r := by
  cases r with
  | val d => exact h
  | at_ i => exact h
  | fr d =>
    obtain ⟨a, e, o, n, w, z⟩ := h
    exact ⟨a, e, o, n, w, z.elim (fun z => x.ownf a z) fun z => .inr (x.dom a z)⟩
theorem RemS.go {K : PySem.W.Frag} {W : WX} {c0 c1 : Cfg} {r : Rs} {D : Ends} (x : Go c0 c1) (h : RemS K W c0 r D) : RemS K W c1 r D := by
  cases r with
  | nx g => exact fun I σ H o y => h I σ H o (x.trans y)
  | bk g => exact fun I σ H o y => h I σ H o (x.trans y)
  | ct g => exact fun I σ H o y => h I σ H o (x.trans y)
  | rt r g => exact fun I σ H v o y rv => h I σ H v o (x.trans y) (rv.go x)
  | exn c fs g => exact fun I σ H e o y rv => h I σ H e o (x.trans y) (rv.go x)
  | stuck => exact h
/-- an expression's result, then a statement's -/
def bindE {α : Type} (r : Res α) (k : α → Sg → Rs) : Rs := match r with
  | .ok a g => k a g
  | .exn c fs g => .exn c fs g
  | .stuck => .stuck
theorem RemS.bindE {γ α : Type} {K : PySem.W.Frag} {W : WX} {R : Rel γ α} {c0 : Cfg} {r : Res α} {k : α → Sg → Rs} {D : Ends} (h : RemS K W c0 (bindE r k) D) :
    Rem K W R c0 r fun v H1 => ∃ I1 g1 x, Ok K ⟨I1, c0.σ, H1, g1⟩ ∧ Go c0 ⟨I1, c0.σ, H1, g1⟩ ∧ R c0 ⟨I1, c0.σ, H1, g1⟩ v x ∧ RemS K W c0 (k x g1) D := by
  cases r with
  | ok x g => exact fun I H v o y rv => ⟨I, g, x, o, y, rv, h⟩
  | exn c fs g => exact fun I H e o y rv => h I _ H e o y rv
  | stuck => exact h
def seqF (f k : Fs) : Fs := fun g => match f g with
  | .nx g1 => k g1
  | r => r
section
variable {X : Cx} {W : WX} {st : Stmt} {rest : List Stmt} {f k : Fs} {e : Expr} {fe : Ft} {pos : Pos}
theorem ps_imp' {e : Stmt} {t t' : TS} (h : PS X e t) (k : ∀ D σ H, t' D σ H → t D σ H) : PS X e t' := My.ps_imp h k
theorem vss_nil : VSs X W [] .nx := ⟨pss_imp pss_nil fun D σ H ⟨I, g, o, r⟩ => r I σ H o (Go.refl _)⟩
theorem vss_one (h : VS X W st f) : VSs X W [st] f := ⟨pss_one h.ps⟩
theorem vss_cons (h : VS X W st f) (hr : VSs X W rest k) : VSs X W (st :: rest) (seqF f k) := by
  refine ⟨pss_imp (pss_cons h.ps hr.pss) fun D σ H ⟨I, g, o, r⟩ => ⟨I, g, o, ?_⟩⟩
  unfold seqF at r
  cases q : f g with
  | nx g1 => rw [q] at r; exact fun I1 σ1 H1 o1 y1 => ⟨I1, g1, o1, RemS.go y1 r⟩
  | rt x g1 => rw [q] at r; exact r
  | bk g1 => rw [q] at r; exact r
  | ct g1 => rw [q] at r; exact r
  | exn c fs g1 => rw [q] at r; exact r
  | stuck => rw [q] at r; exact r

/-! ### small statements -/
theorem vs_pass : VS X W (.Pass pos) .nx := ⟨ps_imp' ps_pass fun D σ H ⟨I, g, o, r⟩ => r I σ H o (Go.refl _)⟩
theorem vs_break : VS X W (.Break pos) .bk := ⟨ps_imp' ps_break fun D σ H ⟨I, g, o, r⟩ => r I σ H o (Go.refl _)⟩
theorem vs_cont : VS X W (.Continue pos) .ct := ⟨ps_imp' ps_continue fun D σ H ⟨I, g, o, r⟩ => r I σ H o (Go.refl _)⟩
def exprF (f : Ft) : Fs := fun g => bindE (f g) fun _ g1 => .nx g1
theorem vs_expr (h : VE X W e fe) (hs : swapsWith e none pos.line X.env = pure false := by rfl) : VS X W (.Expr e pos) (exprF fe) := ⟨ps_imp' (ps_expr h.pe hs) fun D σ H ⟨I, g, o, r⟩ => by
  refine ⟨I, g, o, (RemS.bindE (R := RvR X.K) r).mono ?_⟩
  rintro v H1 ⟨I1, g1, x, o1, y1, rx, r1⟩
  exact r1 I1 σ H1 o1 y1⟩
/-- what is handed back: a slot's own object, if it was made here, is new to the caller -/
def retK (x : RV) (g : Sg) : Rs := match x with
  | .val d => .rt (.val d) g
  | .fr d => .rt (.fr d) g
  | .at_ i => match g[i]? with
    | some (.own false d) => .rt (.fr d) (g.set i .un)
    | some (.own true d) => .rt (.val d) (g.set i (.val true d))
    | some (.val _ d) => .rt (.val d) g
    | _ => .stuck
def retF (f : Ft) : Fs := fun g => bindE (f g) retK
theorem Ok.drop {K : PySem.W.Frag} {I H : Hp} {σ σ' : L2.St} {g : Sg} {i : Nat} (o : Ok K ⟨I, σ, H, g⟩) (hσ : ∀ j, j ≠ i → σ'[j]? = σ[j]?) (hi : ∃ o, σ'[i]? = some o) : Ok K ⟨I, σ', H, g.set i .un⟩ where
  sub := o.sub
  nt := o.nt
  tab := o.tab
  sl := fun j s h => by
    rcases get_set_of h with ⟨rfl, rfl⟩ | ⟨nj, q⟩
    · obtain ⟨u, hu⟩ := hi
      exact ⟨u, hu, trivial⟩
    · obtain ⟨u, h1, h2⟩ := o.sl j s q
      exact ⟨u, (hσ j nj).trans h1, h2⟩
  dist := fun j k t t' d d' h h' e => by
    rcases get_set_of h with ⟨rfl, q⟩ | ⟨nj, q⟩
    · cases q
    · rcases get_set_of h' with ⟨rfl, q'⟩ | ⟨nk, q'⟩
      · cases q'
      · exact o.dist j k t t' d d' q q' (((hσ j nj).symm.trans e).trans (hσ k nk))
/-- a slot stored anew: what it owned is forgotten -/
theorem Go.drop {I H : Hp} {σ σ' : L2.St} {g : Sg} {i : Nat} (hσ : ∀ j, j ≠ i → σ'[j]? = σ[j]?) : Go ⟨I, σ, H, g⟩ ⟨I, σ', H, g.set i .un⟩ where
  sub := Le.refl _
  keep := fun _ _ h _ _ => h
  dom := fun _ h => h
  grow := fun _ h h' => (h' h).elim
  own := fun a ⟨j, t, d, h1, h2⟩ => by
    rcases get_set_of h1 with ⟨rfl, q⟩ | ⟨nj, q⟩
    · cases q
    · exact .inl ⟨j, t, d, q, (hσ j nj).symm.trans h2⟩
  ownf := fun a ⟨j, d, h1, h2⟩ => by
    rcases get_set_of h1 with ⟨rfl, q⟩ | ⟨nj, q⟩
    · cases q
    · exact .inl ⟨j, d, q, (hσ j nj).symm.trans h2⟩
  tag := fun j s' h t => by
    rcases get_set_of h with ⟨rfl, rfl⟩ | ⟨nj, q⟩
    · cases t
    · exact ⟨⟨s', q, t⟩, hσ j nj⟩
theorem vs_ret (h : VE X W e fe) : VS X W (.Return (some e) pos) (retF fe) := ⟨ps_imp' (ps_ret h.pe) fun D σ H ⟨I, g, o, r⟩ => by
  refine ⟨I, g, o, (RemS.bindE (R := RvR X.K) r).mono ?_⟩
  rintro v H1 ⟨I1, g1, x, o1, y1, rx, r1⟩
  cases x with
  | val d => exact r1 I1 σ H1 v o1 y1 rx
  | fr d =>
    obtain ⟨a, e, ow, n, w, z⟩ := rx
    exact r1 I1 σ H1 v o1 y1 ⟨a, e, ow, n, w, .inr z⟩
  | at_ i =>
    have rx : σ[i]? = some (some v) := rx
    simp only [retK] at r1
    split at r1
    · rename_i d q
      obtain ⟨u, e1, a, e2, ow, n⟩ := o1.sl i _ q
      have e1 : σ[i]? = some u := e1
      rw [rx] at e1
      cases e1
      cases e2
      have y2 : Go ⟨I1, σ, H1, g1⟩ ⟨I1, σ, H1, g1.set i .un⟩ := Go.drop fun _ _ => rfl
      refine r1 I1 σ H1 (.ref a) (o1.drop (fun _ _ => rfl) ⟨_, rx⟩) (y1.trans y2) ⟨a, rfl, ow, n, fun k => ?_, y1.ownf a ⟨i, d, q, rx⟩⟩
      obtain ⟨j, t, d', h1, h2⟩ := k
      rcases get_set_of h1 with ⟨rfl, z⟩ | ⟨nj, z⟩
      · cases z
      · exact nj (o1.dist j i t false d' d z q ((show σ[j]? = some (some (V.ref a)) from h2).trans rx.symm))
    · rename_i d q
      obtain ⟨a, u, e1, _, _, o2, y2, r2⟩ := o1.frzSl q
      rw [rx] at e1
      cases e1
      exact r1 _ σ H1 _ o2 (y1.trans y2) r2
    · rename_i t d q
      obtain ⟨u, e1, w, e2, r2⟩ := o1.sl i _ q
      have e1 : σ[i]? = some u := e1
      rw [rx] at e1
      cases e1
      cases e2
      exact r1 I1 σ H1 v o1 y1 r2
    · exact r1.elim⟩
theorem vs_retN : VS X W (.Return none pos) (fun g => .rt (.val .non) g) := ⟨ps_imp' ps_retN fun D σ H ⟨I, g, o, r⟩ => r I σ H .non o (Go.refl _) .non⟩
def iteS (t : Fb) (f k : Fs) : Fs := fun g => bindE (t g) fun b g1 => if b = true then f g1 else k g1
theorem vs_if {c : Expr} {a b : List Stmt} {t : Fb} {fa fb : Fs} (hc : VT X W c t) (ha : VSs X W a fa) (hb : VSs X W b fb) : VS X W (.If c a b pos) (iteS t fa fb) := ⟨ps_imp' (ps_if hc.pt ha.pss hb.pss) fun D σ H ⟨I, g, o, r⟩ => by
  refine ⟨I, g, o, (RemS.bindE (R := RbR) r).mono ?_⟩
  rintro v H1 ⟨I1, g1, x, o1, y1, rfl, r1⟩
  cases v with
  | true => exact ⟨I1, g1, o1, RemS.go y1 r1⟩
  | false => exact ⟨I1, g1, o1, RemS.go y1 r1⟩⟩

/-! ### stores -/
/-- a value into a slot -/
theorem Ok.store {K : PySem.W.Frag} {I H : Hp} {σ : L2.St} {g : Sg} {i : Nat} {v : V} {s : Sl} (o : Ok K ⟨I, σ, H, g⟩) (h : SlR K I H (some v) s) (hd : ∀ t d, s = .own t d → ∀ a, v = .ref a → ¬ Cfg.Own ⟨I, σ, H, g⟩ a) :
    Ok K ⟨I, σ.set i (some v), H, g.set i s⟩ where
  sub := o.sub
  nt := o.nt
  tab := o.tab
  sl := fun j s' q => by
    rcases get_set_of q with ⟨rfl, rfl⟩ | ⟨nj, q⟩
    · refine ⟨some v, ?_, h⟩
      have hl : j < g.length := by
        have := (List.getElem?_eq_some_iff.mp q).1
        simpa using this
      obtain ⟨u, hu, _⟩ := o.sl j g[j] (List.getElem?_eq_getElem hl)
      have hs : j < σ.length := (List.getElem?_eq_some_iff.mp hu).1
      show (σ.set j (some v))[j]? = _
      rw [List.getElem?_set_self hs]
    · obtain ⟨u, h1, h2⟩ := o.sl j s' q
      refine ⟨u, ?_, h2⟩
      show (σ.set i (some v))[j]? = _
      rw [List.getElem?_set_ne (fun z => nj z.symm)]
      exact h1
  dist := fun j k t t' d d' h1 h2 e => by
    have key : ∀ (j k : Nat) (t t' : Bool) (d d' : D), j = i → k ≠ i → s = .own t d → (g.set i s)[j]? = some (.own t d) → g[k]? = some (.own t' d') → (σ.set i (some v))[j]? = (σ.set i (some v))[k]? → False := by
      intro j k t t' d d' ej nk es hj hk e
      subst ej
      obtain ⟨u, hu, a, e2, r, n⟩ := o.sl k _ hk
      have hu : σ[k]? = some u := hu
      have hl : j < g.length := by
        have := (List.getElem?_eq_some_iff.mp hj).1
        simpa using this
      obtain ⟨u', hu', _⟩ := o.sl j g[j] (List.getElem?_eq_getElem hl)
      have hs : j < σ.length := (List.getElem?_eq_some_iff.mp hu').1
      rw [List.getElem?_set_self hs, List.getElem?_set_ne (fun z => nk z.symm), hu] at e
      cases e
      cases e2
      exact hd t d es a rfl ⟨k, t', d', hk, hu⟩
    have e : (σ.set i (some v))[j]? = (σ.set i (some v))[k]? := e
    rcases get_set_of h1 with ⟨ej, q⟩ | ⟨nj, q⟩
    · rcases get_set_of h2 with ⟨ek, q'⟩ | ⟨nk, q'⟩
      · exact ej.trans ek.symm
      · exact (key j k t t' d d' ej nk q.symm h1 q' e).elim
    · rcases get_set_of h2 with ⟨ek, q'⟩ | ⟨nk, q'⟩
      · exact (key k j t' t d' d ek nj q'.symm h2 q e.symm).elim
      · rw [List.getElem?_set_ne (fun z => nj z.symm), List.getElem?_set_ne (fun z => nk z.symm)] at e
        exact o.dist j k t t' d d' q q' e
theorem Go.store {I H : Hp} {σ : L2.St} {g : Sg} {i : Nat} {v : V} {d : D} : Go ⟨I, σ, H, g⟩ ⟨I, σ.set i (some v), H, g.set i (.val false d)⟩ where
  sub := Le.refl _
  keep := fun _ _ h _ _ => h
  dom := fun _ h => h
  grow := fun _ h h' => (h' h).elim
  own := fun a ⟨j, t, d, h1, h2⟩ => by
    rcases get_set_of h1 with ⟨rfl, q⟩ | ⟨nj, q⟩
    · cases q
    · exact .inl ⟨j, t, d, q, by rw [← h2]; exact (List.getElem?_set_ne (fun z => nj z.symm)).symm⟩
  ownf := fun a ⟨j, d, h1, h2⟩ => by
    rcases get_set_of h1 with ⟨rfl, q⟩ | ⟨nj, q⟩
    · cases q
    · exact .inl ⟨j, d, q, by rw [← h2]; exact (List.getElem?_set_ne (fun z => nj z.symm)).symm⟩
  tag := fun j s' h t => by
    rcases get_set_of h with ⟨rfl, rfl⟩ | ⟨nj, q⟩
    · cases t
    · exact ⟨⟨s', q, t⟩, List.getElem?_set_ne (fun z => nj z.symm)⟩
/-- a new object into a slot, told from where it was not yet -/
theorem Go.storeF {c0 : Cfg} {I H : Hp} {σ : L2.St} {g : Sg} {i : Nat} {a : Addr} {d : D} (y : Go c0 ⟨I, σ, H, g⟩) (z : c0.H a = none) : Go c0 ⟨I, σ.set i (some (.ref a)), H, g.set i (.own false d)⟩ where
  sub := y.sub
  keep := y.keep
  dom := y.dom
  grow := y.grow
  own := fun b ⟨j, t, d, h1, h2⟩ => by
    have h2 : (σ.set i (some (V.ref a)))[j]? = some (some (.ref b)) := h2
    rcases get_set_of h1 with ⟨rfl, q⟩ | ⟨nj, q⟩
    · rcases get_set_of h2 with ⟨_, q2⟩ | ⟨nj, _⟩
      · cases q2; exact .inr z
      · exact absurd rfl nj
    · exact y.own b ⟨j, t, d, q, by rw [← h2]; exact (List.getElem?_set_ne (fun z => nj z.symm)).symm⟩
  ownf := fun b ⟨j, d, h1, h2⟩ => by
    have h2 : (σ.set i (some (V.ref a)))[j]? = some (some (.ref b)) := h2
    rcases get_set_of h1 with ⟨rfl, q⟩ | ⟨nj, q⟩
    · rcases get_set_of h2 with ⟨_, q2⟩ | ⟨nj, _⟩
      · cases q2; exact .inr z
      · exact absurd rfl nj
    · exact y.ownf b ⟨j, d, q, by rw [← h2]; exact (List.getElem?_set_ne (fun z => nj z.symm)).symm⟩
  tag := fun j s' h t => by
    rcases get_set_of h with ⟨rfl, rfl⟩ | ⟨nj, q⟩
    · cases t
    · obtain ⟨h1, h2⟩ := y.tag j s' q t
      exact ⟨h1, (List.getElem?_set_ne (fun z => nj z.symm)).trans h2⟩
def setK (i : Nat) (x : RV) (g : Sg) : Rs := match x with
  | .val d => .nx (g.set i (.val false d))
  | .fr d => .nx (g.set i (.own false d))
  | .at_ j => match g[j]? with
    | some (.own t d) => .nx ((g.set j (.val t d)).set i (.val false d))
    | some (.val _ d) => .nx (g.set i (.val false d))
    | _ => .stuck
def setF (i : Nat) (f : Ft) : Fs := fun g => bindE (f g) (setK i)
/-- what setK leaves -/
theorem setK_ok {K : PySem.W.Frag} {c0 : Cfg} {I H : Hp} {σ : L2.St} {g : Sg} {i : Nat} {x : RV} {v : V} {D' : Ends} (o1 : Ok K ⟨I, σ, H, g⟩) (y1 : Go c0 ⟨I, σ, H, g⟩) (rx : RvR K c0 ⟨I, σ, H, g⟩ v x) (h : RemS K W c0 (setK i x g) D') :
    D'.nx (σ.set i (some v)) H := by
  cases x with
  | val d => exact h I _ H (o1.store ⟨v, rfl, rx⟩ fun t d e => nomatch e) (y1.trans Go.store)
  | fr d =>
    obtain ⟨a, rfl, ow, n, w, z⟩ := rx
    exact h I _ H (o1.store ⟨a, rfl, ow, n⟩ fun t d e b eb => by cases eb; exact w) (y1.storeF z)
  | at_ j =>
    have rx : σ[j]? = some (some v) := rx
    simp only [setK] at h
    split at h
    · rename_i t d q
      obtain ⟨a, u, e1, _, _, o2, y2, r2⟩ := o1.frzSl q
      rw [rx] at e1
      cases e1
      exact h _ _ H (o2.store ⟨_, rfl, r2⟩ fun t d e => nomatch e) ((y1.trans y2).trans Go.store)
    · rename_i t d q
      obtain ⟨u, e1, w, e2, r2⟩ := o1.sl j _ q
      have e1 : σ[j]? = some u := e1
      rw [rx] at e1
      cases e1
      cases e2
      exact h _ _ H (o1.store ⟨_, rfl, r2⟩ fun t d e => nomatch e) (y1.trans Go.store)
    · exact h.elim
theorem vs_asg {i : Nat} {st : Stmt} {te : Ft → TE} (h : PS X st (tAsg (rdE X.K W fe) (gName i))) : VS X W st (setF i fe) := ⟨ps_imp' h fun D σ H ⟨I, g, o, r⟩ => by
  refine ⟨I, g, o, (RemS.bindE (R := RvR X.K) r).mono ?_⟩
  rintro v H1 ⟨I1, g1, x, o1, y1, rx, r1⟩
  exact setK_ok o1 y1 rx r1⟩
theorem vs_set {i : Nat} {x : Str} {pos' : Pos} (hN : X.N.Nodup) (hi : X.N[i]? = some x) (hx : Loc X.env.scope x) (he : VE X W e fe) (hs : swapsWith e (some (.Name x pos')) pos.line X.env = pure false := by rfl) (hf : X.fn x = true ∨ X.env.scope.names.lookup x = some .local := by first | exact .inl rfl | exact .inr rfl | assumption) :
    VS X W (.Assign [.Name x pos'] e pos) (setF i fe) := vs_asg (te := fun _ => rdE X.K W fe) (ps_set hN hi hx he.pe hs hf)
end
end Vl

set_option Elab.async false
set_option linter.all false
set_option maxRecDepth 100000
set_option maxHeartbeats 2000000
/-! the value layer: writes -/
namespace Vl
open PySem PySem.Spec PyProof.Rows L2 My
theorem Ok.own_at {K : PySem.W.Frag} {I H : Hp} {σ : L2.St} {g : Sg} {i : Nat} {t : Bool} {d : D} (o : Ok K ⟨I, σ, H, g⟩) (h : g[i]? = some (.own t d)) : ∃ a, σ[i]? = some (some (.ref a)) ∧ OwnAt K I H a d ∧ I a = none := by
  obtain ⟨v, e1, a, e2, r, n⟩ := o.sl i _ h
  subst e2
  exact ⟨a, e1, r, n⟩
/-! ### xs.append(e), xs a slot -/
def appF (i : Nat) (fe : Ft) : Ft := fun g => match g[i]? with
  | some (.own _ (.lst _)) => (evA [fe] g).bind fun xs g1 => match frzA xs g1 with
    | some ([d], g2) => (match g2[i]? with
      | some (.own t (.lst ds)) => if ds.length < sizeLine then .ok (.val .non) (g2.set i (.own t (.lst (ds ++ [d])))) else .stuck
      | _ => .stuck)
    | _ => .stuck
  | _ => .stuck
theorem Ok.wr {K : PySem.W.Frag} {I H H' : Hp} {σ : L2.St} {g : Sg} {i : Nat} {t : Bool} {d d' : D} {a : Addr} (o : Ok K ⟨I, σ, H, g⟩) (h : g[i]? = some (.own t d)) (ha : σ[i]? = some (some (.ref a))) (x : Xb [a] H H') (w : OwnAt K I H' a d') :
    Ok K ⟨I, σ, H', g.set i (.own t d')⟩ ∧ Go ⟨I, σ, H, g⟩ ⟨I, σ, H', g.set i (.own t d')⟩ := by
  have own : Cfg.Own ⟨I, σ, H, g⟩ a := ⟨i, t, d, h, ha⟩
  have na : I a = none := o.own_free own
  have stay : ∀ b u, b ≠ a → H b = some u → H' b = some u := fun b u n e => x.get1 n e
  refine ⟨⟨fun b u e => ?_, fun j s q => ?_, fun j k t1 t2 d1 d2 q q' e => ?_, o.nt, o.tab.mono (Le.refl _) fun b ps e => stay b _ (fun z => by
    subst z
    obtain ⟨a2, hs, r2, _⟩ := o.own_at h
    rw [ha] at hs
    cases hs
    exact (r2.ntb e).e ps rfl) e⟩, ⟨Le.refl _, fun b u e n _ => ?_, fun b e => ?_, fun b e e' => (e' e).elim, fun b ⟨j, t1, d1, q, q2⟩ => ?_, fun b ⟨j, d1, q, q2⟩ => ?_, fun j s' q tg => ?_⟩⟩
  · have e : I b = some u := e
    exact stay b u (fun z => by subst z; exact no_some na e) (o.sub b u e)
  · rcases get_set_of q with ⟨rfl, rfl⟩ | ⟨nj, q⟩
    · exact ⟨_, ha, a, rfl, w, na⟩
    · obtain ⟨v, e1, r⟩ := o.sl j s q
      refine ⟨v, e1, r.mono (Le.refl _) fun b t1 d1 es ev => ?_⟩
      subst es ev
      obtain ⟨b', eb, r2, nb⟩ := r
      cases eb
      obtain ⟨u, hu⟩ := r2.some
      have nba : b ≠ a := fun z => by
        subst z
        exact nj (o.dist j i t1 t d1 d q h ((show σ[j]? = some (some (V.ref b)) from e1).trans ha.symm))
      exact ⟨(stay b u nba hu).trans hu.symm, nb⟩
  · have key : ∀ (j : Nat) (t1 : Bool) (d1 : D), (g.set i (.own t d'))[j]? = some (.own t1 d1) → ∃ t2 d2, g[j]? = some (.own t2 d2) := fun j t1 d1 q => by
      rcases get_set_of q with ⟨rfl, _⟩ | ⟨_, q⟩
      · exact ⟨t, d, h⟩
      · exact ⟨t1, d1, q⟩
    obtain ⟨_, _, p1⟩ := key j t1 d1 q
    obtain ⟨_, _, p2⟩ := key k t2 d2 q'
    exact o.dist j k _ _ _ _ p1 p2 e
  · exact stay b u (fun z => by subst z; exact n own) e
  · by_cases z : b = a
    · subst z
      obtain ⟨u, hu⟩ := w.some
      exact (no_some e hu).elim
    · cases q : H b with
      | none => exact q
      | some u => exact (no_some e (stay b u z q)).elim
  · rcases get_set_of q with ⟨rfl, _⟩ | ⟨_, q⟩
    · exact .inl ⟨j, t, d, h, q2⟩
    · exact .inl ⟨j, t1, d1, q, q2⟩
  · rcases get_set_of q with ⟨rfl, e⟩ | ⟨_, q⟩
    · cases e; exact .inl ⟨j, d, h, q2⟩
    · exact .inl ⟨j, d1, q, q2⟩
  · rcases get_set_of q with ⟨rfl, rfl⟩ | ⟨_, q⟩
    · exact ⟨⟨_, h, tg⟩, rfl⟩
    · exact ⟨⟨s', q, tg⟩, rfl⟩
section
variable {X : Cx} {W : WX}
theorem ve_append {o e : Expr} {i : Nat} {fe : Ft} {apos cpos : Pos} (ho : PE X o (tVar i)) (ha : VA X W [e] [fe])
    (hbase : attributeBase o "append" X.env (eval o X.env) = eval o X.env := by rfl)
    (hfew : ((backTo cpos (starEach [e] X.env)).all (fun x => !x.1) && (backToKw cpos (keywordEach [] X.env)).all (fun x => x.1.isSome)
      && decide ([e].length + ([] : List Keyword).length + (if ([] : List Keyword).isEmpty then 0 else 1) < 30)) = true := by rfl)
    (hline : (apos.endLine == cpos.line) = true := by rfl) (hs : starEach [e] X.env = (false, eval e X.env) :: starEach [] X.env := by rfl) (hplain : (backTo cpos (starEach [] X.env)).any (·.1) = false := by rfl) :
    VE X W (.Call (.Attribute o "append" apos) [e] [] cpos) (appF i fe) := by
  refine ⟨pe_imp (pe_bm PySem.F.plainAttrs_list PySem.F.slot_list_append PySem.F.type_list_append mx_append ho ha.pa hbase hfew hline hs hplain) fun σ H Q ⟨I, g, o, r⟩ => ?_⟩
  unfold appF at r
  split at r
  · rename_i t0 ds0 q0
    obtain ⟨a, ea, ow, na⟩ := o.own_at q0
    refine ⟨.ref a, ea, ?_⟩
    obtain ⟨xs0, hx0, _⟩ := ow
    refine ⟨.inl ⟨rfl, _, SqL.of hx0⟩, I, g, o, (Rem.bind (R := RvsR X.K) r).mono ?_⟩
    rintro vs H1 ⟨I1, g1, xs, o1, y1, rx, r1⟩
    dsimp only at r1
    split at r1
    · rename_i d g2 e2
      obtain ⟨I2, o2, y2, rr⟩ := frzA_ok o1 rx e2
      split at r1
      · rename_i t ds q2
        split at r1
        · rename_i hl
          obtain ⟨a', ea', ⟨xs', hx', rp⟩, na'⟩ := o2.own_at q2
          rw [ea] at ea'
          cases ea'
          cases rr with
          | cons r1' t1 =>
            cases t1
            refine ⟨a, _, rfl, rfl, xs', hx', by rw [rp.length]; exact hl, fun H' x h' => ?_⟩
            obtain ⟨o3, y3⟩ := o2.wr q2 ea x (d' := .lst (ds ++ [d])) ⟨_, h', rp.append (.one r1')⟩
            exact r1 I2 H' .non o3 (y2.trans y3) .non
        · exact r1.elim
      · exact r1.elim
    · exact r1.elim
  · exact r.elim

/-! ### a slot's item: xs[k] = e -/
def putKD (kvs : List (D × D)) (k : Key) (v : D) : List (D × D) :=
  if (kvs.any fun kv => decide (keyOf kv.1 = some k)) = true then kvs.map (fun kv => if keyOf kv.1 = some k then (kv.1, v) else kv) else kvs ++ [(kD k, v)]
theorem RepK.put {K : PySem.W.Frag} {I : Hp} {k : Key} {v : V} {d : D} (h : Rep K I v d) {vs : List (Key × V)} {ds : List (D × D)} (r : RepK K I vs ds) : RepK K I (putK vs k v) (putKD ds k d) := by
  have anyE : ∀ {vs : List (Key × V)} {ds : List (D × D)}, RepK K I vs ds → (vs.any fun kv => decide (kv.1 = k)) = ds.any fun kv => decide (keyOf kv.1 = some k) := by
    intro vs
    induction vs with
    | nil => intro ds r; cases r; rfl
    | cons p vs ih =>
      intro ds r
      cases r with
      | cons h t =>
        rw [List.any_cons, List.any_cons, ih t]
        simp only [keyOf_kD, Option.some.injEq]
  have mapE : ∀ {vs : List (Key × V)} {ds : List (D × D)}, RepK K I vs ds → RepK K I (vs.map fun kv => if kv.1 = k then (kv.1, v) else kv) (ds.map fun kv => if keyOf kv.1 = some k then (kv.1, d) else kv) := by
    intro vs
    induction vs with
    | nil => intro ds r; cases r; exact .nil
    | cons p vs ih =>
      intro ds r
      cases r with
      | @cons q w d' vs' ds' h' t =>
        rw [List.map_cons, List.map_cons]
        by_cases e : q = k
        · subst e
          simp only [if_true, keyOf_kD]
          exact .cons h (ih t)
        · simp only [keyOf_kD, Option.some.injEq, if_neg e]
          exact .cons h' (ih t)
  have appE : ∀ {vs : List (Key × V)} {ds : List (D × D)}, RepK K I vs ds → RepK K I (vs ++ [(k, v)]) (ds ++ [(kD k, d)]) := by
    intro vs
    induction vs with
    | nil => intro ds r; cases r; exact .cons h .nil
    | cons p vs ih =>
      intro ds r
      cases r with
      | cons h' t => exact .cons h' (ih t)
  unfold putK putKD
  rw [anyE r]
  split
  · exact mapE r
  · exact appE r
/-- what is stored into a container -/
def putAt (c : D) (k : D) (v : D) : Option D := match c, k with
  | .lst xs, .int i => (ixN xs.length i).map fun j => .lst (xs.set j v)
  | .dct kvs, k => (keyOf k).bind fun k => if kvs.length < sizeLine then some (.dct (putKD kvs k v)) else none
  | _, _ => none
theorem setx_both (hu : X.A.units + 1 < cLine) : PSet X (fun o i v H Q => ∃ a, o = .ref a ∧ ((∃ k xs j, i = .int k ∧ H a = some (.lst xs) ∧ ixN xs.length k = some j ∧ wL a (xs.set j v) H Q) ∨
    (∃ z kvs, i = kV z ∧ H a = some (.dK kvs) ∧ kvs.length < sizeLine ∧ ∀ H', Xb [a] H H' → H' a = some (.dK (putK kvs z v)) → Q H'))) := by
  rintro pins s σ H o i v ov iv u Q I ro ri rv ⟨a, rfl, ⟨k, xs, j, e2, h, hj, q⟩ | ⟨z, kvs, e2, h, n, k⟩⟩
  · exact setx_list pins s σ H _ i v ov iv u Q I ro ri rv ⟨a, k, rfl, e2, xs, j, h, hj, q⟩
  · subst e2
    cases ro
    exact d_setItem hu I (DPut.k (k := z) h n) ri rv fun s4 I4 => ⟨_, I4, k _ Xb.put upd_same⟩
/-- behind the value: the slot's object, the key; the store -/
def putK' (i : Nat) (fk : Ft) (d : D) (g : Sg) : Rs := match g[i]? with
  | some (.own _ _) => bindE (evA [fk] g) fun ks g1 => match frzA ks g1 with
    | some ([k], g2) => (match g2[i]? with
      | some (.own t c) => (match putAt c k d with | some c' => .nx (g2.set i (.own t c')) | none => .stuck)
      | _ => .stuck)
    | _ => .stuck
  | _ => .stuck
theorem putAt_ok {K : PySem.W.Frag} {I H : Hp} {σ : L2.St} {g : Sg} {i : Nat} {t : Bool} {c k d c' : D} {a : Addr} {kv v : V} {R : Hp → Prop} (o : Ok K ⟨I, σ, H, g⟩) (h : g[i]? = some (.own t c)) (ha : σ[i]? = some (some (.ref a)))
    (rk : Rep K I kv k) (rv : Rep K I v d) (e : putAt c k d = some c') (hR : ∀ H', Ok K ⟨I, σ, H', g.set i (.own t c')⟩ → Go ⟨I, σ, H, g⟩ ⟨I, σ, H', g.set i (.own t c')⟩ → R H') :
    ∃ b, V.ref a = .ref b ∧ ((∃ k xs j, kv = .int k ∧ H b = some (.lst xs) ∧ ixN xs.length k = some j ∧ wL b (xs.set j v) H R) ∨
    (∃ z kvs, kv = kV z ∧ H b = some (.dK kvs) ∧ kvs.length < sizeLine ∧ ∀ H', Xb [b] H H' → H' b = some (.dK (putK kvs z v)) → R H')) := by
  obtain ⟨a', ea, ow, na⟩ := o.own_at h
  rw [ha] at ea
  cases ea
  refine ⟨a, rfl, ?_⟩
  unfold putAt at e
  split at e
  · rename_i xs j
    obtain ⟨us, hx, rp⟩ := ow
    cases rk
    obtain ⟨n, hn, rfl⟩ := Option.map_eq_some_iff.mp e
    refine .inl ⟨j, us, n, rfl, hx, by rw [rp.length]; exact hn, fun H' x h' => ?_⟩
    obtain ⟨o3, y3⟩ := o.wr h ha x (d' := .lst (xs.set n d)) ⟨_, h', rp.set rv n⟩
    exact hR H' o3 y3
  · rename_i kvs
    obtain ⟨us, hx, rp⟩ := ow
    obtain ⟨z, ez, e⟩ := Option.bind_eq_some_iff.mp e
    split at e
    · rename_i hl
      cases e
      refine .inr ⟨z, us, kD_kV (c := ⟨I, σ, H, g⟩) (.inl rk) ez, hx, by rw [rp.length]; exact hl, fun H' x h' => ?_⟩
      obtain ⟨o3, y3⟩ := o.wr h ha x (d' := .dct (putKD kvs z d)) ⟨_, h', rp.put rv⟩
      exact hR H' o3 y3
    · cases e
  · cases e
/-- xs[k] = e as a statement -/
def putF (i : Nat) (fk fe : Ft) : Fs := fun g => bindE (evA [fe] g) fun xs g1 => match frzA xs g1 with
  | some ([d], g2) => putK' i fk d g2
  | _ => .stuck
theorem rd1 {fe : Ft} {σ : L2.St} {H : Hp} {K : PySem.W.Frag} {I : Hp} {g : Sg} {k : List RV → Sg → Rs} {D : Ends} {c0 : Cfg} {R : VK} (e0 : c0 = ⟨I, σ, H, g⟩) (o : Ok K ⟨I, σ, H, g⟩) (h : RemS K W c0 (bindE (evA [fe] g) k) D)
    (hr : ∀ v H1 I1 g1 x, Ok K ⟨I1, σ, H1, g1⟩ → Go c0 ⟨I1, σ, H1, g1⟩ → RvsR K c0 ⟨I1, σ, H1, g1⟩ [v] [x] → RemS K W c0 (k [x] g1) D → R v H1) : rdE K W fe σ H R := by
  subst e0
  have nf : ∀ x g', settle (fe g) = .ok x g' → ∀ d, x ≠ .fr d := fun x g' h => settle_nofr h
  refine ⟨I, g, o, Rem.settle ?_⟩
  have h : RemS K W ⟨I, σ, H, g⟩ (bindE ((settle (fe g)).bind fun x g1 => (Res.ok (α := List RV) [] g1).bind fun xs g2 => .ok (x :: xs) g2) k) D := h
  revert nf h
  generalize settle (fe g) = sr
  intro nf h
  cases sr with
  | stuck => exact h
  | exn c fs' g' => exact fun I H e o y rv => h I _ H e o y rv
  | ok x g1 => exact fun I1 H1 v o1 y1 rx => hr v H1 I1 g1 x o1 y1 (.cons ⟨_, rx, nf x g1 rfl⟩ .nil) h
theorem vs_put {o ie e : Expr} {i : Nat} {fk fe : Ft} {pos pos' : Pos} (hu : X.A.units + 1 < cLine) (ho : PE X o (tVar i)) (hk : VE X W ie fk) (he : VE X W e fe)
    (ha : ∀ v, assign (.Subscript o ie pos') X.env v = (do
      let ov ← holding [v] (eval o X.env)
      let iv ← holding [v, ov] (eval ie X.env)
      standAt pos'
      holding [v, ov, iv] (setItem ov iv v)
      release [v, ov, iv] []) := by intro _; rfl)
    (hs : swapsWithSole [.Subscript o ie pos'] e pos.line X.env = pure false := by rfl) (hw : swappedStores [.Subscript o ie pos'] e X.env = pure none := by rfl)
    (h1 : (assignEach [.Subscript o ie pos'] X.env).map (·.2) = [assign (.Subscript o ie pos') X.env] := by rfl) : VS X W (.Assign [.Subscript o ie pos'] e pos) (putF i fk fe) := by
  refine ⟨ps_imp' (ps_asg he.pe (pg_sub ho hk.pe (setx_both hu) ha) hs hw h1) fun D σ H ⟨I, g, o, r⟩ => ?_⟩
  refine rd1 rfl o r fun v H1 I1 g1 x o1 y1 rx r1 => ?_
  split at r1
  · rename_i d g2 e2
    obtain ⟨I2, o2, y2, rr⟩ := frzA_ok o1 rx e2
    cases rr with
    | cons rv tt =>
      cases tt
      unfold putK' at r1
      split at r1
      · rename_i t0 c0 q0
        obtain ⟨a, ea, ow, na⟩ := o2.own_at q0
        refine ⟨.ref a, ea, rd1 (c0 := ⟨I2, σ, H1, g2⟩) rfl o2 (RemS.go (y1.trans y2) r1) fun kv H3 I3 g3 y o3 y3 ry r3 => ?_⟩
        split at r3
        · rename_i k g4 e4
          obtain ⟨I4, o4, y4, rr4⟩ := frzA_ok o3 ry e4
          cases rr4 with
          | cons rk tt =>
            cases tt
            split at r3
            · rename_i t c q4
              split at r3
              · rename_i c' e'
                exact putAt_ok (σ := σ) (g := g4) o4 q4 ea rk (rv.mono (y3.trans y4).sub) e' fun H' o5 y5 => r3 I4 σ H' o5 ((y3.trans y4).trans y5)
              · exact r3.elim
            · exact r3.elim
        · exact r3.elim
      · exact r1.elim
  · exact r1.elim
end
end Vl

set_option Elab.async false
set_option linter.all false
set_option maxRecDepth 100000
set_option maxHeartbeats 2000000
/-! the value layer: x op= e, loops -/
namespace Vl
open PySem PySem.Spec PyProof.Rows L2 My
section
variable {X : Cx} {W : WX}
structure PIpV (X : Cx) (op : Operator) (p : D → D → Option RV) : Prop where
  ex : ∃ r : TIp, PIp X op r ∧ ∀ c v u a b Q, Ok X.K c → RdD X.K c v a → RdD X.K c u b → Gives X.K c (p a b) Q → r v u c.H Q
def iaddP : D → D → Option RV
  | .int a, .int b => vI (a + b)
  | .str a, .str b => if a.length + b.length ≤ sizeLine then vS (a ++ b) else none
  | _, _ => none
theorem i_add : PIpV X .Add iaddP := by
  refine ⟨fun x y H Q => ipI (fun i j => i + j) x y H Q ∨ (∃ i j, x = .str i ∧ y = .str j ∧ i.length + j.length ≤ sizeLine ∧ Q (.str (i ++ j)) H), fun pins s σ H x y v u Q I rx ry h => h.elim (ip_add pins s σ H x y v u Q I rx ry) (iop_add_str pins s σ H x y v u Q I rx ry), fun c v u a b Q o ra rb h => ?_⟩
  cases a <;> cases b <;> simp only [iaddP] at h <;> first | exact h.elim | skip
  · rename_i i j
    rw [ra.int, rb.int]
    exact .inl ⟨i, j, rfl, rfl, h.now o (.int _)⟩
  · rename_i i j
    rw [ra.str, rb.str]
    split at h
    · exact .inr ⟨i, j, rfl, rfl, by assumption, h.now o (.str _)⟩
    · exact h.elim
def isubP : D → D → Option RV
  | .int a, .int b => vI (a - b)
  | _, _ => none
theorem i_sub : PIpV X .Sub isubP := by
  refine ⟨_, ip_sub, fun c v u a b Q o ra rb h => ?_⟩
  cases a <;> cases b <;> simp only [isubP] at h <;> first | exact h.elim | skip
  rename_i i j
  rw [ra.int, rb.int]
  exact ⟨i, j, rfl, rfl, h.now o (.int _)⟩
def augF (i : Nat) (p : D → D → Option RV) (fe : Ft) : Fs := fun g => match g[i]? with
  | some (.val _ a) => bindE (evA [fe] g) fun xs g1 => match derefA g1 xs with
    | some [b] => (match p a b with | some r => setK i r g1 | none => .stuck)
    | _ => .stuck
  | _ => .stuck
theorem vs_aug {i : Nat} {x : Str} {e : Expr} {fe : Ft} {op : Operator} {p : D → D → Option RV} {pos pos' : Pos} (hp : PIpV X op p) (hN : X.N.Nodup) (hi : X.N[i]? = some x) (hx : Loc X.env.scope x) (he : VE X W e fe)
    (hf : X.fn x = true ∨ X.env.scope.names.lookup x = some .local := by first | exact .inl rfl | exact .inr rfl | assumption) : VS X W (.AugAssign (.Name x pos') op e pos) (augF i p fe) := by
  obtain ⟨r, h1, h2⟩ := hp.ex
  refine ⟨ps_imp' (ps_aug hN hi hx he.pe h1 hf) fun D σ H ⟨I, g, o, q⟩ => ?_⟩
  unfold augF at q
  split at q
  · rename_i t a e0
    obtain ⟨v, ev, w, ew, ra⟩ := o.sl i _ e0
    subst ew
    refine ⟨w, ev, rd1 rfl o q fun u H1 I1 g1 y o1 y1 ry r1 => ?_⟩
    split at r1
    · rename_i b eb
      have rb := derefA_rd (c := ⟨I1, σ, H1, g1⟩) o1 ry eb
      cases rb with
      | cons rb tt =>
        refine h2 ⟨I1, σ, H1, g1⟩ w u a b _ o1 (.inl (Rep.mono y1.sub ra)) rb ?_
        split at r1
        · rename_i rr er
          rw [er]
          intro I2 H2 v2 o2 y2 rv2
          exact setK_ok o2 (y1.trans y2) (GoR.go y1 rv2) r1
        · exact r1.elim
    · exact r1.elim
  · exact q.elim
/-! ### a slot's item: xs[k] op= e -/
def getAt (c k : D) : Option D := match c, k with
  | .lst xs, .int i => if decide (0 ≤ i ∧ i < 2 ^ 62) = true then xs[i.toNat]? else none
  | .dct kvs, k => (keyOf k).bind fun k => valD kvs k
  | _, _ => none
theorem get_both (hu : X.A.units + 1 < cLine) : PGet X (fun o i H Q => gLst X.K o i H Q ∨ ∃ a v, o = .ref a ∧ DGet H a i (some v) ∧ Q v H) := by
  rintro pins s σ H o i ov iv Q I ro ri (h | ⟨a, v, rfl, g, q⟩)
  · exact get_lst pins s σ H o i ov iv Q I ro ri h
  · cases ro
    exact d_getItem hu I g ri fun w' s' I' r => ⟨v, H, I', r, q⟩
def augSF (i : Nat) (fk : Ft) (p : D → D → Option RV) (fe : Ft) : Fs := fun g => match g[i]? with
  | some (.own _ _) => bindE (evA [fk] g) fun ks g1 => match frzA ks g1 with
    | some ([k], g2) => (match g2[i]? with
      | some (.own _ c) => (match getAt c k with
        | some a => bindE (evA [fe] g2) fun xs g3 => (match derefA g3 xs with
          | some [b] => (match p a b, g3[i]? with
            | some (.val d), some (.own t c') => (match putAt c' k d with | some c2 => .nx (g3.set i (.own t c2)) | none => .stuck)
            | _, _ => .stuck)
          | _ => .stuck)
        | none => .stuck)
      | _ => .stuck)
    | _ => .stuck
  | _ => .stuck
theorem vs_augS {o ie e : Expr} {i : Nat} {fk fe : Ft} {op : Operator} {p : D → D → Option RV} {pos tpos : Pos} (hp : PIpV X op p) (hu : X.A.units + 1 < cLine) (ho : PE X o (tVar i)) (hk : VE X W ie fk) (he : VE X W e fe)
    (ha : ∀ ov iv new, augStore ie ov iv new = (do holding [new, ov, iv] (setItem ov iv new); release [new, ov, iv] []; pure .next) := by intros; rfl) : VS X W (.AugAssign (.Subscript o ie tpos) op e pos) (augSF i fk p fe) := by
  obtain ⟨r, h1, h2⟩ := hp.ex
  refine ⟨ps_imp' (ps_augS ho hk.pe (get_both hu) he.pe h1 (setx_both hu) ha) fun D σ H ⟨I, g, o, q⟩ => ?_⟩
  unfold augSF at q
  split at q
  · rename_i t0 c0 q0
    obtain ⟨a, ea, ow, na⟩ := o.own_at q0
    refine ⟨.ref a, ea, rd1 rfl o q fun kv H1 I1 g1 y o1 y1 ry r1 => ?_⟩
    split at r1
    · rename_i k g2 e2
      obtain ⟨I2, o2, y2, rr⟩ := frzA_ok o1 ry e2
      cases rr with
      | cons rk tt =>
        cases tt
        split at r1
        · rename_i t1 c1 q1
          split at r1
          · rename_i d ed
            obtain ⟨a', ea', ow', na'⟩ := o2.own_at q1
            rw [ea] at ea'
            cases ea'
            -- the item, then the rest
            have key : ∀ w, Rep X.K I2 w d → rdE X.K W fe σ H1 (fun y H4 => r w y H4 fun z H5 => ∃ a1, V.ref a = .ref a1 ∧ ((∃ k xs j, kv = .int k ∧ H5 a1 = some (.lst xs) ∧ ixN xs.length k = some j ∧ wL a1 (xs.set j z) H5 (D.nx σ)) ∨
                (∃ z' kvs, kv = kV z' ∧ H5 a1 = some (.dK kvs) ∧ kvs.length < sizeLine ∧ ∀ H', Xb [a1] H5 H' → H' a1 = some (.dK (putK kvs z' z)) → D.nx σ H'))) := by
              intro w rw'
              refine rd1 rfl o2 (RemS.go (y1.trans y2) r1) fun u H3 I3 g3 x o3 y3 rx r3 => ?_
              split at r3
              · rename_i b eb
                have rb := derefA_rd (c := ⟨I3, σ, H3, g3⟩) o3 rx eb
                cases rb with
                | cons rb tt =>
                  refine h2 ⟨I3, σ, H3, g3⟩ w u d b _ o3 (.inl (Rep.mono y3.sub rw')) rb ?_
                  split at r3
                  · rename_i d' t3 c3 ep q3
                    rw [ep]
                    intro I5 H5 v5 o5 y5 rv5
                    split at r3
                    · rename_i c4 e4
                      refine putAt_ok (σ := σ) (g := g3) o5 q3 ea (rk.mono (y3.trans y5).sub) rv5 e4 fun H' o6 y6 => r3 I5 σ H' o6 ((y3.trans y5).trans y6)
                    · exact r3.elim
                  · exact r3.elim
              · exact r3.elim
            unfold getAt at ed
            split at ed
            · rename_i xs j
              split at ed
              · rename_i hj
                obtain ⟨us, hx, rp⟩ := ow'
                cases rk
                obtain ⟨w, hw, rw'⟩ := rp.get ed
                exact .inl ⟨a, us, j, w, rfl, rfl, SqL.of hx, of_decide_eq_true hj, hw, key w rw'⟩
              · cases ed
            · rename_i kvs
              obtain ⟨z, ez, ed⟩ := Option.bind_eq_some_iff.mp ed
              obtain ⟨us, hx, rp⟩ := ow'
              obtain ⟨w, hw, rw'⟩ := rp.val.1 d ed
              have ek : kv = kV z := kD_kV (c := ⟨I2, σ, H1, g2⟩) (.inl rk) ez
              refine .inr ⟨a, w, rfl, ?_, key w rw'⟩
              rw [ek, ← hw]
              exact DGet.k hx
            · cases ed
          · exact r1.elim
        · exact r1.elim
    · exact r1.elim
  · exact q.elim

/-! ### targets -/
/-- a value into names, pairs of names -/
inductive Tg where
  | name (i : Nat) | tup (ts : List Tg)
mutual
def tgF : Tg → D → Sg → Option Sg
  | .name i, d, g => some (g.set i (.val false d))
  | .tup ts, d, g => match d with
    | .tup ds => tgsF ts ds g
    | _ => none
def tgsF : List Tg → List D → Sg → Option Sg
  | [], [], g => some g
  | t :: ts, d :: ds, g => (tgF t d g).bind (tgsF ts ds)
  | _, _, _ => none
end
mutual
def Tg.ns : Tg → List Nat
  | .name i => [i]
  | .tup ts => Tg.nss ts
def Tg.nss : List Tg → List Nat
  | [] => []
  | t :: ts => t.ns ++ Tg.nss ts
end
/-- only the slots l may differ -/
def Dif (l : List Nat) (σ σ' : L2.St) : Prop := σ'.length = σ.length ∧ ∀ j, j ∉ l → σ'[j]? = σ[j]?
def rdG (K : PySem.W.Frag) (t : Tg) : TG := fun v σ H Q => ∃ I g d, Ok K ⟨I, σ, H, g⟩ ∧ Rep K I v d ∧ ∃ g', tgF t d g = some g' ∧ ∀ σ', Ok K ⟨I, σ', H, g'⟩ → Go ⟨I, σ, H, g⟩ ⟨I, σ', H, g'⟩ → Dif t.ns σ σ' → Q σ' H
def rdGs (K : PySem.W.Frag) (ts : List Tg) : TGs := fun vs σ H Q => ∃ I g ds, Ok K ⟨I, σ, H, g⟩ ∧ Reps K I vs ds ∧ ∃ g', tgsF ts ds g = some g' ∧ ∀ σ', Ok K ⟨I, σ', H, g'⟩ → Go ⟨I, σ, H, g⟩ ⟨I, σ', H, g'⟩ → Dif (Tg.nss ts) σ σ' → Q σ' H
structure VG (X : Cx) (e : Expr) (t : Tg) : Prop where
  pg : PG X e (rdG X.K t)
structure VGs (X : Cx) (es : List Expr) (ts : List Tg) : Prop where
  pgs : PGs X es (rdGs X.K ts)
theorem pg_imp {e : Expr} {t t' : TG} (h : PG X e t) (k : ∀ v σ H Q, t' v σ H Q → t v σ H Q) : PG X e t' := ⟨fun pins s σ H v u Q I r hw => h.run pins s σ H v u Q I r (k v σ H Q hw)⟩
theorem pgs_imp {e : List Expr} {t t' : TGs} (h : PGs X e t) (k : ∀ v σ H Q, t' v σ H Q → t v σ H Q) : PGs X e t' := ⟨fun pins s σ H v u Q I r hw => h.run pins s σ H v u Q I r (k v σ H Q hw)⟩
theorem vg_name {i : Nat} {x : Str} {pos : Pos} (hN : X.N.Nodup) (hi : X.N[i]? = some x) (hx : Loc X.env.scope x) (hf : X.fn x = true ∨ X.env.scope.names.lookup x = some .local := by first | exact .inl rfl | exact .inr rfl | assumption) : VG X (.Name x pos) (.name i) :=
  ⟨pg_imp (pg_name hN hi hx hf) fun v σ H Q ⟨I, g, d, o, r, g', e, k⟩ => by
    cases e
    exact k _ (o.store ⟨v, rfl, r⟩ fun t d e => nomatch e) Go.store ⟨List.length_set .., fun j hj => List.getElem?_set_ne fun z => hj (by rw [z]; exact .head _)⟩⟩
theorem vgs_nil : VGs X [] [] := ⟨pgs_imp pgs_nil fun v σ H Q ⟨I, g, ds, o, r, g', e, k⟩ => by
  cases r with
  | nil => cases e; exact ⟨rfl, k σ o (Go.refl _) ⟨rfl, fun _ _ => rfl⟩⟩
  | cons _ _ => cases e⟩
end
end Vl

set_option Elab.async false
set_option linter.all false
set_option maxRecDepth 100000
set_option maxHeartbeats 2000000
/-! the value layer: targets, loops -/
namespace Vl
open PySem PySem.Spec PyProof.Rows L2 My
section
variable {X : Cx} {W : WX}
theorem vgs_cons {e : Expr} {es : List Expr} {t : Tg} {ts : List Tg} (h1 : VG X e t) (h2 : VGs X es ts)
    (hs : (assignEach (e :: es) X.env).map (·.2) = assign e X.env :: (assignEach es X.env).map (·.2) := by rfl) : VGs X (e :: es) (t :: ts) := ⟨pgs_imp (pgs_cons h1.pg h2.pgs hs) fun vs σ H Q ⟨I, g, ds, o, r, g', e, k⟩ => by
  cases r with
  | nil => cases e
  | @cons v d vs' ds' h tt =>
    obtain ⟨g1, e1, e2⟩ := Option.bind_eq_some_iff.mp e
    refine ⟨v, vs', rfl, I, g, d, o, h, g1, e1, fun σ1 o1 y1 d1 => ?_⟩
    exact ⟨I, g1, ds', o1, tt, g', e2, fun σ2 o2 y2 d2 => k σ2 o2 (y1.trans y2) ⟨d2.1.trans d1.1, fun j hj => (d2.2 j fun q => hj (List.mem_append_right _ q)).trans (d1.2 j fun q => hj (List.mem_append_left _ q))⟩⟩⟩
theorem vg_tup {es : List Expr} {k : Nat} {ts : List Tg} {pos : Pos} (hc : X.calm = true) (h : VGs X es ts)
    (hn : (assignEach es X.env).length = ts.length := by rfl) (hst : (assignEach es X.env).findIdx? (·.1) = none := by rfl) : VG X (.Tuple es k pos) (.tup ts) := ⟨pg_imp (pg_tup hc h.pgs hn hst) fun v σ H Q ⟨I, g, d, o, r, g', e, k⟩ => by
  cases d <;> first | (cases e; done) | skip
  rename_i ds
  cases r with
  | tup hq rr =>
    have hl : ∀ (ts : List Tg) (ds : List D) (g g' : Sg), tgsF ts ds g = some g' → ds.length = ts.length := by
      intro ts
      induction ts with
      | nil => intro ds g g' e; cases ds with
        | nil => rfl
        | cons _ _ => cases e
      | cons t ts ih => intro ds g g' e; cases ds with
        | nil => cases e
        | cons d ds =>
          obtain ⟨g1, _, e2⟩ := Option.bind_eq_some_iff.mp e
          rw [List.length_cons, List.length_cons, ih ds g1 g' e2]
    exact ⟨_, _, rfl, o.sub.sqT hq, by rw [rr.length]; exact hl ts ds g g' e, I, g, ds, o, rr, g', e, k⟩⟩
/-- a, b = e -/
def asgF (t : Tg) (f : Ft) : Fs := fun g => bindE (settle (f g)) fun x g1 => match frz1 x g1 with
  | some (d, g2) => (match tgF t d g2 with | some g3 => .nx g3 | none => .stuck)
  | none => .stuck
theorem RemS.settled {K : PySem.W.Frag} {c0 : Cfg} {r : Res RV} {k : RV → Sg → Rs} {D : Ends} (h : RemS K W c0 (Vl.bindE (Vl.settle r) k) D) : Rem K W (RvR K) c0 r fun v H1 => ∃ I1 g1 x, Ok K ⟨I1, c0.σ, H1, g1⟩ ∧ Go c0 ⟨I1, c0.σ, H1, g1⟩ ∧ (∃ c', RvR K c' ⟨I1, c0.σ, H1, g1⟩ v x ∧ ∀ d, x ≠ .fr d) ∧ RemS K W c0 (k x g1) D := by
  have nf : ∀ x g', Vl.settle r = .ok x g' → ∀ d, x ≠ .fr d := fun x g' h => settle_nofr h
  refine Rem.settle ?_
  revert nf h
  generalize Vl.settle r = sr
  intro h nf
  cases sr with
  | ok x g => exact fun I H v o y rv => ⟨I, g, x, o, y, ⟨_, rv, nf x g rfl⟩, h⟩
  | exn c fs g => exact fun I H e o y rv => h I _ H e o y rv
  | stuck => exact h
theorem vs_asgT {tg e : Expr} {t : Tg} {fe : Ft} {pos : Pos} (he : VE X W e fe) (hg : VG X tg t) (hs : swapsWithSole [tg] e pos.line X.env = pure false := by rfl) (hw : swappedStores [tg] e X.env = pure none := by rfl)
    (h1 : (assignEach [tg] X.env).map (·.2) = [assign tg X.env] := by rfl) : VS X W (.Assign [tg] e pos) (asgF t fe) := ⟨ps_imp' (ps_asg he.pe hg.pg hs hw h1) fun D σ H ⟨I, g, o, r⟩ => by
  refine ⟨I, g, o, (RemS.settled r).mono ?_⟩
  rintro v H1 ⟨I1, g1, x, o1, y1, ⟨c', rx, nf⟩, r1⟩
  split at r1
  · rename_i d g2 e2
    obtain ⟨I2, o2, y2, rr⟩ := frz1_ok (c0 := c') o1 rx nf e2
    split at r1
    · rename_i g3 e3
      exact ⟨I2, g2, d, o2, rr, g3, e3, fun σ' o3 y3 _ => r1 I2 σ' H1 o3 ((y1.trans y2).trans y3)⟩
    · exact r1.elim
  · exact r1.elim⟩

/-! ### what a for walks -/
/-- J yields the items ds, from c1 on -/
def ItOk (K : PySem.W.Frag) (c1 : Cfg) (J : It) (ds : List D) : Prop := ∀ c2 : Cfg, Go c1 c2 → Ok K c2 → ∀ n : Nat,
  (∀ d, ds[n]? = some d → J.go n c2.H ∧ ∀ x H', J.yld n c2.H x H' → ∃ I', Ok K ⟨I', c2.σ, H', c2.g⟩ ∧ Go c2 ⟨I', c2.σ, H', c2.g⟩ ∧ Rep K I' x d) ∧ (ds.length ≤ n → J.stop n c2.H)
def RemI (K : PySem.W.Frag) (W : WX) (c0 : Cfg) (r : Res (List D)) (R : It → Hp → Prop) : Prop := match r with
  | .ok ds g => ∀ I H J, Ok K ⟨I, c0.σ, H, g⟩ → Go c0 ⟨I, c0.σ, H, g⟩ → ItOk K ⟨I, c0.σ, H, g⟩ J ds → R J H
  | .exn x fs g => ∀ I H e, Ok K ⟨I, c0.σ, H, g⟩ → Go c0 ⟨I, c0.σ, H, g⟩ → XdAt K c0 ⟨I, c0.σ, H, g⟩ e fs → W (.ref (He.ga K x)) (some e) c0.σ H
  | .stuck => False
abbrev Fi := Sg → Res (List D)
def rdI (K : PySem.W.Frag) (W : WX) (f : Fi) : TI := fun σ H R => ∃ I g, Ok K ⟨I, σ, H, g⟩ ∧ RemI K W ⟨I, σ, H, g⟩ (f g) R
structure VI (X : Cx) (W : WX) (tg iter : Expr) (f : Fi) : Prop where
  pi : PI X tg iter (rdI X.K W f)
theorem pi_imp {tg e : Expr} {t t' : TI} (h : PI X tg e t) (k : ∀ σ H R, t' σ H R → t σ H R) : PI X tg e t' := ⟨fun pins s σ H R I hw => h.run pins s σ H R I (k σ H R hw)⟩
theorem PI.or {tg e : Expr} {t t' : TI} (h : PI X tg e t) (h' : PI X tg e t') : PI X tg e (fun σ H R => t σ H R ∨ t' σ H R) := ⟨fun pins s σ H R I hw => hw.elim (h.run pins s σ H R I) (h'.run pins s σ H R I)⟩
/-- the signs of a text, each a text -/
def charsD (z : Str) : List D := z.cps.toList.map fun c => .str ⟨#[c]⟩
def itemsOf : D → Option (List D)
  | .lst xs => some xs
  | .seq xs => some xs
  | .tup xs => some xs
  | .str z => some (charsD z)
  | _ => none
def iterF (f : Ft) : Fi := fun g => (settle (f g)).bind fun x g1 => match frz1 x g1 with
  | some (d, g2) => (match itemsOf d with | some ds => .ok ds g2 | none => .stuck)
  | none => .stuck
theorem RemI.settled {K : PySem.W.Frag} {c0 : Cfg} {r : Res RV} {k : RV → Sg → Res (List D)} {R : It → Hp → Prop} (h : RemI K W c0 ((Vl.settle r).bind k) R) : Rem K W (RvR K) c0 r fun v H1 => ∃ I1 g1 x, Ok K ⟨I1, c0.σ, H1, g1⟩ ∧ Go c0 ⟨I1, c0.σ, H1, g1⟩ ∧ (∃ c', RvR K c' ⟨I1, c0.σ, H1, g1⟩ v x ∧ ∀ d, x ≠ .fr d) ∧ RemI K W c0 (k x g1) R := by
  have nf : ∀ x g', Vl.settle r = .ok x g' → ∀ d, x ≠ .fr d := fun x g' h => settle_nofr h
  refine Rem.settle ?_
  revert nf h
  generalize Vl.settle r = sr
  intro h nf
  cases sr with
  | ok x g => exact fun I H v o y rv => ⟨I, g, x, o, y, ⟨_, rv, nf x g rfl⟩, h⟩
  | exn c fs g => exact h
  | stuck => exact h
theorem itOk_list {K : PySem.W.Frag} {c : Cfg} {a : Addr} {xs : List V} {ds : List D} (h : SqL K c.I a xs) (r : Reps K c.I xs ds) : ItOk K c (Itl K a) ds := fun c2 y o n => by
  have h2 : SqL K c2.H a xs := o.sub.sqL (y.sub.sqL h)
  refine ⟨fun d e => ?_, fun e => ⟨xs, h2, by rw [r.length]; exact e⟩⟩
  obtain ⟨v, hv, rv⟩ := r.get e
  refine ⟨⟨xs, v, h2, hv⟩, fun x H' ⟨eH, hx⟩ => ?_⟩
  subst eH
  have := hx xs h2
  rw [hv] at this
  cases this
  exact ⟨c2.I, o, Go.refl _, rv.mono y.sub⟩
theorem itOk_tup {K : PySem.W.Frag} {c : Cfg} {a : Addr} {xs : List V} {ds : List D} (h : SqT K c.I a xs) (r : Reps K c.I xs ds) : ItOk K c (Itt K a) ds := fun c2 y o n => by
  have h2 : SqT K c2.H a xs := o.sub.sqT (y.sub.sqT h)
  refine ⟨fun d e => ?_, fun e => ⟨xs, h2, by rw [r.length]; exact e⟩⟩
  obtain ⟨v, hv, rv⟩ := r.get e
  refine ⟨⟨xs, v, h2, hv⟩, fun x H' ⟨eH, hx⟩ => ?_⟩
  subst eH
  have := hx xs h2
  rw [hv] at this
  cases this
  exact ⟨c2.I, o, Go.refl _, rv.mono y.sub⟩
theorem itOk_str {K : PySem.W.Frag} {c : Cfg} {z : Str} : ItOk K c (Its z) (charsD z) := fun c2 y o n => by
  refine ⟨fun d e => ?_, fun e => ?_⟩
  · unfold charsD at e
    rw [List.getElem?_map, Option.map_eq_some_iff] at e
    obtain ⟨c1, e1, rfl⟩ := e
    have e1' : z.cps[n]? = some c1 := by rw [← Array.getElem?_toList]; exact e1
    refine ⟨(Array.getElem?_eq_some_iff.mp e1').1, fun x H' ⟨eH, k, ek, ex⟩ => ?_⟩
    subst eH
    rw [e1'] at ek
    cases ek
    subst ex
    exact ⟨c2.I, o, Go.refl _, .str _⟩
  · unfold charsD at e
    rw [List.length_map, Array.length_toList] at e
    exact e
theorem vi_of {tg e : Expr} {fe : Ft} (h : VE X W e fe) : VI X W tg e (iterF fe) := by
  refine ⟨pi_imp (PI.or (pi_list h.pe) (PI.or (pi_tup h.pe) (pi_str h.pe))) fun σ H R ⟨I, g, o, r⟩ => ?_⟩
  have r0 := RemI.settled r
  unfold iterF at r
  -- which of the three is decided by the result
  have key : ∀ (P : V → Hp → Prop), (∀ v H1 I1 g1 d, Ok X.K ⟨I1, σ, H1, g1⟩ → Go ⟨I, σ, H, g⟩ ⟨I1, σ, H1, g1⟩ → Rep X.K I1 v d → RemI X.K W ⟨I, σ, H, g⟩ (match itemsOf d with | some ds => .ok ds g1 | none => .stuck) R →
      (∃ x g0, settle (fe g) = .ok x g0 ∧ frz1 x g0 = some (d, g1)) → P v H1) → rdE X.K W fe σ H P := by
    intro P hP
    refine ⟨I, g, o, ?_⟩
    have nf : ∀ x g', Vl.settle (fe g) = .ok x g' → ∀ d, x ≠ .fr d := fun x g' h => settle_nofr h
    refine Rem.settle ?_
    revert hP nf r
    generalize Vl.settle (fe g) = sr
    intro r hP nf
    cases sr with
    | stuck => exact r
    | exn c fs g => exact r
    | ok x g0 =>
      intro I1 H1 v o1 y1 rx
      have r : RemI X.K W ⟨I, σ, H, g⟩ (match frz1 x g0 with
        | some (d, g2) => (match itemsOf d with | some ds => .ok ds g2 | none => .stuck)
        | none => .stuck) R := r
      cases e : frz1 x g0 with
      | none => rw [e] at r; exact r.elim
      | some p =>
        obtain ⟨d, g1⟩ := p
        rw [e] at r
        obtain ⟨I2, o2, y2, rr⟩ := frz1_ok (c0 := ⟨I, σ, H, g⟩) o1 rx (nf x g0 rfl) e
        exact hP v H1 I2 g1 d o2 (y1.trans y2) rr r ⟨x, g0, rfl, e⟩
  -- by what the iterable is
  by_cases hc : ∃ x g0 d g1, settle (fe g) = .ok x g0 ∧ frz1 x g0 = some (d, g1) ∧ ((∃ xs, d = .tup xs) ∨ ∃ z, d = .str z)
  · obtain ⟨x0, g0, d0, g1, e0, e1, hd⟩ := hc
    rcases hd with ⟨xs, rfl⟩ | ⟨z, rfl⟩
    · refine .inr (.inl (key _ fun v H1 I1 g2 d o1 y1 rr r1 ⟨x, g3, e2, e3⟩ => ?_))
      rw [e0] at e2
      cases e2
      rw [e1] at e3
      cases e3
      cases rr with
      | tup hq rr => exact ⟨_, rfl, ⟨_, o1.sub.sqT hq⟩, r1 I1 H1 _ o1 y1 (itOk_tup hq rr)⟩
    · refine .inr (.inr (key _ fun v H1 I1 g2 d o1 y1 rr r1 ⟨x, g3, e2, e3⟩ => ?_))
      rw [e0] at e2
      cases e2
      rw [e1] at e3
      cases e3
      cases rr
      exact ⟨z, rfl, r1 I1 H1 _ o1 y1 itOk_str⟩
  · refine .inl (key _ fun v H1 I1 g2 d o1 y1 rr r1 ⟨x, g3, e2, e3⟩ => ?_)
    cases d <;> first | exact r1.elim | skip
    · exact (hc ⟨x, g3, _, g2, e2, e3, .inr ⟨_, rfl⟩⟩).elim
    · cases rr with
      | lst hq rr => exact ⟨_, rfl, ⟨_, SqL.of (o1.sub _ _ hq)⟩, r1 I1 H1 _ o1 y1 (itOk_list (SqL.of hq) rr)⟩
    · cases rr with
      | seq hq rr => exact ⟨_, rfl, ⟨_, o1.sub.sqL hq⟩, r1 I1 H1 _ o1 y1 (itOk_list hq rr)⟩
    · exact (hc ⟨x, g3, _, g2, e2, e3, .inl ⟨_, rfl⟩⟩).elim
/-! ### range, enumerate, zip -/
def rangeD (lo : Int) (n : Nat) : List D := (List.range n).map fun i : Nat => .int (lo + i)
def rangeOf1 : List D → Option (List D)
  | [.int j] => if decide (-(2 ^ 62) ≤ j ∧ j < 2 ^ 62) = true then some (rangeD 0 j.toNat) else none
  | _ => none
def rangeOf2 : List D → Option (List D)
  | [.int i, .int j] => if decide (-(2 ^ 62) ≤ i ∧ i < 2 ^ 62 ∧ -(2 ^ 62) ≤ j ∧ j < 2 ^ 62) = true then some (rangeD i (j - i).toNat) else none
  | _ => none
def argsI (k : List D → Option (List D)) (fs : List Ft) : Fi := fun g => (evA fs g).bind fun xs g1 => match frzA xs g1 with
  | some (ds, g2) => (match k ds with | some r => .ok r g2 | none => .stuck)
  | none => .stuck
/-- the values that the arguments come to -/
def argsV (fs : List Ft) (g : Sg) : Option (List D) := match evA fs g with
  | .ok xs g1 => (frzA xs g1).map (·.1)
  | _ => none
theorem argsI_rd' {fs : List Ft} {k : List D → Option (List D)} {I : Hp} {g : Sg} {σ : L2.St} {H : Hp} {R : It → Hp → Prop} {P : List V → Hp → Prop} (o : Ok X.K ⟨I, σ, H, g⟩) (r : RemI X.K W ⟨I, σ, H, g⟩ (argsI k fs g) R)
    (hr : ∀ c vs ds r, Ok X.K c → Reps X.K c.I vs ds → argsV fs g = some ds → k ds = some r → (∀ J, ItOk X.K c J r → R J c.H) → P vs c.H) : rdA X.K W fs σ H P := by
  refine ⟨I, g, o, ?_⟩
  unfold argsI at r
  unfold argsV at hr
  revert r hr
  generalize evA fs g = sr
  intro r hr
  cases sr with
  | stuck => exact r
  | exn c fs g => exact r
  | ok xs g0 =>
    intro I1 H1 vs o1 y1 rx
    have r : RemI X.K W ⟨I, σ, H, g⟩ (match frzA xs g0 with
      | some (ds, g2) => (match k ds with | some r => .ok r g2 | none => .stuck)
      | none => .stuck) R := r
    cases e : frzA xs g0 with
    | none => rw [e] at r; exact r.elim
    | some p =>
      obtain ⟨ds, g1⟩ := p
      rw [e] at r
      obtain ⟨I2, o2, y2, rr⟩ := frzA_ok o1 rx e
      dsimp only at r
      cases e2 : k ds with
      | none => rw [e2] at r; exact r.elim
      | some l =>
        rw [e2] at r
        exact hr ⟨I2, σ, H1, g1⟩ vs ds l o2 rr (by simp [e]) e2 fun J hJ => r I2 H1 J o2 (y1.trans y2) hJ
theorem argsI_rd {fs : List Ft} {k : List D → Option (List D)} {σ : L2.St} {H : Hp} {R : It → Hp → Prop} {P : List V → Hp → Prop} (h : rdI X.K W (argsI k fs) σ H R)
    (hr : ∀ c vs ds r, Ok X.K c → Reps X.K c.I vs ds → k ds = some r → (∀ J, ItOk X.K c J r → R J c.H) → P vs c.H) : rdA X.K W fs σ H P := by
  obtain ⟨I, g, o, r⟩ := h
  exact argsI_rd' o r fun c vs ds r o rr _ ek hJ => hr c vs ds r o rr ek hJ
theorem itOk_rng {K : PySem.W.Frag} {c : Cfg} {lo : Int} {n : Nat} : ItOk K c (Itr lo n) (rangeD lo n) := fun c2 y o i => by
  refine ⟨fun d e => ?_, fun e => by rw [rangeD, List.length_map, List.length_range] at e; exact e⟩
  have hi : i < n := by
    have := (List.getElem?_eq_some_iff.mp e).1
    simpa [rangeD] using this
  simp [rangeD, hi] at e
  subst e
  refine ⟨hi, fun x H' ⟨eH, ex⟩ => ?_⟩
  subst eH ex
  exact ⟨c2.I, o, Go.refl _, .int _⟩
theorem vi_range1 {tg a : Expr} {fs : List Ft} {p pos : Pos} (hg : Gl X "range") (hm : X.mg "range" = none) (ha : VA X W [a] fs) (hs : starEach [a] X.env = [(false, eval a X.env)] := by rfl) : VI X W tg (.Call (.Name "range" p) [a] [] pos) (argsI rangeOf1 fs) := by
  refine ⟨pi_imp (pi_range1 hg hm ha.pa hs) fun σ H R r => argsI_rd r fun c vs ds l o rr ek hJ => ?_⟩
  unfold rangeOf1 at ek
  split at ek
  · rename_i j
    split at ek
    · rename_i hj
      cases ek
      have hj := of_decide_eq_true hj
      cases rr with
      | cons h t => cases h; cases t; exact ⟨j, rfl, hj.1, hj.2, hJ _ itOk_rng⟩
    · cases ek
  · cases ek
theorem vi_range2 {tg a b : Expr} {fs : List Ft} {p pos : Pos} (hg : Gl X "range") (hm : X.mg "range" = none) (ha : VA X W [a, b] fs)
    (hs : starEach [a, b] X.env = [(false, eval a X.env), (false, eval b X.env)] := by rfl) (hpl : starEach [b] X.env = [(false, eval b X.env)] := by rfl) : VI X W tg (.Call (.Name "range" p) [a, b] [] pos) (argsI rangeOf2 fs) := by
  refine ⟨pi_imp (pi_range2 hg hm ha.pa hs hpl) fun σ H R r => argsI_rd r fun c vs ds l o rr ek hJ => ?_⟩
  unfold rangeOf2 at ek
  split at ek
  · rename_i i j
    split at ek
    · rename_i hj
      cases ek
      have hj := of_decide_eq_true hj
      cases rr with
      | cons h t => cases h; cases t with
        | cons h t => cases h; cases t; exact ⟨i, j, rfl, hj, hJ _ itOk_rng⟩
    · cases ek
  · cases ek
def enumD (xs : List D) : List D := xs.mapIdx fun i d => .tup [.int (i : Nat), d]
def enumOf : List D → Option (List D)
  | [.lst xs] => some (enumD xs)
  | [.seq xs] => some (enumD xs)
  | [.tup xs] => some (enumD xs)
  | _ => none
theorem itOk_new {K : PySem.W.Frag} {c2 : Cfg} {T : Addr} {vs : List V} {ds : List D} (o : Ok K c2) (hT : c2.H T = none) (r : Reps K c2.I vs ds) :
    ∃ I', Ok K ⟨I', c2.σ, upd c2.H T (.tup vs), c2.g⟩ ∧ Go c2 ⟨I', c2.σ, upd c2.H T (.tup vs), c2.g⟩ ∧ Rep K I' (.ref T) (.tup ds) := by
  obtain ⟨I, σ, H, g⟩ := c2
  have fr : Fr H T := ⟨hT⟩
  have n : I T = none := by
    cases e : I T with
    | none => rfl
    | some u => exact (no_some fr.e (o.sub T u e)).elim
  have x : Xb [] H (upd H T (.tup vs)) := Xb.new hT
  have nw : ¬ Cfg.Own ⟨I, σ, upd H T (.tup vs), g⟩ T := fun q => by
    obtain ⟨v, hv⟩ := o.own_some (a := T) q
    exact no_some fr.e hv
  exact ⟨upd I T (.tup vs), (o.new x).frz upd_same n nw .tup, (Go.new x).frz n fr.e, .tup (SqT.of upd_same) (r.mono (Le.upd n))⟩
theorem itOk_enumL {K : PySem.W.Frag} {c : Cfg} {a : Addr} {xs : List V} {ds : List D} (h : SqL K c.I a xs) (r : Reps K c.I xs ds) : ItOk K c (Ite K a) (enumD ds) := fun c2 y o n => by
  have h2 : SqL K c2.H a xs := o.sub.sqL (y.sub.sqL h)
  refine ⟨fun d e => ?_, fun e => ⟨xs, h2, by rw [r.length]; simpa [enumD] using e⟩⟩
  unfold enumD at e
  rw [List.getElem?_mapIdx, Option.map_eq_some_iff] at e
  obtain ⟨d0, e1, rfl⟩ := e
  obtain ⟨v, hv, rv⟩ := r.get e1
  refine ⟨⟨xs, v, h2, hv⟩, fun x H' ⟨T, z, ex, hT, eH, hz⟩ => ?_⟩
  have := hz xs h2
  rw [hv] at this
  cases this
  subst ex eH
  exact itOk_new o hT (.cons (.int _) (.one (rv.mono y.sub)))
theorem itOk_enumT {K : PySem.W.Frag} {c : Cfg} {a : Addr} {xs : List V} {ds : List D} (h : SqT K c.I a xs) (r : Reps K c.I xs ds) : ItOk K c (IteT K a) (enumD ds) := fun c2 y o n => by
  have h2 : SqT K c2.H a xs := o.sub.sqT (y.sub.sqT h)
  refine ⟨fun d e => ?_, fun e => ⟨xs, h2, by rw [r.length]; simpa [enumD] using e⟩⟩
  unfold enumD at e
  rw [List.getElem?_mapIdx, Option.map_eq_some_iff] at e
  obtain ⟨d0, e1, rfl⟩ := e
  obtain ⟨v, hv, rv⟩ := r.get e1
  refine ⟨⟨xs, v, h2, hv⟩, fun x H' ⟨T, z, ex, hT, eH, hz⟩ => ?_⟩
  have := hz xs h2
  rw [hv] at this
  cases this
  subst ex eH
  exact itOk_new o hT (.cons (.int _) (.one (rv.mono y.sub)))
theorem vi_enum {e : Expr} {fs : List Ft} {p pos tpos : Pos} {elts : List Expr} {kk : Nat} (hg : Gl X "enumerate") (hm : X.mg "enumerate" = none) (ha : VA X W [e] fs) (hs : starEach [e] X.env = [(false, eval e X.env)] := by rfl) :
    VI X W (.Tuple elts kk tpos) (.Call (.Name "enumerate" p) [e] [] pos) (argsI enumOf fs) := by
  refine ⟨pi_imp (PI.or (pi_enum hg hm ha.pa hs) (pi_enumT hg hm ha.pa hs)) fun σ H R ⟨I, g, o, r⟩ => ?_⟩
  by_cases hc : ∃ ys, argsV fs g = some [.tup ys]
  · obtain ⟨ys, hc⟩ := hc
    refine .inr (argsI_rd' o r fun c vs ds l o rr ea ek hJ => ?_)
    rw [hc] at ea
    cases ea
    cases ek
    cases rr with
    | cons h t => cases t; cases h with
      | tup hq rq => exact ⟨_, _, rfl, o.sub.sqT hq, hJ _ (itOk_enumT hq rq)⟩
  · refine .inl (argsI_rd' o r fun c vs ds l o rr ea ek hJ => ?_)
    unfold enumOf at ek
    split at ek
    · cases ek
      cases rr with
      | cons h t => cases t; cases h with
        | lst hq rq => exact ⟨_, _, rfl, SqL.of (o.sub _ _ hq), hJ _ (itOk_enumL (SqL.of hq) rq)⟩
    · cases ek
      cases rr with
      | cons h t => cases t; cases h with
        | seq hq rq => exact ⟨_, _, rfl, o.sub.sqL hq, hJ _ (itOk_enumL hq rq)⟩
    · exact (hc ⟨_, ea⟩).elim
    · cases ek
def zipD (xs ys : List D) : List D := List.zipWith (fun a b => .tup [a, b]) xs ys
def zipOf : List D → Option (List D)
  | [.lst xs, .lst ys] => some (zipD xs ys)
  | [.tup xs, .tup ys] => some (zipD xs ys)
  | _ => none
theorem itOk_zipL {K : PySem.W.Frag} {c : Cfg} {a b : Addr} {xs ys : List V} {ds es : List D} (h : SqL K c.I a xs) (h' : SqL K c.I b ys) (r : Reps K c.I xs ds) (r' : Reps K c.I ys es) : ItOk K c (Itz K a b) (zipD ds es) := fun c2 y o n => by
  have h2 : SqL K c2.H a xs := o.sub.sqL (y.sub.sqL h)
  have h3 : SqL K c2.H b ys := o.sub.sqL (y.sub.sqL h')
  refine ⟨fun d e => ?_, fun e => ⟨xs, ys, h2, h3, ?_⟩⟩
  · unfold zipD at e
    rw [List.getElem?_zipWith] at e
    cases e1 : ds[n]? with
    | none => rw [e1] at e; cases e
    | some d1 =>
      cases e2 : es[n]? with
      | none => rw [e1, e2] at e; cases e
      | some d2 =>
        rw [e1, e2] at e
        cases e
        obtain ⟨v, hv, rv⟩ := r.get e1
        obtain ⟨u, hu, ru⟩ := r'.get e2
        refine ⟨⟨xs, ys, v, u, h2, h3, hv, hu⟩, fun x H' ⟨T, z1, z2, ex, hT, eH, hz1, hz2⟩ => ?_⟩
        have k1 := hz1 xs h2
        have k2 := hz2 ys h3
        rw [hv] at k1
        rw [hu] at k2
        cases k1
        cases k2
        subst ex eH
        exact itOk_new o hT (.cons (rv.mono y.sub) (.one (ru.mono y.sub)))
  · rw [r.length, r'.length]
    simp only [zipD, List.length_zipWith] at e
    omega
theorem itOk_zipT {K : PySem.W.Frag} {c : Cfg} {a b : Addr} {xs ys : List V} {ds es : List D} (h : SqT K c.I a xs) (h' : SqT K c.I b ys) (r : Reps K c.I xs ds) (r' : Reps K c.I ys es) : ItOk K c (RZ.ItzT K a b) (zipD ds es) := fun c2 y o n => by
  have h2 : SqT K c2.H a xs := o.sub.sqT (y.sub.sqT h)
  have h3 : SqT K c2.H b ys := o.sub.sqT (y.sub.sqT h')
  refine ⟨fun d e => ?_, fun e => ⟨xs, ys, h2, h3, ?_⟩⟩
  · unfold zipD at e
    rw [List.getElem?_zipWith] at e
    cases e1 : ds[n]? with
    | none => rw [e1] at e; cases e
    | some d1 =>
      cases e2 : es[n]? with
      | none => rw [e1, e2] at e; cases e
      | some d2 =>
        rw [e1, e2] at e
        cases e
        obtain ⟨v, hv, rv⟩ := r.get e1
        obtain ⟨u, hu, ru⟩ := r'.get e2
        refine ⟨⟨xs, ys, v, u, h2, h3, hv, hu⟩, fun x H' ⟨T, z1, z2, ex, hT, eH, hz1, hz2⟩ => ?_⟩
        have k1 := hz1 xs h2
        have k2 := hz2 ys h3
        rw [hv] at k1
        rw [hu] at k2
        cases k1
        cases k2
        subst ex eH
        exact itOk_new o hT (.cons (rv.mono y.sub) (.one (ru.mono y.sub)))
  · rw [r.length, r'.length]
    simp only [zipD, List.length_zipWith] at e
    omega
theorem vi_zip {e e2 : Expr} {fs : List Ft} {p pos tpos : Pos} {elts : List Expr} {kk : Nat} (hg : Gl X "zip") (hm : X.mg "zip" = none) (ha : VA X W [e, e2] fs)
    (hs : starEach [e, e2] X.env = (false, eval e X.env) :: starEach [e2] X.env := by rfl) (hpl : (backTo pos (starEach [e2] X.env)).any (·.1) = false := by rfl) : VI X W (.Tuple elts kk tpos) (.Call (.Name "zip" p) [e, e2] [] pos) (argsI zipOf fs) := by
  refine ⟨pi_imp (RZ.pi_zipA hg hm ha.pa hs hpl) fun σ H R r => argsI_rd r fun c vs ds l o rr ek hJ => ?_⟩
  unfold zipOf at ek
  split at ek
  · cases ek
    cases rr with
    | cons h t => cases t with
      | cons h' t => cases t; cases h with
        | lst hq rq => cases h' with
          | lst hq' rq' => exact ⟨_, _, _, _, rfl, .inl ⟨SqL.of (o.sub _ _ hq), SqL.of (o.sub _ _ hq'), hJ _ (itOk_zipL (SqL.of hq) (SqL.of hq') rq rq')⟩⟩
  · cases ek
    cases rr with
    | cons h t => cases t with
      | cons h' t => cases t; cases h with
        | tup hq rq => cases h' with
          | tup hq' rq' => exact ⟨_, _, _, _, rfl, .inr ⟨o.sub.sqT hq, o.sub.sqT hq', hJ _ (itOk_zipT hq hq' rq rq')⟩⟩
  · cases ek

/-! ### for, while -/
def loopF (t : Tg) (body : Fs) : List D → Sg → Rs
  | [], g => .nx g
  | d :: ds, g => match tgF t d g with
    | some g1 => (match body g1 with
      | .nx g2 => loopF t body ds g2
      | .ct g2 => loopF t body ds g2
      | .bk g2 => .nx g2
      | r => r)
    | none => .stuck
def forF (fi : Fi) (t : Tg) (body : Fs) : Fs := fun g => bindE (fi g) fun ds g1 => loopF t body ds g1
theorem vs_for {tg iter : Expr} {body : List Stmt} {fi : Fi} {t : Tg} {fb : Fs} {pos : Pos} (hp : PassesOwn (model X.prog X.w) X.A X.env X.xe) (hc : X.calm = true) (hi : VI X W tg iter fi) (hg : VG X tg t) (hb : VSs X W body fb)
    (hs : ∀ x, foldedSetIterable iter X.env x = pure x := by intro _; rfl) : VS X W (.For tg iter body [] pos) (forF fi t fb) := by
  refine ⟨ps_imp' (ps_for hp hc hi.pi hg.pg hb.pss hs) fun D σ H ⟨I, g, o, r⟩ => ?_⟩
  refine ⟨I, g, o, ?_⟩
  unfold forF at r
  cases e : fi g with
  | stuck => rw [e] at r; exact r
  | exn c fs g' => rw [e] at r; exact fun I1 H1 e1 o1 y1 x1 => r I1 σ H1 e1 o1 y1 x1
  | ok ds g1 =>
    rw [e] at r
    intro I1 H1 J o1 y1 hJ
    refine ⟨fun i m σ2 H2 => m = ds.length - i ∧ i ≤ ds.length ∧ ∃ I2 g2, Ok X.K ⟨I2, σ2, H2, g2⟩ ∧ Go ⟨I1, σ, H1, g1⟩ ⟨I2, σ2, H2, g2⟩ ∧ RemS X.K W ⟨I2, σ2, H2, g2⟩ (loopF t fb (ds.drop i) g2) D,
      ⟨ds.length, by simp, Nat.zero_le _, I1, g1, o1, Go.refl _, RemS.go y1 r⟩, ?_⟩
    rintro i m σ2 H2 ⟨rfl, hi', I2, g2, o2, y2, r2⟩
    obtain ⟨k1, k2⟩ := hJ ⟨I2, σ2, H2, g2⟩ y2 o2 i
    by_cases hlt : i < ds.length
    · obtain ⟨q1, q2⟩ := k1 ds[i] (List.getElem?_eq_getElem hlt)
      refine .inr ⟨q1, fun σ3 H3 => ∃ I3 g3, Ok X.K ⟨I3, σ3, H3, g3⟩ ∧ Go ⟨I1, σ, H1, g1⟩ ⟨I3, σ3, H3, g3⟩ ∧ RemS X.K W ⟨I3, σ3, H3, g3⟩ (loopF t fb (ds.drop (i + 1)) g3) D,
        fun σ' H' ⟨I3, g3, o3, y3, r3⟩ => ⟨ds.length - (i + 1), by omega, rfl, hlt, I3, g3, o3, y3, r3⟩, fun x H' hy => ?_⟩
      obtain ⟨I3, o3, y3, rv⟩ := q2 x H' hy
      rw [List.drop_eq_getElem_cons hlt] at r2
      unfold loopF at r2
      split at r2
      · rename_i g4 e4
        refine ⟨I3, g2, ds[i], o3, rv, g4, e4, fun σ4 o4 y4 _ => ?_⟩
        have y14 := y2.trans (y3.trans y4)
        refine ⟨I3, g4, o4, ?_⟩
        have r5 := RemS.go (y3.trans y4) r2
        cases q : fb g4 with
        | nx g5 => rw [q] at r5; exact fun I5 σ5 H5 o5 y5 => ⟨I5, g5, o5, y14.trans y5, RemS.go y5 r5⟩
        | ct g5 => rw [q] at r5; exact fun I5 σ5 H5 o5 y5 => ⟨I5, g5, o5, y14.trans y5, RemS.go y5 r5⟩
        | bk g5 => rw [q] at r5; exact r5
        | rt x g5 => rw [q] at r5; exact r5
        | exn c fs g5 => rw [q] at r5; exact r5
        | stuck => rw [q] at r5; exact r5
      · exact r2.elim
    · have e5 : i = ds.length := by omega
      subst e5
      rw [List.drop_length] at r2
      exact .inl ⟨k2 (Nat.le_refl _), r2 I2 σ2 H2 o2 (Go.refl _)⟩
/-- a while, for at most n turns -/
def whileN (t : Fb) (body : Fs) : Nat → Sg → Rs
  | 0, _ => .stuck
  | n + 1, g => bindE (t g) fun b g1 => if b = true then (match body g1 with
    | .nx g2 => whileN t body n g2
    | .ct g2 => whileN t body n g2
    | .bk g2 => .nx g2
    | r => r) else .nx g1
def Rs.fin : Rs → Prop
  | .stuck => False
  | _ => True
open Classical in
noncomputable def whileF (t : Fb) (body : Fs) : Fs := fun g => if h : ∃ n, (whileN t body n g).fin then whileN t body h.choose g else .stuck
theorem vs_while {c : Expr} {body : List Stmt} {t : Fb} {fb : Fs} {pos : Pos} (hp : PassesOwn (model X.prog X.w) X.A X.env X.xe) (hc : VT X W c t) (hb : VSs X W body fb) : VS X W (.While c body [] pos) (whileF t fb) := by
  refine ⟨ps_imp' (ps_while hp hc.pt hb.pss) fun D σ H ⟨I, g, o, r⟩ => ?_⟩
  unfold whileF at r
  split at r
  · rename_i h
    generalize h.choose = n at r
    refine ⟨fun m σ2 H2 => ∃ I2 g2, Ok X.K ⟨I2, σ2, H2, g2⟩ ∧ RemS X.K W ⟨I2, σ2, H2, g2⟩ (whileN t fb m g2) D, ⟨n, I, g, o, r⟩, ?_⟩
    rintro m σ2 H2 ⟨I2, g2, o2, r2⟩
    cases m with
    | zero => exact r2.elim
    | succ m =>
      refine ⟨I2, g2, o2, (RemS.bindE (R := RbR) r2).mono ?_⟩
      rintro b H3 ⟨I3, g3, x, o3, y3, rfl, r3⟩
      have r3 := RemS.go y3 r3
      cases b with
      | false => exact r3 I3 σ2 H3 o3 (Go.refl _)
      | true =>
        refine ⟨fun σ' H' => ∃ I4 g4, Ok X.K ⟨I4, σ', H', g4⟩ ∧ RemS X.K W ⟨I4, σ', H', g4⟩ (whileN t fb m g4) D, fun σ' H' h => ⟨m, Nat.lt_succ_self m, h⟩, I3, g3, o3, ?_⟩
        have r5 : RemS X.K W ⟨I3, σ2, H3, g3⟩ (match fb g3 with
          | .nx g2 => whileN t fb m g2
          | .ct g2 => whileN t fb m g2
          | .bk g2 => .nx g2
          | r => r) D := r3
        cases q : fb g3 with
        | nx g5 => rw [q] at r5; exact fun I5 σ5 H5 o5 y5 => ⟨I5, g5, o5, RemS.go y5 r5⟩
        | ct g5 => rw [q] at r5; exact fun I5 σ5 H5 o5 y5 => ⟨I5, g5, o5, RemS.go y5 r5⟩
        | bk g5 => rw [q] at r5; exact r5
        | rt x g5 => rw [q] at r5; exact r5
        | exn c fs g5 => rw [q] at r5; exact r5
        | stuck => rw [q] at r5; exact r5
  · exact r.elim
end
end Vl

set_option Elab.async false
set_option linter.all false
set_option maxRecDepth 100000
set_option maxHeartbeats 2000000
/-! the value layer: comprehensions -/
namespace Vl
open PySem PySem.Spec PyProof.Rows L2 My
abbrev W0 : WX := fun _ _ _ _ => False
theorem takes0' {X : Cx} : Takes X W0 := fun u s' ⟨_, _, _, _, _, _, _, _, _, _, _, _, _, _, _, _, w⟩ => w.elim
def wipeG (g : Sg) : List Nat → Sg
  | [] => g
  | v :: vs => (wipeG g vs).set v .un
theorem wipeG_get {g : Sg} {j : Nat} {s : Sl} : ∀ {vs : List Nat}, (wipeG g vs)[j]? = some s → s = .un ∨ (g[j]? = some s ∧ j ∉ vs)
  | [], h => .inr ⟨h, by simp⟩
  | v :: vs, h => by
    rcases get_set_of h with ⟨_, e⟩ | ⟨n, h⟩
    · exact .inl e
    · rcases wipeG_get h with e | ⟨e, m⟩
      · exact .inl e
      · exact .inr ⟨e, by simp [n, m]⟩
theorem wipe_get {σ : L2.St} {j : Nat} : ∀ {vs : List Nat}, j ∉ vs → (wipe σ vs)[j]? = σ[j]?
  | [], _ => rfl
  | v :: vs, h => by
    simp only [List.mem_cons, not_or] at h
    show ((wipe σ vs).set v none)[j]? = _
    rw [List.getElem?_set_ne (fun z => h.1 z.symm)]
    exact wipe_get h.2
theorem wipe_dif {σ σ' : L2.St} {vs : List Nat} (hl : σ'.length = σ.length) (h : ∀ j, j ∉ vs → σ'[j]? = σ[j]?) : wipe σ' vs = wipe σ vs := by
  apply List.ext_getElem?
  intro j
  by_cases hj : j ∈ vs
  · have key : ∀ (σ : L2.St) (vs : List Nat), j ∈ vs → j < σ.length → (wipe σ vs)[j]? = some none := by
      intro σ vs
      induction vs with
      | nil => intro h; cases h
      | cons v vs ih =>
        intro h hlt
        show ((wipe σ vs).set v none)[j]? = _
        by_cases e : v = j
        · subst e
          rw [List.getElem?_set_self (by rw [wipe_length]; exact hlt)]
        · rw [List.getElem?_set_ne e]
          rcases List.mem_cons.mp h with h | h
          · exact absurd h.symm e
          · exact ih h hlt
    by_cases hlt : j < σ.length
    · rw [key σ' vs hj (by rw [hl]; exact hlt), key σ vs hj hlt]
    · rw [List.getElem?_eq_none (by rw [wipe_length, hl]; omega), List.getElem?_eq_none (by rw [wipe_length]; omega)]
  · rw [wipe_get hj, wipe_get hj]
    exact h j hj
/-- the slots of the block forgotten, over any values there -/
theorem Ok.wiped {K : PySem.W.Frag} {I H : Hp} {σ σ' : L2.St} {g : Sg} {vs : List Nat} (o : Ok K ⟨I, σ, H, g⟩) (hl : σ'.length = σ.length) (h : ∀ j, j ∉ vs → σ'[j]? = σ[j]?) : Ok K ⟨I, σ', H, wipeG g vs⟩ where
  sub := o.sub
  nt := o.nt
  tab := o.tab
  sl := fun j s q => by
    have hlen : ∀ vs : List Nat, (wipeG g vs).length = g.length := by
      intro vs
      induction vs with
      | nil => rfl
      | cons v vs ih => show ((wipeG g vs).set v .un).length = _; rw [List.length_set]; exact ih
    have hj : j < g.length := by
      have := (List.getElem?_eq_some_iff.mp q).1
      rw [hlen] at this
      exact this
    obtain ⟨u, hu, _⟩ := o.sl j g[j] (List.getElem?_eq_getElem hj)
    have hs : j < σ'.length := by rw [hl]; exact (List.getElem?_eq_some_iff.mp hu).1
    rcases wipeG_get q with rfl | ⟨q, m⟩
    · exact ⟨_, List.getElem?_eq_getElem hs, trivial⟩
    · obtain ⟨v, h1, h2⟩ := o.sl j s q
      exact ⟨v, (h j m).trans h1, h2⟩
  dist := fun j k t t' d d' q q' e => by
    rcases wipeG_get q with z | ⟨q, m⟩
    · cases z
    · rcases wipeG_get q' with z | ⟨q', m'⟩
      · cases z
      · exact o.dist j k t t' d d' q q' (((h j m).symm.trans e).trans (h k m'))
theorem Go.wiped {I H : Hp} {σ σ' : L2.St} {g : Sg} {vs : List Nat} (h : ∀ j, j ∉ vs → σ'[j]? = σ[j]?) : Go ⟨I, σ, H, g⟩ ⟨I, σ', H, wipeG g vs⟩ where
  sub := Le.refl _
  keep := fun _ _ h _ _ => h
  dom := fun _ h => h
  grow := fun _ h h' => (h' h).elim
  own := fun a ⟨j, t, d, h1, h2⟩ => by
    rcases wipeG_get h1 with z | ⟨q, m⟩
    · cases z
    · exact .inl ⟨j, t, d, q, (h j m).symm.trans h2⟩
  ownf := fun a ⟨j, d, h1, h2⟩ => by
    rcases wipeG_get h1 with z | ⟨q, m⟩
    · cases z
    · exact .inl ⟨j, d, q, (h j m).symm.trans h2⟩
  tag := fun j s' q t => by
    rcases wipeG_get q with rfl | ⟨q, m⟩
    · cases t
    · exact ⟨⟨s', q, t⟩, h j m⟩
def noX {α : Type} (r : Res α) : Res α := match r with
  | .exn _ _ _ => .stuck
  | r => r
/-- a turn's test, its item -/
def compL (t : Tg) (tt : Option Fb) (fe : Ft) (vs : List Nat) : List D → Sg → List D → Res RV
  | [], g, acc => .ok (.fr (.lst acc)) g
  | d :: ds, g, acc => match tgF t d g with
    | some g1 => (match (match tt with | some tt => noX (tt g1) | none => .ok true g1) with
      | .ok true g2 => (match noX (settle (fe g2)) with
        | .ok x g3 => (match frz1 x g3 with
          | some (y, g4) => if acc.length < sizeLine then compL t tt fe vs ds (wipeG g4 vs) (acc ++ [y]) else .stuck
          | none => .stuck)
        | _ => .stuck)
      | .ok false g2 => compL t tt fe vs ds (wipeG g2 vs) acc
      | _ => .stuck)
    | none => .stuck
def compF (fi : Fi) (t : Tg) (tt : Option Fb) (fe : Ft) (vs : List Nat) : Ft := fun g => (fi g).bind fun ds g1 => compL t tt fe vs ds (wipeG g1 vs) []
inductive VTs (X : Cx) : List Expr → Option Fb → Prop
  | none : VTs X [] none
  | one {e : Expr} {f : Fb} (h : VT X W0 e f) : VTs X [e] (some f)
def rdTs (K : PySem.W.Frag) : Option Fb → TT
  | none => tYes
  | some f => rdT K W0 f
theorem VTs.pts {X : Cx} {es : List Expr} {f : Option Fb} (h : VTs X es f) : PTs X es (rdTs X.K f) := by
  cases h with
  | none => exact pts_nil
  | one h => exact pts_one h.pt
section
variable {X : Cx} {W : WX}
theorem comp_rd {fi : Fi} {t : Tg} {tt : Option Fb} {fe : Ft} {vs : List Nat} {σ : L2.St} {H : Hp} {Q : VK} (hn : ∀ i ∈ t.ns, i ∈ vs) (h : rdE X.K W (compF fi t tt fe vs) σ H Q) :
    tLc (rdI X.K W fi) (rdG X.K t) (rdTs X.K tt) (rdE X.K W0 fe) vs σ H Q := by
  obtain ⟨I, g, o, r⟩ := h
  refine ⟨I, g, o, ?_⟩
  unfold compF at r
  cases e : fi g with
  | stuck => rw [e] at r; exact r
  | exn c fs g' => rw [e] at r; exact r
  | ok ds g1 =>
    rw [e] at r
    intro I1 H1 J o1 y1 hJ Dd hD
    have frD : Fr H1 Dd := ⟨hD⟩
    have nI : I1 Dd = none := by
      cases q : I1 Dd with
      | none => rfl
      | some u => exact (no_some hD (o1.sub Dd u q)).elim
    -- between turns: the list at Dd holds acc
    let Inv (i : Nat) (H2 : Hp) : Prop := ∃ I2 g2 acc us, Ok X.K ⟨I2, wipe σ vs, H2, g2⟩ ∧ Go ⟨I1, σ, H1, g1⟩ ⟨I2, wipe σ vs, H2, g2⟩ ∧ wipeG g2 vs = g2 ∧ H2 Dd = some (.lst us) ∧ Reps X.K I2 us acc ∧ I2 Dd = none ∧ ¬ Cfg.Own ⟨I2, wipe σ vs, H2, g2⟩ Dd ∧
      Rem X.K W (RvR X.K) ⟨I, σ, H, g⟩ (compL t tt fe vs (ds.drop i) g2 acc) Q
    have wlen : (wipe σ vs).length = σ.length := wipe_length σ vs
    have nOwn : ∀ {I2 : Hp} {σ2 : L2.St} {H2 : Hp} {g2 : Sg}, Go ⟨I1, σ, H1, g1⟩ ⟨I2, σ2, H2, g2⟩ → True := fun _ => trivial
    have wipe2 : ∀ (g : Sg) (vs : List Nat), wipeG (wipeG g vs) vs = wipeG g vs := by
      intro g vs
      apply List.ext_getElem?
      intro j
      have hlen : ∀ (g : Sg) (vs : List Nat), (wipeG g vs).length = g.length := by
        intro g vs
        induction vs with
        | nil => rfl
        | cons v vs ih => show ((wipeG g vs).set v .un).length = _; rw [List.length_set]; exact ih
      have key : ∀ (g : Sg) (vs : List Nat), (j ∈ vs → j < g.length → (wipeG g vs)[j]? = some .un) ∧ (j ∉ vs → (wipeG g vs)[j]? = g[j]?) := by
        intro g vs
        induction vs with
        | nil => exact ⟨fun h => (nomatch h), fun _ => rfl⟩
        | cons v vs ih =>
          refine ⟨fun h hl => ?_, fun h => ?_⟩
          · show ((wipeG g vs).set v .un)[j]? = _
            by_cases e : v = j
            · subst e; rw [List.getElem?_set_self (by rw [hlen]; exact hl)]
            · rw [List.getElem?_set_ne e]
              rcases List.mem_cons.mp h with h | h
              · exact absurd h.symm e
              · exact ih.1 h hl
          · simp only [List.mem_cons, not_or] at h
            show ((wipeG g vs).set v .un)[j]? = _
            rw [List.getElem?_set_ne (fun z => h.1 z.symm)]
            exact ih.2 h.2
      by_cases hj : j ∈ vs
      · by_cases hl : j < g.length
        · rw [(key _ vs).1 hj (by rw [hlen]; exact hl), (key g vs).1 hj hl]
        · rw [List.getElem?_eq_none (by rw [hlen, hlen]; omega), List.getElem?_eq_none (by rw [hlen]; omega)]
      · rw [(key _ vs).2 hj]
    refine ⟨fun i m H2 => m = ds.length - i ∧ i ≤ ds.length ∧ Inv i H2, ⟨ds.length, by simp, Nat.zero_le _, ?_⟩, ?_⟩
    · -- the start
      have x : Xb [] H1 (upd H1 Dd (.lst [])) := Xb.new hD
      have oN : Ok X.K ⟨I1, σ, upd H1 Dd (.lst []), g1⟩ := o1.new x
      have yN : Go ⟨I1, σ, H1, g1⟩ ⟨I1, σ, upd H1 Dd (.lst []), g1⟩ := Go.new x
      refine ⟨I1, wipeG g1 vs, [], [], oN.wiped wlen (fun j hj => wipe_get hj), yN.trans (Go.wiped fun j hj => wipe_get hj), wipe2 _ _, upd_same, .nil, nI, fun q => ?_, ?_⟩
      · obtain ⟨j, t', d', q1, q2⟩ := q
        rcases wipeG_get q1 with z | ⟨q1, m⟩
        · cases z
        · obtain ⟨u, hu⟩ := o1.own_some (a := Dd) ⟨j, t', d', q1, by rw [← wipe_get (σ := σ) m]; exact q2⟩
          exact no_some hD hu
      · exact r
    · rintro i m H2 ⟨rfl, hi, I2, g2, acc, us, o2, y2, w2, hd, ra, n2, nw, r2⟩
      obtain ⟨k1, k2⟩ := hJ ⟨I2, wipe σ vs, H2, g2⟩ y2 o2 i
      by_cases hlt : i < ds.length
      · obtain ⟨q1, q2⟩ := k1 ds[i] (List.getElem?_eq_getElem hlt)
        refine .inr ⟨q1, Inv (i + 1), fun H' hI => ⟨ds.length - (i + 1), by omega, rfl, hlt, hI⟩, fun x H' hy => ?_⟩
        obtain ⟨I3, o3, y3, rv⟩ := q2 x H' hy
        rw [List.drop_eq_getElem_cons hlt] at r2
        unfold compL at r2
        have hd3 : H' Dd = some (.lst us) := y3.keep Dd _ hd nw .lst
        -- a later state keeps the list
        have later : ∀ {I4 : Hp} {σ4 : L2.St} {H4 : Hp} {g4 : Sg}, Go ⟨I2, wipe σ vs, H2, g2⟩ ⟨I4, σ4, H4, g4⟩ → H4 Dd = some (.lst us) ∧ I4 Dd = none ∧ ¬ Cfg.Own ⟨I4, σ4, H4, g4⟩ Dd := fun {I4 σ4 H4 g4} y => by
          refine ⟨y.keep Dd _ hd nw .lst, ?_, fun q => ?_⟩
          · cases q : I4 Dd with
            | none => rfl
            | some u =>
              rcases y.grow Dd n2 (by show I4 Dd ≠ none; rw [q]; exact fun z => nomatch z) with z | z
              · exact (nw z).elim
              · exact (no_some z hd).elim
          · rcases y.own Dd q with z | z
            · exact nw z
            · exact no_some z hd
        split at r2
        · rename_i g5 e5
          refine ⟨I3, g2, ds[i], o3, rv, g5, e5, fun σ5 o5 y5 d5 => ⟨?_, ?_⟩⟩
          · rw [wipe_dif d5.1 fun j hj => d5.2 j fun q => hj (hn j q)]
            exact wipe_dif wlen fun j hj => wipe_get hj
          · have w5 : ∀ j, j ∉ vs → (wipe σ vs)[j]? = σ5[j]? := fun j hj => (d5.2 j fun q => hj (hn j q)).symm
            have l5 : (wipe σ vs).length = σ5.length := d5.1.symm
            have y25 : Go ⟨I2, wipe σ vs, H2, g2⟩ ⟨I3, σ5, H', g5⟩ := y3.trans y5
            -- the test
            have fin : ∀ {b : Bool} {I6 : Hp} {H6 : Hp} {g6 : Sg}, Ok X.K ⟨I6, σ5, H6, g6⟩ → Go ⟨I2, wipe σ vs, H2, g2⟩ ⟨I6, σ5, H6, g6⟩ →
                Rem X.K W (RvR X.K) ⟨I, σ, H, g⟩ (match b with
                  | true => (match noX (settle (fe g6)) with
                    | .ok x g3 => (match frz1 x g3 with
                      | some (y, g4) => if acc.length < sizeLine then compL t tt fe vs (ds.drop (i + 1)) (wipeG g4 vs) (acc ++ [y]) else .stuck
                      | none => .stuck)
                    | _ => .stuck)
                  | false => compL t tt fe vs (ds.drop (i + 1)) (wipeG g6 vs) acc) Q →
                if b = true then rdE X.K W0 fe σ5 H6 (fun y H4 => ∃ acc, H4 Dd = some (.lst acc) ∧ acc.length < sizeLine ∧ Inv (i + 1) (upd H4 Dd (.lst (acc ++ [y])))) else Inv (i + 1) H6 := by
              intro b I6 H6 g6 o6 y6 r6
              cases b with
              | false =>
                rw [if_neg (by decide)]
                obtain ⟨p1, p2, p3⟩ := later (y6.trans (Go.wiped (vs := vs) (σ' := wipe σ vs) w5))
                exact ⟨I6, wipeG g6 vs, acc, us, o6.wiped l5 w5, (y2.trans y6).trans (Go.wiped w5), wipe2 _ _, p1, ra.mono y6.sub, p2, p3, r6⟩
              | true =>
                rw [if_pos rfl]
                refine ⟨I6, g6, o6, Rem.settle ?_⟩
                have r6 : Rem X.K W (RvR X.K) ⟨I, σ, H, g⟩ (match noX (settle (fe g6)) with
                    | .ok x g3 => (match frz1 x g3 with
                      | some (y, g4) => if acc.length < sizeLine then compL t tt fe vs (ds.drop (i + 1)) (wipeG g4 vs) (acc ++ [y]) else .stuck
                      | none => .stuck)
                    | _ => .stuck) Q := r6
                have nf : ∀ x g', settle (fe g6) = .ok x g' → ∀ d, x ≠ .fr d := fun x g' h => settle_nofr h
                revert r6 nf
                generalize settle (fe g6) = sr
                intro r6 nf
                cases sr with
                | stuck => exact r6
                | exn c fs gg => exact fun _ _ _ _ _ _ => r6
                | ok x7 g7 =>
                  intro I7 H7 v7 o7 y7 rx7
                  have r7 : Rem X.K W (RvR X.K) ⟨I, σ, H, g⟩ (match frz1 x7 g7 with
                      | some (y, g4) => if acc.length < sizeLine then compL t tt fe vs (ds.drop (i + 1)) (wipeG g4 vs) (acc ++ [y]) else .stuck
                      | none => .stuck) Q := r6
                  split at r7
                  · rename_i y8 g8 e8
                    obtain ⟨I8, o8, y8', rr8⟩ := frz1_ok (c0 := ⟨I, σ, H, g⟩) o7 rx7 (nf x7 g7 rfl) e8
                    split at r7
                    · rename_i hl
                      have y28 := (y6.trans y7).trans y8'
                      have y9 : Go ⟨I2, wipe σ vs, H2, g2⟩ ⟨I8, wipe σ vs, H7, wipeG g8 vs⟩ := y28.trans (Go.wiped (vs := vs) (σ' := wipe σ vs) w5)
                      obtain ⟨p1, p2, p3⟩ := later y9
                      have o9 : Ok X.K ⟨I8, wipe σ vs, H7, wipeG g8 vs⟩ := o8.wiped l5 w5
                      refine ⟨us, p1, by rw [ra.length]; exact hl, ?_⟩
                      -- the list grows
                      have ne : ∀ b, b ≠ Dd → upd H7 Dd (.lst (us ++ [v7])) b = H7 b := fun b hb => upd_ne hb
                      have o10 : Ok X.K ⟨I8, wipe σ vs, upd H7 Dd (.lst (us ++ [v7])), wipeG g8 vs⟩ := by
                        refine o9.grow (Le.refl _) (fun b u hb => ?_) (fun b hb => ⟨ne b fun z => by subst z; exact p3 hb, o9.own_free hb⟩) o9.nt (fun b ps hb => by rw [ne b fun z => by subst z; rw [p1] at hb; cases hb]; exact hb)
                        rw [ne b fun z => by subst z; exact no_some p2 hb]
                        exact o9.sub b u hb
                      have y10 : Go ⟨I1, σ, H1, g1⟩ ⟨I8, wipe σ vs, upd H7 Dd (.lst (us ++ [v7])), wipeG g8 vs⟩ := by
                        have y := y2.trans y9
                        refine ⟨y.sub, fun b u hb hw nt => ?_, fun b hb => ?_, y.grow, y.own, y.ownf, y.tag⟩
                        · have hb : H1 b = some u := hb
                          show upd H7 Dd (.lst (us ++ [v7])) b = some u
                          rw [ne b fun z => by subst z; exact no_some hD hb]
                          exact y.keep b u hb hw nt
                        · have hb : upd H7 Dd (.lst (us ++ [v7])) b = none := hb
                          by_cases z : b = Dd
                          · subst z; exact hD
                          · rw [ne b z] at hb; exact y.dom b hb
                      exact ⟨I8, wipeG g8 vs, acc ++ [y8], us ++ [v7], o10, y10, wipe2 _ _, upd_same, (ra.mono y28.sub).append (.one rr8), p2, p3, r7⟩
                    · exact r7.elim
                  · exact r7.elim
            cases tt with
            | none =>
              refine fin (b := true) o5 y25 ?_
              exact r2
            | some tf =>
              refine ⟨I3, g5, o5, ?_⟩
              have r2 : Rem X.K W (RvR X.K) ⟨I, σ, H, g⟩ (match noX (tf g5) with
                | .ok true g2 => (match noX (settle (fe g2)) with
                  | .ok x g3 => (match frz1 x g3 with
                    | some (y, g4) => if acc.length < sizeLine then compL t (some tf) fe vs (ds.drop (i + 1)) (wipeG g4 vs) (acc ++ [y]) else .stuck
                    | none => .stuck)
                  | _ => .stuck)
                | .ok false g2 => compL t (some tf) fe vs (ds.drop (i + 1)) (wipeG g2 vs) acc
                | _ => .stuck) Q := r2
              revert r2
              generalize tf g5 = tr
              intro r2
              cases tr with
              | stuck => exact r2
              | exn c fs gg => exact fun _ _ _ _ _ _ => r2
              | ok b g6 =>
                intro I6 H6 b' o6 y6 eb
                subst eb
                refine fin (b := b') o6 (y25.trans y6) ?_
                cases b' <;> exact r2
        · exact r2.elim
      · have e5 : i = ds.length := by omega
        subst e5
        rw [List.drop_length] at r2
        refine .inl ⟨k2 (Nat.le_refl _), ?_⟩
        -- back to the def's own slots
        have w6 : ∀ j, j ∉ vs → σ[j]? = (wipe σ vs)[j]? := fun j hj => (wipe_get hj).symm
        have o6 : Ok X.K ⟨I2, σ, H2, g2⟩ := by rw [← w2]; exact o2.wiped wlen.symm w6
        have y6 : Go ⟨I1, σ, H1, g1⟩ ⟨I2, σ, H2, g2⟩ := by
          have := y2.trans (Go.wiped (vs := vs) (σ' := σ) w6)
          rw [w2] at this
          exact this
        refine r2 I2 H2 (.ref Dd) o6 (y1.trans y6) ⟨Dd, rfl, ⟨us, hd, ra⟩, n2, fun q => ?_, y1.dom Dd hD⟩
        have yb : Go ⟨I2, wipe σ vs, H2, g2⟩ ⟨I2, σ, H2, g2⟩ := by
          have := Go.wiped (I := I2) (H := H2) (g := g2) (vs := vs) (σ := wipe σ vs) (σ' := σ) w6
          rw [w2] at this
          exact this
        rcases yb.own Dd q with z | z
        · exact nw z
        · exact no_some z hd
section
variable {elt tg iter : Expr} {ifs : List Expr} {scope : Scope} {own : List (Str × Nat)} {pos : Pos} {fi : Fi} {t : Tg} {tt : Option Fb} {fe : Ft}
theorem ve_comp (hc : X.calm = true) (hN : X.N.Nodup) (hi : VI X W tg iter fi) (ok : BlkOk X.N X.env.scope scope own) (hn : ∀ i ∈ t.ns, i ∈ own.map (·.2))
    (hg : ∀ (s : Shared) (H : Hp) (C : Addr) (cl : List (Str × Addr)) (fp : List Addr), VG (X.blk s H scope (compEnvC scope cl C X.env) fp) tg t) (ht : ∀ (s : Shared) (H : Hp) (C : Addr) (cl : List (Str × Addr)) (fp : List Addr), VTs (X.blk s H scope (compEnvC scope cl C X.env) fp) ifs tt)
    (he : ∀ (s : Shared) (H : Hp) (C : Addr) (cl : List (Str × Addr)) (fp : List Addr), VE (X.blk s H scope (compEnvC scope cl C X.env) fp) W0 elt fe) (hs : ∀ x, foldedSetIterable iter X.env x = pure x := by intro _; rfl) :
    VE X W (.ListComp elt [⟨tg, iter, ifs, 0⟩] scope pos) (compF fi t tt fe (own.map (·.2))) :=
  ⟨pe_imp (pe_lc (g := rdG X.K t) (tt := rdTs X.K tt) (te := rdE X.K W0 fe) hc hN hi.pi ok (fun s H C cl fp => (hg s H C cl fp).pg) (fun s H C cl fp => (ht s H C cl fp).pts) (fun s H C cl fp => (he s H C cl fp).pe) hs) fun σ H Q h => comp_rd hn h⟩
theorem vs_setComp {i : Nat} {y : Str} {py spos : Pos} (hc : X.calm = true) (hN : X.N.Nodup) (hy : X.N[i]? = some y) (hyl : X.env.scope.names.lookup y = some .local)
    (hsw : swapsWith (.ListComp elt [⟨tg, iter, ifs, 0⟩] scope pos) (some (.Name y py)) spos.line X.env = pure true) (hi : VI X W tg iter fi) (ok : BlkOk X.N X.env.scope scope own) (hn : ∀ i ∈ t.ns, i ∈ own.map (·.2))
    (hg : ∀ (s : Shared) (H : Hp) (C : Addr) (cl : List (Str × Addr)) (fp : List Addr), VG (X.blk s H scope (compEnvC scope cl C X.env) fp) tg t) (ht : ∀ (s : Shared) (H : Hp) (C : Addr) (cl : List (Str × Addr)) (fp : List Addr), VTs (X.blk s H scope (compEnvC scope cl C X.env) fp) ifs tt)
    (he : ∀ (s : Shared) (H : Hp) (C : Addr) (cl : List (Str × Addr)) (fp : List Addr), VE (X.blk s H scope (compEnvC scope cl C X.env) fp) W0 elt fe) (hs : ∀ x, foldedSetIterable iter X.env x = pure x := by intro _; rfl) :
    VS X W (.Assign [.Name y py] (.ListComp elt [⟨tg, iter, ifs, 0⟩] scope pos) spos) (setF i (compF fi t tt fe (own.map (·.2)))) := by
  refine ⟨ps_imp' (ps_setLc (g := rdG X.K t) (tt := rdTs X.K tt) (te := rdE X.K W0 fe) hc hN hy hyl hsw hi.pi ok (fun s H C cl fp => (hg s H C cl fp).pg) (fun s H C cl fp => (ht s H C cl fp).pts) (fun s H C cl fp => (he s H C cl fp).pe) hs) fun D σ H ⟨I, g, o, r⟩ => ?_⟩
  refine comp_rd hn ⟨I, g, o, (RemS.bindE (R := RvR X.K) r).mono ?_⟩
  rintro v H1 ⟨I1, g1, x, o1, y1, rx, r1⟩
  exact setK_ok o1 y1 rx r1
end
end
end Vl

set_option Elab.async false
set_option linter.all false
set_option maxRecDepth 100000
set_option maxHeartbeats 2000000
/-! the value layer: defs and their calls -/
namespace Vl
open PySem PySem.Spec PyProof.Rows L2 My
inductive Ar where
  | val (d : D) | own (d : D)
inductive Rc where
  | ok (r : RV) (outs : List Sl) | exn (c : Str) (fs : List (Str × D)) | stuck
abbrev Fm := List Ar → Rc
def ArR (K : PySem.W.Frag) (I H : Hp) (v : V) : Ar → Prop
  | .val d => Rep K I v d
  | .own d => ∃ a, v = .ref a ∧ OwnAt K I H a d ∧ I a = none
/-- the addresses that the call may write -/
def Mine (vs : List V) (as : List Ar) (a : Addr) : Prop := ∃ (j : Nat) (d : D), as[j]? = some (.own d) ∧ vs[j]? = some (.ref a)
structure Wld (K : PySem.W.Frag) (I0 H0 : Hp) (vs : List V) (as : List Ar) (I H : Hp) : Prop where
  le : Le I H
  sub : Le I0 I
  keep : ∀ a o, H0 a = some o → ¬ Mine vs as a → NTb o → H a = some o
  dom : ∀ a, H a = none → H0 a = none
  grow : ∀ a, I0 a = none → I a ≠ none → Mine vs as a ∨ H0 a = none
  nt : NoTab I
  tab : TabsV K I H
def OutR (K : PySem.W.Frag) (I H : Hp) (a : Addr) : Option Sl → Prop
  | some (.own true d) => OwnAt K I H a d ∧ I a = none
  | some (.val true d) => Rep K I (.ref a) d
  | _ => True
def RtC (K : PySem.W.Frag) (H0 I H : Hp) (v : V) : RV → Prop
  | .val d => Rep K I v d
  | .fr d => ∃ a, v = .ref a ∧ OwnAt K I H a d ∧ I a = none ∧ H0 a = none
  | .at_ _ => False
def RemC (K : PySem.W.Frag) (I0 H0 : Hp) (vs : List V) (as : List Ar) (r : Rc) (Q : VK) (E : XK) : Prop := match r with
  | .ok r outs => ∀ I H v, Wld K I0 H0 vs as I H → (∀ (j : Nat) (d : D) (a : Addr), as[j]? = some (.own d) → vs[j]? = some (.ref a) → OutR K I H a outs[j]?) → RtC K H0 I H v r → Q v H
  | .exn c fs => ∀ I H e, Wld K I0 H0 vs as I H → (∃ xs, H e = some (.xd xs) ∧ RepF K I xs fs) → H0 e = none → I e = none → E (.ref (He.ga K c)) (some e) H
  | .stuck => False
def Apart (vs : List V) (as : List Ar) : Prop := ∀ (i j : Nat) (d d' : D), as[i]? = some (.own d) → as[j]? = some (.own d') → vs[i]? = vs[j]? → i = j
def spV (K : PySem.W.Frag) (m : Fm) : Sp := fun vs H Q E => ∃ I as, Le I H ∧ (NoTab I ∧ TabsV K I H) ∧ Paired (ArR K I H) vs as ∧ Apart vs as ∧ RemC K I H vs as (m as) Q E
/-- a def's slots at its entry -/
def startG (n : Nat) (as : List Ar) : Sg := as.map (fun a => match a with | .val d => Sl.val true d | .own d => Sl.own true d) ++ List.replicate (n - as.length) .un
def fnK (k : Nat) (r : Rs) : Rc := match r with
  | .rt r g => .ok r (g.take k)
  | .nx g => .ok (.val .non) (g.take k)
  | .exn c fs _ => .exn c fs
  | _ => .stuck
/-- what a def with these slots and this body computes -/
def fnM (k n : Nat) (f : Fs) : Fm := fun as => if as.length = k then fnK k (f (startG n as)) else .stuck
theorem paired_get {α β : Type} {R : α → β → Prop} : ∀ {xs : List α} {ys : List β} {i : Nat} {y : β}, Paired R xs ys → ys[i]? = some y → ∃ x, xs[i]? = some x ∧ R x y
  | _, _, 0, y, .cons h _, e => ⟨_, rfl, by simp at e; exact e ▸ h⟩
  | _, _, i + 1, y, .cons _ t, e => by
    obtain ⟨v, h1, h2⟩ := paired_get (i := i) (y := y) t (by simpa using e)
    exact ⟨v, by simpa using h1, h2⟩
theorem startG_get {n : Nat} {as : List Ar} {i : Nat} {s : Sl} (h : (startG n as)[i]? = some s) : (∃ d, as[i]? = some (.val d) ∧ s = .val true d) ∨ (∃ d, as[i]? = some (.own d) ∧ s = .own true d) ∨ (as.length ≤ i ∧ s = .un ∧ i < n) := by
  unfold startG at h
  by_cases hi : i < as.length
  · rw [List.getElem?_append_left (by simpa using hi), List.getElem?_map, List.getElem?_eq_getElem hi] at h
    rw [List.getElem?_eq_getElem hi]
    cases e : as[i] with
    | val d => rw [e] at h; cases h; exact .inl ⟨d, rfl, rfl⟩
    | own d => rw [e] at h; cases h; exact .inr (.inl ⟨d, rfl, rfl⟩)
  · rw [List.getElem?_append_right (by simpa using Nat.le_of_not_lt hi)] at h
    have := List.getElem?_eq_some_iff.mp h
    obtain ⟨h1, h2⟩ := this
    rw [List.getElem_replicate] at h2
    rw [List.length_replicate, List.length_map] at h1
    exact .inr (.inr ⟨Nat.le_of_not_lt hi, h2.symm, by omega⟩)
theorem start_lt {N : List Str} {vs : List V} {i : Nat} {v : V} (h : vs[i]? = some v) : (L2.start N vs)[i]? = some (some v) := by
  unfold L2.start
  have hi := (List.getElem?_eq_some_iff.mp h).1
  rw [List.getElem?_append_left (by simpa using hi), List.getElem?_map, h]
  rfl
theorem start_ge {N : List Str} {vs : List V} {i : Nat} (h : vs.length ≤ i) (hn : i < N.length) : (L2.start N vs)[i]? = some none := by
  unfold L2.start
  rw [List.getElem?_append_right (by simpa using h), List.length_map, List.getElem?_replicate_of_lt (by omega)]
section
variable {P : Program} {w : World} {K : PySem.W.Frag} {mg : Str → Option Value} {base : Heap}
/-- a def's promise, from its body -/
theorem fn_len {k n : Nat} {f : Fs} {vs : List V} {H : Hp} {Q : VK} {E : XK} (h : spV K (fnM k n f) vs H Q E) : vs.length = k := by
  obtain ⟨I, as, le, tb, pr, ap, r⟩ := h
  unfold fnM at r
  split at r
  · rw [Paired.length pr]; assumption
  · exact r.elim
theorem body_sp {X : Cx} {N : List Str} {k : Nat} {body : List Stmt} {f : Fs} {vs : List V} {H : Hp} {Q : VK} {E : XK} (hb : VSs X (fun cls d _ H => E cls d H) body f) (h : spV X.K (fnM k N.length f) vs H Q E) :
    ∃ t, PSs X body t ∧ t { nx := fun _ H' => Q .non H', rt := Q } (L2.start N vs) H := by
  obtain ⟨I, as, le, tb, pr, ap, r⟩ := h
  unfold fnM at r
  split at r
  rotate_left
  · exact r.elim
  rename_i hk
  subst hk
  refine ⟨_, hb.pss, I, startG N.length as, ?_, ?_⟩
  · refine ⟨le, fun i s hs => ?_, fun i j t t' d d' h1 h2 e => ?_, tb.1, tb.2⟩
    · rcases startG_get hs with ⟨d, e, rfl⟩ | ⟨d, e, rfl⟩ | ⟨e, rfl, hi⟩
      · obtain ⟨v, hv, rv⟩ := paired_get pr e
        exact ⟨_, start_lt hv, v, rfl, rv⟩
      · obtain ⟨v, hv, a, rfl, q⟩ := paired_get pr e
        exact ⟨_, start_lt hv, a, rfl, q⟩
      · exact ⟨_, start_ge (by rw [Paired.length pr]; exact e) hi, trivial⟩
    · rcases startG_get h1 with ⟨d1, e1, z⟩ | ⟨d1, e1, z⟩ | ⟨e1, z, _⟩ <;> cases z
      rcases startG_get h2 with ⟨d2, e2, z⟩ | ⟨d2, e2, z⟩ | ⟨e2, z, _⟩ <;> cases z
      obtain ⟨v, hv, _⟩ := paired_get pr e1
      obtain ⟨u, hu, _⟩ := paired_get pr e2
      refine ap i j _ _ e1 e2 ?_
      have e : (L2.start N vs)[i]? = (L2.start N vs)[j]? := e
      rw [start_lt hv, start_lt hu] at e
      rw [hv, hu]
      cases e
      rfl
  · -- the result
    let c0 : Cfg := ⟨I, L2.start N vs, H, startG N.length as⟩
    have own : ∀ a, c0.Own a → Mine vs as a := fun a ⟨i, t, d, h1, h2⟩ => by
      rcases startG_get h1 with ⟨d1, e1, z⟩ | ⟨d1, e1, z⟩ | ⟨e1, z, _⟩ <;> cases z
      obtain ⟨v, hv, _⟩ := paired_get pr e1
      have h2 : (L2.start N vs)[i]? = some (some (.ref a)) := h2
      rw [start_lt hv] at h2
      cases h2
      exact ⟨i, _, e1, hv⟩
    have ownf : ∀ a, ¬ c0.OwnF a := fun a ⟨i, d, h1, _⟩ => by
      rcases startG_get h1 with ⟨d1, e1, z⟩ | ⟨d1, e1, z⟩ | ⟨e1, z, _⟩ <;> cases z
    have wld : ∀ {I' : Hp} {σ' : L2.St} {H' : Hp} {g' : Sg}, Ok X.K ⟨I', σ', H', g'⟩ → Go c0 ⟨I', σ', H', g'⟩ → Wld X.K I H vs as I' H' := fun o y =>
      ⟨o.sub, y.sub, fun a u e n nt => y.keep a u e (fun q => n (own a q)) nt, y.dom, fun a e e' => (y.grow a e e').imp (own a) id, o.nt, o.tab⟩
    have outs : ∀ {I' : Hp} {σ' : L2.St} {H' : Hp} {g' : Sg}, Ok X.K ⟨I', σ', H', g'⟩ → Go c0 ⟨I', σ', H', g'⟩ → ∀ (j : Nat) (d : D) (a : Addr), as[j]? = some (.own d) → vs[j]? = some (.ref a) → OutR X.K I' H' a (g'.take as.length)[j]? := by
      intro I' σ' H' g' o y j d a e1 e2
      have hj := (List.getElem?_eq_some_iff.mp e1).1
      rw [List.getElem?_take_of_lt hj]
      cases q : g'[j]? with
      | none => trivial
      | some s =>
        cases s with
        | un => trivial
        | val t d' =>
          cases t with
          | false => trivial
          | true =>
            obtain ⟨_, es⟩ := y.tag j _ q rfl
            obtain ⟨u, hu, v, ev, rv⟩ := o.sl j _ q
            have es : σ'[j]? = (L2.start N vs)[j]? := es
            have hu : σ'[j]? = some u := hu
            rw [es, start_lt e2] at hu
            cases hu
            cases ev
            exact rv
        | own t d' =>
          cases t with
          | false => trivial
          | true =>
            obtain ⟨_, es⟩ := y.tag j _ q rfl
            obtain ⟨u, hu, b, ev, rv, n⟩ := o.sl j _ q
            have es : σ'[j]? = (L2.start N vs)[j]? := es
            have hu : σ'[j]? = some u := hu
            rw [es, start_lt e2] at hu
            cases hu
            cases ev
            exact ⟨rv, n⟩
    have r : RemC X.K I H vs as (fnK as.length (f (startG N.length as))) Q E := r
    show RemS X.K (fun cls d _ H => E cls d H) c0 (f (startG N.length as)) _
    revert r
    generalize f (startG N.length as) = res
    intro r
    cases res with
    | stuck => exact r
    | bk g => exact r.elim
    | ct g => exact r.elim
    | nx g => exact fun I' σ' H' o y => r I' H' .non (wld o y) (outs o y) .non
    | rt x g =>
      refine fun I' σ' H' v o y rv => r I' H' v (wld o y) (outs o y) ?_
      cases x with
      | val d => exact rv
      | at_ i => exact rv
      | fr d =>
        obtain ⟨a, e, ow, n, _, z⟩ := rv
        exact ⟨a, e, ow, n, z.elim (fun z => (ownf a z).elim) id⟩
    | exn c fs g =>
      refine fun I' σ' H' e o y ⟨xs, h1, h2, h3, h4, h5⟩ => r I' H' e (wld o y) ⟨xs, h1, h2⟩ h5 h4
end
end Vl

set_option Elab.async false
set_option linter.all false
set_option maxRecDepth 100000
set_option maxHeartbeats 2000000
/-! the value layer: calls of defs by name -/
namespace Vl
open PySem PySem.Spec PyProof.Rows L2 My
def ixs : List RV → List Nat
  | [] => []
  | .at_ i :: r => i :: ixs r
  | _ :: r => ixs r
def toAr (g : Sg) : RV → Option Ar
  | .val d => some (.val d)
  | .at_ i => match g[i]? with
    | some (.own _ d) => some (.own d)
    | some (.val _ d) => some (.val d)
    | _ => none
  | .fr _ => none
def toArs (g : Sg) : List RV → Option (List Ar)
  | [] => some []
  | x :: xs => (toAr g x).bind fun a => (toArs g xs).map (a :: ·)
/-- what has become of the object of slot j -/
def outFor (j : Nat) : List RV → List Sl → Option Sl
  | [], _ => none
  | .at_ i :: rs, os => if i = j then some (os.headD .un) else outFor j rs os.tail
  | _ :: rs, os => outFor j rs os.tail
def outC (t : Bool) : Sl → Sl
  | .own true d => .own t d
  | .val true d => .val t d
  | _ => .un
def putOuts (rs : List RV) (os : List Sl) (g : Sg) : Sg := g.mapIdx fun j s => match s with
  | .own t d => (match outFor j rs os with | some o => outC t o | none => .own t d)
  | s => s
def callK (m : Fm) (rs : List RV) (g : Sg) : Res RV := if (ixs rs).Nodup then
    (match toArs g rs with
    | some as => (match m as with
      | .ok (.val d) outs => .ok (.val d) (putOuts rs outs g)
      | .ok (.fr d) outs => .ok (.fr d) (putOuts rs outs g)
      | .exn c fs => .exn c fs (putOuts rs [] g)
      | _ => .stuck)
    | none => .stuck) else .stuck
def callM (m : Fm) (fs : List Ft) : Ft := fun g => (evA fs g).bind (callK m)
theorem toArs_get {g : Sg} : ∀ {rs : List RV} {as : List Ar} {k : Nat} {a : Ar}, toArs g rs = some as → as[k]? = some a → ∃ r, rs[k]? = some r ∧ toAr g r = some a
  | [], as, k, a, h, e => by cases h; simp at e
  | r :: rs, as, k, a, h, e => by
    simp only [toArs, Option.bind_eq_some_iff, Option.map_eq_some_iff] at h
    obtain ⟨b, h1, bs, h2, rfl⟩ := h
    cases k with
    | zero => simp at e; subst e; exact ⟨r, rfl, h1⟩
    | succ k =>
      obtain ⟨r', q1, q2⟩ := toArs_get (k := k) (a := a) h2 (by simpa using e)
      exact ⟨r', by simpa using q1, q2⟩
theorem toArs_len {g : Sg} : ∀ {rs : List RV} {as : List Ar}, toArs g rs = some as → as.length = rs.length
  | [], as, h => by cases h; rfl
  | r :: rs, as, h => by
    simp only [toArs, Option.bind_eq_some_iff, Option.map_eq_some_iff] at h
    obtain ⟨b, h1, bs, h2, rfl⟩ := h
    rw [List.length_cons, List.length_cons, toArs_len h2]
theorem mem_ixs {i : Nat} : ∀ {rs : List RV} {k : Nat}, rs[k]? = some (.at_ i) → i ∈ ixs rs
  | [], k, h => by simp at h
  | r :: rs, 0, h => by simp at h; subst h; exact .head _
  | r :: rs, k + 1, h => by
    have := mem_ixs (rs := rs) (k := k) (by simpa using h)
    cases r <;> first | exact this | exact .tail _ this
theorem ixs_inj {i : Nat} : ∀ {rs : List RV} {k l : Nat}, (ixs rs).Nodup → rs[k]? = some (.at_ i) → rs[l]? = some (.at_ i) → k = l
  | [], k, l, _, h, _ => by simp at h
  | r :: rs, 0, 0, _, _, _ => rfl
  | r :: rs, 0, l + 1, n, h, h' => by
    simp at h
    subst h
    have := mem_ixs (rs := rs) (k := l) (by simpa using h')
    exact absurd this (List.nodup_cons.mp n).1
  | r :: rs, k + 1, 0, n, h, h' => by
    simp at h'
    subst h'
    have := mem_ixs (rs := rs) (k := k) (by simpa using h)
    exact absurd this (List.nodup_cons.mp n).1
  | r :: rs, k + 1, l + 1, n, h, h' => by
    have n' : (ixs rs).Nodup := by cases r <;> first | exact n | exact (List.nodup_cons.mp n).2
    rw [ixs_inj (rs := rs) (k := k) (l := l) n' (by simpa using h) (by simpa using h')]
theorem outFor_some {j : Nat} : ∀ {rs : List RV} {os : List Sl} {o : Sl}, outFor j rs os = some o → ∃ k : Nat, rs[k]? = some (RV.at_ j) ∧ (os[k]? = some o ∨ (os[k]? = none ∧ o = .un))
  | [], os, o, h => by cases h
  | r :: rs, os, o, h => by
    have rc : outFor j rs os.tail = some o → ∃ k : Nat, (r :: rs)[k]? = some (RV.at_ j) ∧ (os[k]? = some o ∨ (os[k]? = none ∧ o = .un)) := fun h => by
      obtain ⟨k, h1, h2⟩ := outFor_some h
      refine ⟨k + 1, by simpa using h1, ?_⟩
      cases os with
      | nil => simpa using h2
      | cons x os => simpa using h2
    cases r with
    | val d => exact rc h
    | fr d => exact rc h
    | at_ i =>
      simp only [outFor] at h
      split at h
      · rename_i e
        subst e
        refine ⟨0, rfl, ?_⟩
        cases h
        cases os with
        | nil => exact .inr ⟨rfl, rfl⟩
        | cons x os => exact .inl rfl
      · exact rc h
theorem outFor_none {j : Nat} : ∀ {rs : List RV} {os : List Sl}, outFor j rs os = none → ∀ k : Nat, rs[k]? ≠ some (RV.at_ j)
  | [], os, h, k => by simp
  | r :: rs, os, h, k => by
    have rc : outFor j rs os.tail = none → ∀ k : Nat, rs[k]? ≠ some (RV.at_ j) := fun h => outFor_none h
    cases r with
    | val d => cases k with
      | zero => simp
      | succ k => simpa using rc h k
    | fr d => cases k with
      | zero => simp
      | succ k => simpa using rc h k
    | at_ i =>
      simp only [outFor] at h
      split at h
      · cases h
      · rename_i e
        cases k with
        | zero => simpa using e
        | succ k => simpa using rc h k
/-- a slot behind the call -/
theorem putOuts_get {rs : List RV} {os : List Sl} {g : Sg} {j : Nat} {s' : Sl} (h : (putOuts rs os g)[j]? = some s') :
    (∃ t d, g[j]? = some (.own t d) ∧ ((s' = .own t d ∧ ∀ k : Nat, rs[k]? ≠ some (RV.at_ j)) ∨ ∃ k : Nat, rs[k]? = some (RV.at_ j) ∧ ∃ o, (os[k]? = some o ∨ (os[k]? = none ∧ o = .un)) ∧ s' = outC t o)) ∨ (g[j]? = some s' ∧ ∀ t d, s' ≠ .own t d) := by
  unfold putOuts at h
  rw [List.getElem?_mapIdx, Option.map_eq_some_iff] at h
  obtain ⟨s, e, h⟩ := h
  cases s with
  | un => cases h; exact .inr ⟨e, fun _ _ z => nomatch z⟩
  | val t d => cases h; exact .inr ⟨e, fun _ _ z => nomatch z⟩
  | own t d =>
    refine .inl ⟨t, d, e, ?_⟩
    have h : (match outFor j rs os with | some o => outC t o | none => .own t d) = s' := h
    cases q : outFor j rs os with
    | none => rw [q] at h; exact .inl ⟨h.symm, outFor_none q⟩
    | some o =>
      rw [q] at h
      obtain ⟨k, h1, h2⟩ := outFor_some q
      exact .inr ⟨k, h1, o, h2, h.symm⟩
section
variable {X : Cx} {W : WX}
theorem args_ok {K : PySem.W.Frag} {c0 : Cfg} {I H : Hp} {σ : L2.St} {g : Sg} (o : Ok K ⟨I, σ, H, g⟩) : ∀ {vs : List V} {rs : List RV} {as : List Ar}, RvsR K c0 ⟨I, σ, H, g⟩ vs rs → toArs g rs = some as → Paired (ArR K I H) vs as
  | [], [], as, .nil, h => by cases h; exact .nil
  | v :: vs, r :: rs, as, .cons ⟨c', rx, nf⟩ t, h => by
    simp only [toArs, Option.bind_eq_some_iff, Option.map_eq_some_iff] at h
    obtain ⟨b, h1, bs, h2, rfl⟩ := h
    refine .cons ?_ (args_ok (c0 := c0) o t h2)
    cases r with
    | val d => cases h1; exact rx
    | fr d => cases h1
    | at_ i =>
      have rx : σ[i]? = some (some v) := rx
      simp only [toAr] at h1
      split at h1
      · rename_i t' d q
        cases h1
        obtain ⟨u, e1, a, e2, r, n⟩ := o.sl i _ q
        have e1 : σ[i]? = some u := e1
        rw [rx] at e1
        cases e1
        cases e2
        exact ⟨a, rfl, r, n⟩
      · rename_i t' d q
        cases h1
        obtain ⟨u, e1, w, e2, r⟩ := o.sl i _ q
        have e1 : σ[i]? = some u := e1
        rw [rx] at e1
        cases e1
        cases e2
        exact r
      · cases h1
/-- the state behind a call -/
theorem call_ok {K : PySem.W.Frag} {c0 : Cfg} {I H I' H' : Hp} {σ : L2.St} {g : Sg} {vs : List V} {rs : List RV} {as : List Ar} {os : List Sl} (o : Ok K ⟨I, σ, H, g⟩) (rr : RvsR K c0 ⟨I, σ, H, g⟩ vs rs) (ea : toArs g rs = some as) (nd : (ixs rs).Nodup)
    (wl : Wld K I H vs as I' H') (ho : ∀ (j : Nat) (d : D) (a : Addr), as[j]? = some (.own d) → vs[j]? = some (.ref a) → OutR K I' H' a os[j]?) :
    Ok K ⟨I', σ, H', putOuts rs os g⟩ ∧ Go ⟨I, σ, H, g⟩ ⟨I', σ, H', putOuts rs os g⟩ ∧ ∀ a, Mine vs as a → Cfg.Own ⟨I, σ, H, g⟩ a := by
  have val : ∀ (k : Nat) (r : RV), rs[k]? = some r → ∃ v, vs[k]? = some v ∧ ∃ c', RvR K c' ⟨I, σ, H, g⟩ v r ∧ ∀ d, r ≠ .fr d := fun k r h => by
    obtain ⟨v, h1, h2⟩ := paired_get rr h
    exact ⟨v, h1, h2⟩
  have mine : ∀ a, Mine vs as a → Cfg.Own ⟨I, σ, H, g⟩ a := fun a ⟨k, d, h1, h2⟩ => by
    obtain ⟨r, h3, h4⟩ := toArs_get ea h1
    obtain ⟨v, h5, c', h6, _⟩ := val k r h3
    rw [h2] at h5
    cases h5
    cases r with
    | val d => cases h4
    | fr d => cases h4
    | at_ i =>
      simp only [toAr] at h4
      split at h4
      · rename_i t d' q
        exact ⟨i, t, d', q, h6⟩
      · cases h4
      · cases h4
  -- an object that was handed on: where it is
  have handed : ∀ (k j : Nat) (t : Bool) (d : D), rs[k]? = some (.at_ j) → g[j]? = some (.own t d) → ∃ a, σ[j]? = some (some (.ref a)) ∧ as[k]? = some (.own d) ∧ vs[k]? = some (.ref a) := fun k j t d h1 h2 => by
    obtain ⟨v, h5, c', h6, _⟩ := val k _ h1
    obtain ⟨u, e1, a, e2, _, _⟩ := o.sl j _ h2
    have e1 : σ[j]? = some u := e1
    have h6 : σ[j]? = some (some v) := h6
    rw [h6] at e1
    cases e1
    cases e2
    refine ⟨a, h6, ?_, h5⟩
    have hk : k < as.length := by rw [toArs_len ea]; exact (List.getElem?_eq_some_iff.mp h1).1
    obtain ⟨r, h3, h4⟩ := toArs_get ea (List.getElem?_eq_getElem hk)
    rw [h1] at h3
    cases h3
    simp only [toAr, h2, Option.some.injEq] at h4
    rw [List.getElem?_eq_getElem hk, ← h4]
  have stay : ∀ (j : Nat) (t : Bool) (d : D) (a : Addr), g[j]? = some (.own t d) → σ[j]? = some (some (.ref a)) → (∀ k : Nat, rs[k]? ≠ some (RV.at_ j)) → OwnAt K I' H' a d ∧ I' a = none := fun j t d a h1 h2 h3 => by
    obtain ⟨u, e1, b, e2, ow, n⟩ := o.sl j _ h1
    have e1 : σ[j]? = some u := e1
    rw [h2] at e1
    cases e1
    cases e2
    have nm : ¬ Mine vs as a := fun ⟨k, d', q1, q2⟩ => by
      obtain ⟨r, q3, q4⟩ := toArs_get ea q1
      cases r with
      | val d => cases q4
      | fr d => cases q4
      | at_ i =>
        simp only [toAr] at q4
        split at q4
        · rename_i t' d'' q
          obtain ⟨a', q5, _, q6⟩ := handed k i t' d'' q3 q
          rw [q2] at q6
          cases q6
          have : i = j := o.dist i j t' t d'' d q h1 (q5.trans h2.symm)
          subst this
          exact h3 k q3
        · cases q4
        · cases q4
    obtain ⟨u, hu⟩ := ow.some
    refine ⟨ow.mono wl.sub ((wl.keep a u hu nm (ow.ntb hu)).trans hu.symm), ?_⟩
    cases q : I' a with
    | none => rfl
    | some x =>
      rcases wl.grow a n (by rw [q]; exact fun z => nomatch z) with z | z
      · exact (nm z).elim
      · exact (no_some z hu).elim
  have owns : ∀ (j : Nat) (t : Bool) (d : D), (putOuts rs os g)[j]? = some (.own t d) → ∃ d0, g[j]? = some (.own t d0) := fun j t d h => by
    rcases putOuts_get h with ⟨t', d', h1, h2⟩ | ⟨h1, h2⟩
    · rcases h2 with ⟨e, _⟩ | ⟨k, _, o', _, e⟩
      · cases e; exact ⟨_, h1⟩
      · unfold outC at e
        split at e
        · cases e; exact ⟨_, h1⟩
        · cases e
        · cases e
    · exact (h2 t d rfl).elim
  refine ⟨⟨wl.le, fun j s h => ?_, fun i j t t' d d' h1 h2 e => ?_, wl.nt, wl.tab⟩, ⟨wl.sub, fun a u h n nt => wl.keep a u h (fun q => n (mine a q)) nt, wl.dom, fun a h h' => (wl.grow a h h').imp (mine a) id, fun a ⟨j, t, d, h1, h2⟩ => ?_, fun a ⟨j, d, h1, h2⟩ => ?_, fun j s' h tg => ?_⟩, mine⟩
  · rcases putOuts_get h with ⟨t, d, h1, h2⟩ | ⟨h1, h2⟩
    · obtain ⟨u, e1, a, e2, _, _⟩ := o.sl j _ h1
      subst e2
      have e1 : σ[j]? = some (some (V.ref a)) := e1
      refine ⟨_, e1, ?_⟩
      rcases h2 with ⟨rfl, nk⟩ | ⟨k, hk, o', ho', rfl⟩
      · exact ⟨a, rfl, stay j t d a h1 e1 nk⟩
      · obtain ⟨a', q1, q2, q3⟩ := handed k j t d hk h1
        rw [e1] at q1
        cases q1
        have := ho k d a q2 q3
        rcases ho' with ho' | ⟨_, rfl⟩
        · rw [ho'] at this
          unfold outC
          split
          · exact ⟨a, rfl, this⟩
          · exact ⟨_, rfl, this⟩
          · trivial
        · trivial
    · obtain ⟨u, e1, r⟩ := o.sl j s h1
      exact ⟨u, e1, r.mono wl.sub fun a t d es _ => (h2 t d es).elim⟩
  · obtain ⟨_, q1⟩ := owns i t d h1
    obtain ⟨_, q2⟩ := owns j t' d' h2
    exact o.dist i j _ _ _ _ q1 q2 e
  · obtain ⟨d0, q⟩ := owns j t d h1
    exact .inl ⟨j, t, d0, q, h2⟩
  · obtain ⟨d0, q⟩ := owns j false d h1
    exact .inl ⟨j, d0, q, h2⟩
  · refine ⟨?_, rfl⟩
    rcases putOuts_get h with ⟨t, d, h1, h2⟩ | ⟨h1, h2⟩
    · rcases h2 with ⟨rfl, _⟩ | ⟨k, _, o', _, rfl⟩
      · exact ⟨_, h1, tg⟩
      · refine ⟨_, h1, ?_⟩
        unfold outC at tg
        split at tg <;> first | exact tg | cases tg
    · exact ⟨_, h1, tg⟩
/-- the promise at a call's arguments -/
theorem call_sp {K : PySem.W.Frag} {c0 : Cfg} {I H : Hp} {σ : L2.St} {g : Sg} {vs : List V} {rs : List RV} {m : Fm} {Q : VK} (o : Ok K ⟨I, σ, H, g⟩) (rr : RvsR K c0 ⟨I, σ, H, g⟩ vs rs) (h : Rem K W (RvR K) ⟨I, σ, H, g⟩ (callK m rs g) Q) : spV K m vs H Q (WE W σ) := by
  unfold callK at h
  split at h
  · rename_i nd
    split at h
    · rename_i as ea
      have pr := args_ok (c0 := c0) o rr ea
      refine ⟨I, as, o.sub, ⟨o.nt, o.tab⟩, pr, ?_, ?_⟩
      · intro i j d d' e1 e2 e
        obtain ⟨r1, q1, q2⟩ := toArs_get ea e1
        obtain ⟨r2, q3, q4⟩ := toArs_get ea e2
        cases r1 with
        | val d => cases q2
        | fr d => cases q2
        | at_ x =>
          cases r2 with
          | val d => cases q4
          | fr d => cases q4
          | at_ y =>
            simp only [toAr] at q2 q4
            split at q2
            · rename_i t1 d1 p1
              split at q4
              · rename_i t2 d2 p2
                obtain ⟨v1, k1, c1, k2, _⟩ := paired_get rr q1
                obtain ⟨v2, k3, c2, k4, _⟩ := paired_get rr q3
                have k2 : σ[x]? = some (some v1) := k2
                have k4 : σ[y]? = some (some v2) := k4
                rw [k1, k3] at e
                cases e
                have : x = y := o.dist x y t1 t2 d1 d2 p1 p2 (k2.trans k4.symm)
                subst this
                exact ixs_inj nd q1 q3
              · cases q4
              · cases q4
            · cases q2
            · cases q2
      · split at h
        · rename_i d outs em
          rw [em]
          intro I' H' v wl ho rv
          obtain ⟨o', y', _⟩ := call_ok o rr ea nd wl ho
          exact h I' H' v o' y' rv
        · rename_i d outs em
          rw [em]
          rintro I' H' v wl ho ⟨a, rfl, ow, n, z⟩
          obtain ⟨o', y', _⟩ := call_ok o rr ea nd wl ho
          refine h I' H' _ o' y' ⟨a, rfl, ow, n, fun q => ?_, z⟩
          rcases y'.own a q with q | q
          · obtain ⟨u, hu⟩ := o.own_some q
            exact no_some z hu
          · obtain ⟨j, t, d1, h1, h2⟩ := ‹Cfg.Own _ a›
            rcases putOuts_get h1 with ⟨t', d', p1, _⟩ | ⟨p1, p2⟩
            · obtain ⟨u, hu⟩ := o.own_some (a := a) ⟨j, t', d', p1, h2⟩
              exact no_some z hu
            · exact p2 t d1 rfl
        · rename_i c fs em
          rw [em]
          rintro I' H' e wl ⟨xs, h1, h2⟩ z n
          obtain ⟨o', y', _⟩ := call_ok (os := []) o rr ea nd wl fun j d a e1 e2 => trivial
          refine h I' H' e o' y' ⟨xs, h1, h2, fun q => ?_, n, z⟩
          obtain ⟨j, t, d1, q1, q2⟩ := q
          rcases putOuts_get q1 with ⟨t', d', p1, _⟩ | ⟨p1, p2⟩
          · obtain ⟨u, hu⟩ := o.own_some (a := e) ⟨j, t', d', p1, q2⟩
            exact no_some z hu
          · exact p2 t d1 rfl
        · exact h.elim
    · exact h.elim
  · exact h.elim
section
variable {k j : Nat} {x : Str} {m : Fm} {p pos : Pos} {e : Expr} {es : List Expr} {fs : List Ft}
theorem ve_call (c : Cf X.prog X.w X.K X.mg X.base k x (spV X.K m)) (hr : Room j X.A) (tk : Takes X W) (hg : Gl X x) (ha : VA X W (e :: es) fs) (hk : k ≤ j := by decide)
    (hdb : (x == ("__debug__" : Str)) = false := by decide) (he : starEach (e :: es) X.env = (false, eval e X.env) :: starEach es X.env := by rfl) (hpl : (backTo pos (starEach es X.env)).any (·.1) = false := by rfl) :
    VE X W (.Call (.Name x p) (e :: es) [] pos) (callM m fs) := by
  refine ⟨pe_imp (px c hr tk hg ha.pa hk hdb he hpl) fun σ H Q ⟨I, g, o, r⟩ => ?_⟩
  refine ⟨I, g, o, (Rem.bind (R := RvsR X.K) r).mono ?_⟩
  rintro vs H1 ⟨I1, g1, rs, o1, y1, rr, r1⟩
  exact call_sp o1 rr r1
theorem ve_call0 (c : Cf X.prog X.w X.K X.mg X.base k x (spV X.K m)) (hr : Room j X.A) (tk : Takes X W) (hg : Gl X x) (hk : k ≤ j := by decide) (hdb : (x == ("__debug__" : Str)) = false := by decide) :
    VE X W (.Call (.Name x p) [] [] pos) (callM m []) := by
  refine ⟨pe_imp (px0 c hr tk hg hk hdb) fun σ H Q ⟨I, g, o, r⟩ => ?_⟩
  exact call_sp (c0 := ⟨I, σ, H, g⟩) o .nil r
end
end
end Vl

set_option Elab.async false
set_option linter.all false
set_option maxRecDepth 100000
set_option maxHeartbeats 2000000
/-! the value layer: exceptions, constants, isinstance -/
namespace Vl
open PySem PySem.Spec PyProof.Rows L2 My
section
variable {X : Cx} {W : WX}
/-! ### raise X(e) -/
def raiseF1 (x f : Str) (fe : Ft) : Fs := fun g => bindE (evA [fe] g) fun rs g1 => match frzA rs g1 with
  | some ([d], g2) => .exn x [(f, d)] g2
  | _ => .stuck
theorem xd_new {K : PySem.W.Frag} {c0 : Cfg} {I H H' : Hp} {σ : L2.St} {g : Sg} {d : Addr} {xs : List (Str × V)} {fs : List (Str × D)} (o : Ok K ⟨I, σ, H, g⟩) (y : Go c0 ⟨I, σ, H, g⟩) (fr : Fr H d) (x : Xb [] H H') (h : H' d = some (.xd xs)) (r : RepF K I xs fs) :
    Ok K ⟨I, σ, H', g⟩ ∧ Go c0 ⟨I, σ, H', g⟩ ∧ XdAt K c0 ⟨I, σ, H', g⟩ d fs := by
  have n : I d = none := by
    cases e : I d with
    | none => rfl
    | some u => exact (no_some fr.e (o.sub d u e)).elim
  refine ⟨o.new x, y.trans (Go.new x), xs, h, r, fun q => ?_, n, y.dom d fr.e⟩
  obtain ⟨u, hu⟩ := o.own_some (a := d) q
  exact no_some fr.e hu
theorem vs_raise1 {x f : Str} {k j : Nat} {e : Expr} {fe : Ft} {p pos pos' : Pos} (hc : X.calm = true) (tk : Takes X W) (c : Rz1 X.prog X.w X.K X.mg X.base k x f) (hr : Room j X.A) (hg : Gl X x) (he : VE X W e fe) (hk : k + 1 ≤ j := by decide) (hdb : (x == ("__debug__" : Str)) = false := by decide)
    (hst : starEach [e] X.env = (false, eval e X.env) :: starEach [] X.env := by rfl) (hpl : (backTo pos (starEach [] X.env)).any (·.1) = false := by rfl) : VS X W (.Raise (some (.Call (.Name x p) [e] [] pos)) none pos') (raiseF1 x f fe) := by
  refine ⟨ps_imp' (ps_raise hc tk (pz1 c hr hg he.pe hk hdb hst hpl)) fun D σ H ⟨I, g, o, r⟩ => ?_⟩
  refine rd1 rfl o r fun v H1 I1 g1 y o1 y1 ry r1 => ?_
  split at r1
  · rename_i d g2 e2
    obtain ⟨I2, o2, y2, rr⟩ := frzA_ok o1 ry e2
    cases rr with
    | cons rv t =>
      cases t
      intro dd H' fr x h
      obtain ⟨o3, y3, z3⟩ := xd_new o2 (y1.trans y2) fr x h (.cons rv .nil)
      exact r1 I2 σ H' dd o3 y3 z3
  · exact r1.elim
def raiseF2 (x f g' : Str) (fe fu : Ft) : Fs := fun g => bindE (evA [fe] g) fun rs g1 => bindE (evA [fu] g1) fun ss g2 => match frzA (rs ++ ss) g2 with
  | some ([d, e], g3) => .exn x [(g', e), (f, d)] g3
  | _ => .stuck
theorem vs_raise2 {x f g' : Str} {k j : Nat} {e e' : Expr} {fe fu : Ft} {p pos pos' : Pos} (hc : X.calm = true) (tk : Takes X W) (c : Rz2 X.prog X.w X.K X.mg X.base k x f g') (hr : Room j X.A) (hg : Gl X x) (he : VE X W e fe) (he' : VE X W e' fu) (hk : k + 1 ≤ j := by decide) (hdb : (x == ("__debug__" : Str)) = false := by decide)
    (hst : starEach [e, e'] X.env = (false, eval e X.env) :: starEach [e'] X.env := by rfl) (hst' : starEach [e'] X.env = (false, eval e' X.env) :: starEach [] X.env := by rfl) (hpl : (backTo pos (starEach [e'] X.env)).any (·.1) = false := by rfl) :
    VS X W (.Raise (some (.Call (.Name x p) [e, e'] [] pos)) none pos') (raiseF2 x f g' fe fu) := by
  refine ⟨ps_imp' (ps_raise hc tk (pz2 c hr hg he.pe he'.pe hk hdb hst hst' hpl)) fun D σ H ⟨I, g, o, r⟩ => ?_⟩
  refine rd1 rfl o r fun v H1 I1 g1 y o1 y1 ry r1 => ?_
  refine rd1 rfl o1 (RemS.go y1 r1) fun u H2 I2 g2 z o2 y2 rz r2 => ?_
  split at r2
  · rename_i d e3 g3 eq
    have rr2 : RvsR X.K ⟨I, σ, H, g⟩ ⟨I2, σ, H2, g2⟩ [v, u] [y, z] := by
      have := RvsR.on (c0 := ⟨I, σ, H, g⟩) (c1 := ⟨I1, σ, H1, g1⟩) o2 rfl y2 ry
      cases this with
      | cons a t => cases rz with
        | cons b t' => cases t; cases t'; exact .cons a (.cons b .nil)
    obtain ⟨I3, o3, y3, rr⟩ := frzA_ok o2 rr2 eq
    cases rr with
    | cons rv t =>
      cases t with
      | cons ru t =>
        cases t
        intro dd H' fr x h
        obtain ⟨o4, y4, z4⟩ := xd_new o3 (y2.trans y3) fr x h (.cons ru (.cons rv .nil))
        exact r2 I3 σ H' dd o4 y4 z4
  · exact r2.elim

/-! ### try .. except -/
/-- slot i forgotten -/
def clr (i : Nat) : Rs → Rs
  | .nx g => .nx (g.set i .un)
  | .bk g => .bk (g.set i .un)
  | .ct g => .ct (g.set i .un)
  | .rt r g => .rt r (g.set i .un)
  | .exn _ _ _ => .stuck
  | .stuck => .stuck
def noXS : Rs → Rs
  | .exn _ _ _ => .stuck
  | r => r
open Classical in
/-- try: body except (classes by hs) as slot i: suite -/
noncomputable def tryA (hs : List (Str × Bool)) (i : Nat) (fb : Fs) (fs : Addr → Addr → Str → Fs) : Fs := fun g => match fb g with
  | .exn c ds g1 => (match hs.lookup c with
    | some true => if ∀ a d, clr i (fs a d c (g1.set i (.val false (.exv a d c ds)))) = clr i (fs 0 0 c (g1.set i (.val false (.exv 0 0 c ds)))) then clr i (fs 0 0 c (g1.set i (.val false (.exv 0 0 c ds)))) else .stuck
    | some false => .exn c ds g1
    | none => .stuck)
  | r => r
def tryO (hs : List (Str × Bool)) (fb fs : Fs) : Fs := fun g => match fb g with
  | .exn c ds g1 => (match hs.lookup c with
    | some true => noXS (fs g1)
    | some false => .exn c ds g1
    | none => .stuck)
  | r => r
/-- what is known of the classes of errors -/
def Exms (K : PySem.W.Frag) (c : Value) (hs : List (Str × Bool)) : Prop := ∀ x b, hs.lookup x = some b → PySem.W.exmOne K (.ref (He.ga K x)) c = some b
theorem vs_tryO {x : Str} {c : Value} {hs : List (Str × Bool)} {body suite : List Stmt} {b₀ : Stmt} {fb fs : Fs} {np pos pos' : Pos} (h1 : X.stack = X.env :: X.outer) (h2 : X.env.frame = some X.env.locals) (hc : Names X x c) (tk : Takes X W) (ex : Exms X.K c hs)
    (hb : ∀ (W : WX) (pn : List (Addr × Obj)) (xe : Value → Shared → Prop), Takes (X.tr pn xe) W → PassesOwn (model X.prog X.w) X.A X.env xe → VSs (X.tr pn xe) W body fb)
    (hsu : ∀ (a : Addr) (oe : Obj) (pn : List (Addr × Obj)), VSs (X.suite a ((a, oe) :: pn)) W0 (b₀ :: suite) fs) :
    VS X W (.Try body [.ExceptHandler (some (.Name x np)) none (b₀ :: suite) pos'] [] [] pos) (tryO hs fb fs) := by
  refine ⟨ps_imp' (ps_tryO (tb := fun W _ _ => rdS X.K W fb) (ts := fun a cls d oe pn => rdS X.K W0 fs) h1 h2 hc tk (fun W pn xe t p => (hb W pn xe t p).pss) fun a oe cls d pn _ _ => (hsu a oe pn).pss) fun D σ H ⟨I, g, o, r⟩ pn xe => ?_⟩
  refine ⟨I, g, o, ?_⟩
  unfold tryO at r
  cases e : fb g with
  | stuck => rw [e] at r; exact r
  | nx g1 => rw [e] at r; exact r
  | bk g1 => rw [e] at r; exact r
  | ct g1 => rw [e] at r; exact r
  | rt x g1 => rw [e] at r; exact r
  | exn y ds g1 =>
    rw [e] at r
    intro I1 σ1 H1 dd o1 y1 z1
    have r : RemS X.K W ⟨I, σ, H, g⟩ (match hs.lookup y with
      | some true => noXS (fs g1)
      | some false => .exn y ds g1
      | none => .stuck) D := r
    cases q : hs.lookup y with
    | none => rw [q] at r; exact r.elim
    | some b =>
      rw [q] at r
      refine ⟨b, ex y b q, fun eb a na oe pn => ?_, fun eb => ?_⟩
      · subst eb
        have r := RemS.go y1 r
        -- the suite raises nothing
        refine ⟨I1, g1, o1, ?_⟩
        revert r
        generalize fs g1 = res
        intro r
        cases res with
        | exn c' fs' g' => exact r.elim
        | nx g => exact r
        | bk g => exact r
        | ct g => exact r
        | rt x g => exact r
        | stuck => exact r
      · subst eb
        exact r I1 σ1 H1 dd o1 y1 z1
/-- slot i cleared at the suite's ends -/
theorem clr_rem {K : PySem.W.Frag} {c0 : Cfg} {i : Nat} {r : Rs} {D : Ends} (h : RemS K W0 c0 (clr i r) D) : RemS K W0 c0 r { nx := fun σ' H' => D.nx (σ'.set i none) H', rt := D.rt, bk := fun σ' H' => D.bk (σ'.set i none) H', ct := fun σ' H' => D.ct (σ'.set i none) H' } := by
  have key : ∀ {I : Hp} {σ : L2.St} {H : Hp} {g : Sg}, Ok K ⟨I, σ, H, g⟩ → Go c0 ⟨I, σ, H, g⟩ → Ok K ⟨I, σ.set i none, H, g.set i .un⟩ ∧ Go c0 ⟨I, σ.set i none, H, g.set i .un⟩ := fun {I σ H g} o y => by
    have hσ : ∀ j, j ≠ i → (σ.set i none)[j]? = σ[j]? := fun j hj => List.getElem?_set_ne (fun z => hj z.symm)
    refine ⟨⟨o.sub, fun j s h => ?_, fun j k t t' d d' h h' e => ?_, o.nt, o.tab⟩, y.trans (Go.drop hσ)⟩
    · rcases get_set_of h with ⟨rfl, rfl⟩ | ⟨nj, q⟩
      · have hl : j < g.length := by
          have := (List.getElem?_eq_some_iff.mp h).1
          simpa using this
        obtain ⟨u, hu, _⟩ := o.sl j g[j] (List.getElem?_eq_getElem hl)
        have hs : j < σ.length := (List.getElem?_eq_some_iff.mp hu).1
        exact ⟨none, by show (σ.set j none)[j]? = _; rw [List.getElem?_set_self hs], trivial⟩
      · obtain ⟨u, h1, h2⟩ := o.sl j s q
        exact ⟨u, (hσ j nj).trans h1, h2⟩
    · rcases get_set_of h with ⟨rfl, q⟩ | ⟨nj, q⟩
      · cases q
      · rcases get_set_of h' with ⟨rfl, q'⟩ | ⟨nk, q'⟩
        · cases q'
        · exact o.dist j k t t' d d' q q' (((hσ j nj).symm.trans e).trans (hσ k nk))
  cases r with
  | stuck => exact h
  | exn c fs g => exact h.elim
  | nx g => exact fun I σ H o y => h I _ H (key o y).1 (key o y).2
  | bk g => exact fun I σ H o y => h I _ H (key o y).1 (key o y).2
  | ct g => exact fun I σ H o y => h I _ H (key o y).1 (key o y).2
  | rt x g =>
    refine fun I σ H v o y rv => h I _ H v (key o y).1 (key o y).2 ?_
    cases x with
    | val d => exact rv
    | at_ j => exact rv
    | fr d =>
      obtain ⟨a, e, ow, n, w, z⟩ := rv
      refine ⟨a, e, ow, n, fun q => w ?_, z⟩
      obtain ⟨j, t, d', h1, h2⟩ := q
      rcases get_set_of h1 with ⟨_, z⟩ | ⟨nj, z⟩
      · cases z
      · exact ⟨j, t, d', z, by rw [← h2]; exact (List.getElem?_set_ne (fun z => nj z.symm)).symm⟩
theorem vs_tryA {x n : Str} {i : Nat} {c : Value} {hs : List (Str × Bool)} {body suite : List Stmt} {b₀ : Stmt} {fb : Fs} {fs : Addr → Addr → Str → Fs} {np pos pos' : Pos} (h1 : X.stack = X.env :: X.outer) (h2 : X.env.frame = some X.env.locals) (hN : X.N.Nodup) (hi : X.N[i]? = some n) (hln : X.env.kindOf n = some .local)
    (hc : Names X x c) (tk : Takes X W) (ex : Exms X.K c hs)
    (hb : ∀ (W : WX) (pn : List (Addr × Obj)) (xe : Value → Shared → Prop), Takes (X.tr pn xe) W → PassesOwn (model X.prog X.w) X.A X.env xe → VSs (X.tr pn xe) W body fb)
    (hsu : ∀ (a : Addr) (oe : Obj) (y : Str) (dd : Addr) (pn : List (Addr × Obj)), Zc (.ref (He.ga X.K y)) (some dd) oe → (∃ vs, oe.data = .fields vs) → VSs (X.suite a ((a, oe) :: pn)) W0 (b₀ :: suite) (fs a dd y)) :
    VS X W (.Try body [.ExceptHandler (some (.Name x np)) (some n) (b₀ :: suite) pos'] [] [] pos) (tryA hs i fb fs) := by
  refine ⟨ps_imp' (ps_tryA (tb := fun W _ _ => rdS X.K W fb) (ts := fun a cls d oe pn D σ H => ∃ y dd, cls = .ref (He.ga X.K y) ∧ d = some dd ∧ rdS X.K W0 (fs a dd y) D σ H) h1 h2 hN hi hln hc tk (fun W pn xe t p => (hb W pn xe t p).pss)
    fun a oe cls d pn hz hf => ⟨fun pins s σ H D I ⟨y, dd, e1, e2, r⟩ => ?_⟩) fun D σ H ⟨I, g, o, r⟩ pn xe => ?_⟩
  · subst e1 e2
    exact (hsu a oe y dd pn hz hf).pss.run pins s σ H D I r
  · refine ⟨I, g, o, ?_⟩
    unfold tryA at r
    cases e : fb g with
    | stuck => rw [e] at r; exact r
    | nx g1 => rw [e] at r; exact r
    | bk g1 => rw [e] at r; exact r
    | ct g1 => rw [e] at r; exact r
    | rt x g1 => rw [e] at r; exact r
    | exn y ds g1 =>
      rw [e] at r
      intro I1 σ1 H1 dd o1 y1 z1
      dsimp only at r
      cases q : hs.lookup y with
      | none => rw [q] at r; exact r.elim
      | some b =>
        rw [q] at r
        refine ⟨b, ex y b q, fun eb a na oe pn => ?_, fun eb => ?_⟩
        · subst eb
          dsimp only at r
          split at r
          · rename_i par
            refine ⟨y, dd, rfl, rfl, ?_⟩
            rw [← par a dd] at r
            obtain ⟨xs, hx, rx, nw, nI, _⟩ := z1
            -- the error's own dict is a value from here on
            have o2 : Ok X.K ⟨upd I1 dd (.xd xs), σ1, H1, g1⟩ := o1.frz hx nI nw .xd
            have y2 : Go ⟨I, σ, H, g⟩ ⟨upd I1 dd (.xd xs), σ1, H1, g1⟩ := y1.frz nI ‹_›
            have o3 : Ok X.K ⟨upd I1 dd (.xd xs), σ1.set i (some (.ref a)), H1, g1.set i (.val false (.exv a dd y ds))⟩ := o2.store ⟨.ref a, rfl, .exv upd_same (rx.mono (Le.upd nI))⟩ fun t d e => nomatch e
            have y3 := y2.trans (Go.store (i := i) (v := .ref a) (d := .exv a dd y ds))
            have r2 : RemS X.K W0 ⟨I, σ, H, g⟩ (clr i (fs a dd y (g1.set i (.val false (.exv a dd y ds))))) D := by
              revert r
              generalize fs a dd y (g1.set i (.val false (.exv a dd y ds))) = res
              intro r
              cases res <;> exact r
            exact ⟨_, _, o3, clr_rem (RemS.go y3 r2)⟩
          · exact r.elim
        · subst eb
          exact r I1 σ1 H1 dd o1 y1 z1
/-- e.f, e the caught error, of the class x -/
def exfF (a d : Addr) (c x : Str) (i : Nat) (f : Str) : Ft := fun g => match g[i]? with
  | some (.val _ (.exv a' d' _ fs)) => if a' = a ∧ d' = d ∧ c = x then (match fs.lookup f with | some v => .ok (.val v) g | none => .stuck) else .stuck
  | _ => .stuck
theorem ve_exf {a dd : Addr} {c x f : Str} {i : Nat} {oe : Obj} {pn : List (Addr × Obj)} {e : Expr} {pos : Pos} {W : WX} (T : XfC X.K (He.ga X.K x)) (hno : PySem.W.findIn X.K (.ref (He.ga X.K x)) f = some none) (hz : Zc (.ref (He.ga X.K c)) (some dd) oe) (hf : ∃ vs, oe.data = .fields vs)
    (he : PE (X.suite a ((a, oe) :: pn)) e (tVar i)) (hb : attributeBase e f X.env (eval e X.env) = eval e X.env := by rfl) : VE (X.suite a ((a, oe) :: pn)) W (.Attribute e f pos) (exfF a dd c x i f) :=
  ⟨pe_imp (pe_xf T hno hz hf he hb) fun σ H Q ⟨I, g, o, r⟩ => by
    unfold exfF at r
    split at r
    · rename_i t a' d' c' fs q
      split at r
      · rename_i hh
        obtain ⟨rfl, rfl, rfl⟩ := hh
        obtain ⟨u, e1, v, e2, rv⟩ := o.sl i _ q
        subst e2
        cases rv with
        | exv hx rf =>
          cases l : fs.lookup f with
          | none => rw [l] at r; exact r.elim
          | some d =>
            rw [l] at r
            obtain ⟨v, hv, rv⟩ := rf.get l
            exact ⟨_, e1, rfl, rfl, _, _, v, rfl, o.sub _ _ hx, hv, r I H v o (Go.refl _) rv⟩
      · exact r.elim
    · exact r.elim⟩

/-! ### constants of the module -/
structure KC (K : PySem.W.Frag) (mg : Str → Option Value) (x : Str) (d : D) : Prop where
  ex : ∃ v u, mg x = some u ∧ RelV v u ∧ ∀ I, Rep K I v d
theorem ve_kc {x : Str} {d : D} {pos : Pos} (c : KC X.K X.mg x d) (hg : Gl X x) (hd : (x == ("__debug__" : Str)) = false := by decide) : VE X W (.Name x pos) (cF d) := by
  obtain ⟨v, u, h1, h2, h3⟩ := c.ex
  exact ve_c (pe_glob hg h1 h2 hd) h3
mutual
def repB (K : PySem.W.Frag) : D → Value → Bool
  | .int i, u => (match u with | .int j _ => decide (j = i) | _ => false)
  | .str x, u => (match u with | .str y _ => decide (y = x) | _ => false)
  | .non, u => (match u with | .none => true | _ => false)
  | .bl b, u => (match u with | .bool c => decide (c = b) | _ => false)
  | .tup ds, u => (match u with
    | .ref a => (match K.lookup a with
      | some ⟨.type t, _, .seq its _, _⟩ => decide (t = "tuple") && (decide (its.size ≤ sizeLine) && repsB K ds its.toList)
      | _ => false)
    | _ => false)
  | _, _ => false
def repsB (K : PySem.W.Frag) : List D → List Value → Bool
  | [], us => (match us with | [] => true | _ => false)
  | d :: ds, us => (match us with | u :: r => repB K d u && repsB K ds r | [] => false)
end
mutual
theorem repB_ok {K : PySem.W.Frag} : ∀ (d : D) (u : Value), repB K d u = true → ∃ v, RelV v u ∧ ∀ I, Rep K I v d
  | .int i, u, h => by
    unfold repB at h
    split at h
    · exact ⟨.int _, ⟨_, rfl⟩, fun I => of_decide_eq_true h ▸ .int _⟩
    · cases h
  | .str i, u, h => by
    unfold repB at h
    split at h
    · exact ⟨.str _, ⟨_, rfl⟩, fun I => of_decide_eq_true h ▸ .str _⟩
    · cases h
  | .non, u, h => by
    unfold repB at h
    split at h
    · exact ⟨.non, rfl, fun I => .non⟩
    · cases h
  | .bl b, u, h => by
    unfold repB at h
    split at h
    · exact ⟨.bl _, rfl, fun I => of_decide_eq_true h ▸ .bl _⟩
    · cases h
  | .tup ds, u, h => by
    unfold repB at h
    split at h
    · rename_i a
      split at h
      · rename_i t dd its n sl q
        obtain ⟨h1, h2⟩ := He.ba h
        obtain ⟨h2, h3⟩ := He.ba h2
        obtain ⟨vs, r1, r2⟩ := repsB_ok ds its.toList h3
        have ht : t = "tuple" := of_decide_eq_true h1
        subst ht
        exact ⟨.ref a, rfl, fun I => .tup (.inr ⟨_, its, n, q, rfl, rfl, of_decide_eq_true h2, r1⟩) (r2 I)⟩
      · cases h
    · cases h
  | .lst _, u, h => by simp [repB] at h
  | .seq _, u, h => by simp [repB] at h
  | .dct _, u, h => by simp [repB] at h
  | .kdc _, u, h => by simp [repB] at h
  | .ins _ _, u, h => by simp [repB] at h
  | .exv _ _ _ _, u, h => by simp [repB] at h
  | .cls _, u, h => by simp [repB] at h
  | .raw _, u, h => by simp [repB] at h
theorem repsB_ok {K : PySem.W.Frag} : ∀ (ds : List D) (us : List Value), repsB K ds us = true → ∃ vs, Vals vs us ∧ ∀ I, Reps K I vs ds
  | [], us, h => by
    unfold repsB at h
    split at h
    · exact ⟨[], .nil, fun I => .nil⟩
    · cases h
  | d :: ds, us, h => by
    unfold repsB at h
    split at h
    · obtain ⟨h1, h2⟩ := He.ba h
      obtain ⟨v, r1, r2⟩ := repB_ok d _ h1
      obtain ⟨vs, r3, r4⟩ := repsB_ok ds _ h2
      exact ⟨v :: vs, .cons r1 r3, fun I => .cons (r2 I) (r4 I)⟩
    · cases h
end
def kcB (K : PySem.W.Frag) (x : Str) (d : D) : Bool := match PySem.W.nsIn K mainGlobals x with
  | some (some u) => repB K d u
  | _ => false
theorem kc_ok {K : PySem.W.Frag} {h : Heap} {mg : Str → Option Value} (X : K.In h) (G : h.Ns mainGlobals mg) {x : Str} {d : D} (c : kcB K x d = true) : KC K mg x d := by
  unfold kcB at c
  split at c
  · rename_i u e
    obtain ⟨v, r1, r2⟩ := repB_ok d u c
    exact ⟨v, u, PySem.W.mg_of X G e, r1, r2⟩
  · cases c
end
end Vl

set_option Elab.async false
set_option linter.all false
set_option maxRecDepth 100000
set_option maxHeartbeats 2000000
/-! the value layer: isinstance, dicts of the module -/
namespace Vl
open PySem PySem.Spec PyProof.Rows L2 My
section
variable {X : Cx} {W : WX}
def tyN : D → Option String
  | .non => some "NoneType"
  | .bl _ => some "bool"
  | .int _ => some "int"
  | .str _ => some "str"
  | .lst _ => some "list"
  | .tup _ => some "tuple"
  | .dct _ => some "dict"
  | _ => none
def isiP (T : String) (d : D) : Option RV := (tyN d).bind fun t => (kitB t T).map fun b => .val (.bl b)
theorem tyN_ty {K : PySem.W.Frag} {c : Cfg} {v : V} {d : D} {t : String} (o : Ok K c) (h : RdD K c v d) (e : tyN d = some t) : TyX K c.H v (.type t) := by
  cases d <;> simp only [tyN] at e <;> cases e
  · rw [h.non]; exact .base .non
  · rw [h.bl]; exact .base (.bl _)
  · rw [h.int]; exact .base (.int _)
  · rw [h.str]; exact .base (.str _)
  · obtain ⟨a, xs, rfl, q, _⟩ := h.lst o; exact .base (.lst q)
  · obtain ⟨a, xs, rfl, q, _⟩ := h.tup o
    rcases q with (q | ⟨u, q⟩) | ⟨u, its, n, q, q2, _⟩
    · exact .base (.tup q)
    · exact .fTuple q
    · exact .kTuple q q2
  · obtain ⟨a, xs, rfl, q, _⟩ := h.dct o; exact .base (.dK q)
theorem ve_isi {e : Expr} {fe : Ft} {tn : Str} {T : String} {p q pos : Pos} (he : VE X W e fe) (hg : Gl X "isinstance") (hm : X.mg "isinstance" = none) (gt : Gl X tn) (mt : X.mg tn = none) (bt : bootBuiltins tn = some (.type T)) (hn : tn ≠ "__name__" := by decide) (hd : (tn == ("__debug__" : Str)) = false := by decide)
    (h1 : starEach [e, .Name tn q] X.env = (false, eval e X.env) :: starEach [.Name tn q] X.env := by rfl) (h2 : starEach [.Name tn q] X.env = (false, eval (.Name tn q) X.env) :: starEach [] X.env := by rfl)
    (hpl : (backTo pos (starEach [.Name tn q] X.env)).any (·.1) = false := by rfl) : VE X W (.Call (.Name "isinstance" p) [e, .Name tn q] [] pos) (op1 (isiP T) fe) := by
  refine ⟨pe_imp (pe_callB call_isi hg hm (by decide +kernel) (pa_cons he.pe (pa_cons (pe_bltn (v := .ty T) gt mt bt rfl hn hd) pa_nil h2) h1) (by decide) (by decide) h1 hpl) fun σ H Q ⟨I, g, o, r⟩ => ?_⟩
  refine ⟨I, g, o, Rem.settle ((Rem.bind (R := RvR X.K) r).mono ?_)⟩
  rintro v H1 ⟨I1, g1, x, o1, y1, rx, r1⟩
  obtain ⟨d, rd, h⟩ := lift1_gives o1 rx r1
  unfold isiP at h
  cases e1 : tyN d with
  | none => rw [e1] at h; exact h.elim
  | some t =>
    rw [e1] at h
    simp only [Option.bind_some] at h
    cases e2 : kitB t T with
    | none => rw [e2] at h; exact h.elim
    | some b =>
      rw [e2] at h
      exact ⟨v, .ty T, .type t, .type T, b, rfl, .ty T, tyN_ty o1 rd e1, kit_ty e2, h.now o1 (.bl b)⟩
/-! ### a dict of the module by its name -/
structure KdK (K : PySem.W.Frag) (w : World) (mg : Str → Option Value) (x : Str) (kvs : List (Str × D)) : Prop where
  ex : ∃ a es n, mg x = some (.ref a) ∧ KDict K w a es n ∧ ∀ z : Str, match kvs.lookup z with
    | some d => ∃ u v, PySem.W.nsIn K a z = some (some u) ∧ RelV v u ∧ ∀ I, Rep K I v d
    | none => PySem.W.nsIn K a z = some none
def kdP (kvs : List (Str × D)) : D → Option RV
  | .str z => (kvs.lookup z).map .val
  | _ => none
def kdIn (kvs : List (Str × D)) : D → Option RV
  | .str z => vB (kvs.lookup z).isSome
  | _ => none
def kdNotIn (kvs : List (Str × D)) : D → Option RV
  | .str z => vB (!(kvs.lookup z).isSome)
  | _ => none
theorem ve_kdix {x : Str} {kvs : List (Str × D)} {b : Expr} {fb : Ft} {p pos : Pos} (c : KdK X.K X.w X.mg x kvs) (hg : Gl X x) (hb : VE X W b fb) (hs : PlainIx b := by exact fun _ _ => rfl) (hd : (x == ("__debug__" : Str)) = false := by decide) : VE X W (.Subscript (.Name x p) b pos) (op1 (kdP kvs) fb) := by
  obtain ⟨a, es, n, hm, kd, hk⟩ := c.ex
  refine ⟨pe_imp (pe_ix ix_kdict (pe_glob (v := .ref a) hg hm rfl hd) hb.pe hs) fun σ H Q ⟨I, g, o, r⟩ => ?_⟩
  refine ⟨I, g, o, Rem.settle ((Rem.bind (R := RvR X.K) r).mono ?_)⟩
  rintro v H1 ⟨I1, g1, y, o1, y1, rx, r1⟩
  obtain ⟨d, rd, h⟩ := lift1_gives o1 rx r1
  cases d <;> simp only [kdP] at h <;> first | exact h.elim | skip
  rename_i z
  have := hk z
  cases e : kvs.lookup z with
  | none => rw [e] at h; exact h.elim
  | some d =>
    rw [e] at h this
    obtain ⟨u, w, h1, h2, h3⟩ := this
    exact ⟨a, z, w, rfl, rd.str, ⟨es, n, u, kd.at_, kd.lit, h1, h2⟩, h.now o1 (h3 _)⟩
theorem ve_kdin {x : Str} {kvs : List (Str × D)} {b : Expr} {fb : Ft} {p pos : Pos} (c : KdK X.K X.w X.mg x kvs) (hg : Gl X x) (hb : VE X W b fb) (hm' : behindInMarks .In (.Name x p) = false := by rfl) (hd : (x == ("__debug__" : Str)) = false := by decide) : VE X W (.Compare b [.In] [.Name x p] pos) (op1 (kdIn kvs) fb) := by
  obtain ⟨a, es, n, hm, kd, hk⟩ := c.ex
  refine ⟨pe_imp (pe_cmpR (op_in_kd kd) hb.pe (pe_glob (v := .ref a) hg hm rfl hd) hm') fun σ H Q ⟨I, g, o, r⟩ => ?_⟩
  refine ⟨I, g, o, Rem.settle ((Rem.bind (R := RvR X.K) r).mono ?_)⟩
  rintro v H1 ⟨I1, g1, y, o1, y1, rx, r1⟩
  obtain ⟨d, rd, h⟩ := lift1_gives o1 rx r1
  cases d <;> simp only [kdIn] at h <;> first | exact h.elim | skip
  rename_i z
  have := hk z
  cases e : kvs.lookup z with
  | none => rw [e] at h this; exact ⟨z, none, rd.str, rfl, this, h.now o1 (.bl _)⟩
  | some d =>
    rw [e] at h this
    obtain ⟨u, w, h1, h2, h3⟩ := this
    exact ⟨z, some u, rd.str, rfl, h1, h.now o1 (.bl _)⟩
theorem ve_kdnotin {x : Str} {kvs : List (Str × D)} {b : Expr} {fb : Ft} {p pos : Pos} (c : KdK X.K X.w X.mg x kvs) (hg : Gl X x) (hb : VE X W b fb) (hm' : behindInMarks .NotIn (.Name x p) = false := by rfl) (hd : (x == ("__debug__" : Str)) = false := by decide) : VE X W (.Compare b [.NotIn] [.Name x p] pos) (op1 (kdNotIn kvs) fb) := by
  obtain ⟨a, es, n, hm, kd, hk⟩ := c.ex
  refine ⟨pe_imp (pe_cmpR (op_notIn_kd kd) hb.pe (pe_glob (v := .ref a) hg hm rfl hd) hm') fun σ H Q ⟨I, g, o, r⟩ => ?_⟩
  refine ⟨I, g, o, Rem.settle ((Rem.bind (R := RvR X.K) r).mono ?_)⟩
  rintro v H1 ⟨I1, g1, y, o1, y1, rx, r1⟩
  obtain ⟨d, rd, h⟩ := lift1_gives o1 rx r1
  cases d <;> simp only [kdNotIn] at h <;> first | exact h.elim | skip
  rename_i z
  have := hk z
  cases e : kvs.lookup z with
  | none => rw [e] at h this; exact ⟨z, none, rd.str, rfl, this, h.now o1 (.bl _)⟩
  | some d =>
    rw [e] at h this
    obtain ⟨u, w, h1, h2, h3⟩ := this
    exact ⟨z, some u, rd.str, rfl, h1, h.now o1 (.bl _)⟩
theorem mem_of_lookup {α : Type} {z : Str} {d : α} : ∀ {kvs : List (Str × α)}, kvs.lookup z = some d → (z, d) ∈ kvs
  | [], l => by cases l
  | p :: r, l => by
    rw [List.lookup_cons] at l
    split at l
    · rename_i q
      cases l
      have : z = p.1 := by simpa using q
      rw [this]
      exact .head _
    · exact .tail _ (mem_of_lookup l)
/-- the values of a dict of the module -/
def kdvB (K : PySem.W.Frag) (x : Str) (kvs : List (Str × D)) : Bool := He.eqO (PySem.W.nsIn K mainGlobals x) (some (some (.ref (He.ga K x)))) && kvs.all fun p => match PySem.W.nsIn K (He.ga K x) p.1 with
  | some (some u) => repB K p.2 u
  | _ => false
theorem kd_ok {K : PySem.W.Frag} {w : World} {h : Heap} {mg : Str → Option Value} (X : K.In h) (G : h.Ns mainGlobals mg) {x : Str} {kvs : List (Str × D)} (e : He.dicW K (He.ga K x) = some (He.keysIn w.params (kvs.map (·.1)))) (c : kdvB K x kvs = true) : KdK K w mg x kvs := by
  obtain ⟨c1, c2⟩ := He.ba c
  obtain ⟨es, n, kd⟩ := He.dicW_ok e
  refine ⟨He.ga K x, es, n, PySem.W.mg_of X G (He.eqO_ok c1), kd, fun z => ?_⟩
  have c2 := List.all_eq_true.mp c2
  split
  · rename_i d l
    have hm : (z, d) ∈ kvs := mem_of_lookup l
    have := c2 _ hm
    dsimp only at this
    split at this
    · rename_i u q
      obtain ⟨v, r1, r2⟩ := repB_ok d u this
      exact ⟨u, v, q, r1, r2⟩
    · cases this
  · rename_i l
    have hk : es.toList.map He.keyOf = He.keysIn w.params (kvs.map (·.1)) := by
      have at_ := kd.at_
      unfold He.dicW at e
      rw [at_] at e
      dsimp only at e
      split at e
      · exact Option.some.inj e
      · cases e
    have ks : ∀ en ∈ es.toList, ∃ y t, en.key = .str y t ∧ y ∈ kvs.map (·.1) := fun en hm => by
      have : He.keyOf en ∈ He.keysIn w.params (kvs.map (·.1)) := by rw [← hk]; exact List.mem_map_of_mem hm
      unfold He.keysIn at this
      obtain ⟨y, hy, ey⟩ := List.mem_map.mp this
      unfold He.keyOf at ey
      split at ey
      · rename_i y' t q
        simp only [Option.some.injEq, Prod.mk.injEq] at ey
        exact ⟨y', t, q, ey.1 ▸ hy⟩
      · cases ey
    have nk : z ∉ kvs.map (·.1) := fun hm => by
      obtain ⟨p, hp, ep⟩ := List.mem_map.mp hm
      have := List.lookup_eq_none_iff.mp l p hp
      simp [ep] at this
    unfold PySem.W.nsIn
    rw [kd.at_]
    dsimp only
    have f : es.toList.find? (fun e => e.key.isStr z) = none := List.find?_eq_none.mpr fun en hm hs => by
      obtain ⟨y, t, q, hy⟩ := ks en hm
      rw [q] at hs
      have : y = z := by simpa [Value.isStr] using hs
      exact nk (this ▸ hy)
    rw [f]
    dsimp only
    rw [if_neg]
    intro hq
    obtain ⟨en, hm, hr⟩ := List.any_eq_true.mp hq
    obtain ⟨y, t, q, hy⟩ := ks en hm
    unfold DictEntry.refKey at hr
    rw [q] at hr
    cases hr
end
end Vl

set_option Elab.async false
set_option linter.all false
set_option maxRecDepth 100000
set_option maxHeartbeats 2000000
/-! the value layer: methods of texts, sorted -/
namespace Vl
open PySem PySem.Spec PyProof.Rows L2 My
section
variable {X : Cx} {W : WX}
/-- o.m(e), o a text -/
def strM1 (p : Str → D → Option RV) (fo fe : Ft) : Ft := fun g => (settle (fo g)).bind fun x g1 => match deref g1 x with
  | some (.str z) => (settle (fe g1)).bind fun y g2 => lift1 (p z) y g2
  | _ => .stuck
structure PM1 (X : Cx) (id : String) (p : Str → D → Option RV) : Prop where
  ex : ∃ r : V → List V → Hp → VK → Prop, MtR X id r ∧ ∀ c u z b Q, Ok X.K c → RdD X.K c u b → Gives X.K c (p z b) Q → r (.str z) [u] c.H Q
theorem ve_strM1 {id : String} {name : Str} {o e : Expr} {fo fe : Ft} {p : Str → D → Option RV} {apos pos : Pos} (hp : PM1 X id p) (slot : Slot "str" name id) (ty : typeOf (.builtin id) = pure (.type "method_descriptor")) (ho : VE X W o fo) (he : VE X W e fe)
    (hs : starEach [e] X.env = [(false, eval e X.env)] := by rfl) (hbase : attributeBase o name X.env (eval o X.env) = eval o X.env := by rfl) (hline : (apos.endLine == pos.line) = true := by rfl) : VE X W (.Call (.Attribute o name apos) [e] [] pos) (strM1 p fo fe) := by
  obtain ⟨r, h1, h2⟩ := hp.ex
  refine ⟨pe_imp (pe_m1 slot ty h1 ho.pe he.pe hs hbase hline) fun σ H Q ⟨I, g, o, r⟩ => ?_⟩
  refine ⟨I, g, o, Rem.settle ((Rem.bind (R := RvR X.K) r).mono ?_)⟩
  rintro v H1 ⟨I1, g1, x, o1, y1, rx, r1⟩
  split at r1
  · rename_i z ez
    have ev := (deref_rd o1 rx ez).str
    subst ev
    refine ⟨⟨z, rfl⟩, I1, g1, o1, Rem.settle ((Rem.bind (R := RvR X.K) r1).mono ?_)⟩
    rintro u H2 ⟨I2, g2, y, o2, y2, ry, r2⟩
    obtain ⟨b, rb, gv⟩ := lift1_gives (c := ⟨I2, σ, H2, g2⟩) o2 ry r2
    exact h2 ⟨I2, σ, H2, g2⟩ u z b Q o2 rb gv
  · exact r1.elim
theorem pm_ss {id : String} {p : Str → D → Option RV} {k : Str → Str → RV} {C : Str → Str → Prop} {r : V → List V → Hp → VK → Prop} (h : MtR X id r) (hr : ∀ c z b Q, Ok X.K c → C z b → Gives X.K c (some (k z b)) Q → r (.str z) [.str b] c.H Q)
    (hp : ∀ z d, p z d = none ∨ ∃ b, d = .str b ∧ C z b ∧ p z d = some (k z b)) : PM1 X id p := by
  refine ⟨r, h, fun c u z b Q o rb g => ?_⟩
  rcases hp z b with e | ⟨b', rfl, hc, e⟩
  · rw [e] at g; exact g.elim
  · rw [e] at g
    rw [rb.str]
    exact hr c z b' Q o hc g
def startsP (z : Str) : D → Option RV
  | .str b => vB (Txt.startswith z b)
  | _ => none
theorem m_starts : PM1 X "str.startswith" startsP := by
  refine ⟨_, mt_startswith, fun c u z b Q o rb g => ?_⟩
  cases b <;> simp only [startsP] at g <;> first | exact g.elim | skip
  rw [rb.str]
  exact ⟨z, _, rfl, rfl, g.now o (.bl _)⟩
def endsP (z : Str) : D → Option RV
  | .str b => vB (Txt.endswith z b)
  | _ => none
theorem m_ends : PM1 X "str.endswith" endsP := by
  refine ⟨_, mt_endswith, fun c u z b Q o rb g => ?_⟩
  cases b <;> simp only [endsP] at g <;> first | exact g.elim | skip
  rw [rb.str]
  exact ⟨z, _, rfl, rfl, g.now o (.bl _)⟩
def countP (z : Str) : D → Option RV
  | .str b => vI (Txt.count z b)
  | _ => none
theorem m_count : PM1 X "str.count" countP := by
  refine ⟨_, mt_count, fun c u z b Q o rb g => ?_⟩
  cases b <;> simp only [countP] at g <;> first | exact g.elim | skip
  rw [rb.str]
  exact ⟨z, _, rfl, rfl, g.now o (.int _)⟩
def rmpreP (z : Str) : D → Option RV
  | .str b => if z.length ≤ sizeLine then vS (Txt.removeprefix z b) else none
  | _ => none
theorem m_rmpre : PM1 X "str.removeprefix" rmpreP := by
  refine ⟨_, mt_removeprefix, fun c u z b Q o rb g => ?_⟩
  cases b <;> simp only [rmpreP] at g <;> first | exact g.elim | skip
  rw [rb.str]
  split at g
  · exact ⟨z, _, rfl, rfl, by assumption, g.now o (.str _)⟩
  · exact g.elim
def splitP (z : Str) : D → Option RV
  | .str b => if (b.length == 0) = false ∧ z.length + 2 ≤ sizeLine then some (.fr (.lst ((Txt.split z b).map D.str))) else none
  | _ => none
theorem reps_str {K : PySem.W.Frag} {I : Hp} : ∀ ns : List Str, Reps K I (ns.map V.str) (ns.map D.str)
  | [] => .nil
  | n :: r => .cons (.str n) (reps_str r)
theorem m_split : PM1 X "str.split" splitP := by
  refine ⟨_, mx_split, fun c u z b Q o rb g => ?_⟩
  cases b <;> simp only [splitP] at g <;> first | exact g.elim | skip
  rw [rb.str]
  split at g
  · rename_i hh
    exact ⟨z, _, rfl, rfl, hh.1, hh.2, fun p H' fr x hp => g.fresh o fr x ⟨_, hp, reps_str _⟩⟩
  · exact g.elim
def strsD : List D → Option (List Str)
  | [] => some []
  | .str i :: r => (strsD r).map (i :: ·)
  | _ => none
theorem reps_strs {K : PySem.W.Frag} {I : Hp} : ∀ {vs : List V} {ds : List D} {ns : List Str}, Reps K I vs ds → strsD ds = some ns → vs = ns.map V.str
  | _, _, _, .nil, e => by cases e; rfl
  | _, d :: ds, ns, .cons h t, e => by
    cases d <;> simp only [strsD, Option.map_eq_some_iff] at e <;> first | cases e | skip
    rename_i ms
    obtain ⟨e1, rfl⟩ := ms
    cases h
    rw [List.map_cons, reps_strs t e1]
def joinP (z : Str) : D → Option RV
  | .lst xs => (strsD xs).bind fun ys => if (ys.map (·.length)).sum + ys.length * z.length ≤ 16777216 then vS (Txt.join z ys) else none
  | .tup xs => (strsD xs).bind fun ys => if (ys.map (·.length)).sum + ys.length * z.length ≤ 16777216 then vS (Txt.join z ys) else none
  | _ => none
theorem m_join : PM1 X "str.join" joinP := by
  refine ⟨_, mt_join, fun c u z b Q o rb g => ?_⟩
  cases b <;> simp only [joinP] at g <;> first | exact g.elim | skip
  · rename_i xs
    obtain ⟨p, us, rfl, hp, rp⟩ := rb.lst o
    cases e : strsD xs with
    | none => rw [e] at g; exact g.elim
    | some ys =>
      rw [e] at g
      simp only [Option.bind_some] at g
      split at g
      · rw [reps_strs rp e] at hp
        exact ⟨z, p, ys, rfl, rfl, .inl (SqL.of hp), by assumption, g.now o (.str _)⟩
      · exact g.elim
  · rename_i xs
    obtain ⟨p, us, rfl, hp, rp⟩ := rb.tup o
    cases e : strsD xs with
    | none => rw [e] at g; exact g.elim
    | some ys =>
      rw [e] at g
      simp only [Option.bind_some] at g
      split at g
      · rw [reps_strs rp e] at hp
        exact ⟨z, p, ys, rfl, rfl, .inr hp, by assumption, g.now o (.str _)⟩
      · exact g.elim
/-! ### sorted -/
/-- ints in order -/
def sortI (ns : List Int) : List Int := ns.mergeSort (fun a b => decide (a ≤ b))
theorem sortI_perm (ns : List Int) : (sortI ns).Perm ns := List.mergeSort_perm _ _
theorem sortI_pw (ns : List Int) : (sortI ns).Pairwise (· ≤ ·) := by
  have := List.pairwise_mergeSort (le := fun (a b : Int) => decide (a ≤ b)) (fun a b c h1 h2 => by simp at *; omega) (fun a b => by simp; omega) ns
  exact this.imp (by simp)
theorem sortI_uniq {ns ms : List Int} (h1 : ms.Perm ns) (h2 : ms.Pairwise (· ≤ ·)) : ms = sortI ns :=
  List.Perm.eq_of_pairwise (le := fun a b => a ≤ b) (fun a b _ _ h1 h2 => Int.le_antisymm h1 h2) h2 (sortI_pw ns) (h1.trans (sortI_perm ns).symm)
/-- texts in order -/
def sortP : List D → Option RV
  | [.lst xs] => (intsD xs).bind fun ns => if ns.length < 64 then some (.fr (.lst ((sortI ns).map D.int))) else none
  | _ => none
theorem reps_int' {K : PySem.W.Frag} {I : Hp} : ∀ ns : List Int, Reps K I (ns.map V.int) (ns.map D.int)
  | [] => .nil
  | n :: r => .cons (.int n) (reps_int' r)
theorem c_sorted : PCl X (.builtin "sorted") sortP := by
  refine ⟨_, cr_sorted, fun c vs ds Q o rr h => ?_⟩
  match ds, h with
  | [.lst xs], h =>
    obtain ⟨v, rfl, r⟩ := paired1 rr
    obtain ⟨p, us, rfl, hp, rp⟩ := r.lst o
    simp only [sortP] at h
    cases e : intsD xs with
    | none => rw [e] at h; exact h.elim
    | some ns =>
      rw [e] at h
      simp only [Option.bind_some] at h
      split at h
      · rw [reps_ints rp e] at hp
        refine ⟨p, ns, rfl, SqL.of hp, by assumption, fun ms q h1 h2 hq => ?_⟩
        have := sortI_uniq h1 h2
        subst this
        exact h.fresh o ⟨hq⟩ (Xb.new hq) ⟨_, upd_same, reps_int' _⟩
      · exact h.elim
end
end Vl

set_option Elab.async false
set_option linter.all false
set_option maxRecDepth 100000
set_option maxHeartbeats 2000000
/-! the value layer: classes: fields, stores, methods, making -/
namespace Vl
open PySem PySem.Spec PyProof.Rows L2 My
/-! ### fields -/
structure FldK (K : PySem.W.Frag) (f : Str) (ts : List (Str × Option Nat)) : Prop where
  ex : ∀ c o, ts.lookup c = some o → match o with
    | none => Cls K (He.ga K c) ∧ NoAttr K (He.ga K c) f
    | some i => SlX.SCls K (He.ga K c) ∧ ∃ q, SlX.Slot1 K (He.ga K c) f q i
def fldP (f : Str) (ts : List (Str × Option Nat)) : D → Option RV
  | .ins c fs => (match ts.lookup c with | some none => (fs.lookup f).map RV.val | _ => none)
  | .slo c vs => (match ts.lookup c with | some (some i) => (match vs[i]? with | some (some d) => some (.val d) | _ => none) | _ => none)
  | _ => none
theorem RepO.get {K : PySem.W.Frag} {I : Hp} : ∀ {vs : List (Option V)} {ds : List (Option D)} {i : Nat} {d : D}, RepO K I vs ds → ds[i]? = some (some d) → ∃ v, vs[i]? = some (some v) ∧ Rep K I v d
  | _, _, i, d, .nil, e => by simp at e
  | _, _, 0, d, .non t, e => by simp at e
  | _, _, i + 1, d, .non t, e => by
    obtain ⟨v, h1, h2⟩ := t.get (i := i) (d := d) (by simpa using e)
    exact ⟨v, by simpa using h1, h2⟩
  | _, _, 0, d, .cons h t, e => by simp at e; subst e; exact ⟨_, rfl, h⟩
  | _, _, i + 1, d, .cons h t, e => by
    obtain ⟨v, h1, h2⟩ := t.get (i := i) (d := d) (by simpa using e)
    exact ⟨v, by simpa using h1, h2⟩
theorem RepO.length {K : PySem.W.Frag} {I : Hp} : ∀ {vs : List (Option V)} {ds : List (Option D)}, RepO K I vs ds → vs.length = ds.length
  | _, _, .nil => rfl
  | _, _, .non t => congrArg Nat.succ t.length
  | _, _, .cons _ t => congrArg Nat.succ t.length
def putO (i : Nat) (d : D) (vs : List (Option D)) : List (Option D) := (vs ++ List.replicate (i + 1 - vs.length) none).set i (some d)
theorem RepO.append {K : PySem.W.Frag} {I : Hp} : ∀ {vs us : List (Option V)} {ds es : List (Option D)}, RepO K I vs ds → RepO K I us es → RepO K I (vs ++ us) (ds ++ es)
  | _, _, _, _, .nil, s => s
  | _, _, _, _, .non t, s => .non (t.append s)
  | _, _, _, _, .cons h t, s => .cons h (t.append s)
theorem RepO.reps {K : PySem.W.Frag} {I : Hp} : ∀ n : Nat, RepO K I (List.replicate n none) (List.replicate n none)
  | 0 => .nil
  | n + 1 => .non (RepO.reps n)
theorem RepO.set {K : PySem.W.Frag} {I : Hp} {v : V} {d : D} (h : Rep K I v d) : ∀ {vs : List (Option V)} {ds : List (Option D)} (i : Nat), RepO K I vs ds → RepO K I (vs.set i (some v)) (ds.set i (some d))
  | _, _, _, .nil => .nil
  | _, _, 0, .non t => .cons h t
  | _, _, i + 1, .non t => .non (t.set h i)
  | _, _, 0, .cons _ t => .cons h t
  | _, _, i + 1, .cons q t => .cons q (t.set h i)
theorem RepO.put {K : PySem.W.Frag} {I : Hp} {v : V} {d : D} {i : Nat} {vs : List (Option V)} {ds : List (Option D)} (h : Rep K I v d) (r : RepO K I vs ds) : RepO K I (SlX.putS i v vs) (putO i d ds) := by
  unfold SlX.putS putO
  rw [r.length]
  exact (r.append (RepO.reps _)).set h i
section
variable {X : Cx} {W : WX}
section
variable {o e value : Expr} {f : Str} {pos pos' : Pos} {ta tv : TE}
theorem pe_attr (he : PE X e ta) (hb : attributeBase e f X.env (eval e X.env) = eval e X.env := by rfl) :
    PE X (.Attribute e f pos) (fun σ H Q => ta σ H fun x H1 => ∃ a, x = .ref a ∧ ((∃ C dx fs v, H1 a = some (.ins C dx fs) ∧ Cls X.K C ∧ NoAttr X.K C f ∧ fs.lookup f = some v ∧ Q v H1) ∨
      (∃ C dx p vs i v, SlX.Slt H1 a C dx vs ∧ SlX.SCls X.K C ∧ SlX.Slot1 X.K C f p i ∧ vs[i]? = some (some v) ∧ Q v H1))) := by
  refine ⟨fun pins s σ H Q I h => ?_⟩
  refine attr_of hb (thn (he.run pins s σ H _ I h) fun u s1 ⟨x, H1, I1, rx, a, ex, q⟩ => ?_)
  subst ex
  obtain rfl : u = Value.ref a := rx
  rcases q with ⟨C, dx, fs, v, ea, c, n, l, q⟩ | ⟨C, dx, p, vs, i, v, hs, c, t, l, q⟩
  · exact getattr_ok I1 ea c n l fun u' s2 I2 ru => ⟨v, H1, I2, ru, q⟩
  · exact SlX.getslot_ok I1 hs c t l fun u' s2 I2 ru => ⟨v, H1, I2, ru, q⟩
theorem ve_fld {ts : List (Str × Option Nat)} {fe : Ft} (k : FldK X.K f ts) (he : VE X W e fe) (hb : attributeBase e f X.env (eval e X.env) = eval e X.env := by rfl) : VE X W (.Attribute e f pos) (op1 (fldP f ts) fe) := by
  refine ⟨pe_imp (pe_attr he.pe hb) fun σ H Q ⟨I, g, o, r⟩ => ?_⟩
  refine ⟨I, g, o, Rem.settle ((Rem.bind (R := RvR X.K) r).mono ?_)⟩
  rintro v H1 ⟨I1, g1, x, o1, y1, rx, r1⟩
  obtain ⟨d, rd, q⟩ := lift1_gives o1 rx r1
  cases d <;> simp only [fldP] at q <;> first | exact q.elim | skip
  · rename_i c fs
    split at q
    · rename_i el
      cases el2 : fs.lookup f with
      | none => rw [el2] at q; exact q.elim
      | some d =>
        rw [el2] at q
        obtain ⟨a, dx, us, rfl, ha, rf⟩ := rd.ins o1
        obtain ⟨v, hv, rv⟩ := rf.get el2
        have z := k.ex _ _ el
        exact ⟨a, rfl, .inl ⟨_, dx, us, v, ha, z.1, z.2, hv, q.now o1 rv⟩⟩
    · exact q.elim
  · rename_i c vs
    split at q
    · rename_i i el
      split at q
      · rename_i d el2
        obtain ⟨a, dx, us, rfl, ha, hd, rf⟩ := rd.slo o1
        obtain ⟨v, hv, rv⟩ := rf.get el2
        obtain ⟨z1, p, z2⟩ := k.ex _ _ el
        exact ⟨a, rfl, .inr ⟨_, dx, p, us, i, v, .inr ⟨ha, hd⟩, z1, z2, hv, q.now o1 rv⟩⟩
      · exact q.elim
    · exact q.elim
theorem ps_attr (ha : PE X o ta) (hv : PE X value tv) (hs : swapsWith value (some (.Attribute o f pos')) pos.line X.env = pure false := by rfl) :
    PS X (.Assign [.Attribute o f pos'] value pos) (fun D σ H => tv σ H fun y H1 => ta σ H1 fun x H2 => ∃ a, x = .ref a ∧
      ((∃ C dx fs, H2 a = some (.ins C dx fs) ∧ Cls X.K C ∧ NoAttr X.K C f ∧ fs.length < 1000 ∧ ∀ H3, Xb [a] H2 H3 → H3 a = some (.ins C dx (L2.putF f y fs)) → D.nx σ H3) ∨
       (∃ C dx p vs i, H2 a = some (SlX.SlO a C dx vs) ∧ H2 dx = some (.xd []) ∧ SlX.SCls X.K C ∧ SlX.Slot1 X.K C f p i ∧ ∀ H3, Xb [a] H2 H3 → H3 a = some (SlX.SlO a C dx (SlX.putS i y vs)) → D.nx σ H3))) := by
  refine ⟨fun pins s σ H D I h => ?_⟩
  refine plainObj_wpAny_Assign_Attribute (thn (hv.run pins s σ H _ I h) fun u s1 ⟨y, H1, I1, ry, q⟩ => thn (ha.run pins s1 σ H1 _ I1 q) fun ov s2 ⟨x, H2, I2, rx, a, ex, q2⟩ => ?_) hs
  subst ex
  obtain rfl : ov = Value.ref a := rx
  rcases q2 with ⟨C, dx, fs, ea, c, n, hl, q2⟩ | ⟨C, dx, p, vs, i, ea, hd, c, t, q2⟩
  · exact setattr_ok I2 ea c n hl ry fun s3 I3 => ⟨σ, _, I3, q2 _ Xb.put upd_same⟩
  · refine SlX.setslot_ok I2 (.inr ⟨ea, hd⟩) c t ry fun s3 I3 => ⟨σ, _, I3, q2 _ ⟨fun b u nb e => ?_⟩ upd_same⟩
    have na : b ≠ a := fun z => nb (by rw [z]; exact .head _)
    unfold SlX.slH
    rw [upd_ne na]
    by_cases z : b = dx
    · subst z
      rw [upd_same, ← e, hd]
    · rw [upd_ne z]
      exact e
end
/-! ### slot.f = e -/
def setA (i : Nat) (f : Str) (ts : List (Str × Option Nat)) (fe : Ft) : Fs := fun g => bindE (evA [fe] g) fun xs g1 => match frzA xs g1 with
  | some ([d], g2) => (match g2[i]? with
    | some (.own t (.ins c fs)) => if ts.lookup c = some none ∧ fs.length < 1000 then .nx (g2.set i (.own t (.ins c (putD f d fs)))) else .stuck
    | some (.own t (.slo c vs)) => (match ts.lookup c with
      | some (some j) => .nx (g2.set i (.own t (.slo c (putO j d vs))))
      | _ => .stuck)
    | _ => .stuck)
  | _ => .stuck
theorem vs_attr {o value : Expr} {f : Str} {pos pos' : Pos} {i : Nat} {ts : List (Str × Option Nat)} {fe : Ft} (k : FldK X.K f ts) (ho : PE X o (tVar i)) (he : VE X W value fe) (hs : swapsWith value (some (.Attribute o f pos')) pos.line X.env = pure false := by rfl) :
    VS X W (.Assign [.Attribute o f pos'] value pos) (setA i f ts fe) := by
  refine ⟨ps_imp' (ps_attr ho he.pe hs) fun D σ H ⟨I, g, o, r⟩ => ?_⟩
  refine rd1 rfl o r fun v H1 I1 g1 x o1 y1 rx r1 => ?_
  split at r1
  · rename_i d g2 e2
    obtain ⟨I2, o2, y2, rr⟩ := frzA_ok o1 rx e2
    cases rr with
    | cons rv tt =>
      cases tt
      split at r1
      · rename_i t c fs q
        split at r1
        · rename_i hh
          obtain ⟨a, ea, ⟨dx, us, ha, rf⟩, na⟩ := o2.own_at q
          have z := k.ex _ _ hh.1
          refine ⟨.ref a, ea, a, rfl, .inl ⟨_, dx, us, ha, z.1, z.2, by rw [rf.length]; exact hh.2, fun H3 x3 h3 => ?_⟩⟩
          obtain ⟨o3, y3⟩ := o2.wr q ea x3 (d' := .ins c (putD f d fs)) ⟨dx, _, h3, rf.put rv⟩
          exact r1 I2 σ H3 o3 ((y1.trans y2).trans y3)
        · exact r1.elim
      · rename_i t c vs q
        split at r1
        · rename_i j el
          obtain ⟨a, ea, ⟨dx, us, ha, hd, rf⟩, na⟩ := o2.own_at q
          obtain ⟨z1, p, z2⟩ := k.ex _ _ el
          refine ⟨.ref a, ea, a, rfl, .inr ⟨_, dx, p, us, j, ha, o2.sub _ _ hd, z1, z2, fun H3 x3 h3 => ?_⟩⟩
          obtain ⟨o3, y3⟩ := o2.wr q ea x3 (d' := .slo c (putO j d vs)) ⟨dx, _, h3, hd, rf.put rv⟩
          exact r1 I2 σ H3 o3 ((y1.trans y2).trans y3)
        · exact r1.elim
      · exact r1.elim
  · exact r1.elim
end
end Vl

set_option Elab.async false
set_option linter.all false
set_option maxRecDepth 100000
set_option maxHeartbeats 2000000
/-! the value layer: methods, instances made -/
namespace Vl
open PySem PySem.Spec PyProof.Rows L2 My
/-! ### methods -/
inductive MethAt (K : PySem.W.Frag) (H : Hp) (a : Addr) (m : Str) (g : Addr) : Prop
  | ins {C dx : Addr} {fs : List (Str × V)} (h : H a = some (.ins C dx fs)) (l : fs.lookup m = none) (c : Cls K C) (k : Meth K C m g)
  | slo {C dx : Addr} {vs : List (Option V)} (h : SlX.Slt H a C dx vs) (c : SlX.SCls K C) (k : Meth K C m g)
theorem MethAt.kp {K : PySem.W.Frag} {H : Hp} {a g : Addr} {m : Str} (h : MethAt K H a m g) : PySem.W.keepIn K (.ref g) = true := by
  cases h with
  | ins _ _ _ k => exact k.kp
  | slo _ _ k => exact k.kp
theorem MethAt.ok {X : Cx} {pins : List (Addr × Obj)} {σ : L2.St} {H : Hp} {s : Shared} {a g : Addr} {m : Str} {A : Around} {E : Value → Shared → Prop} {pl : Sem Bool} {Q : Value × List Value → Shared → Prop} (I : Inv X pins σ H s) (k : MethAt X.K H a m g) (h : Q (.ref g, [.ref a]) s) :
    wpAny (model X.prog X.w) A (getMethod (.ref a) m pl) Q E s := by
  cases k with
  | ins e l c k => exact getmeth_ok I e c k l h
  | slo e c k => exact SlX.getmethsl_ok I e c k h
section
variable {X : Cx} {W : WX} {o e : Expr} {es : List Expr} {m : Str} {pos apos : Pos} {ta : TE} {t : TA} {j : Nat} {pl : Sem Bool}
theorem px_meth (he : PE X o ta) (ha : PA X (e :: es) t) (hr : Room j X.A) (tk : Takes X W)
    (hst : starEach (e :: es) X.env = (false, eval e X.env) :: starEach es X.env := by rfl) (hpl : (backTo pos (starEach es X.env)).any (·.1) = false := by rfl)
    (ht : eval (.Call (.Attribute o m apos) (e :: es) [] pos) X.env = (do
      let ov ← eval o X.env
      standAt apos.atName
      let (f, first) ← holding [ov] (getMethod ov m pl)
      callWith pos f first (backTo pos (starEach (e :: es) X.env)) (backToKw pos (keywordEach [] X.env))) := by rfl) :
    PE X (.Call (.Attribute o m apos) (e :: es) [] pos) (fun σ H Q => ta σ H fun x H1 => ∃ (a g : Addr) (k : Nat) (sp : Sp), x = .ref a ∧ MethAt X.K H1 a m g ∧ k ≤ j ∧ Callee X.prog X.w X.K X.mg X.base k g sp ∧ t σ H1 fun vs H2 => sp (x :: vs) H2 Q (WE W σ)) := by
  refine ⟨fun pins s σ H Q I h => ?_⟩
  refine PySem.W.methodCall_KW (pl := pl) (thn (he.run pins s σ H _ I h) fun u s1 ⟨x, H1, I1, rx, a, g, k, sp, ex, mk, hk, c, q⟩ => ?_) ht
  subst ex
  obtain rfl : u = Value.ref a := rx
  refine mk.ok I1 ?_
  refine PySem.W.callWith_K (first := [.ref a]) (h₀ := X.base) I.ok.mod.kin mk.kp (thn (ha.run pos pins s1 σ H1 _ I1 q) fun us s2 ⟨vs, H2, I2, r, q2⟩ => ⟨I2.kIn, ?_⟩) hst hpl
  exact c X pins σ H2 s2 (.ref a :: us) (.ref a :: vs) Q (WE W σ) rfl rfl rfl rfl rfl (hr.mono hk) (passAt tk σ) I2 (.cons rfl r) q2
theorem px_meth0 (he : PE X o ta) (hr : Room j X.A) (tk : Takes X W)
    (ht : eval (.Call (.Attribute o m apos) [] [] pos) X.env = (do
      let ov ← eval o X.env
      standAt apos.atName
      let (f, first) ← holding [ov] (getMethod ov m pl)
      callWith pos f first (backTo pos (starEach [] X.env)) (backToKw pos (keywordEach [] X.env))) := by rfl) :
    PE X (.Call (.Attribute o m apos) [] [] pos) (fun σ H Q => ta σ H fun x H1 => ∃ (a g : Addr) (k : Nat) (sp : Sp), x = .ref a ∧ MethAt X.K H1 a m g ∧ k ≤ j ∧ Callee X.prog X.w X.K X.mg X.base k g sp ∧ sp [x] H1 Q (WE W σ)) := by
  refine ⟨fun pins s σ H Q I h => ?_⟩
  refine PySem.W.methodCall_KW (pl := pl) (thn (he.run pins s σ H _ I h) fun u s1 ⟨x, H1, I1, rx, a, g, k, sp, ex, mk, hk, c, q⟩ => ?_) ht
  subst ex
  obtain rfl : u = Value.ref a := rx
  refine mk.ok I1 ?_
  exact PySem.W.callWith_K0 (first := [.ref a]) I1.kIn mk.kp (c X pins σ H1 s1 [.ref a] [.ref a] Q (WE W σ) rfl rfl rfl rfl rfl (hr.mono hk) (passAt tk σ) I1 (.cons rfl .nil) q)
end
/-- the methods of that name: by the class (true: with slots) -/
structure MethK (P : Program) (w : World) (K : PySem.W.Frag) (mg : Str → Option Value) (base : Heap) (j : Nat) (nm : Str) (ms : List (Str × Bool × Fm)) : Prop where
  ex : ∀ c b m, ms.lookup c = some (b, m) → ∃ (g : Addr) (k : Nat), k ≤ j ∧ Callee P w K mg base k g (spV K m) ∧ Meth K (He.ga K c) nm g ∧ (b = false → Cls K (He.ga K c)) ∧ (b = true → SlX.SCls K (He.ga K c))
def pickM (nm : Str) (ms : List (Str × Bool × Fm)) : D → Option Fm
  | .ins c fs => if (fs.lookup nm).isNone = true then (match ms.lookup c with | some (false, m) => some m | _ => none) else none
  | .slo c _ => (match ms.lookup c with | some (true, m) => some m | _ => none)
  | _ => none
def methK (fs : List Ft) (m : Fm) (x : RV) : Sg → Res RV := fun g => (evA fs g).bind fun rs g2 => callK m (x :: rs) g2
/-- o.nm(..) -/
def methC (nm : Str) (ms : List (Str × Bool × Fm)) (fs : List Ft) (x : RV) (g1 : Sg) : Res RV := match (deref g1 x).bind (pickM nm ms) with
  | some m => methK fs m x g1
  | none => .stuck
def methM (nm : Str) (ms : List (Str × Bool × Fm)) (fo : Ft) (fs : List Ft) : Ft := fun g => (settle (fo g)).bind (methC nm ms fs)
section
variable {X : Cx} {W : WX} {o e : Expr} {es : List Expr} {nm : Str} {pos apos : Pos} {j : Nat} {pl : Sem Bool} {ms : List (Str × Bool × Fm)} {fo : Ft} {fs : List Ft}
theorem meth_at {c : Cfg} {v : V} {d : D} {m : Fm} (k : MethK X.prog X.w X.K X.mg X.base j nm ms) (o : Ok X.K c) (rd : RdD X.K c v d) (h : pickM nm ms d = some m) :
    ∃ (a g : Addr) (k : Nat), v = .ref a ∧ MethAt X.K c.H a nm g ∧ k ≤ j ∧ Callee X.prog X.w X.K X.mg X.base k g (spV X.K m) := by
  cases d <;> simp only [pickM] at h <;> first | cases h | skip
  · rename_i c fs
    split at h
    · rename_i hl
      split at h
      · rename_i m' el
        cases h
        obtain ⟨g, k', hk, hc, hm, hp, _⟩ := k.ex _ _ _ el
        obtain ⟨a, dx, us, rfl, ha, rf⟩ := rd.ins o
        exact ⟨a, g, k', rfl, .ins ha (rf.none (Option.isNone_iff_eq_none.mp hl)) (hp rfl) hm, hk, hc⟩
      · cases h
    · cases h
  · rename_i c vs
    split at h
    · rename_i m' el
      cases h
      obtain ⟨g, k', hk, hc, hm, _, hp⟩ := k.ex _ _ _ el
      obtain ⟨a, dx, us, rfl, ha, hd, rf⟩ := rd.slo o
      exact ⟨a, g, k', rfl, .slo (.inr ⟨ha, hd⟩) (hp rfl) hm, hk, hc⟩
    · cases h
theorem nofr_of {f : Ft} {g : Sg} : ∀ x g', settle (f g) = .ok x g' → ∀ d, x ≠ .fr d := fun x g' h => settle_nofr h
theorem ve_meth (k : MethK X.prog X.w X.K X.mg X.base j nm ms) (hr : Room j X.A) (tk : Takes X W) (ho : VE X W o fo) (ha : VA X W (e :: es) fs)
    (hst : starEach (e :: es) X.env = (false, eval e X.env) :: starEach es X.env := by rfl) (hpl : (backTo pos (starEach es X.env)).any (·.1) = false := by rfl)
    (ht : eval (.Call (.Attribute o nm apos) (e :: es) [] pos) X.env = (do
      let ov ← eval o X.env
      standAt apos.atName
      let (f, first) ← holding [ov] (getMethod ov nm pl)
      callWith pos f first (backTo pos (starEach (e :: es) X.env)) (backToKw pos (keywordEach [] X.env))) := by rfl) :
    VE X W (.Call (.Attribute o nm apos) (e :: es) [] pos) (methM nm ms fo fs) := by
  refine ⟨pe_imp (px_meth ho.pe ha.pa hr tk hst hpl ht) fun σ H Q ⟨I, g, o, r⟩ => ?_⟩
  refine ⟨I, g, o, Rem.settle ?_⟩
  have nf := nofr_of (f := fo) (g := g)
  unfold methM at r
  revert nf r
  generalize settle (fo g) = sr
  intro r nf
  cases sr with
  | stuck => exact r
  | exn c fs' g' => exact r
  | ok x g1 =>
    intro I1 H1 v o1 y1 rx
    have r1 : Rem X.K W (RvR X.K) ⟨I1, σ, H1, g1⟩ (methC nm ms fs x g1) Q := Rem.go (c0 := ⟨I, σ, H, g⟩) (c1 := ⟨I1, σ, H1, g1⟩) y1 rfl r
    unfold methC at r1
    cases ed : (deref g1 x).bind (pickM nm ms) with
    | none => rw [ed] at r1; exact r1.elim
    | some m =>
      rw [ed] at r1
      obtain ⟨d, hd, hm⟩ := Option.bind_eq_some_iff.mp ed
      obtain ⟨a, gg, k', rfl, mt, hk, hc⟩ := meth_at k o1 (deref_rd (c := ⟨I1, σ, H1, g1⟩) o1 rx hd) hm
      refine ⟨a, gg, k', _, rfl, mt, hk, hc, I1, g1, o1, (Rem.bind (R := RvsR X.K) (r := evA fs g1) r1).mono ?_⟩
      rintro vs H2 ⟨I2, g2, rs, o2, y2, rr, r2⟩
      exact call_sp (c0 := ⟨I1, σ, H1, g1⟩) o2 (.cons ⟨_, RvR.on (c1 := ⟨I1, σ, H1, g1⟩) o2 rfl y2 rx, nf x g1 rfl⟩ rr) r2
theorem ve_meth0 (k : MethK X.prog X.w X.K X.mg X.base j nm ms) (hr : Room j X.A) (tk : Takes X W) (ho : VE X W o fo)
    (ht : eval (.Call (.Attribute o nm apos) [] [] pos) X.env = (do
      let ov ← eval o X.env
      standAt apos.atName
      let (f, first) ← holding [ov] (getMethod ov nm pl)
      callWith pos f first (backTo pos (starEach [] X.env)) (backToKw pos (keywordEach [] X.env))) := by rfl) :
    VE X W (.Call (.Attribute o nm apos) [] [] pos) (methM nm ms fo []) := by
  refine ⟨pe_imp (px_meth0 ho.pe hr tk ht) fun σ H Q ⟨I, g, o, r⟩ => ?_⟩
  refine ⟨I, g, o, Rem.settle ?_⟩
  have nf := nofr_of (f := fo) (g := g)
  unfold methM at r
  revert nf r
  generalize settle (fo g) = sr
  intro r nf
  cases sr with
  | stuck => exact r
  | exn c fs' g' => exact r
  | ok x g1 =>
    intro I1 H1 v o1 y1 rx
    have r1 : Rem X.K W (RvR X.K) ⟨I1, σ, H1, g1⟩ (methC nm ms [] x g1) Q := Rem.go (c0 := ⟨I, σ, H, g⟩) (c1 := ⟨I1, σ, H1, g1⟩) y1 rfl r
    unfold methC at r1
    cases ed : (deref g1 x).bind (pickM nm ms) with
    | none => rw [ed] at r1; exact r1.elim
    | some m =>
      rw [ed] at r1
      obtain ⟨d, hd, hm⟩ := Option.bind_eq_some_iff.mp ed
      obtain ⟨a, gg, k', rfl, mt, hk, hc⟩ := meth_at k o1 (deref_rd (c := ⟨I1, σ, H1, g1⟩) o1 rx hd) hm
      refine ⟨a, gg, k', _, rfl, mt, hk, hc, ?_⟩
      exact call_sp (c0 := ⟨I1, σ, H1, g1⟩) o1 (.cons ⟨_, rx, nf x g1 rfl⟩ .nil) r1
end
/-! ### instances made -/
/-- C(..) by its __init__; d0: how the new thing starts -/
def mkM (d0 : D) (m : Fm) : Fm := fun as => match m (.own d0 :: as) with
  | .ok (.val .non) (.own true d :: os) => .ok (.fr d) os
  | .exn c fs => .exn c fs
  | _ => .stuck
/-- a class with slots: its __init__ keeps spI -/
def spMkS (C : Addr) (spI : Sp) : Sp := fun vs H Q E => ∀ (a d : Addr) (H2 : Hp), Fr H a → Fr H d → d ≠ a → Xb [] H H2 → H2 a = some (SlX.SlO a C d []) → H2 d = some (.xd []) → spI (.ref a :: vs) H2 (fun v H3 => v = .non ∧ Q (.ref a) H3) E
section
variable {P : Program} {w : World} {K : PySem.W.Frag} {mg : Str → Option Value} {base : Heap} {k : Nat} {v f C : Addr} {x : Str} {sp sp' : Sp}
theorem Callee.of_clsS (M : Mk K C f) (F : FnR P w K mg base (L2.CX P w) k f sp) : Callee P w K mg base (k + 1) C (spMkS C sp) := by
  rintro X pins σ H s us vs Q E rfl rfl rfl rfl rfl hr hx I r h
  have n1 : H (s.heap.objs.size + 1) = none := I.hok.fresh (Nat.le_succ _)
  have n2 : H s.heap.objs.size = none := I.hok.fresh (Nat.le_refl _)
  have ne : s.heap.objs.size ≠ s.heap.objs.size + 1 := Nat.ne_of_lt (Nat.lt_succ_self _)
  have I1 := Inv.made (C := C) I
  have sl : SlX.Slt (upd (upd H s.heap.objs.size (.own (s.heap.objs.size + 1))) (s.heap.objs.size + 1) (.ins C s.heap.objs.size [])) (s.heap.objs.size + 1) C s.heap.objs.size [] := .inl ⟨upd_same, rfl⟩
  obtain ⟨_, sl0, mA, e0, _, _, _⟩ := SlX.slt_at I1 sl
  have I2 := SlX.inv_slot (vs' := []) (t' := s.toks) I1 sl (fun b o _ _ z => z) (fun m z => z) e0 (SlX.SlR.nil _)
  have hq := h (s.heap.objs.size + 1) s.heap.objs.size _ ⟨n1⟩ ⟨n2⟩ ne (show Xb [] H (SlX.slH (upd (upd H s.heap.objs.size (.own (s.heap.objs.size + 1))) (s.heap.objs.size + 1) (.ins C s.heap.objs.size [])) (s.heap.objs.size + 1) C s.heap.objs.size []) from ⟨fun b u _ e => by
    have b1 : b ≠ s.heap.objs.size + 1 := ne_of_none e n1
    have b2 : b ≠ s.heap.objs.size := ne_of_none e n2
    unfold SlX.slH
    rw [upd_ne b1, upd_ne b2, upd_ne b1, upd_ne b2]
    exact e⟩) (by unfold SlX.slH; exact upd_same) (by unfold SlX.slH; rw [upd_ne ne]; exact upd_same)
  have r2 : Vals (V.ref (s.heap.objs.size + 1) :: vs) (Value.ref (s.heap.objs.size + 1) :: us) := .cons rfl r
  refine wpAny_call (make_map (f := f) I.kIn M.makes M.init (beq_iff_eq.mp M.fn) (codeAny_mono (F _ X.stack _ _ (Value.ref (s.heap.objs.size + 1) :: us) _ _ E (hr.make C us []) (I2.env0.make C us []) r2 hq) fun r s' hq' => ?_))
  cases r with
  | error e => exact hx pins _ _ e s' I2 hq'
  | ok fl =>
    cases fl with
    | ret u =>
      obtain ⟨v, H', I3, rv, ev, q3⟩ := I2.after hq'
      subst ev
      exact ⟨rv, ⟨V.ref (s.heap.objs.size + 1), H', I3, rfl, q3⟩⟩
    | next => exact False.elim hq'
    | brk => exact False.elim hq'
    | cont => exact False.elim hq'
theorem ArR.mono {K : PySem.W.Frag} {I I' H H' : Hp} {v : V} {a : Ar} (l : Le I I') (hk : ∀ b d, a = .own d → v = .ref b → H' b = H b ∧ I' b = none) (h : ArR K I H v a) : ArR K I' H' v a := by
  cases a with
  | val d => exact Rep.mono l h
  | own d =>
    obtain ⟨b, e, r, n⟩ := h
    obtain ⟨h1, h2⟩ := hk b d rfl e
    exact ⟨b, e, r.mono l h1, h2⟩
theorem paired_get2 {α β : Type} {R : α → β → Prop} : ∀ {xs : List α} {ys : List β} {i : Nat} {x : α}, Paired R xs ys → xs[i]? = some x → ∃ y, ys[i]? = some y ∧ R x y
  | _, _, 0, y, .cons h _, e => ⟨_, rfl, by simp at e; exact e ▸ h⟩
  | _, _, i + 1, y, .cons _ t, e => by
    obtain ⟨v, h1, h2⟩ := paired_get2 (i := i) (x := y) t (by simpa using e)
    exact ⟨v, by simpa using h1, h2⟩
theorem paired_mapI {α β : Type} {F G : α → β → Prop} : ∀ {l₁ : List α} {l₂ : List β}, Paired F l₁ l₂ → (∀ (i : Nat) a b, l₁[i]? = some a → l₂[i]? = some b → F a b → G a b) → Paired G l₁ l₂
  | _, _, .nil, _ => .nil
  | _, _, .cons r t, f => .cons (f 0 _ _ rfl rfl r) (paired_mapI t fun i a b h1 h2 => f (i + 1) a b (by simpa using h1) (by simpa using h2))
/-- the new thing's __init__, by the promise of the making -/
theorem mk_sp {d0 : D} {m : Fm} {vs : List V} {H H2 I2x : Hp} {Q : VK} {E : XK} {a d : Addr} (h : spV K (mkM d0 m) vs H Q E) (ha : Fr H a) (hd : Fr H d) (ne : d ≠ a) (x : Xb [] H H2)
    (hI : ∀ I, Le I H → ∃ I2, (NoTab I → NoTab I2) ∧ Le I I2 ∧ Le I2 H2 ∧ (∀ b, I b = none → I2 b ≠ none → b = d) ∧ OwnAt K I2 H2 a d0 ∧ I2 a = none) : spV K m (.ref a :: vs) H2 (fun v H3 => v = .non ∧ Q (.ref a) H3) E := by
  obtain ⟨I, as, le, tb, pr, ap, r⟩ := h
  obtain ⟨I2, l0, l1, l2, l3, ow, na⟩ := hI I le
  have old : ∀ (j : Nat) (b : Addr) (e : D), vs[j]? = some (.ref b) → as[j]? = some (.own e) → (∃ u, H b = some u) ∧ b ≠ a ∧ b ≠ d ∧ I b = none := fun j b e h1 h2 => by
    obtain ⟨v, h3, c, h4, h5, h6⟩ := paired_get pr h2
    rw [h1] at h3
    cases h3
    cases h4
    obtain ⟨u, hu⟩ := h5.some
    exact ⟨⟨u, hu⟩, ne_of_none hu ha.e, ne_of_none hu hd.e, h6⟩
  have mine : ∀ b, Mine (.ref a :: vs) (.own d0 :: as) b → b = a ∨ Mine vs as b := fun b ⟨j, e, h1, h2⟩ => by
    cases j with
    | zero => simp at h2; exact .inl h2.symm
    | succ j => exact .inr ⟨j, e, by simpa using h1, by simpa using h2⟩
  have wld : ∀ {I3 H3 : Hp}, Wld K I2 H2 (.ref a :: vs) (.own d0 :: as) I3 H3 → Wld K I H vs as I3 H3 := fun {I3 H3} wl => by
    refine ⟨wl.le, l1.trans wl.sub, fun b o e n nt => ?_, fun b e => x.free (fun z => nomatch z) (wl.dom b e), fun b e e' => ?_, wl.nt, wl.tab⟩
    · refine wl.keep b o (x.get0 e) (fun q => ?_) nt
      rcases mine b q with z | z
      · subst z; exact no_some ha.e e
      · exact n z
    · by_cases q : I2 b = none
      · rcases wl.grow b q e' with z | z
        · rcases mine b z with z | z
          · subst z; exact .inr ha.e
          · exact .inl z
        · exact .inr (x.free (fun z => nomatch z) z)
      · have := l3 b e q
        subst this
        exact .inr hd.e
  refine ⟨I2, .own d0 :: as, l2, ⟨l0 tb.1, tb.2.mono l1 fun b ps e => x.get0 e⟩, .cons ⟨a, rfl, ow, na⟩ (paired_mapI pr fun i v y e1 e2 q => q.mono l1 fun b e ey ev => ?_), fun i j e e' h1 h2 q => ?_, ?_⟩
  · subst ey ev
    obtain ⟨⟨u, hu⟩, h1, h2, h3⟩ := old i b e e1 e2
    refine ⟨(x.get0 hu).trans hu.symm, ?_⟩
    cases z : I2 b with
    | none => rfl
    | some w => exact (h2 (l3 b h3 (by rw [z]; exact fun z => nomatch z))).elim
  · have key : ∀ (i : Nat) (e : D), as[i]? = some (.own e) → vs[i]? ≠ some (.ref a) := fun i e h1 h2 => (old i a e h2 h1).2.1 rfl
    cases i with
    | zero =>
      cases j with
      | zero => rfl
      | succ j =>
        have q' : vs[j]? = some (.ref a) := by simpa using q.symm
        exact (key j e' (by simpa using h2) q').elim
    | succ i =>
      cases j with
      | zero =>
        have q' : vs[i]? = some (.ref a) := by simpa using q
        exact (key i e (by simpa using h1) q').elim
      | succ j => rw [ap i j e e' (by simpa using h1) (by simpa using h2) (by simpa using q)]
  · unfold mkM at r
    cases em : m (.own d0 :: as) with
    | stuck => rw [em] at r; exact r.elim
    | exn c fs =>
      rw [em] at r
      exact fun I3 H3 e wl h1 h2 h3 => r I3 H3 e (wld wl) h1 (x.free (fun z => nomatch z) h2) h3
    | ok rv outs =>
      rw [em] at r
      cases rv with
      | at_ i => exact r.elim
      | fr d' => exact r.elim
      | val d' =>
        cases d' <;> first | exact r.elim | skip
        match outs, r with
        | .own true d' :: os, r =>
          intro I3 H3 v wl ho rv
          cases rv
          have h0 := ho 0 d0 a rfl rfl
          exact ⟨rfl, r I3 H3 (.ref a) (wld wl) (fun j e b h1 h2 => ho (j + 1) e b (by simpa using h1) (by simpa using h2)) ⟨a, rfl, h0.1, h0.2, ha.e⟩⟩
theorem mk_plain {c : Str} {m : Fm} {f : Addr} (M : Mk K (He.ga K c) f) (F : FnR P w K mg base (L2.CX P w) k f (spV K m)) : Callee P w K mg base (k + 1) (He.ga K c) (spV K (mkM (.ins c []) m)) :=
  (Callee.of_cls M F).imp fun vs H Q E h a d H2 ha hd ne x h1 h2 => mk_sp (I2x := H) h ha hd ne x fun I le => ⟨I, id, Le.refl _, fun b u e => x.get0 (le b u e), fun b e e' => (e' e).elim, ⟨d, [], h1, .nil⟩, by
    cases q : I a with
    | none => rfl
    | some u => exact (no_some ha.e (le a u q)).elim⟩
theorem mk_slots {c : Str} {m : Fm} {f : Addr} (M : Mk K (He.ga K c) f) (F : FnR P w K mg base (L2.CX P w) k f (spV K m)) : Callee P w K mg base (k + 1) (He.ga K c) (spV K (mkM (.slo c []) m)) :=
  (Callee.of_clsS M F).imp fun vs H Q E h a d H2 ha hd ne x h1 h2 => mk_sp (I2x := H) h ha hd ne x fun I le => by
    have nd : I d = none := by
      cases q : I d with
      | none => rfl
      | some u => exact (no_some hd.e (le d u q)).elim
    refine ⟨upd I d (.xd []), fun n => n.upd .xd, Le.upd nd, fun b u e => ?_, fun b e e' => ?_, ⟨d, [], h1, upd_same, .nil⟩, ?_⟩
    · by_cases z : b = d
      · subst z; rw [upd_same] at e; rw [← e]; exact h2
      · rw [upd_ne z] at e; exact x.get0 (le b u e)
    · by_cases z : b = d
      · exact z
      · rw [upd_ne z] at e'; exact (e' e).elim
    · rw [upd_ne (Ne.symm ne)]
      cases q : I a with
      | none => rfl
      | some u => exact (no_some ha.e (le a u q)).elim
/-! ### defaults -/
/-- a def with k parameters, the last ones with the defaults ds -/
def dflM (k : Nat) (ds : List D) (m : Fm) : Fm := fun as => if k ≤ as.length + ds.length ∧ as.length ≤ k then m (as ++ (ds.drop (as.length + ds.length - k)).map Ar.val) else .stuck
theorem spV.more {m : Fm} {vs dvs : List V} {ds : List D} {H : Hp} {Q : VK} {E : XK} {as : List Ar} {I : Hp} (hr : Reps K I dvs ds) (le : Le I H) (tb : NoTab I ∧ TabsV K I H) (pr : Paired (ArR K I H) vs as) (ap : Apart vs as) (r : RemC K I H vs as (m (as ++ ds.map Ar.val)) Q E) : spV K m (vs ++ dvs) H Q E := by
  have hl := Paired.length pr
  have get : ∀ (j : Nat) (d : D), (as ++ ds.map Ar.val)[j]? = some (.own d) → as[j]? = some (.own d) ∧ (vs ++ dvs)[j]? = vs[j]? := fun j d h => by
    by_cases hj : j < as.length
    · rw [List.getElem?_append_left hj] at h
      exact ⟨h, List.getElem?_append_left (by omega)⟩
    · rw [List.getElem?_append_right (by omega), List.getElem?_map, Option.map_eq_some_iff] at h
      obtain ⟨_, _, h⟩ := h
      cases h
  have bak : ∀ (j : Nat) (d : D), as[j]? = some (.own d) → (as ++ ds.map Ar.val)[j]? = some (.own d) ∧ (vs ++ dvs)[j]? = vs[j]? := fun j d h => by
    have hj := (List.getElem?_eq_some_iff.mp h).1
    exact ⟨by rw [List.getElem?_append_left hj]; exact h, List.getElem?_append_left (by omega)⟩
  have mine : ∀ b, Mine (vs ++ dvs) (as ++ ds.map Ar.val) b ↔ Mine vs as b := fun b => ⟨fun ⟨j, d, h1, h2⟩ => by
    obtain ⟨h3, h4⟩ := get j d h1
    exact ⟨j, d, h3, h4 ▸ h2⟩, fun ⟨j, d, h1, h2⟩ => by
    obtain ⟨h3, h4⟩ := bak j d h1
    exact ⟨j, d, h3, h4.trans h2⟩⟩
  have wld : ∀ {I' H' : Hp}, Wld K I H (vs ++ dvs) (as ++ ds.map Ar.val) I' H' → Wld K I H vs as I' H' := fun wl =>
    ⟨wl.le, wl.sub, fun a o e n nt => wl.keep a o e (fun q => n ((mine a).mp q)) nt, wl.dom, fun a e e' => (wl.grow a e e').imp (mine a).mp id, wl.nt, wl.tab⟩
  have pr2 : ∀ {dvs : List V} {ds : List D}, Reps K I dvs ds → Paired (ArR K I H) dvs (ds.map Ar.val) := by
    intro dvs
    induction dvs with
    | nil => intro ds h; cases h; exact .nil
    | cons v r ih => intro ds h; cases h with | cons q t => exact .cons q (ih t)
  have app : ∀ {a c : List V} {b d : List Ar}, Paired (ArR K I H) a b → Paired (ArR K I H) c d → Paired (ArR K I H) (a ++ c) (b ++ d) := fun h1 h2 => paired_app h1 h2
  refine ⟨I, as ++ ds.map Ar.val, le, tb, app pr (pr2 hr), fun i j d d' h1 h2 q => ?_, ?_⟩
  · obtain ⟨g1, g2⟩ := get i d h1
    obtain ⟨g3, g4⟩ := get j d' h2
    exact ap i j d d' g1 g3 (by rw [← g2, ← g4]; exact q)
  · revert r
    generalize m (as ++ ds.map Ar.val) = rc
    intro r
    cases rc with
    | stuck => exact r.elim
    | exn c fs => exact fun I' H' e wl h1 h2 h3 => r I' H' e (wld wl) h1 h2 h3
    | ok rv outs => exact fun I' H' v wl ho rv => r I' H' v (wld wl) (fun j d a h1 h2 => by
        obtain ⟨g1, g2⟩ := bak j d h1
        exact ho j d a g1 (g2.trans h2)) rv
theorem dfl_of {CX : CXT} {n : Nat} {ds : List D} {dvs : List V} {m : Fm} {f : Addr} (hr : ∀ I, Reps K I dvs ds) (hF : ∀ j, j ≤ ds.length → FnR P w K mg base CX k f (fun vs H Q E => vs.length + ds.length = n + j ∧ spV K m (vs ++ dvs.drop j) H Q E)) :
    FnR P w K mg base CX k f (spV K (dflM n ds m)) := by
  intro A outer s H us vs Q E hrm e0 rv h
  obtain ⟨I, as, le, tb, pr, ap, r⟩ := h
  unfold dflM at r
  split at r
  · rename_i hh
    have hl := Paired.length pr
    have r' : RemC K I H vs as (m (as ++ (ds.drop (as.length + ds.length - n)).map Ar.val)) Q E := r
    refine hF (as.length + ds.length - n) (by omega) A outer s H us vs Q E hrm e0 rv ⟨by omega, spV.more ((hr I).drop _) le tb pr ap r'⟩
  · exact r.elim
end
end Vl

set_option Elab.async false
set_option linter.all false
set_option maxRecDepth 100000
set_option maxHeartbeats 2000000
/-! the value layer: calls with keywords; facts of classes -/
namespace Vl
open PySem PySem.Spec PyProof.Rows L2 My
/-- the value at v may be called with n positional values and the keywords ks -/
def KCal (P : Program) (w : World) (K : PySem.W.Frag) (mg : Str → Option Value) (base : Heap) (k : Nat) (v : Addr) (n : Nat) (ks : List Str) (gV : List V → List V → List V) (sp : Sp) : Prop :=
  ∀ (X : Cx) (pins : List (Addr × Obj)) (σ : L2.St) (H : Hp) (s : Shared) (us ws : List Value) (vs zs : List V) (Q : VK) (E : XK), X.prog = P → X.w = w → X.K = K → X.mg = mg → X.base = base →
    Room k X.A → PassesAt (L2.CX X.prog X.w) X σ E → Inv X pins σ H s → Vals vs us → Vals zs ws → vs.length = n → zs.length = ks.length → sp (gV vs zs) H Q E → wpAny (model X.prog X.w) X.A (call (.ref v) us (ks.zip ws)) (EP X pins σ Q) X.xe s
/-- .. by the name x; gD puts the values in the parameters' order -/
structure KCf (P : Program) (w : World) (K : PySem.W.Frag) (mg : Str → Option Value) (base : Heap) (k : Nat) (x : Str) (n : Nat) (ks : List Str) (gD : List D → List D → List D) (m : Fm) : Prop where
  ex : ∃ (v : Addr) (gV : List V → List V → List V), KCal P w K mg base k v n ks gV (spV K m) ∧ mg x = some (.ref v) ∧ PySem.W.keepIn K (.ref v) = true ∧ ∀ I vs ds zs es, Reps K I vs ds → Reps K I zs es → Reps K I (gV vs zs) (gD ds es)
section
variable {P : Program} {w : World} {K : PySem.W.Frag} {mg : Str → Option Value} {base : Heap} {k n : Nat} {v f C : Addr} {fd : FuncData} {ps ks : List Str} {x : Str} {sp : Sp} {g : List Value → List Value → List Value} {gV gV' : List V → List V → List V}
theorem KCal.imp {sp' : Sp} (c : KCal P w K mg base k v n ks gV sp) (h : ∀ vs H Q E, sp' vs H Q E → sp vs H Q E) : KCal P w K mg base k v n ks gV sp' :=
  fun X pins σ H s us ws vs zs Q E e1 e2 e3 e4 e5 hr hx I r rz l1 l2 hs => c X pins σ H s us ws vs zs Q E e1 e2 e3 e4 e5 hr hx I r rz l1 l2 (h _ _ _ _ hs)
theorem KCal.of_fn (F : FnOk P w K mg base (L2.CX P w) k f fd ps sp) (hb : KBn K fd ps n ks g gV) : KCal P w K mg base k f n ks gV sp := by
  rintro X pins σ H s us ws vs zs Q E rfl rfl rfl rfl rfl hr hx I r rz l1 l2 h
  have r2 := hb.rel r rz
  have e1 : us.length = n := r.length.symm.trans l1
  have e2 : ws.length = ks.length := rz.length.symm.trans l2
  refine wpAny_call (codeAny_mono (F.run X.A X.stack s H ⟨us, ks.zip ws⟩ (g us ws) (gV vs zs) Q E hr I.env0 (hb.to s us ws I.kIn e1 e2) r2 h) fun r s' hq => ?_)
  cases r with
  | error e => exact hx pins H s e s' I hq
  | ok fl =>
    cases fl with
    | ret u => exact I.after hq
    | next => exact False.elim hq
    | brk => exact False.elim hq
    | cont => exact False.elim hq
theorem KCal.of_cls (M : Mk K C f) (F : FnOk P w K mg base (L2.CX P w) k f fd ps sp) (hb : KBn K fd ps (n + 1) ks g gV) (hg : ∀ y vs zs, gV (y :: vs) zs = y :: gV' vs zs) : KCal P w K mg base (k + 1) C n ks gV' (spMk C sp) := by
  rintro X pins σ H s us ws vs zs Q E rfl rfl rfl rfl rfl hr hx I r rz l1 l2 h
  have n1 : H (s.heap.objs.size + 1) = none := I.hok.fresh (Nat.le_succ _)
  have n2 : H s.heap.objs.size = none := I.hok.fresh (Nat.le_refl _)
  have ne : s.heap.objs.size ≠ s.heap.objs.size + 1 := Nat.ne_of_lt (Nat.lt_succ_self _)
  have hq := h (s.heap.objs.size + 1) s.heap.objs.size (upd (upd H s.heap.objs.size (.own (s.heap.objs.size + 1))) (s.heap.objs.size + 1) (.ins C s.heap.objs.size [])) ⟨n1⟩ ⟨n2⟩ ne
    ((Xb.new n2).t0 (Xb.new (by rw [upd_ne (Ne.symm ne)]; exact n1))) upd_same (by rw [upd_ne ne, upd_same])
  have I2 := Inv.made (C := C) I
  have r1 : Vals (V.ref (s.heap.objs.size + 1) :: vs) (Value.ref (s.heap.objs.size + 1) :: us) := .cons rfl r
  have r2 := hb.rel r1 rz
  rw [hg] at r2
  have e1 : (Value.ref (s.heap.objs.size + 1) :: us).length = n + 1 := r1.length.symm.trans (congrArg Nat.succ l1)
  have e2 : ws.length = ks.length := rz.length.symm.trans l2
  refine wpAny_call (make_map (f := f) I.kIn M.makes M.init (beq_iff_eq.mp M.fn) (codeAny_mono (F.run _ X.stack _ _ ⟨Value.ref (s.heap.objs.size + 1) :: us, ks.zip ws⟩ (g (Value.ref (s.heap.objs.size + 1) :: us) ws) _ _ E (hr.make C us (ks.zip ws))
    (I2.env0.make C us (ks.zip ws)) (hb.to _ (Value.ref (s.heap.objs.size + 1) :: us) ws I2.kIn e1 e2) r2 hq) fun r s' hq' => ?_))
  cases r with
  | error e => exact hx pins _ _ e s' I2 hq'
  | ok fl =>
    cases fl with
    | ret u =>
      obtain ⟨v, H', I3, rv, ev, q3⟩ := I2.after hq'
      subst ev
      exact ⟨rv, ⟨V.ref (s.heap.objs.size + 1), H', I3, rfl, q3⟩⟩
    | next => exact False.elim hq'
    | brk => exact False.elim hq'
    | cont => exact False.elim hq'
theorem kmk_plain {c : Str} {m : Fm} (M : Mk K (He.ga K c) f) (F : FnOk P w K mg base (L2.CX P w) k f fd ps (spV K m)) (hb : KBn K fd ps (n + 1) ks g gV) (hg : ∀ y vs zs, gV (y :: vs) zs = y :: gV' vs zs) :
    KCal P w K mg base (k + 1) (He.ga K c) n ks gV' (spV K (mkM (.ins c []) m)) :=
  (KCal.of_cls M F hb hg).imp fun vs H Q E h a d H2 ha hd ne x h1 h2 => mk_sp (I2x := H) h ha hd ne x fun I le => ⟨I, id, Le.refl _, fun b u e => x.get0 (le b u e), fun b e e' => (e' e).elim, ⟨d, [], h1, .nil⟩, by
    cases q : I a with
    | none => rfl
    | some u => exact (no_some ha.e (le a u q)).elim⟩
end
section
variable {X : Cx} {W : WX} {k j n : Nat} {x : Str} {sp : Sp} {p pos : Pos} {e : Expr} {es : List Expr} {t tk : TA} {kws : List Keyword} {ks : List Str} {gD : List D → List D → List D} {gV : List V → List V → List V} {m : Fm} {v : Addr} {fs fk : List Ft}
theorem px_kw (c : KCal X.prog X.w X.K X.mg X.base k v n ks gV sp) (hm : X.mg x = some (.ref v)) (kp : PySem.W.keepIn X.K (.ref v) = true) (hr : Room j X.A) (tkx : Takes X W) (hg : Gl X x) (ha : PA X (e :: es) t) (hkw : PK X kws tk) (hk : k ≤ j)
    (hall : (backToKw pos (keywordEach kws X.env)).all (·.1.isSome) = true) (hks : (backToKw pos (keywordEach kws X.env)).filterMap (·.1) = ks) (hdb : (x == ("__debug__" : Str)) = false)
    (he : starEach (e :: es) X.env = (false, eval e X.env) :: starEach es X.env) (hpl : ((backTo pos (starEach (e :: es) X.env)).any (·.1) || (backToKw pos (keywordEach kws X.env)).any (·.1.isNone)) = false) :
    PE X (.Call (.Name x p) (e :: es) kws pos) (fun σ H Q => t σ H fun vs H1 => tk σ H1 fun zs H2 => vs.length = n ∧ zs.length = ks.length ∧ sp (gV vs zs) H2 Q (WE W σ)) := by
  refine ⟨fun pins s σ H Q I h => ?_⟩
  refine wpAny_Call_Name_kw (ld_glob I hg hm ?_ hdb)
  refine PySem.W.callWith_KW (h₀ := X.base) I.ok.mod.kin kp hall (thn (ha.run pos pins s σ H _ I h) fun us s1 ⟨vs, H1, I1, r, q⟩ => ?_) hpl he
  refine thn (hkw.run pos pins s1 σ H1 _ I1 q) fun ws s2 ⟨zs, H2, I2, rz, l1, l2, q2⟩ => ⟨I2.kIn, ?_⟩
  rw [hks]
  exact c X pins σ H2 s2 us ws vs zs Q (WE W σ) rfl rfl rfl rfl rfl (hr.mono hk) (passAt tkx σ) I2 r rz l1 l2 q2
theorem px_kw0 (c : KCal X.prog X.w X.K X.mg X.base k v 0 ks gV sp) (hm : X.mg x = some (.ref v)) (kp : PySem.W.keepIn X.K (.ref v) = true) (hr : Room j X.A) (tkx : Takes X W) (hg : Gl X x) (hkw : PK X kws tk) (hk : k ≤ j)
    (hall : (backToKw pos (keywordEach kws X.env)).all (·.1.isSome) = true) (hks : (backToKw pos (keywordEach kws X.env)).filterMap (·.1) = ks) (hdb : (x == ("__debug__" : Str)) = false)
    (hpl : ((backTo pos (starEach [] X.env)).any (·.1) || (backToKw pos (keywordEach kws X.env)).any (·.1.isNone)) = false) :
    PE X (.Call (.Name x p) [] kws pos) (fun σ H Q => tk σ H fun zs H2 => zs.length = ks.length ∧ sp (gV [] zs) H2 Q (WE W σ)) := by
  refine ⟨fun pins s σ H Q I h => ?_⟩
  refine wpAny_Call_Name_kw (ld_glob I hg hm ?_ hdb)
  refine PySem.W.callWith_KW0 (h₀ := X.base) I.ok.mod.kin kp hall ?_ hpl
  refine thn (hkw.run pos pins s σ H _ I h) fun ws s2 ⟨zs, H2, I2, rz, l2, q2⟩ => ⟨I2.kIn, ?_⟩
  rw [hks]
  exact c X pins σ H2 s2 [] ws [] zs Q (WE W σ) rfl rfl rfl rfl rfl (hr.mono hk) (passAt tkx σ) I2 .nil rz rfl l2 q2
structure VAK (X : Cx) (W : WX) (kws : List Keyword) (fs : List Ft) : Prop where
  pk : PK X kws (rdA X.K W fs)
theorem pk_imp {kws : List Keyword} {t t' : TA} (h : PK X kws t) (k : ∀ σ H Q, t' σ H Q → t σ H Q) : PK X kws t' := ⟨fun pos pins s σ H Q I hw => h.run pos pins s σ H Q I (k σ H Q hw)⟩
theorem vk_nil : VAK X W [] [] := ⟨⟨fun pos pins s σ H Q I ⟨J, g, o, r⟩ => pk_nil.run pos pins s σ H Q I (r J H [] o (Go.refl _) .nil)⟩⟩
theorem vk_cons {nm : Option Str} {e : Expr} {kpos : Pos} {kws : List Keyword} {f : Ft} {fs : List Ft} (he : VE X W e f) (hs : VAK X W kws fs) : VAK X W (⟨nm, e, kpos⟩ :: kws) (f :: fs) := by
  refine ⟨pk_imp (pk_cons he.pe hs.pk) fun σ H Q ⟨I, g, o, r⟩ => ?_⟩
  refine ⟨I, g, o, Rem.settle ?_⟩
  have nf : ∀ x g', settle (f g) = .ok x g' → ∀ d, x ≠ .fr d := fun x g' h => settle_nofr h
  have r' : Rem X.K W (RvsR X.K) ⟨I, σ, H, g⟩ ((settle (f g)).bind fun x g1 => (evA fs g1).bind fun xs g2 => .ok (x :: xs) g2) Q := r
  revert nf r'
  generalize settle (f g) = sr
  intro nf r'
  cases sr with
  | stuck => exact r'
  | exn c fs' g' => exact r'
  | ok x g1 =>
    intro I1 H1 v o1 y1 rx
    have r1 : Rem X.K W (RvsR X.K) ⟨I1, σ, H1, g1⟩ ((evA fs g1).bind fun xs g2 => .ok (x :: xs) g2) Q := Rem.go (c0 := ⟨I, σ, H, g⟩) (c1 := ⟨I1, σ, H1, g1⟩) y1 rfl r'
    refine ⟨I1, g1, o1, (Rem.bind (R := RvsR X.K) r1).mono ?_⟩
    rintro vs H2 ⟨I2, g2, xs, o2, y2, rxs, r2⟩
    exact r2 I2 H2 (v :: vs) o2 (Go.refl _) (.cons ⟨_, RvR.on (c1 := ⟨I1, σ, H1, g1⟩) o2 rfl y2 rx, nf x g1 rfl⟩ rxs)
def kwK (gD : List D → List D → List D) (m : Fm) (n : Nat) (ks : Nat) (xs : List RV) (g : Sg) : Res RV := if xs.length = n + ks then (match frzA xs g with
  | some (ds, g3) => callK m ((gD (ds.take n) (ds.drop n)).map RV.val) g3
  | none => .stuck) else .stuck
/-- f(e, .., k = v, ..): n positional, q keywords -/
def callKw (gD : List D → List D → List D) (m : Fm) (n q : Nat) (fs fk : List Ft) : Ft := fun g => (evA fs g).bind fun xs g1 => if xs.length = n then (evA fk g1).bind fun ys g2 => kwK gD m n q (xs ++ ys) g2 else .stuck
theorem rvs_app {c0 c : Cfg} : ∀ {a b : List V} {x y : List RV}, RvsR X.K c0 c a x → RvsR X.K c0 c b y → RvsR X.K c0 c (a ++ b) (x ++ y)
  | _, _, _, _, .nil, h => h
  | _, _, _, _, .cons h t, q => .cons h (rvs_app t q)
theorem rvs_val {c : Cfg} : ∀ {vs : List V} {ds : List D}, Reps X.K c.I vs ds → RvsR X.K c c vs (ds.map RV.val)
  | _, _, .nil => .nil
  | _, _, .cons h t => .cons ⟨c, h, fun d z => nomatch z⟩ (rvs_val t)
theorem kw_ok {c0 : Cfg} {I H : Hp} {σ : L2.St} {g : Sg} {xs ys : List RV} {vs zs : List V} {Q : VK} (o : Ok X.K ⟨I, σ, H, g⟩) (rr : RvsR X.K c0 ⟨I, σ, H, g⟩ vs xs) (rz : RvsR X.K c0 ⟨I, σ, H, g⟩ zs ys) (hn : xs.length = n)
    (hG : ∀ I vs ds zs es, Reps X.K I vs ds → Reps X.K I zs es → Reps X.K I (gV vs zs) (gD ds es)) (h : Rem X.K W (RvR X.K) ⟨I, σ, H, g⟩ (kwK gD m n q (xs ++ ys) g) Q) : vs.length = n ∧ zs.length = q ∧ spV X.K m (gV vs zs) H Q (WE W σ) := by
  have l1 : vs.length = n := (Paired.length rr).trans hn
  have l2 := Paired.length rz
  unfold kwK at h
  split at h
  · rename_i hl
    rw [List.length_append] at hl
    split at h
    · rename_i ds g3 e
      obtain ⟨I3, o3, y3, r3⟩ := frzA_ok (c0 := c0) o (rvs_app rr rz) e
      have h3 := Rem.go (c0 := ⟨I, σ, H, g⟩) (c1 := ⟨I3, σ, H, g3⟩) y3 rfl h
      refine ⟨l1, by omega, call_sp (c0 := ⟨I3, σ, H, g3⟩) o3 (rvs_val (hG I3 _ _ _ _ (?_ : Reps X.K I3 vs (ds.take n)) ?_)) h3⟩
      · have := r3.take n
        rwa [List.take_append_of_le_length (by omega), List.take_of_length_le (by omega)] at this
      · have := r3.drop n
        rwa [List.drop_append_of_le_length (by omega), List.drop_of_length_le (by omega), List.nil_append] at this
    · exact h.elim
  · exact h.elim
theorem ve_kw (c : KCf X.prog X.w X.K X.mg X.base k x n ks gD m) (hr : Room j X.A) (tkx : Takes X W) (hg : Gl X x) (ha : VA X W (e :: es) fs) (hkw : VAK X W kws fk) (hk : k ≤ j := by decide)
    (hall : (backToKw pos (keywordEach kws X.env)).all (·.1.isSome) = true := by rfl) (hks : (backToKw pos (keywordEach kws X.env)).filterMap (·.1) = ks := by rfl) (hdb : (x == ("__debug__" : Str)) = false := by decide)
    (he : starEach (e :: es) X.env = (false, eval e X.env) :: starEach es X.env := by rfl) (hpl : ((backTo pos (starEach (e :: es) X.env)).any (·.1) || (backToKw pos (keywordEach kws X.env)).any (·.1.isNone)) = false := by rfl) :
    VE X W (.Call (.Name x p) (e :: es) kws pos) (callKw gD m n ks.length fs fk) := by
  obtain ⟨v, gV, c, hm, kp, hG⟩ := c.ex
  refine ⟨pe_imp (px_kw c hm kp hr tkx hg ha.pa hkw.pk hk hall hks hdb he hpl) fun σ H Q ⟨I, g, o, r⟩ => ?_⟩
  refine ⟨I, g, o, (Rem.bind (R := RvsR X.K) r).mono ?_⟩
  rintro vs H1 ⟨I1, g1, rs, o1, y1, rr, r1⟩
  dsimp only at r1
  split at r1
  · rename_i hn
    refine ⟨I1, g1, o1, (Rem.bind (R := RvsR X.K) r1).mono ?_⟩
    rintro zs H2 ⟨I2, g2, ys, o2, y2, rz, r2⟩
    exact kw_ok (c0 := ⟨I1, σ, H1, g1⟩) o2 (RvsR.on (c0 := ⟨I1, σ, H1, g1⟩) (c1 := ⟨I1, σ, H1, g1⟩) o2 rfl y2 rr) rz hn hG r2
  · exact r1.elim
theorem ve_kw0 (c : KCf X.prog X.w X.K X.mg X.base k x 0 ks gD m) (hr : Room j X.A) (tkx : Takes X W) (hg : Gl X x) (hkw : VAK X W kws fk) (hk : k ≤ j := by decide)
    (hall : (backToKw pos (keywordEach kws X.env)).all (·.1.isSome) = true := by rfl) (hks : (backToKw pos (keywordEach kws X.env)).filterMap (·.1) = ks := by rfl) (hdb : (x == ("__debug__" : Str)) = false := by decide)
    (hpl : ((backTo pos (starEach [] X.env)).any (·.1) || (backToKw pos (keywordEach kws X.env)).any (·.1.isNone)) = false := by rfl) :
    VE X W (.Call (.Name x p) [] kws pos) (callKw gD m 0 ks.length [] fk) := by
  obtain ⟨v, gV, c, hm, kp, hG⟩ := c.ex
  refine ⟨pe_imp (px_kw0 c hm kp hr tkx hg hkw.pk hk hall hks hdb hpl) fun σ H Q ⟨I, g, o, r⟩ => ?_⟩
  have r : Rem X.K W (RvR X.K) ⟨I, σ, H, g⟩ ((evA fk g).bind fun ys g2 => kwK gD m 0 ks.length ([] ++ ys) g2) Q := r
  refine ⟨I, g, o, (Rem.bind (R := RvsR X.K) r).mono ?_⟩
  rintro zs H2 ⟨I2, g2, ys, o2, y2, rz, r2⟩
  exact (kw_ok (c0 := ⟨I, σ, H, g⟩) o2 .nil rz rfl hG r2).2
end
/-! ### facts of classes -/
theorem FldK.nil {K : PySem.W.Frag} {f : Str} : FldK K f [] := ⟨fun c o h => nomatch h⟩
theorem FldK.pl {K : PySem.W.Frag} {f c : Str} {ts : List (Str × Option Nat)} (h : Cls K (He.ga K c)) (n : NoAttr K (He.ga K c) f) (t : FldK K f ts) : FldK K f ((c, none) :: ts) := ⟨fun c' o e => by
  rw [List.lookup_cons] at e
  split at e
  · rename_i q
    cases e
    rw [eq_of_beq q]
    exact ⟨h, n⟩
  · exact t.ex c' o e⟩
theorem FldK.sl {K : PySem.W.Frag} {f c : Str} {i : Nat} {ts : List (Str × Option Nat)} (h : SlX.SCls K (He.ga K c)) (n : ∃ q, SlX.Slot1 K (He.ga K c) f q i) (t : FldK K f ts) : FldK K f ((c, some i) :: ts) := ⟨fun c' o e => by
  rw [List.lookup_cons] at e
  split at e
  · rename_i q
    cases e
    rw [eq_of_beq q]
    exact ⟨h, n⟩
  · exact t.ex c' o e⟩
theorem MethK.nil {P : Program} {w : World} {K : PySem.W.Frag} {mg : Str → Option Value} {base : Heap} {j : Nat} {nm : Str} : MethK P w K mg base j nm [] := ⟨fun c b m h => nomatch h⟩
theorem MethK.pl {P : Program} {w : World} {K : PySem.W.Frag} {mg : Str → Option Value} {base : Heap} {j k : Nat} {nm c : Str} {m : Fm} {ms : List (Str × Bool × Fm)} {g : Addr} (hk : k ≤ j) (hc : Callee P w K mg base k g (spV K m)) (hm : Meth K (He.ga K c) nm g) (h : Cls K (He.ga K c)) (t : MethK P w K mg base j nm ms) :
    MethK P w K mg base j nm ((c, false, m) :: ms) := ⟨fun c' b m' e => by
  rw [List.lookup_cons] at e
  split at e
  · rename_i q
    cases e
    rw [eq_of_beq q]
    exact ⟨g, k, hk, hc, hm, fun _ => h, fun z => nomatch z⟩
  · exact t.ex c' b m' e⟩
theorem MethK.sl {P : Program} {w : World} {K : PySem.W.Frag} {mg : Str → Option Value} {base : Heap} {j k : Nat} {nm c : Str} {m : Fm} {ms : List (Str × Bool × Fm)} {g : Addr} (hk : k ≤ j) (hc : Callee P w K mg base k g (spV K m)) (hm : Meth K (He.ga K c) nm g) (h : SlX.SCls K (He.ga K c)) (t : MethK P w K mg base j nm ms) :
    MethK P w K mg base j nm ((c, true, m) :: ms) := ⟨fun c' b m' e => by
  rw [List.lookup_cons] at e
  split at e
  · rename_i q
    cases e
    rw [eq_of_beq q]
    exact ⟨g, k, hk, hc, hm, fun z => (nomatch z), fun _ => h⟩
  · exact t.ex c' b m' e⟩
theorem MethK.up {P : Program} {w : World} {K : PySem.W.Frag} {mg : Str → Option Value} {base : Heap} {i j : Nat} {nm : Str} {ms : List (Str × Bool × Fm)} (h : MethK P w K mg base i nm ms) (hj : i ≤ j) : MethK P w K mg base j nm ms :=
  ⟨fun c b m e => let ⟨g, k, h1, h2⟩ := h.ex c b m e; ⟨g, k, Nat.le_trans h1 hj, h2⟩⟩
def sclsB (K : PySem.W.Frag) (x : Str) : Bool := PySem.W.plainGet K (He.ga K x) Str.empty && (PySem.W.isClsIn K (He.ga K x) && (PySem.W.plainOver K (He.ga K x) && He.eqO (PySem.W.findIn K (.ref (He.ga K x)) "__setattr__") (some (some (.builtin "object.__setattr__")))))
theorem scls_ok {K : PySem.W.Frag} {x : Str} (c : sclsB K x = true) : SlX.SCls K (He.ga K x) := by
  unfold sclsB at c
  simp only [Bool.and_eq_true] at c
  exact ⟨c.1, c.2.1, c.2.2.1, He.eqO_ok c.2.2.2⟩
def slotB (K : PySem.W.Frag) (x f : Str) (i : Nat) : Bool := match PySem.W.findIn K (.ref (He.ga K x)) f with
  | some (some (.ref p)) => He.eqO (PySem.W.specialIn K (.ref p) "__get__") (some (some (.builtin "member_descriptor.__get__"))) && (decide (PySem.W.takesIn K (.ref p) = some true) && (decide (PySem.W.typeIn K (.ref p) = some (.type "member_descriptor")) &&
    (decide (PySem.W.slotIn K p (He.ga K x) = some i) && decide (i < 1000))))
  | _ => false
theorem slot_ok {K : PySem.W.Frag} {x f : Str} {i : Nat} (c : slotB K x f i = true) : ∃ q, SlX.Slot1 K (He.ga K x) f q i := by
  unfold slotB at c
  split at c
  · rename_i p e
    simp only [Bool.and_eq_true, decide_eq_true_eq] at c
    exact ⟨p, e, He.eqO_ok c.1, c.2.1, c.2.2.1, c.2.2.2.1, c.2.2.2.2⟩
  · cases c
end Vl

set_option Elab.async false
set_option linter.all false
set_option maxRecDepth 100000
set_option maxHeartbeats 2000000
/-! the value layer: text times int, list times int -/
namespace Vl
open PySem PySem.Spec PyProof.Rows L2 My
section
variable {X : Cx} {W : WX}
/-- a text, n times -/
def repS (x : Str) (n : Int) : Str := if n < 1 then Str.empty else if (n == 1 || x.length == 0) = true then x else ⟨(List.replicate n.toNat x.cps).foldl (· ++ ·) #[]⟩
theorem op_mulS : OpR X (binaryOp .Mult) (fun x y H Q => ∃ z n, x = V.str z ∧ y = V.int n ∧ -1000 ≤ n ∧ n ≤ 1000 ∧ z.length ≤ 1000 ∧ Q (.str (repS z n)) H) := by
  intro pins s σ H x y v u Q I rx ry ⟨z, n, ex, ey, h1, h2, h3, q⟩
  subst ex ey
  obtain ⟨t, rfl⟩ := (show ∃ t, v = Value.str z t from rx)
  obtain ⟨t', rfl⟩ := (show ∃ t, u = Value.int n t from ry)
  refine PySem.P.mul_str (by
      rw [decide_eq_false (by omega : ¬ n < -(2 ^ 63 : Int)), decide_eq_false (by omega : ¬ n ≥ 2 ^ 63)]; rfl) (fun k1 _ => ?_) (fun k1 _ => ?_) ?_
  · have : (9223372036854775 : Int) ≤ (2 ^ 63 - 1) / n := by
      refine (Int.le_ediv_iff_mul_le (by omega)).mpr ?_
      omega
    omega
  · have : z.length * n.toNat ≤ 1000 * 1000 := Nat.mul_le_mul h3 (by omega)
    unfold PySem.Builtin.Str.tooLong
    have h4 := sizeLine_eq
    first | exact decide_eq_false (by omega) | (simp; omega)
  · unfold repS at q
    split
    · rename_i k
      rw [if_pos k] at q
      exact ⟨by decide, V.str Str.empty, H, I.tok _, ⟨_, rfl⟩, q⟩
    · rename_i k
      rw [if_neg k] at q
      split
      · rename_i k2
        rw [if_pos k2] at q
        exact ⟨V.str z, H, I, ⟨_, rfl⟩, q⟩
      · rename_i k2
        rw [if_neg k2] at q
        refine ⟨?_, V.str _, H, I.tok _, ⟨_, rfl⟩, q⟩
        have e : ∀ (n : Nat) (a : Array Nat), ((List.replicate n z.cps).foldl (· ++ ·) a).size = a.size + n * z.cps.size := by
          intro n
          induction n with
          | zero => intro a; simp
          | succ n ih => intro a; rw [List.replicate_succ, List.foldl_cons, ih, Array.size_append, Nat.succ_mul]; omega
        show ((List.replicate n.toNat z.cps).foldl (· ++ ·) #[]).size ≤ _
        rw [e]
        have : n.toNat * z.cps.size ≤ 1000 * 1000 := Nat.mul_le_mul (by omega) h3
        have h4 := sizeLine_eq
        simp
        omega
def mulQ : D → D → Option RV
  | .str z, .int n => if -1000 ≤ n ∧ n ≤ 1000 ∧ z.length ≤ 1000 then vS (repS z n) else none
  | a, b => mulP a b
theorem p_mulQ : P2 X (binaryOp .Mult) mulQ := by
  obtain ⟨r, h1, h2⟩ := (p_mul (X := X)).ex
  refine ⟨_, h1.or op_mulS, fun c v u a b Q o ra rb k => ?_⟩
  unfold mulQ at k
  split at k
  · rename_i z n
    split at k
    · rename_i hh
      rw [ra.str, rb.int]
      exact .inr ⟨z, n, rfl, rfl, hh.1, hh.2.1, hh.2.2, k.now o (.str _)⟩
    · exact k.elim
  · exact .inl (h2 c v u _ _ Q o ra rb k)
end
end Vl
namespace Vl
open PySem PySem.Spec PyProof.Rows L2 My
/-! ### the order of parameters -/
def pickL {α : Type} (idx : List Nat) (l : List α) : List α := idx.filterMap fun i => l[i]?
theorem vals_get : ∀ {vs : List V} {us : List Value} (i : Nat), Vals vs us → (vs[i]? = none ∧ us[i]? = none) ∨ ∃ v u, vs[i]? = some v ∧ us[i]? = some u ∧ RelV v u
  | _, _, i, .nil => .inl ⟨by simp, by simp⟩
  | _, _, 0, .cons h _ => .inr ⟨_, _, rfl, rfl, h⟩
  | _, _, i + 1, .cons _ t => by simpa using vals_get i t
theorem vals_pick {vs : List V} {us : List Value} (r : Vals vs us) : ∀ idx : List Nat, Vals (pickL idx vs) (pickL idx us)
  | [] => .nil
  | i :: l => by
    unfold pickL
    rw [List.filterMap_cons, List.filterMap_cons]
    rcases vals_get i r with ⟨h1, h2⟩ | ⟨v, u, h1, h2, h3⟩
    · rw [h1, h2]; exact vals_pick r l
    · rw [h1, h2]; exact .cons h3 (vals_pick r l)
theorem reps_get {K : PySem.W.Frag} {I : Hp} : ∀ {vs : List V} {us : List D} (i : Nat), Reps K I vs us → (vs[i]? = none ∧ us[i]? = none) ∨ ∃ v u, vs[i]? = some v ∧ us[i]? = some u ∧ Rep K I v u
  | _, _, i, .nil => .inl ⟨by simp, by simp⟩
  | _, _, 0, .cons h _ => .inr ⟨_, _, rfl, rfl, h⟩
  | _, _, i + 1, .cons _ t => by simpa using reps_get i t
theorem reps_pick {K : PySem.W.Frag} {I : Hp} {vs : List V} {us : List D} (r : Reps K I vs us) : ∀ idx : List Nat, Reps K I (pickL idx vs) (pickL idx us)
  | [] => .nil
  | i :: l => by
    unfold pickL
    rw [List.filterMap_cons, List.filterMap_cons]
    rcases reps_get i r with ⟨h1, h2⟩ | ⟨v, u, h1, h2, h3⟩
    · rw [h1, h2]; exact reps_pick r l
    · rw [h1, h2]; exact .cons h3 (reps_pick r l)
section
variable {K : PySem.W.Frag} {x qual : Str} {params : Arguments} {body : List Stmt} {scope : Scope} {f : Addr} {fd : FuncData} {ps : List Str}
/-- keywords, no defaults at all -/
theorem FunD.kbindsN (F : FunD K x qual params body scope [] [] f fd) (n : Nat) (ks : List Str) (g : {α : Type} → List α → List α → List α)
    (hrel : ∀ {vs zs : List V} {us ws : List Value}, Vals vs us → Vals zs ws → Vals (g vs zs) (g us ws))
    (h : ∀ (kV doc pm : Value) (an : Option Addr) (cdv ct : Value) (us ws : List Value), us.length = n → ws.length = ks.length → bindArgs (PySem.W.fnOf x qual params body scope .none kV doc pm an cdv ct) ⟨us, ks.zip ws⟩ = pure (ps.zip (g us ws))) :
    KBn K fd ps n ks (fun us ws => g us ws) (fun vs zs => g vs zs) := by
  obtain ⟨oc, od, dV, kV, doc, pm, an, cdv, ct, osl, rfl, lk, hcd, hD, hK⟩ := F.ex
  rcases hD with ⟨_, rfl⟩ | ⟨e, _⟩
  · exact ⟨fun s us ws X l1 l2 => .of_eq (h kV doc pm an cdv ct us ws l1 l2), fun r1 r2 => hrel r1 r2⟩
  · exact absurd rfl e
end
end Vl

set_option Elab.async false
set_option linter.all false
set_option maxRecDepth 100000
set_option maxHeartbeats 2000000
/-! the value layer: zip of a list and a tuple -/
namespace Vl
open PySem PySem.Spec PyProof.Rows L2 My
/-- the list xs at a and the tuple ys at b, item by item -/
def ItzM (K : PySem.W.Frag) (a b : Addr) (xs ys : List V) : It :=
  ⟨fun i H => SqL K H a xs ∧ SqT K H b ys ∧ i < xs.length ∧ i < ys.length,
    fun i H v H' => ∃ T x y, v = .ref T ∧ H T = none ∧ H' = upd H T (.tup [x, y]) ∧ xs[i]? = some x ∧ ys[i]? = some y,
    fun i H => SqL K H a xs ∧ SqT K H b ys ∧ (xs.length ≤ i ∨ ys.length ≤ i)⟩
/-- the five new cells from n on, behind i turns -/
def ZipSt (a b : Addr) (n m1 m2 : Nat) (i : Nat) (h : Heap) : Prop :=
  IsZip h (n + 4) (n + 2) (n + 3) .none ∧ IsTupOf2 h (n + 2) (.ref n) (.ref (n + 1)) ∧ (∃ x y, IsTupOf2 h (n + 3) x y) ∧ h.IsListIter n a i ∧ h.IsTupleIter (n + 1) b i ∧ i ≤ m1 ∧ i ≤ m2
def zipFp (n : Nat) : List Addr := [n, n + 1, n + 2, n + 3, n + 4]
theorem zipFp_mem {n c : Nat} : c ∈ zipFp n ↔ n ≤ c ∧ c ≤ n + 4 := by
  unfold zipFp
  simp only [List.mem_cons, List.not_mem_nil, or_false]
  omega
theorem nadd {n i j : Nat} (h : i ≠ j) : n + i ≠ n + j := by omega
theorem nlt {n a j : Nat} (h : a < n) : n + j ≠ a := by omega
theorem nbig {n m j : Nat} (h : n + 4 < m) (hj : j ≤ 4) : m ≠ n + j := by omega
theorem nex {c n : Nat} (h : n ≤ c) (h' : c ≤ n + 4) : ∃ j, c = n + j ∧ j ≤ 4 := ⟨c - n, by omega, by omega⟩
theorem zip_sep {n a b : Nat} (ha : a < n) (hb : b < n) : ZipSep2 (n + 4) (n + 2) (n + 3) n (n + 1) [n, a] [n + 1, b] := by
  have ni : ∀ {c x y : Nat}, c ≠ x → c ≠ y → c ∉ [x, y] := fun h1 h2 q => by
    simp only [List.mem_cons, List.not_mem_nil, or_false] at q
    exact q.elim h1 h2
  exact ⟨nadd (by decide), nadd (by decide), nadd (by decide), nadd (j := 0) (by decide), by simp, ni (nadd (j := 0) (by decide)) (nlt ha), ni (nadd (j := 0) (by decide)) (nlt ha), nadd (by decide), by simp, ni (nadd (by decide)) (nlt hb), ni (nadd (by decide)) (nlt hb),
    ni (nadd (i := 0) (by decide)) (nlt (j := 0) hb), ni (nadd (j := 0) (by decide)) (nlt ha)⟩
theorem turn_zipM {P : Program} {w : World} {K : PySem.W.Frag} {elts : List Expr} {kk : Nat} {tpos : Pos} {n a b : Nat} {xs ys : List V} (ha : a < n) (hb : b < n) :
    Turn P w K (.Tuple elts kk tpos) (ItzM K a b xs ys) (zipFp n) (n + 4) (ZipSt a b n xs.length ys.length) where
  mem := zipFp_mem.mpr ⟨by omega, by omega⟩
  obj := by
    rintro i h ⟨hz, hI, ⟨x, y, hO⟩, ⟨o1, e1, _, d1⟩, ⟨o2, e2, _, d2⟩, _⟩ c hc
    obtain ⟨h1, h2⟩ := zipFp_mem.mp hc
    obtain ⟨j, rfl, h2⟩ := nex h1 h2
    match j, h2 with
    | 0, _ => exact ⟨o1, e1, fun v q => by rw [d1] at q; cases q⟩
    | 1, _ => exact ⟨o2, e2, fun v q => by rw [d2] at q; cases q⟩
    | 2, _ => exact ⟨_, hI, fun v q => nomatch q⟩
    | 3, _ => exact ⟨_, hO, fun v q => nomatch q⟩
    | 4, _ => exact ⟨_, hz, fun v q => nomatch q⟩
    | j + 5, h => exact absurd h (by omega)
  keep := by
    rintro i h h' ⟨hz, hI, ⟨x, y, hO⟩, h1, h2, l1, l2⟩ k
    have kk : ∀ j, j ≤ 4 → ∀ o, h.get? (n + j) = some o → h'.get? (n + j) = some o := fun j hj => k (n + j) (zipFp_mem.mpr ⟨Nat.le_add_right _ _, Nat.add_le_add_left hj _⟩)
    exact ⟨kk 4 (by decide) _ hz, kk 2 (by decide) _ hI, ⟨x, y, kk 3 (by decide) _ hO⟩, h1.at fun o q => kk 0 (by decide) o q, h2.at fun o q => kk 1 (by decide) o q, l1, l2⟩
  item := by
    rintro X rfl rfl rfl hc i pins s σ H E I hf ⟨hz, hI, ⟨x0, y0, hO⟩, h1, h2, l1, l2⟩ ⟨hx, hy, g1, g2⟩
    obtain ⟨us, ru, pu, _⟩ := I.list hx
    obtain ⟨ws, rw_, pw, _⟩ := I.tuple hy
    have hh : X.A.in1.handled = none := I.ok.hd hc
    have e1 : us.toArray.size = xs.length := ru.length.symm
    have e2 : ws.toArray.size = ys.length := rw_.length.symm
    have big : n + 4 < s.heap.objs.size := Heap.lt_size (a := n + 4) hz
    refine wpAny_pyNext_zipD2_item (zip_sep ha hb) (Draws.list hh n a (Nat.ne_of_lt ha) us.toArray) (Draws.tuple hh (n + 1) b (fun e => nlt (j := 1) hb e.symm) ws.toArray) hz hI hO ⟨h1, pu.isList⟩ ⟨h2, pw⟩ (by omega) (by omega) fun u1 u2 h' tk q1 q2 z' O' s1 s2 hT hsz hk => ?_
    obtain ⟨x, ex⟩ : ∃ x, xs[i]? = some x := ⟨_, List.getElem?_eq_getElem g1⟩
    obtain ⟨y, ey⟩ : ∃ y, ys[i]? = some y := ⟨_, List.getElem?_eq_getElem g2⟩
    obtain ⟨v1, f1, r1⟩ := ru.get ex
    obtain ⟨v2, f2, r2⟩ := rw_.get ey
    have q1' : us[i]? = some u1 := by simpa using q1
    have q2' : ws[i]? = some u2 := by simpa using q2
    rw [f1] at q1'
    rw [f2] at q2'
    cases q1'
    cases q2'
    refine ⟨_, rfl, wpAny_letOwnedTupleGo_zip (s := { s with heap := h', toks := tk }) z' fun h2' z2 sb => ?_⟩
    have old : ∀ c o, c ∉ zipFp n → s.heap.get? c = some o → h2'.get? c = some o := fun c o nc q => by
      have nz : ∀ j, j ≤ 4 → c ≠ n + j := fun j hj e => nc (by rw [e]; exact zipFp_mem.mpr ⟨Nat.le_add_right _ _, Nat.add_le_add_left hj _⟩)
      exact (sb.2 c (nz 4 (by decide))).trans (hk c o (nz 4 (by decide)) (nz 3 (by decide)) (nz 0 (by decide)) (nz 1 (by decide)) q)
    have hT2 : h2'.get? s.heap.objs.size = some { cls := .type "tuple", data := .seq #[u1, u2] } := (sb.2 _ (nbig big (by decide))).trans hT
    have fresh : H s.heap.objs.size = none := I.hok.fresh (Nat.le_refl _)
    have I1 : Inv X pins σ (upd H s.heap.objs.size (.tup [x, y])) { s with heap := h2', toks := tk } :=
      I.turnedNew (ch := zipFp n) old hf (Nat.le_refl _) ⟨by show 2 ≤ sizeLine; decide, [u1, u2], .cons r1 (.cons r2 .nil), ⟨_, hT2, rfl, _, rfl⟩⟩
    have ne4 : ∀ c o, c ≠ n + 4 → h'.get? c = some o → h2'.get? c = some o := fun c o nc q => (sb.2 c nc).trans q
    refine ⟨.ref s.heap.objs.size, _, I1, rfl, ⟨_, x, y, rfl, fresh, rfl, ex, ey⟩, ⟨z2, ne4 _ _ (nadd (by decide)) ?_, ⟨u1, u2, ne4 _ _ (nadd (by decide)) O'⟩, s1.1.at fun o q => ne4 _ o (nadd (i := 0) (by decide)) q, s2.1.at fun o q => ne4 _ o (nadd (by decide)) q, g1, g2⟩, fun c hcm => ?_⟩
    · exact hk _ _ (nadd (by decide)) (nadd (by decide)) (nadd (j := 0) (by decide)) (nadd (by decide)) hI
    · have hcm' := zipFp_mem.mp hcm
      obtain ⟨j, rfl, hj⟩ := nex hcm'.1 hcm'.2
      rw [upd_ne (fun e => nbig big hj e.symm)]
      exact (hf _ hcm).1
  done := by
    rintro X rfl rfl rfl hc i pins s σ H E I hf ⟨hz, hI, ⟨x0, y0, hO⟩, h1, h2, l1, l2⟩ ⟨hx, hy, hend⟩
    obtain ⟨us, ru, pu, _⟩ := I.list hx
    obtain ⟨ws, rw_, pw, _⟩ := I.tuple hy
    have hh : X.A.in1.handled = none := I.ok.hd hc
    have e1 : us.toArray.size = xs.length := ru.length.symm
    have e2 : ws.toArray.size = ys.length := rw_.length.symm
    refine wpAny_pyNext_zipD2_end (zip_sep ha hb) (Draws.list hh n a (Nat.ne_of_lt ha) us.toArray) (Draws.tuple hh (n + 1) b (fun e => nlt (j := 1) hb e.symm) ws.toArray) hz hI hO ⟨h1, pu.isList⟩ ⟨h2, pw⟩ (by omega) (by omega) (by omega) fun h' tk hk => ?_
    exact ⟨rfl, I.turnedL (ch := zipFp n) (fun c o nc q => by
      have nz : ∀ j, j ≤ 4 → c ≠ n + j := fun j hj e => nc (by rw [e]; exact zipFp_mem.mpr ⟨Nat.le_add_right _ _, Nat.add_le_add_left hj _⟩)
      exact hk c o (nz 4 (by decide)) (nz 3 (by decide)) (nz 0 (by decide)) (nz 1 (by decide)) q) hf⟩
  self := fun A i s Q E st h => wpAny_pyIter_zip st.1 h
theorem pi_zipM {X : Cx} {e e2 : Expr} {ta : TA} {p pos tpos : Pos} {elts : List Expr} {kk : Nat} (hg : Gl X "zip") (hm : X.mg "zip" = none) (ha : PA X [e, e2] ta)
    (hs : starEach [e, e2] X.env = (false, eval e X.env) :: starEach [e2] X.env := by rfl) (hpl : (backTo pos (starEach [e2] X.env)).any (·.1) = false := by rfl) :
    PI X (.Tuple elts kk tpos) (.Call (.Name "zip" p) [e, e2] [] pos) (fun σ H R => ta σ H fun vs H1 => ∃ a b xs ys, vs = [.ref a, .ref b] ∧ SqL X.K H1 a xs ∧ SqT X.K H1 b ys ∧ R (ItzM X.K a b xs ys) H1) := by
  refine ⟨fun pins s σ H R I h => ?_⟩
  refine Call_ (ld_blt I hg hm PyProof.Rows.boot_zip (PyProof.Rows.callWith_type1 (thn (ha.run pos pins s σ H _ I h) fun us s1 ⟨vs, H1, I1, r1, a, b, xs, ys, ex, hx, hy, q⟩ => ?_) hs hpl))
  subst ex
  obtain ⟨u, u2, rfl, ra, rb⟩ := vals2 r1
  cases ra
  cases rb
  obtain ⟨us, ru, pu, _⟩ := I1.list hx
  obtain ⟨ws, rw_, pw, _⟩ := I1.tuple hy
  obtain ⟨o2, ho2, _⟩ := id pw
  refine zip_begins2 (begins_list a us.toArray) (begins_tuple b ws.toArray) pu.isList pw fun h' hz hI hO h1 h2 hsz hk => wpAny_pyIter_zip hz ?_
  refine ⟨s1.heap.objs.size + 4, zipFp s1.heap.objs.size, _, _, H1, rfl, I1.kept (t' := s1.toks) hk, turn_zipM pu.lt (Heap.lt_size ho2), ⟨hz, hI, ⟨_, _, hO⟩, ⟨_, h1, rfl, rfl⟩, ⟨_, h2, rfl, rfl⟩, Nat.zero_le _, Nat.zero_le _⟩, fun c hc => ?_, q⟩
  have hle := (zipFp_mem.mp hc).1
  exact I1.fpOk hle (I1.hok.fresh hle)
/-! ### .. at the values -/
def zipOf2 : List D → Option (List D)
  | [.lst xs, .tup ys] => some (zipD xs ys)
  | l => zipOf l
theorem itOk_zipM {K : PySem.W.Frag} {c : Cfg} {a b : Addr} {xs ys : List V} {ds es : List D} (h : SqL K c.I a xs) (h' : SqT K c.I b ys) (r : Reps K c.I xs ds) (r' : Reps K c.I ys es) : ItOk K c (ItzM K a b xs ys) (zipD ds es) := fun c2 y o n => by
  have h2 : SqL K c2.H a xs := o.sub.sqL (y.sub.sqL h)
  have h3 : SqT K c2.H b ys := o.sub.sqT (y.sub.sqT h')
  have e1 := r.length
  have e2 := r'.length
  refine ⟨fun d e => ?_, fun e => ⟨h2, h3, ?_⟩⟩
  · unfold zipD at e
    rw [List.getElem?_zipWith] at e
    cases q1 : ds[n]? with
    | none => rw [q1] at e; cases e
    | some d1 =>
      cases q2 : es[n]? with
      | none => rw [q1, q2] at e; cases e
      | some d2 =>
        rw [q1, q2] at e
        cases e
        obtain ⟨v, hv, rv⟩ := r.get q1
        obtain ⟨u, hu, ru⟩ := r'.get q2
        refine ⟨⟨h2, h3, (List.getElem?_eq_some_iff.mp hv).1, (List.getElem?_eq_some_iff.mp hu).1⟩, fun x H' ⟨T, z1, z2, ex, hT, eH, k1, k2⟩ => ?_⟩
        rw [hv] at k1
        rw [hu] at k2
        cases k1
        cases k2
        subst ex eH
        exact itOk_new o hT (.cons (rv.mono y.sub) (.one (ru.mono y.sub)))
  · simp only [zipD, List.length_zipWith] at e
    omega
section
variable {X : Cx} {W : WX}
theorem vi_zip2 {e e2 : Expr} {fs : List Ft} {p pos tpos : Pos} {elts : List Expr} {kk : Nat} (hg : Gl X "zip") (hm : X.mg "zip" = none) (ha : VA X W [e, e2] fs)
    (hs : starEach [e, e2] X.env = (false, eval e X.env) :: starEach [e2] X.env := by rfl) (hpl : (backTo pos (starEach [e2] X.env)).any (·.1) = false := by rfl) : VI X W (.Tuple elts kk tpos) (.Call (.Name "zip" p) [e, e2] [] pos) (argsI zipOf2 fs) := by
  refine ⟨pi_imp (PI.or (vi_zip hg hm ha hs hpl).pi (pi_zipM hg hm ha.pa hs hpl)) fun σ H R ⟨I, g, o, r⟩ => ?_⟩
  by_cases hc : ∃ xs ys, argsV fs g = some [.lst xs, .tup ys]
  · obtain ⟨xs, ys, hc⟩ := hc
    refine .inr (argsI_rd' o r fun c vs ds l o rr ea ek hJ => ?_)
    rw [hc] at ea
    cases ea
    cases ek
    cases rr with
    | cons h t => cases t with
      | cons h' t => cases t; cases h with
        | lst hq rq => cases h' with
          | tup hq' rq' => exact ⟨_, _, _, _, rfl, SqL.of (o.sub _ _ hq), o.sub.sqT hq', hJ _ (itOk_zipM (SqL.of hq) hq' rq rq')⟩
  · refine .inl ⟨I, g, o, ?_⟩
    revert r
    unfold argsI argsV at *
    cases ev : evA fs g with
    | stuck => exact id
    | exn c fs' g' => exact id
    | ok rs g1 =>
      rw [ev] at hc
      have hc : ¬ ∃ xs ys, (frzA rs g1).map (·.1) = some [D.lst xs, .tup ys] := hc
      show RemI X.K W _ (match frzA rs g1 with | some (ds, g2) => (match zipOf2 ds with | some r => Res.ok r g2 | none => .stuck) | none => .stuck) R → RemI X.K W _ (match frzA rs g1 with | some (ds, g2) => (match zipOf ds with | some r => Res.ok r g2 | none => .stuck) | none => .stuck) R
      cases ef : frzA rs g1 with
      | none => exact id
      | some p =>
        obtain ⟨ds, g2⟩ := p
        rw [ef] at hc
        have : zipOf2 ds = zipOf ds := by
          unfold zipOf2
          split
          · exact (hc ⟨_, _, rfl⟩).elim
          · rfl
        show RemI X.K W _ (match zipOf2 ds with | some r => Res.ok r g2 | none => .stuck) R → _
        rw [this]
        exact id
end
end Vl

set_option Elab.async false
set_option linter.all false
set_option maxRecDepth 100000
set_option maxHeartbeats 2000000
/-! the value layer: a, b = x, y -/
namespace Vl
open PySem PySem.Spec PyProof.Rows L2 My
/-- values from the left; new objects stay new -/
def evN : List Ft → Sg → Res (List RV)
  | [], g => .ok [] g
  | f :: fs, g => (f g).bind fun x g1 => (evN fs g1).bind fun xs g2 => .ok (x :: xs) g2
/-- two new ones are two -/
def Apt : List V → List RV → Prop
  | v :: vs, r :: rs => (∀ d, r = .fr d → v ∉ vs ∨ ∀ (k : Nat) (d' : D), rs[k]? = some (.fr d') → vs[k]? ≠ some v) ∧ Apt vs rs
  | _, _ => True
def RvsN (K : PySem.W.Frag) : Rel (List V) (List RV) := fun c0 c vs rs => Paired (RvR K c0 c) vs rs ∧ Apt vs rs
theorem rvsN_go {K : PySem.W.Frag} {c0 c1 c2 : Cfg} {vs : List V} {rs : List RV} (x : Go c0 c1) (h : Paired (RvR K c1 c2) vs rs) : Paired (RvR K c0 c2) vs rs := L2.Paired.mapP h fun v r q => GoR.go x q
instance (K : PySem.W.Frag) : GoR (RvsN K) := ⟨fun x h => ⟨rvsN_go x h.1, h.2⟩⟩
def rdN (K : PySem.W.Frag) (W : WX) (fs : List Ft) : TA := fun σ H Q => ∃ I g, Ok K ⟨I, σ, H, g⟩ ∧ Rem K W (RvsN K) ⟨I, σ, H, g⟩ (evN fs g) Q
structure VN (X : Cx) (W : WX) (es : List Expr) (fs : List Ft) : Prop where
  pa : PA X es (rdN X.K W fs)
section
variable {X : Cx} {W : WX}
theorem vn_nil : VN X W [] [] := ⟨⟨fun pos pins s σ H Q I ⟨J, g, o, r⟩ => pa_nil.run pos pins s σ H Q I (r J H [] o (Go.refl _) ⟨.nil, trivial⟩)⟩⟩
theorem apt_cons {K : PySem.W.Frag} {c0 c1 c2 : Cfg} {v : V} {x : RV} {vs : List V} {xs : List RV} (rx : RvR K c0 c1 v x) (r : Paired (RvR K c1 c2) vs xs) (a : Apt vs xs) : Apt (v :: vs) (x :: xs) := by
  refine ⟨fun d e => .inr fun k d' hk hv => ?_, a⟩
  subst e
  obtain ⟨p, rfl, ow, _, _, _⟩ := rx
  obtain ⟨u, hu⟩ := ow.some
  obtain ⟨w, hw, q⟩ := paired_get r hk
  rw [hv] at hw
  cases hw
  obtain ⟨p', ep, _, _, _, z⟩ := q
  cases ep
  exact no_some z hu
theorem vn_cons {e : Expr} {es : List Expr} {f : Ft} {fs : List Ft} (he : VE X W e f) (hs : VN X W es fs) (hst : starEach (e :: es) X.env = (false, eval e X.env) :: starEach es X.env := by rfl) : VN X W (e :: es) (f :: fs) := by
  refine ⟨pa_imp (pa_cons he.pe hs.pa hst) fun σ H Q ⟨I, g, o, r⟩ => ?_⟩
  have r' : Rem X.K W (RvsN X.K) ⟨I, σ, H, g⟩ ((f g).bind fun x g1 => (evN fs g1).bind fun xs g2 => .ok (x :: xs) g2) Q := r
  refine ⟨I, g, o, ?_⟩
  revert r'
  generalize f g = sr
  intro r'
  cases sr with
  | stuck => exact r'
  | exn c fs' g' => exact r'
  | ok x g1 =>
    intro I1 H1 v o1 y1 rx
    -- what is wanted stays told from the start
    have r1 : Rem X.K W (RvsN X.K) ⟨I, σ, H, g⟩ ((evN fs g1).bind fun xs g2 => .ok (x :: xs) g2) Q := r'
    refine ⟨I1, g1, o1, ?_⟩
    revert r1
    generalize evN fs g1 = sq
    intro r1
    cases sq with
    | stuck => exact r1
    | exn c fs' g' =>
      exact fun I2 H2 e o2 y2 xd => r1 I2 H2 e o2 (y1.trans y2) (xd.go y1)
    | ok xs g2 =>
      intro I2 H2 vs o2 y2 rxs
      exact r1 I2 H2 (v :: vs) o2 (y1.trans y2) ⟨.cons (RvR.on (c1 := ⟨I1, σ, H1, g1⟩) o2 rfl y2 rx) (rvsN_go y1 rxs.1), apt_cons rx rxs.1 rxs.2⟩
/-- what slots hold becomes values -/
def hold1 (x : RV) (g : Sg) : Option (RV × Sg) := match x with
  | .at_ i => (frz1 (.at_ i) g).map fun p => (.val p.1, p.2)
  | x => some (x, g)
def holdA : List RV → Sg → Option (List RV × Sg)
  | [], g => some ([], g)
  | x :: xs, g => (hold1 x g).bind fun p => (holdA xs p.2).map fun q => (p.1 :: q.1, q.2)
def noat : RV → Bool
  | .at_ _ => false
  | _ => true
theorem hold1_ok {K : PySem.W.Frag} {c0 : Cfg} {I H : Hp} {σ : L2.St} {g g' : Sg} {v : V} {x x' : RV} (o : Ok K ⟨I, σ, H, g⟩) (rx : RvR K c0 ⟨I, σ, H, g⟩ v x) (h : hold1 x g = some (x', g')) :
    ∃ I', Ok K ⟨I', σ, H, g'⟩ ∧ Go ⟨I, σ, H, g⟩ ⟨I', σ, H, g'⟩ ∧ RvR K c0 ⟨I', σ, H, g'⟩ v x' ∧ noat x' = true ∧ ((∃ d, x' = .fr d) → x = x') := by
  cases x with
  | val d => cases h; exact ⟨I, o, Go.refl _, rx, rfl, fun ⟨d', e⟩ => nomatch e⟩
  | fr d => cases h; exact ⟨I, o, Go.refl _, rx, rfl, fun _ => rfl⟩
  | at_ i =>
    simp only [hold1, Option.map_eq_some_iff] at h
    obtain ⟨⟨d, g1⟩, h1, h2⟩ := h
    cases h2
    obtain ⟨I1, o1, y1, r1⟩ := frz1_ok (c0 := c0) o rx (fun d z => nomatch z) h1
    exact ⟨I1, o1, y1, r1, rfl, fun ⟨d', e⟩ => nomatch e⟩
theorem holdA_ok {K : PySem.W.Frag} {c0 : Cfg} {H : Hp} {σ : L2.St} : ∀ {xs xs' : List RV} {vs : List V} {I : Hp} {g g' : Sg}, Ok K ⟨I, σ, H, g⟩ → Paired (RvR K c0 ⟨I, σ, H, g⟩) vs xs → Apt vs xs → holdA xs g = some (xs', g') →
    ∃ I', Ok K ⟨I', σ, H, g'⟩ ∧ Go ⟨I, σ, H, g⟩ ⟨I', σ, H, g'⟩ ∧ Paired (RvR K c0 ⟨I', σ, H, g'⟩) vs xs' ∧ xs'.all noat = true ∧ Apt vs xs' ∧ ∀ (k : Nat) d, xs'[k]? = some (.fr d) → xs[k]? = some (.fr d)
  | [], _, _, I, g, g', o, .nil, a, h => by cases h; exact ⟨I, o, Go.refl _, .nil, rfl, trivial, fun k d e => e⟩
  | x :: xs, _, v :: vs, I, g, g', o, .cons rx t, a, h => by
    simp only [holdA, Option.bind_eq_some_iff, Option.map_eq_some_iff] at h
    obtain ⟨⟨d, g1⟩, h1, ⟨ds', g2⟩, h2, h3⟩ := h
    cases h3
    obtain ⟨I1, o1, y1, r1, n1, f1⟩ := hold1_ok (c0 := c0) o rx h1
    obtain ⟨I2, o2, y2, r2, n2, a2, f2⟩ := holdA_ok (c0 := c0) o1 (L2.Paired.mapP t fun v r q => RvR.on (c1 := ⟨I, σ, H, g⟩) o1 rfl y1 q) a.2 h2
    refine ⟨I2, o2, y1.trans y2, .cons (RvR.on (c1 := ⟨I1, σ, H, g1⟩) o2 rfl y2 r1) r2, by rw [List.all_cons, n1, n2]; rfl, ⟨fun d' e => ?_, a2⟩, fun k d' e => ?_⟩
    · have ex := f1 ⟨d', e⟩
      rcases a.1 d' (ex.trans e) with q | q
      · exact .inl q
      · exact .inr fun k d2 hk => q k d2 (f2 k d2 hk)
    · cases k with
      | zero =>
        have e : d = .fr d' := by simpa using e
        rw [f1 ⟨d', e⟩, e]
        rfl
      | succ k => exact f2 k d' (by simpa using e)
def toSl : RV → Sl
  | .val d => .val false d
  | .fr d => .own false d
  | .at_ _ => .un
/-- the values into the slots -/
def putA : List Nat → List RV → Sg → Sg
  | i :: is, x :: xs, g => putA is xs (g.set i (toSl x))
  | _, _, g => g
def setsσ : List Nat → List V → L2.St → L2.St
  | i :: is, v :: vs, σ => setsσ is vs (σ.set i (some v))
  | _, _, σ => σ
theorem putA_ok {K : PySem.W.Frag} {c0 : Cfg} {I H : Hp} : ∀ {is : List Nat} {xs : List RV} {vs : List V} {σ : L2.St} {g : Sg}, Ok K ⟨I, σ, H, g⟩ → Go c0 ⟨I, σ, H, g⟩ → Paired (fun v x => (∃ d, x = .val d ∧ Rep K I v d) ∨ ∃ d a, x = .fr d ∧ v = .ref a ∧ OwnAt K I H a d ∧ I a = none ∧ ¬ Cfg.Own ⟨I, σ, H, g⟩ a ∧ c0.H a = none) vs xs → Apt vs xs →
    Ok K ⟨I, setsσ is vs σ, H, putA is xs g⟩ ∧ Go c0 ⟨I, setsσ is vs σ, H, putA is xs g⟩
  | [], xs, vs, σ, g, o, y, r, a => by cases xs <;> cases vs <;> exact ⟨o, y⟩
  | i :: is, [], [], σ, g, o, y, .nil, a => ⟨o, y⟩
  | i :: is, x :: xs, v :: vs, σ, g, o, y, .cons h t, a => by
    rcases h with ⟨d, rfl, rv⟩ | ⟨d, b, rfl, rfl, ow, n, w, z⟩
    · refine putA_ok (is := is) (o.store (s := .val false d) ⟨v, rfl, rv⟩ fun t d e => nomatch e) (y.trans Go.store) (L2.Paired.mapP t fun u x q => q.imp id fun ⟨d', a', h1, h2, h3, h4, h5, h6⟩ => ⟨d', a', h1, h2, h3, h4, fun q => ?_, h6⟩) a.2
      rcases (Go.store (I := I) (H := H) (σ := σ) (g := g) (i := i) (v := v) (d := d)).own a' q with k | k
      · exact h5 k
      · obtain ⟨u', hu'⟩ := h3.some
        exact no_some k hu'
    · have o2 := o.store (i := i) (v := .ref b) (s := .own false d) ⟨b, rfl, ow, n⟩ fun t d e b' eb => by cases eb; exact w
      refine putA_ok (is := is) o2 (y.storeF z) ?_ a.2
      refine paired_mapI t fun k u x e1 e2 q => q.imp id fun ⟨d', a', h1, h2, h3, h4, h5, h6⟩ => ⟨d', a', h1, h2, h3, h4, fun ⟨j, t', d2, q1, q2⟩ => ?_, h6⟩
      subst h1 h2
      have q1 : (g.set i (.own false d))[j]? = some (.own t' d2) := q1
      have q2 : (σ.set i (some (V.ref b)))[j]? = some (some (.ref a')) := q2
      rcases get_set_of q1 with ⟨rfl, q1⟩ | ⟨nj, q1⟩
      · rcases get_set_of q2 with ⟨_, q2⟩ | ⟨nj, _⟩
        · cases q2
          rcases a.1 d rfl with m | m
          · exact m (List.mem_of_getElem? e1)
          · exact m k d' e2 e1
        · exact absurd rfl nj
      · exact h5 ⟨j, t', d2, q1, by rw [← q2]; exact (List.getElem?_set_ne (fun z => nj z.symm)).symm⟩
/-- a, b = x, y and a, b, c = x, y, z (names of the def) -/
def parF (is : List Nat) (fs : List Ft) : Fs := fun g => bindE (evN fs g) fun xs g1 => match holdA xs g1 with
  | some (ys, g2) => if ys.length = is.length then .nx (putA is ys g2) else .stuck
  | none => .stuck
theorem par_ok {is : List Nat} {fs : List Ft} {σ : L2.St} {H : Hp} {D : Ends} (h : ∃ I g, Ok X.K ⟨I, σ, H, g⟩ ∧ RemS X.K W ⟨I, σ, H, g⟩ (parF is fs g) D) : rdN X.K W fs σ H fun vs H1 => vs.length = is.length ∧ ∀ H', Xb [] H1 H' → D.nx (setsσ is vs σ) H' := by
  obtain ⟨I, g, o, r⟩ := h
  refine ⟨I, g, o, (RemS.bindE (R := RvsN X.K) r).mono ?_⟩
  rintro vs H1 ⟨I1, g1, xs, o1, y1, rx, r1⟩

  split at r1
  · rename_i ys g2 e2
    split at r1
    · rename_i hl
      obtain ⟨I2, o2, y2, rr, na, ap, _⟩ := holdA_ok (c0 := ⟨I, σ, H, g⟩) o1 rx.1 rx.2 e2
      have pr : Paired (fun v x => (∃ d, x = .val d ∧ Rep X.K I2 v d) ∨ ∃ d a, x = .fr d ∧ v = .ref a ∧ OwnAt X.K I2 H1 a d ∧ I2 a = none ∧ ¬ Cfg.Own ⟨I2, σ, H1, g2⟩ a ∧ H a = none) vs ys := by
        refine paired_mapI rr fun k v x e1 e2 q => ?_
        have nx : noat x = true := List.all_eq_true.mp na x (List.mem_of_getElem? e2)
        cases x with
        | val d => exact .inl ⟨d, rfl, q⟩
        | at_ i => cases nx
        | fr d =>
          obtain ⟨a, e, ow, n, w, z⟩ := q
          exact .inr ⟨d, a, rfl, e, ow, n, w, z⟩
      obtain ⟨o3, y3⟩ := putA_ok (c0 := ⟨I, σ, H, g⟩) (is := is) o2 (y1.trans y2) pr ap
      exact ⟨(Paired.length rr).trans hl, fun H' x => r1 I2 _ H' (o3.new x) (y3.trans (Go.new x))⟩
    · exact r1.elim
  · exact r1.elim
theorem vs_par2 {i j : Nat} {x y : Str} {a b : Expr} {fa fb : Ft} {px py pt pos : Pos} {kt k2 pt2} (hc : X.calm = true) (hN : X.N.Nodup) (hi : X.N[i]? = some x) (hj : X.N[j]? = some y) (hij : i ≠ j)
    (hx : X.env.scope.names.lookup x = some .local) (hy : X.env.scope.names.lookup y = some .local) (ha : VN X W [a, b] [fa, fb])
    (hw : swappedStores [.Tuple [.Name x px, .Name y py] kt pt] (.Tuple [a, b] k2 pt2) X.env = pure (some [x, y]))
    (hs : swapsWithSole [.Tuple [.Name x px, .Name y py] kt pt] (.Tuple [a, b] k2 pt2) pos.line X.env = pure false := by rfl) :
    VS X W (.Assign [.Tuple [.Name x px, .Name y py] kt pt] (.Tuple [a, b] k2 pt2) pos) (parF [i, j] [fa, fb]) := by
  refine ⟨ps_imp' (ps_par hc hN hi hj hij hx hy ha.pa hw hs) fun D σ H ⟨I, g, o, r⟩ => ?_⟩
  obtain ⟨I', g', o', r'⟩ := par_ok (X := X) ⟨I, g, o, r⟩
  refine ⟨I', g', o', r'.mono ?_⟩
  rintro vs H1 ⟨hl, h⟩
  match vs, hl, h with
  | [v, w], _, h => exact ⟨v, w, rfl, h _ (Xb.refl _)⟩
theorem vs_par3 {i j l : Nat} {x y z : Str} {a b c : Expr} {fa fb fc : Ft} {px py pz pt pos : Pos} {kt k2 pt2} (hc : X.calm = true) (hN : X.N.Nodup) (hi : X.N[i]? = some x) (hj : X.N[j]? = some y) (hl : X.N[l]? = some z) (hij : i ≠ j) (hil : i ≠ l) (hjl : j ≠ l)
    (hx : X.env.scope.names.lookup x = some .local) (hy : X.env.scope.names.lookup y = some .local) (hz : X.env.scope.names.lookup z = some .local) (ha : VN X W [a, b, c] [fa, fb, fc])
    (hw : swappedStores [.Tuple [.Name x px, .Name y py, .Name z pz] kt pt] (.Tuple [a, b, c] k2 pt2) X.env = pure (some [x, y, z]))
    (hs : swapsWithSole [.Tuple [.Name x px, .Name y py, .Name z pz] kt pt] (.Tuple [a, b, c] k2 pt2) pos.line X.env = pure false := by rfl) :
    VS X W (.Assign [.Tuple [.Name x px, .Name y py, .Name z pz] kt pt] (.Tuple [a, b, c] k2 pt2) pos) (parF [i, j, l] [fa, fb, fc]) := by
  refine ⟨ps_imp' (ps_par3 hc hN hi hj hl hij hil hjl hx hy hz ha.pa hw hs) fun D σ H ⟨I, g, o, r⟩ => ?_⟩
  obtain ⟨I', g', o', r'⟩ := par_ok (X := X) ⟨I, g, o, r⟩
  refine ⟨I', g', o', r'.mono ?_⟩
  rintro vs H1 ⟨hl, h⟩
  match vs, hl, h with
  | [v, w, u], _, h => exact ⟨v, w, u, rfl, h _ (Xb.refl _)⟩
/-- names, each stored -/
def gNames (is : List Nat) : TGs := fun vs σ H Q => vs.length = is.length ∧ Q (setsσ is vs σ) H
theorem pnm_nil : PGs X [] (gNames []) := pgs_imp pgs_nil fun vs σ H Q ⟨hl, q⟩ => by
  have e : vs = [] := List.length_eq_zero_iff.mp hl
  subst e
  exact ⟨rfl, q⟩
theorem pnm_cons {i : Nat} {is : List Nat} {x : Str} {pos : Pos} {es : List Expr} (hN : X.N.Nodup) (hi : X.N[i]? = some x) (hx : Loc X.env.scope x) (h : PGs X es (gNames is))
    (hf : X.fn x = true ∨ X.env.scope.names.lookup x = some .local := by first | exact .inl rfl | exact .inr rfl | assumption)
    (hs : (assignEach (.Name x pos :: es) X.env).map (·.2) = assign (.Name x pos) X.env :: (assignEach es X.env).map (·.2) := by rfl) : PGs X (.Name x pos :: es) (gNames (i :: is)) :=
  pgs_imp (pgs_cons (pg_name hN hi hx hf) h hs) fun vs σ H Q ⟨hl, q⟩ => by
    match vs, hl, q with
    | v :: vs, hl, q => exact ⟨v, vs, rfl, by simpa using hl, q⟩
/-- (a, b, ..) = (x, y, ..), by way of the tuple -/
theorem vs_parT {ts es : List Expr} {is : List Nat} {fs : List Ft} {kt k2 : Nat} {pt pt2 pos : Pos} (hc : X.calm = true) (ha : VN X W es fs) (hg : PGs X ts (gNames is)) (hz : is.length ≤ 1000)
    (hn : (assignEach ts X.env).length = is.length := by rfl) (hst : (assignEach ts X.env).findIdx? (·.1) = none := by rfl)
    (hs : swapsWithSole [.Tuple ts kt pt] (.Tuple es k2 pt2) pos.line X.env = pure false := by rfl) (hw : swappedStores [.Tuple ts kt pt] (.Tuple es k2 pt2) X.env = pure none := by rfl)
    (h1 : (assignEach [.Tuple ts kt pt] X.env).map (·.2) = [assign (.Tuple ts kt pt) X.env] := by rfl) : VS X W (.Assign [.Tuple ts kt pt] (.Tuple es k2 pt2) pos) (parF is fs) := by
  refine ⟨ps_imp' (ps_asg (px_tup ha.pa) (pg_tup hc hg hn hst) hs hw h1) fun D σ H ⟨I, g, o, r⟩ => ?_⟩
  obtain ⟨I', g', o', r'⟩ := par_ok (X := X) ⟨I, g, o, r⟩
  refine ⟨I', g', o', r'.mono ?_⟩
  rintro vs H1 ⟨hl, h⟩
  have hz2 := sizeLine_eq
  refine ⟨by omega, fun p H' fr x hp => ⟨p, vs, rfl, .inl (.inl hp), hl, hl, h H' x⟩⟩
end
end Vl

set_option Elab.async false
set_option linter.all false
set_option maxRecDepth 100000
set_option maxHeartbeats 2000000
/-! the value layer: sorted of pairs of ints -/
namespace Vl
open PySem PySem.Spec PyProof.Rows L2 My
/-- x is a pair of these ints -/
def PrAt (K : PySem.W.Frag) (H : Hp) (R : V → Int × Int → Prop) (x : V) (q : Int × Int) : Prop := (∃ t, x = .ref t ∧ SqT K H t [.int q.1, .int q.2]) ∧ R x q
/-- the two ints of a heap's tuple -/
def prH (h : Heap) : Value → Int × Int
  | .ref t => (match h.get? t with
    | some o => (match o.data with
      | .seq a _ => (match a.toList with
        | [.int i _, .int j _] => (i, j)
        | _ => (0, 0))
      | _ => (0, 0))
    | none => (0, 0))
  | _ => (0, 0)
def rSortPr (K : PySem.W.Frag) : List V → Hp → VK → Prop := fun vs H Q => ∃ (R : V → Int × Int → Prop) (a : Addr) (xs : List V) (ps : List (Int × Int)), vs = [V.ref a] ∧ SqL K H a xs ∧ Paired (PrAt K H R) xs ps ∧
  ∀ ys qs p, Paired (PrAt K H R) ys qs → qs.Perm ps → qs.Pairwise (fun a b => SrtO.lexB b a = false) → H p = none → Q (.ref p) (upd H p (.lst ys))
theorem cr_sortPr {X : Cx} : CallR X (.builtin "sorted") (rSortPr X.K) := by
  intro pins s σ H vs us Q I r ⟨R, a, xs, ps, ev, hs, hp, q⟩
  subst ev
  obtain ⟨its, rv, hl, hz⟩ := I.list hs
  obtain ⟨u, rfl, ru⟩ := vals1 r
  cases ru
  -- each value is its pair, by the heap
  have at1 : ∀ (x : V) (u : Value) (q : Int × Int), PrAt X.K H R x q → RelV x u → Srt.IsPair s.heap u q.1 q.2 ∧ prH s.heap u = q ∧ ∃ t, x = .ref t ∧ u = .ref t := by
    rintro x u q ⟨⟨t, rfl, ht⟩, _⟩ ru
    cases ru
    obtain ⟨its2, r2, ⟨o, ho, hc, n, hd⟩, _⟩ := I.tuple ht
    obtain ⟨u1, u2, rfl, r3, r4⟩ := vals2 r2
    obtain ⟨t1, rfl⟩ := r3
    obtain ⟨t2, rfl⟩ := r4
    exact ⟨⟨t, o, t1, t2, n, rfl, ho, hc, hd⟩, by simp [prH, ho, hd], t, rfl, rfl⟩
  have all : ∀ {xs : List V} {us : List Value} {ps : List (Int × Int)}, Vals xs us → Paired (PrAt X.K H R) xs ps → us.map (prH s.heap) = ps ∧ ∀ u ∈ us, Srt.IsPair s.heap u (prH s.heap u).1 (prH s.heap u).2 ∧ ∃ t, u = .ref t ∧ PrAt X.K H R (.ref t) (prH s.heap u) := by
    intro xs
    induction xs with
    | nil => intro us ps h1 h2; cases h1; cases h2; exact ⟨rfl, fun u h => nomatch h⟩
    | cons x xs ih =>
      intro us ps h1 h2
      cases h1 with
      | cons r1 t1 =>
        cases h2 with
        | cons r2 t2 =>
          obtain ⟨e1, e2⟩ := ih t1 t2
          obtain ⟨k1, k2, t, k3, k4⟩ := at1 _ _ _ r2 r1
          refine ⟨by rw [List.map_cons, k2, e1], fun u hu => ?_⟩
          rcases List.mem_cons.mp hu with rfl | hu
          · exact ⟨by rw [k2]; exact k1, t, k4, by rw [k2, ← k3]; exact r2⟩
          · exact e2 u hu
  obtain ⟨em, eu⟩ := all rv hp
  refine SrtO.sorted_pairsO (k := prH s.heap) hl.isList (by rw [← rv.length]; exact hz) (fun v hv => (eu v hv).1) fun h' d out s1 s2 kp hd hn => ?_
  obtain ⟨n, hn⟩ := hn
  have mem : ∀ u ∈ out, ∃ t, u = .ref t ∧ PrAt X.K H R (.ref t) (prH s.heap u) := fun u hu => (eu u (s2.perm.mem_iff.mp hu)).2
  have refs : ∀ u ∈ out, ∃ t, u = Value.ref t := fun u hu => let ⟨t, e, _⟩ := mem u hu; ⟨t, e⟩
  have pr : ∀ {l : List Value}, (∀ u ∈ l, ∃ t, u = .ref t ∧ PrAt X.K H R (.ref t) (prH s.heap u)) → Paired (PrAt X.K H R) (l.map backV) (l.map (prH s.heap)) := by
    intro l
    induction l with
    | nil => intro _; exact .nil
    | cons u l ih =>
      intro h
      obtain ⟨t, e, k⟩ := h u (.head _)
      subst e
      exact .cons k (ih fun u hu => h u (.tail _ hu))
  have I2 : Inv X pins σ (upd H d (.lst (out.map backV))) { s with heap := h' } :=
    I.laid (t' := s.toks) kp hd ⟨by rw [List.length_map, s2.len, ← rv.length]; exact hz, out, n, vals_back refs, hn⟩
  exact ⟨.ref d, _, I2, rfl, q _ _ d (pr mem) (em ▸ s2.perm.map _) (List.pairwise_map.mpr s1) (I.hok.fresh hd)⟩
/-! ### at the values -/
def pairsD : List D → Option (List (Int × Int))
  | [] => some []
  | .tup [.int i, .int j] :: r => (pairsD r).map ((i, j) :: ·)
  | _ => none
abbrev prI (q : Int × Int) : D := .tup [.int q.1, .int q.2]
def sortPr (ps : List (Int × Int)) : List (Int × Int) := ps.mergeSort (fun a b => !SrtO.lexB b a)
theorem sortPr_perm (ps : List (Int × Int)) : (sortPr ps).Perm ps := List.mergeSort_perm _ _
theorem sortPr_pw (ps : List (Int × Int)) : (sortPr ps).Pairwise (fun a b => SrtO.lexB b a = false) := by
  have := List.pairwise_mergeSort (le := fun (a b : Int × Int) => !SrtO.lexB b a) (fun a b c h1 h2 => by
    simp only [Bool.not_eq_true'] at *
    rw [SrtO.lexB_no] at *
    omega) (fun a b => by
    simp only [Bool.or_eq_true, Bool.not_eq_true']
    rw [SrtO.lexB_no, SrtO.lexB_no]
    omega) ps
  exact this.imp (by simp)
theorem sortPr_uniq {ps qs : List (Int × Int)} (h1 : qs.Perm ps) (h2 : qs.Pairwise (fun a b => SrtO.lexB b a = false)) : qs = sortPr ps :=
  List.Perm.eq_of_pairwise (le := fun a b => SrtO.lexB b a = false) (fun a b _ _ k1 k2 => by
    rw [SrtO.lexB_no] at k1 k2
    obtain ⟨a1, a2⟩ := a
    obtain ⟨b1, b2⟩ := b
    simp only at k1 k2
    have e1 : a1 = b1 := by omega
    have e2 : a2 = b2 := by omega
    rw [e1, e2]) h2 (sortPr_pw ps) (h1.trans (sortPr_perm ps).symm)
def sortQ : List D → Option RV
  | [.lst xs] => (match pairsD xs with
    | some ps => if 0 < ps.length then some (.fr (.lst ((sortPr ps).map prI))) else sortP [.lst xs]
    | none => sortP [.lst xs])
  | l => sortP l
theorem pairs_at {K : PySem.W.Frag} {I H : Hp} (l : Le I H) : ∀ {us : List V} {xs : List D} {ps : List (Int × Int)}, Reps K I us xs → pairsD xs = some ps → Paired (PrAt K H fun x q => Rep K I x (prI q)) us ps
  | _, _, _, .nil, e => by cases e; exact .nil
  | _, d :: xs, ps, .cons h t, e => by
    unfold pairsD at e
    split at e
    · rename_i eq; cases eq
    · rename_i i j r eq
      cases eq
      obtain ⟨qs, e1, rfl⟩ := Option.map_eq_some_iff.mp e
      refine .cons ⟨?_, h⟩ (pairs_at l t e1)
      cases h with
      | tup hq rq =>
        cases rq with
        | cons a b =>
          cases b with
          | cons b c =>
            cases c
            cases a
            cases b
            exact ⟨_, rfl, l.sqT hq⟩
    · cases e
theorem pairs_reps {K : PySem.W.Frag} {I H : Hp} : ∀ {ys : List V} {qs : List (Int × Int)}, Paired (PrAt K H fun x q => Rep K I x (prI q)) ys qs → Reps K I ys (qs.map prI)
  | _, _, .nil => .nil
  | _, _, .cons r t => .cons r.2 (pairs_reps t)
theorem c_sortQ {X : Cx} : PCl X (.builtin "sorted") sortQ := by
  obtain ⟨r0, h1, h2⟩ := (c_sorted (X := X)).ex
  refine ⟨_, h1.or cr_sortPr, fun c vs ds Q o rr h => ?_⟩
  unfold sortQ at h
  split at h
  · rename_i xs
    split at h
    · rename_i ps ep
      split at h
      · obtain ⟨v, rfl, r⟩ := paired1 rr
        obtain ⟨p, us, rfl, hp, rp⟩ := r.lst o
        refine .inr ⟨_, p, us, ps, rfl, SqL.of hp, pairs_at o.sub rp ep, fun ys qs a hy h3 h4 hq => ?_⟩
        have := sortPr_uniq h3 h4
        subst this
        exact h.fresh o ⟨hq⟩ (Xb.new hq) ⟨_, upd_same, pairs_reps hy⟩
      · exact .inl (h2 c vs _ Q o rr h)
    · exact .inl (h2 c vs _ Q o rr h)
  · exact .inl (h2 c vs _ Q o rr h)
end Vl

set_option Elab.async false
set_option linter.all false
set_option maxRecDepth 100000
set_option maxHeartbeats 2000000
/-! the value layer: isinstance with own classes -/
namespace Vl
open PySem PySem.Spec PyProof.Rows L2 My
def baseT : List String := ["NoneType", "bool", "int", "str", "list", "tuple", "dict"]
/-- isinstance(x, C): what the classes that x may have answer (with slots?, the answer) -/
structure IsoK (K : PySem.W.Frag) (C : Str) (ts : List (Str × Bool × Bool)) : Prop where
  ex : ∀ c sl b, ts.lookup c = some (sl, b) → PySem.W.kitOne K (.ref (He.ga K c)) (.ref (He.ga K C)) = some b ∧ SlX.SIsi K (He.ga K c) ∧ (sl = false → Cls K (He.ga K c)) ∧ (sl = true → SlX.SCls K (He.ga K c))
  base : ∀ T ∈ baseT, PySem.W.kitOne K (.type T) (.ref (He.ga K C)) = some false
def isoP (ts : List (Str × Bool × Bool)) : D → Option RV
  | .ins c _ => (match ts.lookup c with | some (false, b) => vB b | _ => none)
  | .slo c _ => (match ts.lookup c with | some (true, b) => vB b | _ => none)
  | d => (match tyN d with | some _ => vB false | none => none)
theorem tyN_base {d : D} {t : String} (h : tyN d = some t) : t ∈ baseT := by
  cases d <;> simp [tyN] at h <;> subst h <;> decide
section
variable {X : Cx} {W : WX} {e : Expr} {fe : Ft} {C : Str} {p q pos : Pos} {ts : List (Str × Bool × Bool)}
theorem ve_iso (k : IsoK X.K C ts) (he : VE X W e fe) (hg : Gl X "isinstance") (hm : X.mg "isinstance" = none) (gt : Gl X C) (mt : X.mg C = some (.ref (He.ga X.K C))) (hd : (C == ("__debug__" : Str)) = false := by decide)
    (h1 : starEach [e, .Name C q] X.env = (false, eval e X.env) :: starEach [.Name C q] X.env := by rfl) (h2 : starEach [.Name C q] X.env = (false, eval (.Name C q) X.env) :: starEach [] X.env := by rfl)
    (hpl : (backTo pos (starEach [.Name C q] X.env)).any (·.1) = false := by rfl) : VE X W (.Call (.Name "isinstance" p) [e, .Name C q] [] pos) (op1 (isoP ts) fe) := by
  refine ⟨pe_imp (pe_callB (call_isi.or (SlX.call_isiSl (.ref (He.ga X.K C)))) hg hm (by decide +kernel) (pa_cons he.pe (pa_cons (pe_glob (v := .ref (He.ga X.K C)) gt mt rfl hd) pa_nil h2) h1) (by decide) (by decide) h1 hpl) fun σ H Q ⟨I, g, o, r⟩ => ?_⟩
  refine ⟨I, g, o, Rem.settle ((Rem.bind (R := RvR X.K) r).mono ?_)⟩
  rintro v H1 ⟨I1, g1, x, o1, y1, rx, r1⟩
  obtain ⟨d, rd, h⟩ := lift1_gives o1 rx r1
  have other : ∀ t, tyN d = some t → Gives X.K ⟨I1, σ, H1, g1⟩ (vB false) Q → ∃ (x c : V) (t u : Value) (b : Bool), [v, V.ref (He.ga X.K C)] = [x, c] ∧ ClsV c u ∧ TyX X.K H1 x t ∧ PySem.W.kitOne X.K t u = some b ∧ Q (.bl b) H1 := fun t ht h =>
    ⟨v, _, .type t, _, false, rfl, .own _, tyN_ty o1 rd ht, k.base t (tyN_base ht), h.now o1 (.bl false)⟩
  unfold isoP at h
  split at h
  · rename_i c fs
    split at h
    · rename_i b el
      obtain ⟨k1, k2, k3, _⟩ := k.ex _ _ _ el
      obtain ⟨a, dx, us, rfl, ha, _⟩ := rd.ins o1
      exact .inl ⟨_, _, _, _, b, rfl, .own _, .base (.ins ha (k3 rfl) k2.ca k2.cn k2.ct k2.cm), k1, h.now o1 (.bl b)⟩
    · exact h.elim
  · rename_i c us
    split at h
    · rename_i b el
      obtain ⟨k1, k2, _, k3⟩ := k.ex _ _ _ el
      obtain ⟨a, dx, us, rfl, ha, hdx, _⟩ := rd.slo o1
      exact .inr ⟨a, _, dx, us, _, b, rfl, rfl, fun w z => z, .inr ⟨ha, hdx⟩, k3 rfl, k2, k1, h.now o1 (.bl b)⟩
    · exact h.elim
  · split at h
    · rename_i t ht
      exact .inl (other t ht h)
    · exact h.elim
end
/-! ### facts -/
def isiB (K : PySem.W.Frag) (c C : Str) (b : Bool) : Bool := decide (PySem.W.kitOne K (.ref (He.ga K c)) (.ref (He.ga K C)) = some b) && (He.eqO (PySem.W.findIn K (.ref (He.ga K c)) "__class__") (some (some (.builtin "object.__class__"))) &&
  (He.eqO (PySem.W.specialIn K (.builtin "object.__class__") "__get__") (some (some (.builtin "getset_descriptor.__get__"))) && (decide (PySem.W.takesIn K (.builtin "object.__class__") = some true) && decide (PySem.W.mroIn K (He.ga K c) (.type "object") = some true))))
theorem isi_ok {K : PySem.W.Frag} {c C : Str} {b : Bool} (h : isiB K c C b = true) : PySem.W.kitOne K (.ref (He.ga K c)) (.ref (He.ga K C)) = some b ∧ SlX.SIsi K (He.ga K c) := by
  unfold isiB at h
  simp only [Bool.and_eq_true, decide_eq_true_eq] at h
  exact ⟨h.1, He.eqO_ok h.2.1, He.eqO_ok h.2.2.1, h.2.2.2.1, h.2.2.2.2⟩
def isoB (K : PySem.W.Frag) (C : Str) : Bool := baseT.all fun T => decide (PySem.W.kitOne K (.type T) (.ref (He.ga K C)) = some false)
theorem IsoK.nil {K : PySem.W.Frag} {C : Str} (h : isoB K C = true) : IsoK K C [] := ⟨fun c sl b e => (nomatch e), fun T hT => of_decide_eq_true (List.all_eq_true.mp h T hT)⟩
theorem IsoK.pl {K : PySem.W.Frag} {C c : Str} {b : Bool} {ts : List (Str × Bool × Bool)} (h : PySem.W.kitOne K (.ref (He.ga K c)) (.ref (He.ga K C)) = some b ∧ SlX.SIsi K (He.ga K c)) (hc : Cls K (He.ga K c)) (t : IsoK K C ts) : IsoK K C ((c, false, b) :: ts) := ⟨fun c' sl b' e => by
  rw [List.lookup_cons] at e
  split at e
  · rename_i q
    cases e
    rw [eq_of_beq q]
    exact ⟨h.1, h.2, fun _ => hc, fun z => nomatch z⟩
  · exact t.ex c' sl b' e, t.base⟩
theorem IsoK.sl {K : PySem.W.Frag} {C c : Str} {b : Bool} {ts : List (Str × Bool × Bool)} (h : PySem.W.kitOne K (.ref (He.ga K c)) (.ref (He.ga K C)) = some b ∧ SlX.SIsi K (He.ga K c)) (hc : SlX.SCls K (He.ga K c)) (t : IsoK K C ts) : IsoK K C ((c, true, b) :: ts) := ⟨fun c' sl b' e => by
  rw [List.lookup_cons] at e
  split at e
  · rename_i q
    cases e
    rw [eq_of_beq q]
    exact ⟨h.1, h.2, fun z => (nomatch z), fun _ => hc⟩
  · exact t.ex c' sl b' e, t.base⟩
end Vl

set_option Elab.async false
set_option linter.all false
set_option maxRecDepth 100000
set_option maxHeartbeats 2000000
/-! the value layer: operators of own classes -/
namespace Vl
open PySem PySem.Spec PyProof.Rows L2 My
/-! ### what is not told -/
section
variable {X : Cx} {W : WX} {e : Expr} {st : Stmt}
theorem ve_stuck : VE X W e (fun _ => .stuck) := ⟨⟨fun _ _ _ _ _ _ ⟨_, _, _, r⟩ => r.elim⟩⟩
theorem vt_stuck : VT X W e (fun _ => .stuck) := ⟨⟨fun _ _ _ _ _ _ ⟨_, _, _, r⟩ => r.elim⟩⟩
end
/-! ### a call at another place -/
section
variable {X : Cx} {W : WX} {pins : List (Addr × Obj)} {σ : L2.St} {H : Hp} {s : Shared} {A' : Around} {k : Nat} {g : Addr} {sp : Sp} {us : List Value} {vs : List V} {Q : VK}
theorem inv_at (hf : A'.frames = X.A.frames) (hh : A'.handled = X.A.handled) (I : Inv X pins σ H s) : Inv { X with A := A' } pins σ H s :=
  { I with ok := { I.ok with hd := fun z => hh.trans (I.ok.hd z), frames := hf.trans I.ok.frames } }
theorem inv_back (hf : A'.frames = X.A.frames) (hh : A'.handled = X.A.handled) (I : Inv { X with A := A' } pins σ H s) : Inv X pins σ H s :=
  inv_at (X := { X with A := A' }) (A' := X.A) hf.symm hh.symm I
theorem call_at (hf : A'.frames = X.A.frames) (hh : A'.handled = X.A.handled) (c : Callee X.prog X.w X.K X.mg X.base k g sp) (hr : Room k A') (tk : Takes X W) (I : Inv X pins σ H s) (r : Vals vs us) (h : sp vs H Q (WE W σ)) :
    wpAny (model X.prog X.w) A' (call (.ref g) us) (EP X pins σ Q) X.xe s := by
  have z := c { X with A := A' } pins σ H s us vs Q (WE W σ) rfl rfl rfl rfl rfl hr (fun pins H s e s' I' cx => passAt tk σ pins H s e s' (inv_back hf hh I') cx) (inv_at hf hh I) r h
  exact wpAny_mono z (fun v s' ⟨x, H', I', rv, q⟩ => ⟨x, H', inv_back hf hh I', rv, q⟩) fun _ _ e => e
/-- the instance behind a method -/
theorem MethAt.inst {a : Addr} {m : Str} (I : Inv X pins σ H s) (k : MethAt X.K H a m g) : ∃ ox C od, PySem.W.InstAt s.heap a ox C (some od) ∧ ox.data = .plain ∧ PySem.W.findIn X.K (.ref C) m = some (some (.ref g)) ∧ PySem.W.isFn X.K (.ref g) = true ∧
    ((∃ dx fs, H a = some (.ins C dx fs)) ∨ ∃ dx vs, SlX.Slt H a C dx vs) := by
  cases k with
  | @ins C dx fs e l c k =>
    obtain ⟨mA, J, _⟩ := ins_get I.hok e
    obtain ⟨od, J, _⟩ := J.look
    exact ⟨_, C, od, J, rfl, k.at_, k.fn, .inl ⟨dx, fs, e⟩⟩
  | @slo C dx vs e c k =>
    obtain ⟨sl, od, _, J, _⟩ := SlX.slt_inst I e
    exact ⟨_, C, od, J, rfl, k.at_, k.fn, .inr ⟨dx, vs, e⟩⟩
end
/-! ### two-place operators -/
def OpS (X : Cx) (f : Value → Value → Sem Value) (r : L2.St → R2) : Prop :=
  ∀ (pins : List (Addr × Obj)) (s : Shared) (σ : L2.St) (H : Hp) (x y : V) (v u : Value) (Q : VK), Inv X pins σ H s → RelV x v → RelV y u → r σ x y H Q → wpAny (model X.prog X.w) X.A (f v u) (EP X pins σ Q) X.xe s
def tOpS (r : L2.St → R2) (ta tb : TE) : TE := fun σ H Q => ta σ H fun x H1 => tb σ H1 fun y H2 => r σ x y H2 Q
/-- what comes back is checked -/
def backR (chk : Option (RV → Bool)) (r : Res RV) : Res RV := match chk with
  | some f => (settle r).bind fun z g => if f z = true then .ok z g else .stuck
  | none => r
def chInt : RV → Bool | .val (.int n) => decide (0 ≤ n ∧ n < 2 ^ 63) | _ => false
def chStr : RV → Bool | .val (.str _) => true | _ => false
def chBl : RV → Bool | .val (.bl _) => true | _ => false
theorem chInt_v {K : PySem.W.Frag} {c0 c : Cfg} {v : V} {r : RV} (h : RvR K c0 c v r) (e : chInt r = true) : ∃ n, v = .int n ∧ 0 ≤ n ∧ n < 2 ^ 63 := by
  cases r with
  | val d =>
    cases d <;> simp only [chInt] at e <;> first | cases e | skip
    cases h
    exact ⟨_, rfl, (of_decide_eq_true e).1, (of_decide_eq_true e).2⟩
  | at_ i => cases e
  | fr d => cases e
theorem chStr_v {K : PySem.W.Frag} {c0 c : Cfg} {v : V} {r : RV} (h : RvR K c0 c v r) (e : chStr r = true) : ∃ n, v = .str n := by
  cases r with
  | val d =>
    cases d <;> simp only [chStr] at e <;> first | cases e | skip
    cases h
    exact ⟨_, rfl⟩
  | at_ i => cases e
  | fr d => cases e
theorem chBl_v {K : PySem.W.Frag} {c0 c : Cfg} {v : V} {r : RV} (h : RvR K c0 c v r) (e : chBl r = true) : ∃ n, v = .bl n := by
  cases r with
  | val d =>
    cases d <;> simp only [chBl] at e <;> first | cases e | skip
    cases h
    exact ⟨_, rfl⟩
  | at_ i => cases e
  | fr d => cases e
def ChkC (K : PySem.W.Frag) (chk : Option (RV → Bool)) (C : V → Prop) : Prop := match chk with
  | some f => ∀ c0 c v r, RvR K c0 c v r → f r = true → C v
  | none => ∀ v, C v
/-- what an own operator answers by: the def, and whether the operands change places -/
abbrev Ow := D → D → Option (Fm × Bool)
def ownK (chk : Option (RV → Bool)) (ow : Ow) (p : D → D → Option RV) (x y : RV) (g : Sg) : Res RV := match deref g x, deref g y with
  | some a, some b => (match ow a b with
    | some (m, false) => backR chk (callK m [x, y] g)
    | some (m, true) => backR chk (callK m [y, x] g)
    | none => (match p a b with | some r => .ok r g | none => .stuck))
  | _, _ => .stuck
def opO (chk : Option (RV → Bool)) (ow : Ow) (p : D → D → Option RV) (fa fb : Ft) : Ft := fun g => (settle (fa g)).bind fun x g1 => (settle (fb g1)).bind fun y g2 => ownK chk ow p x y g2
structure OwnB (X : Cx) (f : Value → Value → Sem Value) (C : V → Prop) (ow : Ow) : Prop where
  ok : ∀ (c : Cfg) (v u : V) (a b : D) (m : Fm) (rv : Bool), Ok X.K c → RdD X.K c v a → RdD X.K c u b → ow a b = some (m, rv) → ∃ (k : Nat) (g : Addr), Callee X.prog X.w X.K X.mg X.base k g (spV X.K m) ∧ Room k X.A ∧
    ∀ (pins : List (Addr × Obj)) (s : Shared) (v' u' : Value) (Q : Value → Shared → Prop) (E : Value → Shared → Prop), Inv X pins c.σ c.H s → RelV v v' → RelV u u' → wpAny (model X.prog X.w) X.A (call (.ref g) (if rv = true then [u', v'] else [v', u'])) (fun w s' => PySem.W.CmpBack Q w s' ∧ ∃ z, RelV z w ∧ C z) E s →
      wpAny (model X.prog X.w) X.A (f v' u') Q E s
section
variable {X : Cx} {W : WX} {f : Value → Value → Sem Value} {p : D → D → Option RV} {ow : Ow} {chk : Option (RV → Bool)} {C : V → Prop}
theorem back_call (hC : ChkC X.K chk C) {c c0 : Cfg} {vs : List V} {rs : List RV} {m : Fm} {Q : VK} (o : Ok X.K c) (rr : RvsR X.K c0 c vs rs) (h : Rem X.K W (RvR X.K) c (backR chk (callK m rs c.g)) Q) :
    spV X.K m vs c.H (fun z H' => C z ∧ Q z H') (WE W c.σ) := by
  refine call_sp (c0 := c0) (I := c.I) (H := c.H) (σ := c.σ) (g := c.g) o rr ?_
  cases chk with
  | none => exact Rem.mono h fun z H' q => ⟨hC z, q⟩
  | some f =>
    have nf := fun z g' (e : settle (callK m rs c.g) = .ok z g') => settle_nofr e
    refine Rem.settle ?_
    unfold backR at h
    revert nf h
    dsimp only
    generalize settle (callK m rs c.g) = r
    intro h nf
    cases r with
    | stuck => exact h
    | exn y fs g' => exact h
    | ok z g' =>
      intro I1 H1 u o1 y1 rz
      have r1 : Rem X.K W (RvR X.K) ⟨I1, c.σ, H1, g'⟩ (if f z = true then .ok z g' else .stuck) Q := Rem.go (c0 := c) (c1 := ⟨I1, c.σ, H1, g'⟩) y1 rfl h
      split at r1
      · rename_i hk
        refine ⟨hC _ _ _ _ rz hk, r1 I1 H1 u o1 (Go.refl _) ?_⟩
        cases z with
        | val d => exact rz
        | at_ i => exact rz
        | fr d => exact (nf _ g' rfl d rfl).elim
      · exact r1.elim
/-- the reading of an operator, own or not -/
def rOwn (X : Cx) (W : WX) (f : Value → Value → Sem Value) (C : V → Prop) (r : R2) : L2.St → R2 := fun σ v u H Q => r v u H Q ∨ ∃ (k : Nat) (g : Addr) (sp : Sp) (rv : Bool), Callee X.prog X.w X.K X.mg X.base k g sp ∧ Room k X.A ∧
  (∀ (pins : List (Addr × Obj)) (s : Shared) (v' u' : Value) (Q : Value → Shared → Prop) (E : Value → Shared → Prop), Inv X pins σ H s → RelV v v' → RelV u u' → wpAny (model X.prog X.w) X.A (call (.ref g) (if rv = true then [u', v'] else [v', u'])) (fun w s' => PySem.W.CmpBack Q w s' ∧ ∃ z, RelV z w ∧ C z) E s →
      wpAny (model X.prog X.w) X.A (f v' u') Q E s) ∧ sp (if rv = true then [u, v] else [v, u]) H (fun z H' => C z ∧ Q z H') (WE W σ)
theorem opS_own {r : R2} (hr : OpR X f r) (tk : Takes X W) : OpS X f (rOwn X W f C r) := by
  intro pins s σ H x y v u Q I rx ry h
  rcases h with h | ⟨k, g, sp, rv, c, room, run, hs⟩
  · exact hr pins s σ H x y v u Q I rx ry h
  · refine run pins s v u _ _ I rx ry ?_
    have vals : Vals (if rv = true then [y, x] else [x, y]) (if rv = true then [u, v] else [v, u]) := by
      cases rv
      · exact .cons rx (.cons ry .nil)
      · exact .cons ry (.cons rx .nil)
    refine wpAny_mono (call_at rfl rfl c room tk I vals hs) (fun w s' hw => ?_) fun _ _ e => e
    obtain ⟨z, H', I', rz, hc, q⟩ := hw
    exact ⟨SlX.cmpback rz ⟨z, H', I', rz, q⟩, z, rz, hc⟩
theorem rd2S {fa fb : Ft} {σ : L2.St} {H : Hp} {Q : VK} {R : V → V → Hp → Prop} {kk : RV → RV → Sg → Res RV} (h : rdE X.K W (fun g => (settle (fa g)).bind fun x g1 => (settle (fb g1)).bind fun y g2 => kk x y g2) σ H Q)
    (hr : ∀ c c1 c3 v u x y, c.σ = σ → Ok X.K c → RvR X.K c1 c v x → RvR X.K c3 c u y → (∀ d, x ≠ .fr d) → (∀ d, y ≠ .fr d) → Rem X.K W (RvR X.K) c (kk x y c.g) Q → R v u c.H) :
    rdE X.K W fa σ H fun v H1 => rdE X.K W fb σ H1 fun u H2 => R v u H2 := by
  obtain ⟨I, g, o, r⟩ := h
  have nf := nofr_of (f := fa) (g := g)
  refine ⟨I, g, o, Rem.settle ?_⟩
  dsimp only at r
  revert nf r
  generalize settle (fa g) = sa
  intro r nf
  cases sa with
  | stuck => exact r
  | exn c fs g' => exact r
  | ok x g1 =>
    intro I1 H1 v o1 y1 rx
    have r1 : Rem X.K W (RvR X.K) ⟨I1, σ, H1, g1⟩ ((settle (fb g1)).bind fun y g2 => kk x y g2) Q := Rem.go (c0 := ⟨I, σ, H, g⟩) (c1 := ⟨I1, σ, H1, g1⟩) y1 rfl r
    have nf1 := nofr_of (f := fb) (g := g1)
    refine ⟨I1, g1, o1, Rem.settle ?_⟩
    revert nf1 r1
    generalize settle (fb g1) = sb
    intro r1 nf1
    cases sb with
    | stuck => exact r1
    | exn c fs g' => exact r1
    | ok y g2 =>
      intro I2 H2 u o2 y2 ry
      have r2 : Rem X.K W (RvR X.K) ⟨I2, σ, H2, g2⟩ (kk x y g2) Q := Rem.go (c0 := ⟨I1, σ, H1, g1⟩) (c1 := ⟨I2, σ, H2, g2⟩) y2 rfl r1
      exact hr ⟨I2, σ, H2, g2⟩ ⟨I, σ, H, g⟩ ⟨I1, σ, H1, g1⟩ v u x y rfl o2 (RvR.on (c1 := ⟨I1, σ, H1, g1⟩) o2 rfl y2 rx) ry (nf x g1 rfl) (nf1 y g2 rfl) r2
theorem own_rd {r : R2} (hk : ∀ c v u a b Q, Ok X.K c → RdD X.K c v a → RdD X.K c u b → Gives X.K c (p a b) Q → r v u c.H Q) (w : OwnB X f C ow) (hC : ChkC X.K chk C) {c c1 c3 : Cfg} {v u : V} {x y : RV} {Q : VK} (o : Ok X.K c)
    (rx : RvR X.K c1 c v x) (ry : RvR X.K c3 c u y) (nx : ∀ d, x ≠ .fr d) (ny : ∀ d, y ≠ .fr d) (h : Rem X.K W (RvR X.K) c (ownK chk ow p x y c.g) Q) : rOwn X W f C r c.σ v u c.H Q := by
  unfold ownK at h
  split at h
  · rename_i a b ea eb
    have ra := deref_rd o rx ea
    have rb := deref_rd o ry eb
    split at h
    · rename_i m em
      obtain ⟨k, g, hc, room, run⟩ := w.ok c v u a b m false o ra rb em
      exact .inr ⟨k, g, _, false, hc, room, run, back_call (c0 := c) hC o (.cons ⟨_, rx, nx⟩ (.cons ⟨_, ry, ny⟩ .nil)) h⟩
    · rename_i m em
      obtain ⟨k, g, hc, room, run⟩ := w.ok c v u a b m true o ra rb em
      exact .inr ⟨k, g, _, true, hc, room, run, back_call (c0 := c) hC o (.cons ⟨_, ry, ny⟩ (.cons ⟨_, rx, nx⟩ .nil)) h⟩
    · exact .inl (hk c v u a b Q o ra rb (gives_of h))
  · exact h.elim
end
section
variable {X : Cx} {W : WX} {e a b : Expr} {fa fb : Ft} {pos : Pos} {p : D → D → Option RV} {ow : Ow} {chk : Option (RV → Bool)} {C : V → Prop}
theorem ve_binO {op : Operator} (h : P2 X (binaryOp op) p) (w : OwnB X (binaryOp op) C ow) (hC : ChkC X.K chk C) (tk : Takes X W) (ha : VE X W a fa) (hb : VE X W b fb) : VE X W (.BinOp a op b pos) (opO chk ow p fa fb) := by
  obtain ⟨r, hr, k⟩ := h.ex
  have os := opS_own (W := W) (C := C) hr tk
  refine ⟨pe_imp (t := tOpS (rOwn X W (binaryOp op) C r) (rdE X.K W fa) (rdE X.K W fb)) ⟨fun pins s σ H Q I h => ?_⟩ fun σ H Q q => ?_⟩
  · exact wpAny_BinOp (binT ha.pe hb.pe I h fun v u s2 x y H2 I2 rx ry q => os pins s2 σ H2 x y v u Q I2 rx ry q)
  · exact rd2S (kk := ownK chk ow p) q fun c c1 c3 v u x y e o rx ry nx ny h => by
      have := own_rd k w hC o rx ry nx ny h
      rw [e] at this
      exact this
theorem ve_cmpO {op : CmpOp} (h : P2 X (compareOp op) p) (w : OwnB X (compareOp op) C ow) (hC : ChkC X.K chk C) (tk : Takes X W) (ha : VE X W a fa) (hb : VE X W b fb) (hm : behindInMarks op b = false) : VE X W (.Compare a [op] [b] pos) (opO chk ow p fa fb) := by
  obtain ⟨r, hr, k⟩ := h.ex
  have os := opS_own (W := W) (C := C) hr tk
  refine ⟨pe_imp (t := tOpS (rOwn X W (compareOp op) C r) (rdE X.K W fa) (rdE X.K W fb)) ⟨fun pins s σ H Q I h => ?_⟩ fun σ H Q q => ?_⟩
  · exact wpAny_Compare1 (binT ha.pe hb.pe I h fun v u s2 x y H2 I2 rx ry q => os pins s2 σ H2 x y v u Q I2 rx ry q) hm
  · exact rd2S (kk := ownK chk ow p) q fun c c1 c3 v u x y e o rx ry nx ny h => by
      have := own_rd k w hC o rx ry nx ny h
      rw [e] at this
      exact this
theorem vt_cmpO {op : CmpOp} (h : P2 X (compareOp op) p) (w : OwnB X (compareOp op) C ow) (hC : ChkC X.K chk C) (tk : Takes X W) (ha : VE X W a fa) (hb : VE X W b fb) (hm : behindInMarks op b = false) : VT X W (.Compare a [op] [b] pos) (blF (opO chk ow p fa fb)) := by
  obtain ⟨r, hr, k⟩ := h.ex
  have os := opS_own (W := W) (C := C) hr tk
  refine ⟨⟨fun pins s σ H Q I q => ?_⟩⟩
  obtain ⟨J, g, o, q⟩ := q
  have q2 := rd2S (kk := ownK chk ow p) (fa := fa) (fb := fb) (R := fun v u H' => rOwn X W (compareOp op) C r σ v u H' fun z H'' => ∃ k, z = .bl k ∧ Q k H'') ⟨J, g, o, blF_rem q⟩ fun c c1 c3 v u x y e o rx ry nx ny h => by
      have := own_rd k w hC o rx ry nx ny h
      rw [e] at this
      exact this
  refine wpAny_isTrue_Compare1 (thn (ha.pe.run pins s σ H _ I q2) fun v s1 ⟨x, H1, I1, r1, q1⟩ => thn (hb.pe.run pins s1 σ H1 _ I1 q1) fun u s2 ⟨y, H2, I2, r2, q2⟩ =>
    thn (os pins s2 σ H2 x y v u _ I2 r1 r2 q2) fun c s3 ⟨z, H3, I3, r3, k, e, q3⟩ => ?_) hm
  subst e
  cases r3
  exact wpAny_truthy_bool ⟨H3, I3, q3⟩
end
/-! ### comparisons -/
def clsN : D → Option Str
  | .ins c _ => some c
  | .slo c _ => some c
  | _ => none
/-- the second operand is of the first one's class, or of a built-in type -/
def okT (a b : D) : Bool := match clsN b with
  | some c => clsN a == some c
  | none => (tyN b).isSome
def owC (nm : Str) (ms : List (Str × Bool × Fm)) : Ow := fun a b => if okT a b = true then (pickM nm ms a).map (·, false) else none
theorem mro_noref {T : String} (h : T ∈ baseT) (K : PySem.W.Frag) (C : Addr) : PySem.W.subIn K (.type T) (.ref C) = some false := by
  simp only [baseT, List.mem_cons, List.not_mem_nil, or_false] at h
  rcases h with rfl | rfl | rfl | rfl | rfl | rfl | rfl <;> rfl
section
variable {X : Cx} {W : WX} {pins : List (Addr × Obj)} {s : Shared} {c : Cfg} {v u : V} {u' : Value} {a b : D} {j : Nat} {nm : Str} {ms : List (Str × Bool × Fm)} {m : Fm}
theorem pick_cls (h : pickM nm ms a = some m) : ∃ x, clsN a = some x := by
  cases a <;> simp [pickM] at h <;> exact ⟨_, rfl⟩
/-- the class at hand of a method's instance -/
theorem meth_k (k : MethK X.prog X.w X.K X.mg X.base j nm ms) (o : Ok X.K c) (rd : RdD X.K c v a) (h : pickM nm ms a = some m) {x : Str} (hx : clsN a = some x) :
    ∃ (p g : Addr) (k : Nat), v = .ref p ∧ k ≤ j ∧ Callee X.prog X.w X.K X.mg X.base k g (spV X.K m) ∧ Meth X.K (He.ga X.K x) nm g ∧
      ∀ (pins : List (Addr × Obj)) (s : Shared), Inv X pins c.σ c.H s → ∃ (dx : Addr) (sl : Array (Option Value)) (od : Obj), PySem.W.InstAt s.heap p ⟨.ref (He.ga X.K x), some dx, .plain, sl⟩ (He.ga X.K x) (some od) := by
  cases a <;> simp only [pickM] at h <;> first | cases h | skip
  · rename_i c' fs
    cases hx
    split at h
    · rename_i hl
      split at h
      · rename_i m' el
        cases h
        obtain ⟨g, k', hk, hc, hm, hp, _⟩ := k.ex _ _ _ el
        obtain ⟨a, dx, us, rfl, ha, rf⟩ := rd.ins o
        refine ⟨a, g, k', rfl, hk, hc, hm, fun pins s I => ?_⟩
        obtain ⟨mA, J, _⟩ := ins_get I.hok ha
        obtain ⟨od, J, _⟩ := J.look
        exact ⟨dx, #[], od, J⟩
      · cases h
    · cases h
  · rename_i c' vs
    cases hx
    split at h
    · rename_i m' el
      cases h
      obtain ⟨g, k', hk, hc, hm, _, hp⟩ := k.ex _ _ _ el
      obtain ⟨a, dx, us, rfl, ha, hd, rf⟩ := rd.slo o
      refine ⟨a, g, k', rfl, hk, hc, hm, fun pins s I => ?_⟩
      obtain ⟨sl, od, _, J, _⟩ := SlX.slt_inst I (show SlX.Slt c.H a _ dx us from .inr ⟨ha, hd⟩)
      exact ⟨dx, sl, od, J⟩
    · cases h
/-- the type of what is no instance; of an instance -/
theorem ty_base (o : Ok X.K c) (rd : RdD X.K c u b) {t : String} (ht : tyN b = some t) (I : Inv X pins c.σ c.H s) (ru : RelV u u') : PySem.W.Looks (model X.prog X.w) s.heap (typeOf u') (.type t) := by
  obtain ⟨P, kx, hp, _⟩ := kit_of I ru (tyN_ty o rd ht)
  exact kx.ty _ _ I.kIn hp
theorem ty_inst (o : Ok X.K c) (rd : RdD X.K c u b) {x : Str} (hx : clsN b = some x) (I : Inv X pins c.σ c.H s) (ru : RelV u u') : PySem.W.Looks (model X.prog X.w) s.heap (typeOf u') (.ref (He.ga X.K x)) := by
  cases b <;> simp only [clsN] at hx <;> cases hx
  · obtain ⟨a, dx, us, rfl, ha, _⟩ := rd.ins o
    obtain ⟨mA, J, _⟩ := ins_get I.hok ha
    obtain ⟨od, J, _⟩ := J.look
    cases ru
    exact J.type
  · obtain ⟨a, dx, us, rfl, ha, hd, _⟩ := rd.slo o
    obtain ⟨sl, od, _, J, _⟩ := SlX.slt_inst I (show SlX.Slt c.H a _ dx us from .inr ⟨ha, hd⟩)
    cases ru
    exact J.type
theorem ownB_cmp {op : CmpOp} (hr : Room j X.A) (k : MethK X.prog X.w X.K X.mg X.base j nm ms) (hn : (cmpInfo op).2.1 = nm := by rfl) (hop : ∀ a b, compareOp op a b = richCompare op a b := by intro _ _; rfl) : OwnB X (compareOp op) (fun _ => True) (owC nm ms) := ⟨by
  intro c v u a b m rv o ra rb h
  unfold owC at h
  split at h
  · rename_i ok
    obtain ⟨m', h1, h2⟩ := Option.map_eq_some_iff.mp h
    cases h2
    obtain ⟨x, hx⟩ := pick_cls h1
    obtain ⟨p, g, k', rfl, hk, hc, hm, hi⟩ := meth_k k o ra h1 hx
    refine ⟨k', g, hc, hr.mono hk, fun pins s v' u' Q E I rv ru hw => ?_⟩
    rw [hop]
    obtain ⟨dx, sl, od, J⟩ := hi pins s I
    cases rv
    obtain ⟨mF, hF⟩ := I.fr
    have hs : PySem.W.findIn X.K (.ref (He.ga X.K x)) (cmpInfo op).2.1 = some (some (.ref g)) := by rw [hn]; exact hm.at_
    unfold okT at ok
    cases hb : clsN b with
    | some y =>
      rw [hb, hx] at ok
      have e : x = y := by simpa using ok
      subst e
      exact PySem.W.cmp_K hr.units0 hF I.ok.mod.kin J (ty_inst o rb hb I ru) (by simp [PySem.W.notFirst]) hs hm.fn (wpAny_mono hw (fun _ _ z => z.1) fun _ _ z => z)
    | none =>
      rw [hb] at ok
      obtain ⟨t, ht⟩ := Option.isSome_iff_exists.mp ok
      exact PySem.W.cmp_K hr.units0 hF I.ok.mod.kin J (ty_base o rb ht I ru) (by simp [PySem.W.notFirst, mro_noref (tyN_base ht)]) hs hm.fn (wpAny_mono hw (fun _ _ z => z.1) fun _ _ z => z)
  · cases h⟩
/-! ### + - * and so on -/
/-- what a class must have for an operator -/
structure BinK (K : PySem.W.Frag) (op : Operator) (c : Str) : Prop where
  sf : PySem.W.selfFirst K (He.ga K c) = true
  rc : ∃ rc, PySem.W.findIn K (.ref (He.ga K c)) (dunderR op.info.2) = some rc ∧ (rc = none ∨ ∃ g : Addr, rc = some (.ref g))
def binB (K : PySem.W.Frag) (op : Operator) (c : Str) : Bool := PySem.W.selfFirst K (He.ga K c) && (match PySem.W.findIn K (.ref (He.ga K c)) (dunderR op.info.2) with
  | some none => true
  | some (some (.ref _)) => true
  | _ => false)
theorem binK_ok {K : PySem.W.Frag} {op : Operator} {c : Str} (h : binB K op c = true) : BinK K op c := by
  unfold binB at h
  obtain ⟨h1, h2⟩ := Bool.and_eq_true_iff.mp h
  refine ⟨h1, ?_⟩
  split at h2
  · rename_i e; exact ⟨_, e, .inl rfl⟩
  · rename_i g e; exact ⟨_, e, .inr ⟨g, rfl⟩⟩
  · cases h2
def BinKs (K : PySem.W.Frag) (op : Operator) (ms : List (Str × Bool × Fm)) : Prop := ∀ c b m, ms.lookup c = some (b, m) → BinK K op c
theorem binKs_nil {K : PySem.W.Frag} {op : Operator} : BinKs K op [] := fun c b m e => nomatch e
theorem binKs_cons {K : PySem.W.Frag} {op : Operator} {c : Str} {b : Bool} {m : Fm} {ms : List (Str × Bool × Fm)} (h : BinK K op c) (t : BinKs K op ms) : BinKs K op ((c, b, m) :: ms) := fun c' b' m' e => by
  rw [List.lookup_cons] at e
  split at e
  · rename_i q
    rw [eq_of_beq q]
    exact h
  · exact t c' b' m' e
/-- the second operand is of the first one's class, or a number, a truth value, a text, None -/
def okU (a b : D) : Bool := match clsN b with
  | some c => clsN a == some c
  | none => (match b with | .non => true | .bl _ => true | .int _ => true | .str _ => true | _ => false)
def owB (nm : Str) (ms : List (Str × Bool × Fm)) : Ow := fun a b => if okU a b = true then (pickM nm ms a).map (·, false) else none
theorem pick_lk (h : pickM nm ms a = some m) {x : Str} (hx : clsN a = some x) : ∃ b, ms.lookup x = some (b, m) := by
  cases a <;> simp only [pickM] at h <;> first | cases h | skip
  · cases hx
    split at h
    · split at h
      · rename_i e; cases h; exact ⟨_, e⟩
      · cases h
    · cases h
  · cases hx
    split at h
    · rename_i e; cases h; exact ⟨_, e⟩
    · cases h
/-- what built-in types say of an operator's names -/
def BtN (op : Operator) : Prop := ∀ T ∈ ["NoneType", "bool", "int", "str"], (∃ fo, PySem.W.findIn {} (.type T) (PySem.dunder op.info.2) = some fo) ∧ ∃ ro, PySem.W.findIn {} (.type T) (dunderR op.info.2) = some ro
theorem ty_pure (rd : RdD X.K c u b) (h : clsN b = none) (hk : okU a b = true) (ru : RelV u u') : ∃ T, T ∈ ["NoneType", "bool", "int", "str"] ∧ typeOf u' = pure (.type T) := by
  unfold okU at hk
  rw [h] at hk
  cases b <;> first | cases hk | skip
  · rw [rd.non] at ru; cases ru; exact ⟨_, .head _, rfl⟩
  · rw [rd.bl] at ru; cases ru; exact ⟨_, .tail _ (.head _), rfl⟩
  · rw [rd.int] at ru; obtain ⟨t, rfl⟩ := ru; exact ⟨_, .tail _ (.tail _ (.head _)), rfl⟩
  · rw [rd.str] at ru; obtain ⟨t, rfl⟩ := ru; exact ⟨_, .tail _ (.tail _ (.tail _ (.head _))), rfl⟩
theorem base4 {T : String} (h : T ∈ ["NoneType", "bool", "int", "str"]) : T ∈ baseT := by
  simp only [List.mem_cons, List.not_mem_nil, or_false] at h
  rcases h with rfl | rfl | rfl | rfl <;> decide
theorem ownB_bin {op : Operator} (hr : Room j X.A) (k : MethK X.prog X.w X.K X.mg X.base j nm ms) (bk : BinKs X.K op ms) (bt : BtN op) (hn : PySem.dunder op.info.2 = nm := by rfl) : OwnB X (binaryOp op) (fun _ => True) (owB nm ms) := ⟨by
  intro c v u a b m rv o ra rb h
  unfold owB at h
  split at h
  · rename_i ok
    obtain ⟨m', h1, h2⟩ := Option.map_eq_some_iff.mp h
    cases h2
    obtain ⟨x, hx⟩ := pick_cls h1
    obtain ⟨sb, hl⟩ := pick_lk h1 hx
    obtain ⟨p, g, k', rfl, hk, hc, hm, hi⟩ := meth_k k o ra h1 hx
    refine ⟨k', g, hc, hr.mono hk, fun pins s v' u' Q E I rv ru hw => ?_⟩
    obtain ⟨dx, sl, od, J⟩ := hi pins s I
    cases rv
    obtain ⟨mF, hF⟩ := I.fr
    have hs : PySem.W.findIn X.K (.ref (He.ga X.K x)) (PySem.dunder op.info.2) = some (some (.ref g)) := by rw [hn]; exact hm.at_
    have B := bk x sb m hl
    cases hb : clsN b with
    | some y =>
      have ok' := ok
      unfold okU at ok'
      rw [hb, hx] at ok'
      have e : x = y := by simpa using ok'
      subst e
      exact PySem.W.binop_K hF I.ok.mod.kin J (ty_inst o rb hb I ru) B.sf hs hm.fn (wpAny_mono hw (fun _ _ z => z.1) fun _ _ z => z)
    | none =>
      obtain ⟨T, hT, ht⟩ := ty_pure rb hb ok ru
      obtain ⟨rc, hrc, hp⟩ := B.rc
      obtain ⟨⟨fo, h1⟩, ro, h2⟩ := bt T hT
      exact PySem.W.ksp_binT (fo := fo) (ro := ro) hF I.ok.mod.kin J ht B.sf hs hm.fn hrc hp h1 h2 (mro_noref (base4 hT) _ _) (wpAny_mono hw (fun _ _ z => z.1) fun _ _ z => z)
  · cases h⟩
end
/-! ### int + x, int * x -/
theorem int_add_inst (a : Int) (t : Tok) (x C dx : Addr) (sl : Array (Option Value)) :
    Meets (Builtin.«int.__add__» ⟨[.int a t, .ref x], []⟩) (fun _ R s => s.heap.get? x = some ⟨.ref C, some dx, .plain, sl⟩ ∧ R (.ok (.ret Value.notImplemented)) s) :=
  .of_wp fun prog w A R s h => by obtain ⟨hp, g, d, tk, os⟩ := s; obtain ⟨hl, h⟩ := h; wp_walk; exact ⟨_, rfl, h⟩
theorem int_mul_inst (a : Int) (t : Tok) (x C dx : Addr) (sl : Array (Option Value)) :
    Meets (Builtin.«int.__mul__» ⟨[.int a t, .ref x], []⟩) (fun _ R s => s.heap.get? x = some ⟨.ref C, some dx, .plain, sl⟩ ∧ R (.ok (.ret Value.notImplemented)) s) :=
  .of_wp fun prog w A R s h => by obtain ⟨hp, g, d, tk, os⟩ := s; obtain ⟨hl, h⟩ := h; wp_walk; exact ⟨_, rfl, h⟩
theorem refl_int {prog : Program} {w : World} {A : Around} {E : Value → Shared → Prop} {s : Shared} {K : PySem.W.Frag} {x C dx f g : Addr} {sl : Array (Option Value)} {od : Obj} {op : Operator} {i : Int} {t : Tok} {id : String} {Q : Value → Shared → Prop}
    (X : K.In s.heap) (I : PySem.W.InstAt s.heap x ⟨.ref C, some dx, .plain, sl⟩ C (some od)) (hc : PySem.W.selfFirst K C = true) (hs : PySem.W.findIn K (.ref C) (PySem.dunder op.info.2) = some (some (.ref f)))
    (hr : PySem.W.findIn K (.ref C) (dunderR op.info.2) = some (some (.ref g))) (hg : PySem.W.isFn K (.ref g) = true) (hsub : PySem.W.subIn K (.ref C) (.type "int") = some false)
    (fills : fillsNumberSlot (.type "int") op.info.2 = pure true) (slot : Slot "int" (dunder op.info.2) id) (hcall : ∀ Q' : Value → Shared → Prop, Q' .notImplemented s → wpAny (model prog w) A (call (.builtin id) [.int i t, .ref x]) Q' E s)
    (h : wpAny (model prog w) A (call (.ref g) [.ref x, .int i t]) (PySem.W.CmpBack Q) E s) : wpAny (model prog w) A (binaryOp op (.int i t) (.ref x)) Q E s := by
  obtain ⟨cd, rest, hcd, hm⟩ := PySem.W.ksp_first hc
  rcases hi : op.info with ⟨sym, nm⟩
  rw [hi] at hs hr fills slot
  dsimp only at hs hr fills slot
  have one := PySem.W.ksp_try X I hr hg h
  simp only [binaryOp, hi]
  refine wpAny_holding (wpAny_bind ?_)
  unfold binaryOp1
  refine wpAny_bind (wpAny_typeOf (typeIs_int s i t) (wpAny_bind (I.type.here (wpAny_bind (wpAny_of_eq fills ?_)))))
  have hne : (Value.type "int" == Value.ref C) = false := rfl
  simp only [hne, Bool.false_eq_true, if_false]
  refine wpAny_bind ((PySem.W.fills_K X hcd hm hs).here ?_)
  simp only [Bool.and_self, if_true]
  refine wpAny_bind ((PySem.W.looks_subIn X hsub).here ?_)
  have hpy : numberSlotInPython (.type "int") nm = pure false := rfl
  simp only [Bool.false_eq_true, if_false, pure_bind, Bool.not_false, Bool.and_self, if_true, hpy]
  refine wpAny_bind (wpAny_tryMethod_declines (typeIs_int s i t) slot (hcall _ ⟨rfl, ?_⟩))
  refine wpAny_bind (wpAny_mono one (fun r s' hr' => ?_) fun _ _ e => e)
  obtain ⟨v, rfl, hq⟩ := hr'
  exact wpAny_bind (wpAny_rule (wpAny_pure (wpAny_pure hq)))
/-- int op x: x's own reflected def -/
structure RefK (K : PySem.W.Frag) (op : Operator) (c : Str) : Prop where
  sf : PySem.W.selfFirst K (He.ga K c) = true
  at_ : ∃ f : Addr, PySem.W.findIn K (.ref (He.ga K c)) (PySem.dunder op.info.2) = some (some (.ref f))
  sub : PySem.W.subIn K (.ref (He.ga K c)) (.type "int") = some false
def refB (K : PySem.W.Frag) (op : Operator) (c : Str) : Bool := PySem.W.selfFirst K (He.ga K c) && ((match PySem.W.findIn K (.ref (He.ga K c)) (PySem.dunder op.info.2) with
  | some (some (.ref _)) => true
  | _ => false) && (match PySem.W.subIn K (.ref (He.ga K c)) (.type "int") with | some false => true | _ => false))
theorem refK_ok {K : PySem.W.Frag} {op : Operator} {c : Str} (h : refB K op c = true) : RefK K op c := by
  unfold refB at h
  obtain ⟨h1, h2⟩ := Bool.and_eq_true_iff.mp h
  obtain ⟨h2, h3⟩ := Bool.and_eq_true_iff.mp h2
  refine ⟨h1, ?_, ?_⟩
  · split at h2
    · rename_i e; exact ⟨_, e⟩
    · cases h2
  · split at h3
    · assumption
    · cases h3
def RefKs (K : PySem.W.Frag) (op : Operator) (ms : List (Str × Bool × Fm)) : Prop := ∀ c b m, ms.lookup c = some (b, m) → RefK K op c
theorem refKs_nil {K : PySem.W.Frag} {op : Operator} : RefKs K op [] := fun c b m e => nomatch e
theorem refKs_cons {K : PySem.W.Frag} {op : Operator} {c : Str} {b : Bool} {m : Fm} {ms : List (Str × Bool × Fm)} (h : RefK K op c) (t : RefKs K op ms) : RefKs K op ((c, b, m) :: ms) := fun c' b' m' e => by
  rw [List.lookup_cons] at e
  split at e
  · rename_i q
    rw [eq_of_beq q]
    exact h
  · exact t c' b' m' e
def owR (nm : Str) (ms : List (Str × Bool × Fm)) : Ow := fun a b => match a with
  | .int _ => (pickM nm ms b).map (·, true)
  | _ => none
/-- one or the other -/
def owOr (f g : Ow) : Ow := fun a b => match f a b with
  | some r => some r
  | none => g a b
section
variable {X : Cx} {W : WX} {f : Value → Value → Sem Value} {o1 o2 : Ow} {C : V → Prop} {j : Nat} {nm : Str} {ms : List (Str × Bool × Fm)}
theorem OwnB.or (h1 : OwnB X f C o1) (h2 : OwnB X f C o2) : OwnB X f C (owOr o1 o2) := ⟨by
  intro c v u a b m rv o ra rb h
  unfold owOr at h
  split at h
  · rename_i r e
    cases h
    exact h1.ok c v u a b m rv o ra rb e
  · exact h2.ok c v u a b m rv o ra rb h⟩
theorem ownB_ref {op : Operator} {id : String} (hr : Room j X.A) (k : MethK X.prog X.w X.K X.mg X.base j nm ms) (rk : RefKs X.K op ms) (fills : fillsNumberSlot (.type "int") op.info.2 = pure true) (slot : Slot "int" (dunder op.info.2) id)
    (hcall : ∀ (i : Int) (t : Tok) (x C dx : Addr) (sl : Array (Option Value)) (s : Shared) (Q' E : Value → Shared → Prop), s.heap.get? x = some ⟨.ref C, some dx, .plain, sl⟩ → Q' .notImplemented s → wpAny (model X.prog X.w) X.A (call (.builtin id) [.int i t, .ref x]) Q' E s)
    (hn : dunderR op.info.2 = nm := by rfl) : OwnB X (binaryOp op) (fun _ => True) (owR nm ms) := ⟨by
  intro c v u a b m rv o ra rb h
  cases a <;> simp only [owR] at h <;> first | cases h | skip
  rename_i i
  obtain ⟨m', h1, h2⟩ := Option.map_eq_some_iff.mp h
  cases h2
  obtain ⟨x, hx⟩ := pick_cls h1
  obtain ⟨sb, hl⟩ := pick_lk h1 hx
  obtain ⟨p, g, k', rfl, hk, hc, hm, hi⟩ := meth_k k o rb h1 hx
  refine ⟨k', g, hc, hr.mono hk, fun pins s v' u' Q E I rv ru hw => ?_⟩
  obtain ⟨dx, sl, od, J⟩ := hi pins s I
  cases ru
  rw [ra.int] at rv
  obtain ⟨t, rfl⟩ := rv
  have B := rk x sb m hl
  obtain ⟨f, hf⟩ := B.at_
  exact refl_int I.kIn J B.sf hf (by rw [hn]; exact hm.at_) hm.fn B.sub fills slot (fun Q' q => hcall i t p _ dx sl s Q' E J.at_ q) (wpAny_mono hw (fun _ _ z => z.1) fun _ _ z => z)⟩
theorem ownB_radd (hr : Room j X.A) (k : MethK X.prog X.w X.K X.mg X.base j "__radd__" ms) (rk : RefKs X.K .Add ms) : OwnB X (binaryOp .Add) (fun _ => True) (owR "__radd__" ms) :=
  ownB_ref (id := "int.__add__") hr k rk F.fills_int_add F.slot_int_add fun i t x C dx sl s Q' E e q => call_meets F.slot_int_add (typeIs_int s i t) F.entry_int_add (F.args_int_add_2 _ _) (int_add_inst i t x C dx sl) ⟨e, q⟩
theorem ownB_rmul (hr : Room j X.A) (k : MethK X.prog X.w X.K X.mg X.base j "__rmul__" ms) (rk : RefKs X.K .Mult ms) : OwnB X (binaryOp .Mult) (fun _ => True) (owR "__rmul__" ms) :=
  ownB_ref (id := "int.__mul__") hr k rk F.fills_int_mul F.slot_int_mul fun i t x C dx sl s Q' E e q => call_meets F.slot_int_mul (typeIs_int s i t) F.entry_int_mul (F.args_int_mul_2 _ _) (int_mul_inst i t x C dx sl) ⟨e, q⟩
end
theorem bt_Add : BtN .Add := fun T h => by
  simp only [List.mem_cons, List.not_mem_nil, or_false] at h
  rcases h with rfl | rfl | rfl | rfl <;> exact ⟨⟨_, rfl⟩, _, rfl⟩
theorem bt_Sub : BtN .Sub := fun T h => by
  simp only [List.mem_cons, List.not_mem_nil, or_false] at h
  rcases h with rfl | rfl | rfl | rfl <;> exact ⟨⟨_, rfl⟩, _, rfl⟩
theorem bt_Mult : BtN .Mult := fun T h => by
  simp only [List.mem_cons, List.not_mem_nil, or_false] at h
  rcases h with rfl | rfl | rfl | rfl <;> exact ⟨⟨_, rfl⟩, _, rfl⟩
theorem bt_BitAnd : BtN .BitAnd := fun T h => by
  simp only [List.mem_cons, List.not_mem_nil, or_false] at h
  rcases h with rfl | rfl | rfl | rfl <;> exact ⟨⟨_, rfl⟩, _, rfl⟩
theorem bt_BitOr : BtN .BitOr := fun T h => by
  simp only [List.mem_cons, List.not_mem_nil, or_false] at h
  rcases h with rfl | rfl | rfl | rfl <;> exact ⟨⟨_, rfl⟩, _, rfl⟩
theorem bt_RShift : BtN .RShift := fun T h => by
  simp only [List.mem_cons, List.not_mem_nil, or_false] at h
  rcases h with rfl | rfl | rfl | rfl <;> exact ⟨⟨_, rfl⟩, _, rfl⟩
/-- an operator that built-in values do not have here -/
theorem p_none {X : Cx} {f : Value → Value → Sem Value} : P2 X f (fun _ _ => none) := ⟨_, fun _ _ _ _ _ _ _ _ _ _ _ _ (h : False) => h.elim, fun _ _ _ _ _ _ _ _ _ h => h⟩
end Vl

set_option Elab.async false
set_option linter.all false
set_option maxRecDepth 100000
set_option maxHeartbeats 2000000
/-! the value layer: one-place operators of own classes, len, str, in, !=, items -/
namespace Vl
open PySem PySem.Spec PyProof.Rows L2 My
abbrev Ow1 := D → Option Fm
def ow1 (nm : Str) (ms : List (Str × Bool × Fm)) : Ow1 := pickM nm ms
def ownU (nm : Str) (ms : List (Str × Bool × Fm)) (chk : Option (RV → Bool)) (p : D → Option RV) (x : RV) (g : Sg) : Res RV := match deref g x with
  | some a => (match pickM nm ms a with
    | some m => backR chk (callK m [x] g)
    | none => (match p a with | some r => .ok r g | none => .stuck))
  | none => .stuck
def unO (nm : Str) (ms : List (Str × Bool × Fm)) (chk : Option (RV → Bool)) (p : D → Option RV) (fa : Ft) : Ft := fun g => (settle (fa g)).bind fun x g1 => ownU nm ms chk p x g1
/-- the reading: a call of the own def, or r -/
def rOwn1 (X : Cx) (W : WX) (R : (Value → Shared → Prop) → (Value → Shared → Prop) → Nat → Addr → V → Hp → Prop) (C : V → Prop) (σ : L2.St) (v : V) (H : Hp) (Q : VK) : Prop :=
  ∃ (k : Nat) (g : Addr) (sp : Sp), Callee X.prog X.w X.K X.mg X.base k g sp ∧ sp [v] H (fun z H' => C z ∧ Q z H') (WE W σ)
section
variable {X : Cx} {W : WX} {pins : List (Addr × Obj)} {s : Shared} {c c1 : Cfg} {v : V} {a : D} {j : Nat} {nm : Str} {ms : List (Str × Bool × Fm)} {m : Fm} {x : RV} {chk : Option (RV → Bool)} {C : V → Prop} {Q : VK} {p : D → Option RV}
/-- an instance whose def of that name is to be called -/
structure AtM (X : Cx) (W : WX) (j : Nat) (nm : Str) (ms : List (Str × Bool × Fm)) (C : V → Prop) (σ : L2.St) (v : V) (H : Hp) (Q : VK) : Prop where
  ex : ∃ (p g : Addr) (k : Nat) (sp : Sp) (x : Str) (sb : Bool) (m : Fm), v = .ref p ∧ k ≤ j ∧ Callee X.prog X.w X.K X.mg X.base k g sp ∧ ms.lookup x = some (sb, m) ∧ Meth X.K (He.ga X.K x) nm g ∧
    (∀ (pins : List (Addr × Obj)) (s : Shared), Inv X pins σ H s → ∃ (dx : Addr) (sl : Array (Option Value)) (od : Obj), PySem.W.InstAt s.heap p ⟨.ref (He.ga X.K x), some dx, .plain, sl⟩ (He.ga X.K x) (some od)) ∧ sp [v] H (fun z H' => C z ∧ Q z H') (WE W σ)
theorem own1_rd (k : MethK X.prog X.w X.K X.mg X.base j nm ms) (hC : ChkC X.K chk C) (o : Ok X.K c) (rx : RvR X.K c1 c v x) (nx : ∀ d, x ≠ .fr d) (h : Rem X.K W (RvR X.K) c (ownU nm ms chk p x c.g) Q) :
    AtM X W j nm ms C c.σ v c.H Q ∨ ∃ a, RdD X.K c v a ∧ Gives X.K c (p a) Q := by
  unfold ownU at h
  split at h
  · rename_i a ea
    have ra := deref_rd o rx ea
    split at h
    · rename_i m em
      obtain ⟨y, hy⟩ := pick_cls em
      obtain ⟨sb, hl⟩ := pick_lk em hy
      obtain ⟨p, g, k', rfl, hk, hc, hm, hi⟩ := meth_k k o ra em hy
      exact .inl ⟨p, g, k', _, y, sb, m, rfl, hk, hc, hl, hm, hi, back_call (c0 := c) hC o (.cons ⟨_, rx, nx⟩ .nil) h⟩
    · exact .inr ⟨a, ra, gives_of h⟩
  · exact h.elim
theorem rd1S {fa : Ft} {σ : L2.St} {H : Hp} {R : V → Hp → Prop} (h : rdE X.K W (unO nm ms chk p fa) σ H Q)
    (hr : ∀ c c1 v x, c.σ = σ → Ok X.K c → RvR X.K c1 c v x → (∀ d, x ≠ .fr d) → Rem X.K W (RvR X.K) c (ownU nm ms chk p x c.g) Q → R v c.H) :
    rdE X.K W fa σ H R := by
  obtain ⟨I, g, o, r⟩ := h
  have nf := nofr_of (f := fa) (g := g)
  refine ⟨I, g, o, Rem.settle ?_⟩
  unfold unO at r
  revert nf r
  generalize settle (fa g) = sa
  intro r nf
  cases sa with
  | stuck => exact r
  | exn c fs g' => exact r
  | ok x g1 =>
    intro I1 H1 v o1 y1 rx
    exact hr ⟨I1, σ, H1, g1⟩ ⟨I, σ, H, g⟩ v x rfl o1 rx (nf x g1 rfl) (Rem.go (c0 := ⟨I, σ, H, g⟩) (c1 := ⟨I1, σ, H1, g1⟩) y1 rfl r)
end
theorem tru_rd {K : PySem.W.Frag} {c : Cfg} {v : V} {d : D} {k : Bool} (o : Ok K c) (rd : RdD K c v d) (et : truth d = some k) : TruV K v c.H k := by
    cases d <;> simp only [truth] at et <;> first | cases et | skip
    · rw [rd.non]; rfl
    · rw [rd.bl]; rfl
    · rw [rd.int]; rfl
    · rw [rd.str]
      split at et
      · cases et
        exact ⟨by assumption, rfl⟩
      · cases et
    · obtain ⟨p, xs, rfl, hq, hr⟩ := rd.lst o
      exact .inl ⟨xs, SqL.of hq, (isEmpty_reps hr).symm⟩
    · obtain ⟨p, xs, rfl, hq, hr⟩ := rd.tup o
      exact .inr (.inl ⟨xs, hq, (isEmpty_reps hr).symm⟩)
section
variable {X : Cx} {W : WX} {e : Expr} {fe : Ft} {pos : Pos} {j : Nat} {ms : List (Str × Bool × Fm)}
theorem vals1 (p : Addr) : Vals [V.ref p] [Value.ref p] := .cons rfl .nil
/-- - x -/
theorem ve_negO {a : Expr} {fa : Ft} (hr : Room j X.A) (tk : Takes X W) (k : MethK X.prog X.w X.K X.mg X.base j "__neg__" ms) (ha : VE X W a fa) : VE X W (.UnaryOp .USub a pos) (unO "__neg__" ms none negP fa) := by
  refine ⟨⟨fun pins s σ H Q I h => ?_⟩⟩
  have h1 := rd1S (R := fun v H' => AtM X W j "__neg__" ms (fun _ => True) σ v H' Q ∨ ∃ i, v = .int i ∧ Q (.int (-i)) H') h fun c c1 v x e o rx nx q => by
    rcases own1_rd (chk := none) (C := fun _ => True) k (fun _ => trivial) o rx nx q with z | ⟨d, rd, q⟩
    · rw [e] at z; exact .inl z
    · cases d <;> first | exact q.elim | skip
      rename_i i
      exact .inr ⟨i, rd.int, q.now o (.int _)⟩
  refine UnaryOp_ (thn (ha.pe.run pins s σ H _ I h1) fun u s1 ⟨v, H1, I1, ru, q⟩ => ?_)
  rcases q with ⟨p, g, k', sp, y, sb, m, rfl, hk, hc, hl, hm, hi, q⟩ | ⟨i, rfl, q⟩
  · obtain ⟨dx, sl, od, J⟩ := hi pins s1 I1
    cases ru
    obtain ⟨mF, hF⟩ := I1.fr
    refine PySem.W.ksp_neg hF I1.ok.mod.kin J hm.at_ hm.fn (wpAny_mono (call_at rfl rfl hc (hr.mono hk) tk I1 (vals1 p) q) (fun w s' ⟨z, H', I', rz, q2⟩ => ⟨z, H', I', rz, q2.2⟩) fun _ _ e => e)
  · exact un_neg pins s1 σ H1 _ u Q I1 ru ⟨i, rfl, q⟩
/-- x as a test -/
def truD (d : D) : Option RV := (truth d).map fun b => .val (.bl b)
theorem vt_truO (hr : Room j X.A) (tk : Takes X W) (k : MethK X.prog X.w X.K X.mg X.base j "__bool__" ms) (h : VE X W e fe) (he : ∀ whole, isTrue e X.env whole = (do let v ← whole; standAt e.pos; holding [v] (truthy v)) := by intro _; rfl) : VT X W e (blF (unO "__bool__" ms (some chBl) truD fe)) := by
  refine ⟨⟨fun pins s σ H Q I ⟨J, g, o, q⟩ => ?_⟩⟩
  have h1 := rd1S (R := fun v H' => AtM X W j "__bool__" ms (fun z => ∃ b, z = .bl b) σ v H' (fun x H' => ∃ k, x = .bl k ∧ Q k H') ∨ ∃ k, TruV X.K v H' k ∧ Q k H') (Q := fun x H' => ∃ k, x = .bl k ∧ Q k H') ⟨J, g, o, blF_rem q⟩ fun c c1 v x e o rx nx q => by
    rcases own1_rd (chk := some chBl) (C := fun z => ∃ b, z = .bl b) k (fun _ _ _ _ r e => chBl_v r e) o rx nx q with z | ⟨d, rd, q⟩
    · rw [e] at z; exact .inl z
    · unfold truD at q
      cases et : truth d with
      | none => rw [et] at q; exact q.elim
      | some b =>
        rw [et] at q
        obtain ⟨k, ek, hq⟩ := q.now (v := .bl b) o (.bl _)
        cases ek
        exact .inr ⟨b, tru_rd o rd et, hq⟩
  refine isTrue_plain (thn (h.pe.run pins s σ H _ I h1) fun u s1 ⟨v, H1, I1, ru, q⟩ => ?_) (he _)
  rcases q with ⟨p, g, k', sp, y, sb, m, rfl, hk, hc, hl, hm, hi, q⟩ | q
  · obtain ⟨dx, sl, od, J⟩ := hi pins s1 I1
    cases ru
    obtain ⟨mF, hF⟩ := I1.fr
    refine PySem.W.truthy_K hF I1.ok.mod.kin J hm.at_ hm.fn (wpAny_mono (call_at rfl rfl hc (hr.mono hk) tk I1 (vals1 p) q) (fun w s' ⟨z, H', I', rz, _, b, ez, hb⟩ => ?_) fun _ _ e => e)
    subst ez
    cases rz
    exact ⟨H', I', hb⟩
  · exact tru_ok pins s1 σ H1 v u Q I1 ru q
/-- len(x) -/
theorem ve_lenO {p : Pos} (hr : Room (j + 1) X.A) (tk : Takes X W) (k : MethK X.prog X.w X.K X.mg X.base j "__len__" ms) (hg : Gl X "len") (hm : X.mg "len" = none) (ha : VE X W e fe)
    (he : starEach [e] X.env = (false, eval e X.env) :: starEach [] X.env := by rfl) (hpl : (backTo pos (starEach [] X.env)).any (·.1) = false := by rfl) : VE X W (.Call (.Name "len" p) [e] [] pos) (unO "__len__" ms (some chInt) (fun d => lenP [d]) fe) := by
  refine ⟨⟨fun pins s σ H Q I h => ?_⟩⟩
  obtain ⟨r, c1, c2⟩ := (c_len (X := X)).ex
  have h1 := rd1S (R := fun v H' => ∃ v', [v] = [v'] ∧ (AtM X W j "__len__" ms (fun z => ∃ n, z = .int n ∧ 0 ≤ n ∧ n < 2 ^ 63) σ v' H' Q ∨ r [v'] H' Q)) h fun c c1 v x e o rx nx q => by
    refine ⟨v, rfl, ?_⟩
    rcases own1_rd (chk := some chInt) (C := fun z => ∃ n, z = .int n ∧ 0 ≤ n ∧ n < 2 ^ 63) k (fun _ _ _ _ r e => chInt_v r e) o rx nx q with z | ⟨d, rd, q⟩
    · rw [e] at z; exact .inl z
    · exact .inr (c2 c [v] [d] Q o (.cons rd .nil) q)
  refine wpAny_Call_Name_kw (ld_blt (u := .builtin "len") I hg hm (by decide +kernel) ?_ (by decide) (by decide))
  refine PyProof.Rows.callWith_builtin1 (thn ((pa_cons ha.pe pa_nil he).run pos pins s σ H (fun vs H' => ∃ v', vs = [v'] ∧ (AtM X W j "__len__" ms (fun z => ∃ n, z = .int n ∧ 0 ≤ n ∧ n < 2 ^ 63) σ v' H' Q ∨ r [v'] H' Q)) I h1) fun us s1 ⟨vs, H1, I1, ru, v, ev, q⟩ => ?_) he hpl
  subst ev
  rcases q with ⟨p, g, k', sp, y, sb, m, rfl, hk, hc, hl, hm, hi, q⟩ | q
  · obtain ⟨dx, sl, od, J⟩ := hi pins s1 I1
    cases ru with
    | cons ru t =>
      cases t
      cases ru
      obtain ⟨mF, hF⟩ := I1.fr
      refine PySem.W.len_K hF I1.ok.mod.kin J hm.at_ hm.fn (wpAny_mono (call_at (A' := X.A.in1) rfl rfl hc (hr.in1.mono hk) tk I1 (vals1 p) q) (fun w s' ⟨z, H', I', rz, ⟨n, ez, hn⟩, hq⟩ => ?_) fun _ _ e => e)
      subst ez
      obtain ⟨t, rfl⟩ := rz
      exact ⟨hn, .int n, H', I'.tok _, ⟨_, rfl⟩, hq⟩
  · exact c1 pins s1 σ H1 [v] us Q I1 ru q
/-- str(x) -/
theorem ve_strO {p : Pos} (hr : Room (j + 2) X.A) (tk : Takes X W) (k : MethK X.prog X.w X.K X.mg X.base j "__str__" ms) (hg : Gl X "str") (hm : X.mg "str" = none) (ha : VE X W e fe)
    (he : starEach [e] X.env = (false, eval e X.env) :: starEach [] X.env := by rfl) (hpl : (backTo pos (starEach [] X.env)).any (·.1) = false := by rfl) : VE X W (.Call (.Name "str" p) [e] [] pos) (unO "__str__" ms (some chStr) (fun d => strP [d]) fe) := by
  refine ⟨⟨fun pins s σ H Q I h => ?_⟩⟩
  obtain ⟨r, c1, c2⟩ := (c_str (X := X)).ex
  have h1 := rd1S (R := fun v H' => ∃ v', [v] = [v'] ∧ (AtM X W j "__str__" ms (fun z => ∃ n, z = .str n) σ v' H' Q ∨ r [v'] H' Q)) h fun c c1 v x e o rx nx q => by
    refine ⟨v, rfl, ?_⟩
    rcases own1_rd (chk := some chStr) (C := fun z => ∃ n, z = .str n) k (fun _ _ _ _ r e => chStr_v r e) o rx nx q with z | ⟨d, rd, q⟩
    · rw [e] at z; exact .inl z
    · exact .inr (c2 c [v] [d] Q o (.cons rd .nil) q)
  refine wpAny_Call_Name_kw (ld_blt (u := .type "str") I hg hm (by decide +kernel) ?_ (by decide) (by decide))
  refine PyProof.Rows.callWith_type1 (thn ((pa_cons ha.pe pa_nil he).run pos pins s σ H (fun vs H' => ∃ v', vs = [v'] ∧ (AtM X W j "__str__" ms (fun z => ∃ n, z = .str n) σ v' H' Q ∨ r [v'] H' Q)) I h1) fun us s1 ⟨vs, H1, I1, ru, v, ev, q⟩ => ?_) he hpl
  subst ev
  rcases q with ⟨p, g, k', sp, y, sb, m, rfl, hk, hc, hl, hm, hi, q⟩ | q
  · obtain ⟨dx, sl, od, J⟩ := hi pins s1 I1
    cases ru with
    | cons ru t =>
      cases t
      cases ru
      have h2 := hr.un
      refine PySem.W.kso_call (by show X.A.units + 1 + 1 < cLine; omega) I1.kIn J hm.at_ hm.fn (wpAny_mono (call_at (A' := X.A.in1.in1) rfl rfl hc (hr.in1.in1.mono hk) tk I1 (vals1 p) q) (fun w s' ⟨z, H', I', rz, ⟨n, ez⟩, hq⟩ => ?_) fun _ _ e => e)
      subst ez
      obtain ⟨t, rfl⟩ := rz
      exact ⟨.str n, H', I', ⟨_, rfl⟩, hq⟩
  · exact c1 pins s1 σ H1 [v] us Q I1 ru q
end
end Vl
namespace Vl
open PySem PySem.Spec PyProof.Rows L2 My
/-! ### x in o -/
theorem contains_own {prog : Program} {w : World} {A : Around} {E : Value → Shared → Prop} {s : Shared} {K : PySem.W.Frag} {o C f : Addr} {ox : Obj} {od : Option Obj} {x : Value} {Q : Bool → Shared → Prop}
    (X : K.In s.heap) (I : PySem.W.InstAt s.heap o ox C od) (hs : PySem.W.findIn K (.ref C) "__contains__" = some (some (.ref f))) (hf : PySem.W.isFn K (.ref f) = true)
    (h : wpAny (model prog w) A (call (.ref f) [.ref o, x]) (fun r s' => ∃ b, r = .bool b ∧ Q b s') E s) : wpAny (model prog w) A (contains (.ref o) x) Q E s := by
  unfold contains
  refine wpAny_holding ?_
  have e : stdlibNamesSay? (.ref o) x = none := by cases x <;> rfl
  simp only [e]
  refine wpAny_bind (wpAny_bind (I.type.here ((PySem.W.looks_findIn X hs).here ?_)))
  have e2 : (some (Value.ref f) == some Value.none) = false := rfl
  simp only [e2, Bool.false_eq_true, if_false]
  unfold callSpecialUnlessNone?
  refine wpAny_bind (wpAny_bind (wpAny_bind (I.type.here ((PySem.W.looks_findIn X hs).here ?_))))
  dsimp only
  refine wpAny_holding (wpAny_bind ((PySem.W.bind_fn X (.ref o) (beq_iff_eq.mp hf)).here ?_))
  have e3 : (Value.ref f == Value.none) = false := rfl
  simp only [e3, Bool.false_eq_true, if_false]
  refine wpAny_bind (wpAny_mono h (fun r s' hr => ?_) fun _ _ y => y)
  obtain ⟨b, rfl, hq⟩ := hr
  exact wpAny_pure (wpAny_truthy_bool hq)
def owI (ms : List (Str × Bool × Fm)) : Ow := fun _ b => (pickM "__contains__" ms b).map (·, true)
section
variable {X : Cx} {j : Nat} {ms : List (Str × Bool × Fm)}
theorem ownB_in (hr : Room j X.A) (k : MethK X.prog X.w X.K X.mg X.base j "__contains__" ms) : OwnB X (compareOp .In) (fun z => ∃ b, z = .bl b) (owI ms) := ⟨by
  intro c v u a b m rv o ra rb h
  obtain ⟨m', h1, h2⟩ := Option.map_eq_some_iff.mp h
  cases h2
  obtain ⟨x, hx⟩ := pick_cls h1
  obtain ⟨p, g, k', rfl, hk, hc, hm, hi⟩ := meth_k k o rb h1 hx
  refine ⟨k', g, hc, hr.mono hk, fun pins s v' u' Q E I rv ru hw => ?_⟩
  obtain ⟨dx, sl, od, J⟩ := hi pins s I
  cases ru
  unfold compareOp
  refine wpAny_bind (contains_own I.kIn J hm.at_ hm.fn (wpAny_mono hw (fun r s' hr => ?_) fun _ _ y => y))
  obtain ⟨h1, z, rz, b, rfl⟩ := hr
  cases rz
  exact ⟨b, rfl, wpAny_pure h1⟩⟩
end
/-! ### != by the own == -/
theorem ne_slot : Slot "object" "__ne__" "object.__ne__" :=
  (Slot.of (T := "object") (name := "__ne__") (owner := "object") (n := "__ne__") (by rw [typeLookup_type, builtinLookup_eq_fast]; kernel_rfl) (by decide +kernel) (by decide +kernel) (by decide +kernel)
    (.inl (by decide +kernel)) (by rw [isSubtype_type]; kernel_rfl))
theorem ne_own {prog : Program} {w : World} {A : Around} {E : Value → Shared → Prop} {s : Shared} {K : PySem.W.Frag} {x C f : Addr} {ox : Obj} {od : Option Obj} {b tb : Value} {Q : Value → Shared → Prop}
    (hu : A.units + 1 < cLine) (X : K.In s.heap) (I : PySem.W.InstAt s.heap x ox C od) (hb : PySem.W.Looks (model prog w) s.heap (typeOf b) tb) (hn : PySem.W.notFirst K C tb = true)
    (hne : PySem.W.findIn K (.ref C) "__ne__" = some (some (.builtin "object.__ne__"))) (hm : PySem.W.mroIn K C (.type "object") = some true)
    (hs : PySem.W.findIn K (.ref C) "__eq__" = some (some (.ref f))) (hf : PySem.W.isFn K (.ref f) = true)
    (h : wpAny (model prog w) A.in1 (call (.ref f) [.ref x, b]) (fun r s' => ∃ k, r = .bool k ∧ Q (.bool (!k)) s') E s) : wpAny (model prog w) A (richCompare .NotEq (.ref x) b) Q E s := by
  have entry : wpAny (model prog w) A.in1 (Builtin.«object.__ne__» ⟨[.ref x, b], []⟩) (fun fin s' => ∃ k, fin = .done (.ret (.bool (!k))) ∧ Q (.bool (!k)) s') E s := by
    unfold Builtin.«object.__ne__»
    refine wpAny_bind (wpAny_pure ?_)
    refine wpAny_bind (wpAny_cRoomFor (by show A.units + 1 < cLine; exact hu) ?_)
    refine wpAny_bind (PySem.W.ifBound_K X I hs hf (wpAny_mono h (fun r s' hr => ?_) fun _ _ y => y))
    obtain ⟨k, rfl, hq⟩ := hr
    exact wpAny_bind (wpAny_truthy_bool (wpAny_pure ⟨k, rfl, hq⟩))
  have one : wpAny (model prog w) A (tryCompare (.ref x) "__ne__" b) (fun r s' => ∃ k, r = some (.bool (!k)) ∧ Q (.bool (!k)) s') E s := by
    unfold tryCompare
    refine wpAny_bind ?_
    simp only [callSpecialIfBound?, bindSpecialIfBound?]
    refine wpAny_holding (wpAny_bind (wpAny_bind (wpAny_bind (I.type.here ((PySem.W.looks_findIn X hne).here ?_)))))
    refine wpAny_bind (wpAny_askSetting (wpAny_ite ?_))
    have fin : wpAny (model prog w) A (call (.builtin "object.__ne__") ([.ref x] ++ [b]) >>= fun v => pure (some v)) (fun a s' => wpAny (model prog w) A (match a with | some .notImplemented | none => pure none | some v => pure (some v)) (fun r s' => ∃ k, r = some (.bool (!k)) ∧ Q (.bool (!k)) s') E s') E s := by
      refine wpAny_bind (wpAny_call (codeAny_call_builtin ne_slot.plain F.cmpEntry_ne (PySem.W.check_slot F.cmpKind_ne F.cmpSplit_ne (I.type.andThen (PySem.W.looks_mroIn X hm)) (F.cmpArgs_ne _ _) (wpAny_mono entry (fun fin s' hf => ?_) fun _ _ y => y))))
      obtain ⟨k, rfl, hq⟩ := hf
      exact wpAny_pure (wpAny_pure ⟨k, rfl, hq⟩)
    split
    · exact wpAny_bind (wpAny_of_eq (ne_slot.bind _) (wpAny_pure (by exact fin)))
    · exact wpAny_tryCatch (wpAny_bind (wpAny_of_eq (ne_slot.bind _) (wpAny_pure (by exact fin))))
  unfold richCompare
  have e1 : oneThing? .NotEq (.ref x) b = none := by cases b <;> rfl
  simp only [e1]
  refine wpAny_holding (wpAny_bind (wpAny_cRoomFor (by omega) ?_))
  refine wpAny_bind (I.type.here (wpAny_bind (hb.here ?_)))
  split
  · rename_i q
    have e : PySem.W.subIn K tb (.ref C) = some false := by
      rcases Bool.or_eq_true_iff.mp hn with e | e
      · rw [beq_iff_eq.mp e] at q; simp at q
      · exact beq_iff_eq.mp e
    refine wpAny_bind ((PySem.W.looks_subIn X e).here ?_)
    simp only [Bool.false_eq_true, if_false]
    refine wpAny_bind (wpAny_mono one (fun r s' z => ?_) fun _ _ e => e)
    obtain ⟨k, rfl, hq⟩ := z
    exact wpAny_pure hq
  · refine wpAny_bind (wpAny_pure ?_)
    simp only [Bool.false_eq_true, if_false]
    refine wpAny_bind (wpAny_mono one (fun r s' z => ?_) fun _ _ e => e)
    obtain ⟨k, rfl, hq⟩ := z
    exact wpAny_pure hq
/-- the other truth value -/
def notR (r : Res RV) : Res RV := (settle r).bind fun z g => match z with
  | .val (.bl b) => .ok (.val (.bl (!b))) g
  | _ => .stuck
def ownN (ms : List (Str × Bool × Fm)) (p : D → D → Option RV) (x y : RV) (g : Sg) : Res RV := match deref g x, deref g y with
  | some a, some b => (match owC "__eq__" ms a b with
    | some (m, _) => notR (callK m [x, y] g)
    | none => (match p a b with | some r => .ok r g | none => .stuck))
  | _, _ => .stuck
def neO (ms : List (Str × Bool × Fm)) (p : D → D → Option RV) (fa fb : Ft) : Ft := fun g => (settle (fa g)).bind fun x g1 => (settle (fb g1)).bind fun y g2 => ownN ms p x y g2
structure NeK (K : PySem.W.Frag) (c : Str) : Prop where
  ne : PySem.W.findIn K (.ref (He.ga K c)) "__ne__" = some (some (.builtin "object.__ne__"))
  mro : PySem.W.mroIn K (He.ga K c) (.type "object") = some true
def neB (K : PySem.W.Frag) (c : Str) : Bool := He.eqO (PySem.W.findIn K (.ref (He.ga K c)) "__ne__") (some (some (.builtin "object.__ne__"))) && decide (PySem.W.mroIn K (He.ga K c) (.type "object") = some true)
theorem neK_ok {K : PySem.W.Frag} {c : Str} (h : neB K c = true) : NeK K c := by
  obtain ⟨h1, h2⟩ := Bool.and_eq_true_iff.mp h
  exact ⟨He.eqO_ok h1, of_decide_eq_true h2⟩
def NeKs (K : PySem.W.Frag) (ms : List (Str × Bool × Fm)) : Prop := ∀ c b m, ms.lookup c = some (b, m) → NeK K c
theorem neKs_nil {K : PySem.W.Frag} : NeKs K [] := fun c b m e => nomatch e
theorem neKs_cons {K : PySem.W.Frag} {c : Str} {b : Bool} {m : Fm} {ms : List (Str × Bool × Fm)} (h : NeK K c) (t : NeKs K ms) : NeKs K ((c, b, m) :: ms) := fun c' b' m' e => by
  rw [List.lookup_cons] at e
  split at e
  · rename_i q
    rw [eq_of_beq q]
    exact h
  · exact t c' b' m' e
section
variable {X : Cx} {W : WX} {a b : Expr} {fa fb : Ft} {pos : Pos} {p : D → D → Option RV} {j : Nat} {ms : List (Str × Bool × Fm)}
/-- a reading of != -/
def rNeO (X : Cx) (W : WX) (r : R2) : L2.St → R2 := fun σ v u H Q => r v u H Q ∨ ∃ (k : Nat) (g : Addr) (sp : Sp), Callee X.prog X.w X.K X.mg X.base k g sp ∧ Room k X.A.in1 ∧
  (∀ (pins : List (Addr × Obj)) (s : Shared) (v' u' : Value) (Q : Value → Shared → Prop) (E : Value → Shared → Prop), Inv X pins σ H s → RelV v v' → RelV u u' → wpAny (model X.prog X.w) X.A.in1 (call (.ref g) [v', u']) (fun r s' => ∃ k, r = .bool k ∧ Q (.bool (!k)) s') E s →
      wpAny (model X.prog X.w) X.A (compareOp .NotEq v' u') Q E s) ∧ sp [v, u] H (fun z H' => ∃ b, z = .bl b ∧ Q (.bl (!b)) H') (WE W σ)
theorem opS_ne {r : R2} (hr : OpR X (compareOp .NotEq) r) (tk : Takes X W) : OpS X (compareOp .NotEq) (rNeO X W r) := by
  intro pins s σ H x y v u Q I rx ry h
  rcases h with h | ⟨k, g, sp, c, room, run, hs⟩
  · exact hr pins s σ H x y v u Q I rx ry h
  · refine run pins s v u _ _ I rx ry ?_
    refine wpAny_mono (call_at (A' := X.A.in1) rfl rfl c room tk I (.cons rx (.cons ry .nil)) hs) (fun w s' hw => ?_) fun _ _ e => e
    obtain ⟨z, H', I', rz, b, rfl, hq⟩ := hw
    cases rz
    exact ⟨b, rfl, .bl (!b), H', I', rfl, hq⟩
theorem ne_rd {r : R2} (hr : Room (j + 1) X.A) (k : MethK X.prog X.w X.K X.mg X.base j "__eq__" ms) (nk : NeKs X.K ms) (hk : ∀ c v u a b Q, Ok X.K c → RdD X.K c v a → RdD X.K c u b → Gives X.K c (p a b) Q → r v u c.H Q) {c c1 c3 : Cfg} {v u : V} {x y : RV} {Q : VK} (o : Ok X.K c)
    (rx : RvR X.K c1 c v x) (ry : RvR X.K c3 c u y) (nx : ∀ d, x ≠ .fr d) (ny : ∀ d, y ≠ .fr d) (h : Rem X.K W (RvR X.K) c (ownN ms p x y c.g) Q) : rNeO X W r c.σ v u c.H Q := by
  unfold ownN at h
  split at h
  · rename_i a b ea eb
    have ra := deref_rd o rx ea
    have rb := deref_rd o ry eb
    split at h
    · rename_i m rv em
      unfold owC at em
      split at em
      · rename_i ok
        obtain ⟨m', h1, h2⟩ := Option.map_eq_some_iff.mp em
        cases h2
        obtain ⟨x', hx⟩ := pick_cls h1
        obtain ⟨sb, hl⟩ := pick_lk h1 hx
        have N := nk x' sb m hl
        obtain ⟨p, g, k', rfl, hk, hc, hm, hi⟩ := meth_k k o ra h1 hx
        refine .inr ⟨k', g, _, hc, hr.in1.mono hk, fun pins s v' u' Q E I rv ru hw => ?_, call_sp (c0 := c) (I := c.I) (H := c.H) (σ := c.σ) (g := c.g) o (.cons ⟨_, rx, nx⟩ (.cons ⟨_, ry, ny⟩ .nil)) ?_⟩
        · obtain ⟨dx, sl, od, J⟩ := hi pins s I
          cases rv
          have hu : X.A.units + 1 < cLine := by have := hr.un; omega
          show wpAny _ _ (richCompare .NotEq (.ref p) u') _ _ _
          unfold okT at ok
          cases hb : clsN b with
          | some y =>
            rw [hb, hx] at ok
            have e : x' = y := by simpa using ok
            subst e
            exact ne_own hu I.kIn J (ty_inst o rb hb I ru) (by simp [PySem.W.notFirst]) N.ne N.mro hm.at_ hm.fn hw
          | none =>
            rw [hb] at ok
            obtain ⟨t, ht⟩ := Option.isSome_iff_exists.mp ok
            exact ne_own hu I.kIn J (ty_base o rb ht I ru) (by simp [PySem.W.notFirst, mro_noref (tyN_base ht)]) N.ne N.mro hm.at_ hm.fn hw
        · refine Rem.settle ?_
          unfold notR at h
          revert h
          generalize settle (callK m [x, y] c.g) = r
          intro h
          cases r with
          | stuck => exact h
          | exn y fs g' => exact h
          | ok z g' =>
            intro I1 H1 w o1 y1 rz
            have r1 := Rem.go (c0 := c) (c1 := ⟨I1, c.σ, H1, g'⟩) y1 rfl h
            dsimp only [Res.bind] at r1
            split at r1
            · rename_i b
              cases rz
              exact ⟨b, rfl, r1 I1 H1 (.bl (!b)) o1 (Go.refl _) (.bl _)⟩
            · exact r1.elim
      · cases em
    · exact .inl (hk c v u a b Q o ra rb (gives_of h))
  · exact h.elim
theorem ve_neO (h : P2 X (compareOp .NotEq) p) (hr : Room (j + 1) X.A) (tk : Takes X W) (mk : MethK X.prog X.w X.K X.mg X.base j "__eq__" ms) (nk : NeKs X.K ms) (ha : VE X W a fa) (hb : VE X W b fb) (hm : behindInMarks .NotEq b = false) : VE X W (.Compare a [.NotEq] [b] pos) (neO ms p fa fb) := by
  obtain ⟨r, hr', k⟩ := h.ex
  have os := opS_ne (W := W) hr' tk
  refine ⟨pe_imp (t := tOpS (rNeO X W r) (rdE X.K W fa) (rdE X.K W fb)) ⟨fun pins s σ H Q I h => ?_⟩ fun σ H Q q => ?_⟩
  · exact wpAny_Compare1 (binT ha.pe hb.pe I h fun v u s2 x y H2 I2 rx ry q => os pins s2 σ H2 x y v u Q I2 rx ry q) hm
  · exact rd2S (kk := ownN ms p) q fun c c1 c3 v u x y e o rx ry nx ny h => by
      have := ne_rd (W := W) hr mk nk k o rx ry nx ny h
      rw [e] at this
      exact this
theorem vt_neO (h : P2 X (compareOp .NotEq) p) (hr : Room (j + 1) X.A) (tk : Takes X W) (mk : MethK X.prog X.w X.K X.mg X.base j "__eq__" ms) (nk : NeKs X.K ms) (ha : VE X W a fa) (hb : VE X W b fb) (hm : behindInMarks .NotEq b = false) : VT X W (.Compare a [.NotEq] [b] pos) (blF (neO ms p fa fb)) := by
  obtain ⟨r, hr', k⟩ := h.ex
  have os := opS_ne (W := W) hr' tk
  refine ⟨⟨fun pins s σ H Q I q => ?_⟩⟩
  obtain ⟨J, g, o, q⟩ := q
  have q2 := rd2S (kk := ownN ms p) (fa := fa) (fb := fb) (R := fun v u H' => rNeO X W r σ v u H' fun z H'' => ∃ k, z = .bl k ∧ Q k H'') ⟨J, g, o, blF_rem q⟩ fun c c1 c3 v u x y e o rx ry nx ny h => by
      have := ne_rd (W := W) hr mk nk k o rx ry nx ny h
      rw [e] at this
      exact this
  refine wpAny_isTrue_Compare1 (thn (ha.pe.run pins s σ H _ I q2) fun v s1 ⟨x, H1, I1, r1, q1⟩ => thn (hb.pe.run pins s1 σ H1 _ I1 q1) fun u s2 ⟨y, H2, I2, r2, q2⟩ =>
    thn (os pins s2 σ H2 x y v u _ I2 r1 r2 q2) fun c s3 ⟨z, H3, I3, r3, k, e, q3⟩ => ?_) hm
  subst e
  cases r3
  exact wpAny_truthy_bool ⟨H3, I3, q3⟩
end
end Vl

set_option Elab.async false
set_option linter.all false
set_option maxRecDepth 100000
set_option maxHeartbeats 2000000
/-! the value layer: the order of data, texts with fields -/
namespace Vl
open PySem PySem.Spec PyProof.Rows L2 My
/-! ### < of tuples and lists of numbers and texts -/
def noNone : PyData → Bool | .none => false | _ => true
theorem noNone_ne {d : PyData} (h : noNone d = true) : d ≠ .none := fun e => by subst e; cases h
def datP (f : PyData → PyData → Bool) (a b : D) : Option RV := match toP a, toP b with
  | some x, some y => if (PySem.W.alike x y && (noNone x && decide (x.depth ≤ 60))) = true then vB (f x y) else none
  | _, _ => none
def orP (p q : D → D → Option RV) (a b : D) : Option RV := match p a b with
  | some r => some r
  | none => q a b
def ltQ : D → D → Option RV := orP ltP (datP PySem.W.dataLt)
def leQ : D → D → Option RV := orP leP (datP fun x y => !PySem.W.dataLt y x)
def gtQ : D → D → Option RV := orP gtP (datP fun x y => PySem.W.dataLt y x)
def geQ : D → D → Option RV := orP geP (datP fun x y => !PySem.W.dataLt x y)
section
variable {X : Cx} {f : Value → Value → Sem Value} {p q : D → D → Option RV}
theorem P2.or' (h1 : P2 X f p) (h2 : P2 X f q) : P2 X f (orP p q) := by
  obtain ⟨r1, o1, k1⟩ := h1.ex
  obtain ⟨r2, o2, k2⟩ := h2.ex
  refine ⟨_, o1.or o2, fun c v u a b Q o ra rb h => ?_⟩
  unfold orP at h
  cases e : p a b with
  | some r => rw [e] at h; exact .inl (k1 c v u a b Q o ra rb (by rw [e]; exact h))
  | none => rw [e] at h; exact .inr (k2 c v u a b Q o ra rb h)
theorem p_dat {op : CmpOp} {g : PyData → PyData → Bool} (hu : X.A.units + 65 < cLine)
    (hc : ∀ (s : Shared) (a b : Value) (da db : PyData) (as bs : List Addr) (Q E : Value → Shared → Prop), Reads s.heap a da as → Reads s.heap b db bs → PySem.W.alike da db = true → da ≠ .none → X.A.units + min da.depth db.depth < cLine → Q (.bool (g da db)) s → wpAny (model X.prog X.w) X.A (compareOp op a b) Q E s) :
    P2 X (compareOp op) (datP g) := by
  refine ⟨fun x y H Q => ∃ d e, Dp X.K H x d ∧ Dp X.K H y e ∧ PySem.W.alike d e = true ∧ noNone d = true ∧ d.depth ≤ 60 ∧ Q (.bl (g d e)) H, fun pins s σ H x y v u Q I rx ry h => ?_, fun c v u a b Q o ra rb h => ?_⟩
  · obtain ⟨d, e, hd, he, ha, hn, hz, q⟩ := h
    obtain ⟨as, r1⟩ := Dp.reads I d x v hd rx
    obtain ⟨bs, r2⟩ := Dp.reads I e y u he ry
    exact hc s v u d e as bs _ _ r1 r2 ha (noNone_ne hn) (by have : min d.depth e.depth ≤ d.depth := Nat.min_le_left _ _; omega) ⟨.bl _, H, I, rfl, q⟩
  · unfold datP at h
    split at h
    · rename_i x y ex ey
      split at h
      · rename_i hk
        simp only [Bool.and_eq_true, decide_eq_true_eq] at hk
        exact ⟨x, y, ra.dp o ex, rb.dp o ey, hk.1, hk.2.1, hk.2.2, h.now o (.bl _)⟩
      · exact h.elim
    · exact h.elim
theorem p_ltQ (hu : X.A.units + 65 < cLine) : P2 X (compareOp .Lt) ltQ := (p_lt (by omega)).or' (p_dat hu fun _ _ _ _ _ _ _ _ _ ra rb h hn hz hq => PySem.W.lt_data ra rb h hn hz hq)
theorem p_leQ (hu : X.A.units + 65 < cLine) : P2 X (compareOp .LtE) leQ := p_le.or' (p_dat hu fun _ _ _ _ _ _ _ _ _ ra rb h hn hz hq => PySem.W.le_data ra rb h hn hz hq)
theorem p_gtQ (hu : X.A.units + 65 < cLine) : P2 X (compareOp .Gt) gtQ := p_gt.or' (p_dat hu fun _ _ _ _ _ _ _ _ _ ra rb h hn hz hq => PySem.W.gt_data ra rb h hn hz hq)
theorem p_geQ (hu : X.A.units + 65 < cLine) : P2 X (compareOp .GtE) geQ := p_ge.or' (p_dat hu fun _ _ _ _ _ _ _ _ _ ra rb h hn hz hq => PySem.W.ge_data ra rb h hn hz hq)
end
/-! ### texts with fields -/
def fmtP : D → Option RV
  | .str y => if y.length ≤ sizeLine then some (.val (.str y)) else none
  | .int i => if i.natAbs.log2 < 1920 then some (.val (.str (toString i))) else none
  | _ => none
def fstF : List Ft → Str → Ft
  | [], acc => fun g => .ok (.val (.str acc)) g
  | f :: fs, acc => fun g => (f g).bind fun x g1 => match x with
    | .val (.str y) => if (acc ++ y).length ≤ sizeLine then fstF fs (acc ++ y) g1 else .stuck
    | _ => .stuck
section
variable {X : Cx} {W : WX} {e : Expr} {fe : Ft} {pos : Pos}
theorem ve_fmt (he : VE X W e fe) : VE X W (.FormattedValue e (-1) none pos) (op1 fmtP fe) := ⟨pe_imp (pe_fmt he.pe) fun σ H Q ⟨I, g, o, r⟩ => by
  refine ⟨I, g, o, Rem.settle ((Rem.bind (R := RvR X.K) r).mono ?_)⟩
  rintro v H1 ⟨I1, g1, x, o1, y1, rx, r1⟩
  obtain ⟨d, rd, q⟩ := lift1_gives o1 rx r1
  cases d <;> simp only [fmtP] at q <;> first | exact q.elim | skip
  · rename_i i
    split at q
    · rename_i hz
      exact .inr ⟨i, rd.int, hz, q.now o1 (.str _)⟩
    · exact q.elim
  · rename_i y
    split at q
    · rename_i hz
      exact .inl ⟨y, rd.str, hz, q.now o1 (.str _)⟩
    · exact q.elim⟩
inductive VJ (X : Cx) (W : WX) : List Expr → List Ft → Prop where
  | nil : VJ X W [] []
  | cons {e : Expr} {f : Ft} {es : List Expr} {fs : List Ft} (h : VE X W e f) (r : VJ X W es fs) : VJ X W (e :: es) (f :: fs)
theorem VJ.pj : ∀ {es : List Expr} {fs : List Ft}, VJ X W es fs → PJ X es (fs.map (rdE X.K W))
  | _, _, .nil => .nil
  | _, _, .cons h r => .cons h.pe r.pj
theorem fst_rd : ∀ {fs : List Ft} {acc : Str} {σ : L2.St} {H : Hp} {Q : VK}, rdE X.K W (fstF fs acc) σ H Q → tJs (fs.map (rdE X.K W)) acc σ H fun out H1 => Q (.str out) H1
  | [], acc, σ, H, Q, ⟨I, g, o, r⟩ => r I H (.str acc) o (Go.refl _) (.str _)
  | f :: fs, acc, σ, H, Q, ⟨I, g, o, r⟩ => by
    refine ⟨I, g, o, (Rem.bind (R := RvR X.K) r).mono ?_⟩
    rintro v H1 ⟨I1, g1, x, o1, y1, rx, r1⟩
    split at r1
    · rename_i y
      cases rx
      split at r1
      · rename_i hz
        exact ⟨y, rfl, hz, fst_rd ⟨I1, g1, o1, r1⟩⟩
      · exact r1.elim
    · exact r1.elim
theorem ve_fst {v1 v2 : Expr} {rest : List Expr} {fs : List Ft} (h : VJ X W (v1 :: v2 :: rest) fs) : VE X W (.JoinedStr (v1 :: v2 :: rest) pos) (fstF fs Str.empty) :=
  ⟨pe_imp (pe_joined h.pj) fun σ H Q q => fst_rd q⟩
end
/-! ### objects that stay as they are made -/
def settleF (f : Ft) : Ft := fun g => settle (f g)
theorem ve_settle {X : Cx} {W : WX} {e : Expr} {f : Ft} (h : VE X W e f) : VE X W e (settleF f) := h.settle
/-! ### a < b < c as a value -/
def chV (p q : D → D → Option RV) (fa fb fc : Ft) : Ft := fun g => (chB p q fa fb fc g).bind fun k g1 => .ok (.val (.bl k)) g1
theorem Gives.mono {K : PySem.W.Frag} {c : Cfg} {p : Option RV} {Q Q' : VK} (h : Gives K c p Q) (m : ∀ v H, Q v H → Q' v H) : Gives K c p Q' := by
  cases p with
  | none => exact h
  | some r => exact fun I H v o y rv => m v H (h I H v o y rv)
theorem ve_chain {X : Cx} {W : WX} {op op' : CmpOp} {p q : D → D → Option RV} {a b c : Expr} {fa fb fc : Ft} {pos : Pos} (h : P2 X (compareOp op) p) (h' : P2 X (compareOp op') q) (ha : VE X W a fa) (hb : VE X W b fb) (hc : VE X W c fc)
    (hm : lastMarks [op, op'] [b, c] = false := by with_unfolding_all rfl) : VE X W (.Compare a [op, op'] [b, c] pos) (chV p q fa fb fc) := by
  obtain ⟨r, hr, k⟩ := h.ex
  obtain ⟨r', hr', k'⟩ := h'.ex
  refine ⟨pe_imp (pe_chain hr hr' ha.pe hb.pe hc.pe hm) fun σ H Q ⟨I, g, o, h0⟩ => ?_⟩
  have h1 : Rem X.K W RbR ⟨I, σ, H, g⟩ (chB p q fa fb fc g) fun k H => Q (.bl k) H := (Rem.bind (R := RbR) h0).mono fun v H1 ⟨I1, g1, x, o1, y1, rx, r1⟩ => by
    cases rx
    exact r1 I1 H1 (.bl v) o1 (Go.refl _) (.bl _)
  refine ⟨I, g, o, Rem.settle ((Rem.bind (R := RvR X.K) h1).mono ?_)⟩
  rintro v H1 ⟨I1, g1, x, o1, y1, rx, h2⟩
  refine ⟨I1, g1, o1, Rem.settle ((Rem.bind (R := RvR X.K) h2).mono ?_)⟩
  rintro u H2 ⟨I2, g2, y, o2, y2, ry, h3⟩
  have rx2 := RvR.on (c1 := ⟨I1, σ, H1, g1⟩) o2 rfl y2 rx
  have h4 := blF_rem (Rem.bind (R := RbR) h3)
  obtain ⟨da, db, ra, rb, gv⟩ := lift2_gives (c := ⟨I2, σ, H2, g2⟩) o2 rx2 ry h4
  refine k ⟨I2, σ, H2, g2⟩ v u da db _ o2 ra rb ?_
  cases ep : p da db with
  | none => rw [ep] at gv; exact gv.elim
  | some rv =>
    rw [ep] at gv
    intro I3 H3 w o3 y3 rw3
    obtain ⟨kb, ew, I4, g4, x4, o4, y4, e4, h5⟩ := gv I3 H3 w o3 y3 rw3
    subst e4
    refine ⟨kb, ew, ?_⟩
    cases kb with
    | false => exact h5 I4 H3 false o4 (Go.refl _) rfl
    | true =>
      refine ⟨I4, g4, o4, Rem.settle ((Rem.bind (R := RvR X.K) h5).mono ?_)⟩
      rintro z H5 ⟨I5, g5, x5, o5, y5, rz, h6⟩
      obtain ⟨dc, dd, rc, rd, gv2⟩ := lift2_gives (c := ⟨I5, σ, H5, g5⟩) o5 (RvR.on (c1 := ⟨I2, σ, H2, g2⟩) o5 rfl (y4.trans y5) ry) rz (blF_rem h6)
      exact k' ⟨I5, σ, H5, g5⟩ u z dc dd _ o5 rc rd (gv2.mono fun v H ⟨k, e, q⟩ => by subst e; exact q)
end Vl

set_option Elab.async false
set_option linter.all false
set_option maxRecDepth 100000
set_option maxHeartbeats 2000000
/-! the value layer: instances called -/
namespace Vl
open PySem PySem.Spec PyProof.Rows L2 My
/-- as KCal, for the code of a call -/
def CodC (P : Program) (w : World) (K : PySem.W.Frag) (mg : Str → Option Value) (base : Heap) (k : Nat) (v : Addr) (n : Nat) (ks : List Str) (gV : List V → List V → List V) (sp : Sp) : Prop :=
  ∀ (X : Cx) (pins : List (Addr × Obj)) (σ : L2.St) (H : Hp) (s : Shared) (us ws : List Value) (vs zs : List V) (Q : VK) (E : XK), X.prog = P → X.w = w → X.K = K → X.mg = mg → X.base = base →
    Room k X.A → PassesAt (L2.CX X.prog X.w) X σ E → Inv X pins σ H s → Vals vs us → Vals zs ws → vs.length = n → zs.length = ks.length → sp (gV vs zs) H Q E →
    codeAny (model X.prog X.w) X.A (.call (.ref v) ⟨us, ks.zip ws⟩) (fun r s' => match r with | .ok (.ret v) => EP X pins σ Q v s' | .ok _ => False | .error e => X.xe e s') s
section
variable {P : Program} {w : World} {K : PySem.W.Frag} {mg : Str → Option Value} {base : Heap} {k n : Nat} {v f C : Addr} {fd : FuncData} {ps ks : List Str} {x : Str} {sp : Sp} {g : List Value → List Value → List Value} {gV gV' : List V → List V → List V}
theorem CodC.of_fn (F : FnOk P w K mg base (L2.CX P w) k f fd ps sp) (hb : KBn K fd ps n ks g gV) : CodC P w K mg base k f n ks gV sp := by
  rintro X pins σ H s us ws vs zs Q E rfl rfl rfl rfl rfl hr hx I r rz l1 l2 h
  have r2 := hb.rel r rz
  have e1 : us.length = n := r.length.symm.trans l1
  have e2 : ws.length = ks.length := rz.length.symm.trans l2
  refine codeAny_mono (F.run X.A X.stack s H ⟨us, ks.zip ws⟩ (g us ws) (gV vs zs) Q E hr I.env0 (hb.to s us ws I.kIn e1 e2) r2 h) fun r s' hq => ?_
  cases r with
  | error e => exact hx pins H s e s' I hq
  | ok fl =>
    cases fl with
    | ret u => exact I.after hq
    | next => exact False.elim hq
    | brk => exact False.elim hq
    | cont => exact False.elim hq
theorem CodC.of_fnr (F : FnR P w K mg base (L2.CX P w) k f sp) : CodC P w K mg base k f n [] (fun vs _ => vs) sp := by
  rintro X pins σ H s us ws vs zs Q E rfl rfl rfl rfl rfl hr hx I r rz l1 l2 h
  have e2 : zs = [] := List.length_eq_zero_iff.mp l2
  subst e2
  cases rz
  refine codeAny_mono (F X.A X.stack s H us vs Q E hr I.env0 r h) fun r s' hq => ?_
  cases r with
  | error e => exact hx pins H s e s' I hq
  | ok fl =>
    cases fl with
    | ret u => exact I.after hq
    | next => exact False.elim hq
    | brk => exact False.elim hq
    | cont => exact False.elim hq
end
/-- the own __call__ of the classes ms -/
structure CalR (K : PySem.W.Frag) (R : Addr → Nat → Fm → Prop) (j : Nat) (ms : List (Str × Bool × Fm)) : Prop where
  ex : ∀ c b m, ms.lookup c = some (b, m) → ∃ (g : Addr) (k : Nat), k ≤ j ∧ R g k m ∧ Meth K (He.ga K c) "__call__" g ∧ (b = false → Cls K (He.ga K c)) ∧ (b = true → SlX.SCls K (He.ga K c))
/-- by position; with keywords -/
abbrev CalP (P : Program) (w : World) (K : PySem.W.Frag) (mg : Str → Option Value) (base : Heap) : Addr → Nat → Fm → Prop := fun g k m => ∀ n, CodC P w K mg base k g n [] (fun vs _ => vs) (spV K m)
abbrev CalW (P : Program) (w : World) (K : PySem.W.Frag) (mg : Str → Option Value) (base : Heap) (n : Nat) (ks : List Str) (gD : List D → List D → List D) : Addr → Nat → Fm → Prop := fun g k m => ∃ gV, CodC P w K mg base k g (n + 1) ks gV (spV K m) ∧ ∀ I vs ds zs es, Reps K I vs ds → Reps K I zs es → Reps K I (gV vs zs) (gD ds es)
section
variable {K : PySem.W.Frag} {R : Addr → Nat → Fm → Prop} {j k : Nat} {c : Str} {m : Fm} {ms : List (Str × Bool × Fm)} {g : Addr}
theorem CalR.nil : CalR K R j [] := ⟨fun c b m h => nomatch h⟩
theorem CalR.pl (hk : k ≤ j) (hc : R g k m) (hm : Meth K (He.ga K c) "__call__" g) (h : Cls K (He.ga K c)) (t : CalR K R j ms) : CalR K R j ((c, false, m) :: ms) := ⟨fun c' b m' e => by
  rw [List.lookup_cons] at e
  split at e
  · rename_i q
    cases e
    rw [eq_of_beq q]
    exact ⟨g, k, hk, hc, hm, fun _ => h, (fun z => nomatch z)⟩
  · exact t.ex c' b m' e⟩
theorem CalR.sl (hk : k ≤ j) (hc : R g k m) (hm : Meth K (He.ga K c) "__call__" g) (h : SlX.SCls K (He.ga K c)) (t : CalR K R j ms) : CalR K R j ((c, true, m) :: ms) := ⟨fun c' b m' e => by
  rw [List.lookup_cons] at e
  split at e
  · rename_i q
    cases e
    rw [eq_of_beq q]
    exact ⟨g, k, hk, hc, hm, (fun z => nomatch z), fun _ => h⟩
  · exact t.ex c' b m' e⟩
theorem CalR.up {i : Nat} (h : CalR K R i ms) (hj : i ≤ j) : CalR K R j ms :=
  ⟨fun c b m e => let ⟨g, k, h1, h2⟩ := h.ex c b m e; ⟨g, k, Nat.le_trans h1 hj, h2⟩⟩
end
theorem fnIn_of {K : PySem.W.Frag} {g : Addr} (hf : PySem.W.isFn K (.ref g) = true) (hk : PySem.W.keepIn K (.ref g) = true) : PySem.W.fnIn K g = true := by
  unfold PySem.W.keepIn at hk
  dsimp only at hk
  split at hk
  · rename_i e
    unfold PySem.W.fnIn
    rw [e]
  · rename_i e
    have ht : PySem.W.typeIn K (.ref g) = some (.type "function") := beq_iff_eq.mp hf
    have h2 : PySem.W.specialIn K (.ref g) "__call__" = PySem.W.findIn K (.type "function") "__call__" := by
      unfold PySem.W.specialIn
      rw [ht]
      rfl
    have h3 : PySem.W.findIn K (.type "function") "__call__" = fastLookup "function" "__call__" := rfl
    rw [h2, h3] at hk
    exact absurd hk (by decide +kernel)
  · cases hk
/-- callWith, of an instance -/
theorem icallWith_of {M : Model} {A : Around} {E : Value → Shared → Prop} {s : Shared} {pos : Pos} {x : Addr} {first : List Value} {Q : Value → Shared → Prop} {args : List (Bool × Sem Value)} {keywords : List (Option Str × Sem Value)} (hplain : (args.any (·.1) || keywords.any (·.1.isNone)) = false)
    (h : wpAny M A (evalArgs (.ref x) true args keywords) (fun a s₁ => (∃ ox C od, ox.data = .plain ∧ PySem.W.InstAt s₁.heap x ox C od) ∧ wpAny M A (call (.ref x) (first ++ a.pos) a.kw) Q E s₁) E s) : wpAny M A (callWith pos (.ref x) first args keywords) Q E s := by
  unfold callWith
  refine wpAny_bind (wpAny_holding (wpAny_mono h (fun a s₁ h₁ => wpAny_bind (wpAny_standAt ?_)) fun _ _ y => y))
  obtain ⟨⟨ox, C, od, hd, I⟩, h2⟩ := h₁
  have L := PySem.W.kco_keeper (M := M) I hd
  simp only [hplain]
  refine wpAny_bind (L.here ?_)
  have tail : ∀ {t : Sem Value}, wpAny M A t Q E s₁ → wpAny M A (t >>= fun r => holding [r] point >>= fun _ => pure r) Q E s₁ :=
    fun ht => wpAny_bind (wpAny_mono ht (fun r s₂ hr => wpAny_bind (wpAny_holding (wpAny_point (wpAny_pure hr)))) fun _ _ y => y)
  exact tail (wpAny_operateT h2)
def isIns (g : Sg) (x : RV) : Bool := ((deref g x).bind clsN).isSome
/-- x(..), x an instance: the call -/
def icallC (ms : List (Str × Bool × Fm)) (x : RV) (rs : List RV) (g : Sg) : Res RV := match (deref g x).bind (pickM "__call__" ms) with
  | some m => callK m (x :: rs) g
  | none => .stuck
def icallM (ms : List (Str × Bool × Fm)) (fo : Ft) (fs : List Ft) : Ft := fun g => (settle (fo g)).bind fun x g1 => if isIns g1 x = true then (evA fs g1).bind (icallC ms x) else .stuck
/-- .. with keywords: n values, then the keywords' -/
def icallCK (gD : List D → List D → List D) (ms : List (Str × Bool × Fm)) (n q : Nat) (x : RV) (rs : List RV) (g : Sg) : Res RV := match (deref g x).bind (pickM "__call__" ms) with
  | some m => kwK gD m (n + 1) q (x :: rs) g
  | none => .stuck
def icallKw (gD : List D → List D → List D) (ms : List (Str × Bool × Fm)) (n q : Nat) (fo : Ft) (fs fk : List Ft) : Ft := fun g => (settle (fo g)).bind fun x g1 => if isIns g1 x = true then (evA fs g1).bind fun xs g2 => (if xs.length = n then (evA fk g2).bind fun ys g3 => icallCK gD ms n q x (xs ++ ys) g3 else .stuck) else .stuck
theorem isIns_ref {K : PySem.W.Frag} {c0 c : Cfg} {v : V} {x : RV} (o : Ok K c) (rx : RvR K c0 c v x) (h : isIns c.g x = true) : ∃ p, v = .ref p := by
  unfold isIns at h
  cases e : deref c.g x with
  | none => rw [e] at h; cases h
  | some d =>
    rw [e] at h
    have rd := deref_rd o rx e
    cases d <;> first | cases h | skip
    · obtain ⟨p, _, _, rfl, _⟩ := rd.ins o; exact ⟨p, rfl⟩
    · obtain ⟨p, _, _, rfl, _⟩ := rd.slo o; exact ⟨p, rfl⟩
section
variable {X : Cx} {W : WX} {pins : List (Addr × Obj)} {s : Shared} {c : Cfg} {v : V} {a : D} {j n : Nat} {ms : List (Str × Bool × Fm)} {m : Fm} {ks : List Str} {gD : List D → List D → List D}
theorem cal_k {R : Addr → Nat → Fm → Prop} (k : CalR X.K R j ms) (o : Ok X.K c) (rd : RdD X.K c v a) (h : pickM "__call__" ms a = some m) :
    ∃ (p g : Addr) (k : Nat) (x : Str), v = .ref p ∧ k ≤ j ∧ R g k m ∧ Meth X.K (He.ga X.K x) "__call__" g ∧
      ∀ (pins : List (Addr × Obj)) (s : Shared), Inv X pins c.σ c.H s → ∃ (dx : Addr) (sl : Array (Option Value)) (od : Obj), PySem.W.InstAt s.heap p ⟨.ref (He.ga X.K x), some dx, .plain, sl⟩ (He.ga X.K x) (some od) := by
  cases a <;> simp only [pickM] at h <;> first | cases h | skip
  · rename_i c' fs
    split at h
    · rename_i hl
      split at h
      · rename_i m' el
        cases h
        obtain ⟨g, k', hk, hc, hm, hp, _⟩ := k.ex _ _ _ el
        obtain ⟨a, dx, us, rfl, ha, rf⟩ := rd.ins o
        refine ⟨a, g, k', _, rfl, hk, hc, hm, fun pins s I => ?_⟩
        obtain ⟨mA, J, _⟩ := ins_get I.hok ha
        obtain ⟨od, J, _⟩ := J.look
        exact ⟨dx, #[], od, J⟩
      · cases h
    · cases h
  · rename_i c' vs
    split at h
    · rename_i m' el
      cases h
      obtain ⟨g, k', hk, hc, hm, _, hp⟩ := k.ex _ _ _ el
      obtain ⟨a, dx, us, rfl, ha, hd, rf⟩ := rd.slo o
      refine ⟨a, g, k', _, rfl, hk, hc, hm, fun pins s I => ?_⟩
      obtain ⟨sl, od, _, J, _⟩ := SlX.slt_inst I (show SlX.Slt c.H a _ dx us from .inr ⟨ha, hd⟩)
      exact ⟨dx, sl, od, J⟩
    · cases h
/-- the call itself, all values at hand -/
theorem icall_run {p g : Addr} {k : Nat} {gV : List V → List V → List V} {sp : Sp} {x : Str} {us ws : List Value} {vs zs : List V} {Q : VK} {σ : L2.St} {H : Hp} {dx : Addr} {sl : Array (Option Value)} {od : Obj} (I : Inv X pins σ H s) (J : PySem.W.InstAt s.heap p ⟨.ref (He.ga X.K x), some dx, .plain, sl⟩ (He.ga X.K x) (some od))
    (hm : Meth X.K (He.ga X.K x) "__call__" g) (hc : CodC X.prog X.w X.K X.mg X.base k g (n + 1) ks gV sp) (hr : Room k X.A) (tk : Takes X W) (r : Vals vs us) (rz : Vals zs ws) (l1 : vs.length = n) (l2 : zs.length = ks.length) (h : sp (gV (.ref p :: vs) zs) H Q (WE W σ)) :
    wpAny (model X.prog X.w) X.A (call (.ref p) us (ks.zip ws)) (EP X pins σ Q) X.xe s := by
  have r2 : Vals (V.ref p :: vs) (Value.ref p :: us) := .cons rfl r
  exact wpAny_call (PySem.W.kco_code I.kIn J rfl hm.at_ hm.fn (fnIn_of hm.fn hm.kp) (hc X pins σ H s (.ref p :: us) ws (.ref p :: vs) zs Q (WE W σ) rfl rfl rfl rfl rfl hr (passAt tk σ) I r2 rz (congrArg Nat.succ l1) l2 h))
end
section
variable {X : Cx} {W : WX} {x : Str} {p pos : Pos} {e : Expr} {es : List Expr} {j n : Nat} {ms : List (Str × Bool × Fm)} {fo : Ft} {fs fk : List Ft} {ks : List Str} {gD : List D → List D → List D} {kws : List Keyword}
theorem ve_icall (k : CalR X.K (CalP X.prog X.w X.K X.mg X.base) j ms) (hr : Room j X.A) (tk : Takes X W) (ho : VE X W (.Name x p) fo) (ha : VA X W (e :: es) fs)
    (hst : starEach (e :: es) X.env = (false, eval e X.env) :: starEach es X.env := by rfl) (hpl : (backTo pos (starEach es X.env)).any (·.1) = false := by rfl) :
    VE X W (.Call (.Name x p) (e :: es) [] pos) (icallM ms fo fs) := by
  refine ⟨⟨fun pins s σ H Q I ⟨J, g, o, r⟩ => ?_⟩⟩
  have nf := nofr_of (f := fo) (g := g)
  unfold icallM at r
  have step : rdE X.K W fo σ H fun v H1 => ∃ p, v = .ref p ∧ rdA X.K W fs σ H1 fun vs H2 => ∃ (g : Addr) (k : Nat) (sp : Sp) (y : Str), k ≤ j ∧ (∀ n, CodC X.prog X.w X.K X.mg X.base k g n [] (fun vs _ => vs) sp) ∧ Meth X.K (He.ga X.K y) "__call__" g ∧
      (∀ (pins : List (Addr × Obj)) (s : Shared), Inv X pins σ H2 s → ∃ (dx : Addr) (sl : Array (Option Value)) (od : Obj), PySem.W.InstAt s.heap p ⟨.ref (He.ga X.K y), some dx, .plain, sl⟩ (He.ga X.K y) (some od)) ∧ sp (.ref p :: vs) H2 Q (WE W σ) := by
    refine ⟨J, g, o, Rem.settle ?_⟩
    revert nf r
    generalize settle (fo g) = sr
    intro r nf
    cases sr with
    | stuck => exact r
    | exn c fs' g' => exact r
    | ok xx g1 =>
      intro I1 H1 v o1 y1 rx
      have r1 := Rem.go (c0 := ⟨J, σ, H, g⟩) (c1 := ⟨I1, σ, H1, g1⟩) y1 rfl r
      dsimp only [Res.bind] at r1
      split at r1
      · rename_i hi
        obtain ⟨pp, rfl⟩ := isIns_ref (c := ⟨I1, σ, H1, g1⟩) o1 rx hi
        refine ⟨pp, rfl, I1, g1, o1, (Rem.bind (R := RvsR X.K) (r := evA fs g1) r1).mono ?_⟩
        rintro vs H2 ⟨I2, g2, rs, o2, y2, rr, r2⟩
        unfold icallC at r2
        cases ed : (deref g2 xx).bind (pickM "__call__" ms) with
        | none => rw [ed] at r2; exact r2.elim
        | some m =>
          rw [ed] at r2
          obtain ⟨d, hd, hm⟩ := Option.bind_eq_some_iff.mp ed
          have rx2 := RvR.on (c1 := ⟨I1, σ, H1, g1⟩) o2 rfl y2 rx
          obtain ⟨p', g', k', y, e', hk, hc, hmt, hI⟩ := cal_k k o2 (deref_rd (c := ⟨I2, σ, H2, g2⟩) o2 rx2 hd) hm
          cases e'
          exact ⟨g', k', _, y, hk, hc, hmt, hI, call_sp (c0 := ⟨I1, σ, H1, g1⟩) o2 (.cons ⟨_, rx2, nf xx g1 rfl⟩ rr) r2⟩
      · exact r1.elim
  refine wpAny_Call_Name_kw (thn (ho.pe.run pins s σ H _ I step) fun u s1 ⟨v, H1, I1, ru, p, ev, h2⟩ => ?_)
  subst ev
  cases ru
  have hp2 : ((backTo pos (starEach (e :: es) X.env)).any (·.1) || (backToKw pos (keywordEach [] X.env)).any (·.1.isNone)) = false := by
    rw [hst]
    show ((false || (backTo pos (starEach es X.env)).any (·.1)) || false) = false
    rw [hpl]
    rfl
  refine icallWith_of hp2 ?_
  have run := ha.pa.run pos pins s1 σ H1 _ I1 h2
  rw [hst] at run ⊢
  refine Calls.evalArgs_plain (thn run fun us s2 ⟨vs, H2, I2, r2, g, k', sp, y, hk, hc, hmt, hI, hs⟩ => ?_)
  obtain ⟨dx, sl, od, J2⟩ := hI pins s2 I2
  exact ⟨⟨_, _, _, rfl, J2⟩, icall_run (n := vs.length) (ws := []) (zs := []) (gV := fun vs _ => vs) I2 J2 hmt (hc _) (hr.mono hk) tk r2 .nil rfl rfl hs⟩
/-- x(.., k = v) -/
theorem ve_icallKw (k : CalR X.K (CalW X.prog X.w X.K X.mg X.base n ks gD) j ms) (hr : Room j X.A) (tk : Takes X W) (ho : VE X W (.Name x p) fo) (hkw : VAK X W kws fk) (hn : n = 0)
    (hall : (backToKw pos (keywordEach kws X.env)).all (·.1.isSome) = true := by rfl) (hks : (backToKw pos (keywordEach kws X.env)).filterMap (·.1) = ks := by rfl)
    (hpl : ((backTo pos (starEach [] X.env)).any (·.1) || (backToKw pos (keywordEach kws X.env)).any (·.1.isNone)) = false := by rfl) :
    VE X W (.Call (.Name x p) [] kws pos) (icallKw gD ms 0 ks.length fo [] fk) := by
  subst hn
  refine ⟨⟨fun pins s σ H Q I ⟨J, g, o, r⟩ => ?_⟩⟩
  have nf := nofr_of (f := fo) (g := g)
  unfold icallKw at r
  have step : rdE X.K W fo σ H fun v H1 => ∃ p, v = .ref p ∧ rdA X.K W fk σ H1 fun zs H2 => ∃ (g : Addr) (k : Nat) (sp : Sp) (y : Str) (gV : List V → List V → List V), k ≤ j ∧ CodC X.prog X.w X.K X.mg X.base k g 1 ks gV sp ∧ Meth X.K (He.ga X.K y) "__call__" g ∧ zs.length = ks.length ∧
      (∀ (pins : List (Addr × Obj)) (s : Shared), Inv X pins σ H2 s → ∃ (dx : Addr) (sl : Array (Option Value)) (od : Obj), PySem.W.InstAt s.heap p ⟨.ref (He.ga X.K y), some dx, .plain, sl⟩ (He.ga X.K y) (some od)) ∧ sp (gV [.ref p] zs) H2 Q (WE W σ) := by
    refine ⟨J, g, o, Rem.settle ?_⟩
    revert nf r
    generalize settle (fo g) = sr
    intro r nf
    cases sr with
    | stuck => exact r
    | exn c fs' g' => exact r
    | ok xx g1 =>
      intro I1 H1 v o1 y1 rx
      have r1 := Rem.go (c0 := ⟨J, σ, H, g⟩) (c1 := ⟨I1, σ, H1, g1⟩) y1 rfl r
      dsimp only [Res.bind] at r1
      split at r1
      · rename_i hi
        obtain ⟨pp, rfl⟩ := isIns_ref (c := ⟨I1, σ, H1, g1⟩) o1 rx hi
        have r1' : Rem X.K W (RvR X.K) ⟨I1, σ, H1, g1⟩ ((evA fk g1).bind fun ys g3 => icallCK gD ms 0 ks.length xx ([] ++ ys) g3) Q := r1
        refine ⟨pp, rfl, I1, g1, o1, (Rem.bind (R := RvsR X.K) (r := evA fk g1) r1').mono ?_⟩
        rintro zs H2 ⟨I2, g2, ys, o2, y2, rz, r2⟩
        unfold icallCK at r2
        cases ed : (deref g2 xx).bind (pickM "__call__" ms) with
        | none => rw [ed] at r2; exact r2.elim
        | some m =>
          rw [ed] at r2
          obtain ⟨d, hd, hm⟩ := Option.bind_eq_some_iff.mp ed
          have rx2 := RvR.on (c1 := ⟨I1, σ, H1, g1⟩) o2 rfl y2 rx
          obtain ⟨p', g', k', y, e', hk, ⟨gV, hc, hG⟩, hmt, hI⟩ := cal_k k o2 (deref_rd (c := ⟨I2, σ, H2, g2⟩) o2 rx2 hd) hm
          cases e'
          have rr : RvsR X.K ⟨I1, σ, H1, g1⟩ ⟨I2, σ, H2, g2⟩ [.ref pp] [xx] := .cons ⟨_, rx2, nf xx g1 rfl⟩ .nil
          obtain ⟨_, l2, q2⟩ := kw_ok (n := 1) (c0 := ⟨I1, σ, H1, g1⟩) o2 rr rz rfl hG r2
          exact ⟨g', k', _, y, gV, hk, hc, hmt, l2, hI, q2⟩
      · exact r1.elim
  refine wpAny_Call_Name_kw (thn (ho.pe.run pins s σ H _ I step) fun u s1 ⟨v, H1, I1, ru, p, ev, h2⟩ => ?_)
  subst ev
  cases ru
  refine icallWith_of hpl ?_
  refine evalArgs_kw2_nil hall (thn (hkw.pk.run pos pins s1 σ H1 _ I1 h2) fun ws s2 ⟨zs, H2, I2, rz, g, k', sp, y, gV, hk, hc, hmt, l2, hI, hs⟩ => ?_)
  rw [hks]
  obtain ⟨dx, sl, od, J2⟩ := hI pins s2 I2
  exact ⟨⟨_, _, _, rfl, J2⟩, icall_run (n := 0) (us := []) (vs := []) (gV := gV) I2 J2 hmt hc (hr.mono hk) tk .nil rz rfl l2 hs⟩
end
/-! ### bool(x) -/
theorem bool_own {prog : Program} {w : World} {A : Around} {E : Value → Shared → Prop} {s : Shared} {K : PySem.W.Frag} {x C L f : Addr} {h₀ : Heap} {m : Str → Option Value} {ox : Obj} {od : Option Obj} {Q : Value → Shared → Prop}
    (F₀ : PyProof.Rows.Fr h₀ L s.heap m) (X₀ : K.In h₀) (I : PySem.W.InstAt s.heap x ox C od) (hs : PySem.W.findIn K (.ref C) "__bool__" = some (some (.ref f))) (hf : PySem.W.isFn K (.ref f) = true)
    (h : wpAny (model prog w) A.in1.in1 (call (.ref f) [.ref x]) (fun r s' => ∃ b, r = .bool b ∧ Q (.bool b) s') E s) : wpAny (model prog w) A (call (.type "bool") [.ref x]) Q E s := by
  refine callType_codes (T := "bool") (Bi := Builtin.«object.__init__») (Q₁ := fun r s₁ => ∃ b, r = Value.bool b ∧ Q r s₁) PySem.F.called_bool (PySem.F.typeCall_bool_1 _) PySem.F.entry_object_init ?_ ?_
  · refine codeAny_of_tree ?_
    show wpAny _ A.in1.in1 (do checkBuiltinCall "bool.__new__" ⟨[.type "bool", .ref x], []⟩; again (.builtin "bool.__new__" ⟨[.type "bool", .ref x], []⟩)) _ _ s
    refine wpAny_bind (wpAny_of_eq (PySem.F.newCall_bool_1 _) (wpAny_pure ⟨plainId_quiet (by decide +kernel) _, codeAny_builtin PySem.F.entry_bool_new ?_⟩))
    rw [Around.under_plainId (by decide +kernel) _]
    unfold Builtin.«bool.__new__»
    refine wpAny_bind (wpAny_of_eq (a := true) rfl ?_)
    refine PySem.W.KFB.if_not rfl ?_
    refine wpAny_bind (wpAny_of_eq (a := true) PySem.F.conv_sub_bool ?_)
    refine PySem.W.KFB.if_not rfl ?_
    refine wpAny_bind (wpAny_of_eq (a := [Value.ref x]) rfl ?_)
    refine wpAny_bind (PySem.W.truthy_K F₀ X₀ I hs hf (wpAny_mono h (fun r s₁ hr => ?_) fun _ _ y => y))
    obtain ⟨b, rfl, hq⟩ := hr
    exact wpAny_pure ⟨b, rfl, hq⟩
  · rintro obj s₁ ⟨b, rfl, hq⟩
    exact ⟨PySem.typeIs_bool _ _, PySem.F.args_object_init_2 _ _, object_init_meets PySem.F.called_bool.init.lookup PySem.F.called_bool.made (by decide) prog w A.in1 _ s₁ ⟨PySem.typeIs_bool _ _, rfl, hq⟩⟩
section
variable {X : Cx} {W : WX} {e : Expr} {fe : Ft} {p pos : Pos} {j : Nat} {ms : List (Str × Bool × Fm)}
theorem ve_boolO (hr : Room (j + 2) X.A) (tk : Takes X W) (k : MethK X.prog X.w X.K X.mg X.base j "__bool__" ms) (hg : Gl X "bool") (hm : X.mg "bool" = none) (ha : VE X W e fe)
    (he : starEach [e] X.env = (false, eval e X.env) :: starEach [] X.env := by rfl) (hpl : (backTo pos (starEach [] X.env)).any (·.1) = false := by rfl) : VE X W (.Call (.Name "bool" p) [e] [] pos) (unO "__bool__" ms (some chBl) (fun d => boolP [d]) fe) := by
  refine ⟨⟨fun pins s σ H Q I h => ?_⟩⟩
  obtain ⟨r, c1, c2⟩ := (c_bool (X := X)).ex
  have h1 := rd1S (R := fun v H' => ∃ v', [v] = [v'] ∧ (AtM X W j "__bool__" ms (fun z => ∃ n, z = .bl n) σ v' H' Q ∨ r [v'] H' Q)) h fun c c1 v x e o rx nx q => by
    refine ⟨v, rfl, ?_⟩
    rcases own1_rd (chk := some chBl) (C := fun z => ∃ n, z = .bl n) k (fun _ _ _ _ r e => chBl_v r e) o rx nx q with z | ⟨d, rd, q⟩
    · rw [e] at z; exact .inl z
    · exact .inr (c2 c [v] [d] Q o (.cons rd .nil) q)
  refine wpAny_Call_Name_kw (ld_blt (u := .type "bool") I hg hm (by decide +kernel) ?_ (by decide) (by decide))
  refine PyProof.Rows.callWith_type1 (thn ((pa_cons ha.pe pa_nil he).run pos pins s σ H (fun vs H' => ∃ v', vs = [v'] ∧ (AtM X W j "__bool__" ms (fun z => ∃ n, z = .bl n) σ v' H' Q ∨ r [v'] H' Q)) I h1) fun us s1 ⟨vs, H1, I1, ru, v, ev, q⟩ => ?_) he hpl
  subst ev
  rcases q with ⟨p, g, k', sp, y, sb, m, rfl, hk, hc, hl, hm, hi, q⟩ | q
  · obtain ⟨dx, sl, od, J⟩ := hi pins s1 I1
    cases ru with
    | cons ru t =>
      cases t
      cases ru
      obtain ⟨mF, hF⟩ := I1.fr
      refine bool_own hF I1.ok.mod.kin J hm.at_ hm.fn (wpAny_mono (call_at (A' := X.A.in1.in1) rfl rfl hc (hr.in1.in1.mono hk) tk I1 (vals1 p) q) (fun w s' ⟨z, H', I', rz, ⟨n, ez⟩, hq⟩ => ?_) fun _ _ e => e)
      subst ez
      cases rz
      exact ⟨n, rfl, .bl n, H', I', rfl, hq⟩
  · exact c1 pins s1 σ H1 [v] us Q I1 ru q
end
end Vl

set_option Elab.async false
set_option linter.all false
set_option maxRecDepth 100000
set_option maxHeartbeats 2000000
/-! the value layer: or, and by truth; is of bools; properties; classmethods; constants of classes; own items -/
namespace Vl
open PySem PySem.Spec PyProof.Rows L2 My
/-! ### or, and as values, by truth -/
def truR (x : RV) (g : Sg) : Option Bool := (deref g x).bind truth
def orT (fa fb : Ft) : Ft := fun g => (settle (fa g)).bind fun x g1 => match truR x g1 with
  | some true => .ok x g1
  | some false => fb g1
  | none => .stuck
def andT (fa fb : Ft) : Ft := fun g => (settle (fa g)).bind fun x g1 => match truR x g1 with
  | some true => fb g1
  | some false => .ok x g1
  | none => .stuck
section
variable {X : Cx} {W : WX} {a b : Expr} {fa fb : Ft} {rest : List Expr} {pos : Pos}
theorem self_rv {K : PySem.W.Frag} {c0 c : Cfg} {v : V} {x : RV} (h : RvR K c0 c v x) (n : ∀ d, x ≠ .fr d) : RvR K c c v x := by
  cases x with
  | val d => exact h
  | at_ i => exact h
  | fr d => exact (n d rfl).elim
theorem ve_orT (ha : VE X W a fa) (hb : VE X W (.BoolOp .Or (b :: rest) pos) fb) : VE X W (.BoolOp .Or (a :: b :: rest) pos) (orT fa fb) := ⟨pe_imp (pe_orT ha.pe hb.pe) fun σ H Q ⟨I, g, o, r⟩ => by
  have nf := nofr_of (f := fa) (g := g)
  refine ⟨I, g, o, Rem.settle ?_⟩
  unfold orT at r
  revert nf r
  generalize settle (fa g) = sa
  intro r nf
  cases sa with
  | stuck => exact r
  | exn c fs g' => exact r
  | ok x g1 =>
    intro I1 H1 v o1 y1 rx
    have r1 := Rem.go (c0 := ⟨I, σ, H, g⟩) (c1 := ⟨I1, σ, H1, g1⟩) y1 rfl r
    dsimp only [Res.bind] at r1
    cases e : truR x g1 with
    | none => rw [e] at r1; exact r1.elim
    | some k =>
      rw [e] at r1
      obtain ⟨d, ed, et⟩ := Option.bind_eq_some_iff.mp e
      refine ⟨k, tru_rd (c := ⟨I1, σ, H1, g1⟩) o1 (deref_rd (c := ⟨I1, σ, H1, g1⟩) o1 rx ed) et, ?_⟩
      cases k with
      | true => exact r1 I1 H1 v o1 (Go.refl _) (self_rv rx (nf x g1 rfl))
      | false => exact ⟨I1, g1, o1, r1⟩⟩
theorem ve_andT (ha : VE X W a fa) (hb : VE X W (.BoolOp .And (b :: rest) pos) fb) : VE X W (.BoolOp .And (a :: b :: rest) pos) (andT fa fb) := ⟨pe_imp (pe_andT ha.pe hb.pe) fun σ H Q ⟨I, g, o, r⟩ => by
  have nf := nofr_of (f := fa) (g := g)
  refine ⟨I, g, o, Rem.settle ?_⟩
  unfold andT at r
  revert nf r
  generalize settle (fa g) = sa
  intro r nf
  cases sa with
  | stuck => exact r
  | exn c fs g' => exact r
  | ok x g1 =>
    intro I1 H1 v o1 y1 rx
    have r1 := Rem.go (c0 := ⟨I, σ, H, g⟩) (c1 := ⟨I1, σ, H1, g1⟩) y1 rfl r
    dsimp only [Res.bind] at r1
    cases e : truR x g1 with
    | none => rw [e] at r1; exact r1.elim
    | some k =>
      rw [e] at r1
      obtain ⟨d, ed, et⟩ := Option.bind_eq_some_iff.mp e
      refine ⟨k, tru_rd (c := ⟨I1, σ, H1, g1⟩) o1 (deref_rd (c := ⟨I1, σ, H1, g1⟩) o1 rx ed) et, ?_⟩
      cases k with
      | true => exact ⟨I1, g1, o1, r1⟩
      | false => exact r1 I1 H1 v o1 (Go.refl _) (self_rv rx (nf x g1 rfl))⟩
end
/-! ### is of bools -/
def isB : D → D → Option RV
  | .bl a, .bl b => vB (decide (a = b))
  | _, _ => none
def isNotB : D → D → Option RV
  | .bl a, .bl b => vB (!decide (a = b))
  | _, _ => none
theorem p_isB {X : Cx} : P2 X (compareOp .Is) isB := ⟨_, op_isBl, fun c v u a b Q o ra rb h => by
  cases a <;> cases b <;> simp only [isB] at h <;> first | exact h.elim | skip
  exact ⟨_, _, ra.bl, rb.bl, h.now o (.bl _)⟩⟩
theorem p_isNotB {X : Cx} : P2 X (compareOp .IsNot) isNotB := ⟨_, op_notBl, fun c v u a b Q o ra rb h => by
  cases a <;> cases b <;> simp only [isNotB] at h <;> first | exact h.elim | skip
  exact ⟨_, _, ra.bl, rb.bl, h.now o (.bl _)⟩⟩
def isQ : D → D → Option RV := orP isP isB
def isNotQ : D → D → Option RV := orP isNotP isNotB
theorem p_isQ {X : Cx} : P2 X (compareOp .Is) isQ := p_is.or' p_isB
theorem p_isNotQ {X : Cx} : P2 X (compareOp .IsNot) isNotQ := p_isNot.or' p_isNotB
/-! ### properties -/
theorem noX_rem {K : PySem.W.Frag} {W : WX} {γ α : Type} {R : Rel γ α} {c0 : Cfg} {r : Res α} {Q : γ → Hp → Prop} (h : Rem K W R c0 (noX r) Q) : Rem K W0 R c0 r Q := by
  cases r with
  | ok r g => exact h
  | exn c fs g => exact h.elim
  | stuck => exact h
structure PropK (P : Program) (w : World) (K : PySem.W.Frag) (mg : Str → Option Value) (base : Heap) (j : Nat) (nm : Str) (ms : List (Str × Bool × Fm)) : Prop where
  ex : ∀ c b m, ms.lookup c = some (b, m) → ∃ (g p : Addr) (k : Nat), k ≤ j ∧ (∀ n, CodC P w K mg base k g n [] (fun vs _ => vs) (spV K m)) ∧ PropOf K (He.ga K c) nm p g ∧ PySem.W.isClsIn K (He.ga K c) = true ∧ PySem.W.plainGet K (He.ga K c) Str.empty = true
section
variable {P : Program} {w : World} {K : PySem.W.Frag} {mg : Str → Option Value} {base : Heap} {j k : Nat} {nm c : Str} {b : Bool} {m : Fm} {ms : List (Str × Bool × Fm)} {g p : Addr}
theorem PropK.nil : PropK P w K mg base j nm [] := ⟨fun c b m h => nomatch h⟩
theorem PropK.cons (hk : k ≤ j) (hc : ∀ n, CodC P w K mg base k g n [] (fun vs _ => vs) (spV K m)) (hp : PropOf K (He.ga K c) nm p g ∧ PySem.W.isClsIn K (He.ga K c) = true ∧ PySem.W.plainGet K (He.ga K c) Str.empty = true) (t : PropK P w K mg base j nm ms) : PropK P w K mg base j nm ((c, b, m) :: ms) := ⟨fun c' b' m' e => by
  rw [List.lookup_cons] at e
  split at e
  · rename_i q
    cases e
    rw [eq_of_beq q]
    exact ⟨g, p, k, hk, hc, hp⟩
  · exact t.ex c' b' m' e⟩
theorem PropK.up {i : Nat} (h : PropK P w K mg base i nm ms) (hj : i ≤ j) : PropK P w K mg base j nm ms :=
  ⟨fun c b m e => let ⟨g, p, k, h1, h2⟩ := h.ex c b m e; ⟨g, p, k, Nat.le_trans h1 hj, h2⟩⟩
end
/-- the getter of a property -/
def pg (K : PySem.W.Frag) (c m : Str) : Addr := He5.wf K (He.ga K c) "property" m
def propB (K : PySem.W.Frag) (c m : Str) : Bool := (match PySem.W.findIn K (.ref (He.ga K c)) m with
  | some (some (.ref p)) => He.eqO (PySem.W.specialIn K (.ref p) "__get__") (some (some (.builtin "property.__get__"))) && (decide (PySem.W.takesIn K (.ref p) = some true) && (decide (p = He.ma K (He.ga K c) m) && (match PySem.W.recIn K p "property" with
    | some (.ref _ :: _) => true
    | _ => false)))
  | _ => false) && (PySem.W.isClsIn K (He.ga K c) && PySem.W.plainGet K (He.ga K c) Str.empty)
theorem prop_ok {K : PySem.W.Frag} {c m : Str} (h : propB K c m = true) : PropOf K (He.ga K c) m (He.ma K (He.ga K c) m) (pg K c m) ∧ PySem.W.isClsIn K (He.ga K c) = true ∧ PySem.W.plainGet K (He.ga K c) Str.empty = true := by
  unfold propB at h
  simp only [Bool.and_eq_true] at h
  obtain ⟨h1, h2, h3⟩ := h
  refine ⟨?_, h2, h3⟩
  split at h1
  · rename_i p e
    simp only [Bool.and_eq_true, decide_eq_true_eq] at h1
    obtain ⟨k1, k2, k3, k4⟩ := h1
    subst k3
    refine ⟨e, He.eqO_ok k1, k2, ?_⟩
    unfold pg He5.wf
    split at k4
    · rename_i f r e2
      rw [e2]
      exact ⟨r, rfl⟩
    · cases k4
  · cases h1
def propC (ms : List (Str × Bool × Fm)) (x : RV) (g : Sg) : Res RV := match (deref g x).bind (pickP ms) with
  | some m => noX (callK m [x] g)
  | none => .stuck
where pickP (ms : List (Str × Bool × Fm)) : D → Option Fm
  | .ins c _ => (match ms.lookup c with | some (false, m) => some m | _ => none)
  | .slo c _ => (match ms.lookup c with | some (true, m) => some m | _ => none)
  | _ => none
/-- o.nm, a property -/
def propF (ms : List (Str × Bool × Fm)) (fo : Ft) : Ft := fun g => (settle (fo g)).bind (propC ms)
section
variable {X : Cx} {W : WX} {o e : Expr} {nm : Str} {pos : Pos} {j : Nat} {ms : List (Str × Bool × Fm)} {fo : Ft}
theorem cod_at {A' : Around} {k n : Nat} {g : Addr} {sp : Sp} {pins : List (Addr × Obj)} {σ : L2.St} {H : Hp} {s : Shared} {us : List Value} {vs : List V} {Q : VK} (hf : A'.frames = X.A.frames) (hh : A'.handled = X.A.handled) (c : CodC X.prog X.w X.K X.mg X.base k g n [] (fun vs _ => vs) sp) (hr : Room k A')
    (I : Inv X pins σ H s) (r : Vals vs us) (hn : vs.length = n) (h : sp vs H Q (fun _ _ _ => False)) :
    codeAny (model X.prog X.w) A' (.call (.ref g) ⟨us, []⟩) (fun r s' => match r with | .ok (.ret v) => EP X pins σ Q v s' | .ok _ => False | .error _ => False) s := by
  have z := c { X with A := A', xe := fun _ _ => False } pins σ H s us [] vs [] Q (fun _ _ _ => False) rfl rfl rfl rfl rfl hr (fun pins H s e s' I' cx => by
    obtain ⟨a, B, H', cls, d, _, _, _, _, _, _, _, hE⟩ := cx
    exact hE) ⟨{ I.ok with hd := fun z => hh.trans (I.ok.hd z), frames := hf.trans I.ok.frames }, I.os, I.bare, I.base, I.loc, I.cell, I.free, I.freeC, I.pin, I.hok, I.len⟩ r .nil hn rfl h
  refine codeAny_mono z fun r s' hq => ?_
  cases r with
  | error e => exact hq
  | ok fl =>
    cases fl with
    | ret u =>
      obtain ⟨x, H', I', rv, q⟩ := hq
      exact ⟨x, H', ⟨{ I'.ok with hd := I.ok.hd, frames := I.ok.frames }, I'.os, I'.bare, I'.base, I'.loc, I'.cell, I'.free, I'.freeC, I'.pin, I'.hok, I'.len⟩, rv, q⟩
    | next => exact hq
    | brk => exact hq
    | cont => exact hq
theorem ve_prop (k : PropK X.prog X.w X.K X.mg X.base j nm ms) (hr : Room (j + 1) X.A) (ho : VE X W o fo) (hb : attributeBase o nm X.env (eval o X.env) = eval o X.env := by rfl) : VE X W (.Attribute o nm pos) (propF ms fo) := by
  refine ⟨⟨fun pins s σ H Q I ⟨J, g, oo, r⟩ => ?_⟩⟩
  have nf := nofr_of (f := fo) (g := g)
  unfold propF at r
  have step : rdE X.K W fo σ H fun v H1 => ∃ (p : Addr) (x : Str) (m : Fm) (sb : Bool), v = .ref p ∧ ms.lookup x = some (sb, m) ∧ (∀ (pins : List (Addr × Obj)) (s : Shared), Inv X pins σ H1 s → ∃ (dx : Addr) (sl : Array (Option Value)) (od : Obj), PySem.W.InstAt s.heap p ⟨.ref (He.ga X.K x), some dx, .plain, sl⟩ (He.ga X.K x) (some od)) ∧ spV X.K m [.ref p] H1 Q (fun _ _ _ => False) := by
    refine ⟨J, g, oo, Rem.settle ?_⟩
    revert nf r
    generalize settle (fo g) = sr
    intro r nf
    cases sr with
    | stuck => exact r
    | exn c fs' g' => exact r
    | ok xx g1 =>
      intro I1 H1 v o1 y1 rx
      have r1 := Rem.go (c0 := ⟨J, σ, H, g⟩) (c1 := ⟨I1, σ, H1, g1⟩) y1 rfl r
      dsimp only [Res.bind] at r1
      unfold propC at r1
      cases ed : (deref g1 xx).bind (propC.pickP ms) with
      | none => rw [ed] at r1; exact r1.elim
      | some m =>
        rw [ed] at r1
        obtain ⟨d, hd, hm⟩ := Option.bind_eq_some_iff.mp ed
        have rd := deref_rd (c := ⟨I1, σ, H1, g1⟩) o1 rx hd
        have hs := call_sp (W := W0) (c0 := ⟨J, σ, H, g⟩) (vs := [v]) o1 (.cons ⟨_, rx, nf xx g1 rfl⟩ .nil) (noX_rem r1)
        cases d <;> simp only [propC.pickP] at hm <;> first | cases hm | skip
        · rename_i c' fs
          split at hm
          · rename_i m' el
            cases hm
            obtain ⟨a, dx, us, rfl, ha, rf⟩ := rd.ins o1
            refine ⟨a, _, _, _, rfl, el, fun pins s I => ?_, hs⟩
            obtain ⟨mA, J, _⟩ := ins_get I.hok ha
            obtain ⟨od, J, _⟩ := J.look
            exact ⟨dx, #[], od, J⟩
          · cases hm
        · rename_i c' vs
          split at hm
          · rename_i m' el
            cases hm
            obtain ⟨a, dx, us, rfl, ha, hd, rf⟩ := rd.slo o1
            refine ⟨a, _, _, _, rfl, el, fun pins s I => ?_, hs⟩
            obtain ⟨sl, od, _, J, _⟩ := SlX.slt_inst I (show SlX.Slt H1 a _ dx us from .inr ⟨ha, hd⟩)
            exact ⟨dx, sl, od, J⟩
          · cases hm
  refine attr_of hb (thn (ho.pe.run pins s σ H _ I step) fun u s1 ⟨v, H1, I1, ru, p, x, m, sb, ev, el, hi, hs⟩ => ?_)
  subst ev
  cases ru
  obtain ⟨g', pp, k', hk, hc, hp, ic, pgt⟩ := k.ex _ _ _ el
  obtain ⟨dx, sl, od, J2⟩ := hi pins s1 I1
  obtain ⟨rest, hrec⟩ := hp.rec_
  have I2 := I1.tok (s1.toks + 1)
  have pgm : PySem.W.plainGet X.K (He.ga X.K x) nm = true := pgt
  refine PySem.W.get_bind I1.kIn J2 (PySem.W.plainGet_of pgm).1 (PySem.W.findObj_data ic hp.at_ hp.get hp.tak) (PySem.W.plainGet_of pgm).2 (wpAny_call (PySem.W.prop_get (s := { s1 with toks := s1.toks + 1 }) I1.kIn hrec ?_))
  refine codeAny_mono (cod_at (A' := X.A.in1) rfl rfl (hc 1) (hr.in1.mono hk) I2 (vals1 p) rfl hs) fun r s' hq => ?_
  cases r with
  | error er => exact False.elim hq
  | ok fl =>
    cases fl with
    | ret u =>
      obtain ⟨v, H', I3, rv, q3⟩ := hq
      show wpAny _ _ (handedOut u) _ _ _
      rw [PySem.W.handedOut_of (handed_of rv)]
      exact wpAny_pure ⟨v, H', I3, rv, q3⟩
    | next => exact False.elim hq
    | brk => exact False.elim hq
    | cont => exact False.elim hq
end
/-! ### classmethods, constants of classes -/
/-- C.m(..), m a classmethod -/
structure CmK (P : Program) (w : World) (K : PySem.W.Frag) (mg : Str → Option Value) (base : Heap) (j : Nat) (c nm : Str) (m : Fm) : Prop where
  ex : ∃ (p g : Addr) (k : Nat) (mc : Value), k ≤ j ∧ (∀ n, CodC P w K mg base k g n [] (fun vs _ => vs) (spV K m)) ∧ ClX.CRead K (He.ga K c) mc ∧ ClX.CMet K (He.ga K c) mc nm p g ∧ mg c = some (.ref (He.ga K c))
theorem CmK.up {P : Program} {w : World} {K : PySem.W.Frag} {mg : Str → Option Value} {base : Heap} {i j : Nat} {c nm : Str} {m : Fm} (h : CmK P w K mg base i c nm m) (hj : i ≤ j) : CmK P w K mg base j c nm m :=
  ⟨let ⟨p, g, k, mc, h1, h2⟩ := h.ex; ⟨p, g, k, mc, Nat.le_trans h1 hj, h2⟩⟩
def cg (K : PySem.W.Frag) (c m : Str) : Addr := He5.wf K (He.ga K c) "classmethod" m
def creadB (K : PySem.W.Frag) (c : Str) : Bool := PySem.W.readsIn K (He.ga K c) (.type "type") && He.eqO (PySem.W.specialIn K (.ref (He.ga K c)) "__getattribute__") (some (some (.builtin "type.__getattribute__")))
theorem cread_ok {K : PySem.W.Frag} {c : Str} (h : creadB K c = true) : ClX.CRead K (He.ga K c) (.type "type") := by
  obtain ⟨h1, h2⟩ := Bool.and_eq_true_iff.mp h
  exact ⟨h1, He.eqO_ok h2⟩
def cmetB (K : PySem.W.Frag) (c m : Str) : Bool := creadB K c && (He5.wrapB K (He.ga K c) "classmethod" "classmethod.__get__" m && PySem.W.fnIn K (cg K c m))
theorem cmet_ok {K : PySem.W.Frag} {c m : Str} (h : cmetB K c m = true) : ClX.CRead K (He.ga K c) (.type "type") ∧ ClX.CMet K (He.ga K c) (.type "type") m (He.ma K (He.ga K c) m) (cg K c m) := by
  obtain ⟨h1, h2⟩ := Bool.and_eq_true_iff.mp h
  obtain ⟨h2, h3⟩ := Bool.and_eq_true_iff.mp h2
  exact ⟨cread_ok h1, He5.cmet_of h2 h3⟩
def cmethM (c : Str) (m : Fm) (fs : List Ft) : Ft := fun g => (evA fs g).bind fun rs g2 => callK m (.val (.cls c) :: rs) g2
section
variable {X : Cx} {W : WX} {e : Expr} {es : List Expr} {c nm : Str} {p pos apos : Pos} {j : Nat} {m : Fm} {fs : List Ft} {pl : Sem Bool}
theorem ve_cmeth (k : CmK X.prog X.w X.K X.mg X.base j c nm m) (hr : Room j X.A) (tk : Takes X W) (hg : Gl X c) (ha : VA X W (e :: es) fs) (hdb : (c == ("__debug__" : Str)) = false := by decide)
    (hst : starEach (e :: es) X.env = (false, eval e X.env) :: starEach es X.env := by rfl) (hpl : (backTo pos (starEach es X.env)).any (·.1) = false := by rfl)
    (ht : eval (.Call (.Attribute (.Name c p) nm apos) (e :: es) [] pos) X.env = (do
      let ov ← eval (.Name c p) X.env
      standAt apos.atName
      let (f, first) ← holding [ov] (getMethod ov nm pl)
      callWith pos f first (backTo pos (starEach (e :: es) X.env)) (backToKw pos (keywordEach [] X.env))) := by rfl) :
    VE X W (.Call (.Attribute (.Name c p) nm apos) (e :: es) [] pos) (cmethM c m fs) := by
  obtain ⟨pp, g, k', mc, hk, hc, rd, cm, hm⟩ := k.ex
  refine ⟨⟨fun pins s σ H Q I ⟨J, gg, o, r⟩ => ?_⟩⟩
  refine PySem.W.methodCall_KW (pl := pl) (ld_glob I hg hm ?_ hdb) ht
  refine ClX.getmethcm_ok I rd cm fun s2 I2 => ?_
  have h1 : rdA X.K W fs σ H fun vs H2 => spV X.K m (.ref (He.ga X.K c) :: vs) H2 Q (WE W σ) := by
    refine ⟨J, gg, o, (Rem.bind (R := RvsR X.K) r).mono ?_⟩
    rintro vs H1 ⟨I1, g1, rs, o1, y1, rr, r1⟩
    exact call_sp (c0 := ⟨J, σ, H, gg⟩) o1 (.cons ⟨⟨I1, σ, H1, g1⟩, (show RvR X.K ⟨I1, σ, H1, g1⟩ ⟨I1, σ, H1, g1⟩ (.ref (He.ga X.K c)) (.val (.cls c)) from Rep.cls c), fun d z => nomatch z⟩ rr) r1
  refine ClX.callwith_cm I2 (ClX.base_none I (Nat.le_refl _)) cm.fi (thn (ha.pa.run pos _ s2 σ H _ I2 h1) fun us s3 ⟨vs, H2, I3, rv, q2⟩ => ⟨⟨ClX.pin_at I3, I3.kIn⟩, ?_⟩) hst hpl
  have r2 : Vals (V.ref (He.ga X.K c) :: vs) (Value.ref (He.ga X.K c) :: us) := .cons rfl rv
  have z := hc (vs.length + 1) X _ σ H2 s3 (.ref (He.ga X.K c) :: us) [] (.ref (He.ga X.K c) :: vs) [] Q (WE W σ) rfl rfl rfl rfl rfl (hr.mono hk) (passAt tk σ) I3 r2 .nil rfl rfl q2
  exact thn (wpAny_call (PySem.W.method_call (ClX.pin_at I3) z)) fun _ _ y => ClX.unpinE y
end
/-- cls(..): the class itself in a local name -/
def ccallM (c : Str) (m : Fm) (fo : Ft) (fs : List Ft) : Ft := fun g => (settle (fo g)).bind fun x g1 => match deref g1 x with
  | some (.cls c') => if c' = c then (evA fs g1).bind (callK m) else .stuck
  | _ => .stuck
section
variable {X : Cx} {W : WX} {e : Expr} {es : List Expr} {c x : Str} {p pos : Pos} {j k : Nat} {m : Fm} {fo : Ft} {fs : List Ft}
theorem rd_cls {K : PySem.W.Frag} {cc : Cfg} {v : V} {c : Str} (h : RdD K cc v (.cls c)) : v = .ref (He.ga K c) := by
  rcases h with h | ⟨a, _, h⟩
  · cases h; rfl
  · exact h.elim
theorem cc_rd {σ : L2.St} {H : Hp} {Q : VK} (h : rdE X.K W (ccallM c m fo fs) σ H Q) : rdE X.K W fo σ H fun v H1 => v = .ref (He.ga X.K c) ∧ rdA X.K W fs σ H1 fun vs H2 => spV X.K m vs H2 Q (WE W σ) := by
  obtain ⟨J, g, o, r⟩ := h
  refine ⟨J, g, o, Rem.settle ((Rem.bind (R := RvR X.K) r).mono ?_)⟩
  rintro v H1 ⟨I1, g1, y, o1, y1, rx, r1⟩
  cases ed : deref g1 y with
  | none => rw [ed] at r1; exact r1.elim
  | some d =>
    rw [ed] at r1
    cases d <;> first | exact r1.elim | skip
    rename_i c'
    dsimp only at r1
    split at r1
    · rename_i e
      subst e
      refine ⟨rd_cls (deref_rd (c := ⟨I1, σ, H1, g1⟩) o1 rx ed), I1, g1, o1, (Rem.bind (R := RvsR X.K) r1).mono ?_⟩
      rintro vs H2 ⟨I2, g2, rs, o2, y2, rr, r2⟩
      exact call_sp (c0 := ⟨I1, σ, H1, g1⟩) o2 rr r2
    · exact r1.elim
theorem ve_ccall (cf : Cf X.prog X.w X.K X.mg X.base k c (spV X.K m)) (gl : X.mg c = some (.ref (He.ga X.K c))) (hr : Room j X.A) (tk : Takes X W) (ho : VE X W (.Name x p) fo) (ha : VA X W (e :: es) fs) (hk : k ≤ j := by decide)
    (he : starEach (e :: es) X.env = (false, eval e X.env) :: starEach es X.env := by rfl) (hpl : (backTo pos (starEach es X.env)).any (·.1) = false := by rfl) :
    VE X W (.Call (.Name x p) (e :: es) [] pos) (ccallM c m fo fs) := by
  obtain ⟨v, cc, hm, kp⟩ := cf.ex
  rw [gl] at hm
  cases hm
  refine ⟨⟨fun pins s σ H Q I h => ?_⟩⟩
  refine wpAny_Call_Name_kw (thn (ho.pe.run pins s σ H _ I (cc_rd h)) fun u s1 ⟨v, H1, I1, ru, ev, h2⟩ => ?_)
  subst ev
  cases ru
  refine PySem.W.callWith_K (h₀ := X.base) I.ok.mod.kin kp (thn (ha.pa.run pos pins s1 σ _ _ I1 h2) fun us s2 ⟨vs, H2, I2, r, q⟩ => ⟨I2.kIn, ?_⟩) he hpl
  exact cc X pins σ H2 s2 us vs Q (WE W σ) rfl rfl rfl rfl rfl (hr.mono hk) (passAt tk σ) I2 r q
theorem ve_ccall0 (cf : Cf X.prog X.w X.K X.mg X.base k c (spV X.K m)) (gl : X.mg c = some (.ref (He.ga X.K c))) (hr : Room j X.A) (tk : Takes X W) (ho : VE X W (.Name x p) fo) (hk : k ≤ j := by decide) :
    VE X W (.Call (.Name x p) [] [] pos) (ccallM c m fo []) := by
  obtain ⟨v, cc, hm, kp⟩ := cf.ex
  rw [gl] at hm
  cases hm
  refine ⟨⟨fun pins s σ H Q I h => ?_⟩⟩
  refine wpAny_Call_Name_kw (thn (ho.pe.run pins s σ H _ I (cc_rd h)) fun u s1 ⟨v, H1, I1, ru, ev, h2⟩ => ?_)
  subst ev
  cases ru
  obtain ⟨J2, g2, o2, r2⟩ := h2
  exact PySem.W.callWith_K0 (first := []) I1.kIn kp (cc X pins σ H1 s1 [] [] Q (WE W σ) rfl rfl rfl rfl rfl (hr.mono hk) (passAt tk σ) I1 .nil (r2 J2 H1 [] o2 (Go.refl _) .nil))
end
/-- C.f, a constant of the class -/
def relB (u : Value) : D → Bool
  | .non => u == .none
  | .bl b => u == .bool b
  | .int i => (match u with | .int j _ => j == i | _ => false)
  | .str x => (match u with | .str y _ => y == x | _ => false)
  | _ => false
theorem relB_ok {u : Value} {d : D} (h : relB u d = true) (K : PySem.W.Frag) : ∃ v : V, RelV v u ∧ ∀ I, Rep K I v d := by
  cases d <;> simp only [relB] at h <;> first | cases h | skip
  · exact ⟨.non, beq_iff_eq.mp h, fun I => .non⟩
  · rename_i b
    exact ⟨.bl b, beq_iff_eq.mp h, fun I => .bl b⟩
  · rename_i i
    split at h
    · rename_i j t
      rw [← beq_iff_eq.mp h]
      exact ⟨.int j, ⟨t, rfl⟩, fun I => .int j⟩
    · cases h
  · rename_i x
    split at h
    · rename_i y t
      rw [← beq_iff_eq.mp h]
      exact ⟨.str y, ⟨t, rfl⟩, fun I => .str y⟩
    · cases h
def cconB (K : PySem.W.Frag) (c f : Str) (d : D) : Bool := creadB K c && (match PySem.W.findCls K (.ref (He.ga K c)) (.type "type") f with
  | some (.val u) => relB u d
  | _ => false)
structure CconK (K : PySem.W.Frag) (mg : Str → Option Value) (c f : Str) (d : D) : Prop where
  ex : ∃ (mc : Value) (v : V) (u : Value), ClX.CRead K (He.ga K c) mc ∧ ClX.CVal K (He.ga K c) mc f v u ∧ ∀ I, Rep K I v d
  gl : mg c = some (.ref (He.ga K c))
theorem ccon_ok {K : PySem.W.Frag} {mg : Str → Option Value} {c f : Str} {d : D} (h : cconB K c f d = true) (gl : mg c = some (.ref (He.ga K c))) : CconK K mg c f d := by
  obtain ⟨h1, h2⟩ := Bool.and_eq_true_iff.mp h
  refine ⟨?_, gl⟩
  split at h2
  · rename_i u e
    obtain ⟨v, r, k⟩ := relB_ok h2 K
    exact ⟨_, v, u, cread_ok h1, ⟨e, r⟩, k⟩
  · cases h2
theorem ve_ccon {X : Cx} {W : WX} {c f : Str} {d : D} {p pos : Pos} (k : CconK X.K X.mg c f d) (hg : Gl X c) (hdb : (c == ("__debug__" : Str)) = false := by decide)
    (hb : attributeBase (.Name c p) f X.env (eval (.Name c p) X.env) = eval (.Name c p) X.env := by rfl) : VE X W (.Attribute (.Name c p) f pos) (cF d) := by
  obtain ⟨mc, v, u, rd, cv, hr⟩ := k.ex
  exact ⟨pe_imp (ClX.pe_cval (pe_glob (v := .ref (He.ga X.K c)) hg k.gl rfl hdb) hb) fun σ H Q ⟨I, g, o, r⟩ => ⟨_, mc, v, u, rfl, rd, cv, r I H v o (Go.refl _) (hr I)⟩⟩
/-! ### slotted instances made with keywords -/
section
variable {P : Program} {w : World} {K : PySem.W.Frag} {mg : Str → Option Value} {base : Heap} {k n : Nat} {f C : Addr} {fd : FuncData} {ps ks : List Str} {sp : Sp} {g : List Value → List Value → List Value} {gV gV' : List V → List V → List V}
theorem KCal.of_clsS (M : Mk K C f) (F : FnOk P w K mg base (L2.CX P w) k f fd ps sp) (hb : KBn K fd ps (n + 1) ks g gV) (hg : ∀ y vs zs, gV (y :: vs) zs = y :: gV' vs zs) : KCal P w K mg base (k + 1) C n ks gV' (spMkS C sp) := by
  rintro X pins σ H s us ws vs zs Q E rfl rfl rfl rfl rfl hr hx I r rz l1 l2 h
  have n1 : H (s.heap.objs.size + 1) = none := I.hok.fresh (Nat.le_succ _)
  have n2 : H s.heap.objs.size = none := I.hok.fresh (Nat.le_refl _)
  have ne : s.heap.objs.size ≠ s.heap.objs.size + 1 := Nat.ne_of_lt (Nat.lt_succ_self _)
  have I1 := Inv.made (C := C) I
  have sl : SlX.Slt (upd (upd H s.heap.objs.size (.own (s.heap.objs.size + 1))) (s.heap.objs.size + 1) (.ins C s.heap.objs.size [])) (s.heap.objs.size + 1) C s.heap.objs.size [] := .inl ⟨upd_same, rfl⟩
  obtain ⟨_, sl0, mA, e0, _, _, _⟩ := SlX.slt_at I1 sl
  have I2 := SlX.inv_slot (vs' := []) (t' := s.toks) I1 sl (fun b o _ _ z => z) (fun m z => z) e0 (SlX.SlR.nil _)
  have hq := h (s.heap.objs.size + 1) s.heap.objs.size _ ⟨n1⟩ ⟨n2⟩ ne (show Xb [] H (SlX.slH (upd (upd H s.heap.objs.size (.own (s.heap.objs.size + 1))) (s.heap.objs.size + 1) (.ins C s.heap.objs.size [])) (s.heap.objs.size + 1) C s.heap.objs.size []) from ⟨fun b u _ e => by
    have b1 : b ≠ s.heap.objs.size + 1 := ne_of_none e n1
    have b2 : b ≠ s.heap.objs.size := ne_of_none e n2
    unfold SlX.slH
    rw [upd_ne b1, upd_ne b2, upd_ne b1, upd_ne b2]
    exact e⟩) (by unfold SlX.slH; exact upd_same) (by unfold SlX.slH; rw [upd_ne ne]; exact upd_same)
  have r1 : Vals (V.ref (s.heap.objs.size + 1) :: vs) (Value.ref (s.heap.objs.size + 1) :: us) := .cons rfl r
  have r2 := hb.rel r1 rz
  rw [hg] at r2
  have e1 : (Value.ref (s.heap.objs.size + 1) :: us).length = n + 1 := r1.length.symm.trans (congrArg Nat.succ l1)
  have e2 : ws.length = ks.length := rz.length.symm.trans l2
  refine wpAny_call (make_map (f := f) I.kIn M.makes M.init (beq_iff_eq.mp M.fn) (codeAny_mono (F.run _ X.stack _ _ ⟨Value.ref (s.heap.objs.size + 1) :: us, ks.zip ws⟩ (g (Value.ref (s.heap.objs.size + 1) :: us) ws) _ _ E (hr.make C us (ks.zip ws))
    (I2.env0.make C us (ks.zip ws)) (hb.to _ (Value.ref (s.heap.objs.size + 1) :: us) ws I2.kIn e1 e2) r2 hq) fun r s' hq' => ?_))
  cases r with
  | error e => exact hx pins _ _ e s' I2 hq'
  | ok fl =>
    cases fl with
    | ret u =>
      obtain ⟨v, H', I3, rv, ev, q3⟩ := I2.after hq'
      subst ev
      exact ⟨rv, ⟨V.ref (s.heap.objs.size + 1), H', I3, rfl, q3⟩⟩
    | next => exact False.elim hq'
    | brk => exact False.elim hq'
    | cont => exact False.elim hq'
theorem kmk_slots {c : Str} {m : Fm} (M : Mk K (He.ga K c) f) (F : FnOk P w K mg base (L2.CX P w) k f fd ps (spV K m)) (hb : KBn K fd ps (n + 1) ks g gV) (hg : ∀ y vs zs, gV (y :: vs) zs = y :: gV' vs zs) :
    KCal P w K mg base (k + 1) (He.ga K c) n ks gV' (spV K (mkM (.slo c []) m)) :=
  (KCal.of_clsS M F hb hg).imp fun vs H Q E h a d H2 ha hd ne x h1 h2 => mk_sp (I2x := H) h ha hd ne x fun I le => by
    have nd : I d = none := by
      cases q : I d with
      | none => rfl
      | some u => exact (no_some hd.e (le d u q)).elim
    refine ⟨upd I d (.xd []), fun n => n.upd .xd, Le.upd nd, fun b u e => ?_, fun b e e' => ?_, ⟨d, [], h1, upd_same, .nil⟩, ?_⟩
    · by_cases z : b = d
      · subst z; rw [upd_same] at e; rw [← e]; exact h2
      · rw [upd_ne z] at e; exact x.get0 (le b u e)
    · by_cases z : b = d
      · exact z
      · rw [upd_ne z] at e'; exact (e' e).elim
    · rw [upd_ne (Ne.symm ne)]
      cases q : I a with
      | none => rfl
      | some u => exact (no_some ha.e (le a u q)).elim
end
end Vl

set_option Elab.async false
set_option linter.all false
set_option maxRecDepth 100000
set_option maxHeartbeats 2000000
/-! the value layer: own items, isinstance of a caught error, defaults that are tuples -/
namespace Vl
open PySem PySem.Spec PyProof.Rows L2 My
/-! ### o[i] by the own def -/
def ownX (ms : List (Str × Bool × Fm)) (p : D → D → Option RV) (x y : RV) (g : Sg) : Res RV := match deref g x, deref g y with
  | some a, some b => (match pickM "__getitem__" ms a with
    | some m => callK m [x, y] g
    | none => (match p a b with | some r => .ok r g | none => .stuck))
  | _, _ => .stuck
def ixO (ms : List (Str × Bool × Fm)) (fa fb : Ft) : Ft := fun g => (settle (fa g)).bind fun x g1 => (settle (fb g1)).bind fun y g2 => ownX ms ixP x y g2
section
variable {X : Cx} {W : WX} {a b : Expr} {fa fb : Ft} {pos : Pos} {j : Nat} {ms : List (Str × Bool × Fm)}
/-- the readings of ve_ix, as one -/
theorem ix_all (hu : X.A.units + 1 < cLine) : ∃ r : R2, IxR X r ∧ ∀ c v u a b Q, Ok X.K c → RdD X.K c v a → RdD X.K c u b → Gives X.K c (ixP a b) Q → r v u c.H Q := by
  refine ⟨_, (ix_seq (X := X)).or ((ix_dct hu).or ix_kdict), fun c v u a b Q o ra rb h => ?_⟩
  cases a <;> cases b <;> simp only [ixP] at h <;> first | exact h.elim | skip
  all_goals first
    | (rename_i z i
       rw [ra.str, rb.int]
       split at h
       · cases e : atI z.cps.toList i with
         | none => rw [e] at h; exact h.elim
         | some d => rw [e] at h; exact .inl (.inr (.inr ⟨z, i, d, rfl, rfl, by assumption, e, h.now o (.str _)⟩))
       · exact h.elim)
    | (rename_i xs i
       obtain ⟨p, us, rfl, hp, rp⟩ := ra.lst o
       cases e : atI xs i with
       | none => rw [e] at h; exact h.elim
       | some d =>
         rw [e] at h
         obtain ⟨w, hw, rw'⟩ := reps_atI rp e
         rw [rb.int]
         exact .inl (.inl ⟨p, us, i, w, rfl, rfl, SqL.of hp, hw, h.now o rw'⟩))
    | (rename_i xs i
       obtain ⟨p, us, rfl, hp, rp⟩ := ra.seq o
       cases e : atI xs i with
       | none => rw [e] at h; exact h.elim
       | some d =>
         rw [e] at h
         obtain ⟨w, hw, rw'⟩ := reps_atI rp e
         rw [rb.int]
         exact .inl (.inl ⟨p, us, i, w, rfl, rfl, hp, hw, h.now o rw'⟩))
    | (rename_i xs i
       obtain ⟨p, us, rfl, hp, rp⟩ := ra.tup o
       cases e : atI xs i with
       | none => rw [e] at h; exact h.elim
       | some d =>
         rw [e] at h
         obtain ⟨w, hw, rw'⟩ := reps_atI rp e
         rw [rb.int]
         exact .inl (.inr (.inl ⟨p, us, i, w, rfl, rfl, hp, hw, h.now o rw'⟩)))
    | (rename_i xs i
       obtain ⟨p, us, rfl, hp, rp⟩ := ra.dct o
       simp only [keyOf, Option.bind_some, Option.bind_none, Option.map_none] at h
       first | exact h.elim | skip
       cases e : valD xs (.inl i) with
       | none => rw [e] at h; exact h.elim
       | some d =>
         rw [e] at h
         obtain ⟨w, hw, rw'⟩ := (rp.val).1 d e
         rw [rb.int]
         exact .inr (.inl ⟨p, w, rfl, .inl ⟨us, .inl i, .inl hp, rfl, hw.symm⟩, h.now o rw'⟩))
    | (rename_i xs i
       obtain ⟨p, us, rfl, hp, rp⟩ := ra.dct o
       simp only [keyOf, Option.bind_some, Option.bind_none, Option.map_none] at h
       first | exact h.elim | skip
       cases e : valD xs (.inr i) with
       | none => rw [e] at h; exact h.elim
       | some d =>
         rw [e] at h
         obtain ⟨w, hw, rw'⟩ := (rp.val).1 d e
         rw [rb.str]
         exact .inr (.inl ⟨p, w, rfl, .inl ⟨us, .inr i, .inl hp, rfl, hw.symm⟩, h.now o rw'⟩))
    | (rename_i xs i
       obtain ⟨p, us, rfl, ⟨es, n, h1, h2, h3, h4⟩, rp⟩ := ra.kdc
       cases e : xs.lookup i with
       | none => rw [e] at h; exact h.elim
       | some d =>
         rw [e] at h
         obtain ⟨w, hw, rw'⟩ := rp.get e
         obtain ⟨r, e1, rr⟩ := h4 i
         rw [hw] at rr
         obtain ⟨u0, rfl, ru⟩ : ∃ u0, r = some u0 ∧ RelV w u0 := by
           cases r with
           | none => exact rr.elim
           | some u0 => exact ⟨u0, rfl, rr⟩
         rw [rb.str]
         exact .inr (.inr ⟨p, i, w, rfl, rfl, ⟨es, n, u0, h1, h2 X.w, e1, ru⟩, h.now o rw'⟩))
    | (simp only [keyOf, Option.bind_none, Option.map_none] at h; exact h.elim)

theorem ve_ixO (hu : X.A.units + 1 < cLine) (hr : Room (j + 1) X.A) (tk : Takes X W) (k : MethK X.prog X.w X.K X.mg X.base j "__getitem__" ms) (ha : VE X W a fa) (hb : VE X W b fb) (hs : PlainIx b := by exact fun _ _ => rfl)
    (hs2 : ∀ (p : Addr) (i : Value), subscripted b true (.ref p) i = runValue (.builtin "lifetime.subscript" ⟨[.ref p, i], []⟩) := by intro _ _; with_unfolding_all rfl) : VE X W (.Subscript a b pos) (ixO ms fa fb) := by
  obtain ⟨r, hr', hk⟩ := ix_all (X := X) hu
  refine ⟨⟨fun pins s σ H Q I q => ?_⟩⟩
  have q2 := rd2S (kk := ownX ms ixP) (fa := fa) (fb := fb) (R := fun v u H' => r v u H' Q ∨ ∃ (p g : Addr) (k : Nat) (sp : Sp) (x : Str), v = .ref p ∧ k ≤ j ∧ Callee X.prog X.w X.K X.mg X.base k g sp ∧ Meth X.K (He.ga X.K x) "__getitem__" g ∧
      (∀ (pins : List (Addr × Obj)) (s : Shared), Inv X pins σ H' s → ∃ (dx : Addr) (sl : Array (Option Value)) (od : Obj), PySem.W.InstAt s.heap p ⟨.ref (He.ga X.K x), some dx, .plain, sl⟩ (He.ga X.K x) (some od)) ∧ sp [v, u] H' Q (WE W σ)) q fun c c1 c3 v u x y e o rx ry nx ny h => by
    unfold ownX at h
    split at h
    · rename_i da db ea eb
      have ra := deref_rd o rx ea
      have rb := deref_rd o ry eb
      split at h
      · rename_i m em
        obtain ⟨z, hz⟩ := pick_cls em
        obtain ⟨p, g, k', rfl, hk', hc, hm, hi⟩ := meth_k k o ra em hz
        have hsp := call_sp (W := W) (c0 := c) (I := c.I) (H := c.H) (σ := c.σ) (g := c.g) (vs := [.ref p, u]) o (.cons ⟨_, rx, nx⟩ (.cons ⟨_, ry, ny⟩ .nil)) h
        rw [e] at hi hsp
        exact .inr ⟨p, g, k', _, z, rfl, hk', hc, hm, hi, hsp⟩
      · exact .inl (hk c v u da db Q o ra rb (gives_of h))
    · exact h.elim
  refine Subscript_ (binT ha.pe hb.pe I q2 fun v u s2 x y H2 I2 rx ry q => ?_)
  rcases q with q | ⟨p, g, k', sp, z, rfl, hk', hc, hm, hi, hsp⟩
  · exact hr' a b pins s2 σ H2 x y v u Q I2 rx ry q (hs _ _)
  · obtain ⟨dx, sl, od, J⟩ := hi pins s2 I2
    cases rx
    obtain ⟨mF, hF⟩ := I2.fr
    have vals : Vals [V.ref p, y] [Value.ref p, u] := .cons rfl (.cons ry .nil)
    exact PySem.W.sub_K hF I2.ok.mod.kin J hm.at_ (fnIn_of hm.fn hm.kp) hm.fn (call_at (A' := X.A.in1) rfl rfl hc (hr.in1.mono hk') tk I2 vals hsp) (hs2 _ _)
end
/-! ### isinstance of the caught error -/
theorem kin_classF {prog : Program} {w : World} {A : Around} {E : Value → Shared → Prop} {s : Shared} {K : PySem.W.Frag} {x D : Addr} {ox od : Obj} {Q : Option Value → Shared → Prop} (C : ExcC K D) (X : K.In s.heap) (I : PySem.W.InstAt s.heap x ox D (some od)) (h : Q (some (.ref D)) { s with toks := s.toks + 1 }) : wpAny (model prog w) A (getAttr? (.ref x) "__class__") Q E s := by
  have hf : PySem.W.findObj K D (some od) "__class__" = some (.bind (.builtin "getset_descriptor.__get__") (.builtin "object.__class__")) := PySem.W.findObj_data (by obtain ⟨cd, hc, _⟩ := PySem.W.any_some C.hd; rw [hc]; rfl) C.ha C.hn C.ht
  obtain ⟨hp, g, d, t, os⟩ := s
  have L0 := I.type (M := model prog w)
  have L1 := PySem.W.looks_findIn (M := model prog w) X C.hg
  have L2 := PySem.W.looks_findIn (M := model prog w) X C.hk
  have L3 := PySem.W.looks_find (M := model prog w) X I hf
  have sub : PySem.W.Looks (model prog w) hp (isInstance (.ref x) (.type "BaseException")) true := L0.andThen (PySem.W.looks_subIn X C.hs)
  have hx0 : (false && onTheHeap (Value.builtin "BaseException.__getattribute__")) = false := rfl
  have hx2 : (Value.builtin "BaseException.__getattribute__" == Value.builtin "object.__getattribute__") = false := by decide +kernel
  have hx1 : (onTheHeap (Value.ref D) && Value.builtin "BaseException.__getattribute__" == Value.builtin "object.__getattribute__") = false := by rw [hx2]; rfl
  unfold getAttr? getAttrBy? getAttrBy
  refine wpAny_bind (wpAny_mkText (wpAny_bind (wpAny_attempt (wpAny_holding (wpAny_bind (L0.at (wpAny_bind (L1.at ?_))))))))
  show wpAny _ _ (if (onTheHeap (Value.ref D) && Value.builtin "BaseException.__getattribute__" == Value.builtin "object.__getattribute__") = true then _ else _) _ _ _
  rw [hx1, if_neg Bool.false_ne_true]
  unfold getAttrByItsOwn hookBefore
  refine wpAny_bind ?_
  rw [if_pos (show onTheHeap (Value.ref D) = true from rfl)]
  refine L2.at ?_
  refine wpAny_bind (wpAny_attempt (wpAny_holding ?_))
  unfold callGetattribute
  rw [hx0, if_neg Bool.false_ne_true]
  unfold boundAndCalled
  rw [PySem.F.excAttr_ValueError.ga.bind (.ref x)]
  refine wpAny_bind (wpAny_pure ?_)
  show wpAny _ _ (call (.builtin "BaseException.__getattribute__") [.ref x, .str "__class__" t]) _ _ _
  refine wpAny_call (codeAny_call_builtin PySem.F.excAttr_ValueError.ga.plain PySem.F.entry_bexc_ga ?_)
  refine @PySem.W.check_slot (model prog w) _ _ ⟨hp, g, d, t + 1, os⟩ "BaseException.__getattribute__" "BaseException" "__getattribute__" (.ref x) [.str "__class__" t] [] _ (by decide +kernel) (by decide +kernel) sub (PySem.F.args_bexc_ga (.ref x) (.str "__class__" t)) ?_
  unfold Builtin.«object.__getattribute__»
  refine wpAny_bind (wpAny_of_eq (a := ((Value.ref x : Value), [Value.str "__class__" t])) (by first | rfl | (simp only [slotArgs]; rfl)) ?_)
  refine wpAny_bind (wpAny_pure (wpAny_bind (L0.at (wpAny_bind (L3.at ?_)))))
  show wpAny _ _ (holding [Value.builtin "object.__class__"] (call (.builtin "getset_descriptor.__get__") [.builtin "object.__class__", .ref x, .ref D]) >>= ret) _ _ _
  refine wpAny_bind (wpAny_holding (wpAny_call (PySem.W.class_get (s := ⟨hp, g, d, t + 1, os⟩) (ox := ox) (od := some od) X I C.hm ?_)))
  refine wpAny_pure ?_
  show wpAny _ _ (handedOut (.ref D)) _ _ _
  rw [PySem.W.handedOut_of (v := .ref D) rfl]
  first
    | exact wpAny_pure (wpAny_pure h)
    | exact wpAny_pure h
    | exact wpAny_pure (wpAny_bind (wpAny_pure (wpAny_pure h)))
theorem kitx_excF {K : PySem.W.Frag} {x D : Addr} {ox od : Obj} (C : ExcC K D) : PySem.W.KitX K (.ref x) (.ref D) (fun h => PySem.W.InstAt h x ox D (some od)) where
  ty := fun _ _ _ I => I.type
  it := fun _ _ X _ => by
    obtain ⟨cdD, hcD, _⟩ := PySem.W.any_some C.hd
    unfold PySem.W.clsIn at hcD
    split at hcD
    · rename_i c' d' cd' sl' ho
      intro A' Q' E' s' k q
      unfold isType loadHead
      exact wpAny_bind (wpAny_loadPart (k _ _ (X _ _ ho)) (wpAny_pure q))
    · cases hcD
  ne := fun h tp dd its n sl X htp => by
    obtain ⟨cdD, hcD, _⟩ := PySem.W.any_some C.hd
    refine Bool.eq_false_iff.mpr fun q => ?_
    have e : D = tp := Value.ref.inj (beq_iff_eq.mp q)
    subst e
    unfold PySem.W.clsIn at hcD
    split at hcD
    · rename_i c' d' cd' sl' ho
      have z := (X _ _ ho).symm.trans htp
      cases z
    · cases hcD
  ca := fun X I k => kin_classF C X I k
/-- isinstance(e, C), e the caught error: by e's class -/
structure ExiK (K : PySem.W.Frag) (C : Str) (ts : List (Str × Bool)) : Prop where
  ex : ∀ c b, ts.lookup c = some b → PySem.W.kitOne K (.ref (He.ga K c)) (.ref (He.ga K C)) = some b ∧ ExcC K (He.ga K c)
def exiF (a d : Addr) (c : Str) (ts : List (Str × Bool)) (i : Nat) : Ft := fun g => match g[i]? with
  | some (.val _ (.exv a' d' _ _)) => if a' = a ∧ d' = d then (match ts.lookup c with | some b => .ok (.val (.bl b)) g | none => .stuck) else .stuck
  | _ => .stuck
section
variable {X : Cx} {W : WX} {a dd : Addr} {c C : Str} {i : Nat} {oe : Obj} {pn : List (Addr × Obj)} {e : Expr} {p q pos : Pos} {ts : List (Str × Bool)}
theorem ve_exi (k : ExiK X.K C ts) (hz : Zc (.ref (He.ga X.K c)) (some dd) oe) (hf : ∃ vs, oe.data = .fields vs) (he : PE (X.suite a ((a, oe) :: pn)) e (tVar i)) (hg : Gl (X.suite a ((a, oe) :: pn)) "isinstance") (hm : X.mg "isinstance" = none) (gt : Gl (X.suite a ((a, oe) :: pn)) C) (mt : X.mg C = some (.ref (He.ga X.K C))) (hd : (C == ("__debug__" : Str)) = false := by decide)
    (h1 : starEach [e, .Name C q] (X.suite a ((a, oe) :: pn)).env = (false, eval e (X.suite a ((a, oe) :: pn)).env) :: starEach [.Name C q] (X.suite a ((a, oe) :: pn)).env := by rfl) (h2 : starEach [.Name C q] (X.suite a ((a, oe) :: pn)).env = (false, eval (.Name C q) (X.suite a ((a, oe) :: pn)).env) :: starEach [] (X.suite a ((a, oe) :: pn)).env := by rfl)
    (hpl : (backTo pos (starEach [.Name C q] (X.suite a ((a, oe) :: pn)).env)).any (·.1) = false := by rfl) :
    VE (X.suite a ((a, oe) :: pn)) W (.Call (.Name "isinstance" p) [e, .Name C q] [] pos) (exiF a dd c ts i) := by
  have cr : ∀ b, PySem.W.kitOne X.K (.ref (He.ga X.K c)) (.ref (He.ga X.K C)) = some b → ExcC X.K (He.ga X.K c) → CallR (X.suite a ((a, oe) :: pn)) (.builtin "isinstance") (fun xs H Q => ∃ fs, xs = [.ref a, .ref (He.ga X.K C)] ∧ H dd = some (.xd fs) ∧ Q (.bl b) H) := by
    intro b hb hc pins s σ H xs us Q I r h
    obtain ⟨fs, rfl, hx, q⟩ := h
    cases r with
    | cons rx rr =>
      cases rr with
      | cons rt rr =>
        cases rr
        cases rx
        cases rt
        obtain ⟨hget, _⟩ := I.pin (a, oe) (List.mem_append_left _ List.mem_cons_self)
        obtain ⟨vs, hv⟩ := hf
        obtain ⟨mA, hns, _⟩ := (show ObjOk _ _ H s.heap dd (.xd fs) from I.hok dd _ hx)
        obtain ⟨od, ho, _⟩ := lookIn_ns hns
        have J : PySem.W.InstAt s.heap a oe (He.ga X.K c) (some od) := ⟨hget, hz.1, by unfold PySem.W.notCls; rw [hv] <;> rfl, by rw [hz.2]; exact ho⟩
        exact PySem.W.kia_one (kitx_excF hc) I.kIn J hb (fun z => nomatch z) fun tk => ⟨.bl b, H, I.kept (t' := tk) fun _ _ z => z, rfl, q⟩
  cases hl : ts.lookup c with
  | none =>
    refine ⟨⟨fun pins s σ H Q I ⟨J, g, o, r⟩ => ?_⟩⟩
    unfold exiF at r
    rw [hl] at r
    split at r
    · split at r
      · exact r.elim
      · exact r.elim
    · exact r.elim
  | some b =>
    obtain ⟨hb, hc⟩ := k.ex _ _ hl
    refine ⟨pe_imp (pe_callB (cr b hb hc) hg hm (by decide +kernel) (pa_cons he (pa_cons (pe_glob (v := .ref (He.ga X.K C)) gt mt rfl hd) pa_nil h2) h1) (by decide) (by decide) h1 hpl) fun σ H Q ⟨J, g, o, r⟩ => ?_⟩
    unfold exiF at r
    rw [hl] at r
    split at r
    · rename_i t a' d' c' fs q
      split at r
      · rename_i hh
        obtain ⟨rfl, rfl⟩ := hh
        obtain ⟨u, e1, v, e2, rv⟩ := o.sl i _ q
        subst e2
        cases rv with
        | exv hx rf => exact ⟨_, e1, _, rfl, o.sub _ _ hx, r J H (.bl b) o (Go.refl _) (.bl b)⟩
      · exact r.elim
    · exact r.elim
end
def excB (K : PySem.W.Frag) (c : Str) : Bool := He.eqO (PySem.W.findIn K (.ref (He.ga K c)) "__getattribute__") (some (some (.builtin "BaseException.__getattribute__"))) && (He.eqO (PySem.W.findIn K (.ref (He.ga K c)) "__getattr__") (some none) && (decide (PySem.W.subIn K (.ref (He.ga K c)) (.type "BaseException") = some true) && (PySem.W.hasDictIn K (He.ga K c) &&
  (He.eqO (PySem.W.findIn K (.ref (He.ga K c)) "__class__") (some (some (.builtin "object.__class__"))) && (He.eqO (PySem.W.specialIn K (.builtin "object.__class__") "__get__") (some (some (.builtin "getset_descriptor.__get__"))) && (decide (PySem.W.takesIn K (.builtin "object.__class__") = some true) && decide (PySem.W.mroIn K (He.ga K c) (.type "object") = some true)))))))
theorem exc_ok {K : PySem.W.Frag} {c : Str} (h : excB K c = true) : ExcC K (He.ga K c) := by
  unfold excB at h
  simp only [Bool.and_eq_true, decide_eq_true_eq] at h
  exact ⟨He.eqO_ok h.1, He.eqO_ok h.2.1, h.2.2.1, h.2.2.2.1, He.eqO_ok h.2.2.2.2.1, He.eqO_ok h.2.2.2.2.2.1, h.2.2.2.2.2.2.1, h.2.2.2.2.2.2.2⟩
def exiB (K : PySem.W.Frag) (C : Str) (ts : List (Str × Bool)) : Bool := ts.all fun p => decide (PySem.W.kitOne K (.ref (He.ga K p.1)) (.ref (He.ga K C)) = some p.2) && excB K p.1
theorem exi_ok {K : PySem.W.Frag} {C : Str} {ts : List (Str × Bool)} (h : exiB K C ts = true) : ExiK K C ts := ⟨fun c b l => by
  have := List.all_eq_true.mp h _ (mem_of_lookup l)
  obtain ⟨h1, h2⟩ := Bool.and_eq_true_iff.mp this
  exact ⟨of_decide_eq_true h1, exc_ok h2⟩⟩
/-! ### a default that is an empty tuple -/
def tup0B (K : PySem.W.Frag) (a : Addr) : Bool := match K.lookup a with
  | some ⟨.type c, _, .seq its _, _⟩ => decide (c = "tuple") && decide (its = #[])
  | _ => false
theorem tup0_ok {K : PySem.W.Frag} {a : Addr} (h : tup0B K a = true) (I : Hp) : Rep K I (.ref a) (.tup []) := by
  unfold tup0B at h
  split at h
  · rename_i c d its n sl q
    obtain ⟨h1, h2⟩ := Bool.and_eq_true_iff.mp h
    have e1 := of_decide_eq_true h1
    have e2 := of_decide_eq_true h2
    subst e1 e2
    exact .tup (.inr ⟨_, #[], n, q, rfl, rfl, Nat.zero_le _, .nil⟩) .nil
  · cases h
end Vl

set_option Elab.async false
set_option linter.all false
set_option maxRecDepth 100000
set_option maxHeartbeats 2000000
/-! the value layer: a < b < c < d -/
namespace Vl
open PySem PySem.Spec PyProof.Rows L2 My
def chN : RV → List ((D → D → Option RV) × Ft) → Sg → Res Bool
  | _, [], g => .ok true g
  | x, (p, f) :: r, g => (settle (f g)).bind fun y g1 => (blF (fun g => lift2 p x y g) g1).bind fun k g2 => if k = true then chN y r g2 else .ok false g2
def ch3B (p q s : D → D → Option RV) (fa fb fc fd : Ft) : Fb := fun g => (settle (fa g)).bind fun x g1 => chN x [(p, fb), (q, fc), (s, fd)] g1
def ch3V (p q s : D → D → Option RV) (fa fb fc fd : Ft) : Ft := fun g => (ch3B p q s fa fb fc fd g).bind fun k g1 => .ok (.val (.bl k)) g1
def tChain3 (r1 r2 r3 : R2) (ta tb tc td : TE) : TE := fun σ H Q => ta σ H fun x H1 => tb σ H1 fun y H2 => r1 x y H2 fun z H3 => ∃ k, z = .bl k ∧
  (if k = true then tc σ H3 fun w H4 => r2 y w H4 fun z' H5 => ∃ k', z' = .bl k' ∧ (if k' = true then td σ H5 fun w' H6 => r3 w w' H6 Q else Q (.bl false) H5) else Q (.bl false) H3)
section
variable {X : Cx} {W : WX} {a b c d : Expr} {ta tb tc td : TE} {fa fb fc fd : Ft} {pos : Pos} {p q s : D → D → Option RV}
theorem pe_chain3 {o1 o2 o3 : CmpOp} {r1 r2 r3 : R2} (h1 : OpR X (compareOp o1) r1) (h2 : OpR X (compareOp o2) r2) (h3 : OpR X (compareOp o3) r3) (ha : PE X a ta) (hb : PE X b tb) (hc : PE X c tc) (hd : PE X d td)
    (hm : lastMarks [o1, o2, o3] [b, c, d] = false := by with_unfolding_all rfl) : PE X (.Compare a [o1, o2, o3] [b, c, d] pos) (tChain3 r1 r2 r3 ta tb tc td) := by
  refine ⟨fun pins s σ H Q I h => ?_⟩
  refine Compare_chain (thn (ha.run pins s σ H _ I h) fun v s1 ⟨x, H1, I1, r1, q1⟩ => chain_link (thn (hb.run pins s1 σ H1 _ I1 q1) fun u s2 ⟨y, H2, I2, r2, q2⟩ =>
    thn (h1 pins s2 σ H2 x y v u _ I2 r1 r2 q2) fun d s3 ⟨z, H3, I3, r3, k, e, q3⟩ => ?_)) hm
  subst e
  cases r3
  refine wpAny_truthy_bool ?_
  cases k with
  | false => exact ite_ff ⟨.bl false, H3, I3, rfl, q3⟩
  | true =>
    refine ite_tt (chain_link (thn (hc.run pins s3 σ H3 _ I3 q3) fun w' s4 ⟨z', H4, I4, r4, q4⟩ => thn (h2 pins s4 σ H4 y z' u w' _ I4 r2 r4 q4) fun d s5 ⟨z5, H5, I5, r5, k, e, q5⟩ => ?_))
    subst e
    cases r5
    refine wpAny_truthy_bool ?_
    cases k with
    | false => exact ite_ff ⟨.bl false, H5, I5, rfl, q5⟩
    | true => exact ite_tt (chain_last (thn (hd.run pins s5 σ H5 _ I5 q5) fun w6 s6 ⟨z6, H6, I6, r6, q6⟩ => h3 pins s6 σ H6 z' z6 w' w6 Q I6 r4 r6 q6))
theorem pt_chain3 {o1 o2 o3 : CmpOp} {r1 r2 r3 : R2} (h1 : OpR X (compareOp o1) r1) (h2 : OpR X (compareOp o2) r2) (h3 : OpR X (compareOp o3) r3) (ha : PE X a ta) (hb : PE X b tb) (hc : PE X c tc) (hd : PE X d td)
    (hm : lastMarks [o1, o2, o3] [b, c, d] = false := by with_unfolding_all rfl) : PT X (.Compare a [o1, o2, o3] [b, c, d] pos) (tTest (tChain3 r1 r2 r3 ta tb tc td)) := by
  refine ⟨fun pins s σ H Q I h => ?_⟩
  refine isTrue_chain (thn (ha.run pins s σ H _ I h) fun v s1 ⟨x, H1, I1, r1, q1⟩ => test_link (thn (hb.run pins s1 σ H1 _ I1 q1) fun u s2 ⟨y, H2, I2, r2, q2⟩ =>
    thn (h1 pins s2 σ H2 x y v u _ I2 r1 r2 q2) fun d s3 ⟨z, H3, I3, r3, k, e, q3⟩ => ?_)) hm
  subst e
  cases r3
  refine wpAny_truthy_bool ?_
  cases k with
  | false =>
    obtain ⟨k', e', q'⟩ := q3
    cases e'
    exact ite_ff ⟨H3, I3, q'⟩
  | true =>
    refine ite_tt (test_link (thn (hc.run pins s3 σ H3 _ I3 q3) fun w' s4 ⟨z', H4, I4, r4, q4⟩ => thn (h2 pins s4 σ H4 y z' u w' _ I4 r2 r4 q4) fun d s5 ⟨z5, H5, I5, r5, k, e, q5⟩ => ?_))
    subst e
    cases r5
    refine wpAny_truthy_bool ?_
    cases k with
    | false =>
      obtain ⟨k', e', q'⟩ := q5
      cases e'
      exact ite_ff ⟨H5, I5, q'⟩
    | true =>
      refine ite_tt (test_last (thn (hd.run pins s5 σ H5 _ I5 q5) fun w6 s6 ⟨z6, H6, I6, r6, q6⟩ => thn (h3 pins s6 σ H6 z' z6 w' w6 _ I6 r4 r6 q6) fun d' s7 ⟨z7, H7, I7, r7, k2, e2, q7⟩ => ?_))
      subst e2
      cases r7
      exact wpAny_truthy_bool ⟨H7, I7, q7⟩
/-- one link -/
theorem chain_step {f : Ft} {op : CmpOp} {r : R2} {rest : List ((D → D → Option RV) × Ft)} (hk : ∀ c v u a b Q, Ok X.K c → RdD X.K c v a → RdD X.K c u b → Gives X.K c (p a b) Q → r v u c.H Q) {c0 c1 : Cfg} {v : V} {x : RV} {Q : Bool → Hp → Prop} {T : V → VK} (o : Ok X.K c1) (rx : RvR X.K c0 c1 v x)
    (h : Rem X.K W RbR c1 (chN x ((p, f) :: rest) c1.g) Q) (hT : ∀ u kb H3, (kb = false → Q false H3) → (kb = true → ∃ I3 g3 y c', Ok X.K ⟨I3, c1.σ, H3, g3⟩ ∧ RvR X.K c' ⟨I3, c1.σ, H3, g3⟩ u y ∧ Rem X.K W RbR ⟨I3, c1.σ, H3, g3⟩ (chN y rest g3) Q) → T u (.bl kb) H3) :
    rdE X.K W f c1.σ c1.H fun u H2 => r v u H2 (T u) := by
  refine ⟨c1.I, c1.g, o, Rem.settle ((Rem.bind (R := RvR X.K) h).mono ?_)⟩
  rintro u H2 ⟨I2, g2, y, o2, y2, ry, h3⟩
  have rx2 := RvR.on (c1 := c1) o2 rfl y2 rx
  have h4 := blF_rem (Rem.bind (R := RbR) h3)
  obtain ⟨da, db, ra, rb, gv⟩ := lift2_gives (c := ⟨I2, c1.σ, H2, g2⟩) o2 rx2 ry h4
  refine hk ⟨I2, c1.σ, H2, g2⟩ v u da db _ o2 ra rb ?_
  cases ep : p da db with
  | none => rw [ep] at gv; exact gv.elim
  | some rv =>
    rw [ep] at gv
    intro I3 H3 w o3 y3 rw3
    obtain ⟨kb, ew, I4, g4, x4, o4, y4, e4, h5⟩ := gv I3 H3 w o3 y3 rw3
    subst e4
    subst ew
    refine hT u kb H3 (fun e => ?_) fun e => ?_
    · subst e
      exact h5 I4 H3 false o4 (Go.refl _) rfl
    · subst e
      exact ⟨I4, g4, y, _, o4, RvR.on (c1 := ⟨I2, c1.σ, H2, g2⟩) o4 rfl y4 ry, h5⟩
theorem ch3_rd {r1 r2 r3 : R2} (k1 : ∀ c v u a b Q, Ok X.K c → RdD X.K c v a → RdD X.K c u b → Gives X.K c (p a b) Q → r1 v u c.H Q) (k2 : ∀ c v u a b Q, Ok X.K c → RdD X.K c v a → RdD X.K c u b → Gives X.K c (q a b) Q → r2 v u c.H Q) (k3 : ∀ c v u a b Q, Ok X.K c → RdD X.K c v a → RdD X.K c u b → Gives X.K c (s a b) Q → r3 v u c.H Q)
    {σ : L2.St} {H : Hp} {Q : VK} (h : rdT X.K W (ch3B p q s fa fb fc fd) σ H fun k H => Q (.bl k) H) : tChain3 r1 r2 r3 (rdE X.K W fa) (rdE X.K W fb) (rdE X.K W fc) (rdE X.K W fd) σ H Q := by
  obtain ⟨I, g, o, h1⟩ := h
  refine ⟨I, g, o, Rem.settle ((Rem.bind (R := RvR X.K) h1).mono ?_)⟩
  rintro v H1 ⟨I1, g1, x, o1, y1, rx, h2⟩
  refine chain_step (op := .Eq) (c1 := ⟨I1, σ, H1, g1⟩) k1 o1 rx h2 fun u kb H3 hf ht => ⟨kb, rfl, ?_⟩
  cases kb with
  | false => exact hf rfl
  | true =>
    obtain ⟨I3, g3, y, c', o3, ry, h3⟩ := ht rfl
    refine chain_step (op := .Eq) (c1 := ⟨I3, σ, H3, g3⟩) k2 o3 ry h3 fun u kb H5 hf ht => ⟨kb, rfl, ?_⟩
    cases kb with
    | false => exact hf rfl
    | true =>
      obtain ⟨I5, g5, z, c'', o5, rz, h5⟩ := ht rfl
      refine chain_step (op := .Eq) (T := fun _ => Q) (c1 := ⟨I5, σ, H5, g5⟩) k3 o5 rz h5 fun u kb H7 hf ht => ?_
      cases kb with
      | false => exact hf rfl
      | true =>
        obtain ⟨I7, g7, w, _, o7, _, h7⟩ := ht rfl
        exact h7 I7 H7 true o7 (Go.refl _) rfl
theorem ve_chain3 {o1 o2 o3 : CmpOp} (h1 : P2 X (compareOp o1) p) (h2 : P2 X (compareOp o2) q) (h3 : P2 X (compareOp o3) s) (ha : VE X W a fa) (hb : VE X W b fb) (hc : VE X W c fc) (hd : VE X W d fd)
    (hm : lastMarks [o1, o2, o3] [b, c, d] = false := by with_unfolding_all rfl) : VE X W (.Compare a [o1, o2, o3] [b, c, d] pos) (ch3V p q s fa fb fc fd) := by
  obtain ⟨r1, q1, k1⟩ := h1.ex
  obtain ⟨r2, q2, k2⟩ := h2.ex
  obtain ⟨r3, q3, k3⟩ := h3.ex
  refine ⟨pe_imp (pe_chain3 q1 q2 q3 ha.pe hb.pe hc.pe hd.pe hm) fun σ H Q ⟨I, g, o, h0⟩ => ch3_rd k1 k2 k3 ⟨I, g, o, (Rem.bind (R := RbR) h0).mono fun v H1 ⟨I1, g1, x, o1, y1, rx, r1⟩ => by
    cases rx
    exact r1 I1 H1 (.bl v) o1 (Go.refl _) (.bl _)⟩⟩
theorem vt_chain3 {o1 o2 o3 : CmpOp} (h1 : P2 X (compareOp o1) p) (h2 : P2 X (compareOp o2) q) (h3 : P2 X (compareOp o3) s) (ha : VE X W a fa) (hb : VE X W b fb) (hc : VE X W c fc) (hd : VE X W d fd)
    (hm : lastMarks [o1, o2, o3] [b, c, d] = false := by with_unfolding_all rfl) : VT X W (.Compare a [o1, o2, o3] [b, c, d] pos) (ch3B p q s fa fb fc fd) := by
  obtain ⟨r1, q1, k1⟩ := h1.ex
  obtain ⟨r2, q2, k2⟩ := h2.ex
  obtain ⟨r3, q3, k3⟩ := h3.ex
  exact ⟨PT.imp (pt_chain3 q1 q2 q3 ha.pe hb.pe hc.pe hd.pe hm) fun σ H Q ⟨I, g, o, h0⟩ => ch3_rd (Q := fun z H => ∃ k, z = .bl k ∧ Q k H) k1 k2 k3 ⟨I, g, o, h0.mono fun v H1 q => ⟨v, rfl, q⟩⟩⟩
end
end Vl

set_option Elab.async false
set_option linter.all false
set_option maxRecDepth 100000
set_option maxHeartbeats 2000000
/-! the value layer: a comprehension over an own list that stays own -/
namespace Vl
open PySem PySem.Spec PyProof.Rows L2 My
/-- the slot holds just this list -/
def OwnIs (ds : List D) (s : Option Sl) : Prop := ∃ t, s = some (.own t (.lst ds))
open Classical in
noncomputable def compLO (p : Nat) (ds0 : List D) (t : Tg) (tt : Option Fb) (fe : Ft) (vs : List Nat) : List D → Sg → List D → Res RV
  | [], g, acc => if OwnIs ds0 g[p]? then .ok (.fr (.lst acc)) g else .stuck
  | d :: ds, g, acc => if OwnIs ds0 g[p]? then (match tgF t d g with
    | some g1 => (match (match tt with | some tt => noX (tt g1) | none => .ok true g1) with
      | .ok true g2 => (match noX (settle (fe g2)) with
        | .ok x g3 => (match frz1 x g3 with
          | some (y, g4) => if acc.length < sizeLine then compLO p ds0 t tt fe vs ds (wipeG g4 vs) (acc ++ [y]) else .stuck
          | none => .stuck)
        | _ => .stuck)
      | .ok false g2 => compLO p ds0 t tt fe vs ds (wipeG g2 vs) acc
      | _ => .stuck)
    | none => .stuck) else .stuck
noncomputable def compO (p : Nat) (t : Tg) (tt : Option Fb) (fe : Ft) (vs : List Nat) : Ft := fun g => match g[p]? with
  | some (.own _ (.lst ds)) => compLO p ds t tt fe vs ds (wipeG g vs) []
  | _ => .stuck
section
variable {X : Cx} {W : WX}
theorem comp_rdO {p : Nat} {t : Tg} {tt : Option Fb} {fe : Ft} {vs : List Nat} {σ : L2.St} {H : Hp} {Q : VK} (hp : p ∉ vs) (hn : ∀ i ∈ t.ns, i ∈ vs) (h : rdE X.K W (compO p t tt fe vs) σ H Q) :
    tLc (iList X.K (tVar p)) (rdG X.K t) (rdTs X.K tt) (rdE X.K W0 fe) vs σ H Q := by
  obtain ⟨I, g, o, r⟩ := h
  unfold compO at r
  split at r
  rotate_left
  · exact r.elim
  · rename_i tag ds eg
    obtain ⟨a, ea, ow, na⟩ := o.own_at eg
    obtain ⟨us0, hu0, ru0⟩ := ow
    refine ⟨.ref a, ea, a, rfl, ⟨us0, SqL.of hu0⟩, ?_⟩
    have hJ : ∀ c2 : Cfg, Ok X.K c2 → c2.σ[p]? = some (some (.ref a)) → OwnIs ds c2.g[p]? → ∀ n : Nat, (∀ d, ds[n]? = some d → (Itl X.K a).go n c2.H ∧ ∀ x H', (Itl X.K a).yld n c2.H x H' → ∃ I', Ok X.K ⟨I', c2.σ, H', c2.g⟩ ∧ Go c2 ⟨I', c2.σ, H', c2.g⟩ ∧ Rep X.K I' x d) ∧ (ds.length ≤ n → (Itl X.K a).stop n c2.H) := by
      intro c2 o2 e2 ⟨t2, w2⟩ n
      obtain ⟨a2, ea2, ow2, na2⟩ := o2.own_at w2
      rw [e2] at ea2
      cases ea2
      obtain ⟨xs, hx, rr⟩ := ow2
      have h2 : SqL X.K c2.H a xs := SqL.of hx
      refine ⟨fun d e => ?_, fun e => ⟨xs, h2, by rw [rr.length]; exact e⟩⟩
      obtain ⟨v, hv, rv⟩ := rr.get e
      refine ⟨⟨xs, v, h2, hv⟩, fun x H' ⟨eH, hx'⟩ => ?_⟩
      subst eH
      have := hx' xs h2
      rw [hv] at this
      cases this
      exact ⟨c2.I, o2, Go.refl _, rv⟩
    intro Dd hD
    have frD : Fr H Dd := ⟨hD⟩
    have nI : I Dd = none := by
      cases q : I Dd with
      | none => rfl
      | some u => exact (no_some hD (o.sub Dd u q)).elim
    -- between turns: the list at Dd holds acc
    let Inv (i : Nat) (H2 : Hp) : Prop := ∃ I2 g2 acc us, Ok X.K ⟨I2, wipe σ vs, H2, g2⟩ ∧ Go ⟨I, σ, H, g⟩ ⟨I2, wipe σ vs, H2, g2⟩ ∧ wipeG g2 vs = g2 ∧ H2 Dd = some (.lst us) ∧ Reps X.K I2 us acc ∧ I2 Dd = none ∧ ¬ Cfg.Own ⟨I2, wipe σ vs, H2, g2⟩ Dd ∧
      Rem X.K W (RvR X.K) ⟨I, σ, H, g⟩ (compLO p ds t tt fe vs (ds.drop i) g2 acc) Q
    have wlen : (wipe σ vs).length = σ.length := wipe_length σ vs
    have nOwn : ∀ {I2 : Hp} {σ2 : L2.St} {H2 : Hp} {g2 : Sg}, Go ⟨I, σ, H, g⟩ ⟨I2, σ2, H2, g2⟩ → True := fun _ => trivial
    have wipe2 : ∀ (g : Sg) (vs : List Nat), wipeG (wipeG g vs) vs = wipeG g vs := by
      intro g vs
      apply List.ext_getElem?
      intro j
      have hlen : ∀ (g : Sg) (vs : List Nat), (wipeG g vs).length = g.length := by
        intro g vs
        induction vs with
        | nil => rfl
        | cons v vs ih => show ((wipeG g vs).set v .un).length = _; rw [List.length_set]; exact ih
      have key : ∀ (g : Sg) (vs : List Nat), (j ∈ vs → j < g.length → (wipeG g vs)[j]? = some .un) ∧ (j ∉ vs → (wipeG g vs)[j]? = g[j]?) := by
        intro g vs
        induction vs with
        | nil => exact ⟨fun h => (nomatch h), fun _ => rfl⟩
        | cons v vs ih =>
          refine ⟨fun h hl => ?_, fun h => ?_⟩
          · show ((wipeG g vs).set v .un)[j]? = _
            by_cases e : v = j
            · subst e; rw [List.getElem?_set_self (by rw [hlen]; exact hl)]
            · rw [List.getElem?_set_ne e]
              rcases List.mem_cons.mp h with h | h
              · exact absurd h.symm e
              · exact ih.1 h hl
          · simp only [List.mem_cons, not_or] at h
            show ((wipeG g vs).set v .un)[j]? = _
            rw [List.getElem?_set_ne (fun z => h.1 z.symm)]
            exact ih.2 h.2
      by_cases hj : j ∈ vs
      · by_cases hl : j < g.length
        · rw [(key _ vs).1 hj (by rw [hlen]; exact hl), (key g vs).1 hj hl]
        · rw [List.getElem?_eq_none (by rw [hlen, hlen]; omega), List.getElem?_eq_none (by rw [hlen]; omega)]
      · rw [(key _ vs).2 hj]
    refine ⟨fun i m H2 => m = ds.length - i ∧ i ≤ ds.length ∧ Inv i H2, ⟨ds.length, by simp, Nat.zero_le _, ?_⟩, ?_⟩
    · -- the start
      have x : Xb [] H (upd H Dd (.lst [])) := Xb.new hD
      have oN : Ok X.K ⟨I, σ, upd H Dd (.lst []), g⟩ := o.new x
      have yN : Go ⟨I, σ, H, g⟩ ⟨I, σ, upd H Dd (.lst []), g⟩ := Go.new x
      refine ⟨I, wipeG g vs, [], [], oN.wiped wlen (fun j hj => wipe_get hj), yN.trans (Go.wiped fun j hj => wipe_get hj), wipe2 _ _, upd_same, .nil, nI, fun q => ?_, ?_⟩
      · obtain ⟨j, t', d', q1, q2⟩ := q
        rcases wipeG_get q1 with z | ⟨q1, m⟩
        · cases z
        · obtain ⟨u, hu⟩ := o.own_some (a := Dd) ⟨j, t', d', q1, by rw [← wipe_get (σ := σ) m]; exact q2⟩
          exact no_some hD hu
      · exact r
    · rintro i m H2 ⟨rfl, hi, I2, g2, acc, us, o2, y2, w2, hd, ra, n2, nw, r2⟩
      have own2 : OwnIs ds g2[p]? := by
        by_cases c : OwnIs ds g2[p]?
        · exact c
        · exfalso
          cases q : ds.drop i with
          | nil => rw [q] at r2; unfold compLO at r2; rw [if_neg c] at r2; exact r2
          | cons x y => rw [q] at r2; unfold compLO at r2; rw [if_neg c] at r2; exact r2
      obtain ⟨k1, k2⟩ := hJ ⟨I2, wipe σ vs, H2, g2⟩ o2 (by show (wipe σ vs)[p]? = _; rw [wipe_get hp]; exact ea) own2 i
      by_cases hlt : i < ds.length
      · obtain ⟨q1, q2⟩ := k1 ds[i] (List.getElem?_eq_getElem hlt)
        refine .inr ⟨q1, Inv (i + 1), fun H' hI => ⟨ds.length - (i + 1), by omega, rfl, hlt, hI⟩, fun x H' hy => ?_⟩
        obtain ⟨I3, o3, y3, rv⟩ := q2 x H' hy
        rw [List.drop_eq_getElem_cons hlt] at r2
        unfold compLO at r2
        rw [if_pos own2] at r2
        have hd3 : H' Dd = some (.lst us) := y3.keep Dd _ hd nw .lst
        -- a later state keeps the list
        have later : ∀ {I4 : Hp} {σ4 : L2.St} {H4 : Hp} {g4 : Sg}, Go ⟨I2, wipe σ vs, H2, g2⟩ ⟨I4, σ4, H4, g4⟩ → H4 Dd = some (.lst us) ∧ I4 Dd = none ∧ ¬ Cfg.Own ⟨I4, σ4, H4, g4⟩ Dd := fun {I4 σ4 H4 g4} y => by
          refine ⟨y.keep Dd _ hd nw .lst, ?_, fun q => ?_⟩
          · cases q : I4 Dd with
            | none => rfl
            | some u =>
              rcases y.grow Dd n2 (by show I4 Dd ≠ none; rw [q]; exact fun z => nomatch z) with z | z
              · exact (nw z).elim
              · exact (no_some z hd).elim
          · rcases y.own Dd q with z | z
            · exact nw z
            · exact no_some z hd
        split at r2
        · rename_i g5 e5
          refine ⟨I3, g2, ds[i], o3, rv, g5, e5, fun σ5 o5 y5 d5 => ⟨?_, ?_⟩⟩
          · rw [wipe_dif d5.1 fun j hj => d5.2 j fun q => hj (hn j q)]
            exact wipe_dif wlen fun j hj => wipe_get hj
          · have w5 : ∀ j, j ∉ vs → (wipe σ vs)[j]? = σ5[j]? := fun j hj => (d5.2 j fun q => hj (hn j q)).symm
            have l5 : (wipe σ vs).length = σ5.length := d5.1.symm
            have y25 : Go ⟨I2, wipe σ vs, H2, g2⟩ ⟨I3, σ5, H', g5⟩ := y3.trans y5
            -- the test
            have fin : ∀ {b : Bool} {I6 : Hp} {H6 : Hp} {g6 : Sg}, Ok X.K ⟨I6, σ5, H6, g6⟩ → Go ⟨I2, wipe σ vs, H2, g2⟩ ⟨I6, σ5, H6, g6⟩ →
                Rem X.K W (RvR X.K) ⟨I, σ, H, g⟩ (match b with
                  | true => (match noX (settle (fe g6)) with
                    | .ok x g3 => (match frz1 x g3 with
                      | some (y, g4) => if acc.length < sizeLine then compLO p ds t tt fe vs (ds.drop (i + 1)) (wipeG g4 vs) (acc ++ [y]) else .stuck
                      | none => .stuck)
                    | _ => .stuck)
                  | false => compLO p ds t tt fe vs (ds.drop (i + 1)) (wipeG g6 vs) acc) Q →
                if b = true then rdE X.K W0 fe σ5 H6 (fun y H4 => ∃ acc, H4 Dd = some (.lst acc) ∧ acc.length < sizeLine ∧ Inv (i + 1) (upd H4 Dd (.lst (acc ++ [y])))) else Inv (i + 1) H6 := by
              intro b I6 H6 g6 o6 y6 r6
              cases b with
              | false =>
                rw [if_neg (by decide)]
                obtain ⟨p1, p2, p3⟩ := later (y6.trans (Go.wiped (vs := vs) (σ' := wipe σ vs) w5))
                exact ⟨I6, wipeG g6 vs, acc, us, o6.wiped l5 w5, (y2.trans y6).trans (Go.wiped w5), wipe2 _ _, p1, ra.mono y6.sub, p2, p3, r6⟩
              | true =>
                rw [if_pos rfl]
                refine ⟨I6, g6, o6, Rem.settle ?_⟩
                have r6 : Rem X.K W (RvR X.K) ⟨I, σ, H, g⟩ (match noX (settle (fe g6)) with
                    | .ok x g3 => (match frz1 x g3 with
                      | some (y, g4) => if acc.length < sizeLine then compLO p ds t tt fe vs (ds.drop (i + 1)) (wipeG g4 vs) (acc ++ [y]) else .stuck
                      | none => .stuck)
                    | _ => .stuck) Q := r6
                have nf : ∀ x g', settle (fe g6) = .ok x g' → ∀ d, x ≠ .fr d := fun x g' h => settle_nofr h
                revert r6 nf
                generalize settle (fe g6) = sr
                intro r6 nf
                cases sr with
                | stuck => exact r6
                | exn c fs gg => exact fun _ _ _ _ _ _ => r6
                | ok x7 g7 =>
                  intro I7 H7 v7 o7 y7 rx7
                  have r7 : Rem X.K W (RvR X.K) ⟨I, σ, H, g⟩ (match frz1 x7 g7 with
                      | some (y, g4) => if acc.length < sizeLine then compLO p ds t tt fe vs (ds.drop (i + 1)) (wipeG g4 vs) (acc ++ [y]) else .stuck
                      | none => .stuck) Q := r6
                  split at r7
                  · rename_i y8 g8 e8
                    obtain ⟨I8, o8, y8', rr8⟩ := frz1_ok (c0 := ⟨I, σ, H, g⟩) o7 rx7 (nf x7 g7 rfl) e8
                    split at r7
                    · rename_i hl
                      have y28 := (y6.trans y7).trans y8'
                      have y9 : Go ⟨I2, wipe σ vs, H2, g2⟩ ⟨I8, wipe σ vs, H7, wipeG g8 vs⟩ := y28.trans (Go.wiped (vs := vs) (σ' := wipe σ vs) w5)
                      obtain ⟨p1, p2, p3⟩ := later y9
                      have o9 : Ok X.K ⟨I8, wipe σ vs, H7, wipeG g8 vs⟩ := o8.wiped l5 w5
                      refine ⟨us, p1, by rw [ra.length]; exact hl, ?_⟩
                      -- the list grows
                      have ne : ∀ b, b ≠ Dd → upd H7 Dd (.lst (us ++ [v7])) b = H7 b := fun b hb => upd_ne hb
                      have o10 : Ok X.K ⟨I8, wipe σ vs, upd H7 Dd (.lst (us ++ [v7])), wipeG g8 vs⟩ := by
                        refine o9.grow (Le.refl _) (fun b u hb => ?_) (fun b hb => ⟨ne b fun z => by subst z; exact p3 hb, o9.own_free hb⟩) o9.nt (fun b ps hb => by rw [ne b fun z => by subst z; rw [p1] at hb; cases hb]; exact hb)
                        rw [ne b fun z => by subst z; exact no_some p2 hb]
                        exact o9.sub b u hb
                      have y10 : Go ⟨I, σ, H, g⟩ ⟨I8, wipe σ vs, upd H7 Dd (.lst (us ++ [v7])), wipeG g8 vs⟩ := by
                        have y := y2.trans y9
                        refine ⟨y.sub, fun b u hb hw nt => ?_, fun b hb => ?_, y.grow, y.own, y.ownf, y.tag⟩
                        · have hb : H b = some u := hb
                          show upd H7 Dd (.lst (us ++ [v7])) b = some u
                          rw [ne b fun z => by subst z; exact no_some hD hb]
                          exact y.keep b u hb hw nt
                        · have hb : upd H7 Dd (.lst (us ++ [v7])) b = none := hb
                          by_cases z : b = Dd
                          · subst z; exact hD
                          · rw [ne b z] at hb; exact y.dom b hb
                      exact ⟨I8, wipeG g8 vs, acc ++ [y8], us ++ [v7], o10, y10, wipe2 _ _, upd_same, (ra.mono y28.sub).append (.one rr8), p2, p3, r7⟩
                    · exact r7.elim
                  · exact r7.elim
            cases tt with
            | none =>
              refine fin (b := true) o5 y25 ?_
              exact r2
            | some tf =>
              refine ⟨I3, g5, o5, ?_⟩
              have r2 : Rem X.K W (RvR X.K) ⟨I, σ, H, g⟩ (match noX (tf g5) with
                | .ok true g2 => (match noX (settle (fe g2)) with
                  | .ok x g3 => (match frz1 x g3 with
                    | some (y, g4) => if acc.length < sizeLine then compLO p ds t (some tf) fe vs (ds.drop (i + 1)) (wipeG g4 vs) (acc ++ [y]) else .stuck
                    | none => .stuck)
                  | _ => .stuck)
                | .ok false g2 => compLO p ds t (some tf) fe vs (ds.drop (i + 1)) (wipeG g2 vs) acc
                | _ => .stuck) Q := r2
              revert r2
              generalize tf g5 = tr
              intro r2
              cases tr with
              | stuck => exact r2
              | exn c fs gg => exact fun _ _ _ _ _ _ => r2
              | ok b g6 =>
                intro I6 H6 b' o6 y6 eb
                subst eb
                refine fin (b := b') o6 (y25.trans y6) ?_
                cases b' <;> exact r2
        · exact r2.elim
      · have e5 : i = ds.length := by omega
        subst e5
        rw [List.drop_length] at r2
        unfold compLO at r2
        rw [if_pos own2] at r2
        refine .inl ⟨k2 (Nat.le_refl _), ?_⟩
        -- back to the def's own slots
        have w6 : ∀ j, j ∉ vs → σ[j]? = (wipe σ vs)[j]? := fun j hj => (wipe_get hj).symm
        have o6 : Ok X.K ⟨I2, σ, H2, g2⟩ := by rw [← w2]; exact o2.wiped wlen.symm w6
        have y6 : Go ⟨I, σ, H, g⟩ ⟨I2, σ, H2, g2⟩ := by
          have := y2.trans (Go.wiped (vs := vs) (σ' := σ) w6)
          rw [w2] at this
          exact this
        refine r2 I2 H2 (.ref Dd) o6 (y6) ⟨Dd, rfl, ⟨us, hd, ra⟩, n2, fun q => ?_, hD⟩
        have yb : Go ⟨I2, wipe σ vs, H2, g2⟩ ⟨I2, σ, H2, g2⟩ := by
          have := Go.wiped (I := I2) (H := H2) (g := g2) (vs := vs) (σ := wipe σ vs) (σ' := σ) w6
          rw [w2] at this
          exact this
        rcases yb.own Dd q with z | z
        · exact nw z
        · exact no_some z hd
section
variable {elt tg iter : Expr} {ifs : List Expr} {scope : Scope} {own : List (Str × Nat)} {pos : Pos} {t : Tg} {tt : Option Fb} {fe : Ft} {p : Nat}
theorem ve_compO (hc : X.calm = true) (hN : X.N.Nodup) (hi : PE X iter (tVar p)) (hp : p ∉ own.map (·.2)) (ok : BlkOk X.N X.env.scope scope own) (hn : ∀ i ∈ t.ns, i ∈ own.map (·.2))
    (hg : ∀ (s : Shared) (H : Hp) (C : Addr) (cl : List (Str × Addr)) (fp : List Addr), VG (X.blk s H scope (compEnvC scope cl C X.env) fp) tg t) (ht : ∀ (s : Shared) (H : Hp) (C : Addr) (cl : List (Str × Addr)) (fp : List Addr), VTs (X.blk s H scope (compEnvC scope cl C X.env) fp) ifs tt)
    (he : ∀ (s : Shared) (H : Hp) (C : Addr) (cl : List (Str × Addr)) (fp : List Addr), VE (X.blk s H scope (compEnvC scope cl C X.env) fp) W0 elt fe) (hs : ∀ x, foldedSetIterable iter X.env x = pure x := by intro _; rfl) :
    VE X W (.ListComp elt [⟨tg, iter, ifs, 0⟩] scope pos) (compO p t tt fe (own.map (·.2))) :=
  ⟨pe_imp (pe_lc (g := rdG X.K t) (tt := rdTs X.K tt) (te := rdE X.K W0 fe) hc hN (pi_list hi) ok (fun s H C cl fp => (hg s H C cl fp).pg) (fun s H C cl fp => (ht s H C cl fp).pts) (fun s H C cl fp => (he s H C cl fp).pe) hs) fun σ H Q h => comp_rdO hp hn h⟩
theorem vs_setCompO {i : Nat} {y : Str} {py spos : Pos} (hc : X.calm = true) (hN : X.N.Nodup) (hy : X.N[i]? = some y) (hyl : X.env.scope.names.lookup y = some .local)
    (hsw : swapsWith (.ListComp elt [⟨tg, iter, ifs, 0⟩] scope pos) (some (.Name y py)) spos.line X.env = pure true) (hi : PE X iter (tVar p)) (hp : p ∉ own.map (·.2)) (ok : BlkOk X.N X.env.scope scope own) (hn : ∀ i ∈ t.ns, i ∈ own.map (·.2))
    (hg : ∀ (s : Shared) (H : Hp) (C : Addr) (cl : List (Str × Addr)) (fp : List Addr), VG (X.blk s H scope (compEnvC scope cl C X.env) fp) tg t) (ht : ∀ (s : Shared) (H : Hp) (C : Addr) (cl : List (Str × Addr)) (fp : List Addr), VTs (X.blk s H scope (compEnvC scope cl C X.env) fp) ifs tt)
    (he : ∀ (s : Shared) (H : Hp) (C : Addr) (cl : List (Str × Addr)) (fp : List Addr), VE (X.blk s H scope (compEnvC scope cl C X.env) fp) W0 elt fe) (hs : ∀ x, foldedSetIterable iter X.env x = pure x := by intro _; rfl) :
    VS X W (.Assign [.Name y py] (.ListComp elt [⟨tg, iter, ifs, 0⟩] scope pos) spos) (setF i (compO p t tt fe (own.map (·.2)))) := by
  refine ⟨ps_imp' (ps_setLc (g := rdG X.K t) (tt := rdTs X.K tt) (te := rdE X.K W0 fe) hc hN hy hyl hsw (pi_list hi) ok (fun s H C cl fp => (hg s H C cl fp).pg) (fun s H C cl fp => (ht s H C cl fp).pts) (fun s H C cl fp => (he s H C cl fp).pe) hs) fun D σ H ⟨I, g, o, r⟩ => ?_⟩
  refine comp_rdO hp hn ⟨I, g, o, (RemS.bindE (R := RvR X.K) r).mono ?_⟩
  rintro v H1 ⟨I1, g1, x, o1, y1, rx, r1⟩
  exact setK_ok o1 y1 rx r1
end
end
end Vl

set_option Elab.async false
set_option linter.all false
set_option maxRecDepth 100000
set_option maxHeartbeats 2000000
/-! the value layer: range(n) with bounds that the kernel does not try to compute -/
namespace Vl
open PySem PySem.Spec PyProof.Rows L2 My
def RangeOk (j : Int) : Prop := -(2 ^ 62) ≤ j ∧ j < 2 ^ 62
open Classical in
noncomputable def rangeOfN : List D → Option (List D)
  | [.int j] => if RangeOk j then some (rangeD 0 j.toNat) else none
  | _ => none
theorem rangeOfN_eq : rangeOfN = rangeOf1 := by
  funext l
  match l with
  | [.int j] =>
    simp only [rangeOfN, rangeOf1, decide_eq_true_eq]
    by_cases h : -(2 ^ 62 : Int) ≤ j ∧ j < 2 ^ 62
    · rw [if_pos h, if_pos (show RangeOk j from h)]
    · rw [if_neg h, if_neg (show ¬ RangeOk j from h)]
  | [] => rfl
  | [.non] | [.bl _] | [.str _] | [.lst _] | [.seq _] | [.tup _] | [.dct _] | [.kdc _] | [.ins _ _] | [.exv _ _ _ _] | [.cls _] | [.raw _] | [.slo _ _] => rfl
  | a :: b :: r => cases a <;> rfl
theorem rangeOfN_nat {n : Nat} (h : n ≤ 10 ^ 18) : rangeOfN [.int (n : Int)] = some (rangeD 0 n) := by
  have hc : RangeOk (n : Int) := ⟨by omega, by omega⟩
  simp only [rangeOfN]
  rw [if_pos hc, Int.toNat_natCast]
theorem vi_rangeN {X : Cx} {W : WX} {tg a : Expr} {fs : List Ft} {p pos : Pos} (hg : Gl X "range") (hm : X.mg "range" = none) (ha : VA X W [a] fs) (hs : starEach [a] X.env = [(false, eval a X.env)] := by rfl) : VI X W tg (.Call (.Name "range" p) [a] [] pos) (argsI rangeOfN fs) := by
  rw [rangeOfN_eq]
  exact vi_range1 hg hm ha hs
end Vl

set_option Elab.async false
set_option linter.all false
set_option maxRecDepth 100000
set_option maxHeartbeats 2000000
/-! the value layer: list * int, xs.count(n) -/
namespace Vl
open PySem PySem.Spec PyProof.Rows L2 My
section
variable {X : Cx} {W : WX}
/-- xs * n too -/
def mulL : D → D → Option RV
  | .lst xs, .int n => if -1000000 ≤ n ∧ n ≤ 1000000 ∧ xs.length * n.toNat ≤ sizeLine then some (.fr (.lst (List.replicate n.toNat xs).flatten)) else none
  | a, b => mulQ a b
theorem Reps.rep {K : PySem.W.Frag} {I : Hp} {vs : List V} {ds : List D} (r : Reps K I vs ds) : ∀ n : Nat, Reps K I (List.replicate n vs).flatten (List.replicate n ds).flatten
  | 0 => .nil
  | n + 1 => by
    rw [List.replicate_succ, List.replicate_succ, List.flatten_cons, List.flatten_cons]
    exact r.append (Reps.rep r n)
theorem p_mulL : P2 X (binaryOp .Mult) mulL := by
  obtain ⟨r, h1, h2⟩ := (p_mulQ (X := X)).ex
  refine ⟨_, h1.or op_rep, fun c v u a b Q o ra rb k => ?_⟩
  unfold mulL at k
  split at k
  · rename_i xs n
    split at k
    · rename_i hh
      obtain ⟨p, us, rfl, hp, rp⟩ := ra.lst o
      rw [rb.int]
      refine .inr ⟨p, n, us, rfl, rfl, hp, by omega, by omega, by rw [rp.length]; exact hh.2.2, fun q hq => ?_⟩
      exact k.fresh o ⟨hq⟩ (Xb.new hq) ⟨_, upd_same, Reps.rep rp _⟩
    · exact k.elim
  · exact .inl (h2 c v u _ _ Q o ra rb k)
/-- how often an int stands in a list of ints -/
def lcntP : D → D → Option RV
  | .lst xs, .int n => (intsD xs).map fun ns => .val (.int (ns.count n : Nat))
  | _, _ => none
def lcntF (fo fe : Ft) : Ft := fun g => (settle (fo g)).bind fun x g1 => match deref g1 x with
  | some (.lst _) => (settle (fe g1)).bind fun y g2 => lift2 lcntP x y g2
  | _ => .stuck
theorem ve_lcount {o e : Expr} {fo fe : Ft} {apos cpos : Pos} (ho : VE X W o fo) (he : VE X W e fe)
    (hbase : attributeBase o "count" X.env (eval o X.env) = eval o X.env := by rfl)
    (hfew : ((backTo cpos (starEach [e] X.env)).all (fun x => !x.1) && (backToKw cpos (keywordEach [] X.env)).all (fun x => x.1.isSome)
      && decide ([e].length + ([] : List Keyword).length + (if ([] : List Keyword).isEmpty then 0 else 1) < 30)) = true := by rfl)
    (hline : (apos.endLine == cpos.line) = true := by rfl) (hs : starEach [e] X.env = (false, eval e X.env) :: starEach [] X.env := by rfl) (hplain : (backTo cpos (starEach [] X.env)).any (·.1) = false := by rfl) :
    VE X W (.Call (.Attribute o "count" apos) [e] [] cpos) (lcntF fo fe) := by
  have pa : PA X [e] _ := pa_cons he.pe pa_nil hs
  refine ⟨pe_imp (pe_bm PySem.F.plainAttrs_list PySem.F.slot_list_count PySem.F.type_list_count mt_lcount ho.pe pa hbase hfew hline hs hplain) fun σ H Q ⟨I, g, ok, r⟩ => ?_⟩
  refine ⟨I, g, ok, Rem.settle ((Rem.bind (R := RvR X.K) r).mono ?_)⟩
  rintro v H1 ⟨I1, g1, x, o1, y1, rx, r1⟩
  split at r1
  · rename_i xs ex
    obtain ⟨p, us, rfl, hp, rp⟩ := (deref_rd o1 rx ex).lst o1
    refine ⟨.inl ⟨rfl, us, SqL.of hp⟩, ?_⟩
    refine ⟨I1, g1, o1, Rem.settle ((Rem.bind (R := RvR X.K) r1).mono ?_)⟩
    rintro u H2 ⟨I2, g2, y, o2, y2, ry, r2⟩
    obtain ⟨a, b, ra, rb, q⟩ := lift2_gives o2 (RvR.on (c1 := ⟨I1, σ, H1, g1⟩) o2 rfl y2 rx) ry r2
    unfold lcntP at q
    split at q
    · rename_i zs n
      obtain ⟨p2, us2, e2, hp2, rp2⟩ := ra.lst o2
      cases e2
      cases e : intsD zs with
      | none => rw [e] at q; exact q.elim
      | some ns =>
        rw [e] at q
        rw [reps_ints rp2 e] at hp2
        rw [rb.int]
        exact ⟨p, ns, n, rfl, rfl, SqL.of hp2, q.now o2 (.int _)⟩
    · exact q.elim
  · exact r1.elim
end
end Vl

set_option Elab.async false
set_option linter.all false
set_option maxRecDepth 100000
set_option maxHeartbeats 2000000
/-! the value layer: sorted by a key that is a lambda -/
namespace Vl
open PySem PySem.Spec PyProof.Rows L2 My
/-! ### the making of a lambda -/
/-- the word of the made function -/
abbrev lamO (X : Cx) (params : Arguments) (body : Expr) (scope : Scope) (pm : Value) (c' : Addr) (ctv : Value) : Obj := PySem.W.kla_obj "<lambda>" (X.env.qual ++ "<lambda>") params body scope (cloFrom X.env.cells scope.names []) pm c' ctv
/-- what has become of the heap's reading: nothing, or one more code object in the table at P -/
def Lamd (H : Hp) (P : Addr) (ps : Array Value) (z : Pos) (q : Str) (c' : Addr) (H1 : Hp) : Prop :=
  (H1 = H ∧ codeAmong z ps.toList = some (.ref c')) ∨ (H c' = none ∧ H1 = upd (upd H P (.tbl (ps ++ #[rawInt z.line, rawInt z.col, .ref c']))) c' (LamX.CodeO c' q))
section
variable {X : Cx} {pins : List (Addr × Obj)} {σ : L2.St} {H : Hp} {s : Shared}
theorem lam_mk {c P : Addr} {ps : Array Value} {params : Arguments} {body : Expr} {scope : Scope} {z : Pos} {E Q : Value → Shared → Prop} (I : Inv X pins σ H s) (TB : LamX.TabB X.base X.mg c P) (hcode : X.env.code = .ref c)
    (hP : H P = some (.tbl ps)) (ht : TriplesOk ps.toList) (hc : ∀ cv, codeAmong z ps.toList = some cv → ∃ c', cv = .ref c' ∧ H c' = some (LamX.CodeO c' (X.env.qual ++ "<lambda>")))
    (hdef : defaultsOf params X.env = ([], [])) (hfree : ∀ y ∈ scope.names, y.2 = .free → ∃ c, X.env.cells.lookup y.1 = some c)
    (h : ∀ (f c' : Addr) (pm ctv : Value) (H1 : Hp) (s' : Shared), Inv X pins σ H1 s' → Lamd H P ps z (X.env.qual ++ "<lambda>") c' H1 → s'.heap.get? f = some (lamO X params body scope pm c' ctv) → s'.heap.CodeRec (.ref c') (X.env.qual ++ "<lambda>") → (∀ b o, b ≠ P → s.heap.get? b = some o → s'.heap.get? b = some o) → Q (.ref f) s') :
    wpAny (model X.prog X.w) X.A (eval (.Lambda params body scope z) X.env) Q E s := by
  have hb : s.heap.BuiltinsAt X.mg P := TB.bm.keeps I.bk
  have hp : s.heap.get? P = some { cls := .none, data := .fields ps } := I.hok P _ hP
  have hg := I.mod.glob.keeps I.bk
  have hcd := TB.code.keeps I.bk
  refine PySem.W.kla_eval hdef ?_
  cases hq : codeAmong z ps.toList with
  | some cv =>
    obtain ⟨c', rfl, hco⟩ := hc cv hq
    refine PySem.W.kla_makeFunctionHit (c := c) (P := P) (closure_ok hfree) I.ok.glob hg hcode hcd hp ht hq hb (fun ctv h' tk hx hsz => ?_)
    have I1 : Inv X pins σ H { s with heap := h'.push (lamO X params body scope ((X.mg "__name__").getD .none) c' ctv), toks := tk } := I.kept (fun b o e => Heap.get?_push_of_some _ (hx b o e))
    obtain ⟨⟨oc, vs, t, k1, k2, k3⟩, _, _⟩ := I1.hok c' _ hco
    exact h _ c' _ ctv H _ I1 (.inl ⟨rfl, hq⟩) (Heap.get?_push_size _ rfl) ⟨c', oc, vs, t, rfl, k1, k2, k3⟩ (fun b o _ e => Heap.get?_push_of_some _ (hx b o e))
  | none =>
    refine PySem.W.kla_makeFunction (c := c) (P := P) (closure_ok hfree) I.ok.glob hg hcode hcd hp ht hq TB.gP hb (fun c' ctv h' tk hx hge hlt hrec htb => ?_)
    obtain ⟨c2, oc, vs, t, e2, hoc, hd, hv⟩ := hrec
    cases e2
    have hoc' := Heap.get?_push_of_some (lamO X params body scope ((X.mg "__name__").getD .none) c' ctv) hoc
    have I1 := LamX.inv_table (t' := tk) (q := X.env.qual ++ "<lambda>") (more := #[rawInt z.line, rawInt z.col, .ref c']) (h' := h'.push (lamO X params body scope ((X.mg "__name__").getD .none) c' ctv)) I hP
      (fun b o n e => Heap.get?_push_of_some _ (hx b o n e)) (Heap.get?_push_of_some _ htb) hge ⟨oc, vs, t, hoc', hd, hv⟩
    exact h _ c' _ ctv _ _ I1 (.inr ⟨I.hok.fresh hge, rfl⟩) (Heap.get?_push_size _ rfl) ⟨c', oc, vs, t, rfl, hoc', hd, hv⟩ (fun b o n e => Heap.get?_push_of_some _ (hx b o n e))
end
/-! ### the config behind it -/
theorem lamd_ok {K : PySem.W.Frag} {I H H1 : Hp} {σ : L2.St} {g : Sg} {P c' : Addr} {ps : Array Value} {z : Pos} {q : Str} (o : Ok K ⟨I, σ, H, g⟩) (hm : (P, q) ∈ TK K) (hu : ∀ p ∈ TK K, p.1 = P → p.2 = q) (hP : H P = some (.tbl ps)) (l : Lamd H P ps z q c' H1) :
    ∃ I1, Ok K ⟨I1, σ, H1, g⟩ ∧ Go ⟨I, σ, H, g⟩ ⟨I1, σ, H1, g⟩ ∧ (∀ a o, H a = some o → NTb o → H1 a = some o) ∧ Le I I1 := by
  rcases l with ⟨rfl, _⟩ | ⟨hn, rfl⟩
  · exact ⟨I, o, Go.refl _, fun _ _ h _ => h, Le.refl _⟩
  have nI : I c' = none := by
    cases e : I c' with
    | none => rfl
    | some u => exact (no_some hn (o.sub _ _ e)).elim
  have nPc : P ≠ c' := ne_of_none hP hn
  have keep : ∀ a u, H a = some u → NTb u → upd (upd H P (.tbl (ps ++ #[rawInt z.line, rawInt z.col, .ref c']))) c' (LamX.CodeO c' q) a = some u := fun a u e n => by
    rw [upd_ne (ne_of_none e hn), upd_ne (fun w => by subst w; rw [hP] at e; exact n.e ps (Option.some.inj e).symm)]
    exact e
  have old : ∀ a u, I a = some u → H a = some u := o.sub
  have ntI : ∀ a u, I a = some u → NTb u := fun a u e => ⟨fun ps' w => o.nt.e a ps' (show I a = _ by rw [e, w])⟩
  refine ⟨upd I c' (LamX.CodeO c' q), ⟨fun a u e => ?_, fun i s hs => ?_, o.dist, o.nt.upd .code, ⟨fun p hp => ?_⟩⟩, ⟨Le.upd nI, fun a u e _ n => keep a u e n, fun a e => ?_, fun a e e' => ?_, fun a w => .inl w, fun a w => .inl w, fun i s' h t => ⟨⟨s', h, t⟩, rfl⟩⟩, keep, Le.upd nI⟩
  · have e : upd I c' (LamX.CodeO c' q) a = some u := e
    by_cases w : a = c'
    · subst w
      rw [upd_same] at e
      cases e
      exact upd_same
    · rw [upd_ne w] at e
      exact keep a u (old a u e) (ntI a u e)
  · obtain ⟨v, e1, r⟩ := o.sl i s hs
    refine ⟨v, e1, r.mono (Le.upd nI) fun a t d es ev => ?_⟩
    subst es ev
    obtain ⟨a', ea, r2, n2⟩ := r
    cases ea
    obtain ⟨u, hu2⟩ := r2.some
    refine ⟨(keep a u hu2 (r2.ntb hu2)).trans hu2.symm, ?_⟩
    show upd I c' _ a = none
    rw [upd_ne (ne_of_none hu2 hn)]
    exact n2
  · obtain ⟨ps', a1, a2, a3⟩ := o.tab.e p hp
    by_cases w : p.1 = P
    · have e2 := hu p hp w
      have a1 : H p.1 = some (.tbl ps') := a1
      rw [w, hP] at a1
      cases a1
      have eL : (ps ++ #[rawInt z.line, rawInt z.col, .ref c']).toList = ps.toList ++ [rawInt z.line, rawInt z.col, .ref c'] := by simp
      refine ⟨_, by rw [w]; show upd (upd H P _) c' _ P = _; rw [upd_ne nPc, upd_same], by rw [eL]; exact PySem.TriplesOk_snoc _ _ _ _ a2, fun z' cv hcv => ?_⟩
      rw [eL] at hcv
      rcases LamX.among_app _ a2 hcv with w2 | w2
      · obtain ⟨c0, e3, e4⟩ := a3 z' cv w2
        exact ⟨c0, e3, Le.upd nI _ _ e4⟩
      · rw [e2]
        exact ⟨c', w2, upd_same⟩
    · refine ⟨ps', ?_, a2, fun z' cv hcv => ?_⟩
      · show upd (upd H P _) c' _ p.1 = _
        have a1 : H p.1 = some (.tbl ps') := a1
        rw [upd_ne (ne_of_none a1 hn), upd_ne w]
        exact a1
      · obtain ⟨c0, e3, e4⟩ := a3 z' cv hcv
        exact ⟨c0, e3, Le.upd nI _ _ e4⟩
  · have e : upd (upd H P (.tbl (ps ++ #[rawInt z.line, rawInt z.col, .ref c']))) c' (LamX.CodeO c' q) a = none := e
    by_cases w : a = c'
    · subst w; exact hn
    · rw [upd_ne w] at e
      by_cases w2 : a = P
      · subst w2; rw [upd_same] at e; cases e
      · rw [upd_ne w2] at e; exact e
  · by_cases w : a = c'
    · subst w; exact .inr hn
    · exact (e' (show upd I c' _ a = none by rw [upd_ne w]; exact e)).elim
/-! ### the call of it, as the heap alone sees it -/
/-- the lambda's names: x its own, others captured or global -/
structure LamP (sc scope : Scope) (x : Str) : Prop where
  kind : scope.kind = .function
  co : scope.isCoroutine = false
  gen : scope.isGenerator = false
  nc : ∀ y ∈ scope.names, y.2 ≠ .cell
  xl : scope.names.lookup x = some .local
  free : ∀ y ∈ scope.names, y.2 = .free → sc.names.lookup y.1 = some .cell ∨ sc.names.lookup y.1 = some .free
theorem LamP.has {X : Cx} {scope : Scope} {x : Str} (L : LamP X.env.scope scope x) (ok : X.Ok) : ∀ y ∈ scope.names, y.2 = .free → ∃ c, X.env.cells.lookup y.1 = some c := fun y hy e => (L.free y hy e).elim (fun k => ok.has _ (.inl k)) fun k => ok.has _ (.inr k)
def lamPB (sc scope : Scope) (x : Str) : Bool := decide (scope.kind = .function) && (!scope.isCoroutine && (!scope.isGenerator && (decide (scope.names.lookup x = some .local) && scope.names.all fun y => !decide (y.2 = .cell) && (!decide (y.2 = .free) || decide (sc.names.lookup y.1 = some .cell) || decide (sc.names.lookup y.1 = some .free)))))
theorem lamP_by {sc scope : Scope} {x : Str} (h : lamPB sc scope x = true) : LamP sc scope x := by
  unfold lamPB at h
  simp only [Bool.and_eq_true, Bool.or_eq_true, Bool.not_eq_true', decide_eq_true_eq, decide_eq_false_iff_not, List.all_eq_true] at h
  obtain ⟨h1, h2, h3, h4, h5⟩ := h
  refine ⟨h1, h2, h3, fun y hy => (h5 y hy).1, h4, fun y hy e => ?_⟩
  rcases (h5 y hy).2 with (z | z) | z
  · exact absurd e z
  · exact .inl z
  · exact .inr z
abbrev lamE (X : Cx) (scope : Scope) (L f c' : Addr) : Env := PySem.W.envX (X.env.qual ++ "<lambda>") scope L f (.ref c') (cloFrom X.env.cells scope.names [])
theorem lam_call {X : Cx} {A : Around} {s1 : Shared} {f c' : Addr} {pm ctv v : Value} {params : Arguments} {body : Expr} {scope : Scope} {x : Str} {R : Value → Shared → Prop} {E : Value → Shared → Prop} (L : LamP X.env.scope scope x)
    (hf : s1.heap.get? f = some (lamO X params body scope pm c' ctv)) (hc : s1.heap.CodeRec (.ref c') (X.env.qual ++ "<lambda>")) (lim : s1.heap.NoLimit) (hr : A.depth < recursionLimit)
    (hb : bindArgs (PySem.W.kla_fn "<lambda>" (X.env.qual ++ "<lambda>") params body scope (cloFrom X.env.cells scope.names []) pm (.ref c') ctv) ⟨[v], []⟩ = pure [(x, v)])
    (body_ : ∀ (l : Addr) (h1 : Heap) (tk : Nat), h1.Ns l (fun y => if y = x then some v else none) → (∀ b o, s1.heap.get? b = some o → h1.get? b = some o) →
      wpAny (model X.prog X.w) (A.deeper (lamE X scope l f c')) (eval body (lamE X scope l f c')) R (fun _ _ => False) { s1 with heap := h1, toks := tk }) :
    wpAny (model X.prog X.w) A (call (.ref f) [v]) R E s1 := by
  refine wpAny_call (PySem.W.kla_callFunE hr hf rfl L.co L.gen rfl hc ?_)
  rw [hb]
  refine wpAny_pure (wpAny_newFunctionEnv (fun y hy => L.nc y hy) (fun y hy => ?_) (fun h1 hns hsb => ⟨lim.fresh _ hsb, ?_⟩) L.kind)
  · rcases List.mem_cons.mp hy with rfl | hy
    · exact L.xl
    · cases hy
  refine PySem.W.kla_codeExpr (wpAny_mono (body_ _ h1 _ ?_ fun b o e => hsb.extBut b o (Nat.ne_of_lt (Heap.lt_size e)) (Heap.get?_push_of_some _ e)) (fun u s' q => q) fun _ _ q => q.elim)
  have e : (fun y => ([(x, v)] : List (Str × Value)).reverse.lookup y) = fun y => if y = x then some v else none := by
    funext y
    show List.lookup y [(x, v)] = _
    by_cases z : y = x
    · subst z; simp [List.lookup]
    · have z' : (y == x) = false := beq_eq_false_iff_ne.mpr z
      simp [List.lookup, z, z']
  rw [← e]
  exact hns
/-! ### what stands in it: expressions that only read -/
/-- the heap has grown, nothing else has changed -/
def Grown (s s' : Shared) : Prop := ∃ h' tk, s' = { s with heap := h', toks := tk } ∧ ∀ b o, s.heap.get? b = some o → h'.get? b = some o
theorem Grown.refl (s : Shared) : Grown s s := ⟨s.heap, s.toks, rfl, fun _ _ e => e⟩
theorem Grown.tok (s : Shared) (t : Nat) : Grown s { s with toks := t } := ⟨s.heap, t, rfl, fun _ _ e => e⟩
theorem Grown.trans {s s1 s2 : Shared} (a : Grown s s1) (b : Grown s1 s2) : Grown s s2 := by
  obtain ⟨h1, t1, rfl, k1⟩ := a
  obtain ⟨h2, t2, rfl, k2⟩ := b
  exact ⟨h2, t2, rfl, fun b o e => k2 b o (k1 b o e)⟩
theorem Grown.inv {X : Cx} {pins : List (Addr × Obj)} {σ : L2.St} {H : Hp} {s s' : Shared} (g : Grown s s') (I : Inv X pins σ H s) : Inv X pins σ H s' := by
  obtain ⟨h1, t1, rfl, k1⟩ := g
  exact I.kept k1
theorem Grown.ns {s s' : Shared} {l : Addr} {m : Str → Option Value} (g : Grown s s') (n : s.heap.Ns l m) : s'.heap.Ns l m := by
  obtain ⟨h1, t1, rfl, k1⟩ := g
  exact n.keeps k1
theorem Grown.get {s s' : Shared} (g : Grown s s') {b : Addr} {o : Obj} (e : s.heap.get? b = some o) : s'.heap.get? b = some o := by
  obtain ⟨h1, t1, rfl, k1⟩ := g
  exact k1 b o e
abbrev Ev := L2.St → Hp → V → V → Prop
/-- e in the lambda whose own name x holds v0 gives w where ef says so -/
def LE (X : Cx) (scope : Scope) (x : Str) (e : Expr) (ef : Ev) : Prop :=
  ∀ (pins : List (Addr × Obj)) (s : Shared) (σ : L2.St) (H : Hp) (A : Around) (E : Value → Shared → Prop) (l f c' : Addr) (v : Value) (v0 w : V), Inv X pins σ H s → RelV v0 v → ef σ H v0 w → s.heap.Ns l (fun y => if y = x then some v else none) →
    wpAny (model X.prog X.w) A (eval e (lamE X scope l f c')) (fun u s' => RelV w u ∧ Grown s s') E s
section
variable {X : Cx} {scope : Scope} {x : Str}
theorem le_own {p : Pos} (L : LamP X.env.scope scope x) (hd : (x == ("__debug__" : Str)) = false := by decide) : LE X scope x (.Name x p) (fun _ _ v0 w => w = v0) := by
  intro pins s σ H A E l f c' v v0 w I rv hw hn
  subst hw
  exact wpAny_Name (wpAny_loadName_local L.kind L.xl hn (if_pos rfl) ⟨rv, Grown.refl _⟩) hd
theorem le_free {p : Pos} {n : Str} {j : Nat} (L : LamP X.env.scope scope x) (hj : X.N[j]? = some n) (hs : scope.names.lookup n = some .free) (hx : X.env.scope.names.lookup n = some .cell ∨ X.env.scope.names.lookup n = some .free) (hd : (n == ("__debug__" : Str)) = false := by decide) (hk : (n == ("__classdict__" : Str)) = false := by decide) :
    LE X scope x (.Name n p) (fun σ _ _ w => σ[j]? = some (some w)) := by
  intro pins s σ H A E l f c' v v0 w I rv hw hn
  obtain ⟨m, hm, hl⟩ := I.loc
  obtain ⟨u, ru, lk⟩ := hl j n w hj hw (hx.elim (fun k => .inr (.inl k)) fun k => .inr (.inr k))
  rcases lk with ⟨k', _⟩ | ⟨_, c, hc, z⟩
  · have k' : X.env.scope.names.lookup n = some .local := k'
    rcases hx with k | k <;> rw [k] at k' <;> cases k'
  obtain ⟨c2, h2⟩ : ∃ c, (cloFrom X.env.cells scope.names []).lookup n = some c := mem_lookup (cloFrom_has (cells := X.env.cells) (acc := []) (PySem.mem_of_lookup hs))
  have ec : c2 = c := by
    rcases cloFrom_mem (PySem.mem_of_lookup h2) with hm | ⟨h1, h3⟩
    · cases hm
    · rw [h3, hc]; rfl
  subst ec
  exact wpAny_Name (wpAny_loadName_free L.kind hs h2 z ⟨ru, Grown.refl _⟩ hk) hd
theorem le_neg {e : Expr} {ef : Ev} {p : Pos} (h : LE X scope x e ef) : LE X scope x (.UnaryOp .USub e p) (fun σ H v0 w => ∃ i, ef σ H v0 (.int i) ∧ w = .int (-i)) := by
  intro pins s σ H A E l f c' v v0 w I rv ⟨i, hw, e'⟩ hn
  subst e'
  refine wpAny_UnaryOp (wpAny_mono (h pins s σ H A E l f c' v v0 _ I rv hw hn) (fun u s1 ⟨r, g⟩ => ?_) fun _ _ z => z)
  obtain ⟨t, rfl⟩ := r
  exact neg_int ⟨⟨_, rfl⟩, g.trans (Grown.tok _ _)⟩
/-- a[x], a a list or a tuple -/
theorem le_at {a : Expr} {ea : Ev} {p pos : Pos} (L : LamP X.env.scope scope x) (ha : LE X scope x a ea) (ht : ∀ o r, letTemporaryGo a o r = pure () := by intro _ _; rfl) (hd : (x == ("__debug__" : Str)) = false := by decide) :
    LE X scope x (.Subscript a (.Name x p) pos) (fun σ H v0 w => ∃ q xs i, v0 = .int i ∧ ea σ H v0 (.ref q) ∧ (SqL X.K H q xs ∨ SqT X.K H q xs) ∧ 0 ≤ i ∧ i < 2 ^ 62 ∧ xs[i.toNat]? = some w) := by
  intro pins s σ H A E l f c' v v0 w I rv ⟨q, xs, i, e0, hw, hq, h0, h1, hx⟩ hn
  subst e0
  have hb := le_own (p := p) L hd
  rcases hq with hq | hq
  · refine wpAny_Subscript_Name list_getitem_lookup (wpAny_mono (ha pins s σ H A E l f c' v _ _ I rv hw hn) (fun o s1 ⟨r1, g1⟩ => wpAny_mono (hb pins s1 σ H A E l f c' v _ _ (g1.inv I) rv rfl (g1.ns hn)) (fun k s2 ⟨r2, g2⟩ => ?_) fun _ _ z => z) fun _ _ z => z) ht
    obtain rfl : o = Value.ref q := r1
    obtain ⟨t, rfl⟩ := r2
    obtain ⟨its, r, pl, hz⟩ := (g2.inv (g1.inv I)).list hq
    obtain ⟨u, hu, ru⟩ := r.get hx
    exact ⟨pl.isList.typeIs, wpAny_getItem_list pl.isList h0 (by omega) (by simpa using hu) ⟨ru, g1.trans g2⟩⟩
  · refine wpAny_Subscript_Name slot_tuple_getitem.lookup (wpAny_mono (ha pins s σ H A E l f c' v _ _ I rv hw hn) (fun o s1 ⟨r1, g1⟩ => wpAny_mono (hb pins s1 σ H A E l f c' v _ _ (g1.inv I) rv rfl (g1.ns hn)) (fun k s2 ⟨r2, g2⟩ => ?_) fun _ _ z => z) fun _ _ z => z) ht
    obtain rfl : o = Value.ref q := r1
    obtain ⟨t, rfl⟩ := r2
    obtain ⟨its, r, pl, hz⟩ := (g2.inv (g1.inv I)).tuple hq
    obtain ⟨u, hu, ru⟩ := r.get hx
    have hlt := (List.getElem?_eq_some_iff.mp hu).1
    refine ⟨pl.typeIs, getItem_tuple (j := i.toNat) pl (by omega) (by omega) ?_ (by simpa using hu) ⟨ru, g1.trans g2⟩⟩
    rw [seqIndex_of h0 (by simp; omega)]
/-- e.f, a slot -/
theorem le_slot {e : Expr} {ef : Ev} {f : Str} {p : Pos} {C : Addr} {q : Addr} {k : Nat} (h : LE X scope x e ef) (c : SlX.SCls X.K C) (t : SlX.Slot1 X.K C f q k) (hb : ∀ env : Env, attributeBase e f env (eval e env) = eval e env := by intro _; rfl) :
    LE X scope x (.Attribute e f p) (fun σ H v0 w => ∃ a dx vs, ef σ H v0 (.ref a) ∧ SlX.Slt H a C dx vs ∧ vs[k]? = some (some w)) := by
  intro pins s σ H A E l fA c' v v0 w I rv ⟨a, dx, vs, hw, hs, hk⟩ hn
  refine attr_of (hb _) (wpAny_mono (h pins s σ H A E l fA c' v _ _ I rv hw hn) (fun o s1 ⟨r1, g1⟩ => ?_) fun _ _ z => z)
  obtain rfl : o = Value.ref a := r1
  have I1 := g1.inv I
  obtain ⟨sl, od, r, J, _⟩ := SlX.slt_inst I1 hs
  obtain ⟨u, eu, ru⟩ := r k w hk
  obtain ⟨m, F⟩ := I1.fr
  refine PySem.W.get_slot F I1.mod.kin J (c.get f) c.ic t.at_ t.get t.tk t.ix (v := u) ?_ (handed_of ru) ⟨ru, g1.trans (Grown.tok _ _)⟩
  show (sl[k]?).join = some u
  rw [eu]
  rfl
end
/-! ### keys -/
/-- as LE, of a key -/
def LK (X : Cx) (scope : Scope) (x : Str) (e : Expr) (kf : L2.St → Hp → V → PyData → Prop) : Prop :=
  ∀ (pins : List (Addr × Obj)) (s : Shared) (σ : L2.St) (H : Hp) (A : Around) (E : Value → Shared → Prop) (l f c' : Addr) (v : Value) (v0 : V) (d : PyData), Inv X pins σ H s → RelV v0 v → kf σ H v0 d → s.heap.Ns l (fun y => if y = x then some v else none) →
    wpAny (model X.prog X.w) A (eval e (lamE X scope l f c')) (fun u s' => Grown s s' ∧ Reads s'.heap u d []) E s
section
variable {X : Cx} {scope : Scope} {x : Str}
theorem lk_int {e : Expr} {ef : Ev} (h : LE X scope x e ef) : LK X scope x e (fun σ H v0 d => ∃ i, ef σ H v0 (.int i) ∧ d = .int i) := by
  intro pins s σ H A E l f c' v v0 d I rv ⟨i, hw, e'⟩ hn
  subst e'
  refine wpAny_mono (h pins s σ H A E l f c' v _ _ I rv hw hn) (fun u s1 ⟨r, g⟩ => ?_) fun _ _ z => z
  obtain ⟨t, rfl⟩ := r
  exact ⟨g, .int _ _⟩
theorem lk_pair {a b : Expr} {ea eb : Ev} {k : Nat} {p : Pos} (ha : LE X scope x a ea) (hb : LE X scope x b eb) (h1 : ∀ env : Env, starEach [a, b] env = (false, eval a env) :: starEach [b] env := by intro _; rfl) (h2 : ∀ env : Env, starEach [b] env = (false, eval b env) :: starEach [] env := by intro _; rfl) :
    LK X scope x (.Tuple [a, b] k p) (fun σ H v0 d => ∃ i j, ea σ H v0 (.int i) ∧ eb σ H v0 (.int j) ∧ d = .tuple [.int i, .int j]) := by
  intro pins s σ H A E l f c' v v0 d I rv ⟨i, j, hi, hj, e'⟩ hn
  subst e'
  refine wpAny_Tuple (args_cons (wpAny_mono (ha pins s σ H A E l f c' v _ _ I rv hi hn) (fun u s1 ⟨r1, g1⟩ => args_cons (wpAny_mono (hb pins s1 σ H A E l f c' v _ _ (g1.inv I) rv hj (g1.ns hn)) (fun z s2 ⟨r2, g2⟩ => args_nil ?_) fun _ _ z => z) (h2 _)) fun _ _ z => z) (h1 _))
  obtain ⟨t, rfl⟩ := r1
  obtain ⟨t', rfl⟩ := r2
  refine ⟨by show 2 ≤ sizeLine; decide, (g1.trans g2).trans ⟨_, _, rfl, fun b o e => Heap.get?_push_of_some _ e⟩, ?_⟩
  exact .tuple (as := []) (Heap.get?_push_size _ rfl) rfl rfl (.cons (as := []) (bs := []) (.int _ _) (.cons (as := []) (bs := []) (.int _ _) .nil))
end
/-! ### sorted(.., key=lambda ..) -/
structure KeyT (κ : Type) where
  enc : κ → PyData
  le : κ → κ → Bool
  hle : ∀ {β : Type} (k : β → κ), PySem.W.dataLe false (fun b => enc (k b)) = fun a b => le (k a) (k b)
  al : ∀ a b, PySem.W.alike (enc a) (enc b) = true
  so : ∀ {β : Type} (k : β → κ) (bs : List β), PySem.W.Sortable (bs.map fun b => enc (k b))
  dp : ∀ a, (enc a).depth ≤ 1
def keyI : KeyT Int where
  enc := .int
  le := fun a b => decide (a ≤ b)
  hle := fun k => PySem.W.dataLe_int k
  al := fun a b => by simp [PySem.W.alike]
  so := fun k bs => .others fun b => ⟨(fun z => by cases z), (fun _ z => by cases z)⟩
  dp := fun a => by simp [PyData.depth]
def keyP : KeyT (Int × Int) where
  enc := fun p => .tuple [.int p.1, .int p.2]
  le := fun p q => decide (p.1 < q.1 ∨ (p.1 = q.1 ∧ p.2 ≤ q.2))
  hle := fun k => PySem.W.dataLe_ii (fun b => (k b).1) (fun b => (k b).2)
  al := fun a b => by simp [PySem.W.alike, PySem.W.alikeAll]
  so := fun k bs => .tuples fun b => ⟨_, _, rfl⟩
  dp := fun a => by simp [PyData.depth, PyData.depthAll]
/-- the keys of the items -/
def keysO {κ : Type} (f : D → Option κ) : List D → Option (List κ)
  | [] => some []
  | d :: r => (f d).bind fun k => (keysO f r).map (k :: ·)
def sortD {κ : Type} (T : KeyT κ) (ds : List D) (ks : List κ) : List D := ((ds.zip ks).mergeSort fun a b => T.le a.2 b.2).map Prod.fst
def itemsL : D → Option (List D)
  | .lst xs => some xs
  | .seq xs => some xs
  | _ => none
def sortKK {κ : Type} (T : KeyT κ) (kf : Sg → D → Option κ) (ds : List D) (g : Sg) : Res RV := match keysO (kf g) ds with
  | some ks => if ds.length ≤ sizeLine then .ok (.fr (.lst (sortD T ds ks))) g else .stuck
  | none => .stuck
def sortK {κ : Type} (T : KeyT κ) (kf : Sg → D → Option κ) (fe : Ft) : Ft := fun g => (settle (fe g)).bind fun x g1 => match (deref g1 x).bind itemsL with
  | some ds => sortKK T kf ds g1
  | none => .stuck
/-- the ints 0 .. n - 1 -/
def rgD (n : Int) : List D := (List.range n.toNat).map fun i => D.int (i : Nat)
def sortRg {κ : Type} (T : KeyT κ) (kf : Sg → D → Option κ) (fe : Ft) : Ft := fun g => (settle (fe g)).bind fun x g1 => match deref g1 x with
  | some (.int n) => if 0 ≤ n ∧ n ≤ 16777216 then sortKK T kf (rgD n) g1 else .stuck
  | _ => .stuck
def listRg (fe : Ft) : Ft := fun g => (settle (fe g)).bind fun x g1 => match deref g1 x with
  | some (.int n) => if 0 ≤ n ∧ n ≤ 16777216 then .ok (.fr (.lst (rgD n))) g1 else .stuck
  | _ => .stuck
theorem rgV_rgD {K : PySem.W.Frag} {I : Hp} (n : Int) : Reps K I (rgV 0 n) (rgD n) := by
  unfold rgV rgD
  have : ∀ l : List Nat, Reps K I (l.map fun i => V.int (0 + (i : Nat))) (l.map fun i => D.int (i : Nat)) := by
    intro l
    induction l with
    | nil => exact .nil
    | cons a r ih => exact .cons (by show Rep K I (V.int (0 + (a : Int))) _; rw [Int.zero_add]; exact .int _) ih
  simpa using this (List.range n.toNat)
/-- the running def's code object and its table -/
structure LamT (X : Cx) : Prop where
  ex : ∃ c P, X.env.code = .ref c ∧ LamX.TabB X.base X.mg c P ∧ (P, X.env.qual ++ "<lambda>") ∈ TK X.K ∧ ∀ p ∈ TK X.K, p.1 = P → p.2 = X.env.qual ++ "<lambda>"
/-- a key that the lambda gives, over trees -/
structure VKy {κ : Type} (X : Cx) (scope : Scope) (x : Str) (body : Expr) (T : KeyT κ) (kf : Sg → D → Option κ) : Prop where
  ex : ∃ kv : L2.St → Hp → V → PyData → Prop, LK X scope x body kv ∧ ∀ (c : Cfg) (v : V) (d : D) (k : κ), Ok X.K c → Rep X.K c.I v d → kf c.g d = some k → kv c.σ c.H v (T.enc k)
structure VLe (X : Cx) (scope : Scope) (x : Str) (e : Expr) (ef : Sg → D → Option D) : Prop where
  ex : ∃ ev : Ev, LE X scope x e ev ∧ ∀ (c : Cfg) (v : V) (d w : D), Ok X.K c → Rep X.K c.I v d → ef c.g d = some w → ∃ u, ev c.σ c.H v u ∧ RdD X.K c u w
section
variable {X : Cx} {scope : Scope} {x : Str}
theorem vl_own {p : Pos} (L : LamP X.env.scope scope x) (hd : (x == ("__debug__" : Str)) = false := by decide) : VLe X scope x (.Name x p) (fun _ d => some d) :=
  ⟨_, le_own L hd, fun c v d w o r e => by cases e; exact ⟨v, rfl, .inl r⟩⟩
def lvar (j : Nat) : Sg → D → Option D := fun g _ => match g[j]? with
  | some (.own _ d) => some d
  | some (.val _ d) => some d
  | _ => none
theorem vl_free {p : Pos} {n : Str} {j : Nat} (L : LamP X.env.scope scope x) (hj : X.N[j]? = some n) (hs : scope.names.lookup n = some .free) (hx : X.env.scope.names.lookup n = some .cell ∨ X.env.scope.names.lookup n = some .free) (hd : (n == ("__debug__" : Str)) = false := by decide) (hk : (n == ("__classdict__" : Str)) = false := by decide) : VLe X scope x (.Name n p) (lvar j) :=
  ⟨_, le_free L hj hs hx hd hk, fun c v d w o r e => by
    unfold lvar at e
    split at e
    · rename_i t d' q
      cases e
      obtain ⟨u, e1, a, e2, r2, n2⟩ := o.sl j _ q
      subst e2
      exact ⟨_, e1, .inr ⟨a, rfl, r2⟩⟩
    · rename_i t d' q
      cases e
      obtain ⟨u, e1, u', e2, r2⟩ := o.sl j _ q
      subst e2
      exact ⟨u', e1, .inl r2⟩
    · cases e⟩
def lnegD : Option D → Option D
  | some (.int i) => some (.int (-i))
  | _ => none
theorem vl_neg {e : Expr} {ef : Sg → D → Option D} {p : Pos} (h : VLe X scope x e ef) : VLe X scope x (.UnaryOp .USub e p) (fun g d => lnegD (ef g d)) := by
  obtain ⟨ev, h1, h2⟩ := h.ex
  refine ⟨_, le_neg h1, fun c v d w o r e => ?_⟩
  unfold lnegD at e
  split at e
  · rename_i i q
    cases e
    obtain ⟨u, k1, k2⟩ := h2 c v d _ o r q
    rw [k2.int] at k1
    exact ⟨_, ⟨i, k1, rfl⟩, .inl (.int _)⟩
  · cases e
def latD (d a : Option D) : Option D := match d, a with
  | some (.int i), some (.lst xs) => if 0 ≤ i ∧ i < 2 ^ 62 then xs[i.toNat]? else none
  | some (.int i), some (.seq xs) => if 0 ≤ i ∧ i < 2 ^ 62 then xs[i.toNat]? else none
  | some (.int i), some (.tup xs) => if 0 ≤ i ∧ i < 2 ^ 62 then xs[i.toNat]? else none
  | _, _ => none
theorem vl_at {a : Expr} {ea : Sg → D → Option D} {p pos : Pos} (L : LamP X.env.scope scope x) (h : VLe X scope x a ea) (ht : ∀ o r, letTemporaryGo a o r = pure () := by intro _ _; rfl) (hd : (x == ("__debug__" : Str)) = false := by decide) :
    VLe X scope x (.Subscript a (.Name x p) pos) (fun g d => latD (some d) (ea g d)) := by
  obtain ⟨ev, h1, h2⟩ := h.ex
  refine ⟨_, le_at L h1 ht hd, fun c v d w o r e => ?_⟩
  unfold latD at e
  split at e
  · rename_i i xs ed q
    cases ed
    split at e
    · rename_i hi
      obtain ⟨u, k1, k2⟩ := h2 c v _ _ o r q
      obtain ⟨b, us, rfl, hb, rr⟩ := k2.lst o
      obtain ⟨z, hz, rz⟩ := rr.get e
      cases r
      exact ⟨z, ⟨b, us, i, rfl, k1, .inl (SqL.of hb), hi.1, hi.2, hz⟩, .inl rz⟩
    · cases e
  · rename_i i xs ed q
    cases ed
    split at e
    · rename_i hi
      obtain ⟨u, k1, k2⟩ := h2 c v _ _ o r q
      obtain ⟨b, us, rfl, hb, rr⟩ := k2.seq o
      obtain ⟨z, hz, rz⟩ := rr.get e
      cases r
      exact ⟨z, ⟨b, us, i, rfl, k1, .inl hb, hi.1, hi.2, hz⟩, .inl rz⟩
    · cases e
  · rename_i i xs ed q
    cases ed
    split at e
    · rename_i hi
      obtain ⟨u, k1, k2⟩ := h2 c v _ _ o r q
      obtain ⟨b, us, rfl, hb, rr⟩ := k2.tup o
      obtain ⟨z, hz, rz⟩ := rr.get e
      cases r
      exact ⟨z, ⟨b, us, i, rfl, k1, .inr hb, hi.1, hi.2, hz⟩, .inl rz⟩
    · cases e
  · cases e
def lslD (c : Str) (i : Nat) : Option D → Option D
  | some (.slo c' vs) => if c' = c then (vs[i]?).join else none
  | _ => none
/-- the slot f of an instance of the class c -/
theorem vl_slot {e : Expr} {ef : Sg → D → Option D} {f : Str} {p : Pos} {ts : List (Str × Option Nat)} {c : Str} {i : Nat} (k : FldK X.K f ts) (hc : ts.lookup c = some (some i)) (h : VLe X scope x e ef) (hb : ∀ env : Env, attributeBase e f env (eval e env) = eval e env := by intro _; rfl) :
    VLe X scope x (.Attribute e f p) (fun g d => lslD c i (ef g d)) := by
  obtain ⟨ev, h1, h2⟩ := h.ex
  obtain ⟨z1, q0, z2⟩ := k.ex _ _ hc
  refine ⟨_, le_slot h1 z1 z2 hb, fun cf v d w o r e => ?_⟩
  unfold lslD at e
  split at e
  · rename_i c' vs q
    split at e
    · rename_i ec
      subst ec
      obtain ⟨u, k1, k2⟩ := h2 cf v d _ o r q
      obtain ⟨a, dx, us, rfl, ha, hd, rf⟩ := k2.slo o
      cases q3 : vs[i]? with
      | none => rw [q3] at e; cases e
      | some y =>
        rw [q3] at e
        have e : y = some w := e
        subst e
        obtain ⟨z, hz, rz⟩ := rf.get q3
        exact ⟨z, ⟨a, dx, us, k1, .inr ⟨ha, hd⟩, hz⟩, .inl rz⟩
    · cases e
  · cases e
def intO : Option D → Option Int
  | some (.int i) => some i
  | _ => none
theorem vk_int {e : Expr} {ef : Sg → D → Option D} (h : VLe X scope x e ef) : VKy X scope x e keyI (fun g d => intO (ef g d)) := by
  obtain ⟨ev, h1, h2⟩ := h.ex
  refine ⟨_, lk_int h1, fun c v d k o r e => ?_⟩
  unfold intO at e
  split at e
  · rename_i i q
    cases e
    obtain ⟨u, k1, k2⟩ := h2 c v d _ o r q
    rw [k2.int] at k1
    exact ⟨_, k1, rfl⟩
  · cases e
def pairO (a b : Option D) : Option (Int × Int) := match intO a, intO b with
  | some i, some j => some (i, j)
  | _, _ => none
theorem vk_pair {a b : Expr} {ea eb : Sg → D → Option D} {k : Nat} {p : Pos} (ha : VLe X scope x a ea) (hb : VLe X scope x b eb) (h1 : ∀ env : Env, starEach [a, b] env = (false, eval a env) :: starEach [b] env := by intro _; rfl) (h2 : ∀ env : Env, starEach [b] env = (false, eval b env) :: starEach [] env := by intro _; rfl) :
    VKy X scope x (.Tuple [a, b] k p) keyP (fun g d => pairO (ea g d) (eb g d)) := by
  obtain ⟨ev, a1, a2⟩ := ha.ex
  obtain ⟨fv, b1, b2⟩ := hb.ex
  refine ⟨_, lk_pair a1 b1 h1 h2, fun c v d k o r e => ?_⟩
  unfold pairO at e
  split at e
  · rename_i i j q1 q2
    cases e
    unfold intO at q1 q2
    split at q1
    · rename_i i' q
      cases q1
      split at q2
      · rename_i j' q'
        cases q2
        obtain ⟨u, k1, k2⟩ := a2 c v d _ o r q
        obtain ⟨u', k3, k4⟩ := b2 c v d _ o r q'
        rw [k2.int] at k1
        rw [k4.int] at k3
        exact ⟨_, _, k1, k3, rfl⟩
      · cases q2
    · cases q1
  · cases e
end
/-! ### the sort's run -/
theorem keys_zip {κ : Type} {f : D → Option κ} : ∀ {ds : List D} {ks : List κ}, keysO f ds = some ks → ds.length = ks.length ∧ ∀ p ∈ ds.zip ks, f p.1 = some p.2
  | [], ks, h => by
    cases h
    exact ⟨rfl, fun p hp => by simp at hp⟩
  | d :: r, ks, h => by
    unfold keysO at h
    simp only [Option.bind_eq_some_iff, Option.map_eq_some_iff] at h
    obtain ⟨k, h1, ks', h2, rfl⟩ := h
    obtain ⟨i1, i2⟩ := keys_zip h2
    refine ⟨by simp [i1], fun p hp => ?_⟩
    rw [List.zip_cons_cons, List.mem_cons] at hp
    rcases hp with rfl | hp
    · exact h1
    · exact i2 p hp
theorem reps_zip {K : PySem.W.Frag} {I : Hp} : ∀ {vs : List V} {ds : List D}, Reps K I vs ds → ∀ p ∈ vs.zip ds, Rep K I p.1 p.2
  | _, _, .nil, p, hp => by simp at hp
  | _, _, .cons h t, p, hp => by
    rw [List.zip_cons_cons, List.mem_cons] at hp
    rcases hp with rfl | hp
    · exact h
    · exact reps_zip t p hp
theorem reps_of_map {K : PySem.W.Frag} {I : Hp} {α : Type} {f : α → V} {h : α → D} : ∀ {l : List α}, (∀ a ∈ l, Rep K I (f a) (h a)) → Reps K I (l.map f) (l.map h)
  | [], _ => .nil
  | a :: r, q => .cons (q a (.head _)) (reps_of_map fun b hb => q b (.tail _ hb))
theorem vals_of_each {α : Type} {f : α → V} : ∀ {us : List Value} {l : List α}, PySem.W.EachIs (fun u a => RelV (f a) u) us l → Vals (l.map f) us
  | _, _, .nil => .nil
  | _, _, .cons h t => .cons h (vals_of_each t)
theorem each_of_vals {β : Type} : ∀ {vs : List V} {us : List Value} {bs : List β}, Vals vs us → vs.length = bs.length → PySem.W.EachIs (fun u (b : V × β) => RelV b.1 u) us (vs.zip bs)
  | _, _, [], .nil, _ => .nil
  | _, _, b :: bs, .cons h t, e => .cons h (each_of_vals t (by simpa using e))
section
variable {κ : Type} {X : Cx} {W : WX} {scope : Scope} {x : Str} {T : KeyT κ} {kf : Sg → D → Option κ} {body : Expr}
/-- what the sort does with the list's values us (read as ds): a new list at the next place but one -/
theorem sort_end {pins : List (Addr × Obj)} {σ : L2.St} {I H : Hp} {g : Sg} {c0 : Cfg} {s s' : Shared} {out : List Value} {vs : List V} {ds : List D} {ks : List κ} {p : Addr} {c : Nat} {Q : VK} (I1 : Inv X pins σ H s) (o : Ok X.K ⟨I, σ, H, g⟩) (y : Go c0 ⟨I, σ, H, g⟩)
    (rr : Reps X.K I vs ds) (hl : ds.length = ks.length) (hz : ds.length ≤ sizeLine) (gr : Grown s s') (hp : s.heap.get? p = none) (hsz : s.heap.objs.size ≤ p) (hn : s'.heap.get? p = some (seqObj "list" (List.toArray out) c))
    (he : PySem.W.EachIs (fun u (b : V × D × κ) => RelV b.1 u) out ((vs.zip (ds.zip ks)).mergeSort fun a b => T.le a.2.2 b.2.2))
    (h : Rem X.K W (RvR X.K) c0 (.ok (.fr (.lst (sortD T ds ks))) g) Q) (e0 : c0.σ = σ) : EP X pins σ Q (.ref p) s' := by
  have hvl := rr.length
  have hv := vals_of_each he
  have nH : H p = none := I1.hok.fresh hsz
  obtain ⟨h', tk, rfl, kp⟩ := gr
  have I2 : Inv X pins σ (upd H p (.lst (((vs.zip (ds.zip ks)).mergeSort fun a b => T.le a.2.2 b.2.2).map Prod.fst))) { s with heap := h', toks := tk } := by
    refine I1.laid kp hsz (show ObjOk X.prog X.w _ _ _ (.lst _) from ⟨?_, out, c, hv, ?_⟩)
    · rw [List.length_map, List.length_mergeSort, List.length_zip, List.length_zip]; omega
    · exact hn
  refine ⟨.ref p, _, I2, rfl, ?_⟩
  have nI : I p = none := by
    cases q : I p with
    | none => rfl
    | some u => exact (no_some nH (o.sub _ _ q)).elim
  have rs : Reps X.K I (((vs.zip (ds.zip ks)).mergeSort fun a b => T.le a.2.2 b.2.2).map Prod.fst) (sortD T ds ks) := by
    have e1 : sortD T ds ks = (((vs.zip (ds.zip ks)).mergeSort fun a b => T.le a.2.2 b.2.2).map fun b => b.2.1) := by
      have e2 : ds.zip ks = (vs.zip (ds.zip ks)).map Prod.snd := by
        rw [List.map_snd_zip]
        rw [List.length_zip]
        omega
      unfold sortD
      conv => lhs; rw [e2]
      rw [← List.map_mergeSort (r := fun (a b : V × D × κ) => T.le a.2.2 b.2.2) (s := fun (a b : D × κ) => T.le a.2 b.2) (f := (Prod.snd : V × D × κ → D × κ)) (fun a _ b _ => rfl), List.map_map]
      rfl
    rw [e1]
    refine reps_of_map fun b hb => ?_
    rw [List.mem_mergeSort] at hb
    have : (b.1, b.2.1) ∈ vs.zip ds := by
      clear e1
      have e3 : vs.zip ds = (vs.zip (ds.zip ks)).map fun b => (b.1, b.2.1) := by
        clear hv I2 he h rr hvl hb hz o y
        revert ds ks
        induction vs with
        | nil => intro ds ks _; simp
        | cons v r ih =>
          intro ds ks hl
          cases ds with
          | nil => simp
          | cons d ds =>
            cases ks with
            | nil => simp at hl
            | cons k ks => simp [ih (ds := ds) (ks := ks) (by simpa using hl)]
      rw [e3]
      exact List.mem_map.mpr ⟨b, hb, rfl⟩
    exact reps_zip rr _ this
  subst e0
  refine h I _ (.ref p) (o.new (Xb.new nH)) (y.trans (Go.new (Xb.new nH))) ⟨p, rfl, ⟨_, upd_same, rs⟩, nI, fun q => ?_, y.dom p nH⟩
  obtain ⟨u, hu⟩ := o.own_some (a := p) q
  exact no_some nH hu
end
theorem sql_keep {K : PySem.W.Frag} {H H1 : Hp} {a : Addr} {xs : List V} (h : SqL K H a xs) (k : ∀ a o, H a = some o → NTb o → H1 a = some o) : SqL K H1 a xs := by
  rcases h with (h | ⟨o, h⟩) | h
  · exact .inl (.inl (k _ _ h .lst))
  · exact .inl (.inr ⟨o, k _ _ h ⟨fun _ z => nomatch z⟩⟩)
  · exact .inr h
section
variable {κ : Type} {X : Cx} {W : WX} {scope : Scope} {x : Str} {T : KeyT κ} {kf : Sg → D → Option κ} {body : Expr}
/-- one call of the key -/
theorem key_turn {pins : List (Addr × Obj)} {σ : L2.St} {I H : Hp} {g : Sg} {s2 : Shared} {A : Around} {f c' : Addr} {pm ctv : Value} {params : Arguments} {vs : List V} {ds : List D} {ks : List κ} (L : LamP X.env.scope scope x) (key : VKy X scope x body T kf)
    (hb : ∀ (q : Str) (cl : List (Str × Addr)) (pm cv ctv v : Value), bindArgs (PySem.W.kla_fn "<lambda>" q params body scope cl pm cv ctv) ⟨[v], []⟩ = pure [(x, v)]) (J : Inv X pins σ H s2) (o : Ok X.K ⟨I, σ, H, g⟩) (rr : Reps X.K I vs ds) (hk : keysO (kf g) ds = some ks)
    (hf : s2.heap.get? f = some (lamO X params body scope pm c' ctv)) (hc : s2.heap.CodeRec (.ref c') (X.env.qual ++ "<lambda>")) (hr : A.depth < recursionLimit) :
    ∀ (u : Value) (b : V × D × κ), RelV b.1 u → b ∈ vs.zip (ds.zip ks) → ∀ (h : Heap) (tk : Nat), (∀ b o, s2.heap.get? b = some o → h.get? b = some o) →
      wpAny (model X.prog X.w) A (call (.ref f) [u]) (PySem.W.KeyPure (T.enc b.2.2) { s2 with heap := h, toks := tk }) (fun _ _ => False) { s2 with heap := h, toks := tk } := by
  intro u b ru hm h tk kp
  obtain ⟨kv, k1, k2⟩ := key.ex
  have J1 : Inv X pins σ H { s2 with heap := h, toks := tk } := J.kept kp
  have hz := keys_zip hk
  have m1 : (b.1, b.2.1) ∈ vs.zip ds := by
    clear k2 J1
    obtain ⟨i, hi, e⟩ := List.getElem_of_mem hm
    rw [List.getElem_zip, List.getElem_zip] at e
    subst e
    simp only [List.length_zip] at hi
    refine List.mem_of_getElem? (i := i) ?_
    rw [List.getElem?_zip_eq_some]
    exact ⟨List.getElem?_eq_getElem (by omega), List.getElem?_eq_getElem (by omega)⟩
  have m2 : b.2 ∈ ds.zip ks := (List.of_mem_zip (show (b.1, b.2) ∈ vs.zip (ds.zip ks) from hm)).2
  have hkv : kv σ H b.1 (T.enc b.2.2) := k2 ⟨I, σ, H, g⟩ b.1 b.2.1 b.2.2 o (reps_zip rr _ m1) (hz.2 _ m2)
  refine lam_call L (kp f _ hf) (by
    obtain ⟨c2, oc, us, t, e1, e2, e3, e4⟩ := hc
    cases e1
    exact ⟨c', oc, us, t, rfl, kp _ _ e2, e3, e4⟩) J1.nolimit hr (hb _ _ _ _ _ _) fun l h1 tk1 hns kp1 => ?_
  have J2 : Inv X pins σ H { s2 with heap := h1, toks := tk1 } := J.kept fun b o e => kp1 b o (kp b o e)
  refine wpAny_mono (k1 pins { s2 with heap := h1, toks := tk1 } σ H _ _ l f c' u b.1 _ J2 ru hkv hns) (fun z s' ⟨gr, rd⟩ => ?_) fun _ _ q => q
  obtain ⟨h', tk', rfl, kp2⟩ := gr
  exact ⟨h', tk', rfl, fun b o e => kp2 b o (kp1 b o e), rd⟩
theorem sort_call {pins : List (Addr × Obj)} {σ : L2.St} {I H : Hp} {g : Sg} {c0 : Cfg} {s2 : Shared} {f c' a : Addr} {pm ctv : Value} {params : Arguments} {vs : List V} {ds : List D} {Q : VK} {k : Nat} (L : LamP X.env.scope scope x) (key : VKy X scope x body T kf)
    (hb : ∀ (q : Str) (cl : List (Str × Addr)) (pm cv ctv v : Value), bindArgs (PySem.W.kla_fn "<lambda>" q params body scope cl pm cv ctv) ⟨[v], []⟩ = pure [(x, v)]) (J : Inv X pins σ H s2) (o : Ok X.K ⟨I, σ, H, g⟩) (y : Go c0 ⟨I, σ, H, g⟩) (hs : SqL X.K H a vs) (rr : Reps X.K I vs ds)
    (hf : s2.heap.get? f = some (lamO X params body scope pm c' ctv)) (hc : s2.heap.CodeRec (.ref c') (X.env.qual ++ "<lambda>")) (hr : Room k X.A) (h : Rem X.K W (RvR X.K) c0 (sortKK T kf ds g) Q) (e0 : c0.σ = σ) :
    wpAny (model X.prog X.w) X.A (call (.builtin "sorted") [.ref a] [(Str.ofString "key", .ref f)]) (EP X pins σ Q) X.xe s2 := by
  unfold sortKK at h
  split at h
  rotate_left
  · exact h.elim
  rename_i ks hk
  split at h
  rotate_left
  · exact h.elim
  rename_i hz
  obtain ⟨its, rv, pl, hz2⟩ := J.list hs
  have hl := (keys_zip hk).1
  have hvl := rr.length
  refine PySem.W.sorted_key_data (b := false) (bs := vs.zip (ds.zip ks)) (R := fun u b => RelV b.1 u) (fun b => T.enc b.2.2) pl.isList (each_of_vals rv (by rw [List.length_zip]; omega)) (.of fun b b' => T.al _ _) (T.so (fun b : V × D × κ => b.2.2) _)
    (by rw [List.length_zip, List.length_zip]; omega) (fun b _ => by have := hr.un; have := T.dp b.2.2; omega) (ksk_s1 _ _) (fun _ => ksk_l1 _ _) (fun z => ksk_t1 f z)
    (key_turn L key hb J o rr hk hf hc (by have := hr.dp; show X.A.depth < _; omega)) fun out c h' tk kp fr hn hlen he => ?_
  rw [T.hle (fun b : V × D × κ => b.2.2)] at he
  exact sort_end J o y rr hl hz ⟨h', tk, rfl, kp⟩ fr (Nat.le_succ _) hn he h e0
end
section
variable {κ : Type} {X : Cx} {W : WX} {scope : Scope} {x : Str} {T : KeyT κ} {kf : Sg → D → Option κ} {body e : Expr} {fe : Ft} {k : Nat} {params : Arguments} {p pos z kp : Pos}
theorem rd_list {c : Cfg} {v : V} {d : D} {ds : List D} (o : Ok X.K c) (r : RdD X.K c v d) (e : itemsL d = some ds) : ∃ a xs, v = .ref a ∧ SqL X.K c.H a xs ∧ Reps X.K c.I xs ds := by
  cases d <;> simp only [itemsL] at e <;> first | cases e | skip
  · obtain ⟨a, xs, rfl, h, rr⟩ := r.lst o
    exact ⟨a, xs, rfl, SqL.of h, rr⟩
  · obtain ⟨a, xs, rfl, h, rr⟩ := r.seq o
    exact ⟨a, xs, rfl, h, rr⟩
theorem ve_sortLam (hr : Room k X.A) (lt : LamT X) (L : LamP X.env.scope scope x) (key : VKy X scope x body T kf) (hg : Gl X "sorted") (hm : X.mg "sorted" = none) (he : VE X W e fe) (hdef : defaultsOf params X.env = ([], []))
    (hb : ∀ (q : Str) (cl : List (Str × Addr)) (pm cv ctv v : Value), bindArgs (PySem.W.kla_fn "<lambda>" q params body scope cl pm cv ctv) ⟨[v], []⟩ = pure [(x, v)])
    (na : starEach [e] X.env = (false, eval e X.env) :: starEach [] X.env := by rfl) (h1 : backTo pos (starEach [e] X.env) = (false, eval e X.env) :: backTo pos (starEach [] X.env) := by rfl) (h2 : (backTo pos (starEach [e] X.env)).any (·.1) = false := by rfl)
    (h3 : (backToKw pos (keywordEach [⟨some "key", .Lambda params body scope z, kp⟩] X.env)).all (·.1.isSome) = true := by rfl) (h4 : (backToKw pos (keywordEach [⟨some "key", .Lambda params body scope z, kp⟩] X.env)).any (·.1.isNone) = false := by rfl) :
    VE X W (.Call (.Name "sorted" p) [e] [⟨some "key", .Lambda params body scope z, kp⟩] pos) (sortK T kf fe) := by
  refine ⟨⟨fun pins s σ H Q I ⟨I0, g, o, r⟩ => ?_⟩⟩
  obtain ⟨c, P, hcode, TB, hmT, hu⟩ := lt.ex
  refine wpAny_Call_Name_kw (ld_blt I hg hm boot_sorted ?_)
  refine PyProof.Rows.callWith_kw (args_cons (thn (he.pe.run pins s σ H _ I ⟨I0, g, o, Rem.settle (Rem.bind (R := RvR X.K) r)⟩) fun u s1 ⟨v, H1, I1, r1, J1, g1, x1, o1, y1, rx, rem1⟩ => args_nil ?_) na) h1 h2 h3 h4
  split at rem1
  rotate_left
  · exact rem1.elim
  rename_i ds hd
  rw [Option.bind_eq_some_iff] at hd
  obtain ⟨d, hd1, hd2⟩ := hd
  obtain ⟨a, xs, rfl, hs, rr⟩ := rd_list o1 (deref_rd (c := ⟨J1, σ, H1, g1⟩) o1 rx hd1) hd2
  obtain rfl : u = Value.ref a := r1
  obtain ⟨ps, hP, ht, ha⟩ := o1.tab.e _ hmT
  show wpAny _ _ (evalAll ((do let v ← eval (.Lambda params body scope z) X.env; standAt pos; pure v) :: [])) _ _ s1
  refine wpAny_evalAll_cons (wpAny_bind (lam_mk I1 TB hcode hP ht (fun cv hcv => ?_) hdef (L.has I1.ok) fun f c' pm ctv H2 s2 J ld hf hc kp0 => wpAny_bind (wpAny_standAt (wpAny_pure (wpAny_evalAll_nil ?_)))))
  · obtain ⟨c', e1, e2⟩ := ha z cv hcv
    exact ⟨c', e1, o1.sub _ _ e2⟩
  obtain ⟨J3, o3, y3, keep, le⟩ := lamd_ok o1 hmT hu hP ld
  exact sort_call (W := W) L key hb J o3 y3 (sql_keep hs keep) (rr.mono le) hf hc hr rem1 rfl
theorem ve_listRg (hc : X.calm = true) (hg : Gl X "list") (hm : X.mg "list" = none) (hg2 : Gl X "range") (hm2 : X.mg "range" = none) (he : VE X W e fe)
    (na : starEach [e] X.env = (false, eval e X.env) :: starEach [] X.env := by rfl) (na2 : starEach [.Call (.Name "range" z) [e] [] kp] X.env = (false, eval (.Call (.Name "range" z) [e] [] kp) X.env) :: starEach [] X.env := by rfl) :
    VE X W (.Call (.Name "list" p) [.Call (.Name "range" z) [e] [] kp] [] pos) (listRg fe) := by
  refine ⟨pe_imp (pe_listRg hc hg hm (prg_1 hg2 hm2 he.pe na) na2) fun σ H Q ⟨I, g, o, r⟩ => ?_⟩
  refine ⟨I, g, o, Rem.settle ((Rem.bind (R := RvR X.K) r).mono ?_)⟩
  rintro v H1 ⟨I1, g1, x, o1, y1, rx, r1⟩
  split at r1
  · rename_i n q
    split at r1
    · rename_i hn
      have rd := deref_rd (c := ⟨I1, σ, H1, g1⟩) o1 rx q
      refine ⟨n, rd.int, RgOk.of_le (by omega) hn.2 (by omega) hn.1, fun q hq => ?_⟩
      have nI : I1 q = none := by
        cases z : I1 q with
        | none => rfl
        | some u => exact (no_some hq (o1.sub _ _ z)).elim
      refine r1 I1 _ (.ref q) (o1.new (Xb.new hq)) (Go.new (Xb.new hq)) ⟨q, rfl, ⟨_, upd_same, rgV_rgD n⟩, nI, fun w => ?_, hq⟩
      obtain ⟨u, hu⟩ := o1.own_some (a := q) w
      exact no_some hq hu
    · exact r1.elim
  · exact r1.elim
end
section
variable {κ : Type} {X : Cx} {W : WX} {scope : Scope} {x : Str} {T : KeyT κ} {kf : Sg → D → Option κ} {body : Expr}
theorem keep_but {a : Addr} {h h' : Heap} (k : PySem.W.KeepsBut a h h') (ha : h.objs.size ≤ a) : ∀ b o, h.get? b = some o → h'.get? b = some o := fun b o e => k b o (Nat.ne_of_lt (Nat.lt_of_lt_of_le (Heap.lt_size e) ha)) e
theorem rg_call {pins : List (Addr × Obj)} {σ : L2.St} {I H : Hp} {g : Sg} {c0 : Cfg} {s2 : Shared} {f c' r : Addr} {n : Int} {t u v : Tok} {pm ctv : Value} {params : Arguments} {Q : VK} {k : Nat} (L : LamP X.env.scope scope x) (key : VKy X scope x body T kf)
    (hb : ∀ (q : Str) (cl : List (Str × Addr)) (pm cv ctv v : Value), bindArgs (PySem.W.kla_fn "<lambda>" q params body scope cl pm cv ctv) ⟨[v], []⟩ = pure [(x, v)]) (J : Inv X pins σ H s2) (o : Ok X.K ⟨I, σ, H, g⟩) (y : Go c0 ⟨I, σ, H, g⟩) (hn0 : 0 ≤ n) (hn1 : n ≤ 16777216) (hrg : IsRange s2.heap r 0 n 1 t u v)
    (hf : s2.heap.get? f = some (lamO X params body scope pm c' ctv)) (hc : s2.heap.CodeRec (.ref c') (X.env.qual ++ "<lambda>")) (hr : Room k X.A) (h : Rem X.K W (RvR X.K) c0 (sortKK T kf (rgD n) g) Q) (e0 : c0.σ = σ) :
    wpAny (model X.prog X.w) X.A (call (.builtin "sorted") [.ref r] [(Str.ofString "key", .ref f)]) (EP X pins σ Q) X.xe s2 := by
  unfold sortKK at h
  split at h
  rotate_left
  · exact h.elim
  rename_i ks hk
  split at h
  rotate_left
  · exact h.elim
  rename_i hz
  obtain ⟨b1, b2, b3, b4, b5⟩ := RgOk.of_le (a := 0) (b := n) (by omega) hn1 (by omega) hn0
  have hl := (keys_zip hk).1
  have rr : Reps X.K I (rgV 0 n) (rgD n) := rgV_rgD n
  have hvl := rr.length
  refine call_function_entry_kw kind_sorted plain_sorted entry_sorted (ksk_s1 _ _) ?_
  unfold Builtin.«sorted»
  refine wpAny_bind (m := checkCount "sorted" 1 1 _) (wpAny_pure ?_)
  refine wpAny_bind (collect_range (n := (n - 0).toNat) hr.hd hrg (small_one b1 b2 b3 b4) (rangeSize_nat 0 n) b5 fun h' tk acc kp hi => ?_)
  have rv := vals_rg hi
  have J1 : Inv X pins σ H { s2 with heap := h', toks := tk } := J.kept kp
  have hsz : acc.toList.length ≤ sizeLine := by rw [← rv.length, hvl]; exact hz
  refine wpAny_bind (wpAny_newList ?_ hsz)
  have hat : (h'.push (seqObj "list" acc.toList.toArray 0)).get? h'.objs.size = some (seqObj "list" acc.toList.toArray 0) := Heap.get?_push_size _ rfl
  have up : ∀ {g : Heap}, PySem.W.KeepsBut h'.objs.size (h'.push (seqObj "list" acc.toList.toArray 0)) g → ∀ b o, s2.heap.get? b = some o → g.get? b = some o := fun {g} kb b o q => by
    have q' := kp b o q
    exact kb b o (Nat.ne_of_lt (Heap.lt_size q')) (Heap.get?_push_of_some _ q')
  refine wpAny_bind (wpAny_holding (PySem.W.list_sort_key_data (b := false) (bs := (rgV 0 n).zip ((rgD n).zip ks)) (R := fun u b => RelV b.1 u) (fun b => T.enc b.2.2) hat (each_of_vals rv (by rw [List.length_zip]; omega)) (.of fun b b' => T.al _ _) (T.so (fun b : V × D × κ => b.2.2) _)
    (by rw [List.length_zip, List.length_zip]; omega) (fun b _ => ?_) (ksk_l1 _ _) (ksk_t1 f _) (fun z b hR hb' hh tk' kb => ?_) fun out c hh tk' kb hn hlen he => ?_))
  · have := hr.un
    have := T.dp b.2.2
    show X.A.units + _ + 1 + _ < _
    omega
  · exact key_turn L key hb J o rr hk hf hc (by have := hr.dp; show X.A.depth < _; omega) z b hR hb' hh tk' (up kb)
  · rw [T.hle (fun b : V × D × κ => b.2.2)] at he
    refine wpAny_pure ?_
    exact ⟨_, rfl, sort_end J1 o y rr hl hz ⟨hh, tk', rfl, fun b o q => kb b o (Nat.ne_of_lt (Heap.lt_size q)) (Heap.get?_push_of_some _ q)⟩ (Heap.get?_none_of_le (Nat.le_refl _)) (Nat.le_refl _) hn he h e0⟩
theorem ve_sortRg {e : Expr} {fe : Ft} {k : Nat} {params : Arguments} {p p2 pos pos2 z kp : Pos} (hr : Room k X.A) (lt : LamT X) (L : LamP X.env.scope scope x) (key : VKy X scope x body T kf) (hg : Gl X "sorted") (hm : X.mg "sorted" = none) (hg2 : Gl X "range") (hm2 : X.mg "range" = none) (he : VE X W e fe) (hdef : defaultsOf params X.env = ([], []))
    (hb : ∀ (q : Str) (cl : List (Str × Addr)) (pm cv ctv v : Value), bindArgs (PySem.W.kla_fn "<lambda>" q params body scope cl pm cv ctv) ⟨[v], []⟩ = pure [(x, v)])
    (nr : starEach [e] X.env = (false, eval e X.env) :: starEach [] X.env := by rfl) (na : starEach [.Call (.Name "range" p2) [e] [] pos2] X.env = (false, eval (.Call (.Name "range" p2) [e] [] pos2) X.env) :: starEach [] X.env := by rfl)
    (h1 : backTo pos (starEach [.Call (.Name "range" p2) [e] [] pos2] X.env) = (false, eval (.Call (.Name "range" p2) [e] [] pos2) X.env) :: backTo pos (starEach [] X.env) := by rfl) (h2 : (backTo pos (starEach [.Call (.Name "range" p2) [e] [] pos2] X.env)).any (·.1) = false := by rfl)
    (h3 : (backToKw pos (keywordEach [⟨some "key", .Lambda params body scope z, kp⟩] X.env)).all (·.1.isSome) = true := by rfl) (h4 : (backToKw pos (keywordEach [⟨some "key", .Lambda params body scope z, kp⟩] X.env)).any (·.1.isNone) = false := by rfl) :
    VE X W (.Call (.Name "sorted" p) [.Call (.Name "range" p2) [e] [] pos2] [⟨some "key", .Lambda params body scope z, kp⟩] pos) (sortRg T kf fe) := by
  refine ⟨⟨fun pins s σ H Q I ⟨I0, g, o, r⟩ => ?_⟩⟩
  obtain ⟨c, P, hcode, TB, hmT, hu⟩ := lt.ex
  refine wpAny_Call_Name_kw (ld_blt I hg hm boot_sorted ?_)
  have step := prg_1 (p := p2) (pos := pos2) hg2 hm2 he.pe nr pins s σ H (fun a b H1 => a = 0 ∧ ∃ I1 g1 x1, Ok X.K ⟨I1, σ, H1, g1⟩ ∧ RvR X.K ⟨I0, σ, H, g⟩ ⟨I1, σ, H1, g1⟩ (.int b) x1 ∧ Rem X.K W (RvR X.K) ⟨I1, σ, H1, g1⟩ (match deref g1 x1 with
    | some (.int n) => if 0 ≤ n ∧ n ≤ 16777216 then sortKK T kf (rgD n) g1 else .stuck
    | _ => .stuck) Q) I (by
      refine ⟨I0, g, o, Rem.settle ((Rem.bind (R := RvR X.K) r).mono ?_)⟩
      rintro v H1 ⟨I1, g1, x1, o1, y1, rx, r1⟩
      have r2 := r1
      split at r2
      · rename_i n q
        have rd := deref_rd (c := ⟨I1, σ, H1, g1⟩) o1 rx q
        have e1 := rd.int
        subst e1
        exact ⟨n, rfl, rfl, I1, g1, x1, o1, rx, r1⟩
      · exact r2.elim)
  refine PyProof.Rows.callWith_kw (args_cons (wpAny_mono step (fun u s1 ⟨rg, a, n, t, u', v', H1, eu, hrg, I1, ea, J1, g1, x1, o1, rx, rem1⟩ => args_nil ?_) fun _ _ q => q) na) h1 h2 h3 h4
  subst eu ea
  split at rem1
  rotate_left
  · exact rem1.elim
  rename_i n' q
  have rd := deref_rd (c := ⟨J1, σ, H1, g1⟩) o1 rx q
  have en := rd.int
  cases en
  split at rem1
  rotate_left
  · exact rem1.elim
  rename_i hn
  obtain ⟨ps, hP, ht, ha⟩ := o1.tab.e _ hmT
  show wpAny _ _ (evalAll ((do let v ← eval (.Lambda params body scope z) X.env; standAt pos; pure v) :: [])) _ _ s1
  obtain ⟨ob, hob, hr3⟩ : ∃ ob, s1.heap.get? rg = some ob ∧ ∀ h : Heap, h.get? rg = some ob → IsRange h rg 0 n 1 t u' v' := ⟨_, hrg, fun h e => e⟩
  refine wpAny_evalAll_cons (wpAny_bind (lam_mk I1 TB hcode hP ht (fun cv hcv => ?_) hdef (L.has I1.ok) fun f c' pm ctv H2 s2 J ld hf hc kp0 => wpAny_bind (wpAny_standAt (wpAny_pure (wpAny_evalAll_nil ?_)))))
  · obtain ⟨c', e1, e2⟩ := ha z cv hcv
    exact ⟨c', e1, o1.sub _ _ e2⟩
  obtain ⟨J3, o3, y3, keep, le⟩ := lamd_ok o1 hmT hu hP ld
  exact rg_call (W := W) L key hb J o3 y3 hn.1 hn.2 (hr3 _ (kp0 rg ob (fun w => by
    subst w
    have hP' : s1.heap.get? rg = some { cls := .none, data := .fields ps } := I1.hok rg _ hP
    have hrg' : s1.heap.get? rg = some _ := hrg
    rw [hrg'] at hP'
    cases hP') hob)) hf hc hr rem1 rfl
end
end Vl

set_option Elab.async false
set_option linter.all false
set_option maxRecDepth 100000
set_option maxHeartbeats 2000000
/-! the value layer: xs[::-1] of a list -/
namespace Vl
open PySem PySem.Spec PyProof.Rows L2 My
theorem Reps.reverse {K : PySem.W.Frag} {I : Hp} : ∀ {vs : List V} {ds : List D}, Reps K I vs ds → Reps K I vs.reverse ds.reverse
  | _, _, .nil => .nil
  | _, _, .cons h t => by
    rw [List.reverse_cons, List.reverse_cons]
    exact (Reps.reverse t).append (.one h)
def revP : D → Option RV
  | .lst xs => some (.fr (.lst xs.reverse))
  | .seq xs => some (.fr (.lst xs.reverse))
  | _ => none
theorem ve_rev {X : Cx} {W : WX} {e : Expr} {fe : Ft} {k : Nat} {p1 p2 p3 pos : Pos} (he : VE X W e fe) : VE X W (.Subscript e (.Slice none none (some (.UnaryOp .USub (.Constant (.int 1) k p1) p2)) p3) pos) (op1 revP fe) := by
  refine ⟨pe_imp (pe_revL he.pe) fun σ H Q ⟨I, g, o, r⟩ => ?_⟩
  refine ⟨I, g, o, Rem.settle ((Rem.bind (R := RvR X.K) r).mono ?_)⟩
  rintro v H1 ⟨I1, g1, x, o1, y1, rx, r1⟩
  obtain ⟨d, rd, q⟩ := lift1_gives o1 rx r1
  cases d <;> simp only [revP] at q <;> first | exact q.elim | skip
  · obtain ⟨a, us, rfl, h, rr⟩ := rd.lst o1
    exact ⟨a, us, rfl, SqL.of h, fun p hp => q.fresh o1 (p := p) ⟨hp⟩ (Xb.new hp) ⟨_, upd_same, rr.reverse⟩⟩
  · obtain ⟨a, us, rfl, h, rr⟩ := rd.seq o1
    exact ⟨a, us, rfl, h, fun p hp => q.fresh o1 (p := p) ⟨hp⟩ (Xb.new hp) ⟨_, upd_same, rr.reverse⟩⟩
end Vl

set_option Elab.async false
set_option linter.all false
set_option maxRecDepth 100000
set_option maxHeartbeats 2000000
/-! the value layer: sorted of tuples of ints -/
namespace Vl
open PySem PySem.Spec PyProof.Rows L2 My
def rowLe (a b : List Int) : Bool := decide (a ≤ b)
theorem dataLe_tups {β : Type} (x : β → List Int) : PySem.W.dataLe false (fun b => .tuple ((x b).map .int)) = fun p q => rowLe (x p) (x q) := by
  funext p q
  show (!PySem.W.dataLt (.tuple ((x q).map .int)) (.tuple ((x p).map .int))) = _
  rw [PySem.W.dataLt_tuple]
  show (!PySem.W.rowLt ((x q).map .int) ((x p).map .int)) = _
  rw [PySem.W.dataLt_ints]
  unfold rowLe
  by_cases h : x q < x p
  · rw [decide_eq_true h, decide_eq_false fun r => List.not_lt.mpr r h]; rfl
  · rw [decide_eq_false h, decide_eq_true (List.not_lt.mp h)]; rfl
theorem depth_tint (l : List Int) : (PyData.tuple (l.map .int)).depth ≤ 1 := by
  have : PyData.depthAll (l.map .int) = 0 := by
    induction l with
    | nil => rfl
    | cons a r ih => simp [PyData.depthAll, PyData.depth, ih]
  simp [PyData.depth, this]
theorem reads_ints {h : Heap} : ∀ {l : List Int} {us : List Value}, Vals (l.map V.int) us → ReadsAll h us (l.map .int) []
  | [], _, .nil => .nil
  | a :: r, _, .cons h t => by
    obtain ⟨k, rfl⟩ := h
    exact .cons (as := []) (bs := []) (.int _ _) (reads_ints t)
section
variable {X : Cx}
theorem cr_sortRows (hu : X.A.units + 65 < cLine) : CallR X (.builtin "sorted") (fun vs H Q => ∃ (a : Addr) (xs : List V) (rs : List (List Int)), vs = [.ref a] ∧ SqL X.K H a xs ∧ xs.length = rs.length ∧ (∀ p ∈ xs.zip rs, ∃ t, p.1 = .ref t ∧ SqT X.K H t (p.2.map V.int) ∧ p.2 ≠ []) ∧
    ∀ p, H p = none → Q (.ref p) (upd H p (.lst (((xs.zip rs).mergeSort fun a b => rowLe a.2 b.2).map Prod.fst)))) := by
  intro pins s σ H vs us Q I r ⟨a, xs, rs, ev, hs, hl, hp, q⟩
  subst ev
  obtain ⟨its, rv, pl, hz⟩ := I.list hs
  obtain ⟨u, rfl, ru⟩ := L2.vals1 r
  cases ru
  have rd : ∀ (u : Value) (b : V × List Int), RelV b.1 u → b ∈ xs.zip rs → Reads s.heap u (.tuple (b.2.map .int)) [] := fun u b hr hb => by
    obtain ⟨t, e, ht, _⟩ := hp b hb
    rw [e] at hr
    cases hr
    obtain ⟨js, r2, ⟨o, ho, hc, n, hd⟩, _⟩ := I.tuple ht
    exact .tuple ho hc hd (by simpa using reads_ints r2)
  have e1 := each_of_vals rv hl
  have e2 : PySem.W.EachIs (fun u (b : V × List Int) => ∃ as, Reads s.heap u (.tuple (b.2.map .int)) as) its (xs.zip rs) := by
    have : ∀ {us : List Value} {bs : List (V × List Int)}, PySem.W.EachIs (fun u (b : V × List Int) => RelV b.1 u) us bs → (∀ b ∈ bs, b ∈ xs.zip rs) → PySem.W.EachIs (fun u (b : V × List Int) => ∃ as, Reads s.heap u (.tuple (b.2.map .int)) as) us bs := by
      intro us bs h
      induction h with
      | nil => intro _; exact .nil
      | cons h t ih => intro k; exact .cons ⟨[], rd _ _ h (k _ (.head _))⟩ (ih fun b hb => k b (.tail _ hb))
    exact this e1 fun b h => h
  refine PySem.W.sorted_data (enc := fun b : V × List Int => .tuple (b.2.map .int)) pl.isList e1 e2 (.of fun b b' => by simp [PySem.W.alike, PySem.W.alike_ints]) (.inl fun d hd => ?_) (by rw [List.length_zip]; omega) (fun b _ => by have := depth_tint b.2; omega) fun out hlen he => ?_
  · obtain ⟨b, hb, rfl⟩ := List.mem_map.mp hd
    obtain ⟨_, _, _, hne⟩ := hp b hb
    cases e : b.2 with
    | nil => exact (hne e).elim
    | cons x l => exact ⟨_, _, rfl⟩
  rw [dataLe_tups (fun b : V × List Int => b.2)] at he
  obtain ⟨ep, he'⟩ := PyProof.Rows.sortedAll_at s.heap its (List.toArray out)
  have hv := vals_of_each he
  refine ⟨.ref _, _, I.laid (t' := s.toks) (o := .lst _) (fun _ _ => PyProof.Rows.sortedAll_old) (Nat.le_succ _) ⟨?_, out, ep, hv, he'⟩, rfl, q _ (I.hok.fresh (Nat.le_succ _))⟩
  rw [List.length_map, List.length_mergeSort, List.length_zip]
  omega
end
/-! ### at the values -/
def intsR : List D → Option (List Int)
  | [] => some []
  | .int i :: r => (intsR r).map (i :: ·)
  | _ => none
def rowsR : List D → Option (List (List Int))
  | [] => some []
  | .tup (d :: l) :: r => (intsR (d :: l)).bind fun a => (rowsR r).map (a :: ·)
  | _ => none
abbrev tupI (r : List Int) : D := .tup (r.map D.int)
def sortR (rs : List (List Int)) : List (List Int) := rs.mergeSort rowLe
def sortT : List D → Option RV
  | [.lst xs] => (rowsR xs).map fun rs => .fr (.lst ((sortR rs).map tupI))
  | _ => none
theorem intsR_eq : ∀ {ds : List D} {ns : List Int}, intsR ds = some ns → ds = ns.map D.int
  | [], ns, h => by cases h; rfl
  | d :: r, ns, h => by
    cases d <;> simp only [intsR] at h <;> first | cases h | skip
    rw [Option.map_eq_some_iff] at h
    obtain ⟨l, e, rfl⟩ := h
    rw [List.map_cons, ← intsR_eq e]
theorem rowsR_eq : ∀ {ds : List D} {rs : List (List Int)}, rowsR ds = some rs → ds = rs.map tupI ∧ ∀ r ∈ rs, r ≠ []
  | [], rs, h => by cases h; exact ⟨rfl, fun r h => nomatch h⟩
  | d :: t, rs, h => by
    cases d <;> (try simp only [rowsR] at h) <;> first | cases h | skip
    rename_i l
    cases l with
    | nil => simp only [rowsR] at h; cases h
    | cons x l =>
      simp only [rowsR, Option.bind_eq_some_iff, Option.map_eq_some_iff] at h
      obtain ⟨a, e1, rs', e2, rfl⟩ := h
      obtain ⟨i1, i2⟩ := rowsR_eq e2
      refine ⟨by rw [List.map_cons, ← i1]; show D.tup (x :: l) :: t = D.tup (a.map D.int) :: t; rw [← intsR_eq e1], fun r hr => ?_⟩
      rcases List.mem_cons.mp hr with rfl | hr
      · intro z; subst z; have := intsR_eq e1; simp at this
      · exact i2 r hr
theorem rep_ints {K : PySem.W.Frag} {I : Hp} : ∀ {l : List Int} {vs : List V}, Reps K I vs (l.map D.int) → vs = l.map V.int
  | [], _, h => by cases h; rfl
  | a :: r, _, h => by
    cases h with
    | cons h t => cases h; rw [List.map_cons, rep_ints t]
theorem c_sortT {X : Cx} (hu : X.A.units + 65 < cLine) : PCl X (.builtin "sorted") sortT := by
  refine ⟨_, cr_sortRows hu, fun c vs ds Q o rr h => ?_⟩
  unfold sortT at h
  split at h
  · rename_i ds
    obtain ⟨v, rfl, r⟩ := paired1 rr
    cases e : rowsR ds with
    | none => rw [e] at h; exact h.elim
    | some rs =>
      rw [e] at h
      obtain ⟨e1, e2⟩ := rowsR_eq e
      subst e1
      obtain ⟨a, xs, rfl, ha, rx⟩ := r.lst o
      have hl : xs.length = rs.length := by rw [rx.length, List.length_map]
      have each : ∀ p ∈ xs.zip rs, Rep X.K c.I p.1 (tupI p.2) := by
        have : ∀ {xs : List V} {rs : List (List Int)}, Reps X.K c.I xs (rs.map tupI) → ∀ p ∈ xs.zip rs, Rep X.K c.I p.1 (tupI p.2) := by
          intro xs
          induction xs with
          | nil => intro rs h p hp; simp at hp
          | cons x t ih =>
            intro rs h p hp
            cases rs with
            | nil => simp at hp
            | cons r rs =>
              cases h with
              | cons h1 h2 =>
                rw [List.zip_cons_cons, List.mem_cons] at hp
                rcases hp with rfl | hp
                · exact h1
                · exact ih h2 p hp
        exact this rx
      refine ⟨a, xs, rs, rfl, SqL.of ha, hl, fun p hp => ?_, fun p hp => ?_⟩
      · have k := each p hp
        have hne := e2 _ (List.of_mem_zip (show (p.1, p.2) ∈ xs.zip rs from hp)).2
        generalize p.1 = v at k
        cases k with
        | tup h r => exact ⟨_, rfl, by rw [← rep_ints r]; exact o.sub.sqT h, hne⟩
      · refine h.fresh o ⟨hp⟩ (Xb.new hp) ⟨_, upd_same, ?_⟩
        have e3 : (sortR rs).map tupI = (((xs.zip rs).mergeSort fun a b => rowLe a.2 b.2).map fun b => tupI b.2) := by
          have e4 : rs = (xs.zip rs).map Prod.snd := by rw [List.map_snd_zip]; omega
          unfold sortR
          conv => lhs; rw [e4]
          rw [← List.map_mergeSort (r := fun (a b : V × List Int) => rowLe a.2 b.2) (s := rowLe) (f := (Prod.snd : V × List Int → List Int)) (fun a _ b _ => rfl), List.map_map]
          rfl
        rw [e3]
        refine reps_of_map fun b hb => ?_
        rw [List.mem_mergeSort] at hb
        exact each b hb
  · exact h.elim
end Vl

set_option Elab.async false
set_option linter.all false
set_option maxRecDepth 100000
set_option maxHeartbeats 2000000
/-! the value layer: a for over a parameter's list that stays own -/
namespace Vl
open PySem PySem.Spec PyProof.Rows L2 My
/-- the slot is a parameter that holds just this list -/
def OwnT (ds : List D) (s : Option Sl) : Prop := s = some (.own true (.lst ds))
open Classical in
noncomputable def loopO (p : Nat) (ds0 : List D) (t : Tg) (body : Fs) : List D → Sg → Rs
  | [], g => if OwnT ds0 g[p]? then .nx g else .stuck
  | d :: ds, g => if OwnT ds0 g[p]? then (match tgF t d g with
    | some g1 => (match body g1 with
      | .nx g2 => loopO p ds0 t body ds g2
      | .ct g2 => loopO p ds0 t body ds g2
      | .bk g2 => .nx g2
      | r => r)
    | none => .stuck) else .stuck
noncomputable def forE (p : Nat) (t : Tg) (body : Fs) : Fs := fun g => match g[p]? with
  | some (.own true (.lst ds)) => loopO p ds t body (enumD ds) g
  | _ => forF (argsI enumOf [nameF p]) t body g
noncomputable def forL (p : Nat) (t : Tg) (body : Fs) : Fs := fun g => match g[p]? with
  | some (.own true (.lst ds)) => loopO p ds t body ds g
  | _ => forF (iterF (nameF p)) t body g
section
variable {X : Cx} {W : WX}
/-- J yields the items es while slot p holds the list ds0 at a -/
def ItOwn (K : PySem.W.Frag) (p : Nat) (a : Addr) (ds0 : List D) (J : It) (es : List D) : Prop := ∀ c2 : Cfg, Ok K c2 → c2.σ[p]? = some (some (.ref a)) → OwnT ds0 c2.g[p]? → ∀ n : Nat,
  (∀ d, es[n]? = some d → J.go n c2.H ∧ ∀ x H', J.yld n c2.H x H' → ∃ I', Ok K ⟨I', c2.σ, H', c2.g⟩ ∧ Go c2 ⟨I', c2.σ, H', c2.g⟩ ∧ Rep K I' x d) ∧ (es.length ≤ n → J.stop n c2.H)
theorem own_list {K : PySem.W.Frag} {c2 : Cfg} {p : Nat} {a : Addr} {ds0 : List D} (o2 : Ok K c2) (e2 : c2.σ[p]? = some (some (.ref a))) (w2 : OwnT ds0 c2.g[p]?) : ∃ xs, SqL K c2.H a xs ∧ Reps K c2.I xs ds0 := by
  obtain ⟨a2, ea2, ow2, na2⟩ := o2.own_at w2
  rw [e2] at ea2
  cases ea2
  obtain ⟨xs, hx, rr⟩ := ow2
  exact ⟨xs, SqL.of hx, rr⟩
theorem itOwn_list {K : PySem.W.Frag} {p : Nat} {a : Addr} {ds0 : List D} : ItOwn K p a ds0 (Itl K a) ds0 := fun c2 o2 e2 w2 n => by
  obtain ⟨xs, h2, rr⟩ := own_list o2 e2 w2
  refine ⟨fun d e => ?_, fun e => ⟨xs, h2, by rw [rr.length]; exact e⟩⟩
  obtain ⟨v, hv, rv⟩ := rr.get e
  refine ⟨⟨xs, v, h2, hv⟩, fun x H' ⟨eH, hx'⟩ => ?_⟩
  subst eH
  have := hx' xs h2
  rw [hv] at this
  cases this
  exact ⟨c2.I, o2, Go.refl _, rv⟩
theorem itOwn_enum {K : PySem.W.Frag} {p : Nat} {a : Addr} {ds0 : List D} : ItOwn K p a ds0 (Ite K a) (enumD ds0) := fun c2 o2 e2 w2 n => by
  obtain ⟨xs, h2, rr⟩ := own_list o2 e2 w2
  refine ⟨fun d e => ?_, fun e => ⟨xs, h2, by rw [rr.length]; simpa [enumD] using e⟩⟩
  unfold enumD at e
  rw [List.getElem?_mapIdx, Option.map_eq_some_iff] at e
  obtain ⟨d0, e1, rfl⟩ := e
  obtain ⟨v, hv, rv⟩ := rr.get e1
  refine ⟨⟨xs, v, h2, hv⟩, fun x H' ⟨T, z, ex, hT, eH, hz⟩ => ?_⟩
  have := hz xs h2
  rw [hv] at this
  cases this
  subst ex eH
  exact itOk_new o2 hT (.cons (.int _) (.one rv))
/-- what ps_for asks of such a loop -/
theorem own_loop {K : PySem.W.Frag} {p : Nat} {a : Addr} {ds0 es : List D} {J : It} {t : Tg} {fb : Fs} {D0 : Ends} {I : Hp} {g : Sg} {σ : L2.St} {H : Hp} (hJ : ItOwn K p a ds0 J es) (o : Ok K ⟨I, σ, H, g⟩) (ea : σ[p]? = some (some (.ref a))) (r : RemS K W ⟨I, σ, H, g⟩ (loopO p ds0 t fb es g) D0) :
    ∃ P : Nat → Nat → L2.St → Hp → Prop, (∃ m, P 0 m σ H) ∧ ∀ i m σ2 H2, P i m σ2 H2 → (J.stop i H2 ∧ D0.nx σ2 H2) ∨ (J.go i H2 ∧ ∃ P1 : L2.St → Hp → Prop, (∀ σ' H', P1 σ' H' → ∃ m', m' < m ∧ P (i + 1) m' σ' H') ∧
      ∀ x H', J.yld i H2 x H' → rdG K t x σ2 H' fun σ4 H4 => rdS K W fb { nx := P1, rt := D0.rt, bk := D0.nx, ct := P1 } σ4 H4) := by
  refine ⟨fun i m σ2 H2 => m = es.length - i ∧ i ≤ es.length ∧ ∃ I2 g2, Ok K ⟨I2, σ2, H2, g2⟩ ∧ Go ⟨I, σ, H, g⟩ ⟨I2, σ2, H2, g2⟩ ∧ RemS K W ⟨I2, σ2, H2, g2⟩ (loopO p ds0 t fb (es.drop i) g2) D0,
    ⟨es.length, by simp, Nat.zero_le _, I, g, o, Go.refl _, r⟩, ?_⟩
  rintro i m σ2 H2 ⟨rfl, hi', I2, g2, o2, y2, r2⟩
  have own2 : OwnT ds0 g2[p]? := by
    by_cases c : OwnT ds0 g2[p]?
    · exact c
    · exfalso
      cases q : es.drop i with
      | nil => rw [q] at r2; unfold loopO at r2; rw [if_neg c] at r2; exact r2
      | cons x y => rw [q] at r2; unfold loopO at r2; rw [if_neg c] at r2; exact r2
  have e2 : σ2[p]? = some (some (V.ref a)) := ((y2.tag p _ own2 rfl).2).trans ea
  obtain ⟨k1, k2⟩ := hJ ⟨I2, σ2, H2, g2⟩ o2 e2 own2 i
  by_cases hlt : i < es.length
  · obtain ⟨q1, q2⟩ := k1 es[i] (List.getElem?_eq_getElem hlt)
    refine .inr ⟨q1, fun σ3 H3 => ∃ I3 g3, Ok K ⟨I3, σ3, H3, g3⟩ ∧ Go ⟨I, σ, H, g⟩ ⟨I3, σ3, H3, g3⟩ ∧ RemS K W ⟨I3, σ3, H3, g3⟩ (loopO p ds0 t fb (es.drop (i + 1)) g3) D0,
      fun σ' H' ⟨I3, g3, o3, y3, r3⟩ => ⟨es.length - (i + 1), by omega, rfl, hlt, I3, g3, o3, y3, r3⟩, fun x H' hy => ?_⟩
    obtain ⟨I3, o3, y3, rv⟩ := q2 x H' hy
    rw [List.drop_eq_getElem_cons hlt] at r2
    unfold loopO at r2
    rw [if_pos own2] at r2
    split at r2
    · rename_i g4 e4
      refine ⟨I3, g2, es[i], o3, rv, g4, e4, fun σ4 o4 y4 _ => ?_⟩
      have y14 := y2.trans (y3.trans y4)
      refine ⟨I3, g4, o4, ?_⟩
      have r5 := RemS.go (y3.trans y4) r2
      cases q : fb g4 with
      | nx g5 => rw [q] at r5; exact fun I5 σ5 H5 o5 y5 => ⟨I5, g5, o5, y14.trans y5, RemS.go y5 r5⟩
      | ct g5 => rw [q] at r5; exact fun I5 σ5 H5 o5 y5 => ⟨I5, g5, o5, y14.trans y5, RemS.go y5 r5⟩
      | bk g5 => rw [q] at r5; exact r5
      | rt x g5 => rw [q] at r5; exact r5
      | exn c fs g5 => rw [q] at r5; exact r5
      | stuck => rw [q] at r5; exact r5
    · exact r2.elim
  · have e5 : i = es.length := by omega
    subst e5
    rw [List.drop_length] at r2
    unfold loopO at r2
    rw [if_pos own2] at r2
    exact .inl ⟨k2 (Nat.le_refl _), r2 I2 σ2 H2 o2 (Go.refl _)⟩
theorem PS.or {st : Stmt} {t t' : TS} (h : PS X st t) (h' : PS X st t') : PS X st (fun D σ H => t D σ H ∨ t' D σ H) := ⟨fun pins s σ H D I hw => hw.elim (h.run pins s σ H D I) (h'.run pins s σ H D I)⟩
theorem vs_forE {p : Nat} {e : Expr} {body : List Stmt} {t : Tg} {fb : Fs} {pp pos pos2 tpos : Pos} {elts : List Expr} {kk : Nat} (hp : PassesOwn (model X.prog X.w) X.A X.env X.xe) (hc : X.calm = true) (hv : PE X e (tVar p)) (hn : VE X W e (nameF p)) (hg : Gl X "enumerate") (hm : X.mg "enumerate" = none) (hG : VG X (.Tuple elts kk tpos) t) (hb : VSs X W body fb)
    (hst : starEach [e] X.env = [(false, eval e X.env)] := by rfl) (hs : ∀ x, foldedSetIterable (.Call (.Name "enumerate" pp) [e] [] pos2) X.env x = pure x := by intro _; rfl) : VS X W (.For (.Tuple elts kk tpos) (.Call (.Name "enumerate" pp) [e] [] pos2) body [] pos) (forE p t fb) := by
  refine ⟨ps_imp' (PS.or (ps_for hp hc (pi_enum hg hm (pa_cons hv pa_nil hst) hst) hG.pg hb.pss hs) (vs_for hp hc (vi_enum hg hm (va_cons hn va_nil hst) hst) hG hb hs).ps) fun D σ H ⟨I, g, o, r⟩ => ?_⟩
  unfold forE at r
  split at r
  · rename_i ds eg
    obtain ⟨a, ea, ow, na⟩ := o.own_at eg
    obtain ⟨us0, hu0, ru0⟩ := ow
    exact .inl ⟨.ref a, ea, a, us0, rfl, SqL.of hu0, own_loop (itOwn_enum (a := a)) o ea r⟩
  · exact .inr ⟨I, g, o, r⟩
theorem vs_forL {p : Nat} {tg e : Expr} {body : List Stmt} {t : Tg} {fb : Fs} {pos : Pos} (hp : PassesOwn (model X.prog X.w) X.A X.env X.xe) (hc : X.calm = true) (hv : PE X e (tVar p)) (hn : VE X W e (nameF p)) (hG : VG X tg t) (hb : VSs X W body fb)
    (hs : ∀ x, foldedSetIterable e X.env x = pure x := by intro _; rfl) : VS X W (.For tg e body [] pos) (forL p t fb) := by
  refine ⟨ps_imp' (PS.or (ps_for hp hc (pi_list hv) hG.pg hb.pss hs) (vs_for hp hc (vi_of hn) hG hb hs).ps) fun D σ H ⟨I, g, o, r⟩ => ?_⟩
  unfold forL at r
  split at r
  · rename_i ds eg
    obtain ⟨a, ea, ow, na⟩ := o.own_at eg
    obtain ⟨us0, hu0, ru0⟩ := ow
    exact .inl ⟨.ref a, ea, a, rfl, ⟨us0, SqL.of hu0⟩, own_loop (itOwn_list (a := a)) o ea r⟩
  · exact .inr ⟨I, g, o, r⟩
end
/-! ### by the mirrors -/
theorem loopO_nil {p : Nat} {ds0 : List D} {t : Tg} {body : Fs} {g : Sg} (h : g[p]? = some (.own true (.lst ds0))) : loopO p ds0 t body [] g = .nx g := by
  unfold loopO
  rw [if_pos (show OwnT ds0 g[p]? from h)]
theorem loopO_cons {p : Nat} {ds0 : List D} {t : Tg} {body : Fs} {g g1 g2 : Sg} {d : D} {r : List D} (h : g[p]? = some (.own true (.lst ds0))) (h1 : tgF t d g = some g1) (h2 : body g1 = .nx g2) : loopO p ds0 t body (d :: r) g = loopO p ds0 t body r g2 := by
  conv => lhs; unfold loopO
  rw [if_pos (show OwnT ds0 g[p]? from h), h1]
  simp only [h2]
theorem loopO_exn {p : Nat} {ds0 : List D} {t : Tg} {body : Fs} {g g1 g2 : Sg} {d : D} {r : List D} {c : Str} {fs : List (Str × D)} (h : g[p]? = some (.own true (.lst ds0))) (h1 : tgF t d g = some g1) (h2 : body g1 = .exn c fs g2) : loopO p ds0 t body (d :: r) g = .exn c fs g2 := by
  conv => lhs; unfold loopO
  rw [if_pos (show OwnT ds0 g[p]? from h), h1]
  simp only [h2]
/-- such a loop, an invariant -/
theorem loopO_inv {p : Nat} {ds0 : List D} {t : Tg} {body : Fs} (P : Sg → Prop) (hP : ∀ g, P g → g[p]? = some (.own true (.lst ds0))) : ∀ {ds : List D} {g : Sg}, P g → (∀ d ∈ ds, ∀ g, P g → ∃ g1, tgF t d g = some g1 ∧ ∃ g2, body g1 = .nx g2 ∧ P g2) → ∃ g', loopO p ds0 t body ds g = .nx g' ∧ P g'
  | [], g, h, _ => ⟨g, loopO_nil (hP g h), h⟩
  | d :: ds, g, h, s => by
    obtain ⟨g1, e1, g2, e2, h2⟩ := s d (.head _) g h
    obtain ⟨g', e3, h3⟩ := loopO_inv P hP (ds := ds) h2 fun d hd g hg => s d (.tail _ hd) g hg
    exact ⟨g', by rw [loopO_cons (hP g h) e1 e2]; exact e3, h3⟩
end Vl

set_option Elab.async false
set_option linter.all false
set_option maxRecDepth 100000
set_option maxHeartbeats 2000000
/-! the value layer: a list of anything against the empty list -/
namespace Vl
open PySem PySem.Spec PyProof.Rows L2 My
section
variable {X : Cx}
theorem op_neN (hu : X.A.units + 64 < cLine) : OpR X (compareOp .NotEq) (fun x y H Q => ∃ a b xs, x = V.ref a ∧ y = V.ref b ∧ SqL X.K H a xs ∧ SqL X.K H b [] ∧ Q (.bl (!xs.isEmpty)) H) := by
  intro pins s σ H x y v u Q I rx ry ⟨a, b, xs, ex, ey, ha, hb, q⟩
  subst ex ey
  cases rx
  cases ry
  obtain ⟨its, rv, pl, hz⟩ := I.list ha
  obtain ⟨jts, rw', ql, hz'⟩ := I.list hb
  cases rw'
  have fin : EP X pins σ Q (.bool (!xs.isEmpty)) s := ⟨.bl (!xs.isEmpty), H, I, rfl, q⟩
  show wpAny _ _ (richCompare .NotEq (.ref a) (.ref b)) _ _ _
  cases xs with
  | nil =>
    cases rv
    exact SeqAt.RcNeAt.lists (e := fun _ => true) pl.isList ql.isList rfl (by omega) (fun j h1 => absurd h1 (by simp)) _ _ _ _ fin
  | cons x t =>
    cases rv
    exact SeqAt.RcNeAt.lists_lengths pl.isList ql.isList (by simp) (by omega) _ _ _ _ fin
theorem op_eqN (hu : X.A.units + 64 < cLine) : OpR X (compareOp .Eq) (fun x y H Q => ∃ a b xs, x = V.ref a ∧ y = V.ref b ∧ SqL X.K H a xs ∧ SqL X.K H b [] ∧ Q (.bl xs.isEmpty) H) := by
  intro pins s σ H x y v u Q I rx ry ⟨a, b, xs, ex, ey, ha, hb, q⟩
  subst ex ey
  cases rx
  cases ry
  obtain ⟨its, rv, pl, hz⟩ := I.list ha
  obtain ⟨jts, rw', ql, hz'⟩ := I.list hb
  cases rw'
  have fin : EP X pins σ Q (.bool xs.isEmpty) s := ⟨.bl xs.isEmpty, H, I, rfl, q⟩
  show wpAny _ _ (richCompare .Eq (.ref a) (.ref b)) _ _ _
  cases xs with
  | nil =>
    cases rv
    exact SeqAt.RcAt.lists (e := fun _ => true) pl.isList ql.isList rfl (by omega) (fun j h1 => absurd h1 (by simp)) _ _ _ _ fin
  | cons x t =>
    cases rv
    exact SeqAt.RcAt.lists_lengths pl.isList ql.isList (by simp) (by omega) _ _ _ _ fin
end
def neN (a b : D) : Option RV := match a, b with
  | .lst xs, .lst [] => some (.val (.bl (!xs.isEmpty)))
  | _, _ => none
def eqN (a b : D) : Option RV := match a, b with
  | .lst xs, .lst [] => some (.val (.bl xs.isEmpty))
  | _, _ => none
section
variable {X : Cx}
theorem isEmptyR {K : PySem.W.Frag} {I : Hp} {vs : List V} {ds : List D} (r : Reps K I vs ds) : vs.isEmpty = ds.isEmpty := by cases r <;> rfl
theorem p_neN (hu : X.A.units + 65 < cLine) : P2 X (compareOp .NotEq) neN := by
  refine ⟨_, op_neN (X := X) (by omega), fun c v u a b Q o ra rb h => ?_⟩
  unfold neN at h
  split at h
  · rename_i xs
    obtain ⟨p, us, rfl, hp, rp⟩ := ra.lst o
    obtain ⟨q, ws, rfl, hq, rq⟩ := rb.lst o
    cases rq
    exact ⟨p, q, us, rfl, rfl, SqL.of hp, SqL.of hq, by rw [isEmptyR rp]; exact h.now o (.bl _)⟩
  · exact h.elim
theorem p_eqN (hu : X.A.units + 65 < cLine) : P2 X (compareOp .Eq) eqN := by
  refine ⟨_, op_eqN (X := X) (by omega), fun c v u a b Q o ra rb h => ?_⟩
  unfold eqN at h
  split at h
  · rename_i xs
    obtain ⟨p, us, rfl, hp, rp⟩ := ra.lst o
    obtain ⟨q, ws, rfl, hq, rq⟩ := rb.lst o
    cases rq
    exact ⟨p, q, us, rfl, rfl, SqL.of hp, SqL.of hq, by rw [isEmptyR rp]; exact h.now o (.bl _)⟩
  · exact h.elim
end
end Vl

set_option Elab.async false
set_option linter.all false
set_option maxRecDepth 100000
set_option maxHeartbeats 2000000
/-! the value layer: a, b, .. = a list -/
namespace Vl
open PySem PySem.Spec PyProof.Rows L2 My
section
variable {X : Cx} {W : WX}
def tgL : Tg → D → Sg → Option Sg
  | .tup ts, .lst ds, g => tgsF ts ds g
  | _, _, _ => none
def rdGl (K : PySem.W.Frag) (t : Tg) : TG := fun v σ H Q => ∃ I g d, Ok K ⟨I, σ, H, g⟩ ∧ Rep K I v d ∧ ∃ g', tgL t d g = some g' ∧ ∀ σ', Ok K ⟨I, σ', H, g'⟩ → Go ⟨I, σ, H, g⟩ ⟨I, σ', H, g'⟩ → Dif t.ns σ σ' → Q σ' H
structure VGl (X : Cx) (e : Expr) (t : Tg) : Prop where
  pg : PG X e (rdGl X.K t)
theorem vg_lst {es : List Expr} {k : Nat} {ts : List Tg} {pos : Pos} (hc : X.calm = true) (h : VGs X es ts)
    (hn : (assignEach es X.env).length = ts.length := by rfl) (hst : (assignEach es X.env).findIdx? (·.1) = none := by rfl) : VGl X (.Tuple es k pos) (.tup ts) := ⟨pg_imp (pg_lst hc h.pgs hn hst) fun v σ H Q ⟨I, g, d, o, r, g', e, k⟩ => by
  cases d <;> first | (cases e; done) | skip
  rename_i ds
  cases r with
  | lst hq rr =>
    have hl : ∀ (ts : List Tg) (ds : List D) (g g' : Sg), tgsF ts ds g = some g' → ds.length = ts.length := by
      intro ts
      induction ts with
      | nil => intro ds g g' e; cases ds with
        | nil => rfl
        | cons _ _ => cases e
      | cons t ts ih => intro ds g g' e; cases ds with
        | nil => cases e
        | cons d ds =>
          obtain ⟨g1, _, e2⟩ := Option.bind_eq_some_iff.mp e
          rw [List.length_cons, List.length_cons, ih ds g1 g' e2]
    exact ⟨_, _, rfl, SqL.of (o.sub _ _ hq), by rw [rr.length]; exact hl ts ds g g' e, I, g, ds, o, rr, g', e, k⟩⟩
/-- a, b = e, a list -/
def asgL (t : Tg) (f : Ft) : Fs := fun g => bindE (settle (f g)) fun x g1 => match frz1 x g1 with
  | some (d, g2) => (match tgL t d g2 with | some g3 => .nx g3 | none => .stuck)
  | none => .stuck
theorem vs_asgL {tg e : Expr} {t : Tg} {fe : Ft} {pos : Pos} (he : VE X W e fe) (hg : VGl X tg t) (hs : swapsWithSole [tg] e pos.line X.env = pure false := by rfl) (hw : swappedStores [tg] e X.env = pure none := by rfl)
    (h1 : (assignEach [tg] X.env).map (·.2) = [assign tg X.env] := by rfl) : VS X W (.Assign [tg] e pos) (asgL t fe) := ⟨ps_imp' (ps_asg he.pe hg.pg hs hw h1) fun D σ H ⟨I, g, o, r⟩ => by
  refine ⟨I, g, o, (RemS.settled r).mono ?_⟩
  rintro v H1 ⟨I1, g1, x, o1, y1, ⟨c', rx, nf⟩, r1⟩
  split at r1
  · rename_i d g2 e2
    obtain ⟨I2, o2, y2, rr⟩ := frz1_ok (c0 := c') o1 rx nf e2
    split at r1
    · rename_i g3 e3
      exact ⟨I2, g2, d, o2, rr, g3, e3, fun σ' o3 y3 _ => r1 I2 σ' H1 o3 ((y1.trans y2).trans y3)⟩
    · exact r1.elim
  · exact r1.elim⟩
end
end Vl

set_option Elab.async false
set_option linter.all false
set_option maxRecDepth 100000
set_option maxHeartbeats 2000000
/-! the value layer: o.nm(e, .., k = v, ..), an own def -/
namespace Vl
open PySem PySem.Spec PyProof.Rows L2 My
/-- the defs of that name, each with what R tells of it -/
structure MethR (K : PySem.W.Frag) (R : Addr → Nat → Fm → Prop) (j : Nat) (nm : Str) (ms : List (Str × Bool × Fm)) : Prop where
  ex : ∀ c b m, ms.lookup c = some (b, m) → ∃ (g : Addr) (k : Nat), k ≤ j ∧ R g k m ∧ Meth K (He.ga K c) nm g ∧ (b = false → Cls K (He.ga K c)) ∧ (b = true → SlX.SCls K (He.ga K c))
abbrev KalW (P : Program) (w : World) (K : PySem.W.Frag) (mg : Str → Option Value) (base : Heap) (n : Nat) (ks : List Str) (gD : List D → List D → List D) : Addr → Nat → Fm → Prop := fun g k m => ∃ gV, KCal P w K mg base k g (n + 1) ks gV (spV K m) ∧ ∀ I vs ds zs es, Reps K I vs ds → Reps K I zs es → Reps K I (gV vs zs) (gD ds es)
section
variable {K : PySem.W.Frag} {R : Addr → Nat → Fm → Prop} {j k : Nat} {c nm : Str} {m : Fm} {ms : List (Str × Bool × Fm)} {g : Addr}
theorem MethR.nil : MethR K R j nm [] := ⟨fun c b m h => nomatch h⟩
theorem MethR.pl (hk : k ≤ j) (hc : R g k m) (hm : Meth K (He.ga K c) nm g) (h : Cls K (He.ga K c)) (t : MethR K R j nm ms) : MethR K R j nm ((c, false, m) :: ms) := ⟨fun c' b m' e => by
  rw [List.lookup_cons] at e
  split at e
  · rename_i q
    cases e
    rw [eq_of_beq q]
    exact ⟨g, k, hk, hc, hm, fun _ => h, (fun z => nomatch z)⟩
  · exact t.ex c' b m' e⟩
theorem MethR.sl (hk : k ≤ j) (hc : R g k m) (hm : Meth K (He.ga K c) nm g) (h : SlX.SCls K (He.ga K c)) (t : MethR K R j nm ms) : MethR K R j nm ((c, true, m) :: ms) := ⟨fun c' b m' e => by
  rw [List.lookup_cons] at e
  split at e
  · rename_i q
    cases e
    rw [eq_of_beq q]
    exact ⟨g, k, hk, hc, hm, (fun z => nomatch z), fun _ => h⟩
  · exact t.ex c' b m' e⟩
theorem MethR.up {i : Nat} (h : MethR K R i nm ms) (hj : i ≤ j) : MethR K R j nm ms :=
  ⟨fun c b m e => let ⟨g, k, h1, h2⟩ := h.ex c b m e; ⟨g, k, Nat.le_trans h1 hj, h2⟩⟩
end
section
variable {X : Cx} {W : WX} {o e : Expr} {es : List Expr} {m : Str} {pos apos : Pos} {ta : TE} {t tk : TA} {j n : Nat} {pl : Sem Bool} {kws : List Keyword} {ks : List Str}
theorem px_methKw (he : PE X o ta) (ha : PA X (e :: es) t) (hkw : PK X kws tk) (hr : Room j X.A) (tkx : Takes X W)
    (hall : (backToKw pos (keywordEach kws X.env)).all (·.1.isSome) = true) (hks : (backToKw pos (keywordEach kws X.env)).filterMap (·.1) = ks)
    (hst : starEach (e :: es) X.env = (false, eval e X.env) :: starEach es X.env) (hpl : ((backTo pos (starEach (e :: es) X.env)).any (·.1) || (backToKw pos (keywordEach kws X.env)).any (·.1.isNone)) = false)
    (ht : eval (.Call (.Attribute o m apos) (e :: es) kws pos) X.env = (do
      let ov ← eval o X.env
      standAt apos.atName
      let (f, first) ← holding [ov] (getMethod ov m pl)
      callWith pos f first (backTo pos (starEach (e :: es) X.env)) (backToKw pos (keywordEach kws X.env)))) :
    PE X (.Call (.Attribute o m apos) (e :: es) kws pos) (fun σ H Q => ta σ H fun x H1 => ∃ (a g : Addr) (k : Nat) (sp : Sp) (gV : List V → List V → List V), x = .ref a ∧ MethAt X.K H1 a m g ∧ k ≤ j ∧ KCal X.prog X.w X.K X.mg X.base k g (n + 1) ks gV sp ∧
      t σ H1 fun vs H2 => tk σ H2 fun zs H3 => (x :: vs).length = n + 1 ∧ zs.length = ks.length ∧ sp (gV (x :: vs) zs) H3 Q (WE W σ)) := by
  refine ⟨fun pins s σ H Q I h => ?_⟩
  refine PySem.W.methodCall_KW (pl := pl) (thn (he.run pins s σ H _ I h) fun u s1 ⟨x, H1, I1, rx, a, g, k, sp, gV, ex, mk, hk, c, q⟩ => ?_) ht
  subst ex
  obtain rfl : u = Value.ref a := rx
  refine mk.ok I1 ?_
  refine PySem.W.callWith_KW (first := [.ref a]) (h₀ := X.base) I.ok.mod.kin mk.kp hall (thn (ha.run pos pins s1 σ H1 _ I1 q) fun us s2 ⟨vs, H2, I2, r, q2⟩ => ?_) hpl hst
  refine thn (hkw.run pos pins s2 σ H2 _ I2 q2) fun ws s3 ⟨zs, H3, I3, rz, l1, l2, q3⟩ => ⟨I3.kIn, ?_⟩
  rw [hks]
  exact c X pins σ H3 s3 (.ref a :: us) ws (.ref a :: vs) zs Q (WE W σ) rfl rfl rfl rfl rfl (hr.mono hk) (passAt tkx σ) I3 (.cons rfl r) rz l1 l2 q3
end
def methCK (gD : List D → List D → List D) (nm : Str) (ms : List (Str × Bool × Fm)) (n q : Nat) (fs fk : List Ft) (x : RV) (g1 : Sg) : Res RV := match (deref g1 x).bind (pickM nm ms) with
  | some m => (evA fs g1).bind fun rs g2 => if rs.length = n then (evA fk g2).bind fun ys g3 => kwK gD m (n + 1) q (x :: rs ++ ys) g3 else .stuck
  | none => .stuck
/-- o.nm(e, .., k = v, ..) -/
def methKw (gD : List D → List D → List D) (nm : Str) (ms : List (Str × Bool × Fm)) (n q : Nat) (fo : Ft) (fs fk : List Ft) : Ft := fun g => (settle (fo g)).bind (methCK gD nm ms n q fs fk)
section
variable {X : Cx} {W : WX} {o e : Expr} {es : List Expr} {nm : Str} {pos apos : Pos} {j n : Nat} {pl : Sem Bool} {ms : List (Str × Bool × Fm)} {fo : Ft} {fs fk : List Ft} {kws : List Keyword} {ks : List Str} {gD : List D → List D → List D}
theorem methR_at {R : Addr → Nat → Fm → Prop} {c : Cfg} {v : V} {d : D} {m : Fm} (k : MethR X.K R j nm ms) (o : Ok X.K c) (rd : RdD X.K c v d) (h : pickM nm ms d = some m) :
    ∃ (a g : Addr) (k : Nat), v = .ref a ∧ MethAt X.K c.H a nm g ∧ k ≤ j ∧ R g k m := by
  cases d <;> simp only [pickM] at h <;> first | cases h | skip
  · rename_i c fs
    split at h
    · rename_i hl
      split at h
      · rename_i m' el
        cases h
        obtain ⟨g, k', hk, hc, hm, hp, _⟩ := k.ex _ _ _ el
        obtain ⟨a, dx, us, rfl, ha, rf⟩ := rd.ins o
        exact ⟨a, g, k', rfl, .ins ha (rf.none (Option.isNone_iff_eq_none.mp hl)) (hp rfl) hm, hk, hc⟩
      · cases h
    · cases h
  · rename_i c vs
    split at h
    · rename_i m' el
      cases h
      obtain ⟨g, k', hk, hc, hm, _, hp⟩ := k.ex _ _ _ el
      obtain ⟨a, dx, us, rfl, ha, hd, rf⟩ := rd.slo o
      exact ⟨a, g, k', rfl, .slo (.inr ⟨ha, hd⟩) (hp rfl) hm, hk, hc⟩
    · cases h
theorem ve_methKw (k : MethR X.K (KalW X.prog X.w X.K X.mg X.base n ks gD) j nm ms) (hr : Room j X.A) (tk : Takes X W) (ho : VE X W o fo) (ha : VA X W (e :: es) fs) (hkw : VAK X W kws fk)
    (hall : (backToKw pos (keywordEach kws X.env)).all (·.1.isSome) = true := by rfl) (hks : (backToKw pos (keywordEach kws X.env)).filterMap (·.1) = ks := by rfl)
    (hst : starEach (e :: es) X.env = (false, eval e X.env) :: starEach es X.env := by rfl) (hpl : ((backTo pos (starEach (e :: es) X.env)).any (·.1) || (backToKw pos (keywordEach kws X.env)).any (·.1.isNone)) = false := by rfl)
    (ht : eval (.Call (.Attribute o nm apos) (e :: es) kws pos) X.env = (do
      let ov ← eval o X.env
      standAt apos.atName
      let (f, first) ← holding [ov] (getMethod ov nm pl)
      callWith pos f first (backTo pos (starEach (e :: es) X.env)) (backToKw pos (keywordEach kws X.env))) := by rfl) :
    VE X W (.Call (.Attribute o nm apos) (e :: es) kws pos) (methKw gD nm ms n ks.length fo fs fk) := by
  refine ⟨pe_imp (px_methKw (n := n) ho.pe ha.pa hkw.pk hr tk hall hks hst hpl ht) fun σ H Q ⟨I, g, o, r⟩ => ?_⟩
  refine ⟨I, g, o, Rem.settle ?_⟩
  have nf := nofr_of (f := fo) (g := g)
  unfold methKw at r
  revert nf r
  generalize settle (fo g) = sr
  intro r nf
  cases sr with
  | stuck => exact r
  | exn c fs' g' => exact r
  | ok x g1 =>
    intro I1 H1 v o1 y1 rx
    have r1 : Rem X.K W (RvR X.K) ⟨I1, σ, H1, g1⟩ (methCK gD nm ms n ks.length fs fk x g1) Q := Rem.go (c0 := ⟨I, σ, H, g⟩) (c1 := ⟨I1, σ, H1, g1⟩) y1 rfl r
    unfold methCK at r1
    cases ed : (deref g1 x).bind (pickM nm ms) with
    | none => rw [ed] at r1; exact r1.elim
    | some m =>
      rw [ed] at r1
      obtain ⟨d, hd, hm⟩ := Option.bind_eq_some_iff.mp ed
      obtain ⟨a, gg, k', rfl, mt, hk, gV, hc, hG⟩ := methR_at k o1 (deref_rd (c := ⟨I1, σ, H1, g1⟩) o1 rx hd) hm
      refine ⟨a, gg, k', _, gV, rfl, mt, hk, hc, I1, g1, o1, (Rem.bind (R := RvsR X.K) (r := evA fs g1) r1).mono ?_⟩
      rintro vs H2 ⟨I2, g2, rs, o2, y2, rr, r2⟩
      split at r2
      · rename_i hn
        refine ⟨I2, g2, o2, (Rem.bind (R := RvsR X.K) (r := evA fk g2) r2).mono ?_⟩
        rintro zs H3 ⟨I3, g3, ys, o3, y3, rz, r3⟩
        have rx2 := RvR.on (c1 := ⟨I1, σ, H1, g1⟩) o2 rfl y2 rx
        have rr2 : RvsR X.K ⟨I1, σ, H1, g1⟩ ⟨I2, σ, H2, g2⟩ (.ref a :: vs) (x :: rs) := .cons ⟨_, rx2, nf x g1 rfl⟩ rr
        exact kw_ok (n := n + 1) (c0 := ⟨I2, σ, H2, g2⟩) o3 (RvsR.on (c0 := ⟨I1, σ, H1, g1⟩) (c1 := ⟨I2, σ, H2, g2⟩) o3 rfl y3 rr2) rz (by rw [List.length_cons, hn]) hG r3
      · exact r2.elim
end
end Vl

set_option Elab.async false
set_option linter.all false
set_option maxRecDepth 100000
set_option maxHeartbeats 2000000
/-! the value layer: xs.index(n), a list of ints that holds n -/
namespace Vl
open PySem PySem.Spec PyProof.Rows L2 My
def lidxP : D → D → Option RV
  | .lst xs, .int n => (intsD xs).bind fun ns => (ns.findIdx? fun k => k == n).map fun j => .val (.int (j : Nat))
  | _, _ => none
def lidxF (fo fe : Ft) : Ft := fun g => (settle (fo g)).bind fun x g1 => match deref g1 x with
  | some (.lst _) => (settle (fe g1)).bind fun y g2 => lift2 lidxP x y g2
  | _ => .stuck
section
variable {X : Cx} {W : WX}
theorem ve_lindex {o e : Expr} {fo fe : Ft} {apos cpos : Pos} (ho : VE X W o fo) (he : VE X W e fe)
    (hbase : attributeBase o "index" X.env (eval o X.env) = eval o X.env := by rfl)
    (hfew : ((backTo cpos (starEach [e] X.env)).all (fun x => !x.1) && (backToKw cpos (keywordEach [] X.env)).all (fun x => x.1.isSome)
      && decide ([e].length + ([] : List Keyword).length + (if ([] : List Keyword).isEmpty then 0 else 1) < 30)) = true := by rfl)
    (hline : (apos.endLine == cpos.line) = true := by rfl) (hs : starEach [e] X.env = (false, eval e X.env) :: starEach [] X.env := by rfl) (hplain : (backTo cpos (starEach [] X.env)).any (·.1) = false := by rfl) :
    VE X W (.Call (.Attribute o "index" apos) [e] [] cpos) (lidxF fo fe) := by
  have pa : PA X [e] _ := pa_cons he.pe pa_nil hs
  refine ⟨pe_imp (pe_bm PySem.F.plainAttrs_list PySem.F.slot_list_index PySem.F.type_list_index mt_index ho.pe pa hbase hfew hline hs hplain) fun σ H Q ⟨I, g, ok, r⟩ => ?_⟩
  refine ⟨I, g, ok, Rem.settle ((Rem.bind (R := RvR X.K) r).mono ?_)⟩
  rintro v H1 ⟨I1, g1, x, o1, y1, rx, r1⟩
  split at r1
  · rename_i xs ex
    obtain ⟨p, us, rfl, hp, rp⟩ := (deref_rd o1 rx ex).lst o1
    refine ⟨.inl ⟨rfl, us, SqL.of hp⟩, ?_⟩
    refine ⟨I1, g1, o1, Rem.settle ((Rem.bind (R := RvR X.K) r1).mono ?_)⟩
    rintro u H2 ⟨I2, g2, y, o2, y2, ry, r2⟩
    obtain ⟨a, b, ra, rb, q⟩ := lift2_gives o2 (RvR.on (c1 := ⟨I1, σ, H1, g1⟩) o2 rfl y2 rx) ry r2
    unfold lidxP at q
    split at q
    · rename_i zs n
      obtain ⟨p2, us2, e2, hp2, rp2⟩ := ra.lst o2
      cases e2
      cases e : intsD zs with
      | none => rw [e] at q; exact q.elim
      | some ns =>
        rw [e] at q
        cases ej : ns.findIdx? fun k => k == n with
        | none => simp only [Option.bind_some, ej, Option.map_none] at q; exact q.elim
        | some j =>
          simp only [Option.bind_some, ej, Option.map_some] at q
          rw [reps_ints rp2 e] at hp2
          rw [rb.int]
          obtain ⟨hj, h1, h2⟩ := List.findIdx?_eq_some_iff_getElem.mp ej
          refine ⟨p, ns.map V.int, V.int n, j, V.int ns[j], rfl, rfl, SqL.of hp2, rfl, ?_, by rw [List.getElem?_map, List.getElem?_eq_getElem hj]; rfl, ?_, fun m z' hm hz => ?_, q.now o2 (.int _)⟩
          · rw [List.all_map, List.all_eq_true]
            intro _ _
            rfl
          · have : ns[j] = n := by simpa using h1
            rw [this]
            simp [eqV]
          · have hml : m < ns.length := by omega
            rw [List.getElem?_map, List.getElem?_eq_getElem hml] at hz
            cases hz
            have := h2 m hm
            have : ¬ ns[m] = n := by simpa using this
            simp [eqV, this]
    · exact q.elim
  · exact r1.elim
end
end Vl

set_option Elab.async false
set_option linter.all false
set_option maxRecDepth 100000
set_option maxHeartbeats 2000000
/-! the value layer: tuples of instances, compared by their own == -/
namespace Vl
open PySem PySem.Spec PyProof.Rows L2 My
section
open AutoSeq1 (wpAny_loadPart')
variable {prog : Program} {w : World} {A : Around} {E : Value → Shared → Prop}
theorem tuple_eqI {l b : Addr} {s : Shared} {items items2 : Array Value} {Q : Value → Shared → Prop} (P : List (Value × Value) → Shared → Prop)
    (hl : s.heap.IsTuple l items) (hb : s.heap.IsTuple b items2) (hu : A.units < cLine) (h0 : P (items.toList.zip items2.toList) s)
    (hE : ∀ x y rest s', P ((x, y) :: rest) s' → wpAny (model prog w) A.in1 (eqBool x y) (fun r s'' => (r = true ∧ P rest s'') ∨ (r = false ∧ Q (.bool false) s'')) E s')
    (h1 : ∀ s', P [] s' → Q (.bool (items.size == items2.size)) s') : wpAny (model prog w) A (richCompare .Eq (.ref l) (.ref b)) Q E s := by
  obtain ⟨⟨cls, dd, data, sl⟩, ho, hc, n, hd⟩ := id hl
  obtain ⟨⟨cls2, dd2, data2, sl2⟩, ho2, hc2, n2, hd2⟩ := id hb
  simp only at hc hd hc2 hd2
  subst hc hd hc2 hd2
  refine wpAny_richCompare_same_room (op := .Eq) ⟨_, ho, rfl⟩ ⟨_, ho2, rfl⟩ F.slot_tuple_eq (wpAny_call_entry F.slot_tuple_eq ⟨_, ho, rfl⟩ F.entry_tuple_eq ?_ (F.args_tuple_eq_2 _ _)) hu
  obtain ⟨hp, g, d, tk, os⟩ := s
  have f2 := AutoSeq1.sub_tuple_tuple
  wp_walk using wpAny_loadPart' ho, wpAny_loadPart' ho2, wpAny_forIn_list _ (fun rest b s' => b.1 = none ∧ P rest s') _
  case turn =>
    rintro ⟨y, x⟩ rest b s' ⟨hb', hP⟩
    refine wpAny_bind (wpAny_mono (hE y x rest s' hP) (fun r s'' hr => ?_) fun _ _ e => e)
    rcases hr with ⟨rfl, hr⟩ | ⟨rfl, hr⟩
    · wp_walk
      exact ⟨rfl, hr⟩
    · wp_walk
      exact ⟨_, rfl, (fun x => nomatch x), hr⟩
  case fin =>
    rintro ⟨b1, b2⟩ s' ⟨hb', hP⟩
    simp only at hb'
    subst hb'
    wp_walk
    exact ⟨_, rfl, (fun x => nomatch x), by simpa [Builtin.Tuple.tupleCompareSizes] using h1 s' hP⟩
  case h =>
    exact ⟨rfl, h0⟩
theorem eqBool_same {v : Value} {s : Shared} {Q : Bool → Shared → Prop} (h : Q true s) : wpAny (model prog w) A (eqBool v v) Q E s := by
  unfold eqBool
  refine wpAny_holding ?_
  refine wpAny_ite_split (fun _ => ?_) (fun hab => absurd (beq_self_eq_true v) hab)
  exact wpAny_bind (wpAny_rule (wpAny_pure h))
theorem eqBool_refs {l b : Addr} {s : Shared} {Q : Bool → Shared → Prop} (hne : l ≠ b) (h : wpAny (model prog w) A (richCompare .Eq (.ref l) (.ref b)) (fun v s' => ∃ k, v = .bool k ∧ Q k s') E s) : wpAny (model prog w) A (eqBool (.ref l) (.ref b)) Q E s := by
  unfold eqBool
  refine wpAny_holding ?_
  refine wpAny_ite_split (fun hab => absurd (by have := eq_of_beq hab; injection this) hne) (fun _ => ?_)
  exact wpAny_bind (wpAny_mono h (fun v s' ⟨k, e, q⟩ => by subst e; exact wpAny_truthy_bool q) fun _ _ e => e)
end
/-! ### the rows, one by one -/
def tEl (X : Cx) (W : WX) (σ : L2.St) (x y : V) (H : Hp) (Q : VK) : Prop := ∃ (k : Nat) (g : Addr) (sp : Sp), Callee X.prog X.w X.K X.mg X.base k g sp ∧ Room k X.A.in1 ∧
  (∀ (pins : List (Addr × Obj)) (s : Shared) (v' u' : Value) (Q : Value → Shared → Prop) (E : Value → Shared → Prop), Inv X pins σ H s → RelV x v' → RelV y u' → wpAny (model X.prog X.w) X.A.in1 (call (.ref g) [v', u']) (fun w s' => PySem.W.CmpBack Q w s' ∧ ∃ z, RelV z w ∧ True) E s →
      wpAny (model X.prog X.w) X.A.in1 (compareOp .Eq v' u') Q E s) ∧ sp [x, y] H Q (WE W σ)
def tEq (X : Cx) (W : WX) (σ : L2.St) : List V → List V → Hp → VK → Prop
  | [], [], H, Q => Q (.bl true) H
  | x :: xs, y :: ys, H, Q => (∃ p, x = .ref p) ∧ (∃ q, y = .ref q) ∧ (∀ (pins : List (Addr × Obj)) (s : Shared), Inv X pins σ H s → x = y → tEq X W σ xs ys H Q) ∧ (x ≠ y → tEl X W σ x y H fun z H' => ∃ b, z = .bl b ∧ (b = true → tEq X W σ xs ys H' Q) ∧ (b = false → Q (.bl false) H'))
  | _, _, H, Q => Q (.bl false) H
def rTup (X : Cx) (W : WX) : L2.St → R2 := fun σ v u H Q => ∃ a b xs ys, v = .ref a ∧ u = .ref b ∧ SqT X.K H a xs ∧ SqT X.K H b ys ∧ tEq X W σ xs ys H Q
theorem opS_tup {X : Cx} {W : WX} (hu : X.A.units < cLine) (tk : Takes X W) : OpS X (compareOp .Eq) (rTup X W) := by
  intro pins s σ H x y v u Q I rx ry ⟨a, b, xs, ys, ex, ey, ha, hb, q⟩
  subst ex ey
  cases rx
  cases ry
  obtain ⟨its, rv, pl, hz⟩ := I.tuple ha
  obtain ⟨jts, rw', ql, hz'⟩ := I.tuple hb
  show wpAny _ _ (richCompare .Eq (.ref a) (.ref b)) _ _ _
  refine tuple_eqI (fun rest s' => ∃ xs ys its' jts' H', rest = its'.zip jts' ∧ Vals xs its' ∧ Vals ys jts' ∧ Inv X pins σ H' s' ∧ tEq X W σ xs ys H' Q ∧ (its'.length == jts'.length) = (its.toArray.size == jts.toArray.size)) pl ql hu ⟨xs, ys, its, jts, H, by simp, rv, rw', I, q, by simp⟩ ?_ ?_
  · rintro x y rest s' ⟨xs, ys, its', jts', H', e, r1, r2, I', q', hs⟩
    cases r1 with
    | nil => simp at e
    | @cons x0 xs0 x' its0 hx r1 =>
    cases r2 with
    | nil => simp at e
    | @cons y0 ys0 y' jts0 hy r2 =>
    simp only [List.zip_cons_cons, List.cons.injEq, Prod.mk.injEq] at e
    obtain ⟨⟨rfl, rfl⟩, rfl⟩ := e
    obtain ⟨⟨p, hp⟩, ⟨q0, hq⟩, q1, q2⟩ := q'
    subst hp hq
    cases hx
    cases hy
    have hs' : (its0.length == jts0.length) = (its.toArray.size == jts.toArray.size) := by
      rw [← hs]
      simp
    by_cases pq : p = q0
    · subst pq
      exact eqBool_same (.inl ⟨rfl, _, _, _, _, H', rfl, r1, r2, I', q1 pins s' I' rfl, hs'⟩)
    · obtain ⟨k, g, sp, hc, room, run, hsp⟩ := q2 (fun z => pq (by injection z))
      refine eqBool_refs pq (run pins s' (.ref p) (.ref q0) _ _ I' rfl rfl ?_)
      refine wpAny_mono (call_at (A' := X.A.in1) rfl rfl hc room tk I' (.cons (show RelV (.ref p) (.ref p) from rfl) (.cons (show RelV (.ref q0) (.ref q0) from rfl) .nil)) hsp) (fun w s2 hw => ?_) fun _ _ e => e
      obtain ⟨z, H2, I2, rz, bb, rfl, hb1, hb2⟩ := hw
      cases rz
      refine ⟨?_, .bl bb, rfl, trivial⟩
      refine ⟨bb, rfl, ?_⟩
      cases bb with
      | true => exact .inl ⟨rfl, _, _, _, _, H2, rfl, r1, r2, I2, hb1 rfl, hs'⟩
      | false => exact .inr ⟨rfl, .bl false, H2, I2, rfl, hb2 rfl⟩
  · rintro s' ⟨xs, ys, its', jts', H', e, r1, r2, I', q', hs⟩
    rw [← hs]
    cases r1 with
    | nil =>
      cases r2 with
      | nil => exact ⟨.bl true, H', I', rfl, q'⟩
      | cons hy r2 => exact ⟨.bl false, H', I', rfl, q'⟩
    | cons hx r1 =>
      cases r2 with
      | nil => exact ⟨.bl false, H', I', rfl, q'⟩
      | cons hy r2 => simp at e
/-! ### told by trees -/
def flatO : Option D → Bool
  | none => false
  | some d => flatD d
def flatS : D → Bool
  | .slo _ vs => vs.all flatO
  | _ => false
theorem rep_flat_eq {K : PySem.W.Frag} {I : Hp} {v : V} {a b : D} (ra : Rep K I v a) (rb : Rep K I v b) (fa : flatD a = true) (fb : flatD b = true) : a = b := by
  cases a <;> simp only [flatD] at fa <;> first | cases fa | skip
  all_goals (cases b <;> simp only [flatD] at fb <;> first | cases fb | skip)
  all_goals (cases ra <;> cases rb <;> rfl)
theorem repO_flat_eq {K : PySem.W.Frag} {I : Hp} {sl : Array (Option Value)} : ∀ {us vs : List (Option V)} {as bs : List (Option D)} (k : Nat), RepO K I us as → RepO K I vs bs → as.all flatO = true → bs.all flatO = true → as.length = bs.length →
    (∀ (i : Nat) (v : V), us[i]? = some (some v) → ∃ u, sl[k + i]? = some (some u) ∧ RelV v u) → (∀ (i : Nat) (v : V), vs[i]? = some (some v) → ∃ u, sl[k + i]? = some (some u) ∧ RelV v u) → as = bs
  | _, _, _, _, k, .nil, .nil, _, _, _, _, _ => rfl
  | _, _, _, _, k, .nil, .non _, _, _, hl, _, _ => by simp at hl
  | _, _, _, _, k, .nil, .cons _ _, _, _, hl, _, _ => by simp at hl
  | _, _, _, _, k, .non _, .nil, _, _, hl, _, _ => by simp at hl
  | _, _, _, _, k, .cons _ _, .nil, _, _, hl, _, _ => by simp at hl
  | _, _, _, _, k, .non _, _, fa, _, _, _, _ => by simp [flatO] at fa
  | _, _, _, _, k, _, .non _, _, fb, _, _, _ => by simp [flatO] at fb
  | _, _, _, _, k, .cons (v := v) ha ta, .cons (v := u) hb tb, fa, fb, hl, r1, r2 => by
    simp only [List.all_cons, Bool.and_eq_true] at fa fb
    obtain ⟨w1, e1, q1⟩ := r1 0 v rfl
    obtain ⟨w2, e2, q2⟩ := r2 0 u rfl
    rw [e1] at e2
    have e3 : w1 = w2 := by injection (Option.some.inj e2)
    subst e3
    have e4 := q1.inj q2
    subst e4
    rw [rep_flat_eq ha hb fa.1 fb.1, repO_flat_eq (k + 1) ta tb fa.2 fb.2 (by simpa using hl) (fun i v h => by rw [Nat.add_assoc, Nat.add_comm 1 i]; exact r1 (i + 1) v h) (fun i v h => by rw [Nat.add_assoc, Nat.add_comm 1 i]; exact r2 (i + 1) v h)]
def lenS : D → Nat
  | .slo _ vs => vs.length
  | _ => 0
open Classical in
noncomputable def eqTK (ms : List (Str × Bool × Fm)) : List D → List D → Sg → Res RV
  | [], [], g => .ok (.val (.bl true)) g
  | a :: as, b :: bs, g => if flatS a = true ∧ flatS b = true ∧ clsN a = clsN b ∧ lenS a = lenS b then (match owC "__eq__" ms a b with
      | some (m, false) => (match settle (callK m [.val a, .val b] g) with
        | .ok (.val (.bl r)) g1 => if g1 = g ∧ (a = b → r = true) then (if r = true then eqTK ms as bs g else .ok (.val (.bl false)) g) else .stuck
        | _ => .stuck)
      | _ => .stuck) else .stuck
  | _, _, g => .ok (.val (.bl false)) g
noncomputable def eqTX (ms : List (Str × Bool × Fm)) (x y : RV) (g : Sg) : Res RV := match deref g x, deref g y with
  | some (.tup as), some (.tup bs) => eqTK ms as bs g
  | _, _ => .stuck
noncomputable def eqTF (ms : List (Str × Bool × Fm)) (fa fb : Ft) : Ft := fun g => (settle (fa g)).bind fun x g1 => (settle (fb g1)).bind fun y g2 => eqTX ms x y g2
section
variable {X : Cx} {W : WX} {ms : List (Str × Bool × Fm)} {j : Nat}
theorem flat_slo_eq {pins : List (Addr × Obj)} {s : Shared} {c : Cfg} {v : V} {a b : D} (o : Ok X.K c) (I : Inv X pins c.σ c.H s) (ra : Rep X.K c.I v a) (rb : Rep X.K c.I v b) (fa : flatS a = true) (fb : flatS b = true) (hc : clsN a = clsN b) (hl : lenS a = lenS b) : a = b := by
  cases a <;> simp only [flatS] at fa <;> first | cases fa | skip
  cases b <;> simp only [flatS] at fb <;> first | cases fb | skip
  rename_i x as y bs
  have e : x = y := by simpa [clsN] using hc
  subst e
  cases ra with
  | slo h hd r =>
    cases rb with
    | slo h' hd' r' =>
      obtain ⟨_, sl, _, g1, s1, _⟩ := SlX.slt_at I (.inr ⟨o.sub _ _ h, o.sub _ _ hd⟩)
      obtain ⟨_, sl', _, g2, s2, _⟩ := SlX.slt_at I (.inr ⟨o.sub _ _ h', o.sub _ _ hd'⟩)
      rw [g1] at g2
      have e2 : sl = sl' := by
        have := Option.some.inj g2
        exact congrArg Obj.slots this
      subst e2
      rw [repO_flat_eq (sl := sl) 0 r r' fa fb hl (fun i v h => by rw [Nat.zero_add]; exact s1 i v h) (fun i v h => by rw [Nat.zero_add]; exact s2 i v h)]
theorem tEq_of (wo : OwnB { X with A := X.A.in1 } (compareOp .Eq) (fun _ => True) (owC "__eq__" ms)) {Q : VK} : ∀ {as bs : List D} {xs ys : List V} {c : Cfg}, Ok X.K c → Reps X.K c.I xs as → Reps X.K c.I ys bs → Rem X.K W (RvR X.K) c (eqTK ms as bs c.g) Q → tEq X W c.σ xs ys c.H Q
  | [], [], _, _, c, o, .nil, .nil, h => by
    unfold eqTK at h
    exact h c.I c.H (.bl true) o (Go.refl _) (.bl _)
  | [], _ :: _, _, _, c, o, .nil, .cons _ _, h => by
    unfold eqTK at h
    exact h c.I c.H (.bl false) o (Go.refl _) (.bl _)
  | _ :: _, [], _, _, c, o, .cons _ _, .nil, h => by
    unfold eqTK at h
    exact h c.I c.H (.bl false) o (Go.refl _) (.bl _)
  | a :: as, b :: bs, x :: xs, y :: ys, c, o, .cons ha ta, .cons hb tb, h => by
    unfold eqTK at h
    split at h
    · rename_i hf
      obtain ⟨fa, fb, hc, hl⟩ := hf
      split at h
      · rename_i m em
        obtain ⟨k, g, hcal, room, run⟩ := wo.ok c x y a b m false o (.inl ha) (.inl hb) em
        split at h
        · rename_i r g1 es
          split at h
          · rename_i hg
            obtain ⟨rfl, hr⟩ := hg
            have refA : ∃ p, x = .ref p := by
              cases a <;> simp only [flatS] at fa <;> first | cases fa | skip
              cases ha
              exact ⟨_, rfl⟩
            have refB : ∃ p, y = .ref p := by
              cases b <;> simp only [flatS] at fb <;> first | cases fb | skip
              cases hb
              exact ⟨_, rfl⟩
            refine ⟨refA, refB, fun pins s I e => ?_, fun ne => ?_⟩
            · subst e
              have r1 := hr (flat_slo_eq o I ha hb fa fb hc hl)
              rw [if_pos r1] at h
              exact tEq_of wo o ta tb h
            · refine ⟨k, g, _, hcal, room, fun pins s v' u' Q E I rv ru hw => run pins s v' u' Q E (inv_at rfl rfl I) rv ru hw, call_sp (c0 := c) (I := c.I) (H := c.H) (σ := c.σ) (g := c.g) o (rs := [.val a, .val b]) (.cons ⟨c, ha, fun d q => nomatch q⟩ (.cons ⟨c, hb, fun d q => nomatch q⟩ .nil)) ?_⟩
              refine Rem.settle ?_
              rw [es]
              intro I1 H1 v o1 y1 rv
              cases rv
              refine ⟨r, rfl, fun hr1 => ?_, fun hr0 => ?_⟩
              · rw [if_pos hr1] at h
                exact tEq_of wo (c := ⟨I1, c.σ, H1, c.g⟩) o1 (ta.mono y1.sub) (tb.mono y1.sub) (Rem.go (c0 := c) (c1 := ⟨I1, c.σ, H1, c.g⟩) y1 rfl h)
              · rw [hr0] at h
                exact h I1 H1 (.bl false) o1 y1 (.bl _)
          · exact h.elim
        · exact h.elim
      · exact h.elim
    · exact h.elim
theorem ve_eqT {a b : Expr} {fa fb : Ft} {pos : Pos} (hr : Room (j + 1) X.A) (tk : Takes X W) (mk : MethK X.prog X.w X.K X.mg X.base j "__eq__" ms) (ha : VE X W a fa) (hb : VE X W b fb) (hm : behindInMarks .Eq b = false) : VE X W (.Compare a [.Eq] [b] pos) (eqTF ms fa fb) := by
  have os := opS_tup (X := X) (W := W) hr.units0 tk
  have wo : OwnB { X with A := X.A.in1 } (compareOp .Eq) (fun _ => True) (owC "__eq__" ms) := ownB_cmp (X := { X with A := X.A.in1 }) hr.in1 mk
  refine ⟨pe_imp (t := tOpS (rTup X W) (rdE X.K W fa) (rdE X.K W fb)) ⟨fun pins s σ H Q I h => ?_⟩ fun σ H Q q => ?_⟩
  · exact wpAny_Compare1 (binT ha.pe hb.pe I h fun v u s2 x y H2 I2 rx ry q => os pins s2 σ H2 x y v u Q I2 rx ry q) hm
  · refine rd2S (kk := eqTX ms) q fun c c1 c3 v u x y e o rx ry nx ny h => ?_
    unfold eqTX at h
    split at h
    · rename_i as bs ea eb
      have ra := deref_rd o rx ea
      have rb := deref_rd o ry eb
      obtain ⟨p, us, rfl, hp, rp⟩ := ra.tup o
      obtain ⟨q, ws, rfl, hq, rq⟩ := rb.tup o
      have := tEq_of wo o rp rq h
      rw [e] at this
      exact ⟨p, q, us, ws, rfl, rfl, hp, hq, this⟩
    · exact h.elim
end
end Vl

set_option Elab.async false
set_option linter.all false
set_option maxRecDepth 100000
set_option maxHeartbeats 2000000
/-! the value layer: what an expression gives, called -/
namespace Vl
open PySem PySem.Spec PyProof.Rows L2 My
section
variable {X : Cx} {W : WX} {x : Str} {p pos : Pos} {e : Expr} {es : List Expr} {j n : Nat} {ms : List (Str × Bool × Fm)} {fo : Ft} {fs fk : List Ft} {ks : List Str} {gD : List D → List D → List D} {kws : List Keyword}
theorem ve_icallE {f : Expr} (k : CalR X.K (CalP X.prog X.w X.K X.mg X.base) j ms) (hr : Room j X.A) (tk : Takes X W) (ho : VE X W f fo) (ha : VA X W (e :: es) fs)
    (hst : starEach (e :: es) X.env = (false, eval e X.env) :: starEach es X.env := by rfl) (hpl : (backTo pos (starEach es X.env)).any (·.1) = false := by rfl)
    (hf : eval (.Call f (e :: es) [] pos) X.env = (do callWith pos (← eval f X.env) [] (backTo pos (starEach (e :: es) X.env)) (backToKw pos (keywordEach [] X.env))) := by rfl) :
    VE X W (.Call f (e :: es) [] pos) (icallM ms fo fs) := by
  refine ⟨⟨fun pins s σ H Q I ⟨J, g, o, r⟩ => ?_⟩⟩
  have nf := nofr_of (f := fo) (g := g)
  unfold icallM at r
  have step : rdE X.K W fo σ H fun v H1 => ∃ p, v = .ref p ∧ rdA X.K W fs σ H1 fun vs H2 => ∃ (g : Addr) (k : Nat) (sp : Sp) (y : Str), k ≤ j ∧ (∀ n, CodC X.prog X.w X.K X.mg X.base k g n [] (fun vs _ => vs) sp) ∧ Meth X.K (He.ga X.K y) "__call__" g ∧
      (∀ (pins : List (Addr × Obj)) (s : Shared), Inv X pins σ H2 s → ∃ (dx : Addr) (sl : Array (Option Value)) (od : Obj), PySem.W.InstAt s.heap p ⟨.ref (He.ga X.K y), some dx, .plain, sl⟩ (He.ga X.K y) (some od)) ∧ sp (.ref p :: vs) H2 Q (WE W σ) := by
    refine ⟨J, g, o, Rem.settle ?_⟩
    revert nf r
    generalize settle (fo g) = sr
    intro r nf
    cases sr with
    | stuck => exact r
    | exn c fs' g' => exact r
    | ok xx g1 =>
      intro I1 H1 v o1 y1 rx
      have r1 := Rem.go (c0 := ⟨J, σ, H, g⟩) (c1 := ⟨I1, σ, H1, g1⟩) y1 rfl r
      dsimp only [Res.bind] at r1
      split at r1
      · rename_i hi
        obtain ⟨pp, rfl⟩ := isIns_ref (c := ⟨I1, σ, H1, g1⟩) o1 rx hi
        refine ⟨pp, rfl, I1, g1, o1, (Rem.bind (R := RvsR X.K) (r := evA fs g1) r1).mono ?_⟩
        rintro vs H2 ⟨I2, g2, rs, o2, y2, rr, r2⟩
        unfold icallC at r2
        cases ed : (deref g2 xx).bind (pickM "__call__" ms) with
        | none => rw [ed] at r2; exact r2.elim
        | some m =>
          rw [ed] at r2
          obtain ⟨d, hd, hm⟩ := Option.bind_eq_some_iff.mp ed
          have rx2 := RvR.on (c1 := ⟨I1, σ, H1, g1⟩) o2 rfl y2 rx
          obtain ⟨p', g', k', y, e', hk, hc, hmt, hI⟩ := cal_k k o2 (deref_rd (c := ⟨I2, σ, H2, g2⟩) o2 rx2 hd) hm
          cases e'
          exact ⟨g', k', _, y, hk, hc, hmt, hI, call_sp (c0 := ⟨I1, σ, H1, g1⟩) o2 (.cons ⟨_, rx2, nf xx g1 rfl⟩ rr) r2⟩
      · exact r1.elim
  show wpAny _ _ (eval (.Call f (e :: es) [] pos) X.env) _ _ _
  rw [hf]
  refine wpAny_bind (thn (ho.pe.run pins s σ H _ I step) fun u s1 ⟨v, H1, I1, ru, p, ev, h2⟩ => ?_)
  subst ev
  cases ru
  have hp2 : ((backTo pos (starEach (e :: es) X.env)).any (·.1) || (backToKw pos (keywordEach [] X.env)).any (·.1.isNone)) = false := by
    rw [hst]
    show ((false || (backTo pos (starEach es X.env)).any (·.1)) || false) = false
    rw [hpl]
    rfl
  refine icallWith_of hp2 ?_
  have run := ha.pa.run pos pins s1 σ H1 _ I1 h2
  rw [hst] at run ⊢
  refine Calls.evalArgs_plain (thn run fun us s2 ⟨vs, H2, I2, r2, g, k', sp, y, hk, hc, hmt, hI, hs⟩ => ?_)
  obtain ⟨dx, sl, od, J2⟩ := hI pins s2 I2
  exact ⟨⟨_, _, _, rfl, J2⟩, icall_run (n := vs.length) (ws := []) (zs := []) (gV := fun vs _ => vs) I2 J2 hmt (hc _) (hr.mono hk) tk r2 .nil rfl rfl hs⟩
end
end Vl

set_option Elab.async false
set_option linter.all false
set_option maxRecDepth 100000
set_option maxHeartbeats 2000000
/-! the value layer: zip of three lists -/
namespace Vl
open PySem PySem.Spec PyProof.Rows L2 My
def Itz3 (K : PySem.W.Frag) (a b d : Addr) (xs ys us : List V) : It :=
  ⟨fun i H => SqL K H a xs ∧ SqL K H b ys ∧ SqL K H d us ∧ i < xs.length ∧ i < ys.length ∧ i < us.length,
    fun i H v H' => ∃ T x y u, v = .ref T ∧ H T = none ∧ H' = upd H T (.tup [x, y, u]) ∧ xs[i]? = some x ∧ ys[i]? = some y ∧ us[i]? = some u,
    fun i H => SqL K H a xs ∧ SqL K H b ys ∧ SqL K H d us ∧ (xs.length ≤ i ∨ ys.length ≤ i ∨ us.length ≤ i)⟩
def ZipSt3 (a b d : Addr) (n m1 m2 m3 : Nat) (i : Nat) (h : Heap) : Prop :=
  IsZip h (n + 5) (n + 3) (n + 4) .none ∧ IsTupOf3 h (n + 3) (.ref n) (.ref (n + 1)) (.ref (n + 2)) ∧ (∃ x y u, IsTupOf3 h (n + 4) x y u) ∧ h.IsListIter n a i ∧ h.IsListIter (n + 1) b i ∧ h.IsListIter (n + 2) d i ∧ i ≤ m1 ∧ i ≤ m2 ∧ i ≤ m3
def zipFp3 (n : Nat) : List Addr := [n, n + 1, n + 2, n + 3, n + 4, n + 5]
theorem zipFp3_mem {n c : Nat} : c ∈ zipFp3 n ↔ n ≤ c ∧ c ≤ n + 5 := by
  unfold zipFp3
  simp only [List.mem_cons, List.not_mem_nil, or_false]
  omega
theorem nex5 {c n : Nat} (h : n ≤ c) (h' : c ≤ n + 5) : ∃ j, c = n + j ∧ j ≤ 5 := ⟨c - n, by omega, by omega⟩
theorem nbig5 {n m j : Nat} (h : n + 5 < m) (hj : j ≤ 5) : m ≠ n + j := by omega
theorem sep3 {n a b d : Nat} (ha : a < n) (hb : b < n) (hd : d < n) : ZipSep3 (n + 5) (n + 3) (n + 4) n (n + 1) (n + 2) [n, a] [n + 1, b] [n + 2, d] :=
  zip_sep3 (N := n) (fp1 := [a]) (fp2 := [b]) (fp3 := [d]) (fun x h => by rw [List.mem_singleton] at h; rw [h]; exact ha) (fun x h => by rw [List.mem_singleton] at h; rw [h]; exact hb) (fun x h => by rw [List.mem_singleton] at h; rw [h]; exact hd)
theorem turn_zip3 {P : Program} {w : World} {K : PySem.W.Frag} {elts : List Expr} {kk : Nat} {tpos : Pos} {n a b d : Nat} {xs ys zs : List V} (ha : a < n) (hb : b < n) (hd : d < n) :
    Turn P w K (.Tuple elts kk tpos) (Itz3 K a b d xs ys zs) (zipFp3 n) (n + 5) (ZipSt3 a b d n xs.length ys.length zs.length) where
  mem := zipFp3_mem.mpr ⟨by omega, by omega⟩
  obj := by
    rintro i h ⟨hz, hI, ⟨x, y, u, hO⟩, ⟨o1, e1, _, d1⟩, ⟨o2, e2, _, d2⟩, ⟨o3, e3, _, d3⟩, _⟩ c hc
    obtain ⟨h1, h2⟩ := zipFp3_mem.mp hc
    obtain ⟨j, rfl, h2⟩ := nex5 h1 h2
    match j, h2 with
    | 0, _ => exact ⟨o1, e1, fun v q => by rw [d1] at q; cases q⟩
    | 1, _ => exact ⟨o2, e2, fun v q => by rw [d2] at q; cases q⟩
    | 2, _ => exact ⟨o3, e3, fun v q => by rw [d3] at q; cases q⟩
    | 3, _ => exact ⟨_, hI, fun v q => nomatch q⟩
    | 4, _ => exact ⟨_, hO, fun v q => nomatch q⟩
    | 5, _ => exact ⟨_, hz, fun v q => nomatch q⟩
    | j + 6, h => exact absurd h (by omega)
  keep := by
    rintro i h h' ⟨hz, hI, ⟨x, y, u, hO⟩, h1, h2, h3, l1, l2, l3⟩ k
    have kk : ∀ j, j ≤ 5 → ∀ o, h.get? (n + j) = some o → h'.get? (n + j) = some o := fun j hj => k (n + j) (zipFp3_mem.mpr ⟨Nat.le_add_right _ _, Nat.add_le_add_left hj _⟩)
    exact ⟨kk 5 (by decide) _ hz, kk 3 (by decide) _ hI, ⟨x, y, u, kk 4 (by decide) _ hO⟩, h1.at fun o q => kk 0 (by decide) o q, h2.at fun o q => kk 1 (by decide) o q, h3.at fun o q => kk 2 (by decide) o q, l1, l2, l3⟩
  item := by
    rintro X rfl rfl rfl hc i pins s σ H E I hf ⟨hz, hI, ⟨x0, y0, u0, hO⟩, h1, h2, h3, l1, l2, l3⟩ ⟨hx, hy, hu, g1, g2, g3⟩
    obtain ⟨us, ru, pu, _⟩ := I.list hx
    obtain ⟨ws, rw_, pw, _⟩ := I.list hy
    obtain ⟨ts, rt, pt, _⟩ := I.list hu
    have hh : X.A.in1.handled = none := I.ok.hd hc
    have e1 : us.toArray.size = xs.length := ru.length.symm
    have e2 : ws.toArray.size = ys.length := rw_.length.symm
    have e3 : ts.toArray.size = zs.length := rt.length.symm
    have big : n + 5 < s.heap.objs.size := Heap.lt_size (a := n + 5) hz
    refine wpAny_pyNext_zipD3_item (sep3 ha hb hd) (Draws.list hh n a (Nat.ne_of_lt ha) us.toArray) (Draws.list hh (n + 1) b (fun e => nlt (j := 1) hb e.symm) ws.toArray) (Draws.list hh (n + 2) d (fun e => nlt (j := 2) hd e.symm) ts.toArray) hz hI hO ⟨h1, pu.isList⟩ ⟨h2, pw.isList⟩ ⟨h3, pt.isList⟩ (by omega) (by omega) (by omega) fun u1 u2 u3 h' tk q1 q2 q3 z' O' s1 s2 s3 hT hsz hk => ?_
    obtain ⟨x, ex⟩ : ∃ x, xs[i]? = some x := ⟨_, List.getElem?_eq_getElem g1⟩
    obtain ⟨y, ey⟩ : ∃ y, ys[i]? = some y := ⟨_, List.getElem?_eq_getElem g2⟩
    obtain ⟨u, eu⟩ : ∃ u, zs[i]? = some u := ⟨_, List.getElem?_eq_getElem g3⟩
    obtain ⟨v1, f1, r1⟩ := ru.get ex
    obtain ⟨v2, f2, r2⟩ := rw_.get ey
    obtain ⟨v3, f3, r3⟩ := rt.get eu
    have q1' : us[i]? = some u1 := by simpa using q1
    have q2' : ws[i]? = some u2 := by simpa using q2
    have q3' : ts[i]? = some u3 := by simpa using q3
    rw [f1] at q1'
    rw [f2] at q2'
    rw [f3] at q3'
    cases q1'
    cases q2'
    cases q3'
    refine ⟨_, rfl, wpAny_letOwnedTupleGo_zip (s := { s with heap := h', toks := tk }) z' fun h2' z2 sb => ?_⟩
    have old : ∀ c o, c ∉ zipFp3 n → s.heap.get? c = some o → h2'.get? c = some o := fun c o nc q => by
      have nz : ∀ j, j ≤ 5 → c ≠ n + j := fun j hj e => nc (by rw [e]; exact zipFp3_mem.mpr ⟨Nat.le_add_right _ _, Nat.add_le_add_left hj _⟩)
      exact (sb.2 c (nz 5 (by decide))).trans (hk c o (nz 5 (by decide)) (nz 4 (by decide)) (nz 0 (by decide)) (nz 1 (by decide)) (nz 2 (by decide)) q)
    have hT2 : h2'.get? s.heap.objs.size = some { cls := .type "tuple", data := .seq #[u1, u2, u3] } := (sb.2 _ (nbig5 big (by decide))).trans hT
    have fresh : H s.heap.objs.size = none := I.hok.fresh (Nat.le_refl _)
    have I1 : Inv X pins σ (upd H s.heap.objs.size (.tup [x, y, u])) { s with heap := h2', toks := tk } :=
      I.turnedNew (ch := zipFp3 n) old hf (Nat.le_refl _) ⟨by show 3 ≤ sizeLine; decide, [u1, u2, u3], .cons r1 (.cons r2 (.cons r3 .nil)), ⟨_, hT2, rfl, _, rfl⟩⟩
    have ne5 : ∀ c o, c ≠ n + 5 → h'.get? c = some o → h2'.get? c = some o := fun c o nc q => (sb.2 c nc).trans q
    refine ⟨.ref s.heap.objs.size, _, I1, rfl, ⟨_, x, y, u, rfl, fresh, rfl, ex, ey, eu⟩, ⟨z2, ne5 _ _ (nadd (by decide)) ?_, ⟨u1, u2, u3, ne5 _ _ (nadd (by decide)) O'⟩, s1.1.at fun o q => ne5 _ o (nadd (i := 0) (by decide)) q, s2.1.at fun o q => ne5 _ o (nadd (by decide)) q, s3.1.at fun o q => ne5 _ o (nadd (by decide)) q, g1, g2, g3⟩, fun c hcm => ?_⟩
    · exact hk _ _ (nadd (by decide)) (nadd (by decide)) (nadd (j := 0) (by decide)) (nadd (by decide)) (nadd (by decide)) hI
    · have hcm' := zipFp3_mem.mp hcm
      obtain ⟨j, rfl, hj⟩ := nex5 hcm'.1 hcm'.2
      rw [upd_ne (fun e => nbig5 big hj e.symm)]
      exact (hf _ hcm).1
  done := by
    rintro X rfl rfl rfl hc i pins s σ H E I hf ⟨hz, hI, ⟨x0, y0, u0, hO⟩, h1, h2, h3, l1, l2, l3⟩ ⟨hx, hy, hu, hend⟩
    obtain ⟨us, ru, pu, _⟩ := I.list hx
    obtain ⟨ws, rw_, pw, _⟩ := I.list hy
    obtain ⟨ts, rt, pt, _⟩ := I.list hu
    have hh : X.A.in1.handled = none := I.ok.hd hc
    have e1 : us.toArray.size = xs.length := ru.length.symm
    have e2 : ws.toArray.size = ys.length := rw_.length.symm
    have e3 : ts.toArray.size = zs.length := rt.length.symm
    refine wpAny_pyNext_zipD3_end (sep3 ha hb hd) (Draws.list hh n a (Nat.ne_of_lt ha) us.toArray) (Draws.list hh (n + 1) b (fun e => nlt (j := 1) hb e.symm) ws.toArray) (Draws.list hh (n + 2) d (fun e => nlt (j := 2) hd e.symm) ts.toArray) hz hI hO ⟨h1, pu.isList⟩ ⟨h2, pw.isList⟩ ⟨h3, pt.isList⟩ (by omega) (by omega) (by omega) (by omega) fun h' tk hk => ?_
    exact ⟨rfl, I.turnedL (ch := zipFp3 n) (fun c o nc q => by
      have nz : ∀ j, j ≤ 5 → c ≠ n + j := fun j hj e => nc (by rw [e]; exact zipFp3_mem.mpr ⟨Nat.le_add_right _ _, Nat.add_le_add_left hj _⟩)
      exact hk c o (nz 5 (by decide)) (nz 4 (by decide)) (nz 0 (by decide)) (nz 1 (by decide)) (nz 2 (by decide)) q) hf⟩
  self := fun A i s Q E st h => wpAny_pyIter_zip st.1 h
theorem pi_zip3 {X : Cx} {e e2 e3 : Expr} {ta : TA} {p pos tpos : Pos} {elts : List Expr} {kk : Nat} (hg : Gl X "zip") (hm : X.mg "zip" = none) (ha : PA X [e, e2, e3] ta)
    (hs : starEach [e, e2, e3] X.env = (false, eval e X.env) :: starEach [e2, e3] X.env := by rfl) (hpl : (backTo pos (starEach [e2, e3] X.env)).any (·.1) = false := by rfl) :
    PI X (.Tuple elts kk tpos) (.Call (.Name "zip" p) [e, e2, e3] [] pos) (fun σ H R => ta σ H fun vs H1 => ∃ a b d xs ys zs, vs = [.ref a, .ref b, .ref d] ∧ SqL X.K H1 a xs ∧ SqL X.K H1 b ys ∧ SqL X.K H1 d zs ∧ R (Itz3 X.K a b d xs ys zs) H1) := by
  refine ⟨fun pins s σ H R I h => ?_⟩
  refine Call_ (ld_blt I hg hm PyProof.Rows.boot_zip (PyProof.Rows.callWith_type1 (thn (ha.run pos pins s σ H _ I h) fun us s1 ⟨vs, H1, I1, r1, a, b, d, xs, ys, zs, ex, hx, hy, hz0, q⟩ => ?_) hs hpl))
  subst ex
  cases r1 with
  | cons ra t =>
  cases t with
  | cons rb t =>
  cases t with
  | cons rd t =>
  cases t
  cases ra
  cases rb
  cases rd
  obtain ⟨us, ru, pu, _⟩ := I1.list hx
  obtain ⟨ws, rw_, pw, _⟩ := I1.list hy
  obtain ⟨ts, rt, pt, _⟩ := I1.list hz0
  refine zip_begins3 (begins_list a us.toArray) (begins_list b ws.toArray) (begins_list d ts.toArray) pu.isList pw.isList pt.isList fun h' hz hI hO h1 h2 h3 hsz hk => wpAny_pyIter_zip hz ?_
  refine ⟨s1.heap.objs.size + 5, zipFp3 s1.heap.objs.size, _, _, H1, rfl, I1.kept (t' := s1.toks) hk, turn_zip3 pu.lt pw.lt pt.lt, ⟨hz, hI, ⟨_, _, _, hO⟩, ⟨_, h1, rfl, rfl⟩, ⟨_, h2, rfl, rfl⟩, ⟨_, h3, rfl, rfl⟩, Nat.zero_le _, Nat.zero_le _, Nat.zero_le _⟩, fun c hc => ?_, q⟩
  have hle := (zipFp3_mem.mp hc).1
  exact I1.fpOk hle (I1.hok.fresh hle)
/-! ### .. at the values -/
def zipD3 : List D → List D → List D → List D
  | x :: xs, y :: ys, z :: zs => .tup [x, y, z] :: zipD3 xs ys zs
  | _, _, _ => []
theorem zipD3_get : ∀ (xs ys zs : List D) (n : Nat), (zipD3 xs ys zs)[n]? = (xs[n]?).bind fun x => (ys[n]?).bind fun y => (zs[n]?).map fun z => D.tup [x, y, z]
  | [], ys, zs, n => by cases ys <;> cases zs <;> simp [zipD3]
  | x :: xs, [], zs, n => by
    cases zs <;> simp [zipD3]
  | x :: xs, y :: ys, [], n => by
    simp [zipD3]
  | x :: xs, y :: ys, z :: zs, 0 => by simp [zipD3]
  | x :: xs, y :: ys, z :: zs, n + 1 => by
    rw [zipD3, List.getElem?_cons_succ, zipD3_get xs ys zs n]
    simp
theorem zipD3_len : ∀ (xs ys zs : List D), (zipD3 xs ys zs).length = min (min xs.length ys.length) zs.length
  | [], ys, zs => by cases ys <;> cases zs <;> simp [zipD3]
  | x :: xs, [], zs => by cases zs <;> simp [zipD3]
  | x :: xs, y :: ys, [] => by simp [zipD3]
  | x :: xs, y :: ys, z :: zs => by
    rw [zipD3, List.length_cons, zipD3_len xs ys zs]
    simp only [List.length_cons]
    omega
def zipOf3 : List D → Option (List D)
  | [.lst xs, .lst ys, .lst zs] => some (zipD3 xs ys zs)
  | _ => none
theorem itOk_zip3 {K : PySem.W.Frag} {c : Cfg} {a b d : Addr} {xs ys zs : List V} {ds es fs : List D} (h : SqL K c.I a xs) (h' : SqL K c.I b ys) (h'' : SqL K c.I d zs) (r : Reps K c.I xs ds) (r' : Reps K c.I ys es) (r'' : Reps K c.I zs fs) : ItOk K c (Itz3 K a b d xs ys zs) (zipD3 ds es fs) := fun c2 y o n => by
  have h2 : SqL K c2.H a xs := o.sub.sqL (y.sub.sqL h)
  have h3 : SqL K c2.H b ys := o.sub.sqL (y.sub.sqL h')
  have h4 : SqL K c2.H d zs := o.sub.sqL (y.sub.sqL h'')
  have e1 := r.length
  have e2 := r'.length
  have e3 := r''.length
  refine ⟨fun q e => ?_, fun e => ⟨h2, h3, h4, ?_⟩⟩
  · rw [zipD3_get] at e
    cases q1 : ds[n]? with
    | none => rw [q1] at e; cases e
    | some d1 =>
      cases q2 : es[n]? with
      | none => rw [q1, q2] at e; cases e
      | some d2 =>
        cases q3 : fs[n]? with
        | none => rw [q1, q2, q3] at e; cases e
        | some d3 =>
          rw [q1, q2, q3] at e
          cases e
          obtain ⟨v, hv, rv⟩ := r.get q1
          obtain ⟨u, hu, ru⟩ := r'.get q2
          obtain ⟨t, ht, rt⟩ := r''.get q3
          refine ⟨⟨h2, h3, h4, (List.getElem?_eq_some_iff.mp hv).1, (List.getElem?_eq_some_iff.mp hu).1, (List.getElem?_eq_some_iff.mp ht).1⟩, fun x H' ⟨T, z1, z2, z3, ex, hT, eH, k1, k2, k3⟩ => ?_⟩
          rw [hv] at k1
          rw [hu] at k2
          rw [ht] at k3
          cases k1
          cases k2
          cases k3
          subst ex eH
          exact itOk_new o hT (.cons (rv.mono y.sub) (.cons (ru.mono y.sub) (.one (rt.mono y.sub))))
  · have := zipD3_len ds es fs
    have e : (zipD3 ds es fs).length ≤ n := by simpa using e
    omega
section
variable {X : Cx} {W : WX}
theorem vi_zip3 {e e2 e3 : Expr} {fs : List Ft} {p pos tpos : Pos} {elts : List Expr} {kk : Nat} (hg : Gl X "zip") (hm : X.mg "zip" = none) (ha : VA X W [e, e2, e3] fs)
    (hs : starEach [e, e2, e3] X.env = (false, eval e X.env) :: starEach [e2, e3] X.env := by rfl) (hpl : (backTo pos (starEach [e2, e3] X.env)).any (·.1) = false := by rfl) : VI X W (.Tuple elts kk tpos) (.Call (.Name "zip" p) [e, e2, e3] [] pos) (argsI zipOf3 fs) := by
  refine ⟨pi_imp (pi_zip3 hg hm ha.pa hs hpl) fun σ H R r => argsI_rd r fun c vs ds l o rr ek hJ => ?_⟩
  unfold zipOf3 at ek
  split at ek
  · cases ek
    cases rr with
    | cons h t => cases t with
      | cons h' t => cases t with
        | cons h'' t => cases t; cases h with
          | lst hq rq => cases h' with
            | lst hq' rq' => cases h'' with
              | lst hq'' rq'' => exact ⟨_, _, _, _, _, _, rfl, SqL.of (o.sub _ _ hq), SqL.of (o.sub _ _ hq'), SqL.of (o.sub _ _ hq''), hJ _ (itOk_zip3 (SqL.of hq) (SqL.of hq') (SqL.of hq'') rq rq' rq'')⟩
  · cases ek
end
end Vl

set_option Elab.async false
set_option linter.all false
set_option maxRecDepth 100000
set_option maxHeartbeats 2000000
/-! the value layer: what the printed walks use -/
namespace Vl
open PySem PySem.Spec PyProof.Rows L2 My
theorem hu65 {A : Around} {k : Nat} (hr : Room k A) : A.units + 65 < cLine := by have := hr.un; omega
def exmsB (K : PySem.W.Frag) (x : Str) (hs : List (Str × Bool)) : Bool := hs.all fun p => decide (PySem.W.exmOne K (.ref (He.ga K p.1)) (.ref (He.ga K x)) = some p.2)
theorem exms_ok {K : PySem.W.Frag} {x : Str} {hs : List (Str × Bool)} (h : exmsB K x hs = true) : Exms K (.ref (He.ga K x)) hs := fun y b l => by
  have := List.all_eq_true.mp h _ (mem_of_lookup l)
  exact of_decide_eq_true this
/-! ### the law's own head: tables of code objects are empty there -/
def csK (K : PySem.W.Frag) : List (Addr × Addr) := tabDefs.filterMap fun d => (cdAt K (He.fAd K d.1)).bind fun c => (tbAt K c).map fun P => (c, P)
structure TabsE (K : PySem.W.Frag) (H : Hp) : Prop where
  e : ∀ p ∈ csK K, H p.2 = some (.tbl #[])
structure TbsOk (K : PySem.W.Frag) (mg : Str → Option Value) (base : Heap) : Prop where
  e : ∀ p ∈ csK K, LamX.TabB base mg p.1 p.2
theorem tk_cs {K : PySem.W.Frag} {p : Addr × Str} (h : p ∈ TK K) : ∃ c, (c, p.1) ∈ csK K := by
  unfold TK at h
  obtain ⟨d, hd, e⟩ := List.mem_filterMap.mp h
  rw [Option.map_eq_some_iff] at e
  obtain ⟨P, e1, rfl⟩ := e
  rw [Option.bind_eq_some_iff] at e1
  obtain ⟨c, e1, e2⟩ := e1
  refine ⟨c, List.mem_filterMap.mpr ⟨d, hd, ?_⟩⟩
  rw [e1]
  show (tbAt K c).map _ = _
  rw [e2]
  rfl
/-- H without its tables -/
def unT (H : Hp) : Hp := fun a => match H a with
  | some (.tbl _) => none
  | o => o
theorem unT_some {H : Hp} {a : Addr} {o : HO} (h : H a = some o) (n : NTb o) : unT H a = some o := by
  unfold unT
  rw [h]
  cases o <;> first | rfl | exact (n.e _ rfl).elim
theorem unT_le (H : Hp) : Le (unT H) H := fun a o e => by
  unfold unT at e
  split at e
  · cases e
  · exact e
theorem unT_nt (H : Hp) : NoTab (unT H) := ⟨fun a ps e => by
  unfold unT at e
  split at e
  · cases e
  · rename_i n
    exact n ps e⟩
theorem tabs_of {K : PySem.W.Frag} {I H : Hp} (h : TabsE K H) : TabsV K I H := ⟨fun p hp => by
  obtain ⟨c, hc⟩ := tk_cs hp
  refine ⟨#[], h.e _ hc, True.intro, fun z cv q => ?_⟩
  have q : codeAmong z [] = some cv := q
  simp [codeAmong] at q⟩
def spLaw {K : PySem.W.Frag} : Sp := fun vs H Q _ => ∃ a, vs = [.ref a] ∧ ∃ ns : List Int, SqL K H a (ns.map V.int) ∧ ns.length ≤ 63 ∧ TabsE K H ∧ ∀ H', Q (.bl true) H'
theorem reps_int {K : PySem.W.Frag} {I : Hp} : ∀ ns : List Int, Reps K I (ns.map V.int) (ns.map D.int)
  | [] => .nil
  | n :: r => .cons (.int n) (reps_int r)
theorem body_law {X : Cx} {N : List Str} {body : List Stmt} {f : Fs} {a : Addr} {ns : List Int} {H : Hp} {Q : VK} {outs : List Sl} (hb : VSs X.nox W0 body f) (hl : fnM 1 N.length f [.val (.seq (ns.map D.int))] = .ok (.val (.bl true)) outs) (hS : SqL X.K H a (ns.map V.int)) (hE : TabsE X.K H) (k : ∀ H', Q (.bl true) H') :
    ∃ t, PSs X body t ∧ t { nx := fun _ H' => Q .non H', rt := Q } (L2.start N [.ref a]) H := by
  have hs : spV X.nox.K (fnM 1 N.length f) [.ref a] H Q (fun _ _ _ => False) := by
    refine ⟨unT H, [.val (.seq (ns.map D.int))], unT_le H, ⟨unT_nt H, tabs_of hE⟩, .cons (.seq (sql_keep hS fun a o e n => unT_some e n) (reps_int ns)) .nil, ?_, ?_⟩
    · intro i j d d' e1 e2 e
      match i, e1 with
      | 0, e1 => cases e1
      | i + 1, e1 => simp at e1
    · rw [hl]
      intro I' H' v wl ho rv
      cases rv
      exact k H'
  obtain ⟨t, h1, h2⟩ := body_sp (X := X.nox) hb hs
  exact ⟨t, PSs.nox h1, h2⟩
/-! ### a def that holds a lambda -/
structure LamTK (K : PySem.W.Frag) (mg : Str → Option Value) (base : Heap) (f : Addr) (qual : Str) : Prop where
  ex : ∃ c P, cdAt K f = some c ∧ LamX.TabB base mg c P ∧ (P, lamQ qual) ∈ TK K ∧ ∀ p ∈ TK K, p.1 = P → p.2 = lamQ qual
def lamB (K : PySem.W.Frag) (at_ : Str × Option Str) (qual : Str) : Bool := match cdAt K (He.fAd K at_) with
  | some c => (match tbAt K c with
    | some P => decide ((c, P) ∈ csK K) && (decide ((P, lamQ qual) ∈ TK K) && (TK K).all fun p => !decide (p.1 = P) || decide (p.2 = lamQ qual))
    | none => false)
  | none => false
theorem lamTK_of {K : PySem.W.Frag} {mg : Str → Option Value} {base : Heap} {at_ : Str × Option Str} {qual : Str} (tb : TbsOk K mg base) (h : lamB K at_ qual = true) : LamTK K mg base (He.fAd K at_) qual := by
  unfold lamB at h
  split at h
  · rename_i c hc
    split at h
    · rename_i P hP
      simp only [Bool.and_eq_true, Bool.or_eq_true, Bool.not_eq_true', decide_eq_true_eq, decide_eq_false_iff_not, List.all_eq_true] at h
      obtain ⟨h1, h2, h3⟩ := h
      exact ⟨c, P, hc, tb.e _ h1, h2, fun p hp e => (h3 p hp).elim (fun n => (n e).elim) id⟩
    · cases h
  · cases h
section
variable {P : Program} {w : World} {K : PySem.W.Frag} {mg : Str → Option Value} {base : Heap} {x qual : Str} {params : Arguments} {body : List Stmt} {scope : Scope} {dvs : List V} {kws : List (Str × V)} {f : Addr} {fd : FuncData}
/-- the rule for a def that holds a lambda -/
theorem okLam {CX : CXT} {N ps : List Str} {k : Nat} {sp : Sp} (F : FunD K x qual params body scope dvs kws f fd) (S : FnScope N ps scope) (lt : LamTK K mg base f qual) (len : ∀ vs H Q E, sp vs H Q E → vs.length = ps.length)
    (hbody : ∀ (cdv : Value) (A : Around) (outer : List Env) (s : Shared) (H : Hp) (vs : List V) (Q : VK) (E : XK), LamT (cxOf CX P w K mg base N qual scope f cdv A outer s H E) → Room k (A.deeper (envOfC qual scope s.heap.objs.size f cdv)) → sp vs H Q E →
      ∃ t, PSs (cxOf CX P w K mg base N qual scope f cdv A outer s H E) body t ∧ t { nx := fun _ H' => Q .non H', rt := Q } (L2.start N vs) H) : FnOk P w K mg base CX (k + 1) f fd ps sp := by
  obtain ⟨oc, od, dV, kV, doc, pm, an, cdv, ct, osl, rfl, lk, hcd, _, _⟩ := F.ex
  obtain ⟨c, T, h1, h2, h3, h4⟩ := lt.ex
  have ec : cdv = .ref c := by
    unfold cdAt at h1
    rw [lk] at h1
    cases cdv <;> first | (cases h1; rfl) | (cases h1)
  subst ec
  exact fn_of lk hcd S len fun A outer s H vs Q E hr hsp => hbody _ A outer s H vs Q E ⟨c, T, rfl, h2, h3, h4⟩ hr hsp
end
/-! ### the end -/
def tabsB (K : PySem.W.Frag) (ts : List Addr) : Bool := (csK K).all fun p => decide (p.2 ∈ ts) && ((K.lookup p.2).isNone && PySem.W.codeHdIn K p.1 p.2)
theorem walkT {l : PySem.W.OpenLaw} {q : Program} {loose : List Str} {XP : (Str → Option Value) → Heap → Prop} {YP : World → Heap → Prop} {d : DefRec} {K : Params → PySem.W.Frag} {k : Nat} {x : Str} (ts : List Addr) (hn : l.most = some 63) (hdf : d.params.defaults = []) (hr : Room k callerA)
    (hY : ∀ (w : World) (h : Heap), YP w h → (K w.params).In h) (hT : ∀ (w : World) (h : Heap), YP w h → ∀ P ∈ ts, h.get? P = some (PySem.W.tabObj #[])) (hB : ∀ w : World, tabsB (K w.params) ts = true)
    (F : ∀ (w : World) (mg : Str → Option Value) (fa : Addr) (h : Heap), (K w.params).In h → h.Ns mainGlobals mg → mg d.name = some (.ref fa) →
      ∃ fd : FuncData, (∀ (s : Shared) (u : Value), BindsTo s fd ⟨[u], []⟩ [(x, u)]) ∧ ∀ base : Heap, (K w.params).In base → base.Ns mainGlobals mg → TbsOk (K w.params) mg base → FnOk l.prog w (K w.params) mg base CX0 k fa fd [x] (spLaw (K := K w.params))) :
    PySem.W.WalkO q loose XP YP l.row.toRowW d [] (fun f vs => PySem.call f vs) := by
  refine LamX.walk_ofTs (n := 63) (k := k) (x := x) (CX := fun _ => CX0) hn (by decide) hdf hr hY (fun w mg fa h Y KX G hmg => ?_) fun _ _ _ _ _ z => z
  obtain ⟨fd, hb, hF⟩ := F w mg fa h KX G hmg
  have B : ∀ p ∈ csK (K w.params), p.2 ∈ ts ∧ (K w.params).lookup p.2 = none ∧ PySem.W.codeHdIn (K w.params) p.1 p.2 = true := fun p hp => by
    have := List.all_eq_true.mp (hB w) p hp
    simp only [Bool.and_eq_true, decide_eq_true_eq, Option.isNone_iff_eq_none] at this
    exact this
  exact ⟨fd, csK (K w.params), spLaw (K := K w.params), fun p hp => hT w h Y _ (B p hp).1, fun p hp => (B p hp).2.1, fun p hp => PySem.W.codeHd_of_K KX (B p hp).2.2, hb, fun H a ns hl _ hE hS => ⟨a, rfl, ns, hS, hl, ⟨hE⟩, fun _ => rfl⟩, fun base h1 h2 h3 => hF base h1 h2 ⟨h3⟩⟩
end Vl

set_option Elab.async false
set_option linter.all false
set_option maxRecDepth 100000
set_option maxHeartbeats 4000000
/-! the value layer: the two helpers that every law has -/
namespace Vl
open PySem PySem.Spec PyProof.Rows L2 My
def m__law_bag : Fm := fnM 1 1 (retF (valsF [(callF listP [(nameF 0)]), (cF (.int 0)), (cF (.int 0)), (cF (.int 20011))] lstP))
def m__law_pick : Fm := fnM 2 4 (seqF (iteS (andB (blF (op2 eqP (op2 ixP (nameF 0) (cF (.int 2))) (cF (.int 0)))) (blF (op2 ltP (op2 ixP (nameF 0) (cF (.int 1))) (callF lenP [(op2 ixP (nameF 0) (cF (.int 0)))])))) (seqF (setF 2 (op2 ixP (op2 ixP (nameF 0) (cF (.int 0))) (op2 ixP (nameF 0) (cF (.int 1)))))
    (seqF (augSF 0 (cF (.int 1)) iaddP (cF (.int 1)))
    (iteS (blF (op2 geP (nameF 2) (op2 powP (cF (.int 10)) (cF (.int 18))))) (putF 0 (cF (.int 2)) (nameF 2)) (putF 0 (cF (.int 3)) (op2 modP (callF intP [(op2 addP (op2 addP (op2 mulQ (op2 ixP (nameF 0) (cF (.int 3))) (cF (.int 16807))) (op2 mulQ (nameF 2) (cF (.int 7919)))) (op2 ixP (nameF 0) (cF (.int 1))))]) (cF (.int 2147483629))))))) .nx)
    (seqF (iteS (blF (op2 gtP (op2 ixP (nameF 0) (cF (.int 2))) (cF (.int 0)))) (seqF (setF 3 (op2 modP (callF intP [(op2 ixP (nameF 0) (cF (.int 2)))]) (nameF 1)))
    (seqF (putF 0 (cF (.int 2)) (op2 fdivP (op2 ixP (nameF 0) (cF (.int 2))) (nameF 1)))
    (retF (nameF 3)))) .nx)
    (seqF (putF 0 (cF (.int 3)) (op2 modP (callF intP [(op2 addP (op2 mulQ (op2 ixP (nameF 0) (cF (.int 3))) (cF (.int 30269))) (cF (.int 12345)))]) (cF (.int 2147483629))))
    (retF (op2 modP (callF intP [(op2 fdivP (op2 modP (callF intP [(op2 mulQ (op2 ixP (nameF 0) (cF (.int 3))) (cF (.int 17389)))]) (cF (.int 2147483587))) (cF (.int 11)))]) (nameF 1))))))

/-- the bag of draws: cells, the next one's place, a great number, a state -/
structure GB (b : D) : Prop where
  ex : ∃ (ns : List Int) (i g st : Int), b = .lst [.lst (ns.map D.int), .int i, .int g, .int st] ∧ ns.length ≤ 63 ∧ 0 ≤ i ∧ i ≤ 63 ∧ 0 ≤ g ∧ 0 ≤ st ∧ st < 2147483629
theorem bag_ok {ns : List Int} (h : ns.length ≤ 63) : ∃ b, m__law_bag [.val (.seq (ns.map D.int))] = .ok (.fr b) [.val true (.seq (ns.map D.int))] ∧ GB b := by
  refine ⟨.lst [.lst (ns.map D.int), .int 0, .int 0, .int 20011], ?_, ⟨ns, 0, 0, 20011, rfl, h, by decide, by decide, by decide, by decide, by decide⟩⟩
  simp [m__law_bag, fnM, fnK, startG, retF, retK, valsF, evA, callF, nameF, cF, settle, Res.bind, bindE, derefA, deref, listP, frzA, frz1, lstP, sizeLine]
theorem atI_lit {α : Type} {xs : List α} {i : Int} {x : α} (h0 : 0 ≤ i) (h : xs[i.toNat]? = some x) : atI xs i = some x := by
  have := atI_nat (j := i.toNat) h
  rwa [show ((i.toNat : Nat) : Int) = i by omega] at this
theorem mulOk_r {i j : Int} (h : -(2 ^ 64) < j ∧ j < 2 ^ 64) : mulOk i j = true := by
  unfold mulOk
  rw [decide_eq_true (p := -(2 ^ 64) < j ∧ j < 2 ^ 64) h]
  simp
theorem pick_ok {b : D} {lim : Int} (hb : GB b) (h0 : 0 < lim) (h1 : lim.natAbs.log2 < 9000) : ∃ n b', m__law_pick [.own b, .val (.int lim)] = .ok (.val (.int n)) [.own true b', .val true (.int lim)] ∧ GB b' ∧ 0 ≤ n ∧ n < lim := by
  obtain ⟨ns, i, g, st, rfl, hl, hi0, hi1, hg, hs0, hs1⟩ := hb
  have dv : divOk lim = true := by simp [divOk, h0, h1]
  -- behind the first if
  have tail : ∀ (v : Sl) (ns : List Int) (i g st : Int), ns.length ≤ 63 → 0 ≤ i → i ≤ 63 → 0 ≤ g → 0 ≤ st → st < 2147483629 → ∃ n b', GB b' ∧ 0 ≤ n ∧ n < lim ∧ ∃ v2 v3,
      seqF (iteS (blF (op2 gtP (op2 ixP (nameF 0) (cF (.int 2))) (cF (.int 0)))) (seqF (setF 3 (op2 modP (callF intP [(op2 ixP (nameF 0) (cF (.int 2)))]) (nameF 1)))
    (seqF (putF 0 (cF (.int 2)) (op2 fdivP (op2 ixP (nameF 0) (cF (.int 2))) (nameF 1)))
    (retF (nameF 3)))) .nx)
    (seqF (putF 0 (cF (.int 3)) (op2 modP (callF intP [(op2 addP (op2 mulQ (op2 ixP (nameF 0) (cF (.int 3))) (cF (.int 30269))) (cF (.int 12345)))]) (cF (.int 2147483629))))
    (retF (op2 modP (callF intP [(op2 fdivP (op2 modP (callF intP [(op2 mulQ (op2 ixP (nameF 0) (cF (.int 3))) (cF (.int 17389)))]) (cF (.int 2147483587))) (cF (.int 11)))]) (nameF 1)))) [.own true (.lst [.lst (ns.map D.int), .int i, .int g, .int st]), .val true (.int lim), v, .un] = .rt (.val (.int n)) [.own true b', .val true (.int lim), v2, v3] := by
    intro v ns i g st hl hi0 hi1 hg hs0 hs1
    by_cases hgp : 0 < g
    · refine ⟨g % lim, .lst [.lst (ns.map D.int), .int i, .int (g / lim), .int st], ⟨ns, i, g / lim, st, rfl, hl, hi0, hi1, Int.ediv_nonneg hg (by omega), hs0, hs1⟩, Int.emod_nonneg _ (by omega), Int.emod_lt_of_pos _ h0, ?_⟩
      simp [seqF, iteS, blF, op2, op1, nameF, cF, retF, retK, settle, Res.bind, bindE, lift2, lift1, deref, gtP, ixP, atI, ixN, setF, setK, modP, callF, evA, derefA, intP, putF, putK', frzA, frz1, putAt, fdivP, dv, h0, hgp]
    · refine ⟨(((st * 30269 + 12345) % 2147483629 * 17389) % 2147483587 / 11) % lim, .lst [.lst (ns.map D.int), .int i, .int g, .int ((st * 30269 + 12345) % 2147483629)], ⟨ns, i, g, _, rfl, hl, hi0, hi1, hg, Int.emod_nonneg _ (by decide), Int.emod_lt_of_pos _ (by decide)⟩, Int.emod_nonneg _ (by omega), Int.emod_lt_of_pos _ h0, ?_⟩
      have m1 : mulOk st 30269 = true := mulOk_r (by decide)
      have m2 : mulOk ((st * 30269 + 12345) % 2147483629) 17389 = true := mulOk_r (by decide)
      have d1 : divOk 11 = true := by decide
      simp [seqF, iteS, blF, op2, op1, nameF, cF, retF, retK, settle, Res.bind, bindE, lift2, lift1, deref, gtP, ixP, atI, ixN, setF, setK, modP, callF, evA, derefA, intP, putF, putK', frzA, frz1, putAt, fdivP, mulQ, mulP, addP, m1, m2, d1, h0, hgp]
  have fin : ∀ (first : Fs) (rest : Fs) (v : Sl) (ns : List Int) (i' g' st' : Int), first [.own true (.lst [.lst (ns.map D.int), .int i, .int g, .int st]), .val true (.int lim), .un, .un] = .nx [.own true (.lst [.lst (ns.map D.int), .int i', .int g', .int st']), .val true (.int lim), v, .un] →
      (∃ n b', GB b' ∧ 0 ≤ n ∧ n < lim ∧ ∃ v2 v3, rest [.own true (.lst [.lst (ns.map D.int), .int i', .int g', .int st']), .val true (.int lim), v, .un] = .rt (.val (.int n)) [.own true b', .val true (.int lim), v2, v3]) →
      ∃ n b', fnM 2 4 (seqF first rest) [.own (.lst [.lst (ns.map D.int), .int i, .int g, .int st]), .val (.int lim)] = .ok (.val (.int n)) [.own true b', .val true (.int lim)] ∧ GB b' ∧ 0 ≤ n ∧ n < lim := by
    rintro first rest v ns i' g' st' h ⟨n, b', hb, n0, n1, v2, v3, hr⟩
    refine ⟨n, b', ?_, hb, n0, n1⟩
    simp [fnM, fnK, startG, seqF, h, hr]
  unfold m__law_pick
  by_cases hg0 : g = 0
  · subst hg0
    have a0 : atI [D.lst (ns.map D.int), .int i, .int 0, .int st] 0 = some (.lst (ns.map D.int)) := by simp [atI, ixN]
    have a1 : atI [D.lst (ns.map D.int), .int i, .int 0, .int st] 1 = some (.int i) := by simp [atI, ixN]
    have a2 : atI [D.lst (ns.map D.int), .int i, .int 0, .int st] 2 = some (.int 0) := by simp [atI, ixN]
    by_cases hlt : i < (ns.length : Int)
    · obtain ⟨z, hz⟩ : ∃ z, ns[i.toNat]? = some z := ⟨ns[i.toNat]'(by omega), List.getElem?_eq_getElem _⟩
      have hz' : atI (ns.map D.int) i = some (.int z) := atI_lit hi0 (by rw [List.getElem?_map, hz]; rfl)
      have b1 : atI [D.lst (ns.map D.int), .int (i + 1), .int 0, .int st] 1 = some (.int (i + 1)) := by simp [atI, ixN]
      have b3 : atI [D.lst (ns.map D.int), .int (i + 1), .int 0, .int st] 3 = some (.int st) := by simp [atI, ixN]
      have m1 : mulOk st 16807 = true := mulOk_r (by decide)
      have m2 : mulOk z 7919 = true := mulOk_r (by decide)
      have pw : powOk 10 18 = true := by decide
      by_cases hc : (1000000000000000000 : Int) ≤ z
      · refine fin _ _ (.val false (.int z)) ns (i + 1) z st ?_ (tail _ ns (i + 1) z st hl (by omega) (by omega) (by omega) hs0 hs1)
        simp [seqF, iteS, andB, blF, op2, op1, nameF, cF, settle, Res.bind, bindE, lift2, lift1, deref, eqP, eqD, scD, ltP, a0, a1, a2, callF, evA, derefA, lenP, hlt, setF, setK, ixP, hz', augSF, frzA, frz1, getAt, iaddP, putAt, ixN, geP, powP, pw, putF, putK', hc]
      · refine fin _ _ (.val false (.int z)) ns (i + 1) 0 ((st * 16807 + z * 7919 + (i + 1)) % 2147483629) ?_ (tail _ ns (i + 1) 0 _ hl (by omega) (by omega) hg (Int.emod_nonneg _ (by decide)) (Int.emod_lt_of_pos _ (by decide)))
        simp [seqF, iteS, andB, blF, op2, op1, nameF, cF, settle, Res.bind, bindE, lift2, lift1, deref, eqP, eqD, scD, ltP, a0, a1, a2, b1, b3, callF, evA, derefA, lenP, hlt, setF, setK, ixP, hz', augSF, frzA, frz1, getAt, iaddP, putAt, ixN, geP, powP, pw, putF, putK', modP, intP, addP, mulQ, mulP, m1, m2, hc]
    · refine fin _ _ .un ns i 0 st ?_ (tail _ ns i 0 st hl hi0 hi1 hg hs0 hs1)
      simp [seqF, iteS, andB, blF, op2, op1, nameF, cF, settle, Res.bind, bindE, lift2, lift1, deref, eqP, eqD, scD, ltP, a0, a1, a2, callF, evA, derefA, lenP, hlt, ixP]
  · refine fin _ _ .un ns i g st ?_ (tail _ ns i g st hl hi0 hi1 hg hs0 hs1)
    have a2 : atI [D.lst (ns.map D.int), .int i, .int g, .int st] 2 = some (.int g) := by simp [atI, ixN]
    simp [seqF, iteS, andB, blF, op2, op1, nameF, cF, settle, Res.bind, bindE, lift2, lift1, deref, eqP, eqD, scD, a2, hg0, ixP]
end Vl

set_option Elab.async false
set_option linter.all false
set_option maxRecDepth 100000
set_option maxHeartbeats 4000000
/-! the value layer: facts that the laws' proofs share -/
namespace Vl
open PySem PySem.Spec PyProof.Rows L2 My
theorem eqD_int (a b : Int) : eqD (.int a) (.int b) = some (decide (a = b)) := rfl
theorem eqD_str (a b : Str) : eqD (.str a) (.str b) = some (decide (a = b)) := rfl
theorem eqD_bl (a b : Bool) : eqD (.bl a) (.bl b) = some (decide (a = b)) := rfl
theorem intsD_map : ∀ xs : List Int, intsD (xs.map D.int) = some xs
  | [] => rfl
  | a :: r => by simp [intsD, intsD_map r]
theorem toPs_ints : ∀ xs : List Int, toPs (xs.map D.int) = some (xs.map PyData.int)
  | [] => rfl
  | a :: r => by simp [toPs, toP, toPs_ints r]
theorem canLay_ints : ∀ xs : List Int, PyData.canLayAll0 (xs.map PyData.int) = true
  | [] => by simp [PyData.canLayAll0]
  | a :: r => by simp [PyData.canLayAll0, PyData.canLay0, canLay_ints r]
theorem depth_ints : ∀ xs : List Int, PyData.depthAll (xs.map PyData.int) = 0
  | [] => by simp [PyData.depthAll]
  | a :: r => by simp [PyData.depthAll, PyData.depth, depth_ints r]
theorem eqv_ints : ∀ xs ys : List Int, PyData.eqvAll (xs.map PyData.int) (ys.map PyData.int) = decide (xs = ys)
  | [], [] => by simp [PyData.eqvAll]
  | [], y :: ys => by simp [PyData.eqvAll]
  | x :: xs, [] => by simp [PyData.eqvAll]
  | x :: xs, y :: ys => by
    simp only [List.map_cons, PyData.eqvAll, PyData.eqv, eqv_ints xs ys, List.cons.injEq, Bool.decide_and]
    rfl
theorem shaped_ints (xs : List Int) : SeqAt.shaped (.list (xs.map PyData.int)) = true := by
  simp [SeqAt.shaped, PyData.canLay0, canLay_ints, PyData.depth, depth_ints]
theorem eqD_ints (xs ys : List Int) : eqD (.lst (xs.map D.int)) (.lst (ys.map D.int)) = some (decide (xs = ys)) := by
  simp [eqD, scD, toP, toPs_ints, shaped_ints, PyData.eqv, eqv_ints]
theorem eqD_nil (xs : List Int) : eqD (.lst (xs.map D.int)) (.lst []) = some (decide (xs = [])) := eqD_ints xs []
theorem eqD_self {d : D} {p : PyData} (h : toP d = some p) (hs : SeqAt.shaped p = true) : eqD d d = some true := by
  unfold eqD
  split
  · rename_i r e
    cases d <;> simp [scD] at e <;> simp [e]
  · rw [h]
    simp [hs, SeqAt.eqv_refl p (SeqAt.canLay_of_shaped hs)]
theorem atI_ints {xs : List Int} {i : Int} (h0 : 0 ≤ i) (h1 : i < xs.length) : ∃ z, atI (xs.map D.int) i = some (.int z) ∧ z ∈ xs := by
  have hi : i.toNat < xs.length := by omega
  exact ⟨xs[i.toNat], atI_lit h0 (by rw [List.getElem?_map, List.getElem?_eq_getElem hi]; rfl), List.getElem_mem hi⟩
theorem seqF_nx {f k : Fs} {g g1 : Sg} (h : f g = .nx g1) : seqF f k g = k g1 := by unfold seqF; rw [h]
theorem outFor_nil {j : Nat} {os : List Sl} : outFor j [] os = none := rfl
theorem outFor_val {j : Nat} {d : D} {rs : List RV} {os : List Sl} : outFor j (.val d :: rs) os = outFor j rs os.tail := rfl
theorem outFor_at {j i : Nat} {rs : List RV} {os : List Sl} : outFor j (.at_ i :: rs) os = if i = j then some (os.headD .un) else outFor j rs os.tail := rfl
/-- a slot behind a call -/
def putSl (rs : List RV) (os : List Sl) (j : Nat) (s : Sl) : Sl := match s with
  | .own t d => (match outFor j rs os with | some o => outC t o | none => .own t d)
  | s => s
theorem putOuts_eq (rs : List RV) (os : List Sl) (g : Sg) : putOuts rs os g = g.mapIdx (putSl rs os) := rfl
theorem putSl_none {rs : List RV} {os : List Sl} {j : Nat} {s : Sl} (h : outFor j rs os = none) : putSl rs os j s = s := by
  cases s <;> simp [putSl, h]
theorem putSl_vals {rs : List RV} {os : List Sl} {j : Nat} {s : Sl} (h : ixs rs = []) : putSl rs os j s = s := by
  refine putSl_none ?_
  induction rs generalizing os with
  | nil => rfl
  | cons r rs ih =>
    cases r with
    | val d => exact ih h
    | fr d => exact ih h
    | at_ i => cases h
theorem putSl_nil {os : List Sl} {j : Nat} {s : Sl} : putSl [] os j s = s := by cases s <;> rfl
theorem putSl_v {d : D} {rs : List RV} {os : List Sl} {j : Nat} {s : Sl} : putSl (.val d :: rs) os j s = putSl rs os.tail j s := by cases s <;> rfl
theorem putSl_ne {i : Nat} {rs : List RV} {os : List Sl} {j : Nat} {s : Sl} (h : ¬ i = j) : putSl (.at_ i :: rs) os j s = putSl rs os.tail j s := by
  cases s <;> simp [putSl, outFor_at, h]
theorem putSl_at {rs : List RV} {os : List Sl} {j : Nat} {t : Bool} {d : D} : putSl (.at_ j :: rs) os j (.own t d) = outC t (os.headD .un) := by
  simp [putSl, outFor_at]
theorem putSl_own {rs : List RV} {os : List Sl} {j : Nat} {t : Bool} {d : D} : putSl rs os j (.own t d) = match outFor j rs os with | some o => outC t o | none => .own t d := rfl
theorem putSl_val {rs : List RV} {os : List Sl} {j : Nat} {t : Bool} {d : D} : putSl rs os j (.val t d) = .val t d := rfl
theorem putSl_un {rs : List RV} {os : List Sl} {j : Nat} : putSl rs os j .un = .un := rfl
theorem andV_bl {fa fb : Ft} {g : Sg} {p q : Bool} (ha : fa g = .ok (.val (.bl p)) g) (hb : fb g = .ok (.val (.bl q)) g) : andV fa fb g = .ok (.val (.bl (p && q))) g := by
  cases p <;> simp [andV, blF, ha, hb, Res.bind]
theorem orV_bl {fa fb : Ft} {g : Sg} {p q : Bool} (ha : fa g = .ok (.val (.bl p)) g) (hb : fb g = .ok (.val (.bl q)) g) : orV fa fb g = .ok (.val (.bl (p || q))) g := by
  cases p <;> simp [orV, blF, ha, hb, Res.bind]
theorem setF_val {i : Nat} {f : Ft} {g g1 : Sg} {d : D} (h : f g = .ok (.val d) g1) : setF i f g = .nx (g1.set i (.val false d)) := by
  simp [setF, bindE, h, setK]
/-! ### loops -/
/-- an invariant of a loop over items -/
theorem loop_inv {t : Tg} {body : Fs} (P : Sg → Prop) : ∀ {ds : List D} {g : Sg}, P g → (∀ d ∈ ds, ∀ g, P g → ∃ g1, tgF t d g = some g1 ∧ ∃ g2, (body g1 = .nx g2 ∨ body g1 = .ct g2) ∧ P g2) → ∃ g', loopF t body ds g = .nx g' ∧ P g'
  | [], g, h, _ => ⟨g, rfl, h⟩
  | d :: ds, g, h, k => by
    obtain ⟨g1, e1, g2, e2, h2⟩ := k d (.head _) g h
    obtain ⟨g', e3, h3⟩ := loop_inv P (ds := ds) h2 fun d hd g hg => k d (.tail _ hd) g hg
    refine ⟨g', ?_, h3⟩
    unfold loopF
    rw [e1]
    rcases e2 with e2 | e2 <;> (simp only [e2]; exact e3)
theorem rangeD_mem {n : Nat} {a : Int} {d : D} (h : d ∈ rangeD a n) : ∃ i : Int, d = .int i ∧ a ≤ i ∧ i < a + n := by
  unfold rangeD at h
  simp only [List.mem_map, List.mem_range] at h
  obtain ⟨j, hj, rfl⟩ := h
  exact ⟨_, rfl, by omega, by omega⟩
end Vl

set_option Elab.async false
set_option linter.all false
set_option maxRecDepth 100000
set_option maxHeartbeats 4000000
/-! the value layer: comprehensions, texts drawn, sorted places -/
namespace Vl
open PySem PySem.Spec PyProof.Rows L2 My
/-- a comprehension without a test: an invariant of the slots, one of the items -/
theorem comp_inv {t : Tg} {fe : Ft} {vs : List Nat} (P : Sg → Prop) (A : D → Prop) : ∀ {ds : List D} {g : Sg} {acc : List D}, P g → acc.length + ds.length ≤ sizeLine →
    (∀ d ∈ ds, ∀ g, P g → ∃ g1, tgF t d g = some g1 ∧ ∃ x g3, noX (settle (fe g1)) = .ok x g3 ∧ ∃ y g4, frz1 x g3 = some (y, g4) ∧ P (wipeG g4 vs) ∧ A y) →
    ∃ ys g', compL t none fe vs ds g acc = .ok (.fr (.lst (acc ++ ys))) g' ∧ P g' ∧ ys.length = ds.length ∧ ∀ y ∈ ys, A y
  | [], g, acc, h, _, _ => ⟨[], g, by simp [compL], h, rfl, fun y q => nomatch q⟩
  | d :: ds, g, acc, h, hl, k => by
    obtain ⟨g1, e1, x, g3, e2, y, g4, e3, h4, ha⟩ := k d (.head _) g h
    rw [List.length_cons] at hl
    obtain ⟨ys, g', e5, h5, l5, a5⟩ := comp_inv P A (ds := ds) (acc := acc ++ [y]) h4 (by rw [List.length_append]; simp; omega) fun d hd g hg => k d (.tail _ hd) g hg
    refine ⟨y :: ys, g', ?_, h5, by simp [l5], fun z hz => ?_⟩
    · unfold compL
      have hl2 : acc.length < sizeLine := by omega
      rw [e1]
      simp only [e2, e3, if_pos hl2, e5, List.append_assoc, List.singleton_append]
    · rcases List.mem_cons.mp hz with rfl | hz
      · exact ha
      · exact a5 z hz
/-- .. whose slots stay -/
theorem comp_map {t : Tg} {fe : Ft} {vs : List Nat} {g : Sg} (F : D → D) : ∀ {ds : List D} {acc : List D}, acc.length + ds.length ≤ sizeLine →
    (∀ d ∈ ds, ∃ g1, tgF t d g = some g1 ∧ ∃ x g3, noX (settle (fe g1)) = .ok x g3 ∧ ∃ g4, frz1 x g3 = some (F d, g4) ∧ wipeG g4 vs = g) →
    compL t none fe vs ds g acc = .ok (.fr (.lst (acc ++ ds.map F))) g
  | [], acc, _, _ => by simp [compL]
  | d :: ds, acc, hl, k => by
    obtain ⟨g1, e1, x, g3, e2, g4, e3, h4⟩ := k d (.head _)
    rw [List.length_cons] at hl
    have ih := comp_map F (ds := ds) (acc := acc ++ [F d]) (by rw [List.length_append]; simp; omega) fun d hd => k d (.tail _ hd)
    have hl2 : acc.length < sizeLine := by omega
    unfold compL
    rw [e1]
    simp only [e2, e3, if_pos hl2, h4, ih, List.append_assoc, List.singleton_append, List.map_cons]
/-! ### texts -/
def OneS (d : D) : Prop := ∃ c : Nat, d = .str ⟨#[c]⟩ ∧ c < 1114112
/-- a text of few good signs -/
structure Tx (z : Str) (n : Nat) : Prop where
  len : z.cps.toList.length ≤ n
  ok : ∀ c ∈ z.cps.toList, c < 1114112
theorem strs_one : ∀ {ds : List D}, (∀ d ∈ ds, OneS d) → ∃ ys : List Str, strsD ds = some ys ∧ ys.length = ds.length ∧ ∀ y ∈ ys, ∃ c : Nat, y = ⟨#[c]⟩ ∧ c < 1114112
  | [], _ => ⟨[], rfl, rfl, fun y h => nomatch h⟩
  | d :: ds, h => by
    obtain ⟨c, rfl, hc⟩ := h d (.head _)
    obtain ⟨ys, e, l, k⟩ := strs_one (ds := ds) fun d hd => h d (.tail _ hd)
    refine ⟨⟨#[c]⟩ :: ys, by simp [strsD, e], by simp [l], fun y hy => ?_⟩
    rcases List.mem_cons.mp hy with rfl | hy
    · exact ⟨c, rfl, hc⟩
    · exact k y hy
theorem joinL_nil : ∀ l : List (List Nat), TL.joinL [] l = l.flatten
  | [] => by simp [TL.joinL]
  | [a] => by simp [TL.joinL]
  | a :: b :: r => by simp [TL.joinL, joinL_nil (b :: r)]
theorem tl_joinE (ys : List Str) : (Txt.join "" ys).cps.toList = (ys.map fun y => y.cps.toList).flatten := by
  rw [TL.join_eq]
  have := TL.tl_join "" ys
  rw [show TL.tl ("" : Str) = [] from rfl, joinL_nil] at this
  exact this
theorem join_one {ys : List Str} (h : ∀ y ∈ ys, ∃ c : Nat, y = ⟨#[c]⟩ ∧ c < 1114112) : Tx (Txt.join "" ys) ys.length := by
  have key : ∀ ys : List Str, (∀ y ∈ ys, ∃ c : Nat, y = ⟨#[c]⟩ ∧ c < 1114112) → ((ys.map fun y => y.cps.toList).flatten).length = ys.length ∧ ∀ c ∈ (ys.map fun y => y.cps.toList).flatten, c < 1114112 := by
    intro ys
    induction ys with
    | nil => intro _; simp
    | cons y ys ih =>
      intro h
      obtain ⟨c, rfl, hc⟩ := h y (.head _)
      obtain ⟨h1, h2⟩ := ih fun y hy => h y (.tail _ hy)
      refine ⟨by simp [h1], fun d hd => ?_⟩
      simp only [List.map_cons, List.flatten_cons, List.mem_append] at hd
      rcases hd with hd | hd
      · simp at hd; omega
      · exact h2 d hd
  obtain ⟨h1, h2⟩ := key ys h
  exact ⟨by rw [tl_joinE, h1]; exact Nat.le_refl _, by rw [tl_joinE]; exact h2⟩
theorem joinP_one {ds : List D} (h : ∀ d ∈ ds, OneS d) (hl : ds.length ≤ 100000) : ∃ z, joinP "" (.lst ds) = some (.val (.str z)) ∧ Tx z ds.length := by
  obtain ⟨ys, e, l, k⟩ := strs_one h
  refine ⟨Txt.join "" ys, ?_, l ▸ join_one k⟩
  have hs : (ys.map (·.length)).sum = ys.length := by
    clear e l
    induction ys with
    | nil => rfl
    | cons y ys ih =>
      obtain ⟨c, rfl, hc⟩ := k y (.head _)
      rw [List.map_cons, List.sum_cons, ih fun y hy => k y (.tail _ hy)]
      show 1 + ys.length = ys.length + 1
      omega
  have hz : ("" : Str).length = 0 := rfl
  simp only [joinP, e, Option.bind_some, hs, hz]
  rw [if_pos (by omega)]
/-- a loop, its turns counted -/
theorem loop_count {t : Tg} {body : Fs} (P : Nat → Sg → Prop) : ∀ {ds : List D} {g : Sg} {k : Nat}, P k g → (∀ d ∈ ds, ∀ g j, j < k + ds.length → P j g → ∃ g1, tgF t d g = some g1 ∧ ∃ g2, (body g1 = .nx g2 ∨ body g1 = .ct g2) ∧ P (j + 1) g2) → ∃ g', loopF t body ds g = .nx g' ∧ P (k + ds.length) g'
  | [], g, k, h, _ => ⟨g, rfl, h⟩
  | d :: ds, g, k, h, s => by
    obtain ⟨g1, e1, g2, e2, h2⟩ := s d (.head _) g k (by simp) h
    obtain ⟨g', e3, h3⟩ := loop_count P (ds := ds) (k := k + 1) h2 fun d hd g j hj hg => s d (.tail _ hd) g j (by rw [List.length_cons]; omega) hg
    refine ⟨g', ?_, by rw [List.length_cons]; rw [Nat.add_right_comm] at h3; exact h3⟩
    unfold loopF
    rw [e1]
    rcases e2 with e2 | e2 <;> (simp only [e2]; exact e3)
theorem atI_last {xs : List Int} (h : xs ≠ []) : ∃ z, atI (xs.map D.int) (-1) = some (.int z) ∧ z ∈ xs := by
  have hl : 0 < xs.length := List.length_pos_iff.mpr h
  have hi : xs.length - 1 < xs.length := by omega
  refine ⟨xs[xs.length - 1], ?_, List.getElem_mem hi⟩
  have e : ((-1 : Int) + (xs.length : Int)).toNat = xs.length - 1 := by omega
  simp only [atI, ixN, List.length_map]
  rw [if_neg (by decide), if_pos (by omega)]
  simp [e, hi]
theorem log_small {n : Int} (h0 : 0 < n) (h1 : n ≤ 5000) : n.natAbs.log2 < 9000 := by
  have : n.natAbs < 2 ^ 13 := by omega
  have := (Nat.log2_lt (n := n.natAbs) (k := 13) (by omega)).mpr this
  omega
theorem rangeD_len (a : Int) (n : Nat) : (rangeD a n).length = n := by simp [rangeD]
/-- a comprehension without a test: each item to its own -/
theorem comp_rel {t : Tg} {fe : Ft} {vs : List Nat} (P : Sg → Prop) (A : D → D → Prop) : ∀ {ds : List D} {g : Sg} {acc : List D}, P g → acc.length + ds.length ≤ sizeLine →
    (∀ d ∈ ds, ∀ g, P g → ∃ g1, tgF t d g = some g1 ∧ ∃ x g3, noX (settle (fe g1)) = .ok x g3 ∧ ∃ y g4, frz1 x g3 = some (y, g4) ∧ P (wipeG g4 vs) ∧ A d y) →
    ∃ ys g', compL t none fe vs ds g acc = .ok (.fr (.lst (acc ++ ys))) g' ∧ P g' ∧ Paired A ds ys
  | [], g, acc, h, _, _ => ⟨[], g, by simp [compL], h, .nil⟩
  | d :: ds, g, acc, h, hl, k => by
    obtain ⟨g1, e1, x, g3, e2, y, g4, e3, h4, ha⟩ := k d (.head _) g h
    rw [List.length_cons] at hl
    obtain ⟨ys, g', e5, h5, a5⟩ := comp_rel P A (ds := ds) (acc := acc ++ [y]) h4 (by rw [List.length_append]; simp; omega) fun d hd g hg => k d (.tail _ hd) g hg
    refine ⟨y :: ys, g', ?_, h5, .cons ha a5⟩
    unfold compL
    have hl2 : acc.length < sizeLine := by omega
    rw [e1]
    simp only [e2, e3, if_pos hl2, e5, List.append_assoc, List.singleton_append]
theorem sortI_get {ns : List Int} {i j : Nat} {a b : Int} (hij : i ≤ j) (h1 : (sortI ns)[i]? = some a) (h2 : (sortI ns)[j]? = some b) : a ≤ b := by
  rcases Nat.lt_or_eq_of_le hij with h | h
  · obtain ⟨l1, rfl⟩ := List.getElem?_eq_some_iff.mp h1
    obtain ⟨l2, rfl⟩ := List.getElem?_eq_some_iff.mp h2
    exact List.pairwise_iff_getElem.mp (sortI_pw ns) i j l1 l2 h
  · subst h
    rw [h1] at h2
    cases h2
    exact Int.le_refl _
theorem sortI_len (ns : List Int) : (sortI ns).length = ns.length := (sortI_perm ns).length_eq
theorem sortI_mem {ns : List Int} {i : Nat} {a : Int} (h : (sortI ns)[i]? = some a) : a ∈ ns := (sortI_perm ns).mem_iff.mp (List.mem_of_getElem? h)
theorem sortQ_ints (ns : List Int) : sortQ [.lst (ns.map D.int)] = sortP [.lst (ns.map D.int)] := by
  cases ns with
  | nil => rfl
  | cons a r => rfl
end Vl

set_option Elab.async false
set_option linter.all false
set_option maxRecDepth 100000
set_option maxHeartbeats 4000000
/-! sorts by keys in plain Lean -/
namespace Vl
open PySem PySem.Spec PyProof.Rows L2 My
theorem keysO_map {κ α : Type} {h : D → Option κ} {f : α → D} {k : α → κ} : ∀ {l : List α}, (∀ a ∈ l, h (f a) = some (k a)) → keysO h (l.map f) = some (l.map k)
  | [], _ => rfl
  | a :: r, q => by
    simp only [List.map_cons, keysO, q a (.head _), Option.bind_some, keysO_map (l := r) fun b hb => q b (.tail _ hb), Option.map_some]
theorem sortD_map {κ α : Type} (T : KeyT κ) (l : List α) (f : α → D) (k : α → κ) : sortD T (l.map f) (l.map k) = (l.mergeSort fun a b => T.le (k a) (k b)).map f := by
  have e : (l.map f).zip (l.map k) = l.map fun a => (f a, k a) := by
    rw [List.zip_map']
  unfold sortD
  rw [e, ← List.map_mergeSort (r := fun a b => T.le (k a) (k b)) (s := fun (a b : D × κ) => T.le a.2 b.2) (f := fun a => (f a, k a)) (fun a _ b _ => rfl), List.map_map]
  rfl
theorem sortK_eq {κ α : Type} {T : KeyT κ} {kf : Sg → D → Option κ} {fe : Ft} {g g1 : Sg} {x : RV} {l : List α} {f : α → D} {k : α → κ} (h1 : settle (fe g) = .ok x g1) (h2 : (deref g1 x).bind itemsL = some (l.map f)) (hl : l.length ≤ sizeLine) (hk : ∀ a ∈ l, kf g1 (f a) = some (k a)) :
    sortK T kf fe g = .ok (.fr (.lst ((l.mergeSort fun a b => T.le (k a) (k b)).map f))) g1 := by
  unfold sortK
  rw [h1]
  simp only [Res.bind]
  rw [h2]
  unfold sortKK
  simp only
  rw [keysO_map hk]
  simp only
  rw [if_pos (by rw [List.length_map]; exact hl), sortD_map]
/-! ### what a stable sort gives -/
theorem sub2_mem {α : Type} {a b : α} {l : List α} (h : [a, b].Sublist l) : a ∈ l ∧ b ∈ l := ⟨h.subset (.head _), h.subset (.tail _ (.head _))⟩
theorem sub2_or {α : Type} {a b : α} : ∀ {l : List α}, a ∈ l → b ∈ l → a ≠ b → [a, b].Sublist l ∨ [b, a].Sublist l
  | x :: r, ha, hb, n => by
    by_cases h1 : a = x
    · by_cases h2 : b = x
      · exact (n (h1.trans h2.symm)).elim
      · subst h1
        exact .inl (.cons_cons _ (List.singleton_sublist.mpr ((List.mem_cons.mp hb).resolve_left h2)))
    · have hr := (List.mem_cons.mp ha).resolve_left h1
      by_cases h2 : b = x
      · subst h2
        exact .inr (.cons_cons _ (List.singleton_sublist.mpr hr))
      · exact (sub2_or hr ((List.mem_cons.mp hb).resolve_left h2) n).imp (·.cons _) (·.cons _)
theorem sub2_not {α : Type} {a b : α} : ∀ {l : List α}, l.Nodup → [a, b].Sublist l → [b, a].Sublist l → False
  | x :: r, n, h1, h2 => by
    obtain ⟨n1, n2⟩ := List.nodup_cons.mp n
    cases h1 with
    | cons _ h1 =>
      cases h2 with
      | cons _ h2 => exact sub2_not n2 h1 h2
      | cons_cons _ h2 => exact n1 (h1.subset (.tail _ (.head _)))
    | cons_cons _ h1 =>
      cases h2 with
      | cons _ h2 => exact n1 (h2.subset (.tail _ (.head _)))
      | cons_cons _ h2 => exact n1 (List.singleton_sublist.mp h1)
/-- in order; equal ones as they stood -/
theorem sort_stable {α : Type} {le : α → α → Bool} {S : α → α → Prop} {l : List α} (tr : ∀ a b c, le a b = true → le b c = true → le a c = true) (to : ∀ a b, (le a b || le b a) = true) (irr : ∀ a, ¬ S a a) (h : l.Pairwise S) :
    (l.mergeSort le).Pairwise fun a b => le a b = true ∧ (le b a = true → S a b) := by
  have nd : l.Nodup := h.imp (S := fun a b => a ≠ b) fun {a b} s e => irr b (by rw [e] at s; exact s)
  have nd2 : (l.mergeSort le).Nodup := (List.mergeSort_perm l le).nodup_iff.mpr nd
  have so := List.pairwise_mergeSort (le := le) tr to l
  rw [List.pairwise_iff_forall_sublist]
  intro a b hs
  have h1 := (List.pairwise_iff_forall_sublist.mp so) hs
  refine ⟨h1, fun hba => ?_⟩
  obtain ⟨ma, mb⟩ := sub2_mem hs
  have ma' := (List.mergeSort_perm l le).mem_iff.mp ma
  have mb' := (List.mergeSort_perm l le).mem_iff.mp mb
  have ne : a ≠ b := fun e => by
    subst e
    have := (List.pairwise_iff_forall_sublist.mp nd2) hs
    exact this rfl
  rcases sub2_or ma' mb' ne with k | k
  · exact (List.pairwise_iff_forall_sublist.mp h) k
  · exact (sub2_not nd2 hs (List.pair_sublist_mergeSort tr to hba k)).elim
theorem keyP_tr (a b c : Int × Int) (h1 : keyP.le a b = true) (h2 : keyP.le b c = true) : keyP.le a c = true := by
  simp only [keyP, decide_eq_true_eq] at *
  omega
theorem keyP_to (a b : Int × Int) : (keyP.le a b || keyP.le b a) = true := by
  simp only [keyP, Bool.or_eq_true, decide_eq_true_eq]
  omega
theorem keyI_tr (a b c : Int) (h1 : keyI.le a b = true) (h2 : keyI.le b c = true) : keyI.le a c = true := by
  simp only [keyI, decide_eq_true_eq] at *
  omega
theorem keyI_to (a b : Int) : (keyI.le a b || keyI.le b a) = true := by
  simp only [keyI, Bool.or_eq_true, decide_eq_true_eq]
  omega
end Vl

set_option Elab.async false
set_option linter.all false
set_option maxRecDepth 100000
set_option maxHeartbeats 4000000
/-! the value layer: steps through mirrors -/
namespace Vl
open PySem PySem.Spec PyProof.Rows L2 My
theorem seqF_rt {f k : Fs} {g g1 : Sg} {v : RV} (h : f g = .rt v g1) : seqF f k g = .rt v g1 := by unfold seqF; rw [h]
theorem seqF_exn {f k : Fs} {g g1 : Sg} {c : Str} {fs : List (Str × D)} (h : f g = .exn c fs g1) : seqF f k g = .exn c fs g1 := by unfold seqF; rw [h]
theorem kb_NoneType_bool : kitB "NoneType" "bool" = some false := by decide +kernel
theorem kb_NoneType_int : kitB "NoneType" "int" = some false := by decide +kernel
theorem kb_NoneType_str : kitB "NoneType" "str" = some false := by decide +kernel
theorem kb_NoneType_list : kitB "NoneType" "list" = some false := by decide +kernel
theorem kb_NoneType_tuple : kitB "NoneType" "tuple" = some false := by decide +kernel
theorem kb_NoneType_dict : kitB "NoneType" "dict" = some false := by decide +kernel
theorem kb_bool_bool : kitB "bool" "bool" = some true := by decide +kernel
theorem kb_bool_int : kitB "bool" "int" = some true := by decide +kernel
theorem kb_bool_str : kitB "bool" "str" = some false := by decide +kernel
theorem kb_bool_list : kitB "bool" "list" = some false := by decide +kernel
theorem kb_bool_tuple : kitB "bool" "tuple" = some false := by decide +kernel
theorem kb_bool_dict : kitB "bool" "dict" = some false := by decide +kernel
theorem kb_int_bool : kitB "int" "bool" = some false := by decide +kernel
theorem kb_int_int : kitB "int" "int" = some true := by decide +kernel
theorem kb_int_str : kitB "int" "str" = some false := by decide +kernel
theorem kb_int_list : kitB "int" "list" = some false := by decide +kernel
theorem kb_int_tuple : kitB "int" "tuple" = some false := by decide +kernel
theorem kb_int_dict : kitB "int" "dict" = some false := by decide +kernel
theorem kb_str_bool : kitB "str" "bool" = some false := by decide +kernel
theorem kb_str_int : kitB "str" "int" = some false := by decide +kernel
theorem kb_str_str : kitB "str" "str" = some true := by decide +kernel
theorem kb_str_list : kitB "str" "list" = some false := by decide +kernel
theorem kb_str_tuple : kitB "str" "tuple" = some false := by decide +kernel
theorem kb_str_dict : kitB "str" "dict" = some false := by decide +kernel
theorem kb_list_bool : kitB "list" "bool" = some false := by decide +kernel
theorem kb_list_int : kitB "list" "int" = some false := by decide +kernel
theorem kb_list_str : kitB "list" "str" = some false := by decide +kernel
theorem kb_list_list : kitB "list" "list" = some true := by decide +kernel
theorem kb_list_tuple : kitB "list" "tuple" = some false := by decide +kernel
theorem kb_list_dict : kitB "list" "dict" = some false := by decide +kernel
theorem kb_tuple_bool : kitB "tuple" "bool" = some false := by decide +kernel
theorem kb_tuple_int : kitB "tuple" "int" = some false := by decide +kernel
theorem kb_tuple_str : kitB "tuple" "str" = some false := by decide +kernel
theorem kb_tuple_list : kitB "tuple" "list" = some false := by decide +kernel
theorem kb_tuple_tuple : kitB "tuple" "tuple" = some true := by decide +kernel
theorem kb_tuple_dict : kitB "tuple" "dict" = some false := by decide +kernel
theorem kb_dict_bool : kitB "dict" "bool" = some false := by decide +kernel
theorem kb_dict_int : kitB "dict" "int" = some false := by decide +kernel
theorem kb_dict_str : kitB "dict" "str" = some false := by decide +kernel
theorem kb_dict_list : kitB "dict" "list" = some false := by decide +kernel
theorem kb_dict_tuple : kitB "dict" "tuple" = some false := by decide +kernel
theorem kb_dict_dict : kitB "dict" "dict" = some true := by decide +kernel
theorem tryA_hit {hs : List (Str × Bool)} {i : Nat} {fb : Fs} {fs : Addr → Addr → Str → Fs} {g g1 : Sg} {c : Str} {ds : List (Str × D)} {r : Rs} (h1 : fb g = .exn c ds g1) (h2 : hs.lookup c = some true) (h3 : ∀ a d, clr i (fs a d c (g1.set i (.val false (.exv a d c ds)))) = r) : tryA hs i fb fs g = r := by
  unfold tryA
  rw [h1]
  simp only [h2]
  rw [if_pos fun a d => (h3 a d).trans (h3 0 0).symm]
  exact h3 0 0
theorem tryA_miss {hs : List (Str × Bool)} {i : Nat} {fb : Fs} {fs : Addr → Addr → Str → Fs} {g : Sg} {r : Rs} (h1 : fb g = r) (h2 : ∀ c ds g1, r ≠ .exn c ds g1) : tryA hs i fb fs g = r := by
  unfold tryA
  rw [h1]
  cases r <;> first | rfl | exact absurd rfl (h2 _ _ _)
theorem lk_hit {β : Type} {a : Str} {b : β} {r : List (Str × β)} : List.lookup a ((a, b) :: r) = some b := by simp [List.lookup_cons]
theorem lk_miss {β : Type} {a k : Str} {b : β} {r : List (Str × β)} (h : ¬ a = k) : List.lookup a ((k, b) :: r) = List.lookup a r := by
  rw [List.lookup_cons, show (a == k) = false from by simpa using h]
theorem fn_go {k n : Nat} {f : Fs} {as : List Ar} (h : as.length = k) : fnM k n f as = fnK k (f (startG n as)) := by simp [fnM, h]
end Vl

set_option Elab.async false
set_option linter.all false
set_option maxRecDepth 100000
set_option maxHeartbeats 4000000
/-! the value layer: runs of signs, in plain Lean -/
namespace Vl
open PySem PySem.Spec PyProof.Rows L2 My
/-- a run: of the old text (none) or a new one; from, to -/
abbrev Rn := Option Int × Int × Int
abbrev Sn := Option Int × Int
def sg (r : Rn) : List Sn := (List.range (r.2.2 - r.2.1).toNat).map fun k : Nat => (r.1, r.2.1 + (k : Int))
def sgs (rs : List Rn) : List Sn := rs.flatMap sg
def Vd (rs : List Rn) : Prop := ∀ r ∈ rs, r.2.1 ≤ r.2.2
theorem sgs_nil : sgs [] = [] := rfl
theorem sgs_cons (r : Rn) (rs : List Rn) : sgs (r :: rs) = sg r ++ sgs rs := rfl
theorem sgs_app (a b : List Rn) : sgs (a ++ b) = sgs a ++ sgs b := List.flatMap_append
theorem sg_len (r : Rn) : (sg r).length = (r.2.2 - r.2.1).toNat := by simp [sg]
theorem sg_get (r : Rn) {k : Nat} (h : (k : Int) < r.2.2 - r.2.1) : (sg r)[k]? = some (r.1, r.2.1 + (k : Int)) := by
  unfold sg
  rw [List.getElem?_map, List.getElem?_range (by omega)]
  rfl
theorem sg_none (r : Rn) {k : Nat} (h : ¬ (k : Int) < r.2.2 - r.2.1) : (sg r)[k]? = none := by
  rw [List.getElem?_eq_none]
  rw [sg_len]
  omega
theorem sg_nil {r : Rn} (h : r.2.2 ≤ r.2.1) : sg r = [] := List.length_eq_zero_iff.mp (by rw [sg_len]; omega)
theorem sg_join {h : Option Int} {a b c : Int} (h1 : a ≤ b) (h2 : b ≤ c) : sg (h, a, b) ++ sg (h, b, c) = sg (h, a, c) := by
  refine List.ext_getElem? fun k => ?_
  by_cases hk : (k : Int) < b - a
  · rw [List.getElem?_append_left (by rw [sg_len]; show k < (b - a).toNat; omega), sg_get (h, a, b) hk, sg_get (h, a, c) (by show (k : Int) < c - a; omega)]
  · rw [List.getElem?_append_right (by rw [sg_len]; show (b - a).toNat ≤ k; omega), sg_len]
    by_cases hc : (k : Int) < c - a
    · rw [sg_get (h, a, c) hc, sg_get (h, b, c) (by show (((k - (b - a).toNat : Nat)) : Int) < c - b; omega)]
      show some (h, b + ((k - (b - a).toNat : Nat) : Int)) = some (h, a + (k : Int))
      congr 2
      omega
    · rw [sg_none (h, a, c) hc, sg_none (h, b, c) (by show ¬ (((k - (b - a).toNat : Nat)) : Int) < c - b; omega)]
/-! ### tidy rows -/
def tdStep (rows : List Rn) (r : Rn) : List Rn := if r.2.1 = r.2.2 then rows else match rows.getLast? with
  | some q => if q.1 = r.1 ∧ q.2.2 = r.2.1 then rows.dropLast ++ [(q.1, q.2.1, r.2.2)] else rows ++ [r]
  | none => rows ++ [r]
def tidy (rs : List Rn) : List Rn := rs.foldl tdStep []
def Nm : List Rn → Prop
  | [] => True
  | [r] => r.2.1 < r.2.2
  | r :: q :: t => r.2.1 < r.2.2 ∧ ¬ (r.1 = q.1 ∧ r.2.2 = q.2.1) ∧ Nm (q :: t)
theorem Nm.tail {r : Rn} : ∀ {t : List Rn}, Nm (r :: t) → Nm t
  | [], _ => trivial
  | _ :: _, h => h.2.2
theorem Nm.head {r : Rn} : ∀ {t : List Rn}, Nm (r :: t) → r.2.1 < r.2.2
  | [], h => h
  | _ :: _, h => h.1
theorem Nm.snoc {r q : Rn} (hr : r.2.1 < r.2.2) (hq : ¬ (q.1 = r.1 ∧ q.2.2 = r.2.1)) : ∀ {l : List Rn}, Nm (l ++ [q]) → Nm (l ++ [q] ++ [r])
  | [], h => ⟨h, hq, hr⟩
  | [x], h => ⟨h.1, h.2.1, h.2.2, hq, hr⟩
  | x :: y :: l, h => ⟨h.1, h.2.1, Nm.snoc (l := y :: l) hr hq h.2.2⟩
theorem Nm.ext {h : Option Int} {a b c : Int} (hc : b ≤ c) : ∀ {l : List Rn}, Nm (l ++ [(h, a, b)]) → Nm (l ++ [(h, a, c)])
  | [], hn => Int.lt_of_lt_of_le (show a < b from hn) hc
  | [x], hn => ⟨hn.1, hn.2.1, Int.lt_of_lt_of_le (show a < b from hn.2.2) hc⟩
  | x :: y :: l, hn => ⟨hn.1, hn.2.1, Nm.ext (l := y :: l) hc hn.2.2⟩
theorem snoc_of {α : Type} {l : List α} {q : α} (h : l.getLast? = some q) : l = l.dropLast ++ [q] := by
  have hne : l ≠ [] := fun z => by subst z; cases h
  rw [List.getLast?_eq_some_getLast hne] at h
  cases h
  exact (List.dropLast_concat_getLast hne).symm
theorem tdStep_nm {rows : List Rn} {r : Rn} (h : Nm rows) (hr : r.2.1 ≤ r.2.2) : Nm (tdStep rows r) := by
  unfold tdStep
  split
  · exact h
  · rename_i hne
    have hlt : r.2.1 < r.2.2 := by omega
    split
    · rename_i q hq
      have e := snoc_of hq
      split
      · rename_i hm
        rw [e] at h
        exact Nm.ext (by rw [hm.2]; exact hr) h
      · rename_i hm
        rw [e] at h ⊢
        exact Nm.snoc hlt hm h
    · rename_i hq
      rw [List.getLast?_eq_none_iff.mp hq]
      exact hlt
theorem nm_vd : ∀ {rs : List Rn}, Nm rs → Vd rs
  | [], _ => fun r h => nomatch h
  | r :: t, h => fun q hq => by
    rcases List.mem_cons.mp hq with rfl | hq
    · exact Int.le_of_lt h.head
    · exact nm_vd h.tail q hq
theorem tdStep_sgs {rows : List Rn} {r : Rn} (h : Nm rows) (hr : r.2.1 ≤ r.2.2) : sgs (tdStep rows r) = sgs rows ++ sg r := by
  unfold tdStep
  split
  · rename_i he
    rw [sg_nil (by omega), List.append_nil]
  · split
    · rename_i q hq
      have e := snoc_of hq
      split
      · rename_i hm
        have vq : q.2.1 ≤ q.2.2 := nm_vd h q (by rw [e]; exact List.mem_append_right _ (.head _))
        rw [sgs_app, sgs_cons, sgs_nil, List.append_nil]
        conv => rhs; rw [e]
        rw [sgs_app, sgs_cons, sgs_nil, List.append_nil, List.append_assoc]
        congr 1
        obtain ⟨q1, q2, q3⟩ := q
        obtain ⟨r1, r2, r3⟩ := r
        obtain ⟨m1, m2⟩ := hm
        dsimp only at m1 m2 vq hr ⊢
        subst m1 m2
        exact (sg_join vq hr).symm
      · rw [sgs_app, sgs_cons, sgs_nil, List.append_nil]
    · rw [sgs_app, sgs_cons, sgs_nil, List.append_nil]
theorem tidy_go : ∀ {rs rows : List Rn}, Nm rows → Vd rs → Nm (rs.foldl tdStep rows) ∧ sgs (rs.foldl tdStep rows) = sgs rows ++ sgs rs
  | [], rows, h, _ => ⟨h, (List.append_nil _).symm⟩
  | r :: rs, rows, h, v => by
    have hr := v r (.head _)
    obtain ⟨h1, h2⟩ := tidy_go (rs := rs) (tdStep_nm h hr) fun q hq => v q (.tail _ hq)
    exact ⟨h1, by rw [List.foldl_cons, h2, tdStep_sgs h hr, sgs_cons, List.append_assoc]⟩
theorem tidy_nm {rs : List Rn} (v : Vd rs) : Nm (tidy rs) := (tidy_go (rows := []) trivial v).1
theorem tidy_sgs {rs : List Rn} (v : Vd rs) : sgs (tidy rs) = sgs rs := (tidy_go (rows := []) trivial v).2
/-- rows that are tidy are told by their signs -/
theorem nm_eq : ∀ {r s : List Rn}, Nm r → Nm s → sgs r = sgs s → r = s
  | [], [], _, _, _ => rfl
  | [], q :: t, _, h, e => by
    have := congrArg List.length e
    rw [sgs_cons, sgs_nil, List.length_append, sg_len] at this
    have := h.head
    simp at *
    omega
  | q :: t, [], h, _, e => by
    have := congrArg List.length e
    rw [sgs_cons, sgs_nil, List.length_append, sg_len] at this
    have := h.head
    simp at *
    omega
  | (h, a, b) :: r, (k, c, d) :: s, hr, hs, e => by
    have ab : a < b := hr.head
    have cd : c < d := hs.head
    rw [sgs_cons, sgs_cons] at e
    have first : some (h, a + ((0 : Nat) : Int)) = some (k, c + ((0 : Nat) : Int)) := by
      have e0 := congrArg (fun l => l[0]?) e
      rwa [List.getElem?_append_left (by rw [sg_len]; show 0 < (b - a).toNat; omega), List.getElem?_append_left (by rw [sg_len]; show 0 < (d - c).toNat; omega), sg_get (h, a, b) (by show ((0 : Nat) : Int) < b - a; omega), sg_get (k, c, d) (by show ((0 : Nat) : Int) < d - c; omega)] at e0
    have hk : h = k ∧ a = c := by
      simp only [Option.some.injEq, Prod.mk.injEq] at first
      exact ⟨first.1, by omega⟩
    obtain ⟨rfl, rfl⟩ := hk
    -- the ends are equal
    have key : ∀ {b d : Int} {r s : List Rn}, a < b → b < d → Nm ((h, a, b) :: r) → sg (h, a, b) ++ sgs r = sg (h, a, d) ++ sgs s → False := by
      intro b d r s ab bd hr e
      have e1 := congrArg (fun l => l[(b - a).toNat]?) e
      rw [List.getElem?_append_right (by rw [sg_len]; exact Nat.le_refl _), sg_len, List.getElem?_append_left (by rw [sg_len]; show (b - a).toNat < (d - a).toNat; omega), sg_get (h, a, d) (by show (((b - a).toNat : Nat) : Int) < d - a; omega)] at e1
      cases r with
      | nil => simp [sgs_nil] at e1
      | cons q t =>
        obtain ⟨q1, q2, q3⟩ := q
        have hq : q2 < q3 := hr.tail.head
        rw [sgs_cons, List.getElem?_append_left (by rw [sg_len]; show (b - a).toNat - (b - a).toNat < (q3 - q2).toNat; omega), sg_get (q1, q2, q3) (by show (((b - a).toNat - (b - a).toNat : Nat) : Int) < q3 - q2; omega)] at e1
        simp only [Option.some.injEq, Prod.mk.injEq] at e1
        exact hr.2.1 ⟨e1.1.symm, by show b = q2; omega⟩
    have bd : b = d := by
      by_cases h1 : b < d
      · exact (key ab h1 hr e).elim
      · by_cases h2 : d < b
        · exact (key cd h2 hs e.symm).elim
        · omega
    subst bd
    rw [nm_eq hr.tail hs.tail (List.append_cancel_left e)]
/-! ### parts -/
def ptGo (l h : Int) : Int → List Rn → List Rn
  | _, [] => []
  | st, r :: t => (if max (l - st) 0 < min (h - st) (r.2.2 - r.2.1) then [(r.1, r.2.1 + max (l - st) 0, r.2.1 + min (h - st) (r.2.2 - r.2.1))] else []) ++ ptGo l h (st + (r.2.2 - r.2.1)) t
def part (rs : List Rn) (l h : Int) : List Rn := ptGo l h 0 rs
theorem sg_cut (r : Rn) (l h : Int) (hr : r.2.1 ≤ r.2.2) : sgs (if max l 0 < min h (r.2.2 - r.2.1) then [(r.1, r.2.1 + max l 0, r.2.1 + min h (r.2.2 - r.2.1))] else []) = ((sg r).take h.toNat).drop l.toNat := by
  refine List.ext_getElem? fun k => ?_
  rw [List.getElem?_drop, List.getElem?_take]
  split
  · rename_i hc
    rw [sgs_cons, sgs_nil, List.append_nil]
    by_cases hk : (k : Int) < min h (r.2.2 - r.2.1) - max l 0
    · rw [sg_get _ (show (k : Int) < r.2.1 + min h (r.2.2 - r.2.1) - (r.2.1 + max l 0) by omega), if_pos (by omega), sg_get r (by omega)]
      show some (r.1, r.2.1 + max l 0 + (k : Int)) = some (r.1, r.2.1 + ((l.toNat + k : Nat) : Int))
      congr 2
      omega
    · rw [sg_none _ (show ¬ (k : Int) < r.2.1 + min h (r.2.2 - r.2.1) - (r.2.1 + max l 0) by omega)]
      by_cases h2 : l.toNat + k < h.toNat
      · rw [if_pos h2, sg_none r (by omega)]
      · rw [if_neg h2]
  · rename_i hc
    rw [sgs_nil, List.getElem?_nil]
    by_cases h2 : l.toNat + k < h.toNat
    · rw [if_pos h2, sg_none r (by omega)]
    · rw [if_neg h2]
theorem part_sgs {l h : Int} : ∀ {rs : List Rn} {st : Int}, Vd rs → sgs (ptGo l h st rs) = ((sgs rs).take (h - st).toNat).drop (l - st).toNat
  | [], st, _ => by simp [ptGo, sgs_nil]
  | r :: t, st, v => by
    have hr := v r (.head _)
    rw [ptGo, sgs_app, part_sgs (rs := t) fun q hq => v q (.tail _ hq), sg_cut r (l - st) (h - st) hr, sgs_cons, List.take_append, List.drop_append, sg_len]
    congr 1
    rw [List.length_take, sg_len]
    by_cases hn : (r.2.2 - r.2.1).toNat ≤ (h - st).toNat
    · rw [Nat.min_eq_right hn]
      congr 1
      · omega
      · congr 1
        omega
    · have e1 : (h - (st + (r.2.2 - r.2.1))).toNat = 0 := by omega
      have e2 : (h - st).toNat - (r.2.2 - r.2.1).toNat = 0 := by omega
      rw [e1, e2, List.take_zero, List.drop_nil, List.drop_nil]
theorem part_ok {rs : List Rn} {l h : Int} (v : Vd rs) : sgs (part rs l h) = ((sgs rs).take h.toNat).drop l.toNat := by
  have := part_sgs (l := l) (h := h) (st := 0) v
  simpa [part] using this
/-- no part's run is empty -/
theorem part_lt {l h : Int} : ∀ {rs : List Rn} {st : Int}, ∀ r ∈ ptGo l h st rs, r.2.1 < r.2.2
  | [], st, r, hr => nomatch hr
  | q :: t, st, r, hr => by
    rw [ptGo, List.mem_append] at hr
    rcases hr with hr | hr
    · split at hr
      · rw [List.mem_singleton] at hr
        subst hr
        show q.2.1 + max (l - st) 0 < q.2.1 + min (h - st) (q.2.2 - q.2.1)
        omega
      · cases hr
    · exact part_lt r hr
theorem part_vd {rs : List Rn} {l h : Int} : Vd (part rs l h) := fun r hr => Int.le_of_lt (part_lt r hr)
theorem tidy_part {rs : List Rn} {l h : Int} (v : Vd rs) : tidy (part (tidy rs) l h) = tidy (part rs l h) :=
  nm_eq (tidy_nm part_vd) (tidy_nm part_vd) (by rw [tidy_sgs part_vd, tidy_sgs part_vd, part_ok (nm_vd (tidy_nm v)), part_ok v, tidy_sgs v])
/-- the number of signs -/
def size (rs : List Rn) : Int := (rs.map fun r => r.2.2 - r.2.1).sum
theorem size_len : ∀ {rs : List Rn}, Vd rs → size rs = ((sgs rs).length : Int)
  | [], _ => rfl
  | r :: t, v => by
    have hr := v r (.head _)
    have ih := size_len (rs := t) fun q hq => v q (.tail _ hq)
    rw [sgs_cons, List.length_append, sg_len]
    show (r.2.2 - r.2.1) + size t = _
    rw [ih]
    omega
/-- rows whose signs are one -/
theorem one_run {rs : List Rn} {x : Sn} (hl : ∀ r ∈ rs, r.2.1 < r.2.2) (h : sgs rs = [x]) : rs = [(x.1, x.2, x.2 + 1)] := by
  match rs, hl, h with
  | [], _, h => cases h
  | r :: t, hl, h =>
    have hr := hl r (.head _)
    have e := congrArg List.length h
    rw [sgs_cons, List.length_append, sg_len] at e
    match t, hl, h, e with
    | [], _, h, e =>
      rw [sgs_cons, sgs_nil, List.append_nil] at h
      have e0 := congrArg (fun l => l[0]?) h
      rw [sg_get r (by show ((0 : Nat) : Int) < r.2.2 - r.2.1; omega)] at e0
      simp only [List.getElem?_cons_zero, Option.some.injEq] at e0
      obtain ⟨r1, r2, r3⟩ := r
      subst e0
      simp only [List.length_singleton, sgs_nil, List.length_nil] at e
      dsimp only at e hr ⊢
      congr 3
      · omega
      · omega
    | q :: t, hl, h, e =>
      have hq := hl q (.tail _ (.head _))
      rw [sgs_cons, List.length_append, sg_len] at e
      simp only [List.length_singleton] at e
      omega
/-- where a sign comes from, by rows -/
def orig : List Rn → Int → Option Sn
  | [], _ => none
  | r :: t, p => if p < r.2.2 - r.2.1 then some (r.1, r.2.1 + p) else orig t (p - (r.2.2 - r.2.1))
theorem orig_ok : ∀ {rs : List Rn} {p : Int}, Vd rs → 0 ≤ p → orig rs p = (sgs rs)[p.toNat]?
  | [], p, _, _ => rfl
  | r :: t, p, v, h0 => by
    have hr := v r (.head _)
    rw [orig, sgs_cons]
    split
    · rename_i hp
      rw [List.getElem?_append_left (by rw [sg_len]; omega), sg_get r (by omega)]
      congr 2
      omega
    · rename_i hp
      rw [orig_ok (rs := t) (fun q hq => v q (.tail _ hq)) (by omega), List.getElem?_append_right (by rw [sg_len]; omega), sg_len]
      congr 1
      omega
end Vl

set_option Elab.async false
set_option linter.all false
set_option maxRecDepth 100000
set_option maxHeartbeats 4000000
/-! the value layer: runs as values -/
namespace Vl
open PySem PySem.Spec PyProof.Rows L2 My
def hdD : Option Int → D
  | none => .tup [.str "old"]
  | some i => .tup [.str "new", .int i]
def snD : Sn → D
  | (none, p) => .tup [.str "old", .int p]
  | (some i, p) => .tup [.str "new", .int i, .int p]
def runD : Rn → D
  | (none, a, b) => .tup [.str "old", .int a, .int b]
  | (some i, a, b) => .tup [.str "new", .int i, .int a, .int b]
theorem run_m2 (r : Rn) : ixP (runD r) (.int (-2)) = some (.val (.int r.2.1)) := by
  obtain ⟨h, a, b⟩ := r
  cases h <;> rfl
theorem run_m1 (r : Rn) : ixP (runD r) (.int (-1)) = some (.val (.int r.2.2)) := by
  obtain ⟨h, a, b⟩ := r
  cases h <;> rfl
theorem run_hd (r : Rn) : slP (runD r) none (some (-2)) = some (.val (hdD r.1)) := by
  obtain ⟨h, a, b⟩ := r
  cases h <;> rfl
theorem run_sn (r : Rn) : slP (runD r) none (some (-1)) = some (.val (snD (r.1, r.2.1))) := by
  obtain ⟨h, a, b⟩ := r
  cases h <;> rfl
theorem run_tl (r : Rn) : slP (runD r) (some (-1)) none = some (.val (.tup [.int r.2.2])) := by
  obtain ⟨h, a, b⟩ := r
  cases h <;> rfl
theorem hd_tup (h : Option Int) : tupleP [hdD h] = some (.val (hdD h)) := by cases h <;> rfl
theorem run_tup (r : Rn) : tupleP [runD r] = some (.val (runD r)) := by
  obtain ⟨h, a, b⟩ := r
  cases h <;> rfl
theorem hd_add (h : Option Int) (a b : Int) : addP (hdD h) (.tup [.int a, .int b]) = some (.val (runD (h, a, b))) := by cases h <;> rfl
theorem hd_add1 (h : Option Int) (a : Int) : addP (hdD h) (.tup [.int a]) = some (.val (snD (h, a))) := by cases h <;> rfl
theorem sn_add (s : Sn) (c : Int) : addP (snD s) (.tup [.int c]) = some (.val (runD (s.1, s.2, c))) := by
  obtain ⟨h, a⟩ := s
  cases h <;> rfl
theorem sn_istup (s : Sn) : isiP "tuple" (snD s) = some (.val (.bl true)) := by
  obtain ⟨h, a⟩ := s
  cases h <;> simp [snD, isiP, tyN, kb_tuple_tuple]
theorem so_old : PyData.strOk (Str.ofString "old") = true := by decide +kernel
theorem so_new : PyData.strOk (Str.ofString "new") = true := by decide +kernel
theorem ne_on : ¬ Str.ofString "old" = Str.ofString "new" := by decide +kernel
theorem ne_no : ¬ Str.ofString "new" = Str.ofString "old" := by decide +kernel
theorem beq_d (p q : Int) : (p == q) = decide (p = q) := rfl
theorem hd_eq (a b : Option Int) : eqD (hdD a) (hdD b) = some (decide (a = b)) := by
  cases a <;> cases b <;> simp [eqD, scD, hdD, toP, toPs, SeqAt.shaped, PyData.canLay0, PyData.canLayAll0, PyData.depth, PyData.depthAll, PyData.eqv, PyData.eqvAll, so_old, so_new, ne_on, ne_no, beq_d]
theorem sn_eq (a b : Sn) : eqD (snD a) (snD b) = some (decide (a = b)) := by
  obtain ⟨a, p⟩ := a
  obtain ⟨b, q⟩ := b
  cases a <;> cases b <;> simp [eqD, scD, snD, toP, toPs, SeqAt.shaped, PyData.canLay0, PyData.canLayAll0, PyData.depth, PyData.depthAll, PyData.eqv, PyData.eqvAll, so_old, so_new, ne_on, ne_no, beq_d]
/-- as told to the comparison -/
def runP : Rn → PyData
  | (none, a, b) => .tuple [.str "old", .int a, .int b]
  | (some i, a, b) => .tuple [.str "new", .int i, .int a, .int b]
theorem toP_run (r : Rn) : toP (runD r) = some (runP r) := by
  obtain ⟨h, a, b⟩ := r
  cases h <;> rfl
theorem toPs_runs : ∀ rs : List Rn, toPs (rs.map runD) = some (rs.map runP)
  | [] => rfl
  | r :: t => by rw [List.map_cons, toPs, toP_run, toPs_runs t]; rfl
theorem canLay_runs : ∀ rs : List Rn, PyData.canLayAll0 (rs.map runP) = true
  | [] => rfl
  | r :: t => by
    have ih := canLay_runs t
    obtain ⟨h, a, b⟩ := r
    cases h <;> simp [runP, PyData.canLayAll0, PyData.canLay0, ih, so_old, so_new]
theorem depth_runs : ∀ rs : List Rn, PyData.depthAll (rs.map runP) ≤ 1
  | [] => by simp [PyData.depthAll]
  | r :: t => by
    have ih := depth_runs t
    obtain ⟨h, a, b⟩ := r
    cases h <;> simp [runP, PyData.depthAll, PyData.depth] <;> omega
theorem eqv_run (r q : Rn) : PyData.eqv (runP r) (runP q) = decide (r = q) := by
  obtain ⟨h, a, b⟩ := r
  obtain ⟨k, c, d⟩ := q
  cases h <;> cases k <;> simp [runP, PyData.eqv, PyData.eqvAll, so_old, so_new, ne_on, ne_no, beq_d]
theorem eqv_runs : ∀ rs qs : List Rn, PyData.eqvAll (rs.map runP) (qs.map runP) = decide (rs = qs)
  | [], [] => rfl
  | [], q :: t => by simp [PyData.eqvAll]
  | r :: t, [] => by simp [PyData.eqvAll]
  | r :: t, q :: u => by simp [PyData.eqvAll, eqv_run, eqv_runs t u]
theorem runs_eq (rs qs : List Rn) : eqD (.lst (rs.map runD)) (.lst (qs.map runD)) = some (decide (rs = qs)) := by
  have h1 : ∀ rs : List Rn, SeqAt.shaped (.list (rs.map runP)) = true := fun rs => by
    have := depth_runs rs
    simp [SeqAt.shaped, PyData.canLay0, canLay_runs, PyData.depth]
    omega
  have s1 : scD (.lst (rs.map runD)) (.lst (qs.map runD)) = none := rfl
  unfold eqD
  rw [s1]
  simp only [toP, toPs_runs, Option.map_some]
  rw [if_pos ⟨h1 _, h1 _⟩]
  simp [PyData.eqv, eqv_runs]
theorem runs_eqT (rs qs : List Rn) : eqD (.tup (rs.map runD)) (.tup (qs.map runD)) = some (decide (rs = qs)) := by
  have h1 : ∀ rs : List Rn, SeqAt.shaped (.tuple (rs.map runP)) = true := fun rs => by
    have := depth_runs rs
    simp [SeqAt.shaped, PyData.canLay0, canLay_runs, PyData.depth]
    omega
  have s1 : scD (.tup (rs.map runD)) (.tup (qs.map runD)) = none := rfl
  unfold eqD
  rw [s1]
  simp only [toP, toPs_runs, Option.map_some]
  rw [if_pos ⟨h1 _, h1 _⟩]
  simp [PyData.eqv, eqv_runs]
theorem runs_nil (rs : List Rn) : eqD (.lst (rs.map runD)) (.lst []) = some (decide (rs = [])) := runs_eq rs []
theorem runs_last {rs : List Rn} {q : Rn} (h : rs.getLast? = some q) : ixP (.lst (rs.map runD)) (.int (-1)) = some (.val (runD q)) := by
  obtain ⟨l, rfl⟩ : ∃ l, rs = l ++ [q] := ⟨_, snoc_of h⟩
  have e : ((-1 : Int) + ((l.length : Int) + 1)).toNat = l.length := by omega
  simp only [ixP, atI, ixN, List.length_map, List.length_append, List.length_singleton]
  rw [if_neg (by decide), if_pos (by omega)]
  simp [e]
/-- the last of a list, put anew -/
theorem runs_set {l : List Rn} {q r : Rn} : ((l ++ [q]).map runD).set l.length (runD r) = (l ++ [r]).map runD := by
  simp [List.set_append]
theorem ins_runs : ∀ rs : List Rn, intsD (rs.map fun r => D.int (r.2.2 - r.2.1)) = some (rs.map fun r => r.2.2 - r.2.1)
  | rs => by
    have := intsD_map (rs.map fun r => r.2.2 - r.2.1)
    rwa [List.map_map] at this
theorem sum_runs (rs : List Rn) : sumP [.lst (rs.map fun r => D.int (r.2.2 - r.2.1))] = some (.val (.int (size rs))) := by
  simp only [sumP, ins_runs, Option.map_some, size]
/-- a loop that goes along a list: what it gathers -/
theorem loop_fold {α β : Type} {t : Tg} {body : Fs} (F : α → D) (P : Nat → β → Sg → Prop) (step : β → α → β) : ∀ {xs : List α} {k : Nat} {b : β} {g : Sg}, P k b g →
    (∀ x ∈ xs, ∀ j b g, j < k + xs.length → P j b g → ∃ g1, tgF t (F x) g = some g1 ∧ ∃ g2, (body g1 = .nx g2 ∨ body g1 = .ct g2) ∧ P (j + 1) (step b x) g2) → ∃ g', loopF t body (xs.map F) g = .nx g' ∧ P (k + xs.length) (xs.foldl step b) g'
  | [], k, b, g, h, _ => ⟨g, rfl, h⟩
  | x :: xs, k, b, g, h, s => by
    obtain ⟨g1, e1, g2, e2, h2⟩ := s x (.head _) k b g (by simp) h
    obtain ⟨g', e3, h3⟩ := loop_fold F P step (xs := xs) (k := k + 1) h2 fun x hx j b g hj hg => s x (.tail _ hx) j b g (by rw [List.length_cons]; omega) hg
    refine ⟨g', ?_, by rw [List.length_cons]; rw [Nat.add_right_comm] at h3; exact h3⟩
    rw [List.map_cons]
    unfold loopF
    rw [e1]
    rcases e2 with e2 | e2 <;> (simp only [e2]; exact e3)
end Vl

set_option Elab.async false
set_option linter.all false
set_option maxRecDepth 100000
set_option maxHeartbeats 2000000
/-! the value layer: list(range(a, b)) -/
namespace Vl
open PySem PySem.Spec PyProof.Rows L2 My
def listRg2 (fe fu : Ft) : Ft := fun g => (settle (fe g)).bind fun x g1 => match deref g1 x with
  | some (.int i) => (settle (fu g1)).bind fun y g2 => (match deref g2 y with
    | some (.int j) => if 0 ≤ i ∧ i ≤ 16777216 ∧ 0 ≤ j ∧ j ≤ 16777216 then .ok (.fr (.lst (rangeD i (j - i).toNat))) g2 else .stuck
    | _ => .stuck)
  | _ => .stuck
theorem rgV_rangeD {K : PySem.W.Frag} {I : Hp} (i j : Int) : Reps K I (rgV i j) (rangeD i (j - i).toNat) := by
  unfold rgV rangeD
  have : ∀ l : List Nat, Reps K I (l.map fun n => V.int (i + (n : Nat))) (l.map fun n => D.int (i + (n : Nat))) := by
    intro l
    induction l with
    | nil => exact .nil
    | cons a r ih => exact .cons (.int _) ih
  exact this _
section
variable {X : Cx} {W : WX} {e u : Expr} {fe fu : Ft} {p z pos kp : Pos}
theorem ve_listRg2 (hc : X.calm = true) (hg : Gl X "list") (hm : X.mg "list" = none) (hg2 : Gl X "range") (hm2 : X.mg "range" = none) (he : VE X W e fe) (hu : VE X W u fu)
    (na : starEach [e, u] X.env = (false, eval e X.env) :: starEach [u] X.env := by rfl) (nb : starEach [u] X.env = (false, eval u X.env) :: starEach [] X.env := by rfl) (hp : (backTo kp (starEach [u] X.env)).any (·.1) = false := by rfl)
    (na2 : starEach [.Call (.Name "range" z) [e, u] [] kp] X.env = (false, eval (.Call (.Name "range" z) [e, u] [] kp) X.env) :: starEach [] X.env := by rfl) :
    VE X W (.Call (.Name "list" p) [.Call (.Name "range" z) [e, u] [] kp] [] pos) (listRg2 fe fu) := by
  refine ⟨pe_imp (pe_listRg hc hg hm (prg_2 hg2 hm2 he.pe hu.pe na nb hp) na2) fun σ H Q ⟨I, g, o, r⟩ => ?_⟩
  refine ⟨I, g, o, Rem.settle ((Rem.bind (R := RvR X.K) r).mono ?_)⟩
  rintro v H1 ⟨I1, g1, x, o1, y1, rx, r1⟩
  split at r1
  · rename_i i q
    have rd := deref_rd (c := ⟨I1, σ, H1, g1⟩) o1 rx q
    refine ⟨I1, g1, o1, Rem.settle ((Rem.bind (R := RvR X.K) r1).mono ?_)⟩
    rintro v2 H2 ⟨I2, g2, x2, o2, y2, rx2, r2⟩
    split at r2
    · rename_i j q2
      split at r2
      · rename_i hn
        have rd2 := deref_rd (c := ⟨I2, σ, H2, g2⟩) o2 rx2 q2
        refine ⟨i, j, rd.int, rd2.int, RgOk.of_le hn.1 hn.2.2.2 hn.2.1 hn.2.2.1, fun q hq => ?_⟩
        have nI : I2 q = none := by
          cases z : I2 q with
          | none => rfl
          | some u => exact (no_some hq (o2.sub _ _ z)).elim
        refine r2 I2 _ (.ref q) (o2.new (Xb.new hq)) (Go.new (Xb.new hq)) ⟨q, rfl, ⟨_, upd_same, rgV_rangeD i j⟩, nI, fun w => ?_, hq⟩
        obtain ⟨u, hu⟩ := o2.own_some (a := q) w
        exact no_some hq hu
      · exact r2.elim
    · exact r2.elim
  · exact r1.elim
end
section
variable {X : Cx} {W : WX} {elt tg iter : Expr} {ifs : List Expr} {scope : Scope} {own : List (Str × Nat)} {pos : Pos} {fi : Fi} {t : Tg} {tt : Option Fb} {fe : Ft}
theorem vs_setCompS {i : Nat} {y : Str} {py spos : Pos} (hc : X.calm = true) (hN : X.N.Nodup) (hy : X.N[i]? = some y) (hyl : X.env.scope.names.lookup y = some .local)
    (hsw : swapsWith (.ListComp elt [⟨tg, iter, ifs, 0⟩] scope pos) (some (.Name y py)) spos.line X.env = pure true) (hi : VI X W tg iter fi) (ok : BlkOk X.N X.env.scope scope own) (hn : ∀ i ∈ t.ns, i ∈ own.map (·.2))
    (hg : ∀ (s : Shared) (H : Hp) (C : Addr) (cl : List (Str × Addr)) (fp : List Addr), VG (X.blk s H scope (compEnvC scope cl C X.env) fp) tg t) (ht : ∀ (s : Shared) (H : Hp) (C : Addr) (cl : List (Str × Addr)) (fp : List Addr), VTs (X.blk s H scope (compEnvC scope cl C X.env) fp) ifs tt)
    (he : ∀ (s : Shared) (H : Hp) (C : Addr) (cl : List (Str × Addr)) (fp : List Addr), VE (X.blk s H scope (compEnvC scope cl C X.env) fp) W0 elt fe) (hs : ∀ x, foldedSetIterable iter X.env x = pure x := by intro _; rfl) :
    VS X W (.Assign [.Name y py] (.ListComp elt [⟨tg, iter, ifs, 0⟩] scope pos) spos) (setF i (settleF (compF fi t tt fe (own.map (·.2))))) := by
  refine ⟨ps_imp' (ps_setLc (g := rdG X.K t) (tt := rdTs X.K tt) (te := rdE X.K W0 fe) hc hN hy hyl hsw hi.pi ok (fun s H C cl fp => (hg s H C cl fp).pg) (fun s H C cl fp => (ht s H C cl fp).pts) (fun s H C cl fp => (he s H C cl fp).pe) hs) fun D σ H ⟨I, g, o, r⟩ => ?_⟩
  refine comp_rd hn ⟨I, g, o, Rem.settle ((RemS.bindE (R := RvR X.K) r).mono ?_)⟩
  rintro v H1 ⟨I1, g1, x, o1, y1, rx, r1⟩
  exact setK_ok o1 y1 rx r1
end
end Vl

set_option Elab.async false
set_option linter.all false
set_option maxRecDepth 100000
set_option maxHeartbeats 2000000
/-! the value layer: defs with a star parameter -/
namespace Vl
open PySem PySem.Spec PyProof.Rows L2 My
def valsA : List Ar → Option (List D)
  | [] => some []
  | .val d :: r => (valsA r).map (d :: ·)
  | .own _ :: _ => none
/-- k parameters, then *p: m takes the tuple -/
def starM (k : Nat) (m : Fm) : Fm := fun as => if k ≤ as.length ∧ as.length ≤ 1000 then (match valsA (as.drop k) with | some ds => m (as.take k ++ [.val (.tup ds)]) | none => .stuck) else .stuck
theorem valsA_no : ∀ {as : List Ar} {ds : List D} {j : Nat} {d : D}, valsA as = some ds → as[j]? ≠ some (.own d)
  | [], _, _, _, _, h => by simp at h
  | .val x :: r, ds, 0, d, _, h => by simp at h
  | .val x :: r, ds, j + 1, d, e, h => by
    unfold valsA at e
    rw [Option.map_eq_some_iff] at e
    obtain ⟨ds', e, _⟩ := e
    exact valsA_no (j := j) (d := d) e (by simpa using h)
  | .own x :: r, ds, _, _, e, _ => by cases e
theorem valsA_reps {K : PySem.W.Frag} {I H : Hp} : ∀ {vs : List V} {as : List Ar} {ds : List D}, Paired (ArR K I H) vs as → valsA as = some ds → Reps K I vs ds
  | _, _, _, .nil, e => by cases e; exact .nil
  | _, .val x :: r, ds, .cons h t, e => by
    unfold valsA at e
    rw [Option.map_eq_some_iff] at e
    obtain ⟨ds', e, rfl⟩ := e
    exact .cons h (valsA_reps t e)
  | _, .own x :: r, ds, .cons h t, e => by cases e
theorem paired_len2 {α β : Type} {R : α → β → Prop} : ∀ {xs : List α} {ys : List β}, Paired R xs ys → xs.length = ys.length
  | _, _, .nil => rfl
  | _, _, .cons _ t => congrArg (· + 1) (paired_len2 t)
theorem paired_drop {α β : Type} {R : α → β → Prop} : ∀ {xs : List α} {ys : List β} (k : Nat), Paired R xs ys → Paired R (xs.drop k) (ys.drop k)
  | _, _, 0, h => h
  | _, _, k + 1, .nil => .nil
  | _, _, k + 1, .cons _ t => paired_drop k t
theorem paired_take {α β : Type} {R : α → β → Prop} : ∀ {xs : List α} {ys : List β} (k : Nat), Paired R xs ys → Paired R (xs.take k) (ys.take k)
  | _, _, 0, h => .nil
  | _, _, k + 1, .nil => .nil
  | _, _, k + 1, .cons h t => .cons h (paired_take k t)
theorem paired_snoc {α β : Type} {R : α → β → Prop} {a : α} {b : β} (h : R a b) : ∀ {xs : List α} {ys : List β}, Paired R xs ys → Paired R (xs ++ [a]) (ys ++ [b])
  | _, _, .nil => .cons h .nil
  | _, _, .cons g t => .cons g (paired_snoc h t)
theorem take_snoc {α : Type} {l : List α} {k : Nat} {x y : α} {j : Nat} (hk : k ≤ l.length) (h : (l.take k ++ [x])[j]? = some y) : (j < k ∧ l[j]? = some y) ∨ (j = k ∧ x = y) := by
  by_cases hj : j < k
  · rw [List.getElem?_append_left (by rw [List.length_take]; omega), List.getElem?_take, if_pos hj] at h
    exact .inl ⟨hj, h⟩
  · rw [List.getElem?_append_right (by rw [List.length_take]; omega), List.length_take, Nat.min_eq_left hk] at h
    by_cases hz : j - k = 0
    · rw [hz] at h
      exact .inr ⟨by omega, by simpa using h⟩
    · rw [List.getElem?_eq_none (by simp; omega)] at h
      cases h
theorem snoc_take {α : Type} {l : List α} {k j : Nat} {x : α} (hk : k ≤ l.length) (hj : j < k) : (l.take k ++ [x])[j]? = l[j]? := by
  rw [List.getElem?_append_left (by rw [List.length_take]; omega), List.getElem?_take, if_pos hj]
theorem star_sp {K : PySem.W.Frag} {k : Nat} {m : Fm} {vs : List V} {H : Hp} {Q : VK} {E : XK} (h : spV K (starM k m) vs H Q E) :
    ∃ ws rest, vs = ws ++ rest ∧ ws.length = k ∧ rest.length ≤ sizeLine ∧ ∀ p H', Fr H p → Xb [] H H' → H' p = some (.tup rest) → spV K m (ws ++ [V.ref p]) H' Q E := by
  obtain ⟨I, as, le, tb, pr, ap, r⟩ := h
  unfold starM at r
  split at r
  rotate_left
  · exact r.elim
  rename_i hk
  cases ev : valsA (as.drop k) with
  | none => rw [ev] at r; exact r.elim
  | some ds =>
  rw [ev] at r
  dsimp only at r
  have hl := paired_len2 pr
  refine ⟨vs.take k, vs.drop k, (List.take_append_drop k vs).symm, by rw [List.length_take]; omega, by rw [List.length_drop]; simp only [sizeLine]; omega, fun p H' fr x hp => ?_⟩
  have rr := valsA_reps (paired_drop k pr) ev
  have nI : I p = none := by
    cases q : I p with
    | none => rfl
    | some u => exact (no_some fr.e (le p u q)).elim
  have l1 : Le I (upd I p (.tup (vs.drop k))) := Le.upd nI
  have lo : ∀ (j : Nat) (d : D), as[j]? = some (.own d) → j < k := fun j d e => by
    by_cases hj : j < k
    · exact hj
    · have : (as.drop k)[j - k]? = some (.own d) := by rw [List.getElem?_drop, show k + (j - k) = j by omega]; exact e
      exact (valsA_no ev this).elim
  have mine : ∀ b, Mine (vs.take k ++ [V.ref p]) (as.take k ++ [.val (.tup ds)]) b → Mine vs as b := fun b ⟨j, e, h1, h2⟩ => by
    rcases take_snoc hk.1 h1 with ⟨hj, h1⟩ | ⟨_, h1⟩
    · rw [snoc_take (by omega) hj] at h2
      exact ⟨j, e, h1, h2⟩
    · cases h1
  have wld : ∀ {I3 H3 : Hp}, Wld K (upd I p (.tup (vs.drop k))) H' (vs.take k ++ [V.ref p]) (as.take k ++ [.val (.tup ds)]) I3 H3 → Wld K I H vs as I3 H3 := fun {I3 H3} wl => by
    refine ⟨wl.le, l1.trans wl.sub, fun b o e n nt => wl.keep b o (x.get0 e) (fun q => n (mine b q)) nt, fun b e => x.free (fun z => nomatch z) (wl.dom b e), fun b e e' => ?_, wl.nt, wl.tab⟩
    by_cases hb : b = p
    · exact .inr (hb ▸ fr.e)
    · rcases wl.grow b (by rw [upd_ne hb]; exact e) e' with z | z
      · exact .inl (mine b z)
      · exact .inr (x.free (fun z => nomatch z) z)
  refine ⟨upd I p (.tup (vs.drop k)), as.take k ++ [.val (.tup ds)], fun b u e => ?_, ⟨tb.1.upd .tup, tb.2.mono l1 fun b ps e => x.get0 e⟩, paired_snoc (.tup (SqT.of upd_same) (rr.mono l1)) (paired_mapI (paired_take k pr) fun i v y e1 e2 q => q.mono l1 fun b e ey ev => ?_), fun i j e e' h1 h2 q => ?_, ?_⟩
  · by_cases z : b = p
    · subst z
      rw [upd_same] at e
      rw [← e]
      exact hp
    · rw [upd_ne z] at e
      exact x.get0 (le b u e)
  · subst ey ev
    obtain ⟨c, h1, h2, h3⟩ := q
    cases h1
    obtain ⟨u, hu⟩ := h2.some
    refine ⟨(x.get0 hu).trans hu.symm, ?_⟩
    rw [upd_ne (ne_of_none hu fr.e)]
    exact h3
  · rcases take_snoc hk.1 h1 with ⟨hi, h1⟩ | ⟨_, h1⟩
    · rcases take_snoc hk.1 h2 with ⟨hj, h2⟩ | ⟨_, h2⟩
      · rw [snoc_take (by omega) hi, snoc_take (by omega) hj] at q
        exact ap i j e e' h1 h2 q
      · cases h2
    · cases h1
  · cases em : m (as.take k ++ [.val (.tup ds)]) with
    | stuck => rw [em] at r; exact r.elim
    | exn c fs =>
      rw [em] at r
      exact fun I3 H3 e wl h1 h2 h3 => r I3 H3 e (wld wl) h1 (x.free (fun z => nomatch z) h2) h3
    | ok rv outs =>
      rw [em] at r
      intro I3 H3 v wl ho hr
      refine r I3 H3 v (wld wl) (fun j d a h1 h2 => ho j d a ?_ ?_) ?_
      · rw [snoc_take hk.1 (lo j d h1)]; exact h1
      · rw [snoc_take (by omega) (lo j d h1)]; exact h2
      · cases rv with
        | val d => exact hr
        | at_ i => exact hr
        | fr d =>
          obtain ⟨a, e1, e2, e3, e4⟩ := hr
          exact ⟨a, e1, e2, e3, x.free (fun z => nomatch z) e4⟩
section
variable {P : Program} {w : World} {K : PySem.W.Frag} {mg : Str → Option Value} {base : Heap} {x qual : Str} {params : Arguments} {body : List Stmt} {scope : Scope} {kws : List (Str × V)} {f : Addr} {fd : FuncData} {N ps : List Str} {pv : Str} {k : Nat} {m : Fm}
theorem okStar (F : FunD K x qual params body scope [] kws f fd) (S : FnScope N (ps ++ [pv]) scope)
    (hb : ∀ (kV doc pm : Value) (an : Option Addr) (cdv ct : Value) (us rest : List Value), us.length = ps.length → bindArgs (PySem.W.fnOf x qual params body scope .none kV doc pm an cdv ct) ⟨us ++ rest, []⟩ = (newTuple rest >>= fun t => pure (ps.zip us ++ [(pv, t)])))
    (hbody : ∀ (cdv : Value) (A : Around) (outer : List Env) (s : Shared) (H : Hp) (vs : List V) (Q : VK) (E : XK), Room k (A.deeper (envOfC qual scope s.heap.objs.size f cdv)) → spV K m vs H Q E →
      ∃ t, PSs (cxOf (L2.CX P w) P w K mg base N qual scope f cdv A outer s H E) body t ∧ t { nx := fun _ H' => Q .non H', rt := Q } (start N vs) H) :
    FnR P w K mg base (L2.CX P w) (k + 1) f (spV K (starM ps.length m)) :=
  FnR.imp (okV F S hb hbody) fun vs H Q E h => star_sp h
end
end Vl

set_option Elab.async false
set_option linter.all false
set_option maxRecDepth 100000
set_option maxHeartbeats 4000000
namespace Vl
open PySem PySem.Spec PyProof.Rows L2 My
def b_Order_init_0 : Fs := (iteS (orB (blF (op2 geP (nameF 2) (cF (.int 6)))) (blF (op2 notInP (nameF 3) (cF (.tup [(.str "sort begin"), (.str "sort end"), (.str "sort begin down"), (.str "sort end down"), (.str "reverse")]))))) (raiseF1 "BadOrder" "entry" (nameF 3)) .nx)
def r_Order_init : Fm := fnM 2 4 (seqF (forF (argsI enumOf [(nameF 1)]) (.tup [(.name 2), (.name 3)]) b_Order_init_0)
    (setA 0 "passes" [("Order", none)] (callF tupleP [(nameF 1)])))
def m_Order_init : Fm := starM 1 r_Order_init
def x_Order : Fm := mkM (.ins "Order" []) m_Order_init
def m_Order : Fm := mkM (.ins "Order" []) m_Order_init
def m__law_made : Fm := fnM 1 1 (seqF (iteS (blF (op2 eqP (callF lenP [(nameF 0)]) (cF (.int 0)))) (retF (callM m_Order [])) .nx)
    (seqF (iteS (blF (op2 eqP (callF lenP [(nameF 0)]) (cF (.int 1)))) (retF (callM m_Order [(op2 ixP (nameF 0) (cF (.int 0)))])) .nx)
    (seqF (iteS (blF (op2 eqP (callF lenP [(nameF 0)]) (cF (.int 2)))) (retF (callM m_Order [(op2 ixP (nameF 0) (cF (.int 0))), (op2 ixP (nameF 0) (cF (.int 1)))])) .nx)
    (seqF (iteS (blF (op2 eqP (callF lenP [(nameF 0)]) (cF (.int 3)))) (retF (callM m_Order [(op2 ixP (nameF 0) (cF (.int 0))), (op2 ixP (nameF 0) (cF (.int 1))), (op2 ixP (nameF 0) (cF (.int 2)))])) .nx)
    (seqF (iteS (blF (op2 eqP (callF lenP [(nameF 0)]) (cF (.int 4)))) (retF (callM m_Order [(op2 ixP (nameF 0) (cF (.int 0))), (op2 ixP (nameF 0) (cF (.int 1))), (op2 ixP (nameF 0) (cF (.int 2))), (op2 ixP (nameF 0) (cF (.int 3)))])) .nx)
    (seqF (iteS (blF (op2 eqP (callF lenP [(nameF 0)]) (cF (.int 5)))) (retF (callM m_Order [(op2 ixP (nameF 0) (cF (.int 0))), (op2 ixP (nameF 0) (cF (.int 1))), (op2 ixP (nameF 0) (cF (.int 2))), (op2 ixP (nameF 0) (cF (.int 3))), (op2 ixP (nameF 0) (cF (.int 4)))])) .nx)
    (retF (callM m_Order [(op2 ixP (nameF 0) (cF (.int 0))), (op2 ixP (nameF 0) (cF (.int 1))), (op2 ixP (nameF 0) (cF (.int 2))), (op2 ixP (nameF 0) (cF (.int 3))), (op2 ixP (nameF 0) (cF (.int 4))), (op2 ixP (nameF 0) (cF (.int 5)))]))))))))
def m__law_number : Fm := fnM 1 2 (seqF (setF 1 (callM m__law_pick [(nameF 0), (cF (.int 6))]))
    (seqF (iteS (blF (op2 ltP (nameF 1) (cF (.int 3)))) (retF (callM m__law_pick [(nameF 0), (cF (.int 5))])) .nx)
    (seqF (iteS (blF (op2 ltP (nameF 1) (cF (.int 5)))) (retF (callM m__law_pick [(nameF 0), (cF (.int 60))])) .nx)
    (retF (callM m__law_pick [(nameF 0), (op2 powP (cF (.int 10)) (cF (.int 30)))])))))
def b__law_rows_0 : Fs := (seqF (setF 4 (op2 ixP (nameF 1) (callM m__law_pick [(nameF 0), (callF lenP [(nameF 1)])])))
    (seqF (setF 5 (op2 ixP (nameF 1) (callM m__law_pick [(nameF 0), (callF lenP [(nameF 1)])])))
    (exprF (appF 2 (valsF [(callF minP [(nameF 4), (nameF 5)]), (callF maxP [(nameF 4), (nameF 5)])] tupP)))))
def m__law_rows : Fm := fnM 1 6 (seqF (setF 1 (compF (argsI rangeOf1 [(op2 addP (cF (.int 1)) (callM m__law_pick [(nameF 0), (cF (.int 4))]))]) (.name 3) none (callM m__law_number [(nameF 0)]) [3]))
    (seqF (setF 2 (valsF [] lstP))
    (seqF (forF (argsI rangeOf1 [(callM m__law_pick [(nameF 0), (cF (.int 41))])]) (.name 3) b__law_rows_0)
    (retF (nameF 2)))))
def m_passed_rows : Fm := fnM 3 3 (seqF (iteS (blF (op2 eqP (nameF 0) (cF (.str "reverse")))) (retF (op1 revP (nameF 1))) .nx)
    (seqF (iteS (truF (strM1 endsP (nameF 0) (cF (.str " down")))) (retF (sortK keyI (fun g d => intO (lnegD (latD (some d) (lvar 2 g d)))) (nameF 1))) .nx)
    (retF (sortK keyI (fun g d => intO (latD (some d) (lvar 2 g d))) (nameF 1)))))
def b_Order_indexes_0 : Fs := (setF 2 (callM m_passed_rows [(nameF 5), (nameF 2), (ifF (blF (op2 inP (cF (.str "begin")) (nameF 5))) (nameF 3) (nameF 4))]))
def m_Order_indexes : Fm := fnM 2 7 (seqF (setF 2 (listRg (callF lenP [(nameF 1)])))
    (seqF (setF 3 (settleF (compF (iterF (nameF 1)) (.name 6) none (op1 (fldP "begin" [("Change", some 0)]) (nameF 6)) [6])))
    (seqF (setF 4 (settleF (compF (iterF (nameF 1)) (.name 6) none (op1 (fldP "end" [("Change", some 1)]) (nameF 6)) [6])))
    (seqF (forF (iterF (op1 (fldP "passes" [("Order", none)]) (nameF 0))) (.name 5) b_Order_indexes_0)
    (retF (nameF 2))))))
def ms_indexes : List (Str × Bool × Fm) := [("Order", false, m_Order_indexes)]
def r_Change_init : Fm := fnM 4 4 (seqF (iteS (notB (chB leP leP (cF (.int 0)) (nameF 1) (nameF 2))) (raiseF2 "BadChange" "begin" "end" (nameF 1) (nameF 2)) .nx)
    (seqF (setA 0 "begin" [("Change", some 0)] (nameF 1))
    (seqF (setA 0 "end" [("Change", some 1)] (nameF 2))
    (setA 0 "new" [("Change", some 2)] (nameF 3)))))
def m_Change_init : Fm := dflM 4 [(.str "")] r_Change_init
def x_Change : Fm := mkM (.slo "Change" []) r_Change_init
def m_Change : Fm := mkM (.slo "Change" []) m_Change_init
def b__law_order_0 : Fs := (iteS (blF (op2 eqP (nameF 3) (cF (.str "reverse")))) (setF 2 (settleF (op1 revP (nameF 2)))) (seqF (setF 4 (ifF (blF (op2 inP (cF (.str "begin")) (nameF 3))) (cF (.int 0)) (cF (.int 1))))
    (seqF (setF 5 (ifF (blF (op2 inP (cF (.str "down")) (nameF 3))) (op1 negP (cF (.int 1))) (cF (.int 1))))
    (seqF (setF 6 (settleF (compF (argsI rangeOf1 [(callF lenP [(nameF 2)])]) (.name 7) none (valsF [(op2 mulQ (nameF 5) (op2 ixP (op2 ixP (nameF 1) (op2 ixP (nameF 2) (nameF 7))) (nameF 4))), (nameF 7), (op2 ixP (nameF 2) (nameF 7))] tupP) [7])))
    (setF 2 (settleF (compF (iterF (callF sortT [(nameF 6)])) (.name 8) none (op2 ixP (nameF 8) (cF (.int 2))) [8])))))))
def m__law_order : Fm := fnM 2 9 (seqF (setF 2 (settleF (listRg (callF lenP [(nameF 1)]))))
    (seqF (forF (iterF (nameF 0)) (.name 3) b__law_order_0)
    (retF (nameF 2))))
def m__law_is_int : Fm := fnM 1 1 (retF (andV (op1 (isiP "int") (nameF 0)) (notF (op1 (isiP "bool") (nameF 0)))))
noncomputable def m__law_right : Fm := fnM 3 9 (seqF (setF 3 (settleF (compF (argsI enumOf [(nameF 2)]) (.tup [(.name 5), (.name 6)]) none (callM m_Change [(op2 ixP (nameF 6) (cF (.int 0))), (op2 ixP (nameF 6) (cF (.int 1))), (op2 mulQ (cF (.str "n")) (op2 modP (nameF 5) (cF (.int 3))))]) [5, 6])))
    (seqF (setF 4 (methM "indexes" ms_indexes (nameF 0) [(nameF 3)]))
    (seqF (iteS (orB (notB (truF (op1 (isiP "list") (nameF 4)))) (notB (truF (callF allP [(compO 4 (.name 7) none (callM m__law_is_int [(nameF 7)]) [7])])))) (retF (cF (.bl false))) .nx)
    (seqF (iteS (orB (blF (op2 neP (nameF 4) (callM m__law_order [(nameF 1), (nameF 2)]))) (blF (op2 neP (compF (iterF (nameF 3)) (.name 8) none (valsF [(op1 (fldP "begin" [("Change", some 0)]) (nameF 8)), (op1 (fldP "end" [("Change", some 1)]) (nameF 8))] tupP) [8]) (nameF 2)))) (retF (cF (.bl false))) .nx)
    (seqF (exprF (appF 4 (cF (.int 0))))
    (retF (op2 eqP (methM "indexes" ms_indexes (nameF 0) [(nameF 3)]) (callM m__law_order [(nameF 1), (nameF 2)]))))))))
noncomputable def b_law_0 : Fs := (iteS (notB (truF (callM m__law_right [(nameF 5), (nameF 4), (nameF 7)]))) (retF (cF (.bl false))) .nx)
noncomputable def b_law_1 : Fs := (seqF (setF 4 (settleF (compF (argsI rangeOf1 [(callM m__law_pick [(nameF 1), (cF (.int 7))])]) (.name 8) none (op2 ixP (nameF 2) (callM m__law_pick [(nameF 1), (cF (.int 5))])) [8])))
    (seqF (setF 5 (settleF (callM m__law_made [(nameF 4)])))
    (seqF (iteS (orB (blF (op2 neP (op1 (fldP "passes" [("Order", none)]) (nameF 5)) (callF tupleP [(nameF 4)]))) (notB (truF (op1 (isiP "tuple") (op1 (fldP "passes" [("Order", none)]) (nameF 5)))))) (retF (cF (.bl false))) .nx)
    (seqF (setF 6 (settleF (callM m__law_rows [(nameF 1)])))
    (forF (iterF (valsF [(nameF 6), (callM m__law_rows [(nameF 1)]), (nameF 6), (valsF [] lstP)] lstP)) (.name 7) b_law_0)))))
noncomputable def m_law : Fm := fnM 1 9 (seqF (setF 1 (callM m__law_bag [(nameF 0)]))
    (seqF (setF 2 (valsF [(cF (.str "sort begin")), (cF (.str "sort end")), (cF (.str "sort begin down")), (cF (.str "sort end down")), (cF (.str "reverse"))] lstP))
    (seqF (forF (argsI rangeOf1 [(cF (.int 2))]) (.name 3) b_law_1)
    (retF (cF (.bl true))))))
end Vl

set_option Elab.async false
set_option linter.all false
set_option maxRecDepth 100000
set_option maxHeartbeats 4000000
namespace Vl
open PySem PySem.Spec PyProof.Rows L2 My
def top (i : Nat) : Stmt := PySem.Challenge.pw_oldplaces_k12_orders_of_handling.main.body.getD i (.Pass ⟨0, 0, 0, 0⟩)
structure Txt (K : PySem.W.Frag) (w : World) (mg : Str → Option Value) : Prop where
  exb : ExB K mg "OldPlacesError" (He.ga K "OldPlacesError") (.type "type")
  ex_BadChange : ExK K mg "BadChange" (He.ga K "BadChange") (He.ma K (He.ga K "BadChange") "__init__") ["begin", "end"]
  ex_BadOrder : ExK K mg "BadOrder" (He.ga K "BadOrder") (He.ma K (He.ga K "BadOrder") "__init__") ["entry"]
  list : mg "list" = none
  gl__law_bag : mg "_law_bag" = some (.ref (He.ga K "_law_bag"))
  enumerate : mg "enumerate" = none
  k_PASSES : KC K mg "PASSES" (.tup [(.str "sort begin"), (.str "sort end"), (.str "sort begin down"), (.str "sort end down"), (.str "reverse")])
  k_MOST_PASSES : KC K mg "MOST_PASSES" (.int 6)
  cl_Order : Cls K (He.ga K "Order")
  fl_passes : FldK K "passes" [("Order", none)]
  tuple : mg "tuple" = none
  mk_Order : Mk K (He.ga K "Order") (He.ma K (He.ga K "Order") "__init__")
  gl_Order : mg "Order" = some (.ref (He.ga K "Order"))
  len : mg "len" = none
  gl__law_made : mg "_law_made" = some (.ref (He.ga K "_law_made"))
  int : mg "int" = none
  gl__law_pick : mg "_law_pick" = some (.ref (He.ga K "_law_pick"))
  gl__law_number : mg "_law_number" = some (.ref (He.ga K "_law_number"))
  range : mg "range" = none
  min : mg "min" = none
  max : mg "max" = none
  gl__law_rows : mg "_law_rows" = some (.ref (He.ga K "_law_rows"))
  sorted : mg "sorted" = none
  gl_passed_rows : mg "passed_rows" = some (.ref (He.ga K "passed_rows"))
  cl_Change : SlX.SCls K (He.ga K "Change")
  fl_begin : FldK K "begin" [("Change", some 0)]
  fl_end : FldK K "end" [("Change", some 1)]
  fl_new : FldK K "new" [("Change", some 2)]
  mk_Change : Mk K (He.ga K "Change") (He.ma K (He.ga K "Change") "__init__")
  gl_Change : mg "Change" = some (.ref (He.ga K "Change"))
  gl__law_order : mg "_law_order" = some (.ref (He.ga K "_law_order"))
  isinstance : mg "isinstance" = none
  bool : mg "bool" = none
  gl__law_is_int : mg "_law_is_int" = some (.ref (He.ga K "_law_is_int"))
  all : mg "all" = none
  gl__law_right : mg "_law_right" = some (.ref (He.ga K "_law_right"))
  gl_law : True
section
variable {P : Program} {w : World} {K : PySem.W.Frag} {mg : Str → Option Value} {base : Heap}
abbrev sBadChange_init : Stmt := inClass (top 3) 0
theorem scBadChange_init : FnScope ["self", "begin", "end"] ["self", "begin", "end"] (defScope sBadChange_init) := ⟨rfl, rfl, rfl, by decide +kernel, rfl, by decide +kernel, by decide +kernel⟩
theorem okBadChange_init {f : Addr} {fd : FuncData} (F : FunD K "__init__" "BadChange.__init__" (defArgs sBadChange_init) (defBody sBadChange_init) (defScope sBadChange_init) [] [] f fd) (T : Txt K w mg) : FnOk P w K mg base CX0 1 f fd ["self", "begin", "end"] (spXI2 (He.ga K "BadChange") "begin" "end") := by
  have nd := scBadChange_init.nd
  refine F.ok scBadChange_init (fun vs H Q E h => ?_) (fun cdv A outer s H vs Q E hr h => ?_)
  · obtain ⟨a, v, u, rfl, h, k⟩ := h
    rfl
  · obtain ⟨a, v, u, rfl, h, k⟩ := h
    refine ⟨_, (pss_cons (ps_expr (pe_obinit T.exb (by rfl) (pa_cons (pv 0) (pa_cons pe_str pa_nil))))
      (pss_cons (ps_ost (pv 0) (pv 1)) (pss_one (ps_ost (pv 0) (pv 2))))), ?_⟩
    refine ⟨_, rfl, _, (He.ga K "BadChange"), [_], rfl, by decide, T.ex_BadChange.ox, h, ?_⟩
    exact ⟨_, rfl, _, rfl, a, _, rfl, T.ex_BadChange.ox, T.ex_BadChange.no _ (.head _), .inl ⟨h, fun dx hd ne => ⟨_, rfl, _, rfl, a, _, rfl, T.ex_BadChange.ox, T.ex_BadChange.no _ (.tail _ (.head _)), .inr ⟨dx, _, upd_same, by rw [upd_ne ne, upd_same], Nat.le_of_ble_eq_true rfl, k dx hd ne⟩⟩⟩⟩
abbrev sBadOrder_init : Stmt := inClass (top 4) 0
theorem scBadOrder_init : FnScope ["self", "entry"] ["self", "entry"] (defScope sBadOrder_init) := ⟨rfl, rfl, rfl, by decide +kernel, rfl, by decide +kernel, by decide +kernel⟩
theorem okBadOrder_init {f : Addr} {fd : FuncData} (F : FunD K "__init__" "BadOrder.__init__" (defArgs sBadOrder_init) (defBody sBadOrder_init) (defScope sBadOrder_init) [] [] f fd) (T : Txt K w mg) : FnOk P w K mg base CX0 1 f fd ["self", "entry"] (spXI1 (He.ga K "BadOrder") "entry") := by
  have nd := scBadOrder_init.nd
  refine F.ok scBadOrder_init (fun vs H Q E h => ?_) (fun cdv A outer s H vs Q E hr h => ?_)
  · obtain ⟨a, v, rfl, h, k⟩ := h
    rfl
  · obtain ⟨a, v, rfl, h, k⟩ := h
    refine ⟨_, (pss_cons (ps_expr (pe_obinit T.exb (by rfl) (pa_cons (pv 0) (pa_cons pe_str pa_nil))))
      (pss_one (ps_ost (pv 0) (pv 1)))), ?_⟩
    refine ⟨_, rfl, _, (He.ga K "BadOrder"), [_], rfl, by decide, T.ex_BadOrder.ox, h, ?_⟩
    exact ⟨_, rfl, _, rfl, a, _, rfl, T.ex_BadOrder.ox, T.ex_BadOrder.no _ (.head _), .inl ⟨h, fun dx hd ne => k dx hd ne⟩⟩
abbrev s_law_bag : Stmt := top 13
theorem sc_law_bag : FnScope ["_law_script"] ["_law_script"] (defScope s_law_bag) := ⟨rfl, rfl, rfl, by decide +kernel, rfl, by decide +kernel, by decide +kernel⟩
theorem ok_law_bag {f : Addr} {fd : FuncData} (F : FunD K "_law_bag" "_law_bag" (defArgs s_law_bag) (defBody s_law_bag) (defScope s_law_bag) [] [] f fd) (T : Txt K w mg)  : FnOk P w K mg base (L2.CX P w) 1 f fd ["_law_script"] (spV K m__law_bag) := by
  have nd := sc_law_bag.nd
  exact F.ok sc_law_bag (fun vs H Q E h => fn_len h) (fun cdv A outer s H vs Q E hr h => body_sp
      (vss_one (vs_ret (ve_lst (va_cons (ve_callTy c_list (by rfl) T.list (by decide +kernel) (va_cons (ve_name 0 (pv 0)) va_nil)) (va_cons ve_int (va_cons ve_int (va_cons ve_int va_nil))))))) h)
abbrev sOrder_init : Stmt := inClass (top 9) 0
theorem scOrder_init : FnScope ["self", "passes", "at", "entry"] ["self", "passes"] (defScope sOrder_init) := ⟨rfl, rfl, rfl, by decide +kernel, rfl, by decide +kernel, by decide +kernel⟩
theorem okOrder_init {f : Addr} {fd : FuncData} (F : FunD K "__init__" "Order.__init__" (defArgs sOrder_init) (defBody sOrder_init) (defScope sOrder_init) [] [] f fd) (T : Txt K w mg) (cBadOrder : Rz1 P w K mg base 1 "BadOrder" "entry") : FnR P w K mg base (L2.CX P w) 4 f (spV K m_Order_init) := by
  have nd := scOrder_init.nd
  exact okStar (ps := ["self"]) (pv := "passes") F scOrder_init (fun _ _ _ _ _ _ => bs1 (fun _ => rfl) (fun _ _ _ => rfl)) (fun cdv A outer s H vs Q E hr h => body_sp
      (vss_cons (vs_for (passes_of rfl) rfl (vi_enum (by rfl) T.enumerate (va_cons (ve_name 1 (pv 1)) va_nil)) (vg_tup rfl (vgs_cons (vg_name (i := 2) nd rfl (.inl rfl)) (vgs_cons (vg_name (i := 3) nd rfl (.inl rfl)) vgs_nil))) (vss_one (vs_if (VW.vt (vw_or (vt_cmp p_ge (ve_name 2 (pv 2)) (ve_kc T.k_MOST_PASSES (by rfl)) (nomark _)) (vw_or1 (vt_cmp (p_notIn (hu65 hr)) (ve_name 3 (pv 3)) (ve_kc T.k_PASSES (by rfl)) (by rfl))))) (vss_one (vs_raise1 rfl (takes_of rfl rfl rfl rfl) cBadOrder hr (by rfl) (ve_name 3 (pv 3)))) vss_nil)))
      (vss_one (vs_attr T.fl_passes (pv 0) (ve_callTy c_tuple (by rfl) T.tuple (by decide +kernel) (va_cons (ve_name 1 (pv 1)) va_nil))))) h)
abbrev s_law_made : Stmt := top 18
theorem sc_law_made : FnScope ["_law_passes"] ["_law_passes"] (defScope s_law_made) := ⟨rfl, rfl, rfl, by decide +kernel, rfl, by decide +kernel, by decide +kernel⟩
theorem ok_law_made {f : Addr} {fd : FuncData} (F : FunD K "_law_made" "_law_made" (defArgs s_law_made) (defBody s_law_made) (defScope s_law_made) [] [] f fd) (T : Txt K w mg) (cOrder : Cf P w K mg base 5 "Order" (spV K m_Order)) : FnOk P w K mg base (L2.CX P w) 6 f fd ["_law_passes"] (spV K m__law_made) := by
  have nd := sc_law_made.nd
  exact F.ok sc_law_made (fun vs H Q E h => fn_len h) (fun cdv A outer s H vs Q E hr h => body_sp
      (vss_cons (vs_if (vt_cmp (p_eq hr.units) (ve_callB c_len (by rfl) T.len (by decide +kernel) (va_cons (ve_name 0 (pv 0)) va_nil)) ve_int (nomark _)) (vss_one (vs_ret (ve_call0 (cOrder) hr (takes_of rfl rfl rfl rfl) (by rfl)))) vss_nil)
      (vss_cons (vs_if (vt_cmp (p_eq hr.units) (ve_callB c_len (by rfl) T.len (by decide +kernel) (va_cons (ve_name 0 (pv 0)) va_nil)) ve_int (nomark _)) (vss_one (vs_ret (ve_call (cOrder) hr (takes_of rfl rfl rfl rfl) (by rfl) (va_cons (ve_ix (hu_of hr) (ve_name 0 (pv 0)) ve_int) va_nil)))) vss_nil)
      (vss_cons (vs_if (vt_cmp (p_eq hr.units) (ve_callB c_len (by rfl) T.len (by decide +kernel) (va_cons (ve_name 0 (pv 0)) va_nil)) ve_int (nomark _)) (vss_one (vs_ret (ve_call (cOrder) hr (takes_of rfl rfl rfl rfl) (by rfl) (va_cons (ve_ix (hu_of hr) (ve_name 0 (pv 0)) ve_int) (va_cons (ve_ix (hu_of hr) (ve_name 0 (pv 0)) ve_int) va_nil))))) vss_nil)
      (vss_cons (vs_if (vt_cmp (p_eq hr.units) (ve_callB c_len (by rfl) T.len (by decide +kernel) (va_cons (ve_name 0 (pv 0)) va_nil)) ve_int (nomark _)) (vss_one (vs_ret (ve_call (cOrder) hr (takes_of rfl rfl rfl rfl) (by rfl) (va_cons (ve_ix (hu_of hr) (ve_name 0 (pv 0)) ve_int) (va_cons (ve_ix (hu_of hr) (ve_name 0 (pv 0)) ve_int) (va_cons (ve_ix (hu_of hr) (ve_name 0 (pv 0)) ve_int) va_nil)))))) vss_nil)
      (vss_cons (vs_if (vt_cmp (p_eq hr.units) (ve_callB c_len (by rfl) T.len (by decide +kernel) (va_cons (ve_name 0 (pv 0)) va_nil)) ve_int (nomark _)) (vss_one (vs_ret (ve_call (cOrder) hr (takes_of rfl rfl rfl rfl) (by rfl) (va_cons (ve_ix (hu_of hr) (ve_name 0 (pv 0)) ve_int) (va_cons (ve_ix (hu_of hr) (ve_name 0 (pv 0)) ve_int) (va_cons (ve_ix (hu_of hr) (ve_name 0 (pv 0)) ve_int) (va_cons (ve_ix (hu_of hr) (ve_name 0 (pv 0)) ve_int) va_nil))))))) vss_nil)
      (vss_cons (vs_if (vt_cmp (p_eq hr.units) (ve_callB c_len (by rfl) T.len (by decide +kernel) (va_cons (ve_name 0 (pv 0)) va_nil)) ve_int (nomark _)) (vss_one (vs_ret (ve_call (cOrder) hr (takes_of rfl rfl rfl rfl) (by rfl) (va_cons (ve_ix (hu_of hr) (ve_name 0 (pv 0)) ve_int) (va_cons (ve_ix (hu_of hr) (ve_name 0 (pv 0)) ve_int) (va_cons (ve_ix (hu_of hr) (ve_name 0 (pv 0)) ve_int) (va_cons (ve_ix (hu_of hr) (ve_name 0 (pv 0)) ve_int) (va_cons (ve_ix (hu_of hr) (ve_name 0 (pv 0)) ve_int) va_nil)))))))) vss_nil)
      (vss_one (vs_ret (ve_call (cOrder) hr (takes_of rfl rfl rfl rfl) (by rfl) (va_cons (ve_ix (hu_of hr) (ve_name 0 (pv 0)) ve_int) (va_cons (ve_ix (hu_of hr) (ve_name 0 (pv 0)) ve_int) (va_cons (ve_ix (hu_of hr) (ve_name 0 (pv 0)) ve_int) (va_cons (ve_ix (hu_of hr) (ve_name 0 (pv 0)) ve_int) (va_cons (ve_ix (hu_of hr) (ve_name 0 (pv 0)) ve_int) (va_cons (ve_ix (hu_of hr) (ve_name 0 (pv 0)) ve_int) va_nil))))))))))))))) h)
abbrev s_law_pick : Stmt := top 14
theorem sc_law_pick : FnScope ["_law_bag_here", "_law_limit", "_law_cell", "_law_found"] ["_law_bag_here", "_law_limit"] (defScope s_law_pick) := ⟨rfl, rfl, rfl, by decide +kernel, rfl, by decide +kernel, by decide +kernel⟩
theorem ok_law_pick {f : Addr} {fd : FuncData} (F : FunD K "_law_pick" "_law_pick" (defArgs s_law_pick) (defBody s_law_pick) (defScope s_law_pick) [] [] f fd) (T : Txt K w mg)  : FnOk P w K mg base (L2.CX P w) 1 f fd ["_law_bag_here", "_law_limit"] (spV K m__law_pick) := by
  have nd := sc_law_pick.nd
  exact F.ok sc_law_pick (fun vs H Q E h => fn_len h) (fun cdv A outer s H vs Q E hr h => body_sp
      (vss_cons (vs_if (VW.vt (vw_and (vt_cmp (p_eq hr.units) (ve_ix (hu_of hr) (ve_name 0 (pv 0)) ve_int) ve_int (nomark _)) (vw_and1 (vt_cmp (p_lt hr.units0) (ve_ix (hu_of hr) (ve_name 0 (pv 0)) ve_int) (ve_callB c_len (by rfl) T.len (by decide +kernel) (va_cons (ve_ix (hu_of hr) (ve_name 0 (pv 0)) ve_int) va_nil)) (nomark _))))) (vss_cons (vs_set (i := 2) nd rfl (.inl rfl) (ve_ix (hu_of hr) (ve_ix (hu_of hr) (ve_name 0 (pv 0)) ve_int) (ve_ix (hu_of hr) (ve_name 0 (pv 0)) ve_int)))
      (vss_cons (vs_augS (i := 0) i_add (hu_of hr) (pv 0) ve_int ve_int)
      (vss_one (vs_if (vt_cmp p_ge (ve_name 2 (pv 2)) (ve_bin p_pow ve_int ve_int) (nomark _)) (vss_one (vs_put (i := 0) (hu_of hr) (pv 0) ve_int (ve_name 2 (pv 2)))) (vss_one (vs_put (i := 0) (hu_of hr) (pv 0) ve_int (ve_bin p_mod (ve_callTy c_int (by rfl) T.int (by decide +kernel) (va_cons (ve_bin p_add (ve_bin p_add (ve_bin p_mulQ (ve_ix (hu_of hr) (ve_name 0 (pv 0)) ve_int) ve_int) (ve_bin p_mulQ (ve_name 2 (pv 2)) ve_int)) (ve_ix (hu_of hr) (ve_name 0 (pv 0)) ve_int)) va_nil)) ve_int))))))) vss_nil)
      (vss_cons (vs_if (vt_cmp p_gt (ve_ix (hu_of hr) (ve_name 0 (pv 0)) ve_int) ve_int (nomark _)) (vss_cons (vs_set (i := 3) nd rfl (.inl rfl) (ve_bin p_mod (ve_callTy c_int (by rfl) T.int (by decide +kernel) (va_cons (ve_ix (hu_of hr) (ve_name 0 (pv 0)) ve_int) va_nil)) (ve_name 1 (pv 1))))
      (vss_cons (vs_put (i := 0) (hu_of hr) (pv 0) ve_int (ve_bin p_fdiv (ve_ix (hu_of hr) (ve_name 0 (pv 0)) ve_int) (ve_name 1 (pv 1))))
      (vss_one (vs_ret (ve_name 3 (pv 3)))))) vss_nil)
      (vss_cons (vs_put (i := 0) (hu_of hr) (pv 0) ve_int (ve_bin p_mod (ve_callTy c_int (by rfl) T.int (by decide +kernel) (va_cons (ve_bin p_add (ve_bin p_mulQ (ve_ix (hu_of hr) (ve_name 0 (pv 0)) ve_int) ve_int) ve_int) va_nil)) ve_int))
      (vss_one (vs_ret (ve_bin p_mod (ve_callTy c_int (by rfl) T.int (by decide +kernel) (va_cons (ve_bin p_fdiv (ve_bin p_mod (ve_callTy c_int (by rfl) T.int (by decide +kernel) (va_cons (ve_bin p_mulQ (ve_ix (hu_of hr) (ve_name 0 (pv 0)) ve_int) ve_int) va_nil)) ve_int) ve_int) va_nil)) (ve_name 1 (pv 1)))))))) h)
abbrev s_law_number : Stmt := top 15
theorem sc_law_number : FnScope ["_law_bag_here", "_law_size"] ["_law_bag_here"] (defScope s_law_number) := ⟨rfl, rfl, rfl, by decide +kernel, rfl, by decide +kernel, by decide +kernel⟩
theorem ok_law_number {f : Addr} {fd : FuncData} (F : FunD K "_law_number" "_law_number" (defArgs s_law_number) (defBody s_law_number) (defScope s_law_number) [] [] f fd) (T : Txt K w mg) (c_law_pick : Cf P w K mg base 1 "_law_pick" (spV K m__law_pick)) : FnOk P w K mg base (L2.CX P w) 2 f fd ["_law_bag_here"] (spV K m__law_number) := by
  have nd := sc_law_number.nd
  exact F.ok sc_law_number (fun vs H Q E h => fn_len h) (fun cdv A outer s H vs Q E hr h => body_sp
      (vss_cons (vs_set (i := 1) nd rfl (.inl rfl) (ve_call (c_law_pick) hr (takes_of rfl rfl rfl rfl) (by rfl) (va_cons (ve_name 0 (pv 0)) (va_cons ve_int va_nil))))
      (vss_cons (vs_if (vt_cmp (p_lt hr.units0) (ve_name 1 (pv 1)) ve_int (nomark _)) (vss_one (vs_ret (ve_call (c_law_pick) hr (takes_of rfl rfl rfl rfl) (by rfl) (va_cons (ve_name 0 (pv 0)) (va_cons ve_int va_nil))))) vss_nil)
      (vss_cons (vs_if (vt_cmp (p_lt hr.units0) (ve_name 1 (pv 1)) ve_int (nomark _)) (vss_one (vs_ret (ve_call (c_law_pick) hr (takes_of rfl rfl rfl rfl) (by rfl) (va_cons (ve_name 0 (pv 0)) (va_cons ve_int va_nil))))) vss_nil)
      (vss_one (vs_ret (ve_call (c_law_pick) hr (takes_of rfl rfl rfl rfl) (by rfl) (va_cons (ve_name 0 (pv 0)) (va_cons (ve_bin p_pow ve_int ve_int) va_nil)))))))) h)
abbrev s_law_rows : Stmt := top 19
theorem sc_law_rows : FnScope ["_law_bag_here", "_law_pool", "_law_rows_here", "_law_k", "_law_one", "_law_other"] ["_law_bag_here"] (defScope s_law_rows) := ⟨rfl, rfl, rfl, by decide +kernel, rfl, by decide +kernel, by decide +kernel⟩
theorem ok_law_rows {f : Addr} {fd : FuncData} (F : FunD K "_law_rows" "_law_rows" (defArgs s_law_rows) (defBody s_law_rows) (defScope s_law_rows) [] [] f fd) (T : Txt K w mg) (c_law_number : Cf P w K mg base 2 "_law_number" (spV K m__law_number)) (c_law_pick : Cf P w K mg base 1 "_law_pick" (spV K m__law_pick)) : FnOk P w K mg base (L2.CX P w) 3 f fd ["_law_bag_here"] (spV K m__law_rows) := by
  have nd := sc_law_rows.nd
  exact F.ok sc_law_rows (fun vs H Q E h => fn_len h) (fun cdv A outer s H vs Q E hr h => body_sp
      (vss_cons (vs_setComp (i := 1) (own := [("_law_k", 3)]) rfl nd rfl rfl (sw_true rfl rfl rfl (by decide +kernel)) (vi_range1 (by rfl) T.range (va_cons (ve_bin p_add ve_int (ve_call (c_law_pick) hr (takes_of rfl rfl rfl rfl) (by rfl) (va_cons (ve_name 0 (pv 0)) (va_cons ve_int va_nil)))) va_nil)) (blkOk_by (own := [("_law_k", 3)]) (N := ["_law_bag_here", "_law_pool", "_law_rows_here", "_law_k", "_law_one", "_law_other"]) (sc := defScope s_law_rows) (by decide +kernel)) (by decide) (fun _ _ _ _ _ => (vg_name (i := 3) nd rfl (.inl rfl))) (fun _ _ _ _ _ => .none) (fun _ _ _ _ _ => (ve_call (c_law_number) hr takes0' (by rfl) (va_cons (ve_name 0 (pv 0)) va_nil))))
      (vss_cons (vs_set (i := 2) nd rfl (.inl rfl) (ve_lst va_nil))
      (vss_cons (vs_for (passes_of rfl) rfl (vi_range1 (by rfl) T.range (va_cons (ve_call (c_law_pick) hr (takes_of rfl rfl rfl rfl) (by rfl) (va_cons (ve_name 0 (pv 0)) (va_cons ve_int va_nil))) va_nil)) (vg_name (i := 3) nd rfl (.inl rfl)) (vss_cons (vs_set (i := 4) nd rfl (.inl rfl) (ve_ix (hu_of hr) (ve_name 1 (pv 1)) (ve_call (c_law_pick) hr (takes_of rfl rfl rfl rfl) (by rfl) (va_cons (ve_name 0 (pv 0)) (va_cons (ve_callB c_len (by rfl) T.len (by decide +kernel) (va_cons (ve_name 1 (pv 1)) va_nil)) va_nil)))))
      (vss_cons (vs_set (i := 5) nd rfl (.inl rfl) (ve_ix (hu_of hr) (ve_name 1 (pv 1)) (ve_call (c_law_pick) hr (takes_of rfl rfl rfl rfl) (by rfl) (va_cons (ve_name 0 (pv 0)) (va_cons (ve_callB c_len (by rfl) T.len (by decide +kernel) (va_cons (ve_name 1 (pv 1)) va_nil)) va_nil)))))
      (vss_one (vs_expr (ve_append (i := 2) (pv 2) (va_cons (ve_tup (va_cons (ve_callB (c_min rfl) (by rfl) T.min (by decide +kernel) (va_cons (ve_name 4 (pv 4)) (va_cons (ve_name 5 (pv 5)) va_nil))) (va_cons (ve_callB (c_max rfl) (by rfl) T.max (by decide +kernel) (va_cons (ve_name 4 (pv 4)) (va_cons (ve_name 5 (pv 5)) va_nil))) va_nil))) va_nil)))))))
      (vss_one (vs_ret (ve_name 2 (pv 2))))))) h)
abbrev spassed_rows : Stmt := top 8
theorem scpassed_rows : FnScope ["entry", "rows", "numbers"] ["entry", "rows", "numbers"] (defScope spassed_rows) := ⟨rfl, rfl, rfl, by decide +kernel, rfl, by decide +kernel, by decide +kernel⟩
theorem okpassed_rows {f : Addr} {fd : FuncData} (F : FunD K "passed_rows" "passed_rows" (defArgs spassed_rows) (defBody spassed_rows) (defScope spassed_rows) [] [] f fd) (T : Txt K w mg) (lt : LamTK K mg base f "passed_rows") : FnOk P w K mg base (L2.CX P w) 1 f fd ["entry", "rows", "numbers"] (spV K m_passed_rows) := by
  have nd := scpassed_rows.nd
  exact okLam F scpassed_rows lt (fun vs H Q E h => fn_len h) (fun cdv A outer s H vs Q E lt hr h => body_sp
      (vss_cons (vs_if (vt_cmp (p_eq hr.units) (ve_name 0 (pv 0)) ve_str (nomark _)) (vss_one (vs_ret (ve_rev (ve_name 1 (pv 1))))) vss_nil)
      (vss_cons (vs_if (vt_tru (ve_strM1 m_ends PySem.F.slot_str_endswith PySem.F.type_str_endswith (ve_name 0 (pv 0)) ve_str)) (vss_one (vs_ret (ve_sortLam hr lt (lamP_by (sc := defScope spassed_rows) (by decide +kernel)) (vk_int (vl_neg (vl_at (lamP_by (sc := defScope spassed_rows) (by decide +kernel)) (vl_free (j := 2) (lamP_by (sc := defScope spassed_rows) (by decide +kernel)) rfl rfl (.inl rfl))))) (by rfl) T.sorted (ve_name 1 (pv 1)) rfl (fun _ _ _ _ _ _ => rfl)))) vss_nil)
      (vss_one (vs_ret (ve_sortLam hr lt (lamP_by (sc := defScope spassed_rows) (by decide +kernel)) (vk_int (vl_at (lamP_by (sc := defScope spassed_rows) (by decide +kernel)) (vl_free (j := 2) (lamP_by (sc := defScope spassed_rows) (by decide +kernel)) rfl rfl (.inl rfl)))) (by rfl) T.sorted (ve_name 1 (pv 1)) rfl (fun _ _ _ _ _ _ => rfl)))))) h)
abbrev sOrder_indexes : Stmt := inClass (top 9) 1
theorem scOrder_indexes : FnScope ["self", "changes", "rows", "begins", "ends", "entry", "change"] ["self", "changes"] (defScope sOrder_indexes) := ⟨rfl, rfl, rfl, by decide +kernel, rfl, by decide +kernel, by decide +kernel⟩
theorem okOrder_indexes {f : Addr} {fd : FuncData} (F : FunD K "indexes" "Order.indexes" (defArgs sOrder_indexes) (defBody sOrder_indexes) (defScope sOrder_indexes) [] [] f fd) (T : Txt K w mg) (cpassed_rows : Cf P w K mg base 1 "passed_rows" (spV K m_passed_rows)) : FnOk P w K mg base (L2.CX P w) 2 f fd ["self", "changes"] (spV K m_Order_indexes) := by
  have nd := scOrder_indexes.nd
  exact F.ok scOrder_indexes (fun vs H Q E h => fn_len h) (fun cdv A outer s H vs Q E hr h => body_sp
      (vss_cons (vs_set (i := 2) nd rfl (.inl rfl) (ve_listRg rfl (by rfl) T.list (by rfl) T.range (ve_callB c_len (by rfl) T.len (by decide +kernel) (va_cons (ve_name 1 (pv 1)) va_nil))))
      (vss_cons (vs_setCompS (i := 3) (own := [("change", 6)]) rfl nd rfl rfl (sw_true rfl rfl rfl (by decide +kernel)) (vi_of (ve_name 1 (pv 1))) (blkOk_by (own := [("change", 6)]) (N := ["self", "changes", "rows", "begins", "ends", "entry", "change"]) (sc := defScope sOrder_indexes) (by decide +kernel)) (by decide) (fun _ _ _ _ _ => (vg_name (i := 6) nd rfl (.inl rfl))) (fun _ _ _ _ _ => .none) (fun _ _ _ _ _ => (ve_fld T.fl_begin (ve_name 6 (pv 6)))))
      (vss_cons (vs_setCompS (i := 4) (own := [("change", 6)]) rfl nd rfl rfl (sw_true rfl rfl rfl (by decide +kernel)) (vi_of (ve_name 1 (pv 1))) (blkOk_by (own := [("change", 6)]) (N := ["self", "changes", "rows", "begins", "ends", "entry", "change"]) (sc := defScope sOrder_indexes) (by decide +kernel)) (by decide) (fun _ _ _ _ _ => (vg_name (i := 6) nd rfl (.inl rfl))) (fun _ _ _ _ _ => .none) (fun _ _ _ _ _ => (ve_fld T.fl_end (ve_name 6 (pv 6)))))
      (vss_cons (vs_for (passes_of rfl) rfl (vi_of (ve_fld T.fl_passes (ve_name 0 (pv 0)))) (vg_name (i := 5) nd rfl (.inl rfl)) (vss_one (vs_set (i := 2) nd rfl (.inl rfl) (ve_call (cpassed_rows) hr (takes_of rfl rfl rfl rfl) (by rfl) (va_cons (ve_name 5 (pv 5)) (va_cons (ve_name 2 (pv 2)) (va_cons (ve_if (vt_cmp (p_in (hu65 hr)) ve_str (ve_name 5 (pv 5)) (by rfl)) (ve_name 3 (pv 3)) (ve_name 4 (pv 4))) va_nil)))))))
      (vss_one (vs_ret (ve_name 2 (pv 2)))))))) h)
abbrev sChange_init : Stmt := inClass (top 11) 1
theorem scChange_init : FnScope ["self", "begin", "end", "new"] ["self", "begin", "end", "new"] (defScope sChange_init) := ⟨rfl, rfl, rfl, by decide +kernel, rfl, by decide +kernel, by decide +kernel⟩
theorem okChange_init {f : Addr} {fd : FuncData} (F : FunD K "__init__" "Change.__init__" (defArgs sChange_init) (defBody sChange_init) (defScope sChange_init) [.str ""] [] f fd) (T : Txt K w mg) (cBadChange : Rz2 P w K mg base 1 "BadChange" "begin" "end") : FnOk P w K mg base (L2.CX P w) 3 f fd ["self", "begin", "end", "new"] (spV K r_Change_init) := by
  have nd := scChange_init.nd
  exact F.ok scChange_init (fun vs H Q E h => fn_len h) (fun cdv A outer s H vs Q E hr h => body_sp
      (vss_cons (vs_if (vt_not (vt_chain p_le p_le ve_int (ve_name 1 (pv 1)) (ve_name 2 (pv 2)))) (vss_one (vs_raise2 rfl (takes_of rfl rfl rfl rfl) cBadChange hr (by rfl) (ve_name 1 (pv 1)) (ve_name 2 (pv 2)))) vss_nil)
      (vss_cons (vs_attr T.fl_begin (pv 0) (ve_name 1 (pv 1)))
      (vss_cons (vs_attr T.fl_end (pv 0) (ve_name 2 (pv 2)))
      (vss_one (vs_attr T.fl_new (pv 0) (ve_name 3 (pv 3))))))) h)
abbrev s_law_order : Stmt := top 17
theorem sc_law_order : FnScope ["_law_passes", "_law_rows_here", "_law_order_here", "_law_entry", "_law_at", "_law_turn", "_law_keyed", "_law_k", "_law_row"] ["_law_passes", "_law_rows_here"] (defScope s_law_order) := ⟨rfl, rfl, rfl, by decide +kernel, rfl, by decide +kernel, by decide +kernel⟩
theorem ok_law_order {f : Addr} {fd : FuncData} (F : FunD K "_law_order" "_law_order" (defArgs s_law_order) (defBody s_law_order) (defScope s_law_order) [] [] f fd) (T : Txt K w mg)  : FnOk P w K mg base (L2.CX P w) 1 f fd ["_law_passes", "_law_rows_here"] (spV K m__law_order) := by
  have nd := sc_law_order.nd
  exact F.ok sc_law_order (fun vs H Q E h => fn_len h) (fun cdv A outer s H vs Q E hr h => body_sp
      (vss_cons (vs_set (i := 2) nd rfl (.inr rfl) (ve_settle (ve_listRg rfl (by rfl) T.list (by rfl) T.range (ve_callB c_len (by rfl) T.len (by decide +kernel) (va_cons (ve_name 1 (pv 1)) va_nil)))))
      (vss_cons (vs_for (passes_of rfl) rfl (vi_of (ve_name 0 (pv 0))) (vg_name (i := 3) nd rfl (.inl rfl)) (vss_one (vs_if (vt_cmp (p_eq hr.units) (ve_name 3 (pv 3)) ve_str (nomark _)) (vss_one (vs_set (i := 2) nd rfl (.inr rfl) (ve_settle (ve_rev (ve_name 2 (pv 2)))))) (vss_cons (vs_set (i := 4) nd rfl (.inr rfl) (ve_if (vt_cmp (p_in (hu65 hr)) ve_str (ve_name 3 (pv 3)) (by rfl)) ve_int ve_int))
      (vss_cons (vs_set (i := 5) nd rfl (.inr rfl) (ve_if (vt_cmp (p_in (hu65 hr)) ve_str (ve_name 3 (pv 3)) (by rfl)) (ve_neg ve_int) ve_int))
      (vss_cons (vs_setCompS (i := 6) (own := [("_law_k", 7)]) rfl nd rfl rfl (sw_true rfl rfl rfl (by decide +kernel)) (vi_range1 (by rfl) T.range (va_cons (ve_callB c_len (by rfl) T.len (by decide +kernel) (va_cons (ve_name 2 (pv 2)) va_nil)) va_nil)) (blkOk_by (own := [("_law_k", 7)]) (N := ["_law_passes", "_law_rows_here", "_law_order_here", "_law_entry", "_law_at", "_law_turn", "_law_keyed", "_law_k", "_law_row"]) (sc := defScope s_law_order) (by decide +kernel)) (by decide) (fun _ _ _ _ _ => (vg_name (i := 7) nd rfl (.inl rfl))) (fun _ _ _ _ _ => .none) (fun _ _ _ _ _ => (ve_tup (va_cons (ve_bin p_mulQ (ve_name 5 (pv 5)) (ve_ix (hu_of hr) (ve_ix (hu_of hr) (ve_name 1 (pv 1)) (ve_ix (hu_of hr) (ve_name 2 (pv 2)) (ve_name 7 (pv 7)))) (ve_name 4 (pv 4)))) (va_cons (ve_name 7 (pv 7)) (va_cons (ve_ix (hu_of hr) (ve_name 2 (pv 2)) (ve_name 7 (pv 7))) va_nil))))))
      (vss_one (vs_set (i := 2) nd rfl (.inr rfl) (ve_settle (ve_comp (own := [("_law_row", 8)]) rfl nd (vi_of (ve_callB (c_sortT (hu65 hr)) (by rfl) T.sorted (by decide +kernel) (va_cons (ve_name 6 (pv 6)) va_nil))) (blkOk_by (own := [("_law_row", 8)]) (N := ["_law_passes", "_law_rows_here", "_law_order_here", "_law_entry", "_law_at", "_law_turn", "_law_keyed", "_law_k", "_law_row"]) (sc := defScope s_law_order) (by decide +kernel)) (by decide) (fun _ _ _ _ _ => (vg_name (i := 8) nd rfl (.inl rfl))) (fun _ _ _ _ _ => .none) (fun _ _ _ _ _ => (ve_ix (hu_of hr) (ve_name 8 (pv 8)) ve_int))))))))))))
      (vss_one (vs_ret (ve_name 2 (pv 2)))))) h)
abbrev s_law_is_int : Stmt := top 16
theorem sc_law_is_int : FnScope ["_law_thing"] ["_law_thing"] (defScope s_law_is_int) := ⟨rfl, rfl, rfl, by decide +kernel, rfl, by decide +kernel, by decide +kernel⟩
theorem ok_law_is_int {f : Addr} {fd : FuncData} (F : FunD K "_law_is_int" "_law_is_int" (defArgs s_law_is_int) (defBody s_law_is_int) (defScope s_law_is_int) [] [] f fd) (T : Txt K w mg)  : FnOk P w K mg base (L2.CX P w) 1 f fd ["_law_thing"] (spV K m__law_is_int) := by
  have nd := sc_law_is_int.nd
  exact F.ok sc_law_is_int (fun vs H Q E h => fn_len h) (fun cdv A outer s H vs Q E hr h => body_sp
      (vss_one (vs_ret (ve_and (ve_isi (T := "int") (ve_name 0 (pv 0)) (by rfl) T.isinstance (by rfl) T.int (by decide +kernel)) (ve_and1 (ve_not (ve_isi (T := "bool") (ve_name 0 (pv 0)) (by rfl) T.isinstance (by rfl) T.bool (by decide +kernel))))))) h)
abbrev s_law_right : Stmt := top 20
theorem sc_law_right : FnScope ["_law_order_here", "_law_passes", "_law_rows_here", "_law_changes", "_law_found", "_law_k", "_law_row", "_law_index", "_law_change"] ["_law_order_here", "_law_passes", "_law_rows_here"] (defScope s_law_right) := ⟨rfl, rfl, rfl, by decide +kernel, rfl, by decide +kernel, by decide +kernel⟩
theorem ok_law_right {f : Addr} {fd : FuncData} (F : FunD K "_law_right" "_law_right" (defArgs s_law_right) (defBody s_law_right) (defScope s_law_right) [] [] f fd) (T : Txt K w mg) (k_indexes : MethK P w K mg base 2 "indexes" ms_indexes) (cChange : Cf P w K mg base 4 "Change" (spV K m_Change)) (c_law_order : Cf P w K mg base 1 "_law_order" (spV K m__law_order)) (c_law_is_int : Cf P w K mg base 1 "_law_is_int" (spV K m__law_is_int)) : FnOk P w K mg base (L2.CX P w) 5 f fd ["_law_order_here", "_law_passes", "_law_rows_here"] (spV K m__law_right) := by
  have nd := sc_law_right.nd
  exact F.ok sc_law_right (fun vs H Q E h => fn_len h) (fun cdv A outer s H vs Q E hr h => body_sp
      (vss_cons (vs_setCompS (i := 3) (own := [("_law_k", 5), ("_law_row", 6)]) rfl nd rfl rfl (sw_true rfl rfl rfl (by decide +kernel)) (vi_enum (by rfl) T.enumerate (va_cons (ve_name 2 (pv 2)) va_nil)) (blkOk_by (own := [("_law_k", 5), ("_law_row", 6)]) (N := ["_law_order_here", "_law_passes", "_law_rows_here", "_law_changes", "_law_found", "_law_k", "_law_row", "_law_index", "_law_change"]) (sc := defScope s_law_right) (by decide +kernel)) (by decide) (fun _ _ _ _ _ => (vg_tup rfl (vgs_cons (vg_name (i := 5) nd rfl (.inl rfl)) (vgs_cons (vg_name (i := 6) nd rfl (.inl rfl)) vgs_nil)))) (fun _ _ _ _ _ => .none) (fun _ _ _ _ _ => (ve_call (cChange) hr takes0' (by rfl) (va_cons (ve_ix (hu_of hr) (ve_name 6 (pv 6)) ve_int) (va_cons (ve_ix (hu_of hr) (ve_name 6 (pv 6)) ve_int) (va_cons (ve_bin p_mulQ ve_str (ve_bin p_mod (ve_name 5 (pv 5)) ve_int)) va_nil))))))
      (vss_cons (vs_set (i := 4) nd rfl (.inl rfl) (ve_meth (k_indexes.up (by decide)) hr (takes_of rfl rfl rfl rfl) (ve_name 0 (pv 0)) (va_cons (ve_name 3 (pv 3)) va_nil)))
      (vss_cons (vs_if (VW.vt (vw_or (vt_not (vt_tru (ve_isi (T := "list") (ve_name 4 (pv 4)) (by rfl) T.isinstance (by rfl) T.list (by decide +kernel)))) (vw_or1 (vt_not (vt_tru (ve_callB (c_all rfl) (by rfl) T.all (by decide +kernel) (va_cons (ve_compO (own := [("_law_index", 7)]) rfl nd (pv 4) (by decide) (blkOk_by (own := [("_law_index", 7)]) (N := ["_law_order_here", "_law_passes", "_law_rows_here", "_law_changes", "_law_found", "_law_k", "_law_row", "_law_index", "_law_change"]) (sc := defScope s_law_right) (by decide +kernel)) (by decide) (fun _ _ _ _ _ => (vg_name (i := 7) nd rfl (.inl rfl))) (fun _ _ _ _ _ => .none) (fun _ _ _ _ _ => (ve_call (c_law_is_int) hr takes0' (by rfl) (va_cons (ve_name 7 (pv 7)) va_nil)))) va_nil))))))) (vss_one (vs_ret ve_bl)) vss_nil)
      (vss_cons (vs_if (VW.vt (vw_or (vt_cmp (p_ne hr.units) (ve_name 4 (pv 4)) (ve_call (c_law_order) hr (takes_of rfl rfl rfl rfl) (by rfl) (va_cons (ve_name 1 (pv 1)) (va_cons (ve_name 2 (pv 2)) va_nil))) (nomark _)) (vw_or1 (vt_cmp (p_ne hr.units) (ve_comp (own := [("_law_change", 8)]) rfl nd (vi_of (ve_name 3 (pv 3))) (blkOk_by (own := [("_law_change", 8)]) (N := ["_law_order_here", "_law_passes", "_law_rows_here", "_law_changes", "_law_found", "_law_k", "_law_row", "_law_index", "_law_change"]) (sc := defScope s_law_right) (by decide +kernel)) (by decide) (fun _ _ _ _ _ => (vg_name (i := 8) nd rfl (.inl rfl))) (fun _ _ _ _ _ => .none) (fun _ _ _ _ _ => (ve_tup (va_cons (ve_fld T.fl_begin (ve_name 8 (pv 8))) (va_cons (ve_fld T.fl_end (ve_name 8 (pv 8))) va_nil))))) (ve_name 2 (pv 2)) (nomark _))))) (vss_one (vs_ret ve_bl)) vss_nil)
      (vss_cons (vs_expr (ve_append (i := 4) (pv 4) (va_cons ve_int va_nil)))
      (vss_one (vs_ret (ve_cmp (p_eq hr.units) (ve_meth (k_indexes.up (by decide)) hr (takes_of rfl rfl rfl rfl) (ve_name 0 (pv 0)) (va_cons (ve_name 3 (pv 3)) va_nil)) (ve_call (c_law_order) hr (takes_of rfl rfl rfl rfl) (by rfl) (va_cons (ve_name 1 (pv 1)) (va_cons (ve_name 2 (pv 2)) va_nil))) (nomark _))))))))) h)
abbrev slaw : Stmt := top 21
theorem sclaw : FnScope ["_law_script", "_law_bag_here", "_law_words", "_law_turn", "_law_passes", "_law_order_here", "_law_one", "_law_rows_here", "_law_k"] ["_law_script"] (defScope slaw) := ⟨rfl, rfl, rfl, by decide +kernel, rfl, by decide +kernel, by decide +kernel⟩
theorem oklaw {f : Addr} {fd : FuncData} (F : FunD K "law" "law" (defArgs slaw) (defBody slaw) (defScope slaw) [] [] f fd) (T : Txt K w mg) (c_law_bag : Cf P w K mg base 1 "_law_bag" (spV K m__law_bag)) (c_law_made : Cf P w K mg base 6 "_law_made" (spV K m__law_made)) (c_law_rows : Cf P w K mg base 3 "_law_rows" (spV K m__law_rows)) (c_law_pick : Cf P w K mg base 1 "_law_pick" (spV K m__law_pick)) (c_law_right : Cf P w K mg base 5 "_law_right" (spV K m__law_right)) (hl : ∀ ns : List Int, ns.length ≤ 63 → ∃ outs, m_law [.val (.seq (ns.map D.int))] = .ok (.val (.bl true)) outs) : FnOk P w K mg base CX0 7 f fd ["_law_script"] (spLaw (K := K)) := by
  have nd := sclaw.nd
  refine F.ok sclaw (fun vs H Q E h => ?_) (fun cdv A outer s H vs Q E hr h => ?_)
  · obtain ⟨a, rfl, _⟩ := h
    rfl
  · obtain ⟨a, rfl, ns, hS, hlen, hE, k⟩ := h
    obtain ⟨outs, hl⟩ := hl ns hlen
    exact body_law
      (vss_cons (vs_set (i := 1) nd rfl (.inr rfl) (ve_call (c_law_bag) hr takes0' (by rfl) (va_cons (ve_name 0 (pv 0)) va_nil)))
      (vss_cons (vs_set (i := 2) nd rfl (.inr rfl) (ve_lst (va_cons ve_str (va_cons ve_str (va_cons ve_str (va_cons ve_str (va_cons ve_str va_nil)))))))
      (vss_cons (vs_for PassesOwn.never rfl (vi_range1 (by rfl) T.range (va_cons ve_int va_nil)) (vg_name (i := 3) nd rfl (.inl rfl)) (vss_cons (vs_setCompS (i := 4) (own := [("_law_k", 8)]) rfl nd rfl rfl (sw_true rfl rfl rfl (by decide +kernel)) (vi_range1 (by rfl) T.range (va_cons (ve_call (c_law_pick) hr takes0' (by rfl) (va_cons (ve_name 1 (pv 1)) (va_cons ve_int va_nil))) va_nil)) (blkOk_by (own := [("_law_k", 8)]) (N := ["_law_script", "_law_bag_here", "_law_words", "_law_turn", "_law_passes", "_law_order_here", "_law_one", "_law_rows_here", "_law_k"]) (sc := defScope slaw) (by decide +kernel)) (by decide) (fun _ _ _ _ _ => (vg_name (i := 8) nd rfl (.inl rfl))) (fun _ _ _ _ _ => .none) (fun _ _ _ _ _ => (ve_ix (hu_of hr) (ve_name 2 (pv 2)) (ve_call (c_law_pick) hr takes0' (by rfl) (va_cons (ve_name 1 (pv 1)) (va_cons ve_int va_nil))))))
      (vss_cons (vs_set (i := 5) nd rfl (.inl rfl) (ve_settle (ve_call (c_law_made) hr takes0' (by rfl) (va_cons (ve_name 4 (pv 4)) va_nil))))
      (vss_cons (vs_if (VW.vt (vw_or (vt_cmp (p_ne hr.units) (ve_fld T.fl_passes (ve_name 5 (pv 5))) (ve_callTy c_tuple (by rfl) T.tuple (by decide +kernel) (va_cons (ve_name 4 (pv 4)) va_nil)) (nomark _)) (vw_or1 (vt_not (vt_tru (ve_isi (T := "tuple") (ve_fld T.fl_passes (ve_name 5 (pv 5))) (by rfl) T.isinstance (by rfl) T.tuple (by decide +kernel))))))) (vss_one (vs_ret ve_bl)) vss_nil)
      (vss_cons (vs_set (i := 6) nd rfl (.inl rfl) (ve_settle (ve_call (c_law_rows) hr takes0' (by rfl) (va_cons (ve_name 1 (pv 1)) va_nil))))
      (vss_one (vs_for PassesOwn.never rfl (vi_of (ve_lst (va_cons (ve_name 6 (pv 6)) (va_cons (ve_call (c_law_rows) hr takes0' (by rfl) (va_cons (ve_name 1 (pv 1)) va_nil)) (va_cons (ve_name 6 (pv 6)) (va_cons (ve_lst va_nil) va_nil)))))) (vg_name (i := 7) nd rfl (.inl rfl)) (vss_one (vs_if (vt_not (vt_tru (ve_call (c_law_right) hr takes0' (by rfl) (va_cons (ve_name 5 (pv 5)) (va_cons (ve_name 4 (pv 4)) (va_cons (ve_name 7 (pv 7)) va_nil)))))) (vss_one (vs_ret ve_bl)) vss_nil)))))))))
      (vss_one (vs_ret ve_bl))))) hl hS hE k
end
end Vl

set_option Elab.async false
set_option linter.all false
set_option maxRecDepth 100000
set_option maxHeartbeats 4000000
/-! the value layer: the text of signs -/
namespace Vl
open PySem PySem.Spec PyProof.Rows L2 My
def tx1 (f : Option Int → List Nat) (s : Sn) : Option Nat := (f s.1)[s.2.toNat]?
def txt (f : Option Int → List Nat) (rs : List Rn) : List Nat := (sgs rs).filterMap (tx1 f)
theorem txt_cons (f : Option Int → List Nat) (r : Rn) (t : List Rn) : txt f (r :: t) = (sg r).filterMap (tx1 f) ++ txt f t := by
  unfold txt
  rw [sgs_cons, List.filterMap_append]
theorem get_range {l : List Nat} (a : Nat) : ∀ n : Nat, (List.range n).filterMap (fun k => l[a + k]?) = (l.drop a).take n
  | 0 => by simp
  | n + 1 => by
    rw [List.range_succ, List.filterMap_append, get_range a n, List.take_add_one, List.getElem?_drop]
    congr 1
theorem cut_list {z : Str} {a b : Int} (h0 : 0 ≤ a) (h1 : a ≤ b) : (cutS z (some a) (some b)).cps.toList = (z.cps.toList.drop a.toNat).take (b - a).toNat := by
  obtain ⟨n, rfl⟩ : ∃ n : Nat, a = n := ⟨a.toNat, by omega⟩
  obtain ⟨m, rfl⟩ : ∃ m : Nat, b = m := ⟨b.toNat, by omega⟩
  unfold cutS
  rw [HT.sIx_nat, HT.sIx_nat]
  have hz : z.length = z.cps.toList.length := (Array.length_toList).symm
  rw [hz]
  generalize z.cps.toList = l
  show (l.drop (min n l.length)).take (min m l.length - min n l.length) = _
  refine List.ext_getElem? fun k => ?_
  rw [List.getElem?_take, List.getElem?_take, List.getElem?_drop, List.getElem?_drop]
  by_cases hn : n ≤ l.length
  · rw [Nat.min_eq_left hn]
    by_cases hm : m ≤ l.length
    · rw [Nat.min_eq_left hm]
      have : ((m : Int) - (n : Int)).toNat = m - n := by omega
      rw [this, Int.toNat_natCast]
    · rw [Nat.min_eq_right (by omega)]
      by_cases hk : n + k < l.length
      · rw [if_pos (by omega), if_pos (by omega), Int.toNat_natCast]
      · rw [if_neg (by omega), Int.toNat_natCast, List.getElem?_eq_none (by omega)]
        split <;> rfl
  · rw [if_neg (by omega), Int.toNat_natCast, List.getElem?_eq_none (by omega)]
    split <;> rfl
theorem sg_txt {f : Option Int → List Nat} {r : Rn} (h0 : 0 ≤ r.2.1) : (sg r).filterMap (tx1 f) = ((f r.1).drop r.2.1.toNat).take (r.2.2 - r.2.1).toNat := by
  unfold sg
  rw [List.filterMap_map, ← get_range]
  congr 1
  funext k
  show (f r.1)[(r.2.1 + (k : Int)).toNat]? = (f r.1)[r.2.1.toNat + k]?
  congr 1
  omega
theorem cut_txt {f : Option Int → List Nat} {z : Str} {r : Rn} (hf : f r.1 = z.cps.toList) (h0 : 0 ≤ r.2.1) (h1 : r.2.1 ≤ r.2.2) : (cutS z (some r.2.1) (some r.2.2)).cps.toList = (sg r).filterMap (tx1 f) := by
  rw [cut_list h0 h1, sg_txt h0, hf]
theorem cut_len {z : Str} {a b : Int} (h0 : 0 ≤ a) (h1 : a ≤ b) : (cutS z (some a) (some b)).length ≤ z.length := by
  show (cutS z (some a) (some b)).cps.size ≤ z.cps.size
  rw [← Array.length_toList, ← Array.length_toList, cut_list h0 h1, List.length_take, List.length_drop]
  omega
theorem str_ext {x y : Str} (h : x.cps.toList = y.cps.toList) : x = y := by
  cases x
  cases y
  simp at h
  rw [h]
/-- what holds of the heads and the starts stays -/
theorem tidy_pre {P : Option Int → Int → Prop} : ∀ {rs rows : List Rn}, (∀ r ∈ rs, P r.1 r.2.1) → (∀ r ∈ rows, P r.1 r.2.1) → ∀ r ∈ rs.foldl tdStep rows, P r.1 r.2.1
  | [], rows, _, h => h
  | q :: rs, rows, h1, h2 => by
    rw [List.foldl_cons]
    refine tidy_pre (fun r hr => h1 r (.tail _ hr)) ?_
    have hq := h1 q (.head _)
    unfold tdStep
    split
    · exact h2
    · split
      · rename_i p hp
        split
        · intro r hr
          rcases List.mem_append.mp hr with hr | hr
          · exact h2 r (List.dropLast_subset _ hr)
          · rw [List.mem_singleton] at hr
            subst hr
            exact h2 p (List.mem_of_getLast? hp)
        · intro r hr
          rcases List.mem_append.mp hr with hr | hr
          · exact h2 r hr
          · rw [List.mem_singleton] at hr
            subst hr
            exact hq
      · intro r hr
        rcases List.mem_append.mp hr with hr | hr
        · exact h2 r hr
        · rw [List.mem_singleton] at hr
          subst hr
          exact hq
end Vl

set_option Elab.async false
set_option linter.all false
set_option maxRecDepth 100000
set_option maxHeartbeats 4000000
namespace Vl
open PySem PySem.Spec PyProof.Rows L2 My
theorem range_of {n : Nat} (h : n ≤ 100000) : rangeOf1 [.int (n : Int)] = some ((List.range n).map fun j => D.int (j : Nat)) := by
  have hc : decide (-(2 ^ 62 : Int) ≤ (n : Int) ∧ (n : Int) < 2 ^ 62) = true := decide_eq_true ⟨by omega, by omega⟩
  simp only [rangeOf1]
  rw [if_pos hc]
  simp [rangeD]
theorem len_of {xs : List D} {n : Nat} (h : xs.length = n) (hn : n ≤ 100000) : lenP [.lst xs] = some (.val (.int (n : Int))) := by
  subst h
  rfl
theorem argsI_of {k : List D → Option (List D)} {fs : List Ft} {g g1 g2 : Sg} {xs : List RV} {ds es : List D} (h1 : evA fs g = .ok xs g1) (h2 : frzA xs g1 = some (ds, g2)) (h3 : k ds = some es) : argsI k fs g = .ok es g2 := by
  unfold argsI
  rw [h1]
  simp only [Res.bind, h2, h3]
theorem forF_of {fi : Fi} {t : Tg} {body : Fs} {g g1 : Sg} {ds : List D} (h : fi g = .ok ds g1) : forF fi t body g = loopF t body ds g1 := by
  unfold forF
  rw [h]
  rfl
theorem callF1 {p : List D → Option RV} {i : Nat} {g : Sg} {t : Bool} {d : D} {r : RV} (h1 : g[i]? = some (.val t d)) (h2 : p [d] = some r) : callF p [nameF i] g = .ok r g := by
  simp only [callF, evA, nameF, h1, settle, Res.bind, derefA, deref, Option.bind_some, Option.map_some, h2]
theorem evA1 {f : Ft} {g g1 : Sg} {d : D} (h : f g = .ok (.val d) g1) : evA [f] g = .ok [.val d] g1 := by
  simp only [evA, h, settle, Res.bind]
theorem callFo {p : List D → Option RV} {i : Nat} {g : Sg} {t : Bool} {d : D} {r : RV} (h1 : g[i]? = some (.own t d)) (h2 : p [d] = some r) : callF p [nameF i] g = .ok r g := by
  simp only [callF, evA, nameF, h1, settle, Res.bind, derefA, deref, Option.bind_some, Option.map_some, h2]
theorem blsD_map : ∀ ks : List Bool, blsD (ks.map D.bl) = some ks
  | [] => rfl
  | a :: r => by simp [blsD, blsD_map r]
theorem rgD_range (n : Nat) : rgD (n : Int) = (List.range n).map fun j => D.int (j : Nat) := by
  simp [rgD]
theorem listRg_of {f : Ft} {g g1 : Sg} {n : Nat} (h : f g = .ok (.val (.int (n : Int))) g1) (hn : n ≤ 1000) : listRg f g = .ok (.fr (.lst ((List.range n).map fun j => D.int (j : Nat)))) g1 := by
  have hc : (0 : Int) ≤ (n : Nat) ∧ ((n : Nat) : Int) ≤ 16777216 := ⟨by omega, by omega⟩
  unfold listRg
  rw [h]
  simp only [settle, Res.bind, deref]
  rw [if_pos hc, rgD_range]
theorem intsR_map : ∀ ns : List Int, intsR (ns.map D.int) = some ns
  | [] => rfl
  | a :: r => by simp [intsR, intsR_map r]
theorem rowsR_map : ∀ (l : List (List Int)), (∀ r ∈ l, r ≠ []) → rowsR (l.map tupI) = some l
  | [], _ => rfl
  | [] :: t, h => absurd rfl (h [] (.head _))
  | (x :: r) :: t, h => by
    have e := intsR_map (x :: r)
    have ih := rowsR_map t fun q hq => h q (.tail _ hq)
    show rowsR (.tup (D.int x :: r.map D.int) :: t.map tupI) = _
    rw [List.map_cons] at e
    simp only [rowsR, e, Option.bind_some, ih, Option.map_some]
theorem ints_self (ns : List Int) : eqD (.lst (ns.map D.int)) (.lst (ns.map D.int)) = some true := by
  rw [eqD_ints, decide_eq_true rfl]
theorem nat_ints (l : List Nat) : (l.map fun j => D.int (j : Nat)) = (l.map fun (j : Nat) => (j : Int)).map D.int := by
  rw [List.map_map]
  rfl
abbrev nD (l : List Nat) : List D := l.map fun j => D.int (j : Nat)
/-- k meets one of those -/
theorem all_map {l : List Nat} {f : Nat → Bool} : allP [.lst (l.map fun o => D.bl (f o))] = some (.val (.bl (l.all f))) := by
  have e1 : (l.map fun o => D.bl (f o)) = (l.map f).map D.bl := by
    rw [List.map_map]
    rfl
  rw [e1]
  simp only [allP, blsD_map, Option.map_some, List.all_map]
  rfl

theorem set_un {g : Sg} {v : Nat} {x : Sl} (hv : v < g.length) (hg : g[v]? = some .un) : (g.set v x).set v .un = g := by
  rw [List.set_set]
  exact List.ext_getElem? fun i => by
    by_cases hi : v = i
    · subst hi
      rw [List.getElem?_set_self hv, hg]
    · rw [List.getElem?_set_ne hi]
theorem cmap_go {α : Type} (F G : α → D) {fe : Ft} {v : Nat} {g : Sg} (hv : v < g.length) (hg : g[v]? = some .un) : ∀ {l : List α} {acc : List D}, acc.length + l.length ≤ 1000 →
    (∀ x ∈ l, noX (settle (fe (g.set v (.val false (F x))))) = .ok (.val (G x)) (g.set v (.val false (F x)))) → compL (.name v) none fe [v] (l.map F) g acc = .ok (.fr (.lst (acc ++ l.map G))) g
  | [], acc, _, _ => by simp [compL]
  | x :: l, acc, hl, k => by
    have e2 := k x (.head _)
    rw [List.length_cons] at hl
    have hl2 : acc.length < sizeLine := by simp [sizeLine]; omega
    have ih := cmap_go F G hv hg (l := l) (acc := acc ++ [G x]) (by rw [List.length_append]; simp; omega) fun d hd => k d (.tail _ hd)
    have e1 : tgF (.name v) (F x) g = some (g.set v (.val false (F x))) := rfl
    have e3 : frz1 (.val (G x)) (g.set v (.val false (F x))) = some (G x, g.set v (.val false (F x))) := rfl
    have e4 : wipeG (g.set v (.val false (F x))) [v] = g := set_un hv hg
    rw [List.map_cons]
    unfold compL
    rw [e1]
    simp only [e2, e3, if_pos hl2, e4, ih, List.append_assoc, List.singleton_append, List.map_cons]
theorem cmap {α : Type} (F G : α → D) {fe : Ft} {v : Nat} {g : Sg} (hv : v < g.length) (hg : g[v]? = some .un) {l : List α} (hl : l.length ≤ 1000)
    (h : ∀ x ∈ l, noX (settle (fe (g.set v (.val false (F x))))) = .ok (.val (G x)) (g.set v (.val false (F x)))) : compL (.name v) none fe [v] (l.map F) g [] = .ok (.fr (.lst (l.map G))) g := by
  have := cmap_go F G hv hg (l := l) (acc := []) (by simp; omega) h
  rwa [List.nil_append] at this
theorem cfil_go {α : Type} (F G : α → D) (keep : α → Bool) {TT : Fb} {fe : Ft} {v : Nat} {g : Sg} (hv : v < g.length) (hg : g[v]? = some .un) : ∀ {l : List α} {acc : List D}, acc.length + l.length ≤ 1000 →
    (∀ x ∈ l, noX (TT (g.set v (.val false (F x)))) = .ok (keep x) (g.set v (.val false (F x))) ∧ (keep x = true → noX (settle (fe (g.set v (.val false (F x))))) = .ok (.val (G x)) (g.set v (.val false (F x))))) → compL (.name v) (some TT) fe [v] (l.map F) g acc = .ok (.fr (.lst (acc ++ (l.filter keep).map G))) g
  | [], acc, _, _ => by simp [compL]
  | x :: l, acc, hl, k => by
    obtain ⟨t1, e2⟩ := k x (.head _)
    rw [List.length_cons] at hl
    have hl2 : acc.length < sizeLine := by simp [sizeLine]; omega
    have e1 : tgF (.name v) (F x) g = some (g.set v (.val false (F x))) := rfl
    have e3 : frz1 (.val (G x)) (g.set v (.val false (F x))) = some (G x, g.set v (.val false (F x))) := rfl
    have e4 : wipeG (g.set v (.val false (F x))) [v] = g := set_un hv hg
    rw [List.map_cons]
    unfold compL
    rw [e1]
    cases hk : keep x with
    | true =>
      have ih := cfil_go F G keep hv hg (l := l) (acc := acc ++ [G x]) (by rw [List.length_append]; simp; omega) fun d hd => k d (.tail _ hd)
      rw [hk] at t1
      simp only [t1, e2 hk, e3, if_pos hl2, e4, ih, List.append_assoc, List.singleton_append, List.filter_cons, hk, if_pos, List.map_cons]
    | false =>
      have ih := cfil_go F G keep hv hg (l := l) (acc := acc) (by omega) fun d hd => k d (.tail _ hd)
      rw [hk] at t1
      simp only [t1, e4, ih, List.filter_cons, hk]
      simp
theorem cfil {α : Type} (F G : α → D) (keep : α → Bool) {TT : Fb} {fe : Ft} {v : Nat} {g : Sg} (hv : v < g.length) (hg : g[v]? = some .un) {l : List α} (hl : l.length ≤ 1000)
    (h : ∀ x ∈ l, noX (TT (g.set v (.val false (F x)))) = .ok (keep x) (g.set v (.val false (F x))) ∧ (keep x = true → noX (settle (fe (g.set v (.val false (F x))))) = .ok (.val (G x)) (g.set v (.val false (F x))))) :
    compL (.name v) (some TT) fe [v] (l.map F) g [] = .ok (.fr (.lst ((l.filter keep).map G))) g := by
  have := cfil_go F G keep hv hg (l := l) (acc := []) (by simp; omega) h
  rwa [List.nil_append] at this

theorem compF_of {fi : Fi} {t : Tg} {tt : Option Fb} {fe : Ft} {vs : List Nat} {g : Sg} {ds : List D} {r : Res RV} (h1 : fi g = .ok ds g) (h2 : wipeG g vs = g) (h3 : compL t tt fe vs ds g [] = r) : compF fi t tt fe vs g = r := by
  unfold compF
  rw [h1]
  simp only [Res.bind]
  rw [h2, h3]
theorem iterF_val {i : Nat} {g : Sg} {t : Bool} {ds : List D} (h : g[i]? = some (.val t (.lst ds))) : iterF (nameF i) g = .ok ds g := by
  unfold iterF nameF
  rw [h]
  rfl
theorem iter_rg {i : Nat} {g : Sg} {t : Bool} {n : Nat} (h : g[i]? = some (.val t (.int (n : Int)))) (hn : n ≤ 100000) : argsI rangeOf1 [nameF i] g = .ok (nD (List.range n)) g :=
  argsI_of (evA1 (f := nameF i) (by unfold nameF; rw [h])) rfl (range_of hn)
theorem map_get {α β : Type} (l : List α) (d : α) (f : α → β) : l.map f = (List.range l.length).map fun i => f ((l[i]?).getD d) := by
  refine List.ext_getElem (by simp) fun i h1 h2 => ?_
  rw [List.length_map] at h1
  simp [List.getElem?_eq_getElem h1]

theorem lg30 : (10 ^ 30 : Int).natAbs.log2 < 9000 := by decide
theorem pw30 : powOk 10 30 = true := by decide
theorem number_ok {b : D} (hb : GB b) : ∃ n b', m__law_number [.own b] = .ok (.val (.int n)) [.own true b'] ∧ GB b' ∧ 0 ≤ n ∧ n ≤ 10 ^ 30 := by
  obtain ⟨k, b1, e1, g1, k0, k1⟩ := pick_ok hb (lim := 6) (by decide) (by decide)
  unfold m__law_number
  by_cases h3 : k < 3
  · obtain ⟨n, b2, e2, g2, n0, n1⟩ := pick_ok g1 (lim := 5) (by decide) (by decide)
    exact ⟨n, b2, by simp [fnM, fnK, startG, seqF, iteS, andB, orB, notB, blF, truF, truth, op2, op1, nameF, cF, retF, retK, ifF, andV, orV, notF, settle, Res.bind, bindE, lift2, lift1, deref, derefA, setF, setK, exprF, appF, asgF, tgF, tgsF, frz1, frzA, callM, callF, callK, evA, ixs, toArs, toAr, putOuts_eq, putSl_nil, putSl_v, putSl_ne, putSl_at, putSl_val, putSl_un, outC, valsF, lstP, tupP, ixP, atI, ixN, eqP, neP, eqD_int, eqD_str, eqD_bl, ltP, leP, gtP, geP, addP, subP, lenP, maxP, minP, chB, sizeLine, methM, methC, methK, pickM, callKw, kwK, pickL, setA, putD, putO, fldP, mkM, dflM, isiP, tyN, e1, e2, h3], g2, n0, by omega⟩
  · by_cases h5 : k < 5
    · obtain ⟨n, b2, e2, g2, n0, n1⟩ := pick_ok g1 (lim := 60) (by decide) (by decide)
      exact ⟨n, b2, by simp [fnM, fnK, startG, seqF, iteS, andB, orB, notB, blF, truF, truth, op2, op1, nameF, cF, retF, retK, ifF, andV, orV, notF, settle, Res.bind, bindE, lift2, lift1, deref, derefA, setF, setK, exprF, appF, asgF, tgF, tgsF, frz1, frzA, callM, callF, callK, evA, ixs, toArs, toAr, putOuts_eq, putSl_nil, putSl_v, putSl_ne, putSl_at, putSl_val, putSl_un, outC, valsF, lstP, tupP, ixP, atI, ixN, eqP, neP, eqD_int, eqD_str, eqD_bl, ltP, leP, gtP, geP, addP, subP, lenP, maxP, minP, chB, sizeLine, methM, methC, methK, pickM, callKw, kwK, pickL, setA, putD, putO, fldP, mkM, dflM, isiP, tyN, e1, e2, h3, h5], g2, n0, by omega⟩
    · obtain ⟨n, b2, e2, g2, n0, n1⟩ := pick_ok g1 (lim := 10 ^ 30) (by decide) lg30
      simp only [Int.reducePow] at e2
      exact ⟨n, b2, by simp [fnM, fnK, startG, seqF, iteS, andB, orB, notB, blF, truF, truth, op2, op1, nameF, cF, retF, retK, ifF, andV, orV, notF, settle, Res.bind, bindE, lift2, lift1, deref, derefA, setF, setK, exprF, appF, asgF, tgF, tgsF, frz1, frzA, callM, callF, callK, evA, ixs, toArs, toAr, putOuts_eq, putSl_nil, putSl_v, putSl_ne, putSl_at, putSl_val, putSl_un, outC, valsF, lstP, tupP, ixP, atI, ixN, eqP, neP, eqD_int, eqD_str, eqD_bl, ltP, leP, gtP, geP, addP, subP, lenP, maxP, minP, chB, sizeLine, methM, methC, methK, pickM, callKw, kwK, pickL, setA, putD, putO, fldP, mkM, dflM, isiP, tyN, e1, e2, h3, h5, powP, pw30], g2, n0, by omega⟩

theorem change_ok {lo hi : Int} {z : Str} (h0 : 0 ≤ lo) (h1 : lo ≤ hi) : m_Change [.val (.int lo), .val (.int hi), .val (.str z)] = .ok (.fr (.slo "Change" [some (.int lo), some (.int hi), some (.str z)])) [.val true (.int lo), .val true (.int hi), .val true (.str z)] := by
  unfold m_Change m_Change_init r_Change_init
  simp [fnM, fnK, startG, seqF, iteS, andB, orB, notB, blF, truF, truth, op2, op1, nameF, cF, retF, retK, ifF, andV, orV, notF, settle, Res.bind, bindE, lift2, lift1, deref, derefA, setF, setK, exprF, appF, asgF, tgF, tgsF, frz1, frzA, callM, callF, callK, evA, ixs, toArs, toAr, putOuts_eq, putSl_nil, putSl_v, putSl_ne, putSl_at, putSl_val, putSl_un, outC, valsF, lstP, tupP, ixP, atI, ixN, eqP, neP, eqD_int, eqD_str, eqD_bl, ltP, leP, gtP, geP, addP, subP, lenP, maxP, minP, chB, sizeLine, methM, methC, methK, pickM, callKw, kwK, pickL, setA, putD, putO, fldP, mkM, dflM, isiP, tyN, h0, h1]

/-! ### k12: one pass, in plain Lean -/
/-- the numbers of places -/
def numB (ps : List (Int × Int)) : List Int := ps.map (·.1)
def numE (ps : List (Int × Int)) : List Int := ps.map (·.2)
def kz (ps : List (Int × Int)) (z : Str) (j : Nat) : Int :=
  if z = "sort begin" then (numB ps)[j]?.getD 0 else if z = "sort end" then (numE ps)[j]?.getD 0 else if z = "sort begin down" then -((numB ps)[j]?.getD 0) else -((numE ps)[j]?.getD 0)
def pStep (ps : List (Int × Int)) (l : List Nat) (z : Str) : List Nat := if z = "reverse" then l.reverse else l.mergeSort fun a b => decide (kz ps z a ≤ kz ps z b)
theorem pStep_perm (ps : List (Int × Int)) (l : List Nat) (z : Str) : (pStep ps l z).Perm l := by
  unfold pStep
  split
  · exact List.reverse_perm _
  · exact List.mergeSort_perm _ _
/-- the law's rows of three -/
def t3 (key : Nat → Int) (l : List Nat) (i : Nat) : List Int := [key (l[i]?.getD 0), (i : Int), (l[i]?.getD 0 : Nat)]
theorem t3_le {key : Nat → Int} {l : List Nat} {a b : Nat} : rowLe (t3 key l a) (t3 key l b) = true ↔ key (l[a]?.getD 0) < key (l[b]?.getD 0) ∨ (key (l[a]?.getD 0) = key (l[b]?.getD 0) ∧ a ≤ b) := by
  have k2 : ∀ (x y : Int) (l m : List Int), x :: l ≤ y :: m ↔ x < y ∨ (x = y ∧ l ≤ m) := fun x y l m => by
    rw [List.cons_le_cons_iff]
  unfold rowLe t3
  rw [decide_eq_true_eq, k2, k2, k2]
  have e0 : ([] : List Int) ≤ [] := List.le_refl _
  simp only [e0, and_true]
  constructor
  · rintro (h | ⟨h, h2 | ⟨h2, _⟩⟩)
    · exact .inl h
    · exact .inr ⟨h, by omega⟩
    · exact .inr ⟨h, by omega⟩
  · rintro (h | ⟨h, h2⟩)
    · exact .inl h
    · refine .inr ⟨h, ?_⟩
      by_cases e : a = b
      · subst e
        exact .inr ⟨rfl, by omega⟩
      · exact .inl (by omega)
theorem t3_sort (key : Nat → Int) (l : List Nat) : sortR ((List.range l.length).map (t3 key l)) = ((List.range l.length).mergeSort fun a b => decide (key (l[a]?.getD 0) ≤ key (l[b]?.getD 0))).map (t3 key l) := by
  unfold sortR
  rw [← List.map_mergeSort (r := fun a b => rowLe (t3 key l a) (t3 key l b)) (s := rowLe) (f := t3 key l) (fun a _ b _ => rfl)]
  congr 1
  have tr : ∀ a b c, rowLe (t3 key l a) (t3 key l b) = true → rowLe (t3 key l b) (t3 key l c) = true → rowLe (t3 key l a) (t3 key l c) = true := fun a b c h1 h2 => by
    rw [t3_le] at *
    omega
  have to : ∀ a b, (rowLe (t3 key l a) (t3 key l b) || rowLe (t3 key l b) (t3 key l a)) = true := fun a b => by
    rw [Bool.or_eq_true, t3_le, t3_le]
    omega
  refine List.Perm.eq_of_pairwise (le := fun a b => rowLe (t3 key l a) (t3 key l b) = true) (fun a b _ _ h1 h2 => ?_) (List.pairwise_mergeSort tr to _) ?_ ((List.mergeSort_perm _ _).trans (List.mergeSort_perm _ _).symm)
  · rw [t3_le] at h1 h2
    omega
  · have st := sort_stable (le := fun a b => decide (key (l[a]?.getD 0) ≤ key (l[b]?.getD 0))) (S := fun a b : Nat => a < b) (l := List.range l.length) (fun a b c h1 h2 => by simp at *; omega) (fun a b => by simp; omega) (fun a => by omega) List.pairwise_lt_range
    refine st.imp fun {a b} h => ?_
    obtain ⟨h1, h2⟩ := h
    simp only [decide_eq_true_eq] at h1 h2
    rw [t3_le]
    by_cases e : key (l[a]?.getD 0) = key (l[b]?.getD 0)
    · exact .inr ⟨e, by have := h2 (by omega); omega⟩
    · exact .inl (by omega)
theorem t3_map (key : Nat → Int) (l : List Nat) : ((List.range l.length).mergeSort fun a b => decide (key (l[a]?.getD 0) ≤ key (l[b]?.getD 0))).map (fun a => l[a]?.getD 0) = l.mergeSort fun a b => decide (key a ≤ key b) := by
  rw [List.map_mergeSort (r := fun a b => decide (key (l[a]?.getD 0) ≤ key (l[b]?.getD 0))) (s := fun a b => decide (key a ≤ key b)) (f := fun a => l[a]?.getD 0) (fun a _ b _ => rfl)]
  have := map_get l 0 (fun x => x)
  rw [List.map_id'] at this
  rw [← this]
def W5 (z : Str) : Prop := z = "sort begin" ∨ z = "sort end" ∨ z = "sort begin down" ∨ z = "sort end down" ∨ z = "reverse"

/-! ### k12: the program's passes -/
def ArgL (A : List D) (a : Ar) (sl : Sl) : Prop := (a = .own (.lst A) ∧ sl = .own true (.lst A)) ∨ (a = .val (.lst A) ∧ sl = .val true (.lst A))
theorem lat_num {num : List Int} {j : Nat} (hj : j < num.length) (hn : num.length ≤ 1000) : latD (some (.int (j : Nat))) (some (.lst (num.map D.int))) = some (.int (num[j]?.getD 0)) := by
  unfold latD
  dsimp only
  rw [if_pos ⟨by omega, by omega⟩, Int.toNat_natCast, List.getElem?_map, List.getElem?_eq_getElem hj]
  rfl
theorem passed_rev {l : List Nat} {N : D} : m_passed_rows [.val (.str "reverse"), .own (.lst (nD l)), .val N] = .ok (.fr (.lst (nD l.reverse))) [.val true (.str "reverse"), .own true (.lst (nD l)), .val true N] := by
  have e : (nD l).reverse = nD l.reverse := (List.map_reverse).symm
  have rv : revP (.lst (nD l)) = some (.fr (.lst (nD l.reverse))) := by rw [← e]; rfl
  generalize nD l.reverse = R at *
  generalize nD l = A at *
  unfold m_passed_rows
  simp [fnM, fnK, startG, seqF, iteS, andB, orB, notB, blF, truF, truth, op2, op1, nameF, cF, retF, retK, ifF, andV, orV, notF, settle, Res.bind, bindE, lift2, lift1, deref, derefA, setF, setK, exprF, appF, asgF, tgF, tgsF, frz1, frzA, callM, callF, callK, evA, ixs, toArs, toAr, putOuts_eq, putSl_nil, putSl_v, putSl_ne, putSl_at, putSl_val, putSl_un, outC, valsF, lstP, tupP, ixP, atI, ixN, eqP, neP, eqD_int, eqD_str, eqD_bl, ltP, leP, gtP, geP, addP, subP, lenP, maxP, minP, chB, sizeLine, methM, methC, methK, pickM, callKw, kwK, pickL, setA, putD, putO, fldP, mkM, dflM, isiP, tyN, opO, ownK, owOr, owB, owR, owC, owI, okT, okU, clsN, backR, unO, ownU, neO, ownN, notR, isoP, vB, settleF, lk_hit, lk_miss, Option.map_some, kb_NoneType_bool, kb_NoneType_int, kb_NoneType_str, kb_NoneType_list, kb_NoneType_tuple, kb_NoneType_dict, kb_bool_bool, kb_bool_int, kb_bool_str, kb_bool_list, kb_bool_tuple, kb_bool_dict, kb_int_bool, kb_int_int, kb_int_str, kb_int_list, kb_int_tuple, kb_int_dict, kb_str_bool, kb_str_int, kb_str_str, kb_str_list, kb_str_tuple, kb_str_dict, kb_list_bool, kb_list_int, kb_list_str, kb_list_list, kb_list_tuple, kb_list_dict, kb_tuple_bool, kb_tuple_int, kb_tuple_str, kb_tuple_list, kb_tuple_tuple, kb_tuple_dict, kb_dict_bool, kb_dict_int, kb_dict_str, kb_dict_list, kb_dict_tuple, kb_dict_dict, vS, vI, isP, isNotP, isN, known, chV, orT, andT, truR, isB, isNotB, isQ, isNotQ, orP, propF, propC, propC.pickP, cmethM, ccallM, icallM, icallC, icallKw, icallCK, isIns, noX, ch3B, ch3V, chN, ixO, ownX, rv]
theorem passed_up {z : Str} {l : List Nat} {num : List Int} (h1 : ¬ z = "reverse") (h2 : endsP z (.str " down") = some (.val (.bl false))) (hl : l.length ≤ 1000) (hk : ∀ j ∈ l, j < num.length) (hn : num.length ≤ 1000) :
    m_passed_rows [.val (.str z), .own (.lst (nD l)), .val (.lst (num.map D.int))] = .ok (.fr (.lst (nD (l.mergeSort fun a b => decide (num[a]?.getD 0 ≤ num[b]?.getD 0))))) [.val true (.str z), .own true (.lst (nD l)), .val true (.lst (num.map D.int))] := by
  have so := sortK_eq (T := keyI) (kf := fun g d => intO (latD (some d) (lvar 2 g d))) (fe := nameF 1) (g := [.val true (.str z), .own true (.lst (nD l)), .val true (.lst (num.map D.int))]) (g1 := [.val true (.str z), .own true (.lst (nD l)), .val true (.lst (num.map D.int))]) (x := .at_ 1) (l := l) (f := fun j => D.int (j : Nat)) (k := fun j => num[j]?.getD 0) rfl rfl (by simp only [sizeLine]; omega) fun j hj => by
    have e : lvar 2 [Sl.val true (.str z), .own true (.lst (nD l)), .val true (.lst (num.map D.int))] (D.int (j : Nat)) = some (.lst (num.map D.int)) := rfl
    show intO _ = _
    rw [e, lat_num (hk j hj) hn]
    rfl
  have e : (l.mergeSort fun a b => keyI.le (num[a]?.getD 0) (num[b]?.getD 0)).map (fun j : Nat => D.int (j : Nat)) = nD (l.mergeSort fun a b => decide (num[a]?.getD 0 ≤ num[b]?.getD 0)) := rfl
  rw [e] at so
  generalize nD (l.mergeSort fun a b => decide (num[a]?.getD 0 ≤ num[b]?.getD 0)) = R at *
  generalize nD l = A at *
  generalize num.map D.int = N at *
  unfold m_passed_rows
  simp [fnM, fnK, startG, seqF, iteS, andB, orB, notB, blF, truF, truth, op2, op1, nameF, cF, retF, retK, ifF, andV, orV, notF, settle, Res.bind, bindE, lift2, lift1, deref, derefA, setF, setK, exprF, appF, asgF, tgF, tgsF, frz1, frzA, callM, callF, callK, evA, ixs, toArs, toAr, putOuts_eq, putSl_nil, putSl_v, putSl_ne, putSl_at, putSl_val, putSl_un, outC, valsF, lstP, tupP, ixP, atI, ixN, eqP, neP, eqD_int, eqD_str, eqD_bl, ltP, leP, gtP, geP, addP, subP, lenP, maxP, minP, chB, sizeLine, methM, methC, methK, pickM, callKw, kwK, pickL, setA, putD, putO, fldP, mkM, dflM, isiP, tyN, opO, ownK, owOr, owB, owR, owC, owI, okT, okU, clsN, backR, unO, ownU, neO, ownN, notR, isoP, vB, settleF, lk_hit, lk_miss, Option.map_some, kb_NoneType_bool, kb_NoneType_int, kb_NoneType_str, kb_NoneType_list, kb_NoneType_tuple, kb_NoneType_dict, kb_bool_bool, kb_bool_int, kb_bool_str, kb_bool_list, kb_bool_tuple, kb_bool_dict, kb_int_bool, kb_int_int, kb_int_str, kb_int_list, kb_int_tuple, kb_int_dict, kb_str_bool, kb_str_int, kb_str_str, kb_str_list, kb_str_tuple, kb_str_dict, kb_list_bool, kb_list_int, kb_list_str, kb_list_list, kb_list_tuple, kb_list_dict, kb_tuple_bool, kb_tuple_int, kb_tuple_str, kb_tuple_list, kb_tuple_tuple, kb_tuple_dict, kb_dict_bool, kb_dict_int, kb_dict_str, kb_dict_list, kb_dict_tuple, kb_dict_dict, vS, vI, isP, isNotP, isN, known, chV, orT, andT, truR, isB, isNotB, isQ, isNotQ, orP, propF, propC, propC.pickP, cmethM, ccallM, icallM, icallC, icallKw, icallCK, isIns, noX, ch3B, ch3V, chN, ixO, ownX, h1, strM1, h2, so]
theorem passed_dn {z : Str} {l : List Nat} {num : List Int} (h1 : ¬ z = "reverse") (h2 : endsP z (.str " down") = some (.val (.bl true))) (hl : l.length ≤ 1000) (hk : ∀ j ∈ l, j < num.length) (hn : num.length ≤ 1000) :
    m_passed_rows [.val (.str z), .own (.lst (nD l)), .val (.lst (num.map D.int))] = .ok (.fr (.lst (nD (l.mergeSort fun a b => decide (-(num[a]?.getD 0) ≤ -(num[b]?.getD 0)))))) [.val true (.str z), .own true (.lst (nD l)), .val true (.lst (num.map D.int))] := by
  have so := sortK_eq (T := keyI) (kf := fun g d => intO (lnegD (latD (some d) (lvar 2 g d)))) (fe := nameF 1) (g := [.val true (.str z), .own true (.lst (nD l)), .val true (.lst (num.map D.int))]) (g1 := [.val true (.str z), .own true (.lst (nD l)), .val true (.lst (num.map D.int))]) (x := .at_ 1) (l := l) (f := fun j => D.int (j : Nat)) (k := fun j => -(num[j]?.getD 0)) rfl rfl (by simp only [sizeLine]; omega) fun j hj => by
    have e : lvar 2 [Sl.val true (.str z), .own true (.lst (nD l)), .val true (.lst (num.map D.int))] (D.int (j : Nat)) = some (.lst (num.map D.int)) := rfl
    show intO _ = _
    rw [e, lat_num (hk j hj) hn]
    rfl
  have e : (l.mergeSort fun a b => keyI.le (-(num[a]?.getD 0)) (-(num[b]?.getD 0))).map (fun j : Nat => D.int (j : Nat)) = nD (l.mergeSort fun a b => decide (-(num[a]?.getD 0) ≤ -(num[b]?.getD 0))) := rfl
  rw [e] at so
  generalize nD (l.mergeSort fun a b => decide (-(num[a]?.getD 0) ≤ -(num[b]?.getD 0))) = R at *
  generalize nD l = A at *
  generalize num.map D.int = N at *
  unfold m_passed_rows
  simp [fnM, fnK, startG, seqF, iteS, andB, orB, notB, blF, truF, truth, op2, op1, nameF, cF, retF, retK, ifF, andV, orV, notF, settle, Res.bind, bindE, lift2, lift1, deref, derefA, setF, setK, exprF, appF, asgF, tgF, tgsF, frz1, frzA, callM, callF, callK, evA, ixs, toArs, toAr, putOuts_eq, putSl_nil, putSl_v, putSl_ne, putSl_at, putSl_val, putSl_un, outC, valsF, lstP, tupP, ixP, atI, ixN, eqP, neP, eqD_int, eqD_str, eqD_bl, ltP, leP, gtP, geP, addP, subP, lenP, maxP, minP, chB, sizeLine, methM, methC, methK, pickM, callKw, kwK, pickL, setA, putD, putO, fldP, mkM, dflM, isiP, tyN, opO, ownK, owOr, owB, owR, owC, owI, okT, okU, clsN, backR, unO, ownU, neO, ownN, notR, isoP, vB, settleF, lk_hit, lk_miss, Option.map_some, kb_NoneType_bool, kb_NoneType_int, kb_NoneType_str, kb_NoneType_list, kb_NoneType_tuple, kb_NoneType_dict, kb_bool_bool, kb_bool_int, kb_bool_str, kb_bool_list, kb_bool_tuple, kb_bool_dict, kb_int_bool, kb_int_int, kb_int_str, kb_int_list, kb_int_tuple, kb_int_dict, kb_str_bool, kb_str_int, kb_str_str, kb_str_list, kb_str_tuple, kb_str_dict, kb_list_bool, kb_list_int, kb_list_str, kb_list_list, kb_list_tuple, kb_list_dict, kb_tuple_bool, kb_tuple_int, kb_tuple_str, kb_tuple_list, kb_tuple_tuple, kb_tuple_dict, kb_dict_bool, kb_dict_int, kb_dict_str, kb_dict_list, kb_dict_tuple, kb_dict_dict, vS, vI, isP, isNotP, isN, known, chV, orT, andT, truR, isB, isNotB, isQ, isNotQ, orP, propF, propC, propC.pickP, cmethM, ccallM, icallM, icallC, icallKw, icallCK, isIns, noX, ch3B, ch3V, chN, ixO, ownX, h1, strM1, h2, so]
theorem in_str {a b : Str} {k : Bool} (h : (!(Builtin.Str.occurrences b a 0 b.length 1).isEmpty) = k) : inP (.str a) (.str b) = some (.val (.bl k)) := by
  subst h
  rfl
theorem bi_core {PR : Fm} {O NB NE X : D} {L L2 C : List D} {z : Str} {bg : Bool} {t2 : Sl} (p : PR [.val (.str z), .own (.lst L), .val X] = .ok (.fr (.lst L2)) [.val true (.str z), .own true (.lst L), t2]) (i : inP (.str "begin") (.str z) = some (.val (.bl bg))) (hX : X = if bg = true then NB else NE) :
    (setF 2 (callM PR [(nameF 5), (nameF 2), (ifF (blF (op2 inP (cF (.str "begin")) (nameF 5))) (nameF 3) (nameF 4))])) [.val true O, .val true (.lst C), .own false (.lst L), .val false NB, .val false NE, .val false (.str z), .un] = .nx [.val true O, .val true (.lst C), .own false (.lst L2), .val false NB, .val false NE, .val false (.str z), .un] := by
  cases bg
  · subst hX
    simp [fnM, fnK, startG, seqF, iteS, andB, orB, notB, blF, truF, truth, op2, op1, nameF, cF, retF, retK, ifF, andV, orV, notF, settle, Res.bind, bindE, lift2, lift1, deref, derefA, setF, setK, exprF, appF, asgF, tgF, tgsF, frz1, frzA, callM, callF, callK, evA, ixs, toArs, toAr, putOuts_eq, putSl_nil, putSl_v, putSl_ne, putSl_at, putSl_val, putSl_un, outC, valsF, lstP, tupP, ixP, atI, ixN, eqP, neP, eqD_int, eqD_str, eqD_bl, ltP, leP, gtP, geP, addP, subP, lenP, maxP, minP, chB, sizeLine, methM, methC, methK, pickM, callKw, kwK, pickL, setA, putD, putO, fldP, mkM, dflM, isiP, tyN, opO, ownK, owOr, owB, owR, owC, owI, okT, okU, clsN, backR, unO, ownU, neO, ownN, notR, isoP, vB, settleF, lk_hit, lk_miss, Option.map_some, kb_NoneType_bool, kb_NoneType_int, kb_NoneType_str, kb_NoneType_list, kb_NoneType_tuple, kb_NoneType_dict, kb_bool_bool, kb_bool_int, kb_bool_str, kb_bool_list, kb_bool_tuple, kb_bool_dict, kb_int_bool, kb_int_int, kb_int_str, kb_int_list, kb_int_tuple, kb_int_dict, kb_str_bool, kb_str_int, kb_str_str, kb_str_list, kb_str_tuple, kb_str_dict, kb_list_bool, kb_list_int, kb_list_str, kb_list_list, kb_list_tuple, kb_list_dict, kb_tuple_bool, kb_tuple_int, kb_tuple_str, kb_tuple_list, kb_tuple_tuple, kb_tuple_dict, kb_dict_bool, kb_dict_int, kb_dict_str, kb_dict_list, kb_dict_tuple, kb_dict_dict, vS, vI, isP, isNotP, isN, known, chV, orT, andT, truR, isB, isNotB, isQ, isNotQ, orP, propF, propC, propC.pickP, cmethM, ccallM, icallM, icallC, icallKw, icallCK, isIns, noX, ch3B, ch3V, chN, ixO, ownX, i, p]
  · subst hX
    simp [fnM, fnK, startG, seqF, iteS, andB, orB, notB, blF, truF, truth, op2, op1, nameF, cF, retF, retK, ifF, andV, orV, notF, settle, Res.bind, bindE, lift2, lift1, deref, derefA, setF, setK, exprF, appF, asgF, tgF, tgsF, frz1, frzA, callM, callF, callK, evA, ixs, toArs, toAr, putOuts_eq, putSl_nil, putSl_v, putSl_ne, putSl_at, putSl_val, putSl_un, outC, valsF, lstP, tupP, ixP, atI, ixN, eqP, neP, eqD_int, eqD_str, eqD_bl, ltP, leP, gtP, geP, addP, subP, lenP, maxP, minP, chB, sizeLine, methM, methC, methK, pickM, callKw, kwK, pickL, setA, putD, putO, fldP, mkM, dflM, isiP, tyN, opO, ownK, owOr, owB, owR, owC, owI, okT, okU, clsN, backR, unO, ownU, neO, ownN, notR, isoP, vB, settleF, lk_hit, lk_miss, Option.map_some, kb_NoneType_bool, kb_NoneType_int, kb_NoneType_str, kb_NoneType_list, kb_NoneType_tuple, kb_NoneType_dict, kb_bool_bool, kb_bool_int, kb_bool_str, kb_bool_list, kb_bool_tuple, kb_bool_dict, kb_int_bool, kb_int_int, kb_int_str, kb_int_list, kb_int_tuple, kb_int_dict, kb_str_bool, kb_str_int, kb_str_str, kb_str_list, kb_str_tuple, kb_str_dict, kb_list_bool, kb_list_int, kb_list_str, kb_list_list, kb_list_tuple, kb_list_dict, kb_tuple_bool, kb_tuple_int, kb_tuple_str, kb_tuple_list, kb_tuple_tuple, kb_tuple_dict, kb_dict_bool, kb_dict_int, kb_dict_str, kb_dict_list, kb_dict_tuple, kb_dict_dict, vS, vI, isP, isNotP, isN, known, chV, orT, andT, truR, isB, isNotB, isQ, isNotQ, orP, propF, propC, propC.pickP, cmethM, ccallM, icallM, icallC, icallKw, icallCK, isIns, noX, ch3B, ch3V, chN, ixO, ownX, i, p]
theorem index_body {ps : List (Int × Int)} {l : List Nat} {z : Str} {O : D} {C : List D} (hz : W5 z) (hl : l.length ≤ 1000) (hk : ∀ j ∈ l, j < ps.length) (hn : ps.length ≤ 1000) :
    b_Order_indexes_0 [.val true O, .val true (.lst C), .own false (.lst (nD l)), .val false (.lst ((numB ps).map D.int)), .val false (.lst ((numE ps).map D.int)), .val false (.str z), .un] = .nx [.val true O, .val true (.lst C), .own false (.lst (nD (pStep ps l z))), .val false (.lst ((numB ps).map D.int)), .val false (.lst ((numE ps).map D.int)), .val false (.str z), .un] := by
  have lb : (numB ps).length = ps.length := by simp [numB]
  have le : (numE ps).length = ps.length := by simp [numE]
  have kb : ∀ j ∈ l, j < (numB ps).length := fun j hj => by rw [lb]; exact hk j hj
  have ke : ∀ j ∈ l, j < (numE ps).length := fun j hj => by rw [le]; exact hk j hj
  rcases hz with rfl | rfl | rfl | rfl | rfl
  · exact bi_core (bg := true) (passed_up (by decide +kernel) rfl hl kb (by omega)) (in_str (by decide +kernel)) rfl
  · exact bi_core (bg := false) (passed_up (by decide +kernel) rfl hl ke (by omega)) (in_str (by decide +kernel)) rfl
  · exact bi_core (bg := true) (passed_dn (by decide +kernel) rfl hl kb (by omega)) (in_str (by decide +kernel)) rfl
  · exact bi_core (bg := false) (passed_dn (by decide +kernel) rfl hl ke (by omega)) (in_str (by decide +kernel)) rfl
  · exact bi_core (bg := false) passed_rev (in_str (by decide +kernel)) rfl

/-! ### k12: indexes, and the law's order -/
abbrev chOf (q : Int × Int × Str) : D := .slo "Change" [some (.int q.1), some (.int q.2.1), some (.str q.2.2)]
abbrev rowD (p : Int × Int) : D := .tup [.int p.1, .int p.2]
abbrev ordD (zs : List Str) : D := .ins "Order" [("passes", .tup (zs.map D.str))]
abbrev prs (R : List (Int × Int × Str)) : List (Int × Int) := R.map fun q => (q.1, q.2.1)
theorem indexes_core {O NB NE : D} {C ZS L0 L1 : List D} {C3 C4 LR : Ft} {B : Fs} {s5 : Sl}
    (lr : LR [.val true O, .val true (.lst C), .un, .un, .un, .un, .un] = .ok (.fr (.lst L0)) [.val true O, .val true (.lst C), .un, .un, .un, .un, .un])
    (c3 : ∃ l, NB = .lst l ∧ C3 [.val true O, .val true (.lst C), .own false (.lst L0), .un, .un, .un, .un] = .ok (.fr (.lst l)) [.val true O, .val true (.lst C), .own false (.lst L0), .un, .un, .un, .un])
    (c4 : ∃ l, NE = .lst l ∧ C4 [.val true O, .val true (.lst C), .own false (.lst L0), .val false NB, .un, .un, .un] = .ok (.fr (.lst l)) [.val true O, .val true (.lst C), .own false (.lst L0), .val false NB, .un, .un, .un])
    (f0 : fldP "passes" [("Order", none)] O = some (.val (.tup ZS)))
    (lp : loopF (.name 5) B ZS [.val true O, .val true (.lst C), .own false (.lst L0), .val false NB, .val false NE, .un, .un] = .nx [.val true O, .val true (.lst C), .own false (.lst L1), .val false NB, .val false NE, s5, .un]) :
    fnM 2 7 (seqF (setF 2 LR) (seqF (setF 3 (settleF C3)) (seqF (setF 4 (settleF C4)) (seqF (forF (iterF (op1 (fldP "passes" [("Order", none)]) (nameF 0))) (.name 5) B) (retF (nameF 2)))))) [.val O, .val (.lst C)] = .ok (.fr (.lst L1)) [.val true O, .val true (.lst C)] := by
  obtain ⟨l3, rfl, c3⟩ := c3
  obtain ⟨l4, rfl, c4⟩ := c4
  (rw [fn_go ?hl]; (case hl => rfl))
  rw [show startG 7 [Ar.val O, .val (.lst C)] = [.val true O, .val true (.lst C), .un, .un, .un, .un, .un] from rfl]
  (rw [seqF_nx ?hh]; (case hh => (simp [fnM, fnK, startG, seqF, iteS, andB, orB, notB, blF, truF, truth, op2, op1, nameF, cF, retF, retK, ifF, andV, orV, notF, settle, Res.bind, bindE, lift2, lift1, deref, derefA, setF, setK, exprF, appF, asgF, tgF, tgsF, frz1, frzA, callM, callF, callK, evA, ixs, toArs, toAr, putOuts_eq, putSl_nil, putSl_v, putSl_ne, putSl_at, putSl_val, putSl_un, outC, valsF, lstP, tupP, ixP, atI, ixN, eqP, neP, eqD_int, eqD_str, eqD_bl, ltP, leP, gtP, geP, addP, subP, lenP, maxP, minP, chB, sizeLine, methM, methC, methK, pickM, callKw, kwK, pickL, setA, putD, putO, fldP, mkM, dflM, isiP, tyN, opO, ownK, owOr, owB, owR, owC, owI, okT, okU, clsN, backR, unO, ownU, neO, ownN, notR, isoP, vB, settleF, lk_hit, lk_miss, Option.map_some, kb_NoneType_bool, kb_NoneType_int, kb_NoneType_str, kb_NoneType_list, kb_NoneType_tuple, kb_NoneType_dict, kb_bool_bool, kb_bool_int, kb_bool_str, kb_bool_list, kb_bool_tuple, kb_bool_dict, kb_int_bool, kb_int_int, kb_int_str, kb_int_list, kb_int_tuple, kb_int_dict, kb_str_bool, kb_str_int, kb_str_str, kb_str_list, kb_str_tuple, kb_str_dict, kb_list_bool, kb_list_int, kb_list_str, kb_list_list, kb_list_tuple, kb_list_dict, kb_tuple_bool, kb_tuple_int, kb_tuple_str, kb_tuple_list, kb_tuple_tuple, kb_tuple_dict, kb_dict_bool, kb_dict_int, kb_dict_str, kb_dict_list, kb_dict_tuple, kb_dict_dict, vS, vI, isP, isNotP, isN, known, chV, orT, andT, truR, isB, isNotB, isQ, isNotQ, orP, propF, propC, propC.pickP, cmethM, ccallM, icallM, icallC, icallKw, icallCK, isIns, noX, ch3B, ch3V, chN, ixO, ownX, lr]; try exact rfl)))
  (rw [seqF_nx ?hh]; (case hh => (simp [fnM, fnK, startG, seqF, iteS, andB, orB, notB, blF, truF, truth, op2, op1, nameF, cF, retF, retK, ifF, andV, orV, notF, settle, Res.bind, bindE, lift2, lift1, deref, derefA, setF, setK, exprF, appF, asgF, tgF, tgsF, frz1, frzA, callM, callF, callK, evA, ixs, toArs, toAr, putOuts_eq, putSl_nil, putSl_v, putSl_ne, putSl_at, putSl_val, putSl_un, outC, valsF, lstP, tupP, ixP, atI, ixN, eqP, neP, eqD_int, eqD_str, eqD_bl, ltP, leP, gtP, geP, addP, subP, lenP, maxP, minP, chB, sizeLine, methM, methC, methK, pickM, callKw, kwK, pickL, setA, putD, putO, fldP, mkM, dflM, isiP, tyN, opO, ownK, owOr, owB, owR, owC, owI, okT, okU, clsN, backR, unO, ownU, neO, ownN, notR, isoP, vB, settleF, lk_hit, lk_miss, Option.map_some, kb_NoneType_bool, kb_NoneType_int, kb_NoneType_str, kb_NoneType_list, kb_NoneType_tuple, kb_NoneType_dict, kb_bool_bool, kb_bool_int, kb_bool_str, kb_bool_list, kb_bool_tuple, kb_bool_dict, kb_int_bool, kb_int_int, kb_int_str, kb_int_list, kb_int_tuple, kb_int_dict, kb_str_bool, kb_str_int, kb_str_str, kb_str_list, kb_str_tuple, kb_str_dict, kb_list_bool, kb_list_int, kb_list_str, kb_list_list, kb_list_tuple, kb_list_dict, kb_tuple_bool, kb_tuple_int, kb_tuple_str, kb_tuple_list, kb_tuple_tuple, kb_tuple_dict, kb_dict_bool, kb_dict_int, kb_dict_str, kb_dict_list, kb_dict_tuple, kb_dict_dict, vS, vI, isP, isNotP, isN, known, chV, orT, andT, truR, isB, isNotB, isQ, isNotQ, orP, propF, propC, propC.pickP, cmethM, ccallM, icallM, icallC, icallKw, icallCK, isIns, noX, ch3B, ch3V, chN, ixO, ownX, c3]; try exact rfl)))
  (rw [seqF_nx ?hh]; (case hh => (simp [fnM, fnK, startG, seqF, iteS, andB, orB, notB, blF, truF, truth, op2, op1, nameF, cF, retF, retK, ifF, andV, orV, notF, settle, Res.bind, bindE, lift2, lift1, deref, derefA, setF, setK, exprF, appF, asgF, tgF, tgsF, frz1, frzA, callM, callF, callK, evA, ixs, toArs, toAr, putOuts_eq, putSl_nil, putSl_v, putSl_ne, putSl_at, putSl_val, putSl_un, outC, valsF, lstP, tupP, ixP, atI, ixN, eqP, neP, eqD_int, eqD_str, eqD_bl, ltP, leP, gtP, geP, addP, subP, lenP, maxP, minP, chB, sizeLine, methM, methC, methK, pickM, callKw, kwK, pickL, setA, putD, putO, fldP, mkM, dflM, isiP, tyN, opO, ownK, owOr, owB, owR, owC, owI, okT, okU, clsN, backR, unO, ownU, neO, ownN, notR, isoP, vB, settleF, lk_hit, lk_miss, Option.map_some, kb_NoneType_bool, kb_NoneType_int, kb_NoneType_str, kb_NoneType_list, kb_NoneType_tuple, kb_NoneType_dict, kb_bool_bool, kb_bool_int, kb_bool_str, kb_bool_list, kb_bool_tuple, kb_bool_dict, kb_int_bool, kb_int_int, kb_int_str, kb_int_list, kb_int_tuple, kb_int_dict, kb_str_bool, kb_str_int, kb_str_str, kb_str_list, kb_str_tuple, kb_str_dict, kb_list_bool, kb_list_int, kb_list_str, kb_list_list, kb_list_tuple, kb_list_dict, kb_tuple_bool, kb_tuple_int, kb_tuple_str, kb_tuple_list, kb_tuple_tuple, kb_tuple_dict, kb_dict_bool, kb_dict_int, kb_dict_str, kb_dict_list, kb_dict_tuple, kb_dict_dict, vS, vI, isP, isNotP, isN, known, chV, orT, andT, truR, isB, isNotB, isQ, isNotQ, orP, propF, propC, propC.pickP, cmethM, ccallM, icallM, icallC, icallKw, icallCK, isIns, noX, ch3B, ch3V, chN, ixO, ownX, c4]; try exact rfl)))
  simp [fnM, fnK, startG, seqF, iteS, andB, orB, notB, blF, truF, truth, op2, op1, nameF, cF, retF, retK, ifF, andV, orV, notF, settle, Res.bind, bindE, lift2, lift1, deref, derefA, setF, setK, exprF, appF, asgF, tgF, tgsF, frz1, frzA, callM, callF, callK, evA, ixs, toArs, toAr, putOuts_eq, putSl_nil, putSl_v, putSl_ne, putSl_at, putSl_val, putSl_un, outC, valsF, lstP, tupP, ixP, atI, ixN, eqP, neP, eqD_int, eqD_str, eqD_bl, ltP, leP, gtP, geP, addP, subP, lenP, maxP, minP, chB, sizeLine, methM, methC, methK, pickM, callKw, kwK, pickL, setA, putD, putO, mkM, dflM, isiP, tyN, opO, ownK, owOr, owB, owR, owC, owI, okT, okU, clsN, backR, unO, ownU, neO, ownN, notR, isoP, vB, settleF, lk_hit, lk_miss, Option.map_some, kb_NoneType_bool, kb_NoneType_int, kb_NoneType_str, kb_NoneType_list, kb_NoneType_tuple, kb_NoneType_dict, kb_bool_bool, kb_bool_int, kb_bool_str, kb_bool_list, kb_bool_tuple, kb_bool_dict, kb_int_bool, kb_int_int, kb_int_str, kb_int_list, kb_int_tuple, kb_int_dict, kb_str_bool, kb_str_int, kb_str_str, kb_str_list, kb_str_tuple, kb_str_dict, kb_list_bool, kb_list_int, kb_list_str, kb_list_list, kb_list_tuple, kb_list_dict, kb_tuple_bool, kb_tuple_int, kb_tuple_str, kb_tuple_list, kb_tuple_tuple, kb_tuple_dict, kb_dict_bool, kb_dict_int, kb_dict_str, kb_dict_list, kb_dict_tuple, kb_dict_dict, vS, vI, isP, isNotP, isN, known, chV, orT, andT, truR, isB, isNotB, isQ, isNotQ, orP, propF, propC, propC.pickP, cmethM, ccallM, icallM, icallC, icallKw, icallCK, isIns, noX, ch3B, ch3V, chN, ixO, ownX, forF, iterF, itemsOf, f0, lp]
theorem indexes_ok {R : List (Int × Int × Str)} {zs : List Str} (hz : ∀ z ∈ zs, W5 z) (hn : R.length ≤ 1000) :
    m_Order_indexes [.val (ordD zs), .val (.lst (R.map chOf))] = .ok (.fr (.lst (nD (zs.foldl (pStep (prs R)) (List.range R.length))))) [.val true (ordD zs), .val true (.lst (R.map chOf))] := by
  have lr := listRg_of (callF1 (p := lenP) (i := 1) (g := [.val true (ordD zs), .val true (.lst (R.map chOf)), .un, .un, .un, .un, .un]) rfl (len_of (xs := R.map chOf) (n := R.length) (by simp) (by omega))) hn
  have c3 := compF_of (iterF_val (i := 1) (g := [.val true (ordD zs), .val true (.lst (R.map chOf)), .own false (.lst (nD (List.range R.length))), .un, .un, .un, .un]) (t := true) rfl) (vs := [6]) rfl (cmap (α := Int × Int × Str) chOf (fun q => .int q.1) (fe := op1 (fldP "begin" [("Change", some 0)]) (nameF 6)) (v := 6) (by simp) rfl hn fun q _ => by
    generalize R.map chOf = C
    generalize nD (List.range R.length) = L0
    generalize ordD zs = O
    simp [fnM, fnK, startG, seqF, iteS, andB, orB, notB, blF, truF, truth, op2, op1, nameF, cF, retF, retK, ifF, andV, orV, notF, settle, Res.bind, bindE, lift2, lift1, deref, derefA, setF, setK, exprF, appF, asgF, tgF, tgsF, frz1, frzA, callM, callF, callK, evA, ixs, toArs, toAr, putOuts_eq, putSl_nil, putSl_v, putSl_ne, putSl_at, putSl_val, putSl_un, outC, valsF, lstP, tupP, ixP, atI, ixN, eqP, neP, eqD_int, eqD_str, eqD_bl, ltP, leP, gtP, geP, addP, subP, lenP, maxP, minP, chB, sizeLine, methM, methC, methK, pickM, callKw, kwK, pickL, setA, putD, putO, fldP, mkM, dflM, isiP, tyN, opO, ownK, owOr, owB, owR, owC, owI, okT, okU, clsN, backR, unO, ownU, neO, ownN, notR, isoP, vB, settleF, lk_hit, lk_miss, Option.map_some, kb_NoneType_bool, kb_NoneType_int, kb_NoneType_str, kb_NoneType_list, kb_NoneType_tuple, kb_NoneType_dict, kb_bool_bool, kb_bool_int, kb_bool_str, kb_bool_list, kb_bool_tuple, kb_bool_dict, kb_int_bool, kb_int_int, kb_int_str, kb_int_list, kb_int_tuple, kb_int_dict, kb_str_bool, kb_str_int, kb_str_str, kb_str_list, kb_str_tuple, kb_str_dict, kb_list_bool, kb_list_int, kb_list_str, kb_list_list, kb_list_tuple, kb_list_dict, kb_tuple_bool, kb_tuple_int, kb_tuple_str, kb_tuple_list, kb_tuple_tuple, kb_tuple_dict, kb_dict_bool, kb_dict_int, kb_dict_str, kb_dict_list, kb_dict_tuple, kb_dict_dict, vS, vI, isP, isNotP, isN, known, chV, orT, andT, truR, isB, isNotB, isQ, isNotQ, orP, propF, propC, propC.pickP, cmethM, ccallM, icallM, icallC, icallKw, icallCK, isIns, noX, ch3B, ch3V, chN, ixO, ownX])
  have c4 := compF_of (iterF_val (i := 1) (g := [.val true (ordD zs), .val true (.lst (R.map chOf)), .own false (.lst (nD (List.range R.length))), .val false (.lst (R.map fun q => D.int q.1)), .un, .un, .un]) (t := true) rfl) (vs := [6]) rfl (cmap (α := Int × Int × Str) chOf (fun q => .int q.2.1) (fe := op1 (fldP "end" [("Change", some 1)]) (nameF 6)) (v := 6) (by simp) rfl hn fun q _ => by
    generalize R.map chOf = C
    generalize nD (List.range R.length) = L0
    generalize ordD zs = O
    generalize (R.map fun q => D.int q.1) = NB
    simp [fnM, fnK, startG, seqF, iteS, andB, orB, notB, blF, truF, truth, op2, op1, nameF, cF, retF, retK, ifF, andV, orV, notF, settle, Res.bind, bindE, lift2, lift1, deref, derefA, setF, setK, exprF, appF, asgF, tgF, tgsF, frz1, frzA, callM, callF, callK, evA, ixs, toArs, toAr, putOuts_eq, putSl_nil, putSl_v, putSl_ne, putSl_at, putSl_val, putSl_un, outC, valsF, lstP, tupP, ixP, atI, ixN, eqP, neP, eqD_int, eqD_str, eqD_bl, ltP, leP, gtP, geP, addP, subP, lenP, maxP, minP, chB, sizeLine, methM, methC, methK, pickM, callKw, kwK, pickL, setA, putD, putO, fldP, mkM, dflM, isiP, tyN, opO, ownK, owOr, owB, owR, owC, owI, okT, okU, clsN, backR, unO, ownU, neO, ownN, notR, isoP, vB, settleF, lk_hit, lk_miss, Option.map_some, kb_NoneType_bool, kb_NoneType_int, kb_NoneType_str, kb_NoneType_list, kb_NoneType_tuple, kb_NoneType_dict, kb_bool_bool, kb_bool_int, kb_bool_str, kb_bool_list, kb_bool_tuple, kb_bool_dict, kb_int_bool, kb_int_int, kb_int_str, kb_int_list, kb_int_tuple, kb_int_dict, kb_str_bool, kb_str_int, kb_str_str, kb_str_list, kb_str_tuple, kb_str_dict, kb_list_bool, kb_list_int, kb_list_str, kb_list_list, kb_list_tuple, kb_list_dict, kb_tuple_bool, kb_tuple_int, kb_tuple_str, kb_tuple_list, kb_tuple_tuple, kb_tuple_dict, kb_dict_bool, kb_dict_int, kb_dict_str, kb_dict_list, kb_dict_tuple, kb_dict_dict, vS, vI, isP, isNotP, isN, known, chV, orT, andT, truR, isB, isNotB, isQ, isNotQ, orP, propF, propC, propC.pickP, cmethM, ccallM, icallM, icallC, icallKw, icallCK, isIns, noX, ch3B, ch3V, chN, ixO, ownX])
  have eb : (R.map fun q => D.int q.1) = (numB (prs R)).map D.int := by unfold numB; rw [List.map_map, List.map_map]; rfl
  have ee : (R.map fun q => D.int q.2.1) = (numE (prs R)).map D.int := by unfold numE; rw [List.map_map, List.map_map]; rfl
  rw [eb] at c3 c4
  rw [ee] at c4
  obtain ⟨g', e, ⟨s5, rfl⟩, _⟩ := loop_fold (t := .name 5) (body := b_Order_indexes_0) D.str (fun _ (l : List Nat) g => (∃ s5, g = [.val true (ordD zs), .val true (.lst (R.map chOf)), .own false (.lst (nD l)), .val false (.lst ((numB (prs R)).map D.int)), .val false (.lst ((numE (prs R)).map D.int)), s5, .un]) ∧ l.Perm (List.range R.length)) (pStep (prs R)) (xs := zs) (k := 0) (b := List.range R.length)
    (g := [.val true (ordD zs), .val true (.lst (R.map chOf)), .own false (.lst (nD (List.range R.length))), .val false (.lst ((numB (prs R)).map D.int)), .val false (.lst ((numE (prs R)).map D.int)), .un, .un]) ⟨⟨_, rfl⟩, List.Perm.refl _⟩ fun z hzm j l g hj hg => by
      obtain ⟨⟨s5, rfl⟩, pm⟩ := hg
      refine ⟨_, rfl, _, .inl (index_body (ps := prs R) (l := l) (hz z hzm) ?_ ?_ ?_), ⟨_, rfl⟩, (pStep_perm _ _ _).trans pm⟩
      · rw [pm.length_eq, List.length_range]; exact hn
      · intro j hj
        rw [List.length_map]
        exact List.mem_range.mp (pm.mem_iff.mp hj)
      · rw [List.length_map]; exact hn
  unfold m_Order_indexes
  exact indexes_core lr ⟨_, rfl, c3⟩ ⟨_, rfl, c4⟩ rfl e
theorem lo_core {PS S4 S5 : D} {RS L KD L2 : List D} {z : Str} {s4 s5 s6 : Sl} {C6 C8 : Ft} {bg dn : Bool} (hz : ¬ z = "reverse") (i4 : inP (.str "begin") (.str z) = some (.val (.bl bg))) (i5 : inP (.str "down") (.str z) = some (.val (.bl dn)))
    (h4 : S4 = .int (if bg = true then 0 else 1)) (h5 : S5 = .int (if dn = true then -1 else 1))
    (c6 : C6 [.val true PS, .val true (.lst RS), .val false (.lst L), .val false (.str z), .val false S4, .val false S5, s6, .un, .un] = .ok (.fr (.lst KD)) [.val true PS, .val true (.lst RS), .val false (.lst L), .val false (.str z), .val false S4, .val false S5, s6, .un, .un])
    (c8 : C8 [.val true PS, .val true (.lst RS), .val false (.lst L), .val false (.str z), .val false S4, .val false S5, .val false (.lst KD), .un, .un] = .ok (.fr (.lst L2)) [.val true PS, .val true (.lst RS), .val false (.lst L), .val false (.str z), .val false S4, .val false S5, .val false (.lst KD), .un, .un]) :
    (iteS (blF (op2 eqP (nameF 3) (cF (.str "reverse")))) (setF 2 (settleF (op1 revP (nameF 2)))) (seqF (setF 4 (ifF (blF (op2 inP (cF (.str "begin")) (nameF 3))) (cF (.int 0)) (cF (.int 1))))
    (seqF (setF 5 (ifF (blF (op2 inP (cF (.str "down")) (nameF 3))) (op1 negP (cF (.int 1))) (cF (.int 1))))
    (seqF (setF 6 (settleF C6)) (setF 2 (settleF C8)))))) [.val true PS, .val true (.lst RS), .val false (.lst L), .val false (.str z), s4, s5, s6, .un, .un] = .nx [.val true PS, .val true (.lst RS), .val false (.lst L2), .val false (.str z), .val false S4, .val false S5, .val false (.lst KD), .un, .un] := by
  subst h4 h5
  cases bg <;> cases dn
  all_goals
    simp only [Bool.false_eq_true, if_false, if_true] at c6 c8 ⊢
    simp [fnM, fnK, startG, seqF, iteS, andB, orB, notB, blF, truF, truth, op2, op1, nameF, cF, retF, retK, ifF, andV, orV, notF, settle, Res.bind, bindE, lift2, lift1, deref, derefA, setF, setK, exprF, appF, asgF, tgF, tgsF, frz1, frzA, callM, callF, callK, evA, ixs, toArs, toAr, putOuts_eq, putSl_nil, putSl_v, putSl_ne, putSl_at, putSl_val, putSl_un, outC, valsF, lstP, tupP, ixP, atI, ixN, eqP, neP, eqD_int, eqD_str, eqD_bl, ltP, leP, gtP, geP, addP, subP, lenP, maxP, minP, chB, sizeLine, methM, methC, methK, pickM, callKw, kwK, pickL, setA, putD, putO, fldP, mkM, dflM, isiP, tyN, opO, ownK, owOr, owB, owR, owC, owI, okT, okU, clsN, backR, unO, ownU, neO, ownN, notR, isoP, vB, settleF, lk_hit, lk_miss, Option.map_some, kb_NoneType_bool, kb_NoneType_int, kb_NoneType_str, kb_NoneType_list, kb_NoneType_tuple, kb_NoneType_dict, kb_bool_bool, kb_bool_int, kb_bool_str, kb_bool_list, kb_bool_tuple, kb_bool_dict, kb_int_bool, kb_int_int, kb_int_str, kb_int_list, kb_int_tuple, kb_int_dict, kb_str_bool, kb_str_int, kb_str_str, kb_str_list, kb_str_tuple, kb_str_dict, kb_list_bool, kb_list_int, kb_list_str, kb_list_list, kb_list_tuple, kb_list_dict, kb_tuple_bool, kb_tuple_int, kb_tuple_str, kb_tuple_list, kb_tuple_tuple, kb_tuple_dict, kb_dict_bool, kb_dict_int, kb_dict_str, kb_dict_list, kb_dict_tuple, kb_dict_dict, vS, vI, isP, isNotP, isN, known, chV, orT, andT, truR, isB, isNotB, isQ, isNotQ, orP, propF, propC, propC.pickP, cmethM, ccallM, icallM, icallC, icallKw, icallCK, isIns, noX, ch3B, ch3V, chN, ixO, ownX, hz, i4, i5, negP, c6, c8]
theorem third_ok {l : List Nat} {key : Nat → Int} {PS SZ S4 S5 : D} {RS : List D} {X : List Nat} (hx : X.length ≤ 1000) {CS : Fi} (cs : CS [.val true PS, .val true (.lst RS), .val false (.lst (nD l)), .val false SZ, .val false S4, .val false S5, .val false (.lst (((List.range l.length).map (t3 key l)).map tupI)), .un, .un] = .ok ((X.map (t3 key l)).map tupI) [.val true PS, .val true (.lst RS), .val false (.lst (nD l)), .val false SZ, .val false S4, .val false S5, .val false (.lst (((List.range l.length).map (t3 key l)).map tupI)), .un, .un]) :
    compF CS (.name 8) none (op2 ixP (nameF 8) (cF (.int 2))) [8] [.val true PS, .val true (.lst RS), .val false (.lst (nD l)), .val false SZ, .val false S4, .val false S5, .val false (.lst (((List.range l.length).map (t3 key l)).map tupI)), .un, .un] = .ok (.fr (.lst (nD (X.map fun a => l[a]?.getD 0)))) [.val true PS, .val true (.lst RS), .val false (.lst (nD l)), .val false SZ, .val false S4, .val false S5, .val false (.lst (((List.range l.length).map (t3 key l)).map tupI)), .un, .un] := by
  have cs2 : ((X.map (t3 key l)).map tupI) = X.map (tupI ∘ t3 key l) := List.map_map
  rw [cs2] at cs
  rw [show nD (X.map fun a => l[a]?.getD 0) = X.map fun a => D.int ((l[a]?.getD 0 : Nat) : Int) from List.map_map]
  refine compF_of cs rfl (cmap (α := Nat) (tupI ∘ t3 key l) (fun a => .int ((l[a]?.getD 0 : Nat) : Int)) (by simp) rfl hx fun a _ => ?_)
  have q2 : ixP ((tupI ∘ t3 key l) a) (.int 2) = some (.val (.int ((l[a]?.getD 0 : Nat) : Int))) := rfl
  generalize (tupI ∘ t3 key l) a = T at *
  generalize ((List.range l.length).map (t3 key l)).map tupI = KD
  generalize nD l = L
  simp [fnM, fnK, startG, seqF, iteS, andB, orB, notB, blF, truF, truth, op2, op1, nameF, cF, retF, retK, ifF, andV, orV, notF, settle, Res.bind, bindE, lift2, lift1, deref, derefA, setF, setK, exprF, appF, asgF, tgF, tgsF, frz1, frzA, callM, callF, callK, evA, ixs, toArs, toAr, putOuts_eq, putSl_nil, putSl_v, putSl_ne, putSl_at, putSl_val, putSl_un, outC, valsF, lstP, tupP, eqP, neP, eqD_int, eqD_str, eqD_bl, ltP, leP, gtP, geP, addP, subP, lenP, maxP, minP, chB, sizeLine, methM, methC, methK, pickM, callKw, kwK, pickL, setA, putD, putO, fldP, mkM, dflM, isiP, tyN, opO, ownK, owOr, owB, owR, owC, owI, okT, okU, clsN, backR, unO, ownU, neO, ownN, notR, isoP, vB, settleF, lk_hit, lk_miss, Option.map_some, kb_NoneType_bool, kb_NoneType_int, kb_NoneType_str, kb_NoneType_list, kb_NoneType_tuple, kb_NoneType_dict, kb_bool_bool, kb_bool_int, kb_bool_str, kb_bool_list, kb_bool_tuple, kb_bool_dict, kb_int_bool, kb_int_int, kb_int_str, kb_int_list, kb_int_tuple, kb_int_dict, kb_str_bool, kb_str_int, kb_str_str, kb_str_list, kb_str_tuple, kb_str_dict, kb_list_bool, kb_list_int, kb_list_str, kb_list_list, kb_list_tuple, kb_list_dict, kb_tuple_bool, kb_tuple_int, kb_tuple_str, kb_tuple_list, kb_tuple_tuple, kb_tuple_dict, kb_dict_bool, kb_dict_int, kb_dict_str, kb_dict_list, kb_dict_tuple, kb_dict_dict, vS, vI, isP, isNotP, isN, known, chV, orT, andT, truR, isB, isNotB, isQ, isNotQ, orP, propF, propC, propC.pickP, cmethM, ccallM, icallM, icallC, icallKw, icallCK, isIns, noX, ch3B, ch3V, chN, ixO, ownX, q2]
theorem row_at {ps : List (Int × Int)} {j : Nat} (h : j < ps.length) : ixP (.lst (ps.map rowD)) (.int (j : Nat)) = some (.val (rowD (ps[j]))) := by
  have := atI_lit (xs := ps.map rowD) (i := ((j : Nat) : Int)) (x := rowD ps[j]) (by omega) (by rw [List.getElem?_map]; simp [List.getElem?_eq_getElem h])
  simp only [ixP, this]
  rfl
theorem nd_at {l : List Nat} {i : Nat} (h : i < l.length) : ixP (.lst (nD l)) (.int (i : Nat)) = some (.val (.int (l[i] : Nat))) := by
  have := atI_lit (xs := nD l) (i := ((i : Nat) : Int)) (x := .int (l[i] : Nat)) (by omega) (by rw [List.getElem?_map]; simp [List.getElem?_eq_getElem h])
  simp only [ixP, this]
  rfl
theorem keyed_ok {l : List Nat} {ps : List (Int × Int)} {key : Nat → Int} {PS SZ : D} {tn : Int} {bg : Bool} {s6 : Sl} (hl : l.length ≤ 1000) (hk : ∀ j ∈ l, j < ps.length)
    (hm : ∀ p ∈ ps, mulOk tn (if bg = true then p.1 else p.2) = true)
    (hkey : ∀ j, (h : j < ps.length) → key j = tn * (if bg = true then (ps[j]).1 else (ps[j]).2)) :
    compF (argsI rangeOf1 [(callF lenP [(nameF 2)])]) (.name 7) none (valsF [(op2 mulQ (nameF 5) (op2 ixP (op2 ixP (nameF 1) (op2 ixP (nameF 2) (nameF 7))) (nameF 4))), (nameF 7), (op2 ixP (nameF 2) (nameF 7))] tupP) [7] [.val true PS, .val true (.lst (ps.map rowD)), .val false (.lst (nD l)), .val false SZ, .val false (.int (if bg = true then 0 else 1)), .val false (.int tn), s6, .un, .un] = .ok (.fr (.lst (((List.range l.length).map (t3 key l)).map tupI))) [.val true PS, .val true (.lst (ps.map rowD)), .val false (.lst (nD l)), .val false SZ, .val false (.int (if bg = true then 0 else 1)), .val false (.int tn), s6, .un, .un] := by
  have ai : argsI rangeOf1 [(callF lenP [(nameF 2)])] [.val true PS, .val true (.lst (ps.map rowD)), .val false (.lst (nD l)), .val false SZ, .val false (.int (if bg = true then 0 else 1)), .val false (.int tn), s6, .un, .un] = .ok (nD (List.range l.length)) [.val true PS, .val true (.lst (ps.map rowD)), .val false (.lst (nD l)), .val false SZ, .val false (.int (if bg = true then 0 else 1)), .val false (.int tn), s6, .un, .un] := argsI_of (evA1 (callF1 rfl (len_of (n := l.length) (by simp) (by omega)))) rfl (range_of (by omega))
  rw [show ((List.range l.length).map (t3 key l)).map tupI = (List.range l.length).map fun i => tupI (t3 key l i) from List.map_map]
  refine compF_of ai rfl (cmap (α := Nat) (fun i => .int (i : Nat)) (fun i => tupI (t3 key l i)) (by simp) rfl (by simp; omega) fun i hi => ?_)
  have hi := List.mem_range.mp hi
  have a1 := nd_at hi
  have kj := hk (l[i]) (List.getElem_mem hi)
  have a2 := row_at kj
  have ek : key (l[i]) = tn * (if bg = true then (ps[l[i]]).1 else (ps[l[i]]).2) := hkey _ kj
  have et : tupI (t3 key l i) = .tup [.int (tn * (if bg = true then (ps[l[i]]).1 else (ps[l[i]]).2)), .int (i : Nat), .int ((l[i] : Nat) : Int)] := by
    unfold t3
    rw [List.getElem?_eq_getElem hi, Option.getD_some, ek]
    rfl
  rw [et]
  have q0 : ixP (rowD ps[l[i]]) (.int (if bg = true then 0 else 1)) = some (.val (.int (if bg = true then (ps[l[i]]).1 else (ps[l[i]]).2))) := by cases bg <;> rfl
  have mo := hm ps[l[i]] (List.getElem_mem kj)
  generalize (if bg = true then (ps[l[i]]).1 else (ps[l[i]]).2) = x at *
  generalize rowD ps[l[i]] = RW at *
  generalize (l[i]) = li at *
  generalize (if bg = true then (0 : Int) else 1) = b4 at *
  generalize ps.map rowD = RS at *
  generalize nD l = L at *
  have m : mulQ (.int tn) (.int x) = some (.val (.int (tn * x))) := by
    show (if mulOk tn x = true then vI (tn * x) else none) = _
    rw [if_pos mo]
  simp [fnM, fnK, startG, seqF, iteS, andB, orB, notB, blF, truF, truth, op2, op1, nameF, cF, retF, retK, ifF, andV, orV, notF, settle, Res.bind, bindE, lift2, lift1, deref, derefA, setF, setK, exprF, appF, asgF, tgF, tgsF, frz1, frzA, callM, callF, callK, evA, ixs, toArs, toAr, putOuts_eq, putSl_nil, putSl_v, putSl_ne, putSl_at, putSl_val, putSl_un, outC, valsF, lstP, tupP, eqP, neP, eqD_int, eqD_str, eqD_bl, ltP, leP, gtP, geP, addP, subP, lenP, maxP, minP, chB, sizeLine, methM, methC, methK, pickM, callKw, kwK, pickL, setA, putD, putO, fldP, mkM, dflM, isiP, tyN, opO, ownK, owOr, owB, owR, owC, owI, okT, okU, clsN, backR, unO, ownU, neO, ownN, notR, isoP, vB, settleF, lk_hit, lk_miss, Option.map_some, kb_NoneType_bool, kb_NoneType_int, kb_NoneType_str, kb_NoneType_list, kb_NoneType_tuple, kb_NoneType_dict, kb_bool_bool, kb_bool_int, kb_bool_str, kb_bool_list, kb_bool_tuple, kb_bool_dict, kb_int_bool, kb_int_int, kb_int_str, kb_int_list, kb_int_tuple, kb_int_dict, kb_str_bool, kb_str_int, kb_str_str, kb_str_list, kb_str_tuple, kb_str_dict, kb_list_bool, kb_list_int, kb_list_str, kb_list_list, kb_list_tuple, kb_list_dict, kb_tuple_bool, kb_tuple_int, kb_tuple_str, kb_tuple_list, kb_tuple_tuple, kb_tuple_dict, kb_dict_bool, kb_dict_int, kb_dict_str, kb_dict_list, kb_dict_tuple, kb_dict_dict, vS, vI, isP, isNotP, isN, known, chV, orT, andT, truR, isB, isNotB, isQ, isNotQ, orP, propF, propC, propC.pickP, cmethM, ccallM, icallM, icallC, icallKw, icallCK, isIns, noX, ch3B, ch3V, chN, ixO, ownX, a1, a2, q0, m]
theorem lorder_body {ps : List (Int × Int)} {l : List Nat} {z : Str} {PS : D} {s4 s5 s6 : Sl} (hz : W5 z) (hl : l.length ≤ 1000) (hk : ∀ j ∈ l, j < ps.length) (hn : ps.length ≤ 1000) (hm : ∀ p ∈ ps, mulOk 1 p.1 = true ∧ mulOk 1 p.2 = true ∧ mulOk (-1) p.1 = true ∧ mulOk (-1) p.2 = true) :
    ∃ s4' s5' s6', b__law_order_0 [.val true PS, .val true (.lst (ps.map rowD)), .val false (.lst (nD l)), .val false (.str z), s4, s5, s6, .un, .un] = .nx [.val true PS, .val true (.lst (ps.map rowD)), .val false (.lst (nD (pStep ps l z))), .val false (.str z), s4', s5', s6', .un, .un] := by
  have gb : ∀ j, (h : j < ps.length) → (numB ps)[j]?.getD 0 = (ps[j]).1 := fun j h => by simp [numB, h]
  have ge : ∀ j, (h : j < ps.length) → (numE ps)[j]?.getD 0 = (ps[j]).2 := fun j h => by simp [numE, h]
  have fin : ∀ (bg dn : Bool), ¬ z = "reverse" → inP (.str "begin") (.str z) = some (.val (.bl bg)) → inP (.str "down") (.str z) = some (.val (.bl dn)) → (∀ j, (h : j < ps.length) → kz ps z j = (if dn = true then -1 else 1) * (if bg = true then (ps[j]).1 else (ps[j]).2)) → (∀ p ∈ ps, mulOk (if dn = true then -1 else 1) (if bg = true then p.1 else p.2) = true) → ∃ s4' s5' s6', b__law_order_0 [.val true PS, .val true (.lst (ps.map rowD)), .val false (.lst (nD l)), .val false (.str z), s4, s5, s6, .un, .un] = .nx [.val true PS, .val true (.lst (ps.map rowD)), .val false (.lst (nD (pStep ps l z))), .val false (.str z), s4', s5', s6', .un, .un] := fun bg dn h1 h2 h3 h4 h5 => by
    have ky := keyed_ok (l := l) (ps := ps) (key := kz ps z) (PS := PS) (SZ := .str z) (tn := if dn = true then -1 else 1) (bg := bg) (s6 := s6) hl hk h5 h4
    have so : sortT [.lst (((List.range l.length).map (t3 (kz ps z) l)).map tupI)] = some (.fr (.lst ((((List.range l.length).mergeSort fun a b => decide (kz ps z (l[a]?.getD 0) ≤ kz ps z (l[b]?.getD 0))).map (t3 (kz ps z) l)).map tupI))) := by
      show Option.map _ (rowsR _) = _
      rw [rowsR_map _ (fun r hr => by
        obtain ⟨i, _, rfl⟩ := List.mem_map.mp hr
        exact List.cons_ne_nil _ _), Option.map_some, t3_sort]
    have cs : iterF (callF sortT [(nameF 6)]) [.val true PS, .val true (.lst (ps.map rowD)), .val false (.lst (nD l)), .val false (.str z), .val false (.int (if bg = true then 0 else 1)), .val false (.int (if dn = true then -1 else 1)), .val false (.lst (((List.range l.length).map (t3 (kz ps z) l)).map tupI)), .un, .un] = .ok ((((List.range l.length).mergeSort fun a b => decide (kz ps z (l[a]?.getD 0) ≤ kz ps z (l[b]?.getD 0))).map (t3 (kz ps z) l)).map tupI) [.val true PS, .val true (.lst (ps.map rowD)), .val false (.lst (nD l)), .val false (.str z), .val false (.int (if bg = true then 0 else 1)), .val false (.int (if dn = true then -1 else 1)), .val false (.lst (((List.range l.length).map (t3 (kz ps z) l)).map tupI)), .un, .un] := by
      have c := callF1 (p := sortT) (i := 6) (g := [.val true PS, .val true (.lst (ps.map rowD)), .val false (.lst (nD l)), .val false (.str z), .val false (.int (if bg = true then 0 else 1)), .val false (.int (if dn = true then -1 else 1)), .val false (.lst (((List.range l.length).map (t3 (kz ps z) l)).map tupI)), .un, .un]) (t := false) rfl so
      unfold iterF
      rw [c]
      rfl
    have th := third_ok (X := (List.range l.length).mergeSort fun a b => decide (kz ps z (l[a]?.getD 0) ≤ kz ps z (l[b]?.getD 0))) (by simp; omega) cs
    rw [t3_map] at th
    have lc := lo_core (s4 := s4) (s5 := s5) h1 h2 h3 rfl rfl ky th
    have ep : pStep ps l z = l.mergeSort fun a b => decide (kz ps z a ≤ kz ps z b) := by
      unfold pStep
      rw [if_neg h1]
    rw [ep]
    exact ⟨_, _, _, lc⟩
  rcases hz with rfl | rfl | rfl | rfl | rfl
  · refine fin true false (by decide +kernel) (in_str (by decide +kernel)) (in_str (by decide +kernel)) (fun j h => ?_) (fun p hp => (hm p hp).1)
    rw [show kz ps "sort begin" j = (numB ps)[j]?.getD 0 from rfl, gb j h]
    simp
  · refine fin false false (by decide +kernel) (in_str (by decide +kernel)) (in_str (by decide +kernel)) (fun j h => ?_) (fun p hp => (hm p hp).2.1)
    rw [show kz ps "sort end" j = (numE ps)[j]?.getD 0 from rfl, ge j h]
    simp
  · refine fin true true (by decide +kernel) (in_str (by decide +kernel)) (in_str (by decide +kernel)) (fun j h => ?_) (fun p hp => (hm p hp).2.2.1)
    rw [show kz ps "sort begin down" j = -((numB ps)[j]?.getD 0) from rfl, gb j h]
    simp
  · refine fin false true (by decide +kernel) (in_str (by decide +kernel)) (in_str (by decide +kernel)) (fun j h => ?_) (fun p hp => (hm p hp).2.2.2)
    rw [show kz ps "sort end down" j = -((numE ps)[j]?.getD 0) from rfl, ge j h]
    simp
  · have e : (nD l).reverse = nD l.reverse := (List.map_reverse).symm
    have rv : revP (.lst (nD l)) = some (.fr (.lst (nD (pStep ps l "reverse")))) := by
      unfold pStep
      rw [if_pos rfl, ← e]
      rfl
    generalize nD (pStep ps l "reverse") = X at *
    generalize nD l = A at *
    generalize ps.map rowD = RS at *
    refine ⟨s4, s5, s6, ?_⟩
    unfold b__law_order_0
    simp [fnM, fnK, startG, seqF, iteS, andB, orB, notB, blF, truF, truth, op2, op1, nameF, cF, retF, retK, ifF, andV, orV, notF, settle, Res.bind, bindE, lift2, lift1, deref, derefA, setF, setK, exprF, appF, asgF, tgF, tgsF, frz1, frzA, callM, callF, callK, evA, ixs, toArs, toAr, putOuts_eq, putSl_nil, putSl_v, putSl_ne, putSl_at, putSl_val, putSl_un, outC, valsF, lstP, tupP, ixP, atI, ixN, eqP, neP, eqD_int, eqD_str, eqD_bl, ltP, leP, gtP, geP, addP, subP, lenP, maxP, minP, chB, sizeLine, methM, methC, methK, pickM, callKw, kwK, pickL, setA, putD, putO, fldP, mkM, dflM, isiP, tyN, opO, ownK, owOr, owB, owR, owC, owI, okT, okU, clsN, backR, unO, ownU, neO, ownN, notR, isoP, vB, settleF, lk_hit, lk_miss, Option.map_some, kb_NoneType_bool, kb_NoneType_int, kb_NoneType_str, kb_NoneType_list, kb_NoneType_tuple, kb_NoneType_dict, kb_bool_bool, kb_bool_int, kb_bool_str, kb_bool_list, kb_bool_tuple, kb_bool_dict, kb_int_bool, kb_int_int, kb_int_str, kb_int_list, kb_int_tuple, kb_int_dict, kb_str_bool, kb_str_int, kb_str_str, kb_str_list, kb_str_tuple, kb_str_dict, kb_list_bool, kb_list_int, kb_list_str, kb_list_list, kb_list_tuple, kb_list_dict, kb_tuple_bool, kb_tuple_int, kb_tuple_str, kb_tuple_list, kb_tuple_tuple, kb_tuple_dict, kb_dict_bool, kb_dict_int, kb_dict_str, kb_dict_list, kb_dict_tuple, kb_dict_dict, vS, vI, isP, isNotP, isN, known, chV, orT, andT, truR, isB, isNotB, isQ, isNotQ, orP, propF, propC, propC.pickP, cmethM, ccallM, icallM, icallC, icallKw, icallCK, isIns, noX, ch3B, ch3V, chN, ixO, ownX, rv]
theorem lorder_ok {ps : List (Int × Int)} {zs : List Str} {a : Ar} (ha : a = .val (.lst (zs.map D.str))) (hz : ∀ z ∈ zs, W5 z) (hn : ps.length ≤ 1000) (hm : ∀ p ∈ ps, mulOk 1 p.1 = true ∧ mulOk 1 p.2 = true ∧ mulOk (-1) p.1 = true ∧ mulOk (-1) p.2 = true) :
    m__law_order [a, .val (.lst (ps.map rowD))] = .ok (.val (.lst (nD (zs.foldl (pStep ps) (List.range ps.length))))) [.val true (.lst (zs.map D.str)), .val true (.lst (ps.map rowD))] := by
  subst ha
  have lr := listRg_of (callF1 (p := lenP) (i := 1) (g := [.val true (.lst (zs.map D.str)), .val true (.lst (ps.map rowD)), .un, .un, .un, .un, .un, .un, .un]) rfl (len_of (xs := ps.map rowD) (n := ps.length) (by simp) (by omega))) hn
  obtain ⟨g', e, ⟨s3, s4, s5, s6, rfl⟩, _⟩ := loop_fold (t := .name 3) (body := b__law_order_0) D.str (fun _ (l : List Nat) g => (∃ s3 s4 s5 s6, g = [.val true (.lst (zs.map D.str)), .val true (.lst (ps.map rowD)), .val false (.lst (nD l)), s3, s4, s5, s6, .un, .un]) ∧ l.Perm (List.range ps.length)) (pStep ps) (xs := zs) (k := 0) (b := List.range ps.length)
    (g := [.val true (.lst (zs.map D.str)), .val true (.lst (ps.map rowD)), .val false (.lst (nD (List.range ps.length))), .un, .un, .un, .un, .un, .un]) ⟨⟨_, _, _, _, rfl⟩, List.Perm.refl _⟩ fun z hzm j l g hj hg => by
      obtain ⟨⟨s3, s4, s5, s6, rfl⟩, pm⟩ := hg
      obtain ⟨s4', s5', s6', e⟩ := lorder_body (ps := ps) (l := l) (z := z) (PS := .lst (zs.map D.str)) (s4 := s4) (s5 := s5) (s6 := s6) (hz z hzm) (by rw [pm.length_eq, List.length_range]; exact hn) (fun j hj => List.mem_range.mp (pm.mem_iff.mp hj)) hn hm
      exact ⟨_, rfl, _, .inl e, ⟨_, _, _, _, rfl⟩, (pStep_perm _ _ _).trans pm⟩
  change listRg _ _ = .ok (.fr (.lst (nD (List.range ps.length)))) _ at lr
  generalize nD (zs.foldl (pStep ps) (List.range ps.length)) = X at *
  generalize zs.map D.str = ZS at *
  generalize ps.map rowD = RS at *
  generalize nD (List.range ps.length) = L0 at *
  unfold m__law_order
  generalize b__law_order_0 = B at *
  simp [fnM, fnK, startG, seqF, iteS, andB, orB, notB, blF, truF, truth, op2, op1, nameF, cF, retF, retK, ifF, andV, orV, notF, settle, Res.bind, bindE, lift2, lift1, deref, derefA, setF, setK, exprF, appF, asgF, tgF, tgsF, frz1, frzA, callM, callF, callK, evA, ixs, toArs, toAr, putOuts_eq, putSl_nil, putSl_v, putSl_ne, putSl_at, putSl_val, putSl_un, outC, valsF, lstP, tupP, ixP, atI, ixN, eqP, neP, eqD_int, eqD_str, eqD_bl, ltP, leP, gtP, geP, addP, subP, lenP, maxP, minP, chB, sizeLine, methM, methC, methK, pickM, callKw, kwK, pickL, setA, putD, putO, fldP, mkM, dflM, isiP, tyN, opO, ownK, owOr, owB, owR, owC, owI, okT, okU, clsN, backR, unO, ownU, neO, ownN, notR, isoP, vB, settleF, lk_hit, lk_miss, Option.map_some, kb_NoneType_bool, kb_NoneType_int, kb_NoneType_str, kb_NoneType_list, kb_NoneType_tuple, kb_NoneType_dict, kb_bool_bool, kb_bool_int, kb_bool_str, kb_bool_list, kb_bool_tuple, kb_bool_dict, kb_int_bool, kb_int_int, kb_int_str, kb_int_list, kb_int_tuple, kb_int_dict, kb_str_bool, kb_str_int, kb_str_str, kb_str_list, kb_str_tuple, kb_str_dict, kb_list_bool, kb_list_int, kb_list_str, kb_list_list, kb_list_tuple, kb_list_dict, kb_tuple_bool, kb_tuple_int, kb_tuple_str, kb_tuple_list, kb_tuple_tuple, kb_tuple_dict, kb_dict_bool, kb_dict_int, kb_dict_str, kb_dict_list, kb_dict_tuple, kb_dict_dict, vS, vI, isP, isNotP, isN, known, chV, orT, andT, truR, isB, isNotB, isQ, isNotQ, orP, propF, propC, propC.pickP, cmethM, ccallM, icallM, icallC, icallKw, icallCK, isIns, noX, ch3B, ch3V, chN, ixO, ownX, lr, forF, iterF, itemsOf, e]

/-! ### k12: _law_right -/
theorem compO_map {p : Nat} {ds0 : List D} {t : Tg} {fe : Ft} {vs : List Nat} {g : Sg} (F : D → D) (hg : OwnIs ds0 g[p]?) : ∀ {ds : List D} {acc : List D}, acc.length + ds.length ≤ sizeLine →
    (∀ d ∈ ds, ∃ g1, tgF t d g = some g1 ∧ ∃ x g3, noX (settle (fe g1)) = .ok x g3 ∧ ∃ g4, frz1 x g3 = some (F d, g4) ∧ wipeG g4 vs = g) →
    compLO p ds0 t none fe vs ds g acc = .ok (.fr (.lst (acc ++ ds.map F))) g
  | [], acc, _, _ => by unfold compLO; rw [if_pos hg]; simp
  | d :: ds, acc, hl, k => by
    obtain ⟨g1, e1, x, g3, e2, g4, e3, h4⟩ := k d (.head _)
    rw [List.length_cons] at hl
    have ih := compO_map F hg (ds := ds) (acc := acc ++ [F d]) (by rw [List.length_append]; simp; omega) fun d hd => k d (.tail _ hd)
    have hl2 : acc.length < sizeLine := by omega
    unfold compLO
    rw [if_pos hg, e1]
    simp only [e2, e3, if_pos hl2, h4, ih, List.append_assoc, List.singleton_append, List.map_cons]
noncomputable def rightF (C3 C7 C8 : Ft) (ms : List (Str × Bool × Fm)) (LO : Fm) : Fs := (seqF (setF 3 (settleF C3))
    (seqF (setF 4 (methM "indexes" ms (nameF 0) [(nameF 3)]))
    (seqF (iteS (orB (notB (truF (op1 (isiP "list") (nameF 4)))) (notB (truF (callF allP [C7])))) (retF (cF (.bl false))) .nx)
    (seqF (iteS (orB (blF (op2 neP (nameF 4) (callM LO [(nameF 1), (nameF 2)]))) (blF (op2 neP C8 (nameF 2)))) (retF (cF (.bl false))) .nx)
    (seqF (exprF (appF 4 (cF (.int 0))))
    (retF (op2 eqP (methM "indexes" ms (nameF 0) [(nameF 3)]) (callM LO [(nameF 1), (nameF 2)]))))))))
theorem right_core {O : D} {ZS RS CH X BL : List D} {C3 C7 C8 : Ft} {ms : List (Str × Bool × Fm)} {LO IX : Fm} (hx : X.length ≤ 1000)
    (c3 : C3 [.val true O, .val true (.lst ZS), .val true (.lst RS), .un, .un, .un, .un, .un, .un] = .ok (.fr (.lst CH)) [.val true O, .val true (.lst ZS), .val true (.lst RS), .un, .un, .un, .un, .un, .un])
    (pk : pickM "indexes" ms O = some IX) (ix : IX [.val O, .val (.lst CH)] = .ok (.fr (.lst X)) [.val true O, .val true (.lst CH)])
    (c7 : C7 [.val true O, .val true (.lst ZS), .val true (.lst RS), .val false (.lst CH), .own false (.lst X), .un, .un, .un, .un] = .ok (.fr (.lst BL)) [.val true O, .val true (.lst ZS), .val true (.lst RS), .val false (.lst CH), .own false (.lst X), .un, .un, .un, .un]) (al : allP [.lst BL] = some (.val (.bl true)))
    (lo : LO [.val (.lst ZS), .val (.lst RS)] = .ok (.val (.lst X)) [.val true (.lst ZS), .val true (.lst RS)]) (q : eqD (.lst X) (.lst X) = some true)
    (c8 : C8 [.val true O, .val true (.lst ZS), .val true (.lst RS), .val false (.lst CH), .own false (.lst X), .un, .un, .un, .un] = .ok (.fr (.lst RS)) [.val true O, .val true (.lst ZS), .val true (.lst RS), .val false (.lst CH), .own false (.lst X), .un, .un, .un, .un]) (q2 : eqD (.lst RS) (.lst RS) = some true) :
    fnM 3 9 (rightF C3 C7 C8 ms LO) [.val O, .val (.lst ZS), .val (.lst RS)] = .ok (.val (.bl true)) [.val true O, .val true (.lst ZS), .val true (.lst RS)] := by
  have l1 : X.length < 16777216 := by omega
  unfold rightF
  (rw [fn_go ?hl]; (case hl => rfl))
  rw [show startG 9 [Ar.val O, .val (.lst ZS), .val (.lst RS)] = [.val true O, .val true (.lst ZS), .val true (.lst RS), .un, .un, .un, .un, .un, .un] from rfl]
  (rw [seqF_nx ?hh]; (case hh => (simp [fnM, fnK, startG, seqF, iteS, andB, orB, notB, blF, truF, truth, op2, op1, nameF, cF, retF, retK, ifF, andV, orV, notF, settle, Res.bind, bindE, lift2, lift1, deref, derefA, setF, setK, exprF, appF, asgF, tgF, tgsF, frz1, frzA, callM, callF, callK, evA, ixs, toArs, toAr, putOuts_eq, putSl_nil, putSl_v, putSl_ne, putSl_at, putSl_val, putSl_un, outC, valsF, lstP, tupP, ixP, atI, ixN, eqP, neP, eqD_int, eqD_str, eqD_bl, ltP, leP, gtP, geP, addP, subP, lenP, maxP, minP, chB, sizeLine, methM, methC, methK, pickM, callKw, kwK, pickL, setA, putD, putO, fldP, mkM, dflM, isiP, tyN, opO, ownK, owOr, owB, owR, owC, owI, okT, okU, clsN, backR, unO, ownU, neO, ownN, notR, isoP, vB, settleF, lk_hit, lk_miss, Option.map_some, kb_NoneType_bool, kb_NoneType_int, kb_NoneType_str, kb_NoneType_list, kb_NoneType_tuple, kb_NoneType_dict, kb_bool_bool, kb_bool_int, kb_bool_str, kb_bool_list, kb_bool_tuple, kb_bool_dict, kb_int_bool, kb_int_int, kb_int_str, kb_int_list, kb_int_tuple, kb_int_dict, kb_str_bool, kb_str_int, kb_str_str, kb_str_list, kb_str_tuple, kb_str_dict, kb_list_bool, kb_list_int, kb_list_str, kb_list_list, kb_list_tuple, kb_list_dict, kb_tuple_bool, kb_tuple_int, kb_tuple_str, kb_tuple_list, kb_tuple_tuple, kb_tuple_dict, kb_dict_bool, kb_dict_int, kb_dict_str, kb_dict_list, kb_dict_tuple, kb_dict_dict, vS, vI, isP, isNotP, isN, known, chV, orT, andT, truR, isB, isNotB, isQ, isNotQ, orP, propF, propC, propC.pickP, cmethM, ccallM, icallM, icallC, icallKw, icallCK, isIns, noX, ch3B, ch3V, chN, ixO, ownX, c3]; try exact rfl)))
  (rw [seqF_nx ?hh]; (case hh => (simp [fnM, fnK, startG, seqF, iteS, andB, orB, notB, blF, truF, truth, op2, op1, nameF, cF, retF, retK, ifF, andV, orV, notF, settle, Res.bind, bindE, lift2, lift1, deref, derefA, setF, setK, exprF, appF, asgF, tgF, tgsF, frz1, frzA, callM, callF, callK, evA, ixs, toArs, toAr, putOuts_eq, putSl_nil, putSl_v, putSl_ne, putSl_at, putSl_val, putSl_un, outC, valsF, lstP, tupP, ixP, atI, ixN, eqP, neP, eqD_int, eqD_str, eqD_bl, ltP, leP, gtP, geP, addP, subP, lenP, maxP, minP, chB, sizeLine, methM, methC, methK, callKw, kwK, pickL, setA, putD, putO, fldP, mkM, dflM, isiP, tyN, opO, ownK, owOr, owB, owR, owC, owI, okT, okU, clsN, backR, unO, ownU, neO, ownN, notR, isoP, vB, settleF, lk_hit, lk_miss, Option.map_some, kb_NoneType_bool, kb_NoneType_int, kb_NoneType_str, kb_NoneType_list, kb_NoneType_tuple, kb_NoneType_dict, kb_bool_bool, kb_bool_int, kb_bool_str, kb_bool_list, kb_bool_tuple, kb_bool_dict, kb_int_bool, kb_int_int, kb_int_str, kb_int_list, kb_int_tuple, kb_int_dict, kb_str_bool, kb_str_int, kb_str_str, kb_str_list, kb_str_tuple, kb_str_dict, kb_list_bool, kb_list_int, kb_list_str, kb_list_list, kb_list_tuple, kb_list_dict, kb_tuple_bool, kb_tuple_int, kb_tuple_str, kb_tuple_list, kb_tuple_tuple, kb_tuple_dict, kb_dict_bool, kb_dict_int, kb_dict_str, kb_dict_list, kb_dict_tuple, kb_dict_dict, vS, vI, isP, isNotP, isN, known, chV, orT, andT, truR, isB, isNotB, isQ, isNotQ, orP, propF, propC, propC.pickP, cmethM, ccallM, icallM, icallC, icallKw, icallCK, isIns, noX, ch3B, ch3V, chN, ixO, ownX, pk, ix]; try exact rfl)))
  (rw [seqF_nx ?hh]; (case hh => (simp [fnM, fnK, startG, seqF, iteS, andB, orB, notB, blF, truF, truth, op2, op1, nameF, cF, retF, retK, ifF, andV, orV, notF, settle, Res.bind, bindE, lift2, lift1, deref, derefA, setF, setK, exprF, appF, asgF, tgF, tgsF, frz1, frzA, callM, callF, callK, evA, ixs, toArs, toAr, putOuts_eq, putSl_nil, putSl_v, putSl_ne, putSl_at, putSl_val, putSl_un, outC, valsF, lstP, tupP, ixP, atI, ixN, eqP, neP, eqD_int, eqD_str, eqD_bl, ltP, leP, gtP, geP, addP, subP, lenP, maxP, minP, chB, sizeLine, methM, methC, methK, pickM, callKw, kwK, pickL, setA, putD, putO, fldP, mkM, dflM, isiP, tyN, opO, ownK, owOr, owB, owR, owC, owI, okT, okU, clsN, backR, unO, ownU, neO, ownN, notR, isoP, vB, settleF, lk_hit, lk_miss, Option.map_some, kb_NoneType_bool, kb_NoneType_int, kb_NoneType_str, kb_NoneType_list, kb_NoneType_tuple, kb_NoneType_dict, kb_bool_bool, kb_bool_int, kb_bool_str, kb_bool_list, kb_bool_tuple, kb_bool_dict, kb_int_bool, kb_int_int, kb_int_str, kb_int_list, kb_int_tuple, kb_int_dict, kb_str_bool, kb_str_int, kb_str_str, kb_str_list, kb_str_tuple, kb_str_dict, kb_list_bool, kb_list_int, kb_list_str, kb_list_list, kb_list_tuple, kb_list_dict, kb_tuple_bool, kb_tuple_int, kb_tuple_str, kb_tuple_list, kb_tuple_tuple, kb_tuple_dict, kb_dict_bool, kb_dict_int, kb_dict_str, kb_dict_list, kb_dict_tuple, kb_dict_dict, vS, vI, isP, isNotP, isN, known, chV, orT, andT, truR, isB, isNotB, isQ, isNotQ, orP, propF, propC, propC.pickP, cmethM, ccallM, icallM, icallC, icallKw, icallCK, isIns, noX, ch3B, ch3V, chN, ixO, ownX, c7, al]; try exact rfl)))
  (rw [seqF_nx ?hh]; (case hh => (simp [fnM, fnK, startG, seqF, iteS, andB, orB, notB, blF, truF, truth, op2, op1, nameF, cF, retF, retK, ifF, andV, orV, notF, settle, Res.bind, bindE, lift2, lift1, deref, derefA, setF, setK, exprF, appF, asgF, tgF, tgsF, frz1, frzA, callM, callF, callK, evA, ixs, toArs, toAr, putOuts_eq, putSl_nil, putSl_v, putSl_ne, putSl_at, putSl_val, putSl_un, outC, valsF, lstP, tupP, ixP, atI, ixN, eqP, neP, eqD_int, eqD_str, eqD_bl, ltP, leP, gtP, geP, addP, subP, lenP, maxP, minP, chB, sizeLine, methM, methC, methK, pickM, callKw, kwK, pickL, setA, putD, putO, fldP, mkM, dflM, isiP, tyN, opO, ownK, owOr, owB, owR, owC, owI, okT, okU, clsN, backR, unO, ownU, neO, ownN, notR, isoP, vB, settleF, lk_hit, lk_miss, Option.map_some, kb_NoneType_bool, kb_NoneType_int, kb_NoneType_str, kb_NoneType_list, kb_NoneType_tuple, kb_NoneType_dict, kb_bool_bool, kb_bool_int, kb_bool_str, kb_bool_list, kb_bool_tuple, kb_bool_dict, kb_int_bool, kb_int_int, kb_int_str, kb_int_list, kb_int_tuple, kb_int_dict, kb_str_bool, kb_str_int, kb_str_str, kb_str_list, kb_str_tuple, kb_str_dict, kb_list_bool, kb_list_int, kb_list_str, kb_list_list, kb_list_tuple, kb_list_dict, kb_tuple_bool, kb_tuple_int, kb_tuple_str, kb_tuple_list, kb_tuple_tuple, kb_tuple_dict, kb_dict_bool, kb_dict_int, kb_dict_str, kb_dict_list, kb_dict_tuple, kb_dict_dict, vS, vI, isP, isNotP, isN, known, chV, orT, andT, truR, isB, isNotB, isQ, isNotQ, orP, propF, propC, propC.pickP, cmethM, ccallM, icallM, icallC, icallKw, icallCK, isIns, noX, ch3B, ch3V, chN, ixO, ownX, lo, q, c8, q2]; try exact rfl)))
  (rw [seqF_nx ?hh]; (case hh => (simp [fnM, fnK, startG, seqF, iteS, andB, orB, notB, blF, truF, truth, op2, op1, nameF, cF, retF, retK, ifF, andV, orV, notF, settle, Res.bind, bindE, lift2, lift1, deref, derefA, setF, setK, exprF, appF, asgF, tgF, tgsF, frz1, frzA, callM, callF, callK, evA, ixs, toArs, toAr, putOuts_eq, putSl_nil, putSl_v, putSl_ne, putSl_at, putSl_val, putSl_un, outC, valsF, lstP, tupP, ixP, atI, ixN, eqP, neP, eqD_int, eqD_str, eqD_bl, ltP, leP, gtP, geP, addP, subP, lenP, maxP, minP, chB, sizeLine, methM, methC, methK, pickM, callKw, kwK, pickL, setA, putD, putO, fldP, mkM, dflM, isiP, tyN, opO, ownK, owOr, owB, owR, owC, owI, okT, okU, clsN, backR, unO, ownU, neO, ownN, notR, isoP, vB, settleF, lk_hit, lk_miss, Option.map_some, kb_NoneType_bool, kb_NoneType_int, kb_NoneType_str, kb_NoneType_list, kb_NoneType_tuple, kb_NoneType_dict, kb_bool_bool, kb_bool_int, kb_bool_str, kb_bool_list, kb_bool_tuple, kb_bool_dict, kb_int_bool, kb_int_int, kb_int_str, kb_int_list, kb_int_tuple, kb_int_dict, kb_str_bool, kb_str_int, kb_str_str, kb_str_list, kb_str_tuple, kb_str_dict, kb_list_bool, kb_list_int, kb_list_str, kb_list_list, kb_list_tuple, kb_list_dict, kb_tuple_bool, kb_tuple_int, kb_tuple_str, kb_tuple_list, kb_tuple_tuple, kb_tuple_dict, kb_dict_bool, kb_dict_int, kb_dict_str, kb_dict_list, kb_dict_tuple, kb_dict_dict, vS, vI, isP, isNotP, isN, known, chV, orT, andT, truR, isB, isNotB, isQ, isNotQ, orP, propF, propC, propC.pickP, cmethM, ccallM, icallM, icallC, icallKw, icallCK, isIns, noX, ch3B, ch3V, chN, ixO, ownX, l1]; try exact rfl)))
  simp [fnM, fnK, startG, seqF, iteS, andB, orB, notB, blF, truF, truth, op2, op1, nameF, cF, retF, retK, ifF, andV, orV, notF, settle, Res.bind, bindE, lift2, lift1, deref, derefA, setF, setK, exprF, appF, asgF, tgF, tgsF, frz1, frzA, callM, callF, callK, evA, ixs, toArs, toAr, putOuts_eq, putSl_nil, putSl_v, putSl_ne, putSl_at, putSl_val, putSl_un, outC, valsF, lstP, tupP, ixP, atI, ixN, eqP, neP, eqD_int, eqD_str, eqD_bl, ltP, leP, gtP, geP, addP, subP, lenP, maxP, minP, chB, sizeLine, methM, methC, methK, callKw, kwK, pickL, setA, putD, putO, fldP, mkM, dflM, isiP, tyN, opO, ownK, owOr, owB, owR, owC, owI, okT, okU, clsN, backR, unO, ownU, neO, ownN, notR, isoP, vB, settleF, lk_hit, lk_miss, Option.map_some, kb_NoneType_bool, kb_NoneType_int, kb_NoneType_str, kb_NoneType_list, kb_NoneType_tuple, kb_NoneType_dict, kb_bool_bool, kb_bool_int, kb_bool_str, kb_bool_list, kb_bool_tuple, kb_bool_dict, kb_int_bool, kb_int_int, kb_int_str, kb_int_list, kb_int_tuple, kb_int_dict, kb_str_bool, kb_str_int, kb_str_str, kb_str_list, kb_str_tuple, kb_str_dict, kb_list_bool, kb_list_int, kb_list_str, kb_list_list, kb_list_tuple, kb_list_dict, kb_tuple_bool, kb_tuple_int, kb_tuple_str, kb_tuple_list, kb_tuple_tuple, kb_tuple_dict, kb_dict_bool, kb_dict_int, kb_dict_str, kb_dict_list, kb_dict_tuple, kb_dict_dict, vS, vI, isP, isNotP, isN, known, chV, orT, andT, truR, isB, isNotB, isQ, isNotQ, orP, propF, propC, propC.pickP, cmethM, ccallM, icallM, icallC, icallKw, icallCK, isIns, noX, ch3B, ch3V, chN, ixO, ownX, pk, ix, lo, q]
def F3 : D → D
  | .tup [.int k, .tup [.int a, .int b]] => chOf (a, b, repS "n" (k % 3))
  | d => d
def rws (ps : List (Int × Int)) : List (Int × Int × Str) := ps.mapIdx fun k p => (p.1, p.2, repS "n" ((k : Int) % 3))
theorem rws_prs (ps : List (Int × Int)) : prs (rws ps) = ps := by
  refine List.ext_getElem? fun i => ?_
  unfold prs rws
  rw [List.getElem?_map, List.getElem?_mapIdx]
  cases ps[i]? <;> rfl
theorem rws_F3 (ps : List (Int × Int)) : (enumD (ps.map rowD)).map F3 = (rws ps).map chOf := by
  refine List.ext_getElem? fun i => ?_
  unfold enumD rws
  rw [List.getElem?_map, List.getElem?_mapIdx, List.getElem?_map, List.getElem?_map, List.getElem?_mapIdx]
  cases ps[i]? <;> rfl
theorem rows_self {ps : List (Int × Int)} : eqD (.lst (ps.map rowD)) (.lst (ps.map rowD)) = some true := by
  have h1 : toPs (ps.map rowD) = some (ps.map fun p => PyData.tuple [.int p.1, .int p.2]) := by
    induction ps with
    | nil => rfl
    | cons a r ih => simp only [List.map_cons, toPs, ih, Option.map_some]; rfl
  refine eqD_self (p := .list (ps.map fun p => PyData.tuple [.int p.1, .int p.2])) (by simp only [toP, h1, Option.map_some]) ?_
  have h2 : PyData.canLayAll0 (ps.map fun p => PyData.tuple [.int p.1, .int p.2]) = true := by
    clear h1
    induction ps with
    | nil => rfl
    | cons a r ih => simp [PyData.canLayAll0, PyData.canLay0, ih]
  have h3 : PyData.depthAll (ps.map fun p => PyData.tuple [.int p.1, .int p.2]) ≤ 1 := by
    clear h1 h2
    induction ps with
    | nil => simp [PyData.depthAll]
    | cons a r ih => simp [PyData.depthAll, PyData.depth]; omega
  simp [SeqAt.shaped, PyData.canLay0, h2, PyData.depth]
  omega
theorem mulOk_one (x : Int) : mulOk 1 x = true ∧ mulOk (-1) x = true := by
  unfold mulOk
  constructor <;> simp
theorem right_ok {zs : List Str} {ps : List (Int × Int)} (hz : ∀ z ∈ zs, W5 z) (hn : ps.length ≤ 100) (hp : ∀ p ∈ ps, 0 ≤ p.1 ∧ p.1 ≤ p.2) :
    m__law_right [.val (ordD zs), .val (.lst (zs.map D.str)), .val (.lst (ps.map rowD))] = .ok (.val (.bl true)) [.val true (ordD zs), .val true (.lst (zs.map D.str)), .val true (.lst (ps.map rowD))] := by
  have ln : (rws ps).length = ps.length := by simp [rws]
  have ix := indexes_ok (R := rws ps) hz (by omega)
  rw [rws_prs, ln] at ix
  have lo := lorder_ok (ps := ps) (a := .val (.lst (zs.map D.str))) rfl hz (by omega) fun p _ => ⟨(mulOk_one _).1, (mulOk_one _).1, (mulOk_one _).2, (mulOk_one _).2⟩
  have pm : (zs.foldl (pStep ps) (List.range ps.length)).Perm (List.range ps.length) := by
    have : ∀ (zs : List Str) (l : List Nat), (zs.foldl (pStep ps) l).Perm l := fun zs => by
      induction zs with
      | nil => exact fun l => List.Perm.refl _
      | cons z r ih => exact fun l => (ih _).trans (pStep_perm _ _ _)
    exact this zs _
  have lx : (zs.foldl (pStep ps) (List.range ps.length)).length ≤ 100 := by rw [pm.length_eq, List.length_range]; exact hn
  generalize zs.foldl (pStep ps) (List.range ps.length) = X at *
  have pk : pickM "indexes" ms_indexes (ordD zs) = some m_Order_indexes := rfl
  have q : eqD (.lst (nD X)) (.lst (nD X)) = some true := by
    have h := ints_self (X.map fun (j : Nat) => (j : Int))
    rw [← nat_ints] at h
    exact h
  have al := all_map (l := X) (f := fun _ => true)
  rw [List.all_eq_true.mpr fun _ _ => rfl] at al
  have en : argsI enumOf [(nameF 2)] [.val true (ordD zs), .val true (.lst (zs.map D.str)), .val true (.lst (ps.map rowD)), .un, .un, .un, .un, .un, .un] = .ok (enumD (ps.map rowD)) [.val true (ordD zs), .val true (.lst (zs.map D.str)), .val true (.lst (ps.map rowD)), .un, .un, .un, .un, .un, .un] := argsI_of (evA1 rfl) rfl rfl
  have cm := comp_map (t := .tup [(.name 5), (.name 6)]) (fe := callM m_Change [(op2 ixP (nameF 6) (cF (.int 0))), (op2 ixP (nameF 6) (cF (.int 1))), (op2 mulQ (cF (.str "n")) (op2 modP (nameF 5) (cF (.int 3))))]) (vs := [5, 6]) (g := [.val true (ordD zs), .val true (.lst (zs.map D.str)), .val true (.lst (ps.map rowD)), .un, .un, .un, .un, .un, .un]) F3 (ds := enumD (ps.map rowD)) (acc := []) (by simp [sizeLine, enumD]; omega) (by
    intro d hd
    obtain ⟨i, hi, rfl⟩ := List.mem_mapIdx.mp hd
    rw [List.length_map] at hi
    rw [List.getElem_map]
    obtain ⟨h0, h1⟩ := hp ps[i] (List.getElem_mem hi)
    generalize ps[i] = p at *
    have ck := change_ok (z := repS "n" ((i : Int) % 3)) h0 h1
    have md : modP (.int (i : Nat)) (.int 3) = some (.val (.int ((i : Int) % 3))) := by
      simp only [modP]
      rw [if_pos (by decide)]
    have mq : mulQ (.str "n") (.int ((i : Int) % 3)) = some (.val (.str (repS "n" ((i : Int) % 3)))) := by
      simp only [mulQ]
      rw [if_pos ⟨by omega, by omega, by decide⟩]
    obtain ⟨T, hT⟩ : ∃ T, T = repS "n" ((i : Int) % 3) := ⟨_, rfl⟩
    rw [← hT] at ck mq
    refine ⟨[.val true (ordD zs), .val true (.lst (zs.map D.str)), .val true (.lst (ps.map rowD)), .un, .un, .val false (.int (i : Nat)), .val false (rowD p), .un, .un], rfl, .val (chOf (p.1, p.2, T)), [.val true (ordD zs), .val true (.lst (zs.map D.str)), .val true (.lst (ps.map rowD)), .un, .un, .val false (.int (i : Nat)), .val false (rowD p), .un, .un], ?_, [.val true (ordD zs), .val true (.lst (zs.map D.str)), .val true (.lst (ps.map rowD)), .un, .un, .val false (.int (i : Nat)), .val false (rowD p), .un, .un], ?_, rfl⟩
    · generalize ordD zs = O
      generalize zs.map D.str = ZS
      generalize ps.map rowD = RS
      simp [fnM, fnK, startG, seqF, iteS, andB, orB, notB, blF, truF, truth, op2, op1, nameF, cF, retF, retK, ifF, andV, orV, notF, settle, Res.bind, bindE, lift2, lift1, deref, derefA, setF, setK, exprF, appF, asgF, tgF, tgsF, frz1, frzA, callM, callF, callK, evA, ixs, toArs, toAr, putOuts_eq, putSl_nil, putSl_v, putSl_ne, putSl_at, putSl_val, putSl_un, outC, valsF, lstP, tupP, ixP, atI, ixN, eqP, neP, eqD_int, eqD_str, eqD_bl, ltP, leP, gtP, geP, addP, subP, lenP, maxP, minP, chB, sizeLine, methM, methC, methK, pickM, callKw, kwK, pickL, setA, putD, putO, fldP, mkM, dflM, isiP, tyN, opO, ownK, owOr, owB, owR, owC, owI, okT, okU, clsN, backR, unO, ownU, neO, ownN, notR, isoP, vB, settleF, lk_hit, lk_miss, Option.map_some, kb_NoneType_bool, kb_NoneType_int, kb_NoneType_str, kb_NoneType_list, kb_NoneType_tuple, kb_NoneType_dict, kb_bool_bool, kb_bool_int, kb_bool_str, kb_bool_list, kb_bool_tuple, kb_bool_dict, kb_int_bool, kb_int_int, kb_int_str, kb_int_list, kb_int_tuple, kb_int_dict, kb_str_bool, kb_str_int, kb_str_str, kb_str_list, kb_str_tuple, kb_str_dict, kb_list_bool, kb_list_int, kb_list_str, kb_list_list, kb_list_tuple, kb_list_dict, kb_tuple_bool, kb_tuple_int, kb_tuple_str, kb_tuple_list, kb_tuple_tuple, kb_tuple_dict, kb_dict_bool, kb_dict_int, kb_dict_str, kb_dict_list, kb_dict_tuple, kb_dict_dict, vS, vI, isP, isNotP, isN, known, chV, orT, andT, truR, isB, isNotB, isQ, isNotQ, orP, propF, propC, propC.pickP, cmethM, ccallM, icallM, icallC, icallKw, icallCK, isIns, noX, ch3B, ch3V, chN, ixO, ownX, noX, md, mq, ck]
    · subst hT
      rfl)
  rw [List.nil_append, rws_F3] at cm
  have c3 := compF_of en rfl cm
  have c8 := compF_of (iterF_val (i := 3) (g := [.val true (ordD zs), .val true (.lst (zs.map D.str)), .val true (.lst (ps.map rowD)), .val false (.lst ((rws ps).map chOf)), .own false (.lst (nD X)), .un, .un, .un, .un]) (t := false) rfl) (vs := [8]) rfl (cmap (α := Int × Int × Str) chOf (fun q => rowD (q.1, q.2.1)) (fe := valsF [(op1 (fldP "begin" [("Change", some 0)]) (nameF 8)), (op1 (fldP "end" [("Change", some 1)]) (nameF 8))] tupP) (v := 8) (by simp) rfl (by omega) fun q _ => by
    generalize (rws ps).map chOf = C
    generalize ordD zs = O
    generalize nD X = XX
    generalize zs.map D.str = ZS
    generalize ps.map rowD = RS
    simp [fnM, fnK, startG, seqF, iteS, andB, orB, notB, blF, truF, truth, op2, op1, nameF, cF, retF, retK, ifF, andV, orV, notF, settle, Res.bind, bindE, lift2, lift1, deref, derefA, setF, setK, exprF, appF, asgF, tgF, tgsF, frz1, frzA, callM, callF, callK, evA, ixs, toArs, toAr, putOuts_eq, putSl_nil, putSl_v, putSl_ne, putSl_at, putSl_val, putSl_un, outC, valsF, lstP, tupP, ixP, atI, ixN, eqP, neP, eqD_int, eqD_str, eqD_bl, ltP, leP, gtP, geP, addP, subP, lenP, maxP, minP, chB, sizeLine, methM, methC, methK, pickM, callKw, kwK, pickL, setA, putD, putO, fldP, mkM, dflM, isiP, tyN, opO, ownK, owOr, owB, owR, owC, owI, okT, okU, clsN, backR, unO, ownU, neO, ownN, notR, isoP, vB, settleF, lk_hit, lk_miss, Option.map_some, kb_NoneType_bool, kb_NoneType_int, kb_NoneType_str, kb_NoneType_list, kb_NoneType_tuple, kb_NoneType_dict, kb_bool_bool, kb_bool_int, kb_bool_str, kb_bool_list, kb_bool_tuple, kb_bool_dict, kb_int_bool, kb_int_int, kb_int_str, kb_int_list, kb_int_tuple, kb_int_dict, kb_str_bool, kb_str_int, kb_str_str, kb_str_list, kb_str_tuple, kb_str_dict, kb_list_bool, kb_list_int, kb_list_str, kb_list_list, kb_list_tuple, kb_list_dict, kb_tuple_bool, kb_tuple_int, kb_tuple_str, kb_tuple_list, kb_tuple_tuple, kb_tuple_dict, kb_dict_bool, kb_dict_int, kb_dict_str, kb_dict_list, kb_dict_tuple, kb_dict_dict, vS, vI, isP, isNotP, isN, known, chV, orT, andT, truR, isB, isNotB, isQ, isNotQ, orP, propF, propC, propC.pickP, cmethM, ccallM, icallM, icallC, icallKw, icallCK, isIns, noX, ch3B, ch3V, chN, ixO, ownX])
  have e8 : (rws ps).map (fun q => rowD (q.1, q.2.1)) = ps.map rowD := by
    conv => rhs; rw [← rws_prs ps]
    exact (List.map_map (f := fun q : Int × Int × Str => (q.1, q.2.1)) (g := rowD) (l := rws ps)).symm
  rw [e8] at c8
  have c7 : compO 4 (.name 7) none (callM m__law_is_int [(nameF 7)]) [7] [.val true (ordD zs), .val true (.lst (zs.map D.str)), .val true (.lst (ps.map rowD)), .val false (.lst ((rws ps).map chOf)), .own false (.lst (nD X)), .un, .un, .un, .un] = .ok (.fr (.lst (X.map fun _ => D.bl true))) [.val true (ordD zs), .val true (.lst (zs.map D.str)), .val true (.lst (ps.map rowD)), .val false (.lst ((rws ps).map chOf)), .own false (.lst (nD X)), .un, .un, .un, .un] := by
    have c := compO_map (p := 4) (ds0 := nD X) (t := .name 7) (fe := callM m__law_is_int [(nameF 7)]) (vs := [7]) (g := [.val true (ordD zs), .val true (.lst (zs.map D.str)), .val true (.lst (ps.map rowD)), .val false (.lst ((rws ps).map chOf)), .own false (.lst (nD X)), .un, .un, .un, .un]) (fun _ => D.bl true) ⟨_, rfl⟩ (ds := nD X) (acc := []) (by simp [sizeLine]; omega) fun d hd => by
      obtain ⟨i, _, rfl⟩ := List.mem_map.mp hd
      refine ⟨[.val true (ordD zs), .val true (.lst (zs.map D.str)), .val true (.lst (ps.map rowD)), .val false (.lst ((rws ps).map chOf)), .own false (.lst (nD X)), .un, .un, .val false (.int (i : Nat)), .un], rfl, .val (.bl true), [.val true (ordD zs), .val true (.lst (zs.map D.str)), .val true (.lst (ps.map rowD)), .val false (.lst ((rws ps).map chOf)), .own false (.lst (nD X)), .un, .un, .val false (.int (i : Nat)), .un], ?_, [.val true (ordD zs), .val true (.lst (zs.map D.str)), .val true (.lst (ps.map rowD)), .val false (.lst ((rws ps).map chOf)), .own false (.lst (nD X)), .un, .un, .val false (.int (i : Nat)), .un], rfl, rfl⟩
      have ii : m__law_is_int [.val (.int (i : Nat))] = .ok (.val (.bl true)) [.val true (.int (i : Nat))] := by
        unfold m__law_is_int
        simp [fnM, fnK, startG, seqF, iteS, andB, orB, notB, blF, truF, truth, op2, op1, nameF, cF, retF, retK, ifF, andV, orV, notF, settle, Res.bind, bindE, lift2, lift1, deref, derefA, setF, setK, exprF, appF, asgF, tgF, tgsF, frz1, frzA, callM, callF, callK, evA, ixs, toArs, toAr, putOuts_eq, putSl_nil, putSl_v, putSl_ne, putSl_at, putSl_val, putSl_un, outC, valsF, lstP, tupP, ixP, atI, ixN, eqP, neP, eqD_int, eqD_str, eqD_bl, ltP, leP, gtP, geP, addP, subP, lenP, maxP, minP, chB, sizeLine, methM, methC, methK, pickM, callKw, kwK, pickL, setA, putD, putO, fldP, mkM, dflM, isiP, tyN, opO, ownK, owOr, owB, owR, owC, owI, okT, okU, clsN, backR, unO, ownU, neO, ownN, notR, isoP, vB, settleF, lk_hit, lk_miss, Option.map_some, kb_NoneType_bool, kb_NoneType_int, kb_NoneType_str, kb_NoneType_list, kb_NoneType_tuple, kb_NoneType_dict, kb_bool_bool, kb_bool_int, kb_bool_str, kb_bool_list, kb_bool_tuple, kb_bool_dict, kb_int_bool, kb_int_int, kb_int_str, kb_int_list, kb_int_tuple, kb_int_dict, kb_str_bool, kb_str_int, kb_str_str, kb_str_list, kb_str_tuple, kb_str_dict, kb_list_bool, kb_list_int, kb_list_str, kb_list_list, kb_list_tuple, kb_list_dict, kb_tuple_bool, kb_tuple_int, kb_tuple_str, kb_tuple_list, kb_tuple_tuple, kb_tuple_dict, kb_dict_bool, kb_dict_int, kb_dict_str, kb_dict_list, kb_dict_tuple, kb_dict_dict, vS, vI, isP, isNotP, isN, known, chV, orT, andT, truR, isB, isNotB, isQ, isNotQ, orP, propF, propC, propC.pickP, cmethM, ccallM, icallM, icallC, icallKw, icallCK, isIns, noX, ch3B, ch3V, chN, ixO, ownX]
      generalize m__law_is_int = II at *
      generalize (rws ps).map chOf = C
      generalize ordD zs = O
      generalize nD X = XX
      generalize zs.map D.str = ZS
      generalize ps.map rowD = RS
      simp [fnM, fnK, startG, seqF, iteS, andB, orB, notB, blF, truF, truth, op2, op1, nameF, cF, retF, retK, ifF, andV, orV, notF, settle, Res.bind, bindE, lift2, lift1, deref, derefA, setF, setK, exprF, appF, asgF, tgF, tgsF, frz1, frzA, callM, callF, callK, evA, ixs, toArs, toAr, putOuts_eq, putSl_nil, putSl_v, putSl_ne, putSl_at, putSl_val, putSl_un, outC, valsF, lstP, tupP, ixP, atI, ixN, eqP, neP, eqD_int, eqD_str, eqD_bl, ltP, leP, gtP, geP, addP, subP, lenP, maxP, minP, chB, sizeLine, methM, methC, methK, pickM, callKw, kwK, pickL, setA, putD, putO, fldP, mkM, dflM, isiP, tyN, opO, ownK, owOr, owB, owR, owC, owI, okT, okU, clsN, backR, unO, ownU, neO, ownN, notR, isoP, vB, settleF, lk_hit, lk_miss, Option.map_some, kb_NoneType_bool, kb_NoneType_int, kb_NoneType_str, kb_NoneType_list, kb_NoneType_tuple, kb_NoneType_dict, kb_bool_bool, kb_bool_int, kb_bool_str, kb_bool_list, kb_bool_tuple, kb_bool_dict, kb_int_bool, kb_int_int, kb_int_str, kb_int_list, kb_int_tuple, kb_int_dict, kb_str_bool, kb_str_int, kb_str_str, kb_str_list, kb_str_tuple, kb_str_dict, kb_list_bool, kb_list_int, kb_list_str, kb_list_list, kb_list_tuple, kb_list_dict, kb_tuple_bool, kb_tuple_int, kb_tuple_str, kb_tuple_list, kb_tuple_tuple, kb_tuple_dict, kb_dict_bool, kb_dict_int, kb_dict_str, kb_dict_list, kb_dict_tuple, kb_dict_dict, vS, vI, isP, isNotP, isN, known, chV, orT, andT, truR, isB, isNotB, isQ, isNotQ, orP, propF, propC, propC.pickP, cmethM, ccallM, icallM, icallC, icallKw, icallCK, isIns, noX, ch3B, ch3V, chN, ixO, ownX, ii]
    rw [List.nil_append, List.map_map] at c
    exact c
  exact right_core (by rw [List.length_map]; omega) c3 pk ix c7 al lo q c8 rows_self

/-! ### k12: orders made, rows drawn -/
theorem max_p (a b : Int) : maxP [.int a, .int b] = some (.val (.int (max a b))) := by
  simp only [maxP]
  split <;> congr 3 <;> omega
theorem min_p (a b : Int) : minP [.int a, .int b] = some (.val (.int (min a b))) := by
  simp only [minP]
  split <;> congr 3 <;> omega
theorem vals_strs : ∀ zs : List Str, valsA (zs.map fun z => Ar.val (.str z)) = some (zs.map D.str)
  | [] => rfl
  | z :: r => by rw [List.map_cons, valsA, vals_strs r]; rfl
theorem w5_in {z : Str} (hz : W5 z) : notInP (.str z) (.tup [(.str "sort begin"), (.str "sort end"), (.str "sort begin down"), (.str "sort end down"), (.str "reverse")]) = some (.val (.bl false)) := by
  rcases hz with rfl | rfl | rfl | rfl | rfl <;> kernel_rfl
theorem init_ok {zs : List Str} (hz : ∀ z ∈ zs, W5 z) (hl : zs.length ≤ 6) : r_Order_init [.own (.ins "Order" []), .val (.tup (zs.map D.str))] = .ok (.val .non) [.own true (ordD zs), .val true (.tup (zs.map D.str))] := by
  obtain ⟨g', e, s2, s3, rfl⟩ := loop_inv (t := .tup [(.name 2), (.name 3)]) (body := b_Order_init_0) (fun g => ∃ s2 s3, g = [.own true (.ins "Order" []), .val true (.tup (zs.map D.str)), s2, s3]) (ds := enumD (zs.map D.str)) (g := [.own true (.ins "Order" []), .val true (.tup (zs.map D.str)), .un, .un]) ⟨_, _, rfl⟩ fun d hd g hg => by
    obtain ⟨s2, s3, rfl⟩ := hg
    obtain ⟨i, hi, rfl⟩ := List.mem_mapIdx.mp hd
    rw [List.length_map] at hi
    rw [List.getElem_map]
    have w := w5_in (hz zs[i] (List.getElem_mem hi))
    generalize zs[i] = z at *
    have h6 : ¬ (6 : Int) ≤ (i : Int) := by omega
    refine ⟨[.own true (.ins "Order" []), .val true (.tup (zs.map D.str)), .val false (.int (i : Nat)), .val false (.str z)], rfl, [.own true (.ins "Order" []), .val true (.tup (zs.map D.str)), .val false (.int (i : Nat)), .val false (.str z)], .inl ?_, _, _, rfl⟩
    unfold b_Order_init_0
    simp [fnM, fnK, startG, seqF, iteS, andB, orB, notB, blF, truF, truth, op2, op1, nameF, cF, retF, retK, ifF, andV, orV, notF, settle, Res.bind, bindE, lift2, lift1, deref, derefA, setF, setK, exprF, appF, asgF, tgF, tgsF, frz1, frzA, callM, callF, callK, evA, ixs, toArs, toAr, putOuts_eq, putSl_nil, putSl_v, putSl_ne, putSl_at, putSl_val, putSl_un, outC, valsF, lstP, tupP, ixP, atI, ixN, eqP, neP, eqD_int, eqD_str, eqD_bl, ltP, leP, gtP, geP, addP, subP, lenP, maxP, minP, chB, sizeLine, methM, methC, methK, pickM, callKw, kwK, pickL, setA, putD, putO, fldP, mkM, dflM, isiP, tyN, opO, ownK, owOr, owB, owR, owC, owI, okT, okU, clsN, backR, unO, ownU, neO, ownN, notR, isoP, vB, settleF, lk_hit, lk_miss, Option.map_some, kb_NoneType_bool, kb_NoneType_int, kb_NoneType_str, kb_NoneType_list, kb_NoneType_tuple, kb_NoneType_dict, kb_bool_bool, kb_bool_int, kb_bool_str, kb_bool_list, kb_bool_tuple, kb_bool_dict, kb_int_bool, kb_int_int, kb_int_str, kb_int_list, kb_int_tuple, kb_int_dict, kb_str_bool, kb_str_int, kb_str_str, kb_str_list, kb_str_tuple, kb_str_dict, kb_list_bool, kb_list_int, kb_list_str, kb_list_list, kb_list_tuple, kb_list_dict, kb_tuple_bool, kb_tuple_int, kb_tuple_str, kb_tuple_list, kb_tuple_tuple, kb_tuple_dict, kb_dict_bool, kb_dict_int, kb_dict_str, kb_dict_list, kb_dict_tuple, kb_dict_dict, vS, vI, isP, isNotP, isN, known, chV, orT, andT, truR, isB, isNotB, isQ, isNotQ, orP, propF, propC, propC.pickP, cmethM, ccallM, icallM, icallC, icallKw, icallCK, isIns, noX, ch3B, ch3V, chN, ixO, ownX, w, h6]
  have en : argsI enumOf [(nameF 1)] [.own true (.ins "Order" []), .val true (.tup (zs.map D.str)), .un, .un] = .ok (enumD (zs.map D.str)) [.own true (.ins "Order" []), .val true (.tup (zs.map D.str)), .un, .un] := argsI_of (evA1 rfl) rfl rfl
  generalize enumD (zs.map D.str) = E at *
  unfold r_Order_init ordD
  generalize zs.map D.str = ZS at *
  generalize b_Order_init_0 = B at *
  generalize argsI enumOf [(nameF 1)] = AI at *
  simp [fnM, fnK, startG, seqF, iteS, andB, orB, notB, blF, truF, truth, op2, op1, nameF, cF, retF, retK, ifF, andV, orV, notF, settle, Res.bind, bindE, lift2, lift1, deref, derefA, setF, setK, exprF, appF, asgF, tgF, tgsF, frz1, frzA, callM, callF, callK, evA, ixs, toArs, toAr, putOuts_eq, putSl_nil, putSl_v, putSl_ne, putSl_at, putSl_val, putSl_un, outC, valsF, lstP, tupP, ixP, atI, ixN, eqP, neP, eqD_int, eqD_str, eqD_bl, ltP, leP, gtP, geP, addP, subP, lenP, maxP, minP, chB, sizeLine, methM, methC, methK, pickM, callKw, kwK, pickL, setA, putD, putO, fldP, mkM, dflM, isiP, tyN, opO, ownK, owOr, owB, owR, owC, owI, okT, okU, clsN, backR, unO, ownU, neO, ownN, notR, isoP, vB, settleF, lk_hit, lk_miss, Option.map_some, kb_NoneType_bool, kb_NoneType_int, kb_NoneType_str, kb_NoneType_list, kb_NoneType_tuple, kb_NoneType_dict, kb_bool_bool, kb_bool_int, kb_bool_str, kb_bool_list, kb_bool_tuple, kb_bool_dict, kb_int_bool, kb_int_int, kb_int_str, kb_int_list, kb_int_tuple, kb_int_dict, kb_str_bool, kb_str_int, kb_str_str, kb_str_list, kb_str_tuple, kb_str_dict, kb_list_bool, kb_list_int, kb_list_str, kb_list_list, kb_list_tuple, kb_list_dict, kb_tuple_bool, kb_tuple_int, kb_tuple_str, kb_tuple_list, kb_tuple_tuple, kb_tuple_dict, kb_dict_bool, kb_dict_int, kb_dict_str, kb_dict_list, kb_dict_tuple, kb_dict_dict, vS, vI, isP, isNotP, isN, known, chV, orT, andT, truR, isB, isNotB, isQ, isNotQ, orP, propF, propC, propC.pickP, cmethM, ccallM, icallM, icallC, icallKw, icallCK, isIns, noX, ch3B, ch3V, chN, ixO, ownX, forF, en, e, tupleP]
theorem order_ok {zs : List Str} (hz : ∀ z ∈ zs, W5 z) (hl : zs.length ≤ 6) : m_Order (zs.map fun z => Ar.val (.str z)) = .ok (.fr (ordD zs)) [.val true (.tup (zs.map D.str))] := by
  have i := init_ok hz hl
  have v := vals_strs zs
  unfold m_Order mkM m_Order_init starM
  rw [if_pos ⟨by simp, by simp; omega⟩]
  simp only [List.drop_succ_cons, List.drop_zero, List.take_succ_cons, List.take_zero, v, List.cons_append, List.nil_append, i]
theorem made_ok {zs : List Str} (hz : ∀ z ∈ zs, W5 z) (hl : zs.length ≤ 6) : m__law_made [.val (.lst (zs.map D.str))] = .ok (.fr (ordD zs)) [.val true (.lst (zs.map D.str))] := by
  have o := order_ok hz hl
  clear hz
  unfold ordD at *
  unfold m__law_made
  generalize m_Order = MO at *
  match zs, hl, o with
  | [], _, o => simp only [List.map_nil] at o ⊢; simp (decide := true) [fnM, fnK, startG, seqF, iteS, andB, orB, notB, blF, truF, truth, op2, op1, nameF, cF, retF, retK, ifF, andV, orV, notF, settle, Res.bind, bindE, lift2, lift1, deref, derefA, setF, setK, exprF, appF, asgF, tgF, tgsF, frz1, frzA, callM, callF, callK, evA, ixs, toArs, toAr, putOuts_eq, putSl_nil, putSl_v, putSl_ne, putSl_at, putSl_val, putSl_un, outC, valsF, lstP, tupP, ixP, atI, ixN, eqP, neP, eqD_int, eqD_str, eqD_bl, ltP, leP, gtP, geP, addP, subP, lenP, maxP, minP, chB, sizeLine, methM, methC, methK, pickM, callKw, kwK, pickL, setA, putD, putO, fldP, mkM, dflM, isiP, tyN, opO, ownK, owOr, owB, owR, owC, owI, okT, okU, clsN, backR, unO, ownU, neO, ownN, notR, isoP, vB, settleF, lk_hit, lk_miss, Option.map_some, kb_NoneType_bool, kb_NoneType_int, kb_NoneType_str, kb_NoneType_list, kb_NoneType_tuple, kb_NoneType_dict, kb_bool_bool, kb_bool_int, kb_bool_str, kb_bool_list, kb_bool_tuple, kb_bool_dict, kb_int_bool, kb_int_int, kb_int_str, kb_int_list, kb_int_tuple, kb_int_dict, kb_str_bool, kb_str_int, kb_str_str, kb_str_list, kb_str_tuple, kb_str_dict, kb_list_bool, kb_list_int, kb_list_str, kb_list_list, kb_list_tuple, kb_list_dict, kb_tuple_bool, kb_tuple_int, kb_tuple_str, kb_tuple_list, kb_tuple_tuple, kb_tuple_dict, kb_dict_bool, kb_dict_int, kb_dict_str, kb_dict_list, kb_dict_tuple, kb_dict_dict, vS, vI, isP, isNotP, isN, known, chV, orT, andT, truR, isB, isNotB, isQ, isNotQ, orP, propF, propC, propC.pickP, cmethM, ccallM, icallM, icallC, icallKw, icallCK, isIns, noX, ch3B, ch3V, chN, ixO, ownX, o]
  | [a], _, o => simp only [List.map_cons, List.map_nil] at o ⊢; simp (decide := true) [fnM, fnK, startG, seqF, iteS, andB, orB, notB, blF, truF, truth, op2, op1, nameF, cF, retF, retK, ifF, andV, orV, notF, settle, Res.bind, bindE, lift2, lift1, deref, derefA, setF, setK, exprF, appF, asgF, tgF, tgsF, frz1, frzA, callM, callF, callK, evA, ixs, toArs, toAr, putOuts_eq, putSl_nil, putSl_v, putSl_ne, putSl_at, putSl_val, putSl_un, outC, valsF, lstP, tupP, ixP, atI, ixN, eqP, neP, eqD_int, eqD_str, eqD_bl, ltP, leP, gtP, geP, addP, subP, lenP, maxP, minP, chB, sizeLine, methM, methC, methK, pickM, callKw, kwK, pickL, setA, putD, putO, fldP, mkM, dflM, isiP, tyN, opO, ownK, owOr, owB, owR, owC, owI, okT, okU, clsN, backR, unO, ownU, neO, ownN, notR, isoP, vB, settleF, lk_hit, lk_miss, Option.map_some, kb_NoneType_bool, kb_NoneType_int, kb_NoneType_str, kb_NoneType_list, kb_NoneType_tuple, kb_NoneType_dict, kb_bool_bool, kb_bool_int, kb_bool_str, kb_bool_list, kb_bool_tuple, kb_bool_dict, kb_int_bool, kb_int_int, kb_int_str, kb_int_list, kb_int_tuple, kb_int_dict, kb_str_bool, kb_str_int, kb_str_str, kb_str_list, kb_str_tuple, kb_str_dict, kb_list_bool, kb_list_int, kb_list_str, kb_list_list, kb_list_tuple, kb_list_dict, kb_tuple_bool, kb_tuple_int, kb_tuple_str, kb_tuple_list, kb_tuple_tuple, kb_tuple_dict, kb_dict_bool, kb_dict_int, kb_dict_str, kb_dict_list, kb_dict_tuple, kb_dict_dict, vS, vI, isP, isNotP, isN, known, chV, orT, andT, truR, isB, isNotB, isQ, isNotQ, orP, propF, propC, propC.pickP, cmethM, ccallM, icallM, icallC, icallKw, icallCK, isIns, noX, ch3B, ch3V, chN, ixO, ownX, o]
  | [a, b], _, o => simp only [List.map_cons, List.map_nil] at o ⊢; simp (decide := true) [fnM, fnK, startG, seqF, iteS, andB, orB, notB, blF, truF, truth, op2, op1, nameF, cF, retF, retK, ifF, andV, orV, notF, settle, Res.bind, bindE, lift2, lift1, deref, derefA, setF, setK, exprF, appF, asgF, tgF, tgsF, frz1, frzA, callM, callF, callK, evA, ixs, toArs, toAr, putOuts_eq, putSl_nil, putSl_v, putSl_ne, putSl_at, putSl_val, putSl_un, outC, valsF, lstP, tupP, ixP, atI, ixN, eqP, neP, eqD_int, eqD_str, eqD_bl, ltP, leP, gtP, geP, addP, subP, lenP, maxP, minP, chB, sizeLine, methM, methC, methK, pickM, callKw, kwK, pickL, setA, putD, putO, fldP, mkM, dflM, isiP, tyN, opO, ownK, owOr, owB, owR, owC, owI, okT, okU, clsN, backR, unO, ownU, neO, ownN, notR, isoP, vB, settleF, lk_hit, lk_miss, Option.map_some, kb_NoneType_bool, kb_NoneType_int, kb_NoneType_str, kb_NoneType_list, kb_NoneType_tuple, kb_NoneType_dict, kb_bool_bool, kb_bool_int, kb_bool_str, kb_bool_list, kb_bool_tuple, kb_bool_dict, kb_int_bool, kb_int_int, kb_int_str, kb_int_list, kb_int_tuple, kb_int_dict, kb_str_bool, kb_str_int, kb_str_str, kb_str_list, kb_str_tuple, kb_str_dict, kb_list_bool, kb_list_int, kb_list_str, kb_list_list, kb_list_tuple, kb_list_dict, kb_tuple_bool, kb_tuple_int, kb_tuple_str, kb_tuple_list, kb_tuple_tuple, kb_tuple_dict, kb_dict_bool, kb_dict_int, kb_dict_str, kb_dict_list, kb_dict_tuple, kb_dict_dict, vS, vI, isP, isNotP, isN, known, chV, orT, andT, truR, isB, isNotB, isQ, isNotQ, orP, propF, propC, propC.pickP, cmethM, ccallM, icallM, icallC, icallKw, icallCK, isIns, noX, ch3B, ch3V, chN, ixO, ownX, o]
  | [a, b, c], _, o => simp only [List.map_cons, List.map_nil] at o ⊢; simp (decide := true) [fnM, fnK, startG, seqF, iteS, andB, orB, notB, blF, truF, truth, op2, op1, nameF, cF, retF, retK, ifF, andV, orV, notF, settle, Res.bind, bindE, lift2, lift1, deref, derefA, setF, setK, exprF, appF, asgF, tgF, tgsF, frz1, frzA, callM, callF, callK, evA, ixs, toArs, toAr, putOuts_eq, putSl_nil, putSl_v, putSl_ne, putSl_at, putSl_val, putSl_un, outC, valsF, lstP, tupP, ixP, atI, ixN, eqP, neP, eqD_int, eqD_str, eqD_bl, ltP, leP, gtP, geP, addP, subP, lenP, maxP, minP, chB, sizeLine, methM, methC, methK, pickM, callKw, kwK, pickL, setA, putD, putO, fldP, mkM, dflM, isiP, tyN, opO, ownK, owOr, owB, owR, owC, owI, okT, okU, clsN, backR, unO, ownU, neO, ownN, notR, isoP, vB, settleF, lk_hit, lk_miss, Option.map_some, kb_NoneType_bool, kb_NoneType_int, kb_NoneType_str, kb_NoneType_list, kb_NoneType_tuple, kb_NoneType_dict, kb_bool_bool, kb_bool_int, kb_bool_str, kb_bool_list, kb_bool_tuple, kb_bool_dict, kb_int_bool, kb_int_int, kb_int_str, kb_int_list, kb_int_tuple, kb_int_dict, kb_str_bool, kb_str_int, kb_str_str, kb_str_list, kb_str_tuple, kb_str_dict, kb_list_bool, kb_list_int, kb_list_str, kb_list_list, kb_list_tuple, kb_list_dict, kb_tuple_bool, kb_tuple_int, kb_tuple_str, kb_tuple_list, kb_tuple_tuple, kb_tuple_dict, kb_dict_bool, kb_dict_int, kb_dict_str, kb_dict_list, kb_dict_tuple, kb_dict_dict, vS, vI, isP, isNotP, isN, known, chV, orT, andT, truR, isB, isNotB, isQ, isNotQ, orP, propF, propC, propC.pickP, cmethM, ccallM, icallM, icallC, icallKw, icallCK, isIns, noX, ch3B, ch3V, chN, ixO, ownX, o]
  | [a, b, c, d], _, o => simp only [List.map_cons, List.map_nil] at o ⊢; simp (decide := true) [fnM, fnK, startG, seqF, iteS, andB, orB, notB, blF, truF, truth, op2, op1, nameF, cF, retF, retK, ifF, andV, orV, notF, settle, Res.bind, bindE, lift2, lift1, deref, derefA, setF, setK, exprF, appF, asgF, tgF, tgsF, frz1, frzA, callM, callF, callK, evA, ixs, toArs, toAr, putOuts_eq, putSl_nil, putSl_v, putSl_ne, putSl_at, putSl_val, putSl_un, outC, valsF, lstP, tupP, ixP, atI, ixN, eqP, neP, eqD_int, eqD_str, eqD_bl, ltP, leP, gtP, geP, addP, subP, lenP, maxP, minP, chB, sizeLine, methM, methC, methK, pickM, callKw, kwK, pickL, setA, putD, putO, fldP, mkM, dflM, isiP, tyN, opO, ownK, owOr, owB, owR, owC, owI, okT, okU, clsN, backR, unO, ownU, neO, ownN, notR, isoP, vB, settleF, lk_hit, lk_miss, Option.map_some, kb_NoneType_bool, kb_NoneType_int, kb_NoneType_str, kb_NoneType_list, kb_NoneType_tuple, kb_NoneType_dict, kb_bool_bool, kb_bool_int, kb_bool_str, kb_bool_list, kb_bool_tuple, kb_bool_dict, kb_int_bool, kb_int_int, kb_int_str, kb_int_list, kb_int_tuple, kb_int_dict, kb_str_bool, kb_str_int, kb_str_str, kb_str_list, kb_str_tuple, kb_str_dict, kb_list_bool, kb_list_int, kb_list_str, kb_list_list, kb_list_tuple, kb_list_dict, kb_tuple_bool, kb_tuple_int, kb_tuple_str, kb_tuple_list, kb_tuple_tuple, kb_tuple_dict, kb_dict_bool, kb_dict_int, kb_dict_str, kb_dict_list, kb_dict_tuple, kb_dict_dict, vS, vI, isP, isNotP, isN, known, chV, orT, andT, truR, isB, isNotB, isQ, isNotQ, orP, propF, propC, propC.pickP, cmethM, ccallM, icallM, icallC, icallKw, icallCK, isIns, noX, ch3B, ch3V, chN, ixO, ownX, o]
  | [a, b, c, d, e], _, o => simp only [List.map_cons, List.map_nil] at o ⊢; simp (decide := true) [fnM, fnK, startG, seqF, iteS, andB, orB, notB, blF, truF, truth, op2, op1, nameF, cF, retF, retK, ifF, andV, orV, notF, settle, Res.bind, bindE, lift2, lift1, deref, derefA, setF, setK, exprF, appF, asgF, tgF, tgsF, frz1, frzA, callM, callF, callK, evA, ixs, toArs, toAr, putOuts_eq, putSl_nil, putSl_v, putSl_ne, putSl_at, putSl_val, putSl_un, outC, valsF, lstP, tupP, ixP, atI, ixN, eqP, neP, eqD_int, eqD_str, eqD_bl, ltP, leP, gtP, geP, addP, subP, lenP, maxP, minP, chB, sizeLine, methM, methC, methK, pickM, callKw, kwK, pickL, setA, putD, putO, fldP, mkM, dflM, isiP, tyN, opO, ownK, owOr, owB, owR, owC, owI, okT, okU, clsN, backR, unO, ownU, neO, ownN, notR, isoP, vB, settleF, lk_hit, lk_miss, Option.map_some, kb_NoneType_bool, kb_NoneType_int, kb_NoneType_str, kb_NoneType_list, kb_NoneType_tuple, kb_NoneType_dict, kb_bool_bool, kb_bool_int, kb_bool_str, kb_bool_list, kb_bool_tuple, kb_bool_dict, kb_int_bool, kb_int_int, kb_int_str, kb_int_list, kb_int_tuple, kb_int_dict, kb_str_bool, kb_str_int, kb_str_str, kb_str_list, kb_str_tuple, kb_str_dict, kb_list_bool, kb_list_int, kb_list_str, kb_list_list, kb_list_tuple, kb_list_dict, kb_tuple_bool, kb_tuple_int, kb_tuple_str, kb_tuple_list, kb_tuple_tuple, kb_tuple_dict, kb_dict_bool, kb_dict_int, kb_dict_str, kb_dict_list, kb_dict_tuple, kb_dict_dict, vS, vI, isP, isNotP, isN, known, chV, orT, andT, truR, isB, isNotB, isQ, isNotQ, orP, propF, propC, propC.pickP, cmethM, ccallM, icallM, icallC, icallKw, icallCK, isIns, noX, ch3B, ch3V, chN, ixO, ownX, o]
  | [a, b, c, d, e, f], _, o => simp only [List.map_cons, List.map_nil] at o ⊢; simp (decide := true) [fnM, fnK, startG, seqF, iteS, andB, orB, notB, blF, truF, truth, op2, op1, nameF, cF, retF, retK, ifF, andV, orV, notF, settle, Res.bind, bindE, lift2, lift1, deref, derefA, setF, setK, exprF, appF, asgF, tgF, tgsF, frz1, frzA, callM, callF, callK, evA, ixs, toArs, toAr, putOuts_eq, putSl_nil, putSl_v, putSl_ne, putSl_at, putSl_val, putSl_un, outC, valsF, lstP, tupP, ixP, atI, ixN, eqP, neP, eqD_int, eqD_str, eqD_bl, ltP, leP, gtP, geP, addP, subP, lenP, maxP, minP, chB, sizeLine, methM, methC, methK, pickM, callKw, kwK, pickL, setA, putD, putO, fldP, mkM, dflM, isiP, tyN, opO, ownK, owOr, owB, owR, owC, owI, okT, okU, clsN, backR, unO, ownU, neO, ownN, notR, isoP, vB, settleF, lk_hit, lk_miss, Option.map_some, kb_NoneType_bool, kb_NoneType_int, kb_NoneType_str, kb_NoneType_list, kb_NoneType_tuple, kb_NoneType_dict, kb_bool_bool, kb_bool_int, kb_bool_str, kb_bool_list, kb_bool_tuple, kb_bool_dict, kb_int_bool, kb_int_int, kb_int_str, kb_int_list, kb_int_tuple, kb_int_dict, kb_str_bool, kb_str_int, kb_str_str, kb_str_list, kb_str_tuple, kb_str_dict, kb_list_bool, kb_list_int, kb_list_str, kb_list_list, kb_list_tuple, kb_list_dict, kb_tuple_bool, kb_tuple_int, kb_tuple_str, kb_tuple_list, kb_tuple_tuple, kb_tuple_dict, kb_dict_bool, kb_dict_int, kb_dict_str, kb_dict_list, kb_dict_tuple, kb_dict_dict, vS, vI, isP, isNotP, isN, known, chV, orT, andT, truR, isB, isNotB, isQ, isNotQ, orP, propF, propC, propC.pickP, cmethM, ccallM, icallM, icallC, icallKw, icallCK, isIns, noX, ch3B, ch3V, chN, ixO, ownX, o]
  | a :: b :: c :: d :: e :: f :: g :: r, hl, _ => exact absurd hl (by simp)
theorem ints_of {ys : List D} (h : ∀ y ∈ ys, ∃ n : Int, y = .int n ∧ 0 ≤ n) : ∃ ns : List Int, ys = ns.map D.int ∧ ∀ n ∈ ns, 0 ≤ n := by
  induction ys with
  | nil => exact ⟨[], rfl, fun n h => nomatch h⟩
  | cons y r ih =>
    obtain ⟨n, rfl, n0⟩ := h y (.head _)
    obtain ⟨ns, rfl, k⟩ := ih fun z hz => h z (.tail _ hz)
    exact ⟨n :: ns, rfl, fun m hm => by
      rcases List.mem_cons.mp hm with rfl | hm
      · exact n0
      · exact k m hm⟩
structure RSt (ns : List Int) (j : Nat) (ps : List (Int × Int)) (g : Sg) : Prop where
  ex : ∃ b s3 s4 s5, g = [.own true b, .own false (.lst (ns.map D.int)), .own false (.lst (ps.map rowD)), s3, s4, s5] ∧ GB b
  le : ps.length = j
  ok : ∀ p ∈ ps, 0 ≤ p.1 ∧ p.1 ≤ p.2
theorem rows_body {ns : List Int} {j : Nat} {ps : List (Int × Int)} {g : Sg} {i : Int} (hns : ∀ n ∈ ns, 0 ≤ n) (h1 : 1 ≤ ns.length) (h4 : ns.length ≤ 4) (hj : j ≤ 100) (h : RSt ns j ps g) : ∃ g1, tgF (.name 3) (.int i) g = some g1 ∧ ∃ g2, (b__law_rows_0 g1 = .nx g2 ∨ b__law_rows_0 g1 = .ct g2) ∧ ∃ ps', RSt ns (j + 1) ps' g2 := by
  obtain ⟨⟨b, s3, s4, s5, rfl, gb⟩, le, ok⟩ := h
  obtain ⟨k1, b1, e1, g1, k10, k11⟩ := pick_ok gb (lim := (ns.length : Int)) (by omega) (by
    have : ns.length = 1 ∨ ns.length = 2 ∨ ns.length = 3 ∨ ns.length = 4 := by omega
    rcases this with h | h | h | h <;> rw [h] <;> decide)
  obtain ⟨k2, b2, e2, g2, k20, k21⟩ := pick_ok g1 (lim := (ns.length : Int)) (by omega) (by
    have : ns.length = 1 ∨ ns.length = 2 ∨ ns.length = 3 ∨ ns.length = 4 := by omega
    rcases this with h | h | h | h <;> rw [h] <;> decide)
  obtain ⟨x, hx, mx⟩ := atI_ints k10 k11
  obtain ⟨y, hy, my⟩ := atI_ints k20 k21
  have x0 := hns x mx
  have y0 := hns y my
  have ix1 : ixP (.lst (ns.map D.int)) (.int k1) = some (.val (.int x)) := by simp only [ixP, hx]; rfl
  have ix2 : ixP (.lst (ns.map D.int)) (.int k2) = some (.val (.int y)) := by simp only [ixP, hy]; rfl
  have ln : lenP [.lst (ns.map D.int)] = some (.val (.int ns.length)) := len_of (by simp) (by omega)
  have mn := min_p x y
  have mm := max_p x y
  have l1 : (ps.map rowD).length < 16777216 := by rw [List.length_map]; omega
  refine ⟨[.own true b, .own false (.lst (ns.map D.int)), .own false (.lst (ps.map rowD)), .val false (.int i), s4, s5], rfl, [.own true b2, .own false (.lst (ns.map D.int)), .own false (.lst ((ps ++ [(min x y, max x y)]).map rowD)), .val false (.int i), .val false (.int x), .val false (.int y)], .inl ?_, ps ++ [(min x y, max x y)], ⟨_, _, _, _, rfl, g2⟩, by simp [le], fun p hp => ?_⟩
  · rw [List.map_append]
    generalize ps.map rowD = PS at *
    generalize ns.map D.int = NS at *
    unfold b__law_rows_0
    generalize m__law_pick = PK at *
    (rw [seqF_nx ?hh]; (case hh => (simp [fnM, fnK, startG, seqF, iteS, andB, orB, notB, blF, truF, truth, op2, op1, nameF, cF, retF, retK, ifF, andV, orV, notF, settle, Res.bind, bindE, lift2, lift1, deref, derefA, setF, setK, exprF, appF, asgF, tgF, tgsF, frz1, frzA, callM, callF, callK, evA, ixs, toArs, toAr, putOuts_eq, putSl_nil, putSl_v, putSl_ne, putSl_at, putSl_val, putSl_un, outC, valsF, lstP, tupP, eqP, neP, eqD_int, eqD_str, eqD_bl, ltP, leP, gtP, geP, addP, subP, maxP, minP, chB, sizeLine, methM, methC, methK, pickM, callKw, kwK, pickL, setA, putD, putO, fldP, mkM, dflM, isiP, tyN, opO, ownK, owOr, owB, owR, owC, owI, okT, okU, clsN, backR, unO, ownU, neO, ownN, notR, isoP, vB, settleF, lk_hit, lk_miss, Option.map_some, kb_NoneType_bool, kb_NoneType_int, kb_NoneType_str, kb_NoneType_list, kb_NoneType_tuple, kb_NoneType_dict, kb_bool_bool, kb_bool_int, kb_bool_str, kb_bool_list, kb_bool_tuple, kb_bool_dict, kb_int_bool, kb_int_int, kb_int_str, kb_int_list, kb_int_tuple, kb_int_dict, kb_str_bool, kb_str_int, kb_str_str, kb_str_list, kb_str_tuple, kb_str_dict, kb_list_bool, kb_list_int, kb_list_str, kb_list_list, kb_list_tuple, kb_list_dict, kb_tuple_bool, kb_tuple_int, kb_tuple_str, kb_tuple_list, kb_tuple_tuple, kb_tuple_dict, kb_dict_bool, kb_dict_int, kb_dict_str, kb_dict_list, kb_dict_tuple, kb_dict_dict, vS, vI, isP, isNotP, isN, known, chV, orT, andT, truR, isB, isNotB, isQ, isNotQ, orP, propF, propC, propC.pickP, cmethM, ccallM, icallM, icallC, icallKw, icallCK, isIns, noX, ch3B, ch3V, chN, ixO, ownX, ln, e1, ix1]; try exact rfl)))
    (rw [seqF_nx ?hh]; (case hh => (simp [fnM, fnK, startG, seqF, iteS, andB, orB, notB, blF, truF, truth, op2, op1, nameF, cF, retF, retK, ifF, andV, orV, notF, settle, Res.bind, bindE, lift2, lift1, deref, derefA, setF, setK, exprF, appF, asgF, tgF, tgsF, frz1, frzA, callM, callF, callK, evA, ixs, toArs, toAr, putOuts_eq, putSl_nil, putSl_v, putSl_ne, putSl_at, putSl_val, putSl_un, outC, valsF, lstP, tupP, eqP, neP, eqD_int, eqD_str, eqD_bl, ltP, leP, gtP, geP, addP, subP, maxP, minP, chB, sizeLine, methM, methC, methK, pickM, callKw, kwK, pickL, setA, putD, putO, fldP, mkM, dflM, isiP, tyN, opO, ownK, owOr, owB, owR, owC, owI, okT, okU, clsN, backR, unO, ownU, neO, ownN, notR, isoP, vB, settleF, lk_hit, lk_miss, Option.map_some, kb_NoneType_bool, kb_NoneType_int, kb_NoneType_str, kb_NoneType_list, kb_NoneType_tuple, kb_NoneType_dict, kb_bool_bool, kb_bool_int, kb_bool_str, kb_bool_list, kb_bool_tuple, kb_bool_dict, kb_int_bool, kb_int_int, kb_int_str, kb_int_list, kb_int_tuple, kb_int_dict, kb_str_bool, kb_str_int, kb_str_str, kb_str_list, kb_str_tuple, kb_str_dict, kb_list_bool, kb_list_int, kb_list_str, kb_list_list, kb_list_tuple, kb_list_dict, kb_tuple_bool, kb_tuple_int, kb_tuple_str, kb_tuple_list, kb_tuple_tuple, kb_tuple_dict, kb_dict_bool, kb_dict_int, kb_dict_str, kb_dict_list, kb_dict_tuple, kb_dict_dict, vS, vI, isP, isNotP, isN, known, chV, orT, andT, truR, isB, isNotB, isQ, isNotQ, orP, propF, propC, propC.pickP, cmethM, ccallM, icallM, icallC, icallKw, icallCK, isIns, noX, ch3B, ch3V, chN, ixO, ownX, ln, e2, ix2]; try exact rfl)))
    generalize min x y = u at *
    generalize max x y = v at *
    simp [fnM, fnK, startG, seqF, iteS, andB, orB, notB, blF, truF, truth, op2, op1, nameF, cF, retF, retK, ifF, andV, orV, notF, settle, Res.bind, bindE, lift2, lift1, deref, derefA, setF, setK, exprF, appF, asgF, tgF, tgsF, frz1, frzA, callM, callF, callK, evA, ixs, toArs, toAr, putOuts_eq, putSl_nil, putSl_v, putSl_ne, putSl_at, putSl_val, putSl_un, outC, valsF, lstP, tupP, eqP, neP, eqD_int, eqD_str, eqD_bl, ltP, leP, gtP, geP, addP, subP, lenP, chB, sizeLine, methM, methC, methK, pickM, callKw, kwK, pickL, setA, putD, putO, fldP, mkM, dflM, isiP, tyN, opO, ownK, owOr, owB, owR, owC, owI, okT, okU, clsN, backR, unO, ownU, neO, ownN, notR, isoP, vB, settleF, lk_hit, lk_miss, Option.map_some, kb_NoneType_bool, kb_NoneType_int, kb_NoneType_str, kb_NoneType_list, kb_NoneType_tuple, kb_NoneType_dict, kb_bool_bool, kb_bool_int, kb_bool_str, kb_bool_list, kb_bool_tuple, kb_bool_dict, kb_int_bool, kb_int_int, kb_int_str, kb_int_list, kb_int_tuple, kb_int_dict, kb_str_bool, kb_str_int, kb_str_str, kb_str_list, kb_str_tuple, kb_str_dict, kb_list_bool, kb_list_int, kb_list_str, kb_list_list, kb_list_tuple, kb_list_dict, kb_tuple_bool, kb_tuple_int, kb_tuple_str, kb_tuple_list, kb_tuple_tuple, kb_tuple_dict, kb_dict_bool, kb_dict_int, kb_dict_str, kb_dict_list, kb_dict_tuple, kb_dict_dict, vS, vI, isP, isNotP, isN, known, chV, orT, andT, truR, isB, isNotB, isQ, isNotQ, orP, propF, propC, propC.pickP, cmethM, ccallM, icallM, icallC, icallKw, icallCK, isIns, noX, ch3B, ch3V, chN, ixO, ownX, mn, mm, l1]
  · rcases List.mem_append.mp hp with q | q
    · exact ok p q
    · rw [List.mem_singleton] at q
      subst q
      dsimp only
      omega

/-! ### k12: the law -/
theorem rows_ok {b : D} (hb : GB b) : ∃ (ps : List (Int × Int)) (b' : D), m__law_rows [.own b] = .ok (.fr (.lst (ps.map rowD))) [.own true b'] ∧ GB b' ∧ ps.length ≤ 40 ∧ ∀ p ∈ ps, 0 ≤ p.1 ∧ p.1 ≤ p.2 := by
  obtain ⟨k, b1, e1, g1, k0, k1⟩ := pick_ok hb (lim := 4) (by decide) (by decide)
  obtain ⟨n, hn⟩ : ∃ n : Nat, 1 + k = n := ⟨(1 + k).toNat, by omega⟩
  have r1 : rangeOf1 [.int (1 + k)] = some (rangeD 0 n) := by rw [hn]; simp [rangeOf1]; omega
  obtain ⟨ys, g', c1, ⟨b2, rfl, g2⟩, l1, a1⟩ := comp_inv (t := .name 3) (fe := callM m__law_number [(nameF 0)]) (vs := [3]) (acc := []) (ds := rangeD 0 n) (g := [.own true b1, .un, .un, .un, .un, .un]) (fun g => ∃ b, g = [.own true b, .un, .un, .un, .un, .un] ∧ GB b) (fun y => ∃ m : Int, y = .int m ∧ 0 ≤ m) ⟨b1, rfl, g1⟩ (by rw [rangeD_len]; simp [sizeLine]; omega) (by
    rintro d hd g ⟨b3, rfl, hb3⟩
    obtain ⟨m, b4, e, g4, m0, _⟩ := number_ok hb3
    refine ⟨_, rfl, .val (.int m), [.own true b4, .un, .un, .val false d, .un, .un], ?_, .int m, _, rfl, ⟨b4, rfl, g4⟩, m, rfl, m0⟩
    generalize m__law_number = NB at *
    simp [fnM, fnK, startG, seqF, iteS, andB, orB, notB, blF, truF, truth, op2, op1, nameF, cF, retF, retK, ifF, andV, orV, notF, settle, Res.bind, bindE, lift2, lift1, deref, derefA, setF, setK, exprF, appF, asgF, tgF, tgsF, frz1, frzA, callM, callF, callK, evA, ixs, toArs, toAr, putOuts_eq, putSl_nil, putSl_v, putSl_ne, putSl_at, putSl_val, putSl_un, outC, valsF, lstP, tupP, ixP, atI, ixN, eqP, neP, eqD_int, eqD_str, eqD_bl, ltP, leP, gtP, geP, addP, subP, lenP, maxP, minP, chB, sizeLine, methM, methC, methK, pickM, callKw, kwK, pickL, setA, putD, putO, fldP, mkM, dflM, isiP, tyN, opO, ownK, owOr, owB, owR, owC, owI, okT, okU, clsN, backR, unO, ownU, neO, ownN, notR, isoP, vB, settleF, lk_hit, lk_miss, Option.map_some, kb_NoneType_bool, kb_NoneType_int, kb_NoneType_str, kb_NoneType_list, kb_NoneType_tuple, kb_NoneType_dict, kb_bool_bool, kb_bool_int, kb_bool_str, kb_bool_list, kb_bool_tuple, kb_bool_dict, kb_int_bool, kb_int_int, kb_int_str, kb_int_list, kb_int_tuple, kb_int_dict, kb_str_bool, kb_str_int, kb_str_str, kb_str_list, kb_str_tuple, kb_str_dict, kb_list_bool, kb_list_int, kb_list_str, kb_list_list, kb_list_tuple, kb_list_dict, kb_tuple_bool, kb_tuple_int, kb_tuple_str, kb_tuple_list, kb_tuple_tuple, kb_tuple_dict, kb_dict_bool, kb_dict_int, kb_dict_str, kb_dict_list, kb_dict_tuple, kb_dict_dict, vS, vI, isP, isNotP, isN, known, chV, orT, andT, truR, isB, isNotB, isQ, isNotQ, orP, propF, propC, propC.pickP, cmethM, ccallM, icallM, icallC, icallKw, icallCK, isIns, noX, ch3B, ch3V, chN, ixO, ownX, noX, e])
  rw [List.nil_append] at c1
  obtain ⟨ns, rfl, n0⟩ := ints_of a1
  rw [rangeD_len, List.length_map] at l1
  obtain ⟨q, b3, e3, g3, q0, q1⟩ := pick_ok g2 (lim := 41) (by decide) (by decide)
  obtain ⟨m, hm⟩ : ∃ m : Nat, q = m := ⟨q.toNat, by omega⟩
  have r2 : rangeOf1 [.int q] = some (rangeD 0 m) := by rw [hm]; simp [rangeOf1]; omega
  obtain ⟨g', e4, ps, h⟩ := loop_fold (t := .name 3) (body := b__law_rows_0) (fun i : Nat => D.int (0 + (i : Int))) (fun j (_ : Unit) g => ∃ ps, RSt ns j ps g) (fun _ _ => ()) (xs := List.range m) (k := 0) (b := ()) (g := [.own true b3, .own false (.lst (ns.map D.int)), .own false (.lst []), .un, .un, .un]) ⟨[], ⟨_, _, _, _, rfl, g3⟩, rfl, fun p hp => nomatch hp⟩ fun i hi j _ g hj ⟨ps, h⟩ => by
    rw [List.length_range] at hj
    obtain ⟨g1, t1, g2, t2, ps', h'⟩ := rows_body (i := 0 + (i : Int)) n0 (by omega) (by omega) (by omega) h
    exact ⟨g1, t1, g2, t2, ps', h'⟩
  have e4 : loopF (.name 3) b__law_rows_0 (rangeD 0 m) [.own true b3, .own false (.lst (ns.map D.int)), .own false (.lst []), .un, .un, .un] = .nx g' := e4
  obtain ⟨⟨b5, s3, s4, s5, rfl, g5⟩, le, ok⟩ := h
  rw [List.length_range] at le
  refine ⟨ps, b5, ?_, g5, by omega, ok⟩
  generalize ps.map rowD = PS at *
  generalize ns.map D.int = NS at *
  unfold m__law_rows
  generalize m__law_pick = PK at *
  generalize m__law_number = NB at *
  generalize b__law_rows_0 = B at *
  (rw [fn_go ?hl]; (case hl => rfl))
  rw [show startG 6 [Ar.own b] = [.own true b, .un, .un, .un, .un, .un] from rfl]
  (rw [seqF_nx ?hh]; (case hh => (simp [fnM, fnK, startG, seqF, iteS, andB, orB, notB, blF, truF, truth, op2, op1, nameF, cF, retF, retK, ifF, andV, orV, notF, settle, Res.bind, bindE, lift2, lift1, deref, derefA, setF, setK, exprF, appF, asgF, tgF, tgsF, frz1, frzA, callM, callF, callK, evA, ixs, toArs, toAr, putOuts_eq, putSl_nil, putSl_v, putSl_ne, putSl_at, putSl_val, putSl_un, outC, valsF, lstP, tupP, ixP, atI, ixN, eqP, neP, eqD_int, eqD_str, eqD_bl, ltP, leP, gtP, geP, addP, subP, lenP, maxP, minP, chB, sizeLine, methM, methC, methK, pickM, callKw, kwK, pickL, setA, putD, putO, fldP, mkM, dflM, isiP, tyN, opO, ownK, owOr, owB, owR, owC, owI, okT, okU, clsN, backR, unO, ownU, neO, ownN, notR, isoP, vB, settleF, lk_hit, lk_miss, Option.map_some, kb_NoneType_bool, kb_NoneType_int, kb_NoneType_str, kb_NoneType_list, kb_NoneType_tuple, kb_NoneType_dict, kb_bool_bool, kb_bool_int, kb_bool_str, kb_bool_list, kb_bool_tuple, kb_bool_dict, kb_int_bool, kb_int_int, kb_int_str, kb_int_list, kb_int_tuple, kb_int_dict, kb_str_bool, kb_str_int, kb_str_str, kb_str_list, kb_str_tuple, kb_str_dict, kb_list_bool, kb_list_int, kb_list_str, kb_list_list, kb_list_tuple, kb_list_dict, kb_tuple_bool, kb_tuple_int, kb_tuple_str, kb_tuple_list, kb_tuple_tuple, kb_tuple_dict, kb_dict_bool, kb_dict_int, kb_dict_str, kb_dict_list, kb_dict_tuple, kb_dict_dict, vS, vI, isP, isNotP, isN, known, chV, orT, andT, truR, isB, isNotB, isQ, isNotQ, orP, propF, propC, propC.pickP, cmethM, ccallM, icallM, icallC, icallKw, icallCK, isIns, noX, ch3B, ch3V, chN, ixO, ownX, compF, argsI, e1, r1, wipeG, c1]; try exact rfl)))
  (rw [seqF_nx ?hh]; (case hh => (simp [fnM, fnK, startG, seqF, iteS, andB, orB, notB, blF, truF, truth, op2, op1, nameF, cF, retF, retK, ifF, andV, orV, notF, settle, Res.bind, bindE, lift2, lift1, deref, derefA, setF, setK, exprF, appF, asgF, tgF, tgsF, frz1, frzA, callM, callF, callK, evA, ixs, toArs, toAr, putOuts_eq, putSl_nil, putSl_v, putSl_ne, putSl_at, putSl_val, putSl_un, outC, valsF, lstP, tupP, ixP, atI, ixN, eqP, neP, eqD_int, eqD_str, eqD_bl, ltP, leP, gtP, geP, addP, subP, lenP, maxP, minP, chB, sizeLine, methM, methC, methK, pickM, callKw, kwK, pickL, setA, putD, putO, fldP, mkM, dflM, isiP, tyN, opO, ownK, owOr, owB, owR, owC, owI, okT, okU, clsN, backR, unO, ownU, neO, ownN, notR, isoP, vB, settleF, lk_hit, lk_miss, Option.map_some, kb_NoneType_bool, kb_NoneType_int, kb_NoneType_str, kb_NoneType_list, kb_NoneType_tuple, kb_NoneType_dict, kb_bool_bool, kb_bool_int, kb_bool_str, kb_bool_list, kb_bool_tuple, kb_bool_dict, kb_int_bool, kb_int_int, kb_int_str, kb_int_list, kb_int_tuple, kb_int_dict, kb_str_bool, kb_str_int, kb_str_str, kb_str_list, kb_str_tuple, kb_str_dict, kb_list_bool, kb_list_int, kb_list_str, kb_list_list, kb_list_tuple, kb_list_dict, kb_tuple_bool, kb_tuple_int, kb_tuple_str, kb_tuple_list, kb_tuple_tuple, kb_tuple_dict, kb_dict_bool, kb_dict_int, kb_dict_str, kb_dict_list, kb_dict_tuple, kb_dict_dict, vS, vI, isP, isNotP, isN, known, chV, orT, andT, truR, isB, isNotB, isQ, isNotQ, orP, propF, propC, propC.pickP, cmethM, ccallM, icallM, icallC, icallKw, icallCK, isIns, noX, ch3B, ch3V, chN, ixO, ownX]; try exact rfl)))
  rw [seqF_nx (g1 := [.own true b5, .own false (.lst NS), .own false (.lst PS), s3, s4, s5]) (by simp [fnM, fnK, startG, seqF, iteS, andB, orB, notB, blF, truF, truth, op2, op1, nameF, cF, retF, retK, ifF, andV, orV, notF, settle, Res.bind, bindE, lift2, lift1, deref, derefA, setF, setK, exprF, appF, asgF, tgF, tgsF, frz1, frzA, callM, callF, callK, evA, ixs, toArs, toAr, putOuts_eq, putSl_nil, putSl_v, putSl_ne, putSl_at, putSl_val, putSl_un, outC, valsF, lstP, tupP, ixP, atI, ixN, eqP, neP, eqD_int, eqD_str, eqD_bl, ltP, leP, gtP, geP, addP, subP, lenP, maxP, minP, chB, sizeLine, methM, methC, methK, pickM, callKw, kwK, pickL, setA, putD, putO, fldP, mkM, dflM, isiP, tyN, opO, ownK, owOr, owB, owR, owC, owI, okT, okU, clsN, backR, unO, ownU, neO, ownN, notR, isoP, vB, settleF, lk_hit, lk_miss, Option.map_some, kb_NoneType_bool, kb_NoneType_int, kb_NoneType_str, kb_NoneType_list, kb_NoneType_tuple, kb_NoneType_dict, kb_bool_bool, kb_bool_int, kb_bool_str, kb_bool_list, kb_bool_tuple, kb_bool_dict, kb_int_bool, kb_int_int, kb_int_str, kb_int_list, kb_int_tuple, kb_int_dict, kb_str_bool, kb_str_int, kb_str_str, kb_str_list, kb_str_tuple, kb_str_dict, kb_list_bool, kb_list_int, kb_list_str, kb_list_list, kb_list_tuple, kb_list_dict, kb_tuple_bool, kb_tuple_int, kb_tuple_str, kb_tuple_list, kb_tuple_tuple, kb_tuple_dict, kb_dict_bool, kb_dict_int, kb_dict_str, kb_dict_list, kb_dict_tuple, kb_dict_dict, vS, vI, isP, isNotP, isN, known, chV, orT, andT, truR, isB, isNotB, isQ, isNotQ, orP, propF, propC, propC.pickP, cmethM, ccallM, icallM, icallC, icallKw, icallCK, isIns, noX, ch3B, ch3V, chN, ixO, ownX, forF, argsI, e3, r2, e4])]
  simp [fnM, fnK, startG, seqF, iteS, andB, orB, notB, blF, truF, truth, op2, op1, nameF, cF, retF, retK, ifF, andV, orV, notF, settle, Res.bind, bindE, lift2, lift1, deref, derefA, setF, setK, exprF, appF, asgF, tgF, tgsF, frz1, frzA, callM, callF, callK, evA, ixs, toArs, toAr, putOuts_eq, putSl_nil, putSl_v, putSl_ne, putSl_at, putSl_val, putSl_un, outC, valsF, lstP, tupP, ixP, atI, ixN, eqP, neP, eqD_int, eqD_str, eqD_bl, ltP, leP, gtP, geP, addP, subP, lenP, maxP, minP, chB, sizeLine, methM, methC, methK, pickM, callKw, kwK, pickL, setA, putD, putO, fldP, mkM, dflM, isiP, tyN, opO, ownK, owOr, owB, owR, owC, owI, okT, okU, clsN, backR, unO, ownU, neO, ownN, notR, isoP, vB, settleF, lk_hit, lk_miss, Option.map_some, kb_NoneType_bool, kb_NoneType_int, kb_NoneType_str, kb_NoneType_list, kb_NoneType_tuple, kb_NoneType_dict, kb_bool_bool, kb_bool_int, kb_bool_str, kb_bool_list, kb_bool_tuple, kb_bool_dict, kb_int_bool, kb_int_int, kb_int_str, kb_int_list, kb_int_tuple, kb_int_dict, kb_str_bool, kb_str_int, kb_str_str, kb_str_list, kb_str_tuple, kb_str_dict, kb_list_bool, kb_list_int, kb_list_str, kb_list_list, kb_list_tuple, kb_list_dict, kb_tuple_bool, kb_tuple_int, kb_tuple_str, kb_tuple_list, kb_tuple_tuple, kb_tuple_dict, kb_dict_bool, kb_dict_int, kb_dict_str, kb_dict_list, kb_dict_tuple, kb_dict_dict, vS, vI, isP, isNotP, isN, known, chV, orT, andT, truR, isB, isNotB, isQ, isNotQ, orP, propF, propC, propC.pickP, cmethM, ccallM, icallM, icallC, icallKw, icallCK, isIns, noX, ch3B, ch3V, chN, ixO, ownX]
abbrev WL : List D := [.str "sort begin", .str "sort end", .str "sort begin down", .str "sort end down", .str "reverse"]
theorem words_at {i : Int} (h0 : 0 ≤ i) (h1 : i < 5) : ∃ z, ixP (.lst WL) (.int i) = some (.val (.str z)) ∧ W5 z := by
  have : i = 0 ∨ i = 1 ∨ i = 2 ∨ i = 3 ∨ i = 4 := by omega
  rcases this with rfl | rfl | rfl | rfl | rfl
  · exact ⟨_, rfl, .inl rfl⟩
  · exact ⟨_, rfl, .inr (.inl rfl)⟩
  · exact ⟨_, rfl, .inr (.inr (.inl rfl))⟩
  · exact ⟨_, rfl, .inr (.inr (.inr (.inl rfl)))⟩
  · exact ⟨_, rfl, .inr (.inr (.inr (.inr rfl)))⟩
theorem strs_of {ys : List D} (h : ∀ y ∈ ys, ∃ z : Str, y = .str z ∧ W5 z) : ∃ zs : List Str, ys = zs.map D.str ∧ ∀ z ∈ zs, W5 z := by
  induction ys with
  | nil => exact ⟨[], rfl, fun n h => nomatch h⟩
  | cons y r ih =>
    obtain ⟨n, rfl, n0⟩ := h y (.head _)
    obtain ⟨ns, rfl, k⟩ := ih fun z hz => h z (.tail _ hz)
    exact ⟨n :: ns, rfl, fun m hm => by
      rcases List.mem_cons.mp hm with rfl | hm
      · exact n0
      · exact k m hm⟩
theorem w5_so {z : Str} (hz : W5 z) : PyData.strOk z = true := by
  rcases hz with rfl | rfl | rfl | rfl | rfl <;> decide +kernel
theorem strs_self {zs : List Str} (hz : ∀ z ∈ zs, W5 z) : eqD (.tup (zs.map D.str)) (.tup (zs.map D.str)) = some true := by
  have h1 : toPs (zs.map D.str) = some (zs.map PyData.str) := by
    clear hz
    induction zs with
    | nil => rfl
    | cons a r ih => simp only [List.map_cons, toPs, ih, Option.map_some]; rfl
  refine eqD_self (p := .tuple (zs.map PyData.str)) (by simp only [toP, h1, Option.map_some]) ?_
  have h2 : PyData.canLayAll0 (zs.map PyData.str) = true := by
    clear h1
    induction zs with
    | nil => rfl
    | cons a r ih => simp [PyData.canLayAll0, PyData.canLay0, ih fun z h => hz z (.tail _ h), w5_so (hz a (.head _))]
  have h3 : PyData.depthAll (zs.map PyData.str) ≤ 0 := by
    clear h1 h2 hz
    induction zs with
    | nil => simp [PyData.depthAll]
    | cons a r ih => simp [PyData.depthAll, PyData.depth]; omega
  simp [SeqAt.shaped, PyData.canLay0, h2, PyData.depth]
  omega
def body1 (C4 : Ft) (MD RW : Fm) (B0 : Fs) : Fs := (seqF (setF 4 (settleF C4))
    (seqF (setF 5 (settleF (callM MD [(nameF 4)])))
    (seqF (iteS (orB (blF (op2 neP (op1 (fldP "passes" [("Order", none)]) (nameF 5)) (callF tupleP [(nameF 4)]))) (notB (truF (op1 (isiP "tuple") (op1 (fldP "passes" [("Order", none)]) (nameF 5)))))) (retF (cF (.bl false))) .nx)
    (seqF (setF 6 (settleF (callM RW [(nameF 1)])))
    (forF (iterF (valsF [(nameF 6), (callM RW [(nameF 1)]), (nameF 6), (valsF [] lstP)] lstP)) (.name 7) B0)))))
theorem body1_core {C4 : Ft} {MD RW : Fm} {B0 : Fs} {b b1 b2 b3 O : D} {ZS P1 P2 : List D} {s0 w2 s3 s4 s5 s6 s7 : Sl} {g2 : Sg}
    (c4 : C4 [s0, .own false b, w2, s3, s4, s5, s6, s7, .un] = .ok (.fr (.lst ZS)) [s0, .own false b1, w2, s3, s4, s5, s6, s7, .un]) (md : MD [.val (.lst ZS)] = .ok (.fr O) [.val true (.lst ZS)])
    (f0 : fldP "passes" [("Order", none)] O = some (.val (.tup ZS))) (q : eqD (.tup ZS) (.tup ZS) = some true) (r1 : RW [.own b1] = .ok (.fr (.lst P1)) [.own true b2]) (r2 : RW [.own b2] = .ok (.fr (.lst P2)) [.own true b3])
    (lp : loopF (.name 7) B0 [.lst P1, .lst P2, .lst P1, .lst []] [s0, .own false b3, w2, s3, .val false (.lst ZS), .val false O, .val false (.lst P1), s7, .un] = .nx g2) :
    body1 C4 MD RW B0 [s0, .own false b, w2, s3, s4, s5, s6, s7, .un] = .nx g2 := by
  unfold body1
  (rw [seqF_nx ?hh]; (case hh => (simp [fnM, fnK, startG, seqF, iteS, andB, orB, notB, blF, truF, truth, op2, op1, nameF, cF, retF, retK, ifF, andV, orV, notF, settle, Res.bind, bindE, lift2, lift1, deref, derefA, setF, setK, exprF, appF, asgF, tgF, tgsF, frz1, frzA, callM, callF, callK, evA, ixs, toArs, toAr, putOuts_eq, putSl_nil, putSl_v, putSl_ne, putSl_at, putSl_val, putSl_un, outC, valsF, lstP, tupP, ixP, atI, ixN, eqP, neP, eqD_int, eqD_str, eqD_bl, ltP, leP, gtP, geP, addP, subP, lenP, maxP, minP, chB, sizeLine, methM, methC, methK, pickM, callKw, kwK, pickL, setA, putD, putO, fldP, mkM, dflM, isiP, tyN, opO, ownK, owOr, owB, owR, owC, owI, okT, okU, clsN, backR, unO, ownU, neO, ownN, notR, isoP, vB, settleF, lk_hit, lk_miss, Option.map_some, kb_NoneType_bool, kb_NoneType_int, kb_NoneType_str, kb_NoneType_list, kb_NoneType_tuple, kb_NoneType_dict, kb_bool_bool, kb_bool_int, kb_bool_str, kb_bool_list, kb_bool_tuple, kb_bool_dict, kb_int_bool, kb_int_int, kb_int_str, kb_int_list, kb_int_tuple, kb_int_dict, kb_str_bool, kb_str_int, kb_str_str, kb_str_list, kb_str_tuple, kb_str_dict, kb_list_bool, kb_list_int, kb_list_str, kb_list_list, kb_list_tuple, kb_list_dict, kb_tuple_bool, kb_tuple_int, kb_tuple_str, kb_tuple_list, kb_tuple_tuple, kb_tuple_dict, kb_dict_bool, kb_dict_int, kb_dict_str, kb_dict_list, kb_dict_tuple, kb_dict_dict, vS, vI, isP, isNotP, isN, known, chV, orT, andT, truR, isB, isNotB, isQ, isNotQ, orP, propF, propC, propC.pickP, cmethM, ccallM, icallM, icallC, icallKw, icallCK, isIns, noX, ch3B, ch3V, chN, ixO, ownX, c4]; try exact rfl)))
  (rw [seqF_nx ?hh]; (case hh => (simp [fnM, fnK, startG, seqF, iteS, andB, orB, notB, blF, truF, truth, op2, op1, nameF, cF, retF, retK, ifF, andV, orV, notF, settle, Res.bind, bindE, lift2, lift1, deref, derefA, setF, setK, exprF, appF, asgF, tgF, tgsF, frz1, frzA, callM, callF, callK, evA, ixs, toArs, toAr, putOuts_eq, putSl_nil, putSl_v, putSl_ne, putSl_at, putSl_val, putSl_un, outC, valsF, lstP, tupP, ixP, atI, ixN, eqP, neP, eqD_int, eqD_str, eqD_bl, ltP, leP, gtP, geP, addP, subP, lenP, maxP, minP, chB, sizeLine, methM, methC, methK, pickM, callKw, kwK, pickL, setA, putD, putO, fldP, mkM, dflM, isiP, tyN, opO, ownK, owOr, owB, owR, owC, owI, okT, okU, clsN, backR, unO, ownU, neO, ownN, notR, isoP, vB, settleF, lk_hit, lk_miss, Option.map_some, kb_NoneType_bool, kb_NoneType_int, kb_NoneType_str, kb_NoneType_list, kb_NoneType_tuple, kb_NoneType_dict, kb_bool_bool, kb_bool_int, kb_bool_str, kb_bool_list, kb_bool_tuple, kb_bool_dict, kb_int_bool, kb_int_int, kb_int_str, kb_int_list, kb_int_tuple, kb_int_dict, kb_str_bool, kb_str_int, kb_str_str, kb_str_list, kb_str_tuple, kb_str_dict, kb_list_bool, kb_list_int, kb_list_str, kb_list_list, kb_list_tuple, kb_list_dict, kb_tuple_bool, kb_tuple_int, kb_tuple_str, kb_tuple_list, kb_tuple_tuple, kb_tuple_dict, kb_dict_bool, kb_dict_int, kb_dict_str, kb_dict_list, kb_dict_tuple, kb_dict_dict, vS, vI, isP, isNotP, isN, known, chV, orT, andT, truR, isB, isNotB, isQ, isNotQ, orP, propF, propC, propC.pickP, cmethM, ccallM, icallM, icallC, icallKw, icallCK, isIns, noX, ch3B, ch3V, chN, ixO, ownX, md]; try exact rfl)))
  (rw [seqF_nx ?hh]; (case hh => (simp [fnM, fnK, startG, seqF, iteS, andB, orB, notB, blF, truF, truth, op2, op1, nameF, cF, retF, retK, ifF, andV, orV, notF, settle, Res.bind, bindE, lift2, lift1, deref, derefA, setF, setK, exprF, appF, asgF, tgF, tgsF, frz1, frzA, callM, callF, callK, evA, ixs, toArs, toAr, putOuts_eq, putSl_nil, putSl_v, putSl_ne, putSl_at, putSl_val, putSl_un, outC, valsF, lstP, tupP, ixP, atI, ixN, eqP, neP, eqD_int, eqD_str, eqD_bl, ltP, leP, gtP, geP, addP, subP, lenP, maxP, minP, chB, sizeLine, methM, methC, methK, pickM, callKw, kwK, pickL, setA, putD, putO, mkM, dflM, isiP, tyN, opO, ownK, owOr, owB, owR, owC, owI, okT, okU, clsN, backR, unO, ownU, neO, ownN, notR, isoP, vB, settleF, lk_hit, lk_miss, Option.map_some, kb_NoneType_bool, kb_NoneType_int, kb_NoneType_str, kb_NoneType_list, kb_NoneType_tuple, kb_NoneType_dict, kb_bool_bool, kb_bool_int, kb_bool_str, kb_bool_list, kb_bool_tuple, kb_bool_dict, kb_int_bool, kb_int_int, kb_int_str, kb_int_list, kb_int_tuple, kb_int_dict, kb_str_bool, kb_str_int, kb_str_str, kb_str_list, kb_str_tuple, kb_str_dict, kb_list_bool, kb_list_int, kb_list_str, kb_list_list, kb_list_tuple, kb_list_dict, kb_tuple_bool, kb_tuple_int, kb_tuple_str, kb_tuple_list, kb_tuple_tuple, kb_tuple_dict, kb_dict_bool, kb_dict_int, kb_dict_str, kb_dict_list, kb_dict_tuple, kb_dict_dict, vS, vI, isP, isNotP, isN, known, chV, orT, andT, truR, isB, isNotB, isQ, isNotQ, orP, propF, propC, propC.pickP, cmethM, ccallM, icallM, icallC, icallKw, icallCK, isIns, noX, ch3B, ch3V, chN, ixO, ownX, f0, tupleP, q]; try exact rfl)))
  (rw [seqF_nx ?hh]; (case hh => (simp [fnM, fnK, startG, seqF, iteS, andB, orB, notB, blF, truF, truth, op2, op1, nameF, cF, retF, retK, ifF, andV, orV, notF, settle, Res.bind, bindE, lift2, lift1, deref, derefA, setF, setK, exprF, appF, asgF, tgF, tgsF, frz1, frzA, callM, callF, callK, evA, ixs, toArs, toAr, putOuts_eq, putSl_nil, putSl_v, putSl_ne, putSl_at, putSl_val, putSl_un, outC, valsF, lstP, tupP, ixP, atI, ixN, eqP, neP, eqD_int, eqD_str, eqD_bl, ltP, leP, gtP, geP, addP, subP, lenP, maxP, minP, chB, sizeLine, methM, methC, methK, pickM, callKw, kwK, pickL, setA, putD, putO, fldP, mkM, dflM, isiP, tyN, opO, ownK, owOr, owB, owR, owC, owI, okT, okU, clsN, backR, unO, ownU, neO, ownN, notR, isoP, vB, settleF, lk_hit, lk_miss, Option.map_some, kb_NoneType_bool, kb_NoneType_int, kb_NoneType_str, kb_NoneType_list, kb_NoneType_tuple, kb_NoneType_dict, kb_bool_bool, kb_bool_int, kb_bool_str, kb_bool_list, kb_bool_tuple, kb_bool_dict, kb_int_bool, kb_int_int, kb_int_str, kb_int_list, kb_int_tuple, kb_int_dict, kb_str_bool, kb_str_int, kb_str_str, kb_str_list, kb_str_tuple, kb_str_dict, kb_list_bool, kb_list_int, kb_list_str, kb_list_list, kb_list_tuple, kb_list_dict, kb_tuple_bool, kb_tuple_int, kb_tuple_str, kb_tuple_list, kb_tuple_tuple, kb_tuple_dict, kb_dict_bool, kb_dict_int, kb_dict_str, kb_dict_list, kb_dict_tuple, kb_dict_dict, vS, vI, isP, isNotP, isN, known, chV, orT, andT, truR, isB, isNotB, isQ, isNotQ, orP, propF, propC, propC.pickP, cmethM, ccallM, icallM, icallC, icallKw, icallCK, isIns, noX, ch3B, ch3V, chN, ixO, ownX, r1]; try exact rfl)))
  simp [fnM, fnK, startG, seqF, iteS, andB, orB, notB, blF, truF, truth, op2, op1, nameF, cF, retF, retK, ifF, andV, orV, notF, settle, Res.bind, bindE, lift2, lift1, deref, derefA, setF, setK, exprF, appF, asgF, tgF, tgsF, frz1, frzA, callM, callF, callK, evA, ixs, toArs, toAr, putOuts_eq, putSl_nil, putSl_v, putSl_ne, putSl_at, putSl_val, putSl_un, outC, valsF, lstP, tupP, ixP, atI, ixN, eqP, neP, eqD_int, eqD_str, eqD_bl, ltP, leP, gtP, geP, addP, subP, lenP, maxP, minP, chB, sizeLine, methM, methC, methK, pickM, callKw, kwK, pickL, setA, putD, putO, fldP, mkM, dflM, isiP, tyN, opO, ownK, owOr, owB, owR, owC, owI, okT, okU, clsN, backR, unO, ownU, neO, ownN, notR, isoP, vB, settleF, lk_hit, lk_miss, Option.map_some, kb_NoneType_bool, kb_NoneType_int, kb_NoneType_str, kb_NoneType_list, kb_NoneType_tuple, kb_NoneType_dict, kb_bool_bool, kb_bool_int, kb_bool_str, kb_bool_list, kb_bool_tuple, kb_bool_dict, kb_int_bool, kb_int_int, kb_int_str, kb_int_list, kb_int_tuple, kb_int_dict, kb_str_bool, kb_str_int, kb_str_str, kb_str_list, kb_str_tuple, kb_str_dict, kb_list_bool, kb_list_int, kb_list_str, kb_list_list, kb_list_tuple, kb_list_dict, kb_tuple_bool, kb_tuple_int, kb_tuple_str, kb_tuple_list, kb_tuple_tuple, kb_tuple_dict, kb_dict_bool, kb_dict_int, kb_dict_str, kb_dict_list, kb_dict_tuple, kb_dict_dict, vS, vI, isP, isNotP, isN, known, chV, orT, andT, truR, isB, isNotB, isQ, isNotQ, orP, propF, propC, propC.pickP, cmethM, ccallM, icallM, icallC, icallKw, icallCK, isIns, noX, ch3B, ch3V, chN, ixO, ownX, forF, iterF, itemsOf, r2, lp]
theorem body0_ok {zs : List Str} {ps : List (Int × Int)} {s0 w2 s3 s6 : Sl} {b : D} (hz : ∀ z ∈ zs, W5 z) (hn : ps.length ≤ 100) (hp : ∀ p ∈ ps, 0 ≤ p.1 ∧ p.1 ≤ p.2) :
    b_law_0 [s0, .own false b, w2, s3, .val false (.lst (zs.map D.str)), .val false (ordD zs), s6, .val false (.lst (ps.map rowD)), .un] = .nx [s0, .own false b, w2, s3, .val false (.lst (zs.map D.str)), .val false (ordD zs), s6, .val false (.lst (ps.map rowD)), .un] := by
  have r := right_ok hz hn hp
  unfold b_law_0
  generalize m__law_right = MR at *
  generalize ordD zs = O at *
  generalize zs.map D.str = ZS at *
  generalize ps.map rowD = RS at *
  simp [fnM, fnK, startG, seqF, iteS, andB, orB, notB, blF, truF, truth, op2, op1, nameF, cF, retF, retK, ifF, andV, orV, notF, settle, Res.bind, bindE, lift2, lift1, deref, derefA, setF, setK, exprF, appF, asgF, tgF, tgsF, frz1, frzA, callM, callF, callK, evA, ixs, toArs, toAr, putOuts_eq, putSl_nil, putSl_v, putSl_ne, putSl_at, putSl_val, putSl_un, outC, valsF, lstP, tupP, ixP, atI, ixN, eqP, neP, eqD_int, eqD_str, eqD_bl, ltP, leP, gtP, geP, addP, subP, lenP, maxP, minP, chB, sizeLine, methM, methC, methK, pickM, callKw, kwK, pickL, setA, putD, putO, fldP, mkM, dflM, isiP, tyN, opO, ownK, owOr, owB, owR, owC, owI, okT, okU, clsN, backR, unO, ownU, neO, ownN, notR, isoP, vB, settleF, lk_hit, lk_miss, Option.map_some, kb_NoneType_bool, kb_NoneType_int, kb_NoneType_str, kb_NoneType_list, kb_NoneType_tuple, kb_NoneType_dict, kb_bool_bool, kb_bool_int, kb_bool_str, kb_bool_list, kb_bool_tuple, kb_bool_dict, kb_int_bool, kb_int_int, kb_int_str, kb_int_list, kb_int_tuple, kb_int_dict, kb_str_bool, kb_str_int, kb_str_str, kb_str_list, kb_str_tuple, kb_str_dict, kb_list_bool, kb_list_int, kb_list_str, kb_list_list, kb_list_tuple, kb_list_dict, kb_tuple_bool, kb_tuple_int, kb_tuple_str, kb_tuple_list, kb_tuple_tuple, kb_tuple_dict, kb_dict_bool, kb_dict_int, kb_dict_str, kb_dict_list, kb_dict_tuple, kb_dict_dict, vS, vI, isP, isNotP, isN, known, chV, orT, andT, truR, isB, isNotB, isQ, isNotQ, orP, propF, propC, propC.pickP, cmethM, ccallM, icallM, icallC, icallKw, icallCK, isIns, noX, ch3B, ch3V, chN, ixO, ownX, r]
structure St (g : Sg) : Prop where
  ex : ∃ s0 b s3 s4 s5 s6 s7, g = [s0, .own false b, .own false (.lst WL), s3, s4, s5, s6, s7, .un] ∧ GB b
theorem body1_ok {g : Sg} (h : St g) (n : Int) : ∃ g2, b_law_1 (g.set 3 (.val false (.int n))) = .nx g2 ∧ St g2 := by
  obtain ⟨s0, b, s3, s4, s5, s6, s7, rfl, hb⟩ := h
  obtain ⟨k, b1, e1, g1, k0, k1⟩ := pick_ok hb (lim := 7) (by decide) (by decide)
  obtain ⟨m, hm⟩ : ∃ m : Nat, k = m := ⟨k.toNat, by omega⟩
  have r1 : rangeOf1 [.int k] = some (rangeD 0 m) := by rw [hm]; simp [rangeOf1]; omega
  obtain ⟨ys, g', c1, ⟨b2, rfl, g2⟩, l1, a1⟩ := comp_inv (t := .name 8) (fe := op2 ixP (nameF 2) (callM m__law_pick [(nameF 1), (cF (.int 5))])) (vs := [8]) (acc := []) (ds := rangeD 0 m) (g := [s0, .own false b1, .own false (.lst WL), .val false (.int n), s4, s5, s6, s7, .un]) (fun g => ∃ b, g = [s0, .own false b, .own false (.lst WL), .val false (.int n), s4, s5, s6, s7, .un] ∧ GB b) (fun y => ∃ z : Str, y = .str z ∧ W5 z) ⟨b1, rfl, g1⟩ (by rw [rangeD_len]; simp [sizeLine]; omega) (by
    rintro d hd g ⟨b3, rfl, hb3⟩
    obtain ⟨i, b4, e, g4, i0, i1⟩ := pick_ok hb3 (lim := 5) (by decide) (by decide)
    obtain ⟨z, hx, hz⟩ := words_at i0 i1
    refine ⟨_, rfl, .val (.str z), [s0, .own false b4, .own false (.lst WL), .val false (.int n), s4, s5, s6, s7, .val false d], ?_, .str z, _, rfl, ⟨b4, rfl, g4⟩, z, rfl, hz⟩
    generalize WL = L at *
    generalize m__law_pick = PK at *
    simp [fnM, fnK, startG, seqF, iteS, andB, orB, notB, blF, truF, truth, op2, op1, nameF, cF, retF, retK, ifF, andV, orV, notF, settle, Res.bind, bindE, lift2, lift1, deref, derefA, setF, setK, exprF, appF, asgF, tgF, tgsF, frz1, frzA, callM, callF, callK, evA, ixs, toArs, toAr, putOuts_eq, putSl_nil, putSl_v, putSl_ne, putSl_at, putSl_val, putSl_un, outC, valsF, lstP, tupP, eqP, neP, eqD_int, eqD_str, eqD_bl, ltP, leP, gtP, geP, addP, subP, lenP, maxP, minP, chB, sizeLine, methM, methC, methK, pickM, callKw, kwK, pickL, setA, putD, putO, fldP, mkM, dflM, isiP, tyN, opO, ownK, owOr, owB, owR, owC, owI, okT, okU, clsN, backR, unO, ownU, neO, ownN, notR, isoP, vB, settleF, lk_hit, lk_miss, Option.map_some, kb_NoneType_bool, kb_NoneType_int, kb_NoneType_str, kb_NoneType_list, kb_NoneType_tuple, kb_NoneType_dict, kb_bool_bool, kb_bool_int, kb_bool_str, kb_bool_list, kb_bool_tuple, kb_bool_dict, kb_int_bool, kb_int_int, kb_int_str, kb_int_list, kb_int_tuple, kb_int_dict, kb_str_bool, kb_str_int, kb_str_str, kb_str_list, kb_str_tuple, kb_str_dict, kb_list_bool, kb_list_int, kb_list_str, kb_list_list, kb_list_tuple, kb_list_dict, kb_tuple_bool, kb_tuple_int, kb_tuple_str, kb_tuple_list, kb_tuple_tuple, kb_tuple_dict, kb_dict_bool, kb_dict_int, kb_dict_str, kb_dict_list, kb_dict_tuple, kb_dict_dict, vS, vI, isP, isNotP, isN, known, chV, orT, andT, truR, isB, isNotB, isQ, isNotQ, orP, propF, propC, propC.pickP, cmethM, ccallM, icallM, icallC, icallKw, icallCK, isIns, noX, ch3B, ch3V, chN, ixO, ownX, noX, e, hx])
  rw [List.nil_append] at c1
  obtain ⟨zs, rfl, hz⟩ := strs_of a1
  rw [rangeD_len, List.length_map] at l1
  have c4 : compF (argsI rangeOf1 [(callM m__law_pick [(nameF 1), (cF (.int 7))])]) (.name 8) none (op2 ixP (nameF 2) (callM m__law_pick [(nameF 1), (cF (.int 5))])) [8] [s0, .own false b, .own false (.lst WL), .val false (.int n), s4, s5, s6, s7, .un] = .ok (.fr (.lst (zs.map D.str))) [s0, .own false b2, .own false (.lst WL), .val false (.int n), s4, s5, s6, s7, .un] := by
    generalize WL = L at *
    generalize op2 ixP (nameF 2) (callM m__law_pick [(nameF 1), (cF (.int 5))]) = FE at *
    generalize m__law_pick = PK at *
    simp [fnM, fnK, startG, seqF, iteS, andB, orB, notB, blF, truF, truth, op2, op1, nameF, cF, retF, retK, ifF, andV, orV, notF, settle, Res.bind, bindE, lift2, lift1, deref, derefA, setF, setK, exprF, appF, asgF, tgF, tgsF, frz1, frzA, callM, callF, callK, evA, ixs, toArs, toAr, putOuts_eq, putSl_nil, putSl_v, putSl_ne, putSl_at, putSl_val, putSl_un, outC, valsF, lstP, tupP, ixP, atI, ixN, eqP, neP, eqD_int, eqD_str, eqD_bl, ltP, leP, gtP, geP, addP, subP, lenP, maxP, minP, chB, sizeLine, methM, methC, methK, pickM, callKw, kwK, pickL, setA, putD, putO, fldP, mkM, dflM, isiP, tyN, opO, ownK, owOr, owB, owR, owC, owI, okT, okU, clsN, backR, unO, ownU, neO, ownN, notR, isoP, vB, settleF, lk_hit, lk_miss, Option.map_some, kb_NoneType_bool, kb_NoneType_int, kb_NoneType_str, kb_NoneType_list, kb_NoneType_tuple, kb_NoneType_dict, kb_bool_bool, kb_bool_int, kb_bool_str, kb_bool_list, kb_bool_tuple, kb_bool_dict, kb_int_bool, kb_int_int, kb_int_str, kb_int_list, kb_int_tuple, kb_int_dict, kb_str_bool, kb_str_int, kb_str_str, kb_str_list, kb_str_tuple, kb_str_dict, kb_list_bool, kb_list_int, kb_list_str, kb_list_list, kb_list_tuple, kb_list_dict, kb_tuple_bool, kb_tuple_int, kb_tuple_str, kb_tuple_list, kb_tuple_tuple, kb_tuple_dict, kb_dict_bool, kb_dict_int, kb_dict_str, kb_dict_list, kb_dict_tuple, kb_dict_dict, vS, vI, isP, isNotP, isN, known, chV, orT, andT, truR, isB, isNotB, isQ, isNotQ, orP, propF, propC, propC.pickP, cmethM, ccallM, icallM, icallC, icallKw, icallCK, isIns, noX, ch3B, ch3V, chN, ixO, ownX, compF, argsI, e1, r1, wipeG, c1]
  obtain ⟨p1, b3, q1, g3, n1, h1⟩ := rows_ok g2
  obtain ⟨p2, b4, q2, g4, n2, h2⟩ := rows_ok g3
  obtain ⟨g', lp, s7', rfl⟩ := loop_inv (t := .name 7) (body := b_law_0) (fun g => ∃ s7, g = [s0, .own false b4, .own false (.lst WL), .val false (.int n), .val false (.lst (zs.map D.str)), .val false (ordD zs), .val false (.lst (p1.map rowD)), s7, .un]) (ds := [.lst (p1.map rowD), .lst (p2.map rowD), .lst (p1.map rowD), .lst []]) (g := [s0, .own false b4, .own false (.lst WL), .val false (.int n), .val false (.lst (zs.map D.str)), .val false (ordD zs), .val false (.lst (p1.map rowD)), s7, .un]) ⟨_, rfl⟩ fun d hd g hg => by
    obtain ⟨s7, rfl⟩ := hg
    have : ∃ ps : List (Int × Int), d = .lst (ps.map rowD) ∧ ps.length ≤ 100 ∧ ∀ p ∈ ps, 0 ≤ p.1 ∧ p.1 ≤ p.2 := by
      simp only [List.mem_cons, List.not_mem_nil, or_false] at hd
      rcases hd with rfl | rfl | rfl | rfl
      · exact ⟨p1, rfl, by omega, h1⟩
      · exact ⟨p2, rfl, by omega, h2⟩
      · exact ⟨p1, rfl, by omega, h1⟩
      · exact ⟨[], rfl, by simp, fun p hp => nomatch hp⟩
    obtain ⟨ps, rfl, l, hp⟩ := this
    exact ⟨_, rfl, _, .inl (body0_ok hz l hp), _, rfl⟩
  have bc := body1_core (s0 := s0) (w2 := .own false (.lst WL)) (s3 := .val false (.int n)) (s4 := s4) (s5 := s5) (s6 := s6) (s7 := s7) c4 (made_ok hz (by omega)) rfl (strs_self hz) q1 q2 lp
  exact ⟨_, bc, _, _, _, _, _, _, _, rfl, g4⟩
theorem law_true : ∀ ns : List Int, ns.length ≤ 63 → ∃ outs, m_law [.val (.seq (ns.map D.int))] = .ok (.val (.bl true)) outs := by
  intro ns hl
  obtain ⟨b0, e0, g0⟩ := bag_ok hl
  obtain ⟨g', e3, s0, b2, s3, s4, s5, s6, s7, rfl, g2⟩ := loop_inv (t := .name 3) (body := b_law_1) St (ds := rangeD 0 2) (g := [.val true (.seq (ns.map D.int)), .own false b0, .own false (.lst WL), .un, .un, .un, .un, .un, .un])
    ⟨_, b0, _, _, _, _, _, rfl, g0⟩ fun d hd g hg => by
      obtain ⟨i, rfl, _, _⟩ := rangeD_mem hd
      obtain ⟨g2, e2, h2⟩ := body1_ok hg i
      exact ⟨_, rfl, g2, .inl e2, h2⟩
  have r2 : rangeOf1 [.int 2] = some (rangeD 0 2) := rfl
  unfold m_law
  generalize m__law_bag = LB at *
  generalize b_law_1 = B1 at *
  refine ⟨[s0], ?_⟩
  (rw [fn_go ?hl]; (case hl => rfl))
  (rw [seqF_nx ?hh]; (case hh => (simp [fnM, fnK, startG, seqF, iteS, andB, orB, notB, blF, truF, truth, op2, op1, nameF, cF, retF, retK, ifF, andV, orV, notF, settle, Res.bind, bindE, lift2, lift1, deref, derefA, setF, setK, exprF, appF, asgF, tgF, tgsF, frz1, frzA, callM, callF, callK, evA, ixs, toArs, toAr, putOuts_eq, putSl_nil, putSl_v, putSl_ne, putSl_at, putSl_val, putSl_un, outC, valsF, lstP, tupP, ixP, atI, ixN, eqP, neP, eqD_int, eqD_str, eqD_bl, ltP, leP, gtP, geP, addP, subP, lenP, maxP, minP, chB, sizeLine, methM, methC, methK, pickM, callKw, kwK, pickL, setA, putD, putO, fldP, mkM, dflM, isiP, tyN, opO, ownK, owOr, owB, owR, owC, owI, okT, okU, clsN, backR, unO, ownU, neO, ownN, notR, isoP, vB, settleF, lk_hit, lk_miss, Option.map_some, kb_NoneType_bool, kb_NoneType_int, kb_NoneType_str, kb_NoneType_list, kb_NoneType_tuple, kb_NoneType_dict, kb_bool_bool, kb_bool_int, kb_bool_str, kb_bool_list, kb_bool_tuple, kb_bool_dict, kb_int_bool, kb_int_int, kb_int_str, kb_int_list, kb_int_tuple, kb_int_dict, kb_str_bool, kb_str_int, kb_str_str, kb_str_list, kb_str_tuple, kb_str_dict, kb_list_bool, kb_list_int, kb_list_str, kb_list_list, kb_list_tuple, kb_list_dict, kb_tuple_bool, kb_tuple_int, kb_tuple_str, kb_tuple_list, kb_tuple_tuple, kb_tuple_dict, kb_dict_bool, kb_dict_int, kb_dict_str, kb_dict_list, kb_dict_tuple, kb_dict_dict, vS, vI, isP, isNotP, isN, known, chV, orT, andT, truR, isB, isNotB, isQ, isNotQ, orP, propF, propC, propC.pickP, cmethM, ccallM, icallM, icallC, icallKw, icallCK, isIns, noX, ch3B, ch3V, chN, ixO, ownX, e0]; try exact rfl)))
  (rw [seqF_nx ?hh]; (case hh => (simp [fnM, fnK, startG, seqF, iteS, andB, orB, notB, blF, truF, truth, op2, op1, nameF, cF, retF, retK, ifF, andV, orV, notF, settle, Res.bind, bindE, lift2, lift1, deref, derefA, setF, setK, exprF, appF, asgF, tgF, tgsF, frz1, frzA, callM, callF, callK, evA, ixs, toArs, toAr, putOuts_eq, putSl_nil, putSl_v, putSl_ne, putSl_at, putSl_val, putSl_un, outC, valsF, lstP, tupP, ixP, atI, ixN, eqP, neP, eqD_int, eqD_str, eqD_bl, ltP, leP, gtP, geP, addP, subP, lenP, maxP, minP, chB, sizeLine, methM, methC, methK, pickM, callKw, kwK, pickL, setA, putD, putO, fldP, mkM, dflM, isiP, tyN, opO, ownK, owOr, owB, owR, owC, owI, okT, okU, clsN, backR, unO, ownU, neO, ownN, notR, isoP, vB, settleF, lk_hit, lk_miss, Option.map_some, kb_NoneType_bool, kb_NoneType_int, kb_NoneType_str, kb_NoneType_list, kb_NoneType_tuple, kb_NoneType_dict, kb_bool_bool, kb_bool_int, kb_bool_str, kb_bool_list, kb_bool_tuple, kb_bool_dict, kb_int_bool, kb_int_int, kb_int_str, kb_int_list, kb_int_tuple, kb_int_dict, kb_str_bool, kb_str_int, kb_str_str, kb_str_list, kb_str_tuple, kb_str_dict, kb_list_bool, kb_list_int, kb_list_str, kb_list_list, kb_list_tuple, kb_list_dict, kb_tuple_bool, kb_tuple_int, kb_tuple_str, kb_tuple_list, kb_tuple_tuple, kb_tuple_dict, kb_dict_bool, kb_dict_int, kb_dict_str, kb_dict_list, kb_dict_tuple, kb_dict_dict, vS, vI, isP, isNotP, isN, known, chV, orT, andT, truR, isB, isNotB, isQ, isNotQ, orP, propF, propC, propC.pickP, cmethM, ccallM, icallM, icallC, icallKw, icallCK, isIns, noX, ch3B, ch3V, chN, ixO, ownX]; try exact rfl)))
  rw [seqF_nx (g1 := [s0, .own false b2, .own false (.lst WL), s3, s4, s5, s6, s7, .un]) (by
    simp [fnM, fnK, startG, seqF, iteS, andB, orB, notB, blF, truF, truth, op2, op1, nameF, cF, retF, retK, ifF, andV, orV, notF, settle, Res.bind, bindE, lift2, lift1, deref, derefA, setF, setK, exprF, appF, asgF, tgF, tgsF, frz1, frzA, callM, callF, callK, evA, ixs, toArs, toAr, putOuts_eq, putSl_nil, putSl_v, putSl_ne, putSl_at, putSl_val, putSl_un, outC, valsF, lstP, tupP, ixP, atI, ixN, eqP, neP, eqD_int, eqD_str, eqD_bl, ltP, leP, gtP, geP, addP, subP, lenP, maxP, minP, chB, sizeLine, methM, methC, methK, pickM, callKw, kwK, pickL, setA, putD, putO, fldP, mkM, dflM, isiP, tyN, opO, ownK, owOr, owB, owR, owC, owI, okT, okU, clsN, backR, unO, ownU, neO, ownN, notR, isoP, vB, settleF, lk_hit, lk_miss, Option.map_some, kb_NoneType_bool, kb_NoneType_int, kb_NoneType_str, kb_NoneType_list, kb_NoneType_tuple, kb_NoneType_dict, kb_bool_bool, kb_bool_int, kb_bool_str, kb_bool_list, kb_bool_tuple, kb_bool_dict, kb_int_bool, kb_int_int, kb_int_str, kb_int_list, kb_int_tuple, kb_int_dict, kb_str_bool, kb_str_int, kb_str_str, kb_str_list, kb_str_tuple, kb_str_dict, kb_list_bool, kb_list_int, kb_list_str, kb_list_list, kb_list_tuple, kb_list_dict, kb_tuple_bool, kb_tuple_int, kb_tuple_str, kb_tuple_list, kb_tuple_tuple, kb_tuple_dict, kb_dict_bool, kb_dict_int, kb_dict_str, kb_dict_list, kb_dict_tuple, kb_dict_dict, vS, vI, isP, isNotP, isN, known, chV, orT, andT, truR, isB, isNotB, isQ, isNotQ, orP, propF, propC, propC.pickP, cmethM, ccallM, icallM, icallC, icallKw, icallCK, isIns, noX, ch3B, ch3V, chN, ixO, ownX, argsI, forF, r2, e3])]
  simp [fnM, fnK, startG, seqF, iteS, andB, orB, notB, blF, truF, truth, op2, op1, nameF, cF, retF, retK, ifF, andV, orV, notF, settle, Res.bind, bindE, lift2, lift1, deref, derefA, setF, setK, exprF, appF, asgF, tgF, tgsF, frz1, frzA, callM, callF, callK, evA, ixs, toArs, toAr, putOuts_eq, putSl_nil, putSl_v, putSl_ne, putSl_at, putSl_val, putSl_un, outC, valsF, lstP, tupP, ixP, atI, ixN, eqP, neP, eqD_int, eqD_str, eqD_bl, ltP, leP, gtP, geP, addP, subP, lenP, maxP, minP, chB, sizeLine, methM, methC, methK, pickM, callKw, kwK, pickL, setA, putD, putO, fldP, mkM, dflM, isiP, tyN, opO, ownK, owOr, owB, owR, owC, owI, okT, okU, clsN, backR, unO, ownU, neO, ownN, notR, isoP, vB, settleF, lk_hit, lk_miss, Option.map_some, kb_NoneType_bool, kb_NoneType_int, kb_NoneType_str, kb_NoneType_list, kb_NoneType_tuple, kb_NoneType_dict, kb_bool_bool, kb_bool_int, kb_bool_str, kb_bool_list, kb_bool_tuple, kb_bool_dict, kb_int_bool, kb_int_int, kb_int_str, kb_int_list, kb_int_tuple, kb_int_dict, kb_str_bool, kb_str_int, kb_str_str, kb_str_list, kb_str_tuple, kb_str_dict, kb_list_bool, kb_list_int, kb_list_str, kb_list_list, kb_list_tuple, kb_list_dict, kb_tuple_bool, kb_tuple_int, kb_tuple_str, kb_tuple_list, kb_tuple_tuple, kb_tuple_dict, kb_dict_bool, kb_dict_int, kb_dict_str, kb_dict_list, kb_dict_tuple, kb_dict_dict, vS, vI, isP, isNotP, isN, known, chV, orT, andT, truR, isB, isNotB, isQ, isNotQ, orP, propF, propC, propC.pickP, cmethM, ccallM, icallM, icallC, icallKw, icallCK, isIns, noX, ch3B, ch3V, chN, ixO, ownX]

end Vl

set_option Elab.async false
set_option linter.all false
set_option maxRecDepth 100000
set_option maxHeartbeats 4000000
open PySem PySem.Spec PyProof.Rows L2 My Vl
namespace Vl
def fa : List He.Fa := [.free "list", .glo "_law_bag", .free "enumerate", .cls "Order", .noat "Order" "passes", .free "tuple", .mkr "Order", .glo "Order", .free "len", .glo "_law_made", .free "int", .glo "_law_pick", .glo "_law_number", .free "range", .free "min", .free "max", .glo "_law_rows", .free "sorted", .glo "passed_rows", .meth "Order" "indexes", .mkr "Change", .glo "Change", .glo "_law_order", .free "isinstance", .free "bool", .glo "_law_is_int", .free "all", .glo "_law_right", .glo "law"]
def fn : List He.DefD := [⟨("BadChange", some "__init__"), "__init__", "BadChange.__init__", defArgs sBadChange_init, defBody sBadChange_init, defScope sBadChange_init, [], []⟩, ⟨("BadOrder", some "__init__"), "__init__", "BadOrder.__init__", defArgs sBadOrder_init, defBody sBadOrder_init, defScope sBadOrder_init, [], []⟩, ⟨("_law_bag", none), "_law_bag", "_law_bag", defArgs s_law_bag, defBody s_law_bag, defScope s_law_bag, [], []⟩, ⟨("Order", some "__init__"), "__init__", "Order.__init__", defArgs sOrder_init, defBody sOrder_init, defScope sOrder_init, [], []⟩, ⟨("_law_made", none), "_law_made", "_law_made", defArgs s_law_made, defBody s_law_made, defScope s_law_made, [], []⟩, ⟨("_law_pick", none), "_law_pick", "_law_pick", defArgs s_law_pick, defBody s_law_pick, defScope s_law_pick, [], []⟩, ⟨("_law_number", none), "_law_number", "_law_number", defArgs s_law_number, defBody s_law_number, defScope s_law_number, [], []⟩, ⟨("_law_rows", none), "_law_rows", "_law_rows", defArgs s_law_rows, defBody s_law_rows, defScope s_law_rows, [], []⟩, ⟨("passed_rows", none), "passed_rows", "passed_rows", defArgs spassed_rows, defBody spassed_rows, defScope spassed_rows, [], []⟩, ⟨("Order", some "indexes"), "indexes", "Order.indexes", defArgs sOrder_indexes, defBody sOrder_indexes, defScope sOrder_indexes, [], []⟩, ⟨("Change", some "__init__"), "__init__", "Change.__init__", defArgs sChange_init, defBody sChange_init, defScope sChange_init, [.str ""], []⟩, ⟨("_law_order", none), "_law_order", "_law_order", defArgs s_law_order, defBody s_law_order, defScope s_law_order, [], []⟩, ⟨("_law_is_int", none), "_law_is_int", "_law_is_int", defArgs s_law_is_int, defBody s_law_is_int, defScope s_law_is_int, [], []⟩, ⟨("_law_right", none), "_law_right", "_law_right", defArgs s_law_right, defBody s_law_right, defScope s_law_right, [], []⟩, ⟨("law", none), "law", "law", defArgs slaw, defBody slaw, defScope slaw, [], []⟩]
def fnB : List He5.DefA := []
theorem feGet {K : PySem.W.Frag} (fe : fnB.map (fun d => He5.fnA K (d.at_ K)) = fnB.map He5.DefA.val) (i : Nat) {d : He5.DefA} (h : fnB[i]? = some d) : He5.fnA K (d.at_ K) = d.val := by
  have := congrArg (fun l => l[i]?) fe
  simp only [List.getElem?_map, h, Option.map_some, Option.some.injEq] at this
  exact this
def exL : List (PySem.W.Frag → Bool) := [(fun K => exbB K "OldPlacesError"), (fun K => exkB K "BadChange" ["begin", "end"]), (fun K => exkB K "BadOrder" ["entry"]), (fun K => kcB K "PASSES" (.tup [(.str "sort begin"), (.str "sort end"), (.str "sort begin down"), (.str "sort end down"), (.str "reverse")])), (fun K => kcB K "MOST_PASSES" (.int 6)), (fun K => lamB K ("passed_rows", none) "passed_rows"), (fun K => sclsB K "Change"), (fun K => slotB K "Change" "begin" 0), (fun K => slotB K "Change" "end" 1), (fun K => slotB K "Change" "new" 2)]
def dcL : List (Str × List Str) := []
theorem exGet {K : PySem.W.Frag} (e : exL.all (fun f => f K) = true) (i : Nat) {f : PySem.W.Frag → Bool} (h : exL[i]? = some f) : f K = true := List.all_eq_true.mp e f (List.mem_of_getElem? h)
theorem dcGet {K : PySem.W.Frag} {w : World} (e : dcL.map (fun p => He.dicW K (He.ga K p.1)) = dcL.map (fun p => some (He.keysIn w.params p.2))) (i : Nat) {x : Str} {ks : List Str} (h : dcL[i]? = some (x, ks)) : He.dicW K (He.ga K x) = some (He.keysIn w.params ks) := by
  have := congrArg (fun l => l[i]?) e
  simp only [List.getElem?_map, h, Option.map_some, Option.some.injEq] at this
  exact this
theorem all_mk {l : PySem.W.OpenLaw} {w : World} {K : PySem.W.Frag} {h : Heap} {mg : Str → Option Value} {fL : Addr} (X : K.In h) (G : h.Ns mainGlobals mg) (hfa : mg "law" = some (.ref fL)) (c : He.SaysD fa fn K) (e : exL.all (fun f => f K) = true) (dd : dcL.map (fun p => He.dicW K (He.ga K p.1)) = dcL.map (fun p => some (He.keysIn w.params p.2))) (fe : fnB.map (fun d => He5.fnA K (d.at_ K)) = fnB.map He5.DefA.val)
    (hl : ∀ ns : List Int, ns.length ≤ 63 → ∃ outs, m_law [.val (.seq (ns.map D.int))] = .ok (.val (.bl true)) outs) :
    ∃ fd : FuncData, (∀ (s : Shared) (v : Value), BindsTo s fd ⟨[v], []⟩ [("_law_script", v)]) ∧ ∀ base : Heap, K.In base → base.Ns mainGlobals mg → TbsOk K mg base → FnOk l.prog w K mg base CX0 7 fL fd ["_law_script"] (spLaw (K := K)) := by
  have hl' := hfa.symm.trans (He.glo_ok X G (c.fact 28 rfl))
  cases hl'
  have T : Txt K w mg := { exb := (exb_ok X G (exGet e 0 rfl)), ex_BadChange := (exk_ok X G (exGet e 1 rfl)), ex_BadOrder := (exk_ok X G (exGet e 2 rfl)), list := (He.free_ok X G (c.fact 0 rfl)), gl__law_bag := (He.glo_ok X G (c.fact 1 rfl)), enumerate := (He.free_ok X G (c.fact 2 rfl)), k_PASSES := (kc_ok X G (exGet e 3 rfl)), k_MOST_PASSES := (kc_ok X G (exGet e 4 rfl)), cl_Order := (He.cls_ok (c.fact 3 rfl)), fl_passes := (FldK.pl (He.cls_ok (c.fact 3 rfl)) (He.noat_ok (c.fact 4 rfl)) FldK.nil), tuple := (He.free_ok X G (c.fact 5 rfl)), mk_Order := (He.mkr_ok (c.fact 6 rfl)), gl_Order := (He.glo_ok X G (c.fact 7 rfl)), len := (He.free_ok X G (c.fact 8 rfl)), gl__law_made := (He.glo_ok X G (c.fact 9 rfl)), int := (He.free_ok X G (c.fact 10 rfl)), gl__law_pick := (He.glo_ok X G (c.fact 11 rfl)), gl__law_number := (He.glo_ok X G (c.fact 12 rfl)), range := (He.free_ok X G (c.fact 13 rfl)), min := (He.free_ok X G (c.fact 14 rfl)), max := (He.free_ok X G (c.fact 15 rfl)), gl__law_rows := (He.glo_ok X G (c.fact 16 rfl)), sorted := (He.free_ok X G (c.fact 17 rfl)), gl_passed_rows := (He.glo_ok X G (c.fact 18 rfl)), cl_Change := (scls_ok (exGet e 6 rfl)), fl_begin := (FldK.sl (scls_ok (exGet e 6 rfl)) (slot_ok (exGet e 7 rfl)) FldK.nil), fl_end := (FldK.sl (scls_ok (exGet e 6 rfl)) (slot_ok (exGet e 8 rfl)) FldK.nil), fl_new := (FldK.sl (scls_ok (exGet e 6 rfl)) (slot_ok (exGet e 9 rfl)) FldK.nil), mk_Change := (He.mkr_ok (c.fact 20 rfl)), gl_Change := (He.glo_ok X G (c.fact 21 rfl)), gl__law_order := (He.glo_ok X G (c.fact 22 rfl)), isinstance := (He.free_ok X G (c.fact 23 rfl)), bool := (He.free_ok X G (c.fact 24 rfl)), gl__law_is_int := (He.glo_ok X G (c.fact 25 rfl)), all := (He.free_ok X G (c.fact 26 rfl)), gl__law_right := (He.glo_ok X G (c.fact 27 rfl)), gl_law := ((fun _ => trivial) (c.fact 28 rfl)) }
  obtain ⟨fd0, F0⟩ := c.def_ 0 rfl
  have b0 := FunD.bindsN (ps := ["self", "begin", "end"]) F0 fun _ _ _ _ _ _ us hl => match us, hl with | [_, _, _], _ => rfl
  have cBadChange : ∀ base, TbsOk K mg base → Rz2 l.prog w K mg base 1 "BadChange" "begin" "end" := fun base tb => ⟨_, fd0, _, T.ex_BadChange, okBadChange_init F0 T, b0⟩
  obtain ⟨fd1, F1⟩ := c.def_ 1 rfl
  have b1 := FunD.bindsN (ps := ["self", "entry"]) F1 fun _ _ _ _ _ _ us hl => match us, hl with | [_, _], _ => rfl
  have cBadOrder : ∀ base, TbsOk K mg base → Rz1 l.prog w K mg base 1 "BadOrder" "entry" := fun base tb => ⟨_, fd1, _, T.ex_BadOrder, okBadOrder_init F1 T, b1⟩
  obtain ⟨fd2, F2⟩ := c.def_ 2 rfl
  have b2 := FunD.bindsN (ps := ["_law_script"]) F2 fun _ _ _ _ _ _ us hl => match us, hl with | [_], _ => rfl
  have c_law_bag : ∀ base, TbsOk K mg base → Cf l.prog w K mg base 1 "_law_bag" (spV K m__law_bag) := fun base tb => ⟨_, Callee.of_fn (okR (ok_law_bag F2 T ) b2), T.gl__law_bag, F2.kp⟩
  obtain ⟨fd3, F3⟩ := c.def_ 3 rfl
  have cOrder : ∀ base, TbsOk K mg base → Cf l.prog w K mg base 5 "Order" (spV K m_Order) := fun base tb => ⟨_, mk_plain T.mk_Order (okOrder_init F3 T (cBadOrder base tb)), T.gl_Order, T.mk_Order.kp⟩
  obtain ⟨fd4, F4⟩ := c.def_ 4 rfl
  have b4 := FunD.bindsN (ps := ["_law_passes"]) F4 fun _ _ _ _ _ _ us hl => match us, hl with | [_], _ => rfl
  have c_law_made : ∀ base, TbsOk K mg base → Cf l.prog w K mg base 6 "_law_made" (spV K m__law_made) := fun base tb => ⟨_, Callee.of_fn (okR (ok_law_made F4 T (cOrder base tb)) b4), T.gl__law_made, F4.kp⟩
  obtain ⟨fd5, F5⟩ := c.def_ 5 rfl
  have b5 := FunD.bindsN (ps := ["_law_bag_here", "_law_limit"]) F5 fun _ _ _ _ _ _ us hl => match us, hl with | [_, _], _ => rfl
  have c_law_pick : ∀ base, TbsOk K mg base → Cf l.prog w K mg base 1 "_law_pick" (spV K m__law_pick) := fun base tb => ⟨_, Callee.of_fn (okR (ok_law_pick F5 T ) b5), T.gl__law_pick, F5.kp⟩
  obtain ⟨fd6, F6⟩ := c.def_ 6 rfl
  have b6 := FunD.bindsN (ps := ["_law_bag_here"]) F6 fun _ _ _ _ _ _ us hl => match us, hl with | [_], _ => rfl
  have c_law_number : ∀ base, TbsOk K mg base → Cf l.prog w K mg base 2 "_law_number" (spV K m__law_number) := fun base tb => ⟨_, Callee.of_fn (okR (ok_law_number F6 T (c_law_pick base tb)) b6), T.gl__law_number, F6.kp⟩
  obtain ⟨fd7, F7⟩ := c.def_ 7 rfl
  have b7 := FunD.bindsN (ps := ["_law_bag_here"]) F7 fun _ _ _ _ _ _ us hl => match us, hl with | [_], _ => rfl
  have c_law_rows : ∀ base, TbsOk K mg base → Cf l.prog w K mg base 3 "_law_rows" (spV K m__law_rows) := fun base tb => ⟨_, Callee.of_fn (okR (ok_law_rows F7 T (c_law_number base tb) (c_law_pick base tb)) b7), T.gl__law_rows, F7.kp⟩
  obtain ⟨fd8, F8⟩ := c.def_ 8 rfl
  have b8 := FunD.bindsN (ps := ["entry", "rows", "numbers"]) F8 fun _ _ _ _ _ _ us hl => match us, hl with | [_, _, _], _ => rfl
  have cpassed_rows : ∀ base, TbsOk K mg base → Cf l.prog w K mg base 1 "passed_rows" (spV K m_passed_rows) := fun base tb => ⟨_, Callee.of_fn (okR (okpassed_rows F8 T (lamTK_of tb (exGet e 5 rfl))) b8), T.gl_passed_rows, F8.kp⟩
  obtain ⟨fd9, F9⟩ := c.def_ 9 rfl
  have b9 := FunD.bindsN (ps := ["self", "changes"]) F9 fun _ _ _ _ _ _ us hl => match us, hl with | [_, _], _ => rfl
  have k_indexes : ∀ base, TbsOk K mg base → MethK l.prog w K mg base 2 "indexes" ms_indexes := fun base tb => (MethK.pl (by decide) (Callee.of_fn (okR (okOrder_indexes F9 T (cpassed_rows base tb)) b9)) (He.meth_ok (c.fact 19 rfl)) T.cl_Order MethK.nil)
  obtain ⟨fd10, F10⟩ := c.def_ 10 rfl
  have fr10 : ∀ base, TbsOk K mg base → FnR l.prog w K mg base (L2.CX l.prog w) 3 (He.fAd K ("Change", some "__init__")) (spV K m_Change_init) := fun base tb => dfl_of (ds := [(.str "")]) (dvs := [.str ""]) (fun I => (.cons (.str _) .nil)) fun j hj => match j, hj with
      | 0, _ => let ⟨dd, r, b⟩ := FunD.binds1 (ps := ["self", "begin", "end", "new"]) F10 3 0 (List.cons_ne_nil _ _) rfl (fun T kV doc pm an cdv ct us its l1 l2 => match us, l1, its, l2 with | [_, _, _], _, [_], _ => ⟨_, rfl, rfl⟩); FnR.imp (FnOk.raw (okChange_init F10 T (cBadChange base tb)) b r) fun vs H Q E h => h.2
      | 1, _ => let ⟨dd, r, b⟩ := FunD.binds1 (ps := ["self", "begin", "end", "new"]) F10 4 1 (List.cons_ne_nil _ _) rfl (fun T kV doc pm an cdv ct us its l1 l2 => match us, l1, its, l2 with | [_, _, _, _], _, [_], _ => ⟨_, rfl, rfl⟩); FnR.imp (FnOk.raw (okChange_init F10 T (cBadChange base tb)) b r) fun vs H Q E h => h.2
      | j + 2, hj => absurd hj (by simp)
  have cChange : ∀ base, TbsOk K mg base → Cf l.prog w K mg base 4 "Change" (spV K m_Change) := fun base tb => ⟨_, mk_slots T.mk_Change (fr10 base tb), T.gl_Change, T.mk_Change.kp⟩
  obtain ⟨fd11, F11⟩ := c.def_ 11 rfl
  have b11 := FunD.bindsN (ps := ["_law_passes", "_law_rows_here"]) F11 fun _ _ _ _ _ _ us hl => match us, hl with | [_, _], _ => rfl
  have c_law_order : ∀ base, TbsOk K mg base → Cf l.prog w K mg base 1 "_law_order" (spV K m__law_order) := fun base tb => ⟨_, Callee.of_fn (okR (ok_law_order F11 T ) b11), T.gl__law_order, F11.kp⟩
  obtain ⟨fd12, F12⟩ := c.def_ 12 rfl
  have b12 := FunD.bindsN (ps := ["_law_thing"]) F12 fun _ _ _ _ _ _ us hl => match us, hl with | [_], _ => rfl
  have c_law_is_int : ∀ base, TbsOk K mg base → Cf l.prog w K mg base 1 "_law_is_int" (spV K m__law_is_int) := fun base tb => ⟨_, Callee.of_fn (okR (ok_law_is_int F12 T ) b12), T.gl__law_is_int, F12.kp⟩
  obtain ⟨fd13, F13⟩ := c.def_ 13 rfl
  have b13 := FunD.bindsN (ps := ["_law_order_here", "_law_passes", "_law_rows_here"]) F13 fun _ _ _ _ _ _ us hl => match us, hl with | [_, _, _], _ => rfl
  have c_law_right : ∀ base, TbsOk K mg base → Cf l.prog w K mg base 5 "_law_right" (spV K m__law_right) := fun base tb => ⟨_, Callee.of_fn (okR (ok_law_right F13 T (k_indexes base tb) (cChange base tb) (c_law_order base tb) (c_law_is_int base tb)) b13), T.gl__law_right, F13.kp⟩
  obtain ⟨fd14, F14⟩ := c.def_ 14 rfl
  refine ⟨fd14, fun s v => FunD.bindsA (ps := ["_law_script"]) F14 (fun _ _ _ _ _ _ us hl => match us, hl with | [_], _ => rfl) s [v] rfl, fun base _ _ tb => ?_⟩
  exact oklaw F14 T (c_law_bag base tb) (c_law_made base tb) (c_law_rows base tb) (c_law_pick base tb) (c_law_right base tb) hl
end Vl
open PySem PySem.W PyProof.Rows in
set_option maxRecDepth 100000 in
set_option maxHeartbeats 0 in
theorem PySem.Challenge.cw_oldplaces_k12_orders_of_handling_holds : PySem.Challenge.rw_oldplaces_k12_orders_of_handling.Holds := by
  w_on; o_law; k_head; (case hw => w_witness2)
  k_fill
  refine Vl.walkT (x := "_law_script") (k := 7) _ rfl rfl ⟨rfl, by decide, by decide⟩ (fun w h Y => PySem.W.km_in_of Y) (fun w h Y => PySem.W.km_tabs_of Y) ?B ?F
  case B =>
    intro w
    kernel_rfl
  case F =>
    intro w mg fa h KX G hmg
    refine' Vl.all_mk (l := PySem.Challenge.rw_oldplaces_k12_orders_of_handling) KX G hmg ?c ?e ?d ?f Vl.law_true
    (case c => show He.obsD Vl.fa Vl.fn _ = He.valD Vl.fn; kernel_rfl)
    (case e => kernel_rfl)
    (case d => kernel_rfl)
    (case f => kernel_rfl)
