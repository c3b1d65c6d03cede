import PyProof.Rows.All
import Wide.All
import OpenK.AllK
import Wide.FinOn
import HandS.Base
import HandS.Call
import HandS.List
import HandS.Comp
import HandS.Ends
import HandS.Dict
import HandS.Iter
import HandS.Text
import HandS.More
import HandS.Words
import HandS.WordsList
import HandS.WordsDict
import HandS.Wide
import HandS.IsInst
import HandS.Exc
import HandS.ExcInit
import HandS.ExcField
import HandS.TryOnly
import HandS.ExcOwn
import HandS.WordsExc
import HandS.Star
import HandS.Slots
import HandS.SlotsOwn
import HandS.ClsMeth
import KE.GoesEnum
import KE.GoesMore
import HandS.HeadHook1
import HandS.HeadHook2
import HandS.HeadHook3
import HandS.Defaults
import HandS.MakeKw
import HandS.MakeKwOnly
import PySem.Challenge.RW_oldplaces_k14_orders_refused
set_option Elab.async false
set_option linter.all false
set_option maxRecDepth 100000
set_option maxHeartbeats 2000000
namespace My
open PySem PySem.Spec PyProof.Rows L2

/-- nothing stands at p (a structure, so that no search reads it as another fact) -/
structure Fr (H : Hp) (p : Addr) : Prop where
  e : H p = none
theorem Fr.ne {H : Hp} {p a : Addr} {o : HO} (n : Fr H p) (h : H a = some o) : p ≠ a := (ne_of_none h n.e).symm
theorem Fr.ne' {H : Hp} {p a : Addr} {o : HO} (n : Fr H p) (h : H a = some o) : a ≠ p := ne_of_none h n.e
/-! ### heaps: all but L is kept -/
structure Xb (L : List Addr) (H H' : Hp) : Prop where
  go : ∀ a o, a ∉ L → H a = some o → H' a = some o
theorem Xb.refl {L : List Addr} (H : Hp) : Xb L H H := ⟨fun _ _ _ h => h⟩
theorem Xb.trans {L : List Addr} {H H1 H2 : Hp} (x : Xb L H H1) (y : Xb L H1 H2) : Xb L H H2 := ⟨fun a o n h => y.go a o n (x.go a o n h)⟩
theorem Xb.weak {L L' : List Addr} {H H' : Hp} (x : Xb L H H') (s : ∀ a, a ∈ L → a ∈ L') : Xb L' H H' := ⟨fun a o n h => x.go a o (fun q => n (s a q)) h⟩
theorem Xb.any {L : List Addr} {H H' : Hp} (x : Xb [] H H') : Xb L H H' := ⟨fun a o _ h => x.go a o (fun q => nomatch q) h⟩
theorem Xb.new {H : Hp} {p : Addr} {o : HO} (hp : H p = none) : Xb [] H (upd H p o) := ⟨fun a u _ e => by
  rw [upd_ne (ne_of_none e hp)]
  exact e⟩
theorem Xb.put {H : Hp} {p : Addr} {o : HO} : Xb [p] H (upd H p o) := ⟨fun a u n e => by
  rw [upd_ne (fun q => n (by rw [q]; exact .head _))]
  exact e⟩
theorem Xb.get0 {H H' : Hp} {a : Addr} {o : HO} (x : Xb [] H H') (h : H a = some o) : H' a = some o := x.go a o (fun q => nomatch q) h
theorem Xb.get1 {b : Addr} {H H' : Hp} {a : Addr} {o : HO} (x : Xb [b] H H') (n : a ≠ b) (h : H a = some o) : H' a = some o := x.go a o (fun q => n (List.mem_singleton.mp q)) h
theorem Xb.get2 {b c : Addr} {H H' : Hp} {a : Addr} {o : HO} (x : Xb [b, c] H H') (n : a ≠ b) (n' : a ≠ c) (h : H a = some o) : H' a = some o := x.go a o (fun q => by
  rcases List.mem_cons.mp q with e | q
  · exact n e
  · exact n' (List.mem_singleton.mp q)) h
theorem Xb.t0 {L : List Addr} {H H1 H2 : Hp} (x : Xb L H H1) (y : Xb [] H1 H2) : Xb L H H2 := x.trans y.any
theorem Xb.t1 {L : List Addr} {c : Addr} {H H1 H2 : Hp} (x : Xb L H H1) (y : Xb [c] H1 H2) (m : c ∈ L) : Xb L H H2 := x.trans (y.weak fun a q => by
  rw [List.mem_singleton.mp q]
  exact m)
theorem Xb.b0 {L : List Addr} {H H1 H2 : Hp} (y : Xb [] H1 H2) (x : Xb L H H1) : Xb L H H2 := x.t0 y
theorem Xb.b1 {L : List Addr} {c : Addr} {H H1 H2 : Hp} (y : Xb [c] H1 H2) (m : c ∈ L) (x : Xb L H H1) : Xb L H H2 := x.t1 y m
/-- what was made within may change -/
theorem Xb.loc {L : List Addr} {p : Addr} {H H1 H2 : Hp} (x : Xb L H H1) (hp : H p = none) (y : Xb [p] H1 H2) : Xb L H H2 := ⟨fun a o n h =>
  y.go a o (fun q => by
    rw [List.mem_singleton] at q
    rw [q, hp] at h
    cases h) (x.go a o n h)⟩
theorem Xb.loc2 {L M : List Addr} {H H1 H2 : Hp} (x : Xb L H H1) (hp : ∀ p, p ∈ M → p ∈ L ∨ H p = none) (y : Xb M H1 H2) : Xb L H H2 := ⟨fun a o n h =>
  y.go a o (fun q => by
    rcases hp a q with k | k
    · exact n k
    · rw [k] at h
      cases h) (x.go a o n h)⟩
theorem Xb.free {L : List Addr} {H H' : Hp} (x : Xb L H H') {l : Addr} (n : l ∉ L) (h : H' l = Option.none) : H l = Option.none := by
  cases q : H l with
  | none => rfl
  | some o =>
    rw [x.go l o n q] at h
    cases h
theorem Xb.bl {L : List Addr} {p : Addr} {H H1 H2 : Hp} (y : Xb [p] H1 H2) (hp : Fr H p) (x : Xb L H H1) : Xb L H H2 := x.loc hp.e y
theorem Xb.free0 {H H' : Hp} {l : Addr} (h : Fr H' l) (x : Xb [] H H') : Fr H l := ⟨x.free (fun q => nomatch q) h.e⟩
theorem Xb.free1 {b : Addr} {H H' : Hp} {l : Addr} (h : Fr H' l) (x : Xb [b] H H') (n : l ≠ b) : Fr H l := ⟨x.free (fun q => n (List.mem_singleton.mp q)) h.e⟩
theorem Xb.locb {L : List Addr} {b p : Addr} {H H1 H2 : Hp} (x : Xb L H H1) (m : b ∈ L) (hp : Fr H p) (y : Xb [b, p] H1 H2) : Xb L H H2 := x.loc2 (fun a q => by
  rcases List.mem_cons.mp q with e | q
  · exact .inl (by rw [e]; exact m)
  · exact .inr (by rw [List.mem_singleton.mp q]; exact hp.e)) y
theorem Xb.seq {K : PySem.W.Frag} {L : List Addr} {H H' : Hp} {a : Addr} {xs : List V} (e : Xb L H H') (n : a ∉ L) (h : SqL K H a xs) : SqL K H' a xs := by
  rcases h with (h | ⟨o, h⟩) | h
  · exact .inl (.inl (e.go _ _ n h))
  · exact .inl (.inr ⟨o, e.go _ _ n h⟩)
  · exact .inr h
theorem Xb.seqT {K : PySem.W.Frag} {L : List Addr} {H H' : Hp} {a : Addr} {xs : List V} (e : Xb L H H') (n : a ∉ L) (h : SqT K H a xs) : SqT K H' a xs := by
  rcases h with (h | ⟨o, h⟩) | h
  · exact .inl (.inl (e.go _ _ n h))
  · exact .inl (.inr ⟨o, e.go _ _ n h⟩)
  · exact .inr h

theorem Xb.seq0 {K : PySem.W.Frag} {H H' : Hp} {a : Addr} {xs : List V} (e : Xb [] H H') (h : SqL K H a xs) : SqL K H' a xs := e.seq (fun q => nomatch q) h
theorem Xb.seqT0 {K : PySem.W.Frag} {H H' : Hp} {a : Addr} {xs : List V} (e : Xb [] H H') (h : SqT K H a xs) : SqT K H' a xs := e.seqT (fun q => nomatch q) h
/-! ### readings weakened -/
section
variable {X : Cx}
def mE (t : TE) : TE := fun σ H Q => ∃ Q0 : VK, t σ H Q0 ∧ ∀ v H', Q0 v H' → Q v H'
def mA (t : TA) : TA := fun σ H Q => ∃ Q0 : List V → Hp → Prop, t σ H Q0 ∧ ∀ v H', Q0 v H' → Q v H'
theorem pe_m {e : Expr} {t : TE} (h : PE X e t) : PE X e (mE t) := ⟨fun pins s σ H Q I ⟨Q0, hw, m⟩ =>
  thn (h.run pins s σ H Q0 I hw) fun v s1 ⟨x, H1, I1, r1, q1⟩ => ⟨x, H1, I1, r1, m _ _ q1⟩⟩
theorem pa_m {es : List Expr} {t : TA} (h : PA X es t) : PA X es (mA t) := ⟨fun pos pins s σ H Q I ⟨Q0, hw, m⟩ =>
  thn (h.run pos pins s σ H Q0 I hw) fun v s1 ⟨x, H1, I1, r1, q1⟩ => ⟨x, H1, I1, r1, m _ _ q1⟩⟩
theorem pe_imp {e : Expr} {t t' : TE} (h : PE X e t) (k : ∀ σ H Q, t' σ H Q → t σ H Q) : PE X e t' := ⟨fun pins s σ H Q I hw => h.run pins s σ H Q I (k σ H Q hw)⟩
theorem ps_imp {e : Stmt} {t t' : TS} (h : PS X e t) (k : ∀ D σ H, t' D σ H → t D σ H) : PS X e t' := ⟨fun pins s σ H D I hw => h.run pins s σ H D I (k D σ H hw)⟩

/-! ### displays, with the heap behind them told by what stands in it -/
def nLst (xs : List V) (H1 : Hp) (Q : VK) : Prop := xs.length ≤ sizeLine ∧ ∀ p H', Fr H1 p → Xb [] H1 H' → H' p = some (.lst xs) → Q (.ref p) H'
def nTup (xs : List V) (H1 : Hp) (Q : VK) : Prop := xs.length ≤ sizeLine ∧ ∀ p H', Fr H1 p → Xb [] H1 H' → H' p = some (.tup xs) → Q (.ref p) H'
def xLst (t : TA) : TE := fun σ H Q => t σ H fun xs H1 => nLst xs H1 Q
def xTup (t : TA) : TE := fun σ H Q => t σ H fun xs H1 => nTup xs H1 Q
theorem px_lst {es : List Expr} {t : TA} {pos : Pos} (ha : PA X es t) : PE X (.List es pos) (xLst t) :=
  pe_imp (pe_lst (pa_m ha)) fun σ H Q h => ⟨_, h, fun v H' q => ⟨q.1, fun p hp => q.2 p _ ⟨hp⟩ (Xb.new hp) upd_same⟩⟩
theorem px_tup {es : List Expr} {t : TA} {k : Nat} {pos : Pos} (ha : PA X es t) : PE X (.Tuple es k pos) (xTup t) :=
  pe_imp (pe_tup (pa_m ha)) fun σ H Q h => ⟨_, h, fun v H' q => ⟨q.1, fun p hp => q.2 p _ ⟨hp⟩ (Xb.new hp) upd_same⟩⟩
end

section
variable {X : Cx}
/-! ### by values: new objects, written objects -/
abbrev nL (xs : List V) (H : Hp) (Q : VK) : Prop := ∀ (p : Addr) (H' : Hp), Fr H p → Xb [] H H' → H' p = some (.lst xs) → Q (.ref p) H'
abbrev nT (xs : List V) (H : Hp) (Q : VK) : Prop := ∀ (p : Addr) (H' : Hp), Fr H p → Xb [] H H' → H' p = some (.tup xs) → Q (.ref p) H'
abbrev wL (l : Addr) (xs : List V) (H : Hp) (Q : Hp → Prop) : Prop := ∀ H' : Hp, Xb [l] H H' → H' l = some (.lst xs) → Q H'
theorem nL.of {xs : List V} {H : Hp} {Q : VK} (k : nL xs H Q) : ∀ p, H p = none → Q (.ref p) (upd H p (.lst xs)) := fun p hp => k p _ ⟨hp⟩ (Xb.new hp) upd_same
theorem nT.of {xs : List V} {H : Hp} {Q : VK} (k : nT xs H Q) : ∀ p, H p = none → Q (.ref p) (upd H p (.tup xs)) := fun p hp => k p _ ⟨hp⟩ (Xb.new hp) upd_same
theorem cx_list : CallR X (.type "list") (fun xs H Q => ∃ p, xs = [.ref p] ∧ ∃ ys, (SqL X.K H p ys ∨ SqT X.K H p ys) ∧ nL ys H Q) := fun pins s σ H xs us Q I r ⟨p, e, ys, h, k⟩ =>
  call_list_of pins s σ H xs us Q I r ⟨p, ys, e, h, k.of⟩
theorem cx_tuple : CallR X (.type "tuple") (fun xs H Q => ∃ p, xs = [.ref p] ∧ ∃ ys, SqL X.K H p ys ∧ nT ys H Q) := fun pins s σ H xs us Q I r ⟨p, e, ys, h, k⟩ =>
  call_tuple_of pins s σ H xs us Q I r ⟨p, ys, e, .inl ⟨h, k.of⟩⟩
theorem mx_append : MtR X "list.append" (fun x vs H Q => ∃ l y, x = .ref l ∧ vs = [y] ∧ ∃ xs, H l = some (.lst xs) ∧ xs.length < sizeLine ∧ wL l (xs ++ [y]) H (Q .non)) := fun pins s σ H x xs v us Q I rx r ⟨l, y, e1, e2, ys, h, n, k⟩ =>
  mt_append pins s σ H x xs v us Q I rx r ⟨l, ys, y, e1, e2, h, n, k _ Xb.put upd_same⟩
theorem setx_list : PSet X (fun o i v H Q => ∃ p k, o = .ref p ∧ i = .int k ∧ ∃ xs j, H p = some (.lst xs) ∧ ixN xs.length k = some j ∧ wL p (xs.set j v) H Q) := fun pins s σ H o i v ov iv u Q I ro ri rv ⟨p, k, e1, e2, xs, j, h, hj, q⟩ =>
  set_list pins s σ H o i v ov iv u Q I ro ri rv ⟨p, xs, k, j, e1, e2, h, hj, q _ Xb.put upd_same⟩
theorem ox_cat : OpR X (binaryOp .Add) (fun x y H Q => ∃ l b, x = .ref l ∧ y = .ref b ∧ ∃ xs zs, H l = some (.lst xs) ∧ H b = some (.lst zs) ∧ xs.length + zs.length ≤ sizeLine ∧ nL (xs ++ zs) H Q) := fun pins s σ H x y v u Q I rx ry ⟨l, b, e1, e2, xs, zs, h1, h2, n, k⟩ =>
  op_cat pins s σ H x y v u Q I rx ry ⟨l, b, xs, zs, e1, e2, h1, h2, n, k.of⟩
theorem ox_catT : OpR X (binaryOp .Add) (fun x y H Q => ∃ l b, x = .ref l ∧ y = .ref b ∧ ∃ xs zs, SqT X.K H l xs ∧ SqT X.K H b zs ∧ xs ≠ [] ∧ zs ≠ [] ∧ xs.length + zs.length ≤ sizeLine ∧ nT (xs ++ zs) H Q) := fun pins s σ H x y v u Q I rx ry ⟨l, b, e1, e2, xs, zs, h1, h2, n1, n2, n, k⟩ =>
  op_catT pins s σ H x y v u Q I rx ry ⟨l, b, xs, zs, e1, e2, h1, h2, n1, n, fun e => (n2 e).elim, fun _ => k.of⟩
theorem sx_list : SlR X (fun x lo hi H Q => ∃ a, x = .ref a ∧ ∃ xs, SqL X.K H a xs ∧ nL (cutV xs lo hi) H Q) := fun pins s σ H x v vl vu lo hi sl Q I rx hs pl pu ⟨a, e, xs, h, k⟩ =>
  sl_list pins s σ H x v vl vu lo hi sl Q I rx hs pl pu ⟨a, xs, e, h, k.of⟩
theorem mx_split : MtR X "str.split" (fun x xs H Q => ∃ a b, x = .str a ∧ xs = [.str b] ∧ (b.length == 0) = false ∧ a.length + 2 ≤ sizeLine ∧ nL ((Txt.split a b).map V.str) H Q) := fun pins s σ H x xs v us Q I rx r ⟨a, b, e1, e2, h1, h2, k⟩ =>
  mt_split pins s σ H x xs v us Q I rx r ⟨a, b, e1, e2, h1, h2, k.of⟩
theorem px_split {o e : Expr} {to te : TE} {apos pos : Pos} (ho : PE X o to) (he : PE X e te) (hs : starEach [e] X.env = [(false, eval e X.env)] := by rfl) (hbase : attributeBase o "split" X.env (eval o X.env) = eval o X.env := by rfl) (hline : (apos.endLine == pos.line) = true := by rfl) :
    PE X (.Call (.Attribute o "split" apos) [e] [] pos) (tM1 (fun x xs H Q => ∃ a b, x = .str a ∧ xs = [.str b] ∧ (b.length == 0) = false ∧ a.length + 2 ≤ sizeLine ∧ nL ((Txt.split a b).map V.str) H Q) to te) :=
  pe_m1 F.slot_str_split F.type_str_split mx_split ho he hs hbase hline
theorem px_dnew {pos : Pos} : PE X (.Dict [] [] pos) (fun σ H Q => ∀ (p : Addr) (H' : Hp), Fr H p → Xb [] H H' → H' p = some (.dK []) → Q (.ref p) H') :=
  pe_imp pe_dnewK fun σ H Q k p hp => k p _ ⟨hp⟩ (Xb.new hp) upd_same
theorem cx_listD (hc : X.calm = true) : CallR X (.type "list") (fun xs H Q => ∃ a, xs = [.ref a] ∧ ∃ kvs : List (Key × V), Rd H a (.dK kvs) ∧ nL (kvs.map fun kv => kV kv.1) H Q) := fun pins s σ H xs us Q I r ⟨a, e, kvs, h, k⟩ =>
  call_listD hc pins s σ H xs us Q I r ⟨a, kvs, e, h, k.of⟩

/-- xs[i] of a list, 0 ≤ i: for xs[i] += e -/
def gLst (K : PySem.W.Frag) : V → V → Hp → VK → Prop := fun x y H Q => ∃ p xs i v, x = .ref p ∧ y = .int i ∧ SqL K H p xs ∧ (0 ≤ i ∧ i < 2 ^ 62) ∧ xs[i.toNat]? = some v ∧ Q v H
theorem get_lst : PGet X (gLst X.K) := by
  intro pins s σ H o i ov iv Q I ro ri h
  obtain ⟨p, xs, i, v, rfl, rfl, hq, ⟨h0, h1⟩, hx, q⟩ := h
  cases ro
  obtain ⟨t, rfl⟩ := ri
  obtain ⟨its, r, pl, hz⟩ := I.list hq
  obtain ⟨w, ew, rw'⟩ := r.get hx
  exact wpAny_getItem_list pl.isList h0 (by omega) (by simpa using ew) ⟨v, H, I, rw', q⟩
/-- what follows a statement is shown once, from Mid -/
def tMid (t : TS) : TS := fun D σ H => ∃ Mid : L2.St → Hp → Prop, t { D with nx := Mid } σ H ∧ ∀ σ' H', Mid σ' H' → D.nx σ' H'
theorem ps_mid {st : Stmt} {t : TS} (h : PS X st t) : PS X st (tMid t) := by
  refine ⟨fun pins s σ H D I ⟨Mid, hm, hu⟩ => thn (h.run pins s σ H { D with nx := Mid } I hm) fun f s1 q => ?_⟩
  cases f with
  | next =>
    obtain ⟨σ', H', I', q⟩ := q
    exact ⟨σ', H', I', hu σ' H' q⟩
  | ret v => exact q
  | brk => exact q
  | cont => exact q
end
/-! ### a def that may be called by its name -/
structure Cl (P : Program) (w : World) (K : PySem.W.Frag) (mg : Str → Option Value) (base : Heap) (k : Nat) (x : Str) (sp : Sp) : Prop where
  ex : ∃ (f : Addr) (fd : FuncData) (ps : List Str), FnOk P w K mg base CX0 k f fd ps sp ∧ mg x = some (.ref f) ∧ PySem.W.keepIn K (.ref f) = true ∧ Binds K fd ps []
section
variable {X : Cx} {k j : Nat} {x : Str} {sp : Sp} {p pos : Pos} {e : Expr} {es : List Expr} {t : TA}
theorem pc (c : Cl X.prog X.w X.K X.mg X.base k x sp) (hr : Room j X.A) (hg : Gl X x) (ha : PA X (e :: es) t) (hk : k ≤ j := by decide)
    (hdb : (x == ("__debug__" : Str)) = false := by decide) (he : starEach (e :: es) X.env = (false, eval e X.env) :: starEach es X.env := by rfl) (hpl : (backTo pos (starEach es X.env)).any (·.1) = false := by rfl) :
    PE X (.Call (.Name x p) (e :: es) [] pos) (tCall sp [] E0 t) := by
  obtain ⟨f, fd, ps, F, hm, kp, b⟩ := c.ex
  exact pe_call F (hr.mono hk) hg hm kp b .nil pass0 ha hdb he hpl
theorem pc0 (c : Cl X.prog X.w X.K X.mg X.base k x sp) (hr : Room j X.A) (hg : Gl X x) (hk : k ≤ j := by decide) (hdb : (x == ("__debug__" : Str)) = false := by decide) :
    PE X (.Call (.Name x p) [] [] pos) (tCall sp [] E0 tNil) := by
  obtain ⟨f, fd, ps, F, hm, kp, b⟩ := c.ex
  exact pe_call0 F (hr.mono hk) hg hm kp b .nil pass0 hdb
end
theorem sz {n : Nat} (h : n ≤ 100000) : n ≤ sizeLine := Nat.le_trans h (by decide)
theorem sz_lt {n : Nat} (h : n < 100000) : n < sizeLine := Nat.lt_of_lt_of_le h (by decide)

/-! ### the bag that the laws draw from: the script's cells, the next one's place, a great number, a state -/
structure BagS (b l : Addr) (H : Hp) (ns : List Int) (i g st : Int) : Prop where
  hb : H b = some (.lst [.ref l, .int i, .int g, .int st])
  hl : H l = some (.lst (ns.map V.int))
  len : ns.length ≤ 63
  i0 : 0 ≤ i
  iN : i ≤ 63
  g0 : 0 ≤ g
  s0 : 0 ≤ st
  sN : st < 2147483629
structure Bag (b l : Addr) (H : Hp) : Prop where
  ne : l ≠ b
  ex : ∃ (ns : List Int) (i g st : Int), BagS b l H ns i g st
theorem Bag.b {b l : Addr} {H : Hp} (h : Bag b l H) : ∃ xs, H b = some (.lst xs) := by
  obtain ⟨_, ns, i, g, st, B⟩ := h
  exact ⟨_, B.hb⟩
theorem Bag.l {b l : Addr} {H : Hp} (h : Bag b l H) : ∃ xs, H l = some (.lst xs) := by
  obtain ⟨_, ns, i, g, st, B⟩ := h
  exact ⟨_, B.hl⟩
theorem Bag.neb {b l p : Addr} {H : Hp} (hp : Fr H p) (h : Bag b l H) : p ≠ b := by
  obtain ⟨xs, e⟩ := h.b
  exact (ne_of_none e hp.e).symm
theorem Bag.nel {b l p : Addr} {H : Hp} (hp : Fr H p) (h : Bag b l H) : p ≠ l := by
  obtain ⟨xs, e⟩ := h.l
  exact (ne_of_none e hp.e).symm
theorem Bag.netb {b l p : Addr} {H : Hp} {xs : List V} (hp : H p = some (.tup xs)) (h : Bag b l H) : p ≠ b := by
  obtain ⟨ys, e⟩ := h.b
  exact ne_of hp e (fun q => nomatch q)
theorem Bag.keep {L : List Addr} {b l : Addr} {H H' : Hp} (h : Bag b l H) (x : Xb L H H') (nb : b ∉ L) (nl : l ∉ L) : Bag b l H' := by
  obtain ⟨n, ns, i, g, st, B⟩ := h
  exact ⟨n, ns, i, g, st, x.go b _ nb B.hb, x.go l _ nl B.hl, B.len, B.i0, B.iN, B.g0, B.s0, B.sN⟩
theorem Bag.keep0 {b l : Addr} {H H' : Hp} (x : Xb [] H H') (h : Bag b l H) : Bag b l H' := h.keep x (fun q => nomatch q) fun q => nomatch q
theorem Bag.keep1 {b l p : Addr} {H H' : Hp} (x : Xb [p] H H') (nb : p ≠ b) (nl : p ≠ l) (h : Bag b l H) : Bag b l H' :=
  h.keep x (fun q => nb (List.mem_singleton.mp q).symm) fun q => nl (List.mem_singleton.mp q).symm
/-- a new bag of the script -/
def spBag (K : PySem.W.Frag) : Sp := fun vs H Q _ => ∃ a, vs = [.ref a] ∧ ∃ ns : List Int, SqL K H a (ns.map V.int) ∧ ns.length ≤ 63 ∧
  ∀ (b l : Addr) (H' : Hp), Bag b l H' → Xb [] H H' → Q (.ref b) H'
/-- a limit of a draw -/
def LimOk (lim : Int) : Prop := 0 < lim ∧ lim.natAbs < 2 ^ 250
theorem LimOk.of {lim : Int} (h : (decide (0 < lim) && Nat.blt lim.natAbs (2 ^ 250)) = true) : LimOk lim := by
  rw [Bool.and_eq_true] at h
  exact ⟨of_decide_eq_true h.1, Nat.blt_eq.mp h.2⟩
theorem LimOk.le {lim : Int} (h0 : 0 < lim) (h1 : lim ≤ 1000000000) : LimOk lim := ⟨h0, Nat.lt_of_le_of_lt (by omega : lim.natAbs ≤ 1000000000) (by decide)⟩
/-- a number from 0 to lim - 1 -/
def spPick : Sp := fun vs H Q _ => ∃ (b : Addr) (lim : Int), vs = [.ref b, .int lim] ∧ ∃ l, Bag b l H ∧ LimOk lim ∧
  ∀ (n : Int) (H' : Hp), Xb [b] H H' → Bag b l H' → 0 ≤ n → n < lim → Q (.int n) H'

/-! ### an item at a place that is not written -/
def isIV : V → Bool | .int _ => true | _ => false
def isSV : V → Bool | .str _ => true | _ => false
theorem atI_in {xs : List V} {n : Int} (h0 : 0 ≤ n) (h1 : n < xs.length) : ∃ v, atI xs n = some v ∧ v ∈ xs := by
  have h : n.toNat < xs.length := by omega
  exact ⟨xs[n.toNat], at_of (j := n.toNat) (by omega) (List.getElem?_eq_getElem h), List.getElem_mem h⟩
section
variable {K : PySem.W.Frag} {p : Addr} {i : Int} {H : Hp} {xs : List V} {Q : VK}
theorem rd_ixI (hq : SqL K H p xs) (h0 : 0 ≤ i) (h1 : i < xs.length) (hs : xs.all isIV = true) (k : ∀ z, V.int z ∈ xs → Q (.int z) H) : rIxL K (.ref p) (.int i) H Q := by
  obtain ⟨v, e, m⟩ := atI_in h0 h1
  have hv := List.all_eq_true.mp hs v m
  cases v with
  | int z => exact ⟨p, xs, i, _, rfl, rfl, hq, e, k z m⟩
  | _ => cases hv
theorem rd_ixS (hq : SqL K H p xs) (h0 : 0 ≤ i) (h1 : i < xs.length) (hs : xs.all isSV = true) (k : ∀ z, V.str z ∈ xs → Q (.str z) H) : rIxL K (.ref p) (.int i) H Q := by
  obtain ⟨v, e, m⟩ := atI_in h0 h1
  have hv := List.all_eq_true.mp hs v m
  cases v with
  | str z => exact ⟨p, xs, i, _, rfl, rfl, hq, e, k z m⟩
  | _ => cases hv
theorem rd_ixN {ns : List Int} (hq : SqL K H p (ns.map V.int)) (h0 : 0 ≤ i) (h1 : i < ns.length) (k : ∀ z, z ∈ ns → Q (.int z) H) : rIxL K (.ref p) (.int i) H Q :=
  rd_ixI hq h0 (by rw [List.length_map]; exact h1) (by rw [List.all_map]; exact List.all_eq_true.mpr fun _ _ => rfl) fun z m => by
    obtain ⟨y, hy, e⟩ := List.mem_map.mp m
    cases e
    exact k z hy
end
theorem map_snoc {α : Type} (f : α → V) (xs : List α) (y : α) : xs.map f ++ [f y] = (xs ++ [y]).map f := by rw [List.map_append]; rfl

/-! ### a comprehension's list told apart -/
def LcI (Pv : Nat → Hp → List V → Prop) (D : Addr) (i : Nat) (H : Hp) : Prop := ∃ acc, H D = some (.lst acc) ∧ Pv i H acc
theorem LcI.start {Pv : Nat → Hp → List V → Prop} {D : Addr} {H : Hp} (hD : H D = none) (k : ∀ H', Fr H D → Xb [] H H' → H' D = some (.lst []) → Pv 0 H' []) : LcI Pv D 0 (upd H D (.lst [])) :=
  ⟨[], upd_same, k _ ⟨hD⟩ (Xb.new hD) upd_same⟩
theorem LcI.put {Pv : Nat → Hp → List V → Prop} {D : Addr} {j : Nat} {H : Hp} {acc : List V} {y : V} (k : ∀ H', Xb [D] H H' → H' D = some (.lst (acc ++ [y])) → Pv j H' (acc ++ [y])) : LcI Pv D j (upd H D (.lst (acc ++ [y]))) :=
  ⟨_, upd_same, k _ Xb.put upd_same⟩

theorem ite_T {c A B : Prop} [Decidable c] (h : c) (a : A) : if c then A else B := by
  rw [if_pos h]
  exact a
theorem ite_F {c A B : Prop} [Decidable c] (h : ¬ c) (b : B) : if c then A else B := by
  rw [if_neg h]
  exact b
theorem cx_int {X : Cx} : CallR X (.type "int") (fun xs H Q => ∃ i, xs = [.int i] ∧ Q (.int i) H) := fun pins s σ H xs us Q I r h => call_int1 pins s σ H xs us Q I r (.inl h)

/-! ### texts -/
theorem join4 (a b c d : Str) : Txt.join "" [a, b, c, d] = a ++ b ++ c ++ d := by
  rw [TL.join_eq]
  show a ++ Str.empty ++ (b ++ Str.empty ++ (c ++ Str.empty ++ d)) = _
  rw [PySem.Str.append_empty, PySem.Str.append_empty, PySem.Str.append_empty, PySem.Str.append_assoc, PySem.Str.append_assoc]
theorem lt_irr : ∀ l : List Nat, ltCps l l = false
  | [] => rfl
  | a :: r => by simp [ltCps, lt_irr r]
theorem le_anti : ∀ {a b : List Nat}, ltCps a b = false → ltCps b a = false → a = b
  | [], [], _, _ => rfl
  | [], _ :: _, h, _ => by simp [ltCps] at h
  | _ :: _, [], _, h => by simp [ltCps] at h
  | x :: a, y :: b, h, h' => by
    simp only [ltCps, Bool.or_eq_false_iff, decide_eq_false_iff_not, Bool.and_eq_false_iff, beq_eq_false_iff_ne] at h h'
    have e : x = y := by omega
    subst e
    rw [le_anti (h.2.resolve_left fun q => q rfl) (h'.2.resolve_left fun q => q rfl)]
theorem le_trans' : ∀ {a b c : List Nat}, ltCps b a = false → ltCps c b = false → ltCps c a = false
  | [], _, [], _, _ => rfl
  | [], [], _ :: _, _, h => by simp [ltCps] at h ⊢
  | [], _ :: _, _ :: _, _, _ => by simp [ltCps]
  | _ :: _, [], _, h, _ => by simp [ltCps] at h
  | _ :: _, _ :: _, [], _, h => by simp [ltCps] at h
  | x :: a, y :: b, z :: c, h, h' => by
    simp only [ltCps, Bool.or_eq_false_iff, decide_eq_false_iff_not, Bool.and_eq_false_iff, beq_eq_false_iff_ne] at h h' ⊢
    refine ⟨by omega, ?_⟩
    by_cases e : z = x
    · have e1 : y = x := by omega
      subst e e1
      exact .inr (le_trans' (h.2.resolve_left fun q => q rfl) (h'.2.resolve_left fun q => q rfl))
    · exact .inl e
theorem rising_pw : ∀ {l : List Str} {p : Str}, risingS p l = true → (p :: l).Pairwise (fun a b => ltCps b.cps.toList a.cps.toList = false)
  | [], _, _ => List.pairwise_singleton _ _
  | x :: r, p, h => by
    simp only [risingS, Bool.and_eq_true, Bool.not_eq_true'] at h
    have ih := rising_pw h.2
    refine .cons (fun b hb => ?_) ih
    rcases List.mem_cons.mp hb with e | m
    · rw [e]
      exact h.1
    · exact le_trans' h.1 ((List.pairwise_cons.mp ih).1 b m)
theorem sorted_pw {l : List Str} (h : sortedS l = true) : l.Pairwise (fun a b => ltCps b.cps.toList a.cps.toList = false) := by
  cases l with
  | nil => exact .nil
  | cons x r => exact rising_pw h
theorem sorted_same {a b : List Str} (hp : a.Perm b) (ha : sortedS a = true) (hb : sortedS b = true) : a = b :=
  hp.eq_of_pairwise (fun x y _ _ h1 h2 => PySem.Str.ext' (Array.toList_inj.mp (le_anti h2 h1))) (sorted_pw ha) (sorted_pw hb)
section
variable {X : Cx}
theorem cx_sortedS : CallR X (.builtin "sorted") (fun vs H Q => ∃ a, vs = [V.ref a] ∧ ∃ xs : List Str, SqL X.K H a (xs.map V.str) ∧ xs.length < 64 ∧ ∀ (ys : List Str) (p : Addr) (H' : Hp), ys.Perm xs → sortedS ys = true → Fr H p → Xb [] H H' → H' p = some (.lst (ys.map V.str)) → Q (.ref p) H') :=
  fun pins s σ H xs us Q I r ⟨a, e, zs, h, n, k⟩ => cr_sortedS pins s σ H xs us Q I r ⟨a, zs, e, h, n, fun ys p h1 h2 hp => k ys p _ h1 h2 ⟨hp⟩ (Xb.new hp) upd_same⟩
/-- d[z] = v, z a text -/
theorem setx_dictS (hu : X.A.units + 1 < cLine) : PSet X (fun o i v H Q => ∃ a z, o = .ref a ∧ i = .str z ∧ ∃ kvs, H a = some (.dK kvs) ∧ kvs.length < sizeLine ∧ ∀ H', Xb [a] H H' → H' a = some (.dK (putK kvs (.inr z) v)) → Q H') :=
  fun pins s σ H o i v ov iv u Q I ro ri rv ⟨a, z, e1, e2, kvs, h, n, k⟩ => by
    subst e1 e2
    cases ro
    exact d_setItem hu I (DPut.k (k := .inr z) h n) ri rv fun s4 I4 => ⟨_, I4, k _ Xb.put upd_same⟩
end
/-! ### lists of pairs of ints -/
def PairAt (H : Hp) (v : V) (p : Int × Int) : Prop := ∃ a, v = .ref a ∧ H a = some (.tup [.int p.1, .int p.2])
abbrev Pairs (H : Hp) (xs : List V) (ps : List (Int × Int)) : Prop := Paired (PairAt H) xs ps
theorem PairAt.keep {H H' : Hp} {v : V} {p : Int × Int} (x : Xb [] H H') (h : PairAt H v p) : PairAt H' v p := by
  obtain ⟨a, e, h⟩ := h
  exact ⟨a, e, x.get0 h⟩
theorem Pairs.keep {H H' : Hp} {xs : List V} {ps : List (Int × Int)} (x : Xb [] H H') (h : Pairs H xs ps) : Pairs H' xs ps := L2.Paired.mapP h fun _ _ q => q.keep x
theorem Pairs.snoc {H : Hp} {xs : List V} {ps : List (Int × Int)} {v : V} {p : Int × Int} (h : Pairs H xs ps) (q : PairAt H v p) : Pairs H (xs ++ [v]) (ps ++ [p]) := Paired.snoc h q
theorem paired_app {α β : Type} {F : α → β → Prop} : ∀ {a c : List α} {b d : List β}, Paired F a b → Paired F c d → Paired F (a ++ c) (b ++ d)
  | _, _, _, _, .nil, h => h
  | _, _, _, _, .cons f t, h => .cons f (paired_app t h)
theorem paired_len {α β : Type} {F : α → β → Prop} : ∀ {a : List α} {b : List β}, Paired F a b → a.length = b.length
  | _, _, .nil => rfl
  | _, _, .cons _ t => by rw [List.length_cons, List.length_cons, paired_len t]
theorem paired_get {α β : Type} {F : α → β → Prop} : ∀ {a : List α} {b : List β} {i : Nat} {x : α}, Paired F a b → a[i]? = some x → ∃ y, b[i]? = some y ∧ F x y
  | _, _, _, _, .nil, e => by simp at e
  | _, _, 0, _, .cons f _, e => by
    simp at e
    subst e
    exact ⟨_, rfl, f⟩
  | _, _, i + 1, x, .cons _ t, e => by
    obtain ⟨y, h1, h2⟩ := paired_get (i := i) (x := x) t (by simpa using e)
    exact ⟨y, by simpa using h1, h2⟩

theorem PairAt.keepd {H H' : Hp} {v : V} {p : Int × Int} {d : Addr} {kvs : List (Key × V)} (x : Xb [d] H H') (hd : H d = some (.dK kvs)) (h : PairAt H v p) : PairAt H' v p := by
  obtain ⟨a, e, h⟩ := h
  exact ⟨a, e, x.get1 (ne_of h hd fun q => nomatch q) h⟩
theorem Pairs.keepd {H H' : Hp} {xs : List V} {ps : List (Int × Int)} {d : Addr} {kvs : List (Key × V)} (x : Xb [d] H H') (hd : H d = some (.dK kvs)) (h : Pairs H xs ps) : Pairs H' xs ps := L2.Paired.mapP h fun _ _ q => q.keepd x hd
theorem putK_len {kvs : List (Key × V)} {k : Key} {v : V} : (putK kvs k v).length ≤ kvs.length + 1 := by
  unfold putK
  split
  · rw [List.length_map]
    omega
  · rw [List.length_append]
    exact Nat.le_refl _
theorem dp_strs {K : PySem.W.Frag} {H : Hp} : ∀ ss : List Str, DpAll K H (ss.map V.str) (ss.map PyData.str)
  | [] => .nil
  | z :: r => .cons (.str z) (dp_strs r)
theorem in_strs {z : Str} {ss : List Str} (h : z ∈ ss) : inV (.str z) (ss.map V.str) = true := by
  unfold inV
  rw [List.any_map, List.any_eq_true]
  exact ⟨z, h, by show eqV (.str z) (.str z) = true; simp [eqV]⟩
theorem PairAt.keepl {H H' : Hp} {v : V} {p : Int × Int} {d : Addr} {ys : List V} (x : Xb [d] H H') (hd : H d = some (.lst ys)) (h : PairAt H v p) : PairAt H' v p := by
  obtain ⟨a, e, h⟩ := h
  exact ⟨a, e, x.get1 (ne_of h hd fun q => nomatch q) h⟩
theorem Pairs.keepl {H H' : Hp} {xs : List V} {ps : List (Int × Int)} {d : Addr} {ys : List V} (x : Xb [d] H H') (hd : H d = some (.lst ys)) (h : Pairs H xs ps) : Pairs H' xs ps := L2.Paired.mapP h fun _ _ q => q.keepl x hd
end My

set_option Elab.async false
set_option linter.all false
set_option maxRecDepth 100000
set_option maxHeartbeats 4000000
namespace My
open PySem PySem.Spec PyProof.Rows L2

/-! ### enumerate(t), t a tuple -/
theorem meets_enum1 {v : Value} {o : Obj} {H : Heap → Prop} (B : Begins v o H) :
    Meets (Builtin.«enumerate.__new__» ⟨[.type "enumerate", v], []⟩) (fun _ R s => H s.heap ∧
      R (.ok (.ret (.ref (s.heap.push o).objs.size))) { s with heap := (s.heap.push o).push { cls := .type "enumerate", data := .fields #[.none, .bool false, .ref s.heap.objs.size, rawInt 0, .none, .none] } }) :=
  .of_wp fun prog w A R s h => by
    obtain ⟨hp, g, d, tk, os⟩ := s; obtain ⟨h1, h⟩ := h
    have hsub := sub_enumerate
    have q1 : ∀ {A' : Around} {E : Value → Shared → Prop} {Q : Value → Shared → Prop}, Q (.ref hp.objs.size) ⟨hp.push o, g, d, tk, os⟩ → wpAny (model prog w) A' (pyIter v) Q E ⟨hp, g, d, tk, os⟩ :=
      fun q => B.iter prog w _ _ ⟨hp, g, d, tk, os⟩ _ h1 q
    wp_walk using q1
    refine wpAny_stack_any fun st => wpAny_pure ?_
    split
    · rename_i c _ _ _ _ _
      cases (c == Value.type "enumerate")
      all_goals
        wp_walk using q1
        exact ⟨_, rfl, h⟩
    · wp_walk using q1
      exact ⟨_, rfl, h⟩
theorem call_enum1 {prog : Program} {w : World} {A : Around} {E : Value → Shared → Prop} {s : Shared} {v : Value} {o : Obj} {H : Heap → Prop} {Q : Value → Shared → Prop} (B : Begins v o H) (h1 : H s.heap)
    (h : ∀ h', IsEnum h' (s.heap.objs.size + 1) s.heap.objs.size 0 .none → h'.get? s.heap.objs.size = some o → h'.objs.size = s.heap.objs.size + 2 →
      (∀ b o, s.heap.get? b = some o → h'.get? b = some o) → Q (.ref (s.heap.objs.size + 1)) { s with heap := h' }) :
    wpAny (model prog w) A (call (.type "enumerate") [v]) Q E s := by
  refine callType_new F.called_enumerate (by decide) (F.typeCall_enumerate_1 _) (F.newCall_enumerate_1 _) (fun obj => F.args_object_init_2 obj _) F.entry_enumerate_new (meets_enum1 B) ⟨h1, ?_⟩
  have hz : (s.heap.push o).objs.size = s.heap.objs.size + 1 := Heap.size_push ..
  show _ ∧ _
  rw [hz]
  have he : IsEnum ((s.heap.push o).push { cls := .type "enumerate", data := .fields #[.none, .bool false, .ref s.heap.objs.size, rawInt 0, .none, .none] }) (s.heap.objs.size + 1) s.heap.objs.size 0 .none := by
    have e := Heap.get?_push_size (s.heap.push o) (o := { cls := .type "enumerate", data := .fields #[.none, .bool false, .ref s.heap.objs.size, rawInt 0, .none, .none] }) rfl
    rw [hz] at e
    exact e
  exact ⟨⟨_, he, rfl⟩, h _ he (Heap.get?_push_of_some _ (Heap.get?_push_size _ B.free)) (by rw [Heap.size_push, hz]) fun b o x => Heap.get?_push_of_some _ (Heap.get?_push_of_some _ x)⟩
/-- the tuple at a, each item in a new pair -/
def IteT (K : PySem.W.Frag) (a : Addr) : It :=
  ⟨fun i H => ∃ (xs : List V) (x : V), SqT K H a xs ∧ xs[i]? = some x, fun i H v H' => ∃ T x, v = .ref T ∧ H T = none ∧ H' = upd H T (.tup [.int (i : Nat), x]) ∧ ∀ xs, SqT K H a xs → xs[i]? = some x, fun i H => ∃ xs : List V, SqT K H a xs ∧ xs.length ≤ i⟩
theorem turn_enumT {P : Program} {w : World} {K : PySem.W.Frag} {elts : List Expr} {kk : Nat} {tpos : Pos} (a e it : Addr) :
    Turn P w K (.Tuple elts kk tpos) (IteT K a) [e, it] e (fun i h => (∃ old, IsEnum h e it ((i : Nat) : Int) old) ∧ h.IsTupleIter it a i ∧ e ≠ it ∧ a ≠ it ∧ e ≠ a) where
  mem := by simp
  obj := fun i h st b hb => by
    obtain ⟨⟨old, he⟩, ⟨o, ho, hc, hd⟩, _⟩ := st
    have e' : b = e ∨ b = it := by simpa using hb
    rcases e' with z | z
    · rw [z]; exact ⟨_, he, fun v q => nomatch q⟩
    · rw [z]; exact ⟨o, ho, fun v q => by rw [hd] at q; cases q⟩
  keep := fun i h h' st k => let ⟨⟨old, he⟩, hi, hne⟩ := st; ⟨⟨old, k e (by simp) _ he⟩, hi.at fun o q => k it (by simp) o q, hne⟩
  item := by
    intro X hP hw hK hc i pins s σ H E I hf st hg
    subst hP hw hK
    obtain ⟨⟨old, he⟩, hit, hne, hai, hea⟩ := st
    obtain ⟨xs, x, hq, hx⟩ := hg
    obtain ⟨its, rv, p, hz⟩ := I.tuple hq
    obtain ⟨u, hu, ru⟩ := rv.get hx
    have hel : e < s.heap.objs.size := Heap.lt_size he
    have hil : it < s.heap.objs.size := by obtain ⟨_, q, _⟩ := hit; exact Heap.lt_size q
    have hlt : i < its.toArray.size := by
      rw [List.size_toArray]
      exact (List.getElem?_eq_some_iff.mp hu).1
    have D := Draws.tuple (prog := X.prog) (w := X.w) (A := X.A.in1) (I.ok.hd hc) it a hai its.toArray
    refine wpAny_pyNext_enum_itemD D he ⟨hit, p⟩ hlt hne (by simp [hne, hea]) fun x' h' tk hx' ho hst hT hsz hk => ?_
    have ex : x' = u := by
      have z : its.toArray[i]? = some u := by simpa using hu
      rw [hx'] at z
      exact Option.some.inj z
    subst ex
    refine ⟨_, rfl, wpAny_letOwnedTupleGo_enum (s := { s with heap := h', toks := tk + 1 }) ho fun h'' he' sb => ?_⟩
    have hT2 : h''.get? s.heap.objs.size = some { cls := .type "tuple", data := .seq #[.int i tk, x'] } := (sb.2 _ (Nat.ne_of_gt hel)).trans hT
    have new : ObjOk X.prog X.w (upd H s.heap.objs.size (.tup [.int (i : Nat), x])) h'' s.heap.objs.size (.tup [.int (i : Nat), x]) :=
      ⟨by show 2 ≤ sizeLine; decide, [.int i tk, x'], .cons ⟨_, rfl⟩ (.cons ru .nil), ⟨_, hT2, rfl, _, rfl⟩⟩
    have I1 : Inv X pins σ (upd H s.heap.objs.size (.tup [.int (i : Nat), x])) { s with heap := h'', toks := tk + 1 } :=
      I.turnedNew (ch := [e, it]) (fun b ob hb q => (sb.2 b (fun z => hb (by simp [z]))).trans (hk b ob (fun z => hb (by simp [z])) (fun z => hb (by simp [z])) q)) hf (Nat.le_refl _) new
    refine ⟨.ref s.heap.objs.size, _, I1, rfl, ⟨_, x, rfl, I.hok.fresh (Nat.le_refl _), rfl, fun ys hy => by rw [I.tuple_inj hy hq]; exact hx⟩, ⟨⟨x', ?_⟩, hst.1.at fun o q => (sb.2 it (Ne.symm hne)).trans q, hne, hai, hea⟩, fun b hb => ?_⟩
    · have e1 : ((i + 1 : Nat) : Int) = (i : Int) + 1 := by omega
      rw [e1]; exact he'
    · have hb' : b < s.heap.objs.size := by
        have e' : b = e ∨ b = it := by simpa using hb
        rcases e' with z | z
        · rw [z]; exact hel
        · rw [z]; exact hil
      rw [upd_ne (Nat.ne_of_lt hb')]
      exact (hf b hb).1
  done := by
    intro X hP hw hK hc i pins s σ H E I hf st hg
    subst hP hw hK
    obtain ⟨⟨old, he⟩, hit, hne, hai, hea⟩ := st
    obtain ⟨xs, hq, hx⟩ := hg
    obtain ⟨its, rv, p, hz⟩ := I.tuple hq
    obtain ⟨f0, f1, f2, f3, f4, f5⟩ := hf it (by simp)
    have hl := rv.length
    have hn : its.toArray[i]? = none := by
      rw [Array.getElem?_eq_none_iff, List.size_toArray]
      omega
    have D : Draws X.prog X.w X.A.in1 it [it, a] i (fun _ _ => False) (fun j h => j = i ∧ h.IsTupleIter it a i ∧ h.IsTuple a its.toArray) := {
      live := fun _ _ st => let ⟨o, ho, _⟩ := st.2.1; ⟨o, ho⟩
      frame := fun _ _ _ st hk => ⟨st.1, st.2.1.at fun o e => hk it (by simp) o e, st.2.2.at fun o e => hk a (by simp) o e⟩
      item := fun j s Q E hj st _ => absurd st.1 (Nat.ne_of_lt hj)
      done := fun s Q E st hE => wpAny_nextOf_tuple_end (I.ok.hd hc) st.2.1 st.2.2 hn hE }
    exact wpAny_pyNext_enum_endD D he ⟨rfl, hit, p⟩ fun h' eb => ⟨rfl, I.turned (t' := s.toks) (fun b o hb q => eb b o hb q) f0 f1 f3 f4 f5⟩
  self := fun A i s Q E st h => let ⟨⟨_, he⟩, _⟩ := st; wpAny_pyIter_enum he h
def iEnumT (K : PySem.W.Frag) (ta : TA) : TI := fun σ H R => ta σ H fun vs H1 => ∃ a xs, vs = [.ref a] ∧ SqT K H1 a xs ∧ R (IteT K a) H1
theorem pi_enumT {X : Cx} {e : Expr} {ta : TA} {p pos tpos : Pos} {elts : List Expr} {kk : Nat} (hg : Gl X "enumerate") (hm : X.mg "enumerate" = none) (ha : PA X [e] ta) (hs : starEach [e] X.env = [(false, eval e X.env)] := by rfl) :
    PI X (.Tuple elts kk tpos) (.Call (.Name "enumerate" p) [e] [] pos) (iEnumT X.K ta) := by
  refine ⟨fun pins s σ H R I h => ?_⟩
  refine Call_ (ld_blt I hg hm boot_enumerate (PyProof.Rows.callWith_type1 (thn (ha.run pos pins s σ H _ I h) fun us s1 ⟨vs, H1, I1, r1, q1⟩ => ?_) hs rfl))
  obtain ⟨a, xs, ex, hq, q⟩ := q1
  subst ex
  cases r1 with
  | cons r rr =>
    cases rr
    cases r
    obtain ⟨its, rv, p', hz⟩ := I1.tuple hq
    refine call_enum1 (begins_tuple a its.toArray) p' fun h' he hit hsz hk => wpAny_pyIter_enum he ?_
    have I2 : Inv X pins σ H1 { s1 with heap := h' } := I1.kept (t' := s1.toks) hk
    have hal : a < s1.heap.objs.size := by
      obtain ⟨o, ho, _⟩ := p'
      exact Heap.lt_size ho
    refine ⟨s1.heap.objs.size + 1, [s1.heap.objs.size + 1, s1.heap.objs.size], _, _, H1, rfl, I2, turn_enumT a (s1.heap.objs.size + 1) s1.heap.objs.size, ⟨⟨.none, he⟩, ⟨_, hit, rfl, rfl⟩, Nat.succ_ne_self _, Nat.ne_of_lt hal, Nat.ne_of_gt (Nat.lt_succ_of_lt hal)⟩, fun b hb => ?_, q⟩
    have e' : b = s1.heap.objs.size + 1 ∨ b = s1.heap.objs.size := by simpa using hb
    have hle : s1.heap.objs.size ≤ b := by
      rcases e' with z | z
      · rw [z]; exact Nat.le_add_right _ _
      · rw [z]; exact Nat.le_refl _
    exact I1.fpOk hle (I1.hok.fresh hle)
section
variable {K : PySem.W.Frag} {a : Addr} {xs : List V} {g : TG} {tb : TS} {D : Ends} {σ : L2.St} {H : Hp}
/-- for i, x in enumerate(t) -/
theorem for_enumT (Pv : Nat → L2.St → Hp → Prop) (h0 : Pv 0 σ H) (hl : ∀ i σ H, i ≤ xs.length → Pv i σ H → SqT K H a xs)
    (hs : ∀ i x σ H, xs[i]? = some x → Pv i σ H → ∀ (T : Addr) (H' : Hp), Fr H T → Xb [] H H' → H' T = some (.tup [.int (i : Nat), x]) → g (.ref T) σ H' fun σ2 H2 => tb { D with nx := Pv (i + 1), ct := Pv (i + 1), bk := D.nx } σ2 H2)
    (hd : ∀ σ H, Pv xs.length σ H → D.nx σ H) :
    ∃ W : Nat → Nat → L2.St → Hp → Prop, (∃ m, W 0 m σ H) ∧ ∀ i m σ H, W i m σ H →
      ((IteT K a).stop i H ∧ D.nx σ H) ∨ ((IteT K a).go i H ∧ ∃ N : L2.St → Hp → Prop, (∀ σ' H', N σ' H' → ∃ m', m' < m ∧ W (i + 1) m' σ' H') ∧ ∀ x H', (IteT K a).yld i H x H' → g x σ H' fun σ2 H2 => tb { D with nx := N, ct := N, bk := D.nx } σ2 H2) := by
  refine ⟨fun i m σ H => m = xs.length - i ∧ i ≤ xs.length ∧ Pv i σ H, ⟨xs.length, by simp, Nat.zero_le _, h0⟩, ?_⟩
  rintro i m σ H ⟨rfl, hi, p⟩
  have q := hl i σ H hi p
  by_cases hlt : i < xs.length
  · refine .inr ⟨⟨xs, xs[i], q, by simp [hlt]⟩, Pv (i + 1), fun σ' H' p' => ⟨xs.length - (i + 1), by omega, rfl, hlt, p'⟩, fun x H' y => ?_⟩
    obtain ⟨T, z, rfl, hT, rfl, hz⟩ := y
    exact hs i z σ H (hz xs q) p T _ ⟨hT⟩ (Xb.new hT) upd_same
  · have e : i = xs.length := by omega
    subst e
    exact .inl ⟨⟨xs, q, Nat.le_refl _⟩, hd σ H p⟩
/-- for i, x in enumerate(xs), a list -/
theorem for_enumL (Pv : Nat → L2.St → Hp → Prop) (h0 : Pv 0 σ H) (hl : ∀ i σ H, i ≤ xs.length → Pv i σ H → SqL K H a xs)
    (hs : ∀ i x σ H, xs[i]? = some x → Pv i σ H → ∀ (T : Addr) (H' : Hp), Fr H T → Xb [] H H' → H' T = some (.tup [.int (i : Nat), x]) → g (.ref T) σ H' fun σ2 H2 => tb { D with nx := Pv (i + 1), ct := Pv (i + 1), bk := D.nx } σ2 H2)
    (hd : ∀ σ H, Pv xs.length σ H → D.nx σ H) :
    ∃ W : Nat → Nat → L2.St → Hp → Prop, (∃ m, W 0 m σ H) ∧ ∀ i m σ H, W i m σ H →
      ((Ite K a).stop i H ∧ D.nx σ H) ∨ ((Ite K a).go i H ∧ ∃ N : L2.St → Hp → Prop, (∀ σ' H', N σ' H' → ∃ m', m' < m ∧ W (i + 1) m' σ' H') ∧ ∀ x H', (Ite K a).yld i H x H' → g x σ H' fun σ2 H2 => tb { D with nx := N, ct := N, bk := D.nx } σ2 H2) := by
  refine ⟨fun i m σ H => m = xs.length - i ∧ i ≤ xs.length ∧ Pv i σ H, ⟨xs.length, by simp, Nat.zero_le _, h0⟩, ?_⟩
  rintro i m σ H ⟨rfl, hi, p⟩
  have q := hl i σ H hi p
  by_cases hlt : i < xs.length
  · refine .inr ⟨⟨xs, xs[i], q, by simp [hlt]⟩, Pv (i + 1), fun σ' H' p' => ⟨xs.length - (i + 1), by omega, rfl, hlt, p'⟩, fun x H' y => ?_⟩
    obtain ⟨T, z, rfl, hT, rfl, hz⟩ := y
    exact hs i z σ H (hz xs q) p T _ ⟨hT⟩ (Xb.new hT) upd_same
  · have e : i = xs.length := by omega
    subst e
    exact .inl ⟨⟨xs, q, Nat.le_refl _⟩, hd σ H p⟩
end

end My

set_option Elab.async false
set_option linter.all false
set_option maxRecDepth 100000
set_option maxHeartbeats 4000000
namespace My
open PySem PySem.Spec PyProof.Rows L2
/-! ### own exceptions: their class, their __init__, raising them, catching them -/
/-- the class at C, under ValueError by the class at B (named N in the text): its __init__ is at fI, its fields are fs -/
structure ExK (K : PySem.W.Frag) (mg : Str → Option Value) (x : Str) (C fI : Addr) (fs : List Str) : Prop where
  ox : OexC K C
  xf : XfC K C
  no : ∀ f ∈ fs, PySem.W.findIn K (.ref C) f = some none
  iC : PySem.W.findIn K (.ref C) "__init__" = some (some (.ref fI))
  tI : PySem.W.typeIn K (.ref fI) = some (.type "function")
  gC : mg x = some (.ref C)
  self : PySem.W.exmOne K (.ref C) (.ref C) = some true
/-- the base class of the package's errors -/
structure ExB (K : PySem.W.Frag) (mg : Str → Option Value) (x : Str) (B : Addr) (mc : Value) : Prop where
  gB : mg x = some (.ref B)
  rd : ClX.CRead K B mc
  fi : PySem.W.findCls K (.ref B) mc "__init__" = some (.val (.builtin "ValueError.__init__"))
section
variable {X : Cx} {e : Expr} {es : List Expr} {te : TE} {ta : TA} {p p1 p2 pos : Pos} {bn : Str} {B : Addr} {mc : Value}
theorem pe_obinit {pl : Sem Bool} (T0 : ExB X.K X.mg bn B mc) (hg : Gl X bn) (ha : PA X (e :: es) ta)
    (hc : eval (.Call (.Attribute (.Name bn p1) "__init__" p2) (e :: es) [] pos) X.env = (do
      let ov ← eval (.Name bn p1) X.env
      standAt p2.atName
      let (f, first) ← holding [ov] (getMethod ov "__init__" pl)
      callWith pos f first (backTo pos (starEach (e :: es) X.env)) (backToKw pos (keywordEach [] X.env))) := by rfl)
    (hdb : (bn == ("__debug__" : Str)) = false := by decide)
    (he : starEach (e :: es) X.env = (false, eval e X.env) :: starEach es X.env := by rfl) (hpl : (backTo pos (starEach es X.env)).any (·.1) = false := by rfl) :
    PE X (.Call (.Attribute (.Name bn p1) "__init__" p2) (e :: es) [] pos) (tVeI X.K ta) := by
  refine ⟨fun pins s σ H Q I h => ?_⟩
  refine PySem.W.methodCall_KW (ld_glob I hg T0.gB ?_ hdb) hc
  refine PySem.W.method_cls I.kIn T0.rd.ga (PySem.W.cls_value I.kIn T0.rd.rd T0.fi (by decide +kernel) ?_)
  show wpAny _ _ (callWith pos (Value.builtin "ValueError.__init__") [] (backTo pos (starEach (e :: es) X.env)) []) _ _ _
  refine PyProof.Rows.callWith_method1 (thn (ha.run pos pins _ σ H _ (I.tok _) h) fun us s1 ⟨vs, H1, I1, r1, a, C, ws, ev, hl, T, ea, q⟩ => ?_) he hpl
  subst ev
  cases r1 with
  | @cons _ u0 _ ur ra rw' =>
    obtain rfl : u0 = Value.ref a := ra
    have hlen : ur.length ≤ sizeLine := by
      rw [← Paired.length rw', sizeLine_eq]
      omega
    exact oinit_ok T I1 ea hlen fun s' J => ⟨.non, H1, J, rfl, q⟩
end
/-- __init__(self, v): the field f is v -/
def spXI1 (C : Addr) (f : Str) : Sp := fun vs H Q _ => ∃ (a : Addr) (v : V), vs = [.ref a, v] ∧ H a = some (exo a C none) ∧ ∀ dx, H dx = none → dx ≠ a → Q .non (upd (upd H dx (exd dx [(f, v)])) a (exo a C (some dx)))
section
variable {X : Cx} {e : Expr} {te : TE} {p pos : Pos} {x f : Str} {C fI : Addr} {fd : FuncData} {k : Nat}
/-- C(e), raised: its own dict is new and holds f -/
def tMk1 (C : Addr) (f : Str) (te : TE) : L2.St → Hp → XK → Prop := fun σ H Q => te σ H fun v H1 => ∀ (d : Addr) (H' : Hp), Fr H1 d → Xb [] H1 H' → H' d = some (.xd [(f, v)]) → Q (.ref C) (some d) H'
theorem pmk_x1 {fs : List Str} (T : ExK X.K X.mg x C fI fs) (F1 : FnOk X.prog X.w X.K X.mg X.base CX0 k fI fd ["self", f] (spXI1 C f)) (hr : Room (k + 1) X.A) (hb : Binds X.K fd ["self", f] []) (hg : Gl X x) (he : PE X e te)
    (hdb : (x == ("__debug__" : Str)) = false := by decide) (hst : starEach [e] X.env = (false, eval e X.env) :: starEach [] X.env := by rfl) (hpl : (backTo pos (starEach [] X.env)).any (·.1) = false := by rfl) :
    PMk X (.Call (.Name x p) [e] [] pos) (tMk1 C f te) := by
  intro pins s σ H Q I h
  refine pmk_oex T.ox T.iC T.tI F1 hr hb .nil pass0 hg T.gC (pa_m (pa_cons he pa_nil hst)) hdb hst hpl pins s σ H Q I ?_
  refine ⟨fun vs H1 => match vs with | [v] => ∀ (d : Addr) (H' : Hp), Fr H1 d → Xb [] H1 H' → H' d = some (.xd [(f, v)]) → Q (.ref C) (some d) H' | _ => False, h, fun vs H1 q => ?_⟩
  match vs, q with
  | [v], q =>
    refine ⟨by show 1 ≤ 1000; decide, fun a ha => ⟨a, v, rfl, upd_same, fun dx hdx hne => ?_⟩⟩
    rw [upd_ne hne] at hdx
    refine ⟨rfl, dx, [(f, v)], upd_same, by rw [upd_ne hne, upd_same], hdx, q dx _ ⟨hdx⟩ ⟨fun c o _ hc => ?_⟩ upd_same⟩
    have n1 : c ≠ dx := ne_of_none hc hdx
    have n2 : c ≠ a := ne_of_none hc ha
    rw [upd_ne n1, del_ne n2, upd_ne n2, upd_ne n1, upd_ne n2]
    exact hc
end
end My

set_option Elab.async false
set_option linter.all false
set_option maxRecDepth 100000
set_option maxHeartbeats 4000000
namespace My
open PySem PySem.Spec PyProof.Rows L2
/-! ### what may be called by its name: defs, classes -/
/-- the value at v may be called with positional values that meet sp -/
def Callee (P : Program) (w : World) (K : PySem.W.Frag) (mg : Str → Option Value) (base : Heap) (k : Nat) (v : Addr) (sp : Sp) : Prop :=
  ∀ (X : Cx) (pins : List (Addr × Obj)) (σ : L2.St) (H : Hp) (s : Shared) (us : List Value) (vs : List V) (Q : VK) (E : XK), X.prog = P → X.w = w → X.K = K → X.mg = mg → X.base = base →
    Room k X.A → PassesAt (L2.CX X.prog X.w) X σ E → Inv X pins σ H s → Vals vs us → sp vs H Q E → wpAny (model X.prog X.w) X.A (call (.ref v) us) (EP X pins σ Q) X.xe s
structure Cf (P : Program) (w : World) (K : PySem.W.Frag) (mg : Str → Option Value) (base : Heap) (k : Nat) (x : Str) (sp : Sp) : Prop where
  ex : ∃ v : Addr, Callee P w K mg base k v sp ∧ mg x = some (.ref v) ∧ PySem.W.keepIn K (.ref v) = true
section
variable {P : Program} {w : World} {K : PySem.W.Frag} {mg : Str → Option Value} {base : Heap} {k : Nat} {v f C : Addr} {x : Str} {sp sp' : Sp}
theorem Callee.imp (c : Callee P w K mg base k v sp) (h : ∀ vs H Q E, sp' vs H Q E → sp vs H Q E) : Callee P w K mg base k v sp' := fun X pins σ H s us vs Q E e1 e2 e3 e4 e5 hr hx I r hs => c X pins σ H s us vs Q E e1 e2 e3 e4 e5 hr hx I r (h _ _ _ _ hs)
theorem Cf.imp (c : Cf P w K mg base k x sp) (h : ∀ vs H Q E, sp' vs H Q E → sp vs H Q E) : Cf P w K mg base k x sp' := by
  obtain ⟨v, c, hm, hk⟩ := c.ex
  exact ⟨v, c.imp h, hm, hk⟩
theorem FnR.or (F : FnR P w K mg base (L2.CX P w) k f sp) (F' : FnR P w K mg base (L2.CX P w) k f sp') : FnR P w K mg base (L2.CX P w) k f (fun vs H Q E => sp vs H Q E ∨ sp' vs H Q E) :=
  fun A outer s H us vs Q E hr e0 r h => h.elim (F A outer s H us vs Q E hr e0 r) (F' A outer s H us vs Q E hr e0 r)
theorem Callee.of_fn (F : FnR P w K mg base (L2.CX P w) k f sp) : Callee P w K mg base k f sp := by
  rintro X pins σ H s us vs Q E rfl rfl rfl rfl rfl hr hx I r h
  refine wpAny_call (codeAny_mono (F X.A X.stack s H us vs Q E hr I.env0 r h) fun r s' hq => ?_)
  cases r with
  | error e => exact hx pins H s e s' I hq
  | ok fl =>
    cases fl with
    | ret u => exact I.after hq
    | next => exact False.elim hq
    | brk => exact False.elim hq
    | cont => exact False.elim hq
/-- a class: its __init__ keeps spI -/
def spMk (C : Addr) (spI : Sp) : Sp := fun vs H Q E => ∀ (a d : Addr) (H2 : Hp), Fr H a → Fr H d → d ≠ a → Xb [] H H2 → H2 a = some (.ins C d []) → H2 d = some (.own a) → spI (.ref a :: vs) H2 (fun v H3 => v = .non ∧ Q (.ref a) H3) E
theorem Callee.of_cls (M : Mk K C f) (F : FnR P w K mg base (L2.CX P w) k f sp) : Callee P w K mg base (k + 1) C (spMk C sp) := by
  rintro X pins σ H s us vs Q E rfl rfl rfl rfl rfl hr hx I r h
  have n1 : H (s.heap.objs.size + 1) = none := I.hok.fresh (Nat.le_succ _)
  have n2 : H s.heap.objs.size = none := I.hok.fresh (Nat.le_refl _)
  have ne : s.heap.objs.size ≠ s.heap.objs.size + 1 := Nat.ne_of_lt (Nat.lt_succ_self _)
  have hq := h (s.heap.objs.size + 1) s.heap.objs.size (upd (upd H s.heap.objs.size (.own (s.heap.objs.size + 1))) (s.heap.objs.size + 1) (.ins C s.heap.objs.size [])) ⟨n1⟩ ⟨n2⟩ ne
    ((Xb.new n2).t0 (Xb.new (by rw [upd_ne (Ne.symm ne)]; exact n1))) upd_same (by rw [upd_ne ne, upd_same])
  have I2 := Inv.made (C := C) I
  have r2 : Vals (V.ref (s.heap.objs.size + 1) :: vs) (Value.ref (s.heap.objs.size + 1) :: us) := .cons rfl r
  refine wpAny_call (make_map (f := f) I.kIn M.makes M.init (beq_iff_eq.mp M.fn) (codeAny_mono (F _ X.stack _ _ (Value.ref (s.heap.objs.size + 1) :: us) _ _ E (hr.make C us []) (I2.env0.make C us []) r2 hq) fun r s' hq' => ?_))
  cases r with
  | error e => exact hx pins _ _ e s' I2 hq'
  | ok fl =>
    cases fl with
    | ret u =>
      obtain ⟨v, H', I3, rv, ev, q3⟩ := I2.after hq'
      subst ev
      exact ⟨rv, ⟨V.ref (s.heap.objs.size + 1), H', I3, rfl, q3⟩⟩
    | next => exact False.elim hq'
    | brk => exact False.elim hq'
    | cont => exact False.elim hq'
end
section
variable {X : Cx} {W : WX} {k j : Nat} {x : Str} {sp : Sp} {p pos : Pos} {e : Expr} {es : List Expr} {t : TA}
theorem passN (σ : L2.St) : PassesAt (L2.CX X.prog X.w) X σ E0 := fun pins H s e s' I h => passL pins σ H s e s' I h
/-- a call that lets nothing out -/
theorem pn (c : Cf X.prog X.w X.K X.mg X.base k x sp) (hr : Room j X.A) (hg : Gl X x) (ha : PA X (e :: es) t) (hk : k ≤ j := by decide)
    (hdb : (x == ("__debug__" : Str)) = false := by decide) (he : starEach (e :: es) X.env = (false, eval e X.env) :: starEach es X.env := by rfl) (hpl : (backTo pos (starEach es X.env)).any (·.1) = false := by rfl) :
    PE X (.Call (.Name x p) (e :: es) [] pos) (fun σ H Q => t σ H fun vs H1 => sp vs H1 Q E0) := by
  obtain ⟨v, c, hm, kp⟩ := c.ex
  refine ⟨fun pins s σ H Q I h => ?_⟩
  refine wpAny_Call_Name_kw (ld_glob I hg hm ?_ hdb)
  refine PySem.W.callWith_K (h₀ := X.base) I.ok.mod.kin kp (thn (ha.run pos pins s σ H _ I h) fun us s1 ⟨vs, H1, I1, r, q⟩ => ⟨I1.kIn, ?_⟩) he hpl
  exact c X pins σ H1 s1 us vs Q E0 rfl rfl rfl rfl rfl (hr.mono hk) (passN σ) I1 r q
theorem pn0 (c : Cf X.prog X.w X.K X.mg X.base k x sp) (hr : Room j X.A) (hg : Gl X x) (hk : k ≤ j := by decide) (hdb : (x == ("__debug__" : Str)) = false := by decide) :
    PE X (.Call (.Name x p) [] [] pos) (fun σ H Q => sp [] H Q E0) := by
  obtain ⟨v, c, hm, kp⟩ := c.ex
  refine ⟨fun pins s σ H Q I h => ?_⟩
  refine wpAny_Call_Name_kw (ld_glob I hg hm ?_ hdb)
  exact PySem.W.callWith_K0 I.kIn kp (c X pins σ H s [] [] Q E0 rfl rfl rfl rfl rfl (hr.mono hk) (passN σ) I .nil h)
/-- a call that may raise -/
theorem px (c : Cf X.prog X.w X.K X.mg X.base k x sp) (hr : Room j X.A) (tk : Takes X W) (hg : Gl X x) (ha : PA X (e :: es) t) (hk : k ≤ j := by decide)
    (hdb : (x == ("__debug__" : Str)) = false := by decide) (he : starEach (e :: es) X.env = (false, eval e X.env) :: starEach es X.env := by rfl) (hpl : (backTo pos (starEach es X.env)).any (·.1) = false := by rfl) :
    PE X (.Call (.Name x p) (e :: es) [] pos) (fun σ H Q => t σ H fun vs H1 => sp vs H1 Q (WE W σ)) := by
  obtain ⟨v, c, hm, kp⟩ := c.ex
  refine ⟨fun pins s σ H Q I h => ?_⟩
  refine wpAny_Call_Name_kw (ld_glob I hg hm ?_ hdb)
  refine PySem.W.callWith_K (h₀ := X.base) I.ok.mod.kin kp (thn (ha.run pos pins s σ H _ I h) fun us s1 ⟨vs, H1, I1, r, q⟩ => ⟨I1.kIn, ?_⟩) he hpl
  exact c X pins σ H1 s1 us vs Q (WE W σ) rfl rfl rfl rfl rfl (hr.mono hk) (passAt tk σ) I1 r q
theorem px0 (c : Cf X.prog X.w X.K X.mg X.base k x sp) (hr : Room j X.A) (tk : Takes X W) (hg : Gl X x) (hk : k ≤ j := by decide) (hdb : (x == ("__debug__" : Str)) = false := by decide) :
    PE X (.Call (.Name x p) [] [] pos) (fun σ H Q => sp [] H Q (WE W σ)) := by
  obtain ⟨v, c, hm, kp⟩ := c.ex
  refine ⟨fun pins s σ H Q I h => ?_⟩
  refine wpAny_Call_Name_kw (ld_glob I hg hm ?_ hdb)
  exact PySem.W.callWith_K0 I.kIn kp (c X pins σ H s [] [] Q (WE W σ) rfl rfl rfl rfl rfl (hr.mono hk) (passAt tk σ) I .nil h)
end
/-! ### facts as Bools -/
def oxB (K : PySem.W.Frag) (C : Addr) : Bool := match K.lookup C with
  | some ⟨.type "type", _, .cls cd, sl⟩ => (match cd.mro, sl.toList with
    | .ref C' :: bm, [_, _, _, _, some (.builtin n), _] => C' == C && n == "ValueError.__new__" && !cd.hasDel && cd.hasDict && refsVE' bm
    | _, _ => false)
  | _ => false
where refsVE' (bm : List Value) : Bool := PySem.HandSPX.refsVE bm
theorem ox_of {K : PySem.W.Frag} {C : Addr} (q : oxB K C = true) : ∃ nm q N bs bm sn sub ab col dd k0 k1 k2 k3 k5, K.lookup C = some (excClassObj nm q C N bs bm true sn sub ab col dd k0 k1 k2 k3 k5 "ValueError.__new__") ∧ PySem.HandSPX.refsVE bm = true := by
  unfold oxB at q
  split at q
  · rename_i dd cd sl ho
    split at q
    · rename_i C' bm k0 k1 k2 k3 n k5 hm hs
      simp only [Bool.and_eq_true, beq_iff_eq, Bool.not_eq_true'] at q
      obtain ⟨⟨⟨⟨rfl, rfl⟩, hdel⟩, hdi⟩, hr⟩ := q
      obtain ⟨nm, bs, mro, ns, qn, hd, sn, sub, ab, col, del⟩ := cd
      dsimp only at hm hdel hdi
      subst hm hdel hdi
      have hsl : sl = #[k0, k1, k2, k3, some (.builtin "ValueError.__new__"), k5] := by
        obtain ⟨l⟩ := sl
        simp only at hs
        rw [hs]
      subst hsl
      exact ⟨_, _, _, _, _, _, _, _, _, _, _, _, _, _, _, ho, hr⟩
    · cases q
  · cases q

theorem ba3 {a b c : Bool} (h : (a && (b && c)) = true) : a = true ∧ b = true ∧ c = true := ⟨(He.ba h).1, (He.ba (He.ba h).2).1, (He.ba (He.ba h).2).2⟩
/-- an own exception class named x with the fields fs -/
def exkB (K : PySem.W.Frag) (x : Str) (fs : List Str) : Bool :=
  oxB K (He.ga K x) && (He.eqO (PySem.W.findIn K (.ref (He.ga K x)) "__setattr__") (some (some (.builtin "object.__setattr__"))) && (decide (PySem.W.subIn K (.ref (He.ga K x)) (.type "BaseException") = some true) &&
  (decide (PySem.W.typeIn K (.ref (He.ga K x)) = some (.type "type")) && (PySem.W.keepIn K (.ref (He.ga K x)) && (xfB K (He.ga K x) && ((fs.all fun f => He.eqO (PySem.W.findIn K (.ref (He.ga K x)) f) (some none)) &&
  (He.eqO (PySem.W.findIn K (.ref (He.ga K x)) "__init__") (some (some (.ref (He.ma K (He.ga K x) "__init__")))) && (decide (PySem.W.typeIn K (.ref (He.ma K (He.ga K x) "__init__")) = some (.type "function")) &&
  (He.eqO (PySem.W.nsIn K mainGlobals x) (some (some (.ref (He.ga K x)))) && decide (PySem.W.exmOne K (.ref (He.ga K x)) (.ref (He.ga K x)) = some true))))))))))
theorem exk_ok {K : PySem.W.Frag} {h : Heap} {mg : Str → Option Value} (X : K.In h) (G : h.Ns mainGlobals mg) {x : Str} {fs : List Str} (c : exkB K x fs = true) : ExK K mg x (He.ga K x) (He.ma K (He.ga K x) "__init__") fs := by
  unfold exkB at c
  simp only [Bool.and_eq_true, decide_eq_true_eq, List.all_eq_true] at c
  obtain ⟨c1, c2, c3, c4, c5, c6, c7, c8, c9, c10, c11⟩ := c
  exact ⟨⟨ox_of c1, He.eqO_ok c2, c3, c4, c5⟩, xfB_ok c6, fun f hf => He.eqO_ok (c7 f hf), He.eqO_ok c8, c9, PySem.W.mg_of X G (He.eqO_ok c10), c11⟩
def exbB (K : PySem.W.Frag) (x : Str) : Bool :=
  He.eqO (PySem.W.nsIn K mainGlobals x) (some (some (.ref (He.ga K x)))) && (PySem.W.readsIn K (He.ga K x) (.type "type") && (He.eqO (PySem.W.specialIn K (.ref (He.ga K x)) "__getattribute__") (some (some (.builtin "type.__getattribute__"))) &&
  (match PySem.W.findCls K (.ref (He.ga K x)) (.type "type") "__init__" with
   | some (.val (.builtin n)) => decide (n = "ValueError.__init__")
   | _ => false)))
theorem exb_ok {K : PySem.W.Frag} {h : Heap} {mg : Str → Option Value} (X : K.In h) (G : h.Ns mainGlobals mg) {x : Str} (c : exbB K x = true) : ExB K mg x (He.ga K x) (.type "type") := by
  unfold exbB at c
  simp only [Bool.and_eq_true] at c
  obtain ⟨c1, c2, c3, c4⟩ := c
  refine ⟨PySem.W.mg_of X G (He.eqO_ok c1), ⟨c2, He.eqO_ok c3⟩, ?_⟩
  revert c4
  split
  · rename_i n e
    intro c
    rw [e, of_decide_eq_true c]
  · intro c
    cases c
/-- a tuple of the module: its items, its object -/
def tupKB (K : PySem.W.Frag) (x : Str) (vs : List He.Dv) : Bool := He.tupB K x vs && He.eqO (PySem.W.nsIn K mainGlobals x) (some (some (.ref (He.ga K x))))
structure TupK (K : PySem.W.Frag) (mg : Str → Option Value) (x : Str) (xs : List V) : Prop where
  ex : ∃ a, mg x = some (.ref a) ∧ (∀ H, SqT K H a xs) ∧ ∃ o, K.lookup a = some o ∧ o.cls = .type "tuple"
theorem TupK.sq {K : PySem.W.Frag} {mg : Str → Option Value} {x : Str} {xs : List V} (t : TupK K mg x xs) (H : Hp) : SqT K H t.ex.choose xs := t.ex.choose_spec.2.1 H
theorem TupK.cl {K : PySem.W.Frag} {mg : Str → Option Value} {x : Str} {xs : List V} (t : TupK K mg x xs) : ∃ o, K.lookup t.ex.choose = some o ∧ o.cls = .type "tuple" := t.ex.choose_spec.2.2
theorem tupK_ok {K : PySem.W.Frag} {h : Heap} {mg : Str → Option Value} (X : K.In h) (G : h.Ns mainGlobals mg) {x : Str} {vs : List He.Dv} (c : tupKB K x vs = true) : TupK K mg x (vs.map (He.Dv.v K)) := by
  obtain ⟨c1, c2⟩ := He.ba c
  refine ⟨_, PySem.W.mg_of X G (He.eqO_ok c2), He.tupB_ok c1, ?_⟩
  have c3 := c1
  unfold He.tupB at c3
  split at c3
  · rename_i cc its n sl q
    exact ⟨_, q, congrArg Value.type (of_decide_eq_true (He.ba c3).1)⟩
  · cases c3
end My

set_option Elab.async false
set_option linter.all false
set_option maxRecDepth 100000
set_option maxHeartbeats 4000000
namespace My
open PySem PySem.Spec PyProof.Rows L2
/-! ### raising own exceptions -/
/-- C(v) may be raised: C has the one field f -/
structure Rz1 (P : Program) (w : World) (K : PySem.W.Frag) (mg : Str → Option Value) (base : Heap) (k : Nat) (x f : Str) : Prop where
  ex : ∃ (fI : Addr) (fd : FuncData) (fs : List Str), ExK K mg x (He.ga K x) fI fs ∧ FnOk P w K mg base CX0 k fI fd ["self", f] (spXI1 (He.ga K x) f) ∧ Binds K fd ["self", f] []
section
variable {X : Cx} {e : Expr} {te : TE} {p pos : Pos} {x f : Str} {k j : Nat}
theorem pz1 (c : Rz1 X.prog X.w X.K X.mg X.base k x f) (hr : Room j X.A) (hg : Gl X x) (he : PE X e te) (hk : k + 1 ≤ j := by decide) (hdb : (x == ("__debug__" : Str)) = false := by decide)
    (hst : starEach [e] X.env = (false, eval e X.env) :: starEach [] X.env := by rfl) (hpl : (backTo pos (starEach [] X.env)).any (·.1) = false := by rfl) : PMk X (.Call (.Name x p) [e] [] pos) (tMk1 (He.ga X.K x) f te) := by
  obtain ⟨fI, fd, fs, T, F, b⟩ := c.ex
  exact pmk_x1 T F (hr.mono hk) b hg he hdb hst hpl
end
/-- __init__(self, v, u): two fields -/
def spXI2 (C : Addr) (f g : Str) : Sp := fun vs H Q _ => ∃ (a : Addr) (v u : V), vs = [.ref a, v, u] ∧ H a = some (exo a C none) ∧ ∀ dx, H dx = none → dx ≠ a → Q .non (upd (upd (upd H dx (exd dx [(f, v)])) a (exo a C (some dx))) dx (exd dx [(g, u), (f, v)]))
structure Rz2 (P : Program) (w : World) (K : PySem.W.Frag) (mg : Str → Option Value) (base : Heap) (k : Nat) (x f g : Str) : Prop where
  ex : ∃ (fI : Addr) (fd : FuncData) (fs : List Str), ExK K mg x (He.ga K x) fI fs ∧ FnOk P w K mg base CX0 k fI fd ["self", f, g] (spXI2 (He.ga K x) f g) ∧ Binds K fd ["self", f, g] []
def tMk2 (C : Addr) (f g : Str) (te tu : TE) : L2.St → Hp → XK → Prop := fun σ H Q => te σ H fun v H1 => tu σ H1 fun u H2 => ∀ (d : Addr) (H' : Hp), Fr H2 d → Xb [] H2 H' → H' d = some (.xd [(g, u), (f, v)]) → Q (.ref C) (some d) H'
section
variable {X : Cx} {e e' : Expr} {te tu : TE} {p pos : Pos} {x f g : Str} {k j : Nat}
theorem pz2 (c : Rz2 X.prog X.w X.K X.mg X.base k x f g) (hr : Room j X.A) (hg : Gl X x) (he : PE X e te) (he' : PE X e' tu) (hk : k + 1 ≤ j := by decide) (hdb : (x == ("__debug__" : Str)) = false := by decide)
    (hst : starEach [e, e'] X.env = (false, eval e X.env) :: starEach [e'] X.env := by rfl) (hst' : starEach [e'] X.env = (false, eval e' X.env) :: starEach [] X.env := by rfl) (hpl : (backTo pos (starEach [e'] X.env)).any (·.1) = false := by rfl) :
    PMk X (.Call (.Name x p) [e, e'] [] pos) (tMk2 (He.ga X.K x) f g te tu) := by
  obtain ⟨fI, fd, fs, T, F1, hb⟩ := c.ex
  intro pins s σ H Q I h
  refine pmk_oex T.ox T.iC T.tI F1 (hr.mono hk) hb .nil pass0 hg T.gC (pa_m (pa_cons (pe_m he) (pa_cons (pe_m he') pa_nil hst') hst)) hdb hst hpl pins s σ H Q I ?_
  refine ⟨fun vs H1 => match vs with | [v, u] => ∀ (d : Addr) (H' : Hp), Fr H1 d → Xb [] H1 H' → H' d = some (.xd [(g, u), (f, v)]) → Q (.ref (He.ga X.K x)) (some d) H' | _ => False, ?_, fun vs H1 q => ?_⟩
  · exact ⟨_, h, fun v H1 q => ⟨_, q, fun u H2 q2 => q2⟩⟩
  · match vs, q with
    | [v, u], q =>
      refine ⟨by show 2 ≤ 1000; decide, fun a ha => ⟨a, v, u, rfl, upd_same, fun dx hdx hne => ?_⟩⟩
      rw [upd_ne hne] at hdx
      refine ⟨rfl, dx, [(g, u), (f, v)], by rw [upd_ne (Ne.symm hne), upd_same], upd_same, hdx, q dx _ ⟨hdx⟩ ⟨fun c o _ hc => ?_⟩ upd_same⟩
      have n1 : c ≠ dx := ne_of_none hc hdx
      have n2 : c ≠ a := ne_of_none hc ha
      rw [upd_ne n1, del_ne n2, upd_ne n1, upd_ne n2, upd_ne n1, upd_ne n2]
      exact hc
end
/-! ### fields of instances -/
section
variable {X : Cx} {o e value : Expr} {f : Str} {pos pos' : Pos} {ta tv : TE} {C : Addr}
theorem px_fld (c : Cls X.K C) (n : NoAttr X.K C f) (he : PE X e ta) (hb : attributeBase e f X.env (eval e X.env) = eval e X.env := by rfl) :
    PE X (.Attribute e f pos) (fun σ H Q => ta σ H fun x H1 => ∃ a dx fs v, x = .ref a ∧ H1 a = some (.ins C dx fs) ∧ fs.lookup f = some v ∧ Q v H1) :=
  pe_imp (pe_fld (pe_m he) hb) fun σ H Q h => ⟨_, h, fun x H1 ⟨a, dx, fs, v, e, ha, l, q⟩ => ⟨a, C, dx, fs, v, e, ha, c, n, l, q⟩⟩
theorem sx_fld (c : Cls X.K C) (n : NoAttr X.K C f) (ha : PE X o ta) (hv : PE X value tv) (hs : swapsWith value (some (.Attribute o f pos')) pos.line X.env = pure false := by rfl) :
    PS X (.Assign [.Attribute o f pos'] value pos) (fun D σ H => tv σ H fun y H1 => ta σ H1 fun x H2 => ∃ a dx fs, x = .ref a ∧ H2 a = some (.ins C dx fs) ∧ fs.length < 1000 ∧ ∀ H3, Xb [a] H2 H3 → H3 a = some (.ins C dx (putF f y fs)) → D.nx σ H3) :=
  ps_imp (ps_fld (pe_m ha) (pe_m hv) hs) fun D σ H h => ⟨_, h, fun y H1 q => ⟨_, q, fun x H2 ⟨a, dx, fs, e, h, n', k⟩ => ⟨a, C, dx, fs, e, h, c, n, n', k _ Xb.put upd_same⟩⟩⟩
end
/-! ### defs with a star parameter -/
theorem bs1 {fd : FuncData} {p1 pv : Str} (h0 : ∀ a, bindArgs fd ⟨[a], []⟩ = (newTuple [] >>= fun t => pure [(p1, a), (pv, t)])) (h1 : ∀ a r rs, bindArgs fd ⟨a :: r :: rs, []⟩ = (newTuple (r :: rs) >>= fun t => pure [(p1, a), (pv, t)])) :
    ∀ us rest : List Value, us.length = [p1].length → bindArgs fd ⟨us ++ rest, []⟩ = (newTuple rest >>= fun t => pure ([p1].zip us ++ [(pv, t)])) := StX.bind_star1 (B := fun us => bindArgs fd ⟨us, []⟩) h0 h1
theorem bs2 {fd : FuncData} {p1 p2 pv : Str} (h0 : ∀ a b, bindArgs fd ⟨[a, b], []⟩ = (newTuple [] >>= fun t => pure [(p1, a), (p2, b), (pv, t)])) (h1 : ∀ a b r rs, bindArgs fd ⟨a :: b :: r :: rs, []⟩ = (newTuple (r :: rs) >>= fun t => pure [(p1, a), (p2, b), (pv, t)])) :
    ∀ us rest : List Value, us.length = [p1, p2].length → bindArgs fd ⟨us ++ rest, []⟩ = (newTuple rest >>= fun t => pure ([p1, p2].zip us ++ [(pv, t)])) := StX.bind_star2 (B := fun us => bindArgs fd ⟨us, []⟩) h0 h1
section
variable {P : Program} {w : World} {K : PySem.W.Frag} {mg : Str → Option Value} {base : Heap} {x qual : Str} {params : Arguments} {body : List Stmt} {scope : Scope} {kws : List (Str × V)} {f : Addr} {fd : FuncData} {N ps : List Str} {pv : Str} {k : Nat} {sp : Sp}
theorem okV (F : FunD K x qual params body scope [] kws f fd) (S : FnScope N (ps ++ [pv]) scope)
    (hb : ∀ (kV doc pm : Value) (an : Option Addr) (cdv ct : Value) (us rest : List Value), us.length = ps.length → bindArgs (PySem.W.fnOf x qual params body scope .none kV doc pm an cdv ct) ⟨us ++ rest, []⟩ = (newTuple rest >>= fun t => pure (ps.zip us ++ [(pv, t)])))
    (hbody : ∀ (cdv : Value) (A : Around) (outer : List Env) (s : Shared) (H : Hp) (vs : List V) (Q : VK) (E : XK), Room k (A.deeper (envOfC qual scope s.heap.objs.size f cdv)) → sp vs H Q E →
      ∃ t, PSs (cxOf (L2.CX P w) P w K mg base N qual scope f cdv A outer s H E) body t ∧ t { nx := fun _ H' => Q .non H', rt := Q } (start N vs) H) :
    FnR P w K mg base (L2.CX P w) (k + 1) f (fun vs H Q E => ∃ ws rest, vs = ws ++ rest ∧ ws.length = ps.length ∧ rest.length ≤ sizeLine ∧ ∀ p H', Fr H p → Xb [] H H' → H' p = some (.tup rest) → sp (ws ++ [V.ref p]) H' Q E) := by
  obtain ⟨oc, od, dV, kV, doc, pm, an, cdv, ct, osl, rfl, lk, hcd, hD, hK⟩ := F.ex
  rcases hD with ⟨_, rfl⟩ | ⟨e, _⟩
  · refine FnR.imp (StX.fn_star (sp := sp) lk hcd S StX.cxUp (hb kV doc pm an cdv ct) fun A outer s H vs Q E hr hsp => hbody cdv A outer s H vs Q E hr hsp) fun vs H Q E ⟨ws, rest, e, hl, hz, q⟩ => ⟨ws, rest, e, hl, hz, fun p hp => q p _ ⟨hp⟩ (Xb.new hp) upd_same⟩
  · exact absurd rfl e
/-- a def without defaults, by positional values -/
theorem okR {CX : CXT} {ps : List Str} (F : FnOk P w K mg base CX k f fd ps sp) (b : Binds K fd ps []) : FnR P w K mg base CX k f sp :=
  FnR.imp (F.raw b .nil) fun vs H Q E h => by
    rw [List.append_nil]
    exact h
end
/-! ### try .. except: readings that may name the context -/
theorem pss_imp {X : Cx} {b : List Stmt} {t t' : TS} (h : PSs X b t) (k : ∀ D σ H, t' D σ H → t D σ H) : PSs X b t' := ⟨fun pins s σ H D I hw => h.run pins s σ H D I (k D σ H hw)⟩
section
variable {X : Cx} {x n : Str} {c : Value} {i : Nat} {body suite : List Stmt} {b₀ : Stmt} {np pos pos' : Pos} {Wout : WX}
  {tb : WX → List (Addr × Obj) → (Value → Shared → Prop) → TS} {ts : Addr → Value → Option Addr → Obj → List (Addr × Obj) → TS}
theorem ps_tryA (hs : X.stack = X.env :: X.outer) (hf : X.env.frame = some X.env.locals) (hN : X.N.Nodup) (hi : X.N[i]? = some n) (hln : X.env.kindOf n = some .local) (hc : Names X x c) (tk : Takes X Wout)
    (hb : ∀ (W : WX) (pn : List (Addr × Obj)) (xe : Value → Shared → Prop), Takes (X.tr pn xe) W → PassesOwn (model X.prog X.w) X.A X.env xe → PSs (X.tr pn xe) body (tb W pn xe))
    (hsu : ∀ (a : Addr) (oe : Obj) (cls : Value) (d : Option Addr) (pn : List (Addr × Obj)), Zc cls d oe → (∃ vs, oe.data = .fields vs) → PSs (X.suite a ((a, oe) :: pn)) (b₀ :: suite) (ts a cls d oe pn)) :
    PS X (.Try body [.ExceptHandler (some (.Name x np)) (some n) (b₀ :: suite) pos'] [] [] pos) (fun D σ H => ∀ pn xe, tb (wAs X.K c i (fun a cls d D σ H => ∀ oe pn, ts a cls d oe pn D σ H) Wout D) pn xe D σ H) :=
  ps_try_as (tb := fun W D σ H => ∀ pn xe, tb W pn xe D σ H) (ts := fun a cls d D σ H => ∀ oe pn, ts a cls d oe pn D σ H) hs hf hN hi hln hc tk
    (fun W pn xe h1 h2 => pss_imp (hb W pn xe h1 h2) fun _ _ _ q => q pn xe) fun a oe cls d pn h1 h2 => pss_imp (hsu a oe cls d pn h1 h2) fun _ _ _ q => q oe pn
theorem ps_tryO (hs : X.stack = X.env :: X.outer) (hf : X.env.frame = some X.env.locals) (hc : Names X x c) (tk : Takes X Wout)
    (hb : ∀ (W : WX) (pn : List (Addr × Obj)) (xe : Value → Shared → Prop), Takes (X.tr pn xe) W → PassesOwn (model X.prog X.w) X.A X.env xe → PSs (X.tr pn xe) body (tb W pn xe))
    (hsu : ∀ (a : Addr) (oe : Obj) (cls : Value) (d : Option Addr) (pn : List (Addr × Obj)), Zc cls d oe → (∃ vs, oe.data = .fields vs) → PSs (X.suite a ((a, oe) :: pn)) (b₀ :: suite) (ts a cls d oe pn)) :
    PS X (.Try body [.ExceptHandler (some (.Name x np)) none (b₀ :: suite) pos'] [] [] pos) (fun D σ H => ∀ pn xe, tb (wOnly X.K c (fun a cls d D σ H => ∀ oe pn, ts a cls d oe pn D σ H) Wout D) pn xe D σ H) :=
  ps_try_only (tb := fun W D σ H => ∀ pn xe, tb W pn xe D σ H) (ts := fun a cls d D σ H => ∀ oe pn, ts a cls d oe pn D σ H) hs hf hc tk
    (fun W pn xe h1 h2 => pss_imp (hb W pn xe h1 h2) fun _ _ _ q => q pn xe) fun a oe cls d pn h1 h2 => pss_imp (hsu a oe cls d pn h1 h2) fun _ _ _ q => q oe pn
end
/-! ### comprehensions: readings that may name the block's context -/
def aE (te : Shared → Hp → Addr → List (Str × Addr) → List Addr → TE) : TE := fun σ H' Q => ∀ s H C cl fp, te s H C cl fp σ H' Q
def aT (tt : Shared → Hp → Addr → List (Str × Addr) → List Addr → TT) : TT := fun σ H' Q => ∀ s H C cl fp, tt s H C cl fp σ H' Q
theorem eA {X : Cx} {scope : Scope} {elt : Expr} {te : Shared → Hp → Addr → List (Str × Addr) → List Addr → TE} (h : ∀ (s : Shared) (H : Hp) (C : Addr) (cl : List (Str × Addr)) (fp : List Addr), PE (X.blk s H scope (compEnvC scope cl C X.env) fp) elt (te s H C cl fp)) :
    ∀ (s : Shared) (H : Hp) (C : Addr) (cl : List (Str × Addr)) (fp : List Addr), PE (X.blk s H scope (compEnvC scope cl C X.env) fp) elt (aE te) :=
  fun s H C cl fp => pe_imp (h s H C cl fp) fun _ _ _ q => q s H C cl fp
theorem tA {X : Cx} {scope : Scope} {ifs : List Expr} {tt : Shared → Hp → Addr → List (Str × Addr) → List Addr → TT} (h : ∀ (s : Shared) (H : Hp) (C : Addr) (cl : List (Str × Addr)) (fp : List Addr), PTs (X.blk s H scope (compEnvC scope cl C X.env) fp) ifs (tt s H C cl fp)) :
    ∀ (s : Shared) (H : Hp) (C : Addr) (cl : List (Str × Addr)) (fp : List Addr), PTs (X.blk s H scope (compEnvC scope cl C X.env) fp) ifs (aT tt) :=
  fun s0 H0 C cl fp => ⟨fun pins s σ H Q I hw => (h s0 H0 C cl fp).run pins s σ H Q I (hw s0 H0 C cl fp)⟩
end My

open PySem PySem.Spec PyProof.Rows L2 My
local macro_rules | `(tactic| wtm_at "ne") => `(tactic| first
  | assumption
  | exact Ne.symm (by assumption)
  | exact Bag.neb (by assumption) (by wtm_at "bg")
  | exact Bag.netb (by assumption) (by wtm_at "bg")
  | exact Fr.ne (by assumption) (by wtm_at "hp")
  | exact Fr.ne' (by assumption) (by wtm_at "hp")
  | fail)
local macro_rules | `(tactic| wtm_at "hp") => `(tactic| first
  | assumption
  | exact Xb.get0 (by assumption) (by wtm_at "hp")
  | exact Xb.get1 (by assumption) (by wtm_at "ne") (by wtm_at "hp")
  | fail)
local macro_rules | `(tactic| wtm_at "bg") => `(tactic| first
  | assumption
  | exact Bag.keep0 (by assumption) (by wtm_at "bg")
  | exact Bag.keep1 (by assumption) (by wtm_at "ne") (by first | assumption | exact Bag.nel (by assumption) (by wtm_at "bg")) (by wtm_at "bg")
  | fail)
local macro_rules | `(tactic| wtm_at "sq") => `(tactic| first
  | assumption
  | ((with_reducible show SqL _ _ _ _); first | exact SqL.of (by wtm_at "hp") | exact Xb.seq0 (by assumption) (by wtm_at "sq"))
  | ((with_reducible show SqT _ _ _ _); first | exact SqT.of (by wtm_at "hp") | exact Xb.seqT0 (by assumption) (by wtm_at "sq"))
  | ((with_reducible show SqL _ _ _ _ ∨ _); first | exact Or.inl (by wtm_at "sq") | exact Or.inr (by wtm_at "sq"))
  | fail)
local macro_rules | `(tactic| wtm_at "sd") => `(tactic| first
  | assumption
  | ((with_reducible show _ ≤ sizeLine); first | exact Nat.le_of_ble_eq_true rfl | exact sz (by wtm_at "ln"))
  | ((with_reducible show _ < sizeLine); exact sz_lt (by wtm_at "ln"))
  | omega
  | (exact ⟨by omega, by omega⟩)
  | wtm_at "bg"
  | wtm_at "sq"
  | wtm_at "hp"
  | fail)
local macro_rules | `(tactic| wtm_at "ln") => `(tactic| first
  | omega
  | (simp only [List.length_cons, List.length_nil, List.length_append, List.length_map, List.length_singleton]; omega)
  | fail)
local macro_rules | `(tactic| wtm_at "mu") => `(tactic| first
  | exact Or.inr ⟨by decide, by decide⟩
  | exact Or.inl ⟨by decide, by decide⟩
  | exact Or.inr ⟨by omega, by omega⟩
  | exact Or.inl ⟨by omega, by omega⟩
  | fail)
local macro_rules | `(tactic| wtm_at "lm") => `(tactic| first
  | (show (0 : Int) < _; first | decide | omega | assumption)
  | exact wide_div (b := 250) (by first | decide | omega) (by first | decide | omega) (by decide) (by decide)
  | fail)
local macro_rules | `(tactic| wtm_at "ix") => `(tactic| first
  | rfl
  | assumption
  | fail)
local macro_rules | `(tactic| wtm_at "rg") => `(tactic| first
  | decide
  | omega
  | fail)
local macro_rules | `(tactic| wtm_at "li") => `(tactic| first
  | exact LimOk.of rfl
  | exact LimOk.le (by wtm_at "ln") (by wtm_at "ln")
  | fail)
local macro_rules | `(tactic| wtm_at "me") => `(tactic| first
  | exact .head _
  | exact .tail _ (.head _)
  | exact .tail _ (.tail _ (.head _))
  | fail)
local macro_rules | `(tactic| wtm_at "fr") => `(tactic| first
  | assumption
  | exact Xb.free0 (by assumption) (by wtm_at "xb")
  | exact Xb.free1 (by assumption) (by wtm_at "xb") (by wtm_at "ne")
  | fail)
local macro_rules | `(tactic| wtm_at "xb") => `(tactic| first
  | assumption
  | exact Xb.refl _
  | exact Xb.any (by assumption)
  | exact Xb.b0 (by assumption) (by wtm_at "xb")
  | exact Xb.b1 (by assumption) (by wtm_at "me") (by wtm_at "xb")
  | exact Xb.bl (by assumption) (by wtm_at "fr") (by wtm_at "xb")
  | fail)

set_option maxHeartbeats 4000000
namespace My
def top (i : Nat) : Stmt := PySem.Challenge.pw_oldplaces_k14_orders_refused.main.body.getD i (.Pass ⟨0, 0, 0, 0⟩)
structure Txt (K : PySem.W.Frag) (mg : Str → Option Value) : Prop where
  mg_MOST_PASSES : ∃ t, mg "MOST_PASSES" = some (.int 6 t)
  k_PASSES : TupK K mg "PASSES" [V.str "sort begin", V.str "sort end", V.str "sort begin down", V.str "sort end down", V.str "reverse"]
  gl__law_bag : mg "_law_bag" = some (.ref (He.ga K "_law_bag"))
  gl__law_pick : mg "_law_pick" = some (.ref (He.ga K "_law_pick"))
  exb : ExB K mg "OldPlacesError" (He.ga K "OldPlacesError") (.type "type")
  ex_BadOrder : ExK K mg "BadOrder" (He.ga K "BadOrder") (He.ma K (He.ga K "BadOrder") "__init__") ["entry"]
  cl_Order : Cls K (He.ga K "Order")
  na_Order_passes : NoAttr K (He.ga K "Order") "passes"
  mk_Order : Mk K (He.ga K "Order") (He.ma K (He.ga K "Order") "__init__")
  gl_Order : mg "Order" = some (.ref (He.ga K "Order"))
  gl__law_wrong : mg "_law_wrong" = some (.ref (He.ga K "_law_wrong"))
  gl__law_outcome : mg "_law_outcome" = some (.ref (He.ga K "_law_outcome"))
  gl_law : True
  enumerate : mg "enumerate" = none
  tuple : mg "tuple" = none
  list : mg "list" = none
  int : mg "int" = none
  len : mg "len" = none
  range : mg "range" = none
end My
namespace My
section
variable {P : Program} {w : World} {K : PySem.W.Frag} {mg : Str → Option Value} {base : Heap}

def passes : List Str := ["sort begin", "sort end", "sort begin down", "sort end down", "reverse"]
/-- the first entry that is none, from place i -/
def fb : Nat → List Str → Option Str
  | _, [] => none
  | i, z :: r => if 6 ≤ i ∨ ¬ z ∈ passes then some z else fb (i + 1) r
def spOrdI (C CB : Addr) : Sp := fun vs H Q E => ∃ (a d p : Addr) (ss : List Str), vs = [.ref a, .ref p] ∧ H a = some (.ins C d []) ∧ H p = some (.tup (ss.map V.str)) ∧
  (fb 0 ss = none → ∀ H', Xb [a] H H' → H' a = some (.ins C d [("passes", .ref p)]) → Q .non H') ∧ (∀ z, fb 0 ss = some z → ∀ (e : Addr) (H' : Hp), Xb [] H H' → H' e = some (.xd [("entry", .str z)]) → E (.ref CB) (some e) H')
def spOrd (C CB : Addr) : Sp := fun vs H Q E => ∃ ss : List Str, vs = ss.map V.str ∧ ss.length ≤ 1000 ∧
  (fb 0 ss = none → ∀ (a d p : Addr) (H' : Hp), Xb [] H H' → H' a = some (.ins C d [("passes", .ref p)]) → H' p = some (.tup (ss.map V.str)) → Q (.ref a) H') ∧ (∀ z, fb 0 ss = some z → ∀ (e : Addr) (H' : Hp), Xb [] H H' → H' e = some (.xd [("entry", .str z)]) → E (.ref CB) (some e) H')
theorem isPass {z : Str} (h : inV (.str z) (passes.map V.str) = true) : z ∈ passes := by
  unfold inV at h
  rw [List.any_map, List.any_eq_true] at h
  obtain ⟨y, hy, e⟩ := h
  have e : eqV (.str y) (.str z) = true := e
  simp [eqV] at e
  rw [← e]
  exact hy
theorem noPass {z : Str} (h : inV (.str z) (passes.map V.str) = false) : ¬ z ∈ passes := fun m => by
  rw [in_strs m] at h
  cases h
theorem fb_step {ss : List Str} {i : Nat} {z : Str} (h : ss[i]? = some z) : fb i (ss.drop i) = if 6 ≤ i ∨ ¬ z ∈ passes then some z else fb (i + 1) (ss.drop (i + 1)) := by
  rw [List.drop_eq_getElem_cons (List.getElem?_eq_some_iff.mp h).1, (List.getElem?_eq_some_iff.mp h).2]
  rfl

abbrev s_law_bag : Stmt := top 9
theorem sc_law_bag : FnScope ["_law_script"] ["_law_script"] (defScope s_law_bag) := ⟨rfl, rfl, rfl, by decide +kernel, rfl, by decide +kernel, by decide +kernel⟩
theorem ok_law_bag {f : Addr} {fd : FuncData} (F : FunD K "_law_bag" "_law_bag" (defArgs s_law_bag) (defBody s_law_bag) (defScope s_law_bag) [] [] f fd) (T : Txt K mg)  : FnOk P w K mg base (L2.CX P w) 1 f fd ["_law_script"] (spBag K) := by
  have nd := sc_law_bag.nd
  refine F.ok sc_law_bag (fun vs H Q E h => ?_) (fun cdv A outer s H vs Q E hr h => ?_)
  · obtain ⟨a, rfl, ns, hS, hlen, k⟩ := h
    rfl
  · obtain ⟨a, rfl, ns, hS, hlen, k⟩ := h
    refine ⟨_, (pss_one (ps_ret (px_lst (pa_cons (pe_callTy cx_list (by rfl) T.list (by decide +kernel) (pa_cons (pv 0) pa_nil)) (pa_cons pe_int (pa_cons pe_int (pa_cons pe_int pa_nil))))))), ?_⟩
    refine ⟨_, rfl, _, rfl, _, .inl hS, fun l HL npl xl hl => ?_⟩
    refine ⟨by show (4 : Nat) ≤ sizeLine; decide, fun b H2 np2 x2 h2 => ?_⟩
    refine k b l H2 ⟨np2.ne' hl, ns, 0, 0, 20011, h2, x2.get0 hl, hlen, by decide, by decide, by decide, by decide, by decide⟩ (xl.trans x2)
abbrev s_law_pick : Stmt := top 10
theorem sc_law_pick : FnScope ["_law_bag_here", "_law_limit", "_law_cell", "_law_found"] ["_law_bag_here", "_law_limit"] (defScope s_law_pick) := ⟨rfl, rfl, rfl, by decide +kernel, rfl, by decide +kernel, by decide +kernel⟩
theorem ok_law_pick {f : Addr} {fd : FuncData} (F : FunD K "_law_pick" "_law_pick" (defArgs s_law_pick) (defBody s_law_pick) (defScope s_law_pick) [] [] f fd) (T : Txt K mg)  : FnOk P w K mg base (L2.CX P w) 1 f fd ["_law_bag_here", "_law_limit"] spPick := by
  have nd := sc_law_pick.nd
  refine F.ok sc_law_pick (fun vs H Q E h => ?_) (fun cdv A outer s H vs Q E hr h => ?_)
  · obtain ⟨b, lim, rfl, l, ⟨nlb, ns, i, g, st, B⟩, hl, k⟩ := h
    rfl
  · obtain ⟨b, lim, rfl, l, ⟨nlb, ns, i, g, st, B⟩, hl, k⟩ := h
    refine ⟨_, (pss_cons (ps_mid (ps_if (PW.pt (pw_and (pt_cmpR op_eq (pe_ix ix_list (pv 0) pe_int (fun _ _ => rfl)) pe_int (nomark _)) (pw_and1 (pt_cmpR op_lt (pe_ix ix_list (pv 0) pe_int (fun _ _ => rfl)) (pe_callB call_len_seq (by rfl) T.len PySem.boot_len (pa_cons (pe_ix ix_list (pv 0) pe_int (fun _ _ => rfl)) pa_nil)) (nomark _))))) (pss_cons (ps_set (i := 2) nd rfl (.inl rfl) (pe_ix ix_list (pe_ix ix_list (pv 0) pe_int (fun _ _ => rfl)) (pe_ix ix_list (pv 0) pe_int (fun _ _ => rfl)) (fun _ _ => rfl)))
      (pss_cons (ps_augS (pv 0) pe_int get_lst pe_int ip_add set_list)
      (pss_one (ps_if (pt_cmpR op_ge (pv 2) (pe_op op_pow pe_int pe_int) (nomark _)) (pss_one (ps_asg (pv 2) (pg_sub (pv 0) pe_int setx_list))) (pss_one (ps_asg (pe_op op_mod (pe_callTy cx_int (by rfl) T.int (by decide +kernel) (pa_cons (pe_op op_add (pe_op op_add (pe_op op_mul (pe_ix ix_list (pv 0) pe_int (fun _ _ => rfl)) pe_int) (pe_op op_mul (pv 2) pe_int)) (pe_ix ix_list (pv 0) pe_int (fun _ _ => rfl))) pa_nil)) pe_int) (pg_sub (pv 0) pe_int setx_list))))))) pss_nil))
      (pss_cons (ps_if (pt_cmpR op_gt (pe_ix ix_list (pv 0) pe_int (fun _ _ => rfl)) pe_int (nomark _)) (pss_cons (ps_set (i := 3) nd rfl (.inl rfl) (pe_op op_mod (pe_callTy cx_int (by rfl) T.int (by decide +kernel) (pa_cons (pe_ix ix_list (pv 0) pe_int (fun _ _ => rfl)) pa_nil)) (pv 1)))
      (pss_cons (ps_asg (pe_op op_fdivW (pe_ix ix_list (pv 0) pe_int (fun _ _ => rfl)) (pv 1)) (pg_sub (pv 0) pe_int setx_list))
      (pss_one (ps_ret (pv 3))))) pss_nil)
      (pss_cons (ps_asg (pe_op op_mod (pe_callTy cx_int (by rfl) T.int (by decide +kernel) (pa_cons (pe_op op_add (pe_op op_mul (pe_ix ix_list (pv 0) pe_int (fun _ _ => rfl)) pe_int) pe_int) pa_nil)) pe_int) (pg_sub (pv 0) pe_int setx_list))
      (pss_one (ps_ret (pe_op op_mod (pe_callTy cx_int (by rfl) T.int (by decide +kernel) (pa_cons (pe_op op_fdivW (pe_op op_mod (pe_callTy cx_int (by rfl) T.int (by decide +kernel) (pa_cons (pe_op op_mul (pe_ix ix_list (pv 0) pe_int (fun _ _ => rfl)) pe_int) pa_nil)) pe_int) pe_int) pa_nil)) (pv 1))))))), ?_⟩
    refine ⟨fun σ' H' => ∃ (v : Option V) (i g st : Int), σ' = [some (.ref b), some (.int lim), v, none] ∧ Xb [b] H H' ∧ BagS b l H' ns i g st, ?_, ?_⟩
    · have same : ∃ (v : Option V) (i g st : Int), ([some (.ref b), some (.int lim), none, none] : L2.St) = [some (.ref b), some (.int lim), v, none] ∧ Xb [b] H H ∧ BagS b l H ns i g st := ⟨none, i, g, st, rfl, Xb.refl H, B⟩
      refine ⟨_, rfl, _, _, _, _, rfl, rfl, SqL.of B.hb, rfl, rfl, _, rfl, ?_⟩
      refine ite2 (fun c1 => ?_) (fun _ => iteF same)
      refine ⟨_, rfl, _, _, _, _, rfl, rfl, SqL.of B.hb, rfl, _, rfl, _, _, _, _, rfl, rfl, SqL.of B.hb, rfl, _, _, rfl, .inl (SqL.of B.hl), _, _, rfl, rfl, _, rfl, ?_⟩
      refine ite2 (fun c2 => ?_) (fun _ => same)
      have c2 : i < ((ns.map V.int).length : Int) := of_decide_eq_true c2
      rw [List.length_map] at c2
      obtain ⟨z, hz⟩ : ∃ z, ns[i.toNat]? = some z := ⟨ns[i.toNat]'(by have := B.i0; omega), List.getElem?_eq_getElem _⟩
      have hzV : atI (ns.map V.int) i = some (.int z) := by
        refine at_of (j := i.toNat) (by have := B.i0; omega) ?_
        rw [List.getElem?_map, hz]
        rfl
      refine ⟨_, rfl, _, _, _, _, rfl, rfl, SqL.of B.hb, rfl, _, rfl, _, _, _, _, rfl, rfl, SqL.of B.hb, rfl, _, _, _, _, rfl, rfl, SqL.of B.hl, hzV, ?_⟩
      refine ⟨_, rfl, _, _, _, _, rfl, rfl, SqL.of B.hb, ⟨by decide, by decide⟩, rfl, _, _, rfl, rfl, _, _, _, _, rfl, rfl, B.hb, rfl, ?_⟩
      refine ⟨_, rfl, _, _, rfl, rfl, ⟨by decide, by decide, by decide⟩, _, _, rfl, rfl, _, rfl, ?_⟩
      have hb1 : (upd H b (.lst [.ref l, .int (i + 1), .int g, .int st])) b = some (.lst [.ref l, .int (i + 1), .int g, .int st]) := upd_same
      have hl1' : (upd H b (.lst [.ref l, .int (i + 1), .int g, .int st])) l = some (.lst (ns.map V.int)) := (upd_ne nlb).trans B.hl
      have x1 : Xb [b] H (upd H b (.lst [.ref l, .int (i + 1), .int g, .int st])) := Xb.put
      refine ite2 (fun c3 => ?_) (fun _ => ?_)
      · have c3 : (10 : Int) ^ (18 : Int).toNat ≤ z := of_decide_eq_true c3
        have : (0 : Int) ≤ 10 ^ (18 : Int).toNat := by decide +kernel
        refine ⟨_, rfl, _, rfl, _, _, rfl, rfl, _, _, hb1, rfl, fun H2 x2 h2 => ?_⟩
        have := B.i0
        exact ⟨_, i + 1, z, st, rfl, x1.trans x2, h2, x2.get1 nlb hl1', B.len, by omega, by have := B.len; omega, by omega, B.s0, B.sN⟩
      · refine ⟨_, rfl, _, _, _, _, rfl, rfl, SqL.of hb1, rfl, _, _, rfl, rfl, .inr ⟨by decide, by decide⟩, _, rfl, _, _, rfl, rfl, .inr ⟨by decide, by decide⟩, _, _, rfl, rfl, _, rfl, _, _, _, _, rfl, rfl, SqL.of hb1, rfl, _, _, rfl, rfl, _, rfl, _, _, rfl, rfl, (by show (0 : Int) < 2147483629; decide), _, rfl, _, _, rfl, rfl, _, _, hb1, rfl, fun H2 x2 h2 => ?_⟩
        have := B.i0
        exact ⟨_, i + 1, g, _, rfl, x1.trans x2, h2, x2.get1 nlb hl1', B.len, by omega, by have := B.len; omega, B.g0, Int.emod_nonneg _ (by decide), Int.emod_lt_of_pos _ (by decide)⟩
    · rintro σ' H' ⟨v, i, g, st, rfl, x, B⟩
      refine ⟨_, rfl, _, _, _, _, rfl, rfl, SqL.of B.hb, rfl, _, _, rfl, rfl, _, rfl, ?_⟩
      refine ite2 (fun c1 => ?_) (fun _ => ?_)
      · have c1 : (0 : Int) < g := of_decide_eq_true c1
        refine ⟨_, rfl, _, _, _, _, rfl, rfl, SqL.of B.hb, rfl, _, rfl, _, rfl, _, _, rfl, rfl, hl.1, ?_⟩
        refine ⟨_, rfl, _, _, _, _, rfl, rfl, SqL.of B.hb, rfl, _, rfl, _, _, rfl, rfl, wide_div hl.1 hl.2 (by decide) (by decide), _, rfl, _, _, rfl, rfl, _, _, B.hb, rfl, fun H2 x2 h2 => ⟨_, rfl, ?_⟩⟩
        exact k _ _ (x.trans x2) ⟨nlb, ns, i, g / lim, st, h2, x2.get1 nlb B.hl, B.len, B.i0, B.iN, Int.ediv_nonneg B.g0 (Int.le_of_lt hl.1), B.s0, B.sN⟩ (Int.emod_nonneg _ (Int.ne_of_gt hl.1)) (Int.emod_lt_of_pos _ hl.1)
      · refine ⟨_, rfl, _, _, _, _, rfl, rfl, SqL.of B.hb, rfl, _, _, rfl, rfl, .inr ⟨by decide, by decide⟩, _, _, rfl, rfl, _, rfl, _, _, rfl, rfl, (by show (0 : Int) < 2147483629; decide), _, rfl, _, _, rfl, rfl, _, _, B.hb, rfl, fun H2 x2 h2 => ?_⟩
        refine ⟨_, rfl, _, _, _, _, rfl, rfl, SqL.of h2, rfl, _, _, rfl, rfl, .inr ⟨by decide, by decide⟩, _, rfl, _, _, rfl, rfl, (by show (0 : Int) < 2147483587; decide), _, _, rfl, rfl, wide_div (b := 250) (by decide) (by decide) (by decide) (by decide), _, rfl, _, rfl, _, _, rfl, rfl, hl.1, ?_⟩
        exact k _ _ (x.trans x2) ⟨nlb, ns, i, g, _, h2, x2.get1 nlb B.hl, B.len, B.i0, B.iN, B.g0, Int.emod_nonneg _ (by decide), Int.emod_lt_of_pos _ (by decide)⟩ (Int.emod_nonneg _ (Int.ne_of_gt hl.1)) (Int.emod_lt_of_pos _ hl.1)
abbrev sBadOrder_init : Stmt := inClass (top 3) 0
theorem scBadOrder_init : FnScope ["self", "entry"] ["self", "entry"] (defScope sBadOrder_init) := ⟨rfl, rfl, rfl, by decide +kernel, rfl, by decide +kernel, by decide +kernel⟩
theorem okBadOrder_init {f : Addr} {fd : FuncData} (F : FunD K "__init__" "BadOrder.__init__" (defArgs sBadOrder_init) (defBody sBadOrder_init) (defScope sBadOrder_init) [] [] f fd) (T : Txt K mg) : FnOk P w K mg base CX0 1 f fd ["self", "entry"] (spXI1 (He.ga K "BadOrder") "entry") := by
  have nd := scBadOrder_init.nd
  refine F.ok scBadOrder_init (fun vs H Q E h => ?_) (fun cdv A outer s H vs Q E hr h => ?_)
  · obtain ⟨a, v, rfl, h, k⟩ := h
    rfl
  · obtain ⟨a, v, rfl, h, k⟩ := h
    refine ⟨_, (pss_cons (ps_expr (pe_obinit T.exb (by rfl) (pa_cons (pv 0) (pa_cons pe_str pa_nil))))
      (pss_one (ps_ost (pv 0) (pv 1)))), ?_⟩
    refine ⟨_, rfl, _, (He.ga K "BadOrder"), [_], rfl, by decide, T.ex_BadOrder.ox, h, ?_⟩
    exact ⟨_, rfl, _, rfl, a, _, rfl, T.ex_BadOrder.ox, T.ex_BadOrder.no _ (.head _), .inl ⟨h, fun dx hd ne => k dx hd ne⟩⟩
abbrev sOrder_init : Stmt := inClass (top 7) 0
theorem scOrder_init : FnScope ["self", "passes", "at", "entry"] ["self", "passes"] (defScope sOrder_init) := ⟨rfl, rfl, rfl, by decide +kernel, rfl, by decide +kernel, by decide +kernel⟩
theorem okOrder_init {f : Addr} {fd : FuncData} (F : FunD K "__init__" "Order.__init__" (defArgs sOrder_init) (defBody sOrder_init) (defScope sOrder_init) [] [] f fd) (T : Txt K mg) (cBadOrder : Rz1 P w K mg base 1 "BadOrder" "entry") : FnR P w K mg base (L2.CX P w) 3 f (fun vs H Q E => ∃ ws rest, vs = ws ++ rest ∧ ws.length = 1 ∧ rest.length ≤ sizeLine ∧ ∀ p H', Fr H p → Xb [] H H' → H' p = some (.tup rest) → (spOrdI (He.ga K "Order") (He.ga K "BadOrder")) (ws ++ [V.ref p]) H' Q E) := by
  have nd := scOrder_init.nd
  refine okV (ps := ["self"]) (pv := "passes") F scOrder_init (fun _ _ _ _ _ _ => bs1 (fun _ => rfl) (fun _ _ _ => rfl)) (fun cdv A outer s H vs Q E hr h => ?_)
  · obtain ⟨a, d, p, ss, rfl, ha, hp, kQ, kE⟩ := h
    refine ⟨_, (pss_cons (ps_for (passes_of rfl) rfl (pi_enumT (by rfl) T.enumerate (pa_cons (pv 1) pa_nil)) (pg_tup (by rfl) (pgs_cons (pg_name (i := 2) nd rfl (.inl rfl)) (pgs_cons (pg_name (i := 3) nd rfl (.inl rfl)) pgs_nil))) (pss_one (ps_if (PW.pt (pw_or (pt_cmpR op_ge (pv 2) (pe_glob (v := .int _) (by rfl) T.mg_MOST_PASSES.choose_spec ⟨_, rfl⟩) (nomark _)) (pw_or1 (pt_cmpR op_notIn_seq (pv 3) (pe_glob (v := .ref _) (by rfl) T.k_PASSES.ex.choose_spec.1 rfl) (by rfl))))) (pss_one (ps_raise rfl (takes_of rfl rfl rfl rfl) (pz1 cBadOrder hr (by rfl) (pv 3)))) pss_nil)))
      (pss_one (sx_fld T.cl_Order T.na_Order_passes (pv 0) (pe_callTy call_tupleT (by rfl) T.tuple (by decide +kernel) (pa_cons (pv 1) pa_nil))))), ?_⟩
    refine ⟨_, rfl, _, _, rfl, (by wtm_at "sq"), for_enumT (K := K) (a := p) (xs := ss.map V.str) (fun i σ H' => ∃ (v2 v3 : Option V), σ = [some (.ref a), some (.ref p), v2, v3] ∧ Xb [] H H' ∧ fb 0 ss = fb i (ss.drop i)) ?_ ?_ ?_ ?_⟩
    · exact ⟨none, none, rfl, Xb.refl _, rfl⟩
    · rintro i σ H1 hi ⟨v2, v3, rfl, x1, e1⟩
      exact SqT.of (x1.get0 hp)
    · rintro i y σ H1 hi ⟨v2, v3, rfl, x1, e1⟩ T1 K1 nT1 y1 hT1
      obtain ⟨z, hz, rfl⟩ : ∃ z, ss[i]? = some z ∧ V.str z = y := by simpa using hi
      refine ⟨_, _, rfl, (by wtm_at "sq"), rfl, _, _, rfl, _, _, rfl, rfl, _, rfl, _, _, rfl, rfl, _, rfl, ?_⟩
      refine ite2 (fun c2 => ?_) (fun c2 => ?_)
      · (try simp only [if_true, if_false, decide_eq_true_eq, Bool.not_eq_true', Bool.not_eq_false, decide_eq_false_iff_not, Decidable.not_not, V.int.injEq, V.str.injEq, V.bl.injEq] at c2)
        refine iteT ?_
        refine ⟨_, rfl, fun d3 H3 nd3 x3 h3 => ?_⟩
        refine kE z ?_ _ _ (by wtm_at "xb") (by assumption)
        rw [e1, fb_step hz, if_pos (by first | exact .inl (by omega) | exact .inr (noPass c4))]
      · (try simp only [if_true, if_false, decide_eq_true_eq, Bool.not_eq_true', Bool.not_eq_false, decide_eq_false_iff_not, Decidable.not_not, V.int.injEq, V.str.injEq, V.bl.injEq] at c2)
        refine ⟨_, rfl, _, _, rfl, .inr (T.k_PASSES.sq _), rfl, rfl, _, rfl, ?_⟩
        refine ite2 (fun c4 => ?_) (fun c4 => ?_)
        · (try simp only [if_true, if_false, decide_eq_true_eq, Bool.not_eq_true', Bool.not_eq_false, decide_eq_false_iff_not, Decidable.not_not, V.int.injEq, V.str.injEq, V.bl.injEq] at c4)
          refine ⟨_, rfl, fun d5 H5 nd5 x5 h5 => ?_⟩
          refine kE z ?_ _ _ (by wtm_at "xb") (by assumption)
          rw [e1, fb_step hz, if_pos (by first | exact .inl (by omega) | exact .inr (noPass c4))]
        · (try simp only [if_true, if_false, decide_eq_true_eq, Bool.not_eq_true', Bool.not_eq_false, decide_eq_false_iff_not, Decidable.not_not, V.int.injEq, V.str.injEq, V.bl.injEq] at c4)
          exact ⟨_, _, rfl, by wtm_at "xb", by rw [e1, fb_step hz, if_neg]; rintro (q | q); exact c2 (by omega); exact q (isPass c4)⟩
    · rintro σ H1 ⟨v2, v3, rfl, x1, e1⟩
      rw [List.length_map, List.drop_length] at e1
      refine ⟨_, rfl, _, _, rfl, (by wtm_at "sq"), _, rfl, _, _, _, rfl, (by wtm_at "hp"), (by wtm_at "ln"), fun H6 x6 h6 => ?_⟩
      exact kQ (by assumption) _ (by wtm_at "xb") (by assumption)
end
end My

namespace My
section
variable {P : Program} {w : World} {K : PySem.W.Frag} {mg : Str → Option Value} {base : Heap}

theorem ordNew {K : PySem.W.Frag} {C CB : Addr} : ∀ vs H Q E, spOrd C CB vs H Q E → spMk C (fun vs H Q E => ∃ ws rest, vs = ws ++ rest ∧ ws.length = 1 ∧ rest.length ≤ sizeLine ∧ ∀ p H', Fr H p → Xb [] H H' → H' p = some (.tup rest) → spOrdI C CB (ws ++ [V.ref p]) H' Q E) vs H Q E := by
  rintro vs H Q E ⟨ss, rfl, hl, kQ, kE⟩ a d H2 na nd ne x h1 h2
  refine ⟨[.ref a], _, rfl, rfl, by rw [List.length_map]; exact Nat.le_trans hl (by decide), fun p H3 np x3 hp => ⟨a, d, p, ss, rfl, x3.get0 h1, hp, fun g H4 x4 h4 => ⟨rfl, kQ g a d p H4 ((x.trans x3).loc na.e x4) h4 (x4.get1 (np.ne h1) hp)⟩, fun z hz e H4 x4 h4 => kE z hz e H4 ((x.trans x3).trans x4) h4⟩⟩
theorem strOk_all {ss : List Str} (h : ss.all PyData.strOk = true) : PyData.canLayAll0 (ss.map PyData.str) = true ∧ PyData.depthAll (ss.map PyData.str) = 0 := by
  induction ss with
  | nil => exact ⟨rfl, rfl⟩
  | cons z r ih =>
    rw [List.all_cons, Bool.and_eq_true] at h
    obtain ⟨h1, h2⟩ := ih h.2
    simp [PyData.canLayAll0, PyData.canLay0, PyData.depthAll, PyData.depth, h.1, h1, h2]
/-- what comes of the passes ss -/
def outD (ss : List Str) : PyData := match fb 0 ss with
  | none => .tuple (ss.map PyData.str)
  | some z => .list [.str z]
theorem fb_mem : ∀ {ss : List Str} {i : Nat} {z : Str}, fb i ss = some z → z ∈ ss
  | y :: r, i, z, h => by
    unfold fb at h
    split at h
    · cases h
      exact .head _
    · exact .tail _ (fb_mem h)
theorem outD_ok {ss : List Str} (h : ss.all PyData.strOk = true) : SeqAt.shaped (outD ss) = true ∧ PyData.eqv (outD ss) (outD ss) = true := by
  have e : SeqAt.shaped (outD ss) = true := by
    unfold outD
    split
    · obtain ⟨h1, h2⟩ := strOk_all h
      simp [SeqAt.shaped, PyData.canLay0, PyData.depth, h1, h2]
    · rename_i z hz
      have := List.all_eq_true.mp h z (fb_mem hz)
      simp [SeqAt.shaped, PyData.canLay0, PyData.canLayAll0, PyData.depth, PyData.depthAll, this]
  exact ⟨e, SeqAt.eqv_refl _ (SeqAt.canLay_of_shaped e)⟩
def OutO (o : HO) (ss : List Str) : Prop := (fb 0 ss = none ∧ o = .tup (ss.map V.str)) ∨ (∃ z, fb 0 ss = some z ∧ o = .lst [.str z])
theorem OutO.dp {K : PySem.W.Frag} {H : Hp} {p : Addr} {o : HO} {ss : List Str} (h : H p = some o) (oo : OutO o ss) : Dp K H (.ref p) (outD ss) := by
  unfold outD
  rcases oo with ⟨e, rfl⟩ | ⟨z, e, rfl⟩
  · rw [e]
    exact .tup (SqT.of h) (dp_strs ss)
  · rw [e]
    exact .lst (SqL.of h) (.cons (.str z) .nil)
def spOut (K : PySem.W.Frag) : Sp := fun vs H Q _ => ∃ r, vs = [.ref r] ∧ ∃ ss : List Str, H r = some (.lst (ss.map V.str)) ∧ 5 ≤ ss.length ∧ ss.length ≤ 7 ∧ ∀ (p : Addr) (o : HO) (H' : Hp), Xb [] H H' → H' p = some o → OutO o ss → Q (.ref p) H'
def sp_law_wrong : Sp := fun vs H Q _ => ∃ b, vs = [.ref b] ∧ ∃ l, Bag b l H ∧ ∀ (z : Str) (H' : Hp), Xb [b] H H' → Bag b l H' → ¬ z ∈ passes → PyData.strOk z = true → Q (.str z) H'
def npV : V → Bool | .str z => !(passes.contains z) && PyData.strOk z | _ => true
theorem np_of {z : Str} {xs : List V} (h : V.str z ∈ xs) (a : xs.all npV = true) : ¬ z ∈ passes ∧ PyData.strOk z = true := by
  have := List.all_eq_true.mp a _ h
  simp only [npV, Bool.and_eq_true, Bool.not_eq_true'] at this
  refine ⟨fun m => ?_, this.2⟩
  rw [List.contains_iff_mem.mpr m] at this
  cases this.1
theorem ite5 {ss : List Str} {c A B : Prop} [Decidable c] (hc : c → ss.length = 5) (a : ∀ z0 z1 z2 z3 z4, ss = [z0, z1, z2, z3, z4] → A) (b : ¬ c → B) : if c then A else B := by
  refine ite2 (fun h => ?_) b
  match ss, hc h with
  | [z0, z1, z2, z3, z4], _ => exact a _ _ _ _ _ rfl
theorem ite6 {ss : List Str} {c A B : Prop} [Decidable c] (hc : c → ss.length = 6) (a : ∀ z0 z1 z2 z3 z4 z5, ss = [z0, z1, z2, z3, z4, z5] → A) (b : ¬ c → B) : if c then A else B := by
  refine ite2 (fun h => ?_) b
  match ss, hc h with
  | [z0, z1, z2, z3, z4, z5], _ => exact a _ _ _ _ _ _ rfl
theorem len7 {ss : List Str} (h : ss.length = 7) : ∃ z0 z1 z2 z3 z4 z5 z6, ss = [z0, z1, z2, z3, z4, z5, z6] := by
  match ss, h with
  | [z0, z1, z2, z3, z4, z5, z6], _ => exact ⟨_, _, _, _, _, _, _, rfl⟩

abbrev s_law_wrong : Stmt := top 11
theorem sc_law_wrong : FnScope ["_law_bag_here", "_law_rows"] ["_law_bag_here"] (defScope s_law_wrong) := ⟨rfl, rfl, rfl, by decide +kernel, rfl, by decide +kernel, by decide +kernel⟩
theorem ok_law_wrong {f : Addr} {fd : FuncData} (F : FunD K "_law_wrong" "_law_wrong" (defArgs s_law_wrong) (defBody s_law_wrong) (defScope s_law_wrong) [] [] f fd) (T : Txt K mg) (c_law_pick : Cf P w K mg base 1 "_law_pick" spPick) : FnOk P w K mg base (L2.CX P w) 2 f fd ["_law_bag_here"] sp_law_wrong := by
  have nd := sc_law_wrong.nd
  refine F.ok sc_law_wrong (fun vs H Q E h => ?_) (fun cdv A outer s H vs Q E hr h => ?_)
  · obtain ⟨b, rfl, l, B, k⟩ := h
    rfl
  · obtain ⟨b, rfl, l, B, k⟩ := h
    refine ⟨_, (pss_cons (ps_set (i := 1) nd rfl (.inl rfl) (px_lst (pa_cons pe_str (pa_cons pe_str (pa_cons pe_str (pa_cons pe_str (pa_cons pe_str (pa_cons pe_str (pa_cons pe_str (pa_cons pe_str pa_nil))))))))))
      (pss_cons (ps_expr (pe_bm PySem.F.plainAttrs_list PySem.F.slot_list_append PySem.F.type_list_append mx_append (pv 1) (pa_cons pe_str pa_nil)))
      (pss_cons (ps_set (i := 1) nd rfl (.inl rfl) (pe_op ox_cat (pv 1) (px_lst (pa_cons pe_str (pa_cons pe_str (pa_cons pe_str (pa_cons pe_str (pa_cons pe_str (pa_cons pe_str pa_nil)))))))))
      (pss_one (ps_ret (pe_ix ix_list (pv 1) (pn c_law_pick hr (by rfl) (pa_cons (pv 0) (pa_cons pe_int pa_nil))) (fun _ _ => rfl))))))), ?_⟩
    refine ⟨(by wtm_at "sd"), fun p1 H1 np1 x1 h1 => ?_⟩
    refine ⟨_, rfl, .inl ⟨rfl, _, (by wtm_at "sq")⟩, _, _, rfl, rfl, _, (by wtm_at "hp"), (by wtm_at "sd"), fun H2 x2 h2 => ?_⟩
    refine ⟨_, rfl, (by wtm_at "sd"), fun p3 H3 np3 x3 h3 => ?_⟩
    refine ⟨_, _, rfl, rfl, _, _, (by wtm_at "hp"), (by wtm_at "hp"), (by wtm_at "sd"), fun p4 H4 np4 x4 h4 => ?_⟩
    refine ⟨_, rfl, _, rfl, _, _, rfl, _, (by wtm_at "bg"), (by wtm_at "li"), fun n5 H5 x5 B5 n5a n5b => ?_⟩
    refine rd_ixS (by wtm_at "sq") (by omega) (by wtm_at "ln") rfl fun z6 mz6 => ?_
    have mz := mz6
    exact k _ _ (by wtm_at "xb") (by wtm_at "bg") (np_of mz (by decide +kernel)).1 (np_of mz (by decide +kernel)).2
abbrev s_law_outcome : Stmt := top 12
theorem sc_law_outcome : FnScope ["_law_rows", "_law_order", "e"] ["_law_rows"] (defScope s_law_outcome) := ⟨rfl, rfl, rfl, by decide +kernel, rfl, by decide +kernel, by decide +kernel⟩
theorem ok_law_outcome {f : Addr} {fd : FuncData} (F : FunD K "_law_outcome" "_law_outcome" (defArgs s_law_outcome) (defBody s_law_outcome) (defScope s_law_outcome) [] [] f fd) (T : Txt K mg) (cBadOrder : Rz1 P w K mg base 1 "BadOrder" "entry") (cOrder : Cf P w K mg base 4 "Order" (spOrd (He.ga K "Order") (He.ga K "BadOrder"))) : FnOk P w K mg base (L2.CX P w) 5 f fd ["_law_rows"] (spOut K) := by
  have nd := sc_law_outcome.nd
  refine F.ok sc_law_outcome (fun vs H Q E h => ?_) (fun cdv A outer s H vs Q E hr h => ?_)
  · obtain ⟨r, rfl, ss, hr_, h5, h7, k⟩ := h
    rfl
  · obtain ⟨r, rfl, ss, hr_, h5, h7, k⟩ := h
    refine ⟨_, (pss_cons (ps_tryA rfl rfl nd (i := 2) rfl rfl ⟨rfl, by decide, .inl T.ex_BadOrder.gC⟩ (takes_of rfl rfl rfl rfl) (fun W pn xe tk1 hp1 => (pss_one (ps_if (pt_cmpR op_eq (pe_callB call_len_seq (by rfl) T.len PySem.boot_len (pa_cons (pv 0) pa_nil)) pe_int (nomark _)) (pss_one (ps_set (i := 1) nd rfl (.inl rfl) (px cOrder hr tk1 (by rfl) (pa_cons (pe_ix ix_list (pv 0) pe_int (fun _ _ => rfl)) (pa_cons (pe_ix ix_list (pv 0) pe_int (fun _ _ => rfl)) (pa_cons (pe_ix ix_list (pv 0) pe_int (fun _ _ => rfl)) (pa_cons (pe_ix ix_list (pv 0) pe_int (fun _ _ => rfl)) (pa_cons (pe_ix ix_list (pv 0) pe_int (fun _ _ => rfl)) pa_nil)))))))) (pss_one (ps_if (pt_cmpR op_eq (pe_callB call_len_seq (by rfl) T.len PySem.boot_len (pa_cons (pv 0) pa_nil)) pe_int (nomark _)) (pss_one (ps_set (i := 1) nd rfl (.inl rfl) (px cOrder hr tk1 (by rfl) (pa_cons (pe_ix ix_list (pv 0) pe_int (fun _ _ => rfl)) (pa_cons (pe_ix ix_list (pv 0) pe_int (fun _ _ => rfl)) (pa_cons (pe_ix ix_list (pv 0) pe_int (fun _ _ => rfl)) (pa_cons (pe_ix ix_list (pv 0) pe_int (fun _ _ => rfl)) (pa_cons (pe_ix ix_list (pv 0) pe_int (fun _ _ => rfl)) (pa_cons (pe_ix ix_list (pv 0) pe_int (fun _ _ => rfl)) pa_nil))))))))) (pss_one (ps_set (i := 1) nd rfl (.inl rfl) (px cOrder hr tk1 (by rfl) (pa_cons (pe_ix ix_list (pv 0) pe_int (fun _ _ => rfl)) (pa_cons (pe_ix ix_list (pv 0) pe_int (fun _ _ => rfl)) (pa_cons (pe_ix ix_list (pv 0) pe_int (fun _ _ => rfl)) (pa_cons (pe_ix ix_list (pv 0) pe_int (fun _ _ => rfl)) (pa_cons (pe_ix ix_list (pv 0) pe_int (fun _ _ => rfl)) (pa_cons (pe_ix ix_list (pv 0) pe_int (fun _ _ => rfl)) (pa_cons (pe_ix ix_list (pv 0) pe_int (fun _ _ => rfl)) pa_nil)))))))))))))))
      (fun a oe cls d pn hz hf => (pss_one (ps_ret (px_lst (pa_cons (pe_xf T.ex_BadOrder.xf (T.ex_BadOrder.no _ (by wtm_at "me")) hz hf (pv 2)) pa_nil))))))
      (pss_one (ps_ret (px_fld T.cl_Order T.na_Order_passes (pv 1))))), ?_⟩
    intro pn1 xe1
    refine ⟨_, rfl, _, _, rfl, (by wtm_at "sq"), rfl, _, rfl, ?_⟩
    refine ite5 (ss := ss) (fun c => by simp at c; omega) (fun z0 z1 z2 z3 z4 e5 => ?_) (fun c5 => ?_)
    · subst e5
      refine ⟨_, rfl, _, _, _, _, rfl, rfl, (by wtm_at "sq"), (by wtm_at "ix"), _, rfl, _, _, _, _, rfl, rfl, (by wtm_at "sq"), (by wtm_at "ix"), _, rfl, _, _, _, _, rfl, rfl, (by wtm_at "sq"), (by wtm_at "ix"), _, rfl, _, _, _, _, rfl, rfl, (by wtm_at "sq"), (by wtm_at "ix"), _, rfl, _, _, _, _, rfl, rfl, (by wtm_at "sq"), (by wtm_at "ix"), ?_⟩
      refine ⟨[z0, z1, z2, z3, z4], rfl, by show (5 : Nat) ≤ 1000; decide, fun g2 a2 d2 p2 H2 x2 h2 hp2 => ?_, fun z2 hz2 e2 H2 x2 h2 => ?_⟩
      · refine ⟨_, rfl, _, _, _, _, rfl, (by wtm_at "hp"), rfl, ?_⟩
        exact k _ _ _ (by wtm_at "xb") (by assumption) (.inl ⟨(by assumption), rfl⟩)
      · refine ⟨true, T.ex_BadOrder.self, fun _ e2 ne2 => ?_, fun q => nomatch q⟩
        intro oe2 pf2
        refine ⟨_, rfl, rfl, rfl, _, _, _, rfl, (by wtm_at "hp"), rfl, (by wtm_at "sd"), fun p3 H3 np3 x3 h3 => ?_⟩
        exact k _ _ _ (by wtm_at "xb") (by assumption) (.inr ⟨_, (by assumption), rfl⟩)
    · refine ⟨_, rfl, _, _, rfl, (by wtm_at "sq"), rfl, _, rfl, ?_⟩
      refine ite6 (ss := ss) (fun c => by simp at c; omega) (fun z0 z1 z2 z3 z4 z5 e5 => ?_) (fun c6 => ?_)
      · subst e5
        refine ⟨_, rfl, _, _, _, _, rfl, rfl, (by wtm_at "sq"), (by wtm_at "ix"), _, rfl, _, _, _, _, rfl, rfl, (by wtm_at "sq"), (by wtm_at "ix"), _, rfl, _, _, _, _, rfl, rfl, (by wtm_at "sq"), (by wtm_at "ix"), _, rfl, _, _, _, _, rfl, rfl, (by wtm_at "sq"), (by wtm_at "ix"), _, rfl, _, _, _, _, rfl, rfl, (by wtm_at "sq"), (by wtm_at "ix"), _, rfl, _, _, _, _, rfl, rfl, (by wtm_at "sq"), (by wtm_at "ix"), ?_⟩
        refine ⟨[z0, z1, z2, z3, z4, z5], rfl, by show (6 : Nat) ≤ 1000; decide, fun g4 a4 d4 p4 H4 x4 h4 hp4 => ?_, fun z4 hz4 e4 H4 x4 h4 => ?_⟩
        · refine ⟨_, rfl, _, _, _, _, rfl, (by wtm_at "hp"), rfl, ?_⟩
          exact k _ _ _ (by wtm_at "xb") (by assumption) (.inl ⟨(by assumption), rfl⟩)
        · refine ⟨true, T.ex_BadOrder.self, fun _ e4 ne4 => ?_, fun q => nomatch q⟩
          intro oe4 pf4
          refine ⟨_, rfl, rfl, rfl, _, _, _, rfl, (by wtm_at "hp"), rfl, (by wtm_at "sd"), fun p5 H5 np5 x5 h5 => ?_⟩
          exact k _ _ _ (by wtm_at "xb") (by assumption) (.inr ⟨_, (by assumption), rfl⟩)
      · obtain ⟨z0, z1, z2, z3, z4, z5, z6, e7⟩ := len7 (ss := ss) (by simp at c5 c6; omega)
        subst e7
        refine ⟨_, rfl, _, _, _, _, rfl, rfl, (by wtm_at "sq"), (by wtm_at "ix"), _, rfl, _, _, _, _, rfl, rfl, (by wtm_at "sq"), (by wtm_at "ix"), _, rfl, _, _, _, _, rfl, rfl, (by wtm_at "sq"), (by wtm_at "ix"), _, rfl, _, _, _, _, rfl, rfl, (by wtm_at "sq"), (by wtm_at "ix"), _, rfl, _, _, _, _, rfl, rfl, (by wtm_at "sq"), (by wtm_at "ix"), _, rfl, _, _, _, _, rfl, rfl, (by wtm_at "sq"), (by wtm_at "ix"), _, rfl, _, _, _, _, rfl, rfl, (by wtm_at "sq"), (by wtm_at "ix"), ?_⟩
        refine ⟨[z0, z1, z2, z3, z4, z5, z6], rfl, by show (7 : Nat) ≤ 1000; decide, fun g6 a6 d6 p6 H6 x6 h6 hp6 => ?_, fun z6 hz6 e6 H6 x6 h6 => ?_⟩
        · refine ⟨_, rfl, _, _, _, _, rfl, (by wtm_at "hp"), rfl, ?_⟩
          exact k _ _ _ (by wtm_at "xb") (by assumption) (.inl ⟨(by assumption), rfl⟩)
        · refine ⟨true, T.ex_BadOrder.self, fun _ e6 ne6 => ?_, fun q => nomatch q⟩
          intro oe6 pf6
          refine ⟨_, rfl, rfl, rfl, _, _, _, rfl, (by wtm_at "hp"), rfl, (by wtm_at "sd"), fun p7 H7 np7 x7 h7 => ?_⟩
          exact k _ _ _ (by wtm_at "xb") (by assumption) (.inr ⟨_, (by assumption), rfl⟩)
end
end My

namespace My
section
variable {P : Program} {w : World} {K : PySem.W.Frag} {mg : Str → Option Value} {base : Heap}

theorem fb_none : ∀ {ss : List Str} {i : Nat}, (∀ z ∈ ss, z ∈ passes) → i + ss.length ≤ 6 → fb i ss = none
  | [], _, _, _ => rfl
  | z :: r, i, h, hl => by
    rw [List.length_cons] at hl
    unfold fb
    rw [if_neg]
    · exact fb_none (fun y m => h y (.tail _ m)) (by omega)
    · rintro (q | q)
      · omega
      · exact q (h z (.head _))
theorem fb_first : ∀ {ss : List Str} {i j : Nat} {z : Str}, ss[j]? = some z → (¬ z ∈ passes ∨ 6 ≤ i + j) → i + j ≤ 6 → (∀ k y, k < j → ss[k]? = some y → y ∈ passes) → fb i ss = some z
  | y :: r, i, 0, z, h, hz, hl, _ => by
    simp at h
    subst h
    unfold fb
    rw [if_pos]
    exact hz.symm.imp (fun q => by omega) id
  | y :: r, i, j + 1, z, h, hz, hl, hk => by
    unfold fb
    rw [if_neg]
    · exact fb_first (i := i + 1) (j := j) (by simpa using h) (hz.imp id fun q => by omega) (by omega) fun k x hkj hx => hk (k + 1) x (by omega) (by simpa using hx)
    · rintro (q | q)
      · omega
      · exact q (hk 0 y (by omega) (by simp))
/-- rows that are all passes -/
structure Good (ss : List Str) : Prop where
  lo : 5 ≤ ss.length
  hi : ss.length ≤ 7
  all : ∀ z ∈ ss, z ∈ passes
theorem pass_ok {z : Str} (h : z ∈ passes) : PyData.strOk z = true := List.all_eq_true.mp (by decide +kernel : passes.all PyData.strOk = true) z h
theorem Good.ok {ss : List Str} (g : Good ss) : ss.all PyData.strOk = true := List.all_eq_true.mpr fun z m => pass_ok (g.all z m)
theorem Good.out {ss : List Str} (g : Good ss) (h : ss.length < 7) : fb 0 ss = none := fb_none g.all (by omega)
theorem Good.out7 {ss : List Str} (g : Good ss) (h : ¬ ss.length < 7) : ∃ z, ss[6]? = some z ∧ fb 0 ss = some z := by
  have e : ss.length = 7 := by have := g.hi; omega
  refine ⟨ss[6], List.getElem?_eq_getElem _, fb_first (j := 6) (List.getElem?_eq_getElem _) (.inr (by omega)) (by omega) fun k y hk hy => g.all y (List.mem_of_getElem? hy)⟩
/-- rows with a first bad one at j -/
structure Bad (ss : List Str) (j : Nat) (z : Str) : Prop where
  lo : 5 ≤ ss.length
  hi : ss.length ≤ 7
  at_ : ss[j]? = some z
  no : ¬ z ∈ passes
  ok : ss.all PyData.strOk = true
  pre : ∀ k y, k < j → ss[k]? = some y → y ∈ passes
theorem Bad.lt {ss : List Str} {j : Nat} {z : Str} (b : Bad ss j z) : j < ss.length := (List.getElem?_eq_some_iff.mp b.at_).1
theorem Bad.out {ss : List Str} {j : Nat} {z : Str} (b : Bad ss j z) : fb 0 ss = some z := fb_first b.at_ (.inl b.no) (by have := b.lt; have := b.hi; omega) b.pre
theorem all_set {f : Str → Bool} {z : Str} : ∀ {ss : List Str} {j : Nat}, ss.all f = true → f z = true → (ss.set j z).all f = true
  | [], _, h, _ => h
  | y :: r, 0, h, hz => by
    rw [List.all_cons, Bool.and_eq_true] at h
    simp [List.set, hz]
    simpa using h.2
  | y :: r, j + 1, h, hz => by
    rw [List.all_cons, Bool.and_eq_true] at h
    rw [List.set_cons_succ, List.all_cons, Bool.and_eq_true]
    exact ⟨h.1, all_set h.2 hz⟩
theorem Good.bad {ss : List Str} {j : Nat} {z : Str} (g : Good ss) (hj : j < ss.length) (no : ¬ z ∈ passes) (ok : PyData.strOk z = true) : Bad (ss.set j z) j z := by
  refine ⟨by rw [List.length_set]; exact g.lo, by rw [List.length_set]; exact g.hi, by simp [hj], no, all_set g.ok ok, fun k y hk hy => ?_⟩
  rw [List.getElem?_set_ne (by omega)] at hy
  exact g.all y (List.mem_of_getElem? hy)
theorem Bad.more {ss : List Str} {j i : Nat} {z y : Str} (b : Bad ss j z) (hi : j < i) (ok : PyData.strOk y = true) : Bad (ss.set i y) j z := by
  refine ⟨by rw [List.length_set]; exact b.lo, by rw [List.length_set]; exact b.hi, by rw [List.getElem?_set_ne (by omega)]; exact b.at_, b.no, all_set b.ok ok, fun k y hk hy => ?_⟩
  rw [List.getElem?_set_ne (by omega)] at hy
  exact b.pre k y hk hy
theorem ixN_of {n : Nat} {k : Int} (h0 : 0 ≤ k) (h1 : k < n) : ixN n k = some k.toNat := by
  unfold ixN
  rw [if_pos h0, if_pos h1]
theorem bad_eq {z : Str} : outD [z] = outD [z] := rfl
theorem Bad.outD {ss : List Str} {j : Nat} {z : Str} (b : Bad ss j z) : outD ss = .list [.str z] := by
  unfold My.outD
  rw [b.out]
def spLaw : Sp := fun vs H Q _ => ∃ a, vs = [.ref a] ∧ ∃ ns : List Int, SqL K H a (ns.map V.int) ∧ ns.length ≤ 63 ∧ ∀ H', Q (.bl true) H'

abbrev slaw : Stmt := top 13
theorem sclaw : FnScope ["_law_script", "_law_bag_here", "_law_words", "_law_turn", "_law_rows", "_law_due", "_law_bad", "_law_at", "_law_k"] ["_law_script"] (defScope slaw) := ⟨rfl, rfl, rfl, by decide +kernel, rfl, by decide +kernel, by decide +kernel⟩
theorem oklaw {f : Addr} {fd : FuncData} (F : FunD K "law" "law" (defArgs slaw) (defBody slaw) (defScope slaw) [] [] f fd) (T : Txt K mg) (c_law_bag : Cf P w K mg base 1 "_law_bag" (spBag K)) (c_law_pick : Cf P w K mg base 1 "_law_pick" spPick) (c_law_wrong : Cf P w K mg base 2 "_law_wrong" sp_law_wrong) (c_law_outcome : Cf P w K mg base 5 "_law_outcome" (spOut K)) : FnOk P w K mg base CX0 6 f fd ["_law_script"] (spLaw (K := K)) := by
  have nd := sclaw.nd
  refine F.ok sclaw (fun vs H Q E h => ?_) (fun cdv A outer s H vs Q E hr h => ?_)
  · obtain ⟨a, rfl, ns, hS, hlen, k⟩ := h
    rfl
  · obtain ⟨a, rfl, ns, hS, hlen, k⟩ := h
    refine ⟨_, PSs.nox (pss_cons (ps_set (i := 1) nd rfl (.inr rfl) (pn c_law_bag hr (by rfl) (pa_cons (pv 0) pa_nil)))
      (pss_cons (ps_set (i := 2) nd rfl (.inr rfl) (px_lst (pa_cons pe_str (pa_cons pe_str (pa_cons pe_str (pa_cons pe_str (pa_cons pe_str pa_nil)))))))
      (pss_cons (ps_for PassesOwn.never rfl (pi_range1 (by rfl) T.range (pa_cons pe_int pa_nil)) (pg_name (i := 3) nd rfl (.inl rfl)) (pss_cons (ps_setLc (i := 4) (own := [("_law_k", 8)]) (g := (gName 8)) (tt := tYes) rfl nd rfl rfl (sw_true rfl rfl rfl (by decide +kernel)) (pi_range1 (by rfl) T.range (pa_cons (pe_op op_add pe_int (pn c_law_pick hr (by rfl) (pa_cons (pv 1) (pa_cons pe_int pa_nil)))) pa_nil)) (blkOk_by (own := [("_law_k", 8)]) (N := ["_law_script", "_law_bag_here", "_law_words", "_law_turn", "_law_rows", "_law_due", "_law_bad", "_law_at", "_law_k"]) (sc := defScope slaw) (by decide +kernel)) (fun _ _ _ _ _ => (pg_name (i := 8) nd rfl (.inl rfl))) (fun _ _ _ _ _ => pts_nil) (eA fun _ _ _ _ _ => (pe_ix ix_list (pv 2) (pn c_law_pick hr (by rfl) (pa_cons (pv 1) (pa_cons pe_int pa_nil))) (fun _ _ => rfl))))
      (pss_cons (ps_mid (ps_set (i := 5) nd rfl (.inl rfl) (pe_ifExp (pt_cmpR op_lt (pe_callB call_len_seq (by rfl) T.len PySem.boot_len (pa_cons (pv 4) pa_nil)) pe_int (nomark _)) (pe_callTy cx_tuple (by rfl) T.tuple (by decide +kernel) (pa_cons (pv 4) pa_nil)) (px_lst (pa_cons (pe_ix ix_list (pv 4) pe_int (fun _ _ => rfl)) pa_nil)))))
      (pss_cons (ps_if (pt_cmpR (op_neD hr.units) (pn c_law_outcome hr (by rfl) (pa_cons (pv 4) pa_nil)) (pv 5) (nomark _)) (pss_one (ps_ret pe_bl)) pss_nil)
      (pss_cons (ps_set (i := 6) nd rfl (.inl rfl) (pe_callTy cx_list (by rfl) T.list (by decide +kernel) (pa_cons (pv 4) pa_nil)))
      (pss_cons (ps_set (i := 7) nd rfl (.inl rfl) (pn c_law_pick hr (by rfl) (pa_cons (pv 1) (pa_cons (pe_callB call_len_seq (by rfl) T.len PySem.boot_len (pa_cons (pv 6) pa_nil)) pa_nil))))
      (pss_cons (ps_asg (pn c_law_wrong hr (by rfl) (pa_cons (pv 1) pa_nil)) (pg_sub (pv 6) (pv 7) setx_list))
      (pss_cons (ps_mid (ps_if (PW.pt (pw_and (pt_cmpR op_eq (pn c_law_pick hr (by rfl) (pa_cons (pv 1) (pa_cons pe_int pa_nil))) pe_int (nomark _)) (pw_and1 (pt_cmpR op_lt (pe_op op_add (pv 7) pe_int) (pe_callB call_len_seq (by rfl) T.len PySem.boot_len (pa_cons (pv 6) pa_nil)) (nomark _))))) (pss_one (ps_asg pe_str (pg_sub (pv 6) (pe_op op_add (pe_op op_add (pv 7) pe_int) (pn c_law_pick hr (by rfl) (pa_cons (pv 1) (pa_cons (pe_op op_sub (pe_op op_sub (pe_callB call_len_seq (by rfl) T.len PySem.boot_len (pa_cons (pv 6) pa_nil)) (pv 7)) pe_int) pa_nil)))) setx_list))) pss_nil))
      (pss_one (ps_if (PW.pt (pw_or (pt_cmpR (op_neD hr.units) (pn c_law_outcome hr (by rfl) (pa_cons (pv 6) pa_nil)) (px_lst (pa_cons (pe_ix ix_list (pv 6) (pv 7) (fun _ _ => rfl)) pa_nil)) (nomark _)) (pw_or1 (pt_cmpR (op_neD hr.units) (pn c_law_outcome hr (by rfl) (pa_cons (pv 4) pa_nil)) (pv 5) (nomark _))))) (pss_one (ps_ret pe_bl)) pss_nil))))))))))
      (pss_one (ps_ret pe_bl))))), ?_⟩
    refine ⟨_, rfl, _, rfl, _, (by wtm_at "sq"), (by assumption), fun b l H1 B x1 => ?_⟩
    refine ⟨(by wtm_at "sd"), fun pw Hw npw xw hw => ?_⟩
    refine ⟨_, rfl, (by wtm_at "rg"), (by wtm_at "rg"), for_range (n := 4) (fun i σ H' => ∃ (v3 v4 v5 v6 v7 : Option V), σ = [some (.ref a), some (.ref b), some (.ref pw), v3, v4, v5, v6, v7, none] ∧ Bag b l H' ∧ H' pw = some (.lst (passes.map V.str)) ∧ pw ≠ b) ?_ ?_ ?_⟩
    · exact ⟨none, none, none, none, none, rfl, by wtm_at "bg", by assumption, by wtm_at "ne"⟩
    · rintro i σ H3 hi ⟨v3, v4, v5, v6, v7, rfl, B3, hp3, newb⟩
      refine ⟨_, rfl, _, _, rfl, _, (by wtm_at "bg"), (by wtm_at "li"), fun n4 H4 x4 B4 n4a n4b => ?_⟩
      refine ⟨_, _, rfl, rfl, _, rfl, (by wtm_at "rg"), (by wtm_at "rg"), fun r hD5 => lc_range (lo := (0 : Int)) (n := _) (LcI (fun e H' acc => Bag b l H' ∧ H' pw = some (.lst (passes.map V.str)) ∧ ∃ ss : List Str, acc = ss.map V.str ∧ ss.length = e ∧ ∀ z ∈ ss, z ∈ passes) r) ?_ ?_ ?_⟩
      · refine LcI.start hD5 fun H5a np5a x5a h5a => ?_
        exact ⟨by wtm_at "bg", by wtm_at "hp", [], rfl, rfl, fun z m => nomatch m⟩
      · rintro e H5 he ⟨acc, hD5b, B5, hp5, ss, rfl, hl5, ha5⟩
        have fD5 := Fr.mk hD5
        have neb : r ≠ b := by wtm_at "ne"
        have nel : r ≠ l := Bag.nel fD5 (by assumption)
        have new : r ≠ pw := by wtm_at "ne"
        refine ⟨rfl, fun _ _ _ _ _ => ?_⟩
        refine ⟨_, rfl, _, rfl, _, _, rfl, _, (by wtm_at "bg"), (by wtm_at "li"), fun n6 H6 x6 B6 n6a n6b => ?_⟩
        refine rd_ixS (by wtm_at "sq") (by omega) (by show _ < ((5 : Nat) : Int); omega) rfl fun z7 mz7 => ?_
        have pz : z7 ∈ passes := by simpa using mz7
        refine ⟨_, (by wtm_at "hp"), (by wtm_at "sd"), LcI.put fun H5b x5b h5b => ?_⟩
        refine ⟨by wtm_at "bg", by wtm_at "hp", ss ++ [_], map_snoc V.str ss _, by rw [List.length_append, hl5]; rfl, fun z m => ?_⟩
        rcases List.mem_append.mp m with m | m
        · exact ha5 z m
        · rw [List.mem_singleton.mp m]; exact pz
      · rintro H5 ⟨acc, hD5b, B5, hp5, ss, rfl, hl5, ha5⟩
        have fD5 := Fr.mk hD5
        have neb : r ≠ b := by wtm_at "ne"
        have g : Good ss := ⟨by omega, by omega, ha5⟩
        refine ⟨fun σ' H' => ∃ (pd : Addr) (od : HO) (v3 : Option V), σ' = [some (.ref a), some (.ref b), some (.ref pw), v3, some (.ref r), some (.ref pd), v6, v7, none] ∧ Bag b l H' ∧ H' pw = some (.lst (passes.map V.str)) ∧ H' r = some (.lst (ss.map V.str)) ∧ H' pd = some od ∧ OutO od ss ∧ pd ≠ b, ?_, ?_⟩
        · refine ⟨_, rfl, _, _, rfl, (by wtm_at "sq"), _, _, rfl, rfl, _, rfl, ?_⟩
          refine ite2 (fun c9 => ?_) (fun c9 => ?_)
          · (try simp only [if_true, if_false, decide_eq_true_eq, Bool.not_eq_true', Bool.not_eq_false, decide_eq_false_iff_not, Decidable.not_not, V.int.injEq, V.str.injEq, V.bl.injEq] at c9)
            refine ⟨_, rfl, _, rfl, _, (by wtm_at "sq"), fun p10 H10 np10 x10 h10 => ?_⟩
            exact ⟨_, _, _, rfl, by wtm_at "bg", by wtm_at "hp", by wtm_at "hp", by assumption, by first | exact .inl ⟨g.out (by simp only [List.length_map] at *; omega), rfl⟩ | exact .inr ⟨_, hz6.2, rfl⟩, by wtm_at "ne"⟩
          · (try simp only [if_true, if_false, decide_eq_true_eq, Bool.not_eq_true', Bool.not_eq_false, decide_eq_false_iff_not, Decidable.not_not, V.int.injEq, V.str.injEq, V.bl.injEq] at c9)
            refine ⟨_, rfl, ?_⟩
            obtain ⟨z6, hz6⟩ := g.out7 (by simp only [List.length_map] at *; omega)
            refine ⟨_, _, _, _, rfl, rfl, (by wtm_at "sq"), (at_of (j := 6) (by omega) (by rw [List.getElem?_map, hz6.1]; rfl)), ?_⟩
            refine ⟨(by wtm_at "sd"), fun p12 H12 np12 x12 h12 => ?_⟩
            exact ⟨_, _, _, rfl, by wtm_at "bg", by wtm_at "hp", by wtm_at "hp", by assumption, by first | exact .inl ⟨g.out (by simp only [List.length_map] at *; omega), rfl⟩ | exact .inr ⟨_, hz6.2, rfl⟩, by wtm_at "ne"⟩
        · rintro σ' H8 ⟨pd, od, v3, rfl, B8, hp8, hr8, hd8, ood, ned⟩
          refine ⟨_, rfl, _, rfl, ss, (by wtm_at "hp"), g.lo, g.hi, fun p13 o13 H13 x13 h13 oo13 => ?_⟩
          refine ⟨_, rfl, _, _, (OutO.dp (by wtm_at "hp") (by assumption)), (OutO.dp (by wtm_at "hp") (by assumption)), (outD_ok g.ok).1, (outD_ok g.ok).1, _, rfl, ?_⟩
          refine ite_F (by rw [(outD_ok g.ok).2]; decide) ?_
          refine ⟨_, rfl, _, rfl, _, (by wtm_at "sq"), fun q H14 npq x14 h14 => ?_⟩
          refine ⟨_, rfl, _, rfl, _, _, rfl, (by wtm_at "sq"), _, _, rfl, _, (by wtm_at "bg"), (by wtm_at "li"), fun at_ H15 x15 B15 at0 at1 => ?_⟩
          rw [List.length_map] at at1
          refine ⟨_, rfl, _, rfl, _, (by wtm_at "bg"), fun zb H16 x16 B16 nob okb => ?_⟩
          refine ⟨_, rfl, _, rfl, _, _, rfl, rfl, _, _, (by wtm_at "hp"), (ixN_of (by omega) (by wtm_at "ln")), fun H17 x17 h17 => ?_⟩
          rw [← List.map_set] at h17
          have bd0 := g.bad (j := at_.toNat) (by omega) nob okb
          refine ⟨fun σ' H' => ∃ (ss' : List Str) (v3 : Option V), σ' = [some (.ref a), some (.ref b), some (.ref pw), v3, some (.ref r), some (.ref pd), some (.ref q), some (.int at_), none] ∧ Bag b l H' ∧ H' pw = some (.lst (passes.map V.str)) ∧ H' r = some (.lst (ss.map V.str)) ∧ H' pd = some od ∧ H' q = some (.lst (ss'.map V.str)) ∧ Bad ss' at_.toNat zb, ?_, ?_⟩
          · refine ⟨_, rfl, _, _, rfl, _, (by wtm_at "bg"), (by wtm_at "li"), fun n19 H19 x19 B19 n19a n19b => ?_⟩
            refine ⟨rfl, _, rfl, ?_⟩
            refine ite2 (fun c20 => ?_) (fun c20 => ?_)
            · (try simp only [if_true, if_false, decide_eq_true_eq, Bool.not_eq_true', Bool.not_eq_false, decide_eq_false_iff_not, Decidable.not_not, V.int.injEq, V.str.injEq, V.bl.injEq] at c20)
              refine ⟨_, rfl, _, _, rfl, rfl, _, rfl, _, _, rfl, (by wtm_at "sq"), _, _, rfl, rfl, _, rfl, ?_⟩
              refine ite2 (fun c21 => ?_) (fun c21 => ?_)
              · (try simp only [if_true, if_false, decide_eq_true_eq, Bool.not_eq_true', Bool.not_eq_false, decide_eq_false_iff_not, Decidable.not_not, V.int.injEq, V.str.injEq, V.bl.injEq] at c21)
                refine ⟨_, rfl, _, rfl, _, _, rfl, rfl, _, rfl, _, rfl, _, _, rfl, (by wtm_at "sq"), _, rfl, _, _, rfl, rfl, _, _, rfl, rfl, _, _, rfl, _, (by wtm_at "bg"), (LimOk.le (by omega) (by simp only [List.length_map, List.length_set] at *; have := g.hi; omega)), fun n22 H22 x22 B22 n22a n22b => ?_⟩
                refine ⟨_, _, rfl, rfl, _, _, rfl, rfl, _, _, (by wtm_at "hp"), (ixN_of (by omega) (by simp only [List.length_map, List.length_set] at *; omega)), fun H23 x23 h23 => ?_⟩
                rw [← List.map_set] at h23
                exact ⟨_, _, rfl, by wtm_at "bg", by wtm_at "hp", by wtm_at "hp", by wtm_at "hp", by wtm_at "hp", by first | exact bd0.more (by omega) (by decide +kernel) | exact bd0⟩
              · (try simp only [if_true, if_false, decide_eq_true_eq, Bool.not_eq_true', Bool.not_eq_false, decide_eq_false_iff_not, Decidable.not_not, V.int.injEq, V.str.injEq, V.bl.injEq] at c21)
                exact ⟨_, _, rfl, by wtm_at "bg", by wtm_at "hp", by wtm_at "hp", by wtm_at "hp", by wtm_at "hp", by first | exact bd0.more (by omega) (by decide +kernel) | exact bd0⟩
            · (try simp only [if_true, if_false, decide_eq_true_eq, Bool.not_eq_true', Bool.not_eq_false, decide_eq_false_iff_not, Decidable.not_not, V.int.injEq, V.str.injEq, V.bl.injEq] at c20)
              refine iteF ?_
              exact ⟨_, _, rfl, by wtm_at "bg", by wtm_at "hp", by wtm_at "hp", by wtm_at "hp", by wtm_at "hp", by first | exact bd0.more (by omega) (by decide +kernel) | exact bd0⟩
          · rintro σ' H18 ⟨ss', v3, rfl, B18, hp18, hr18, hd18, hq18, bd⟩
            refine ⟨_, rfl, _, rfl, ss', (by wtm_at "hp"), bd.lo, bd.hi, fun p24 o24 H24 x24 h24 oo24 => ?_⟩
            refine ⟨_, rfl, _, rfl, _, _, _, _, rfl, rfl, (by wtm_at "sq"), (at_of (j := at_.toNat) (by omega) (by rw [List.getElem?_map, bd.at_]; rfl)), (by wtm_at "sd"), fun p25 H25 np25 x25 h25 => ?_⟩
            refine ⟨_, _, (OutO.dp (by wtm_at "hp") (by assumption)), .lst (SqL.of (by wtm_at "hp")) (.cons (.str zb) .nil), (outD_ok bd.ok).1, (by rw [← bd.outD]; exact (outD_ok bd.ok).1), _, rfl, ?_⟩
            refine ite_F (by rw [← bd.outD, (outD_ok bd.ok).2]; decide) ?_
            refine ⟨_, rfl, _, rfl, ss, (by wtm_at "hp"), g.lo, g.hi, fun p26 o26 H26 x26 h26 oo26 => ?_⟩
            refine ⟨_, rfl, _, _, (OutO.dp (by wtm_at "hp") (by assumption)), (OutO.dp (by wtm_at "hp") (by assumption)), (outD_ok g.ok).1, (outD_ok g.ok).1, _, rfl, ?_⟩
            refine ite_F (by rw [(outD_ok g.ok).2]; decide) ?_
            exact ⟨_, _, _, _, _, rfl, by wtm_at "bg", by wtm_at "hp", newb⟩
    · rintro σ H3 ⟨v3, v4, v5, v6, v7, rfl, B3, hp3, newb⟩
      exact k _
end
end My

open PySem PySem.Spec PyProof.Rows L2 My
namespace My
set_option maxHeartbeats 4000000
def fa : List He.Fa := [.int "MOST_PASSES" 6, .glo "_law_bag", .glo "_law_pick", .cls "Order", .noat "Order" "passes", .mkr "Order", .glo "Order", .glo "_law_wrong", .glo "_law_outcome", .glo "law", .free "enumerate", .free "tuple", .free "list", .free "int", .free "len", .free "range"]
def fn : List He.DefD := [⟨("_law_bag", none), "_law_bag", "_law_bag", defArgs s_law_bag, defBody s_law_bag, defScope s_law_bag, [], []⟩, ⟨("_law_pick", none), "_law_pick", "_law_pick", defArgs s_law_pick, defBody s_law_pick, defScope s_law_pick, [], []⟩, ⟨("BadOrder", some "__init__"), "__init__", "BadOrder.__init__", defArgs sBadOrder_init, defBody sBadOrder_init, defScope sBadOrder_init, [], []⟩, ⟨("Order", some "__init__"), "__init__", "Order.__init__", defArgs sOrder_init, defBody sOrder_init, defScope sOrder_init, [], []⟩, ⟨("_law_wrong", none), "_law_wrong", "_law_wrong", defArgs s_law_wrong, defBody s_law_wrong, defScope s_law_wrong, [], []⟩, ⟨("_law_outcome", none), "_law_outcome", "_law_outcome", defArgs s_law_outcome, defBody s_law_outcome, defScope s_law_outcome, [], []⟩, ⟨("law", none), "law", "law", defArgs slaw, defBody slaw, defScope slaw, [], []⟩]
def exL : List (PySem.W.Frag → Bool) := [(fun K => tupKB K "PASSES" [.str "sort begin", .str "sort end", .str "sort begin down", .str "sort end down", .str "reverse"]), (fun K => exbB K "OldPlacesError"), (fun K => exkB K "BadOrder" ["entry"])]
theorem exGet {K : PySem.W.Frag} (e : exL.all (fun f => f K) = true) (i : Nat) {f : PySem.W.Frag → Bool} (h : exL[i]? = some f) : f K = true := List.all_eq_true.mp e f (List.mem_of_getElem? h)
theorem all_mk {l : PySem.W.OpenLaw} {w : World} {K : PySem.W.Frag} {h : Heap} {mg : Str → Option Value} {fL : Addr} (X : K.In h) (G : h.Ns mainGlobals mg) (hfa : mg "law" = some (.ref fL)) (c : He.SaysD fa fn K) (e : exL.all (fun f => f K) = true) :
    ∃ fd : FuncData, (∀ (s : Shared) (v : Value), BindsTo s fd ⟨[v], []⟩ [("_law_script", v)]) ∧ ∀ base : Heap, K.In base → base.Ns mainGlobals mg → FnOk l.prog w K mg base CX0 6 fL fd ["_law_script"] (spLaw (K := K)) := by
  have hl := hfa.symm.trans (He.glo_ok X G (c.fact 9 rfl))
  cases hl
  have T : Txt K mg := { mg_MOST_PASSES := (He.int_ok X G (c.fact 0 rfl)), k_PASSES := (tupK_ok X G (exGet e 0 rfl)), gl__law_bag := (He.glo_ok X G (c.fact 1 rfl)), gl__law_pick := (He.glo_ok X G (c.fact 2 rfl)), exb := (exb_ok X G (exGet e 1 rfl)), ex_BadOrder := (exk_ok X G (exGet e 2 rfl)), cl_Order := (He.cls_ok (c.fact 3 rfl)), na_Order_passes := (He.noat_ok (c.fact 4 rfl)), mk_Order := (He.mkr_ok (c.fact 5 rfl)), gl_Order := (He.glo_ok X G (c.fact 6 rfl)), gl__law_wrong := (He.glo_ok X G (c.fact 7 rfl)), gl__law_outcome := (He.glo_ok X G (c.fact 8 rfl)), gl_law := ((fun _ => trivial) (c.fact 9 rfl)), enumerate := (He.free_ok X G (c.fact 10 rfl)), tuple := (He.free_ok X G (c.fact 11 rfl)), list := (He.free_ok X G (c.fact 12 rfl)), int := (He.free_ok X G (c.fact 13 rfl)), len := (He.free_ok X G (c.fact 14 rfl)), range := (He.free_ok X G (c.fact 15 rfl)) }
  obtain ⟨fd0, F0⟩ := c.def_ 0 rfl
  have b0 := FunD.bindsN (ps := ["_law_script"]) F0 fun _ _ _ _ _ _ us hl => match us, hl with | [_], _ => rfl
  have c_law_bag : ∀ base, Cf l.prog w K mg base 1 "_law_bag" (spBag K) := fun base => ⟨_, Callee.of_fn (okR (ok_law_bag F0 T ) b0), T.gl__law_bag, F0.kp⟩
  obtain ⟨fd1, F1⟩ := c.def_ 1 rfl
  have b1 := FunD.bindsN (ps := ["_law_bag_here", "_law_limit"]) F1 fun _ _ _ _ _ _ us hl => match us, hl with | [_, _], _ => rfl
  have c_law_pick : ∀ base, Cf l.prog w K mg base 1 "_law_pick" spPick := fun base => ⟨_, Callee.of_fn (okR (ok_law_pick F1 T ) b1), T.gl__law_pick, F1.kp⟩
  obtain ⟨fd2, F2⟩ := c.def_ 2 rfl
  have b2 := FunD.bindsN (ps := ["self", "entry"]) F2 fun _ _ _ _ _ _ us hl => match us, hl with | [_, _], _ => rfl
  have cBadOrder : ∀ base, Rz1 l.prog w K mg base 1 "BadOrder" "entry" := fun base => ⟨_, fd2, _, T.ex_BadOrder, okBadOrder_init F2 T, b2⟩
  obtain ⟨fd3, F3⟩ := c.def_ 3 rfl
  have cOrder : ∀ base, Cf l.prog w K mg base 4 "Order" (spOrd (He.ga K "Order") (He.ga K "BadOrder")) := fun base => Cf.imp ⟨_, Callee.of_cls T.mk_Order (okOrder_init F3 T (cBadOrder base)), T.gl_Order, T.mk_Order.kp⟩ (ordNew (K := K))
  obtain ⟨fd4, F4⟩ := c.def_ 4 rfl
  have b4 := FunD.bindsN (ps := ["_law_bag_here"]) F4 fun _ _ _ _ _ _ us hl => match us, hl with | [_], _ => rfl
  have c_law_wrong : ∀ base, Cf l.prog w K mg base 2 "_law_wrong" sp_law_wrong := fun base => ⟨_, Callee.of_fn (okR (ok_law_wrong F4 T (c_law_pick base)) b4), T.gl__law_wrong, F4.kp⟩
  obtain ⟨fd5, F5⟩ := c.def_ 5 rfl
  have b5 := FunD.bindsN (ps := ["_law_rows"]) F5 fun _ _ _ _ _ _ us hl => match us, hl with | [_], _ => rfl
  have c_law_outcome : ∀ base, Cf l.prog w K mg base 5 "_law_outcome" (spOut K) := fun base => ⟨_, Callee.of_fn (okR (ok_law_outcome F5 T (cBadOrder base) (cOrder base)) b5), T.gl__law_outcome, F5.kp⟩
  obtain ⟨fd6, F6⟩ := c.def_ 6 rfl
  refine ⟨fd6, fun s v => FunD.bindsA (ps := ["_law_script"]) F6 (fun _ _ _ _ _ _ us hl => match us, hl with | [_], _ => rfl) s [v] rfl, fun base _ _ => ?_⟩
  exact oklaw F6 T (c_law_bag base) (c_law_pick base) (c_law_wrong base) (c_law_outcome base)
theorem walk {l : PySem.W.OpenLaw} {q : Program} {loose : List Str} {XP : (Str → Option Value) → Heap → Prop} {YP : World → Heap → Prop} {d : DefRec} {K : Params → PySem.W.Frag} (hn : l.most = some 63) (hdf : d.params.defaults = [])
    (hY : ∀ (w : World) (h : Heap), YP w h → (K w.params).In h)
    (F : ∀ (w : World) (mg : Str → Option Value) (fa : Addr) (h : Heap), (K w.params).In h → h.Ns mainGlobals mg → mg d.name = some (.ref fa) →
      ∃ fd : FuncData, (∀ (s : Shared) (u : Value), BindsTo s fd ⟨[u], []⟩ [("_law_script", u)]) ∧ ∀ base : Heap, (K w.params).In base → base.Ns mainGlobals mg → FnOk l.prog w (K w.params) mg base CX0 6 fa fd ["_law_script"] (spLaw (K := K w.params))) :
    PySem.W.WalkO q loose XP YP l.row.toRowW d [] (fun f vs => PySem.call f vs) :=
  L2.walk_of (n := 63) (k := 6) (x := "_law_script") (CX := fun _ => CX0) (sp := fun w => spLaw (K := K w.params)) hn (by decide) hdf ⟨rfl, by decide, by decide⟩ hY F (fun _ _ a ns hl _ hS => ⟨a, rfl, ns, hS, hl, fun _ => rfl⟩) fun _ _ _ _ _ z => z
end My
open PySem PySem.W PyProof.Rows in
set_option maxRecDepth 100000 in
set_option maxHeartbeats 0 in
theorem PySem.Challenge.cw_oldplaces_k14_orders_refused_holds : PySem.Challenge.rw_oldplaces_k14_orders_refused.Holds := by
  w_on; o_law; k_head; (case hw => w_witness2)
  k_fill
  refine My.walk (l := PySem.Challenge.rw_oldplaces_k14_orders_refused) rfl rfl (fun w h Y => PySem.W.kIn_of Y) ?F
  case F =>
    intro w mg fa h KX G hmg
    refine' My.all_mk KX G hmg ?c ?e
    (case c => show He.obsD My.fa My.fn _ = He.valD My.fn; kernel_rfl)
    (case e => kernel_rfl)
