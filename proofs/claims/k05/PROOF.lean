import PyProof.Rows.All
import Wide.All
import OpenK.AllK
import Wide.FinOn
import HandS.Base
import HandS.Call
import HandS.List
import HandS.Comp
import HandS.Ends
import HandS.Dict
import HandS.Iter
import HandS.Text
import HandS.More
import HandS.Words
import HandS.WordsList
import HandS.WordsDict
import HandS.Wide
import HandS.IsInst
import PySem.Challenge.RW_oldplaces_k05_lays_of_numbers
set_option Elab.async false
set_option linter.all false
set_option maxRecDepth 100000
set_option maxHeartbeats 2000000
namespace My
open PySem PySem.Spec PyProof.Rows L2

/-- nothing stands at p (a structure, so that no search reads it as another fact) -/
structure Fr (H : Hp) (p : Addr) : Prop where
  e : H p = none
theorem Fr.ne {H : Hp} {p a : Addr} {o : HO} (n : Fr H p) (h : H a = some o) : p ≠ a := (ne_of_none h n.e).symm
theorem Fr.ne' {H : Hp} {p a : Addr} {o : HO} (n : Fr H p) (h : H a = some o) : a ≠ p := ne_of_none h n.e
/-! ### heaps: all but L is kept -/
structure Xb (L : List Addr) (H H' : Hp) : Prop where
  go : ∀ a o, a ∉ L → H a = some o → H' a = some o
theorem Xb.refl {L : List Addr} (H : Hp) : Xb L H H := ⟨fun _ _ _ h => h⟩
theorem Xb.trans {L : List Addr} {H H1 H2 : Hp} (x : Xb L H H1) (y : Xb L H1 H2) : Xb L H H2 := ⟨fun a o n h => y.go a o n (x.go a o n h)⟩
theorem Xb.weak {L L' : List Addr} {H H' : Hp} (x : Xb L H H') (s : ∀ a, a ∈ L → a ∈ L') : Xb L' H H' := ⟨fun a o n h => x.go a o (fun q => n (s a q)) h⟩
theorem Xb.any {L : List Addr} {H H' : Hp} (x : Xb [] H H') : Xb L H H' := ⟨fun a o _ h => x.go a o (fun q => nomatch q) h⟩
theorem Xb.new {H : Hp} {p : Addr} {o : HO} (hp : H p = none) : Xb [] H (upd H p o) := ⟨fun a u _ e => by
  rw [upd_ne (ne_of_none e hp)]
  exact e⟩
theorem Xb.put {H : Hp} {p : Addr} {o : HO} : Xb [p] H (upd H p o) := ⟨fun a u n e => by
  rw [upd_ne (fun q => n (by rw [q]; exact .head _))]
  exact e⟩
theorem Xb.get0 {H H' : Hp} {a : Addr} {o : HO} (x : Xb [] H H') (h : H a = some o) : H' a = some o := x.go a o (fun q => nomatch q) h
theorem Xb.get1 {b : Addr} {H H' : Hp} {a : Addr} {o : HO} (x : Xb [b] H H') (n : a ≠ b) (h : H a = some o) : H' a = some o := x.go a o (fun q => n (List.mem_singleton.mp q)) h
theorem Xb.get2 {b c : Addr} {H H' : Hp} {a : Addr} {o : HO} (x : Xb [b, c] H H') (n : a ≠ b) (n' : a ≠ c) (h : H a = some o) : H' a = some o := x.go a o (fun q => by
  rcases List.mem_cons.mp q with e | q
  · exact n e
  · exact n' (List.mem_singleton.mp q)) h
theorem Xb.t0 {L : List Addr} {H H1 H2 : Hp} (x : Xb L H H1) (y : Xb [] H1 H2) : Xb L H H2 := x.trans y.any
theorem Xb.t1 {L : List Addr} {c : Addr} {H H1 H2 : Hp} (x : Xb L H H1) (y : Xb [c] H1 H2) (m : c ∈ L) : Xb L H H2 := x.trans (y.weak fun a q => by
  rw [List.mem_singleton.mp q]
  exact m)
theorem Xb.b0 {L : List Addr} {H H1 H2 : Hp} (y : Xb [] H1 H2) (x : Xb L H H1) : Xb L H H2 := x.t0 y
theorem Xb.b1 {L : List Addr} {c : Addr} {H H1 H2 : Hp} (y : Xb [c] H1 H2) (m : c ∈ L) (x : Xb L H H1) : Xb L H H2 := x.t1 y m
/-- what was made within may change -/
theorem Xb.loc {L : List Addr} {p : Addr} {H H1 H2 : Hp} (x : Xb L H H1) (hp : H p = none) (y : Xb [p] H1 H2) : Xb L H H2 := ⟨fun a o n h =>
  y.go a o (fun q => by
    rw [List.mem_singleton] at q
    rw [q, hp] at h
    cases h) (x.go a o n h)⟩
theorem Xb.loc2 {L M : List Addr} {H H1 H2 : Hp} (x : Xb L H H1) (hp : ∀ p, p ∈ M → p ∈ L ∨ H p = none) (y : Xb M H1 H2) : Xb L H H2 := ⟨fun a o n h =>
  y.go a o (fun q => by
    rcases hp a q with k | k
    · exact n k
    · rw [k] at h
      cases h) (x.go a o n h)⟩
theorem Xb.free {L : List Addr} {H H' : Hp} (x : Xb L H H') {l : Addr} (n : l ∉ L) (h : H' l = Option.none) : H l = Option.none := by
  cases q : H l with
  | none => rfl
  | some o =>
    rw [x.go l o n q] at h
    cases h
theorem Xb.bl {L : List Addr} {p : Addr} {H H1 H2 : Hp} (y : Xb [p] H1 H2) (hp : Fr H p) (x : Xb L H H1) : Xb L H H2 := x.loc hp.e y
theorem Xb.free0 {H H' : Hp} {l : Addr} (h : Fr H' l) (x : Xb [] H H') : Fr H l := ⟨x.free (fun q => nomatch q) h.e⟩
theorem Xb.free1 {b : Addr} {H H' : Hp} {l : Addr} (h : Fr H' l) (x : Xb [b] H H') (n : l ≠ b) : Fr H l := ⟨x.free (fun q => n (List.mem_singleton.mp q)) h.e⟩
theorem Xb.locb {L : List Addr} {b p : Addr} {H H1 H2 : Hp} (x : Xb L H H1) (m : b ∈ L) (hp : Fr H p) (y : Xb [b, p] H1 H2) : Xb L H H2 := x.loc2 (fun a q => by
  rcases List.mem_cons.mp q with e | q
  · exact .inl (by rw [e]; exact m)
  · exact .inr (by rw [List.mem_singleton.mp q]; exact hp.e)) y
theorem Xb.seq {K : PySem.W.Frag} {L : List Addr} {H H' : Hp} {a : Addr} {xs : List V} (e : Xb L H H') (n : a ∉ L) (h : SqL K H a xs) : SqL K H' a xs := by
  rcases h with (h | ⟨o, h⟩) | h
  · exact .inl (.inl (e.go _ _ n h))
  · exact .inl (.inr ⟨o, e.go _ _ n h⟩)
  · exact .inr h
theorem Xb.seqT {K : PySem.W.Frag} {L : List Addr} {H H' : Hp} {a : Addr} {xs : List V} (e : Xb L H H') (n : a ∉ L) (h : SqT K H a xs) : SqT K H' a xs := by
  rcases h with (h | ⟨o, h⟩) | h
  · exact .inl (.inl (e.go _ _ n h))
  · exact .inl (.inr ⟨o, e.go _ _ n h⟩)
  · exact .inr h

theorem Xb.seq0 {K : PySem.W.Frag} {H H' : Hp} {a : Addr} {xs : List V} (e : Xb [] H H') (h : SqL K H a xs) : SqL K H' a xs := e.seq (fun q => nomatch q) h
theorem Xb.seqT0 {K : PySem.W.Frag} {H H' : Hp} {a : Addr} {xs : List V} (e : Xb [] H H') (h : SqT K H a xs) : SqT K H' a xs := e.seqT (fun q => nomatch q) h
/-! ### readings weakened -/
section
variable {X : Cx}
def mE (t : TE) : TE := fun σ H Q => ∃ Q0 : VK, t σ H Q0 ∧ ∀ v H', Q0 v H' → Q v H'
def mA (t : TA) : TA := fun σ H Q => ∃ Q0 : List V → Hp → Prop, t σ H Q0 ∧ ∀ v H', Q0 v H' → Q v H'
theorem pe_m {e : Expr} {t : TE} (h : PE X e t) : PE X e (mE t) := ⟨fun pins s σ H Q I ⟨Q0, hw, m⟩ =>
  thn (h.run pins s σ H Q0 I hw) fun v s1 ⟨x, H1, I1, r1, q1⟩ => ⟨x, H1, I1, r1, m _ _ q1⟩⟩
theorem pa_m {es : List Expr} {t : TA} (h : PA X es t) : PA X es (mA t) := ⟨fun pos pins s σ H Q I ⟨Q0, hw, m⟩ =>
  thn (h.run pos pins s σ H Q0 I hw) fun v s1 ⟨x, H1, I1, r1, q1⟩ => ⟨x, H1, I1, r1, m _ _ q1⟩⟩
theorem pe_imp {e : Expr} {t t' : TE} (h : PE X e t) (k : ∀ σ H Q, t' σ H Q → t σ H Q) : PE X e t' := ⟨fun pins s σ H Q I hw => h.run pins s σ H Q I (k σ H Q hw)⟩
theorem ps_imp {e : Stmt} {t t' : TS} (h : PS X e t) (k : ∀ D σ H, t' D σ H → t D σ H) : PS X e t' := ⟨fun pins s σ H D I hw => h.run pins s σ H D I (k D σ H hw)⟩

/-! ### displays, with the heap behind them told by what stands in it -/
def nLst (xs : List V) (H1 : Hp) (Q : VK) : Prop := xs.length ≤ sizeLine ∧ ∀ p H', Fr H1 p → Xb [] H1 H' → H' p = some (.lst xs) → Q (.ref p) H'
def nTup (xs : List V) (H1 : Hp) (Q : VK) : Prop := xs.length ≤ sizeLine ∧ ∀ p H', Fr H1 p → Xb [] H1 H' → H' p = some (.tup xs) → Q (.ref p) H'
def xLst (t : TA) : TE := fun σ H Q => t σ H fun xs H1 => nLst xs H1 Q
def xTup (t : TA) : TE := fun σ H Q => t σ H fun xs H1 => nTup xs H1 Q
theorem px_lst {es : List Expr} {t : TA} {pos : Pos} (ha : PA X es t) : PE X (.List es pos) (xLst t) :=
  pe_imp (pe_lst (pa_m ha)) fun σ H Q h => ⟨_, h, fun v H' q => ⟨q.1, fun p hp => q.2 p _ ⟨hp⟩ (Xb.new hp) upd_same⟩⟩
theorem px_tup {es : List Expr} {t : TA} {k : Nat} {pos : Pos} (ha : PA X es t) : PE X (.Tuple es k pos) (xTup t) :=
  pe_imp (pe_tup (pa_m ha)) fun σ H Q h => ⟨_, h, fun v H' q => ⟨q.1, fun p hp => q.2 p _ ⟨hp⟩ (Xb.new hp) upd_same⟩⟩
end

section
variable {X : Cx}
/-! ### by values: new objects, written objects -/
abbrev nL (xs : List V) (H : Hp) (Q : VK) : Prop := ∀ (p : Addr) (H' : Hp), Fr H p → Xb [] H H' → H' p = some (.lst xs) → Q (.ref p) H'
abbrev nT (xs : List V) (H : Hp) (Q : VK) : Prop := ∀ (p : Addr) (H' : Hp), Fr H p → Xb [] H H' → H' p = some (.tup xs) → Q (.ref p) H'
abbrev wL (l : Addr) (xs : List V) (H : Hp) (Q : Hp → Prop) : Prop := ∀ H' : Hp, Xb [l] H H' → H' l = some (.lst xs) → Q H'
theorem nL.of {xs : List V} {H : Hp} {Q : VK} (k : nL xs H Q) : ∀ p, H p = none → Q (.ref p) (upd H p (.lst xs)) := fun p hp => k p _ ⟨hp⟩ (Xb.new hp) upd_same
theorem nT.of {xs : List V} {H : Hp} {Q : VK} (k : nT xs H Q) : ∀ p, H p = none → Q (.ref p) (upd H p (.tup xs)) := fun p hp => k p _ ⟨hp⟩ (Xb.new hp) upd_same
theorem cx_list : CallR X (.type "list") (fun xs H Q => ∃ p, xs = [.ref p] ∧ ∃ ys, (SqL X.K H p ys ∨ SqT X.K H p ys) ∧ nL ys H Q) := fun pins s σ H xs us Q I r ⟨p, e, ys, h, k⟩ =>
  call_list_of pins s σ H xs us Q I r ⟨p, ys, e, h, k.of⟩
theorem cx_tuple : CallR X (.type "tuple") (fun xs H Q => ∃ p, xs = [.ref p] ∧ ∃ ys, SqL X.K H p ys ∧ nT ys H Q) := fun pins s σ H xs us Q I r ⟨p, e, ys, h, k⟩ =>
  call_tuple_of pins s σ H xs us Q I r ⟨p, ys, e, .inl ⟨h, k.of⟩⟩
theorem mx_append : MtR X "list.append" (fun x vs H Q => ∃ l y, x = .ref l ∧ vs = [y] ∧ ∃ xs, H l = some (.lst xs) ∧ xs.length < sizeLine ∧ wL l (xs ++ [y]) H (Q .non)) := fun pins s σ H x xs v us Q I rx r ⟨l, y, e1, e2, ys, h, n, k⟩ =>
  mt_append pins s σ H x xs v us Q I rx r ⟨l, ys, y, e1, e2, h, n, k _ Xb.put upd_same⟩
theorem setx_list : PSet X (fun o i v H Q => ∃ p k, o = .ref p ∧ i = .int k ∧ ∃ xs j, H p = some (.lst xs) ∧ ixN xs.length k = some j ∧ wL p (xs.set j v) H Q) := fun pins s σ H o i v ov iv u Q I ro ri rv ⟨p, k, e1, e2, xs, j, h, hj, q⟩ =>
  set_list pins s σ H o i v ov iv u Q I ro ri rv ⟨p, xs, k, j, e1, e2, h, hj, q _ Xb.put upd_same⟩
theorem ox_cat : OpR X (binaryOp .Add) (fun x y H Q => ∃ l b, x = .ref l ∧ y = .ref b ∧ ∃ xs zs, H l = some (.lst xs) ∧ H b = some (.lst zs) ∧ xs.length + zs.length ≤ sizeLine ∧ nL (xs ++ zs) H Q) := fun pins s σ H x y v u Q I rx ry ⟨l, b, e1, e2, xs, zs, h1, h2, n, k⟩ =>
  op_cat pins s σ H x y v u Q I rx ry ⟨l, b, xs, zs, e1, e2, h1, h2, n, k.of⟩
theorem ox_catT : OpR X (binaryOp .Add) (fun x y H Q => ∃ l b, x = .ref l ∧ y = .ref b ∧ ∃ xs zs, SqT X.K H l xs ∧ SqT X.K H b zs ∧ xs ≠ [] ∧ zs ≠ [] ∧ xs.length + zs.length ≤ sizeLine ∧ nT (xs ++ zs) H Q) := fun pins s σ H x y v u Q I rx ry ⟨l, b, e1, e2, xs, zs, h1, h2, n1, n2, n, k⟩ =>
  op_catT pins s σ H x y v u Q I rx ry ⟨l, b, xs, zs, e1, e2, h1, h2, n1, n, fun e => (n2 e).elim, fun _ => k.of⟩
theorem sx_list : SlR X (fun x lo hi H Q => ∃ a, x = .ref a ∧ ∃ xs, SqL X.K H a xs ∧ nL (cutV xs lo hi) H Q) := fun pins s σ H x v vl vu lo hi sl Q I rx hs pl pu ⟨a, e, xs, h, k⟩ =>
  sl_list pins s σ H x v vl vu lo hi sl Q I rx hs pl pu ⟨a, xs, e, h, k.of⟩
theorem mx_split : MtR X "str.split" (fun x xs H Q => ∃ a b, x = .str a ∧ xs = [.str b] ∧ (b.length == 0) = false ∧ a.length + 2 ≤ sizeLine ∧ nL ((Txt.split a b).map V.str) H Q) := fun pins s σ H x xs v us Q I rx r ⟨a, b, e1, e2, h1, h2, k⟩ =>
  mt_split pins s σ H x xs v us Q I rx r ⟨a, b, e1, e2, h1, h2, k.of⟩
theorem px_split {o e : Expr} {to te : TE} {apos pos : Pos} (ho : PE X o to) (he : PE X e te) (hs : starEach [e] X.env = [(false, eval e X.env)] := by rfl) (hbase : attributeBase o "split" X.env (eval o X.env) = eval o X.env := by rfl) (hline : (apos.endLine == pos.line) = true := by rfl) :
    PE X (.Call (.Attribute o "split" apos) [e] [] pos) (tM1 (fun x xs H Q => ∃ a b, x = .str a ∧ xs = [.str b] ∧ (b.length == 0) = false ∧ a.length + 2 ≤ sizeLine ∧ nL ((Txt.split a b).map V.str) H Q) to te) :=
  pe_m1 F.slot_str_split F.type_str_split mx_split ho he hs hbase hline
theorem px_dnew {pos : Pos} : PE X (.Dict [] [] pos) (fun σ H Q => ∀ (p : Addr) (H' : Hp), Fr H p → Xb [] H H' → H' p = some (.dK []) → Q (.ref p) H') :=
  pe_imp pe_dnewK fun σ H Q k p hp => k p _ ⟨hp⟩ (Xb.new hp) upd_same
theorem cx_listD (hc : X.calm = true) : CallR X (.type "list") (fun xs H Q => ∃ a, xs = [.ref a] ∧ ∃ kvs : List (Key × V), Rd H a (.dK kvs) ∧ nL (kvs.map fun kv => kV kv.1) H Q) := fun pins s σ H xs us Q I r ⟨a, e, kvs, h, k⟩ =>
  call_listD hc pins s σ H xs us Q I r ⟨a, kvs, e, h, k.of⟩

/-- xs[i] of a list, 0 ≤ i: for xs[i] += e -/
def gLst (K : PySem.W.Frag) : V → V → Hp → VK → Prop := fun x y H Q => ∃ p xs i v, x = .ref p ∧ y = .int i ∧ SqL K H p xs ∧ (0 ≤ i ∧ i < 2 ^ 62) ∧ xs[i.toNat]? = some v ∧ Q v H
theorem get_lst : PGet X (gLst X.K) := by
  intro pins s σ H o i ov iv Q I ro ri h
  obtain ⟨p, xs, i, v, rfl, rfl, hq, ⟨h0, h1⟩, hx, q⟩ := h
  cases ro
  obtain ⟨t, rfl⟩ := ri
  obtain ⟨its, r, pl, hz⟩ := I.list hq
  obtain ⟨w, ew, rw'⟩ := r.get hx
  exact wpAny_getItem_list pl.isList h0 (by omega) (by simpa using ew) ⟨v, H, I, rw', q⟩
/-- what follows a statement is shown once, from Mid -/
def tMid (t : TS) : TS := fun D σ H => ∃ Mid : L2.St → Hp → Prop, t { D with nx := Mid } σ H ∧ ∀ σ' H', Mid σ' H' → D.nx σ' H'
theorem ps_mid {st : Stmt} {t : TS} (h : PS X st t) : PS X st (tMid t) := by
  refine ⟨fun pins s σ H D I ⟨Mid, hm, hu⟩ => thn (h.run pins s σ H { D with nx := Mid } I hm) fun f s1 q => ?_⟩
  cases f with
  | next =>
    obtain ⟨σ', H', I', q⟩ := q
    exact ⟨σ', H', I', hu σ' H' q⟩
  | ret v => exact q
  | brk => exact q
  | cont => exact q
end
/-! ### a def that may be called by its name -/
structure Cl (P : Program) (w : World) (K : PySem.W.Frag) (mg : Str → Option Value) (base : Heap) (k : Nat) (x : Str) (sp : Sp) : Prop where
  ex : ∃ (f : Addr) (fd : FuncData) (ps : List Str), FnOk P w K mg base CX0 k f fd ps sp ∧ mg x = some (.ref f) ∧ PySem.W.keepIn K (.ref f) = true ∧ Binds K fd ps []
section
variable {X : Cx} {k j : Nat} {x : Str} {sp : Sp} {p pos : Pos} {e : Expr} {es : List Expr} {t : TA}
theorem pc (c : Cl X.prog X.w X.K X.mg X.base k x sp) (hr : Room j X.A) (hg : Gl X x) (ha : PA X (e :: es) t) (hk : k ≤ j := by decide)
    (hdb : (x == ("__debug__" : Str)) = false := by decide) (he : starEach (e :: es) X.env = (false, eval e X.env) :: starEach es X.env := by rfl) (hpl : (backTo pos (starEach es X.env)).any (·.1) = false := by rfl) :
    PE X (.Call (.Name x p) (e :: es) [] pos) (tCall sp [] E0 t) := by
  obtain ⟨f, fd, ps, F, hm, kp, b⟩ := c.ex
  exact pe_call F (hr.mono hk) hg hm kp b .nil pass0 ha hdb he hpl
theorem pc0 (c : Cl X.prog X.w X.K X.mg X.base k x sp) (hr : Room j X.A) (hg : Gl X x) (hk : k ≤ j := by decide) (hdb : (x == ("__debug__" : Str)) = false := by decide) :
    PE X (.Call (.Name x p) [] [] pos) (tCall sp [] E0 tNil) := by
  obtain ⟨f, fd, ps, F, hm, kp, b⟩ := c.ex
  exact pe_call0 F (hr.mono hk) hg hm kp b .nil pass0 hdb
end
theorem sz {n : Nat} (h : n ≤ 100000) : n ≤ sizeLine := Nat.le_trans h (by decide)
theorem sz_lt {n : Nat} (h : n < 100000) : n < sizeLine := Nat.lt_of_lt_of_le h (by decide)

/-! ### the bag that the laws draw from: the script's cells, the next one's place, a great number, a state -/
structure BagS (b l : Addr) (H : Hp) (ns : List Int) (i g st : Int) : Prop where
  hb : H b = some (.lst [.ref l, .int i, .int g, .int st])
  hl : H l = some (.lst (ns.map V.int))
  len : ns.length ≤ 63
  i0 : 0 ≤ i
  iN : i ≤ 63
  g0 : 0 ≤ g
  s0 : 0 ≤ st
  sN : st < 2147483629
structure Bag (b l : Addr) (H : Hp) : Prop where
  ne : l ≠ b
  ex : ∃ (ns : List Int) (i g st : Int), BagS b l H ns i g st
theorem Bag.b {b l : Addr} {H : Hp} (h : Bag b l H) : ∃ xs, H b = some (.lst xs) := by
  obtain ⟨_, ns, i, g, st, B⟩ := h
  exact ⟨_, B.hb⟩
theorem Bag.l {b l : Addr} {H : Hp} (h : Bag b l H) : ∃ xs, H l = some (.lst xs) := by
  obtain ⟨_, ns, i, g, st, B⟩ := h
  exact ⟨_, B.hl⟩
theorem Bag.neb {b l p : Addr} {H : Hp} (hp : Fr H p) (h : Bag b l H) : p ≠ b := by
  obtain ⟨xs, e⟩ := h.b
  exact (ne_of_none e hp.e).symm
theorem Bag.nel {b l p : Addr} {H : Hp} (hp : Fr H p) (h : Bag b l H) : p ≠ l := by
  obtain ⟨xs, e⟩ := h.l
  exact (ne_of_none e hp.e).symm
theorem Bag.netb {b l p : Addr} {H : Hp} {xs : List V} (hp : H p = some (.tup xs)) (h : Bag b l H) : p ≠ b := by
  obtain ⟨ys, e⟩ := h.b
  exact ne_of hp e (fun q => nomatch q)
theorem Bag.keep {L : List Addr} {b l : Addr} {H H' : Hp} (h : Bag b l H) (x : Xb L H H') (nb : b ∉ L) (nl : l ∉ L) : Bag b l H' := by
  obtain ⟨n, ns, i, g, st, B⟩ := h
  exact ⟨n, ns, i, g, st, x.go b _ nb B.hb, x.go l _ nl B.hl, B.len, B.i0, B.iN, B.g0, B.s0, B.sN⟩
theorem Bag.keep0 {b l : Addr} {H H' : Hp} (x : Xb [] H H') (h : Bag b l H) : Bag b l H' := h.keep x (fun q => nomatch q) fun q => nomatch q
theorem Bag.keep1 {b l p : Addr} {H H' : Hp} (x : Xb [p] H H') (nb : p ≠ b) (nl : p ≠ l) (h : Bag b l H) : Bag b l H' :=
  h.keep x (fun q => nb (List.mem_singleton.mp q).symm) fun q => nl (List.mem_singleton.mp q).symm
/-- a new bag of the script -/
def spBag (K : PySem.W.Frag) : Sp := fun vs H Q _ => ∃ a, vs = [.ref a] ∧ ∃ ns : List Int, SqL K H a (ns.map V.int) ∧ ns.length ≤ 63 ∧
  ∀ (b l : Addr) (H' : Hp), Bag b l H' → Xb [] H H' → Q (.ref b) H'
/-- a limit of a draw -/
def LimOk (lim : Int) : Prop := 0 < lim ∧ lim.natAbs < 2 ^ 250
theorem LimOk.of {lim : Int} (h : (decide (0 < lim) && Nat.blt lim.natAbs (2 ^ 250)) = true) : LimOk lim := by
  rw [Bool.and_eq_true] at h
  exact ⟨of_decide_eq_true h.1, Nat.blt_eq.mp h.2⟩
theorem LimOk.le {lim : Int} (h0 : 0 < lim) (h1 : lim ≤ 1000000000) : LimOk lim := ⟨h0, Nat.lt_of_le_of_lt (by omega : lim.natAbs ≤ 1000000000) (by decide)⟩
/-- a number from 0 to lim - 1 -/
def spPick : Sp := fun vs H Q _ => ∃ (b : Addr) (lim : Int), vs = [.ref b, .int lim] ∧ ∃ l, Bag b l H ∧ LimOk lim ∧
  ∀ (n : Int) (H' : Hp), Xb [b] H H' → Bag b l H' → 0 ≤ n → n < lim → Q (.int n) H'

/-! ### an item at a place that is not written -/
def isIV : V → Bool | .int _ => true | _ => false
def isSV : V → Bool | .str _ => true | _ => false
theorem atI_in {xs : List V} {n : Int} (h0 : 0 ≤ n) (h1 : n < xs.length) : ∃ v, atI xs n = some v ∧ v ∈ xs := by
  have h : n.toNat < xs.length := by omega
  exact ⟨xs[n.toNat], at_of (j := n.toNat) (by omega) (List.getElem?_eq_getElem h), List.getElem_mem h⟩
section
variable {K : PySem.W.Frag} {p : Addr} {i : Int} {H : Hp} {xs : List V} {Q : VK}
theorem rd_ixI (hq : SqL K H p xs) (h0 : 0 ≤ i) (h1 : i < xs.length) (hs : xs.all isIV = true) (k : ∀ z, V.int z ∈ xs → Q (.int z) H) : rIxL K (.ref p) (.int i) H Q := by
  obtain ⟨v, e, m⟩ := atI_in h0 h1
  have hv := List.all_eq_true.mp hs v m
  cases v with
  | int z => exact ⟨p, xs, i, _, rfl, rfl, hq, e, k z m⟩
  | _ => cases hv
theorem rd_ixS (hq : SqL K H p xs) (h0 : 0 ≤ i) (h1 : i < xs.length) (hs : xs.all isSV = true) (k : ∀ z, V.str z ∈ xs → Q (.str z) H) : rIxL K (.ref p) (.int i) H Q := by
  obtain ⟨v, e, m⟩ := atI_in h0 h1
  have hv := List.all_eq_true.mp hs v m
  cases v with
  | str z => exact ⟨p, xs, i, _, rfl, rfl, hq, e, k z m⟩
  | _ => cases hv
theorem rd_ixN {ns : List Int} (hq : SqL K H p (ns.map V.int)) (h0 : 0 ≤ i) (h1 : i < ns.length) (k : ∀ z, z ∈ ns → Q (.int z) H) : rIxL K (.ref p) (.int i) H Q :=
  rd_ixI hq h0 (by rw [List.length_map]; exact h1) (by rw [List.all_map]; exact List.all_eq_true.mpr fun _ _ => rfl) fun z m => by
    obtain ⟨y, hy, e⟩ := List.mem_map.mp m
    cases e
    exact k z hy
end
theorem map_snoc {α : Type} (f : α → V) (xs : List α) (y : α) : xs.map f ++ [f y] = (xs ++ [y]).map f := by rw [List.map_append]; rfl

/-! ### a comprehension's list told apart -/
def LcI (Pv : Nat → Hp → List V → Prop) (D : Addr) (i : Nat) (H : Hp) : Prop := ∃ acc, H D = some (.lst acc) ∧ Pv i H acc
theorem LcI.start {Pv : Nat → Hp → List V → Prop} {D : Addr} {H : Hp} (hD : H D = none) (k : ∀ H', Fr H D → Xb [] H H' → H' D = some (.lst []) → Pv 0 H' []) : LcI Pv D 0 (upd H D (.lst [])) :=
  ⟨[], upd_same, k _ ⟨hD⟩ (Xb.new hD) upd_same⟩
theorem LcI.put {Pv : Nat → Hp → List V → Prop} {D : Addr} {j : Nat} {H : Hp} {acc : List V} {y : V} (k : ∀ H', Xb [D] H H' → H' D = some (.lst (acc ++ [y])) → Pv j H' (acc ++ [y])) : LcI Pv D j (upd H D (.lst (acc ++ [y]))) :=
  ⟨_, upd_same, k _ Xb.put upd_same⟩

theorem ite_T {c A B : Prop} [Decidable c] (h : c) (a : A) : if c then A else B := by
  rw [if_pos h]
  exact a
theorem ite_F {c A B : Prop} [Decidable c] (h : ¬ c) (b : B) : if c then A else B := by
  rw [if_neg h]
  exact b
theorem cx_int {X : Cx} : CallR X (.type "int") (fun xs H Q => ∃ i, xs = [.int i] ∧ Q (.int i) H) := fun pins s σ H xs us Q I r h => call_int1 pins s σ H xs us Q I r (.inl h)

/-! ### texts -/
theorem join4 (a b c d : Str) : Txt.join "" [a, b, c, d] = a ++ b ++ c ++ d := by
  rw [TL.join_eq]
  show a ++ Str.empty ++ (b ++ Str.empty ++ (c ++ Str.empty ++ d)) = _
  rw [PySem.Str.append_empty, PySem.Str.append_empty, PySem.Str.append_empty, PySem.Str.append_assoc, PySem.Str.append_assoc]
theorem lt_irr : ∀ l : List Nat, ltCps l l = false
  | [] => rfl
  | a :: r => by simp [ltCps, lt_irr r]
theorem le_anti : ∀ {a b : List Nat}, ltCps a b = false → ltCps b a = false → a = b
  | [], [], _, _ => rfl
  | [], _ :: _, h, _ => by simp [ltCps] at h
  | _ :: _, [], _, h => by simp [ltCps] at h
  | x :: a, y :: b, h, h' => by
    simp only [ltCps, Bool.or_eq_false_iff, decide_eq_false_iff_not, Bool.and_eq_false_iff, beq_eq_false_iff_ne] at h h'
    have e : x = y := by omega
    subst e
    rw [le_anti (h.2.resolve_left fun q => q rfl) (h'.2.resolve_left fun q => q rfl)]
theorem le_trans' : ∀ {a b c : List Nat}, ltCps b a = false → ltCps c b = false → ltCps c a = false
  | [], _, [], _, _ => rfl
  | [], [], _ :: _, _, h => by simp [ltCps] at h ⊢
  | [], _ :: _, _ :: _, _, _ => by simp [ltCps]
  | _ :: _, [], _, h, _ => by simp [ltCps] at h
  | _ :: _, _ :: _, [], _, h => by simp [ltCps] at h
  | x :: a, y :: b, z :: c, h, h' => by
    simp only [ltCps, Bool.or_eq_false_iff, decide_eq_false_iff_not, Bool.and_eq_false_iff, beq_eq_false_iff_ne] at h h' ⊢
    refine ⟨by omega, ?_⟩
    by_cases e : z = x
    · have e1 : y = x := by omega
      subst e e1
      exact .inr (le_trans' (h.2.resolve_left fun q => q rfl) (h'.2.resolve_left fun q => q rfl))
    · exact .inl e
theorem rising_pw : ∀ {l : List Str} {p : Str}, risingS p l = true → (p :: l).Pairwise (fun a b => ltCps b.cps.toList a.cps.toList = false)
  | [], _, _ => List.pairwise_singleton _ _
  | x :: r, p, h => by
    simp only [risingS, Bool.and_eq_true, Bool.not_eq_true'] at h
    have ih := rising_pw h.2
    refine .cons (fun b hb => ?_) ih
    rcases List.mem_cons.mp hb with e | m
    · rw [e]
      exact h.1
    · exact le_trans' h.1 ((List.pairwise_cons.mp ih).1 b m)
theorem sorted_pw {l : List Str} (h : sortedS l = true) : l.Pairwise (fun a b => ltCps b.cps.toList a.cps.toList = false) := by
  cases l with
  | nil => exact .nil
  | cons x r => exact rising_pw h
theorem sorted_same {a b : List Str} (hp : a.Perm b) (ha : sortedS a = true) (hb : sortedS b = true) : a = b :=
  hp.eq_of_pairwise (fun x y _ _ h1 h2 => PySem.Str.ext' (Array.toList_inj.mp (le_anti h2 h1))) (sorted_pw ha) (sorted_pw hb)
section
variable {X : Cx}
theorem cx_sortedS : CallR X (.builtin "sorted") (fun vs H Q => ∃ a, vs = [V.ref a] ∧ ∃ xs : List Str, SqL X.K H a (xs.map V.str) ∧ xs.length < 64 ∧ ∀ (ys : List Str) (p : Addr) (H' : Hp), ys.Perm xs → sortedS ys = true → Fr H p → Xb [] H H' → H' p = some (.lst (ys.map V.str)) → Q (.ref p) H') :=
  fun pins s σ H xs us Q I r ⟨a, e, zs, h, n, k⟩ => cr_sortedS pins s σ H xs us Q I r ⟨a, zs, e, h, n, fun ys p h1 h2 hp => k ys p _ h1 h2 ⟨hp⟩ (Xb.new hp) upd_same⟩
/-- d[z] = v, z a text -/
theorem setx_dictS (hu : X.A.units + 1 < cLine) : PSet X (fun o i v H Q => ∃ a z, o = .ref a ∧ i = .str z ∧ ∃ kvs, H a = some (.dK kvs) ∧ kvs.length < sizeLine ∧ ∀ H', Xb [a] H H' → H' a = some (.dK (putK kvs (.inr z) v)) → Q H') :=
  fun pins s σ H o i v ov iv u Q I ro ri rv ⟨a, z, e1, e2, kvs, h, n, k⟩ => by
    subst e1 e2
    cases ro
    exact d_setItem hu I (DPut.k (k := .inr z) h n) ri rv fun s4 I4 => ⟨_, I4, k _ Xb.put upd_same⟩
end
/-! ### lists of pairs of ints -/
def PairAt (H : Hp) (v : V) (p : Int × Int) : Prop := ∃ a, v = .ref a ∧ H a = some (.tup [.int p.1, .int p.2])
abbrev Pairs (H : Hp) (xs : List V) (ps : List (Int × Int)) : Prop := Paired (PairAt H) xs ps
theorem PairAt.keep {H H' : Hp} {v : V} {p : Int × Int} (x : Xb [] H H') (h : PairAt H v p) : PairAt H' v p := by
  obtain ⟨a, e, h⟩ := h
  exact ⟨a, e, x.get0 h⟩
theorem Pairs.keep {H H' : Hp} {xs : List V} {ps : List (Int × Int)} (x : Xb [] H H') (h : Pairs H xs ps) : Pairs H' xs ps := L2.Paired.mapP h fun _ _ q => q.keep x
theorem Pairs.snoc {H : Hp} {xs : List V} {ps : List (Int × Int)} {v : V} {p : Int × Int} (h : Pairs H xs ps) (q : PairAt H v p) : Pairs H (xs ++ [v]) (ps ++ [p]) := Paired.snoc h q
theorem paired_app {α β : Type} {F : α → β → Prop} : ∀ {a c : List α} {b d : List β}, Paired F a b → Paired F c d → Paired F (a ++ c) (b ++ d)
  | _, _, _, _, .nil, h => h
  | _, _, _, _, .cons f t, h => .cons f (paired_app t h)
theorem paired_len {α β : Type} {F : α → β → Prop} : ∀ {a : List α} {b : List β}, Paired F a b → a.length = b.length
  | _, _, .nil => rfl
  | _, _, .cons _ t => by rw [List.length_cons, List.length_cons, paired_len t]
theorem paired_get {α β : Type} {F : α → β → Prop} : ∀ {a : List α} {b : List β} {i : Nat} {x : α}, Paired F a b → a[i]? = some x → ∃ y, b[i]? = some y ∧ F x y
  | _, _, _, _, .nil, e => by simp at e
  | _, _, 0, _, .cons f _, e => by
    simp at e
    subst e
    exact ⟨_, rfl, f⟩
  | _, _, i + 1, x, .cons _ t, e => by
    obtain ⟨y, h1, h2⟩ := paired_get (i := i) (x := x) t (by simpa using e)
    exact ⟨y, by simpa using h1, h2⟩

theorem PairAt.keepd {H H' : Hp} {v : V} {p : Int × Int} {d : Addr} {kvs : List (Key × V)} (x : Xb [d] H H') (hd : H d = some (.dK kvs)) (h : PairAt H v p) : PairAt H' v p := by
  obtain ⟨a, e, h⟩ := h
  exact ⟨a, e, x.get1 (ne_of h hd fun q => nomatch q) h⟩
theorem Pairs.keepd {H H' : Hp} {xs : List V} {ps : List (Int × Int)} {d : Addr} {kvs : List (Key × V)} (x : Xb [d] H H') (hd : H d = some (.dK kvs)) (h : Pairs H xs ps) : Pairs H' xs ps := L2.Paired.mapP h fun _ _ q => q.keepd x hd
theorem putK_len {kvs : List (Key × V)} {k : Key} {v : V} : (putK kvs k v).length ≤ kvs.length + 1 := by
  unfold putK
  split
  · rw [List.length_map]
    omega
  · rw [List.length_append]
    exact Nat.le_refl _
theorem dp_strs {K : PySem.W.Frag} {H : Hp} : ∀ ss : List Str, DpAll K H (ss.map V.str) (ss.map PyData.str)
  | [] => .nil
  | z :: r => .cons (.str z) (dp_strs r)
theorem in_strs {z : Str} {ss : List Str} (h : z ∈ ss) : inV (.str z) (ss.map V.str) = true := by
  unfold inV
  rw [List.any_map, List.any_eq_true]
  exact ⟨z, h, by show eqV (.str z) (.str z) = true; simp [eqV]⟩
theorem PairAt.keepl {H H' : Hp} {v : V} {p : Int × Int} {d : Addr} {ys : List V} (x : Xb [d] H H') (hd : H d = some (.lst ys)) (h : PairAt H v p) : PairAt H' v p := by
  obtain ⟨a, e, h⟩ := h
  exact ⟨a, e, x.get1 (ne_of h hd fun q => nomatch q) h⟩
theorem Pairs.keepl {H H' : Hp} {xs : List V} {ps : List (Int × Int)} {d : Addr} {ys : List V} (x : Xb [d] H H') (hd : H d = some (.lst ys)) (h : Pairs H xs ps) : Pairs H' xs ps := L2.Paired.mapP h fun _ _ q => q.keepl x hd
end My

open PySem PySem.Spec PyProof.Rows L2 My
local macro_rules | `(tactic| wtm_at "ne") => `(tactic| first
  | assumption
  | exact Ne.symm (by assumption)
  | exact Bag.neb (by assumption) (by wtm_at "bg")
  | exact Bag.netb (by assumption) (by wtm_at "bg")
  | exact Fr.ne (by assumption) (by wtm_at "hp")
  | exact Fr.ne' (by assumption) (by wtm_at "hp")
  | fail)
local macro_rules | `(tactic| wtm_at "hp") => `(tactic| first
  | assumption
  | exact Xb.get0 (by assumption) (by wtm_at "hp")
  | exact Xb.get1 (by assumption) (by wtm_at "ne") (by wtm_at "hp")
  | fail)
local macro_rules | `(tactic| wtm_at "bg") => `(tactic| first
  | assumption
  | exact Bag.keep0 (by assumption) (by wtm_at "bg")
  | exact Bag.keep1 (by assumption) (by wtm_at "ne") (by first | assumption | exact Bag.nel (by assumption) (by wtm_at "bg")) (by wtm_at "bg")
  | fail)
local macro_rules | `(tactic| wtm_at "sq") => `(tactic| first
  | assumption
  | ((with_reducible show SqL _ _ _ _); first | exact SqL.of (by wtm_at "hp") | exact Xb.seq0 (by assumption) (by wtm_at "sq"))
  | ((with_reducible show SqT _ _ _ _); first | exact SqT.of (by wtm_at "hp") | exact Xb.seqT0 (by assumption) (by wtm_at "sq"))
  | ((with_reducible show SqL _ _ _ _ ∨ _); first | exact Or.inl (by wtm_at "sq") | exact Or.inr (by wtm_at "sq"))
  | fail)
local macro_rules | `(tactic| wtm_at "sd") => `(tactic| first
  | assumption
  | ((with_reducible show _ ≤ sizeLine); first | exact Nat.le_of_ble_eq_true rfl | exact sz (by wtm_at "ln"))
  | ((with_reducible show _ < sizeLine); exact sz_lt (by wtm_at "ln"))
  | omega
  | (exact ⟨by omega, by omega⟩)
  | wtm_at "bg"
  | wtm_at "sq"
  | wtm_at "hp"
  | fail)
local macro_rules | `(tactic| wtm_at "ln") => `(tactic| first
  | omega
  | (simp only [List.length_cons, List.length_nil, List.length_append, List.length_map, List.length_singleton]; omega)
  | fail)
local macro_rules | `(tactic| wtm_at "mu") => `(tactic| first
  | exact Or.inr ⟨by decide, by decide⟩
  | exact Or.inl ⟨by decide, by decide⟩
  | exact Or.inr ⟨by omega, by omega⟩
  | exact Or.inl ⟨by omega, by omega⟩
  | fail)
local macro_rules | `(tactic| wtm_at "lm") => `(tactic| first
  | (show (0 : Int) < _; first | decide | omega | assumption)
  | exact wide_div (b := 250) (by first | decide | omega) (by first | decide | omega) (by decide) (by decide)
  | fail)
local macro_rules | `(tactic| wtm_at "ix") => `(tactic| first
  | rfl
  | assumption
  | fail)
local macro_rules | `(tactic| wtm_at "rg") => `(tactic| first
  | decide
  | omega
  | fail)
local macro_rules | `(tactic| wtm_at "li") => `(tactic| first
  | exact LimOk.of rfl
  | exact LimOk.le (by wtm_at "ln") (by wtm_at "ln")
  | fail)
local macro_rules | `(tactic| wtm_at "me") => `(tactic| first
  | exact .head _
  | exact .tail _ (.head _)
  | exact .tail _ (.tail _ (.head _))
  | fail)
local macro_rules | `(tactic| wtm_at "fr") => `(tactic| first
  | assumption
  | exact Xb.free0 (by assumption) (by wtm_at "xb")
  | exact Xb.free1 (by assumption) (by wtm_at "xb") (by wtm_at "ne")
  | fail)
local macro_rules | `(tactic| wtm_at "xb") => `(tactic| first
  | assumption
  | exact Xb.refl _
  | exact Xb.any (by assumption)
  | exact Xb.b0 (by assumption) (by wtm_at "xb")
  | exact Xb.b1 (by assumption) (by wtm_at "me") (by wtm_at "xb")
  | exact Xb.bl (by assumption) (by wtm_at "fr") (by wtm_at "xb")
  | fail)

set_option maxHeartbeats 4000000
namespace My
def top (i : Nat) : Stmt := PySem.Challenge.pw_oldplaces_k05_lays_of_numbers.main.body.getD i (.Pass ⟨0, 0, 0, 0⟩)

def sg (i j : Int) : Str := if i = j then "=" else if i < j then "<" else ">"
def spSign : Sp := fun vs H Q _ => ∃ i j, vs = [.int i, .int j] ∧ Q (.str (sg i j)) H
def layS (b e ob oe : Int) : Str := sg b ob ++ sg b oe ++ sg e ob ++ sg e oe
def spLay (K : PySem.W.Frag) : Sp := fun vs H Q _ => ∃ p q, vs = [.ref p, .ref q] ∧ ∃ b e, SqT K H p [.int b, .int e] ∧ ∃ ob oe, SqT K H q [.int ob, .int oe] ∧ Q (.str (layS b e ob oe)) H
def spLLay (K : PySem.W.Frag) : Sp := fun vs H Q _ => ∃ p q, vs = [.ref p, .ref q] ∧ ∃ b e, SqT K H p [.int b, .int e] ∧ ∃ ob oe, SqT K H q [.int ob, .int oe] ∧ ∀ H', Xb [] H H' → Q (.str (layS b e ob oe)) H'
def sp_law_number : Sp := fun vs H Q _ => ∃ b, vs = [.ref b] ∧ ∃ l, Bag b l H ∧ ∀ (n : Int) (H' : Hp), Xb [b] H H' → Bag b l H' → 0 ≤ n → n < 10 ^ 30 → Q (.int n) H'
def spLPair (K : PySem.W.Frag) : Sp := fun vs H Q _ => ∃ b q, vs = [.ref b, .ref q] ∧ ∃ l, Bag b l H ∧ ∃ ns : List Int, H q = some (.lst (ns.map V.int)) ∧ 0 < ns.length ∧ ns.length < 1000 ∧ q ≠ b ∧
  ∀ (p : Addr) (H' : Hp) (lo hi : Int), Xb [b] H H' → Bag b l H' → Fr H p → H' p = some (.tup [.int lo, .int hi]) → lo ≤ hi → Q (.ref p) H'
theorem sg_len (i j : Int) : (sg i j).length = 1 := by
  unfold sg
  split
  · rfl
  · split <;> rfl
def lays : List Str := ["<<<<", "<<=<", "<<==", "<<><", "<<>=", "<<>>", "=<=<", "=<><", "=<>=", "=<>>", "====", "==>>", "><><", "><>=", "><>>", ">=>=", ">=>>", ">>>>"]

structure Txt (K : PySem.W.Frag) (mg : Str → Option Value) (aL : Addr) : Prop where
  mg_LAYS : mg "LAYS" = some (.ref aL)
  sLAYS : ∀ H, SqT K H aL (lays.map V.str)
  kLAYS : ∃ o, K.lookup aL = some o ∧ o.cls = .type "tuple"
  list : mg "list" = none
  int : mg "int" = none
  len : mg "len" = none
  range : mg "range" = none
  min : mg "min" = none
  max : mg "max" = none
  tuple : mg "tuple" = none
  sorted : mg "sorted" = none
  isinstance : mg "isinstance" = none
  str : mg "str" = none
section
variable {P : Program} {w : World} {K : PySem.W.Frag} {mg : Str → Option Value} {base : Heap} {aL : Addr}
local macro_rules | `(tactic| wtm_at "sd") => `(tactic| first | ((with_reducible show _ ≤ sizeLine); exact sz (by simp only [PySem.Str.length_append, sg_len]; decide)) | fail)
abbrev s_law_bag : Stmt := top 6
theorem sc_law_bag : FnScope ["_law_script"] ["_law_script"] (defScope s_law_bag) := ⟨rfl, rfl, rfl, by decide +kernel, rfl, by decide +kernel, by decide +kernel⟩
theorem ok_law_bag {f : Addr} {fd : FuncData} (F : Fun K "_law_bag" "_law_bag" s_law_bag f fd) (T : Txt K mg aL)  : FnOk P w K mg base CX0 1 f fd ["_law_script"] (spBag K) := by
  have nd := sc_law_bag.nd
  refine F.ok sc_law_bag (fun vs H Q E h => ?_) (fun cdv A outer s H vs Q E hr h => ?_)
  · obtain ⟨a, rfl, ns, hS, hlen, k⟩ := h
    rfl
  · obtain ⟨a, rfl, ns, hS, hlen, k⟩ := h
    refine ⟨_, (pss_one (ps_ret (px_lst (pa_cons (pe_callTy cx_list (by rfl) T.list (by decide +kernel) (pa_cons (pv 0) pa_nil)) (pa_cons pe_int (pa_cons pe_int (pa_cons pe_int pa_nil))))))), ?_⟩
    refine ⟨_, rfl, _, rfl, _, .inl hS, fun l HL npl xl hl => ?_⟩
    refine ⟨by show (4 : Nat) ≤ sizeLine; decide, fun b H2 np2 x2 h2 => ?_⟩
    refine k b l H2 ⟨np2.ne' hl, ns, 0, 0, 20011, h2, x2.get0 hl, hlen, by decide, by decide, by decide, by decide, by decide⟩ (xl.trans x2)
abbrev s_law_pick : Stmt := top 7
theorem sc_law_pick : FnScope ["_law_bag_here", "_law_limit", "_law_cell", "_law_found"] ["_law_bag_here", "_law_limit"] (defScope s_law_pick) := ⟨rfl, rfl, rfl, by decide +kernel, rfl, by decide +kernel, by decide +kernel⟩
theorem ok_law_pick {f : Addr} {fd : FuncData} (F : Fun K "_law_pick" "_law_pick" s_law_pick f fd) (T : Txt K mg aL)  : FnOk P w K mg base CX0 1 f fd ["_law_bag_here", "_law_limit"] spPick := by
  have nd := sc_law_pick.nd
  refine F.ok sc_law_pick (fun vs H Q E h => ?_) (fun cdv A outer s H vs Q E hr h => ?_)
  · obtain ⟨b, lim, rfl, l, ⟨nlb, ns, i, g, st, B⟩, hl, k⟩ := h
    rfl
  · obtain ⟨b, lim, rfl, l, ⟨nlb, ns, i, g, st, B⟩, hl, k⟩ := h
    refine ⟨_, (pss_cons (ps_mid (ps_if (PW.pt (pw_and (pt_cmpR op_eq (pe_ix ix_list (pv 0) pe_int (fun _ _ => rfl)) pe_int (nomark _)) (pw_and1 (pt_cmpR op_lt (pe_ix ix_list (pv 0) pe_int (fun _ _ => rfl)) (pe_callB call_len_seq (by rfl) T.len PySem.boot_len (pa_cons (pe_ix ix_list (pv 0) pe_int (fun _ _ => rfl)) pa_nil)) (nomark _))))) (pss_cons (ps_set (i := 2) nd rfl (.inl rfl) (pe_ix ix_list (pe_ix ix_list (pv 0) pe_int (fun _ _ => rfl)) (pe_ix ix_list (pv 0) pe_int (fun _ _ => rfl)) (fun _ _ => rfl)))
      (pss_cons (ps_augS (pv 0) pe_int get_lst pe_int ip_add set_list)
      (pss_one (ps_if (pt_cmpR op_ge (pv 2) (pe_op op_pow pe_int pe_int) (nomark _)) (pss_one (ps_asg (pv 2) (pg_sub (pv 0) pe_int setx_list))) (pss_one (ps_asg (pe_op op_mod (pe_callTy cx_int (by rfl) T.int (by decide +kernel) (pa_cons (pe_op op_add (pe_op op_add (pe_op op_mul (pe_ix ix_list (pv 0) pe_int (fun _ _ => rfl)) pe_int) (pe_op op_mul (pv 2) pe_int)) (pe_ix ix_list (pv 0) pe_int (fun _ _ => rfl))) pa_nil)) pe_int) (pg_sub (pv 0) pe_int setx_list))))))) pss_nil))
      (pss_cons (ps_if (pt_cmpR op_gt (pe_ix ix_list (pv 0) pe_int (fun _ _ => rfl)) pe_int (nomark _)) (pss_cons (ps_set (i := 3) nd rfl (.inl rfl) (pe_op op_mod (pe_callTy cx_int (by rfl) T.int (by decide +kernel) (pa_cons (pe_ix ix_list (pv 0) pe_int (fun _ _ => rfl)) pa_nil)) (pv 1)))
      (pss_cons (ps_asg (pe_op op_fdivW (pe_ix ix_list (pv 0) pe_int (fun _ _ => rfl)) (pv 1)) (pg_sub (pv 0) pe_int setx_list))
      (pss_one (ps_ret (pv 3))))) pss_nil)
      (pss_cons (ps_asg (pe_op op_mod (pe_callTy cx_int (by rfl) T.int (by decide +kernel) (pa_cons (pe_op op_add (pe_op op_mul (pe_ix ix_list (pv 0) pe_int (fun _ _ => rfl)) pe_int) pe_int) pa_nil)) pe_int) (pg_sub (pv 0) pe_int setx_list))
      (pss_one (ps_ret (pe_op op_mod (pe_callTy cx_int (by rfl) T.int (by decide +kernel) (pa_cons (pe_op op_fdivW (pe_op op_mod (pe_callTy cx_int (by rfl) T.int (by decide +kernel) (pa_cons (pe_op op_mul (pe_ix ix_list (pv 0) pe_int (fun _ _ => rfl)) pe_int) pa_nil)) pe_int) pe_int) pa_nil)) (pv 1))))))), ?_⟩
    refine ⟨fun σ' H' => ∃ (v : Option V) (i g st : Int), σ' = [some (.ref b), some (.int lim), v, none] ∧ Xb [b] H H' ∧ BagS b l H' ns i g st, ?_, ?_⟩
    · have same : ∃ (v : Option V) (i g st : Int), ([some (.ref b), some (.int lim), none, none] : L2.St) = [some (.ref b), some (.int lim), v, none] ∧ Xb [b] H H ∧ BagS b l H ns i g st := ⟨none, i, g, st, rfl, Xb.refl H, B⟩
      refine ⟨_, rfl, _, _, _, _, rfl, rfl, SqL.of B.hb, rfl, rfl, _, rfl, ?_⟩
      refine ite2 (fun c1 => ?_) (fun _ => iteF same)
      refine ⟨_, rfl, _, _, _, _, rfl, rfl, SqL.of B.hb, rfl, _, rfl, _, _, _, _, rfl, rfl, SqL.of B.hb, rfl, _, _, rfl, .inl (SqL.of B.hl), _, _, rfl, rfl, _, rfl, ?_⟩
      refine ite2 (fun c2 => ?_) (fun _ => same)
      have c2 : i < ((ns.map V.int).length : Int) := of_decide_eq_true c2
      rw [List.length_map] at c2
      obtain ⟨z, hz⟩ : ∃ z, ns[i.toNat]? = some z := ⟨ns[i.toNat]'(by have := B.i0; omega), List.getElem?_eq_getElem _⟩
      have hzV : atI (ns.map V.int) i = some (.int z) := by
        refine at_of (j := i.toNat) (by have := B.i0; omega) ?_
        rw [List.getElem?_map, hz]
        rfl
      refine ⟨_, rfl, _, _, _, _, rfl, rfl, SqL.of B.hb, rfl, _, rfl, _, _, _, _, rfl, rfl, SqL.of B.hb, rfl, _, _, _, _, rfl, rfl, SqL.of B.hl, hzV, ?_⟩
      refine ⟨_, rfl, _, _, _, _, rfl, rfl, SqL.of B.hb, ⟨by decide, by decide⟩, rfl, _, _, rfl, rfl, _, _, _, _, rfl, rfl, B.hb, rfl, ?_⟩
      refine ⟨_, rfl, _, _, rfl, rfl, ⟨by decide, by decide, by decide⟩, _, _, rfl, rfl, _, rfl, ?_⟩
      have hb1 : (upd H b (.lst [.ref l, .int (i + 1), .int g, .int st])) b = some (.lst [.ref l, .int (i + 1), .int g, .int st]) := upd_same
      have hl1' : (upd H b (.lst [.ref l, .int (i + 1), .int g, .int st])) l = some (.lst (ns.map V.int)) := (upd_ne nlb).trans B.hl
      have x1 : Xb [b] H (upd H b (.lst [.ref l, .int (i + 1), .int g, .int st])) := Xb.put
      refine ite2 (fun c3 => ?_) (fun _ => ?_)
      · have c3 : (10 : Int) ^ (18 : Int).toNat ≤ z := of_decide_eq_true c3
        have : (0 : Int) ≤ 10 ^ (18 : Int).toNat := by decide +kernel
        refine ⟨_, rfl, _, rfl, _, _, rfl, rfl, _, _, hb1, rfl, fun H2 x2 h2 => ?_⟩
        have := B.i0
        exact ⟨_, i + 1, z, st, rfl, x1.trans x2, h2, x2.get1 nlb hl1', B.len, by omega, by have := B.len; omega, by omega, B.s0, B.sN⟩
      · refine ⟨_, rfl, _, _, _, _, rfl, rfl, SqL.of hb1, rfl, _, _, rfl, rfl, .inr ⟨by decide, by decide⟩, _, rfl, _, _, rfl, rfl, .inr ⟨by decide, by decide⟩, _, _, rfl, rfl, _, rfl, _, _, _, _, rfl, rfl, SqL.of hb1, rfl, _, _, rfl, rfl, _, rfl, _, _, rfl, rfl, (by show (0 : Int) < 2147483629; decide), _, rfl, _, _, rfl, rfl, _, _, hb1, rfl, fun H2 x2 h2 => ?_⟩
        have := B.i0
        exact ⟨_, i + 1, g, _, rfl, x1.trans x2, h2, x2.get1 nlb hl1', B.len, by omega, by have := B.len; omega, B.g0, Int.emod_nonneg _ (by decide), Int.emod_lt_of_pos _ (by decide)⟩
    · rintro σ' H' ⟨v, i, g, st, rfl, x, B⟩
      refine ⟨_, rfl, _, _, _, _, rfl, rfl, SqL.of B.hb, rfl, _, _, rfl, rfl, _, rfl, ?_⟩
      refine ite2 (fun c1 => ?_) (fun _ => ?_)
      · have c1 : (0 : Int) < g := of_decide_eq_true c1
        refine ⟨_, rfl, _, _, _, _, rfl, rfl, SqL.of B.hb, rfl, _, rfl, _, rfl, _, _, rfl, rfl, hl.1, ?_⟩
        refine ⟨_, rfl, _, _, _, _, rfl, rfl, SqL.of B.hb, rfl, _, rfl, _, _, rfl, rfl, wide_div hl.1 hl.2 (by decide) (by decide), _, rfl, _, _, rfl, rfl, _, _, B.hb, rfl, fun H2 x2 h2 => ⟨_, rfl, ?_⟩⟩
        exact k _ _ (x.trans x2) ⟨nlb, ns, i, g / lim, st, h2, x2.get1 nlb B.hl, B.len, B.i0, B.iN, Int.ediv_nonneg B.g0 (Int.le_of_lt hl.1), B.s0, B.sN⟩ (Int.emod_nonneg _ (Int.ne_of_gt hl.1)) (Int.emod_lt_of_pos _ hl.1)
      · refine ⟨_, rfl, _, _, _, _, rfl, rfl, SqL.of B.hb, rfl, _, _, rfl, rfl, .inr ⟨by decide, by decide⟩, _, _, rfl, rfl, _, rfl, _, _, rfl, rfl, (by show (0 : Int) < 2147483629; decide), _, rfl, _, _, rfl, rfl, _, _, B.hb, rfl, fun H2 x2 h2 => ?_⟩
        refine ⟨_, rfl, _, _, _, _, rfl, rfl, SqL.of h2, rfl, _, _, rfl, rfl, .inr ⟨by decide, by decide⟩, _, rfl, _, _, rfl, rfl, (by show (0 : Int) < 2147483587; decide), _, _, rfl, rfl, wide_div (b := 250) (by decide) (by decide) (by decide) (by decide), _, rfl, _, rfl, _, _, rfl, rfl, hl.1, ?_⟩
        exact k _ _ (x.trans x2) ⟨nlb, ns, i, g, _, h2, x2.get1 nlb B.hl, B.len, B.i0, B.iN, B.g0, Int.emod_nonneg _ (by decide), Int.emod_lt_of_pos _ (by decide)⟩ (Int.emod_nonneg _ (Int.ne_of_gt hl.1)) (Int.emod_lt_of_pos _ hl.1)
def spAll (aL : Addr) : Sp := fun vs H Q _ => vs = [] ∧ Q (.ref aL) H
abbrev sall_lays : Stmt := top 2
theorem scall_lays : FnScope [] [] (defScope sall_lays) := ⟨rfl, rfl, rfl, by decide +kernel, rfl, by decide +kernel, by decide +kernel⟩
theorem okall_lays {f : Addr} {fd : FuncData} (F : Fun K "all_lays" "all_lays" sall_lays f fd) (T : Txt K mg aL)  : FnOk P w K mg base CX0 1 f fd [] (spAll aL) := by
  have nd := scall_lays.nd
  refine F.ok scall_lays (fun vs H Q E h => ?_) (fun cdv A outer s H vs Q E hr h => ?_)
  · obtain ⟨rfl, k⟩ := h
    rfl
  · obtain ⟨rfl, k⟩ := h
    refine ⟨_, (pss_one (ps_ret (pe_glob (v := .ref _) (by rfl) T.mg_LAYS rfl))), ?_⟩
    exact k
abbrev ssign_between : Stmt := top 3
theorem scsign_between : FnScope ["one", "other"] ["one", "other"] (defScope ssign_between) := ⟨rfl, rfl, rfl, by decide +kernel, rfl, by decide +kernel, by decide +kernel⟩
theorem oksign_between {f : Addr} {fd : FuncData} (F : Fun K "sign_between" "sign_between" ssign_between f fd) (T : Txt K mg aL)  : FnOk P w K mg base CX0 1 f fd ["one", "other"] spSign := by
  have nd := scsign_between.nd
  refine F.ok scsign_between (fun vs H Q E h => ?_) (fun cdv A outer s H vs Q E hr h => ?_)
  · obtain ⟨i, j, rfl, k⟩ := h
    rfl
  · obtain ⟨i, j, rfl, k⟩ := h
    refine ⟨_, (pss_cons (ps_if (pt_cmpR op_eq (pv 0) (pv 1) (nomark _)) (pss_one (ps_ret pe_str)) pss_nil)
      (pss_one (ps_ret (pe_ifExp (pt_cmpR op_lt (pv 0) (pv 1) (nomark _)) pe_str pe_str)))), ?_⟩
    unfold sg at k
    refine ⟨_, rfl, _, rfl, rfl, _, rfl, ?_⟩
    refine ite2 (fun c1 => ?_) (fun c1 => ?_)
    · (try simp only [decide_eq_true_eq, Bool.not_eq_true', decide_eq_false_iff_not, Decidable.not_not, V.int.injEq, V.str.injEq, V.bl.injEq] at c1)
      first | (rw [if_pos (by assumption)] at k; exact k) | (rw [if_neg (by assumption), if_pos (by assumption)] at k; exact k) | (rw [if_neg (by assumption), if_neg (by assumption)] at k; exact k)
    · (try simp only [decide_eq_true_eq, Bool.not_eq_true', decide_eq_false_iff_not, Decidable.not_not, V.int.injEq, V.str.injEq, V.bl.injEq] at c1)
      refine ⟨_, rfl, _, rfl, _, _, rfl, rfl, _, rfl, ?_⟩
      refine ite2 (fun c2 => ?_) (fun c2 => ?_)
      · (try simp only [decide_eq_true_eq, Bool.not_eq_true', decide_eq_false_iff_not, Decidable.not_not, V.int.injEq, V.str.injEq, V.bl.injEq] at c2)
        first | (rw [if_pos (by assumption)] at k; exact k) | (rw [if_neg (by assumption), if_pos (by assumption)] at k; exact k) | (rw [if_neg (by assumption), if_neg (by assumption)] at k; exact k)
      · (try simp only [decide_eq_true_eq, Bool.not_eq_true', decide_eq_false_iff_not, Decidable.not_not, V.int.injEq, V.str.injEq, V.bl.injEq] at c2)
        first | (rw [if_pos (by assumption)] at k; exact k) | (rw [if_neg (by assumption), if_pos (by assumption)] at k; exact k) | (rw [if_neg (by assumption), if_neg (by assumption)] at k; exact k)
abbrev slay : Stmt := top 4
theorem sclay : FnScope ["this", "other", "begin", "end", "first", "last"] ["this", "other"] (defScope slay) := ⟨rfl, rfl, rfl, by decide +kernel, rfl, by decide +kernel, by decide +kernel⟩
theorem oklay {f : Addr} {fd : FuncData} (F : Fun K "lay" "lay" slay f fd) (T : Txt K mg aL) (csign_between : Cl P w K mg base 1 "sign_between" spSign) : FnOk P w K mg base CX0 2 f fd ["this", "other"] (spLay K) := by
  have nd := sclay.nd
  refine F.ok sclay (fun vs H Q E h => ?_) (fun cdv A outer s H vs Q E hr h => ?_)
  · obtain ⟨p, q, rfl, b, e, h1, ob, oe, h2, k⟩ := h
    rfl
  · obtain ⟨p, q, rfl, b, e, h1, ob, oe, h2, k⟩ := h
    refine ⟨_, (pss_cons (ps_asg (pv 0) (pg_tup (by rfl) (pgs_cons (pg_name (i := 2) nd rfl (.inl rfl)) (pgs_cons (pg_name (i := 3) nd rfl (.inl rfl)) pgs_nil))))
      (pss_cons (ps_asg (pv 1) (pg_tup (by rfl) (pgs_cons (pg_name (i := 4) nd rfl (.inl rfl)) (pgs_cons (pg_name (i := 5) nd rfl (.inl rfl)) pgs_nil))))
      (pss_one (ps_ret (pe_op op_add_str (pe_op op_add_str (pe_op op_add_str (pc csign_between hr (by rfl) (pa_cons (pv 2) (pa_cons (pv 4) pa_nil))) (pc csign_between hr (by rfl) (pa_cons (pv 2) (pa_cons (pv 5) pa_nil)))) (pc csign_between hr (by rfl) (pa_cons (pv 3) (pa_cons (pv 4) pa_nil)))) (pc csign_between hr (by rfl) (pa_cons (pv 3) (pa_cons (pv 5) pa_nil)))))))), ?_⟩
    refine ⟨_, rfl, _, _, rfl, (by wtm_at "sq"), rfl, _, _, rfl, _, _, rfl, rfl, _, rfl, _, _, rfl, (by wtm_at "sq"), rfl, _, _, rfl, _, _, rfl, rfl, _, rfl, _, rfl, _, _, rfl, _, rfl, _, rfl, _, _, rfl, _, _, rfl, rfl, (by wtm_at "sd"), _, rfl, _, rfl, _, _, rfl, _, _, rfl, rfl, (by wtm_at "sd"), _, rfl, _, rfl, _, _, rfl, _, _, rfl, rfl, (by wtm_at "sd"), ?_⟩
    exact k
abbrev s_law_sign : Stmt := top 9
theorem sc_law_sign : FnScope ["_law_one", "_law_other"] ["_law_one", "_law_other"] (defScope s_law_sign) := ⟨rfl, rfl, rfl, by decide +kernel, rfl, by decide +kernel, by decide +kernel⟩
theorem ok_law_sign {f : Addr} {fd : FuncData} (F : Fun K "_law_sign" "_law_sign" s_law_sign f fd) (T : Txt K mg aL)  : FnOk P w K mg base CX0 1 f fd ["_law_one", "_law_other"] spSign := by
  have nd := sc_law_sign.nd
  refine F.ok sc_law_sign (fun vs H Q E h => ?_) (fun cdv A outer s H vs Q E hr h => ?_)
  · obtain ⟨i, j, rfl, k⟩ := h
    rfl
  · obtain ⟨i, j, rfl, k⟩ := h
    refine ⟨_, (pss_cons (ps_if (pt_cmpR op_eq (pv 0) (pv 1) (nomark _)) (pss_one (ps_ret pe_str)) pss_nil)
      (pss_one (ps_ret (pe_ifExp (pt_cmpR op_lt (pv 0) (pv 1) (nomark _)) pe_str pe_str)))), ?_⟩
    unfold sg at k
    refine ⟨_, rfl, _, rfl, rfl, _, rfl, ?_⟩
    refine ite2 (fun c1 => ?_) (fun c1 => ?_)
    · (try simp only [decide_eq_true_eq, Bool.not_eq_true', decide_eq_false_iff_not, Decidable.not_not, V.int.injEq, V.str.injEq, V.bl.injEq] at c1)
      first | (rw [if_pos (by assumption)] at k; exact k) | (rw [if_neg (by assumption), if_pos (by assumption)] at k; exact k) | (rw [if_neg (by assumption), if_neg (by assumption)] at k; exact k)
    · (try simp only [decide_eq_true_eq, Bool.not_eq_true', decide_eq_false_iff_not, Decidable.not_not, V.int.injEq, V.str.injEq, V.bl.injEq] at c1)
      refine ⟨_, rfl, _, rfl, _, _, rfl, rfl, _, rfl, ?_⟩
      refine ite2 (fun c2 => ?_) (fun c2 => ?_)
      · (try simp only [decide_eq_true_eq, Bool.not_eq_true', decide_eq_false_iff_not, Decidable.not_not, V.int.injEq, V.str.injEq, V.bl.injEq] at c2)
        first | (rw [if_pos (by assumption)] at k; exact k) | (rw [if_neg (by assumption), if_pos (by assumption)] at k; exact k) | (rw [if_neg (by assumption), if_neg (by assumption)] at k; exact k)
      · (try simp only [decide_eq_true_eq, Bool.not_eq_true', decide_eq_false_iff_not, Decidable.not_not, V.int.injEq, V.str.injEq, V.bl.injEq] at c2)
        first | (rw [if_pos (by assumption)] at k; exact k) | (rw [if_neg (by assumption), if_pos (by assumption)] at k; exact k) | (rw [if_neg (by assumption), if_neg (by assumption)] at k; exact k)
abbrev s_law_number : Stmt := top 8
theorem sc_law_number : FnScope ["_law_bag_here", "_law_size"] ["_law_bag_here"] (defScope s_law_number) := ⟨rfl, rfl, rfl, by decide +kernel, rfl, by decide +kernel, by decide +kernel⟩
theorem ok_law_number {f : Addr} {fd : FuncData} (F : Fun K "_law_number" "_law_number" s_law_number f fd) (T : Txt K mg aL) (c_law_pick : Cl P w K mg base 1 "_law_pick" spPick) : FnOk P w K mg base CX0 2 f fd ["_law_bag_here"] sp_law_number := by
  have nd := sc_law_number.nd
  refine F.ok sc_law_number (fun vs H Q E h => ?_) (fun cdv A outer s H vs Q E hr h => ?_)
  · obtain ⟨b, rfl, l, B, k⟩ := h
    rfl
  · obtain ⟨b, rfl, l, B, k⟩ := h
    refine ⟨_, (pss_cons (ps_set (i := 1) nd rfl (.inl rfl) (pc c_law_pick hr (by rfl) (pa_cons (pv 0) (pa_cons pe_int pa_nil))))
      (pss_cons (ps_if (pt_cmpR op_lt (pv 1) pe_int (nomark _)) (pss_one (ps_ret (pc c_law_pick hr (by rfl) (pa_cons (pv 0) (pa_cons pe_int pa_nil))))) pss_nil)
      (pss_cons (ps_if (pt_cmpR op_lt (pv 1) pe_int (nomark _)) (pss_one (ps_ret (pc c_law_pick hr (by rfl) (pa_cons (pv 0) (pa_cons pe_int pa_nil))))) pss_nil)
      (pss_one (ps_ret (pc c_law_pick hr (by rfl) (pa_cons (pv 0) (pa_cons (pe_op op_pow pe_int pe_int) pa_nil)))))))), ?_⟩
    refine ⟨_, rfl, _, _, rfl, _, (by wtm_at "bg"), (by wtm_at "li"), fun n1 H1 x1 B1 n1a n1b => ?_⟩
    refine ⟨_, rfl, _, _, rfl, rfl, _, rfl, ?_⟩
    refine ite2 (fun c2 => ?_) (fun c2 => ?_)
    · (try simp only [decide_eq_true_eq, Bool.not_eq_true', decide_eq_false_iff_not, Decidable.not_not, V.int.injEq, V.str.injEq, V.bl.injEq] at c2)
      refine ⟨_, rfl, _, _, rfl, _, (by wtm_at "bg"), (by wtm_at "li"), fun n3 H3 x3 B3 n3a n3b => ?_⟩
      exact k _ _ (by wtm_at "xb") (by wtm_at "bg") (by assumption) (by first | omega | assumption)
    · (try simp only [decide_eq_true_eq, Bool.not_eq_true', decide_eq_false_iff_not, Decidable.not_not, V.int.injEq, V.str.injEq, V.bl.injEq] at c2)
      refine ⟨_, rfl, _, _, rfl, rfl, _, rfl, ?_⟩
      refine ite2 (fun c4 => ?_) (fun c4 => ?_)
      · (try simp only [decide_eq_true_eq, Bool.not_eq_true', decide_eq_false_iff_not, Decidable.not_not, V.int.injEq, V.str.injEq, V.bl.injEq] at c4)
        refine ⟨_, rfl, _, _, rfl, _, (by wtm_at "bg"), (by wtm_at "li"), fun n5 H5 x5 B5 n5a n5b => ?_⟩
        exact k _ _ (by wtm_at "xb") (by wtm_at "bg") (by assumption) (by first | omega | assumption)
      · (try simp only [decide_eq_true_eq, Bool.not_eq_true', decide_eq_false_iff_not, Decidable.not_not, V.int.injEq, V.str.injEq, V.bl.injEq] at c4)
        refine ⟨_, rfl, _, _, rfl, rfl, ⟨by decide, by decide, by decide⟩, _, _, rfl, _, (by wtm_at "bg"), (by wtm_at "li"), fun n6 H6 x6 B6 n6a n6b => ?_⟩
        exact k _ _ (by wtm_at "xb") (by wtm_at "bg") (by assumption) (by first | omega | assumption)
abbrev s_law_lay : Stmt := top 10
theorem sc_law_lay : FnScope ["_law_this", "_law_other", "_law_signs"] ["_law_this", "_law_other"] (defScope s_law_lay) := ⟨rfl, rfl, rfl, by decide +kernel, rfl, by decide +kernel, by decide +kernel⟩
theorem ok_law_lay {f : Addr} {fd : FuncData} (F : Fun K "_law_lay" "_law_lay" s_law_lay f fd) (T : Txt K mg aL) (c_law_sign : Cl P w K mg base 1 "_law_sign" spSign) : FnOk P w K mg base CX0 2 f fd ["_law_this", "_law_other"] (spLLay K) := by
  have nd := sc_law_lay.nd
  refine F.ok sc_law_lay (fun vs H Q E h => ?_) (fun cdv A outer s H vs Q E hr h => ?_)
  · obtain ⟨p, q, rfl, b, e, h1, ob, oe, h2, k⟩ := h
    rfl
  · obtain ⟨p, q, rfl, b, e, h1, ob, oe, h2, k⟩ := h
    refine ⟨_, (pss_cons (ps_set (i := 2) nd rfl (.inl rfl) (px_lst (pa_cons (pc c_law_sign hr (by rfl) (pa_cons (pe_ix ix_tup (pv 0) pe_int (fun _ _ => rfl)) (pa_cons (pe_ix ix_tup (pv 1) pe_int (fun _ _ => rfl)) pa_nil))) (pa_cons (pc c_law_sign hr (by rfl) (pa_cons (pe_ix ix_tup (pv 0) pe_int (fun _ _ => rfl)) (pa_cons (pe_ix ix_tup (pv 1) pe_int (fun _ _ => rfl)) pa_nil))) pa_nil))))
      (pss_one (ps_ret (pe_join pe_str (pe_op ox_cat (pv 2) (px_lst (pa_cons (pc c_law_sign hr (by rfl) (pa_cons (pe_ix ix_tup (pv 0) pe_int (fun _ _ => rfl)) (pa_cons (pe_ix ix_tup (pv 1) pe_int (fun _ _ => rfl)) pa_nil))) (pa_cons (pc c_law_sign hr (by rfl) (pa_cons (pe_ix ix_tup (pv 0) pe_int (fun _ _ => rfl)) (pa_cons (pe_ix ix_tup (pv 1) pe_int (fun _ _ => rfl)) pa_nil))) pa_nil)))))))), ?_⟩
    refine ⟨_, rfl, _, _, _, _, rfl, rfl, (by wtm_at "sq"), (by wtm_at "ix"), _, rfl, _, _, _, _, rfl, rfl, (by wtm_at "sq"), (by wtm_at "ix"), _, _, rfl, _, rfl, _, _, _, _, rfl, rfl, (by wtm_at "sq"), (by wtm_at "ix"), _, rfl, _, _, _, _, rfl, rfl, (by wtm_at "sq"), (by wtm_at "ix"), _, _, rfl, (by wtm_at "sd"), fun p1 H1 np1 x1 h1 => ?_⟩
    refine ⟨⟨_, rfl⟩, _, rfl, _, rfl, _, _, _, _, rfl, rfl, (by wtm_at "sq"), (by wtm_at "ix"), _, rfl, _, _, _, _, rfl, rfl, (by wtm_at "sq"), (by wtm_at "ix"), _, _, rfl, _, rfl, _, _, _, _, rfl, rfl, (by wtm_at "sq"), (by wtm_at "ix"), _, rfl, _, _, _, _, rfl, rfl, (by wtm_at "sq"), (by wtm_at "ix"), _, _, rfl, (by wtm_at "sd"), fun p2 H2 np2 x2 h2 => ?_⟩
    refine ⟨_, _, rfl, rfl, _, _, (by wtm_at "hp"), (by wtm_at "hp"), (by wtm_at "sd"), fun p3 H3 np3 x3 h3 => ?_⟩
    refine ⟨_, _, [sg b ob, sg b oe, sg e ob, sg e oe], rfl, rfl, (by wtm_at "sq"), (by simp only [List.map_cons, List.map_nil, sg_len]; exact Nat.le_of_ble_eq_true rfl), ?_⟩
    rw [join4]
    exact k _ (by wtm_at "xb")
abbrev s_law_pair : Stmt := top 11
theorem sc_law_pair : FnScope ["_law_bag_here", "_law_places", "_law_found", "_law_k", "_law_place"] ["_law_bag_here", "_law_places"] (defScope s_law_pair) := ⟨rfl, rfl, rfl, by decide +kernel, rfl, by decide +kernel, by decide +kernel⟩
theorem ok_law_pair {f : Addr} {fd : FuncData} (F : Fun K "_law_pair" "_law_pair" s_law_pair f fd) (T : Txt K mg aL) (c_law_pick : Cl P w K mg base 1 "_law_pick" spPick) (c_law_number : Cl P w K mg base 2 "_law_number" sp_law_number) : FnOk P w K mg base CX0 3 f fd ["_law_bag_here", "_law_places"] (spLPair K) := by
  have nd := sc_law_pair.nd
  refine F.ok sc_law_pair (fun vs H Q E h => ?_) (fun cdv A outer s H vs Q E hr h => ?_)
  · obtain ⟨b, q, rfl, l, B, ns, hq, hn0, hn1, nqb, k⟩ := h
    rfl
  · obtain ⟨b, q, rfl, l, B, ns, hq, hn0, hn1, nqb, k⟩ := h
    refine ⟨_, (pss_cons (ps_set (i := 2) nd rfl (.inl rfl) (px_lst pa_nil))
      (pss_cons (ps_for PassesOwn.never rfl (pi_range1 (by rfl) T.range (pa_cons pe_int pa_nil)) (pg_name (i := 3) nd rfl (.inl rfl)) (pss_cons (ps_set (i := 4) nd rfl (.inl rfl) (pe_ix ix_list (px_lst (pa_cons pe_int (pa_cons (pc c_law_number hr (by rfl) (pa_cons (pv 0) pa_nil)) (pa_cons (pe_un un_neg (pc c_law_number hr (by rfl) (pa_cons (pv 0) pa_nil))) pa_nil)))) (pc c_law_pick hr (by rfl) (pa_cons (pv 0) (pa_cons pe_int pa_nil))) (fun _ _ => rfl)))
      (pss_cons (ps_if (pt_cmpR op_gt (pc c_law_pick hr (by rfl) (pa_cons (pv 0) (pa_cons pe_int pa_nil))) pe_int (nomark _)) (pss_one (ps_set (i := 4) nd rfl (.inl rfl) (pe_op op_sub (pe_op op_add (pe_ix ix_list (pv 1) (pc c_law_pick hr (by rfl) (pa_cons (pv 0) (pa_cons (pe_callB call_len_seq (by rfl) T.len PySem.boot_len (pa_cons (pv 1) pa_nil)) pa_nil))) (fun _ _ => rfl)) (pc c_law_pick hr (by rfl) (pa_cons (pv 0) (pa_cons pe_int pa_nil)))) pe_int))) pss_nil)
      (pss_one (ps_expr (pe_bm PySem.F.plainAttrs_list PySem.F.slot_list_append PySem.F.type_list_append mx_append (pv 2) (pa_cons (pv 4) pa_nil)))))))
      (pss_one (ps_ret (px_tup (pa_cons (pe_callB (cr_min rfl) (by rfl) T.min (by decide +kernel) (pa_cons (pv 2) pa_nil)) (pa_cons (pe_callB (cr_max rfl) (by rfl) T.max (by decide +kernel) (pa_cons (pv 2) pa_nil)) pa_nil))))))), ?_⟩
    refine ⟨(by wtm_at "sd"), fun p1 H1 np1 x1 h1 => ?_⟩
    refine ⟨_, rfl, (by wtm_at "rg"), (by wtm_at "rg"), for_range (n := 2) (fun i σ H' => ∃ (v3 v4 : Option V) (ms : List Int), σ = [some (.ref b), some (.ref q), some (.ref p1), v3, v4] ∧ Xb [b, p1] H1 H' ∧ Bag b l H' ∧ H' p1 = some (.lst (ms.map V.int)) ∧ ms.length = i) ?_ ?_ ?_⟩
    · exact ⟨none, none, [], rfl, Xb.refl _, by wtm_at "bg", h1, rfl⟩
    · rintro i σ H2 hi ⟨v3, v4, ms, rfl, x2, B2, h2, e2⟩
      have hq2 : H2 q = some (.lst (ns.map V.int)) := x2.get2 nqb (ne_of_none hq np1.e) (x1.get0 hq)
      refine ⟨_, rfl, _, rfl, _, (by wtm_at "bg"), fun n3 H3 x3 B3 n3a n3b => ?_⟩
      refine ⟨_, rfl, _, rfl, _, (by wtm_at "bg"), fun n4 H4 x4 B4 n4a n4b => ?_⟩
      refine ⟨_, rfl, (by wtm_at "sd"), fun p5 H5 np5 x5 h5 => ?_⟩
      refine ⟨_, rfl, _, _, rfl, _, (by wtm_at "bg"), (by wtm_at "li"), fun n6 H6 x6 B6 n6a n6b => ?_⟩
      refine rd_ixI (by wtm_at "sq") (by omega) (by wtm_at "ln") rfl fun z7 mz7 => ?_
      refine ⟨_, rfl, _, _, rfl, _, (by wtm_at "bg"), (by wtm_at "li"), fun n8 H8 x8 B8 n8a n8b => ?_⟩
      refine ⟨_, _, rfl, rfl, _, rfl, ?_⟩
      refine ite2 (fun c9 => ?_) (fun c9 => ?_)
      · (try simp only [decide_eq_true_eq, Bool.not_eq_true', decide_eq_false_iff_not, Decidable.not_not, V.int.injEq, V.str.injEq, V.bl.injEq] at c9)
        refine ⟨_, rfl, _, rfl, _, rfl, _, _, rfl, (by wtm_at "sq"), _, _, rfl, _, (by wtm_at "bg"), (by wtm_at "li"), fun n10 H10 x10 B10 n10a n10b => ?_⟩
        refine rd_ixN (ns := ns) (by wtm_at "sq") (by omega) (by simp only [List.length_map] at *; omega) fun z11 mz11 => ?_
        refine ⟨_, rfl, _, _, rfl, _, (by wtm_at "bg"), (by wtm_at "li"), fun n12 H12 x12 B12 n12a n12b => ?_⟩
        refine ⟨_, _, rfl, rfl, _, _, rfl, rfl, _, rfl, .inl ⟨rfl, _, (by wtm_at "sq")⟩, _, rfl, _, _, rfl, rfl, _, (by wtm_at "hp"), (by wtm_at "sd"), fun H13 x13 h13 => ?_⟩
        exact ⟨_, _, ms ++ [_], rfl, by wtm_at "xb", by wtm_at "bg", by rw [List.map_append]; assumption, by rw [List.length_append, e2]; rfl⟩
      · (try simp only [decide_eq_true_eq, Bool.not_eq_true', decide_eq_false_iff_not, Decidable.not_not, V.int.injEq, V.str.injEq, V.bl.injEq] at c9)
        refine ⟨_, rfl, .inl ⟨rfl, _, (by wtm_at "sq")⟩, _, rfl, _, _, rfl, rfl, _, (by wtm_at "hp"), (by wtm_at "sd"), fun H14 x14 h14 => ?_⟩
        exact ⟨_, _, ms ++ [_], rfl, by wtm_at "xb", by wtm_at "bg", by rw [List.map_append]; assumption, by rw [List.length_append, e2]; rfl⟩
    · rintro σ H2 ⟨v3, v4, ms, rfl, x2, B2, h2, e2⟩
      have z2 : Xb [b] H H2 := x1.any.locb (.head _) np1 x2
      refine ⟨_, rfl, _, ms, rfl, (by wtm_at "sq"), (by omega), fun mi ni1 ni2 => ?_⟩
      refine ⟨_, rfl, _, ms, rfl, (by wtm_at "sq"), (by omega), fun ma na1 na2 => ?_⟩
      refine ⟨(by wtm_at "sd"), fun p17 H17 np17 x17 h17 => ?_⟩
      exact k _ _ mi ma (by wtm_at "xb") (by wtm_at "bg") (by wtm_at "fr") (by assumption) (ni2 _ na1)
end
end My

namespace My
section
variable {P : Program} {w : World} {K : PySem.W.Frag} {mg : Str → Option Value} {base : Heap} {aL : Addr}

def pl (i : Nat) : List (Int × Int) := (List.range i).flatMap fun (b : Nat) => (List.range (4 - b)).map fun (e : Nat) => ((b : Int), (b : Int) + (e : Int))
theorem pl_succ (i : Nat) : pl (i + 1) = pl i ++ (List.range (4 - i)).map fun (e : Nat) => ((i : Int), (i : Int) + (e : Int)) := by
  unfold pl
  rw [List.range_succ, List.flatMap_append]
  simp
def PL : List (Int × Int) := pl 4
def codesOf (ps : List (Int × Int)) : List Str := ps.flatMap fun p => PL.map fun r => layS p.1 p.2 r.1 r.2
def codesIn (p : Int × Int) (rs : List (Int × Int)) : List Str := rs.map fun r => layS p.1 p.2 r.1 r.2
theorem codesOf_snoc (ps : List (Int × Int)) (p : Int × Int) : codesOf (ps ++ [p]) = codesOf ps ++ codesIn p PL := by
  unfold codesOf codesIn
  rw [List.flatMap_append]
  simp
def cd (l : List Str) : List (Key × V) := l.foldl (fun acc z => putK acc (.inr z) (.bl true)) []
theorem cd_snoc (l : List Str) (z : Str) : cd (l ++ [z]) = putK (cd l) (.inr z) (.bl true) := by
  unfold cd
  rw [List.foldl_append]
  rfl
theorem foldl_len : ∀ (l : List Str) (acc : List (Key × V)), (l.foldl (fun acc z => putK acc (.inr z) (.bl true)) acc).length ≤ acc.length + l.length
  | [], acc => Nat.le_refl _
  | z :: r, acc => by
    have h := foldl_len r (putK acc (.inr z) (.bl true))
    have := putK_len (kvs := acc) (k := .inr z) (v := .bl true)
    rw [List.foldl_cons, List.length_cons]
    omega
theorem cd_len (l : List Str) : (cd l).length ≤ l.length := by
  have := foldl_len l []
  unfold cd
  simpa using this
theorem PL_len : PL.length = 10 := by decide +kernel
theorem codesIn_len (p : Int × Int) (rs : List (Int × Int)) : (codesIn p rs).length = rs.length := List.length_map ..
theorem codesOf_len : ∀ ps : List (Int × Int), (codesOf ps).length = 10 * ps.length
  | [] => rfl
  | p :: r => by
    have h := codesOf_len r
    have e : codesOf (p :: r) = codesIn p PL ++ codesOf r := rfl
    rw [e, List.length_append, codesIn_len, PL_len, h, List.length_cons]
    omega
def keys : List Str := ["====", "=<=<", "<<<<", "==>>", "=<>=", "=<><", "<<==", "<<=<", "=<>>", "<<>>", "<<>=", "<<><", ">>>>", ">=>=", "><><", ">=>>", "><>=", "><>>"]
theorem cd_all : (cd (codesOf PL)).map (fun kv => kV kv.1) = keys.map V.str := by decide +kernel
theorem keys_perm : keys.Perm lays := by decide +kernel
theorem lays_sorted : sortedS lays = true := by decide +kernel
theorem codesOf_take {i : Nat} {p : Int × Int} (h : PL[i]? = some p) : codesOf (PL.take (i + 1)) = codesOf (PL.take i) ++ codesIn p PL := by
  rw [List.take_add_one, h]
  exact codesOf_snoc _ _
theorem codesIn_take {j : Nat} {p r : Int × Int} (h : PL[j]? = some r) : codesIn p (PL.take (j + 1)) = codesIn p (PL.take j) ++ [layS p.1 p.2 r.1 r.2] := by
  rw [List.take_add_one, h]
  unfold codesIn
  rw [List.map_append]
  rfl
theorem pl4 : pl 4 = PL := rfl
def spLAll : Sp := fun vs H Q _ => vs = [] ∧ ∀ (p : Addr) (H' : Hp), Fr H p → Xb [] H H' → H' p = some (.tup (lays.map V.str)) → Q (.ref p) H'

local macro_rules | `(tactic| wtm_at "sd") => `(tactic| first | ((with_reducible show _ < sizeLine); refine sz_lt (Nat.lt_of_le_of_lt (cd_len _) ?_); simp only [List.length_append, codesOf_len, codesIn_len, List.length_take, PL_len]; omega) | fail)
abbrev s_law_all : Stmt := top 12
theorem sc_law_all : FnScope ["_law_pairs", "_law_begin", "_law_codes", "_law_this", "_law_other", "_law_end"] [] (defScope s_law_all) := ⟨rfl, rfl, rfl, by decide +kernel, rfl, by decide +kernel, by decide +kernel⟩
theorem ok_law_all {f : Addr} {fd : FuncData} (F : Fun K "_law_all" "_law_all" s_law_all f fd) (T : Txt K mg aL) (c_law_lay : Cl P w K mg base 2 "_law_lay" (spLLay K)) : FnOk P w K mg base CX0 3 f fd [] spLAll := by
  have nd := sc_law_all.nd
  refine F.ok sc_law_all (fun vs H Q E h => ?_) (fun cdv A outer s H vs Q E hr h => ?_)
  · obtain ⟨rfl, k⟩ := h
    rfl
  · obtain ⟨rfl, k⟩ := h
    refine ⟨_, (pss_cons (ps_set (i := 0) nd rfl (.inl rfl) (px_lst pa_nil))
      (pss_cons (ps_for PassesOwn.never rfl (pi_range1 (by rfl) T.range (pa_cons pe_int pa_nil)) (pg_name (i := 1) nd rfl (.inr rfl)) (pss_one (ps_set (i := 0) nd rfl (.inl rfl) (pe_op ox_cat (pv 0) (pe_lc (own := [("_law_end", 5)]) (g := (gName 5)) (tt := tYes) rfl nd (pi_range2 (by rfl) T.range (pa_cons (pv 1) (pa_cons pe_int pa_nil))) (blkOk_by (own := [("_law_end", 5)]) (N := ["_law_pairs", "_law_begin", "_law_codes", "_law_this", "_law_other", "_law_end"]) (sc := defScope s_law_all) (by decide +kernel)) (fun _ _ _ _ _ => (pg_name (i := 5) nd rfl (.inl rfl))) (fun _ _ _ _ _ => pts_nil) (fun _ _ _ _ _ => (px_tup (pa_cons (pv 1) (pa_cons (pv 5) pa_nil)))))))))
      (pss_cons (ps_set (i := 2) nd rfl (.inl rfl) px_dnew)
      (pss_cons (ps_for PassesOwn.never rfl (pi_list (pv 0)) (pg_name (i := 3) nd rfl (.inl rfl)) (pss_one (ps_for PassesOwn.never rfl (pi_list (pv 0)) (pg_name (i := 4) nd rfl (.inl rfl)) (pss_one (ps_asg pe_bl (pg_sub (pv 2) (pc c_law_lay hr (by rfl) (pa_cons (pv 3) (pa_cons (pv 4) pa_nil))) (setx_dictS (hu_of hr))))))))
      (pss_one (ps_ret (pe_callTy cx_tuple (by rfl) T.tuple (by decide +kernel) (pa_cons (pe_callB cx_sortedS (by rfl) T.sorted (by decide +kernel) (pa_cons (pe_callTy (cx_listD rfl) (by rfl) T.list (by decide +kernel) (pa_cons (pv 2) pa_nil)) pa_nil)) pa_nil)))))))), ?_⟩
    refine ⟨(by wtm_at "sd"), fun p1 H1 np1 x1 h1 => ?_⟩
    refine ⟨_, rfl, (by wtm_at "rg"), (by wtm_at "rg"), for_range (n := 4) (fun i σ H' => ∃ (q : Addr) (xs : List V) (v1 v5 : Option V), σ = [some (.ref q), v1, none, none, none, v5] ∧ Xb [] H1 H' ∧ H' q = some (.lst xs) ∧ Pairs H' xs (pl i)) ?_ ?_ ?_⟩
    · exact ⟨p1, [], none, none, rfl, Xb.refl _, h1, .nil⟩
    · rintro i σ H2 hi ⟨q, xs, v1, v5, rfl, x2, hq2, P2⟩
      refine ⟨_, rfl, _, rfl, _, _, rfl, ⟨by wtm_at "rg", by wtm_at "rg", by wtm_at "rg", by wtm_at "rg"⟩, fun D3 hD3 => lc_range (lo := (0 : Int) + i) (n := _) (LcI (fun e H' acc => Xb [] H2 H' ∧ Pairs H' acc ((List.range e).map fun (e : Nat) => ((i : Int), (i : Int) + (e : Int)))) D3) ?_ ?_ ?_⟩
      · refine LcI.start hD3 fun H3a np3a x3a h3a => ?_
        exact ⟨by wtm_at "xb", .nil⟩
      · rintro e H3 he ⟨acc, hD3b, x3b, P3⟩
        have fD3 : Fr H2 D3 := ⟨hD3⟩
        have la3 := paired_len P3
        rw [List.length_map, List.length_range] at la3
        refine ⟨rfl, _, rfl, _, rfl, (by wtm_at "sd"), fun p4 H4 np4 x4 h4 => ?_⟩
        refine ⟨_, (by wtm_at "hp"), (by wtm_at "sd"), LcI.put fun H3b x3b h3b => ?_⟩
        simp only [Int.zero_add] at h4
        exact ⟨by wtm_at "xb", by rw [List.range_succ, List.map_append]; exact ((P3.keep x4).keepl x3b (by wtm_at "hp")).snoc ⟨p4, rfl, by wtm_at "hp"⟩⟩
      · rintro H3 ⟨acc, hD3, x3, P3⟩
        rw [show ((4 : Int) - (0 + (i : Int))).toNat = 4 - i by omega] at P3
        have l2 := paired_len P2
        have l3 := paired_len P3
        rw [List.length_map, List.length_range] at l3
        have l4 : (pl i).length ≤ 10 := (by decide : ∀ i, i < 4 → (pl i).length ≤ 10) i hi
        refine ⟨_, _, rfl, rfl, _, _, (by wtm_at "hp"), (by wtm_at "hp"), (by wtm_at "sd"), fun p5 H5 np5 x5 h5 => ?_⟩
        exact ⟨_, _, _, _, rfl, by wtm_at "xb", by assumption, by rw [pl_succ]; exact paired_app ((P2.keep x3).keep x5) (P3.keep x5)⟩
    · rintro σ H2 ⟨q, xs, v1, v5, rfl, x2, hq2, P2⟩
      have hlen : xs.length = PL.length := paired_len P2
      refine fun p6 H6 np6 x6 h6 => ?_
      have nqd : q ≠ p6 := ne_of_none hq2 np6.e
      have hq6 : H6 q = some (.lst xs) := x6.get0 hq2
      have P6 := P2.keep x6
      refine ⟨_, rfl, _, rfl, ⟨_, (by wtm_at "sq")⟩, for_list (K := K) (a := q) (xs := xs) (fun i σ H' => ∃ (v3 v4 : Option V), σ = [some (.ref q), v1, some (.ref p6), v3, v4, v5] ∧ Xb [p6] H6 H' ∧ H' p6 = some (.dK (cd (codesOf (PL.take i))))) ?_ ?_ ?_ ?_⟩
      · exact ⟨none, none, rfl, Xb.refl _, h6⟩
      · rintro i σ H7 hi ⟨v3, v4, rfl, x7, h7⟩
        exact SqL.of (x7.get1 nqd hq6)
      · rintro i y σ H7 hi ⟨v3, v4, rfl, x7, h7⟩
        have P7 := P6.keepd x7 h6
        obtain ⟨pr, hpr, a, rfl, ha⟩ := paired_get P7 hi
        have hi10 : i < 10 := by have := (List.getElem?_eq_some_iff.mp hpr).1; rw [pl4, PL_len] at this; exact this
        have hq' : H7 q = some (.lst xs) := x7.get1 nqd hq6
        refine ⟨_, rfl, _, rfl, ⟨_, (by wtm_at "sq")⟩, for_list (K := K) (a := q) (xs := xs) (fun j σ H' => ∃ (v4 : Option V), σ = [some (.ref q), v1, some (.ref p6), some (.ref a), v4, v5] ∧ Xb [p6] H7 H' ∧ H' p6 = some (.dK (cd (codesOf (PL.take i) ++ codesIn pr (PL.take j))))) ?_ ?_ ?_ ?_⟩
        · exact ⟨_, rfl, Xb.refl _, by simp [codesIn]; exact h7⟩
        · rintro j σ H7 hj ⟨v4, rfl, x7, h7⟩
          exact SqL.of (x7.get1 nqd hq')
        · rintro j y σ H8 hj ⟨v4, rfl, x8, h8⟩
          have R8 := P7.keepd x8 h7
          obtain ⟨qr, hqr, a2, rfl, ha2⟩ := paired_get R8 hj
          have ha8 : H8 a = some (.tup [.int pr.1, .int pr.2]) := x8.get1 (ne_of ha h7 fun q => nomatch q) ha
          refine ⟨_, rfl, _, rfl, _, rfl, _, _, rfl, _, _, (by wtm_at "sq"), _, _, (by wtm_at "sq"), fun H9 x9 => ?_⟩
          refine ⟨_, _, rfl, rfl, _, (by wtm_at "hp"), (by wtm_at "sd"), fun H10 x10 h10 => ?_⟩
          exact ⟨_, rfl, by wtm_at "xb", by rw [codesIn_take hqr, ← List.append_assoc, cd_snoc]; assumption⟩
        · rintro σ H8 ⟨v4, rfl, x8, h8⟩
          rw [hlen, List.take_length] at h8
          exact ⟨_, _, rfl, by wtm_at "xb", by rw [codesOf_take hpr]; assumption⟩
      · rintro σ H7 ⟨v3, v4, rfl, x7, h7⟩
        rw [hlen, List.take_length] at h7
        refine ⟨_, rfl, _, rfl, _, (.inl (by wtm_at "hp")), fun p11 H11 np11 x11 h11 => ?_⟩
        refine ⟨_, rfl, keys, (by rw [← cd_all]; wtm_at "sq"), (by decide), fun ys12 p12 H12 pm12 so12 np12 x12 h12 => ?_⟩
        refine ⟨_, rfl, _, (by wtm_at "sq"), fun p13 H13 np13 x13 h13 => ?_⟩
        have e : ys12 = lays := sorted_same (pm12.trans keys_perm) so12 lays_sorted
        subst e
        exact k _ _ (by wtm_at "fr") (by wtm_at "xb") (by assumption)
end
end My

namespace My
section
variable {P : Program} {w : World} {K : PySem.W.Frag} {mg : Str → Option Value} {base : Heap} {aL : Addr}

/-- a row of the law: two pairs of numbers -/
def RowAt (H : Hp) (x : V) : Prop := ∃ (r p q : Addr) (b e ob oe : Int), x = .ref r ∧ H r = some (.tup [.ref p, .ref q]) ∧ H p = some (.tup [.int b, .int e]) ∧ b ≤ e ∧ H q = some (.tup [.int ob, .int oe]) ∧ ob ≤ oe
theorem layS_in {b e ob oe : Int} (h : b ≤ e) (h' : ob ≤ oe) : layS b e ob oe ∈ lays := by
  unfold layS sg
  split <;> split <;> split <;> split <;> (try split) <;> (try split) <;> (try split) <;> (try split) <;> first | (exfalso; omega) | decide +kernel
def spLaw : Sp := fun vs H Q _ => ∃ a, vs = [.ref a] ∧ ∃ ns : List Int, SqL K H a (ns.map V.int) ∧ ns.length ≤ 63 ∧ ∀ H', Q (.bl true) H'

abbrev slaw : Stmt := top 13
theorem sclaw : FnScope ["_law_script", "_law_bag_here", "_law_codes", "_law_turn", "_law_this", "_law_other", "_law_rows", "_law_a", "_law_b", "_law_found"] ["_law_script"] (defScope slaw) := ⟨rfl, rfl, rfl, by decide +kernel, rfl, by decide +kernel, by decide +kernel⟩
theorem oklaw {f : Addr} {fd : FuncData} (F : Fun K "law" "law" slaw f fd) (T : Txt K mg aL) (c_law_bag : Cl P w K mg base 1 "_law_bag" (spBag K)) (call_lays : Cl P w K mg base 1 "all_lays" (spAll aL)) (c_law_all : Cl P w K mg base 3 "_law_all" spLAll) (c_law_pair : Cl P w K mg base 3 "_law_pair" (spLPair K)) (clay : Cl P w K mg base 2 "lay" (spLay K)) (c_law_lay : Cl P w K mg base 2 "_law_lay" (spLLay K)) : FnOk P w K mg base CX0 4 f fd ["_law_script"] (spLaw (K := K)) := by
  have nd := sclaw.nd
  refine F.ok sclaw (fun vs H Q E h => ?_) (fun cdv A outer s H vs Q E hr h => ?_)
  · obtain ⟨a, rfl, ns, hS, hlen, k⟩ := h
    rfl
  · obtain ⟨a, rfl, ns, hS, hlen, k⟩ := h
    refine ⟨_, (pss_cons (ps_set (i := 1) nd rfl (.inl rfl) (pc c_law_bag hr (by rfl) (pa_cons (pv 0) pa_nil)))
      (pss_cons (ps_set (i := 2) nd rfl (.inl rfl) (pc0 call_lays hr (by rfl)))
      (pss_cons (ps_if (PW.pt (pw_or (pt_not (pt_val (pe_callB call_isi (by rfl) T.isinstance (by decide +kernel) (pa_cons (pv 2) (pa_cons (pe_bltn (v := .ty "tuple") (by rfl) T.tuple (by decide +kernel) rfl) pa_nil))))) (pw_or1 (pt_cmpR (op_neD hr.units) (pv 2) (pc0 c_law_all hr (by rfl)) (nomark _))))) (pss_one (ps_ret pe_bl)) pss_nil)
      (pss_cons (ps_for PassesOwn.never rfl (pi_range1 (by rfl) T.range (pa_cons pe_int pa_nil)) (pg_name (i := 3) nd rfl (.inl rfl)) (pss_cons (ps_set (i := 4) nd rfl (.inl rfl) (pc c_law_pair hr (by rfl) (pa_cons (pv 1) (pa_cons (px_lst (pa_cons pe_int pa_nil)) pa_nil))))
      (pss_cons (ps_set (i := 5) nd rfl (.inl rfl) (pc c_law_pair hr (by rfl) (pa_cons (pv 1) (pa_cons (px_lst (pa_cons (pe_ix ix_tup (pv 4) pe_int (fun _ _ => rfl)) (pa_cons (pe_ix ix_tup (pv 4) pe_int (fun _ _ => rfl)) (pa_cons pe_int pa_nil)))) pa_nil))))
      (pss_cons (ps_set (i := 6) nd rfl (.inl rfl) (px_lst (pa_cons (px_tup (pa_cons (pv 4) (pa_cons (pv 5) pa_nil))) (pa_cons (px_tup (pa_cons (pv 5) (pa_cons (pv 4) pa_nil))) (pa_cons (px_tup (pa_cons (pv 4) (pa_cons (pv 4) pa_nil))) (pa_cons (px_tup (pa_cons (pv 4) (pa_cons (px_tup (pa_cons (pe_ix ix_tup (pv 4) pe_int (fun _ _ => rfl)) (pa_cons (pe_ix ix_tup (pv 4) pe_int (fun _ _ => rfl)) pa_nil))) pa_nil))) pa_nil))))))
      (pss_one (ps_for PassesOwn.never rfl (pi_list (pe_op ox_cat (pv 6) (px_lst (pa_cons (px_tup (pa_cons (px_tup (pa_cons (pe_ix ix_tup (pv 4) pe_int (fun _ _ => rfl)) (pa_cons (pe_ix ix_tup (pv 4) pe_int (fun _ _ => rfl)) pa_nil))) (pa_cons (pv 4) pa_nil))) pa_nil)))) (pg_tup (by rfl) (pgs_cons (pg_name (i := 7) nd rfl (.inl rfl)) (pgs_cons (pg_name (i := 8) nd rfl (.inl rfl)) pgs_nil))) (pss_cons (ps_set (i := 9) nd rfl (.inl rfl) (pc clay hr (by rfl) (pa_cons (pv 7) (pa_cons (pv 8) pa_nil))))
      (pss_one (ps_if (PW.pt (pw_or (pt_not (pt_val (pe_callB call_isi (by rfl) T.isinstance (by decide +kernel) (pa_cons (pv 9) (pa_cons (pe_bltn (v := .ty "str") (by rfl) T.str (by decide +kernel) rfl) pa_nil))))) (pw_or (pt_cmpR op_ne (pv 9) (pc c_law_lay hr (by rfl) (pa_cons (pv 7) (pa_cons (pv 8) pa_nil))) (nomark _)) (pw_or1 (pt_cmpR op_notIn_seq (pv 9) (pv 2) (by rfl)))))) (pss_one (ps_ret pe_bl)) pss_nil)))))))))
      (pss_one (ps_ret pe_bl)))))), ?_⟩
    refine ⟨_, rfl, _, rfl, _, (by wtm_at "sq"), (by assumption), fun b l H1 B x1 => ?_⟩
    refine ⟨rfl, _, rfl, _, _, _, _, _, rfl, .ty _, .kTuple T.kLAYS.choose_spec.1 T.kLAYS.choose_spec.2, kit_ty (r := true) (by decide +kernel), _, rfl, ?_⟩
    refine ite_F (by exact Bool.false_ne_true) ?_
    refine ⟨_, rfl, rfl, fun p2 H2 np2 x2 h2 => ?_⟩
    refine ⟨_, _, .tup (T.sLAYS _) (dp_strs lays), .tup (SqT.of (by wtm_at "hp")) (dp_strs lays), (by decide +kernel), (by decide +kernel), _, rfl, ?_⟩
    refine ite_F (by decide +kernel) ?_
    refine ⟨_, rfl, (by wtm_at "rg"), (by wtm_at "rg"), for_range (n := 6) (fun i σ H' => ∃ (v3 v4 v5 v6 v7 v8 v9 : Option V), σ = [some (.ref a), some (.ref b), some (.ref aL), v3, v4, v5, v6, v7, v8, v9] ∧ Bag b l H') ?_ ?_ ?_⟩
    · exact ⟨_, _, _, _, _, _, _, rfl, by wtm_at "bg"⟩
    · rintro i σ H3 hi ⟨v3, v4, v5, v6, v7, v8, v9, rfl, B3⟩
      refine ⟨_, rfl, (by wtm_at "sd"), fun p4 H4 np4 x4 h4 => ?_⟩
      refine ⟨_, _, rfl, _, (by wtm_at "bg"), [0], (by wtm_at "hp"), (by decide), (by decide), (by wtm_at "ne"), fun pT HT loT hiT xT BT npT hT leT => ?_⟩
      refine ⟨_, rfl, _, rfl, _, _, _, _, rfl, rfl, (by wtm_at "sq"), (by wtm_at "ix"), _, rfl, _, _, _, _, rfl, rfl, (by wtm_at "sq"), (by wtm_at "ix"), (by wtm_at "sd"), fun p6 H6 np6 x6 h6 => ?_⟩
      refine ⟨_, _, rfl, _, (by wtm_at "bg"), [loT, hiT, 0], (by wtm_at "hp"), (Nat.le_of_ble_eq_true rfl), (Nat.le_of_ble_eq_true rfl), (by wtm_at "ne"), fun pO HO_ loO hiO xO BO npO hO leO => ?_⟩
      refine ⟨_, rfl, _, rfl, (by wtm_at "sd"), fun r1 K1 n1 y1 t1 => ?_⟩
      refine ⟨_, rfl, _, rfl, (by wtm_at "sd"), fun r2 K2 n2 y2 t2 => ?_⟩
      refine ⟨_, rfl, _, rfl, (by wtm_at "sd"), fun r3 K3 n3 y3 t3 => ?_⟩
      refine ⟨_, rfl, _, rfl, _, _, _, _, rfl, rfl, (by wtm_at "sq"), (by wtm_at "ix"), _, rfl, _, _, _, _, rfl, rfl, (by wtm_at "sq"), (by wtm_at "ix"), (by wtm_at "sd"), fun s4 J4 m4 z4 u4 => ?_⟩
      refine ⟨(by wtm_at "sd"), fun r4 K4 n4 y4 t4 => ?_⟩
      refine ⟨(by wtm_at "sd"), fun pW HW npW xW hW => ?_⟩
      refine ⟨_, rfl, _, rfl, _, _, _, _, rfl, rfl, (by wtm_at "sq"), (by wtm_at "ix"), _, rfl, _, _, _, _, rfl, rfl, (by wtm_at "sq"), (by wtm_at "ix"), (by wtm_at "sd"), fun s5 J5 m5 z5 u5 => ?_⟩
      refine ⟨_, rfl, (by wtm_at "sd"), fun r5 K5 n5 y5 t5 => ?_⟩
      refine ⟨(by wtm_at "sd"), fun p16 H16 np16 x16 h16 => ?_⟩
      refine ⟨_, _, rfl, rfl, _, _, (by wtm_at "hp"), (by wtm_at "hp"), (by wtm_at "sd"), fun pR HR npR xR hR => ?_⟩
      have rowsR : ∀ x ∈ ([.ref r1, .ref r2, .ref r3, .ref r4] ++ [.ref r5] : List V), RowAt HR x := by
        intro x hx
        simp only [List.cons_append, List.nil_append, List.mem_cons, List.not_mem_nil, or_false] at hx
        rcases hx with rfl | rfl | rfl | rfl | rfl
        · exact ⟨_, _, _, _, _, _, _, rfl, by wtm_at "hp", by wtm_at "hp", leT, by wtm_at "hp", leO⟩
        · exact ⟨_, _, _, _, _, _, _, rfl, by wtm_at "hp", by wtm_at "hp", leO, by wtm_at "hp", leT⟩
        · exact ⟨_, _, _, _, _, _, _, rfl, by wtm_at "hp", by wtm_at "hp", leT, by wtm_at "hp", leT⟩
        · exact ⟨_, _, _, _, _, _, _, rfl, by wtm_at "hp", by wtm_at "hp", leT, by wtm_at "hp", Int.le_refl _⟩
        · exact ⟨_, _, _, _, _, _, _, rfl, by wtm_at "hp", by wtm_at "hp", Int.le_refl _, by wtm_at "hp", leT⟩
      refine ⟨_, rfl, ⟨_, (by wtm_at "sq")⟩, for_list (K := K) (a := pR) (xs := [.ref r1, .ref r2, .ref r3, .ref r4] ++ [.ref r5]) (fun j σ H' => ∃ (v7 v8 v9 : Option V), σ = [some (.ref a), some (.ref b), some (.ref aL), some (.int (0 + i)), some (.ref pT), some (.ref pO), some (.ref pW), v7, v8, v9] ∧ Xb [] HR H') ?_ ?_ ?_ ?_⟩
      · exact ⟨_, _, _, rfl, Xb.refl _⟩
      · rintro j σ H18 hj ⟨v7, v8, v9, rfl, x18⟩
        exact SqL.of (x18.get0 hR)
      · rintro j y σ H18 hj ⟨v7, v8, v9, rfl, x18⟩
        obtain ⟨r, p, q, c, e, oc, oe, rfl, hr18, hp18, le1, hq18, le2⟩ := rowsR _ (List.mem_of_getElem? hj)
        have hr18a := x18.get0 hr18
        have hp18a := x18.get0 hp18
        have hq18a := x18.get0 hq18
        refine ⟨_, _, rfl, (by wtm_at "sq"), rfl, _, _, rfl, _, _, rfl, rfl, _, rfl, _, rfl, _, _, rfl, _, _, (by wtm_at "sq"), _, _, (by wtm_at "sq"), _, rfl, _, _, _, _, _, rfl, .ty _, .base (.str _), kit_ty (r := true) (by decide +kernel), _, rfl, ?_⟩
        refine ite_F (by exact Bool.false_ne_true) ?_
        refine ⟨_, rfl, _, rfl, _, rfl, _, _, rfl, _, _, (by wtm_at "sq"), _, _, (by wtm_at "sq"), fun H19 x19 => ?_⟩
        refine ⟨rfl, _, rfl, ?_⟩
        refine ite_F (by simp) ?_
        refine ⟨_, rfl, _, rfl, _, _, rfl, .inr (T.sLAYS _), rfl, rfl, _, rfl, ?_⟩
        refine ite_F (by rw [in_strs (layS_in le1 le2)]; decide) ?_
        exact ⟨_, _, _, rfl, by wtm_at "xb"⟩
      · rintro σ H18 ⟨v7, v8, v9, rfl, x18⟩
        exact ⟨_, _, _, _, _, _, _, rfl, by wtm_at "bg"⟩
    · rintro σ H3 ⟨v3, v4, v5, v6, v7, v8, v9, rfl, B3⟩
      exact k _
end
end My

open PySem PySem.Spec PyProof.Rows L2 My
namespace My
set_option maxHeartbeats 4000000
theorem all_mk {l : PySem.W.OpenLaw} {w : World} {K : PySem.W.Frag} {h : Heap} {mg : Str → Option Value} {f0 f1 f2 f3 f4 f5 f6 f7 f8 f9 f10 fa : Addr} (X : K.In h) (G : h.Ns mainGlobals mg) (hfa : mg "law" = some (.ref fa))
    {od0 an0 : Option Addr} {sl0 : Array (Option Value)} {oc0 kV0 dc0 pm0 cd0 ct0 : Value} {od1 an1 : Option Addr} {sl1 : Array (Option Value)} {oc1 kV1 dc1 pm1 cd1 ct1 : Value} {od2 an2 : Option Addr} {sl2 : Array (Option Value)} {oc2 kV2 dc2 pm2 cd2 ct2 : Value} {od3 an3 : Option Addr} {sl3 : Array (Option Value)} {oc3 kV3 dc3 pm3 cd3 ct3 : Value} {od4 an4 : Option Addr} {sl4 : Array (Option Value)} {oc4 kV4 dc4 pm4 cd4 ct4 : Value} {od5 an5 : Option Addr} {sl5 : Array (Option Value)} {oc5 kV5 dc5 pm5 cd5 ct5 : Value} {od6 an6 : Option Addr} {sl6 : Array (Option Value)} {oc6 kV6 dc6 pm6 cd6 ct6 : Value} {od7 an7 : Option Addr} {sl7 : Array (Option Value)} {oc7 kV7 dc7 pm7 cd7 ct7 : Value} {od8 an8 : Option Addr} {sl8 : Array (Option Value)} {oc8 kV8 dc8 pm8 cd8 ct8 : Value} {od9 an9 : Option Addr} {sl9 : Array (Option Value)} {oc9 kV9 dc9 pm9 cd9 ct9 : Value} {od10 an10 : Option Addr} {sl10 : Array (Option Value)} {oc10 kV10 dc10 pm10 cd10 ct10 : Value}
    (a0 : PySem.W.nsIn K mainGlobals "_law_bag" = some (some (.ref f0))) (l0 : K.lookup f0 = some ⟨oc0, od0, .func (PySem.W.fnOf "_law_bag" "_law_bag" (defArgs s_law_bag) (defBody s_law_bag) (defScope s_law_bag) .none kV0 dc0 pm0 an0 cd0 ct0), sl0⟩) (c0 : PySem.W.codeIn K cd0 "_law_bag" = true) (k0 : PySem.W.keepIn K (.ref f0) = true)
    (a1 : PySem.W.nsIn K mainGlobals "_law_pick" = some (some (.ref f1))) (l1 : K.lookup f1 = some ⟨oc1, od1, .func (PySem.W.fnOf "_law_pick" "_law_pick" (defArgs s_law_pick) (defBody s_law_pick) (defScope s_law_pick) .none kV1 dc1 pm1 an1 cd1 ct1), sl1⟩) (c1 : PySem.W.codeIn K cd1 "_law_pick" = true) (k1 : PySem.W.keepIn K (.ref f1) = true)
    (a2 : PySem.W.nsIn K mainGlobals "all_lays" = some (some (.ref f2))) (l2 : K.lookup f2 = some ⟨oc2, od2, .func (PySem.W.fnOf "all_lays" "all_lays" (defArgs sall_lays) (defBody sall_lays) (defScope sall_lays) .none kV2 dc2 pm2 an2 cd2 ct2), sl2⟩) (c2 : PySem.W.codeIn K cd2 "all_lays" = true) (k2 : PySem.W.keepIn K (.ref f2) = true)
    (a3 : PySem.W.nsIn K mainGlobals "sign_between" = some (some (.ref f3))) (l3 : K.lookup f3 = some ⟨oc3, od3, .func (PySem.W.fnOf "sign_between" "sign_between" (defArgs ssign_between) (defBody ssign_between) (defScope ssign_between) .none kV3 dc3 pm3 an3 cd3 ct3), sl3⟩) (c3 : PySem.W.codeIn K cd3 "sign_between" = true) (k3 : PySem.W.keepIn K (.ref f3) = true)
    (a4 : PySem.W.nsIn K mainGlobals "lay" = some (some (.ref f4))) (l4 : K.lookup f4 = some ⟨oc4, od4, .func (PySem.W.fnOf "lay" "lay" (defArgs slay) (defBody slay) (defScope slay) .none kV4 dc4 pm4 an4 cd4 ct4), sl4⟩) (c4 : PySem.W.codeIn K cd4 "lay" = true) (k4 : PySem.W.keepIn K (.ref f4) = true)
    (a5 : PySem.W.nsIn K mainGlobals "_law_sign" = some (some (.ref f5))) (l5 : K.lookup f5 = some ⟨oc5, od5, .func (PySem.W.fnOf "_law_sign" "_law_sign" (defArgs s_law_sign) (defBody s_law_sign) (defScope s_law_sign) .none kV5 dc5 pm5 an5 cd5 ct5), sl5⟩) (c5 : PySem.W.codeIn K cd5 "_law_sign" = true) (k5 : PySem.W.keepIn K (.ref f5) = true)
    (a6 : PySem.W.nsIn K mainGlobals "_law_number" = some (some (.ref f6))) (l6 : K.lookup f6 = some ⟨oc6, od6, .func (PySem.W.fnOf "_law_number" "_law_number" (defArgs s_law_number) (defBody s_law_number) (defScope s_law_number) .none kV6 dc6 pm6 an6 cd6 ct6), sl6⟩) (c6 : PySem.W.codeIn K cd6 "_law_number" = true) (k6 : PySem.W.keepIn K (.ref f6) = true)
    (a7 : PySem.W.nsIn K mainGlobals "_law_lay" = some (some (.ref f7))) (l7 : K.lookup f7 = some ⟨oc7, od7, .func (PySem.W.fnOf "_law_lay" "_law_lay" (defArgs s_law_lay) (defBody s_law_lay) (defScope s_law_lay) .none kV7 dc7 pm7 an7 cd7 ct7), sl7⟩) (c7 : PySem.W.codeIn K cd7 "_law_lay" = true) (k7 : PySem.W.keepIn K (.ref f7) = true)
    (a8 : PySem.W.nsIn K mainGlobals "_law_pair" = some (some (.ref f8))) (l8 : K.lookup f8 = some ⟨oc8, od8, .func (PySem.W.fnOf "_law_pair" "_law_pair" (defArgs s_law_pair) (defBody s_law_pair) (defScope s_law_pair) .none kV8 dc8 pm8 an8 cd8 ct8), sl8⟩) (c8 : PySem.W.codeIn K cd8 "_law_pair" = true) (k8 : PySem.W.keepIn K (.ref f8) = true)
    (a9 : PySem.W.nsIn K mainGlobals "_law_all" = some (some (.ref f9))) (l9 : K.lookup f9 = some ⟨oc9, od9, .func (PySem.W.fnOf "_law_all" "_law_all" (defArgs s_law_all) (defBody s_law_all) (defScope s_law_all) .none kV9 dc9 pm9 an9 cd9 ct9), sl9⟩) (c9 : PySem.W.codeIn K cd9 "_law_all" = true) (k9 : PySem.W.keepIn K (.ref f9) = true)
    (a10 : PySem.W.nsIn K mainGlobals "law" = some (some (.ref f10))) (l10 : K.lookup f10 = some ⟨oc10, od10, .func (PySem.W.fnOf "law" "law" (defArgs slaw) (defBody slaw) (defScope slaw) .none kV10 dc10 pm10 an10 cd10 ct10), sl10⟩) (c10 : PySem.W.codeIn K cd10 "law" = true) (k10 : PySem.W.keepIn K (.ref f10) = true)
    (z_list : PySem.W.nsIn K mainGlobals "list" = some none)    (z_int : PySem.W.nsIn K mainGlobals "int" = some none)    (z_len : PySem.W.nsIn K mainGlobals "len" = some none)    (z_range : PySem.W.nsIn K mainGlobals "range" = some none)    (z_min : PySem.W.nsIn K mainGlobals "min" = some none)    (z_max : PySem.W.nsIn K mainGlobals "max" = some none)    (z_tuple : PySem.W.nsIn K mainGlobals "tuple" = some none)    (z_sorted : PySem.W.nsIn K mainGlobals "sorted" = some none)    (z_isinstance : PySem.W.nsIn K mainGlobals "isinstance" = some none)    (z_str : PySem.W.nsIn K mainGlobals "str" = some none)
    {aL : Addr} {dd : Option Addr} {its : Array Value} {nL : Nat} {slL : Array (Option Value)} (aLAYS : PySem.W.nsIn K mainGlobals "LAYS" = some (some (.ref aL))) (lL : K.lookup aL = some ⟨.type "tuple", dd, .seq its nL, slL⟩) (zL : its.size ≤ sizeLine) (vL : Vals (lays.map V.str) its.toList) :
    ∃ fd : FuncData, (∀ (s : Shared) (v : Value), BindsTo s fd ⟨[v], []⟩ [("_law_script", v)]) ∧ ∀ base : Heap, K.In base → base.Ns mainGlobals mg → FnOk l.prog w K mg base CX0 4 fa fd ["_law_script"] (spLaw (K := K)) := by
  have e := hfa.symm.trans (PySem.W.mg_of X G a10)
  cases e
  have T : Txt K mg aL := { list := PySem.W.mg_none_of X G z_list, int := PySem.W.mg_none_of X G z_int, len := PySem.W.mg_none_of X G z_len, range := PySem.W.mg_none_of X G z_range, min := PySem.W.mg_none_of X G z_min, max := PySem.W.mg_none_of X G z_max, tuple := PySem.W.mg_none_of X G z_tuple, sorted := PySem.W.mg_none_of X G z_sorted, isinstance := PySem.W.mg_none_of X G z_isinstance, str := PySem.W.mg_none_of X G z_str, mg_LAYS := PySem.W.mg_of X G aLAYS, sLAYS := fun _ => .inr ⟨_, its, nL, lL, rfl, rfl, zL, vL⟩, kLAYS := ⟨_, lL, rfl⟩ }
  have F0 := fun_mk (st := s_law_bag) l0 c0 k0
  have b0 := F0.binds (ps := ["_law_script"]) fun _ _ _ _ _ _ us hl => match us, hl with | [_], _ => rfl
  have F1 := fun_mk (st := s_law_pick) l1 c1 k1
  have b1 := F1.binds (ps := ["_law_bag_here", "_law_limit"]) fun _ _ _ _ _ _ us hl => match us, hl with | [_, _], _ => rfl
  have F2 := fun_mk (st := sall_lays) l2 c2 k2
  have b2 := F2.binds (ps := []) fun _ _ _ _ _ _ us hl => match us, hl with | [], _ => rfl
  have F3 := fun_mk (st := ssign_between) l3 c3 k3
  have b3 := F3.binds (ps := ["one", "other"]) fun _ _ _ _ _ _ us hl => match us, hl with | [_, _], _ => rfl
  have F4 := fun_mk (st := slay) l4 c4 k4
  have b4 := F4.binds (ps := ["this", "other"]) fun _ _ _ _ _ _ us hl => match us, hl with | [_, _], _ => rfl
  have F5 := fun_mk (st := s_law_sign) l5 c5 k5
  have b5 := F5.binds (ps := ["_law_one", "_law_other"]) fun _ _ _ _ _ _ us hl => match us, hl with | [_, _], _ => rfl
  have F6 := fun_mk (st := s_law_number) l6 c6 k6
  have b6 := F6.binds (ps := ["_law_bag_here"]) fun _ _ _ _ _ _ us hl => match us, hl with | [_], _ => rfl
  have F7 := fun_mk (st := s_law_lay) l7 c7 k7
  have b7 := F7.binds (ps := ["_law_this", "_law_other"]) fun _ _ _ _ _ _ us hl => match us, hl with | [_, _], _ => rfl
  have F8 := fun_mk (st := s_law_pair) l8 c8 k8
  have b8 := F8.binds (ps := ["_law_bag_here", "_law_places"]) fun _ _ _ _ _ _ us hl => match us, hl with | [_, _], _ => rfl
  have F9 := fun_mk (st := s_law_all) l9 c9 k9
  have b9 := F9.binds (ps := []) fun _ _ _ _ _ _ us hl => match us, hl with | [], _ => rfl
  have F10 := fun_mk (st := slaw) l10 c10 k10
  have b10 := F10.binds (ps := ["_law_script"]) fun _ _ _ _ _ _ us hl => match us, hl with | [_], _ => rfl
  refine ⟨PySem.W.fnOf "law" "law" (defArgs slaw) (defBody slaw) (defScope slaw) .none kV10 dc10 pm10 an10 cd10 ct10, fun s v => .of_eq rfl, fun base _ _ => ?_⟩
  have C0 : Cl l.prog w K mg base 1 "_law_bag" (spBag K) := ⟨_, _, _, ok_law_bag F0 T , PySem.W.mg_of X G a0, k0, b0⟩
  have C1 : Cl l.prog w K mg base 1 "_law_pick" spPick := ⟨_, _, _, ok_law_pick F1 T , PySem.W.mg_of X G a1, k1, b1⟩
  have C2 : Cl l.prog w K mg base 1 "all_lays" (spAll aL) := ⟨_, _, _, okall_lays F2 T , PySem.W.mg_of X G a2, k2, b2⟩
  have C3 : Cl l.prog w K mg base 1 "sign_between" spSign := ⟨_, _, _, oksign_between F3 T , PySem.W.mg_of X G a3, k3, b3⟩
  have C4 : Cl l.prog w K mg base 2 "lay" (spLay K) := ⟨_, _, _, oklay F4 T C3, PySem.W.mg_of X G a4, k4, b4⟩
  have C5 : Cl l.prog w K mg base 1 "_law_sign" spSign := ⟨_, _, _, ok_law_sign F5 T , PySem.W.mg_of X G a5, k5, b5⟩
  have C6 : Cl l.prog w K mg base 2 "_law_number" sp_law_number := ⟨_, _, _, ok_law_number F6 T C1, PySem.W.mg_of X G a6, k6, b6⟩
  have C7 : Cl l.prog w K mg base 2 "_law_lay" (spLLay K) := ⟨_, _, _, ok_law_lay F7 T C5, PySem.W.mg_of X G a7, k7, b7⟩
  have C8 : Cl l.prog w K mg base 3 "_law_pair" (spLPair K) := ⟨_, _, _, ok_law_pair F8 T C1 C6, PySem.W.mg_of X G a8, k8, b8⟩
  have C9 : Cl l.prog w K mg base 3 "_law_all" spLAll := ⟨_, _, _, ok_law_all F9 T C7, PySem.W.mg_of X G a9, k9, b9⟩
  exact oklaw F10 T C0 C2 C9 C8 C4 C7
theorem walk {l : PySem.W.OpenLaw} {q : Program} {loose : List Str} {XP : (Str → Option Value) → Heap → Prop} {YP : World → Heap → Prop} {d : DefRec} {K : Params → PySem.W.Frag} (hn : l.most = some 63) (hdf : d.params.defaults = [])
    (hY : ∀ (w : World) (h : Heap), YP w h → (K w.params).In h)
    (F : ∀ (w : World) (mg : Str → Option Value) (fa : Addr) (h : Heap), (K w.params).In h → h.Ns mainGlobals mg → mg d.name = some (.ref fa) →
      ∃ fd : FuncData, (∀ (s : Shared) (u : Value), BindsTo s fd ⟨[u], []⟩ [("_law_script", u)]) ∧ ∀ base : Heap, (K w.params).In base → base.Ns mainGlobals mg → FnOk l.prog w (K w.params) mg base CX0 4 fa fd ["_law_script"] (spLaw (K := K w.params))) :
    PySem.W.WalkO q loose XP YP l.row.toRowW d [] (fun f vs => PySem.call f vs) :=
  L2.walk_of (n := 63) (k := 4) (x := "_law_script") (CX := fun _ => CX0) (sp := fun w => spLaw (K := K w.params)) hn (by decide) hdf ⟨rfl, by decide, by decide⟩ hY F (fun _ _ a ns hl _ hS => ⟨a, rfl, ns, hS, hl, fun _ => rfl⟩) fun _ _ _ _ _ z => z
end My
open PySem PySem.W PyProof.Rows in
set_option maxRecDepth 100000 in
set_option maxHeartbeats 0 in
theorem PySem.Challenge.cw_oldplaces_k05_lays_of_numbers_holds : PySem.Challenge.rw_oldplaces_k05_lays_of_numbers.Holds := by
  w_on; o_law; k_head; (case hw => w_witness2)
  k_fill
  refine My.walk (l := PySem.Challenge.rw_oldplaces_k05_lays_of_numbers) rfl rfl (fun w h Y => PySem.W.kIn_of Y) ?F
  case F =>
    intro w mg fa h KX G hmg
    refine' My.all_mk KX G hmg ?a0 ?l0 ?c0 ?k0 ?a1 ?l1 ?c1 ?k1 ?a2 ?l2 ?c2 ?k2 ?a3 ?l3 ?c3 ?k3 ?a4 ?l4 ?c4 ?k4 ?a5 ?l5 ?c5 ?k5 ?a6 ?l6 ?c6 ?k6 ?a7 ?l7 ?c7 ?k7 ?a8 ?l8 ?c8 ?k8 ?a9 ?l9 ?c9 ?k9 ?a10 ?l10 ?c10 ?k10 ?z_list ?z_int ?z_len ?z_range ?z_min ?z_max ?z_tuple ?z_sorted ?z_isinstance ?z_str ?aLAYS ?lL ?zL ?vL
    (case a0 => k_is)
    (case l0 => k_is)
    (case c0 => k_is)
    (case k0 => k_is)
    (case a1 => k_is)
    (case l1 => k_is)
    (case c1 => k_is)
    (case k1 => k_is)
    (case a2 => k_is)
    (case l2 => k_is)
    (case c2 => k_is)
    (case k2 => k_is)
    (case a3 => k_is)
    (case l3 => k_is)
    (case c3 => k_is)
    (case k3 => k_is)
    (case a4 => k_is)
    (case l4 => k_is)
    (case c4 => k_is)
    (case k4 => k_is)
    (case a5 => k_is)
    (case l5 => k_is)
    (case c5 => k_is)
    (case k5 => k_is)
    (case a6 => k_is)
    (case l6 => k_is)
    (case c6 => k_is)
    (case k6 => k_is)
    (case a7 => k_is)
    (case l7 => k_is)
    (case c7 => k_is)
    (case k7 => k_is)
    (case a8 => k_is)
    (case l8 => k_is)
    (case c8 => k_is)
    (case k8 => k_is)
    (case a9 => k_is)
    (case l9 => k_is)
    (case c9 => k_is)
    (case k9 => k_is)
    (case a10 => k_is)
    (case l10 => k_is)
    (case c10 => k_is)
    (case k10 => k_is)
    (case z_list => k_is)
    (case z_int => k_is)
    (case z_len => k_is)
    (case z_range => k_is)
    (case z_min => k_is)
    (case z_max => k_is)
    (case z_tuple => k_is)
    (case z_sorted => k_is)
    (case z_isinstance => k_is)
    (case z_str => k_is)
    (case aLAYS => k_is)
    (case lL => k_is)
    (case zL => decide)
    (case vL => repeat (first | exact .nil | refine .cons ⟨_, rfl⟩ ?_))
