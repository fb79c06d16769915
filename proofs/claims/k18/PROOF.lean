import PyProof.Rows.All
import Wide.All
import OpenK.AllK
import Wide.FinOn
import HandS.ForMost
import HandS.ForExc
import HandS.IsInst
import HandS.Wide
import HandS.WideBits
import KE.KSortedM
import PyProof.StrLawsRepr
import HandS.SortRule
import HandS.SortInts
import HandS.Conv
import HandS.TupSets
import PySem.Challenge.RW_extendrounds_k18_whole_zigzag_parties
set_option Elab.async false
set_option linter.all false
set_option maxRecDepth 100000
set_option maxHeartbeats 4000000
/-! Words shared by the proofs: where a def stands, what it promises, calls of it; readings taken apart by simp. -/
namespace Z
open PySem PySem.Spec PyProof.Rows L2

/-- the def x of the text stands where the module's name x points -/
def Here (K : PySem.W.Frag) (mg : Str → Option Value) (x : Str) (st : Stmt) : Prop := ∃ f fd, Fun K x x st f fd ∧ mg x = some (.ref f)
/-- how positional arguments come to the parameters: for every def without defaults -/
def Bd (x : Str) (st : Stmt) (ps : List Str) : Prop := ∀ (qual : Str) (kV doc pm : Value) (an : Option Addr) (cdv ct : Value) (us : List Value), us.length = ps.length → bindArgs (PySem.W.fnOf x qual (defArgs st) (defBody st) (defScope st) .none kV doc pm an cdv ct) ⟨us, []⟩ = pure (ps.zip us)
/-- it stands there and keeps its promise -/
structure Hd (P : Program) (w : World) (K : PySem.W.Frag) (mg : Str → Option Value) (base : Heap) (CX : CXT) (k : Nat) (x : Str) (st : Stmt) (ps : List Str) (sp : Sp) : Prop where
  ex : ∃ f fd, Fun K x x st f fd ∧ mg x = some (.ref f) ∧ FnOk P w K mg base CX k f fd ps sp
  bd : Bd x st ps
section
variable {X : Cx} {CX : CXT} {k : Nat} {st : Stmt} {ps : List Str} {sp : Sp} {E : XK} {x : Str} {p pos : Pos} {e : Expr} {es : List Expr} {t : TA}
theorem pe_hd (h : Hd X.prog X.w X.K X.mg X.base CX k x st ps sp) (hr : Room k X.A) (hg : Gl X x) (hx : Passes CX X E) (ha : PA X (e :: es) t) (hdb : (x == ("__debug__" : Str)) = false := by decide)
    (hs : starEach (e :: es) X.env = (false, eval e X.env) :: starEach es X.env := by rfl) (hpl : (backTo pos (starEach es X.env)).any (·.1) = false := by rfl) : PE X (.Call (.Name x p) (e :: es) [] pos) (tCall sp [] E t) := by
  obtain ⟨f, fd, F, hm, G⟩ := h.ex
  exact pe_call G hr hg hm F.kp (F.binds (h.bd x)) .nil hx ha hdb hs hpl
theorem pe_hd0 (h : Hd X.prog X.w X.K X.mg X.base CX k x st ps sp) (hr : Room k X.A) (hg : Gl X x) (hx : Passes CX X E) (hdb : (x == ("__debug__" : Str)) = false := by decide) : PE X (.Call (.Name x p) [] [] pos) (tCall sp [] E tNil) := by
  obtain ⟨f, fd, F, hm, G⟩ := h.ex
  exact pe_call0 G hr hg hm F.kp (F.binds (h.bd x)) .nil hx hdb
end
/-! ### readings taken apart -/
theorem set_z {α : Type} (a b : α) (l : List α) : (a :: l).set 0 b = b :: l := rfl
theorem set_s {α : Type} (a b : α) (l : List α) (i : Nat) : (a :: l).set (i + 1) b = a :: l.set i b := rfl
/-! ### cuts: a word between a part and what follows -/
def tCutE (te : TE) : TE := fun σ H Q => ∃ S : V → Hp → Prop, te σ H S ∧ ∀ v H', S v H' → Q v H'
theorem pe_cutZ {X : Cx} {e : Expr} {te : TE} (h : PE X e te) : PE X e (tCutE te) := ⟨fun pins s σ H Q I ⟨S, h1, h2⟩ =>
  thn (h.run pins s σ H S I h1) fun _ _ ⟨v, H', I', r, q⟩ => ⟨v, H', I', r, h2 v H' q⟩⟩
def tCutS (t u : TS) : TS := fun D σ H => ∃ Mid : L2.St → Hp → Prop, t { D with nx := Mid } σ H ∧ ∀ σ' H', Mid σ' H' → u D σ' H'
theorem pss_cutZ {X : Cx} {st : Stmt} {rest : List Stmt} {t u : TS} (h1 : PS X st t) (h2 : PSs X rest u) : PSs X (st :: rest) (tCutS t u) := by
  refine ⟨fun pins s σ H D I h => ?_⟩
  obtain ⟨Mid, hm, hu⟩ := h
  refine wpAny_execs_cons (thn (h1.run pins s σ H { D with nx := Mid } I hm) fun f s1 q => ?_)
  cases f with
  | next =>
    obtain ⟨σ', H', I', q⟩ := q
    exact h2.run pins s1 σ' H' D I' (hu σ' H' q)
  | ret v => exact q
  | brk => exact q
  | cont => exact q
/-- one of two written values -/
def tIfCI (t : TT) (i j : Int) : TE := fun σ H Q => t σ H fun c H1 => Q (.int (if c = true then i else j)) H1
theorem pe_ifCI {X : Cx} {c a b : Expr} {t : TT} {i j : Int} {pos : Pos} (hc : PT X c t) (ha : PE X a (tC (.int i))) (hb : PE X b (tC (.int j))) : PE X (.IfExp c a b pos) (tIfCI t i j) := ⟨fun pins s σ H Q I h =>
  (pe_ifExp hc ha hb).run pins s σ H Q I (by
    unfold tIfCI at h
    have e : (fun (c : Bool) (H1 : Hp) => if c = true then tC (.int i) σ H1 Q else tC (.int j) σ H1 Q) = fun c H1 => Q (.int (if c = true then i else j)) H1 := by
      funext c H1
      cases c <;> rfl
    show t σ H (fun (c : Bool) (H1 : Hp) => if c = true then tC (.int i) σ H1 Q else tC (.int j) σ H1 Q)
    rw [e]
    exact h)⟩
def tIfCS (t : TT) (i j : Str) : TE := fun σ H Q => t σ H fun c H1 => Q (.str (if c = true then i else j)) H1
theorem pe_ifCS {X : Cx} {c a b : Expr} {t : TT} {i j : Str} {pos : Pos} (hc : PT X c t) (ha : PE X a (tC (.str i))) (hb : PE X b (tC (.str j))) : PE X (.IfExp c a b pos) (tIfCS t i j) := ⟨fun pins s σ H Q I h =>
  (pe_ifExp hc ha hb).run pins s σ H Q I (by
    unfold tIfCS at h
    have e : (fun (c : Bool) (H1 : Hp) => if c = true then tC (.str i) σ H1 Q else tC (.str j) σ H1 Q) = fun c H1 => Q (.str (if c = true then i else j)) H1 := by
      funext c H1
      cases c <;> rfl
    show t σ H (fun (c : Bool) (H1 : Hp) => if c = true then tC (.str i) σ H1 Q else tC (.str j) σ H1 Q)
    rw [e]
    exact h)⟩
theorem z_seq {t u : TS} {D : Ends} {σ : L2.St} {H : Hp} (h : t { D with nx := u D } σ H) : tSeq t u D σ H := h
section
variable {X : Cx} {K : PySem.W.Frag} {H : Hp} {σ : L2.St}
/-- an item of a tracked list -/
def rIxH : R2 := fun x y H Q => ∃ p i xs v, x = .ref p ∧ y = .int i ∧ H p = some (.lst xs) ∧ atI xs i = some v ∧ Q v H
theorem ix_listH : IxR X rIxH := by
  intro e1 e2 pins s σ H x y v u Q I rx ry h hs
  obtain ⟨p, i, xs, z, rfl, rfl, hp, ha, q⟩ := h
  exact ix_list e1 e2 pins s σ H _ _ v u Q I rx ry ⟨p, xs, i, z, rfl, rfl, SqL.of hp, ha, q⟩ hs
def rIxU : R2 := fun x y H Q => ∃ p i xs v, x = .ref p ∧ y = .int i ∧ H p = some (.tup xs) ∧ atI xs i = some v ∧ Q v H
theorem ix_tupH : IxR X rIxU := by
  intro e1 e2 pins s σ H x y v u Q I rx ry h hs
  obtain ⟨p, i, xs, z, rfl, rfl, hp, ha, q⟩ := h
  exact ix_tup e1 e2 pins s σ H _ _ v u Q I rx ry ⟨p, xs, i, z, rfl, rfl, SqT.of hp, ha, q⟩ hs
theorem at30 {α : Type} (a b c : α) : atI [a, b, c] 0 = some a := rfl
theorem at31 {α : Type} (a b c : α) : atI [a, b, c] 1 = some b := rfl
theorem at32 {α : Type} (a b c : α) : atI [a, b, c] 2 = some c := rfl
theorem ixN30 {α : Type} (a b c : α) : ixN [a, b, c].length 0 = some 0 := rfl
theorem ixN31 {α : Type} (a b c : α) : ixN [a, b, c].length 1 = some 1 := rfl
theorem ixN32 {α : Type} (a b c : α) : ixN [a, b, c].length 2 = some 2 := rfl
theorem ix3_0 : ixN 3 0 = some 0 := rfl
theorem ix3_1 : ixN 3 1 = some 1 := rfl
theorem ix3_2 : ixN 3 2 = some 2 := rfl
/-- in, not in: a tracked tuple, a tracked list of flat things -/
def rInU (neg : Bool) : R2 := fun x y H Q => ∃ p xs, y = .ref p ∧ H p = some (.tup xs) ∧ flatV x = true ∧ xs.all flatV = true ∧ Q (.bl (if neg then !inV x xs else inV x xs)) H
def rInH (neg : Bool) : R2 := fun x y H Q => ∃ p xs, y = .ref p ∧ H p = some (.lst xs) ∧ flatV x = true ∧ xs.all flatV = true ∧ Q (.bl (if neg then !inV x xs else inV x xs)) H
theorem op_in_tupH : OpR X (compareOp .In) (rInU false) := by
  intro pins s σ H x y v u Q I rx ry h
  obtain ⟨p, xs, e, hp, h1, h2, q⟩ := h
  exact op_in_seq pins s σ H x y v u Q I rx ry ⟨p, xs, e, .inr (SqT.of hp), h1, h2, q⟩
theorem op_notIn_tupH : OpR X (compareOp .NotIn) (rInU true) := by
  intro pins s σ H x y v u Q I rx ry h
  obtain ⟨p, xs, e, hp, h1, h2, q⟩ := h
  exact op_notIn_seq pins s σ H x y v u Q I rx ry ⟨p, xs, e, .inr (SqT.of hp), h1, h2, q⟩
theorem op_in_lstH : OpR X (compareOp .In) (rInH false) := by
  intro pins s σ H x y v u Q I rx ry h
  obtain ⟨p, xs, e, hp, h1, h2, q⟩ := h
  exact op_in_seq pins s σ H x y v u Q I rx ry ⟨p, xs, e, .inl (SqL.of hp), h1, h2, q⟩
theorem op_notIn_lstH : OpR X (compareOp .NotIn) (rInH true) := by
  intro pins s σ H x y v u Q I rx ry h
  obtain ⟨p, xs, e, hp, h1, h2, q⟩ := h
  exact op_notIn_seq pins s σ H x y v u Q I rx ry ⟨p, xs, e, .inl (SqL.of hp), h1, h2, q⟩
/-! built-ins of tracked lists and tuples, each with one answer -/
theorem perm_sort {a b : List Int} (hp : a.Perm b) (ha : a.Pairwise (· ≤ ·)) : a = b.mergeSort := by
  have h2 : (b.mergeSort (· ≤ ·)).Pairwise (· ≤ ·) := by
    have h := List.pairwise_mergeSort (le := fun x y : Int => decide (x ≤ y)) (fun x y z h1 h2 => by simp only [decide_eq_true_eq] at *; omega) (fun x y => by simp only [Bool.or_eq_true, decide_eq_true_eq]; omega) b
    exact h.imp fun h => of_decide_eq_true h
  exact PySem.W.ksm_same (hp.trans (List.mergeSort_perm b _).symm) ha h2
theorem map_int_inj (a b : List Int) : (a.map V.int = b.map V.int) = (a = b) := propext ⟨fun h => List.map_inj_right (fun x y e => V.int.inj e) |>.mp h, fun h => by rw [h]⟩
theorem map_bl_inj (a b : List Bool) : (a.map V.bl = b.map V.bl) = (a = b) := propext ⟨fun h => List.map_inj_right (fun x y e => V.bl.inj e) |>.mp h, fun h => by rw [h]⟩
def rTupL : List V → Hp → VK → Prop := fun xs H Q => ∃ p ys, xs = [.ref p] ∧ H p = some (.lst ys) ∧ ∀ l, H l = none → Q (.ref l) (upd H l (.tup ys))
theorem call_tupleL : CallR X (.type "tuple") rTupL := by
  intro pins s σ H xs us Q I r h
  obtain ⟨p, ys, e, hp, q⟩ := h
  exact call_tuple_of pins s σ H xs us Q I r ⟨p, ys, e, .inl ⟨SqL.of hp, q⟩⟩
def rLstL : List V → Hp → VK → Prop := fun xs H Q => ∃ p ys, xs = [.ref p] ∧ H p = some (.lst ys) ∧ ∀ l, H l = none → Q (.ref l) (upd H l (.lst ys))
theorem call_listL : CallR X (.type "list") rLstL := by
  intro pins s σ H xs us Q I r h
  obtain ⟨p, ys, e, hp, q⟩ := h
  exact call_list_of pins s σ H xs us Q I r ⟨p, ys, e, .inl (SqL.of hp), q⟩
def rLstT : List V → Hp → VK → Prop := fun xs H Q => ∃ p ys, xs = [.ref p] ∧ H p = some (.tup ys) ∧ ∀ l, H l = none → Q (.ref l) (upd H l (.lst ys))
theorem call_listT : CallR X (.type "list") rLstT := by
  intro pins s σ H xs us Q I r h
  obtain ⟨p, ys, e, hp, q⟩ := h
  exact call_list_of pins s σ H xs us Q I r ⟨p, ys, e, .inr (SqT.of hp), q⟩
def rSortI : List V → Hp → VK → Prop := fun vs H Q => ∃ (a : Addr) (ns : List Int), vs = [V.ref a] ∧ H a = some (.lst (ns.map V.int)) ∧ ns.length < 64 ∧ ∀ p : Addr, H p = none → Q (.ref p) (upd H p (.lst (ns.mergeSort.map V.int)))
theorem cr_sortedH : CallR X (.builtin "sorted") rSortI := by
  intro pins s σ H vs us Q I r h
  obtain ⟨a, ns, e, ha, hl, q⟩ := h
  exact cr_sorted pins s σ H vs us Q I r ⟨a, ns, e, SqL.of ha, hl, fun ns' p hp hs hn => by rw [perm_sort hp hs]; exact q p hn⟩
def rAnyH : List V → Hp → VK → Prop := fun vs H Q => ∃ (a : Addr) (bs : List Bool), vs = [V.ref a] ∧ H a = some (.lst (bs.map V.bl)) ∧ Q (.bl (bs.any id)) H
def rAllH : List V → Hp → VK → Prop := fun vs H Q => ∃ (a : Addr) (bs : List Bool), vs = [V.ref a] ∧ H a = some (.lst (bs.map V.bl)) ∧ Q (.bl (bs.all id)) H
theorem cr_anyH (hc : X.calm = true) : CallR X (.builtin "any") rAnyH := by
  intro pins s σ H vs us Q I r h
  obtain ⟨a, bs, e, ha, q⟩ := h
  exact cr_any hc pins s σ H vs us Q I r ⟨a, bs, e, SqL.of ha, q⟩
theorem cr_allH (hc : X.calm = true) : CallR X (.builtin "all") rAllH := by
  intro pins s σ H vs us Q I r h
  obtain ⟨a, bs, e, ha, q⟩ := h
  exact cr_all hc pins s σ H vs us Q I r ⟨a, bs, e, SqL.of ha, q⟩
def rSumH : List V → Hp → VK → Prop := fun vs H Q => ∃ (a : Addr) (ns : List Int), vs = [V.ref a] ∧ H a = some (.lst (ns.map V.int)) ∧ Q (.int ns.sum) H
theorem cr_sumH (hc : X.calm = true) : CallR X (.builtin "sum") rSumH := by
  intro pins s σ H vs us Q I r h
  obtain ⟨a, ns, e, ha, q⟩ := h
  exact cr_sum hc pins s σ H vs us Q I r ⟨a, ns, e, SqL.of ha, q⟩
def rLenL : List V → Hp → VK → Prop := fun xs H Q => ∃ p ys, xs = [.ref p] ∧ H p = some (.lst ys) ∧ Q (.int ys.length) H
def rLenU : List V → Hp → VK → Prop := fun xs H Q => ∃ p ys, xs = [.ref p] ∧ H p = some (.tup ys) ∧ Q (.int ys.length) H
theorem call_lenL : CallR X (.builtin "len") rLenL := by
  intro pins s σ H vs us Q I r h
  obtain ⟨a, ys, e, ha, q⟩ := h
  exact call_len_seq pins s σ H vs us Q I r ⟨a, ys, e, .inl (SqL.of ha), q⟩
theorem call_lenU : CallR X (.builtin "len") rLenU := by
  intro pins s σ H vs us Q I r h
  obtain ⟨a, ys, e, ha, q⟩ := h
  exact call_len_seq pins s σ H vs us Q I r ⟨a, ys, e, .inr (SqT.of ha), q⟩
/-- a method of a tracked list -/
def tBML (r : V → List V → Hp → VK → Prop) (to : TE) (t : TA) : TE := fun σ H Q => to σ H fun x H1 => ∃ a xs, x = .ref a ∧ H1 a = some (.lst xs) ∧ t σ H1 fun vs H2 => r x vs H2 Q
theorem pe_bmL {o e : Expr} {es : List Expr} {to : TE} {t : TA} {name : Str} {apos cpos : Pos} {id : String} {r : V → List V → Hp → VK → Prop} (pa : PlainAttrs "list") (slot : Slot "list" name id) (hty : typeOf (.builtin id) = pure (.type "method_descriptor")) (hm : MtR X id r) (ho : PE X o to) (ha : PA X (e :: es) t)
    (hbase : attributeBase o name X.env (eval o X.env) = eval o X.env := by rfl)
    (hfew : ((backTo cpos (starEach (e :: es) X.env)).all (fun x => !x.1) && (backToKw cpos (keywordEach [] X.env)).all (fun x => x.1.isSome)
      && decide ((e :: es).length + ([] : List Keyword).length + (if ([] : List Keyword).isEmpty then 0 else 1) < 30)) = true := by rfl)
    (hline : (apos.endLine == cpos.line) = true := by rfl) (hs : starEach (e :: es) X.env = (false, eval e X.env) :: starEach es X.env := by rfl) (hplain : (backTo cpos (starEach es X.env)).any (·.1) = false := by rfl) :
    PE X (.Call (.Attribute o name apos) (e :: es) [] cpos) (tBML r to t) := by
  refine ⟨fun pins s σ H Q I h => ?_⟩
  refine wpAny_Call_method_late hbase hfew hline rfl (thn (ho.run pins s σ H _ I h) fun v s1 ⟨x, H1, I1, r1, a, xs, ex, ea, q1⟩ => ?_)
  subst ex
  obtain ⟨h1, h2⟩ := tyV_is (T := "list") (x := .ref a) I1 r1 (.inl ⟨rfl, xs, SqL.of ea⟩)
  refine ⟨"list", id, pa, slot, hty, h1, h2, ?_⟩
  have hA := ha.run cpos pins s1 σ H1 _ I1 q1
  rw [hs] at hA ⊢
  refine Calls.callWith_builtin (by show (false || (backTo cpos (starEach es X.env)).any (·.1)) = false; rw [hplain] <;> rfl) (Calls.evalArgs_plain ?_)
  exact thn hA fun us s2 ⟨vs, H2, I2, r2, q2⟩ => hm pins s2 σ H2 _ vs v us Q I2 r1 r2 q2
/-- for k in range(n), n reckoned -/
theorem for_rng {n : Int} {g : TG} {tb : TS} {D : Ends} {H1 : Hp} {ta : TA} (hta : ∀ R : List V → Hp → Prop, R [.int n] H1 → ta σ H R) (hn : 0 ≤ n ∧ n < 2 ^ 62) (Pv : Nat → L2.St → Hp → Prop) (h0 : Pv 0 σ H1)
    (hs : ∀ (i : Nat) σ H, (i : Int) < n → Pv i σ H → g (.int i) σ H fun σ2 H2 => tb { D with nx := Pv (i + 1), ct := Pv (i + 1), bk := D.nx } σ2 H2) (hd : ∀ σ H, Pv n.toNat σ H → D.nx σ H) : tFor (iRng1 ta) g tb D σ H := by
  refine hta _ ⟨n, rfl, by omega, hn.2, ?_⟩
  refine for_range (lo := 0) (n := n.toNat) Pv h0 (fun i σ H hi p => ?_) hd
  have e : (0 : Int) + (i : Int) = (i : Int) := by omega
  rw [e]
  exact hs i σ H (by omega) p
/-- [e for k in range(n)] -/
theorem lc_rng {n : Int} {g : TG} {tt : TT} {te : TE} {vs : List Nat} {H1 : Hp} {ta : TA} {Q : VK} (hta : ∀ R : List V → Hp → Prop, R [.int n] H1 → ta σ H R) (hn : n < 2 ^ 62 ∧ -(2 ^ 62) ≤ n) (Pv : Addr → Nat → Hp → Prop) (h0 : ∀ D, H1 D = none → Pv D 0 (upd H1 D (.lst [])))
    (hs : ∀ D, H1 D = none → ∀ (i : Nat) H, (i : Int) < n → Pv D i H → g (.int i) (wipe σ vs) H fun σ2 H2 => wipe σ2 vs = wipe σ vs ∧ tt σ2 H2 fun b H3 =>
      if b = true then te σ2 H3 fun y H4 => ∃ acc, H4 D = some (.lst acc) ∧ acc.length < sizeLine ∧ Pv D (i + 1) (upd H4 D (.lst (acc ++ [y]))) else Pv D (i + 1) H3) (hd : ∀ D H, H1 D = none → Pv D n.toNat H → Q (.ref D) H) : tLc (iRng1 ta) g tt te vs σ H Q := by
  refine hta _ ⟨n, rfl, hn.2, hn.1, fun D hD => ?_⟩
  refine lc_range (lo := 0) (n := n.toNat) (Pv D) (h0 D hD) (fun i H hi p => ?_) fun H p => hd D H hD p
  have e : (0 : Int) + (i : Int) = (i : Int) := by omega
  rw [e]
  exact hs D hD i H (by omega) p
/-- [e for x in xs], the list told by its tracked address -/
theorem lc_lst {a : Addr} {xs : List V} {g : TG} {tt : TT} {te : TE} {vs : List Nat} {H1 : Hp} {tl : TE} {Q : VK} (htl : ∀ R : VK, R (.ref a) H1 → tl σ H R) (Pv : Addr → Nat → Hp → Prop) (ha : SqL K H1 a xs) (h0 : ∀ D, H1 D = none → Pv D 0 (upd H1 D (.lst [])))
    (hl : ∀ D, H1 D = none → ∀ i H, Pv D i H → SqL K H a xs)
    (hs : ∀ D, H1 D = none → ∀ (i : Nat) x H, xs[i]? = some x → Pv D i H → g x (wipe σ vs) H fun σ2 H2 => wipe σ2 vs = wipe σ vs ∧ tt σ2 H2 fun b H3 =>
      if b = true then te σ2 H3 fun y H4 => ∃ acc, H4 D = some (.lst acc) ∧ acc.length < sizeLine ∧ Pv D (i + 1) (upd H4 D (.lst (acc ++ [y]))) else Pv D (i + 1) H3) (hd : ∀ D H, H1 D = none → Pv D xs.length H → Q (.ref D) H) : tLc (iList K tl) g tt te vs σ H Q := by
  refine htl _ ⟨a, rfl, ⟨xs, ha⟩, fun D hD => ?_⟩
  exact lc_list (K := K) (a := a) (xs := xs) (Pv D) (h0 D hD) (fun i H _ p => hl D hD i H p) (hs D hD) fun H p => hd D H hD p
/-- over a tuple -/
theorem lc_tp {a : Addr} {xs : List V} {g : TG} {tt : TT} {te : TE} {vs : List Nat} {H1 : Hp} {tl : TE} {Q : VK} (htl : ∀ R : VK, R (.ref a) H1 → tl σ H R) (Pv : Addr → Nat → Hp → Prop) (ha : SqT K H1 a xs) (h0 : ∀ D, H1 D = none → Pv D 0 (upd H1 D (.lst [])))
    (hl : ∀ D, H1 D = none → ∀ i H, Pv D i H → SqT K H a xs)
    (hs : ∀ D, H1 D = none → ∀ (i : Nat) x H, xs[i]? = some x → Pv D i H → g x (wipe σ vs) H fun σ2 H2 => wipe σ2 vs = wipe σ vs ∧ tt σ2 H2 fun b H3 =>
      if b = true then te σ2 H3 fun y H4 => ∃ acc, H4 D = some (.lst acc) ∧ acc.length < sizeLine ∧ Pv D (i + 1) (upd H4 D (.lst (acc ++ [y]))) else Pv D (i + 1) H3) (hd : ∀ D H, H1 D = none → Pv D xs.length H → Q (.ref D) H) : tLc (iTup K tl) g tt te vs σ H Q := by
  refine htl _ ⟨a, rfl, ⟨xs, ha⟩, fun D hD => ?_⟩
  exact lc_tup (K := K) (a := a) (xs := xs) (Pv D) (h0 D hD) (fun i H _ p => hl D hD i H p) (hs D hD) fun H p => hd D H hD p
end
theorem sc_ii (a b : Int) : scal (.int a) (.int b) = true := rfl
theorem sc_ss (a b : Str) : scal (.str a) (.str b) = true := rfl
theorem sc_bb (a b : Bool) : scal (.bl a) (.bl b) = true := rfl
theorem sc_is (a : Int) (b : Str) : scal (.int a) (.str b) = true := rfl
theorem sc_si (a : Str) (b : Int) : scal (.str a) (.int b) = true := rfl
theorem sc_ni (b : Int) : scal .non (.int b) = true := rfl
theorem sc_in (b : Int) : scal (.int b) .non = true := rfl
theorem sc_ns (b : Str) : scal .non (.str b) = true := rfl
theorem sc_sn (b : Str) : scal (.str b) .non = true := rfl
theorem sc_nn : scal .non .non = true := rfl
/-! ### isinstance of a built-in class -/
def tyN (H : Hp) : V → Option String
  | .non => some "NoneType"
  | .bl _ => some "bool"
  | .int _ => some "int"
  | .str _ => some "str"
  | .ref a => match H a with
    | some (.lst _) => some "list"
    | some (.tup _) => some "tuple"
    | some (.dK _) => some "dict"
    | some (.dT _) => some "dict"
    | _ => none
  | _ => none
theorem tyX_of {K : PySem.W.Frag} {H : Hp} {x : V} {t : String} (h : tyN H x = some t) : TyX K H x (.type t) := by
  unfold tyN at h
  split at h
  · cases h; exact .base .non
  · cases h; exact .base (.bl _)
  · cases h; exact .base (.int _)
  · cases h; exact .base (.str _)
  · split at h
    · cases h; exact .base (.lst (by assumption))
    · cases h; exact .base (.tup (by assumption))
    · cases h; exact .base (.dK (by assumption))
    · cases h; exact .base (.dT (by assumption))
    · cases h
  · cases h
def rIsN : List V → Hp → VK → Prop := fun xs H Q => ∃ x n, xs = [x, .ty n] ∧ ∃ t, tyN H x = some t ∧ ∃ b, kitB t n = some b ∧ Q (.bl b) H
theorem call_isN {X : Cx} : CallR X (.builtin "isinstance") rIsN := by
  intro pins s σ H xs us Q I r h
  obtain ⟨x, n, rfl, t, ht, b, hb, q⟩ := h
  exact call_isi pins s σ H _ us Q I r ⟨x, .ty n, .type t, .type n, b, rfl, .ty n, tyX_of ht, kit_ty hb, q⟩
theorem kit_ii : kitB "int" "int" = some true := by decide +kernel
theorem kit_bi : kitB "bool" "int" = some true := by decide +kernel
theorem kit_si : kitB "str" "int" = some false := by decide +kernel
theorem kit_ni : kitB "NoneType" "int" = some false := by decide +kernel
theorem kit_ib : kitB "int" "bool" = some false := by decide +kernel
theorem kit_bb : kitB "bool" "bool" = some true := by decide +kernel
theorem kit_sb : kitB "str" "bool" = some false := by decide +kernel
theorem kit_nb : kitB "NoneType" "bool" = some false := by decide +kernel
theorem kit_is : kitB "int" "str" = some false := by decide +kernel
theorem kit_bs : kitB "bool" "str" = some false := by decide +kernel
theorem kit_ss : kitB "str" "str" = some true := by decide +kernel
theorem kit_ns : kitB "NoneType" "str" = some false := by decide +kernel
/-! ### heaps -/
theorem same_new {H : Hp} {p : Addr} {o : HO} (h : H p = none) : Same H (upd H p o) := fun b x e => by
  rw [upd_ne (ne_of_none e h)]
  exact e
theorem same_upd {H H' : Hp} {p : Addr} {o : HO} (s : Same H H') (h : H p = none) : Same H (upd H' p o) := fun b x e => by
  rw [upd_ne (ne_of_none e h)]
  exact s b x e
theorem same_no {H H' : Hp} {p : Addr} (s : Same H H') (h : H' p = none) : H p = none := s.free h
/-- a, b, .. = a tracked tuple -/
def gTupH (n : Nat) (t : TGs) : TG := fun v σ H Q => ∃ a xs, v = .ref a ∧ H a = some (.tup xs) ∧ xs.length = n ∧ t xs σ H Q
theorem pg_tupH {X : Cx} {es : List Expr} {k : Nat} {pos : Pos} {t : TGs} {n : Nat} (hc : X.calm = true) (h : PGs X es t)
    (hn : (assignEach es X.env).length = n := by rfl) (hst : (assignEach es X.env).findIdx? (·.1) = none := by rfl) : PG X (.Tuple es k pos) (gTupH n t) := by
  refine ⟨fun pins s σ H v u Q I r hw => (pg_tup hc h hn hst).run pins s σ H v u Q I r ?_⟩
  obtain ⟨a, xs, e1, hq, hl, hw⟩ := hw
  exact ⟨a, xs, e1, SqT.of hq, hl, hw⟩
/-- xs[k] of the script, or another number -/
theorem idx_or {K : PySem.W.Frag} {H : Hp} {a : Addr} {ns : List Int} {k c0 : Int} {F : V → Hp → Prop} (hs : SqL K H a (ns.map V.int)) (hk : 0 ≤ k) (h : ∀ c : Int, F (.int c) H) :
    if k < ((ns.map V.int).length : Int) then rIxL K (.ref a) (.int k) H F else F (.int c0) H := by
  split
  · rename_i c
    rw [List.length_map] at c
    obtain ⟨m, rfl⟩ : ∃ m : Nat, k = m := ⟨k.toNat, by omega⟩
    have hl : m < ns.length := by omega
    refine ⟨a, _, _, .int ns[m], rfl, rfl, hs, atI_nat ?_, h _⟩
    rw [List.getElem?_map, List.getElem?_eq_getElem hl]
    rfl
  · exact h _
theorem cut_ints (ns : List Int) (lo hi : Option Int) : ∃ ms : List Int, cutV (ns.map V.int) lo hi = ms.map V.int ∧ ms.length ≤ ns.length := by
  refine ⟨(ns.drop (HT.sIx ns.length 0 lo)).take (HT.sIx ns.length ns.length hi - HT.sIx ns.length 0 lo), ?_, ?_⟩
  · unfold cutV
    rw [List.length_map, List.map_take, List.map_drop]
  · rw [List.length_take, List.length_drop]
    omega
/-- for x in a list of ints that the loop leaves, as it leaves the heap -/
theorem for_ints {K : PySem.W.Frag} {σ : L2.St} {H : Hp} {g : TG} {tb : TS} {D : Ends} {tl : TE} (htl : ∀ R : VK, (∀ a H' (ns : List Int), Same H H' → H' a = some (.lst (ns.map V.int)) → R (.ref a) H') → tl σ H R) (Pv : L2.St → Prop) (h0 : Pv σ)
    (hs : ∀ (x : Int) σ H', Same H H' → Pv σ → ∀ N : L2.St → Hp → Prop, (∀ σ', Pv σ' → N σ' H') → g (.int x) σ H' fun σ2 H2 => tb { D with nx := N, ct := N, bk := D.nx } σ2 H2) (hd : ∀ σ' H', Same H H' → Pv σ' → D.nx σ' H') : tFor (iList K tl) g tb D σ H := by
  refine htl _ fun a H' ns s ha => ⟨a, rfl, ⟨_, SqL.of ha⟩, ?_⟩
  refine for_list (K := K) (a := a) (xs := ns.map V.int) (fun _ σ H2 => H2 = H' ∧ Pv σ) ⟨rfl, h0⟩ (fun i σ H2 _ p => by rw [p.1]; exact SqL.of ha) (fun i x σ H2 hx p => ?_) fun σ H2 p => by
    rw [p.1]
    exact hd σ H' s p.2
  obtain ⟨z, _, rfl⟩ : ∃ z, z ∈ ns ∧ V.int z = x := List.mem_map.mp (List.mem_of_getElem? hx)
  rw [p.1]
  exact hs z σ H' s p.2 _ fun σ' h => ⟨rfl, h⟩
/-- for x in a list that stands and stays -/
theorem for_trk {K : PySem.W.Frag} {σ : L2.St} {H : Hp} {g : TG} {tb : TS} {D : Ends} {tl : TE} {a : Addr} {xs : List V} (htl : ∀ R : VK, R (.ref a) H → tl σ H R) (Pv : Nat → L2.St → Hp → Prop) (h0 : Pv 0 σ H)
    (hst : ∀ i σ' H', Pv i σ' H' → SqL K H' a xs)
    (hs : ∀ i x σ H', xs[i]? = some x → Pv i σ H' → ∀ N : L2.St → Hp → Prop, (∀ σ' H2, Pv (i + 1) σ' H2 → N σ' H2) → g x σ H' fun σ2 H2 => tb { D with nx := N, ct := N, bk := D.nx } σ2 H2)
    (hd : ∀ σ' H', Pv xs.length σ' H' → D.nx σ' H') : tFor (iList K tl) g tb D σ H := by
  refine htl _ ⟨a, rfl, ⟨_, hst 0 σ H h0⟩, ?_⟩
  exact for_list (K := K) (a := a) (xs := xs) Pv h0 (fun i σ H2 _ p => hst i σ H2 p) (fun i x σ H2 hx p => hs i x σ H2 hx p _ fun σ' H3 h => h) hd
/-- for x in a list that is written there -/
theorem for_lstn {K : PySem.W.Frag} {σ : L2.St} {H : Hp} {g : TG} {tb : TS} {D : Ends} {tl : TE} {xs : List V} (htl : ∀ R : VK, (∀ a, H a = none → R (.ref a) (upd H a (.lst xs))) → tl σ H R) (Pv : Nat → L2.St → Hp → Prop)
    (h0 : ∀ a, H a = none → Pv 0 σ (upd H a (.lst xs)))
    (hs : ∀ a, H a = none → ∀ i x σ H', xs[i]? = some x → H' a = some (.lst xs) → Pv i σ H' → ∀ N : L2.St → Hp → Prop, (∀ σ' H2, H2 a = some (.lst xs) → Pv (i + 1) σ' H2 → N σ' H2) → g x σ H' fun σ2 H2 => tb { D with nx := N, ct := N, bk := D.nx } σ2 H2)
    (hd : ∀ σ' H', Pv xs.length σ' H' → D.nx σ' H') : tFor (iList K tl) g tb D σ H := by
  refine htl _ fun a ha => ⟨a, rfl, ⟨_, SqL.of upd_same⟩, ?_⟩
  refine for_list (K := K) (a := a) (xs := xs) (fun i σ H2 => H2 a = some (.lst xs) ∧ Pv i σ H2) ⟨upd_same, h0 a ha⟩ (fun i σ H2 _ p => SqL.of p.1) (fun i x σ H2 hx p => ?_) fun σ H2 p => hd σ H2 p.2
  exact hs a ha i x σ H2 hx p.1 p.2 _ fun σ' H3 h1 h2 => ⟨h1, h2⟩
/-! ### comprehensions whose elements are values -/
section
variable {K : PySem.W.Frag} {σ : L2.St}
theorem take_fm {α β : Type} (f : α → Option β) {xs : List α} {i : Nat} {x : α} (h : xs[i]? = some x) : (xs.take (i + 1)).filterMap f = (xs.take i).filterMap f ++ (f x).toList := by
  rw [List.take_add_one, h, List.filterMap_append]
  cases e : f x with
  | none => simp [e]
  | some y => simp [e]
/-- one turn of a comprehension: the element's value, or nothing -/
def Turn1 (g : TG) (tt : TT) (te : TE) (vs : List Nat) (σ : L2.St) (H : Hp) (x : V) (o : Option V) : Prop :=
  ∀ (Y : V → Hp → Prop) (N : Hp → Prop), (∀ y H', o = some y → Same H H' → Y y H') → (∀ H', o = none → Same H H' → N H') →
    g x (wipe σ vs) H fun σ2 H2 => wipe σ2 vs = wipe σ vs ∧ tt σ2 H2 fun b H3 => if b = true then te σ2 H3 Y else N H3
/-- what the new list holds between two turns -/
def Acc (H1 : Hp) (f : V → Option V) (xs : List V) (D : Addr) (i : Nat) (H : Hp) : Prop := Same H1 H ∧ H D = some (.lst ((xs.take i).filterMap f))
theorem acc_turn {H1 : Hp} {f : V → Option V} {xs : List V} {D : Addr} {i : Nat} {H : Hp} {x : V} {g : TG} {tt : TT} {te : TE} {vs : List Nat} (hD : H1 D = none) (hx : xs.length ≤ 1000) (h : xs[i]? = some x) (p : Acc H1 f xs D i H) (t : Turn1 g tt te vs σ H x (f x)) :
    g x (wipe σ vs) H fun σ2 H2 => wipe σ2 vs = wipe σ vs ∧ tt σ2 H2 fun b H3 =>
      if b = true then te σ2 H3 fun y H4 => ∃ acc, H4 D = some (.lst acc) ∧ acc.length < sizeLine ∧ Acc H1 f xs D (i + 1) (upd H4 D (.lst (acc ++ [y]))) else Acc H1 f xs D (i + 1) H3 := by
  refine t _ _ (fun y H' e s => ?_) fun H' e s => ?_
  · refine ⟨_, s _ _ p.2, ?_, ?_, ?_⟩
    · refine Nat.lt_of_le_of_lt (List.length_filterMap_le _ _) ?_
      rw [List.length_take]
      exact Nat.lt_of_le_of_lt (Nat.min_le_right _ _) (small1000 hx)
    · intro b o eb
      rw [upd_ne (ne_of_none eb hD)]
      exact s _ _ (p.1 _ _ eb)
    · rw [upd_same, take_fm f h, e]
      rfl
  · refine ⟨p.1.trans s, ?_⟩
    rw [take_fm f h, e, s _ _ p.2]
    simp
theorem acc_start {H1 : Hp} {f : V → Option V} {xs : List V} {D : Addr} (hD : H1 D = none) : Acc H1 f xs D 0 (upd H1 D (.lst [])) := ⟨fun b o eb => by
  rw [upd_ne (ne_of_none eb hD)]
  exact eb, by rw [upd_same]; rfl⟩
theorem lc_mapL {a : Addr} {xs : List V} {g : TG} {tt : TT} {te : TE} {vs : List Nat} {H H1 : Hp} {tl : TE} {Q : VK} (f : V → Option V) (htl : ∀ R : VK, R (.ref a) H1 → tl σ H R) (ha : SqL K H1 a xs) (hx : xs.length ≤ 1000)
    (hs : ∀ x ∈ xs, ∀ H, Same H1 H → Turn1 g tt te vs σ H x (f x))
    (hd : ∀ D H', H1 D = none → Same H1 H' → H' D = some (.lst (xs.filterMap f)) → Q (.ref D) H') : tLc (iList K tl) g tt te vs σ H Q := by
  refine htl _ ⟨a, rfl, ⟨xs, ha⟩, fun D hD => ?_⟩
  refine lc_list (K := K) (a := a) (xs := xs) (Acc H1 f xs D) (acc_start hD) (fun i H _ p => p.1.seq ha) (fun i x H h p => acc_turn hD hx h p (hs x (List.mem_of_getElem? h) H p.1)) fun H p => ?_
  have e := p.2
  rw [List.take_length] at e
  exact hd D H hD p.1 e
theorem sq_same {H H' : Hp} {a : Addr} {xs : List V} (e : Same H H') (h : SqT K H a xs) : SqT K H' a xs := by
  rcases h with (h | ⟨o, h⟩) | h
  · exact .inl (.inl (e _ _ h))
  · exact .inl (.inr ⟨o, e _ _ h⟩)
  · exact .inr h
theorem lc_mapT {a : Addr} {xs : List V} {g : TG} {tt : TT} {te : TE} {vs : List Nat} {H H1 : Hp} {tl : TE} {Q : VK} (f : V → Option V) (htl : ∀ R : VK, R (.ref a) H1 → tl σ H R) (ha : SqT K H1 a xs) (hx : xs.length ≤ 1000)
    (hs : ∀ x ∈ xs, ∀ H, Same H1 H → Turn1 g tt te vs σ H x (f x))
    (hd : ∀ D H', H1 D = none → Same H1 H' → H' D = some (.lst (xs.filterMap f)) → Q (.ref D) H') : tLc (iTup K tl) g tt te vs σ H Q := by
  refine htl _ ⟨a, rfl, ⟨xs, ha⟩, fun D hD => ?_⟩
  refine lc_tup (K := K) (a := a) (xs := xs) (Acc H1 f xs D) (acc_start hD) (fun i H _ p => sq_same p.1 ha) (fun i x H h p => acc_turn hD hx h p (hs x (List.mem_of_getElem? h) H p.1)) fun H p => ?_
  have e := p.2
  rw [List.take_length] at e
  exact hd D H hD p.1 e
theorem lc_mapTn {xs : List V} {g : TG} {tt : TT} {te : TE} {vs : List Nat} {H : Hp} {tl : TE} {Q : VK} (f : V → Option V) (htl : ∀ R : VK, (∀ a, H a = none → R (.ref a) (upd H a (.tup xs))) → tl σ H R) (hx : xs.length ≤ 1000)
    (hs : ∀ x ∈ xs, ∀ H', Same H H' → Turn1 g tt te vs σ H' x (f x))
    (hd : ∀ D H', H D = none → Same H H' → H' D = some (.lst (xs.filterMap f)) → Q (.ref D) H') : tLc (iTup K tl) g tt te vs σ H Q := by
  refine htl _ fun a ha => ⟨a, rfl, ⟨xs, SqT.of upd_same⟩, fun D hD => ?_⟩
  have s1 : Same H (upd H a (.tup xs)) := same_new ha
  refine lc_tup (K := K) (a := a) (xs := xs) (Acc (upd H a (.tup xs)) f xs D) (acc_start hD) (fun i H _ p => sq_same p.1 (SqT.of upd_same)) (fun i x H h p => acc_turn hD hx h p (hs x (List.mem_of_getElem? h) H (s1.trans p.1))) fun H p => ?_
  have e := p.2
  rw [List.take_length] at e
  exact hd D H (s1.free hD) (s1.trans p.1) e
theorem lc_mapLn {xs : List V} {g : TG} {tt : TT} {te : TE} {vs : List Nat} {H : Hp} {tl : TE} {Q : VK} (f : V → Option V) (htl : ∀ R : VK, (∀ a, H a = none → R (.ref a) (upd H a (.lst xs))) → tl σ H R) (hx : xs.length ≤ 1000)
    (hs : ∀ x ∈ xs, ∀ H', Same H H' → Turn1 g tt te vs σ H' x (f x))
    (hd : ∀ D H', H D = none → Same H H' → H' D = some (.lst (xs.filterMap f)) → Q (.ref D) H') : tLc (iList K tl) g tt te vs σ H Q := by
  refine htl _ fun a ha => ⟨a, rfl, ⟨xs, SqL.of upd_same⟩, fun D hD => ?_⟩
  have s1 : Same H (upd H a (.lst xs)) := same_new ha
  refine lc_list (K := K) (a := a) (xs := xs) (Acc (upd H a (.lst xs)) f xs D) (acc_start hD) (fun i H _ p => p.1.seq (SqL.of upd_same)) (fun i x H h p => acc_turn hD hx h p (hs x (List.mem_of_getElem? h) H (s1.trans p.1))) fun H p => ?_
  have e := p.2
  rw [List.take_length] at e
  exact hd D H (s1.free hD) (s1.trans p.1) e
/-- the ints below n -/
def upto (n : Int) : List V := (List.range n.toNat).map fun i => V.int (i : Nat)
theorem upto_get {n : Int} {i : Nat} (h : (i : Int) < n) : (upto n)[i]? = some (.int i) := by
  unfold upto
  rw [List.getElem?_map, List.getElem?_range (by omega)]
  rfl
theorem upto_len (n : Int) : (upto n).length = n.toNat := by
  unfold upto
  rw [List.length_map, List.length_range]
theorem lc_mapR {n : Int} {g : TG} {tt : TT} {te : TE} {vs : List Nat} {H H1 : Hp} {ta : TA} {Q : VK} (f : V → Option V) (hta : ∀ R : List V → Hp → Prop, R [.int n] H1 → ta σ H R) (hn : n ≤ 1000 ∧ 0 ≤ n)
    (hs : ∀ i : Nat, (i : Int) < n → ∀ H, Same H1 H → Turn1 g tt te vs σ H (.int i) (f (.int i)))
    (hd : ∀ D H', H1 D = none → Same H1 H' → H' D = some (.lst ((upto n).filterMap f)) → Q (.ref D) H') : tLc (iRng1 ta) g tt te vs σ H Q := by
  refine hta _ ⟨n, rfl, by omega, by omega, fun D hD => ?_⟩
  refine lc_range (lo := 0) (n := n.toNat) (Acc H1 f (upto n) D) (acc_start hD) (fun i H hi p => ?_) fun H p => ?_
  · have e : (0 : Int) + (i : Int) = (i : Int) := by omega
    rw [e]
    exact acc_turn hD (by rw [upto_len]; omega) (upto_get (by omega)) p (hs i (by omega) H p.1)
  · have e := p.2
    rw [show n.toNat = (upto n).length from (upto_len n).symm, List.take_length] at e
    exact hd D H hD p.1 e
end
/-! ### a source of draws: three numbers in a list at p, and nothing else is changed -/
def Spring (H : Hp) (p : Addr) : Prop := ∃ a b c : Int, H p = some (.lst [.int a, .int b, .int c])
structure Kp (p : Addr) (H H' : Hp) : Prop where
  sp : Spring H' p
  keep : ∀ b o, b ≠ p → H b = some o → H' b = some o
theorem Kp.refl {p : Addr} {H : Hp} (h : Spring H p) : Kp p H H := ⟨h, fun _ _ _ e => e⟩
theorem Kp.trans {p : Addr} {H H1 H2 : Hp} (a : Kp p H H1) (b : Kp p H1 H2) : Kp p H H2 := ⟨b.sp, fun c o n e => b.keep c o n (a.keep c o n e)⟩
theorem Spring.ne {H : Hp} {p q : Addr} (h : Spring H p) (n : H q = none) : q ≠ p := by
  rintro rfl
  obtain ⟨_, _, _, e⟩ := h
  rw [e] at n
  cases n
theorem ne_of_spring {H : Hp} {p q : Addr} (h : Spring H p) (n : H q = none) : p ≠ q := Ne.symm (h.ne n)
theorem Spring.same {H H' : Hp} {p : Addr} (h : Spring H p) (s : Same H H') : Spring H' p := by
  obtain ⟨a, b, c, e⟩ := h
  exact ⟨a, b, c, s _ _ e⟩
theorem Spring.new {H : Hp} {p q : Addr} {o : HO} (h : Spring H p) (n : H q = none) : Spring (upd H q o) p := h.same (same_new n)
theorem Kp.same {p : Addr} {H H1 H2 : Hp} (a : Kp p H H1) (s : Same H1 H2) : Kp p H H2 := ⟨a.sp.same s, fun c o n e => s c o (a.keep c o n e)⟩
theorem Kp.new {p q : Addr} {H H1 : Hp} {o : HO} (a : Kp p H H1) (n : H1 q = none) : Kp p H (upd H1 q o) := a.same (same_new n)
theorem Kp.free {p q : Addr} {H H1 : Hp} (a : Kp p H H1) (hp : q ≠ p) (n : H1 q = none) : H q = none := by
  cases e : H q with
  | none => rfl
  | some o =>
    rw [a.keep q o hp e] at n
    cases n
/-- what H does not know may change -/
theorem Kp.mut {p q : Addr} {H H1 : Hp} {o : HO} (a : Kp p H H1) (hp : q ≠ p) (n : H q = none) : Kp p H (upd H1 q o) := by
  obtain ⟨x, y, z, e⟩ := a.sp
  refine ⟨⟨x, y, z, ?_⟩, fun b u nb e' => ?_⟩
  · rw [upd_ne (Ne.symm hp)]
    exact e
  · rw [upd_ne (ne_of_none e' n)]
    exact a.keep b u nb e'
theorem Kp.seq {K : PySem.W.Frag} {p q : Addr} {H H1 : Hp} {xs : List V} (a : Kp p H H1) (hp : q ≠ p) (h : SqL K H q xs) : SqL K H1 q xs := by
  rcases h with (h | ⟨o, h⟩) | h
  · exact .inl (.inl (a.keep _ _ hp h))
  · exact .inl (.inr ⟨o, a.keep _ _ hp h⟩)
  · exact .inr h
/-! ### in a list of ints -/
theorem inV_ints (y : Int) : ∀ ns : List Int, inV (.int y) (ns.map V.int) = decide (y ∈ ns)
  | [] => rfl
  | n :: r => by
    have ih := inV_ints y r
    unfold inV at ih ⊢
    rw [List.map_cons, List.any_cons, ih]
    show (n == y || decide (y ∈ r)) = decide (y ∈ n :: r)
    rw [Bool.eq_iff_iff]
    simp only [Bool.or_eq_true, beq_iff_eq, decide_eq_true_eq, List.mem_cons]
    constructor
    · rintro (h | h)
      · exact .inl h.symm
      · exact .inr h
    · rintro (h | h)
      · exact .inl h.symm
      · exact .inr h
theorem flat_ints : ∀ ns : List Int, (ns.map V.int).all flatV = true
  | [] => rfl
  | n :: r => by
    rw [List.map_cons, List.all_cons, flat_ints r]
    rfl
/-! ### data compared -/
theorem dpAll_ints {K : PySem.W.Frag} {H : Hp} : ∀ ns : List Int, DpAll K H (ns.map V.int) (ns.map PyData.int)
  | [] => .nil
  | n :: r => .cons (.int n) (dpAll_ints r)
theorem can_ints : ∀ ns : List Int, PyData.canLayAll0 (ns.map PyData.int) = true
  | [] => rfl
  | n :: r => by
    rw [List.map_cons]
    show (PyData.canLay0 (.int n) && PyData.canLayAll0 (r.map PyData.int)) = true
    rw [can_ints r]
    rfl
theorem depth_ints : ∀ ns : List Int, PyData.depthAll (ns.map PyData.int) ≤ 1
  | [] => by simp [PyData.depthAll]
  | n :: r => by
    have ih := depth_ints r
    rw [List.map_cons]
    simp only [PyData.depthAll, PyData.depth]
    omega
theorem shaped_tup (ns : List Int) : SeqAt.shaped (.tuple (ns.map PyData.int)) = true := by
  unfold SeqAt.shaped
  rw [Bool.and_eq_true]
  refine ⟨can_ints ns, decide_eq_true ?_⟩
  have h := depth_ints ns
  simp only [PyData.depth]
  omega
theorem shaped_lst (ns : List Int) : SeqAt.shaped (.list (ns.map PyData.int)) = true := by
  unfold SeqAt.shaped
  rw [Bool.and_eq_true]
  refine ⟨can_ints ns, decide_eq_true ?_⟩
  have h := depth_ints ns
  simp only [PyData.depth]
  omega
/-- two tuples, two lists of the same ints -/
theorem ne_tups {K : PySem.W.Frag} {H : Hp} {a b : Addr} {ns : List Int} {Q : VK} (ha : H a = some (.tup (ns.map V.int))) (hb : H b = some (.tup (ns.map V.int))) (q : Q (.bl false) H) : rNeD K (.ref a) (.ref b) H Q := by
  refine ⟨.tuple (ns.map PyData.int), .tuple (ns.map PyData.int), .tup (SqT.of ha) (dpAll_ints ns), .tup (SqT.of hb) (dpAll_ints ns), shaped_tup ns, shaped_tup ns, ?_⟩
  rw [SeqAt.eqv_refl _ (SeqAt.canLay_of_shaped (shaped_tup ns))]
  exact q
theorem ne_lsts {K : PySem.W.Frag} {H : Hp} {a b : Addr} {ns : List Int} {Q : VK} (ha : H a = some (.lst (ns.map V.int))) (hb : H b = some (.lst (ns.map V.int))) (q : Q (.bl false) H) : rNeD K (.ref a) (.ref b) H Q := by
  refine ⟨.list (ns.map PyData.int), .list (ns.map PyData.int), .lst (SqL.of ha) (dpAll_ints ns), .lst (SqL.of hb) (dpAll_ints ns), shaped_lst ns, shaped_lst ns, ?_⟩
  rw [SeqAt.eqv_refl _ (SeqAt.canLay_of_shaped (shaped_lst ns))]
  exact q
end Z

/-! Calls by keywords alone; defs that ask that no list is being written out around them (repr). -/
namespace Z
open PySem PySem.Spec PyProof.Rows L2
/-! ### keywords alone, in any order -/
/-- how keywords alone come to the parameters: π tells for each parameter the place of its keyword -/
def BdK (x : Str) (st : Stmt) (ps ks : List Str) (π : List Nat) : Prop := ∀ (qual : Str) (kV doc pm : Value) (an : Option Addr) (cdv ct : Value) (ws : List Value), ws.length = ks.length →
  bindArgs (PySem.W.fnOf x qual (defArgs st) (defBody st) (defScope st) .none kV doc pm an cdv ct) ⟨[], ks.zip ws⟩ = pure (ps.zip (π.map fun i => ws.getD i .none))
theorem vals_getD : ∀ {zs : List V} {ws : List Value}, Vals zs ws → ∀ i : Nat, RelV (zs.getD i .non) (ws.getD i .none)
  | _, _, .nil, _ => rfl
  | _, _, .cons r _, 0 => r
  | _, _, .cons _ t, i + 1 => vals_getD t i
theorem vals_perm {zs : List V} {ws : List Value} (r : Vals zs ws) : ∀ π : List Nat, Vals (π.map fun i => zs.getD i .non) (π.map fun i => ws.getD i .none)
  | [] => .nil
  | i :: π => .cons (vals_getD r i) (vals_perm r π)
def tCallK0 (n : Nat) (sp : Sp) (π : List Nat) (E : XK) (tk : TA) : TE := fun σ H Q => tk σ H fun zs H1 => zs.length = n ∧ sp (π.map fun i => zs.getD i .non) H1 Q E
/-! ### defs under no guard -/
structure FnG (P : Program) (w : World) (K : PySem.W.Frag) (mg : Str → Option Value) (base : Heap) (CX : CXT) (k : Nat) (f : Addr) (fd : FuncData) (ps : List Str) (sp : Sp) : Prop where
  few : ∀ vs H Q E, sp vs H Q E → vs.length = ps.length
  goes : ∀ (A : Around) (outer : List Env) (s : Shared) (H : Hp) (args : Args) (us : List Value) (vs : List V) (Q : VK) (E : XK), Room k A → A.guards = some [] → Env0 P w K mg base A outer s H → BindsTo s fd args (ps.zip us) → Vals vs us →
    sp vs H Q E → codeAny (model P w) A (.call (.ref f) args) (CR CX outer P w H s Q E) s
theorem FnG.of {P : Program} {w : World} {K : PySem.W.Frag} {mg : Str → Option Value} {base : Heap} {CX : CXT} {k : Nat} {f : Addr} {fd : FuncData} {ps : List Str} {sp : Sp} (F : FnOk P w K mg base CX k f fd ps sp) : FnG P w K mg base CX k f fd ps sp :=
  ⟨F.len, fun A outer s H args us vs Q E hr _ => F.run A outer s H args us vs Q E hr⟩
section
variable {P : Program} {w : World} {K : PySem.W.Frag} {mg : Str → Option Value} {base : Heap}
/-- a def by its body, under no guard -/
theorem fun_okG {x qual : Str} {st : Stmt} {f : Addr} {fd : FuncData} {N ps : List Str} {k : Nat} {sp : Sp} (F : Fun K x qual st f fd) (S : FnScope N ps (defScope st)) (few : ∀ vs H Q E, sp vs H Q E → vs.length = ps.length)
    (body : ∀ (cdv : Value) (A : Around) (outer : List Env) (s : Shared) (H : Hp) (vs : List V) (Q : VK) (E : XK), Room k (A.deeper (envOfC qual (defScope st) s.heap.objs.size f cdv)) → A.guards = some [] → sp vs H Q E →
      ∃ t, PSs (cxOf CX0 P w K mg base N qual (defScope st) f cdv A outer s H E).nox (defBody st) t ∧ t { nx := fun _ H' => Q .non H', rt := Q } (start N vs) H) : FnG P w K mg base CX0 (k + 1) f fd ps sp := by
  obtain ⟨oc, od, kV, doc, pm, an, cdv, ct, osl, rfl, lk, hcd⟩ := F.ex
  refine ⟨few, fun A outer s H args us vs Q E room gd here binds rel told => ?_⟩
  have inK : K.In s.heap := here.mod.kin.keeps fun b o e => (here.bs b o e).1
  have noLim : s.heap.NoLimit := here.mod.nolimit.keeps fun b o e => (here.bs b o e).1
  have kinds : ∀ y ∈ ps.zip us, (defScope st).names.lookup y.1 = some .local ∨ ((defScope st).names.lookup y.1 = some .cell ∧ ((cellsFrom (s.heap.objs.size + 1) (defScope st).names []).lookup y.1).isSome = true) := fun ⟨n, v⟩ hy =>
    (S.par n (List.of_mem_zip hy).1).elim .inl fun c => .inr ⟨c, PySem.W.cellsFrom_some _ _ _ (.inl c)⟩
  refine codeAny_call_function room.depth (inK _ _ lk) rfl S.co S.gen rfl (PySem.W.codeRec_of inK hcd) (binds _ _ _ _ (wpAny_newFunctionEnv_cells S.kind kinds fun env he s1 made => ?_))
  cases he
  refine ⟨noLim.keeps made.toInCall.keep, codeAny_func ?_⟩
  obtain ⟨t, ht, hq⟩ := body cdv A outer s H vs Q E (room.deeper _) gd told
  have I0 : Inv (cxOf CX0 P w K mg base N qual (defScope st) f cdv A outer s H E) [] (start N vs) H s1 := inv_start S room.hd here (few _ _ _ _ told) rel made
  refine wpAny_mono (ht.nox.run [] s1 (start N vs) H _ I0 hq) (fun fl s' hs => ?_) fun e s' hs => hs
  cases fl with
  | ret u => exact let ⟨v, _, H', J, rv, q⟩ := hs; ⟨v, H', J.os, J.bare, J.base, J.hok, rv, q⟩
  | next => exact let ⟨_, H', J, q⟩ := hs; ⟨V.non, H', J.os, J.bare, J.base, J.hok, rfl, q⟩
  | brk => exact let ⟨_, _, _, q⟩ := hs; q.elim
  | cont => exact let ⟨_, _, _, q⟩ := hs; q.elim
end
structure HdG (P : Program) (w : World) (K : PySem.W.Frag) (mg : Str → Option Value) (base : Heap) (CX : CXT) (k : Nat) (x : Str) (st : Stmt) (ps : List Str) (sp : Sp) : Prop where
  ex : ∃ f fd, Fun K x x st f fd ∧ mg x = some (.ref f) ∧ FnG P w K mg base CX k f fd ps sp
  bd : Bd x st ps
theorem HdG.of {P : Program} {w : World} {K : PySem.W.Frag} {mg : Str → Option Value} {base : Heap} {CX : CXT} {k : Nat} {x : Str} {st : Stmt} {ps : List Str} {sp : Sp} (h : Hd P w K mg base CX k x st ps sp) : HdG P w K mg base CX k x st ps sp := by
  obtain ⟨f, fd, F, hm, G⟩ := h.ex
  exact ⟨⟨f, fd, F, hm, .of G⟩, h.bd⟩
section
variable {X : Cx} {CX : CXT} {k : Nat} {st : Stmt} {ps ks : List Str} {sp : Sp} {E : XK} {x : Str} {p pos : Pos} {e : Expr} {es : List Expr} {kws : List Keyword} {t tk : TA} {π : List Nat}
theorem run_G {pins : List (Addr × Obj)} {σ : L2.St} {H : Hp} {s : Shared} {Q : VK} {args : Args} {us : List Value} {vs : List V} {f : Addr} {fd : FuncData} (F : FnG X.prog X.w X.K X.mg X.base CX k f fd ps sp) (hr : Room k X.A) (gd : X.A.guards = some []) (hx : Passes CX X E)
    (I : Inv X pins σ H s) (hb : BindsTo s fd args (ps.zip us)) (r : Vals vs us) (h : sp vs H Q E) : codeAny (model X.prog X.w) X.A (.call (.ref f) args) (fun q s' => match q with | .ok (.ret u) => EP X pins σ Q u s' | .ok _ => False | .error e => X.xe e s') s := by
  refine codeAny_mono (F.goes X.A X.stack s H args us vs Q E hr gd I.env0 hb r h) fun q s' told => ?_
  match q, told with
  | .error e, told => exact hx pins σ H s e s' I told
  | .ok (.ret u), told => exact I.after told
  | .ok .next, told => exact told
  | .ok .brk, told => exact told
  | .ok .cont, told => exact told
theorem run_Gc {pins : List (Addr × Obj)} {σ : L2.St} {H : Hp} {s : Shared} {Q : VK} {us0 : List Value} {kw : List (Str × Value)} {us : List Value} {vs : List V} {f : Addr} {fd : FuncData} (F : FnG X.prog X.w X.K X.mg X.base CX k f fd ps sp) (hr : Room k X.A) (gd : X.A.guards = some []) (hx : Passes CX X E)
    (I : Inv X pins σ H s) (hb : BindsTo s fd ⟨us0, kw⟩ (ps.zip us)) (r : Vals vs us) (h : sp vs H Q E) : wpAny (model X.prog X.w) X.A (call (.ref f) us0 kw) (EP X pins σ Q) X.xe s := by
  refine wpAny_call (codeAny_mono (run_G F hr gd hx I hb r h) fun q s' told => ?_)
  match q, told with
  | .error e, told => exact told
  | .ok (.ret u), told => exact told
  | .ok .next, told => exact told.elim
  | .ok .brk, told => exact told.elim
  | .ok .cont, told => exact told.elim
theorem pe_hdG (h : HdG X.prog X.w X.K X.mg X.base CX k x st ps sp) (hr : Room k X.A) (gd : X.A.guards = some []) (hg : Gl X x) (hx : Passes CX X E) (ha : PA X (e :: es) t) (hdb : (x == ("__debug__" : Str)) = false := by decide)
    (hs : starEach (e :: es) X.env = (false, eval e X.env) :: starEach es X.env := by rfl) (hpl : (backTo pos (starEach es X.env)).any (·.1) = false := by rfl) : PE X (.Call (.Name x p) (e :: es) [] pos) (tCall sp [] E t) := by
  obtain ⟨f, fd, F, hm, G⟩ := h.ex
  refine ⟨fun pins s σ H Q I told => wpAny_Call_Name_kw (ld_glob I hg hm (PySem.W.callWith_K (h₀ := X.base) I.ok.mod.kin F.kp (thn (ha.run pos pins s σ H _ I told) fun us s1 got => ?_) hs hpl) hdb)⟩
  obtain ⟨vs, H1, I1, r, q⟩ := got
  rw [List.append_nil] at q
  refine ⟨I1.kIn, run_Gc G hr gd hx I1 ?_ r q⟩
  have hl : us.length = ps.length := by rw [← r.length]; exact G.few _ _ _ _ q
  have b := (F.binds (h.bd x)) s1 us I1.kIn (by rw [List.append_nil]; exact hl)
  rw [List.append_nil] at b
  exact b
theorem pe_hdk (h : HdG X.prog X.w X.K X.mg X.base CX k x st ps sp) (hr : Room k X.A) (gd : X.A.guards = some [] ∨ Hd X.prog X.w X.K X.mg X.base CX k x st ps sp) (hg : Gl X x) (hx : Passes CX X E) (hbk : BdK x st ps ks π) (hkw : PK X kws tk)
    (hall : (backToKw pos (keywordEach kws X.env)).all (·.1.isSome) = true := by rfl) (hks : (backToKw pos (keywordEach kws X.env)).filterMap (·.1) = ks := by rfl)
    (hdb : (x == ("__debug__" : Str)) = false := by decide) (hpl : ((backTo pos (starEach [] X.env)).any (·.1) || (backToKw pos (keywordEach kws X.env)).any (·.1.isNone)) = false := by rfl) :
    PE X (.Call (.Name x p) [] kws pos) (tCallK0 ks.length sp π E tk) := by
  have fin : ∀ {pins : List (Addr × Obj)} {σ : L2.St} {H : Hp} {s : Shared} {Q : VK} {ws : List Value} {zs : List V}, Inv X pins σ H s → Vals zs ws → zs.length = ks.length → sp (π.map fun i => zs.getD i .non) H Q E →
      ∃ f, X.mg x = some (.ref f) ∧ PySem.W.keepIn X.K (.ref f) = true ∧ wpAny (model X.prog X.w) X.A (call (.ref f) [] (ks.zip ws)) (EP X pins σ Q) X.xe s := by
    intro pins σ H s Q ws zs I r hl q
    have bind : ∀ {f : Addr} {fd : FuncData}, Fun X.K x x st f fd → BindsTo s fd ⟨[], ks.zip ws⟩ (ps.zip (π.map fun i => ws.getD i .none)) := by
      intro f fd F
      obtain ⟨oc, od, kV, doc, pm, an, cdv, ct, osl, rfl, lk, hcd⟩ := F.ex
      exact .of_eq (hbk x kV doc pm an cdv ct ws (by rw [← r.length]; exact hl))
    rcases gd with gd | h2
    · obtain ⟨f, fd, F, hm, G⟩ := h.ex
      exact ⟨f, hm, F.kp, run_Gc G hr gd hx I (bind F) (vals_perm r π) q⟩
    · obtain ⟨f, fd, F, hm, G⟩ := h2.ex
      refine ⟨f, hm, F.kp, wpAny_call (codeAny_mono (G.run X.A X.stack s H _ _ _ Q E hr I.env0 (bind F) (vals_perm r π) q) fun q s' told => ?_)⟩
      match q, told with
      | .error e, told => exact hx pins σ H s e s' I told
      | .ok (.ret u), told => exact I.after told
      | .ok .next, told => exact told.elim
      | .ok .brk, told => exact told.elim
      | .ok .cont, told => exact told.elim
  obtain ⟨f0, fd0, F0, hm0, G0⟩ := h.ex
  refine ⟨fun pins s σ H Q I told => wpAny_Call_Name_kw (ld_glob I hg hm0 (PySem.W.callWith_KW0 (h₀ := X.base) I.ok.mod.kin F0.kp hall (thn (hkw.run pos pins s σ H _ I told) fun ws s1 got => ?_) hpl) hdb)⟩
  obtain ⟨zs, H1, I1, r, hl, q⟩ := got
  refine ⟨I1.kIn, ?_⟩
  rw [hks]
  obtain ⟨f, hm, kp, done⟩ := fin I1 r hl q
  rw [hm0] at hm
  cases hm
  exact done
end
/-! ### the law's own call -/
section
variable {P : Program} {w : World} {K : PySem.W.Frag} {mg mb : Str → Option Value} {k : Nat} {fa a : Addr} {fd : FuncData} {x : Str} {sp : Sp} {s1 : Shared} {vs : List Value} {ns : List Int}
/-- from one abstract heap in which the script alone may be tracked -/
theorem start_call (inK : K.In s1.heap) (nsG : s1.heap.Ns mainGlobals mg) (nsB : s1.heap.Ns builtinsNs mb) (boot : ∀ x : Str, x ≠ "__name__" → mb x = bootBuiltins x) (noLim : s1.heap.NoLimit) (noGen : s1.gens = #[])
    (here : s1.heap.get? a = some { cls := .type "list", data := .seq vs.toArray }) (room : Room k callerA) (F : ∀ base : Heap, K.In base → base.Ns mainGlobals mg → FnG P w K mg base CX0 k fa fd [x] sp)
    (bind : ∀ (s : Shared) (u : Value), BindsTo s fd ⟨[u], []⟩ [(x, u)]) (H : Hp) (only : Only H) (told : sp [.ref a] H (fun v _ => v = .bl true) fun _ _ _ => False) (ok : HOk P w H s1.heap) (one : ∀ b, H b ≠ none → b = a) (out : H a ≠ none → K.lookup a = none) :
    codeAny (model P w) callerA (.call (.ref fa) ⟨[.ref a], []⟩) (fun r s' => r = .ok (.ret (.bool true)) ∧ OldK s1.heap s'.heap ∧ s'.os = s1.os ∧ AllBare s'.gens) s1 := by
  have free : ∀ {b : Addr} {o : Obj} {es : Array DictEntry} {ep : Nat}, s1.heap.get? b = some o → o.data = .dict es ep → H b = none := by
    intro b o es ep e d
    cases q : H b with
    | none => rfl
    | some u =>
      obtain rfl := one b (by rw [q]; exact fun z => nomatch z)
      rw [here] at e
      cases e
      exact nomatch d
  have nsK : ∀ {b : Addr} {m : Str → Option Value}, s1.heap.Ns b m → (hidT s1.heap H).Ns b m := by
    rintro b m ⟨o, es, ep, e, d, r⟩
    exact ⟨o, es, ep, hidT_get e (free e d), d, r⟩
  have inH : K.In (hidT s1.heap H) := by
    intro b o e
    refine hidT_get (inK b o e) ?_
    cases q : H b with
    | none => rfl
    | some u =>
      have hb : H b ≠ none := by rw [q]; exact fun z => nomatch z
      obtain rfl := one b hb
      rw [out hb] at e
      cases e
  have md : Mod K mg (hidT s1.heap H) := ⟨inH, nsK nsG, ⟨mb, nsK nsB, boot⟩, noLim.elim fun mc h => ⟨mc, nsK h.1, h.2⟩⟩
  have nil : ∀ {b : Addr}, b ∉ frs [] := fun {b} z => List.not_mem_nil z
  have e0 : Env0 P w K mg (hidT s1.heap H) callerA [] s1 H := { frames := rfl, mod := md, bs := fun b o e => of_hidT e, bsz := Nat.le_of_eq (hidT_size _ _), funs := trivial, frf := fun b hb => absurd hb nil, hok := ok, bare := .of_eq noGen }
  refine codeAny_mono ((F _ inH (nsK nsG)).goes callerA [] s1 H ⟨[.ref a], []⟩ [.ref a] [.ref a] _ _ room rfl e0 (bind s1 (.ref a)) (.cons rfl .nil) told) fun r s' h => ?_
  match r, h with
  | .error e, h => exact h.elim
  | .ok .next, h => exact h.elim
  | .ok .brk, h => exact h.elim
  | .ok .cont, h => exact h.elim
  | .ok (.ret u), ⟨v, H', os, bare, un, ok', ru, (hv : v = .bl true)⟩ =>
    subst hv
    cases (show u = Value.bool true from ru)
    refine ⟨rfl, OldK.of_keep fun b o e => ?_, os, bare⟩
    cases q : H b with
    | none => exact un.keep b o e q nil List.not_mem_nil
    | some u =>
      rcases only b with z | ⟨ob, xs, z⟩
      · rw [q] at z
        cases z
      · have z1 := (ok b _ z).1
        have z2 := (ok' b _ (un.frzs b ob _ z)).1
        rw [e] at z1
        cases z1
        exact z2
theorem law_callG (inK : K.In s1.heap) (nsG : s1.heap.Ns mainGlobals mg) (nsB : s1.heap.Ns builtinsNs mb) (boot : ∀ x : Str, x ≠ "__name__" → mb x = bootBuiltins x) (noLim : s1.heap.NoLimit) (noGen : s1.gens = #[])
    (here : s1.heap.get? a = some { cls := .type "list", data := .seq vs.toArray }) (hints : IntsAre vs ns) (few : ns.length ≤ sizeLine) (room : Room k callerA) (F : ∀ base : Heap, K.In base → base.Ns mainGlobals mg → FnG P w K mg base CX0 k fa fd [x] sp)
    (bind : ∀ (s : Shared) (u : Value), BindsTo s fd ⟨[u], []⟩ [(x, u)]) (told : ∀ H : Hp, Only H → SqL K H a (ns.map V.int) → sp [.ref a] H (fun v _ => v = .bl true) fun _ _ _ => False) :
    codeAny (model P w) callerA (.call (.ref fa) ⟨[.ref a], []⟩) (fun r s' => r = .ok (.ret (.bool true)) ∧ OldK s1.heap s'.heap ∧ s'.os = s1.os ∧ AllBare s'.gens) s1 := by
  have rel := vals_ints hints
  cases kept : K.lookup a with
  | some o =>
    have e := inK a o kept
    rw [here] at e
    cases e
    have only : Only (fun _ => none) := fun _ => .inl rfl
    exact start_call inK nsG nsB boot noLim noGen here room F bind _ only (told _ only (.inr ⟨_, vs.toArray, _, kept, rfl, rfl, rfl, by rw [List.size_toArray, hints.length]; exact few, rel⟩)) (fun b u z => nomatch z) (fun b z => absurd rfl z) fun z => absurd rfl z
  | none =>
    let H : Hp := fun b => if b = a then some (.frz { cls := .type "list", data := .seq vs.toArray } (.lst (ns.map V.int))) else none
    have at_a : H a = some (.frz { cls := .type "list", data := .seq vs.toArray } (.lst (ns.map V.int))) := if_pos rfl
    have off : ∀ b, b ≠ a → H b = none := fun b hb => if_neg hb
    have only : Only H := fun b => if hb : b = a then .inr ⟨_, _, hb ▸ at_a⟩ else .inl (off b hb)
    refine start_call inK nsG nsB boot noLim noGen here room F bind H only (told H only (.inl (.inr ⟨_, at_a⟩))) (fun b u z => ?_) (fun b z => ?_) fun _ => kept
    · by_cases hb : b = a
      · subst hb
        rw [at_a] at z
        cases z
        exact ⟨here, by rw [List.length_map]; exact few, vs, _, rel, here⟩
      · rw [off b hb] at z
        cases z
    · exact Classical.byContradiction fun hb => z (off b hb)
end
theorem walk_G {l : PySem.W.OpenLaw} {n k : Nat} {q : Program} {loose : List Str} {XP : (Str → Option Value) → Heap → Prop} {YP : World → Heap → Prop} {d : DefRec} {K : Params → PySem.W.Frag} {sp : PySem.W.Frag → Sp} {x : Str}
    (hn : l.most = some n) (hn2 : n ≤ sizeLine) (hdf : d.params.defaults = []) (room : Room k callerA) (hY : ∀ (w : World) (h : Heap), YP w h → (K w.params).In h)
    (F : ∀ (w : World) (mg : Str → Option Value) (fa : Addr) (h : Heap), (K w.params).In h → h.Ns mainGlobals mg → mg d.name = some (.ref fa) →
      ∃ fd : FuncData, (∀ (s : Shared) (u : Value), BindsTo s fd ⟨[u], []⟩ [(x, u)]) ∧ ∀ base : Heap, (K w.params).In base → base.Ns mainGlobals mg → FnG l.prog w (K w.params) mg base CX0 k fa fd [x] (sp (K w.params)))
    (told : ∀ (K : PySem.W.Frag) (H : Hp) (a : Addr) (ns : List Int), ns.length ≤ n → Only H → SqL K H a (ns.map V.int) → sp K [.ref a] H (fun v _ => v = .bl true) fun _ _ _ => False) :
    PySem.W.WalkO q loose XP YP l.row.toRowW d [] (fun f vs => PySem.call f vs) := by
  refine Att.attach_call hn hdf fun w s0 s1 mg mb fa o pm cd doc a vs ns G Y ho hd hcd hmg hobj hints hlen hg => ?_
  have inK := hY w _ Y
  obtain ⟨fd, hb, hF⟩ := F w mg fa _ inK G.T.g hmg
  exact law_callG inK G.T.g G.T.b G.T.builtins G.T.nolimit hg hobj hints (Nat.le_trans hlen hn2) room hF hb fun H hO hS => told _ H a ns hlen hO hS
/-! ### repr: of small data -/
theorem listText_le : ∀ ts : List Str, (listText ts).length ≤ piled ts + 2
  | [] => by decide
  | t :: r => by
    have h := textFrom_length_pos r 1 (("[" : Str) ++ (if (0 : Nat) > 0 then ", " else "" : String) ++ t) Nat.one_pos
    have e : (("[" : Str) ++ (if (0 : Nat) > 0 then ", " else "" : String) ++ t).length = 1 + t.length := by
      rw [strLen_append, strLen_append]
      rfl
    have x : (listText (t :: r)).length = (textFrom 1 (("[" : Str) ++ (if (0 : Nat) > 0 then ", " else "" : String) ++ t) r).length + 1 := by
      unfold listText
      rw [strLen_append]
      rfl
    rw [x, h, e, piled_cons]
    omega
theorem tupleText_le (ts : List Str) : (tupleText ts).length ≤ piled ts + 3 := by
  have e2 : ((if ts.length == 1 then ",)" else ")" : String) : Str).length ≤ 2 := by split <;> decide
  unfold tupleText
  rw [strLen_append, strLen_append]
  cases ts with
  | nil => decide
  | cons t r =>
    have h := join_length_add (t :: r) (List.cons_ne_nil _ _)
    have e1 : ("(" : Str).length = 1 := by decide
    omega
mutual
/-- small enough to be written out -/
def Shw : PyData → Prop
  | .none => True
  | .bool _ => True
  | .int i => i.natAbs.log2 < 1000
  | .str x => (∀ c ∈ x.cps.toList, c < 16 ^ 8) ∧ x.length ≤ 10000
  | .list xs => ShwAll xs
  | .tuple xs => ShwAll xs
  | .dict _ => False
def ShwAll : List PyData → Prop
  | [] => True
  | x :: xs => Shw x ∧ ShwAll xs
end
mutual
/-- how many signs at most -/
def wd : PyData → Nat
  | .none => 4
  | .bool _ => 5
  | .int _ => 1001
  | .str x => 10 * x.length + 2
  | .list xs => wdAll xs + 2
  | .tuple xs => wdAll xs + 3
  | .dict _ => 0
def wdAll : List PyData → Nat
  | [] => 0
  | x :: xs => wd x + 2 + wdAll xs
end
mutual
theorem shown_le : ∀ d : PyData, Shw d → d.shown.length ≤ wd d ∧ d.showable = true ∧ d.hasDict = false
  | .none, _ => ⟨by decide, rfl, rfl⟩
  | .bool b, _ => ⟨by cases b <;> decide, rfl, rfl⟩
  | .int i, h => by
    have h : i.natAbs.log2 < 1000 := by simpa only [Shw] using h
    refine ⟨?_, ?_, rfl⟩
    · have h2 := int_text_length_le (k := 1000) (by decide) h
      simp only [PyData.shown, wd]
      have e : (Str.ofString (toString i)).length = (toString i).length := PySem.ofString_length _
      omega
    · simp only [PyData.showable, decide_eq_true_eq]
      omega
  | .str x, h => by
    have h : (∀ c ∈ x.cps.toList, c < 16 ^ 8) ∧ x.length ≤ 10000 := by simpa only [Shw] using h
    refine ⟨?_, rfl, rfl⟩
    simp only [PyData.shown, wd]
    exact StrLaws.reprText_len x h.1
  | .list xs, h => by
    obtain ⟨h1, h2, h3⟩ := shownAll_le xs (by simpa only [Shw] using h)
    refine ⟨?_, by simpa only [PyData.showable] using h2, by simpa only [PyData.hasDict] using h3⟩
    have := listText_le (PyData.shownAll xs)
    simp only [PyData.shown, wd]
    omega
  | .tuple xs, h => by
    obtain ⟨h1, h2, h3⟩ := shownAll_le xs (by simpa only [Shw] using h)
    refine ⟨?_, by simpa only [PyData.showable] using h2, by simpa only [PyData.hasDict] using h3⟩
    have := tupleText_le (PyData.shownAll xs)
    simp only [PyData.shown, wd]
    omega
  | .dict _, h => by simp only [Shw] at h
theorem shownAll_le : ∀ xs : List PyData, ShwAll xs → piled (PyData.shownAll xs) ≤ wdAll xs ∧ PyData.showableAll xs = true ∧ PyData.hasDictAll xs = false
  | [], _ => ⟨Nat.le_refl _, rfl, rfl⟩
  | x :: xs, h => by
    have h : Shw x ∧ ShwAll xs := by simpa only [ShwAll] using h
    obtain ⟨a1, a2, a3⟩ := shown_le x h.1
    obtain ⟨b1, b2, b3⟩ := shownAll_le xs h.2
    refine ⟨?_, ?_, ?_⟩
    · simp only [PyData.shownAll, piled_cons, wdAll]
      omega
    · simp only [PyData.showableAll, a2, b2, Bool.and_self]
    · simp only [PyData.hasDictAll, a3, b3, Bool.or_self]
end
theorem shw_int {i : Int} (h0 : 0 ≤ i) (h1 : i < 2 ^ 200) : Shw (.int i) := by
  simp only [Shw]
  have h2 : i.natAbs < 2 ^ 200 := by omega
  exact Nat.lt_trans (PySem.Flt.log2_lt_of (by decide) h2) (by decide)
section
variable {X : Cx}
/-- repr of a list or tuple of data -/
def rRepr (K : PySem.W.Frag) : List V → Hp → VK → Prop := fun vs H Q => ∃ a d, vs = [.ref a] ∧ Dp K H (.ref a) d ∧ Shw d ∧ d.depth ≤ 60 ∧ wd d ≤ 16000000 ∧ Q (.str d.shown) H
theorem call_reprD (hu : X.A.units + 64 < cLine) (gd : X.A.guards = some []) : CallR X (.builtin "repr") (rRepr X.K) := by
  intro pins s σ H vs us Q I r h
  obtain ⟨a, d, rfl, hd, h1, h3, h4, q⟩ := h
  obtain ⟨u, rfl, ru⟩ := vals1 r
  obtain ⟨as, rd⟩ := Dp.reads I d _ u hd ru
  cases ru
  obtain ⟨b1, b2, b3⟩ := shown_le d h1
  exact repr_of_reads' rd b2 (fun z => by rw [b3] at z; cases z) gd (by omega) (fun _ _ e => e) (fun h' u tk hk => ⟨.str d.shown, H, I.kept (t' := tk) hk, ⟨_, rfl⟩, q⟩) (by rw [sizeLine_eq]; omega)
/-- ints that are small -/
def Low (ns : List Int) : Prop := (∀ i ∈ ns, 0 ≤ i ∧ i < 2 ^ 200) ∧ ns.length ≤ 200
theorem shw_ints : ∀ {ns : List Int}, (∀ i ∈ ns, 0 ≤ i ∧ i < 2 ^ 200) → ShwAll (ns.map PyData.int)
  | [], _ => by simp only [List.map_nil, ShwAll]
  | n :: r, h => by
    simp only [List.map_cons, ShwAll]
    have h1 := h n (List.mem_cons_self ..)
    exact ⟨shw_int h1.1 h1.2, shw_ints fun i hi => h i (List.mem_cons_of_mem _ hi)⟩
theorem wd_ints : ∀ ns : List Int, wdAll (ns.map PyData.int) = 1003 * ns.length
  | [] => rfl
  | n :: r => by
    simp only [List.map_cons, wdAll, wd, wd_ints r, List.length_cons]
    omega
theorem repr_lst {K : PySem.W.Frag} {H : Hp} {c : Addr} {ns : List Int} {Q : VK} (hc : H c = some (.lst (ns.map V.int))) (low : Low ns) (q : Q (.str (PyData.list (ns.map PyData.int)).shown) H) : rRepr K [.ref c] H Q := by
  refine ⟨c, .list (ns.map PyData.int), rfl, .lst (SqL.of hc) (dpAll_ints ns), ?_, ?_, ?_, q⟩
  · simp only [Shw]
    exact shw_ints low.1
  · have := depth_ints ns
    simp only [PyData.depth]
    omega
  · simp only [wd, wd_ints]
    have := low.2
    omega
/-- a list of tuples of ints -/
def tupsD (ls : List (List Int)) : List PyData := ls.map fun l => PyData.tuple (l.map PyData.int)
theorem dpAll_tups {K : PySem.W.Frag} {H : Hp} : ∀ {as : List Addr} {ls : List (List Int)}, Paired (fun a l => H a = some (.tup ((l : List Int).map V.int))) as ls → DpAll K H (as.map V.ref) (tupsD ls)
  | _, _, .nil => .nil
  | _, _, .cons r t => .cons (.tup (SqT.of r) (dpAll_ints _)) (dpAll_tups t)
theorem shw_tups : ∀ {ls : List (List Int)}, (∀ l ∈ ls, Low l) → ShwAll (tupsD ls)
  | [], _ => by simp only [tupsD, List.map_nil, ShwAll]
  | l :: r, h => by
    simp only [tupsD, List.map_cons, ShwAll]
    refine ⟨?_, shw_tups fun i hi => h i (List.mem_cons_of_mem _ hi)⟩
    simp only [Shw]
    exact shw_ints (h l (List.mem_cons_self ..)).1
theorem wd_tups : ∀ {ls : List (List Int)}, (∀ l ∈ ls, Low l) → wdAll (tupsD ls) ≤ 200605 * ls.length
  | [], _ => Nat.le_refl _
  | l :: r, h => by
    have h1 := (h l (List.mem_cons_self ..)).2
    have h2 := wd_tups fun i hi => h i (List.mem_cons_of_mem _ hi)
    simp only [tupsD, List.map_cons, wdAll, wd, wd_ints, List.length_cons] at h2 ⊢
    omega
theorem depth_tups : ∀ ls : List (List Int), PyData.depthAll (tupsD ls) ≤ 2
  | [] => by simp [tupsD, PyData.depthAll]
  | l :: r => by
    have h1 := depth_ints l
    have h2 := depth_tups r
    simp only [tupsD, List.map_cons, PyData.depthAll, PyData.depth] at h2 ⊢
    omega
theorem repr_ltups {K : PySem.W.Frag} {H : Hp} {c : Addr} {as : List Addr} {ls : List (List Int)} {Q : VK} (hc : H c = some (.lst (as.map V.ref))) (hp : Paired (fun a l => H a = some (.tup ((l : List Int).map V.int))) as ls) (low : ∀ l ∈ ls, Low l) (few : ls.length ≤ 4)
    (q : Q (.str (PyData.list (tupsD ls)).shown) H) : rRepr K [.ref c] H Q := by
  refine ⟨c, .list (tupsD ls), rfl, .lst (SqL.of hc) (dpAll_tups hp), ?_, ?_, ?_, q⟩
  · simp only [Shw]
    exact shw_tups low
  · have := depth_tups ls
    simp only [PyData.depth]
    omega
  · have := wd_tups low
    simp only [wd]
    omega
end
end Z

/-! The two ways in which a law asks its own check for each source of draws. -/
namespace Z
open PySem PySem.Spec PyProof.Rows L2
section
variable {K : PySem.W.Frag} {spS spR : Sp} {a : Addr} {n : Int} {H : Hp} {Q : VK} {TA : L2.TA} {σ : L2.St}
theorem iteT {P N : Prop} [Decidable (true = true)] (h : P) : ite (true = true) P N := by
  rw [if_pos rfl]
  exact h
theorem all_rep : ∀ m, (List.replicate m true).all id = true
  | 0 => rfl
  | m + 1 => by
    rw [List.replicate_succ, List.all_cons, all_rep m]
    rfl
theorem reps : ∀ l : List V, l.filterMap (fun _ => some (V.bl true)) = (List.replicate l.length true).map V.bl
  | [] => rfl
  | x :: r => by
    rw [List.filterMap_cons, reps r]
    rfl
/-- all([check(source(script, k)) for k in range(..)]) -/
theorem tail_A {i : Nat} (hta : ∀ R : List V → Hp → Prop, R [.int n] H → TA σ H R) (hn : n ≤ 64 ∧ 0 ≤ n) (hi : i < σ.length) (h0 : σ[0]? = some (some (.ref a))) (hi0 : i ≠ 0)
    (hS : ∀ (k : Int) H' Q' E, Same H H' → 0 ≤ k → k < n → (∀ p H2, H' p = none → Same H' H2 → Spring H2 p → Q' (.ref p) H2) → spS [.ref a, .int k] H' Q' E)
    (hR : ∀ p H' Q' E, Spring H' p → (∀ H2, Kp p H' H2 → Q' (.bl true) H2) → spR [.ref p] H' Q' E) (q : ∀ H', Q (.bl true) H') :
    tLc (iRng1 TA) (gName i) tYes (tCall spR [] E0 (tCons (tCall spS [] E0 (tCons (tVar 0) (tCons (tVar i) tNil))) tNil)) [i] σ H fun x H1 => rAllH [x] H1 Q := by
  refine lc_mapR (H1 := H) (fun _ => some (.bl true)) hta (by omega) (fun k hk H1 s1 => ?_) fun D H1 _ s1 e1 => ?_
  · intro Y N hY hN
    have e2 : (((wipe σ [i]).set i (some (V.int k))))[i]? = some (some (.int k)) := by
      rw [List.getElem?_set_self]
      show i < (σ.set i none).length
      rw [List.length_set]
      exact hi
    have e3 : (((wipe σ [i]).set i (some (V.int k))))[0]? = some (some (.ref a)) := by
      rw [List.getElem?_set_ne hi0]
      show (σ.set i none)[0]? = _
      rw [List.getElem?_set_ne hi0]
      exact h0
    have e4 : wipe ((wipe σ [i]).set i (some (V.int k))) [i] = wipe σ [i] := by
      show ((σ.set i none).set i (some (V.int k))).set i none = σ.set i none
      rw [List.set_set, List.set_set]
    refine ⟨e4, ?_⟩
    simp only [tYes, if_true]
    refine ⟨_, e3, _, e2, hS k H1 _ _ s1 (by omega) hk fun p H2 hp s2 sp => hR p H2 _ _ sp fun H3 kp => hY _ H3 rfl fun c o e => kp.keep c o (ne_of_none e hp) (s2 c o e)⟩
  · rw [reps] at e1
    refine ⟨D, _, rfl, e1, ?_⟩
    rw [all_rep]
    exact q H1
/-- sources = [source(cells, k) for k in range(..)]; all([check(s) for s in sources]) -/
theorem tail_B (hta : ∀ R : List V → Hp → Prop, R [.int n] H → TA [some (V.ref a), none, none, none] H R) (hn : n ≤ 64 ∧ 0 ≤ n)
    (hS : ∀ (k : Int) H' Q' E, Same H H' → 0 ≤ k → k < n → (∀ p H2, H' p = none → Same H' H2 → Spring H2 p → Q' (.ref p) H2) → spS [.ref a, .int k] H' Q' E)
    (hR : ∀ p H' Q' E, Spring H' p → (∀ H2, Kp p H' H2 → Q' (.bl true) H2) → spR [.ref p] H' Q' E) (q : ∀ H', Q (.bl true) H') :
    tSeq (tAsg (tLc (iRng1 TA) (gName 2) tYes (tCall spS [] E0 (tCons (tVar 0) (tCons (tVar 2) tNil))) [2]) (gName 1))
      (tRet (tCB rAllH (tCons (tLc (iList K (tVar 1)) (gName 3) tYes (tCall spR [] E0 (tCons (tVar 3) tNil)) [3]) tNil)))
      { nx := fun x H' => Q V.non H', rt := Q } [some (V.ref a), none, none, none] H := by
  refine z_seq ?_
  refine lc_rng (n := n) hta (by omega) (fun D i H' => ∃ ps : List Addr, ps.length = i ∧ (∀ p ∈ ps, Spring H' p) ∧ H' D = some (.lst (ps.map V.ref)) ∧ Same H H') (fun D hD => ⟨[], rfl, fun _ h => absurd h List.not_mem_nil, upd_same, same_new hD⟩) (fun D hD i H' hi hP => ?_) fun D H' hD hP => ?_
  · obtain ⟨ps, hl, hsp, hDl, hs⟩ := hP
    refine ⟨rfl, ?_⟩
    simp only [tYes, if_true]
    refine ⟨_, rfl, _, rfl, hS i H' _ _ hs (by omega) hi fun p H2 hp s2 sp => ?_⟩
    have hD2 := s2 _ _ hDl
    refine ⟨_, hD2, by rw [List.length_map, sizeLine_eq]; omega, ps ++ [p], by rw [List.length_append, hl]; rfl, fun x hx => ?_, by rw [upd_same, List.map_append]; rfl, fun b o e => ?_⟩
    · have far : ∀ y, Spring H2 y → Spring (upd H2 D (.lst (ps.map V.ref ++ [V.ref p]))) y := by
        rintro y ⟨u, v, w, e⟩
        have ne : y ≠ D := by
          rintro rfl
          rw [hD2] at e
          have e2 := HO.lst.inj (Option.some.inj e)
          cases ps with
          | nil => cases e2
          | cons z r => cases e2
        exact ⟨u, v, w, by rw [upd_ne ne]; exact e⟩
      rcases List.mem_append.mp hx with hx | hx
      · exact far _ ((hsp x hx).same s2)
      · rw [List.mem_singleton.mp hx]
        exact far _ sp
    · rw [upd_ne (ne_of_none e hD)]
      exact s2 _ _ (hs _ _ e)
  · obtain ⟨ps, hl, hsp, hDl, hs⟩ := hP
    show tLc (iList K (tVar 1)) (gName 3) tYes (tCall spR [] E0 (tCons (tVar 3) tNil)) [3] [some (V.ref a), some (V.ref D), none, none] H' fun x H1 => rAllH [x] H1 Q
    refine lc_lst (a := D) (xs := ps.map V.ref) (fun R h => ⟨_, rfl, h⟩) (fun L i H2 => (∀ p ∈ ps, Spring H2 p) ∧ H2 D = some (.lst (ps.map V.ref)) ∧ H2 L = some (.lst (List.replicate i (V.bl true)))) (SqL.of hDl) (fun L hL => ?_) (fun L hL i H2 hP => SqL.of hP.2.1) (fun L hL i x H2 hx hP => ?_) fun L H2 hL hP => ?_
    · have s := same_new (o := .lst []) hL
      exact ⟨fun p hp => (hsp p hp).same s, s _ _ hDl, upd_same⟩
    · obtain ⟨h1, h2, h3⟩ := hP
      obtain ⟨p, hp, rfl⟩ := List.mem_map.mp (List.mem_of_getElem? hx)
      refine ⟨rfl, ?_⟩
      simp only [tYes, if_true]
      refine ⟨_, rfl, hR p H2 _ _ (h1 p hp) fun H3 kp => ?_⟩
      have hi : i < ps.length := by
        have := (List.getElem?_eq_some_iff.mp hx).1
        rw [List.length_map] at this
        exact this
      have nD : D ≠ p := by
        rintro rfl
        obtain ⟨u, v, w, e⟩ := h1 _ hp
        rw [h2] at e
        have e2 := HO.lst.inj (Option.some.inj e)
        cases ps with
        | nil => cases e2
        | cons z r => cases e2
      have nL : ∀ y, Spring H2 y → L ≠ y := by
        rintro y ⟨u, v, w, e⟩ rfl
        rw [h3] at e
        have e2 := HO.lst.inj (Option.some.inj e)
        cases i with
        | zero => cases e2
        | succ m =>
          rw [List.replicate_succ] at e2
          cases (List.cons.inj e2).1
      have e3 := kp.keep L _ (nL p (h1 p hp)) h3
      refine ⟨_, e3, by rw [List.length_replicate, sizeLine_eq]; omega, fun y hy => ?_, ?_, ?_⟩
      · have sy : Spring H3 y := by
          by_cases c : y = p
          · rw [c]
            exact kp.sp
          · obtain ⟨u, v, w, e⟩ := h1 y hy
            exact ⟨u, v, w, kp.keep _ _ c e⟩
        obtain ⟨u, v, w, e⟩ := sy
        exact ⟨u, v, w, by rw [upd_ne (Ne.symm (nL y (h1 y hy)))]; exact e⟩
      · have nDL : D ≠ L := by
          rintro rfl
          rw [hDl] at hL
          cases hL
        rw [upd_ne nDL]
        exact kp.keep _ _ nD h2
      · rw [upd_same, List.replicate_succ']
    · obtain ⟨_, _, h3⟩ := hP
      refine ⟨L, List.replicate (ps.map V.ref).length true, rfl, ?_, ?_⟩
      · rw [h3, List.map_replicate]
      · rw [all_rep]
        exact q H2
end
end Z

/-! sorted() of a tuple of ints; of a list of pairs; list(range(..)). -/
namespace Z
open PySem PySem.Spec PyProof.Rows L2
section
variable {prog : Program} {w : World} {A : Around} {E : Value → Shared → Prop} {s : Shared}
open PySem.Builtin
theorem collect_tup {l : Addr} {vs : List Value} {Q : List Value → Shared → Prop} (hl : s.heap.IsTuple l vs.toArray)
    (h : Q vs { s with heap := (s.heap.push (seqObj "list" #[] 0)).update s.heap.objs.size (Obj.mapSeq (· ++ vs.toArray)) }) (hsz : vs.length ≤ sizeLine := by size_fits) :
    wpAny (model prog w) A (collect (.ref l)) Q E s := by
  obtain ⟨o, ho, hc, n, hd⟩ := id hl
  unfold collect
  refine wpAny_bind (wpAny_runValue (codeAny_builtin entry_proto_collect' ?_))
  show wpAny _ _ (do again (.builtin "list.__iadd__" ⟨[← newList [], .ref l], []⟩)) _ _ s
  refine wpAny_bind (wpAny_newList (wpAny_pure ⟨Code.quiet_builtin _ (by decide +kernel), codeAny_builtin entry_list_iadd' ?_⟩))
  show wpAny _ _ (Builtin.List.listExtendWith (.ref s.heap.objs.size) (.ref l) (.ref s.heap.objs.size)) _ _ { s with heap := s.heap.push (seqObj "list" #[] 0) }
  unfold Builtin.List.listExtendWith
  have ho' : (s.heap.push (seqObj "list" #[] 0)).get? l = some o := Heap.get?_push_of_some _ ho
  refine wpAny_bind (wpAny_typeOf (T := "tuple") ⟨o, ho', hc⟩ ?_)
  have ht : (Value.type "tuple" == Value.type "tuple") = true := by rfl
  rw [if_pos (by rw [ht]; simp)]
  refine wpAny_bind (listItems_at ho' hd ?_)
  refine wpAny_bind (listItems_at (xs := #[]) (n := 0) (Heap.get?_push_size _ rfl) rfl ?_)
  rw [if_neg (by simp)]
  refine wpAny_bind (listUpdate_at (xs := #[]) (n := 0) (Heap.get?_push_size _ rfl) rfl ?_ (Nat.zero_le _) (by show (#[] ++ vs.toArray).size ≤ sizeLine + 1; simp only [Array.size_append, List.size_toArray, List.length_nil]; omega))
  refine wpAny_pure ?_
  show wpAny (model prog w) A (do
      let o ← load s.heap.objs.size
      match o.data with
      | .seq xs _ => pure xs.toList
      | _ => unsupported "internal:collect") Q E { s with heap := (s.heap.push (seqObj "list" #[] 0)).update s.heap.objs.size (Obj.mapSeq (· ++ vs.toArray)) }
  refine wpAny_bind (wpAny_load (get?_update_seq (Heap.get?_push_size _ rfl) _) ?_)
  show wpAny _ _ (pure ((#[] : Array Value) ++ vs.toArray).toList) Q E _
  rw [show ((#[] : Array Value) ++ vs.toArray).toList = vs by simp]
  exact wpAny_pure h
open SrtO in
theorem sorted_ordT {l : Addr} {vs : List Value} {ltv : Value → Value → Bool} {Q : Value → Shared → Prop} (O : Swo ltv) (hl : s.heap.IsTuple l vs.toArray) (hz : vs.length ≤ sizeLine)
    (hS : 2 ≤ vs.length → ∀ (h₁ : Heap) (a : Addr), h₁.get? a = some (seqObj "list" vs.toArray 0) → (∀ b o, s.heap.get? b = some o → b ≠ a ∧ h₁.get? b = some o) → SortableO prog w A.in1.in1 { s with heap := h₁ } a vs ltv)
    (h : ∀ out : List Value, Srtd ltv out → Stb ltv out vs → Q (.ref (s.heap.objs.size + 1)) { s with heap := sortedAll s.heap vs out.toArray }) :
    wpAny (model prog w) A (call (.builtin "sorted") [.ref l]) Q E s := by
  refine Calls.call_function_entry kind_sorted plain_sorted entry_sorted (args_sorted1 _) ?_
  unfold Builtin.«sorted»
  refine wpAny_bind (m := checkCount "sorted" 1 1 _) (wpAny_pure ?_)
  refine wpAny_bind (collect_tup hl ?_ hz)
  refine wpAny_bind (wpAny_newList ?_ hz)
  have hsz : ((s.heap.push (seqObj "list" #[] 0)).update s.heap.objs.size (Obj.mapSeq (· ++ vs.toArray))).objs.size = s.heap.objs.size + 1 := by
    rw [Heap.size_update, size_push']
  have hoL : (((s.heap.push (seqObj "list" #[] 0)).update s.heap.objs.size (Obj.mapSeq (· ++ vs.toArray))).push (seqObj "list" vs.toArray 0)).get? (s.heap.objs.size + 1) = some (seqObj "list" vs.toArray 0) := by
    rw [← hsz]; exact Heap.get?_push_size _ rfl
  have keep : ∀ b o, s.heap.get? b = some o → b ≠ s.heap.objs.size + 1 ∧ (((s.heap.push (seqObj "list" #[] 0)).update s.heap.objs.size (Obj.mapSeq (· ++ vs.toArray))).push (seqObj "list" vs.toArray 0)).get? b = some o := fun b o q => by
    have hlt : b < s.heap.objs.size := Heap.lt_size q
    refine ⟨Nat.ne_of_lt (Nat.lt_succ_of_lt hlt), Heap.get?_push_of_some _ ?_⟩
    rw [Heap.get?_update_ne _ _ _ _ (Nat.ne_of_lt hlt)]
    exact Heap.get?_push_of_some _ q
  show wpAny _ _ _ _ _ { s with heap := ((s.heap.push (seqObj "list" #[] 0)).update s.heap.objs.size (Obj.mapSeq (· ++ vs.toArray))).push (seqObj "list" vs.toArray 0) }
  rw [hsz]
  refine wpAny_bind (wpAny_holding (wpAny_call_entry slot_list_sort ⟨_, hoL, rfl⟩ entry_list_sort (list_sort_ord O hoL hz (fun h2 => hS h2 _ _ hoL keep) fun out hs hb => ⟨_, rfl, ?_⟩) (args_list_sort _)))
  exact wpAny_pure ⟨_, rfl, h out hs hb⟩
end
section
variable {X : Cx}
/-- sorted(xs), xs a tuple of ints -/
def rSortTup : List V → Hp → VK → Prop := fun vs H Q => ∃ (a : Addr) (ns : List Int), vs = [V.ref a] ∧ H a = some (.tup (ns.map V.int)) ∧
  ∀ p : Addr, H p = none → Q (.ref p) (upd H p (.lst (ns.mergeSort.map V.int)))
theorem cr_sortedTup : CallR X (.builtin "sorted") rSortTup := by
  intro pins s σ H vs us Q I r h
  obtain ⟨a, ns, rfl, hs, q⟩ := h
  obtain ⟨its, rv, hl, hz⟩ := I.tuple (SqT.of hs)
  rw [Vals.ref1 r]
  have hi := rv.ints
  refine sorted_ordT SrtO.swo_int hl (by rw [← rv.length]; exact hz) (fun h2 h₁ a' _ _ => SrtO.ints_sortable hi h2) fun out h1 h2 => ?_
  obtain ⟨k1, k2, k3⟩ := SrtO.ints_out hi h1 h2
  obtain ⟨ep, he'⟩ := PyProof.Rows.sortedAll_at s.heap its out.toArray
  have hlen : ((out.map SrtO.iv).map V.int).length ≤ sizeLine := by
    rw [List.length_map, k2.length_eq]
    rw [List.length_map] at hz
    exact hz
  refine ⟨.ref _, upd H (s.heap.objs.size + 1) (.lst ((out.map SrtO.iv).map V.int)), I.laid (t' := s.toks) (fun _ _ => PyProof.Rows.sortedAll_old) (Nat.le_succ _) ⟨hlen, out, ep, vals_of_ints k1, he'⟩, rfl, ?_⟩
  rw [perm_sort k2 k3]
  exact q _ (I.hok.fresh (Nat.le_succ _))
/-- the pair of ints at t -/
def PairAt (H : Hp) (t : Addr) (p : Int × Int) : Prop := H t = some (.tup [.int p.1, .int p.2])
def pairOf (H : Hp) : V → Int × Int
  | .ref t => match H t with
    | some (.tup [.int i, .int j]) => (i, j)
    | _ => (0, 0)
  | _ => (0, 0)
theorem pairOf_at {H : Hp} {t : Addr} {p : Int × Int} (h : PairAt H t p) : pairOf H (.ref t) = p := by
  unfold pairOf
  simp only [show H t = some (.tup [.int p.1, .int p.2]) from h]
def Lex (l : List (Int × Int)) : Prop := l.Pairwise fun p q => SrtO.lexB q p = false
theorem lex_eq {l m : List (Int × Int)} (h1 : Lex l) (h2 : Lex m) (p : l.Perm m) : l = m := by
  refine List.Perm.eq_of_pairwise (fun a b _ _ x y => ?_) h1 h2 p
  have x' := SrtO.lexB_no.mp x
  have y' := SrtO.lexB_no.mp y
  obtain ⟨a1, a2⟩ := a
  obtain ⟨b1, b2⟩ := b
  dsimp only at x' y'
  rw [Prod.mk.injEq]
  omega
theorem paired_mem {α β : Type} {F : α → β → Prop} : ∀ {as : List α} {ps : List β}, Paired F as ps → ∀ a ∈ as, ∃ p, p ∈ ps ∧ F a p
  | _, _, .nil, a, h => absurd h List.not_mem_nil
  | _, _, .cons f r, a, h => by
    rcases List.mem_cons.mp h with rfl | h
    · exact ⟨_, List.mem_cons_self, f⟩
    · obtain ⟨p, h1, h2⟩ := paired_mem r a h
      exact ⟨p, List.mem_cons_of_mem _ h1, h2⟩
theorem paired_map {α β : Type} {F : α → β → Prop} (g : α → β) : ∀ {as : List α}, (∀ a ∈ as, F a (g a)) → Paired F as (as.map g)
  | [], _ => .nil
  | a :: r, h => .cons (h a List.mem_cons_self) (paired_map g fun x hx => h x (List.mem_cons_of_mem _ hx))
theorem paired_eq {α β : Type} {F : α → β → Prop} (g : α → β) (hg : ∀ a p, F a p → g a = p) : ∀ {as : List α} {ps : List β}, Paired F as ps → as.map g = ps
  | _, _, .nil => rfl
  | _, _, .cons f r => by rw [List.map_cons, hg _ _ f, paired_eq g hg r]
/-- sorted(xs), xs a list of pairs of ints: the pairs in their order -/
def rSortPr : List V → Hp → VK → Prop := fun vs H Q => ∃ (a : Addr) (as : List Addr) (ps : List (Int × Int)), vs = [V.ref a] ∧ H a = some (.lst (as.map V.ref)) ∧ Paired (PairAt H) as ps ∧
  ∀ (bs : List Addr) (qs : List (Int × Int)) (p : Addr), H p = none → bs.Perm as → qs.Perm ps → Lex qs → Paired (PairAt H) bs qs → Q (.ref p) (upd H p (.lst (bs.map V.ref)))
theorem cr_sortedPr : CallR X (.builtin "sorted") rSortPr := by
  intro pins s σ H vs us Q I r h
  obtain ⟨a, as, ps, e, ha, hp, q⟩ := h
  have hk : ∀ x ∈ as.map V.ref, ∃ t, x = V.ref t ∧ H t = some (.tup [.int (pairOf H x).1, .int (pairOf H x).2]) := by
    intro x hx
    obtain ⟨t, ht, rfl⟩ := List.mem_map.mp hx
    obtain ⟨p, _, f⟩ := paired_mem hp t ht
    refine ⟨t, rfl, ?_⟩
    rw [pairOf_at f]
    exact f
  refine cr_sortedPO pins s σ H vs us Q I r ⟨a, as.map V.ref, pairOf H, e, SqL.of ha, hk, fun ys p hs hb hn => ?_⟩
  have hy : ∀ y ∈ ys, ∃ t, y = V.ref t := fun y hy => by
    obtain ⟨t, e, _⟩ := hk y (hb.perm.mem_iff.mp hy)
    exact ⟨t, e⟩
  obtain ⟨bs, rfl⟩ : ∃ bs : List Addr, ys = bs.map V.ref := by
    clear hs hb
    induction ys with
    | nil => exact ⟨[], rfl⟩
    | cons y l ih =>
      obtain ⟨t, rfl⟩ := hy y List.mem_cons_self
      obtain ⟨bs, rfl⟩ := ih fun z hz => hy z (List.mem_cons_of_mem _ hz)
      exact ⟨t :: bs, rfl⟩
  have hperm : bs.Perm as := by
    have h2 := hb.perm.map (fun v => match v with | .ref t => t | _ => 0)
    rw [List.map_map, List.map_map] at h2
    have e1 : ∀ l : List Addr, l.map ((fun v => match v with | .ref t => t | _ => (0 : Addr)) ∘ V.ref) = l := fun l => by
      induction l with
      | nil => rfl
      | cons x r ih => rw [List.map_cons, ih]; rfl
    rw [e1, e1] at h2
    exact h2
  have hF : ∀ t ∈ bs, PairAt H t (pairOf H (.ref t)) := fun t ht => by
    obtain ⟨p, _, f⟩ := paired_mem hp t (hperm.mem_iff.mp ht)
    rw [pairOf_at f]
    exact f
  have e2 : as.map (fun t => pairOf H (.ref t)) = ps := paired_eq _ (fun t p f => pairOf_at f) hp
  refine q bs (bs.map fun t => pairOf H (.ref t)) p hn hperm ?_ ?_ (paired_map _ hF)
  · rw [← e2]
    exact hperm.map _
  · have h3 := List.pairwise_map.mp hs
    exact List.pairwise_map.mpr h3
end
end Z

/-! Comprehensions whose elements are new objects. -/
namespace Z
open PySem PySem.Spec PyProof.Rows L2
def IsO (H : Hp) (a : Addr) (o : HO) : Prop := H a = some o
theorem paired_mono {α β : Type} {F G : α → β → Prop} (h : ∀ a b, F a b → G a b) : ∀ {as : List α} {bs : List β}, Paired F as bs → Paired G as bs
  | _, _, .nil => .nil
  | _, _, .cons f r => .cons (h _ _ f) (paired_mono h r)
theorem paired_monoM {α β : Type} {F G : α → β → Prop} : ∀ {as : List α} {bs : List β}, (∀ a ∈ as, ∀ b, F a b → G a b) → Paired F as bs → Paired G as bs
  | _, _, _, .nil => .nil
  | _, _, h, .cons f r => .cons (h _ List.mem_cons_self _ f) (paired_monoM (fun a ha => h a (List.mem_cons_of_mem _ ha)) r)
theorem paired_same {α β : Type} {R : Hp → Addr → β → Prop} : True := trivial
theorem paired_len {α β : Type} {F : α → β → Prop} : ∀ {as : List α} {bs : List β}, Paired F as bs → as.length = bs.length
  | _, _, .nil => rfl
  | _, _, .cons _ r => by rw [List.length_cons, List.length_cons, paired_len r]
theorem paired_to {α β γ : Type} {F : α → γ → Prop} {g : β → γ} : ∀ {as : List α} {bs : List β}, Paired F as (bs.map g) → Paired (fun a b => F a (g b)) as bs
  | [], [], _ => .nil
  | [], _ :: _, h => by cases h
  | _ :: _, [], h => by cases h
  | _ :: _, _ :: _, .cons f r => .cons f (paired_to r)
theorem paired_of {α β γ : Type} {F : α → γ → Prop} {g : β → γ} : ∀ {as : List α} {bs : List β}, Paired (fun a b => F a (g b)) as bs → Paired F as (bs.map g)
  | _, _, .nil => .nil
  | _, _, .cons f r => .cons f (paired_of r)
theorem paired_app {α β : Type} {F : α → β → Prop} : ∀ {as as' : List α} {bs bs' : List β}, Paired F as bs → Paired F as' bs' → Paired F (as ++ as') (bs ++ bs')
  | _, _, _, _, .nil, h => h
  | _, _, _, _, .cons f r, h => .cons f (paired_app r h)
theorem paired_get {α β : Type} {F : α → β → Prop} : ∀ {as : List α} {bs : List β}, Paired F as bs → ∀ {i : Nat} {a : α}, as[i]? = some a → ∃ b, bs[i]? = some b ∧ F a b
  | _, _, .nil, i, a, h => by simp at h
  | _, _, .cons f r, 0, a, h => by
    rw [List.getElem?_cons_zero] at h
    cases h
    exact ⟨_, rfl, f⟩
  | _, _, .cons f r, i + 1, a, h => by
    rw [List.getElem?_cons_succ] at h
    rw [List.getElem?_cons_succ]
    exact paired_get r h
theorem paired_get' {α β : Type} {F : α → β → Prop} : ∀ {as : List α} {bs : List β}, Paired F as bs → ∀ {i : Nat} {b : β}, bs[i]? = some b → ∃ a, as[i]? = some a ∧ F a b
  | _, _, .nil, i, a, h => by simp at h
  | _, _, .cons f r, 0, a, h => by
    rw [List.getElem?_cons_zero] at h
    cases h
    exact ⟨_, rfl, f⟩
  | _, _, .cons f r, i + 1, a, h => by
    rw [List.getElem?_cons_succ] at h
    rw [List.getElem?_cons_succ]
    exact paired_get' r h
section
variable {K : PySem.W.Frag} {σ : L2.St}
/-- one turn: a new object, or nothing -/
def TurnO (g : TG) (tt : TT) (te : TE) (vs : List Nat) (σ : L2.St) (H : Hp) (x : V) (o : Option HO) : Prop :=
  ∀ (Y : V → Hp → Prop) (N : Hp → Prop), (∀ y a H', o = some y → H a = none → Same H H' → H' a = some y → Y (.ref a) H') → (∀ H', o = none → Same H H' → N H') →
    g x (wipe σ vs) H fun σ2 H2 => wipe σ2 vs = wipe σ vs ∧ tt σ2 H2 fun b H3 => if b = true then te σ2 H3 Y else N H3
def AccO (H1 : Hp) (f : V → Option HO) (xs : List V) (D : Addr) (i : Nat) (H : Hp) : Prop := Same H1 H ∧ ∃ as : List Addr, H D = some (.lst (as.map V.ref)) ∧ D ∉ as ∧ Paired (IsO H) as ((xs.take i).filterMap f)
theorem accO_turn {H1 : Hp} {f : V → Option HO} {xs : List V} {D : Addr} {i : Nat} {H : Hp} {x : V} {g : TG} {tt : TT} {te : TE} {vs : List Nat} (hD : H1 D = none) (hx : xs.length ≤ 1000) (h : xs[i]? = some x) (p : AccO H1 f xs D i H) (t : TurnO g tt te vs σ H x (f x)) :
    g x (wipe σ vs) H fun σ2 H2 => wipe σ2 vs = wipe σ vs ∧ tt σ2 H2 fun b H3 =>
      if b = true then te σ2 H3 fun y H4 => ∃ acc, H4 D = some (.lst acc) ∧ acc.length < sizeLine ∧ AccO H1 f xs D (i + 1) (upd H4 D (.lst (acc ++ [y]))) else AccO H1 f xs D (i + 1) H3 := by
  obtain ⟨s1, as, eD, nD, pr⟩ := p
  refine t _ _ (fun y a H' e ha s ea => ?_) fun H' e s => ?_
  · refine ⟨_, s _ _ eD, ?_, ?_, as ++ [a], ?_, ?_, ?_⟩
    · rw [List.length_map, paired_len pr]
      refine Nat.lt_of_le_of_lt (List.length_filterMap_le _ _) ?_
      rw [List.length_take]
      exact Nat.lt_of_le_of_lt (Nat.min_le_right _ _) (small1000 hx)
    · intro b o eb
      rw [upd_ne (ne_of_none eb hD)]
      exact s _ _ (s1 _ _ eb)
    · rw [upd_same, List.map_append]
      rfl
    · intro m
      rcases List.mem_append.mp m with m | m
      · exact nD m
      · rw [← List.mem_singleton.mp m, eD] at ha
        cases ha
    · rw [take_fm f h, e]
      refine paired_app (paired_monoM (fun b hb o e2 => ?_) pr) (.cons ?_ .nil)
      · show upd H' D _ b = some o
        have ne : b ≠ D := fun z => nD (by rw [← z]; exact hb)
        rw [upd_ne ne]
        exact s _ _ e2
      · show upd H' D _ a = some y
        rw [upd_ne]
        · exact ea
        · rintro rfl
          rw [eD] at ha
          cases ha
  · refine ⟨s1.trans s, as, s _ _ eD, nD, ?_⟩
    rw [take_fm f h, e, Option.toList_none, List.append_nil]
    exact paired_mono (fun a b e2 => s _ _ e2) pr
theorem accO_start {H1 : Hp} {f : V → Option HO} {xs : List V} {D : Addr} (hD : H1 D = none) : AccO H1 f xs D 0 (upd H1 D (.lst [])) := ⟨same_new hD, [], upd_same, List.not_mem_nil, .nil⟩
theorem lc_rngO {n : Int} {g : TG} {tt : TT} {te : TE} {vs : List Nat} {H1 : Hp} {ta : TA} {Q : VK} (f : V → Option HO) (hta : ∀ R : List V → Hp → Prop, R [.int n] H1 → ta σ H R) (hn : n ≤ 1000 ∧ 0 ≤ n)
    (hs : ∀ i : Nat, (i : Int) < n → ∀ H, Same H1 H → TurnO g tt te vs σ H (.int i) (f (.int i)))
    (hd : ∀ D H' as, H1 D = none → Same H1 H' → H' D = some (.lst (as.map V.ref)) → Paired (IsO H') as ((upto n).filterMap f) → Q (.ref D) H') : tLc (iRng1 ta) g tt te vs σ H Q := by
  refine hta _ ⟨n, rfl, by omega, by omega, fun D hD => ?_⟩
  refine lc_range (lo := 0) (n := n.toNat) (AccO H1 f (upto n) D) (accO_start hD) (fun i H hi p => ?_) fun H p => ?_
  · have e : (0 : Int) + (i : Int) = (i : Int) := by omega
    rw [e]
    exact accO_turn hD (by rw [upto_len]; omega) (upto_get (by omega)) p (hs i (by omega) H p.1)
  · obtain ⟨s, as, e, _, pr⟩ := p
    rw [show n.toNat = (upto n).length from (upto_len n).symm, List.take_length] at pr
    exact hd D H as hD s e pr
theorem lc_lstO {a : Addr} {xs : List V} {g : TG} {tt : TT} {te : TE} {vs : List Nat} {H H1 : Hp} {tl : TE} {Q : VK} (f : V → Option HO) (htl : ∀ R : VK, R (.ref a) H1 → tl σ H R) (ha : SqL K H1 a xs) (hx : xs.length ≤ 1000)
    (hs : ∀ x ∈ xs, ∀ H, Same H1 H → TurnO g tt te vs σ H x (f x))
    (hd : ∀ D H' as, H1 D = none → Same H1 H' → H' D = some (.lst (as.map V.ref)) → Paired (IsO H') as (xs.filterMap f) → Q (.ref D) H') : tLc (iList K tl) g tt te vs σ H Q := by
  refine htl _ ⟨a, rfl, ⟨xs, ha⟩, fun D hD => ?_⟩
  refine lc_list (K := K) (a := a) (xs := xs) (AccO H1 f xs D) (accO_start hD) (fun i H _ p => p.1.seq ha) (fun i x H h p => accO_turn hD hx h p (hs x (List.mem_of_getElem? h) H p.1)) fun H p => ?_
  obtain ⟨s, as, e, _, pr⟩ := p
  rw [List.take_length] at pr
  exact hd D H as hD s e pr
theorem lc_tupO {a : Addr} {xs : List V} {g : TG} {tt : TT} {te : TE} {vs : List Nat} {H H1 : Hp} {tl : TE} {Q : VK} (f : V → Option HO) (htl : ∀ R : VK, R (.ref a) H1 → tl σ H R) (ha : SqT K H1 a xs) (hx : xs.length ≤ 1000)
    (hs : ∀ x ∈ xs, ∀ H, Same H1 H → TurnO g tt te vs σ H x (f x))
    (hd : ∀ D H' as, H1 D = none → Same H1 H' → H' D = some (.lst (as.map V.ref)) → Paired (IsO H') as (xs.filterMap f) → Q (.ref D) H') : tLc (iTup K tl) g tt te vs σ H Q := by
  refine htl _ ⟨a, rfl, ⟨xs, ha⟩, fun D hD => ?_⟩
  refine lc_tup (K := K) (a := a) (xs := xs) (AccO H1 f xs D) (accO_start hD) (fun i H _ p => sq_same p.1 ha) (fun i x H h p => accO_turn hD hx h p (hs x (List.mem_of_getElem? h) H p.1)) fun H p => ?_
  obtain ⟨s, as, e, _, pr⟩ := p
  rw [List.take_length] at pr
  exact hd D H as hD s e pr
/-- two bounds -/
def fromTo (a b : Int) : List V := (List.range (b - a).toNat).map fun (i : Nat) => V.int (a + i)
theorem fromTo_len (a b : Int) : (fromTo a b).length = (b - a).toNat := by
  unfold fromTo
  rw [List.length_map, List.length_range]
theorem fromTo_get {a b : Int} {i : Nat} (h : (i : Int) < b - a) : (fromTo a b)[i]? = some (.int (a + i)) := by
  unfold fromTo
  rw [List.getElem?_map, List.getElem?_range (by omega)]
  rfl
theorem lc_rng2O {lo hi : Int} {g : TG} {tt : TT} {te : TE} {vs : List Nat} {H1 : Hp} {ta : TA} {Q : VK} (f : V → Option HO) (hta : ∀ R : List V → Hp → Prop, R [.int lo, .int hi] H1 → ta σ H R) (hn : 0 ≤ lo ∧ lo ≤ 1000 ∧ hi ≤ 1000 ∧ 0 ≤ hi)
    (hs : ∀ i : Nat, (i : Int) < hi - lo → ∀ H, Same H1 H → TurnO g tt te vs σ H (.int (lo + i)) (f (.int (lo + i))))
    (hd : ∀ D H' as, H1 D = none → Same H1 H' → H' D = some (.lst (as.map V.ref)) → Paired (IsO H') as ((fromTo lo hi).filterMap f) → Q (.ref D) H') : tLc (iRng2 ta) g tt te vs σ H Q := by
  refine hta _ ⟨lo, hi, rfl, by omega, fun D hD => ?_⟩
  refine lc_range (lo := lo) (n := (hi - lo).toNat) (AccO H1 f (fromTo lo hi) D) (accO_start hD) (fun i H hi p => ?_) fun H p => ?_
  · exact accO_turn hD (by rw [fromTo_len]; omega) (fromTo_get (by omega)) p (hs i (by omega) H p.1)
  · obtain ⟨s, as, e, _, pr⟩ := p
    rw [show (hi - lo).toNat = (fromTo lo hi).length from (fromTo_len lo hi).symm, List.take_length] at pr
    exact hd D H as hD s e pr
theorem for_rng2 {lo hi : Int} {g : TG} {tb : TS} {D : Ends} {H1 : Hp} {ta : TA} (hta : ∀ R : List V → Hp → Prop, R [.int lo, .int hi] H1 → ta σ H R) (hn : 0 ≤ lo ∧ lo < 2 ^ 62 ∧ hi < 2 ^ 62 ∧ 0 ≤ hi) (Pv : Nat → L2.St → Hp → Prop) (h0 : Pv 0 σ H1)
    (hs : ∀ (i : Nat) σ H, (i : Int) < hi - lo → Pv i σ H → g (.int (lo + i)) σ H fun σ2 H2 => tb { D with nx := Pv (i + 1), ct := Pv (i + 1), bk := D.nx } σ2 H2) (hd : ∀ σ H, Pv (hi - lo).toNat σ H → D.nx σ H) : tFor (iRng2 ta) g tb D σ H := by
  refine hta _ ⟨lo, hi, rfl, by omega, ?_⟩
  exact for_range (lo := lo) (n := (hi - lo).toNat) Pv h0 (fun i σ H hi p => hs i σ H (by omega) p) hd
/-- for x in a tuple that stands and stays -/
theorem for_tup {σ : L2.St} {H : Hp} {g : TG} {tb : TS} {D : Ends} {tl : TE} {a : Addr} {xs : List V} (htl : ∀ R : VK, R (.ref a) H → tl σ H R) (Pv : Nat → L2.St → Hp → Prop) (h0 : Pv 0 σ H)
    (hst : ∀ i σ' H', Pv i σ' H' → SqT K H' a xs)
    (hs : ∀ i x σ H', xs[i]? = some x → Pv i σ H' → ∀ N : L2.St → Hp → Prop, (∀ σ' H2, Pv (i + 1) σ' H2 → N σ' H2) → g x σ H' fun σ2 H2 => tb { D with nx := N, ct := N, bk := D.nx } σ2 H2)
    (hd : ∀ σ' H', Pv xs.length σ' H' → D.nx σ' H') : tFor (iTup K tl) g tb D σ H := by
  refine htl _ ⟨a, rfl, ⟨_, hst 0 σ H h0⟩, ?_⟩
  exact L2.for_tup (K := K) (a := a) (xs := xs) Pv h0 (fun i σ H2 _ p => hst i σ H2 p) (fun i x σ H2 hx p => hs i x σ H2 hx p _ fun σ' H3 h => h) hd
end
theorem atI_int {α : Type} {xs : List α} {i : Int} {v : α} (h0 : 0 ≤ i) (h : xs[i.toNat]? = some v) : atI xs i = some v := by
  have e : i = ((i.toNat : Nat) : Int) := by omega
  rw [e]
  exact atI_nat h
theorem atI_end {α : Type} {xs : List α} {v : α} (h : xs[xs.length - 1]? = some v) : atI xs (-1) = some v := by
  have hl := (List.getElem?_eq_some_iff.mp h).1
  have e : ixN xs.length (-1) = some (xs.length - 1) := by
    unfold ixN
    rw [if_neg (by decide), if_pos (by omega)]
    congr 1
    omega
  unfold atI
  rw [e]
  exact h
theorem atI_last {α : Type} (xs : List α) (v : α) : atI (xs ++ [v]) (-1) = some v := atI_end (by
  rw [List.length_append, List.length_singleton, Nat.add_sub_cancel, List.getElem?_append_right (Nat.le_refl _), Nat.sub_self]
  rfl)
/-- what is walked is reckoned first -/
def tV (v : V) : TE := fun _ H Q => Q v H
theorem lc_bindL {K : PySem.W.Frag} {tl : TE} {g : TG} {tt : TT} {te : TE} {vs : List Nat} {σ : L2.St} {H : Hp} {Q : VK} (h : tl σ H fun v H1 => tLc (iList K (tV v)) g tt te vs σ H1 Q) : tLc (iList K tl) g tt te vs σ H Q := h
theorem lc_bindT {K : PySem.W.Frag} {tl : TE} {g : TG} {tt : TT} {te : TE} {vs : List Nat} {σ : L2.St} {H : Hp} {Q : VK} (h : tl σ H fun v H1 => tLc (iTup K (tV v)) g tt te vs σ H1 Q) : tLc (iTup K tl) g tt te vs σ H Q := h
theorem for_bindL {K : PySem.W.Frag} {tl : TE} {g : TG} {tb : TS} {D : Ends} {σ : L2.St} {H : Hp} (h : tl σ H fun v H1 => tFor (iList K (tV v)) g tb D σ H1) : tFor (iList K tl) g tb D σ H := h
theorem for_bindT {K : PySem.W.Frag} {tl : TE} {g : TG} {tb : TS} {D : Ends} {σ : L2.St} {H : Hp} (h : tl σ H fun v H1 => tFor (iTup K (tV v)) g tb D σ H1) : tFor (iTup K tl) g tb D σ H := h
/-- a tuple of a list's items -/
def tupLike (H : Hp) : V → Option HO
  | .ref t => match H t with
    | some (.lst xs) => some (.tup xs)
    | _ => none
  | _ => none
theorem tupLike_at {H : Hp} {t : Addr} {xs : List V} (h : H t = some (.lst xs)) : tupLike H (.ref t) = some (.tup xs) := by
  simp only [tupLike, h]
def TupAt (H : Hp) (a : Addr) (l : List Int) : Prop := H a = some (.tup (l.map V.int))
def LstAt (H : Hp) (a : Addr) (l : List Int) : Prop := H a = some (.lst (l.map V.int))
def tupO (l : List Int) : HO := .tup (l.map V.int)
def lstO (l : List Int) : HO := .lst (l.map V.int)
def pairO (p : Int × Int) : HO := .tup [.int p.1, .int p.2]
def intO (f : Int → HO) : V → Option HO
  | .int i => some (f i)
  | _ => none
theorem fm_intO (f : Int → HO) : ∀ l : List Int, (l.map V.int).filterMap (intO f) = l.map f
  | [] => rfl
  | x :: r => by
    rw [List.map_cons, List.filterMap_cons, fm_intO f r]
    rfl
theorem tups_of {H : Hp} {as : List Addr} {ls : List (List Int)} (p : Paired (IsO H) as (ls.map tupO)) : Paired (TupAt H) as ls := paired_to (F := IsO H) (g := tupO) p
theorem lsts_of {H : Hp} {as : List Addr} {ls : List (List Int)} (p : Paired (IsO H) as (ls.map lstO)) : Paired (LstAt H) as ls := paired_to (F := IsO H) (g := lstO) p
theorem prs_of {H : Hp} {as : List Addr} {ls : List (Int × Int)} (p : Paired (IsO H) as (ls.map pairO)) : Paired (PairAt H) as ls := paired_to (F := IsO H) (g := pairO) p
theorem tups_same {H H' : Hp} {as : List Addr} {ls : List (List Int)} (s : Same H H') (p : Paired (TupAt H) as ls) : Paired (TupAt H') as ls := paired_mono (fun a b e => s _ _ e) p
theorem lsts_same {H H' : Hp} {as : List Addr} {ls : List (List Int)} (s : Same H H') (p : Paired (LstAt H) as ls) : Paired (LstAt H') as ls := paired_mono (fun a b e => s _ _ e) p
theorem prs_same {H H' : Hp} {as : List Addr} {ls : List (Int × Int)} (s : Same H H') (p : Paired (PairAt H) as ls) : Paired (PairAt H') as ls := paired_mono (fun a b e => s _ _ e) p
theorem sort_perm {a b : List Int} (h : a.Perm b) : a.mergeSort = b.mergeSort := by
  have h2 : (a.mergeSort (· ≤ ·)).Pairwise (· ≤ ·) := by
    have h := List.pairwise_mergeSort (le := fun x y : Int => decide (x ≤ y)) (fun x y z h1 h2 => by simp only [decide_eq_true_eq] at *; omega) (fun x y => by simp only [Bool.or_eq_true, decide_eq_true_eq]; omega) a
    exact h.imp fun h => of_decide_eq_true h
  exact perm_sort ((List.mergeSort_perm a _).trans h) h2
/-- the others of the pairs with x -/
def otherF (H : Hp) (x : Int) (v : V) : Option V := if x = (pairOf H v).1 ∨ x = (pairOf H v).2 then some (.int ((pairOf H v).1 + (pairOf H v).2 - x)) else none
theorem fm_other {H : Hp} {x : Int} : ∀ {as : List Addr} {qs : List (Int × Int)}, Paired (PairAt H) as qs → (as.map V.ref).filterMap (otherF H x) = (qs.filterMap fun q => if x = q.1 ∨ x = q.2 then some (q.1 + q.2 - x) else none).map V.int
  | _, _, .nil => rfl
  | _, _, .cons (a := a) (b := b) f r => by
    rw [List.map_cons, List.filterMap_cons, List.filterMap_cons, fm_other r]
    unfold otherF
    rw [pairOf_at f]
    by_cases c : x = b.1 ∨ x = b.2
    · rw [if_pos c, if_pos c]
      rfl
    · rw [if_neg c, if_neg c]
theorem tups_kp {p : Addr} {H H' : Hp} {as : List Addr} {ls : List (List Int)} (k : Kp p H H') (sp : Spring H p) (h : Paired (TupAt H) as ls) : Paired (TupAt H') as ls := paired_mono (fun a b e => by
  refine k.keep a _ ?_ e
  rintro rfl
  obtain ⟨x, y, z, e2⟩ := sp
  rw [show H a = _ from e] at e2
  cases e2) h
theorem tup_kp {p a : Addr} {H H' : Hp} {xs : List V} (k : Kp p H H') (sp : Spring H p) (e : H a = some (.tup xs)) : H' a = some (.tup xs) := by
  refine k.keep a _ ?_ e
  rintro rfl
  obtain ⟨x, y, z, e2⟩ := sp
  rw [e] at e2
  cases e2
theorem fm_tupLike {H : Hp} : ∀ {as : List Addr} {ls : List (List Int)}, Paired (LstAt H) as ls → (as.map V.ref).filterMap (tupLike H) = ls.map tupO
  | _, _, .nil => rfl
  | _, _, .cons f r => by
    rw [List.map_cons, List.filterMap_cons, tupLike_at f, fm_tupLike r]
    rfl
/-- a change of a list leaves the tuples -/
theorem prs_upd {H : Hp} {D : Addr} {xs : List V} {o : HO} {as : List Addr} {ls : List (Int × Int)} (hD : H D = some (.lst xs)) (p : Paired (PairAt H) as ls) : Paired (PairAt (upd H D o)) as ls := paired_mono (fun a b e => by
  unfold PairAt at *
  rw [upd_ne]
  · exact e
  · rintro rfl
    rw [hD] at e
    cases e) p
theorem tups_upd {H : Hp} {D : Addr} {xs : List V} {o : HO} {as : List Addr} {ls : List (List Int)} (hD : H D = some (.lst xs)) (p : Paired (TupAt H) as ls) : Paired (TupAt (upd H D o)) as ls := paired_mono (fun a b e => by
  unfold TupAt at *
  rw [upd_ne]
  · exact e
  · rintro rfl
    rw [hD] at e
    cases e) p
end Z

/-! Data compared and told: tuples of tuples, lists of pairs, lists of parties. -/
namespace Z
open PySem PySem.Spec PyProof.Rows L2
theorem can_tups : ∀ ls : List (List Int), PyData.canLayAll0 (tupsD ls) = true
  | [] => rfl
  | l :: r => by
    simp only [tupsD, List.map_cons, PyData.canLayAll0, PyData.canLay0, Bool.and_eq_true]
    exact ⟨can_ints l, can_tups r⟩
theorem shaped_ltups (ls : List (List Int)) : SeqAt.shaped (.list (tupsD ls)) = true := by
  unfold SeqAt.shaped
  rw [Bool.and_eq_true]
  refine ⟨can_tups ls, decide_eq_true ?_⟩
  have h := depth_tups ls
  simp only [PyData.depth]
  omega
theorem shaped_ttups (ls : List (List Int)) : SeqAt.shaped (.tuple (tupsD ls)) = true := by
  unfold SeqAt.shaped
  rw [Bool.and_eq_true]
  refine ⟨can_tups ls, decide_eq_true ?_⟩
  have h := depth_tups ls
  simp only [PyData.depth]
  omega
def twoL (p : Int × Int) : List Int := [p.1, p.2]
theorem prs_tups {H : Hp} {as : List Addr} {ps : List (Int × Int)} (h : Paired (PairAt H) as ps) : Paired (TupAt H) as (ps.map twoL) := paired_of (F := TupAt H) (g := twoL) (paired_mono (fun a b e => e) h)
theorem eq_lprs {K : PySem.W.Frag} {H : Hp} {a b : Addr} {as bs : List Addr} {ps : List (Int × Int)} {Q : VK} (ha : H a = some (.lst (as.map V.ref))) (pa : Paired (PairAt H) as ps) (hb : H b = some (.lst (bs.map V.ref))) (pb : Paired (PairAt H) bs ps) (q : Q (.bl true) H) : rEqD K (.ref a) (.ref b) H Q := by
  refine ⟨.list (tupsD (ps.map twoL)), .list (tupsD (ps.map twoL)), .lst (SqL.of ha) (dpAll_tups (prs_tups pa)), .lst (SqL.of hb) (dpAll_tups (prs_tups pb)), shaped_ltups _, shaped_ltups _, ?_⟩
  rw [SeqAt.eqv_refl _ (SeqAt.canLay_of_shaped (shaped_ltups _))]
  exact q
theorem ne_ttups {K : PySem.W.Frag} {H : Hp} {a b : Addr} {as bs : List Addr} {ls : List (List Int)} {Q : VK} (ha : H a = some (.tup (as.map V.ref))) (pa : Paired (TupAt H) as ls) (hb : H b = some (.tup (bs.map V.ref))) (pb : Paired (TupAt H) bs ls) (q : Q (.bl false) H) : rNeD K (.ref a) (.ref b) H Q := by
  refine ⟨.tuple (tupsD ls), .tuple (tupsD ls), .tup (SqT.of ha) (dpAll_tups pa), .tup (SqT.of hb) (dpAll_tups pb), shaped_ttups _, shaped_ttups _, ?_⟩
  rw [SeqAt.eqv_refl _ (SeqAt.canLay_of_shaped (shaped_ttups _))]
  exact q
theorem wd_tupsM {m : Nat} : ∀ {ls : List (List Int)}, (∀ l ∈ ls, l.length ≤ m) → wdAll (tupsD ls) ≤ (1003 * m + 5) * ls.length
  | [], _ => Nat.le_refl _
  | l :: r, h => by
    have h1 := h l (List.mem_cons_self ..)
    have h2 := wd_tupsM fun i hi => h i (List.mem_cons_of_mem _ hi)
    simp only [tupsD, List.map_cons, wdAll, wd, wd_ints, List.length_cons, Nat.mul_add] at h2 ⊢
    have h3 : 1003 * l.length ≤ 1003 * m := Nat.mul_le_mul_left _ h1
    omega
/-- small parties -/
def LowP (m k : Nat) (ls : List (List Int)) : Prop := (∀ l ∈ ls, Low l ∧ l.length ≤ m) ∧ ls.length ≤ k
theorem repr_two {K : PySem.W.Frag} {H : Hp} {c a b : Addr} {as bs : List Addr} {ls : List (List Int)} {Q : VK} {m k : Nat} (hc : H c = some (.lst [.ref a, .ref b])) (ha : H a = some (.tup (as.map V.ref))) (pa : Paired (TupAt H) as ls)
    (hb : H b = some (.tup (bs.map V.ref))) (pb : Paired (TupAt H) bs ls) (low : LowP m k ls) (hmk : (1003 * m + 5) * k ≤ 7000000) (q : Q (.str (PyData.list [.tuple (tupsD ls), .tuple (tupsD ls)]).shown) H) : rRepr K [.ref c] H Q := by
  refine ⟨c, .list [.tuple (tupsD ls), .tuple (tupsD ls)], rfl, .lst (SqL.of hc) (.cons (.tup (SqT.of ha) (dpAll_tups pa)) (.cons (.tup (SqT.of hb) (dpAll_tups pb)) .nil)), ?_, ?_, ?_, q⟩
  · have := shw_tups fun l hl => (low.1 l hl).1
    simp only [Shw, ShwAll]
    exact ⟨this, this, trivial⟩
  · have := depth_tups ls
    simp only [PyData.depth, PyData.depthAll]
    omega
  · have h1 := wd_tupsM fun l hl => (low.1 l hl).2
    have h2 : (1003 * m + 5) * ls.length ≤ (1003 * m + 5) * k := Nat.mul_le_mul_left _ low.2
    simp only [wd, wdAll]
    omega
theorem tyN_tup {H : Hp} {a : Addr} {xs : List V} (h : H a = some (.tup xs)) : tyN H (.ref a) = some "tuple" := by
  simp only [tyN, h]
theorem tyN_lst {H : Hp} {a : Addr} {xs : List V} (h : H a = some (.lst xs)) : tyN H (.ref a) = some "list" := by
  simp only [tyN, h]
theorem kit_tt : kitB "tuple" "tuple" = some true := by decide +kernel
theorem kit_lt : kitB "list" "tuple" = some false := by decide +kernel
theorem kit_ts : kitB "tuple" "str" = some false := by decide +kernel
theorem kit_ti : kitB "tuple" "int" = some false := by decide +kernel
theorem kit_nt : kitB "NoneType" "tuple" = some false := by decide +kernel
theorem kit_it : kitB "int" "tuple" = some false := by decide +kernel
theorem kit_bt : kitB "bool" "tuple" = some false := by decide +kernel
theorem kit_st : kitB "str" "tuple" = some false := by decide +kernel
/-- isinstance(x, tuple) of a tuple -/
theorem isN_tup {H : Hp} {a : Addr} {xs : List V} {Q : VK} (h : H a = some (.tup xs)) (q : Q (.bl true) H) : rIsN [.ref a, .ty "tuple"] H Q := ⟨.ref a, "tuple", rfl, _, tyN_tup h, _, kit_tt, q⟩
end Z

namespace Zig
/-! zigzag: numbers -/
theorem emod3 {a n : Int} (_ : 0 < n) (h1 : -n ≤ a) (h2 : a < 2 * n) : a % n = if a < 0 then a + n else if a < n then a else a - n := by
  split
  · rw [← Int.add_emod_right, Int.emod_eq_of_lt (by omega) (by omega)]
  · split
    · rw [Int.emod_eq_of_lt (by omega) (by omega)]
    · rw [← Int.sub_emod_right, Int.emod_eq_of_lt (by omega) (by omega)]

def nights (rings : Bool) (n : Int) : Int := if rings then (n - 1) / 2 else n / 2
def personIn (size e i : Int) : Int := (e + (if i % 2 = 1 then (i + 1) / 2 else -((i + 1) / 2))) % size
def indexIn (size e p : Int) : Int := if 0 < (p - e) % size ∧ (p - e) % size ≤ size / 2 then 2 * ((p - e) % size) - 1 else 2 * ((size - (p - e) % size) % size)
def personAt (rings : Bool) (n e i : Int) : Int := if rings then (if i = 0 then n - 1 else personIn (n - 1) e (i - 1)) else personIn n e i
def indexOf (rings : Bool) (n e p : Int) : Int := if rings then (if p = n - 1 then 0 else 1 + indexIn (n - 1) e p) else indexIn n e p
def eveningOf (rings : Bool) (n p q : Int) : Int :=
  if (if rings then n - 1 else n) = p ∨ (if rings then n - 1 else n) = q then (if q < p then q else p) % nights rings n else ((p + q) % (if rings then n - 1 else n)) / 2

/-- e, i -> person, with the halves told -/
theorem personIn_even {k e i : Int} (he : 0 ≤ e) (hek : e < k) (hi : 0 ≤ i) (hik : i < 2 * k) (h : i % 2 = 0) : personIn (2 * k) e i = if e < i / 2 then e - i / 2 + 2 * k else e - i / 2 := by
  unfold personIn
  rw [if_neg (by omega), emod3 (by omega) (by omega) (by omega)]
  split <;> split <;> (try split) <;> omega
theorem personIn_odd {k e i : Int} (he : 0 ≤ e) (hek : e < k) (hi : 0 ≤ i) (hik : i < 2 * k) (h : i % 2 = 1) : personIn (2 * k) e i = e + (i + 1) / 2 := by
  unfold personIn
  rw [if_pos h, emod3 (by omega) (by omega) (by omega)]
  rw [if_neg (by omega), if_pos (by omega)]
theorem personIn_bound {k e i : Int} (hk : 0 < k) : 0 ≤ personIn (2 * k) e i ∧ personIn (2 * k) e i < 2 * k := by
  unfold personIn
  exact ⟨Int.emod_nonneg _ (by omega), Int.emod_lt_of_pos _ (by omega)⟩
/-- the index, with the remainder told -/
theorem indexIn_eq {k e p : Int} (he : 0 ≤ e) (hek : e < k) (hp : 0 ≤ p) (hpk : p < 2 * k) : indexIn (2 * k) e p = if e < p ∧ p ≤ e + k then 2 * (p - e) - 1 else if p ≤ e then 2 * (e - p) else 2 * (e + 2 * k - p) := by
  unfold indexIn
  have e1 : (p - e) % (2 * k) = if p - e < 0 then p - e + 2 * k else p - e := by
    rw [emod3 (by omega) (by omega) (by omega)]
    split
    · rfl
    · rw [if_pos (by omega)]
  rw [e1]
  have e2 : (2 * k) / 2 = k := by omega
  rw [e2]
  have e3 : ∀ x : Int, 0 ≤ x → x < 2 * k → (2 * k - x) % (2 * k) = if x = 0 then 0 else 2 * k - x := by
    intro x h1 h2
    rw [emod3 (by omega) (by omega) (by omega), if_neg (by omega)]
    split
    · rw [if_neg (by omega)]
    · rw [if_pos (by omega)]
      omega
  by_cases h : p - e < 0
  · rw [if_pos h, if_neg (show ¬ (0 < p - e + 2 * k ∧ p - e + 2 * k ≤ k) by omega), e3 _ (by omega) (by omega), if_neg (show ¬ (p - e + 2 * k = 0) by omega), if_neg (show ¬ (e < p ∧ p ≤ e + k) by omega), if_pos (show p ≤ e by omega)]
    omega
  · rw [if_neg h]
    by_cases h2 : 0 < p - e ∧ p - e ≤ k
    · rw [if_pos h2, if_pos (show e < p ∧ p ≤ e + k by omega)]
    · rw [if_neg h2, e3 _ (by omega) (by omega), if_neg (show ¬ (e < p ∧ p ≤ e + k) by omega)]
      split <;> split <;> omega
theorem indexIn_bound {k e p : Int} (he : 0 ≤ e) (hek : e < k) (hp : 0 ≤ p) (hpk : p < 2 * k) : 0 ≤ indexIn (2 * k) e p ∧ indexIn (2 * k) e p < 2 * k := by
  rw [indexIn_eq he hek hp hpk]
  split
  · omega
  · split <;> omega
theorem index_person {k e i : Int} (he : 0 ≤ e) (hek : e < k) (hi : 0 ≤ i) (hik : i < 2 * k) : indexIn (2 * k) e (personIn (2 * k) e i) = i := by
  have hb := personIn_bound (k := k) (e := e) (i := i) (by omega)
  rw [indexIn_eq he hek hb.1 hb.2]
  rcases (by omega : i % 2 = 0 ∨ i % 2 = 1) with h | h
  · rw [personIn_even he hek hi hik h]
    split <;> split <;> (try split) <;> omega
  · rw [personIn_odd he hek hi hik h]
    split <;> (try split) <;> omega
theorem person_index {k e p : Int} (he : 0 ≤ e) (hek : e < k) (hp : 0 ≤ p) (hpk : p < 2 * k) : personIn (2 * k) e (indexIn (2 * k) e p) = p := by
  have hb := indexIn_bound he hek hp hpk
  have e1 := indexIn_eq he hek hp hpk
  by_cases h1 : e < p ∧ p ≤ e + k
  · rw [if_pos h1] at e1
    rw [personIn_odd he hek hb.1 hb.2 (by omega)]
    omega
  · rw [if_neg h1] at e1
    split at e1
    · rw [personIn_even he hek hb.1 hb.2 (by omega)]
      split <;> omega
    · rw [personIn_even he hek hb.1 hb.2 (by omega)]
      split <;> omega
/-- neighbours in the round sum up to 2 e or 2 e + 1 -/
theorem person_sum {k e i : Int} (he : 0 ≤ e) (hek : e < k) (hi : 0 ≤ i) (hik : i + 1 < 2 * k) : ((personIn (2 * k) e i + personIn (2 * k) e (i + 1)) % (2 * k)) / 2 = e := by
  have m : ∀ x : Int, 0 ≤ x → x < 4 * k → x % (2 * k) = if x < 2 * k then x else x - 2 * k := by
    intro x h1 h2
    rw [emod3 (by omega) (by omega) (by omega), if_neg (by omega)]
  rcases (by omega : i % 2 = 0 ∨ i % 2 = 1) with h | h
  · rw [personIn_even he hek hi (by omega) h, personIn_odd he hek (by omega) hik (by omega)]
    split
    · rw [m _ (by omega) (by omega)]
      split <;> omega
    · rw [m _ (by omega) (by omega)]
      split <;> omega
  · rw [personIn_odd he hek hi (by omega) h, personIn_even he hek (by omega) hik (by omega)]
    split
    · rw [m _ (by omega) (by omega)]
      split <;> omega
    · rw [m _ (by omega) (by omega)]
      split <;> omega
/-- on its evening each is beside the other -/
theorem beside_sum {k p q : Int} (hp : 0 ≤ p) (hpk : p < 2 * k) (hq : 0 ≤ q) (hqk : q < 2 * k) (hpq : p ≠ q) :
    indexIn (2 * k) (((p + q) % (2 * k)) / 2) q = indexIn (2 * k) (((p + q) % (2 * k)) / 2) p + 1 ∨ indexIn (2 * k) (((p + q) % (2 * k)) / 2) q = indexIn (2 * k) (((p + q) % (2 * k)) / 2) p - 1 := by
  have e1 : (p + q) % (2 * k) = if p + q < 2 * k then p + q else p + q - 2 * k := by
    rw [emod3 (by omega) (by omega) (by omega), if_neg (by omega)]
  rw [e1]
  by_cases h : p + q < 2 * k
  · simp only [if_pos h]
    rw [indexIn_eq (by omega) (by omega) hp hpk, indexIn_eq (by omega) (by omega) hq hqk]
    split <;> split <;> (try split) <;> (try split) <;> omega
  · simp only [if_neg h]
    rw [indexIn_eq (by omega) (by omega) hp hpk, indexIn_eq (by omega) (by omega) hq hqk]
    split <;> split <;> (try split) <;> (try split) <;> omega
/-! both kinds -/
/-- the indexes beside one -/
def spots (r : Bool) (n i : Int) : List Int := if r then [(i - 1) % n, (i + 1) % n] else [i - 1, i + 1].filter fun j => decide (0 ≤ j ∧ j < n)
def SizeIs (r : Bool) (n k : Int) : Prop := 0 < k ∧ ((r = true ∧ n = 2 * k + 1) ∨ (r = false ∧ n = 2 * k))
theorem SizeIs.nights {r : Bool} {n k : Int} (h : SizeIs r n k) : nights r n = k := by
  obtain ⟨h0, ⟨rfl, h⟩ | ⟨rfl, h⟩⟩ := h
  · show (n - 1) / 2 = k
    omega
  · show n / 2 = k
    omega
theorem spots_in {r : Bool} {n k i j : Int} (h : SizeIs r n k) (hi : 0 ≤ i) (hin : i < n) (hj : j ∈ spots r n i) : 0 ≤ j ∧ j < n ∧ ((j = i - 1 ∧ 0 < i) ∨ (j = i + 1 ∧ i + 1 < n) ∨ (r = true ∧ i = 0 ∧ j = n - 1) ∨ (r = true ∧ i = n - 1 ∧ j = 0)) := by
  obtain ⟨h0, ⟨rfl, h⟩ | ⟨rfl, h⟩⟩ := h
  · simp only [spots, if_true, List.mem_cons, List.not_mem_nil, or_false] at hj
    have e1 : (i - 1) % n = if i = 0 then n - 1 else i - 1 := by
      rw [emod3 (by omega) (by omega) (by omega)]
      split <;> split <;> (try split) <;> omega
    have e2 : (i + 1) % n = if i = n - 1 then 0 else i + 1 := by
      rw [emod3 (by omega) (by omega) (by omega)]
      split <;> split <;> (try split) <;> omega
    rw [e1, e2] at hj
    rcases hj with rfl | rfl
    · split
      · exact ⟨by omega, by omega, .inr (.inr (.inl ⟨rfl, by omega, rfl⟩))⟩
      · exact ⟨by omega, by omega, .inl ⟨rfl, by omega⟩⟩
    · split
      · exact ⟨by omega, by omega, .inr (.inr (.inr ⟨rfl, by omega, rfl⟩))⟩
      · exact ⟨by omega, by omega, .inr (.inl ⟨rfl, by omega⟩)⟩
  · simp only [spots, Bool.false_eq_true, if_false, List.mem_filter, List.mem_cons, List.not_mem_nil, or_false, decide_eq_true_eq] at hj
    obtain ⟨rfl | rfl, h1, h2⟩ := hj
    · exact ⟨h1, h2, .inl ⟨rfl, by omega⟩⟩
    · exact ⟨h1, h2, .inr (.inl ⟨rfl, h2⟩)⟩
theorem spots_ne {r : Bool} {n k i j : Int} (h : SizeIs r n k) (hi : 0 ≤ i) (hin : i < n) (hj : j ∈ spots r n i) : j ≠ i := by
  obtain ⟨_, _, h1⟩ := spots_in h hi hin hj
  obtain ⟨h0, ⟨rfl, h⟩ | ⟨rfl, h⟩⟩ := h
  · omega
  · omega
theorem at_bound {r : Bool} {n k e i : Int} (h : SizeIs r n k) (he : 0 ≤ e) (hek : e < k) (hi : 0 ≤ i) (hin : i < n) : 0 ≤ personAt r n e i ∧ personAt r n e i < n := by
  obtain ⟨h0, ⟨rfl, rfl⟩ | ⟨rfl, rfl⟩⟩ := h
  · unfold personAt
    rw [if_pos rfl]
    split
    · omega
    · have := personIn_bound (k := k) (e := e) (i := i - 1) h0
      rw [show 2 * k + 1 - 1 = 2 * k by omega]
      omega
  · exact personIn_bound h0
theorem index_at {r : Bool} {n k e i : Int} (h : SizeIs r n k) (he : 0 ≤ e) (hek : e < k) (hi : 0 ≤ i) (hin : i < n) : indexOf r n e (personAt r n e i) = i := by
  obtain ⟨h0, ⟨rfl, rfl⟩ | ⟨rfl, rfl⟩⟩ := h
  · unfold personAt indexOf
    rw [if_pos rfl, if_pos rfl]
    by_cases c : i = 0
    · rw [if_pos c, if_pos rfl, c]
    · rw [if_neg c, show 2 * k + 1 - 1 = 2 * k by omega]
      have hb := personIn_bound (k := k) (e := e) (i := i - 1) h0
      rw [if_neg (by omega), index_person he hek (by omega) (by omega)]
      omega
  · exact index_person he hek hi hin
theorem index_bound {r : Bool} {n k e p : Int} (h : SizeIs r n k) (he : 0 ≤ e) (hek : e < k) (hp : 0 ≤ p) (hpn : p < n) : 0 ≤ indexOf r n e p ∧ indexOf r n e p < n := by
  obtain ⟨h0, ⟨rfl, rfl⟩ | ⟨rfl, rfl⟩⟩ := h
  · unfold indexOf
    rw [if_pos rfl]
    split
    · omega
    · have := indexIn_bound (k := k) (e := e) (p := p) he hek hp (by omega)
      rw [show 2 * k + 1 - 1 = 2 * k by omega]
      omega
  · exact indexIn_bound he hek hp hpn
theorem at_index {r : Bool} {n k e p : Int} (h : SizeIs r n k) (he : 0 ≤ e) (hek : e < k) (hp : 0 ≤ p) (hpn : p < n) : personAt r n e (indexOf r n e p) = p := by
  obtain ⟨h0, ⟨rfl, rfl⟩ | ⟨rfl, rfl⟩⟩ := h
  · unfold personAt indexOf
    rw [if_pos rfl, if_pos rfl]
    by_cases c : p = 2 * k + 1 - 1
    · rw [if_pos c, if_pos rfl, c]
    · rw [if_neg c]
      have hb := indexIn_bound (k := k) (e := e) (p := p) he hek hp (by omega)
      rw [show 2 * k + 1 - 1 = 2 * k by omega, if_neg (by omega), show 1 + indexIn (2 * k) e p - 1 = indexIn (2 * k) e p by omega, person_index he hek hp (by omega)]
  · exact person_index he hek hp hpn
theorem evening_comm (r : Bool) (n p q : Int) : eveningOf r n p q = eveningOf r n q p := by
  unfold eveningOf
  rw [Int.add_comm q p]
  by_cases c : (if r = true then n - 1 else n) = p ∨ (if r = true then n - 1 else n) = q
  · rw [if_pos c, if_pos (Or.symm c)]
    by_cases d : q < p
    · rw [if_pos d, if_neg (by omega)]
    · rw [if_neg d]
      by_cases d2 : p < q
      · rw [if_pos d2]
      · rw [if_neg d2, show p = q by omega]
  · rw [if_neg c, if_neg (fun z => c (Or.symm z))]
/-- two beside one another in the round have this evening -/
theorem evening_round {r : Bool} {n k p q : Int} (h : SizeIs r n k) (hp : 0 ≤ p) (hpk : p < 2 * k) (hq : 0 ≤ q) (hqk : q < 2 * k) : eveningOf r n p q = ((p + q) % (2 * k)) / 2 := by
  unfold eveningOf
  obtain ⟨h0, ⟨rfl, rfl⟩ | ⟨rfl, rfl⟩⟩ := h
  · simp only [if_true]
    rw [if_neg (by omega), show 2 * k + 1 - 1 = 2 * k by omega]
  · simp only [Bool.false_eq_true, if_false]
    rw [if_neg (by omega)]
theorem evening_door {n k p : Int} (h : SizeIs true n k) (hp : 0 ≤ p) (hpk : p < 2 * k) : eveningOf true n p (n - 1) = p % k := by
  have hn := h.nights
  unfold eveningOf
  simp only [if_true]
  rw [if_pos (.inr trivial), hn]
  obtain ⟨h0, ⟨_, h⟩ | ⟨h, _⟩⟩ := h
  · rw [if_neg (by omega)]
  · cases h
/-- on the evening, one and the one at the next index -/
theorem evening_next {r : Bool} {n k e i : Int} (h : SizeIs r n k) (he : 0 ≤ e) (hek : e < k) (hi : 0 ≤ i) (hin : i + 1 < n) : eveningOf r n (personAt r n e i) (personAt r n e (i + 1)) = e := by
  cases r with
  | true =>
    have h' := h
    obtain ⟨h0, ⟨_, rfl⟩ | ⟨h1, _⟩⟩ := h
    · by_cases c : i = 0
      · subst c
        have e1 : personAt true (2 * k + 1) e 0 = 2 * k + 1 - 1 := by
          unfold personAt
          rw [if_pos rfl, if_pos rfl]
        have e2 : personAt true (2 * k + 1) e (0 + 1) = e := by
          unfold personAt
          rw [if_pos rfl, if_neg (by omega), show 2 * k + 1 - 1 = 2 * k by omega, show (0 : Int) + 1 - 1 = 0 by omega, personIn_even he hek (by omega) (by omega) (by omega), if_neg (by omega)]
          omega
        rw [e1, e2, evening_comm, evening_door h' he (by omega), Int.emod_eq_of_lt he hek]
      · have e1 : ∀ j, 0 < j → personAt true (2 * k + 1) e j = personIn (2 * k) e (j - 1) := by
          intro j hj
          unfold personAt
          rw [if_pos rfl, if_neg (by omega), show 2 * k + 1 - 1 = 2 * k by omega]
        rw [e1 i (by omega), e1 (i + 1) (by omega)]
        have b1 := personIn_bound (k := k) (e := e) (i := i - 1) h0
        have b2 := personIn_bound (k := k) (e := e) (i := i + 1 - 1) h0
        rw [evening_round h' b1.1 b1.2 b2.1 b2.2]
        have := person_sum (k := k) (e := e) (i := i - 1) he hek (by omega) (by omega)
        rw [show i - 1 + 1 = i + 1 - 1 by omega] at this
        exact this
    · cases h1
  | false =>
    have h' := h
    obtain ⟨h0, ⟨h1, _⟩ | ⟨_, rfl⟩⟩ := h
    · cases h1
    · have b1 := personIn_bound (k := k) (e := e) (i := i) h0
      have b2 := personIn_bound (k := k) (e := e) (i := i + 1) h0
      show eveningOf false (2 * k) (personIn (2 * k) e i) (personIn (2 * k) e (i + 1)) = e
      rw [evening_round h' b1.1 b1.2 b2.1 b2.2]
      exact person_sum he hek hi hin
/-- the last one and the first one of a ring -/
theorem evening_close {n k e : Int} (h : SizeIs true n k) (he : 0 ≤ e) (hek : e < k) : eveningOf true n (personAt true n e (n - 1)) (personAt true n e 0) = e := by
  have h' := h
  obtain ⟨h0, ⟨_, rfl⟩ | ⟨h1, _⟩⟩ := h
  · have e1 : personAt true (2 * k + 1) e 0 = 2 * k + 1 - 1 := by
      unfold personAt
      rw [if_pos rfl, if_pos rfl]
    have e2 : personAt true (2 * k + 1) e (2 * k + 1 - 1) = e + k := by
      unfold personAt
      rw [if_pos rfl, if_neg (by omega), show 2 * k + 1 - 1 = 2 * k by omega, personIn_odd he hek (by omega) (by omega) (by omega)]
      omega
    rw [e1, e2, evening_door h' (by omega) (by omega)]
    rw [Int.add_emod_right, Int.emod_eq_of_lt he hek]
  · cases h1
theorem evening_spot {r : Bool} {n k e i j : Int} (h : SizeIs r n k) (he : 0 ≤ e) (hek : e < k) (hi : 0 ≤ i) (hin : i < n) (hj : j ∈ spots r n i) : eveningOf r n (personAt r n e i) (personAt r n e j) = e := by
  obtain ⟨_, _, h1 | h1 | h1 | h1⟩ := spots_in h hi hin hj
  · obtain ⟨rfl, h1⟩ := h1
    rw [evening_comm]
    have := evening_next h he hek (i := i - 1) (by omega) (by omega)
    rw [show i - 1 + 1 = i by omega] at this
    exact this
  · obtain ⟨rfl, h1⟩ := h1
    exact evening_next h he hek hi h1
  · obtain ⟨rfl, rfl, rfl⟩ := h1
    rw [evening_comm]
    exact evening_close h he hek
  · obtain ⟨rfl, rfl, rfl⟩ := h1
    exact evening_close h he hek
theorem spot_of {r : Bool} {n k i j : Int} (h : SizeIs r n k) (hi : 0 ≤ i) (hin : i < n) (hj : 0 ≤ j) (hjn : j < n) (c : j = i + 1 ∨ j = i - 1 ∨ (r = true ∧ i = 0 ∧ j = n - 1) ∨ (r = true ∧ i = n - 1 ∧ j = 0)) : j ∈ spots r n i := by
  obtain ⟨h0, ⟨rfl, h⟩ | ⟨rfl, h⟩⟩ := h
  · simp only [spots, if_true, List.mem_cons, List.not_mem_nil, or_false]
    have e1 : (i - 1) % n = if i = 0 then n - 1 else i - 1 := by
      rw [emod3 (by omega) (by omega) (by omega)]
      split <;> split <;> (try split) <;> omega
    have e2 : (i + 1) % n = if i = n - 1 then 0 else i + 1 := by
      rw [emod3 (by omega) (by omega) (by omega)]
      split <;> split <;> (try split) <;> omega
    rw [e1, e2]
    rcases c with c | c | c | c
    · right
      rw [if_neg (by omega)]
      exact c
    · left
      rw [if_neg (by omega)]
      exact c
    · left
      rw [if_pos c.2.1]
      exact c.2.2
    · right
      rw [if_pos c.2.1]
      exact c.2.2
  · simp only [spots, Bool.false_eq_true, if_false, List.mem_filter, List.mem_cons, List.not_mem_nil, or_false, decide_eq_true_eq]
    rcases c with c | c | c | c
    · exact ⟨.inr c, hj, hjn⟩
    · exact ⟨.inl c, hj, hjn⟩
    · cases c.1
    · cases c.1
/-- unlike people are beside one another on their evening -/
theorem evening_beside {r : Bool} {n k p q : Int} (h : SizeIs r n k) (hp : 0 ≤ p) (hpn : p < n) (hq : 0 ≤ q) (hqn : q < n) (hpq : p ≠ q) :
    0 ≤ eveningOf r n p q ∧ eveningOf r n p q < k ∧ indexOf r n (eveningOf r n p q) q ∈ spots r n (indexOf r n (eveningOf r n p q) p) := by
  have h' := h
  have door : ∀ x, r = true → 0 ≤ x → x < 2 * k → n = 2 * k + 1 → 0 ≤ eveningOf r n x (n - 1) ∧ eveningOf r n x (n - 1) < k ∧
      indexOf r n (eveningOf r n x (n - 1)) (n - 1) = 0 ∧ (indexOf r n (eveningOf r n x (n - 1)) x = 1 ∨ indexOf r n (eveningOf r n x (n - 1)) x = n - 1) := by
    rintro x rfl h1 h2 rfl
    rw [evening_door h' h1 h2]
    have hk : 0 < k := h'.1
    have m1 := Int.emod_nonneg x (show k ≠ 0 by omega)
    have m2 := Int.emod_lt_of_pos x hk
    refine ⟨m1, m2, ?_, ?_⟩
    · unfold indexOf
      rw [if_pos rfl, if_pos rfl]
    · unfold indexOf
      rw [if_pos rfl, if_neg (by omega), show 2 * k + 1 - 1 = 2 * k by omega, indexIn_eq m1 m2 h1 h2]
      have m3 : x % k = if x < k then x else x - k := by
        rw [emod3 hk (by omega) (by omega), if_neg (by omega)]
      rw [m3]
      by_cases c : x < k
      · rw [if_pos c]
        left
        rw [if_neg (by omega), if_pos (by omega)]
        omega
      · rw [if_neg c]
        right
        rw [if_pos (by omega)]
        omega
  by_cases cp : p < 2 * k
  · by_cases cq : q < 2 * k
    · rw [evening_round h hp cp hq cq]
      have hk : 0 < k := h.1
      have e1 : (p + q) % (2 * k) = if p + q < 2 * k then p + q else p + q - 2 * k := by
        rw [emod3 (by omega) (by omega) (by omega), if_neg (by omega)]
      have he0 : 0 ≤ ((p + q) % (2 * k)) / 2 ∧ ((p + q) % (2 * k)) / 2 < k := by
        rw [e1]
        split <;> omega
      refine ⟨he0.1, he0.2, ?_⟩
      have hi := index_bound h he0.1 he0.2 hp hpn
      have hj := index_bound h he0.1 he0.2 hq hqn
      refine spot_of h hi.1 hi.2 hj.1 hj.2 ?_
      have hs := beside_sum hp cp hq cq hpq
      obtain ⟨_, ⟨rfl, rfl⟩ | ⟨rfl, rfl⟩⟩ := h
      · unfold indexOf
        rw [if_pos rfl, if_pos rfl, if_neg (by omega), if_neg (by omega), show 2 * k + 1 - 1 = 2 * k by omega]
        omega
      · show indexIn (2 * k) _ q = indexIn (2 * k) _ p + 1 ∨ _
        rcases hs with hs | hs
        · exact .inl hs
        · exact .inr (.inl hs)
    · obtain ⟨h0, ⟨hr, hn⟩ | ⟨_, hn⟩⟩ := h
      · have eq : q = n - 1 := by omega
        subst eq
        obtain ⟨d1, d2, d3, d4⟩ := door p hr hp cp hn
        refine ⟨d1, d2, ?_⟩
        rw [d3]
        rcases d4 with d4 | d4
        · rw [d4]
          exact spot_of h' (by omega) (by omega) (by omega) (by omega) (.inr (.inl rfl))
        · rw [d4]
          exact spot_of h' (by omega) (by omega) (by omega) (by omega) (.inr (.inr (.inr ⟨hr, rfl, rfl⟩)))
      · omega
  · obtain ⟨h0, ⟨hr, hn⟩ | ⟨_, hn⟩⟩ := h
    · have eq : p = n - 1 := by omega
      subst eq
      rw [evening_comm]
      obtain ⟨d1, d2, d3, d4⟩ := door q hr hq (by omega) hn
      refine ⟨d1, d2, ?_⟩
      rw [d3]
      rcases d4 with d4 | d4
      · rw [d4]
        exact spot_of h' (by omega) (by omega) (by omega) (by omega) (.inl rfl)
      · rw [d4]
        exact spot_of h' (by omega) (by omega) (by omega) (by omega) (.inr (.inr (.inl ⟨hr, rfl, rfl⟩)))
    · omega
end Zig

/-! The zigzag is a party: its neighbours are all pairs, each once. Plain lists, no program in sight. -/
namespace Zig
def ups (n : Int) : List Int := (List.range n.toNat).map fun (i : Nat) => (i : Int)
theorem mem_ups {n i : Int} : i ∈ ups n ↔ 0 ≤ i ∧ i < n := by
  unfold ups
  rw [List.mem_map]
  constructor
  · rintro ⟨k, hk, rfl⟩
    have := List.mem_range.mp hk
    omega
  · rintro ⟨h1, h2⟩
    exact ⟨i.toNat, List.mem_range.mpr (by omega), by omega⟩
theorem ups_len (n : Int) : (ups n).length = n.toNat := by
  unfold ups
  rw [List.length_map, List.length_range]
theorem ups_lt (n : Int) : (ups n).Pairwise (· < ·) := by
  unfold ups
  rw [List.pairwise_map]
  exact List.pairwise_lt_range.imp fun h => by omega
theorem ups_get {n : Int} {i : Nat} (h : (i : Int) < n) : (ups n)[i]? = some (i : Int) := by
  unfold ups
  rw [List.getElem?_map, List.getElem?_range (by omega)]
  rfl
theorem ups_succ (i : Nat) : ups ((i : Int) + 1) = ups i ++ [(i : Int)] := by
  unfold ups
  rw [show ((i : Int) + 1).toNat = i + 1 by omega, show (i : Int).toNat = i by omega, List.range_succ, List.map_append]
  rfl
theorem ups_cons {n : Int} (h : 1 ≤ n) : ups n = 0 :: (ups (n - 1)).map (· + 1) := by
  unfold ups
  rw [show n.toNat = (n - 1).toNat + 1 by omega, List.range_succ_eq_map, List.map_cons, List.map_map, List.map_map]
  rfl
theorem personIn_step {z e k : Int} (hk : 1 ≤ k) : (personIn z e (k - 1) + (if k % 2 = 1 then k else -k)) % z = personIn z e k := by
  unfold personIn
  rw [Int.emod_add_emod]
  congr 1
  (repeat' split) <;> omega
theorem personIn_zero {z e : Int} (h0 : 0 ≤ e) (h1 : e < z) : personIn z e 0 = e := by
  unfold personIn
  rw [if_neg (by decide)]
  show (e + -0) % z = e
  rw [show e + -0 = e by omega, Int.emod_eq_of_lt h0 h1]
def evL (r : Bool) (n e : Int) : List Int := (ups n).map (personAt r n e)
theorem evL_len (r : Bool) (n e : Int) : (evL r n e).length = n.toNat := by
  unfold evL
  rw [List.length_map, ups_len]
theorem evL_get {r : Bool} {n e : Int} {i : Nat} (h : (i : Int) < n) : (evL r n e)[i]? = some (personAt r n e i) := by
  unfold evL
  rw [List.getElem?_map, ups_get h]
  rfl
theorem evL_rings {n e : Int} (h : 1 ≤ n) : evL true n e = [n - 1] ++ (ups (n - 1)).map (personIn (n - 1) e) := by
  unfold evL
  rw [ups_cons h, List.map_cons, List.map_map]
  show _ :: _ = _ :: _
  congr 1
  refine List.map_congr_left fun i hi => ?_
  have := mem_ups.mp hi
  show personAt true n e (i + 1) = _
  unfold personAt
  rw [if_pos rfl, if_neg (by omega), show i + 1 - 1 = i by omega]
theorem evL_rows (n e : Int) : evL false n e = (ups n).map (personIn n e) := by
  unfold evL
  refine List.map_congr_left fun i hi => ?_
  unfold personAt
  rw [if_neg Bool.false_ne_true]
def mm (a b : Int) : Int × Int := (if b < a then b else a, if b > a then b else a)
theorem mm_eq {a b c d : Int} (h : mm a b = mm c d) : (a = c ∧ b = d) ∨ (a = d ∧ b = c) := by
  unfold mm at h
  rw [Prod.mk.injEq] at h
  obtain ⟨h1, h2⟩ := h
  revert h1 h2
  split <;> split <;> split <;> split <;> omega
theorem mm_comm (a b : Int) : mm a b = mm b a := by
  unfold mm
  rw [Prod.mk.injEq]
  constructor
  · split <;> split <;> omega
  · split <;> split <;> omega
/-- the neighbours of an evening, as the law takes them -/
def nbs (r : Bool) (n e : Int) : List (Int × Int) := ((ups (n - 1)).map fun k => mm (personAt r n e k) (personAt r n e (k + 1))) ++ if r then [mm (personAt r n e 0) (personAt r n e (n - 1))] else []
/-- all pairs -/
def rowP (n k : Int) : List (Int × Int) := ((ups (n - (k + 1))).map fun j => (k, k + 1 + j))
def prs (n : Int) : List (Int × Int) := (ups n).flatMap (rowP n)
theorem mem_rowP {n k : Int} {p : Int × Int} (hk : 0 ≤ k) : p ∈ rowP n k ↔ p.1 = k ∧ k < p.2 ∧ p.2 < n := by
  obtain ⟨a, b⟩ := p
  unfold rowP
  simp only [List.mem_map, mem_ups, Prod.mk.injEq]
  constructor
  · rintro ⟨j, h, rfl, rfl⟩
    omega
  · rintro ⟨rfl, h1, h2⟩
    exact ⟨b - a - 1, by omega, rfl, by omega⟩
theorem mem_prs {n : Int} {p : Int × Int} : p ∈ prs n ↔ 0 ≤ p.1 ∧ p.1 < p.2 ∧ p.2 < n := by
  unfold prs
  rw [List.mem_flatMap]
  constructor
  · rintro ⟨k, hk, h⟩
    have := mem_ups.mp hk
    have := (mem_rowP this.1).mp h
    omega
  · intro h
    exact ⟨p.1, mem_ups.mpr (by omega), (mem_rowP h.1).mpr (by omega)⟩
theorem prs_lex (n : Int) : (prs n).Pairwise fun p q => p.1 < q.1 ∨ (p.1 = q.1 ∧ p.2 < q.2) := by
  unfold prs
  rw [List.pairwise_flatMap]
  constructor
  · intro k hk
    unfold rowP
    rw [List.pairwise_map]
    exact (ups_lt _).imp fun h => by
      right
      dsimp only
      omega
  · refine (ups_lt n).imp_of_mem fun {a b} ha hb h => ?_
    intro x hx y hy
    have h1 := (mem_rowP (mem_ups.mp ha).1).mp hx
    have h2 := (mem_rowP (mem_ups.mp hb).1).mp hy
    left
    omega
section
variable {r : Bool} {n k : Int}
theorem at_inj (h : SizeIs r n k) {e i j : Int} (he : 0 ≤ e) (hek : e < k) (hi : 0 ≤ i) (hin : i < n) (hj : 0 ≤ j) (hjn : j < n) (q : personAt r n e i = personAt r n e j) : i = j := by
  have h1 := index_at h he hek hi hin
  rw [q, index_at h he hek hj hjn] at h1
  exact h1.symm
theorem size_two (h : SizeIs r n k) : 2 ≤ n ∧ (r = true → 3 ≤ n) := by
  obtain ⟨h0, ⟨a, b⟩ | ⟨a, b⟩⟩ := h
  · exact ⟨by omega, fun _ => by omega⟩
  · refine ⟨by omega, fun c => ?_⟩
    rw [a] at c
    cases c
theorem mem_nbs {e : Int} {p : Int × Int} : p ∈ nbs r n e ↔ (∃ i, 0 ≤ i ∧ i + 1 < n ∧ p = mm (personAt r n e i) (personAt r n e (i + 1))) ∨ (r = true ∧ p = mm (personAt r n e 0) (personAt r n e (n - 1))) := by
  unfold nbs
  rw [List.mem_append, List.mem_map]
  constructor
  · rintro (⟨i, hi, rfl⟩ | h)
    · have := mem_ups.mp hi
      exact .inl ⟨i, this.1, by omega, rfl⟩
    · right
      cases r
      · exact absurd h List.not_mem_nil
      · exact ⟨rfl, List.mem_singleton.mp h⟩
  · rintro (⟨i, h0, h1, rfl⟩ | ⟨rfl, rfl⟩)
    · exact .inl ⟨i, mem_ups.mpr (by omega), rfl⟩
    · exact .inr (List.mem_singleton.mpr rfl)
/-- a pair of neighbours: two people beside one another, in order -/
theorem nbs_spot (h : SizeIs r n k) {e : Int} {p : Int × Int} (hp : p ∈ nbs r n e) : ∃ i j, 0 ≤ i ∧ i < n ∧ 0 ≤ j ∧ j < n ∧ j ∈ spots r n i ∧ p = mm (personAt r n e i) (personAt r n e j) := by
  have h2 := size_two h
  rcases mem_nbs.mp hp with ⟨i, h0, h1, rfl⟩ | ⟨hr, rfl⟩
  · exact ⟨i, i + 1, h0, by omega, by omega, h1, spot_of h h0 (by omega) (by omega) h1 (.inl rfl), rfl⟩
  · exact ⟨0, n - 1, by omega, by omega, by omega, by omega, spot_of h (by omega) (by omega) (by omega) (by omega) (.inr (.inr (.inl ⟨hr, rfl, rfl⟩))), rfl⟩
theorem spot_nbs (h : SizeIs r n k) {e i j : Int} (hi : 0 ≤ i) (hin : i < n) (hj : j ∈ spots r n i) : mm (personAt r n e i) (personAt r n e j) ∈ nbs r n e := by
  have h2 := size_two h
  obtain ⟨j0, j1, c⟩ := spots_in h hi hin hj
  rcases c with ⟨rfl, c⟩ | ⟨rfl, c⟩ | ⟨hr, rfl, rfl⟩ | ⟨hr, rfl, rfl⟩
  · refine mem_nbs.mpr (.inl ⟨i - 1, by omega, by omega, ?_⟩)
    rw [mm_comm, show i - 1 + 1 = i by omega]
  · exact mem_nbs.mpr (.inl ⟨i, hi, by omega, rfl⟩)
  · exact mem_nbs.mpr (.inr ⟨hr, rfl⟩)
  · exact mem_nbs.mpr (.inr ⟨hr, mm_comm _ _⟩)
theorem mm_lt {a b : Int} (h : a ≠ b) : (mm a b).1 < (mm a b).2 ∧ ((mm a b = (a, b)) ∨ (mm a b = (b, a))) := by
  unfold mm
  dsimp only
  by_cases c : b < a
  · rw [if_pos c, if_neg (by omega)]
    exact ⟨c, .inr rfl⟩
  · rw [if_neg c, if_pos (by omega)]
    exact ⟨by omega, .inl rfl⟩
theorem nbs_evening (h : SizeIs r n k) {e : Int} (he : 0 ≤ e) (hek : e < k) {p : Int × Int} (hp : p ∈ nbs r n e) : eveningOf r n p.1 p.2 = e ∧ 0 ≤ p.1 ∧ p.1 < p.2 ∧ p.2 < n := by
  obtain ⟨i, j, i0, i1, j0, j1, hj, rfl⟩ := nbs_spot h hp
  have ne : personAt r n e i ≠ personAt r n e j := fun z => spots_ne h i0 i1 hj (at_inj h he hek i0 i1 j0 j1 z).symm
  have b1 := at_bound h he hek i0 i1
  have b2 := at_bound h he hek j0 j1
  have es := evening_spot h he hek i0 i1 hj
  obtain ⟨lt, c⟩ := mm_lt ne
  refine ⟨?_, ?_, lt, ?_⟩
  · rcases c with c | c
    · rw [c]
      exact es
    · rw [c, evening_comm]
      exact es
  · rcases c with c | c <;> rw [c] <;> omega
  · rcases c with c | c <;> rw [c] <;> omega
theorem nbs_nodup (h : SizeIs r n k) {e : Int} (he : 0 ≤ e) (hek : e < k) : (nbs r n e).Nodup := by
  have h2 := size_two h
  unfold nbs
  rw [List.nodup_append]
  refine ⟨?_, ?_, ?_⟩
  · refine List.pairwise_map.mpr ((ups_lt _).imp_of_mem fun {a b} ha hb hab q => ?_)
    have a1 := mem_ups.mp ha
    have b1 := mem_ups.mp hb
    rcases mm_eq q with ⟨c, _⟩ | ⟨c, d⟩
    · have := at_inj h he hek a1.1 (by omega) b1.1 (by omega) c
      omega
    · have := at_inj h he hek a1.1 (by omega) (by omega) (by omega) c
      omega
  · cases r
    · exact List.nodup_nil
    · exact List.nodup_cons.mpr ⟨List.not_mem_nil, List.nodup_nil⟩
  · intro a ha b hb q
    cases r
    · exact absurd hb List.not_mem_nil
    · rw [if_pos rfl, List.mem_singleton] at hb
      obtain ⟨i, hi, e1⟩ := List.mem_map.mp ha
      have a1 := mem_ups.mp hi
      have h3 := h2.2 rfl
      rw [hb] at q
      rw [← e1] at q
      rcases mm_eq q with ⟨c, d⟩ | ⟨c, d⟩
      · have := at_inj h he hek a1.1 (by omega) (by omega) (by omega) c
        have := at_inj h he hek (by omega) (by omega) (by omega) (by omega) d
        omega
      · have := at_inj h he hek a1.1 (by omega) (by omega) (by omega) c
        have := at_inj h he hek (by omega) (by omega) (by omega) (by omega) d
        omega
/-- all neighbours of all evenings -/
def allN (r : Bool) (n k : Int) : List (Int × Int) := (ups k).flatMap (nbs r n)
theorem allN_nodup (h : SizeIs r n k) : (allN r n k).Nodup := by
  unfold allN
  refine List.pairwise_flatMap.mpr ⟨fun e he => nbs_nodup h (mem_ups.mp he).1 (mem_ups.mp he).2, ?_⟩
  refine (ups_lt k).imp_of_mem fun {a b} ha hb hab => ?_
  intro x hx y hy q
  have a1 := mem_ups.mp ha
  have b1 := mem_ups.mp hb
  have e1 := (nbs_evening h a1.1 a1.2 hx).1
  have e2 := (nbs_evening h b1.1 b1.2 hy).1
  rw [q] at e1
  omega
theorem allN_mem (h : SizeIs r n k) (p : Int × Int) : p ∈ allN r n k ↔ p ∈ prs n := by
  rw [mem_prs]
  unfold allN
  rw [List.mem_flatMap]
  constructor
  · rintro ⟨e, he, hp⟩
    exact (nbs_evening h (mem_ups.mp he).1 (mem_ups.mp he).2 hp).2
  · rintro ⟨h0, h1, h2⟩
    obtain ⟨e0, e1, hs⟩ := evening_beside h h0 (by omega) (by omega) h2 (show p.1 ≠ p.2 by omega)
    refine ⟨eveningOf r n p.1 p.2, mem_ups.mpr ⟨e0, e1⟩, ?_⟩
    have b := index_bound h e0 e1 h0 (by omega)
    have m := spot_nbs (e := eveningOf r n p.1 p.2) h b.1 b.2 hs
    rw [at_index h e0 e1 h0 (by omega), at_index h e0 e1 (by omega) h2] at m
    have e : mm p.1 p.2 = p := by
      unfold mm
      rw [if_neg (by omega), if_pos (by omega)]
    rw [e] at m
    exact m
theorem prs_nodup (n : Int) : (prs n).Nodup := (prs_lex n).imp fun h e => by
  rw [e] at h
  omega
theorem allN_perm (h : SizeIs r n k) : (allN r n k).Perm (prs n) := (List.perm_ext_iff_of_nodup (allN_nodup h) (prs_nodup n)).mpr (allN_mem h)
/-- an evening is an order of all people -/
theorem evL_nodup (h : SizeIs r n k) {e : Int} (he : 0 ≤ e) (hek : e < k) : (evL r n e).Nodup := by
  unfold evL
  refine List.pairwise_map.mpr ((ups_lt _).imp_of_mem fun {a b} ha hb hab q => ?_)
  have a1 := mem_ups.mp ha
  have b1 := mem_ups.mp hb
  have := at_inj h he hek a1.1 a1.2 b1.1 b1.2 q
  omega
theorem evL_mem (h : SizeIs r n k) {e : Int} (he : 0 ≤ e) (hek : e < k) (p : Int) : p ∈ evL r n e ↔ 0 ≤ p ∧ p < n := by
  unfold evL
  rw [List.mem_map]
  constructor
  · rintro ⟨i, hi, rfl⟩
    exact at_bound h he hek (mem_ups.mp hi).1 (mem_ups.mp hi).2
  · rintro ⟨h0, h1⟩
    have b := index_bound h he hek h0 h1
    exact ⟨_, mem_ups.mpr b, at_index h he hek h0 h1⟩
theorem ups_nodup (n : Int) : (ups n).Nodup := (ups_lt n).imp fun h e => by omega
theorem evL_perm (h : SizeIs r n k) {e : Int} (he : 0 ≤ e) (hek : e < k) : (evL r n e).Perm (ups n) := (List.perm_ext_iff_of_nodup (evL_nodup h he hek) (ups_nodup n)).mpr fun p => by
  rw [evL_mem h he hek, mem_ups]
theorem mm_sum (a b : Int) : (mm a b).1 + (mm a b).2 = a + b := by
  unfold mm
  dsimp only
  split <;> split <;> omega
theorem mm_has (p a b : Int) : (p = (mm a b).1 ∨ p = (mm a b).2) ↔ (p = a ∨ p = b) := by
  unfold mm
  dsimp only
  split <;> split <;> omega
theorem spots_symm (h : SizeIs r n k) {i j : Int} (hi : 0 ≤ i) (hin : i < n) (hj : j ∈ spots r n i) : i ∈ spots r n j := by
  obtain ⟨j0, j1, c⟩ := spots_in h hi hin hj
  refine spot_of h j0 j1 hi hin ?_
  rcases c with ⟨c, _⟩ | ⟨c, _⟩ | ⟨c, d, e⟩ | ⟨c, d, e⟩
  · left; omega
  · right; left; omega
  · right; right; right; exact ⟨c, e, d⟩
  · right; right; left; exact ⟨c, e, d⟩
/-- the ones beside a person, by the pairs with it -/
def matesL (r : Bool) (n e p : Int) : List Int := (nbs r n e).filterMap fun q => if p = q.1 ∨ p = q.2 then some (q.1 + q.2 - p) else none
theorem spots_nodup (h : SizeIs r n k) {i : Int} (hi : 0 ≤ i) (hin : i < n) : (spots r n i).Nodup := by
  have h2 := size_two h
  unfold spots
  cases r
  · rw [if_neg Bool.false_ne_true]
    refine List.Pairwise.filter _ ?_
    refine List.nodup_cons.mpr ⟨fun q => ?_, List.nodup_cons.mpr ⟨List.not_mem_nil, List.nodup_nil⟩⟩
    have := List.mem_singleton.mp q
    omega
  · rw [if_pos rfl]
    refine List.nodup_cons.mpr ⟨fun q => ?_, List.nodup_cons.mpr ⟨List.not_mem_nil, List.nodup_nil⟩⟩
    have q' := List.mem_singleton.mp q
    have h3 := h2.2 rfl
    rw [emod3 (by omega) (by omega) (by omega), emod3 (by omega) (by omega) (by omega)] at q'
    revert q'
    (repeat' split) <;> omega
theorem mates_perm (h : SizeIs r n k) {e i : Int} (he : 0 ≤ e) (hek : e < k) (hi : 0 ≤ i) (hin : i < n) :
    (matesL r n e (personAt r n e i)).Perm ((spots r n i).map (personAt r n e)) := by
  refine (List.perm_ext_iff_of_nodup ?_ ?_).mpr fun q => ?_
  · unfold matesL
    refine List.pairwise_filterMap.mpr ((nbs_nodup h he hek).imp_of_mem ?_)
    intro a b ha hb ne x hx y hy q
    refine ne ?_
    have a3 := (nbs_evening h he hek ha).2.2.1
    have b3 := (nbs_evening h he hek hb).2.2.1
    obtain ⟨a1, a2⟩ := a
    obtain ⟨b1, b2⟩ := b
    dsimp only at *
    rw [Prod.mk.injEq]
    generalize personAt r n e i = p at *
    by_cases c1 : p = a1 ∨ p = a2
    · by_cases c2 : p = b1 ∨ p = b2
      · rw [if_pos c1] at hx
        rw [if_pos c2] at hy
        have hx := Option.some.inj hx
        have hy := Option.some.inj hy
        omega
      · rw [if_neg c2] at hy
        cases hy
    · rw [if_neg c1] at hx
      cases hx
  · refine List.pairwise_map.mpr ((spots_nodup h hi hin).imp_of_mem fun {a b} ha hb hab q => ?_)
    obtain ⟨a0, a1, _⟩ := spots_in h hi hin ha
    obtain ⟨b0, b1, _⟩ := spots_in h hi hin hb
    exact hab (at_inj h he hek a0 a1 b0 b1 q)
  · unfold matesL
    rw [List.mem_filterMap, List.mem_map]
    constructor
    · rintro ⟨p, hp, c⟩
      obtain ⟨a, b, a0, a1, b0, b1, hb, rfl⟩ := nbs_spot h hp
      by_cases c1 : personAt r n e i = (mm (personAt r n e a) (personAt r n e b)).1 ∨ personAt r n e i = (mm (personAt r n e a) (personAt r n e b)).2
      · rw [if_pos c1, mm_sum] at c
        have c := Option.some.inj c
        rcases (mm_has _ _ _).mp c1 with c2 | c2
        · have := at_inj h he hek hi hin a0 a1 c2
          subst this
          exact ⟨b, hb, by omega⟩
        · have := at_inj h he hek hi hin b0 b1 c2
          subst this
          exact ⟨a, spots_symm h a0 a1 hb, by omega⟩
      · rw [if_neg c1] at c
        cases c
    · rintro ⟨j, hj, rfl⟩
      refine ⟨mm (personAt r n e i) (personAt r n e j), spot_nbs h hi hin hj, ?_⟩
      rw [if_pos ((mm_has _ _ _).mpr (.inl rfl)), mm_sum]
      congr 1
      omega
end
end Zig

namespace K18
open PySem PySem.Spec PyProof.Rows L2 Z
open Zig
def top (i : Nat) : Stmt := PySem.Challenge.pw_extendrounds_k18_whole_zigzag_parties.main.body.getD i (.Pass ⟨0, 0, 0, 0⟩)
abbrev s_is_integer : Stmt := top 10
abbrev N_is_integer : List Str := ["value"]
theorem sc_is_integer : FnScope N_is_integer ["value"] (defScope s_is_integer) := ⟨rfl, rfl, rfl, by decide +kernel, rfl, by decide +kernel, by decide +kernel⟩
abbrev s_is_between : Stmt := top 11
abbrev N_is_between : List Str := ["value", "least", "most"]
theorem sc_is_between : FnScope N_is_between ["value", "least", "most"] (defScope s_is_between) := ⟨rfl, rfl, rfl, by decide +kernel, rfl, by decide +kernel, by decide +kernel⟩
abbrev s_is_size : Stmt := top 12
abbrev N_is_size : List Str := ["kind", "value", "most"]
theorem sc_is_size : FnScope N_is_size ["kind", "value", "most"] (defScope s_is_size) := ⟨rfl, rfl, rfl, by decide +kernel, rfl, by decide +kernel, by decide +kernel⟩
abbrev s_evenings_for : Stmt := top 13
abbrev N_evenings_for : List Str := ["kind", "many"]
theorem sc_evenings_for : FnScope N_evenings_for ["kind", "many"] (defScope s_evenings_for) := ⟨rfl, rfl, rfl, by decide +kernel, rfl, by decide +kernel, by decide +kernel⟩
abbrev s_check_kind : Stmt := top 15
abbrev N_check_kind : List Str := ["kind"]
theorem sc_check_kind : FnScope N_check_kind ["kind"] (defScope s_check_kind) := ⟨rfl, rfl, rfl, by decide +kernel, rfl, by decide +kernel, by decide +kernel⟩
abbrev s_check_size : Stmt := top 18
abbrev N_check_size : List Str := ["kind", "n"]
theorem sc_check_size : FnScope N_check_size ["kind", "n"] (defScope s_check_size) := ⟨rfl, rfl, rfl, by decide +kernel, rfl, by decide +kernel, by decide +kernel⟩
abbrev s_round_size : Stmt := top 19
abbrev N_round_size : List Str := ["kind", "n"]
theorem sc_round_size : FnScope N_round_size ["kind", "n"] (defScope s_round_size) := ⟨rfl, rfl, rfl, by decide +kernel, rfl, by decide +kernel, by decide +kernel⟩
abbrev s_person_in : Stmt := top 20
abbrev N_person_in : List Str := ["size", "evening", "index", "half"]
theorem sc_person_in : FnScope N_person_in ["size", "evening", "index"] (defScope s_person_in) := ⟨rfl, rfl, rfl, by decide +kernel, rfl, by decide +kernel, by decide +kernel⟩
abbrev s_index_in : Stmt := top 21
abbrev N_index_in : List Str := ["size", "evening", "person", "far"]
theorem sc_index_in : FnScope N_index_in ["size", "evening", "person"] (defScope s_index_in) := ⟨rfl, rfl, rfl, by decide +kernel, rfl, by decide +kernel, by decide +kernel⟩
abbrev s_person_at : Stmt := top 22
abbrev N_person_at : List Str := ["kind", "n", "evening", "index"]
theorem sc_person_at : FnScope N_person_at ["kind", "n", "evening", "index"] (defScope s_person_at) := ⟨rfl, rfl, rfl, by decide +kernel, rfl, by decide +kernel, by decide +kernel⟩
abbrev s_index_of : Stmt := top 23
abbrev N_index_of : List Str := ["kind", "n", "evening", "person"]
theorem sc_index_of : FnScope N_index_of ["kind", "n", "evening", "person"] (defScope s_index_of) := ⟨rfl, rfl, rfl, by decide +kernel, rfl, by decide +kernel, by decide +kernel⟩
abbrev s_evening_of : Stmt := top 24
abbrev N_evening_of : List Str := ["kind", "n", "evening", "index"]
theorem sc_evening_of : FnScope N_evening_of ["kind", "n", "evening"] (defScope s_evening_of) := ⟨rfl, rfl, rfl, by decide +kernel, rfl, by decide +kernel, by decide +kernel⟩
abbrev s_zigzag_of : Stmt := top 25
abbrev N_zigzag_of : List Str := ["kind", "n", "evening"]
theorem sc_zigzag_of : FnScope N_zigzag_of ["kind", "n"] (defScope s_zigzag_of) := ⟨rfl, rfl, rfl, by decide +kernel, rfl, by decide +kernel, by decide +kernel⟩
abbrev s_zigzag : Stmt := top 26
abbrev N_zigzag : List Str := ["kind", "n"]
theorem sc_zigzag : FnScope N_zigzag ["kind", "n"] (defScope s_zigzag) := ⟨rfl, rfl, rfl, by decide +kernel, rfl, by decide +kernel, by decide +kernel⟩
abbrev s_check_evening_of : Stmt := top 27
abbrev N_check_evening_of : List Str := ["kind", "n", "evening"]
theorem sc_check_evening_of : FnScope N_check_evening_of ["kind", "n", "evening"] (defScope s_check_evening_of) := ⟨rfl, rfl, rfl, by decide +kernel, rfl, by decide +kernel, by decide +kernel⟩
abbrev s_check_person : Stmt := top 28
abbrev N_check_person : List Str := ["n", "person"]
theorem sc_check_person : FnScope N_check_person ["n", "person"] (defScope s_check_person) := ⟨rfl, rfl, rfl, by decide +kernel, rfl, by decide +kernel, by decide +kernel⟩
abbrev s_zigzag_beside : Stmt := top 29
abbrev N_zigzag_beside : List Str := ["kind", "n", "evening", "person", "index", "some", "at"]
theorem sc_zigzag_beside : FnScope N_zigzag_beside ["kind", "n", "evening", "person"] (defScope s_zigzag_beside) := ⟨rfl, rfl, rfl, by decide +kernel, rfl, by decide +kernel, by decide +kernel⟩
abbrev s_zigzag_evening : Stmt := top 30
abbrev N_zigzag_evening : List Str := ["kind", "n", "person", "mate", "size"]
theorem sc_zigzag_evening : FnScope N_zigzag_evening ["kind", "n", "person", "mate"] (defScope s_zigzag_evening) := ⟨rfl, rfl, rfl, by decide +kernel, rfl, by decide +kernel, by decide +kernel⟩
abbrev s_zigzag_place : Stmt := top 31
abbrev N_zigzag_place : List Str := ["kind", "n", "evening", "person"]
theorem sc_zigzag_place : FnScope N_zigzag_place ["kind", "n", "evening", "person"] (defScope s_zigzag_place) := ⟨rfl, rfl, rfl, by decide +kernel, rfl, by decide +kernel, by decide +kernel⟩
abbrev s_zigzag_person : Stmt := top 32
abbrev N_zigzag_person : List Str := ["kind", "n", "evening", "index"]
theorem sc_zigzag_person : FnScope N_zigzag_person ["kind", "n", "evening", "index"] (defScope s_zigzag_person) := ⟨rfl, rfl, rfl, by decide +kernel, rfl, by decide +kernel, by decide +kernel⟩
abbrev s__law_spring : Stmt := top 34
abbrev N__law_spring : List Str := ["_law_cells", "_law_k", "_law_cell", "_law_mixed", "_law_number"]
theorem sc__law_spring : FnScope N__law_spring ["_law_cells", "_law_k"] (defScope s__law_spring) := ⟨rfl, rfl, rfl, by decide +kernel, rfl, by decide +kernel, by decide +kernel⟩
abbrev s__law_draw : Stmt := top 35
abbrev N__law_draw : List Str := ["_law_spring_here", "_law_size", "_law_digit", "_law_far", "_law_mixed"]
theorem sc__law_draw : FnScope N__law_draw ["_law_spring_here", "_law_size"] (defScope s__law_draw) := ⟨rfl, rfl, rfl, by decide +kernel, rfl, by decide +kernel, by decide +kernel⟩
abbrev s__law_of : Stmt := top 36
abbrev N__law_of : List Str := ["_law_spring_here", "_law_menu"]
theorem sc__law_of : FnScope N__law_of ["_law_spring_here", "_law_menu"] (defScope s__law_of) := ⟨rfl, rfl, rfl, by decide +kernel, rfl, by decide +kernel, by decide +kernel⟩
abbrev s__law_is_whole : Stmt := top 37
abbrev N__law_is_whole : List Str := ["_law_thing", "_law_least", "_law_most"]
theorem sc__law_is_whole : FnScope N__law_is_whole ["_law_thing", "_law_least", "_law_most"] (defScope s__law_is_whole) := ⟨rfl, rfl, rfl, by decide +kernel, rfl, by decide +kernel, by decide +kernel⟩
abbrev s__law_nights : Stmt := top 38
abbrev N__law_nights : List Str := ["_law_sort_now", "_law_size"]
theorem sc__law_nights : FnScope N__law_nights ["_law_sort_now", "_law_size"] (defScope s__law_nights) := ⟨rfl, rfl, rfl, by decide +kernel, rfl, by decide +kernel, by decide +kernel⟩
abbrev s__law_pairs : Stmt := top 39
abbrev N__law_pairs : List Str := ["_law_size", "_law_found", "_law_k", "_law_j"]
theorem sc__law_pairs : FnScope N__law_pairs ["_law_size"] (defScope s__law_pairs) := ⟨rfl, rfl, rfl, by decide +kernel, rfl, by decide +kernel, by decide +kernel⟩
abbrev s__law_zigzag : Stmt := top 40
abbrev N__law_zigzag : List Str := ["_law_sort_now", "_law_size", "_law_found", "_law_round_now", "_law_e", "_law_some", "_law_k"]
theorem sc__law_zigzag : FnScope N__law_zigzag ["_law_sort_now", "_law_size"] (defScope s__law_zigzag) := ⟨rfl, rfl, rfl, by decide +kernel, rfl, by decide +kernel, by decide +kernel⟩
abbrev s__law_neighbours : Stmt := top 41
abbrev N__law_neighbours : List Str := ["_law_sort_now", "_law_some", "_law_found", "_law_k"]
theorem sc__law_neighbours : FnScope N__law_neighbours ["_law_sort_now", "_law_some"] (defScope s__law_neighbours) := ⟨rfl, rfl, rfl, by decide +kernel, rfl, by decide +kernel, by decide +kernel⟩
abbrev s__law_is_party : Stmt := top 42
abbrev N__law_is_party : List Str := ["_law_sort_now", "_law_size", "_law_thing", "_law_found", "_law_some", "_law_each"]
theorem sc__law_is_party : FnScope N__law_is_party ["_law_sort_now", "_law_size", "_law_thing"] (defScope s__law_is_party) := ⟨rfl, rfl, rfl, by decide +kernel, rfl, by decide +kernel, by decide +kernel⟩
abbrev s__law_right : Stmt := top 43
abbrev N__law_right : List Str := ["_law_spring_here", "_law_turn_k", "_law_sort_now", "_law_size", "_law_due", "_law_again", "_law_e", "_law_at", "_law_p", "_law_told", "_law_mates", "_law_q", "_law_some", "_law_pair"]
theorem sc__law_right : FnScope N__law_right ["_law_spring_here"] (defScope s__law_right) := ⟨rfl, rfl, rfl, by decide +kernel, rfl, by decide +kernel, by decide +kernel⟩
abbrev s_law : Stmt := top 44
abbrev N_law : List Str := ["_law_script", "_law_k"]
theorem sc_law : FnScope N_law ["_law_script"] (defScope s_law) := ⟨rfl, rfl, rfl, by decide +kernel, rfl, by decide +kernel, by decide +kernel⟩
/-- what the top has made -/
structure Env (K : PySem.W.Frag) (mg : Str → Option Value) : Prop where
  d_is_integer : Here K mg "is_integer" s_is_integer
  d_is_between : Here K mg "is_between" s_is_between
  d_is_size : Here K mg "is_size" s_is_size
  d_evenings_for : Here K mg "evenings_for" s_evenings_for
  d_check_kind : Here K mg "check_kind" s_check_kind
  d_check_size : Here K mg "check_size" s_check_size
  d_round_size : Here K mg "round_size" s_round_size
  d_person_in : Here K mg "person_in" s_person_in
  d_index_in : Here K mg "index_in" s_index_in
  d_person_at : Here K mg "person_at" s_person_at
  d_index_of : Here K mg "index_of" s_index_of
  d_evening_of : Here K mg "evening_of" s_evening_of
  d_zigzag_of : Here K mg "zigzag_of" s_zigzag_of
  d_zigzag : Here K mg "zigzag" s_zigzag
  d_check_evening_of : Here K mg "check_evening_of" s_check_evening_of
  d_check_person : Here K mg "check_person" s_check_person
  d_zigzag_beside : Here K mg "zigzag_beside" s_zigzag_beside
  d_zigzag_evening : Here K mg "zigzag_evening" s_zigzag_evening
  d_zigzag_place : Here K mg "zigzag_place" s_zigzag_place
  d_zigzag_person : Here K mg "zigzag_person" s_zigzag_person
  d__law_spring : Here K mg "_law_spring" s__law_spring
  d__law_draw : Here K mg "_law_draw" s__law_draw
  d__law_of : Here K mg "_law_of" s__law_of
  d__law_is_whole : Here K mg "_law_is_whole" s__law_is_whole
  d__law_nights : Here K mg "_law_nights" s__law_nights
  d__law_pairs : Here K mg "_law_pairs" s__law_pairs
  d__law_zigzag : Here K mg "_law_zigzag" s__law_zigzag
  d__law_neighbours : Here K mg "_law_neighbours" s__law_neighbours
  d__law_is_party : Here K mg "_law_is_party" s__law_is_party
  d__law_right : Here K mg "_law_right" s__law_right
  d_law : Here K mg "law" s_law
  b_abs : mg "abs" = none
  b_all : mg "all" = none
  b_bool : mg "bool" = none
  b_divmod : mg "divmod" = none
  b_int : mg "int" = none
  b_isinstance : mg "isinstance" = none
  b_len : mg "len" = none
  b_list : mg "list" = none
  b_max : mg "max" = none
  b_min : mg "min" = none
  b_range : mg "range" = none
  b_repr : mg "repr" = none
  b_sorted : mg "sorted" = none
  b_str : mg "str" = none
  b_super : mg "super" = none
  b_tuple : mg "tuple" = none
  c_MOST_ZIGZAG : ∃ t, mg "MOST_ZIGZAG" = some (.int (1000000000000000000000000000000) t)
  c_RINGS : ∃ t, mg "RINGS" = some (.str "rings" t)
  c_ROWS : ∃ t, mg "ROWS" = some (.str "rows" t)
  c_MOST_TOLD : ∃ t, mg "MOST_TOLD" = some (.int 99 t)
variable {P : Program} {w : World} {K : PySem.W.Frag} {mg : Str → Option Value} {base : Heap}
def kindS (r : Bool) : Str := if r then "rings" else "rows"
theorem kind_ne : ¬ (("rows" : Str) = "rings") := by decide +kernel
theorem kind_eq (r : Bool) : (kindS r = "rings") = (r = true) := by
  cases r
  · simp only [kindS, Bool.false_eq_true, if_false, eq_iff_iff, iff_false]
    exact kind_ne
  · simp only [kindS, if_true]
theorem kind_inj (r s : Bool) : (kindS r = kindS s) = (r = s) := by
  have h1 : ¬ (("rings" : Str) = "rows") := fun e => kind_ne e.symm
  cases r <;> cases s <;> simp [kindS, kind_ne, h1]
theorem rings_eq (r : Bool) : (("rings" : Str) = kindS r) = (r = true) := by
  rw [← kind_eq r]
  exact propext ⟨Eq.symm, Eq.symm⟩
theorem rows_eq (r : Bool) : (("rows" : Str) = kindS r) = (r = false) := by
  have h := kind_inj false r
  rw [show kindS false = "rows" from rfl] at h
  rw [h]
  exact propext ⟨Eq.symm, Eq.symm⟩
def sp_is_integer : Sp := fun vs H Q _ => ∃ i : Int, vs = [.int i] ∧ Q (.bl true) H
theorem ok_is_integer (T : Env K mg) : Hd P w K mg base CX0 1 "is_integer" s_is_integer ["value"] sp_is_integer := by
  obtain ⟨f, fd, F, hm⟩ := T.d_is_integer
  refine ⟨⟨f, fd, F, hm, ?_⟩, fun _ _ _ _ _ _ _ us hl => match us, hl with | [_], _ => rfl⟩
  refine F.ok sc_is_integer (fun vs H Q E h => ?_) (fun cdv A outer s H vs Q E hr h => ?_)
  · first | (obtain ⟨rfl, _⟩ := h; rfl) | (obtain ⟨_, rfl, _⟩ := h; rfl) | (obtain ⟨_, _, rfl, _⟩ := h; rfl) | (obtain ⟨_, _, _, rfl, _⟩ := h; rfl) | (obtain ⟨_, _, _, _, rfl, _⟩ := h; rfl) | (obtain ⟨_, _, _, _, _, rfl, _⟩ := h; rfl) | (obtain ⟨_, _, _, _, _, _, rfl, _⟩ := h; rfl) | (obtain ⟨_, _, _, _, _, _, _, rfl, _⟩ := h; rfl) | (obtain ⟨_, _, _, _, _, _, _, _, rfl, _⟩ := h; rfl)
  · obtain ⟨i, rfl, q⟩ := h
    have hu := hu_of hr
    refine ⟨_, pss_one (ps_ret (pe_and (pe_callB call_isN rfl T.b_isinstance (by decide +kernel) (pa_cons (pv 0) (pa_cons (pe_bltn (v := .ty "int") (by rfl) T.b_int (by decide +kernel) rfl) pa_nil))) (pe_one (pe_not (pe_callB call_isN rfl T.b_isinstance (by decide +kernel) (pa_cons (pv 0) (pa_cons (pe_bltn (v := .ty "bool") (by rfl) T.b_bool (by decide +kernel) rfl) pa_nil))))))), ?_⟩
    simp only [L2.start, List.map_cons, List.map_nil, List.length_cons, List.length_nil, Nat.zero_add, Nat.reduceAdd, Nat.reduceSub, List.replicate_succ, List.replicate_zero, List.cons_append, List.nil_append, List.append_nil, L2.tSeq, L2.tNext, L2.tAsg, L2.gName, L2.tRet, L2.tRetN, L2.tIfS, L2.tVar, L2.tC, L2.tOp, L2.tUn, L2.rI, L2.rI0, L2.rU, L2.rEq, L2.rNe, L2.tTest, L2.tB, L2.tIf, Z.tIfCI, Z.tIfCS, L2.tChain, L2.tCons, L2.tNil, L2.tCall, L2.tDrop, L2.tAndV, L2.tOrV, L2.tNotV, L2.tAnd, L2.tOr, L2.tNot, L2.tCB, Z.sc_ii, Z.sc_ss, Z.sc_bb, Z.sc_is, Z.sc_si, Z.sc_ni, Z.sc_in, Z.sc_ns, Z.sc_sn, Z.sc_nn, L2.CDiv, L2.CPow, L2.CMul, List.getElem?_cons_zero, List.getElem?_cons_succ, Z.set_z, Z.set_s, Option.some.injEq, L2.V.int.injEq, L2.V.bl.injEq, L2.V.str.injEq, L2.V.ref.injEq, L2.V.ty.injEq, List.cons.injEq, exists_eq_left', exists_and_left, exists_eq_left, exists_eq_right, exists_eq_right', exists_eq', exists_eq, true_and, and_true, and_assoc, decide_eq_true_eq, Int.reduceLT, and_self, Z.rIxH, Z.rIxU, Z.at30, Z.at31, Z.at32, Z.ix3_0, Z.ix3_1, Z.ix3_2, L2.rSetL, L2.gSub, Z.gTupH, L2.gCons, L2.gNil, L2.HO.lst.injEq, L2.HO.tup.injEq, L2.upd_same, L2.upd_upd, L2.tSl, L2.tNoPart, L2.tPart, L2.rSlL, L2.rCat, List.length_append, or_false, false_or, or_true, true_or, reduceCtorEq, false_and, and_false, exists_false, Int.reduceNeg, Int.reducePow, Int.reduceToNat, Int.reduceAbs, Int.reduceLE, Int.reduceMul, Int.reduceAdd, Int.reduceSub, Nat.reducePow, Nat.reduceLT, Nat.reduceLeDiff, Int.natAbs_natCast, if_true, if_false, Z.rIsN, Z.tyN, Z.kit_ii, Z.kit_bi, Z.kit_si, Z.kit_ni, Z.kit_ib, Z.kit_bb, Z.kit_sb, Z.kit_nb, Z.kit_is, Z.kit_bs, Z.kit_ss, Z.kit_ns, Bool.not_true, Bool.not_false, L2.tTup, L2.tLst, L2.wipe, L2.tYes, Z.Turn1, L2.tNever, sizeLine_eq, Z.rInU, Z.rInH, L2.flatV, List.any_cons, List.any_nil, List.all_cons, List.all_nil, Bool.and_true, Bool.true_and, Bool.or_false, Bool.false_or, Z.tBML, L2.rAppend, Z.map_int_inj, Z.map_bl_inj, Z.rTupL, Z.rLstL, Z.rLstT, Z.rSortI, Z.rAnyH, Z.rAllH, Z.rSumH, Z.rLenL, Z.rLenU, List.length_map, L2.tPar, Z.tCallK0, List.getD_cons_zero, List.getD_cons_succ]
    exact q
def sp_is_between : Sp := fun vs H Q _ => ∃ v l m : Int, vs = [.int v, .int l, .int m] ∧ Q (.bl (decide (l ≤ v ∧ v ≤ m))) H
theorem ok_is_between (T : Env K mg) : Hd P w K mg base CX0 2 "is_between" s_is_between ["value", "least", "most"] sp_is_between := by
  have H_is_integer := ok_is_integer (P := P) (w := w) (base := base) T
  obtain ⟨f, fd, F, hm⟩ := T.d_is_between
  refine ⟨⟨f, fd, F, hm, ?_⟩, fun _ _ _ _ _ _ _ us hl => match us, hl with | [_, _, _], _ => rfl⟩
  refine F.ok sc_is_between (fun vs H Q E h => ?_) (fun cdv A outer s H vs Q E hr h => ?_)
  · first | (obtain ⟨rfl, _⟩ := h; rfl) | (obtain ⟨_, rfl, _⟩ := h; rfl) | (obtain ⟨_, _, rfl, _⟩ := h; rfl) | (obtain ⟨_, _, _, rfl, _⟩ := h; rfl) | (obtain ⟨_, _, _, _, rfl, _⟩ := h; rfl) | (obtain ⟨_, _, _, _, _, rfl, _⟩ := h; rfl) | (obtain ⟨_, _, _, _, _, _, rfl, _⟩ := h; rfl) | (obtain ⟨_, _, _, _, _, _, _, rfl, _⟩ := h; rfl) | (obtain ⟨_, _, _, _, _, _, _, _, rfl, _⟩ := h; rfl)
  · obtain ⟨v, l, m, rfl, q⟩ := h
    have hu := hu_of hr
    refine ⟨_, pss_one (ps_ret (pe_and (pe_hd H_is_integer (hr.mono (by decide)) rfl pass0 (pa_cons (pv 0) pa_nil)) (pe_one (pe_chain op_le op_le (pv 1) (pv 0) (pv 2))))), ?_⟩
    simp only [L2.start, List.map_cons, List.map_nil, List.length_cons, List.length_nil, Nat.zero_add, Nat.reduceAdd, Nat.reduceSub, List.replicate_succ, List.replicate_zero, List.cons_append, List.nil_append, List.append_nil, L2.tSeq, L2.tNext, L2.tAsg, L2.gName, L2.tRet, L2.tRetN, L2.tIfS, L2.tVar, L2.tC, L2.tOp, L2.tUn, L2.rI, L2.rI0, L2.rU, L2.rEq, L2.rNe, L2.tTest, L2.tB, L2.tIf, Z.tIfCI, Z.tIfCS, L2.tChain, L2.tCons, L2.tNil, L2.tCall, L2.tDrop, L2.tAndV, L2.tOrV, L2.tNotV, L2.tAnd, L2.tOr, L2.tNot, L2.tCB, Z.sc_ii, Z.sc_ss, Z.sc_bb, Z.sc_is, Z.sc_si, Z.sc_ni, Z.sc_in, Z.sc_ns, Z.sc_sn, Z.sc_nn, L2.CDiv, L2.CPow, L2.CMul, List.getElem?_cons_zero, List.getElem?_cons_succ, Z.set_z, Z.set_s, Option.some.injEq, L2.V.int.injEq, L2.V.bl.injEq, L2.V.str.injEq, L2.V.ref.injEq, L2.V.ty.injEq, List.cons.injEq, exists_eq_left', exists_and_left, exists_eq_left, exists_eq_right, exists_eq_right', exists_eq', exists_eq, true_and, and_true, and_assoc, decide_eq_true_eq, Int.reduceLT, and_self, Z.rIxH, Z.rIxU, Z.at30, Z.at31, Z.at32, Z.ix3_0, Z.ix3_1, Z.ix3_2, L2.rSetL, L2.gSub, Z.gTupH, L2.gCons, L2.gNil, L2.HO.lst.injEq, L2.HO.tup.injEq, L2.upd_same, L2.upd_upd, L2.tSl, L2.tNoPart, L2.tPart, L2.rSlL, L2.rCat, List.length_append, or_false, false_or, or_true, true_or, reduceCtorEq, false_and, and_false, exists_false, Int.reduceNeg, Int.reducePow, Int.reduceToNat, Int.reduceAbs, Int.reduceLE, Int.reduceMul, Int.reduceAdd, Int.reduceSub, Nat.reducePow, Nat.reduceLT, Nat.reduceLeDiff, Int.natAbs_natCast, if_true, if_false, Z.rIsN, Z.tyN, Z.kit_ii, Z.kit_bi, Z.kit_si, Z.kit_ni, Z.kit_ib, Z.kit_bb, Z.kit_sb, Z.kit_nb, Z.kit_is, Z.kit_bs, Z.kit_ss, Z.kit_ns, Bool.not_true, Bool.not_false, L2.tTup, L2.tLst, L2.wipe, L2.tYes, Z.Turn1, L2.tNever, sizeLine_eq, Z.rInU, Z.rInH, L2.flatV, List.any_cons, List.any_nil, List.all_cons, List.all_nil, Bool.and_true, Bool.true_and, Bool.or_false, Bool.false_or, Z.tBML, L2.rAppend, Z.map_int_inj, Z.map_bl_inj, Z.rTupL, Z.rLstL, Z.rLstT, Z.rSortI, Z.rAnyH, Z.rAllH, Z.rSumH, Z.rLenL, Z.rLenU, List.length_map, L2.tPar, Z.tCallK0, List.getD_cons_zero, List.getD_cons_succ, sp_is_integer]
    split <;> simp_all
def isSize (r : Bool) (n m : Int) : Bool := if r then (decide (3 ≤ n ∧ n ≤ m) && decide (n % 2 = 1)) else (decide (2 ≤ n ∧ n ≤ m) && decide (n % 2 = 0))
def sp_is_size : Sp := fun vs H Q _ => ∃ (r : Bool) (n m : Int), vs = [.str (kindS r), .int n, .int m] ∧ Q (.bl (isSize r n m)) H
theorem ok_is_size (T : Env K mg) : Hd P w K mg base CX0 3 "is_size" s_is_size ["kind", "value", "most"] sp_is_size := by
  have H_is_between := ok_is_between (P := P) (w := w) (base := base) T
  obtain ⟨f, fd, F, hm⟩ := T.d_is_size
  refine ⟨⟨f, fd, F, hm, ?_⟩, fun _ _ _ _ _ _ _ us hl => match us, hl with | [_, _, _], _ => rfl⟩
  refine F.ok sc_is_size (fun vs H Q E h => ?_) (fun cdv A outer s H vs Q E hr h => ?_)
  · first | (obtain ⟨rfl, _⟩ := h; rfl) | (obtain ⟨_, rfl, _⟩ := h; rfl) | (obtain ⟨_, _, rfl, _⟩ := h; rfl) | (obtain ⟨_, _, _, rfl, _⟩ := h; rfl) | (obtain ⟨_, _, _, _, rfl, _⟩ := h; rfl) | (obtain ⟨_, _, _, _, _, rfl, _⟩ := h; rfl) | (obtain ⟨_, _, _, _, _, _, rfl, _⟩ := h; rfl) | (obtain ⟨_, _, _, _, _, _, _, rfl, _⟩ := h; rfl) | (obtain ⟨_, _, _, _, _, _, _, _, rfl, _⟩ := h; rfl)
  · obtain ⟨r, n, m, rfl, q⟩ := h
    have hu := hu_of hr
    refine ⟨_, pss_cons (ps_if (pt_cmpR op_eq (pv 0) (pe_glob (v := .str "rings") rfl T.c_RINGS.choose_spec ⟨_, rfl⟩) (nomark _)) (pss_one (ps_ret (pe_and (pe_hd H_is_between (hr.mono (by decide)) rfl pass0 (pa_cons (pv 1) (pa_cons pe_int (pa_cons (pv 2) pa_nil)))) (pe_one (pe_cmpR op_eq (pe_op op_mod (pv 1) pe_int) pe_int (nomark _))))))
      (pss_nil))
      (pss_one (ps_ret (pe_and (pe_hd H_is_between (hr.mono (by decide)) rfl pass0 (pa_cons (pv 1) (pa_cons pe_int (pa_cons (pv 2) pa_nil)))) (pe_one (pe_cmpR op_eq (pe_op op_mod (pv 1) pe_int) pe_int (nomark _)))))), ?_⟩
    simp only [L2.start, List.map_cons, List.map_nil, List.length_cons, List.length_nil, Nat.zero_add, Nat.reduceAdd, Nat.reduceSub, List.replicate_succ, List.replicate_zero, List.cons_append, List.nil_append, List.append_nil, L2.tSeq, L2.tNext, L2.tAsg, L2.gName, L2.tRet, L2.tRetN, L2.tIfS, L2.tVar, L2.tC, L2.tOp, L2.tUn, L2.rI, L2.rI0, L2.rU, L2.rEq, L2.rNe, L2.tTest, L2.tB, L2.tIf, Z.tIfCI, Z.tIfCS, L2.tChain, L2.tCons, L2.tNil, L2.tCall, L2.tDrop, L2.tAndV, L2.tOrV, L2.tNotV, L2.tAnd, L2.tOr, L2.tNot, L2.tCB, Z.sc_ii, Z.sc_ss, Z.sc_bb, Z.sc_is, Z.sc_si, Z.sc_ni, Z.sc_in, Z.sc_ns, Z.sc_sn, Z.sc_nn, L2.CDiv, L2.CPow, L2.CMul, List.getElem?_cons_zero, List.getElem?_cons_succ, Z.set_z, Z.set_s, Option.some.injEq, L2.V.int.injEq, L2.V.bl.injEq, L2.V.str.injEq, L2.V.ref.injEq, L2.V.ty.injEq, List.cons.injEq, exists_eq_left', exists_and_left, exists_eq_left, exists_eq_right, exists_eq_right', exists_eq', exists_eq, true_and, and_true, and_assoc, decide_eq_true_eq, Int.reduceLT, and_self, Z.rIxH, Z.rIxU, Z.at30, Z.at31, Z.at32, Z.ix3_0, Z.ix3_1, Z.ix3_2, L2.rSetL, L2.gSub, Z.gTupH, L2.gCons, L2.gNil, L2.HO.lst.injEq, L2.HO.tup.injEq, L2.upd_same, L2.upd_upd, L2.tSl, L2.tNoPart, L2.tPart, L2.rSlL, L2.rCat, List.length_append, or_false, false_or, or_true, true_or, reduceCtorEq, false_and, and_false, exists_false, Int.reduceNeg, Int.reducePow, Int.reduceToNat, Int.reduceAbs, Int.reduceLE, Int.reduceMul, Int.reduceAdd, Int.reduceSub, Nat.reducePow, Nat.reduceLT, Nat.reduceLeDiff, Int.natAbs_natCast, if_true, if_false, Z.rIsN, Z.tyN, Z.kit_ii, Z.kit_bi, Z.kit_si, Z.kit_ni, Z.kit_ib, Z.kit_bb, Z.kit_sb, Z.kit_nb, Z.kit_is, Z.kit_bs, Z.kit_ss, Z.kit_ns, Bool.not_true, Bool.not_false, L2.tTup, L2.tLst, L2.wipe, L2.tYes, Z.Turn1, L2.tNever, sizeLine_eq, Z.rInU, Z.rInH, L2.flatV, List.any_cons, List.any_nil, List.all_cons, List.all_nil, Bool.and_true, Bool.true_and, Bool.or_false, Bool.false_or, Z.tBML, L2.rAppend, Z.map_int_inj, Z.map_bl_inj, Z.rTupL, Z.rLstL, Z.rLstT, Z.rSortI, Z.rAnyH, Z.rAllH, Z.rSumH, Z.rLenL, Z.rLenU, List.length_map, L2.tPar, Z.tCallK0, List.getD_cons_zero, List.getD_cons_succ, sp_is_between, kind_eq]
    unfold isSize at q
    (repeat' split) <;> simp_all
def sp_evenings_for : Sp := fun vs H Q _ => ∃ (r : Bool) (n : Int), vs = [.str (kindS r), .int n] ∧ Q (.int (nights r n)) H
theorem ok_evenings_for (T : Env K mg) : Hd P w K mg base CX0 1 "evenings_for" s_evenings_for ["kind", "many"] sp_evenings_for := by
  obtain ⟨f, fd, F, hm⟩ := T.d_evenings_for
  refine ⟨⟨f, fd, F, hm, ?_⟩, fun _ _ _ _ _ _ _ us hl => match us, hl with | [_, _], _ => rfl⟩
  refine F.ok sc_evenings_for (fun vs H Q E h => ?_) (fun cdv A outer s H vs Q E hr h => ?_)
  · first | (obtain ⟨rfl, _⟩ := h; rfl) | (obtain ⟨_, rfl, _⟩ := h; rfl) | (obtain ⟨_, _, rfl, _⟩ := h; rfl) | (obtain ⟨_, _, _, rfl, _⟩ := h; rfl) | (obtain ⟨_, _, _, _, rfl, _⟩ := h; rfl) | (obtain ⟨_, _, _, _, _, rfl, _⟩ := h; rfl) | (obtain ⟨_, _, _, _, _, _, rfl, _⟩ := h; rfl) | (obtain ⟨_, _, _, _, _, _, _, rfl, _⟩ := h; rfl) | (obtain ⟨_, _, _, _, _, _, _, _, rfl, _⟩ := h; rfl)
  · obtain ⟨r, n, rfl, q⟩ := h
    have hu := hu_of hr
    refine ⟨_, pss_one (ps_ret (pe_ifExp (pt_cmpR op_eq (pv 0) (pe_glob (v := .str "rings") rfl T.c_RINGS.choose_spec ⟨_, rfl⟩) (nomark _)) (pe_op op_fdiv (pe_op op_sub (pv 1) pe_int) pe_int) (pe_op op_fdiv (pv 1) pe_int))), ?_⟩
    simp only [L2.start, List.map_cons, List.map_nil, List.length_cons, List.length_nil, Nat.zero_add, Nat.reduceAdd, Nat.reduceSub, List.replicate_succ, List.replicate_zero, List.cons_append, List.nil_append, List.append_nil, L2.tSeq, L2.tNext, L2.tAsg, L2.gName, L2.tRet, L2.tRetN, L2.tIfS, L2.tVar, L2.tC, L2.tOp, L2.tUn, L2.rI, L2.rI0, L2.rU, L2.rEq, L2.rNe, L2.tTest, L2.tB, L2.tIf, Z.tIfCI, Z.tIfCS, L2.tChain, L2.tCons, L2.tNil, L2.tCall, L2.tDrop, L2.tAndV, L2.tOrV, L2.tNotV, L2.tAnd, L2.tOr, L2.tNot, L2.tCB, Z.sc_ii, Z.sc_ss, Z.sc_bb, Z.sc_is, Z.sc_si, Z.sc_ni, Z.sc_in, Z.sc_ns, Z.sc_sn, Z.sc_nn, L2.CDiv, L2.CPow, L2.CMul, List.getElem?_cons_zero, List.getElem?_cons_succ, Z.set_z, Z.set_s, Option.some.injEq, L2.V.int.injEq, L2.V.bl.injEq, L2.V.str.injEq, L2.V.ref.injEq, L2.V.ty.injEq, List.cons.injEq, exists_eq_left', exists_and_left, exists_eq_left, exists_eq_right, exists_eq_right', exists_eq', exists_eq, true_and, and_true, and_assoc, decide_eq_true_eq, Int.reduceLT, and_self, Z.rIxH, Z.rIxU, Z.at30, Z.at31, Z.at32, Z.ix3_0, Z.ix3_1, Z.ix3_2, L2.rSetL, L2.gSub, Z.gTupH, L2.gCons, L2.gNil, L2.HO.lst.injEq, L2.HO.tup.injEq, L2.upd_same, L2.upd_upd, L2.tSl, L2.tNoPart, L2.tPart, L2.rSlL, L2.rCat, List.length_append, or_false, false_or, or_true, true_or, reduceCtorEq, false_and, and_false, exists_false, Int.reduceNeg, Int.reducePow, Int.reduceToNat, Int.reduceAbs, Int.reduceLE, Int.reduceMul, Int.reduceAdd, Int.reduceSub, Nat.reducePow, Nat.reduceLT, Nat.reduceLeDiff, Int.natAbs_natCast, if_true, if_false, Z.rIsN, Z.tyN, Z.kit_ii, Z.kit_bi, Z.kit_si, Z.kit_ni, Z.kit_ib, Z.kit_bb, Z.kit_sb, Z.kit_nb, Z.kit_is, Z.kit_bs, Z.kit_ss, Z.kit_ns, Bool.not_true, Bool.not_false, L2.tTup, L2.tLst, L2.wipe, L2.tYes, Z.Turn1, L2.tNever, sizeLine_eq, Z.rInU, Z.rInH, L2.flatV, List.any_cons, List.any_nil, List.all_cons, List.all_nil, Bool.and_true, Bool.true_and, Bool.or_false, Bool.false_or, Z.tBML, L2.rAppend, Z.map_int_inj, Z.map_bl_inj, Z.rTupL, Z.rLstL, Z.rLstT, Z.rSortI, Z.rAnyH, Z.rAllH, Z.rSumH, Z.rLenL, Z.rLenU, List.length_map, L2.tPar, Z.tCallK0, List.getD_cons_zero, List.getD_cons_succ, kind_eq]
    unfold nights at q
    split <;> simp_all
def sp_check_kind : Sp := fun vs H Q _ => ∃ (r : Bool), vs = [.str (kindS r)] ∧ ∀ H', Same H H' → Q .non H'
theorem ok_check_kind (T : Env K mg) : Hd P w K mg base CX0 1 "check_kind" s_check_kind ["kind"] sp_check_kind := by
  obtain ⟨f, fd, F, hm⟩ := T.d_check_kind
  refine ⟨⟨f, fd, F, hm, ?_⟩, fun _ _ _ _ _ _ _ us hl => match us, hl with | [_], _ => rfl⟩
  refine F.ok sc_check_kind (fun vs H Q E h => ?_) (fun cdv A outer s H vs Q E hr h => ?_)
  · first | (obtain ⟨rfl, _⟩ := h; rfl) | (obtain ⟨_, rfl, _⟩ := h; rfl) | (obtain ⟨_, _, rfl, _⟩ := h; rfl) | (obtain ⟨_, _, _, rfl, _⟩ := h; rfl) | (obtain ⟨_, _, _, _, rfl, _⟩ := h; rfl) | (obtain ⟨_, _, _, _, _, rfl, _⟩ := h; rfl) | (obtain ⟨_, _, _, _, _, _, rfl, _⟩ := h; rfl) | (obtain ⟨_, _, _, _, _, _, _, rfl, _⟩ := h; rfl) | (obtain ⟨_, _, _, _, _, _, _, _, rfl, _⟩ := h; rfl)
  · obtain ⟨r, rfl, q⟩ := h
    have hu := hu_of hr
    refine ⟨_, pss_one (ps_if (PW.pt (pw_or (pt_not (pt_val (pe_callB call_isN rfl T.b_isinstance (by decide +kernel) (pa_cons (pv 0) (pa_cons (pe_bltn (v := .ty "str") (by rfl) T.b_str (by decide +kernel) rfl) pa_nil))))) (pw_or1 (pt_cmpR op_notIn_tupH (pv 0) (pe_tup (pa_cons (pe_glob (v := .str "rings") rfl T.c_RINGS.choose_spec ⟨_, rfl⟩) (pa_cons (pe_glob (v := .str "rows") rfl T.c_ROWS.choose_spec ⟨_, rfl⟩) pa_nil))) (by rfl))))) (pss_one (ps_never))
      (pss_nil)), ?_⟩
    simp only [L2.start, List.map_cons, List.map_nil, List.length_cons, List.length_nil, Nat.zero_add, Nat.reduceAdd, Nat.reduceSub, List.replicate_succ, List.replicate_zero, List.cons_append, List.nil_append, List.append_nil, L2.tSeq, L2.tNext, L2.tAsg, L2.gName, L2.tRet, L2.tRetN, L2.tIfS, L2.tVar, L2.tC, L2.tOp, L2.tUn, L2.rI, L2.rI0, L2.rU, L2.rEq, L2.rNe, L2.tTest, L2.tB, L2.tIf, Z.tIfCI, Z.tIfCS, L2.tChain, L2.tCons, L2.tNil, L2.tCall, L2.tDrop, L2.tAndV, L2.tOrV, L2.tNotV, L2.tAnd, L2.tOr, L2.tNot, L2.tCB, Z.sc_ii, Z.sc_ss, Z.sc_bb, Z.sc_is, Z.sc_si, Z.sc_ni, Z.sc_in, Z.sc_ns, Z.sc_sn, Z.sc_nn, L2.CDiv, L2.CPow, L2.CMul, List.getElem?_cons_zero, List.getElem?_cons_succ, Z.set_z, Z.set_s, Option.some.injEq, L2.V.int.injEq, L2.V.bl.injEq, L2.V.str.injEq, L2.V.ref.injEq, L2.V.ty.injEq, List.cons.injEq, exists_eq_left', exists_and_left, exists_eq_left, exists_eq_right, exists_eq_right', exists_eq', exists_eq, true_and, and_true, and_assoc, decide_eq_true_eq, Int.reduceLT, and_self, Z.rIxH, Z.rIxU, Z.at30, Z.at31, Z.at32, Z.ix3_0, Z.ix3_1, Z.ix3_2, L2.rSetL, L2.gSub, Z.gTupH, L2.gCons, L2.gNil, L2.HO.lst.injEq, L2.HO.tup.injEq, L2.upd_same, L2.upd_upd, L2.tSl, L2.tNoPart, L2.tPart, L2.rSlL, L2.rCat, List.length_append, or_false, false_or, or_true, true_or, reduceCtorEq, false_and, and_false, exists_false, Int.reduceNeg, Int.reducePow, Int.reduceToNat, Int.reduceAbs, Int.reduceLE, Int.reduceMul, Int.reduceAdd, Int.reduceSub, Nat.reducePow, Nat.reduceLT, Nat.reduceLeDiff, Int.natAbs_natCast, if_true, if_false, Z.rIsN, Z.tyN, Z.kit_ii, Z.kit_bi, Z.kit_si, Z.kit_ni, Z.kit_ib, Z.kit_bb, Z.kit_sb, Z.kit_nb, Z.kit_is, Z.kit_bs, Z.kit_ss, Z.kit_ns, Bool.not_true, Bool.not_false, L2.tTup, L2.tLst, L2.wipe, L2.tYes, Z.Turn1, L2.tNever, sizeLine_eq, Z.rInU, Z.rInH, L2.flatV, List.any_cons, List.any_nil, List.all_cons, List.all_nil, Bool.and_true, Bool.true_and, Bool.or_false, Bool.false_or, Z.tBML, L2.rAppend, Z.map_int_inj, Z.map_bl_inj, Z.rTupL, Z.rLstL, Z.rLstT, Z.rSortI, Z.rAnyH, Z.rAllH, Z.rSumH, Z.rLenL, Z.rLenU, List.length_map, L2.tPar, Z.tCallK0, List.getD_cons_zero, List.getD_cons_succ, kind_eq, L2.inV, L2.eqV]
    intro p hp
    cases r
    · exact q _ (same_new hp)
    · exact q _ (same_new hp)
def sp_check_size : Sp := fun vs H Q _ => ∃ (r : Bool) (n : Int), vs = [.str (kindS r), .int n] ∧ isSize r n 1000000000000000000000000000000 = true ∧ Q .non H
theorem ok_check_size (T : Env K mg) : Hd P w K mg base CX0 4 "check_size" s_check_size ["kind", "n"] sp_check_size := by
  have H_is_size := ok_is_size (P := P) (w := w) (base := base) T
  obtain ⟨f, fd, F, hm⟩ := T.d_check_size
  refine ⟨⟨f, fd, F, hm, ?_⟩, fun _ _ _ _ _ _ _ us hl => match us, hl with | [_, _], _ => rfl⟩
  refine F.ok sc_check_size (fun vs H Q E h => ?_) (fun cdv A outer s H vs Q E hr h => ?_)
  · first | (obtain ⟨rfl, _⟩ := h; rfl) | (obtain ⟨_, rfl, _⟩ := h; rfl) | (obtain ⟨_, _, rfl, _⟩ := h; rfl) | (obtain ⟨_, _, _, rfl, _⟩ := h; rfl) | (obtain ⟨_, _, _, _, rfl, _⟩ := h; rfl) | (obtain ⟨_, _, _, _, _, rfl, _⟩ := h; rfl) | (obtain ⟨_, _, _, _, _, _, rfl, _⟩ := h; rfl) | (obtain ⟨_, _, _, _, _, _, _, rfl, _⟩ := h; rfl) | (obtain ⟨_, _, _, _, _, _, _, _, rfl, _⟩ := h; rfl)
  · obtain ⟨r, n, rfl, hn, q⟩ := h
    have hu := hu_of hr
    refine ⟨_, pss_one (ps_if (pt_not (pt_val (pe_hd H_is_size (hr.mono (by decide)) rfl pass0 (pa_cons (pv 0) (pa_cons (pv 1) (pa_cons (pe_glob (v := .int 1000000000000000000000000000000) rfl T.c_MOST_ZIGZAG.choose_spec ⟨_, rfl⟩) pa_nil)))))) (pss_one (ps_never))
      (pss_nil)), ?_⟩
    simp only [L2.start, List.map_cons, List.map_nil, List.length_cons, List.length_nil, Nat.zero_add, Nat.reduceAdd, Nat.reduceSub, List.replicate_succ, List.replicate_zero, List.cons_append, List.nil_append, List.append_nil, L2.tSeq, L2.tNext, L2.tAsg, L2.gName, L2.tRet, L2.tRetN, L2.tIfS, L2.tVar, L2.tC, L2.tOp, L2.tUn, L2.rI, L2.rI0, L2.rU, L2.rEq, L2.rNe, L2.tTest, L2.tB, L2.tIf, Z.tIfCI, Z.tIfCS, L2.tChain, L2.tCons, L2.tNil, L2.tCall, L2.tDrop, L2.tAndV, L2.tOrV, L2.tNotV, L2.tAnd, L2.tOr, L2.tNot, L2.tCB, Z.sc_ii, Z.sc_ss, Z.sc_bb, Z.sc_is, Z.sc_si, Z.sc_ni, Z.sc_in, Z.sc_ns, Z.sc_sn, Z.sc_nn, L2.CDiv, L2.CPow, L2.CMul, List.getElem?_cons_zero, List.getElem?_cons_succ, Z.set_z, Z.set_s, Option.some.injEq, L2.V.int.injEq, L2.V.bl.injEq, L2.V.str.injEq, L2.V.ref.injEq, L2.V.ty.injEq, List.cons.injEq, exists_eq_left', exists_and_left, exists_eq_left, exists_eq_right, exists_eq_right', exists_eq', exists_eq, true_and, and_true, and_assoc, decide_eq_true_eq, Int.reduceLT, and_self, Z.rIxH, Z.rIxU, Z.at30, Z.at31, Z.at32, Z.ix3_0, Z.ix3_1, Z.ix3_2, L2.rSetL, L2.gSub, Z.gTupH, L2.gCons, L2.gNil, L2.HO.lst.injEq, L2.HO.tup.injEq, L2.upd_same, L2.upd_upd, L2.tSl, L2.tNoPart, L2.tPart, L2.rSlL, L2.rCat, List.length_append, or_false, false_or, or_true, true_or, reduceCtorEq, false_and, and_false, exists_false, Int.reduceNeg, Int.reducePow, Int.reduceToNat, Int.reduceAbs, Int.reduceLE, Int.reduceMul, Int.reduceAdd, Int.reduceSub, Nat.reducePow, Nat.reduceLT, Nat.reduceLeDiff, Int.natAbs_natCast, if_true, if_false, Z.rIsN, Z.tyN, Z.kit_ii, Z.kit_bi, Z.kit_si, Z.kit_ni, Z.kit_ib, Z.kit_bb, Z.kit_sb, Z.kit_nb, Z.kit_is, Z.kit_bs, Z.kit_ss, Z.kit_ns, Bool.not_true, Bool.not_false, L2.tTup, L2.tLst, L2.wipe, L2.tYes, Z.Turn1, L2.tNever, sizeLine_eq, Z.rInU, Z.rInH, L2.flatV, List.any_cons, List.any_nil, List.all_cons, List.all_nil, Bool.and_true, Bool.true_and, Bool.or_false, Bool.false_or, Z.tBML, L2.rAppend, Z.map_int_inj, Z.map_bl_inj, Z.rTupL, Z.rLstL, Z.rLstT, Z.rSortI, Z.rAnyH, Z.rAllH, Z.rSumH, Z.rLenL, Z.rLenU, List.length_map, L2.tPar, Z.tCallK0, List.getD_cons_zero, List.getD_cons_succ, sp_is_size, kind_eq, kind_inj]
    rw [hn]
    exact q
def sp_round_size : Sp := fun vs H Q _ => ∃ (r : Bool) (n : Int), vs = [.str (kindS r), .int n] ∧ Q (.int (if r then n - 1 else n)) H
theorem ok_round_size (T : Env K mg) : Hd P w K mg base CX0 1 "round_size" s_round_size ["kind", "n"] sp_round_size := by
  obtain ⟨f, fd, F, hm⟩ := T.d_round_size
  refine ⟨⟨f, fd, F, hm, ?_⟩, fun _ _ _ _ _ _ _ us hl => match us, hl with | [_, _], _ => rfl⟩
  refine F.ok sc_round_size (fun vs H Q E h => ?_) (fun cdv A outer s H vs Q E hr h => ?_)
  · first | (obtain ⟨rfl, _⟩ := h; rfl) | (obtain ⟨_, rfl, _⟩ := h; rfl) | (obtain ⟨_, _, rfl, _⟩ := h; rfl) | (obtain ⟨_, _, _, rfl, _⟩ := h; rfl) | (obtain ⟨_, _, _, _, rfl, _⟩ := h; rfl) | (obtain ⟨_, _, _, _, _, rfl, _⟩ := h; rfl) | (obtain ⟨_, _, _, _, _, _, rfl, _⟩ := h; rfl) | (obtain ⟨_, _, _, _, _, _, _, rfl, _⟩ := h; rfl) | (obtain ⟨_, _, _, _, _, _, _, _, rfl, _⟩ := h; rfl)
  · obtain ⟨r, n, rfl, q⟩ := h
    have hu := hu_of hr
    refine ⟨_, pss_one (ps_ret (pe_ifExp (pt_cmpR op_eq (pv 0) (pe_glob (v := .str "rings") rfl T.c_RINGS.choose_spec ⟨_, rfl⟩) (nomark _)) (pe_op op_sub (pv 1) pe_int) (pv 1))), ?_⟩
    simp only [L2.start, List.map_cons, List.map_nil, List.length_cons, List.length_nil, Nat.zero_add, Nat.reduceAdd, Nat.reduceSub, List.replicate_succ, List.replicate_zero, List.cons_append, List.nil_append, List.append_nil, L2.tSeq, L2.tNext, L2.tAsg, L2.gName, L2.tRet, L2.tRetN, L2.tIfS, L2.tVar, L2.tC, L2.tOp, L2.tUn, L2.rI, L2.rI0, L2.rU, L2.rEq, L2.rNe, L2.tTest, L2.tB, L2.tIf, Z.tIfCI, Z.tIfCS, L2.tChain, L2.tCons, L2.tNil, L2.tCall, L2.tDrop, L2.tAndV, L2.tOrV, L2.tNotV, L2.tAnd, L2.tOr, L2.tNot, L2.tCB, Z.sc_ii, Z.sc_ss, Z.sc_bb, Z.sc_is, Z.sc_si, Z.sc_ni, Z.sc_in, Z.sc_ns, Z.sc_sn, Z.sc_nn, L2.CDiv, L2.CPow, L2.CMul, List.getElem?_cons_zero, List.getElem?_cons_succ, Z.set_z, Z.set_s, Option.some.injEq, L2.V.int.injEq, L2.V.bl.injEq, L2.V.str.injEq, L2.V.ref.injEq, L2.V.ty.injEq, List.cons.injEq, exists_eq_left', exists_and_left, exists_eq_left, exists_eq_right, exists_eq_right', exists_eq', exists_eq, true_and, and_true, and_assoc, decide_eq_true_eq, Int.reduceLT, and_self, Z.rIxH, Z.rIxU, Z.at30, Z.at31, Z.at32, Z.ix3_0, Z.ix3_1, Z.ix3_2, L2.rSetL, L2.gSub, Z.gTupH, L2.gCons, L2.gNil, L2.HO.lst.injEq, L2.HO.tup.injEq, L2.upd_same, L2.upd_upd, L2.tSl, L2.tNoPart, L2.tPart, L2.rSlL, L2.rCat, List.length_append, or_false, false_or, or_true, true_or, reduceCtorEq, false_and, and_false, exists_false, Int.reduceNeg, Int.reducePow, Int.reduceToNat, Int.reduceAbs, Int.reduceLE, Int.reduceMul, Int.reduceAdd, Int.reduceSub, Nat.reducePow, Nat.reduceLT, Nat.reduceLeDiff, Int.natAbs_natCast, if_true, if_false, Z.rIsN, Z.tyN, Z.kit_ii, Z.kit_bi, Z.kit_si, Z.kit_ni, Z.kit_ib, Z.kit_bb, Z.kit_sb, Z.kit_nb, Z.kit_is, Z.kit_bs, Z.kit_ss, Z.kit_ns, Bool.not_true, Bool.not_false, L2.tTup, L2.tLst, L2.wipe, L2.tYes, Z.Turn1, L2.tNever, sizeLine_eq, Z.rInU, Z.rInH, L2.flatV, List.any_cons, List.any_nil, List.all_cons, List.all_nil, Bool.and_true, Bool.true_and, Bool.or_false, Bool.false_or, Z.tBML, L2.rAppend, Z.map_int_inj, Z.map_bl_inj, Z.rTupL, Z.rLstL, Z.rLstT, Z.rSortI, Z.rAnyH, Z.rAllH, Z.rSumH, Z.rLenL, Z.rLenU, List.length_map, L2.tPar, Z.tCallK0, List.getD_cons_zero, List.getD_cons_succ, kind_eq]
    split <;> simp_all
def sp_person_in : Sp := fun vs H Q _ => ∃ s e i : Int, vs = [.int s, .int e, .int i] ∧ 0 < s ∧ Q (.int (personIn s e i)) H
theorem ok_person_in (T : Env K mg) : Hd P w K mg base CX0 1 "person_in" s_person_in ["size", "evening", "index"] sp_person_in := by
  obtain ⟨f, fd, F, hm⟩ := T.d_person_in
  refine ⟨⟨f, fd, F, hm, ?_⟩, fun _ _ _ _ _ _ _ us hl => match us, hl with | [_, _, _], _ => rfl⟩
  refine F.ok sc_person_in (fun vs H Q E h => ?_) (fun cdv A outer s H vs Q E hr h => ?_)
  · first | (obtain ⟨rfl, _⟩ := h; rfl) | (obtain ⟨_, rfl, _⟩ := h; rfl) | (obtain ⟨_, _, rfl, _⟩ := h; rfl) | (obtain ⟨_, _, _, rfl, _⟩ := h; rfl) | (obtain ⟨_, _, _, _, rfl, _⟩ := h; rfl) | (obtain ⟨_, _, _, _, _, rfl, _⟩ := h; rfl) | (obtain ⟨_, _, _, _, _, _, rfl, _⟩ := h; rfl) | (obtain ⟨_, _, _, _, _, _, _, rfl, _⟩ := h; rfl) | (obtain ⟨_, _, _, _, _, _, _, _, rfl, _⟩ := h; rfl)
  · obtain ⟨z, e, i, rfl, hz, q⟩ := h
    have hu := hu_of hr
    refine ⟨_, pss_cons (ps_set (i := 3) sc_person_in.nd rfl (by first | exact .inl rfl | exact .inr rfl) (pe_op op_fdiv (pe_op op_add (pv 2) pe_int) pe_int))
      (pss_one (ps_ret (pe_op op_mod (pe_op op_add (pv 1) (pe_ifExp (pt_cmpR op_eq (pe_op op_mod (pv 2) pe_int) pe_int (nomark _)) (pv 3) (pe_un un_neg (pv 3)))) (pv 0)))), ?_⟩
    simp only [L2.start, List.map_cons, List.map_nil, List.length_cons, List.length_nil, Nat.zero_add, Nat.reduceAdd, Nat.reduceSub, List.replicate_succ, List.replicate_zero, List.cons_append, List.nil_append, List.append_nil, L2.tSeq, L2.tNext, L2.tAsg, L2.gName, L2.tRet, L2.tRetN, L2.tIfS, L2.tVar, L2.tC, L2.tOp, L2.tUn, L2.rI, L2.rI0, L2.rU, L2.rEq, L2.rNe, L2.tTest, L2.tB, L2.tIf, Z.tIfCI, Z.tIfCS, L2.tChain, L2.tCons, L2.tNil, L2.tCall, L2.tDrop, L2.tAndV, L2.tOrV, L2.tNotV, L2.tAnd, L2.tOr, L2.tNot, L2.tCB, Z.sc_ii, Z.sc_ss, Z.sc_bb, Z.sc_is, Z.sc_si, Z.sc_ni, Z.sc_in, Z.sc_ns, Z.sc_sn, Z.sc_nn, L2.CDiv, L2.CPow, L2.CMul, List.getElem?_cons_zero, List.getElem?_cons_succ, Z.set_z, Z.set_s, Option.some.injEq, L2.V.int.injEq, L2.V.bl.injEq, L2.V.str.injEq, L2.V.ref.injEq, L2.V.ty.injEq, List.cons.injEq, exists_eq_left', exists_and_left, exists_eq_left, exists_eq_right, exists_eq_right', exists_eq', exists_eq, true_and, and_true, and_assoc, decide_eq_true_eq, Int.reduceLT, and_self, Z.rIxH, Z.rIxU, Z.at30, Z.at31, Z.at32, Z.ix3_0, Z.ix3_1, Z.ix3_2, L2.rSetL, L2.gSub, Z.gTupH, L2.gCons, L2.gNil, L2.HO.lst.injEq, L2.HO.tup.injEq, L2.upd_same, L2.upd_upd, L2.tSl, L2.tNoPart, L2.tPart, L2.rSlL, L2.rCat, List.length_append, or_false, false_or, or_true, true_or, reduceCtorEq, false_and, and_false, exists_false, Int.reduceNeg, Int.reducePow, Int.reduceToNat, Int.reduceAbs, Int.reduceLE, Int.reduceMul, Int.reduceAdd, Int.reduceSub, Nat.reducePow, Nat.reduceLT, Nat.reduceLeDiff, Int.natAbs_natCast, if_true, if_false, Z.rIsN, Z.tyN, Z.kit_ii, Z.kit_bi, Z.kit_si, Z.kit_ni, Z.kit_ib, Z.kit_bb, Z.kit_sb, Z.kit_nb, Z.kit_is, Z.kit_bs, Z.kit_ss, Z.kit_ns, Bool.not_true, Bool.not_false, L2.tTup, L2.tLst, L2.wipe, L2.tYes, Z.Turn1, L2.tNever, sizeLine_eq, Z.rInU, Z.rInH, L2.flatV, List.any_cons, List.any_nil, List.all_cons, List.all_nil, Bool.and_true, Bool.true_and, Bool.or_false, Bool.false_or, Z.tBML, L2.rAppend, Z.map_int_inj, Z.map_bl_inj, Z.rTupL, Z.rLstL, Z.rLstT, Z.rSortI, Z.rAnyH, Z.rAllH, Z.rSumH, Z.rLenL, Z.rLenU, List.length_map, L2.tPar, Z.tCallK0, List.getD_cons_zero, List.getD_cons_succ]
    unfold personIn at q
    split <;> simp_all
def sp_index_in : Sp := fun vs H Q _ => ∃ s e i : Int, vs = [.int s, .int e, .int i] ∧ 0 < s ∧ Q (.int (indexIn s e i)) H
theorem ok_index_in (T : Env K mg) : Hd P w K mg base CX0 1 "index_in" s_index_in ["size", "evening", "person"] sp_index_in := by
  obtain ⟨f, fd, F, hm⟩ := T.d_index_in
  refine ⟨⟨f, fd, F, hm, ?_⟩, fun _ _ _ _ _ _ _ us hl => match us, hl with | [_, _, _], _ => rfl⟩
  refine F.ok sc_index_in (fun vs H Q E h => ?_) (fun cdv A outer s H vs Q E hr h => ?_)
  · first | (obtain ⟨rfl, _⟩ := h; rfl) | (obtain ⟨_, rfl, _⟩ := h; rfl) | (obtain ⟨_, _, rfl, _⟩ := h; rfl) | (obtain ⟨_, _, _, rfl, _⟩ := h; rfl) | (obtain ⟨_, _, _, _, rfl, _⟩ := h; rfl) | (obtain ⟨_, _, _, _, _, rfl, _⟩ := h; rfl) | (obtain ⟨_, _, _, _, _, _, rfl, _⟩ := h; rfl) | (obtain ⟨_, _, _, _, _, _, _, rfl, _⟩ := h; rfl) | (obtain ⟨_, _, _, _, _, _, _, _, rfl, _⟩ := h; rfl)
  · obtain ⟨z, e, i, rfl, hz, q⟩ := h
    have hu := hu_of hr
    refine ⟨_, pss_cons (ps_set (i := 3) sc_index_in.nd rfl (by first | exact .inl rfl | exact .inr rfl) (pe_op op_mod (pe_op op_sub (pv 2) (pv 1)) (pv 0)))
      (pss_one (ps_ret (pe_ifExp (pt_chain op_lt op_le pe_int (pv 3) (pe_op op_fdiv (pv 0) pe_int)) (pe_op op_sub (pe_op op_mul pe_int (pv 3)) pe_int) (pe_op op_mul pe_int (pe_op op_mod (pe_op op_sub (pv 0) (pv 3)) (pv 0)))))), ?_⟩
    simp only [L2.start, List.map_cons, List.map_nil, List.length_cons, List.length_nil, Nat.zero_add, Nat.reduceAdd, Nat.reduceSub, List.replicate_succ, List.replicate_zero, List.cons_append, List.nil_append, List.append_nil, L2.tSeq, L2.tNext, L2.tAsg, L2.gName, L2.tRet, L2.tRetN, L2.tIfS, L2.tVar, L2.tC, L2.tOp, L2.tUn, L2.rI, L2.rI0, L2.rU, L2.rEq, L2.rNe, L2.tTest, L2.tB, L2.tIf, Z.tIfCI, Z.tIfCS, L2.tChain, L2.tCons, L2.tNil, L2.tCall, L2.tDrop, L2.tAndV, L2.tOrV, L2.tNotV, L2.tAnd, L2.tOr, L2.tNot, L2.tCB, Z.sc_ii, Z.sc_ss, Z.sc_bb, Z.sc_is, Z.sc_si, Z.sc_ni, Z.sc_in, Z.sc_ns, Z.sc_sn, Z.sc_nn, L2.CDiv, L2.CPow, L2.CMul, List.getElem?_cons_zero, List.getElem?_cons_succ, Z.set_z, Z.set_s, Option.some.injEq, L2.V.int.injEq, L2.V.bl.injEq, L2.V.str.injEq, L2.V.ref.injEq, L2.V.ty.injEq, List.cons.injEq, exists_eq_left', exists_and_left, exists_eq_left, exists_eq_right, exists_eq_right', exists_eq', exists_eq, true_and, and_true, and_assoc, decide_eq_true_eq, Int.reduceLT, and_self, Z.rIxH, Z.rIxU, Z.at30, Z.at31, Z.at32, Z.ix3_0, Z.ix3_1, Z.ix3_2, L2.rSetL, L2.gSub, Z.gTupH, L2.gCons, L2.gNil, L2.HO.lst.injEq, L2.HO.tup.injEq, L2.upd_same, L2.upd_upd, L2.tSl, L2.tNoPart, L2.tPart, L2.rSlL, L2.rCat, List.length_append, or_false, false_or, or_true, true_or, reduceCtorEq, false_and, and_false, exists_false, Int.reduceNeg, Int.reducePow, Int.reduceToNat, Int.reduceAbs, Int.reduceLE, Int.reduceMul, Int.reduceAdd, Int.reduceSub, Nat.reducePow, Nat.reduceLT, Nat.reduceLeDiff, Int.natAbs_natCast, if_true, if_false, Z.rIsN, Z.tyN, Z.kit_ii, Z.kit_bi, Z.kit_si, Z.kit_ni, Z.kit_ib, Z.kit_bb, Z.kit_sb, Z.kit_nb, Z.kit_is, Z.kit_bs, Z.kit_ss, Z.kit_ns, Bool.not_true, Bool.not_false, L2.tTup, L2.tLst, L2.wipe, L2.tYes, Z.Turn1, L2.tNever, sizeLine_eq, Z.rInU, Z.rInH, L2.flatV, List.any_cons, List.any_nil, List.all_cons, List.all_nil, Bool.and_true, Bool.true_and, Bool.or_false, Bool.false_or, Z.tBML, L2.rAppend, Z.map_int_inj, Z.map_bl_inj, Z.rTupL, Z.rLstL, Z.rLstT, Z.rSortI, Z.rAnyH, Z.rAllH, Z.rSumH, Z.rLenL, Z.rLenU, List.length_map, L2.tPar, Z.tCallK0, List.getD_cons_zero, List.getD_cons_succ]
    unfold indexIn at q
    refine ⟨hz, ?_⟩
    (repeat' split) <;> simp_all
def sp_person_at : Sp := fun vs H Q _ => ∃ (r : Bool) (n e i : Int), vs = [.str (kindS r), .int n, .int e, .int i] ∧ 1 < n ∧ Q (.int (personAt r n e i)) H
theorem ok_person_at (T : Env K mg) : Hd P w K mg base CX0 2 "person_at" s_person_at ["kind", "n", "evening", "index"] sp_person_at := by
  have H_person_in := ok_person_in (P := P) (w := w) (base := base) T
  obtain ⟨f, fd, F, hm⟩ := T.d_person_at
  refine ⟨⟨f, fd, F, hm, ?_⟩, fun _ _ _ _ _ _ _ us hl => match us, hl with | [_, _, _, _], _ => rfl⟩
  refine F.ok sc_person_at (fun vs H Q E h => ?_) (fun cdv A outer s H vs Q E hr h => ?_)
  · first | (obtain ⟨rfl, _⟩ := h; rfl) | (obtain ⟨_, rfl, _⟩ := h; rfl) | (obtain ⟨_, _, rfl, _⟩ := h; rfl) | (obtain ⟨_, _, _, rfl, _⟩ := h; rfl) | (obtain ⟨_, _, _, _, rfl, _⟩ := h; rfl) | (obtain ⟨_, _, _, _, _, rfl, _⟩ := h; rfl) | (obtain ⟨_, _, _, _, _, _, rfl, _⟩ := h; rfl) | (obtain ⟨_, _, _, _, _, _, _, rfl, _⟩ := h; rfl) | (obtain ⟨_, _, _, _, _, _, _, _, rfl, _⟩ := h; rfl)
  · obtain ⟨r, n, e, i, rfl, hn, q⟩ := h
    have hu := hu_of hr
    refine ⟨_, pss_cons (ps_if (pt_cmpR op_eq (pv 0) (pe_glob (v := .str "rings") rfl T.c_RINGS.choose_spec ⟨_, rfl⟩) (nomark _)) (pss_one (ps_ret (pe_ifExp (pt_cmpR op_eq (pv 3) pe_int (nomark _)) (pe_op op_sub (pv 1) pe_int) (pe_hd H_person_in (hr.mono (by decide)) rfl pass0 (pa_cons (pe_op op_sub (pv 1) pe_int) (pa_cons (pv 2) (pa_cons (pe_op op_sub (pv 3) pe_int) pa_nil)))))))
      (pss_nil))
      (pss_one (ps_ret (pe_hd H_person_in (hr.mono (by decide)) rfl pass0 (pa_cons (pv 1) (pa_cons (pv 2) (pa_cons (pv 3) pa_nil)))))), ?_⟩
    simp only [L2.start, List.map_cons, List.map_nil, List.length_cons, List.length_nil, Nat.zero_add, Nat.reduceAdd, Nat.reduceSub, List.replicate_succ, List.replicate_zero, List.cons_append, List.nil_append, List.append_nil, L2.tSeq, L2.tNext, L2.tAsg, L2.gName, L2.tRet, L2.tRetN, L2.tIfS, L2.tVar, L2.tC, L2.tOp, L2.tUn, L2.rI, L2.rI0, L2.rU, L2.rEq, L2.rNe, L2.tTest, L2.tB, L2.tIf, Z.tIfCI, Z.tIfCS, L2.tChain, L2.tCons, L2.tNil, L2.tCall, L2.tDrop, L2.tAndV, L2.tOrV, L2.tNotV, L2.tAnd, L2.tOr, L2.tNot, L2.tCB, Z.sc_ii, Z.sc_ss, Z.sc_bb, Z.sc_is, Z.sc_si, Z.sc_ni, Z.sc_in, Z.sc_ns, Z.sc_sn, Z.sc_nn, L2.CDiv, L2.CPow, L2.CMul, List.getElem?_cons_zero, List.getElem?_cons_succ, Z.set_z, Z.set_s, Option.some.injEq, L2.V.int.injEq, L2.V.bl.injEq, L2.V.str.injEq, L2.V.ref.injEq, L2.V.ty.injEq, List.cons.injEq, exists_eq_left', exists_and_left, exists_eq_left, exists_eq_right, exists_eq_right', exists_eq', exists_eq, true_and, and_true, and_assoc, decide_eq_true_eq, Int.reduceLT, and_self, Z.rIxH, Z.rIxU, Z.at30, Z.at31, Z.at32, Z.ix3_0, Z.ix3_1, Z.ix3_2, L2.rSetL, L2.gSub, Z.gTupH, L2.gCons, L2.gNil, L2.HO.lst.injEq, L2.HO.tup.injEq, L2.upd_same, L2.upd_upd, L2.tSl, L2.tNoPart, L2.tPart, L2.rSlL, L2.rCat, List.length_append, or_false, false_or, or_true, true_or, reduceCtorEq, false_and, and_false, exists_false, Int.reduceNeg, Int.reducePow, Int.reduceToNat, Int.reduceAbs, Int.reduceLE, Int.reduceMul, Int.reduceAdd, Int.reduceSub, Nat.reducePow, Nat.reduceLT, Nat.reduceLeDiff, Int.natAbs_natCast, if_true, if_false, Z.rIsN, Z.tyN, Z.kit_ii, Z.kit_bi, Z.kit_si, Z.kit_ni, Z.kit_ib, Z.kit_bb, Z.kit_sb, Z.kit_nb, Z.kit_is, Z.kit_bs, Z.kit_ss, Z.kit_ns, Bool.not_true, Bool.not_false, L2.tTup, L2.tLst, L2.wipe, L2.tYes, Z.Turn1, L2.tNever, sizeLine_eq, Z.rInU, Z.rInH, L2.flatV, List.any_cons, List.any_nil, List.all_cons, List.all_nil, Bool.and_true, Bool.true_and, Bool.or_false, Bool.false_or, Z.tBML, L2.rAppend, Z.map_int_inj, Z.map_bl_inj, Z.rTupL, Z.rLstL, Z.rLstT, Z.rSortI, Z.rAnyH, Z.rAllH, Z.rSumH, Z.rLenL, Z.rLenU, List.length_map, L2.tPar, Z.tCallK0, List.getD_cons_zero, List.getD_cons_succ, sp_person_in, kind_eq]
    unfold personAt at q
    (repeat' split) <;> simp_all <;> omega
def sp_index_of : Sp := fun vs H Q _ => ∃ (r : Bool) (n e i : Int), vs = [.str (kindS r), .int n, .int e, .int i] ∧ 1 < n ∧ Q (.int (indexOf r n e i)) H
theorem ok_index_of (T : Env K mg) : Hd P w K mg base CX0 2 "index_of" s_index_of ["kind", "n", "evening", "person"] sp_index_of := by
  have H_index_in := ok_index_in (P := P) (w := w) (base := base) T
  obtain ⟨f, fd, F, hm⟩ := T.d_index_of
  refine ⟨⟨f, fd, F, hm, ?_⟩, fun _ _ _ _ _ _ _ us hl => match us, hl with | [_, _, _, _], _ => rfl⟩
  refine F.ok sc_index_of (fun vs H Q E h => ?_) (fun cdv A outer s H vs Q E hr h => ?_)
  · first | (obtain ⟨rfl, _⟩ := h; rfl) | (obtain ⟨_, rfl, _⟩ := h; rfl) | (obtain ⟨_, _, rfl, _⟩ := h; rfl) | (obtain ⟨_, _, _, rfl, _⟩ := h; rfl) | (obtain ⟨_, _, _, _, rfl, _⟩ := h; rfl) | (obtain ⟨_, _, _, _, _, rfl, _⟩ := h; rfl) | (obtain ⟨_, _, _, _, _, _, rfl, _⟩ := h; rfl) | (obtain ⟨_, _, _, _, _, _, _, rfl, _⟩ := h; rfl) | (obtain ⟨_, _, _, _, _, _, _, _, rfl, _⟩ := h; rfl)
  · obtain ⟨r, n, e, i, rfl, hn, q⟩ := h
    have hu := hu_of hr
    refine ⟨_, pss_cons (ps_if (pt_cmpR op_eq (pv 0) (pe_glob (v := .str "rings") rfl T.c_RINGS.choose_spec ⟨_, rfl⟩) (nomark _)) (pss_one (ps_ret (pe_ifExp (pt_cmpR op_eq (pv 3) (pe_op op_sub (pv 1) pe_int) (nomark _)) pe_int (pe_op op_add pe_int (pe_hd H_index_in (hr.mono (by decide)) rfl pass0 (pa_cons (pe_op op_sub (pv 1) pe_int) (pa_cons (pv 2) (pa_cons (pv 3) pa_nil))))))))
      (pss_nil))
      (pss_one (ps_ret (pe_hd H_index_in (hr.mono (by decide)) rfl pass0 (pa_cons (pv 1) (pa_cons (pv 2) (pa_cons (pv 3) pa_nil)))))), ?_⟩
    simp only [L2.start, List.map_cons, List.map_nil, List.length_cons, List.length_nil, Nat.zero_add, Nat.reduceAdd, Nat.reduceSub, List.replicate_succ, List.replicate_zero, List.cons_append, List.nil_append, List.append_nil, L2.tSeq, L2.tNext, L2.tAsg, L2.gName, L2.tRet, L2.tRetN, L2.tIfS, L2.tVar, L2.tC, L2.tOp, L2.tUn, L2.rI, L2.rI0, L2.rU, L2.rEq, L2.rNe, L2.tTest, L2.tB, L2.tIf, Z.tIfCI, Z.tIfCS, L2.tChain, L2.tCons, L2.tNil, L2.tCall, L2.tDrop, L2.tAndV, L2.tOrV, L2.tNotV, L2.tAnd, L2.tOr, L2.tNot, L2.tCB, Z.sc_ii, Z.sc_ss, Z.sc_bb, Z.sc_is, Z.sc_si, Z.sc_ni, Z.sc_in, Z.sc_ns, Z.sc_sn, Z.sc_nn, L2.CDiv, L2.CPow, L2.CMul, List.getElem?_cons_zero, List.getElem?_cons_succ, Z.set_z, Z.set_s, Option.some.injEq, L2.V.int.injEq, L2.V.bl.injEq, L2.V.str.injEq, L2.V.ref.injEq, L2.V.ty.injEq, List.cons.injEq, exists_eq_left', exists_and_left, exists_eq_left, exists_eq_right, exists_eq_right', exists_eq', exists_eq, true_and, and_true, and_assoc, decide_eq_true_eq, Int.reduceLT, and_self, Z.rIxH, Z.rIxU, Z.at30, Z.at31, Z.at32, Z.ix3_0, Z.ix3_1, Z.ix3_2, L2.rSetL, L2.gSub, Z.gTupH, L2.gCons, L2.gNil, L2.HO.lst.injEq, L2.HO.tup.injEq, L2.upd_same, L2.upd_upd, L2.tSl, L2.tNoPart, L2.tPart, L2.rSlL, L2.rCat, List.length_append, or_false, false_or, or_true, true_or, reduceCtorEq, false_and, and_false, exists_false, Int.reduceNeg, Int.reducePow, Int.reduceToNat, Int.reduceAbs, Int.reduceLE, Int.reduceMul, Int.reduceAdd, Int.reduceSub, Nat.reducePow, Nat.reduceLT, Nat.reduceLeDiff, Int.natAbs_natCast, if_true, if_false, Z.rIsN, Z.tyN, Z.kit_ii, Z.kit_bi, Z.kit_si, Z.kit_ni, Z.kit_ib, Z.kit_bb, Z.kit_sb, Z.kit_nb, Z.kit_is, Z.kit_bs, Z.kit_ss, Z.kit_ns, Bool.not_true, Bool.not_false, L2.tTup, L2.tLst, L2.wipe, L2.tYes, Z.Turn1, L2.tNever, sizeLine_eq, Z.rInU, Z.rInH, L2.flatV, List.any_cons, List.any_nil, List.all_cons, List.all_nil, Bool.and_true, Bool.true_and, Bool.or_false, Bool.false_or, Z.tBML, L2.rAppend, Z.map_int_inj, Z.map_bl_inj, Z.rTupL, Z.rLstL, Z.rLstT, Z.rSortI, Z.rAnyH, Z.rAllH, Z.rSumH, Z.rLenL, Z.rLenU, List.length_map, L2.tPar, Z.tCallK0, List.getD_cons_zero, List.getD_cons_succ, sp_index_in, kind_eq]
    unfold indexOf at q
    (repeat' split) <;> simp_all <;> omega
theorem size_nights {r : Bool} {n m : Int} (h : isSize r n m = true) : 2 ≤ n ∧ n ≤ m ∧ 0 < nights r n ∧ ((r = true ∧ n = 2 * nights r n + 1) ∨ (r = false ∧ n = 2 * nights r n)) := by
  unfold isSize at h
  unfold nights
  cases r
  · simp at h ⊢
    omega
  · simp at h ⊢
    omega
open Zig
def sp_check_evening_of : Sp := fun vs H Q _ => ∃ (r : Bool) (n e : Int), vs = [.str (kindS r), .int n, .int e] ∧ 0 ≤ e ∧ e < nights r n ∧ Q .non H
theorem ok_check_evening_of (T : Env K mg) : Hd P w K mg base CX0 3 "check_evening_of" s_check_evening_of ["kind", "n", "evening"] sp_check_evening_of := by
  have H_is_between := ok_is_between (P := P) (w := w) (base := base) T
  have H_evenings_for := ok_evenings_for (P := P) (w := w) (base := base) T
  obtain ⟨f, fd, F, hm⟩ := T.d_check_evening_of
  refine ⟨⟨f, fd, F, hm, ?_⟩, fun _ _ _ _ _ _ _ us hl => match us, hl with | [_, _, _], _ => rfl⟩
  refine F.ok sc_check_evening_of (fun vs H Q E h => ?_) (fun cdv A outer s H vs Q E hr h => ?_)
  · first | (obtain ⟨rfl, _⟩ := h; rfl) | (obtain ⟨_, rfl, _⟩ := h; rfl) | (obtain ⟨_, _, rfl, _⟩ := h; rfl) | (obtain ⟨_, _, _, rfl, _⟩ := h; rfl) | (obtain ⟨_, _, _, _, rfl, _⟩ := h; rfl) | (obtain ⟨_, _, _, _, _, rfl, _⟩ := h; rfl) | (obtain ⟨_, _, _, _, _, _, rfl, _⟩ := h; rfl) | (obtain ⟨_, _, _, _, _, _, _, rfl, _⟩ := h; rfl) | (obtain ⟨_, _, _, _, _, _, _, _, rfl, _⟩ := h; rfl)
  · obtain ⟨r, n, e, rfl, h0, h1, q⟩ := h
    have hu := hu_of hr
    refine ⟨_, pss_one (ps_if (pt_not (pt_val (pe_hd H_is_between (hr.mono (by decide)) rfl pass0 (pa_cons (pv 2) (pa_cons pe_int (pa_cons (pe_op op_sub (pe_hd H_evenings_for (hr.mono (by decide)) rfl pass0 (pa_cons (pv 0) (pa_cons (pv 1) pa_nil))) pe_int) pa_nil)))))) (pss_one (ps_never))
      (pss_nil)), ?_⟩
    simp only [L2.start, List.map_cons, List.map_nil, List.length_cons, List.length_nil, Nat.zero_add, Nat.reduceAdd, Nat.reduceSub, List.replicate_succ, List.replicate_zero, List.cons_append, List.nil_append, List.append_nil, L2.tSeq, L2.tNext, L2.tAsg, L2.gName, L2.tRet, L2.tRetN, L2.tIfS, L2.tVar, L2.tC, L2.tOp, L2.tUn, L2.rI, L2.rI0, L2.rU, L2.rEq, L2.rNe, L2.tTest, L2.tB, L2.tIf, Z.tIfCI, Z.tIfCS, L2.tChain, L2.tCons, L2.tNil, L2.tCall, L2.tDrop, L2.tAndV, L2.tOrV, L2.tNotV, L2.tAnd, L2.tOr, L2.tNot, L2.tCB, Z.sc_ii, Z.sc_ss, Z.sc_bb, Z.sc_is, Z.sc_si, Z.sc_ni, Z.sc_in, Z.sc_ns, Z.sc_sn, Z.sc_nn, L2.CDiv, L2.CPow, L2.CMul, List.getElem?_cons_zero, List.getElem?_cons_succ, Z.set_z, Z.set_s, Option.some.injEq, L2.V.int.injEq, L2.V.bl.injEq, L2.V.str.injEq, L2.V.ref.injEq, L2.V.ty.injEq, List.cons.injEq, exists_eq_left', exists_and_left, exists_eq_left, exists_eq_right, exists_eq_right', exists_eq', exists_eq, true_and, and_true, and_assoc, decide_eq_true_eq, Int.reduceLT, and_self, Z.rIxH, Z.rIxU, Z.at30, Z.at31, Z.at32, Z.ix3_0, Z.ix3_1, Z.ix3_2, L2.rSetL, L2.gSub, Z.gTupH, L2.gCons, L2.gNil, L2.HO.lst.injEq, L2.HO.tup.injEq, L2.upd_same, L2.upd_upd, L2.tSl, L2.tNoPart, L2.tPart, L2.rSlL, L2.rCat, List.length_append, or_false, false_or, or_true, true_or, reduceCtorEq, false_and, and_false, exists_false, Int.reduceNeg, Int.reducePow, Int.reduceToNat, Int.reduceAbs, Int.reduceLE, Int.reduceMul, Int.reduceAdd, Int.reduceSub, Nat.reducePow, Nat.reduceLT, Nat.reduceLeDiff, Int.natAbs_natCast, if_true, if_false, Z.rIsN, Z.tyN, Z.kit_ii, Z.kit_bi, Z.kit_si, Z.kit_ni, Z.kit_ib, Z.kit_bb, Z.kit_sb, Z.kit_nb, Z.kit_is, Z.kit_bs, Z.kit_ss, Z.kit_ns, Bool.not_true, Bool.not_false, L2.tTup, L2.tLst, L2.wipe, L2.tYes, Z.Turn1, L2.tNever, sizeLine_eq, Z.rInU, Z.rInH, L2.flatV, List.any_cons, List.any_nil, List.all_cons, List.all_nil, Bool.and_true, Bool.true_and, Bool.or_false, Bool.false_or, Z.tBML, L2.rAppend, Z.map_int_inj, Z.map_bl_inj, Z.rTupL, Z.rLstL, Z.rLstT, Z.rSortI, Z.rAnyH, Z.rAllH, Z.rSumH, Z.rLenL, Z.rLenU, List.length_map, L2.tPar, Z.tCallK0, List.getD_cons_zero, List.getD_cons_succ, sp_is_between, sp_evenings_for, kind_eq, kind_inj]
    have c : (0 ≤ e ∧ e ≤ nights r n - 1) = True := eq_true (by omega)
    simp only [c]
    exact q
def sp_check_person : Sp := fun vs H Q _ => ∃ (n p : Int), vs = [.int n, .int p] ∧ 0 ≤ p ∧ p < n ∧ Q .non H
theorem ok_check_person (T : Env K mg) : Hd P w K mg base CX0 3 "check_person" s_check_person ["n", "person"] sp_check_person := by
  have H_is_between := ok_is_between (P := P) (w := w) (base := base) T
  obtain ⟨f, fd, F, hm⟩ := T.d_check_person
  refine ⟨⟨f, fd, F, hm, ?_⟩, fun _ _ _ _ _ _ _ us hl => match us, hl with | [_, _], _ => rfl⟩
  refine F.ok sc_check_person (fun vs H Q E h => ?_) (fun cdv A outer s H vs Q E hr h => ?_)
  · first | (obtain ⟨rfl, _⟩ := h; rfl) | (obtain ⟨_, rfl, _⟩ := h; rfl) | (obtain ⟨_, _, rfl, _⟩ := h; rfl) | (obtain ⟨_, _, _, rfl, _⟩ := h; rfl) | (obtain ⟨_, _, _, _, rfl, _⟩ := h; rfl) | (obtain ⟨_, _, _, _, _, rfl, _⟩ := h; rfl) | (obtain ⟨_, _, _, _, _, _, rfl, _⟩ := h; rfl) | (obtain ⟨_, _, _, _, _, _, _, rfl, _⟩ := h; rfl) | (obtain ⟨_, _, _, _, _, _, _, _, rfl, _⟩ := h; rfl)
  · obtain ⟨n, p, rfl, h0, h1, q⟩ := h
    have hu := hu_of hr
    refine ⟨_, pss_one (ps_if (pt_not (pt_val (pe_hd H_is_between (hr.mono (by decide)) rfl pass0 (pa_cons (pv 1) (pa_cons pe_int (pa_cons (pe_op op_sub (pv 0) pe_int) pa_nil)))))) (pss_one (ps_never))
      (pss_nil)), ?_⟩
    simp only [L2.start, List.map_cons, List.map_nil, List.length_cons, List.length_nil, Nat.zero_add, Nat.reduceAdd, Nat.reduceSub, List.replicate_succ, List.replicate_zero, List.cons_append, List.nil_append, List.append_nil, L2.tSeq, L2.tNext, L2.tAsg, L2.gName, L2.tRet, L2.tRetN, L2.tIfS, L2.tVar, L2.tC, L2.tOp, L2.tUn, L2.rI, L2.rI0, L2.rU, L2.rEq, L2.rNe, L2.tTest, L2.tB, L2.tIf, Z.tIfCI, Z.tIfCS, L2.tChain, L2.tCons, L2.tNil, L2.tCall, L2.tDrop, L2.tAndV, L2.tOrV, L2.tNotV, L2.tAnd, L2.tOr, L2.tNot, L2.tCB, Z.sc_ii, Z.sc_ss, Z.sc_bb, Z.sc_is, Z.sc_si, Z.sc_ni, Z.sc_in, Z.sc_ns, Z.sc_sn, Z.sc_nn, L2.CDiv, L2.CPow, L2.CMul, List.getElem?_cons_zero, List.getElem?_cons_succ, Z.set_z, Z.set_s, Option.some.injEq, L2.V.int.injEq, L2.V.bl.injEq, L2.V.str.injEq, L2.V.ref.injEq, L2.V.ty.injEq, List.cons.injEq, exists_eq_left', exists_and_left, exists_eq_left, exists_eq_right, exists_eq_right', exists_eq', exists_eq, true_and, and_true, and_assoc, decide_eq_true_eq, Int.reduceLT, and_self, Z.rIxH, Z.rIxU, Z.at30, Z.at31, Z.at32, Z.ix3_0, Z.ix3_1, Z.ix3_2, L2.rSetL, L2.gSub, Z.gTupH, L2.gCons, L2.gNil, L2.HO.lst.injEq, L2.HO.tup.injEq, L2.upd_same, L2.upd_upd, L2.tSl, L2.tNoPart, L2.tPart, L2.rSlL, L2.rCat, List.length_append, or_false, false_or, or_true, true_or, reduceCtorEq, false_and, and_false, exists_false, Int.reduceNeg, Int.reducePow, Int.reduceToNat, Int.reduceAbs, Int.reduceLE, Int.reduceMul, Int.reduceAdd, Int.reduceSub, Nat.reducePow, Nat.reduceLT, Nat.reduceLeDiff, Int.natAbs_natCast, if_true, if_false, Z.rIsN, Z.tyN, Z.kit_ii, Z.kit_bi, Z.kit_si, Z.kit_ni, Z.kit_ib, Z.kit_bb, Z.kit_sb, Z.kit_nb, Z.kit_is, Z.kit_bs, Z.kit_ss, Z.kit_ns, Bool.not_true, Bool.not_false, L2.tTup, L2.tLst, L2.wipe, L2.tYes, Z.Turn1, L2.tNever, sizeLine_eq, Z.rInU, Z.rInH, L2.flatV, List.any_cons, List.any_nil, List.all_cons, List.all_nil, Bool.and_true, Bool.true_and, Bool.or_false, Bool.false_or, Z.tBML, L2.rAppend, Z.map_int_inj, Z.map_bl_inj, Z.rTupL, Z.rLstL, Z.rLstT, Z.rSortI, Z.rAnyH, Z.rAllH, Z.rSumH, Z.rLenL, Z.rLenU, List.length_map, L2.tPar, Z.tCallK0, List.getD_cons_zero, List.getD_cons_succ, sp_is_between, kind_eq, kind_inj]
    have c : (0 ≤ p ∧ p ≤ n - 1) = True := eq_true (by omega)
    simp only [c]
    exact q
def sp_zigzag_place : Sp := fun vs H Q _ => ∃ (r : Bool) (n e p : Int), vs = [.str (kindS r), .int n, .int e, .int p] ∧ isSize r n 1000000000000000000000000000000 = true ∧ 0 ≤ e ∧ e < nights r n ∧ 0 ≤ p ∧ p < n ∧ ∀ H', Same H H' → Q (.int (indexOf r n e p)) H'
theorem ok_zigzag_place (T : Env K mg) : Hd P w K mg base CX0 5 "zigzag_place" s_zigzag_place ["kind", "n", "evening", "person"] sp_zigzag_place := by
  have H_index_of := ok_index_of (P := P) (w := w) (base := base) T
  have H_check_person := ok_check_person (P := P) (w := w) (base := base) T
  have H_check_evening_of := ok_check_evening_of (P := P) (w := w) (base := base) T
  have H_check_size := ok_check_size (P := P) (w := w) (base := base) T
  have H_check_kind := ok_check_kind (P := P) (w := w) (base := base) T
  obtain ⟨f, fd, F, hm⟩ := T.d_zigzag_place
  refine ⟨⟨f, fd, F, hm, ?_⟩, fun _ _ _ _ _ _ _ us hl => match us, hl with | [_, _, _, _], _ => rfl⟩
  refine F.ok sc_zigzag_place (fun vs H Q E h => ?_) (fun cdv A outer s H vs Q E hr h => ?_)
  · first | (obtain ⟨rfl, _⟩ := h; rfl) | (obtain ⟨_, rfl, _⟩ := h; rfl) | (obtain ⟨_, _, rfl, _⟩ := h; rfl) | (obtain ⟨_, _, _, rfl, _⟩ := h; rfl) | (obtain ⟨_, _, _, _, rfl, _⟩ := h; rfl) | (obtain ⟨_, _, _, _, _, rfl, _⟩ := h; rfl) | (obtain ⟨_, _, _, _, _, _, rfl, _⟩ := h; rfl) | (obtain ⟨_, _, _, _, _, _, _, rfl, _⟩ := h; rfl) | (obtain ⟨_, _, _, _, _, _, _, _, rfl, _⟩ := h; rfl)
  · obtain ⟨r, n, e, p, rfl, hn, h0, h1, h2, h3, q⟩ := h
    have hu := hu_of hr
    refine ⟨_, pss_cons (ps_expr (pe_hd H_check_kind (hr.mono (by decide)) rfl pass0 (pa_cons (pv 0) pa_nil)))
      (pss_cons (ps_expr (pe_hd H_check_size (hr.mono (by decide)) rfl pass0 (pa_cons (pv 0) (pa_cons (pv 1) pa_nil))))
      (pss_cons (ps_expr (pe_hd H_check_evening_of (hr.mono (by decide)) rfl pass0 (pa_cons (pv 0) (pa_cons (pv 1) (pa_cons (pv 2) pa_nil)))))
      (pss_cons (ps_expr (pe_hd H_check_person (hr.mono (by decide)) rfl pass0 (pa_cons (pv 1) (pa_cons (pv 3) pa_nil))))
      (pss_one (ps_ret (pe_hd H_index_of (hr.mono (by decide)) rfl pass0 (pa_cons (pv 0) (pa_cons (pv 1) (pa_cons (pv 2) (pa_cons (pv 3) pa_nil)))))))))), ?_⟩
    simp only [L2.start, List.map_cons, List.map_nil, List.length_cons, List.length_nil, Nat.zero_add, Nat.reduceAdd, Nat.reduceSub, List.replicate_succ, List.replicate_zero, List.cons_append, List.nil_append, List.append_nil, L2.tSeq, L2.tNext, L2.tAsg, L2.gName, L2.tRet, L2.tRetN, L2.tIfS, L2.tVar, L2.tC, L2.tOp, L2.tUn, L2.rI, L2.rI0, L2.rU, L2.rEq, L2.rNe, L2.tTest, L2.tB, L2.tIf, Z.tIfCI, Z.tIfCS, L2.tChain, L2.tCons, L2.tNil, L2.tCall, L2.tDrop, L2.tAndV, L2.tOrV, L2.tNotV, L2.tAnd, L2.tOr, L2.tNot, L2.tCB, Z.sc_ii, Z.sc_ss, Z.sc_bb, Z.sc_is, Z.sc_si, Z.sc_ni, Z.sc_in, Z.sc_ns, Z.sc_sn, Z.sc_nn, L2.CDiv, L2.CPow, L2.CMul, List.getElem?_cons_zero, List.getElem?_cons_succ, Z.set_z, Z.set_s, Option.some.injEq, L2.V.int.injEq, L2.V.bl.injEq, L2.V.str.injEq, L2.V.ref.injEq, L2.V.ty.injEq, List.cons.injEq, exists_eq_left', exists_and_left, exists_eq_left, exists_eq_right, exists_eq_right', exists_eq', exists_eq, true_and, and_true, and_assoc, decide_eq_true_eq, Int.reduceLT, and_self, Z.rIxH, Z.rIxU, Z.at30, Z.at31, Z.at32, Z.ix3_0, Z.ix3_1, Z.ix3_2, L2.rSetL, L2.gSub, Z.gTupH, L2.gCons, L2.gNil, L2.HO.lst.injEq, L2.HO.tup.injEq, L2.upd_same, L2.upd_upd, L2.tSl, L2.tNoPart, L2.tPart, L2.rSlL, L2.rCat, List.length_append, or_false, false_or, or_true, true_or, reduceCtorEq, false_and, and_false, exists_false, Int.reduceNeg, Int.reducePow, Int.reduceToNat, Int.reduceAbs, Int.reduceLE, Int.reduceMul, Int.reduceAdd, Int.reduceSub, Nat.reducePow, Nat.reduceLT, Nat.reduceLeDiff, Int.natAbs_natCast, if_true, if_false, Z.rIsN, Z.tyN, Z.kit_ii, Z.kit_bi, Z.kit_si, Z.kit_ni, Z.kit_ib, Z.kit_bb, Z.kit_sb, Z.kit_nb, Z.kit_is, Z.kit_bs, Z.kit_ss, Z.kit_ns, Bool.not_true, Bool.not_false, L2.tTup, L2.tLst, L2.wipe, L2.tYes, Z.Turn1, L2.tNever, sizeLine_eq, Z.rInU, Z.rInH, L2.flatV, List.any_cons, List.any_nil, List.all_cons, List.all_nil, Bool.and_true, Bool.true_and, Bool.or_false, Bool.false_or, Z.tBML, L2.rAppend, Z.map_int_inj, Z.map_bl_inj, Z.rTupL, Z.rLstL, Z.rLstT, Z.rSortI, Z.rAnyH, Z.rAllH, Z.rSumH, Z.rLenL, Z.rLenU, List.length_map, L2.tPar, Z.tCallK0, List.getD_cons_zero, List.getD_cons_succ, sp_index_of, sp_check_person, sp_check_evening_of, sp_check_size, sp_check_kind, kind_eq, kind_inj]
    have hz := size_nights hn
    exact fun H' s => ⟨hn, h0, h1, h2, h3, by omega, q H' s⟩
def sp_zigzag_person : Sp := fun vs H Q _ => ∃ (r : Bool) (n e p : Int), vs = [.str (kindS r), .int n, .int e, .int p] ∧ isSize r n 1000000000000000000000000000000 = true ∧ 0 ≤ e ∧ e < nights r n ∧ 0 ≤ p ∧ p < n ∧ ∀ H', Same H H' → Q (.int (personAt r n e p)) H'
theorem ok_zigzag_person (T : Env K mg) : Hd P w K mg base CX0 5 "zigzag_person" s_zigzag_person ["kind", "n", "evening", "index"] sp_zigzag_person := by
  have H_person_at := ok_person_at (P := P) (w := w) (base := base) T
  have H_is_between := ok_is_between (P := P) (w := w) (base := base) T
  have H_check_evening_of := ok_check_evening_of (P := P) (w := w) (base := base) T
  have H_check_size := ok_check_size (P := P) (w := w) (base := base) T
  have H_check_kind := ok_check_kind (P := P) (w := w) (base := base) T
  obtain ⟨f, fd, F, hm⟩ := T.d_zigzag_person
  refine ⟨⟨f, fd, F, hm, ?_⟩, fun _ _ _ _ _ _ _ us hl => match us, hl with | [_, _, _, _], _ => rfl⟩
  refine F.ok sc_zigzag_person (fun vs H Q E h => ?_) (fun cdv A outer s H vs Q E hr h => ?_)
  · first | (obtain ⟨rfl, _⟩ := h; rfl) | (obtain ⟨_, rfl, _⟩ := h; rfl) | (obtain ⟨_, _, rfl, _⟩ := h; rfl) | (obtain ⟨_, _, _, rfl, _⟩ := h; rfl) | (obtain ⟨_, _, _, _, rfl, _⟩ := h; rfl) | (obtain ⟨_, _, _, _, _, rfl, _⟩ := h; rfl) | (obtain ⟨_, _, _, _, _, _, rfl, _⟩ := h; rfl) | (obtain ⟨_, _, _, _, _, _, _, rfl, _⟩ := h; rfl) | (obtain ⟨_, _, _, _, _, _, _, _, rfl, _⟩ := h; rfl)
  · obtain ⟨r, n, e, p, rfl, hn, h0, h1, h2, h3, q⟩ := h
    have hu := hu_of hr
    refine ⟨_, pss_cons (ps_expr (pe_hd H_check_kind (hr.mono (by decide)) rfl pass0 (pa_cons (pv 0) pa_nil)))
      (pss_cons (ps_expr (pe_hd H_check_size (hr.mono (by decide)) rfl pass0 (pa_cons (pv 0) (pa_cons (pv 1) pa_nil))))
      (pss_cons (ps_expr (pe_hd H_check_evening_of (hr.mono (by decide)) rfl pass0 (pa_cons (pv 0) (pa_cons (pv 1) (pa_cons (pv 2) pa_nil)))))
      (pss_cons (ps_if (pt_not (pt_val (pe_hd H_is_between (hr.mono (by decide)) rfl pass0 (pa_cons (pv 3) (pa_cons pe_int (pa_cons (pe_op op_sub (pv 1) pe_int) pa_nil)))))) (pss_one (ps_never))
      (pss_nil))
      (pss_one (ps_ret (pe_hd H_person_at (hr.mono (by decide)) rfl pass0 (pa_cons (pv 0) (pa_cons (pv 1) (pa_cons (pv 2) (pa_cons (pv 3) pa_nil)))))))))), ?_⟩
    simp only [L2.start, List.map_cons, List.map_nil, List.length_cons, List.length_nil, Nat.zero_add, Nat.reduceAdd, Nat.reduceSub, List.replicate_succ, List.replicate_zero, List.cons_append, List.nil_append, List.append_nil, L2.tSeq, L2.tNext, L2.tAsg, L2.gName, L2.tRet, L2.tRetN, L2.tIfS, L2.tVar, L2.tC, L2.tOp, L2.tUn, L2.rI, L2.rI0, L2.rU, L2.rEq, L2.rNe, L2.tTest, L2.tB, L2.tIf, Z.tIfCI, Z.tIfCS, L2.tChain, L2.tCons, L2.tNil, L2.tCall, L2.tDrop, L2.tAndV, L2.tOrV, L2.tNotV, L2.tAnd, L2.tOr, L2.tNot, L2.tCB, Z.sc_ii, Z.sc_ss, Z.sc_bb, Z.sc_is, Z.sc_si, Z.sc_ni, Z.sc_in, Z.sc_ns, Z.sc_sn, Z.sc_nn, L2.CDiv, L2.CPow, L2.CMul, List.getElem?_cons_zero, List.getElem?_cons_succ, Z.set_z, Z.set_s, Option.some.injEq, L2.V.int.injEq, L2.V.bl.injEq, L2.V.str.injEq, L2.V.ref.injEq, L2.V.ty.injEq, List.cons.injEq, exists_eq_left', exists_and_left, exists_eq_left, exists_eq_right, exists_eq_right', exists_eq', exists_eq, true_and, and_true, and_assoc, decide_eq_true_eq, Int.reduceLT, and_self, Z.rIxH, Z.rIxU, Z.at30, Z.at31, Z.at32, Z.ix3_0, Z.ix3_1, Z.ix3_2, L2.rSetL, L2.gSub, Z.gTupH, L2.gCons, L2.gNil, L2.HO.lst.injEq, L2.HO.tup.injEq, L2.upd_same, L2.upd_upd, L2.tSl, L2.tNoPart, L2.tPart, L2.rSlL, L2.rCat, List.length_append, or_false, false_or, or_true, true_or, reduceCtorEq, false_and, and_false, exists_false, Int.reduceNeg, Int.reducePow, Int.reduceToNat, Int.reduceAbs, Int.reduceLE, Int.reduceMul, Int.reduceAdd, Int.reduceSub, Nat.reducePow, Nat.reduceLT, Nat.reduceLeDiff, Int.natAbs_natCast, if_true, if_false, Z.rIsN, Z.tyN, Z.kit_ii, Z.kit_bi, Z.kit_si, Z.kit_ni, Z.kit_ib, Z.kit_bb, Z.kit_sb, Z.kit_nb, Z.kit_is, Z.kit_bs, Z.kit_ss, Z.kit_ns, Bool.not_true, Bool.not_false, L2.tTup, L2.tLst, L2.wipe, L2.tYes, Z.Turn1, L2.tNever, sizeLine_eq, Z.rInU, Z.rInH, L2.flatV, List.any_cons, List.any_nil, List.all_cons, List.all_nil, Bool.and_true, Bool.true_and, Bool.or_false, Bool.false_or, Z.tBML, L2.rAppend, Z.map_int_inj, Z.map_bl_inj, Z.rTupL, Z.rLstL, Z.rLstT, Z.rSortI, Z.rAnyH, Z.rAllH, Z.rSumH, Z.rLenL, Z.rLenU, List.length_map, L2.tPar, Z.tCallK0, List.getD_cons_zero, List.getD_cons_succ, sp_person_at, sp_is_between, sp_check_evening_of, sp_check_size, sp_check_kind, kind_eq, kind_inj]
    have c : (0 ≤ p ∧ p ≤ n - 1) = True := eq_true (by omega)
    simp only [c]
    have hz := size_nights hn
    exact fun H' s => ⟨hn, h0, h1, by omega, q H' s⟩
def sp_zigzag_evening : Sp := fun vs H Q _ => ∃ (r : Bool) (n p m : Int), vs = [.str (kindS r), .int n, .int p, .int m] ∧ isSize r n 1000000000000000000000000000000 = true ∧ 0 ≤ p ∧ p < n ∧ 0 ≤ m ∧ m < n ∧ m ≠ p ∧ ∀ H', Same H H' → Q (.int (eveningOf r n p m)) H'
theorem ok_zigzag_evening (T : Env K mg) : Hd P w K mg base CX0 5 "zigzag_evening" s_zigzag_evening ["kind", "n", "person", "mate"] sp_zigzag_evening := by
  have H_evenings_for := ok_evenings_for (P := P) (w := w) (base := base) T
  have H_round_size := ok_round_size (P := P) (w := w) (base := base) T
  have H_check_person := ok_check_person (P := P) (w := w) (base := base) T
  have H_check_size := ok_check_size (P := P) (w := w) (base := base) T
  have H_check_kind := ok_check_kind (P := P) (w := w) (base := base) T
  obtain ⟨f, fd, F, hm⟩ := T.d_zigzag_evening
  refine ⟨⟨f, fd, F, hm, ?_⟩, fun _ _ _ _ _ _ _ us hl => match us, hl with | [_, _, _, _], _ => rfl⟩
  refine F.ok sc_zigzag_evening (fun vs H Q E h => ?_) (fun cdv A outer s H vs Q E hr h => ?_)
  · first | (obtain ⟨rfl, _⟩ := h; rfl) | (obtain ⟨_, rfl, _⟩ := h; rfl) | (obtain ⟨_, _, rfl, _⟩ := h; rfl) | (obtain ⟨_, _, _, rfl, _⟩ := h; rfl) | (obtain ⟨_, _, _, _, rfl, _⟩ := h; rfl) | (obtain ⟨_, _, _, _, _, rfl, _⟩ := h; rfl) | (obtain ⟨_, _, _, _, _, _, rfl, _⟩ := h; rfl) | (obtain ⟨_, _, _, _, _, _, _, rfl, _⟩ := h; rfl) | (obtain ⟨_, _, _, _, _, _, _, _, rfl, _⟩ := h; rfl)
  · obtain ⟨r, n, p, m, rfl, hn, h0, h1, h2, h3, h4, q⟩ := h
    have hu := hu_of hr
    refine ⟨_, pss_cons (ps_expr (pe_hd H_check_kind (hr.mono (by decide)) rfl pass0 (pa_cons (pv 0) pa_nil)))
      (pss_cons (ps_expr (pe_hd H_check_size (hr.mono (by decide)) rfl pass0 (pa_cons (pv 0) (pa_cons (pv 1) pa_nil))))
      (pss_cons (ps_expr (pe_hd H_check_person (hr.mono (by decide)) rfl pass0 (pa_cons (pv 1) (pa_cons (pv 2) pa_nil))))
      (pss_cons (ps_expr (pe_hd H_check_person (hr.mono (by decide)) rfl pass0 (pa_cons (pv 1) (pa_cons (pv 3) pa_nil))))
      (pss_cons (ps_if (pt_cmpR op_eq (pv 3) (pv 2) (nomark _)) (pss_one (ps_never))
      (pss_nil))
      (pss_cons (ps_set (i := 4) sc_zigzag_evening.nd rfl (by first | exact .inl rfl | exact .inr rfl) (pe_hd H_round_size (hr.mono (by decide)) rfl pass0 (pa_cons (pv 0) (pa_cons (pv 1) pa_nil))))
      (pss_cons (ps_if (pt_cmpR op_in_tupH (pv 4) (pe_tup (pa_cons (pv 2) (pa_cons (pv 3) pa_nil))) (by rfl)) (pss_one (ps_ret (pe_op op_mod (pe_callB (call_min2 rfl) rfl T.b_min (by decide +kernel) (pa_cons (pv 2) (pa_cons (pv 3) pa_nil))) (pe_hd H_evenings_for (hr.mono (by decide)) rfl pass0 (pa_cons (pv 0) (pa_cons (pv 1) pa_nil))))))
      (pss_nil))
      (pss_one (ps_ret (pe_op op_fdiv (pe_op op_mod (pe_op op_add (pv 2) (pv 3)) (pv 4)) pe_int))))))))), ?_⟩
    simp only [L2.start, List.map_cons, List.map_nil, List.length_cons, List.length_nil, Nat.zero_add, Nat.reduceAdd, Nat.reduceSub, List.replicate_succ, List.replicate_zero, List.cons_append, List.nil_append, List.append_nil, L2.tSeq, L2.tNext, L2.tAsg, L2.gName, L2.tRet, L2.tRetN, L2.tIfS, L2.tVar, L2.tC, L2.tOp, L2.tUn, L2.rI, L2.rI0, L2.rU, L2.rEq, L2.rNe, L2.tTest, L2.tB, L2.tIf, Z.tIfCI, Z.tIfCS, L2.tChain, L2.tCons, L2.tNil, L2.tCall, L2.tDrop, L2.tAndV, L2.tOrV, L2.tNotV, L2.tAnd, L2.tOr, L2.tNot, L2.tCB, Z.sc_ii, Z.sc_ss, Z.sc_bb, Z.sc_is, Z.sc_si, Z.sc_ni, Z.sc_in, Z.sc_ns, Z.sc_sn, Z.sc_nn, L2.CDiv, L2.CPow, L2.CMul, List.getElem?_cons_zero, List.getElem?_cons_succ, Z.set_z, Z.set_s, Option.some.injEq, L2.V.int.injEq, L2.V.bl.injEq, L2.V.str.injEq, L2.V.ref.injEq, L2.V.ty.injEq, List.cons.injEq, exists_eq_left', exists_and_left, exists_eq_left, exists_eq_right, exists_eq_right', exists_eq', exists_eq, true_and, and_true, and_assoc, decide_eq_true_eq, Int.reduceLT, and_self, Z.rIxH, Z.rIxU, Z.at30, Z.at31, Z.at32, Z.ix3_0, Z.ix3_1, Z.ix3_2, L2.rSetL, L2.gSub, Z.gTupH, L2.gCons, L2.gNil, L2.HO.lst.injEq, L2.HO.tup.injEq, L2.upd_same, L2.upd_upd, L2.tSl, L2.tNoPart, L2.tPart, L2.rSlL, L2.rCat, List.length_append, or_false, false_or, or_true, true_or, reduceCtorEq, false_and, and_false, exists_false, Int.reduceNeg, Int.reducePow, Int.reduceToNat, Int.reduceAbs, Int.reduceLE, Int.reduceMul, Int.reduceAdd, Int.reduceSub, Nat.reducePow, Nat.reduceLT, Nat.reduceLeDiff, Int.natAbs_natCast, if_true, if_false, Z.rIsN, Z.tyN, Z.kit_ii, Z.kit_bi, Z.kit_si, Z.kit_ni, Z.kit_ib, Z.kit_bb, Z.kit_sb, Z.kit_nb, Z.kit_is, Z.kit_bs, Z.kit_ss, Z.kit_ns, Bool.not_true, Bool.not_false, L2.tTup, L2.tLst, L2.wipe, L2.tYes, Z.Turn1, L2.tNever, sizeLine_eq, Z.rInU, Z.rInH, L2.flatV, List.any_cons, List.any_nil, List.all_cons, List.all_nil, Bool.and_true, Bool.true_and, Bool.or_false, Bool.false_or, Z.tBML, L2.rAppend, Z.map_int_inj, Z.map_bl_inj, Z.rTupL, Z.rLstL, Z.rLstT, Z.rSortI, Z.rAnyH, Z.rAllH, Z.rSumH, Z.rLenL, Z.rLenU, List.length_map, L2.tPar, Z.tCallK0, List.getD_cons_zero, List.getD_cons_succ, sp_evenings_for, sp_round_size, sp_check_person, sp_check_size, sp_check_kind, kind_eq, kind_inj, L2.inV, L2.eqV]
    intro H' s
    have hz := size_nights hn
    refine ⟨hn, h0, h1, h2, h3, ?_⟩
    rw [if_neg h4]
    intro t ht
    have q' := q _ (same_upd (o := .tup [V.int p, V.int m]) s (s.free ht))
    have e1 : ((p == if r = true then n - 1 else n) || m == if r = true then n - 1 else n) = decide ((if r = true then n - 1 else n) = p ∨ (if r = true then n - 1 else n) = m) := by
      rw [Bool.eq_iff_iff]
      simp only [Bool.or_eq_true, beq_iff_eq, decide_eq_true_eq]
      constructor <;> (intro h; omega)
    rw [e1]
    unfold eveningOf at q'
    by_cases c : (if r = true then n - 1 else n) = p ∨ (if r = true then n - 1 else n) = m
    · rw [if_pos c] at q'
      rw [decide_eq_true c, if_pos rfl]
      exact ⟨hz.2.2.1, q'⟩
    · rw [if_neg c] at q'
      rw [decide_eq_false c, if_neg Bool.false_ne_true]
      exact ⟨by split <;> omega, q'⟩
open Zig
def besideL (r : Bool) (n e p : Int) : List Int := ((spots r n (indexOf r n e p)).map (personAt r n e)).mergeSort
theorem fm_some (f : V → V) : ∀ l : List V, l.filterMap (fun x => some (f x)) = l.map f := fun l => by rw [List.filterMap_eq_map']
def int1 (f : Int → Int) : V → Option V
  | .int i => some (.int (f i))
  | _ => none
theorem fm_int1 (f : Int → Int) : ∀ l : List Int, (l.map V.int).filterMap (int1 f) = (l.map f).map V.int
  | [] => rfl
  | x :: r => by
    rw [List.map_cons, List.filterMap_cons, fm_int1 f r]
    rfl
theorem mem_ints {x : V} {l : List Int} (h : x ∈ l.map V.int) : ∃ i, i ∈ l ∧ x = .int i := by
  obtain ⟨i, hi, e⟩ := List.mem_map.mp h
  exact ⟨i, hi, e.symm⟩
theorem beside_tail {H : Hp} {Q : VK} {t : Addr} {r : Bool} {n e p i : Int} {L : List Int} (hn : 1 < n) (hL : L.length ≤ 2) (h : H t = some (.lst (L.map V.int)))
    (q : ∀ H' l, H l = none → Same H H' → H' l = some (.tup (((L.map (personAt r n e)).mergeSort).map V.int)) → Q (.ref l) H') :
    tLc (iList K (tVar 5)) (gName 6) tYes (tCall sp_person_at [] E0 (tCons (tVar 0) (tCons (tVar 1) (tCons (tVar 2) (tCons (tVar 6) tNil))))) [6]
      [some (V.str (kindS r)), some (V.int n), some (V.int e), some (V.int p), some (V.int i), some (V.ref t), none] H fun x H1 => rSortI [x] H1 fun x H1 => rTupL [x] H1 Q := by
  refine lc_mapL (int1 (personAt r n e)) (fun R h => ⟨_, rfl, h⟩) (SqL.of h) (by rw [List.length_map]; omega) (fun x hx H1 s => ?_) fun D H1 hD s h1 => ?_
  · obtain ⟨j, hj, rfl⟩ := mem_ints hx
    intro Y N hY hN
    simp only [L2.start, List.map_cons, List.map_nil, List.length_cons, List.length_nil, Nat.zero_add, Nat.reduceAdd, Nat.reduceSub, List.replicate_succ, List.replicate_zero, List.cons_append, List.nil_append, List.append_nil, L2.tSeq, L2.tNext, L2.tAsg, L2.gName, L2.tRet, L2.tRetN, L2.tIfS, L2.tVar, L2.tC, L2.tOp, L2.tUn, L2.rI, L2.rI0, L2.rU, L2.rEq, L2.rNe, L2.tTest, L2.tB, L2.tIf, Z.tIfCI, Z.tIfCS, L2.tChain, L2.tCons, L2.tNil, L2.tCall, L2.tDrop, L2.tAndV, L2.tOrV, L2.tNotV, L2.tAnd, L2.tOr, L2.tNot, L2.tCB, Z.sc_ii, Z.sc_ss, Z.sc_bb, Z.sc_is, Z.sc_si, Z.sc_ni, Z.sc_in, Z.sc_ns, Z.sc_sn, Z.sc_nn, L2.CDiv, L2.CPow, L2.CMul, List.getElem?_cons_zero, List.getElem?_cons_succ, Z.set_z, Z.set_s, Option.some.injEq, L2.V.int.injEq, L2.V.bl.injEq, L2.V.str.injEq, L2.V.ref.injEq, L2.V.ty.injEq, List.cons.injEq, exists_eq_left', exists_and_left, exists_eq_left, exists_eq_right, exists_eq_right', exists_eq', exists_eq, true_and, and_true, and_assoc, decide_eq_true_eq, Int.reduceLT, and_self, Z.rIxH, Z.rIxU, Z.at30, Z.at31, Z.at32, Z.ix3_0, Z.ix3_1, Z.ix3_2, L2.rSetL, L2.gSub, Z.gTupH, L2.gCons, L2.gNil, L2.HO.lst.injEq, L2.HO.tup.injEq, L2.upd_same, L2.upd_upd, L2.tSl, L2.tNoPart, L2.tPart, L2.rSlL, L2.rCat, List.length_append, or_false, false_or, or_true, true_or, reduceCtorEq, false_and, and_false, exists_false, Int.reduceNeg, Int.reducePow, Int.reduceToNat, Int.reduceAbs, Int.reduceLE, Int.reduceMul, Int.reduceAdd, Int.reduceSub, Nat.reducePow, Nat.reduceLT, Nat.reduceLeDiff, Int.natAbs_natCast, if_true, if_false, Z.rIsN, Z.tyN, Z.kit_ii, Z.kit_bi, Z.kit_si, Z.kit_ni, Z.kit_ib, Z.kit_bb, Z.kit_sb, Z.kit_nb, Z.kit_is, Z.kit_bs, Z.kit_ss, Z.kit_ns, Bool.not_true, Bool.not_false, L2.tTup, L2.tLst, L2.wipe, L2.tYes, Z.Turn1, L2.tNever, sizeLine_eq, Z.rInU, Z.rInH, L2.flatV, List.any_cons, List.any_nil, List.all_cons, List.all_nil, Bool.and_true, Bool.true_and, Bool.or_false, Bool.false_or, Z.tBML, L2.rAppend, Z.map_int_inj, Z.map_bl_inj, Z.rTupL, Z.rLstL, Z.rLstT, Z.rSortI, Z.rAnyH, Z.rAllH, Z.rSumH, Z.rLenL, Z.rLenU, List.length_map, L2.tPar, Z.tCallK0, List.getD_cons_zero, List.getD_cons_succ, sp_evenings_for, sp_round_size, sp_check_person, sp_check_size, sp_check_kind, sp_person_at, kind_inj]
    exact ⟨hn, hY _ H1 rfl (Same.refl _)⟩
  · rw [fm_int1] at h1
    refine ⟨D, _, rfl, h1, by rw [List.length_map]; omega, fun a ha => ?_⟩
    refine ⟨a, _, rfl, upd_same, fun l hl => ?_⟩
    have s2 := same_upd (o := .lst ((L.map (personAt r n e)).mergeSort.map V.int)) s (s.free ha)
    refine q _ l (s2.free hl) (same_upd s2 (s2.free hl)) ?_
    rw [upd_same]
def sp_zigzag_beside : Sp := fun vs H Q _ => ∃ (r : Bool) (n e p : Int), vs = [.str (kindS r), .int n, .int e, .int p] ∧ isSize r n 1000000000000000000000000000000 = true ∧ 0 ≤ e ∧ e < nights r n ∧ 0 ≤ p ∧ p < n ∧ ∀ H' t, H t = none → Same H H' → H' t = some (.tup ((besideL r n e p).map V.int)) → Q (.ref t) H'
theorem ok_zigzag_beside (T : Env K mg) : Hd P w K mg base CX0 5 "zigzag_beside" s_zigzag_beside ["kind", "n", "evening", "person"] sp_zigzag_beside := by
  have H_person_at := ok_person_at (P := P) (w := w) (base := base) T
  have H_index_of := ok_index_of (P := P) (w := w) (base := base) T
  have H_check_person := ok_check_person (P := P) (w := w) (base := base) T
  have H_check_evening_of := ok_check_evening_of (P := P) (w := w) (base := base) T
  have H_check_size := ok_check_size (P := P) (w := w) (base := base) T
  have H_check_kind := ok_check_kind (P := P) (w := w) (base := base) T
  obtain ⟨f, fd, F, hm⟩ := T.d_zigzag_beside
  refine ⟨⟨f, fd, F, hm, ?_⟩, fun _ _ _ _ _ _ _ us hl => match us, hl with | [_, _, _, _], _ => rfl⟩
  refine F.ok sc_zigzag_beside (fun vs H Q E h => ?_) (fun cdv A outer s H vs Q E hr h => ?_)
  · first | (obtain ⟨rfl, _⟩ := h; rfl) | (obtain ⟨_, rfl, _⟩ := h; rfl) | (obtain ⟨_, _, rfl, _⟩ := h; rfl) | (obtain ⟨_, _, _, rfl, _⟩ := h; rfl) | (obtain ⟨_, _, _, _, rfl, _⟩ := h; rfl) | (obtain ⟨_, _, _, _, _, rfl, _⟩ := h; rfl) | (obtain ⟨_, _, _, _, _, _, rfl, _⟩ := h; rfl) | (obtain ⟨_, _, _, _, _, _, _, rfl, _⟩ := h; rfl) | (obtain ⟨_, _, _, _, _, _, _, _, rfl, _⟩ := h; rfl)
  · obtain ⟨r, n, e, p, rfl, hn, h0, h1, h2, h3, q⟩ := h
    have hu := hu_of hr
    refine ⟨_, pss_cons (ps_expr (pe_hd H_check_kind (hr.mono (by decide)) rfl pass0 (pa_cons (pv 0) pa_nil)))
      (pss_cons (ps_expr (pe_hd H_check_size (hr.mono (by decide)) rfl pass0 (pa_cons (pv 0) (pa_cons (pv 1) pa_nil))))
      (pss_cons (ps_expr (pe_hd H_check_evening_of (hr.mono (by decide)) rfl pass0 (pa_cons (pv 0) (pa_cons (pv 1) (pa_cons (pv 2) pa_nil)))))
      (pss_cons (ps_expr (pe_hd H_check_person (hr.mono (by decide)) rfl pass0 (pa_cons (pv 1) (pa_cons (pv 3) pa_nil))))
      (pss_cons (ps_set (i := 4) sc_zigzag_beside.nd rfl (by first | exact .inl rfl | exact .inr rfl) (pe_hd H_index_of (hr.mono (by decide)) rfl pass0 (pa_cons (pv 0) (pa_cons (pv 1) (pa_cons (pv 2) (pa_cons (pv 3) pa_nil))))))
      (pss_cons (ps_if (pt_cmpR op_eq (pv 0) (pe_glob (v := .str "rings") rfl T.c_RINGS.choose_spec ⟨_, rfl⟩) (nomark _)) (pss_one (ps_set (i := 5) sc_zigzag_beside.nd rfl (by first | exact .inl rfl | exact .inr rfl) (pe_lst (pa_cons (pe_op op_mod (pe_op op_sub (pv 4) pe_int) (pv 1)) (pa_cons (pe_op op_mod (pe_op op_add (pv 4) pe_int) (pv 1)) pa_nil)))))
      (pss_one (ps_setLc (i := 5) (own := [("at", 6)]) (g := (gName 6)) rfl sc_zigzag_beside.nd rfl rfl (sw_true rfl rfl rfl (by decide +kernel)) (pi_tup (pe_tup (pa_cons (pe_op op_sub (pv 4) pe_int) (pa_cons (pe_op op_add (pv 4) pe_int) pa_nil)))) (blkOk_by (own := [("at", 6)]) (N := N_zigzag_beside) (sc := defScope s_zigzag_beside) (by decide +kernel)) (fun _ _ _ _ _ => pg_name (i := 6) sc_zigzag_beside.nd rfl (by first | exact .inl rfl | exact .inr rfl)) (fun _ _ _ _ _ => (pts_one (pt_chain op_le op_lt pe_int (pv 6) (pv 1)))) (fun _ _ _ _ _ => (pv 6)))))
      (pss_one (ps_ret (pe_callTy call_tupleL rfl T.b_tuple (by decide +kernel) (pa_cons (pe_callB cr_sortedH rfl T.b_sorted (by decide +kernel) (pa_cons (pe_lc (own := [("at", 6)]) (g := (gName 6)) (tt := tYes) rfl sc_zigzag_beside.nd (pi_list (pv 5)) (blkOk_by (own := [("at", 6)]) (N := N_zigzag_beside) (sc := defScope s_zigzag_beside) (by decide +kernel)) (fun _ _ _ _ _ => pg_name (i := 6) sc_zigzag_beside.nd rfl (by first | exact .inl rfl | exact .inr rfl)) (fun _ _ _ _ _ => pts_nil) (fun _ _ _ _ _ => (pe_hd H_person_at (hr.mono (by decide)) rfl pass0 (pa_cons (pv 0) (pa_cons (pv 1) (pa_cons (pv 2) (pa_cons (pv 6) pa_nil))))))) pa_nil)) pa_nil))))))))), ?_⟩
    simp only [L2.start, List.map_cons, List.map_nil, List.length_cons, List.length_nil, Nat.zero_add, Nat.reduceAdd, Nat.reduceSub, List.replicate_succ, List.replicate_zero, List.cons_append, List.nil_append, List.append_nil, L2.tSeq, L2.tNext, L2.tAsg, L2.gName, L2.tRet, L2.tRetN, L2.tIfS, L2.tVar, L2.tC, L2.tOp, L2.tUn, L2.rI, L2.rI0, L2.rU, L2.rEq, L2.rNe, L2.tTest, L2.tB, L2.tIf, Z.tIfCI, Z.tIfCS, L2.tChain, L2.tCons, L2.tNil, L2.tCall, L2.tDrop, L2.tAndV, L2.tOrV, L2.tNotV, L2.tAnd, L2.tOr, L2.tNot, L2.tCB, Z.sc_ii, Z.sc_ss, Z.sc_bb, Z.sc_is, Z.sc_si, Z.sc_ni, Z.sc_in, Z.sc_ns, Z.sc_sn, Z.sc_nn, L2.CDiv, L2.CPow, L2.CMul, List.getElem?_cons_zero, List.getElem?_cons_succ, Z.set_z, Z.set_s, Option.some.injEq, L2.V.int.injEq, L2.V.bl.injEq, L2.V.str.injEq, L2.V.ref.injEq, L2.V.ty.injEq, List.cons.injEq, exists_eq_left', exists_and_left, exists_eq_left, exists_eq_right, exists_eq_right', exists_eq', exists_eq, true_and, and_true, and_assoc, decide_eq_true_eq, Int.reduceLT, and_self, Z.rIxH, Z.rIxU, Z.at30, Z.at31, Z.at32, Z.ix3_0, Z.ix3_1, Z.ix3_2, L2.rSetL, L2.gSub, Z.gTupH, L2.gCons, L2.gNil, L2.HO.lst.injEq, L2.HO.tup.injEq, L2.upd_same, L2.upd_upd, L2.tSl, L2.tNoPart, L2.tPart, L2.rSlL, L2.rCat, List.length_append, or_false, false_or, or_true, true_or, reduceCtorEq, false_and, and_false, exists_false, Int.reduceNeg, Int.reducePow, Int.reduceToNat, Int.reduceAbs, Int.reduceLE, Int.reduceMul, Int.reduceAdd, Int.reduceSub, Nat.reducePow, Nat.reduceLT, Nat.reduceLeDiff, Int.natAbs_natCast, if_true, if_false, Z.rIsN, Z.tyN, Z.kit_ii, Z.kit_bi, Z.kit_si, Z.kit_ni, Z.kit_ib, Z.kit_bb, Z.kit_sb, Z.kit_nb, Z.kit_is, Z.kit_bs, Z.kit_ss, Z.kit_ns, Bool.not_true, Bool.not_false, L2.tTup, L2.tLst, L2.wipe, L2.tYes, Z.Turn1, L2.tNever, sizeLine_eq, Z.rInU, Z.rInH, L2.flatV, List.any_cons, List.any_nil, List.all_cons, List.all_nil, Bool.and_true, Bool.true_and, Bool.or_false, Bool.false_or, Z.tBML, L2.rAppend, Z.map_int_inj, Z.map_bl_inj, Z.rLstL, Z.rLstT, Z.rAnyH, Z.rAllH, Z.rSumH, Z.rLenL, Z.rLenU, List.length_map, L2.tPar, Z.tCallK0, List.getD_cons_zero, List.getD_cons_succ, sp_person_at, sp_index_of, sp_check_person, sp_check_evening_of, sp_check_size, sp_check_kind, kind_eq, kind_inj]
    intro H' s
    have hz := size_nights hn
    refine ⟨hn, h0, h1, h2, h3, by omega, ?_⟩
    cases r
    · rw [if_neg Bool.false_ne_true]
      refine lc_mapTn (xs := [.int (indexOf false n e p - 1), .int (indexOf false n e p + 1)]) (fun v => match v with | .int j => if 0 ≤ j ∧ j < n then some (.int j) else none | _ => none) (fun R h => ?_) (by show 2 ≤ 1000; decide) (fun x hx H1 s1 => ?_) fun t H1 ht s1 e1 => ?_
      · simp only [L2.start, List.map_cons, List.map_nil, List.length_cons, List.length_nil, Nat.zero_add, Nat.reduceAdd, Nat.reduceSub, List.replicate_succ, List.replicate_zero, List.cons_append, List.nil_append, List.append_nil, L2.tSeq, L2.tNext, L2.tAsg, L2.gName, L2.tRet, L2.tRetN, L2.tIfS, L2.tVar, L2.tC, L2.tOp, L2.tUn, L2.rI, L2.rI0, L2.rU, L2.rEq, L2.rNe, L2.tTest, L2.tB, L2.tIf, Z.tIfCI, Z.tIfCS, L2.tChain, L2.tCons, L2.tNil, L2.tCall, L2.tDrop, L2.tAndV, L2.tOrV, L2.tNotV, L2.tAnd, L2.tOr, L2.tNot, L2.tCB, Z.sc_ii, Z.sc_ss, Z.sc_bb, Z.sc_is, Z.sc_si, Z.sc_ni, Z.sc_in, Z.sc_ns, Z.sc_sn, Z.sc_nn, L2.CDiv, L2.CPow, L2.CMul, List.getElem?_cons_zero, List.getElem?_cons_succ, Z.set_z, Z.set_s, Option.some.injEq, L2.V.int.injEq, L2.V.bl.injEq, L2.V.str.injEq, L2.V.ref.injEq, L2.V.ty.injEq, List.cons.injEq, exists_eq_left', exists_and_left, exists_eq_left, exists_eq_right, exists_eq_right', exists_eq', exists_eq, true_and, and_true, and_assoc, decide_eq_true_eq, Int.reduceLT, and_self, Z.rIxH, Z.rIxU, Z.at30, Z.at31, Z.at32, Z.ix3_0, Z.ix3_1, Z.ix3_2, L2.rSetL, L2.gSub, Z.gTupH, L2.gCons, L2.gNil, L2.HO.lst.injEq, L2.HO.tup.injEq, L2.upd_same, L2.upd_upd, L2.tSl, L2.tNoPart, L2.tPart, L2.rSlL, L2.rCat, List.length_append, or_false, false_or, or_true, true_or, reduceCtorEq, false_and, and_false, exists_false, Int.reduceNeg, Int.reducePow, Int.reduceToNat, Int.reduceAbs, Int.reduceLE, Int.reduceMul, Int.reduceAdd, Int.reduceSub, Nat.reducePow, Nat.reduceLT, Nat.reduceLeDiff, Int.natAbs_natCast, if_true, if_false, Z.rIsN, Z.tyN, Z.kit_ii, Z.kit_bi, Z.kit_si, Z.kit_ni, Z.kit_ib, Z.kit_bb, Z.kit_sb, Z.kit_nb, Z.kit_is, Z.kit_bs, Z.kit_ss, Z.kit_ns, Bool.not_true, Bool.not_false, L2.tTup, L2.tLst, L2.wipe, L2.tYes, Z.Turn1, L2.tNever, sizeLine_eq, Z.rInU, Z.rInH, L2.flatV, List.any_cons, List.any_nil, List.all_cons, List.all_nil, Bool.and_true, Bool.true_and, Bool.or_false, Bool.false_or, Z.tBML, L2.rAppend, Z.map_int_inj, Z.map_bl_inj, Z.rTupL, Z.rLstL, Z.rLstT, Z.rSortI, Z.rAnyH, Z.rAllH, Z.rSumH, Z.rLenL, Z.rLenU, List.length_map, L2.tPar, Z.tCallK0, List.getD_cons_zero, List.getD_cons_succ, sp_person_at, sp_index_of, sp_check_person, sp_check_evening_of, sp_check_size, sp_check_kind]
        exact h
      · have hx' : x = .int (indexOf false n e p - 1) ∨ x = .int (indexOf false n e p + 1) := by
          simp only [List.mem_cons, List.not_mem_nil, or_false] at hx
          exact hx
        have hj : ∃ j : Int, x = .int j := by
          rcases hx' with rfl | rfl <;> exact ⟨_, rfl⟩
        obtain ⟨j, rfl⟩ := hj
        intro Y N hY hN
        simp only [L2.start, List.map_cons, List.map_nil, List.length_cons, List.length_nil, Nat.zero_add, Nat.reduceAdd, Nat.reduceSub, List.replicate_succ, List.replicate_zero, List.cons_append, List.nil_append, List.append_nil, L2.tSeq, L2.tNext, L2.tAsg, L2.gName, L2.tRet, L2.tRetN, L2.tIfS, L2.tVar, L2.tC, L2.tOp, L2.tUn, L2.rI, L2.rI0, L2.rU, L2.rEq, L2.rNe, L2.tTest, L2.tB, L2.tIf, Z.tIfCI, Z.tIfCS, L2.tChain, L2.tCons, L2.tNil, L2.tCall, L2.tDrop, L2.tAndV, L2.tOrV, L2.tNotV, L2.tAnd, L2.tOr, L2.tNot, L2.tCB, Z.sc_ii, Z.sc_ss, Z.sc_bb, Z.sc_is, Z.sc_si, Z.sc_ni, Z.sc_in, Z.sc_ns, Z.sc_sn, Z.sc_nn, L2.CDiv, L2.CPow, L2.CMul, List.getElem?_cons_zero, List.getElem?_cons_succ, Z.set_z, Z.set_s, Option.some.injEq, L2.V.int.injEq, L2.V.bl.injEq, L2.V.str.injEq, L2.V.ref.injEq, L2.V.ty.injEq, List.cons.injEq, exists_eq_left', exists_and_left, exists_eq_left, exists_eq_right, exists_eq_right', exists_eq', exists_eq, true_and, and_true, and_assoc, decide_eq_true_eq, Int.reduceLT, and_self, Z.rIxH, Z.rIxU, Z.at30, Z.at31, Z.at32, Z.ix3_0, Z.ix3_1, Z.ix3_2, L2.rSetL, L2.gSub, Z.gTupH, L2.gCons, L2.gNil, L2.HO.lst.injEq, L2.HO.tup.injEq, L2.upd_same, L2.upd_upd, L2.tSl, L2.tNoPart, L2.tPart, L2.rSlL, L2.rCat, List.length_append, or_false, false_or, or_true, true_or, reduceCtorEq, false_and, and_false, exists_false, Int.reduceNeg, Int.reducePow, Int.reduceToNat, Int.reduceAbs, Int.reduceLE, Int.reduceMul, Int.reduceAdd, Int.reduceSub, Nat.reducePow, Nat.reduceLT, Nat.reduceLeDiff, Int.natAbs_natCast, if_true, if_false, Z.rIsN, Z.tyN, Z.kit_ii, Z.kit_bi, Z.kit_si, Z.kit_ni, Z.kit_ib, Z.kit_bb, Z.kit_sb, Z.kit_nb, Z.kit_is, Z.kit_bs, Z.kit_ss, Z.kit_ns, Bool.not_true, Bool.not_false, L2.tTup, L2.tLst, L2.wipe, L2.tYes, Z.Turn1, L2.tNever, sizeLine_eq, Z.rInU, Z.rInH, L2.flatV, List.any_cons, List.any_nil, List.all_cons, List.all_nil, Bool.and_true, Bool.true_and, Bool.or_false, Bool.false_or, Z.tBML, L2.rAppend, Z.map_int_inj, Z.map_bl_inj, Z.rTupL, Z.rLstL, Z.rLstT, Z.rSortI, Z.rAnyH, Z.rAllH, Z.rSumH, Z.rLenL, Z.rLenU, List.length_map, L2.tPar, Z.tCallK0, List.getD_cons_zero, List.getD_cons_succ, sp_person_at, sp_index_of, sp_check_person, sp_check_evening_of, sp_check_size, sp_check_kind]
        by_cases c1 : 0 ≤ j
        · rw [if_pos c1]
          by_cases c2 : j < n
          · rw [if_pos c2]
            exact hY _ H1 (if_pos ⟨c1, c2⟩) (Same.refl _)
          · rw [if_neg c2]
            exact hN H1 (if_neg fun z => c2 z.2) (Same.refl _)
        · rw [if_neg c1]
          exact hN H1 (if_neg fun z => c1 z.1) (Same.refl _)
      · have e2 : H1 t = some (.lst ((spots false n (indexOf false n e p)).map V.int)) := by
          rw [e1]
          unfold spots
          simp only [Bool.false_eq_true, if_false, List.filterMap_cons, List.filterMap_nil, List.filter_cons, List.filter_nil, decide_eq_true_eq]
          clear hn hz q e1
          by_cases c1 : 0 ≤ indexOf false n e p - 1 ∧ indexOf false n e p - 1 < n
          · by_cases c2 : 0 ≤ indexOf false n e p + 1 ∧ indexOf false n e p + 1 < n
            · simp only [if_pos c1, if_pos c2, List.map_cons, List.map_nil]
            · simp only [if_pos c1, if_neg c2, List.map_cons, List.map_nil]
          · by_cases c2 : 0 ≤ indexOf false n e p + 1 ∧ indexOf false n e p + 1 < n
            · simp only [if_neg c1, if_pos c2, List.map_cons, List.map_nil]
            · simp only [if_neg c1, if_neg c2, List.map_cons, List.map_nil]
        refine beside_tail (by omega) ?_ e2 fun H2 l hl s2 e3 => ?_
        · unfold spots
          rw [if_neg Bool.false_ne_true]
          exact Nat.le_trans (List.length_filter_le _ _) (Nat.le_refl 2)
        · exact q H2 l ((s.trans s1).free hl) ((s.trans s1).trans s2) e3
    · rw [if_pos rfl]
      refine ⟨by omega, by omega, fun t ht => ?_⟩
      refine beside_tail (L := [(indexOf true n e p - 1) % n, (indexOf true n e p + 1) % n]) (by omega) (Nat.le_refl 2) upd_same fun H2 l hl s2 e2 => ?_
      have s1 : Same H (upd H' t (.lst [V.int ((indexOf true n e p - 1) % n), V.int ((indexOf true n e p + 1) % n)])) := same_upd s (s.free ht)
      exact q H2 l (s1.free hl) (s1.trans s2) e2

open Zig
def sp__law_spring (K : PySem.W.Frag) : Sp := fun vs H Q _ => ∃ (a : Addr) (k : Int) (ns : List Int), vs = [.ref a, .int k] ∧ SqL K H a (ns.map V.int) ∧ ns.length ≤ 63 ∧ 0 ≤ k ∧ k < 1000 ∧ ∀ p H', H p = none → Same H H' → Spring H' p → Q (.ref p) H'
theorem ok__law_spring (T : Env K mg) : Hd P w K mg base CX0 1 "_law_spring" s__law_spring ["_law_cells", "_law_k"] (sp__law_spring K) := by
  obtain ⟨f, fd, F, hm⟩ := T.d__law_spring
  refine ⟨⟨f, fd, F, hm, ?_⟩, fun _ _ _ _ _ _ _ us hl => match us, hl with | [_, _], _ => rfl⟩
  refine F.ok sc__law_spring (fun vs H Q E h => ?_) (fun cdv A outer s H vs Q E hr h => ?_)
  · first | (obtain ⟨rfl, _⟩ := h; rfl) | (obtain ⟨_, rfl, _⟩ := h; rfl) | (obtain ⟨_, _, rfl, _⟩ := h; rfl) | (obtain ⟨_, _, _, rfl, _⟩ := h; rfl) | (obtain ⟨_, _, _, _, rfl, _⟩ := h; rfl) | (obtain ⟨_, _, _, _, _, rfl, _⟩ := h; rfl) | (obtain ⟨_, _, _, _, _, _, rfl, _⟩ := h; rfl) | (obtain ⟨_, _, _, _, _, _, _, rfl, _⟩ := h; rfl) | (obtain ⟨_, _, _, _, _, _, _, _, rfl, _⟩ := h; rfl)
  · obtain ⟨a, k, ns, rfl, hs, hl, hk, hk2, q⟩ := h
    have hu := hu_of hr
    refine ⟨_, pss_cons (ps_set (i := 2) sc__law_spring.nd rfl (by first | exact .inl rfl | exact .inr rfl) (pe_ifExp (pt_cmpR op_lt (pv 1) (pe_callB call_len_seq rfl T.b_len (by decide +kernel) (pa_cons (pv 0) pa_nil)) (nomark _)) (pe_ix ix_list (pv 0) (pv 1) (fun _ _ => rfl)) (pe_op op_add (pe_op op_mul pe_int (pv 1)) pe_int)))
      (pss_cons (ps_set (i := 3) sc__law_spring.nd rfl (by first | exact .inl rfl | exact .inr rfl) (pe_op op_add pe_int (pe_op op_mul pe_int (pv 1))))
      (pss_cons (ps_for PassesOwn.never rfl (pi_list (pe_op op_cat (pe_slice sl_list (pv 0) po_none (po_some pe_int)) (pe_lst (pa_cons (pv 2) pa_nil)))) (pg_name (i := 4) sc__law_spring.nd rfl (by first | exact .inl rfl | exact .inr rfl))
      (pss_one (ps_set (i := 3) sc__law_spring.nd rfl (by first | exact .inl rfl | exact .inr rfl) (pe_op op_mod (pe_callTy call_int1 rfl T.b_int (by decide +kernel) (pa_cons (pe_op op_add (pe_op op_add (pe_op op_mul (pv 3) pe_int) (pe_callTy call_int1 rfl T.b_int (by decide +kernel) (pa_cons (pv 4) pa_nil))) (pe_op op_mul pe_int (pv 1))) pa_nil)) pe_int))))
      (pss_one (ps_ret (pe_lst (pa_cons (pe_ifExp (PW.pt (pw_or (pt_cmpR op_lt (pv 2) pe_int (nomark _)) (pw_or1 (pt_cmpR op_ge (pv 2) (pe_op op_pow pe_int pe_int) (nomark _))))) (pe_callB call_abs rfl T.b_abs (by decide +kernel) (pa_cons (pv 2) pa_nil)) pe_int) (pa_cons (pv 3) (pa_cons pe_int pa_nil)))))))), ?_⟩
    simp only [L2.start, List.map_cons, List.map_nil, List.length_cons, List.length_nil, Nat.zero_add, Nat.reduceAdd, Nat.reduceSub, List.replicate_succ, List.replicate_zero, List.cons_append, List.nil_append, List.append_nil, L2.tSeq, L2.tNext, L2.tAsg, L2.gName, L2.tRet, L2.tRetN, L2.tIfS, L2.tVar, L2.tC, L2.tOp, L2.tUn, L2.rI, L2.rI0, L2.rU, L2.rEq, L2.rNe, L2.tTest, L2.tB, L2.tIf, Z.tIfCI, Z.tIfCS, L2.tChain, L2.tCons, L2.tNil, L2.tCall, L2.tDrop, L2.tAndV, L2.tOrV, L2.tNotV, L2.tAnd, L2.tOr, L2.tNot, L2.tCB, Z.sc_ii, Z.sc_ss, Z.sc_bb, Z.sc_is, Z.sc_si, Z.sc_ni, Z.sc_in, Z.sc_ns, Z.sc_sn, Z.sc_nn, L2.CDiv, L2.CPow, L2.CMul, List.getElem?_cons_zero, List.getElem?_cons_succ, Z.set_z, Z.set_s, Option.some.injEq, L2.V.int.injEq, L2.V.bl.injEq, L2.V.str.injEq, L2.V.ref.injEq, L2.V.ty.injEq, List.cons.injEq, exists_eq_left', exists_and_left, exists_eq_left, exists_eq_right, exists_eq_right', exists_eq', exists_eq, true_and, and_true, and_assoc, decide_eq_true_eq, Int.reduceLT, and_self, Z.rIxH, Z.rIxU, Z.at30, Z.at31, Z.at32, Z.ix3_0, Z.ix3_1, Z.ix3_2, L2.rSetL, L2.gSub, Z.gTupH, L2.gCons, L2.gNil, L2.HO.lst.injEq, L2.HO.tup.injEq, L2.upd_same, L2.upd_upd, L2.tSl, L2.tNoPart, L2.tPart, L2.rSlL, L2.rCat, List.length_append, or_false, false_or, or_true, true_or, reduceCtorEq, false_and, and_false, exists_false, Int.reduceNeg, Int.reducePow, Int.reduceToNat, Int.reduceAbs, Int.reduceLE, Int.reduceMul, Int.reduceAdd, Int.reduceSub, Nat.reducePow, Nat.reduceLT, Nat.reduceLeDiff, Int.natAbs_natCast, if_true, if_false, Z.rIsN, Z.tyN, Z.kit_ii, Z.kit_bi, Z.kit_si, Z.kit_ni, Z.kit_ib, Z.kit_bb, Z.kit_sb, Z.kit_nb, Z.kit_is, Z.kit_bs, Z.kit_ss, Z.kit_ns, Bool.not_true, Bool.not_false, L2.tTup, L2.tLst, L2.wipe, L2.tYes, Z.Turn1, L2.tNever, sizeLine_eq, Z.rInU, Z.rInH, L2.flatV, List.any_cons, List.any_nil, List.all_cons, List.all_nil, Bool.and_true, Bool.true_and, Bool.or_false, Bool.false_or, Z.tBML, L2.rAppend, Z.map_int_inj, Z.map_bl_inj, Z.rTupL, Z.rLstL, Z.rLstT, Z.rSortI, Z.rAnyH, Z.rAllH, Z.rSumH, Z.rLenL, Z.rLenU, List.length_map, L2.tPar, Z.tCallK0, List.getD_cons_zero, List.getD_cons_succ]
    refine ⟨ns.map V.int, .inl hs, ?_⟩
    refine idx_or hs hk fun cell => ?_
    refine for_ints (fun R hR => ?_) (fun σ => ∃ m x, σ = [some (.ref a), some (.int k), some (.int cell), some (.int m), x]) ⟨_, _, rfl⟩ ?_ ?_
    · simp only [L2.start, List.map_cons, List.map_nil, List.length_cons, List.length_nil, Nat.zero_add, Nat.reduceAdd, Nat.reduceSub, List.replicate_succ, List.replicate_zero, List.cons_append, List.nil_append, List.append_nil, L2.tSeq, L2.tNext, L2.tAsg, L2.gName, L2.tRet, L2.tRetN, L2.tIfS, L2.tVar, L2.tC, L2.tOp, L2.tUn, L2.rI, L2.rI0, L2.rU, L2.rEq, L2.rNe, L2.tTest, L2.tB, L2.tIf, Z.tIfCI, Z.tIfCS, L2.tChain, L2.tCons, L2.tNil, L2.tCall, L2.tDrop, L2.tAndV, L2.tOrV, L2.tNotV, L2.tAnd, L2.tOr, L2.tNot, L2.tCB, Z.sc_ii, Z.sc_ss, Z.sc_bb, Z.sc_is, Z.sc_si, Z.sc_ni, Z.sc_in, Z.sc_ns, Z.sc_sn, Z.sc_nn, L2.CDiv, L2.CPow, L2.CMul, List.getElem?_cons_zero, List.getElem?_cons_succ, Z.set_z, Z.set_s, Option.some.injEq, L2.V.int.injEq, L2.V.bl.injEq, L2.V.str.injEq, L2.V.ref.injEq, L2.V.ty.injEq, List.cons.injEq, exists_eq_left', exists_and_left, exists_eq_left, exists_eq_right, exists_eq_right', exists_eq', exists_eq, true_and, and_true, and_assoc, decide_eq_true_eq, Int.reduceLT, and_self, Z.rIxH, Z.rIxU, Z.at30, Z.at31, Z.at32, Z.ix3_0, Z.ix3_1, Z.ix3_2, L2.rSetL, L2.gSub, Z.gTupH, L2.gCons, L2.gNil, L2.HO.lst.injEq, L2.HO.tup.injEq, L2.upd_same, L2.upd_upd, L2.tSl, L2.tNoPart, L2.tPart, L2.rSlL, L2.rCat, List.length_append, or_false, false_or, or_true, true_or, reduceCtorEq, false_and, and_false, exists_false, Int.reduceNeg, Int.reducePow, Int.reduceToNat, Int.reduceAbs, Int.reduceLE, Int.reduceMul, Int.reduceAdd, Int.reduceSub, Nat.reducePow, Nat.reduceLT, Nat.reduceLeDiff, Int.natAbs_natCast, if_true, if_false, Z.rIsN, Z.tyN, Z.kit_ii, Z.kit_bi, Z.kit_si, Z.kit_ni, Z.kit_ib, Z.kit_bb, Z.kit_sb, Z.kit_nb, Z.kit_is, Z.kit_bs, Z.kit_ss, Z.kit_ns, Bool.not_true, Bool.not_false, L2.tTup, L2.tLst, L2.wipe, L2.tYes, Z.Turn1, L2.tNever, sizeLine_eq, Z.rInU, Z.rInH, L2.flatV, List.any_cons, List.any_nil, List.all_cons, List.all_nil, Bool.and_true, Bool.true_and, Bool.or_false, Bool.false_or, Z.tBML, L2.rAppend, Z.map_int_inj, Z.map_bl_inj, Z.rTupL, Z.rLstL, Z.rLstT, Z.rSortI, Z.rAnyH, Z.rAllH, Z.rSumH, Z.rLenL, Z.rLenU, List.length_map, L2.tPar, Z.tCallK0, List.getD_cons_zero, List.getD_cons_succ]
      obtain ⟨ms, em, hm⟩ := cut_ints ns none (some 8)
      refine ⟨_, hs, fun t ht b hb => ?_⟩
      have htb : t ≠ b := ne_of_none (upd_same (H := H) (a := t)) hb
      refine ⟨ms.map V.int, by rw [upd_ne htb, upd_same, em], by rw [List.length_map]; omega, fun z hz => ?_⟩
      have s1 := same_upd (o := .lst [V.int cell]) (same_new (o := .lst (cutV (ns.map V.int) none (some 8))) ht) ((same_new ht).free hb)
      refine hR z _ (ms ++ [cell]) (same_upd s1 (s1.free hz)) ?_
      rw [upd_same, List.map_append]
      rfl
    · rintro x σ H' s ⟨m, y, rfl⟩ N hN
      simp only [L2.start, List.map_cons, List.map_nil, List.length_cons, List.length_nil, Nat.zero_add, Nat.reduceAdd, Nat.reduceSub, List.replicate_succ, List.replicate_zero, List.cons_append, List.nil_append, List.append_nil, L2.tSeq, L2.tNext, L2.tAsg, L2.gName, L2.tRet, L2.tRetN, L2.tIfS, L2.tVar, L2.tC, L2.tOp, L2.tUn, L2.rI, L2.rI0, L2.rU, L2.rEq, L2.rNe, L2.tTest, L2.tB, L2.tIf, Z.tIfCI, Z.tIfCS, L2.tChain, L2.tCons, L2.tNil, L2.tCall, L2.tDrop, L2.tAndV, L2.tOrV, L2.tNotV, L2.tAnd, L2.tOr, L2.tNot, L2.tCB, Z.sc_ii, Z.sc_ss, Z.sc_bb, Z.sc_is, Z.sc_si, Z.sc_ni, Z.sc_in, Z.sc_ns, Z.sc_sn, Z.sc_nn, L2.CDiv, L2.CPow, L2.CMul, List.getElem?_cons_zero, List.getElem?_cons_succ, Z.set_z, Z.set_s, Option.some.injEq, L2.V.int.injEq, L2.V.bl.injEq, L2.V.str.injEq, L2.V.ref.injEq, L2.V.ty.injEq, List.cons.injEq, exists_eq_left', exists_and_left, exists_eq_left, exists_eq_right, exists_eq_right', exists_eq', exists_eq, true_and, and_true, and_assoc, decide_eq_true_eq, Int.reduceLT, and_self, Z.rIxH, Z.rIxU, Z.at30, Z.at31, Z.at32, Z.ix3_0, Z.ix3_1, Z.ix3_2, L2.rSetL, L2.gSub, Z.gTupH, L2.gCons, L2.gNil, L2.HO.lst.injEq, L2.HO.tup.injEq, L2.upd_same, L2.upd_upd, L2.tSl, L2.tNoPart, L2.tPart, L2.rSlL, L2.rCat, List.length_append, or_false, false_or, or_true, true_or, reduceCtorEq, false_and, and_false, exists_false, Int.reduceNeg, Int.reducePow, Int.reduceToNat, Int.reduceAbs, Int.reduceLE, Int.reduceMul, Int.reduceAdd, Int.reduceSub, Nat.reducePow, Nat.reduceLT, Nat.reduceLeDiff, Int.natAbs_natCast, if_true, if_false, Z.rIsN, Z.tyN, Z.kit_ii, Z.kit_bi, Z.kit_si, Z.kit_ni, Z.kit_ib, Z.kit_bb, Z.kit_sb, Z.kit_nb, Z.kit_is, Z.kit_bs, Z.kit_ss, Z.kit_ns, Bool.not_true, Bool.not_false, L2.tTup, L2.tLst, L2.wipe, L2.tYes, Z.Turn1, L2.tNever, sizeLine_eq, Z.rInU, Z.rInH, L2.flatV, List.any_cons, List.any_nil, List.all_cons, List.all_nil, Bool.and_true, Bool.true_and, Bool.or_false, Bool.false_or, Z.tBML, L2.rAppend, Z.map_int_inj, Z.map_bl_inj, Z.rTupL, Z.rLstL, Z.rLstT, Z.rSortI, Z.rAnyH, Z.rAllH, Z.rSumH, Z.rLenL, Z.rLenU, List.length_map, L2.tPar, Z.tCallK0, List.getD_cons_zero, List.getD_cons_succ]
      exact hN _ ⟨_, _, rfl⟩
    · rintro σ H' s ⟨m, y, rfl⟩
      simp only [L2.start, List.map_cons, List.map_nil, List.length_cons, List.length_nil, Nat.zero_add, Nat.reduceAdd, Nat.reduceSub, List.replicate_succ, List.replicate_zero, List.cons_append, List.nil_append, List.append_nil, L2.tSeq, L2.tNext, L2.tAsg, L2.gName, L2.tRet, L2.tRetN, L2.tIfS, L2.tVar, L2.tC, L2.tOp, L2.tUn, L2.rI, L2.rI0, L2.rU, L2.rEq, L2.rNe, L2.tTest, L2.tB, L2.tIf, Z.tIfCI, Z.tIfCS, L2.tChain, L2.tCons, L2.tNil, L2.tCall, L2.tDrop, L2.tAndV, L2.tOrV, L2.tNotV, L2.tAnd, L2.tOr, L2.tNot, L2.tCB, Z.sc_ii, Z.sc_ss, Z.sc_bb, Z.sc_is, Z.sc_si, Z.sc_ni, Z.sc_in, Z.sc_ns, Z.sc_sn, Z.sc_nn, L2.CDiv, L2.CPow, L2.CMul, List.getElem?_cons_zero, List.getElem?_cons_succ, Z.set_z, Z.set_s, Option.some.injEq, L2.V.int.injEq, L2.V.bl.injEq, L2.V.str.injEq, L2.V.ref.injEq, L2.V.ty.injEq, List.cons.injEq, exists_eq_left', exists_and_left, exists_eq_left, exists_eq_right, exists_eq_right', exists_eq', exists_eq, true_and, and_true, and_assoc, decide_eq_true_eq, Int.reduceLT, and_self, Z.rIxH, Z.rIxU, Z.at30, Z.at31, Z.at32, Z.ix3_0, Z.ix3_1, Z.ix3_2, L2.rSetL, L2.gSub, Z.gTupH, L2.gCons, L2.gNil, L2.HO.lst.injEq, L2.HO.tup.injEq, L2.upd_same, L2.upd_upd, L2.tSl, L2.tNoPart, L2.tPart, L2.rSlL, L2.rCat, List.length_append, or_false, false_or, or_true, true_or, reduceCtorEq, false_and, and_false, exists_false, Int.reduceNeg, Int.reducePow, Int.reduceToNat, Int.reduceAbs, Int.reduceLE, Int.reduceMul, Int.reduceAdd, Int.reduceSub, Nat.reducePow, Nat.reduceLT, Nat.reduceLeDiff, Int.natAbs_natCast, if_true, if_false, Z.rIsN, Z.tyN, Z.kit_ii, Z.kit_bi, Z.kit_si, Z.kit_ni, Z.kit_ib, Z.kit_bb, Z.kit_sb, Z.kit_nb, Z.kit_is, Z.kit_bs, Z.kit_ss, Z.kit_ns, Bool.not_true, Bool.not_false, L2.tTup, L2.tLst, L2.wipe, L2.tYes, Z.Turn1, L2.tNever, sizeLine_eq, Z.rInU, Z.rInH, L2.flatV, List.any_cons, List.any_nil, List.all_cons, List.all_nil, Bool.and_true, Bool.true_and, Bool.or_false, Bool.false_or, Z.tBML, L2.rAppend, Z.map_int_inj, Z.map_bl_inj, Z.rTupL, Z.rLstL, Z.rLstT, Z.rSortI, Z.rAnyH, Z.rAllH, Z.rSumH, Z.rLenL, Z.rLenU, List.length_map, L2.tPar, Z.tCallK0, List.getD_cons_zero, List.getD_cons_succ]
      have fin : ∀ z : Int, ∀ p : Addr, H' p = none → Q (.ref p) (upd H' p (.lst [.int z, .int m, .int 0])) := fun z p hp =>
        q p _ (s.free hp) (same_upd s (s.free hp)) ⟨z, m, 0, upd_same⟩
      repeat' split
      all_goals exact fun p hp => fin _ p hp
def sp__law_draw : Sp := fun vs H Q _ => ∃ (p : Addr) (n : Int), vs = [.ref p, .int n] ∧ Spring H p ∧ 0 < n ∧ n < 1073741824 ∧ ∀ d H', Kp p H H' → 0 ≤ d → d < n → Q (.int d) H'
theorem ok__law_draw (T : Env K mg) : Hd P w K mg base CX0 1 "_law_draw" s__law_draw ["_law_spring_here", "_law_size"] sp__law_draw := by
  obtain ⟨f, fd, F, hm⟩ := T.d__law_draw
  refine ⟨⟨f, fd, F, hm, ?_⟩, fun _ _ _ _ _ _ _ us hl => match us, hl with | [_, _], _ => rfl⟩
  refine F.ok sc__law_draw (fun vs H Q E h => ?_) (fun cdv A outer s H vs Q E hr h => ?_)
  · first | (obtain ⟨rfl, _⟩ := h; rfl) | (obtain ⟨_, rfl, _⟩ := h; rfl) | (obtain ⟨_, _, rfl, _⟩ := h; rfl) | (obtain ⟨_, _, _, rfl, _⟩ := h; rfl) | (obtain ⟨_, _, _, _, rfl, _⟩ := h; rfl) | (obtain ⟨_, _, _, _, _, rfl, _⟩ := h; rfl) | (obtain ⟨_, _, _, _, _, _, rfl, _⟩ := h; rfl) | (obtain ⟨_, _, _, _, _, _, _, rfl, _⟩ := h; rfl) | (obtain ⟨_, _, _, _, _, _, _, _, rfl, _⟩ := h; rfl)
  · obtain ⟨p, n, rfl, ⟨a, b, c, hp⟩, hn, hn2, q⟩ := h
    have hu := hu_of hr
    refine ⟨_, pss_cons (ps_asg (pe_op op_add (pe_ix ix_listH (pv 0) pe_int (fun _ _ => rfl)) pe_int) (pg_sub (pv 0) pe_int set_list))
      (pss_cons (ps_asg (pe_op op_mod (pe_callTy call_int1 rfl T.b_int (by decide +kernel) (pa_cons (pe_op op_add (pe_op op_add (pe_op op_mul (pe_ix ix_listH (pv 0) pe_int (fun _ _ => rfl)) pe_int) (pe_op op_mul pe_int (pe_ix ix_listH (pv 0) pe_int (fun _ _ => rfl)))) pe_int) pa_nil)) pe_int) (pg_sub (pv 0) pe_int set_list))
      (pss_cons (ps_if (pt_cmpR op_gt (pe_ix ix_listH (pv 0) pe_int (fun _ _ => rfl)) pe_int (nomark _)) (pss_cons (ps_asg (pe_callB call_divmod rfl T.b_divmod (by decide +kernel) (pa_cons (pe_ix ix_listH (pv 0) pe_int (fun _ _ => rfl)) (pa_cons (pv 1) pa_nil))) (pg_tupH (n := 2) rfl (pgs_cons (pg_sub (pv 0) pe_int set_list) (pgs_cons (pg_name (i := 2) sc__law_draw.nd rfl (by first | exact .inl rfl | exact .inr rfl)) pgs_nil))))
      (pss_one (ps_ret (pv 2))))
      (pss_nil))
      (pss_cons (ps_set (i := 3) sc__law_draw.nd rfl (by first | exact .inl rfl | exact .inr rfl) (pe_op op_add (pe_ix ix_listH (pv 0) pe_int (fun _ _ => rfl)) pe_int))
      (pss_cons (ps_set (i := 4) sc__law_draw.nd rfl (by first | exact .inl rfl | exact .inr rfl) (pe_op op_mod (pe_callTy call_int1 rfl T.b_int (by decide +kernel) (pa_cons (pe_op op_add (pe_op op_mul (pv 3) (pe_ix ix_listH (pv 0) pe_int (fun _ _ => rfl))) (pe_ix ix_listH (pv 0) pe_int (fun _ _ => rfl))) pa_nil)) pe_int))
      (pss_one (ps_ret (pe_op op_mod (pe_callTy call_int1 rfl T.b_int (by decide +kernel) (pa_cons (pe_op op_fdiv (pv 4) pe_int) pa_nil)) (pv 1)))))))), ?_⟩
    simp only [L2.start, List.map_cons, List.map_nil, List.length_cons, List.length_nil, Nat.zero_add, Nat.reduceAdd, Nat.reduceSub, List.replicate_succ, List.replicate_zero, List.cons_append, List.nil_append, List.append_nil, L2.tSeq, L2.tNext, L2.tAsg, L2.gName, L2.tRet, L2.tRetN, L2.tIfS, L2.tVar, L2.tC, L2.tOp, L2.tUn, L2.rI, L2.rI0, L2.rU, L2.rEq, L2.rNe, L2.tTest, L2.tB, L2.tIf, Z.tIfCI, Z.tIfCS, L2.tChain, L2.tCons, L2.tNil, L2.tCall, L2.tDrop, L2.tAndV, L2.tOrV, L2.tNotV, L2.tAnd, L2.tOr, L2.tNot, L2.tCB, Z.sc_ii, Z.sc_ss, Z.sc_bb, Z.sc_is, Z.sc_si, Z.sc_ni, Z.sc_in, Z.sc_ns, Z.sc_sn, Z.sc_nn, L2.CDiv, L2.CPow, L2.CMul, List.getElem?_cons_zero, List.getElem?_cons_succ, Z.set_z, Z.set_s, Option.some.injEq, L2.V.int.injEq, L2.V.bl.injEq, L2.V.str.injEq, L2.V.ref.injEq, L2.V.ty.injEq, List.cons.injEq, exists_eq_left', exists_and_left, exists_eq_left, exists_eq_right, exists_eq_right', exists_eq', exists_eq, true_and, and_true, and_assoc, decide_eq_true_eq, Int.reduceLT, and_self, Z.rIxH, Z.rIxU, Z.at30, Z.at31, Z.at32, Z.ix3_0, Z.ix3_1, Z.ix3_2, L2.rSetL, L2.gSub, Z.gTupH, L2.gCons, L2.gNil, L2.HO.lst.injEq, L2.HO.tup.injEq, L2.upd_same, L2.upd_upd, L2.tSl, L2.tNoPart, L2.tPart, L2.rSlL, L2.rCat, List.length_append, or_false, false_or, or_true, true_or, reduceCtorEq, false_and, and_false, exists_false, Int.reduceNeg, Int.reducePow, Int.reduceToNat, Int.reduceAbs, Int.reduceLE, Int.reduceMul, Int.reduceAdd, Int.reduceSub, Nat.reducePow, Nat.reduceLT, Nat.reduceLeDiff, Int.natAbs_natCast, if_true, if_false, Z.rIsN, Z.tyN, Z.kit_ii, Z.kit_bi, Z.kit_si, Z.kit_ni, Z.kit_ib, Z.kit_bb, Z.kit_sb, Z.kit_nb, Z.kit_is, Z.kit_bs, Z.kit_ss, Z.kit_ns, Bool.not_true, Bool.not_false, L2.tTup, L2.tLst, L2.wipe, L2.tYes, Z.Turn1, L2.tNever, sizeLine_eq, Z.rInU, Z.rInH, L2.flatV, List.any_cons, List.any_nil, List.all_cons, List.all_nil, Bool.and_true, Bool.true_and, Bool.or_false, Bool.false_or, Z.tBML, L2.rAppend, Z.map_int_inj, Z.map_bl_inj, Z.rTupL, Z.rLstL, Z.rLstT, Z.rSortI, Z.rAnyH, Z.rAllH, Z.rSumH, Z.rLenL, Z.rLenU, List.length_map, L2.tPar, Z.tCallK0, List.getD_cons_zero, List.getD_cons_succ, hp]
    have kp1 : ∀ x y z : Int, Kp p H (upd H p (.lst [.int x, .int y, .int z])) := fun x y z => ⟨⟨x, y, z, upd_same⟩, fun b o nb e => by rw [upd_ne nb]; exact e⟩
    split
    · refine ⟨hn, hn2, fun t ht => ?_⟩
      have hpt : p ≠ t := ne_of_none (upd_same (H := H) (a := p)) ht
      refine ⟨_, by rw [upd_ne hpt, upd_same], 0, rfl, ?_⟩
      refine q _ _ ⟨⟨_, _, _, upd_same⟩, fun u o nu e => ?_⟩ (Int.emod_nonneg _ (by omega)) (Int.emod_lt_of_pos _ hn)
      have e2 : (upd H p (.lst [.int a, .int ((b * 69621 + 40503 * (c + 1) + 1) % 2147483647), .int (c + 1)])) u = some o := by rw [upd_ne nu]; exact e
      rw [upd_ne nu, upd_ne (ne_of_none e2 ht), e2]
    · exact ⟨by omega, hn, q _ _ (kp1 _ _ _) (Int.emod_nonneg _ (by omega)) (Int.emod_lt_of_pos _ hn)⟩
def sp__law_of : Sp := fun vs H Q _ => ∃ (p m : Addr) (xs : List V), vs = [.ref p, .ref m] ∧ Spring H p ∧ H m = some (.lst xs) ∧ m ≠ p ∧ 0 < xs.length ∧ xs.length < 1000 ∧ ∀ v H', Kp p H H' → v ∈ xs → Q v H'
theorem ok__law_of (T : Env K mg) : Hd P w K mg base CX0 2 "_law_of" s__law_of ["_law_spring_here", "_law_menu"] sp__law_of := by
  have H__law_draw := ok__law_draw (P := P) (w := w) (base := base) T
  obtain ⟨f, fd, F, hm⟩ := T.d__law_of
  refine ⟨⟨f, fd, F, hm, ?_⟩, fun _ _ _ _ _ _ _ us hl => match us, hl with | [_, _], _ => rfl⟩
  refine F.ok sc__law_of (fun vs H Q E h => ?_) (fun cdv A outer s H vs Q E hr h => ?_)
  · first | (obtain ⟨rfl, _⟩ := h; rfl) | (obtain ⟨_, rfl, _⟩ := h; rfl) | (obtain ⟨_, _, rfl, _⟩ := h; rfl) | (obtain ⟨_, _, _, rfl, _⟩ := h; rfl) | (obtain ⟨_, _, _, _, rfl, _⟩ := h; rfl) | (obtain ⟨_, _, _, _, _, rfl, _⟩ := h; rfl) | (obtain ⟨_, _, _, _, _, _, rfl, _⟩ := h; rfl) | (obtain ⟨_, _, _, _, _, _, _, rfl, _⟩ := h; rfl) | (obtain ⟨_, _, _, _, _, _, _, _, rfl, _⟩ := h; rfl)
  · obtain ⟨p, m, xs, rfl, hp, hm, hne, h0, h1, q⟩ := h
    have hu := hu_of hr
    refine ⟨_, pss_one (ps_ret (pe_ix ix_listH (pv 1) (pe_hd H__law_draw (hr.mono (by decide)) rfl pass0 (pa_cons (pv 0) (pa_cons (pe_callB call_lenL rfl T.b_len (by decide +kernel) (pa_cons (pv 1) pa_nil)) pa_nil))) (fun _ _ => rfl))), ?_⟩
    simp only [L2.start, List.map_cons, List.map_nil, List.length_cons, List.length_nil, Nat.zero_add, Nat.reduceAdd, Nat.reduceSub, List.replicate_succ, List.replicate_zero, List.cons_append, List.nil_append, List.append_nil, L2.tSeq, L2.tNext, L2.tAsg, L2.gName, L2.tRet, L2.tRetN, L2.tIfS, L2.tVar, L2.tC, L2.tOp, L2.tUn, L2.rI, L2.rI0, L2.rU, L2.rEq, L2.rNe, L2.tTest, L2.tB, L2.tIf, Z.tIfCI, Z.tIfCS, L2.tChain, L2.tCons, L2.tNil, L2.tCall, L2.tDrop, L2.tAndV, L2.tOrV, L2.tNotV, L2.tAnd, L2.tOr, L2.tNot, L2.tCB, Z.sc_ii, Z.sc_ss, Z.sc_bb, Z.sc_is, Z.sc_si, Z.sc_ni, Z.sc_in, Z.sc_ns, Z.sc_sn, Z.sc_nn, L2.CDiv, L2.CPow, L2.CMul, List.getElem?_cons_zero, List.getElem?_cons_succ, Z.set_z, Z.set_s, Option.some.injEq, L2.V.int.injEq, L2.V.bl.injEq, L2.V.str.injEq, L2.V.ref.injEq, L2.V.ty.injEq, List.cons.injEq, exists_eq_left', exists_and_left, exists_eq_left, exists_eq_right, exists_eq_right', exists_eq', exists_eq, true_and, and_true, and_assoc, decide_eq_true_eq, Int.reduceLT, and_self, Z.rIxH, Z.rIxU, Z.at30, Z.at31, Z.at32, Z.ix3_0, Z.ix3_1, Z.ix3_2, L2.rSetL, L2.gSub, Z.gTupH, L2.gCons, L2.gNil, L2.HO.lst.injEq, L2.HO.tup.injEq, L2.upd_same, L2.upd_upd, L2.tSl, L2.tNoPart, L2.tPart, L2.rSlL, L2.rCat, List.length_append, or_false, false_or, or_true, true_or, reduceCtorEq, false_and, and_false, exists_false, Int.reduceNeg, Int.reducePow, Int.reduceToNat, Int.reduceAbs, Int.reduceLE, Int.reduceMul, Int.reduceAdd, Int.reduceSub, Nat.reducePow, Nat.reduceLT, Nat.reduceLeDiff, Int.natAbs_natCast, if_true, if_false, Z.rIsN, Z.tyN, Z.kit_ii, Z.kit_bi, Z.kit_si, Z.kit_ni, Z.kit_ib, Z.kit_bb, Z.kit_sb, Z.kit_nb, Z.kit_is, Z.kit_bs, Z.kit_ss, Z.kit_ns, Bool.not_true, Bool.not_false, L2.tTup, L2.tLst, L2.wipe, L2.tYes, Z.Turn1, L2.tNever, sizeLine_eq, Z.rInU, Z.rInH, L2.flatV, List.any_cons, List.any_nil, List.all_cons, List.all_nil, Bool.and_true, Bool.true_and, Bool.or_false, Bool.false_or, Z.tBML, L2.rAppend, Z.map_int_inj, Z.map_bl_inj, Z.rTupL, Z.rLstL, Z.rLstT, Z.rSortI, Z.rAnyH, Z.rAllH, Z.rSumH, Z.rLenL, Z.rLenU, List.length_map, L2.tPar, Z.tCallK0, List.getD_cons_zero, List.getD_cons_succ, sp__law_draw, hm]
    refine ⟨hp, by omega, by omega, fun d H' kp h2 h3 => ⟨xs, kp.keep _ _ hne hm, ?_⟩⟩
    obtain ⟨j, rfl⟩ : ∃ j : Nat, d = j := ⟨d.toNat, by omega⟩
    have hj : j < xs.length := by omega
    exact ⟨xs[j], atI_nat (List.getElem?_eq_getElem hj), q _ _ kp (List.getElem_mem hj)⟩

open Zig
theorem upto_ups (n : Int) : upto n = (ups n).map V.int := by
  unfold upto ups
  rw [List.map_map]
  rfl
def zz (r : Bool) (n : Int) : List (List Int) := (ups (nights r n)).map (evL r n)
def sp_evening_of : Sp := fun vs H Q _ => ∃ (r : Bool) (n e : Int), vs = [.str (kindS r), .int n, .int e] ∧ 1 < n ∧ n ≤ 1000 ∧ ∀ t H', H t = none → Same H H' → TupAt H' t (evL r n e) → Q (.ref t) H'
theorem ok_evening_of (T : Env K mg) : Hd P w K mg base CX0 3 "evening_of" s_evening_of ["kind", "n", "evening"] sp_evening_of := by
  have H_person_at := ok_person_at (P := P) (w := w) (base := base) T
  obtain ⟨f, fd, F, hm⟩ := T.d_evening_of
  refine ⟨⟨f, fd, F, hm, ?_⟩, fun _ _ _ _ _ _ _ us hl => match us, hl with | [_, _, _], _ => rfl⟩
  refine F.ok sc_evening_of (fun vs H Q E h => ?_) (fun cdv A outer s H vs Q E hr h => ?_)
  · first | (obtain ⟨rfl, _⟩ := h; rfl) | (obtain ⟨_, rfl, _⟩ := h; rfl) | (obtain ⟨_, _, rfl, _⟩ := h; rfl) | (obtain ⟨_, _, _, rfl, _⟩ := h; rfl) | (obtain ⟨_, _, _, _, rfl, _⟩ := h; rfl) | (obtain ⟨_, _, _, _, _, rfl, _⟩ := h; rfl) | (obtain ⟨_, _, _, _, _, _, rfl, _⟩ := h; rfl) | (obtain ⟨_, _, _, _, _, _, _, rfl, _⟩ := h; rfl) | (obtain ⟨_, _, _, _, _, _, _, _, rfl, _⟩ := h; rfl)
  · obtain ⟨r, n, e, rfl, h1, h2, q⟩ := h
    have hu := hu_of hr
    refine ⟨_, pss_one (ps_ret (pe_callTy call_tupleL rfl T.b_tuple (by decide +kernel) (pa_cons (pe_lc (own := [("index", 3)]) (g := (gName 3)) (tt := tYes) rfl sc_evening_of.nd (pi_range1 rfl T.b_range (pa_cons (pv 1) pa_nil)) (blkOk_by (own := [("index", 3)]) (N := N_evening_of) (sc := defScope s_evening_of) (by decide +kernel)) (fun _ _ _ _ _ => pg_name (i := 3) sc_evening_of.nd rfl (by first | exact .inl rfl | exact .inr rfl)) (fun _ _ _ _ _ => pts_nil) (fun _ _ _ _ _ => (pe_hd H_person_at (hr.mono (by decide)) rfl pass0 (pa_cons (pv 0) (pa_cons (pv 1) (pa_cons (pv 2) (pa_cons (pv 3) pa_nil))))))) pa_nil))), ?_⟩
    simp only [L2.start, List.map_cons, List.map_nil, List.length_cons, List.length_nil, Nat.zero_add, Nat.reduceAdd, Nat.reduceSub, List.replicate_succ, List.replicate_zero, List.cons_append, List.nil_append, List.append_nil, L2.tNext, L2.tAsg, L2.gName, L2.tRet, L2.tRetN, L2.tIfS, L2.tVar, L2.tC, L2.tOp, L2.tUn, L2.rI, L2.rI0, L2.rU, L2.rEq, L2.rNe, L2.tTest, L2.tB, L2.tIf, Z.tIfCI, Z.tIfCS, L2.tChain, L2.tCons, L2.tNil, L2.tCall, L2.tDrop, L2.tAndV, L2.tOrV, L2.tNotV, L2.tAnd, L2.tOr, L2.tNot, L2.tCB, Z.sc_ii, Z.sc_ss, Z.sc_bb, Z.sc_is, Z.sc_si, Z.sc_ni, Z.sc_in, Z.sc_ns, Z.sc_sn, Z.sc_nn, L2.CDiv, L2.CPow, L2.CMul, List.getElem?_cons_zero, List.getElem?_cons_succ, Z.set_z, Z.set_s, Option.some.injEq, L2.V.int.injEq, L2.V.bl.injEq, L2.V.str.injEq, L2.V.ref.injEq, L2.V.ty.injEq, List.cons.injEq, exists_eq_left', exists_and_left, exists_eq_left, exists_eq_right, exists_eq_right', exists_eq', exists_eq, true_and, and_true, and_assoc, decide_eq_true_eq, Int.reduceLT, and_self, Z.rIxH, Z.rIxU, Z.at30, Z.at31, Z.at32, Z.ix3_0, Z.ix3_1, Z.ix3_2, L2.rSetL, L2.gSub, Z.gTupH, L2.gCons, L2.gNil, L2.HO.lst.injEq, L2.HO.tup.injEq, L2.upd_same, L2.upd_upd, L2.tSl, L2.tNoPart, L2.tPart, L2.rSlL, L2.rCat, List.length_append, or_false, false_or, or_true, true_or, reduceCtorEq, false_and, and_false, exists_false, Int.reduceNeg, Int.reducePow, Int.reduceToNat, Int.reduceAbs, Int.reduceLE, Int.reduceMul, Int.reduceAdd, Int.reduceSub, Nat.reducePow, Nat.reduceLT, Nat.reduceLeDiff, Int.natAbs_natCast, if_true, if_false, Z.rIsN, Z.tyN, Z.kit_ii, Z.kit_bi, Z.kit_si, Z.kit_ni, Z.kit_ib, Z.kit_bb, Z.kit_sb, Z.kit_nb, Z.kit_is, Z.kit_bs, Z.kit_ss, Z.kit_ns, Bool.not_true, Bool.not_false, L2.tTup, L2.tLst, L2.wipe, L2.tYes, Z.Turn1, L2.tNever, sizeLine_eq, Z.rInU, Z.rInH, L2.flatV, List.any_cons, List.any_nil, List.all_cons, List.all_nil, Bool.and_true, Bool.true_and, Bool.or_false, Bool.false_or, Z.tBML, L2.rAppend, Z.map_int_inj, Z.map_bl_inj, Z.rTupL, Z.rLstL, Z.rLstT, Z.rSortI, Z.rAnyH, Z.rAllH, Z.rSumH, Z.rLenL, Z.rLenU, List.length_map, L2.tPar, Z.tCallK0, List.getD_cons_zero, List.getD_cons_succ, sp_person_at]
    refine lc_mapR (n := n) (int1 (personAt r n e)) (fun R h => ⟨_, rfl, h⟩) (by omega) (fun i hi H1 s1 => ?_) fun D H1 hD s1 e1 => ?_
    · intro Y N hY hN
      simp only [L2.start, List.map_cons, List.map_nil, List.length_cons, List.length_nil, Nat.zero_add, Nat.reduceAdd, Nat.reduceSub, List.replicate_succ, List.replicate_zero, List.cons_append, List.nil_append, List.append_nil, L2.tNext, L2.tAsg, L2.gName, L2.tRet, L2.tRetN, L2.tIfS, L2.tVar, L2.tC, L2.tOp, L2.tUn, L2.rI, L2.rI0, L2.rU, L2.rEq, L2.rNe, L2.tTest, L2.tB, L2.tIf, Z.tIfCI, Z.tIfCS, L2.tChain, L2.tCons, L2.tNil, L2.tCall, L2.tDrop, L2.tAndV, L2.tOrV, L2.tNotV, L2.tAnd, L2.tOr, L2.tNot, L2.tCB, Z.sc_ii, Z.sc_ss, Z.sc_bb, Z.sc_is, Z.sc_si, Z.sc_ni, Z.sc_in, Z.sc_ns, Z.sc_sn, Z.sc_nn, L2.CDiv, L2.CPow, L2.CMul, List.getElem?_cons_zero, List.getElem?_cons_succ, Z.set_z, Z.set_s, Option.some.injEq, L2.V.int.injEq, L2.V.bl.injEq, L2.V.str.injEq, L2.V.ref.injEq, L2.V.ty.injEq, List.cons.injEq, exists_eq_left', exists_and_left, exists_eq_left, exists_eq_right, exists_eq_right', exists_eq', exists_eq, true_and, and_true, and_assoc, decide_eq_true_eq, Int.reduceLT, and_self, Z.rIxH, Z.rIxU, Z.at30, Z.at31, Z.at32, Z.ix3_0, Z.ix3_1, Z.ix3_2, L2.rSetL, L2.gSub, Z.gTupH, L2.gCons, L2.gNil, L2.HO.lst.injEq, L2.HO.tup.injEq, L2.upd_same, L2.upd_upd, L2.tSl, L2.tNoPart, L2.tPart, L2.rSlL, L2.rCat, List.length_append, or_false, false_or, or_true, true_or, reduceCtorEq, false_and, and_false, exists_false, Int.reduceNeg, Int.reducePow, Int.reduceToNat, Int.reduceAbs, Int.reduceLE, Int.reduceMul, Int.reduceAdd, Int.reduceSub, Nat.reducePow, Nat.reduceLT, Nat.reduceLeDiff, Int.natAbs_natCast, if_true, if_false, Z.rIsN, Z.tyN, Z.kit_ii, Z.kit_bi, Z.kit_si, Z.kit_ni, Z.kit_ib, Z.kit_bb, Z.kit_sb, Z.kit_nb, Z.kit_is, Z.kit_bs, Z.kit_ss, Z.kit_ns, Bool.not_true, Bool.not_false, L2.tTup, L2.tLst, L2.wipe, L2.tYes, Z.Turn1, L2.tNever, sizeLine_eq, Z.rInU, Z.rInH, L2.flatV, List.any_cons, List.any_nil, List.all_cons, List.all_nil, Bool.and_true, Bool.true_and, Bool.or_false, Bool.false_or, Z.tBML, L2.rAppend, Z.map_int_inj, Z.map_bl_inj, Z.rTupL, Z.rLstL, Z.rLstT, Z.rSortI, Z.rAnyH, Z.rAllH, Z.rSumH, Z.rLenL, Z.rLenU, List.length_map, L2.tPar, Z.tCallK0, List.getD_cons_zero, List.getD_cons_succ, sp_person_at, kind_inj]
      exact ⟨h1, hY _ H1 rfl (Same.refl _)⟩
    · rw [upto_ups, fm_int1] at e1
      exact ⟨D, rfl, _, e1, fun t ht => q t _ (s1.free ht) (same_upd s1 (s1.free ht)) upd_same⟩
theorem nights_le {r : Bool} {n : Int} (h1 : 1 < n) : 0 ≤ nights r n ∧ nights r n ≤ n := by
  unfold nights
  split <;> omega
def sp_zigzag_of : Sp := fun vs H Q _ => ∃ (r : Bool) (n : Int), vs = [.str (kindS r), .int n] ∧ 1 < n ∧ n ≤ 1000 ∧ ∀ t as H', H t = none → Same H H' → H' t = some (.tup (as.map V.ref)) → Paired (TupAt H') as (zz r n) → Q (.ref t) H'
theorem ok_zigzag_of (T : Env K mg) : Hd P w K mg base CX0 4 "zigzag_of" s_zigzag_of ["kind", "n"] sp_zigzag_of := by
  have H_evenings_for := ok_evenings_for (P := P) (w := w) (base := base) T
  have H_evening_of := ok_evening_of (P := P) (w := w) (base := base) T
  obtain ⟨f, fd, F, hm⟩ := T.d_zigzag_of
  refine ⟨⟨f, fd, F, hm, ?_⟩, fun _ _ _ _ _ _ _ us hl => match us, hl with | [_, _], _ => rfl⟩
  refine F.ok sc_zigzag_of (fun vs H Q E h => ?_) (fun cdv A outer s H vs Q E hr h => ?_)
  · first | (obtain ⟨rfl, _⟩ := h; rfl) | (obtain ⟨_, rfl, _⟩ := h; rfl) | (obtain ⟨_, _, rfl, _⟩ := h; rfl) | (obtain ⟨_, _, _, rfl, _⟩ := h; rfl) | (obtain ⟨_, _, _, _, rfl, _⟩ := h; rfl) | (obtain ⟨_, _, _, _, _, rfl, _⟩ := h; rfl) | (obtain ⟨_, _, _, _, _, _, rfl, _⟩ := h; rfl) | (obtain ⟨_, _, _, _, _, _, _, rfl, _⟩ := h; rfl) | (obtain ⟨_, _, _, _, _, _, _, _, rfl, _⟩ := h; rfl)
  · obtain ⟨r, n, rfl, h1, h2, q⟩ := h
    have hu := hu_of hr
    refine ⟨_, pss_one (ps_ret (pe_callTy call_tupleL rfl T.b_tuple (by decide +kernel) (pa_cons (pe_lc (own := [("evening", 2)]) (g := (gName 2)) (tt := tYes) rfl sc_zigzag_of.nd (pi_range1 rfl T.b_range (pa_cons (pe_hd H_evenings_for (hr.mono (by decide)) rfl pass0 (pa_cons (pv 0) (pa_cons (pv 1) pa_nil))) pa_nil)) (blkOk_by (own := [("evening", 2)]) (N := N_zigzag_of) (sc := defScope s_zigzag_of) (by decide +kernel)) (fun _ _ _ _ _ => pg_name (i := 2) sc_zigzag_of.nd rfl (by first | exact .inl rfl | exact .inr rfl)) (fun _ _ _ _ _ => pts_nil) (fun _ _ _ _ _ => (pe_hd H_evening_of (hr.mono (by decide)) rfl pass0 (pa_cons (pv 0) (pa_cons (pv 1) (pa_cons (pv 2) pa_nil)))))) pa_nil))), ?_⟩
    simp only [L2.start, List.map_cons, List.map_nil, List.length_cons, List.length_nil, Nat.zero_add, Nat.reduceAdd, Nat.reduceSub, List.replicate_succ, List.replicate_zero, List.cons_append, List.nil_append, List.append_nil, L2.tNext, L2.tAsg, L2.gName, L2.tRet, L2.tRetN, L2.tIfS, L2.tVar, L2.tC, L2.tOp, L2.tUn, L2.rI, L2.rI0, L2.rU, L2.rEq, L2.rNe, L2.tTest, L2.tB, L2.tIf, Z.tIfCI, Z.tIfCS, L2.tChain, L2.tCons, L2.tNil, L2.tCall, L2.tDrop, L2.tAndV, L2.tOrV, L2.tNotV, L2.tAnd, L2.tOr, L2.tNot, L2.tCB, Z.sc_ii, Z.sc_ss, Z.sc_bb, Z.sc_is, Z.sc_si, Z.sc_ni, Z.sc_in, Z.sc_ns, Z.sc_sn, Z.sc_nn, L2.CDiv, L2.CPow, L2.CMul, List.getElem?_cons_zero, List.getElem?_cons_succ, Z.set_z, Z.set_s, Option.some.injEq, L2.V.int.injEq, L2.V.bl.injEq, L2.V.str.injEq, L2.V.ref.injEq, L2.V.ty.injEq, List.cons.injEq, exists_eq_left', exists_and_left, exists_eq_left, exists_eq_right, exists_eq_right', exists_eq', exists_eq, true_and, and_true, and_assoc, decide_eq_true_eq, Int.reduceLT, and_self, Z.rIxH, Z.rIxU, Z.at30, Z.at31, Z.at32, Z.ix3_0, Z.ix3_1, Z.ix3_2, L2.rSetL, L2.gSub, Z.gTupH, L2.gCons, L2.gNil, L2.HO.lst.injEq, L2.HO.tup.injEq, L2.upd_same, L2.upd_upd, L2.tSl, L2.tNoPart, L2.tPart, L2.rSlL, L2.rCat, List.length_append, or_false, false_or, or_true, true_or, reduceCtorEq, false_and, and_false, exists_false, Int.reduceNeg, Int.reducePow, Int.reduceToNat, Int.reduceAbs, Int.reduceLE, Int.reduceMul, Int.reduceAdd, Int.reduceSub, Nat.reducePow, Nat.reduceLT, Nat.reduceLeDiff, Int.natAbs_natCast, if_true, if_false, Z.rIsN, Z.tyN, Z.kit_ii, Z.kit_bi, Z.kit_si, Z.kit_ni, Z.kit_ib, Z.kit_bb, Z.kit_sb, Z.kit_nb, Z.kit_is, Z.kit_bs, Z.kit_ss, Z.kit_ns, Bool.not_true, Bool.not_false, L2.tTup, L2.tLst, L2.wipe, L2.tYes, Z.Turn1, L2.tNever, sizeLine_eq, Z.rInU, Z.rInH, L2.flatV, List.any_cons, List.any_nil, List.all_cons, List.all_nil, Bool.and_true, Bool.true_and, Bool.or_false, Bool.false_or, Z.tBML, L2.rAppend, Z.map_int_inj, Z.map_bl_inj, Z.rTupL, Z.rLstL, Z.rLstT, Z.rSortI, Z.rAnyH, Z.rAllH, Z.rSumH, Z.rLenL, Z.rLenU, List.length_map, L2.tPar, Z.tCallK0, List.getD_cons_zero, List.getD_cons_succ, sp_evenings_for, sp_evening_of]
    have hn := nights_le (r := r) h1
    refine lc_rngO (H1 := H) (n := nights r n) (intO fun e => tupO (evL r n e)) (fun R h => ?_) (by omega) (fun i hi H1 s1 => ?_) fun D H1 as hD s1 e1 pr => ?_
    · simp only [L2.start, List.map_cons, List.map_nil, List.length_cons, List.length_nil, Nat.zero_add, Nat.reduceAdd, Nat.reduceSub, List.replicate_succ, List.replicate_zero, List.cons_append, List.nil_append, List.append_nil, L2.tNext, L2.tAsg, L2.gName, L2.tRet, L2.tRetN, L2.tIfS, L2.tVar, L2.tC, L2.tOp, L2.tUn, L2.rI, L2.rI0, L2.rU, L2.rEq, L2.rNe, L2.tTest, L2.tB, L2.tIf, Z.tIfCI, Z.tIfCS, L2.tChain, L2.tCons, L2.tNil, L2.tCall, L2.tDrop, L2.tAndV, L2.tOrV, L2.tNotV, L2.tAnd, L2.tOr, L2.tNot, L2.tCB, Z.sc_ii, Z.sc_ss, Z.sc_bb, Z.sc_is, Z.sc_si, Z.sc_ni, Z.sc_in, Z.sc_ns, Z.sc_sn, Z.sc_nn, L2.CDiv, L2.CPow, L2.CMul, List.getElem?_cons_zero, List.getElem?_cons_succ, Z.set_z, Z.set_s, Option.some.injEq, L2.V.int.injEq, L2.V.bl.injEq, L2.V.str.injEq, L2.V.ref.injEq, L2.V.ty.injEq, List.cons.injEq, exists_eq_left', exists_and_left, exists_eq_left, exists_eq_right, exists_eq_right', exists_eq', exists_eq, true_and, and_true, and_assoc, decide_eq_true_eq, Int.reduceLT, and_self, Z.rIxH, Z.rIxU, Z.at30, Z.at31, Z.at32, Z.ix3_0, Z.ix3_1, Z.ix3_2, L2.rSetL, L2.gSub, Z.gTupH, L2.gCons, L2.gNil, L2.HO.lst.injEq, L2.HO.tup.injEq, L2.upd_same, L2.upd_upd, L2.tSl, L2.tNoPart, L2.tPart, L2.rSlL, L2.rCat, List.length_append, or_false, false_or, or_true, true_or, reduceCtorEq, false_and, and_false, exists_false, Int.reduceNeg, Int.reducePow, Int.reduceToNat, Int.reduceAbs, Int.reduceLE, Int.reduceMul, Int.reduceAdd, Int.reduceSub, Nat.reducePow, Nat.reduceLT, Nat.reduceLeDiff, Int.natAbs_natCast, if_true, if_false, Z.rIsN, Z.tyN, Z.kit_ii, Z.kit_bi, Z.kit_si, Z.kit_ni, Z.kit_ib, Z.kit_bb, Z.kit_sb, Z.kit_nb, Z.kit_is, Z.kit_bs, Z.kit_ss, Z.kit_ns, Bool.not_true, Bool.not_false, L2.tTup, L2.tLst, L2.wipe, L2.tYes, Z.Turn1, L2.tNever, sizeLine_eq, Z.rInU, Z.rInH, L2.flatV, List.any_cons, List.any_nil, List.all_cons, List.all_nil, Bool.and_true, Bool.true_and, Bool.or_false, Bool.false_or, Z.tBML, L2.rAppend, Z.map_int_inj, Z.map_bl_inj, Z.rTupL, Z.rLstL, Z.rLstT, Z.rSortI, Z.rAnyH, Z.rAllH, Z.rSumH, Z.rLenL, Z.rLenU, List.length_map, L2.tPar, Z.tCallK0, List.getD_cons_zero, List.getD_cons_succ, sp_evenings_for, sp_evening_of, kind_inj]
      exact h
    · intro Y N hY hN
      simp only [L2.start, List.map_cons, List.map_nil, List.length_cons, List.length_nil, Nat.zero_add, Nat.reduceAdd, Nat.reduceSub, List.replicate_succ, List.replicate_zero, List.cons_append, List.nil_append, List.append_nil, L2.tNext, L2.tAsg, L2.gName, L2.tRet, L2.tRetN, L2.tIfS, L2.tVar, L2.tC, L2.tOp, L2.tUn, L2.rI, L2.rI0, L2.rU, L2.rEq, L2.rNe, L2.tTest, L2.tB, L2.tIf, Z.tIfCI, Z.tIfCS, L2.tChain, L2.tCons, L2.tNil, L2.tCall, L2.tDrop, L2.tAndV, L2.tOrV, L2.tNotV, L2.tAnd, L2.tOr, L2.tNot, L2.tCB, Z.sc_ii, Z.sc_ss, Z.sc_bb, Z.sc_is, Z.sc_si, Z.sc_ni, Z.sc_in, Z.sc_ns, Z.sc_sn, Z.sc_nn, L2.CDiv, L2.CPow, L2.CMul, List.getElem?_cons_zero, List.getElem?_cons_succ, Z.set_z, Z.set_s, Option.some.injEq, L2.V.int.injEq, L2.V.bl.injEq, L2.V.str.injEq, L2.V.ref.injEq, L2.V.ty.injEq, List.cons.injEq, exists_eq_left', exists_and_left, exists_eq_left, exists_eq_right, exists_eq_right', exists_eq', exists_eq, true_and, and_true, and_assoc, decide_eq_true_eq, Int.reduceLT, and_self, Z.rIxH, Z.rIxU, Z.at30, Z.at31, Z.at32, Z.ix3_0, Z.ix3_1, Z.ix3_2, L2.rSetL, L2.gSub, Z.gTupH, L2.gCons, L2.gNil, L2.HO.lst.injEq, L2.HO.tup.injEq, L2.upd_same, L2.upd_upd, L2.tSl, L2.tNoPart, L2.tPart, L2.rSlL, L2.rCat, List.length_append, or_false, false_or, or_true, true_or, reduceCtorEq, false_and, and_false, exists_false, Int.reduceNeg, Int.reducePow, Int.reduceToNat, Int.reduceAbs, Int.reduceLE, Int.reduceMul, Int.reduceAdd, Int.reduceSub, Nat.reducePow, Nat.reduceLT, Nat.reduceLeDiff, Int.natAbs_natCast, if_true, if_false, Z.rIsN, Z.tyN, Z.kit_ii, Z.kit_bi, Z.kit_si, Z.kit_ni, Z.kit_ib, Z.kit_bb, Z.kit_sb, Z.kit_nb, Z.kit_is, Z.kit_bs, Z.kit_ss, Z.kit_ns, Bool.not_true, Bool.not_false, L2.tTup, L2.tLst, L2.wipe, L2.tYes, Z.Turn1, L2.tNever, sizeLine_eq, Z.rInU, Z.rInH, L2.flatV, List.any_cons, List.any_nil, List.all_cons, List.all_nil, Bool.and_true, Bool.true_and, Bool.or_false, Bool.false_or, Z.tBML, L2.rAppend, Z.map_int_inj, Z.map_bl_inj, Z.rTupL, Z.rLstL, Z.rLstT, Z.rSortI, Z.rAnyH, Z.rAllH, Z.rSumH, Z.rLenL, Z.rLenU, List.length_map, L2.tPar, Z.tCallK0, List.getD_cons_zero, List.getD_cons_succ, sp_evenings_for, sp_evening_of, kind_inj]
      exact ⟨h1, h2, fun t H' ht s e => hY _ t H' rfl ht s e⟩
    · rw [upto_ups, fm_intO] at pr
      refine ⟨D, rfl, _, e1, fun t ht => ?_⟩
      refine q t as _ (s1.free ht) (same_upd s1 (s1.free ht)) upd_same ?_
      have e2 : (ups (nights r n)).map (fun e => tupO (evL r n e)) = (zz r n).map tupO := by
        unfold zz
        rw [List.map_map]
        rfl
      rw [e2] at pr
      exact tups_same (same_new ht) (tups_of pr)
def sp_zigzag : Sp := fun vs H Q _ => ∃ (r : Bool) (n : Int), vs = [.str (kindS r), .int n] ∧ isSize r n 1000000000000000000000000000000 = true ∧ n ≤ 99 ∧ ∀ t as H', H t = none → Same H H' → H' t = some (.tup (as.map V.ref)) → Paired (TupAt H') as (zz r n) → Q (.ref t) H'
theorem ok_zigzag (T : Env K mg) : Hd P w K mg base CX0 5 "zigzag" s_zigzag ["kind", "n"] sp_zigzag := by
  have H_zigzag_of := ok_zigzag_of (P := P) (w := w) (base := base) T
  have H_check_size := ok_check_size (P := P) (w := w) (base := base) T
  have H_check_kind := ok_check_kind (P := P) (w := w) (base := base) T
  obtain ⟨f, fd, F, hm⟩ := T.d_zigzag
  refine ⟨⟨f, fd, F, hm, ?_⟩, fun _ _ _ _ _ _ _ us hl => match us, hl with | [_, _], _ => rfl⟩
  refine F.ok sc_zigzag (fun vs H Q E h => ?_) (fun cdv A outer s H vs Q E hr h => ?_)
  · first | (obtain ⟨rfl, _⟩ := h; rfl) | (obtain ⟨_, rfl, _⟩ := h; rfl) | (obtain ⟨_, _, rfl, _⟩ := h; rfl) | (obtain ⟨_, _, _, rfl, _⟩ := h; rfl) | (obtain ⟨_, _, _, _, rfl, _⟩ := h; rfl) | (obtain ⟨_, _, _, _, _, rfl, _⟩ := h; rfl) | (obtain ⟨_, _, _, _, _, _, rfl, _⟩ := h; rfl) | (obtain ⟨_, _, _, _, _, _, _, rfl, _⟩ := h; rfl) | (obtain ⟨_, _, _, _, _, _, _, _, rfl, _⟩ := h; rfl)
  · obtain ⟨r, n, rfl, h1, h2, q⟩ := h
    have hu := hu_of hr
    refine ⟨_, pss_cons (ps_expr (pe_hd H_check_kind (hr.mono (by decide)) rfl pass0 (pa_cons (pv 0) pa_nil)))
      (pss_cons (ps_expr (pe_hd H_check_size (hr.mono (by decide)) rfl pass0 (pa_cons (pv 0) (pa_cons (pv 1) pa_nil))))
      (pss_cons (ps_if (pt_cmpR op_gt (pv 1) (pe_glob (v := .int 99) rfl T.c_MOST_TOLD.choose_spec ⟨_, rfl⟩) (nomark _)) (pss_one (ps_never))
      (pss_nil))
      (pss_one (ps_ret (pe_hd H_zigzag_of (hr.mono (by decide)) rfl pass0 (pa_cons (pv 0) (pa_cons (pv 1) pa_nil))))))), ?_⟩
    simp only [L2.start, List.map_cons, List.map_nil, List.length_cons, List.length_nil, Nat.zero_add, Nat.reduceAdd, Nat.reduceSub, List.replicate_succ, List.replicate_zero, List.cons_append, List.nil_append, List.append_nil, L2.tSeq, L2.tNext, L2.tAsg, L2.gName, L2.tRet, L2.tRetN, L2.tIfS, L2.tVar, L2.tC, L2.tOp, L2.tUn, L2.rI, L2.rI0, L2.rU, L2.rEq, L2.rNe, L2.tTest, L2.tB, L2.tIf, Z.tIfCI, Z.tIfCS, L2.tChain, L2.tCons, L2.tNil, L2.tCall, L2.tDrop, L2.tAndV, L2.tOrV, L2.tNotV, L2.tAnd, L2.tOr, L2.tNot, L2.tCB, Z.sc_ii, Z.sc_ss, Z.sc_bb, Z.sc_is, Z.sc_si, Z.sc_ni, Z.sc_in, Z.sc_ns, Z.sc_sn, Z.sc_nn, L2.CDiv, L2.CPow, L2.CMul, List.getElem?_cons_zero, List.getElem?_cons_succ, Z.set_z, Z.set_s, Option.some.injEq, L2.V.int.injEq, L2.V.bl.injEq, L2.V.str.injEq, L2.V.ref.injEq, L2.V.ty.injEq, List.cons.injEq, exists_eq_left', exists_and_left, exists_eq_left, exists_eq_right, exists_eq_right', exists_eq', exists_eq, true_and, and_true, and_assoc, decide_eq_true_eq, Int.reduceLT, and_self, Z.rIxH, Z.rIxU, Z.at30, Z.at31, Z.at32, Z.ix3_0, Z.ix3_1, Z.ix3_2, L2.rSetL, L2.gSub, Z.gTupH, L2.gCons, L2.gNil, L2.HO.lst.injEq, L2.HO.tup.injEq, L2.upd_same, L2.upd_upd, L2.tSl, L2.tNoPart, L2.tPart, L2.rSlL, L2.rCat, List.length_append, or_false, false_or, or_true, true_or, reduceCtorEq, false_and, and_false, exists_false, Int.reduceNeg, Int.reducePow, Int.reduceToNat, Int.reduceAbs, Int.reduceLE, Int.reduceMul, Int.reduceAdd, Int.reduceSub, Nat.reducePow, Nat.reduceLT, Nat.reduceLeDiff, Int.natAbs_natCast, if_true, if_false, Z.rIsN, Z.tyN, Z.kit_ii, Z.kit_bi, Z.kit_si, Z.kit_ni, Z.kit_ib, Z.kit_bb, Z.kit_sb, Z.kit_nb, Z.kit_is, Z.kit_bs, Z.kit_ss, Z.kit_ns, Bool.not_true, Bool.not_false, L2.tTup, L2.tLst, L2.wipe, L2.tYes, Z.Turn1, L2.tNever, sizeLine_eq, Z.rInU, Z.rInH, L2.flatV, List.any_cons, List.any_nil, List.all_cons, List.all_nil, Bool.and_true, Bool.true_and, Bool.or_false, Bool.false_or, Z.tBML, L2.rAppend, Z.map_int_inj, Z.map_bl_inj, Z.rTupL, Z.rLstL, Z.rLstT, Z.rSortI, Z.rAnyH, Z.rAllH, Z.rSumH, Z.rLenL, Z.rLenU, List.length_map, L2.tPar, Z.tCallK0, List.getD_cons_zero, List.getD_cons_succ, sp_zigzag_of, sp_check_size, sp_check_kind, kind_inj]
    intro H' s
    have hz := size_nights h1
    refine ⟨h1, ?_⟩
    rw [if_neg (by omega)]
    exact ⟨by omega, by omega, fun t as H2 ht s2 e pr => q t as H2 (s.free ht) (s.trans s2) e pr⟩
open Zig
def sp__law_nights : Sp := fun vs H Q _ => ∃ (r : Bool) (n : Int), vs = [.str (kindS r), .int n] ∧ Q (.int (nights r n)) H
theorem ok__law_nights (T : Env K mg) : Hd P w K mg base CX0 1 "_law_nights" s__law_nights ["_law_sort_now", "_law_size"] sp__law_nights := by
  obtain ⟨f, fd, F, hm⟩ := T.d__law_nights
  refine ⟨⟨f, fd, F, hm, ?_⟩, fun _ _ _ _ _ _ _ us hl => match us, hl with | [_, _], _ => rfl⟩
  refine F.ok sc__law_nights (fun vs H Q E h => ?_) (fun cdv A outer s H vs Q E hr h => ?_)
  · first | (obtain ⟨rfl, _⟩ := h; rfl) | (obtain ⟨_, rfl, _⟩ := h; rfl) | (obtain ⟨_, _, rfl, _⟩ := h; rfl) | (obtain ⟨_, _, _, rfl, _⟩ := h; rfl) | (obtain ⟨_, _, _, _, rfl, _⟩ := h; rfl) | (obtain ⟨_, _, _, _, _, rfl, _⟩ := h; rfl) | (obtain ⟨_, _, _, _, _, _, rfl, _⟩ := h; rfl) | (obtain ⟨_, _, _, _, _, _, _, rfl, _⟩ := h; rfl) | (obtain ⟨_, _, _, _, _, _, _, _, rfl, _⟩ := h; rfl)
  · obtain ⟨r, n, rfl, q⟩ := h
    have hu := hu_of hr
    refine ⟨_, pss_one (ps_ret (pe_ifExp (pt_cmpR op_eq (pv 0) pe_str (nomark _)) (pe_op op_fdiv (pe_op op_sub (pv 1) pe_int) pe_int) (pe_op op_fdiv (pv 1) pe_int))), ?_⟩
    simp only [L2.start, List.map_cons, List.map_nil, List.length_cons, List.length_nil, Nat.zero_add, Nat.reduceAdd, Nat.reduceSub, List.replicate_succ, List.replicate_zero, List.cons_append, List.nil_append, List.append_nil, L2.tSeq, L2.tNext, L2.tAsg, L2.gName, L2.tRet, L2.tRetN, L2.tIfS, L2.tVar, L2.tC, L2.tOp, L2.tUn, L2.rI, L2.rI0, L2.rU, L2.rEq, L2.rNe, L2.tTest, L2.tB, L2.tIf, Z.tIfCI, Z.tIfCS, L2.tChain, L2.tCons, L2.tNil, L2.tCall, L2.tDrop, L2.tAndV, L2.tOrV, L2.tNotV, L2.tAnd, L2.tOr, L2.tNot, L2.tCB, Z.sc_ii, Z.sc_ss, Z.sc_bb, Z.sc_is, Z.sc_si, Z.sc_ni, Z.sc_in, Z.sc_ns, Z.sc_sn, Z.sc_nn, L2.CDiv, L2.CPow, L2.CMul, List.getElem?_cons_zero, List.getElem?_cons_succ, Z.set_z, Z.set_s, Option.some.injEq, L2.V.int.injEq, L2.V.bl.injEq, L2.V.str.injEq, L2.V.ref.injEq, L2.V.ty.injEq, List.cons.injEq, exists_eq_left', exists_and_left, exists_eq_left, exists_eq_right, exists_eq_right', exists_eq', exists_eq, true_and, and_true, and_assoc, decide_eq_true_eq, Int.reduceLT, and_self, Z.rIxH, Z.rIxU, Z.at30, Z.at31, Z.at32, Z.ix3_0, Z.ix3_1, Z.ix3_2, L2.rSetL, L2.gSub, Z.gTupH, L2.gCons, L2.gNil, L2.HO.lst.injEq, L2.HO.tup.injEq, L2.upd_same, L2.upd_upd, L2.tSl, L2.tNoPart, L2.tPart, L2.rSlL, L2.rCat, List.length_append, or_false, false_or, or_true, true_or, reduceCtorEq, false_and, and_false, exists_false, Int.reduceNeg, Int.reducePow, Int.reduceToNat, Int.reduceAbs, Int.reduceLE, Int.reduceMul, Int.reduceAdd, Int.reduceSub, Nat.reducePow, Nat.reduceLT, Nat.reduceLeDiff, Int.natAbs_natCast, if_true, if_false, Z.rIsN, Z.tyN, Z.kit_ii, Z.kit_bi, Z.kit_si, Z.kit_ni, Z.kit_ib, Z.kit_bb, Z.kit_sb, Z.kit_nb, Z.kit_is, Z.kit_bs, Z.kit_ss, Z.kit_ns, Bool.not_true, Bool.not_false, L2.tTup, L2.tLst, L2.wipe, L2.tYes, Z.Turn1, L2.tNever, sizeLine_eq, Z.rInU, Z.rInH, L2.flatV, List.any_cons, List.any_nil, List.all_cons, List.all_nil, Bool.and_true, Bool.true_and, Bool.or_false, Bool.false_or, Z.tBML, L2.rAppend, Z.map_int_inj, Z.map_bl_inj, Z.rTupL, Z.rLstL, Z.rLstT, Z.rSortI, Z.rAnyH, Z.rAllH, Z.rSumH, Z.rLenL, Z.rLenU, List.length_map, L2.tPar, Z.tCallK0, List.getD_cons_zero, List.getD_cons_succ, kind_eq]
    unfold nights at q
    split <;> simp_all
def sp__law_is_whole : Sp := fun vs H Q _ => ∃ v l m : Int, vs = [.int v, .int l, .int m] ∧ Q (.bl (decide (l ≤ v ∧ v ≤ m))) H
theorem ok__law_is_whole (T : Env K mg) : Hd P w K mg base CX0 1 "_law_is_whole" s__law_is_whole ["_law_thing", "_law_least", "_law_most"] sp__law_is_whole := by
  obtain ⟨f, fd, F, hm⟩ := T.d__law_is_whole
  refine ⟨⟨f, fd, F, hm, ?_⟩, fun _ _ _ _ _ _ _ us hl => match us, hl with | [_, _, _], _ => rfl⟩
  refine F.ok sc__law_is_whole (fun vs H Q E h => ?_) (fun cdv A outer s H vs Q E hr h => ?_)
  · first | (obtain ⟨rfl, _⟩ := h; rfl) | (obtain ⟨_, rfl, _⟩ := h; rfl) | (obtain ⟨_, _, rfl, _⟩ := h; rfl) | (obtain ⟨_, _, _, rfl, _⟩ := h; rfl) | (obtain ⟨_, _, _, _, rfl, _⟩ := h; rfl) | (obtain ⟨_, _, _, _, _, rfl, _⟩ := h; rfl) | (obtain ⟨_, _, _, _, _, _, rfl, _⟩ := h; rfl) | (obtain ⟨_, _, _, _, _, _, _, rfl, _⟩ := h; rfl) | (obtain ⟨_, _, _, _, _, _, _, _, rfl, _⟩ := h; rfl)
  · obtain ⟨v, l, m, rfl, q⟩ := h
    have hu := hu_of hr
    refine ⟨_, pss_one (ps_ret (pe_and (pe_callB call_isN rfl T.b_isinstance (by decide +kernel) (pa_cons (pv 0) (pa_cons (pe_bltn (v := .ty "int") (by rfl) T.b_int (by decide +kernel) rfl) pa_nil))) (pe_and (pe_not (pe_callB call_isN rfl T.b_isinstance (by decide +kernel) (pa_cons (pv 0) (pa_cons (pe_bltn (v := .ty "bool") (by rfl) T.b_bool (by decide +kernel) rfl) pa_nil)))) (pe_one (pe_chain op_le op_le (pv 1) (pv 0) (pv 2)))))), ?_⟩
    simp only [L2.start, List.map_cons, List.map_nil, List.length_cons, List.length_nil, Nat.zero_add, Nat.reduceAdd, Nat.reduceSub, List.replicate_succ, List.replicate_zero, List.cons_append, List.nil_append, List.append_nil, L2.tSeq, L2.tNext, L2.tAsg, L2.gName, L2.tRet, L2.tRetN, L2.tIfS, L2.tVar, L2.tC, L2.tOp, L2.tUn, L2.rI, L2.rI0, L2.rU, L2.rEq, L2.rNe, L2.tTest, L2.tB, L2.tIf, Z.tIfCI, Z.tIfCS, L2.tChain, L2.tCons, L2.tNil, L2.tCall, L2.tDrop, L2.tAndV, L2.tOrV, L2.tNotV, L2.tAnd, L2.tOr, L2.tNot, L2.tCB, Z.sc_ii, Z.sc_ss, Z.sc_bb, Z.sc_is, Z.sc_si, Z.sc_ni, Z.sc_in, Z.sc_ns, Z.sc_sn, Z.sc_nn, L2.CDiv, L2.CPow, L2.CMul, List.getElem?_cons_zero, List.getElem?_cons_succ, Z.set_z, Z.set_s, Option.some.injEq, L2.V.int.injEq, L2.V.bl.injEq, L2.V.str.injEq, L2.V.ref.injEq, L2.V.ty.injEq, List.cons.injEq, exists_eq_left', exists_and_left, exists_eq_left, exists_eq_right, exists_eq_right', exists_eq', exists_eq, true_and, and_true, and_assoc, decide_eq_true_eq, Int.reduceLT, and_self, Z.rIxH, Z.rIxU, Z.at30, Z.at31, Z.at32, Z.ix3_0, Z.ix3_1, Z.ix3_2, L2.rSetL, L2.gSub, Z.gTupH, L2.gCons, L2.gNil, L2.HO.lst.injEq, L2.HO.tup.injEq, L2.upd_same, L2.upd_upd, L2.tSl, L2.tNoPart, L2.tPart, L2.rSlL, L2.rCat, List.length_append, or_false, false_or, or_true, true_or, reduceCtorEq, false_and, and_false, exists_false, Int.reduceNeg, Int.reducePow, Int.reduceToNat, Int.reduceAbs, Int.reduceLE, Int.reduceMul, Int.reduceAdd, Int.reduceSub, Nat.reducePow, Nat.reduceLT, Nat.reduceLeDiff, Int.natAbs_natCast, if_true, if_false, Z.rIsN, Z.tyN, Z.kit_ii, Z.kit_bi, Z.kit_si, Z.kit_ni, Z.kit_ib, Z.kit_bb, Z.kit_sb, Z.kit_nb, Z.kit_is, Z.kit_bs, Z.kit_ss, Z.kit_ns, Bool.not_true, Bool.not_false, L2.tTup, L2.tLst, L2.wipe, L2.tYes, Z.Turn1, L2.tNever, sizeLine_eq, Z.rInU, Z.rInH, L2.flatV, List.any_cons, List.any_nil, List.all_cons, List.all_nil, Bool.and_true, Bool.true_and, Bool.or_false, Bool.false_or, Z.tBML, L2.rAppend, Z.map_int_inj, Z.map_bl_inj, Z.rTupL, Z.rLstL, Z.rLstT, Z.rSortI, Z.rAnyH, Z.rAllH, Z.rSumH, Z.rLenL, Z.rLenU, List.length_map, L2.tPar, Z.tCallK0, List.getD_cons_zero, List.getD_cons_succ]
    split <;> simp_all
def sp__law_pairs : Sp := fun vs H Q _ => ∃ (n : Int), vs = [.int n] ∧ 0 ≤ n ∧ n ≤ 100 ∧ ∀ D as H', H D = none → Same H H' → H' D = some (.lst (as.map V.ref)) → Paired (PairAt H') as (prs n) → Q (.ref D) H'
theorem fromTo_ints (lo hi : Int) : Z.fromTo lo hi = ((ups (hi - lo)).map fun j => lo + j).map V.int := by
  unfold Z.fromTo ups
  rw [List.map_map, List.map_map]
  rfl
theorem flat_succ (i : Nat) (f : Int → List (Int × Int)) : (ups ((i + 1 : Nat) : Int)).flatMap f = (ups i).flatMap f ++ f i := by
  rw [show ((i + 1 : Nat) : Int) = (i : Int) + 1 by omega, ups_succ, List.flatMap_append]
  simp
theorem ok__law_pairs (T : Env K mg) : Hd P w K mg base CX0 1 "_law_pairs" s__law_pairs ["_law_size"] sp__law_pairs := by
  obtain ⟨f, fd, F, hm⟩ := T.d__law_pairs
  refine ⟨⟨f, fd, F, hm, ?_⟩, fun _ _ _ _ _ _ _ us hl => match us, hl with | [_], _ => rfl⟩
  refine F.ok sc__law_pairs (fun vs H Q E h => ?_) (fun cdv A outer s H vs Q E hr h => ?_)
  · first | (obtain ⟨rfl, _⟩ := h; rfl) | (obtain ⟨_, rfl, _⟩ := h; rfl) | (obtain ⟨_, _, rfl, _⟩ := h; rfl) | (obtain ⟨_, _, _, rfl, _⟩ := h; rfl) | (obtain ⟨_, _, _, _, rfl, _⟩ := h; rfl) | (obtain ⟨_, _, _, _, _, rfl, _⟩ := h; rfl) | (obtain ⟨_, _, _, _, _, _, rfl, _⟩ := h; rfl) | (obtain ⟨_, _, _, _, _, _, _, rfl, _⟩ := h; rfl) | (obtain ⟨_, _, _, _, _, _, _, _, rfl, _⟩ := h; rfl)
  · obtain ⟨n, rfl, h0, h1, q⟩ := h
    have hu := hu_of hr
    refine ⟨_, pss_cons (ps_set (i := 1) sc__law_pairs.nd rfl (by first | exact .inl rfl | exact .inr rfl) (pe_lst pa_nil))
      (pss_cons (ps_for PassesOwn.never rfl (pi_range1 rfl T.b_range (pa_cons (pv 0) pa_nil)) (pg_name (i := 2) sc__law_pairs.nd rfl (by first | exact .inl rfl | exact .inr rfl))
      (pss_one (ps_set (i := 1) sc__law_pairs.nd rfl (by first | exact .inl rfl | exact .inr rfl) (pe_op op_cat (pv 1) (pe_lc (own := [("_law_j", 3)]) (g := (gName 3)) (tt := tYes) rfl sc__law_pairs.nd (pi_range2 rfl T.b_range (pa_cons (pe_op op_add (pv 2) pe_int) (pa_cons (pv 0) pa_nil))) (blkOk_by (own := [("_law_j", 3)]) (N := N__law_pairs) (sc := defScope s__law_pairs) (by decide +kernel)) (fun _ _ _ _ _ => pg_name (i := 3) sc__law_pairs.nd rfl (by first | exact .inl rfl | exact .inr rfl)) (fun _ _ _ _ _ => pts_nil) (fun _ _ _ _ _ => (pe_tup (pa_cons (pv 2) (pa_cons (pv 3) pa_nil)))))))))
      (pss_one (ps_ret (pv 1)))), ?_⟩
    simp only [L2.start, List.map_cons, List.map_nil, List.length_cons, List.length_nil, Nat.zero_add, Nat.reduceAdd, Nat.reduceSub, List.replicate_succ, List.replicate_zero, List.cons_append, List.nil_append, List.append_nil, L2.tNext, L2.tAsg, L2.gName, L2.tRet, L2.tRetN, L2.tIfS, L2.tVar, L2.tC, L2.tOp, L2.tUn, L2.rI, L2.rI0, L2.rU, L2.rEq, L2.rNe, L2.tTest, L2.tB, L2.tIf, Z.tIfCI, Z.tIfCS, L2.tChain, L2.tCons, L2.tNil, L2.tCall, L2.tDrop, L2.tAndV, L2.tOrV, L2.tNotV, L2.tAnd, L2.tOr, L2.tNot, L2.tCB, Z.sc_ii, Z.sc_ss, Z.sc_bb, Z.sc_is, Z.sc_si, Z.sc_ni, Z.sc_in, Z.sc_ns, Z.sc_sn, Z.sc_nn, L2.CDiv, L2.CPow, L2.CMul, List.getElem?_cons_zero, List.getElem?_cons_succ, Z.set_z, Z.set_s, Option.some.injEq, L2.V.int.injEq, L2.V.bl.injEq, L2.V.str.injEq, L2.V.ref.injEq, L2.V.ty.injEq, List.cons.injEq, exists_eq_left', exists_and_left, exists_eq_left, exists_eq_right, exists_eq_right', exists_eq', exists_eq, true_and, and_true, and_assoc, decide_eq_true_eq, Int.reduceLT, and_self, Z.rIxH, Z.rIxU, Z.at30, Z.at31, Z.at32, Z.ix3_0, Z.ix3_1, Z.ix3_2, L2.rSetL, L2.gSub, Z.gTupH, L2.gCons, L2.gNil, L2.HO.lst.injEq, L2.HO.tup.injEq, L2.upd_same, L2.upd_upd, L2.tSl, L2.tNoPart, L2.tPart, L2.rSlL, L2.rCat, List.length_append, or_false, false_or, or_true, true_or, reduceCtorEq, false_and, and_false, exists_false, Int.reduceNeg, Int.reducePow, Int.reduceToNat, Int.reduceAbs, Int.reduceLE, Int.reduceMul, Int.reduceAdd, Int.reduceSub, Nat.reducePow, Nat.reduceLT, Nat.reduceLeDiff, Int.natAbs_natCast, if_true, if_false, Z.rIsN, Z.tyN, Z.kit_ii, Z.kit_bi, Z.kit_si, Z.kit_ni, Z.kit_ib, Z.kit_bb, Z.kit_sb, Z.kit_nb, Z.kit_is, Z.kit_bs, Z.kit_ss, Z.kit_ns, Bool.not_true, Bool.not_false, L2.tTup, L2.tLst, L2.wipe, L2.tYes, Z.Turn1, L2.tNever, sizeLine_eq, Z.rInU, Z.rInH, L2.flatV, List.any_cons, List.any_nil, List.all_cons, List.all_nil, Bool.and_true, Bool.true_and, Bool.or_false, Bool.false_or, Z.tBML, L2.rAppend, Z.map_int_inj, Z.map_bl_inj, Z.rTupL, Z.rLstL, Z.rLstT, Z.rSortI, Z.rAnyH, Z.rAllH, Z.rSumH, Z.rLenL, Z.rLenU, List.length_map, L2.tPar, Z.tCallK0, List.getD_cons_zero, List.getD_cons_succ]
    refine z_seq ?_
    simp only [L2.start, List.map_cons, List.map_nil, List.length_cons, List.length_nil, Nat.zero_add, Nat.reduceAdd, Nat.reduceSub, List.replicate_succ, List.replicate_zero, List.cons_append, List.nil_append, List.append_nil, L2.tNext, L2.tAsg, L2.gName, L2.tRet, L2.tRetN, L2.tIfS, L2.tVar, L2.tC, L2.tOp, L2.tUn, L2.rI, L2.rI0, L2.rU, L2.rEq, L2.rNe, L2.tTest, L2.tB, L2.tIf, Z.tIfCI, Z.tIfCS, L2.tChain, L2.tCons, L2.tNil, L2.tCall, L2.tDrop, L2.tAndV, L2.tOrV, L2.tNotV, L2.tAnd, L2.tOr, L2.tNot, L2.tCB, Z.sc_ii, Z.sc_ss, Z.sc_bb, Z.sc_is, Z.sc_si, Z.sc_ni, Z.sc_in, Z.sc_ns, Z.sc_sn, Z.sc_nn, L2.CDiv, L2.CPow, L2.CMul, List.getElem?_cons_zero, List.getElem?_cons_succ, Z.set_z, Z.set_s, Option.some.injEq, L2.V.int.injEq, L2.V.bl.injEq, L2.V.str.injEq, L2.V.ref.injEq, L2.V.ty.injEq, List.cons.injEq, exists_eq_left', exists_and_left, exists_eq_left, exists_eq_right, exists_eq_right', exists_eq', exists_eq, true_and, and_true, and_assoc, decide_eq_true_eq, Int.reduceLT, and_self, Z.rIxH, Z.rIxU, Z.at30, Z.at31, Z.at32, Z.ix3_0, Z.ix3_1, Z.ix3_2, L2.rSetL, L2.gSub, Z.gTupH, L2.gCons, L2.gNil, L2.HO.lst.injEq, L2.HO.tup.injEq, L2.upd_same, L2.upd_upd, L2.tSl, L2.tNoPart, L2.tPart, L2.rSlL, L2.rCat, List.length_append, or_false, false_or, or_true, true_or, reduceCtorEq, false_and, and_false, exists_false, Int.reduceNeg, Int.reducePow, Int.reduceToNat, Int.reduceAbs, Int.reduceLE, Int.reduceMul, Int.reduceAdd, Int.reduceSub, Nat.reducePow, Nat.reduceLT, Nat.reduceLeDiff, Int.natAbs_natCast, if_true, if_false, Z.rIsN, Z.tyN, Z.kit_ii, Z.kit_bi, Z.kit_si, Z.kit_ni, Z.kit_ib, Z.kit_bb, Z.kit_sb, Z.kit_nb, Z.kit_is, Z.kit_bs, Z.kit_ss, Z.kit_ns, Bool.not_true, Bool.not_false, L2.tTup, L2.tLst, L2.wipe, L2.tYes, Z.Turn1, L2.tNever, sizeLine_eq, Z.rInU, Z.rInH, L2.flatV, List.any_cons, List.any_nil, List.all_cons, List.all_nil, Bool.and_true, Bool.true_and, Bool.or_false, Bool.false_or, Z.tBML, L2.rAppend, Z.map_int_inj, Z.map_bl_inj, Z.rTupL, Z.rLstL, Z.rLstT, Z.rSortI, Z.rAnyH, Z.rAllH, Z.rSumH, Z.rLenL, Z.rLenU, List.length_map, L2.tPar, Z.tCallK0, List.getD_cons_zero, List.getD_cons_succ]
    intro D hD
    refine z_seq ?_
    refine for_rng (n := n) (fun R h => ⟨_, rfl, h⟩) (by omega) (fun i σ H' => ∃ v1 v2 D as, σ = [some (.int n), some (.ref D), v1, v2] ∧ Same H H' ∧ H D = none ∧ H' D = some (.lst (as.map V.ref)) ∧ as.length ≤ i * 100 ∧ Paired (PairAt H') as ((ups i).flatMap (rowP n))) ⟨_, _, D, [], rfl, same_new hD, hD, upd_same, Nat.zero_le _, .nil⟩ ?_ ?_
    · rintro i σ H0 hi ⟨v1, v2, D, as, rfl, s0, hD, eD, hl, pr⟩
      simp only [L2.start, List.map_cons, List.map_nil, List.length_cons, List.length_nil, Nat.zero_add, Nat.reduceAdd, Nat.reduceSub, List.replicate_succ, List.replicate_zero, List.cons_append, List.nil_append, List.append_nil, L2.tNext, L2.tAsg, L2.gName, L2.tRet, L2.tRetN, L2.tIfS, L2.tVar, L2.tC, L2.tOp, L2.tUn, L2.rI, L2.rI0, L2.rU, L2.rEq, L2.rNe, L2.tTest, L2.tB, L2.tIf, Z.tIfCI, Z.tIfCS, L2.tChain, L2.tCons, L2.tNil, L2.tCall, L2.tDrop, L2.tAndV, L2.tOrV, L2.tNotV, L2.tAnd, L2.tOr, L2.tNot, L2.tCB, Z.sc_ii, Z.sc_ss, Z.sc_bb, Z.sc_is, Z.sc_si, Z.sc_ni, Z.sc_in, Z.sc_ns, Z.sc_sn, Z.sc_nn, L2.CDiv, L2.CPow, L2.CMul, List.getElem?_cons_zero, List.getElem?_cons_succ, Z.set_z, Z.set_s, Option.some.injEq, L2.V.int.injEq, L2.V.bl.injEq, L2.V.str.injEq, L2.V.ref.injEq, L2.V.ty.injEq, List.cons.injEq, exists_eq_left', exists_and_left, exists_eq_left, exists_eq_right, exists_eq_right', exists_eq', exists_eq, true_and, and_true, and_assoc, decide_eq_true_eq, Int.reduceLT, and_self, Z.rIxH, Z.rIxU, Z.at30, Z.at31, Z.at32, Z.ix3_0, Z.ix3_1, Z.ix3_2, L2.rSetL, L2.gSub, Z.gTupH, L2.gCons, L2.gNil, L2.HO.lst.injEq, L2.HO.tup.injEq, L2.upd_same, L2.upd_upd, L2.tSl, L2.tNoPart, L2.tPart, L2.rSlL, L2.rCat, List.length_append, or_false, false_or, or_true, true_or, reduceCtorEq, false_and, and_false, exists_false, Int.reduceNeg, Int.reducePow, Int.reduceToNat, Int.reduceAbs, Int.reduceLE, Int.reduceMul, Int.reduceAdd, Int.reduceSub, Nat.reducePow, Nat.reduceLT, Nat.reduceLeDiff, Int.natAbs_natCast, if_true, if_false, Z.rIsN, Z.tyN, Z.kit_ii, Z.kit_bi, Z.kit_si, Z.kit_ni, Z.kit_ib, Z.kit_bb, Z.kit_sb, Z.kit_nb, Z.kit_is, Z.kit_bs, Z.kit_ss, Z.kit_ns, Bool.not_true, Bool.not_false, L2.tTup, L2.tLst, L2.wipe, L2.tYes, Z.Turn1, L2.tNever, sizeLine_eq, Z.rInU, Z.rInH, L2.flatV, List.any_cons, List.any_nil, List.all_cons, List.all_nil, Bool.and_true, Bool.true_and, Bool.or_false, Bool.false_or, Z.tBML, L2.rAppend, Z.map_int_inj, Z.map_bl_inj, Z.rTupL, Z.rLstL, Z.rLstT, Z.rSortI, Z.rAnyH, Z.rAllH, Z.rSumH, Z.rLenL, Z.rLenU, List.length_map, L2.tPar, Z.tCallK0, List.getD_cons_zero, List.getD_cons_succ]
      refine lc_rng2O (H1 := H0) (lo := (i : Int) + 1) (hi := n) (intO fun j => pairO (i, j)) (fun R h => ?_) (by omega) (fun j hj H1 s1 => ?_) fun D1 H1 as1 hD1 s1 e1 pr1 => ?_
      · simp only [L2.start, List.map_cons, List.map_nil, List.length_cons, List.length_nil, Nat.zero_add, Nat.reduceAdd, Nat.reduceSub, List.replicate_succ, List.replicate_zero, List.cons_append, List.nil_append, List.append_nil, L2.tNext, L2.tAsg, L2.gName, L2.tRet, L2.tRetN, L2.tIfS, L2.tVar, L2.tC, L2.tOp, L2.tUn, L2.rI, L2.rI0, L2.rU, L2.rEq, L2.rNe, L2.tTest, L2.tB, L2.tIf, Z.tIfCI, Z.tIfCS, L2.tChain, L2.tCons, L2.tNil, L2.tCall, L2.tDrop, L2.tAndV, L2.tOrV, L2.tNotV, L2.tAnd, L2.tOr, L2.tNot, L2.tCB, Z.sc_ii, Z.sc_ss, Z.sc_bb, Z.sc_is, Z.sc_si, Z.sc_ni, Z.sc_in, Z.sc_ns, Z.sc_sn, Z.sc_nn, L2.CDiv, L2.CPow, L2.CMul, List.getElem?_cons_zero, List.getElem?_cons_succ, Z.set_z, Z.set_s, Option.some.injEq, L2.V.int.injEq, L2.V.bl.injEq, L2.V.str.injEq, L2.V.ref.injEq, L2.V.ty.injEq, List.cons.injEq, exists_eq_left', exists_and_left, exists_eq_left, exists_eq_right, exists_eq_right', exists_eq', exists_eq, true_and, and_true, and_assoc, decide_eq_true_eq, Int.reduceLT, and_self, Z.rIxH, Z.rIxU, Z.at30, Z.at31, Z.at32, Z.ix3_0, Z.ix3_1, Z.ix3_2, L2.rSetL, L2.gSub, Z.gTupH, L2.gCons, L2.gNil, L2.HO.lst.injEq, L2.HO.tup.injEq, L2.upd_same, L2.upd_upd, L2.tSl, L2.tNoPart, L2.tPart, L2.rSlL, L2.rCat, List.length_append, or_false, false_or, or_true, true_or, reduceCtorEq, false_and, and_false, exists_false, Int.reduceNeg, Int.reducePow, Int.reduceToNat, Int.reduceAbs, Int.reduceLE, Int.reduceMul, Int.reduceAdd, Int.reduceSub, Nat.reducePow, Nat.reduceLT, Nat.reduceLeDiff, Int.natAbs_natCast, if_true, if_false, Z.rIsN, Z.tyN, Z.kit_ii, Z.kit_bi, Z.kit_si, Z.kit_ni, Z.kit_ib, Z.kit_bb, Z.kit_sb, Z.kit_nb, Z.kit_is, Z.kit_bs, Z.kit_ss, Z.kit_ns, Bool.not_true, Bool.not_false, L2.tTup, L2.tLst, L2.wipe, L2.tYes, Z.Turn1, L2.tNever, sizeLine_eq, Z.rInU, Z.rInH, L2.flatV, List.any_cons, List.any_nil, List.all_cons, List.all_nil, Bool.and_true, Bool.true_and, Bool.or_false, Bool.false_or, Z.tBML, L2.rAppend, Z.map_int_inj, Z.map_bl_inj, Z.rTupL, Z.rLstL, Z.rLstT, Z.rSortI, Z.rAnyH, Z.rAllH, Z.rSumH, Z.rLenL, Z.rLenU, List.length_map, L2.tPar, Z.tCallK0, List.getD_cons_zero, List.getD_cons_succ]
        exact h
      · intro Y N hY hN
        simp only [L2.start, List.map_cons, List.map_nil, List.length_cons, List.length_nil, Nat.zero_add, Nat.reduceAdd, Nat.reduceSub, List.replicate_succ, List.replicate_zero, List.cons_append, List.nil_append, List.append_nil, L2.tNext, L2.tAsg, L2.gName, L2.tRet, L2.tRetN, L2.tIfS, L2.tVar, L2.tC, L2.tOp, L2.tUn, L2.rI, L2.rI0, L2.rU, L2.rEq, L2.rNe, L2.tTest, L2.tB, L2.tIf, Z.tIfCI, Z.tIfCS, L2.tChain, L2.tCons, L2.tNil, L2.tCall, L2.tDrop, L2.tAndV, L2.tOrV, L2.tNotV, L2.tAnd, L2.tOr, L2.tNot, L2.tCB, Z.sc_ii, Z.sc_ss, Z.sc_bb, Z.sc_is, Z.sc_si, Z.sc_ni, Z.sc_in, Z.sc_ns, Z.sc_sn, Z.sc_nn, L2.CDiv, L2.CPow, L2.CMul, List.getElem?_cons_zero, List.getElem?_cons_succ, Z.set_z, Z.set_s, Option.some.injEq, L2.V.int.injEq, L2.V.bl.injEq, L2.V.str.injEq, L2.V.ref.injEq, L2.V.ty.injEq, List.cons.injEq, exists_eq_left', exists_and_left, exists_eq_left, exists_eq_right, exists_eq_right', exists_eq', exists_eq, true_and, and_true, and_assoc, decide_eq_true_eq, Int.reduceLT, and_self, Z.rIxH, Z.rIxU, Z.at30, Z.at31, Z.at32, Z.ix3_0, Z.ix3_1, Z.ix3_2, L2.rSetL, L2.gSub, Z.gTupH, L2.gCons, L2.gNil, L2.HO.lst.injEq, L2.HO.tup.injEq, L2.upd_same, L2.upd_upd, L2.tSl, L2.tNoPart, L2.tPart, L2.rSlL, L2.rCat, List.length_append, or_false, false_or, or_true, true_or, reduceCtorEq, false_and, and_false, exists_false, Int.reduceNeg, Int.reducePow, Int.reduceToNat, Int.reduceAbs, Int.reduceLE, Int.reduceMul, Int.reduceAdd, Int.reduceSub, Nat.reducePow, Nat.reduceLT, Nat.reduceLeDiff, Int.natAbs_natCast, if_true, if_false, Z.rIsN, Z.tyN, Z.kit_ii, Z.kit_bi, Z.kit_si, Z.kit_ni, Z.kit_ib, Z.kit_bb, Z.kit_sb, Z.kit_nb, Z.kit_is, Z.kit_bs, Z.kit_ss, Z.kit_ns, Bool.not_true, Bool.not_false, L2.tTup, L2.tLst, L2.wipe, L2.tYes, Z.Turn1, L2.tNever, sizeLine_eq, Z.rInU, Z.rInH, L2.flatV, List.any_cons, List.any_nil, List.all_cons, List.all_nil, Bool.and_true, Bool.true_and, Bool.or_false, Bool.false_or, Z.tBML, L2.rAppend, Z.map_int_inj, Z.map_bl_inj, Z.rTupL, Z.rLstL, Z.rLstT, Z.rSortI, Z.rAnyH, Z.rAllH, Z.rSumH, Z.rLenL, Z.rLenU, List.length_map, L2.tPar, Z.tCallK0, List.getD_cons_zero, List.getD_cons_succ]
        intro p hp
        exact hY _ p _ rfl hp (same_new hp) upd_same
      · have e2 : (Z.fromTo (i + 1) n).filterMap (intO fun j => pairO (i, j)) = (rowP n i).map pairO := by
          rw [fromTo_ints, fm_intO]
          unfold rowP
          rw [List.map_map, List.map_map]
          rfl
        rw [e2] at pr1
        have hl1 : as1.length ≤ 100 := by
          rw [paired_len pr1, List.length_map]
          unfold rowP
          rw [List.length_map, ups_len]
          omega
        have s2 := s0.trans s1
        refine ⟨D1, rfl, _, s1 _ _ eD, _, e1, ?_, fun p hp => ⟨same_upd s2 (s2.free hp), s2.free hp, as ++ as1, ?_, ?_, ?_⟩⟩
        · rw [List.length_map, List.length_map]
          have : i * 100 ≤ 100 * 100 := Nat.mul_le_mul_right _ (by omega)
          omega
        · rw [List.map_append]
        · rw [List.length_append, Nat.add_mul]
          omega
        · rw [flat_succ]
          exact prs_same (same_new hp) (paired_app (prs_same s1 pr) (prs_of pr1))
    · rintro σ H' ⟨v1, v2, D, as, rfl, s0, hD, eD, hl, pr⟩
      simp only [L2.start, List.map_cons, List.map_nil, List.length_cons, List.length_nil, Nat.zero_add, Nat.reduceAdd, Nat.reduceSub, List.replicate_succ, List.replicate_zero, List.cons_append, List.nil_append, List.append_nil, L2.tNext, L2.tAsg, L2.gName, L2.tRet, L2.tRetN, L2.tIfS, L2.tVar, L2.tC, L2.tOp, L2.tUn, L2.rI, L2.rI0, L2.rU, L2.rEq, L2.rNe, L2.tTest, L2.tB, L2.tIf, Z.tIfCI, Z.tIfCS, L2.tChain, L2.tCons, L2.tNil, L2.tCall, L2.tDrop, L2.tAndV, L2.tOrV, L2.tNotV, L2.tAnd, L2.tOr, L2.tNot, L2.tCB, Z.sc_ii, Z.sc_ss, Z.sc_bb, Z.sc_is, Z.sc_si, Z.sc_ni, Z.sc_in, Z.sc_ns, Z.sc_sn, Z.sc_nn, L2.CDiv, L2.CPow, L2.CMul, List.getElem?_cons_zero, List.getElem?_cons_succ, Z.set_z, Z.set_s, Option.some.injEq, L2.V.int.injEq, L2.V.bl.injEq, L2.V.str.injEq, L2.V.ref.injEq, L2.V.ty.injEq, List.cons.injEq, exists_eq_left', exists_and_left, exists_eq_left, exists_eq_right, exists_eq_right', exists_eq', exists_eq, true_and, and_true, and_assoc, decide_eq_true_eq, Int.reduceLT, and_self, Z.rIxH, Z.rIxU, Z.at30, Z.at31, Z.at32, Z.ix3_0, Z.ix3_1, Z.ix3_2, L2.rSetL, L2.gSub, Z.gTupH, L2.gCons, L2.gNil, L2.HO.lst.injEq, L2.HO.tup.injEq, L2.upd_same, L2.upd_upd, L2.tSl, L2.tNoPart, L2.tPart, L2.rSlL, L2.rCat, List.length_append, or_false, false_or, or_true, true_or, reduceCtorEq, false_and, and_false, exists_false, Int.reduceNeg, Int.reducePow, Int.reduceToNat, Int.reduceAbs, Int.reduceLE, Int.reduceMul, Int.reduceAdd, Int.reduceSub, Nat.reducePow, Nat.reduceLT, Nat.reduceLeDiff, Int.natAbs_natCast, if_true, if_false, Z.rIsN, Z.tyN, Z.kit_ii, Z.kit_bi, Z.kit_si, Z.kit_ni, Z.kit_ib, Z.kit_bb, Z.kit_sb, Z.kit_nb, Z.kit_is, Z.kit_bs, Z.kit_ss, Z.kit_ns, Bool.not_true, Bool.not_false, L2.tTup, L2.tLst, L2.wipe, L2.tYes, Z.Turn1, L2.tNever, sizeLine_eq, Z.rInU, Z.rInH, L2.flatV, List.any_cons, List.any_nil, List.all_cons, List.all_nil, Bool.and_true, Bool.true_and, Bool.or_false, Bool.false_or, Z.tBML, L2.rAppend, Z.map_int_inj, Z.map_bl_inj, Z.rTupL, Z.rLstL, Z.rLstT, Z.rSortI, Z.rAnyH, Z.rAllH, Z.rSumH, Z.rLenL, Z.rLenU, List.length_map, L2.tPar, Z.tCallK0, List.getD_cons_zero, List.getD_cons_succ]
      rw [show ((n.toNat : Nat) : Int) = n by omega] at pr
      exact q D as H' hD s0 eD pr
def sp__law_zigzag : Sp := fun vs H Q _ => ∃ (r : Bool) (n : Int), vs = [.str (kindS r), .int n] ∧ 1 < n ∧ n ≤ 100 ∧ ∀ D as H', H D = none → Same H H' → H' D = some (.lst (as.map V.ref)) → Paired (LstAt H') as (zz r n) → Q (.ref D) H'
theorem part_at {z e : Int} (j : Nat) : (((ups (j + 1)).map (personIn z e)).map V.int) = ((ups j).map (personIn z e)).map V.int ++ [V.int (personIn z e j)] := by
  rw [ups_succ, List.map_append, List.map_append]
  rfl
theorem ok__law_zigzag (T : Env K mg) : Hd P w K mg base CX0 2 "_law_zigzag" s__law_zigzag ["_law_sort_now", "_law_size"] sp__law_zigzag := by
  have H__law_nights := ok__law_nights (P := P) (w := w) (base := base) T
  obtain ⟨f, fd, F, hm⟩ := T.d__law_zigzag
  refine ⟨⟨f, fd, F, hm, ?_⟩, fun _ _ _ _ _ _ _ us hl => match us, hl with | [_, _], _ => rfl⟩
  refine F.ok sc__law_zigzag (fun vs H Q E h => ?_) (fun cdv A outer s H vs Q E hr h => ?_)
  · first | (obtain ⟨rfl, _⟩ := h; rfl) | (obtain ⟨_, rfl, _⟩ := h; rfl) | (obtain ⟨_, _, rfl, _⟩ := h; rfl) | (obtain ⟨_, _, _, rfl, _⟩ := h; rfl) | (obtain ⟨_, _, _, _, rfl, _⟩ := h; rfl) | (obtain ⟨_, _, _, _, _, rfl, _⟩ := h; rfl) | (obtain ⟨_, _, _, _, _, _, rfl, _⟩ := h; rfl) | (obtain ⟨_, _, _, _, _, _, _, rfl, _⟩ := h; rfl) | (obtain ⟨_, _, _, _, _, _, _, _, rfl, _⟩ := h; rfl)
  · obtain ⟨r, n, rfl, h0, h1, q⟩ := h
    have hu := hu_of hr
    refine ⟨_, pss_cons (ps_par (i := 2) (j := 3) rfl sc__law_zigzag.nd rfl rfl (by decide) rfl rfl (pa_cons (pe_lst pa_nil) (pa_cons (pe_cutZ (pe_ifExp (pt_cmpR op_eq (pv 0) pe_str (nomark _)) (pe_op op_sub (pv 1) pe_int) (pv 1))) pa_nil)) (by rfl))
      (pss_cons (ps_for PassesOwn.never rfl (pi_range1 rfl T.b_range (pa_cons (pe_hd H__law_nights (hr.mono (by decide)) rfl pass0 (pa_cons (pv 0) (pa_cons (pv 1) pa_nil))) pa_nil)) (pg_name (i := 4) sc__law_zigzag.nd rfl (by first | exact .inl rfl | exact .inr rfl))
      (pss_cons (ps_set (i := 5) sc__law_zigzag.nd rfl (by first | exact .inl rfl | exact .inr rfl) (pe_lst (pa_cons (pv 4) pa_nil)))
      (pss_cons (ps_for PassesOwn.never rfl (pi_range2 rfl T.b_range (pa_cons pe_int (pa_cons (pv 3) pa_nil))) (pg_name (i := 6) sc__law_zigzag.nd rfl (by first | exact .inl rfl | exact .inr rfl))
      (pss_one (ps_expr (pe_bmL PySem.F.plainAttrs_list PySem.F.slot_list_append PySem.F.type_list_append mt_append (pv 5) (pa_cons (pe_op op_mod (pe_callTy call_int1 rfl T.b_int (by decide +kernel) (pa_cons (pe_op op_add (pe_ix ix_listH (pv 5) (pe_un un_neg pe_int) (fun _ _ => rfl)) (pe_ifExp (pt_cmpR op_eq (pe_op op_mod (pe_callTy call_int1 rfl T.b_int (by decide +kernel) (pa_cons (pv 6) pa_nil)) pe_int) pe_int (nomark _)) (pv 6) (pe_un un_neg (pv 6)))) pa_nil)) (pv 3)) pa_nil)))))
      (pss_one (ps_expr (pe_bmL PySem.F.plainAttrs_list PySem.F.slot_list_append PySem.F.type_list_append mt_append (pv 2) (pa_cons (pe_op op_cat (pe_cutZ (pe_ifExp (pt_cmpR op_eq (pv 0) pe_str (nomark _)) (pe_lst (pa_cons (pe_op op_sub (pv 1) pe_int) pa_nil)) (pe_lst pa_nil))) (pv 5)) pa_nil)))))))
      (pss_one (ps_ret (pv 2)))), ?_⟩
    simp only [L2.start, List.map_cons, List.map_nil, List.length_cons, List.length_nil, Nat.zero_add, Nat.reduceAdd, Nat.reduceSub, List.replicate_succ, List.replicate_zero, List.cons_append, List.nil_append, List.append_nil, L2.tNext, L2.tAsg, L2.gName, L2.tRet, L2.tRetN, L2.tIfS, L2.tVar, L2.tC, L2.tOp, L2.tUn, L2.rI, L2.rI0, L2.rU, L2.rEq, L2.rNe, L2.tTest, L2.tB, L2.tIf, Z.tIfCI, Z.tIfCS, L2.tChain, L2.tCons, L2.tNil, L2.tCall, L2.tDrop, L2.tAndV, L2.tOrV, L2.tNotV, L2.tAnd, L2.tOr, L2.tNot, L2.tCB, Z.sc_ii, Z.sc_ss, Z.sc_bb, Z.sc_is, Z.sc_si, Z.sc_ni, Z.sc_in, Z.sc_ns, Z.sc_sn, Z.sc_nn, L2.CDiv, L2.CPow, L2.CMul, List.getElem?_cons_zero, List.getElem?_cons_succ, Z.set_z, Z.set_s, Option.some.injEq, L2.V.int.injEq, L2.V.bl.injEq, L2.V.str.injEq, L2.V.ref.injEq, L2.V.ty.injEq, List.cons.injEq, exists_eq_left', exists_and_left, exists_eq_left, exists_eq_right, exists_eq_right', exists_eq', exists_eq, true_and, and_true, and_assoc, decide_eq_true_eq, Int.reduceLT, and_self, Z.rIxH, Z.rIxU, Z.at30, Z.at31, Z.at32, Z.ix3_0, Z.ix3_1, Z.ix3_2, L2.rSetL, L2.gSub, Z.gTupH, L2.gCons, L2.gNil, L2.HO.lst.injEq, L2.HO.tup.injEq, L2.upd_same, L2.upd_upd, L2.tSl, L2.tNoPart, L2.tPart, L2.rSlL, L2.rCat, List.length_append, or_false, false_or, or_true, true_or, reduceCtorEq, false_and, and_false, exists_false, Int.reduceNeg, Int.reducePow, Int.reduceToNat, Int.reduceAbs, Int.reduceLE, Int.reduceMul, Int.reduceAdd, Int.reduceSub, Nat.reducePow, Nat.reduceLT, Nat.reduceLeDiff, Int.natAbs_natCast, if_true, if_false, Z.rIsN, Z.tyN, Z.kit_ii, Z.kit_bi, Z.kit_si, Z.kit_ni, Z.kit_ib, Z.kit_bb, Z.kit_sb, Z.kit_nb, Z.kit_is, Z.kit_bs, Z.kit_ss, Z.kit_ns, Bool.not_true, Bool.not_false, L2.tTup, L2.tLst, L2.wipe, L2.tYes, Z.Turn1, L2.tNever, sizeLine_eq, Z.rInU, Z.rInH, L2.flatV, List.any_cons, List.any_nil, List.all_cons, List.all_nil, Bool.and_true, Bool.true_and, Bool.or_false, Bool.false_or, Z.tBML, L2.rAppend, Z.map_int_inj, Z.map_bl_inj, Z.rTupL, Z.rLstL, Z.rLstT, Z.rSortI, Z.rAnyH, Z.rAllH, Z.rSumH, Z.rLenL, Z.rLenU, List.length_map, L2.tPar, Z.tCallK0, List.getD_cons_zero, List.getD_cons_succ, sp__law_nights]
    refine z_seq ?_
    simp only [L2.start, List.map_cons, List.map_nil, List.length_cons, List.length_nil, Nat.zero_add, Nat.reduceAdd, Nat.reduceSub, List.replicate_succ, List.replicate_zero, List.cons_append, List.nil_append, List.append_nil, L2.tNext, L2.tAsg, L2.gName, L2.tRet, L2.tRetN, L2.tIfS, L2.tVar, L2.tC, L2.tOp, L2.tUn, L2.rI, L2.rI0, L2.rU, L2.rEq, L2.rNe, L2.tTest, L2.tB, L2.tIf, Z.tIfCI, Z.tIfCS, L2.tChain, L2.tCons, L2.tNil, L2.tCall, L2.tDrop, L2.tAndV, L2.tOrV, L2.tNotV, L2.tAnd, L2.tOr, L2.tNot, L2.tCB, Z.sc_ii, Z.sc_ss, Z.sc_bb, Z.sc_is, Z.sc_si, Z.sc_ni, Z.sc_in, Z.sc_ns, Z.sc_sn, Z.sc_nn, L2.CDiv, L2.CPow, L2.CMul, List.getElem?_cons_zero, List.getElem?_cons_succ, Z.set_z, Z.set_s, Option.some.injEq, L2.V.int.injEq, L2.V.bl.injEq, L2.V.str.injEq, L2.V.ref.injEq, L2.V.ty.injEq, List.cons.injEq, exists_eq_left', exists_and_left, exists_eq_left, exists_eq_right, exists_eq_right', exists_eq', exists_eq, true_and, and_true, and_assoc, decide_eq_true_eq, Int.reduceLT, and_self, Z.rIxH, Z.rIxU, Z.at30, Z.at31, Z.at32, Z.ix3_0, Z.ix3_1, Z.ix3_2, L2.rSetL, L2.gSub, Z.gTupH, L2.gCons, L2.gNil, L2.HO.lst.injEq, L2.HO.tup.injEq, L2.upd_same, L2.upd_upd, L2.tSl, L2.tNoPart, L2.tPart, L2.rSlL, L2.rCat, List.length_append, or_false, false_or, or_true, true_or, reduceCtorEq, false_and, and_false, exists_false, Int.reduceNeg, Int.reducePow, Int.reduceToNat, Int.reduceAbs, Int.reduceLE, Int.reduceMul, Int.reduceAdd, Int.reduceSub, Nat.reducePow, Nat.reduceLT, Nat.reduceLeDiff, Int.natAbs_natCast, if_true, if_false, Z.rIsN, Z.tyN, Z.kit_ii, Z.kit_bi, Z.kit_si, Z.kit_ni, Z.kit_ib, Z.kit_bb, Z.kit_sb, Z.kit_nb, Z.kit_is, Z.kit_bs, Z.kit_ss, Z.kit_ns, Bool.not_true, Bool.not_false, L2.tTup, L2.tLst, L2.wipe, L2.tYes, Z.Turn1, L2.tNever, sizeLine_eq, Z.rInU, Z.rInH, L2.flatV, List.any_cons, List.any_nil, List.all_cons, List.all_nil, Bool.and_true, Bool.true_and, Bool.or_false, Bool.false_or, Z.tBML, L2.rAppend, Z.map_int_inj, Z.map_bl_inj, Z.rTupL, Z.rLstL, Z.rLstT, Z.rSortI, Z.rAnyH, Z.rAllH, Z.rSumH, Z.rLenL, Z.rLenU, List.length_map, L2.tPar, Z.tCallK0, List.getD_cons_zero, List.getD_cons_succ, sp__law_nights]
    intro D hD
    refine ⟨fun v H1 => v = .int (if r = true then n - 1 else n) ∧ H1 = upd H D (.lst []), ?_, ?_⟩
    · simp only [L2.start, List.map_cons, List.map_nil, List.length_cons, List.length_nil, Nat.zero_add, Nat.reduceAdd, Nat.reduceSub, List.replicate_succ, List.replicate_zero, List.cons_append, List.nil_append, List.append_nil, L2.tNext, L2.tAsg, L2.gName, L2.tRet, L2.tRetN, L2.tIfS, L2.tVar, L2.tC, L2.tOp, L2.tUn, L2.rI, L2.rI0, L2.rU, L2.rEq, L2.rNe, L2.tTest, L2.tB, L2.tIf, Z.tIfCI, Z.tIfCS, L2.tChain, L2.tCons, L2.tNil, L2.tCall, L2.tDrop, L2.tAndV, L2.tOrV, L2.tNotV, L2.tAnd, L2.tOr, L2.tNot, L2.tCB, Z.sc_ii, Z.sc_ss, Z.sc_bb, Z.sc_is, Z.sc_si, Z.sc_ni, Z.sc_in, Z.sc_ns, Z.sc_sn, Z.sc_nn, L2.CDiv, L2.CPow, L2.CMul, List.getElem?_cons_zero, List.getElem?_cons_succ, Z.set_z, Z.set_s, Option.some.injEq, L2.V.int.injEq, L2.V.bl.injEq, L2.V.str.injEq, L2.V.ref.injEq, L2.V.ty.injEq, List.cons.injEq, exists_eq_left', exists_and_left, exists_eq_left, exists_eq_right, exists_eq_right', exists_eq', exists_eq, true_and, and_true, and_assoc, decide_eq_true_eq, Int.reduceLT, and_self, Z.rIxH, Z.rIxU, Z.at30, Z.at31, Z.at32, Z.ix3_0, Z.ix3_1, Z.ix3_2, L2.rSetL, L2.gSub, Z.gTupH, L2.gCons, L2.gNil, L2.HO.lst.injEq, L2.HO.tup.injEq, L2.upd_same, L2.upd_upd, L2.tSl, L2.tNoPart, L2.tPart, L2.rSlL, L2.rCat, List.length_append, or_false, false_or, or_true, true_or, reduceCtorEq, false_and, and_false, exists_false, Int.reduceNeg, Int.reducePow, Int.reduceToNat, Int.reduceAbs, Int.reduceLE, Int.reduceMul, Int.reduceAdd, Int.reduceSub, Nat.reducePow, Nat.reduceLT, Nat.reduceLeDiff, Int.natAbs_natCast, if_true, if_false, Z.rIsN, Z.tyN, Z.kit_ii, Z.kit_bi, Z.kit_si, Z.kit_ni, Z.kit_ib, Z.kit_bb, Z.kit_sb, Z.kit_nb, Z.kit_is, Z.kit_bs, Z.kit_ss, Z.kit_ns, Bool.not_true, Bool.not_false, L2.tTup, L2.tLst, L2.wipe, L2.tYes, Z.Turn1, L2.tNever, sizeLine_eq, Z.rInU, Z.rInH, L2.flatV, List.any_cons, List.any_nil, List.all_cons, List.all_nil, Bool.and_true, Bool.true_and, Bool.or_false, Bool.false_or, Z.tBML, L2.rAppend, Z.map_int_inj, Z.map_bl_inj, Z.rTupL, Z.rLstL, Z.rLstT, Z.rSortI, Z.rAnyH, Z.rAllH, Z.rSumH, Z.rLenL, Z.rLenU, List.length_map, L2.tPar, Z.tCallK0, List.getD_cons_zero, List.getD_cons_succ, sp__law_nights, kind_eq]
      split <;> (first | exact ⟨rfl, rfl⟩ | rfl | simp_all)
    · rintro v H1 ⟨rfl, rfl⟩
      refine z_seq ?_
      have hk := nights_le (r := r) h0
      generalize hz : (if r = true then n - 1 else n) = z
      have hz1 : 0 < z ∧ z ≤ n ∧ nights r n ≤ z := by
        rw [← hz]
        unfold nights
        split <;> omega
      refine for_rng (n := nights r n) (fun R h => ?_) (by omega) (fun i σ H' => ∃ v4 v5 v6 D as, σ = [some (.str (kindS r)), some (.int n), some (.ref D), some (.int z), v4, v5, v6] ∧ Same H H' ∧ H D = none ∧ H' D = some (.lst (as.map V.ref)) ∧ D ∉ as ∧ as.length = i ∧ Paired (LstAt H') as ((ups i).map (evL r n))) ⟨_, _, _, D, [], rfl, same_new hD, hD, upd_same, List.not_mem_nil, rfl, .nil⟩ ?_ ?_
      · simp only [L2.start, List.map_cons, List.map_nil, List.length_cons, List.length_nil, Nat.zero_add, Nat.reduceAdd, Nat.reduceSub, List.replicate_succ, List.replicate_zero, List.cons_append, List.nil_append, List.append_nil, L2.tNext, L2.tAsg, L2.gName, L2.tRet, L2.tRetN, L2.tIfS, L2.tVar, L2.tC, L2.tOp, L2.tUn, L2.rI, L2.rI0, L2.rU, L2.rEq, L2.rNe, L2.tTest, L2.tB, L2.tIf, Z.tIfCI, Z.tIfCS, L2.tChain, L2.tCons, L2.tNil, L2.tCall, L2.tDrop, L2.tAndV, L2.tOrV, L2.tNotV, L2.tAnd, L2.tOr, L2.tNot, L2.tCB, Z.sc_ii, Z.sc_ss, Z.sc_bb, Z.sc_is, Z.sc_si, Z.sc_ni, Z.sc_in, Z.sc_ns, Z.sc_sn, Z.sc_nn, L2.CDiv, L2.CPow, L2.CMul, List.getElem?_cons_zero, List.getElem?_cons_succ, Z.set_z, Z.set_s, Option.some.injEq, L2.V.int.injEq, L2.V.bl.injEq, L2.V.str.injEq, L2.V.ref.injEq, L2.V.ty.injEq, List.cons.injEq, exists_eq_left', exists_and_left, exists_eq_left, exists_eq_right, exists_eq_right', exists_eq', exists_eq, true_and, and_true, and_assoc, decide_eq_true_eq, Int.reduceLT, and_self, Z.rIxH, Z.rIxU, Z.at30, Z.at31, Z.at32, Z.ix3_0, Z.ix3_1, Z.ix3_2, L2.rSetL, L2.gSub, Z.gTupH, L2.gCons, L2.gNil, L2.HO.lst.injEq, L2.HO.tup.injEq, L2.upd_same, L2.upd_upd, L2.tSl, L2.tNoPart, L2.tPart, L2.rSlL, L2.rCat, List.length_append, or_false, false_or, or_true, true_or, reduceCtorEq, false_and, and_false, exists_false, Int.reduceNeg, Int.reducePow, Int.reduceToNat, Int.reduceAbs, Int.reduceLE, Int.reduceMul, Int.reduceAdd, Int.reduceSub, Nat.reducePow, Nat.reduceLT, Nat.reduceLeDiff, Int.natAbs_natCast, if_true, if_false, Z.rIsN, Z.tyN, Z.kit_ii, Z.kit_bi, Z.kit_si, Z.kit_ni, Z.kit_ib, Z.kit_bb, Z.kit_sb, Z.kit_nb, Z.kit_is, Z.kit_bs, Z.kit_ss, Z.kit_ns, Bool.not_true, Bool.not_false, L2.tTup, L2.tLst, L2.wipe, L2.tYes, Z.Turn1, L2.tNever, sizeLine_eq, Z.rInU, Z.rInH, L2.flatV, List.any_cons, List.any_nil, List.all_cons, List.all_nil, Bool.and_true, Bool.true_and, Bool.or_false, Bool.false_or, Z.tBML, L2.rAppend, Z.map_int_inj, Z.map_bl_inj, Z.rTupL, Z.rLstL, Z.rLstT, Z.rSortI, Z.rAnyH, Z.rAllH, Z.rSumH, Z.rLenL, Z.rLenU, List.length_map, L2.tPar, Z.tCallK0, List.getD_cons_zero, List.getD_cons_succ, sp__law_nights, kind_inj]
        exact h
      · rintro i σ H0 hi ⟨v4, v5, v6, D, as, rfl, s0, hD, eD, nD, hl, pr⟩
        simp only [L2.start, List.map_cons, List.map_nil, List.length_cons, List.length_nil, Nat.zero_add, Nat.reduceAdd, Nat.reduceSub, List.replicate_succ, List.replicate_zero, List.cons_append, List.nil_append, List.append_nil, L2.tNext, L2.tAsg, L2.gName, L2.tRet, L2.tRetN, L2.tIfS, L2.tVar, L2.tC, L2.tOp, L2.tUn, L2.rI, L2.rI0, L2.rU, L2.rEq, L2.rNe, L2.tTest, L2.tB, L2.tIf, Z.tIfCI, Z.tIfCS, L2.tChain, L2.tCons, L2.tNil, L2.tCall, L2.tDrop, L2.tAndV, L2.tOrV, L2.tNotV, L2.tAnd, L2.tOr, L2.tNot, L2.tCB, Z.sc_ii, Z.sc_ss, Z.sc_bb, Z.sc_is, Z.sc_si, Z.sc_ni, Z.sc_in, Z.sc_ns, Z.sc_sn, Z.sc_nn, L2.CDiv, L2.CPow, L2.CMul, List.getElem?_cons_zero, List.getElem?_cons_succ, Z.set_z, Z.set_s, Option.some.injEq, L2.V.int.injEq, L2.V.bl.injEq, L2.V.str.injEq, L2.V.ref.injEq, L2.V.ty.injEq, List.cons.injEq, exists_eq_left', exists_and_left, exists_eq_left, exists_eq_right, exists_eq_right', exists_eq', exists_eq, true_and, and_true, and_assoc, decide_eq_true_eq, Int.reduceLT, and_self, Z.rIxH, Z.rIxU, Z.at30, Z.at31, Z.at32, Z.ix3_0, Z.ix3_1, Z.ix3_2, L2.rSetL, L2.gSub, Z.gTupH, L2.gCons, L2.gNil, L2.HO.lst.injEq, L2.HO.tup.injEq, L2.upd_same, L2.upd_upd, L2.tSl, L2.tNoPart, L2.tPart, L2.rSlL, L2.rCat, List.length_append, or_false, false_or, or_true, true_or, reduceCtorEq, false_and, and_false, exists_false, Int.reduceNeg, Int.reducePow, Int.reduceToNat, Int.reduceAbs, Int.reduceLE, Int.reduceMul, Int.reduceAdd, Int.reduceSub, Nat.reducePow, Nat.reduceLT, Nat.reduceLeDiff, Int.natAbs_natCast, if_true, if_false, Z.rIsN, Z.tyN, Z.kit_ii, Z.kit_bi, Z.kit_si, Z.kit_ni, Z.kit_ib, Z.kit_bb, Z.kit_sb, Z.kit_nb, Z.kit_is, Z.kit_bs, Z.kit_ss, Z.kit_ns, Bool.not_true, Bool.not_false, L2.tTup, L2.tLst, L2.wipe, L2.tYes, Z.Turn1, L2.tNever, sizeLine_eq, Z.rInU, Z.rInH, L2.flatV, List.any_cons, List.any_nil, List.all_cons, List.all_nil, Bool.and_true, Bool.true_and, Bool.or_false, Bool.false_or, Z.tBML, L2.rAppend, Z.map_int_inj, Z.map_bl_inj, Z.rTupL, Z.rLstL, Z.rLstT, Z.rSortI, Z.rAnyH, Z.rAllH, Z.rSumH, Z.rLenL, Z.rLenU, List.length_map, L2.tPar, Z.tCallK0, List.getD_cons_zero, List.getD_cons_succ, sp__law_nights]
        refine z_seq ?_
        simp only [L2.start, List.map_cons, List.map_nil, List.length_cons, List.length_nil, Nat.zero_add, Nat.reduceAdd, Nat.reduceSub, List.replicate_succ, List.replicate_zero, List.cons_append, List.nil_append, List.append_nil, L2.tNext, L2.tAsg, L2.gName, L2.tRet, L2.tRetN, L2.tIfS, L2.tVar, L2.tC, L2.tOp, L2.tUn, L2.rI, L2.rI0, L2.rU, L2.rEq, L2.rNe, L2.tTest, L2.tB, L2.tIf, Z.tIfCI, Z.tIfCS, L2.tChain, L2.tCons, L2.tNil, L2.tCall, L2.tDrop, L2.tAndV, L2.tOrV, L2.tNotV, L2.tAnd, L2.tOr, L2.tNot, L2.tCB, Z.sc_ii, Z.sc_ss, Z.sc_bb, Z.sc_is, Z.sc_si, Z.sc_ni, Z.sc_in, Z.sc_ns, Z.sc_sn, Z.sc_nn, L2.CDiv, L2.CPow, L2.CMul, List.getElem?_cons_zero, List.getElem?_cons_succ, Z.set_z, Z.set_s, Option.some.injEq, L2.V.int.injEq, L2.V.bl.injEq, L2.V.str.injEq, L2.V.ref.injEq, L2.V.ty.injEq, List.cons.injEq, exists_eq_left', exists_and_left, exists_eq_left, exists_eq_right, exists_eq_right', exists_eq', exists_eq, true_and, and_true, and_assoc, decide_eq_true_eq, Int.reduceLT, and_self, Z.rIxH, Z.rIxU, Z.at30, Z.at31, Z.at32, Z.ix3_0, Z.ix3_1, Z.ix3_2, L2.rSetL, L2.gSub, Z.gTupH, L2.gCons, L2.gNil, L2.HO.lst.injEq, L2.HO.tup.injEq, L2.upd_same, L2.upd_upd, L2.tSl, L2.tNoPart, L2.tPart, L2.rSlL, L2.rCat, List.length_append, or_false, false_or, or_true, true_or, reduceCtorEq, false_and, and_false, exists_false, Int.reduceNeg, Int.reducePow, Int.reduceToNat, Int.reduceAbs, Int.reduceLE, Int.reduceMul, Int.reduceAdd, Int.reduceSub, Nat.reducePow, Nat.reduceLT, Nat.reduceLeDiff, Int.natAbs_natCast, if_true, if_false, Z.rIsN, Z.tyN, Z.kit_ii, Z.kit_bi, Z.kit_si, Z.kit_ni, Z.kit_ib, Z.kit_bb, Z.kit_sb, Z.kit_nb, Z.kit_is, Z.kit_bs, Z.kit_ss, Z.kit_ns, Bool.not_true, Bool.not_false, L2.tTup, L2.tLst, L2.wipe, L2.tYes, Z.Turn1, L2.tNever, sizeLine_eq, Z.rInU, Z.rInH, L2.flatV, List.any_cons, List.any_nil, List.all_cons, List.all_nil, Bool.and_true, Bool.true_and, Bool.or_false, Bool.false_or, Z.tBML, L2.rAppend, Z.map_int_inj, Z.map_bl_inj, Z.rTupL, Z.rLstL, Z.rLstT, Z.rSortI, Z.rAnyH, Z.rAllH, Z.rSumH, Z.rLenL, Z.rLenU, List.length_map, L2.tPar, Z.tCallK0, List.getD_cons_zero, List.getD_cons_succ, sp__law_nights]
        intro S hS
        have s1 : Same H0 (upd H0 S (.lst [.int i])) := same_new hS
        have hSD : S ≠ D := by
          rintro rfl
          rw [eD] at hS
          cases hS
        refine z_seq ?_
        refine for_rng2 (lo := 1) (hi := z) (fun R h => ?_) (by omega) (fun j σ H' => ∃ v6, σ = [some (.str (kindS r)), some (.int n), some (.ref D), some (.int z), some (.int i), some (.ref S), v6] ∧ (∀ b o, b ≠ S → H0 b = some o → H' b = some o) ∧ H' S = some (.lst (((ups ((j : Int) + 1)).map (personIn z i)).map V.int))) ⟨_, rfl, fun b o _ e => s1 _ _ e, ?_⟩ ?_ ?_
        · simp only [L2.start, List.map_cons, List.map_nil, List.length_cons, List.length_nil, Nat.zero_add, Nat.reduceAdd, Nat.reduceSub, List.replicate_succ, List.replicate_zero, List.cons_append, List.nil_append, List.append_nil, L2.tNext, L2.tAsg, L2.gName, L2.tRet, L2.tRetN, L2.tIfS, L2.tVar, L2.tC, L2.tOp, L2.tUn, L2.rI, L2.rI0, L2.rU, L2.rEq, L2.rNe, L2.tTest, L2.tB, L2.tIf, Z.tIfCI, Z.tIfCS, L2.tChain, L2.tCons, L2.tNil, L2.tCall, L2.tDrop, L2.tAndV, L2.tOrV, L2.tNotV, L2.tAnd, L2.tOr, L2.tNot, L2.tCB, Z.sc_ii, Z.sc_ss, Z.sc_bb, Z.sc_is, Z.sc_si, Z.sc_ni, Z.sc_in, Z.sc_ns, Z.sc_sn, Z.sc_nn, L2.CDiv, L2.CPow, L2.CMul, List.getElem?_cons_zero, List.getElem?_cons_succ, Z.set_z, Z.set_s, Option.some.injEq, L2.V.int.injEq, L2.V.bl.injEq, L2.V.str.injEq, L2.V.ref.injEq, L2.V.ty.injEq, List.cons.injEq, exists_eq_left', exists_and_left, exists_eq_left, exists_eq_right, exists_eq_right', exists_eq', exists_eq, true_and, and_true, and_assoc, decide_eq_true_eq, Int.reduceLT, and_self, Z.rIxH, Z.rIxU, Z.at30, Z.at31, Z.at32, Z.ix3_0, Z.ix3_1, Z.ix3_2, L2.rSetL, L2.gSub, Z.gTupH, L2.gCons, L2.gNil, L2.HO.lst.injEq, L2.HO.tup.injEq, L2.upd_same, L2.upd_upd, L2.tSl, L2.tNoPart, L2.tPart, L2.rSlL, L2.rCat, List.length_append, or_false, false_or, or_true, true_or, reduceCtorEq, false_and, and_false, exists_false, Int.reduceNeg, Int.reducePow, Int.reduceToNat, Int.reduceAbs, Int.reduceLE, Int.reduceMul, Int.reduceAdd, Int.reduceSub, Nat.reducePow, Nat.reduceLT, Nat.reduceLeDiff, Int.natAbs_natCast, if_true, if_false, Z.rIsN, Z.tyN, Z.kit_ii, Z.kit_bi, Z.kit_si, Z.kit_ni, Z.kit_ib, Z.kit_bb, Z.kit_sb, Z.kit_nb, Z.kit_is, Z.kit_bs, Z.kit_ss, Z.kit_ns, Bool.not_true, Bool.not_false, L2.tTup, L2.tLst, L2.wipe, L2.tYes, Z.Turn1, L2.tNever, sizeLine_eq, Z.rInU, Z.rInH, L2.flatV, List.any_cons, List.any_nil, List.all_cons, List.all_nil, Bool.and_true, Bool.true_and, Bool.or_false, Bool.false_or, Z.tBML, L2.rAppend, Z.map_int_inj, Z.map_bl_inj, Z.rTupL, Z.rLstL, Z.rLstT, Z.rSortI, Z.rAnyH, Z.rAllH, Z.rSumH, Z.rLenL, Z.rLenU, List.length_map, L2.tPar, Z.tCallK0, List.getD_cons_zero, List.getD_cons_succ, sp__law_nights]
          exact h
        · rw [upd_same, part_at 0]
          show some (HO.lst [V.int i]) = some (HO.lst [V.int (personIn z i 0)])
          rw [personIn_zero (by omega) (by omega)]
        · rintro j σ H2 hj ⟨v6, rfl, k2, e2⟩
          simp only [L2.start, List.map_cons, List.map_nil, List.length_cons, List.length_nil, Nat.zero_add, Nat.reduceAdd, Nat.reduceSub, List.replicate_succ, List.replicate_zero, List.cons_append, List.nil_append, List.append_nil, L2.tNext, L2.tAsg, L2.gName, L2.tRet, L2.tRetN, L2.tIfS, L2.tVar, L2.tC, L2.tOp, L2.tUn, L2.rI, L2.rI0, L2.rU, L2.rEq, L2.rNe, L2.tTest, L2.tB, L2.tIf, Z.tIfCI, Z.tIfCS, L2.tChain, L2.tCons, L2.tNil, L2.tCall, L2.tDrop, L2.tAndV, L2.tOrV, L2.tNotV, L2.tAnd, L2.tOr, L2.tNot, L2.tCB, Z.sc_ii, Z.sc_ss, Z.sc_bb, Z.sc_is, Z.sc_si, Z.sc_ni, Z.sc_in, Z.sc_ns, Z.sc_sn, Z.sc_nn, L2.CDiv, L2.CPow, L2.CMul, List.getElem?_cons_zero, List.getElem?_cons_succ, Z.set_z, Z.set_s, Option.some.injEq, L2.V.int.injEq, L2.V.bl.injEq, L2.V.str.injEq, L2.V.ref.injEq, L2.V.ty.injEq, List.cons.injEq, exists_eq_left', exists_and_left, exists_eq_left, exists_eq_right, exists_eq_right', exists_eq', exists_eq, true_and, and_true, and_assoc, decide_eq_true_eq, Int.reduceLT, and_self, Z.rIxH, Z.rIxU, Z.at30, Z.at31, Z.at32, Z.ix3_0, Z.ix3_1, Z.ix3_2, L2.rSetL, L2.gSub, Z.gTupH, L2.gCons, L2.gNil, L2.HO.lst.injEq, L2.HO.tup.injEq, L2.upd_same, L2.upd_upd, L2.tSl, L2.tNoPart, L2.tPart, L2.rSlL, L2.rCat, List.length_append, or_false, false_or, or_true, true_or, reduceCtorEq, false_and, and_false, exists_false, Int.reduceNeg, Int.reducePow, Int.reduceToNat, Int.reduceAbs, Int.reduceLE, Int.reduceMul, Int.reduceAdd, Int.reduceSub, Nat.reducePow, Nat.reduceLT, Nat.reduceLeDiff, Int.natAbs_natCast, if_true, if_false, Z.rIsN, Z.tyN, Z.kit_ii, Z.kit_bi, Z.kit_si, Z.kit_ni, Z.kit_ib, Z.kit_bb, Z.kit_sb, Z.kit_nb, Z.kit_is, Z.kit_bs, Z.kit_ss, Z.kit_ns, Bool.not_true, Bool.not_false, L2.tTup, L2.tLst, L2.wipe, L2.tYes, Z.Turn1, L2.tNever, sizeLine_eq, Z.rInU, Z.rInH, L2.flatV, List.any_cons, List.any_nil, List.all_cons, List.all_nil, Bool.and_true, Bool.true_and, Bool.or_false, Bool.false_or, Z.tBML, L2.rAppend, Z.map_int_inj, Z.map_bl_inj, Z.rTupL, Z.rLstL, Z.rLstT, Z.rSortI, Z.rAnyH, Z.rAllH, Z.rSumH, Z.rLenL, Z.rLenU, List.length_map, L2.tPar, Z.tCallK0, List.getD_cons_zero, List.getD_cons_succ, sp__law_nights]
          have st := personIn_step (z := z) (e := i) (k := 1 + j) (by omega)
          rw [show (1 + (j : Int) - 1) = j by omega] at st
          have ej : ((j + 1 : Nat) : Int) = 1 + (j : Int) := by omega
          have hlen : (((ups ((j : Int) + 1)).map (personIn z i)).map V.int).length < 16777216 := by
            rw [List.length_map, List.length_map, ups_len]
            omega
          have hk : ∀ v : Int, ∀ b o, b ≠ S → H0 b = some o → upd H2 S (HO.lst (((ups ((j : Int) + 1)).map (personIn z i)).map V.int ++ [V.int v])) b = some o := fun v b o nb e => by
            rw [upd_ne nb]
            exact k2 b o nb e
          refine ⟨_, e2, _, e2, .int (personIn z i j), by rw [part_at]; exact Z.atI_last _ _, ?_⟩
          by_cases c : (1 + (j : Int)) % 2 = 1
          · rw [if_pos c] at st
            rw [if_pos c]
            refine ⟨_, rfl, hz1.1, _, e2, hlen, hk _, ?_⟩
            rw [part_at (j + 1), st, ej, Int.add_comm]
          · rw [if_neg c] at st
            rw [if_neg c]
            refine ⟨_, rfl, hz1.1, _, e2, hlen, hk _, ?_⟩
            rw [part_at (j + 1), st, ej, Int.add_comm]
        · rintro σ H2 ⟨v6, rfl, k2, e2⟩
          simp only [L2.start, List.map_cons, List.map_nil, List.length_cons, List.length_nil, Nat.zero_add, Nat.reduceAdd, Nat.reduceSub, List.replicate_succ, List.replicate_zero, List.cons_append, List.nil_append, List.append_nil, L2.tNext, L2.tAsg, L2.gName, L2.tRet, L2.tRetN, L2.tIfS, L2.tVar, L2.tC, L2.tOp, L2.tUn, L2.rI, L2.rI0, L2.rU, L2.rEq, L2.rNe, L2.tTest, L2.tB, L2.tIf, Z.tIfCI, Z.tIfCS, L2.tChain, L2.tCons, L2.tNil, L2.tCall, L2.tDrop, L2.tAndV, L2.tOrV, L2.tNotV, L2.tAnd, L2.tOr, L2.tNot, L2.tCB, Z.sc_ii, Z.sc_ss, Z.sc_bb, Z.sc_is, Z.sc_si, Z.sc_ni, Z.sc_in, Z.sc_ns, Z.sc_sn, Z.sc_nn, L2.CDiv, L2.CPow, L2.CMul, List.getElem?_cons_zero, List.getElem?_cons_succ, Z.set_z, Z.set_s, Option.some.injEq, L2.V.int.injEq, L2.V.bl.injEq, L2.V.str.injEq, L2.V.ref.injEq, L2.V.ty.injEq, List.cons.injEq, exists_eq_left', exists_and_left, exists_eq_left, exists_eq_right, exists_eq_right', exists_eq', exists_eq, true_and, and_true, and_assoc, decide_eq_true_eq, Int.reduceLT, and_self, Z.rIxH, Z.rIxU, Z.at30, Z.at31, Z.at32, Z.ix3_0, Z.ix3_1, Z.ix3_2, L2.rSetL, L2.gSub, Z.gTupH, L2.gCons, L2.gNil, L2.HO.lst.injEq, L2.HO.tup.injEq, L2.upd_same, L2.upd_upd, L2.tSl, L2.tNoPart, L2.tPart, L2.rSlL, L2.rCat, List.length_append, or_false, false_or, or_true, true_or, reduceCtorEq, false_and, and_false, exists_false, Int.reduceNeg, Int.reducePow, Int.reduceToNat, Int.reduceAbs, Int.reduceLE, Int.reduceMul, Int.reduceAdd, Int.reduceSub, Nat.reducePow, Nat.reduceLT, Nat.reduceLeDiff, Int.natAbs_natCast, if_true, if_false, Z.rIsN, Z.tyN, Z.kit_ii, Z.kit_bi, Z.kit_si, Z.kit_ni, Z.kit_ib, Z.kit_bb, Z.kit_sb, Z.kit_nb, Z.kit_is, Z.kit_bs, Z.kit_ss, Z.kit_ns, Bool.not_true, Bool.not_false, L2.tTup, L2.tLst, L2.wipe, L2.tYes, Z.Turn1, L2.tNever, sizeLine_eq, Z.rInU, Z.rInH, L2.flatV, List.any_cons, List.any_nil, List.all_cons, List.all_nil, Bool.and_true, Bool.true_and, Bool.or_false, Bool.false_or, Z.tBML, L2.rAppend, Z.map_int_inj, Z.map_bl_inj, Z.rTupL, Z.rLstL, Z.rLstT, Z.rSortI, Z.rAnyH, Z.rAllH, Z.rSumH, Z.rLenL, Z.rLenU, List.length_map, L2.tPar, Z.tCallK0, List.getD_cons_zero, List.getD_cons_succ, sp__law_nights]
          rw [show (((z - 1).toNat : Nat) : Int) + 1 = z by omega] at e2
          have e3 := k2 D _ (Ne.symm hSD) eD
          refine ⟨_, e3, fun v H1 => ∃ T, v = .ref T ∧ H2 T = none ∧ H1 = upd H2 T (lstO (if r = true then [n - 1] else [])), ?_, ?_⟩
          · simp only [L2.start, List.map_cons, List.map_nil, List.length_cons, List.length_nil, Nat.zero_add, Nat.reduceAdd, Nat.reduceSub, List.replicate_succ, List.replicate_zero, List.cons_append, List.nil_append, List.append_nil, L2.tNext, L2.tAsg, L2.gName, L2.tRet, L2.tRetN, L2.tIfS, L2.tVar, L2.tC, L2.tOp, L2.tUn, L2.rI, L2.rI0, L2.rU, L2.rEq, L2.rNe, L2.tTest, L2.tB, L2.tIf, Z.tIfCI, Z.tIfCS, L2.tChain, L2.tCons, L2.tNil, L2.tCall, L2.tDrop, L2.tAndV, L2.tOrV, L2.tNotV, L2.tAnd, L2.tOr, L2.tNot, L2.tCB, Z.sc_ii, Z.sc_ss, Z.sc_bb, Z.sc_is, Z.sc_si, Z.sc_ni, Z.sc_in, Z.sc_ns, Z.sc_sn, Z.sc_nn, L2.CDiv, L2.CPow, L2.CMul, List.getElem?_cons_zero, List.getElem?_cons_succ, Z.set_z, Z.set_s, Option.some.injEq, L2.V.int.injEq, L2.V.bl.injEq, L2.V.str.injEq, L2.V.ref.injEq, L2.V.ty.injEq, List.cons.injEq, exists_eq_left', exists_and_left, exists_eq_left, exists_eq_right, exists_eq_right', exists_eq', exists_eq, true_and, and_true, and_assoc, decide_eq_true_eq, Int.reduceLT, and_self, Z.rIxH, Z.rIxU, Z.at30, Z.at31, Z.at32, Z.ix3_0, Z.ix3_1, Z.ix3_2, L2.rSetL, L2.gSub, Z.gTupH, L2.gCons, L2.gNil, L2.HO.lst.injEq, L2.HO.tup.injEq, L2.upd_same, L2.upd_upd, L2.tSl, L2.tNoPart, L2.tPart, L2.rSlL, L2.rCat, List.length_append, or_false, false_or, or_true, true_or, reduceCtorEq, false_and, and_false, exists_false, Int.reduceNeg, Int.reducePow, Int.reduceToNat, Int.reduceAbs, Int.reduceLE, Int.reduceMul, Int.reduceAdd, Int.reduceSub, Nat.reducePow, Nat.reduceLT, Nat.reduceLeDiff, Int.natAbs_natCast, if_true, if_false, Z.rIsN, Z.tyN, Z.kit_ii, Z.kit_bi, Z.kit_si, Z.kit_ni, Z.kit_ib, Z.kit_bb, Z.kit_sb, Z.kit_nb, Z.kit_is, Z.kit_bs, Z.kit_ss, Z.kit_ns, Bool.not_true, Bool.not_false, L2.tTup, L2.tLst, L2.wipe, L2.tYes, Z.Turn1, L2.tNever, sizeLine_eq, Z.rInU, Z.rInH, L2.flatV, List.any_cons, List.any_nil, List.all_cons, List.all_nil, Bool.and_true, Bool.true_and, Bool.or_false, Bool.false_or, Z.tBML, L2.rAppend, Z.map_int_inj, Z.map_bl_inj, Z.rTupL, Z.rLstL, Z.rLstT, Z.rSortI, Z.rAnyH, Z.rAllH, Z.rSumH, Z.rLenL, Z.rLenU, List.length_map, L2.tPar, Z.tCallK0, List.getD_cons_zero, List.getD_cons_succ, sp__law_nights, kind_eq]
            cases r
            · rw [if_neg Bool.false_ne_true]
              first | exact fun T hT => ⟨T, rfl, hT, rfl⟩ | exact fun T hT => ⟨hT, rfl⟩
            · rw [if_pos rfl]
              first | exact fun T hT => ⟨T, rfl, hT, rfl⟩ | exact fun T hT => ⟨hT, rfl⟩
          · rintro v H1 ⟨T, rfl, hT, rfl⟩
            have hTD := ne_of_none e3 hT
            have hTS := ne_of_none e2 hT
            have e4 : upd H2 T (lstO (if r = true then [n - 1] else [])) S = some (.lst (((ups z).map (personIn z i)).map V.int)) := by
              rw [upd_ne hTS]
              exact e2
            refine ⟨T, rfl, _, upd_same, _, e4, ?_, fun p hp => ?_⟩
            · rw [List.length_map, List.length_map, List.length_map, ups_len]
              have : (if r = true then [n - 1] else []).length ≤ 1 := by
                split
                · exact Nat.le_refl 1
                · exact Nat.zero_le 1
              omega
            · have ev : (if r = true then [n - 1] else []).map V.int ++ ((ups z).map (personIn z i)).map V.int = (evL r n i).map V.int := by
                rw [← List.map_append]
                congr 1
                cases r
                · rw [evL_rows, ← hz]
                  rfl
                · rw [evL_rings (by omega), ← hz]
                  rfl
              rw [ev]
              have hpT : T ≠ p := ne_of_none upd_same hp
              have hp2 : H2 p = none := by
                rw [← upd_ne (H := H2) (o := lstO (if r = true then [n - 1] else [])) (Ne.symm hpT)]
                exact hp
              have hpD := ne_of_none e3 hp2
              have hpS := ne_of_none e2 hp2
              have kk : ∀ b o, b ≠ D → b ≠ S → H0 b = some o → upd (upd (upd H2 T (lstO (if r = true then [n - 1] else []))) p (HO.lst ((evL r n i).map V.int))) D (HO.lst (as.map V.ref ++ [V.ref p])) b = some o := fun b o nb ns e => by
                have e5 := k2 b o ns e
                rw [upd_ne nb, upd_ne (ne_of_none e5 hp2), upd_ne (ne_of_none e5 hT)]
                exact e5
              refine ⟨_, by rw [upd_ne hpD, upd_ne hTD]; exact e3, by rw [List.length_map]; omega, fun b o e => ?_, hD, as ++ [p], by rw [List.map_append]; rfl, ?_, by rw [List.length_append, hl]; rfl, ?_⟩
              · have e5 := s0 _ _ e
                exact kk b o (ne_of_none e hD) (ne_of_none e5 hS) e5
              · intro m
                rcases List.mem_append.mp m with m | m
                · exact nD m
                · exact hpD (List.mem_singleton.mp m)
              · rw [show ((i + 1 : Nat) : Int) = (i : Int) + 1 by omega, ups_succ, List.map_append]
                refine paired_app (paired_monoM (fun a ha l e => ?_) pr) (.cons ?_ .nil)
                · exact kk a _ (fun z => nD (by rw [← z]; exact ha)) (ne_of_none e hS) e
                · show upd _ D _ p = _
                  rw [upd_ne (Ne.symm hpD), upd_same]
      · rintro σ H' ⟨v4, v5, v6, D, as, rfl, s0, hD, eD, nD, hl, pr⟩
        simp only [L2.start, List.map_cons, List.map_nil, List.length_cons, List.length_nil, Nat.zero_add, Nat.reduceAdd, Nat.reduceSub, List.replicate_succ, List.replicate_zero, List.cons_append, List.nil_append, List.append_nil, L2.tNext, L2.tAsg, L2.gName, L2.tRet, L2.tRetN, L2.tIfS, L2.tVar, L2.tC, L2.tOp, L2.tUn, L2.rI, L2.rI0, L2.rU, L2.rEq, L2.rNe, L2.tTest, L2.tB, L2.tIf, Z.tIfCI, Z.tIfCS, L2.tChain, L2.tCons, L2.tNil, L2.tCall, L2.tDrop, L2.tAndV, L2.tOrV, L2.tNotV, L2.tAnd, L2.tOr, L2.tNot, L2.tCB, Z.sc_ii, Z.sc_ss, Z.sc_bb, Z.sc_is, Z.sc_si, Z.sc_ni, Z.sc_in, Z.sc_ns, Z.sc_sn, Z.sc_nn, L2.CDiv, L2.CPow, L2.CMul, List.getElem?_cons_zero, List.getElem?_cons_succ, Z.set_z, Z.set_s, Option.some.injEq, L2.V.int.injEq, L2.V.bl.injEq, L2.V.str.injEq, L2.V.ref.injEq, L2.V.ty.injEq, List.cons.injEq, exists_eq_left', exists_and_left, exists_eq_left, exists_eq_right, exists_eq_right', exists_eq', exists_eq, true_and, and_true, and_assoc, decide_eq_true_eq, Int.reduceLT, and_self, Z.rIxH, Z.rIxU, Z.at30, Z.at31, Z.at32, Z.ix3_0, Z.ix3_1, Z.ix3_2, L2.rSetL, L2.gSub, Z.gTupH, L2.gCons, L2.gNil, L2.HO.lst.injEq, L2.HO.tup.injEq, L2.upd_same, L2.upd_upd, L2.tSl, L2.tNoPart, L2.tPart, L2.rSlL, L2.rCat, List.length_append, or_false, false_or, or_true, true_or, reduceCtorEq, false_and, and_false, exists_false, Int.reduceNeg, Int.reducePow, Int.reduceToNat, Int.reduceAbs, Int.reduceLE, Int.reduceMul, Int.reduceAdd, Int.reduceSub, Nat.reducePow, Nat.reduceLT, Nat.reduceLeDiff, Int.natAbs_natCast, if_true, if_false, Z.rIsN, Z.tyN, Z.kit_ii, Z.kit_bi, Z.kit_si, Z.kit_ni, Z.kit_ib, Z.kit_bb, Z.kit_sb, Z.kit_nb, Z.kit_is, Z.kit_bs, Z.kit_ss, Z.kit_ns, Bool.not_true, Bool.not_false, L2.tTup, L2.tLst, L2.wipe, L2.tYes, Z.Turn1, L2.tNever, sizeLine_eq, Z.rInU, Z.rInH, L2.flatV, List.any_cons, List.any_nil, List.all_cons, List.all_nil, Bool.and_true, Bool.true_and, Bool.or_false, Bool.false_or, Z.tBML, L2.rAppend, Z.map_int_inj, Z.map_bl_inj, Z.rTupL, Z.rLstL, Z.rLstT, Z.rSortI, Z.rAnyH, Z.rAllH, Z.rSumH, Z.rLenL, Z.rLenU, List.length_map, L2.tPar, Z.tCallK0, List.getD_cons_zero, List.getD_cons_succ, sp__law_nights]
        rw [show (((nights r n).toNat : Nat) : Int) = nights r n by omega] at pr
        exact q D as H' hD s0 eD pr
def sp__law_neighbours : Sp := fun vs H Q _ => ∃ (r : Bool) (a : Addr) (n e : Int), vs = [.str (kindS r), .ref a] ∧ 1 < n ∧ n ≤ 100 ∧ TupAt H a (evL r n e) ∧ ∀ D as H', H D = none → Same H H' → H' D = some (.lst (as.map V.ref)) → Paired (PairAt H') as (nbs r n e) → Q (.ref D) H'
theorem evL_at {r : Bool} {n e i : Int} (h0 : 0 ≤ i) (h1 : i < n) : atI ((evL r n e).map V.int) i = some (.int (personAt r n e i)) := by
  refine atI_int h0 ?_
  rw [List.getElem?_map, evL_get (by omega), show ((i.toNat : Nat) : Int) = i by omega]
  rfl
theorem evL_atE {r : Bool} {n e : Int} (h1 : 0 < n) : atI ((evL r n e).map V.int) (-1) = some (.int (personAt r n e (n - 1))) := by
  refine atI_end ?_
  rw [List.length_map, evL_len, List.getElem?_map, evL_get (by omega), show ((n.toNat - 1 : Nat) : Int) = n - 1 by omega]
  rfl
theorem ok__law_neighbours (T : Env K mg) : Hd P w K mg base CX0 1 "_law_neighbours" s__law_neighbours ["_law_sort_now", "_law_some"] sp__law_neighbours := by
  obtain ⟨f, fd, F, hm⟩ := T.d__law_neighbours
  refine ⟨⟨f, fd, F, hm, ?_⟩, fun _ _ _ _ _ _ _ us hl => match us, hl with | [_, _], _ => rfl⟩
  refine F.ok sc__law_neighbours (fun vs H Q E h => ?_) (fun cdv A outer s H vs Q E hr h => ?_)
  · first | (obtain ⟨rfl, _⟩ := h; rfl) | (obtain ⟨_, rfl, _⟩ := h; rfl) | (obtain ⟨_, _, rfl, _⟩ := h; rfl) | (obtain ⟨_, _, _, rfl, _⟩ := h; rfl) | (obtain ⟨_, _, _, _, rfl, _⟩ := h; rfl) | (obtain ⟨_, _, _, _, _, rfl, _⟩ := h; rfl) | (obtain ⟨_, _, _, _, _, _, rfl, _⟩ := h; rfl) | (obtain ⟨_, _, _, _, _, _, _, rfl, _⟩ := h; rfl) | (obtain ⟨_, _, _, _, _, _, _, _, rfl, _⟩ := h; rfl)
  · obtain ⟨r, a, n, e, rfl, h0, h1, ha, q⟩ := h
    have hu := hu_of hr
    refine ⟨_, pss_cons (ps_setLc (i := 2) (own := [("_law_k", 3)]) (g := (gName 3)) (tt := tYes) rfl sc__law_neighbours.nd rfl rfl (sw_true rfl rfl rfl (by decide +kernel)) (pi_range1 rfl T.b_range (pa_cons (pe_op op_sub (pe_callB call_lenU rfl T.b_len (by decide +kernel) (pa_cons (pv 1) pa_nil)) pe_int) pa_nil)) (blkOk_by (own := [("_law_k", 3)]) (N := N__law_neighbours) (sc := defScope s__law_neighbours) (by decide +kernel)) (fun _ _ _ _ _ => pg_name (i := 3) sc__law_neighbours.nd rfl (by first | exact .inl rfl | exact .inr rfl)) (fun _ _ _ _ _ => pts_nil) (fun _ _ _ _ _ => (pe_tup (pa_cons (pe_callB (call_min2 rfl) rfl T.b_min (by decide +kernel) (pa_cons (pe_ix ix_tupH (pv 1) (pv 3) (fun _ _ => rfl)) (pa_cons (pe_ix ix_tupH (pv 1) (pe_op op_add (pv 3) pe_int) (fun _ _ => rfl)) pa_nil))) (pa_cons (pe_callB (call_max2 rfl) rfl T.b_max (by decide +kernel) (pa_cons (pe_ix ix_tupH (pv 1) (pv 3) (fun _ _ => rfl)) (pa_cons (pe_ix ix_tupH (pv 1) (pe_op op_add (pv 3) pe_int) (fun _ _ => rfl)) pa_nil))) pa_nil)))))
      (pss_one (ps_ret (pe_op op_cat (pv 2) (pe_ifExp (pt_cmpR op_eq (pv 0) pe_str (nomark _)) (pe_lst (pa_cons (pe_tup (pa_cons (pe_callB (call_min2 rfl) rfl T.b_min (by decide +kernel) (pa_cons (pe_ix ix_tupH (pv 1) pe_int (fun _ _ => rfl)) (pa_cons (pe_ix ix_tupH (pv 1) (pe_un un_neg pe_int) (fun _ _ => rfl)) pa_nil))) (pa_cons (pe_callB (call_max2 rfl) rfl T.b_max (by decide +kernel) (pa_cons (pe_ix ix_tupH (pv 1) pe_int (fun _ _ => rfl)) (pa_cons (pe_ix ix_tupH (pv 1) (pe_un un_neg pe_int) (fun _ _ => rfl)) pa_nil))) pa_nil))) pa_nil)) (pe_lst pa_nil))))), ?_⟩
    simp only [L2.start, List.map_cons, List.map_nil, List.length_cons, List.length_nil, Nat.zero_add, Nat.reduceAdd, Nat.reduceSub, List.replicate_succ, List.replicate_zero, List.cons_append, List.nil_append, List.append_nil, L2.tNext, L2.tAsg, L2.gName, L2.tRet, L2.tRetN, L2.tIfS, L2.tVar, L2.tC, L2.tOp, L2.tUn, L2.rI, L2.rI0, L2.rU, L2.rEq, L2.rNe, L2.tTest, L2.tB, L2.tIf, Z.tIfCI, Z.tIfCS, L2.tChain, L2.tCons, L2.tNil, L2.tCall, L2.tDrop, L2.tAndV, L2.tOrV, L2.tNotV, L2.tAnd, L2.tOr, L2.tNot, L2.tCB, Z.sc_ii, Z.sc_ss, Z.sc_bb, Z.sc_is, Z.sc_si, Z.sc_ni, Z.sc_in, Z.sc_ns, Z.sc_sn, Z.sc_nn, L2.CDiv, L2.CPow, L2.CMul, List.getElem?_cons_zero, List.getElem?_cons_succ, Z.set_z, Z.set_s, Option.some.injEq, L2.V.int.injEq, L2.V.bl.injEq, L2.V.str.injEq, L2.V.ref.injEq, L2.V.ty.injEq, List.cons.injEq, exists_eq_left', exists_and_left, exists_eq_left, exists_eq_right, exists_eq_right', exists_eq', exists_eq, true_and, and_true, and_assoc, decide_eq_true_eq, Int.reduceLT, and_self, Z.rIxH, Z.rIxU, Z.at30, Z.at31, Z.at32, Z.ix3_0, Z.ix3_1, Z.ix3_2, L2.rSetL, L2.gSub, Z.gTupH, L2.gCons, L2.gNil, L2.HO.lst.injEq, L2.HO.tup.injEq, L2.upd_same, L2.upd_upd, L2.tSl, L2.tNoPart, L2.tPart, L2.rSlL, L2.rCat, List.length_append, or_false, false_or, or_true, true_or, reduceCtorEq, false_and, and_false, exists_false, Int.reduceNeg, Int.reducePow, Int.reduceToNat, Int.reduceAbs, Int.reduceLE, Int.reduceMul, Int.reduceAdd, Int.reduceSub, Nat.reducePow, Nat.reduceLT, Nat.reduceLeDiff, Int.natAbs_natCast, if_true, if_false, Z.rIsN, Z.tyN, Z.kit_ii, Z.kit_bi, Z.kit_si, Z.kit_ni, Z.kit_ib, Z.kit_bb, Z.kit_sb, Z.kit_nb, Z.kit_is, Z.kit_bs, Z.kit_ss, Z.kit_ns, Bool.not_true, Bool.not_false, L2.tTup, L2.tLst, L2.wipe, L2.tYes, Z.Turn1, L2.tNever, sizeLine_eq, Z.rInU, Z.rInH, L2.flatV, List.any_cons, List.any_nil, List.all_cons, List.all_nil, Bool.and_true, Bool.true_and, Bool.or_false, Bool.false_or, Z.tBML, L2.rAppend, Z.map_int_inj, Z.map_bl_inj, Z.rTupL, Z.rLstL, Z.rLstT, Z.rSortI, Z.rAnyH, Z.rAllH, Z.rSumH, Z.rLenL, Z.rLenU, List.length_map, L2.tPar, Z.tCallK0, List.getD_cons_zero, List.getD_cons_succ, kind_eq]
    refine z_seq ?_
    refine lc_rngO (H1 := H) (n := n - 1) (intO fun k => pairO (mm (personAt r n e k) (personAt r n e (k + 1)))) (fun R h => ?_) (by omega) (fun k hk H1 s1 => ?_) fun D H1 as hD s1 e1 pr => ?_
    · simp only [L2.start, List.map_cons, List.map_nil, List.length_cons, List.length_nil, Nat.zero_add, Nat.reduceAdd, Nat.reduceSub, List.replicate_succ, List.replicate_zero, List.cons_append, List.nil_append, List.append_nil, L2.tNext, L2.tAsg, L2.gName, L2.tRet, L2.tRetN, L2.tIfS, L2.tVar, L2.tC, L2.tOp, L2.tUn, L2.rI, L2.rI0, L2.rU, L2.rEq, L2.rNe, L2.tTest, L2.tB, L2.tIf, Z.tIfCI, Z.tIfCS, L2.tChain, L2.tCons, L2.tNil, L2.tCall, L2.tDrop, L2.tAndV, L2.tOrV, L2.tNotV, L2.tAnd, L2.tOr, L2.tNot, L2.tCB, Z.sc_ii, Z.sc_ss, Z.sc_bb, Z.sc_is, Z.sc_si, Z.sc_ni, Z.sc_in, Z.sc_ns, Z.sc_sn, Z.sc_nn, L2.CDiv, L2.CPow, L2.CMul, List.getElem?_cons_zero, List.getElem?_cons_succ, Z.set_z, Z.set_s, Option.some.injEq, L2.V.int.injEq, L2.V.bl.injEq, L2.V.str.injEq, L2.V.ref.injEq, L2.V.ty.injEq, List.cons.injEq, exists_eq_left', exists_and_left, exists_eq_left, exists_eq_right, exists_eq_right', exists_eq', exists_eq, true_and, and_true, and_assoc, decide_eq_true_eq, Int.reduceLT, and_self, Z.rIxH, Z.rIxU, Z.at30, Z.at31, Z.at32, Z.ix3_0, Z.ix3_1, Z.ix3_2, L2.rSetL, L2.gSub, Z.gTupH, L2.gCons, L2.gNil, L2.HO.lst.injEq, L2.HO.tup.injEq, L2.upd_same, L2.upd_upd, L2.tSl, L2.tNoPart, L2.tPart, L2.rSlL, L2.rCat, List.length_append, or_false, false_or, or_true, true_or, reduceCtorEq, false_and, and_false, exists_false, Int.reduceNeg, Int.reducePow, Int.reduceToNat, Int.reduceAbs, Int.reduceLE, Int.reduceMul, Int.reduceAdd, Int.reduceSub, Nat.reducePow, Nat.reduceLT, Nat.reduceLeDiff, Int.natAbs_natCast, if_true, if_false, Z.rIsN, Z.tyN, Z.kit_ii, Z.kit_bi, Z.kit_si, Z.kit_ni, Z.kit_ib, Z.kit_bb, Z.kit_sb, Z.kit_nb, Z.kit_is, Z.kit_bs, Z.kit_ss, Z.kit_ns, Bool.not_true, Bool.not_false, L2.tTup, L2.tLst, L2.wipe, L2.tYes, Z.Turn1, L2.tNever, sizeLine_eq, Z.rInU, Z.rInH, L2.flatV, List.any_cons, List.any_nil, List.all_cons, List.all_nil, Bool.and_true, Bool.true_and, Bool.or_false, Bool.false_or, Z.tBML, L2.rAppend, Z.map_int_inj, Z.map_bl_inj, Z.rTupL, Z.rLstL, Z.rLstT, Z.rSortI, Z.rAnyH, Z.rAllH, Z.rSumH, Z.rLenL, Z.rLenU, List.length_map, L2.tPar, Z.tCallK0, List.getD_cons_zero, List.getD_cons_succ]
      refine ⟨_, ha, ?_⟩
      rw [List.length_map, evL_len, show ((n.toNat : Nat) : Int) = n by omega]
      exact h
    · intro Y N hY hN
      have ha1 := s1 _ _ ha
      have i1 := evL_at (r := r) (e := e) (show 0 ≤ (k : Int) by omega) (show (k : Int) < n by omega)
      have i2 := evL_at (r := r) (e := e) (show 0 ≤ (k : Int) + 1 by omega) (show (k : Int) + 1 < n by omega)
      simp only [L2.start, List.map_cons, List.map_nil, List.length_cons, List.length_nil, Nat.zero_add, Nat.reduceAdd, Nat.reduceSub, List.replicate_succ, List.replicate_zero, List.cons_append, List.nil_append, List.append_nil, L2.tNext, L2.tAsg, L2.gName, L2.tRet, L2.tRetN, L2.tIfS, L2.tVar, L2.tC, L2.tOp, L2.tUn, L2.rI, L2.rI0, L2.rU, L2.rEq, L2.rNe, L2.tTest, L2.tB, L2.tIf, Z.tIfCI, Z.tIfCS, L2.tChain, L2.tCons, L2.tNil, L2.tCall, L2.tDrop, L2.tAndV, L2.tOrV, L2.tNotV, L2.tAnd, L2.tOr, L2.tNot, L2.tCB, Z.sc_ii, Z.sc_ss, Z.sc_bb, Z.sc_is, Z.sc_si, Z.sc_ni, Z.sc_in, Z.sc_ns, Z.sc_sn, Z.sc_nn, L2.CDiv, L2.CPow, L2.CMul, List.getElem?_cons_zero, List.getElem?_cons_succ, Z.set_z, Z.set_s, Option.some.injEq, L2.V.int.injEq, L2.V.bl.injEq, L2.V.str.injEq, L2.V.ref.injEq, L2.V.ty.injEq, List.cons.injEq, exists_eq_left', exists_and_left, exists_eq_left, exists_eq_right, exists_eq_right', exists_eq', exists_eq, true_and, and_true, and_assoc, decide_eq_true_eq, Int.reduceLT, and_self, Z.rIxH, Z.rIxU, Z.at30, Z.at31, Z.at32, Z.ix3_0, Z.ix3_1, Z.ix3_2, L2.rSetL, L2.gSub, Z.gTupH, L2.gCons, L2.gNil, L2.HO.lst.injEq, L2.HO.tup.injEq, L2.upd_same, L2.upd_upd, L2.tSl, L2.tNoPart, L2.tPart, L2.rSlL, L2.rCat, List.length_append, or_false, false_or, or_true, true_or, reduceCtorEq, false_and, and_false, exists_false, Int.reduceNeg, Int.reducePow, Int.reduceToNat, Int.reduceAbs, Int.reduceLE, Int.reduceMul, Int.reduceAdd, Int.reduceSub, Nat.reducePow, Nat.reduceLT, Nat.reduceLeDiff, Int.natAbs_natCast, if_true, if_false, Z.rIsN, Z.tyN, Z.kit_ii, Z.kit_bi, Z.kit_si, Z.kit_ni, Z.kit_ib, Z.kit_bb, Z.kit_sb, Z.kit_nb, Z.kit_is, Z.kit_bs, Z.kit_ss, Z.kit_ns, Bool.not_true, Bool.not_false, L2.tTup, L2.tLst, L2.wipe, L2.tYes, Z.Turn1, L2.tNever, sizeLine_eq, Z.rInU, Z.rInH, L2.flatV, List.any_cons, List.any_nil, List.all_cons, List.all_nil, Bool.and_true, Bool.true_and, Bool.or_false, Bool.false_or, Z.tBML, L2.rAppend, Z.map_int_inj, Z.map_bl_inj, Z.rTupL, Z.rLstL, Z.rLstT, Z.rSortI, Z.rAnyH, Z.rAllH, Z.rSumH, Z.rLenL, Z.rLenU, List.length_map, L2.tPar, Z.tCallK0, List.getD_cons_zero, List.getD_cons_succ]
      refine ⟨_, ha1, _, i1, _, ha1, _, i2, _, rfl, _, rfl, _, ha1, _, i1, _, ha1, _, i2, _, rfl, _, rfl, fun p hp => ?_⟩
      exact hY _ p _ rfl hp (same_new hp) upd_same
    · have e2 : (upto (n - 1)).filterMap (intO fun k => pairO (mm (personAt r n e k) (personAt r n e (k + 1)))) = ((ups (n - 1)).map fun k => mm (personAt r n e k) (personAt r n e (k + 1))).map pairO := by
        rw [upto_ups, fm_intO, List.map_map]
        rfl
      rw [e2] at pr
      have pr := prs_of pr
      simp only [L2.start, List.map_cons, List.map_nil, List.length_cons, List.length_nil, Nat.zero_add, Nat.reduceAdd, Nat.reduceSub, List.replicate_succ, List.replicate_zero, List.cons_append, List.nil_append, List.append_nil, L2.tNext, L2.tAsg, L2.gName, L2.tRet, L2.tRetN, L2.tIfS, L2.tVar, L2.tC, L2.tOp, L2.tUn, L2.rI, L2.rI0, L2.rU, L2.rEq, L2.rNe, L2.tTest, L2.tB, L2.tIf, Z.tIfCI, Z.tIfCS, L2.tChain, L2.tCons, L2.tNil, L2.tCall, L2.tDrop, L2.tAndV, L2.tOrV, L2.tNotV, L2.tAnd, L2.tOr, L2.tNot, L2.tCB, Z.sc_ii, Z.sc_ss, Z.sc_bb, Z.sc_is, Z.sc_si, Z.sc_ni, Z.sc_in, Z.sc_ns, Z.sc_sn, Z.sc_nn, L2.CDiv, L2.CPow, L2.CMul, List.getElem?_cons_zero, List.getElem?_cons_succ, Z.set_z, Z.set_s, Option.some.injEq, L2.V.int.injEq, L2.V.bl.injEq, L2.V.str.injEq, L2.V.ref.injEq, L2.V.ty.injEq, List.cons.injEq, exists_eq_left', exists_and_left, exists_eq_left, exists_eq_right, exists_eq_right', exists_eq', exists_eq, true_and, and_true, and_assoc, decide_eq_true_eq, Int.reduceLT, and_self, Z.rIxH, Z.rIxU, Z.at30, Z.at31, Z.at32, Z.ix3_0, Z.ix3_1, Z.ix3_2, L2.rSetL, L2.gSub, Z.gTupH, L2.gCons, L2.gNil, L2.HO.lst.injEq, L2.HO.tup.injEq, L2.upd_same, L2.upd_upd, L2.tSl, L2.tNoPart, L2.tPart, L2.rSlL, L2.rCat, List.length_append, or_false, false_or, or_true, true_or, reduceCtorEq, false_and, and_false, exists_false, Int.reduceNeg, Int.reducePow, Int.reduceToNat, Int.reduceAbs, Int.reduceLE, Int.reduceMul, Int.reduceAdd, Int.reduceSub, Nat.reducePow, Nat.reduceLT, Nat.reduceLeDiff, Int.natAbs_natCast, if_true, if_false, Z.rIsN, Z.tyN, Z.kit_ii, Z.kit_bi, Z.kit_si, Z.kit_ni, Z.kit_ib, Z.kit_bb, Z.kit_sb, Z.kit_nb, Z.kit_is, Z.kit_bs, Z.kit_ss, Z.kit_ns, Bool.not_true, Bool.not_false, L2.tTup, L2.tLst, L2.wipe, L2.tYes, Z.Turn1, L2.tNever, sizeLine_eq, Z.rInU, Z.rInH, L2.flatV, List.any_cons, List.any_nil, List.all_cons, List.all_nil, Bool.and_true, Bool.true_and, Bool.or_false, Bool.false_or, Z.tBML, L2.rAppend, Z.map_int_inj, Z.map_bl_inj, Z.rTupL, Z.rLstL, Z.rLstT, Z.rSortI, Z.rAnyH, Z.rAllH, Z.rSumH, Z.rLenL, Z.rLenU, List.length_map, L2.tPar, Z.tCallK0, List.getD_cons_zero, List.getD_cons_succ, kind_eq]
      have ha1 := s1 _ _ ha
      have i1 := evL_at (r := r) (e := e) (show 0 ≤ (0 : Int) by omega) (show (0 : Int) < n by omega)
      have i2 := evL_atE (r := r) (n := n) (e := e) (by omega)
      have hl : as.length = (n - 1).toNat := by rw [paired_len pr, List.length_map, ups_len]
      cases r
      · rw [if_neg Bool.false_ne_true]
        refine fun p hp => ⟨_, same_new hp _ _ e1, by rw [List.length_map]; omega, fun p1 hp1 => ?_⟩
        have s2 := s1.trans (same_new (o := .lst []) hp)
        refine q p1 as _ (s2.free hp1) (same_upd s2 (s2.free hp1)) upd_same ?_
        have e3 : nbs false n e = (ups (n - 1)).map fun k => mm (personAt false n e k) (personAt false n e (k + 1)) := by
          unfold nbs
          rw [if_neg Bool.false_ne_true, List.append_nil]
        rw [e3]
        exact prs_same (same_new hp1) (prs_same (same_new hp) pr)
      · rw [if_pos rfl]
        refine ⟨_, ha1, _, i1, _, ha1, _, i2, _, rfl, _, rfl, _, ha1, _, i1, _, ha1, _, i2, _, rfl, _, rfl, fun p hp p1 hp1 => ?_⟩
        have s2 := same_new (o := pairO (mm (personAt true n e 0) (personAt true n e (n - 1)))) hp
        have s3 := s2.trans (same_new (o := .lst [.ref p]) hp1)
        refine ⟨_, s3 _ _ e1, by rw [List.length_map]; omega, fun p2 hp2 => ?_⟩
        have s4 := s1.trans s3
        refine q p2 (as ++ [p]) _ (s4.free hp2) (same_upd s4 (s4.free hp2)) (by rw [upd_same, List.map_append]; rfl) ?_
        have e3 : nbs true n e = ((ups (n - 1)).map fun k => mm (personAt true n e k) (personAt true n e (k + 1))) ++ [mm (personAt true n e 0) (personAt true n e (n - 1))] := by
          unfold nbs
          rw [if_pos rfl]
        rw [e3]
        refine prs_same (same_new hp2) (paired_app (prs_same s3 pr) (.cons ?_ .nil))
        show upd (upd H1 p (pairO (mm (personAt true n e 0) (personAt true n e (n - 1))))) p1 _ p = some (pairO _)
        rw [upd_ne (ne_of_none upd_same hp1), upd_same]
open Zig
theorem sortL {r : Bool} {n k e : Int} (h : SizeIs r n k) (he : 0 ≤ e) (hek : e < k) : (evL r n e).mergeSort = ups n :=
  (perm_sort (evL_perm h he hek).symm ((ups_lt n).imp fun h => Int.le_of_lt h)).symm
theorem rgV_ups (n : Int) : rgV 0 n = (ups n).map V.int := by
  unfold rgV ups
  rw [List.map_map, show n - 0 = n by omega]
  refine List.map_congr_left fun i _ => ?_
  show V.int (0 + (i : Int)) = V.int i
  rw [Int.zero_add]
theorem prs_Lex (n : Int) : Lex (prs n) := (prs_lex n).imp fun h => SrtO.lexB_no.mpr (by omega)
def sp__law_is_party : Sp := fun vs H Q _ => ∃ (r : Bool) (n : Int) (a : Addr) (as : List Addr), vs = [.str (kindS r), .int n, .ref a] ∧ SizeIs r n (nights r n) ∧ n ≤ 60 ∧ H a = some (.tup (as.map V.ref)) ∧ Paired (TupAt H) as (zz r n) ∧ ∀ H', Same H H' → Q (.bl true) H'
theorem ok__law_is_party (T : Env K mg) : Hd P w K mg base CX0 2 "_law_is_party" s__law_is_party ["_law_sort_now", "_law_size", "_law_thing"] sp__law_is_party := by
  have H__law_pairs := ok__law_pairs (P := P) (w := w) (base := base) T
  have H__law_neighbours := ok__law_neighbours (P := P) (w := w) (base := base) T
  have H__law_is_whole := ok__law_is_whole (P := P) (w := w) (base := base) T
  have H__law_nights := ok__law_nights (P := P) (w := w) (base := base) T
  obtain ⟨f, fd, F, hm⟩ := T.d__law_is_party
  refine ⟨⟨f, fd, F, hm, ?_⟩, fun _ _ _ _ _ _ _ us hl => match us, hl with | [_, _, _], _ => rfl⟩
  refine F.ok sc__law_is_party (fun vs H Q E h => ?_) (fun cdv A outer s H vs Q E hr h => ?_)
  · first | (obtain ⟨rfl, _⟩ := h; rfl) | (obtain ⟨_, rfl, _⟩ := h; rfl) | (obtain ⟨_, _, rfl, _⟩ := h; rfl) | (obtain ⟨_, _, _, rfl, _⟩ := h; rfl) | (obtain ⟨_, _, _, _, rfl, _⟩ := h; rfl) | (obtain ⟨_, _, _, _, _, rfl, _⟩ := h; rfl) | (obtain ⟨_, _, _, _, _, _, rfl, _⟩ := h; rfl) | (obtain ⟨_, _, _, _, _, _, _, rfl, _⟩ := h; rfl) | (obtain ⟨_, _, _, _, _, _, _, _, rfl, _⟩ := h; rfl)
  · obtain ⟨r, n, a, as, rfl, hs, hn, ha, pr, q⟩ := h
    have hu := hu_of hr
    refine ⟨_, pss_cons (ps_if (PW.pt (pw_or (pt_not (pt_val (pe_callB call_isN rfl T.b_isinstance (by decide +kernel) (pa_cons (pv 2) (pa_cons (pe_bltn (v := .ty "tuple") (by rfl) T.b_tuple (by decide +kernel) rfl) pa_nil))))) (pw_or1 (pt_cmpR op_ne (pe_callB call_lenU rfl T.b_len (by decide +kernel) (pa_cons (pv 2) pa_nil)) (pe_hd H__law_nights (hr.mono (by decide)) rfl pass0 (pa_cons (pv 0) (pa_cons (pv 1) pa_nil))) (nomark _))))) (pss_one (ps_ret pe_bl))
      (pss_nil))
      (pss_cons (ps_set (i := 3) sc__law_is_party.nd rfl (by first | exact .inl rfl | exact .inr rfl) (pe_lst pa_nil))
      (pss_cons (ps_for PassesOwn.never rfl (pi_tup (pv 2)) (pg_name (i := 4) sc__law_is_party.nd rfl (by first | exact .inl rfl | exact .inr rfl))
      (pss_cons (ps_if (PW.pt (pw_or (pt_not (pt_val (pe_callB call_isN rfl T.b_isinstance (by decide +kernel) (pa_cons (pv 4) (pa_cons (pe_bltn (v := .ty "tuple") (by rfl) T.b_tuple (by decide +kernel) rfl) pa_nil))))) (pw_or1 (pt_cmpR op_ne (pe_callB call_lenU rfl T.b_len (by decide +kernel) (pa_cons (pv 4) pa_nil)) (pv 1) (nomark _))))) (pss_one (ps_ret pe_bl))
      (pss_nil))
      (pss_cons (ps_if (PW.pt (pw_or (pt_not (pt_val (pe_callB (cr_allH rfl) rfl T.b_all (by decide +kernel) (pa_cons (pe_lc (own := [("_law_each", 5)]) (g := (gName 5)) (tt := tYes) rfl sc__law_is_party.nd (pi_tup (pv 4)) (blkOk_by (own := [("_law_each", 5)]) (N := N__law_is_party) (sc := defScope s__law_is_party) (by decide +kernel)) (fun _ _ _ _ _ => pg_name (i := 5) sc__law_is_party.nd rfl (by first | exact .inl rfl | exact .inr rfl)) (fun _ _ _ _ _ => pts_nil) (fun _ _ _ _ _ => (pe_hd H__law_is_whole (hr.mono (by decide)) rfl pass0 (pa_cons (pv 5) (pa_cons pe_int (pa_cons (pe_op op_sub (pv 1) pe_int) pa_nil)))))) pa_nil)))) (pw_or1 (pt_cmpR (op_neD hr.units) (pe_callB cr_sortedTup rfl T.b_sorted (by decide +kernel) (pa_cons (pv 4) pa_nil)) (pe_listRg rfl rfl T.b_list (prg_1 rfl T.b_range (pv 1))) (nomark _))))) (pss_one (ps_ret pe_bl))
      (pss_nil))
      (pss_one (ps_set (i := 3) sc__law_is_party.nd rfl (by first | exact .inl rfl | exact .inr rfl) (pe_op op_cat (pv 3) (pe_hd H__law_neighbours (hr.mono (by decide)) rfl pass0 (pa_cons (pv 0) (pa_cons (pv 4) pa_nil)))))))))
      (pss_one (ps_ret (pe_cmpR (op_eqD hr.units) (pe_callB cr_sortedPr rfl T.b_sorted (by decide +kernel) (pa_cons (pv 3) pa_nil)) (pe_hd H__law_pairs (hr.mono (by decide)) rfl pass0 (pa_cons (pv 1) pa_nil)) (nomark _)))))), ?_⟩
    simp only [L2.start, List.map_cons, List.map_nil, List.length_cons, List.length_nil, Nat.zero_add, Nat.reduceAdd, Nat.reduceSub, List.replicate_succ, List.replicate_zero, List.cons_append, List.nil_append, List.append_nil, L2.tNext, L2.tAsg, L2.gName, L2.tRet, L2.tRetN, L2.tIfS, L2.tVar, L2.tC, L2.tOp, L2.tUn, L2.rI, L2.rI0, L2.rU, L2.rEq, L2.rNe, L2.tTest, L2.tB, L2.tIf, Z.tIfCI, Z.tIfCS, L2.tChain, L2.tCons, L2.tNil, L2.tCall, L2.tDrop, L2.tAndV, L2.tOrV, L2.tNotV, L2.tAnd, L2.tOr, L2.tNot, L2.tCB, Z.sc_ii, Z.sc_ss, Z.sc_bb, Z.sc_is, Z.sc_si, Z.sc_ni, Z.sc_in, Z.sc_ns, Z.sc_sn, Z.sc_nn, L2.CDiv, L2.CPow, L2.CMul, List.getElem?_cons_zero, List.getElem?_cons_succ, Z.set_z, Z.set_s, Option.some.injEq, L2.V.int.injEq, L2.V.bl.injEq, L2.V.str.injEq, L2.V.ref.injEq, L2.V.ty.injEq, List.cons.injEq, exists_eq_left', exists_and_left, exists_eq_left, exists_eq_right, exists_eq_right', exists_eq', exists_eq, true_and, and_true, and_assoc, decide_eq_true_eq, Int.reduceLT, and_self, Z.rIxH, Z.rIxU, Z.at30, Z.at31, Z.at32, Z.ix3_0, Z.ix3_1, Z.ix3_2, L2.rSetL, L2.gSub, Z.gTupH, L2.gCons, L2.gNil, L2.HO.lst.injEq, L2.HO.tup.injEq, L2.upd_same, L2.upd_upd, L2.tSl, L2.tNoPart, L2.tPart, L2.rSlL, L2.rCat, List.length_append, or_false, false_or, or_true, true_or, reduceCtorEq, false_and, and_false, exists_false, Int.reduceNeg, Int.reducePow, Int.reduceToNat, Int.reduceAbs, Int.reduceLE, Int.reduceMul, Int.reduceAdd, Int.reduceSub, Nat.reducePow, Nat.reduceLT, Nat.reduceLeDiff, Int.natAbs_natCast, if_true, if_false, Z.tyN, Z.kit_ii, Z.kit_bi, Z.kit_si, Z.kit_ni, Z.kit_ib, Z.kit_bb, Z.kit_sb, Z.kit_nb, Z.kit_is, Z.kit_bs, Z.kit_ss, Z.kit_ns, Bool.not_true, Bool.not_false, L2.tTup, L2.tLst, L2.wipe, L2.tYes, Z.Turn1, L2.tNever, sizeLine_eq, Z.rInU, Z.rInH, L2.flatV, List.any_cons, List.any_nil, List.all_cons, List.all_nil, Bool.and_true, Bool.true_and, Bool.or_false, Bool.false_or, Z.tBML, L2.rAppend, Z.map_int_inj, Z.map_bl_inj, Z.rTupL, Z.rLstL, Z.rLstT, Z.rSortI, Z.rAnyH, Z.rAllH, Z.rSumH, Z.rLenL, Z.rLenU, List.length_map, L2.tPar, Z.tCallK0, List.getD_cons_zero, List.getD_cons_succ, sp__law_pairs, sp__law_neighbours, sp__law_is_whole, sp__law_nights]
    refine z_seq ?_
    simp only [L2.start, List.map_cons, List.map_nil, List.length_cons, List.length_nil, Nat.zero_add, Nat.reduceAdd, Nat.reduceSub, List.replicate_succ, List.replicate_zero, List.cons_append, List.nil_append, List.append_nil, L2.tNext, L2.tAsg, L2.gName, L2.tRet, L2.tRetN, L2.tIfS, L2.tVar, L2.tC, L2.tOp, L2.tUn, L2.rI, L2.rI0, L2.rU, L2.rEq, L2.rNe, L2.tTest, L2.tB, L2.tIf, Z.tIfCI, Z.tIfCS, L2.tChain, L2.tCons, L2.tNil, L2.tCall, L2.tDrop, L2.tAndV, L2.tOrV, L2.tNotV, L2.tAnd, L2.tOr, L2.tNot, L2.tCB, Z.sc_ii, Z.sc_ss, Z.sc_bb, Z.sc_is, Z.sc_si, Z.sc_ni, Z.sc_in, Z.sc_ns, Z.sc_sn, Z.sc_nn, L2.CDiv, L2.CPow, L2.CMul, List.getElem?_cons_zero, List.getElem?_cons_succ, Z.set_z, Z.set_s, Option.some.injEq, L2.V.int.injEq, L2.V.bl.injEq, L2.V.str.injEq, L2.V.ref.injEq, L2.V.ty.injEq, List.cons.injEq, exists_eq_left', exists_and_left, exists_eq_left, exists_eq_right, exists_eq_right', exists_eq', exists_eq, true_and, and_true, and_assoc, decide_eq_true_eq, Int.reduceLT, and_self, Z.rIxH, Z.rIxU, Z.at30, Z.at31, Z.at32, Z.ix3_0, Z.ix3_1, Z.ix3_2, L2.rSetL, L2.gSub, Z.gTupH, L2.gCons, L2.gNil, L2.HO.lst.injEq, L2.HO.tup.injEq, L2.upd_same, L2.upd_upd, L2.tSl, L2.tNoPart, L2.tPart, L2.rSlL, L2.rCat, List.length_append, or_false, false_or, or_true, true_or, reduceCtorEq, false_and, and_false, exists_false, Int.reduceNeg, Int.reducePow, Int.reduceToNat, Int.reduceAbs, Int.reduceLE, Int.reduceMul, Int.reduceAdd, Int.reduceSub, Nat.reducePow, Nat.reduceLT, Nat.reduceLeDiff, Int.natAbs_natCast, if_true, if_false, Z.tyN, Z.kit_ii, Z.kit_bi, Z.kit_si, Z.kit_ni, Z.kit_ib, Z.kit_bb, Z.kit_sb, Z.kit_nb, Z.kit_is, Z.kit_bs, Z.kit_ss, Z.kit_ns, Bool.not_true, Bool.not_false, L2.tTup, L2.tLst, L2.wipe, L2.tYes, Z.Turn1, L2.tNever, sizeLine_eq, Z.rInU, Z.rInH, L2.flatV, List.any_cons, List.any_nil, List.all_cons, List.all_nil, Bool.and_true, Bool.true_and, Bool.or_false, Bool.false_or, Z.tBML, L2.rAppend, Z.map_int_inj, Z.map_bl_inj, Z.rTupL, Z.rLstL, Z.rLstT, Z.rSortI, Z.rAnyH, Z.rAllH, Z.rSumH, Z.rLenL, Z.rLenU, List.length_map, L2.tPar, Z.tCallK0, List.getD_cons_zero, List.getD_cons_succ, sp__law_pairs, sp__law_neighbours, sp__law_is_whole, sp__law_nights]
    have hz2 := size_two hs
    have hla : as.length = (nights r n).toNat := by rw [paired_len pr]; unfold zz; rw [List.length_map, ups_len]
    have hk := nights_le (r := r) (n := n) (by omega)
    refine isN_tup ha ⟨true, rfl, ?_⟩
    rw [if_neg (by decide)]
    refine ⟨_, ha, r, rfl, ?_⟩
    have e0 : decide (((as.map V.ref).length : Int) = nights r n) = true := decide_eq_true (by rw [List.length_map, hla]; omega)
    rw [e0, if_neg (by decide)]
    refine z_seq ?_
    simp only [L2.start, List.map_cons, List.map_nil, List.length_cons, List.length_nil, Nat.zero_add, Nat.reduceAdd, Nat.reduceSub, List.replicate_succ, List.replicate_zero, List.cons_append, List.nil_append, List.append_nil, L2.tNext, L2.tAsg, L2.gName, L2.tRet, L2.tRetN, L2.tIfS, L2.tVar, L2.tC, L2.tOp, L2.tUn, L2.rI, L2.rI0, L2.rU, L2.rEq, L2.rNe, L2.tTest, L2.tB, L2.tIf, Z.tIfCI, Z.tIfCS, L2.tChain, L2.tCons, L2.tNil, L2.tCall, L2.tDrop, L2.tAndV, L2.tOrV, L2.tNotV, L2.tAnd, L2.tOr, L2.tNot, L2.tCB, Z.sc_ii, Z.sc_ss, Z.sc_bb, Z.sc_is, Z.sc_si, Z.sc_ni, Z.sc_in, Z.sc_ns, Z.sc_sn, Z.sc_nn, L2.CDiv, L2.CPow, L2.CMul, List.getElem?_cons_zero, List.getElem?_cons_succ, Z.set_z, Z.set_s, Option.some.injEq, L2.V.int.injEq, L2.V.bl.injEq, L2.V.str.injEq, L2.V.ref.injEq, L2.V.ty.injEq, List.cons.injEq, exists_eq_left', exists_and_left, exists_eq_left, exists_eq_right, exists_eq_right', exists_eq', exists_eq, true_and, and_true, and_assoc, decide_eq_true_eq, Int.reduceLT, and_self, Z.rIxH, Z.rIxU, Z.at30, Z.at31, Z.at32, Z.ix3_0, Z.ix3_1, Z.ix3_2, L2.rSetL, L2.gSub, Z.gTupH, L2.gCons, L2.gNil, L2.HO.lst.injEq, L2.HO.tup.injEq, L2.upd_same, L2.upd_upd, L2.tSl, L2.tNoPart, L2.tPart, L2.rSlL, L2.rCat, List.length_append, or_false, false_or, or_true, true_or, reduceCtorEq, false_and, and_false, exists_false, Int.reduceNeg, Int.reducePow, Int.reduceToNat, Int.reduceAbs, Int.reduceLE, Int.reduceMul, Int.reduceAdd, Int.reduceSub, Nat.reducePow, Nat.reduceLT, Nat.reduceLeDiff, Int.natAbs_natCast, if_true, if_false, Z.rIsN, Z.tyN, Z.kit_ii, Z.kit_bi, Z.kit_si, Z.kit_ni, Z.kit_ib, Z.kit_bb, Z.kit_sb, Z.kit_nb, Z.kit_is, Z.kit_bs, Z.kit_ss, Z.kit_ns, Bool.not_true, Bool.not_false, L2.tTup, L2.tLst, L2.wipe, L2.tYes, Z.Turn1, L2.tNever, sizeLine_eq, Z.rInU, Z.rInH, L2.flatV, List.any_cons, List.any_nil, List.all_cons, List.all_nil, Bool.and_true, Bool.true_and, Bool.or_false, Bool.false_or, Z.tBML, L2.rAppend, Z.map_int_inj, Z.map_bl_inj, Z.rTupL, Z.rLstL, Z.rLstT, Z.rSortI, Z.rAnyH, Z.rAllH, Z.rSumH, Z.rLenL, Z.rLenU, List.length_map, L2.tPar, Z.tCallK0, List.getD_cons_zero, List.getD_cons_succ, sp__law_pairs, sp__law_neighbours, sp__law_is_whole, sp__law_nights]
    intro D0 hD0
    refine z_seq ?_
    refine Z.for_tup (a := a) (xs := as.map V.ref) (fun R h => ⟨_, rfl, h⟩) (fun i σ H' => ∃ v4 v5 D bs, σ = [some (.str (kindS r)), some (.int n), some (.ref a), some (.ref D), v4, v5] ∧ Same H H' ∧ H D = none ∧ H' D = some (.lst (bs.map V.ref)) ∧ bs.length ≤ i * 100 ∧ Paired (PairAt H') bs ((ups i).flatMap (nbs r n))) ⟨_, _, D0, [], rfl, same_new hD0, hD0, upd_same, Nat.zero_le _, .nil⟩ (fun _ _ _ h => by obtain ⟨_, _, _, _, _, h, _⟩ := h; exact SqT.of (h _ _ ha)) ?_ ?_
    · rintro i x σ H0 hix ⟨v4, v5, D, bs, rfl, s0, hD, eD, hl, pb⟩ N hN
      rw [List.getElem?_map] at hix
      obtain ⟨t, ht, rfl⟩ := Option.map_eq_some_iff.mp hix
      have hi : i < as.length := (List.getElem?_eq_some_iff.mp ht).1
      obtain ⟨l, hl1, hl2⟩ := Z.paired_get pr ht
      have el : l = evL r n i := by
        unfold zz at hl1
        rw [List.getElem?_map, ups_get (by omega)] at hl1
        exact (Option.some.inj hl1).symm
      subst el
      have t0 := s0 _ _ hl2
      have hne : (evL r n i).length = n.toNat := evL_len r n i
      simp only [L2.start, List.map_cons, List.map_nil, List.length_cons, List.length_nil, Nat.zero_add, Nat.reduceAdd, Nat.reduceSub, List.replicate_succ, List.replicate_zero, List.cons_append, List.nil_append, List.append_nil, L2.tNext, L2.tAsg, L2.gName, L2.tRet, L2.tRetN, L2.tIfS, L2.tVar, L2.tC, L2.tOp, L2.tUn, L2.rI, L2.rI0, L2.rU, L2.rEq, L2.rNe, L2.tTest, L2.tB, L2.tIf, Z.tIfCI, Z.tIfCS, L2.tChain, L2.tCons, L2.tNil, L2.tCall, L2.tDrop, L2.tAndV, L2.tOrV, L2.tNotV, L2.tAnd, L2.tOr, L2.tNot, L2.tCB, Z.sc_ii, Z.sc_ss, Z.sc_bb, Z.sc_is, Z.sc_si, Z.sc_ni, Z.sc_in, Z.sc_ns, Z.sc_sn, Z.sc_nn, L2.CDiv, L2.CPow, L2.CMul, List.getElem?_cons_zero, List.getElem?_cons_succ, Z.set_z, Z.set_s, Option.some.injEq, L2.V.int.injEq, L2.V.bl.injEq, L2.V.str.injEq, L2.V.ref.injEq, L2.V.ty.injEq, List.cons.injEq, exists_eq_left', exists_and_left, exists_eq_left, exists_eq_right, exists_eq_right', exists_eq', exists_eq, true_and, and_true, and_assoc, decide_eq_true_eq, Int.reduceLT, and_self, Z.rIxH, Z.rIxU, Z.at30, Z.at31, Z.at32, Z.ix3_0, Z.ix3_1, Z.ix3_2, L2.rSetL, L2.gSub, Z.gTupH, L2.gCons, L2.gNil, L2.HO.lst.injEq, L2.HO.tup.injEq, L2.upd_same, L2.upd_upd, L2.tSl, L2.tNoPart, L2.tPart, L2.rSlL, L2.rCat, List.length_append, or_false, false_or, or_true, true_or, reduceCtorEq, false_and, and_false, exists_false, Int.reduceNeg, Int.reducePow, Int.reduceToNat, Int.reduceAbs, Int.reduceLE, Int.reduceMul, Int.reduceAdd, Int.reduceSub, Nat.reducePow, Nat.reduceLT, Nat.reduceLeDiff, Int.natAbs_natCast, if_true, if_false, Z.tyN, Z.kit_ii, Z.kit_bi, Z.kit_si, Z.kit_ni, Z.kit_ib, Z.kit_bb, Z.kit_sb, Z.kit_nb, Z.kit_is, Z.kit_bs, Z.kit_ss, Z.kit_ns, Bool.not_true, Bool.not_false, L2.tTup, L2.tLst, L2.wipe, L2.tYes, Z.Turn1, L2.tNever, sizeLine_eq, Z.rInU, Z.rInH, L2.flatV, List.any_cons, List.any_nil, List.all_cons, List.all_nil, Bool.and_true, Bool.true_and, Bool.or_false, Bool.false_or, Z.tBML, L2.rAppend, Z.map_int_inj, Z.map_bl_inj, Z.rTupL, Z.rLstL, Z.rLstT, Z.rSortI, Z.rAnyH, Z.rAllH, Z.rSumH, Z.rLenL, Z.rLenU, List.length_map, L2.tPar, Z.tCallK0, List.getD_cons_zero, List.getD_cons_succ, sp__law_pairs, sp__law_neighbours, sp__law_is_whole, sp__law_nights]
      refine z_seq ?_
      simp only [L2.start, List.map_cons, List.map_nil, List.length_cons, List.length_nil, Nat.zero_add, Nat.reduceAdd, Nat.reduceSub, List.replicate_succ, List.replicate_zero, List.cons_append, List.nil_append, List.append_nil, L2.tNext, L2.tAsg, L2.gName, L2.tRet, L2.tRetN, L2.tIfS, L2.tVar, L2.tC, L2.tOp, L2.tUn, L2.rI, L2.rI0, L2.rU, L2.rEq, L2.rNe, L2.tTest, L2.tB, L2.tIf, Z.tIfCI, Z.tIfCS, L2.tChain, L2.tCons, L2.tNil, L2.tCall, L2.tDrop, L2.tAndV, L2.tOrV, L2.tNotV, L2.tAnd, L2.tOr, L2.tNot, L2.tCB, Z.sc_ii, Z.sc_ss, Z.sc_bb, Z.sc_is, Z.sc_si, Z.sc_ni, Z.sc_in, Z.sc_ns, Z.sc_sn, Z.sc_nn, L2.CDiv, L2.CPow, L2.CMul, List.getElem?_cons_zero, List.getElem?_cons_succ, Z.set_z, Z.set_s, Option.some.injEq, L2.V.int.injEq, L2.V.bl.injEq, L2.V.str.injEq, L2.V.ref.injEq, L2.V.ty.injEq, List.cons.injEq, exists_eq_left', exists_and_left, exists_eq_left, exists_eq_right, exists_eq_right', exists_eq', exists_eq, true_and, and_true, and_assoc, decide_eq_true_eq, Int.reduceLT, and_self, Z.rIxH, Z.rIxU, Z.at30, Z.at31, Z.at32, Z.ix3_0, Z.ix3_1, Z.ix3_2, L2.rSetL, L2.gSub, Z.gTupH, L2.gCons, L2.gNil, L2.HO.lst.injEq, L2.HO.tup.injEq, L2.upd_same, L2.upd_upd, L2.tSl, L2.tNoPart, L2.tPart, L2.rSlL, L2.rCat, List.length_append, or_false, false_or, or_true, true_or, reduceCtorEq, false_and, and_false, exists_false, Int.reduceNeg, Int.reducePow, Int.reduceToNat, Int.reduceAbs, Int.reduceLE, Int.reduceMul, Int.reduceAdd, Int.reduceSub, Nat.reducePow, Nat.reduceLT, Nat.reduceLeDiff, Int.natAbs_natCast, if_true, if_false, Z.tyN, Z.kit_ii, Z.kit_bi, Z.kit_si, Z.kit_ni, Z.kit_ib, Z.kit_bb, Z.kit_sb, Z.kit_nb, Z.kit_is, Z.kit_bs, Z.kit_ss, Z.kit_ns, Bool.not_true, Bool.not_false, L2.tTup, L2.tLst, L2.wipe, L2.tYes, Z.Turn1, L2.tNever, sizeLine_eq, Z.rInU, Z.rInH, L2.flatV, List.any_cons, List.any_nil, List.all_cons, List.all_nil, Bool.and_true, Bool.true_and, Bool.or_false, Bool.false_or, Z.tBML, L2.rAppend, Z.map_int_inj, Z.map_bl_inj, Z.rTupL, Z.rLstL, Z.rLstT, Z.rSortI, Z.rAnyH, Z.rAllH, Z.rSumH, Z.rLenL, Z.rLenU, List.length_map, L2.tPar, Z.tCallK0, List.getD_cons_zero, List.getD_cons_succ, sp__law_pairs, sp__law_neighbours, sp__law_is_whole, sp__law_nights]
      refine isN_tup t0 ⟨true, rfl, ?_⟩
      rw [if_neg (by decide)]
      refine ⟨_, t0, ?_⟩
      have e1 : decide ((((evL r n i).map V.int).length : Int) = n) = true := decide_eq_true (by rw [List.length_map, hne]; omega)
      rw [e1, if_neg (by decide)]
      refine z_seq ?_
      simp only [L2.start, List.map_cons, List.map_nil, List.length_cons, List.length_nil, Nat.zero_add, Nat.reduceAdd, Nat.reduceSub, List.replicate_succ, List.replicate_zero, List.cons_append, List.nil_append, List.append_nil, L2.tNext, L2.tAsg, L2.gName, L2.tRet, L2.tRetN, L2.tIfS, L2.tVar, L2.tC, L2.tOp, L2.tUn, L2.rI, L2.rI0, L2.rU, L2.rEq, L2.rNe, L2.tTest, L2.tB, L2.tIf, Z.tIfCI, Z.tIfCS, L2.tChain, L2.tCons, L2.tNil, L2.tCall, L2.tDrop, L2.tAndV, L2.tOrV, L2.tNotV, L2.tAnd, L2.tOr, L2.tNot, L2.tCB, Z.sc_ii, Z.sc_ss, Z.sc_bb, Z.sc_is, Z.sc_si, Z.sc_ni, Z.sc_in, Z.sc_ns, Z.sc_sn, Z.sc_nn, L2.CDiv, L2.CPow, L2.CMul, List.getElem?_cons_zero, List.getElem?_cons_succ, Z.set_z, Z.set_s, Option.some.injEq, L2.V.int.injEq, L2.V.bl.injEq, L2.V.str.injEq, L2.V.ref.injEq, L2.V.ty.injEq, List.cons.injEq, exists_eq_left', exists_and_left, exists_eq_left, exists_eq_right, exists_eq_right', exists_eq', exists_eq, true_and, and_true, and_assoc, decide_eq_true_eq, Int.reduceLT, and_self, Z.rIxH, Z.rIxU, Z.at30, Z.at31, Z.at32, Z.ix3_0, Z.ix3_1, Z.ix3_2, L2.rSetL, L2.gSub, Z.gTupH, L2.gCons, L2.gNil, L2.HO.lst.injEq, L2.HO.tup.injEq, L2.upd_same, L2.upd_upd, L2.tSl, L2.tNoPart, L2.tPart, L2.rSlL, L2.rCat, List.length_append, or_false, false_or, or_true, true_or, reduceCtorEq, false_and, and_false, exists_false, Int.reduceNeg, Int.reducePow, Int.reduceToNat, Int.reduceAbs, Int.reduceLE, Int.reduceMul, Int.reduceAdd, Int.reduceSub, Nat.reducePow, Nat.reduceLT, Nat.reduceLeDiff, Int.natAbs_natCast, if_true, if_false, Z.rIsN, Z.tyN, Z.kit_ii, Z.kit_bi, Z.kit_si, Z.kit_ni, Z.kit_ib, Z.kit_bb, Z.kit_sb, Z.kit_nb, Z.kit_is, Z.kit_bs, Z.kit_ss, Z.kit_ns, Bool.not_true, Bool.not_false, L2.tTup, L2.tLst, L2.wipe, L2.tYes, Z.Turn1, L2.tNever, sizeLine_eq, Z.rInU, Z.rInH, L2.flatV, List.any_cons, List.any_nil, List.all_cons, List.all_nil, Bool.and_true, Bool.true_and, Bool.or_false, Bool.false_or, Z.tBML, L2.rAppend, Z.map_int_inj, Z.map_bl_inj, Z.rTupL, Z.rLstL, Z.rLstT, Z.rSortI, Z.rAnyH, Z.rAllH, Z.rSumH, Z.rLenL, Z.rLenU, List.length_map, L2.tPar, Z.tCallK0, List.getD_cons_zero, List.getD_cons_succ, sp__law_pairs, sp__law_neighbours, sp__law_is_whole, sp__law_nights, Z.rSortTup, L2.tLstRg, L2.tRg1]
      refine lc_mapT (a := t) (xs := (evL r n i).map V.int) (H1 := H0) (fun _ => some (.bl true)) (fun R h => ⟨_, rfl, h⟩) (SqT.of t0) (by rw [List.length_map, hne]; omega) (fun x hx H1 s1 => ?_) fun D1 H1 hD1 s1 e2 => ?_
      · obtain ⟨p, hp, rfl⟩ := mem_ints hx
        have pb := (evL_mem hs (by omega) (by omega) p).mp hp
        intro Y N hY hN
        simp only [L2.start, List.map_cons, List.map_nil, List.length_cons, List.length_nil, Nat.zero_add, Nat.reduceAdd, Nat.reduceSub, List.replicate_succ, List.replicate_zero, List.cons_append, List.nil_append, List.append_nil, L2.tNext, L2.tAsg, L2.gName, L2.tRet, L2.tRetN, L2.tIfS, L2.tVar, L2.tC, L2.tOp, L2.tUn, L2.rI, L2.rI0, L2.rU, L2.rEq, L2.rNe, L2.tTest, L2.tB, L2.tIf, Z.tIfCI, Z.tIfCS, L2.tChain, L2.tCons, L2.tNil, L2.tCall, L2.tDrop, L2.tAndV, L2.tOrV, L2.tNotV, L2.tAnd, L2.tOr, L2.tNot, L2.tCB, Z.sc_ii, Z.sc_ss, Z.sc_bb, Z.sc_is, Z.sc_si, Z.sc_ni, Z.sc_in, Z.sc_ns, Z.sc_sn, Z.sc_nn, L2.CDiv, L2.CPow, L2.CMul, List.getElem?_cons_zero, List.getElem?_cons_succ, Z.set_z, Z.set_s, Option.some.injEq, L2.V.int.injEq, L2.V.bl.injEq, L2.V.str.injEq, L2.V.ref.injEq, L2.V.ty.injEq, List.cons.injEq, exists_eq_left', exists_and_left, exists_eq_left, exists_eq_right, exists_eq_right', exists_eq', exists_eq, true_and, and_true, and_assoc, decide_eq_true_eq, Int.reduceLT, and_self, Z.rIxH, Z.rIxU, Z.at30, Z.at31, Z.at32, Z.ix3_0, Z.ix3_1, Z.ix3_2, L2.rSetL, L2.gSub, Z.gTupH, L2.gCons, L2.gNil, L2.HO.lst.injEq, L2.HO.tup.injEq, L2.upd_same, L2.upd_upd, L2.tSl, L2.tNoPart, L2.tPart, L2.rSlL, L2.rCat, List.length_append, or_false, false_or, or_true, true_or, reduceCtorEq, false_and, and_false, exists_false, Int.reduceNeg, Int.reducePow, Int.reduceToNat, Int.reduceAbs, Int.reduceLE, Int.reduceMul, Int.reduceAdd, Int.reduceSub, Nat.reducePow, Nat.reduceLT, Nat.reduceLeDiff, Int.natAbs_natCast, if_true, if_false, Z.rIsN, Z.tyN, Z.kit_ii, Z.kit_bi, Z.kit_si, Z.kit_ni, Z.kit_ib, Z.kit_bb, Z.kit_sb, Z.kit_nb, Z.kit_is, Z.kit_bs, Z.kit_ss, Z.kit_ns, Bool.not_true, Bool.not_false, L2.tTup, L2.tLst, L2.wipe, L2.tYes, Z.Turn1, L2.tNever, sizeLine_eq, Z.rInU, Z.rInH, L2.flatV, List.any_cons, List.any_nil, List.all_cons, List.all_nil, Bool.and_true, Bool.true_and, Bool.or_false, Bool.false_or, Z.tBML, L2.rAppend, Z.map_int_inj, Z.map_bl_inj, Z.rTupL, Z.rLstL, Z.rLstT, Z.rSortI, Z.rAnyH, Z.rAllH, Z.rSumH, Z.rLenL, Z.rLenU, List.length_map, L2.tPar, Z.tCallK0, List.getD_cons_zero, List.getD_cons_succ, sp__law_pairs, sp__law_neighbours, sp__law_is_whole, sp__law_nights]
        have c : decide (0 ≤ p ∧ p ≤ n - 1) = true := decide_eq_true (by omega)
        rw [c]
        exact hY _ H1 rfl (Same.refl _)
      · rw [reps] at e2
        refine ⟨D1, rfl, _, e2, ?_⟩
        rw [all_rep, if_neg (by decide)]
        refine ⟨_, s1 _ _ t0, fun p hp => ⟨RgOk.of_le (by omega) (by omega) (by omega) (by omega), fun q1 hq1 => ?_⟩⟩
        have hpq := ne_of_none (upd_same (H := H1) (a := p)) hq1
        rw [sortL hs (by omega) (by omega)] at hq1 ⊢
        refine ne_lsts (ns := ups n) (by rw [upd_ne hpq, upd_same]) (by rw [upd_same, rgV_ups]) ⟨false, rfl, ?_⟩
        rw [if_neg Bool.false_ne_true]
        have s2 := s1.trans (same_upd (o := .lst (rgV 0 n)) (same_new (o := .lst ((ups n).map V.int)) hp) ((same_new (o := .lst ((ups n).map V.int)) hp).free hq1))
        refine ⟨r, rfl, n, by omega, by omega, i, s2 _ _ t0, fun D2 cs H3 hD2 s3 e3 pc => ?_⟩
        have s4 := s2.trans s3
        have hl2 : cs.length ≤ 100 := by
          rw [paired_len pc]
          unfold nbs
          rw [List.length_append, List.length_map, ups_len]
          have : (if r = true then [mm (personAt r n i 0) (personAt r n i (n - 1))] else []).length ≤ 1 := by
            split
            · exact Nat.le_refl 1
            · exact Nat.zero_le 1
          omega
        refine ⟨_, s4 _ _ eD, _, e3, ?_, fun p4 hp4 => ?_⟩
        · rw [List.length_map, List.length_map]
          have : i * 100 ≤ 60 * 100 := Nat.mul_le_mul_right _ (by omega)
          omega
        · have s5 := s0.trans s4
          refine hN _ _ ⟨_, _, p4, bs ++ cs, rfl, same_upd s5 (s5.free hp4), s5.free hp4, by rw [upd_same, List.map_append], ?_, ?_⟩
          · rw [List.length_append, Nat.add_mul]
            omega
          · rw [flat_succ]
            exact prs_same (same_new hp4) (paired_app (prs_same s4 pb) pc)
    · rintro σ H' ⟨v4, v5, D, bs, rfl, s0, hD, eD, hl, pb⟩
      simp only [L2.start, List.map_cons, List.map_nil, List.length_cons, List.length_nil, Nat.zero_add, Nat.reduceAdd, Nat.reduceSub, List.replicate_succ, List.replicate_zero, List.cons_append, List.nil_append, List.append_nil, L2.tNext, L2.tAsg, L2.gName, L2.tRet, L2.tRetN, L2.tIfS, L2.tVar, L2.tC, L2.tOp, L2.tUn, L2.rI, L2.rI0, L2.rU, L2.rEq, L2.rNe, L2.tTest, L2.tB, L2.tIf, Z.tIfCI, Z.tIfCS, L2.tChain, L2.tCons, L2.tNil, L2.tCall, L2.tDrop, L2.tAndV, L2.tOrV, L2.tNotV, L2.tAnd, L2.tOr, L2.tNot, L2.tCB, Z.sc_ii, Z.sc_ss, Z.sc_bb, Z.sc_is, Z.sc_si, Z.sc_ni, Z.sc_in, Z.sc_ns, Z.sc_sn, Z.sc_nn, L2.CDiv, L2.CPow, L2.CMul, List.getElem?_cons_zero, List.getElem?_cons_succ, Z.set_z, Z.set_s, Option.some.injEq, L2.V.int.injEq, L2.V.bl.injEq, L2.V.str.injEq, L2.V.ref.injEq, L2.V.ty.injEq, List.cons.injEq, exists_eq_left', exists_and_left, exists_eq_left, exists_eq_right, exists_eq_right', exists_eq', exists_eq, true_and, and_true, and_assoc, decide_eq_true_eq, Int.reduceLT, and_self, Z.rIxH, Z.rIxU, Z.at30, Z.at31, Z.at32, Z.ix3_0, Z.ix3_1, Z.ix3_2, L2.rSetL, L2.gSub, Z.gTupH, L2.gCons, L2.gNil, L2.HO.lst.injEq, L2.HO.tup.injEq, L2.upd_same, L2.upd_upd, L2.tSl, L2.tNoPart, L2.tPart, L2.rSlL, L2.rCat, List.length_append, or_false, false_or, or_true, true_or, reduceCtorEq, false_and, and_false, exists_false, Int.reduceNeg, Int.reducePow, Int.reduceToNat, Int.reduceAbs, Int.reduceLE, Int.reduceMul, Int.reduceAdd, Int.reduceSub, Nat.reducePow, Nat.reduceLT, Nat.reduceLeDiff, Int.natAbs_natCast, if_true, if_false, Z.rIsN, Z.tyN, Z.kit_ii, Z.kit_bi, Z.kit_si, Z.kit_ni, Z.kit_ib, Z.kit_bb, Z.kit_sb, Z.kit_nb, Z.kit_is, Z.kit_bs, Z.kit_ss, Z.kit_ns, Bool.not_true, Bool.not_false, L2.tTup, L2.tLst, L2.wipe, L2.tYes, Z.Turn1, L2.tNever, sizeLine_eq, Z.rInU, Z.rInH, L2.flatV, List.any_cons, List.any_nil, List.all_cons, List.all_nil, Bool.and_true, Bool.true_and, Bool.or_false, Bool.false_or, Z.tBML, L2.rAppend, Z.map_int_inj, Z.map_bl_inj, Z.rTupL, Z.rLstL, Z.rLstT, Z.rSortI, Z.rAnyH, Z.rAllH, Z.rSumH, Z.rLenL, Z.rLenU, List.length_map, L2.tPar, Z.tCallK0, List.getD_cons_zero, List.getD_cons_succ, sp__law_pairs, sp__law_neighbours, sp__law_is_whole, sp__law_nights]
      rw [List.length_map, hla, show (((nights r n).toNat : Nat) : Int) = nights r n by omega] at pb
      refine ⟨D, bs, _, rfl, eD, pb, fun cs qs p hp hcs hqs hlex pc => ⟨by omega, by omega, fun D1 ds H1 hD1 s1 e1 pd => ?_⟩⟩
      have eq : qs = prs n := lex_eq hlex (prs_Lex n) (hqs.trans (allN_perm hs))
      subst eq
      have s2 := same_upd (o := .lst (cs.map V.ref)) s0 (s0.free hp)
      exact eq_lprs (s1 _ _ upd_same) (prs_same s1 (prs_same (same_new hp) pc)) e1 pd (q _ (s2.trans s1))
open Zig
theorem spots_len (r : Bool) (n j : Int) : (spots r n j).length ≤ 2 := by
  unfold spots
  split
  · exact Nat.le_refl 2
  · exact Nat.le_trans (List.length_filter_le _ _) (Nat.le_refl 2)
def sp__law_right : Sp := fun vs H Q _ => ∃ (p : Addr), vs = [.ref p] ∧ Spring H p ∧ ∀ H', Kp p H H' → Q (.bl true) H'
theorem ok__law_right (T : Env K mg) : HdG P w K mg base CX0 6 "_law_right" s__law_right ["_law_spring_here"] sp__law_right := by
  have H_zigzag_evening := ok_zigzag_evening (P := P) (w := w) (base := base) T
  have H_zigzag_beside := ok_zigzag_beside (P := P) (w := w) (base := base) T
  have H__law_neighbours := ok__law_neighbours (P := P) (w := w) (base := base) T
  have H_zigzag_place := ok_zigzag_place (P := P) (w := w) (base := base) T
  have H_zigzag_person := ok_zigzag_person (P := P) (w := w) (base := base) T
  have H__law_draw := ok__law_draw (P := P) (w := w) (base := base) T
  have H__law_is_party := ok__law_is_party (P := P) (w := w) (base := base) T
  have H_zigzag := ok_zigzag (P := P) (w := w) (base := base) T
  have H__law_zigzag := ok__law_zigzag (P := P) (w := w) (base := base) T
  have H__law_of := ok__law_of (P := P) (w := w) (base := base) T
  obtain ⟨f, fd, F, hm⟩ := T.d__law_right
  refine ⟨⟨f, fd, F, hm, ?_⟩, fun _ _ _ _ _ _ _ us hl => match us, hl with | [_], _ => rfl⟩
  refine fun_okG F sc__law_right (fun vs H Q E h => ?_) (fun cdv A outer s H vs Q E hr gd h => ?_)
  · first | (obtain ⟨rfl, _⟩ := h; rfl) | (obtain ⟨_, rfl, _⟩ := h; rfl) | (obtain ⟨_, _, rfl, _⟩ := h; rfl) | (obtain ⟨_, _, _, rfl, _⟩ := h; rfl) | (obtain ⟨_, _, _, _, rfl, _⟩ := h; rfl) | (obtain ⟨_, _, _, _, _, rfl, _⟩ := h; rfl) | (obtain ⟨_, _, _, _, _, _, rfl, _⟩ := h; rfl) | (obtain ⟨_, _, _, _, _, _, _, rfl, _⟩ := h; rfl) | (obtain ⟨_, _, _, _, _, _, _, _, rfl, _⟩ := h; rfl)
  · obtain ⟨p, rfl, hp, q⟩ := h
    have hu := hu_of hr
    refine ⟨_, pss_cons (ps_for PassesOwn.never rfl (pi_range1 rfl T.b_range (pa_cons pe_int pa_nil)) (pg_name (i := 1) sc__law_right.nd rfl (by first | exact .inl rfl | exact .inr rfl))
      (pss_cons (ps_set (i := 2) sc__law_right.nd rfl (by first | exact .inl rfl | exact .inr rfl) (pe_hd H__law_of (hr.mono (by decide)) rfl pass0 (pa_cons (pv 0) (pa_cons (pe_lst (pa_cons pe_str (pa_cons pe_str pa_nil))) pa_nil))))
      (pss_cons (ps_set (i := 3) sc__law_right.nd rfl (by first | exact .inl rfl | exact .inr rfl) (pe_op op_add (pe_op op_mul pe_int (pe_op op_add pe_int (pe_hd H__law_draw (hr.mono (by decide)) rfl pass0 (pa_cons (pv 0) (pa_cons pe_int pa_nil))))) (pe_ifCI (pt_cmpR op_eq (pv 2) pe_str (nomark _)) pe_int pe_int)))
      (pss_cons (ps_set (i := 4) sc__law_right.nd rfl (by first | exact .inl rfl | exact .inr rfl) (pe_callTy call_tupleL rfl T.b_tuple (by decide +kernel) (pa_cons (pe_lc (own := [("_law_some", 12)]) (g := (gName 12)) (tt := tYes) rfl sc__law_right.nd (pi_list (pe_hd H__law_zigzag (hr.mono (by decide)) rfl pass0 (pa_cons (pv 2) (pa_cons (pv 3) pa_nil)))) (blkOk_by (own := [("_law_some", 12)]) (N := N__law_right) (sc := defScope s__law_right) (by decide +kernel)) (fun _ _ _ _ _ => pg_name (i := 12) sc__law_right.nd rfl (by first | exact .inl rfl | exact .inr rfl)) (fun _ _ _ _ _ => pts_nil) (fun _ _ _ _ _ => (pe_callTy call_tupleL rfl T.b_tuple (by decide +kernel) (pa_cons (pv 12) pa_nil)))) pa_nil)))
      (pss_cons (ps_if (pt_cmpR op_ne (pe_callB (call_reprD hr.units gd) rfl T.b_repr (by decide +kernel) (pa_cons (pe_lst (pa_cons (pe_hd H_zigzag (hr.mono (by decide)) rfl pass0 (pa_cons (pv 2) (pa_cons (pv 3) pa_nil))) (pa_cons (pe_hdk (ks := ["n", "kind"]) (π := [1, 0]) (HdG.of H_zigzag) (hr.mono (by decide)) (.inr H_zigzag) rfl pass0 (fun _ _ _ _ _ _ _ ws hl => match ws, hl with | [_, _], _ => rfl) (pk_cons (pv 3) (pk_cons (pv 2) pk_nil))) pa_nil))) pa_nil)) (pe_callB (call_reprD hr.units gd) rfl T.b_repr (by decide +kernel) (pa_cons (pe_lst (pa_cons (pv 4) (pa_cons (pv 4) pa_nil))) pa_nil)) (nomark _)) (pss_one (ps_ret pe_bl))
      (pss_nil))
      (pss_cons (ps_if (pt_not (pt_val (pe_hd H__law_is_party (hr.mono (by decide)) rfl pass0 (pa_cons (pv 2) (pa_cons (pv 3) (pa_cons (pv 4) pa_nil)))))) (pss_one (ps_ret pe_bl))
      (pss_nil))
      (pss_one (ps_for PassesOwn.never rfl (pi_range1 rfl T.b_range (pa_cons pe_int pa_nil)) (pg_name (i := 5) sc__law_right.nd rfl (by first | exact .inl rfl | exact .inr rfl))
      (pss_cons (ps_par (i := 6) (j := 7) rfl sc__law_right.nd rfl rfl (by decide) rfl rfl (pa_cons (pe_hd H__law_draw (hr.mono (by decide)) rfl pass0 (pa_cons (pv 0) (pa_cons (pe_callB call_lenU rfl T.b_len (by decide +kernel) (pa_cons (pv 4) pa_nil)) pa_nil))) (pa_cons (pe_hd H__law_draw (hr.mono (by decide)) rfl pass0 (pa_cons (pv 0) (pa_cons (pv 3) pa_nil))) pa_nil)) (by rfl))
      (pss_cons (ps_set (i := 8) sc__law_right.nd rfl (by first | exact .inl rfl | exact .inr rfl) (pe_ix ix_tupH (pe_ix ix_tupH (pv 4) (pv 6) (fun _ _ => rfl)) (pv 7) (fun _ _ => rfl)))
      (pss_cons (ps_set (i := 9) sc__law_right.nd rfl (by first | exact .inl rfl | exact .inr rfl) (pe_lst (pa_cons (pe_hd H_zigzag_person (hr.mono (by decide)) rfl pass0 (pa_cons (pv 2) (pa_cons (pv 3) (pa_cons (pv 6) (pa_cons (pv 7) pa_nil))))) (pa_cons (pe_hdk (ks := ["index", "evening", "n", "kind"]) (π := [3, 2, 1, 0]) (HdG.of H_zigzag_person) (hr.mono (by decide)) (.inr H_zigzag_person) rfl pass0 (fun _ _ _ _ _ _ _ ws hl => match ws, hl with | [_, _, _, _], _ => rfl) (pk_cons (pv 7) (pk_cons (pv 6) (pk_cons (pv 3) (pk_cons (pv 2) pk_nil))))) pa_nil))))
      (pss_cons (ps_set (i := 9) sc__law_right.nd rfl (by first | exact .inl rfl | exact .inr rfl) (pe_op op_cat (pv 9) (pe_lst (pa_cons (pe_hd H_zigzag_place (hr.mono (by decide)) rfl pass0 (pa_cons (pv 2) (pa_cons (pv 3) (pa_cons (pv 6) (pa_cons (pv 8) pa_nil))))) (pa_cons (pe_hdk (ks := ["person", "evening", "n", "kind"]) (π := [3, 2, 1, 0]) (HdG.of H_zigzag_place) (hr.mono (by decide)) (.inr H_zigzag_place) rfl pass0 (fun _ _ _ _ _ _ _ ws hl => match ws, hl with | [_, _, _, _], _ => rfl) (pk_cons (pv 8) (pk_cons (pv 6) (pk_cons (pv 3) (pk_cons (pv 2) pk_nil))))) pa_nil)))))
      (pss_cons (ps_if (pt_cmpR op_ne (pe_callB (call_reprD hr.units gd) rfl T.b_repr (by decide +kernel) (pa_cons (pv 9) pa_nil)) (pe_callB (call_reprD hr.units gd) rfl T.b_repr (by decide +kernel) (pa_cons (pe_lst (pa_cons (pv 8) (pa_cons (pv 8) (pa_cons (pv 7) (pa_cons (pv 7) pa_nil))))) pa_nil)) (nomark _)) (pss_one (ps_ret pe_bl))
      (pss_nil))
      (pss_cons (ps_set (i := 10) sc__law_right.nd rfl (by first | exact .inl rfl | exact .inr rfl) (pe_callB cr_sortedH rfl T.b_sorted (by decide +kernel) (pa_cons (pe_lc (own := [("_law_pair", 13)]) (g := (gName 13)) rfl sc__law_right.nd (pi_list (pe_hd H__law_neighbours (hr.mono (by decide)) rfl pass0 (pa_cons (pv 2) (pa_cons (pe_ix ix_tupH (pv 4) (pv 6) (fun _ _ => rfl)) pa_nil)))) (blkOk_by (own := [("_law_pair", 13)]) (N := N__law_right) (sc := defScope s__law_right) (by decide +kernel)) (fun _ _ _ _ _ => pg_name (i := 13) sc__law_right.nd rfl (by first | exact .inl rfl | exact .inr rfl)) (fun _ _ _ _ _ => (pts_one (pt_cmpR op_in_tupH (pv 8) (pv 13) (by rfl)))) (fun _ _ _ _ _ => (pe_op op_sub (pe_op op_add (pe_ix ix_tupH (pv 13) pe_int (fun _ _ => rfl)) (pe_ix ix_tupH (pv 13) pe_int (fun _ _ => rfl))) (pv 8)))) pa_nil)))
      (pss_cons (ps_set (i := 9) sc__law_right.nd rfl (by first | exact .inl rfl | exact .inr rfl) (pe_lst (pa_cons (pe_hd H_zigzag_beside (hr.mono (by decide)) rfl pass0 (pa_cons (pv 2) (pa_cons (pv 3) (pa_cons (pv 6) (pa_cons (pv 8) pa_nil))))) (pa_cons (pe_hdk (ks := ["person", "evening", "n", "kind"]) (π := [3, 2, 1, 0]) (HdG.of H_zigzag_beside) (hr.mono (by decide)) (.inr H_zigzag_beside) rfl pass0 (fun _ _ _ _ _ _ _ ws hl => match ws, hl with | [_, _, _, _], _ => rfl) (pk_cons (pv 8) (pk_cons (pv 6) (pk_cons (pv 3) (pk_cons (pv 2) pk_nil))))) pa_nil))))
      (pss_cons (ps_if (pt_cmpR op_ne (pe_callB (call_reprD hr.units gd) rfl T.b_repr (by decide +kernel) (pa_cons (pv 9) pa_nil)) (pe_callB (call_reprD hr.units gd) rfl T.b_repr (by decide +kernel) (pa_cons (pe_op op_rep (pe_lst (pa_cons (pe_callTy call_tupleL rfl T.b_tuple (by decide +kernel) (pa_cons (pv 10) pa_nil)) pa_nil)) pe_int) pa_nil)) (nomark _)) (pss_one (ps_ret pe_bl))
      (pss_nil))
      (pss_one (ps_for PassesOwn.never rfl (pi_list (pv 10)) (pg_name (i := 11) sc__law_right.nd rfl (by first | exact .inl rfl | exact .inr rfl))
      (pss_cons (ps_set (i := 9) sc__law_right.nd rfl (by first | exact .inl rfl | exact .inr rfl) (pe_lst (pa_cons (pe_hd H_zigzag_evening (hr.mono (by decide)) rfl pass0 (pa_cons (pv 2) (pa_cons (pv 3) (pa_cons (pv 8) (pa_cons (pv 11) pa_nil))))) (pa_cons (pe_hdk (ks := ["mate", "person", "n", "kind"]) (π := [3, 2, 1, 0]) (HdG.of H_zigzag_evening) (hr.mono (by decide)) (.inr H_zigzag_evening) rfl pass0 (fun _ _ _ _ _ _ _ ws hl => match ws, hl with | [_, _, _, _], _ => rfl) (pk_cons (pv 11) (pk_cons (pv 8) (pk_cons (pv 3) (pk_cons (pv 2) pk_nil))))) pa_nil))))
      (pss_one (ps_if (pt_cmpR op_ne (pe_callB (call_reprD hr.units gd) rfl T.b_repr (by decide +kernel) (pa_cons (pv 9) pa_nil)) (pe_callB (call_reprD hr.units gd) rfl T.b_repr (by decide +kernel) (pa_cons (pe_lst (pa_cons (pv 6) (pa_cons (pv 6) pa_nil))) pa_nil)) (nomark _)) (pss_one (ps_ret pe_bl))
      (pss_nil))))))))))))))))))))))
      (pss_one (ps_ret pe_bl)), ?_⟩
    simp only [L2.start, List.map_cons, List.map_nil, List.length_cons, List.length_nil, Nat.zero_add, Nat.reduceAdd, Nat.reduceSub, List.replicate_succ, List.replicate_zero, List.cons_append, List.nil_append, List.append_nil, L2.tNext, L2.tAsg, L2.gName, L2.tRet, L2.tRetN, L2.tIfS, L2.tVar, L2.tC, L2.tOp, L2.tUn, L2.rI, L2.rI0, L2.rU, L2.rEq, L2.rNe, L2.tTest, L2.tB, L2.tIf, Z.tIfCI, Z.tIfCS, L2.tChain, L2.tCons, L2.tNil, L2.tCall, L2.tDrop, L2.tAndV, L2.tOrV, L2.tNotV, L2.tAnd, L2.tOr, L2.tNot, L2.tCB, Z.sc_ii, Z.sc_ss, Z.sc_bb, Z.sc_is, Z.sc_si, Z.sc_ni, Z.sc_in, Z.sc_ns, Z.sc_sn, Z.sc_nn, L2.CDiv, L2.CPow, L2.CMul, List.getElem?_cons_zero, List.getElem?_cons_succ, Z.set_z, Z.set_s, Option.some.injEq, L2.V.int.injEq, L2.V.bl.injEq, L2.V.str.injEq, L2.V.ref.injEq, L2.V.ty.injEq, List.cons.injEq, exists_eq_left', exists_and_left, exists_eq_left, exists_eq_right, exists_eq_right', exists_eq', exists_eq, true_and, and_true, and_assoc, decide_eq_true_eq, Int.reduceLT, and_self, Z.rIxH, Z.rIxU, Z.at30, Z.at31, Z.at32, Z.ix3_0, Z.ix3_1, Z.ix3_2, L2.rSetL, L2.gSub, Z.gTupH, L2.gCons, L2.gNil, L2.HO.lst.injEq, L2.HO.tup.injEq, L2.upd_same, L2.upd_upd, L2.tSl, L2.tNoPart, L2.tPart, L2.rSlL, L2.rCat, List.length_append, or_false, false_or, or_true, true_or, reduceCtorEq, false_and, and_false, exists_false, Int.reduceNeg, Int.reducePow, Int.reduceToNat, Int.reduceAbs, Int.reduceLE, Int.reduceMul, Int.reduceAdd, Int.reduceSub, Nat.reducePow, Nat.reduceLT, Nat.reduceLeDiff, Int.natAbs_natCast, if_true, if_false, Z.rIsN, Z.tyN, Z.kit_ii, Z.kit_bi, Z.kit_si, Z.kit_ni, Z.kit_ib, Z.kit_bb, Z.kit_sb, Z.kit_nb, Z.kit_is, Z.kit_bs, Z.kit_ss, Z.kit_ns, Bool.not_true, Bool.not_false, L2.tTup, L2.tLst, L2.wipe, L2.tYes, Z.Turn1, L2.tNever, sizeLine_eq, Z.rInU, Z.rInH, L2.flatV, List.any_cons, List.any_nil, List.all_cons, List.all_nil, Bool.and_true, Bool.true_and, Bool.or_false, Bool.false_or, Z.tBML, L2.rAppend, Z.map_int_inj, Z.map_bl_inj, Z.rTupL, Z.rLstL, Z.rLstT, Z.rSortI, Z.rAnyH, Z.rAllH, Z.rSumH, Z.rLenL, Z.rLenU, List.length_map, L2.tPar, Z.tCallK0, List.getD_cons_zero, List.getD_cons_succ, sp_zigzag_evening, sp_zigzag_beside, sp__law_neighbours, sp_zigzag_place, sp_zigzag_person, sp__law_draw, sp__law_is_party, sp_zigzag, sp__law_zigzag, sp__law_of]
    refine z_seq ?_
    refine for_rng (n := 3) (fun R h => h) (by decide) (fun _ σ H' => ∃ v1 v2 v3 v4 v5 v6 v7 v8 v9 v10 v11 v12 v13 : Option V, σ = [some (.ref p), v1, v2, v3, v4, v5, v6, v7, v8, v9, v10, v11, v12, v13] ∧ Kp p H H') ⟨_, _, _, _, _, _, _, _, _, _, _, _, _, rfl, Kp.refl hp⟩ ?_ ?_
    · rintro i σ H0 hi ⟨v1, v2, v3, v4, v5, v6, v7, v8, v9, v10, v11, v12, v13, rfl, kp⟩
      simp only [L2.start, List.map_cons, List.map_nil, List.length_cons, List.length_nil, Nat.zero_add, Nat.reduceAdd, Nat.reduceSub, List.replicate_succ, List.replicate_zero, List.cons_append, List.nil_append, List.append_nil, L2.tNext, L2.tAsg, L2.gName, L2.tRet, L2.tRetN, L2.tIfS, L2.tVar, L2.tC, L2.tOp, L2.tUn, L2.rI, L2.rI0, L2.rU, L2.rEq, L2.rNe, L2.tTest, L2.tB, L2.tIf, Z.tIfCI, Z.tIfCS, L2.tChain, L2.tCons, L2.tNil, L2.tCall, L2.tDrop, L2.tAndV, L2.tOrV, L2.tNotV, L2.tAnd, L2.tOr, L2.tNot, L2.tCB, Z.sc_ii, Z.sc_ss, Z.sc_bb, Z.sc_is, Z.sc_si, Z.sc_ni, Z.sc_in, Z.sc_ns, Z.sc_sn, Z.sc_nn, L2.CDiv, L2.CPow, L2.CMul, List.getElem?_cons_zero, List.getElem?_cons_succ, Z.set_z, Z.set_s, Option.some.injEq, L2.V.int.injEq, L2.V.bl.injEq, L2.V.str.injEq, L2.V.ref.injEq, L2.V.ty.injEq, List.cons.injEq, exists_eq_left', exists_and_left, exists_eq_left, exists_eq_right, exists_eq_right', exists_eq', exists_eq, true_and, and_true, and_assoc, decide_eq_true_eq, Int.reduceLT, and_self, Z.rIxH, Z.rIxU, Z.at30, Z.at31, Z.at32, Z.ix3_0, Z.ix3_1, Z.ix3_2, L2.rSetL, L2.gSub, Z.gTupH, L2.gCons, L2.gNil, L2.HO.lst.injEq, L2.HO.tup.injEq, L2.upd_same, L2.upd_upd, L2.tSl, L2.tNoPart, L2.tPart, L2.rSlL, L2.rCat, List.length_append, or_false, false_or, or_true, true_or, reduceCtorEq, false_and, and_false, exists_false, Int.reduceNeg, Int.reducePow, Int.reduceToNat, Int.reduceAbs, Int.reduceLE, Int.reduceMul, Int.reduceAdd, Int.reduceSub, Nat.reducePow, Nat.reduceLT, Nat.reduceLeDiff, Int.natAbs_natCast, if_true, if_false, Z.rIsN, Z.tyN, Z.kit_ii, Z.kit_bi, Z.kit_si, Z.kit_ni, Z.kit_ib, Z.kit_bb, Z.kit_sb, Z.kit_nb, Z.kit_is, Z.kit_bs, Z.kit_ss, Z.kit_ns, Bool.not_true, Bool.not_false, L2.tTup, L2.tLst, L2.wipe, L2.tYes, Z.Turn1, L2.tNever, sizeLine_eq, Z.rInU, Z.rInH, L2.flatV, List.any_cons, List.any_nil, List.all_cons, List.all_nil, Bool.and_true, Bool.true_and, Bool.or_false, Bool.false_or, Z.tBML, L2.rAppend, Z.map_int_inj, Z.map_bl_inj, Z.rTupL, Z.rLstL, Z.rLstT, Z.rSortI, Z.rAnyH, Z.rAllH, Z.rSumH, Z.rLenL, Z.rLenU, List.length_map, L2.tPar, Z.tCallK0, List.getD_cons_zero, List.getD_cons_succ, sp_zigzag_evening, sp_zigzag_beside, sp__law_neighbours, sp_zigzag_place, sp_zigzag_person, sp__law_draw, sp__law_is_party, sp_zigzag, sp__law_zigzag, sp__law_of]
      refine z_seq ?_
      simp only [L2.start, List.map_cons, List.map_nil, List.length_cons, List.length_nil, Nat.zero_add, Nat.reduceAdd, Nat.reduceSub, List.replicate_succ, List.replicate_zero, List.cons_append, List.nil_append, List.append_nil, L2.tNext, L2.tAsg, L2.gName, L2.tRet, L2.tRetN, L2.tIfS, L2.tVar, L2.tC, L2.tOp, L2.tUn, L2.rI, L2.rI0, L2.rU, L2.rEq, L2.rNe, L2.tTest, L2.tB, L2.tIf, Z.tIfCI, Z.tIfCS, L2.tChain, L2.tCons, L2.tNil, L2.tCall, L2.tDrop, L2.tAndV, L2.tOrV, L2.tNotV, L2.tAnd, L2.tOr, L2.tNot, L2.tCB, Z.sc_ii, Z.sc_ss, Z.sc_bb, Z.sc_is, Z.sc_si, Z.sc_ni, Z.sc_in, Z.sc_ns, Z.sc_sn, Z.sc_nn, L2.CDiv, L2.CPow, L2.CMul, List.getElem?_cons_zero, List.getElem?_cons_succ, Z.set_z, Z.set_s, Option.some.injEq, L2.V.int.injEq, L2.V.bl.injEq, L2.V.str.injEq, L2.V.ref.injEq, L2.V.ty.injEq, List.cons.injEq, exists_eq_left', exists_and_left, exists_eq_left, exists_eq_right, exists_eq_right', exists_eq', exists_eq, true_and, and_true, and_assoc, decide_eq_true_eq, Int.reduceLT, and_self, Z.rIxH, Z.rIxU, Z.at30, Z.at31, Z.at32, Z.ix3_0, Z.ix3_1, Z.ix3_2, L2.rSetL, L2.gSub, Z.gTupH, L2.gCons, L2.gNil, L2.HO.lst.injEq, L2.HO.tup.injEq, L2.upd_same, L2.upd_upd, L2.tSl, L2.tNoPart, L2.tPart, L2.rSlL, L2.rCat, List.length_append, or_false, false_or, or_true, true_or, reduceCtorEq, false_and, and_false, exists_false, Int.reduceNeg, Int.reducePow, Int.reduceToNat, Int.reduceAbs, Int.reduceLE, Int.reduceMul, Int.reduceAdd, Int.reduceSub, Nat.reducePow, Nat.reduceLT, Nat.reduceLeDiff, Int.natAbs_natCast, if_true, if_false, Z.rIsN, Z.tyN, Z.kit_ii, Z.kit_bi, Z.kit_si, Z.kit_ni, Z.kit_ib, Z.kit_bb, Z.kit_sb, Z.kit_nb, Z.kit_is, Z.kit_bs, Z.kit_ss, Z.kit_ns, Bool.not_true, Bool.not_false, L2.tTup, L2.tLst, L2.wipe, L2.tYes, Z.Turn1, L2.tNever, sizeLine_eq, Z.rInU, Z.rInH, L2.flatV, List.any_cons, List.any_nil, List.all_cons, List.all_nil, Bool.and_true, Bool.true_and, Bool.or_false, Bool.false_or, Z.tBML, L2.rAppend, Z.map_int_inj, Z.map_bl_inj, Z.rTupL, Z.rLstL, Z.rLstT, Z.rSortI, Z.rAnyH, Z.rAllH, Z.rSumH, Z.rLenL, Z.rLenU, List.length_map, L2.tPar, Z.tCallK0, List.getD_cons_zero, List.getD_cons_succ, sp_zigzag_evening, sp_zigzag_beside, sp__law_neighbours, sp_zigzag_place, sp_zigzag_person, sp__law_draw, sp__law_is_party, sp_zigzag, sp__law_zigzag, sp__law_of]
      intro m hm
      refine ⟨kp.sp.new hm, Ne.symm (ne_of_spring kp.sp hm), fun v H1 kp1 hv => ?_⟩
      obtain ⟨r, rfl⟩ : ∃ r, v = .str (kindS r) := by
        simp only [List.mem_cons, List.not_mem_nil, or_false] at hv
        rcases hv with rfl | rfl
        · exact ⟨true, rfl⟩
        · exact ⟨false, rfl⟩
      replace kp1 := (kp.new hm).trans kp1
      clear hm hv
      refine z_seq ?_
      simp only [L2.start, List.map_cons, List.map_nil, List.length_cons, List.length_nil, Nat.zero_add, Nat.reduceAdd, Nat.reduceSub, List.replicate_succ, List.replicate_zero, List.cons_append, List.nil_append, List.append_nil, L2.tNext, L2.tAsg, L2.gName, L2.tRet, L2.tRetN, L2.tIfS, L2.tVar, L2.tC, L2.tOp, L2.tUn, L2.rI, L2.rI0, L2.rU, L2.rEq, L2.rNe, L2.tTest, L2.tB, L2.tIf, Z.tIfCI, Z.tIfCS, L2.tChain, L2.tCons, L2.tNil, L2.tCall, L2.tDrop, L2.tAndV, L2.tOrV, L2.tNotV, L2.tAnd, L2.tOr, L2.tNot, L2.tCB, Z.sc_ii, Z.sc_ss, Z.sc_bb, Z.sc_is, Z.sc_si, Z.sc_ni, Z.sc_in, Z.sc_ns, Z.sc_sn, Z.sc_nn, L2.CDiv, L2.CPow, L2.CMul, List.getElem?_cons_zero, List.getElem?_cons_succ, Z.set_z, Z.set_s, Option.some.injEq, L2.V.int.injEq, L2.V.bl.injEq, L2.V.str.injEq, L2.V.ref.injEq, L2.V.ty.injEq, List.cons.injEq, exists_eq_left', exists_and_left, exists_eq_left, exists_eq_right, exists_eq_right', exists_eq', exists_eq, true_and, and_true, and_assoc, decide_eq_true_eq, Int.reduceLT, and_self, Z.rIxH, Z.rIxU, Z.at30, Z.at31, Z.at32, Z.ix3_0, Z.ix3_1, Z.ix3_2, L2.rSetL, L2.gSub, Z.gTupH, L2.gCons, L2.gNil, L2.HO.lst.injEq, L2.HO.tup.injEq, L2.upd_same, L2.upd_upd, L2.tSl, L2.tNoPart, L2.tPart, L2.rSlL, L2.rCat, List.length_append, or_false, false_or, or_true, true_or, reduceCtorEq, false_and, and_false, exists_false, Int.reduceNeg, Int.reducePow, Int.reduceToNat, Int.reduceAbs, Int.reduceLE, Int.reduceMul, Int.reduceAdd, Int.reduceSub, Nat.reducePow, Nat.reduceLT, Nat.reduceLeDiff, Int.natAbs_natCast, if_true, if_false, Z.rIsN, Z.tyN, Z.kit_ii, Z.kit_bi, Z.kit_si, Z.kit_ni, Z.kit_ib, Z.kit_bb, Z.kit_sb, Z.kit_nb, Z.kit_is, Z.kit_bs, Z.kit_ss, Z.kit_ns, Bool.not_true, Bool.not_false, L2.tTup, L2.tLst, L2.wipe, L2.tYes, Z.Turn1, L2.tNever, sizeLine_eq, Z.rInU, Z.rInH, L2.flatV, List.any_cons, List.any_nil, List.all_cons, List.all_nil, Bool.and_true, Bool.true_and, Bool.or_false, Bool.false_or, Z.tBML, L2.rAppend, Z.map_int_inj, Z.map_bl_inj, Z.rTupL, Z.rLstL, Z.rLstT, Z.rSortI, Z.rAnyH, Z.rAllH, Z.rSumH, Z.rLenL, Z.rLenU, List.length_map, L2.tPar, Z.tCallK0, List.getD_cons_zero, List.getD_cons_succ, sp_zigzag_evening, sp_zigzag_beside, sp__law_neighbours, sp_zigzag_place, sp_zigzag_person, sp__law_draw, sp__law_is_party, sp_zigzag, sp__law_zigzag, sp__law_of, kind_eq]
      refine ⟨kp1.sp, fun d H2 kp2 hd0 hd1 => ?_⟩
      replace kp2 := kp1.trans kp2
      clear kp1 kp
      have hs : SizeIs r (2 * (1 + d) + if r = true then 1 else 0) (1 + d) := by
        cases r
        · exact ⟨by omega, .inr ⟨rfl, by simp⟩⟩
        · exact ⟨by omega, .inl ⟨rfl, by simp⟩⟩
      generalize hn : (2 * (1 + d) + if r = true then 1 else 0) = n at hs ⊢
      have hn2 : 2 ≤ n ∧ n ≤ 41 := by
        rw [← hn]
        split <;> omega
      have hnk := hs.nights
      clear hn
      refine z_seq ?_
      simp only [L2.start, List.map_cons, List.map_nil, List.length_cons, List.length_nil, Nat.zero_add, Nat.reduceAdd, Nat.reduceSub, List.replicate_succ, List.replicate_zero, List.cons_append, List.nil_append, List.append_nil, L2.tNext, L2.tAsg, L2.gName, L2.tRet, L2.tRetN, L2.tIfS, L2.tVar, L2.tC, L2.tOp, L2.tUn, L2.rI, L2.rI0, L2.rU, L2.rEq, L2.rNe, L2.tTest, L2.tB, L2.tIf, Z.tIfCI, Z.tIfCS, L2.tChain, L2.tCons, L2.tNil, L2.tCall, L2.tDrop, L2.tAndV, L2.tOrV, L2.tNotV, L2.tAnd, L2.tOr, L2.tNot, L2.tCB, Z.sc_ii, Z.sc_ss, Z.sc_bb, Z.sc_is, Z.sc_si, Z.sc_ni, Z.sc_in, Z.sc_ns, Z.sc_sn, Z.sc_nn, L2.CDiv, L2.CPow, L2.CMul, List.getElem?_cons_zero, List.getElem?_cons_succ, Z.set_z, Z.set_s, Option.some.injEq, L2.V.int.injEq, L2.V.bl.injEq, L2.V.str.injEq, L2.V.ref.injEq, L2.V.ty.injEq, List.cons.injEq, exists_eq_left', exists_and_left, exists_eq_left, exists_eq_right, exists_eq_right', exists_eq', exists_eq, true_and, and_true, and_assoc, decide_eq_true_eq, Int.reduceLT, and_self, Z.rIxH, Z.rIxU, Z.at30, Z.at31, Z.at32, Z.ix3_0, Z.ix3_1, Z.ix3_2, L2.rSetL, L2.gSub, Z.gTupH, L2.gCons, L2.gNil, L2.HO.lst.injEq, L2.HO.tup.injEq, L2.upd_same, L2.upd_upd, L2.tSl, L2.tNoPart, L2.tPart, L2.rSlL, L2.rCat, List.length_append, or_false, false_or, or_true, true_or, reduceCtorEq, false_and, and_false, exists_false, Int.reduceNeg, Int.reducePow, Int.reduceToNat, Int.reduceAbs, Int.reduceLE, Int.reduceMul, Int.reduceAdd, Int.reduceSub, Nat.reducePow, Nat.reduceLT, Nat.reduceLeDiff, Int.natAbs_natCast, if_true, if_false, Z.rIsN, Z.tyN, Z.kit_ii, Z.kit_bi, Z.kit_si, Z.kit_ni, Z.kit_ib, Z.kit_bb, Z.kit_sb, Z.kit_nb, Z.kit_is, Z.kit_bs, Z.kit_ss, Z.kit_ns, Bool.not_true, Bool.not_false, L2.tTup, L2.tLst, L2.wipe, L2.tYes, Z.Turn1, L2.tNever, sizeLine_eq, Z.rInU, Z.rInH, L2.flatV, List.any_cons, List.any_nil, List.all_cons, List.all_nil, Bool.and_true, Bool.true_and, Bool.or_false, Bool.false_or, Z.tBML, L2.rAppend, Z.map_int_inj, Z.map_bl_inj, Z.rTupL, Z.rLstL, Z.rLstT, Z.rSortI, Z.rAnyH, Z.rAllH, Z.rSumH, Z.rLenL, Z.rLenU, List.length_map, L2.tPar, Z.tCallK0, List.getD_cons_zero, List.getD_cons_succ, sp_zigzag_evening, sp_zigzag_beside, sp__law_neighbours, sp_zigzag_place, sp_zigzag_person, sp__law_draw, sp__law_is_party, sp_zigzag, sp__law_zigzag, sp__law_of]
      refine lc_bindL ?_
      simp only [L2.start, List.map_cons, List.map_nil, List.length_cons, List.length_nil, Nat.zero_add, Nat.reduceAdd, Nat.reduceSub, List.replicate_succ, List.replicate_zero, List.cons_append, List.nil_append, List.append_nil, L2.tNext, L2.tAsg, L2.gName, L2.tRet, L2.tRetN, L2.tIfS, L2.tVar, L2.tC, L2.tOp, L2.tUn, L2.rI, L2.rI0, L2.rU, L2.rEq, L2.rNe, L2.tTest, L2.tB, L2.tIf, Z.tIfCI, Z.tIfCS, L2.tChain, L2.tCons, L2.tNil, L2.tCall, L2.tDrop, L2.tAndV, L2.tOrV, L2.tNotV, L2.tAnd, L2.tOr, L2.tNot, L2.tCB, Z.sc_ii, Z.sc_ss, Z.sc_bb, Z.sc_is, Z.sc_si, Z.sc_ni, Z.sc_in, Z.sc_ns, Z.sc_sn, Z.sc_nn, L2.CDiv, L2.CPow, L2.CMul, List.getElem?_cons_zero, List.getElem?_cons_succ, Z.set_z, Z.set_s, Option.some.injEq, L2.V.int.injEq, L2.V.bl.injEq, L2.V.str.injEq, L2.V.ref.injEq, L2.V.ty.injEq, List.cons.injEq, exists_eq_left', exists_and_left, exists_eq_left, exists_eq_right, exists_eq_right', exists_eq', exists_eq, true_and, and_true, and_assoc, decide_eq_true_eq, Int.reduceLT, and_self, Z.rIxH, Z.rIxU, Z.at30, Z.at31, Z.at32, Z.ix3_0, Z.ix3_1, Z.ix3_2, L2.rSetL, L2.gSub, Z.gTupH, L2.gCons, L2.gNil, L2.HO.lst.injEq, L2.HO.tup.injEq, L2.upd_same, L2.upd_upd, L2.tSl, L2.tNoPart, L2.tPart, L2.rSlL, L2.rCat, List.length_append, or_false, false_or, or_true, true_or, reduceCtorEq, false_and, and_false, exists_false, Int.reduceNeg, Int.reducePow, Int.reduceToNat, Int.reduceAbs, Int.reduceLE, Int.reduceMul, Int.reduceAdd, Int.reduceSub, Nat.reducePow, Nat.reduceLT, Nat.reduceLeDiff, Int.natAbs_natCast, if_true, if_false, Z.rIsN, Z.tyN, Z.kit_ii, Z.kit_bi, Z.kit_si, Z.kit_ni, Z.kit_ib, Z.kit_bb, Z.kit_sb, Z.kit_nb, Z.kit_is, Z.kit_bs, Z.kit_ss, Z.kit_ns, Bool.not_true, Bool.not_false, L2.tTup, L2.tLst, L2.wipe, L2.tYes, Z.Turn1, L2.tNever, sizeLine_eq, Z.rInU, Z.rInH, L2.flatV, List.any_cons, List.any_nil, List.all_cons, List.all_nil, Bool.and_true, Bool.true_and, Bool.or_false, Bool.false_or, Z.tBML, L2.rAppend, Z.map_int_inj, Z.map_bl_inj, Z.rTupL, Z.rLstL, Z.rLstT, Z.rSortI, Z.rAnyH, Z.rAllH, Z.rSumH, Z.rLenL, Z.rLenU, List.length_map, L2.tPar, Z.tCallK0, List.getD_cons_zero, List.getD_cons_succ, sp_zigzag_evening, sp_zigzag_beside, sp__law_neighbours, sp_zigzag_place, sp_zigzag_person, sp__law_draw, sp__law_is_party, sp_zigzag, sp__law_zigzag, sp__law_of, kind_inj]
      refine ⟨by omega, by omega, fun D as H3 hD s3 e3 pr3 => ?_⟩
      refine lc_lstO (a := D) (xs := as.map V.ref) (H1 := H3) (tupLike H3) (fun R h => h) (SqL.of e3) ?_ (fun x hx H4 s4 => ?_) fun D2 H4 bs hD2 s4 e4 pr4 => ?_
      · rw [List.length_map, paired_len pr3]
        unfold zz
        rw [List.length_map, ups_len]
        omega
      · obtain ⟨t, ht, rfl⟩ := List.mem_map.mp hx
        obtain ⟨l, hl, el⟩ := paired_mem pr3 t ht
        rw [tupLike_at el]
        intro Y N hY hN
        simp only [L2.start, List.map_cons, List.map_nil, List.length_cons, List.length_nil, Nat.zero_add, Nat.reduceAdd, Nat.reduceSub, List.replicate_succ, List.replicate_zero, List.cons_append, List.nil_append, List.append_nil, L2.tNext, L2.tAsg, L2.gName, L2.tRet, L2.tRetN, L2.tIfS, L2.tVar, L2.tC, L2.tOp, L2.tUn, L2.rI, L2.rI0, L2.rU, L2.rEq, L2.rNe, L2.tTest, L2.tB, L2.tIf, Z.tIfCI, Z.tIfCS, L2.tChain, L2.tCons, L2.tNil, L2.tCall, L2.tDrop, L2.tAndV, L2.tOrV, L2.tNotV, L2.tAnd, L2.tOr, L2.tNot, L2.tCB, Z.sc_ii, Z.sc_ss, Z.sc_bb, Z.sc_is, Z.sc_si, Z.sc_ni, Z.sc_in, Z.sc_ns, Z.sc_sn, Z.sc_nn, L2.CDiv, L2.CPow, L2.CMul, List.getElem?_cons_zero, List.getElem?_cons_succ, Z.set_z, Z.set_s, Option.some.injEq, L2.V.int.injEq, L2.V.bl.injEq, L2.V.str.injEq, L2.V.ref.injEq, L2.V.ty.injEq, List.cons.injEq, exists_eq_left', exists_and_left, exists_eq_left, exists_eq_right, exists_eq_right', exists_eq', exists_eq, true_and, and_true, and_assoc, decide_eq_true_eq, Int.reduceLT, and_self, Z.rIxH, Z.rIxU, Z.at30, Z.at31, Z.at32, Z.ix3_0, Z.ix3_1, Z.ix3_2, L2.rSetL, L2.gSub, Z.gTupH, L2.gCons, L2.gNil, L2.HO.lst.injEq, L2.HO.tup.injEq, L2.upd_same, L2.upd_upd, L2.tSl, L2.tNoPart, L2.tPart, L2.rSlL, L2.rCat, List.length_append, or_false, false_or, or_true, true_or, reduceCtorEq, false_and, and_false, exists_false, Int.reduceNeg, Int.reducePow, Int.reduceToNat, Int.reduceAbs, Int.reduceLE, Int.reduceMul, Int.reduceAdd, Int.reduceSub, Nat.reducePow, Nat.reduceLT, Nat.reduceLeDiff, Int.natAbs_natCast, if_true, if_false, Z.rIsN, Z.tyN, Z.kit_ii, Z.kit_bi, Z.kit_si, Z.kit_ni, Z.kit_ib, Z.kit_bb, Z.kit_sb, Z.kit_nb, Z.kit_is, Z.kit_bs, Z.kit_ss, Z.kit_ns, Bool.not_true, Bool.not_false, L2.tTup, L2.tLst, L2.wipe, L2.tYes, Z.Turn1, L2.tNever, sizeLine_eq, Z.rInU, Z.rInH, L2.flatV, List.any_cons, List.any_nil, List.all_cons, List.all_nil, Bool.and_true, Bool.true_and, Bool.or_false, Bool.false_or, Z.tBML, L2.rAppend, Z.map_int_inj, Z.map_bl_inj, Z.rTupL, Z.rLstL, Z.rLstT, Z.rSortI, Z.rAnyH, Z.rAllH, Z.rSumH, Z.rLenL, Z.rLenU, List.length_map, L2.tPar, Z.tCallK0, List.getD_cons_zero, List.getD_cons_succ, sp_zigzag_evening, sp_zigzag_beside, sp__law_neighbours, sp_zigzag_place, sp_zigzag_person, sp__law_draw, sp__law_is_party, sp_zigzag, sp__law_zigzag, sp__law_of]
        exact ⟨_, s4 _ _ el, fun p hp => hY _ p _ rfl hp (same_new hp) upd_same⟩
      · rw [fm_tupLike pr3] at pr4
        have pr4 := tups_of pr4
        refine ⟨D2, rfl, _, e4, fun A hA => ?_⟩
        have kp3 := ((kp2.same s3).same s4).new (o := .tup (bs.map V.ref)) hA
        have eA : upd H4 A (.tup (bs.map V.ref)) A = some (.tup (bs.map V.ref)) := upd_same
        have prA := tups_same (same_new (o := .tup (bs.map V.ref)) hA) pr4
        generalize upd H4 A (.tup (bs.map V.ref)) = H5 at kp3 eA prA ⊢
        clear e4 pr4 hA hD2 s4 e3 pr3 s3 hD
        have low : LowP 41 20 (zz r n) := by
          refine ⟨fun l hl => ?_, ?_⟩
          · obtain ⟨e, he, rfl⟩ := List.mem_map.mp hl
            have he := mem_ups.mp he
            refine ⟨⟨fun z hz => ?_, ?_⟩, ?_⟩
            · have := (evL_mem hs he.1 (by omega) z).mp hz
              have h2 : (41 : Int) ≤ 2 ^ 200 := by decide
              omega
            · rw [evL_len]
              omega
            · rw [evL_len]
              omega
          · unfold zz
            rw [List.length_map, ups_len]
            omega
        refine z_seq ?_
        simp only [L2.start, List.map_cons, List.map_nil, List.length_cons, List.length_nil, Nat.zero_add, Nat.reduceAdd, Nat.reduceSub, List.replicate_succ, List.replicate_zero, List.cons_append, List.nil_append, List.append_nil, L2.tNext, L2.tAsg, L2.gName, L2.tRet, L2.tRetN, L2.tIfS, L2.tVar, L2.tC, L2.tOp, L2.tUn, L2.rI, L2.rI0, L2.rU, L2.rEq, L2.rNe, L2.tTest, L2.tB, L2.tIf, Z.tIfCI, Z.tIfCS, L2.tChain, L2.tCons, L2.tNil, L2.tCall, L2.tDrop, L2.tAndV, L2.tOrV, L2.tNotV, L2.tAnd, L2.tOr, L2.tNot, L2.tCB, Z.sc_ii, Z.sc_ss, Z.sc_bb, Z.sc_is, Z.sc_si, Z.sc_ni, Z.sc_in, Z.sc_ns, Z.sc_sn, Z.sc_nn, L2.CDiv, L2.CPow, L2.CMul, List.getElem?_cons_zero, List.getElem?_cons_succ, Z.set_z, Z.set_s, Option.some.injEq, L2.V.int.injEq, L2.V.bl.injEq, L2.V.str.injEq, L2.V.ref.injEq, L2.V.ty.injEq, List.cons.injEq, exists_eq_left', exists_and_left, exists_eq_left, exists_eq_right, exists_eq_right', exists_eq', exists_eq, true_and, and_true, and_assoc, decide_eq_true_eq, Int.reduceLT, and_self, Z.rIxH, Z.rIxU, Z.at30, Z.at31, Z.at32, Z.ix3_0, Z.ix3_1, Z.ix3_2, L2.rSetL, L2.gSub, Z.gTupH, L2.gCons, L2.gNil, L2.HO.lst.injEq, L2.HO.tup.injEq, L2.upd_same, L2.upd_upd, L2.tSl, L2.tNoPart, L2.tPart, L2.rSlL, L2.rCat, List.length_append, or_false, false_or, or_true, true_or, reduceCtorEq, false_and, and_false, exists_false, Int.reduceNeg, Int.reducePow, Int.reduceToNat, Int.reduceAbs, Int.reduceLE, Int.reduceMul, Int.reduceAdd, Int.reduceSub, Nat.reducePow, Nat.reduceLT, Nat.reduceLeDiff, Int.natAbs_natCast, if_true, if_false, Z.rIsN, Z.tyN, Z.kit_ii, Z.kit_bi, Z.kit_si, Z.kit_ni, Z.kit_ib, Z.kit_bb, Z.kit_sb, Z.kit_nb, Z.kit_is, Z.kit_bs, Z.kit_ss, Z.kit_ns, Bool.not_true, Bool.not_false, L2.tTup, L2.tLst, L2.wipe, L2.tYes, Z.Turn1, L2.tNever, sizeLine_eq, Z.rInU, Z.rInH, L2.flatV, List.any_cons, List.any_nil, List.all_cons, List.all_nil, Bool.and_true, Bool.true_and, Bool.or_false, Bool.false_or, Z.tBML, L2.rAppend, Z.map_int_inj, Z.map_bl_inj, Z.rTupL, Z.rLstL, Z.rLstT, Z.rSortI, Z.rAnyH, Z.rAllH, Z.rSumH, Z.rLenL, Z.rLenU, List.length_map, L2.tPar, Z.tCallK0, List.getD_cons_zero, List.getD_cons_succ, sp_zigzag_evening, sp_zigzag_beside, sp__law_neighbours, sp_zigzag_place, sp_zigzag_person, sp__law_draw, sp__law_is_party, sp_zigzag, sp__law_zigzag, sp__law_of, kind_inj]
        have hsz : isSize r n 1000000000000000000000000000000 = true := by
          unfold isSize
          obtain ⟨_, ⟨rfl, h⟩ | ⟨rfl, h⟩⟩ := hs
          · rw [if_pos rfl, Bool.and_eq_true]
            exact ⟨decide_eq_true (by omega), decide_eq_true (by omega)⟩
          · rw [if_neg Bool.false_ne_true, Bool.and_eq_true]
            exact ⟨decide_eq_true (by omega), decide_eq_true (by omega)⟩
        refine ⟨hsz, by omega, fun t1 as1 H6 ht1 s6 e6 p6 => ⟨hsz, by omega, fun t2 as2 H7 ht2 s7 e7 p7 => fun c1 hc1 => ?_⟩⟩
        have s8 := same_new (o := .lst [.ref t1, .ref t2]) hc1
        refine repr_two upd_same (s8 _ _ (s7 _ _ e6)) (tups_same (s7.trans s8) p6) (s8 _ _ e7) (tups_same s8 p7) low (by decide) ?_
        intro c2 hc2
        have s9 := ((s6.trans s7).trans s8).trans (same_new (o := .lst [.ref A, .ref A]) hc2)
        have e9 := s9 _ _ eA
        have p9 := tups_same s9 prA
        refine repr_two upd_same e9 p9 e9 p9 low (by decide) ⟨rfl, ?_⟩
        rw [decide_eq_true rfl, if_neg (by decide)]
        have kp9 := kp3.same s9
        clear hc1 hc2 s8 s9 e6 e7 p6 p7 ht1 ht2 s6 s7 eA prA kp3 kp2
        refine z_seq ?_
        simp only [L2.start, List.map_cons, List.map_nil, List.length_cons, List.length_nil, Nat.zero_add, Nat.reduceAdd, Nat.reduceSub, List.replicate_succ, List.replicate_zero, List.cons_append, List.nil_append, List.append_nil, L2.tNext, L2.tAsg, L2.gName, L2.tRet, L2.tRetN, L2.tIfS, L2.tVar, L2.tC, L2.tOp, L2.tUn, L2.rI, L2.rI0, L2.rU, L2.rEq, L2.rNe, L2.tTest, L2.tB, L2.tIf, Z.tIfCI, Z.tIfCS, L2.tChain, L2.tCons, L2.tNil, L2.tCall, L2.tDrop, L2.tAndV, L2.tOrV, L2.tNotV, L2.tAnd, L2.tOr, L2.tNot, L2.tCB, Z.sc_ii, Z.sc_ss, Z.sc_bb, Z.sc_is, Z.sc_si, Z.sc_ni, Z.sc_in, Z.sc_ns, Z.sc_sn, Z.sc_nn, L2.CDiv, L2.CPow, L2.CMul, List.getElem?_cons_zero, List.getElem?_cons_succ, Z.set_z, Z.set_s, Option.some.injEq, L2.V.int.injEq, L2.V.bl.injEq, L2.V.str.injEq, L2.V.ref.injEq, L2.V.ty.injEq, List.cons.injEq, exists_eq_left', exists_and_left, exists_eq_left, exists_eq_right, exists_eq_right', exists_eq', exists_eq, true_and, and_true, and_assoc, decide_eq_true_eq, Int.reduceLT, and_self, Z.rIxH, Z.rIxU, Z.at30, Z.at31, Z.at32, Z.ix3_0, Z.ix3_1, Z.ix3_2, L2.rSetL, L2.gSub, Z.gTupH, L2.gCons, L2.gNil, L2.HO.lst.injEq, L2.HO.tup.injEq, L2.upd_same, L2.upd_upd, L2.tSl, L2.tNoPart, L2.tPart, L2.rSlL, L2.rCat, List.length_append, or_false, false_or, or_true, true_or, reduceCtorEq, false_and, and_false, exists_false, Int.reduceNeg, Int.reducePow, Int.reduceToNat, Int.reduceAbs, Int.reduceLE, Int.reduceMul, Int.reduceAdd, Int.reduceSub, Nat.reducePow, Nat.reduceLT, Nat.reduceLeDiff, Int.natAbs_natCast, if_true, if_false, Z.rIsN, Z.tyN, Z.kit_ii, Z.kit_bi, Z.kit_si, Z.kit_ni, Z.kit_ib, Z.kit_bb, Z.kit_sb, Z.kit_nb, Z.kit_is, Z.kit_bs, Z.kit_ss, Z.kit_ns, Bool.not_true, Bool.not_false, L2.tTup, L2.tLst, L2.wipe, L2.tYes, Z.Turn1, L2.tNever, sizeLine_eq, Z.rInU, Z.rInH, L2.flatV, List.any_cons, List.any_nil, List.all_cons, List.all_nil, Bool.and_true, Bool.true_and, Bool.or_false, Bool.false_or, Z.tBML, L2.rAppend, Z.map_int_inj, Z.map_bl_inj, Z.rTupL, Z.rLstL, Z.rLstT, Z.rSortI, Z.rAnyH, Z.rAllH, Z.rSumH, Z.rLenL, Z.rLenU, List.length_map, L2.tPar, Z.tCallK0, List.getD_cons_zero, List.getD_cons_succ, sp_zigzag_evening, sp_zigzag_beside, sp__law_neighbours, sp_zigzag_place, sp_zigzag_person, sp__law_draw, sp__law_is_party, sp_zigzag, sp__law_zigzag, sp__law_of, kind_inj]
        have hs2 : SizeIs r n (nights r n) := by rw [hnk]; exact hs
        refine ⟨hs2, by omega, bs, e9, p9, fun H10 s10 => ?_⟩
        have kp10 := kp9.same s10
        have e10 := s10 _ _ e9
        have p10 := tups_same s10 p9
        clear e9 p9 kp9 s10
        refine for_rng (n := 6) (fun R h => h) (by decide) (fun _ σ H' => ∃ v5 v6 v7 v8 v9 v10 v11 v12 v13 : Option V, σ = [some (.ref p), some (.int i), some (.str (kindS r)), some (.int n), some (.ref A), v5, v6, v7, v8, v9, v10, v11, v12, v13] ∧ Kp p H H' ∧ H' A = some (.tup (bs.map V.ref)) ∧ Paired (TupAt H') bs (zz r n)) ⟨_, _, _, _, _, _, _, _, _, rfl, kp10, e10, p10⟩ ?_ ?_
        · clear kp10 e10 p10
          rintro i2 σ H0 hi2 ⟨v5, v6, v7, v8, v9, v10, v11, v12, v13, rfl, kp, eA, pA⟩
          simp only [L2.start, List.map_cons, List.map_nil, List.length_cons, List.length_nil, Nat.zero_add, Nat.reduceAdd, Nat.reduceSub, List.replicate_succ, List.replicate_zero, List.cons_append, List.nil_append, List.append_nil, L2.tNext, L2.tAsg, L2.gName, L2.tRet, L2.tRetN, L2.tIfS, L2.tVar, L2.tC, L2.tOp, L2.tUn, L2.rI, L2.rI0, L2.rU, L2.rEq, L2.rNe, L2.tTest, L2.tB, L2.tIf, Z.tIfCI, Z.tIfCS, L2.tChain, L2.tCons, L2.tNil, L2.tCall, L2.tDrop, L2.tAndV, L2.tOrV, L2.tNotV, L2.tAnd, L2.tOr, L2.tNot, L2.tCB, Z.sc_ii, Z.sc_ss, Z.sc_bb, Z.sc_is, Z.sc_si, Z.sc_ni, Z.sc_in, Z.sc_ns, Z.sc_sn, Z.sc_nn, L2.CDiv, L2.CPow, L2.CMul, List.getElem?_cons_zero, List.getElem?_cons_succ, Z.set_z, Z.set_s, Option.some.injEq, L2.V.int.injEq, L2.V.bl.injEq, L2.V.str.injEq, L2.V.ref.injEq, L2.V.ty.injEq, List.cons.injEq, exists_eq_left', exists_and_left, exists_eq_left, exists_eq_right, exists_eq_right', exists_eq', exists_eq, true_and, and_true, and_assoc, decide_eq_true_eq, Int.reduceLT, and_self, Z.rIxH, Z.rIxU, Z.at30, Z.at31, Z.at32, Z.ix3_0, Z.ix3_1, Z.ix3_2, L2.rSetL, L2.gSub, Z.gTupH, L2.gCons, L2.gNil, L2.HO.lst.injEq, L2.HO.tup.injEq, L2.upd_same, L2.upd_upd, L2.tSl, L2.tNoPart, L2.tPart, L2.rSlL, L2.rCat, List.length_append, or_false, false_or, or_true, true_or, reduceCtorEq, false_and, and_false, exists_false, Int.reduceNeg, Int.reducePow, Int.reduceToNat, Int.reduceAbs, Int.reduceLE, Int.reduceMul, Int.reduceAdd, Int.reduceSub, Nat.reducePow, Nat.reduceLT, Nat.reduceLeDiff, Int.natAbs_natCast, if_true, if_false, Z.rIsN, Z.tyN, Z.kit_ii, Z.kit_bi, Z.kit_si, Z.kit_ni, Z.kit_ib, Z.kit_bb, Z.kit_sb, Z.kit_nb, Z.kit_is, Z.kit_bs, Z.kit_ss, Z.kit_ns, Bool.not_true, Bool.not_false, L2.tTup, L2.tLst, L2.wipe, L2.tYes, Z.Turn1, L2.tNever, sizeLine_eq, Z.rInU, Z.rInH, L2.flatV, List.any_cons, List.any_nil, List.all_cons, List.all_nil, Bool.and_true, Bool.true_and, Bool.or_false, Bool.false_or, Z.tBML, L2.rAppend, Z.map_int_inj, Z.map_bl_inj, Z.rTupL, Z.rLstL, Z.rLstT, Z.rSortI, Z.rAnyH, Z.rAllH, Z.rSumH, Z.rLenL, Z.rLenU, List.length_map, L2.tPar, Z.tCallK0, List.getD_cons_zero, List.getD_cons_succ, sp_zigzag_evening, sp_zigzag_beside, sp__law_neighbours, sp_zigzag_place, sp_zigzag_person, sp__law_draw, sp__law_is_party, sp_zigzag, sp__law_zigzag, sp__law_of]
          refine z_seq ?_
          simp only [L2.start, List.map_cons, List.map_nil, List.length_cons, List.length_nil, Nat.zero_add, Nat.reduceAdd, Nat.reduceSub, List.replicate_succ, List.replicate_zero, List.cons_append, List.nil_append, List.append_nil, L2.tNext, L2.tAsg, L2.gName, L2.tRet, L2.tRetN, L2.tIfS, L2.tVar, L2.tC, L2.tOp, L2.tUn, L2.rI, L2.rI0, L2.rU, L2.rEq, L2.rNe, L2.tTest, L2.tB, L2.tIf, Z.tIfCI, Z.tIfCS, L2.tChain, L2.tCons, L2.tNil, L2.tCall, L2.tDrop, L2.tAndV, L2.tOrV, L2.tNotV, L2.tAnd, L2.tOr, L2.tNot, L2.tCB, Z.sc_ii, Z.sc_ss, Z.sc_bb, Z.sc_is, Z.sc_si, Z.sc_ni, Z.sc_in, Z.sc_ns, Z.sc_sn, Z.sc_nn, L2.CDiv, L2.CPow, L2.CMul, List.getElem?_cons_zero, List.getElem?_cons_succ, Z.set_z, Z.set_s, Option.some.injEq, L2.V.int.injEq, L2.V.bl.injEq, L2.V.str.injEq, L2.V.ref.injEq, L2.V.ty.injEq, List.cons.injEq, exists_eq_left', exists_and_left, exists_eq_left, exists_eq_right, exists_eq_right', exists_eq', exists_eq, true_and, and_true, and_assoc, decide_eq_true_eq, Int.reduceLT, and_self, Z.rIxH, Z.rIxU, Z.at30, Z.at31, Z.at32, Z.ix3_0, Z.ix3_1, Z.ix3_2, L2.rSetL, L2.gSub, Z.gTupH, L2.gCons, L2.gNil, L2.HO.lst.injEq, L2.HO.tup.injEq, L2.upd_same, L2.upd_upd, L2.tSl, L2.tNoPart, L2.tPart, L2.rSlL, L2.rCat, List.length_append, or_false, false_or, or_true, true_or, reduceCtorEq, false_and, and_false, exists_false, Int.reduceNeg, Int.reducePow, Int.reduceToNat, Int.reduceAbs, Int.reduceLE, Int.reduceMul, Int.reduceAdd, Int.reduceSub, Nat.reducePow, Nat.reduceLT, Nat.reduceLeDiff, Int.natAbs_natCast, if_true, if_false, Z.rIsN, Z.tyN, Z.kit_ii, Z.kit_bi, Z.kit_si, Z.kit_ni, Z.kit_ib, Z.kit_bb, Z.kit_sb, Z.kit_nb, Z.kit_is, Z.kit_bs, Z.kit_ss, Z.kit_ns, Bool.not_true, Bool.not_false, L2.tTup, L2.tLst, L2.wipe, L2.tYes, Z.Turn1, L2.tNever, sizeLine_eq, Z.rInU, Z.rInH, L2.flatV, List.any_cons, List.any_nil, List.all_cons, List.all_nil, Bool.and_true, Bool.true_and, Bool.or_false, Bool.false_or, Z.tBML, L2.rAppend, Z.map_int_inj, Z.map_bl_inj, Z.rTupL, Z.rLstL, Z.rLstT, Z.rSortI, Z.rAnyH, Z.rAllH, Z.rSumH, Z.rLenL, Z.rLenU, List.length_map, L2.tPar, Z.tCallK0, List.getD_cons_zero, List.getD_cons_succ, sp_zigzag_evening, sp_zigzag_beside, sp__law_neighbours, sp_zigzag_place, sp_zigzag_person, sp__law_draw, sp__law_is_party, sp_zigzag, sp__law_zigzag, sp__law_of]
          have hbl : bs.length = (nights r n).toNat := by rw [paired_len pA]; unfold zz; rw [List.length_map, ups_len]
          refine ⟨_, eA, kp.sp, ?_, ?_, fun e H1 kp1 he0 he1 => ⟨kp1.sp, by omega, by omega, fun j H2 kp2 hj0 hj1 => ?_⟩⟩
          · rw [List.length_map]
            omega
          · rw [List.length_map]
            omega
          · have eA2 := tup_kp kp2 kp1.sp (tup_kp kp1 kp.sp eA)
            have pA2 := tups_kp kp2 kp1.sp (tups_kp kp1 kp.sp pA)
            replace kp := (kp.trans kp1).trans kp2
            clear kp1 kp2 eA pA
            rw [List.length_map] at he1
            have hek : e < 1 + d := by omega
            obtain ⟨t, ht, et⟩ := paired_get' (F := TupAt H2) (i := e.toNat) (b := evL r n e) pA2 (by
              unfold zz
              rw [List.getElem?_map, ups_get (by omega)]
              show some (evL r n ((e.toNat : Nat) : Int)) = _
              rw [show ((e.toNat : Nat) : Int) = e by omega])
            refine z_seq ?_
            simp only [L2.start, List.map_cons, List.map_nil, List.length_cons, List.length_nil, Nat.zero_add, Nat.reduceAdd, Nat.reduceSub, List.replicate_succ, List.replicate_zero, List.cons_append, List.nil_append, List.append_nil, L2.tNext, L2.tAsg, L2.gName, L2.tRet, L2.tRetN, L2.tIfS, L2.tVar, L2.tC, L2.tOp, L2.tUn, L2.rI, L2.rI0, L2.rU, L2.rEq, L2.rNe, L2.tTest, L2.tB, L2.tIf, Z.tIfCI, Z.tIfCS, L2.tChain, L2.tCons, L2.tNil, L2.tCall, L2.tDrop, L2.tAndV, L2.tOrV, L2.tNotV, L2.tAnd, L2.tOr, L2.tNot, L2.tCB, Z.sc_ii, Z.sc_ss, Z.sc_bb, Z.sc_is, Z.sc_si, Z.sc_ni, Z.sc_in, Z.sc_ns, Z.sc_sn, Z.sc_nn, L2.CDiv, L2.CPow, L2.CMul, List.getElem?_cons_zero, List.getElem?_cons_succ, Z.set_z, Z.set_s, Option.some.injEq, L2.V.int.injEq, L2.V.bl.injEq, L2.V.str.injEq, L2.V.ref.injEq, L2.V.ty.injEq, List.cons.injEq, exists_eq_left', exists_and_left, exists_eq_left, exists_eq_right, exists_eq_right', exists_eq', exists_eq, true_and, and_true, and_assoc, decide_eq_true_eq, Int.reduceLT, and_self, Z.rIxH, Z.rIxU, Z.at30, Z.at31, Z.at32, Z.ix3_0, Z.ix3_1, Z.ix3_2, L2.rSetL, L2.gSub, Z.gTupH, L2.gCons, L2.gNil, L2.HO.lst.injEq, L2.HO.tup.injEq, L2.upd_same, L2.upd_upd, L2.tSl, L2.tNoPart, L2.tPart, L2.rSlL, L2.rCat, List.length_append, or_false, false_or, or_true, true_or, reduceCtorEq, false_and, and_false, exists_false, Int.reduceNeg, Int.reducePow, Int.reduceToNat, Int.reduceAbs, Int.reduceLE, Int.reduceMul, Int.reduceAdd, Int.reduceSub, Nat.reducePow, Nat.reduceLT, Nat.reduceLeDiff, Int.natAbs_natCast, if_true, if_false, Z.rIsN, Z.tyN, Z.kit_ii, Z.kit_bi, Z.kit_si, Z.kit_ni, Z.kit_ib, Z.kit_bb, Z.kit_sb, Z.kit_nb, Z.kit_is, Z.kit_bs, Z.kit_ss, Z.kit_ns, Bool.not_true, Bool.not_false, L2.tTup, L2.tLst, L2.wipe, L2.tYes, Z.Turn1, L2.tNever, sizeLine_eq, Z.rInU, Z.rInH, L2.flatV, List.any_cons, List.any_nil, List.all_cons, List.all_nil, Bool.and_true, Bool.true_and, Bool.or_false, Bool.false_or, Z.tBML, L2.rAppend, Z.map_int_inj, Z.map_bl_inj, Z.rTupL, Z.rLstL, Z.rLstT, Z.rSortI, Z.rAnyH, Z.rAllH, Z.rSumH, Z.rLenL, Z.rLenU, List.length_map, L2.tPar, Z.tCallK0, List.getD_cons_zero, List.getD_cons_succ, sp_zigzag_evening, sp_zigzag_beside, sp__law_neighbours, sp_zigzag_place, sp_zigzag_person, sp__law_draw, sp__law_is_party, sp_zigzag, sp__law_zigzag, sp__law_of]
            have i1 : atI (bs.map V.ref) e = some (.ref t) := atI_int he0 (by rw [List.getElem?_map, ht]; rfl)
            refine ⟨_, eA2, _, i1, t, rfl, _, et, _, evL_at hj0 hj1, ?_⟩
            have b := at_bound hs he0 hek hj0 hj1
            have hxi := index_at hs he0 hek hj0 hj1
            have hek2 : e < nights r n := by omega
            have mp := mates_perm hs he0 hek hj0 hj1
            have fx : ∀ z, z ∈ spots r n j → 0 ≤ z ∧ z < n ∧ personAt r n e z ≠ personAt r n e j := fun z hz => by
              obtain ⟨z0, z1, _⟩ := spots_in hs hj0 hj1 hz
              exact ⟨z0, z1, fun w => spots_ne hs hj0 hj1 hz (at_inj hs he0 hek z0 z1 hj0 hj1 w)⟩
            have ev := fun z (hz : z ∈ spots r n j) => evening_spot hs he0 hek hj0 hj1 hz
            refine z_seq ?_
            simp only [L2.start, List.map_cons, List.map_nil, List.length_cons, List.length_nil, Nat.zero_add, Nat.reduceAdd, Nat.reduceSub, List.replicate_succ, List.replicate_zero, List.cons_append, List.nil_append, List.append_nil, L2.tNext, L2.tAsg, L2.gName, L2.tRet, L2.tRetN, L2.tIfS, L2.tVar, L2.tC, L2.tOp, L2.tUn, L2.rI, L2.rI0, L2.rU, L2.rEq, L2.rNe, L2.tTest, L2.tB, L2.tIf, Z.tIfCI, Z.tIfCS, L2.tChain, L2.tCons, L2.tNil, L2.tCall, L2.tDrop, L2.tAndV, L2.tOrV, L2.tNotV, L2.tAnd, L2.tOr, L2.tNot, L2.tCB, Z.sc_ii, Z.sc_ss, Z.sc_bb, Z.sc_is, Z.sc_si, Z.sc_ni, Z.sc_in, Z.sc_ns, Z.sc_sn, Z.sc_nn, L2.CDiv, L2.CPow, L2.CMul, List.getElem?_cons_zero, List.getElem?_cons_succ, Z.set_z, Z.set_s, Option.some.injEq, L2.V.int.injEq, L2.V.bl.injEq, L2.V.str.injEq, L2.V.ref.injEq, L2.V.ty.injEq, List.cons.injEq, exists_eq_left', exists_and_left, exists_eq_left, exists_eq_right, exists_eq_right', exists_eq', exists_eq, true_and, and_true, and_assoc, decide_eq_true_eq, Int.reduceLT, and_self, Z.rIxH, Z.rIxU, Z.at30, Z.at31, Z.at32, Z.ix3_0, Z.ix3_1, Z.ix3_2, L2.rSetL, L2.gSub, Z.gTupH, L2.gCons, L2.gNil, L2.HO.lst.injEq, L2.HO.tup.injEq, L2.upd_same, L2.upd_upd, L2.tSl, L2.tNoPart, L2.tPart, L2.rSlL, L2.rCat, List.length_append, or_false, false_or, or_true, true_or, reduceCtorEq, false_and, and_false, exists_false, Int.reduceNeg, Int.reducePow, Int.reduceToNat, Int.reduceAbs, Int.reduceLE, Int.reduceMul, Int.reduceAdd, Int.reduceSub, Nat.reducePow, Nat.reduceLT, Nat.reduceLeDiff, Int.natAbs_natCast, if_true, if_false, Z.rIsN, Z.tyN, Z.kit_ii, Z.kit_bi, Z.kit_si, Z.kit_ni, Z.kit_ib, Z.kit_bb, Z.kit_sb, Z.kit_nb, Z.kit_is, Z.kit_bs, Z.kit_ss, Z.kit_ns, Bool.not_true, Bool.not_false, L2.tTup, L2.tLst, L2.wipe, L2.tYes, Z.Turn1, L2.tNever, sizeLine_eq, Z.rInU, Z.rInH, L2.flatV, List.any_cons, List.any_nil, List.all_cons, List.all_nil, Bool.and_true, Bool.true_and, Bool.or_false, Bool.false_or, Z.tBML, L2.rAppend, Z.map_int_inj, Z.map_bl_inj, Z.rTupL, Z.rLstL, Z.rLstT, Z.rSortI, Z.rAnyH, Z.rAllH, Z.rSumH, Z.rLenL, Z.rLenU, List.length_map, L2.tPar, Z.tCallK0, List.getD_cons_zero, List.getD_cons_succ, sp_zigzag_evening, sp_zigzag_beside, sp__law_neighbours, sp_zigzag_place, sp_zigzag_person, sp__law_draw, sp__law_is_party, sp_zigzag, sp__law_zigzag, sp__law_of, kind_inj]
            refine ⟨hsz, he0, hek2, hj0, hj1, fun H3 s3 => ⟨hsz, he0, hek2, hj0, hj1, fun H4 s4 L hL => ?_⟩⟩
            generalize hx : personAt r n e j = x at *
            refine z_seq ?_
            simp only [L2.start, List.map_cons, List.map_nil, List.length_cons, List.length_nil, Nat.zero_add, Nat.reduceAdd, Nat.reduceSub, List.replicate_succ, List.replicate_zero, List.cons_append, List.nil_append, List.append_nil, L2.tNext, L2.tAsg, L2.gName, L2.tRet, L2.tRetN, L2.tIfS, L2.tVar, L2.tC, L2.tOp, L2.tUn, L2.rI, L2.rI0, L2.rU, L2.rEq, L2.rNe, L2.tTest, L2.tB, L2.tIf, Z.tIfCI, Z.tIfCS, L2.tChain, L2.tCons, L2.tNil, L2.tCall, L2.tDrop, L2.tAndV, L2.tOrV, L2.tNotV, L2.tAnd, L2.tOr, L2.tNot, L2.tCB, Z.sc_ii, Z.sc_ss, Z.sc_bb, Z.sc_is, Z.sc_si, Z.sc_ni, Z.sc_in, Z.sc_ns, Z.sc_sn, Z.sc_nn, L2.CDiv, L2.CPow, L2.CMul, List.getElem?_cons_zero, List.getElem?_cons_succ, Z.set_z, Z.set_s, Option.some.injEq, L2.V.int.injEq, L2.V.bl.injEq, L2.V.str.injEq, L2.V.ref.injEq, L2.V.ty.injEq, List.cons.injEq, exists_eq_left', exists_and_left, exists_eq_left, exists_eq_right, exists_eq_right', exists_eq', exists_eq, true_and, and_true, and_assoc, decide_eq_true_eq, Int.reduceLT, and_self, Z.rIxH, Z.rIxU, Z.at30, Z.at31, Z.at32, Z.ix3_0, Z.ix3_1, Z.ix3_2, L2.rSetL, L2.gSub, Z.gTupH, L2.gCons, L2.gNil, L2.HO.lst.injEq, L2.HO.tup.injEq, L2.upd_same, L2.upd_upd, L2.tSl, L2.tNoPart, L2.tPart, L2.rSlL, L2.rCat, List.length_append, or_false, false_or, or_true, true_or, reduceCtorEq, false_and, and_false, exists_false, Int.reduceNeg, Int.reducePow, Int.reduceToNat, Int.reduceAbs, Int.reduceLE, Int.reduceMul, Int.reduceAdd, Int.reduceSub, Nat.reducePow, Nat.reduceLT, Nat.reduceLeDiff, Int.natAbs_natCast, if_true, if_false, Z.rIsN, Z.tyN, Z.kit_ii, Z.kit_bi, Z.kit_si, Z.kit_ni, Z.kit_ib, Z.kit_bb, Z.kit_sb, Z.kit_nb, Z.kit_is, Z.kit_bs, Z.kit_ss, Z.kit_ns, Bool.not_true, Bool.not_false, L2.tTup, L2.tLst, L2.wipe, L2.tYes, Z.Turn1, L2.tNever, sizeLine_eq, Z.rInU, Z.rInH, L2.flatV, List.any_cons, List.any_nil, List.all_cons, List.all_nil, Bool.and_true, Bool.true_and, Bool.or_false, Bool.false_or, Z.tBML, L2.rAppend, Z.map_int_inj, Z.map_bl_inj, Z.rTupL, Z.rLstL, Z.rLstT, Z.rSortI, Z.rAnyH, Z.rAllH, Z.rSumH, Z.rLenL, Z.rLenU, List.length_map, L2.tPar, Z.tCallK0, List.getD_cons_zero, List.getD_cons_succ, sp_zigzag_evening, sp_zigzag_beside, sp__law_neighbours, sp_zigzag_place, sp_zigzag_person, sp__law_draw, sp__law_is_party, sp_zigzag, sp__law_zigzag, sp__law_of, kind_inj]
            refine ⟨hsz, he0, hek2, b.1, b.2, fun H5 s5 => ⟨hsz, he0, hek2, b.1, b.2, fun H6 s6 M2 hM2 => ?_⟩⟩
            rw [hxi]
            have s34 := (s3.trans s4).trans (same_new (o := .lst [.int x, .int x]) hL)
            have s56 := s5.trans s6
            refine ⟨_, same_new hM2 _ _ (s56 _ _ upd_same), by show 2 ≤ 16777214; decide, fun M3 hM3 => ?_⟩
            have s7 := (same_new (o := .lst [.int j, .int j]) hM2).trans (same_new (o := .lst [.int x, .int x, .int j, .int j]) hM3)
            refine z_seq ?_
            simp only [L2.start, List.map_cons, List.map_nil, List.length_cons, List.length_nil, Nat.zero_add, Nat.reduceAdd, Nat.reduceSub, List.replicate_succ, List.replicate_zero, List.cons_append, List.nil_append, List.append_nil, L2.tNext, L2.tAsg, L2.gName, L2.tRet, L2.tRetN, L2.tIfS, L2.tVar, L2.tC, L2.tOp, L2.tUn, L2.rI, L2.rI0, L2.rU, L2.rEq, L2.rNe, L2.tTest, L2.tB, L2.tIf, Z.tIfCI, Z.tIfCS, L2.tChain, L2.tCons, L2.tNil, L2.tCall, L2.tDrop, L2.tAndV, L2.tOrV, L2.tNotV, L2.tAnd, L2.tOr, L2.tNot, L2.tCB, Z.sc_ii, Z.sc_ss, Z.sc_bb, Z.sc_is, Z.sc_si, Z.sc_ni, Z.sc_in, Z.sc_ns, Z.sc_sn, Z.sc_nn, L2.CDiv, L2.CPow, L2.CMul, List.getElem?_cons_zero, List.getElem?_cons_succ, Z.set_z, Z.set_s, Option.some.injEq, L2.V.int.injEq, L2.V.bl.injEq, L2.V.str.injEq, L2.V.ref.injEq, L2.V.ty.injEq, List.cons.injEq, exists_eq_left', exists_and_left, exists_eq_left, exists_eq_right, exists_eq_right', exists_eq', exists_eq, true_and, and_true, and_assoc, decide_eq_true_eq, Int.reduceLT, and_self, Z.rIxH, Z.rIxU, Z.at30, Z.at31, Z.at32, Z.ix3_0, Z.ix3_1, Z.ix3_2, L2.rSetL, L2.gSub, Z.gTupH, L2.gCons, L2.gNil, L2.HO.lst.injEq, L2.HO.tup.injEq, L2.upd_same, L2.upd_upd, L2.tSl, L2.tNoPart, L2.tPart, L2.rSlL, L2.rCat, List.length_append, or_false, false_or, or_true, true_or, reduceCtorEq, false_and, and_false, exists_false, Int.reduceNeg, Int.reducePow, Int.reduceToNat, Int.reduceAbs, Int.reduceLE, Int.reduceMul, Int.reduceAdd, Int.reduceSub, Nat.reducePow, Nat.reduceLT, Nat.reduceLeDiff, Int.natAbs_natCast, if_true, if_false, Z.rIsN, Z.tyN, Z.kit_ii, Z.kit_bi, Z.kit_si, Z.kit_ni, Z.kit_ib, Z.kit_bb, Z.kit_sb, Z.kit_nb, Z.kit_is, Z.kit_bs, Z.kit_ss, Z.kit_ns, Bool.not_true, Bool.not_false, L2.tTup, L2.tLst, L2.wipe, L2.tYes, Z.Turn1, L2.tNever, sizeLine_eq, Z.rInU, Z.rInH, L2.flatV, List.any_cons, List.any_nil, List.all_cons, List.all_nil, Bool.and_true, Bool.true_and, Bool.or_false, Bool.false_or, Z.tBML, L2.rAppend, Z.map_int_inj, Z.map_bl_inj, Z.rTupL, Z.rLstL, Z.rLstT, Z.rSortI, Z.rAnyH, Z.rAllH, Z.rSumH, Z.rLenL, Z.rLenU, List.length_map, L2.tPar, Z.tCallK0, List.getD_cons_zero, List.getD_cons_succ, sp_zigzag_evening, sp_zigzag_beside, sp__law_neighbours, sp_zigzag_place, sp_zigzag_person, sp__law_draw, sp__law_is_party, sp_zigzag, sp__law_zigzag, sp__law_of, kind_inj]
            have low4 : Low [x, x, j, j] := by
              have h2 : (41 : Int) ≤ 2 ^ 200 := by decide
              refine ⟨fun z hz => ?_, by show 4 ≤ 200; decide⟩
              simp only [List.mem_cons, List.not_mem_nil, or_false] at hz
              omega
            refine repr_lst upd_same low4 ?_
            intro c1 hc1
            refine repr_lst upd_same low4 ⟨rfl, ?_⟩
            rw [decide_eq_true rfl, if_neg (by decide)]
            have sA := ((s34.trans s56).trans s7).trans (same_new (o := .lst [.int x, .int x, .int j, .int j]) hc1)
            have kpA := kp.same sA
            have eAA := sA _ _ eA2
            have pAA := tups_same sA pA2
            have etA := sA _ _ et
            clear hc1 hM3 s7 hM2 s56 s34 hL s3 s4 s5 s6
            refine z_seq ?_
            simp only [L2.start, List.map_cons, List.map_nil, List.length_cons, List.length_nil, Nat.zero_add, Nat.reduceAdd, Nat.reduceSub, List.replicate_succ, List.replicate_zero, List.cons_append, List.nil_append, List.append_nil, L2.tNext, L2.tAsg, L2.gName, L2.tRet, L2.tRetN, L2.tIfS, L2.tVar, L2.tC, L2.tOp, L2.tUn, L2.rI, L2.rI0, L2.rU, L2.rEq, L2.rNe, L2.tTest, L2.tB, L2.tIf, Z.tIfCI, Z.tIfCS, L2.tChain, L2.tCons, L2.tNil, L2.tCall, L2.tDrop, L2.tAndV, L2.tOrV, L2.tNotV, L2.tAnd, L2.tOr, L2.tNot, L2.tCB, Z.sc_ii, Z.sc_ss, Z.sc_bb, Z.sc_is, Z.sc_si, Z.sc_ni, Z.sc_in, Z.sc_ns, Z.sc_sn, Z.sc_nn, L2.CDiv, L2.CPow, L2.CMul, List.getElem?_cons_zero, List.getElem?_cons_succ, Z.set_z, Z.set_s, Option.some.injEq, L2.V.int.injEq, L2.V.bl.injEq, L2.V.str.injEq, L2.V.ref.injEq, L2.V.ty.injEq, List.cons.injEq, exists_eq_left', exists_and_left, exists_eq_left, exists_eq_right, exists_eq_right', exists_eq', exists_eq, true_and, and_true, and_assoc, decide_eq_true_eq, Int.reduceLT, and_self, Z.rIxH, Z.rIxU, Z.at30, Z.at31, Z.at32, Z.ix3_0, Z.ix3_1, Z.ix3_2, L2.rSetL, L2.gSub, Z.gTupH, L2.gCons, L2.gNil, L2.HO.lst.injEq, L2.HO.tup.injEq, L2.upd_same, L2.upd_upd, L2.tSl, L2.tNoPart, L2.tPart, L2.rSlL, L2.rCat, List.length_append, or_false, false_or, or_true, true_or, reduceCtorEq, false_and, and_false, exists_false, Int.reduceNeg, Int.reducePow, Int.reduceToNat, Int.reduceAbs, Int.reduceLE, Int.reduceMul, Int.reduceAdd, Int.reduceSub, Nat.reducePow, Nat.reduceLT, Nat.reduceLeDiff, Int.natAbs_natCast, if_true, if_false, Z.rIsN, Z.tyN, Z.kit_ii, Z.kit_bi, Z.kit_si, Z.kit_ni, Z.kit_ib, Z.kit_bb, Z.kit_sb, Z.kit_nb, Z.kit_is, Z.kit_bs, Z.kit_ss, Z.kit_ns, Bool.not_true, Bool.not_false, L2.tTup, L2.tLst, L2.wipe, L2.tYes, Z.Turn1, L2.tNever, sizeLine_eq, Z.rInU, Z.rInH, L2.flatV, List.any_cons, List.any_nil, List.all_cons, List.all_nil, Bool.and_true, Bool.true_and, Bool.or_false, Bool.false_or, Z.tBML, L2.rAppend, Z.map_int_inj, Z.map_bl_inj, Z.rTupL, Z.rLstL, Z.rLstT, Z.rSortI, Z.rAnyH, Z.rAllH, Z.rSumH, Z.rLenL, Z.rLenU, List.length_map, L2.tPar, Z.tCallK0, List.getD_cons_zero, List.getD_cons_succ, sp_zigzag_evening, sp_zigzag_beside, sp__law_neighbours, sp_zigzag_place, sp_zigzag_person, sp__law_draw, sp__law_is_party, sp_zigzag, sp__law_zigzag, sp__law_of]
            refine lc_bindL ?_
            simp only [L2.start, List.map_cons, List.map_nil, List.length_cons, List.length_nil, Nat.zero_add, Nat.reduceAdd, Nat.reduceSub, List.replicate_succ, List.replicate_zero, List.cons_append, List.nil_append, List.append_nil, L2.tNext, L2.tAsg, L2.gName, L2.tRet, L2.tRetN, L2.tIfS, L2.tVar, L2.tC, L2.tOp, L2.tUn, L2.rI, L2.rI0, L2.rU, L2.rEq, L2.rNe, L2.tTest, L2.tB, L2.tIf, Z.tIfCI, Z.tIfCS, L2.tChain, L2.tCons, L2.tNil, L2.tCall, L2.tDrop, L2.tAndV, L2.tOrV, L2.tNotV, L2.tAnd, L2.tOr, L2.tNot, L2.tCB, Z.sc_ii, Z.sc_ss, Z.sc_bb, Z.sc_is, Z.sc_si, Z.sc_ni, Z.sc_in, Z.sc_ns, Z.sc_sn, Z.sc_nn, L2.CDiv, L2.CPow, L2.CMul, List.getElem?_cons_zero, List.getElem?_cons_succ, Z.set_z, Z.set_s, Option.some.injEq, L2.V.int.injEq, L2.V.bl.injEq, L2.V.str.injEq, L2.V.ref.injEq, L2.V.ty.injEq, List.cons.injEq, exists_eq_left', exists_and_left, exists_eq_left, exists_eq_right, exists_eq_right', exists_eq', exists_eq, true_and, and_true, and_assoc, decide_eq_true_eq, Int.reduceLT, and_self, Z.rIxH, Z.rIxU, Z.at30, Z.at31, Z.at32, Z.ix3_0, Z.ix3_1, Z.ix3_2, L2.rSetL, L2.gSub, Z.gTupH, L2.gCons, L2.gNil, L2.HO.lst.injEq, L2.HO.tup.injEq, L2.upd_same, L2.upd_upd, L2.tSl, L2.tNoPart, L2.tPart, L2.rSlL, L2.rCat, List.length_append, or_false, false_or, or_true, true_or, reduceCtorEq, false_and, and_false, exists_false, Int.reduceNeg, Int.reducePow, Int.reduceToNat, Int.reduceAbs, Int.reduceLE, Int.reduceMul, Int.reduceAdd, Int.reduceSub, Nat.reducePow, Nat.reduceLT, Nat.reduceLeDiff, Int.natAbs_natCast, if_true, if_false, Z.rIsN, Z.tyN, Z.kit_ii, Z.kit_bi, Z.kit_si, Z.kit_ni, Z.kit_ib, Z.kit_bb, Z.kit_sb, Z.kit_nb, Z.kit_is, Z.kit_bs, Z.kit_ss, Z.kit_ns, Bool.not_true, Bool.not_false, L2.tTup, L2.tLst, L2.wipe, L2.tYes, Z.Turn1, L2.tNever, sizeLine_eq, Z.rInU, Z.rInH, L2.flatV, List.any_cons, List.any_nil, List.all_cons, List.all_nil, Bool.and_true, Bool.true_and, Bool.or_false, Bool.false_or, Z.tBML, L2.rAppend, Z.map_int_inj, Z.map_bl_inj, Z.rTupL, Z.rLstL, Z.rLstT, Z.rSortI, Z.rAnyH, Z.rAllH, Z.rSumH, Z.rLenL, Z.rLenU, List.length_map, L2.tPar, Z.tCallK0, List.getD_cons_zero, List.getD_cons_succ, sp_zigzag_evening, sp_zigzag_beside, sp__law_neighbours, sp_zigzag_place, sp_zigzag_person, sp__law_draw, sp__law_is_party, sp_zigzag, sp__law_zigzag, sp__law_of, kind_inj]
            refine ⟨_, eAA, _, i1, t, rfl, ?_⟩
            refine ⟨n, by omega, by omega, e, etA, fun N1 ns HA hN1 sB eN pN => ?_⟩
            have kpB := kpA.same sB
            have eAB := sB _ _ eAA
            have pAB := tups_same sB pAA
            clear sA kpA eAA pAA sB
            refine lc_mapL (a := N1) (xs := ns.map V.ref) (H1 := HA) (otherF HA x) (fun R h => h) (SqL.of eN) ?_ (fun z hz H7 s7 => ?_) fun M HB hM sC eM => ?_
            · rw [List.length_map, paired_len pN]
              unfold nbs
              rw [List.length_append, List.length_map, ups_len]
              have : (if r = true then [mm (personAt r n e 0) (personAt r n e (n - 1))] else []).length ≤ 1 := by
                split
                · exact Nat.le_refl 1
                · exact Nat.zero_le 1
              omega
            · obtain ⟨t3, ht3, rfl⟩ := List.mem_map.mp hz
              obtain ⟨q3, hq3, f3⟩ := paired_mem pN t3 ht3
              have g3 := s7 _ _ f3
              intro Y N hY hN
              simp only [L2.start, List.map_cons, List.map_nil, List.length_cons, List.length_nil, Nat.zero_add, Nat.reduceAdd, Nat.reduceSub, List.replicate_succ, List.replicate_zero, List.cons_append, List.nil_append, List.append_nil, L2.tNext, L2.tAsg, L2.gName, L2.tRet, L2.tRetN, L2.tIfS, L2.tVar, L2.tC, L2.tOp, L2.tUn, L2.rI, L2.rI0, L2.rU, L2.rEq, L2.rNe, L2.tTest, L2.tB, L2.tIf, Z.tIfCI, Z.tIfCS, L2.tChain, L2.tCons, L2.tNil, L2.tCall, L2.tDrop, L2.tAndV, L2.tOrV, L2.tNotV, L2.tAnd, L2.tOr, L2.tNot, L2.tCB, Z.sc_ii, Z.sc_ss, Z.sc_bb, Z.sc_is, Z.sc_si, Z.sc_ni, Z.sc_in, Z.sc_ns, Z.sc_sn, Z.sc_nn, L2.CDiv, L2.CPow, L2.CMul, List.getElem?_cons_zero, List.getElem?_cons_succ, Z.set_z, Z.set_s, Option.some.injEq, L2.V.int.injEq, L2.V.bl.injEq, L2.V.str.injEq, L2.V.ref.injEq, L2.V.ty.injEq, List.cons.injEq, exists_eq_left', exists_and_left, exists_eq_left, exists_eq_right, exists_eq_right', exists_eq', exists_eq, true_and, and_true, and_assoc, decide_eq_true_eq, Int.reduceLT, and_self, Z.rIxH, Z.rIxU, Z.at30, Z.at31, Z.at32, Z.ix3_0, Z.ix3_1, Z.ix3_2, L2.rSetL, L2.gSub, Z.gTupH, L2.gCons, L2.gNil, L2.HO.lst.injEq, L2.HO.tup.injEq, L2.upd_same, L2.upd_upd, L2.tSl, L2.tNoPart, L2.tPart, L2.rSlL, L2.rCat, List.length_append, or_false, false_or, or_true, true_or, reduceCtorEq, false_and, and_false, exists_false, Int.reduceNeg, Int.reducePow, Int.reduceToNat, Int.reduceAbs, Int.reduceLE, Int.reduceMul, Int.reduceAdd, Int.reduceSub, Nat.reducePow, Nat.reduceLT, Nat.reduceLeDiff, Int.natAbs_natCast, if_true, if_false, Z.rIsN, Z.tyN, Z.kit_ii, Z.kit_bi, Z.kit_si, Z.kit_ni, Z.kit_ib, Z.kit_bb, Z.kit_sb, Z.kit_nb, Z.kit_is, Z.kit_bs, Z.kit_ss, Z.kit_ns, Bool.not_true, Bool.not_false, L2.tTup, L2.tLst, L2.wipe, L2.tYes, Z.Turn1, L2.tNever, sizeLine_eq, Z.rInU, Z.rInH, L2.flatV, List.any_cons, List.any_nil, List.all_cons, List.all_nil, Bool.and_true, Bool.true_and, Bool.or_false, Bool.false_or, Z.tBML, L2.rAppend, Z.map_int_inj, Z.map_bl_inj, Z.rTupL, Z.rLstL, Z.rLstT, Z.rSortI, Z.rAnyH, Z.rAllH, Z.rSumH, Z.rLenL, Z.rLenU, List.length_map, L2.tPar, Z.tCallK0, List.getD_cons_zero, List.getD_cons_succ, sp_zigzag_evening, sp_zigzag_beside, sp__law_neighbours, sp_zigzag_place, sp_zigzag_person, sp__law_draw, sp__law_is_party, sp_zigzag, sp__law_zigzag, sp__law_of]
              refine ⟨_, g3, rfl, ?_⟩
              have e4 : inV (V.int x) [V.int q3.1, V.int q3.2] = decide (x = q3.1 ∨ x = q3.2) := by
                have h := inV_ints x [q3.1, q3.2]
                rw [show [q3.1, q3.2].map V.int = [V.int q3.1, V.int q3.2] from rfl] at h
                rw [h]
                congr 1
                simp only [List.mem_cons, List.not_mem_nil, or_false]
              rw [e4]
              by_cases c : x = q3.1 ∨ x = q3.2
              · rw [decide_eq_true c, if_pos rfl]
                refine ⟨_, g3, _, rfl, _, g3, _, rfl, _, rfl, _, rfl, ?_⟩
                refine hY _ H7 ?_ (Same.refl _)
                unfold otherF
                rw [pairOf_at f3, if_pos c]
              · rw [decide_eq_false c, if_neg Bool.false_ne_true]
                refine hN H7 ?_ (Same.refl _)
                unfold otherF
                rw [pairOf_at f3, if_neg c]
            · rw [fm_other pN] at eM
              have kpC := kpB.same sC
              have eAC := sC _ _ eAB
              have pAC := tups_same sC pAB
              refine ⟨M, rfl, _, eM, ?_, fun M1 hM1 => ?_⟩
              · have := mp.length_eq
                unfold matesL at this
                rw [this, List.length_map]
                have := spots_len r n j
                omega
              · have eb : ((nbs r n e).filterMap fun q => if x = q.1 ∨ x = q.2 then some (q.1 + q.2 - x) else none).mergeSort = besideL r n e x := by
                  unfold besideL
                  rw [hxi]
                  exact sort_perm mp
                rw [eb]
                have kpD := kpC.new (o := .lst ((besideL r n e x).map V.int)) hM1
                have eAD := same_new (o := .lst ((besideL r n e x).map V.int)) hM1 _ _ eAC
                have pAD := tups_same (same_new (o := .lst ((besideL r n e x).map V.int)) hM1) pAC
                have eMD : upd HB M1 (.lst ((besideL r n e x).map V.int)) M1 = some (.lst ((besideL r n e x).map V.int)) := upd_same
                generalize upd HB M1 (.lst ((besideL r n e x).map V.int)) = HD at *
                refine z_seq ?_
                simp only [L2.start, List.map_cons, List.map_nil, List.length_cons, List.length_nil, Nat.zero_add, Nat.reduceAdd, Nat.reduceSub, List.replicate_succ, List.replicate_zero, List.cons_append, List.nil_append, List.append_nil, L2.tNext, L2.tAsg, L2.gName, L2.tRet, L2.tRetN, L2.tIfS, L2.tVar, L2.tC, L2.tOp, L2.tUn, L2.rI, L2.rI0, L2.rU, L2.rEq, L2.rNe, L2.tTest, L2.tB, L2.tIf, Z.tIfCI, Z.tIfCS, L2.tChain, L2.tCons, L2.tNil, L2.tCall, L2.tDrop, L2.tAndV, L2.tOrV, L2.tNotV, L2.tAnd, L2.tOr, L2.tNot, L2.tCB, Z.sc_ii, Z.sc_ss, Z.sc_bb, Z.sc_is, Z.sc_si, Z.sc_ni, Z.sc_in, Z.sc_ns, Z.sc_sn, Z.sc_nn, L2.CDiv, L2.CPow, L2.CMul, List.getElem?_cons_zero, List.getElem?_cons_succ, Z.set_z, Z.set_s, Option.some.injEq, L2.V.int.injEq, L2.V.bl.injEq, L2.V.str.injEq, L2.V.ref.injEq, L2.V.ty.injEq, List.cons.injEq, exists_eq_left', exists_and_left, exists_eq_left, exists_eq_right, exists_eq_right', exists_eq', exists_eq, true_and, and_true, and_assoc, decide_eq_true_eq, Int.reduceLT, and_self, Z.rIxH, Z.rIxU, Z.at30, Z.at31, Z.at32, Z.ix3_0, Z.ix3_1, Z.ix3_2, L2.rSetL, L2.gSub, Z.gTupH, L2.gCons, L2.gNil, L2.HO.lst.injEq, L2.HO.tup.injEq, L2.upd_same, L2.upd_upd, L2.tSl, L2.tNoPart, L2.tPart, L2.rSlL, L2.rCat, List.length_append, or_false, false_or, or_true, true_or, reduceCtorEq, false_and, and_false, exists_false, Int.reduceNeg, Int.reducePow, Int.reduceToNat, Int.reduceAbs, Int.reduceLE, Int.reduceMul, Int.reduceAdd, Int.reduceSub, Nat.reducePow, Nat.reduceLT, Nat.reduceLeDiff, Int.natAbs_natCast, if_true, if_false, Z.rIsN, Z.tyN, Z.kit_ii, Z.kit_bi, Z.kit_si, Z.kit_ni, Z.kit_ib, Z.kit_bb, Z.kit_sb, Z.kit_nb, Z.kit_is, Z.kit_bs, Z.kit_ss, Z.kit_ns, Bool.not_true, Bool.not_false, L2.tTup, L2.tLst, L2.wipe, L2.tYes, Z.Turn1, L2.tNever, sizeLine_eq, Z.rInU, Z.rInH, L2.flatV, List.any_cons, List.any_nil, List.all_cons, List.all_nil, Bool.and_true, Bool.true_and, Bool.or_false, Bool.false_or, Z.tBML, L2.rAppend, Z.map_int_inj, Z.map_bl_inj, Z.rTupL, Z.rLstL, Z.rLstT, Z.rSortI, Z.rAnyH, Z.rAllH, Z.rSumH, Z.rLenL, Z.rLenU, List.length_map, L2.tPar, Z.tCallK0, List.getD_cons_zero, List.getD_cons_succ, sp_zigzag_evening, sp_zigzag_beside, sp__law_neighbours, sp_zigzag_place, sp_zigzag_person, sp__law_draw, sp__law_is_party, sp_zigzag, sp__law_zigzag, sp__law_of, kind_inj]
                refine ⟨hsz, he0, hek2, b.1, b.2, fun H11 t4 ht4 s11 e12 => ⟨hsz, he0, hek2, b.1, b.2, fun H12 t5 ht5 s12 e13 => fun c2 hc2 => ?_⟩⟩
                refine z_seq ?_
                simp only [L2.start, List.map_cons, List.map_nil, List.length_cons, List.length_nil, Nat.zero_add, Nat.reduceAdd, Nat.reduceSub, List.replicate_succ, List.replicate_zero, List.cons_append, List.nil_append, List.append_nil, L2.tNext, L2.tAsg, L2.gName, L2.tRet, L2.tRetN, L2.tIfS, L2.tVar, L2.tC, L2.tOp, L2.tUn, L2.rI, L2.rI0, L2.rU, L2.rEq, L2.rNe, L2.tTest, L2.tB, L2.tIf, Z.tIfCI, Z.tIfCS, L2.tChain, L2.tCons, L2.tNil, L2.tCall, L2.tDrop, L2.tAndV, L2.tOrV, L2.tNotV, L2.tAnd, L2.tOr, L2.tNot, L2.tCB, Z.sc_ii, Z.sc_ss, Z.sc_bb, Z.sc_is, Z.sc_si, Z.sc_ni, Z.sc_in, Z.sc_ns, Z.sc_sn, Z.sc_nn, L2.CDiv, L2.CPow, L2.CMul, List.getElem?_cons_zero, List.getElem?_cons_succ, Z.set_z, Z.set_s, Option.some.injEq, L2.V.int.injEq, L2.V.bl.injEq, L2.V.str.injEq, L2.V.ref.injEq, L2.V.ty.injEq, List.cons.injEq, exists_eq_left', exists_and_left, exists_eq_left, exists_eq_right, exists_eq_right', exists_eq', exists_eq, true_and, and_true, and_assoc, decide_eq_true_eq, Int.reduceLT, and_self, Z.rIxH, Z.rIxU, Z.at30, Z.at31, Z.at32, Z.ix3_0, Z.ix3_1, Z.ix3_2, L2.rSetL, L2.gSub, Z.gTupH, L2.gCons, L2.gNil, L2.HO.lst.injEq, L2.HO.tup.injEq, L2.upd_same, L2.upd_upd, L2.tSl, L2.tNoPart, L2.tPart, L2.rSlL, L2.rCat, List.length_append, or_false, false_or, or_true, true_or, reduceCtorEq, false_and, and_false, exists_false, Int.reduceNeg, Int.reducePow, Int.reduceToNat, Int.reduceAbs, Int.reduceLE, Int.reduceMul, Int.reduceAdd, Int.reduceSub, Nat.reducePow, Nat.reduceLT, Nat.reduceLeDiff, Int.natAbs_natCast, if_true, if_false, Z.rIsN, Z.tyN, Z.kit_ii, Z.kit_bi, Z.kit_si, Z.kit_ni, Z.kit_ib, Z.kit_bb, Z.kit_sb, Z.kit_nb, Z.kit_is, Z.kit_bs, Z.kit_ss, Z.kit_ns, Bool.not_true, Bool.not_false, L2.tTup, L2.tLst, L2.wipe, L2.tYes, Z.Turn1, L2.tNever, sizeLine_eq, Z.rInU, Z.rInH, L2.flatV, List.any_cons, List.any_nil, List.all_cons, List.all_nil, Bool.and_true, Bool.true_and, Bool.or_false, Bool.false_or, Z.tBML, L2.rAppend, Z.map_int_inj, Z.map_bl_inj, Z.rTupL, Z.rLstL, Z.rLstT, Z.rSortI, Z.rAnyH, Z.rAllH, Z.rSumH, Z.rLenL, Z.rLenU, List.length_map, L2.tPar, Z.tCallK0, List.getD_cons_zero, List.getD_cons_succ, sp_zigzag_evening, sp_zigzag_beside, sp__law_neighbours, sp_zigzag_place, sp_zigzag_person, sp__law_draw, sp__law_is_party, sp_zigzag, sp__law_zigzag, sp__law_of, kind_inj]
                have big : ∀ z : Int, z < n → z < 2 ^ 200 := fun z hz => by
                  have h2 : (41 : Int) ≤ 2 ^ 200 := by decide
                  omega
                have inB : ∀ z, z ∈ besideL r n e x → ∃ f, f ∈ spots r n j ∧ z = personAt r n e f := fun z hz => by
                  unfold besideL at hz
                  rw [List.mem_mergeSort, hxi] at hz
                  obtain ⟨f, hf, rfl⟩ := List.mem_map.mp hz
                  exact ⟨f, hf, rfl⟩
                have lenB : (besideL r n e x).length ≤ 2 := by
                  unfold besideL
                  rw [List.length_mergeSort, List.length_map]
                  exact spots_len _ _ _
                have lowB : Low (besideL r n e x) := by
                  refine ⟨fun z hz => ?_, by omega⟩
                  obtain ⟨f, hf, rfl⟩ := inB z hz
                  have f2 := fx f hf
                  have b2 := at_bound hs he0 hek f2.1 f2.2.1
                  exact ⟨b2.1, big _ b2.2⟩
                have lows : ∀ l ∈ [besideL r n e x, besideL r n e x], Low l := by
                  intro l hl
                  simp only [List.mem_cons, List.not_mem_nil, or_false, or_self] at hl
                  rw [hl]
                  exact lowB
                have s13 := same_new (o := .lst [.ref t4, .ref t5]) hc2
                refine repr_ltups (as := [t4, t5]) (ls := [besideL r n e x, besideL r n e x]) upd_same (.cons (s13 _ _ (s12 _ _ e12)) (.cons (s13 _ _ e13) .nil)) lows (by show 2 ≤ 4; decide) ?_
                have sE := (s11.trans s12).trans s13
                refine ⟨_, sE _ _ eMD, fun u2 hu2 u3 hu3 => ?_⟩
                have s15 := same_new (o := .tup ((besideL r n e x).map V.int)) hu2
                have s16 := same_new (o := .lst [.ref u2]) hu3
                refine ⟨u3, 2, [.ref u2], rfl, rfl, upd_same, by decide, by decide, by rw [sizeLine_eq]; show 2 ≤ 16777216; decide, fun u4 hu4 => ?_⟩
                have er : (List.replicate (Int.toNat 2) [V.ref u2]).flatten = [V.ref u2, V.ref u2] := rfl
                rw [er]
                have s17 := same_new (o := .lst [.ref u2, .ref u2]) hu4
                have e17 := s17 _ _ (s16 _ _ (upd_same (a := u2) (o := .tup ((besideL r n e x).map V.int))))
                refine repr_ltups (as := [u2, u2]) (ls := [besideL r n e x, besideL r n e x]) upd_same (.cons e17 (.cons e17 .nil)) lows (by show 2 ≤ 4; decide) ⟨rfl, ?_⟩
                rw [decide_eq_true rfl, if_neg (by decide)]
                have sF := ((sE.trans s15).trans s16).trans s17
                have kpF := kpD.same sF
                have eMF := sF _ _ eMD
                have eAF := sF _ _ eAD
                have pAF := tups_same sF pAD
                clear hu2 hu3 hu4 s15 s16 s17 e17 er sE sF s13 hc2
                refine for_trk (a := M1) (xs := (besideL r n e x).map V.int) (fun R h => ⟨_, rfl, h⟩) (fun _ σ' H' => ∃ w9 w11 : Option V, σ' = [some (.ref p), some (.int i), some (.str (kindS r)), some (.int n), some (.ref A), some (.int i2), some (.int e), some (.int j), some (.int x), w9, some (.ref M1), w11, v12, v13] ∧ Kp p H H' ∧ H' A = some (.tup (bs.map V.ref)) ∧ Paired (TupAt H') bs (zz r n) ∧ H' M1 = some (.lst ((besideL r n e x).map V.int))) ⟨_, _, rfl, kpF, eAF, pAF, eMF⟩ (fun _ _ _ h => by obtain ⟨_, _, _, _, _, _, h⟩ := h; exact SqL.of h) ?_ ?_
                · clear kpF eMF eAF pAF
                  rintro ix y σ' H' hix ⟨w9, w11, rfl, kpx, eAx, pAx, eMx⟩ N hN
                  obtain ⟨x0, hm2, rfl⟩ := mem_ints (List.mem_of_getElem? hix)
                  obtain ⟨f, hf, rfl⟩ := inB x0 hm2
                  have f2 := fx f hf
                  have fb := at_bound hs he0 hek f2.1 f2.2.1
                  have evf := ev f hf
                  have evg : eveningOf r n (personAt r n e f) x = e := by rw [evening_comm]; exact evf
                  simp only [L2.start, List.map_cons, List.map_nil, List.length_cons, List.length_nil, Nat.zero_add, Nat.reduceAdd, Nat.reduceSub, List.replicate_succ, List.replicate_zero, List.cons_append, List.nil_append, List.append_nil, L2.tNext, L2.tAsg, L2.gName, L2.tRet, L2.tRetN, L2.tIfS, L2.tVar, L2.tC, L2.tOp, L2.tUn, L2.rI, L2.rI0, L2.rU, L2.rEq, L2.rNe, L2.tTest, L2.tB, L2.tIf, Z.tIfCI, Z.tIfCS, L2.tChain, L2.tCons, L2.tNil, L2.tCall, L2.tDrop, L2.tAndV, L2.tOrV, L2.tNotV, L2.tAnd, L2.tOr, L2.tNot, L2.tCB, Z.sc_ii, Z.sc_ss, Z.sc_bb, Z.sc_is, Z.sc_si, Z.sc_ni, Z.sc_in, Z.sc_ns, Z.sc_sn, Z.sc_nn, L2.CDiv, L2.CPow, L2.CMul, List.getElem?_cons_zero, List.getElem?_cons_succ, Z.set_z, Z.set_s, Option.some.injEq, L2.V.int.injEq, L2.V.bl.injEq, L2.V.str.injEq, L2.V.ref.injEq, L2.V.ty.injEq, List.cons.injEq, exists_eq_left', exists_and_left, exists_eq_left, exists_eq_right, exists_eq_right', exists_eq', exists_eq, true_and, and_true, and_assoc, decide_eq_true_eq, Int.reduceLT, and_self, Z.rIxH, Z.rIxU, Z.at30, Z.at31, Z.at32, Z.ix3_0, Z.ix3_1, Z.ix3_2, L2.rSetL, L2.gSub, Z.gTupH, L2.gCons, L2.gNil, L2.HO.lst.injEq, L2.HO.tup.injEq, L2.upd_same, L2.upd_upd, L2.tSl, L2.tNoPart, L2.tPart, L2.rSlL, L2.rCat, List.length_append, or_false, false_or, or_true, true_or, reduceCtorEq, false_and, and_false, exists_false, Int.reduceNeg, Int.reducePow, Int.reduceToNat, Int.reduceAbs, Int.reduceLE, Int.reduceMul, Int.reduceAdd, Int.reduceSub, Nat.reducePow, Nat.reduceLT, Nat.reduceLeDiff, Int.natAbs_natCast, if_true, if_false, Z.rIsN, Z.tyN, Z.kit_ii, Z.kit_bi, Z.kit_si, Z.kit_ni, Z.kit_ib, Z.kit_bb, Z.kit_sb, Z.kit_nb, Z.kit_is, Z.kit_bs, Z.kit_ss, Z.kit_ns, Bool.not_true, Bool.not_false, L2.tTup, L2.tLst, L2.wipe, L2.tYes, Z.Turn1, L2.tNever, sizeLine_eq, Z.rInU, Z.rInH, L2.flatV, List.any_cons, List.any_nil, List.all_cons, List.all_nil, Bool.and_true, Bool.true_and, Bool.or_false, Bool.false_or, Z.tBML, L2.rAppend, Z.map_int_inj, Z.map_bl_inj, Z.rTupL, Z.rLstL, Z.rLstT, Z.rSortI, Z.rAnyH, Z.rAllH, Z.rSumH, Z.rLenL, Z.rLenU, List.length_map, L2.tPar, Z.tCallK0, List.getD_cons_zero, List.getD_cons_succ, sp_zigzag_evening, sp_zigzag_beside, sp__law_neighbours, sp_zigzag_place, sp_zigzag_person, sp__law_draw, sp__law_is_party, sp_zigzag, sp__law_zigzag, sp__law_of]
                  refine z_seq ?_
                  simp only [L2.start, List.map_cons, List.map_nil, List.length_cons, List.length_nil, Nat.zero_add, Nat.reduceAdd, Nat.reduceSub, List.replicate_succ, List.replicate_zero, List.cons_append, List.nil_append, List.append_nil, L2.tNext, L2.tAsg, L2.gName, L2.tRet, L2.tRetN, L2.tIfS, L2.tVar, L2.tC, L2.tOp, L2.tUn, L2.rI, L2.rI0, L2.rU, L2.rEq, L2.rNe, L2.tTest, L2.tB, L2.tIf, Z.tIfCI, Z.tIfCS, L2.tChain, L2.tCons, L2.tNil, L2.tCall, L2.tDrop, L2.tAndV, L2.tOrV, L2.tNotV, L2.tAnd, L2.tOr, L2.tNot, L2.tCB, Z.sc_ii, Z.sc_ss, Z.sc_bb, Z.sc_is, Z.sc_si, Z.sc_ni, Z.sc_in, Z.sc_ns, Z.sc_sn, Z.sc_nn, L2.CDiv, L2.CPow, L2.CMul, List.getElem?_cons_zero, List.getElem?_cons_succ, Z.set_z, Z.set_s, Option.some.injEq, L2.V.int.injEq, L2.V.bl.injEq, L2.V.str.injEq, L2.V.ref.injEq, L2.V.ty.injEq, List.cons.injEq, exists_eq_left', exists_and_left, exists_eq_left, exists_eq_right, exists_eq_right', exists_eq', exists_eq, true_and, and_true, and_assoc, decide_eq_true_eq, Int.reduceLT, and_self, Z.rIxH, Z.rIxU, Z.at30, Z.at31, Z.at32, Z.ix3_0, Z.ix3_1, Z.ix3_2, L2.rSetL, L2.gSub, Z.gTupH, L2.gCons, L2.gNil, L2.HO.lst.injEq, L2.HO.tup.injEq, L2.upd_same, L2.upd_upd, L2.tSl, L2.tNoPart, L2.tPart, L2.rSlL, L2.rCat, List.length_append, or_false, false_or, or_true, true_or, reduceCtorEq, false_and, and_false, exists_false, Int.reduceNeg, Int.reducePow, Int.reduceToNat, Int.reduceAbs, Int.reduceLE, Int.reduceMul, Int.reduceAdd, Int.reduceSub, Nat.reducePow, Nat.reduceLT, Nat.reduceLeDiff, Int.natAbs_natCast, if_true, if_false, Z.rIsN, Z.tyN, Z.kit_ii, Z.kit_bi, Z.kit_si, Z.kit_ni, Z.kit_ib, Z.kit_bb, Z.kit_sb, Z.kit_nb, Z.kit_is, Z.kit_bs, Z.kit_ss, Z.kit_ns, Bool.not_true, Bool.not_false, L2.tTup, L2.tLst, L2.wipe, L2.tYes, Z.Turn1, L2.tNever, sizeLine_eq, Z.rInU, Z.rInH, L2.flatV, List.any_cons, List.any_nil, List.all_cons, List.all_nil, Bool.and_true, Bool.true_and, Bool.or_false, Bool.false_or, Z.tBML, L2.rAppend, Z.map_int_inj, Z.map_bl_inj, Z.rTupL, Z.rLstL, Z.rLstT, Z.rSortI, Z.rAnyH, Z.rAllH, Z.rSumH, Z.rLenL, Z.rLenU, List.length_map, L2.tPar, Z.tCallK0, List.getD_cons_zero, List.getD_cons_succ, sp_zigzag_evening, sp_zigzag_beside, sp__law_neighbours, sp_zigzag_place, sp_zigzag_person, sp__law_draw, sp__law_is_party, sp_zigzag, sp__law_zigzag, sp__law_of, kind_inj]
                  refine ⟨hsz, b.1, b.2, fb.1, fb.2, f2.2.2, fun H20 s20 => ⟨hsz, b.1, b.2, fb.1, fb.2, f2.2.2, fun H21 s21 L5 hL5 => ?_⟩⟩
                  rw [evf]
                  have hen : e < n := by
                    have := nights_le (r := r) (n := n) (by omega)
                    omega
                  have lowE : Low [e, e] := ⟨fun z hz => by
                    simp only [List.mem_cons, List.not_mem_nil, or_false, or_self] at hz
                    subst hz
                    exact ⟨he0, big _ (by omega)⟩, by show 2 ≤ 200; decide⟩
                  have s22 := (s20.trans s21).trans (same_new (o := .lst [.int e, .int e]) hL5)
                  refine repr_lst upd_same lowE ?_
                  intro b3 hb3
                  have s23 := s22.trans (same_new (o := .lst [.int e, .int e]) hb3)
                  refine repr_lst upd_same lowE ⟨rfl, ?_⟩
                  rw [decide_eq_true rfl, if_neg (by decide)]
                  exact hN _ _ ⟨_, _, rfl, kpx.same s23, s23 _ _ eAx, tups_same s23 pAx, s23 _ _ eMx⟩
                · rintro σ' H' ⟨w9, w11, rfl, kpx, eAx, pAx, _⟩
                  exact ⟨_, _, _, _, _, _, _, _, _, rfl, kpx, eAx, pAx⟩
        · rintro σ H' ⟨v5, v6, v7, v8, v9, v10, v11, v12, v13, rfl, kp, _, _⟩
          exact ⟨_, _, _, _, _, _, _, _, _, _, _, _, _, rfl, kp⟩
    · rintro σ H' ⟨v1, v2, v3, v4, v5, v6, v7, v8, v9, v10, v11, v12, v13, rfl, kp⟩
      simp only [L2.start, List.map_cons, List.map_nil, List.length_cons, List.length_nil, Nat.zero_add, Nat.reduceAdd, Nat.reduceSub, List.replicate_succ, List.replicate_zero, List.cons_append, List.nil_append, List.append_nil, L2.tSeq, L2.tNext, L2.tAsg, L2.gName, L2.tRet, L2.tRetN, L2.tIfS, L2.tVar, L2.tC, L2.tOp, L2.tUn, L2.rI, L2.rI0, L2.rU, L2.rEq, L2.rNe, L2.tTest, L2.tB, L2.tIf, Z.tIfCI, Z.tIfCS, L2.tChain, L2.tCons, L2.tNil, L2.tCall, L2.tDrop, L2.tAndV, L2.tOrV, L2.tNotV, L2.tAnd, L2.tOr, L2.tNot, L2.tCB, Z.sc_ii, Z.sc_ss, Z.sc_bb, Z.sc_is, Z.sc_si, Z.sc_ni, Z.sc_in, Z.sc_ns, Z.sc_sn, Z.sc_nn, L2.CDiv, L2.CPow, L2.CMul, List.getElem?_cons_zero, List.getElem?_cons_succ, Z.set_z, Z.set_s, Option.some.injEq, L2.V.int.injEq, L2.V.bl.injEq, L2.V.str.injEq, L2.V.ref.injEq, L2.V.ty.injEq, List.cons.injEq, exists_eq_left', exists_and_left, exists_eq_left, exists_eq_right, exists_eq_right', exists_eq', exists_eq, true_and, and_true, and_assoc, decide_eq_true_eq, Int.reduceLT, and_self, Z.rIxH, Z.rIxU, Z.at30, Z.at31, Z.at32, Z.ix3_0, Z.ix3_1, Z.ix3_2, L2.rSetL, L2.gSub, Z.gTupH, L2.gCons, L2.gNil, L2.HO.lst.injEq, L2.HO.tup.injEq, L2.upd_same, L2.upd_upd, L2.tSl, L2.tNoPart, L2.tPart, L2.rSlL, L2.rCat, List.length_append, or_false, false_or, or_true, true_or, reduceCtorEq, false_and, and_false, exists_false, Int.reduceNeg, Int.reducePow, Int.reduceToNat, Int.reduceAbs, Int.reduceLE, Int.reduceMul, Int.reduceAdd, Int.reduceSub, Nat.reducePow, Nat.reduceLT, Nat.reduceLeDiff, Int.natAbs_natCast, if_true, if_false, Z.rIsN, Z.tyN, Z.kit_ii, Z.kit_bi, Z.kit_si, Z.kit_ni, Z.kit_ib, Z.kit_bb, Z.kit_sb, Z.kit_nb, Z.kit_is, Z.kit_bs, Z.kit_ss, Z.kit_ns, Bool.not_true, Bool.not_false, L2.tTup, L2.tLst, L2.wipe, L2.tYes, Z.Turn1, L2.tNever, sizeLine_eq, Z.rInU, Z.rInH, L2.flatV, List.any_cons, List.any_nil, List.all_cons, List.all_nil, Bool.and_true, Bool.true_and, Bool.or_false, Bool.false_or, Z.tBML, L2.rAppend, Z.map_int_inj, Z.map_bl_inj, Z.rTupL, Z.rLstL, Z.rLstT, Z.rSortI, Z.rAnyH, Z.rAllH, Z.rSumH, Z.rLenL, Z.rLenU, List.length_map, L2.tPar, Z.tCallK0, List.getD_cons_zero, List.getD_cons_succ, sp_zigzag_evening, sp_zigzag_beside, sp__law_neighbours, sp_zigzag_place, sp_zigzag_person, sp__law_draw, sp__law_is_party, sp_zigzag, sp__law_zigzag, sp__law_of]
      exact q _ kp
open Zig
def sp_law (K : PySem.W.Frag) : Sp := fun vs H Q _ => ∃ (a : Addr) (ns : List Int), vs = [.ref a] ∧ SqL K H a (ns.map V.int) ∧ ns.length ≤ 63 ∧ ∀ H', Q (.bl true) H'
theorem ok_law (T : Env K mg) : HdG P w K mg base CX0 7 "law" s_law ["_law_script"] (sp_law K) := by
  have H__law_right := ok__law_right (P := P) (w := w) (base := base) T
  have H__law_spring := ok__law_spring (P := P) (w := w) (base := base) T
  have H_zigzag_beside := ok_zigzag_beside (P := P) (w := w) (base := base) T
  have H_zigzag := ok_zigzag (P := P) (w := w) (base := base) T
  obtain ⟨f, fd, F, hm⟩ := T.d_law
  refine ⟨⟨f, fd, F, hm, ?_⟩, fun _ _ _ _ _ _ _ us hl => match us, hl with | [_], _ => rfl⟩
  refine fun_okG F sc_law (fun vs H Q E h => ?_) (fun cdv A outer s H vs Q E hr gd h => ?_)
  · first | (obtain ⟨rfl, _⟩ := h; rfl) | (obtain ⟨_, rfl, _⟩ := h; rfl) | (obtain ⟨_, _, rfl, _⟩ := h; rfl) | (obtain ⟨_, _, _, rfl, _⟩ := h; rfl) | (obtain ⟨_, _, _, _, rfl, _⟩ := h; rfl) | (obtain ⟨_, _, _, _, _, rfl, _⟩ := h; rfl) | (obtain ⟨_, _, _, _, _, _, rfl, _⟩ := h; rfl) | (obtain ⟨_, _, _, _, _, _, _, rfl, _⟩ := h; rfl) | (obtain ⟨_, _, _, _, _, _, _, _, rfl, _⟩ := h; rfl)
  · obtain ⟨a, ns, rfl, hs, hl, q⟩ := h
    have hu := hu_of hr
    refine ⟨_, pss_cons (ps_if (PW.pt (pw_or (pt_cmpR (op_neD hr.units) (pe_hd H_zigzag (hr.mono (by decide)) rfl pass0 (pa_cons pe_str (pa_cons pe_int pa_nil))) (pe_tup (pa_cons (pe_tup (pa_cons pe_int (pa_cons pe_int (pa_cons pe_int (pa_cons pe_int (pa_cons pe_int pa_nil)))))) (pa_cons (pe_tup (pa_cons pe_int (pa_cons pe_int (pa_cons pe_int (pa_cons pe_int (pa_cons pe_int pa_nil)))))) pa_nil))) (nomark _)) (pw_or1 (pt_cmpR (op_neD hr.units) (pe_hd H_zigzag (hr.mono (by decide)) rfl pass0 (pa_cons pe_str (pa_cons pe_int pa_nil))) (pe_tup (pa_cons (pe_tup (pa_cons pe_int (pa_cons pe_int (pa_cons pe_int (pa_cons pe_int pa_nil))))) (pa_cons (pe_tup (pa_cons pe_int (pa_cons pe_int (pa_cons pe_int (pa_cons pe_int pa_nil))))) pa_nil))) (nomark _))))) (pss_one (ps_ret pe_bl))
      (pss_nil))
      (pss_cons (ps_if (pt_cmpR (op_neD hr.units) (pe_lst (pa_cons (pe_hd H_zigzag (hr.mono (by decide)) rfl pass0 (pa_cons pe_str (pa_cons pe_int pa_nil))) (pa_cons (pe_hd H_zigzag (hr.mono (by decide)) rfl pass0 (pa_cons pe_str (pa_cons pe_int pa_nil))) (pa_cons (pe_hd H_zigzag_beside (hr.mono (by decide)) rfl pass0 (pa_cons pe_str (pa_cons pe_int (pa_cons pe_int (pa_cons pe_int pa_nil))))) pa_nil)))) (pe_lst (pa_cons (pe_tup (pa_cons (pe_tup (pa_cons pe_int (pa_cons pe_int (pa_cons pe_int pa_nil)))) pa_nil)) (pa_cons (pe_tup (pa_cons (pe_tup (pa_cons pe_int (pa_cons pe_int pa_nil))) pa_nil)) (pa_cons (pe_tup (pa_cons pe_int pa_nil)) pa_nil)))) (nomark _)) (pss_one (ps_ret pe_bl))
      (pss_nil))
      (pss_one (ps_ret (pe_callB (cr_allH rfl) rfl T.b_all (by decide +kernel) (pa_cons (pe_lc (own := [("_law_k", 1)]) (g := (gName 1)) (tt := tYes) rfl sc_law.nd (pi_range1 rfl T.b_range (pa_cons (pe_callB (call_max2 rfl) rfl T.b_max (by decide +kernel) (pa_cons pe_int (pa_cons (pe_callB (call_min2 rfl) rfl T.b_min (by decide +kernel) (pa_cons (pe_callB call_len_seq rfl T.b_len (by decide +kernel) (pa_cons (pv 0) pa_nil)) (pa_cons pe_int pa_nil))) pa_nil))) pa_nil)) (blkOk_by (own := [("_law_k", 1)]) (N := N_law) (sc := defScope s_law) (by decide +kernel)) (fun _ _ _ _ _ => pg_name (i := 1) sc_law.nd rfl (by first | exact .inl rfl | exact .inr rfl)) (fun _ _ _ _ _ => pts_nil) (fun _ _ _ _ _ => (pe_hdG H__law_right (hr.mono (by decide)) gd rfl pass0 (pa_cons (pe_hd H__law_spring (hr.mono (by decide)) rfl pass0 (pa_cons (pv 0) (pa_cons (pv 1) pa_nil))) pa_nil)))) pa_nil))))), ?_⟩
    simp only [L2.start, List.map_cons, List.map_nil, List.length_cons, List.length_nil, Nat.zero_add, Nat.reduceAdd, Nat.reduceSub, List.replicate_succ, List.replicate_zero, List.cons_append, List.nil_append, List.append_nil, L2.tNext, L2.tAsg, L2.gName, L2.tRet, L2.tRetN, L2.tIfS, L2.tVar, L2.tC, L2.tOp, L2.tUn, L2.rI, L2.rI0, L2.rU, L2.rEq, L2.rNe, L2.tTest, L2.tB, L2.tIf, Z.tIfCI, Z.tIfCS, L2.tChain, L2.tCons, L2.tNil, L2.tCall, L2.tDrop, L2.tAndV, L2.tOrV, L2.tNotV, L2.tAnd, L2.tOr, L2.tNot, L2.tCB, Z.sc_ii, Z.sc_ss, Z.sc_bb, Z.sc_is, Z.sc_si, Z.sc_ni, Z.sc_in, Z.sc_ns, Z.sc_sn, Z.sc_nn, L2.CDiv, L2.CPow, L2.CMul, List.getElem?_cons_zero, List.getElem?_cons_succ, Z.set_z, Z.set_s, Option.some.injEq, L2.V.int.injEq, L2.V.bl.injEq, L2.V.str.injEq, L2.V.ref.injEq, L2.V.ty.injEq, List.cons.injEq, exists_eq_left', exists_and_left, exists_eq_left, exists_eq_right, exists_eq_right', exists_eq', exists_eq, true_and, and_true, and_assoc, decide_eq_true_eq, Int.reduceLT, and_self, Z.rIxH, Z.rIxU, Z.at30, Z.at31, Z.at32, Z.ix3_0, Z.ix3_1, Z.ix3_2, L2.rSetL, L2.gSub, Z.gTupH, L2.gCons, L2.gNil, L2.HO.lst.injEq, L2.HO.tup.injEq, L2.upd_same, L2.upd_upd, L2.tSl, L2.tNoPart, L2.tPart, L2.rSlL, L2.rCat, List.length_append, or_false, false_or, or_true, true_or, reduceCtorEq, false_and, and_false, exists_false, Int.reduceNeg, Int.reducePow, Int.reduceToNat, Int.reduceAbs, Int.reduceLE, Int.reduceMul, Int.reduceAdd, Int.reduceSub, Nat.reducePow, Nat.reduceLT, Nat.reduceLeDiff, Int.natAbs_natCast, if_true, if_false, Z.rIsN, Z.tyN, Z.kit_ii, Z.kit_bi, Z.kit_si, Z.kit_ni, Z.kit_ib, Z.kit_bb, Z.kit_sb, Z.kit_nb, Z.kit_is, Z.kit_bs, Z.kit_ss, Z.kit_ns, Bool.not_true, Bool.not_false, L2.tTup, L2.tLst, L2.wipe, L2.tYes, Z.Turn1, L2.tNever, sizeLine_eq, Z.rInU, Z.rInH, L2.flatV, List.any_cons, List.any_nil, List.all_cons, List.all_nil, Bool.and_true, Bool.true_and, Bool.or_false, Bool.false_or, Z.tBML, L2.rAppend, Z.map_int_inj, Z.map_bl_inj, Z.rTupL, Z.rLstL, Z.rLstT, Z.rSortI, Z.rAnyH, Z.rAllH, Z.rSumH, Z.rLenL, Z.rLenU, List.length_map, L2.tPar, Z.tCallK0, List.getD_cons_zero, List.getD_cons_succ, sp__law_right, sp__law_spring, sp_zigzag_beside, sp_zigzag]
    refine z_seq ?_
    simp only [L2.start, List.map_cons, List.map_nil, List.length_cons, List.length_nil, Nat.zero_add, Nat.reduceAdd, Nat.reduceSub, List.replicate_succ, List.replicate_zero, List.cons_append, List.nil_append, List.append_nil, L2.tNext, L2.tAsg, L2.gName, L2.tRet, L2.tRetN, L2.tIfS, L2.tVar, L2.tC, L2.tOp, L2.tUn, L2.rI, L2.rI0, L2.rU, L2.rEq, L2.rNe, L2.tTest, L2.tB, L2.tIf, Z.tIfCI, Z.tIfCS, L2.tChain, L2.tCons, L2.tNil, L2.tCall, L2.tDrop, L2.tAndV, L2.tOrV, L2.tNotV, L2.tAnd, L2.tOr, L2.tNot, L2.tCB, Z.sc_ii, Z.sc_ss, Z.sc_bb, Z.sc_is, Z.sc_si, Z.sc_ni, Z.sc_in, Z.sc_ns, Z.sc_sn, Z.sc_nn, L2.CDiv, L2.CPow, L2.CMul, List.getElem?_cons_zero, List.getElem?_cons_succ, Z.set_z, Z.set_s, Option.some.injEq, L2.V.int.injEq, L2.V.bl.injEq, L2.V.str.injEq, L2.V.ref.injEq, L2.V.ty.injEq, List.cons.injEq, exists_eq_left', exists_and_left, exists_eq_left, exists_eq_right, exists_eq_right', exists_eq', exists_eq, true_and, and_true, and_assoc, decide_eq_true_eq, Int.reduceLT, and_self, Z.rIxH, Z.rIxU, Z.at30, Z.at31, Z.at32, Z.ix3_0, Z.ix3_1, Z.ix3_2, L2.rSetL, L2.gSub, Z.gTupH, L2.gCons, L2.gNil, L2.HO.lst.injEq, L2.HO.tup.injEq, L2.upd_same, L2.upd_upd, L2.tSl, L2.tNoPart, L2.tPart, L2.rSlL, L2.rCat, List.length_append, or_false, false_or, or_true, true_or, reduceCtorEq, false_and, and_false, exists_false, Int.reduceNeg, Int.reducePow, Int.reduceToNat, Int.reduceAbs, Int.reduceLE, Int.reduceMul, Int.reduceAdd, Int.reduceSub, Nat.reducePow, Nat.reduceLT, Nat.reduceLeDiff, Int.natAbs_natCast, if_true, if_false, Z.rIsN, Z.tyN, Z.kit_ii, Z.kit_bi, Z.kit_si, Z.kit_ni, Z.kit_ib, Z.kit_bb, Z.kit_sb, Z.kit_nb, Z.kit_is, Z.kit_bs, Z.kit_ss, Z.kit_ns, Bool.not_true, Bool.not_false, L2.tTup, L2.tLst, L2.wipe, L2.tYes, Z.Turn1, L2.tNever, sizeLine_eq, Z.rInU, Z.rInH, L2.flatV, List.any_cons, List.any_nil, List.all_cons, List.all_nil, Bool.and_true, Bool.true_and, Bool.or_false, Bool.false_or, Z.tBML, L2.rAppend, Z.map_int_inj, Z.map_bl_inj, Z.rTupL, Z.rLstL, Z.rLstT, Z.rSortI, Z.rAnyH, Z.rAllH, Z.rSumH, Z.rLenL, Z.rLenU, List.length_map, L2.tPar, Z.tCallK0, List.getD_cons_zero, List.getD_cons_succ, sp__law_right, sp__law_spring, sp_zigzag_beside, sp_zigzag, kind_inj, rings_eq, rows_eq]
    refine ⟨by decide, fun t1 as1 H1 ht1 s1 e1 p1 x1 hx1 x2 hx2 x3 hx3 => ?_⟩
    have m1 := same_new (o := tupO [4, 0, 1, 3, 2]) hx1
    have m2 := same_new (o := tupO [4, 1, 2, 0, 3]) hx2
    have m3 := same_new (o := .tup [.ref x1, .ref x2]) hx3
    have z1 : zz true 5 = [[4, 0, 1, 3, 2], [4, 1, 2, 0, 3]] := by decide
    rw [z1] at p1
    have m123 := (m1.trans m2).trans m3
    refine ne_ttups (as := as1) (bs := [x1, x2]) (ls := [[4, 0, 1, 3, 2], [4, 1, 2, 0, 3]]) (m123 _ _ e1) (tups_same m123 p1) upd_same (.cons (m3 _ _ (m2 _ _ upd_same)) (.cons (m3 _ _ upd_same) .nil)) ⟨false, rfl, ?_⟩
    rw [if_neg Bool.false_ne_true]
    have sA := s1.trans m123
    clear hx1 hx2 hx3 m1 m2 m3 m123 e1 p1
    refine ⟨by decide, fun t2 as2 H2 ht2 s2 e2 p2 y1 hy1 y2 hy2 y3 hy3 => ?_⟩
    have m1 := same_new (o := tupO [0, 1, 3, 2]) hy1
    have m2 := same_new (o := tupO [1, 2, 0, 3]) hy2
    have m3 := same_new (o := .tup [.ref y1, .ref y2]) hy3
    have z2 : zz false 4 = [[0, 1, 3, 2], [1, 2, 0, 3]] := by decide
    rw [z2] at p2
    have m123 := (m1.trans m2).trans m3
    refine ne_ttups (as := as2) (bs := [y1, y2]) (ls := [[0, 1, 3, 2], [1, 2, 0, 3]]) (m123 _ _ e2) (tups_same m123 p2) upd_same (.cons (m3 _ _ (m2 _ _ upd_same)) (.cons (m3 _ _ upd_same) .nil)) ⟨false, rfl, ?_⟩
    rw [if_neg Bool.false_ne_true]
    have sB := (sA.trans s2).trans m123
    clear hy1 hy2 hy3 m1 m2 m3 m123 e2 p2 s1 s2 sA
    refine z_seq ?_
    simp only [L2.start, List.map_cons, List.map_nil, List.length_cons, List.length_nil, Nat.zero_add, Nat.reduceAdd, Nat.reduceSub, List.replicate_succ, List.replicate_zero, List.cons_append, List.nil_append, List.append_nil, L2.tNext, L2.tAsg, L2.gName, L2.tRet, L2.tRetN, L2.tIfS, L2.tVar, L2.tC, L2.tOp, L2.tUn, L2.rI, L2.rI0, L2.rU, L2.rEq, L2.rNe, L2.tTest, L2.tB, L2.tIf, Z.tIfCI, Z.tIfCS, L2.tChain, L2.tCons, L2.tNil, L2.tCall, L2.tDrop, L2.tAndV, L2.tOrV, L2.tNotV, L2.tAnd, L2.tOr, L2.tNot, L2.tCB, Z.sc_ii, Z.sc_ss, Z.sc_bb, Z.sc_is, Z.sc_si, Z.sc_ni, Z.sc_in, Z.sc_ns, Z.sc_sn, Z.sc_nn, L2.CDiv, L2.CPow, L2.CMul, List.getElem?_cons_zero, List.getElem?_cons_succ, Z.set_z, Z.set_s, Option.some.injEq, L2.V.int.injEq, L2.V.bl.injEq, L2.V.str.injEq, L2.V.ref.injEq, L2.V.ty.injEq, List.cons.injEq, exists_eq_left', exists_and_left, exists_eq_left, exists_eq_right, exists_eq_right', exists_eq', exists_eq, true_and, and_true, and_assoc, decide_eq_true_eq, Int.reduceLT, and_self, Z.rIxH, Z.rIxU, Z.at30, Z.at31, Z.at32, Z.ix3_0, Z.ix3_1, Z.ix3_2, L2.rSetL, L2.gSub, Z.gTupH, L2.gCons, L2.gNil, L2.HO.lst.injEq, L2.HO.tup.injEq, L2.upd_same, L2.upd_upd, L2.tSl, L2.tNoPart, L2.tPart, L2.rSlL, L2.rCat, List.length_append, or_false, false_or, or_true, true_or, reduceCtorEq, false_and, and_false, exists_false, Int.reduceNeg, Int.reducePow, Int.reduceToNat, Int.reduceAbs, Int.reduceLE, Int.reduceMul, Int.reduceAdd, Int.reduceSub, Nat.reducePow, Nat.reduceLT, Nat.reduceLeDiff, Int.natAbs_natCast, if_true, if_false, Z.rIsN, Z.tyN, Z.kit_ii, Z.kit_bi, Z.kit_si, Z.kit_ni, Z.kit_ib, Z.kit_bb, Z.kit_sb, Z.kit_nb, Z.kit_is, Z.kit_bs, Z.kit_ss, Z.kit_ns, Bool.not_true, Bool.not_false, L2.tTup, L2.tLst, L2.wipe, L2.tYes, Z.Turn1, L2.tNever, sizeLine_eq, Z.rInU, Z.rInH, L2.flatV, List.any_cons, List.any_nil, List.all_cons, List.all_nil, Bool.and_true, Bool.true_and, Bool.or_false, Bool.false_or, Z.tBML, L2.rAppend, Z.map_int_inj, Z.map_bl_inj, Z.rTupL, Z.rLstL, Z.rLstT, Z.rSortI, Z.rAnyH, Z.rSumH, Z.rLenL, Z.rLenU, List.length_map, L2.tPar, Z.tCallK0, List.getD_cons_zero, List.getD_cons_succ, sp__law_right, sp__law_spring, sp_zigzag_beside, sp_zigzag, kind_inj, rings_eq, rows_eq]
    refine ⟨by decide, fun t3 as3 H3 ht3 s3 e3 p3 => ⟨by decide, fun t4 as4 H4 ht4 s4 e4 p4 => ⟨by decide, by decide, fun H5 t5 ht5 s5 e5 => fun u0 hu0 u1 hu1 u2 hu2 u3 hu3 u4 hu4 u5 hu5 u6 hu6 => ?_⟩⟩⟩
    have e6 : besideL false 2 0 1 = [0] := by
      unfold besideL
      rw [show (spots false 2 (indexOf false 2 0 1)).map (personAt false 2 0) = [0] by decide]
      exact List.mergeSort_singleton 0
    rw [e6] at e5
    rw [show zz true 3 = [[2, 0, 1]] by decide] at p3
    rw [show zz false 2 = [[0, 1]] by decide] at p4
    have m0 := same_new (o := .lst [.ref t3, .ref t4, .ref t5]) hu0
    have m1 := same_new (o := tupO [2, 0, 1]) hu1
    have m2 := same_new (o := .tup [.ref u1]) hu2
    have m3 := same_new (o := tupO [0, 1]) hu3
    have m4 := same_new (o := .tup [.ref u3]) hu4
    have m5 := same_new (o := tupO [0]) hu5
    have m6 := same_new (o := .lst [.ref u2, .ref u4, .ref u5]) hu6
    have m56 := m5.trans m6
    have m46 := m4.trans m56
    have m36 := m3.trans m46
    have m26 := m2.trans m36
    have m16 := m1.trans m26
    have m06 := m0.trans m16
    have sh : SeqAt.shaped (.list [.tuple (tupsD [[2, 0, 1]]), .tuple (tupsD [[0, 1]]), .tuple ([(0 : Int)].map PyData.int)]) = true := by decide +kernel
    refine ⟨.list [.tuple (tupsD [[2, 0, 1]]), .tuple (tupsD [[0, 1]]), .tuple ([(0 : Int)].map PyData.int)], .list [.tuple (tupsD [[2, 0, 1]]), .tuple (tupsD [[0, 1]]), .tuple ([(0 : Int)].map PyData.int)],
      .lst (SqL.of (m16 _ _ upd_same)) (.cons (.tup (SqT.of (m06 _ _ (s5 _ _ (s4 _ _ e3)))) (dpAll_tups (tups_same ((s4.trans s5).trans m06) p3))) (.cons (.tup (SqT.of (m06 _ _ (s5 _ _ e4))) (dpAll_tups (tups_same (s5.trans m06) p4))) (.cons (.tup (SqT.of (m06 _ _ e5)) (dpAll_ints [0])) .nil))),
      .lst (SqL.of upd_same) (.cons (.tup (SqT.of (m36 _ _ upd_same)) (dpAll_tups (as := [u1]) (ls := [[2, 0, 1]]) (.cons (m26 _ _ upd_same) .nil))) (.cons (.tup (SqT.of (m56 _ _ upd_same)) (dpAll_tups (as := [u3]) (ls := [[0, 1]]) (.cons (m46 _ _ upd_same) .nil))) (.cons (.tup (SqT.of (m6 _ _ upd_same)) (dpAll_ints [0])) .nil))), sh, sh, ?_⟩
    rw [SeqAt.eqv_refl _ (SeqAt.canLay_of_shaped sh)]
    refine ⟨false, rfl, ?_⟩
    rw [if_neg Bool.false_ne_true]
    have sC := (((sB.trans s3).trans s4).trans s5).trans m06
    clear hu0 hu1 hu2 hu3 hu4 hu5 hu6 m0 m1 m2 m3 m4 m5 m6 m56 m46 m36 m26 m16 m06
    generalize upd _ u6 _ = HZ at sC ⊢
    have hs' := sC.seq hs
    exact tail_A (i := 1) (n := if (if (5 : Int) < ns.length then 5 else (ns.length : Int)) > 2 then (if (5 : Int) < ns.length then 5 else (ns.length : Int)) else 2) (fun R h => by
      simp only [L2.start, List.map_cons, List.map_nil, List.length_cons, List.length_nil, Nat.zero_add, Nat.reduceAdd, Nat.reduceSub, List.replicate_succ, List.replicate_zero, List.cons_append, List.nil_append, List.append_nil, L2.tNext, L2.tAsg, L2.gName, L2.tRet, L2.tRetN, L2.tIfS, L2.tVar, L2.tC, L2.tOp, L2.tUn, L2.rI, L2.rI0, L2.rU, L2.rEq, L2.rNe, L2.tTest, L2.tB, L2.tIf, Z.tIfCI, Z.tIfCS, L2.tChain, L2.tCons, L2.tNil, L2.tCall, L2.tDrop, L2.tAndV, L2.tOrV, L2.tNotV, L2.tAnd, L2.tOr, L2.tNot, L2.tCB, Z.sc_ii, Z.sc_ss, Z.sc_bb, Z.sc_is, Z.sc_si, Z.sc_ni, Z.sc_in, Z.sc_ns, Z.sc_sn, Z.sc_nn, L2.CDiv, L2.CPow, L2.CMul, List.getElem?_cons_zero, List.getElem?_cons_succ, Z.set_z, Z.set_s, Option.some.injEq, L2.V.int.injEq, L2.V.bl.injEq, L2.V.str.injEq, L2.V.ref.injEq, L2.V.ty.injEq, List.cons.injEq, exists_eq_left', exists_and_left, exists_eq_left, exists_eq_right, exists_eq_right', exists_eq', exists_eq, true_and, and_true, and_assoc, decide_eq_true_eq, Int.reduceLT, and_self, Z.rIxH, Z.rIxU, Z.at30, Z.at31, Z.at32, Z.ix3_0, Z.ix3_1, Z.ix3_2, L2.rSetL, L2.gSub, Z.gTupH, L2.gCons, L2.gNil, L2.HO.lst.injEq, L2.HO.tup.injEq, L2.upd_same, L2.upd_upd, L2.tSl, L2.tNoPart, L2.tPart, L2.rSlL, L2.rCat, List.length_append, or_false, false_or, or_true, true_or, reduceCtorEq, false_and, and_false, exists_false, Int.reduceNeg, Int.reducePow, Int.reduceToNat, Int.reduceAbs, Int.reduceLE, Int.reduceMul, Int.reduceAdd, Int.reduceSub, Nat.reducePow, Nat.reduceLT, Nat.reduceLeDiff, Int.natAbs_natCast, if_true, if_false, Z.rIsN, Z.tyN, Z.kit_ii, Z.kit_bi, Z.kit_si, Z.kit_ni, Z.kit_ib, Z.kit_bb, Z.kit_sb, Z.kit_nb, Z.kit_is, Z.kit_bs, Z.kit_ss, Z.kit_ns, Bool.not_true, Bool.not_false, L2.tTup, L2.tLst, L2.wipe, L2.tYes, Z.Turn1, L2.tNever, sizeLine_eq, Z.rInU, Z.rInH, L2.flatV, List.any_cons, List.any_nil, List.all_cons, List.all_nil, Bool.and_true, Bool.true_and, Bool.or_false, Bool.false_or, Z.tBML, L2.rAppend, Z.map_int_inj, Z.map_bl_inj, Z.rTupL, Z.rLstL, Z.rLstT, Z.rSortI, Z.rAnyH, Z.rAllH, Z.rSumH, Z.rLenL, Z.rLenU, List.length_map, L2.tPar, Z.tCallK0, List.getD_cons_zero, List.getD_cons_succ, sp__law_right, sp__law_spring, sp_zigzag_beside, sp_zigzag]
      refine ⟨_, .inl hs', ?_⟩
      rw [List.length_map]
      exact h) (by split <;> split <;> omega) (by show 1 < 2; decide) rfl (by decide) (fun k H' Q' E s1 h0 h1 hq => ⟨a, k, ns, rfl, s1.seq hs', hl, h0, (by revert h1; split <;> (try split) <;> omega), hq⟩) (fun p H' Q' E hp hq => ⟨p, rfl, hp, hq⟩) q
theorem all_mk {l : PySem.W.OpenLaw} {w : World} {K : PySem.W.Frag} {h : Heap} {mg : Str → Option Value} {fa : Addr} (X : K.In h) (G : h.Ns mainGlobals mg) (hfa : mg "law" = some (.ref fa))
    {f1 : Addr} {od1 an1 : Option Addr} {sl1 : Array (Option Value)} {oc1 kV1 dc1 pm1 cd1 ct1 : Value}
    (a1 : PySem.W.nsIn K mainGlobals "is_integer" = some (some (.ref f1))) (l1 : K.lookup f1 = some ⟨oc1, od1, .func (PySem.W.fnOf "is_integer" "is_integer" (defArgs s_is_integer) (defBody s_is_integer) (defScope s_is_integer) .none kV1 dc1 pm1 an1 cd1 ct1), sl1⟩) (c1 : PySem.W.codeIn K cd1 "is_integer" = true) (k1 : PySem.W.keepIn K (.ref f1) = true)
    {f2 : Addr} {od2 an2 : Option Addr} {sl2 : Array (Option Value)} {oc2 kV2 dc2 pm2 cd2 ct2 : Value}
    (a2 : PySem.W.nsIn K mainGlobals "is_between" = some (some (.ref f2))) (l2 : K.lookup f2 = some ⟨oc2, od2, .func (PySem.W.fnOf "is_between" "is_between" (defArgs s_is_between) (defBody s_is_between) (defScope s_is_between) .none kV2 dc2 pm2 an2 cd2 ct2), sl2⟩) (c2 : PySem.W.codeIn K cd2 "is_between" = true) (k2 : PySem.W.keepIn K (.ref f2) = true)
    {f3 : Addr} {od3 an3 : Option Addr} {sl3 : Array (Option Value)} {oc3 kV3 dc3 pm3 cd3 ct3 : Value}
    (a3 : PySem.W.nsIn K mainGlobals "is_size" = some (some (.ref f3))) (l3 : K.lookup f3 = some ⟨oc3, od3, .func (PySem.W.fnOf "is_size" "is_size" (defArgs s_is_size) (defBody s_is_size) (defScope s_is_size) .none kV3 dc3 pm3 an3 cd3 ct3), sl3⟩) (c3 : PySem.W.codeIn K cd3 "is_size" = true) (k3 : PySem.W.keepIn K (.ref f3) = true)
    {f4 : Addr} {od4 an4 : Option Addr} {sl4 : Array (Option Value)} {oc4 kV4 dc4 pm4 cd4 ct4 : Value}
    (a4 : PySem.W.nsIn K mainGlobals "evenings_for" = some (some (.ref f4))) (l4 : K.lookup f4 = some ⟨oc4, od4, .func (PySem.W.fnOf "evenings_for" "evenings_for" (defArgs s_evenings_for) (defBody s_evenings_for) (defScope s_evenings_for) .none kV4 dc4 pm4 an4 cd4 ct4), sl4⟩) (c4 : PySem.W.codeIn K cd4 "evenings_for" = true) (k4 : PySem.W.keepIn K (.ref f4) = true)
    {f5 : Addr} {od5 an5 : Option Addr} {sl5 : Array (Option Value)} {oc5 kV5 dc5 pm5 cd5 ct5 : Value}
    (a5 : PySem.W.nsIn K mainGlobals "check_kind" = some (some (.ref f5))) (l5 : K.lookup f5 = some ⟨oc5, od5, .func (PySem.W.fnOf "check_kind" "check_kind" (defArgs s_check_kind) (defBody s_check_kind) (defScope s_check_kind) .none kV5 dc5 pm5 an5 cd5 ct5), sl5⟩) (c5 : PySem.W.codeIn K cd5 "check_kind" = true) (k5 : PySem.W.keepIn K (.ref f5) = true)
    {f6 : Addr} {od6 an6 : Option Addr} {sl6 : Array (Option Value)} {oc6 kV6 dc6 pm6 cd6 ct6 : Value}
    (a6 : PySem.W.nsIn K mainGlobals "check_size" = some (some (.ref f6))) (l6 : K.lookup f6 = some ⟨oc6, od6, .func (PySem.W.fnOf "check_size" "check_size" (defArgs s_check_size) (defBody s_check_size) (defScope s_check_size) .none kV6 dc6 pm6 an6 cd6 ct6), sl6⟩) (c6 : PySem.W.codeIn K cd6 "check_size" = true) (k6 : PySem.W.keepIn K (.ref f6) = true)
    {f7 : Addr} {od7 an7 : Option Addr} {sl7 : Array (Option Value)} {oc7 kV7 dc7 pm7 cd7 ct7 : Value}
    (a7 : PySem.W.nsIn K mainGlobals "round_size" = some (some (.ref f7))) (l7 : K.lookup f7 = some ⟨oc7, od7, .func (PySem.W.fnOf "round_size" "round_size" (defArgs s_round_size) (defBody s_round_size) (defScope s_round_size) .none kV7 dc7 pm7 an7 cd7 ct7), sl7⟩) (c7 : PySem.W.codeIn K cd7 "round_size" = true) (k7 : PySem.W.keepIn K (.ref f7) = true)
    {f8 : Addr} {od8 an8 : Option Addr} {sl8 : Array (Option Value)} {oc8 kV8 dc8 pm8 cd8 ct8 : Value}
    (a8 : PySem.W.nsIn K mainGlobals "person_in" = some (some (.ref f8))) (l8 : K.lookup f8 = some ⟨oc8, od8, .func (PySem.W.fnOf "person_in" "person_in" (defArgs s_person_in) (defBody s_person_in) (defScope s_person_in) .none kV8 dc8 pm8 an8 cd8 ct8), sl8⟩) (c8 : PySem.W.codeIn K cd8 "person_in" = true) (k8 : PySem.W.keepIn K (.ref f8) = true)
    {f9 : Addr} {od9 an9 : Option Addr} {sl9 : Array (Option Value)} {oc9 kV9 dc9 pm9 cd9 ct9 : Value}
    (a9 : PySem.W.nsIn K mainGlobals "index_in" = some (some (.ref f9))) (l9 : K.lookup f9 = some ⟨oc9, od9, .func (PySem.W.fnOf "index_in" "index_in" (defArgs s_index_in) (defBody s_index_in) (defScope s_index_in) .none kV9 dc9 pm9 an9 cd9 ct9), sl9⟩) (c9 : PySem.W.codeIn K cd9 "index_in" = true) (k9 : PySem.W.keepIn K (.ref f9) = true)
    {f10 : Addr} {od10 an10 : Option Addr} {sl10 : Array (Option Value)} {oc10 kV10 dc10 pm10 cd10 ct10 : Value}
    (a10 : PySem.W.nsIn K mainGlobals "person_at" = some (some (.ref f10))) (l10 : K.lookup f10 = some ⟨oc10, od10, .func (PySem.W.fnOf "person_at" "person_at" (defArgs s_person_at) (defBody s_person_at) (defScope s_person_at) .none kV10 dc10 pm10 an10 cd10 ct10), sl10⟩) (c10 : PySem.W.codeIn K cd10 "person_at" = true) (k10 : PySem.W.keepIn K (.ref f10) = true)
    {f11 : Addr} {od11 an11 : Option Addr} {sl11 : Array (Option Value)} {oc11 kV11 dc11 pm11 cd11 ct11 : Value}
    (a11 : PySem.W.nsIn K mainGlobals "index_of" = some (some (.ref f11))) (l11 : K.lookup f11 = some ⟨oc11, od11, .func (PySem.W.fnOf "index_of" "index_of" (defArgs s_index_of) (defBody s_index_of) (defScope s_index_of) .none kV11 dc11 pm11 an11 cd11 ct11), sl11⟩) (c11 : PySem.W.codeIn K cd11 "index_of" = true) (k11 : PySem.W.keepIn K (.ref f11) = true)
    {f12 : Addr} {od12 an12 : Option Addr} {sl12 : Array (Option Value)} {oc12 kV12 dc12 pm12 cd12 ct12 : Value}
    (a12 : PySem.W.nsIn K mainGlobals "evening_of" = some (some (.ref f12))) (l12 : K.lookup f12 = some ⟨oc12, od12, .func (PySem.W.fnOf "evening_of" "evening_of" (defArgs s_evening_of) (defBody s_evening_of) (defScope s_evening_of) .none kV12 dc12 pm12 an12 cd12 ct12), sl12⟩) (c12 : PySem.W.codeIn K cd12 "evening_of" = true) (k12 : PySem.W.keepIn K (.ref f12) = true)
    {f13 : Addr} {od13 an13 : Option Addr} {sl13 : Array (Option Value)} {oc13 kV13 dc13 pm13 cd13 ct13 : Value}
    (a13 : PySem.W.nsIn K mainGlobals "zigzag_of" = some (some (.ref f13))) (l13 : K.lookup f13 = some ⟨oc13, od13, .func (PySem.W.fnOf "zigzag_of" "zigzag_of" (defArgs s_zigzag_of) (defBody s_zigzag_of) (defScope s_zigzag_of) .none kV13 dc13 pm13 an13 cd13 ct13), sl13⟩) (c13 : PySem.W.codeIn K cd13 "zigzag_of" = true) (k13 : PySem.W.keepIn K (.ref f13) = true)
    {f14 : Addr} {od14 an14 : Option Addr} {sl14 : Array (Option Value)} {oc14 kV14 dc14 pm14 cd14 ct14 : Value}
    (a14 : PySem.W.nsIn K mainGlobals "zigzag" = some (some (.ref f14))) (l14 : K.lookup f14 = some ⟨oc14, od14, .func (PySem.W.fnOf "zigzag" "zigzag" (defArgs s_zigzag) (defBody s_zigzag) (defScope s_zigzag) .none kV14 dc14 pm14 an14 cd14 ct14), sl14⟩) (c14 : PySem.W.codeIn K cd14 "zigzag" = true) (k14 : PySem.W.keepIn K (.ref f14) = true)
    {f15 : Addr} {od15 an15 : Option Addr} {sl15 : Array (Option Value)} {oc15 kV15 dc15 pm15 cd15 ct15 : Value}
    (a15 : PySem.W.nsIn K mainGlobals "check_evening_of" = some (some (.ref f15))) (l15 : K.lookup f15 = some ⟨oc15, od15, .func (PySem.W.fnOf "check_evening_of" "check_evening_of" (defArgs s_check_evening_of) (defBody s_check_evening_of) (defScope s_check_evening_of) .none kV15 dc15 pm15 an15 cd15 ct15), sl15⟩) (c15 : PySem.W.codeIn K cd15 "check_evening_of" = true) (k15 : PySem.W.keepIn K (.ref f15) = true)
    {f16 : Addr} {od16 an16 : Option Addr} {sl16 : Array (Option Value)} {oc16 kV16 dc16 pm16 cd16 ct16 : Value}
    (a16 : PySem.W.nsIn K mainGlobals "check_person" = some (some (.ref f16))) (l16 : K.lookup f16 = some ⟨oc16, od16, .func (PySem.W.fnOf "check_person" "check_person" (defArgs s_check_person) (defBody s_check_person) (defScope s_check_person) .none kV16 dc16 pm16 an16 cd16 ct16), sl16⟩) (c16 : PySem.W.codeIn K cd16 "check_person" = true) (k16 : PySem.W.keepIn K (.ref f16) = true)
    {f17 : Addr} {od17 an17 : Option Addr} {sl17 : Array (Option Value)} {oc17 kV17 dc17 pm17 cd17 ct17 : Value}
    (a17 : PySem.W.nsIn K mainGlobals "zigzag_beside" = some (some (.ref f17))) (l17 : K.lookup f17 = some ⟨oc17, od17, .func (PySem.W.fnOf "zigzag_beside" "zigzag_beside" (defArgs s_zigzag_beside) (defBody s_zigzag_beside) (defScope s_zigzag_beside) .none kV17 dc17 pm17 an17 cd17 ct17), sl17⟩) (c17 : PySem.W.codeIn K cd17 "zigzag_beside" = true) (k17 : PySem.W.keepIn K (.ref f17) = true)
    {f18 : Addr} {od18 an18 : Option Addr} {sl18 : Array (Option Value)} {oc18 kV18 dc18 pm18 cd18 ct18 : Value}
    (a18 : PySem.W.nsIn K mainGlobals "zigzag_evening" = some (some (.ref f18))) (l18 : K.lookup f18 = some ⟨oc18, od18, .func (PySem.W.fnOf "zigzag_evening" "zigzag_evening" (defArgs s_zigzag_evening) (defBody s_zigzag_evening) (defScope s_zigzag_evening) .none kV18 dc18 pm18 an18 cd18 ct18), sl18⟩) (c18 : PySem.W.codeIn K cd18 "zigzag_evening" = true) (k18 : PySem.W.keepIn K (.ref f18) = true)
    {f19 : Addr} {od19 an19 : Option Addr} {sl19 : Array (Option Value)} {oc19 kV19 dc19 pm19 cd19 ct19 : Value}
    (a19 : PySem.W.nsIn K mainGlobals "zigzag_place" = some (some (.ref f19))) (l19 : K.lookup f19 = some ⟨oc19, od19, .func (PySem.W.fnOf "zigzag_place" "zigzag_place" (defArgs s_zigzag_place) (defBody s_zigzag_place) (defScope s_zigzag_place) .none kV19 dc19 pm19 an19 cd19 ct19), sl19⟩) (c19 : PySem.W.codeIn K cd19 "zigzag_place" = true) (k19 : PySem.W.keepIn K (.ref f19) = true)
    {f20 : Addr} {od20 an20 : Option Addr} {sl20 : Array (Option Value)} {oc20 kV20 dc20 pm20 cd20 ct20 : Value}
    (a20 : PySem.W.nsIn K mainGlobals "zigzag_person" = some (some (.ref f20))) (l20 : K.lookup f20 = some ⟨oc20, od20, .func (PySem.W.fnOf "zigzag_person" "zigzag_person" (defArgs s_zigzag_person) (defBody s_zigzag_person) (defScope s_zigzag_person) .none kV20 dc20 pm20 an20 cd20 ct20), sl20⟩) (c20 : PySem.W.codeIn K cd20 "zigzag_person" = true) (k20 : PySem.W.keepIn K (.ref f20) = true)
    {f21 : Addr} {od21 an21 : Option Addr} {sl21 : Array (Option Value)} {oc21 kV21 dc21 pm21 cd21 ct21 : Value}
    (a21 : PySem.W.nsIn K mainGlobals "_law_spring" = some (some (.ref f21))) (l21 : K.lookup f21 = some ⟨oc21, od21, .func (PySem.W.fnOf "_law_spring" "_law_spring" (defArgs s__law_spring) (defBody s__law_spring) (defScope s__law_spring) .none kV21 dc21 pm21 an21 cd21 ct21), sl21⟩) (c21 : PySem.W.codeIn K cd21 "_law_spring" = true) (k21 : PySem.W.keepIn K (.ref f21) = true)
    {f22 : Addr} {od22 an22 : Option Addr} {sl22 : Array (Option Value)} {oc22 kV22 dc22 pm22 cd22 ct22 : Value}
    (a22 : PySem.W.nsIn K mainGlobals "_law_draw" = some (some (.ref f22))) (l22 : K.lookup f22 = some ⟨oc22, od22, .func (PySem.W.fnOf "_law_draw" "_law_draw" (defArgs s__law_draw) (defBody s__law_draw) (defScope s__law_draw) .none kV22 dc22 pm22 an22 cd22 ct22), sl22⟩) (c22 : PySem.W.codeIn K cd22 "_law_draw" = true) (k22 : PySem.W.keepIn K (.ref f22) = true)
    {f23 : Addr} {od23 an23 : Option Addr} {sl23 : Array (Option Value)} {oc23 kV23 dc23 pm23 cd23 ct23 : Value}
    (a23 : PySem.W.nsIn K mainGlobals "_law_of" = some (some (.ref f23))) (l23 : K.lookup f23 = some ⟨oc23, od23, .func (PySem.W.fnOf "_law_of" "_law_of" (defArgs s__law_of) (defBody s__law_of) (defScope s__law_of) .none kV23 dc23 pm23 an23 cd23 ct23), sl23⟩) (c23 : PySem.W.codeIn K cd23 "_law_of" = true) (k23 : PySem.W.keepIn K (.ref f23) = true)
    {f24 : Addr} {od24 an24 : Option Addr} {sl24 : Array (Option Value)} {oc24 kV24 dc24 pm24 cd24 ct24 : Value}
    (a24 : PySem.W.nsIn K mainGlobals "_law_is_whole" = some (some (.ref f24))) (l24 : K.lookup f24 = some ⟨oc24, od24, .func (PySem.W.fnOf "_law_is_whole" "_law_is_whole" (defArgs s__law_is_whole) (defBody s__law_is_whole) (defScope s__law_is_whole) .none kV24 dc24 pm24 an24 cd24 ct24), sl24⟩) (c24 : PySem.W.codeIn K cd24 "_law_is_whole" = true) (k24 : PySem.W.keepIn K (.ref f24) = true)
    {f25 : Addr} {od25 an25 : Option Addr} {sl25 : Array (Option Value)} {oc25 kV25 dc25 pm25 cd25 ct25 : Value}
    (a25 : PySem.W.nsIn K mainGlobals "_law_nights" = some (some (.ref f25))) (l25 : K.lookup f25 = some ⟨oc25, od25, .func (PySem.W.fnOf "_law_nights" "_law_nights" (defArgs s__law_nights) (defBody s__law_nights) (defScope s__law_nights) .none kV25 dc25 pm25 an25 cd25 ct25), sl25⟩) (c25 : PySem.W.codeIn K cd25 "_law_nights" = true) (k25 : PySem.W.keepIn K (.ref f25) = true)
    {f26 : Addr} {od26 an26 : Option Addr} {sl26 : Array (Option Value)} {oc26 kV26 dc26 pm26 cd26 ct26 : Value}
    (a26 : PySem.W.nsIn K mainGlobals "_law_pairs" = some (some (.ref f26))) (l26 : K.lookup f26 = some ⟨oc26, od26, .func (PySem.W.fnOf "_law_pairs" "_law_pairs" (defArgs s__law_pairs) (defBody s__law_pairs) (defScope s__law_pairs) .none kV26 dc26 pm26 an26 cd26 ct26), sl26⟩) (c26 : PySem.W.codeIn K cd26 "_law_pairs" = true) (k26 : PySem.W.keepIn K (.ref f26) = true)
    {f27 : Addr} {od27 an27 : Option Addr} {sl27 : Array (Option Value)} {oc27 kV27 dc27 pm27 cd27 ct27 : Value}
    (a27 : PySem.W.nsIn K mainGlobals "_law_zigzag" = some (some (.ref f27))) (l27 : K.lookup f27 = some ⟨oc27, od27, .func (PySem.W.fnOf "_law_zigzag" "_law_zigzag" (defArgs s__law_zigzag) (defBody s__law_zigzag) (defScope s__law_zigzag) .none kV27 dc27 pm27 an27 cd27 ct27), sl27⟩) (c27 : PySem.W.codeIn K cd27 "_law_zigzag" = true) (k27 : PySem.W.keepIn K (.ref f27) = true)
    {f28 : Addr} {od28 an28 : Option Addr} {sl28 : Array (Option Value)} {oc28 kV28 dc28 pm28 cd28 ct28 : Value}
    (a28 : PySem.W.nsIn K mainGlobals "_law_neighbours" = some (some (.ref f28))) (l28 : K.lookup f28 = some ⟨oc28, od28, .func (PySem.W.fnOf "_law_neighbours" "_law_neighbours" (defArgs s__law_neighbours) (defBody s__law_neighbours) (defScope s__law_neighbours) .none kV28 dc28 pm28 an28 cd28 ct28), sl28⟩) (c28 : PySem.W.codeIn K cd28 "_law_neighbours" = true) (k28 : PySem.W.keepIn K (.ref f28) = true)
    {f29 : Addr} {od29 an29 : Option Addr} {sl29 : Array (Option Value)} {oc29 kV29 dc29 pm29 cd29 ct29 : Value}
    (a29 : PySem.W.nsIn K mainGlobals "_law_is_party" = some (some (.ref f29))) (l29 : K.lookup f29 = some ⟨oc29, od29, .func (PySem.W.fnOf "_law_is_party" "_law_is_party" (defArgs s__law_is_party) (defBody s__law_is_party) (defScope s__law_is_party) .none kV29 dc29 pm29 an29 cd29 ct29), sl29⟩) (c29 : PySem.W.codeIn K cd29 "_law_is_party" = true) (k29 : PySem.W.keepIn K (.ref f29) = true)
    {f30 : Addr} {od30 an30 : Option Addr} {sl30 : Array (Option Value)} {oc30 kV30 dc30 pm30 cd30 ct30 : Value}
    (a30 : PySem.W.nsIn K mainGlobals "_law_right" = some (some (.ref f30))) (l30 : K.lookup f30 = some ⟨oc30, od30, .func (PySem.W.fnOf "_law_right" "_law_right" (defArgs s__law_right) (defBody s__law_right) (defScope s__law_right) .none kV30 dc30 pm30 an30 cd30 ct30), sl30⟩) (c30 : PySem.W.codeIn K cd30 "_law_right" = true) (k30 : PySem.W.keepIn K (.ref f30) = true)
    {f31 : Addr} {od31 an31 : Option Addr} {sl31 : Array (Option Value)} {oc31 kV31 dc31 pm31 cd31 ct31 : Value}
    (a31 : PySem.W.nsIn K mainGlobals "law" = some (some (.ref f31))) (l31 : K.lookup f31 = some ⟨oc31, od31, .func (PySem.W.fnOf "law" "law" (defArgs s_law) (defBody s_law) (defScope s_law) .none kV31 dc31 pm31 an31 cd31 ct31), sl31⟩) (c31 : PySem.W.codeIn K cd31 "law" = true) (k31 : PySem.W.keepIn K (.ref f31) = true)
    (z32 : PySem.W.nsIn K mainGlobals "abs" = some none)
    (z33 : PySem.W.nsIn K mainGlobals "all" = some none)
    (z34 : PySem.W.nsIn K mainGlobals "bool" = some none)
    (z35 : PySem.W.nsIn K mainGlobals "divmod" = some none)
    (z36 : PySem.W.nsIn K mainGlobals "int" = some none)
    (z37 : PySem.W.nsIn K mainGlobals "isinstance" = some none)
    (z38 : PySem.W.nsIn K mainGlobals "len" = some none)
    (z39 : PySem.W.nsIn K mainGlobals "list" = some none)
    (z40 : PySem.W.nsIn K mainGlobals "max" = some none)
    (z41 : PySem.W.nsIn K mainGlobals "min" = some none)
    (z42 : PySem.W.nsIn K mainGlobals "range" = some none)
    (z43 : PySem.W.nsIn K mainGlobals "repr" = some none)
    (z44 : PySem.W.nsIn K mainGlobals "sorted" = some none)
    (z45 : PySem.W.nsIn K mainGlobals "str" = some none)
    (z46 : PySem.W.nsIn K mainGlobals "super" = some none)
    (z47 : PySem.W.nsIn K mainGlobals "tuple" = some none)
    {t48 : Tok} (g48 : PySem.W.nsIn K mainGlobals "MOST_ZIGZAG" = some (some (.int 1000000000000000000000000000000 t48)))
    {t49 : Tok} (g49 : PySem.W.nsIn K mainGlobals "RINGS" = some (some (.str "rings" t49)))
    {t50 : Tok} (g50 : PySem.W.nsIn K mainGlobals "ROWS" = some (some (.str "rows" t50)))
    {t51 : Tok} (g51 : PySem.W.nsIn K mainGlobals "MOST_TOLD" = some (some (.int 99 t51))) :
    ∃ fd : FuncData, (∀ (s : Shared) (v : Value), BindsTo s fd ⟨[v], []⟩ [("_law_script", v)]) ∧ ∀ base : Heap, K.In base → base.Ns mainGlobals mg → FnG l.prog w K mg base CX0 7 fa fd ["_law_script"] (sp_law K) := by
  have e := hfa.symm.trans (PySem.W.mg_of X G a31)
  cases e
  have T : Env K mg := ⟨⟨_, _, fun_mk (st := s_is_integer) l1 c1 k1, PySem.W.mg_of X G a1⟩,
    ⟨_, _, fun_mk (st := s_is_between) l2 c2 k2, PySem.W.mg_of X G a2⟩,
    ⟨_, _, fun_mk (st := s_is_size) l3 c3 k3, PySem.W.mg_of X G a3⟩,
    ⟨_, _, fun_mk (st := s_evenings_for) l4 c4 k4, PySem.W.mg_of X G a4⟩,
    ⟨_, _, fun_mk (st := s_check_kind) l5 c5 k5, PySem.W.mg_of X G a5⟩,
    ⟨_, _, fun_mk (st := s_check_size) l6 c6 k6, PySem.W.mg_of X G a6⟩,
    ⟨_, _, fun_mk (st := s_round_size) l7 c7 k7, PySem.W.mg_of X G a7⟩,
    ⟨_, _, fun_mk (st := s_person_in) l8 c8 k8, PySem.W.mg_of X G a8⟩,
    ⟨_, _, fun_mk (st := s_index_in) l9 c9 k9, PySem.W.mg_of X G a9⟩,
    ⟨_, _, fun_mk (st := s_person_at) l10 c10 k10, PySem.W.mg_of X G a10⟩,
    ⟨_, _, fun_mk (st := s_index_of) l11 c11 k11, PySem.W.mg_of X G a11⟩,
    ⟨_, _, fun_mk (st := s_evening_of) l12 c12 k12, PySem.W.mg_of X G a12⟩,
    ⟨_, _, fun_mk (st := s_zigzag_of) l13 c13 k13, PySem.W.mg_of X G a13⟩,
    ⟨_, _, fun_mk (st := s_zigzag) l14 c14 k14, PySem.W.mg_of X G a14⟩,
    ⟨_, _, fun_mk (st := s_check_evening_of) l15 c15 k15, PySem.W.mg_of X G a15⟩,
    ⟨_, _, fun_mk (st := s_check_person) l16 c16 k16, PySem.W.mg_of X G a16⟩,
    ⟨_, _, fun_mk (st := s_zigzag_beside) l17 c17 k17, PySem.W.mg_of X G a17⟩,
    ⟨_, _, fun_mk (st := s_zigzag_evening) l18 c18 k18, PySem.W.mg_of X G a18⟩,
    ⟨_, _, fun_mk (st := s_zigzag_place) l19 c19 k19, PySem.W.mg_of X G a19⟩,
    ⟨_, _, fun_mk (st := s_zigzag_person) l20 c20 k20, PySem.W.mg_of X G a20⟩,
    ⟨_, _, fun_mk (st := s__law_spring) l21 c21 k21, PySem.W.mg_of X G a21⟩,
    ⟨_, _, fun_mk (st := s__law_draw) l22 c22 k22, PySem.W.mg_of X G a22⟩,
    ⟨_, _, fun_mk (st := s__law_of) l23 c23 k23, PySem.W.mg_of X G a23⟩,
    ⟨_, _, fun_mk (st := s__law_is_whole) l24 c24 k24, PySem.W.mg_of X G a24⟩,
    ⟨_, _, fun_mk (st := s__law_nights) l25 c25 k25, PySem.W.mg_of X G a25⟩,
    ⟨_, _, fun_mk (st := s__law_pairs) l26 c26 k26, PySem.W.mg_of X G a26⟩,
    ⟨_, _, fun_mk (st := s__law_zigzag) l27 c27 k27, PySem.W.mg_of X G a27⟩,
    ⟨_, _, fun_mk (st := s__law_neighbours) l28 c28 k28, PySem.W.mg_of X G a28⟩,
    ⟨_, _, fun_mk (st := s__law_is_party) l29 c29 k29, PySem.W.mg_of X G a29⟩,
    ⟨_, _, fun_mk (st := s__law_right) l30 c30 k30, PySem.W.mg_of X G a30⟩,
    ⟨_, _, fun_mk (st := s_law) l31 c31 k31, PySem.W.mg_of X G a31⟩,
    PySem.W.mg_none_of X G z32,
    PySem.W.mg_none_of X G z33,
    PySem.W.mg_none_of X G z34,
    PySem.W.mg_none_of X G z35,
    PySem.W.mg_none_of X G z36,
    PySem.W.mg_none_of X G z37,
    PySem.W.mg_none_of X G z38,
    PySem.W.mg_none_of X G z39,
    PySem.W.mg_none_of X G z40,
    PySem.W.mg_none_of X G z41,
    PySem.W.mg_none_of X G z42,
    PySem.W.mg_none_of X G z43,
    PySem.W.mg_none_of X G z44,
    PySem.W.mg_none_of X G z45,
    PySem.W.mg_none_of X G z46,
    PySem.W.mg_none_of X G z47,
    ⟨_, PySem.W.mg_of X G g48⟩,
    ⟨_, PySem.W.mg_of X G g49⟩,
    ⟨_, PySem.W.mg_of X G g50⟩,
    ⟨_, PySem.W.mg_of X G g51⟩⟩
  refine ⟨PySem.W.fnOf "law" "law" (defArgs s_law) (defBody s_law) (defScope s_law) .none kV31 dc31 pm31 an31 cd31 ct31, fun s v => .of_eq rfl, fun base _ _ => ?_⟩
  obtain ⟨f, fd, F, hm, R⟩ := (ok_law (P := l.prog) (w := w) (base := base) T).ex
  have e := hfa.symm.trans hm
  cases e
  obtain ⟨_, _, _, _, _, _, _, _, _, e1, e2, _⟩ := F.ex
  rw [l31] at e2
  cases e2
  exact R
end K18
open PySem PySem.W PyProof.Rows
set_option maxRecDepth 100000 in
set_option maxHeartbeats 0 in
theorem PySem.Challenge.cw_extendrounds_k18_whole_zigzag_parties_holds : PySem.Challenge.rw_extendrounds_k18_whole_zigzag_parties.Holds := by
  w_on; o_law; k_head; (case hw => w_witness2)
  k_fill
  refine Z.walk_G (l := PySem.Challenge.rw_extendrounds_k18_whole_zigzag_parties) (n := 63) (k := 7) (x := "_law_script") (sp := K18.sp_law) rfl (by decide) rfl ⟨rfl, by decide, by decide⟩ (fun w h Y => PySem.W.kIn_of Y) ?F (fun _ _ a ns hl _ hS => ⟨a, ns, rfl, hS, hl, fun _ => rfl⟩)
  case F =>
    intro w mg fa h KX G hmg
    refine' K18.all_mk KX G hmg ?a1 ?l1 ?c1 ?k1 ?a2 ?l2 ?c2 ?k2 ?a3 ?l3 ?c3 ?k3 ?a4 ?l4 ?c4 ?k4 ?a5 ?l5 ?c5 ?k5 ?a6 ?l6 ?c6 ?k6 ?a7 ?l7 ?c7 ?k7 ?a8 ?l8 ?c8 ?k8 ?a9 ?l9 ?c9 ?k9 ?a10 ?l10 ?c10 ?k10 ?a11 ?l11 ?c11 ?k11 ?a12 ?l12 ?c12 ?k12 ?a13 ?l13 ?c13 ?k13 ?a14 ?l14 ?c14 ?k14 ?a15 ?l15 ?c15 ?k15 ?a16 ?l16 ?c16 ?k16 ?a17 ?l17 ?c17 ?k17 ?a18 ?l18 ?c18 ?k18 ?a19 ?l19 ?c19 ?k19 ?a20 ?l20 ?c20 ?k20 ?a21 ?l21 ?c21 ?k21 ?a22 ?l22 ?c22 ?k22 ?a23 ?l23 ?c23 ?k23 ?a24 ?l24 ?c24 ?k24 ?a25 ?l25 ?c25 ?k25 ?a26 ?l26 ?c26 ?k26 ?a27 ?l27 ?c27 ?k27 ?a28 ?l28 ?c28 ?k28 ?a29 ?l29 ?c29 ?k29 ?a30 ?l30 ?c30 ?k30 ?a31 ?l31 ?c31 ?k31 ?z32 ?z33 ?z34 ?z35 ?z36 ?z37 ?z38 ?z39 ?z40 ?z41 ?z42 ?z43 ?z44 ?z45 ?z46 ?z47 ?g48 ?g49 ?g50 ?g51
    (case a1 => k_is); (case l1 => k_is); (case c1 => k_is); (case k1 => k_is); (case a2 => k_is); (case l2 => k_is); (case c2 => k_is); (case k2 => k_is); (case a3 => k_is); (case l3 => k_is); (case c3 => k_is); (case k3 => k_is); (case a4 => k_is); (case l4 => k_is); (case c4 => k_is); (case k4 => k_is); (case a5 => k_is); (case l5 => k_is); (case c5 => k_is); (case k5 => k_is); (case a6 => k_is); (case l6 => k_is); (case c6 => k_is); (case k6 => k_is); (case a7 => k_is); (case l7 => k_is); (case c7 => k_is); (case k7 => k_is); (case a8 => k_is); (case l8 => k_is); (case c8 => k_is); (case k8 => k_is); (case a9 => k_is); (case l9 => k_is); (case c9 => k_is); (case k9 => k_is); (case a10 => k_is); (case l10 => k_is); (case c10 => k_is); (case k10 => k_is); (case a11 => k_is); (case l11 => k_is); (case c11 => k_is); (case k11 => k_is); (case a12 => k_is); (case l12 => k_is); (case c12 => k_is); (case k12 => k_is); (case a13 => k_is); (case l13 => k_is); (case c13 => k_is); (case k13 => k_is); (case a14 => k_is); (case l14 => k_is); (case c14 => k_is); (case k14 => k_is); (case a15 => k_is); (case l15 => k_is); (case c15 => k_is); (case k15 => k_is); (case a16 => k_is); (case l16 => k_is); (case c16 => k_is); (case k16 => k_is); (case a17 => k_is); (case l17 => k_is); (case c17 => k_is); (case k17 => k_is); (case a18 => k_is); (case l18 => k_is); (case c18 => k_is); (case k18 => k_is); (case a19 => k_is); (case l19 => k_is); (case c19 => k_is); (case k19 => k_is); (case a20 => k_is); (case l20 => k_is); (case c20 => k_is); (case k20 => k_is); (case a21 => k_is); (case l21 => k_is); (case c21 => k_is); (case k21 => k_is); (case a22 => k_is); (case l22 => k_is); (case c22 => k_is); (case k22 => k_is); (case a23 => k_is); (case l23 => k_is); (case c23 => k_is); (case k23 => k_is); (case a24 => k_is); (case l24 => k_is); (case c24 => k_is); (case k24 => k_is); (case a25 => k_is); (case l25 => k_is); (case c25 => k_is); (case k25 => k_is); (case a26 => k_is); (case l26 => k_is); (case c26 => k_is); (case k26 => k_is); (case a27 => k_is); (case l27 => k_is); (case c27 => k_is); (case k27 => k_is); (case a28 => k_is); (case l28 => k_is); (case c28 => k_is); (case k28 => k_is); (case a29 => k_is); (case l29 => k_is); (case c29 => k_is); (case k29 => k_is); (case a30 => k_is); (case l30 => k_is); (case c30 => k_is); (case k30 => k_is); (case a31 => k_is); (case l31 => k_is); (case c31 => k_is); (case k31 => k_is); (case z32 => k_is); (case z33 => k_is); (case z34 => k_is); (case z35 => k_is); (case z36 => k_is); (case z37 => k_is); (case z38 => k_is); (case z39 => k_is); (case z40 => k_is); (case z41 => k_is); (case z42 => k_is); (case z43 => k_is); (case z44 => k_is); (case z45 => k_is); (case z46 => k_is); (case z47 => k_is); (case g48 => k_is); (case g49 => k_is); (case g50 => k_is); (case g51 => k_is)
#print axioms PySem.Challenge.cw_extendrounds_k18_whole_zigzag_parties_holds

