import PyProof.Rows.All
import Wide.All
import OpenK.AllK
import Wide.FinOn
import HandS.ForMost
import HandS.ForExc
import HandS.IsInst
import HandS.Wide
import HandS.WideBits
import KE.KSortedM
import PyProof.StrLawsRepr
import PySem.Challenge.RW_extendrounds_k67_whole_great_zigzags
set_option Elab.async false
set_option linter.all false
set_option maxRecDepth 100000
set_option maxHeartbeats 4000000
/-! Words shared by the proofs: where a def stands, what it promises, calls of it; readings taken apart by simp. -/
namespace Z
open PySem PySem.Spec PyProof.Rows L2

/-- the def x of the text stands where the module's name x points -/
def Here (K : PySem.W.Frag) (mg : Str → Option Value) (x : Str) (st : Stmt) : Prop := ∃ f fd, Fun K x x st f fd ∧ mg x = some (.ref f)
/-- how positional arguments come to the parameters: for every def without defaults -/
def Bd (x : Str) (st : Stmt) (ps : List Str) : Prop := ∀ (qual : Str) (kV doc pm : Value) (an : Option Addr) (cdv ct : Value) (us : List Value), us.length = ps.length → bindArgs (PySem.W.fnOf x qual (defArgs st) (defBody st) (defScope st) .none kV doc pm an cdv ct) ⟨us, []⟩ = pure (ps.zip us)
/-- it stands there and keeps its promise -/
structure Hd (P : Program) (w : World) (K : PySem.W.Frag) (mg : Str → Option Value) (base : Heap) (CX : CXT) (k : Nat) (x : Str) (st : Stmt) (ps : List Str) (sp : Sp) : Prop where
  ex : ∃ f fd, Fun K x x st f fd ∧ mg x = some (.ref f) ∧ FnOk P w K mg base CX k f fd ps sp
  bd : Bd x st ps
section
variable {X : Cx} {CX : CXT} {k : Nat} {st : Stmt} {ps : List Str} {sp : Sp} {E : XK} {x : Str} {p pos : Pos} {e : Expr} {es : List Expr} {t : TA}
theorem pe_hd (h : Hd X.prog X.w X.K X.mg X.base CX k x st ps sp) (hr : Room k X.A) (hg : Gl X x) (hx : Passes CX X E) (ha : PA X (e :: es) t) (hdb : (x == ("__debug__" : Str)) = false := by decide)
    (hs : starEach (e :: es) X.env = (false, eval e X.env) :: starEach es X.env := by rfl) (hpl : (backTo pos (starEach es X.env)).any (·.1) = false := by rfl) : PE X (.Call (.Name x p) (e :: es) [] pos) (tCall sp [] E t) := by
  obtain ⟨f, fd, F, hm, G⟩ := h.ex
  exact pe_call G hr hg hm F.kp (F.binds (h.bd x)) .nil hx ha hdb hs hpl
theorem pe_hd0 (h : Hd X.prog X.w X.K X.mg X.base CX k x st ps sp) (hr : Room k X.A) (hg : Gl X x) (hx : Passes CX X E) (hdb : (x == ("__debug__" : Str)) = false := by decide) : PE X (.Call (.Name x p) [] [] pos) (tCall sp [] E tNil) := by
  obtain ⟨f, fd, F, hm, G⟩ := h.ex
  exact pe_call0 G hr hg hm F.kp (F.binds (h.bd x)) .nil hx hdb
end
/-! ### readings taken apart -/
theorem set_z {α : Type} (a b : α) (l : List α) : (a :: l).set 0 b = b :: l := rfl
theorem set_s {α : Type} (a b : α) (l : List α) (i : Nat) : (a :: l).set (i + 1) b = a :: l.set i b := rfl
/-! ### cuts: a word between a part and what follows -/
def tCutE (te : TE) : TE := fun σ H Q => ∃ S : V → Hp → Prop, te σ H S ∧ ∀ v H', S v H' → Q v H'
theorem pe_cutZ {X : Cx} {e : Expr} {te : TE} (h : PE X e te) : PE X e (tCutE te) := ⟨fun pins s σ H Q I ⟨S, h1, h2⟩ =>
  thn (h.run pins s σ H S I h1) fun _ _ ⟨v, H', I', r, q⟩ => ⟨v, H', I', r, h2 v H' q⟩⟩
def tCutS (t u : TS) : TS := fun D σ H => ∃ Mid : L2.St → Hp → Prop, t { D with nx := Mid } σ H ∧ ∀ σ' H', Mid σ' H' → u D σ' H'
theorem pss_cutZ {X : Cx} {st : Stmt} {rest : List Stmt} {t u : TS} (h1 : PS X st t) (h2 : PSs X rest u) : PSs X (st :: rest) (tCutS t u) := by
  refine ⟨fun pins s σ H D I h => ?_⟩
  obtain ⟨Mid, hm, hu⟩ := h
  refine wpAny_execs_cons (thn (h1.run pins s σ H { D with nx := Mid } I hm) fun f s1 q => ?_)
  cases f with
  | next =>
    obtain ⟨σ', H', I', q⟩ := q
    exact h2.run pins s1 σ' H' D I' (hu σ' H' q)
  | ret v => exact q
  | brk => exact q
  | cont => exact q
/-- one of two written values -/
def tIfCI (t : TT) (i j : Int) : TE := fun σ H Q => t σ H fun c H1 => Q (.int (if c = true then i else j)) H1
theorem pe_ifCI {X : Cx} {c a b : Expr} {t : TT} {i j : Int} {pos : Pos} (hc : PT X c t) (ha : PE X a (tC (.int i))) (hb : PE X b (tC (.int j))) : PE X (.IfExp c a b pos) (tIfCI t i j) := ⟨fun pins s σ H Q I h =>
  (pe_ifExp hc ha hb).run pins s σ H Q I (by
    unfold tIfCI at h
    have e : (fun (c : Bool) (H1 : Hp) => if c = true then tC (.int i) σ H1 Q else tC (.int j) σ H1 Q) = fun c H1 => Q (.int (if c = true then i else j)) H1 := by
      funext c H1
      cases c <;> rfl
    show t σ H (fun (c : Bool) (H1 : Hp) => if c = true then tC (.int i) σ H1 Q else tC (.int j) σ H1 Q)
    rw [e]
    exact h)⟩
def tIfCS (t : TT) (i j : Str) : TE := fun σ H Q => t σ H fun c H1 => Q (.str (if c = true then i else j)) H1
theorem pe_ifCS {X : Cx} {c a b : Expr} {t : TT} {i j : Str} {pos : Pos} (hc : PT X c t) (ha : PE X a (tC (.str i))) (hb : PE X b (tC (.str j))) : PE X (.IfExp c a b pos) (tIfCS t i j) := ⟨fun pins s σ H Q I h =>
  (pe_ifExp hc ha hb).run pins s σ H Q I (by
    unfold tIfCS at h
    have e : (fun (c : Bool) (H1 : Hp) => if c = true then tC (.str i) σ H1 Q else tC (.str j) σ H1 Q) = fun c H1 => Q (.str (if c = true then i else j)) H1 := by
      funext c H1
      cases c <;> rfl
    show t σ H (fun (c : Bool) (H1 : Hp) => if c = true then tC (.str i) σ H1 Q else tC (.str j) σ H1 Q)
    rw [e]
    exact h)⟩
theorem z_seq {t u : TS} {D : Ends} {σ : L2.St} {H : Hp} (h : t { D with nx := u D } σ H) : tSeq t u D σ H := h
section
variable {X : Cx} {K : PySem.W.Frag} {H : Hp} {σ : L2.St}
/-- an item of a tracked list -/
def rIxH : R2 := fun x y H Q => ∃ p i xs v, x = .ref p ∧ y = .int i ∧ H p = some (.lst xs) ∧ atI xs i = some v ∧ Q v H
theorem ix_listH : IxR X rIxH := by
  intro e1 e2 pins s σ H x y v u Q I rx ry h hs
  obtain ⟨p, i, xs, z, rfl, rfl, hp, ha, q⟩ := h
  exact ix_list e1 e2 pins s σ H _ _ v u Q I rx ry ⟨p, xs, i, z, rfl, rfl, SqL.of hp, ha, q⟩ hs
def rIxU : R2 := fun x y H Q => ∃ p i xs v, x = .ref p ∧ y = .int i ∧ H p = some (.tup xs) ∧ atI xs i = some v ∧ Q v H
theorem ix_tupH : IxR X rIxU := by
  intro e1 e2 pins s σ H x y v u Q I rx ry h hs
  obtain ⟨p, i, xs, z, rfl, rfl, hp, ha, q⟩ := h
  exact ix_tup e1 e2 pins s σ H _ _ v u Q I rx ry ⟨p, xs, i, z, rfl, rfl, SqT.of hp, ha, q⟩ hs
theorem at30 {α : Type} (a b c : α) : atI [a, b, c] 0 = some a := rfl
theorem at31 {α : Type} (a b c : α) : atI [a, b, c] 1 = some b := rfl
theorem at32 {α : Type} (a b c : α) : atI [a, b, c] 2 = some c := rfl
theorem ixN30 {α : Type} (a b c : α) : ixN [a, b, c].length 0 = some 0 := rfl
theorem ixN31 {α : Type} (a b c : α) : ixN [a, b, c].length 1 = some 1 := rfl
theorem ixN32 {α : Type} (a b c : α) : ixN [a, b, c].length 2 = some 2 := rfl
theorem ix3_0 : ixN 3 0 = some 0 := rfl
theorem ix3_1 : ixN 3 1 = some 1 := rfl
theorem ix3_2 : ixN 3 2 = some 2 := rfl
/-- in, not in: a tracked tuple, a tracked list of flat things -/
def rInU (neg : Bool) : R2 := fun x y H Q => ∃ p xs, y = .ref p ∧ H p = some (.tup xs) ∧ flatV x = true ∧ xs.all flatV = true ∧ Q (.bl (if neg then !inV x xs else inV x xs)) H
def rInH (neg : Bool) : R2 := fun x y H Q => ∃ p xs, y = .ref p ∧ H p = some (.lst xs) ∧ flatV x = true ∧ xs.all flatV = true ∧ Q (.bl (if neg then !inV x xs else inV x xs)) H
theorem op_in_tupH : OpR X (compareOp .In) (rInU false) := by
  intro pins s σ H x y v u Q I rx ry h
  obtain ⟨p, xs, e, hp, h1, h2, q⟩ := h
  exact op_in_seq pins s σ H x y v u Q I rx ry ⟨p, xs, e, .inr (SqT.of hp), h1, h2, q⟩
theorem op_notIn_tupH : OpR X (compareOp .NotIn) (rInU true) := by
  intro pins s σ H x y v u Q I rx ry h
  obtain ⟨p, xs, e, hp, h1, h2, q⟩ := h
  exact op_notIn_seq pins s σ H x y v u Q I rx ry ⟨p, xs, e, .inr (SqT.of hp), h1, h2, q⟩
theorem op_in_lstH : OpR X (compareOp .In) (rInH false) := by
  intro pins s σ H x y v u Q I rx ry h
  obtain ⟨p, xs, e, hp, h1, h2, q⟩ := h
  exact op_in_seq pins s σ H x y v u Q I rx ry ⟨p, xs, e, .inl (SqL.of hp), h1, h2, q⟩
theorem op_notIn_lstH : OpR X (compareOp .NotIn) (rInH true) := by
  intro pins s σ H x y v u Q I rx ry h
  obtain ⟨p, xs, e, hp, h1, h2, q⟩ := h
  exact op_notIn_seq pins s σ H x y v u Q I rx ry ⟨p, xs, e, .inl (SqL.of hp), h1, h2, q⟩
/-! built-ins of tracked lists and tuples, each with one answer -/
theorem perm_sort {a b : List Int} (hp : a.Perm b) (ha : a.Pairwise (· ≤ ·)) : a = b.mergeSort := by
  have h2 : (b.mergeSort (· ≤ ·)).Pairwise (· ≤ ·) := by
    have h := List.pairwise_mergeSort (le := fun x y : Int => decide (x ≤ y)) (fun x y z h1 h2 => by simp only [decide_eq_true_eq] at *; omega) (fun x y => by simp only [Bool.or_eq_true, decide_eq_true_eq]; omega) b
    exact h.imp fun h => of_decide_eq_true h
  exact PySem.W.ksm_same (hp.trans (List.mergeSort_perm b _).symm) ha h2
theorem map_int_inj (a b : List Int) : (a.map V.int = b.map V.int) = (a = b) := propext ⟨fun h => List.map_inj_right (fun x y e => V.int.inj e) |>.mp h, fun h => by rw [h]⟩
theorem map_bl_inj (a b : List Bool) : (a.map V.bl = b.map V.bl) = (a = b) := propext ⟨fun h => List.map_inj_right (fun x y e => V.bl.inj e) |>.mp h, fun h => by rw [h]⟩
def rTupL : List V → Hp → VK → Prop := fun xs H Q => ∃ p ys, xs = [.ref p] ∧ H p = some (.lst ys) ∧ ∀ l, H l = none → Q (.ref l) (upd H l (.tup ys))
theorem call_tupleL : CallR X (.type "tuple") rTupL := by
  intro pins s σ H xs us Q I r h
  obtain ⟨p, ys, e, hp, q⟩ := h
  exact call_tuple_of pins s σ H xs us Q I r ⟨p, ys, e, .inl ⟨SqL.of hp, q⟩⟩
def rLstL : List V → Hp → VK → Prop := fun xs H Q => ∃ p ys, xs = [.ref p] ∧ H p = some (.lst ys) ∧ ∀ l, H l = none → Q (.ref l) (upd H l (.lst ys))
theorem call_listL : CallR X (.type "list") rLstL := by
  intro pins s σ H xs us Q I r h
  obtain ⟨p, ys, e, hp, q⟩ := h
  exact call_list_of pins s σ H xs us Q I r ⟨p, ys, e, .inl (SqL.of hp), q⟩
def rLstT : List V → Hp → VK → Prop := fun xs H Q => ∃ p ys, xs = [.ref p] ∧ H p = some (.tup ys) ∧ ∀ l, H l = none → Q (.ref l) (upd H l (.lst ys))
theorem call_listT : CallR X (.type "list") rLstT := by
  intro pins s σ H xs us Q I r h
  obtain ⟨p, ys, e, hp, q⟩ := h
  exact call_list_of pins s σ H xs us Q I r ⟨p, ys, e, .inr (SqT.of hp), q⟩
def rSortI : List V → Hp → VK → Prop := fun vs H Q => ∃ (a : Addr) (ns : List Int), vs = [V.ref a] ∧ H a = some (.lst (ns.map V.int)) ∧ ns.length < 64 ∧ ∀ p : Addr, H p = none → Q (.ref p) (upd H p (.lst (ns.mergeSort.map V.int)))
theorem cr_sortedH : CallR X (.builtin "sorted") rSortI := by
  intro pins s σ H vs us Q I r h
  obtain ⟨a, ns, e, ha, hl, q⟩ := h
  exact cr_sorted pins s σ H vs us Q I r ⟨a, ns, e, SqL.of ha, hl, fun ns' p hp hs hn => by rw [perm_sort hp hs]; exact q p hn⟩
def rAnyH : List V → Hp → VK → Prop := fun vs H Q => ∃ (a : Addr) (bs : List Bool), vs = [V.ref a] ∧ H a = some (.lst (bs.map V.bl)) ∧ Q (.bl (bs.any id)) H
def rAllH : List V → Hp → VK → Prop := fun vs H Q => ∃ (a : Addr) (bs : List Bool), vs = [V.ref a] ∧ H a = some (.lst (bs.map V.bl)) ∧ Q (.bl (bs.all id)) H
theorem cr_anyH (hc : X.calm = true) : CallR X (.builtin "any") rAnyH := by
  intro pins s σ H vs us Q I r h
  obtain ⟨a, bs, e, ha, q⟩ := h
  exact cr_any hc pins s σ H vs us Q I r ⟨a, bs, e, SqL.of ha, q⟩
theorem cr_allH (hc : X.calm = true) : CallR X (.builtin "all") rAllH := by
  intro pins s σ H vs us Q I r h
  obtain ⟨a, bs, e, ha, q⟩ := h
  exact cr_all hc pins s σ H vs us Q I r ⟨a, bs, e, SqL.of ha, q⟩
def rSumH : List V → Hp → VK → Prop := fun vs H Q => ∃ (a : Addr) (ns : List Int), vs = [V.ref a] ∧ H a = some (.lst (ns.map V.int)) ∧ Q (.int ns.sum) H
theorem cr_sumH (hc : X.calm = true) : CallR X (.builtin "sum") rSumH := by
  intro pins s σ H vs us Q I r h
  obtain ⟨a, ns, e, ha, q⟩ := h
  exact cr_sum hc pins s σ H vs us Q I r ⟨a, ns, e, SqL.of ha, q⟩
def rLenL : List V → Hp → VK → Prop := fun xs H Q => ∃ p ys, xs = [.ref p] ∧ H p = some (.lst ys) ∧ Q (.int ys.length) H
def rLenU : List V → Hp → VK → Prop := fun xs H Q => ∃ p ys, xs = [.ref p] ∧ H p = some (.tup ys) ∧ Q (.int ys.length) H
theorem call_lenL : CallR X (.builtin "len") rLenL := by
  intro pins s σ H vs us Q I r h
  obtain ⟨a, ys, e, ha, q⟩ := h
  exact call_len_seq pins s σ H vs us Q I r ⟨a, ys, e, .inl (SqL.of ha), q⟩
theorem call_lenU : CallR X (.builtin "len") rLenU := by
  intro pins s σ H vs us Q I r h
  obtain ⟨a, ys, e, ha, q⟩ := h
  exact call_len_seq pins s σ H vs us Q I r ⟨a, ys, e, .inr (SqT.of ha), q⟩
/-- a method of a tracked list -/
def tBML (r : V → List V → Hp → VK → Prop) (to : TE) (t : TA) : TE := fun σ H Q => to σ H fun x H1 => ∃ a xs, x = .ref a ∧ H1 a = some (.lst xs) ∧ t σ H1 fun vs H2 => r x vs H2 Q
theorem pe_bmL {o e : Expr} {es : List Expr} {to : TE} {t : TA} {name : Str} {apos cpos : Pos} {id : String} {r : V → List V → Hp → VK → Prop} (pa : PlainAttrs "list") (slot : Slot "list" name id) (hty : typeOf (.builtin id) = pure (.type "method_descriptor")) (hm : MtR X id r) (ho : PE X o to) (ha : PA X (e :: es) t)
    (hbase : attributeBase o name X.env (eval o X.env) = eval o X.env := by rfl)
    (hfew : ((backTo cpos (starEach (e :: es) X.env)).all (fun x => !x.1) && (backToKw cpos (keywordEach [] X.env)).all (fun x => x.1.isSome)
      && decide ((e :: es).length + ([] : List Keyword).length + (if ([] : List Keyword).isEmpty then 0 else 1) < 30)) = true := by rfl)
    (hline : (apos.endLine == cpos.line) = true := by rfl) (hs : starEach (e :: es) X.env = (false, eval e X.env) :: starEach es X.env := by rfl) (hplain : (backTo cpos (starEach es X.env)).any (·.1) = false := by rfl) :
    PE X (.Call (.Attribute o name apos) (e :: es) [] cpos) (tBML r to t) := by
  refine ⟨fun pins s σ H Q I h => ?_⟩
  refine wpAny_Call_method_late hbase hfew hline rfl (thn (ho.run pins s σ H _ I h) fun v s1 ⟨x, H1, I1, r1, a, xs, ex, ea, q1⟩ => ?_)
  subst ex
  obtain ⟨h1, h2⟩ := tyV_is (T := "list") (x := .ref a) I1 r1 (.inl ⟨rfl, xs, SqL.of ea⟩)
  refine ⟨"list", id, pa, slot, hty, h1, h2, ?_⟩
  have hA := ha.run cpos pins s1 σ H1 _ I1 q1
  rw [hs] at hA ⊢
  refine Calls.callWith_builtin (by show (false || (backTo cpos (starEach es X.env)).any (·.1)) = false; rw [hplain] <;> rfl) (Calls.evalArgs_plain ?_)
  exact thn hA fun us s2 ⟨vs, H2, I2, r2, q2⟩ => hm pins s2 σ H2 _ vs v us Q I2 r1 r2 q2
/-- for k in range(n), n reckoned -/
theorem for_rng {n : Int} {g : TG} {tb : TS} {D : Ends} {H1 : Hp} {ta : TA} (hta : ∀ R : List V → Hp → Prop, R [.int n] H1 → ta σ H R) (hn : 0 ≤ n ∧ n < 2 ^ 62) (Pv : Nat → L2.St → Hp → Prop) (h0 : Pv 0 σ H1)
    (hs : ∀ (i : Nat) σ H, (i : Int) < n → Pv i σ H → g (.int i) σ H fun σ2 H2 => tb { D with nx := Pv (i + 1), ct := Pv (i + 1), bk := D.nx } σ2 H2) (hd : ∀ σ H, Pv n.toNat σ H → D.nx σ H) : tFor (iRng1 ta) g tb D σ H := by
  refine hta _ ⟨n, rfl, by omega, hn.2, ?_⟩
  refine for_range (lo := 0) (n := n.toNat) Pv h0 (fun i σ H hi p => ?_) hd
  have e : (0 : Int) + (i : Int) = (i : Int) := by omega
  rw [e]
  exact hs i σ H (by omega) p
/-- [e for k in range(n)] -/
theorem lc_rng {n : Int} {g : TG} {tt : TT} {te : TE} {vs : List Nat} {H1 : Hp} {ta : TA} {Q : VK} (hta : ∀ R : List V → Hp → Prop, R [.int n] H1 → ta σ H R) (hn : n < 2 ^ 62 ∧ -(2 ^ 62) ≤ n) (Pv : Addr → Nat → Hp → Prop) (h0 : ∀ D, H1 D = none → Pv D 0 (upd H1 D (.lst [])))
    (hs : ∀ D, H1 D = none → ∀ (i : Nat) H, (i : Int) < n → Pv D i H → g (.int i) (wipe σ vs) H fun σ2 H2 => wipe σ2 vs = wipe σ vs ∧ tt σ2 H2 fun b H3 =>
      if b = true then te σ2 H3 fun y H4 => ∃ acc, H4 D = some (.lst acc) ∧ acc.length < sizeLine ∧ Pv D (i + 1) (upd H4 D (.lst (acc ++ [y]))) else Pv D (i + 1) H3) (hd : ∀ D H, H1 D = none → Pv D n.toNat H → Q (.ref D) H) : tLc (iRng1 ta) g tt te vs σ H Q := by
  refine hta _ ⟨n, rfl, hn.2, hn.1, fun D hD => ?_⟩
  refine lc_range (lo := 0) (n := n.toNat) (Pv D) (h0 D hD) (fun i H hi p => ?_) fun H p => hd D H hD p
  have e : (0 : Int) + (i : Int) = (i : Int) := by omega
  rw [e]
  exact hs D hD i H (by omega) p
/-- [e for x in xs], the list told by its tracked address -/
theorem lc_lst {a : Addr} {xs : List V} {g : TG} {tt : TT} {te : TE} {vs : List Nat} {H1 : Hp} {tl : TE} {Q : VK} (htl : ∀ R : VK, R (.ref a) H1 → tl σ H R) (Pv : Addr → Nat → Hp → Prop) (ha : SqL K H1 a xs) (h0 : ∀ D, H1 D = none → Pv D 0 (upd H1 D (.lst [])))
    (hl : ∀ D, H1 D = none → ∀ i H, Pv D i H → SqL K H a xs)
    (hs : ∀ D, H1 D = none → ∀ (i : Nat) x H, xs[i]? = some x → Pv D i H → g x (wipe σ vs) H fun σ2 H2 => wipe σ2 vs = wipe σ vs ∧ tt σ2 H2 fun b H3 =>
      if b = true then te σ2 H3 fun y H4 => ∃ acc, H4 D = some (.lst acc) ∧ acc.length < sizeLine ∧ Pv D (i + 1) (upd H4 D (.lst (acc ++ [y]))) else Pv D (i + 1) H3) (hd : ∀ D H, H1 D = none → Pv D xs.length H → Q (.ref D) H) : tLc (iList K tl) g tt te vs σ H Q := by
  refine htl _ ⟨a, rfl, ⟨xs, ha⟩, fun D hD => ?_⟩
  exact lc_list (K := K) (a := a) (xs := xs) (Pv D) (h0 D hD) (fun i H _ p => hl D hD i H p) (hs D hD) fun H p => hd D H hD p
/-- over a tuple -/
theorem lc_tp {a : Addr} {xs : List V} {g : TG} {tt : TT} {te : TE} {vs : List Nat} {H1 : Hp} {tl : TE} {Q : VK} (htl : ∀ R : VK, R (.ref a) H1 → tl σ H R) (Pv : Addr → Nat → Hp → Prop) (ha : SqT K H1 a xs) (h0 : ∀ D, H1 D = none → Pv D 0 (upd H1 D (.lst [])))
    (hl : ∀ D, H1 D = none → ∀ i H, Pv D i H → SqT K H a xs)
    (hs : ∀ D, H1 D = none → ∀ (i : Nat) x H, xs[i]? = some x → Pv D i H → g x (wipe σ vs) H fun σ2 H2 => wipe σ2 vs = wipe σ vs ∧ tt σ2 H2 fun b H3 =>
      if b = true then te σ2 H3 fun y H4 => ∃ acc, H4 D = some (.lst acc) ∧ acc.length < sizeLine ∧ Pv D (i + 1) (upd H4 D (.lst (acc ++ [y]))) else Pv D (i + 1) H3) (hd : ∀ D H, H1 D = none → Pv D xs.length H → Q (.ref D) H) : tLc (iTup K tl) g tt te vs σ H Q := by
  refine htl _ ⟨a, rfl, ⟨xs, ha⟩, fun D hD => ?_⟩
  exact lc_tup (K := K) (a := a) (xs := xs) (Pv D) (h0 D hD) (fun i H _ p => hl D hD i H p) (hs D hD) fun H p => hd D H hD p
end
theorem sc_ii (a b : Int) : scal (.int a) (.int b) = true := rfl
theorem sc_ss (a b : Str) : scal (.str a) (.str b) = true := rfl
theorem sc_bb (a b : Bool) : scal (.bl a) (.bl b) = true := rfl
theorem sc_is (a : Int) (b : Str) : scal (.int a) (.str b) = true := rfl
theorem sc_si (a : Str) (b : Int) : scal (.str a) (.int b) = true := rfl
theorem sc_ni (b : Int) : scal .non (.int b) = true := rfl
theorem sc_in (b : Int) : scal (.int b) .non = true := rfl
theorem sc_ns (b : Str) : scal .non (.str b) = true := rfl
theorem sc_sn (b : Str) : scal (.str b) .non = true := rfl
theorem sc_nn : scal .non .non = true := rfl
/-! ### isinstance of a built-in class -/
def tyN (H : Hp) : V → Option String
  | .non => some "NoneType"
  | .bl _ => some "bool"
  | .int _ => some "int"
  | .str _ => some "str"
  | .ref a => match H a with
    | some (.lst _) => some "list"
    | some (.tup _) => some "tuple"
    | some (.dK _) => some "dict"
    | some (.dT _) => some "dict"
    | _ => none
  | _ => none
theorem tyX_of {K : PySem.W.Frag} {H : Hp} {x : V} {t : String} (h : tyN H x = some t) : TyX K H x (.type t) := by
  unfold tyN at h
  split at h
  · cases h; exact .base .non
  · cases h; exact .base (.bl _)
  · cases h; exact .base (.int _)
  · cases h; exact .base (.str _)
  · split at h
    · cases h; exact .base (.lst (by assumption))
    · cases h; exact .base (.tup (by assumption))
    · cases h; exact .base (.dK (by assumption))
    · cases h; exact .base (.dT (by assumption))
    · cases h
  · cases h
def rIsN : List V → Hp → VK → Prop := fun xs H Q => ∃ x n, xs = [x, .ty n] ∧ ∃ t, tyN H x = some t ∧ ∃ b, kitB t n = some b ∧ Q (.bl b) H
theorem call_isN {X : Cx} : CallR X (.builtin "isinstance") rIsN := by
  intro pins s σ H xs us Q I r h
  obtain ⟨x, n, rfl, t, ht, b, hb, q⟩ := h
  exact call_isi pins s σ H _ us Q I r ⟨x, .ty n, .type t, .type n, b, rfl, .ty n, tyX_of ht, kit_ty hb, q⟩
theorem kit_ii : kitB "int" "int" = some true := by decide +kernel
theorem kit_bi : kitB "bool" "int" = some true := by decide +kernel
theorem kit_si : kitB "str" "int" = some false := by decide +kernel
theorem kit_ni : kitB "NoneType" "int" = some false := by decide +kernel
theorem kit_ib : kitB "int" "bool" = some false := by decide +kernel
theorem kit_bb : kitB "bool" "bool" = some true := by decide +kernel
theorem kit_sb : kitB "str" "bool" = some false := by decide +kernel
theorem kit_nb : kitB "NoneType" "bool" = some false := by decide +kernel
theorem kit_is : kitB "int" "str" = some false := by decide +kernel
theorem kit_bs : kitB "bool" "str" = some false := by decide +kernel
theorem kit_ss : kitB "str" "str" = some true := by decide +kernel
theorem kit_ns : kitB "NoneType" "str" = some false := by decide +kernel
/-! ### heaps -/
theorem same_new {H : Hp} {p : Addr} {o : HO} (h : H p = none) : Same H (upd H p o) := fun b x e => by
  rw [upd_ne (ne_of_none e h)]
  exact e
theorem same_upd {H H' : Hp} {p : Addr} {o : HO} (s : Same H H') (h : H p = none) : Same H (upd H' p o) := fun b x e => by
  rw [upd_ne (ne_of_none e h)]
  exact s b x e
theorem same_no {H H' : Hp} {p : Addr} (s : Same H H') (h : H' p = none) : H p = none := s.free h
/-- a, b, .. = a tracked tuple -/
def gTupH (n : Nat) (t : TGs) : TG := fun v σ H Q => ∃ a xs, v = .ref a ∧ H a = some (.tup xs) ∧ xs.length = n ∧ t xs σ H Q
theorem pg_tupH {X : Cx} {es : List Expr} {k : Nat} {pos : Pos} {t : TGs} {n : Nat} (hc : X.calm = true) (h : PGs X es t)
    (hn : (assignEach es X.env).length = n := by rfl) (hst : (assignEach es X.env).findIdx? (·.1) = none := by rfl) : PG X (.Tuple es k pos) (gTupH n t) := by
  refine ⟨fun pins s σ H v u Q I r hw => (pg_tup hc h hn hst).run pins s σ H v u Q I r ?_⟩
  obtain ⟨a, xs, e1, hq, hl, hw⟩ := hw
  exact ⟨a, xs, e1, SqT.of hq, hl, hw⟩
/-- xs[k] of the script, or another number -/
theorem idx_or {K : PySem.W.Frag} {H : Hp} {a : Addr} {ns : List Int} {k c0 : Int} {F : V → Hp → Prop} (hs : SqL K H a (ns.map V.int)) (hk : 0 ≤ k) (h : ∀ c : Int, F (.int c) H) :
    if k < ((ns.map V.int).length : Int) then rIxL K (.ref a) (.int k) H F else F (.int c0) H := by
  split
  · rename_i c
    rw [List.length_map] at c
    obtain ⟨m, rfl⟩ : ∃ m : Nat, k = m := ⟨k.toNat, by omega⟩
    have hl : m < ns.length := by omega
    refine ⟨a, _, _, .int ns[m], rfl, rfl, hs, atI_nat ?_, h _⟩
    rw [List.getElem?_map, List.getElem?_eq_getElem hl]
    rfl
  · exact h _
theorem cut_ints (ns : List Int) (lo hi : Option Int) : ∃ ms : List Int, cutV (ns.map V.int) lo hi = ms.map V.int ∧ ms.length ≤ ns.length := by
  refine ⟨(ns.drop (HT.sIx ns.length 0 lo)).take (HT.sIx ns.length ns.length hi - HT.sIx ns.length 0 lo), ?_, ?_⟩
  · unfold cutV
    rw [List.length_map, List.map_take, List.map_drop]
  · rw [List.length_take, List.length_drop]
    omega
/-- for x in a list of ints that the loop leaves, as it leaves the heap -/
theorem for_ints {K : PySem.W.Frag} {σ : L2.St} {H : Hp} {g : TG} {tb : TS} {D : Ends} {tl : TE} (htl : ∀ R : VK, (∀ a H' (ns : List Int), Same H H' → H' a = some (.lst (ns.map V.int)) → R (.ref a) H') → tl σ H R) (Pv : L2.St → Prop) (h0 : Pv σ)
    (hs : ∀ (x : Int) σ H', Same H H' → Pv σ → ∀ N : L2.St → Hp → Prop, (∀ σ', Pv σ' → N σ' H') → g (.int x) σ H' fun σ2 H2 => tb { D with nx := N, ct := N, bk := D.nx } σ2 H2) (hd : ∀ σ' H', Same H H' → Pv σ' → D.nx σ' H') : tFor (iList K tl) g tb D σ H := by
  refine htl _ fun a H' ns s ha => ⟨a, rfl, ⟨_, SqL.of ha⟩, ?_⟩
  refine for_list (K := K) (a := a) (xs := ns.map V.int) (fun _ σ H2 => H2 = H' ∧ Pv σ) ⟨rfl, h0⟩ (fun i σ H2 _ p => by rw [p.1]; exact SqL.of ha) (fun i x σ H2 hx p => ?_) fun σ H2 p => by
    rw [p.1]
    exact hd σ H' s p.2
  obtain ⟨z, _, rfl⟩ : ∃ z, z ∈ ns ∧ V.int z = x := List.mem_map.mp (List.mem_of_getElem? hx)
  rw [p.1]
  exact hs z σ H' s p.2 _ fun σ' h => ⟨rfl, h⟩
/-- for x in a list that stands and stays -/
theorem for_trk {K : PySem.W.Frag} {σ : L2.St} {H : Hp} {g : TG} {tb : TS} {D : Ends} {tl : TE} {a : Addr} {xs : List V} (htl : ∀ R : VK, R (.ref a) H → tl σ H R) (Pv : Nat → L2.St → Hp → Prop) (h0 : Pv 0 σ H)
    (hst : ∀ i σ' H', Pv i σ' H' → SqL K H' a xs)
    (hs : ∀ i x σ H', xs[i]? = some x → Pv i σ H' → ∀ N : L2.St → Hp → Prop, (∀ σ' H2, Pv (i + 1) σ' H2 → N σ' H2) → g x σ H' fun σ2 H2 => tb { D with nx := N, ct := N, bk := D.nx } σ2 H2)
    (hd : ∀ σ' H', Pv xs.length σ' H' → D.nx σ' H') : tFor (iList K tl) g tb D σ H := by
  refine htl _ ⟨a, rfl, ⟨_, hst 0 σ H h0⟩, ?_⟩
  exact for_list (K := K) (a := a) (xs := xs) Pv h0 (fun i σ H2 _ p => hst i σ H2 p) (fun i x σ H2 hx p => hs i x σ H2 hx p _ fun σ' H3 h => h) hd
/-- for x in a list that is written there -/
theorem for_lstn {K : PySem.W.Frag} {σ : L2.St} {H : Hp} {g : TG} {tb : TS} {D : Ends} {tl : TE} {xs : List V} (htl : ∀ R : VK, (∀ a, H a = none → R (.ref a) (upd H a (.lst xs))) → tl σ H R) (Pv : Nat → L2.St → Hp → Prop)
    (h0 : ∀ a, H a = none → Pv 0 σ (upd H a (.lst xs)))
    (hs : ∀ a, H a = none → ∀ i x σ H', xs[i]? = some x → H' a = some (.lst xs) → Pv i σ H' → ∀ N : L2.St → Hp → Prop, (∀ σ' H2, H2 a = some (.lst xs) → Pv (i + 1) σ' H2 → N σ' H2) → g x σ H' fun σ2 H2 => tb { D with nx := N, ct := N, bk := D.nx } σ2 H2)
    (hd : ∀ σ' H', Pv xs.length σ' H' → D.nx σ' H') : tFor (iList K tl) g tb D σ H := by
  refine htl _ fun a ha => ⟨a, rfl, ⟨_, SqL.of upd_same⟩, ?_⟩
  refine for_list (K := K) (a := a) (xs := xs) (fun i σ H2 => H2 a = some (.lst xs) ∧ Pv i σ H2) ⟨upd_same, h0 a ha⟩ (fun i σ H2 _ p => SqL.of p.1) (fun i x σ H2 hx p => ?_) fun σ H2 p => hd σ H2 p.2
  exact hs a ha i x σ H2 hx p.1 p.2 _ fun σ' H3 h1 h2 => ⟨h1, h2⟩
/-! ### comprehensions whose elements are values -/
section
variable {K : PySem.W.Frag} {σ : L2.St}
theorem take_fm {α β : Type} (f : α → Option β) {xs : List α} {i : Nat} {x : α} (h : xs[i]? = some x) : (xs.take (i + 1)).filterMap f = (xs.take i).filterMap f ++ (f x).toList := by
  rw [List.take_add_one, h, List.filterMap_append]
  cases e : f x with
  | none => simp [e]
  | some y => simp [e]
/-- one turn of a comprehension: the element's value, or nothing -/
def Turn1 (g : TG) (tt : TT) (te : TE) (vs : List Nat) (σ : L2.St) (H : Hp) (x : V) (o : Option V) : Prop :=
  ∀ (Y : V → Hp → Prop) (N : Hp → Prop), (∀ y H', o = some y → Same H H' → Y y H') → (∀ H', o = none → Same H H' → N H') →
    g x (wipe σ vs) H fun σ2 H2 => wipe σ2 vs = wipe σ vs ∧ tt σ2 H2 fun b H3 => if b = true then te σ2 H3 Y else N H3
/-- what the new list holds between two turns -/
def Acc (H1 : Hp) (f : V → Option V) (xs : List V) (D : Addr) (i : Nat) (H : Hp) : Prop := Same H1 H ∧ H D = some (.lst ((xs.take i).filterMap f))
theorem acc_turn {H1 : Hp} {f : V → Option V} {xs : List V} {D : Addr} {i : Nat} {H : Hp} {x : V} {g : TG} {tt : TT} {te : TE} {vs : List Nat} (hD : H1 D = none) (hx : xs.length ≤ 1000) (h : xs[i]? = some x) (p : Acc H1 f xs D i H) (t : Turn1 g tt te vs σ H x (f x)) :
    g x (wipe σ vs) H fun σ2 H2 => wipe σ2 vs = wipe σ vs ∧ tt σ2 H2 fun b H3 =>
      if b = true then te σ2 H3 fun y H4 => ∃ acc, H4 D = some (.lst acc) ∧ acc.length < sizeLine ∧ Acc H1 f xs D (i + 1) (upd H4 D (.lst (acc ++ [y]))) else Acc H1 f xs D (i + 1) H3 := by
  refine t _ _ (fun y H' e s => ?_) fun H' e s => ?_
  · refine ⟨_, s _ _ p.2, ?_, ?_, ?_⟩
    · refine Nat.lt_of_le_of_lt (List.length_filterMap_le _ _) ?_
      rw [List.length_take]
      exact Nat.lt_of_le_of_lt (Nat.min_le_right _ _) (small1000 hx)
    · intro b o eb
      rw [upd_ne (ne_of_none eb hD)]
      exact s _ _ (p.1 _ _ eb)
    · rw [upd_same, take_fm f h, e]
      rfl
  · refine ⟨p.1.trans s, ?_⟩
    rw [take_fm f h, e, s _ _ p.2]
    simp
theorem acc_start {H1 : Hp} {f : V → Option V} {xs : List V} {D : Addr} (hD : H1 D = none) : Acc H1 f xs D 0 (upd H1 D (.lst [])) := ⟨fun b o eb => by
  rw [upd_ne (ne_of_none eb hD)]
  exact eb, by rw [upd_same]; rfl⟩
theorem lc_mapL {a : Addr} {xs : List V} {g : TG} {tt : TT} {te : TE} {vs : List Nat} {H H1 : Hp} {tl : TE} {Q : VK} (f : V → Option V) (htl : ∀ R : VK, R (.ref a) H1 → tl σ H R) (ha : SqL K H1 a xs) (hx : xs.length ≤ 1000)
    (hs : ∀ x ∈ xs, ∀ H, Same H1 H → Turn1 g tt te vs σ H x (f x))
    (hd : ∀ D H', H1 D = none → Same H1 H' → H' D = some (.lst (xs.filterMap f)) → Q (.ref D) H') : tLc (iList K tl) g tt te vs σ H Q := by
  refine htl _ ⟨a, rfl, ⟨xs, ha⟩, fun D hD => ?_⟩
  refine lc_list (K := K) (a := a) (xs := xs) (Acc H1 f xs D) (acc_start hD) (fun i H _ p => p.1.seq ha) (fun i x H h p => acc_turn hD hx h p (hs x (List.mem_of_getElem? h) H p.1)) fun H p => ?_
  have e := p.2
  rw [List.take_length] at e
  exact hd D H hD p.1 e
theorem sq_same {H H' : Hp} {a : Addr} {xs : List V} (e : Same H H') (h : SqT K H a xs) : SqT K H' a xs := by
  rcases h with (h | ⟨o, h⟩) | h
  · exact .inl (.inl (e _ _ h))
  · exact .inl (.inr ⟨o, e _ _ h⟩)
  · exact .inr h
theorem lc_mapT {a : Addr} {xs : List V} {g : TG} {tt : TT} {te : TE} {vs : List Nat} {H H1 : Hp} {tl : TE} {Q : VK} (f : V → Option V) (htl : ∀ R : VK, R (.ref a) H1 → tl σ H R) (ha : SqT K H1 a xs) (hx : xs.length ≤ 1000)
    (hs : ∀ x ∈ xs, ∀ H, Same H1 H → Turn1 g tt te vs σ H x (f x))
    (hd : ∀ D H', H1 D = none → Same H1 H' → H' D = some (.lst (xs.filterMap f)) → Q (.ref D) H') : tLc (iTup K tl) g tt te vs σ H Q := by
  refine htl _ ⟨a, rfl, ⟨xs, ha⟩, fun D hD => ?_⟩
  refine lc_tup (K := K) (a := a) (xs := xs) (Acc H1 f xs D) (acc_start hD) (fun i H _ p => sq_same p.1 ha) (fun i x H h p => acc_turn hD hx h p (hs x (List.mem_of_getElem? h) H p.1)) fun H p => ?_
  have e := p.2
  rw [List.take_length] at e
  exact hd D H hD p.1 e
theorem lc_mapTn {xs : List V} {g : TG} {tt : TT} {te : TE} {vs : List Nat} {H : Hp} {tl : TE} {Q : VK} (f : V → Option V) (htl : ∀ R : VK, (∀ a, H a = none → R (.ref a) (upd H a (.tup xs))) → tl σ H R) (hx : xs.length ≤ 1000)
    (hs : ∀ x ∈ xs, ∀ H', Same H H' → Turn1 g tt te vs σ H' x (f x))
    (hd : ∀ D H', H D = none → Same H H' → H' D = some (.lst (xs.filterMap f)) → Q (.ref D) H') : tLc (iTup K tl) g tt te vs σ H Q := by
  refine htl _ fun a ha => ⟨a, rfl, ⟨xs, SqT.of upd_same⟩, fun D hD => ?_⟩
  have s1 : Same H (upd H a (.tup xs)) := same_new ha
  refine lc_tup (K := K) (a := a) (xs := xs) (Acc (upd H a (.tup xs)) f xs D) (acc_start hD) (fun i H _ p => sq_same p.1 (SqT.of upd_same)) (fun i x H h p => acc_turn hD hx h p (hs x (List.mem_of_getElem? h) H (s1.trans p.1))) fun H p => ?_
  have e := p.2
  rw [List.take_length] at e
  exact hd D H (s1.free hD) (s1.trans p.1) e
theorem lc_mapLn {xs : List V} {g : TG} {tt : TT} {te : TE} {vs : List Nat} {H : Hp} {tl : TE} {Q : VK} (f : V → Option V) (htl : ∀ R : VK, (∀ a, H a = none → R (.ref a) (upd H a (.lst xs))) → tl σ H R) (hx : xs.length ≤ 1000)
    (hs : ∀ x ∈ xs, ∀ H', Same H H' → Turn1 g tt te vs σ H' x (f x))
    (hd : ∀ D H', H D = none → Same H H' → H' D = some (.lst (xs.filterMap f)) → Q (.ref D) H') : tLc (iList K tl) g tt te vs σ H Q := by
  refine htl _ fun a ha => ⟨a, rfl, ⟨xs, SqL.of upd_same⟩, fun D hD => ?_⟩
  have s1 : Same H (upd H a (.lst xs)) := same_new ha
  refine lc_list (K := K) (a := a) (xs := xs) (Acc (upd H a (.lst xs)) f xs D) (acc_start hD) (fun i H _ p => p.1.seq (SqL.of upd_same)) (fun i x H h p => acc_turn hD hx h p (hs x (List.mem_of_getElem? h) H (s1.trans p.1))) fun H p => ?_
  have e := p.2
  rw [List.take_length] at e
  exact hd D H (s1.free hD) (s1.trans p.1) e
/-- the ints below n -/
def upto (n : Int) : List V := (List.range n.toNat).map fun i => V.int (i : Nat)
theorem upto_get {n : Int} {i : Nat} (h : (i : Int) < n) : (upto n)[i]? = some (.int i) := by
  unfold upto
  rw [List.getElem?_map, List.getElem?_range (by omega)]
  rfl
theorem upto_len (n : Int) : (upto n).length = n.toNat := by
  unfold upto
  rw [List.length_map, List.length_range]
theorem lc_mapR {n : Int} {g : TG} {tt : TT} {te : TE} {vs : List Nat} {H H1 : Hp} {ta : TA} {Q : VK} (f : V → Option V) (hta : ∀ R : List V → Hp → Prop, R [.int n] H1 → ta σ H R) (hn : n ≤ 1000 ∧ 0 ≤ n)
    (hs : ∀ i : Nat, (i : Int) < n → ∀ H, Same H1 H → Turn1 g tt te vs σ H (.int i) (f (.int i)))
    (hd : ∀ D H', H1 D = none → Same H1 H' → H' D = some (.lst ((upto n).filterMap f)) → Q (.ref D) H') : tLc (iRng1 ta) g tt te vs σ H Q := by
  refine hta _ ⟨n, rfl, by omega, by omega, fun D hD => ?_⟩
  refine lc_range (lo := 0) (n := n.toNat) (Acc H1 f (upto n) D) (acc_start hD) (fun i H hi p => ?_) fun H p => ?_
  · have e : (0 : Int) + (i : Int) = (i : Int) := by omega
    rw [e]
    exact acc_turn hD (by rw [upto_len]; omega) (upto_get (by omega)) p (hs i (by omega) H p.1)
  · have e := p.2
    rw [show n.toNat = (upto n).length from (upto_len n).symm, List.take_length] at e
    exact hd D H hD p.1 e
end
/-! ### a source of draws: three numbers in a list at p, and nothing else is changed -/
def Spring (H : Hp) (p : Addr) : Prop := ∃ a b c : Int, H p = some (.lst [.int a, .int b, .int c])
structure Kp (p : Addr) (H H' : Hp) : Prop where
  sp : Spring H' p
  keep : ∀ b o, b ≠ p → H b = some o → H' b = some o
theorem Kp.refl {p : Addr} {H : Hp} (h : Spring H p) : Kp p H H := ⟨h, fun _ _ _ e => e⟩
theorem Kp.trans {p : Addr} {H H1 H2 : Hp} (a : Kp p H H1) (b : Kp p H1 H2) : Kp p H H2 := ⟨b.sp, fun c o n e => b.keep c o n (a.keep c o n e)⟩
theorem Spring.ne {H : Hp} {p q : Addr} (h : Spring H p) (n : H q = none) : q ≠ p := by
  rintro rfl
  obtain ⟨_, _, _, e⟩ := h
  rw [e] at n
  cases n
theorem ne_of_spring {H : Hp} {p q : Addr} (h : Spring H p) (n : H q = none) : p ≠ q := Ne.symm (h.ne n)
theorem Spring.same {H H' : Hp} {p : Addr} (h : Spring H p) (s : Same H H') : Spring H' p := by
  obtain ⟨a, b, c, e⟩ := h
  exact ⟨a, b, c, s _ _ e⟩
theorem Spring.new {H : Hp} {p q : Addr} {o : HO} (h : Spring H p) (n : H q = none) : Spring (upd H q o) p := h.same (same_new n)
theorem Kp.same {p : Addr} {H H1 H2 : Hp} (a : Kp p H H1) (s : Same H1 H2) : Kp p H H2 := ⟨a.sp.same s, fun c o n e => s c o (a.keep c o n e)⟩
theorem Kp.new {p q : Addr} {H H1 : Hp} {o : HO} (a : Kp p H H1) (n : H1 q = none) : Kp p H (upd H1 q o) := a.same (same_new n)
theorem Kp.free {p q : Addr} {H H1 : Hp} (a : Kp p H H1) (hp : q ≠ p) (n : H1 q = none) : H q = none := by
  cases e : H q with
  | none => rfl
  | some o =>
    rw [a.keep q o hp e] at n
    cases n
/-- what H does not know may change -/
theorem Kp.mut {p q : Addr} {H H1 : Hp} {o : HO} (a : Kp p H H1) (hp : q ≠ p) (n : H q = none) : Kp p H (upd H1 q o) := by
  obtain ⟨x, y, z, e⟩ := a.sp
  refine ⟨⟨x, y, z, ?_⟩, fun b u nb e' => ?_⟩
  · rw [upd_ne (Ne.symm hp)]
    exact e
  · rw [upd_ne (ne_of_none e' n)]
    exact a.keep b u nb e'
theorem Kp.seq {K : PySem.W.Frag} {p q : Addr} {H H1 : Hp} {xs : List V} (a : Kp p H H1) (hp : q ≠ p) (h : SqL K H q xs) : SqL K H1 q xs := by
  rcases h with (h | ⟨o, h⟩) | h
  · exact .inl (.inl (a.keep _ _ hp h))
  · exact .inl (.inr ⟨o, a.keep _ _ hp h⟩)
  · exact .inr h
/-! ### in a list of ints -/
theorem inV_ints (y : Int) : ∀ ns : List Int, inV (.int y) (ns.map V.int) = decide (y ∈ ns)
  | [] => rfl
  | n :: r => by
    have ih := inV_ints y r
    unfold inV at ih ⊢
    rw [List.map_cons, List.any_cons, ih]
    show (n == y || decide (y ∈ r)) = decide (y ∈ n :: r)
    rw [Bool.eq_iff_iff]
    simp only [Bool.or_eq_true, beq_iff_eq, decide_eq_true_eq, List.mem_cons]
    constructor
    · rintro (h | h)
      · exact .inl h.symm
      · exact .inr h
    · rintro (h | h)
      · exact .inl h.symm
      · exact .inr h
theorem flat_ints : ∀ ns : List Int, (ns.map V.int).all flatV = true
  | [] => rfl
  | n :: r => by
    rw [List.map_cons, List.all_cons, flat_ints r]
    rfl
/-! ### data compared -/
theorem dpAll_ints {K : PySem.W.Frag} {H : Hp} : ∀ ns : List Int, DpAll K H (ns.map V.int) (ns.map PyData.int)
  | [] => .nil
  | n :: r => .cons (.int n) (dpAll_ints r)
theorem can_ints : ∀ ns : List Int, PyData.canLayAll0 (ns.map PyData.int) = true
  | [] => rfl
  | n :: r => by
    rw [List.map_cons]
    show (PyData.canLay0 (.int n) && PyData.canLayAll0 (r.map PyData.int)) = true
    rw [can_ints r]
    rfl
theorem depth_ints : ∀ ns : List Int, PyData.depthAll (ns.map PyData.int) ≤ 1
  | [] => by simp [PyData.depthAll]
  | n :: r => by
    have ih := depth_ints r
    rw [List.map_cons]
    simp only [PyData.depthAll, PyData.depth]
    omega
theorem shaped_tup (ns : List Int) : SeqAt.shaped (.tuple (ns.map PyData.int)) = true := by
  unfold SeqAt.shaped
  rw [Bool.and_eq_true]
  refine ⟨can_ints ns, decide_eq_true ?_⟩
  have h := depth_ints ns
  simp only [PyData.depth]
  omega
theorem shaped_lst (ns : List Int) : SeqAt.shaped (.list (ns.map PyData.int)) = true := by
  unfold SeqAt.shaped
  rw [Bool.and_eq_true]
  refine ⟨can_ints ns, decide_eq_true ?_⟩
  have h := depth_ints ns
  simp only [PyData.depth]
  omega
/-- two tuples, two lists of the same ints -/
theorem ne_tups {K : PySem.W.Frag} {H : Hp} {a b : Addr} {ns : List Int} {Q : VK} (ha : H a = some (.tup (ns.map V.int))) (hb : H b = some (.tup (ns.map V.int))) (q : Q (.bl false) H) : rNeD K (.ref a) (.ref b) H Q := by
  refine ⟨.tuple (ns.map PyData.int), .tuple (ns.map PyData.int), .tup (SqT.of ha) (dpAll_ints ns), .tup (SqT.of hb) (dpAll_ints ns), shaped_tup ns, shaped_tup ns, ?_⟩
  rw [SeqAt.eqv_refl _ (SeqAt.canLay_of_shaped (shaped_tup ns))]
  exact q
theorem ne_lsts {K : PySem.W.Frag} {H : Hp} {a b : Addr} {ns : List Int} {Q : VK} (ha : H a = some (.lst (ns.map V.int))) (hb : H b = some (.lst (ns.map V.int))) (q : Q (.bl false) H) : rNeD K (.ref a) (.ref b) H Q := by
  refine ⟨.list (ns.map PyData.int), .list (ns.map PyData.int), .lst (SqL.of ha) (dpAll_ints ns), .lst (SqL.of hb) (dpAll_ints ns), shaped_lst ns, shaped_lst ns, ?_⟩
  rw [SeqAt.eqv_refl _ (SeqAt.canLay_of_shaped (shaped_lst ns))]
  exact q
end Z

/-! Calls by keywords alone; defs that ask that no list is being written out around them (repr). -/
namespace Z
open PySem PySem.Spec PyProof.Rows L2
/-! ### keywords alone, in any order -/
/-- how keywords alone come to the parameters: π tells for each parameter the place of its keyword -/
def BdK (x : Str) (st : Stmt) (ps ks : List Str) (π : List Nat) : Prop := ∀ (qual : Str) (kV doc pm : Value) (an : Option Addr) (cdv ct : Value) (ws : List Value), ws.length = ks.length →
  bindArgs (PySem.W.fnOf x qual (defArgs st) (defBody st) (defScope st) .none kV doc pm an cdv ct) ⟨[], ks.zip ws⟩ = pure (ps.zip (π.map fun i => ws.getD i .none))
theorem vals_getD : ∀ {zs : List V} {ws : List Value}, Vals zs ws → ∀ i : Nat, RelV (zs.getD i .non) (ws.getD i .none)
  | _, _, .nil, _ => rfl
  | _, _, .cons r _, 0 => r
  | _, _, .cons _ t, i + 1 => vals_getD t i
theorem vals_perm {zs : List V} {ws : List Value} (r : Vals zs ws) : ∀ π : List Nat, Vals (π.map fun i => zs.getD i .non) (π.map fun i => ws.getD i .none)
  | [] => .nil
  | i :: π => .cons (vals_getD r i) (vals_perm r π)
def tCallK0 (n : Nat) (sp : Sp) (π : List Nat) (E : XK) (tk : TA) : TE := fun σ H Q => tk σ H fun zs H1 => zs.length = n ∧ sp (π.map fun i => zs.getD i .non) H1 Q E
/-! ### defs under no guard -/
structure FnG (P : Program) (w : World) (K : PySem.W.Frag) (mg : Str → Option Value) (base : Heap) (CX : CXT) (k : Nat) (f : Addr) (fd : FuncData) (ps : List Str) (sp : Sp) : Prop where
  few : ∀ vs H Q E, sp vs H Q E → vs.length = ps.length
  goes : ∀ (A : Around) (outer : List Env) (s : Shared) (H : Hp) (args : Args) (us : List Value) (vs : List V) (Q : VK) (E : XK), Room k A → A.guards = some [] → Env0 P w K mg base A outer s H → BindsTo s fd args (ps.zip us) → Vals vs us →
    sp vs H Q E → codeAny (model P w) A (.call (.ref f) args) (CR CX outer P w H s Q E) s
theorem FnG.of {P : Program} {w : World} {K : PySem.W.Frag} {mg : Str → Option Value} {base : Heap} {CX : CXT} {k : Nat} {f : Addr} {fd : FuncData} {ps : List Str} {sp : Sp} (F : FnOk P w K mg base CX k f fd ps sp) : FnG P w K mg base CX k f fd ps sp :=
  ⟨F.len, fun A outer s H args us vs Q E hr _ => F.run A outer s H args us vs Q E hr⟩
section
variable {P : Program} {w : World} {K : PySem.W.Frag} {mg : Str → Option Value} {base : Heap}
/-- a def by its body, under no guard -/
theorem fun_okG {x qual : Str} {st : Stmt} {f : Addr} {fd : FuncData} {N ps : List Str} {k : Nat} {sp : Sp} (F : Fun K x qual st f fd) (S : FnScope N ps (defScope st)) (few : ∀ vs H Q E, sp vs H Q E → vs.length = ps.length)
    (body : ∀ (cdv : Value) (A : Around) (outer : List Env) (s : Shared) (H : Hp) (vs : List V) (Q : VK) (E : XK), Room k (A.deeper (envOfC qual (defScope st) s.heap.objs.size f cdv)) → A.guards = some [] → sp vs H Q E →
      ∃ t, PSs (cxOf CX0 P w K mg base N qual (defScope st) f cdv A outer s H E).nox (defBody st) t ∧ t { nx := fun _ H' => Q .non H', rt := Q } (start N vs) H) : FnG P w K mg base CX0 (k + 1) f fd ps sp := by
  obtain ⟨oc, od, kV, doc, pm, an, cdv, ct, osl, rfl, lk, hcd⟩ := F.ex
  refine ⟨few, fun A outer s H args us vs Q E room gd here binds rel told => ?_⟩
  have inK : K.In s.heap := here.mod.kin.keeps fun b o e => (here.bs b o e).1
  have noLim : s.heap.NoLimit := here.mod.nolimit.keeps fun b o e => (here.bs b o e).1
  have kinds : ∀ y ∈ ps.zip us, (defScope st).names.lookup y.1 = some .local ∨ ((defScope st).names.lookup y.1 = some .cell ∧ ((cellsFrom (s.heap.objs.size + 1) (defScope st).names []).lookup y.1).isSome = true) := fun ⟨n, v⟩ hy =>
    (S.par n (List.of_mem_zip hy).1).elim .inl fun c => .inr ⟨c, PySem.W.cellsFrom_some _ _ _ (.inl c)⟩
  refine codeAny_call_function room.depth (inK _ _ lk) rfl S.co S.gen rfl (PySem.W.codeRec_of inK hcd) (binds _ _ _ _ (wpAny_newFunctionEnv_cells S.kind kinds fun env he s1 made => ?_))
  cases he
  refine ⟨noLim.keeps made.toInCall.keep, codeAny_func ?_⟩
  obtain ⟨t, ht, hq⟩ := body cdv A outer s H vs Q E (room.deeper _) gd told
  have I0 : Inv (cxOf CX0 P w K mg base N qual (defScope st) f cdv A outer s H E) [] (start N vs) H s1 := inv_start S room.hd here (few _ _ _ _ told) rel made
  refine wpAny_mono (ht.nox.run [] s1 (start N vs) H _ I0 hq) (fun fl s' hs => ?_) fun e s' hs => hs
  cases fl with
  | ret u => exact let ⟨v, _, H', J, rv, q⟩ := hs; ⟨v, H', J.os, J.bare, J.base, J.hok, rv, q⟩
  | next => exact let ⟨_, H', J, q⟩ := hs; ⟨V.non, H', J.os, J.bare, J.base, J.hok, rfl, q⟩
  | brk => exact let ⟨_, _, _, q⟩ := hs; q.elim
  | cont => exact let ⟨_, _, _, q⟩ := hs; q.elim
end
structure HdG (P : Program) (w : World) (K : PySem.W.Frag) (mg : Str → Option Value) (base : Heap) (CX : CXT) (k : Nat) (x : Str) (st : Stmt) (ps : List Str) (sp : Sp) : Prop where
  ex : ∃ f fd, Fun K x x st f fd ∧ mg x = some (.ref f) ∧ FnG P w K mg base CX k f fd ps sp
  bd : Bd x st ps
theorem HdG.of {P : Program} {w : World} {K : PySem.W.Frag} {mg : Str → Option Value} {base : Heap} {CX : CXT} {k : Nat} {x : Str} {st : Stmt} {ps : List Str} {sp : Sp} (h : Hd P w K mg base CX k x st ps sp) : HdG P w K mg base CX k x st ps sp := by
  obtain ⟨f, fd, F, hm, G⟩ := h.ex
  exact ⟨⟨f, fd, F, hm, .of G⟩, h.bd⟩
section
variable {X : Cx} {CX : CXT} {k : Nat} {st : Stmt} {ps ks : List Str} {sp : Sp} {E : XK} {x : Str} {p pos : Pos} {e : Expr} {es : List Expr} {kws : List Keyword} {t tk : TA} {π : List Nat}
theorem run_G {pins : List (Addr × Obj)} {σ : L2.St} {H : Hp} {s : Shared} {Q : VK} {args : Args} {us : List Value} {vs : List V} {f : Addr} {fd : FuncData} (F : FnG X.prog X.w X.K X.mg X.base CX k f fd ps sp) (hr : Room k X.A) (gd : X.A.guards = some []) (hx : Passes CX X E)
    (I : Inv X pins σ H s) (hb : BindsTo s fd args (ps.zip us)) (r : Vals vs us) (h : sp vs H Q E) : codeAny (model X.prog X.w) X.A (.call (.ref f) args) (fun q s' => match q with | .ok (.ret u) => EP X pins σ Q u s' | .ok _ => False | .error e => X.xe e s') s := by
  refine codeAny_mono (F.goes X.A X.stack s H args us vs Q E hr gd I.env0 hb r h) fun q s' told => ?_
  match q, told with
  | .error e, told => exact hx pins σ H s e s' I told
  | .ok (.ret u), told => exact I.after told
  | .ok .next, told => exact told
  | .ok .brk, told => exact told
  | .ok .cont, told => exact told
theorem run_Gc {pins : List (Addr × Obj)} {σ : L2.St} {H : Hp} {s : Shared} {Q : VK} {us0 : List Value} {kw : List (Str × Value)} {us : List Value} {vs : List V} {f : Addr} {fd : FuncData} (F : FnG X.prog X.w X.K X.mg X.base CX k f fd ps sp) (hr : Room k X.A) (gd : X.A.guards = some []) (hx : Passes CX X E)
    (I : Inv X pins σ H s) (hb : BindsTo s fd ⟨us0, kw⟩ (ps.zip us)) (r : Vals vs us) (h : sp vs H Q E) : wpAny (model X.prog X.w) X.A (call (.ref f) us0 kw) (EP X pins σ Q) X.xe s := by
  refine wpAny_call (codeAny_mono (run_G F hr gd hx I hb r h) fun q s' told => ?_)
  match q, told with
  | .error e, told => exact told
  | .ok (.ret u), told => exact told
  | .ok .next, told => exact told.elim
  | .ok .brk, told => exact told.elim
  | .ok .cont, told => exact told.elim
theorem pe_hdG (h : HdG X.prog X.w X.K X.mg X.base CX k x st ps sp) (hr : Room k X.A) (gd : X.A.guards = some []) (hg : Gl X x) (hx : Passes CX X E) (ha : PA X (e :: es) t) (hdb : (x == ("__debug__" : Str)) = false := by decide)
    (hs : starEach (e :: es) X.env = (false, eval e X.env) :: starEach es X.env := by rfl) (hpl : (backTo pos (starEach es X.env)).any (·.1) = false := by rfl) : PE X (.Call (.Name x p) (e :: es) [] pos) (tCall sp [] E t) := by
  obtain ⟨f, fd, F, hm, G⟩ := h.ex
  refine ⟨fun pins s σ H Q I told => wpAny_Call_Name_kw (ld_glob I hg hm (PySem.W.callWith_K (h₀ := X.base) I.ok.mod.kin F.kp (thn (ha.run pos pins s σ H _ I told) fun us s1 got => ?_) hs hpl) hdb)⟩
  obtain ⟨vs, H1, I1, r, q⟩ := got
  rw [List.append_nil] at q
  refine ⟨I1.kIn, run_Gc G hr gd hx I1 ?_ r q⟩
  have hl : us.length = ps.length := by rw [← r.length]; exact G.few _ _ _ _ q
  have b := (F.binds (h.bd x)) s1 us I1.kIn (by rw [List.append_nil]; exact hl)
  rw [List.append_nil] at b
  exact b
theorem pe_hdk (h : HdG X.prog X.w X.K X.mg X.base CX k x st ps sp) (hr : Room k X.A) (gd : X.A.guards = some [] ∨ Hd X.prog X.w X.K X.mg X.base CX k x st ps sp) (hg : Gl X x) (hx : Passes CX X E) (hbk : BdK x st ps ks π) (hkw : PK X kws tk)
    (hall : (backToKw pos (keywordEach kws X.env)).all (·.1.isSome) = true := by rfl) (hks : (backToKw pos (keywordEach kws X.env)).filterMap (·.1) = ks := by rfl)
    (hdb : (x == ("__debug__" : Str)) = false := by decide) (hpl : ((backTo pos (starEach [] X.env)).any (·.1) || (backToKw pos (keywordEach kws X.env)).any (·.1.isNone)) = false := by rfl) :
    PE X (.Call (.Name x p) [] kws pos) (tCallK0 ks.length sp π E tk) := by
  have fin : ∀ {pins : List (Addr × Obj)} {σ : L2.St} {H : Hp} {s : Shared} {Q : VK} {ws : List Value} {zs : List V}, Inv X pins σ H s → Vals zs ws → zs.length = ks.length → sp (π.map fun i => zs.getD i .non) H Q E →
      ∃ f, X.mg x = some (.ref f) ∧ PySem.W.keepIn X.K (.ref f) = true ∧ wpAny (model X.prog X.w) X.A (call (.ref f) [] (ks.zip ws)) (EP X pins σ Q) X.xe s := by
    intro pins σ H s Q ws zs I r hl q
    have bind : ∀ {f : Addr} {fd : FuncData}, Fun X.K x x st f fd → BindsTo s fd ⟨[], ks.zip ws⟩ (ps.zip (π.map fun i => ws.getD i .none)) := by
      intro f fd F
      obtain ⟨oc, od, kV, doc, pm, an, cdv, ct, osl, rfl, lk, hcd⟩ := F.ex
      exact .of_eq (hbk x kV doc pm an cdv ct ws (by rw [← r.length]; exact hl))
    rcases gd with gd | h2
    · obtain ⟨f, fd, F, hm, G⟩ := h.ex
      exact ⟨f, hm, F.kp, run_Gc G hr gd hx I (bind F) (vals_perm r π) q⟩
    · obtain ⟨f, fd, F, hm, G⟩ := h2.ex
      refine ⟨f, hm, F.kp, wpAny_call (codeAny_mono (G.run X.A X.stack s H _ _ _ Q E hr I.env0 (bind F) (vals_perm r π) q) fun q s' told => ?_)⟩
      match q, told with
      | .error e, told => exact hx pins σ H s e s' I told
      | .ok (.ret u), told => exact I.after told
      | .ok .next, told => exact told.elim
      | .ok .brk, told => exact told.elim
      | .ok .cont, told => exact told.elim
  obtain ⟨f0, fd0, F0, hm0, G0⟩ := h.ex
  refine ⟨fun pins s σ H Q I told => wpAny_Call_Name_kw (ld_glob I hg hm0 (PySem.W.callWith_KW0 (h₀ := X.base) I.ok.mod.kin F0.kp hall (thn (hkw.run pos pins s σ H _ I told) fun ws s1 got => ?_) hpl) hdb)⟩
  obtain ⟨zs, H1, I1, r, hl, q⟩ := got
  refine ⟨I1.kIn, ?_⟩
  rw [hks]
  obtain ⟨f, hm, kp, done⟩ := fin I1 r hl q
  rw [hm0] at hm
  cases hm
  exact done
end
/-! ### the law's own call -/
section
variable {P : Program} {w : World} {K : PySem.W.Frag} {mg mb : Str → Option Value} {k : Nat} {fa a : Addr} {fd : FuncData} {x : Str} {sp : Sp} {s1 : Shared} {vs : List Value} {ns : List Int}
/-- from one abstract heap in which the script alone may be tracked -/
theorem start_call (inK : K.In s1.heap) (nsG : s1.heap.Ns mainGlobals mg) (nsB : s1.heap.Ns builtinsNs mb) (boot : ∀ x : Str, x ≠ "__name__" → mb x = bootBuiltins x) (noLim : s1.heap.NoLimit) (noGen : s1.gens = #[])
    (here : s1.heap.get? a = some { cls := .type "list", data := .seq vs.toArray }) (room : Room k callerA) (F : ∀ base : Heap, K.In base → base.Ns mainGlobals mg → FnG P w K mg base CX0 k fa fd [x] sp)
    (bind : ∀ (s : Shared) (u : Value), BindsTo s fd ⟨[u], []⟩ [(x, u)]) (H : Hp) (only : Only H) (told : sp [.ref a] H (fun v _ => v = .bl true) fun _ _ _ => False) (ok : HOk P w H s1.heap) (one : ∀ b, H b ≠ none → b = a) (out : H a ≠ none → K.lookup a = none) :
    codeAny (model P w) callerA (.call (.ref fa) ⟨[.ref a], []⟩) (fun r s' => r = .ok (.ret (.bool true)) ∧ OldK s1.heap s'.heap ∧ s'.os = s1.os ∧ AllBare s'.gens) s1 := by
  have free : ∀ {b : Addr} {o : Obj} {es : Array DictEntry} {ep : Nat}, s1.heap.get? b = some o → o.data = .dict es ep → H b = none := by
    intro b o es ep e d
    cases q : H b with
    | none => rfl
    | some u =>
      obtain rfl := one b (by rw [q]; exact fun z => nomatch z)
      rw [here] at e
      cases e
      exact nomatch d
  have nsK : ∀ {b : Addr} {m : Str → Option Value}, s1.heap.Ns b m → (hidT s1.heap H).Ns b m := by
    rintro b m ⟨o, es, ep, e, d, r⟩
    exact ⟨o, es, ep, hidT_get e (free e d), d, r⟩
  have inH : K.In (hidT s1.heap H) := by
    intro b o e
    refine hidT_get (inK b o e) ?_
    cases q : H b with
    | none => rfl
    | some u =>
      have hb : H b ≠ none := by rw [q]; exact fun z => nomatch z
      obtain rfl := one b hb
      rw [out hb] at e
      cases e
  have md : Mod K mg (hidT s1.heap H) := ⟨inH, nsK nsG, ⟨mb, nsK nsB, boot⟩, noLim.elim fun mc h => ⟨mc, nsK h.1, h.2⟩⟩
  have nil : ∀ {b : Addr}, b ∉ frs [] := fun {b} z => List.not_mem_nil z
  have e0 : Env0 P w K mg (hidT s1.heap H) callerA [] s1 H := { frames := rfl, mod := md, bs := fun b o e => of_hidT e, bsz := Nat.le_of_eq (hidT_size _ _), funs := trivial, frf := fun b hb => absurd hb nil, hok := ok, bare := .of_eq noGen }
  refine codeAny_mono ((F _ inH (nsK nsG)).goes callerA [] s1 H ⟨[.ref a], []⟩ [.ref a] [.ref a] _ _ room rfl e0 (bind s1 (.ref a)) (.cons rfl .nil) told) fun r s' h => ?_
  match r, h with
  | .error e, h => exact h.elim
  | .ok .next, h => exact h.elim
  | .ok .brk, h => exact h.elim
  | .ok .cont, h => exact h.elim
  | .ok (.ret u), ⟨v, H', os, bare, un, ok', ru, (hv : v = .bl true)⟩ =>
    subst hv
    cases (show u = Value.bool true from ru)
    refine ⟨rfl, OldK.of_keep fun b o e => ?_, os, bare⟩
    cases q : H b with
    | none => exact un.keep b o e q nil List.not_mem_nil
    | some u =>
      rcases only b with z | ⟨ob, xs, z⟩
      · rw [q] at z
        cases z
      · have z1 := (ok b _ z).1
        have z2 := (ok' b _ (un.frzs b ob _ z)).1
        rw [e] at z1
        cases z1
        exact z2
theorem law_callG (inK : K.In s1.heap) (nsG : s1.heap.Ns mainGlobals mg) (nsB : s1.heap.Ns builtinsNs mb) (boot : ∀ x : Str, x ≠ "__name__" → mb x = bootBuiltins x) (noLim : s1.heap.NoLimit) (noGen : s1.gens = #[])
    (here : s1.heap.get? a = some { cls := .type "list", data := .seq vs.toArray }) (hints : IntsAre vs ns) (few : ns.length ≤ sizeLine) (room : Room k callerA) (F : ∀ base : Heap, K.In base → base.Ns mainGlobals mg → FnG P w K mg base CX0 k fa fd [x] sp)
    (bind : ∀ (s : Shared) (u : Value), BindsTo s fd ⟨[u], []⟩ [(x, u)]) (told : ∀ H : Hp, Only H → SqL K H a (ns.map V.int) → sp [.ref a] H (fun v _ => v = .bl true) fun _ _ _ => False) :
    codeAny (model P w) callerA (.call (.ref fa) ⟨[.ref a], []⟩) (fun r s' => r = .ok (.ret (.bool true)) ∧ OldK s1.heap s'.heap ∧ s'.os = s1.os ∧ AllBare s'.gens) s1 := by
  have rel := vals_ints hints
  cases kept : K.lookup a with
  | some o =>
    have e := inK a o kept
    rw [here] at e
    cases e
    have only : Only (fun _ => none) := fun _ => .inl rfl
    exact start_call inK nsG nsB boot noLim noGen here room F bind _ only (told _ only (.inr ⟨_, vs.toArray, _, kept, rfl, rfl, rfl, by rw [List.size_toArray, hints.length]; exact few, rel⟩)) (fun b u z => nomatch z) (fun b z => absurd rfl z) fun z => absurd rfl z
  | none =>
    let H : Hp := fun b => if b = a then some (.frz { cls := .type "list", data := .seq vs.toArray } (.lst (ns.map V.int))) else none
    have at_a : H a = some (.frz { cls := .type "list", data := .seq vs.toArray } (.lst (ns.map V.int))) := if_pos rfl
    have off : ∀ b, b ≠ a → H b = none := fun b hb => if_neg hb
    have only : Only H := fun b => if hb : b = a then .inr ⟨_, _, hb ▸ at_a⟩ else .inl (off b hb)
    refine start_call inK nsG nsB boot noLim noGen here room F bind H only (told H only (.inl (.inr ⟨_, at_a⟩))) (fun b u z => ?_) (fun b z => ?_) fun _ => kept
    · by_cases hb : b = a
      · subst hb
        rw [at_a] at z
        cases z
        exact ⟨here, by rw [List.length_map]; exact few, vs, _, rel, here⟩
      · rw [off b hb] at z
        cases z
    · exact Classical.byContradiction fun hb => z (off b hb)
end
theorem walk_G {l : PySem.W.OpenLaw} {n k : Nat} {q : Program} {loose : List Str} {XP : (Str → Option Value) → Heap → Prop} {YP : World → Heap → Prop} {d : DefRec} {K : Params → PySem.W.Frag} {sp : PySem.W.Frag → Sp} {x : Str}
    (hn : l.most = some n) (hn2 : n ≤ sizeLine) (hdf : d.params.defaults = []) (room : Room k callerA) (hY : ∀ (w : World) (h : Heap), YP w h → (K w.params).In h)
    (F : ∀ (w : World) (mg : Str → Option Value) (fa : Addr) (h : Heap), (K w.params).In h → h.Ns mainGlobals mg → mg d.name = some (.ref fa) →
      ∃ fd : FuncData, (∀ (s : Shared) (u : Value), BindsTo s fd ⟨[u], []⟩ [(x, u)]) ∧ ∀ base : Heap, (K w.params).In base → base.Ns mainGlobals mg → FnG l.prog w (K w.params) mg base CX0 k fa fd [x] (sp (K w.params)))
    (told : ∀ (K : PySem.W.Frag) (H : Hp) (a : Addr) (ns : List Int), ns.length ≤ n → Only H → SqL K H a (ns.map V.int) → sp K [.ref a] H (fun v _ => v = .bl true) fun _ _ _ => False) :
    PySem.W.WalkO q loose XP YP l.row.toRowW d [] (fun f vs => PySem.call f vs) := by
  refine Att.attach_call hn hdf fun w s0 s1 mg mb fa o pm cd doc a vs ns G Y ho hd hcd hmg hobj hints hlen hg => ?_
  have inK := hY w _ Y
  obtain ⟨fd, hb, hF⟩ := F w mg fa _ inK G.T.g hmg
  exact law_callG inK G.T.g G.T.b G.T.builtins G.T.nolimit hg hobj hints (Nat.le_trans hlen hn2) room hF hb fun H hO hS => told _ H a ns hlen hO hS
/-! ### repr: of small data -/
theorem listText_le : ∀ ts : List Str, (listText ts).length ≤ piled ts + 2
  | [] => by decide
  | t :: r => by
    have h := textFrom_length_pos r 1 (("[" : Str) ++ (if (0 : Nat) > 0 then ", " else "" : String) ++ t) Nat.one_pos
    have e : (("[" : Str) ++ (if (0 : Nat) > 0 then ", " else "" : String) ++ t).length = 1 + t.length := by
      rw [strLen_append, strLen_append]
      rfl
    have x : (listText (t :: r)).length = (textFrom 1 (("[" : Str) ++ (if (0 : Nat) > 0 then ", " else "" : String) ++ t) r).length + 1 := by
      unfold listText
      rw [strLen_append]
      rfl
    rw [x, h, e, piled_cons]
    omega
theorem tupleText_le (ts : List Str) : (tupleText ts).length ≤ piled ts + 3 := by
  have e2 : ((if ts.length == 1 then ",)" else ")" : String) : Str).length ≤ 2 := by split <;> decide
  unfold tupleText
  rw [strLen_append, strLen_append]
  cases ts with
  | nil => decide
  | cons t r =>
    have h := join_length_add (t :: r) (List.cons_ne_nil _ _)
    have e1 : ("(" : Str).length = 1 := by decide
    omega
mutual
/-- small enough to be written out -/
def Shw : PyData → Prop
  | .none => True
  | .bool _ => True
  | .int i => i.natAbs.log2 < 1000
  | .str x => (∀ c ∈ x.cps.toList, c < 16 ^ 8) ∧ x.length ≤ 10000
  | .list xs => ShwAll xs
  | .tuple xs => ShwAll xs
  | .dict _ => False
def ShwAll : List PyData → Prop
  | [] => True
  | x :: xs => Shw x ∧ ShwAll xs
end
mutual
/-- how many signs at most -/
def wd : PyData → Nat
  | .none => 4
  | .bool _ => 5
  | .int _ => 1001
  | .str x => 10 * x.length + 2
  | .list xs => wdAll xs + 2
  | .tuple xs => wdAll xs + 3
  | .dict _ => 0
def wdAll : List PyData → Nat
  | [] => 0
  | x :: xs => wd x + 2 + wdAll xs
end
mutual
theorem shown_le : ∀ d : PyData, Shw d → d.shown.length ≤ wd d ∧ d.showable = true ∧ d.hasDict = false
  | .none, _ => ⟨by decide, rfl, rfl⟩
  | .bool b, _ => ⟨by cases b <;> decide, rfl, rfl⟩
  | .int i, h => by
    have h : i.natAbs.log2 < 1000 := by simpa only [Shw] using h
    refine ⟨?_, ?_, rfl⟩
    · have h2 := int_text_length_le (k := 1000) (by decide) h
      simp only [PyData.shown, wd]
      have e : (Str.ofString (toString i)).length = (toString i).length := PySem.ofString_length _
      omega
    · simp only [PyData.showable, decide_eq_true_eq]
      omega
  | .str x, h => by
    have h : (∀ c ∈ x.cps.toList, c < 16 ^ 8) ∧ x.length ≤ 10000 := by simpa only [Shw] using h
    refine ⟨?_, rfl, rfl⟩
    simp only [PyData.shown, wd]
    exact StrLaws.reprText_len x h.1
  | .list xs, h => by
    obtain ⟨h1, h2, h3⟩ := shownAll_le xs (by simpa only [Shw] using h)
    refine ⟨?_, by simpa only [PyData.showable] using h2, by simpa only [PyData.hasDict] using h3⟩
    have := listText_le (PyData.shownAll xs)
    simp only [PyData.shown, wd]
    omega
  | .tuple xs, h => by
    obtain ⟨h1, h2, h3⟩ := shownAll_le xs (by simpa only [Shw] using h)
    refine ⟨?_, by simpa only [PyData.showable] using h2, by simpa only [PyData.hasDict] using h3⟩
    have := tupleText_le (PyData.shownAll xs)
    simp only [PyData.shown, wd]
    omega
  | .dict _, h => by simp only [Shw] at h
theorem shownAll_le : ∀ xs : List PyData, ShwAll xs → piled (PyData.shownAll xs) ≤ wdAll xs ∧ PyData.showableAll xs = true ∧ PyData.hasDictAll xs = false
  | [], _ => ⟨Nat.le_refl _, rfl, rfl⟩
  | x :: xs, h => by
    have h : Shw x ∧ ShwAll xs := by simpa only [ShwAll] using h
    obtain ⟨a1, a2, a3⟩ := shown_le x h.1
    obtain ⟨b1, b2, b3⟩ := shownAll_le xs h.2
    refine ⟨?_, ?_, ?_⟩
    · simp only [PyData.shownAll, piled_cons, wdAll]
      omega
    · simp only [PyData.showableAll, a2, b2, Bool.and_self]
    · simp only [PyData.hasDictAll, a3, b3, Bool.or_self]
end
theorem shw_int {i : Int} (h0 : 0 ≤ i) (h1 : i < 2 ^ 200) : Shw (.int i) := by
  simp only [Shw]
  have h2 : i.natAbs < 2 ^ 200 := by omega
  exact Nat.lt_trans (PySem.Flt.log2_lt_of (by decide) h2) (by decide)
section
variable {X : Cx}
/-- repr of a list or tuple of data -/
def rRepr (K : PySem.W.Frag) : List V → Hp → VK → Prop := fun vs H Q => ∃ a d, vs = [.ref a] ∧ Dp K H (.ref a) d ∧ Shw d ∧ d.depth ≤ 60 ∧ wd d ≤ 1000000 ∧ Q (.str d.shown) H
theorem call_reprD (hu : X.A.units + 64 < cLine) (gd : X.A.guards = some []) : CallR X (.builtin "repr") (rRepr X.K) := by
  intro pins s σ H vs us Q I r h
  obtain ⟨a, d, rfl, hd, h1, h3, h4, q⟩ := h
  obtain ⟨u, rfl, ru⟩ := vals1 r
  obtain ⟨as, rd⟩ := Dp.reads I d _ u hd ru
  cases ru
  obtain ⟨b1, b2, b3⟩ := shown_le d h1
  exact repr_of_reads' rd b2 (fun z => by rw [b3] at z; cases z) gd (by omega) (fun _ _ e => e) (fun h' u tk hk => ⟨.str d.shown, H, I.kept (t' := tk) hk, ⟨_, rfl⟩, q⟩) (by rw [sizeLine_eq]; omega)
/-- ints that are small -/
def Low (ns : List Int) : Prop := (∀ i ∈ ns, 0 ≤ i ∧ i < 2 ^ 200) ∧ ns.length ≤ 200
theorem shw_ints : ∀ {ns : List Int}, (∀ i ∈ ns, 0 ≤ i ∧ i < 2 ^ 200) → ShwAll (ns.map PyData.int)
  | [], _ => by simp only [List.map_nil, ShwAll]
  | n :: r, h => by
    simp only [List.map_cons, ShwAll]
    have h1 := h n (List.mem_cons_self ..)
    exact ⟨shw_int h1.1 h1.2, shw_ints fun i hi => h i (List.mem_cons_of_mem _ hi)⟩
theorem wd_ints : ∀ ns : List Int, wdAll (ns.map PyData.int) = 1003 * ns.length
  | [] => rfl
  | n :: r => by
    simp only [List.map_cons, wdAll, wd, wd_ints r, List.length_cons]
    omega
theorem repr_lst {K : PySem.W.Frag} {H : Hp} {c : Addr} {ns : List Int} {Q : VK} (hc : H c = some (.lst (ns.map V.int))) (low : Low ns) (q : Q (.str (PyData.list (ns.map PyData.int)).shown) H) : rRepr K [.ref c] H Q := by
  refine ⟨c, .list (ns.map PyData.int), rfl, .lst (SqL.of hc) (dpAll_ints ns), ?_, ?_, ?_, q⟩
  · simp only [Shw]
    exact shw_ints low.1
  · have := depth_ints ns
    simp only [PyData.depth]
    omega
  · simp only [wd, wd_ints]
    have := low.2
    omega
/-- a list of tuples of ints -/
def tupsD (ls : List (List Int)) : List PyData := ls.map fun l => PyData.tuple (l.map PyData.int)
theorem dpAll_tups {K : PySem.W.Frag} {H : Hp} : ∀ {as : List Addr} {ls : List (List Int)}, Paired (fun a l => H a = some (.tup ((l : List Int).map V.int))) as ls → DpAll K H (as.map V.ref) (tupsD ls)
  | _, _, .nil => .nil
  | _, _, .cons r t => .cons (.tup (SqT.of r) (dpAll_ints _)) (dpAll_tups t)
theorem shw_tups : ∀ {ls : List (List Int)}, (∀ l ∈ ls, Low l) → ShwAll (tupsD ls)
  | [], _ => by simp only [tupsD, List.map_nil, ShwAll]
  | l :: r, h => by
    simp only [tupsD, List.map_cons, ShwAll]
    refine ⟨?_, shw_tups fun i hi => h i (List.mem_cons_of_mem _ hi)⟩
    simp only [Shw]
    exact shw_ints (h l (List.mem_cons_self ..)).1
theorem wd_tups : ∀ {ls : List (List Int)}, (∀ l ∈ ls, Low l) → wdAll (tupsD ls) ≤ 200605 * ls.length
  | [], _ => Nat.le_refl _
  | l :: r, h => by
    have h1 := (h l (List.mem_cons_self ..)).2
    have h2 := wd_tups fun i hi => h i (List.mem_cons_of_mem _ hi)
    simp only [tupsD, List.map_cons, wdAll, wd, wd_ints, List.length_cons] at h2 ⊢
    omega
theorem depth_tups : ∀ ls : List (List Int), PyData.depthAll (tupsD ls) ≤ 2
  | [] => by simp [tupsD, PyData.depthAll]
  | l :: r => by
    have h1 := depth_ints l
    have h2 := depth_tups r
    simp only [tupsD, List.map_cons, PyData.depthAll, PyData.depth] at h2 ⊢
    omega
theorem repr_ltups {K : PySem.W.Frag} {H : Hp} {c : Addr} {as : List Addr} {ls : List (List Int)} {Q : VK} (hc : H c = some (.lst (as.map V.ref))) (hp : Paired (fun a l => H a = some (.tup ((l : List Int).map V.int))) as ls) (low : ∀ l ∈ ls, Low l) (few : ls.length ≤ 4)
    (q : Q (.str (PyData.list (tupsD ls)).shown) H) : rRepr K [.ref c] H Q := by
  refine ⟨c, .list (tupsD ls), rfl, .lst (SqL.of hc) (dpAll_tups hp), ?_, ?_, ?_, q⟩
  · simp only [Shw]
    exact shw_tups low
  · have := depth_tups ls
    simp only [PyData.depth]
    omega
  · have := wd_tups low
    simp only [wd]
    omega
end
end Z

/-! The two ways in which a law asks its own check for each source of draws. -/
namespace Z
open PySem PySem.Spec PyProof.Rows L2
section
variable {K : PySem.W.Frag} {spS spR : Sp} {a : Addr} {n : Int} {H : Hp} {Q : VK} {TA : L2.TA} {σ : L2.St}
theorem iteT {P N : Prop} [Decidable (true = true)] (h : P) : ite (true = true) P N := by
  rw [if_pos rfl]
  exact h
theorem all_rep : ∀ m, (List.replicate m true).all id = true
  | 0 => rfl
  | m + 1 => by
    rw [List.replicate_succ, List.all_cons, all_rep m]
    rfl
theorem reps : ∀ l : List V, l.filterMap (fun _ => some (V.bl true)) = (List.replicate l.length true).map V.bl
  | [] => rfl
  | x :: r => by
    rw [List.filterMap_cons, reps r]
    rfl
/-- all([check(source(script, k)) for k in range(..)]) -/
theorem tail_A {i : Nat} (hta : ∀ R : List V → Hp → Prop, R [.int n] H → TA σ H R) (hn : n ≤ 64 ∧ 0 ≤ n) (hi : i < σ.length) (h0 : σ[0]? = some (some (.ref a))) (hi0 : i ≠ 0)
    (hS : ∀ (k : Int) H' Q' E, Same H H' → 0 ≤ k → k < n → (∀ p H2, H' p = none → Same H' H2 → Spring H2 p → Q' (.ref p) H2) → spS [.ref a, .int k] H' Q' E)
    (hR : ∀ p H' Q' E, Spring H' p → (∀ H2, Kp p H' H2 → Q' (.bl true) H2) → spR [.ref p] H' Q' E) (q : ∀ H', Q (.bl true) H') :
    tLc (iRng1 TA) (gName i) tYes (tCall spR [] E0 (tCons (tCall spS [] E0 (tCons (tVar 0) (tCons (tVar i) tNil))) tNil)) [i] σ H fun x H1 => rAllH [x] H1 Q := by
  refine lc_mapR (H1 := H) (fun _ => some (.bl true)) hta (by omega) (fun k hk H1 s1 => ?_) fun D H1 _ s1 e1 => ?_
  · intro Y N hY hN
    have e2 : (((wipe σ [i]).set i (some (V.int k))))[i]? = some (some (.int k)) := by
      rw [List.getElem?_set_self]
      show i < (σ.set i none).length
      rw [List.length_set]
      exact hi
    have e3 : (((wipe σ [i]).set i (some (V.int k))))[0]? = some (some (.ref a)) := by
      rw [List.getElem?_set_ne hi0]
      show (σ.set i none)[0]? = _
      rw [List.getElem?_set_ne hi0]
      exact h0
    have e4 : wipe ((wipe σ [i]).set i (some (V.int k))) [i] = wipe σ [i] := by
      show ((σ.set i none).set i (some (V.int k))).set i none = σ.set i none
      rw [List.set_set, List.set_set]
    refine ⟨e4, ?_⟩
    simp only [tYes, if_true]
    refine ⟨_, e3, _, e2, hS k H1 _ _ s1 (by omega) hk fun p H2 hp s2 sp => hR p H2 _ _ sp fun H3 kp => hY _ H3 rfl fun c o e => kp.keep c o (ne_of_none e hp) (s2 c o e)⟩
  · rw [reps] at e1
    refine ⟨D, _, rfl, e1, ?_⟩
    rw [all_rep]
    exact q H1
/-- sources = [source(cells, k) for k in range(..)]; all([check(s) for s in sources]) -/
theorem tail_B (hta : ∀ R : List V → Hp → Prop, R [.int n] H → TA [some (V.ref a), none, none, none] H R) (hn : n ≤ 64 ∧ 0 ≤ n)
    (hS : ∀ (k : Int) H' Q' E, Same H H' → 0 ≤ k → k < n → (∀ p H2, H' p = none → Same H' H2 → Spring H2 p → Q' (.ref p) H2) → spS [.ref a, .int k] H' Q' E)
    (hR : ∀ p H' Q' E, Spring H' p → (∀ H2, Kp p H' H2 → Q' (.bl true) H2) → spR [.ref p] H' Q' E) (q : ∀ H', Q (.bl true) H') :
    tSeq (tAsg (tLc (iRng1 TA) (gName 2) tYes (tCall spS [] E0 (tCons (tVar 0) (tCons (tVar 2) tNil))) [2]) (gName 1))
      (tRet (tCB rAllH (tCons (tLc (iList K (tVar 1)) (gName 3) tYes (tCall spR [] E0 (tCons (tVar 3) tNil)) [3]) tNil)))
      { nx := fun x H' => Q V.non H', rt := Q } [some (V.ref a), none, none, none] H := by
  refine z_seq ?_
  refine lc_rng (n := n) hta (by omega) (fun D i H' => ∃ ps : List Addr, ps.length = i ∧ (∀ p ∈ ps, Spring H' p) ∧ H' D = some (.lst (ps.map V.ref)) ∧ Same H H') (fun D hD => ⟨[], rfl, fun _ h => absurd h List.not_mem_nil, upd_same, same_new hD⟩) (fun D hD i H' hi hP => ?_) fun D H' hD hP => ?_
  · obtain ⟨ps, hl, hsp, hDl, hs⟩ := hP
    refine ⟨rfl, ?_⟩
    simp only [tYes, if_true]
    refine ⟨_, rfl, _, rfl, hS i H' _ _ hs (by omega) hi fun p H2 hp s2 sp => ?_⟩
    have hD2 := s2 _ _ hDl
    refine ⟨_, hD2, by rw [List.length_map, sizeLine_eq]; omega, ps ++ [p], by rw [List.length_append, hl]; rfl, fun x hx => ?_, by rw [upd_same, List.map_append]; rfl, fun b o e => ?_⟩
    · have far : ∀ y, Spring H2 y → Spring (upd H2 D (.lst (ps.map V.ref ++ [V.ref p]))) y := by
        rintro y ⟨u, v, w, e⟩
        have ne : y ≠ D := by
          rintro rfl
          rw [hD2] at e
          have e2 := HO.lst.inj (Option.some.inj e)
          cases ps with
          | nil => cases e2
          | cons z r => cases e2
        exact ⟨u, v, w, by rw [upd_ne ne]; exact e⟩
      rcases List.mem_append.mp hx with hx | hx
      · exact far _ ((hsp x hx).same s2)
      · rw [List.mem_singleton.mp hx]
        exact far _ sp
    · rw [upd_ne (ne_of_none e hD)]
      exact s2 _ _ (hs _ _ e)
  · obtain ⟨ps, hl, hsp, hDl, hs⟩ := hP
    show tLc (iList K (tVar 1)) (gName 3) tYes (tCall spR [] E0 (tCons (tVar 3) tNil)) [3] [some (V.ref a), some (V.ref D), none, none] H' fun x H1 => rAllH [x] H1 Q
    refine lc_lst (a := D) (xs := ps.map V.ref) (fun R h => ⟨_, rfl, h⟩) (fun L i H2 => (∀ p ∈ ps, Spring H2 p) ∧ H2 D = some (.lst (ps.map V.ref)) ∧ H2 L = some (.lst (List.replicate i (V.bl true)))) (SqL.of hDl) (fun L hL => ?_) (fun L hL i H2 hP => SqL.of hP.2.1) (fun L hL i x H2 hx hP => ?_) fun L H2 hL hP => ?_
    · have s := same_new (o := .lst []) hL
      exact ⟨fun p hp => (hsp p hp).same s, s _ _ hDl, upd_same⟩
    · obtain ⟨h1, h2, h3⟩ := hP
      obtain ⟨p, hp, rfl⟩ := List.mem_map.mp (List.mem_of_getElem? hx)
      refine ⟨rfl, ?_⟩
      simp only [tYes, if_true]
      refine ⟨_, rfl, hR p H2 _ _ (h1 p hp) fun H3 kp => ?_⟩
      have hi : i < ps.length := by
        have := (List.getElem?_eq_some_iff.mp hx).1
        rw [List.length_map] at this
        exact this
      have nD : D ≠ p := by
        rintro rfl
        obtain ⟨u, v, w, e⟩ := h1 _ hp
        rw [h2] at e
        have e2 := HO.lst.inj (Option.some.inj e)
        cases ps with
        | nil => cases e2
        | cons z r => cases e2
      have nL : ∀ y, Spring H2 y → L ≠ y := by
        rintro y ⟨u, v, w, e⟩ rfl
        rw [h3] at e
        have e2 := HO.lst.inj (Option.some.inj e)
        cases i with
        | zero => cases e2
        | succ m =>
          rw [List.replicate_succ] at e2
          cases (List.cons.inj e2).1
      have e3 := kp.keep L _ (nL p (h1 p hp)) h3
      refine ⟨_, e3, by rw [List.length_replicate, sizeLine_eq]; omega, fun y hy => ?_, ?_, ?_⟩
      · have sy : Spring H3 y := by
          by_cases c : y = p
          · rw [c]
            exact kp.sp
          · obtain ⟨u, v, w, e⟩ := h1 y hy
            exact ⟨u, v, w, kp.keep _ _ c e⟩
        obtain ⟨u, v, w, e⟩ := sy
        exact ⟨u, v, w, by rw [upd_ne (Ne.symm (nL y (h1 y hy)))]; exact e⟩
      · have nDL : D ≠ L := by
          rintro rfl
          rw [hDl] at hL
          cases hL
        rw [upd_ne nDL]
        exact kp.keep _ _ nD h2
      · rw [upd_same, List.replicate_succ']
    · obtain ⟨_, _, h3⟩ := hP
      refine ⟨L, List.replicate (ps.map V.ref).length true, rfl, ?_, ?_⟩
      · rw [h3, List.map_replicate]
      · rw [all_rep]
        exact q H2
end
end Z

namespace Zig
/-! zigzag: numbers -/
theorem emod3 {a n : Int} (_ : 0 < n) (h1 : -n ≤ a) (h2 : a < 2 * n) : a % n = if a < 0 then a + n else if a < n then a else a - n := by
  split
  · rw [← Int.add_emod_right, Int.emod_eq_of_lt (by omega) (by omega)]
  · split
    · rw [Int.emod_eq_of_lt (by omega) (by omega)]
    · rw [← Int.sub_emod_right, Int.emod_eq_of_lt (by omega) (by omega)]

def nights (rings : Bool) (n : Int) : Int := if rings then (n - 1) / 2 else n / 2
def personIn (size e i : Int) : Int := (e + (if i % 2 = 1 then (i + 1) / 2 else -((i + 1) / 2))) % size
def indexIn (size e p : Int) : Int := if 0 < (p - e) % size ∧ (p - e) % size ≤ size / 2 then 2 * ((p - e) % size) - 1 else 2 * ((size - (p - e) % size) % size)
def personAt (rings : Bool) (n e i : Int) : Int := if rings then (if i = 0 then n - 1 else personIn (n - 1) e (i - 1)) else personIn n e i
def indexOf (rings : Bool) (n e p : Int) : Int := if rings then (if p = n - 1 then 0 else 1 + indexIn (n - 1) e p) else indexIn n e p
def eveningOf (rings : Bool) (n p q : Int) : Int :=
  if (if rings then n - 1 else n) = p ∨ (if rings then n - 1 else n) = q then (if q < p then q else p) % nights rings n else ((p + q) % (if rings then n - 1 else n)) / 2

/-- e, i -> person, with the halves told -/
theorem personIn_even {k e i : Int} (he : 0 ≤ e) (hek : e < k) (hi : 0 ≤ i) (hik : i < 2 * k) (h : i % 2 = 0) : personIn (2 * k) e i = if e < i / 2 then e - i / 2 + 2 * k else e - i / 2 := by
  unfold personIn
  rw [if_neg (by omega), emod3 (by omega) (by omega) (by omega)]
  split <;> split <;> (try split) <;> omega
theorem personIn_odd {k e i : Int} (he : 0 ≤ e) (hek : e < k) (hi : 0 ≤ i) (hik : i < 2 * k) (h : i % 2 = 1) : personIn (2 * k) e i = e + (i + 1) / 2 := by
  unfold personIn
  rw [if_pos h, emod3 (by omega) (by omega) (by omega)]
  rw [if_neg (by omega), if_pos (by omega)]
theorem personIn_bound {k e i : Int} (hk : 0 < k) : 0 ≤ personIn (2 * k) e i ∧ personIn (2 * k) e i < 2 * k := by
  unfold personIn
  exact ⟨Int.emod_nonneg _ (by omega), Int.emod_lt_of_pos _ (by omega)⟩
/-- the index, with the remainder told -/
theorem indexIn_eq {k e p : Int} (he : 0 ≤ e) (hek : e < k) (hp : 0 ≤ p) (hpk : p < 2 * k) : indexIn (2 * k) e p = if e < p ∧ p ≤ e + k then 2 * (p - e) - 1 else if p ≤ e then 2 * (e - p) else 2 * (e + 2 * k - p) := by
  unfold indexIn
  have e1 : (p - e) % (2 * k) = if p - e < 0 then p - e + 2 * k else p - e := by
    rw [emod3 (by omega) (by omega) (by omega)]
    split
    · rfl
    · rw [if_pos (by omega)]
  rw [e1]
  have e2 : (2 * k) / 2 = k := by omega
  rw [e2]
  have e3 : ∀ x : Int, 0 ≤ x → x < 2 * k → (2 * k - x) % (2 * k) = if x = 0 then 0 else 2 * k - x := by
    intro x h1 h2
    rw [emod3 (by omega) (by omega) (by omega), if_neg (by omega)]
    split
    · rw [if_neg (by omega)]
    · rw [if_pos (by omega)]
      omega
  by_cases h : p - e < 0
  · rw [if_pos h, if_neg (show ¬ (0 < p - e + 2 * k ∧ p - e + 2 * k ≤ k) by omega), e3 _ (by omega) (by omega), if_neg (show ¬ (p - e + 2 * k = 0) by omega), if_neg (show ¬ (e < p ∧ p ≤ e + k) by omega), if_pos (show p ≤ e by omega)]
    omega
  · rw [if_neg h]
    by_cases h2 : 0 < p - e ∧ p - e ≤ k
    · rw [if_pos h2, if_pos (show e < p ∧ p ≤ e + k by omega)]
    · rw [if_neg h2, e3 _ (by omega) (by omega), if_neg (show ¬ (e < p ∧ p ≤ e + k) by omega)]
      split <;> split <;> omega
theorem indexIn_bound {k e p : Int} (he : 0 ≤ e) (hek : e < k) (hp : 0 ≤ p) (hpk : p < 2 * k) : 0 ≤ indexIn (2 * k) e p ∧ indexIn (2 * k) e p < 2 * k := by
  rw [indexIn_eq he hek hp hpk]
  split
  · omega
  · split <;> omega
theorem index_person {k e i : Int} (he : 0 ≤ e) (hek : e < k) (hi : 0 ≤ i) (hik : i < 2 * k) : indexIn (2 * k) e (personIn (2 * k) e i) = i := by
  have hb := personIn_bound (k := k) (e := e) (i := i) (by omega)
  rw [indexIn_eq he hek hb.1 hb.2]
  rcases (by omega : i % 2 = 0 ∨ i % 2 = 1) with h | h
  · rw [personIn_even he hek hi hik h]
    split <;> split <;> (try split) <;> omega
  · rw [personIn_odd he hek hi hik h]
    split <;> (try split) <;> omega
theorem person_index {k e p : Int} (he : 0 ≤ e) (hek : e < k) (hp : 0 ≤ p) (hpk : p < 2 * k) : personIn (2 * k) e (indexIn (2 * k) e p) = p := by
  have hb := indexIn_bound he hek hp hpk
  have e1 := indexIn_eq he hek hp hpk
  by_cases h1 : e < p ∧ p ≤ e + k
  · rw [if_pos h1] at e1
    rw [personIn_odd he hek hb.1 hb.2 (by omega)]
    omega
  · rw [if_neg h1] at e1
    split at e1
    · rw [personIn_even he hek hb.1 hb.2 (by omega)]
      split <;> omega
    · rw [personIn_even he hek hb.1 hb.2 (by omega)]
      split <;> omega
/-- neighbours in the round sum up to 2 e or 2 e + 1 -/
theorem person_sum {k e i : Int} (he : 0 ≤ e) (hek : e < k) (hi : 0 ≤ i) (hik : i + 1 < 2 * k) : ((personIn (2 * k) e i + personIn (2 * k) e (i + 1)) % (2 * k)) / 2 = e := by
  have m : ∀ x : Int, 0 ≤ x → x < 4 * k → x % (2 * k) = if x < 2 * k then x else x - 2 * k := by
    intro x h1 h2
    rw [emod3 (by omega) (by omega) (by omega), if_neg (by omega)]
  rcases (by omega : i % 2 = 0 ∨ i % 2 = 1) with h | h
  · rw [personIn_even he hek hi (by omega) h, personIn_odd he hek (by omega) hik (by omega)]
    split
    · rw [m _ (by omega) (by omega)]
      split <;> omega
    · rw [m _ (by omega) (by omega)]
      split <;> omega
  · rw [personIn_odd he hek hi (by omega) h, personIn_even he hek (by omega) hik (by omega)]
    split
    · rw [m _ (by omega) (by omega)]
      split <;> omega
    · rw [m _ (by omega) (by omega)]
      split <;> omega
/-- on its evening each is beside the other -/
theorem beside_sum {k p q : Int} (hp : 0 ≤ p) (hpk : p < 2 * k) (hq : 0 ≤ q) (hqk : q < 2 * k) (hpq : p ≠ q) :
    indexIn (2 * k) (((p + q) % (2 * k)) / 2) q = indexIn (2 * k) (((p + q) % (2 * k)) / 2) p + 1 ∨ indexIn (2 * k) (((p + q) % (2 * k)) / 2) q = indexIn (2 * k) (((p + q) % (2 * k)) / 2) p - 1 := by
  have e1 : (p + q) % (2 * k) = if p + q < 2 * k then p + q else p + q - 2 * k := by
    rw [emod3 (by omega) (by omega) (by omega), if_neg (by omega)]
  rw [e1]
  by_cases h : p + q < 2 * k
  · simp only [if_pos h]
    rw [indexIn_eq (by omega) (by omega) hp hpk, indexIn_eq (by omega) (by omega) hq hqk]
    split <;> split <;> (try split) <;> (try split) <;> omega
  · simp only [if_neg h]
    rw [indexIn_eq (by omega) (by omega) hp hpk, indexIn_eq (by omega) (by omega) hq hqk]
    split <;> split <;> (try split) <;> (try split) <;> omega
/-! both kinds -/
/-- the indexes beside one -/
def spots (r : Bool) (n i : Int) : List Int := if r then [(i - 1) % n, (i + 1) % n] else [i - 1, i + 1].filter fun j => decide (0 ≤ j ∧ j < n)
def SizeIs (r : Bool) (n k : Int) : Prop := 0 < k ∧ ((r = true ∧ n = 2 * k + 1) ∨ (r = false ∧ n = 2 * k))
theorem SizeIs.nights {r : Bool} {n k : Int} (h : SizeIs r n k) : nights r n = k := by
  obtain ⟨h0, ⟨rfl, h⟩ | ⟨rfl, h⟩⟩ := h
  · show (n - 1) / 2 = k
    omega
  · show n / 2 = k
    omega
theorem spots_in {r : Bool} {n k i j : Int} (h : SizeIs r n k) (hi : 0 ≤ i) (hin : i < n) (hj : j ∈ spots r n i) : 0 ≤ j ∧ j < n ∧ ((j = i - 1 ∧ 0 < i) ∨ (j = i + 1 ∧ i + 1 < n) ∨ (r = true ∧ i = 0 ∧ j = n - 1) ∨ (r = true ∧ i = n - 1 ∧ j = 0)) := by
  obtain ⟨h0, ⟨rfl, h⟩ | ⟨rfl, h⟩⟩ := h
  · simp only [spots, if_true, List.mem_cons, List.not_mem_nil, or_false] at hj
    have e1 : (i - 1) % n = if i = 0 then n - 1 else i - 1 := by
      rw [emod3 (by omega) (by omega) (by omega)]
      split <;> split <;> (try split) <;> omega
    have e2 : (i + 1) % n = if i = n - 1 then 0 else i + 1 := by
      rw [emod3 (by omega) (by omega) (by omega)]
      split <;> split <;> (try split) <;> omega
    rw [e1, e2] at hj
    rcases hj with rfl | rfl
    · split
      · exact ⟨by omega, by omega, .inr (.inr (.inl ⟨rfl, by omega, rfl⟩))⟩
      · exact ⟨by omega, by omega, .inl ⟨rfl, by omega⟩⟩
    · split
      · exact ⟨by omega, by omega, .inr (.inr (.inr ⟨rfl, by omega, rfl⟩))⟩
      · exact ⟨by omega, by omega, .inr (.inl ⟨rfl, by omega⟩)⟩
  · simp only [spots, Bool.false_eq_true, if_false, List.mem_filter, List.mem_cons, List.not_mem_nil, or_false, decide_eq_true_eq] at hj
    obtain ⟨rfl | rfl, h1, h2⟩ := hj
    · exact ⟨h1, h2, .inl ⟨rfl, by omega⟩⟩
    · exact ⟨h1, h2, .inr (.inl ⟨rfl, h2⟩)⟩
theorem spots_ne {r : Bool} {n k i j : Int} (h : SizeIs r n k) (hi : 0 ≤ i) (hin : i < n) (hj : j ∈ spots r n i) : j ≠ i := by
  obtain ⟨_, _, h1⟩ := spots_in h hi hin hj
  obtain ⟨h0, ⟨rfl, h⟩ | ⟨rfl, h⟩⟩ := h
  · omega
  · omega
theorem at_bound {r : Bool} {n k e i : Int} (h : SizeIs r n k) (he : 0 ≤ e) (hek : e < k) (hi : 0 ≤ i) (hin : i < n) : 0 ≤ personAt r n e i ∧ personAt r n e i < n := by
  obtain ⟨h0, ⟨rfl, rfl⟩ | ⟨rfl, rfl⟩⟩ := h
  · unfold personAt
    rw [if_pos rfl]
    split
    · omega
    · have := personIn_bound (k := k) (e := e) (i := i - 1) h0
      rw [show 2 * k + 1 - 1 = 2 * k by omega]
      omega
  · exact personIn_bound h0
theorem index_at {r : Bool} {n k e i : Int} (h : SizeIs r n k) (he : 0 ≤ e) (hek : e < k) (hi : 0 ≤ i) (hin : i < n) : indexOf r n e (personAt r n e i) = i := by
  obtain ⟨h0, ⟨rfl, rfl⟩ | ⟨rfl, rfl⟩⟩ := h
  · unfold personAt indexOf
    rw [if_pos rfl, if_pos rfl]
    by_cases c : i = 0
    · rw [if_pos c, if_pos rfl, c]
    · rw [if_neg c, show 2 * k + 1 - 1 = 2 * k by omega]
      have hb := personIn_bound (k := k) (e := e) (i := i - 1) h0
      rw [if_neg (by omega), index_person he hek (by omega) (by omega)]
      omega
  · exact index_person he hek hi hin
theorem index_bound {r : Bool} {n k e p : Int} (h : SizeIs r n k) (he : 0 ≤ e) (hek : e < k) (hp : 0 ≤ p) (hpn : p < n) : 0 ≤ indexOf r n e p ∧ indexOf r n e p < n := by
  obtain ⟨h0, ⟨rfl, rfl⟩ | ⟨rfl, rfl⟩⟩ := h
  · unfold indexOf
    rw [if_pos rfl]
    split
    · omega
    · have := indexIn_bound (k := k) (e := e) (p := p) he hek hp (by omega)
      rw [show 2 * k + 1 - 1 = 2 * k by omega]
      omega
  · exact indexIn_bound he hek hp hpn
theorem at_index {r : Bool} {n k e p : Int} (h : SizeIs r n k) (he : 0 ≤ e) (hek : e < k) (hp : 0 ≤ p) (hpn : p < n) : personAt r n e (indexOf r n e p) = p := by
  obtain ⟨h0, ⟨rfl, rfl⟩ | ⟨rfl, rfl⟩⟩ := h
  · unfold personAt indexOf
    rw [if_pos rfl, if_pos rfl]
    by_cases c : p = 2 * k + 1 - 1
    · rw [if_pos c, if_pos rfl, c]
    · rw [if_neg c]
      have hb := indexIn_bound (k := k) (e := e) (p := p) he hek hp (by omega)
      rw [show 2 * k + 1 - 1 = 2 * k by omega, if_neg (by omega), show 1 + indexIn (2 * k) e p - 1 = indexIn (2 * k) e p by omega, person_index he hek hp (by omega)]
  · exact person_index he hek hp hpn
theorem evening_comm (r : Bool) (n p q : Int) : eveningOf r n p q = eveningOf r n q p := by
  unfold eveningOf
  rw [Int.add_comm q p]
  by_cases c : (if r = true then n - 1 else n) = p ∨ (if r = true then n - 1 else n) = q
  · rw [if_pos c, if_pos (Or.symm c)]
    by_cases d : q < p
    · rw [if_pos d, if_neg (by omega)]
    · rw [if_neg d]
      by_cases d2 : p < q
      · rw [if_pos d2]
      · rw [if_neg d2, show p = q by omega]
  · rw [if_neg c, if_neg (fun z => c (Or.symm z))]
/-- two beside one another in the round have this evening -/
theorem evening_round {r : Bool} {n k p q : Int} (h : SizeIs r n k) (hp : 0 ≤ p) (hpk : p < 2 * k) (hq : 0 ≤ q) (hqk : q < 2 * k) : eveningOf r n p q = ((p + q) % (2 * k)) / 2 := by
  unfold eveningOf
  obtain ⟨h0, ⟨rfl, rfl⟩ | ⟨rfl, rfl⟩⟩ := h
  · simp only [if_true]
    rw [if_neg (by omega), show 2 * k + 1 - 1 = 2 * k by omega]
  · simp only [Bool.false_eq_true, if_false]
    rw [if_neg (by omega)]
theorem evening_door {n k p : Int} (h : SizeIs true n k) (hp : 0 ≤ p) (hpk : p < 2 * k) : eveningOf true n p (n - 1) = p % k := by
  have hn := h.nights
  unfold eveningOf
  simp only [if_true]
  rw [if_pos (.inr trivial), hn]
  obtain ⟨h0, ⟨_, h⟩ | ⟨h, _⟩⟩ := h
  · rw [if_neg (by omega)]
  · cases h
/-- on the evening, one and the one at the next index -/
theorem evening_next {r : Bool} {n k e i : Int} (h : SizeIs r n k) (he : 0 ≤ e) (hek : e < k) (hi : 0 ≤ i) (hin : i + 1 < n) : eveningOf r n (personAt r n e i) (personAt r n e (i + 1)) = e := by
  cases r with
  | true =>
    have h' := h
    obtain ⟨h0, ⟨_, rfl⟩ | ⟨h1, _⟩⟩ := h
    · by_cases c : i = 0
      · subst c
        have e1 : personAt true (2 * k + 1) e 0 = 2 * k + 1 - 1 := by
          unfold personAt
          rw [if_pos rfl, if_pos rfl]
        have e2 : personAt true (2 * k + 1) e (0 + 1) = e := by
          unfold personAt
          rw [if_pos rfl, if_neg (by omega), show 2 * k + 1 - 1 = 2 * k by omega, show (0 : Int) + 1 - 1 = 0 by omega, personIn_even he hek (by omega) (by omega) (by omega), if_neg (by omega)]
          omega
        rw [e1, e2, evening_comm, evening_door h' he (by omega), Int.emod_eq_of_lt he hek]
      · have e1 : ∀ j, 0 < j → personAt true (2 * k + 1) e j = personIn (2 * k) e (j - 1) := by
          intro j hj
          unfold personAt
          rw [if_pos rfl, if_neg (by omega), show 2 * k + 1 - 1 = 2 * k by omega]
        rw [e1 i (by omega), e1 (i + 1) (by omega)]
        have b1 := personIn_bound (k := k) (e := e) (i := i - 1) h0
        have b2 := personIn_bound (k := k) (e := e) (i := i + 1 - 1) h0
        rw [evening_round h' b1.1 b1.2 b2.1 b2.2]
        have := person_sum (k := k) (e := e) (i := i - 1) he hek (by omega) (by omega)
        rw [show i - 1 + 1 = i + 1 - 1 by omega] at this
        exact this
    · cases h1
  | false =>
    have h' := h
    obtain ⟨h0, ⟨h1, _⟩ | ⟨_, rfl⟩⟩ := h
    · cases h1
    · have b1 := personIn_bound (k := k) (e := e) (i := i) h0
      have b2 := personIn_bound (k := k) (e := e) (i := i + 1) h0
      show eveningOf false (2 * k) (personIn (2 * k) e i) (personIn (2 * k) e (i + 1)) = e
      rw [evening_round h' b1.1 b1.2 b2.1 b2.2]
      exact person_sum he hek hi hin
/-- the last one and the first one of a ring -/
theorem evening_close {n k e : Int} (h : SizeIs true n k) (he : 0 ≤ e) (hek : e < k) : eveningOf true n (personAt true n e (n - 1)) (personAt true n e 0) = e := by
  have h' := h
  obtain ⟨h0, ⟨_, rfl⟩ | ⟨h1, _⟩⟩ := h
  · have e1 : personAt true (2 * k + 1) e 0 = 2 * k + 1 - 1 := by
      unfold personAt
      rw [if_pos rfl, if_pos rfl]
    have e2 : personAt true (2 * k + 1) e (2 * k + 1 - 1) = e + k := by
      unfold personAt
      rw [if_pos rfl, if_neg (by omega), show 2 * k + 1 - 1 = 2 * k by omega, personIn_odd he hek (by omega) (by omega) (by omega)]
      omega
    rw [e1, e2, evening_door h' (by omega) (by omega)]
    rw [Int.add_emod_right, Int.emod_eq_of_lt he hek]
  · cases h1
theorem evening_spot {r : Bool} {n k e i j : Int} (h : SizeIs r n k) (he : 0 ≤ e) (hek : e < k) (hi : 0 ≤ i) (hin : i < n) (hj : j ∈ spots r n i) : eveningOf r n (personAt r n e i) (personAt r n e j) = e := by
  obtain ⟨_, _, h1 | h1 | h1 | h1⟩ := spots_in h hi hin hj
  · obtain ⟨rfl, h1⟩ := h1
    rw [evening_comm]
    have := evening_next h he hek (i := i - 1) (by omega) (by omega)
    rw [show i - 1 + 1 = i by omega] at this
    exact this
  · obtain ⟨rfl, h1⟩ := h1
    exact evening_next h he hek hi h1
  · obtain ⟨rfl, rfl, rfl⟩ := h1
    rw [evening_comm]
    exact evening_close h he hek
  · obtain ⟨rfl, rfl, rfl⟩ := h1
    exact evening_close h he hek
theorem spot_of {r : Bool} {n k i j : Int} (h : SizeIs r n k) (hi : 0 ≤ i) (hin : i < n) (hj : 0 ≤ j) (hjn : j < n) (c : j = i + 1 ∨ j = i - 1 ∨ (r = true ∧ i = 0 ∧ j = n - 1) ∨ (r = true ∧ i = n - 1 ∧ j = 0)) : j ∈ spots r n i := by
  obtain ⟨h0, ⟨rfl, h⟩ | ⟨rfl, h⟩⟩ := h
  · simp only [spots, if_true, List.mem_cons, List.not_mem_nil, or_false]
    have e1 : (i - 1) % n = if i = 0 then n - 1 else i - 1 := by
      rw [emod3 (by omega) (by omega) (by omega)]
      split <;> split <;> (try split) <;> omega
    have e2 : (i + 1) % n = if i = n - 1 then 0 else i + 1 := by
      rw [emod3 (by omega) (by omega) (by omega)]
      split <;> split <;> (try split) <;> omega
    rw [e1, e2]
    rcases c with c | c | c | c
    · right
      rw [if_neg (by omega)]
      exact c
    · left
      rw [if_neg (by omega)]
      exact c
    · left
      rw [if_pos c.2.1]
      exact c.2.2
    · right
      rw [if_pos c.2.1]
      exact c.2.2
  · simp only [spots, Bool.false_eq_true, if_false, List.mem_filter, List.mem_cons, List.not_mem_nil, or_false, decide_eq_true_eq]
    rcases c with c | c | c | c
    · exact ⟨.inr c, hj, hjn⟩
    · exact ⟨.inl c, hj, hjn⟩
    · cases c.1
    · cases c.1
/-- unlike people are beside one another on their evening -/
theorem evening_beside {r : Bool} {n k p q : Int} (h : SizeIs r n k) (hp : 0 ≤ p) (hpn : p < n) (hq : 0 ≤ q) (hqn : q < n) (hpq : p ≠ q) :
    0 ≤ eveningOf r n p q ∧ eveningOf r n p q < k ∧ indexOf r n (eveningOf r n p q) q ∈ spots r n (indexOf r n (eveningOf r n p q) p) := by
  have h' := h
  have door : ∀ x, r = true → 0 ≤ x → x < 2 * k → n = 2 * k + 1 → 0 ≤ eveningOf r n x (n - 1) ∧ eveningOf r n x (n - 1) < k ∧
      indexOf r n (eveningOf r n x (n - 1)) (n - 1) = 0 ∧ (indexOf r n (eveningOf r n x (n - 1)) x = 1 ∨ indexOf r n (eveningOf r n x (n - 1)) x = n - 1) := by
    rintro x rfl h1 h2 rfl
    rw [evening_door h' h1 h2]
    have hk : 0 < k := h'.1
    have m1 := Int.emod_nonneg x (show k ≠ 0 by omega)
    have m2 := Int.emod_lt_of_pos x hk
    refine ⟨m1, m2, ?_, ?_⟩
    · unfold indexOf
      rw [if_pos rfl, if_pos rfl]
    · unfold indexOf
      rw [if_pos rfl, if_neg (by omega), show 2 * k + 1 - 1 = 2 * k by omega, indexIn_eq m1 m2 h1 h2]
      have m3 : x % k = if x < k then x else x - k := by
        rw [emod3 hk (by omega) (by omega), if_neg (by omega)]
      rw [m3]
      by_cases c : x < k
      · rw [if_pos c]
        left
        rw [if_neg (by omega), if_pos (by omega)]
        omega
      · rw [if_neg c]
        right
        rw [if_pos (by omega)]
        omega
  by_cases cp : p < 2 * k
  · by_cases cq : q < 2 * k
    · rw [evening_round h hp cp hq cq]
      have hk : 0 < k := h.1
      have e1 : (p + q) % (2 * k) = if p + q < 2 * k then p + q else p + q - 2 * k := by
        rw [emod3 (by omega) (by omega) (by omega), if_neg (by omega)]
      have he0 : 0 ≤ ((p + q) % (2 * k)) / 2 ∧ ((p + q) % (2 * k)) / 2 < k := by
        rw [e1]
        split <;> omega
      refine ⟨he0.1, he0.2, ?_⟩
      have hi := index_bound h he0.1 he0.2 hp hpn
      have hj := index_bound h he0.1 he0.2 hq hqn
      refine spot_of h hi.1 hi.2 hj.1 hj.2 ?_
      have hs := beside_sum hp cp hq cq hpq
      obtain ⟨_, ⟨rfl, rfl⟩ | ⟨rfl, rfl⟩⟩ := h
      · unfold indexOf
        rw [if_pos rfl, if_pos rfl, if_neg (by omega), if_neg (by omega), show 2 * k + 1 - 1 = 2 * k by omega]
        omega
      · show indexIn (2 * k) _ q = indexIn (2 * k) _ p + 1 ∨ _
        rcases hs with hs | hs
        · exact .inl hs
        · exact .inr (.inl hs)
    · obtain ⟨h0, ⟨hr, hn⟩ | ⟨_, hn⟩⟩ := h
      · have eq : q = n - 1 := by omega
        subst eq
        obtain ⟨d1, d2, d3, d4⟩ := door p hr hp cp hn
        refine ⟨d1, d2, ?_⟩
        rw [d3]
        rcases d4 with d4 | d4
        · rw [d4]
          exact spot_of h' (by omega) (by omega) (by omega) (by omega) (.inr (.inl rfl))
        · rw [d4]
          exact spot_of h' (by omega) (by omega) (by omega) (by omega) (.inr (.inr (.inr ⟨hr, rfl, rfl⟩)))
      · omega
  · obtain ⟨h0, ⟨hr, hn⟩ | ⟨_, hn⟩⟩ := h
    · have eq : p = n - 1 := by omega
      subst eq
      rw [evening_comm]
      obtain ⟨d1, d2, d3, d4⟩ := door q hr hq (by omega) hn
      refine ⟨d1, d2, ?_⟩
      rw [d3]
      rcases d4 with d4 | d4
      · rw [d4]
        exact spot_of h' (by omega) (by omega) (by omega) (by omega) (.inl rfl)
      · rw [d4]
        exact spot_of h' (by omega) (by omega) (by omega) (by omega) (.inr (.inr (.inl ⟨hr, rfl, rfl⟩)))
    · omega
end Zig

namespace K67
open PySem PySem.Spec PyProof.Rows L2 Z
open Zig
def top (i : Nat) : Stmt := PySem.Challenge.pw_extendrounds_k67_whole_great_zigzags.main.body.getD i (.Pass ⟨0, 0, 0, 0⟩)
abbrev s_is_integer : Stmt := top 8
abbrev N_is_integer : List Str := ["value"]
theorem sc_is_integer : FnScope N_is_integer ["value"] (defScope s_is_integer) := ⟨rfl, rfl, rfl, by decide +kernel, rfl, by decide +kernel, by decide +kernel⟩
abbrev s_is_between : Stmt := top 9
abbrev N_is_between : List Str := ["value", "least", "most"]
theorem sc_is_between : FnScope N_is_between ["value", "least", "most"] (defScope s_is_between) := ⟨rfl, rfl, rfl, by decide +kernel, rfl, by decide +kernel, by decide +kernel⟩
abbrev s_is_size : Stmt := top 10
abbrev N_is_size : List Str := ["kind", "value", "most"]
theorem sc_is_size : FnScope N_is_size ["kind", "value", "most"] (defScope s_is_size) := ⟨rfl, rfl, rfl, by decide +kernel, rfl, by decide +kernel, by decide +kernel⟩
abbrev s_evenings_for : Stmt := top 11
abbrev N_evenings_for : List Str := ["kind", "many"]
theorem sc_evenings_for : FnScope N_evenings_for ["kind", "many"] (defScope s_evenings_for) := ⟨rfl, rfl, rfl, by decide +kernel, rfl, by decide +kernel, by decide +kernel⟩
abbrev s_check_kind : Stmt := top 13
abbrev N_check_kind : List Str := ["kind"]
theorem sc_check_kind : FnScope N_check_kind ["kind"] (defScope s_check_kind) := ⟨rfl, rfl, rfl, by decide +kernel, rfl, by decide +kernel, by decide +kernel⟩
abbrev s_check_size : Stmt := top 15
abbrev N_check_size : List Str := ["kind", "n"]
theorem sc_check_size : FnScope N_check_size ["kind", "n"] (defScope s_check_size) := ⟨rfl, rfl, rfl, by decide +kernel, rfl, by decide +kernel, by decide +kernel⟩
abbrev s_round_size : Stmt := top 16
abbrev N_round_size : List Str := ["kind", "n"]
theorem sc_round_size : FnScope N_round_size ["kind", "n"] (defScope s_round_size) := ⟨rfl, rfl, rfl, by decide +kernel, rfl, by decide +kernel, by decide +kernel⟩
abbrev s_person_in : Stmt := top 17
abbrev N_person_in : List Str := ["size", "evening", "index", "half"]
theorem sc_person_in : FnScope N_person_in ["size", "evening", "index"] (defScope s_person_in) := ⟨rfl, rfl, rfl, by decide +kernel, rfl, by decide +kernel, by decide +kernel⟩
abbrev s_index_in : Stmt := top 18
abbrev N_index_in : List Str := ["size", "evening", "person", "far"]
theorem sc_index_in : FnScope N_index_in ["size", "evening", "person"] (defScope s_index_in) := ⟨rfl, rfl, rfl, by decide +kernel, rfl, by decide +kernel, by decide +kernel⟩
abbrev s_person_at : Stmt := top 19
abbrev N_person_at : List Str := ["kind", "n", "evening", "index"]
theorem sc_person_at : FnScope N_person_at ["kind", "n", "evening", "index"] (defScope s_person_at) := ⟨rfl, rfl, rfl, by decide +kernel, rfl, by decide +kernel, by decide +kernel⟩
abbrev s_index_of : Stmt := top 20
abbrev N_index_of : List Str := ["kind", "n", "evening", "person"]
theorem sc_index_of : FnScope N_index_of ["kind", "n", "evening", "person"] (defScope s_index_of) := ⟨rfl, rfl, rfl, by decide +kernel, rfl, by decide +kernel, by decide +kernel⟩
abbrev s_check_evening_of : Stmt := top 21
abbrev N_check_evening_of : List Str := ["kind", "n", "evening"]
theorem sc_check_evening_of : FnScope N_check_evening_of ["kind", "n", "evening"] (defScope s_check_evening_of) := ⟨rfl, rfl, rfl, by decide +kernel, rfl, by decide +kernel, by decide +kernel⟩
abbrev s_check_person : Stmt := top 22
abbrev N_check_person : List Str := ["n", "person"]
theorem sc_check_person : FnScope N_check_person ["n", "person"] (defScope s_check_person) := ⟨rfl, rfl, rfl, by decide +kernel, rfl, by decide +kernel, by decide +kernel⟩
abbrev s_zigzag_beside : Stmt := top 23
abbrev N_zigzag_beside : List Str := ["kind", "n", "evening", "person", "index", "some", "at"]
theorem sc_zigzag_beside : FnScope N_zigzag_beside ["kind", "n", "evening", "person"] (defScope s_zigzag_beside) := ⟨rfl, rfl, rfl, by decide +kernel, rfl, by decide +kernel, by decide +kernel⟩
abbrev s_zigzag_evening : Stmt := top 24
abbrev N_zigzag_evening : List Str := ["kind", "n", "person", "mate", "size"]
theorem sc_zigzag_evening : FnScope N_zigzag_evening ["kind", "n", "person", "mate"] (defScope s_zigzag_evening) := ⟨rfl, rfl, rfl, by decide +kernel, rfl, by decide +kernel, by decide +kernel⟩
abbrev s_zigzag_place : Stmt := top 25
abbrev N_zigzag_place : List Str := ["kind", "n", "evening", "person"]
theorem sc_zigzag_place : FnScope N_zigzag_place ["kind", "n", "evening", "person"] (defScope s_zigzag_place) := ⟨rfl, rfl, rfl, by decide +kernel, rfl, by decide +kernel, by decide +kernel⟩
abbrev s_zigzag_person : Stmt := top 26
abbrev N_zigzag_person : List Str := ["kind", "n", "evening", "index"]
theorem sc_zigzag_person : FnScope N_zigzag_person ["kind", "n", "evening", "index"] (defScope s_zigzag_person) := ⟨rfl, rfl, rfl, by decide +kernel, rfl, by decide +kernel, by decide +kernel⟩
abbrev s__law_spring : Stmt := top 28
abbrev N__law_spring : List Str := ["_law_cells", "_law_k", "_law_cell", "_law_mixed", "_law_number_here"]
theorem sc__law_spring : FnScope N__law_spring ["_law_cells", "_law_k"] (defScope s__law_spring) := ⟨rfl, rfl, rfl, by decide +kernel, rfl, by decide +kernel, by decide +kernel⟩
abbrev s__law_draw : Stmt := top 29
abbrev N__law_draw : List Str := ["_law_spring_here", "_law_size", "_law_digit", "_law_far", "_law_mixed"]
theorem sc__law_draw : FnScope N__law_draw ["_law_spring_here", "_law_size"] (defScope s__law_draw) := ⟨rfl, rfl, rfl, by decide +kernel, rfl, by decide +kernel, by decide +kernel⟩
abbrev s__law_of : Stmt := top 30
abbrev N__law_of : List Str := ["_law_spring_here", "_law_menu"]
theorem sc__law_of : FnScope N__law_of ["_law_spring_here", "_law_menu"] (defScope s__law_of) := ⟨rfl, rfl, rfl, by decide +kernel, rfl, by decide +kernel, by decide +kernel⟩
abbrev s__law_nights : Stmt := top 31
abbrev N__law_nights : List Str := ["_law_sort_now", "_law_size"]
theorem sc__law_nights : FnScope N__law_nights ["_law_sort_now", "_law_size"] (defScope s__law_nights) := ⟨rfl, rfl, rfl, by decide +kernel, rfl, by decide +kernel, by decide +kernel⟩
abbrev s__law_number : Stmt := top 32
abbrev N__law_number : List Str := ["_law_spring_here", "_law_top", "_law_how", "_law_part", "_law_turn_k"]
theorem sc__law_number : FnScope N__law_number ["_law_spring_here", "_law_top"] (defScope s__law_number) := ⟨rfl, rfl, rfl, by decide +kernel, rfl, by decide +kernel, by decide +kernel⟩
abbrev s__law_shape : Stmt := top 33
abbrev N__law_shape : List Str := ["_law_spring_here", "_law_sort_now", "_law_tops", "_law_top", "_law_size"]
theorem sc__law_shape : FnScope N__law_shape ["_law_spring_here"] (defScope s__law_shape) := ⟨rfl, rfl, rfl, by decide +kernel, rfl, by decide +kernel, by decide +kernel⟩
abbrev s__law_ahead : Stmt := top 34
abbrev N__law_ahead : List Str := ["_law_round_now", "_law_first", "_law_i", "_law_far"]
theorem sc__law_ahead : FnScope N__law_ahead ["_law_round_now", "_law_first", "_law_i"] (defScope s__law_ahead) := ⟨rfl, rfl, rfl, by decide +kernel, rfl, by decide +kernel, by decide +kernel⟩
abbrev s__law_right : Stmt := top 35
abbrev N__law_right : List Str := ["_law_spring_here", "_law_lap", "_law_sort_now", "_law_size", "_law_is_round", "_law_nights_now", "_law_round_now", "_law_e", "_law_turn_k", "_law_i", "_law_due", "_law_came", "_law_spots", "_law_mates", "_law_each", "_law_step", "_law_spot"]
theorem sc__law_right : FnScope N__law_right ["_law_spring_here"] (defScope s__law_right) := ⟨rfl, rfl, rfl, by decide +kernel, rfl, by decide +kernel, by decide +kernel⟩
abbrev s_law : Stmt := top 36
abbrev N_law : List Str := ["_law_cells", "_law_springs", "_law_k", "_law_spring_here"]
theorem sc_law : FnScope N_law ["_law_cells"] (defScope s_law) := ⟨rfl, rfl, rfl, by decide +kernel, rfl, by decide +kernel, by decide +kernel⟩
/-- what the top has made -/
structure Env (K : PySem.W.Frag) (mg : Str → Option Value) : Prop where
  d_is_integer : Here K mg "is_integer" s_is_integer
  d_is_between : Here K mg "is_between" s_is_between
  d_is_size : Here K mg "is_size" s_is_size
  d_evenings_for : Here K mg "evenings_for" s_evenings_for
  d_check_kind : Here K mg "check_kind" s_check_kind
  d_check_size : Here K mg "check_size" s_check_size
  d_round_size : Here K mg "round_size" s_round_size
  d_person_in : Here K mg "person_in" s_person_in
  d_index_in : Here K mg "index_in" s_index_in
  d_person_at : Here K mg "person_at" s_person_at
  d_index_of : Here K mg "index_of" s_index_of
  d_check_evening_of : Here K mg "check_evening_of" s_check_evening_of
  d_check_person : Here K mg "check_person" s_check_person
  d_zigzag_beside : Here K mg "zigzag_beside" s_zigzag_beside
  d_zigzag_evening : Here K mg "zigzag_evening" s_zigzag_evening
  d_zigzag_place : Here K mg "zigzag_place" s_zigzag_place
  d_zigzag_person : Here K mg "zigzag_person" s_zigzag_person
  d__law_spring : Here K mg "_law_spring" s__law_spring
  d__law_draw : Here K mg "_law_draw" s__law_draw
  d__law_of : Here K mg "_law_of" s__law_of
  d__law_nights : Here K mg "_law_nights" s__law_nights
  d__law_number : Here K mg "_law_number" s__law_number
  d__law_shape : Here K mg "_law_shape" s__law_shape
  d__law_ahead : Here K mg "_law_ahead" s__law_ahead
  d__law_right : Here K mg "_law_right" s__law_right
  d_law : Here K mg "law" s_law
  b_abs : mg "abs" = none
  b_all : mg "all" = none
  b_bool : mg "bool" = none
  b_divmod : mg "divmod" = none
  b_int : mg "int" = none
  b_isinstance : mg "isinstance" = none
  b_len : mg "len" = none
  b_max : mg "max" = none
  b_min : mg "min" = none
  b_range : mg "range" = none
  b_repr : mg "repr" = none
  b_sorted : mg "sorted" = none
  b_str : mg "str" = none
  b_super : mg "super" = none
  b_tuple : mg "tuple" = none
  c_MOST_ZIGZAG : ∃ t, mg "MOST_ZIGZAG" = some (.int (1000000000000000000000000000000) t)
  c_RINGS : ∃ t, mg "RINGS" = some (.str "rings" t)
  c_ROWS : ∃ t, mg "ROWS" = some (.str "rows" t)
variable {P : Program} {w : World} {K : PySem.W.Frag} {mg : Str → Option Value} {base : Heap}
def kindS (r : Bool) : Str := if r then "rings" else "rows"
theorem kind_ne : ¬ (("rows" : Str) = "rings") := by decide +kernel
theorem kind_eq (r : Bool) : (kindS r = "rings") = (r = true) := by
  cases r
  · simp only [kindS, Bool.false_eq_true, if_false, eq_iff_iff, iff_false]
    exact kind_ne
  · simp only [kindS, if_true]
theorem kind_inj (r s : Bool) : (kindS r = kindS s) = (r = s) := by
  have h1 : ¬ (("rings" : Str) = "rows") := fun e => kind_ne e.symm
  cases r <;> cases s <;> simp [kindS, kind_ne, h1]
theorem rings_eq (r : Bool) : (("rings" : Str) = kindS r) = (r = true) := by
  rw [← kind_eq r]
  exact propext ⟨Eq.symm, Eq.symm⟩
theorem rows_eq (r : Bool) : (("rows" : Str) = kindS r) = (r = false) := by
  have h := kind_inj false r
  rw [show kindS false = "rows" from rfl] at h
  rw [h]
  exact propext ⟨Eq.symm, Eq.symm⟩
def sp_is_integer : Sp := fun vs H Q _ => ∃ i : Int, vs = [.int i] ∧ Q (.bl true) H
theorem ok_is_integer (T : Env K mg) : Hd P w K mg base CX0 1 "is_integer" s_is_integer ["value"] sp_is_integer := by
  obtain ⟨f, fd, F, hm⟩ := T.d_is_integer
  refine ⟨⟨f, fd, F, hm, ?_⟩, fun _ _ _ _ _ _ _ us hl => match us, hl with | [_], _ => rfl⟩
  refine F.ok sc_is_integer (fun vs H Q E h => ?_) (fun cdv A outer s H vs Q E hr h => ?_)
  · first | (obtain ⟨rfl, _⟩ := h; rfl) | (obtain ⟨_, rfl, _⟩ := h; rfl) | (obtain ⟨_, _, rfl, _⟩ := h; rfl) | (obtain ⟨_, _, _, rfl, _⟩ := h; rfl) | (obtain ⟨_, _, _, _, rfl, _⟩ := h; rfl) | (obtain ⟨_, _, _, _, _, rfl, _⟩ := h; rfl) | (obtain ⟨_, _, _, _, _, _, rfl, _⟩ := h; rfl) | (obtain ⟨_, _, _, _, _, _, _, rfl, _⟩ := h; rfl) | (obtain ⟨_, _, _, _, _, _, _, _, rfl, _⟩ := h; rfl)
  · obtain ⟨i, rfl, q⟩ := h
    have hu := hu_of hr
    refine ⟨_, pss_one (ps_ret (pe_and (pe_callB call_isN rfl T.b_isinstance (by decide +kernel) (pa_cons (pv 0) (pa_cons (pe_bltn (v := .ty "int") (by rfl) T.b_int (by decide +kernel) rfl) pa_nil))) (pe_one (pe_not (pe_callB call_isN rfl T.b_isinstance (by decide +kernel) (pa_cons (pv 0) (pa_cons (pe_bltn (v := .ty "bool") (by rfl) T.b_bool (by decide +kernel) rfl) pa_nil))))))), ?_⟩
    simp only [L2.start, List.map_cons, List.map_nil, List.length_cons, List.length_nil, Nat.zero_add, Nat.reduceAdd, Nat.reduceSub, List.replicate_succ, List.replicate_zero, List.cons_append, List.nil_append, List.append_nil, L2.tSeq, L2.tNext, L2.tAsg, L2.gName, L2.tRet, L2.tRetN, L2.tIfS, L2.tVar, L2.tC, L2.tOp, L2.tUn, L2.rI, L2.rI0, L2.rU, L2.rEq, L2.rNe, L2.tTest, L2.tB, L2.tIf, Z.tIfCI, Z.tIfCS, L2.tChain, L2.tCons, L2.tNil, L2.tCall, L2.tDrop, L2.tAndV, L2.tOrV, L2.tNotV, L2.tAnd, L2.tOr, L2.tNot, L2.tCB, Z.sc_ii, Z.sc_ss, Z.sc_bb, Z.sc_is, Z.sc_si, Z.sc_ni, Z.sc_in, Z.sc_ns, Z.sc_sn, Z.sc_nn, L2.CDiv, L2.CPow, L2.CMul, List.getElem?_cons_zero, List.getElem?_cons_succ, Z.set_z, Z.set_s, Option.some.injEq, L2.V.int.injEq, L2.V.bl.injEq, L2.V.str.injEq, L2.V.ref.injEq, L2.V.ty.injEq, List.cons.injEq, exists_eq_left', exists_and_left, exists_eq_left, exists_eq_right, exists_eq_right', exists_eq', exists_eq, true_and, and_true, and_assoc, decide_eq_true_eq, Int.reduceLT, and_self, Z.rIxH, Z.rIxU, Z.at30, Z.at31, Z.at32, Z.ix3_0, Z.ix3_1, Z.ix3_2, L2.rSetL, L2.gSub, Z.gTupH, L2.gCons, L2.gNil, L2.HO.lst.injEq, L2.HO.tup.injEq, L2.upd_same, L2.upd_upd, L2.tSl, L2.tNoPart, L2.tPart, L2.rSlL, L2.rCat, List.length_append, or_false, false_or, or_true, true_or, reduceCtorEq, false_and, and_false, exists_false, Int.reduceNeg, Int.reducePow, Int.reduceToNat, Int.reduceAbs, Int.reduceLE, Int.reduceMul, Int.reduceAdd, Int.reduceSub, Nat.reducePow, Nat.reduceLT, Nat.reduceLeDiff, Int.natAbs_natCast, if_true, if_false, Z.rIsN, Z.tyN, Z.kit_ii, Z.kit_bi, Z.kit_si, Z.kit_ni, Z.kit_ib, Z.kit_bb, Z.kit_sb, Z.kit_nb, Z.kit_is, Z.kit_bs, Z.kit_ss, Z.kit_ns, Bool.not_true, Bool.not_false, L2.tTup, L2.tLst, L2.wipe, L2.tYes, Z.Turn1, L2.tNever, sizeLine_eq, Z.rInU, Z.rInH, L2.flatV, List.any_cons, List.any_nil, List.all_cons, List.all_nil, Bool.and_true, Bool.true_and, Bool.or_false, Bool.false_or, Z.tBML, L2.rAppend, Z.map_int_inj, Z.map_bl_inj, Z.rTupL, Z.rLstL, Z.rLstT, Z.rSortI, Z.rAnyH, Z.rAllH, Z.rSumH, Z.rLenL, Z.rLenU, List.length_map, L2.tPar, Z.tCallK0, List.getD_cons_zero, List.getD_cons_succ]
    exact q
def sp_is_between : Sp := fun vs H Q _ => ∃ v l m : Int, vs = [.int v, .int l, .int m] ∧ Q (.bl (decide (l ≤ v ∧ v ≤ m))) H
theorem ok_is_between (T : Env K mg) : Hd P w K mg base CX0 2 "is_between" s_is_between ["value", "least", "most"] sp_is_between := by
  have H_is_integer := ok_is_integer (P := P) (w := w) (base := base) T
  obtain ⟨f, fd, F, hm⟩ := T.d_is_between
  refine ⟨⟨f, fd, F, hm, ?_⟩, fun _ _ _ _ _ _ _ us hl => match us, hl with | [_, _, _], _ => rfl⟩
  refine F.ok sc_is_between (fun vs H Q E h => ?_) (fun cdv A outer s H vs Q E hr h => ?_)
  · first | (obtain ⟨rfl, _⟩ := h; rfl) | (obtain ⟨_, rfl, _⟩ := h; rfl) | (obtain ⟨_, _, rfl, _⟩ := h; rfl) | (obtain ⟨_, _, _, rfl, _⟩ := h; rfl) | (obtain ⟨_, _, _, _, rfl, _⟩ := h; rfl) | (obtain ⟨_, _, _, _, _, rfl, _⟩ := h; rfl) | (obtain ⟨_, _, _, _, _, _, rfl, _⟩ := h; rfl) | (obtain ⟨_, _, _, _, _, _, _, rfl, _⟩ := h; rfl) | (obtain ⟨_, _, _, _, _, _, _, _, rfl, _⟩ := h; rfl)
  · obtain ⟨v, l, m, rfl, q⟩ := h
    have hu := hu_of hr
    refine ⟨_, pss_one (ps_ret (pe_and (pe_hd H_is_integer (hr.mono (by decide)) rfl pass0 (pa_cons (pv 0) pa_nil)) (pe_one (pe_chain op_le op_le (pv 1) (pv 0) (pv 2))))), ?_⟩
    simp only [L2.start, List.map_cons, List.map_nil, List.length_cons, List.length_nil, Nat.zero_add, Nat.reduceAdd, Nat.reduceSub, List.replicate_succ, List.replicate_zero, List.cons_append, List.nil_append, List.append_nil, L2.tSeq, L2.tNext, L2.tAsg, L2.gName, L2.tRet, L2.tRetN, L2.tIfS, L2.tVar, L2.tC, L2.tOp, L2.tUn, L2.rI, L2.rI0, L2.rU, L2.rEq, L2.rNe, L2.tTest, L2.tB, L2.tIf, Z.tIfCI, Z.tIfCS, L2.tChain, L2.tCons, L2.tNil, L2.tCall, L2.tDrop, L2.tAndV, L2.tOrV, L2.tNotV, L2.tAnd, L2.tOr, L2.tNot, L2.tCB, Z.sc_ii, Z.sc_ss, Z.sc_bb, Z.sc_is, Z.sc_si, Z.sc_ni, Z.sc_in, Z.sc_ns, Z.sc_sn, Z.sc_nn, L2.CDiv, L2.CPow, L2.CMul, List.getElem?_cons_zero, List.getElem?_cons_succ, Z.set_z, Z.set_s, Option.some.injEq, L2.V.int.injEq, L2.V.bl.injEq, L2.V.str.injEq, L2.V.ref.injEq, L2.V.ty.injEq, List.cons.injEq, exists_eq_left', exists_and_left, exists_eq_left, exists_eq_right, exists_eq_right', exists_eq', exists_eq, true_and, and_true, and_assoc, decide_eq_true_eq, Int.reduceLT, and_self, Z.rIxH, Z.rIxU, Z.at30, Z.at31, Z.at32, Z.ix3_0, Z.ix3_1, Z.ix3_2, L2.rSetL, L2.gSub, Z.gTupH, L2.gCons, L2.gNil, L2.HO.lst.injEq, L2.HO.tup.injEq, L2.upd_same, L2.upd_upd, L2.tSl, L2.tNoPart, L2.tPart, L2.rSlL, L2.rCat, List.length_append, or_false, false_or, or_true, true_or, reduceCtorEq, false_and, and_false, exists_false, Int.reduceNeg, Int.reducePow, Int.reduceToNat, Int.reduceAbs, Int.reduceLE, Int.reduceMul, Int.reduceAdd, Int.reduceSub, Nat.reducePow, Nat.reduceLT, Nat.reduceLeDiff, Int.natAbs_natCast, if_true, if_false, Z.rIsN, Z.tyN, Z.kit_ii, Z.kit_bi, Z.kit_si, Z.kit_ni, Z.kit_ib, Z.kit_bb, Z.kit_sb, Z.kit_nb, Z.kit_is, Z.kit_bs, Z.kit_ss, Z.kit_ns, Bool.not_true, Bool.not_false, L2.tTup, L2.tLst, L2.wipe, L2.tYes, Z.Turn1, L2.tNever, sizeLine_eq, Z.rInU, Z.rInH, L2.flatV, List.any_cons, List.any_nil, List.all_cons, List.all_nil, Bool.and_true, Bool.true_and, Bool.or_false, Bool.false_or, Z.tBML, L2.rAppend, Z.map_int_inj, Z.map_bl_inj, Z.rTupL, Z.rLstL, Z.rLstT, Z.rSortI, Z.rAnyH, Z.rAllH, Z.rSumH, Z.rLenL, Z.rLenU, List.length_map, L2.tPar, Z.tCallK0, List.getD_cons_zero, List.getD_cons_succ, sp_is_integer]
    split <;> simp_all
def isSize (r : Bool) (n m : Int) : Bool := if r then (decide (3 ≤ n ∧ n ≤ m) && decide (n % 2 = 1)) else (decide (2 ≤ n ∧ n ≤ m) && decide (n % 2 = 0))
def sp_is_size : Sp := fun vs H Q _ => ∃ (r : Bool) (n m : Int), vs = [.str (kindS r), .int n, .int m] ∧ Q (.bl (isSize r n m)) H
theorem ok_is_size (T : Env K mg) : Hd P w K mg base CX0 3 "is_size" s_is_size ["kind", "value", "most"] sp_is_size := by
  have H_is_between := ok_is_between (P := P) (w := w) (base := base) T
  obtain ⟨f, fd, F, hm⟩ := T.d_is_size
  refine ⟨⟨f, fd, F, hm, ?_⟩, fun _ _ _ _ _ _ _ us hl => match us, hl with | [_, _, _], _ => rfl⟩
  refine F.ok sc_is_size (fun vs H Q E h => ?_) (fun cdv A outer s H vs Q E hr h => ?_)
  · first | (obtain ⟨rfl, _⟩ := h; rfl) | (obtain ⟨_, rfl, _⟩ := h; rfl) | (obtain ⟨_, _, rfl, _⟩ := h; rfl) | (obtain ⟨_, _, _, rfl, _⟩ := h; rfl) | (obtain ⟨_, _, _, _, rfl, _⟩ := h; rfl) | (obtain ⟨_, _, _, _, _, rfl, _⟩ := h; rfl) | (obtain ⟨_, _, _, _, _, _, rfl, _⟩ := h; rfl) | (obtain ⟨_, _, _, _, _, _, _, rfl, _⟩ := h; rfl) | (obtain ⟨_, _, _, _, _, _, _, _, rfl, _⟩ := h; rfl)
  · obtain ⟨r, n, m, rfl, q⟩ := h
    have hu := hu_of hr
    refine ⟨_, pss_cons (ps_if (pt_cmpR op_eq (pv 0) (pe_glob (v := .str "rings") rfl T.c_RINGS.choose_spec ⟨_, rfl⟩) (nomark _)) (pss_one (ps_ret (pe_and (pe_hd H_is_between (hr.mono (by decide)) rfl pass0 (pa_cons (pv 1) (pa_cons pe_int (pa_cons (pv 2) pa_nil)))) (pe_one (pe_cmpR op_eq (pe_op op_mod (pv 1) pe_int) pe_int (nomark _))))))
      (pss_nil))
      (pss_one (ps_ret (pe_and (pe_hd H_is_between (hr.mono (by decide)) rfl pass0 (pa_cons (pv 1) (pa_cons pe_int (pa_cons (pv 2) pa_nil)))) (pe_one (pe_cmpR op_eq (pe_op op_mod (pv 1) pe_int) pe_int (nomark _)))))), ?_⟩
    simp only [L2.start, List.map_cons, List.map_nil, List.length_cons, List.length_nil, Nat.zero_add, Nat.reduceAdd, Nat.reduceSub, List.replicate_succ, List.replicate_zero, List.cons_append, List.nil_append, List.append_nil, L2.tSeq, L2.tNext, L2.tAsg, L2.gName, L2.tRet, L2.tRetN, L2.tIfS, L2.tVar, L2.tC, L2.tOp, L2.tUn, L2.rI, L2.rI0, L2.rU, L2.rEq, L2.rNe, L2.tTest, L2.tB, L2.tIf, Z.tIfCI, Z.tIfCS, L2.tChain, L2.tCons, L2.tNil, L2.tCall, L2.tDrop, L2.tAndV, L2.tOrV, L2.tNotV, L2.tAnd, L2.tOr, L2.tNot, L2.tCB, Z.sc_ii, Z.sc_ss, Z.sc_bb, Z.sc_is, Z.sc_si, Z.sc_ni, Z.sc_in, Z.sc_ns, Z.sc_sn, Z.sc_nn, L2.CDiv, L2.CPow, L2.CMul, List.getElem?_cons_zero, List.getElem?_cons_succ, Z.set_z, Z.set_s, Option.some.injEq, L2.V.int.injEq, L2.V.bl.injEq, L2.V.str.injEq, L2.V.ref.injEq, L2.V.ty.injEq, List.cons.injEq, exists_eq_left', exists_and_left, exists_eq_left, exists_eq_right, exists_eq_right', exists_eq', exists_eq, true_and, and_true, and_assoc, decide_eq_true_eq, Int.reduceLT, and_self, Z.rIxH, Z.rIxU, Z.at30, Z.at31, Z.at32, Z.ix3_0, Z.ix3_1, Z.ix3_2, L2.rSetL, L2.gSub, Z.gTupH, L2.gCons, L2.gNil, L2.HO.lst.injEq, L2.HO.tup.injEq, L2.upd_same, L2.upd_upd, L2.tSl, L2.tNoPart, L2.tPart, L2.rSlL, L2.rCat, List.length_append, or_false, false_or, or_true, true_or, reduceCtorEq, false_and, and_false, exists_false, Int.reduceNeg, Int.reducePow, Int.reduceToNat, Int.reduceAbs, Int.reduceLE, Int.reduceMul, Int.reduceAdd, Int.reduceSub, Nat.reducePow, Nat.reduceLT, Nat.reduceLeDiff, Int.natAbs_natCast, if_true, if_false, Z.rIsN, Z.tyN, Z.kit_ii, Z.kit_bi, Z.kit_si, Z.kit_ni, Z.kit_ib, Z.kit_bb, Z.kit_sb, Z.kit_nb, Z.kit_is, Z.kit_bs, Z.kit_ss, Z.kit_ns, Bool.not_true, Bool.not_false, L2.tTup, L2.tLst, L2.wipe, L2.tYes, Z.Turn1, L2.tNever, sizeLine_eq, Z.rInU, Z.rInH, L2.flatV, List.any_cons, List.any_nil, List.all_cons, List.all_nil, Bool.and_true, Bool.true_and, Bool.or_false, Bool.false_or, Z.tBML, L2.rAppend, Z.map_int_inj, Z.map_bl_inj, Z.rTupL, Z.rLstL, Z.rLstT, Z.rSortI, Z.rAnyH, Z.rAllH, Z.rSumH, Z.rLenL, Z.rLenU, List.length_map, L2.tPar, Z.tCallK0, List.getD_cons_zero, List.getD_cons_succ, sp_is_between, kind_eq]
    unfold isSize at q
    (repeat' split) <;> simp_all
def sp_evenings_for : Sp := fun vs H Q _ => ∃ (r : Bool) (n : Int), vs = [.str (kindS r), .int n] ∧ Q (.int (nights r n)) H
theorem ok_evenings_for (T : Env K mg) : Hd P w K mg base CX0 1 "evenings_for" s_evenings_for ["kind", "many"] sp_evenings_for := by
  obtain ⟨f, fd, F, hm⟩ := T.d_evenings_for
  refine ⟨⟨f, fd, F, hm, ?_⟩, fun _ _ _ _ _ _ _ us hl => match us, hl with | [_, _], _ => rfl⟩
  refine F.ok sc_evenings_for (fun vs H Q E h => ?_) (fun cdv A outer s H vs Q E hr h => ?_)
  · first | (obtain ⟨rfl, _⟩ := h; rfl) | (obtain ⟨_, rfl, _⟩ := h; rfl) | (obtain ⟨_, _, rfl, _⟩ := h; rfl) | (obtain ⟨_, _, _, rfl, _⟩ := h; rfl) | (obtain ⟨_, _, _, _, rfl, _⟩ := h; rfl) | (obtain ⟨_, _, _, _, _, rfl, _⟩ := h; rfl) | (obtain ⟨_, _, _, _, _, _, rfl, _⟩ := h; rfl) | (obtain ⟨_, _, _, _, _, _, _, rfl, _⟩ := h; rfl) | (obtain ⟨_, _, _, _, _, _, _, _, rfl, _⟩ := h; rfl)
  · obtain ⟨r, n, rfl, q⟩ := h
    have hu := hu_of hr
    refine ⟨_, pss_one (ps_ret (pe_ifExp (pt_cmpR op_eq (pv 0) (pe_glob (v := .str "rings") rfl T.c_RINGS.choose_spec ⟨_, rfl⟩) (nomark _)) (pe_op op_fdiv (pe_op op_sub (pv 1) pe_int) pe_int) (pe_op op_fdiv (pv 1) pe_int))), ?_⟩
    simp only [L2.start, List.map_cons, List.map_nil, List.length_cons, List.length_nil, Nat.zero_add, Nat.reduceAdd, Nat.reduceSub, List.replicate_succ, List.replicate_zero, List.cons_append, List.nil_append, List.append_nil, L2.tSeq, L2.tNext, L2.tAsg, L2.gName, L2.tRet, L2.tRetN, L2.tIfS, L2.tVar, L2.tC, L2.tOp, L2.tUn, L2.rI, L2.rI0, L2.rU, L2.rEq, L2.rNe, L2.tTest, L2.tB, L2.tIf, Z.tIfCI, Z.tIfCS, L2.tChain, L2.tCons, L2.tNil, L2.tCall, L2.tDrop, L2.tAndV, L2.tOrV, L2.tNotV, L2.tAnd, L2.tOr, L2.tNot, L2.tCB, Z.sc_ii, Z.sc_ss, Z.sc_bb, Z.sc_is, Z.sc_si, Z.sc_ni, Z.sc_in, Z.sc_ns, Z.sc_sn, Z.sc_nn, L2.CDiv, L2.CPow, L2.CMul, List.getElem?_cons_zero, List.getElem?_cons_succ, Z.set_z, Z.set_s, Option.some.injEq, L2.V.int.injEq, L2.V.bl.injEq, L2.V.str.injEq, L2.V.ref.injEq, L2.V.ty.injEq, List.cons.injEq, exists_eq_left', exists_and_left, exists_eq_left, exists_eq_right, exists_eq_right', exists_eq', exists_eq, true_and, and_true, and_assoc, decide_eq_true_eq, Int.reduceLT, and_self, Z.rIxH, Z.rIxU, Z.at30, Z.at31, Z.at32, Z.ix3_0, Z.ix3_1, Z.ix3_2, L2.rSetL, L2.gSub, Z.gTupH, L2.gCons, L2.gNil, L2.HO.lst.injEq, L2.HO.tup.injEq, L2.upd_same, L2.upd_upd, L2.tSl, L2.tNoPart, L2.tPart, L2.rSlL, L2.rCat, List.length_append, or_false, false_or, or_true, true_or, reduceCtorEq, false_and, and_false, exists_false, Int.reduceNeg, Int.reducePow, Int.reduceToNat, Int.reduceAbs, Int.reduceLE, Int.reduceMul, Int.reduceAdd, Int.reduceSub, Nat.reducePow, Nat.reduceLT, Nat.reduceLeDiff, Int.natAbs_natCast, if_true, if_false, Z.rIsN, Z.tyN, Z.kit_ii, Z.kit_bi, Z.kit_si, Z.kit_ni, Z.kit_ib, Z.kit_bb, Z.kit_sb, Z.kit_nb, Z.kit_is, Z.kit_bs, Z.kit_ss, Z.kit_ns, Bool.not_true, Bool.not_false, L2.tTup, L2.tLst, L2.wipe, L2.tYes, Z.Turn1, L2.tNever, sizeLine_eq, Z.rInU, Z.rInH, L2.flatV, List.any_cons, List.any_nil, List.all_cons, List.all_nil, Bool.and_true, Bool.true_and, Bool.or_false, Bool.false_or, Z.tBML, L2.rAppend, Z.map_int_inj, Z.map_bl_inj, Z.rTupL, Z.rLstL, Z.rLstT, Z.rSortI, Z.rAnyH, Z.rAllH, Z.rSumH, Z.rLenL, Z.rLenU, List.length_map, L2.tPar, Z.tCallK0, List.getD_cons_zero, List.getD_cons_succ, kind_eq]
    unfold nights at q
    split <;> simp_all
def sp_check_kind : Sp := fun vs H Q _ => ∃ (r : Bool), vs = [.str (kindS r)] ∧ ∀ H', Same H H' → Q .non H'
theorem ok_check_kind (T : Env K mg) : Hd P w K mg base CX0 1 "check_kind" s_check_kind ["kind"] sp_check_kind := by
  obtain ⟨f, fd, F, hm⟩ := T.d_check_kind
  refine ⟨⟨f, fd, F, hm, ?_⟩, fun _ _ _ _ _ _ _ us hl => match us, hl with | [_], _ => rfl⟩
  refine F.ok sc_check_kind (fun vs H Q E h => ?_) (fun cdv A outer s H vs Q E hr h => ?_)
  · first | (obtain ⟨rfl, _⟩ := h; rfl) | (obtain ⟨_, rfl, _⟩ := h; rfl) | (obtain ⟨_, _, rfl, _⟩ := h; rfl) | (obtain ⟨_, _, _, rfl, _⟩ := h; rfl) | (obtain ⟨_, _, _, _, rfl, _⟩ := h; rfl) | (obtain ⟨_, _, _, _, _, rfl, _⟩ := h; rfl) | (obtain ⟨_, _, _, _, _, _, rfl, _⟩ := h; rfl) | (obtain ⟨_, _, _, _, _, _, _, rfl, _⟩ := h; rfl) | (obtain ⟨_, _, _, _, _, _, _, _, rfl, _⟩ := h; rfl)
  · obtain ⟨r, rfl, q⟩ := h
    have hu := hu_of hr
    refine ⟨_, pss_one (ps_if (PW.pt (pw_or (pt_not (pt_val (pe_callB call_isN rfl T.b_isinstance (by decide +kernel) (pa_cons (pv 0) (pa_cons (pe_bltn (v := .ty "str") (by rfl) T.b_str (by decide +kernel) rfl) pa_nil))))) (pw_or1 (pt_cmpR op_notIn_tupH (pv 0) (pe_tup (pa_cons (pe_glob (v := .str "rings") rfl T.c_RINGS.choose_spec ⟨_, rfl⟩) (pa_cons (pe_glob (v := .str "rows") rfl T.c_ROWS.choose_spec ⟨_, rfl⟩) pa_nil))) (by rfl))))) (pss_one (ps_never))
      (pss_nil)), ?_⟩
    simp only [L2.start, List.map_cons, List.map_nil, List.length_cons, List.length_nil, Nat.zero_add, Nat.reduceAdd, Nat.reduceSub, List.replicate_succ, List.replicate_zero, List.cons_append, List.nil_append, List.append_nil, L2.tSeq, L2.tNext, L2.tAsg, L2.gName, L2.tRet, L2.tRetN, L2.tIfS, L2.tVar, L2.tC, L2.tOp, L2.tUn, L2.rI, L2.rI0, L2.rU, L2.rEq, L2.rNe, L2.tTest, L2.tB, L2.tIf, Z.tIfCI, Z.tIfCS, L2.tChain, L2.tCons, L2.tNil, L2.tCall, L2.tDrop, L2.tAndV, L2.tOrV, L2.tNotV, L2.tAnd, L2.tOr, L2.tNot, L2.tCB, Z.sc_ii, Z.sc_ss, Z.sc_bb, Z.sc_is, Z.sc_si, Z.sc_ni, Z.sc_in, Z.sc_ns, Z.sc_sn, Z.sc_nn, L2.CDiv, L2.CPow, L2.CMul, List.getElem?_cons_zero, List.getElem?_cons_succ, Z.set_z, Z.set_s, Option.some.injEq, L2.V.int.injEq, L2.V.bl.injEq, L2.V.str.injEq, L2.V.ref.injEq, L2.V.ty.injEq, List.cons.injEq, exists_eq_left', exists_and_left, exists_eq_left, exists_eq_right, exists_eq_right', exists_eq', exists_eq, true_and, and_true, and_assoc, decide_eq_true_eq, Int.reduceLT, and_self, Z.rIxH, Z.rIxU, Z.at30, Z.at31, Z.at32, Z.ix3_0, Z.ix3_1, Z.ix3_2, L2.rSetL, L2.gSub, Z.gTupH, L2.gCons, L2.gNil, L2.HO.lst.injEq, L2.HO.tup.injEq, L2.upd_same, L2.upd_upd, L2.tSl, L2.tNoPart, L2.tPart, L2.rSlL, L2.rCat, List.length_append, or_false, false_or, or_true, true_or, reduceCtorEq, false_and, and_false, exists_false, Int.reduceNeg, Int.reducePow, Int.reduceToNat, Int.reduceAbs, Int.reduceLE, Int.reduceMul, Int.reduceAdd, Int.reduceSub, Nat.reducePow, Nat.reduceLT, Nat.reduceLeDiff, Int.natAbs_natCast, if_true, if_false, Z.rIsN, Z.tyN, Z.kit_ii, Z.kit_bi, Z.kit_si, Z.kit_ni, Z.kit_ib, Z.kit_bb, Z.kit_sb, Z.kit_nb, Z.kit_is, Z.kit_bs, Z.kit_ss, Z.kit_ns, Bool.not_true, Bool.not_false, L2.tTup, L2.tLst, L2.wipe, L2.tYes, Z.Turn1, L2.tNever, sizeLine_eq, Z.rInU, Z.rInH, L2.flatV, List.any_cons, List.any_nil, List.all_cons, List.all_nil, Bool.and_true, Bool.true_and, Bool.or_false, Bool.false_or, Z.tBML, L2.rAppend, Z.map_int_inj, Z.map_bl_inj, Z.rTupL, Z.rLstL, Z.rLstT, Z.rSortI, Z.rAnyH, Z.rAllH, Z.rSumH, Z.rLenL, Z.rLenU, List.length_map, L2.tPar, Z.tCallK0, List.getD_cons_zero, List.getD_cons_succ, kind_eq, L2.inV, L2.eqV]
    intro p hp
    cases r
    · exact q _ (same_new hp)
    · exact q _ (same_new hp)
def sp_check_size : Sp := fun vs H Q _ => ∃ (r : Bool) (n : Int), vs = [.str (kindS r), .int n] ∧ isSize r n 1000000000000000000000000000000 = true ∧ Q .non H
theorem ok_check_size (T : Env K mg) : Hd P w K mg base CX0 4 "check_size" s_check_size ["kind", "n"] sp_check_size := by
  have H_is_size := ok_is_size (P := P) (w := w) (base := base) T
  obtain ⟨f, fd, F, hm⟩ := T.d_check_size
  refine ⟨⟨f, fd, F, hm, ?_⟩, fun _ _ _ _ _ _ _ us hl => match us, hl with | [_, _], _ => rfl⟩
  refine F.ok sc_check_size (fun vs H Q E h => ?_) (fun cdv A outer s H vs Q E hr h => ?_)
  · first | (obtain ⟨rfl, _⟩ := h; rfl) | (obtain ⟨_, rfl, _⟩ := h; rfl) | (obtain ⟨_, _, rfl, _⟩ := h; rfl) | (obtain ⟨_, _, _, rfl, _⟩ := h; rfl) | (obtain ⟨_, _, _, _, rfl, _⟩ := h; rfl) | (obtain ⟨_, _, _, _, _, rfl, _⟩ := h; rfl) | (obtain ⟨_, _, _, _, _, _, rfl, _⟩ := h; rfl) | (obtain ⟨_, _, _, _, _, _, _, rfl, _⟩ := h; rfl) | (obtain ⟨_, _, _, _, _, _, _, _, rfl, _⟩ := h; rfl)
  · obtain ⟨r, n, rfl, hn, q⟩ := h
    have hu := hu_of hr
    refine ⟨_, pss_one (ps_if (pt_not (pt_val (pe_hd H_is_size (hr.mono (by decide)) rfl pass0 (pa_cons (pv 0) (pa_cons (pv 1) (pa_cons (pe_glob (v := .int 1000000000000000000000000000000) rfl T.c_MOST_ZIGZAG.choose_spec ⟨_, rfl⟩) pa_nil)))))) (pss_one (ps_never))
      (pss_nil)), ?_⟩
    simp only [L2.start, List.map_cons, List.map_nil, List.length_cons, List.length_nil, Nat.zero_add, Nat.reduceAdd, Nat.reduceSub, List.replicate_succ, List.replicate_zero, List.cons_append, List.nil_append, List.append_nil, L2.tSeq, L2.tNext, L2.tAsg, L2.gName, L2.tRet, L2.tRetN, L2.tIfS, L2.tVar, L2.tC, L2.tOp, L2.tUn, L2.rI, L2.rI0, L2.rU, L2.rEq, L2.rNe, L2.tTest, L2.tB, L2.tIf, Z.tIfCI, Z.tIfCS, L2.tChain, L2.tCons, L2.tNil, L2.tCall, L2.tDrop, L2.tAndV, L2.tOrV, L2.tNotV, L2.tAnd, L2.tOr, L2.tNot, L2.tCB, Z.sc_ii, Z.sc_ss, Z.sc_bb, Z.sc_is, Z.sc_si, Z.sc_ni, Z.sc_in, Z.sc_ns, Z.sc_sn, Z.sc_nn, L2.CDiv, L2.CPow, L2.CMul, List.getElem?_cons_zero, List.getElem?_cons_succ, Z.set_z, Z.set_s, Option.some.injEq, L2.V.int.injEq, L2.V.bl.injEq, L2.V.str.injEq, L2.V.ref.injEq, L2.V.ty.injEq, List.cons.injEq, exists_eq_left', exists_and_left, exists_eq_left, exists_eq_right, exists_eq_right', exists_eq', exists_eq, true_and, and_true, and_assoc, decide_eq_true_eq, Int.reduceLT, and_self, Z.rIxH, Z.rIxU, Z.at30, Z.at31, Z.at32, Z.ix3_0, Z.ix3_1, Z.ix3_2, L2.rSetL, L2.gSub, Z.gTupH, L2.gCons, L2.gNil, L2.HO.lst.injEq, L2.HO.tup.injEq, L2.upd_same, L2.upd_upd, L2.tSl, L2.tNoPart, L2.tPart, L2.rSlL, L2.rCat, List.length_append, or_false, false_or, or_true, true_or, reduceCtorEq, false_and, and_false, exists_false, Int.reduceNeg, Int.reducePow, Int.reduceToNat, Int.reduceAbs, Int.reduceLE, Int.reduceMul, Int.reduceAdd, Int.reduceSub, Nat.reducePow, Nat.reduceLT, Nat.reduceLeDiff, Int.natAbs_natCast, if_true, if_false, Z.rIsN, Z.tyN, Z.kit_ii, Z.kit_bi, Z.kit_si, Z.kit_ni, Z.kit_ib, Z.kit_bb, Z.kit_sb, Z.kit_nb, Z.kit_is, Z.kit_bs, Z.kit_ss, Z.kit_ns, Bool.not_true, Bool.not_false, L2.tTup, L2.tLst, L2.wipe, L2.tYes, Z.Turn1, L2.tNever, sizeLine_eq, Z.rInU, Z.rInH, L2.flatV, List.any_cons, List.any_nil, List.all_cons, List.all_nil, Bool.and_true, Bool.true_and, Bool.or_false, Bool.false_or, Z.tBML, L2.rAppend, Z.map_int_inj, Z.map_bl_inj, Z.rTupL, Z.rLstL, Z.rLstT, Z.rSortI, Z.rAnyH, Z.rAllH, Z.rSumH, Z.rLenL, Z.rLenU, List.length_map, L2.tPar, Z.tCallK0, List.getD_cons_zero, List.getD_cons_succ, sp_is_size, kind_eq, kind_inj]
    rw [hn]
    exact q
def sp_round_size : Sp := fun vs H Q _ => ∃ (r : Bool) (n : Int), vs = [.str (kindS r), .int n] ∧ Q (.int (if r then n - 1 else n)) H
theorem ok_round_size (T : Env K mg) : Hd P w K mg base CX0 1 "round_size" s_round_size ["kind", "n"] sp_round_size := by
  obtain ⟨f, fd, F, hm⟩ := T.d_round_size
  refine ⟨⟨f, fd, F, hm, ?_⟩, fun _ _ _ _ _ _ _ us hl => match us, hl with | [_, _], _ => rfl⟩
  refine F.ok sc_round_size (fun vs H Q E h => ?_) (fun cdv A outer s H vs Q E hr h => ?_)
  · first | (obtain ⟨rfl, _⟩ := h; rfl) | (obtain ⟨_, rfl, _⟩ := h; rfl) | (obtain ⟨_, _, rfl, _⟩ := h; rfl) | (obtain ⟨_, _, _, rfl, _⟩ := h; rfl) | (obtain ⟨_, _, _, _, rfl, _⟩ := h; rfl) | (obtain ⟨_, _, _, _, _, rfl, _⟩ := h; rfl) | (obtain ⟨_, _, _, _, _, _, rfl, _⟩ := h; rfl) | (obtain ⟨_, _, _, _, _, _, _, rfl, _⟩ := h; rfl) | (obtain ⟨_, _, _, _, _, _, _, _, rfl, _⟩ := h; rfl)
  · obtain ⟨r, n, rfl, q⟩ := h
    have hu := hu_of hr
    refine ⟨_, pss_one (ps_ret (pe_ifExp (pt_cmpR op_eq (pv 0) (pe_glob (v := .str "rings") rfl T.c_RINGS.choose_spec ⟨_, rfl⟩) (nomark _)) (pe_op op_sub (pv 1) pe_int) (pv 1))), ?_⟩
    simp only [L2.start, List.map_cons, List.map_nil, List.length_cons, List.length_nil, Nat.zero_add, Nat.reduceAdd, Nat.reduceSub, List.replicate_succ, List.replicate_zero, List.cons_append, List.nil_append, List.append_nil, L2.tSeq, L2.tNext, L2.tAsg, L2.gName, L2.tRet, L2.tRetN, L2.tIfS, L2.tVar, L2.tC, L2.tOp, L2.tUn, L2.rI, L2.rI0, L2.rU, L2.rEq, L2.rNe, L2.tTest, L2.tB, L2.tIf, Z.tIfCI, Z.tIfCS, L2.tChain, L2.tCons, L2.tNil, L2.tCall, L2.tDrop, L2.tAndV, L2.tOrV, L2.tNotV, L2.tAnd, L2.tOr, L2.tNot, L2.tCB, Z.sc_ii, Z.sc_ss, Z.sc_bb, Z.sc_is, Z.sc_si, Z.sc_ni, Z.sc_in, Z.sc_ns, Z.sc_sn, Z.sc_nn, L2.CDiv, L2.CPow, L2.CMul, List.getElem?_cons_zero, List.getElem?_cons_succ, Z.set_z, Z.set_s, Option.some.injEq, L2.V.int.injEq, L2.V.bl.injEq, L2.V.str.injEq, L2.V.ref.injEq, L2.V.ty.injEq, List.cons.injEq, exists_eq_left', exists_and_left, exists_eq_left, exists_eq_right, exists_eq_right', exists_eq', exists_eq, true_and, and_true, and_assoc, decide_eq_true_eq, Int.reduceLT, and_self, Z.rIxH, Z.rIxU, Z.at30, Z.at31, Z.at32, Z.ix3_0, Z.ix3_1, Z.ix3_2, L2.rSetL, L2.gSub, Z.gTupH, L2.gCons, L2.gNil, L2.HO.lst.injEq, L2.HO.tup.injEq, L2.upd_same, L2.upd_upd, L2.tSl, L2.tNoPart, L2.tPart, L2.rSlL, L2.rCat, List.length_append, or_false, false_or, or_true, true_or, reduceCtorEq, false_and, and_false, exists_false, Int.reduceNeg, Int.reducePow, Int.reduceToNat, Int.reduceAbs, Int.reduceLE, Int.reduceMul, Int.reduceAdd, Int.reduceSub, Nat.reducePow, Nat.reduceLT, Nat.reduceLeDiff, Int.natAbs_natCast, if_true, if_false, Z.rIsN, Z.tyN, Z.kit_ii, Z.kit_bi, Z.kit_si, Z.kit_ni, Z.kit_ib, Z.kit_bb, Z.kit_sb, Z.kit_nb, Z.kit_is, Z.kit_bs, Z.kit_ss, Z.kit_ns, Bool.not_true, Bool.not_false, L2.tTup, L2.tLst, L2.wipe, L2.tYes, Z.Turn1, L2.tNever, sizeLine_eq, Z.rInU, Z.rInH, L2.flatV, List.any_cons, List.any_nil, List.all_cons, List.all_nil, Bool.and_true, Bool.true_and, Bool.or_false, Bool.false_or, Z.tBML, L2.rAppend, Z.map_int_inj, Z.map_bl_inj, Z.rTupL, Z.rLstL, Z.rLstT, Z.rSortI, Z.rAnyH, Z.rAllH, Z.rSumH, Z.rLenL, Z.rLenU, List.length_map, L2.tPar, Z.tCallK0, List.getD_cons_zero, List.getD_cons_succ, kind_eq]
    split <;> simp_all
def sp_person_in : Sp := fun vs H Q _ => ∃ s e i : Int, vs = [.int s, .int e, .int i] ∧ 0 < s ∧ Q (.int (personIn s e i)) H
theorem ok_person_in (T : Env K mg) : Hd P w K mg base CX0 1 "person_in" s_person_in ["size", "evening", "index"] sp_person_in := by
  obtain ⟨f, fd, F, hm⟩ := T.d_person_in
  refine ⟨⟨f, fd, F, hm, ?_⟩, fun _ _ _ _ _ _ _ us hl => match us, hl with | [_, _, _], _ => rfl⟩
  refine F.ok sc_person_in (fun vs H Q E h => ?_) (fun cdv A outer s H vs Q E hr h => ?_)
  · first | (obtain ⟨rfl, _⟩ := h; rfl) | (obtain ⟨_, rfl, _⟩ := h; rfl) | (obtain ⟨_, _, rfl, _⟩ := h; rfl) | (obtain ⟨_, _, _, rfl, _⟩ := h; rfl) | (obtain ⟨_, _, _, _, rfl, _⟩ := h; rfl) | (obtain ⟨_, _, _, _, _, rfl, _⟩ := h; rfl) | (obtain ⟨_, _, _, _, _, _, rfl, _⟩ := h; rfl) | (obtain ⟨_, _, _, _, _, _, _, rfl, _⟩ := h; rfl) | (obtain ⟨_, _, _, _, _, _, _, _, rfl, _⟩ := h; rfl)
  · obtain ⟨z, e, i, rfl, hz, q⟩ := h
    have hu := hu_of hr
    refine ⟨_, pss_cons (ps_set (i := 3) sc_person_in.nd rfl (by first | exact .inl rfl | exact .inr rfl) (pe_op op_fdiv (pe_op op_add (pv 2) pe_int) pe_int))
      (pss_one (ps_ret (pe_op op_mod (pe_op op_add (pv 1) (pe_ifExp (pt_cmpR op_eq (pe_op op_mod (pv 2) pe_int) pe_int (nomark _)) (pv 3) (pe_un un_neg (pv 3)))) (pv 0)))), ?_⟩
    simp only [L2.start, List.map_cons, List.map_nil, List.length_cons, List.length_nil, Nat.zero_add, Nat.reduceAdd, Nat.reduceSub, List.replicate_succ, List.replicate_zero, List.cons_append, List.nil_append, List.append_nil, L2.tSeq, L2.tNext, L2.tAsg, L2.gName, L2.tRet, L2.tRetN, L2.tIfS, L2.tVar, L2.tC, L2.tOp, L2.tUn, L2.rI, L2.rI0, L2.rU, L2.rEq, L2.rNe, L2.tTest, L2.tB, L2.tIf, Z.tIfCI, Z.tIfCS, L2.tChain, L2.tCons, L2.tNil, L2.tCall, L2.tDrop, L2.tAndV, L2.tOrV, L2.tNotV, L2.tAnd, L2.tOr, L2.tNot, L2.tCB, Z.sc_ii, Z.sc_ss, Z.sc_bb, Z.sc_is, Z.sc_si, Z.sc_ni, Z.sc_in, Z.sc_ns, Z.sc_sn, Z.sc_nn, L2.CDiv, L2.CPow, L2.CMul, List.getElem?_cons_zero, List.getElem?_cons_succ, Z.set_z, Z.set_s, Option.some.injEq, L2.V.int.injEq, L2.V.bl.injEq, L2.V.str.injEq, L2.V.ref.injEq, L2.V.ty.injEq, List.cons.injEq, exists_eq_left', exists_and_left, exists_eq_left, exists_eq_right, exists_eq_right', exists_eq', exists_eq, true_and, and_true, and_assoc, decide_eq_true_eq, Int.reduceLT, and_self, Z.rIxH, Z.rIxU, Z.at30, Z.at31, Z.at32, Z.ix3_0, Z.ix3_1, Z.ix3_2, L2.rSetL, L2.gSub, Z.gTupH, L2.gCons, L2.gNil, L2.HO.lst.injEq, L2.HO.tup.injEq, L2.upd_same, L2.upd_upd, L2.tSl, L2.tNoPart, L2.tPart, L2.rSlL, L2.rCat, List.length_append, or_false, false_or, or_true, true_or, reduceCtorEq, false_and, and_false, exists_false, Int.reduceNeg, Int.reducePow, Int.reduceToNat, Int.reduceAbs, Int.reduceLE, Int.reduceMul, Int.reduceAdd, Int.reduceSub, Nat.reducePow, Nat.reduceLT, Nat.reduceLeDiff, Int.natAbs_natCast, if_true, if_false, Z.rIsN, Z.tyN, Z.kit_ii, Z.kit_bi, Z.kit_si, Z.kit_ni, Z.kit_ib, Z.kit_bb, Z.kit_sb, Z.kit_nb, Z.kit_is, Z.kit_bs, Z.kit_ss, Z.kit_ns, Bool.not_true, Bool.not_false, L2.tTup, L2.tLst, L2.wipe, L2.tYes, Z.Turn1, L2.tNever, sizeLine_eq, Z.rInU, Z.rInH, L2.flatV, List.any_cons, List.any_nil, List.all_cons, List.all_nil, Bool.and_true, Bool.true_and, Bool.or_false, Bool.false_or, Z.tBML, L2.rAppend, Z.map_int_inj, Z.map_bl_inj, Z.rTupL, Z.rLstL, Z.rLstT, Z.rSortI, Z.rAnyH, Z.rAllH, Z.rSumH, Z.rLenL, Z.rLenU, List.length_map, L2.tPar, Z.tCallK0, List.getD_cons_zero, List.getD_cons_succ]
    unfold personIn at q
    split <;> simp_all
def sp_index_in : Sp := fun vs H Q _ => ∃ s e i : Int, vs = [.int s, .int e, .int i] ∧ 0 < s ∧ Q (.int (indexIn s e i)) H
theorem ok_index_in (T : Env K mg) : Hd P w K mg base CX0 1 "index_in" s_index_in ["size", "evening", "person"] sp_index_in := by
  obtain ⟨f, fd, F, hm⟩ := T.d_index_in
  refine ⟨⟨f, fd, F, hm, ?_⟩, fun _ _ _ _ _ _ _ us hl => match us, hl with | [_, _, _], _ => rfl⟩
  refine F.ok sc_index_in (fun vs H Q E h => ?_) (fun cdv A outer s H vs Q E hr h => ?_)
  · first | (obtain ⟨rfl, _⟩ := h; rfl) | (obtain ⟨_, rfl, _⟩ := h; rfl) | (obtain ⟨_, _, rfl, _⟩ := h; rfl) | (obtain ⟨_, _, _, rfl, _⟩ := h; rfl) | (obtain ⟨_, _, _, _, rfl, _⟩ := h; rfl) | (obtain ⟨_, _, _, _, _, rfl, _⟩ := h; rfl) | (obtain ⟨_, _, _, _, _, _, rfl, _⟩ := h; rfl) | (obtain ⟨_, _, _, _, _, _, _, rfl, _⟩ := h; rfl) | (obtain ⟨_, _, _, _, _, _, _, _, rfl, _⟩ := h; rfl)
  · obtain ⟨z, e, i, rfl, hz, q⟩ := h
    have hu := hu_of hr
    refine ⟨_, pss_cons (ps_set (i := 3) sc_index_in.nd rfl (by first | exact .inl rfl | exact .inr rfl) (pe_op op_mod (pe_op op_sub (pv 2) (pv 1)) (pv 0)))
      (pss_one (ps_ret (pe_ifExp (pt_chain op_lt op_le pe_int (pv 3) (pe_op op_fdiv (pv 0) pe_int)) (pe_op op_sub (pe_op op_mul pe_int (pv 3)) pe_int) (pe_op op_mul pe_int (pe_op op_mod (pe_op op_sub (pv 0) (pv 3)) (pv 0)))))), ?_⟩
    simp only [L2.start, List.map_cons, List.map_nil, List.length_cons, List.length_nil, Nat.zero_add, Nat.reduceAdd, Nat.reduceSub, List.replicate_succ, List.replicate_zero, List.cons_append, List.nil_append, List.append_nil, L2.tSeq, L2.tNext, L2.tAsg, L2.gName, L2.tRet, L2.tRetN, L2.tIfS, L2.tVar, L2.tC, L2.tOp, L2.tUn, L2.rI, L2.rI0, L2.rU, L2.rEq, L2.rNe, L2.tTest, L2.tB, L2.tIf, Z.tIfCI, Z.tIfCS, L2.tChain, L2.tCons, L2.tNil, L2.tCall, L2.tDrop, L2.tAndV, L2.tOrV, L2.tNotV, L2.tAnd, L2.tOr, L2.tNot, L2.tCB, Z.sc_ii, Z.sc_ss, Z.sc_bb, Z.sc_is, Z.sc_si, Z.sc_ni, Z.sc_in, Z.sc_ns, Z.sc_sn, Z.sc_nn, L2.CDiv, L2.CPow, L2.CMul, List.getElem?_cons_zero, List.getElem?_cons_succ, Z.set_z, Z.set_s, Option.some.injEq, L2.V.int.injEq, L2.V.bl.injEq, L2.V.str.injEq, L2.V.ref.injEq, L2.V.ty.injEq, List.cons.injEq, exists_eq_left', exists_and_left, exists_eq_left, exists_eq_right, exists_eq_right', exists_eq', exists_eq, true_and, and_true, and_assoc, decide_eq_true_eq, Int.reduceLT, and_self, Z.rIxH, Z.rIxU, Z.at30, Z.at31, Z.at32, Z.ix3_0, Z.ix3_1, Z.ix3_2, L2.rSetL, L2.gSub, Z.gTupH, L2.gCons, L2.gNil, L2.HO.lst.injEq, L2.HO.tup.injEq, L2.upd_same, L2.upd_upd, L2.tSl, L2.tNoPart, L2.tPart, L2.rSlL, L2.rCat, List.length_append, or_false, false_or, or_true, true_or, reduceCtorEq, false_and, and_false, exists_false, Int.reduceNeg, Int.reducePow, Int.reduceToNat, Int.reduceAbs, Int.reduceLE, Int.reduceMul, Int.reduceAdd, Int.reduceSub, Nat.reducePow, Nat.reduceLT, Nat.reduceLeDiff, Int.natAbs_natCast, if_true, if_false, Z.rIsN, Z.tyN, Z.kit_ii, Z.kit_bi, Z.kit_si, Z.kit_ni, Z.kit_ib, Z.kit_bb, Z.kit_sb, Z.kit_nb, Z.kit_is, Z.kit_bs, Z.kit_ss, Z.kit_ns, Bool.not_true, Bool.not_false, L2.tTup, L2.tLst, L2.wipe, L2.tYes, Z.Turn1, L2.tNever, sizeLine_eq, Z.rInU, Z.rInH, L2.flatV, List.any_cons, List.any_nil, List.all_cons, List.all_nil, Bool.and_true, Bool.true_and, Bool.or_false, Bool.false_or, Z.tBML, L2.rAppend, Z.map_int_inj, Z.map_bl_inj, Z.rTupL, Z.rLstL, Z.rLstT, Z.rSortI, Z.rAnyH, Z.rAllH, Z.rSumH, Z.rLenL, Z.rLenU, List.length_map, L2.tPar, Z.tCallK0, List.getD_cons_zero, List.getD_cons_succ]
    unfold indexIn at q
    refine ⟨hz, ?_⟩
    (repeat' split) <;> simp_all
def sp_person_at : Sp := fun vs H Q _ => ∃ (r : Bool) (n e i : Int), vs = [.str (kindS r), .int n, .int e, .int i] ∧ 1 < n ∧ Q (.int (personAt r n e i)) H
theorem ok_person_at (T : Env K mg) : Hd P w K mg base CX0 2 "person_at" s_person_at ["kind", "n", "evening", "index"] sp_person_at := by
  have H_person_in := ok_person_in (P := P) (w := w) (base := base) T
  obtain ⟨f, fd, F, hm⟩ := T.d_person_at
  refine ⟨⟨f, fd, F, hm, ?_⟩, fun _ _ _ _ _ _ _ us hl => match us, hl with | [_, _, _, _], _ => rfl⟩
  refine F.ok sc_person_at (fun vs H Q E h => ?_) (fun cdv A outer s H vs Q E hr h => ?_)
  · first | (obtain ⟨rfl, _⟩ := h; rfl) | (obtain ⟨_, rfl, _⟩ := h; rfl) | (obtain ⟨_, _, rfl, _⟩ := h; rfl) | (obtain ⟨_, _, _, rfl, _⟩ := h; rfl) | (obtain ⟨_, _, _, _, rfl, _⟩ := h; rfl) | (obtain ⟨_, _, _, _, _, rfl, _⟩ := h; rfl) | (obtain ⟨_, _, _, _, _, _, rfl, _⟩ := h; rfl) | (obtain ⟨_, _, _, _, _, _, _, rfl, _⟩ := h; rfl) | (obtain ⟨_, _, _, _, _, _, _, _, rfl, _⟩ := h; rfl)
  · obtain ⟨r, n, e, i, rfl, hn, q⟩ := h
    have hu := hu_of hr
    refine ⟨_, pss_cons (ps_if (pt_cmpR op_eq (pv 0) (pe_glob (v := .str "rings") rfl T.c_RINGS.choose_spec ⟨_, rfl⟩) (nomark _)) (pss_one (ps_ret (pe_ifExp (pt_cmpR op_eq (pv 3) pe_int (nomark _)) (pe_op op_sub (pv 1) pe_int) (pe_hd H_person_in (hr.mono (by decide)) rfl pass0 (pa_cons (pe_op op_sub (pv 1) pe_int) (pa_cons (pv 2) (pa_cons (pe_op op_sub (pv 3) pe_int) pa_nil)))))))
      (pss_nil))
      (pss_one (ps_ret (pe_hd H_person_in (hr.mono (by decide)) rfl pass0 (pa_cons (pv 1) (pa_cons (pv 2) (pa_cons (pv 3) pa_nil)))))), ?_⟩
    simp only [L2.start, List.map_cons, List.map_nil, List.length_cons, List.length_nil, Nat.zero_add, Nat.reduceAdd, Nat.reduceSub, List.replicate_succ, List.replicate_zero, List.cons_append, List.nil_append, List.append_nil, L2.tSeq, L2.tNext, L2.tAsg, L2.gName, L2.tRet, L2.tRetN, L2.tIfS, L2.tVar, L2.tC, L2.tOp, L2.tUn, L2.rI, L2.rI0, L2.rU, L2.rEq, L2.rNe, L2.tTest, L2.tB, L2.tIf, Z.tIfCI, Z.tIfCS, L2.tChain, L2.tCons, L2.tNil, L2.tCall, L2.tDrop, L2.tAndV, L2.tOrV, L2.tNotV, L2.tAnd, L2.tOr, L2.tNot, L2.tCB, Z.sc_ii, Z.sc_ss, Z.sc_bb, Z.sc_is, Z.sc_si, Z.sc_ni, Z.sc_in, Z.sc_ns, Z.sc_sn, Z.sc_nn, L2.CDiv, L2.CPow, L2.CMul, List.getElem?_cons_zero, List.getElem?_cons_succ, Z.set_z, Z.set_s, Option.some.injEq, L2.V.int.injEq, L2.V.bl.injEq, L2.V.str.injEq, L2.V.ref.injEq, L2.V.ty.injEq, List.cons.injEq, exists_eq_left', exists_and_left, exists_eq_left, exists_eq_right, exists_eq_right', exists_eq', exists_eq, true_and, and_true, and_assoc, decide_eq_true_eq, Int.reduceLT, and_self, Z.rIxH, Z.rIxU, Z.at30, Z.at31, Z.at32, Z.ix3_0, Z.ix3_1, Z.ix3_2, L2.rSetL, L2.gSub, Z.gTupH, L2.gCons, L2.gNil, L2.HO.lst.injEq, L2.HO.tup.injEq, L2.upd_same, L2.upd_upd, L2.tSl, L2.tNoPart, L2.tPart, L2.rSlL, L2.rCat, List.length_append, or_false, false_or, or_true, true_or, reduceCtorEq, false_and, and_false, exists_false, Int.reduceNeg, Int.reducePow, Int.reduceToNat, Int.reduceAbs, Int.reduceLE, Int.reduceMul, Int.reduceAdd, Int.reduceSub, Nat.reducePow, Nat.reduceLT, Nat.reduceLeDiff, Int.natAbs_natCast, if_true, if_false, Z.rIsN, Z.tyN, Z.kit_ii, Z.kit_bi, Z.kit_si, Z.kit_ni, Z.kit_ib, Z.kit_bb, Z.kit_sb, Z.kit_nb, Z.kit_is, Z.kit_bs, Z.kit_ss, Z.kit_ns, Bool.not_true, Bool.not_false, L2.tTup, L2.tLst, L2.wipe, L2.tYes, Z.Turn1, L2.tNever, sizeLine_eq, Z.rInU, Z.rInH, L2.flatV, List.any_cons, List.any_nil, List.all_cons, List.all_nil, Bool.and_true, Bool.true_and, Bool.or_false, Bool.false_or, Z.tBML, L2.rAppend, Z.map_int_inj, Z.map_bl_inj, Z.rTupL, Z.rLstL, Z.rLstT, Z.rSortI, Z.rAnyH, Z.rAllH, Z.rSumH, Z.rLenL, Z.rLenU, List.length_map, L2.tPar, Z.tCallK0, List.getD_cons_zero, List.getD_cons_succ, sp_person_in, kind_eq]
    unfold personAt at q
    (repeat' split) <;> simp_all <;> omega
def sp_index_of : Sp := fun vs H Q _ => ∃ (r : Bool) (n e i : Int), vs = [.str (kindS r), .int n, .int e, .int i] ∧ 1 < n ∧ Q (.int (indexOf r n e i)) H
theorem ok_index_of (T : Env K mg) : Hd P w K mg base CX0 2 "index_of" s_index_of ["kind", "n", "evening", "person"] sp_index_of := by
  have H_index_in := ok_index_in (P := P) (w := w) (base := base) T
  obtain ⟨f, fd, F, hm⟩ := T.d_index_of
  refine ⟨⟨f, fd, F, hm, ?_⟩, fun _ _ _ _ _ _ _ us hl => match us, hl with | [_, _, _, _], _ => rfl⟩
  refine F.ok sc_index_of (fun vs H Q E h => ?_) (fun cdv A outer s H vs Q E hr h => ?_)
  · first | (obtain ⟨rfl, _⟩ := h; rfl) | (obtain ⟨_, rfl, _⟩ := h; rfl) | (obtain ⟨_, _, rfl, _⟩ := h; rfl) | (obtain ⟨_, _, _, rfl, _⟩ := h; rfl) | (obtain ⟨_, _, _, _, rfl, _⟩ := h; rfl) | (obtain ⟨_, _, _, _, _, rfl, _⟩ := h; rfl) | (obtain ⟨_, _, _, _, _, _, rfl, _⟩ := h; rfl) | (obtain ⟨_, _, _, _, _, _, _, rfl, _⟩ := h; rfl) | (obtain ⟨_, _, _, _, _, _, _, _, rfl, _⟩ := h; rfl)
  · obtain ⟨r, n, e, i, rfl, hn, q⟩ := h
    have hu := hu_of hr
    refine ⟨_, pss_cons (ps_if (pt_cmpR op_eq (pv 0) (pe_glob (v := .str "rings") rfl T.c_RINGS.choose_spec ⟨_, rfl⟩) (nomark _)) (pss_one (ps_ret (pe_ifExp (pt_cmpR op_eq (pv 3) (pe_op op_sub (pv 1) pe_int) (nomark _)) pe_int (pe_op op_add pe_int (pe_hd H_index_in (hr.mono (by decide)) rfl pass0 (pa_cons (pe_op op_sub (pv 1) pe_int) (pa_cons (pv 2) (pa_cons (pv 3) pa_nil))))))))
      (pss_nil))
      (pss_one (ps_ret (pe_hd H_index_in (hr.mono (by decide)) rfl pass0 (pa_cons (pv 1) (pa_cons (pv 2) (pa_cons (pv 3) pa_nil)))))), ?_⟩
    simp only [L2.start, List.map_cons, List.map_nil, List.length_cons, List.length_nil, Nat.zero_add, Nat.reduceAdd, Nat.reduceSub, List.replicate_succ, List.replicate_zero, List.cons_append, List.nil_append, List.append_nil, L2.tSeq, L2.tNext, L2.tAsg, L2.gName, L2.tRet, L2.tRetN, L2.tIfS, L2.tVar, L2.tC, L2.tOp, L2.tUn, L2.rI, L2.rI0, L2.rU, L2.rEq, L2.rNe, L2.tTest, L2.tB, L2.tIf, Z.tIfCI, Z.tIfCS, L2.tChain, L2.tCons, L2.tNil, L2.tCall, L2.tDrop, L2.tAndV, L2.tOrV, L2.tNotV, L2.tAnd, L2.tOr, L2.tNot, L2.tCB, Z.sc_ii, Z.sc_ss, Z.sc_bb, Z.sc_is, Z.sc_si, Z.sc_ni, Z.sc_in, Z.sc_ns, Z.sc_sn, Z.sc_nn, L2.CDiv, L2.CPow, L2.CMul, List.getElem?_cons_zero, List.getElem?_cons_succ, Z.set_z, Z.set_s, Option.some.injEq, L2.V.int.injEq, L2.V.bl.injEq, L2.V.str.injEq, L2.V.ref.injEq, L2.V.ty.injEq, List.cons.injEq, exists_eq_left', exists_and_left, exists_eq_left, exists_eq_right, exists_eq_right', exists_eq', exists_eq, true_and, and_true, and_assoc, decide_eq_true_eq, Int.reduceLT, and_self, Z.rIxH, Z.rIxU, Z.at30, Z.at31, Z.at32, Z.ix3_0, Z.ix3_1, Z.ix3_2, L2.rSetL, L2.gSub, Z.gTupH, L2.gCons, L2.gNil, L2.HO.lst.injEq, L2.HO.tup.injEq, L2.upd_same, L2.upd_upd, L2.tSl, L2.tNoPart, L2.tPart, L2.rSlL, L2.rCat, List.length_append, or_false, false_or, or_true, true_or, reduceCtorEq, false_and, and_false, exists_false, Int.reduceNeg, Int.reducePow, Int.reduceToNat, Int.reduceAbs, Int.reduceLE, Int.reduceMul, Int.reduceAdd, Int.reduceSub, Nat.reducePow, Nat.reduceLT, Nat.reduceLeDiff, Int.natAbs_natCast, if_true, if_false, Z.rIsN, Z.tyN, Z.kit_ii, Z.kit_bi, Z.kit_si, Z.kit_ni, Z.kit_ib, Z.kit_bb, Z.kit_sb, Z.kit_nb, Z.kit_is, Z.kit_bs, Z.kit_ss, Z.kit_ns, Bool.not_true, Bool.not_false, L2.tTup, L2.tLst, L2.wipe, L2.tYes, Z.Turn1, L2.tNever, sizeLine_eq, Z.rInU, Z.rInH, L2.flatV, List.any_cons, List.any_nil, List.all_cons, List.all_nil, Bool.and_true, Bool.true_and, Bool.or_false, Bool.false_or, Z.tBML, L2.rAppend, Z.map_int_inj, Z.map_bl_inj, Z.rTupL, Z.rLstL, Z.rLstT, Z.rSortI, Z.rAnyH, Z.rAllH, Z.rSumH, Z.rLenL, Z.rLenU, List.length_map, L2.tPar, Z.tCallK0, List.getD_cons_zero, List.getD_cons_succ, sp_index_in, kind_eq]
    unfold indexOf at q
    (repeat' split) <;> simp_all <;> omega
theorem size_nights {r : Bool} {n m : Int} (h : isSize r n m = true) : 2 ≤ n ∧ n ≤ m ∧ 0 < nights r n ∧ ((r = true ∧ n = 2 * nights r n + 1) ∨ (r = false ∧ n = 2 * nights r n)) := by
  unfold isSize at h
  unfold nights
  cases r
  · simp at h ⊢
    omega
  · simp at h ⊢
    omega
open Zig
def sp_check_evening_of : Sp := fun vs H Q _ => ∃ (r : Bool) (n e : Int), vs = [.str (kindS r), .int n, .int e] ∧ 0 ≤ e ∧ e < nights r n ∧ Q .non H
theorem ok_check_evening_of (T : Env K mg) : Hd P w K mg base CX0 3 "check_evening_of" s_check_evening_of ["kind", "n", "evening"] sp_check_evening_of := by
  have H_is_between := ok_is_between (P := P) (w := w) (base := base) T
  have H_evenings_for := ok_evenings_for (P := P) (w := w) (base := base) T
  obtain ⟨f, fd, F, hm⟩ := T.d_check_evening_of
  refine ⟨⟨f, fd, F, hm, ?_⟩, fun _ _ _ _ _ _ _ us hl => match us, hl with | [_, _, _], _ => rfl⟩
  refine F.ok sc_check_evening_of (fun vs H Q E h => ?_) (fun cdv A outer s H vs Q E hr h => ?_)
  · first | (obtain ⟨rfl, _⟩ := h; rfl) | (obtain ⟨_, rfl, _⟩ := h; rfl) | (obtain ⟨_, _, rfl, _⟩ := h; rfl) | (obtain ⟨_, _, _, rfl, _⟩ := h; rfl) | (obtain ⟨_, _, _, _, rfl, _⟩ := h; rfl) | (obtain ⟨_, _, _, _, _, rfl, _⟩ := h; rfl) | (obtain ⟨_, _, _, _, _, _, rfl, _⟩ := h; rfl) | (obtain ⟨_, _, _, _, _, _, _, rfl, _⟩ := h; rfl) | (obtain ⟨_, _, _, _, _, _, _, _, rfl, _⟩ := h; rfl)
  · obtain ⟨r, n, e, rfl, h0, h1, q⟩ := h
    have hu := hu_of hr
    refine ⟨_, pss_one (ps_if (pt_not (pt_val (pe_hd H_is_between (hr.mono (by decide)) rfl pass0 (pa_cons (pv 2) (pa_cons pe_int (pa_cons (pe_op op_sub (pe_hd H_evenings_for (hr.mono (by decide)) rfl pass0 (pa_cons (pv 0) (pa_cons (pv 1) pa_nil))) pe_int) pa_nil)))))) (pss_one (ps_never))
      (pss_nil)), ?_⟩
    simp only [L2.start, List.map_cons, List.map_nil, List.length_cons, List.length_nil, Nat.zero_add, Nat.reduceAdd, Nat.reduceSub, List.replicate_succ, List.replicate_zero, List.cons_append, List.nil_append, List.append_nil, L2.tSeq, L2.tNext, L2.tAsg, L2.gName, L2.tRet, L2.tRetN, L2.tIfS, L2.tVar, L2.tC, L2.tOp, L2.tUn, L2.rI, L2.rI0, L2.rU, L2.rEq, L2.rNe, L2.tTest, L2.tB, L2.tIf, Z.tIfCI, Z.tIfCS, L2.tChain, L2.tCons, L2.tNil, L2.tCall, L2.tDrop, L2.tAndV, L2.tOrV, L2.tNotV, L2.tAnd, L2.tOr, L2.tNot, L2.tCB, Z.sc_ii, Z.sc_ss, Z.sc_bb, Z.sc_is, Z.sc_si, Z.sc_ni, Z.sc_in, Z.sc_ns, Z.sc_sn, Z.sc_nn, L2.CDiv, L2.CPow, L2.CMul, List.getElem?_cons_zero, List.getElem?_cons_succ, Z.set_z, Z.set_s, Option.some.injEq, L2.V.int.injEq, L2.V.bl.injEq, L2.V.str.injEq, L2.V.ref.injEq, L2.V.ty.injEq, List.cons.injEq, exists_eq_left', exists_and_left, exists_eq_left, exists_eq_right, exists_eq_right', exists_eq', exists_eq, true_and, and_true, and_assoc, decide_eq_true_eq, Int.reduceLT, and_self, Z.rIxH, Z.rIxU, Z.at30, Z.at31, Z.at32, Z.ix3_0, Z.ix3_1, Z.ix3_2, L2.rSetL, L2.gSub, Z.gTupH, L2.gCons, L2.gNil, L2.HO.lst.injEq, L2.HO.tup.injEq, L2.upd_same, L2.upd_upd, L2.tSl, L2.tNoPart, L2.tPart, L2.rSlL, L2.rCat, List.length_append, or_false, false_or, or_true, true_or, reduceCtorEq, false_and, and_false, exists_false, Int.reduceNeg, Int.reducePow, Int.reduceToNat, Int.reduceAbs, Int.reduceLE, Int.reduceMul, Int.reduceAdd, Int.reduceSub, Nat.reducePow, Nat.reduceLT, Nat.reduceLeDiff, Int.natAbs_natCast, if_true, if_false, Z.rIsN, Z.tyN, Z.kit_ii, Z.kit_bi, Z.kit_si, Z.kit_ni, Z.kit_ib, Z.kit_bb, Z.kit_sb, Z.kit_nb, Z.kit_is, Z.kit_bs, Z.kit_ss, Z.kit_ns, Bool.not_true, Bool.not_false, L2.tTup, L2.tLst, L2.wipe, L2.tYes, Z.Turn1, L2.tNever, sizeLine_eq, Z.rInU, Z.rInH, L2.flatV, List.any_cons, List.any_nil, List.all_cons, List.all_nil, Bool.and_true, Bool.true_and, Bool.or_false, Bool.false_or, Z.tBML, L2.rAppend, Z.map_int_inj, Z.map_bl_inj, Z.rTupL, Z.rLstL, Z.rLstT, Z.rSortI, Z.rAnyH, Z.rAllH, Z.rSumH, Z.rLenL, Z.rLenU, List.length_map, L2.tPar, Z.tCallK0, List.getD_cons_zero, List.getD_cons_succ, sp_is_between, sp_evenings_for, kind_eq, kind_inj]
    have c : (0 ≤ e ∧ e ≤ nights r n - 1) = True := eq_true (by omega)
    simp only [c]
    exact q
def sp_check_person : Sp := fun vs H Q _ => ∃ (n p : Int), vs = [.int n, .int p] ∧ 0 ≤ p ∧ p < n ∧ Q .non H
theorem ok_check_person (T : Env K mg) : Hd P w K mg base CX0 3 "check_person" s_check_person ["n", "person"] sp_check_person := by
  have H_is_between := ok_is_between (P := P) (w := w) (base := base) T
  obtain ⟨f, fd, F, hm⟩ := T.d_check_person
  refine ⟨⟨f, fd, F, hm, ?_⟩, fun _ _ _ _ _ _ _ us hl => match us, hl with | [_, _], _ => rfl⟩
  refine F.ok sc_check_person (fun vs H Q E h => ?_) (fun cdv A outer s H vs Q E hr h => ?_)
  · first | (obtain ⟨rfl, _⟩ := h; rfl) | (obtain ⟨_, rfl, _⟩ := h; rfl) | (obtain ⟨_, _, rfl, _⟩ := h; rfl) | (obtain ⟨_, _, _, rfl, _⟩ := h; rfl) | (obtain ⟨_, _, _, _, rfl, _⟩ := h; rfl) | (obtain ⟨_, _, _, _, _, rfl, _⟩ := h; rfl) | (obtain ⟨_, _, _, _, _, _, rfl, _⟩ := h; rfl) | (obtain ⟨_, _, _, _, _, _, _, rfl, _⟩ := h; rfl) | (obtain ⟨_, _, _, _, _, _, _, _, rfl, _⟩ := h; rfl)
  · obtain ⟨n, p, rfl, h0, h1, q⟩ := h
    have hu := hu_of hr
    refine ⟨_, pss_one (ps_if (pt_not (pt_val (pe_hd H_is_between (hr.mono (by decide)) rfl pass0 (pa_cons (pv 1) (pa_cons pe_int (pa_cons (pe_op op_sub (pv 0) pe_int) pa_nil)))))) (pss_one (ps_never))
      (pss_nil)), ?_⟩
    simp only [L2.start, List.map_cons, List.map_nil, List.length_cons, List.length_nil, Nat.zero_add, Nat.reduceAdd, Nat.reduceSub, List.replicate_succ, List.replicate_zero, List.cons_append, List.nil_append, List.append_nil, L2.tSeq, L2.tNext, L2.tAsg, L2.gName, L2.tRet, L2.tRetN, L2.tIfS, L2.tVar, L2.tC, L2.tOp, L2.tUn, L2.rI, L2.rI0, L2.rU, L2.rEq, L2.rNe, L2.tTest, L2.tB, L2.tIf, Z.tIfCI, Z.tIfCS, L2.tChain, L2.tCons, L2.tNil, L2.tCall, L2.tDrop, L2.tAndV, L2.tOrV, L2.tNotV, L2.tAnd, L2.tOr, L2.tNot, L2.tCB, Z.sc_ii, Z.sc_ss, Z.sc_bb, Z.sc_is, Z.sc_si, Z.sc_ni, Z.sc_in, Z.sc_ns, Z.sc_sn, Z.sc_nn, L2.CDiv, L2.CPow, L2.CMul, List.getElem?_cons_zero, List.getElem?_cons_succ, Z.set_z, Z.set_s, Option.some.injEq, L2.V.int.injEq, L2.V.bl.injEq, L2.V.str.injEq, L2.V.ref.injEq, L2.V.ty.injEq, List.cons.injEq, exists_eq_left', exists_and_left, exists_eq_left, exists_eq_right, exists_eq_right', exists_eq', exists_eq, true_and, and_true, and_assoc, decide_eq_true_eq, Int.reduceLT, and_self, Z.rIxH, Z.rIxU, Z.at30, Z.at31, Z.at32, Z.ix3_0, Z.ix3_1, Z.ix3_2, L2.rSetL, L2.gSub, Z.gTupH, L2.gCons, L2.gNil, L2.HO.lst.injEq, L2.HO.tup.injEq, L2.upd_same, L2.upd_upd, L2.tSl, L2.tNoPart, L2.tPart, L2.rSlL, L2.rCat, List.length_append, or_false, false_or, or_true, true_or, reduceCtorEq, false_and, and_false, exists_false, Int.reduceNeg, Int.reducePow, Int.reduceToNat, Int.reduceAbs, Int.reduceLE, Int.reduceMul, Int.reduceAdd, Int.reduceSub, Nat.reducePow, Nat.reduceLT, Nat.reduceLeDiff, Int.natAbs_natCast, if_true, if_false, Z.rIsN, Z.tyN, Z.kit_ii, Z.kit_bi, Z.kit_si, Z.kit_ni, Z.kit_ib, Z.kit_bb, Z.kit_sb, Z.kit_nb, Z.kit_is, Z.kit_bs, Z.kit_ss, Z.kit_ns, Bool.not_true, Bool.not_false, L2.tTup, L2.tLst, L2.wipe, L2.tYes, Z.Turn1, L2.tNever, sizeLine_eq, Z.rInU, Z.rInH, L2.flatV, List.any_cons, List.any_nil, List.all_cons, List.all_nil, Bool.and_true, Bool.true_and, Bool.or_false, Bool.false_or, Z.tBML, L2.rAppend, Z.map_int_inj, Z.map_bl_inj, Z.rTupL, Z.rLstL, Z.rLstT, Z.rSortI, Z.rAnyH, Z.rAllH, Z.rSumH, Z.rLenL, Z.rLenU, List.length_map, L2.tPar, Z.tCallK0, List.getD_cons_zero, List.getD_cons_succ, sp_is_between, kind_eq, kind_inj]
    have c : (0 ≤ p ∧ p ≤ n - 1) = True := eq_true (by omega)
    simp only [c]
    exact q
def sp_zigzag_place : Sp := fun vs H Q _ => ∃ (r : Bool) (n e p : Int), vs = [.str (kindS r), .int n, .int e, .int p] ∧ isSize r n 1000000000000000000000000000000 = true ∧ 0 ≤ e ∧ e < nights r n ∧ 0 ≤ p ∧ p < n ∧ ∀ H', Same H H' → Q (.int (indexOf r n e p)) H'
theorem ok_zigzag_place (T : Env K mg) : Hd P w K mg base CX0 5 "zigzag_place" s_zigzag_place ["kind", "n", "evening", "person"] sp_zigzag_place := by
  have H_index_of := ok_index_of (P := P) (w := w) (base := base) T
  have H_check_person := ok_check_person (P := P) (w := w) (base := base) T
  have H_check_evening_of := ok_check_evening_of (P := P) (w := w) (base := base) T
  have H_check_size := ok_check_size (P := P) (w := w) (base := base) T
  have H_check_kind := ok_check_kind (P := P) (w := w) (base := base) T
  obtain ⟨f, fd, F, hm⟩ := T.d_zigzag_place
  refine ⟨⟨f, fd, F, hm, ?_⟩, fun _ _ _ _ _ _ _ us hl => match us, hl with | [_, _, _, _], _ => rfl⟩
  refine F.ok sc_zigzag_place (fun vs H Q E h => ?_) (fun cdv A outer s H vs Q E hr h => ?_)
  · first | (obtain ⟨rfl, _⟩ := h; rfl) | (obtain ⟨_, rfl, _⟩ := h; rfl) | (obtain ⟨_, _, rfl, _⟩ := h; rfl) | (obtain ⟨_, _, _, rfl, _⟩ := h; rfl) | (obtain ⟨_, _, _, _, rfl, _⟩ := h; rfl) | (obtain ⟨_, _, _, _, _, rfl, _⟩ := h; rfl) | (obtain ⟨_, _, _, _, _, _, rfl, _⟩ := h; rfl) | (obtain ⟨_, _, _, _, _, _, _, rfl, _⟩ := h; rfl) | (obtain ⟨_, _, _, _, _, _, _, _, rfl, _⟩ := h; rfl)
  · obtain ⟨r, n, e, p, rfl, hn, h0, h1, h2, h3, q⟩ := h
    have hu := hu_of hr
    refine ⟨_, pss_cons (ps_expr (pe_hd H_check_kind (hr.mono (by decide)) rfl pass0 (pa_cons (pv 0) pa_nil)))
      (pss_cons (ps_expr (pe_hd H_check_size (hr.mono (by decide)) rfl pass0 (pa_cons (pv 0) (pa_cons (pv 1) pa_nil))))
      (pss_cons (ps_expr (pe_hd H_check_evening_of (hr.mono (by decide)) rfl pass0 (pa_cons (pv 0) (pa_cons (pv 1) (pa_cons (pv 2) pa_nil)))))
      (pss_cons (ps_expr (pe_hd H_check_person (hr.mono (by decide)) rfl pass0 (pa_cons (pv 1) (pa_cons (pv 3) pa_nil))))
      (pss_one (ps_ret (pe_hd H_index_of (hr.mono (by decide)) rfl pass0 (pa_cons (pv 0) (pa_cons (pv 1) (pa_cons (pv 2) (pa_cons (pv 3) pa_nil)))))))))), ?_⟩
    simp only [L2.start, List.map_cons, List.map_nil, List.length_cons, List.length_nil, Nat.zero_add, Nat.reduceAdd, Nat.reduceSub, List.replicate_succ, List.replicate_zero, List.cons_append, List.nil_append, List.append_nil, L2.tSeq, L2.tNext, L2.tAsg, L2.gName, L2.tRet, L2.tRetN, L2.tIfS, L2.tVar, L2.tC, L2.tOp, L2.tUn, L2.rI, L2.rI0, L2.rU, L2.rEq, L2.rNe, L2.tTest, L2.tB, L2.tIf, Z.tIfCI, Z.tIfCS, L2.tChain, L2.tCons, L2.tNil, L2.tCall, L2.tDrop, L2.tAndV, L2.tOrV, L2.tNotV, L2.tAnd, L2.tOr, L2.tNot, L2.tCB, Z.sc_ii, Z.sc_ss, Z.sc_bb, Z.sc_is, Z.sc_si, Z.sc_ni, Z.sc_in, Z.sc_ns, Z.sc_sn, Z.sc_nn, L2.CDiv, L2.CPow, L2.CMul, List.getElem?_cons_zero, List.getElem?_cons_succ, Z.set_z, Z.set_s, Option.some.injEq, L2.V.int.injEq, L2.V.bl.injEq, L2.V.str.injEq, L2.V.ref.injEq, L2.V.ty.injEq, List.cons.injEq, exists_eq_left', exists_and_left, exists_eq_left, exists_eq_right, exists_eq_right', exists_eq', exists_eq, true_and, and_true, and_assoc, decide_eq_true_eq, Int.reduceLT, and_self, Z.rIxH, Z.rIxU, Z.at30, Z.at31, Z.at32, Z.ix3_0, Z.ix3_1, Z.ix3_2, L2.rSetL, L2.gSub, Z.gTupH, L2.gCons, L2.gNil, L2.HO.lst.injEq, L2.HO.tup.injEq, L2.upd_same, L2.upd_upd, L2.tSl, L2.tNoPart, L2.tPart, L2.rSlL, L2.rCat, List.length_append, or_false, false_or, or_true, true_or, reduceCtorEq, false_and, and_false, exists_false, Int.reduceNeg, Int.reducePow, Int.reduceToNat, Int.reduceAbs, Int.reduceLE, Int.reduceMul, Int.reduceAdd, Int.reduceSub, Nat.reducePow, Nat.reduceLT, Nat.reduceLeDiff, Int.natAbs_natCast, if_true, if_false, Z.rIsN, Z.tyN, Z.kit_ii, Z.kit_bi, Z.kit_si, Z.kit_ni, Z.kit_ib, Z.kit_bb, Z.kit_sb, Z.kit_nb, Z.kit_is, Z.kit_bs, Z.kit_ss, Z.kit_ns, Bool.not_true, Bool.not_false, L2.tTup, L2.tLst, L2.wipe, L2.tYes, Z.Turn1, L2.tNever, sizeLine_eq, Z.rInU, Z.rInH, L2.flatV, List.any_cons, List.any_nil, List.all_cons, List.all_nil, Bool.and_true, Bool.true_and, Bool.or_false, Bool.false_or, Z.tBML, L2.rAppend, Z.map_int_inj, Z.map_bl_inj, Z.rTupL, Z.rLstL, Z.rLstT, Z.rSortI, Z.rAnyH, Z.rAllH, Z.rSumH, Z.rLenL, Z.rLenU, List.length_map, L2.tPar, Z.tCallK0, List.getD_cons_zero, List.getD_cons_succ, sp_index_of, sp_check_person, sp_check_evening_of, sp_check_size, sp_check_kind, kind_eq, kind_inj]
    have hz := size_nights hn
    exact fun H' s => ⟨hn, h0, h1, h2, h3, by omega, q H' s⟩
def sp_zigzag_person : Sp := fun vs H Q _ => ∃ (r : Bool) (n e p : Int), vs = [.str (kindS r), .int n, .int e, .int p] ∧ isSize r n 1000000000000000000000000000000 = true ∧ 0 ≤ e ∧ e < nights r n ∧ 0 ≤ p ∧ p < n ∧ ∀ H', Same H H' → Q (.int (personAt r n e p)) H'
theorem ok_zigzag_person (T : Env K mg) : Hd P w K mg base CX0 5 "zigzag_person" s_zigzag_person ["kind", "n", "evening", "index"] sp_zigzag_person := by
  have H_person_at := ok_person_at (P := P) (w := w) (base := base) T
  have H_is_between := ok_is_between (P := P) (w := w) (base := base) T
  have H_check_evening_of := ok_check_evening_of (P := P) (w := w) (base := base) T
  have H_check_size := ok_check_size (P := P) (w := w) (base := base) T
  have H_check_kind := ok_check_kind (P := P) (w := w) (base := base) T
  obtain ⟨f, fd, F, hm⟩ := T.d_zigzag_person
  refine ⟨⟨f, fd, F, hm, ?_⟩, fun _ _ _ _ _ _ _ us hl => match us, hl with | [_, _, _, _], _ => rfl⟩
  refine F.ok sc_zigzag_person (fun vs H Q E h => ?_) (fun cdv A outer s H vs Q E hr h => ?_)
  · first | (obtain ⟨rfl, _⟩ := h; rfl) | (obtain ⟨_, rfl, _⟩ := h; rfl) | (obtain ⟨_, _, rfl, _⟩ := h; rfl) | (obtain ⟨_, _, _, rfl, _⟩ := h; rfl) | (obtain ⟨_, _, _, _, rfl, _⟩ := h; rfl) | (obtain ⟨_, _, _, _, _, rfl, _⟩ := h; rfl) | (obtain ⟨_, _, _, _, _, _, rfl, _⟩ := h; rfl) | (obtain ⟨_, _, _, _, _, _, _, rfl, _⟩ := h; rfl) | (obtain ⟨_, _, _, _, _, _, _, _, rfl, _⟩ := h; rfl)
  · obtain ⟨r, n, e, p, rfl, hn, h0, h1, h2, h3, q⟩ := h
    have hu := hu_of hr
    refine ⟨_, pss_cons (ps_expr (pe_hd H_check_kind (hr.mono (by decide)) rfl pass0 (pa_cons (pv 0) pa_nil)))
      (pss_cons (ps_expr (pe_hd H_check_size (hr.mono (by decide)) rfl pass0 (pa_cons (pv 0) (pa_cons (pv 1) pa_nil))))
      (pss_cons (ps_expr (pe_hd H_check_evening_of (hr.mono (by decide)) rfl pass0 (pa_cons (pv 0) (pa_cons (pv 1) (pa_cons (pv 2) pa_nil)))))
      (pss_cons (ps_if (pt_not (pt_val (pe_hd H_is_between (hr.mono (by decide)) rfl pass0 (pa_cons (pv 3) (pa_cons pe_int (pa_cons (pe_op op_sub (pv 1) pe_int) pa_nil)))))) (pss_one (ps_never))
      (pss_nil))
      (pss_one (ps_ret (pe_hd H_person_at (hr.mono (by decide)) rfl pass0 (pa_cons (pv 0) (pa_cons (pv 1) (pa_cons (pv 2) (pa_cons (pv 3) pa_nil)))))))))), ?_⟩
    simp only [L2.start, List.map_cons, List.map_nil, List.length_cons, List.length_nil, Nat.zero_add, Nat.reduceAdd, Nat.reduceSub, List.replicate_succ, List.replicate_zero, List.cons_append, List.nil_append, List.append_nil, L2.tSeq, L2.tNext, L2.tAsg, L2.gName, L2.tRet, L2.tRetN, L2.tIfS, L2.tVar, L2.tC, L2.tOp, L2.tUn, L2.rI, L2.rI0, L2.rU, L2.rEq, L2.rNe, L2.tTest, L2.tB, L2.tIf, Z.tIfCI, Z.tIfCS, L2.tChain, L2.tCons, L2.tNil, L2.tCall, L2.tDrop, L2.tAndV, L2.tOrV, L2.tNotV, L2.tAnd, L2.tOr, L2.tNot, L2.tCB, Z.sc_ii, Z.sc_ss, Z.sc_bb, Z.sc_is, Z.sc_si, Z.sc_ni, Z.sc_in, Z.sc_ns, Z.sc_sn, Z.sc_nn, L2.CDiv, L2.CPow, L2.CMul, List.getElem?_cons_zero, List.getElem?_cons_succ, Z.set_z, Z.set_s, Option.some.injEq, L2.V.int.injEq, L2.V.bl.injEq, L2.V.str.injEq, L2.V.ref.injEq, L2.V.ty.injEq, List.cons.injEq, exists_eq_left', exists_and_left, exists_eq_left, exists_eq_right, exists_eq_right', exists_eq', exists_eq, true_and, and_true, and_assoc, decide_eq_true_eq, Int.reduceLT, and_self, Z.rIxH, Z.rIxU, Z.at30, Z.at31, Z.at32, Z.ix3_0, Z.ix3_1, Z.ix3_2, L2.rSetL, L2.gSub, Z.gTupH, L2.gCons, L2.gNil, L2.HO.lst.injEq, L2.HO.tup.injEq, L2.upd_same, L2.upd_upd, L2.tSl, L2.tNoPart, L2.tPart, L2.rSlL, L2.rCat, List.length_append, or_false, false_or, or_true, true_or, reduceCtorEq, false_and, and_false, exists_false, Int.reduceNeg, Int.reducePow, Int.reduceToNat, Int.reduceAbs, Int.reduceLE, Int.reduceMul, Int.reduceAdd, Int.reduceSub, Nat.reducePow, Nat.reduceLT, Nat.reduceLeDiff, Int.natAbs_natCast, if_true, if_false, Z.rIsN, Z.tyN, Z.kit_ii, Z.kit_bi, Z.kit_si, Z.kit_ni, Z.kit_ib, Z.kit_bb, Z.kit_sb, Z.kit_nb, Z.kit_is, Z.kit_bs, Z.kit_ss, Z.kit_ns, Bool.not_true, Bool.not_false, L2.tTup, L2.tLst, L2.wipe, L2.tYes, Z.Turn1, L2.tNever, sizeLine_eq, Z.rInU, Z.rInH, L2.flatV, List.any_cons, List.any_nil, List.all_cons, List.all_nil, Bool.and_true, Bool.true_and, Bool.or_false, Bool.false_or, Z.tBML, L2.rAppend, Z.map_int_inj, Z.map_bl_inj, Z.rTupL, Z.rLstL, Z.rLstT, Z.rSortI, Z.rAnyH, Z.rAllH, Z.rSumH, Z.rLenL, Z.rLenU, List.length_map, L2.tPar, Z.tCallK0, List.getD_cons_zero, List.getD_cons_succ, sp_person_at, sp_is_between, sp_check_evening_of, sp_check_size, sp_check_kind, kind_eq, kind_inj]
    have c : (0 ≤ p ∧ p ≤ n - 1) = True := eq_true (by omega)
    simp only [c]
    have hz := size_nights hn
    exact fun H' s => ⟨hn, h0, h1, by omega, q H' s⟩
def sp_zigzag_evening : Sp := fun vs H Q _ => ∃ (r : Bool) (n p m : Int), vs = [.str (kindS r), .int n, .int p, .int m] ∧ isSize r n 1000000000000000000000000000000 = true ∧ 0 ≤ p ∧ p < n ∧ 0 ≤ m ∧ m < n ∧ m ≠ p ∧ ∀ H', Same H H' → Q (.int (eveningOf r n p m)) H'
theorem ok_zigzag_evening (T : Env K mg) : Hd P w K mg base CX0 5 "zigzag_evening" s_zigzag_evening ["kind", "n", "person", "mate"] sp_zigzag_evening := by
  have H_evenings_for := ok_evenings_for (P := P) (w := w) (base := base) T
  have H_round_size := ok_round_size (P := P) (w := w) (base := base) T
  have H_check_person := ok_check_person (P := P) (w := w) (base := base) T
  have H_check_size := ok_check_size (P := P) (w := w) (base := base) T
  have H_check_kind := ok_check_kind (P := P) (w := w) (base := base) T
  obtain ⟨f, fd, F, hm⟩ := T.d_zigzag_evening
  refine ⟨⟨f, fd, F, hm, ?_⟩, fun _ _ _ _ _ _ _ us hl => match us, hl with | [_, _, _, _], _ => rfl⟩
  refine F.ok sc_zigzag_evening (fun vs H Q E h => ?_) (fun cdv A outer s H vs Q E hr h => ?_)
  · first | (obtain ⟨rfl, _⟩ := h; rfl) | (obtain ⟨_, rfl, _⟩ := h; rfl) | (obtain ⟨_, _, rfl, _⟩ := h; rfl) | (obtain ⟨_, _, _, rfl, _⟩ := h; rfl) | (obtain ⟨_, _, _, _, rfl, _⟩ := h; rfl) | (obtain ⟨_, _, _, _, _, rfl, _⟩ := h; rfl) | (obtain ⟨_, _, _, _, _, _, rfl, _⟩ := h; rfl) | (obtain ⟨_, _, _, _, _, _, _, rfl, _⟩ := h; rfl) | (obtain ⟨_, _, _, _, _, _, _, _, rfl, _⟩ := h; rfl)
  · obtain ⟨r, n, p, m, rfl, hn, h0, h1, h2, h3, h4, q⟩ := h
    have hu := hu_of hr
    refine ⟨_, pss_cons (ps_expr (pe_hd H_check_kind (hr.mono (by decide)) rfl pass0 (pa_cons (pv 0) pa_nil)))
      (pss_cons (ps_expr (pe_hd H_check_size (hr.mono (by decide)) rfl pass0 (pa_cons (pv 0) (pa_cons (pv 1) pa_nil))))
      (pss_cons (ps_expr (pe_hd H_check_person (hr.mono (by decide)) rfl pass0 (pa_cons (pv 1) (pa_cons (pv 2) pa_nil))))
      (pss_cons (ps_expr (pe_hd H_check_person (hr.mono (by decide)) rfl pass0 (pa_cons (pv 1) (pa_cons (pv 3) pa_nil))))
      (pss_cons (ps_if (pt_cmpR op_eq (pv 3) (pv 2) (nomark _)) (pss_one (ps_never))
      (pss_nil))
      (pss_cons (ps_set (i := 4) sc_zigzag_evening.nd rfl (by first | exact .inl rfl | exact .inr rfl) (pe_hd H_round_size (hr.mono (by decide)) rfl pass0 (pa_cons (pv 0) (pa_cons (pv 1) pa_nil))))
      (pss_cons (ps_if (pt_cmpR op_in_tupH (pv 4) (pe_tup (pa_cons (pv 2) (pa_cons (pv 3) pa_nil))) (by rfl)) (pss_one (ps_ret (pe_op op_mod (pe_callB (call_min2 rfl) rfl T.b_min (by decide +kernel) (pa_cons (pv 2) (pa_cons (pv 3) pa_nil))) (pe_hd H_evenings_for (hr.mono (by decide)) rfl pass0 (pa_cons (pv 0) (pa_cons (pv 1) pa_nil))))))
      (pss_nil))
      (pss_one (ps_ret (pe_op op_fdiv (pe_op op_mod (pe_op op_add (pv 2) (pv 3)) (pv 4)) pe_int))))))))), ?_⟩
    simp only [L2.start, List.map_cons, List.map_nil, List.length_cons, List.length_nil, Nat.zero_add, Nat.reduceAdd, Nat.reduceSub, List.replicate_succ, List.replicate_zero, List.cons_append, List.nil_append, List.append_nil, L2.tSeq, L2.tNext, L2.tAsg, L2.gName, L2.tRet, L2.tRetN, L2.tIfS, L2.tVar, L2.tC, L2.tOp, L2.tUn, L2.rI, L2.rI0, L2.rU, L2.rEq, L2.rNe, L2.tTest, L2.tB, L2.tIf, Z.tIfCI, Z.tIfCS, L2.tChain, L2.tCons, L2.tNil, L2.tCall, L2.tDrop, L2.tAndV, L2.tOrV, L2.tNotV, L2.tAnd, L2.tOr, L2.tNot, L2.tCB, Z.sc_ii, Z.sc_ss, Z.sc_bb, Z.sc_is, Z.sc_si, Z.sc_ni, Z.sc_in, Z.sc_ns, Z.sc_sn, Z.sc_nn, L2.CDiv, L2.CPow, L2.CMul, List.getElem?_cons_zero, List.getElem?_cons_succ, Z.set_z, Z.set_s, Option.some.injEq, L2.V.int.injEq, L2.V.bl.injEq, L2.V.str.injEq, L2.V.ref.injEq, L2.V.ty.injEq, List.cons.injEq, exists_eq_left', exists_and_left, exists_eq_left, exists_eq_right, exists_eq_right', exists_eq', exists_eq, true_and, and_true, and_assoc, decide_eq_true_eq, Int.reduceLT, and_self, Z.rIxH, Z.rIxU, Z.at30, Z.at31, Z.at32, Z.ix3_0, Z.ix3_1, Z.ix3_2, L2.rSetL, L2.gSub, Z.gTupH, L2.gCons, L2.gNil, L2.HO.lst.injEq, L2.HO.tup.injEq, L2.upd_same, L2.upd_upd, L2.tSl, L2.tNoPart, L2.tPart, L2.rSlL, L2.rCat, List.length_append, or_false, false_or, or_true, true_or, reduceCtorEq, false_and, and_false, exists_false, Int.reduceNeg, Int.reducePow, Int.reduceToNat, Int.reduceAbs, Int.reduceLE, Int.reduceMul, Int.reduceAdd, Int.reduceSub, Nat.reducePow, Nat.reduceLT, Nat.reduceLeDiff, Int.natAbs_natCast, if_true, if_false, Z.rIsN, Z.tyN, Z.kit_ii, Z.kit_bi, Z.kit_si, Z.kit_ni, Z.kit_ib, Z.kit_bb, Z.kit_sb, Z.kit_nb, Z.kit_is, Z.kit_bs, Z.kit_ss, Z.kit_ns, Bool.not_true, Bool.not_false, L2.tTup, L2.tLst, L2.wipe, L2.tYes, Z.Turn1, L2.tNever, sizeLine_eq, Z.rInU, Z.rInH, L2.flatV, List.any_cons, List.any_nil, List.all_cons, List.all_nil, Bool.and_true, Bool.true_and, Bool.or_false, Bool.false_or, Z.tBML, L2.rAppend, Z.map_int_inj, Z.map_bl_inj, Z.rTupL, Z.rLstL, Z.rLstT, Z.rSortI, Z.rAnyH, Z.rAllH, Z.rSumH, Z.rLenL, Z.rLenU, List.length_map, L2.tPar, Z.tCallK0, List.getD_cons_zero, List.getD_cons_succ, sp_evenings_for, sp_round_size, sp_check_person, sp_check_size, sp_check_kind, kind_eq, kind_inj, L2.inV, L2.eqV]
    intro H' s
    have hz := size_nights hn
    refine ⟨hn, h0, h1, h2, h3, ?_⟩
    rw [if_neg h4]
    intro t ht
    have q' := q _ (same_upd (o := .tup [V.int p, V.int m]) s (s.free ht))
    have e1 : ((p == if r = true then n - 1 else n) || m == if r = true then n - 1 else n) = decide ((if r = true then n - 1 else n) = p ∨ (if r = true then n - 1 else n) = m) := by
      rw [Bool.eq_iff_iff]
      simp only [Bool.or_eq_true, beq_iff_eq, decide_eq_true_eq]
      constructor <;> (intro h; omega)
    rw [e1]
    unfold eveningOf at q'
    by_cases c : (if r = true then n - 1 else n) = p ∨ (if r = true then n - 1 else n) = m
    · rw [if_pos c] at q'
      rw [decide_eq_true c, if_pos rfl]
      exact ⟨hz.2.2.1, q'⟩
    · rw [if_neg c] at q'
      rw [decide_eq_false c, if_neg Bool.false_ne_true]
      exact ⟨by split <;> omega, q'⟩
open Zig
def besideL (r : Bool) (n e p : Int) : List Int := ((spots r n (indexOf r n e p)).map (personAt r n e)).mergeSort
theorem fm_some (f : V → V) : ∀ l : List V, l.filterMap (fun x => some (f x)) = l.map f := fun l => by rw [List.filterMap_eq_map']
def int1 (f : Int → Int) : V → Option V
  | .int i => some (.int (f i))
  | _ => none
theorem fm_int1 (f : Int → Int) : ∀ l : List Int, (l.map V.int).filterMap (int1 f) = (l.map f).map V.int
  | [] => rfl
  | x :: r => by
    rw [List.map_cons, List.filterMap_cons, fm_int1 f r]
    rfl
theorem mem_ints {x : V} {l : List Int} (h : x ∈ l.map V.int) : ∃ i, i ∈ l ∧ x = .int i := by
  obtain ⟨i, hi, e⟩ := List.mem_map.mp h
  exact ⟨i, hi, e.symm⟩
theorem beside_tail {H : Hp} {Q : VK} {t : Addr} {r : Bool} {n e p i : Int} {L : List Int} (hn : 1 < n) (hL : L.length ≤ 2) (h : H t = some (.lst (L.map V.int)))
    (q : ∀ H' l, H l = none → Same H H' → H' l = some (.tup (((L.map (personAt r n e)).mergeSort).map V.int)) → Q (.ref l) H') :
    tLc (iList K (tVar 5)) (gName 6) tYes (tCall sp_person_at [] E0 (tCons (tVar 0) (tCons (tVar 1) (tCons (tVar 2) (tCons (tVar 6) tNil))))) [6]
      [some (V.str (kindS r)), some (V.int n), some (V.int e), some (V.int p), some (V.int i), some (V.ref t), none] H fun x H1 => rSortI [x] H1 fun x H1 => rTupL [x] H1 Q := by
  refine lc_mapL (int1 (personAt r n e)) (fun R h => ⟨_, rfl, h⟩) (SqL.of h) (by rw [List.length_map]; omega) (fun x hx H1 s => ?_) fun D H1 hD s h1 => ?_
  · obtain ⟨j, hj, rfl⟩ := mem_ints hx
    intro Y N hY hN
    simp only [L2.start, List.map_cons, List.map_nil, List.length_cons, List.length_nil, Nat.zero_add, Nat.reduceAdd, Nat.reduceSub, List.replicate_succ, List.replicate_zero, List.cons_append, List.nil_append, List.append_nil, L2.tSeq, L2.tNext, L2.tAsg, L2.gName, L2.tRet, L2.tRetN, L2.tIfS, L2.tVar, L2.tC, L2.tOp, L2.tUn, L2.rI, L2.rI0, L2.rU, L2.rEq, L2.rNe, L2.tTest, L2.tB, L2.tIf, Z.tIfCI, Z.tIfCS, L2.tChain, L2.tCons, L2.tNil, L2.tCall, L2.tDrop, L2.tAndV, L2.tOrV, L2.tNotV, L2.tAnd, L2.tOr, L2.tNot, L2.tCB, Z.sc_ii, Z.sc_ss, Z.sc_bb, Z.sc_is, Z.sc_si, Z.sc_ni, Z.sc_in, Z.sc_ns, Z.sc_sn, Z.sc_nn, L2.CDiv, L2.CPow, L2.CMul, List.getElem?_cons_zero, List.getElem?_cons_succ, Z.set_z, Z.set_s, Option.some.injEq, L2.V.int.injEq, L2.V.bl.injEq, L2.V.str.injEq, L2.V.ref.injEq, L2.V.ty.injEq, List.cons.injEq, exists_eq_left', exists_and_left, exists_eq_left, exists_eq_right, exists_eq_right', exists_eq', exists_eq, true_and, and_true, and_assoc, decide_eq_true_eq, Int.reduceLT, and_self, Z.rIxH, Z.rIxU, Z.at30, Z.at31, Z.at32, Z.ix3_0, Z.ix3_1, Z.ix3_2, L2.rSetL, L2.gSub, Z.gTupH, L2.gCons, L2.gNil, L2.HO.lst.injEq, L2.HO.tup.injEq, L2.upd_same, L2.upd_upd, L2.tSl, L2.tNoPart, L2.tPart, L2.rSlL, L2.rCat, List.length_append, or_false, false_or, or_true, true_or, reduceCtorEq, false_and, and_false, exists_false, Int.reduceNeg, Int.reducePow, Int.reduceToNat, Int.reduceAbs, Int.reduceLE, Int.reduceMul, Int.reduceAdd, Int.reduceSub, Nat.reducePow, Nat.reduceLT, Nat.reduceLeDiff, Int.natAbs_natCast, if_true, if_false, Z.rIsN, Z.tyN, Z.kit_ii, Z.kit_bi, Z.kit_si, Z.kit_ni, Z.kit_ib, Z.kit_bb, Z.kit_sb, Z.kit_nb, Z.kit_is, Z.kit_bs, Z.kit_ss, Z.kit_ns, Bool.not_true, Bool.not_false, L2.tTup, L2.tLst, L2.wipe, L2.tYes, Z.Turn1, L2.tNever, sizeLine_eq, Z.rInU, Z.rInH, L2.flatV, List.any_cons, List.any_nil, List.all_cons, List.all_nil, Bool.and_true, Bool.true_and, Bool.or_false, Bool.false_or, Z.tBML, L2.rAppend, Z.map_int_inj, Z.map_bl_inj, Z.rTupL, Z.rLstL, Z.rLstT, Z.rSortI, Z.rAnyH, Z.rAllH, Z.rSumH, Z.rLenL, Z.rLenU, List.length_map, L2.tPar, Z.tCallK0, List.getD_cons_zero, List.getD_cons_succ, sp_evenings_for, sp_round_size, sp_check_person, sp_check_size, sp_check_kind, sp_person_at, kind_inj]
    exact ⟨hn, hY _ H1 rfl (Same.refl _)⟩
  · rw [fm_int1] at h1
    refine ⟨D, _, rfl, h1, by rw [List.length_map]; omega, fun a ha => ?_⟩
    refine ⟨a, _, rfl, upd_same, fun l hl => ?_⟩
    have s2 := same_upd (o := .lst ((L.map (personAt r n e)).mergeSort.map V.int)) s (s.free ha)
    refine q _ l (s2.free hl) (same_upd s2 (s2.free hl)) ?_
    rw [upd_same]
def sp_zigzag_beside : Sp := fun vs H Q _ => ∃ (r : Bool) (n e p : Int), vs = [.str (kindS r), .int n, .int e, .int p] ∧ isSize r n 1000000000000000000000000000000 = true ∧ 0 ≤ e ∧ e < nights r n ∧ 0 ≤ p ∧ p < n ∧ ∀ H' t, H t = none → Same H H' → H' t = some (.tup ((besideL r n e p).map V.int)) → Q (.ref t) H'
theorem ok_zigzag_beside (T : Env K mg) : Hd P w K mg base CX0 5 "zigzag_beside" s_zigzag_beside ["kind", "n", "evening", "person"] sp_zigzag_beside := by
  have H_person_at := ok_person_at (P := P) (w := w) (base := base) T
  have H_index_of := ok_index_of (P := P) (w := w) (base := base) T
  have H_check_person := ok_check_person (P := P) (w := w) (base := base) T
  have H_check_evening_of := ok_check_evening_of (P := P) (w := w) (base := base) T
  have H_check_size := ok_check_size (P := P) (w := w) (base := base) T
  have H_check_kind := ok_check_kind (P := P) (w := w) (base := base) T
  obtain ⟨f, fd, F, hm⟩ := T.d_zigzag_beside
  refine ⟨⟨f, fd, F, hm, ?_⟩, fun _ _ _ _ _ _ _ us hl => match us, hl with | [_, _, _, _], _ => rfl⟩
  refine F.ok sc_zigzag_beside (fun vs H Q E h => ?_) (fun cdv A outer s H vs Q E hr h => ?_)
  · first | (obtain ⟨rfl, _⟩ := h; rfl) | (obtain ⟨_, rfl, _⟩ := h; rfl) | (obtain ⟨_, _, rfl, _⟩ := h; rfl) | (obtain ⟨_, _, _, rfl, _⟩ := h; rfl) | (obtain ⟨_, _, _, _, rfl, _⟩ := h; rfl) | (obtain ⟨_, _, _, _, _, rfl, _⟩ := h; rfl) | (obtain ⟨_, _, _, _, _, _, rfl, _⟩ := h; rfl) | (obtain ⟨_, _, _, _, _, _, _, rfl, _⟩ := h; rfl) | (obtain ⟨_, _, _, _, _, _, _, _, rfl, _⟩ := h; rfl)
  · obtain ⟨r, n, e, p, rfl, hn, h0, h1, h2, h3, q⟩ := h
    have hu := hu_of hr
    refine ⟨_, pss_cons (ps_expr (pe_hd H_check_kind (hr.mono (by decide)) rfl pass0 (pa_cons (pv 0) pa_nil)))
      (pss_cons (ps_expr (pe_hd H_check_size (hr.mono (by decide)) rfl pass0 (pa_cons (pv 0) (pa_cons (pv 1) pa_nil))))
      (pss_cons (ps_expr (pe_hd H_check_evening_of (hr.mono (by decide)) rfl pass0 (pa_cons (pv 0) (pa_cons (pv 1) (pa_cons (pv 2) pa_nil)))))
      (pss_cons (ps_expr (pe_hd H_check_person (hr.mono (by decide)) rfl pass0 (pa_cons (pv 1) (pa_cons (pv 3) pa_nil))))
      (pss_cons (ps_set (i := 4) sc_zigzag_beside.nd rfl (by first | exact .inl rfl | exact .inr rfl) (pe_hd H_index_of (hr.mono (by decide)) rfl pass0 (pa_cons (pv 0) (pa_cons (pv 1) (pa_cons (pv 2) (pa_cons (pv 3) pa_nil))))))
      (pss_cons (ps_if (pt_cmpR op_eq (pv 0) (pe_glob (v := .str "rings") rfl T.c_RINGS.choose_spec ⟨_, rfl⟩) (nomark _)) (pss_one (ps_set (i := 5) sc_zigzag_beside.nd rfl (by first | exact .inl rfl | exact .inr rfl) (pe_lst (pa_cons (pe_op op_mod (pe_op op_sub (pv 4) pe_int) (pv 1)) (pa_cons (pe_op op_mod (pe_op op_add (pv 4) pe_int) (pv 1)) pa_nil)))))
      (pss_one (ps_setLc (i := 5) (own := [("at", 6)]) (g := (gName 6)) rfl sc_zigzag_beside.nd rfl rfl (sw_true rfl rfl rfl (by decide +kernel)) (pi_tup (pe_tup (pa_cons (pe_op op_sub (pv 4) pe_int) (pa_cons (pe_op op_add (pv 4) pe_int) pa_nil)))) (blkOk_by (own := [("at", 6)]) (N := N_zigzag_beside) (sc := defScope s_zigzag_beside) (by decide +kernel)) (fun _ _ _ _ _ => pg_name (i := 6) sc_zigzag_beside.nd rfl (by first | exact .inl rfl | exact .inr rfl)) (fun _ _ _ _ _ => (pts_one (pt_chain op_le op_lt pe_int (pv 6) (pv 1)))) (fun _ _ _ _ _ => (pv 6)))))
      (pss_one (ps_ret (pe_callTy call_tupleL rfl T.b_tuple (by decide +kernel) (pa_cons (pe_callB cr_sortedH rfl T.b_sorted (by decide +kernel) (pa_cons (pe_lc (own := [("at", 6)]) (g := (gName 6)) (tt := tYes) rfl sc_zigzag_beside.nd (pi_list (pv 5)) (blkOk_by (own := [("at", 6)]) (N := N_zigzag_beside) (sc := defScope s_zigzag_beside) (by decide +kernel)) (fun _ _ _ _ _ => pg_name (i := 6) sc_zigzag_beside.nd rfl (by first | exact .inl rfl | exact .inr rfl)) (fun _ _ _ _ _ => pts_nil) (fun _ _ _ _ _ => (pe_hd H_person_at (hr.mono (by decide)) rfl pass0 (pa_cons (pv 0) (pa_cons (pv 1) (pa_cons (pv 2) (pa_cons (pv 6) pa_nil))))))) pa_nil)) pa_nil))))))))), ?_⟩
    simp only [L2.start, List.map_cons, List.map_nil, List.length_cons, List.length_nil, Nat.zero_add, Nat.reduceAdd, Nat.reduceSub, List.replicate_succ, List.replicate_zero, List.cons_append, List.nil_append, List.append_nil, L2.tSeq, L2.tNext, L2.tAsg, L2.gName, L2.tRet, L2.tRetN, L2.tIfS, L2.tVar, L2.tC, L2.tOp, L2.tUn, L2.rI, L2.rI0, L2.rU, L2.rEq, L2.rNe, L2.tTest, L2.tB, L2.tIf, Z.tIfCI, Z.tIfCS, L2.tChain, L2.tCons, L2.tNil, L2.tCall, L2.tDrop, L2.tAndV, L2.tOrV, L2.tNotV, L2.tAnd, L2.tOr, L2.tNot, L2.tCB, Z.sc_ii, Z.sc_ss, Z.sc_bb, Z.sc_is, Z.sc_si, Z.sc_ni, Z.sc_in, Z.sc_ns, Z.sc_sn, Z.sc_nn, L2.CDiv, L2.CPow, L2.CMul, List.getElem?_cons_zero, List.getElem?_cons_succ, Z.set_z, Z.set_s, Option.some.injEq, L2.V.int.injEq, L2.V.bl.injEq, L2.V.str.injEq, L2.V.ref.injEq, L2.V.ty.injEq, List.cons.injEq, exists_eq_left', exists_and_left, exists_eq_left, exists_eq_right, exists_eq_right', exists_eq', exists_eq, true_and, and_true, and_assoc, decide_eq_true_eq, Int.reduceLT, and_self, Z.rIxH, Z.rIxU, Z.at30, Z.at31, Z.at32, Z.ix3_0, Z.ix3_1, Z.ix3_2, L2.rSetL, L2.gSub, Z.gTupH, L2.gCons, L2.gNil, L2.HO.lst.injEq, L2.HO.tup.injEq, L2.upd_same, L2.upd_upd, L2.tSl, L2.tNoPart, L2.tPart, L2.rSlL, L2.rCat, List.length_append, or_false, false_or, or_true, true_or, reduceCtorEq, false_and, and_false, exists_false, Int.reduceNeg, Int.reducePow, Int.reduceToNat, Int.reduceAbs, Int.reduceLE, Int.reduceMul, Int.reduceAdd, Int.reduceSub, Nat.reducePow, Nat.reduceLT, Nat.reduceLeDiff, Int.natAbs_natCast, if_true, if_false, Z.rIsN, Z.tyN, Z.kit_ii, Z.kit_bi, Z.kit_si, Z.kit_ni, Z.kit_ib, Z.kit_bb, Z.kit_sb, Z.kit_nb, Z.kit_is, Z.kit_bs, Z.kit_ss, Z.kit_ns, Bool.not_true, Bool.not_false, L2.tTup, L2.tLst, L2.wipe, L2.tYes, Z.Turn1, L2.tNever, sizeLine_eq, Z.rInU, Z.rInH, L2.flatV, List.any_cons, List.any_nil, List.all_cons, List.all_nil, Bool.and_true, Bool.true_and, Bool.or_false, Bool.false_or, Z.tBML, L2.rAppend, Z.map_int_inj, Z.map_bl_inj, Z.rLstL, Z.rLstT, Z.rAnyH, Z.rAllH, Z.rSumH, Z.rLenL, Z.rLenU, List.length_map, L2.tPar, Z.tCallK0, List.getD_cons_zero, List.getD_cons_succ, sp_person_at, sp_index_of, sp_check_person, sp_check_evening_of, sp_check_size, sp_check_kind, kind_eq, kind_inj]
    intro H' s
    have hz := size_nights hn
    refine ⟨hn, h0, h1, h2, h3, by omega, ?_⟩
    cases r
    · rw [if_neg Bool.false_ne_true]
      refine lc_mapTn (xs := [.int (indexOf false n e p - 1), .int (indexOf false n e p + 1)]) (fun v => match v with | .int j => if 0 ≤ j ∧ j < n then some (.int j) else none | _ => none) (fun R h => ?_) (by show 2 ≤ 1000; decide) (fun x hx H1 s1 => ?_) fun t H1 ht s1 e1 => ?_
      · simp only [L2.start, List.map_cons, List.map_nil, List.length_cons, List.length_nil, Nat.zero_add, Nat.reduceAdd, Nat.reduceSub, List.replicate_succ, List.replicate_zero, List.cons_append, List.nil_append, List.append_nil, L2.tSeq, L2.tNext, L2.tAsg, L2.gName, L2.tRet, L2.tRetN, L2.tIfS, L2.tVar, L2.tC, L2.tOp, L2.tUn, L2.rI, L2.rI0, L2.rU, L2.rEq, L2.rNe, L2.tTest, L2.tB, L2.tIf, Z.tIfCI, Z.tIfCS, L2.tChain, L2.tCons, L2.tNil, L2.tCall, L2.tDrop, L2.tAndV, L2.tOrV, L2.tNotV, L2.tAnd, L2.tOr, L2.tNot, L2.tCB, Z.sc_ii, Z.sc_ss, Z.sc_bb, Z.sc_is, Z.sc_si, Z.sc_ni, Z.sc_in, Z.sc_ns, Z.sc_sn, Z.sc_nn, L2.CDiv, L2.CPow, L2.CMul, List.getElem?_cons_zero, List.getElem?_cons_succ, Z.set_z, Z.set_s, Option.some.injEq, L2.V.int.injEq, L2.V.bl.injEq, L2.V.str.injEq, L2.V.ref.injEq, L2.V.ty.injEq, List.cons.injEq, exists_eq_left', exists_and_left, exists_eq_left, exists_eq_right, exists_eq_right', exists_eq', exists_eq, true_and, and_true, and_assoc, decide_eq_true_eq, Int.reduceLT, and_self, Z.rIxH, Z.rIxU, Z.at30, Z.at31, Z.at32, Z.ix3_0, Z.ix3_1, Z.ix3_2, L2.rSetL, L2.gSub, Z.gTupH, L2.gCons, L2.gNil, L2.HO.lst.injEq, L2.HO.tup.injEq, L2.upd_same, L2.upd_upd, L2.tSl, L2.tNoPart, L2.tPart, L2.rSlL, L2.rCat, List.length_append, or_false, false_or, or_true, true_or, reduceCtorEq, false_and, and_false, exists_false, Int.reduceNeg, Int.reducePow, Int.reduceToNat, Int.reduceAbs, Int.reduceLE, Int.reduceMul, Int.reduceAdd, Int.reduceSub, Nat.reducePow, Nat.reduceLT, Nat.reduceLeDiff, Int.natAbs_natCast, if_true, if_false, Z.rIsN, Z.tyN, Z.kit_ii, Z.kit_bi, Z.kit_si, Z.kit_ni, Z.kit_ib, Z.kit_bb, Z.kit_sb, Z.kit_nb, Z.kit_is, Z.kit_bs, Z.kit_ss, Z.kit_ns, Bool.not_true, Bool.not_false, L2.tTup, L2.tLst, L2.wipe, L2.tYes, Z.Turn1, L2.tNever, sizeLine_eq, Z.rInU, Z.rInH, L2.flatV, List.any_cons, List.any_nil, List.all_cons, List.all_nil, Bool.and_true, Bool.true_and, Bool.or_false, Bool.false_or, Z.tBML, L2.rAppend, Z.map_int_inj, Z.map_bl_inj, Z.rTupL, Z.rLstL, Z.rLstT, Z.rSortI, Z.rAnyH, Z.rAllH, Z.rSumH, Z.rLenL, Z.rLenU, List.length_map, L2.tPar, Z.tCallK0, List.getD_cons_zero, List.getD_cons_succ, sp_person_at, sp_index_of, sp_check_person, sp_check_evening_of, sp_check_size, sp_check_kind]
        exact h
      · have hx' : x = .int (indexOf false n e p - 1) ∨ x = .int (indexOf false n e p + 1) := by
          simp only [List.mem_cons, List.not_mem_nil, or_false] at hx
          exact hx
        have hj : ∃ j : Int, x = .int j := by
          rcases hx' with rfl | rfl <;> exact ⟨_, rfl⟩
        obtain ⟨j, rfl⟩ := hj
        intro Y N hY hN
        simp only [L2.start, List.map_cons, List.map_nil, List.length_cons, List.length_nil, Nat.zero_add, Nat.reduceAdd, Nat.reduceSub, List.replicate_succ, List.replicate_zero, List.cons_append, List.nil_append, List.append_nil, L2.tSeq, L2.tNext, L2.tAsg, L2.gName, L2.tRet, L2.tRetN, L2.tIfS, L2.tVar, L2.tC, L2.tOp, L2.tUn, L2.rI, L2.rI0, L2.rU, L2.rEq, L2.rNe, L2.tTest, L2.tB, L2.tIf, Z.tIfCI, Z.tIfCS, L2.tChain, L2.tCons, L2.tNil, L2.tCall, L2.tDrop, L2.tAndV, L2.tOrV, L2.tNotV, L2.tAnd, L2.tOr, L2.tNot, L2.tCB, Z.sc_ii, Z.sc_ss, Z.sc_bb, Z.sc_is, Z.sc_si, Z.sc_ni, Z.sc_in, Z.sc_ns, Z.sc_sn, Z.sc_nn, L2.CDiv, L2.CPow, L2.CMul, List.getElem?_cons_zero, List.getElem?_cons_succ, Z.set_z, Z.set_s, Option.some.injEq, L2.V.int.injEq, L2.V.bl.injEq, L2.V.str.injEq, L2.V.ref.injEq, L2.V.ty.injEq, List.cons.injEq, exists_eq_left', exists_and_left, exists_eq_left, exists_eq_right, exists_eq_right', exists_eq', exists_eq, true_and, and_true, and_assoc, decide_eq_true_eq, Int.reduceLT, and_self, Z.rIxH, Z.rIxU, Z.at30, Z.at31, Z.at32, Z.ix3_0, Z.ix3_1, Z.ix3_2, L2.rSetL, L2.gSub, Z.gTupH, L2.gCons, L2.gNil, L2.HO.lst.injEq, L2.HO.tup.injEq, L2.upd_same, L2.upd_upd, L2.tSl, L2.tNoPart, L2.tPart, L2.rSlL, L2.rCat, List.length_append, or_false, false_or, or_true, true_or, reduceCtorEq, false_and, and_false, exists_false, Int.reduceNeg, Int.reducePow, Int.reduceToNat, Int.reduceAbs, Int.reduceLE, Int.reduceMul, Int.reduceAdd, Int.reduceSub, Nat.reducePow, Nat.reduceLT, Nat.reduceLeDiff, Int.natAbs_natCast, if_true, if_false, Z.rIsN, Z.tyN, Z.kit_ii, Z.kit_bi, Z.kit_si, Z.kit_ni, Z.kit_ib, Z.kit_bb, Z.kit_sb, Z.kit_nb, Z.kit_is, Z.kit_bs, Z.kit_ss, Z.kit_ns, Bool.not_true, Bool.not_false, L2.tTup, L2.tLst, L2.wipe, L2.tYes, Z.Turn1, L2.tNever, sizeLine_eq, Z.rInU, Z.rInH, L2.flatV, List.any_cons, List.any_nil, List.all_cons, List.all_nil, Bool.and_true, Bool.true_and, Bool.or_false, Bool.false_or, Z.tBML, L2.rAppend, Z.map_int_inj, Z.map_bl_inj, Z.rTupL, Z.rLstL, Z.rLstT, Z.rSortI, Z.rAnyH, Z.rAllH, Z.rSumH, Z.rLenL, Z.rLenU, List.length_map, L2.tPar, Z.tCallK0, List.getD_cons_zero, List.getD_cons_succ, sp_person_at, sp_index_of, sp_check_person, sp_check_evening_of, sp_check_size, sp_check_kind]
        by_cases c1 : 0 ≤ j
        · rw [if_pos c1]
          by_cases c2 : j < n
          · rw [if_pos c2]
            exact hY _ H1 (if_pos ⟨c1, c2⟩) (Same.refl _)
          · rw [if_neg c2]
            exact hN H1 (if_neg fun z => c2 z.2) (Same.refl _)
        · rw [if_neg c1]
          exact hN H1 (if_neg fun z => c1 z.1) (Same.refl _)
      · have e2 : H1 t = some (.lst ((spots false n (indexOf false n e p)).map V.int)) := by
          rw [e1]
          unfold spots
          simp only [Bool.false_eq_true, if_false, List.filterMap_cons, List.filterMap_nil, List.filter_cons, List.filter_nil, decide_eq_true_eq]
          clear hn hz q e1
          by_cases c1 : 0 ≤ indexOf false n e p - 1 ∧ indexOf false n e p - 1 < n
          · by_cases c2 : 0 ≤ indexOf false n e p + 1 ∧ indexOf false n e p + 1 < n
            · simp only [if_pos c1, if_pos c2, List.map_cons, List.map_nil]
            · simp only [if_pos c1, if_neg c2, List.map_cons, List.map_nil]
          · by_cases c2 : 0 ≤ indexOf false n e p + 1 ∧ indexOf false n e p + 1 < n
            · simp only [if_neg c1, if_pos c2, List.map_cons, List.map_nil]
            · simp only [if_neg c1, if_neg c2, List.map_cons, List.map_nil]
        refine beside_tail (by omega) ?_ e2 fun H2 l hl s2 e3 => ?_
        · unfold spots
          rw [if_neg Bool.false_ne_true]
          exact Nat.le_trans (List.length_filter_le _ _) (Nat.le_refl 2)
        · exact q H2 l ((s.trans s1).free hl) ((s.trans s1).trans s2) e3
    · rw [if_pos rfl]
      refine ⟨by omega, by omega, fun t ht => ?_⟩
      refine beside_tail (L := [(indexOf true n e p - 1) % n, (indexOf true n e p + 1) % n]) (by omega) (Nat.le_refl 2) upd_same fun H2 l hl s2 e2 => ?_
      have s1 : Same H (upd H' t (.lst [V.int ((indexOf true n e p - 1) % n), V.int ((indexOf true n e p + 1) % n)])) := same_upd s (s.free ht)
      exact q H2 l (s1.free hl) (s1.trans s2) e2

open Zig
def sp__law_spring (K : PySem.W.Frag) : Sp := fun vs H Q _ => ∃ (a : Addr) (k : Int) (ns : List Int), vs = [.ref a, .int k] ∧ SqL K H a (ns.map V.int) ∧ ns.length ≤ 63 ∧ 0 ≤ k ∧ k < 1000 ∧ ∀ p H', H p = none → Same H H' → Spring H' p → Q (.ref p) H'
theorem ok__law_spring (T : Env K mg) : Hd P w K mg base CX0 1 "_law_spring" s__law_spring ["_law_cells", "_law_k"] (sp__law_spring K) := by
  obtain ⟨f, fd, F, hm⟩ := T.d__law_spring
  refine ⟨⟨f, fd, F, hm, ?_⟩, fun _ _ _ _ _ _ _ us hl => match us, hl with | [_, _], _ => rfl⟩
  refine F.ok sc__law_spring (fun vs H Q E h => ?_) (fun cdv A outer s H vs Q E hr h => ?_)
  · first | (obtain ⟨rfl, _⟩ := h; rfl) | (obtain ⟨_, rfl, _⟩ := h; rfl) | (obtain ⟨_, _, rfl, _⟩ := h; rfl) | (obtain ⟨_, _, _, rfl, _⟩ := h; rfl) | (obtain ⟨_, _, _, _, rfl, _⟩ := h; rfl) | (obtain ⟨_, _, _, _, _, rfl, _⟩ := h; rfl) | (obtain ⟨_, _, _, _, _, _, rfl, _⟩ := h; rfl) | (obtain ⟨_, _, _, _, _, _, _, rfl, _⟩ := h; rfl) | (obtain ⟨_, _, _, _, _, _, _, _, rfl, _⟩ := h; rfl)
  · obtain ⟨a, k, ns, rfl, hs, hl, hk, hk2, q⟩ := h
    have hu := hu_of hr
    refine ⟨_, pss_cons (ps_set (i := 2) sc__law_spring.nd rfl (by first | exact .inl rfl | exact .inr rfl) (pe_ifExp (pt_cmpR op_lt (pv 1) (pe_callB call_len_seq rfl T.b_len (by decide +kernel) (pa_cons (pv 0) pa_nil)) (nomark _)) (pe_ix ix_list (pv 0) (pv 1) (fun _ _ => rfl)) (pe_op op_add (pe_op op_mul pe_int (pv 1)) pe_int)))
      (pss_cons (ps_set (i := 3) sc__law_spring.nd rfl (by first | exact .inl rfl | exact .inr rfl) (pe_op op_add pe_int (pe_op op_mul pe_int (pv 1))))
      (pss_cons (ps_for PassesOwn.never rfl (pi_list (pe_op op_cat (pe_slice sl_list (pv 0) po_none (po_some pe_int)) (pe_lst (pa_cons (pv 2) pa_nil)))) (pg_name (i := 4) sc__law_spring.nd rfl (by first | exact .inl rfl | exact .inr rfl))
      (pss_one (ps_set (i := 3) sc__law_spring.nd rfl (by first | exact .inl rfl | exact .inr rfl) (pe_op op_mod (pe_callTy call_int1 rfl T.b_int (by decide +kernel) (pa_cons (pe_op op_add (pe_op op_add (pe_op op_mul (pv 3) pe_int) (pe_callTy call_int1 rfl T.b_int (by decide +kernel) (pa_cons (pv 4) pa_nil))) (pe_op op_mul pe_int (pv 1))) pa_nil)) pe_int))))
      (pss_one (ps_ret (pe_lst (pa_cons (pe_ifExp (PW.pt (pw_or (pt_cmpR op_lt (pv 2) pe_int (nomark _)) (pw_or1 (pt_cmpR op_ge (pv 2) (pe_op op_pow pe_int pe_int) (nomark _))))) (pe_callB call_abs rfl T.b_abs (by decide +kernel) (pa_cons (pv 2) pa_nil)) pe_int) (pa_cons (pv 3) (pa_cons pe_int pa_nil)))))))), ?_⟩
    simp only [L2.start, List.map_cons, List.map_nil, List.length_cons, List.length_nil, Nat.zero_add, Nat.reduceAdd, Nat.reduceSub, List.replicate_succ, List.replicate_zero, List.cons_append, List.nil_append, List.append_nil, L2.tSeq, L2.tNext, L2.tAsg, L2.gName, L2.tRet, L2.tRetN, L2.tIfS, L2.tVar, L2.tC, L2.tOp, L2.tUn, L2.rI, L2.rI0, L2.rU, L2.rEq, L2.rNe, L2.tTest, L2.tB, L2.tIf, Z.tIfCI, Z.tIfCS, L2.tChain, L2.tCons, L2.tNil, L2.tCall, L2.tDrop, L2.tAndV, L2.tOrV, L2.tNotV, L2.tAnd, L2.tOr, L2.tNot, L2.tCB, Z.sc_ii, Z.sc_ss, Z.sc_bb, Z.sc_is, Z.sc_si, Z.sc_ni, Z.sc_in, Z.sc_ns, Z.sc_sn, Z.sc_nn, L2.CDiv, L2.CPow, L2.CMul, List.getElem?_cons_zero, List.getElem?_cons_succ, Z.set_z, Z.set_s, Option.some.injEq, L2.V.int.injEq, L2.V.bl.injEq, L2.V.str.injEq, L2.V.ref.injEq, L2.V.ty.injEq, List.cons.injEq, exists_eq_left', exists_and_left, exists_eq_left, exists_eq_right, exists_eq_right', exists_eq', exists_eq, true_and, and_true, and_assoc, decide_eq_true_eq, Int.reduceLT, and_self, Z.rIxH, Z.rIxU, Z.at30, Z.at31, Z.at32, Z.ix3_0, Z.ix3_1, Z.ix3_2, L2.rSetL, L2.gSub, Z.gTupH, L2.gCons, L2.gNil, L2.HO.lst.injEq, L2.HO.tup.injEq, L2.upd_same, L2.upd_upd, L2.tSl, L2.tNoPart, L2.tPart, L2.rSlL, L2.rCat, List.length_append, or_false, false_or, or_true, true_or, reduceCtorEq, false_and, and_false, exists_false, Int.reduceNeg, Int.reducePow, Int.reduceToNat, Int.reduceAbs, Int.reduceLE, Int.reduceMul, Int.reduceAdd, Int.reduceSub, Nat.reducePow, Nat.reduceLT, Nat.reduceLeDiff, Int.natAbs_natCast, if_true, if_false, Z.rIsN, Z.tyN, Z.kit_ii, Z.kit_bi, Z.kit_si, Z.kit_ni, Z.kit_ib, Z.kit_bb, Z.kit_sb, Z.kit_nb, Z.kit_is, Z.kit_bs, Z.kit_ss, Z.kit_ns, Bool.not_true, Bool.not_false, L2.tTup, L2.tLst, L2.wipe, L2.tYes, Z.Turn1, L2.tNever, sizeLine_eq, Z.rInU, Z.rInH, L2.flatV, List.any_cons, List.any_nil, List.all_cons, List.all_nil, Bool.and_true, Bool.true_and, Bool.or_false, Bool.false_or, Z.tBML, L2.rAppend, Z.map_int_inj, Z.map_bl_inj, Z.rTupL, Z.rLstL, Z.rLstT, Z.rSortI, Z.rAnyH, Z.rAllH, Z.rSumH, Z.rLenL, Z.rLenU, List.length_map, L2.tPar, Z.tCallK0, List.getD_cons_zero, List.getD_cons_succ]
    refine ⟨ns.map V.int, .inl hs, ?_⟩
    refine idx_or hs hk fun cell => ?_
    refine for_ints (fun R hR => ?_) (fun σ => ∃ m x, σ = [some (.ref a), some (.int k), some (.int cell), some (.int m), x]) ⟨_, _, rfl⟩ ?_ ?_
    · simp only [L2.start, List.map_cons, List.map_nil, List.length_cons, List.length_nil, Nat.zero_add, Nat.reduceAdd, Nat.reduceSub, List.replicate_succ, List.replicate_zero, List.cons_append, List.nil_append, List.append_nil, L2.tSeq, L2.tNext, L2.tAsg, L2.gName, L2.tRet, L2.tRetN, L2.tIfS, L2.tVar, L2.tC, L2.tOp, L2.tUn, L2.rI, L2.rI0, L2.rU, L2.rEq, L2.rNe, L2.tTest, L2.tB, L2.tIf, Z.tIfCI, Z.tIfCS, L2.tChain, L2.tCons, L2.tNil, L2.tCall, L2.tDrop, L2.tAndV, L2.tOrV, L2.tNotV, L2.tAnd, L2.tOr, L2.tNot, L2.tCB, Z.sc_ii, Z.sc_ss, Z.sc_bb, Z.sc_is, Z.sc_si, Z.sc_ni, Z.sc_in, Z.sc_ns, Z.sc_sn, Z.sc_nn, L2.CDiv, L2.CPow, L2.CMul, List.getElem?_cons_zero, List.getElem?_cons_succ, Z.set_z, Z.set_s, Option.some.injEq, L2.V.int.injEq, L2.V.bl.injEq, L2.V.str.injEq, L2.V.ref.injEq, L2.V.ty.injEq, List.cons.injEq, exists_eq_left', exists_and_left, exists_eq_left, exists_eq_right, exists_eq_right', exists_eq', exists_eq, true_and, and_true, and_assoc, decide_eq_true_eq, Int.reduceLT, and_self, Z.rIxH, Z.rIxU, Z.at30, Z.at31, Z.at32, Z.ix3_0, Z.ix3_1, Z.ix3_2, L2.rSetL, L2.gSub, Z.gTupH, L2.gCons, L2.gNil, L2.HO.lst.injEq, L2.HO.tup.injEq, L2.upd_same, L2.upd_upd, L2.tSl, L2.tNoPart, L2.tPart, L2.rSlL, L2.rCat, List.length_append, or_false, false_or, or_true, true_or, reduceCtorEq, false_and, and_false, exists_false, Int.reduceNeg, Int.reducePow, Int.reduceToNat, Int.reduceAbs, Int.reduceLE, Int.reduceMul, Int.reduceAdd, Int.reduceSub, Nat.reducePow, Nat.reduceLT, Nat.reduceLeDiff, Int.natAbs_natCast, if_true, if_false, Z.rIsN, Z.tyN, Z.kit_ii, Z.kit_bi, Z.kit_si, Z.kit_ni, Z.kit_ib, Z.kit_bb, Z.kit_sb, Z.kit_nb, Z.kit_is, Z.kit_bs, Z.kit_ss, Z.kit_ns, Bool.not_true, Bool.not_false, L2.tTup, L2.tLst, L2.wipe, L2.tYes, Z.Turn1, L2.tNever, sizeLine_eq, Z.rInU, Z.rInH, L2.flatV, List.any_cons, List.any_nil, List.all_cons, List.all_nil, Bool.and_true, Bool.true_and, Bool.or_false, Bool.false_or, Z.tBML, L2.rAppend, Z.map_int_inj, Z.map_bl_inj, Z.rTupL, Z.rLstL, Z.rLstT, Z.rSortI, Z.rAnyH, Z.rAllH, Z.rSumH, Z.rLenL, Z.rLenU, List.length_map, L2.tPar, Z.tCallK0, List.getD_cons_zero, List.getD_cons_succ]
      obtain ⟨ms, em, hm⟩ := cut_ints ns none (some 8)
      refine ⟨_, hs, fun t ht b hb => ?_⟩
      have htb : t ≠ b := ne_of_none (upd_same (H := H) (a := t)) hb
      refine ⟨ms.map V.int, by rw [upd_ne htb, upd_same, em], by rw [List.length_map]; omega, fun z hz => ?_⟩
      have s1 := same_upd (o := .lst [V.int cell]) (same_new (o := .lst (cutV (ns.map V.int) none (some 8))) ht) ((same_new ht).free hb)
      refine hR z _ (ms ++ [cell]) (same_upd s1 (s1.free hz)) ?_
      rw [upd_same, List.map_append]
      rfl
    · rintro x σ H' s ⟨m, y, rfl⟩ N hN
      simp only [L2.start, List.map_cons, List.map_nil, List.length_cons, List.length_nil, Nat.zero_add, Nat.reduceAdd, Nat.reduceSub, List.replicate_succ, List.replicate_zero, List.cons_append, List.nil_append, List.append_nil, L2.tSeq, L2.tNext, L2.tAsg, L2.gName, L2.tRet, L2.tRetN, L2.tIfS, L2.tVar, L2.tC, L2.tOp, L2.tUn, L2.rI, L2.rI0, L2.rU, L2.rEq, L2.rNe, L2.tTest, L2.tB, L2.tIf, Z.tIfCI, Z.tIfCS, L2.tChain, L2.tCons, L2.tNil, L2.tCall, L2.tDrop, L2.tAndV, L2.tOrV, L2.tNotV, L2.tAnd, L2.tOr, L2.tNot, L2.tCB, Z.sc_ii, Z.sc_ss, Z.sc_bb, Z.sc_is, Z.sc_si, Z.sc_ni, Z.sc_in, Z.sc_ns, Z.sc_sn, Z.sc_nn, L2.CDiv, L2.CPow, L2.CMul, List.getElem?_cons_zero, List.getElem?_cons_succ, Z.set_z, Z.set_s, Option.some.injEq, L2.V.int.injEq, L2.V.bl.injEq, L2.V.str.injEq, L2.V.ref.injEq, L2.V.ty.injEq, List.cons.injEq, exists_eq_left', exists_and_left, exists_eq_left, exists_eq_right, exists_eq_right', exists_eq', exists_eq, true_and, and_true, and_assoc, decide_eq_true_eq, Int.reduceLT, and_self, Z.rIxH, Z.rIxU, Z.at30, Z.at31, Z.at32, Z.ix3_0, Z.ix3_1, Z.ix3_2, L2.rSetL, L2.gSub, Z.gTupH, L2.gCons, L2.gNil, L2.HO.lst.injEq, L2.HO.tup.injEq, L2.upd_same, L2.upd_upd, L2.tSl, L2.tNoPart, L2.tPart, L2.rSlL, L2.rCat, List.length_append, or_false, false_or, or_true, true_or, reduceCtorEq, false_and, and_false, exists_false, Int.reduceNeg, Int.reducePow, Int.reduceToNat, Int.reduceAbs, Int.reduceLE, Int.reduceMul, Int.reduceAdd, Int.reduceSub, Nat.reducePow, Nat.reduceLT, Nat.reduceLeDiff, Int.natAbs_natCast, if_true, if_false, Z.rIsN, Z.tyN, Z.kit_ii, Z.kit_bi, Z.kit_si, Z.kit_ni, Z.kit_ib, Z.kit_bb, Z.kit_sb, Z.kit_nb, Z.kit_is, Z.kit_bs, Z.kit_ss, Z.kit_ns, Bool.not_true, Bool.not_false, L2.tTup, L2.tLst, L2.wipe, L2.tYes, Z.Turn1, L2.tNever, sizeLine_eq, Z.rInU, Z.rInH, L2.flatV, List.any_cons, List.any_nil, List.all_cons, List.all_nil, Bool.and_true, Bool.true_and, Bool.or_false, Bool.false_or, Z.tBML, L2.rAppend, Z.map_int_inj, Z.map_bl_inj, Z.rTupL, Z.rLstL, Z.rLstT, Z.rSortI, Z.rAnyH, Z.rAllH, Z.rSumH, Z.rLenL, Z.rLenU, List.length_map, L2.tPar, Z.tCallK0, List.getD_cons_zero, List.getD_cons_succ]
      exact hN _ ⟨_, _, rfl⟩
    · rintro σ H' s ⟨m, y, rfl⟩
      simp only [L2.start, List.map_cons, List.map_nil, List.length_cons, List.length_nil, Nat.zero_add, Nat.reduceAdd, Nat.reduceSub, List.replicate_succ, List.replicate_zero, List.cons_append, List.nil_append, List.append_nil, L2.tSeq, L2.tNext, L2.tAsg, L2.gName, L2.tRet, L2.tRetN, L2.tIfS, L2.tVar, L2.tC, L2.tOp, L2.tUn, L2.rI, L2.rI0, L2.rU, L2.rEq, L2.rNe, L2.tTest, L2.tB, L2.tIf, Z.tIfCI, Z.tIfCS, L2.tChain, L2.tCons, L2.tNil, L2.tCall, L2.tDrop, L2.tAndV, L2.tOrV, L2.tNotV, L2.tAnd, L2.tOr, L2.tNot, L2.tCB, Z.sc_ii, Z.sc_ss, Z.sc_bb, Z.sc_is, Z.sc_si, Z.sc_ni, Z.sc_in, Z.sc_ns, Z.sc_sn, Z.sc_nn, L2.CDiv, L2.CPow, L2.CMul, List.getElem?_cons_zero, List.getElem?_cons_succ, Z.set_z, Z.set_s, Option.some.injEq, L2.V.int.injEq, L2.V.bl.injEq, L2.V.str.injEq, L2.V.ref.injEq, L2.V.ty.injEq, List.cons.injEq, exists_eq_left', exists_and_left, exists_eq_left, exists_eq_right, exists_eq_right', exists_eq', exists_eq, true_and, and_true, and_assoc, decide_eq_true_eq, Int.reduceLT, and_self, Z.rIxH, Z.rIxU, Z.at30, Z.at31, Z.at32, Z.ix3_0, Z.ix3_1, Z.ix3_2, L2.rSetL, L2.gSub, Z.gTupH, L2.gCons, L2.gNil, L2.HO.lst.injEq, L2.HO.tup.injEq, L2.upd_same, L2.upd_upd, L2.tSl, L2.tNoPart, L2.tPart, L2.rSlL, L2.rCat, List.length_append, or_false, false_or, or_true, true_or, reduceCtorEq, false_and, and_false, exists_false, Int.reduceNeg, Int.reducePow, Int.reduceToNat, Int.reduceAbs, Int.reduceLE, Int.reduceMul, Int.reduceAdd, Int.reduceSub, Nat.reducePow, Nat.reduceLT, Nat.reduceLeDiff, Int.natAbs_natCast, if_true, if_false, Z.rIsN, Z.tyN, Z.kit_ii, Z.kit_bi, Z.kit_si, Z.kit_ni, Z.kit_ib, Z.kit_bb, Z.kit_sb, Z.kit_nb, Z.kit_is, Z.kit_bs, Z.kit_ss, Z.kit_ns, Bool.not_true, Bool.not_false, L2.tTup, L2.tLst, L2.wipe, L2.tYes, Z.Turn1, L2.tNever, sizeLine_eq, Z.rInU, Z.rInH, L2.flatV, List.any_cons, List.any_nil, List.all_cons, List.all_nil, Bool.and_true, Bool.true_and, Bool.or_false, Bool.false_or, Z.tBML, L2.rAppend, Z.map_int_inj, Z.map_bl_inj, Z.rTupL, Z.rLstL, Z.rLstT, Z.rSortI, Z.rAnyH, Z.rAllH, Z.rSumH, Z.rLenL, Z.rLenU, List.length_map, L2.tPar, Z.tCallK0, List.getD_cons_zero, List.getD_cons_succ]
      have fin : ∀ z : Int, ∀ p : Addr, H' p = none → Q (.ref p) (upd H' p (.lst [.int z, .int m, .int 0])) := fun z p hp =>
        q p _ (s.free hp) (same_upd s (s.free hp)) ⟨z, m, 0, upd_same⟩
      repeat' split
      all_goals exact fun p hp => fin _ p hp
def sp__law_draw : Sp := fun vs H Q _ => ∃ (p : Addr) (n : Int), vs = [.ref p, .int n] ∧ Spring H p ∧ 0 < n ∧ n < 1073741824 ∧ ∀ d H', Kp p H H' → 0 ≤ d → d < n → Q (.int d) H'
theorem ok__law_draw (T : Env K mg) : Hd P w K mg base CX0 1 "_law_draw" s__law_draw ["_law_spring_here", "_law_size"] sp__law_draw := by
  obtain ⟨f, fd, F, hm⟩ := T.d__law_draw
  refine ⟨⟨f, fd, F, hm, ?_⟩, fun _ _ _ _ _ _ _ us hl => match us, hl with | [_, _], _ => rfl⟩
  refine F.ok sc__law_draw (fun vs H Q E h => ?_) (fun cdv A outer s H vs Q E hr h => ?_)
  · first | (obtain ⟨rfl, _⟩ := h; rfl) | (obtain ⟨_, rfl, _⟩ := h; rfl) | (obtain ⟨_, _, rfl, _⟩ := h; rfl) | (obtain ⟨_, _, _, rfl, _⟩ := h; rfl) | (obtain ⟨_, _, _, _, rfl, _⟩ := h; rfl) | (obtain ⟨_, _, _, _, _, rfl, _⟩ := h; rfl) | (obtain ⟨_, _, _, _, _, _, rfl, _⟩ := h; rfl) | (obtain ⟨_, _, _, _, _, _, _, rfl, _⟩ := h; rfl) | (obtain ⟨_, _, _, _, _, _, _, _, rfl, _⟩ := h; rfl)
  · obtain ⟨p, n, rfl, ⟨a, b, c, hp⟩, hn, hn2, q⟩ := h
    have hu := hu_of hr
    refine ⟨_, pss_cons (ps_asg (pe_op op_add (pe_ix ix_listH (pv 0) pe_int (fun _ _ => rfl)) pe_int) (pg_sub (pv 0) pe_int set_list))
      (pss_cons (ps_asg (pe_op op_mod (pe_callTy call_int1 rfl T.b_int (by decide +kernel) (pa_cons (pe_op op_add (pe_op op_add (pe_op op_mul (pe_ix ix_listH (pv 0) pe_int (fun _ _ => rfl)) pe_int) (pe_op op_mul pe_int (pe_ix ix_listH (pv 0) pe_int (fun _ _ => rfl)))) pe_int) pa_nil)) pe_int) (pg_sub (pv 0) pe_int set_list))
      (pss_cons (ps_if (pt_cmpR op_gt (pe_ix ix_listH (pv 0) pe_int (fun _ _ => rfl)) pe_int (nomark _)) (pss_cons (ps_asg (pe_callB call_divmod rfl T.b_divmod (by decide +kernel) (pa_cons (pe_ix ix_listH (pv 0) pe_int (fun _ _ => rfl)) (pa_cons (pv 1) pa_nil))) (pg_tupH (n := 2) rfl (pgs_cons (pg_sub (pv 0) pe_int set_list) (pgs_cons (pg_name (i := 2) sc__law_draw.nd rfl (by first | exact .inl rfl | exact .inr rfl)) pgs_nil))))
      (pss_one (ps_ret (pv 2))))
      (pss_nil))
      (pss_cons (ps_set (i := 3) sc__law_draw.nd rfl (by first | exact .inl rfl | exact .inr rfl) (pe_op op_add (pe_ix ix_listH (pv 0) pe_int (fun _ _ => rfl)) pe_int))
      (pss_cons (ps_set (i := 4) sc__law_draw.nd rfl (by first | exact .inl rfl | exact .inr rfl) (pe_op op_mod (pe_callTy call_int1 rfl T.b_int (by decide +kernel) (pa_cons (pe_op op_add (pe_op op_mul (pv 3) (pe_ix ix_listH (pv 0) pe_int (fun _ _ => rfl))) (pe_ix ix_listH (pv 0) pe_int (fun _ _ => rfl))) pa_nil)) pe_int))
      (pss_one (ps_ret (pe_op op_mod (pe_callTy call_int1 rfl T.b_int (by decide +kernel) (pa_cons (pe_op op_fdiv (pv 4) pe_int) pa_nil)) (pv 1)))))))), ?_⟩
    simp only [L2.start, List.map_cons, List.map_nil, List.length_cons, List.length_nil, Nat.zero_add, Nat.reduceAdd, Nat.reduceSub, List.replicate_succ, List.replicate_zero, List.cons_append, List.nil_append, List.append_nil, L2.tSeq, L2.tNext, L2.tAsg, L2.gName, L2.tRet, L2.tRetN, L2.tIfS, L2.tVar, L2.tC, L2.tOp, L2.tUn, L2.rI, L2.rI0, L2.rU, L2.rEq, L2.rNe, L2.tTest, L2.tB, L2.tIf, Z.tIfCI, Z.tIfCS, L2.tChain, L2.tCons, L2.tNil, L2.tCall, L2.tDrop, L2.tAndV, L2.tOrV, L2.tNotV, L2.tAnd, L2.tOr, L2.tNot, L2.tCB, Z.sc_ii, Z.sc_ss, Z.sc_bb, Z.sc_is, Z.sc_si, Z.sc_ni, Z.sc_in, Z.sc_ns, Z.sc_sn, Z.sc_nn, L2.CDiv, L2.CPow, L2.CMul, List.getElem?_cons_zero, List.getElem?_cons_succ, Z.set_z, Z.set_s, Option.some.injEq, L2.V.int.injEq, L2.V.bl.injEq, L2.V.str.injEq, L2.V.ref.injEq, L2.V.ty.injEq, List.cons.injEq, exists_eq_left', exists_and_left, exists_eq_left, exists_eq_right, exists_eq_right', exists_eq', exists_eq, true_and, and_true, and_assoc, decide_eq_true_eq, Int.reduceLT, and_self, Z.rIxH, Z.rIxU, Z.at30, Z.at31, Z.at32, Z.ix3_0, Z.ix3_1, Z.ix3_2, L2.rSetL, L2.gSub, Z.gTupH, L2.gCons, L2.gNil, L2.HO.lst.injEq, L2.HO.tup.injEq, L2.upd_same, L2.upd_upd, L2.tSl, L2.tNoPart, L2.tPart, L2.rSlL, L2.rCat, List.length_append, or_false, false_or, or_true, true_or, reduceCtorEq, false_and, and_false, exists_false, Int.reduceNeg, Int.reducePow, Int.reduceToNat, Int.reduceAbs, Int.reduceLE, Int.reduceMul, Int.reduceAdd, Int.reduceSub, Nat.reducePow, Nat.reduceLT, Nat.reduceLeDiff, Int.natAbs_natCast, if_true, if_false, Z.rIsN, Z.tyN, Z.kit_ii, Z.kit_bi, Z.kit_si, Z.kit_ni, Z.kit_ib, Z.kit_bb, Z.kit_sb, Z.kit_nb, Z.kit_is, Z.kit_bs, Z.kit_ss, Z.kit_ns, Bool.not_true, Bool.not_false, L2.tTup, L2.tLst, L2.wipe, L2.tYes, Z.Turn1, L2.tNever, sizeLine_eq, Z.rInU, Z.rInH, L2.flatV, List.any_cons, List.any_nil, List.all_cons, List.all_nil, Bool.and_true, Bool.true_and, Bool.or_false, Bool.false_or, Z.tBML, L2.rAppend, Z.map_int_inj, Z.map_bl_inj, Z.rTupL, Z.rLstL, Z.rLstT, Z.rSortI, Z.rAnyH, Z.rAllH, Z.rSumH, Z.rLenL, Z.rLenU, List.length_map, L2.tPar, Z.tCallK0, List.getD_cons_zero, List.getD_cons_succ, hp]
    have kp1 : ∀ x y z : Int, Kp p H (upd H p (.lst [.int x, .int y, .int z])) := fun x y z => ⟨⟨x, y, z, upd_same⟩, fun b o nb e => by rw [upd_ne nb]; exact e⟩
    split
    · refine ⟨hn, hn2, fun t ht => ?_⟩
      have hpt : p ≠ t := ne_of_none (upd_same (H := H) (a := p)) ht
      refine ⟨_, by rw [upd_ne hpt, upd_same], 0, rfl, ?_⟩
      refine q _ _ ⟨⟨_, _, _, upd_same⟩, fun u o nu e => ?_⟩ (Int.emod_nonneg _ (by omega)) (Int.emod_lt_of_pos _ hn)
      have e2 : (upd H p (.lst [.int a, .int ((b * 69621 + 40503 * (c + 1) + 1) % 2147483647), .int (c + 1)])) u = some o := by rw [upd_ne nu]; exact e
      rw [upd_ne nu, upd_ne (ne_of_none e2 ht), e2]
    · exact ⟨by omega, hn, q _ _ (kp1 _ _ _) (Int.emod_nonneg _ (by omega)) (Int.emod_lt_of_pos _ hn)⟩
def sp__law_of : Sp := fun vs H Q _ => ∃ (p m : Addr) (xs : List V), vs = [.ref p, .ref m] ∧ Spring H p ∧ H m = some (.lst xs) ∧ m ≠ p ∧ 0 < xs.length ∧ xs.length < 1000 ∧ ∀ v H', Kp p H H' → v ∈ xs → Q v H'
theorem ok__law_of (T : Env K mg) : Hd P w K mg base CX0 2 "_law_of" s__law_of ["_law_spring_here", "_law_menu"] sp__law_of := by
  have H__law_draw := ok__law_draw (P := P) (w := w) (base := base) T
  obtain ⟨f, fd, F, hm⟩ := T.d__law_of
  refine ⟨⟨f, fd, F, hm, ?_⟩, fun _ _ _ _ _ _ _ us hl => match us, hl with | [_, _], _ => rfl⟩
  refine F.ok sc__law_of (fun vs H Q E h => ?_) (fun cdv A outer s H vs Q E hr h => ?_)
  · first | (obtain ⟨rfl, _⟩ := h; rfl) | (obtain ⟨_, rfl, _⟩ := h; rfl) | (obtain ⟨_, _, rfl, _⟩ := h; rfl) | (obtain ⟨_, _, _, rfl, _⟩ := h; rfl) | (obtain ⟨_, _, _, _, rfl, _⟩ := h; rfl) | (obtain ⟨_, _, _, _, _, rfl, _⟩ := h; rfl) | (obtain ⟨_, _, _, _, _, _, rfl, _⟩ := h; rfl) | (obtain ⟨_, _, _, _, _, _, _, rfl, _⟩ := h; rfl) | (obtain ⟨_, _, _, _, _, _, _, _, rfl, _⟩ := h; rfl)
  · obtain ⟨p, m, xs, rfl, hp, hm, hne, h0, h1, q⟩ := h
    have hu := hu_of hr
    refine ⟨_, pss_one (ps_ret (pe_ix ix_listH (pv 1) (pe_hd H__law_draw (hr.mono (by decide)) rfl pass0 (pa_cons (pv 0) (pa_cons (pe_callB call_lenL rfl T.b_len (by decide +kernel) (pa_cons (pv 1) pa_nil)) pa_nil))) (fun _ _ => rfl))), ?_⟩
    simp only [L2.start, List.map_cons, List.map_nil, List.length_cons, List.length_nil, Nat.zero_add, Nat.reduceAdd, Nat.reduceSub, List.replicate_succ, List.replicate_zero, List.cons_append, List.nil_append, List.append_nil, L2.tSeq, L2.tNext, L2.tAsg, L2.gName, L2.tRet, L2.tRetN, L2.tIfS, L2.tVar, L2.tC, L2.tOp, L2.tUn, L2.rI, L2.rI0, L2.rU, L2.rEq, L2.rNe, L2.tTest, L2.tB, L2.tIf, Z.tIfCI, Z.tIfCS, L2.tChain, L2.tCons, L2.tNil, L2.tCall, L2.tDrop, L2.tAndV, L2.tOrV, L2.tNotV, L2.tAnd, L2.tOr, L2.tNot, L2.tCB, Z.sc_ii, Z.sc_ss, Z.sc_bb, Z.sc_is, Z.sc_si, Z.sc_ni, Z.sc_in, Z.sc_ns, Z.sc_sn, Z.sc_nn, L2.CDiv, L2.CPow, L2.CMul, List.getElem?_cons_zero, List.getElem?_cons_succ, Z.set_z, Z.set_s, Option.some.injEq, L2.V.int.injEq, L2.V.bl.injEq, L2.V.str.injEq, L2.V.ref.injEq, L2.V.ty.injEq, List.cons.injEq, exists_eq_left', exists_and_left, exists_eq_left, exists_eq_right, exists_eq_right', exists_eq', exists_eq, true_and, and_true, and_assoc, decide_eq_true_eq, Int.reduceLT, and_self, Z.rIxH, Z.rIxU, Z.at30, Z.at31, Z.at32, Z.ix3_0, Z.ix3_1, Z.ix3_2, L2.rSetL, L2.gSub, Z.gTupH, L2.gCons, L2.gNil, L2.HO.lst.injEq, L2.HO.tup.injEq, L2.upd_same, L2.upd_upd, L2.tSl, L2.tNoPart, L2.tPart, L2.rSlL, L2.rCat, List.length_append, or_false, false_or, or_true, true_or, reduceCtorEq, false_and, and_false, exists_false, Int.reduceNeg, Int.reducePow, Int.reduceToNat, Int.reduceAbs, Int.reduceLE, Int.reduceMul, Int.reduceAdd, Int.reduceSub, Nat.reducePow, Nat.reduceLT, Nat.reduceLeDiff, Int.natAbs_natCast, if_true, if_false, Z.rIsN, Z.tyN, Z.kit_ii, Z.kit_bi, Z.kit_si, Z.kit_ni, Z.kit_ib, Z.kit_bb, Z.kit_sb, Z.kit_nb, Z.kit_is, Z.kit_bs, Z.kit_ss, Z.kit_ns, Bool.not_true, Bool.not_false, L2.tTup, L2.tLst, L2.wipe, L2.tYes, Z.Turn1, L2.tNever, sizeLine_eq, Z.rInU, Z.rInH, L2.flatV, List.any_cons, List.any_nil, List.all_cons, List.all_nil, Bool.and_true, Bool.true_and, Bool.or_false, Bool.false_or, Z.tBML, L2.rAppend, Z.map_int_inj, Z.map_bl_inj, Z.rTupL, Z.rLstL, Z.rLstT, Z.rSortI, Z.rAnyH, Z.rAllH, Z.rSumH, Z.rLenL, Z.rLenU, List.length_map, L2.tPar, Z.tCallK0, List.getD_cons_zero, List.getD_cons_succ, sp__law_draw, hm]
    refine ⟨hp, by omega, by omega, fun d H' kp h2 h3 => ⟨xs, kp.keep _ _ hne hm, ?_⟩⟩
    obtain ⟨j, rfl⟩ : ∃ j : Nat, d = j := ⟨d.toNat, by omega⟩
    have hj : j < xs.length := by omega
    exact ⟨xs[j], atI_nat (List.getElem?_eq_getElem hj), q _ _ kp (List.getElem_mem hj)⟩

open Zig
def sp__law_nights : Sp := fun vs H Q _ => ∃ (r : Bool) (n : Int), vs = [.str (kindS r), .int n] ∧ Q (.int (nights r n)) H
theorem ok__law_nights (T : Env K mg) : Hd P w K mg base CX0 1 "_law_nights" s__law_nights ["_law_sort_now", "_law_size"] sp__law_nights := by
  obtain ⟨f, fd, F, hm⟩ := T.d__law_nights
  refine ⟨⟨f, fd, F, hm, ?_⟩, fun _ _ _ _ _ _ _ us hl => match us, hl with | [_, _], _ => rfl⟩
  refine F.ok sc__law_nights (fun vs H Q E h => ?_) (fun cdv A outer s H vs Q E hr h => ?_)
  · first | (obtain ⟨rfl, _⟩ := h; rfl) | (obtain ⟨_, rfl, _⟩ := h; rfl) | (obtain ⟨_, _, rfl, _⟩ := h; rfl) | (obtain ⟨_, _, _, rfl, _⟩ := h; rfl) | (obtain ⟨_, _, _, _, rfl, _⟩ := h; rfl) | (obtain ⟨_, _, _, _, _, rfl, _⟩ := h; rfl) | (obtain ⟨_, _, _, _, _, _, rfl, _⟩ := h; rfl) | (obtain ⟨_, _, _, _, _, _, _, rfl, _⟩ := h; rfl) | (obtain ⟨_, _, _, _, _, _, _, _, rfl, _⟩ := h; rfl)
  · obtain ⟨r, n, rfl, q⟩ := h
    have hu := hu_of hr
    refine ⟨_, pss_one (ps_ret (pe_ifExp (pt_cmpR op_eq (pv 0) pe_str (nomark _)) (pe_op op_fdiv (pe_op op_sub (pv 1) pe_int) pe_int) (pe_op op_fdiv (pv 1) pe_int))), ?_⟩
    simp only [L2.start, List.map_cons, List.map_nil, List.length_cons, List.length_nil, Nat.zero_add, Nat.reduceAdd, Nat.reduceSub, List.replicate_succ, List.replicate_zero, List.cons_append, List.nil_append, List.append_nil, L2.tSeq, L2.tNext, L2.tAsg, L2.gName, L2.tRet, L2.tRetN, L2.tIfS, L2.tVar, L2.tC, L2.tOp, L2.tUn, L2.rI, L2.rI0, L2.rU, L2.rEq, L2.rNe, L2.tTest, L2.tB, L2.tIf, Z.tIfCI, Z.tIfCS, L2.tChain, L2.tCons, L2.tNil, L2.tCall, L2.tDrop, L2.tAndV, L2.tOrV, L2.tNotV, L2.tAnd, L2.tOr, L2.tNot, L2.tCB, Z.sc_ii, Z.sc_ss, Z.sc_bb, Z.sc_is, Z.sc_si, Z.sc_ni, Z.sc_in, Z.sc_ns, Z.sc_sn, Z.sc_nn, L2.CDiv, L2.CPow, L2.CMul, List.getElem?_cons_zero, List.getElem?_cons_succ, Z.set_z, Z.set_s, Option.some.injEq, L2.V.int.injEq, L2.V.bl.injEq, L2.V.str.injEq, L2.V.ref.injEq, L2.V.ty.injEq, List.cons.injEq, exists_eq_left', exists_and_left, exists_eq_left, exists_eq_right, exists_eq_right', exists_eq', exists_eq, true_and, and_true, and_assoc, decide_eq_true_eq, Int.reduceLT, and_self, Z.rIxH, Z.rIxU, Z.at30, Z.at31, Z.at32, Z.ix3_0, Z.ix3_1, Z.ix3_2, L2.rSetL, L2.gSub, Z.gTupH, L2.gCons, L2.gNil, L2.HO.lst.injEq, L2.HO.tup.injEq, L2.upd_same, L2.upd_upd, L2.tSl, L2.tNoPart, L2.tPart, L2.rSlL, L2.rCat, List.length_append, or_false, false_or, or_true, true_or, reduceCtorEq, false_and, and_false, exists_false, Int.reduceNeg, Int.reducePow, Int.reduceToNat, Int.reduceAbs, Int.reduceLE, Int.reduceMul, Int.reduceAdd, Int.reduceSub, Nat.reducePow, Nat.reduceLT, Nat.reduceLeDiff, Int.natAbs_natCast, if_true, if_false, Z.rIsN, Z.tyN, Z.kit_ii, Z.kit_bi, Z.kit_si, Z.kit_ni, Z.kit_ib, Z.kit_bb, Z.kit_sb, Z.kit_nb, Z.kit_is, Z.kit_bs, Z.kit_ss, Z.kit_ns, Bool.not_true, Bool.not_false, L2.tTup, L2.tLst, L2.wipe, L2.tYes, Z.Turn1, L2.tNever, sizeLine_eq, Z.rInU, Z.rInH, L2.flatV, List.any_cons, List.any_nil, List.all_cons, List.all_nil, Bool.and_true, Bool.true_and, Bool.or_false, Bool.false_or, Z.tBML, L2.rAppend, Z.map_int_inj, Z.map_bl_inj, Z.rTupL, Z.rLstL, Z.rLstT, Z.rSortI, Z.rAnyH, Z.rAllH, Z.rSumH, Z.rLenL, Z.rLenU, List.length_map, L2.tPar, Z.tCallK0, List.getD_cons_zero, List.getD_cons_succ, kind_eq]
    unfold nights at q
    split <;> simp_all
def sp__law_number : Sp := fun vs H Q _ => ∃ (p : Addr) (n : Int), vs = [.ref p, .int n] ∧ Spring H p ∧ 0 < n ∧ ∀ d H', Kp p H H' → 0 ≤ d → d < n → Q (.int d) H'
theorem ok__law_number (T : Env K mg) : Hd P w K mg base CX0 2 "_law_number" s__law_number ["_law_spring_here", "_law_top"] sp__law_number := by
  have H__law_draw := ok__law_draw (P := P) (w := w) (base := base) T
  obtain ⟨f, fd, F, hm⟩ := T.d__law_number
  refine ⟨⟨f, fd, F, hm, ?_⟩, fun _ _ _ _ _ _ _ us hl => match us, hl with | [_, _], _ => rfl⟩
  refine F.ok sc__law_number (fun vs H Q E h => ?_) (fun cdv A outer s H vs Q E hr h => ?_)
  · first | (obtain ⟨rfl, _⟩ := h; rfl) | (obtain ⟨_, rfl, _⟩ := h; rfl) | (obtain ⟨_, _, rfl, _⟩ := h; rfl) | (obtain ⟨_, _, _, rfl, _⟩ := h; rfl) | (obtain ⟨_, _, _, _, rfl, _⟩ := h; rfl) | (obtain ⟨_, _, _, _, _, rfl, _⟩ := h; rfl) | (obtain ⟨_, _, _, _, _, _, rfl, _⟩ := h; rfl) | (obtain ⟨_, _, _, _, _, _, _, rfl, _⟩ := h; rfl) | (obtain ⟨_, _, _, _, _, _, _, _, rfl, _⟩ := h; rfl)
  · obtain ⟨p, n, rfl, hp, hn, q⟩ := h
    have hu := hu_of hr
    refine ⟨_, pss_cons (ps_par (i := 2) (j := 3) rfl sc__law_number.nd rfl rfl (by decide) rfl rfl (pa_cons (pe_hd H__law_draw (hr.mono (by decide)) rfl pass0 (pa_cons (pv 0) (pa_cons pe_int pa_nil))) (pa_cons pe_int pa_nil)) (by rfl))
      (pss_cons (ps_if (pt_cmpR op_eq (pv 2) pe_int (nomark _)) (pss_one (ps_ret (pe_callB (call_min2 rfl) rfl T.b_min (by decide +kernel) (pa_cons (pe_hd H__law_draw (hr.mono (by decide)) rfl pass0 (pa_cons (pv 0) (pa_cons pe_int pa_nil))) (pa_cons (pe_op op_sub (pv 1) pe_int) pa_nil)))))
      (pss_nil))
      (pss_cons (ps_if (pt_cmpR op_eq (pv 2) pe_int (nomark _)) (pss_one (ps_ret (pe_callB (call_max2 rfl) rfl T.b_max (by decide +kernel) (pa_cons pe_int (pa_cons (pe_op op_sub (pe_op op_sub (pv 1) pe_int) (pe_hd H__law_draw (hr.mono (by decide)) rfl pass0 (pa_cons (pv 0) (pa_cons pe_int pa_nil)))) pa_nil)))))
      (pss_nil))
      (pss_cons (ps_for PassesOwn.never rfl (pi_range1 rfl T.b_range (pa_cons pe_int pa_nil)) (pg_name (i := 4) sc__law_number.nd rfl (by first | exact .inl rfl | exact .inr rfl))
      (pss_one (ps_set (i := 3) sc__law_number.nd rfl (by first | exact .inl rfl | exact .inr rfl) (pe_op op_add (pe_op op_mul (pv 3) (pe_op op_pow pe_int pe_int)) (pe_hd H__law_draw (hr.mono (by decide)) rfl pass0 (pa_cons (pv 0) (pa_cons (pe_op op_pow pe_int pe_int) pa_nil)))))))
      (pss_one (ps_ret (pe_op op_mod (pe_callTy call_int1 rfl T.b_int (by decide +kernel) (pa_cons (pv 3) pa_nil)) (pv 1))))))), ?_⟩
    simp only [L2.start, List.map_cons, List.map_nil, List.length_cons, List.length_nil, Nat.zero_add, Nat.reduceAdd, Nat.reduceSub, List.replicate_succ, List.replicate_zero, List.cons_append, List.nil_append, List.append_nil, L2.tNext, L2.tAsg, L2.gName, L2.tRet, L2.tRetN, L2.tIfS, L2.tVar, L2.tC, L2.tOp, L2.tUn, L2.rI, L2.rI0, L2.rU, L2.rEq, L2.rNe, L2.tTest, L2.tB, L2.tIf, Z.tIfCI, Z.tIfCS, L2.tChain, L2.tCons, L2.tNil, L2.tCall, L2.tDrop, L2.tAndV, L2.tOrV, L2.tNotV, L2.tAnd, L2.tOr, L2.tNot, L2.tCB, Z.sc_ii, Z.sc_ss, Z.sc_bb, Z.sc_is, Z.sc_si, Z.sc_ni, Z.sc_in, Z.sc_ns, Z.sc_sn, Z.sc_nn, L2.CDiv, L2.CPow, L2.CMul, List.getElem?_cons_zero, List.getElem?_cons_succ, Z.set_z, Z.set_s, Option.some.injEq, L2.V.int.injEq, L2.V.bl.injEq, L2.V.str.injEq, L2.V.ref.injEq, L2.V.ty.injEq, List.cons.injEq, exists_eq_left', exists_and_left, exists_eq_left, exists_eq_right, exists_eq_right', exists_eq', exists_eq, true_and, and_true, and_assoc, decide_eq_true_eq, Int.reduceLT, and_self, Z.rIxH, Z.rIxU, Z.at30, Z.at31, Z.at32, Z.ix3_0, Z.ix3_1, Z.ix3_2, L2.rSetL, L2.gSub, Z.gTupH, L2.gCons, L2.gNil, L2.HO.lst.injEq, L2.HO.tup.injEq, L2.upd_same, L2.upd_upd, L2.tSl, L2.tNoPart, L2.tPart, L2.rSlL, L2.rCat, List.length_append, or_false, false_or, or_true, true_or, reduceCtorEq, false_and, and_false, exists_false, Int.reduceNeg, Int.reducePow, Int.reduceToNat, Int.reduceAbs, Int.reduceLE, Int.reduceMul, Int.reduceAdd, Int.reduceSub, Nat.reducePow, Nat.reduceLT, Nat.reduceLeDiff, Int.natAbs_natCast, if_true, if_false, Z.rIsN, Z.tyN, Z.kit_ii, Z.kit_bi, Z.kit_si, Z.kit_ni, Z.kit_ib, Z.kit_bb, Z.kit_sb, Z.kit_nb, Z.kit_is, Z.kit_bs, Z.kit_ss, Z.kit_ns, Bool.not_true, Bool.not_false, L2.tTup, L2.tLst, L2.wipe, L2.tYes, Z.Turn1, L2.tNever, sizeLine_eq, Z.rInU, Z.rInH, L2.flatV, List.any_cons, List.any_nil, List.all_cons, List.all_nil, Bool.and_true, Bool.true_and, Bool.or_false, Bool.false_or, Z.tBML, L2.rAppend, Z.map_int_inj, Z.map_bl_inj, Z.rTupL, Z.rLstL, Z.rLstT, Z.rSortI, Z.rAnyH, Z.rAllH, Z.rSumH, Z.rLenL, Z.rLenU, List.length_map, L2.tPar, Z.tCallK0, List.getD_cons_zero, List.getD_cons_succ, sp__law_draw]
    refine z_seq ?_
    simp only [L2.start, List.map_cons, List.map_nil, List.length_cons, List.length_nil, Nat.zero_add, Nat.reduceAdd, Nat.reduceSub, List.replicate_succ, List.replicate_zero, List.cons_append, List.nil_append, List.append_nil, L2.tNext, L2.tAsg, L2.gName, L2.tRet, L2.tRetN, L2.tIfS, L2.tVar, L2.tC, L2.tOp, L2.tUn, L2.rI, L2.rI0, L2.rU, L2.rEq, L2.rNe, L2.tTest, L2.tB, L2.tIf, Z.tIfCI, Z.tIfCS, L2.tChain, L2.tCons, L2.tNil, L2.tCall, L2.tDrop, L2.tAndV, L2.tOrV, L2.tNotV, L2.tAnd, L2.tOr, L2.tNot, L2.tCB, Z.sc_ii, Z.sc_ss, Z.sc_bb, Z.sc_is, Z.sc_si, Z.sc_ni, Z.sc_in, Z.sc_ns, Z.sc_sn, Z.sc_nn, L2.CDiv, L2.CPow, L2.CMul, List.getElem?_cons_zero, List.getElem?_cons_succ, Z.set_z, Z.set_s, Option.some.injEq, L2.V.int.injEq, L2.V.bl.injEq, L2.V.str.injEq, L2.V.ref.injEq, L2.V.ty.injEq, List.cons.injEq, exists_eq_left', exists_and_left, exists_eq_left, exists_eq_right, exists_eq_right', exists_eq', exists_eq, true_and, and_true, and_assoc, decide_eq_true_eq, Int.reduceLT, and_self, Z.rIxH, Z.rIxU, Z.at30, Z.at31, Z.at32, Z.ix3_0, Z.ix3_1, Z.ix3_2, L2.rSetL, L2.gSub, Z.gTupH, L2.gCons, L2.gNil, L2.HO.lst.injEq, L2.HO.tup.injEq, L2.upd_same, L2.upd_upd, L2.tSl, L2.tNoPart, L2.tPart, L2.rSlL, L2.rCat, List.length_append, or_false, false_or, or_true, true_or, reduceCtorEq, false_and, and_false, exists_false, Int.reduceNeg, Int.reducePow, Int.reduceToNat, Int.reduceAbs, Int.reduceLE, Int.reduceMul, Int.reduceAdd, Int.reduceSub, Nat.reducePow, Nat.reduceLT, Nat.reduceLeDiff, Int.natAbs_natCast, if_true, if_false, Z.rIsN, Z.tyN, Z.kit_ii, Z.kit_bi, Z.kit_si, Z.kit_ni, Z.kit_ib, Z.kit_bb, Z.kit_sb, Z.kit_nb, Z.kit_is, Z.kit_bs, Z.kit_ss, Z.kit_ns, Bool.not_true, Bool.not_false, L2.tTup, L2.tLst, L2.wipe, L2.tYes, Z.Turn1, L2.tNever, sizeLine_eq, Z.rInU, Z.rInH, L2.flatV, List.any_cons, List.any_nil, List.all_cons, List.all_nil, Bool.and_true, Bool.true_and, Bool.or_false, Bool.false_or, Z.tBML, L2.rAppend, Z.map_int_inj, Z.map_bl_inj, Z.rTupL, Z.rLstL, Z.rLstT, Z.rSortI, Z.rAnyH, Z.rAllH, Z.rSumH, Z.rLenL, Z.rLenU, List.length_map, L2.tPar, Z.tCallK0, List.getD_cons_zero, List.getD_cons_succ, sp__law_draw]
    refine ⟨hp, fun d H1 kp h0 h1 => ?_⟩
    refine z_seq ?_
    simp only [L2.start, List.map_cons, List.map_nil, List.length_cons, List.length_nil, Nat.zero_add, Nat.reduceAdd, Nat.reduceSub, List.replicate_succ, List.replicate_zero, List.cons_append, List.nil_append, List.append_nil, L2.tNext, L2.tAsg, L2.gName, L2.tRet, L2.tRetN, L2.tIfS, L2.tVar, L2.tC, L2.tOp, L2.tUn, L2.rI, L2.rI0, L2.rU, L2.rEq, L2.rNe, L2.tTest, L2.tB, L2.tIf, Z.tIfCI, Z.tIfCS, L2.tChain, L2.tCons, L2.tNil, L2.tCall, L2.tDrop, L2.tAndV, L2.tOrV, L2.tNotV, L2.tAnd, L2.tOr, L2.tNot, L2.tCB, Z.sc_ii, Z.sc_ss, Z.sc_bb, Z.sc_is, Z.sc_si, Z.sc_ni, Z.sc_in, Z.sc_ns, Z.sc_sn, Z.sc_nn, L2.CDiv, L2.CPow, L2.CMul, List.getElem?_cons_zero, List.getElem?_cons_succ, Z.set_z, Z.set_s, Option.some.injEq, L2.V.int.injEq, L2.V.bl.injEq, L2.V.str.injEq, L2.V.ref.injEq, L2.V.ty.injEq, List.cons.injEq, exists_eq_left', exists_and_left, exists_eq_left, exists_eq_right, exists_eq_right', exists_eq', exists_eq, true_and, and_true, and_assoc, decide_eq_true_eq, Int.reduceLT, and_self, Z.rIxH, Z.rIxU, Z.at30, Z.at31, Z.at32, Z.ix3_0, Z.ix3_1, Z.ix3_2, L2.rSetL, L2.gSub, Z.gTupH, L2.gCons, L2.gNil, L2.HO.lst.injEq, L2.HO.tup.injEq, L2.upd_same, L2.upd_upd, L2.tSl, L2.tNoPart, L2.tPart, L2.rSlL, L2.rCat, List.length_append, or_false, false_or, or_true, true_or, reduceCtorEq, false_and, and_false, exists_false, Int.reduceNeg, Int.reducePow, Int.reduceToNat, Int.reduceAbs, Int.reduceLE, Int.reduceMul, Int.reduceAdd, Int.reduceSub, Nat.reducePow, Nat.reduceLT, Nat.reduceLeDiff, Int.natAbs_natCast, if_true, if_false, Z.rIsN, Z.tyN, Z.kit_ii, Z.kit_bi, Z.kit_si, Z.kit_ni, Z.kit_ib, Z.kit_bb, Z.kit_sb, Z.kit_nb, Z.kit_is, Z.kit_bs, Z.kit_ss, Z.kit_ns, Bool.not_true, Bool.not_false, L2.tTup, L2.tLst, L2.wipe, L2.tYes, Z.Turn1, L2.tNever, sizeLine_eq, Z.rInU, Z.rInH, L2.flatV, List.any_cons, List.any_nil, List.all_cons, List.all_nil, Bool.and_true, Bool.true_and, Bool.or_false, Bool.false_or, Z.tBML, L2.rAppend, Z.map_int_inj, Z.map_bl_inj, Z.rTupL, Z.rLstL, Z.rLstT, Z.rSortI, Z.rAnyH, Z.rAllH, Z.rSumH, Z.rLenL, Z.rLenU, List.length_map, L2.tPar, Z.tCallK0, List.getD_cons_zero, List.getD_cons_succ, sp__law_draw]
    by_cases c : d = 0
    · rw [if_pos c]
      refine ⟨kp.sp, fun d2 H2 k2 g0 g1 => q _ _ (kp.trans k2) ?_ ?_⟩ <;> split <;> omega
    · rw [if_neg c]
      refine z_seq ?_
      simp only [L2.start, List.map_cons, List.map_nil, List.length_cons, List.length_nil, Nat.zero_add, Nat.reduceAdd, Nat.reduceSub, List.replicate_succ, List.replicate_zero, List.cons_append, List.nil_append, List.append_nil, L2.tNext, L2.tAsg, L2.gName, L2.tRet, L2.tRetN, L2.tIfS, L2.tVar, L2.tC, L2.tOp, L2.tUn, L2.rI, L2.rI0, L2.rU, L2.rEq, L2.rNe, L2.tTest, L2.tB, L2.tIf, Z.tIfCI, Z.tIfCS, L2.tChain, L2.tCons, L2.tNil, L2.tCall, L2.tDrop, L2.tAndV, L2.tOrV, L2.tNotV, L2.tAnd, L2.tOr, L2.tNot, L2.tCB, Z.sc_ii, Z.sc_ss, Z.sc_bb, Z.sc_is, Z.sc_si, Z.sc_ni, Z.sc_in, Z.sc_ns, Z.sc_sn, Z.sc_nn, L2.CDiv, L2.CPow, L2.CMul, List.getElem?_cons_zero, List.getElem?_cons_succ, Z.set_z, Z.set_s, Option.some.injEq, L2.V.int.injEq, L2.V.bl.injEq, L2.V.str.injEq, L2.V.ref.injEq, L2.V.ty.injEq, List.cons.injEq, exists_eq_left', exists_and_left, exists_eq_left, exists_eq_right, exists_eq_right', exists_eq', exists_eq, true_and, and_true, and_assoc, decide_eq_true_eq, Int.reduceLT, and_self, Z.rIxH, Z.rIxU, Z.at30, Z.at31, Z.at32, Z.ix3_0, Z.ix3_1, Z.ix3_2, L2.rSetL, L2.gSub, Z.gTupH, L2.gCons, L2.gNil, L2.HO.lst.injEq, L2.HO.tup.injEq, L2.upd_same, L2.upd_upd, L2.tSl, L2.tNoPart, L2.tPart, L2.rSlL, L2.rCat, List.length_append, or_false, false_or, or_true, true_or, reduceCtorEq, false_and, and_false, exists_false, Int.reduceNeg, Int.reducePow, Int.reduceToNat, Int.reduceAbs, Int.reduceLE, Int.reduceMul, Int.reduceAdd, Int.reduceSub, Nat.reducePow, Nat.reduceLT, Nat.reduceLeDiff, Int.natAbs_natCast, if_true, if_false, Z.rIsN, Z.tyN, Z.kit_ii, Z.kit_bi, Z.kit_si, Z.kit_ni, Z.kit_ib, Z.kit_bb, Z.kit_sb, Z.kit_nb, Z.kit_is, Z.kit_bs, Z.kit_ss, Z.kit_ns, Bool.not_true, Bool.not_false, L2.tTup, L2.tLst, L2.wipe, L2.tYes, Z.Turn1, L2.tNever, sizeLine_eq, Z.rInU, Z.rInH, L2.flatV, List.any_cons, List.any_nil, List.all_cons, List.all_nil, Bool.and_true, Bool.true_and, Bool.or_false, Bool.false_or, Z.tBML, L2.rAppend, Z.map_int_inj, Z.map_bl_inj, Z.rTupL, Z.rLstL, Z.rLstT, Z.rSortI, Z.rAnyH, Z.rAllH, Z.rSumH, Z.rLenL, Z.rLenU, List.length_map, L2.tPar, Z.tCallK0, List.getD_cons_zero, List.getD_cons_succ, sp__law_draw]
      by_cases c1 : d = 1
      · rw [if_pos c1]
        refine ⟨kp.sp, fun d2 H2 k2 g0 g1 => q _ _ (kp.trans k2) ?_ ?_⟩ <;> split <;> omega
      · rw [if_neg c1]
        refine z_seq ?_
        refine for_rng (n := 6) (fun R h => h) (by decide) (fun _ σ H' => ∃ (t : Int) (x : Option V), σ = [some (.ref p), some (.int n), some (.int d), some (.int t), x] ∧ Kp p H H') ⟨_, _, rfl, kp⟩ ?_ ?_
        · rintro i σ H' hi ⟨t, x, rfl, kp2⟩
          simp only [L2.start, List.map_cons, List.map_nil, List.length_cons, List.length_nil, Nat.zero_add, Nat.reduceAdd, Nat.reduceSub, List.replicate_succ, List.replicate_zero, List.cons_append, List.nil_append, List.append_nil, L2.tNext, L2.tAsg, L2.gName, L2.tRet, L2.tRetN, L2.tIfS, L2.tVar, L2.tC, L2.tOp, L2.tUn, L2.rI, L2.rI0, L2.rU, L2.rEq, L2.rNe, L2.tTest, L2.tB, L2.tIf, Z.tIfCI, Z.tIfCS, L2.tChain, L2.tCons, L2.tNil, L2.tCall, L2.tDrop, L2.tAndV, L2.tOrV, L2.tNotV, L2.tAnd, L2.tOr, L2.tNot, L2.tCB, Z.sc_ii, Z.sc_ss, Z.sc_bb, Z.sc_is, Z.sc_si, Z.sc_ni, Z.sc_in, Z.sc_ns, Z.sc_sn, Z.sc_nn, L2.CDiv, L2.CPow, L2.CMul, List.getElem?_cons_zero, List.getElem?_cons_succ, Z.set_z, Z.set_s, Option.some.injEq, L2.V.int.injEq, L2.V.bl.injEq, L2.V.str.injEq, L2.V.ref.injEq, L2.V.ty.injEq, List.cons.injEq, exists_eq_left', exists_and_left, exists_eq_left, exists_eq_right, exists_eq_right', exists_eq', exists_eq, true_and, and_true, and_assoc, decide_eq_true_eq, Int.reduceLT, and_self, Z.rIxH, Z.rIxU, Z.at30, Z.at31, Z.at32, Z.ix3_0, Z.ix3_1, Z.ix3_2, L2.rSetL, L2.gSub, Z.gTupH, L2.gCons, L2.gNil, L2.HO.lst.injEq, L2.HO.tup.injEq, L2.upd_same, L2.upd_upd, L2.tSl, L2.tNoPart, L2.tPart, L2.rSlL, L2.rCat, List.length_append, or_false, false_or, or_true, true_or, reduceCtorEq, false_and, and_false, exists_false, Int.reduceNeg, Int.reducePow, Int.reduceToNat, Int.reduceAbs, Int.reduceLE, Int.reduceMul, Int.reduceAdd, Int.reduceSub, Nat.reducePow, Nat.reduceLT, Nat.reduceLeDiff, Int.natAbs_natCast, if_true, if_false, Z.rIsN, Z.tyN, Z.kit_ii, Z.kit_bi, Z.kit_si, Z.kit_ni, Z.kit_ib, Z.kit_bb, Z.kit_sb, Z.kit_nb, Z.kit_is, Z.kit_bs, Z.kit_ss, Z.kit_ns, Bool.not_true, Bool.not_false, L2.tTup, L2.tLst, L2.wipe, L2.tYes, Z.Turn1, L2.tNever, sizeLine_eq, Z.rInU, Z.rInH, L2.flatV, List.any_cons, List.any_nil, List.all_cons, List.all_nil, Bool.and_true, Bool.true_and, Bool.or_false, Bool.false_or, Z.tBML, L2.rAppend, Z.map_int_inj, Z.map_bl_inj, Z.rTupL, Z.rLstL, Z.rLstT, Z.rSortI, Z.rAnyH, Z.rAllH, Z.rSumH, Z.rLenL, Z.rLenU, List.length_map, L2.tPar, Z.tCallK0, List.getD_cons_zero, List.getD_cons_succ, sp__law_draw]
          exact ⟨kp2.sp, fun d2 H2 k2 _ _ => kp2.trans k2⟩
        · rintro σ H' ⟨t, x, rfl, kp2⟩
          simp only [L2.start, List.map_cons, List.map_nil, List.length_cons, List.length_nil, Nat.zero_add, Nat.reduceAdd, Nat.reduceSub, List.replicate_succ, List.replicate_zero, List.cons_append, List.nil_append, List.append_nil, L2.tNext, L2.tAsg, L2.gName, L2.tRet, L2.tRetN, L2.tIfS, L2.tVar, L2.tC, L2.tOp, L2.tUn, L2.rI, L2.rI0, L2.rU, L2.rEq, L2.rNe, L2.tTest, L2.tB, L2.tIf, Z.tIfCI, Z.tIfCS, L2.tChain, L2.tCons, L2.tNil, L2.tCall, L2.tDrop, L2.tAndV, L2.tOrV, L2.tNotV, L2.tAnd, L2.tOr, L2.tNot, L2.tCB, Z.sc_ii, Z.sc_ss, Z.sc_bb, Z.sc_is, Z.sc_si, Z.sc_ni, Z.sc_in, Z.sc_ns, Z.sc_sn, Z.sc_nn, L2.CDiv, L2.CPow, L2.CMul, List.getElem?_cons_zero, List.getElem?_cons_succ, Z.set_z, Z.set_s, Option.some.injEq, L2.V.int.injEq, L2.V.bl.injEq, L2.V.str.injEq, L2.V.ref.injEq, L2.V.ty.injEq, List.cons.injEq, exists_eq_left', exists_and_left, exists_eq_left, exists_eq_right, exists_eq_right', exists_eq', exists_eq, true_and, and_true, and_assoc, decide_eq_true_eq, Int.reduceLT, and_self, Z.rIxH, Z.rIxU, Z.at30, Z.at31, Z.at32, Z.ix3_0, Z.ix3_1, Z.ix3_2, L2.rSetL, L2.gSub, Z.gTupH, L2.gCons, L2.gNil, L2.HO.lst.injEq, L2.HO.tup.injEq, L2.upd_same, L2.upd_upd, L2.tSl, L2.tNoPart, L2.tPart, L2.rSlL, L2.rCat, List.length_append, or_false, false_or, or_true, true_or, reduceCtorEq, false_and, and_false, exists_false, Int.reduceNeg, Int.reducePow, Int.reduceToNat, Int.reduceAbs, Int.reduceLE, Int.reduceMul, Int.reduceAdd, Int.reduceSub, Nat.reducePow, Nat.reduceLT, Nat.reduceLeDiff, Int.natAbs_natCast, if_true, if_false, Z.rIsN, Z.tyN, Z.kit_ii, Z.kit_bi, Z.kit_si, Z.kit_ni, Z.kit_ib, Z.kit_bb, Z.kit_sb, Z.kit_nb, Z.kit_is, Z.kit_bs, Z.kit_ss, Z.kit_ns, Bool.not_true, Bool.not_false, L2.tTup, L2.tLst, L2.wipe, L2.tYes, Z.Turn1, L2.tNever, sizeLine_eq, Z.rInU, Z.rInH, L2.flatV, List.any_cons, List.any_nil, List.all_cons, List.all_nil, Bool.and_true, Bool.true_and, Bool.or_false, Bool.false_or, Z.tBML, L2.rAppend, Z.map_int_inj, Z.map_bl_inj, Z.rTupL, Z.rLstL, Z.rLstT, Z.rSortI, Z.rAnyH, Z.rAllH, Z.rSumH, Z.rLenL, Z.rLenU, List.length_map, L2.tPar, Z.tCallK0, List.getD_cons_zero, List.getD_cons_succ, sp__law_draw]
          exact ⟨hn, q _ _ kp2 (Int.emod_nonneg _ (by omega)) (Int.emod_lt_of_pos _ hn)⟩
def sp__law_shape : Sp := fun vs H Q _ => ∃ (p : Addr), vs = [.ref p] ∧ Spring H p ∧ ∀ (r : Bool) (n k : Int) t H', H t = none → Kp p H H' → SizeIs r n k → n ≤ 1000000000000000000000000000000 → H' t = some (.tup [.str (kindS r), .int n]) → Q (.ref t) H'
theorem ok__law_shape (T : Env K mg) : Hd P w K mg base CX0 3 "_law_shape" s__law_shape ["_law_spring_here"] sp__law_shape := by
  have H__law_number := ok__law_number (P := P) (w := w) (base := base) T
  have H__law_of := ok__law_of (P := P) (w := w) (base := base) T
  obtain ⟨f, fd, F, hm⟩ := T.d__law_shape
  refine ⟨⟨f, fd, F, hm, ?_⟩, fun _ _ _ _ _ _ _ us hl => match us, hl with | [_], _ => rfl⟩
  refine F.ok sc__law_shape (fun vs H Q E h => ?_) (fun cdv A outer s H vs Q E hr h => ?_)
  · first | (obtain ⟨rfl, _⟩ := h; rfl) | (obtain ⟨_, rfl, _⟩ := h; rfl) | (obtain ⟨_, _, rfl, _⟩ := h; rfl) | (obtain ⟨_, _, _, rfl, _⟩ := h; rfl) | (obtain ⟨_, _, _, _, rfl, _⟩ := h; rfl) | (obtain ⟨_, _, _, _, _, rfl, _⟩ := h; rfl) | (obtain ⟨_, _, _, _, _, _, rfl, _⟩ := h; rfl) | (obtain ⟨_, _, _, _, _, _, _, rfl, _⟩ := h; rfl) | (obtain ⟨_, _, _, _, _, _, _, _, rfl, _⟩ := h; rfl)
  · obtain ⟨p, rfl, hp, q⟩ := h
    have hu := hu_of hr
    refine ⟨_, pss_cons (ps_par (i := 1) (j := 2) rfl sc__law_shape.nd rfl rfl (by decide) rfl rfl (pa_cons (pe_hd H__law_of (hr.mono (by decide)) rfl pass0 (pa_cons (pv 0) (pa_cons (pe_lst (pa_cons pe_str (pa_cons pe_str pa_nil))) pa_nil))) (pa_cons (pe_lst (pa_cons pe_int (pa_cons pe_int (pa_cons (pe_op op_pow pe_int pe_int) (pa_cons (pe_op op_pow pe_int pe_int) (pa_cons (pe_op op_pow pe_int pe_int) (pa_cons (pe_op op_sub (pe_op op_mul pe_int (pe_op op_pow pe_int pe_int)) pe_int) pa_nil))))))) pa_nil)) (by rfl))
      (pss_cons (ps_set (i := 3) sc__law_shape.nd rfl (by first | exact .inl rfl | exact .inr rfl) (pe_hd H__law_of (hr.mono (by decide)) rfl pass0 (pa_cons (pv 0) (pa_cons (pv 2) pa_nil))))
      (pss_cons (ps_set (i := 4) sc__law_shape.nd rfl (by first | exact .inl rfl | exact .inr rfl) (pe_op op_mul pe_int (pe_op op_add pe_int (pe_hd H__law_number (hr.mono (by decide)) rfl pass0 (pa_cons (pv 0) (pa_cons (pv 3) pa_nil))))))
      (pss_one (ps_ret (pe_tup (pa_cons (pv 1) (pa_cons (pe_ifExp (pt_cmpR op_eq (pv 1) pe_str (nomark _)) (pe_op op_add (pv 4) pe_int) (pv 4)) pa_nil))))))), ?_⟩
    simp only [L2.start, List.map_cons, List.map_nil, List.length_cons, List.length_nil, Nat.zero_add, Nat.reduceAdd, Nat.reduceSub, List.replicate_succ, List.replicate_zero, List.cons_append, List.nil_append, List.append_nil, L2.tNext, L2.tAsg, L2.gName, L2.tRet, L2.tRetN, L2.tIfS, L2.tVar, L2.tC, L2.tOp, L2.tUn, L2.rI, L2.rI0, L2.rU, L2.rEq, L2.rNe, L2.tTest, L2.tB, L2.tIf, Z.tIfCI, Z.tIfCS, L2.tChain, L2.tCons, L2.tNil, L2.tCall, L2.tDrop, L2.tAndV, L2.tOrV, L2.tNotV, L2.tAnd, L2.tOr, L2.tNot, L2.tCB, Z.sc_ii, Z.sc_ss, Z.sc_bb, Z.sc_is, Z.sc_si, Z.sc_ni, Z.sc_in, Z.sc_ns, Z.sc_sn, Z.sc_nn, L2.CDiv, L2.CPow, L2.CMul, List.getElem?_cons_zero, List.getElem?_cons_succ, Z.set_z, Z.set_s, Option.some.injEq, L2.V.int.injEq, L2.V.bl.injEq, L2.V.str.injEq, L2.V.ref.injEq, L2.V.ty.injEq, List.cons.injEq, exists_eq_left', exists_and_left, exists_eq_left, exists_eq_right, exists_eq_right', exists_eq', exists_eq, true_and, and_true, and_assoc, decide_eq_true_eq, Int.reduceLT, and_self, Z.rIxH, Z.rIxU, Z.at30, Z.at31, Z.at32, Z.ix3_0, Z.ix3_1, Z.ix3_2, L2.rSetL, L2.gSub, Z.gTupH, L2.gCons, L2.gNil, L2.HO.lst.injEq, L2.HO.tup.injEq, L2.upd_same, L2.upd_upd, L2.tSl, L2.tNoPart, L2.tPart, L2.rSlL, L2.rCat, List.length_append, or_false, false_or, or_true, true_or, reduceCtorEq, false_and, and_false, exists_false, Int.reduceNeg, Int.reducePow, Int.reduceToNat, Int.reduceAbs, Int.reduceLE, Int.reduceMul, Int.reduceAdd, Int.reduceSub, Nat.reducePow, Nat.reduceLT, Nat.reduceLeDiff, Int.natAbs_natCast, if_true, if_false, Z.rIsN, Z.tyN, Z.kit_ii, Z.kit_bi, Z.kit_si, Z.kit_ni, Z.kit_ib, Z.kit_bb, Z.kit_sb, Z.kit_nb, Z.kit_is, Z.kit_bs, Z.kit_ss, Z.kit_ns, Bool.not_true, Bool.not_false, L2.tTup, L2.tLst, L2.wipe, L2.tYes, Z.Turn1, L2.tNever, sizeLine_eq, Z.rInU, Z.rInH, L2.flatV, List.any_cons, List.any_nil, List.all_cons, List.all_nil, Bool.and_true, Bool.true_and, Bool.or_false, Bool.false_or, Z.tBML, L2.rAppend, Z.map_int_inj, Z.map_bl_inj, Z.rTupL, Z.rLstL, Z.rLstT, Z.rSortI, Z.rAnyH, Z.rAllH, Z.rSumH, Z.rLenL, Z.rLenU, List.length_map, L2.tPar, Z.tCallK0, List.getD_cons_zero, List.getD_cons_succ, sp__law_number, sp__law_of]
    refine z_seq ?_
    simp only [L2.start, List.map_cons, List.map_nil, List.length_cons, List.length_nil, Nat.zero_add, Nat.reduceAdd, Nat.reduceSub, List.replicate_succ, List.replicate_zero, List.cons_append, List.nil_append, List.append_nil, L2.tNext, L2.tAsg, L2.gName, L2.tRet, L2.tRetN, L2.tIfS, L2.tVar, L2.tC, L2.tOp, L2.tUn, L2.rI, L2.rI0, L2.rU, L2.rEq, L2.rNe, L2.tTest, L2.tB, L2.tIf, Z.tIfCI, Z.tIfCS, L2.tChain, L2.tCons, L2.tNil, L2.tCall, L2.tDrop, L2.tAndV, L2.tOrV, L2.tNotV, L2.tAnd, L2.tOr, L2.tNot, L2.tCB, Z.sc_ii, Z.sc_ss, Z.sc_bb, Z.sc_is, Z.sc_si, Z.sc_ni, Z.sc_in, Z.sc_ns, Z.sc_sn, Z.sc_nn, L2.CDiv, L2.CPow, L2.CMul, List.getElem?_cons_zero, List.getElem?_cons_succ, Z.set_z, Z.set_s, Option.some.injEq, L2.V.int.injEq, L2.V.bl.injEq, L2.V.str.injEq, L2.V.ref.injEq, L2.V.ty.injEq, List.cons.injEq, exists_eq_left', exists_and_left, exists_eq_left, exists_eq_right, exists_eq_right', exists_eq', exists_eq, true_and, and_true, and_assoc, decide_eq_true_eq, Int.reduceLT, and_self, Z.rIxH, Z.rIxU, Z.at30, Z.at31, Z.at32, Z.ix3_0, Z.ix3_1, Z.ix3_2, L2.rSetL, L2.gSub, Z.gTupH, L2.gCons, L2.gNil, L2.HO.lst.injEq, L2.HO.tup.injEq, L2.upd_same, L2.upd_upd, L2.tSl, L2.tNoPart, L2.tPart, L2.rSlL, L2.rCat, List.length_append, or_false, false_or, or_true, true_or, reduceCtorEq, false_and, and_false, exists_false, Int.reduceNeg, Int.reducePow, Int.reduceToNat, Int.reduceAbs, Int.reduceLE, Int.reduceMul, Int.reduceAdd, Int.reduceSub, Nat.reducePow, Nat.reduceLT, Nat.reduceLeDiff, Int.natAbs_natCast, if_true, if_false, Z.rIsN, Z.tyN, Z.kit_ii, Z.kit_bi, Z.kit_si, Z.kit_ni, Z.kit_ib, Z.kit_bb, Z.kit_sb, Z.kit_nb, Z.kit_is, Z.kit_bs, Z.kit_ss, Z.kit_ns, Bool.not_true, Bool.not_false, L2.tTup, L2.tLst, L2.wipe, L2.tYes, Z.Turn1, L2.tNever, sizeLine_eq, Z.rInU, Z.rInH, L2.flatV, List.any_cons, List.any_nil, List.all_cons, List.all_nil, Bool.and_true, Bool.true_and, Bool.or_false, Bool.false_or, Z.tBML, L2.rAppend, Z.map_int_inj, Z.map_bl_inj, Z.rTupL, Z.rLstL, Z.rLstT, Z.rSortI, Z.rAnyH, Z.rAllH, Z.rSumH, Z.rLenL, Z.rLenU, List.length_map, L2.tPar, Z.tCallK0, List.getD_cons_zero, List.getD_cons_succ, sp__law_number, sp__law_of]
    intro m hm
    refine ⟨hp.new hm, Ne.symm (ne_of_spring hp hm), fun v H1 kp1 hv => fun t ht => ?_⟩
    obtain ⟨r, rfl⟩ : ∃ r, v = .str (kindS r) := by
      simp only [List.mem_cons, List.not_mem_nil, or_false] at hv
      rcases hv with rfl | rfl
      · exact ⟨true, rfl⟩
      · exact ⟨false, rfl⟩
    replace kp1 := ((Kp.refl hp).new hm).trans kp1
    refine z_seq ?_
    simp only [L2.start, List.map_cons, List.map_nil, List.length_cons, List.length_nil, Nat.zero_add, Nat.reduceAdd, Nat.reduceSub, List.replicate_succ, List.replicate_zero, List.cons_append, List.nil_append, List.append_nil, L2.tNext, L2.tAsg, L2.gName, L2.tRet, L2.tRetN, L2.tIfS, L2.tVar, L2.tC, L2.tOp, L2.tUn, L2.rI, L2.rI0, L2.rU, L2.rEq, L2.rNe, L2.tTest, L2.tB, L2.tIf, Z.tIfCI, Z.tIfCS, L2.tChain, L2.tCons, L2.tNil, L2.tCall, L2.tDrop, L2.tAndV, L2.tOrV, L2.tNotV, L2.tAnd, L2.tOr, L2.tNot, L2.tCB, Z.sc_ii, Z.sc_ss, Z.sc_bb, Z.sc_is, Z.sc_si, Z.sc_ni, Z.sc_in, Z.sc_ns, Z.sc_sn, Z.sc_nn, L2.CDiv, L2.CPow, L2.CMul, List.getElem?_cons_zero, List.getElem?_cons_succ, Z.set_z, Z.set_s, Option.some.injEq, L2.V.int.injEq, L2.V.bl.injEq, L2.V.str.injEq, L2.V.ref.injEq, L2.V.ty.injEq, List.cons.injEq, exists_eq_left', exists_and_left, exists_eq_left, exists_eq_right, exists_eq_right', exists_eq', exists_eq, true_and, and_true, and_assoc, decide_eq_true_eq, Int.reduceLT, and_self, Z.rIxH, Z.rIxU, Z.at30, Z.at31, Z.at32, Z.ix3_0, Z.ix3_1, Z.ix3_2, L2.rSetL, L2.gSub, Z.gTupH, L2.gCons, L2.gNil, L2.HO.lst.injEq, L2.HO.tup.injEq, L2.upd_same, L2.upd_upd, L2.tSl, L2.tNoPart, L2.tPart, L2.rSlL, L2.rCat, List.length_append, or_false, false_or, or_true, true_or, reduceCtorEq, false_and, and_false, exists_false, Int.reduceNeg, Int.reducePow, Int.reduceToNat, Int.reduceAbs, Int.reduceLE, Int.reduceMul, Int.reduceAdd, Int.reduceSub, Nat.reducePow, Nat.reduceLT, Nat.reduceLeDiff, Int.natAbs_natCast, if_true, if_false, Z.rIsN, Z.tyN, Z.kit_ii, Z.kit_bi, Z.kit_si, Z.kit_ni, Z.kit_ib, Z.kit_bb, Z.kit_sb, Z.kit_nb, Z.kit_is, Z.kit_bs, Z.kit_ss, Z.kit_ns, Bool.not_true, Bool.not_false, L2.tTup, L2.tLst, L2.wipe, L2.tYes, Z.Turn1, L2.tNever, sizeLine_eq, Z.rInU, Z.rInH, L2.flatV, List.any_cons, List.any_nil, List.all_cons, List.all_nil, Bool.and_true, Bool.true_and, Bool.or_false, Bool.false_or, Z.tBML, L2.rAppend, Z.map_int_inj, Z.map_bl_inj, Z.rTupL, Z.rLstL, Z.rLstT, Z.rSortI, Z.rAnyH, Z.rAllH, Z.rSumH, Z.rLenL, Z.rLenU, List.length_map, L2.tPar, Z.tCallK0, List.getD_cons_zero, List.getD_cons_succ, sp__law_number, sp__law_of]
    refine ⟨kp1.sp.new ht, Ne.symm (ne_of_spring kp1.sp ht), fun v H2 kp2 hv => ?_⟩
    obtain ⟨b, rfl, hb0, hb1⟩ : ∃ b : Int, v = .int b ∧ 0 < b ∧ b ≤ 499999999999999999999999999999 := by
      simp only [List.mem_cons, List.not_mem_nil, or_false] at hv
      rcases hv with rfl | rfl | rfl | rfl | rfl | rfl
      · exact ⟨_, rfl, by decide, by decide⟩
      · exact ⟨_, rfl, by decide, by decide⟩
      · exact ⟨_, rfl, by decide, by decide⟩
      · exact ⟨_, rfl, by decide, by decide⟩
      · exact ⟨_, rfl, by decide, by decide⟩
      · exact ⟨_, rfl, by decide, by decide⟩
    replace kp2 := (kp1.new ht).trans kp2
    refine z_seq ?_
    simp only [L2.start, List.map_cons, List.map_nil, List.length_cons, List.length_nil, Nat.zero_add, Nat.reduceAdd, Nat.reduceSub, List.replicate_succ, List.replicate_zero, List.cons_append, List.nil_append, List.append_nil, L2.tNext, L2.tAsg, L2.gName, L2.tRet, L2.tRetN, L2.tIfS, L2.tVar, L2.tC, L2.tOp, L2.tUn, L2.rI, L2.rI0, L2.rU, L2.rEq, L2.rNe, L2.tTest, L2.tB, L2.tIf, Z.tIfCI, Z.tIfCS, L2.tChain, L2.tCons, L2.tNil, L2.tCall, L2.tDrop, L2.tAndV, L2.tOrV, L2.tNotV, L2.tAnd, L2.tOr, L2.tNot, L2.tCB, Z.sc_ii, Z.sc_ss, Z.sc_bb, Z.sc_is, Z.sc_si, Z.sc_ni, Z.sc_in, Z.sc_ns, Z.sc_sn, Z.sc_nn, L2.CDiv, L2.CPow, L2.CMul, List.getElem?_cons_zero, List.getElem?_cons_succ, Z.set_z, Z.set_s, Option.some.injEq, L2.V.int.injEq, L2.V.bl.injEq, L2.V.str.injEq, L2.V.ref.injEq, L2.V.ty.injEq, List.cons.injEq, exists_eq_left', exists_and_left, exists_eq_left, exists_eq_right, exists_eq_right', exists_eq', exists_eq, true_and, and_true, and_assoc, decide_eq_true_eq, Int.reduceLT, and_self, Z.rIxH, Z.rIxU, Z.at30, Z.at31, Z.at32, Z.ix3_0, Z.ix3_1, Z.ix3_2, L2.rSetL, L2.gSub, Z.gTupH, L2.gCons, L2.gNil, L2.HO.lst.injEq, L2.HO.tup.injEq, L2.upd_same, L2.upd_upd, L2.tSl, L2.tNoPart, L2.tPart, L2.rSlL, L2.rCat, List.length_append, or_false, false_or, or_true, true_or, reduceCtorEq, false_and, and_false, exists_false, Int.reduceNeg, Int.reducePow, Int.reduceToNat, Int.reduceAbs, Int.reduceLE, Int.reduceMul, Int.reduceAdd, Int.reduceSub, Nat.reducePow, Nat.reduceLT, Nat.reduceLeDiff, Int.natAbs_natCast, if_true, if_false, Z.rIsN, Z.tyN, Z.kit_ii, Z.kit_bi, Z.kit_si, Z.kit_ni, Z.kit_ib, Z.kit_bb, Z.kit_sb, Z.kit_nb, Z.kit_is, Z.kit_bs, Z.kit_ss, Z.kit_ns, Bool.not_true, Bool.not_false, L2.tTup, L2.tLst, L2.wipe, L2.tYes, Z.Turn1, L2.tNever, sizeLine_eq, Z.rInU, Z.rInH, L2.flatV, List.any_cons, List.any_nil, List.all_cons, List.all_nil, Bool.and_true, Bool.true_and, Bool.or_false, Bool.false_or, Z.tBML, L2.rAppend, Z.map_int_inj, Z.map_bl_inj, Z.rTupL, Z.rLstL, Z.rLstT, Z.rSortI, Z.rAnyH, Z.rAllH, Z.rSumH, Z.rLenL, Z.rLenU, List.length_map, L2.tPar, Z.tCallK0, List.getD_cons_zero, List.getD_cons_succ, sp__law_number, sp__law_of]
    refine ⟨kp2.sp, hb0, fun d H3 kp3 hd0 hd1 => ?_⟩
    replace kp3 := kp2.trans kp3
    simp only [L2.start, List.map_cons, List.map_nil, List.length_cons, List.length_nil, Nat.zero_add, Nat.reduceAdd, Nat.reduceSub, List.replicate_succ, List.replicate_zero, List.cons_append, List.nil_append, List.append_nil, L2.tNext, L2.tAsg, L2.gName, L2.tRet, L2.tRetN, L2.tIfS, L2.tVar, L2.tC, L2.tOp, L2.tUn, L2.rI, L2.rI0, L2.rU, L2.rEq, L2.rNe, L2.tTest, L2.tB, L2.tIf, Z.tIfCI, Z.tIfCS, L2.tChain, L2.tCons, L2.tNil, L2.tCall, L2.tDrop, L2.tAndV, L2.tOrV, L2.tNotV, L2.tAnd, L2.tOr, L2.tNot, L2.tCB, Z.sc_ii, Z.sc_ss, Z.sc_bb, Z.sc_is, Z.sc_si, Z.sc_ni, Z.sc_in, Z.sc_ns, Z.sc_sn, Z.sc_nn, L2.CDiv, L2.CPow, L2.CMul, List.getElem?_cons_zero, List.getElem?_cons_succ, Z.set_z, Z.set_s, Option.some.injEq, L2.V.int.injEq, L2.V.bl.injEq, L2.V.str.injEq, L2.V.ref.injEq, L2.V.ty.injEq, List.cons.injEq, exists_eq_left', exists_and_left, exists_eq_left, exists_eq_right, exists_eq_right', exists_eq', exists_eq, true_and, and_true, and_assoc, decide_eq_true_eq, Int.reduceLT, and_self, Z.rIxH, Z.rIxU, Z.at30, Z.at31, Z.at32, Z.ix3_0, Z.ix3_1, Z.ix3_2, L2.rSetL, L2.gSub, Z.gTupH, L2.gCons, L2.gNil, L2.HO.lst.injEq, L2.HO.tup.injEq, L2.upd_same, L2.upd_upd, L2.tSl, L2.tNoPart, L2.tPart, L2.rSlL, L2.rCat, List.length_append, or_false, false_or, or_true, true_or, reduceCtorEq, false_and, and_false, exists_false, Int.reduceNeg, Int.reducePow, Int.reduceToNat, Int.reduceAbs, Int.reduceLE, Int.reduceMul, Int.reduceAdd, Int.reduceSub, Nat.reducePow, Nat.reduceLT, Nat.reduceLeDiff, Int.natAbs_natCast, if_true, if_false, Z.rIsN, Z.tyN, Z.kit_ii, Z.kit_bi, Z.kit_si, Z.kit_ni, Z.kit_ib, Z.kit_bb, Z.kit_sb, Z.kit_nb, Z.kit_is, Z.kit_bs, Z.kit_ss, Z.kit_ns, Bool.not_true, Bool.not_false, L2.tTup, L2.tLst, L2.wipe, L2.tYes, Z.Turn1, L2.tNever, sizeLine_eq, Z.rInU, Z.rInH, L2.flatV, List.any_cons, List.any_nil, List.all_cons, List.all_nil, Bool.and_true, Bool.true_and, Bool.or_false, Bool.false_or, Z.tBML, L2.rAppend, Z.map_int_inj, Z.map_bl_inj, Z.rTupL, Z.rLstL, Z.rLstT, Z.rSortI, Z.rAnyH, Z.rAllH, Z.rSumH, Z.rLenL, Z.rLenU, List.length_map, L2.tPar, Z.tCallK0, List.getD_cons_zero, List.getD_cons_succ, sp__law_number, sp__law_of, kind_eq]
    have fin : ∀ (n : Int) (t : Addr), SizeIs r n (1 + d) → n ≤ 1000000000000000000000000000000 → H3 t = none → Q (.ref t) (upd H3 t (.tup [.str (kindS r), .int n])) := fun n t h1 h2 h3 =>
      q r n (1 + d) t _ (kp3.free (Ne.symm (ne_of_spring kp3.sp h3)) h3) (kp3.new h3) h1 h2 upd_same
    cases r
    · rw [if_neg Bool.false_ne_true]
      exact fun t ht => fin _ t ⟨by omega, .inr ⟨rfl, rfl⟩⟩ (by omega) ht
    · rw [if_pos rfl]
      exact fun t ht => fin _ t ⟨by omega, .inl ⟨rfl, rfl⟩⟩ (by omega) ht
def sp__law_ahead : Sp := fun vs H Q _ => ∃ (z e i : Int), vs = [.int z, .int e, .int i] ∧ 0 < z ∧ Q (.int (personIn z e i)) H
theorem ok__law_ahead (T : Env K mg) : Hd P w K mg base CX0 1 "_law_ahead" s__law_ahead ["_law_round_now", "_law_first", "_law_i"] sp__law_ahead := by
  obtain ⟨f, fd, F, hm⟩ := T.d__law_ahead
  refine ⟨⟨f, fd, F, hm, ?_⟩, fun _ _ _ _ _ _ _ us hl => match us, hl with | [_, _, _], _ => rfl⟩
  refine F.ok sc__law_ahead (fun vs H Q E h => ?_) (fun cdv A outer s H vs Q E hr h => ?_)
  · first | (obtain ⟨rfl, _⟩ := h; rfl) | (obtain ⟨_, rfl, _⟩ := h; rfl) | (obtain ⟨_, _, rfl, _⟩ := h; rfl) | (obtain ⟨_, _, _, rfl, _⟩ := h; rfl) | (obtain ⟨_, _, _, _, rfl, _⟩ := h; rfl) | (obtain ⟨_, _, _, _, _, rfl, _⟩ := h; rfl) | (obtain ⟨_, _, _, _, _, _, rfl, _⟩ := h; rfl) | (obtain ⟨_, _, _, _, _, _, _, rfl, _⟩ := h; rfl) | (obtain ⟨_, _, _, _, _, _, _, _, rfl, _⟩ := h; rfl)
  · obtain ⟨z, e, i, rfl, hz, q⟩ := h
    have hu := hu_of hr
    refine ⟨_, pss_cons (ps_set (i := 3) sc__law_ahead.nd rfl (by first | exact .inl rfl | exact .inr rfl) (pe_op op_fdiv (pe_op op_add (pe_callTy call_int1 rfl T.b_int (by decide +kernel) (pa_cons (pv 2) pa_nil)) pe_int) pe_int))
      (pss_one (ps_ret (pe_op op_mod (pe_callTy call_int1 rfl T.b_int (by decide +kernel) (pa_cons (pe_op op_add (pv 1) (pe_ifExp (pt_cmpR op_eq (pe_op op_mod (pe_callTy call_int1 rfl T.b_int (by decide +kernel) (pa_cons (pv 2) pa_nil)) pe_int) pe_int (nomark _)) (pv 3) (pe_op op_sub pe_int (pv 3)))) pa_nil)) (pv 0)))), ?_⟩
    simp only [L2.start, List.map_cons, List.map_nil, List.length_cons, List.length_nil, Nat.zero_add, Nat.reduceAdd, Nat.reduceSub, List.replicate_succ, List.replicate_zero, List.cons_append, List.nil_append, List.append_nil, L2.tSeq, L2.tNext, L2.tAsg, L2.gName, L2.tRet, L2.tRetN, L2.tIfS, L2.tVar, L2.tC, L2.tOp, L2.tUn, L2.rI, L2.rI0, L2.rU, L2.rEq, L2.rNe, L2.tTest, L2.tB, L2.tIf, Z.tIfCI, Z.tIfCS, L2.tChain, L2.tCons, L2.tNil, L2.tCall, L2.tDrop, L2.tAndV, L2.tOrV, L2.tNotV, L2.tAnd, L2.tOr, L2.tNot, L2.tCB, Z.sc_ii, Z.sc_ss, Z.sc_bb, Z.sc_is, Z.sc_si, Z.sc_ni, Z.sc_in, Z.sc_ns, Z.sc_sn, Z.sc_nn, L2.CDiv, L2.CPow, L2.CMul, List.getElem?_cons_zero, List.getElem?_cons_succ, Z.set_z, Z.set_s, Option.some.injEq, L2.V.int.injEq, L2.V.bl.injEq, L2.V.str.injEq, L2.V.ref.injEq, L2.V.ty.injEq, List.cons.injEq, exists_eq_left', exists_and_left, exists_eq_left, exists_eq_right, exists_eq_right', exists_eq', exists_eq, true_and, and_true, and_assoc, decide_eq_true_eq, Int.reduceLT, and_self, Z.rIxH, Z.rIxU, Z.at30, Z.at31, Z.at32, Z.ix3_0, Z.ix3_1, Z.ix3_2, L2.rSetL, L2.gSub, Z.gTupH, L2.gCons, L2.gNil, L2.HO.lst.injEq, L2.HO.tup.injEq, L2.upd_same, L2.upd_upd, L2.tSl, L2.tNoPart, L2.tPart, L2.rSlL, L2.rCat, List.length_append, or_false, false_or, or_true, true_or, reduceCtorEq, false_and, and_false, exists_false, Int.reduceNeg, Int.reducePow, Int.reduceToNat, Int.reduceAbs, Int.reduceLE, Int.reduceMul, Int.reduceAdd, Int.reduceSub, Nat.reducePow, Nat.reduceLT, Nat.reduceLeDiff, Int.natAbs_natCast, if_true, if_false, Z.rIsN, Z.tyN, Z.kit_ii, Z.kit_bi, Z.kit_si, Z.kit_ni, Z.kit_ib, Z.kit_bb, Z.kit_sb, Z.kit_nb, Z.kit_is, Z.kit_bs, Z.kit_ss, Z.kit_ns, Bool.not_true, Bool.not_false, L2.tTup, L2.tLst, L2.wipe, L2.tYes, Z.Turn1, L2.tNever, sizeLine_eq, Z.rInU, Z.rInH, L2.flatV, List.any_cons, List.any_nil, List.all_cons, List.all_nil, Bool.and_true, Bool.true_and, Bool.or_false, Bool.false_or, Z.tBML, L2.rAppend, Z.map_int_inj, Z.map_bl_inj, Z.rTupL, Z.rLstL, Z.rLstT, Z.rSortI, Z.rAnyH, Z.rAllH, Z.rSumH, Z.rLenL, Z.rLenU, List.length_map, L2.tPar, Z.tCallK0, List.getD_cons_zero, List.getD_cons_succ]
    unfold personIn at q
    split
    · rename_i c
      rw [if_pos c] at q
      exact ⟨hz, q⟩
    · rename_i c
      rw [if_neg c] at q
      refine ⟨hz, ?_⟩
      rw [show 0 - (i + 1) / 2 = -((i + 1) / 2) by omega]
      exact q
open Zig
theorem spots_len (r : Bool) (n j : Int) : (spots r n j).length ≤ 2 := by
  unfold spots
  split
  · exact Nat.le_refl 2
  · exact Nat.le_trans (List.length_filter_le _ _) (Nat.le_refl 2)
/-- what the law takes for a step -/
def stepF (r : Bool) (n j : Int) : V → Option V
  | .int s => if r = true ∨ (0 ≤ j + s ∧ j + s < n) then some (.int ((j + s) % n)) else none
  | _ => none
theorem spots_steps {r : Bool} {n k j : Int} (hs : SizeIs r n k) (hj0 : 0 ≤ j) (hj1 : j < n) :
    [V.int (-1), V.int 1].filterMap (stepF r n j) = (spots r n j).map V.int := by
  cases r
  · have m : ∀ s : Int, stepF false n j (.int s) = if 0 ≤ j + s ∧ j + s < n then some (V.int (j + s)) else none := by
      intro s
      unfold stepF
      simp only [Bool.false_eq_true, false_or]
      split
      · rename_i c
        rw [Int.emod_eq_of_lt c.1 c.2]
      · rfl
    simp only [List.filterMap_cons, List.filterMap_nil, m, spots, Bool.false_eq_true, if_false, List.filter_cons, List.filter_nil, decide_eq_true_eq]
    rw [show j + -1 = j - 1 by omega]
    by_cases c1 : 0 ≤ j - 1 ∧ j - 1 < n
    · by_cases c2 : 0 ≤ j + 1 ∧ j + 1 < n
      · simp only [if_pos c1, if_pos c2, List.map_cons, List.map_nil]
      · simp only [if_pos c1, if_neg c2, List.map_cons, List.map_nil]
    · by_cases c2 : 0 ≤ j + 1 ∧ j + 1 < n
      · simp only [if_neg c1, if_pos c2, List.map_cons, List.map_nil]
      · simp only [if_neg c1, if_neg c2, List.map_cons, List.map_nil]
  · simp only [List.filterMap_cons, List.filterMap_nil, stepF, true_or, if_true, spots, List.map_cons, List.map_nil]
    rw [show j + -1 = j - 1 by omega]
def sp__law_right : Sp := fun vs H Q _ => ∃ (p : Addr), vs = [.ref p] ∧ Spring H p ∧ ∀ H', Kp p H H' → Q (.bl true) H'
theorem ok__law_right (T : Env K mg) : HdG P w K mg base CX0 6 "_law_right" s__law_right ["_law_spring_here"] sp__law_right := by
  have H_zigzag_evening := ok_zigzag_evening (P := P) (w := w) (base := base) T
  have H_zigzag_beside := ok_zigzag_beside (P := P) (w := w) (base := base) T
  have H_zigzag_person := ok_zigzag_person (P := P) (w := w) (base := base) T
  have H_zigzag_place := ok_zigzag_place (P := P) (w := w) (base := base) T
  have H__law_ahead := ok__law_ahead (P := P) (w := w) (base := base) T
  have H__law_number := ok__law_number (P := P) (w := w) (base := base) T
  have H__law_nights := ok__law_nights (P := P) (w := w) (base := base) T
  have H__law_shape := ok__law_shape (P := P) (w := w) (base := base) T
  obtain ⟨f, fd, F, hm⟩ := T.d__law_right
  refine ⟨⟨f, fd, F, hm, ?_⟩, fun _ _ _ _ _ _ _ us hl => match us, hl with | [_], _ => rfl⟩
  refine fun_okG F sc__law_right (fun vs H Q E h => ?_) (fun cdv A outer s H vs Q E hr gd h => ?_)
  · first | (obtain ⟨rfl, _⟩ := h; rfl) | (obtain ⟨_, rfl, _⟩ := h; rfl) | (obtain ⟨_, _, rfl, _⟩ := h; rfl) | (obtain ⟨_, _, _, rfl, _⟩ := h; rfl) | (obtain ⟨_, _, _, _, rfl, _⟩ := h; rfl) | (obtain ⟨_, _, _, _, _, rfl, _⟩ := h; rfl) | (obtain ⟨_, _, _, _, _, _, rfl, _⟩ := h; rfl) | (obtain ⟨_, _, _, _, _, _, _, rfl, _⟩ := h; rfl) | (obtain ⟨_, _, _, _, _, _, _, _, rfl, _⟩ := h; rfl)
  · obtain ⟨p, rfl, hp, q⟩ := h
    have hu := hu_of hr
    refine ⟨_, pss_cons (ps_for PassesOwn.never rfl (pi_range1 rfl T.b_range (pa_cons pe_int pa_nil)) (pg_name (i := 1) sc__law_right.nd rfl (by first | exact .inl rfl | exact .inr rfl))
      (pss_cons (ps_asg (pe_hd H__law_shape (hr.mono (by decide)) rfl pass0 (pa_cons (pv 0) pa_nil)) (pg_tupH (n := 2) rfl (pgs_cons (pg_name (i := 2) sc__law_right.nd rfl (by first | exact .inl rfl | exact .inr rfl)) (pgs_cons (pg_name (i := 3) sc__law_right.nd rfl (by first | exact .inl rfl | exact .inr rfl)) pgs_nil))))
      (pss_cons (ps_asg (pe_tup (pa_cons (pe_cmpR op_eq (pv 2) pe_str (nomark _)) (pa_cons (pe_hd H__law_nights (hr.mono (by decide)) rfl pass0 (pa_cons (pv 2) (pa_cons (pv 3) pa_nil))) pa_nil))) (pg_tupH (n := 2) rfl (pgs_cons (pg_name (i := 4) sc__law_right.nd rfl (by first | exact .inl rfl | exact .inr rfl)) (pgs_cons (pg_name (i := 5) sc__law_right.nd rfl (by first | exact .inl rfl | exact .inr rfl)) pgs_nil))))
      (pss_cons (ps_asg (pe_tup (pa_cons (pe_op op_sub (pv 3) (pe_callTy call_int1 rfl T.b_int (by decide +kernel) (pa_cons (pv 4) pa_nil))) (pa_cons (pe_hd H__law_number (hr.mono (by decide)) rfl pass0 (pa_cons (pv 0) (pa_cons (pv 5) pa_nil))) pa_nil))) (pg_tupH (n := 2) rfl (pgs_cons (pg_name (i := 6) sc__law_right.nd rfl (by first | exact .inl rfl | exact .inr rfl)) (pgs_cons (pg_name (i := 7) sc__law_right.nd rfl (by first | exact .inl rfl | exact .inr rfl)) pgs_nil))))
      (pss_one (ps_for PassesOwn.never rfl (pi_range1 rfl T.b_range (pa_cons pe_int pa_nil)) (pg_name (i := 8) sc__law_right.nd rfl (by first | exact .inl rfl | exact .inr rfl))
      (pss_cons (ps_set (i := 9) sc__law_right.nd rfl (by first | exact .inl rfl | exact .inr rfl) (pe_hd H__law_number (hr.mono (by decide)) rfl pass0 (pa_cons (pv 0) (pa_cons (pv 3) pa_nil))))
      (pss_cons (ps_set (i := 10) sc__law_right.nd rfl (by first | exact .inl rfl | exact .inr rfl) (pe_cutZ (pe_ifExp (PW.pt (pw_and (pt_val (pv 4)) (pw_and1 (pt_cmpR op_eq (pv 9) pe_int (nomark _))))) (pe_op op_sub (pv 3) pe_int) (pe_hd H__law_ahead (hr.mono (by decide)) rfl pass0 (pa_cons (pv 6) (pa_cons (pv 7) (pa_cons (pe_op op_sub (pv 9) (pe_callTy call_int1 rfl T.b_int (by decide +kernel) (pa_cons (pv 4) pa_nil))) pa_nil)))))))
      (pss_cons (ps_set (i := 11) sc__law_right.nd rfl (by first | exact .inl rfl | exact .inr rfl) (pe_lst (pa_cons (pe_hd H_zigzag_person (hr.mono (by decide)) rfl pass0 (pa_cons (pv 2) (pa_cons (pv 3) (pa_cons (pv 7) (pa_cons (pv 9) pa_nil))))) (pa_cons (pe_hdk (ks := ["index", "evening", "n", "kind"]) (π := [3, 2, 1, 0]) (HdG.of H_zigzag_person) (hr.mono (by decide)) (.inr H_zigzag_person) rfl pass0 (fun _ _ _ _ _ _ _ ws hl => match ws, hl with | [_, _, _, _], _ => rfl) (pk_cons (pv 9) (pk_cons (pv 7) (pk_cons (pv 3) (pk_cons (pv 2) pk_nil))))) pa_nil))))
      (pss_cons (ps_if (PW.pt (pw_or (pt_cmpR op_ne (pe_callB (call_reprD hr.units gd) rfl T.b_repr (by decide +kernel) (pa_cons (pv 11) pa_nil)) (pe_callB (call_reprD hr.units gd) rfl T.b_repr (by decide +kernel) (pa_cons (pe_lst (pa_cons (pv 10) (pa_cons (pv 10) pa_nil))) pa_nil)) (nomark _)) (pw_or1 (pt_cmpR op_ne (pe_hd H_zigzag_place (hr.mono (by decide)) rfl pass0 (pa_cons (pv 2) (pa_cons (pv 3) (pa_cons (pv 7) (pa_cons (pv 10) pa_nil))))) (pv 9) (nomark _))))) (pss_one (ps_ret pe_bl))
      (pss_nil))
      (pss_cons (ps_if (pt_cmpR op_ne (pe_hdk (ks := ["person", "evening", "n", "kind"]) (π := [3, 2, 1, 0]) (HdG.of H_zigzag_place) (hr.mono (by decide)) (.inr H_zigzag_place) rfl pass0 (fun _ _ _ _ _ _ _ ws hl => match ws, hl with | [_, _, _, _], _ => rfl) (pk_cons (pv 10) (pk_cons (pv 7) (pk_cons (pv 3) (pk_cons (pv 2) pk_nil))))) (pv 9) (nomark _)) (pss_one (ps_ret pe_bl))
      (pss_nil))
      (pss_cons (ps_setLc (i := 12) (own := [("_law_step", 15)]) (g := (gName 15)) rfl sc__law_right.nd rfl rfl (sw_true rfl rfl rfl (by decide +kernel)) (pi_list (pe_lst (pa_cons (pe_un un_neg pe_int) (pa_cons pe_int pa_nil)))) (blkOk_by (own := [("_law_step", 15)]) (N := N__law_right) (sc := defScope s__law_right) (by decide +kernel)) (fun _ _ _ _ _ => pg_name (i := 15) sc__law_right.nd rfl (by first | exact .inl rfl | exact .inr rfl)) (fun _ _ _ _ _ => (pts_one (PW.pt (pw_or (pt_val (pv 4)) (pw_or1 (pt_chain op_le op_lt pe_int (pe_op op_add (pv 9) (pv 15)) (pv 3))))))) (fun _ _ _ _ _ => (pe_op op_mod (pe_callTy call_int1 rfl T.b_int (by decide +kernel) (pa_cons (pe_op op_add (pv 9) (pv 15)) pa_nil)) (pv 3))))
      (pss_cons (ps_setLc (i := 13) (own := [("_law_spot", 16)]) (g := (gName 16)) (tt := tYes) rfl sc__law_right.nd rfl rfl (sw_true rfl rfl rfl (by decide +kernel)) (pi_list (pv 12)) (blkOk_by (own := [("_law_spot", 16)]) (N := N__law_right) (sc := defScope s__law_right) (by decide +kernel)) (fun _ _ _ _ _ => pg_name (i := 16) sc__law_right.nd rfl (by first | exact .inl rfl | exact .inr rfl)) (fun _ _ _ _ _ => pts_nil) (fun _ _ _ _ _ => (pe_hd H_zigzag_person (hr.mono (by decide)) rfl pass0 (pa_cons (pv 2) (pa_cons (pv 3) (pa_cons (pv 7) (pa_cons (pv 16) pa_nil)))))))
      (pss_cons (ps_set (i := 11) sc__law_right.nd rfl (by first | exact .inl rfl | exact .inr rfl) (pe_lst (pa_cons (pe_hd H_zigzag_beside (hr.mono (by decide)) rfl pass0 (pa_cons (pv 2) (pa_cons (pv 3) (pa_cons (pv 7) (pa_cons (pv 10) pa_nil))))) (pa_cons (pe_hdk (ks := ["person", "evening", "n", "kind"]) (π := [3, 2, 1, 0]) (HdG.of H_zigzag_beside) (hr.mono (by decide)) (.inr H_zigzag_beside) rfl pass0 (fun _ _ _ _ _ _ _ ws hl => match ws, hl with | [_, _, _, _], _ => rfl) (pk_cons (pv 10) (pk_cons (pv 7) (pk_cons (pv 3) (pk_cons (pv 2) pk_nil))))) pa_nil))))
      (pss_cons (ps_if (pt_cmpR op_ne (pe_callB (call_reprD hr.units gd) rfl T.b_repr (by decide +kernel) (pa_cons (pv 11) pa_nil)) (pe_callB (call_reprD hr.units gd) rfl T.b_repr (by decide +kernel) (pa_cons (pe_op op_rep (pe_lst (pa_cons (pe_callTy call_tupleL rfl T.b_tuple (by decide +kernel) (pa_cons (pe_callB cr_sortedH rfl T.b_sorted (by decide +kernel) (pa_cons (pv 13) pa_nil)) pa_nil)) pa_nil)) pe_int) pa_nil)) (nomark _)) (pss_one (ps_ret pe_bl))
      (pss_nil))
      (pss_one (ps_for PassesOwn.never rfl (pi_list (pv 13)) (pg_name (i := 14) sc__law_right.nd rfl (by first | exact .inl rfl | exact .inr rfl))
      (pss_cons (ps_set (i := 11) sc__law_right.nd rfl (by first | exact .inl rfl | exact .inr rfl) (pe_lst (pa_cons (pe_hd H_zigzag_evening (hr.mono (by decide)) rfl pass0 (pa_cons (pv 2) (pa_cons (pv 3) (pa_cons (pv 10) (pa_cons (pv 14) pa_nil))))) pa_nil)))
      (pss_cons (ps_expr (pe_bmL PySem.F.plainAttrs_list PySem.F.slot_list_append PySem.F.type_list_append mt_append (pv 11) (pa_cons (pe_hdk (ks := ["mate", "person", "n", "kind"]) (π := [3, 2, 1, 0]) (HdG.of H_zigzag_evening) (hr.mono (by decide)) (.inr H_zigzag_evening) rfl pass0 (fun _ _ _ _ _ _ _ ws hl => match ws, hl with | [_, _, _, _], _ => rfl) (pk_cons (pv 10) (pk_cons (pv 14) (pk_cons (pv 3) (pk_cons (pv 2) pk_nil))))) pa_nil)))
      (pss_one (ps_if (pt_cmpR op_ne (pe_callB (call_reprD hr.units gd) rfl T.b_repr (by decide +kernel) (pa_cons (pv 11) pa_nil)) (pe_callB (call_reprD hr.units gd) rfl T.b_repr (by decide +kernel) (pa_cons (pe_lst (pa_cons (pv 7) (pa_cons (pv 7) pa_nil))) pa_nil)) (nomark _)) (pss_one (ps_ret pe_bl))
      (pss_nil))))))))))))))))))))))
      (pss_one (ps_ret pe_bl)), ?_⟩
    simp only [L2.start, List.map_cons, List.map_nil, List.length_cons, List.length_nil, Nat.zero_add, Nat.reduceAdd, Nat.reduceSub, List.replicate_succ, List.replicate_zero, List.cons_append, List.nil_append, List.append_nil, L2.tNext, L2.tAsg, L2.gName, L2.tRet, L2.tRetN, L2.tIfS, L2.tVar, L2.tC, L2.tOp, L2.tUn, L2.rI, L2.rI0, L2.rU, L2.rEq, L2.rNe, L2.tTest, L2.tB, L2.tIf, Z.tIfCI, Z.tIfCS, L2.tChain, L2.tCons, L2.tNil, L2.tCall, L2.tDrop, L2.tAndV, L2.tOrV, L2.tNotV, L2.tAnd, L2.tOr, L2.tNot, L2.tCB, Z.sc_ii, Z.sc_ss, Z.sc_bb, Z.sc_is, Z.sc_si, Z.sc_ni, Z.sc_in, Z.sc_ns, Z.sc_sn, Z.sc_nn, L2.CDiv, L2.CPow, L2.CMul, List.getElem?_cons_zero, List.getElem?_cons_succ, Z.set_z, Z.set_s, Option.some.injEq, L2.V.int.injEq, L2.V.bl.injEq, L2.V.str.injEq, L2.V.ref.injEq, L2.V.ty.injEq, List.cons.injEq, exists_eq_left', exists_and_left, exists_eq_left, exists_eq_right, exists_eq_right', exists_eq', exists_eq, true_and, and_true, and_assoc, decide_eq_true_eq, Int.reduceLT, and_self, Z.rIxH, Z.rIxU, Z.at30, Z.at31, Z.at32, Z.ix3_0, Z.ix3_1, Z.ix3_2, L2.rSetL, L2.gSub, Z.gTupH, L2.gCons, L2.gNil, L2.HO.lst.injEq, L2.HO.tup.injEq, L2.upd_same, L2.upd_upd, L2.tSl, L2.tNoPart, L2.tPart, L2.rSlL, L2.rCat, List.length_append, or_false, false_or, or_true, true_or, reduceCtorEq, false_and, and_false, exists_false, Int.reduceNeg, Int.reducePow, Int.reduceToNat, Int.reduceAbs, Int.reduceLE, Int.reduceMul, Int.reduceAdd, Int.reduceSub, Nat.reducePow, Nat.reduceLT, Nat.reduceLeDiff, Int.natAbs_natCast, if_true, if_false, Z.rIsN, Z.tyN, Z.kit_ii, Z.kit_bi, Z.kit_si, Z.kit_ni, Z.kit_ib, Z.kit_bb, Z.kit_sb, Z.kit_nb, Z.kit_is, Z.kit_bs, Z.kit_ss, Z.kit_ns, Bool.not_true, Bool.not_false, L2.tTup, L2.tLst, L2.wipe, L2.tYes, Z.Turn1, L2.tNever, sizeLine_eq, Z.rInU, Z.rInH, L2.flatV, List.any_cons, List.any_nil, List.all_cons, List.all_nil, Bool.and_true, Bool.true_and, Bool.or_false, Bool.false_or, Z.tBML, L2.rAppend, Z.map_int_inj, Z.map_bl_inj, Z.rTupL, Z.rLstL, Z.rLstT, Z.rSortI, Z.rAnyH, Z.rAllH, Z.rSumH, Z.rLenL, Z.rLenU, List.length_map, L2.tPar, Z.tCallK0, List.getD_cons_zero, List.getD_cons_succ, sp_zigzag_evening, sp_zigzag_beside, sp_zigzag_person, sp_zigzag_place, sp__law_ahead, sp__law_number, sp__law_nights, sp__law_shape]
    refine z_seq ?_
    refine for_rng (n := 6) (fun R h => h) (by decide) (fun _ σ H' => ∃ v1 v2 v3 v4 v5 v6 v7 v8 v9 v10 v11 v12 v13 v14 v15 v16 : Option V, σ = [some (.ref p), v1, v2, v3, v4, v5, v6, v7, v8, v9, v10, v11, v12, v13, v14, v15, v16] ∧ Kp p H H') ⟨_, _, _, _, _, _, _, _, _, _, _, _, _, _, _, _, rfl, Kp.refl hp⟩ ?_ ?_
    · rintro i σ H0 hi ⟨v1, v2, v3, v4, v5, v6, v7, v8, v9, v10, v11, v12, v13, v14, v15, v16, rfl, kp⟩
      simp only [L2.start, List.map_cons, List.map_nil, List.length_cons, List.length_nil, Nat.zero_add, Nat.reduceAdd, Nat.reduceSub, List.replicate_succ, List.replicate_zero, List.cons_append, List.nil_append, List.append_nil, L2.tNext, L2.tAsg, L2.gName, L2.tRet, L2.tRetN, L2.tIfS, L2.tVar, L2.tC, L2.tOp, L2.tUn, L2.rI, L2.rI0, L2.rU, L2.rEq, L2.rNe, L2.tTest, L2.tB, L2.tIf, Z.tIfCI, Z.tIfCS, L2.tChain, L2.tCons, L2.tNil, L2.tCall, L2.tDrop, L2.tAndV, L2.tOrV, L2.tNotV, L2.tAnd, L2.tOr, L2.tNot, L2.tCB, Z.sc_ii, Z.sc_ss, Z.sc_bb, Z.sc_is, Z.sc_si, Z.sc_ni, Z.sc_in, Z.sc_ns, Z.sc_sn, Z.sc_nn, L2.CDiv, L2.CPow, L2.CMul, List.getElem?_cons_zero, List.getElem?_cons_succ, Z.set_z, Z.set_s, Option.some.injEq, L2.V.int.injEq, L2.V.bl.injEq, L2.V.str.injEq, L2.V.ref.injEq, L2.V.ty.injEq, List.cons.injEq, exists_eq_left', exists_and_left, exists_eq_left, exists_eq_right, exists_eq_right', exists_eq', exists_eq, true_and, and_true, and_assoc, decide_eq_true_eq, Int.reduceLT, and_self, Z.rIxH, Z.rIxU, Z.at30, Z.at31, Z.at32, Z.ix3_0, Z.ix3_1, Z.ix3_2, L2.rSetL, L2.gSub, Z.gTupH, L2.gCons, L2.gNil, L2.HO.lst.injEq, L2.HO.tup.injEq, L2.upd_same, L2.upd_upd, L2.tSl, L2.tNoPart, L2.tPart, L2.rSlL, L2.rCat, List.length_append, or_false, false_or, or_true, true_or, reduceCtorEq, false_and, and_false, exists_false, Int.reduceNeg, Int.reducePow, Int.reduceToNat, Int.reduceAbs, Int.reduceLE, Int.reduceMul, Int.reduceAdd, Int.reduceSub, Nat.reducePow, Nat.reduceLT, Nat.reduceLeDiff, Int.natAbs_natCast, if_true, if_false, Z.rIsN, Z.tyN, Z.kit_ii, Z.kit_bi, Z.kit_si, Z.kit_ni, Z.kit_ib, Z.kit_bb, Z.kit_sb, Z.kit_nb, Z.kit_is, Z.kit_bs, Z.kit_ss, Z.kit_ns, Bool.not_true, Bool.not_false, L2.tTup, L2.tLst, L2.wipe, L2.tYes, Z.Turn1, L2.tNever, sizeLine_eq, Z.rInU, Z.rInH, L2.flatV, List.any_cons, List.any_nil, List.all_cons, List.all_nil, Bool.and_true, Bool.true_and, Bool.or_false, Bool.false_or, Z.tBML, L2.rAppend, Z.map_int_inj, Z.map_bl_inj, Z.rTupL, Z.rLstL, Z.rLstT, Z.rSortI, Z.rAnyH, Z.rAllH, Z.rSumH, Z.rLenL, Z.rLenU, List.length_map, L2.tPar, Z.tCallK0, List.getD_cons_zero, List.getD_cons_succ, sp_zigzag_evening, sp_zigzag_beside, sp_zigzag_person, sp_zigzag_place, sp__law_ahead, sp__law_number, sp__law_nights, sp__law_shape]
      refine z_seq ?_
      simp only [L2.start, List.map_cons, List.map_nil, List.length_cons, List.length_nil, Nat.zero_add, Nat.reduceAdd, Nat.reduceSub, List.replicate_succ, List.replicate_zero, List.cons_append, List.nil_append, List.append_nil, L2.tNext, L2.tAsg, L2.gName, L2.tRet, L2.tRetN, L2.tIfS, L2.tVar, L2.tC, L2.tOp, L2.tUn, L2.rI, L2.rI0, L2.rU, L2.rEq, L2.rNe, L2.tTest, L2.tB, L2.tIf, Z.tIfCI, Z.tIfCS, L2.tChain, L2.tCons, L2.tNil, L2.tCall, L2.tDrop, L2.tAndV, L2.tOrV, L2.tNotV, L2.tAnd, L2.tOr, L2.tNot, L2.tCB, Z.sc_ii, Z.sc_ss, Z.sc_bb, Z.sc_is, Z.sc_si, Z.sc_ni, Z.sc_in, Z.sc_ns, Z.sc_sn, Z.sc_nn, L2.CDiv, L2.CPow, L2.CMul, List.getElem?_cons_zero, List.getElem?_cons_succ, Z.set_z, Z.set_s, Option.some.injEq, L2.V.int.injEq, L2.V.bl.injEq, L2.V.str.injEq, L2.V.ref.injEq, L2.V.ty.injEq, List.cons.injEq, exists_eq_left', exists_and_left, exists_eq_left, exists_eq_right, exists_eq_right', exists_eq', exists_eq, true_and, and_true, and_assoc, decide_eq_true_eq, Int.reduceLT, and_self, Z.rIxH, Z.rIxU, Z.at30, Z.at31, Z.at32, Z.ix3_0, Z.ix3_1, Z.ix3_2, L2.rSetL, L2.gSub, Z.gTupH, L2.gCons, L2.gNil, L2.HO.lst.injEq, L2.HO.tup.injEq, L2.upd_same, L2.upd_upd, L2.tSl, L2.tNoPart, L2.tPart, L2.rSlL, L2.rCat, List.length_append, or_false, false_or, or_true, true_or, reduceCtorEq, false_and, and_false, exists_false, Int.reduceNeg, Int.reducePow, Int.reduceToNat, Int.reduceAbs, Int.reduceLE, Int.reduceMul, Int.reduceAdd, Int.reduceSub, Nat.reducePow, Nat.reduceLT, Nat.reduceLeDiff, Int.natAbs_natCast, if_true, if_false, Z.rIsN, Z.tyN, Z.kit_ii, Z.kit_bi, Z.kit_si, Z.kit_ni, Z.kit_ib, Z.kit_bb, Z.kit_sb, Z.kit_nb, Z.kit_is, Z.kit_bs, Z.kit_ss, Z.kit_ns, Bool.not_true, Bool.not_false, L2.tTup, L2.tLst, L2.wipe, L2.tYes, Z.Turn1, L2.tNever, sizeLine_eq, Z.rInU, Z.rInH, L2.flatV, List.any_cons, List.any_nil, List.all_cons, List.all_nil, Bool.and_true, Bool.true_and, Bool.or_false, Bool.false_or, Z.tBML, L2.rAppend, Z.map_int_inj, Z.map_bl_inj, Z.rTupL, Z.rLstL, Z.rLstT, Z.rSortI, Z.rAnyH, Z.rAllH, Z.rSumH, Z.rLenL, Z.rLenU, List.length_map, L2.tPar, Z.tCallK0, List.getD_cons_zero, List.getD_cons_succ, sp_zigzag_evening, sp_zigzag_beside, sp_zigzag_person, sp_zigzag_place, sp__law_ahead, sp__law_number, sp__law_nights, sp__law_shape]
      refine ⟨kp.sp, fun r n k t H1 _ kp1 hs hn1 ht => ⟨_, ht, rfl, _, _, rfl, _, _, rfl, rfl, ?_⟩⟩
      replace kp1 := kp.trans kp1
      have hk := hs.nights
      have hsz : isSize r n 1000000000000000000000000000000 = true := by
        obtain ⟨h0, ⟨rfl, h⟩ | ⟨rfl, h⟩⟩ := hs
        · unfold isSize
          simp
          omega
        · unfold isSize
          simp
          omega
      have hn0 : 0 < n ∧ 1 < n := by
        obtain ⟨h0, ⟨rfl, h⟩ | ⟨rfl, h⟩⟩ := hs <;> omega
      refine z_seq ?_
      simp only [L2.start, List.map_cons, List.map_nil, List.length_cons, List.length_nil, Nat.zero_add, Nat.reduceAdd, Nat.reduceSub, List.replicate_succ, List.replicate_zero, List.cons_append, List.nil_append, List.append_nil, L2.tNext, L2.tAsg, L2.gName, L2.tRet, L2.tRetN, L2.tIfS, L2.tVar, L2.tC, L2.tOp, L2.tUn, L2.rI, L2.rI0, L2.rU, L2.rEq, L2.rNe, L2.tTest, L2.tB, L2.tIf, Z.tIfCI, Z.tIfCS, L2.tChain, L2.tCons, L2.tNil, L2.tCall, L2.tDrop, L2.tAndV, L2.tOrV, L2.tNotV, L2.tAnd, L2.tOr, L2.tNot, L2.tCB, Z.sc_ii, Z.sc_ss, Z.sc_bb, Z.sc_is, Z.sc_si, Z.sc_ni, Z.sc_in, Z.sc_ns, Z.sc_sn, Z.sc_nn, L2.CDiv, L2.CPow, L2.CMul, List.getElem?_cons_zero, List.getElem?_cons_succ, Z.set_z, Z.set_s, Option.some.injEq, L2.V.int.injEq, L2.V.bl.injEq, L2.V.str.injEq, L2.V.ref.injEq, L2.V.ty.injEq, List.cons.injEq, exists_eq_left', exists_and_left, exists_eq_left, exists_eq_right, exists_eq_right', exists_eq', exists_eq, true_and, and_true, and_assoc, decide_eq_true_eq, Int.reduceLT, and_self, Z.rIxH, Z.rIxU, Z.at30, Z.at31, Z.at32, Z.ix3_0, Z.ix3_1, Z.ix3_2, L2.rSetL, L2.gSub, Z.gTupH, L2.gCons, L2.gNil, L2.HO.lst.injEq, L2.HO.tup.injEq, L2.upd_same, L2.upd_upd, L2.tSl, L2.tNoPart, L2.tPart, L2.rSlL, L2.rCat, List.length_append, or_false, false_or, or_true, true_or, reduceCtorEq, false_and, and_false, exists_false, Int.reduceNeg, Int.reducePow, Int.reduceToNat, Int.reduceAbs, Int.reduceLE, Int.reduceMul, Int.reduceAdd, Int.reduceSub, Nat.reducePow, Nat.reduceLT, Nat.reduceLeDiff, Int.natAbs_natCast, if_true, if_false, Z.rIsN, Z.tyN, Z.kit_ii, Z.kit_bi, Z.kit_si, Z.kit_ni, Z.kit_ib, Z.kit_bb, Z.kit_sb, Z.kit_nb, Z.kit_is, Z.kit_bs, Z.kit_ss, Z.kit_ns, Bool.not_true, Bool.not_false, L2.tTup, L2.tLst, L2.wipe, L2.tYes, Z.Turn1, L2.tNever, sizeLine_eq, Z.rInU, Z.rInH, L2.flatV, List.any_cons, List.any_nil, List.all_cons, List.all_nil, Bool.and_true, Bool.true_and, Bool.or_false, Bool.false_or, Z.tBML, L2.rAppend, Z.map_int_inj, Z.map_bl_inj, Z.rTupL, Z.rLstL, Z.rLstT, Z.rSortI, Z.rAnyH, Z.rAllH, Z.rSumH, Z.rLenL, Z.rLenU, List.length_map, L2.tPar, Z.tCallK0, List.getD_cons_zero, List.getD_cons_succ, sp_zigzag_evening, sp_zigzag_beside, sp_zigzag_person, sp_zigzag_place, sp__law_ahead, sp__law_number, sp__law_nights, sp__law_shape, kind_eq, kind_inj, Bool.decide_eq_true]
      intro t2 ht2
      replace kp1 := kp1.new (o := .tup [.bl r, .int (nights r n)]) ht2
      refine z_seq ?_
      simp only [L2.start, List.map_cons, List.map_nil, List.length_cons, List.length_nil, Nat.zero_add, Nat.reduceAdd, Nat.reduceSub, List.replicate_succ, List.replicate_zero, List.cons_append, List.nil_append, List.append_nil, L2.tNext, L2.tAsg, L2.gName, L2.tRet, L2.tRetN, L2.tIfS, L2.tVar, L2.tC, L2.tOp, L2.tUn, L2.rI, L2.rI0, L2.rU, L2.rEq, L2.rNe, L2.tTest, L2.tB, L2.tIf, Z.tIfCI, Z.tIfCS, L2.tChain, L2.tCons, L2.tNil, L2.tCall, L2.tDrop, L2.tAndV, L2.tOrV, L2.tNotV, L2.tAnd, L2.tOr, L2.tNot, L2.tCB, Z.sc_ii, Z.sc_ss, Z.sc_bb, Z.sc_is, Z.sc_si, Z.sc_ni, Z.sc_in, Z.sc_ns, Z.sc_sn, Z.sc_nn, L2.CDiv, L2.CPow, L2.CMul, List.getElem?_cons_zero, List.getElem?_cons_succ, Z.set_z, Z.set_s, Option.some.injEq, L2.V.int.injEq, L2.V.bl.injEq, L2.V.str.injEq, L2.V.ref.injEq, L2.V.ty.injEq, List.cons.injEq, exists_eq_left', exists_and_left, exists_eq_left, exists_eq_right, exists_eq_right', exists_eq', exists_eq, true_and, and_true, and_assoc, decide_eq_true_eq, Int.reduceLT, and_self, Z.rIxH, Z.rIxU, Z.at30, Z.at31, Z.at32, Z.ix3_0, Z.ix3_1, Z.ix3_2, L2.rSetL, L2.gSub, Z.gTupH, L2.gCons, L2.gNil, L2.HO.lst.injEq, L2.HO.tup.injEq, L2.upd_same, L2.upd_upd, L2.tSl, L2.tNoPart, L2.tPart, L2.rSlL, L2.rCat, List.length_append, or_false, false_or, or_true, true_or, reduceCtorEq, false_and, and_false, exists_false, Int.reduceNeg, Int.reducePow, Int.reduceToNat, Int.reduceAbs, Int.reduceLE, Int.reduceMul, Int.reduceAdd, Int.reduceSub, Nat.reducePow, Nat.reduceLT, Nat.reduceLeDiff, Int.natAbs_natCast, if_true, if_false, Z.rIsN, Z.tyN, Z.kit_ii, Z.kit_bi, Z.kit_si, Z.kit_ni, Z.kit_ib, Z.kit_bb, Z.kit_sb, Z.kit_nb, Z.kit_is, Z.kit_bs, Z.kit_ss, Z.kit_ns, Bool.not_true, Bool.not_false, L2.tTup, L2.tLst, L2.wipe, L2.tYes, Z.Turn1, L2.tNever, sizeLine_eq, Z.rInU, Z.rInH, L2.flatV, List.any_cons, List.any_nil, List.all_cons, List.all_nil, Bool.and_true, Bool.true_and, Bool.or_false, Bool.false_or, Z.tBML, L2.rAppend, Z.map_int_inj, Z.map_bl_inj, Z.rTupL, Z.rLstL, Z.rLstT, Z.rSortI, Z.rAnyH, Z.rAllH, Z.rSumH, Z.rLenL, Z.rLenU, List.length_map, L2.tPar, Z.tCallK0, List.getD_cons_zero, List.getD_cons_succ, sp_zigzag_evening, sp_zigzag_beside, sp_zigzag_person, sp_zigzag_place, sp__law_ahead, sp__law_number, sp__law_nights, sp__law_shape, kind_eq, kind_inj, Bool.decide_eq_true]
      refine ⟨kp1.sp, by rw [hk]; exact hs.1, fun e H2 kp2 he0 he1 => fun t3 ht3 => ?_⟩
      rw [hk] at he1
      replace kp2 := (kp1.trans kp2).new (o := .tup [.int (n - if r = true then 1 else 0), .int e]) ht3
      refine for_rng (n := 4) (fun R h => h) (by decide) (fun _ σ H' => ∃ w8 w9 w10 w11 w12 w13 w14 w15 w16 : Option V, σ = [some (.ref p), some (.int i), some (.str (kindS r)), some (.int n), some (.bl r), some (.int (nights r n)), some (.int (n - if r = true then 1 else 0)), some (.int e), w8, w9, w10, w11, w12, w13, w14, w15, w16] ∧ Kp p H H') ⟨_, _, _, _, _, _, _, _, _, rfl, kp2⟩ ?_ ?_
      · clear ht ht2 ht3 kp1 kp2 kp
        rintro m σ H3 hm ⟨w8, w9, w10, w11, w12, w13, w14, w15, w16, rfl, kp3⟩
        simp only [L2.start, List.map_cons, List.map_nil, List.length_cons, List.length_nil, Nat.zero_add, Nat.reduceAdd, Nat.reduceSub, List.replicate_succ, List.replicate_zero, List.cons_append, List.nil_append, List.append_nil, L2.tNext, L2.tAsg, L2.gName, L2.tRet, L2.tRetN, L2.tIfS, L2.tVar, L2.tC, L2.tOp, L2.tUn, L2.rI, L2.rI0, L2.rU, L2.rEq, L2.rNe, L2.tTest, L2.tB, L2.tIf, Z.tIfCI, Z.tIfCS, L2.tChain, L2.tCons, L2.tNil, L2.tCall, L2.tDrop, L2.tAndV, L2.tOrV, L2.tNotV, L2.tAnd, L2.tOr, L2.tNot, L2.tCB, Z.sc_ii, Z.sc_ss, Z.sc_bb, Z.sc_is, Z.sc_si, Z.sc_ni, Z.sc_in, Z.sc_ns, Z.sc_sn, Z.sc_nn, L2.CDiv, L2.CPow, L2.CMul, List.getElem?_cons_zero, List.getElem?_cons_succ, Z.set_z, Z.set_s, Option.some.injEq, L2.V.int.injEq, L2.V.bl.injEq, L2.V.str.injEq, L2.V.ref.injEq, L2.V.ty.injEq, List.cons.injEq, exists_eq_left', exists_and_left, exists_eq_left, exists_eq_right, exists_eq_right', exists_eq', exists_eq, true_and, and_true, and_assoc, decide_eq_true_eq, Int.reduceLT, and_self, Z.rIxH, Z.rIxU, Z.at30, Z.at31, Z.at32, Z.ix3_0, Z.ix3_1, Z.ix3_2, L2.rSetL, L2.gSub, Z.gTupH, L2.gCons, L2.gNil, L2.HO.lst.injEq, L2.HO.tup.injEq, L2.upd_same, L2.upd_upd, L2.tSl, L2.tNoPart, L2.tPart, L2.rSlL, L2.rCat, List.length_append, or_false, false_or, or_true, true_or, reduceCtorEq, false_and, and_false, exists_false, Int.reduceNeg, Int.reducePow, Int.reduceToNat, Int.reduceAbs, Int.reduceLE, Int.reduceMul, Int.reduceAdd, Int.reduceSub, Nat.reducePow, Nat.reduceLT, Nat.reduceLeDiff, Int.natAbs_natCast, if_true, if_false, Z.rIsN, Z.tyN, Z.kit_ii, Z.kit_bi, Z.kit_si, Z.kit_ni, Z.kit_ib, Z.kit_bb, Z.kit_sb, Z.kit_nb, Z.kit_is, Z.kit_bs, Z.kit_ss, Z.kit_ns, Bool.not_true, Bool.not_false, L2.tTup, L2.tLst, L2.wipe, L2.tYes, Z.Turn1, L2.tNever, sizeLine_eq, Z.rInU, Z.rInH, L2.flatV, List.any_cons, List.any_nil, List.all_cons, List.all_nil, Bool.and_true, Bool.true_and, Bool.or_false, Bool.false_or, Z.tBML, L2.rAppend, Z.map_int_inj, Z.map_bl_inj, Z.rTupL, Z.rLstL, Z.rLstT, Z.rSortI, Z.rAnyH, Z.rAllH, Z.rSumH, Z.rLenL, Z.rLenU, List.length_map, L2.tPar, Z.tCallK0, List.getD_cons_zero, List.getD_cons_succ, sp_zigzag_evening, sp_zigzag_beside, sp_zigzag_person, sp_zigzag_place, sp__law_ahead, sp__law_number, sp__law_nights, sp__law_shape]
        refine z_seq ?_
        simp only [L2.start, List.map_cons, List.map_nil, List.length_cons, List.length_nil, Nat.zero_add, Nat.reduceAdd, Nat.reduceSub, List.replicate_succ, List.replicate_zero, List.cons_append, List.nil_append, List.append_nil, L2.tNext, L2.tAsg, L2.gName, L2.tRet, L2.tRetN, L2.tIfS, L2.tVar, L2.tC, L2.tOp, L2.tUn, L2.rI, L2.rI0, L2.rU, L2.rEq, L2.rNe, L2.tTest, L2.tB, L2.tIf, Z.tIfCI, Z.tIfCS, L2.tChain, L2.tCons, L2.tNil, L2.tCall, L2.tDrop, L2.tAndV, L2.tOrV, L2.tNotV, L2.tAnd, L2.tOr, L2.tNot, L2.tCB, Z.sc_ii, Z.sc_ss, Z.sc_bb, Z.sc_is, Z.sc_si, Z.sc_ni, Z.sc_in, Z.sc_ns, Z.sc_sn, Z.sc_nn, L2.CDiv, L2.CPow, L2.CMul, List.getElem?_cons_zero, List.getElem?_cons_succ, Z.set_z, Z.set_s, Option.some.injEq, L2.V.int.injEq, L2.V.bl.injEq, L2.V.str.injEq, L2.V.ref.injEq, L2.V.ty.injEq, List.cons.injEq, exists_eq_left', exists_and_left, exists_eq_left, exists_eq_right, exists_eq_right', exists_eq', exists_eq, true_and, and_true, and_assoc, decide_eq_true_eq, Int.reduceLT, and_self, Z.rIxH, Z.rIxU, Z.at30, Z.at31, Z.at32, Z.ix3_0, Z.ix3_1, Z.ix3_2, L2.rSetL, L2.gSub, Z.gTupH, L2.gCons, L2.gNil, L2.HO.lst.injEq, L2.HO.tup.injEq, L2.upd_same, L2.upd_upd, L2.tSl, L2.tNoPart, L2.tPart, L2.rSlL, L2.rCat, List.length_append, or_false, false_or, or_true, true_or, reduceCtorEq, false_and, and_false, exists_false, Int.reduceNeg, Int.reducePow, Int.reduceToNat, Int.reduceAbs, Int.reduceLE, Int.reduceMul, Int.reduceAdd, Int.reduceSub, Nat.reducePow, Nat.reduceLT, Nat.reduceLeDiff, Int.natAbs_natCast, if_true, if_false, Z.rIsN, Z.tyN, Z.kit_ii, Z.kit_bi, Z.kit_si, Z.kit_ni, Z.kit_ib, Z.kit_bb, Z.kit_sb, Z.kit_nb, Z.kit_is, Z.kit_bs, Z.kit_ss, Z.kit_ns, Bool.not_true, Bool.not_false, L2.tTup, L2.tLst, L2.wipe, L2.tYes, Z.Turn1, L2.tNever, sizeLine_eq, Z.rInU, Z.rInH, L2.flatV, List.any_cons, List.any_nil, List.all_cons, List.all_nil, Bool.and_true, Bool.true_and, Bool.or_false, Bool.false_or, Z.tBML, L2.rAppend, Z.map_int_inj, Z.map_bl_inj, Z.rTupL, Z.rLstL, Z.rLstT, Z.rSortI, Z.rAnyH, Z.rAllH, Z.rSumH, Z.rLenL, Z.rLenU, List.length_map, L2.tPar, Z.tCallK0, List.getD_cons_zero, List.getD_cons_succ, sp_zigzag_evening, sp_zigzag_beside, sp_zigzag_person, sp_zigzag_place, sp__law_ahead, sp__law_number, sp__law_nights, sp__law_shape]
        refine ⟨kp3.sp, hn0.1, fun j H4 kp4 hj0 hj1 => ?_⟩
        replace kp4 := kp3.trans kp4
        refine z_seq ?_
        simp only [L2.start, List.map_cons, List.map_nil, List.length_cons, List.length_nil, Nat.zero_add, Nat.reduceAdd, Nat.reduceSub, List.replicate_succ, List.replicate_zero, List.cons_append, List.nil_append, List.append_nil, L2.tNext, L2.tAsg, L2.gName, L2.tRet, L2.tRetN, L2.tIfS, L2.tVar, L2.tC, L2.tOp, L2.tUn, L2.rI, L2.rI0, L2.rU, L2.rEq, L2.rNe, L2.tTest, L2.tB, L2.tIf, Z.tIfCI, Z.tIfCS, L2.tChain, L2.tCons, L2.tNil, L2.tCall, L2.tDrop, L2.tAndV, L2.tOrV, L2.tNotV, L2.tAnd, L2.tOr, L2.tNot, L2.tCB, Z.sc_ii, Z.sc_ss, Z.sc_bb, Z.sc_is, Z.sc_si, Z.sc_ni, Z.sc_in, Z.sc_ns, Z.sc_sn, Z.sc_nn, L2.CDiv, L2.CPow, L2.CMul, List.getElem?_cons_zero, List.getElem?_cons_succ, Z.set_z, Z.set_s, Option.some.injEq, L2.V.int.injEq, L2.V.bl.injEq, L2.V.str.injEq, L2.V.ref.injEq, L2.V.ty.injEq, List.cons.injEq, exists_eq_left', exists_and_left, exists_eq_left, exists_eq_right, exists_eq_right', exists_eq', exists_eq, true_and, and_true, and_assoc, decide_eq_true_eq, Int.reduceLT, and_self, Z.rIxH, Z.rIxU, Z.at30, Z.at31, Z.at32, Z.ix3_0, Z.ix3_1, Z.ix3_2, L2.rSetL, L2.gSub, Z.gTupH, L2.gCons, L2.gNil, L2.HO.lst.injEq, L2.HO.tup.injEq, L2.upd_same, L2.upd_upd, L2.tSl, L2.tNoPart, L2.tPart, L2.rSlL, L2.rCat, List.length_append, or_false, false_or, or_true, true_or, reduceCtorEq, false_and, and_false, exists_false, Int.reduceNeg, Int.reducePow, Int.reduceToNat, Int.reduceAbs, Int.reduceLE, Int.reduceMul, Int.reduceAdd, Int.reduceSub, Nat.reducePow, Nat.reduceLT, Nat.reduceLeDiff, Int.natAbs_natCast, if_true, if_false, Z.rIsN, Z.tyN, Z.kit_ii, Z.kit_bi, Z.kit_si, Z.kit_ni, Z.kit_ib, Z.kit_bb, Z.kit_sb, Z.kit_nb, Z.kit_is, Z.kit_bs, Z.kit_ss, Z.kit_ns, Bool.not_true, Bool.not_false, L2.tTup, L2.tLst, L2.wipe, L2.tYes, Z.Turn1, L2.tNever, sizeLine_eq, Z.rInU, Z.rInH, L2.flatV, List.any_cons, List.any_nil, List.all_cons, List.all_nil, Bool.and_true, Bool.true_and, Bool.or_false, Bool.false_or, Z.tBML, L2.rAppend, Z.map_int_inj, Z.map_bl_inj, Z.rTupL, Z.rLstL, Z.rLstT, Z.rSortI, Z.rAnyH, Z.rAllH, Z.rSumH, Z.rLenL, Z.rLenU, List.length_map, L2.tPar, Z.tCallK0, List.getD_cons_zero, List.getD_cons_succ, sp_zigzag_evening, sp_zigzag_beside, sp_zigzag_person, sp_zigzag_place, sp__law_ahead, sp__law_number, sp__law_nights, sp__law_shape]
        refine ⟨fun v H' => v = .int (personAt r n e j) ∧ H' = H4, ?_, ?_⟩
        · simp only [L2.start, List.map_cons, List.map_nil, List.length_cons, List.length_nil, Nat.zero_add, Nat.reduceAdd, Nat.reduceSub, List.replicate_succ, List.replicate_zero, List.cons_append, List.nil_append, List.append_nil, L2.tNext, L2.tAsg, L2.gName, L2.tRet, L2.tRetN, L2.tIfS, L2.tVar, L2.tC, L2.tOp, L2.tUn, L2.rI, L2.rI0, L2.rU, L2.rEq, L2.rNe, L2.tTest, L2.tB, L2.tIf, Z.tIfCI, Z.tIfCS, L2.tChain, L2.tCons, L2.tNil, L2.tCall, L2.tDrop, L2.tAndV, L2.tOrV, L2.tNotV, L2.tAnd, L2.tOr, L2.tNot, L2.tCB, Z.sc_ii, Z.sc_ss, Z.sc_bb, Z.sc_is, Z.sc_si, Z.sc_ni, Z.sc_in, Z.sc_ns, Z.sc_sn, Z.sc_nn, L2.CDiv, L2.CPow, L2.CMul, List.getElem?_cons_zero, List.getElem?_cons_succ, Z.set_z, Z.set_s, Option.some.injEq, L2.V.int.injEq, L2.V.bl.injEq, L2.V.str.injEq, L2.V.ref.injEq, L2.V.ty.injEq, List.cons.injEq, exists_eq_left', exists_and_left, exists_eq_left, exists_eq_right, exists_eq_right', exists_eq', exists_eq, true_and, and_true, and_assoc, decide_eq_true_eq, Int.reduceLT, and_self, Z.rIxH, Z.rIxU, Z.at30, Z.at31, Z.at32, Z.ix3_0, Z.ix3_1, Z.ix3_2, L2.rSetL, L2.gSub, Z.gTupH, L2.gCons, L2.gNil, L2.HO.lst.injEq, L2.HO.tup.injEq, L2.upd_same, L2.upd_upd, L2.tSl, L2.tNoPart, L2.tPart, L2.rSlL, L2.rCat, List.length_append, or_false, false_or, or_true, true_or, reduceCtorEq, false_and, and_false, exists_false, Int.reduceNeg, Int.reducePow, Int.reduceToNat, Int.reduceAbs, Int.reduceLE, Int.reduceMul, Int.reduceAdd, Int.reduceSub, Nat.reducePow, Nat.reduceLT, Nat.reduceLeDiff, Int.natAbs_natCast, if_true, if_false, Z.rIsN, Z.tyN, Z.kit_ii, Z.kit_bi, Z.kit_si, Z.kit_ni, Z.kit_ib, Z.kit_bb, Z.kit_sb, Z.kit_nb, Z.kit_is, Z.kit_bs, Z.kit_ss, Z.kit_ns, Bool.not_true, Bool.not_false, L2.tTup, L2.tLst, L2.wipe, L2.tYes, Z.Turn1, L2.tNever, sizeLine_eq, Z.rInU, Z.rInH, L2.flatV, List.any_cons, List.any_nil, List.all_cons, List.all_nil, Bool.and_true, Bool.true_and, Bool.or_false, Bool.false_or, Z.tBML, L2.rAppend, Z.map_int_inj, Z.map_bl_inj, Z.rTupL, Z.rLstL, Z.rLstT, Z.rSortI, Z.rAnyH, Z.rAllH, Z.rSumH, Z.rLenL, Z.rLenU, List.length_map, L2.tPar, Z.tCallK0, List.getD_cons_zero, List.getD_cons_succ, sp_zigzag_evening, sp_zigzag_beside, sp_zigzag_person, sp_zigzag_place, sp__law_ahead, sp__law_number, sp__law_nights, sp__law_shape]
          unfold personAt
          cases r
          · simp only [Bool.false_eq_true, if_false, Int.sub_zero]
            exact ⟨hn0.1, trivial⟩
          · simp only [if_true]
            by_cases c : j = 0
            · simp only [c, if_true, true_and]
            · simp only [c, if_false, true_and]
              exact ⟨by omega, trivial⟩
        · rintro v H' ⟨rfl, rfl⟩
          have hb := at_bound hs he0 he1 hj0 hj1
          have hx := index_at hs he0 he1 hj0 hj1
          have hen : e < nights r n := by rw [hk]; exact he1
          have big : ∀ z : Int, z < n → z < 2 ^ 200 := fun z h => by omega
          refine z_seq ?_
          simp only [L2.start, List.map_cons, List.map_nil, List.length_cons, List.length_nil, Nat.zero_add, Nat.reduceAdd, Nat.reduceSub, List.replicate_succ, List.replicate_zero, List.cons_append, List.nil_append, List.append_nil, L2.tNext, L2.tAsg, L2.gName, L2.tRet, L2.tRetN, L2.tIfS, L2.tVar, L2.tC, L2.tOp, L2.tUn, L2.rI, L2.rI0, L2.rU, L2.rEq, L2.rNe, L2.tTest, L2.tB, L2.tIf, Z.tIfCI, Z.tIfCS, L2.tChain, L2.tCons, L2.tNil, L2.tCall, L2.tDrop, L2.tAndV, L2.tOrV, L2.tNotV, L2.tAnd, L2.tOr, L2.tNot, L2.tCB, Z.sc_ii, Z.sc_ss, Z.sc_bb, Z.sc_is, Z.sc_si, Z.sc_ni, Z.sc_in, Z.sc_ns, Z.sc_sn, Z.sc_nn, L2.CDiv, L2.CPow, L2.CMul, List.getElem?_cons_zero, List.getElem?_cons_succ, Z.set_z, Z.set_s, Option.some.injEq, L2.V.int.injEq, L2.V.bl.injEq, L2.V.str.injEq, L2.V.ref.injEq, L2.V.ty.injEq, List.cons.injEq, exists_eq_left', exists_and_left, exists_eq_left, exists_eq_right, exists_eq_right', exists_eq', exists_eq, true_and, and_true, and_assoc, decide_eq_true_eq, Int.reduceLT, and_self, Z.rIxH, Z.rIxU, Z.at30, Z.at31, Z.at32, Z.ix3_0, Z.ix3_1, Z.ix3_2, L2.rSetL, L2.gSub, Z.gTupH, L2.gCons, L2.gNil, L2.HO.lst.injEq, L2.HO.tup.injEq, L2.upd_same, L2.upd_upd, L2.tSl, L2.tNoPart, L2.tPart, L2.rSlL, L2.rCat, List.length_append, or_false, false_or, or_true, true_or, reduceCtorEq, false_and, and_false, exists_false, Int.reduceNeg, Int.reducePow, Int.reduceToNat, Int.reduceAbs, Int.reduceLE, Int.reduceMul, Int.reduceAdd, Int.reduceSub, Nat.reducePow, Nat.reduceLT, Nat.reduceLeDiff, Int.natAbs_natCast, if_true, if_false, Z.rIsN, Z.tyN, Z.kit_ii, Z.kit_bi, Z.kit_si, Z.kit_ni, Z.kit_ib, Z.kit_bb, Z.kit_sb, Z.kit_nb, Z.kit_is, Z.kit_bs, Z.kit_ss, Z.kit_ns, Bool.not_true, Bool.not_false, L2.tTup, L2.tLst, L2.wipe, L2.tYes, Z.Turn1, L2.tNever, sizeLine_eq, Z.rInU, Z.rInH, L2.flatV, List.any_cons, List.any_nil, List.all_cons, List.all_nil, Bool.and_true, Bool.true_and, Bool.or_false, Bool.false_or, Z.tBML, L2.rAppend, Z.map_int_inj, Z.map_bl_inj, Z.rTupL, Z.rLstL, Z.rLstT, Z.rSortI, Z.rAnyH, Z.rAllH, Z.rSumH, Z.rLenL, Z.rLenU, List.length_map, L2.tPar, Z.tCallK0, List.getD_cons_zero, List.getD_cons_succ, sp_zigzag_evening, sp_zigzag_beside, sp_zigzag_person, sp_zigzag_place, sp__law_ahead, sp__law_number, sp__law_nights, sp__law_shape, kind_inj]
          refine ⟨hsz, he0, hen, hj0, hj1, fun H5 s5 => ⟨hsz, he0, hen, hj0, hj1, fun H6 s6 c hc => ?_⟩⟩
          have kp6 := (kp4.same s5).same s6
          have low : Low [personAt r n e j, personAt r n e j] := ⟨fun z hz => by
            simp only [List.mem_cons, List.not_mem_nil, or_false, or_self] at hz
            subst hz
            exact ⟨hb.1, big _ hb.2⟩, by show 2 ≤ 200; decide⟩
          refine z_seq ?_
          simp only [L2.start, List.map_cons, List.map_nil, List.length_cons, List.length_nil, Nat.zero_add, Nat.reduceAdd, Nat.reduceSub, List.replicate_succ, List.replicate_zero, List.cons_append, List.nil_append, List.append_nil, L2.tNext, L2.tAsg, L2.gName, L2.tRet, L2.tRetN, L2.tIfS, L2.tVar, L2.tC, L2.tOp, L2.tUn, L2.rI, L2.rI0, L2.rU, L2.rEq, L2.rNe, L2.tTest, L2.tB, L2.tIf, Z.tIfCI, Z.tIfCS, L2.tChain, L2.tCons, L2.tNil, L2.tCall, L2.tDrop, L2.tAndV, L2.tOrV, L2.tNotV, L2.tAnd, L2.tOr, L2.tNot, L2.tCB, Z.sc_ii, Z.sc_ss, Z.sc_bb, Z.sc_is, Z.sc_si, Z.sc_ni, Z.sc_in, Z.sc_ns, Z.sc_sn, Z.sc_nn, L2.CDiv, L2.CPow, L2.CMul, List.getElem?_cons_zero, List.getElem?_cons_succ, Z.set_z, Z.set_s, Option.some.injEq, L2.V.int.injEq, L2.V.bl.injEq, L2.V.str.injEq, L2.V.ref.injEq, L2.V.ty.injEq, List.cons.injEq, exists_eq_left', exists_and_left, exists_eq_left, exists_eq_right, exists_eq_right', exists_eq', exists_eq, true_and, and_true, and_assoc, decide_eq_true_eq, Int.reduceLT, and_self, Z.rIxH, Z.rIxU, Z.at30, Z.at31, Z.at32, Z.ix3_0, Z.ix3_1, Z.ix3_2, L2.rSetL, L2.gSub, Z.gTupH, L2.gCons, L2.gNil, L2.HO.lst.injEq, L2.HO.tup.injEq, L2.upd_same, L2.upd_upd, L2.tSl, L2.tNoPart, L2.tPart, L2.rSlL, L2.rCat, List.length_append, or_false, false_or, or_true, true_or, reduceCtorEq, false_and, and_false, exists_false, Int.reduceNeg, Int.reducePow, Int.reduceToNat, Int.reduceAbs, Int.reduceLE, Int.reduceMul, Int.reduceAdd, Int.reduceSub, Nat.reducePow, Nat.reduceLT, Nat.reduceLeDiff, Int.natAbs_natCast, if_true, if_false, Z.rIsN, Z.tyN, Z.kit_ii, Z.kit_bi, Z.kit_si, Z.kit_ni, Z.kit_ib, Z.kit_bb, Z.kit_sb, Z.kit_nb, Z.kit_is, Z.kit_bs, Z.kit_ss, Z.kit_ns, Bool.not_true, Bool.not_false, L2.tTup, L2.tLst, L2.wipe, L2.tYes, Z.Turn1, L2.tNever, sizeLine_eq, Z.rInU, Z.rInH, L2.flatV, List.any_cons, List.any_nil, List.all_cons, List.all_nil, Bool.and_true, Bool.true_and, Bool.or_false, Bool.false_or, Z.tBML, L2.rAppend, Z.map_int_inj, Z.map_bl_inj, Z.rTupL, Z.rLstL, Z.rLstT, Z.rSortI, Z.rAnyH, Z.rAllH, Z.rSumH, Z.rLenL, Z.rLenU, List.length_map, L2.tPar, Z.tCallK0, List.getD_cons_zero, List.getD_cons_succ, sp_zigzag_evening, sp_zigzag_beside, sp_zigzag_person, sp_zigzag_place, sp__law_ahead, sp__law_number, sp__law_nights, sp__law_shape, kind_inj]
          refine repr_lst upd_same low ?_
          intro b hb2
          refine repr_lst upd_same low ⟨rfl, ?_⟩
          rw [decide_eq_true rfl, if_neg (by decide)]
          have kp7 := (kp6.new (o := .lst [.int (personAt r n e j), .int (personAt r n e j)]) hc).new (o := .lst [.int (personAt r n e j), .int (personAt r n e j)]) hb2
          refine ⟨hsz, he0, hen, hb.1, hb.2, fun H7 s7 => ?_⟩
          simp only [hx, decide_true, Bool.not_true, Bool.false_eq_true, if_false]
          refine z_seq ?_
          simp only [L2.start, List.map_cons, List.map_nil, List.length_cons, List.length_nil, Nat.zero_add, Nat.reduceAdd, Nat.reduceSub, List.replicate_succ, List.replicate_zero, List.cons_append, List.nil_append, List.append_nil, L2.tNext, L2.tAsg, L2.gName, L2.tRet, L2.tRetN, L2.tIfS, L2.tVar, L2.tC, L2.tOp, L2.tUn, L2.rI, L2.rI0, L2.rU, L2.rEq, L2.rNe, L2.tTest, L2.tB, L2.tIf, Z.tIfCI, Z.tIfCS, L2.tChain, L2.tCons, L2.tNil, L2.tCall, L2.tDrop, L2.tAndV, L2.tOrV, L2.tNotV, L2.tAnd, L2.tOr, L2.tNot, L2.tCB, Z.sc_ii, Z.sc_ss, Z.sc_bb, Z.sc_is, Z.sc_si, Z.sc_ni, Z.sc_in, Z.sc_ns, Z.sc_sn, Z.sc_nn, L2.CDiv, L2.CPow, L2.CMul, List.getElem?_cons_zero, List.getElem?_cons_succ, Z.set_z, Z.set_s, Option.some.injEq, L2.V.int.injEq, L2.V.bl.injEq, L2.V.str.injEq, L2.V.ref.injEq, L2.V.ty.injEq, List.cons.injEq, exists_eq_left', exists_and_left, exists_eq_left, exists_eq_right, exists_eq_right', exists_eq', exists_eq, true_and, and_true, and_assoc, decide_eq_true_eq, Int.reduceLT, and_self, Z.rIxH, Z.rIxU, Z.at30, Z.at31, Z.at32, Z.ix3_0, Z.ix3_1, Z.ix3_2, L2.rSetL, L2.gSub, Z.gTupH, L2.gCons, L2.gNil, L2.HO.lst.injEq, L2.HO.tup.injEq, L2.upd_same, L2.upd_upd, L2.tSl, L2.tNoPart, L2.tPart, L2.rSlL, L2.rCat, List.length_append, or_false, false_or, or_true, true_or, reduceCtorEq, false_and, and_false, exists_false, Int.reduceNeg, Int.reducePow, Int.reduceToNat, Int.reduceAbs, Int.reduceLE, Int.reduceMul, Int.reduceAdd, Int.reduceSub, Nat.reducePow, Nat.reduceLT, Nat.reduceLeDiff, Int.natAbs_natCast, if_true, if_false, Z.rIsN, Z.tyN, Z.kit_ii, Z.kit_bi, Z.kit_si, Z.kit_ni, Z.kit_ib, Z.kit_bb, Z.kit_sb, Z.kit_nb, Z.kit_is, Z.kit_bs, Z.kit_ss, Z.kit_ns, Bool.not_true, Bool.not_false, L2.tTup, L2.tLst, L2.wipe, L2.tYes, Z.Turn1, L2.tNever, sizeLine_eq, Z.rInU, Z.rInH, L2.flatV, List.any_cons, List.any_nil, List.all_cons, List.all_nil, Bool.and_true, Bool.true_and, Bool.or_false, Bool.false_or, Z.tBML, L2.rAppend, Z.map_int_inj, Z.map_bl_inj, Z.rTupL, Z.rLstL, Z.rLstT, Z.rSortI, Z.rAnyH, Z.rAllH, Z.rSumH, Z.rLenL, Z.rLenU, List.length_map, L2.tPar, Z.tCallK0, List.getD_cons_zero, List.getD_cons_succ, sp_zigzag_evening, sp_zigzag_beside, sp_zigzag_person, sp_zigzag_place, sp__law_ahead, sp__law_number, sp__law_nights, sp__law_shape, kind_inj]
          refine ⟨hsz, he0, hen, hb.1, hb.2, fun H8 s8 => ?_⟩
          simp only [hx, decide_true, Bool.not_true, Bool.false_eq_true, if_false]
          have kp8 := (kp7.same s7).same s8
          clear s7 s8 kp7 hb2 hc kp6 s5 s6 kp4 kp3
          refine z_seq ?_
          refine lc_mapLn (xs := [.int (-1), .int 1]) (stepF r n j) (fun R h => ?_) (by show 2 ≤ 1000; decide) (fun x hx2 H9 s9 => ?_) fun D H9 hD s9 e9 => ?_
          · simp only [L2.start, List.map_cons, List.map_nil, List.length_cons, List.length_nil, Nat.zero_add, Nat.reduceAdd, Nat.reduceSub, List.replicate_succ, List.replicate_zero, List.cons_append, List.nil_append, List.append_nil, L2.tNext, L2.tAsg, L2.gName, L2.tRet, L2.tRetN, L2.tIfS, L2.tVar, L2.tC, L2.tOp, L2.tUn, L2.rI, L2.rI0, L2.rU, L2.rEq, L2.rNe, L2.tTest, L2.tB, L2.tIf, Z.tIfCI, Z.tIfCS, L2.tChain, L2.tCons, L2.tNil, L2.tCall, L2.tDrop, L2.tAndV, L2.tOrV, L2.tNotV, L2.tAnd, L2.tOr, L2.tNot, L2.tCB, Z.sc_ii, Z.sc_ss, Z.sc_bb, Z.sc_is, Z.sc_si, Z.sc_ni, Z.sc_in, Z.sc_ns, Z.sc_sn, Z.sc_nn, L2.CDiv, L2.CPow, L2.CMul, List.getElem?_cons_zero, List.getElem?_cons_succ, Z.set_z, Z.set_s, Option.some.injEq, L2.V.int.injEq, L2.V.bl.injEq, L2.V.str.injEq, L2.V.ref.injEq, L2.V.ty.injEq, List.cons.injEq, exists_eq_left', exists_and_left, exists_eq_left, exists_eq_right, exists_eq_right', exists_eq', exists_eq, true_and, and_true, and_assoc, decide_eq_true_eq, Int.reduceLT, and_self, Z.rIxH, Z.rIxU, Z.at30, Z.at31, Z.at32, Z.ix3_0, Z.ix3_1, Z.ix3_2, L2.rSetL, L2.gSub, Z.gTupH, L2.gCons, L2.gNil, L2.HO.lst.injEq, L2.HO.tup.injEq, L2.upd_same, L2.upd_upd, L2.tSl, L2.tNoPart, L2.tPart, L2.rSlL, L2.rCat, List.length_append, or_false, false_or, or_true, true_or, reduceCtorEq, false_and, and_false, exists_false, Int.reduceNeg, Int.reducePow, Int.reduceToNat, Int.reduceAbs, Int.reduceLE, Int.reduceMul, Int.reduceAdd, Int.reduceSub, Nat.reducePow, Nat.reduceLT, Nat.reduceLeDiff, Int.natAbs_natCast, if_true, if_false, Z.rIsN, Z.tyN, Z.kit_ii, Z.kit_bi, Z.kit_si, Z.kit_ni, Z.kit_ib, Z.kit_bb, Z.kit_sb, Z.kit_nb, Z.kit_is, Z.kit_bs, Z.kit_ss, Z.kit_ns, Bool.not_true, Bool.not_false, L2.tTup, L2.tLst, L2.wipe, L2.tYes, Z.Turn1, L2.tNever, sizeLine_eq, Z.rInU, Z.rInH, L2.flatV, List.any_cons, List.any_nil, List.all_cons, List.all_nil, Bool.and_true, Bool.true_and, Bool.or_false, Bool.false_or, Z.tBML, L2.rAppend, Z.map_int_inj, Z.map_bl_inj, Z.rTupL, Z.rLstL, Z.rLstT, Z.rSortI, Z.rAnyH, Z.rAllH, Z.rSumH, Z.rLenL, Z.rLenU, List.length_map, L2.tPar, Z.tCallK0, List.getD_cons_zero, List.getD_cons_succ, sp_zigzag_evening, sp_zigzag_beside, sp_zigzag_person, sp_zigzag_place, sp__law_ahead, sp__law_number, sp__law_nights, sp__law_shape]
            exact h
          · obtain ⟨z, rfl⟩ : ∃ z : Int, x = .int z := by
              simp only [List.mem_cons, List.not_mem_nil, or_false] at hx2
              rcases hx2 with rfl | rfl <;> exact ⟨_, rfl⟩
            intro Y N hY hN
            simp only [L2.start, List.map_cons, List.map_nil, List.length_cons, List.length_nil, Nat.zero_add, Nat.reduceAdd, Nat.reduceSub, List.replicate_succ, List.replicate_zero, List.cons_append, List.nil_append, List.append_nil, L2.tNext, L2.tAsg, L2.gName, L2.tRet, L2.tRetN, L2.tIfS, L2.tVar, L2.tC, L2.tOp, L2.tUn, L2.rI, L2.rI0, L2.rU, L2.rEq, L2.rNe, L2.tTest, L2.tB, L2.tIf, Z.tIfCI, Z.tIfCS, L2.tChain, L2.tCons, L2.tNil, L2.tCall, L2.tDrop, L2.tAndV, L2.tOrV, L2.tNotV, L2.tAnd, L2.tOr, L2.tNot, L2.tCB, Z.sc_ii, Z.sc_ss, Z.sc_bb, Z.sc_is, Z.sc_si, Z.sc_ni, Z.sc_in, Z.sc_ns, Z.sc_sn, Z.sc_nn, L2.CDiv, L2.CPow, L2.CMul, List.getElem?_cons_zero, List.getElem?_cons_succ, Z.set_z, Z.set_s, Option.some.injEq, L2.V.int.injEq, L2.V.bl.injEq, L2.V.str.injEq, L2.V.ref.injEq, L2.V.ty.injEq, List.cons.injEq, exists_eq_left', exists_and_left, exists_eq_left, exists_eq_right, exists_eq_right', exists_eq', exists_eq, true_and, and_true, and_assoc, decide_eq_true_eq, Int.reduceLT, and_self, Z.rIxH, Z.rIxU, Z.at30, Z.at31, Z.at32, Z.ix3_0, Z.ix3_1, Z.ix3_2, L2.rSetL, L2.gSub, Z.gTupH, L2.gCons, L2.gNil, L2.HO.lst.injEq, L2.HO.tup.injEq, L2.upd_same, L2.upd_upd, L2.tSl, L2.tNoPart, L2.tPart, L2.rSlL, L2.rCat, List.length_append, or_false, false_or, or_true, true_or, reduceCtorEq, false_and, and_false, exists_false, Int.reduceNeg, Int.reducePow, Int.reduceToNat, Int.reduceAbs, Int.reduceLE, Int.reduceMul, Int.reduceAdd, Int.reduceSub, Nat.reducePow, Nat.reduceLT, Nat.reduceLeDiff, Int.natAbs_natCast, if_true, if_false, Z.rIsN, Z.tyN, Z.kit_ii, Z.kit_bi, Z.kit_si, Z.kit_ni, Z.kit_ib, Z.kit_bb, Z.kit_sb, Z.kit_nb, Z.kit_is, Z.kit_bs, Z.kit_ss, Z.kit_ns, Bool.not_true, Bool.not_false, L2.tTup, L2.tLst, L2.wipe, L2.tYes, Z.Turn1, L2.tNever, sizeLine_eq, Z.rInU, Z.rInH, L2.flatV, List.any_cons, List.any_nil, List.all_cons, List.all_nil, Bool.and_true, Bool.true_and, Bool.or_false, Bool.false_or, Z.tBML, L2.rAppend, Z.map_int_inj, Z.map_bl_inj, Z.rTupL, Z.rLstL, Z.rLstT, Z.rSortI, Z.rAnyH, Z.rAllH, Z.rSumH, Z.rLenL, Z.rLenU, List.length_map, L2.tPar, Z.tCallK0, List.getD_cons_zero, List.getD_cons_succ, sp_zigzag_evening, sp_zigzag_beside, sp_zigzag_person, sp_zigzag_place, sp__law_ahead, sp__law_number, sp__law_nights, sp__law_shape, kind_inj]
            have yes : (r = true ∨ (0 ≤ j + z ∧ j + z < n)) → Y (.int ((j + z) % n)) H9 := fun c => hY _ H9 (if_pos c) (Same.refl _)
            have no : ¬ (r = true ∨ (0 ≤ j + z ∧ j + z < n)) → N H9 := fun c => hN H9 (if_neg c) (Same.refl _)
            by_cases c : r = true
            · rw [if_pos c]
              exact ⟨hn0.1, yes (.inl c)⟩
            · rw [if_neg c]
              by_cases c1 : 0 ≤ j + z
              · rw [if_pos c1]
                by_cases c2 : j + z < n
                · rw [if_pos c2]
                  exact ⟨hn0.1, yes (.inr ⟨c1, c2⟩)⟩
                · rw [if_neg c2]
                  exact no fun z => z.elim c fun z => c2 z.2
              · rw [if_neg c1]
                exact no fun z => z.elim c fun z => c1 z.1
          · have e10 : H9 D = some (.lst ((spots r n j).map V.int)) := by
              rw [e9, spots_steps hs hj0 hj1]
            clear e9
            have kp9 := kp8.same s9
            clear kp8 s9
            simp only [L2.start, List.map_cons, List.map_nil, List.length_cons, List.length_nil, Nat.zero_add, Nat.reduceAdd, Nat.reduceSub, List.replicate_succ, List.replicate_zero, List.cons_append, List.nil_append, List.append_nil, L2.tNext, L2.tAsg, L2.gName, L2.tRet, L2.tRetN, L2.tIfS, L2.tVar, L2.tC, L2.tOp, L2.tUn, L2.rI, L2.rI0, L2.rU, L2.rEq, L2.rNe, L2.tTest, L2.tB, L2.tIf, Z.tIfCI, Z.tIfCS, L2.tChain, L2.tCons, L2.tNil, L2.tCall, L2.tDrop, L2.tAndV, L2.tOrV, L2.tNotV, L2.tAnd, L2.tOr, L2.tNot, L2.tCB, Z.sc_ii, Z.sc_ss, Z.sc_bb, Z.sc_is, Z.sc_si, Z.sc_ni, Z.sc_in, Z.sc_ns, Z.sc_sn, Z.sc_nn, L2.CDiv, L2.CPow, L2.CMul, List.getElem?_cons_zero, List.getElem?_cons_succ, Z.set_z, Z.set_s, Option.some.injEq, L2.V.int.injEq, L2.V.bl.injEq, L2.V.str.injEq, L2.V.ref.injEq, L2.V.ty.injEq, List.cons.injEq, exists_eq_left', exists_and_left, exists_eq_left, exists_eq_right, exists_eq_right', exists_eq', exists_eq, true_and, and_true, and_assoc, decide_eq_true_eq, Int.reduceLT, and_self, Z.rIxH, Z.rIxU, Z.at30, Z.at31, Z.at32, Z.ix3_0, Z.ix3_1, Z.ix3_2, L2.rSetL, L2.gSub, Z.gTupH, L2.gCons, L2.gNil, L2.HO.lst.injEq, L2.HO.tup.injEq, L2.upd_same, L2.upd_upd, L2.tSl, L2.tNoPart, L2.tPart, L2.rSlL, L2.rCat, List.length_append, or_false, false_or, or_true, true_or, reduceCtorEq, false_and, and_false, exists_false, Int.reduceNeg, Int.reducePow, Int.reduceToNat, Int.reduceAbs, Int.reduceLE, Int.reduceMul, Int.reduceAdd, Int.reduceSub, Nat.reducePow, Nat.reduceLT, Nat.reduceLeDiff, Int.natAbs_natCast, if_true, if_false, Z.rIsN, Z.tyN, Z.kit_ii, Z.kit_bi, Z.kit_si, Z.kit_ni, Z.kit_ib, Z.kit_bb, Z.kit_sb, Z.kit_nb, Z.kit_is, Z.kit_bs, Z.kit_ss, Z.kit_ns, Bool.not_true, Bool.not_false, L2.tTup, L2.tLst, L2.wipe, L2.tYes, Z.Turn1, L2.tNever, sizeLine_eq, Z.rInU, Z.rInH, L2.flatV, List.any_cons, List.any_nil, List.all_cons, List.all_nil, Bool.and_true, Bool.true_and, Bool.or_false, Bool.false_or, Z.tBML, L2.rAppend, Z.map_int_inj, Z.map_bl_inj, Z.rTupL, Z.rLstL, Z.rLstT, Z.rSortI, Z.rAnyH, Z.rAllH, Z.rSumH, Z.rLenL, Z.rLenU, List.length_map, L2.tPar, Z.tCallK0, List.getD_cons_zero, List.getD_cons_succ, sp_zigzag_evening, sp_zigzag_beside, sp_zigzag_person, sp_zigzag_place, sp__law_ahead, sp__law_number, sp__law_nights, sp__law_shape]
            refine z_seq ?_
            refine lc_mapL (H1 := H9) (int1 (personAt r n e)) (fun R h => ⟨_, rfl, h⟩) (SqL.of e10) (by rw [List.length_map]; have := spots_len r n j; omega) (fun x hx2 H10 s10 => ?_) fun M H10 hM s10 e11 => ?_
            · obtain ⟨z, hz, rfl⟩ := mem_ints hx2
              obtain ⟨z0, z1, _⟩ := spots_in hs hj0 hj1 hz
              intro Y N hY hN
              simp only [L2.start, List.map_cons, List.map_nil, List.length_cons, List.length_nil, Nat.zero_add, Nat.reduceAdd, Nat.reduceSub, List.replicate_succ, List.replicate_zero, List.cons_append, List.nil_append, List.append_nil, L2.tNext, L2.tAsg, L2.gName, L2.tRet, L2.tRetN, L2.tIfS, L2.tVar, L2.tC, L2.tOp, L2.tUn, L2.rI, L2.rI0, L2.rU, L2.rEq, L2.rNe, L2.tTest, L2.tB, L2.tIf, Z.tIfCI, Z.tIfCS, L2.tChain, L2.tCons, L2.tNil, L2.tCall, L2.tDrop, L2.tAndV, L2.tOrV, L2.tNotV, L2.tAnd, L2.tOr, L2.tNot, L2.tCB, Z.sc_ii, Z.sc_ss, Z.sc_bb, Z.sc_is, Z.sc_si, Z.sc_ni, Z.sc_in, Z.sc_ns, Z.sc_sn, Z.sc_nn, L2.CDiv, L2.CPow, L2.CMul, List.getElem?_cons_zero, List.getElem?_cons_succ, Z.set_z, Z.set_s, Option.some.injEq, L2.V.int.injEq, L2.V.bl.injEq, L2.V.str.injEq, L2.V.ref.injEq, L2.V.ty.injEq, List.cons.injEq, exists_eq_left', exists_and_left, exists_eq_left, exists_eq_right, exists_eq_right', exists_eq', exists_eq, true_and, and_true, and_assoc, decide_eq_true_eq, Int.reduceLT, and_self, Z.rIxH, Z.rIxU, Z.at30, Z.at31, Z.at32, Z.ix3_0, Z.ix3_1, Z.ix3_2, L2.rSetL, L2.gSub, Z.gTupH, L2.gCons, L2.gNil, L2.HO.lst.injEq, L2.HO.tup.injEq, L2.upd_same, L2.upd_upd, L2.tSl, L2.tNoPart, L2.tPart, L2.rSlL, L2.rCat, List.length_append, or_false, false_or, or_true, true_or, reduceCtorEq, false_and, and_false, exists_false, Int.reduceNeg, Int.reducePow, Int.reduceToNat, Int.reduceAbs, Int.reduceLE, Int.reduceMul, Int.reduceAdd, Int.reduceSub, Nat.reducePow, Nat.reduceLT, Nat.reduceLeDiff, Int.natAbs_natCast, if_true, if_false, Z.rIsN, Z.tyN, Z.kit_ii, Z.kit_bi, Z.kit_si, Z.kit_ni, Z.kit_ib, Z.kit_bb, Z.kit_sb, Z.kit_nb, Z.kit_is, Z.kit_bs, Z.kit_ss, Z.kit_ns, Bool.not_true, Bool.not_false, L2.tTup, L2.tLst, L2.wipe, L2.tYes, Z.Turn1, L2.tNever, sizeLine_eq, Z.rInU, Z.rInH, L2.flatV, List.any_cons, List.any_nil, List.all_cons, List.all_nil, Bool.and_true, Bool.true_and, Bool.or_false, Bool.false_or, Z.tBML, L2.rAppend, Z.map_int_inj, Z.map_bl_inj, Z.rTupL, Z.rLstL, Z.rLstT, Z.rSortI, Z.rAnyH, Z.rAllH, Z.rSumH, Z.rLenL, Z.rLenU, List.length_map, L2.tPar, Z.tCallK0, List.getD_cons_zero, List.getD_cons_succ, sp_zigzag_evening, sp_zigzag_beside, sp_zigzag_person, sp_zigzag_place, sp__law_ahead, sp__law_number, sp__law_nights, sp__law_shape, kind_inj]
              exact ⟨hsz, he0, hen, z0, z1, fun H11 s11 => hY _ H11 rfl s11⟩
            · rw [fm_int1] at e11
              have kp10 := kp9.same s10
              simp only [L2.start, List.map_cons, List.map_nil, List.length_cons, List.length_nil, Nat.zero_add, Nat.reduceAdd, Nat.reduceSub, List.replicate_succ, List.replicate_zero, List.cons_append, List.nil_append, List.append_nil, L2.tNext, L2.tAsg, L2.gName, L2.tRet, L2.tRetN, L2.tIfS, L2.tVar, L2.tC, L2.tOp, L2.tUn, L2.rI, L2.rI0, L2.rU, L2.rEq, L2.rNe, L2.tTest, L2.tB, L2.tIf, Z.tIfCI, Z.tIfCS, L2.tChain, L2.tCons, L2.tNil, L2.tCall, L2.tDrop, L2.tAndV, L2.tOrV, L2.tNotV, L2.tAnd, L2.tOr, L2.tNot, L2.tCB, Z.sc_ii, Z.sc_ss, Z.sc_bb, Z.sc_is, Z.sc_si, Z.sc_ni, Z.sc_in, Z.sc_ns, Z.sc_sn, Z.sc_nn, L2.CDiv, L2.CPow, L2.CMul, List.getElem?_cons_zero, List.getElem?_cons_succ, Z.set_z, Z.set_s, Option.some.injEq, L2.V.int.injEq, L2.V.bl.injEq, L2.V.str.injEq, L2.V.ref.injEq, L2.V.ty.injEq, List.cons.injEq, exists_eq_left', exists_and_left, exists_eq_left, exists_eq_right, exists_eq_right', exists_eq', exists_eq, true_and, and_true, and_assoc, decide_eq_true_eq, Int.reduceLT, and_self, Z.rIxH, Z.rIxU, Z.at30, Z.at31, Z.at32, Z.ix3_0, Z.ix3_1, Z.ix3_2, L2.rSetL, L2.gSub, Z.gTupH, L2.gCons, L2.gNil, L2.HO.lst.injEq, L2.HO.tup.injEq, L2.upd_same, L2.upd_upd, L2.tSl, L2.tNoPart, L2.tPart, L2.rSlL, L2.rCat, List.length_append, or_false, false_or, or_true, true_or, reduceCtorEq, false_and, and_false, exists_false, Int.reduceNeg, Int.reducePow, Int.reduceToNat, Int.reduceAbs, Int.reduceLE, Int.reduceMul, Int.reduceAdd, Int.reduceSub, Nat.reducePow, Nat.reduceLT, Nat.reduceLeDiff, Int.natAbs_natCast, if_true, if_false, Z.rIsN, Z.tyN, Z.kit_ii, Z.kit_bi, Z.kit_si, Z.kit_ni, Z.kit_ib, Z.kit_bb, Z.kit_sb, Z.kit_nb, Z.kit_is, Z.kit_bs, Z.kit_ss, Z.kit_ns, Bool.not_true, Bool.not_false, L2.tTup, L2.tLst, L2.wipe, L2.tYes, Z.Turn1, L2.tNever, sizeLine_eq, Z.rInU, Z.rInH, L2.flatV, List.any_cons, List.any_nil, List.all_cons, List.all_nil, Bool.and_true, Bool.true_and, Bool.or_false, Bool.false_or, Z.tBML, L2.rAppend, Z.map_int_inj, Z.map_bl_inj, Z.rTupL, Z.rLstL, Z.rLstT, Z.rSortI, Z.rAnyH, Z.rAllH, Z.rSumH, Z.rLenL, Z.rLenU, List.length_map, L2.tPar, Z.tCallK0, List.getD_cons_zero, List.getD_cons_succ, sp_zigzag_evening, sp_zigzag_beside, sp_zigzag_person, sp_zigzag_place, sp__law_ahead, sp__law_number, sp__law_nights, sp__law_shape]
              refine z_seq ?_
              simp only [L2.start, List.map_cons, List.map_nil, List.length_cons, List.length_nil, Nat.zero_add, Nat.reduceAdd, Nat.reduceSub, List.replicate_succ, List.replicate_zero, List.cons_append, List.nil_append, List.append_nil, L2.tNext, L2.tAsg, L2.gName, L2.tRet, L2.tRetN, L2.tIfS, L2.tVar, L2.tC, L2.tOp, L2.tUn, L2.rI, L2.rI0, L2.rU, L2.rEq, L2.rNe, L2.tTest, L2.tB, L2.tIf, Z.tIfCI, Z.tIfCS, L2.tChain, L2.tCons, L2.tNil, L2.tCall, L2.tDrop, L2.tAndV, L2.tOrV, L2.tNotV, L2.tAnd, L2.tOr, L2.tNot, L2.tCB, Z.sc_ii, Z.sc_ss, Z.sc_bb, Z.sc_is, Z.sc_si, Z.sc_ni, Z.sc_in, Z.sc_ns, Z.sc_sn, Z.sc_nn, L2.CDiv, L2.CPow, L2.CMul, List.getElem?_cons_zero, List.getElem?_cons_succ, Z.set_z, Z.set_s, Option.some.injEq, L2.V.int.injEq, L2.V.bl.injEq, L2.V.str.injEq, L2.V.ref.injEq, L2.V.ty.injEq, List.cons.injEq, exists_eq_left', exists_and_left, exists_eq_left, exists_eq_right, exists_eq_right', exists_eq', exists_eq, true_and, and_true, and_assoc, decide_eq_true_eq, Int.reduceLT, and_self, Z.rIxH, Z.rIxU, Z.at30, Z.at31, Z.at32, Z.ix3_0, Z.ix3_1, Z.ix3_2, L2.rSetL, L2.gSub, Z.gTupH, L2.gCons, L2.gNil, L2.HO.lst.injEq, L2.HO.tup.injEq, L2.upd_same, L2.upd_upd, L2.tSl, L2.tNoPart, L2.tPart, L2.rSlL, L2.rCat, List.length_append, or_false, false_or, or_true, true_or, reduceCtorEq, false_and, and_false, exists_false, Int.reduceNeg, Int.reducePow, Int.reduceToNat, Int.reduceAbs, Int.reduceLE, Int.reduceMul, Int.reduceAdd, Int.reduceSub, Nat.reducePow, Nat.reduceLT, Nat.reduceLeDiff, Int.natAbs_natCast, if_true, if_false, Z.rIsN, Z.tyN, Z.kit_ii, Z.kit_bi, Z.kit_si, Z.kit_ni, Z.kit_ib, Z.kit_bb, Z.kit_sb, Z.kit_nb, Z.kit_is, Z.kit_bs, Z.kit_ss, Z.kit_ns, Bool.not_true, Bool.not_false, L2.tTup, L2.tLst, L2.wipe, L2.tYes, Z.Turn1, L2.tNever, sizeLine_eq, Z.rInU, Z.rInH, L2.flatV, List.any_cons, List.any_nil, List.all_cons, List.all_nil, Bool.and_true, Bool.true_and, Bool.or_false, Bool.false_or, Z.tBML, L2.rAppend, Z.map_int_inj, Z.map_bl_inj, Z.rTupL, Z.rLstL, Z.rLstT, Z.rSortI, Z.rAnyH, Z.rAllH, Z.rSumH, Z.rLenL, Z.rLenU, List.length_map, L2.tPar, Z.tCallK0, List.getD_cons_zero, List.getD_cons_succ, sp_zigzag_evening, sp_zigzag_beside, sp_zigzag_person, sp_zigzag_place, sp__law_ahead, sp__law_number, sp__law_nights, sp__law_shape, kind_inj]
              have eb : besideL r n e (personAt r n e j) = ((spots r n j).map (personAt r n e)).mergeSort := by
                unfold besideL
                rw [hx]
              rw [eb]
              refine ⟨hsz, he0, hen, hb.1, hb.2, fun H11 t4 ht4 s11 e12 => ⟨hsz, he0, hen, hb.1, hb.2, fun H12 t5 ht5 s12 e13 => fun c2 hc2 => ?_⟩⟩
              refine z_seq ?_
              simp only [L2.start, List.map_cons, List.map_nil, List.length_cons, List.length_nil, Nat.zero_add, Nat.reduceAdd, Nat.reduceSub, List.replicate_succ, List.replicate_zero, List.cons_append, List.nil_append, List.append_nil, L2.tNext, L2.tAsg, L2.gName, L2.tRet, L2.tRetN, L2.tIfS, L2.tVar, L2.tC, L2.tOp, L2.tUn, L2.rI, L2.rI0, L2.rU, L2.rEq, L2.rNe, L2.tTest, L2.tB, L2.tIf, Z.tIfCI, Z.tIfCS, L2.tChain, L2.tCons, L2.tNil, L2.tCall, L2.tDrop, L2.tAndV, L2.tOrV, L2.tNotV, L2.tAnd, L2.tOr, L2.tNot, L2.tCB, Z.sc_ii, Z.sc_ss, Z.sc_bb, Z.sc_is, Z.sc_si, Z.sc_ni, Z.sc_in, Z.sc_ns, Z.sc_sn, Z.sc_nn, L2.CDiv, L2.CPow, L2.CMul, List.getElem?_cons_zero, List.getElem?_cons_succ, Z.set_z, Z.set_s, Option.some.injEq, L2.V.int.injEq, L2.V.bl.injEq, L2.V.str.injEq, L2.V.ref.injEq, L2.V.ty.injEq, List.cons.injEq, exists_eq_left', exists_and_left, exists_eq_left, exists_eq_right, exists_eq_right', exists_eq', exists_eq, true_and, and_true, and_assoc, decide_eq_true_eq, Int.reduceLT, and_self, Z.rIxH, Z.rIxU, Z.at30, Z.at31, Z.at32, Z.ix3_0, Z.ix3_1, Z.ix3_2, L2.rSetL, L2.gSub, Z.gTupH, L2.gCons, L2.gNil, L2.HO.lst.injEq, L2.HO.tup.injEq, L2.upd_same, L2.upd_upd, L2.tSl, L2.tNoPart, L2.tPart, L2.rSlL, L2.rCat, List.length_append, or_false, false_or, or_true, true_or, reduceCtorEq, false_and, and_false, exists_false, Int.reduceNeg, Int.reducePow, Int.reduceToNat, Int.reduceAbs, Int.reduceLE, Int.reduceMul, Int.reduceAdd, Int.reduceSub, Nat.reducePow, Nat.reduceLT, Nat.reduceLeDiff, Int.natAbs_natCast, if_true, if_false, Z.rIsN, Z.tyN, Z.kit_ii, Z.kit_bi, Z.kit_si, Z.kit_ni, Z.kit_ib, Z.kit_bb, Z.kit_sb, Z.kit_nb, Z.kit_is, Z.kit_bs, Z.kit_ss, Z.kit_ns, Bool.not_true, Bool.not_false, L2.tTup, L2.tLst, L2.wipe, L2.tYes, Z.Turn1, L2.tNever, sizeLine_eq, Z.rInU, Z.rInH, L2.flatV, List.any_cons, List.any_nil, List.all_cons, List.all_nil, Bool.and_true, Bool.true_and, Bool.or_false, Bool.false_or, Z.tBML, L2.rAppend, Z.map_int_inj, Z.map_bl_inj, Z.rTupL, Z.rLstL, Z.rLstT, Z.rSortI, Z.rAnyH, Z.rAllH, Z.rSumH, Z.rLenL, Z.rLenU, List.length_map, L2.tPar, Z.tCallK0, List.getD_cons_zero, List.getD_cons_succ, sp_zigzag_evening, sp_zigzag_beside, sp_zigzag_person, sp_zigzag_place, sp__law_ahead, sp__law_number, sp__law_nights, sp__law_shape, kind_inj]
              have lowB : Low ((spots r n j).map (personAt r n e)).mergeSort := by
                refine ⟨fun i hi => ?_, ?_⟩
                · rw [List.mem_mergeSort] at hi
                  obtain ⟨z, hz, rfl⟩ := List.mem_map.mp hi
                  obtain ⟨z0, z1, _⟩ := spots_in hs hj0 hj1 hz
                  have b2 := at_bound hs he0 he1 z0 z1
                  exact ⟨b2.1, big _ b2.2⟩
                · rw [List.length_mergeSort, List.length_map]
                  have := spots_len r n j
                  omega
              have lows : ∀ l ∈ [((spots r n j).map (personAt r n e)).mergeSort, ((spots r n j).map (personAt r n e)).mergeSort], Low l := by
                intro l hl
                simp only [List.mem_cons, List.not_mem_nil, or_false, or_self] at hl
                rw [hl]
                exact lowB
              have s13 := same_new (o := .lst [.ref t4, .ref t5]) hc2
              refine repr_ltups (as := [t4, t5]) (ls := [((spots r n j).map (personAt r n e)).mergeSort, ((spots r n j).map (personAt r n e)).mergeSort]) upd_same (.cons (s13 _ _ (s12 _ _ e12)) (.cons (s13 _ _ e13) .nil)) lows (by show 2 ≤ 4; decide) ?_
              have kp13 := ((kp10.same s11).same s12).same s13
              have e14 := s13 _ _ (s12 _ _ (s11 _ _ e11))
              refine ⟨_, e14, by rw [List.length_map]; have := spots_len r n j; omega, fun u1 hu1 u2 hu2 u3 hu3 => ?_⟩
              have s14 := same_new (o := .lst (((spots r n j).map (personAt r n e)).mergeSort.map V.int)) hu1
              have s15 := same_new (o := .tup (((spots r n j).map (personAt r n e)).mergeSort.map V.int)) hu2
              have s16 := same_new (o := .lst [.ref u2]) hu3
              refine ⟨u3, 2, [.ref u2], rfl, rfl, upd_same, by decide, by decide, by rw [sizeLine_eq]; show 2 ≤ 16777216; decide, fun u4 hu4 => ?_⟩
              have er : (List.replicate (Int.toNat 2) [V.ref u2]).flatten = [V.ref u2, V.ref u2] := rfl
              rw [er]
              have s17 := same_new (o := .lst [.ref u2, .ref u2]) hu4
              have e17 := s17 _ _ (s16 _ _ (upd_same (H := upd (upd H12 c2 (.lst [.ref t4, .ref t5])) u1 (.lst (((spots r n j).map (personAt r n e)).mergeSort.map V.int))) (a := u2) (o := .tup (((spots r n j).map (personAt r n e)).mergeSort.map V.int))))
              refine repr_ltups (as := [u2, u2]) (ls := [((spots r n j).map (personAt r n e)).mergeSort, ((spots r n j).map (personAt r n e)).mergeSort]) upd_same (.cons e17 (.cons e17 .nil)) lows (by show 2 ≤ 4; decide) ⟨rfl, ?_⟩
              rw [decide_eq_true rfl, if_neg (by decide)]
              have kp17 := (((kp13.same s14).same s15).same s16).same s17
              have e18 := s17 _ _ (s16 _ _ (s15 _ _ (s14 _ _ e14)))
              clear hu1 hu2 hu3 hu4 s14 s15 s16 kp13
              have hMH : M ≠ p := Ne.symm (ne_of_spring kp9.sp hM)
              refine for_trk (a := M) (xs := ((spots r n j).map (personAt r n e)).map V.int) (fun R h => ⟨_, rfl, h⟩) (fun _ σ' H' => ∃ w11 w14 : Option V, σ' = [some (.ref p), some (.int i), some (.str (kindS r)), some (.int n), some (.bl r), some (.int (nights r n)), some (.int (n - if r = true then 1 else 0)), some (.int e), some (.int m), some (.int j), some (.int (personAt r n e j)), w11, some (.ref D), some (.ref M), w14, w15, w16] ∧ Kp p H H' ∧ H' M = some (.lst (((spots r n j).map (personAt r n e)).map V.int))) ⟨_, _, rfl, kp17, e18⟩ (fun _ _ _ h => by obtain ⟨_, _, _, _, h⟩ := h; exact SqL.of h) ?_ ?_
              · rintro ix x σ' H' hix ⟨w11, u14, rfl, kpx, ex⟩ N hN
                obtain ⟨x0, hm2, rfl⟩ := mem_ints (List.mem_of_getElem? hix)
                obtain ⟨f, hf, rfl⟩ := List.mem_map.mp hm2
                obtain ⟨f0, f1, _⟩ := spots_in hs hj0 hj1 hf
                have fb := at_bound hs he0 he1 f0 f1
                have fne : personAt r n e f ≠ personAt r n e j := fun z => by
                  have z2 := congrArg (indexOf r n e) z
                  rw [index_at hs he0 he1 f0 f1, hx] at z2
                  exact spots_ne hs hj0 hj1 hf z2
                have ev := evening_spot hs he0 he1 hj0 hj1 hf
                have ev2 : eveningOf r n (personAt r n e f) (personAt r n e j) = e := by rw [evening_comm]; exact ev
                simp only [L2.start, List.map_cons, List.map_nil, List.length_cons, List.length_nil, Nat.zero_add, Nat.reduceAdd, Nat.reduceSub, List.replicate_succ, List.replicate_zero, List.cons_append, List.nil_append, List.append_nil, L2.tNext, L2.tAsg, L2.gName, L2.tRet, L2.tRetN, L2.tIfS, L2.tVar, L2.tC, L2.tOp, L2.tUn, L2.rI, L2.rI0, L2.rU, L2.rEq, L2.rNe, L2.tTest, L2.tB, L2.tIf, Z.tIfCI, Z.tIfCS, L2.tChain, L2.tCons, L2.tNil, L2.tCall, L2.tDrop, L2.tAndV, L2.tOrV, L2.tNotV, L2.tAnd, L2.tOr, L2.tNot, L2.tCB, Z.sc_ii, Z.sc_ss, Z.sc_bb, Z.sc_is, Z.sc_si, Z.sc_ni, Z.sc_in, Z.sc_ns, Z.sc_sn, Z.sc_nn, L2.CDiv, L2.CPow, L2.CMul, List.getElem?_cons_zero, List.getElem?_cons_succ, Z.set_z, Z.set_s, Option.some.injEq, L2.V.int.injEq, L2.V.bl.injEq, L2.V.str.injEq, L2.V.ref.injEq, L2.V.ty.injEq, List.cons.injEq, exists_eq_left', exists_and_left, exists_eq_left, exists_eq_right, exists_eq_right', exists_eq', exists_eq, true_and, and_true, and_assoc, decide_eq_true_eq, Int.reduceLT, and_self, Z.rIxH, Z.rIxU, Z.at30, Z.at31, Z.at32, Z.ix3_0, Z.ix3_1, Z.ix3_2, L2.rSetL, L2.gSub, Z.gTupH, L2.gCons, L2.gNil, L2.HO.lst.injEq, L2.HO.tup.injEq, L2.upd_same, L2.upd_upd, L2.tSl, L2.tNoPart, L2.tPart, L2.rSlL, L2.rCat, List.length_append, or_false, false_or, or_true, true_or, reduceCtorEq, false_and, and_false, exists_false, Int.reduceNeg, Int.reducePow, Int.reduceToNat, Int.reduceAbs, Int.reduceLE, Int.reduceMul, Int.reduceAdd, Int.reduceSub, Nat.reducePow, Nat.reduceLT, Nat.reduceLeDiff, Int.natAbs_natCast, if_true, if_false, Z.rIsN, Z.tyN, Z.kit_ii, Z.kit_bi, Z.kit_si, Z.kit_ni, Z.kit_ib, Z.kit_bb, Z.kit_sb, Z.kit_nb, Z.kit_is, Z.kit_bs, Z.kit_ss, Z.kit_ns, Bool.not_true, Bool.not_false, L2.tTup, L2.tLst, L2.wipe, L2.tYes, Z.Turn1, L2.tNever, sizeLine_eq, Z.rInU, Z.rInH, L2.flatV, List.any_cons, List.any_nil, List.all_cons, List.all_nil, Bool.and_true, Bool.true_and, Bool.or_false, Bool.false_or, Z.tBML, L2.rAppend, Z.map_int_inj, Z.map_bl_inj, Z.rTupL, Z.rLstL, Z.rLstT, Z.rSortI, Z.rAnyH, Z.rAllH, Z.rSumH, Z.rLenL, Z.rLenU, List.length_map, L2.tPar, Z.tCallK0, List.getD_cons_zero, List.getD_cons_succ, sp_zigzag_evening, sp_zigzag_beside, sp_zigzag_person, sp_zigzag_place, sp__law_ahead, sp__law_number, sp__law_nights, sp__law_shape]
                refine z_seq ?_
                simp only [L2.start, List.map_cons, List.map_nil, List.length_cons, List.length_nil, Nat.zero_add, Nat.reduceAdd, Nat.reduceSub, List.replicate_succ, List.replicate_zero, List.cons_append, List.nil_append, List.append_nil, L2.tNext, L2.tAsg, L2.gName, L2.tRet, L2.tRetN, L2.tIfS, L2.tVar, L2.tC, L2.tOp, L2.tUn, L2.rI, L2.rI0, L2.rU, L2.rEq, L2.rNe, L2.tTest, L2.tB, L2.tIf, Z.tIfCI, Z.tIfCS, L2.tChain, L2.tCons, L2.tNil, L2.tCall, L2.tDrop, L2.tAndV, L2.tOrV, L2.tNotV, L2.tAnd, L2.tOr, L2.tNot, L2.tCB, Z.sc_ii, Z.sc_ss, Z.sc_bb, Z.sc_is, Z.sc_si, Z.sc_ni, Z.sc_in, Z.sc_ns, Z.sc_sn, Z.sc_nn, L2.CDiv, L2.CPow, L2.CMul, List.getElem?_cons_zero, List.getElem?_cons_succ, Z.set_z, Z.set_s, Option.some.injEq, L2.V.int.injEq, L2.V.bl.injEq, L2.V.str.injEq, L2.V.ref.injEq, L2.V.ty.injEq, List.cons.injEq, exists_eq_left', exists_and_left, exists_eq_left, exists_eq_right, exists_eq_right', exists_eq', exists_eq, true_and, and_true, and_assoc, decide_eq_true_eq, Int.reduceLT, and_self, Z.rIxH, Z.rIxU, Z.at30, Z.at31, Z.at32, Z.ix3_0, Z.ix3_1, Z.ix3_2, L2.rSetL, L2.gSub, Z.gTupH, L2.gCons, L2.gNil, L2.HO.lst.injEq, L2.HO.tup.injEq, L2.upd_same, L2.upd_upd, L2.tSl, L2.tNoPart, L2.tPart, L2.rSlL, L2.rCat, List.length_append, or_false, false_or, or_true, true_or, reduceCtorEq, false_and, and_false, exists_false, Int.reduceNeg, Int.reducePow, Int.reduceToNat, Int.reduceAbs, Int.reduceLE, Int.reduceMul, Int.reduceAdd, Int.reduceSub, Nat.reducePow, Nat.reduceLT, Nat.reduceLeDiff, Int.natAbs_natCast, if_true, if_false, Z.rIsN, Z.tyN, Z.kit_ii, Z.kit_bi, Z.kit_si, Z.kit_ni, Z.kit_ib, Z.kit_bb, Z.kit_sb, Z.kit_nb, Z.kit_is, Z.kit_bs, Z.kit_ss, Z.kit_ns, Bool.not_true, Bool.not_false, L2.tTup, L2.tLst, L2.wipe, L2.tYes, Z.Turn1, L2.tNever, sizeLine_eq, Z.rInU, Z.rInH, L2.flatV, List.any_cons, List.any_nil, List.all_cons, List.all_nil, Bool.and_true, Bool.true_and, Bool.or_false, Bool.false_or, Z.tBML, L2.rAppend, Z.map_int_inj, Z.map_bl_inj, Z.rTupL, Z.rLstL, Z.rLstT, Z.rSortI, Z.rAnyH, Z.rAllH, Z.rSumH, Z.rLenL, Z.rLenU, List.length_map, L2.tPar, Z.tCallK0, List.getD_cons_zero, List.getD_cons_succ, sp_zigzag_evening, sp_zigzag_beside, sp_zigzag_person, sp_zigzag_place, sp__law_ahead, sp__law_number, sp__law_nights, sp__law_shape, kind_inj]
                refine ⟨hsz, hb.1, hb.2, fb.1, fb.2, fne, fun H20 s20 L hL => ?_⟩
                refine z_seq ?_
                simp only [L2.start, List.map_cons, List.map_nil, List.length_cons, List.length_nil, Nat.zero_add, Nat.reduceAdd, Nat.reduceSub, List.replicate_succ, List.replicate_zero, List.cons_append, List.nil_append, List.append_nil, L2.tNext, L2.tAsg, L2.gName, L2.tRet, L2.tRetN, L2.tIfS, L2.tVar, L2.tC, L2.tOp, L2.tUn, L2.rI, L2.rI0, L2.rU, L2.rEq, L2.rNe, L2.tTest, L2.tB, L2.tIf, Z.tIfCI, Z.tIfCS, L2.tChain, L2.tCons, L2.tNil, L2.tCall, L2.tDrop, L2.tAndV, L2.tOrV, L2.tNotV, L2.tAnd, L2.tOr, L2.tNot, L2.tCB, Z.sc_ii, Z.sc_ss, Z.sc_bb, Z.sc_is, Z.sc_si, Z.sc_ni, Z.sc_in, Z.sc_ns, Z.sc_sn, Z.sc_nn, L2.CDiv, L2.CPow, L2.CMul, List.getElem?_cons_zero, List.getElem?_cons_succ, Z.set_z, Z.set_s, Option.some.injEq, L2.V.int.injEq, L2.V.bl.injEq, L2.V.str.injEq, L2.V.ref.injEq, L2.V.ty.injEq, List.cons.injEq, exists_eq_left', exists_and_left, exists_eq_left, exists_eq_right, exists_eq_right', exists_eq', exists_eq, true_and, and_true, and_assoc, decide_eq_true_eq, Int.reduceLT, and_self, Z.rIxH, Z.rIxU, Z.at30, Z.at31, Z.at32, Z.ix3_0, Z.ix3_1, Z.ix3_2, L2.rSetL, L2.gSub, Z.gTupH, L2.gCons, L2.gNil, L2.HO.lst.injEq, L2.HO.tup.injEq, L2.upd_same, L2.upd_upd, L2.tSl, L2.tNoPart, L2.tPart, L2.rSlL, L2.rCat, List.length_append, or_false, false_or, or_true, true_or, reduceCtorEq, false_and, and_false, exists_false, Int.reduceNeg, Int.reducePow, Int.reduceToNat, Int.reduceAbs, Int.reduceLE, Int.reduceMul, Int.reduceAdd, Int.reduceSub, Nat.reducePow, Nat.reduceLT, Nat.reduceLeDiff, Int.natAbs_natCast, if_true, if_false, Z.rIsN, Z.tyN, Z.kit_ii, Z.kit_bi, Z.kit_si, Z.kit_ni, Z.kit_ib, Z.kit_bb, Z.kit_sb, Z.kit_nb, Z.kit_is, Z.kit_bs, Z.kit_ss, Z.kit_ns, Bool.not_true, Bool.not_false, L2.tTup, L2.tLst, L2.wipe, L2.tYes, Z.Turn1, L2.tNever, sizeLine_eq, Z.rInU, Z.rInH, L2.flatV, List.any_cons, List.any_nil, List.all_cons, List.all_nil, Bool.and_true, Bool.true_and, Bool.or_false, Bool.false_or, Z.tBML, L2.rAppend, Z.map_int_inj, Z.map_bl_inj, Z.rTupL, Z.rLstL, Z.rLstT, Z.rSortI, Z.rAnyH, Z.rAllH, Z.rSumH, Z.rLenL, Z.rLenU, List.length_map, L2.tPar, Z.tCallK0, List.getD_cons_zero, List.getD_cons_succ, sp_zigzag_evening, sp_zigzag_beside, sp_zigzag_person, sp_zigzag_place, sp__law_ahead, sp__law_number, sp__law_nights, sp__law_shape, kind_inj]
                refine ⟨hsz, fb.1, fb.2, hb.1, hb.2, Ne.symm fne, fun H21 s21 => ⟨_, s21 _ _ upd_same, by show 1 < 16777216; decide, ?_⟩⟩
                rw [ev, ev2]
                have lowE : Low [e, e] := ⟨fun z hz => by
                  simp only [List.mem_cons, List.not_mem_nil, or_false, or_self] at hz
                  subst hz
                  have : z < n := by obtain ⟨h0, ⟨_, h⟩ | ⟨_, h⟩⟩ := hs <;> omega
                  exact ⟨he0, big _ this⟩, by show 2 ≤ 200; decide⟩
                have hLH : H' L = none := s20.free hL
                have kp21 : Kp p H (upd H21 L (.lst ([.int e] ++ [.int e]))) := by
                  have hLp : L ≠ p := Ne.symm (ne_of_spring kpx.sp hLH)
                  exact (((kpx.same s20).new hL).same s21).mut hLp (kpx.free hLp hLH)
                have eM : (upd H21 L (.lst ([.int e] ++ [.int e]))) M = some (.lst (((spots r n j).map (personAt r n e)).map V.int)) := by
                  rw [upd_ne (ne_of_none ex hLH)]
                  exact s21 _ _ (same_new hL _ _ (s20 _ _ ex))
                simp only [L2.start, List.map_cons, List.map_nil, List.length_cons, List.length_nil, Nat.zero_add, Nat.reduceAdd, Nat.reduceSub, List.replicate_succ, List.replicate_zero, List.cons_append, List.nil_append, List.append_nil, L2.tNext, L2.tAsg, L2.gName, L2.tRet, L2.tRetN, L2.tIfS, L2.tVar, L2.tC, L2.tOp, L2.tUn, L2.rI, L2.rI0, L2.rU, L2.rEq, L2.rNe, L2.tTest, L2.tB, L2.tIf, Z.tIfCI, Z.tIfCS, L2.tChain, L2.tCons, L2.tNil, L2.tCall, L2.tDrop, L2.tAndV, L2.tOrV, L2.tNotV, L2.tAnd, L2.tOr, L2.tNot, L2.tCB, Z.sc_ii, Z.sc_ss, Z.sc_bb, Z.sc_is, Z.sc_si, Z.sc_ni, Z.sc_in, Z.sc_ns, Z.sc_sn, Z.sc_nn, L2.CDiv, L2.CPow, L2.CMul, List.getElem?_cons_zero, List.getElem?_cons_succ, Z.set_z, Z.set_s, Option.some.injEq, L2.V.int.injEq, L2.V.bl.injEq, L2.V.str.injEq, L2.V.ref.injEq, L2.V.ty.injEq, List.cons.injEq, exists_eq_left', exists_and_left, exists_eq_left, exists_eq_right, exists_eq_right', exists_eq', exists_eq, true_and, and_true, and_assoc, decide_eq_true_eq, Int.reduceLT, and_self, Z.rIxH, Z.rIxU, Z.at30, Z.at31, Z.at32, Z.ix3_0, Z.ix3_1, Z.ix3_2, L2.rSetL, L2.gSub, Z.gTupH, L2.gCons, L2.gNil, L2.HO.lst.injEq, L2.HO.tup.injEq, L2.upd_same, L2.upd_upd, L2.tSl, L2.tNoPart, L2.tPart, L2.rSlL, L2.rCat, List.length_append, or_false, false_or, or_true, true_or, reduceCtorEq, false_and, and_false, exists_false, Int.reduceNeg, Int.reducePow, Int.reduceToNat, Int.reduceAbs, Int.reduceLE, Int.reduceMul, Int.reduceAdd, Int.reduceSub, Nat.reducePow, Nat.reduceLT, Nat.reduceLeDiff, Int.natAbs_natCast, if_true, if_false, Z.rIsN, Z.tyN, Z.kit_ii, Z.kit_bi, Z.kit_si, Z.kit_ni, Z.kit_ib, Z.kit_bb, Z.kit_sb, Z.kit_nb, Z.kit_is, Z.kit_bs, Z.kit_ss, Z.kit_ns, Bool.not_true, Bool.not_false, L2.tTup, L2.tLst, L2.wipe, L2.tYes, Z.Turn1, L2.tNever, sizeLine_eq, Z.rInU, Z.rInH, L2.flatV, List.any_cons, List.any_nil, List.all_cons, List.all_nil, Bool.and_true, Bool.true_and, Bool.or_false, Bool.false_or, Z.tBML, L2.rAppend, Z.map_int_inj, Z.map_bl_inj, Z.rTupL, Z.rLstL, Z.rLstT, Z.rSortI, Z.rAnyH, Z.rAllH, Z.rSumH, Z.rLenL, Z.rLenU, List.length_map, L2.tPar, Z.tCallK0, List.getD_cons_zero, List.getD_cons_succ, sp_zigzag_evening, sp_zigzag_beside, sp_zigzag_person, sp_zigzag_place, sp__law_ahead, sp__law_number, sp__law_nights, sp__law_shape]
                refine repr_lst upd_same lowE ?_
                intro b3 hb3
                refine repr_lst upd_same lowE ⟨rfl, ?_⟩
                rw [decide_eq_true rfl, if_neg (by decide)]
                exact hN _ _ ⟨_, _, rfl, kp21.new hb3, same_new hb3 _ _ eM⟩
              · rintro σ' H' ⟨w11, u14, rfl, kpx, ex⟩
                exact ⟨_, _, _, _, _, _, _, _, _, rfl, kpx⟩
      · rintro σ H3 ⟨w8, w9, w10, w11, w12, w13, w14, w15, w16, rfl, kp3⟩
        exact ⟨_, _, _, _, _, _, _, _, _, _, _, _, _, _, _, _, rfl, kp3⟩
    · rintro σ H' ⟨v1, v2, v3, v4, v5, v6, v7, v8, v9, v10, v11, v12, v13, v14, v15, v16, rfl, kp⟩
      simp only [L2.start, List.map_cons, List.map_nil, List.length_cons, List.length_nil, Nat.zero_add, Nat.reduceAdd, Nat.reduceSub, List.replicate_succ, List.replicate_zero, List.cons_append, List.nil_append, List.append_nil, L2.tSeq, L2.tNext, L2.tAsg, L2.gName, L2.tRet, L2.tRetN, L2.tIfS, L2.tVar, L2.tC, L2.tOp, L2.tUn, L2.rI, L2.rI0, L2.rU, L2.rEq, L2.rNe, L2.tTest, L2.tB, L2.tIf, Z.tIfCI, Z.tIfCS, L2.tChain, L2.tCons, L2.tNil, L2.tCall, L2.tDrop, L2.tAndV, L2.tOrV, L2.tNotV, L2.tAnd, L2.tOr, L2.tNot, L2.tCB, Z.sc_ii, Z.sc_ss, Z.sc_bb, Z.sc_is, Z.sc_si, Z.sc_ni, Z.sc_in, Z.sc_ns, Z.sc_sn, Z.sc_nn, L2.CDiv, L2.CPow, L2.CMul, List.getElem?_cons_zero, List.getElem?_cons_succ, Z.set_z, Z.set_s, Option.some.injEq, L2.V.int.injEq, L2.V.bl.injEq, L2.V.str.injEq, L2.V.ref.injEq, L2.V.ty.injEq, List.cons.injEq, exists_eq_left', exists_and_left, exists_eq_left, exists_eq_right, exists_eq_right', exists_eq', exists_eq, true_and, and_true, and_assoc, decide_eq_true_eq, Int.reduceLT, and_self, Z.rIxH, Z.rIxU, Z.at30, Z.at31, Z.at32, Z.ix3_0, Z.ix3_1, Z.ix3_2, L2.rSetL, L2.gSub, Z.gTupH, L2.gCons, L2.gNil, L2.HO.lst.injEq, L2.HO.tup.injEq, L2.upd_same, L2.upd_upd, L2.tSl, L2.tNoPart, L2.tPart, L2.rSlL, L2.rCat, List.length_append, or_false, false_or, or_true, true_or, reduceCtorEq, false_and, and_false, exists_false, Int.reduceNeg, Int.reducePow, Int.reduceToNat, Int.reduceAbs, Int.reduceLE, Int.reduceMul, Int.reduceAdd, Int.reduceSub, Nat.reducePow, Nat.reduceLT, Nat.reduceLeDiff, Int.natAbs_natCast, if_true, if_false, Z.rIsN, Z.tyN, Z.kit_ii, Z.kit_bi, Z.kit_si, Z.kit_ni, Z.kit_ib, Z.kit_bb, Z.kit_sb, Z.kit_nb, Z.kit_is, Z.kit_bs, Z.kit_ss, Z.kit_ns, Bool.not_true, Bool.not_false, L2.tTup, L2.tLst, L2.wipe, L2.tYes, Z.Turn1, L2.tNever, sizeLine_eq, Z.rInU, Z.rInH, L2.flatV, List.any_cons, List.any_nil, List.all_cons, List.all_nil, Bool.and_true, Bool.true_and, Bool.or_false, Bool.false_or, Z.tBML, L2.rAppend, Z.map_int_inj, Z.map_bl_inj, Z.rTupL, Z.rLstL, Z.rLstT, Z.rSortI, Z.rAnyH, Z.rAllH, Z.rSumH, Z.rLenL, Z.rLenU, List.length_map, L2.tPar, Z.tCallK0, List.getD_cons_zero, List.getD_cons_succ, sp_zigzag_evening, sp_zigzag_beside, sp_zigzag_person, sp_zigzag_place, sp__law_ahead, sp__law_number, sp__law_nights, sp__law_shape]
      exact q _ kp
open Zig
def sp_law (K : PySem.W.Frag) : Sp := fun vs H Q _ => ∃ (a : Addr) (ns : List Int), vs = [.ref a] ∧ SqL K H a (ns.map V.int) ∧ ns.length ≤ 63 ∧ ∀ H', Q (.bl true) H'
theorem ok_law (T : Env K mg) : HdG P w K mg base CX0 7 "law" s_law ["_law_cells"] (sp_law K) := by
  have H__law_right := ok__law_right (P := P) (w := w) (base := base) T
  have H__law_spring := ok__law_spring (P := P) (w := w) (base := base) T
  obtain ⟨f, fd, F, hm⟩ := T.d_law
  refine ⟨⟨f, fd, F, hm, ?_⟩, fun _ _ _ _ _ _ _ us hl => match us, hl with | [_], _ => rfl⟩
  refine fun_okG F sc_law (fun vs H Q E h => ?_) (fun cdv A outer s H vs Q E hr gd h => ?_)
  · first | (obtain ⟨rfl, _⟩ := h; rfl) | (obtain ⟨_, rfl, _⟩ := h; rfl) | (obtain ⟨_, _, rfl, _⟩ := h; rfl) | (obtain ⟨_, _, _, rfl, _⟩ := h; rfl) | (obtain ⟨_, _, _, _, rfl, _⟩ := h; rfl) | (obtain ⟨_, _, _, _, _, rfl, _⟩ := h; rfl) | (obtain ⟨_, _, _, _, _, _, rfl, _⟩ := h; rfl) | (obtain ⟨_, _, _, _, _, _, _, rfl, _⟩ := h; rfl) | (obtain ⟨_, _, _, _, _, _, _, _, rfl, _⟩ := h; rfl)
  · obtain ⟨a, ns, rfl, hs, hl, q⟩ := h
    have hu := hu_of hr
    refine ⟨_, pss_cons (ps_setLc (i := 1) (own := [("_law_k", 2)]) (g := (gName 2)) (tt := tYes) rfl sc_law.nd rfl rfl (sw_true rfl rfl rfl (by decide +kernel)) (pi_range1 rfl T.b_range (pa_cons (pe_callB (call_max2 rfl) rfl T.b_max (by decide +kernel) (pa_cons pe_int (pa_cons (pe_callB (call_min2 rfl) rfl T.b_min (by decide +kernel) (pa_cons (pe_callB call_len_seq rfl T.b_len (by decide +kernel) (pa_cons (pv 0) pa_nil)) (pa_cons pe_int pa_nil))) pa_nil))) pa_nil)) (blkOk_by (own := [("_law_k", 2)]) (N := N_law) (sc := defScope s_law) (by decide +kernel)) (fun _ _ _ _ _ => pg_name (i := 2) sc_law.nd rfl (by first | exact .inl rfl | exact .inr rfl)) (fun _ _ _ _ _ => pts_nil) (fun _ _ _ _ _ => (pe_hd H__law_spring (hr.mono (by decide)) rfl pass0 (pa_cons (pv 0) (pa_cons (pv 2) pa_nil)))))
      (pss_one (ps_ret (pe_callB (cr_allH rfl) rfl T.b_all (by decide +kernel) (pa_cons (pe_lc (own := [("_law_spring_here", 3)]) (g := (gName 3)) (tt := tYes) rfl sc_law.nd (pi_list (pv 1)) (blkOk_by (own := [("_law_spring_here", 3)]) (N := N_law) (sc := defScope s_law) (by decide +kernel)) (fun _ _ _ _ _ => pg_name (i := 3) sc_law.nd rfl (by first | exact .inl rfl | exact .inr rfl)) (fun _ _ _ _ _ => pts_nil) (fun _ _ _ _ _ => (pe_hdG H__law_right (hr.mono (by decide)) gd rfl pass0 (pa_cons (pv 3) pa_nil)))) pa_nil)))), ?_⟩
    simp only [L2.start, List.map_cons, List.map_nil, List.length_cons, List.length_nil, Nat.zero_add, Nat.reduceAdd, Nat.reduceSub, List.replicate_succ, List.replicate_zero, List.cons_append, List.nil_append, List.append_nil, L2.tNext, L2.tAsg, L2.gName, L2.tRet, L2.tRetN, L2.tIfS, L2.tVar, L2.tC, L2.tOp, L2.tUn, L2.rI, L2.rI0, L2.rU, L2.rEq, L2.rNe, L2.tTest, L2.tB, L2.tIf, Z.tIfCI, Z.tIfCS, L2.tChain, L2.tCons, L2.tNil, L2.tCall, L2.tDrop, L2.tAndV, L2.tOrV, L2.tNotV, L2.tAnd, L2.tOr, L2.tNot, L2.tCB, Z.sc_ii, Z.sc_ss, Z.sc_bb, Z.sc_is, Z.sc_si, Z.sc_ni, Z.sc_in, Z.sc_ns, Z.sc_sn, Z.sc_nn, L2.CDiv, L2.CPow, L2.CMul, List.getElem?_cons_zero, List.getElem?_cons_succ, Z.set_z, Z.set_s, Option.some.injEq, L2.V.int.injEq, L2.V.bl.injEq, L2.V.str.injEq, L2.V.ref.injEq, L2.V.ty.injEq, List.cons.injEq, exists_eq_left', exists_and_left, exists_eq_left, exists_eq_right, exists_eq_right', exists_eq', exists_eq, true_and, and_true, and_assoc, decide_eq_true_eq, Int.reduceLT, and_self, Z.rIxH, Z.rIxU, Z.at30, Z.at31, Z.at32, Z.ix3_0, Z.ix3_1, Z.ix3_2, L2.rSetL, L2.gSub, Z.gTupH, L2.gCons, L2.gNil, L2.HO.lst.injEq, L2.HO.tup.injEq, L2.upd_same, L2.upd_upd, L2.tSl, L2.tNoPart, L2.tPart, L2.rSlL, L2.rCat, List.length_append, or_false, false_or, or_true, true_or, reduceCtorEq, false_and, and_false, exists_false, Int.reduceNeg, Int.reducePow, Int.reduceToNat, Int.reduceAbs, Int.reduceLE, Int.reduceMul, Int.reduceAdd, Int.reduceSub, Nat.reducePow, Nat.reduceLT, Nat.reduceLeDiff, Int.natAbs_natCast, if_true, if_false, Z.rIsN, Z.tyN, Z.kit_ii, Z.kit_bi, Z.kit_si, Z.kit_ni, Z.kit_ib, Z.kit_bb, Z.kit_sb, Z.kit_nb, Z.kit_is, Z.kit_bs, Z.kit_ss, Z.kit_ns, Bool.not_true, Bool.not_false, L2.tTup, L2.tLst, L2.wipe, L2.tYes, Z.Turn1, L2.tNever, sizeLine_eq, Z.rInU, Z.rInH, L2.flatV, List.any_cons, List.any_nil, List.all_cons, List.all_nil, Bool.and_true, Bool.true_and, Bool.or_false, Bool.false_or, Z.tBML, L2.rAppend, Z.map_int_inj, Z.map_bl_inj, Z.rTupL, Z.rLstL, Z.rLstT, Z.rSortI, Z.rAnyH, Z.rAllH, Z.rSumH, Z.rLenL, Z.rLenU, List.length_map, L2.tPar, Z.tCallK0, List.getD_cons_zero, List.getD_cons_succ, sp__law_right, sp__law_spring]
    exact tail_B (n := if (if (6 : Int) < ns.length then 6 else (ns.length : Int)) > 2 then (if (6 : Int) < ns.length then 6 else (ns.length : Int)) else 2) (fun R h => by
      simp only [L2.start, List.map_cons, List.map_nil, List.length_cons, List.length_nil, Nat.zero_add, Nat.reduceAdd, Nat.reduceSub, List.replicate_succ, List.replicate_zero, List.cons_append, List.nil_append, List.append_nil, L2.tNext, L2.tAsg, L2.gName, L2.tRet, L2.tRetN, L2.tIfS, L2.tVar, L2.tC, L2.tOp, L2.tUn, L2.rI, L2.rI0, L2.rU, L2.rEq, L2.rNe, L2.tTest, L2.tB, L2.tIf, Z.tIfCI, Z.tIfCS, L2.tChain, L2.tCons, L2.tNil, L2.tCall, L2.tDrop, L2.tAndV, L2.tOrV, L2.tNotV, L2.tAnd, L2.tOr, L2.tNot, L2.tCB, Z.sc_ii, Z.sc_ss, Z.sc_bb, Z.sc_is, Z.sc_si, Z.sc_ni, Z.sc_in, Z.sc_ns, Z.sc_sn, Z.sc_nn, L2.CDiv, L2.CPow, L2.CMul, List.getElem?_cons_zero, List.getElem?_cons_succ, Z.set_z, Z.set_s, Option.some.injEq, L2.V.int.injEq, L2.V.bl.injEq, L2.V.str.injEq, L2.V.ref.injEq, L2.V.ty.injEq, List.cons.injEq, exists_eq_left', exists_and_left, exists_eq_left, exists_eq_right, exists_eq_right', exists_eq', exists_eq, true_and, and_true, and_assoc, decide_eq_true_eq, Int.reduceLT, and_self, Z.rIxH, Z.rIxU, Z.at30, Z.at31, Z.at32, Z.ix3_0, Z.ix3_1, Z.ix3_2, L2.rSetL, L2.gSub, Z.gTupH, L2.gCons, L2.gNil, L2.HO.lst.injEq, L2.HO.tup.injEq, L2.upd_same, L2.upd_upd, L2.tSl, L2.tNoPart, L2.tPart, L2.rSlL, L2.rCat, List.length_append, or_false, false_or, or_true, true_or, reduceCtorEq, false_and, and_false, exists_false, Int.reduceNeg, Int.reducePow, Int.reduceToNat, Int.reduceAbs, Int.reduceLE, Int.reduceMul, Int.reduceAdd, Int.reduceSub, Nat.reducePow, Nat.reduceLT, Nat.reduceLeDiff, Int.natAbs_natCast, if_true, if_false, Z.rIsN, Z.tyN, Z.kit_ii, Z.kit_bi, Z.kit_si, Z.kit_ni, Z.kit_ib, Z.kit_bb, Z.kit_sb, Z.kit_nb, Z.kit_is, Z.kit_bs, Z.kit_ss, Z.kit_ns, Bool.not_true, Bool.not_false, L2.tTup, L2.tLst, L2.wipe, L2.tYes, Z.Turn1, L2.tNever, sizeLine_eq, Z.rInU, Z.rInH, L2.flatV, List.any_cons, List.any_nil, List.all_cons, List.all_nil, Bool.and_true, Bool.true_and, Bool.or_false, Bool.false_or, Z.tBML, L2.rAppend, Z.map_int_inj, Z.map_bl_inj, Z.rTupL, Z.rLstL, Z.rLstT, Z.rSortI, Z.rAnyH, Z.rAllH, Z.rSumH, Z.rLenL, Z.rLenU, List.length_map, L2.tPar, Z.tCallK0, List.getD_cons_zero, List.getD_cons_succ, sp__law_right, sp__law_spring]
      refine ⟨_, .inl hs, ?_⟩
      rw [List.length_map]
      exact h) (by split <;> split <;> omega) (fun k H' Q' E s1 h0 h1 hq => ⟨a, k, ns, rfl, s1.seq hs, hl, h0, (by revert h1; split <;> (try split) <;> omega), hq⟩) (fun p H' Q' E hp hq => ⟨p, rfl, hp, hq⟩) q
theorem all_mk {l : PySem.W.OpenLaw} {w : World} {K : PySem.W.Frag} {h : Heap} {mg : Str → Option Value} {fa : Addr} (X : K.In h) (G : h.Ns mainGlobals mg) (hfa : mg "law" = some (.ref fa))
    {f1 : Addr} {od1 an1 : Option Addr} {sl1 : Array (Option Value)} {oc1 kV1 dc1 pm1 cd1 ct1 : Value}
    (a1 : PySem.W.nsIn K mainGlobals "is_integer" = some (some (.ref f1))) (l1 : K.lookup f1 = some ⟨oc1, od1, .func (PySem.W.fnOf "is_integer" "is_integer" (defArgs s_is_integer) (defBody s_is_integer) (defScope s_is_integer) .none kV1 dc1 pm1 an1 cd1 ct1), sl1⟩) (c1 : PySem.W.codeIn K cd1 "is_integer" = true) (k1 : PySem.W.keepIn K (.ref f1) = true)
    {f2 : Addr} {od2 an2 : Option Addr} {sl2 : Array (Option Value)} {oc2 kV2 dc2 pm2 cd2 ct2 : Value}
    (a2 : PySem.W.nsIn K mainGlobals "is_between" = some (some (.ref f2))) (l2 : K.lookup f2 = some ⟨oc2, od2, .func (PySem.W.fnOf "is_between" "is_between" (defArgs s_is_between) (defBody s_is_between) (defScope s_is_between) .none kV2 dc2 pm2 an2 cd2 ct2), sl2⟩) (c2 : PySem.W.codeIn K cd2 "is_between" = true) (k2 : PySem.W.keepIn K (.ref f2) = true)
    {f3 : Addr} {od3 an3 : Option Addr} {sl3 : Array (Option Value)} {oc3 kV3 dc3 pm3 cd3 ct3 : Value}
    (a3 : PySem.W.nsIn K mainGlobals "is_size" = some (some (.ref f3))) (l3 : K.lookup f3 = some ⟨oc3, od3, .func (PySem.W.fnOf "is_size" "is_size" (defArgs s_is_size) (defBody s_is_size) (defScope s_is_size) .none kV3 dc3 pm3 an3 cd3 ct3), sl3⟩) (c3 : PySem.W.codeIn K cd3 "is_size" = true) (k3 : PySem.W.keepIn K (.ref f3) = true)
    {f4 : Addr} {od4 an4 : Option Addr} {sl4 : Array (Option Value)} {oc4 kV4 dc4 pm4 cd4 ct4 : Value}
    (a4 : PySem.W.nsIn K mainGlobals "evenings_for" = some (some (.ref f4))) (l4 : K.lookup f4 = some ⟨oc4, od4, .func (PySem.W.fnOf "evenings_for" "evenings_for" (defArgs s_evenings_for) (defBody s_evenings_for) (defScope s_evenings_for) .none kV4 dc4 pm4 an4 cd4 ct4), sl4⟩) (c4 : PySem.W.codeIn K cd4 "evenings_for" = true) (k4 : PySem.W.keepIn K (.ref f4) = true)
    {f5 : Addr} {od5 an5 : Option Addr} {sl5 : Array (Option Value)} {oc5 kV5 dc5 pm5 cd5 ct5 : Value}
    (a5 : PySem.W.nsIn K mainGlobals "check_kind" = some (some (.ref f5))) (l5 : K.lookup f5 = some ⟨oc5, od5, .func (PySem.W.fnOf "check_kind" "check_kind" (defArgs s_check_kind) (defBody s_check_kind) (defScope s_check_kind) .none kV5 dc5 pm5 an5 cd5 ct5), sl5⟩) (c5 : PySem.W.codeIn K cd5 "check_kind" = true) (k5 : PySem.W.keepIn K (.ref f5) = true)
    {f6 : Addr} {od6 an6 : Option Addr} {sl6 : Array (Option Value)} {oc6 kV6 dc6 pm6 cd6 ct6 : Value}
    (a6 : PySem.W.nsIn K mainGlobals "check_size" = some (some (.ref f6))) (l6 : K.lookup f6 = some ⟨oc6, od6, .func (PySem.W.fnOf "check_size" "check_size" (defArgs s_check_size) (defBody s_check_size) (defScope s_check_size) .none kV6 dc6 pm6 an6 cd6 ct6), sl6⟩) (c6 : PySem.W.codeIn K cd6 "check_size" = true) (k6 : PySem.W.keepIn K (.ref f6) = true)
    {f7 : Addr} {od7 an7 : Option Addr} {sl7 : Array (Option Value)} {oc7 kV7 dc7 pm7 cd7 ct7 : Value}
    (a7 : PySem.W.nsIn K mainGlobals "round_size" = some (some (.ref f7))) (l7 : K.lookup f7 = some ⟨oc7, od7, .func (PySem.W.fnOf "round_size" "round_size" (defArgs s_round_size) (defBody s_round_size) (defScope s_round_size) .none kV7 dc7 pm7 an7 cd7 ct7), sl7⟩) (c7 : PySem.W.codeIn K cd7 "round_size" = true) (k7 : PySem.W.keepIn K (.ref f7) = true)
    {f8 : Addr} {od8 an8 : Option Addr} {sl8 : Array (Option Value)} {oc8 kV8 dc8 pm8 cd8 ct8 : Value}
    (a8 : PySem.W.nsIn K mainGlobals "person_in" = some (some (.ref f8))) (l8 : K.lookup f8 = some ⟨oc8, od8, .func (PySem.W.fnOf "person_in" "person_in" (defArgs s_person_in) (defBody s_person_in) (defScope s_person_in) .none kV8 dc8 pm8 an8 cd8 ct8), sl8⟩) (c8 : PySem.W.codeIn K cd8 "person_in" = true) (k8 : PySem.W.keepIn K (.ref f8) = true)
    {f9 : Addr} {od9 an9 : Option Addr} {sl9 : Array (Option Value)} {oc9 kV9 dc9 pm9 cd9 ct9 : Value}
    (a9 : PySem.W.nsIn K mainGlobals "index_in" = some (some (.ref f9))) (l9 : K.lookup f9 = some ⟨oc9, od9, .func (PySem.W.fnOf "index_in" "index_in" (defArgs s_index_in) (defBody s_index_in) (defScope s_index_in) .none kV9 dc9 pm9 an9 cd9 ct9), sl9⟩) (c9 : PySem.W.codeIn K cd9 "index_in" = true) (k9 : PySem.W.keepIn K (.ref f9) = true)
    {f10 : Addr} {od10 an10 : Option Addr} {sl10 : Array (Option Value)} {oc10 kV10 dc10 pm10 cd10 ct10 : Value}
    (a10 : PySem.W.nsIn K mainGlobals "person_at" = some (some (.ref f10))) (l10 : K.lookup f10 = some ⟨oc10, od10, .func (PySem.W.fnOf "person_at" "person_at" (defArgs s_person_at) (defBody s_person_at) (defScope s_person_at) .none kV10 dc10 pm10 an10 cd10 ct10), sl10⟩) (c10 : PySem.W.codeIn K cd10 "person_at" = true) (k10 : PySem.W.keepIn K (.ref f10) = true)
    {f11 : Addr} {od11 an11 : Option Addr} {sl11 : Array (Option Value)} {oc11 kV11 dc11 pm11 cd11 ct11 : Value}
    (a11 : PySem.W.nsIn K mainGlobals "index_of" = some (some (.ref f11))) (l11 : K.lookup f11 = some ⟨oc11, od11, .func (PySem.W.fnOf "index_of" "index_of" (defArgs s_index_of) (defBody s_index_of) (defScope s_index_of) .none kV11 dc11 pm11 an11 cd11 ct11), sl11⟩) (c11 : PySem.W.codeIn K cd11 "index_of" = true) (k11 : PySem.W.keepIn K (.ref f11) = true)
    {f12 : Addr} {od12 an12 : Option Addr} {sl12 : Array (Option Value)} {oc12 kV12 dc12 pm12 cd12 ct12 : Value}
    (a12 : PySem.W.nsIn K mainGlobals "check_evening_of" = some (some (.ref f12))) (l12 : K.lookup f12 = some ⟨oc12, od12, .func (PySem.W.fnOf "check_evening_of" "check_evening_of" (defArgs s_check_evening_of) (defBody s_check_evening_of) (defScope s_check_evening_of) .none kV12 dc12 pm12 an12 cd12 ct12), sl12⟩) (c12 : PySem.W.codeIn K cd12 "check_evening_of" = true) (k12 : PySem.W.keepIn K (.ref f12) = true)
    {f13 : Addr} {od13 an13 : Option Addr} {sl13 : Array (Option Value)} {oc13 kV13 dc13 pm13 cd13 ct13 : Value}
    (a13 : PySem.W.nsIn K mainGlobals "check_person" = some (some (.ref f13))) (l13 : K.lookup f13 = some ⟨oc13, od13, .func (PySem.W.fnOf "check_person" "check_person" (defArgs s_check_person) (defBody s_check_person) (defScope s_check_person) .none kV13 dc13 pm13 an13 cd13 ct13), sl13⟩) (c13 : PySem.W.codeIn K cd13 "check_person" = true) (k13 : PySem.W.keepIn K (.ref f13) = true)
    {f14 : Addr} {od14 an14 : Option Addr} {sl14 : Array (Option Value)} {oc14 kV14 dc14 pm14 cd14 ct14 : Value}
    (a14 : PySem.W.nsIn K mainGlobals "zigzag_beside" = some (some (.ref f14))) (l14 : K.lookup f14 = some ⟨oc14, od14, .func (PySem.W.fnOf "zigzag_beside" "zigzag_beside" (defArgs s_zigzag_beside) (defBody s_zigzag_beside) (defScope s_zigzag_beside) .none kV14 dc14 pm14 an14 cd14 ct14), sl14⟩) (c14 : PySem.W.codeIn K cd14 "zigzag_beside" = true) (k14 : PySem.W.keepIn K (.ref f14) = true)
    {f15 : Addr} {od15 an15 : Option Addr} {sl15 : Array (Option Value)} {oc15 kV15 dc15 pm15 cd15 ct15 : Value}
    (a15 : PySem.W.nsIn K mainGlobals "zigzag_evening" = some (some (.ref f15))) (l15 : K.lookup f15 = some ⟨oc15, od15, .func (PySem.W.fnOf "zigzag_evening" "zigzag_evening" (defArgs s_zigzag_evening) (defBody s_zigzag_evening) (defScope s_zigzag_evening) .none kV15 dc15 pm15 an15 cd15 ct15), sl15⟩) (c15 : PySem.W.codeIn K cd15 "zigzag_evening" = true) (k15 : PySem.W.keepIn K (.ref f15) = true)
    {f16 : Addr} {od16 an16 : Option Addr} {sl16 : Array (Option Value)} {oc16 kV16 dc16 pm16 cd16 ct16 : Value}
    (a16 : PySem.W.nsIn K mainGlobals "zigzag_place" = some (some (.ref f16))) (l16 : K.lookup f16 = some ⟨oc16, od16, .func (PySem.W.fnOf "zigzag_place" "zigzag_place" (defArgs s_zigzag_place) (defBody s_zigzag_place) (defScope s_zigzag_place) .none kV16 dc16 pm16 an16 cd16 ct16), sl16⟩) (c16 : PySem.W.codeIn K cd16 "zigzag_place" = true) (k16 : PySem.W.keepIn K (.ref f16) = true)
    {f17 : Addr} {od17 an17 : Option Addr} {sl17 : Array (Option Value)} {oc17 kV17 dc17 pm17 cd17 ct17 : Value}
    (a17 : PySem.W.nsIn K mainGlobals "zigzag_person" = some (some (.ref f17))) (l17 : K.lookup f17 = some ⟨oc17, od17, .func (PySem.W.fnOf "zigzag_person" "zigzag_person" (defArgs s_zigzag_person) (defBody s_zigzag_person) (defScope s_zigzag_person) .none kV17 dc17 pm17 an17 cd17 ct17), sl17⟩) (c17 : PySem.W.codeIn K cd17 "zigzag_person" = true) (k17 : PySem.W.keepIn K (.ref f17) = true)
    {f18 : Addr} {od18 an18 : Option Addr} {sl18 : Array (Option Value)} {oc18 kV18 dc18 pm18 cd18 ct18 : Value}
    (a18 : PySem.W.nsIn K mainGlobals "_law_spring" = some (some (.ref f18))) (l18 : K.lookup f18 = some ⟨oc18, od18, .func (PySem.W.fnOf "_law_spring" "_law_spring" (defArgs s__law_spring) (defBody s__law_spring) (defScope s__law_spring) .none kV18 dc18 pm18 an18 cd18 ct18), sl18⟩) (c18 : PySem.W.codeIn K cd18 "_law_spring" = true) (k18 : PySem.W.keepIn K (.ref f18) = true)
    {f19 : Addr} {od19 an19 : Option Addr} {sl19 : Array (Option Value)} {oc19 kV19 dc19 pm19 cd19 ct19 : Value}
    (a19 : PySem.W.nsIn K mainGlobals "_law_draw" = some (some (.ref f19))) (l19 : K.lookup f19 = some ⟨oc19, od19, .func (PySem.W.fnOf "_law_draw" "_law_draw" (defArgs s__law_draw) (defBody s__law_draw) (defScope s__law_draw) .none kV19 dc19 pm19 an19 cd19 ct19), sl19⟩) (c19 : PySem.W.codeIn K cd19 "_law_draw" = true) (k19 : PySem.W.keepIn K (.ref f19) = true)
    {f20 : Addr} {od20 an20 : Option Addr} {sl20 : Array (Option Value)} {oc20 kV20 dc20 pm20 cd20 ct20 : Value}
    (a20 : PySem.W.nsIn K mainGlobals "_law_of" = some (some (.ref f20))) (l20 : K.lookup f20 = some ⟨oc20, od20, .func (PySem.W.fnOf "_law_of" "_law_of" (defArgs s__law_of) (defBody s__law_of) (defScope s__law_of) .none kV20 dc20 pm20 an20 cd20 ct20), sl20⟩) (c20 : PySem.W.codeIn K cd20 "_law_of" = true) (k20 : PySem.W.keepIn K (.ref f20) = true)
    {f21 : Addr} {od21 an21 : Option Addr} {sl21 : Array (Option Value)} {oc21 kV21 dc21 pm21 cd21 ct21 : Value}
    (a21 : PySem.W.nsIn K mainGlobals "_law_nights" = some (some (.ref f21))) (l21 : K.lookup f21 = some ⟨oc21, od21, .func (PySem.W.fnOf "_law_nights" "_law_nights" (defArgs s__law_nights) (defBody s__law_nights) (defScope s__law_nights) .none kV21 dc21 pm21 an21 cd21 ct21), sl21⟩) (c21 : PySem.W.codeIn K cd21 "_law_nights" = true) (k21 : PySem.W.keepIn K (.ref f21) = true)
    {f22 : Addr} {od22 an22 : Option Addr} {sl22 : Array (Option Value)} {oc22 kV22 dc22 pm22 cd22 ct22 : Value}
    (a22 : PySem.W.nsIn K mainGlobals "_law_number" = some (some (.ref f22))) (l22 : K.lookup f22 = some ⟨oc22, od22, .func (PySem.W.fnOf "_law_number" "_law_number" (defArgs s__law_number) (defBody s__law_number) (defScope s__law_number) .none kV22 dc22 pm22 an22 cd22 ct22), sl22⟩) (c22 : PySem.W.codeIn K cd22 "_law_number" = true) (k22 : PySem.W.keepIn K (.ref f22) = true)
    {f23 : Addr} {od23 an23 : Option Addr} {sl23 : Array (Option Value)} {oc23 kV23 dc23 pm23 cd23 ct23 : Value}
    (a23 : PySem.W.nsIn K mainGlobals "_law_shape" = some (some (.ref f23))) (l23 : K.lookup f23 = some ⟨oc23, od23, .func (PySem.W.fnOf "_law_shape" "_law_shape" (defArgs s__law_shape) (defBody s__law_shape) (defScope s__law_shape) .none kV23 dc23 pm23 an23 cd23 ct23), sl23⟩) (c23 : PySem.W.codeIn K cd23 "_law_shape" = true) (k23 : PySem.W.keepIn K (.ref f23) = true)
    {f24 : Addr} {od24 an24 : Option Addr} {sl24 : Array (Option Value)} {oc24 kV24 dc24 pm24 cd24 ct24 : Value}
    (a24 : PySem.W.nsIn K mainGlobals "_law_ahead" = some (some (.ref f24))) (l24 : K.lookup f24 = some ⟨oc24, od24, .func (PySem.W.fnOf "_law_ahead" "_law_ahead" (defArgs s__law_ahead) (defBody s__law_ahead) (defScope s__law_ahead) .none kV24 dc24 pm24 an24 cd24 ct24), sl24⟩) (c24 : PySem.W.codeIn K cd24 "_law_ahead" = true) (k24 : PySem.W.keepIn K (.ref f24) = true)
    {f25 : Addr} {od25 an25 : Option Addr} {sl25 : Array (Option Value)} {oc25 kV25 dc25 pm25 cd25 ct25 : Value}
    (a25 : PySem.W.nsIn K mainGlobals "_law_right" = some (some (.ref f25))) (l25 : K.lookup f25 = some ⟨oc25, od25, .func (PySem.W.fnOf "_law_right" "_law_right" (defArgs s__law_right) (defBody s__law_right) (defScope s__law_right) .none kV25 dc25 pm25 an25 cd25 ct25), sl25⟩) (c25 : PySem.W.codeIn K cd25 "_law_right" = true) (k25 : PySem.W.keepIn K (.ref f25) = true)
    {f26 : Addr} {od26 an26 : Option Addr} {sl26 : Array (Option Value)} {oc26 kV26 dc26 pm26 cd26 ct26 : Value}
    (a26 : PySem.W.nsIn K mainGlobals "law" = some (some (.ref f26))) (l26 : K.lookup f26 = some ⟨oc26, od26, .func (PySem.W.fnOf "law" "law" (defArgs s_law) (defBody s_law) (defScope s_law) .none kV26 dc26 pm26 an26 cd26 ct26), sl26⟩) (c26 : PySem.W.codeIn K cd26 "law" = true) (k26 : PySem.W.keepIn K (.ref f26) = true)
    (z27 : PySem.W.nsIn K mainGlobals "abs" = some none)
    (z28 : PySem.W.nsIn K mainGlobals "all" = some none)
    (z29 : PySem.W.nsIn K mainGlobals "bool" = some none)
    (z30 : PySem.W.nsIn K mainGlobals "divmod" = some none)
    (z31 : PySem.W.nsIn K mainGlobals "int" = some none)
    (z32 : PySem.W.nsIn K mainGlobals "isinstance" = some none)
    (z33 : PySem.W.nsIn K mainGlobals "len" = some none)
    (z34 : PySem.W.nsIn K mainGlobals "max" = some none)
    (z35 : PySem.W.nsIn K mainGlobals "min" = some none)
    (z36 : PySem.W.nsIn K mainGlobals "range" = some none)
    (z37 : PySem.W.nsIn K mainGlobals "repr" = some none)
    (z38 : PySem.W.nsIn K mainGlobals "sorted" = some none)
    (z39 : PySem.W.nsIn K mainGlobals "str" = some none)
    (z40 : PySem.W.nsIn K mainGlobals "super" = some none)
    (z41 : PySem.W.nsIn K mainGlobals "tuple" = some none)
    {t42 : Tok} (g42 : PySem.W.nsIn K mainGlobals "MOST_ZIGZAG" = some (some (.int 1000000000000000000000000000000 t42)))
    {t43 : Tok} (g43 : PySem.W.nsIn K mainGlobals "RINGS" = some (some (.str "rings" t43)))
    {t44 : Tok} (g44 : PySem.W.nsIn K mainGlobals "ROWS" = some (some (.str "rows" t44))) :
    ∃ fd : FuncData, (∀ (s : Shared) (v : Value), BindsTo s fd ⟨[v], []⟩ [("_law_cells", v)]) ∧ ∀ base : Heap, K.In base → base.Ns mainGlobals mg → FnG l.prog w K mg base CX0 7 fa fd ["_law_cells"] (sp_law K) := by
  have e := hfa.symm.trans (PySem.W.mg_of X G a26)
  cases e
  have T : Env K mg := ⟨⟨_, _, fun_mk (st := s_is_integer) l1 c1 k1, PySem.W.mg_of X G a1⟩,
    ⟨_, _, fun_mk (st := s_is_between) l2 c2 k2, PySem.W.mg_of X G a2⟩,
    ⟨_, _, fun_mk (st := s_is_size) l3 c3 k3, PySem.W.mg_of X G a3⟩,
    ⟨_, _, fun_mk (st := s_evenings_for) l4 c4 k4, PySem.W.mg_of X G a4⟩,
    ⟨_, _, fun_mk (st := s_check_kind) l5 c5 k5, PySem.W.mg_of X G a5⟩,
    ⟨_, _, fun_mk (st := s_check_size) l6 c6 k6, PySem.W.mg_of X G a6⟩,
    ⟨_, _, fun_mk (st := s_round_size) l7 c7 k7, PySem.W.mg_of X G a7⟩,
    ⟨_, _, fun_mk (st := s_person_in) l8 c8 k8, PySem.W.mg_of X G a8⟩,
    ⟨_, _, fun_mk (st := s_index_in) l9 c9 k9, PySem.W.mg_of X G a9⟩,
    ⟨_, _, fun_mk (st := s_person_at) l10 c10 k10, PySem.W.mg_of X G a10⟩,
    ⟨_, _, fun_mk (st := s_index_of) l11 c11 k11, PySem.W.mg_of X G a11⟩,
    ⟨_, _, fun_mk (st := s_check_evening_of) l12 c12 k12, PySem.W.mg_of X G a12⟩,
    ⟨_, _, fun_mk (st := s_check_person) l13 c13 k13, PySem.W.mg_of X G a13⟩,
    ⟨_, _, fun_mk (st := s_zigzag_beside) l14 c14 k14, PySem.W.mg_of X G a14⟩,
    ⟨_, _, fun_mk (st := s_zigzag_evening) l15 c15 k15, PySem.W.mg_of X G a15⟩,
    ⟨_, _, fun_mk (st := s_zigzag_place) l16 c16 k16, PySem.W.mg_of X G a16⟩,
    ⟨_, _, fun_mk (st := s_zigzag_person) l17 c17 k17, PySem.W.mg_of X G a17⟩,
    ⟨_, _, fun_mk (st := s__law_spring) l18 c18 k18, PySem.W.mg_of X G a18⟩,
    ⟨_, _, fun_mk (st := s__law_draw) l19 c19 k19, PySem.W.mg_of X G a19⟩,
    ⟨_, _, fun_mk (st := s__law_of) l20 c20 k20, PySem.W.mg_of X G a20⟩,
    ⟨_, _, fun_mk (st := s__law_nights) l21 c21 k21, PySem.W.mg_of X G a21⟩,
    ⟨_, _, fun_mk (st := s__law_number) l22 c22 k22, PySem.W.mg_of X G a22⟩,
    ⟨_, _, fun_mk (st := s__law_shape) l23 c23 k23, PySem.W.mg_of X G a23⟩,
    ⟨_, _, fun_mk (st := s__law_ahead) l24 c24 k24, PySem.W.mg_of X G a24⟩,
    ⟨_, _, fun_mk (st := s__law_right) l25 c25 k25, PySem.W.mg_of X G a25⟩,
    ⟨_, _, fun_mk (st := s_law) l26 c26 k26, PySem.W.mg_of X G a26⟩,
    PySem.W.mg_none_of X G z27,
    PySem.W.mg_none_of X G z28,
    PySem.W.mg_none_of X G z29,
    PySem.W.mg_none_of X G z30,
    PySem.W.mg_none_of X G z31,
    PySem.W.mg_none_of X G z32,
    PySem.W.mg_none_of X G z33,
    PySem.W.mg_none_of X G z34,
    PySem.W.mg_none_of X G z35,
    PySem.W.mg_none_of X G z36,
    PySem.W.mg_none_of X G z37,
    PySem.W.mg_none_of X G z38,
    PySem.W.mg_none_of X G z39,
    PySem.W.mg_none_of X G z40,
    PySem.W.mg_none_of X G z41,
    ⟨_, PySem.W.mg_of X G g42⟩,
    ⟨_, PySem.W.mg_of X G g43⟩,
    ⟨_, PySem.W.mg_of X G g44⟩⟩
  refine ⟨PySem.W.fnOf "law" "law" (defArgs s_law) (defBody s_law) (defScope s_law) .none kV26 dc26 pm26 an26 cd26 ct26, fun s v => .of_eq rfl, fun base _ _ => ?_⟩
  obtain ⟨f, fd, F, hm, R⟩ := (ok_law (P := l.prog) (w := w) (base := base) T).ex
  have e := hfa.symm.trans hm
  cases e
  obtain ⟨_, _, _, _, _, _, _, _, _, e1, e2, _⟩ := F.ex
  rw [l26] at e2
  cases e2
  exact R
end K67
open PySem PySem.W PyProof.Rows
set_option maxRecDepth 100000 in
set_option maxHeartbeats 0 in
theorem PySem.Challenge.cw_extendrounds_k67_whole_great_zigzags_holds : PySem.Challenge.rw_extendrounds_k67_whole_great_zigzags.Holds := by
  w_on; o_law; k_head; (case hw => w_witness2)
  k_fill
  refine Z.walk_G (l := PySem.Challenge.rw_extendrounds_k67_whole_great_zigzags) (n := 63) (k := 7) (x := "_law_cells") (sp := K67.sp_law) rfl (by decide) rfl ⟨rfl, by decide, by decide⟩ (fun w h Y => PySem.W.kIn_of Y) ?F (fun _ _ a ns hl _ hS => ⟨a, ns, rfl, hS, hl, fun _ => rfl⟩)
  case F =>
    intro w mg fa h KX G hmg
    refine' K67.all_mk KX G hmg ?a1 ?l1 ?c1 ?k1 ?a2 ?l2 ?c2 ?k2 ?a3 ?l3 ?c3 ?k3 ?a4 ?l4 ?c4 ?k4 ?a5 ?l5 ?c5 ?k5 ?a6 ?l6 ?c6 ?k6 ?a7 ?l7 ?c7 ?k7 ?a8 ?l8 ?c8 ?k8 ?a9 ?l9 ?c9 ?k9 ?a10 ?l10 ?c10 ?k10 ?a11 ?l11 ?c11 ?k11 ?a12 ?l12 ?c12 ?k12 ?a13 ?l13 ?c13 ?k13 ?a14 ?l14 ?c14 ?k14 ?a15 ?l15 ?c15 ?k15 ?a16 ?l16 ?c16 ?k16 ?a17 ?l17 ?c17 ?k17 ?a18 ?l18 ?c18 ?k18 ?a19 ?l19 ?c19 ?k19 ?a20 ?l20 ?c20 ?k20 ?a21 ?l21 ?c21 ?k21 ?a22 ?l22 ?c22 ?k22 ?a23 ?l23 ?c23 ?k23 ?a24 ?l24 ?c24 ?k24 ?a25 ?l25 ?c25 ?k25 ?a26 ?l26 ?c26 ?k26 ?z27 ?z28 ?z29 ?z30 ?z31 ?z32 ?z33 ?z34 ?z35 ?z36 ?z37 ?z38 ?z39 ?z40 ?z41 ?g42 ?g43 ?g44
    (case a1 => k_is); (case l1 => k_is); (case c1 => k_is); (case k1 => k_is); (case a2 => k_is); (case l2 => k_is); (case c2 => k_is); (case k2 => k_is); (case a3 => k_is); (case l3 => k_is); (case c3 => k_is); (case k3 => k_is); (case a4 => k_is); (case l4 => k_is); (case c4 => k_is); (case k4 => k_is); (case a5 => k_is); (case l5 => k_is); (case c5 => k_is); (case k5 => k_is); (case a6 => k_is); (case l6 => k_is); (case c6 => k_is); (case k6 => k_is); (case a7 => k_is); (case l7 => k_is); (case c7 => k_is); (case k7 => k_is); (case a8 => k_is); (case l8 => k_is); (case c8 => k_is); (case k8 => k_is); (case a9 => k_is); (case l9 => k_is); (case c9 => k_is); (case k9 => k_is); (case a10 => k_is); (case l10 => k_is); (case c10 => k_is); (case k10 => k_is); (case a11 => k_is); (case l11 => k_is); (case c11 => k_is); (case k11 => k_is); (case a12 => k_is); (case l12 => k_is); (case c12 => k_is); (case k12 => k_is); (case a13 => k_is); (case l13 => k_is); (case c13 => k_is); (case k13 => k_is); (case a14 => k_is); (case l14 => k_is); (case c14 => k_is); (case k14 => k_is); (case a15 => k_is); (case l15 => k_is); (case c15 => k_is); (case k15 => k_is); (case a16 => k_is); (case l16 => k_is); (case c16 => k_is); (case k16 => k_is); (case a17 => k_is); (case l17 => k_is); (case c17 => k_is); (case k17 => k_is); (case a18 => k_is); (case l18 => k_is); (case c18 => k_is); (case k18 => k_is); (case a19 => k_is); (case l19 => k_is); (case c19 => k_is); (case k19 => k_is); (case a20 => k_is); (case l20 => k_is); (case c20 => k_is); (case k20 => k_is); (case a21 => k_is); (case l21 => k_is); (case c21 => k_is); (case k21 => k_is); (case a22 => k_is); (case l22 => k_is); (case c22 => k_is); (case k22 => k_is); (case a23 => k_is); (case l23 => k_is); (case c23 => k_is); (case k23 => k_is); (case a24 => k_is); (case l24 => k_is); (case c24 => k_is); (case k24 => k_is); (case a25 => k_is); (case l25 => k_is); (case c25 => k_is); (case k25 => k_is); (case a26 => k_is); (case l26 => k_is); (case c26 => k_is); (case k26 => k_is); (case z27 => k_is); (case z28 => k_is); (case z29 => k_is); (case z30 => k_is); (case z31 => k_is); (case z32 => k_is); (case z33 => k_is); (case z34 => k_is); (case z35 => k_is); (case z36 => k_is); (case z37 => k_is); (case z38 => k_is); (case z39 => k_is); (case z40 => k_is); (case z41 => k_is); (case g42 => k_is); (case g43 => k_is); (case g44 => k_is)
#print axioms PySem.Challenge.cw_extendrounds_k67_whole_great_zigzags_holds

