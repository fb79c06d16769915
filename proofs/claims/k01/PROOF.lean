import PyProof.Rows.All
import Wide.All
import OpenK.AllK
import Wide.FinOn
import HandS.ForMost
import HandS.ForExc
import HandS.IsInst
import HandS.Wide
import HandS.WideBits
import KE.KSortedM
import PyProof.StrLawsRepr
import HandS.SortRule
import HandS.SortInts
import HandS.Conv
import HandS.TupSets
import KE.GoesMore
import HandS.SetFor
import HandS.Star
import HandS.Deep
import HandS.TupAny
import HandS.TryOnly
import HandS.Style
import HandS.Walk
import HandS.FStr
import KE.KExcSuper
import KE.KExcInit
import KE.KSuper
import KE.KTryMore
import HandS.ExcInit
import HandS.ExcIs
import HandS.TryMany
import KE.KExcIs
import HandS.ExcValue
import PyProof.ReprRoads
import PySem.Challenge.RW_extendrounds_k01_errors_and_limits
set_option Elab.async false
set_option linter.all false
set_option maxRecDepth 100000
set_option maxHeartbeats 4000000
/-! Words shared by the proofs: where a def stands, what it promises, calls of it; readings taken apart by simp. -/
namespace Z
open PySem PySem.Spec PyProof.Rows L2

/-- the def x of the text stands where the module's name x points -/
def Here (K : PySem.W.Frag) (mg : Str → Option Value) (x : Str) (st : Stmt) : Prop := ∃ f fd, Fun K x x st f fd ∧ mg x = some (.ref f)
/-- how positional arguments come to the parameters: for every def without defaults -/
def Bd (x : Str) (st : Stmt) (ps : List Str) : Prop := ∀ (qual : Str) (kV doc pm : Value) (an : Option Addr) (cdv ct : Value) (us : List Value), us.length = ps.length → bindArgs (PySem.W.fnOf x qual (defArgs st) (defBody st) (defScope st) .none kV doc pm an cdv ct) ⟨us, []⟩ = pure (ps.zip us)
/-- it stands there and keeps its promise -/
structure Hd (P : Program) (w : World) (K : PySem.W.Frag) (mg : Str → Option Value) (base : Heap) (CX : CXT) (k : Nat) (x : Str) (st : Stmt) (ps : List Str) (sp : Sp) : Prop where
  ex : ∃ f fd, Fun K x x st f fd ∧ mg x = some (.ref f) ∧ FnOk P w K mg base CX k f fd ps sp
  bd : Bd x st ps
section
variable {X : Cx} {CX : CXT} {k : Nat} {st : Stmt} {ps : List Str} {sp : Sp} {E : XK} {x : Str} {p pos : Pos} {e : Expr} {es : List Expr} {t : TA}
theorem pe_hd (h : Hd X.prog X.w X.K X.mg X.base CX k x st ps sp) (hr : Room k X.A) (hg : Gl X x) (hx : Passes CX X E) (ha : PA X (e :: es) t) (hdb : (x == ("__debug__" : Str)) = false := by decide)
    (hs : starEach (e :: es) X.env = (false, eval e X.env) :: starEach es X.env := by rfl) (hpl : (backTo pos (starEach es X.env)).any (·.1) = false := by rfl) : PE X (.Call (.Name x p) (e :: es) [] pos) (tCall sp [] E t) := by
  obtain ⟨f, fd, F, hm, G⟩ := h.ex
  exact pe_call G hr hg hm F.kp (F.binds (h.bd x)) .nil hx ha hdb hs hpl
theorem pe_hd0 (h : Hd X.prog X.w X.K X.mg X.base CX k x st ps sp) (hr : Room k X.A) (hg : Gl X x) (hx : Passes CX X E) (hdb : (x == ("__debug__" : Str)) = false := by decide) : PE X (.Call (.Name x p) [] [] pos) (tCall sp [] E tNil) := by
  obtain ⟨f, fd, F, hm, G⟩ := h.ex
  exact pe_call0 G hr hg hm F.kp (F.binds (h.bd x)) .nil hx hdb
end
/-! ### readings taken apart -/
theorem set_z {α : Type} (a b : α) (l : List α) : (a :: l).set 0 b = b :: l := rfl
theorem set_s {α : Type} (a b : α) (l : List α) (i : Nat) : (a :: l).set (i + 1) b = a :: l.set i b := rfl
/-! ### cuts: a word between a part and what follows -/
def tCutE (te : TE) : TE := fun σ H Q => ∃ S : V → Hp → Prop, te σ H S ∧ ∀ v H', S v H' → Q v H'
theorem pe_cutZ {X : Cx} {e : Expr} {te : TE} (h : PE X e te) : PE X e (tCutE te) := ⟨fun pins s σ H Q I ⟨S, h1, h2⟩ =>
  thn (h.run pins s σ H S I h1) fun _ _ ⟨v, H', I', r, q⟩ => ⟨v, H', I', r, h2 v H' q⟩⟩
def tCutS (t u : TS) : TS := fun D σ H => ∃ Mid : L2.St → Hp → Prop, t { D with nx := Mid } σ H ∧ ∀ σ' H', Mid σ' H' → u D σ' H'
theorem pss_cutZ {X : Cx} {st : Stmt} {rest : List Stmt} {t u : TS} (h1 : PS X st t) (h2 : PSs X rest u) : PSs X (st :: rest) (tCutS t u) := by
  refine ⟨fun pins s σ H D I h => ?_⟩
  obtain ⟨Mid, hm, hu⟩ := h
  refine wpAny_execs_cons (thn (h1.run pins s σ H { D with nx := Mid } I hm) fun f s1 q => ?_)
  cases f with
  | next =>
    obtain ⟨σ', H', I', q⟩ := q
    exact h2.run pins s1 σ' H' D I' (hu σ' H' q)
  | ret v => exact q
  | brk => exact q
  | cont => exact q
/-- one of two written values -/
def tIfCI (t : TT) (i j : Int) : TE := fun σ H Q => t σ H fun c H1 => Q (.int (if c = true then i else j)) H1
theorem pe_ifCI {X : Cx} {c a b : Expr} {t : TT} {i j : Int} {pos : Pos} (hc : PT X c t) (ha : PE X a (tC (.int i))) (hb : PE X b (tC (.int j))) : PE X (.IfExp c a b pos) (tIfCI t i j) := ⟨fun pins s σ H Q I h =>
  (pe_ifExp hc ha hb).run pins s σ H Q I (by
    unfold tIfCI at h
    have e : (fun (c : Bool) (H1 : Hp) => if c = true then tC (.int i) σ H1 Q else tC (.int j) σ H1 Q) = fun c H1 => Q (.int (if c = true then i else j)) H1 := by
      funext c H1
      cases c <;> rfl
    show t σ H (fun (c : Bool) (H1 : Hp) => if c = true then tC (.int i) σ H1 Q else tC (.int j) σ H1 Q)
    rw [e]
    exact h)⟩
def tIfCS (t : TT) (i j : Str) : TE := fun σ H Q => t σ H fun c H1 => Q (.str (if c = true then i else j)) H1
theorem pe_ifCS {X : Cx} {c a b : Expr} {t : TT} {i j : Str} {pos : Pos} (hc : PT X c t) (ha : PE X a (tC (.str i))) (hb : PE X b (tC (.str j))) : PE X (.IfExp c a b pos) (tIfCS t i j) := ⟨fun pins s σ H Q I h =>
  (pe_ifExp hc ha hb).run pins s σ H Q I (by
    unfold tIfCS at h
    have e : (fun (c : Bool) (H1 : Hp) => if c = true then tC (.str i) σ H1 Q else tC (.str j) σ H1 Q) = fun c H1 => Q (.str (if c = true then i else j)) H1 := by
      funext c H1
      cases c <;> rfl
    show t σ H (fun (c : Bool) (H1 : Hp) => if c = true then tC (.str i) σ H1 Q else tC (.str j) σ H1 Q)
    rw [e]
    exact h)⟩
theorem z_seq {t u : TS} {D : Ends} {σ : L2.St} {H : Hp} (h : t { D with nx := u D } σ H) : tSeq t u D σ H := h
section
variable {X : Cx} {K : PySem.W.Frag} {H : Hp} {σ : L2.St}
/-- an item of a tracked list -/
def rIxH : R2 := fun x y H Q => ∃ p i xs v, x = .ref p ∧ y = .int i ∧ H p = some (.lst xs) ∧ atI xs i = some v ∧ Q v H
theorem ix_listH : IxR X rIxH := by
  intro e1 e2 pins s σ H x y v u Q I rx ry h hs
  obtain ⟨p, i, xs, z, rfl, rfl, hp, ha, q⟩ := h
  exact ix_list e1 e2 pins s σ H _ _ v u Q I rx ry ⟨p, xs, i, z, rfl, rfl, SqL.of hp, ha, q⟩ hs
def rIxU : R2 := fun x y H Q => ∃ p i xs v, x = .ref p ∧ y = .int i ∧ H p = some (.tup xs) ∧ atI xs i = some v ∧ Q v H
theorem ix_tupH : IxR X rIxU := by
  intro e1 e2 pins s σ H x y v u Q I rx ry h hs
  obtain ⟨p, i, xs, z, rfl, rfl, hp, ha, q⟩ := h
  exact ix_tup e1 e2 pins s σ H _ _ v u Q I rx ry ⟨p, xs, i, z, rfl, rfl, SqT.of hp, ha, q⟩ hs
theorem at30 {α : Type} (a b c : α) : atI [a, b, c] 0 = some a := rfl
theorem at31 {α : Type} (a b c : α) : atI [a, b, c] 1 = some b := rfl
theorem at32 {α : Type} (a b c : α) : atI [a, b, c] 2 = some c := rfl
theorem ixN30 {α : Type} (a b c : α) : ixN [a, b, c].length 0 = some 0 := rfl
theorem ixN31 {α : Type} (a b c : α) : ixN [a, b, c].length 1 = some 1 := rfl
theorem ixN32 {α : Type} (a b c : α) : ixN [a, b, c].length 2 = some 2 := rfl
theorem ix3_0 : ixN 3 0 = some 0 := rfl
theorem ix3_1 : ixN 3 1 = some 1 := rfl
theorem ix3_2 : ixN 3 2 = some 2 := rfl
/-- in, not in: a tracked tuple, a tracked list of flat things -/
def rInU (neg : Bool) : R2 := fun x y H Q => ∃ p xs, y = .ref p ∧ H p = some (.tup xs) ∧ flatV x = true ∧ xs.all flatV = true ∧ Q (.bl (if neg then !inV x xs else inV x xs)) H
def rInH (neg : Bool) : R2 := fun x y H Q => ∃ p xs, y = .ref p ∧ H p = some (.lst xs) ∧ flatV x = true ∧ xs.all flatV = true ∧ Q (.bl (if neg then !inV x xs else inV x xs)) H
theorem op_in_tupH : OpR X (compareOp .In) (rInU false) := by
  intro pins s σ H x y v u Q I rx ry h
  obtain ⟨p, xs, e, hp, h1, h2, q⟩ := h
  exact op_in_seq pins s σ H x y v u Q I rx ry ⟨p, xs, e, .inr (SqT.of hp), h1, h2, q⟩
theorem op_notIn_tupH : OpR X (compareOp .NotIn) (rInU true) := by
  intro pins s σ H x y v u Q I rx ry h
  obtain ⟨p, xs, e, hp, h1, h2, q⟩ := h
  exact op_notIn_seq pins s σ H x y v u Q I rx ry ⟨p, xs, e, .inr (SqT.of hp), h1, h2, q⟩
theorem op_in_lstH : OpR X (compareOp .In) (rInH false) := by
  intro pins s σ H x y v u Q I rx ry h
  obtain ⟨p, xs, e, hp, h1, h2, q⟩ := h
  exact op_in_seq pins s σ H x y v u Q I rx ry ⟨p, xs, e, .inl (SqL.of hp), h1, h2, q⟩
theorem op_notIn_lstH : OpR X (compareOp .NotIn) (rInH true) := by
  intro pins s σ H x y v u Q I rx ry h
  obtain ⟨p, xs, e, hp, h1, h2, q⟩ := h
  exact op_notIn_seq pins s σ H x y v u Q I rx ry ⟨p, xs, e, .inl (SqL.of hp), h1, h2, q⟩
/-! built-ins of tracked lists and tuples, each with one answer -/
theorem perm_sort {a b : List Int} (hp : a.Perm b) (ha : a.Pairwise (· ≤ ·)) : a = b.mergeSort := by
  have h2 : (b.mergeSort (· ≤ ·)).Pairwise (· ≤ ·) := by
    have h := List.pairwise_mergeSort (le := fun x y : Int => decide (x ≤ y)) (fun x y z h1 h2 => by simp only [decide_eq_true_eq] at *; omega) (fun x y => by simp only [Bool.or_eq_true, decide_eq_true_eq]; omega) b
    exact h.imp fun h => of_decide_eq_true h
  exact PySem.W.ksm_same (hp.trans (List.mergeSort_perm b _).symm) ha h2
theorem map_int_inj (a b : List Int) : (a.map V.int = b.map V.int) = (a = b) := propext ⟨fun h => List.map_inj_right (fun x y e => V.int.inj e) |>.mp h, fun h => by rw [h]⟩
theorem map_bl_inj (a b : List Bool) : (a.map V.bl = b.map V.bl) = (a = b) := propext ⟨fun h => List.map_inj_right (fun x y e => V.bl.inj e) |>.mp h, fun h => by rw [h]⟩
def rTupL : List V → Hp → VK → Prop := fun xs H Q => ∃ p ys, xs = [.ref p] ∧ H p = some (.lst ys) ∧ ∀ l, H l = none → Q (.ref l) (upd H l (.tup ys))
theorem call_tupleL : CallR X (.type "tuple") rTupL := by
  intro pins s σ H xs us Q I r h
  obtain ⟨p, ys, e, hp, q⟩ := h
  exact call_tuple_of pins s σ H xs us Q I r ⟨p, ys, e, .inl ⟨SqL.of hp, q⟩⟩
def rLstL : List V → Hp → VK → Prop := fun xs H Q => ∃ p ys, xs = [.ref p] ∧ H p = some (.lst ys) ∧ ∀ l, H l = none → Q (.ref l) (upd H l (.lst ys))
theorem call_listL : CallR X (.type "list") rLstL := by
  intro pins s σ H xs us Q I r h
  obtain ⟨p, ys, e, hp, q⟩ := h
  exact call_list_of pins s σ H xs us Q I r ⟨p, ys, e, .inl (SqL.of hp), q⟩
def rLstT : List V → Hp → VK → Prop := fun xs H Q => ∃ p ys, xs = [.ref p] ∧ H p = some (.tup ys) ∧ ∀ l, H l = none → Q (.ref l) (upd H l (.lst ys))
theorem call_listT : CallR X (.type "list") rLstT := by
  intro pins s σ H xs us Q I r h
  obtain ⟨p, ys, e, hp, q⟩ := h
  exact call_list_of pins s σ H xs us Q I r ⟨p, ys, e, .inr (SqT.of hp), q⟩
def rSortI : List V → Hp → VK → Prop := fun vs H Q => ∃ (a : Addr) (ns : List Int), vs = [V.ref a] ∧ H a = some (.lst (ns.map V.int)) ∧ ns.length < 64 ∧ ∀ p : Addr, H p = none → Q (.ref p) (upd H p (.lst (ns.mergeSort.map V.int)))
theorem cr_sortedH : CallR X (.builtin "sorted") rSortI := by
  intro pins s σ H vs us Q I r h
  obtain ⟨a, ns, e, ha, hl, q⟩ := h
  exact cr_sorted pins s σ H vs us Q I r ⟨a, ns, e, SqL.of ha, hl, fun ns' p hp hs hn => by rw [perm_sort hp hs]; exact q p hn⟩
def rAnyH : List V → Hp → VK → Prop := fun vs H Q => ∃ (a : Addr) (bs : List Bool), vs = [V.ref a] ∧ H a = some (.lst (bs.map V.bl)) ∧ Q (.bl (bs.any id)) H
def rAllH : List V → Hp → VK → Prop := fun vs H Q => ∃ (a : Addr) (bs : List Bool), vs = [V.ref a] ∧ H a = some (.lst (bs.map V.bl)) ∧ Q (.bl (bs.all id)) H
theorem cr_anyH (hc : X.calm = true) : CallR X (.builtin "any") rAnyH := by
  intro pins s σ H vs us Q I r h
  obtain ⟨a, bs, e, ha, q⟩ := h
  exact cr_any hc pins s σ H vs us Q I r ⟨a, bs, e, SqL.of ha, q⟩
theorem cr_allH (hc : X.calm = true) : CallR X (.builtin "all") rAllH := by
  intro pins s σ H vs us Q I r h
  obtain ⟨a, bs, e, ha, q⟩ := h
  exact cr_all hc pins s σ H vs us Q I r ⟨a, bs, e, SqL.of ha, q⟩
def rSumH : List V → Hp → VK → Prop := fun vs H Q => ∃ (a : Addr) (ns : List Int), vs = [V.ref a] ∧ H a = some (.lst (ns.map V.int)) ∧ Q (.int ns.sum) H
theorem cr_sumH (hc : X.calm = true) : CallR X (.builtin "sum") rSumH := by
  intro pins s σ H vs us Q I r h
  obtain ⟨a, ns, e, ha, q⟩ := h
  exact cr_sum hc pins s σ H vs us Q I r ⟨a, ns, e, SqL.of ha, q⟩
def rLenL : List V → Hp → VK → Prop := fun xs H Q => ∃ p ys, xs = [.ref p] ∧ H p = some (.lst ys) ∧ Q (.int ys.length) H
def rLenU : List V → Hp → VK → Prop := fun xs H Q => ∃ p ys, xs = [.ref p] ∧ H p = some (.tup ys) ∧ Q (.int ys.length) H
theorem call_lenL : CallR X (.builtin "len") rLenL := by
  intro pins s σ H vs us Q I r h
  obtain ⟨a, ys, e, ha, q⟩ := h
  exact call_len_seq pins s σ H vs us Q I r ⟨a, ys, e, .inl (SqL.of ha), q⟩
theorem call_lenU : CallR X (.builtin "len") rLenU := by
  intro pins s σ H vs us Q I r h
  obtain ⟨a, ys, e, ha, q⟩ := h
  exact call_len_seq pins s σ H vs us Q I r ⟨a, ys, e, .inr (SqT.of ha), q⟩
/-- a method of a tracked list -/
def tBML (r : V → List V → Hp → VK → Prop) (to : TE) (t : TA) : TE := fun σ H Q => to σ H fun x H1 => ∃ a xs, x = .ref a ∧ H1 a = some (.lst xs) ∧ t σ H1 fun vs H2 => r x vs H2 Q
theorem pe_bmL {o e : Expr} {es : List Expr} {to : TE} {t : TA} {name : Str} {apos cpos : Pos} {id : String} {r : V → List V → Hp → VK → Prop} (pa : PlainAttrs "list") (slot : Slot "list" name id) (hty : typeOf (.builtin id) = pure (.type "method_descriptor")) (hm : MtR X id r) (ho : PE X o to) (ha : PA X (e :: es) t)
    (hbase : attributeBase o name X.env (eval o X.env) = eval o X.env := by rfl)
    (hfew : ((backTo cpos (starEach (e :: es) X.env)).all (fun x => !x.1) && (backToKw cpos (keywordEach [] X.env)).all (fun x => x.1.isSome)
      && decide ((e :: es).length + ([] : List Keyword).length + (if ([] : List Keyword).isEmpty then 0 else 1) < 30)) = true := by rfl)
    (hline : (apos.endLine == cpos.line) = true := by rfl) (hs : starEach (e :: es) X.env = (false, eval e X.env) :: starEach es X.env := by rfl) (hplain : (backTo cpos (starEach es X.env)).any (·.1) = false := by rfl) :
    PE X (.Call (.Attribute o name apos) (e :: es) [] cpos) (tBML r to t) := by
  refine ⟨fun pins s σ H Q I h => ?_⟩
  refine wpAny_Call_method_late hbase hfew hline rfl (thn (ho.run pins s σ H _ I h) fun v s1 ⟨x, H1, I1, r1, a, xs, ex, ea, q1⟩ => ?_)
  subst ex
  obtain ⟨h1, h2⟩ := tyV_is (T := "list") (x := .ref a) I1 r1 (.inl ⟨rfl, xs, SqL.of ea⟩)
  refine ⟨"list", id, pa, slot, hty, h1, h2, ?_⟩
  have hA := ha.run cpos pins s1 σ H1 _ I1 q1
  rw [hs] at hA ⊢
  refine Calls.callWith_builtin (by show (false || (backTo cpos (starEach es X.env)).any (·.1)) = false; rw [hplain] <;> rfl) (Calls.evalArgs_plain ?_)
  exact thn hA fun us s2 ⟨vs, H2, I2, r2, q2⟩ => hm pins s2 σ H2 _ vs v us Q I2 r1 r2 q2
/-- for k in range(n), n reckoned -/
theorem for_rng {n : Int} {g : TG} {tb : TS} {D : Ends} {H1 : Hp} {ta : TA} (hta : ∀ R : List V → Hp → Prop, R [.int n] H1 → ta σ H R) (hn : 0 ≤ n ∧ n < 2 ^ 62) (Pv : Nat → L2.St → Hp → Prop) (h0 : Pv 0 σ H1)
    (hs : ∀ (i : Nat) σ H, (i : Int) < n → Pv i σ H → g (.int i) σ H fun σ2 H2 => tb { D with nx := Pv (i + 1), ct := Pv (i + 1), bk := D.nx } σ2 H2) (hd : ∀ σ H, Pv n.toNat σ H → D.nx σ H) : tFor (iRng1 ta) g tb D σ H := by
  refine hta _ ⟨n, rfl, by omega, hn.2, ?_⟩
  refine for_range (lo := 0) (n := n.toNat) Pv h0 (fun i σ H hi p => ?_) hd
  have e : (0 : Int) + (i : Int) = (i : Int) := by omega
  rw [e]
  exact hs i σ H (by omega) p
/-- [e for k in range(n)] -/
theorem lc_rng {n : Int} {g : TG} {tt : TT} {te : TE} {vs : List Nat} {H1 : Hp} {ta : TA} {Q : VK} (hta : ∀ R : List V → Hp → Prop, R [.int n] H1 → ta σ H R) (hn : n < 2 ^ 62 ∧ -(2 ^ 62) ≤ n) (Pv : Addr → Nat → Hp → Prop) (h0 : ∀ D, H1 D = none → Pv D 0 (upd H1 D (.lst [])))
    (hs : ∀ D, H1 D = none → ∀ (i : Nat) H, (i : Int) < n → Pv D i H → g (.int i) (wipe σ vs) H fun σ2 H2 => wipe σ2 vs = wipe σ vs ∧ tt σ2 H2 fun b H3 =>
      if b = true then te σ2 H3 fun y H4 => ∃ acc, H4 D = some (.lst acc) ∧ acc.length < sizeLine ∧ Pv D (i + 1) (upd H4 D (.lst (acc ++ [y]))) else Pv D (i + 1) H3) (hd : ∀ D H, H1 D = none → Pv D n.toNat H → Q (.ref D) H) : tLc (iRng1 ta) g tt te vs σ H Q := by
  refine hta _ ⟨n, rfl, hn.2, hn.1, fun D hD => ?_⟩
  refine lc_range (lo := 0) (n := n.toNat) (Pv D) (h0 D hD) (fun i H hi p => ?_) fun H p => hd D H hD p
  have e : (0 : Int) + (i : Int) = (i : Int) := by omega
  rw [e]
  exact hs D hD i H (by omega) p
/-- [e for x in xs], the list told by its tracked address -/
theorem lc_lst {a : Addr} {xs : List V} {g : TG} {tt : TT} {te : TE} {vs : List Nat} {H1 : Hp} {tl : TE} {Q : VK} (htl : ∀ R : VK, R (.ref a) H1 → tl σ H R) (Pv : Addr → Nat → Hp → Prop) (ha : SqL K H1 a xs) (h0 : ∀ D, H1 D = none → Pv D 0 (upd H1 D (.lst [])))
    (hl : ∀ D, H1 D = none → ∀ i H, Pv D i H → SqL K H a xs)
    (hs : ∀ D, H1 D = none → ∀ (i : Nat) x H, xs[i]? = some x → Pv D i H → g x (wipe σ vs) H fun σ2 H2 => wipe σ2 vs = wipe σ vs ∧ tt σ2 H2 fun b H3 =>
      if b = true then te σ2 H3 fun y H4 => ∃ acc, H4 D = some (.lst acc) ∧ acc.length < sizeLine ∧ Pv D (i + 1) (upd H4 D (.lst (acc ++ [y]))) else Pv D (i + 1) H3) (hd : ∀ D H, H1 D = none → Pv D xs.length H → Q (.ref D) H) : tLc (iList K tl) g tt te vs σ H Q := by
  refine htl _ ⟨a, rfl, ⟨xs, ha⟩, fun D hD => ?_⟩
  exact lc_list (K := K) (a := a) (xs := xs) (Pv D) (h0 D hD) (fun i H _ p => hl D hD i H p) (hs D hD) fun H p => hd D H hD p
/-- over a tuple -/
theorem lc_tp {a : Addr} {xs : List V} {g : TG} {tt : TT} {te : TE} {vs : List Nat} {H1 : Hp} {tl : TE} {Q : VK} (htl : ∀ R : VK, R (.ref a) H1 → tl σ H R) (Pv : Addr → Nat → Hp → Prop) (ha : SqT K H1 a xs) (h0 : ∀ D, H1 D = none → Pv D 0 (upd H1 D (.lst [])))
    (hl : ∀ D, H1 D = none → ∀ i H, Pv D i H → SqT K H a xs)
    (hs : ∀ D, H1 D = none → ∀ (i : Nat) x H, xs[i]? = some x → Pv D i H → g x (wipe σ vs) H fun σ2 H2 => wipe σ2 vs = wipe σ vs ∧ tt σ2 H2 fun b H3 =>
      if b = true then te σ2 H3 fun y H4 => ∃ acc, H4 D = some (.lst acc) ∧ acc.length < sizeLine ∧ Pv D (i + 1) (upd H4 D (.lst (acc ++ [y]))) else Pv D (i + 1) H3) (hd : ∀ D H, H1 D = none → Pv D xs.length H → Q (.ref D) H) : tLc (iTup K tl) g tt te vs σ H Q := by
  refine htl _ ⟨a, rfl, ⟨xs, ha⟩, fun D hD => ?_⟩
  exact lc_tup (K := K) (a := a) (xs := xs) (Pv D) (h0 D hD) (fun i H _ p => hl D hD i H p) (hs D hD) fun H p => hd D H hD p
end
theorem sc_ii (a b : Int) : scal (.int a) (.int b) = true := rfl
theorem sc_ss (a b : Str) : scal (.str a) (.str b) = true := rfl
theorem sc_bb (a b : Bool) : scal (.bl a) (.bl b) = true := rfl
theorem sc_is (a : Int) (b : Str) : scal (.int a) (.str b) = true := rfl
theorem sc_si (a : Str) (b : Int) : scal (.str a) (.int b) = true := rfl
theorem sc_ni (b : Int) : scal .non (.int b) = true := rfl
theorem sc_in (b : Int) : scal (.int b) .non = true := rfl
theorem sc_ns (b : Str) : scal .non (.str b) = true := rfl
theorem sc_sn (b : Str) : scal (.str b) .non = true := rfl
theorem sc_nn : scal .non .non = true := rfl
/-! ### isinstance of a built-in class -/
def tyN (H : Hp) : V → Option String
  | .non => some "NoneType"
  | .bl _ => some "bool"
  | .int _ => some "int"
  | .str _ => some "str"
  | .ref a => match H a with
    | some (.lst _) => some "list"
    | some (.tup _) => some "tuple"
    | some (.dK _) => some "dict"
    | some (.dT _) => some "dict"
    | _ => none
  | _ => none
theorem tyX_of {K : PySem.W.Frag} {H : Hp} {x : V} {t : String} (h : tyN H x = some t) : TyX K H x (.type t) := by
  unfold tyN at h
  split at h
  · cases h; exact .base .non
  · cases h; exact .base (.bl _)
  · cases h; exact .base (.int _)
  · cases h; exact .base (.str _)
  · split at h
    · cases h; exact .base (.lst (by assumption))
    · cases h; exact .base (.tup (by assumption))
    · cases h; exact .base (.dK (by assumption))
    · cases h; exact .base (.dT (by assumption))
    · cases h
  · cases h
def rIsN : List V → Hp → VK → Prop := fun xs H Q => ∃ x n, xs = [x, .ty n] ∧ ∃ t, tyN H x = some t ∧ ∃ b, kitB t n = some b ∧ Q (.bl b) H
theorem call_isN {X : Cx} : CallR X (.builtin "isinstance") rIsN := by
  intro pins s σ H xs us Q I r h
  obtain ⟨x, n, rfl, t, ht, b, hb, q⟩ := h
  exact call_isi pins s σ H _ us Q I r ⟨x, .ty n, .type t, .type n, b, rfl, .ty n, tyX_of ht, kit_ty hb, q⟩
theorem kit_ii : kitB "int" "int" = some true := by decide +kernel
theorem kit_bi : kitB "bool" "int" = some true := by decide +kernel
theorem kit_si : kitB "str" "int" = some false := by decide +kernel
theorem kit_ni : kitB "NoneType" "int" = some false := by decide +kernel
theorem kit_ib : kitB "int" "bool" = some false := by decide +kernel
theorem kit_bb : kitB "bool" "bool" = some true := by decide +kernel
theorem kit_sb : kitB "str" "bool" = some false := by decide +kernel
theorem kit_nb : kitB "NoneType" "bool" = some false := by decide +kernel
theorem kit_is : kitB "int" "str" = some false := by decide +kernel
theorem kit_bs : kitB "bool" "str" = some false := by decide +kernel
theorem kit_ss : kitB "str" "str" = some true := by decide +kernel
theorem kit_ns : kitB "NoneType" "str" = some false := by decide +kernel
/-! ### heaps -/
theorem same_new {H : Hp} {p : Addr} {o : HO} (h : H p = none) : Same H (upd H p o) := fun b x e => by
  rw [upd_ne (ne_of_none e h)]
  exact e
theorem same_upd {H H' : Hp} {p : Addr} {o : HO} (s : Same H H') (h : H p = none) : Same H (upd H' p o) := fun b x e => by
  rw [upd_ne (ne_of_none e h)]
  exact s b x e
theorem same_no {H H' : Hp} {p : Addr} (s : Same H H') (h : H' p = none) : H p = none := s.free h
/-- a, b, .. = a tracked tuple -/
def gTupH (n : Nat) (t : TGs) : TG := fun v σ H Q => ∃ a xs, v = .ref a ∧ H a = some (.tup xs) ∧ xs.length = n ∧ t xs σ H Q
theorem pg_tupH {X : Cx} {es : List Expr} {k : Nat} {pos : Pos} {t : TGs} {n : Nat} (hc : X.calm = true) (h : PGs X es t)
    (hn : (assignEach es X.env).length = n := by rfl) (hst : (assignEach es X.env).findIdx? (·.1) = none := by rfl) : PG X (.Tuple es k pos) (gTupH n t) := by
  refine ⟨fun pins s σ H v u Q I r hw => (pg_tup hc h hn hst).run pins s σ H v u Q I r ?_⟩
  obtain ⟨a, xs, e1, hq, hl, hw⟩ := hw
  exact ⟨a, xs, e1, SqT.of hq, hl, hw⟩
/-- xs[k] of the script, or another number -/
theorem idx_or {K : PySem.W.Frag} {H : Hp} {a : Addr} {ns : List Int} {k c0 : Int} {F : V → Hp → Prop} (hs : SqL K H a (ns.map V.int)) (hk : 0 ≤ k) (h : ∀ c : Int, F (.int c) H) :
    if k < ((ns.map V.int).length : Int) then rIxL K (.ref a) (.int k) H F else F (.int c0) H := by
  split
  · rename_i c
    rw [List.length_map] at c
    obtain ⟨m, rfl⟩ : ∃ m : Nat, k = m := ⟨k.toNat, by omega⟩
    have hl : m < ns.length := by omega
    refine ⟨a, _, _, .int ns[m], rfl, rfl, hs, atI_nat ?_, h _⟩
    rw [List.getElem?_map, List.getElem?_eq_getElem hl]
    rfl
  · exact h _
theorem cut_ints (ns : List Int) (lo hi : Option Int) : ∃ ms : List Int, cutV (ns.map V.int) lo hi = ms.map V.int ∧ ms.length ≤ ns.length := by
  refine ⟨(ns.drop (HT.sIx ns.length 0 lo)).take (HT.sIx ns.length ns.length hi - HT.sIx ns.length 0 lo), ?_, ?_⟩
  · unfold cutV
    rw [List.length_map, List.map_take, List.map_drop]
  · rw [List.length_take, List.length_drop]
    omega
/-- for x in a list of ints that the loop leaves, as it leaves the heap -/
theorem for_ints {K : PySem.W.Frag} {σ : L2.St} {H : Hp} {g : TG} {tb : TS} {D : Ends} {tl : TE} (htl : ∀ R : VK, (∀ a H' (ns : List Int), Same H H' → H' a = some (.lst (ns.map V.int)) → R (.ref a) H') → tl σ H R) (Pv : L2.St → Prop) (h0 : Pv σ)
    (hs : ∀ (x : Int) σ H', Same H H' → Pv σ → ∀ N : L2.St → Hp → Prop, (∀ σ', Pv σ' → N σ' H') → g (.int x) σ H' fun σ2 H2 => tb { D with nx := N, ct := N, bk := D.nx } σ2 H2) (hd : ∀ σ' H', Same H H' → Pv σ' → D.nx σ' H') : tFor (iList K tl) g tb D σ H := by
  refine htl _ fun a H' ns s ha => ⟨a, rfl, ⟨_, SqL.of ha⟩, ?_⟩
  refine for_list (K := K) (a := a) (xs := ns.map V.int) (fun _ σ H2 => H2 = H' ∧ Pv σ) ⟨rfl, h0⟩ (fun i σ H2 _ p => by rw [p.1]; exact SqL.of ha) (fun i x σ H2 hx p => ?_) fun σ H2 p => by
    rw [p.1]
    exact hd σ H' s p.2
  obtain ⟨z, _, rfl⟩ : ∃ z, z ∈ ns ∧ V.int z = x := List.mem_map.mp (List.mem_of_getElem? hx)
  rw [p.1]
  exact hs z σ H' s p.2 _ fun σ' h => ⟨rfl, h⟩
/-- for x in a list that stands and stays -/
theorem for_trk {K : PySem.W.Frag} {σ : L2.St} {H : Hp} {g : TG} {tb : TS} {D : Ends} {tl : TE} {a : Addr} {xs : List V} (htl : ∀ R : VK, R (.ref a) H → tl σ H R) (Pv : Nat → L2.St → Hp → Prop) (h0 : Pv 0 σ H)
    (hst : ∀ i σ' H', Pv i σ' H' → SqL K H' a xs)
    (hs : ∀ i x σ H', xs[i]? = some x → Pv i σ H' → ∀ N : L2.St → Hp → Prop, (∀ σ' H2, Pv (i + 1) σ' H2 → N σ' H2) → g x σ H' fun σ2 H2 => tb { D with nx := N, ct := N, bk := D.nx } σ2 H2)
    (hd : ∀ σ' H', Pv xs.length σ' H' → D.nx σ' H') : tFor (iList K tl) g tb D σ H := by
  refine htl _ ⟨a, rfl, ⟨_, hst 0 σ H h0⟩, ?_⟩
  exact for_list (K := K) (a := a) (xs := xs) Pv h0 (fun i σ H2 _ p => hst i σ H2 p) (fun i x σ H2 hx p => hs i x σ H2 hx p _ fun σ' H3 h => h) hd
/-- for x in a list that is written there -/
theorem for_lstn {K : PySem.W.Frag} {σ : L2.St} {H : Hp} {g : TG} {tb : TS} {D : Ends} {tl : TE} {xs : List V} (htl : ∀ R : VK, (∀ a, H a = none → R (.ref a) (upd H a (.lst xs))) → tl σ H R) (Pv : Nat → L2.St → Hp → Prop)
    (h0 : ∀ a, H a = none → Pv 0 σ (upd H a (.lst xs)))
    (hs : ∀ a, H a = none → ∀ i x σ H', xs[i]? = some x → H' a = some (.lst xs) → Pv i σ H' → ∀ N : L2.St → Hp → Prop, (∀ σ' H2, H2 a = some (.lst xs) → Pv (i + 1) σ' H2 → N σ' H2) → g x σ H' fun σ2 H2 => tb { D with nx := N, ct := N, bk := D.nx } σ2 H2)
    (hd : ∀ σ' H', Pv xs.length σ' H' → D.nx σ' H') : tFor (iList K tl) g tb D σ H := by
  refine htl _ fun a ha => ⟨a, rfl, ⟨_, SqL.of upd_same⟩, ?_⟩
  refine for_list (K := K) (a := a) (xs := xs) (fun i σ H2 => H2 a = some (.lst xs) ∧ Pv i σ H2) ⟨upd_same, h0 a ha⟩ (fun i σ H2 _ p => SqL.of p.1) (fun i x σ H2 hx p => ?_) fun σ H2 p => hd σ H2 p.2
  exact hs a ha i x σ H2 hx p.1 p.2 _ fun σ' H3 h1 h2 => ⟨h1, h2⟩
/-! ### comprehensions whose elements are values -/
section
variable {K : PySem.W.Frag} {σ : L2.St}
theorem take_fm {α β : Type} (f : α → Option β) {xs : List α} {i : Nat} {x : α} (h : xs[i]? = some x) : (xs.take (i + 1)).filterMap f = (xs.take i).filterMap f ++ (f x).toList := by
  rw [List.take_add_one, h, List.filterMap_append]
  cases e : f x with
  | none => simp [e]
  | some y => simp [e]
/-- one turn of a comprehension: the element's value, or nothing -/
def Turn1 (g : TG) (tt : TT) (te : TE) (vs : List Nat) (σ : L2.St) (H : Hp) (x : V) (o : Option V) : Prop :=
  ∀ (Y : V → Hp → Prop) (N : Hp → Prop), (∀ y H', o = some y → Same H H' → Y y H') → (∀ H', o = none → Same H H' → N H') →
    g x (wipe σ vs) H fun σ2 H2 => wipe σ2 vs = wipe σ vs ∧ tt σ2 H2 fun b H3 => if b = true then te σ2 H3 Y else N H3
/-- what the new list holds between two turns -/
def Acc (H1 : Hp) (f : V → Option V) (xs : List V) (D : Addr) (i : Nat) (H : Hp) : Prop := Same H1 H ∧ H D = some (.lst ((xs.take i).filterMap f))
theorem acc_turn {H1 : Hp} {f : V → Option V} {xs : List V} {D : Addr} {i : Nat} {H : Hp} {x : V} {g : TG} {tt : TT} {te : TE} {vs : List Nat} (hD : H1 D = none) (hx : xs.length ≤ 1000) (h : xs[i]? = some x) (p : Acc H1 f xs D i H) (t : Turn1 g tt te vs σ H x (f x)) :
    g x (wipe σ vs) H fun σ2 H2 => wipe σ2 vs = wipe σ vs ∧ tt σ2 H2 fun b H3 =>
      if b = true then te σ2 H3 fun y H4 => ∃ acc, H4 D = some (.lst acc) ∧ acc.length < sizeLine ∧ Acc H1 f xs D (i + 1) (upd H4 D (.lst (acc ++ [y]))) else Acc H1 f xs D (i + 1) H3 := by
  refine t _ _ (fun y H' e s => ?_) fun H' e s => ?_
  · refine ⟨_, s _ _ p.2, ?_, ?_, ?_⟩
    · refine Nat.lt_of_le_of_lt (List.length_filterMap_le _ _) ?_
      rw [List.length_take]
      exact Nat.lt_of_le_of_lt (Nat.min_le_right _ _) (small1000 hx)
    · intro b o eb
      rw [upd_ne (ne_of_none eb hD)]
      exact s _ _ (p.1 _ _ eb)
    · rw [upd_same, take_fm f h, e]
      rfl
  · refine ⟨p.1.trans s, ?_⟩
    rw [take_fm f h, e, s _ _ p.2]
    simp
theorem acc_start {H1 : Hp} {f : V → Option V} {xs : List V} {D : Addr} (hD : H1 D = none) : Acc H1 f xs D 0 (upd H1 D (.lst [])) := ⟨fun b o eb => by
  rw [upd_ne (ne_of_none eb hD)]
  exact eb, by rw [upd_same]; rfl⟩
theorem lc_mapL {a : Addr} {xs : List V} {g : TG} {tt : TT} {te : TE} {vs : List Nat} {H H1 : Hp} {tl : TE} {Q : VK} (f : V → Option V) (htl : ∀ R : VK, R (.ref a) H1 → tl σ H R) (ha : SqL K H1 a xs) (hx : xs.length ≤ 1000)
    (hs : ∀ x ∈ xs, ∀ H, Same H1 H → Turn1 g tt te vs σ H x (f x))
    (hd : ∀ D H', H1 D = none → Same H1 H' → H' D = some (.lst (xs.filterMap f)) → Q (.ref D) H') : tLc (iList K tl) g tt te vs σ H Q := by
  refine htl _ ⟨a, rfl, ⟨xs, ha⟩, fun D hD => ?_⟩
  refine lc_list (K := K) (a := a) (xs := xs) (Acc H1 f xs D) (acc_start hD) (fun i H _ p => p.1.seq ha) (fun i x H h p => acc_turn hD hx h p (hs x (List.mem_of_getElem? h) H p.1)) fun H p => ?_
  have e := p.2
  rw [List.take_length] at e
  exact hd D H hD p.1 e
theorem sq_same {H H' : Hp} {a : Addr} {xs : List V} (e : Same H H') (h : SqT K H a xs) : SqT K H' a xs := by
  rcases h with (h | ⟨o, h⟩) | h
  · exact .inl (.inl (e _ _ h))
  · exact .inl (.inr ⟨o, e _ _ h⟩)
  · exact .inr h
theorem lc_mapT {a : Addr} {xs : List V} {g : TG} {tt : TT} {te : TE} {vs : List Nat} {H H1 : Hp} {tl : TE} {Q : VK} (f : V → Option V) (htl : ∀ R : VK, R (.ref a) H1 → tl σ H R) (ha : SqT K H1 a xs) (hx : xs.length ≤ 1000)
    (hs : ∀ x ∈ xs, ∀ H, Same H1 H → Turn1 g tt te vs σ H x (f x))
    (hd : ∀ D H', H1 D = none → Same H1 H' → H' D = some (.lst (xs.filterMap f)) → Q (.ref D) H') : tLc (iTup K tl) g tt te vs σ H Q := by
  refine htl _ ⟨a, rfl, ⟨xs, ha⟩, fun D hD => ?_⟩
  refine lc_tup (K := K) (a := a) (xs := xs) (Acc H1 f xs D) (acc_start hD) (fun i H _ p => sq_same p.1 ha) (fun i x H h p => acc_turn hD hx h p (hs x (List.mem_of_getElem? h) H p.1)) fun H p => ?_
  have e := p.2
  rw [List.take_length] at e
  exact hd D H hD p.1 e
theorem lc_mapTn {xs : List V} {g : TG} {tt : TT} {te : TE} {vs : List Nat} {H : Hp} {tl : TE} {Q : VK} (f : V → Option V) (htl : ∀ R : VK, (∀ a, H a = none → R (.ref a) (upd H a (.tup xs))) → tl σ H R) (hx : xs.length ≤ 1000)
    (hs : ∀ x ∈ xs, ∀ H', Same H H' → Turn1 g tt te vs σ H' x (f x))
    (hd : ∀ D H', H D = none → Same H H' → H' D = some (.lst (xs.filterMap f)) → Q (.ref D) H') : tLc (iTup K tl) g tt te vs σ H Q := by
  refine htl _ fun a ha => ⟨a, rfl, ⟨xs, SqT.of upd_same⟩, fun D hD => ?_⟩
  have s1 : Same H (upd H a (.tup xs)) := same_new ha
  refine lc_tup (K := K) (a := a) (xs := xs) (Acc (upd H a (.tup xs)) f xs D) (acc_start hD) (fun i H _ p => sq_same p.1 (SqT.of upd_same)) (fun i x H h p => acc_turn hD hx h p (hs x (List.mem_of_getElem? h) H (s1.trans p.1))) fun H p => ?_
  have e := p.2
  rw [List.take_length] at e
  exact hd D H (s1.free hD) (s1.trans p.1) e
theorem lc_mapLn {xs : List V} {g : TG} {tt : TT} {te : TE} {vs : List Nat} {H : Hp} {tl : TE} {Q : VK} (f : V → Option V) (htl : ∀ R : VK, (∀ a, H a = none → R (.ref a) (upd H a (.lst xs))) → tl σ H R) (hx : xs.length ≤ 1000)
    (hs : ∀ x ∈ xs, ∀ H', Same H H' → Turn1 g tt te vs σ H' x (f x))
    (hd : ∀ D H', H D = none → Same H H' → H' D = some (.lst (xs.filterMap f)) → Q (.ref D) H') : tLc (iList K tl) g tt te vs σ H Q := by
  refine htl _ fun a ha => ⟨a, rfl, ⟨xs, SqL.of upd_same⟩, fun D hD => ?_⟩
  have s1 : Same H (upd H a (.lst xs)) := same_new ha
  refine lc_list (K := K) (a := a) (xs := xs) (Acc (upd H a (.lst xs)) f xs D) (acc_start hD) (fun i H _ p => p.1.seq (SqL.of upd_same)) (fun i x H h p => acc_turn hD hx h p (hs x (List.mem_of_getElem? h) H (s1.trans p.1))) fun H p => ?_
  have e := p.2
  rw [List.take_length] at e
  exact hd D H (s1.free hD) (s1.trans p.1) e
/-- the ints below n -/
def upto (n : Int) : List V := (List.range n.toNat).map fun i => V.int (i : Nat)
theorem upto_get {n : Int} {i : Nat} (h : (i : Int) < n) : (upto n)[i]? = some (.int i) := by
  unfold upto
  rw [List.getElem?_map, List.getElem?_range (by omega)]
  rfl
theorem upto_len (n : Int) : (upto n).length = n.toNat := by
  unfold upto
  rw [List.length_map, List.length_range]
theorem lc_mapR {n : Int} {g : TG} {tt : TT} {te : TE} {vs : List Nat} {H H1 : Hp} {ta : TA} {Q : VK} (f : V → Option V) (hta : ∀ R : List V → Hp → Prop, R [.int n] H1 → ta σ H R) (hn : n ≤ 1000 ∧ 0 ≤ n)
    (hs : ∀ i : Nat, (i : Int) < n → ∀ H, Same H1 H → Turn1 g tt te vs σ H (.int i) (f (.int i)))
    (hd : ∀ D H', H1 D = none → Same H1 H' → H' D = some (.lst ((upto n).filterMap f)) → Q (.ref D) H') : tLc (iRng1 ta) g tt te vs σ H Q := by
  refine hta _ ⟨n, rfl, by omega, by omega, fun D hD => ?_⟩
  refine lc_range (lo := 0) (n := n.toNat) (Acc H1 f (upto n) D) (acc_start hD) (fun i H hi p => ?_) fun H p => ?_
  · have e : (0 : Int) + (i : Int) = (i : Int) := by omega
    rw [e]
    exact acc_turn hD (by rw [upto_len]; omega) (upto_get (by omega)) p (hs i (by omega) H p.1)
  · have e := p.2
    rw [show n.toNat = (upto n).length from (upto_len n).symm, List.take_length] at e
    exact hd D H hD p.1 e
end
/-! ### a source of draws: three numbers in a list at p, and nothing else is changed -/
def Spring (H : Hp) (p : Addr) : Prop := ∃ a b c : Int, H p = some (.lst [.int a, .int b, .int c])
structure Kp (p : Addr) (H H' : Hp) : Prop where
  sp : Spring H' p
  keep : ∀ b o, b ≠ p → H b = some o → H' b = some o
theorem Kp.refl {p : Addr} {H : Hp} (h : Spring H p) : Kp p H H := ⟨h, fun _ _ _ e => e⟩
theorem Kp.trans {p : Addr} {H H1 H2 : Hp} (a : Kp p H H1) (b : Kp p H1 H2) : Kp p H H2 := ⟨b.sp, fun c o n e => b.keep c o n (a.keep c o n e)⟩
theorem Spring.ne {H : Hp} {p q : Addr} (h : Spring H p) (n : H q = none) : q ≠ p := by
  rintro rfl
  obtain ⟨_, _, _, e⟩ := h
  rw [e] at n
  cases n
theorem ne_of_spring {H : Hp} {p q : Addr} (h : Spring H p) (n : H q = none) : p ≠ q := Ne.symm (h.ne n)
theorem Spring.same {H H' : Hp} {p : Addr} (h : Spring H p) (s : Same H H') : Spring H' p := by
  obtain ⟨a, b, c, e⟩ := h
  exact ⟨a, b, c, s _ _ e⟩
theorem Spring.new {H : Hp} {p q : Addr} {o : HO} (h : Spring H p) (n : H q = none) : Spring (upd H q o) p := h.same (same_new n)
theorem Kp.same {p : Addr} {H H1 H2 : Hp} (a : Kp p H H1) (s : Same H1 H2) : Kp p H H2 := ⟨a.sp.same s, fun c o n e => s c o (a.keep c o n e)⟩
theorem Kp.new {p q : Addr} {H H1 : Hp} {o : HO} (a : Kp p H H1) (n : H1 q = none) : Kp p H (upd H1 q o) := a.same (same_new n)
theorem Kp.free {p q : Addr} {H H1 : Hp} (a : Kp p H H1) (hp : q ≠ p) (n : H1 q = none) : H q = none := by
  cases e : H q with
  | none => rfl
  | some o =>
    rw [a.keep q o hp e] at n
    cases n
/-- what H does not know may change -/
theorem Kp.mut {p q : Addr} {H H1 : Hp} {o : HO} (a : Kp p H H1) (hp : q ≠ p) (n : H q = none) : Kp p H (upd H1 q o) := by
  obtain ⟨x, y, z, e⟩ := a.sp
  refine ⟨⟨x, y, z, ?_⟩, fun b u nb e' => ?_⟩
  · rw [upd_ne (Ne.symm hp)]
    exact e
  · rw [upd_ne (ne_of_none e' n)]
    exact a.keep b u nb e'
theorem Kp.seq {K : PySem.W.Frag} {p q : Addr} {H H1 : Hp} {xs : List V} (a : Kp p H H1) (hp : q ≠ p) (h : SqL K H q xs) : SqL K H1 q xs := by
  rcases h with (h | ⟨o, h⟩) | h
  · exact .inl (.inl (a.keep _ _ hp h))
  · exact .inl (.inr ⟨o, a.keep _ _ hp h⟩)
  · exact .inr h
/-! ### in a list of ints -/
theorem inV_ints (y : Int) : ∀ ns : List Int, inV (.int y) (ns.map V.int) = decide (y ∈ ns)
  | [] => rfl
  | n :: r => by
    have ih := inV_ints y r
    unfold inV at ih ⊢
    rw [List.map_cons, List.any_cons, ih]
    show (n == y || decide (y ∈ r)) = decide (y ∈ n :: r)
    rw [Bool.eq_iff_iff]
    simp only [Bool.or_eq_true, beq_iff_eq, decide_eq_true_eq, List.mem_cons]
    constructor
    · rintro (h | h)
      · exact .inl h.symm
      · exact .inr h
    · rintro (h | h)
      · exact .inl h.symm
      · exact .inr h
theorem flat_ints : ∀ ns : List Int, (ns.map V.int).all flatV = true
  | [] => rfl
  | n :: r => by
    rw [List.map_cons, List.all_cons, flat_ints r]
    rfl
/-! ### data compared -/
theorem dpAll_ints {K : PySem.W.Frag} {H : Hp} : ∀ ns : List Int, DpAll K H (ns.map V.int) (ns.map PyData.int)
  | [] => .nil
  | n :: r => .cons (.int n) (dpAll_ints r)
theorem can_ints : ∀ ns : List Int, PyData.canLayAll0 (ns.map PyData.int) = true
  | [] => rfl
  | n :: r => by
    rw [List.map_cons]
    show (PyData.canLay0 (.int n) && PyData.canLayAll0 (r.map PyData.int)) = true
    rw [can_ints r]
    rfl
theorem depth_ints : ∀ ns : List Int, PyData.depthAll (ns.map PyData.int) ≤ 1
  | [] => by simp [PyData.depthAll]
  | n :: r => by
    have ih := depth_ints r
    rw [List.map_cons]
    simp only [PyData.depthAll, PyData.depth]
    omega
theorem shaped_tup (ns : List Int) : SeqAt.shaped (.tuple (ns.map PyData.int)) = true := by
  unfold SeqAt.shaped
  rw [Bool.and_eq_true]
  refine ⟨can_ints ns, decide_eq_true ?_⟩
  have h := depth_ints ns
  simp only [PyData.depth]
  omega
theorem shaped_lst (ns : List Int) : SeqAt.shaped (.list (ns.map PyData.int)) = true := by
  unfold SeqAt.shaped
  rw [Bool.and_eq_true]
  refine ⟨can_ints ns, decide_eq_true ?_⟩
  have h := depth_ints ns
  simp only [PyData.depth]
  omega
/-- two tuples, two lists of the same ints -/
theorem ne_tups {K : PySem.W.Frag} {H : Hp} {a b : Addr} {ns : List Int} {Q : VK} (ha : H a = some (.tup (ns.map V.int))) (hb : H b = some (.tup (ns.map V.int))) (q : Q (.bl false) H) : rNeD K (.ref a) (.ref b) H Q := by
  refine ⟨.tuple (ns.map PyData.int), .tuple (ns.map PyData.int), .tup (SqT.of ha) (dpAll_ints ns), .tup (SqT.of hb) (dpAll_ints ns), shaped_tup ns, shaped_tup ns, ?_⟩
  rw [SeqAt.eqv_refl _ (SeqAt.canLay_of_shaped (shaped_tup ns))]
  exact q
theorem ne_lsts {K : PySem.W.Frag} {H : Hp} {a b : Addr} {ns : List Int} {Q : VK} (ha : H a = some (.lst (ns.map V.int))) (hb : H b = some (.lst (ns.map V.int))) (q : Q (.bl false) H) : rNeD K (.ref a) (.ref b) H Q := by
  refine ⟨.list (ns.map PyData.int), .list (ns.map PyData.int), .lst (SqL.of ha) (dpAll_ints ns), .lst (SqL.of hb) (dpAll_ints ns), shaped_lst ns, shaped_lst ns, ?_⟩
  rw [SeqAt.eqv_refl _ (SeqAt.canLay_of_shaped (shaped_lst ns))]
  exact q
end Z

/-! Calls by keywords alone; defs that ask that no list is being written out around them (repr). -/
namespace Z
open PySem PySem.Spec PyProof.Rows L2
/-! ### keywords alone, in any order -/
/-- how keywords alone come to the parameters: π tells for each parameter the place of its keyword -/
def BdK (x : Str) (st : Stmt) (ps ks : List Str) (π : List Nat) : Prop := ∀ (qual : Str) (kV doc pm : Value) (an : Option Addr) (cdv ct : Value) (ws : List Value), ws.length = ks.length →
  bindArgs (PySem.W.fnOf x qual (defArgs st) (defBody st) (defScope st) .none kV doc pm an cdv ct) ⟨[], ks.zip ws⟩ = pure (ps.zip (π.map fun i => ws.getD i .none))
theorem vals_getD : ∀ {zs : List V} {ws : List Value}, Vals zs ws → ∀ i : Nat, RelV (zs.getD i .non) (ws.getD i .none)
  | _, _, .nil, _ => rfl
  | _, _, .cons r _, 0 => r
  | _, _, .cons _ t, i + 1 => vals_getD t i
theorem vals_perm {zs : List V} {ws : List Value} (r : Vals zs ws) : ∀ π : List Nat, Vals (π.map fun i => zs.getD i .non) (π.map fun i => ws.getD i .none)
  | [] => .nil
  | i :: π => .cons (vals_getD r i) (vals_perm r π)
def tCallK0 (n : Nat) (sp : Sp) (π : List Nat) (E : XK) (tk : TA) : TE := fun σ H Q => tk σ H fun zs H1 => zs.length = n ∧ sp (π.map fun i => zs.getD i .non) H1 Q E
/-! ### defs under no guard -/
structure FnG (P : Program) (w : World) (K : PySem.W.Frag) (mg : Str → Option Value) (base : Heap) (CX : CXT) (k : Nat) (f : Addr) (fd : FuncData) (ps : List Str) (sp : Sp) : Prop where
  few : ∀ vs H Q E, sp vs H Q E → vs.length = ps.length
  goes : ∀ (A : Around) (outer : List Env) (s : Shared) (H : Hp) (args : Args) (us : List Value) (vs : List V) (Q : VK) (E : XK), Room k A → A.guards = some [] → Env0 P w K mg base A outer s H → BindsTo s fd args (ps.zip us) → Vals vs us →
    sp vs H Q E → codeAny (model P w) A (.call (.ref f) args) (CR CX outer P w H s Q E) s
theorem FnG.of {P : Program} {w : World} {K : PySem.W.Frag} {mg : Str → Option Value} {base : Heap} {CX : CXT} {k : Nat} {f : Addr} {fd : FuncData} {ps : List Str} {sp : Sp} (F : FnOk P w K mg base CX k f fd ps sp) : FnG P w K mg base CX k f fd ps sp :=
  ⟨F.len, fun A outer s H args us vs Q E hr _ => F.run A outer s H args us vs Q E hr⟩
section
variable {P : Program} {w : World} {K : PySem.W.Frag} {mg : Str → Option Value} {base : Heap}
/-- a def by its body, under no guard -/
theorem fun_okG {x qual : Str} {st : Stmt} {f : Addr} {fd : FuncData} {N ps : List Str} {k : Nat} {sp : Sp} (F : Fun K x qual st f fd) (S : FnScope N ps (defScope st)) (few : ∀ vs H Q E, sp vs H Q E → vs.length = ps.length)
    (body : ∀ (cdv : Value) (A : Around) (outer : List Env) (s : Shared) (H : Hp) (vs : List V) (Q : VK) (E : XK), Room k (A.deeper (envOfC qual (defScope st) s.heap.objs.size f cdv)) → A.guards = some [] → sp vs H Q E →
      ∃ t, PSs (cxOf CX0 P w K mg base N qual (defScope st) f cdv A outer s H E).nox (defBody st) t ∧ t { nx := fun _ H' => Q .non H', rt := Q } (start N vs) H) : FnG P w K mg base CX0 (k + 1) f fd ps sp := by
  obtain ⟨oc, od, kV, doc, pm, an, cdv, ct, osl, rfl, lk, hcd⟩ := F.ex
  refine ⟨few, fun A outer s H args us vs Q E room gd here binds rel told => ?_⟩
  have inK : K.In s.heap := here.mod.kin.keeps fun b o e => (here.bs b o e).1
  have noLim : s.heap.NoLimit := here.mod.nolimit.keeps fun b o e => (here.bs b o e).1
  have kinds : ∀ y ∈ ps.zip us, (defScope st).names.lookup y.1 = some .local ∨ ((defScope st).names.lookup y.1 = some .cell ∧ ((cellsFrom (s.heap.objs.size + 1) (defScope st).names []).lookup y.1).isSome = true) := fun ⟨n, v⟩ hy =>
    (S.par n (List.of_mem_zip hy).1).elim .inl fun c => .inr ⟨c, PySem.W.cellsFrom_some _ _ _ (.inl c)⟩
  refine codeAny_call_function room.depth (inK _ _ lk) rfl S.co S.gen rfl (PySem.W.codeRec_of inK hcd) (binds _ _ _ _ (wpAny_newFunctionEnv_cells S.kind kinds fun env he s1 made => ?_))
  cases he
  refine ⟨noLim.keeps made.toInCall.keep, codeAny_func ?_⟩
  obtain ⟨t, ht, hq⟩ := body cdv A outer s H vs Q E (room.deeper _) gd told
  have I0 : Inv (cxOf CX0 P w K mg base N qual (defScope st) f cdv A outer s H E) [] (start N vs) H s1 := inv_start S room.hd here (few _ _ _ _ told) rel made
  refine wpAny_mono (ht.nox.run [] s1 (start N vs) H _ I0 hq) (fun fl s' hs => ?_) fun e s' hs => hs
  cases fl with
  | ret u => exact let ⟨v, _, H', J, rv, q⟩ := hs; ⟨v, H', J.os, J.bare, J.base, J.hok, rv, q⟩
  | next => exact let ⟨_, H', J, q⟩ := hs; ⟨V.non, H', J.os, J.bare, J.base, J.hok, rfl, q⟩
  | brk => exact let ⟨_, _, _, q⟩ := hs; q.elim
  | cont => exact let ⟨_, _, _, q⟩ := hs; q.elim
end
structure HdG (P : Program) (w : World) (K : PySem.W.Frag) (mg : Str → Option Value) (base : Heap) (CX : CXT) (k : Nat) (x : Str) (st : Stmt) (ps : List Str) (sp : Sp) : Prop where
  ex : ∃ f fd, Fun K x x st f fd ∧ mg x = some (.ref f) ∧ FnG P w K mg base CX k f fd ps sp
  bd : Bd x st ps
theorem HdG.of {P : Program} {w : World} {K : PySem.W.Frag} {mg : Str → Option Value} {base : Heap} {CX : CXT} {k : Nat} {x : Str} {st : Stmt} {ps : List Str} {sp : Sp} (h : Hd P w K mg base CX k x st ps sp) : HdG P w K mg base CX k x st ps sp := by
  obtain ⟨f, fd, F, hm, G⟩ := h.ex
  exact ⟨⟨f, fd, F, hm, .of G⟩, h.bd⟩
section
variable {X : Cx} {CX : CXT} {k : Nat} {st : Stmt} {ps ks : List Str} {sp : Sp} {E : XK} {x : Str} {p pos : Pos} {e : Expr} {es : List Expr} {kws : List Keyword} {t tk : TA} {π : List Nat}
theorem run_G {pins : List (Addr × Obj)} {σ : L2.St} {H : Hp} {s : Shared} {Q : VK} {args : Args} {us : List Value} {vs : List V} {f : Addr} {fd : FuncData} (F : FnG X.prog X.w X.K X.mg X.base CX k f fd ps sp) (hr : Room k X.A) (gd : X.A.guards = some []) (hx : Passes CX X E)
    (I : Inv X pins σ H s) (hb : BindsTo s fd args (ps.zip us)) (r : Vals vs us) (h : sp vs H Q E) : codeAny (model X.prog X.w) X.A (.call (.ref f) args) (fun q s' => match q with | .ok (.ret u) => EP X pins σ Q u s' | .ok _ => False | .error e => X.xe e s') s := by
  refine codeAny_mono (F.goes X.A X.stack s H args us vs Q E hr gd I.env0 hb r h) fun q s' told => ?_
  match q, told with
  | .error e, told => exact hx pins σ H s e s' I told
  | .ok (.ret u), told => exact I.after told
  | .ok .next, told => exact told
  | .ok .brk, told => exact told
  | .ok .cont, told => exact told
theorem run_Gc {pins : List (Addr × Obj)} {σ : L2.St} {H : Hp} {s : Shared} {Q : VK} {us0 : List Value} {kw : List (Str × Value)} {us : List Value} {vs : List V} {f : Addr} {fd : FuncData} (F : FnG X.prog X.w X.K X.mg X.base CX k f fd ps sp) (hr : Room k X.A) (gd : X.A.guards = some []) (hx : Passes CX X E)
    (I : Inv X pins σ H s) (hb : BindsTo s fd ⟨us0, kw⟩ (ps.zip us)) (r : Vals vs us) (h : sp vs H Q E) : wpAny (model X.prog X.w) X.A (call (.ref f) us0 kw) (EP X pins σ Q) X.xe s := by
  refine wpAny_call (codeAny_mono (run_G F hr gd hx I hb r h) fun q s' told => ?_)
  match q, told with
  | .error e, told => exact told
  | .ok (.ret u), told => exact told
  | .ok .next, told => exact told.elim
  | .ok .brk, told => exact told.elim
  | .ok .cont, told => exact told.elim
theorem pe_hdG (h : HdG X.prog X.w X.K X.mg X.base CX k x st ps sp) (hr : Room k X.A) (gd : X.A.guards = some []) (hg : Gl X x) (hx : Passes CX X E) (ha : PA X (e :: es) t) (hdb : (x == ("__debug__" : Str)) = false := by decide)
    (hs : starEach (e :: es) X.env = (false, eval e X.env) :: starEach es X.env := by rfl) (hpl : (backTo pos (starEach es X.env)).any (·.1) = false := by rfl) : PE X (.Call (.Name x p) (e :: es) [] pos) (tCall sp [] E t) := by
  obtain ⟨f, fd, F, hm, G⟩ := h.ex
  refine ⟨fun pins s σ H Q I told => wpAny_Call_Name_kw (ld_glob I hg hm (PySem.W.callWith_K (h₀ := X.base) I.ok.mod.kin F.kp (thn (ha.run pos pins s σ H _ I told) fun us s1 got => ?_) hs hpl) hdb)⟩
  obtain ⟨vs, H1, I1, r, q⟩ := got
  rw [List.append_nil] at q
  refine ⟨I1.kIn, run_Gc G hr gd hx I1 ?_ r q⟩
  have hl : us.length = ps.length := by rw [← r.length]; exact G.few _ _ _ _ q
  have b := (F.binds (h.bd x)) s1 us I1.kIn (by rw [List.append_nil]; exact hl)
  rw [List.append_nil] at b
  exact b
theorem pe_hdk (h : HdG X.prog X.w X.K X.mg X.base CX k x st ps sp) (hr : Room k X.A) (gd : X.A.guards = some [] ∨ Hd X.prog X.w X.K X.mg X.base CX k x st ps sp) (hg : Gl X x) (hx : Passes CX X E) (hbk : BdK x st ps ks π) (hkw : PK X kws tk)
    (hall : (backToKw pos (keywordEach kws X.env)).all (·.1.isSome) = true := by rfl) (hks : (backToKw pos (keywordEach kws X.env)).filterMap (·.1) = ks := by rfl)
    (hdb : (x == ("__debug__" : Str)) = false := by decide) (hpl : ((backTo pos (starEach [] X.env)).any (·.1) || (backToKw pos (keywordEach kws X.env)).any (·.1.isNone)) = false := by rfl) :
    PE X (.Call (.Name x p) [] kws pos) (tCallK0 ks.length sp π E tk) := by
  have fin : ∀ {pins : List (Addr × Obj)} {σ : L2.St} {H : Hp} {s : Shared} {Q : VK} {ws : List Value} {zs : List V}, Inv X pins σ H s → Vals zs ws → zs.length = ks.length → sp (π.map fun i => zs.getD i .non) H Q E →
      ∃ f, X.mg x = some (.ref f) ∧ PySem.W.keepIn X.K (.ref f) = true ∧ wpAny (model X.prog X.w) X.A (call (.ref f) [] (ks.zip ws)) (EP X pins σ Q) X.xe s := by
    intro pins σ H s Q ws zs I r hl q
    have bind : ∀ {f : Addr} {fd : FuncData}, Fun X.K x x st f fd → BindsTo s fd ⟨[], ks.zip ws⟩ (ps.zip (π.map fun i => ws.getD i .none)) := by
      intro f fd F
      obtain ⟨oc, od, kV, doc, pm, an, cdv, ct, osl, rfl, lk, hcd⟩ := F.ex
      exact .of_eq (hbk x kV doc pm an cdv ct ws (by rw [← r.length]; exact hl))
    rcases gd with gd | h2
    · obtain ⟨f, fd, F, hm, G⟩ := h.ex
      exact ⟨f, hm, F.kp, run_Gc G hr gd hx I (bind F) (vals_perm r π) q⟩
    · obtain ⟨f, fd, F, hm, G⟩ := h2.ex
      refine ⟨f, hm, F.kp, wpAny_call (codeAny_mono (G.run X.A X.stack s H _ _ _ Q E hr I.env0 (bind F) (vals_perm r π) q) fun q s' told => ?_)⟩
      match q, told with
      | .error e, told => exact hx pins σ H s e s' I told
      | .ok (.ret u), told => exact I.after told
      | .ok .next, told => exact told.elim
      | .ok .brk, told => exact told.elim
      | .ok .cont, told => exact told.elim
  obtain ⟨f0, fd0, F0, hm0, G0⟩ := h.ex
  refine ⟨fun pins s σ H Q I told => wpAny_Call_Name_kw (ld_glob I hg hm0 (PySem.W.callWith_KW0 (h₀ := X.base) I.ok.mod.kin F0.kp hall (thn (hkw.run pos pins s σ H _ I told) fun ws s1 got => ?_) hpl) hdb)⟩
  obtain ⟨zs, H1, I1, r, hl, q⟩ := got
  refine ⟨I1.kIn, ?_⟩
  rw [hks]
  obtain ⟨f, hm, kp, done⟩ := fin I1 r hl q
  rw [hm0] at hm
  cases hm
  exact done
end
/-! ### the law's own call -/
section
variable {P : Program} {w : World} {K : PySem.W.Frag} {mg mb : Str → Option Value} {k : Nat} {fa a : Addr} {fd : FuncData} {x : Str} {sp : Sp} {s1 : Shared} {vs : List Value} {ns : List Int}
/-- from one abstract heap in which the script alone may be tracked -/
theorem start_call (inK : K.In s1.heap) (nsG : s1.heap.Ns mainGlobals mg) (nsB : s1.heap.Ns builtinsNs mb) (boot : ∀ x : Str, x ≠ "__name__" → mb x = bootBuiltins x) (noLim : s1.heap.NoLimit) (noGen : s1.gens = #[])
    (here : s1.heap.get? a = some { cls := .type "list", data := .seq vs.toArray }) (room : Room k callerA) (F : ∀ base : Heap, K.In base → base.Ns mainGlobals mg → FnG P w K mg base CX0 k fa fd [x] sp)
    (bind : ∀ (s : Shared) (u : Value), BindsTo s fd ⟨[u], []⟩ [(x, u)]) (H : Hp) (only : Only H) (told : sp [.ref a] H (fun v _ => v = .bl true) fun _ _ _ => False) (ok : HOk P w H s1.heap) (one : ∀ b, H b ≠ none → b = a) (out : H a ≠ none → K.lookup a = none) :
    codeAny (model P w) callerA (.call (.ref fa) ⟨[.ref a], []⟩) (fun r s' => r = .ok (.ret (.bool true)) ∧ OldK s1.heap s'.heap ∧ s'.os = s1.os ∧ AllBare s'.gens) s1 := by
  have free : ∀ {b : Addr} {o : Obj} {es : Array DictEntry} {ep : Nat}, s1.heap.get? b = some o → o.data = .dict es ep → H b = none := by
    intro b o es ep e d
    cases q : H b with
    | none => rfl
    | some u =>
      obtain rfl := one b (by rw [q]; exact fun z => nomatch z)
      rw [here] at e
      cases e
      exact nomatch d
  have nsK : ∀ {b : Addr} {m : Str → Option Value}, s1.heap.Ns b m → (hidT s1.heap H).Ns b m := by
    rintro b m ⟨o, es, ep, e, d, r⟩
    exact ⟨o, es, ep, hidT_get e (free e d), d, r⟩
  have inH : K.In (hidT s1.heap H) := by
    intro b o e
    refine hidT_get (inK b o e) ?_
    cases q : H b with
    | none => rfl
    | some u =>
      have hb : H b ≠ none := by rw [q]; exact fun z => nomatch z
      obtain rfl := one b hb
      rw [out hb] at e
      cases e
  have md : Mod K mg (hidT s1.heap H) := ⟨inH, nsK nsG, ⟨mb, nsK nsB, boot⟩, noLim.elim fun mc h => ⟨mc, nsK h.1, h.2⟩⟩
  have nil : ∀ {b : Addr}, b ∉ frs [] := fun {b} z => List.not_mem_nil z
  have e0 : Env0 P w K mg (hidT s1.heap H) callerA [] s1 H := { frames := rfl, mod := md, bs := fun b o e => of_hidT e, bsz := Nat.le_of_eq (hidT_size _ _), funs := trivial, frf := fun b hb => absurd hb nil, hok := ok, bare := .of_eq noGen }
  refine codeAny_mono ((F _ inH (nsK nsG)).goes callerA [] s1 H ⟨[.ref a], []⟩ [.ref a] [.ref a] _ _ room rfl e0 (bind s1 (.ref a)) (.cons rfl .nil) told) fun r s' h => ?_
  match r, h with
  | .error e, h => exact h.elim
  | .ok .next, h => exact h.elim
  | .ok .brk, h => exact h.elim
  | .ok .cont, h => exact h.elim
  | .ok (.ret u), ⟨v, H', os, bare, un, ok', ru, (hv : v = .bl true)⟩ =>
    subst hv
    cases (show u = Value.bool true from ru)
    refine ⟨rfl, OldK.of_keep fun b o e => ?_, os, bare⟩
    cases q : H b with
    | none => exact un.keep b o e q nil List.not_mem_nil
    | some u =>
      rcases only b with z | ⟨ob, xs, z⟩
      · rw [q] at z
        cases z
      · have z1 := (ok b _ z).1
        have z2 := (ok' b _ (un.frzs b ob _ z)).1
        rw [e] at z1
        cases z1
        exact z2
theorem law_callG (inK : K.In s1.heap) (nsG : s1.heap.Ns mainGlobals mg) (nsB : s1.heap.Ns builtinsNs mb) (boot : ∀ x : Str, x ≠ "__name__" → mb x = bootBuiltins x) (noLim : s1.heap.NoLimit) (noGen : s1.gens = #[])
    (here : s1.heap.get? a = some { cls := .type "list", data := .seq vs.toArray }) (hints : IntsAre vs ns) (few : ns.length ≤ sizeLine) (room : Room k callerA) (F : ∀ base : Heap, K.In base → base.Ns mainGlobals mg → FnG P w K mg base CX0 k fa fd [x] sp)
    (bind : ∀ (s : Shared) (u : Value), BindsTo s fd ⟨[u], []⟩ [(x, u)]) (told : ∀ H : Hp, Only H → SqL K H a (ns.map V.int) → sp [.ref a] H (fun v _ => v = .bl true) fun _ _ _ => False) :
    codeAny (model P w) callerA (.call (.ref fa) ⟨[.ref a], []⟩) (fun r s' => r = .ok (.ret (.bool true)) ∧ OldK s1.heap s'.heap ∧ s'.os = s1.os ∧ AllBare s'.gens) s1 := by
  have rel := vals_ints hints
  cases kept : K.lookup a with
  | some o =>
    have e := inK a o kept
    rw [here] at e
    cases e
    have only : Only (fun _ => none) := fun _ => .inl rfl
    exact start_call inK nsG nsB boot noLim noGen here room F bind _ only (told _ only (.inr ⟨_, vs.toArray, _, kept, rfl, rfl, rfl, by rw [List.size_toArray, hints.length]; exact few, rel⟩)) (fun b u z => nomatch z) (fun b z => absurd rfl z) fun z => absurd rfl z
  | none =>
    let H : Hp := fun b => if b = a then some (.frz { cls := .type "list", data := .seq vs.toArray } (.lst (ns.map V.int))) else none
    have at_a : H a = some (.frz { cls := .type "list", data := .seq vs.toArray } (.lst (ns.map V.int))) := if_pos rfl
    have off : ∀ b, b ≠ a → H b = none := fun b hb => if_neg hb
    have only : Only H := fun b => if hb : b = a then .inr ⟨_, _, hb ▸ at_a⟩ else .inl (off b hb)
    refine start_call inK nsG nsB boot noLim noGen here room F bind H only (told H only (.inl (.inr ⟨_, at_a⟩))) (fun b u z => ?_) (fun b z => ?_) fun _ => kept
    · by_cases hb : b = a
      · subst hb
        rw [at_a] at z
        cases z
        exact ⟨here, by rw [List.length_map]; exact few, vs, _, rel, here⟩
      · rw [off b hb] at z
        cases z
    · exact Classical.byContradiction fun hb => z (off b hb)
end
theorem walk_G {l : PySem.W.OpenLaw} {n k : Nat} {q : Program} {loose : List Str} {XP : (Str → Option Value) → Heap → Prop} {YP : World → Heap → Prop} {d : DefRec} {K : Params → PySem.W.Frag} {sp : PySem.W.Frag → Sp} {x : Str}
    (hn : l.most = some n) (hn2 : n ≤ sizeLine) (hdf : d.params.defaults = []) (room : Room k callerA) (hY : ∀ (w : World) (h : Heap), YP w h → (K w.params).In h)
    (F : ∀ (w : World) (mg : Str → Option Value) (fa : Addr) (h : Heap), (K w.params).In h → h.Ns mainGlobals mg → mg d.name = some (.ref fa) →
      ∃ fd : FuncData, (∀ (s : Shared) (u : Value), BindsTo s fd ⟨[u], []⟩ [(x, u)]) ∧ ∀ base : Heap, (K w.params).In base → base.Ns mainGlobals mg → FnG l.prog w (K w.params) mg base CX0 k fa fd [x] (sp (K w.params)))
    (told : ∀ (K : PySem.W.Frag) (H : Hp) (a : Addr) (ns : List Int), ns.length ≤ n → Only H → SqL K H a (ns.map V.int) → sp K [.ref a] H (fun v _ => v = .bl true) fun _ _ _ => False) :
    PySem.W.WalkO q loose XP YP l.row.toRowW d [] (fun f vs => PySem.call f vs) := by
  refine Att.attach_call hn hdf fun w s0 s1 mg mb fa o pm cd doc a vs ns G Y ho hd hcd hmg hobj hints hlen hg => ?_
  have inK := hY w _ Y
  obtain ⟨fd, hb, hF⟩ := F w mg fa _ inK G.T.g hmg
  exact law_callG inK G.T.g G.T.b G.T.builtins G.T.nolimit hg hobj hints (Nat.le_trans hlen hn2) room hF hb fun H hO hS => told _ H a ns hlen hO hS
/-! ### repr: of small data -/
theorem listText_le : ∀ ts : List Str, (listText ts).length ≤ piled ts + 2
  | [] => by decide
  | t :: r => by
    have h := textFrom_length_pos r 1 (("[" : Str) ++ (if (0 : Nat) > 0 then ", " else "" : String) ++ t) Nat.one_pos
    have e : (("[" : Str) ++ (if (0 : Nat) > 0 then ", " else "" : String) ++ t).length = 1 + t.length := by
      rw [strLen_append, strLen_append]
      rfl
    have x : (listText (t :: r)).length = (textFrom 1 (("[" : Str) ++ (if (0 : Nat) > 0 then ", " else "" : String) ++ t) r).length + 1 := by
      unfold listText
      rw [strLen_append]
      rfl
    rw [x, h, e, piled_cons]
    omega
theorem tupleText_le (ts : List Str) : (tupleText ts).length ≤ piled ts + 3 := by
  have e2 : ((if ts.length == 1 then ",)" else ")" : String) : Str).length ≤ 2 := by split <;> decide
  unfold tupleText
  rw [strLen_append, strLen_append]
  cases ts with
  | nil => decide
  | cons t r =>
    have h := join_length_add (t :: r) (List.cons_ne_nil _ _)
    have e1 : ("(" : Str).length = 1 := by decide
    omega
mutual
/-- small enough to be written out -/
def Shw : PyData → Prop
  | .none => True
  | .bool _ => True
  | .int i => i.natAbs.log2 < 1000
  | .str x => (∀ c ∈ x.cps.toList, c < 16 ^ 8) ∧ x.length ≤ 10000
  | .list xs => ShwAll xs
  | .tuple xs => ShwAll xs
  | .dict _ => False
def ShwAll : List PyData → Prop
  | [] => True
  | x :: xs => Shw x ∧ ShwAll xs
end
mutual
/-- how many signs at most -/
def wd : PyData → Nat
  | .none => 4
  | .bool _ => 5
  | .int _ => 1001
  | .str x => 10 * x.length + 2
  | .list xs => wdAll xs + 2
  | .tuple xs => wdAll xs + 3
  | .dict _ => 0
def wdAll : List PyData → Nat
  | [] => 0
  | x :: xs => wd x + 2 + wdAll xs
end
mutual
theorem shown_le : ∀ d : PyData, Shw d → d.shown.length ≤ wd d ∧ d.showable = true ∧ d.hasDict = false
  | .none, _ => ⟨by decide, rfl, rfl⟩
  | .bool b, _ => ⟨by cases b <;> decide, rfl, rfl⟩
  | .int i, h => by
    have h : i.natAbs.log2 < 1000 := by simpa only [Shw] using h
    refine ⟨?_, ?_, rfl⟩
    · have h2 := int_text_length_le (k := 1000) (by decide) h
      simp only [PyData.shown, wd]
      have e : (Str.ofString (toString i)).length = (toString i).length := PySem.ofString_length _
      omega
    · simp only [PyData.showable, decide_eq_true_eq]
      omega
  | .str x, h => by
    have h : (∀ c ∈ x.cps.toList, c < 16 ^ 8) ∧ x.length ≤ 10000 := by simpa only [Shw] using h
    refine ⟨?_, rfl, rfl⟩
    simp only [PyData.shown, wd]
    exact StrLaws.reprText_len x h.1
  | .list xs, h => by
    obtain ⟨h1, h2, h3⟩ := shownAll_le xs (by simpa only [Shw] using h)
    refine ⟨?_, by simpa only [PyData.showable] using h2, by simpa only [PyData.hasDict] using h3⟩
    have := listText_le (PyData.shownAll xs)
    simp only [PyData.shown, wd]
    omega
  | .tuple xs, h => by
    obtain ⟨h1, h2, h3⟩ := shownAll_le xs (by simpa only [Shw] using h)
    refine ⟨?_, by simpa only [PyData.showable] using h2, by simpa only [PyData.hasDict] using h3⟩
    have := tupleText_le (PyData.shownAll xs)
    simp only [PyData.shown, wd]
    omega
  | .dict _, h => by simp only [Shw] at h
theorem shownAll_le : ∀ xs : List PyData, ShwAll xs → piled (PyData.shownAll xs) ≤ wdAll xs ∧ PyData.showableAll xs = true ∧ PyData.hasDictAll xs = false
  | [], _ => ⟨Nat.le_refl _, rfl, rfl⟩
  | x :: xs, h => by
    have h : Shw x ∧ ShwAll xs := by simpa only [ShwAll] using h
    obtain ⟨a1, a2, a3⟩ := shown_le x h.1
    obtain ⟨b1, b2, b3⟩ := shownAll_le xs h.2
    refine ⟨?_, ?_, ?_⟩
    · simp only [PyData.shownAll, piled_cons, wdAll]
      omega
    · simp only [PyData.showableAll, a2, b2, Bool.and_self]
    · simp only [PyData.hasDictAll, a3, b3, Bool.or_self]
end
theorem shw_int {i : Int} (h0 : 0 ≤ i) (h1 : i < 2 ^ 200) : Shw (.int i) := by
  simp only [Shw]
  have h2 : i.natAbs < 2 ^ 200 := by omega
  exact Nat.lt_trans (PySem.Flt.log2_lt_of (by decide) h2) (by decide)
section
variable {X : Cx}
/-- repr of a list or tuple of data -/
def rRepr (K : PySem.W.Frag) : List V → Hp → VK → Prop := fun vs H Q => ∃ a d, vs = [.ref a] ∧ Dp K H (.ref a) d ∧ Shw d ∧ d.depth ≤ 60 ∧ wd d ≤ 16000000 ∧ Q (.str d.shown) H
theorem call_reprD (hu : X.A.units + 64 < cLine) (gd : X.A.guards = some []) : CallR X (.builtin "repr") (rRepr X.K) := by
  intro pins s σ H vs us Q I r h
  obtain ⟨a, d, rfl, hd, h1, h3, h4, q⟩ := h
  obtain ⟨u, rfl, ru⟩ := vals1 r
  obtain ⟨as, rd⟩ := Dp.reads I d _ u hd ru
  cases ru
  obtain ⟨b1, b2, b3⟩ := shown_le d h1
  exact repr_of_reads' rd b2 (fun z => by rw [b3] at z; cases z) gd (by omega) (fun _ _ e => e) (fun h' u tk hk => ⟨.str d.shown, H, I.kept (t' := tk) hk, ⟨_, rfl⟩, q⟩) (by rw [sizeLine_eq]; omega)
/-- ints that are small -/
def Low (ns : List Int) : Prop := (∀ i ∈ ns, 0 ≤ i ∧ i < 2 ^ 200) ∧ ns.length ≤ 200
theorem shw_ints : ∀ {ns : List Int}, (∀ i ∈ ns, 0 ≤ i ∧ i < 2 ^ 200) → ShwAll (ns.map PyData.int)
  | [], _ => by simp only [List.map_nil, ShwAll]
  | n :: r, h => by
    simp only [List.map_cons, ShwAll]
    have h1 := h n (List.mem_cons_self ..)
    exact ⟨shw_int h1.1 h1.2, shw_ints fun i hi => h i (List.mem_cons_of_mem _ hi)⟩
theorem wd_ints : ∀ ns : List Int, wdAll (ns.map PyData.int) = 1003 * ns.length
  | [] => rfl
  | n :: r => by
    simp only [List.map_cons, wdAll, wd, wd_ints r, List.length_cons]
    omega
theorem repr_lst {K : PySem.W.Frag} {H : Hp} {c : Addr} {ns : List Int} {Q : VK} (hc : H c = some (.lst (ns.map V.int))) (low : Low ns) (q : Q (.str (PyData.list (ns.map PyData.int)).shown) H) : rRepr K [.ref c] H Q := by
  refine ⟨c, .list (ns.map PyData.int), rfl, .lst (SqL.of hc) (dpAll_ints ns), ?_, ?_, ?_, q⟩
  · simp only [Shw]
    exact shw_ints low.1
  · have := depth_ints ns
    simp only [PyData.depth]
    omega
  · simp only [wd, wd_ints]
    have := low.2
    omega
/-- a list of tuples of ints -/
def tupsD (ls : List (List Int)) : List PyData := ls.map fun l => PyData.tuple (l.map PyData.int)
theorem dpAll_tups {K : PySem.W.Frag} {H : Hp} : ∀ {as : List Addr} {ls : List (List Int)}, Paired (fun a l => H a = some (.tup ((l : List Int).map V.int))) as ls → DpAll K H (as.map V.ref) (tupsD ls)
  | _, _, .nil => .nil
  | _, _, .cons r t => .cons (.tup (SqT.of r) (dpAll_ints _)) (dpAll_tups t)
theorem shw_tups : ∀ {ls : List (List Int)}, (∀ l ∈ ls, Low l) → ShwAll (tupsD ls)
  | [], _ => by simp only [tupsD, List.map_nil, ShwAll]
  | l :: r, h => by
    simp only [tupsD, List.map_cons, ShwAll]
    refine ⟨?_, shw_tups fun i hi => h i (List.mem_cons_of_mem _ hi)⟩
    simp only [Shw]
    exact shw_ints (h l (List.mem_cons_self ..)).1
theorem wd_tups : ∀ {ls : List (List Int)}, (∀ l ∈ ls, Low l) → wdAll (tupsD ls) ≤ 200605 * ls.length
  | [], _ => Nat.le_refl _
  | l :: r, h => by
    have h1 := (h l (List.mem_cons_self ..)).2
    have h2 := wd_tups fun i hi => h i (List.mem_cons_of_mem _ hi)
    simp only [tupsD, List.map_cons, wdAll, wd, wd_ints, List.length_cons] at h2 ⊢
    omega
theorem depth_tups : ∀ ls : List (List Int), PyData.depthAll (tupsD ls) ≤ 2
  | [] => by simp [tupsD, PyData.depthAll]
  | l :: r => by
    have h1 := depth_ints l
    have h2 := depth_tups r
    simp only [tupsD, List.map_cons, PyData.depthAll, PyData.depth] at h2 ⊢
    omega
theorem repr_ltups {K : PySem.W.Frag} {H : Hp} {c : Addr} {as : List Addr} {ls : List (List Int)} {Q : VK} (hc : H c = some (.lst (as.map V.ref))) (hp : Paired (fun a l => H a = some (.tup ((l : List Int).map V.int))) as ls) (low : ∀ l ∈ ls, Low l) (few : ls.length ≤ 4)
    (q : Q (.str (PyData.list (tupsD ls)).shown) H) : rRepr K [.ref c] H Q := by
  refine ⟨c, .list (tupsD ls), rfl, .lst (SqL.of hc) (dpAll_tups hp), ?_, ?_, ?_, q⟩
  · simp only [Shw]
    exact shw_tups low
  · have := depth_tups ls
    simp only [PyData.depth]
    omega
  · have := wd_tups low
    simp only [wd]
    omega
end
end Z

/-! The two ways in which a law asks its own check for each source of draws. -/
namespace Z
open PySem PySem.Spec PyProof.Rows L2
section
variable {K : PySem.W.Frag} {spS spR : Sp} {a : Addr} {n : Int} {H : Hp} {Q : VK} {TA : L2.TA} {σ : L2.St}
theorem iteT {P N : Prop} [Decidable (true = true)] (h : P) : ite (true = true) P N := by
  rw [if_pos rfl]
  exact h
theorem all_rep : ∀ m, (List.replicate m true).all id = true
  | 0 => rfl
  | m + 1 => by
    rw [List.replicate_succ, List.all_cons, all_rep m]
    rfl
theorem reps : ∀ l : List V, l.filterMap (fun _ => some (V.bl true)) = (List.replicate l.length true).map V.bl
  | [] => rfl
  | x :: r => by
    rw [List.filterMap_cons, reps r]
    rfl
/-- all([check(source(script, k)) for k in range(..)]) -/
theorem tail_A {i : Nat} (hta : ∀ R : List V → Hp → Prop, R [.int n] H → TA σ H R) (hn : n ≤ 64 ∧ 0 ≤ n) (hi : i < σ.length) (h0 : σ[0]? = some (some (.ref a))) (hi0 : i ≠ 0)
    (hS : ∀ (k : Int) H' Q' E, Same H H' → 0 ≤ k → k < n → (∀ p H2, H' p = none → Same H' H2 → Spring H2 p → Q' (.ref p) H2) → spS [.ref a, .int k] H' Q' E)
    (hR : ∀ p H' Q' E, Spring H' p → (∀ H2, Kp p H' H2 → Q' (.bl true) H2) → spR [.ref p] H' Q' E) (q : ∀ H', Q (.bl true) H') :
    tLc (iRng1 TA) (gName i) tYes (tCall spR [] E0 (tCons (tCall spS [] E0 (tCons (tVar 0) (tCons (tVar i) tNil))) tNil)) [i] σ H fun x H1 => rAllH [x] H1 Q := by
  refine lc_mapR (H1 := H) (fun _ => some (.bl true)) hta (by omega) (fun k hk H1 s1 => ?_) fun D H1 _ s1 e1 => ?_
  · intro Y N hY hN
    have e2 : (((wipe σ [i]).set i (some (V.int k))))[i]? = some (some (.int k)) := by
      rw [List.getElem?_set_self]
      show i < (σ.set i none).length
      rw [List.length_set]
      exact hi
    have e3 : (((wipe σ [i]).set i (some (V.int k))))[0]? = some (some (.ref a)) := by
      rw [List.getElem?_set_ne hi0]
      show (σ.set i none)[0]? = _
      rw [List.getElem?_set_ne hi0]
      exact h0
    have e4 : wipe ((wipe σ [i]).set i (some (V.int k))) [i] = wipe σ [i] := by
      show ((σ.set i none).set i (some (V.int k))).set i none = σ.set i none
      rw [List.set_set, List.set_set]
    refine ⟨e4, ?_⟩
    simp only [tYes, if_true]
    refine ⟨_, e3, _, e2, hS k H1 _ _ s1 (by omega) hk fun p H2 hp s2 sp => hR p H2 _ _ sp fun H3 kp => hY _ H3 rfl fun c o e => kp.keep c o (ne_of_none e hp) (s2 c o e)⟩
  · rw [reps] at e1
    refine ⟨D, _, rfl, e1, ?_⟩
    rw [all_rep]
    exact q H1
/-- sources = [source(cells, k) for k in range(..)]; all([check(s) for s in sources]) -/
theorem tail_B (hta : ∀ R : List V → Hp → Prop, R [.int n] H → TA [some (V.ref a), none, none, none] H R) (hn : n ≤ 64 ∧ 0 ≤ n)
    (hS : ∀ (k : Int) H' Q' E, Same H H' → 0 ≤ k → k < n → (∀ p H2, H' p = none → Same H' H2 → Spring H2 p → Q' (.ref p) H2) → spS [.ref a, .int k] H' Q' E)
    (hR : ∀ p H' Q' E, Spring H' p → (∀ H2, Kp p H' H2 → Q' (.bl true) H2) → spR [.ref p] H' Q' E) (q : ∀ H', Q (.bl true) H') :
    tSeq (tAsg (tLc (iRng1 TA) (gName 2) tYes (tCall spS [] E0 (tCons (tVar 0) (tCons (tVar 2) tNil))) [2]) (gName 1))
      (tRet (tCB rAllH (tCons (tLc (iList K (tVar 1)) (gName 3) tYes (tCall spR [] E0 (tCons (tVar 3) tNil)) [3]) tNil)))
      { nx := fun x H' => Q V.non H', rt := Q } [some (V.ref a), none, none, none] H := by
  refine z_seq ?_
  refine lc_rng (n := n) hta (by omega) (fun D i H' => ∃ ps : List Addr, ps.length = i ∧ (∀ p ∈ ps, Spring H' p) ∧ H' D = some (.lst (ps.map V.ref)) ∧ Same H H') (fun D hD => ⟨[], rfl, fun _ h => absurd h List.not_mem_nil, upd_same, same_new hD⟩) (fun D hD i H' hi hP => ?_) fun D H' hD hP => ?_
  · obtain ⟨ps, hl, hsp, hDl, hs⟩ := hP
    refine ⟨rfl, ?_⟩
    simp only [tYes, if_true]
    refine ⟨_, rfl, _, rfl, hS i H' _ _ hs (by omega) hi fun p H2 hp s2 sp => ?_⟩
    have hD2 := s2 _ _ hDl
    refine ⟨_, hD2, by rw [List.length_map, sizeLine_eq]; omega, ps ++ [p], by rw [List.length_append, hl]; rfl, fun x hx => ?_, by rw [upd_same, List.map_append]; rfl, fun b o e => ?_⟩
    · have far : ∀ y, Spring H2 y → Spring (upd H2 D (.lst (ps.map V.ref ++ [V.ref p]))) y := by
        rintro y ⟨u, v, w, e⟩
        have ne : y ≠ D := by
          rintro rfl
          rw [hD2] at e
          have e2 := HO.lst.inj (Option.some.inj e)
          cases ps with
          | nil => cases e2
          | cons z r => cases e2
        exact ⟨u, v, w, by rw [upd_ne ne]; exact e⟩
      rcases List.mem_append.mp hx with hx | hx
      · exact far _ ((hsp x hx).same s2)
      · rw [List.mem_singleton.mp hx]
        exact far _ sp
    · rw [upd_ne (ne_of_none e hD)]
      exact s2 _ _ (hs _ _ e)
  · obtain ⟨ps, hl, hsp, hDl, hs⟩ := hP
    show tLc (iList K (tVar 1)) (gName 3) tYes (tCall spR [] E0 (tCons (tVar 3) tNil)) [3] [some (V.ref a), some (V.ref D), none, none] H' fun x H1 => rAllH [x] H1 Q
    refine lc_lst (a := D) (xs := ps.map V.ref) (fun R h => ⟨_, rfl, h⟩) (fun L i H2 => (∀ p ∈ ps, Spring H2 p) ∧ H2 D = some (.lst (ps.map V.ref)) ∧ H2 L = some (.lst (List.replicate i (V.bl true)))) (SqL.of hDl) (fun L hL => ?_) (fun L hL i H2 hP => SqL.of hP.2.1) (fun L hL i x H2 hx hP => ?_) fun L H2 hL hP => ?_
    · have s := same_new (o := .lst []) hL
      exact ⟨fun p hp => (hsp p hp).same s, s _ _ hDl, upd_same⟩
    · obtain ⟨h1, h2, h3⟩ := hP
      obtain ⟨p, hp, rfl⟩ := List.mem_map.mp (List.mem_of_getElem? hx)
      refine ⟨rfl, ?_⟩
      simp only [tYes, if_true]
      refine ⟨_, rfl, hR p H2 _ _ (h1 p hp) fun H3 kp => ?_⟩
      have hi : i < ps.length := by
        have := (List.getElem?_eq_some_iff.mp hx).1
        rw [List.length_map] at this
        exact this
      have nD : D ≠ p := by
        rintro rfl
        obtain ⟨u, v, w, e⟩ := h1 _ hp
        rw [h2] at e
        have e2 := HO.lst.inj (Option.some.inj e)
        cases ps with
        | nil => cases e2
        | cons z r => cases e2
      have nL : ∀ y, Spring H2 y → L ≠ y := by
        rintro y ⟨u, v, w, e⟩ rfl
        rw [h3] at e
        have e2 := HO.lst.inj (Option.some.inj e)
        cases i with
        | zero => cases e2
        | succ m =>
          rw [List.replicate_succ] at e2
          cases (List.cons.inj e2).1
      have e3 := kp.keep L _ (nL p (h1 p hp)) h3
      refine ⟨_, e3, by rw [List.length_replicate, sizeLine_eq]; omega, fun y hy => ?_, ?_, ?_⟩
      · have sy : Spring H3 y := by
          by_cases c : y = p
          · rw [c]
            exact kp.sp
          · obtain ⟨u, v, w, e⟩ := h1 y hy
            exact ⟨u, v, w, kp.keep _ _ c e⟩
        obtain ⟨u, v, w, e⟩ := sy
        exact ⟨u, v, w, by rw [upd_ne (Ne.symm (nL y (h1 y hy)))]; exact e⟩
      · have nDL : D ≠ L := by
          rintro rfl
          rw [hDl] at hL
          cases hL
        rw [upd_ne nDL]
        exact kp.keep _ _ nD h2
      · rw [upd_same, List.replicate_succ']
    · obtain ⟨_, _, h3⟩ := hP
      refine ⟨L, List.replicate (ps.map V.ref).length true, rfl, ?_, ?_⟩
      · rw [h3, List.map_replicate]
      · rw [all_rep]
        exact q H2
end
end Z

/-! sorted() of a tuple of ints; of a list of pairs; list(range(..)). -/
namespace Z
open PySem PySem.Spec PyProof.Rows L2
section
variable {prog : Program} {w : World} {A : Around} {E : Value → Shared → Prop} {s : Shared}
open PySem.Builtin
theorem collect_tup {l : Addr} {vs : List Value} {Q : List Value → Shared → Prop} (hl : s.heap.IsTuple l vs.toArray)
    (h : Q vs { s with heap := (s.heap.push (seqObj "list" #[] 0)).update s.heap.objs.size (Obj.mapSeq (· ++ vs.toArray)) }) (hsz : vs.length ≤ sizeLine := by size_fits) :
    wpAny (model prog w) A (collect (.ref l)) Q E s := by
  obtain ⟨o, ho, hc, n, hd⟩ := id hl
  unfold collect
  refine wpAny_bind (wpAny_runValue (codeAny_builtin entry_proto_collect' ?_))
  show wpAny _ _ (do again (.builtin "list.__iadd__" ⟨[← newList [], .ref l], []⟩)) _ _ s
  refine wpAny_bind (wpAny_newList (wpAny_pure ⟨Code.quiet_builtin _ (by decide +kernel), codeAny_builtin entry_list_iadd' ?_⟩))
  show wpAny _ _ (Builtin.List.listExtendWith (.ref s.heap.objs.size) (.ref l) (.ref s.heap.objs.size)) _ _ { s with heap := s.heap.push (seqObj "list" #[] 0) }
  unfold Builtin.List.listExtendWith
  have ho' : (s.heap.push (seqObj "list" #[] 0)).get? l = some o := Heap.get?_push_of_some _ ho
  refine wpAny_bind (wpAny_typeOf (T := "tuple") ⟨o, ho', hc⟩ ?_)
  have ht : (Value.type "tuple" == Value.type "tuple") = true := by rfl
  rw [if_pos (by rw [ht]; simp)]
  refine wpAny_bind (listItems_at ho' hd ?_)
  refine wpAny_bind (listItems_at (xs := #[]) (n := 0) (Heap.get?_push_size _ rfl) rfl ?_)
  rw [if_neg (by simp)]
  refine wpAny_bind (listUpdate_at (xs := #[]) (n := 0) (Heap.get?_push_size _ rfl) rfl ?_ (Nat.zero_le _) (by show (#[] ++ vs.toArray).size ≤ sizeLine + 1; simp only [Array.size_append, List.size_toArray, List.length_nil]; omega))
  refine wpAny_pure ?_
  show wpAny (model prog w) A (do
      let o ← load s.heap.objs.size
      match o.data with
      | .seq xs _ => pure xs.toList
      | _ => unsupported "internal:collect") Q E { s with heap := (s.heap.push (seqObj "list" #[] 0)).update s.heap.objs.size (Obj.mapSeq (· ++ vs.toArray)) }
  refine wpAny_bind (wpAny_load (get?_update_seq (Heap.get?_push_size _ rfl) _) ?_)
  show wpAny _ _ (pure ((#[] : Array Value) ++ vs.toArray).toList) Q E _
  rw [show ((#[] : Array Value) ++ vs.toArray).toList = vs by simp]
  exact wpAny_pure h
open SrtO in
theorem sorted_ordT {l : Addr} {vs : List Value} {ltv : Value → Value → Bool} {Q : Value → Shared → Prop} (O : Swo ltv) (hl : s.heap.IsTuple l vs.toArray) (hz : vs.length ≤ sizeLine)
    (hS : 2 ≤ vs.length → ∀ (h₁ : Heap) (a : Addr), h₁.get? a = some (seqObj "list" vs.toArray 0) → (∀ b o, s.heap.get? b = some o → b ≠ a ∧ h₁.get? b = some o) → SortableO prog w A.in1.in1 { s with heap := h₁ } a vs ltv)
    (h : ∀ out : List Value, Srtd ltv out → Stb ltv out vs → Q (.ref (s.heap.objs.size + 1)) { s with heap := sortedAll s.heap vs out.toArray }) :
    wpAny (model prog w) A (call (.builtin "sorted") [.ref l]) Q E s := by
  refine Calls.call_function_entry kind_sorted plain_sorted entry_sorted (args_sorted1 _) ?_
  unfold Builtin.«sorted»
  refine wpAny_bind (m := checkCount "sorted" 1 1 _) (wpAny_pure ?_)
  refine wpAny_bind (collect_tup hl ?_ hz)
  refine wpAny_bind (wpAny_newList ?_ hz)
  have hsz : ((s.heap.push (seqObj "list" #[] 0)).update s.heap.objs.size (Obj.mapSeq (· ++ vs.toArray))).objs.size = s.heap.objs.size + 1 := by
    rw [Heap.size_update, size_push']
  have hoL : (((s.heap.push (seqObj "list" #[] 0)).update s.heap.objs.size (Obj.mapSeq (· ++ vs.toArray))).push (seqObj "list" vs.toArray 0)).get? (s.heap.objs.size + 1) = some (seqObj "list" vs.toArray 0) := by
    rw [← hsz]; exact Heap.get?_push_size _ rfl
  have keep : ∀ b o, s.heap.get? b = some o → b ≠ s.heap.objs.size + 1 ∧ (((s.heap.push (seqObj "list" #[] 0)).update s.heap.objs.size (Obj.mapSeq (· ++ vs.toArray))).push (seqObj "list" vs.toArray 0)).get? b = some o := fun b o q => by
    have hlt : b < s.heap.objs.size := Heap.lt_size q
    refine ⟨Nat.ne_of_lt (Nat.lt_succ_of_lt hlt), Heap.get?_push_of_some _ ?_⟩
    rw [Heap.get?_update_ne _ _ _ _ (Nat.ne_of_lt hlt)]
    exact Heap.get?_push_of_some _ q
  show wpAny _ _ _ _ _ { s with heap := ((s.heap.push (seqObj "list" #[] 0)).update s.heap.objs.size (Obj.mapSeq (· ++ vs.toArray))).push (seqObj "list" vs.toArray 0) }
  rw [hsz]
  refine wpAny_bind (wpAny_holding (wpAny_call_entry slot_list_sort ⟨_, hoL, rfl⟩ entry_list_sort (list_sort_ord O hoL hz (fun h2 => hS h2 _ _ hoL keep) fun out hs hb => ⟨_, rfl, ?_⟩) (args_list_sort _)))
  exact wpAny_pure ⟨_, rfl, h out hs hb⟩
end
section
variable {X : Cx}
/-- sorted(xs), xs a tuple of ints -/
def rSortTup : List V → Hp → VK → Prop := fun vs H Q => ∃ (a : Addr) (ns : List Int), vs = [V.ref a] ∧ H a = some (.tup (ns.map V.int)) ∧
  ∀ p : Addr, H p = none → Q (.ref p) (upd H p (.lst (ns.mergeSort.map V.int)))
theorem cr_sortedTup : CallR X (.builtin "sorted") rSortTup := by
  intro pins s σ H vs us Q I r h
  obtain ⟨a, ns, rfl, hs, q⟩ := h
  obtain ⟨its, rv, hl, hz⟩ := I.tuple (SqT.of hs)
  rw [Vals.ref1 r]
  have hi := rv.ints
  refine sorted_ordT SrtO.swo_int hl (by rw [← rv.length]; exact hz) (fun h2 h₁ a' _ _ => SrtO.ints_sortable hi h2) fun out h1 h2 => ?_
  obtain ⟨k1, k2, k3⟩ := SrtO.ints_out hi h1 h2
  obtain ⟨ep, he'⟩ := PyProof.Rows.sortedAll_at s.heap its out.toArray
  have hlen : ((out.map SrtO.iv).map V.int).length ≤ sizeLine := by
    rw [List.length_map, k2.length_eq]
    rw [List.length_map] at hz
    exact hz
  refine ⟨.ref _, upd H (s.heap.objs.size + 1) (.lst ((out.map SrtO.iv).map V.int)), I.laid (t' := s.toks) (fun _ _ => PyProof.Rows.sortedAll_old) (Nat.le_succ _) ⟨hlen, out, ep, vals_of_ints k1, he'⟩, rfl, ?_⟩
  rw [perm_sort k2 k3]
  exact q _ (I.hok.fresh (Nat.le_succ _))
/-- the pair of ints at t -/
def PairAt (H : Hp) (t : Addr) (p : Int × Int) : Prop := H t = some (.tup [.int p.1, .int p.2])
def pairOf (H : Hp) : V → Int × Int
  | .ref t => match H t with
    | some (.tup [.int i, .int j]) => (i, j)
    | _ => (0, 0)
  | _ => (0, 0)
theorem pairOf_at {H : Hp} {t : Addr} {p : Int × Int} (h : PairAt H t p) : pairOf H (.ref t) = p := by
  unfold pairOf
  simp only [show H t = some (.tup [.int p.1, .int p.2]) from h]
def Lex (l : List (Int × Int)) : Prop := l.Pairwise fun p q => SrtO.lexB q p = false
theorem lex_eq {l m : List (Int × Int)} (h1 : Lex l) (h2 : Lex m) (p : l.Perm m) : l = m := by
  refine List.Perm.eq_of_pairwise (fun a b _ _ x y => ?_) h1 h2 p
  have x' := SrtO.lexB_no.mp x
  have y' := SrtO.lexB_no.mp y
  obtain ⟨a1, a2⟩ := a
  obtain ⟨b1, b2⟩ := b
  dsimp only at x' y'
  rw [Prod.mk.injEq]
  omega
theorem paired_mem {α β : Type} {F : α → β → Prop} : ∀ {as : List α} {ps : List β}, Paired F as ps → ∀ a ∈ as, ∃ p, p ∈ ps ∧ F a p
  | _, _, .nil, a, h => absurd h List.not_mem_nil
  | _, _, .cons f r, a, h => by
    rcases List.mem_cons.mp h with rfl | h
    · exact ⟨_, List.mem_cons_self, f⟩
    · obtain ⟨p, h1, h2⟩ := paired_mem r a h
      exact ⟨p, List.mem_cons_of_mem _ h1, h2⟩
theorem paired_map {α β : Type} {F : α → β → Prop} (g : α → β) : ∀ {as : List α}, (∀ a ∈ as, F a (g a)) → Paired F as (as.map g)
  | [], _ => .nil
  | a :: r, h => .cons (h a List.mem_cons_self) (paired_map g fun x hx => h x (List.mem_cons_of_mem _ hx))
theorem paired_eq {α β : Type} {F : α → β → Prop} (g : α → β) (hg : ∀ a p, F a p → g a = p) : ∀ {as : List α} {ps : List β}, Paired F as ps → as.map g = ps
  | _, _, .nil => rfl
  | _, _, .cons f r => by rw [List.map_cons, hg _ _ f, paired_eq g hg r]
/-- sorted(xs), xs a list of pairs of ints: the pairs in their order -/
def rSortPr : List V → Hp → VK → Prop := fun vs H Q => ∃ (a : Addr) (as : List Addr) (ps : List (Int × Int)), vs = [V.ref a] ∧ H a = some (.lst (as.map V.ref)) ∧ Paired (PairAt H) as ps ∧
  ∀ (bs : List Addr) (qs : List (Int × Int)) (p : Addr), H p = none → bs.Perm as → qs.Perm ps → Lex qs → Paired (PairAt H) bs qs → Q (.ref p) (upd H p (.lst (bs.map V.ref)))
theorem cr_sortedPr : CallR X (.builtin "sorted") rSortPr := by
  intro pins s σ H vs us Q I r h
  obtain ⟨a, as, ps, e, ha, hp, q⟩ := h
  have hk : ∀ x ∈ as.map V.ref, ∃ t, x = V.ref t ∧ H t = some (.tup [.int (pairOf H x).1, .int (pairOf H x).2]) := by
    intro x hx
    obtain ⟨t, ht, rfl⟩ := List.mem_map.mp hx
    obtain ⟨p, _, f⟩ := paired_mem hp t ht
    refine ⟨t, rfl, ?_⟩
    rw [pairOf_at f]
    exact f
  refine cr_sortedPO pins s σ H vs us Q I r ⟨a, as.map V.ref, pairOf H, e, SqL.of ha, hk, fun ys p hs hb hn => ?_⟩
  have hy : ∀ y ∈ ys, ∃ t, y = V.ref t := fun y hy => by
    obtain ⟨t, e, _⟩ := hk y (hb.perm.mem_iff.mp hy)
    exact ⟨t, e⟩
  obtain ⟨bs, rfl⟩ : ∃ bs : List Addr, ys = bs.map V.ref := by
    clear hs hb
    induction ys with
    | nil => exact ⟨[], rfl⟩
    | cons y l ih =>
      obtain ⟨t, rfl⟩ := hy y List.mem_cons_self
      obtain ⟨bs, rfl⟩ := ih fun z hz => hy z (List.mem_cons_of_mem _ hz)
      exact ⟨t :: bs, rfl⟩
  have hperm : bs.Perm as := by
    have h2 := hb.perm.map (fun v => match v with | .ref t => t | _ => 0)
    rw [List.map_map, List.map_map] at h2
    have e1 : ∀ l : List Addr, l.map ((fun v => match v with | .ref t => t | _ => (0 : Addr)) ∘ V.ref) = l := fun l => by
      induction l with
      | nil => rfl
      | cons x r ih => rw [List.map_cons, ih]; rfl
    rw [e1, e1] at h2
    exact h2
  have hF : ∀ t ∈ bs, PairAt H t (pairOf H (.ref t)) := fun t ht => by
    obtain ⟨p, _, f⟩ := paired_mem hp t (hperm.mem_iff.mp ht)
    rw [pairOf_at f]
    exact f
  have e2 : as.map (fun t => pairOf H (.ref t)) = ps := paired_eq _ (fun t p f => pairOf_at f) hp
  refine q bs (bs.map fun t => pairOf H (.ref t)) p hn hperm ?_ ?_ (paired_map _ hF)
  · rw [← e2]
    exact hperm.map _
  · have h3 := List.pairwise_map.mp hs
    exact List.pairwise_map.mpr h3
end
end Z

/-! Comprehensions whose elements are new objects. -/
namespace Z
open PySem PySem.Spec PyProof.Rows L2
def IsO (H : Hp) (a : Addr) (o : HO) : Prop := H a = some o
theorem paired_mono {α β : Type} {F G : α → β → Prop} (h : ∀ a b, F a b → G a b) : ∀ {as : List α} {bs : List β}, Paired F as bs → Paired G as bs
  | _, _, .nil => .nil
  | _, _, .cons f r => .cons (h _ _ f) (paired_mono h r)
theorem paired_monoM {α β : Type} {F G : α → β → Prop} : ∀ {as : List α} {bs : List β}, (∀ a ∈ as, ∀ b, F a b → G a b) → Paired F as bs → Paired G as bs
  | _, _, _, .nil => .nil
  | _, _, h, .cons f r => .cons (h _ List.mem_cons_self _ f) (paired_monoM (fun a ha => h a (List.mem_cons_of_mem _ ha)) r)
theorem paired_same {α β : Type} {R : Hp → Addr → β → Prop} : True := trivial
theorem paired_len {α β : Type} {F : α → β → Prop} : ∀ {as : List α} {bs : List β}, Paired F as bs → as.length = bs.length
  | _, _, .nil => rfl
  | _, _, .cons _ r => by rw [List.length_cons, List.length_cons, paired_len r]
theorem paired_to {α β γ : Type} {F : α → γ → Prop} {g : β → γ} : ∀ {as : List α} {bs : List β}, Paired F as (bs.map g) → Paired (fun a b => F a (g b)) as bs
  | [], [], _ => .nil
  | [], _ :: _, h => by cases h
  | _ :: _, [], h => by cases h
  | _ :: _, _ :: _, .cons f r => .cons f (paired_to r)
theorem paired_of {α β γ : Type} {F : α → γ → Prop} {g : β → γ} : ∀ {as : List α} {bs : List β}, Paired (fun a b => F a (g b)) as bs → Paired F as (bs.map g)
  | _, _, .nil => .nil
  | _, _, .cons f r => .cons f (paired_of r)
theorem paired_app {α β : Type} {F : α → β → Prop} : ∀ {as as' : List α} {bs bs' : List β}, Paired F as bs → Paired F as' bs' → Paired F (as ++ as') (bs ++ bs')
  | _, _, _, _, .nil, h => h
  | _, _, _, _, .cons f r, h => .cons f (paired_app r h)
theorem paired_get {α β : Type} {F : α → β → Prop} : ∀ {as : List α} {bs : List β}, Paired F as bs → ∀ {i : Nat} {a : α}, as[i]? = some a → ∃ b, bs[i]? = some b ∧ F a b
  | _, _, .nil, i, a, h => by simp at h
  | _, _, .cons f r, 0, a, h => by
    rw [List.getElem?_cons_zero] at h
    cases h
    exact ⟨_, rfl, f⟩
  | _, _, .cons f r, i + 1, a, h => by
    rw [List.getElem?_cons_succ] at h
    rw [List.getElem?_cons_succ]
    exact paired_get r h
theorem paired_get' {α β : Type} {F : α → β → Prop} : ∀ {as : List α} {bs : List β}, Paired F as bs → ∀ {i : Nat} {b : β}, bs[i]? = some b → ∃ a, as[i]? = some a ∧ F a b
  | _, _, .nil, i, a, h => by simp at h
  | _, _, .cons f r, 0, a, h => by
    rw [List.getElem?_cons_zero] at h
    cases h
    exact ⟨_, rfl, f⟩
  | _, _, .cons f r, i + 1, a, h => by
    rw [List.getElem?_cons_succ] at h
    rw [List.getElem?_cons_succ]
    exact paired_get' r h
section
variable {K : PySem.W.Frag} {σ : L2.St}
/-- one turn: a new object, or nothing -/
def TurnO (g : TG) (tt : TT) (te : TE) (vs : List Nat) (σ : L2.St) (H : Hp) (x : V) (o : Option HO) : Prop :=
  ∀ (Y : V → Hp → Prop) (N : Hp → Prop), (∀ y a H', o = some y → H a = none → Same H H' → H' a = some y → Y (.ref a) H') → (∀ H', o = none → Same H H' → N H') →
    g x (wipe σ vs) H fun σ2 H2 => wipe σ2 vs = wipe σ vs ∧ tt σ2 H2 fun b H3 => if b = true then te σ2 H3 Y else N H3
def AccO (H1 : Hp) (f : V → Option HO) (xs : List V) (D : Addr) (i : Nat) (H : Hp) : Prop := Same H1 H ∧ ∃ as : List Addr, H D = some (.lst (as.map V.ref)) ∧ D ∉ as ∧ Paired (IsO H) as ((xs.take i).filterMap f)
theorem accO_turn {H1 : Hp} {f : V → Option HO} {xs : List V} {D : Addr} {i : Nat} {H : Hp} {x : V} {g : TG} {tt : TT} {te : TE} {vs : List Nat} (hD : H1 D = none) (hx : xs.length ≤ 1000) (h : xs[i]? = some x) (p : AccO H1 f xs D i H) (t : TurnO g tt te vs σ H x (f x)) :
    g x (wipe σ vs) H fun σ2 H2 => wipe σ2 vs = wipe σ vs ∧ tt σ2 H2 fun b H3 =>
      if b = true then te σ2 H3 fun y H4 => ∃ acc, H4 D = some (.lst acc) ∧ acc.length < sizeLine ∧ AccO H1 f xs D (i + 1) (upd H4 D (.lst (acc ++ [y]))) else AccO H1 f xs D (i + 1) H3 := by
  obtain ⟨s1, as, eD, nD, pr⟩ := p
  refine t _ _ (fun y a H' e ha s ea => ?_) fun H' e s => ?_
  · refine ⟨_, s _ _ eD, ?_, ?_, as ++ [a], ?_, ?_, ?_⟩
    · rw [List.length_map, paired_len pr]
      refine Nat.lt_of_le_of_lt (List.length_filterMap_le _ _) ?_
      rw [List.length_take]
      exact Nat.lt_of_le_of_lt (Nat.min_le_right _ _) (small1000 hx)
    · intro b o eb
      rw [upd_ne (ne_of_none eb hD)]
      exact s _ _ (s1 _ _ eb)
    · rw [upd_same, List.map_append]
      rfl
    · intro m
      rcases List.mem_append.mp m with m | m
      · exact nD m
      · rw [← List.mem_singleton.mp m, eD] at ha
        cases ha
    · rw [take_fm f h, e]
      refine paired_app (paired_monoM (fun b hb o e2 => ?_) pr) (.cons ?_ .nil)
      · show upd H' D _ b = some o
        have ne : b ≠ D := fun z => nD (by rw [← z]; exact hb)
        rw [upd_ne ne]
        exact s _ _ e2
      · show upd H' D _ a = some y
        rw [upd_ne]
        · exact ea
        · rintro rfl
          rw [eD] at ha
          cases ha
  · refine ⟨s1.trans s, as, s _ _ eD, nD, ?_⟩
    rw [take_fm f h, e, Option.toList_none, List.append_nil]
    exact paired_mono (fun a b e2 => s _ _ e2) pr
theorem accO_start {H1 : Hp} {f : V → Option HO} {xs : List V} {D : Addr} (hD : H1 D = none) : AccO H1 f xs D 0 (upd H1 D (.lst [])) := ⟨same_new hD, [], upd_same, List.not_mem_nil, .nil⟩
theorem lc_rngO {n : Int} {g : TG} {tt : TT} {te : TE} {vs : List Nat} {H1 : Hp} {ta : TA} {Q : VK} (f : V → Option HO) (hta : ∀ R : List V → Hp → Prop, R [.int n] H1 → ta σ H R) (hn : n ≤ 1000 ∧ 0 ≤ n)
    (hs : ∀ i : Nat, (i : Int) < n → ∀ H, Same H1 H → TurnO g tt te vs σ H (.int i) (f (.int i)))
    (hd : ∀ D H' as, H1 D = none → Same H1 H' → H' D = some (.lst (as.map V.ref)) → Paired (IsO H') as ((upto n).filterMap f) → Q (.ref D) H') : tLc (iRng1 ta) g tt te vs σ H Q := by
  refine hta _ ⟨n, rfl, by omega, by omega, fun D hD => ?_⟩
  refine lc_range (lo := 0) (n := n.toNat) (AccO H1 f (upto n) D) (accO_start hD) (fun i H hi p => ?_) fun H p => ?_
  · have e : (0 : Int) + (i : Int) = (i : Int) := by omega
    rw [e]
    exact accO_turn hD (by rw [upto_len]; omega) (upto_get (by omega)) p (hs i (by omega) H p.1)
  · obtain ⟨s, as, e, _, pr⟩ := p
    rw [show n.toNat = (upto n).length from (upto_len n).symm, List.take_length] at pr
    exact hd D H as hD s e pr
theorem lc_lstO {a : Addr} {xs : List V} {g : TG} {tt : TT} {te : TE} {vs : List Nat} {H H1 : Hp} {tl : TE} {Q : VK} (f : V → Option HO) (htl : ∀ R : VK, R (.ref a) H1 → tl σ H R) (ha : SqL K H1 a xs) (hx : xs.length ≤ 1000)
    (hs : ∀ x ∈ xs, ∀ H, Same H1 H → TurnO g tt te vs σ H x (f x))
    (hd : ∀ D H' as, H1 D = none → Same H1 H' → H' D = some (.lst (as.map V.ref)) → Paired (IsO H') as (xs.filterMap f) → Q (.ref D) H') : tLc (iList K tl) g tt te vs σ H Q := by
  refine htl _ ⟨a, rfl, ⟨xs, ha⟩, fun D hD => ?_⟩
  refine lc_list (K := K) (a := a) (xs := xs) (AccO H1 f xs D) (accO_start hD) (fun i H _ p => p.1.seq ha) (fun i x H h p => accO_turn hD hx h p (hs x (List.mem_of_getElem? h) H p.1)) fun H p => ?_
  obtain ⟨s, as, e, _, pr⟩ := p
  rw [List.take_length] at pr
  exact hd D H as hD s e pr
theorem lc_tupO {a : Addr} {xs : List V} {g : TG} {tt : TT} {te : TE} {vs : List Nat} {H H1 : Hp} {tl : TE} {Q : VK} (f : V → Option HO) (htl : ∀ R : VK, R (.ref a) H1 → tl σ H R) (ha : SqT K H1 a xs) (hx : xs.length ≤ 1000)
    (hs : ∀ x ∈ xs, ∀ H, Same H1 H → TurnO g tt te vs σ H x (f x))
    (hd : ∀ D H' as, H1 D = none → Same H1 H' → H' D = some (.lst (as.map V.ref)) → Paired (IsO H') as (xs.filterMap f) → Q (.ref D) H') : tLc (iTup K tl) g tt te vs σ H Q := by
  refine htl _ ⟨a, rfl, ⟨xs, ha⟩, fun D hD => ?_⟩
  refine lc_tup (K := K) (a := a) (xs := xs) (AccO H1 f xs D) (accO_start hD) (fun i H _ p => sq_same p.1 ha) (fun i x H h p => accO_turn hD hx h p (hs x (List.mem_of_getElem? h) H p.1)) fun H p => ?_
  obtain ⟨s, as, e, _, pr⟩ := p
  rw [List.take_length] at pr
  exact hd D H as hD s e pr
/-- two bounds -/
def fromTo (a b : Int) : List V := (List.range (b - a).toNat).map fun (i : Nat) => V.int (a + i)
theorem fromTo_len (a b : Int) : (fromTo a b).length = (b - a).toNat := by
  unfold fromTo
  rw [List.length_map, List.length_range]
theorem fromTo_get {a b : Int} {i : Nat} (h : (i : Int) < b - a) : (fromTo a b)[i]? = some (.int (a + i)) := by
  unfold fromTo
  rw [List.getElem?_map, List.getElem?_range (by omega)]
  rfl
theorem lc_rng2O {lo hi : Int} {g : TG} {tt : TT} {te : TE} {vs : List Nat} {H1 : Hp} {ta : TA} {Q : VK} (f : V → Option HO) (hta : ∀ R : List V → Hp → Prop, R [.int lo, .int hi] H1 → ta σ H R) (hn : 0 ≤ lo ∧ lo ≤ 1000 ∧ hi ≤ 1000 ∧ 0 ≤ hi)
    (hs : ∀ i : Nat, (i : Int) < hi - lo → ∀ H, Same H1 H → TurnO g tt te vs σ H (.int (lo + i)) (f (.int (lo + i))))
    (hd : ∀ D H' as, H1 D = none → Same H1 H' → H' D = some (.lst (as.map V.ref)) → Paired (IsO H') as ((fromTo lo hi).filterMap f) → Q (.ref D) H') : tLc (iRng2 ta) g tt te vs σ H Q := by
  refine hta _ ⟨lo, hi, rfl, by omega, fun D hD => ?_⟩
  refine lc_range (lo := lo) (n := (hi - lo).toNat) (AccO H1 f (fromTo lo hi) D) (accO_start hD) (fun i H hi p => ?_) fun H p => ?_
  · exact accO_turn hD (by rw [fromTo_len]; omega) (fromTo_get (by omega)) p (hs i (by omega) H p.1)
  · obtain ⟨s, as, e, _, pr⟩ := p
    rw [show (hi - lo).toNat = (fromTo lo hi).length from (fromTo_len lo hi).symm, List.take_length] at pr
    exact hd D H as hD s e pr
theorem for_rng2 {lo hi : Int} {g : TG} {tb : TS} {D : Ends} {H1 : Hp} {ta : TA} (hta : ∀ R : List V → Hp → Prop, R [.int lo, .int hi] H1 → ta σ H R) (hn : 0 ≤ lo ∧ lo < 2 ^ 62 ∧ hi < 2 ^ 62 ∧ 0 ≤ hi) (Pv : Nat → L2.St → Hp → Prop) (h0 : Pv 0 σ H1)
    (hs : ∀ (i : Nat) σ H, (i : Int) < hi - lo → Pv i σ H → g (.int (lo + i)) σ H fun σ2 H2 => tb { D with nx := Pv (i + 1), ct := Pv (i + 1), bk := D.nx } σ2 H2) (hd : ∀ σ H, Pv (hi - lo).toNat σ H → D.nx σ H) : tFor (iRng2 ta) g tb D σ H := by
  refine hta _ ⟨lo, hi, rfl, by omega, ?_⟩
  exact for_range (lo := lo) (n := (hi - lo).toNat) Pv h0 (fun i σ H hi p => hs i σ H (by omega) p) hd
/-- for x in a tuple that stands and stays -/
theorem for_tup {σ : L2.St} {H : Hp} {g : TG} {tb : TS} {D : Ends} {tl : TE} {a : Addr} {xs : List V} (htl : ∀ R : VK, R (.ref a) H → tl σ H R) (Pv : Nat → L2.St → Hp → Prop) (h0 : Pv 0 σ H)
    (hst : ∀ i σ' H', Pv i σ' H' → SqT K H' a xs)
    (hs : ∀ i x σ H', xs[i]? = some x → Pv i σ H' → ∀ N : L2.St → Hp → Prop, (∀ σ' H2, Pv (i + 1) σ' H2 → N σ' H2) → g x σ H' fun σ2 H2 => tb { D with nx := N, ct := N, bk := D.nx } σ2 H2)
    (hd : ∀ σ' H', Pv xs.length σ' H' → D.nx σ' H') : tFor (iTup K tl) g tb D σ H := by
  refine htl _ ⟨a, rfl, ⟨_, hst 0 σ H h0⟩, ?_⟩
  exact L2.for_tup (K := K) (a := a) (xs := xs) Pv h0 (fun i σ H2 _ p => hst i σ H2 p) (fun i x σ H2 hx p => hs i x σ H2 hx p _ fun σ' H3 h => h) hd
end
theorem atI_int {α : Type} {xs : List α} {i : Int} {v : α} (h0 : 0 ≤ i) (h : xs[i.toNat]? = some v) : atI xs i = some v := by
  have e : i = ((i.toNat : Nat) : Int) := by omega
  rw [e]
  exact atI_nat h
theorem atI_end {α : Type} {xs : List α} {v : α} (h : xs[xs.length - 1]? = some v) : atI xs (-1) = some v := by
  have hl := (List.getElem?_eq_some_iff.mp h).1
  have e : ixN xs.length (-1) = some (xs.length - 1) := by
    unfold ixN
    rw [if_neg (by decide), if_pos (by omega)]
    congr 1
    omega
  unfold atI
  rw [e]
  exact h
theorem atI_last {α : Type} (xs : List α) (v : α) : atI (xs ++ [v]) (-1) = some v := atI_end (by
  rw [List.length_append, List.length_singleton, Nat.add_sub_cancel, List.getElem?_append_right (Nat.le_refl _), Nat.sub_self]
  rfl)
/-- what is walked is reckoned first -/
def tV (v : V) : TE := fun _ H Q => Q v H
theorem lc_bindL {K : PySem.W.Frag} {tl : TE} {g : TG} {tt : TT} {te : TE} {vs : List Nat} {σ : L2.St} {H : Hp} {Q : VK} (h : tl σ H fun v H1 => tLc (iList K (tV v)) g tt te vs σ H1 Q) : tLc (iList K tl) g tt te vs σ H Q := h
theorem lc_bindT {K : PySem.W.Frag} {tl : TE} {g : TG} {tt : TT} {te : TE} {vs : List Nat} {σ : L2.St} {H : Hp} {Q : VK} (h : tl σ H fun v H1 => tLc (iTup K (tV v)) g tt te vs σ H1 Q) : tLc (iTup K tl) g tt te vs σ H Q := h
theorem for_bindL {K : PySem.W.Frag} {tl : TE} {g : TG} {tb : TS} {D : Ends} {σ : L2.St} {H : Hp} (h : tl σ H fun v H1 => tFor (iList K (tV v)) g tb D σ H1) : tFor (iList K tl) g tb D σ H := h
theorem for_bindT {K : PySem.W.Frag} {tl : TE} {g : TG} {tb : TS} {D : Ends} {σ : L2.St} {H : Hp} (h : tl σ H fun v H1 => tFor (iTup K (tV v)) g tb D σ H1) : tFor (iTup K tl) g tb D σ H := h
/-- a tuple of a list's items -/
def tupLike (H : Hp) : V → Option HO
  | .ref t => match H t with
    | some (.lst xs) => some (.tup xs)
    | _ => none
  | _ => none
theorem tupLike_at {H : Hp} {t : Addr} {xs : List V} (h : H t = some (.lst xs)) : tupLike H (.ref t) = some (.tup xs) := by
  simp only [tupLike, h]
def TupAt (H : Hp) (a : Addr) (l : List Int) : Prop := H a = some (.tup (l.map V.int))
def LstAt (H : Hp) (a : Addr) (l : List Int) : Prop := H a = some (.lst (l.map V.int))
def tupO (l : List Int) : HO := .tup (l.map V.int)
def lstO (l : List Int) : HO := .lst (l.map V.int)
def pairO (p : Int × Int) : HO := .tup [.int p.1, .int p.2]
def intO (f : Int → HO) : V → Option HO
  | .int i => some (f i)
  | _ => none
theorem fm_intO (f : Int → HO) : ∀ l : List Int, (l.map V.int).filterMap (intO f) = l.map f
  | [] => rfl
  | x :: r => by
    rw [List.map_cons, List.filterMap_cons, fm_intO f r]
    rfl
theorem tups_of {H : Hp} {as : List Addr} {ls : List (List Int)} (p : Paired (IsO H) as (ls.map tupO)) : Paired (TupAt H) as ls := paired_to (F := IsO H) (g := tupO) p
theorem lsts_of {H : Hp} {as : List Addr} {ls : List (List Int)} (p : Paired (IsO H) as (ls.map lstO)) : Paired (LstAt H) as ls := paired_to (F := IsO H) (g := lstO) p
theorem prs_of {H : Hp} {as : List Addr} {ls : List (Int × Int)} (p : Paired (IsO H) as (ls.map pairO)) : Paired (PairAt H) as ls := paired_to (F := IsO H) (g := pairO) p
theorem tups_same {H H' : Hp} {as : List Addr} {ls : List (List Int)} (s : Same H H') (p : Paired (TupAt H) as ls) : Paired (TupAt H') as ls := paired_mono (fun a b e => s _ _ e) p
theorem lsts_same {H H' : Hp} {as : List Addr} {ls : List (List Int)} (s : Same H H') (p : Paired (LstAt H) as ls) : Paired (LstAt H') as ls := paired_mono (fun a b e => s _ _ e) p
theorem prs_same {H H' : Hp} {as : List Addr} {ls : List (Int × Int)} (s : Same H H') (p : Paired (PairAt H) as ls) : Paired (PairAt H') as ls := paired_mono (fun a b e => s _ _ e) p
theorem sort_perm {a b : List Int} (h : a.Perm b) : a.mergeSort = b.mergeSort := by
  have h2 : (a.mergeSort (· ≤ ·)).Pairwise (· ≤ ·) := by
    have h := List.pairwise_mergeSort (le := fun x y : Int => decide (x ≤ y)) (fun x y z h1 h2 => by simp only [decide_eq_true_eq] at *; omega) (fun x y => by simp only [Bool.or_eq_true, decide_eq_true_eq]; omega) a
    exact h.imp fun h => of_decide_eq_true h
  exact perm_sort ((List.mergeSort_perm a _).trans h) h2
/-- the others of the pairs with x -/
def otherF (H : Hp) (x : Int) (v : V) : Option V := if x = (pairOf H v).1 ∨ x = (pairOf H v).2 then some (.int ((pairOf H v).1 + (pairOf H v).2 - x)) else none
theorem fm_other {H : Hp} {x : Int} : ∀ {as : List Addr} {qs : List (Int × Int)}, Paired (PairAt H) as qs → (as.map V.ref).filterMap (otherF H x) = (qs.filterMap fun q => if x = q.1 ∨ x = q.2 then some (q.1 + q.2 - x) else none).map V.int
  | _, _, .nil => rfl
  | _, _, .cons (a := a) (b := b) f r => by
    rw [List.map_cons, List.filterMap_cons, List.filterMap_cons, fm_other r]
    unfold otherF
    rw [pairOf_at f]
    by_cases c : x = b.1 ∨ x = b.2
    · rw [if_pos c, if_pos c]
      rfl
    · rw [if_neg c, if_neg c]
theorem tups_kp {p : Addr} {H H' : Hp} {as : List Addr} {ls : List (List Int)} (k : Kp p H H') (sp : Spring H p) (h : Paired (TupAt H) as ls) : Paired (TupAt H') as ls := paired_mono (fun a b e => by
  refine k.keep a _ ?_ e
  rintro rfl
  obtain ⟨x, y, z, e2⟩ := sp
  rw [show H a = _ from e] at e2
  cases e2) h
theorem tup_kp {p a : Addr} {H H' : Hp} {xs : List V} (k : Kp p H H') (sp : Spring H p) (e : H a = some (.tup xs)) : H' a = some (.tup xs) := by
  refine k.keep a _ ?_ e
  rintro rfl
  obtain ⟨x, y, z, e2⟩ := sp
  rw [e] at e2
  cases e2
theorem fm_tupLike {H : Hp} : ∀ {as : List Addr} {ls : List (List Int)}, Paired (LstAt H) as ls → (as.map V.ref).filterMap (tupLike H) = ls.map tupO
  | _, _, .nil => rfl
  | _, _, .cons f r => by
    rw [List.map_cons, List.filterMap_cons, tupLike_at f, fm_tupLike r]
    rfl
/-- a change of a list leaves the tuples -/
theorem prs_upd {H : Hp} {D : Addr} {xs : List V} {o : HO} {as : List Addr} {ls : List (Int × Int)} (hD : H D = some (.lst xs)) (p : Paired (PairAt H) as ls) : Paired (PairAt (upd H D o)) as ls := paired_mono (fun a b e => by
  unfold PairAt at *
  rw [upd_ne]
  · exact e
  · rintro rfl
    rw [hD] at e
    cases e) p
theorem tups_upd {H : Hp} {D : Addr} {xs : List V} {o : HO} {as : List Addr} {ls : List (List Int)} (hD : H D = some (.lst xs)) (p : Paired (TupAt H) as ls) : Paired (TupAt (upd H D o)) as ls := paired_mono (fun a b e => by
  unfold TupAt at *
  rw [upd_ne]
  · exact e
  · rintro rfl
    rw [hD] at e
    cases e) p
end Z

/-! Data compared and told: tuples of tuples, lists of pairs, lists of parties. -/
namespace Z
open PySem PySem.Spec PyProof.Rows L2
theorem can_tups : ∀ ls : List (List Int), PyData.canLayAll0 (tupsD ls) = true
  | [] => rfl
  | l :: r => by
    simp only [tupsD, List.map_cons, PyData.canLayAll0, PyData.canLay0, Bool.and_eq_true]
    exact ⟨can_ints l, can_tups r⟩
theorem shaped_ltups (ls : List (List Int)) : SeqAt.shaped (.list (tupsD ls)) = true := by
  unfold SeqAt.shaped
  rw [Bool.and_eq_true]
  refine ⟨can_tups ls, decide_eq_true ?_⟩
  have h := depth_tups ls
  simp only [PyData.depth]
  omega
theorem shaped_ttups (ls : List (List Int)) : SeqAt.shaped (.tuple (tupsD ls)) = true := by
  unfold SeqAt.shaped
  rw [Bool.and_eq_true]
  refine ⟨can_tups ls, decide_eq_true ?_⟩
  have h := depth_tups ls
  simp only [PyData.depth]
  omega
def twoL (p : Int × Int) : List Int := [p.1, p.2]
theorem prs_tups {H : Hp} {as : List Addr} {ps : List (Int × Int)} (h : Paired (PairAt H) as ps) : Paired (TupAt H) as (ps.map twoL) := paired_of (F := TupAt H) (g := twoL) (paired_mono (fun a b e => e) h)
theorem eq_lprs {K : PySem.W.Frag} {H : Hp} {a b : Addr} {as bs : List Addr} {ps : List (Int × Int)} {Q : VK} (ha : H a = some (.lst (as.map V.ref))) (pa : Paired (PairAt H) as ps) (hb : H b = some (.lst (bs.map V.ref))) (pb : Paired (PairAt H) bs ps) (q : Q (.bl true) H) : rEqD K (.ref a) (.ref b) H Q := by
  refine ⟨.list (tupsD (ps.map twoL)), .list (tupsD (ps.map twoL)), .lst (SqL.of ha) (dpAll_tups (prs_tups pa)), .lst (SqL.of hb) (dpAll_tups (prs_tups pb)), shaped_ltups _, shaped_ltups _, ?_⟩
  rw [SeqAt.eqv_refl _ (SeqAt.canLay_of_shaped (shaped_ltups _))]
  exact q
theorem ne_ttups {K : PySem.W.Frag} {H : Hp} {a b : Addr} {as bs : List Addr} {ls : List (List Int)} {Q : VK} (ha : H a = some (.tup (as.map V.ref))) (pa : Paired (TupAt H) as ls) (hb : H b = some (.tup (bs.map V.ref))) (pb : Paired (TupAt H) bs ls) (q : Q (.bl false) H) : rNeD K (.ref a) (.ref b) H Q := by
  refine ⟨.tuple (tupsD ls), .tuple (tupsD ls), .tup (SqT.of ha) (dpAll_tups pa), .tup (SqT.of hb) (dpAll_tups pb), shaped_ttups _, shaped_ttups _, ?_⟩
  rw [SeqAt.eqv_refl _ (SeqAt.canLay_of_shaped (shaped_ttups _))]
  exact q
theorem wd_tupsM {m : Nat} : ∀ {ls : List (List Int)}, (∀ l ∈ ls, l.length ≤ m) → wdAll (tupsD ls) ≤ (1003 * m + 5) * ls.length
  | [], _ => Nat.le_refl _
  | l :: r, h => by
    have h1 := h l (List.mem_cons_self ..)
    have h2 := wd_tupsM fun i hi => h i (List.mem_cons_of_mem _ hi)
    simp only [tupsD, List.map_cons, wdAll, wd, wd_ints, List.length_cons, Nat.mul_add] at h2 ⊢
    have h3 : 1003 * l.length ≤ 1003 * m := Nat.mul_le_mul_left _ h1
    omega
/-- small parties -/
def LowP (m k : Nat) (ls : List (List Int)) : Prop := (∀ l ∈ ls, Low l ∧ l.length ≤ m) ∧ ls.length ≤ k
theorem repr_two {K : PySem.W.Frag} {H : Hp} {c a b : Addr} {as bs : List Addr} {ls : List (List Int)} {Q : VK} {m k : Nat} (hc : H c = some (.lst [.ref a, .ref b])) (ha : H a = some (.tup (as.map V.ref))) (pa : Paired (TupAt H) as ls)
    (hb : H b = some (.tup (bs.map V.ref))) (pb : Paired (TupAt H) bs ls) (low : LowP m k ls) (hmk : (1003 * m + 5) * k ≤ 7000000) (q : Q (.str (PyData.list [.tuple (tupsD ls), .tuple (tupsD ls)]).shown) H) : rRepr K [.ref c] H Q := by
  refine ⟨c, .list [.tuple (tupsD ls), .tuple (tupsD ls)], rfl, .lst (SqL.of hc) (.cons (.tup (SqT.of ha) (dpAll_tups pa)) (.cons (.tup (SqT.of hb) (dpAll_tups pb)) .nil)), ?_, ?_, ?_, q⟩
  · have := shw_tups fun l hl => (low.1 l hl).1
    simp only [Shw, ShwAll]
    exact ⟨this, this, trivial⟩
  · have := depth_tups ls
    simp only [PyData.depth, PyData.depthAll]
    omega
  · have h1 := wd_tupsM fun l hl => (low.1 l hl).2
    have h2 : (1003 * m + 5) * ls.length ≤ (1003 * m + 5) * k := Nat.mul_le_mul_left _ low.2
    simp only [wd, wdAll]
    omega
theorem tyN_tup {H : Hp} {a : Addr} {xs : List V} (h : H a = some (.tup xs)) : tyN H (.ref a) = some "tuple" := by
  simp only [tyN, h]
theorem tyN_lst {H : Hp} {a : Addr} {xs : List V} (h : H a = some (.lst xs)) : tyN H (.ref a) = some "list" := by
  simp only [tyN, h]
theorem kit_tt : kitB "tuple" "tuple" = some true := by decide +kernel
theorem kit_lt : kitB "list" "tuple" = some false := by decide +kernel
theorem kit_ts : kitB "tuple" "str" = some false := by decide +kernel
theorem kit_ti : kitB "tuple" "int" = some false := by decide +kernel
theorem kit_nt : kitB "NoneType" "tuple" = some false := by decide +kernel
theorem kit_it : kitB "int" "tuple" = some false := by decide +kernel
theorem kit_bt : kitB "bool" "tuple" = some false := by decide +kernel
theorem kit_st : kitB "str" "tuple" = some false := by decide +kernel
/-- isinstance(x, tuple) of a tuple -/
theorem isN_tup {H : Hp} {a : Addr} {xs : List V} {Q : VK} (h : H a = some (.tup xs)) (q : Q (.bl true) H) : rIsN [.ref a, .ty "tuple"] H Q := ⟨.ref a, "tuple", rfl, _, tyN_tup h, _, kit_tt, q⟩
end Z

/-! enumerate(xs), xs a tuple. -/
namespace PySem
open Sem (wp)
open AutoSeq1 (wpAny_loadPart')
theorem meets_enumerate_newT (l : Addr) (items : Array Value) (n : Nat) (dct : Option Addr) (sl : Array (Option Value)) :
    Meets (Builtin.«enumerate.__new__» ⟨[.type "enumerate", .ref l], []⟩) (fun _ R s => s.heap.get? l = some { cls := .type "tuple", dict := dct, data := .seq items n, slots := sl } ∧
      R (.ok (.ret (.ref (s.heap.push { cls := .type "tuple_iterator", data := .fields #[.ref l, .int 0 0] }).objs.size)))
        { s with heap := (s.heap.push { cls := .type "tuple_iterator", data := .fields #[.ref l, .int 0 0] }).push { cls := .type "enumerate", data := .fields #[.none, .bool false, .ref s.heap.objs.size, rawInt 0, .none, .none] } }) :=
  .of_wp fun prog w A R s h => by
    obtain ⟨hp, g, d, tk, os⟩ := s; obtain ⟨hl, h⟩ := h
    have hsub := sub_enumerate
    have hL : Heap.IsTuple (Shared.heap ⟨hp, g, d, tk, os⟩) l items := ⟨_, hl, rfl, n, rfl⟩
    wp_walk using wpAny_loadPart' hl
    refine wpAny_stack_any fun st => wpAny_pure ?_
    split
    · rename_i c _ _ _ _ _
      cases (c == Value.type "enumerate")
      · wp_walk using wpAny_loadPart' hl, wpAny_pyIter_tuple hL
        exact ⟨_, rfl, h⟩
      · wp_walk using wpAny_loadPart' hl, wpAny_pyIter_tuple hL
        exact ⟨_, rfl, h⟩
    · wp_walk using wpAny_loadPart' hl, wpAny_pyIter_tuple hL
      exact ⟨_, rfl, h⟩
section
variable {prog : Program} {w : World} {A : Around} {E : Value → Shared → Prop} {s : Shared}
theorem call_enumerate_tuple {l : Addr} {items : Array Value} {Q : Value → Shared → Prop} (hL : s.heap.IsTuple l items)
    (h : ∀ h', IsEnum h' (s.heap.objs.size + 1) s.heap.objs.size 0 .none → h'.IsTupleIter s.heap.objs.size l 0 → h'.objs.size = s.heap.objs.size + 2 →
      (∀ b o, s.heap.get? b = some o → h'.get? b = some o) → Q (.ref (s.heap.objs.size + 1)) { s with heap := h' }) :
    wpAny (model prog w) A (call (.type "enumerate") [.ref l]) Q E s := by
  obtain ⟨⟨c, dct, dt, sl⟩, hl, hc, n, hd⟩ := hL
  replace hc : c = .type "tuple" := hc
  replace hd : dt = .seq items n := hd
  subst hc hd
  refine callType_new F.called_enumerate (by decide) (F.typeCall_enumerate_1 _) (F.newCall_enumerate_1 _) (fun obj => F.args_object_init_2 obj _) F.entry_enumerate_new
    (meets_enumerate_newT l items n dct sl) ⟨hl, ?_⟩
  have hz : (s.heap.push { cls := .type "tuple_iterator", data := .fields #[.ref l, .int 0 0] }).objs.size = s.heap.objs.size + 1 := Heap.size_push ..
  show _ ∧ _
  rw [hz]
  have he : IsEnum ((s.heap.push { cls := .type "tuple_iterator", data := .fields #[.ref l, .int 0 0] }).push
      { cls := .type "enumerate", data := .fields #[.none, .bool false, .ref s.heap.objs.size, rawInt 0, .none, .none] }) (s.heap.objs.size + 1) s.heap.objs.size 0 .none := by
    have := Heap.get?_push_size (s.heap.push { cls := .type "tuple_iterator", data := .fields #[.ref l, .int 0 0] })
      (o := { cls := .type "enumerate", data := .fields #[.none, .bool false, .ref s.heap.objs.size, rawInt 0, .none, .none] }) rfl
    rw [hz] at this; exact this
  refine ⟨⟨_, he, rfl⟩, h _ he ⟨_, Heap.get?_push_of_some _ (Heap.get?_push_size _ rfl), rfl, rfl⟩ (by rw [Heap.size_push, hz]) fun b o x => Heap.get?_push_of_some _ (Heap.get?_push_of_some _ x)⟩
end
end PySem
namespace Z
open PySem PySem.Spec PyProof.Rows L2
/-- the tuple at a, each item in a new pair -/
def IteT (K : PySem.W.Frag) (a : Addr) : It :=
  ⟨fun i H => ∃ (xs : List V) (x : V), SqT K H a xs ∧ xs[i]? = some x, fun i H v H' => ∃ T x, v = .ref T ∧ H T = none ∧ H' = upd H T (.tup [.int (i : Nat), x]) ∧ ∀ xs, SqT K H a xs → xs[i]? = some x, fun i H => ∃ xs : List V, SqT K H a xs ∧ xs.length ≤ i⟩
theorem turn_enumT {P : Program} {w : World} {K : PySem.W.Frag} {elts : List Expr} {kk : Nat} {tpos : Pos} (a e it : Addr) :
    Turn P w K (.Tuple elts kk tpos) (IteT K a) [e, it] e (fun i h => (∃ old, IsEnum h e it ((i : Nat) : Int) old) ∧ h.IsTupleIter it a i ∧ e ≠ it) where
  mem := by simp
  obj := fun i h st b hb => by
    obtain ⟨⟨old, he⟩, ⟨o, ho, hc, hd⟩, _⟩ := st
    have e' : b = e ∨ b = it := by simpa using hb
    rcases e' with z | z
    · rw [z]; exact ⟨_, he, fun v q => nomatch q⟩
    · rw [z]; exact ⟨o, ho, fun v q => by rw [hd] at q; cases q⟩
  keep := fun i h h' st k => let ⟨⟨old, he⟩, hi, hne⟩ := st; ⟨⟨old, k e (by simp) _ he⟩, hi.at fun o q => k it (by simp) o q, hne⟩
  item := by
    intro X hP hw hK hc i pins s σ H E I hf st hg
    subst hP hw hK
    obtain ⟨⟨old, he⟩, hit, hne⟩ := st
    obtain ⟨xs, x, hq, hx⟩ := hg
    obtain ⟨its, rv, p, hz⟩ := I.tuple hq
    obtain ⟨u, hu, ru⟩ := rv.get hx
    have hel : e < s.heap.objs.size := Heap.lt_size he
    have hil : it < s.heap.objs.size := by obtain ⟨_, q, _⟩ := hit; exact Heap.lt_size q
    have pt : s.heap.IsTuple a its.toArray := p
    have hai : a ≠ it := by
      rintro rfl
      obtain ⟨o1, h1, c1, _⟩ := hit
      obtain ⟨o2, h2, c2, _⟩ := pt
      rw [h1] at h2
      cases h2
      rw [c1] at c2
      exact absurd (Value.type.inj c2) (by decide)
    have hea : e ≠ a := by
      rintro rfl
      obtain ⟨o2, h2, c2, _⟩ := pt
      rw [show s.heap.get? e = _ from he] at h2
      cases h2
      exact absurd (Value.type.inj c2) (by decide)
    have hil2 : i < its.toArray.size := by
      have := (List.getElem?_eq_some_iff.mp hu).1
      simpa using this
    refine wpAny_pyNext_enum_itemD (Draws.tuple (A := X.A.in1) (show X.A.in1.handled = none from I.ok.hd hc) it a hai its.toArray) he ⟨hit, pt⟩ hil2 hne (by simp [hne, hea]) fun x' h' tk hx' ho hit' hT hsz hk => ?_
    have ex : x' = u := by
      have h1 : its.toArray[i]? = some u := by simpa using hu
      rw [h1] at hx'
      exact (Option.some.inj hx').symm
    subst ex
    refine ⟨_, rfl, wpAny_letOwnedTupleGo_enum (s := { s with heap := h', toks := tk + 1 }) ho fun h'' he' sb => ?_⟩
    have hT2 : h''.get? s.heap.objs.size = some { cls := .type "tuple", data := .seq #[.int i tk, x'] } := (sb.2 _ (Nat.ne_of_gt hel)).trans hT
    have new : ObjOk X.prog X.w (upd H s.heap.objs.size (.tup [.int (i : Nat), x])) h'' s.heap.objs.size (.tup [.int (i : Nat), x]) :=
      ⟨by show 2 ≤ sizeLine; decide, [.int i tk, x'], .cons ⟨_, rfl⟩ (.cons ru .nil), ⟨_, hT2, rfl, _, rfl⟩⟩
    have I1 : Inv X pins σ (upd H s.heap.objs.size (.tup [.int (i : Nat), x])) { s with heap := h'', toks := tk + 1 } :=
      I.turnedNew (ch := [e, it]) (fun b ob hb q => (sb.2 b (fun z => hb (by simp [z]))).trans (hk b ob (fun z => hb (by simp [z])) (fun z => hb (by simp [z])) q)) hf (Nat.le_refl _) new
    refine ⟨.ref s.heap.objs.size, _, I1, rfl, ⟨_, x, rfl, I.hok.fresh (Nat.le_refl _), rfl, fun ys hy => by rw [I.tuple_inj hy hq]; exact hx⟩, ⟨⟨x', ?_⟩, hit'.1.at fun o q => (sb.2 it (Ne.symm hne)).trans q, hne⟩, fun b hb => ?_⟩
    · have e1 : ((i + 1 : Nat) : Int) = (i : Int) + 1 := by omega
      rw [e1]; exact he'
    · have hb' : b < s.heap.objs.size := by
        have e' : b = e ∨ b = it := by simpa using hb
        rcases e' with z | z
        · rw [z]; exact hel
        · rw [z]; exact hil
      rw [upd_ne (Nat.ne_of_lt hb')]
      exact (hf b hb).1
  done := by
    intro X hP hw hK hc i pins s σ H E I hf st hg
    subst hP hw hK
    obtain ⟨⟨old, he⟩, hit, hne⟩ := st
    obtain ⟨xs, hq, hx⟩ := hg
    obtain ⟨its, rv, p, hz⟩ := I.tuple hq
    obtain ⟨f0, f1, f2, f3, f4, f5⟩ := hf it (by simp)
    have hl := rv.length
    have pt : s.heap.IsTuple a its.toArray := p
    have hT : s.TypeIs (.ref e) "enumerate" := ⟨_, he, rfl⟩
    unfold pyNext
    refine wpAny_bind (wpAny_attempt (wpAny_callSpecial?_slot (name := Str.ofString "__next__") hT F.slot_enumerate_next
      (wpAny_call_entry F.slot_enumerate_next hT F.entry_enumerate_next ?_ (F.args_enumerate_next_1 _))))
    show wpAny _ _ (field (.ref e) 2 >>= _) _ _ _
    refine wpAny_bind (wpAny_field he rfl (x := .ref it) rfl ?_)
    refine wpAny_bind (wpAny_nextOf_tuple_end (I.ok.hd hc) hit pt (by simp; omega) fun h' x he' hx' => ?_)
    obtain ⟨o, ho, hc'⟩ := hx'
    refine wpAny_bind (wpAny_isInstance (T := "StopIteration") (b := true) ⟨o, ho, hc'⟩ isSubtype_stop ?_)
    exact wpAny_pure ⟨rfl, I.turned (t' := s.toks) (fun b o hb q => he' b o hb q) f0 f1 f3 f4 f5⟩
  self := fun A i s Q E st h => let ⟨⟨_, he⟩, _⟩ := st; wpAny_pyIter_enum he h
def iEnumT (K : PySem.W.Frag) (ta : TA) : TI := fun σ H R => ta σ H fun vs H1 => ∃ a xs, vs = [.ref a] ∧ SqT K H1 a xs ∧ R (IteT K a) H1
theorem pi_enumT {X : Cx} {e : Expr} {ta : TA} {p pos tpos : Pos} {elts : List Expr} {kk : Nat} (hg : Gl X "enumerate") (hm : X.mg "enumerate" = none) (ha : PA X [e] ta) (hs : starEach [e] X.env = [(false, eval e X.env)] := by rfl) :
    PI X (.Tuple elts kk tpos) (.Call (.Name "enumerate" p) [e] [] pos) (iEnumT X.K ta) := by
  refine ⟨fun pins s σ H R I h => ?_⟩
  refine Call_ (ld_blt I hg hm boot_enumerate (PyProof.Rows.callWith_type1 (thn (ha.run pos pins s σ H _ I h) fun us s1 ⟨vs, H1, I1, r1, q1⟩ => ?_) hs rfl))
  obtain ⟨a, xs, ex, hq, q⟩ := q1
  subst ex
  cases r1 with
  | cons r rr =>
    cases rr
    cases r
    obtain ⟨its, rv, p', hz⟩ := I1.tuple hq
    refine call_enumerate_tuple (show s1.heap.IsTuple a its.toArray from p') fun h' he hit hsz hk => wpAny_pyIter_enum he ?_
    have I2 : Inv X pins σ H1 { s1 with heap := h' } := I1.kept (t' := s1.toks) hk
    refine ⟨s1.heap.objs.size + 1, [s1.heap.objs.size + 1, s1.heap.objs.size], _, _, H1, rfl, I2, turn_enumT a (s1.heap.objs.size + 1) s1.heap.objs.size, ⟨⟨.none, he⟩, hit, Nat.succ_ne_self _⟩, fun b hb => ?_, q⟩
    have e' : b = s1.heap.objs.size + 1 ∨ b = s1.heap.objs.size := by simpa using hb
    have hle : s1.heap.objs.size ≤ b := by
      rcases e' with z | z
      · rw [z]; exact Nat.le_add_right _ _
      · rw [z]; exact Nat.le_refl _
    exact I1.fpOk hle (I1.hok.fresh hle)
/-- for k, x in enumerate(xs): the pairs are new -/
theorem for_enT {K : PySem.W.Frag} {σ : L2.St} {H : Hp} {g : TG} {tb : TS} {D : Ends} {ta : TA} {a : Addr} {xs : List V} (hta : ∀ R : List V → Hp → Prop, R [.ref a] H → ta σ H R) (Pv : Nat → L2.St → Hp → Prop) (h0 : Pv 0 σ H)
    (hst : ∀ i σ' H', Pv i σ' H' → SqT K H' a xs)
    (hs : ∀ i x σ H', xs[i]? = some x → Pv i σ H' → ∀ N : L2.St → Hp → Prop, (∀ σ' H2, Pv (i + 1) σ' H2 → N σ' H2) → ∀ T, H' T = none → g (.ref T) σ (upd H' T (.tup [.int (i : Nat), x])) fun σ2 H2 => tb { D with nx := N, ct := N, bk := D.nx } σ2 H2)
    (hd : ∀ σ' H', Pv xs.length σ' H' → D.nx σ' H') : tFor (iEnumT K ta) g tb D σ H := by
  refine hta _ ⟨a, xs, rfl, hst 0 σ H h0, ?_⟩
  refine ⟨fun i m σ H => m = xs.length - i ∧ i ≤ xs.length ∧ Pv i σ H, ⟨xs.length, by simp, Nat.zero_le _, h0⟩, ?_⟩
  rintro i m σ H ⟨rfl, hi, p⟩
  have q := hst i σ H p
  by_cases hlt : i < xs.length
  · refine .inr ⟨⟨xs, xs[i], q, by simp [hlt]⟩, Pv (i + 1), fun σ' H' p' => ⟨xs.length - (i + 1), by omega, rfl, hlt, p'⟩, fun x H' y => ?_⟩
    obtain ⟨T, z, rfl, hT, rfl, hz⟩ := y
    exact hs i z σ _ (hz xs q) p _ (fun _ _ h => h) T hT
  · have e : i = xs.length := by omega
    subst e
    exact .inl ⟨⟨xs, q, Nat.le_refl _⟩, hd σ H p⟩
/-- for k, x in enumerate(xs): the pairs are new -/
theorem for_enL {K : PySem.W.Frag} {σ : L2.St} {H : Hp} {g : TG} {tb : TS} {D : Ends} {ta : TA} {a : Addr} {xs : List V} (hta : ∀ R : List V → Hp → Prop, R [.ref a] H → ta σ H R) (Pv : Nat → L2.St → Hp → Prop) (h0 : Pv 0 σ H)
    (hst : ∀ i σ' H', Pv i σ' H' → SqL K H' a xs)
    (hs : ∀ i x σ H', xs[i]? = some x → Pv i σ H' → ∀ N : L2.St → Hp → Prop, (∀ σ' H2, Pv (i + 1) σ' H2 → N σ' H2) → ∀ T, H' T = none → g (.ref T) σ (upd H' T (.tup [.int (i : Nat), x])) fun σ2 H2 => tb { D with nx := N, ct := N, bk := D.nx } σ2 H2)
    (hd : ∀ σ' H', Pv xs.length σ' H' → D.nx σ' H') : tFor (iEnum K ta) g tb D σ H := by
  refine hta _ ⟨a, xs, rfl, hst 0 σ H h0, ?_⟩
  refine ⟨fun i m σ H => m = xs.length - i ∧ i ≤ xs.length ∧ Pv i σ H, ⟨xs.length, by simp, Nat.zero_le _, h0⟩, ?_⟩
  rintro i m σ H ⟨rfl, hi, p⟩
  have q := hst i σ H p
  by_cases hlt : i < xs.length
  · refine .inr ⟨⟨xs, xs[i], q, by simp [hlt]⟩, Pv (i + 1), fun σ' H' p' => ⟨xs.length - (i + 1), by omega, rfl, hlt, p'⟩, fun x H' y => ?_⟩
    obtain ⟨T, z, rfl, hT, rfl, hz⟩ := y
    exact hs i z σ _ (hz xs q) p _ (fun _ _ h => h) T hT
  · have e : i = xs.length := by omega
    subst e
    exact .inl ⟨⟨xs, q, Nat.le_refl _⟩, hd σ H p⟩
end Z

/-! len(set(xs)), xs a tuple of ints. -/
namespace Z
open PySem PySem.Spec PyProof.Rows L2
section
variable {X : Cx}
def tLenSetT (ta : TE) : TE := fun σ H Q => ta σ H fun x H1 => ∃ (l : Addr) (ns : List Int), x = V.ref l ∧ H1 l = some (.tup (ns.map V.int)) ∧ ns.length ≤ 1000 ∧ ∀ m : List Int, m.Nodup → (∀ k, k ∈ m ↔ k ∈ ns) → Q (.int (m.length : Nat)) H1
theorem pe_lenSetT {a : Expr} {ta : TE} {p p2 q pos : Pos} (hc : X.calm = true) (hg : Gl X "len") (hm : X.mg "len" = none) (hg2 : Gl X "set") (hm2 : X.mg "set" = none) (ha : PE X a ta)
    (na : starEach [a] X.env = (false, eval a X.env) :: starEach [] X.env := by rfl) : PE X (.Call (.Name "len" p) [.Call (.Name "set" p2) [a] [] q] [] pos) (tLenSetT ta) := by
  refine ⟨fun pins s σ H Q I h => ?_⟩
  refine Call_ (ld_blt I hg hm PySem.boot_len ?_)
  refine PyProof.Rows.callWith_builtin1 (PyProof.Rows.args_cons ?_ rfl) rfl rfl
  refine Call_ (ld_blt I hg2 hm2 PyProof.Rows.boot_set ?_)
  refine PyProof.Rows.callWith_type1 (PyProof.Rows.args_cons (thn (ha.run pins s σ H _ I h) fun v s1 ⟨x, H1, I1, r1, q1⟩ => PyProof.Rows.args_nil ?_) na) na rfl
  obtain ⟨l, ns, rfl, hq, h1, q1⟩ := q1
  cases r1
  obtain ⟨its, r, pl, hz⟩ := I1.tuple (SqT.of hq)
  refine call_set_tupI ns (I1.ok.hd hc) (show s1.heap.IsTuple l its.toArray from pl) (by simpa using r.ints) (by unfold scanBound; omega) fun h' tk c hS hc2 hk => ?_
  refine PyProof.Rows.args_nil ?_
  obtain ⟨o, es, ep, t, ho, hex, hd, _, hnd, hmem, hsz, hf, hn, _⟩ := hS
  have I2 : Inv X pins σ H1 { s1 with heap := h', toks := tk } := I1.kept fun b o e => hk b o e
  have hq2 := q1 (es.toList.map keyOf) hnd fun k => by
    rw [← hmem k, decide_eq_true_eq]
  rw [List.length_map, Array.length_toList] at hq2
  exact call_len_set ho hex hd hf (by rw [hn]; omega) ⟨.int es.size, H1, I2.tok _, ⟨_, rfl⟩, hq2⟩
end
end Z
namespace Z
open PySem PySem.Spec PyProof.Rows L2
theorem eqv_pair (a b c d : Int) : PyData.eqv (.tuple [.int a, .int b]) (.tuple [.int c, .int d]) = decide ((a, b) = (c, d)) := by
  simp [PyData.eqv, PyData.eqvAll, Prod.mk.injEq, Bool.decide_and, Bool.beq_eq_decide_eq]
theorem any_pairs (p : Int × Int) : ∀ qs : List (Int × Int), (tupsD (qs.map twoL)).any (fun z => PyData.eqv z (.tuple ((twoL p).map PyData.int))) = decide (p ∈ qs)
  | [] => rfl
  | q :: r => by
    have ih := any_pairs p r
    have e : PyData.eqv (.tuple ((twoL q).map PyData.int)) (.tuple ((twoL p).map PyData.int)) = decide (q = p) := eqv_pair q.1 q.2 p.1 p.2
    show (PyData.eqv (.tuple ((twoL q).map PyData.int)) (.tuple ((twoL p).map PyData.int)) || (tupsD (r.map twoL)).any fun z => PyData.eqv z (.tuple ((twoL p).map PyData.int))) = _
    rw [e, ih]
    by_cases c : q = p
    · rw [c]
      simp
    · have c2 : ¬ p = q := fun z => c z.symm
      simp [c, c2]
/-- a pair in a list of pairs -/
def rInPr (neg : Bool) : R2 := fun x y H Q => ∃ (t l : Addr) (p : Int × Int) (as : List Addr) (qs : List (Int × Int)), x = .ref t ∧ y = .ref l ∧ PairAt H t p ∧ H l = some (.lst (as.map V.ref)) ∧ Paired (PairAt H) as qs ∧ Q (.bl (if neg then !decide (p ∈ qs) else decide (p ∈ qs))) H
section
variable {X : Cx}
theorem op_inPr (hu : X.A.units + 65 < cLine) : OpR X (compareOp .In) (rInPr false) := by
  intro pins s σ H x y v u Q I rx ry h
  obtain ⟨t, l, p, as, qs, rfl, rfl, hp, hl, pq, q⟩ := h
  refine op_inD hu pins s σ H _ _ v u Q I rx ry ⟨.tuple ((twoL p).map PyData.int), tupsD (qs.map twoL), .tup (SqT.of hp) (dpAll_ints (twoL p)), .lst (SqL.of hl) (dpAll_tups (prs_tups pq)), shaped_tup _, shaped_ltups _, ?_⟩
  rw [any_pairs]
  exact q
theorem op_notInPr (hu : X.A.units + 65 < cLine) : OpR X (compareOp .NotIn) (rInPr true) := by
  intro pins s σ H x y v u Q I rx ry h
  obtain ⟨t, l, p, as, qs, rfl, rfl, hp, hl, pq, q⟩ := h
  refine op_notInD hu pins s σ H _ _ v u Q I rx ry ⟨.tuple ((twoL p).map PyData.int), tupsD (qs.map twoL), .tup (SqT.of hp) (dpAll_ints (twoL p)), .lst (SqL.of hl) (dpAll_tups (prs_tups pq)), shaped_tup _, shaped_ltups _, ?_⟩
  rw [any_pairs]
  exact q
end
theorem room65 {k : Nat} {A : Around} (r : Room k A) : A.units + 65 < cLine := by
  have := r.un
  omega
end Z

/-! A tuple's first two turned round, a tuple held against an empty one, a list taken apart, an item taken out. -/
namespace HT
open PySem PySem.Spec PyProof.Rows
section
variable {prog : Program} {w : World} {A : Around} {E : Value → Shared → Prop} {s : Shared}
theorem sliceApplied_back {sl : Addr} {vl vu vs : Value} {n : Nat} {Q : Int × Int × Nat → Shared → Prop} (hs : s.heap.IsSliceOf sl vl vu vs) (pl : IsPart vl (some 1)) (pu : IsPart vu none) (ps : IsPart vs (some (-1))) (hn : 2 ≤ n)
    (h : Q (1, -1, 2) s) : wpAny (model prog w) A (Builtin.Slice.sliceApplied (.ref sl) (pure (n : Int))) Q E s := by
  obtain ⟨os, hos, hcs, hds⟩ := id hs
  unfold Builtin.Slice.sliceApplied Builtin.Slice.sliceFields
  refine wpAny_bind (wpAny_bind (wpAny_field hos hds (x := vl) rfl (wpAny_bind (wpAny_field hos hds (x := vu) rfl (wpAny_bind (wpAny_field hos hds (x := vs) rfl (wpAny_pure ?_)))))))
  refine wpAny_bind (slicePart_ ps ?_)
  show wpAny _ _ (if ((-1 : Int) == 0) = true then _ else _) _ _ s
  rw [if_neg (by decide)]
  refine wpAny_bind (slicePart_ pl (wpAny_bind (slicePart_ pu (wpAny_bind (wpAny_pure ?_)))))
  show wpAny _ _ (match Builtin.Slice.sliceAdjust (some 1) none (-1) (n : Int) with | (lo, hi) => pure (lo, (-1 : Int), Builtin.Slice.slicePlaces lo hi (-1))) _ _ s
  have e : Builtin.Slice.sliceAdjust (some 1) none (-1) (n : Int) = (1, -1) := by
    unfold Builtin.Slice.sliceAdjust
    have h1 : min (1 : Int) ((n : Int) - 1) = 1 := by omega
    simp [h1]
  rw [e]
  exact wpAny_pure h
theorem getItem_tuple_back {t sl : Addr} {items : Array Value} {x y : Value} {vl vu vs : Value} {Q : Value → Shared → Prop} (ht : IsTup s.heap t items) (hs : s.heap.IsSliceOf sl vl vu vs) (pl : IsPart vl (some 1)) (pu : IsPart vu none) (ps : IsPart vs (some (-1)))
    (hx : items[0]? = some x) (hy : items[1]? = some y)
    (h : Q (.ref s.heap.objs.size) { s with heap := s.heap.push { cls := .type "tuple", data := .seq #[y, x] } }) : wpAny (model prog w) A (getItem (.ref t) (.ref sl)) Q E s := by
  have hsz : 2 ≤ items.size := by
    have := (Array.getElem?_eq_some_iff.mp hy).1
    omega
  have htake : sizeOk (.seq #[y, x]) := by
    show (#[y, x]).size ≤ sizeLine
    rw [sizeLine_eq]
    show 2 ≤ 16777216
    decide
  obtain ⟨os, hos, hcs, hds⟩ := id hs
  have hTs : s.TypeIs (.ref sl) "slice" := ⟨os, hos, hcs⟩
  unfold getItem
  try with_reducible refine wpAny_holding ?_
  first | refine wpAny_bind (wpAny_pure ?_) | skip
  refine wpAny_bind (wpAny_sequenceKey ht.typeIs (by decide) ?_)
  refine wpAny_bind (wpAny_callSpecial?_slot (name := Str.ofString "__getitem__") ht.typeIs PyProof.Rows.slot_tuple_getitem
    (wpAny_call_entry PyProof.Rows.slot_tuple_getitem ht.typeIs entry_tuple_getitem ?_ (args_tuple_getitem _ _)))
  show wpAny _ _ (Builtin.Tuple.tupleItemsOf (.ref t) >>= _) _ _ s
  refine wpAny_bind (tupleItemsOf_ ht ?_)
  refine wpAny_bind (wpAny_typeOf hTs ?_)
  rw [if_pos (by decide)]
  refine wpAny_bind (sliceApplied_back hs pl pu ps hsz ?_)
  show wpAny _ _ (if ((1 : Int) == 0 && (-1 : Int) == 1 && 2 == items.size) = true then _ else _) _ _ s
  rw [if_neg (by
    rw [show ((1 : Int) == 0) = false from rfl, Bool.false_and, Bool.false_and]
    exact Bool.false_ne_true)]
  have e : ((List.range 2).filterMap fun (m : Nat) => items[((1 : Int) + (m : Int) * (-1)).toNat]?).toArray = #[y, x] := by
    show ([0, 1].filterMap fun (m : Nat) => items[((1 : Int) + (m : Int) * (-1)).toNat]?).toArray = _
    have e0 : items[((1 : Int) + ((0 : Nat) : Int) * (-1)).toNat]? = some y := hy
    have e1 : items[((1 : Int) + ((1 : Nat) : Int) * (-1)).toNat]? = some x := hx
    simp only [List.filterMap_cons, List.filterMap_nil, e0, e1]
  rw [e]
  first
    | exact wpAny_bind (m := Builtin.Tuple.tupleExact _) (wpAny_newObj_type (wpAny_pure ⟨_, rfl, wpAny_pure h⟩) htake)
    | exact wpAny_bind (m := Builtin.Tuple.tupleExact _) (wpAny_newObj_type (wpAny_bind (wpAny_pure (wpAny_pure ⟨_, rfl, wpAny_pure h⟩))) htake)
    | exact wpAny_bind (wpAny_bind (m := Builtin.Tuple.tupleExact _) (wpAny_newObj_type (wpAny_pure (wpAny_pure ⟨_, rfl, wpAny_pure h⟩)) htake))
    | exact wpAny_bind (wpAny_bind (m := Builtin.Tuple.tupleExact _) (wpAny_newObj_type (wpAny_pure ⟨_, rfl, wpAny_pure h⟩) htake))
end
end HT
namespace Z
open PySem PySem.Spec PyProof.Rows L2
section
variable {X : Cx}
/-- t[1::-1], t of two and more -/
def tBackT (te : TE) : TE := fun σ H Q => te σ H fun x H1 => ∃ a y z r, x = .ref a ∧ H1 a = some (.tup (y :: z :: r)) ∧ ∀ p, H1 p = none → Q (.ref p) (upd H1 p (.tup [z, y]))
theorem pe_backT {e : Expr} {te : TE} {k k0 : Nat} {p0 p1 p2 p3 pos : Pos} (he : PE X e te) : PE X (.Subscript e (.Slice (some (.Constant (.int 1) k0 p0)) none (some (.UnaryOp .USub (.Constant (.int 1) k p1) p2)) p3) pos) (tBackT te) := by
  refine ⟨fun pins s σ H Q I h => ?_⟩
  refine Subscript_ (thn (he.run pins s σ H _ I h) fun v s1 ⟨x, H1, I1, r1, q1⟩ => ?_)
  obtain ⟨a, y, z, r, ex, hx, q⟩ := q1
  subst ex
  cases r1
  have hst : PO X (some (.UnaryOp .USub (.Constant (.int 1) k p1) p2)) (tPart (tUn (rU fun i => .int (-i)) (tC (.int 1)))) := po_some (pe_un un_neg pe_int)
  have hlo : PO X (some (.Constant (.int 1) k0 p0)) (tPart (tC (.int 1))) := po_some pe_int
  refine wpAny_Slice (thn (hlo.run pins s1 σ H1 (fun o H2 => o = some 1 ∧ H2 = H1) I1 ⟨1, rfl, rfl, rfl⟩) fun vl s2 ⟨l, H2, I2, pl, el, e2⟩ => ?_)
  subst el e2
  refine thn (po_none.run pins s2 σ H2 (fun o H3 => o = none ∧ H3 = H2) I2 ⟨rfl, rfl⟩) fun vu s3 ⟨u, H3, I3, pu, eu, e3⟩ => ?_
  subst eu e3
  refine thn (hst.run pins s3 σ H3 (fun o H4 => o = some (-1) ∧ H4 = H3) I3 ⟨1, rfl, -1, rfl, rfl, rfl⟩) fun vs s4 ⟨o, H4, I4, ps, eo, e4⟩ => ?_
  subst eo e4
  have I5 : Inv X pins σ H4 { s4 with heap := s4.heap.push { cls := .type "slice", data := .fields #[vl, vu, vs] } } := I4.kept (t' := s4.toks) fun b ob q => Heap.get?_push_of_some _ q
  obtain ⟨its, rv, ht, hz⟩ := I5.tuple (SqT.of hx)
  cases rv with
  | cons ra rr =>
    cases rr with
    | cons rb rc =>
      show wpAny (model X.prog X.w) X.A (subscriptTail e (.Slice (some (.Constant (.int 1) k0 p0)) none (some (.UnaryOp .USub (.Constant (.int 1) k p1) p2)) p3) (.ref a) (.ref s4.heap.objs.size)) (EP X pins σ Q) X.xe { s4 with heap := s4.heap.push { cls := .type "slice", data := .fields #[vl, vu, vs] } }
      refine tail_any (ops := [.ref a, .ref s4.heap.objs.size]) ht.typeIs PyProof.Rows.slot_tuple_getitem.lookup ?_ (by with_unfolding_all rfl)
      refine HT.getItem_tuple_back ht (Heap.IsSliceOf.new _ vl vu vs) pl pu ps rfl rfl ?_
      refine ⟨.ref _, _, I5.laid (t' := s4.toks) (o := .tup [z, y]) (fun b ob q => Heap.get?_push_of_some _ q) (Nat.le_refl _) ?_, rfl, q _ (I5.hok.fresh (Nat.le_refl _))⟩
      exact ⟨by rw [sizeLine_eq]; show 2 ≤ 16777216; decide, _, .cons rb (.cons ra .nil), IsTup.new _ _⟩
/-- t == () -/
def rEqT0 : R2 := fun x y H Q => ∃ a b xs, x = .ref a ∧ y = .ref b ∧ H a = some (.tup xs) ∧ H b = some (.tup []) ∧ Q (.bl xs.isEmpty) H
theorem op_eqT0 (hu : X.A.units + 64 < cLine) : OpR X (compareOp .Eq) rEqT0 := by
  intro pins s σ H x y v u Q I rx ry h
  obtain ⟨a, b, xs, rfl, rfl, ha, hb, q⟩ := h
  cases rx
  cases ry
  obtain ⟨its, r1, p1, _⟩ := I.tuple (SqT.of ha)
  obtain ⟨its2, r2, p2, _⟩ := I.tuple (SqT.of hb)
  cases r2
  refine PySem.SeqAt.eq_tupleAt (e := fun _ => true) p1 p2 (by omega) (fun j h1 h2 => absurd h2 (Nat.not_lt_zero j)) ?_
  refine ⟨.bl xs.isEmpty, H, I, ?_, q⟩
  have hl := r1.length
  cases xs with
  | nil =>
    cases r1
    rfl
  | cons y r =>
    cases r1
    rfl
/-- a, b = a tracked list -/
def gLstH (n : Nat) (t : TGs) : TG := fun v σ H Q => ∃ a xs, v = .ref a ∧ H a = some (.lst xs) ∧ xs.length = n ∧ t xs σ H Q
theorem pg_lstH {es : List Expr} {k : Nat} {pos : Pos} {t : TGs} {n : Nat} (hc : X.calm = true) (h : PGs X es t)
    (hn : (assignEach es X.env).length = n := by rfl) (hst : (assignEach es X.env).findIdx? (·.1) = none := by rfl) : PG X (.Tuple es k pos) (gLstH n t) := by
  refine ⟨fun pins s σ H v u Q I r hw => (pg_lst hc h hn hst).run pins s σ H v u Q I r ?_⟩
  obtain ⟨a, xs, e1, hq, hl, hw⟩ := hw
  exact ⟨a, xs, e1, SqL.of hq, hl, hw⟩
/-- xs.pop(i), i a place of xs -/
def rPopH : V → List V → Hp → VK → Prop := fun x vs H Q => ∃ l xs i y, x = .ref l ∧ vs = [.int i] ∧ H l = some (.lst xs) ∧ 0 ≤ i ∧ i < 2 ^ 62 ∧ xs[i.toNat]? = some y ∧ Q y (upd H l (.lst (xs.eraseIdx i.toNat)))
theorem mt_popH : MtM X "list.pop" rPopH := by
  intro pins s σ H x vs v us Q I r1 r2 h
  obtain ⟨l, xs, i, y, rfl, rfl, hl, h0, h1, hy, q⟩ := h
  have hlt : i.toNat < xs.length := (List.getElem?_eq_some_iff.mp hy).1
  refine mt_popAt pins s σ H _ _ v us Q I r1 r2 ⟨l, xs, i, i.toNat, y, rfl, rfl, hl, by omega, by omega, ?_, hy, q⟩
  show (if (0 ≤ (if i < 0 then i + (xs.length : Int) else i) && (if i < 0 then i + (xs.length : Int) else i) < (xs.length : Int)) = true then some (if i < 0 then i + (xs.length : Int) else i).toNat else none) = _
  have e : (if i < 0 then i + (xs.length : Int) else i) = i := if_neg (by omega)
  rw [e, if_pos (by rw [Bool.and_eq_true]; exact ⟨decide_eq_true h0, decide_eq_true (by omega)⟩)]
end
/-- a list of pairs held against an empty list -/
theorem ne_prs_nil {K : PySem.W.Frag} {H : Hp} {a b : Addr} {as : List Addr} {ps : List (Int × Int)} {Q : VK} (ha : H a = some (.lst (as.map V.ref))) (pa : Paired (PairAt H) as ps) (hb : H b = some (.lst [])) (q : Q (.bl (!ps.isEmpty)) H) : rNeD K (.ref a) (.ref b) H Q := by
  refine ⟨.list (tupsD (ps.map twoL)), .list [], .lst (SqL.of ha) (dpAll_tups (prs_tups pa)), .lst (SqL.of hb) .nil, shaped_ltups _, shaped_ltups [], ?_⟩
  cases ps with
  | nil => exact q
  | cons p r => exact q
end Z

/-! Texts walked in a comprehension. -/
namespace Z
open PySem PySem.Spec PyProof.Rows L2
section
variable {σ : L2.St}
def signs (z : Str) : List V := z.cps.toList.map fun c => V.str ⟨#[c]⟩
theorem lc_mapS {z : Str} {g : TG} {tt : TT} {te : TE} {vs : List Nat} {H H1 : Hp} {tl : TE} {Q : VK} (f : V → Option V) (htl : ∀ R : VK, R (.str z) H1 → tl σ H R) (hz : z.cps.size ≤ 1000)
    (hs : ∀ x ∈ signs z, ∀ H, Same H1 H → Turn1 g tt te vs σ H x (f x))
    (hd : ∀ D H', H1 D = none → Same H1 H' → H' D = some (.lst ((signs z).filterMap f)) → Q (.ref D) H') : tLc (iStr tl) g tt te vs σ H Q := by
  have hl : (signs z).length = z.cps.size := by
    unfold signs
    rw [List.length_map, Array.length_toList]
  refine htl _ ⟨z, rfl, fun D hD => ?_⟩
  refine lc_it walk_str (Acc H1 f (signs z) D) (acc_start hD) (fun _ _ _ _ => trivial) (fun i x H H' hi p y => ?_) fun H p => ?_
  · obtain ⟨rfl, c, hc, rfl⟩ := y
    have hg : (signs z)[i]? = some (.str ⟨#[c]⟩) := by
      unfold signs
      rw [List.getElem?_map, Array.getElem?_toList, hc]
      rfl
    exact acc_turn hD (by rw [hl]; exact hz) hg p (hs _ (List.mem_of_getElem? hg) H' p.1)
  · have e := p.2
    rw [show z.cps.size = (signs z).length from hl.symm, List.take_length] at e
    exact hd D H hD p.1 e
end
end Z

/-! Classes of the program: where they stand, their methods with their promises. -/
namespace Z
open PySem PySem.Spec PyProof.Rows L2
/-- the address that the module tells for a class -/
def clsA (mg : Str → Option Value) (x : Str) : Addr := match mg x with
  | some (.ref a) => a
  | _ => 0
theorem clsA_of {mg : Str → Option Value} {x : Str} {a : Addr} (h : mg x = some (.ref a)) : clsA mg x = a := by
  unfold clsA
  rw [h]
/-- a class as the top has made it -/
structure ClsT (K : PySem.W.Frag) (mg : Str → Option Value) (x : Str) : Prop where
  at_ : mg x = some (.ref (clsA mg x))
  cl : Cls K (clsA mg x)
  makes : PySem.W.makesIn K (clsA mg x) = true
  kp : PySem.W.keepIn K (.ref (clsA mg x)) = true
theorem ClsT.of {K : PySem.W.Frag} {mg : Str → Option Value} {x : Str} {a : Addr} (h : mg x = some (.ref a)) (cl : Cls K a) (mk : PySem.W.makesIn K a = true) (kp : PySem.W.keepIn K (.ref a) = true) : ClsT K mg x := by
  have e := clsA_of h
  exact ⟨by rw [e]; exact h, by rw [e]; exact cl, by rw [e]; exact mk, by rw [e]; exact kp⟩
/-- its method m stands at the def st -/
def MethT (K : PySem.W.Frag) (mg : Str → Option Value) (x m qual : Str) (st : Stmt) : Prop := ∃ f fd, Fun K m qual st f fd ∧ Meth K (clsA mg x) m f
theorem MethT.of {K : PySem.W.Frag} {mg : Str → Option Value} {x m qual : Str} {st : Stmt} {a f : Addr} {fd : FuncData} (h : mg x = some (.ref a)) (F : Fun K m qual st f fd) (M : Meth K a m f) : MethT K mg x m qual st := by
  have e := clsA_of h
  exact ⟨f, fd, F, by rw [e]; exact M⟩
def NoAt (K : PySem.W.Frag) (mg : Str → Option Value) (x f : Str) : Prop := NoAttr K (clsA mg x) f
theorem NoAt.of {K : PySem.W.Frag} {mg : Str → Option Value} {x f : Str} {a : Addr} (h : mg x = some (.ref a)) (n : PySem.W.findIn K (.ref a) f = some none) : NoAt K mg x f := by
  have e := clsA_of h
  unfold NoAt
  rw [e]
  exact n
/-- it stands there and keeps its promise -/
structure HdM (P : Program) (w : World) (K : PySem.W.Frag) (mg : Str → Option Value) (base : Heap) (CX : CXT) (k : Nat) (x m qual : Str) (st : Stmt) (ps : List Str) (sp : Sp) : Prop where
  ex : ∃ f fd, Fun K m qual st f fd ∧ Meth K (clsA mg x) m f ∧ FnOk P w K mg base CX k f fd ps sp
  bd : Bd m st ps
section
variable {X : Cx} {CX : CXT} {k : Nat} {st : Stmt} {ps : List Str} {sp : Sp} {E : XK} {x m qual : Str} {p apos pos : Pos} {o e : Expr} {es : List Expr} {t : TA} {ta : TE}
theorem pe_hdm {pl : Sem Bool} (h : HdM X.prog X.w X.K X.mg X.base CX k x m qual st ps sp) (c : ClsT X.K X.mg x) (hr : Room k X.A) (hx : Passes CX X E) (he : PE X o ta) (ha : PA X (e :: es) t)
    (hst : starEach (e :: es) X.env = (false, eval e X.env) :: starEach es X.env := by rfl) (hpl : (backTo pos (starEach es X.env)).any (·.1) = false := by rfl)
    (ht : eval (.Call (.Attribute o m apos) (e :: es) [] pos) X.env = (do
      let ov ← eval o X.env
      standAt apos.atName
      let (f, first) ← holding [ov] (getMethod ov m pl)
      callWith pos f first (backTo pos (starEach (e :: es) X.env)) (backToKw pos (keywordEach [] X.env))) := by rfl) :
    PE X (.Call (.Attribute o m apos) (e :: es) [] pos) (tMeth (clsA X.mg x) m sp [] E ta t) := by
  obtain ⟨f, fd, F, M, G⟩ := h.ex
  exact pe_meth he c.cl M G hr (F.binds (h.bd qual)) .nil hx ha hst hpl ht
theorem pe_hdm0 {pl : Sem Bool} (h : HdM X.prog X.w X.K X.mg X.base CX k x m qual st ps sp) (c : ClsT X.K X.mg x) (hr : Room k X.A) (hx : Passes CX X E) (he : PE X o ta)
    (ht : eval (.Call (.Attribute o m apos) [] [] pos) X.env = (do
      let ov ← eval o X.env
      standAt apos.atName
      let (f, first) ← holding [ov] (getMethod ov m pl)
      callWith pos f first (backTo pos (starEach [] X.env)) (backToKw pos (keywordEach [] X.env))) := by rfl) :
    PE X (.Call (.Attribute o m apos) [] [] pos) (tMeth (clsA X.mg x) m sp [] E ta tNil) := by
  obtain ⟨f, fd, F, M, G⟩ := h.ex
  exact pe_meth0 he c.cl M G hr (F.binds (h.bd qual)) .nil hx ht
theorem pe_mkm (h : HdM X.prog X.w X.K X.mg X.base CX k x "__init__" qual st ps sp) (c : ClsT X.K X.mg x) (hr : Room (k + 1) X.A) (hg : Gl X x) (hx : Passes CX X E) (ha : PA X (e :: es) t)
    (hdb : (x == ("__debug__" : Str)) = false := by decide) (he : starEach (e :: es) X.env = (false, eval e X.env) :: starEach es X.env := by rfl) (hpl : (backTo pos (starEach es X.env)).any (·.1) = false := by rfl) :
    PE X (.Call (.Name x p) (e :: es) [] pos) (tMake (clsA X.mg x) sp [] E t) := by
  obtain ⟨f, fd, F, M, G⟩ := h.ex
  exact pe_make ⟨c.makes, M.at_, M.fn, c.kp⟩ G hr hg c.at_ (F.binds (h.bd qual)) .nil hx ha hdb he hpl
theorem pe_mkm0 (h : HdM X.prog X.w X.K X.mg X.base CX k x "__init__" qual st ps sp) (c : ClsT X.K X.mg x) (hr : Room (k + 1) X.A) (hg : Gl X x) (hx : Passes CX X E)
    (hdb : (x == ("__debug__" : Str)) = false := by decide) : PE X (.Call (.Name x p) [] [] pos) (tMake (clsA X.mg x) sp [] E tNil) := by
  obtain ⟨f, fd, F, M, G⟩ := h.ex
  exact pe_make0 ⟨c.makes, M.at_, M.fn, c.kp⟩ G hr hg c.at_ (F.binds (h.bd qual)) .nil hx hdb
/-- o.f = .., among several targets -/
def gFldT (K : PySem.W.Frag) (ta : TE) (f : Str) : TG := fun y σ H Q => ta σ H fun x H2 => ∃ a C dx fs, x = .ref a ∧ H2 a = some (.ins C dx fs) ∧ Cls K C ∧ NoAttr K C f ∧ fs.length < 1000 ∧ Q σ (upd H2 a (.ins C dx (putF f y fs)))
theorem pg_fldT {f : Str} (ho : PE X o ta)
    (has : ∀ v, assign (.Attribute o f pos) X.env v = (do
      let ov ← holding [v] (eval o X.env)
      standAt pos.atName
      holding [v, ov] (setAttr ov f v)
      release [v, ov] []) := by intro _; rfl) : PG X (.Attribute o f pos) (gFldT X.K ta f) := by
  refine ⟨fun pins s σ H v u Q I r h => ?_⟩
  rw [has]
  refine wpAny_bind (wpAny_holding (thn (ho.run pins s σ H _ I h) fun ov s1 ⟨x, H1, I1, r1, a, C, dx, fs, ex, ea, c, n, l, q⟩ => ?_))
  subst ex
  obtain rfl : ov = Value.ref a := r1
  refine wpAny_bind (wpAny_standAt (wpAny_bind (wpAny_holding (setattr_ok I1 ea c n l r fun s3 I3 => ?_))))
  exact wpAny_release ⟨σ, _, I3, q⟩
end
end Z

/-! Own exceptions whose __init__ says super().__init__() and stores its arguments. -/
namespace ZX
open PySem PySem.W PySem.Calls PyProof.Rows
/-- one of three bases -/
structure BaseW (B newId initId : String) (bmB : List Value) : Prop where
  fb : ExcBaseFacts B newId initId bmB
  kx : KxsFacts B initId
  st : StoreFacts B bmB "object.__setattr__" "object"
theorem baseVE : BaseW "ValueError" "ValueError.__new__" "ValueError.__init__" [.type "ValueError", .type "Exception", .type "BaseException", .type "object"] := ⟨F.excBase_ValueError, kxs_ValueError, F.store_ValueError⟩
theorem baseLE : BaseW "LookupError" "LookupError.__new__" "LookupError.__init__" [.type "LookupError", .type "Exception", .type "BaseException", .type "object"] := ⟨F.excBase_LookupError, kxs_LookupError, F.store_LookupError⟩
theorem baseAE : BaseW "ArithmeticError" "ArithmeticError.__new__" "ArithmeticError.__init__" [.type "ArithmeticError", .type "Exception", .type "BaseException", .type "object"] := ⟨F.excBase_ArithmeticError, kxs_ArithmeticError, F.store_ArithmeticError⟩
/-- super().__init__() -/
def superSt (a0 a1 a2 a3 a4 : Pos) : Stmt := .Expr (.Call (.Attribute (.Call (.Name "super" a0) [] [] a1) "__init__" a2) [] [] a3) a4
/-- self.f = f -/
def setSt (f : Str) (b0 b1 b2 b3 : Pos) : Stmt := .Assign [.Attribute (.Name "self" b0) f b1] (.Name f b2) b3
/-- how the row of super() is read, at these places -/
def SupOk (a0 a1 a2 a3 : Pos) : Prop := ∀ env : Env, ∃ pl : Sem Bool, eval (.Call (.Attribute (.Call (.Name "super" a0) [] [] a1) "__init__" a2) [] [] a3) env = (do
      let so ← attributeBase (.Call (.Name "super" a0) [] [] a1) "__init__" env (eval (.Call (.Name "super" a0) [] [] a1) env)
      standAt a2.atName
      let (f, first) ← holding [so] (getMethod so "__init__" pl)
      callWith a3 f first (backTo a3 (starEach [] env)) [])
abbrev exSc (ns : List (Str × NameKind)) : Scope := { kind := .function, names := ns, isGenerator := false, isCoroutine := false, more := [] }
/-- the class and its __init__, as the top has made them -/
structure ExW (prog : Program) (K : Frag) (B newId initId : String) (bmB : List Value) (C : Addr) (params : Arguments) (body : List Stmt) (scope : Scope) (fI : Addr) : Prop where
  base : BaseW B newId initId bmB
  made : excInitIn K C bmB newId = true
  over : excOver K C bmB = true
  iC : findIn K (.ref C) "__init__" = some (some (.ref fI))
  tI : typeIn K (.ref fI) = some (.type "function")
  fn : ∃ (oc : Value) (od : Option Addr) (qual : Str) (kV doc pm : Value) (an : Option Addr) (ct : Value) (osl : Array (Option Value)) (cc cda : Addr) (ccl : Value) (cdd : Option Addr) (vs : Array Value) (ccs : Array (Option Value)) (file : Str) (tf : Tok) (cl : Value) (cld : Option Addr) (csl : Array (Option Value)),
    K.lookup fI = some ⟨oc, od, .func (ksFn "__init__" qual params body scope .none kV doc pm an (.ref cda) ct cc), osl⟩ ∧ codeIn K (.ref cda) qual = true ∧
    K.lookup cda = some ⟨ccl, cdd, .fields vs, ccs⟩ ∧ vs[2]? = some (.str file tf) ∧ ((prog.main.file : Str) == file) = true ∧ K.lookup cc = some ⟨cl, cld, .cell (some (.ref C)), csl⟩
  sub : mroIn K C (.ref C) = some true
  sup : ks_superIn K C C "__init__" = some (some (.builtin initId))
  call : specialIn K (.ref C) "__call__" = some (some (.builtin "type.__call__"))
  inT : instIn K (.ref C) (.type "type") = some true
  subB : subIn K (.ref C) (.type B) = some true
  top : (prog.main.scope.names.lookup ("super" : Str)).isSome = false
  op : nsIn K cStatics "thirdparty.any" = some none
  sa : findIn K (.ref C) "__setattr__" = some (some (.builtin "object.__setattr__"))
  hd : hasDictIn K C = true
theorem news_sub {g h : Heap} {L : Addr} {a b : List (Addr × Obj)} (N : News g L h a) (s : ∀ p ∈ b, p ∈ a) : News g L h b := fun p hp => N p (s p hp)
section
variable {prog : Program} {w : World} {A : Around} {R : Result → Shared → Prop} {s : Shared} {K : Frag} {mg mb : Str → Option Value} {B newId initId : String} {bmB : List Value} {C fI x t0 : Addr} {params : Arguments} {rest : List Stmt} {ns : List (Str × NameKind)} {a0 a1 a2 a3 a4 : Pos}
/-- __init__ is entered, super().__init__() done -/
theorem ex_enter (T : ExW prog K B newId initId bmB C params (superSt a0 a1 a2 a3 a4 :: rest) (exSc ns) fI) (X : K.In s.heap) (hlim : s.heap.NoLimit) (hx : s.heap.get? x = some (excObj C t0 none .none)) (hnx : K.lookup x = none) (hroom : A.depth < recursionLimit)
    (hsup : SupOk a0 a1 a2 a3) (hG : s.heap.Ns mainGlobals mg) (hB : s.heap.Ns builtinsNs mb) (hsg : mg "super" = none) (hsb : mb "super" = some (.type "super"))
    {args : Args} {bs : List (Str × Value)} (hbind : ∀ fd : FuncData, fd.params = params → fd.name = "__init__" → fd.defaults = .none → BindsTo s fd args (("self", .ref x) :: bs))
    (hp : (params.posonlyargs ++ params.args).head?.map (·.arg) = some "self") (hself : ((("self" : Str), Value.ref x) :: bs).reverse.lookup ("self" : Str) = some (.ref x))
    (hloc : ∀ y ∈ (("self" : Str), Value.ref x) :: bs, ns.lookup y.1 = some .local)
    (hks : ns.lookup ("super" : Str) = some .globalImplicit) (hkc : ns.lookup ("__class__" : Str) = some .free) (hka : ns.lookup ("self" : Str) = some .local)
    (hcell : ∀ y ∈ ns, y.2 ≠ .cell)
    (h : ∀ (g h' : Heap) (L t' : Addr) (tk : Tok) (qual : Str) (cda cc : Addr) (E : Value → Shared → Prop), Fr g L h' (fun y => ((("self" : Str), Value.ref x) :: bs).reverse.lookup y) → News g L h' [(x, excObj C t' none .none)] → K.In g → (∀ b o, b ≠ x → s.heap.get? b = some o → g.get? b = some o) → s.heap.objs.size ≤ L →
      wpAny (model prog w) (A.deeper (ksEnv qual (exSc ns) L fI (.ref cda) cc)) (execs rest (ksEnv qual (exSc ns) L fI (.ref cda) cc)) (fun f s' => R (.ok (.ret (match f with | .ret v => v | _ => .none))) s') E { s with heap := h', toks := tk }) :
    codeAny (model prog w) A (.call (.ref fI) args) R s := by
  obtain ⟨oc, od, qual, kV, doc, pm, an, ct, osl, cc, cda, ccl, cdd, vs, ccs, file, tf, cl, cld, csl, lf, hcd, lc, hvs, hfile, hcc⟩ := T.fn
  refine ks_codeAny_call_defAt (fd := ksFn "__init__" qual params (superSt a0 a1 a2 a3 a4 :: rest) (exSc ns) .none kV doc pm an (.ref cda) ct cc) (body := superSt a0 a1 a2 a3 a4 :: rest) (binds := ("self", .ref x) :: bs) hroom (X _ _ lf) rfl hlim (codeRec_of X hcd) rfl (hbind _ rfl rfl rfl) hcell hloc (fun h₁ hns k₁ => ?_) rfl rfl rfl
  have ex := k₁ _ _ hx
  have X₁ : K.In h₁ := X.keeps k₁
  have G₁ := hG.keeps k₁
  have B₁ := hB.keeps k₁
  -- the ground: all but the exception itself
  obtain ⟨g, hg⟩ : ∃ g, g = hideAll s.heap [x] := ⟨_, rfl⟩
  have gx : g.get? x = none := by rw [hg]; exact hideAll_none _ (.head _)
  have gk : ∀ b o, b ≠ x → s.heap.get? b = some o → g.get? b = some o := fun b o n e => by
    rw [hg]
    exact hideAll_get _ e (by simpa using n)
  have Xg : K.In g := fun b o e => gk b o (fun z => by rw [z, hnx] at e; cases e) (X b o e)
  have hL : x ≠ s.heap.objs.size := Nat.ne_of_lt (Heap.lt_size hx)
  have F₁ : Fr g s.heap.objs.size h₁ (fun y => ((("self" : Str), Value.ref x) :: bs).reverse.lookup y) := ⟨hns, fun b o e => k₁ b o (of_hideAll [x] (by rw [← hg]; exact e)), by rw [hg, hideAll_size]; exact Nat.le_refl _⟩
  have N₁ : News g s.heap.objs.size h₁ [(x, excObj C t0 none .none)] := fun p hp => by
    obtain rfl := List.mem_singleton.mp hp
    exact ⟨ex, hL, gx⟩
  obtain ⟨ar, har, hae⟩ : ∃ ar, (params.posonlyargs ++ params.args).head? = some ar ∧ ar.arg = "self" := by
    cases e : (params.posonlyargs ++ params.args).head? with
    | none => rw [e] at hp; cases hp
    | some ar => rw [e] at hp; exact ⟨ar, rfl, Option.some.inj hp⟩
  obtain ⟨cd, oD, hD1, hD2⟩ : ∃ cd oD, K.lookup C = some oD ∧ oD.data = .cls cd := by
    have z := T.made
    unfold excInitIn at z
    split at z
    · rename_i hlk
      exact ⟨_, _, hlk, rfl⟩
    · cases z
  have I₁ : InstAt h₁ x (excObj C t0 none .none) C none := ⟨ex, rfl, rfl, trivial⟩
  show PySem.wpAt _ _ _ (execs (superSt a0 a1 a2 a3 a4 :: rest) (ksEnv qual (exSc ns) s.heap.objs.size fI (.ref cda) cc)) _ _ _
  obtain ⟨pl, hpl⟩ := hsup (ksEnv qual (exSc ns) s.heap.objs.size fI (.ref cda) cc)
  refine ks_wpAt_execs_cons (ks_wpAt_Expr_any (ks_wpAt_MethodCall ?_ hpl))
  refine ks_wpAt_super_base (env := ksEnv qual (exSc ns) s.heap.objs.size fI (.ref cda) cc) hks hkc rfl rfl (X₁ _ _ lf) rfl har rfl (X₁ _ _ lc) rfl hvs hfile T.top ?_
  refine ks_loadName_global rfl hks (loadGlobal_builtin (env := ksEnv qual (exSc ns) s.heap.objs.size fI (.ref cda) cc) G₁ hsg B₁ hsb ⟨rfl, ?_⟩)
  refine wpAny_loadName_free rfl hkc rfl ⟨_, X₁ _ _ hcc, rfl⟩ ?_
  rw [hae]
  refine wpAny_loadName_local rfl hka hns hself ?_
  refine ks_wpAny_isType_cls (X₁ _ _ hD1) hD2 ⟨rfl, ?_⟩
  refine ks_wpAny_call_super (X₁ _ _ hD1) hD2 ex rfl (fun c e => by cases e) (looks_mroIn X₁ T.sub) fun h₂ e₂ k₂ => ?_
  obtain ⟨F₂, N₂, lt₂⟩ := ks_newsPush (s := ⟨h₁, s.gens, s.drawn, s.toks, s.os⟩) F₁ N₁ rfl e₂ k₂
  have X₂ : K.In h₂ := X₁.keeps k₂
  have I₂ : InstAt h₂ x (excObj C t0 none .none) C none := ⟨k₂ _ _ ex, rfl, rfl, trivial⟩
  refine kxs_method T.base.kx F₂ Xg N₂ (.head _) I₂ T.op T.sup T.subB rfl fun u h₃ F₃ N₃ lt₃ => ?_
  refine kxs_callWith0 N₃ (.head _) ?_
  have nu : u ≠ x := Nat.ne_of_gt (lt₃ (x, excObj C t0 none .none) (.tail _ (.head _)))
  have no : h₁.objs.size ≠ x := Nat.ne_of_gt (lt₂ (x, excObj C t0 none .none) (.head _))
  refine kxs_call F₃ Xg N₃ T.base.fb T.made (.head _) (.tail nu (.tail no (.head fun _ z => nomatch z))) (by simp) fun t' h₄ F₄ N₄ _ => ?_
  refine PySem.wpAt_of_wpAny ?_
  exact h g h₄ _ t' _ qual cda cc _ F₄ (news_sub N₄ fun p hp => by
    obtain rfl := List.mem_singleton.mp hp
    exact .tail _ (.tail _ (.tail _ (.head _)))) Xg gk (Nat.le_refl _)
end
/-- the entries of a dict that holds these names, in order -/
inductive Ents : List (Str × Value) → List DictEntry → Prop
  | nil : Ents [] []
  | cons {f : Str} {v : Value} {fs : List (Str × Value)} {es : List DictEntry} {hsh : Int} {tk : Tok} : Ents fs es → Ents ((f, v) :: fs) (⟨hsh, .str f tk, v⟩ :: es)
theorem isStr_str {f y : Str} {tk : Tok} : (Value.str f tk).isStr y = (f == y) := rfl
theorem ents_len {fs : List (Str × Value)} {es : List DictEntry} (e : Ents fs es) : es.length = fs.length := by
  induction e with
  | nil => rfl
  | cons _ ih => simp [ih]
theorem ents_put {fs : List (Str × Value)} {es : List DictEntry} (e : Ents fs es) {f : Str} (n : f ∉ fs.map (·.1)) (hsh : Int) (tk : Tok) (v : Value) : putL f hsh (.str f tk) v es = es ++ [⟨hsh, .str f tk, v⟩] ∧ Ents (fs ++ [(f, v)]) (es ++ [⟨hsh, .str f tk, v⟩]) ∧ (getL f es).isSome = true := by
  induction e with
  | nil => exact ⟨rfl, .cons .nil, rfl⟩
  | @cons f' v' fs es h' t' _ ih =>
    simp only [List.map_cons, List.mem_cons, not_or] at n
    obtain ⟨i1, i2, i3⟩ := ih n.2
    have ne : (f' == f) = false := beq_eq_false_iff_ne.mpr fun z => n.1 z.symm
    refine ⟨?_, .cons i2, ?_⟩
    · show (if (f' == f) = true then _ else _) = _
      rw [ne, if_neg Bool.false_ne_true, i1]
      rfl
    · unfold getL at i3 ⊢
      rw [List.find?_cons, isStr_str, ne]
      rw [List.any_cons]
      exact i3
theorem ents_find {fs : List (Str × Value)} {es : List DictEntry} (e : Ents fs es) (y : Str) : (es.find? fun e => e.key.isStr y).map (·.val) = fs.lookup y := by
  induction e with
  | nil => rfl
  | @cons f' v' fs es h' t' _ ih =>
    rw [List.find?_cons, isStr_str]
    by_cases q : f' = y
    · subst q
      simp [List.lookup]
    · have q1 : (f' == y) = false := beq_eq_false_iff_ne.mpr q
      have q2 : (y == f') = false := beq_eq_false_iff_ne.mpr fun z => q z.symm
      rw [q1]
      simp only [List.lookup, q2]
      exact ih
theorem ents_keys {fs : List (Str × Value)} {es : List DictEntry} (e : Ents fs es) : ∀ d ∈ es, ∃ n t, d.key = .str n t ∧ n ∈ fs.map (·.1) := by
  induction e with
  | nil => exact fun _ h => nomatch h
  | cons _ ih =>
    intro d hd
    rcases List.mem_cons.mp hd with rfl | hd
    · exact ⟨_, _, rfl, .head _⟩
    · obtain ⟨n, t, q, m⟩ := ih d hd
      exact ⟨n, t, q, .tail _ m⟩
theorem ents_uniq {fs : List (Str × Value)} {es : List DictEntry} (e : Ents fs es) (nd : (fs.map (·.1)).Nodup) : es.Pairwise fun a b => ∀ n, a.key.isStr n = true → b.key.isStr n = true → False := by
  induction e with
  | nil => exact .nil
  | @cons f' v' fs es h' t' r ih =>
    rw [List.map_cons, List.nodup_cons] at nd
    refine .cons (fun b hb n h1 h2 => ?_) (ih nd.2)
    obtain ⟨m, t, q, hm⟩ := ents_keys r b hb
    rw [q, isStr_str] at h2
    rw [isStr_str] at h1
    rw [beq_iff_eq] at h1 h2
    subst h1 h2
    exact nd.1 hm
theorem ents_ns1 {h : Heap} {dx : Addr} {fs : List (Str × Value)} {es : List DictEntry} {n : Nat} (e : Ents fs es) (nd : (fs.map (·.1)).Nodup) (g : h.get? dx = some (dictOf es n)) : h.Ns1 dx (fun y => fs.lookup y) := by
  refine ⟨_, es.toArray, n, g, rfl, fun d hd => ?_, by simpa [UniqKeys] using ents_uniq e nd, fun y => ?_⟩
  · obtain ⟨m, t, q, _⟩ := ents_keys e d (by simpa using hd)
    exact ⟨m, t, q⟩
  · show ((es.toArray.find? fun e => e.key.isStr y)).map (·.val) = _
    rw [List.find?_toArray]
    exact ents_find e y
section
variable {prog : Program} {w : World} {A : Around} {E : Value → Shared → Prop} {s : Shared} {K : Frag} {B newId initId : String} {bmB : List Value} {C fI x t0 g0 L a cc : Addr} {params : Arguments} {body : List Stmt} {scope : Scope} {ns : List (Str × NameKind)} {b0 b1 b2 b3 : Pos}
  {g : Heap} {m : Str → Option Value} {f qual : Str} {v cd : Value} {Q : Flow → Shared → Prop}
theorem ldX {y : Str} {p : Pos} {u : Value} {Q : Value → Shared → Prop} (hn : s.heap.Ns L m) (hu : m y = some u) (hl : ns.lookup y = some .local) (h : Q u s) (hd : (y == ("__debug__" : Str)) = false) :
    wpAny (model prog w) A (eval (.Name y p) (ksEnv qual (exSc ns) L a cd cc)) Q E s := wpAny_Name (wpAny_loadName_local (env := ksEnv qual (exSc ns) L a cd cc) rfl hl hn hu h) hd
/-- self.f = f, the first one -/
theorem ex_set0 (T : ExW prog K B newId initId bmB C params body scope fI) (no : findIn K (.ref C) f = some none) (F : Fr g L s.heap m) (Xg : K.In g) (N : News g L s.heap [(x, excObj C t0 none .none)])
    (hself : m "self" = some (.ref x)) (hf : m f = some v) (ls : ns.lookup ("self" : Str) = some .local) (lf : ns.lookup f = some .local) (hd : (f == ("__debug__" : Str)) = false)
    (h : ∀ dx h' tk es n, Fr g L h' m → Ents [(f, v)] es → News g L h' [(dx, dictOf es n), (x, excObj C t0 (some dx) .none)] → x < dx → Q .next { s with heap := h', toks := tk }) :
    wpAny (model prog w) A (exec (setSt f b0 b1 b2 b3) (ksEnv qual (exSc ns) L a cd cc)) Q E s := by
  refine plainObj_wpAny_Assign_Attribute (ldX F.ns hf lf (ldX F.ns hself ls ?_ (by decide)) hd)
  obtain ⟨e1, e2, _⟩ := ents_put Ents.nil (f := f) (by simp) (PyData.keyHash w.params f) (s.toks + 1) v
  refine set_exc0 (nw := fun o => [(x, o)]) T.base.st F Xg N (.head _) T.sa T.over (by unfold takerIn; rw [no]; rfl) T.hd (Prod.ext e1 rfl) (.head fun _ z => nomatch z) (by simp) fun dx h' F' N' lt => ?_
  exact h dx h' _ _ _ F' e2 N' (lt _ (.head _))
/-- self.f = f, a further one -/
theorem ex_setD {dx : Addr} {fs : List (Str × Value)} {es : List DictEntry} {n : Nat} (T : ExW prog K B newId initId bmB C params body scope fI) (no : findIn K (.ref C) f = some none) (F : Fr g L s.heap m) (Xg : K.In g) (N : News g L s.heap [(dx, dictOf es n), (x, excObj C t0 (some dx) .none)]) (lt : x < dx)
    (e : Ents fs es) (nf : f ∉ fs.map (·.1)) (sz : fs.length < 900) (hself : m "self" = some (.ref x)) (hf : m f = some v) (ls : ns.lookup ("self" : Str) = some .local) (lf : ns.lookup f = some .local) (hd : (f == ("__debug__" : Str)) = false)
    (h : ∀ h' tk es' n', Fr g L h' m → Ents (fs ++ [(f, v)]) es' → News g L h' [(dx, dictOf es' n'), (x, excObj C t0 (some dx) .none)] → Q .next { s with heap := h', toks := tk }) :
    wpAny (model prog w) A (exec (setSt f b0 b1 b2 b3) (ksEnv qual (exSc ns) L a cd cc)) Q E s := by
  refine plainObj_wpAny_Assign_Attribute (ldX F.ns hf lf (ldX F.ns hself ls ?_ (by decide)) hd)
  obtain ⟨e1, e2, e3⟩ := ents_put e nf (PyData.keyHash w.params f) (s.toks + 1) v
  refine set_excD T.base.st F Xg N (.tail _ (.head _)) T.sa T.over (by unfold takerIn; rw [no]; rfl) T.hd (.head _) e3 (Prod.ext e1 rfl) (.head fun p hp => ?_) (by rw [List.length_append, ents_len e]; simp; omega) fun h' F' N' => ?_
  · obtain rfl := List.mem_singleton.mp hp
    exact Nat.ne_of_lt lt
  · exact h h' _ _ _ F' e2 N'
end
section
open Builtin Builtin.ObjectAttr
/-! a call of such a class, also with keywords -/
section
variable {M : Model} {A : Around} {E : Value → Shared → Prop} {hp : Heap} {gs : Array GenState} {dr : Drawn} {tk : Nat} {os : OsState}
variable {nm q : Str} {C N : Addr} {bs bm bmB : List Value} {hdct : Bool} {sn : List Str} {sub : List Value} {ab : Bool} {col : Option Bool} {dd : Option Addr} {k0 k1 k2 k3 k5 : Option Value} {B newId initId : String}
theorem kw_check_new (F : ExcBaseFacts B newId initId bmB) (same : ∀ T : String, bm.contains (.type T) = bmB.contains (.type T)) {us : List Value} {kw : List (Str × Value)} {Q : Unit → Shared → Prop}
    (hC : hp.get? C = some (excClassObj nm q C N bs bm hdct sn sub ab col dd k0 k1 k2 k3 k5 newId)) (hq : Q () ⟨hp, gs, dr, tk, os⟩) : wpAny M A (checkBuiltinCall newId ⟨.ref C :: us, kw⟩) Q E ⟨hp, gs, dr, tk, os⟩ := by
  have isB : (Value.ref C :: bm).contains (.type B) = true := by rw [List.contains_cons, same, F.hasB, Bool.or_true]
  have z := F.noStar
  simp only [checkBuiltinCall, F.newKind, F.newSplit, F.newRow]
  repeat (first
    | refine wpAny_loadPart_at hC ?_
    | (refine wpAny_isSubtype_exc hC ?_; rw [isB])
    | refine wpAny_staticBase_exc hC ?_
    | refine wpAny_madeBy_exc hC ?_
    | simp only [bne_self_eq_false, Bool.false_eq_true, if_false]
    | wp_step)
  exact hq
end
section
variable {prog : Program} {w : World} {A : Around} {R : Result → Shared → Prop} {hp : Heap} {gs : Array GenState} {dr : Drawn} {tk : Nat} {os : OsState}
variable {nm q : Str} {C N fI : Addr} {bs bm bmB : List Value} {hdct : Bool} {sn : List Str} {sub : List Value} {ab : Bool} {col : Option Bool} {dd : Option Addr} {k0 k1 k2 k3 k5 : Option Value} {B newId initId : String} {us : List Value} {kw : List (Str × Value)} {K : Frag}
theorem kw_new (F : ExcBaseFacts B newId initId bmB) (same : ∀ T : String, bm.contains (.type T) = bmB.contains (.type T)) (hC : hp.get? C = some (excClassObj nm q C N bs bm hdct sn sub ab col dd k0 k1 k2 k3 k5 newId))
    (hq : R (.ok (.ret (.ref (hp.objs.size + 1)))) ⟨(hp.push (excTup us)).push (excObj C hp.objs.size none .none), gs, dr, tk, os⟩) (few : us.length ≤ sizeLine) :
    codeAny (model prog w) A (.builtin newId ⟨.ref C :: us, kw⟩) R ⟨hp, gs, dr, tk, os⟩ := by
  have z := F.ends
  have isB : (Value.ref C :: bm).contains (.type B) = true := by rw [List.contains_cons, same, F.hasB, Bool.or_true]
  have notA : (Value.ref C :: bm).contains (.type "AttributeError") = false := by rw [List.contains_cons, same, F.noAttr]; rfl
  have notN : (Value.ref C :: bm).contains (.type "NameError") = false := by rw [List.contains_cons, same, F.noName]; rfl
  refine codeAny_builtinAt F.entry ?_
  unfold Builtin.«BaseException.__new__»
  refine PySem.wpAt_bind ?_
  show PySem.wpAt _ _ _ (stack >>= _) _ _ _
  refine PySem.wpAt_bind (PySem.wpAt_stack fun p below => PySem.wpAt_of_wpAny ?_)
  wp_walk
  refine PySem.wpAt_of_wpAny ?_
  rw [F.owner]
  repeat (first
    | with_reducible refine wpAny_madeHere_exc F.canon hC ?_
    | with_reducible refine wpAny_loadPart_at hC ?_
    | (with_reducible refine wpAny_isSubtype_exc hC ?_; first | rw [isB] | rw [notA] | rw [notN])
    | wp_step)
  show R _ _
  rw [Heap.size_push]
  exact hq
theorem kw_call (F : ExcBaseFacts B newId initId bmB) (same : ∀ T : String, bm.contains (.type T) = bmB.contains (.type T)) (hC : hp.get? C = some (excClassObj nm q C N bs bm hdct sn sub ab col dd k0 k1 k2 k3 k5 newId))
    (call : Looks (model prog w) hp (specialOf (.ref C) "__call__") (some (.builtin "type.__call__"))) (typ : Looks (model prog w) hp (isInstance (.ref C) (.type "type")) true)
    (hi : Looks (model prog w) hp (typeLookup (.ref C) "__init__") (some (.ref fI))) (hb : ∀ self, Looks (model prog w) hp (bindSpecial (.ref fI) self) (.ref fI, [self])) (few : us.length ≤ sizeLine)
    (hq : codeAny (model prog w) (A.under (.builtin "type.__call__" ⟨.ref C :: us, kw⟩)) (.call (.ref fI) ⟨.ref (hp.objs.size + 1) :: us, kw⟩) (InitBack (hp.objs.size + 1) R) ⟨(hp.push (excTup us)).push (excObj C hp.objs.size none .none), gs, dr, tk, os⟩) :
    codeAny (model prog w) A (.call (.ref C) ⟨us, kw⟩) R ⟨hp, gs, dr, tk, os⟩ := by
  refine codeAny_of_tree ?_
  show wpAny _ _ (callAny (.ref C) _) _ _ _
  refine nd_load hC ?_
  show wpAny _ _ (callAny.viaDunder (.ref C) _) _ _ _
  unfold callAny.viaDunder
  refine wpAny_bind (call.at ?_)
  dsimp only
  rw [tc_bind]
  refine wpAny_bind (wpAny_pure (wpAny_bind (wpAny_pure ?_)))
  refine wpAny_pure (a := Fin.again (.call (.builtin "type.__call__") ⟨.ref C :: us, kw⟩)) (And.intro rfl ?_)
  refine codeAny_call_builtin_at (Code.quiet_builtin _ (by decide +kernel)) entry_typeCall (check_slot tc_kind tc_split typ (tc_args _ _ _) ?_)
  unfold Builtin.«type.__call__»
  repeat (first
    | with_reducible refine wpAny_loadPart_at hC ?_
    | with_reducible refine wpAny_madeBy_exc hC ?_
    | wp_step)
  refine codeAny_call_builtin_code (Code.quiet_builtin _ F.quiet) (kw_check_new F same hC ?_)
  refine kw_new F same hC ?_ few
  show wpAny _ _ _ _ _ _
  have k : ∀ b o, hp.get? b = some o → ((hp.push (excTup us)).push (excObj C hp.objs.size none .none)).get? b = some o := fun b o e => Heap.get?_push_of_some _ (Heap.get?_push_of_some _ e)
  have hC1 := k _ _ hC
  have he : ((hp.push (excTup us)).push (excObj C hp.objs.size none .none)).get? (hp.objs.size + 1) = some (excObj C hp.objs.size none .none) := by heap_get
  have self : (Value.ref C :: bm).contains (.ref C) = true := by simp
  have i1 := hi.keeps k
  have b1 := (hb (.ref (hp.objs.size + 1))).keeps k
  unfold isInstance
  repeat (first
    | with_reducible refine wpAny_loadPart_at he ?_
    | (with_reducible refine wpAny_isSubtype_exc hC1 ?_; rw [self])
    | wp_step)
  show wpAny _ _ (typeLookup (.ref C) _) _ _ _
  refine i1.at (wpAny_holding (wpAny_bind (b1.at ?_)))
  refine wpAny_bind (wpAny_call (codeAny_mono hq fun r s' z => ?_))
  cases r with
  | error e => exact z
  | ok fl =>
    cases fl with
    | ret v =>
      obtain ⟨rfl, z⟩ := z
      first
        | exact wpAny_pure (wpAny_pure z)
        | (wp_walk; exact z)
    | next => exact z.elim
    | brk => exact z.elim
    | cont => exact z.elim
end
end
/-- what is left of a made exception at e, whose own dict is at d -/
structure MadeE (h h' : Heap) (e C d : Addr) (fs : List (Str × Value)) : Prop where
  keep : ∀ b o, h.get? b = some o → h'.get? b = some o
  new : h.objs.size ≤ e
  obj : ∃ t, h'.get? e = some (excObj C t (some d) .none)
  dbig : h.objs.size ≤ d
  dne : d ≠ e
  ns : h'.Ns1 d (fun y => fs.lookup y)
abbrev exA1 (f : Str) (p0 p1 : Pos) : Arguments := { posonlyargs := [], args := [{ arg := "self", annotation := none, pos := p0 }, { arg := f, annotation := none, pos := p1 }], vararg := none, kwonlyargs := [], kw_defaults := [], kwarg := none, defaults := [] }
abbrev exN1 (f : Str) : List (Str × NameKind) := [(PySem.Str.ofString "self", .local), (f, .local), (PySem.Str.ofString "__class__", .free), (PySem.Str.ofString "super", .globalImplicit)]
abbrev exA2 (f f2 : Str) (p0 p1 p2 : Pos) : Arguments := { posonlyargs := [], args := [{ arg := "self", annotation := none, pos := p0 }, { arg := f, annotation := none, pos := p1 }, { arg := f2, annotation := none, pos := p2 }], vararg := none, kwonlyargs := [], kw_defaults := [], kwarg := none, defaults := [] }
abbrev exN2 (f f2 : Str) : List (Str × NameKind) := [(PySem.Str.ofString "self", .local), (f, .local), (f2, .local), (PySem.Str.ofString "__class__", .free), (PySem.Str.ofString "super", .globalImplicit)]
/-- a name of a field -/
def FieldN (f : Str) : Prop := f = "given" ∨ f = "index" ∨ f = "shown"
/-- the module, over a heap -/
structure ModH (K : Frag) (mg : Str → Option Value) (h : Heap) : Prop where
  X : K.In h
  lim : h.NoLimit
  G : h.Ns mainGlobals mg
  B : ∃ mb, h.Ns builtinsNs mb ∧ mb "super" = some (.type "super")
section
variable {prog : Program} {w : World} {A : Around} {R : Result → Shared → Prop} {s : Shared} {K : Frag} {mg : Str → Option Value} {B newId initId : String} {bmB : List Value} {C fI : Addr} {a0 a1 a2 a3 a4 b0 b1 b2 b3 c0 c1 c2 c3 p0 p1 p2 : Pos} {f f2 : Str} {v v2 : Value} {us : List Value} {kw : List (Str × Value)}
theorem ex_made1 (T : ExW prog K B newId initId bmB C (exA1 f p0 p1) [superSt a0 a1 a2 a3 a4, setSt f b0 b1 b2 b3] (exSc (exN1 f)) fI) (hf : FieldN f) (no : findIn K (.ref C) f = some none) (hsup : SupOk a0 a1 a2 a3) (M : ModH K mg s.heap) (hsg : mg "super" = none)
    (hroom : A.depth + 1 < recursionLimit) (hargs : (us = [v] ∧ kw = []) ∨ (us = [] ∧ kw = [(f, v)]))
    (hq : ∀ h' tk e d, MadeE s.heap h' e C d [(f, v)] → R (.ok (.ret (.ref e))) { s with heap := h', toks := tk }) : codeAny (model prog w) A (.call (.ref C) ⟨us, kw⟩) R s := by
  obtain ⟨nm, N, qn, bs, bm, hdct, sn, sub, ab, col, dd, k0, k1, k2, k3, k5, hC, same⟩ := excInit_of M.X T.made
  obtain ⟨hp, gs, dr, tk, os⟩ := s
  obtain ⟨mb, hB, hsb⟩ := M.B
  have few : us.length ≤ sizeLine := by
    rw [sizeLine_eq]
    rcases hargs with ⟨rfl, _⟩ | ⟨rfl, _⟩ <;> simp
  refine kw_call T.base.fb same hC (looks_specialIn M.X T.call) (looks_instIn M.X T.inT) (looks_findIn M.X T.iC) (fun self => bind_fn M.X self T.tI) few ?_
  have k : ∀ b o, hp.get? b = some o → ((hp.push (excTup us)).push (excObj C hp.objs.size none .none)).get? b = some o := fun b o e => Heap.get?_push_of_some _ (Heap.get?_push_of_some _ e)
  have he : ((hp.push (excTup us)).push (excObj C hp.objs.size none .none)).get? (hp.objs.size + 1) = some (excObj C hp.objs.size none .none) := by heap_get
  have old : ∀ b o, hp.get? b = some o → b ≠ hp.objs.size + 1 := fun b o e => Nat.ne_of_lt (Nat.lt_succ_of_lt (Heap.lt_size e))
  have hnx : K.lookup (hp.objs.size + 1) = none := by
    cases e : K.lookup (hp.objs.size + 1) with
    | none => rfl
    | some o => exact absurd rfl (old _ _ (M.X _ _ e))
  have hroom' : (A.under (.builtin "type.__call__" ⟨.ref C :: us, kw⟩)).depth < recursionLimit := hroom
  refine ex_enter (s := ⟨(hp.push (excTup us)).push (excObj C hp.objs.size none .none), gs, dr, tk, os⟩) (x := hp.objs.size + 1) (bs := [(f, v)]) T (M.X.keeps k) (M.lim.keeps k) he hnx hroom' hsup (M.G.keeps k) (hB.keeps k) hsg hsb ?_ rfl ?_ ?_ ?_ ?_ rfl ?_ fun g h' L t' tk' qual cda cc E F N Xg gk le => ?_
  · intro fd e1 e2 e3
    obtain ⟨n1, n2, n3, n4, n5, n6, n7, n8, n9, n10, n11, n12⟩ := fd
    dsimp only at e1 e2 e3
    subst e1 e2 e3
    rcases hf with rfl | rfl | rfl <;> rcases hargs with ⟨rfl, rfl⟩ | ⟨rfl, rfl⟩ <;> exact BindsTo.of_eq rfl
  · rcases hf with rfl | rfl | rfl <;> rfl
  · intro y hy
    rcases hf with rfl | rfl | rfl <;> (rcases List.mem_cons.mp hy with rfl | hy; rfl; (obtain rfl := List.mem_singleton.mp hy; rfl))
  · rcases hf with rfl | rfl | rfl <;> rfl
  · rcases hf with rfl | rfl | rfl <;> rfl
  · rcases hf with rfl | rfl | rfl <;> decide
  · refine wpAny_execs_cons (ex_set0 T no F Xg N (by rcases hf with rfl | rfl | rfl <;> rfl) (v := v) (by rcases hf with rfl | rfl | rfl <;> rfl) rfl (by rcases hf with rfl | rfl | rfl <;> rfl) (by rcases hf with rfl | rfl | rfl <;> rfl) fun dx h2 tk2 es n F2 en N2 lt => ?_)
    refine wpAny_execs_nil ⟨rfl, hq h2 tk2 (hp.objs.size + 1) dx ⟨fun b o e => F2.keep b o (gk b o (old b o e) (k b o e)), Nat.le_succ _, ⟨t', (N2 _ (.tail _ (.head _))).1⟩, Nat.le_of_lt (Nat.lt_trans (Nat.lt_succ_self _) lt), Nat.ne_of_gt lt, ?_⟩⟩
    exact ents_ns1 en (by simp) (N2 _ (.head _)).1
/-- the same of a class with two fields -/
theorem ex_made2 (T : ExW prog K B newId initId bmB C (exA2 f f2 p0 p1 p2) [superSt a0 a1 a2 a3 a4, setSt f b0 b1 b2 b3, setSt f2 c0 c1 c2 c3] (exSc (exN2 f f2)) fI) (hf : f = "index") (hf2 : f2 = "shown") (no : findIn K (.ref C) f = some none) (no2 : findIn K (.ref C) f2 = some none) (hsup : SupOk a0 a1 a2 a3) (M : ModH K mg s.heap) (hsg : mg "super" = none)
    (hroom : A.depth + 1 < recursionLimit) (hargs : (us = [v, v2] ∧ kw = []) ∨ (us = [] ∧ kw = [(f2, v2), (f, v)]))
    (hq : ∀ h' tk e d, MadeE s.heap h' e C d [(f, v), (f2, v2)] → R (.ok (.ret (.ref e))) { s with heap := h', toks := tk }) : codeAny (model prog w) A (.call (.ref C) ⟨us, kw⟩) R s := by
  subst hf hf2
  obtain ⟨nm, N, qn, bs, bm, hdct, sn, sub, ab, col, dd, k0, k1, k2, k3, k5, hC, same⟩ := excInit_of M.X T.made
  obtain ⟨hp, gs, dr, tk, os⟩ := s
  obtain ⟨mb, hB, hsb⟩ := M.B
  have few : us.length ≤ sizeLine := by
    rw [sizeLine_eq]
    rcases hargs with ⟨rfl, _⟩ | ⟨rfl, _⟩ <;> simp
  refine kw_call T.base.fb same hC (looks_specialIn M.X T.call) (looks_instIn M.X T.inT) (looks_findIn M.X T.iC) (fun self => bind_fn M.X self T.tI) few ?_
  have k : ∀ b o, hp.get? b = some o → ((hp.push (excTup us)).push (excObj C hp.objs.size none .none)).get? b = some o := fun b o e => Heap.get?_push_of_some _ (Heap.get?_push_of_some _ e)
  have he : ((hp.push (excTup us)).push (excObj C hp.objs.size none .none)).get? (hp.objs.size + 1) = some (excObj C hp.objs.size none .none) := by heap_get
  have old : ∀ b o, hp.get? b = some o → b ≠ hp.objs.size + 1 := fun b o e => Nat.ne_of_lt (Nat.lt_succ_of_lt (Heap.lt_size e))
  have hnx : K.lookup (hp.objs.size + 1) = none := by
    cases e : K.lookup (hp.objs.size + 1) with
    | none => rfl
    | some o => exact absurd rfl (old _ _ (M.X _ _ e))
  have hroom' : (A.under (.builtin "type.__call__" ⟨.ref C :: us, kw⟩)).depth < recursionLimit := hroom
  refine ex_enter (s := ⟨(hp.push (excTup us)).push (excObj C hp.objs.size none .none), gs, dr, tk, os⟩) (x := hp.objs.size + 1) (bs := [("index", v), ("shown", v2)]) T (M.X.keeps k) (M.lim.keeps k) he hnx hroom' hsup (M.G.keeps k) (hB.keeps k) hsg hsb ?_ rfl rfl ?_ rfl rfl rfl (by decide) fun g h' L t' tk' qual cda cc E F N Xg gk le => ?_
  · intro fd e1 e2 e3
    obtain ⟨n1, n2, n3, n4, n5, n6, n7, n8, n9, n10, n11, n12⟩ := fd
    dsimp only at e1 e2 e3
    subst e1 e2 e3
    rcases hargs with ⟨rfl, rfl⟩ | ⟨rfl, rfl⟩ <;> exact BindsTo.of_eq rfl
  · intro y hy
    rcases List.mem_cons.mp hy with rfl | hy
    · rfl
    rcases List.mem_cons.mp hy with rfl | hy
    · rfl
    obtain rfl := List.mem_singleton.mp hy
    rfl
  · refine wpAny_execs_cons (ex_set0 T no F Xg N rfl (v := v) rfl rfl rfl rfl fun dx h2 tk2 es n F2 en N2 lt => ?_)
    refine wpAny_execs_cons (ex_setD T no2 F2 Xg N2 lt en (show ("shown" : Str) ∉ (["index"] : List Str) by decide) (by simp) rfl (v := v2) rfl rfl rfl rfl fun h3 tk3 es3 n3 F3 en3 N3 => ?_)
    refine wpAny_execs_nil ⟨rfl, hq h3 tk3 (hp.objs.size + 1) dx ⟨fun b o e => F3.keep b o (gk b o (old b o e) (k b o e)), Nat.le_succ _, ⟨t', (N3 _ (.tail _ (.head _))).1⟩, Nat.le_of_lt (Nat.lt_trans (Nat.lt_succ_self _) lt), Nat.ne_of_gt lt, ?_⟩⟩
    exact ents_ns1 en3 (show (["index", "shown"] : List Str).Nodup by decide) (N3 _ (.head _)).1
end
end ZX

/-! Exceptions of the program as values: made, asked for their class, read. -/
namespace Z
open PySem PySem.Spec PyProof.Rows L2 ZX
/-- at a: an exception of the class at C, its own dict at d -/
def xo (a C : Addr) (d : Option Addr) : HO := .ext fun h => ∃ (o : Obj) (vs : Array Value), h.get? a = some o ∧ o.cls = .ref C ∧ o.dict = d ∧ o.data = .fields vs
theorem xo_ok {P : Program} {w : World} {H : Hp} {h : Heap} {a C : Addr} {d : Option Addr} {o : Obj} {vs : Array Value} (e : h.get? a = some o) (c : o.cls = .ref C) (hd : o.dict = d) (v : o.data = .fields vs) : ObjOk P w H h a (xo a C d) :=
  ⟨⟨o, vs, e, c, hd, v⟩, ⟨o, e⟩, fun _ _ ⟨o, v, q, r⟩ k => ⟨o, v, k o q, r⟩⟩
/-- what its instances ask of the class at C -/
structure ExK (K : PySem.W.Frag) (C : Addr) : Prop where
  isC : (PySem.W.clsIn K C).isSome = true
  ga : PySem.W.findIn K (.ref C) "__getattribute__" = some (some (.builtin "BaseException.__getattribute__"))
  gg : PySem.W.findIn K (.ref C) "__getattr__" = some none
  ex : PySem.W.subIn K (.ref C) (.type "BaseException") = some true
  cl : PySem.W.findIn K (.ref C) "__class__" = some (some (.builtin "object.__class__"))
  gs : PySem.W.specialIn K (.builtin "object.__class__") "__get__" = some (some (.builtin "getset_descriptor.__get__"))
  tk : PySem.W.takesIn K (.builtin "object.__class__") = some true
  ob : PySem.W.mroIn K C (.type "object") = some true
  hd : PySem.W.hasDictIn K C = true
/-- an exception stands at a, with its own dict's fields -/
def IsX (H : Hp) (a C : Addr) : Option (List (Str × V)) → Prop
  | none => H a = some (xo a C none)
  | some fs => ∃ d, H a = some (xo a C (some d)) ∧ H d = some (.xd fs)
theorem IsX.at {X : Cx} {pins : List (Addr × Obj)} {σ : L2.St} {H : Hp} {s : Shared} {a C : Addr} {fs : Option (List (Str × V))} (I : Inv X pins σ H s) (x : IsX H a C fs) :
    ∃ ox od, PySem.W.InstAt s.heap a ox C od ∧ (∀ l, fs = some l → ∃ d, od = some d ∧ ∀ (f : Str) (v : V), l.lookup f = some v → ∃ u, PySem.W.lookIn f d = some (some u) ∧ RelV v u) := by
  cases fs with
  | none =>
    obtain ⟨⟨o, vs, e, c, hd, hv⟩, _, _⟩ := I.hok a _ x
    obtain ⟨oc, odd, oda, osl⟩ := o
    dsimp only at c hd hv
    subst c hd hv
    exact ⟨_, none, ⟨e, rfl, rfl, trivial⟩, fun l z => nomatch z⟩
  | some fs =>
    obtain ⟨d, x, y⟩ := x
    obtain ⟨⟨o, vs, e, c, hd, hv⟩, _, _⟩ := I.hok a _ x
    have z : ObjOk X.prog X.w H s.heap d (.xd fs) := I.hok d _ y
    obtain ⟨mA, hns, hr⟩ := z
    obtain ⟨od, ho, hl⟩ := lookIn_ns hns
    obtain ⟨oc, odd, oda, osl⟩ := o
    dsimp only at c hd hv
    subst c hd hv
    refine ⟨_, some od, ⟨e, rfl, rfl, ho⟩, fun l q => ?_⟩
    cases q
    refine ⟨od, rfl, fun f v q => ?_⟩
    obtain ⟨u, hu, ru⟩ := RelO.some_of (v := v) (o := mA f) (by rw [← q]; exact hr f)
    exact ⟨u, by rw [hl, hu], ru⟩
/-- isinstance(e, c) -/
def rIsX (K : PySem.W.Frag) : List V → Hp → VK → Prop := fun xs H Q => ∃ (a C : Addr) (fs : Option (List (Str × V))) (c : V) (u : Value) (b : Bool), xs = [.ref a, c] ∧ IsX H a C fs ∧ ExK K C ∧ ClsV c u ∧ PySem.W.kitOne K (.ref C) u = some b ∧ Q (.bl b) H
theorem call_isX {X : Cx} : CallR X (.builtin "isinstance") (rIsX X.K) := by
  intro pins s σ H xs us Q I r h
  obtain ⟨a, C, fs, c, u, b, rfl, hx, T, hc, e, q⟩ := h
  obtain ⟨u1, u2, rfl, r1, r2⟩ := vals2 r
  cases r1
  have e2 := hc.eq r2
  subst e2
  obtain ⟨ox, od, J, _⟩ := hx.at I
  exact PySem.W.kia_one (PySem.W.kitx_exc (od := od) (ox := ox) T.isC T.ga T.gg T.ex T.cl T.gs T.tk T.ob) I.kIn J e (fun z => nomatch z) fun tk => ⟨.bl b, H, I.tok tk, rfl, q⟩
/-- e.f -/
def tXo (K : PySem.W.Frag) (f : Str) (te : TE) : TE := fun σ H Q => te σ H fun x H1 => ∃ (a C : Addr) (fs : List (Str × V)) (v : V), x = .ref a ∧ IsX H1 a C (some fs) ∧ ExK K C ∧ PySem.W.findIn K (.ref C) f = some none ∧ fs.lookup f = some v ∧ Q v H1
theorem pe_xo {X : Cx} {e : Expr} {te : TE} {pos : Pos} {f : Str} (he : PE X e te) (hb : attributeBase e f X.env (eval e X.env) = eval e X.env := by rfl) : PE X (.Attribute e f pos) (tXo X.K f te) := by
  refine ⟨fun pins s σ H Q I h => ?_⟩
  refine attr_of hb (thn (he.run pins s σ H _ I h) fun u s1 hh => ?_)
  obtain ⟨x, H1, I1, rx, a, C, fs, v, rfl, hx, T, no, l, q⟩ := hh
  obtain rfl : u = Value.ref a := rx
  obtain ⟨ox, od, J, hl⟩ := hx.at I1
  obtain ⟨d, rfl, hl2⟩ := hl _ rfl
  obtain ⟨u, hu, ru⟩ := hl2 f v l
  exact HandSPX.exc_get I1.kIn J T.ga T.gg T.ex (PySem.W.findObj_own T.hd no rfl hu) (handed_of ru) ⟨v, H1, I1.tok _, ru, q⟩
/-- a class of the program whose __init__ stores one thing -/
structure ExM (P : Program) (K : PySem.W.Frag) (mg : Str → Option Value) (x f : Str) : Prop where
  at_ : mg x = some (.ref (clsA mg x))
  sup : mg "super" = none
  kp : PySem.W.keepIn K (.ref (clsA mg x)) = true
  k : ExK K (clsA mg x)
  ty : PySem.W.typeIn K (.ref (clsA mg x)) = some (.type "type")
  fn : FieldN f
  no : PySem.W.findIn K (.ref (clsA mg x)) f = some none
  made : ∃ (B newId initId : String) (bmB : List Value) (fI : Addr) (a0 a1 a2 a3 a4 b0 b1 b2 b3 p0 p1 : Pos), ExW P K B newId initId bmB (clsA mg x) (exA1 f p0 p1) [superSt a0 a1 a2 a3 a4, setSt f b0 b1 b2 b3] (exSc (exN1 f)) fI ∧ SupOk a0 a1 a2 a3
/-- two things -/
structure ExM2 (P : Program) (K : PySem.W.Frag) (mg : Str → Option Value) (x : Str) : Prop where
  at_ : mg x = some (.ref (clsA mg x))
  sup : mg "super" = none
  kp : PySem.W.keepIn K (.ref (clsA mg x)) = true
  k : ExK K (clsA mg x)
  ty : PySem.W.typeIn K (.ref (clsA mg x)) = some (.type "type")
  no : PySem.W.findIn K (.ref (clsA mg x)) "index" = some none
  no2 : PySem.W.findIn K (.ref (clsA mg x)) "shown" = some none
  made : ∃ (B newId initId : String) (bmB : List Value) (fI : Addr) (a0 a1 a2 a3 a4 b0 b1 b2 b3 c0 c1 c2 c3 p0 p1 p2 : Pos), ExW P K B newId initId bmB (clsA mg x) (exA2 "index" "shown" p0 p1 p2) [superSt a0 a1 a2 a3 a4, setSt "index" b0 b1 b2 b3, setSt "shown" c0 c1 c2 c3] (exSc (exN2 "index" "shown")) fI ∧ SupOk a0 a1 a2 a3
/-- none, without an __init__ of its own -/
structure ExM0 (K : PySem.W.Frag) (mg : Str → Option Value) (x : Str) : Prop where
  at_ : mg x = some (.ref (clsA mg x))
  kp : PySem.W.keepIn K (.ref (clsA mg x)) = true
  k : ExK K (clsA mg x)
  ty : PySem.W.typeIn K (.ref (clsA mg x)) = some (.type "type")
  made : ∃ (B newId initId : String) (bmB : List Value), ExcBaseFacts B newId initId bmB ∧ PySem.W.excIn K (clsA mg x) bmB newId = true
section
variable {X : Cx} {pins : List (Addr × Obj)} {σ : L2.St} {H : Hp} {s : Shared}
theorem modH (I : Inv X pins σ H s) : ModH X.K X.mg s.heap := by
  obtain ⟨mb, hB, hb⟩ := I.ok.mod.blt
  exact ⟨I.kIn, I.nolimit, I.ok.mod.glob.keeps I.bk, mb, hB.keeps I.bk, (hb "super" (by decide)).trans (by first | rfl | kernel_rfl)⟩
/-- a new exception is tracked -/
theorem Inv.newX {h' : Heap} {a C d : Addr} {fs : List (Str × Value)} {vs : List (Str × V)} {tk : Tok} (I : Inv X pins σ H s) (M : MadeE s.heap h' a C d fs) (r : ∀ f, RelO (vs.lookup f) (fs.lookup f)) :
    H a = none ∧ H d = none ∧ d ≠ a ∧ Inv X pins σ (upd (upd H d (.xd vs)) a (xo a C (some d))) { s with heap := h', toks := tk } := by
  have na : H a = none := I.hok.fresh M.new
  have nd : H d = none := I.hok.fresh M.dbig
  refine ⟨na, nd, M.dne, ?_⟩
  obtain ⟨G, g1, g2⟩ := restrict h' fun b => decide (b ≠ a)
  have gk : ∀ b, b ≠ a → G.get? b = h'.get? b := fun b hb => g1 b (decide_eq_true hb)
  have ge : G.get? a = none := g2 a (by simp)
  have old : ∀ b o, s.heap.get? b = some o → G.get? b = some o := fun b o q => (gk b (Nat.ne_of_lt (Nat.lt_of_lt_of_le (Heap.lt_size q) M.new))).trans (M.keep b o q)
  have J : Inv X pins σ (upd H d (.xd vs)) { s with heap := G, toks := tk } := I.laid (t' := tk) old M.dbig ⟨_, M.ns.at fun o q => (gk d M.dne).trans q, r⟩
  obtain ⟨t, ho⟩ := M.obj
  refine J.laidN (t' := tk) (fun b o q => ?_) ge (by rw [upd_ne (Ne.symm M.dne)]; exact na) (xo_ok ho rfl rfl rfl)
  by_cases hb : b = a
  · rw [hb] at q
    exact absurd (ge.symm.trans q) (by simp)
  · exact (gk b hb).symm.trans q
variable {x f : Str} {Q : VK}
theorem relO1 {v : V} {u : Value} (r : RelV v u) (g : Str) : RelO (List.lookup g [(f, v)]) (List.lookup g [(f, u)]) := by
  cases h : g == f with
  | true => simpa [List.lookup, h] using (show RelO (some v) (some u) from r)
  | false => simp [List.lookup, h, RelO]
theorem relO2 {v v2 : V} {u u2 : Value} {f2 : Str} (r : RelV v u) (r2 : RelV v2 u2) (g : Str) : RelO (List.lookup g [(f, v), (f2, v2)]) (List.lookup g [(f, u), (f2, u2)]) := by
  cases h : g == f with
  | true => simpa [List.lookup, h] using (show RelO (some v) (some u) from r)
  | false =>
    cases h2 : g == f2 with
    | true => simpa [List.lookup, h, h2] using (show RelO (some v2) (some u2) from r2)
    | false => simp [List.lookup, h, h2, RelO]
theorem run_ex1 {v : V} {u : Value} {us : List Value} {kw : List (Str × Value)} (I : Inv X pins σ H s) (T : ExM X.prog X.K X.mg x f) (hroom : X.A.depth + 2 < recursionLimit) (r : RelV v u) (ha : (us = [u] ∧ kw = []) ∨ (us = [] ∧ kw = [(f, u)]))
    (h : ∀ a d, H a = none → H d = none → d ≠ a → Q (.ref a) (upd (upd H d (.xd [(f, v)])) a (xo a (clsA X.mg x) (some d)))) : wpAny (model X.prog X.w) X.A (call (.ref (clsA X.mg x)) us kw) (EP X pins σ Q) X.xe s := by
  obtain ⟨B, newId, initId, bmB, fI, a0, a1, a2, a3, a4, b0, b1, b2, b3, p0, p1, W, hs⟩ := T.made
  refine wpAny_call (ex_made1 W T.fn T.no hs (modH I) T.sup (by omega) ha fun h' tk e d M => ?_)
  obtain ⟨n1, n2, n3, J⟩ := Inv.newX (tk := tk) I M (relO1 r)
  exact ⟨.ref e, _, J, rfl, h e d n1 n2 n3⟩
theorem run_ex2 {v v2 : V} {u u2 : Value} {us : List Value} {kw : List (Str × Value)} (I : Inv X pins σ H s) (T : ExM2 X.prog X.K X.mg x) (hroom : X.A.depth + 2 < recursionLimit) (r : RelV v u) (r2 : RelV v2 u2) (ha : (us = [u, u2] ∧ kw = []) ∨ (us = [] ∧ kw = [(("shown" : Str), u2), (("index" : Str), u)]))
    (h : ∀ a d, H a = none → H d = none → d ≠ a → Q (.ref a) (upd (upd H d (.xd [("index", v), ("shown", v2)])) a (xo a (clsA X.mg x) (some d)))) : wpAny (model X.prog X.w) X.A (call (.ref (clsA X.mg x)) us kw) (EP X pins σ Q) X.xe s := by
  obtain ⟨B, newId, initId, bmB, fI, a0, a1, a2, a3, a4, b0, b1, b2, b3, c0, c1, c2, c3, p0, p1, p2, W, hs⟩ := T.made
  refine wpAny_call (ex_made2 W rfl rfl T.no T.no2 hs (modH I) T.sup (by omega) ha fun h' tk e d M => ?_)
  obtain ⟨n1, n2, n3, J⟩ := Inv.newX (tk := tk) I M (relO2 r r2)
  exact ⟨.ref e, _, J, rfl, h e d n1 n2 n3⟩
end
section
variable {X : Cx} {x f : Str} {p pos : Pos} {e e2 : Expr} {ta : TA} {kws : List Keyword}
/-- X(e), X(f = e): a new exception -/
def tX1 (mg : Str → Option Value) (x f : Str) (ta : TA) : TE := fun σ H Q => ta σ H fun vs H1 => ∃ v, vs = [v] ∧ ∀ a d, H1 a = none → H1 d = none → d ≠ a → Q (.ref a) (upd (upd H1 d (.xd [(f, v)])) a (xo a (clsA mg x) (some d)))
def tX2 (mg : Str → Option Value) (x : Str) (ta : TA) : TE := fun σ H Q => ta σ H fun vs H1 => ∃ v v2, vs = [v, v2] ∧ ∀ a d, H1 a = none → H1 d = none → d ≠ a → Q (.ref a) (upd (upd H1 d (.xd [("index", v), ("shown", v2)])) a (xo a (clsA mg x) (some d)))
def tX2k (mg : Str → Option Value) (x : Str) (ta : TA) : TE := fun σ H Q => ta σ H fun vs H1 => ∃ v v2, vs = [v2, v] ∧ ∀ a d, H1 a = none → H1 d = none → d ≠ a → Q (.ref a) (upd (upd H1 d (.xd [("index", v), ("shown", v2)])) a (xo a (clsA mg x) (some d)))
theorem pe_x1 (T : ExM X.prog X.K X.mg x f) (hr : Room 2 X.A) (ha : PA X [e] ta) (hg : Gl X x := by rfl) (hdb : (x == ("__debug__" : Str)) = false := by decide)
    (he : starEach [e] X.env = (false, eval e X.env) :: starEach [] X.env := by rfl) (hpl : (backTo pos (starEach [] X.env)).any (·.1) = false := by rfl) : PE X (.Call (.Name x p) [e] [] pos) (tX1 X.mg x f ta) := by
  refine ⟨fun pins s σ H Q I h => wpAny_Call_Name_kw (ld_glob I hg T.at_ ?_ hdb)⟩
  refine PySem.W.callWith_K (h₀ := X.base) I.ok.mod.kin T.kp (thn (ha.run pos pins s σ H _ I h) fun us s1 ⟨vs, H1, I1, r1, v, ev, q1⟩ => ⟨I1.kIn, ?_⟩) he hpl
  subst ev
  cases r1 with
  | cons rv rn =>
    cases rn
    exact run_ex1 I1 T (by have := hr.dp; omega) rv (.inl ⟨rfl, rfl⟩) q1
theorem pe_x2 (T : ExM2 X.prog X.K X.mg x) (hr : Room 2 X.A) (ha : PA X [e, e2] ta) (hg : Gl X x := by rfl) (hdb : (x == ("__debug__" : Str)) = false := by decide)
    (he : starEach [e, e2] X.env = (false, eval e X.env) :: starEach [e2] X.env := by rfl) (hpl : (backTo pos (starEach [e2] X.env)).any (·.1) = false := by rfl) : PE X (.Call (.Name x p) [e, e2] [] pos) (tX2 X.mg x ta) := by
  refine ⟨fun pins s σ H Q I h => wpAny_Call_Name_kw (ld_glob I hg T.at_ ?_ hdb)⟩
  refine PySem.W.callWith_K (h₀ := X.base) I.ok.mod.kin T.kp (thn (ha.run pos pins s σ H _ I h) fun us s1 ⟨vs, H1, I1, r1, v, v2, ev, q1⟩ => ⟨I1.kIn, ?_⟩) he hpl
  subst ev
  cases r1 with
  | cons rv rn =>
    cases rn with
    | cons rw rn =>
      cases rn
      exact run_ex2 I1 T (by have := hr.dp; omega) rv rw (.inl ⟨rfl, rfl⟩) q1
theorem pe_x1k (T : ExM X.prog X.K X.mg x f) (hr : Room 2 X.A) (ha : PK X kws ta) (hg : Gl X x := by rfl) (hdb : (x == ("__debug__" : Str)) = false := by decide)
    (hall : (backToKw pos (keywordEach kws X.env)).all (·.1.isSome) = true := by rfl) (hks : (backToKw pos (keywordEach kws X.env)).filterMap (·.1) = [f] := by rfl)
    (hpl : ((backTo pos (starEach [] X.env)).any (·.1) || (backToKw pos (keywordEach kws X.env)).any (·.1.isNone)) = false := by rfl) : PE X (.Call (.Name x p) [] kws pos) (tX1 X.mg x f ta) := by
  refine ⟨fun pins s σ H Q I h => wpAny_Call_Name_kw (ld_glob I hg T.at_ ?_ hdb)⟩
  refine PySem.W.callWith_KW0 (h₀ := X.base) I.ok.mod.kin T.kp hall (thn (ha.run pos pins s σ H _ I h) fun us s1 ⟨vs, H1, I1, r1, v, ev, q1⟩ => ⟨I1.kIn, ?_⟩) hpl
  rw [hks]
  subst ev
  cases r1 with
  | cons rv rn =>
    cases rn
    exact run_ex1 I1 T (by have := hr.dp; omega) rv (.inr ⟨rfl, rfl⟩) q1
theorem pe_x2k (T : ExM2 X.prog X.K X.mg x) (hr : Room 2 X.A) (ha : PK X kws ta) (hg : Gl X x := by rfl) (hdb : (x == ("__debug__" : Str)) = false := by decide)
    (hall : (backToKw pos (keywordEach kws X.env)).all (·.1.isSome) = true := by rfl) (hks : (backToKw pos (keywordEach kws X.env)).filterMap (·.1) = [("shown" : Str), ("index" : Str)] := by rfl)
    (hpl : ((backTo pos (starEach [] X.env)).any (·.1) || (backToKw pos (keywordEach kws X.env)).any (·.1.isNone)) = false := by rfl) : PE X (.Call (.Name x p) [] kws pos) (tX2k X.mg x ta) := by
  refine ⟨fun pins s σ H Q I h => wpAny_Call_Name_kw (ld_glob I hg T.at_ ?_ hdb)⟩
  refine PySem.W.callWith_KW0 (h₀ := X.base) I.ok.mod.kin T.kp hall (thn (ha.run pos pins s σ H _ I h) fun us s1 ⟨vs, H1, I1, r1, v, v2, ev, q1⟩ => ⟨I1.kIn, ?_⟩) hpl
  rw [hks]
  subst ev
  cases r1 with
  | cons rv rn =>
    cases rn with
    | cons rw rn =>
      cases rn
      exact run_ex2 I1 T (by have := hr.dp; omega) rw rv (.inr ⟨rfl, rfl⟩) q1
/-- X(), no own __init__ -/
def tX0 (mg : Str → Option Value) (x : Str) : TE := fun σ H Q => ∀ a, H a = none → Q (.ref a) (upd H a (xo a (clsA mg x) none))
theorem pe_x0 (T : ExM0 X.K X.mg x) (hg : Gl X x := by rfl) (hdb : (x == ("__debug__" : Str)) = false := by decide) : PE X (.Call (.Name x p) [] [] pos) (tX0 X.mg x) := by
  refine ⟨fun pins s σ H Q I h => wpAny_Call_Name_kw (ld_glob I hg T.at_ ?_ hdb)⟩
  refine PySem.W.callWith_K0 I.kIn T.kp ?_
  obtain ⟨B, newId, initId, bmB, F, q⟩ := T.made
  obtain ⟨bm, N, nm, qn, bs, hdct, sn, sub, ab, col, dd, k0, k1, k2, k3, k5, mN, hC, hN, hni, W⟩ := exc_obj I.kIn q
  refine wpAny_call_exc_subT F W hC hN hni (fun h' a hm => ?_) (by show 0 ≤ sizeLine; omega)
  have hn : H a = none := I.hok.gone hm.new
  obtain ⟨t, ht, _, _⟩ := hm.there
  exact ⟨.ref a, upd H a (xo a (clsA X.mg x) none), I.laidN hm.keeps hm.new hn (xo_ok ht rfl rfl rfl), rfl, h a hn⟩
end
/-! ### a class of exceptions by one look at the written part -/
def exKB (K : PySem.W.Frag) (C : Addr) : Bool := (PySem.W.clsIn K C).isSome && decide (PySem.W.findIn K (.ref C) "__getattribute__" = some (some (.builtin "BaseException.__getattribute__"))) && decide (PySem.W.findIn K (.ref C) "__getattr__" = some none) &&
  decide (PySem.W.subIn K (.ref C) (.type "BaseException") = some true) && decide (PySem.W.findIn K (.ref C) "__class__" = some (some (.builtin "object.__class__"))) &&
  decide (PySem.W.specialIn K (.builtin "object.__class__") "__get__" = some (some (.builtin "getset_descriptor.__get__"))) && decide (PySem.W.takesIn K (.builtin "object.__class__") = some true) && decide (PySem.W.mroIn K C (.type "object") = some true) && PySem.W.hasDictIn K C &&
  PySem.W.keepIn K (.ref C) && decide (PySem.W.typeIn K (.ref C) = some (.type "type"))
theorem exK_of {K : PySem.W.Frag} {C : Addr} (h : exKB K C = true) : ExK K C ∧ PySem.W.keepIn K (.ref C) = true ∧ PySem.W.typeIn K (.ref C) = some (.type "type") := by
  simp only [exKB, Bool.and_eq_true, decide_eq_true_eq] at h
  obtain ⟨⟨⟨⟨⟨⟨⟨⟨⟨⟨h1, h2⟩, h3⟩, h4⟩, h5⟩, h6⟩, h7⟩, h8⟩, h9⟩, h10⟩, h11⟩ := h
  exact ⟨⟨h1, h2, h3, h4, h5, h6, h7, h8, h9⟩, h10, h11⟩
/-- the file that a code object tells -/
def codeFile (K : PySem.W.Frag) (cda : Addr) (file : Str) : Bool := match K.lookup cda with
  | some ⟨_, _, .fields vs, _⟩ => (match (vs[2]? : Option Value) with
    | some (Value.str f _) => file == f
    | _ => false)
  | _ => false
theorem codeFile_of {K : PySem.W.Frag} {cda : Addr} {file : Str} (h : codeFile K cda file = true) : ∃ (c : Value) (d : Option Addr) (vs : Array Value) (sl : Array (Option Value)) (f : Str) (t : Tok), K.lookup cda = some ⟨c, d, .fields vs, sl⟩ ∧ vs[2]? = some (.str f t) ∧ (file == f) = true := by
  unfold codeFile at h
  split at h
  · rename_i c d vs sl e
    split at h
    · rename_i f t e2
      exact ⟨c, d, vs, sl, f, t, e, e2, h⟩
    · cases h
  · cases h
def cellOf (K : PySem.W.Frag) (cc C : Addr) : Bool := match K.lookup cc with
  | some ⟨_, _, .cell (some v), _⟩ => decide (v = .ref C)
  | _ => false
theorem cellOf_of {K : PySem.W.Frag} {cc C : Addr} (h : cellOf K cc C = true) : ∃ (c : Value) (d : Option Addr) (sl : Array (Option Value)), K.lookup cc = some ⟨c, d, .cell (some (.ref C)), sl⟩ := by
  unfold cellOf at h
  split at h
  · rename_i c d v sl e
    have z : v = .ref C := of_decide_eq_true h
    rw [z] at e
    exact ⟨c, d, sl, e⟩
  · cases h
def exB (P : Program) (K : PySem.W.Frag) (B newId initId : String) (bmB : List Value) (C fI cda cc : Addr) (qual : Str) (fs : List Str) : Bool := exKB K C && (PySem.W.excInitIn K C bmB newId && PySem.W.excOver K C bmB && decide (PySem.W.findIn K (.ref C) "__init__" = some (some (.ref fI))) &&
  decide (PySem.W.typeIn K (.ref fI) = some (.type "function")) && PySem.W.codeIn K (.ref cda) qual && codeFile K cda P.main.file && cellOf K cc C && decide (PySem.W.mroIn K C (.ref C) = some true) && decide (PySem.W.ks_superIn K C C "__init__" = some (some (.builtin initId))) &&
  decide (PySem.W.specialIn K (.ref C) "__call__" = some (some (.builtin "type.__call__"))) && decide (PySem.W.instIn K (.ref C) (.type "type") = some true) && decide (PySem.W.subIn K (.ref C) (.type B) = some true) && !(P.main.scope.names.lookup ("super" : Str)).isSome &&
  decide (PySem.W.nsIn K cStatics "thirdparty.any" = some none) && decide (PySem.W.findIn K (.ref C) "__setattr__" = some (some (.builtin "object.__setattr__"))) && fs.all fun f => decide (PySem.W.findIn K (.ref C) f = some none))
section
variable {P : Program} {K : PySem.W.Frag} {h : Heap} {mg : Str → Option Value} {B newId initId : String} {bmB : List Value} {C fI cda cc : Addr} {qual x f : Str} {fs : List Str} {oc kV doc pm ct : Value} {od an : Option Addr} {osl : Array (Option Value)} {params : Arguments} {body : List Stmt} {scope : Scope}
theorem exW_of (W : BaseW B newId initId bmB) (l : K.lookup fI = some ⟨oc, od, .func (PySem.W.ksFn "__init__" qual params body scope .none kV doc pm an (.ref cda) ct cc), osl⟩) (b : exB P K B newId initId bmB C fI cda cc qual fs = true) :
    ExK K C ∧ PySem.W.keepIn K (.ref C) = true ∧ PySem.W.typeIn K (.ref C) = some (.type "type") ∧ ExW P K B newId initId bmB C params body scope fI ∧ ∀ f ∈ fs, PySem.W.findIn K (.ref C) f = some none := by
  simp only [exB, Bool.and_eq_true, decide_eq_true_eq, Bool.not_eq_true', List.all_eq_true] at b
  obtain ⟨b0, ⟨⟨⟨⟨⟨⟨⟨⟨⟨⟨⟨⟨⟨⟨b1, b2⟩, b3⟩, b4⟩, b5⟩, b6⟩, b7⟩, b8⟩, b9⟩, b10⟩, b11⟩, b12⟩, b13⟩, b14⟩, b15⟩, b16⟩ := b
  obtain ⟨k, kp, ty⟩ := exK_of b0
  obtain ⟨c, d, vs, sl, f, t, e1, e2, e3⟩ := codeFile_of b6
  obtain ⟨c', d', sl', e4⟩ := cellOf_of b7
  exact ⟨k, kp, ty, ⟨W, b1, b2, b3, b4, ⟨oc, od, qual, kV, doc, pm, an, ct, osl, cc, cda, c, d, vs, sl, f, t, c', d', sl', l, b5, e1, e2, e3, e4⟩, b8, b9, b10, b11, b12, b13, b14, b15, k.hd⟩, b16⟩
theorem ExM.of {p0 p1 a0 a1 a2 a3 a4 b0 b1 b2 b3 : Pos} (X : K.In h) (G : h.Ns mainGlobals mg) (W : BaseW B newId initId bmB) (a : PySem.W.nsIn K mainGlobals x = some (some (.ref C))) (z : mg "super" = none) (hf : FieldN f)
    (l : K.lookup fI = some ⟨oc, od, .func (PySem.W.ksFn "__init__" qual (exA1 f p0 p1) [superSt a0 a1 a2 a3 a4, setSt f b0 b1 b2 b3] (exSc (exN1 f)) .none kV doc pm an (.ref cda) ct cc), osl⟩) (s : SupOk a0 a1 a2 a3) (b : exB P K B newId initId bmB C fI cda cc qual [f] = true) : ExM P K mg x f := by
  have m := PySem.W.mg_of X G a
  have e := clsA_of m
  obtain ⟨k, kp, ty, w, no⟩ := exW_of W l b
  exact ⟨by rw [e]; exact m, z, by rw [e]; exact kp, by rw [e]; exact k, by rw [e]; exact ty, hf, by rw [e]; exact no f (.head _), ⟨B, newId, initId, bmB, fI, a0, a1, a2, a3, a4, b0, b1, b2, b3, p0, p1, by rw [e]; exact w, s⟩⟩
theorem ExM2.of {p0 p1 p2 a0 a1 a2 a3 a4 b0 b1 b2 b3 c0 c1 c2 c3 : Pos} (X : K.In h) (G : h.Ns mainGlobals mg) (W : BaseW B newId initId bmB) (a : PySem.W.nsIn K mainGlobals x = some (some (.ref C))) (z : mg "super" = none)
    (l : K.lookup fI = some ⟨oc, od, .func (PySem.W.ksFn "__init__" qual (exA2 "index" "shown" p0 p1 p2) [superSt a0 a1 a2 a3 a4, setSt "index" b0 b1 b2 b3, setSt "shown" c0 c1 c2 c3] (exSc (exN2 "index" "shown")) .none kV doc pm an (.ref cda) ct cc), osl⟩) (s : SupOk a0 a1 a2 a3)
    (b : exB P K B newId initId bmB C fI cda cc qual ["index", "shown"] = true) : ExM2 P K mg x := by
  have m := PySem.W.mg_of X G a
  have e := clsA_of m
  obtain ⟨k, kp, ty, w, no⟩ := exW_of W l b
  exact ⟨by rw [e]; exact m, z, by rw [e]; exact kp, by rw [e]; exact k, by rw [e]; exact ty, by rw [e]; exact no _ (.head _), by rw [e]; exact no _ (.tail _ (.head _)), ⟨B, newId, initId, bmB, fI, a0, a1, a2, a3, a4, b0, b1, b2, b3, c0, c1, c2, c3, p0, p1, p2, by rw [e]; exact w, s⟩⟩
theorem ExM0.of (X : K.In h) (G : h.Ns mainGlobals mg) (W : BaseW B newId initId bmB) (a : PySem.W.nsIn K mainGlobals x = some (some (.ref C))) (b : (exKB K C && PySem.W.excIn K C bmB newId) = true) : ExM0 K mg x := by
  have m := PySem.W.mg_of X G a
  have e := clsA_of m
  obtain ⟨b1, b2⟩ := Bool.and_eq_true_iff.mp b
  obtain ⟨k, kp, ty⟩ := exK_of b1
  exact ⟨by rw [e]; exact m, by rw [e]; exact kp, by rw [e]; exact k, by rw [e]; exact ty, B, newId, initId, bmB, W.fb, by rw [e]; exact b2⟩
end
/-! ### which class is under which -/
/-- of each of cs: whether it is under each of ds -/
def kitTab (K : PySem.W.Frag) (cs ds : List Value) : List (List (Option Bool)) := cs.map fun c => ds.map fun d => PySem.W.kitOne K c d
theorem kitTab_at {K : PySem.W.Frag} {cs ds : List Value} {t : List (List (Option Bool))} (h : kitTab K cs ds = t) {i j : Nat} {c d : Value} {r : List (Option Bool)} {b : Option Bool} (hc : cs[i]? = some c) (hd : ds[j]? = some d) (ht : t[i]? = some r) (hr : r[j]? = some b) : PySem.W.kitOne K c d = b := by
  rw [← h] at ht
  unfold kitTab at ht
  rw [List.getElem?_map, hc] at ht
  have e := Option.some.inj ht
  rw [← e, List.getElem?_map, hd] at hr
  exact Option.some.inj hr
theorem isX_of {K : PySem.W.Frag} {H : Hp} {Q : VK} {a C : Addr} {fs : Option (List (Str × V))} {c : V} {u : Value} {b : Bool} (hx : IsX H a C fs) (k : ExK K C) (hc : ClsV c u) (e : PySem.W.kitOne K (.ref C) u = some b) (q : Q (.bl b) H) : rIsX K [.ref a, c] H Q := ⟨a, C, fs, c, u, b, rfl, hx, k, hc, e, q⟩
theorem IsX.same {H H' : Hp} {a C : Addr} {fs : Option (List (Str × V))} (x : IsX H a C fs) (s : Same H H') : IsX H' a C fs := by
  cases fs with
  | none => exact s _ _ x
  | some l =>
    obtain ⟨d, x, y⟩ := x
    exact ⟨d, s _ _ x, s _ _ y⟩
end Z

/-! repr of data of any kind: also with dicts of texts and ints in it. -/
namespace Z
open PySem PySem.Spec PyProof.Rows L2
mutual
/-- a value's data; dicts of texts and ints among it -/
inductive Dx (H : Hp) : V → PyData → Prop
  | non : Dx H .non .none
  | bl (b : Bool) : Dx H (.bl b) (.bool b)
  | int (i : Int) : Dx H (.int i) (.int i)
  | str (x : Str) : Dx H (.str x) (.str x)
  | lst {a : Addr} {xs : List V} {ds : List PyData} : H a = some (.lst xs) → DxAll H xs ds → Dx H (.ref a) (.list ds)
  | tup {a : Addr} {xs : List V} {ds : List PyData} : H a = some (.tup xs) → DxAll H xs ds → Dx H (.ref a) (.tuple ds)
  | dct {a : Addr} {ks : List (Str × Int)} : H a = some (.dK (ks.map fun p => (.inr p.1, .int p.2))) → Dx H (.ref a) (.dict (ks.map fun p => (.str p.1, .int p.2)))
inductive DxAll (H : Hp) : List V → List PyData → Prop
  | nil : DxAll H [] []
  | cons {v : V} {vs : List V} {d : PyData} {ds : List PyData} : Dx H v d → DxAll H vs ds → DxAll H (v :: vs) (d :: ds)
end
mutual
theorem Dx.same {H H' : Hp} (s : Same H H') : ∀ (d : PyData) (v : V), Dx H v d → Dx H' v d
  | .none, _, h => by cases h; exact .non
  | .bool b, _, h => by cases h; exact .bl b
  | .int i, _, h => by cases h; exact .int i
  | .str x, _, h => by cases h; exact .str x
  | .list ds, _, h => by
    cases h with
    | lst h1 h2 => exact .lst (s _ _ h1) (DxAll.same s ds _ h2)
  | .tuple ds, _, h => by
    cases h with
    | tup h1 h2 => exact .tup (s _ _ h1) (DxAll.same s ds _ h2)
  | .dict kvs, _, h => by
    cases h with
    | dct h1 => exact .dct (s _ _ h1)
theorem DxAll.same {H H' : Hp} (s : Same H H') : ∀ (ds : List PyData) (vs : List V), DxAll H vs ds → DxAll H' vs ds
  | [], _, h => by cases h; exact .nil
  | d :: ds, _, h => by
    cases h with
    | cons h1 h2 => exact .cons (Dx.same s d _ h1) (DxAll.same s ds _ h2)
end
/-- what is known of the writing of a value -/
def Wr (P : Program) (w : World) (h : Heap) (u : Value) (d : PyData) : Prop := ∃ as bs, Reads h u d as ∧ ReadAtMost h d.depth bs ∧ ReprK P w bs h d.depth u d.shown
def WrAll (P : Program) (w : World) (h : Heap) (us : List Value) (ds : List PyData) : Prop := ∃ as bs, ReadsAll h us ds as ∧ ReadAtMost h (PyData.depthAll ds) bs ∧ ReprAllK P w bs h (PyData.depthAll ds) us (PyData.shownAll ds)
theorem keys_read {P : Program} {w : World} {h : Heap} : ∀ {ks : List (Str × Int)} {vs : List (Key × Value)} {es : List DictEntry}, KV (ks.map fun p => (.inr p.1, .int p.2)) vs → Pairs (mixKind P w) es vs → (∀ p ∈ ks, p.2.natAbs.log2 < 1920) → (∀ p ∈ ks, (reprText p.1).length ≤ sizeLine) →
    ReadsAll h (es.map (·.key)) (ks.map fun p => .str p.1) [] ∧ ReadsAll h (es.map (·.val)) (ks.map fun p => .int p.2) [] ∧ ReprEntriesK P w [] h 0 es (PyData.shownKv (ks.map fun p => (.str p.1, .int p.2)))
  | [], vs, es, kv, ps, _, _ => by
    cases kv
    cases ps
    exact ⟨.nil, .nil, .nil⟩
  | (x, i) :: ks, vs, es, kv, ps, hi, hz => by
    cases kv with
    | @cons p q ps' qs kh kt =>
      obtain ⟨e1, e2⟩ := kh
      obtain ⟨k, v⟩ := q
      dsimp only at e1 e2
      subst e1
      obtain ⟨t, rfl⟩ := (show ∃ t, v = Value.int i t from e2)
      cases ps with
      | @cons e kv es' kvs isk isv pt =>
        have hz1 : (reprText x).length ≤ sizeLine := hz (x, i) (.head _)
        have hi1 : i.natAbs.log2 < 1920 := hi (x, i) (.head _)
        obtain ⟨r1, r2, r3⟩ := keys_read (h := h) kt pt (fun p hp => hi p (.tail _ hp)) fun p hp => hz p (.tail _ hp)
        dsimp only at isk isv
        rcases keyIs_shape (show keyIs (.inr x) e.key = true from isk) with ⟨j, t', z, _⟩ | ⟨y, t', z, ek⟩
        · cases z
        · cases z
          obtain ⟨eh, ekey, ev⟩ := e
          dsimp only at isv ek
          subst ek isv
          refine ⟨.cons (as := []) (.str _ _) r1, .cons (as := []) (.int _ _) r2, ?_⟩
          simp only [List.map_cons, PyData.shownKv, PyData.shown]
          exact .cons (.of_is (ReprIs.str x t' hz1) _ _ _) (.of_is (ReprIs.int t hi1) _ _ _) r3
theorem dct_open {X : Cx} {pins : List (Addr × Obj)} {σ : L2.St} {H : Hp} {s : Shared} (I : Inv X pins σ H s) {a : Addr} {ks : List (Str × Int)} (h1 : H a = some (.dK (ks.map fun p => (.inr p.1, .int p.2)))) (sh : (PyData.dict (ks.map fun p => (.str p.1, .int p.2))).showable = true) (sz : (PyData.dict (ks.map fun p => (.str p.1, .int p.2))).shown.length ≤ sizeLine) :
    ∃ (o : Obj) (es : Array DictEntry) (ep : Nat), s.heap.get? a = some o ∧ o.cls = .type "dict" ∧ o.data = .dict es ep ∧ (a == sysModules) = false ∧ ReadsAll s.heap (es.toList.map (·.key)) (ks.map fun p => .str p.1) [] ∧ ReadsAll s.heap (es.toList.map (·.val)) (ks.map fun p => .int p.2) [] ∧
      ReprEntriesK X.prog X.w [] s.heap 0 es.toList (PyData.shownKv (ks.map fun p => (.str p.1, .int p.2))) := by
  obtain ⟨_, ys, vs, kv, o, es, ep, ho, ex, hd, _, ps, _⟩ := (show ObjOk X.prog X.w H s.heap a (.dK (ks.map fun p => (.inr p.1, .int p.2))) from I.hok a _ h1)
  have sz2 : (dictText (PyData.shownKv (ks.map fun p => (.str p.1, .int p.2)))).length ≤ sizeLine := by simpa only [PyData.shown] using sz
  have hi : ∀ p ∈ ks, p.2.natAbs.log2 < 1920 := by
    have z : ∀ l : List (Str × Int), PyData.showableKv (l.map fun p => (.str p.1, .int p.2)) = true → ∀ p ∈ l, p.2.natAbs.log2 < 1920 := by
      intro l
      induction l with
      | nil => exact fun _ _ h => nomatch h
      | cons p l ih =>
        intro h
        simp only [List.map_cons, PyData.showableKv, PyData.showable, Bool.and_eq_true, Bool.true_and, decide_eq_true_eq] at h
        intro q hq
        rcases List.mem_cons.mp hq with rfl | hq
        · exact h.1
        · exact ih h.2 q hq
    exact z ks (by simpa [PyData.showable] using sh)
  have hz : ∀ p ∈ ks, (reprText p.1).length ≤ sizeLine := fun p hp => by
    have m : reprText p.1 ∈ PyData.shownAll ((ks.map fun p => ((.str p.1 : PyData), (.int p.2 : PyData))).map (·.1)) := by
      rw [List.map_map]
      have : ∀ l : List (Str × Int), p ∈ l → reprText p.1 ∈ PyData.shownAll (l.map (Prod.fst ∘ fun p => ((.str p.1 : PyData), (.int p.2 : PyData)))) := by
        intro l
        induction l with
        | nil => exact fun h => nomatch h
        | cons q l ih =>
          intro h
          simp only [List.map_cons, PyData.shownAll, Function.comp, PyData.shown]
          rcases List.mem_cons.mp h with rfl | h
          · exact .head _
          · exact .tail _ (ih h)
      exact this ks hp
    obtain ⟨q, hq, hl⟩ := PyData.shownKv_key_le _ _ m
    exact Nat.le_trans hl (Nat.le_trans (dictText_mem_le hq) sz2)
  obtain ⟨r1, r2, r3⟩ := keys_read (P := X.prog) (w := X.w) (h := s.heap) kv ps hi hz
  exact ⟨o, es, ep, ho, ex.1, hd, ys, r1, r2, r3⟩
mutual
theorem dx_wr {X : Cx} {pins : List (Addr × Obj)} {σ : L2.St} {H : Hp} {s : Shared} (I : Inv X pins σ H s) : ∀ (d : PyData) (v : V) (u : Value), Dx H v d → RelV v u → d.showable = true → d.shown.length ≤ sizeLine → Wr X.prog X.w s.heap u d
  | .none, _, u, h, r, _, _ => by
    cases h
    cases (show u = Value.none from r)
    refine ⟨[], [], .none, fun _ h => (nomatch h), ?_⟩
    simp only [PyData.shown]
    exact .of_is ReprIs.none _ _ _
  | .bool b, _, u, h, r, _, _ => by
    cases h
    cases (show u = Value.bool b from r)
    refine ⟨[], [], .bool b, fun _ h => (nomatch h), ?_⟩
    simp only [PyData.shown]
    exact .of_is (ReprIs.bool b) _ _ _
  | .int i, _, u, h, r, sh, _ => by
    cases h
    obtain ⟨t, rfl⟩ := (show ∃ t, u = Value.int i t from r)
    refine ⟨[], [], .int i t, fun _ h => (nomatch h), ?_⟩
    simp only [PyData.shown]
    exact .of_is (ReprIs.int t (by simpa [PyData.showable] using sh)) _ _ _
  | .str x, _, u, h, r, _, sz => by
    cases h
    obtain ⟨t, rfl⟩ := (show ∃ t, u = Value.str x t from r)
    refine ⟨[], [], .str x t, fun _ h => (nomatch h), ?_⟩
    simp only [PyData.shown]
    exact .of_is (ReprIs.str x t (by simpa only [PyData.shown] using sz)) _ _ _
  | .list ds, _, u, h, r, sh, sz => by
    cases h with
    | @lst a xs _ h1 h2 =>
      cases (show u = Value.ref a from r)
      obtain ⟨_, its, n, rv, ho⟩ := (show ObjOk X.prog X.w H s.heap a (.lst xs) from I.hok a _ h1)
      have sz2 : (listText (PyData.shownAll ds)).length ≤ sizeLine := by simpa only [PyData.shown] using sz
      obtain ⟨as, bs, rs, hb, hk⟩ := dxAll_wr I ds xs its h2 rv (by simpa [PyData.showable] using sh) fun t ht => Nat.le_trans (listText_mem_le ht) sz2
      have rd : Reads s.heap (.ref a) (.list ds) (a :: as) := .list ho rfl rfl (by simpa using rs)
      have na : a ∉ bs := not_mem_of_deeper rd (by simp only [PyData.depth]; omega) hb
      refine ⟨_, a :: bs, rd, .cons rd (by simp only [PyData.depth]; omega) hb, ?_⟩
      simp only [PyData.depth, PyData.shown]
      cases its with
      | nil =>
        cases rs
        simp only [PyData.shownAll, listText_nil]
        exact ReprK.listEmpty ho rfl rfl
      | cons x l => exact ReprK.list ho rfl rfl na (by simpa using hk.length_eq) fun i y e => hk.item i y (by simpa using e)
  | .tuple ds, _, u, h, r, sh, sz => by
    cases h with
    | @tup a xs _ h1 h2 =>
      cases (show u = Value.ref a from r)
      obtain ⟨_, its, rv, o, ho, hc, n, hd⟩ := (show ObjOk X.prog X.w H s.heap a (.tup xs) from I.hok a _ h1)
      have sz2 : (tupleText (PyData.shownAll ds)).length ≤ sizeLine := by simpa only [PyData.shown] using sz
      obtain ⟨as, bs, rs, hb, hk⟩ := dxAll_wr I ds xs its h2 rv (by simpa [PyData.showable] using sh) fun t ht => Nat.le_trans (tupleText_mem_le ht) sz2
      have rd : Reads s.heap (.ref a) (.tuple ds) as := .tuple ho hc hd (by simpa using rs)
      have na : a ∉ bs := not_mem_of_deeper rd (by simp only [PyData.depth]; omega) hb
      refine ⟨_, a :: bs, rd, .cons rd (by simp only [PyData.depth]; omega) hb, ?_⟩
      simp only [PyData.depth, PyData.shown]
      exact ReprK.tuple ho hc hd na (by simpa using hk)
  | .dict kvs, _, u, h, r, sh, sz => by
    generalize hkv : kvs = kvs2 at h sh sz
    cases h with
    | @dct a ks h1 =>
      cases (show u = Value.ref a from r)
      obtain ⟨o, es, ep, ho, hc, hd, ys, r1, r2, r3⟩ := dct_open I h1 sh sz
      have m1 : ((ks.map fun p => ((.str p.1 : PyData), (.int p.2 : PyData))).map (·.1)) = ks.map fun p => .str p.1 := by rw [List.map_map]; rfl
      have m2 : ((ks.map fun p => ((.str p.1 : PyData), (.int p.2 : PyData))).map (·.2)) = ks.map fun p => .int p.2 := by rw [List.map_map]; rfl
      have rd : Reads s.heap (.ref a) (.dict (ks.map fun p => (.str p.1, .int p.2))) (a :: [] ++ []) := .dict ho hc hd (by rw [m1]; exact r1) (by rw [m2]; exact r2)
      refine ⟨_, [a], rd, .cons rd (Nat.zero_le _) (fun _ h => nomatch h), ?_⟩
      have k0 : ReprK X.prog X.w [a] s.heap (0 + 1) (.ref a) (dictText (PyData.shownKv (ks.map fun p => (.str p.1, .int p.2)))) := ReprK.dict ho hc hd ys (by simp) r3
      simp only [PyData.shown]
      exact k0.level_le (by simp only [PyData.depth]; omega)
theorem dxAll_wr {X : Cx} {pins : List (Addr × Obj)} {σ : L2.St} {H : Hp} {s : Shared} (I : Inv X pins σ H s) : ∀ (ds : List PyData) (vs : List V) (us : List Value), DxAll H vs ds → Vals vs us → PyData.showableAll ds = true → (∀ t ∈ PyData.shownAll ds, t.length ≤ sizeLine) → WrAll X.prog X.w s.heap us ds
  | [], _, us, h, r, _, _ => by
    cases h
    cases r
    refine ⟨[], [], .nil, fun _ h => (nomatch h), ?_⟩
    simp only [PyData.shownAll]
    exact .nil
  | d :: ds, _, us, h, r, sh, sz => by
    cases h with
    | cons h1 h2 =>
      cases r with
      | cons r1 r2 =>
        simp only [PyData.showableAll, Bool.and_eq_true] at sh
        simp only [PyData.shownAll, List.mem_cons] at sz
        obtain ⟨as, bs, rd, hb, hk⟩ := dx_wr I d _ _ h1 r1 sh.1 (sz _ (.inl rfl))
        obtain ⟨as', bs', rd', hb', hk'⟩ := dxAll_wr I ds _ _ h2 r2 sh.2 fun t ht => sz t (.inr ht)
        refine ⟨as ++ as', bs ++ bs', .cons rd rd', ?_, ?_⟩
        · simp only [PyData.depthAll]
          exact (hb.mono (Nat.le_max_left _ _)).append (hb'.mono (Nat.le_max_right _ _))
        · simp only [PyData.depthAll, PyData.shownAll]
          exact .cons ((hk.more fun b hb => List.mem_append_left _ hb).level_le (Nat.le_max_left _ _)) (hk'.more_le (fun b hb => List.mem_append_right _ hb) (Nat.le_max_right _ _))
end
/-- repr(x) -/
def rReprX : List V → Hp → VK → Prop := fun vs H Q => ∃ v d, vs = [v] ∧ Dx H v d ∧ d.showable = true ∧ d.shown.length ≤ sizeLine ∧ d.depth ≤ 60 ∧ Q (.str d.shown) H
theorem call_reprX {X : Cx} (hu : X.A.units + 64 < cLine) (gd : X.A.guards = some []) : CallR X (.builtin "repr") rReprX := by
  intro pins s σ H vs us Q I r h
  obtain ⟨v, d, rfl, hd, sh, sz, dp, q⟩ := h
  obtain ⟨u, rfl, ru⟩ := vals1 r
  have fin : ∀ h' u' tk, (∀ b o, s.heap.get? b = some o → h'.get? b = some o) → EP X pins σ Q (.str d.shown u') { s with heap := h', toks := tk } := fun h' u' tk hk => ⟨.str d.shown, H, I.kept (t' := tk) hk, ⟨_, rfl⟩, q⟩
  have gd1 : X.A.in1.guards = some [] := gd
  have hu1 : X.A.in1.units + 62 < cLine := by
    show X.A.units + 1 + 62 < cLine
    omega
  cases hd with
  | non =>
    cases (show u = Value.none from ru)
    have f := fin s.heap s.toks (s.toks + 1) fun _ _ e => e
    simp only [PyData.shown] at f
    exact PySem.P.repr_of_none f
  | bl b =>
    cases (show u = Value.bool b from ru)
    have f := fin s.heap s.toks (s.toks + 1) fun _ _ e => e
    simp only [PyData.shown] at f
    exact PySem.P.repr_of_bool f
  | int i =>
    obtain ⟨t, rfl⟩ := (show ∃ t, u = Value.int i t from ru)
    have f := fin s.heap s.toks (s.toks + 1) fun _ _ e => e
    simp only [PyData.shown] at f
    exact PySem.P.repr_of_int (by simpa [PyData.showable] using sh) f
  | str x =>
    obtain ⟨t, rfl⟩ := (show ∃ t, u = Value.str x t from ru)
    have f := fin s.heap s.toks (s.toks + 1) fun _ _ e => e
    simp only [PyData.shown] at f
    exact PySem.P.repr_of_str f (by simpa only [PyData.shown] using sz)
  | @lst a xs ds h1 h2 =>
    cases (show u = Value.ref a from ru)
    obtain ⟨_, its, n, rv, ho⟩ := (show ObjOk X.prog X.w H s.heap a (.lst xs) from I.hok a _ h1)
    simp only [PyData.shown] at sz fin
    simp only [PyData.depth] at dp
    obtain ⟨as, bs, rs, hb, hk⟩ := dxAll_wr I ds xs its h2 rv (by simpa [PyData.showable] using sh) fun t ht => Nat.le_trans (listText_mem_le ht) sz
    have rd : Reads s.heap (.ref a) (.list ds) (a :: as) := .list ho rfl rfl (by simpa using rs)
    have na : a ∉ bs := not_mem_of_deeper rd (by simp only [PyData.depth]; omega) hb
    refine call_repr_slot (by omega) ⟨_, ho, rfl⟩ F.slot_list_repr.toG ?_
    cases its with
    | nil =>
      cases rs
      refine call_list_repr_empty ⟨_, ho, rfl⟩ ho rfl ⟨_, _, rfl, ?_⟩
      have f := fin s.heap s.toks (s.toks + 1) fun _ _ e => e
      simp only [PyData.shownAll, listText_nil] at f
      exact f
    | cons x l => exact call_list_reprK ho rfl rfl na (by simpa using hk.length_eq) (fun i y e => hk.item i y (by simpa using e)) gd1 (fun b _ => Clear.nil b) (by omega) (fun _ _ e => e) (fun h' u' tk hk => ⟨_, _, rfl, fin h' u' tk hk⟩) sz
  | @tup a xs ds h1 h2 =>
    cases (show u = Value.ref a from ru)
    obtain ⟨_, its, rv, o, ho, hc, n, hd⟩ := (show ObjOk X.prog X.w H s.heap a (.tup xs) from I.hok a _ h1)
    simp only [PyData.shown] at sz fin
    simp only [PyData.depth] at dp
    obtain ⟨as, bs, rs, hb, hk⟩ := dxAll_wr I ds xs its h2 rv (by simpa [PyData.showable] using sh) fun t ht => Nat.le_trans (tupleText_mem_le ht) sz
    have rd : Reads s.heap (.ref a) (.tuple ds) as := .tuple ho hc hd (by simpa using rs)
    have na : a ∉ bs := not_mem_of_deeper rd (by simp only [PyData.depth]; omega) hb
    refine call_repr_slot (by omega) ⟨_, ho, hc⟩ F.slot_tuple_repr ?_
    exact call_tuple_reprK ho hc hd na (by simpa using hk) gd1 (fun b _ => Clear.nil b) (by omega) (fun _ _ e => e) (fun h' u' tk hk => ⟨_, _, rfl, fin h' u' tk hk⟩) sz
  | @dct a ks h1 =>
    cases (show u = Value.ref a from ru)
    obtain ⟨o, es, ep, ho, hc, hd, ys, r1, r2, r3⟩ := dct_open I h1 sh sz
    simp only [PyData.shown] at sz fin
    refine call_repr_slot (by omega) ⟨_, ho, hc⟩ F.slot_dict_repr ?_
    exact call_dict_reprK ho hc hd ys (by simp) r3 gd1 (fun b _ => Clear.nil b) (by omega) (fun _ _ e => e) (fun h' u' tk hk => ⟨_, _, rfl, fin h' u' tk hk⟩) sz
end Z

/-! l.count(True), l.index(True) of a list of truths. -/
namespace Z
open PySem PySem.Spec PyProof.Rows L2
def blD (bs : List Bool) : List PyData := bs.map PyData.bool
theorem dp_bls {K : PySem.W.Frag} {H : Hp} : ∀ bs : List Bool, DpAll K H (bs.map V.bl) (blD bs)
  | [] => .nil
  | b :: r => .cons (.bl b) (dp_bls r)
theorem can_bls : ∀ bs : List Bool, PyData.canLayAll0 (blD bs) = true
  | [] => rfl
  | b :: r => by
    simp only [blD, List.map_cons, PyData.canLayAll0, PyData.canLay0, Bool.true_and]
    exact can_bls r
theorem depth_bls : ∀ bs : List Bool, PyData.depthAll (blD bs) = 0
  | [] => rfl
  | b :: r => by
    have h := depth_bls r
    simp only [blD, List.map_cons, PyData.depthAll, PyData.depth] at h ⊢
    omega
theorem shaped_bls (bs : List Bool) : SeqAt.shaped (.list (blD bs)) = true := by
  unfold SeqAt.shaped
  rw [Bool.and_eq_true]
  refine ⟨can_bls bs, decide_eq_true ?_⟩
  have h := depth_bls bs
  simp only [PyData.depth]
  omega
theorem shaped_bl (b : Bool) : SeqAt.shaped (.bool b) = true := by cases b <;> decide
theorem eqv_bl (b c : Bool) : PyData.eqv (.bool b) (.bool c) = (b == c) := by cases b <;> cases c <;> decide
theorem eqv_bls : ∀ bs cs : List Bool, PyData.eqv (.list (blD bs)) (.list (blD cs)) = (bs == cs) := by
  intro bs
  induction bs with
  | nil =>
    intro cs
    cases cs with
    | nil => rfl
    | cons c cs => simp [blD, PyData.eqv, PyData.eqvAll]
  | cons b bs ih =>
    intro cs
    cases cs with
    | nil => simp [blD, PyData.eqv, PyData.eqvAll]
    | cons c cs =>
      have h := ih cs
      have e := eqv_bl b c
      simp only [blD, List.map_cons, PyData.eqv, PyData.eqvAll] at h e ⊢
      rw [h]
      cases b <;> cases c <;> simp_all
section
variable {X : Cx}
def rIxB : V → List V → Hp → VK → Prop := fun x xs H Q => ∃ (a : Addr) (bs : List Bool) (j : Nat), x = .ref a ∧ xs = [.bl true] ∧ H a = some (.lst (bs.map V.bl)) ∧ bs[j]? = some true ∧ (∀ m, m < j → bs[m]? = some false) ∧ Q (.int (j : Nat)) H
theorem mt_indexB (hu : X.A.units + 65 < cLine) : MtR X "list.index" rIxB := by
  intro pins s σ H x xs v us Q I rx rxs h
  obtain ⟨a, bs, j, rfl, rfl, ha, hj, hm, q⟩ := h
  refine mt_indexD hu pins s σ H _ _ v us Q I rx rxs ⟨a, .bl true, .bool true, blD bs, j, .bool true, rfl, rfl, .lst (SqL.of ha) (dp_bls bs), .bl true, shaped_bls bs, shaped_bl true, ?_, eqv_bl _ _, fun m z hmj hz => ?_, q⟩
  · simp [blD, hj]
  · have e := hm m hmj
    simp only [blD, List.getElem?_map, e, Option.map_some, Option.some.injEq] at hz
    rw [← hz]
    exact eqv_bl _ _
def rCntB : V → List V → Hp → VK → Prop := fun x xs H Q => ∃ (a : Addr) (bs : List Bool), x = .ref a ∧ xs = [.bl true] ∧ H a = some (.lst (bs.map V.bl)) ∧ Q (.int (bs.count true : Nat)) H
theorem mt_lcountB (hu : X.A.units + 65 < cLine) : MtR X "list.count" rCntB := by
  intro pins s σ H x xs v us Q I rx rxs h
  obtain ⟨a, bs, rfl, rfl, ha, q⟩ := h
  cases rx
  cases rxs with
  | @cons _ uy _ _ ry rt =>
    cases rt
    cases (show uy = Value.bool true from ry)
    obtain ⟨its, rv, ⟨⟨cls, dd, data, sls⟩, n, ho, hc, hdn, hdt⟩, hlen⟩ := I.list (SqL.of ha)
    simp only at hc hdt
    subst hc hdt
    obtain ⟨as, h4⟩ := Dp.readsAll I (blD bs) _ its (dp_bls bs) rv
    have hmap : its.map (SeqAt.readOf s.heap) = blD bs := SeqAt.readsAll_map (blD bs) its as (can_bls bs) h4
    have hroom : X.A.units + 1 + min (PyData.depthAll (blD bs)) (PyData.bool true).depth < cLine := room_in_shaped (shaped_bl true) hu
    refine call_meets PySem.F.slot_list_count ⟨_, ho, rfl⟩ PySem.F.entry_list_count (PySem.F.args_list_count_2 _ _)
      (SeqAt.list_countAt a its.toArray n dd sls (.bool true) fun u => PyData.eqv (SeqAt.readOf s.heap u) (.bool true)) ⟨ho, SeqAt.items_eqAt (vs := its.toArray) (show ReadsAll s.heap its.toArray.toList (blD bs) as from h4) (.bool true) (can_bls bs) rfl hroom, ?_⟩
    have ec : its.toArray.toList.countP (fun u => PyData.eqv (SeqAt.readOf s.heap u) (.bool true)) = bs.count true := by
      have e1 : its.toArray.toList.countP (fun u => PyData.eqv (SeqAt.readOf s.heap u) (.bool true)) = (its.map (SeqAt.readOf s.heap)).countP fun z => PyData.eqv z (.bool true) := by
        rw [List.countP_map]
        rfl
      rw [e1, hmap]
      unfold blD List.count
      rw [List.countP_map]
      refine List.countP_congr fun b _ => ?_
      simp only [Function.comp, eqv_bl]
    rw [ec]
    exact ⟨.int (bs.count true : Nat), H, I.tok _, ⟨s.toks, rfl⟩, q⟩
/-- two lists of truths compared -/
def rEqB : R2 := fun x y H Q => ∃ (a b : Addr) (bs cs : List Bool), x = .ref a ∧ y = .ref b ∧ H a = some (.lst (bs.map V.bl)) ∧ H b = some (.lst (cs.map V.bl)) ∧ Q (.bl (bs == cs)) H
def rNeB : R2 := fun x y H Q => ∃ (a b : Addr) (bs cs : List Bool), x = .ref a ∧ y = .ref b ∧ H a = some (.lst (bs.map V.bl)) ∧ H b = some (.lst (cs.map V.bl)) ∧ Q (.bl (!(bs == cs))) H
theorem op_eqB (hu : X.A.units + 64 < cLine) : OpR X (compareOp .Eq) rEqB := by
  intro pins s σ H x y v u Q I rx ry h
  obtain ⟨a, b, bs, cs, rfl, rfl, ha, hb, q⟩ := h
  exact op_eqD hu pins s σ H _ _ v u Q I rx ry ⟨_, _, .lst (SqL.of ha) (dp_bls bs), .lst (SqL.of hb) (dp_bls cs), shaped_bls bs, shaped_bls cs, by rw [eqv_bls]; exact q⟩
theorem op_neB (hu : X.A.units + 64 < cLine) : OpR X (compareOp .NotEq) rNeB := by
  intro pins s σ H x y v u Q I rx ry h
  obtain ⟨a, b, bs, cs, rfl, rfl, ha, hb, q⟩ := h
  exact op_neD hu pins s σ H _ _ v u Q I rx ry ⟨_, _, .lst (SqL.of ha) (dp_bls bs), .lst (SqL.of hb) (dp_bls cs), shaped_bls bs, shaped_bls cs, by rw [eqv_bls]; exact q⟩
end
end Z

namespace K01
open PySem PySem.Spec PyProof.Rows L2 Z ZX
/-- the words of the classes, as the laws have them -/
def errN : List Str := ["InvalidText", "InvalidNumber", "InvalidKind", "InvalidParty", "InvalidName", "InvalidWish", "NotABook", "InvalidRows", "InvalidSeats", "InvalidExchanges", "InvalidWishes", "UnknownName", "InUse", "NotFull", "TooMany", "NoRoom", "Broken", "NothingToUndo"]
def excN : List Str := errN ++ (["WrongValue", "WrongName", "NoAnswer"] : List Str)
def excV (mg : Str → Option Value) : List Value := excN.map fun x => Value.ref (clsA mg x)
def excD (mg : Str → Option Value) : List Value := excV mg ++ [.type "ValueError", .type "LookupError", .type "ArithmeticError"]
/-- whether the i-th class is under the j-th -/
def und (i j : Nat) : Bool := if j < 18 then i == j else if j == 18 || j == 21 then decide (i < 11) || i == 18 else if j == 19 || j == 22 then decide (10 < i ∧ i < 13) || i == 19 else decide (12 < i ∧ i < 18) || i == 20
def errTab : List (List (Option Bool)) := (List.range 21).map fun i => (List.range 24).map fun j => some (und i j)
theorem errTab_at {i j : Nat} (hi : i < 21) (hj : j < 24) : ∃ r, errTab[i]? = some r ∧ r[j]? = some (some (und i j)) := by
  refine ⟨(List.range 24).map fun j => some (und i j), ?_, ?_⟩
  · unfold errTab
    rw [List.getElem?_map, List.getElem?_range hi]
    rfl
  · rw [List.getElem?_map, List.getElem?_range hj]
    rfl
/-- the name of the attribute of a class with one -/
def fldN (i : Nat) : Str := if i < 7 then "given" else if i < 11 then "index" else if i == 12 then "index" else if i == 15 then "shown" else "given"
def bs18 (i : Nat) : List Bool := [und i 0, und i 1, und i 2, und i 3, und i 4, und i 5, und i 6, und i 7, und i 8, und i 9, und i 10, und i 11, und i 12, und i 13, und i 14, und i 15, und i 16, und i 17]
theorem und_count : ∀ i, i < 18 → (bs18 i).count true = 1 := by decide
theorem und_index : ∀ i, i < 18 → (bs18 i)[i]? = some true ∧ ∀ m, m < i → (bs18 i)[m]? = some false := by decide
theorem und_bases : ∀ i, i < 18 → und i 18 = und i 21 ∧ und i 19 = und i 22 ∧ und i 20 = und i 23 := by decide
theorem und_three : ∀ i, i < 18 → und i 18 = decide ((i : Int) < 11) ∧ und i 19 = (decide ((10 : Int) < i) && decide ((i : Int) < 13)) ∧ und i 20 = decide ((12 : Int) < i) := by decide

theorem sz1000 {n : Nat} (h : n ≤ 1000) : n ≤ sizeLine := by
  rw [sizeLine_eq]
  omega
/-- values that are known ahead -/
def GV (H : Hp) (σ : L2.St) (ys : List V) (ta : TA) : Prop := ∀ R : List V → Hp → Prop, R ys H → ta σ H R
theorem GV.nil {H : Hp} {σ : L2.St} : GV H σ [] tNil := fun R r => r
theorem GV.cons {H : Hp} {σ : L2.St} {x : V} {ys : List V} {te : TE} {ta : TA} (a : ∀ R : VK, R x H → te σ H R) (b : GV H σ ys ta) : GV H σ (x :: ys) (tCons te ta) := fun R r => a _ (b _ r)
theorem GV.str {H : Hp} {σ : L2.St} {z : Str} (R : VK) (r : R (.str z) H) : tC (.str z) σ H R := r
theorem lstV {H : Hp} {σ : L2.St} {ys : List V} {ta : TA} {Q : VK} (g : GV H σ ys ta) (h : ∀ q H2, Same H H2 → H q = none → H2 q = some (.lst ys) → Q (.ref q) H2) (hn : ys.length ≤ 500) : tLst ta σ H Q :=
  g _ ⟨sz1000 (by omega), fun q hq => h q _ (same_new hq) hq upd_same⟩
theorem catV {H : Hp} {σ : L2.St} {i : Nat} {p : Addr} {xs ys : List V} {ta : TA} {Q : VK} (hσ : σ[i]? = some (some (.ref p))) (hp : H p = some (.lst xs)) (g : GV H σ ys ta) (h : ∀ q H2, Same H H2 → H q = none → H2 q = some (.lst (xs ++ ys)) → Q (.ref q) H2) (hx : xs.length ≤ 500) (hn : ys.length ≤ 400) : tOp rCat (tVar i) (tLst ta) σ H Q := by
  refine ⟨_, hσ, ?_⟩
  refine lstV g (fun q H2 s2 n2 e2 => ?_) (by omega)
  refine ⟨p, q, xs, ys, rfl, rfl, s2 _ _ hp, e2, sz1000 (by omega), fun r hr => ?_⟩
  exact h r _ (same_upd s2 (s2.free hr)) (s2.free hr) upd_same

def top (i : Nat) : Stmt := PySem.Challenge.pw_extendrounds_k01_errors_and_limits.main.body.getD i (.Pass ⟨0, 0, 0, 0⟩)
abbrev s__law_spring : Stmt := top 29
abbrev N__law_spring : List Str := ["_law_cells", "_law_k", "_law_cell", "_law_mixed", "_law_number"]
theorem sc__law_spring : FnScope N__law_spring ["_law_cells", "_law_k"] (defScope s__law_spring) := ⟨rfl, rfl, rfl, by decide +kernel, rfl, by decide +kernel, by decide +kernel⟩
abbrev s__law_draw : Stmt := top 30
abbrev N__law_draw : List Str := ["_law_spring_here", "_law_size", "_law_digit", "_law_far", "_law_mixed"]
theorem sc__law_draw : FnScope N__law_draw ["_law_spring_here", "_law_size"] (defScope s__law_draw) := ⟨rfl, rfl, rfl, by decide +kernel, rfl, by decide +kernel, by decide +kernel⟩
abbrev s__law_of : Stmt := top 31
abbrev N__law_of : List Str := ["_law_spring_here", "_law_menu"]
theorem sc__law_of : FnScope N__law_of ["_law_spring_here", "_law_menu"] (defScope s__law_of) := ⟨rfl, rfl, rfl, by decide +kernel, rfl, by decide +kernel, by decide +kernel⟩
abbrev s__law_error : Stmt := top 32
abbrev N__law_error : List Str := ["_law_e", "_law_fits_here", "_law_words", "_law_bases", "_law_plain_ones", "_law_at"]
theorem sc__law_error : FnScope N__law_error ["_law_e"] (defScope s__law_error) := ⟨rfl, rfl, rfl, by decide +kernel, rfl, by decide +kernel, by decide +kernel⟩
abbrev s__law_field : Stmt := top 33
abbrev N__law_field : List Str := ["_law_e", "_law_word_now"]
theorem sc__law_field : FnScope N__law_field ["_law_e", "_law_word_now"] (defScope s__law_field) := ⟨rfl, rfl, rfl, by decide +kernel, rfl, by decide +kernel, by decide +kernel⟩
abbrev s__law_odd : Stmt := top 34
abbrev N__law_odd : List Str := ["_law_spring_here", "_law_some"]
theorem sc__law_odd : FnScope N__law_odd ["_law_spring_here"] (defScope s__law_odd) := ⟨rfl, rfl, rfl, by decide +kernel, rfl, by decide +kernel, by decide +kernel⟩
abbrev s__law_errors : Stmt := top 35
abbrev N__law_errors : List Str := ["_law_thing", "_law_some"]
theorem sc__law_errors : FnScope N__law_errors ["_law_thing"] (defScope s__law_errors) := ⟨rfl, rfl, rfl, by decide +kernel, rfl, by decide +kernel, by decide +kernel⟩
abbrev s__law_right : Stmt := top 36
abbrev N__law_right : List Str := ["_law_spring_here", "_law_thing", "_law_mate_thing", "_law_words", "_law_some", "_law_k", "_law_word_now", "_law_pairs", "_law_each"]
theorem sc__law_right : FnScope N__law_right ["_law_spring_here"] (defScope s__law_right) := ⟨rfl, rfl, rfl, by decide +kernel, rfl, by decide +kernel, by decide +kernel⟩
abbrev s_law : Stmt := top 37
abbrev N_law : List Str := ["_law_script", "_law_told", "_law_bases", "_law_k"]
theorem sc_law : FnScope N_law ["_law_script"] (defScope s_law) := ⟨rfl, rfl, rfl, by decide +kernel, rfl, by decide +kernel, by decide +kernel⟩
/-- what the top has made -/
structure Env (P : Program) (K : PySem.W.Frag) (mg : Str → Option Value) : Prop where
  d__law_spring : Here K mg "_law_spring" s__law_spring
  d__law_draw : Here K mg "_law_draw" s__law_draw
  d__law_of : Here K mg "_law_of" s__law_of
  d__law_error : Here K mg "_law_error" s__law_error
  d__law_field : Here K mg "_law_field" s__law_field
  d__law_odd : Here K mg "_law_odd" s__law_odd
  d__law_errors : Here K mg "_law_errors" s__law_errors
  d__law_right : Here K mg "_law_right" s__law_right
  d_law : Here K mg "law" s_law
  x_WrongValue : ExM0 K mg "WrongValue"
  x_InvalidText : ExM P K mg "InvalidText" "given"
  x_InvalidNumber : ExM P K mg "InvalidNumber" "given"
  x_InvalidKind : ExM P K mg "InvalidKind" "given"
  x_InvalidParty : ExM P K mg "InvalidParty" "given"
  x_InvalidName : ExM P K mg "InvalidName" "given"
  x_InvalidWish : ExM P K mg "InvalidWish" "given"
  x_NotABook : ExM P K mg "NotABook" "given"
  x_InvalidRows : ExM P K mg "InvalidRows" "index"
  x_InvalidSeats : ExM P K mg "InvalidSeats" "index"
  x_InvalidExchanges : ExM P K mg "InvalidExchanges" "index"
  x_InvalidWishes : ExM P K mg "InvalidWishes" "index"
  x_WrongName : ExM0 K mg "WrongName"
  x_UnknownName : ExM P K mg "UnknownName" "given"
  x_InUse : ExM P K mg "InUse" "index"
  x_NoAnswer : ExM0 K mg "NoAnswer"
  x_NotFull : ExM P K mg "NotFull" "given"
  x_TooMany : ExM P K mg "TooMany" "given"
  x_NoRoom : ExM P K mg "NoRoom" "shown"
  x_Broken : ExM2 P K mg "Broken"
  x_NothingToUndo : ExM0 K mg "NothingToUndo"
  t_err : kitTab K (excV mg) (excD mg) = errTab
  b_ArithmeticError : mg "ArithmeticError" = none
  b_LookupError : mg "LookupError" = none
  b_ValueError : mg "ValueError" = none
  b_abs : mg "abs" = none
  b_all : mg "all" = none
  b_divmod : mg "divmod" = none
  b_int : mg "int" = none
  b_isinstance : mg "isinstance" = none
  b_len : mg "len" = none
  b_max : mg "max" = none
  b_min : mg "min" = none
  b_range : mg "range" = none
  b_repr : mg "repr" = none
  c_MOST_PEOPLE : ∃ t, mg "MOST_PEOPLE" = some (.int 15 t)
  c_MOST_GUESTS : ∃ t, mg "MOST_GUESTS" = some (.int 8 t)
  c_MOST_TIES : ∃ t, mg "MOST_TIES" = some (.int 28 t)
  c_MOST_OPEN : ∃ t, mg "MOST_OPEN" = some (.int 6 t)
  c_MOST_ZIGZAG : ∃ t, mg "MOST_ZIGZAG" = some (.int (1000000000000000000000000000000) t)
  c_MOST_EXCHANGES : ∃ t, mg "MOST_EXCHANGES" = some (.int 5 t)
variable {P : Program} {w : World} {K : PySem.W.Frag} {mg : Str → Option Value} {base : Heap}
def sp__law_spring (K : PySem.W.Frag) : Sp := fun vs H Q _ => ∃ (a : Addr) (k : Int) (ns : List Int), vs = [.ref a, .int k] ∧ SqL K H a (ns.map V.int) ∧ ns.length ≤ 63 ∧ 0 ≤ k ∧ k < 1000 ∧ ∀ p H', H p = none → Same H H' → Spring H' p → Q (.ref p) H'
theorem ok__law_spring (T : Env P K mg) : Hd P w K mg base CX0 1 "_law_spring" s__law_spring ["_law_cells", "_law_k"] (sp__law_spring K) := by
  obtain ⟨f, fd, F, hm⟩ := T.d__law_spring
  refine ⟨⟨f, fd, F, hm, ?_⟩, fun _ _ _ _ _ _ _ us hl => match us, hl with | [_, _], _ => rfl⟩
  refine F.ok sc__law_spring (fun vs H Q E h => ?_) (fun cdv A outer s H vs Q E hr h => ?_)
  · first | (obtain ⟨rfl, _⟩ := h; rfl) | (obtain ⟨_, rfl, _⟩ := h; rfl) | (obtain ⟨_, _, rfl, _⟩ := h; rfl) | (obtain ⟨_, _, _, rfl, _⟩ := h; rfl) | (obtain ⟨_, _, _, _, rfl, _⟩ := h; rfl) | (obtain ⟨_, _, _, _, _, rfl, _⟩ := h; rfl) | (obtain ⟨_, _, _, _, _, _, rfl, _⟩ := h; rfl) | (obtain ⟨_, _, _, _, _, _, _, rfl, _⟩ := h; rfl) | (obtain ⟨_, _, _, _, _, _, _, _, rfl, _⟩ := h; rfl)
  · obtain ⟨a, k, ns, rfl, hs, hl, hk, hk2, q⟩ := h
    have hu := hu_of hr
    refine ⟨_, pss_cons (ps_set (i := 2) sc__law_spring.nd rfl (by first | exact .inl rfl | exact .inr rfl) (pe_ifExp (pt_cmpR op_lt (pv 1) (pe_callB call_len_seq rfl T.b_len (by decide +kernel) (pa_cons (pv 0) pa_nil)) (nomark _)) (pe_ix ix_list (pv 0) (pv 1) (fun _ _ => rfl)) (pe_op op_add (pe_op op_mul pe_int (pv 1)) pe_int)))
      (pss_cons (ps_set (i := 3) sc__law_spring.nd rfl (by first | exact .inl rfl | exact .inr rfl) (pe_op op_add pe_int (pe_op op_mul pe_int (pv 1))))
      (pss_cons (ps_for PassesOwn.never rfl (pi_list (pe_op op_cat (pe_slice sl_list (pv 0) po_none (po_some pe_int)) (pe_lst (pa_cons (pv 2) pa_nil)))) (pg_name (i := 4) sc__law_spring.nd rfl (by first | exact .inl rfl | exact .inr rfl))
      (pss_one (ps_set (i := 3) sc__law_spring.nd rfl (by first | exact .inl rfl | exact .inr rfl) (pe_op op_mod (pe_callTy call_int1 rfl T.b_int (by decide +kernel) (pa_cons (pe_op op_add (pe_op op_add (pe_op op_mul (pv 3) pe_int) (pe_callTy call_int1 rfl T.b_int (by decide +kernel) (pa_cons (pv 4) pa_nil))) (pe_op op_mul pe_int (pv 1))) pa_nil)) pe_int))))
      (pss_one (ps_ret (pe_lst (pa_cons (pe_ifExp (PW.pt (pw_or (pt_cmpR op_lt (pv 2) pe_int (nomark _)) (pw_or1 (pt_cmpR op_ge (pv 2) (pe_op op_pow pe_int pe_int) (nomark _))))) (pe_callB call_abs rfl T.b_abs (by decide +kernel) (pa_cons (pv 2) pa_nil)) pe_int) (pa_cons (pv 3) (pa_cons pe_int pa_nil)))))))), ?_⟩
    simp only [L2.start, List.map_cons, List.map_nil, List.length_cons, List.length_nil, Nat.zero_add, Nat.reduceAdd, Nat.reduceSub, List.replicate_succ, List.replicate_zero, List.cons_append, List.nil_append, List.append_nil, L2.tSeq, L2.tNext, L2.tAsg, L2.gName, L2.tRet, L2.tRetN, L2.tIfS, L2.tVar, L2.tC, L2.tOp, L2.tUn, L2.rI, L2.rI0, L2.rU, L2.rEq, L2.rNe, L2.tTest, L2.tB, L2.tIf, Z.tIfCI, Z.tIfCS, L2.tChain, L2.tCons, L2.tNil, L2.tCall, L2.tDrop, L2.tAndV, L2.tOrV, L2.tNotV, L2.tAnd, L2.tOr, L2.tNot, L2.tCB, Z.sc_ii, Z.sc_ss, Z.sc_bb, Z.sc_is, Z.sc_si, Z.sc_ni, Z.sc_in, Z.sc_ns, Z.sc_sn, Z.sc_nn, L2.CDiv, L2.CPow, L2.CMul, List.getElem?_cons_zero, List.getElem?_cons_succ, Z.set_z, Z.set_s, Option.some.injEq, L2.V.int.injEq, L2.V.bl.injEq, L2.V.str.injEq, L2.V.ref.injEq, L2.V.ty.injEq, List.cons.injEq, exists_eq_left', exists_and_left, exists_eq_left, exists_eq_right, exists_eq_right', exists_eq', exists_eq, true_and, and_true, and_assoc, decide_eq_true_eq, Int.reduceLT, and_self, Z.rIxH, Z.rIxU, Z.at30, Z.at31, Z.at32, Z.ix3_0, Z.ix3_1, Z.ix3_2, L2.rSetL, L2.gSub, Z.gTupH, L2.gCons, L2.gNil, L2.HO.lst.injEq, L2.HO.tup.injEq, L2.upd_same, L2.upd_upd, L2.tSl, L2.tNoPart, L2.tPart, L2.rSlL, L2.rCat, List.length_append, or_false, false_or, or_true, true_or, reduceCtorEq, false_and, and_false, exists_false, Int.reduceNeg, Int.reducePow, Int.reduceToNat, Int.reduceAbs, Int.reduceLE, Int.reduceMul, Int.reduceAdd, Int.reduceSub, Nat.reducePow, Nat.reduceLT, Nat.reduceLeDiff, Int.natAbs_natCast, if_true, if_false, Z.rIsN, Z.tyN, Z.kit_ii, Z.kit_bi, Z.kit_si, Z.kit_ni, Z.kit_ib, Z.kit_bb, Z.kit_sb, Z.kit_nb, Z.kit_is, Z.kit_bs, Z.kit_ss, Z.kit_ns, Bool.not_true, Bool.not_false, L2.tTup, L2.tLst, L2.wipe, L2.tYes, Z.Turn1, L2.tNever, sizeLine_eq, Z.rInU, Z.rInH, L2.flatV, List.any_cons, List.any_nil, List.all_cons, List.all_nil, Bool.and_true, Bool.true_and, Bool.or_false, Bool.false_or, Z.tBML, L2.rAppend, Z.map_int_inj, Z.map_bl_inj, Z.rTupL, Z.rLstL, Z.rLstT, Z.rSortI, Z.rAnyH, Z.rAllH, Z.rSumH, Z.rLenL, Z.rLenU, List.length_map, L2.tPar, StX.tStar, L2.tDNewT, L2.tDIn, L2.sDPut, L2.tDGet, Z.tCallK0, List.getD_cons_zero, List.getD_cons_succ]
    refine ⟨ns.map V.int, .inl hs, ?_⟩
    refine idx_or hs hk fun cell => ?_
    refine for_ints (fun R hR => ?_) (fun σ => ∃ m x, σ = [some (.ref a), some (.int k), some (.int cell), some (.int m), x]) ⟨_, _, rfl⟩ ?_ ?_
    · simp only [L2.start, List.map_cons, List.map_nil, List.length_cons, List.length_nil, Nat.zero_add, Nat.reduceAdd, Nat.reduceSub, List.replicate_succ, List.replicate_zero, List.cons_append, List.nil_append, List.append_nil, L2.tSeq, L2.tNext, L2.tAsg, L2.gName, L2.tRet, L2.tRetN, L2.tIfS, L2.tVar, L2.tC, L2.tOp, L2.tUn, L2.rI, L2.rI0, L2.rU, L2.rEq, L2.rNe, L2.tTest, L2.tB, L2.tIf, Z.tIfCI, Z.tIfCS, L2.tChain, L2.tCons, L2.tNil, L2.tCall, L2.tDrop, L2.tAndV, L2.tOrV, L2.tNotV, L2.tAnd, L2.tOr, L2.tNot, L2.tCB, Z.sc_ii, Z.sc_ss, Z.sc_bb, Z.sc_is, Z.sc_si, Z.sc_ni, Z.sc_in, Z.sc_ns, Z.sc_sn, Z.sc_nn, L2.CDiv, L2.CPow, L2.CMul, List.getElem?_cons_zero, List.getElem?_cons_succ, Z.set_z, Z.set_s, Option.some.injEq, L2.V.int.injEq, L2.V.bl.injEq, L2.V.str.injEq, L2.V.ref.injEq, L2.V.ty.injEq, List.cons.injEq, exists_eq_left', exists_and_left, exists_eq_left, exists_eq_right, exists_eq_right', exists_eq', exists_eq, true_and, and_true, and_assoc, decide_eq_true_eq, Int.reduceLT, and_self, Z.rIxH, Z.rIxU, Z.at30, Z.at31, Z.at32, Z.ix3_0, Z.ix3_1, Z.ix3_2, L2.rSetL, L2.gSub, Z.gTupH, L2.gCons, L2.gNil, L2.HO.lst.injEq, L2.HO.tup.injEq, L2.upd_same, L2.upd_upd, L2.tSl, L2.tNoPart, L2.tPart, L2.rSlL, L2.rCat, List.length_append, or_false, false_or, or_true, true_or, reduceCtorEq, false_and, and_false, exists_false, Int.reduceNeg, Int.reducePow, Int.reduceToNat, Int.reduceAbs, Int.reduceLE, Int.reduceMul, Int.reduceAdd, Int.reduceSub, Nat.reducePow, Nat.reduceLT, Nat.reduceLeDiff, Int.natAbs_natCast, if_true, if_false, Z.rIsN, Z.tyN, Z.kit_ii, Z.kit_bi, Z.kit_si, Z.kit_ni, Z.kit_ib, Z.kit_bb, Z.kit_sb, Z.kit_nb, Z.kit_is, Z.kit_bs, Z.kit_ss, Z.kit_ns, Bool.not_true, Bool.not_false, L2.tTup, L2.tLst, L2.wipe, L2.tYes, Z.Turn1, L2.tNever, sizeLine_eq, Z.rInU, Z.rInH, L2.flatV, List.any_cons, List.any_nil, List.all_cons, List.all_nil, Bool.and_true, Bool.true_and, Bool.or_false, Bool.false_or, Z.tBML, L2.rAppend, Z.map_int_inj, Z.map_bl_inj, Z.rTupL, Z.rLstL, Z.rLstT, Z.rSortI, Z.rAnyH, Z.rAllH, Z.rSumH, Z.rLenL, Z.rLenU, List.length_map, L2.tPar, StX.tStar, L2.tDNewT, L2.tDIn, L2.sDPut, L2.tDGet, Z.tCallK0, List.getD_cons_zero, List.getD_cons_succ]
      obtain ⟨ms, em, hm⟩ := cut_ints ns none (some 8)
      refine ⟨_, hs, fun t ht b hb => ?_⟩
      have htb : t ≠ b := ne_of_none (upd_same (H := H) (a := t)) hb
      refine ⟨ms.map V.int, by rw [upd_ne htb, upd_same, em], by rw [List.length_map]; omega, fun z hz => ?_⟩
      have s1 := same_upd (o := .lst [V.int cell]) (same_new (o := .lst (cutV (ns.map V.int) none (some 8))) ht) ((same_new ht).free hb)
      refine hR z _ (ms ++ [cell]) (same_upd s1 (s1.free hz)) ?_
      rw [upd_same, List.map_append]
      rfl
    · rintro x σ H' s ⟨m, y, rfl⟩ N hN
      simp only [L2.start, List.map_cons, List.map_nil, List.length_cons, List.length_nil, Nat.zero_add, Nat.reduceAdd, Nat.reduceSub, List.replicate_succ, List.replicate_zero, List.cons_append, List.nil_append, List.append_nil, L2.tSeq, L2.tNext, L2.tAsg, L2.gName, L2.tRet, L2.tRetN, L2.tIfS, L2.tVar, L2.tC, L2.tOp, L2.tUn, L2.rI, L2.rI0, L2.rU, L2.rEq, L2.rNe, L2.tTest, L2.tB, L2.tIf, Z.tIfCI, Z.tIfCS, L2.tChain, L2.tCons, L2.tNil, L2.tCall, L2.tDrop, L2.tAndV, L2.tOrV, L2.tNotV, L2.tAnd, L2.tOr, L2.tNot, L2.tCB, Z.sc_ii, Z.sc_ss, Z.sc_bb, Z.sc_is, Z.sc_si, Z.sc_ni, Z.sc_in, Z.sc_ns, Z.sc_sn, Z.sc_nn, L2.CDiv, L2.CPow, L2.CMul, List.getElem?_cons_zero, List.getElem?_cons_succ, Z.set_z, Z.set_s, Option.some.injEq, L2.V.int.injEq, L2.V.bl.injEq, L2.V.str.injEq, L2.V.ref.injEq, L2.V.ty.injEq, List.cons.injEq, exists_eq_left', exists_and_left, exists_eq_left, exists_eq_right, exists_eq_right', exists_eq', exists_eq, true_and, and_true, and_assoc, decide_eq_true_eq, Int.reduceLT, and_self, Z.rIxH, Z.rIxU, Z.at30, Z.at31, Z.at32, Z.ix3_0, Z.ix3_1, Z.ix3_2, L2.rSetL, L2.gSub, Z.gTupH, L2.gCons, L2.gNil, L2.HO.lst.injEq, L2.HO.tup.injEq, L2.upd_same, L2.upd_upd, L2.tSl, L2.tNoPart, L2.tPart, L2.rSlL, L2.rCat, List.length_append, or_false, false_or, or_true, true_or, reduceCtorEq, false_and, and_false, exists_false, Int.reduceNeg, Int.reducePow, Int.reduceToNat, Int.reduceAbs, Int.reduceLE, Int.reduceMul, Int.reduceAdd, Int.reduceSub, Nat.reducePow, Nat.reduceLT, Nat.reduceLeDiff, Int.natAbs_natCast, if_true, if_false, Z.rIsN, Z.tyN, Z.kit_ii, Z.kit_bi, Z.kit_si, Z.kit_ni, Z.kit_ib, Z.kit_bb, Z.kit_sb, Z.kit_nb, Z.kit_is, Z.kit_bs, Z.kit_ss, Z.kit_ns, Bool.not_true, Bool.not_false, L2.tTup, L2.tLst, L2.wipe, L2.tYes, Z.Turn1, L2.tNever, sizeLine_eq, Z.rInU, Z.rInH, L2.flatV, List.any_cons, List.any_nil, List.all_cons, List.all_nil, Bool.and_true, Bool.true_and, Bool.or_false, Bool.false_or, Z.tBML, L2.rAppend, Z.map_int_inj, Z.map_bl_inj, Z.rTupL, Z.rLstL, Z.rLstT, Z.rSortI, Z.rAnyH, Z.rAllH, Z.rSumH, Z.rLenL, Z.rLenU, List.length_map, L2.tPar, StX.tStar, L2.tDNewT, L2.tDIn, L2.sDPut, L2.tDGet, Z.tCallK0, List.getD_cons_zero, List.getD_cons_succ]
      exact hN _ ⟨_, _, rfl⟩
    · rintro σ H' s ⟨m, y, rfl⟩
      simp only [L2.start, List.map_cons, List.map_nil, List.length_cons, List.length_nil, Nat.zero_add, Nat.reduceAdd, Nat.reduceSub, List.replicate_succ, List.replicate_zero, List.cons_append, List.nil_append, List.append_nil, L2.tSeq, L2.tNext, L2.tAsg, L2.gName, L2.tRet, L2.tRetN, L2.tIfS, L2.tVar, L2.tC, L2.tOp, L2.tUn, L2.rI, L2.rI0, L2.rU, L2.rEq, L2.rNe, L2.tTest, L2.tB, L2.tIf, Z.tIfCI, Z.tIfCS, L2.tChain, L2.tCons, L2.tNil, L2.tCall, L2.tDrop, L2.tAndV, L2.tOrV, L2.tNotV, L2.tAnd, L2.tOr, L2.tNot, L2.tCB, Z.sc_ii, Z.sc_ss, Z.sc_bb, Z.sc_is, Z.sc_si, Z.sc_ni, Z.sc_in, Z.sc_ns, Z.sc_sn, Z.sc_nn, L2.CDiv, L2.CPow, L2.CMul, List.getElem?_cons_zero, List.getElem?_cons_succ, Z.set_z, Z.set_s, Option.some.injEq, L2.V.int.injEq, L2.V.bl.injEq, L2.V.str.injEq, L2.V.ref.injEq, L2.V.ty.injEq, List.cons.injEq, exists_eq_left', exists_and_left, exists_eq_left, exists_eq_right, exists_eq_right', exists_eq', exists_eq, true_and, and_true, and_assoc, decide_eq_true_eq, Int.reduceLT, and_self, Z.rIxH, Z.rIxU, Z.at30, Z.at31, Z.at32, Z.ix3_0, Z.ix3_1, Z.ix3_2, L2.rSetL, L2.gSub, Z.gTupH, L2.gCons, L2.gNil, L2.HO.lst.injEq, L2.HO.tup.injEq, L2.upd_same, L2.upd_upd, L2.tSl, L2.tNoPart, L2.tPart, L2.rSlL, L2.rCat, List.length_append, or_false, false_or, or_true, true_or, reduceCtorEq, false_and, and_false, exists_false, Int.reduceNeg, Int.reducePow, Int.reduceToNat, Int.reduceAbs, Int.reduceLE, Int.reduceMul, Int.reduceAdd, Int.reduceSub, Nat.reducePow, Nat.reduceLT, Nat.reduceLeDiff, Int.natAbs_natCast, if_true, if_false, Z.rIsN, Z.tyN, Z.kit_ii, Z.kit_bi, Z.kit_si, Z.kit_ni, Z.kit_ib, Z.kit_bb, Z.kit_sb, Z.kit_nb, Z.kit_is, Z.kit_bs, Z.kit_ss, Z.kit_ns, Bool.not_true, Bool.not_false, L2.tTup, L2.tLst, L2.wipe, L2.tYes, Z.Turn1, L2.tNever, sizeLine_eq, Z.rInU, Z.rInH, L2.flatV, List.any_cons, List.any_nil, List.all_cons, List.all_nil, Bool.and_true, Bool.true_and, Bool.or_false, Bool.false_or, Z.tBML, L2.rAppend, Z.map_int_inj, Z.map_bl_inj, Z.rTupL, Z.rLstL, Z.rLstT, Z.rSortI, Z.rAnyH, Z.rAllH, Z.rSumH, Z.rLenL, Z.rLenU, List.length_map, L2.tPar, StX.tStar, L2.tDNewT, L2.tDIn, L2.sDPut, L2.tDGet, Z.tCallK0, List.getD_cons_zero, List.getD_cons_succ]
      have fin : ∀ z : Int, ∀ p : Addr, H' p = none → Q (.ref p) (upd H' p (.lst [.int z, .int m, .int 0])) := fun z p hp =>
        q p _ (s.free hp) (same_upd s (s.free hp)) ⟨z, m, 0, upd_same⟩
      repeat' split
      all_goals exact fun p hp => fin _ p hp
def sp__law_draw : Sp := fun vs H Q _ => ∃ (p : Addr) (n : Int), vs = [.ref p, .int n] ∧ Spring H p ∧ 0 < n ∧ n < 1073741824 ∧ ∀ d H', Kp p H H' → 0 ≤ d → d < n → Q (.int d) H'
theorem ok__law_draw (T : Env P K mg) : Hd P w K mg base CX0 1 "_law_draw" s__law_draw ["_law_spring_here", "_law_size"] sp__law_draw := by
  obtain ⟨f, fd, F, hm⟩ := T.d__law_draw
  refine ⟨⟨f, fd, F, hm, ?_⟩, fun _ _ _ _ _ _ _ us hl => match us, hl with | [_, _], _ => rfl⟩
  refine F.ok sc__law_draw (fun vs H Q E h => ?_) (fun cdv A outer s H vs Q E hr h => ?_)
  · first | (obtain ⟨rfl, _⟩ := h; rfl) | (obtain ⟨_, rfl, _⟩ := h; rfl) | (obtain ⟨_, _, rfl, _⟩ := h; rfl) | (obtain ⟨_, _, _, rfl, _⟩ := h; rfl) | (obtain ⟨_, _, _, _, rfl, _⟩ := h; rfl) | (obtain ⟨_, _, _, _, _, rfl, _⟩ := h; rfl) | (obtain ⟨_, _, _, _, _, _, rfl, _⟩ := h; rfl) | (obtain ⟨_, _, _, _, _, _, _, rfl, _⟩ := h; rfl) | (obtain ⟨_, _, _, _, _, _, _, _, rfl, _⟩ := h; rfl)
  · obtain ⟨p, n, rfl, ⟨a, b, c, hp⟩, hn, hn2, q⟩ := h
    have hu := hu_of hr
    refine ⟨_, pss_cons (ps_asg (pe_op op_add (pe_ix ix_listH (pv 0) pe_int (fun _ _ => rfl)) pe_int) (pg_sub (pv 0) pe_int set_list))
      (pss_cons (ps_asg (pe_op op_mod (pe_callTy call_int1 rfl T.b_int (by decide +kernel) (pa_cons (pe_op op_add (pe_op op_add (pe_op op_mul (pe_ix ix_listH (pv 0) pe_int (fun _ _ => rfl)) pe_int) (pe_op op_mul pe_int (pe_ix ix_listH (pv 0) pe_int (fun _ _ => rfl)))) pe_int) pa_nil)) pe_int) (pg_sub (pv 0) pe_int set_list))
      (pss_cons (ps_if (pt_cmpR op_gt (pe_ix ix_listH (pv 0) pe_int (fun _ _ => rfl)) pe_int (nomark _)) (pss_cons (ps_asg (pe_callB call_divmod rfl T.b_divmod (by decide +kernel) (pa_cons (pe_ix ix_listH (pv 0) pe_int (fun _ _ => rfl)) (pa_cons (pv 1) pa_nil))) (pg_tupH (n := 2) rfl (pgs_cons (pg_sub (pv 0) pe_int set_list) (pgs_cons (pg_name (i := 2) sc__law_draw.nd rfl (by first | exact .inl rfl | exact .inr rfl)) pgs_nil))))
      (pss_one (ps_ret (pv 2))))
      (pss_nil))
      (pss_cons (ps_set (i := 3) sc__law_draw.nd rfl (by first | exact .inl rfl | exact .inr rfl) (pe_op op_add (pe_ix ix_listH (pv 0) pe_int (fun _ _ => rfl)) pe_int))
      (pss_cons (ps_set (i := 4) sc__law_draw.nd rfl (by first | exact .inl rfl | exact .inr rfl) (pe_op op_mod (pe_callTy call_int1 rfl T.b_int (by decide +kernel) (pa_cons (pe_op op_add (pe_op op_mul (pv 3) (pe_ix ix_listH (pv 0) pe_int (fun _ _ => rfl))) (pe_ix ix_listH (pv 0) pe_int (fun _ _ => rfl))) pa_nil)) pe_int))
      (pss_one (ps_ret (pe_op op_mod (pe_callTy call_int1 rfl T.b_int (by decide +kernel) (pa_cons (pe_op op_fdiv (pv 4) pe_int) pa_nil)) (pv 1)))))))), ?_⟩
    simp only [L2.start, List.map_cons, List.map_nil, List.length_cons, List.length_nil, Nat.zero_add, Nat.reduceAdd, Nat.reduceSub, List.replicate_succ, List.replicate_zero, List.cons_append, List.nil_append, List.append_nil, L2.tSeq, L2.tNext, L2.tAsg, L2.gName, L2.tRet, L2.tRetN, L2.tIfS, L2.tVar, L2.tC, L2.tOp, L2.tUn, L2.rI, L2.rI0, L2.rU, L2.rEq, L2.rNe, L2.tTest, L2.tB, L2.tIf, Z.tIfCI, Z.tIfCS, L2.tChain, L2.tCons, L2.tNil, L2.tCall, L2.tDrop, L2.tAndV, L2.tOrV, L2.tNotV, L2.tAnd, L2.tOr, L2.tNot, L2.tCB, Z.sc_ii, Z.sc_ss, Z.sc_bb, Z.sc_is, Z.sc_si, Z.sc_ni, Z.sc_in, Z.sc_ns, Z.sc_sn, Z.sc_nn, L2.CDiv, L2.CPow, L2.CMul, List.getElem?_cons_zero, List.getElem?_cons_succ, Z.set_z, Z.set_s, Option.some.injEq, L2.V.int.injEq, L2.V.bl.injEq, L2.V.str.injEq, L2.V.ref.injEq, L2.V.ty.injEq, List.cons.injEq, exists_eq_left', exists_and_left, exists_eq_left, exists_eq_right, exists_eq_right', exists_eq', exists_eq, true_and, and_true, and_assoc, decide_eq_true_eq, Int.reduceLT, and_self, Z.rIxH, Z.rIxU, Z.at30, Z.at31, Z.at32, Z.ix3_0, Z.ix3_1, Z.ix3_2, L2.rSetL, L2.gSub, Z.gTupH, L2.gCons, L2.gNil, L2.HO.lst.injEq, L2.HO.tup.injEq, L2.upd_same, L2.upd_upd, L2.tSl, L2.tNoPart, L2.tPart, L2.rSlL, L2.rCat, List.length_append, or_false, false_or, or_true, true_or, reduceCtorEq, false_and, and_false, exists_false, Int.reduceNeg, Int.reducePow, Int.reduceToNat, Int.reduceAbs, Int.reduceLE, Int.reduceMul, Int.reduceAdd, Int.reduceSub, Nat.reducePow, Nat.reduceLT, Nat.reduceLeDiff, Int.natAbs_natCast, if_true, if_false, Z.rIsN, Z.tyN, Z.kit_ii, Z.kit_bi, Z.kit_si, Z.kit_ni, Z.kit_ib, Z.kit_bb, Z.kit_sb, Z.kit_nb, Z.kit_is, Z.kit_bs, Z.kit_ss, Z.kit_ns, Bool.not_true, Bool.not_false, L2.tTup, L2.tLst, L2.wipe, L2.tYes, Z.Turn1, L2.tNever, sizeLine_eq, Z.rInU, Z.rInH, L2.flatV, List.any_cons, List.any_nil, List.all_cons, List.all_nil, Bool.and_true, Bool.true_and, Bool.or_false, Bool.false_or, Z.tBML, L2.rAppend, Z.map_int_inj, Z.map_bl_inj, Z.rTupL, Z.rLstL, Z.rLstT, Z.rSortI, Z.rAnyH, Z.rAllH, Z.rSumH, Z.rLenL, Z.rLenU, List.length_map, L2.tPar, StX.tStar, L2.tDNewT, L2.tDIn, L2.sDPut, L2.tDGet, Z.tCallK0, List.getD_cons_zero, List.getD_cons_succ, hp]
    have kp1 : ∀ x y z : Int, Kp p H (upd H p (.lst [.int x, .int y, .int z])) := fun x y z => ⟨⟨x, y, z, upd_same⟩, fun b o nb e => by rw [upd_ne nb]; exact e⟩
    split
    · refine ⟨hn, hn2, fun t ht => ?_⟩
      have hpt : p ≠ t := ne_of_none (upd_same (H := H) (a := p)) ht
      refine ⟨_, by rw [upd_ne hpt, upd_same], 0, rfl, ?_⟩
      refine q _ _ ⟨⟨_, _, _, upd_same⟩, fun u o nu e => ?_⟩ (Int.emod_nonneg _ (by omega)) (Int.emod_lt_of_pos _ hn)
      have e2 : (upd H p (.lst [.int a, .int ((b * 69621 + 40503 * (c + 1) + 1) % 2147483647), .int (c + 1)])) u = some o := by rw [upd_ne nu]; exact e
      rw [upd_ne nu, upd_ne (ne_of_none e2 ht), e2]
    · exact ⟨by omega, hn, q _ _ (kp1 _ _ _) (Int.emod_nonneg _ (by omega)) (Int.emod_lt_of_pos _ hn)⟩
def sp__law_of : Sp := fun vs H Q _ => ∃ (p m : Addr) (xs : List V), vs = [.ref p, .ref m] ∧ Spring H p ∧ H m = some (.lst xs) ∧ m ≠ p ∧ 0 < xs.length ∧ xs.length < 1000 ∧ ∀ v H', Kp p H H' → v ∈ xs → Q v H'
theorem ok__law_of (T : Env P K mg) : Hd P w K mg base CX0 2 "_law_of" s__law_of ["_law_spring_here", "_law_menu"] sp__law_of := by
  have H__law_draw := ok__law_draw (P := P) (w := w) (base := base) T
  obtain ⟨f, fd, F, hm⟩ := T.d__law_of
  refine ⟨⟨f, fd, F, hm, ?_⟩, fun _ _ _ _ _ _ _ us hl => match us, hl with | [_, _], _ => rfl⟩
  refine F.ok sc__law_of (fun vs H Q E h => ?_) (fun cdv A outer s H vs Q E hr h => ?_)
  · first | (obtain ⟨rfl, _⟩ := h; rfl) | (obtain ⟨_, rfl, _⟩ := h; rfl) | (obtain ⟨_, _, rfl, _⟩ := h; rfl) | (obtain ⟨_, _, _, rfl, _⟩ := h; rfl) | (obtain ⟨_, _, _, _, rfl, _⟩ := h; rfl) | (obtain ⟨_, _, _, _, _, rfl, _⟩ := h; rfl) | (obtain ⟨_, _, _, _, _, _, rfl, _⟩ := h; rfl) | (obtain ⟨_, _, _, _, _, _, _, rfl, _⟩ := h; rfl) | (obtain ⟨_, _, _, _, _, _, _, _, rfl, _⟩ := h; rfl)
  · obtain ⟨p, m, xs, rfl, hp, hm, hne, h0, h1, q⟩ := h
    have hu := hu_of hr
    refine ⟨_, pss_one (ps_ret (pe_ix ix_listH (pv 1) (pe_hd H__law_draw (hr.mono (by decide)) rfl pass0 (pa_cons (pv 0) (pa_cons (pe_callB call_lenL rfl T.b_len (by decide +kernel) (pa_cons (pv 1) pa_nil)) pa_nil))) (fun _ _ => rfl))), ?_⟩
    simp only [L2.start, List.map_cons, List.map_nil, List.length_cons, List.length_nil, Nat.zero_add, Nat.reduceAdd, Nat.reduceSub, List.replicate_succ, List.replicate_zero, List.cons_append, List.nil_append, List.append_nil, L2.tSeq, L2.tNext, L2.tAsg, L2.gName, L2.tRet, L2.tRetN, L2.tIfS, L2.tVar, L2.tC, L2.tOp, L2.tUn, L2.rI, L2.rI0, L2.rU, L2.rEq, L2.rNe, L2.tTest, L2.tB, L2.tIf, Z.tIfCI, Z.tIfCS, L2.tChain, L2.tCons, L2.tNil, L2.tCall, L2.tDrop, L2.tAndV, L2.tOrV, L2.tNotV, L2.tAnd, L2.tOr, L2.tNot, L2.tCB, Z.sc_ii, Z.sc_ss, Z.sc_bb, Z.sc_is, Z.sc_si, Z.sc_ni, Z.sc_in, Z.sc_ns, Z.sc_sn, Z.sc_nn, L2.CDiv, L2.CPow, L2.CMul, List.getElem?_cons_zero, List.getElem?_cons_succ, Z.set_z, Z.set_s, Option.some.injEq, L2.V.int.injEq, L2.V.bl.injEq, L2.V.str.injEq, L2.V.ref.injEq, L2.V.ty.injEq, List.cons.injEq, exists_eq_left', exists_and_left, exists_eq_left, exists_eq_right, exists_eq_right', exists_eq', exists_eq, true_and, and_true, and_assoc, decide_eq_true_eq, Int.reduceLT, and_self, Z.rIxH, Z.rIxU, Z.at30, Z.at31, Z.at32, Z.ix3_0, Z.ix3_1, Z.ix3_2, L2.rSetL, L2.gSub, Z.gTupH, L2.gCons, L2.gNil, L2.HO.lst.injEq, L2.HO.tup.injEq, L2.upd_same, L2.upd_upd, L2.tSl, L2.tNoPart, L2.tPart, L2.rSlL, L2.rCat, List.length_append, or_false, false_or, or_true, true_or, reduceCtorEq, false_and, and_false, exists_false, Int.reduceNeg, Int.reducePow, Int.reduceToNat, Int.reduceAbs, Int.reduceLE, Int.reduceMul, Int.reduceAdd, Int.reduceSub, Nat.reducePow, Nat.reduceLT, Nat.reduceLeDiff, Int.natAbs_natCast, if_true, if_false, Z.rIsN, Z.tyN, Z.kit_ii, Z.kit_bi, Z.kit_si, Z.kit_ni, Z.kit_ib, Z.kit_bb, Z.kit_sb, Z.kit_nb, Z.kit_is, Z.kit_bs, Z.kit_ss, Z.kit_ns, Bool.not_true, Bool.not_false, L2.tTup, L2.tLst, L2.wipe, L2.tYes, Z.Turn1, L2.tNever, sizeLine_eq, Z.rInU, Z.rInH, L2.flatV, List.any_cons, List.any_nil, List.all_cons, List.all_nil, Bool.and_true, Bool.true_and, Bool.or_false, Bool.false_or, Z.tBML, L2.rAppend, Z.map_int_inj, Z.map_bl_inj, Z.rTupL, Z.rLstL, Z.rLstT, Z.rSortI, Z.rAnyH, Z.rAllH, Z.rSumH, Z.rLenL, Z.rLenU, List.length_map, L2.tPar, StX.tStar, L2.tDNewT, L2.tDIn, L2.sDPut, L2.tDGet, Z.tCallK0, List.getD_cons_zero, List.getD_cons_succ, sp__law_draw, hm]
    refine ⟨hp, by omega, by omega, fun d H' kp h2 h3 => ⟨xs, kp.keep _ _ hne hm, ?_⟩⟩
    obtain ⟨j, rfl⟩ : ∃ j : Nat, d = j := ⟨d.toNat, by omega⟩
    have hj : j < xs.length := by omega
    exact ⟨xs[j], atI_nat (List.getElem?_eq_getElem hj), q _ _ kp (List.getElem_mem hj)⟩

theorem exk_of (T : Env P K mg) : ∀ w ∈ excN, ExK K (clsA mg w) := by
  intro w hw
  simp only [excN, errN, List.cons_append, List.nil_append, List.mem_cons, List.not_mem_nil, or_false] at hw
  rcases hw with rfl | rfl | rfl | rfl | rfl | rfl | rfl | rfl | rfl | rfl | rfl | rfl | rfl | rfl | rfl | rfl | rfl | rfl | rfl | rfl | rfl
  · exact T.x_InvalidText.k
  · exact T.x_InvalidNumber.k
  · exact T.x_InvalidKind.k
  · exact T.x_InvalidParty.k
  · exact T.x_InvalidName.k
  · exact T.x_InvalidWish.k
  · exact T.x_NotABook.k
  · exact T.x_InvalidRows.k
  · exact T.x_InvalidSeats.k
  · exact T.x_InvalidExchanges.k
  · exact T.x_InvalidWishes.k
  · exact T.x_UnknownName.k
  · exact T.x_InUse.k
  · exact T.x_NotFull.k
  · exact T.x_TooMany.k
  · exact T.x_NoRoom.k
  · exact T.x_Broken.k
  · exact T.x_NothingToUndo.k
  · exact T.x_WrongValue.k
  · exact T.x_WrongName.k
  · exact T.x_NoAnswer.k
theorem kit_und (t : kitTab K (excV mg) (excD mg) = errTab) {i j : Nat} {c d : Value} (hi : (excV mg)[i]? = some c) (hj : (excD mg)[j]? = some d) : PySem.W.kitOne K c d = some (und i j) := by
  have h1 : i < 21 := by
    have := (List.getElem?_eq_some_iff.mp hi).1
    simpa [excV, excN, errN] using this
  have h2 : j < 24 := by
    have := (List.getElem?_eq_some_iff.mp hj).1
    simpa [excD, excV, excN, errN] using this
  obtain ⟨r, r1, r2⟩ := errTab_at h1 h2
  exact kitTab_at t hi hj r1 r2

def sp__law_error (mg : Str → Option Value) : Sp := fun vs H Q _ => ∃ (a : Addr) (i : Nat) (w : Str) (fs : Option (List (Str × V))), vs = [.ref a] ∧ errN[i]? = some w ∧ IsX H a (clsA mg w) fs ∧ ∀ H', Same H H' → Q (.str w) H'
theorem ok__law_error (T : Env P K mg) : Hd P w K mg base CX0 1 "_law_error" s__law_error ["_law_e"] (sp__law_error mg) := by
  obtain ⟨f, fd, F, hm⟩ := T.d__law_error
  refine ⟨⟨f, fd, F, hm, ?_⟩, fun _ _ _ _ _ _ _ us hl => match us, hl with | [_], _ => rfl⟩
  refine F.ok sc__law_error (fun vs H Q E h => ?_) (fun cdv A outer s H vs Q E hr h => ?_)
  · first | (obtain ⟨rfl, _⟩ := h; rfl) | (obtain ⟨_, rfl, _⟩ := h; rfl) | (obtain ⟨_, _, rfl, _⟩ := h; rfl) | (obtain ⟨_, _, _, rfl, _⟩ := h; rfl) | (obtain ⟨_, _, _, _, rfl, _⟩ := h; rfl) | (obtain ⟨_, _, _, _, _, rfl, _⟩ := h; rfl) | (obtain ⟨_, _, _, _, _, _, rfl, _⟩ := h; rfl) | (obtain ⟨_, _, _, _, _, _, _, rfl, _⟩ := h; rfl) | (obtain ⟨_, _, _, _, _, _, _, _, rfl, _⟩ := h; rfl)
  · obtain ⟨a, i, wd, fs, rfl, hw, hx, q⟩ := h
    have hu := hu_of hr
    refine ⟨_, pss_cons (ps_set (i := 1) sc__law_error.nd rfl (by first | exact .inl rfl | exact .inr rfl) (pe_lst (pa_cons (pe_callB call_isX rfl T.b_isinstance (by decide +kernel) (pa_cons (pv 0) (pa_cons (pe_glob (v := .ref (clsA mg "InvalidText")) rfl T.x_InvalidText.at_ rfl) pa_nil))) (pa_cons (pe_callB call_isX rfl T.b_isinstance (by decide +kernel) (pa_cons (pv 0) (pa_cons (pe_glob (v := .ref (clsA mg "InvalidNumber")) rfl T.x_InvalidNumber.at_ rfl) pa_nil))) (pa_cons (pe_callB call_isX rfl T.b_isinstance (by decide +kernel) (pa_cons (pv 0) (pa_cons (pe_glob (v := .ref (clsA mg "InvalidKind")) rfl T.x_InvalidKind.at_ rfl) pa_nil))) pa_nil)))))
      (pss_cons (ps_set (i := 1) sc__law_error.nd rfl (by first | exact .inl rfl | exact .inr rfl) (pe_op op_cat (pv 1) (pe_lst (pa_cons (pe_callB call_isX rfl T.b_isinstance (by decide +kernel) (pa_cons (pv 0) (pa_cons (pe_glob (v := .ref (clsA mg "InvalidParty")) rfl T.x_InvalidParty.at_ rfl) pa_nil))) (pa_cons (pe_callB call_isX rfl T.b_isinstance (by decide +kernel) (pa_cons (pv 0) (pa_cons (pe_glob (v := .ref (clsA mg "InvalidName")) rfl T.x_InvalidName.at_ rfl) pa_nil))) (pa_cons (pe_callB call_isX rfl T.b_isinstance (by decide +kernel) (pa_cons (pv 0) (pa_cons (pe_glob (v := .ref (clsA mg "InvalidWish")) rfl T.x_InvalidWish.at_ rfl) pa_nil))) pa_nil))))))
      (pss_cons (ps_set (i := 1) sc__law_error.nd rfl (by first | exact .inl rfl | exact .inr rfl) (pe_op op_cat (pv 1) (pe_lst (pa_cons (pe_callB call_isX rfl T.b_isinstance (by decide +kernel) (pa_cons (pv 0) (pa_cons (pe_glob (v := .ref (clsA mg "NotABook")) rfl T.x_NotABook.at_ rfl) pa_nil))) (pa_cons (pe_callB call_isX rfl T.b_isinstance (by decide +kernel) (pa_cons (pv 0) (pa_cons (pe_glob (v := .ref (clsA mg "InvalidRows")) rfl T.x_InvalidRows.at_ rfl) pa_nil))) (pa_cons (pe_callB call_isX rfl T.b_isinstance (by decide +kernel) (pa_cons (pv 0) (pa_cons (pe_glob (v := .ref (clsA mg "InvalidSeats")) rfl T.x_InvalidSeats.at_ rfl) pa_nil))) pa_nil))))))
      (pss_cons (ps_set (i := 1) sc__law_error.nd rfl (by first | exact .inl rfl | exact .inr rfl) (pe_op op_cat (pv 1) (pe_lst (pa_cons (pe_callB call_isX rfl T.b_isinstance (by decide +kernel) (pa_cons (pv 0) (pa_cons (pe_glob (v := .ref (clsA mg "InvalidExchanges")) rfl T.x_InvalidExchanges.at_ rfl) pa_nil))) (pa_cons (pe_callB call_isX rfl T.b_isinstance (by decide +kernel) (pa_cons (pv 0) (pa_cons (pe_glob (v := .ref (clsA mg "InvalidWishes")) rfl T.x_InvalidWishes.at_ rfl) pa_nil))) pa_nil)))))
      (pss_cons (ps_set (i := 1) sc__law_error.nd rfl (by first | exact .inl rfl | exact .inr rfl) (pe_op op_cat (pv 1) (pe_lst (pa_cons (pe_callB call_isX rfl T.b_isinstance (by decide +kernel) (pa_cons (pv 0) (pa_cons (pe_glob (v := .ref (clsA mg "UnknownName")) rfl T.x_UnknownName.at_ rfl) pa_nil))) (pa_cons (pe_callB call_isX rfl T.b_isinstance (by decide +kernel) (pa_cons (pv 0) (pa_cons (pe_glob (v := .ref (clsA mg "InUse")) rfl T.x_InUse.at_ rfl) pa_nil))) (pa_cons (pe_callB call_isX rfl T.b_isinstance (by decide +kernel) (pa_cons (pv 0) (pa_cons (pe_glob (v := .ref (clsA mg "NotFull")) rfl T.x_NotFull.at_ rfl) pa_nil))) pa_nil))))))
      (pss_cons (ps_set (i := 1) sc__law_error.nd rfl (by first | exact .inl rfl | exact .inr rfl) (pe_op op_cat (pv 1) (pe_lst (pa_cons (pe_callB call_isX rfl T.b_isinstance (by decide +kernel) (pa_cons (pv 0) (pa_cons (pe_glob (v := .ref (clsA mg "TooMany")) rfl T.x_TooMany.at_ rfl) pa_nil))) (pa_cons (pe_callB call_isX rfl T.b_isinstance (by decide +kernel) (pa_cons (pv 0) (pa_cons (pe_glob (v := .ref (clsA mg "NoRoom")) rfl T.x_NoRoom.at_ rfl) pa_nil))) (pa_cons (pe_callB call_isX rfl T.b_isinstance (by decide +kernel) (pa_cons (pv 0) (pa_cons (pe_glob (v := .ref (clsA mg "Broken")) rfl T.x_Broken.at_ rfl) pa_nil))) pa_nil))))))
      (pss_cons (ps_set (i := 1) sc__law_error.nd rfl (by first | exact .inl rfl | exact .inr rfl) (pe_op op_cat (pv 1) (pe_lst (pa_cons (pe_callB call_isX rfl T.b_isinstance (by decide +kernel) (pa_cons (pv 0) (pa_cons (pe_glob (v := .ref (clsA mg "NothingToUndo")) rfl T.x_NothingToUndo.at_ rfl) pa_nil))) pa_nil))))
      (pss_cons (ps_set (i := 2) sc__law_error.nd rfl (by first | exact .inl rfl | exact .inr rfl) (pe_lst (pa_cons pe_str (pa_cons pe_str (pa_cons pe_str (pa_cons pe_str (pa_cons pe_str (pa_cons pe_str pa_nil))))))))
      (pss_cons (ps_set (i := 2) sc__law_error.nd rfl (by first | exact .inl rfl | exact .inr rfl) (pe_op op_cat (pv 2) (pe_lst (pa_cons pe_str (pa_cons pe_str (pa_cons pe_str (pa_cons pe_str (pa_cons pe_str pa_nil))))))))
      (pss_cons (ps_set (i := 2) sc__law_error.nd rfl (by first | exact .inl rfl | exact .inr rfl) (pe_op op_cat (pv 2) (pe_lst (pa_cons pe_str (pa_cons pe_str (pa_cons pe_str (pa_cons pe_str (pa_cons pe_str (pa_cons pe_str (pa_cons pe_str pa_nil))))))))))
      (pss_cons (ps_set (i := 3) sc__law_error.nd rfl (by first | exact .inl rfl | exact .inr rfl) (pe_lst (pa_cons (pe_callB call_isX rfl T.b_isinstance (by decide +kernel) (pa_cons (pv 0) (pa_cons (pe_glob (v := .ref (clsA mg "WrongValue")) rfl T.x_WrongValue.at_ rfl) pa_nil))) (pa_cons (pe_callB call_isX rfl T.b_isinstance (by decide +kernel) (pa_cons (pv 0) (pa_cons (pe_glob (v := .ref (clsA mg "WrongName")) rfl T.x_WrongName.at_ rfl) pa_nil))) (pa_cons (pe_callB call_isX rfl T.b_isinstance (by decide +kernel) (pa_cons (pv 0) (pa_cons (pe_glob (v := .ref (clsA mg "NoAnswer")) rfl T.x_NoAnswer.at_ rfl) pa_nil))) pa_nil)))))
      (pss_cons (ps_set (i := 4) sc__law_error.nd rfl (by first | exact .inl rfl | exact .inr rfl) (pe_lst (pa_cons (pe_callB call_isX rfl T.b_isinstance (by decide +kernel) (pa_cons (pv 0) (pa_cons (pe_bltn (v := .ty "ValueError") (by rfl) T.b_ValueError (by decide +kernel) rfl) pa_nil))) (pa_cons (pe_callB call_isX rfl T.b_isinstance (by decide +kernel) (pa_cons (pv 0) (pa_cons (pe_bltn (v := .ty "LookupError") (by rfl) T.b_LookupError (by decide +kernel) rfl) pa_nil))) (pa_cons (pe_callB call_isX rfl T.b_isinstance (by decide +kernel) (pa_cons (pv 0) (pa_cons (pe_bltn (v := .ty "ArithmeticError") (by rfl) T.b_ArithmeticError (by decide +kernel) rfl) pa_nil))) pa_nil)))))
      (pss_cons (ps_if (PW.pt (pw_or (pt_cmpR op_ne (pe_bmL PySem.F.plainAttrs_list PySem.F.slot_list_count PySem.F.type_list_count (mt_lcountB (room65 hr)) (pv 1) (pa_cons pe_bl pa_nil)) pe_int (nomark _)) (pw_or1 (pt_cmpR (op_neB hr.units) (pv 3) (pv 4) (nomark _))))) (pss_one (ps_ret pe_str))
      (pss_nil))
      (pss_cons (ps_set (i := 5) sc__law_error.nd rfl (by first | exact .inl rfl | exact .inr rfl) (pe_bmL PySem.F.plainAttrs_list PySem.F.slot_list_index PySem.F.type_list_index (mt_indexB (room65 hr)) (pv 1) (pa_cons pe_bl pa_nil)))
      (pss_one (ps_ret (pe_ifExp (pt_cmpR (op_eqB hr.units) (pv 3) (pe_lst (pa_cons (pe_cmpR op_lt (pv 5) pe_int (nomark _)) (pa_cons (pe_chain op_lt op_lt pe_int (pv 5) pe_int) (pa_cons (pe_cmpR op_gt (pv 5) pe_int (nomark _)) pa_nil)))) (nomark _)) (pe_ix ix_listH (pv 2) (pv 5) (fun _ _ => rfl)) pe_str)))))))))))))))), ?_⟩
    have hk := exk_of T wd (by unfold excN; exact List.mem_append_left _ (List.mem_of_getElem? hw))
    have hi : i < 18 := (List.getElem?_eq_some_iff.mp hw).1
    have hc : (excV mg)[i]? = some (.ref (clsA mg wd)) := by
      unfold excV excN
      rw [List.getElem?_map, List.getElem?_append_left hi, hw]
      rfl
    have one : ∀ (j : Nat) {c : V} {d : Value} {H' : Hp} {σ : L2.St} {te : TE} (hj : (excD mg)[j]? = some d) (hd : ClsV c d) (s : Same H H') (h0 : σ[0]? = some (some (.ref a))) (hc2 : ∀ R : VK, R c H' → te σ H' R) (R : VK), R (.bl (und i j)) H' → tCB (rIsX K) (tCons (tVar 0) (tCons te tNil)) σ H' R := fun j c d H' σ te hj hd s h0 hc2 R r => ⟨_, h0, hc2 _ (isX_of (hx.same s) hk hd (kit_und T.t_err hc hj) r)⟩
    have cl : ∀ {H' : Hp} {σ : L2.St} {v : V} (R : VK), R v H' → tC v σ H' R := fun R r => r
    refine z_seq ?_
    refine lstV (GV.cons (one 0 rfl (.own _) (Same.refl _) rfl cl) (GV.cons (one 1 rfl (.own _) (Same.refl _) rfl cl) (GV.cons (one 2 rfl (.own _) (Same.refl _) rfl cl) GV.nil))) (fun p1 H1 s1 n1 e1 => ?_) (by simp)
    simp only [L2.start, List.map_cons, List.map_nil, List.length_cons, List.length_nil, Nat.zero_add, Nat.reduceAdd, Nat.reduceSub, List.replicate_succ, List.replicate_zero, List.cons_append, List.nil_append, List.append_nil, L2.tNext, L2.tAsg, L2.gName, L2.tRet, L2.tRetN, L2.tIfS, L2.tVar, L2.tUn, L2.rI, L2.rI0, L2.rU, L2.rEq, L2.rNe, L2.tTest, L2.tB, L2.tIf, Z.tIfCI, Z.tIfCS, L2.tChain, L2.tCall, L2.tDrop, L2.tAndV, L2.tOrV, L2.tNotV, L2.tAnd, L2.tOr, L2.tNot, Z.sc_ii, Z.sc_ss, Z.sc_bb, Z.sc_is, Z.sc_si, Z.sc_ni, Z.sc_in, Z.sc_ns, Z.sc_sn, Z.sc_nn, L2.CDiv, L2.CPow, L2.CMul, List.getElem?_cons_zero, List.getElem?_cons_succ, Z.set_z, Z.set_s, Option.some.injEq, L2.V.int.injEq, L2.V.bl.injEq, L2.V.str.injEq, L2.V.ref.injEq, L2.V.ty.injEq, List.cons.injEq, exists_eq_left', exists_and_left, exists_eq_left, exists_eq_right, exists_eq_right', exists_eq', exists_eq, true_and, and_true, and_assoc, decide_eq_true_eq, Int.reduceLT, and_self, Z.rIxH, Z.rIxU, Z.at30, Z.at31, Z.at32, Z.ix3_0, Z.ix3_1, Z.ix3_2, L2.rSetL, L2.gSub, Z.gTupH, L2.gCons, L2.gNil, L2.HO.lst.injEq, L2.HO.tup.injEq, L2.upd_same, L2.upd_upd, L2.tSl, L2.tNoPart, L2.tPart, L2.rSlL, L2.rCat, List.length_append, or_false, false_or, or_true, true_or, reduceCtorEq, false_and, and_false, exists_false, Int.reduceNeg, Int.reducePow, Int.reduceToNat, Int.reduceAbs, Int.reduceLE, Int.reduceMul, Int.reduceAdd, Int.reduceSub, Nat.reducePow, Nat.reduceLT, Nat.reduceLeDiff, Int.natAbs_natCast, if_true, if_false, Z.rIsN, Z.tyN, Z.kit_ii, Z.kit_bi, Z.kit_si, Z.kit_ni, Z.kit_ib, Z.kit_bb, Z.kit_sb, Z.kit_nb, Z.kit_is, Z.kit_bs, Z.kit_ss, Z.kit_ns, Bool.not_true, Bool.not_false, L2.tTup, L2.wipe, L2.tYes, Z.Turn1, L2.tNever, sizeLine_eq, Z.rInU, Z.rInH, L2.flatV, List.any_cons, List.any_nil, List.all_cons, List.all_nil, Bool.and_true, Bool.true_and, Bool.or_false, Bool.false_or, Z.tBML, L2.rAppend, Z.map_int_inj, Z.map_bl_inj, Z.rTupL, Z.rLstL, Z.rLstT, Z.rSortI, Z.rAnyH, Z.rAllH, Z.rSumH, Z.rLenL, Z.rLenU, List.length_map, L2.tPar, StX.tStar, L2.tDNewT, L2.tDIn, L2.sDPut, L2.tDGet, Z.tCallK0, List.getD_cons_zero, List.getD_cons_succ]
    refine z_seq ?_
    refine catV rfl e1 (GV.cons (one 3 rfl (.own _) s1 rfl cl) (GV.cons (one 4 rfl (.own _) s1 rfl cl) (GV.cons (one 5 rfl (.own _) s1 rfl cl) GV.nil))) (fun p2 H2 t2 n2 e2 => ?_) (by simp) (by simp)
    have s2 := s1.trans t2
    simp only [L2.start, List.map_cons, List.map_nil, List.length_cons, List.length_nil, Nat.zero_add, Nat.reduceAdd, Nat.reduceSub, List.replicate_succ, List.replicate_zero, List.cons_append, List.nil_append, List.append_nil, L2.tNext, L2.tAsg, L2.gName, L2.tRet, L2.tRetN, L2.tIfS, L2.tVar, L2.tUn, L2.rI, L2.rI0, L2.rU, L2.rEq, L2.rNe, L2.tTest, L2.tB, L2.tIf, Z.tIfCI, Z.tIfCS, L2.tChain, L2.tCall, L2.tDrop, L2.tAndV, L2.tOrV, L2.tNotV, L2.tAnd, L2.tOr, L2.tNot, Z.sc_ii, Z.sc_ss, Z.sc_bb, Z.sc_is, Z.sc_si, Z.sc_ni, Z.sc_in, Z.sc_ns, Z.sc_sn, Z.sc_nn, L2.CDiv, L2.CPow, L2.CMul, List.getElem?_cons_zero, List.getElem?_cons_succ, Z.set_z, Z.set_s, Option.some.injEq, L2.V.int.injEq, L2.V.bl.injEq, L2.V.str.injEq, L2.V.ref.injEq, L2.V.ty.injEq, List.cons.injEq, exists_eq_left', exists_and_left, exists_eq_left, exists_eq_right, exists_eq_right', exists_eq', exists_eq, true_and, and_true, and_assoc, decide_eq_true_eq, Int.reduceLT, and_self, Z.rIxH, Z.rIxU, Z.at30, Z.at31, Z.at32, Z.ix3_0, Z.ix3_1, Z.ix3_2, L2.rSetL, L2.gSub, Z.gTupH, L2.gCons, L2.gNil, L2.HO.lst.injEq, L2.HO.tup.injEq, L2.upd_same, L2.upd_upd, L2.tSl, L2.tNoPart, L2.tPart, L2.rSlL, L2.rCat, List.length_append, or_false, false_or, or_true, true_or, reduceCtorEq, false_and, and_false, exists_false, Int.reduceNeg, Int.reducePow, Int.reduceToNat, Int.reduceAbs, Int.reduceLE, Int.reduceMul, Int.reduceAdd, Int.reduceSub, Nat.reducePow, Nat.reduceLT, Nat.reduceLeDiff, Int.natAbs_natCast, if_true, if_false, Z.rIsN, Z.tyN, Z.kit_ii, Z.kit_bi, Z.kit_si, Z.kit_ni, Z.kit_ib, Z.kit_bb, Z.kit_sb, Z.kit_nb, Z.kit_is, Z.kit_bs, Z.kit_ss, Z.kit_ns, Bool.not_true, Bool.not_false, L2.tTup, L2.wipe, L2.tYes, Z.Turn1, L2.tNever, sizeLine_eq, Z.rInU, Z.rInH, L2.flatV, List.any_cons, List.any_nil, List.all_cons, List.all_nil, Bool.and_true, Bool.true_and, Bool.or_false, Bool.false_or, Z.tBML, L2.rAppend, Z.map_int_inj, Z.map_bl_inj, Z.rTupL, Z.rLstL, Z.rLstT, Z.rSortI, Z.rAnyH, Z.rAllH, Z.rSumH, Z.rLenL, Z.rLenU, List.length_map, L2.tPar, StX.tStar, L2.tDNewT, L2.tDIn, L2.sDPut, L2.tDGet, Z.tCallK0, List.getD_cons_zero, List.getD_cons_succ]
    refine z_seq ?_
    refine catV rfl e2 (GV.cons (one 6 rfl (.own _) s2 rfl cl) (GV.cons (one 7 rfl (.own _) s2 rfl cl) (GV.cons (one 8 rfl (.own _) s2 rfl cl) GV.nil))) (fun p3 H3 t3 n3 e3 => ?_) (by simp) (by simp)
    have s3 := s2.trans t3
    simp only [L2.start, List.map_cons, List.map_nil, List.length_cons, List.length_nil, Nat.zero_add, Nat.reduceAdd, Nat.reduceSub, List.replicate_succ, List.replicate_zero, List.cons_append, List.nil_append, List.append_nil, L2.tNext, L2.tAsg, L2.gName, L2.tRet, L2.tRetN, L2.tIfS, L2.tVar, L2.tUn, L2.rI, L2.rI0, L2.rU, L2.rEq, L2.rNe, L2.tTest, L2.tB, L2.tIf, Z.tIfCI, Z.tIfCS, L2.tChain, L2.tCall, L2.tDrop, L2.tAndV, L2.tOrV, L2.tNotV, L2.tAnd, L2.tOr, L2.tNot, Z.sc_ii, Z.sc_ss, Z.sc_bb, Z.sc_is, Z.sc_si, Z.sc_ni, Z.sc_in, Z.sc_ns, Z.sc_sn, Z.sc_nn, L2.CDiv, L2.CPow, L2.CMul, List.getElem?_cons_zero, List.getElem?_cons_succ, Z.set_z, Z.set_s, Option.some.injEq, L2.V.int.injEq, L2.V.bl.injEq, L2.V.str.injEq, L2.V.ref.injEq, L2.V.ty.injEq, List.cons.injEq, exists_eq_left', exists_and_left, exists_eq_left, exists_eq_right, exists_eq_right', exists_eq', exists_eq, true_and, and_true, and_assoc, decide_eq_true_eq, Int.reduceLT, and_self, Z.rIxH, Z.rIxU, Z.at30, Z.at31, Z.at32, Z.ix3_0, Z.ix3_1, Z.ix3_2, L2.rSetL, L2.gSub, Z.gTupH, L2.gCons, L2.gNil, L2.HO.lst.injEq, L2.HO.tup.injEq, L2.upd_same, L2.upd_upd, L2.tSl, L2.tNoPart, L2.tPart, L2.rSlL, L2.rCat, List.length_append, or_false, false_or, or_true, true_or, reduceCtorEq, false_and, and_false, exists_false, Int.reduceNeg, Int.reducePow, Int.reduceToNat, Int.reduceAbs, Int.reduceLE, Int.reduceMul, Int.reduceAdd, Int.reduceSub, Nat.reducePow, Nat.reduceLT, Nat.reduceLeDiff, Int.natAbs_natCast, if_true, if_false, Z.rIsN, Z.tyN, Z.kit_ii, Z.kit_bi, Z.kit_si, Z.kit_ni, Z.kit_ib, Z.kit_bb, Z.kit_sb, Z.kit_nb, Z.kit_is, Z.kit_bs, Z.kit_ss, Z.kit_ns, Bool.not_true, Bool.not_false, L2.tTup, L2.wipe, L2.tYes, Z.Turn1, L2.tNever, sizeLine_eq, Z.rInU, Z.rInH, L2.flatV, List.any_cons, List.any_nil, List.all_cons, List.all_nil, Bool.and_true, Bool.true_and, Bool.or_false, Bool.false_or, Z.tBML, L2.rAppend, Z.map_int_inj, Z.map_bl_inj, Z.rTupL, Z.rLstL, Z.rLstT, Z.rSortI, Z.rAnyH, Z.rAllH, Z.rSumH, Z.rLenL, Z.rLenU, List.length_map, L2.tPar, StX.tStar, L2.tDNewT, L2.tDIn, L2.sDPut, L2.tDGet, Z.tCallK0, List.getD_cons_zero, List.getD_cons_succ]
    refine z_seq ?_
    refine catV rfl e3 (GV.cons (one 9 rfl (.own _) s3 rfl cl) (GV.cons (one 10 rfl (.own _) s3 rfl cl) GV.nil)) (fun p4 H4 t4 n4 e4 => ?_) (by simp) (by simp)
    have s4 := s3.trans t4
    simp only [L2.start, List.map_cons, List.map_nil, List.length_cons, List.length_nil, Nat.zero_add, Nat.reduceAdd, Nat.reduceSub, List.replicate_succ, List.replicate_zero, List.cons_append, List.nil_append, List.append_nil, L2.tNext, L2.tAsg, L2.gName, L2.tRet, L2.tRetN, L2.tIfS, L2.tVar, L2.tUn, L2.rI, L2.rI0, L2.rU, L2.rEq, L2.rNe, L2.tTest, L2.tB, L2.tIf, Z.tIfCI, Z.tIfCS, L2.tChain, L2.tCall, L2.tDrop, L2.tAndV, L2.tOrV, L2.tNotV, L2.tAnd, L2.tOr, L2.tNot, Z.sc_ii, Z.sc_ss, Z.sc_bb, Z.sc_is, Z.sc_si, Z.sc_ni, Z.sc_in, Z.sc_ns, Z.sc_sn, Z.sc_nn, L2.CDiv, L2.CPow, L2.CMul, List.getElem?_cons_zero, List.getElem?_cons_succ, Z.set_z, Z.set_s, Option.some.injEq, L2.V.int.injEq, L2.V.bl.injEq, L2.V.str.injEq, L2.V.ref.injEq, L2.V.ty.injEq, List.cons.injEq, exists_eq_left', exists_and_left, exists_eq_left, exists_eq_right, exists_eq_right', exists_eq', exists_eq, true_and, and_true, and_assoc, decide_eq_true_eq, Int.reduceLT, and_self, Z.rIxH, Z.rIxU, Z.at30, Z.at31, Z.at32, Z.ix3_0, Z.ix3_1, Z.ix3_2, L2.rSetL, L2.gSub, Z.gTupH, L2.gCons, L2.gNil, L2.HO.lst.injEq, L2.HO.tup.injEq, L2.upd_same, L2.upd_upd, L2.tSl, L2.tNoPart, L2.tPart, L2.rSlL, L2.rCat, List.length_append, or_false, false_or, or_true, true_or, reduceCtorEq, false_and, and_false, exists_false, Int.reduceNeg, Int.reducePow, Int.reduceToNat, Int.reduceAbs, Int.reduceLE, Int.reduceMul, Int.reduceAdd, Int.reduceSub, Nat.reducePow, Nat.reduceLT, Nat.reduceLeDiff, Int.natAbs_natCast, if_true, if_false, Z.rIsN, Z.tyN, Z.kit_ii, Z.kit_bi, Z.kit_si, Z.kit_ni, Z.kit_ib, Z.kit_bb, Z.kit_sb, Z.kit_nb, Z.kit_is, Z.kit_bs, Z.kit_ss, Z.kit_ns, Bool.not_true, Bool.not_false, L2.tTup, L2.wipe, L2.tYes, Z.Turn1, L2.tNever, sizeLine_eq, Z.rInU, Z.rInH, L2.flatV, List.any_cons, List.any_nil, List.all_cons, List.all_nil, Bool.and_true, Bool.true_and, Bool.or_false, Bool.false_or, Z.tBML, L2.rAppend, Z.map_int_inj, Z.map_bl_inj, Z.rTupL, Z.rLstL, Z.rLstT, Z.rSortI, Z.rAnyH, Z.rAllH, Z.rSumH, Z.rLenL, Z.rLenU, List.length_map, L2.tPar, StX.tStar, L2.tDNewT, L2.tDIn, L2.sDPut, L2.tDGet, Z.tCallK0, List.getD_cons_zero, List.getD_cons_succ]
    refine z_seq ?_
    refine catV rfl e4 (GV.cons (one 11 rfl (.own _) s4 rfl cl) (GV.cons (one 12 rfl (.own _) s4 rfl cl) (GV.cons (one 13 rfl (.own _) s4 rfl cl) GV.nil))) (fun p5 H5 t5 n5 e5 => ?_) (by simp) (by simp)
    have s5 := s4.trans t5
    simp only [L2.start, List.map_cons, List.map_nil, List.length_cons, List.length_nil, Nat.zero_add, Nat.reduceAdd, Nat.reduceSub, List.replicate_succ, List.replicate_zero, List.cons_append, List.nil_append, List.append_nil, L2.tNext, L2.tAsg, L2.gName, L2.tRet, L2.tRetN, L2.tIfS, L2.tVar, L2.tUn, L2.rI, L2.rI0, L2.rU, L2.rEq, L2.rNe, L2.tTest, L2.tB, L2.tIf, Z.tIfCI, Z.tIfCS, L2.tChain, L2.tCall, L2.tDrop, L2.tAndV, L2.tOrV, L2.tNotV, L2.tAnd, L2.tOr, L2.tNot, Z.sc_ii, Z.sc_ss, Z.sc_bb, Z.sc_is, Z.sc_si, Z.sc_ni, Z.sc_in, Z.sc_ns, Z.sc_sn, Z.sc_nn, L2.CDiv, L2.CPow, L2.CMul, List.getElem?_cons_zero, List.getElem?_cons_succ, Z.set_z, Z.set_s, Option.some.injEq, L2.V.int.injEq, L2.V.bl.injEq, L2.V.str.injEq, L2.V.ref.injEq, L2.V.ty.injEq, List.cons.injEq, exists_eq_left', exists_and_left, exists_eq_left, exists_eq_right, exists_eq_right', exists_eq', exists_eq, true_and, and_true, and_assoc, decide_eq_true_eq, Int.reduceLT, and_self, Z.rIxH, Z.rIxU, Z.at30, Z.at31, Z.at32, Z.ix3_0, Z.ix3_1, Z.ix3_2, L2.rSetL, L2.gSub, Z.gTupH, L2.gCons, L2.gNil, L2.HO.lst.injEq, L2.HO.tup.injEq, L2.upd_same, L2.upd_upd, L2.tSl, L2.tNoPart, L2.tPart, L2.rSlL, L2.rCat, List.length_append, or_false, false_or, or_true, true_or, reduceCtorEq, false_and, and_false, exists_false, Int.reduceNeg, Int.reducePow, Int.reduceToNat, Int.reduceAbs, Int.reduceLE, Int.reduceMul, Int.reduceAdd, Int.reduceSub, Nat.reducePow, Nat.reduceLT, Nat.reduceLeDiff, Int.natAbs_natCast, if_true, if_false, Z.rIsN, Z.tyN, Z.kit_ii, Z.kit_bi, Z.kit_si, Z.kit_ni, Z.kit_ib, Z.kit_bb, Z.kit_sb, Z.kit_nb, Z.kit_is, Z.kit_bs, Z.kit_ss, Z.kit_ns, Bool.not_true, Bool.not_false, L2.tTup, L2.wipe, L2.tYes, Z.Turn1, L2.tNever, sizeLine_eq, Z.rInU, Z.rInH, L2.flatV, List.any_cons, List.any_nil, List.all_cons, List.all_nil, Bool.and_true, Bool.true_and, Bool.or_false, Bool.false_or, Z.tBML, L2.rAppend, Z.map_int_inj, Z.map_bl_inj, Z.rTupL, Z.rLstL, Z.rLstT, Z.rSortI, Z.rAnyH, Z.rAllH, Z.rSumH, Z.rLenL, Z.rLenU, List.length_map, L2.tPar, StX.tStar, L2.tDNewT, L2.tDIn, L2.sDPut, L2.tDGet, Z.tCallK0, List.getD_cons_zero, List.getD_cons_succ]
    refine z_seq ?_
    refine catV rfl e5 (GV.cons (one 14 rfl (.own _) s5 rfl cl) (GV.cons (one 15 rfl (.own _) s5 rfl cl) (GV.cons (one 16 rfl (.own _) s5 rfl cl) GV.nil))) (fun p6 H6 t6 n6 e6 => ?_) (by simp) (by simp)
    have s6 := s5.trans t6
    simp only [L2.start, List.map_cons, List.map_nil, List.length_cons, List.length_nil, Nat.zero_add, Nat.reduceAdd, Nat.reduceSub, List.replicate_succ, List.replicate_zero, List.cons_append, List.nil_append, List.append_nil, L2.tNext, L2.tAsg, L2.gName, L2.tRet, L2.tRetN, L2.tIfS, L2.tVar, L2.tUn, L2.rI, L2.rI0, L2.rU, L2.rEq, L2.rNe, L2.tTest, L2.tB, L2.tIf, Z.tIfCI, Z.tIfCS, L2.tChain, L2.tCall, L2.tDrop, L2.tAndV, L2.tOrV, L2.tNotV, L2.tAnd, L2.tOr, L2.tNot, Z.sc_ii, Z.sc_ss, Z.sc_bb, Z.sc_is, Z.sc_si, Z.sc_ni, Z.sc_in, Z.sc_ns, Z.sc_sn, Z.sc_nn, L2.CDiv, L2.CPow, L2.CMul, List.getElem?_cons_zero, List.getElem?_cons_succ, Z.set_z, Z.set_s, Option.some.injEq, L2.V.int.injEq, L2.V.bl.injEq, L2.V.str.injEq, L2.V.ref.injEq, L2.V.ty.injEq, List.cons.injEq, exists_eq_left', exists_and_left, exists_eq_left, exists_eq_right, exists_eq_right', exists_eq', exists_eq, true_and, and_true, and_assoc, decide_eq_true_eq, Int.reduceLT, and_self, Z.rIxH, Z.rIxU, Z.at30, Z.at31, Z.at32, Z.ix3_0, Z.ix3_1, Z.ix3_2, L2.rSetL, L2.gSub, Z.gTupH, L2.gCons, L2.gNil, L2.HO.lst.injEq, L2.HO.tup.injEq, L2.upd_same, L2.upd_upd, L2.tSl, L2.tNoPart, L2.tPart, L2.rSlL, L2.rCat, List.length_append, or_false, false_or, or_true, true_or, reduceCtorEq, false_and, and_false, exists_false, Int.reduceNeg, Int.reducePow, Int.reduceToNat, Int.reduceAbs, Int.reduceLE, Int.reduceMul, Int.reduceAdd, Int.reduceSub, Nat.reducePow, Nat.reduceLT, Nat.reduceLeDiff, Int.natAbs_natCast, if_true, if_false, Z.rIsN, Z.tyN, Z.kit_ii, Z.kit_bi, Z.kit_si, Z.kit_ni, Z.kit_ib, Z.kit_bb, Z.kit_sb, Z.kit_nb, Z.kit_is, Z.kit_bs, Z.kit_ss, Z.kit_ns, Bool.not_true, Bool.not_false, L2.tTup, L2.wipe, L2.tYes, Z.Turn1, L2.tNever, sizeLine_eq, Z.rInU, Z.rInH, L2.flatV, List.any_cons, List.any_nil, List.all_cons, List.all_nil, Bool.and_true, Bool.true_and, Bool.or_false, Bool.false_or, Z.tBML, L2.rAppend, Z.map_int_inj, Z.map_bl_inj, Z.rTupL, Z.rLstL, Z.rLstT, Z.rSortI, Z.rAnyH, Z.rAllH, Z.rSumH, Z.rLenL, Z.rLenU, List.length_map, L2.tPar, StX.tStar, L2.tDNewT, L2.tDIn, L2.sDPut, L2.tDGet, Z.tCallK0, List.getD_cons_zero, List.getD_cons_succ]
    refine z_seq ?_
    refine catV rfl e6 (GV.cons (one 17 rfl (.own _) s6 rfl cl) GV.nil) (fun p7 H7 t7 n7 e7 => ?_) (by simp) (by simp)
    have s7 := s6.trans t7
    simp only [L2.start, List.map_cons, List.map_nil, List.length_cons, List.length_nil, Nat.zero_add, Nat.reduceAdd, Nat.reduceSub, List.replicate_succ, List.replicate_zero, List.cons_append, List.nil_append, List.append_nil, L2.tNext, L2.tAsg, L2.gName, L2.tRet, L2.tRetN, L2.tIfS, L2.tVar, L2.tUn, L2.rI, L2.rI0, L2.rU, L2.rEq, L2.rNe, L2.tTest, L2.tB, L2.tIf, Z.tIfCI, Z.tIfCS, L2.tChain, L2.tCall, L2.tDrop, L2.tAndV, L2.tOrV, L2.tNotV, L2.tAnd, L2.tOr, L2.tNot, Z.sc_ii, Z.sc_ss, Z.sc_bb, Z.sc_is, Z.sc_si, Z.sc_ni, Z.sc_in, Z.sc_ns, Z.sc_sn, Z.sc_nn, L2.CDiv, L2.CPow, L2.CMul, List.getElem?_cons_zero, List.getElem?_cons_succ, Z.set_z, Z.set_s, Option.some.injEq, L2.V.int.injEq, L2.V.bl.injEq, L2.V.str.injEq, L2.V.ref.injEq, L2.V.ty.injEq, List.cons.injEq, exists_eq_left', exists_and_left, exists_eq_left, exists_eq_right, exists_eq_right', exists_eq', exists_eq, true_and, and_true, and_assoc, decide_eq_true_eq, Int.reduceLT, and_self, Z.rIxH, Z.rIxU, Z.at30, Z.at31, Z.at32, Z.ix3_0, Z.ix3_1, Z.ix3_2, L2.rSetL, L2.gSub, Z.gTupH, L2.gCons, L2.gNil, L2.HO.lst.injEq, L2.HO.tup.injEq, L2.upd_same, L2.upd_upd, L2.tSl, L2.tNoPart, L2.tPart, L2.rSlL, L2.rCat, List.length_append, or_false, false_or, or_true, true_or, reduceCtorEq, false_and, and_false, exists_false, Int.reduceNeg, Int.reducePow, Int.reduceToNat, Int.reduceAbs, Int.reduceLE, Int.reduceMul, Int.reduceAdd, Int.reduceSub, Nat.reducePow, Nat.reduceLT, Nat.reduceLeDiff, Int.natAbs_natCast, if_true, if_false, Z.rIsN, Z.tyN, Z.kit_ii, Z.kit_bi, Z.kit_si, Z.kit_ni, Z.kit_ib, Z.kit_bb, Z.kit_sb, Z.kit_nb, Z.kit_is, Z.kit_bs, Z.kit_ss, Z.kit_ns, Bool.not_true, Bool.not_false, L2.tTup, L2.wipe, L2.tYes, Z.Turn1, L2.tNever, sizeLine_eq, Z.rInU, Z.rInH, L2.flatV, List.any_cons, List.any_nil, List.all_cons, List.all_nil, Bool.and_true, Bool.true_and, Bool.or_false, Bool.false_or, Z.tBML, L2.rAppend, Z.map_int_inj, Z.map_bl_inj, Z.rTupL, Z.rLstL, Z.rLstT, Z.rSortI, Z.rAnyH, Z.rAllH, Z.rSumH, Z.rLenL, Z.rLenU, List.length_map, L2.tPar, StX.tStar, L2.tDNewT, L2.tDIn, L2.sDPut, L2.tDGet, Z.tCallK0, List.getD_cons_zero, List.getD_cons_succ]
    refine z_seq ?_
    refine lstV (GV.cons cl (GV.cons cl (GV.cons cl (GV.cons cl (GV.cons cl (GV.cons cl GV.nil)))))) (fun p8 H8 t8 n8 e8 => ?_) (by simp)
    have s8 := s7.trans t8
    simp only [L2.start, List.map_cons, List.map_nil, List.length_cons, List.length_nil, Nat.zero_add, Nat.reduceAdd, Nat.reduceSub, List.replicate_succ, List.replicate_zero, List.cons_append, List.nil_append, List.append_nil, L2.tNext, L2.tAsg, L2.gName, L2.tRet, L2.tRetN, L2.tIfS, L2.tVar, L2.tUn, L2.rI, L2.rI0, L2.rU, L2.rEq, L2.rNe, L2.tTest, L2.tB, L2.tIf, Z.tIfCI, Z.tIfCS, L2.tChain, L2.tCall, L2.tDrop, L2.tAndV, L2.tOrV, L2.tNotV, L2.tAnd, L2.tOr, L2.tNot, Z.sc_ii, Z.sc_ss, Z.sc_bb, Z.sc_is, Z.sc_si, Z.sc_ni, Z.sc_in, Z.sc_ns, Z.sc_sn, Z.sc_nn, L2.CDiv, L2.CPow, L2.CMul, List.getElem?_cons_zero, List.getElem?_cons_succ, Z.set_z, Z.set_s, Option.some.injEq, L2.V.int.injEq, L2.V.bl.injEq, L2.V.str.injEq, L2.V.ref.injEq, L2.V.ty.injEq, List.cons.injEq, exists_eq_left', exists_and_left, exists_eq_left, exists_eq_right, exists_eq_right', exists_eq', exists_eq, true_and, and_true, and_assoc, decide_eq_true_eq, Int.reduceLT, and_self, Z.rIxH, Z.rIxU, Z.at30, Z.at31, Z.at32, Z.ix3_0, Z.ix3_1, Z.ix3_2, L2.rSetL, L2.gSub, Z.gTupH, L2.gCons, L2.gNil, L2.HO.lst.injEq, L2.HO.tup.injEq, L2.upd_same, L2.upd_upd, L2.tSl, L2.tNoPart, L2.tPart, L2.rSlL, L2.rCat, List.length_append, or_false, false_or, or_true, true_or, reduceCtorEq, false_and, and_false, exists_false, Int.reduceNeg, Int.reducePow, Int.reduceToNat, Int.reduceAbs, Int.reduceLE, Int.reduceMul, Int.reduceAdd, Int.reduceSub, Nat.reducePow, Nat.reduceLT, Nat.reduceLeDiff, Int.natAbs_natCast, if_true, if_false, Z.rIsN, Z.tyN, Z.kit_ii, Z.kit_bi, Z.kit_si, Z.kit_ni, Z.kit_ib, Z.kit_bb, Z.kit_sb, Z.kit_nb, Z.kit_is, Z.kit_bs, Z.kit_ss, Z.kit_ns, Bool.not_true, Bool.not_false, L2.tTup, L2.wipe, L2.tYes, Z.Turn1, L2.tNever, sizeLine_eq, Z.rInU, Z.rInH, L2.flatV, List.any_cons, List.any_nil, List.all_cons, List.all_nil, Bool.and_true, Bool.true_and, Bool.or_false, Bool.false_or, Z.tBML, L2.rAppend, Z.map_int_inj, Z.map_bl_inj, Z.rTupL, Z.rLstL, Z.rLstT, Z.rSortI, Z.rAnyH, Z.rAllH, Z.rSumH, Z.rLenL, Z.rLenU, List.length_map, L2.tPar, StX.tStar, L2.tDNewT, L2.tDIn, L2.sDPut, L2.tDGet, Z.tCallK0, List.getD_cons_zero, List.getD_cons_succ]
    refine z_seq ?_
    refine catV rfl e8 (GV.cons cl (GV.cons cl (GV.cons cl (GV.cons cl (GV.cons cl GV.nil))))) (fun p9 H9 t9 n9 e9 => ?_) (by simp) (by simp)
    have s9 := s8.trans t9
    simp only [L2.start, List.map_cons, List.map_nil, List.length_cons, List.length_nil, Nat.zero_add, Nat.reduceAdd, Nat.reduceSub, List.replicate_succ, List.replicate_zero, List.cons_append, List.nil_append, List.append_nil, L2.tNext, L2.tAsg, L2.gName, L2.tRet, L2.tRetN, L2.tIfS, L2.tVar, L2.tUn, L2.rI, L2.rI0, L2.rU, L2.rEq, L2.rNe, L2.tTest, L2.tB, L2.tIf, Z.tIfCI, Z.tIfCS, L2.tChain, L2.tCall, L2.tDrop, L2.tAndV, L2.tOrV, L2.tNotV, L2.tAnd, L2.tOr, L2.tNot, Z.sc_ii, Z.sc_ss, Z.sc_bb, Z.sc_is, Z.sc_si, Z.sc_ni, Z.sc_in, Z.sc_ns, Z.sc_sn, Z.sc_nn, L2.CDiv, L2.CPow, L2.CMul, List.getElem?_cons_zero, List.getElem?_cons_succ, Z.set_z, Z.set_s, Option.some.injEq, L2.V.int.injEq, L2.V.bl.injEq, L2.V.str.injEq, L2.V.ref.injEq, L2.V.ty.injEq, List.cons.injEq, exists_eq_left', exists_and_left, exists_eq_left, exists_eq_right, exists_eq_right', exists_eq', exists_eq, true_and, and_true, and_assoc, decide_eq_true_eq, Int.reduceLT, and_self, Z.rIxH, Z.rIxU, Z.at30, Z.at31, Z.at32, Z.ix3_0, Z.ix3_1, Z.ix3_2, L2.rSetL, L2.gSub, Z.gTupH, L2.gCons, L2.gNil, L2.HO.lst.injEq, L2.HO.tup.injEq, L2.upd_same, L2.upd_upd, L2.tSl, L2.tNoPart, L2.tPart, L2.rSlL, L2.rCat, List.length_append, or_false, false_or, or_true, true_or, reduceCtorEq, false_and, and_false, exists_false, Int.reduceNeg, Int.reducePow, Int.reduceToNat, Int.reduceAbs, Int.reduceLE, Int.reduceMul, Int.reduceAdd, Int.reduceSub, Nat.reducePow, Nat.reduceLT, Nat.reduceLeDiff, Int.natAbs_natCast, if_true, if_false, Z.rIsN, Z.tyN, Z.kit_ii, Z.kit_bi, Z.kit_si, Z.kit_ni, Z.kit_ib, Z.kit_bb, Z.kit_sb, Z.kit_nb, Z.kit_is, Z.kit_bs, Z.kit_ss, Z.kit_ns, Bool.not_true, Bool.not_false, L2.tTup, L2.wipe, L2.tYes, Z.Turn1, L2.tNever, sizeLine_eq, Z.rInU, Z.rInH, L2.flatV, List.any_cons, List.any_nil, List.all_cons, List.all_nil, Bool.and_true, Bool.true_and, Bool.or_false, Bool.false_or, Z.tBML, L2.rAppend, Z.map_int_inj, Z.map_bl_inj, Z.rTupL, Z.rLstL, Z.rLstT, Z.rSortI, Z.rAnyH, Z.rAllH, Z.rSumH, Z.rLenL, Z.rLenU, List.length_map, L2.tPar, StX.tStar, L2.tDNewT, L2.tDIn, L2.sDPut, L2.tDGet, Z.tCallK0, List.getD_cons_zero, List.getD_cons_succ]
    refine z_seq ?_
    refine catV rfl e9 (GV.cons cl (GV.cons cl (GV.cons cl (GV.cons cl (GV.cons cl (GV.cons cl (GV.cons cl GV.nil))))))) (fun p10 H10 t10 n10 e10 => ?_) (by simp) (by simp)
    have s10 := s9.trans t10
    simp only [L2.start, List.map_cons, List.map_nil, List.length_cons, List.length_nil, Nat.zero_add, Nat.reduceAdd, Nat.reduceSub, List.replicate_succ, List.replicate_zero, List.cons_append, List.nil_append, List.append_nil, L2.tNext, L2.tAsg, L2.gName, L2.tRet, L2.tRetN, L2.tIfS, L2.tVar, L2.tUn, L2.rI, L2.rI0, L2.rU, L2.rEq, L2.rNe, L2.tTest, L2.tB, L2.tIf, Z.tIfCI, Z.tIfCS, L2.tChain, L2.tCall, L2.tDrop, L2.tAndV, L2.tOrV, L2.tNotV, L2.tAnd, L2.tOr, L2.tNot, Z.sc_ii, Z.sc_ss, Z.sc_bb, Z.sc_is, Z.sc_si, Z.sc_ni, Z.sc_in, Z.sc_ns, Z.sc_sn, Z.sc_nn, L2.CDiv, L2.CPow, L2.CMul, List.getElem?_cons_zero, List.getElem?_cons_succ, Z.set_z, Z.set_s, Option.some.injEq, L2.V.int.injEq, L2.V.bl.injEq, L2.V.str.injEq, L2.V.ref.injEq, L2.V.ty.injEq, List.cons.injEq, exists_eq_left', exists_and_left, exists_eq_left, exists_eq_right, exists_eq_right', exists_eq', exists_eq, true_and, and_true, and_assoc, decide_eq_true_eq, Int.reduceLT, and_self, Z.rIxH, Z.rIxU, Z.at30, Z.at31, Z.at32, Z.ix3_0, Z.ix3_1, Z.ix3_2, L2.rSetL, L2.gSub, Z.gTupH, L2.gCons, L2.gNil, L2.HO.lst.injEq, L2.HO.tup.injEq, L2.upd_same, L2.upd_upd, L2.tSl, L2.tNoPart, L2.tPart, L2.rSlL, L2.rCat, List.length_append, or_false, false_or, or_true, true_or, reduceCtorEq, false_and, and_false, exists_false, Int.reduceNeg, Int.reducePow, Int.reduceToNat, Int.reduceAbs, Int.reduceLE, Int.reduceMul, Int.reduceAdd, Int.reduceSub, Nat.reducePow, Nat.reduceLT, Nat.reduceLeDiff, Int.natAbs_natCast, if_true, if_false, Z.rIsN, Z.tyN, Z.kit_ii, Z.kit_bi, Z.kit_si, Z.kit_ni, Z.kit_ib, Z.kit_bb, Z.kit_sb, Z.kit_nb, Z.kit_is, Z.kit_bs, Z.kit_ss, Z.kit_ns, Bool.not_true, Bool.not_false, L2.tTup, L2.wipe, L2.tYes, Z.Turn1, L2.tNever, sizeLine_eq, Z.rInU, Z.rInH, L2.flatV, List.any_cons, List.any_nil, List.all_cons, List.all_nil, Bool.and_true, Bool.true_and, Bool.or_false, Bool.false_or, Z.tBML, L2.rAppend, Z.map_int_inj, Z.map_bl_inj, Z.rTupL, Z.rLstL, Z.rLstT, Z.rSortI, Z.rAnyH, Z.rAllH, Z.rSumH, Z.rLenL, Z.rLenU, List.length_map, L2.tPar, StX.tStar, L2.tDNewT, L2.tDIn, L2.sDPut, L2.tDGet, Z.tCallK0, List.getD_cons_zero, List.getD_cons_succ]
    refine z_seq ?_
    refine lstV (GV.cons (one 18 rfl (.own _) s10 rfl cl) (GV.cons (one 19 rfl (.own _) s10 rfl cl) (GV.cons (one 20 rfl (.own _) s10 rfl cl) GV.nil))) (fun p11 H11 t11 n11 e11 => ?_) (by simp)
    have s11 := s10.trans t11
    simp only [L2.start, List.map_cons, List.map_nil, List.length_cons, List.length_nil, Nat.zero_add, Nat.reduceAdd, Nat.reduceSub, List.replicate_succ, List.replicate_zero, List.cons_append, List.nil_append, List.append_nil, L2.tNext, L2.tAsg, L2.gName, L2.tRet, L2.tRetN, L2.tIfS, L2.tVar, L2.tUn, L2.rI, L2.rI0, L2.rU, L2.rEq, L2.rNe, L2.tTest, L2.tB, L2.tIf, Z.tIfCI, Z.tIfCS, L2.tChain, L2.tCall, L2.tDrop, L2.tAndV, L2.tOrV, L2.tNotV, L2.tAnd, L2.tOr, L2.tNot, Z.sc_ii, Z.sc_ss, Z.sc_bb, Z.sc_is, Z.sc_si, Z.sc_ni, Z.sc_in, Z.sc_ns, Z.sc_sn, Z.sc_nn, L2.CDiv, L2.CPow, L2.CMul, List.getElem?_cons_zero, List.getElem?_cons_succ, Z.set_z, Z.set_s, Option.some.injEq, L2.V.int.injEq, L2.V.bl.injEq, L2.V.str.injEq, L2.V.ref.injEq, L2.V.ty.injEq, List.cons.injEq, exists_eq_left', exists_and_left, exists_eq_left, exists_eq_right, exists_eq_right', exists_eq', exists_eq, true_and, and_true, and_assoc, decide_eq_true_eq, Int.reduceLT, and_self, Z.rIxH, Z.rIxU, Z.at30, Z.at31, Z.at32, Z.ix3_0, Z.ix3_1, Z.ix3_2, L2.rSetL, L2.gSub, Z.gTupH, L2.gCons, L2.gNil, L2.HO.lst.injEq, L2.HO.tup.injEq, L2.upd_same, L2.upd_upd, L2.tSl, L2.tNoPart, L2.tPart, L2.rSlL, L2.rCat, List.length_append, or_false, false_or, or_true, true_or, reduceCtorEq, false_and, and_false, exists_false, Int.reduceNeg, Int.reducePow, Int.reduceToNat, Int.reduceAbs, Int.reduceLE, Int.reduceMul, Int.reduceAdd, Int.reduceSub, Nat.reducePow, Nat.reduceLT, Nat.reduceLeDiff, Int.natAbs_natCast, if_true, if_false, Z.rIsN, Z.tyN, Z.kit_ii, Z.kit_bi, Z.kit_si, Z.kit_ni, Z.kit_ib, Z.kit_bb, Z.kit_sb, Z.kit_nb, Z.kit_is, Z.kit_bs, Z.kit_ss, Z.kit_ns, Bool.not_true, Bool.not_false, L2.tTup, L2.wipe, L2.tYes, Z.Turn1, L2.tNever, sizeLine_eq, Z.rInU, Z.rInH, L2.flatV, List.any_cons, List.any_nil, List.all_cons, List.all_nil, Bool.and_true, Bool.true_and, Bool.or_false, Bool.false_or, Z.tBML, L2.rAppend, Z.map_int_inj, Z.map_bl_inj, Z.rTupL, Z.rLstL, Z.rLstT, Z.rSortI, Z.rAnyH, Z.rAllH, Z.rSumH, Z.rLenL, Z.rLenU, List.length_map, L2.tPar, StX.tStar, L2.tDNewT, L2.tDIn, L2.sDPut, L2.tDGet, Z.tCallK0, List.getD_cons_zero, List.getD_cons_succ]
    refine z_seq ?_
    refine lstV (GV.cons (one 21 rfl (.ty _) s11 rfl cl) (GV.cons (one 22 rfl (.ty _) s11 rfl cl) (GV.cons (one 23 rfl (.ty _) s11 rfl cl) GV.nil))) (fun p12 H12 t12 n12 e12 => ?_) (by simp)
    have s12 := s11.trans t12
    simp only [L2.start, List.map_cons, List.map_nil, List.length_cons, List.length_nil, Nat.zero_add, Nat.reduceAdd, Nat.reduceSub, List.replicate_succ, List.replicate_zero, List.cons_append, List.nil_append, List.append_nil, L2.tNext, L2.tAsg, L2.gName, L2.tRet, L2.tRetN, L2.tIfS, L2.tVar, L2.tUn, L2.rI, L2.rI0, L2.rU, L2.rEq, L2.rNe, L2.tTest, L2.tB, L2.tIf, Z.tIfCI, Z.tIfCS, L2.tChain, L2.tCall, L2.tDrop, L2.tAndV, L2.tOrV, L2.tNotV, L2.tAnd, L2.tOr, L2.tNot, Z.sc_ii, Z.sc_ss, Z.sc_bb, Z.sc_is, Z.sc_si, Z.sc_ni, Z.sc_in, Z.sc_ns, Z.sc_sn, Z.sc_nn, L2.CDiv, L2.CPow, L2.CMul, List.getElem?_cons_zero, List.getElem?_cons_succ, Z.set_z, Z.set_s, Option.some.injEq, L2.V.int.injEq, L2.V.bl.injEq, L2.V.str.injEq, L2.V.ref.injEq, L2.V.ty.injEq, List.cons.injEq, exists_eq_left', exists_and_left, exists_eq_left, exists_eq_right, exists_eq_right', exists_eq', exists_eq, true_and, and_true, and_assoc, decide_eq_true_eq, Int.reduceLT, and_self, Z.rIxH, Z.rIxU, Z.at30, Z.at31, Z.at32, Z.ix3_0, Z.ix3_1, Z.ix3_2, L2.rSetL, L2.gSub, Z.gTupH, L2.gCons, L2.gNil, L2.HO.lst.injEq, L2.HO.tup.injEq, L2.upd_same, L2.upd_upd, L2.tSl, L2.tNoPart, L2.tPart, L2.rSlL, L2.rCat, List.length_append, or_false, false_or, or_true, true_or, reduceCtorEq, false_and, and_false, exists_false, Int.reduceNeg, Int.reducePow, Int.reduceToNat, Int.reduceAbs, Int.reduceLE, Int.reduceMul, Int.reduceAdd, Int.reduceSub, Nat.reducePow, Nat.reduceLT, Nat.reduceLeDiff, Int.natAbs_natCast, if_true, if_false, Z.rIsN, Z.tyN, Z.kit_ii, Z.kit_bi, Z.kit_si, Z.kit_ni, Z.kit_ib, Z.kit_bb, Z.kit_sb, Z.kit_nb, Z.kit_is, Z.kit_bs, Z.kit_ss, Z.kit_ns, Bool.not_true, Bool.not_false, L2.tTup, L2.wipe, L2.tYes, Z.Turn1, L2.tNever, sizeLine_eq, Z.rInU, Z.rInH, L2.flatV, List.any_cons, List.any_nil, List.all_cons, List.all_nil, Bool.and_true, Bool.true_and, Bool.or_false, Bool.false_or, Z.tBML, L2.rAppend, Z.map_int_inj, Z.map_bl_inj, Z.rTupL, Z.rLstL, Z.rLstT, Z.rSortI, Z.rAnyH, Z.rAllH, Z.rSumH, Z.rLenL, Z.rLenU, List.length_map, L2.tPar, StX.tStar, L2.tDNewT, L2.tDIn, L2.sDPut, L2.tDGet, Z.tCallK0, List.getD_cons_zero, List.getD_cons_succ]
    have f7 : H12 p7 = some (.lst ((bs18 i).map V.bl)) := t12 _ _ (t11 _ _ (t10 _ _ (t9 _ _ (t8 _ _ e7))))
    have f10 : H12 p10 = some (.lst (errN.map V.str)) := t12 _ _ (t11 _ _ e10)
    have f11 : H12 p11 = some (.lst ([und i 18, und i 19, und i 20].map V.bl)) := t12 _ _ e11
    have f12 : H12 p12 = some (.lst ([und i 21, und i 22, und i 23].map V.bl)) := e12
    clear e1 e2 e3 e4 e5 e6 e7 e8 e9 e10 e11 e12 t2 t3 t4 t5 t6 t7 t8 t9 t10 t11 t12
    obtain ⟨u1, u2, u3⟩ := und_bases i hi
    obtain ⟨v1, v2, v3⟩ := und_three i hi
    refine z_seq ?_
    simp only [L2.start, List.map_cons, List.map_nil, List.length_cons, List.length_nil, Nat.zero_add, Nat.reduceAdd, Nat.reduceSub, List.replicate_succ, List.replicate_zero, List.cons_append, List.nil_append, List.append_nil, L2.tNext, L2.tAsg, L2.gName, L2.tRet, L2.tRetN, L2.tIfS, L2.tVar, L2.tC, L2.tOp, L2.tUn, L2.rI, L2.rI0, L2.rU, L2.rEq, L2.rNe, L2.tTest, L2.tB, L2.tIf, Z.tIfCI, Z.tIfCS, L2.tChain, L2.tCons, L2.tNil, L2.tCall, L2.tDrop, L2.tAndV, L2.tOrV, L2.tNotV, L2.tAnd, L2.tOr, L2.tNot, L2.tCB, Z.sc_ii, Z.sc_ss, Z.sc_bb, Z.sc_is, Z.sc_si, Z.sc_ni, Z.sc_in, Z.sc_ns, Z.sc_sn, Z.sc_nn, L2.CDiv, L2.CPow, L2.CMul, List.getElem?_cons_zero, List.getElem?_cons_succ, Z.set_z, Z.set_s, Option.some.injEq, L2.V.int.injEq, L2.V.bl.injEq, L2.V.str.injEq, L2.V.ref.injEq, L2.V.ty.injEq, List.cons.injEq, exists_eq_left', exists_and_left, exists_eq_left, exists_eq_right, exists_eq_right', exists_eq', exists_eq, true_and, and_true, and_assoc, decide_eq_true_eq, Int.reduceLT, and_self, Z.rIxH, Z.rIxU, Z.at30, Z.at31, Z.at32, Z.ix3_0, Z.ix3_1, Z.ix3_2, L2.rSetL, L2.gSub, Z.gTupH, L2.gCons, L2.gNil, L2.HO.lst.injEq, L2.HO.tup.injEq, L2.upd_same, L2.upd_upd, L2.tSl, L2.tNoPart, L2.tPart, L2.rSlL, L2.rCat, List.length_append, or_false, false_or, or_true, true_or, reduceCtorEq, false_and, and_false, exists_false, Int.reduceNeg, Int.reducePow, Int.reduceToNat, Int.reduceAbs, Int.reduceLE, Int.reduceMul, Int.reduceAdd, Int.reduceSub, Nat.reducePow, Nat.reduceLT, Nat.reduceLeDiff, Int.natAbs_natCast, if_true, if_false, Z.rIsN, Z.tyN, Z.kit_ii, Z.kit_bi, Z.kit_si, Z.kit_ni, Z.kit_ib, Z.kit_bb, Z.kit_sb, Z.kit_nb, Z.kit_is, Z.kit_bs, Z.kit_ss, Z.kit_ns, Bool.not_true, Bool.not_false, L2.tTup, L2.wipe, L2.tYes, Z.Turn1, L2.tNever, sizeLine_eq, Z.rInU, Z.rInH, L2.flatV, List.any_cons, List.any_nil, List.all_cons, List.all_nil, Bool.and_true, Bool.true_and, Bool.or_false, Bool.false_or, Z.tBML, L2.rAppend, Z.map_int_inj, Z.map_bl_inj, Z.rTupL, Z.rLstL, Z.rLstT, Z.rSortI, Z.rAnyH, Z.rAllH, Z.rSumH, Z.rLenL, Z.rLenU, List.length_map, L2.tPar, StX.tStar, L2.tDNewT, L2.tDIn, L2.sDPut, L2.tDGet, Z.tCallK0, List.getD_cons_zero, List.getD_cons_succ]
    refine ⟨_, f7, p7, bs18 i, rfl, rfl, f7, ?_⟩
    rw [und_count i hi]
    refine ⟨rfl, ?_⟩
    rw [if_neg (by decide)]
    refine ⟨p11, p12, _, _, rfl, rfl, f11, f12, _, rfl, ?_⟩
    rw [u1, u2, u3, if_neg (by simp)]
    refine z_seq ?_
    simp only [L2.start, List.map_cons, List.map_nil, List.length_cons, List.length_nil, Nat.zero_add, Nat.reduceAdd, Nat.reduceSub, List.replicate_succ, List.replicate_zero, List.cons_append, List.nil_append, List.append_nil, L2.tNext, L2.tAsg, L2.gName, L2.tRet, L2.tRetN, L2.tIfS, L2.tVar, L2.tC, L2.tOp, L2.tUn, L2.rI, L2.rI0, L2.rU, L2.rEq, L2.rNe, L2.tTest, L2.tB, L2.tIf, Z.tIfCI, Z.tIfCS, L2.tChain, L2.tCons, L2.tNil, L2.tCall, L2.tDrop, L2.tAndV, L2.tOrV, L2.tNotV, L2.tAnd, L2.tOr, L2.tNot, L2.tCB, Z.sc_ii, Z.sc_ss, Z.sc_bb, Z.sc_is, Z.sc_si, Z.sc_ni, Z.sc_in, Z.sc_ns, Z.sc_sn, Z.sc_nn, L2.CDiv, L2.CPow, L2.CMul, List.getElem?_cons_zero, List.getElem?_cons_succ, Z.set_z, Z.set_s, Option.some.injEq, L2.V.int.injEq, L2.V.bl.injEq, L2.V.str.injEq, L2.V.ref.injEq, L2.V.ty.injEq, List.cons.injEq, exists_eq_left', exists_and_left, exists_eq_left, exists_eq_right, exists_eq_right', exists_eq', exists_eq, true_and, and_true, and_assoc, decide_eq_true_eq, Int.reduceLT, and_self, Z.rIxH, Z.rIxU, Z.at30, Z.at31, Z.at32, Z.ix3_0, Z.ix3_1, Z.ix3_2, L2.rSetL, L2.gSub, Z.gTupH, L2.gCons, L2.gNil, L2.HO.lst.injEq, L2.HO.tup.injEq, L2.upd_same, L2.upd_upd, L2.tSl, L2.tNoPart, L2.tPart, L2.rSlL, L2.rCat, List.length_append, or_false, false_or, or_true, true_or, reduceCtorEq, false_and, and_false, exists_false, Int.reduceNeg, Int.reducePow, Int.reduceToNat, Int.reduceAbs, Int.reduceLE, Int.reduceMul, Int.reduceAdd, Int.reduceSub, Nat.reducePow, Nat.reduceLT, Nat.reduceLeDiff, Int.natAbs_natCast, if_true, if_false, Z.rIsN, Z.tyN, Z.kit_ii, Z.kit_bi, Z.kit_si, Z.kit_ni, Z.kit_ib, Z.kit_bb, Z.kit_sb, Z.kit_nb, Z.kit_is, Z.kit_bs, Z.kit_ss, Z.kit_ns, Bool.not_true, Bool.not_false, L2.tTup, L2.tLst, L2.wipe, L2.tYes, Z.Turn1, L2.tNever, sizeLine_eq, Z.rInU, Z.rInH, L2.flatV, List.any_cons, List.any_nil, List.all_cons, List.all_nil, Bool.and_true, Bool.true_and, Bool.or_false, Bool.false_or, Z.tBML, L2.rAppend, Z.map_int_inj, Z.map_bl_inj, Z.rTupL, Z.rLstL, Z.rLstT, Z.rSortI, Z.rAnyH, Z.rAllH, Z.rSumH, Z.rLenL, Z.rLenU, List.length_map, L2.tPar, StX.tStar, L2.tDNewT, L2.tDIn, L2.sDPut, L2.tDGet, Z.tCallK0, List.getD_cons_zero, List.getD_cons_succ]
    refine ⟨_, f7, p7, bs18 i, i, rfl, rfl, f7, (und_index i hi).1, (und_index i hi).2, ?_⟩
    simp only [L2.start, List.map_cons, List.map_nil, List.length_cons, List.length_nil, Nat.zero_add, Nat.reduceAdd, Nat.reduceSub, List.replicate_succ, List.replicate_zero, List.cons_append, List.nil_append, List.append_nil, L2.tNext, L2.tAsg, L2.gName, L2.tRet, L2.tRetN, L2.tIfS, L2.tVar, L2.tC, L2.tOp, L2.tUn, L2.rI, L2.rI0, L2.rU, L2.rEq, L2.rNe, L2.tTest, L2.tB, L2.tIf, Z.tIfCI, Z.tIfCS, L2.tChain, L2.tCons, L2.tNil, L2.tCall, L2.tDrop, L2.tAndV, L2.tOrV, L2.tNotV, L2.tAnd, L2.tOr, L2.tNot, L2.tCB, Z.sc_ii, Z.sc_ss, Z.sc_bb, Z.sc_is, Z.sc_si, Z.sc_ni, Z.sc_in, Z.sc_ns, Z.sc_sn, Z.sc_nn, L2.CDiv, L2.CPow, L2.CMul, List.getElem?_cons_zero, List.getElem?_cons_succ, Z.set_z, Z.set_s, Option.some.injEq, L2.V.int.injEq, L2.V.bl.injEq, L2.V.str.injEq, L2.V.ref.injEq, L2.V.ty.injEq, List.cons.injEq, exists_eq_left', exists_and_left, exists_eq_left, exists_eq_right, exists_eq_right', exists_eq', exists_eq, true_and, and_true, and_assoc, decide_eq_true_eq, Int.reduceLT, and_self, Z.rIxH, Z.rIxU, Z.at30, Z.at31, Z.at32, Z.ix3_0, Z.ix3_1, Z.ix3_2, L2.rSetL, L2.gSub, Z.gTupH, L2.gCons, L2.gNil, L2.HO.lst.injEq, L2.HO.tup.injEq, L2.upd_same, L2.upd_upd, L2.tSl, L2.tNoPart, L2.tPart, L2.rSlL, L2.rCat, List.length_append, or_false, false_or, or_true, true_or, reduceCtorEq, false_and, and_false, exists_false, Int.reduceNeg, Int.reducePow, Int.reduceToNat, Int.reduceAbs, Int.reduceLE, Int.reduceMul, Int.reduceAdd, Int.reduceSub, Nat.reducePow, Nat.reduceLT, Nat.reduceLeDiff, Int.natAbs_natCast, if_true, if_false, Z.rIsN, Z.tyN, Z.kit_ii, Z.kit_bi, Z.kit_si, Z.kit_ni, Z.kit_ib, Z.kit_bb, Z.kit_sb, Z.kit_nb, Z.kit_is, Z.kit_bs, Z.kit_ss, Z.kit_ns, Bool.not_true, Bool.not_false, L2.tTup, L2.tLst, L2.wipe, L2.tYes, Z.Turn1, L2.tNever, sizeLine_eq, Z.rInU, Z.rInH, L2.flatV, List.any_cons, List.any_nil, List.all_cons, List.all_nil, Bool.and_true, Bool.true_and, Bool.or_false, Bool.false_or, Z.tBML, L2.rAppend, Z.map_int_inj, Z.map_bl_inj, Z.rTupL, Z.rLstL, Z.rLstT, Z.rSortI, Z.rAnyH, Z.rAllH, Z.rSumH, Z.rLenL, Z.rLenU, List.length_map, L2.tPar, StX.tStar, L2.tDNewT, L2.tDIn, L2.sDPut, L2.tDGet, Z.tCallK0, List.getD_cons_zero, List.getD_cons_succ]
    have fin : ∀ (b : Bool) (p : Addr), H12 p = none → (decide ((10 : Int) < i) && decide ((i : Int) < 13)) = b → rEqB (.ref p11) (.ref p) (upd H12 p (.lst [.bl (decide ((i : Int) < 11)), .bl b, .bl (decide ((12 : Int) < i))])) fun x H' => ∃ k, x = V.bl k ∧ if k = true then ∃ x, H' p10 = some (HO.lst x) ∧ ∃ x_1, atI x (i : Int) = some x_1 ∧ Q x_1 H' else Q (V.str "") H' := fun b p hp hb => by
      refine ⟨p11, p, _, [decide ((i : Int) < 11), b, decide ((12 : Int) < i)], rfl, rfl, same_new hp _ _ f11, upd_same, true, ?_, ?_⟩
      · rw [v1, v2, v3, hb]
        simp
      · rw [if_pos rfl]
        exact ⟨_, same_new hp _ _ f10, .str wd, atI_nat (by rw [List.getElem?_map, hw]; rfl), q _ (s12.trans (same_new hp))⟩
    split
    · rename_i c
      exact fun p hp => fin _ p hp (by rw [decide_eq_true c, Bool.true_and])
    · rename_i c
      exact fun p hp => fin _ p hp (by rw [decide_eq_false c, Bool.false_and])
/-- the classes with one attribute -/
def wf : List (Str × Str) := [("InvalidText", "given"), ("InvalidNumber", "given"), ("InvalidKind", "given"), ("InvalidParty", "given"), ("InvalidName", "given"), ("InvalidWish", "given"), ("NotABook", "given"), ("InvalidRows", "index"), ("InvalidSeats", "index"), ("InvalidExchanges", "index"), ("InvalidWishes", "index"), ("UnknownName", "given"), ("InUse", "index"), ("NotFull", "given"), ("TooMany", "given"), ("NoRoom", "shown")]
def sp__law_field (mg : Str → Option Value) : Sp := fun vs H Q _ => ∃ (a : Addr) (w : Str), vs = [.ref a, .str w] ∧
  ((∃ (f : Str) (v : V), (w, f) ∈ wf ∧ IsX H a (clsA mg w) (some [(f, v)]) ∧ ∀ H', Same H H' → Q v H') ∨
    (w = "Broken" ∧ ∃ v v2 : V, IsX H a (clsA mg "Broken") (some [("index", v), ("shown", v2)]) ∧ ∀ p H', H p = none → Same H H' → H' p = some (.lst [v, v2]) → Q (.ref p) H'))
theorem xo_of {K : PySem.W.Frag} {H : Hp} {σ : L2.St} {Q : VK} {a C : Addr} {fs : List (Str × V)} {f : Str} {v : V} (h0 : σ[0]? = some (some (.ref a))) (hx : IsX H a C (some fs)) (k : ExK K C) (no : PySem.W.findIn K (.ref C) f = some none) (l : fs.lookup f = some v) (q : Q v H) : tXo K f (tVar 0) σ H Q := ⟨_, h0, a, C, fs, v, rfl, hx, k, no, l, q⟩
theorem ok__law_field (T : Env P K mg) : Hd P w K mg base CX0 1 "_law_field" s__law_field ["_law_e", "_law_word_now"] (sp__law_field mg) := by
  obtain ⟨f, fd, F, hm⟩ := T.d__law_field
  refine ⟨⟨f, fd, F, hm, ?_⟩, fun _ _ _ _ _ _ _ us hl => match us, hl with | [_, _], _ => rfl⟩
  refine F.ok sc__law_field (fun vs H Q E h => ?_) (fun cdv A outer s H vs Q E hr h => ?_)
  · first | (obtain ⟨rfl, _⟩ := h; rfl) | (obtain ⟨_, rfl, _⟩ := h; rfl) | (obtain ⟨_, _, rfl, _⟩ := h; rfl) | (obtain ⟨_, _, _, rfl, _⟩ := h; rfl) | (obtain ⟨_, _, _, _, rfl, _⟩ := h; rfl) | (obtain ⟨_, _, _, _, _, rfl, _⟩ := h; rfl) | (obtain ⟨_, _, _, _, _, _, rfl, _⟩ := h; rfl) | (obtain ⟨_, _, _, _, _, _, _, rfl, _⟩ := h; rfl) | (obtain ⟨_, _, _, _, _, _, _, _, rfl, _⟩ := h; rfl)
  · obtain ⟨a, w, rfl, q⟩ := h
    have hu := hu_of hr
    refine ⟨_, pss_cons (ps_if (pt_cmpR op_in_lstH (pv 1) (pe_lst (pa_cons pe_str (pa_cons pe_str (pa_cons pe_str (pa_cons pe_str (pa_cons pe_str pa_nil)))))) (by rfl)) (pss_one (ps_ret (pe_xo (pv 0))))
      (pss_nil))
      (pss_cons (ps_if (pt_cmpR op_eq (pv 1) pe_str (nomark _)) (pss_one (ps_ret (pe_lst (pa_cons (pe_xo (pv 0)) (pa_cons (pe_xo (pv 0)) pa_nil)))))
      (pss_nil))
      (pss_cons (ps_if (pt_cmpR op_eq (pv 1) pe_str (nomark _)) (pss_one (ps_ret (pe_xo (pv 0))))
      (pss_nil))
      (pss_one (ps_ret (pe_ifExp (pt_cmpR op_in_lstH (pv 1) (pe_lst (pa_cons pe_str (pa_cons pe_str pa_nil))) (by rfl)) pe_non (pe_xo (pv 0))))))), ?_⟩
    rcases q with ⟨fl, v, hw, hx, q⟩ | ⟨rfl, v, v2, hx, q⟩
    · simp only [wf, List.mem_cons, List.not_mem_nil, or_false, Prod.mk.injEq] at hw
      rcases hw with ⟨rfl, rfl⟩ | ⟨rfl, rfl⟩ | ⟨rfl, rfl⟩ | ⟨rfl, rfl⟩ | ⟨rfl, rfl⟩ | ⟨rfl, rfl⟩ | ⟨rfl, rfl⟩ | ⟨rfl, rfl⟩ | ⟨rfl, rfl⟩ | ⟨rfl, rfl⟩ | ⟨rfl, rfl⟩ | ⟨rfl, rfl⟩ | ⟨rfl, rfl⟩ | ⟨rfl, rfl⟩ | ⟨rfl, rfl⟩ | ⟨rfl, rfl⟩
      · simp only [L2.start, List.map_cons, List.map_nil, List.length_cons, List.length_nil, Nat.zero_add, Nat.reduceAdd, Nat.reduceSub, List.replicate_succ, List.replicate_zero, List.cons_append, List.nil_append, List.append_nil, L2.tSeq, L2.tNext, L2.tAsg, L2.gName, L2.tRet, L2.tRetN, L2.tIfS, L2.tVar, L2.tC, L2.tOp, L2.tUn, L2.rI, L2.rI0, L2.rU, L2.rEq, L2.rNe, L2.tTest, L2.tB, L2.tIf, Z.tIfCI, Z.tIfCS, L2.tChain, L2.tCons, L2.tNil, L2.tCall, L2.tDrop, L2.tAndV, L2.tOrV, L2.tNotV, L2.tAnd, L2.tOr, L2.tNot, L2.tCB, Z.sc_ii, Z.sc_ss, Z.sc_bb, Z.sc_is, Z.sc_si, Z.sc_ni, Z.sc_in, Z.sc_ns, Z.sc_sn, Z.sc_nn, L2.CDiv, L2.CPow, L2.CMul, List.getElem?_cons_zero, List.getElem?_cons_succ, Z.set_z, Z.set_s, Option.some.injEq, L2.V.int.injEq, L2.V.bl.injEq, L2.V.str.injEq, L2.V.ref.injEq, L2.V.ty.injEq, List.cons.injEq, exists_eq_left', exists_and_left, exists_eq_left, exists_eq_right, exists_eq_right', exists_eq', exists_eq, true_and, and_true, and_assoc, decide_eq_true_eq, Int.reduceLT, and_self, Z.rIxH, Z.rIxU, Z.at30, Z.at31, Z.at32, Z.ix3_0, Z.ix3_1, Z.ix3_2, L2.rSetL, L2.gSub, Z.gTupH, L2.gCons, L2.gNil, L2.HO.lst.injEq, L2.HO.tup.injEq, L2.upd_same, L2.upd_upd, L2.tSl, L2.tNoPart, L2.tPart, L2.rSlL, L2.rCat, List.length_append, or_false, false_or, or_true, true_or, reduceCtorEq, false_and, and_false, exists_false, Int.reduceNeg, Int.reducePow, Int.reduceToNat, Int.reduceAbs, Int.reduceLE, Int.reduceMul, Int.reduceAdd, Int.reduceSub, Nat.reducePow, Nat.reduceLT, Nat.reduceLeDiff, Int.natAbs_natCast, if_true, if_false, Z.rIsN, Z.tyN, Z.kit_ii, Z.kit_bi, Z.kit_si, Z.kit_ni, Z.kit_ib, Z.kit_bb, Z.kit_sb, Z.kit_nb, Z.kit_is, Z.kit_bs, Z.kit_ss, Z.kit_ns, Bool.not_true, Bool.not_false, L2.tTup, L2.tLst, L2.wipe, L2.tYes, Z.Turn1, L2.tNever, sizeLine_eq, Z.rInU, Z.rInH, L2.flatV, List.any_cons, List.any_nil, List.all_cons, List.all_nil, Bool.and_true, Bool.true_and, Bool.or_false, Bool.false_or, Z.tBML, L2.rAppend, Z.map_int_inj, Z.map_bl_inj, Z.rTupL, Z.rLstL, Z.rLstT, Z.rSortI, Z.rAnyH, Z.rAllH, Z.rSumH, Z.rLenL, Z.rLenU, List.length_map, L2.tPar, StX.tStar, L2.tDNewT, L2.tDIn, L2.sDPut, L2.tDGet, Z.tCallK0, List.getD_cons_zero, List.getD_cons_succ]
        refine fun p hp => ?_
        rw [if_neg (by decide +kernel)]
        rw [if_neg (by decide +kernel)]
        rw [if_neg (by decide +kernel)]
        refine fun p2 hp2 => ?_
        rw [if_neg (by decide +kernel)]
        exact xo_of rfl (hx.same ((same_new hp).trans (same_new hp2))) T.x_InvalidText.k T.x_InvalidText.no rfl (q _ ((same_new hp).trans (same_new hp2)))
      · simp only [L2.start, List.map_cons, List.map_nil, List.length_cons, List.length_nil, Nat.zero_add, Nat.reduceAdd, Nat.reduceSub, List.replicate_succ, List.replicate_zero, List.cons_append, List.nil_append, List.append_nil, L2.tSeq, L2.tNext, L2.tAsg, L2.gName, L2.tRet, L2.tRetN, L2.tIfS, L2.tVar, L2.tC, L2.tOp, L2.tUn, L2.rI, L2.rI0, L2.rU, L2.rEq, L2.rNe, L2.tTest, L2.tB, L2.tIf, Z.tIfCI, Z.tIfCS, L2.tChain, L2.tCons, L2.tNil, L2.tCall, L2.tDrop, L2.tAndV, L2.tOrV, L2.tNotV, L2.tAnd, L2.tOr, L2.tNot, L2.tCB, Z.sc_ii, Z.sc_ss, Z.sc_bb, Z.sc_is, Z.sc_si, Z.sc_ni, Z.sc_in, Z.sc_ns, Z.sc_sn, Z.sc_nn, L2.CDiv, L2.CPow, L2.CMul, List.getElem?_cons_zero, List.getElem?_cons_succ, Z.set_z, Z.set_s, Option.some.injEq, L2.V.int.injEq, L2.V.bl.injEq, L2.V.str.injEq, L2.V.ref.injEq, L2.V.ty.injEq, List.cons.injEq, exists_eq_left', exists_and_left, exists_eq_left, exists_eq_right, exists_eq_right', exists_eq', exists_eq, true_and, and_true, and_assoc, decide_eq_true_eq, Int.reduceLT, and_self, Z.rIxH, Z.rIxU, Z.at30, Z.at31, Z.at32, Z.ix3_0, Z.ix3_1, Z.ix3_2, L2.rSetL, L2.gSub, Z.gTupH, L2.gCons, L2.gNil, L2.HO.lst.injEq, L2.HO.tup.injEq, L2.upd_same, L2.upd_upd, L2.tSl, L2.tNoPart, L2.tPart, L2.rSlL, L2.rCat, List.length_append, or_false, false_or, or_true, true_or, reduceCtorEq, false_and, and_false, exists_false, Int.reduceNeg, Int.reducePow, Int.reduceToNat, Int.reduceAbs, Int.reduceLE, Int.reduceMul, Int.reduceAdd, Int.reduceSub, Nat.reducePow, Nat.reduceLT, Nat.reduceLeDiff, Int.natAbs_natCast, if_true, if_false, Z.rIsN, Z.tyN, Z.kit_ii, Z.kit_bi, Z.kit_si, Z.kit_ni, Z.kit_ib, Z.kit_bb, Z.kit_sb, Z.kit_nb, Z.kit_is, Z.kit_bs, Z.kit_ss, Z.kit_ns, Bool.not_true, Bool.not_false, L2.tTup, L2.tLst, L2.wipe, L2.tYes, Z.Turn1, L2.tNever, sizeLine_eq, Z.rInU, Z.rInH, L2.flatV, List.any_cons, List.any_nil, List.all_cons, List.all_nil, Bool.and_true, Bool.true_and, Bool.or_false, Bool.false_or, Z.tBML, L2.rAppend, Z.map_int_inj, Z.map_bl_inj, Z.rTupL, Z.rLstL, Z.rLstT, Z.rSortI, Z.rAnyH, Z.rAllH, Z.rSumH, Z.rLenL, Z.rLenU, List.length_map, L2.tPar, StX.tStar, L2.tDNewT, L2.tDIn, L2.sDPut, L2.tDGet, Z.tCallK0, List.getD_cons_zero, List.getD_cons_succ]
        refine fun p hp => ?_
        rw [if_neg (by decide +kernel)]
        rw [if_neg (by decide +kernel)]
        rw [if_neg (by decide +kernel)]
        refine fun p2 hp2 => ?_
        rw [if_neg (by decide +kernel)]
        exact xo_of rfl (hx.same ((same_new hp).trans (same_new hp2))) T.x_InvalidNumber.k T.x_InvalidNumber.no rfl (q _ ((same_new hp).trans (same_new hp2)))
      · simp only [L2.start, List.map_cons, List.map_nil, List.length_cons, List.length_nil, Nat.zero_add, Nat.reduceAdd, Nat.reduceSub, List.replicate_succ, List.replicate_zero, List.cons_append, List.nil_append, List.append_nil, L2.tSeq, L2.tNext, L2.tAsg, L2.gName, L2.tRet, L2.tRetN, L2.tIfS, L2.tVar, L2.tC, L2.tOp, L2.tUn, L2.rI, L2.rI0, L2.rU, L2.rEq, L2.rNe, L2.tTest, L2.tB, L2.tIf, Z.tIfCI, Z.tIfCS, L2.tChain, L2.tCons, L2.tNil, L2.tCall, L2.tDrop, L2.tAndV, L2.tOrV, L2.tNotV, L2.tAnd, L2.tOr, L2.tNot, L2.tCB, Z.sc_ii, Z.sc_ss, Z.sc_bb, Z.sc_is, Z.sc_si, Z.sc_ni, Z.sc_in, Z.sc_ns, Z.sc_sn, Z.sc_nn, L2.CDiv, L2.CPow, L2.CMul, List.getElem?_cons_zero, List.getElem?_cons_succ, Z.set_z, Z.set_s, Option.some.injEq, L2.V.int.injEq, L2.V.bl.injEq, L2.V.str.injEq, L2.V.ref.injEq, L2.V.ty.injEq, List.cons.injEq, exists_eq_left', exists_and_left, exists_eq_left, exists_eq_right, exists_eq_right', exists_eq', exists_eq, true_and, and_true, and_assoc, decide_eq_true_eq, Int.reduceLT, and_self, Z.rIxH, Z.rIxU, Z.at30, Z.at31, Z.at32, Z.ix3_0, Z.ix3_1, Z.ix3_2, L2.rSetL, L2.gSub, Z.gTupH, L2.gCons, L2.gNil, L2.HO.lst.injEq, L2.HO.tup.injEq, L2.upd_same, L2.upd_upd, L2.tSl, L2.tNoPart, L2.tPart, L2.rSlL, L2.rCat, List.length_append, or_false, false_or, or_true, true_or, reduceCtorEq, false_and, and_false, exists_false, Int.reduceNeg, Int.reducePow, Int.reduceToNat, Int.reduceAbs, Int.reduceLE, Int.reduceMul, Int.reduceAdd, Int.reduceSub, Nat.reducePow, Nat.reduceLT, Nat.reduceLeDiff, Int.natAbs_natCast, if_true, if_false, Z.rIsN, Z.tyN, Z.kit_ii, Z.kit_bi, Z.kit_si, Z.kit_ni, Z.kit_ib, Z.kit_bb, Z.kit_sb, Z.kit_nb, Z.kit_is, Z.kit_bs, Z.kit_ss, Z.kit_ns, Bool.not_true, Bool.not_false, L2.tTup, L2.tLst, L2.wipe, L2.tYes, Z.Turn1, L2.tNever, sizeLine_eq, Z.rInU, Z.rInH, L2.flatV, List.any_cons, List.any_nil, List.all_cons, List.all_nil, Bool.and_true, Bool.true_and, Bool.or_false, Bool.false_or, Z.tBML, L2.rAppend, Z.map_int_inj, Z.map_bl_inj, Z.rTupL, Z.rLstL, Z.rLstT, Z.rSortI, Z.rAnyH, Z.rAllH, Z.rSumH, Z.rLenL, Z.rLenU, List.length_map, L2.tPar, StX.tStar, L2.tDNewT, L2.tDIn, L2.sDPut, L2.tDGet, Z.tCallK0, List.getD_cons_zero, List.getD_cons_succ]
        refine fun p hp => ?_
        rw [if_neg (by decide +kernel)]
        rw [if_neg (by decide +kernel)]
        rw [if_neg (by decide +kernel)]
        refine fun p2 hp2 => ?_
        rw [if_neg (by decide +kernel)]
        exact xo_of rfl (hx.same ((same_new hp).trans (same_new hp2))) T.x_InvalidKind.k T.x_InvalidKind.no rfl (q _ ((same_new hp).trans (same_new hp2)))
      · simp only [L2.start, List.map_cons, List.map_nil, List.length_cons, List.length_nil, Nat.zero_add, Nat.reduceAdd, Nat.reduceSub, List.replicate_succ, List.replicate_zero, List.cons_append, List.nil_append, List.append_nil, L2.tSeq, L2.tNext, L2.tAsg, L2.gName, L2.tRet, L2.tRetN, L2.tIfS, L2.tVar, L2.tC, L2.tOp, L2.tUn, L2.rI, L2.rI0, L2.rU, L2.rEq, L2.rNe, L2.tTest, L2.tB, L2.tIf, Z.tIfCI, Z.tIfCS, L2.tChain, L2.tCons, L2.tNil, L2.tCall, L2.tDrop, L2.tAndV, L2.tOrV, L2.tNotV, L2.tAnd, L2.tOr, L2.tNot, L2.tCB, Z.sc_ii, Z.sc_ss, Z.sc_bb, Z.sc_is, Z.sc_si, Z.sc_ni, Z.sc_in, Z.sc_ns, Z.sc_sn, Z.sc_nn, L2.CDiv, L2.CPow, L2.CMul, List.getElem?_cons_zero, List.getElem?_cons_succ, Z.set_z, Z.set_s, Option.some.injEq, L2.V.int.injEq, L2.V.bl.injEq, L2.V.str.injEq, L2.V.ref.injEq, L2.V.ty.injEq, List.cons.injEq, exists_eq_left', exists_and_left, exists_eq_left, exists_eq_right, exists_eq_right', exists_eq', exists_eq, true_and, and_true, and_assoc, decide_eq_true_eq, Int.reduceLT, and_self, Z.rIxH, Z.rIxU, Z.at30, Z.at31, Z.at32, Z.ix3_0, Z.ix3_1, Z.ix3_2, L2.rSetL, L2.gSub, Z.gTupH, L2.gCons, L2.gNil, L2.HO.lst.injEq, L2.HO.tup.injEq, L2.upd_same, L2.upd_upd, L2.tSl, L2.tNoPart, L2.tPart, L2.rSlL, L2.rCat, List.length_append, or_false, false_or, or_true, true_or, reduceCtorEq, false_and, and_false, exists_false, Int.reduceNeg, Int.reducePow, Int.reduceToNat, Int.reduceAbs, Int.reduceLE, Int.reduceMul, Int.reduceAdd, Int.reduceSub, Nat.reducePow, Nat.reduceLT, Nat.reduceLeDiff, Int.natAbs_natCast, if_true, if_false, Z.rIsN, Z.tyN, Z.kit_ii, Z.kit_bi, Z.kit_si, Z.kit_ni, Z.kit_ib, Z.kit_bb, Z.kit_sb, Z.kit_nb, Z.kit_is, Z.kit_bs, Z.kit_ss, Z.kit_ns, Bool.not_true, Bool.not_false, L2.tTup, L2.tLst, L2.wipe, L2.tYes, Z.Turn1, L2.tNever, sizeLine_eq, Z.rInU, Z.rInH, L2.flatV, List.any_cons, List.any_nil, List.all_cons, List.all_nil, Bool.and_true, Bool.true_and, Bool.or_false, Bool.false_or, Z.tBML, L2.rAppend, Z.map_int_inj, Z.map_bl_inj, Z.rTupL, Z.rLstL, Z.rLstT, Z.rSortI, Z.rAnyH, Z.rAllH, Z.rSumH, Z.rLenL, Z.rLenU, List.length_map, L2.tPar, StX.tStar, L2.tDNewT, L2.tDIn, L2.sDPut, L2.tDGet, Z.tCallK0, List.getD_cons_zero, List.getD_cons_succ]
        refine fun p hp => ?_
        rw [if_neg (by decide +kernel)]
        rw [if_neg (by decide +kernel)]
        rw [if_neg (by decide +kernel)]
        refine fun p2 hp2 => ?_
        rw [if_neg (by decide +kernel)]
        exact xo_of rfl (hx.same ((same_new hp).trans (same_new hp2))) T.x_InvalidParty.k T.x_InvalidParty.no rfl (q _ ((same_new hp).trans (same_new hp2)))
      · simp only [L2.start, List.map_cons, List.map_nil, List.length_cons, List.length_nil, Nat.zero_add, Nat.reduceAdd, Nat.reduceSub, List.replicate_succ, List.replicate_zero, List.cons_append, List.nil_append, List.append_nil, L2.tSeq, L2.tNext, L2.tAsg, L2.gName, L2.tRet, L2.tRetN, L2.tIfS, L2.tVar, L2.tC, L2.tOp, L2.tUn, L2.rI, L2.rI0, L2.rU, L2.rEq, L2.rNe, L2.tTest, L2.tB, L2.tIf, Z.tIfCI, Z.tIfCS, L2.tChain, L2.tCons, L2.tNil, L2.tCall, L2.tDrop, L2.tAndV, L2.tOrV, L2.tNotV, L2.tAnd, L2.tOr, L2.tNot, L2.tCB, Z.sc_ii, Z.sc_ss, Z.sc_bb, Z.sc_is, Z.sc_si, Z.sc_ni, Z.sc_in, Z.sc_ns, Z.sc_sn, Z.sc_nn, L2.CDiv, L2.CPow, L2.CMul, List.getElem?_cons_zero, List.getElem?_cons_succ, Z.set_z, Z.set_s, Option.some.injEq, L2.V.int.injEq, L2.V.bl.injEq, L2.V.str.injEq, L2.V.ref.injEq, L2.V.ty.injEq, List.cons.injEq, exists_eq_left', exists_and_left, exists_eq_left, exists_eq_right, exists_eq_right', exists_eq', exists_eq, true_and, and_true, and_assoc, decide_eq_true_eq, Int.reduceLT, and_self, Z.rIxH, Z.rIxU, Z.at30, Z.at31, Z.at32, Z.ix3_0, Z.ix3_1, Z.ix3_2, L2.rSetL, L2.gSub, Z.gTupH, L2.gCons, L2.gNil, L2.HO.lst.injEq, L2.HO.tup.injEq, L2.upd_same, L2.upd_upd, L2.tSl, L2.tNoPart, L2.tPart, L2.rSlL, L2.rCat, List.length_append, or_false, false_or, or_true, true_or, reduceCtorEq, false_and, and_false, exists_false, Int.reduceNeg, Int.reducePow, Int.reduceToNat, Int.reduceAbs, Int.reduceLE, Int.reduceMul, Int.reduceAdd, Int.reduceSub, Nat.reducePow, Nat.reduceLT, Nat.reduceLeDiff, Int.natAbs_natCast, if_true, if_false, Z.rIsN, Z.tyN, Z.kit_ii, Z.kit_bi, Z.kit_si, Z.kit_ni, Z.kit_ib, Z.kit_bb, Z.kit_sb, Z.kit_nb, Z.kit_is, Z.kit_bs, Z.kit_ss, Z.kit_ns, Bool.not_true, Bool.not_false, L2.tTup, L2.tLst, L2.wipe, L2.tYes, Z.Turn1, L2.tNever, sizeLine_eq, Z.rInU, Z.rInH, L2.flatV, List.any_cons, List.any_nil, List.all_cons, List.all_nil, Bool.and_true, Bool.true_and, Bool.or_false, Bool.false_or, Z.tBML, L2.rAppend, Z.map_int_inj, Z.map_bl_inj, Z.rTupL, Z.rLstL, Z.rLstT, Z.rSortI, Z.rAnyH, Z.rAllH, Z.rSumH, Z.rLenL, Z.rLenU, List.length_map, L2.tPar, StX.tStar, L2.tDNewT, L2.tDIn, L2.sDPut, L2.tDGet, Z.tCallK0, List.getD_cons_zero, List.getD_cons_succ]
        refine fun p hp => ?_
        rw [if_neg (by decide +kernel)]
        rw [if_neg (by decide +kernel)]
        rw [if_neg (by decide +kernel)]
        refine fun p2 hp2 => ?_
        rw [if_neg (by decide +kernel)]
        exact xo_of rfl (hx.same ((same_new hp).trans (same_new hp2))) T.x_InvalidName.k T.x_InvalidName.no rfl (q _ ((same_new hp).trans (same_new hp2)))
      · simp only [L2.start, List.map_cons, List.map_nil, List.length_cons, List.length_nil, Nat.zero_add, Nat.reduceAdd, Nat.reduceSub, List.replicate_succ, List.replicate_zero, List.cons_append, List.nil_append, List.append_nil, L2.tSeq, L2.tNext, L2.tAsg, L2.gName, L2.tRet, L2.tRetN, L2.tIfS, L2.tVar, L2.tC, L2.tOp, L2.tUn, L2.rI, L2.rI0, L2.rU, L2.rEq, L2.rNe, L2.tTest, L2.tB, L2.tIf, Z.tIfCI, Z.tIfCS, L2.tChain, L2.tCons, L2.tNil, L2.tCall, L2.tDrop, L2.tAndV, L2.tOrV, L2.tNotV, L2.tAnd, L2.tOr, L2.tNot, L2.tCB, Z.sc_ii, Z.sc_ss, Z.sc_bb, Z.sc_is, Z.sc_si, Z.sc_ni, Z.sc_in, Z.sc_ns, Z.sc_sn, Z.sc_nn, L2.CDiv, L2.CPow, L2.CMul, List.getElem?_cons_zero, List.getElem?_cons_succ, Z.set_z, Z.set_s, Option.some.injEq, L2.V.int.injEq, L2.V.bl.injEq, L2.V.str.injEq, L2.V.ref.injEq, L2.V.ty.injEq, List.cons.injEq, exists_eq_left', exists_and_left, exists_eq_left, exists_eq_right, exists_eq_right', exists_eq', exists_eq, true_and, and_true, and_assoc, decide_eq_true_eq, Int.reduceLT, and_self, Z.rIxH, Z.rIxU, Z.at30, Z.at31, Z.at32, Z.ix3_0, Z.ix3_1, Z.ix3_2, L2.rSetL, L2.gSub, Z.gTupH, L2.gCons, L2.gNil, L2.HO.lst.injEq, L2.HO.tup.injEq, L2.upd_same, L2.upd_upd, L2.tSl, L2.tNoPart, L2.tPart, L2.rSlL, L2.rCat, List.length_append, or_false, false_or, or_true, true_or, reduceCtorEq, false_and, and_false, exists_false, Int.reduceNeg, Int.reducePow, Int.reduceToNat, Int.reduceAbs, Int.reduceLE, Int.reduceMul, Int.reduceAdd, Int.reduceSub, Nat.reducePow, Nat.reduceLT, Nat.reduceLeDiff, Int.natAbs_natCast, if_true, if_false, Z.rIsN, Z.tyN, Z.kit_ii, Z.kit_bi, Z.kit_si, Z.kit_ni, Z.kit_ib, Z.kit_bb, Z.kit_sb, Z.kit_nb, Z.kit_is, Z.kit_bs, Z.kit_ss, Z.kit_ns, Bool.not_true, Bool.not_false, L2.tTup, L2.tLst, L2.wipe, L2.tYes, Z.Turn1, L2.tNever, sizeLine_eq, Z.rInU, Z.rInH, L2.flatV, List.any_cons, List.any_nil, List.all_cons, List.all_nil, Bool.and_true, Bool.true_and, Bool.or_false, Bool.false_or, Z.tBML, L2.rAppend, Z.map_int_inj, Z.map_bl_inj, Z.rTupL, Z.rLstL, Z.rLstT, Z.rSortI, Z.rAnyH, Z.rAllH, Z.rSumH, Z.rLenL, Z.rLenU, List.length_map, L2.tPar, StX.tStar, L2.tDNewT, L2.tDIn, L2.sDPut, L2.tDGet, Z.tCallK0, List.getD_cons_zero, List.getD_cons_succ]
        refine fun p hp => ?_
        rw [if_neg (by decide +kernel)]
        rw [if_neg (by decide +kernel)]
        rw [if_neg (by decide +kernel)]
        refine fun p2 hp2 => ?_
        rw [if_neg (by decide +kernel)]
        exact xo_of rfl (hx.same ((same_new hp).trans (same_new hp2))) T.x_InvalidWish.k T.x_InvalidWish.no rfl (q _ ((same_new hp).trans (same_new hp2)))
      · simp only [L2.start, List.map_cons, List.map_nil, List.length_cons, List.length_nil, Nat.zero_add, Nat.reduceAdd, Nat.reduceSub, List.replicate_succ, List.replicate_zero, List.cons_append, List.nil_append, List.append_nil, L2.tSeq, L2.tNext, L2.tAsg, L2.gName, L2.tRet, L2.tRetN, L2.tIfS, L2.tVar, L2.tC, L2.tOp, L2.tUn, L2.rI, L2.rI0, L2.rU, L2.rEq, L2.rNe, L2.tTest, L2.tB, L2.tIf, Z.tIfCI, Z.tIfCS, L2.tChain, L2.tCons, L2.tNil, L2.tCall, L2.tDrop, L2.tAndV, L2.tOrV, L2.tNotV, L2.tAnd, L2.tOr, L2.tNot, L2.tCB, Z.sc_ii, Z.sc_ss, Z.sc_bb, Z.sc_is, Z.sc_si, Z.sc_ni, Z.sc_in, Z.sc_ns, Z.sc_sn, Z.sc_nn, L2.CDiv, L2.CPow, L2.CMul, List.getElem?_cons_zero, List.getElem?_cons_succ, Z.set_z, Z.set_s, Option.some.injEq, L2.V.int.injEq, L2.V.bl.injEq, L2.V.str.injEq, L2.V.ref.injEq, L2.V.ty.injEq, List.cons.injEq, exists_eq_left', exists_and_left, exists_eq_left, exists_eq_right, exists_eq_right', exists_eq', exists_eq, true_and, and_true, and_assoc, decide_eq_true_eq, Int.reduceLT, and_self, Z.rIxH, Z.rIxU, Z.at30, Z.at31, Z.at32, Z.ix3_0, Z.ix3_1, Z.ix3_2, L2.rSetL, L2.gSub, Z.gTupH, L2.gCons, L2.gNil, L2.HO.lst.injEq, L2.HO.tup.injEq, L2.upd_same, L2.upd_upd, L2.tSl, L2.tNoPart, L2.tPart, L2.rSlL, L2.rCat, List.length_append, or_false, false_or, or_true, true_or, reduceCtorEq, false_and, and_false, exists_false, Int.reduceNeg, Int.reducePow, Int.reduceToNat, Int.reduceAbs, Int.reduceLE, Int.reduceMul, Int.reduceAdd, Int.reduceSub, Nat.reducePow, Nat.reduceLT, Nat.reduceLeDiff, Int.natAbs_natCast, if_true, if_false, Z.rIsN, Z.tyN, Z.kit_ii, Z.kit_bi, Z.kit_si, Z.kit_ni, Z.kit_ib, Z.kit_bb, Z.kit_sb, Z.kit_nb, Z.kit_is, Z.kit_bs, Z.kit_ss, Z.kit_ns, Bool.not_true, Bool.not_false, L2.tTup, L2.tLst, L2.wipe, L2.tYes, Z.Turn1, L2.tNever, sizeLine_eq, Z.rInU, Z.rInH, L2.flatV, List.any_cons, List.any_nil, List.all_cons, List.all_nil, Bool.and_true, Bool.true_and, Bool.or_false, Bool.false_or, Z.tBML, L2.rAppend, Z.map_int_inj, Z.map_bl_inj, Z.rTupL, Z.rLstL, Z.rLstT, Z.rSortI, Z.rAnyH, Z.rAllH, Z.rSumH, Z.rLenL, Z.rLenU, List.length_map, L2.tPar, StX.tStar, L2.tDNewT, L2.tDIn, L2.sDPut, L2.tDGet, Z.tCallK0, List.getD_cons_zero, List.getD_cons_succ]
        refine fun p hp => ?_
        rw [if_neg (by decide +kernel)]
        rw [if_neg (by decide +kernel)]
        rw [if_neg (by decide +kernel)]
        refine fun p2 hp2 => ?_
        rw [if_neg (by decide +kernel)]
        exact xo_of rfl (hx.same ((same_new hp).trans (same_new hp2))) T.x_NotABook.k T.x_NotABook.no rfl (q _ ((same_new hp).trans (same_new hp2)))
      · simp only [L2.start, List.map_cons, List.map_nil, List.length_cons, List.length_nil, Nat.zero_add, Nat.reduceAdd, Nat.reduceSub, List.replicate_succ, List.replicate_zero, List.cons_append, List.nil_append, List.append_nil, L2.tSeq, L2.tNext, L2.tAsg, L2.gName, L2.tRet, L2.tRetN, L2.tIfS, L2.tVar, L2.tC, L2.tOp, L2.tUn, L2.rI, L2.rI0, L2.rU, L2.rEq, L2.rNe, L2.tTest, L2.tB, L2.tIf, Z.tIfCI, Z.tIfCS, L2.tChain, L2.tCons, L2.tNil, L2.tCall, L2.tDrop, L2.tAndV, L2.tOrV, L2.tNotV, L2.tAnd, L2.tOr, L2.tNot, L2.tCB, Z.sc_ii, Z.sc_ss, Z.sc_bb, Z.sc_is, Z.sc_si, Z.sc_ni, Z.sc_in, Z.sc_ns, Z.sc_sn, Z.sc_nn, L2.CDiv, L2.CPow, L2.CMul, List.getElem?_cons_zero, List.getElem?_cons_succ, Z.set_z, Z.set_s, Option.some.injEq, L2.V.int.injEq, L2.V.bl.injEq, L2.V.str.injEq, L2.V.ref.injEq, L2.V.ty.injEq, List.cons.injEq, exists_eq_left', exists_and_left, exists_eq_left, exists_eq_right, exists_eq_right', exists_eq', exists_eq, true_and, and_true, and_assoc, decide_eq_true_eq, Int.reduceLT, and_self, Z.rIxH, Z.rIxU, Z.at30, Z.at31, Z.at32, Z.ix3_0, Z.ix3_1, Z.ix3_2, L2.rSetL, L2.gSub, Z.gTupH, L2.gCons, L2.gNil, L2.HO.lst.injEq, L2.HO.tup.injEq, L2.upd_same, L2.upd_upd, L2.tSl, L2.tNoPart, L2.tPart, L2.rSlL, L2.rCat, List.length_append, or_false, false_or, or_true, true_or, reduceCtorEq, false_and, and_false, exists_false, Int.reduceNeg, Int.reducePow, Int.reduceToNat, Int.reduceAbs, Int.reduceLE, Int.reduceMul, Int.reduceAdd, Int.reduceSub, Nat.reducePow, Nat.reduceLT, Nat.reduceLeDiff, Int.natAbs_natCast, if_true, if_false, Z.rIsN, Z.tyN, Z.kit_ii, Z.kit_bi, Z.kit_si, Z.kit_ni, Z.kit_ib, Z.kit_bb, Z.kit_sb, Z.kit_nb, Z.kit_is, Z.kit_bs, Z.kit_ss, Z.kit_ns, Bool.not_true, Bool.not_false, L2.tTup, L2.tLst, L2.wipe, L2.tYes, Z.Turn1, L2.tNever, sizeLine_eq, Z.rInU, Z.rInH, L2.flatV, List.any_cons, List.any_nil, List.all_cons, List.all_nil, Bool.and_true, Bool.true_and, Bool.or_false, Bool.false_or, Z.tBML, L2.rAppend, Z.map_int_inj, Z.map_bl_inj, Z.rTupL, Z.rLstL, Z.rLstT, Z.rSortI, Z.rAnyH, Z.rAllH, Z.rSumH, Z.rLenL, Z.rLenU, List.length_map, L2.tPar, StX.tStar, L2.tDNewT, L2.tDIn, L2.sDPut, L2.tDGet, Z.tCallK0, List.getD_cons_zero, List.getD_cons_succ]
        refine fun p hp => ?_
        rw [if_pos (by decide +kernel)]
        exact xo_of rfl (hx.same (same_new hp)) T.x_InvalidRows.k T.x_InvalidRows.no rfl (q _ (same_new hp))
      · simp only [L2.start, List.map_cons, List.map_nil, List.length_cons, List.length_nil, Nat.zero_add, Nat.reduceAdd, Nat.reduceSub, List.replicate_succ, List.replicate_zero, List.cons_append, List.nil_append, List.append_nil, L2.tSeq, L2.tNext, L2.tAsg, L2.gName, L2.tRet, L2.tRetN, L2.tIfS, L2.tVar, L2.tC, L2.tOp, L2.tUn, L2.rI, L2.rI0, L2.rU, L2.rEq, L2.rNe, L2.tTest, L2.tB, L2.tIf, Z.tIfCI, Z.tIfCS, L2.tChain, L2.tCons, L2.tNil, L2.tCall, L2.tDrop, L2.tAndV, L2.tOrV, L2.tNotV, L2.tAnd, L2.tOr, L2.tNot, L2.tCB, Z.sc_ii, Z.sc_ss, Z.sc_bb, Z.sc_is, Z.sc_si, Z.sc_ni, Z.sc_in, Z.sc_ns, Z.sc_sn, Z.sc_nn, L2.CDiv, L2.CPow, L2.CMul, List.getElem?_cons_zero, List.getElem?_cons_succ, Z.set_z, Z.set_s, Option.some.injEq, L2.V.int.injEq, L2.V.bl.injEq, L2.V.str.injEq, L2.V.ref.injEq, L2.V.ty.injEq, List.cons.injEq, exists_eq_left', exists_and_left, exists_eq_left, exists_eq_right, exists_eq_right', exists_eq', exists_eq, true_and, and_true, and_assoc, decide_eq_true_eq, Int.reduceLT, and_self, Z.rIxH, Z.rIxU, Z.at30, Z.at31, Z.at32, Z.ix3_0, Z.ix3_1, Z.ix3_2, L2.rSetL, L2.gSub, Z.gTupH, L2.gCons, L2.gNil, L2.HO.lst.injEq, L2.HO.tup.injEq, L2.upd_same, L2.upd_upd, L2.tSl, L2.tNoPart, L2.tPart, L2.rSlL, L2.rCat, List.length_append, or_false, false_or, or_true, true_or, reduceCtorEq, false_and, and_false, exists_false, Int.reduceNeg, Int.reducePow, Int.reduceToNat, Int.reduceAbs, Int.reduceLE, Int.reduceMul, Int.reduceAdd, Int.reduceSub, Nat.reducePow, Nat.reduceLT, Nat.reduceLeDiff, Int.natAbs_natCast, if_true, if_false, Z.rIsN, Z.tyN, Z.kit_ii, Z.kit_bi, Z.kit_si, Z.kit_ni, Z.kit_ib, Z.kit_bb, Z.kit_sb, Z.kit_nb, Z.kit_is, Z.kit_bs, Z.kit_ss, Z.kit_ns, Bool.not_true, Bool.not_false, L2.tTup, L2.tLst, L2.wipe, L2.tYes, Z.Turn1, L2.tNever, sizeLine_eq, Z.rInU, Z.rInH, L2.flatV, List.any_cons, List.any_nil, List.all_cons, List.all_nil, Bool.and_true, Bool.true_and, Bool.or_false, Bool.false_or, Z.tBML, L2.rAppend, Z.map_int_inj, Z.map_bl_inj, Z.rTupL, Z.rLstL, Z.rLstT, Z.rSortI, Z.rAnyH, Z.rAllH, Z.rSumH, Z.rLenL, Z.rLenU, List.length_map, L2.tPar, StX.tStar, L2.tDNewT, L2.tDIn, L2.sDPut, L2.tDGet, Z.tCallK0, List.getD_cons_zero, List.getD_cons_succ]
        refine fun p hp => ?_
        rw [if_pos (by decide +kernel)]
        exact xo_of rfl (hx.same (same_new hp)) T.x_InvalidSeats.k T.x_InvalidSeats.no rfl (q _ (same_new hp))
      · simp only [L2.start, List.map_cons, List.map_nil, List.length_cons, List.length_nil, Nat.zero_add, Nat.reduceAdd, Nat.reduceSub, List.replicate_succ, List.replicate_zero, List.cons_append, List.nil_append, List.append_nil, L2.tSeq, L2.tNext, L2.tAsg, L2.gName, L2.tRet, L2.tRetN, L2.tIfS, L2.tVar, L2.tC, L2.tOp, L2.tUn, L2.rI, L2.rI0, L2.rU, L2.rEq, L2.rNe, L2.tTest, L2.tB, L2.tIf, Z.tIfCI, Z.tIfCS, L2.tChain, L2.tCons, L2.tNil, L2.tCall, L2.tDrop, L2.tAndV, L2.tOrV, L2.tNotV, L2.tAnd, L2.tOr, L2.tNot, L2.tCB, Z.sc_ii, Z.sc_ss, Z.sc_bb, Z.sc_is, Z.sc_si, Z.sc_ni, Z.sc_in, Z.sc_ns, Z.sc_sn, Z.sc_nn, L2.CDiv, L2.CPow, L2.CMul, List.getElem?_cons_zero, List.getElem?_cons_succ, Z.set_z, Z.set_s, Option.some.injEq, L2.V.int.injEq, L2.V.bl.injEq, L2.V.str.injEq, L2.V.ref.injEq, L2.V.ty.injEq, List.cons.injEq, exists_eq_left', exists_and_left, exists_eq_left, exists_eq_right, exists_eq_right', exists_eq', exists_eq, true_and, and_true, and_assoc, decide_eq_true_eq, Int.reduceLT, and_self, Z.rIxH, Z.rIxU, Z.at30, Z.at31, Z.at32, Z.ix3_0, Z.ix3_1, Z.ix3_2, L2.rSetL, L2.gSub, Z.gTupH, L2.gCons, L2.gNil, L2.HO.lst.injEq, L2.HO.tup.injEq, L2.upd_same, L2.upd_upd, L2.tSl, L2.tNoPart, L2.tPart, L2.rSlL, L2.rCat, List.length_append, or_false, false_or, or_true, true_or, reduceCtorEq, false_and, and_false, exists_false, Int.reduceNeg, Int.reducePow, Int.reduceToNat, Int.reduceAbs, Int.reduceLE, Int.reduceMul, Int.reduceAdd, Int.reduceSub, Nat.reducePow, Nat.reduceLT, Nat.reduceLeDiff, Int.natAbs_natCast, if_true, if_false, Z.rIsN, Z.tyN, Z.kit_ii, Z.kit_bi, Z.kit_si, Z.kit_ni, Z.kit_ib, Z.kit_bb, Z.kit_sb, Z.kit_nb, Z.kit_is, Z.kit_bs, Z.kit_ss, Z.kit_ns, Bool.not_true, Bool.not_false, L2.tTup, L2.tLst, L2.wipe, L2.tYes, Z.Turn1, L2.tNever, sizeLine_eq, Z.rInU, Z.rInH, L2.flatV, List.any_cons, List.any_nil, List.all_cons, List.all_nil, Bool.and_true, Bool.true_and, Bool.or_false, Bool.false_or, Z.tBML, L2.rAppend, Z.map_int_inj, Z.map_bl_inj, Z.rTupL, Z.rLstL, Z.rLstT, Z.rSortI, Z.rAnyH, Z.rAllH, Z.rSumH, Z.rLenL, Z.rLenU, List.length_map, L2.tPar, StX.tStar, L2.tDNewT, L2.tDIn, L2.sDPut, L2.tDGet, Z.tCallK0, List.getD_cons_zero, List.getD_cons_succ]
        refine fun p hp => ?_
        rw [if_pos (by decide +kernel)]
        exact xo_of rfl (hx.same (same_new hp)) T.x_InvalidExchanges.k T.x_InvalidExchanges.no rfl (q _ (same_new hp))
      · simp only [L2.start, List.map_cons, List.map_nil, List.length_cons, List.length_nil, Nat.zero_add, Nat.reduceAdd, Nat.reduceSub, List.replicate_succ, List.replicate_zero, List.cons_append, List.nil_append, List.append_nil, L2.tSeq, L2.tNext, L2.tAsg, L2.gName, L2.tRet, L2.tRetN, L2.tIfS, L2.tVar, L2.tC, L2.tOp, L2.tUn, L2.rI, L2.rI0, L2.rU, L2.rEq, L2.rNe, L2.tTest, L2.tB, L2.tIf, Z.tIfCI, Z.tIfCS, L2.tChain, L2.tCons, L2.tNil, L2.tCall, L2.tDrop, L2.tAndV, L2.tOrV, L2.tNotV, L2.tAnd, L2.tOr, L2.tNot, L2.tCB, Z.sc_ii, Z.sc_ss, Z.sc_bb, Z.sc_is, Z.sc_si, Z.sc_ni, Z.sc_in, Z.sc_ns, Z.sc_sn, Z.sc_nn, L2.CDiv, L2.CPow, L2.CMul, List.getElem?_cons_zero, List.getElem?_cons_succ, Z.set_z, Z.set_s, Option.some.injEq, L2.V.int.injEq, L2.V.bl.injEq, L2.V.str.injEq, L2.V.ref.injEq, L2.V.ty.injEq, List.cons.injEq, exists_eq_left', exists_and_left, exists_eq_left, exists_eq_right, exists_eq_right', exists_eq', exists_eq, true_and, and_true, and_assoc, decide_eq_true_eq, Int.reduceLT, and_self, Z.rIxH, Z.rIxU, Z.at30, Z.at31, Z.at32, Z.ix3_0, Z.ix3_1, Z.ix3_2, L2.rSetL, L2.gSub, Z.gTupH, L2.gCons, L2.gNil, L2.HO.lst.injEq, L2.HO.tup.injEq, L2.upd_same, L2.upd_upd, L2.tSl, L2.tNoPart, L2.tPart, L2.rSlL, L2.rCat, List.length_append, or_false, false_or, or_true, true_or, reduceCtorEq, false_and, and_false, exists_false, Int.reduceNeg, Int.reducePow, Int.reduceToNat, Int.reduceAbs, Int.reduceLE, Int.reduceMul, Int.reduceAdd, Int.reduceSub, Nat.reducePow, Nat.reduceLT, Nat.reduceLeDiff, Int.natAbs_natCast, if_true, if_false, Z.rIsN, Z.tyN, Z.kit_ii, Z.kit_bi, Z.kit_si, Z.kit_ni, Z.kit_ib, Z.kit_bb, Z.kit_sb, Z.kit_nb, Z.kit_is, Z.kit_bs, Z.kit_ss, Z.kit_ns, Bool.not_true, Bool.not_false, L2.tTup, L2.tLst, L2.wipe, L2.tYes, Z.Turn1, L2.tNever, sizeLine_eq, Z.rInU, Z.rInH, L2.flatV, List.any_cons, List.any_nil, List.all_cons, List.all_nil, Bool.and_true, Bool.true_and, Bool.or_false, Bool.false_or, Z.tBML, L2.rAppend, Z.map_int_inj, Z.map_bl_inj, Z.rTupL, Z.rLstL, Z.rLstT, Z.rSortI, Z.rAnyH, Z.rAllH, Z.rSumH, Z.rLenL, Z.rLenU, List.length_map, L2.tPar, StX.tStar, L2.tDNewT, L2.tDIn, L2.sDPut, L2.tDGet, Z.tCallK0, List.getD_cons_zero, List.getD_cons_succ]
        refine fun p hp => ?_
        rw [if_pos (by decide +kernel)]
        exact xo_of rfl (hx.same (same_new hp)) T.x_InvalidWishes.k T.x_InvalidWishes.no rfl (q _ (same_new hp))
      · simp only [L2.start, List.map_cons, List.map_nil, List.length_cons, List.length_nil, Nat.zero_add, Nat.reduceAdd, Nat.reduceSub, List.replicate_succ, List.replicate_zero, List.cons_append, List.nil_append, List.append_nil, L2.tSeq, L2.tNext, L2.tAsg, L2.gName, L2.tRet, L2.tRetN, L2.tIfS, L2.tVar, L2.tC, L2.tOp, L2.tUn, L2.rI, L2.rI0, L2.rU, L2.rEq, L2.rNe, L2.tTest, L2.tB, L2.tIf, Z.tIfCI, Z.tIfCS, L2.tChain, L2.tCons, L2.tNil, L2.tCall, L2.tDrop, L2.tAndV, L2.tOrV, L2.tNotV, L2.tAnd, L2.tOr, L2.tNot, L2.tCB, Z.sc_ii, Z.sc_ss, Z.sc_bb, Z.sc_is, Z.sc_si, Z.sc_ni, Z.sc_in, Z.sc_ns, Z.sc_sn, Z.sc_nn, L2.CDiv, L2.CPow, L2.CMul, List.getElem?_cons_zero, List.getElem?_cons_succ, Z.set_z, Z.set_s, Option.some.injEq, L2.V.int.injEq, L2.V.bl.injEq, L2.V.str.injEq, L2.V.ref.injEq, L2.V.ty.injEq, List.cons.injEq, exists_eq_left', exists_and_left, exists_eq_left, exists_eq_right, exists_eq_right', exists_eq', exists_eq, true_and, and_true, and_assoc, decide_eq_true_eq, Int.reduceLT, and_self, Z.rIxH, Z.rIxU, Z.at30, Z.at31, Z.at32, Z.ix3_0, Z.ix3_1, Z.ix3_2, L2.rSetL, L2.gSub, Z.gTupH, L2.gCons, L2.gNil, L2.HO.lst.injEq, L2.HO.tup.injEq, L2.upd_same, L2.upd_upd, L2.tSl, L2.tNoPart, L2.tPart, L2.rSlL, L2.rCat, List.length_append, or_false, false_or, or_true, true_or, reduceCtorEq, false_and, and_false, exists_false, Int.reduceNeg, Int.reducePow, Int.reduceToNat, Int.reduceAbs, Int.reduceLE, Int.reduceMul, Int.reduceAdd, Int.reduceSub, Nat.reducePow, Nat.reduceLT, Nat.reduceLeDiff, Int.natAbs_natCast, if_true, if_false, Z.rIsN, Z.tyN, Z.kit_ii, Z.kit_bi, Z.kit_si, Z.kit_ni, Z.kit_ib, Z.kit_bb, Z.kit_sb, Z.kit_nb, Z.kit_is, Z.kit_bs, Z.kit_ss, Z.kit_ns, Bool.not_true, Bool.not_false, L2.tTup, L2.tLst, L2.wipe, L2.tYes, Z.Turn1, L2.tNever, sizeLine_eq, Z.rInU, Z.rInH, L2.flatV, List.any_cons, List.any_nil, List.all_cons, List.all_nil, Bool.and_true, Bool.true_and, Bool.or_false, Bool.false_or, Z.tBML, L2.rAppend, Z.map_int_inj, Z.map_bl_inj, Z.rTupL, Z.rLstL, Z.rLstT, Z.rSortI, Z.rAnyH, Z.rAllH, Z.rSumH, Z.rLenL, Z.rLenU, List.length_map, L2.tPar, StX.tStar, L2.tDNewT, L2.tDIn, L2.sDPut, L2.tDGet, Z.tCallK0, List.getD_cons_zero, List.getD_cons_succ]
        refine fun p hp => ?_
        rw [if_neg (by decide +kernel)]
        rw [if_neg (by decide +kernel)]
        rw [if_neg (by decide +kernel)]
        refine fun p2 hp2 => ?_
        rw [if_neg (by decide +kernel)]
        exact xo_of rfl (hx.same ((same_new hp).trans (same_new hp2))) T.x_UnknownName.k T.x_UnknownName.no rfl (q _ ((same_new hp).trans (same_new hp2)))
      · simp only [L2.start, List.map_cons, List.map_nil, List.length_cons, List.length_nil, Nat.zero_add, Nat.reduceAdd, Nat.reduceSub, List.replicate_succ, List.replicate_zero, List.cons_append, List.nil_append, List.append_nil, L2.tSeq, L2.tNext, L2.tAsg, L2.gName, L2.tRet, L2.tRetN, L2.tIfS, L2.tVar, L2.tC, L2.tOp, L2.tUn, L2.rI, L2.rI0, L2.rU, L2.rEq, L2.rNe, L2.tTest, L2.tB, L2.tIf, Z.tIfCI, Z.tIfCS, L2.tChain, L2.tCons, L2.tNil, L2.tCall, L2.tDrop, L2.tAndV, L2.tOrV, L2.tNotV, L2.tAnd, L2.tOr, L2.tNot, L2.tCB, Z.sc_ii, Z.sc_ss, Z.sc_bb, Z.sc_is, Z.sc_si, Z.sc_ni, Z.sc_in, Z.sc_ns, Z.sc_sn, Z.sc_nn, L2.CDiv, L2.CPow, L2.CMul, List.getElem?_cons_zero, List.getElem?_cons_succ, Z.set_z, Z.set_s, Option.some.injEq, L2.V.int.injEq, L2.V.bl.injEq, L2.V.str.injEq, L2.V.ref.injEq, L2.V.ty.injEq, List.cons.injEq, exists_eq_left', exists_and_left, exists_eq_left, exists_eq_right, exists_eq_right', exists_eq', exists_eq, true_and, and_true, and_assoc, decide_eq_true_eq, Int.reduceLT, and_self, Z.rIxH, Z.rIxU, Z.at30, Z.at31, Z.at32, Z.ix3_0, Z.ix3_1, Z.ix3_2, L2.rSetL, L2.gSub, Z.gTupH, L2.gCons, L2.gNil, L2.HO.lst.injEq, L2.HO.tup.injEq, L2.upd_same, L2.upd_upd, L2.tSl, L2.tNoPart, L2.tPart, L2.rSlL, L2.rCat, List.length_append, or_false, false_or, or_true, true_or, reduceCtorEq, false_and, and_false, exists_false, Int.reduceNeg, Int.reducePow, Int.reduceToNat, Int.reduceAbs, Int.reduceLE, Int.reduceMul, Int.reduceAdd, Int.reduceSub, Nat.reducePow, Nat.reduceLT, Nat.reduceLeDiff, Int.natAbs_natCast, if_true, if_false, Z.rIsN, Z.tyN, Z.kit_ii, Z.kit_bi, Z.kit_si, Z.kit_ni, Z.kit_ib, Z.kit_bb, Z.kit_sb, Z.kit_nb, Z.kit_is, Z.kit_bs, Z.kit_ss, Z.kit_ns, Bool.not_true, Bool.not_false, L2.tTup, L2.tLst, L2.wipe, L2.tYes, Z.Turn1, L2.tNever, sizeLine_eq, Z.rInU, Z.rInH, L2.flatV, List.any_cons, List.any_nil, List.all_cons, List.all_nil, Bool.and_true, Bool.true_and, Bool.or_false, Bool.false_or, Z.tBML, L2.rAppend, Z.map_int_inj, Z.map_bl_inj, Z.rTupL, Z.rLstL, Z.rLstT, Z.rSortI, Z.rAnyH, Z.rAllH, Z.rSumH, Z.rLenL, Z.rLenU, List.length_map, L2.tPar, StX.tStar, L2.tDNewT, L2.tDIn, L2.sDPut, L2.tDGet, Z.tCallK0, List.getD_cons_zero, List.getD_cons_succ]
        refine fun p hp => ?_
        rw [if_pos (by decide +kernel)]
        exact xo_of rfl (hx.same (same_new hp)) T.x_InUse.k T.x_InUse.no rfl (q _ (same_new hp))
      · simp only [L2.start, List.map_cons, List.map_nil, List.length_cons, List.length_nil, Nat.zero_add, Nat.reduceAdd, Nat.reduceSub, List.replicate_succ, List.replicate_zero, List.cons_append, List.nil_append, List.append_nil, L2.tSeq, L2.tNext, L2.tAsg, L2.gName, L2.tRet, L2.tRetN, L2.tIfS, L2.tVar, L2.tC, L2.tOp, L2.tUn, L2.rI, L2.rI0, L2.rU, L2.rEq, L2.rNe, L2.tTest, L2.tB, L2.tIf, Z.tIfCI, Z.tIfCS, L2.tChain, L2.tCons, L2.tNil, L2.tCall, L2.tDrop, L2.tAndV, L2.tOrV, L2.tNotV, L2.tAnd, L2.tOr, L2.tNot, L2.tCB, Z.sc_ii, Z.sc_ss, Z.sc_bb, Z.sc_is, Z.sc_si, Z.sc_ni, Z.sc_in, Z.sc_ns, Z.sc_sn, Z.sc_nn, L2.CDiv, L2.CPow, L2.CMul, List.getElem?_cons_zero, List.getElem?_cons_succ, Z.set_z, Z.set_s, Option.some.injEq, L2.V.int.injEq, L2.V.bl.injEq, L2.V.str.injEq, L2.V.ref.injEq, L2.V.ty.injEq, List.cons.injEq, exists_eq_left', exists_and_left, exists_eq_left, exists_eq_right, exists_eq_right', exists_eq', exists_eq, true_and, and_true, and_assoc, decide_eq_true_eq, Int.reduceLT, and_self, Z.rIxH, Z.rIxU, Z.at30, Z.at31, Z.at32, Z.ix3_0, Z.ix3_1, Z.ix3_2, L2.rSetL, L2.gSub, Z.gTupH, L2.gCons, L2.gNil, L2.HO.lst.injEq, L2.HO.tup.injEq, L2.upd_same, L2.upd_upd, L2.tSl, L2.tNoPart, L2.tPart, L2.rSlL, L2.rCat, List.length_append, or_false, false_or, or_true, true_or, reduceCtorEq, false_and, and_false, exists_false, Int.reduceNeg, Int.reducePow, Int.reduceToNat, Int.reduceAbs, Int.reduceLE, Int.reduceMul, Int.reduceAdd, Int.reduceSub, Nat.reducePow, Nat.reduceLT, Nat.reduceLeDiff, Int.natAbs_natCast, if_true, if_false, Z.rIsN, Z.tyN, Z.kit_ii, Z.kit_bi, Z.kit_si, Z.kit_ni, Z.kit_ib, Z.kit_bb, Z.kit_sb, Z.kit_nb, Z.kit_is, Z.kit_bs, Z.kit_ss, Z.kit_ns, Bool.not_true, Bool.not_false, L2.tTup, L2.tLst, L2.wipe, L2.tYes, Z.Turn1, L2.tNever, sizeLine_eq, Z.rInU, Z.rInH, L2.flatV, List.any_cons, List.any_nil, List.all_cons, List.all_nil, Bool.and_true, Bool.true_and, Bool.or_false, Bool.false_or, Z.tBML, L2.rAppend, Z.map_int_inj, Z.map_bl_inj, Z.rTupL, Z.rLstL, Z.rLstT, Z.rSortI, Z.rAnyH, Z.rAllH, Z.rSumH, Z.rLenL, Z.rLenU, List.length_map, L2.tPar, StX.tStar, L2.tDNewT, L2.tDIn, L2.sDPut, L2.tDGet, Z.tCallK0, List.getD_cons_zero, List.getD_cons_succ]
        refine fun p hp => ?_
        rw [if_neg (by decide +kernel)]
        rw [if_neg (by decide +kernel)]
        rw [if_neg (by decide +kernel)]
        refine fun p2 hp2 => ?_
        rw [if_neg (by decide +kernel)]
        exact xo_of rfl (hx.same ((same_new hp).trans (same_new hp2))) T.x_NotFull.k T.x_NotFull.no rfl (q _ ((same_new hp).trans (same_new hp2)))
      · simp only [L2.start, List.map_cons, List.map_nil, List.length_cons, List.length_nil, Nat.zero_add, Nat.reduceAdd, Nat.reduceSub, List.replicate_succ, List.replicate_zero, List.cons_append, List.nil_append, List.append_nil, L2.tSeq, L2.tNext, L2.tAsg, L2.gName, L2.tRet, L2.tRetN, L2.tIfS, L2.tVar, L2.tC, L2.tOp, L2.tUn, L2.rI, L2.rI0, L2.rU, L2.rEq, L2.rNe, L2.tTest, L2.tB, L2.tIf, Z.tIfCI, Z.tIfCS, L2.tChain, L2.tCons, L2.tNil, L2.tCall, L2.tDrop, L2.tAndV, L2.tOrV, L2.tNotV, L2.tAnd, L2.tOr, L2.tNot, L2.tCB, Z.sc_ii, Z.sc_ss, Z.sc_bb, Z.sc_is, Z.sc_si, Z.sc_ni, Z.sc_in, Z.sc_ns, Z.sc_sn, Z.sc_nn, L2.CDiv, L2.CPow, L2.CMul, List.getElem?_cons_zero, List.getElem?_cons_succ, Z.set_z, Z.set_s, Option.some.injEq, L2.V.int.injEq, L2.V.bl.injEq, L2.V.str.injEq, L2.V.ref.injEq, L2.V.ty.injEq, List.cons.injEq, exists_eq_left', exists_and_left, exists_eq_left, exists_eq_right, exists_eq_right', exists_eq', exists_eq, true_and, and_true, and_assoc, decide_eq_true_eq, Int.reduceLT, and_self, Z.rIxH, Z.rIxU, Z.at30, Z.at31, Z.at32, Z.ix3_0, Z.ix3_1, Z.ix3_2, L2.rSetL, L2.gSub, Z.gTupH, L2.gCons, L2.gNil, L2.HO.lst.injEq, L2.HO.tup.injEq, L2.upd_same, L2.upd_upd, L2.tSl, L2.tNoPart, L2.tPart, L2.rSlL, L2.rCat, List.length_append, or_false, false_or, or_true, true_or, reduceCtorEq, false_and, and_false, exists_false, Int.reduceNeg, Int.reducePow, Int.reduceToNat, Int.reduceAbs, Int.reduceLE, Int.reduceMul, Int.reduceAdd, Int.reduceSub, Nat.reducePow, Nat.reduceLT, Nat.reduceLeDiff, Int.natAbs_natCast, if_true, if_false, Z.rIsN, Z.tyN, Z.kit_ii, Z.kit_bi, Z.kit_si, Z.kit_ni, Z.kit_ib, Z.kit_bb, Z.kit_sb, Z.kit_nb, Z.kit_is, Z.kit_bs, Z.kit_ss, Z.kit_ns, Bool.not_true, Bool.not_false, L2.tTup, L2.tLst, L2.wipe, L2.tYes, Z.Turn1, L2.tNever, sizeLine_eq, Z.rInU, Z.rInH, L2.flatV, List.any_cons, List.any_nil, List.all_cons, List.all_nil, Bool.and_true, Bool.true_and, Bool.or_false, Bool.false_or, Z.tBML, L2.rAppend, Z.map_int_inj, Z.map_bl_inj, Z.rTupL, Z.rLstL, Z.rLstT, Z.rSortI, Z.rAnyH, Z.rAllH, Z.rSumH, Z.rLenL, Z.rLenU, List.length_map, L2.tPar, StX.tStar, L2.tDNewT, L2.tDIn, L2.sDPut, L2.tDGet, Z.tCallK0, List.getD_cons_zero, List.getD_cons_succ]
        refine fun p hp => ?_
        rw [if_neg (by decide +kernel)]
        rw [if_neg (by decide +kernel)]
        rw [if_neg (by decide +kernel)]
        refine fun p2 hp2 => ?_
        rw [if_neg (by decide +kernel)]
        exact xo_of rfl (hx.same ((same_new hp).trans (same_new hp2))) T.x_TooMany.k T.x_TooMany.no rfl (q _ ((same_new hp).trans (same_new hp2)))
      · simp only [L2.start, List.map_cons, List.map_nil, List.length_cons, List.length_nil, Nat.zero_add, Nat.reduceAdd, Nat.reduceSub, List.replicate_succ, List.replicate_zero, List.cons_append, List.nil_append, List.append_nil, L2.tSeq, L2.tNext, L2.tAsg, L2.gName, L2.tRet, L2.tRetN, L2.tIfS, L2.tVar, L2.tC, L2.tOp, L2.tUn, L2.rI, L2.rI0, L2.rU, L2.rEq, L2.rNe, L2.tTest, L2.tB, L2.tIf, Z.tIfCI, Z.tIfCS, L2.tChain, L2.tCons, L2.tNil, L2.tCall, L2.tDrop, L2.tAndV, L2.tOrV, L2.tNotV, L2.tAnd, L2.tOr, L2.tNot, L2.tCB, Z.sc_ii, Z.sc_ss, Z.sc_bb, Z.sc_is, Z.sc_si, Z.sc_ni, Z.sc_in, Z.sc_ns, Z.sc_sn, Z.sc_nn, L2.CDiv, L2.CPow, L2.CMul, List.getElem?_cons_zero, List.getElem?_cons_succ, Z.set_z, Z.set_s, Option.some.injEq, L2.V.int.injEq, L2.V.bl.injEq, L2.V.str.injEq, L2.V.ref.injEq, L2.V.ty.injEq, List.cons.injEq, exists_eq_left', exists_and_left, exists_eq_left, exists_eq_right, exists_eq_right', exists_eq', exists_eq, true_and, and_true, and_assoc, decide_eq_true_eq, Int.reduceLT, and_self, Z.rIxH, Z.rIxU, Z.at30, Z.at31, Z.at32, Z.ix3_0, Z.ix3_1, Z.ix3_2, L2.rSetL, L2.gSub, Z.gTupH, L2.gCons, L2.gNil, L2.HO.lst.injEq, L2.HO.tup.injEq, L2.upd_same, L2.upd_upd, L2.tSl, L2.tNoPart, L2.tPart, L2.rSlL, L2.rCat, List.length_append, or_false, false_or, or_true, true_or, reduceCtorEq, false_and, and_false, exists_false, Int.reduceNeg, Int.reducePow, Int.reduceToNat, Int.reduceAbs, Int.reduceLE, Int.reduceMul, Int.reduceAdd, Int.reduceSub, Nat.reducePow, Nat.reduceLT, Nat.reduceLeDiff, Int.natAbs_natCast, if_true, if_false, Z.rIsN, Z.tyN, Z.kit_ii, Z.kit_bi, Z.kit_si, Z.kit_ni, Z.kit_ib, Z.kit_bb, Z.kit_sb, Z.kit_nb, Z.kit_is, Z.kit_bs, Z.kit_ss, Z.kit_ns, Bool.not_true, Bool.not_false, L2.tTup, L2.tLst, L2.wipe, L2.tYes, Z.Turn1, L2.tNever, sizeLine_eq, Z.rInU, Z.rInH, L2.flatV, List.any_cons, List.any_nil, List.all_cons, List.all_nil, Bool.and_true, Bool.true_and, Bool.or_false, Bool.false_or, Z.tBML, L2.rAppend, Z.map_int_inj, Z.map_bl_inj, Z.rTupL, Z.rLstL, Z.rLstT, Z.rSortI, Z.rAnyH, Z.rAllH, Z.rSumH, Z.rLenL, Z.rLenU, List.length_map, L2.tPar, StX.tStar, L2.tDNewT, L2.tDIn, L2.sDPut, L2.tDGet, Z.tCallK0, List.getD_cons_zero, List.getD_cons_succ]
        refine fun p hp => ?_
        rw [if_neg (by decide +kernel)]
        rw [if_neg (by decide +kernel)]
        exact xo_of rfl (hx.same (same_new hp)) T.x_NoRoom.k T.x_NoRoom.no rfl (q _ (same_new hp))
    · simp only [L2.start, List.map_cons, List.map_nil, List.length_cons, List.length_nil, Nat.zero_add, Nat.reduceAdd, Nat.reduceSub, List.replicate_succ, List.replicate_zero, List.cons_append, List.nil_append, List.append_nil, L2.tSeq, L2.tNext, L2.tAsg, L2.gName, L2.tRet, L2.tRetN, L2.tIfS, L2.tVar, L2.tC, L2.tOp, L2.tUn, L2.rI, L2.rI0, L2.rU, L2.rEq, L2.rNe, L2.tTest, L2.tB, L2.tIf, Z.tIfCI, Z.tIfCS, L2.tChain, L2.tCons, L2.tNil, L2.tCall, L2.tDrop, L2.tAndV, L2.tOrV, L2.tNotV, L2.tAnd, L2.tOr, L2.tNot, L2.tCB, Z.sc_ii, Z.sc_ss, Z.sc_bb, Z.sc_is, Z.sc_si, Z.sc_ni, Z.sc_in, Z.sc_ns, Z.sc_sn, Z.sc_nn, L2.CDiv, L2.CPow, L2.CMul, List.getElem?_cons_zero, List.getElem?_cons_succ, Z.set_z, Z.set_s, Option.some.injEq, L2.V.int.injEq, L2.V.bl.injEq, L2.V.str.injEq, L2.V.ref.injEq, L2.V.ty.injEq, List.cons.injEq, exists_eq_left', exists_and_left, exists_eq_left, exists_eq_right, exists_eq_right', exists_eq', exists_eq, true_and, and_true, and_assoc, decide_eq_true_eq, Int.reduceLT, and_self, Z.rIxH, Z.rIxU, Z.at30, Z.at31, Z.at32, Z.ix3_0, Z.ix3_1, Z.ix3_2, L2.rSetL, L2.gSub, Z.gTupH, L2.gCons, L2.gNil, L2.HO.lst.injEq, L2.HO.tup.injEq, L2.upd_same, L2.upd_upd, L2.tSl, L2.tNoPart, L2.tPart, L2.rSlL, L2.rCat, List.length_append, or_false, false_or, or_true, true_or, reduceCtorEq, false_and, and_false, exists_false, Int.reduceNeg, Int.reducePow, Int.reduceToNat, Int.reduceAbs, Int.reduceLE, Int.reduceMul, Int.reduceAdd, Int.reduceSub, Nat.reducePow, Nat.reduceLT, Nat.reduceLeDiff, Int.natAbs_natCast, if_true, if_false, Z.rIsN, Z.tyN, Z.kit_ii, Z.kit_bi, Z.kit_si, Z.kit_ni, Z.kit_ib, Z.kit_bb, Z.kit_sb, Z.kit_nb, Z.kit_is, Z.kit_bs, Z.kit_ss, Z.kit_ns, Bool.not_true, Bool.not_false, L2.tTup, L2.tLst, L2.wipe, L2.tYes, Z.Turn1, L2.tNever, sizeLine_eq, Z.rInU, Z.rInH, L2.flatV, List.any_cons, List.any_nil, List.all_cons, List.all_nil, Bool.and_true, Bool.true_and, Bool.or_false, Bool.false_or, Z.tBML, L2.rAppend, Z.map_int_inj, Z.map_bl_inj, Z.rTupL, Z.rLstL, Z.rLstT, Z.rSortI, Z.rAnyH, Z.rAllH, Z.rSumH, Z.rLenL, Z.rLenU, List.length_map, L2.tPar, StX.tStar, L2.tDNewT, L2.tDIn, L2.sDPut, L2.tDGet, Z.tCallK0, List.getD_cons_zero, List.getD_cons_succ]
      refine fun p hp => ?_
      rw [if_neg (by decide +kernel)]
      have s1 := same_new (o := .lst [.str "InvalidRows", .str "InvalidSeats", .str "InvalidExchanges", .str "InvalidWishes", .str "InUse"]) hp
      refine xo_of rfl (hx.same s1) T.x_Broken.k T.x_Broken.no rfl ?_
      refine xo_of rfl (hx.same s1) T.x_Broken.k T.x_Broken.no2 rfl fun p2 hp2 => ?_
      exact q p2 _ (s1.free hp2) (s1.trans (same_new hp2)) upd_same
/-- the heap without the source of draws at p -/
def hid (p : Addr) (H : Hp) : Hp := fun b => if b = p then none else H b
theorem hid_ne {p b : Addr} {H : Hp} (h : b ≠ p) : hid p H b = H b := if_neg h
theorem hid_le (p : Addr) (H : Hp) : Same (hid p H) H := fun b o e => by
  by_cases h : b = p
  · rw [h] at e
    simp [hid] at e
  · rw [hid_ne h] at e
    exact e
theorem hid_same {p : Addr} {H H' : Hp} (s : Same H H') : Same (hid p H) (hid p H') := fun b o e => by
  by_cases h : b = p
  · rw [h] at e
    simp [hid] at e
  · rw [hid_ne h] at e ⊢
    exact s _ _ e
theorem hid_kp {p : Addr} {H H' : Hp} (k : Kp p H H') : Same (hid p H) (hid p H') := fun b o e => by
  by_cases h : b = p
  · rw [h] at e
    simp [hid] at e
  · rw [hid_ne h] at e ⊢
    exact k.keep _ _ h e
/-- small data -/
def OkD (d : PyData) : Prop := d.showable = true ∧ d.shown.length ≤ 200 ∧ d.depth ≤ 4
/-- an expression that makes this and changes nothing -/
def DE (d : PyData) (te : TE) : Prop := ∀ (p : Addr) σ H Q, Spring H p → (∀ v H', Same H H' → Dx (hid p H') v d → Q v H') → te σ H Q
def DA (ds : List PyData) (ta : TA) : Prop := ∀ (p : Addr) σ H Q, Spring H p → (∀ vs H', Same H H' → DxAll (hid p H') vs ds → Q vs H') → ta σ H Q
theorem DA.nil : DA [] tNil := fun p σ H Q sp h => h [] H (Same.refl _) .nil
theorem DA.cons {d : PyData} {ds : List PyData} {te : TE} {ta : TA} (a : DE d te) (b : DA ds ta) : DA (d :: ds) (tCons te ta) := fun p σ H Q sp h =>
  a p σ H _ sp fun v H1 s1 k1 => b p σ H1 _ (sp.same s1) fun vs H2 s2 k2 => h (v :: vs) H2 (s1.trans s2) (.cons (Dx.same (hid_same s2) _ _ k1) k2)
theorem DE.int {i : Int} : DE (.int i) (tC (.int i)) := fun p σ H Q sp h => h _ H (Same.refl _) (.int i)
theorem DE.str {z : Str} : DE (.str z) (tC (.str z)) := fun p σ H Q sp h => h _ H (Same.refl _) (.str z)
theorem DE.bl {b : Bool} : DE (.bool b) (tC (.bl b)) := fun p σ H Q sp h => h _ H (Same.refl _) (.bl b)
theorem DE.non : DE .none (tC .non) := fun p σ H Q sp h => h _ H (Same.refl _) .non
theorem DE.neg {i : Int} : DE (.int (-i)) (tUn (rU fun i => V.int (-i)) (tC (.int i))) := fun p σ H Q sp h => by
  simp only [L2.tUn, L2.rU, L2.tC, L2.V.int.injEq, exists_eq_left']
  exact h _ H (Same.refl _) (.int _)
theorem DE.pow {i j : Int} (c : CPow i j) : DE (.int (i ^ j.toNat)) (tOp (rI CPow fun i j => V.int (i ^ j.toNat)) (tC (.int i)) (tC (.int j))) := fun p σ H Q sp h => by
  simp only [L2.tOp, L2.rI, L2.tC, L2.V.int.injEq, exists_and_left, exists_eq_left', exists_eq_left]
  exact ⟨c, h _ H (Same.refl _) (.int _)⟩
theorem DE.pow39 : DE (.int (10 ^ 39)) (tOp (rI CPow fun i j => V.int (i ^ j.toNat)) (tC (.int 10)) (tC (.int 39))) := DE.pow (i := 10) (j := 39) (by unfold L2.CPow; decide)
theorem dxLen {H : Hp} : ∀ {vs : List V} {ds : List PyData}, DxAll H vs ds → vs.length = ds.length
  | _, _, .nil => rfl
  | _, _, .cons _ t => by rw [List.length_cons, List.length_cons, dxLen t]
theorem hid_new {p q : Addr} {H : Hp} {o : HO} (sp : Spring H p) (hq : H q = none) : hid p (upd H q o) q = some o := by
  rw [hid_ne (sp.ne hq), upd_same]
theorem DE.tup {ds : List PyData} {ta : TA} (a : DA ds ta) (hn : ds.length ≤ 1000) : DE (.tuple ds) (tTup ta) := fun p σ H Q sp h =>
  a p σ H _ sp fun vs H1 s1 k1 => ⟨sz1000 (by rw [dxLen k1]; exact hn), fun q hq => h _ _ (same_upd s1 (s1.free hq)) (.tup (hid_new (sp.same s1) hq) (DxAll.same (hid_same (same_new hq)) _ _ k1))⟩
theorem DE.lst {ds : List PyData} {ta : TA} (a : DA ds ta) (hn : ds.length ≤ 1000) : DE (.list ds) (tLst ta) := fun p σ H Q sp h =>
  a p σ H _ sp fun vs H1 s1 k1 => ⟨sz1000 (by rw [dxLen k1]; exact hn), fun q hq => h _ _ (same_upd s1 (s1.free hq)) (.lst (hid_new (sp.same s1) hq) (DxAll.same (hid_same (same_new hq)) _ _ k1))⟩
theorem DE.dnew : DE (.dict []) tDNewK := fun p σ H Q sp h q hq => h _ _ (same_new hq) (.dct (ks := []) (hid_new sp hq))
theorem DE.disp1 {x : Str} {i : Int} : DE (.dict [(.str x, .int i)]) (tDisp [(tC (.str x), tC (.int i))]) := fun p σ H Q sp h q hq =>
  ⟨upd_same, [(.inr x, .int i)], rfl, by show 1 ≤ 15; decide, by
    rw [upd_upd]
    exact h _ _ (same_new hq) (.dct (ks := [(x, i)]) (hid_new sp hq))⟩
/-- some small data, apart from the source -/
def OddP (p : Addr) (H : Hp) (v : V) : Prop := ∃ d, Dx (hid p H) v d ∧ OkD d
theorem OddP.same {p : Addr} {H H' : Hp} {v : V} (h : OddP p H v) (s : Same H H') : OddP p H' v := by
  obtain ⟨d, h1, h2⟩ := h
  exact ⟨d, Dx.same (hid_same s) _ _ h1, h2⟩
theorem OddP.kp {p : Addr} {H H' : Hp} {v : V} (h : OddP p H v) (k : Kp p H H') : OddP p H' v := by
  obtain ⟨d, h1, h2⟩ := h
  exact ⟨d, Dx.same (hid_kp k) _ _ h1, h2⟩
theorem odd_all {p : Addr} {H : Hp} : ∀ {vs : List V} {ds : List PyData}, DxAll (hid p H) vs ds → (∀ d ∈ ds, OkD d) → ∀ v ∈ vs, OddP p H v
  | _, _, .nil, _ => fun _ h => nomatch h
  | _, _, .cons h t, k => fun v hv => by
    rcases List.mem_cons.mp hv with rfl | hv
    · exact ⟨_, h, k _ (.head _)⟩
    · exact odd_all t (fun d hd => k d (.tail _ hd)) v hv
theorem lst_odd {p : Addr} {σ : L2.St} {H : Hp} {Q : VK} {ta : TA} {ds : List PyData} (sp : Spring H p) (g : DA ds ta) (ok : ∀ d ∈ ds, OkD d) (h : ∀ vs H1 q, Same H H1 → H q = none → H1 q = some (.lst vs) → (∀ x ∈ vs, OddP p H1 x) → vs.length = ds.length → Q (.ref q) H1) (hn : ds.length ≤ 500 := by decide) : tLst ta σ H Q :=
  g p σ H _ sp fun vs H1 s1 k1 => ⟨sz1000 (by rw [dxLen k1]; omega), fun q hq => h vs _ q (same_upd s1 (s1.free hq)) (s1.free hq) upd_same (fun x hx => (odd_all k1 ok x hx).same (same_new hq)) (dxLen k1)⟩
theorem cat_odd {p : Addr} {σ : L2.St} {H : Hp} {Q : VK} {ta : TA} {ds : List PyData} {i : Nat} {a : Addr} {xs : List V} (sp : Spring H p) (hσ : σ[i]? = some (some (.ref a))) (ha : H a = some (.lst xs)) (kx : ∀ x ∈ xs, OddP p H x) (hx : xs.length ≤ 500) (g : DA ds ta) (ok : ∀ d ∈ ds, OkD d)
    (h : ∀ ys H1 q, Same H H1 → H q = none → H1 q = some (.lst ys) → (∀ x ∈ ys, OddP p H1 x) → ys.length = xs.length + ds.length → Q (.ref q) H1) (hn : ds.length ≤ 400 := by decide) : tOp rCat (tVar i) (tLst ta) σ H Q := by
  refine ⟨_, hσ, ?_⟩
  refine lst_odd sp g ok (fun vs H1 q s1 hq e1 k1 l1 => ?_) (by omega)
  refine ⟨a, q, xs, vs, rfl, rfl, s1 _ _ ha, e1, sz1000 (by omega), fun r hr => ?_⟩
  refine h _ _ r (same_upd s1 (s1.free hr)) (s1.free hr) upd_same (fun x hx2 => ?_) (by rw [List.length_append, l1])
  rcases List.mem_append.mp hx2 with m | m
  · exact ((kx x m).same s1).same (same_new hr)
  · exact (k1 x m).same (same_new hr)

def oddD0 : List PyData := [.none, .bool true, .bool false, .int 0, .int 1, .int (-1), .int 7, .int (10 ^ 39), .str "", .str "a", .str "rings", .str "rows", .str "people 5 rings", .str "guests 3"]
def oddD1 : List PyData := [.str "tie 0 1 0", .tuple [], .tuple [.int 0], .tuple [.int 0, .int 1], .tuple [.int 1, .int 0], .tuple [.int 0, .int 0], .tuple [.bool true, .int 0], .tuple [.tuple [.int 0, .int 1]], .tuple [.tuple [.int 0, .int 1, .int 2]], .tuple [.tuple []]]
def oddD2 : List PyData := [.list [], .list [.int 0], .list [.str "x"], .dict [], .dict [(.str "a", .int 0)], .tuple [.list []], .tuple [.none], .tuple [.str "grows"], .tuple [.str "full"], .tuple [.str "ways", .int 3]]
def oddD3 : List PyData := [.tuple [.str "tie", .int 0, .int 1, .int 0], .tuple [.str "alike", .str "a", .str "b"], .tuple [.str "a", .tuple [.str "full"]], .tuple [.bool true]]
theorem oddD_ok : (∀ d ∈ oddD0, OkD d) ∧ (∀ d ∈ oddD1, OkD d) ∧ (∀ d ∈ oddD2, OkD d) ∧ ∀ d ∈ oddD3, OkD d := by
  unfold OkD
  decide +kernel
def sp__law_odd : Sp := fun vs H Q _ => ∃ (p : Addr), vs = [.ref p] ∧ Spring H p ∧ ∀ v H', Kp p H H' → OddP p H' v → Q v H'
theorem ok__law_odd (T : Env P K mg) : Hd P w K mg base CX0 3 "_law_odd" s__law_odd ["_law_spring_here"] sp__law_odd := by
  have H__law_of := ok__law_of (P := P) (w := w) (base := base) T
  obtain ⟨f, fd, F, hm⟩ := T.d__law_odd
  refine ⟨⟨f, fd, F, hm, ?_⟩, fun _ _ _ _ _ _ _ us hl => match us, hl with | [_], _ => rfl⟩
  refine F.ok sc__law_odd (fun vs H Q E h => ?_) (fun cdv A outer s H vs Q E hr h => ?_)
  · first | (obtain ⟨rfl, _⟩ := h; rfl) | (obtain ⟨_, rfl, _⟩ := h; rfl) | (obtain ⟨_, _, rfl, _⟩ := h; rfl) | (obtain ⟨_, _, _, rfl, _⟩ := h; rfl) | (obtain ⟨_, _, _, _, rfl, _⟩ := h; rfl) | (obtain ⟨_, _, _, _, _, rfl, _⟩ := h; rfl) | (obtain ⟨_, _, _, _, _, _, rfl, _⟩ := h; rfl) | (obtain ⟨_, _, _, _, _, _, _, rfl, _⟩ := h; rfl) | (obtain ⟨_, _, _, _, _, _, _, _, rfl, _⟩ := h; rfl)
  · obtain ⟨p, rfl, hp, q⟩ := h
    have hu := hu_of hr
    refine ⟨_, pss_cons (ps_set (i := 1) sc__law_odd.nd rfl (by first | exact .inl rfl | exact .inr rfl) (pe_lst (pa_cons pe_non (pa_cons pe_bl (pa_cons pe_bl (pa_cons pe_int (pa_cons pe_int (pa_cons (pe_un un_neg pe_int) (pa_cons pe_int (pa_cons (pe_op op_pow pe_int pe_int) (pa_cons pe_str (pa_cons pe_str (pa_cons pe_str (pa_cons pe_str (pa_cons pe_str (pa_cons pe_str pa_nil))))))))))))))))
      (pss_cons (ps_set (i := 1) sc__law_odd.nd rfl (by first | exact .inl rfl | exact .inr rfl) (pe_op op_cat (pv 1) (pe_lst (pa_cons pe_str (pa_cons (pe_tup pa_nil) (pa_cons (pe_tup (pa_cons pe_int pa_nil)) (pa_cons (pe_tup (pa_cons pe_int (pa_cons pe_int pa_nil))) (pa_cons (pe_tup (pa_cons pe_int (pa_cons pe_int pa_nil))) (pa_cons (pe_tup (pa_cons pe_int (pa_cons pe_int pa_nil))) (pa_cons (pe_tup (pa_cons pe_bl (pa_cons pe_int pa_nil))) (pa_cons (pe_tup (pa_cons (pe_tup (pa_cons pe_int (pa_cons pe_int pa_nil))) pa_nil)) (pa_cons (pe_tup (pa_cons (pe_tup (pa_cons pe_int (pa_cons pe_int (pa_cons pe_int pa_nil)))) pa_nil)) (pa_cons (pe_tup (pa_cons (pe_tup pa_nil) pa_nil)) pa_nil)))))))))))))
      (pss_cons (ps_set (i := 1) sc__law_odd.nd rfl (by first | exact .inl rfl | exact .inr rfl) (pe_op op_cat (pv 1) (pe_lst (pa_cons (pe_lst pa_nil) (pa_cons (pe_lst (pa_cons pe_int pa_nil)) (pa_cons (pe_lst (pa_cons pe_str pa_nil)) (pa_cons pe_dnewK (pa_cons (pe_disp (pps_cons pe_str pe_int pps_nil) rfl rfl (by simp) (by decide)) (pa_cons (pe_tup (pa_cons (pe_lst pa_nil) pa_nil)) (pa_cons (pe_tup (pa_cons pe_non pa_nil)) (pa_cons (pe_tup (pa_cons pe_str pa_nil)) (pa_cons (pe_tup (pa_cons pe_str pa_nil)) (pa_cons (pe_tup (pa_cons pe_str (pa_cons pe_int pa_nil))) pa_nil)))))))))))))
      (pss_one (ps_ret (pe_hd H__law_of (hr.mono (by decide)) rfl pass0 (pa_cons (pv 0) (pa_cons (pe_op op_cat (pv 1) (pe_lst (pa_cons (pe_tup (pa_cons pe_str (pa_cons pe_int (pa_cons pe_int (pa_cons pe_int pa_nil))))) (pa_cons (pe_tup (pa_cons pe_str (pa_cons pe_str (pa_cons pe_str pa_nil)))) (pa_cons (pe_tup (pa_cons pe_str (pa_cons (pe_tup (pa_cons pe_str pa_nil)) pa_nil))) (pa_cons (pe_tup (pa_cons pe_bl pa_nil)) pa_nil)))))) pa_nil))))))), ?_⟩
    refine z_seq ?_
    refine lst_odd (ds := oddD0) hp (by repeat (first | exact DA.nil | refine DA.cons ?_ ?_ | exact DE.int | exact DE.str | exact DE.bl | exact DE.non | exact DE.dnew | exact DE.disp1 | exact DE.neg | exact DE.pow39 | exact DE.pow (by unfold L2.CPow; decide) | refine DE.tup ?_ (by decide) | refine DE.lst ?_ (by decide))) oddD_ok.1 fun v1 H1 p1 s1 hp1 e1 k1 l1 => ?_
    simp only [L2.start, List.map_cons, List.map_nil, List.length_cons, List.length_nil, Nat.zero_add, Nat.reduceAdd, Nat.reduceSub, List.replicate_succ, List.replicate_zero, List.cons_append, List.nil_append, List.append_nil, L2.tNext, L2.tAsg, L2.gName, L2.tRet, L2.tRetN, L2.tIfS, L2.tVar, L2.tUn, L2.rI, L2.rI0, L2.rU, L2.rEq, L2.rNe, L2.tTest, L2.tB, L2.tIf, Z.tIfCI, Z.tIfCS, L2.tChain, L2.tCall, L2.tDrop, L2.tAndV, L2.tOrV, L2.tNotV, L2.tAnd, L2.tOr, L2.tNot, L2.tCB, Z.sc_ii, Z.sc_ss, Z.sc_bb, Z.sc_is, Z.sc_si, Z.sc_ni, Z.sc_in, Z.sc_ns, Z.sc_sn, Z.sc_nn, L2.CDiv, L2.CPow, L2.CMul, List.getElem?_cons_zero, List.getElem?_cons_succ, Z.set_z, Z.set_s, Option.some.injEq, L2.V.int.injEq, L2.V.bl.injEq, L2.V.str.injEq, L2.V.ref.injEq, L2.V.ty.injEq, List.cons.injEq, exists_eq_left', exists_and_left, exists_eq_left, exists_eq_right, exists_eq_right', exists_eq', exists_eq, true_and, and_true, and_assoc, decide_eq_true_eq, Int.reduceLT, and_self, Z.rIxH, Z.rIxU, Z.at30, Z.at31, Z.at32, Z.ix3_0, Z.ix3_1, Z.ix3_2, L2.rSetL, L2.gSub, Z.gTupH, L2.gCons, L2.gNil, L2.HO.lst.injEq, L2.HO.tup.injEq, L2.upd_same, L2.upd_upd, L2.tSl, L2.tNoPart, L2.tPart, L2.rSlL, L2.rCat, List.length_append, or_false, false_or, or_true, true_or, reduceCtorEq, false_and, and_false, exists_false, Int.reduceNeg, Int.reducePow, Int.reduceToNat, Int.reduceAbs, Int.reduceLE, Int.reduceMul, Int.reduceAdd, Int.reduceSub, Nat.reducePow, Nat.reduceLT, Nat.reduceLeDiff, Int.natAbs_natCast, if_true, if_false, Z.rIsN, Z.tyN, Z.kit_ii, Z.kit_bi, Z.kit_si, Z.kit_ni, Z.kit_ib, Z.kit_bb, Z.kit_sb, Z.kit_nb, Z.kit_is, Z.kit_bs, Z.kit_ss, Z.kit_ns, Bool.not_true, Bool.not_false, L2.wipe, L2.tYes, Z.Turn1, L2.tNever, sizeLine_eq, Z.rInU, Z.rInH, L2.flatV, List.any_cons, List.any_nil, List.all_cons, List.all_nil, Bool.and_true, Bool.true_and, Bool.or_false, Bool.false_or, Z.tBML, L2.rAppend, Z.map_int_inj, Z.map_bl_inj, Z.rTupL, Z.rLstL, Z.rLstT, Z.rSortI, Z.rAnyH, Z.rAllH, Z.rSumH, Z.rLenL, Z.rLenU, List.length_map, L2.tPar, StX.tStar, L2.tDNewT, L2.tDIn, L2.sDPut, L2.tDGet, Z.tCallK0, List.getD_cons_zero, List.getD_cons_succ, sp__law_of]
    refine z_seq ?_
    refine cat_odd (hp.same s1) rfl e1 k1 (by rw [l1]; decide) (ds := oddD1) (by repeat (first | exact DA.nil | refine DA.cons ?_ ?_ | exact DE.int | exact DE.str | exact DE.bl | exact DE.non | exact DE.dnew | exact DE.disp1 | exact DE.neg | exact DE.pow39 | exact DE.pow (by unfold L2.CPow; decide) | refine DE.tup ?_ (by decide) | refine DE.lst ?_ (by decide))) oddD_ok.2.1 fun v2 H2 p2 s2 hp2 e2 k2 l2 => ?_
    rw [l1] at l2
    simp only [L2.start, List.map_cons, List.map_nil, List.length_cons, List.length_nil, Nat.zero_add, Nat.reduceAdd, Nat.reduceSub, List.replicate_succ, List.replicate_zero, List.cons_append, List.nil_append, List.append_nil, L2.tNext, L2.tAsg, L2.gName, L2.tRet, L2.tRetN, L2.tIfS, L2.tVar, L2.tUn, L2.rI, L2.rI0, L2.rU, L2.rEq, L2.rNe, L2.tTest, L2.tB, L2.tIf, Z.tIfCI, Z.tIfCS, L2.tChain, L2.tCall, L2.tDrop, L2.tAndV, L2.tOrV, L2.tNotV, L2.tAnd, L2.tOr, L2.tNot, L2.tCB, Z.sc_ii, Z.sc_ss, Z.sc_bb, Z.sc_is, Z.sc_si, Z.sc_ni, Z.sc_in, Z.sc_ns, Z.sc_sn, Z.sc_nn, L2.CDiv, L2.CPow, L2.CMul, List.getElem?_cons_zero, List.getElem?_cons_succ, Z.set_z, Z.set_s, Option.some.injEq, L2.V.int.injEq, L2.V.bl.injEq, L2.V.str.injEq, L2.V.ref.injEq, L2.V.ty.injEq, List.cons.injEq, exists_eq_left', exists_and_left, exists_eq_left, exists_eq_right, exists_eq_right', exists_eq', exists_eq, true_and, and_true, and_assoc, decide_eq_true_eq, Int.reduceLT, and_self, Z.rIxH, Z.rIxU, Z.at30, Z.at31, Z.at32, Z.ix3_0, Z.ix3_1, Z.ix3_2, L2.rSetL, L2.gSub, Z.gTupH, L2.gCons, L2.gNil, L2.HO.lst.injEq, L2.HO.tup.injEq, L2.upd_same, L2.upd_upd, L2.tSl, L2.tNoPart, L2.tPart, L2.rSlL, L2.rCat, List.length_append, or_false, false_or, or_true, true_or, reduceCtorEq, false_and, and_false, exists_false, Int.reduceNeg, Int.reducePow, Int.reduceToNat, Int.reduceAbs, Int.reduceLE, Int.reduceMul, Int.reduceAdd, Int.reduceSub, Nat.reducePow, Nat.reduceLT, Nat.reduceLeDiff, Int.natAbs_natCast, if_true, if_false, Z.rIsN, Z.tyN, Z.kit_ii, Z.kit_bi, Z.kit_si, Z.kit_ni, Z.kit_ib, Z.kit_bb, Z.kit_sb, Z.kit_nb, Z.kit_is, Z.kit_bs, Z.kit_ss, Z.kit_ns, Bool.not_true, Bool.not_false, L2.wipe, L2.tYes, Z.Turn1, L2.tNever, sizeLine_eq, Z.rInU, Z.rInH, L2.flatV, List.any_cons, List.any_nil, List.all_cons, List.all_nil, Bool.and_true, Bool.true_and, Bool.or_false, Bool.false_or, Z.tBML, L2.rAppend, Z.map_int_inj, Z.map_bl_inj, Z.rTupL, Z.rLstL, Z.rLstT, Z.rSortI, Z.rAnyH, Z.rAllH, Z.rSumH, Z.rLenL, Z.rLenU, List.length_map, L2.tPar, StX.tStar, L2.tDNewT, L2.tDIn, L2.sDPut, L2.tDGet, Z.tCallK0, List.getD_cons_zero, List.getD_cons_succ, sp__law_of]
    refine z_seq ?_
    refine cat_odd ((hp.same s1).same s2) rfl e2 k2 (by rw [l2]; decide) (ds := oddD2) (by repeat (first | exact DA.nil | refine DA.cons ?_ ?_ | exact DE.int | exact DE.str | exact DE.bl | exact DE.non | exact DE.dnew | exact DE.disp1 | exact DE.neg | exact DE.pow39 | exact DE.pow (by unfold L2.CPow; decide) | refine DE.tup ?_ (by decide) | refine DE.lst ?_ (by decide))) oddD_ok.2.2.1 fun v3 H3 p3 s3 hp3 e3 k3 l3 => ?_
    rw [l2] at l3
    simp only [L2.start, List.map_cons, List.map_nil, List.length_cons, List.length_nil, Nat.zero_add, Nat.reduceAdd, Nat.reduceSub, List.replicate_succ, List.replicate_zero, List.cons_append, List.nil_append, List.append_nil, L2.tNext, L2.tAsg, L2.gName, L2.tRet, L2.tRetN, L2.tIfS, L2.tVar, L2.tUn, L2.rI, L2.rI0, L2.rU, L2.rEq, L2.rNe, L2.tTest, L2.tB, L2.tIf, Z.tIfCI, Z.tIfCS, L2.tChain, L2.tCall, L2.tDrop, L2.tAndV, L2.tOrV, L2.tNotV, L2.tAnd, L2.tOr, L2.tNot, L2.tCB, Z.sc_ii, Z.sc_ss, Z.sc_bb, Z.sc_is, Z.sc_si, Z.sc_ni, Z.sc_in, Z.sc_ns, Z.sc_sn, Z.sc_nn, L2.CDiv, L2.CPow, L2.CMul, List.getElem?_cons_zero, List.getElem?_cons_succ, Z.set_z, Z.set_s, Option.some.injEq, L2.V.int.injEq, L2.V.bl.injEq, L2.V.str.injEq, L2.V.ref.injEq, L2.V.ty.injEq, List.cons.injEq, exists_eq_left', exists_and_left, exists_eq_left, exists_eq_right, exists_eq_right', exists_eq', exists_eq, true_and, and_true, and_assoc, decide_eq_true_eq, Int.reduceLT, and_self, Z.rIxH, Z.rIxU, Z.at30, Z.at31, Z.at32, Z.ix3_0, Z.ix3_1, Z.ix3_2, L2.rSetL, L2.gSub, Z.gTupH, L2.gCons, L2.gNil, L2.HO.lst.injEq, L2.HO.tup.injEq, L2.upd_same, L2.upd_upd, L2.tSl, L2.tNoPart, L2.tPart, L2.rSlL, L2.rCat, List.length_append, or_false, false_or, or_true, true_or, reduceCtorEq, false_and, and_false, exists_false, Int.reduceNeg, Int.reducePow, Int.reduceToNat, Int.reduceAbs, Int.reduceLE, Int.reduceMul, Int.reduceAdd, Int.reduceSub, Nat.reducePow, Nat.reduceLT, Nat.reduceLeDiff, Int.natAbs_natCast, if_true, if_false, Z.rIsN, Z.tyN, Z.kit_ii, Z.kit_bi, Z.kit_si, Z.kit_ni, Z.kit_ib, Z.kit_bb, Z.kit_sb, Z.kit_nb, Z.kit_is, Z.kit_bs, Z.kit_ss, Z.kit_ns, Bool.not_true, Bool.not_false, L2.wipe, L2.tYes, Z.Turn1, L2.tNever, sizeLine_eq, Z.rInU, Z.rInH, L2.flatV, List.any_cons, List.any_nil, List.all_cons, List.all_nil, Bool.and_true, Bool.true_and, Bool.or_false, Bool.false_or, Z.tBML, L2.rAppend, Z.map_int_inj, Z.map_bl_inj, Z.rTupL, Z.rLstL, Z.rLstT, Z.rSortI, Z.rAnyH, Z.rAllH, Z.rSumH, Z.rLenL, Z.rLenU, List.length_map, L2.tPar, StX.tStar, L2.tDNewT, L2.tDIn, L2.sDPut, L2.tDGet, Z.tCallK0, List.getD_cons_zero, List.getD_cons_succ, sp__law_of]
    refine ⟨_, rfl, ?_⟩
    refine cat_odd (((hp.same s1).same s2).same s3) rfl e3 k3 (by rw [l3]; decide) (ds := oddD3) (by repeat (first | exact DA.nil | refine DA.cons ?_ ?_ | exact DE.int | exact DE.str | exact DE.bl | exact DE.non | exact DE.dnew | exact DE.disp1 | exact DE.neg | exact DE.pow39 | exact DE.pow (by unfold L2.CPow; decide) | refine DE.tup ?_ (by decide) | refine DE.lst ?_ (by decide))) oddD_ok.2.2.2 fun v4 H4 p4 s4 hp4 e4 k4 l4 => ?_
    rw [l3] at l4
    have s := ((s1.trans s2).trans s3).trans s4
    have l5 : v4.length = 38 := by rw [l4]; rfl
    refine ⟨p, p4, rfl, hp.same s, v4, e4, ?_, by omega, by omega, fun v H5 kp hv => ?_⟩
    · exact Ne.symm (ne_of_spring (((hp.same s1).same s2).same s3) hp4)
    · exact q v H5 (((Kp.refl hp).same s).trans kp) ((k4 v hv).kp kp)
/-- exceptions with these words, each with the value v under its name -/
def XsAt (mg : Str → Option Value) (v : V) (H : Hp) : List V → List (Str × Str) → Prop := Paired fun x w => ∃ a, x = .ref a ∧ IsX H a (clsA mg w.1) (some [(w.2, v)])
theorem XsAt.same {mg : Str → Option Value} {v : V} {H H' : Hp} {xs : List V} {ws : List (Str × Str)} (h : XsAt mg v H xs ws) (s : Same H H') : XsAt mg v H' xs ws := Paired.mapP h fun x w ⟨a, e, i⟩ => ⟨a, e, i.same s⟩
def XA (mg : Str → Option Value) (v : V) (ws : List (Str × Str)) (ta : TA) : Prop := ∀ (σ : L2.St) (H : Hp) (Q : List V → Hp → Prop), σ[0]? = some (some v) → (∀ xs H', Same H H' → XsAt mg v H' xs ws → Q xs H') → ta σ H Q
theorem XA.nil {mg : Str → Option Value} {v : V} : XA mg v [] tNil := fun σ H Q h0 h => h [] H (Same.refl _) .nil
theorem XA.cons {mg : Str → Option Value} {v : V} {ws : List (Str × Str)} {x f : Str} {ta : TA} (b : XA mg v ws ta) : XA mg v ((x, f) :: ws) (tCons (tX1 mg x f (tCons (tVar 0) tNil)) ta) := fun σ H Q h0 h =>
  ⟨v, h0, v, rfl, fun a d na nd ne => by
    have s : Same H (upd (upd H d (.xd [(f, v)])) a (xo a (clsA mg x) (some d))) := (same_new nd).trans (same_new (by rw [upd_ne (Ne.symm ne)]; exact na))
    refine b σ _ _ h0 fun xs H2 s2 hx => h (.ref a :: xs) H2 (s.trans s2) (.cons ⟨a, rfl, ?_⟩ hx)
    refine IsX.same ⟨d, upd_same, ?_⟩ s2
    rw [upd_ne ne, upd_same]⟩
theorem pairedApp {α β : Type} {F : α → β → Prop} : ∀ {a : List α} {b : List β} {c : List α} {d : List β}, Paired F a b → Paired F c d → Paired F (a ++ c) (b ++ d)
  | _, _, _, _, .nil, h => h
  | _, _, _, _, .cons x t, h => .cons x (pairedApp t h)
theorem lstX {mg : Str → Option Value} {v : V} {σ : L2.St} {H : Hp} {Q : VK} {ta : TA} {ws : List (Str × Str)} (h0 : σ[0]? = some (some v)) (g : XA mg v ws ta) (h : ∀ xs H1 q, Same H H1 → H q = none → H1 q = some (.lst xs) → XsAt mg v H1 xs ws → Q (.ref q) H1) (hn : ws.length ≤ 500 := by decide) : tLst ta σ H Q :=
  g σ H _ h0 fun xs H1 s1 k1 => ⟨sz1000 (by have := Paired.length k1; omega), fun q hq => h xs _ q (same_upd s1 (s1.free hq)) (s1.free hq) upd_same (k1.same (same_new hq))⟩
theorem catX {mg : Str → Option Value} {v : V} {σ : L2.St} {H : Hp} {Q : VK} {ta : TA} {us ws : List (Str × Str)} {i : Nat} {p : Addr} {xs : List V} (h0 : σ[0]? = some (some v)) (hσ : σ[i]? = some (some (.ref p))) (hp : H p = some (.lst xs)) (kx : XsAt mg v H xs us) (g : XA mg v ws ta)
    (h : ∀ ys H1 q, Same H H1 → H q = none → H1 q = some (.lst ys) → XsAt mg v H1 ys (us ++ ws) → Q (.ref q) H1) (hu : us.length ≤ 400 := by decide) (hn : ws.length ≤ 400 := by decide) : tOp rCat (tVar i) (tLst ta) σ H Q := by
  refine ⟨_, hσ, ?_⟩
  refine lstX h0 g (fun ys H1 q s1 n1 e1 k1 => ?_) (by omega)
  have l1 := Paired.length k1
  have l2 := Paired.length kx
  refine ⟨p, q, xs, ys, rfl, rfl, s1 _ _ hp, e1, sz1000 (by omega), fun r hr => ?_⟩
  exact h _ _ r (same_upd s1 (s1.free hr)) (s1.free hr) upd_same (pairedApp ((kx.same s1).same (same_new hr)) (k1.same (same_new hr)))
def twice (l : List (Str × Str)) : List (Str × Str) := l.flatMap fun w => [w, w]
def sp__law_errors (mg : Str → Option Value) : Sp := fun vs H Q _ => ∃ v, vs = [v] ∧ ∀ xs H1 q, Same H H1 → H q = none → H1 q = some (.lst xs) → XsAt mg v H1 xs (twice wf) → Q (.ref q) H1
theorem ok__law_errors (T : Env P K mg) : Hd P w K mg base CX0 3 "_law_errors" s__law_errors ["_law_thing"] (sp__law_errors mg) := by
  obtain ⟨f, fd, F, hm⟩ := T.d__law_errors
  refine ⟨⟨f, fd, F, hm, ?_⟩, fun _ _ _ _ _ _ _ us hl => match us, hl with | [_], _ => rfl⟩
  refine F.ok sc__law_errors (fun vs H Q E h => ?_) (fun cdv A outer s H vs Q E hr h => ?_)
  · first | (obtain ⟨rfl, _⟩ := h; rfl) | (obtain ⟨_, rfl, _⟩ := h; rfl) | (obtain ⟨_, _, rfl, _⟩ := h; rfl) | (obtain ⟨_, _, _, rfl, _⟩ := h; rfl) | (obtain ⟨_, _, _, _, rfl, _⟩ := h; rfl) | (obtain ⟨_, _, _, _, _, rfl, _⟩ := h; rfl) | (obtain ⟨_, _, _, _, _, _, rfl, _⟩ := h; rfl) | (obtain ⟨_, _, _, _, _, _, _, rfl, _⟩ := h; rfl) | (obtain ⟨_, _, _, _, _, _, _, _, rfl, _⟩ := h; rfl)
  · obtain ⟨v, rfl, q⟩ := h
    have hu := hu_of hr
    refine ⟨_, pss_cons (ps_set (i := 1) sc__law_errors.nd rfl (by first | exact .inl rfl | exact .inr rfl) (pe_lst (pa_cons (pe_x1 T.x_InvalidText (hr.mono (by decide)) (pa_cons (pv 0) pa_nil)) (pa_cons (pe_x1k T.x_InvalidText (hr.mono (by decide)) (pk_cons (pv 0) pk_nil)) (pa_cons (pe_x1 T.x_InvalidNumber (hr.mono (by decide)) (pa_cons (pv 0) pa_nil)) (pa_cons (pe_x1k T.x_InvalidNumber (hr.mono (by decide)) (pk_cons (pv 0) pk_nil)) pa_nil))))))
      (pss_cons (ps_set (i := 1) sc__law_errors.nd rfl (by first | exact .inl rfl | exact .inr rfl) (pe_op op_cat (pv 1) (pe_lst (pa_cons (pe_x1 T.x_InvalidKind (hr.mono (by decide)) (pa_cons (pv 0) pa_nil)) (pa_cons (pe_x1k T.x_InvalidKind (hr.mono (by decide)) (pk_cons (pv 0) pk_nil)) (pa_cons (pe_x1 T.x_InvalidParty (hr.mono (by decide)) (pa_cons (pv 0) pa_nil)) (pa_cons (pe_x1k T.x_InvalidParty (hr.mono (by decide)) (pk_cons (pv 0) pk_nil)) pa_nil)))))))
      (pss_cons (ps_set (i := 1) sc__law_errors.nd rfl (by first | exact .inl rfl | exact .inr rfl) (pe_op op_cat (pv 1) (pe_lst (pa_cons (pe_x1 T.x_InvalidName (hr.mono (by decide)) (pa_cons (pv 0) pa_nil)) (pa_cons (pe_x1k T.x_InvalidName (hr.mono (by decide)) (pk_cons (pv 0) pk_nil)) (pa_cons (pe_x1 T.x_InvalidWish (hr.mono (by decide)) (pa_cons (pv 0) pa_nil)) (pa_cons (pe_x1k T.x_InvalidWish (hr.mono (by decide)) (pk_cons (pv 0) pk_nil)) pa_nil)))))))
      (pss_cons (ps_set (i := 1) sc__law_errors.nd rfl (by first | exact .inl rfl | exact .inr rfl) (pe_op op_cat (pv 1) (pe_lst (pa_cons (pe_x1 T.x_NotABook (hr.mono (by decide)) (pa_cons (pv 0) pa_nil)) (pa_cons (pe_x1k T.x_NotABook (hr.mono (by decide)) (pk_cons (pv 0) pk_nil)) (pa_cons (pe_x1 T.x_InvalidRows (hr.mono (by decide)) (pa_cons (pv 0) pa_nil)) (pa_cons (pe_x1k T.x_InvalidRows (hr.mono (by decide)) (pk_cons (pv 0) pk_nil)) pa_nil)))))))
      (pss_cons (ps_set (i := 1) sc__law_errors.nd rfl (by first | exact .inl rfl | exact .inr rfl) (pe_op op_cat (pv 1) (pe_lst (pa_cons (pe_x1 T.x_InvalidSeats (hr.mono (by decide)) (pa_cons (pv 0) pa_nil)) (pa_cons (pe_x1k T.x_InvalidSeats (hr.mono (by decide)) (pk_cons (pv 0) pk_nil)) (pa_cons (pe_x1 T.x_InvalidExchanges (hr.mono (by decide)) (pa_cons (pv 0) pa_nil)) pa_nil))))))
      (pss_cons (ps_set (i := 1) sc__law_errors.nd rfl (by first | exact .inl rfl | exact .inr rfl) (pe_op op_cat (pv 1) (pe_lst (pa_cons (pe_x1k T.x_InvalidExchanges (hr.mono (by decide)) (pk_cons (pv 0) pk_nil)) (pa_cons (pe_x1 T.x_InvalidWishes (hr.mono (by decide)) (pa_cons (pv 0) pa_nil)) (pa_cons (pe_x1k T.x_InvalidWishes (hr.mono (by decide)) (pk_cons (pv 0) pk_nil)) pa_nil))))))
      (pss_cons (ps_set (i := 1) sc__law_errors.nd rfl (by first | exact .inl rfl | exact .inr rfl) (pe_op op_cat (pv 1) (pe_lst (pa_cons (pe_x1 T.x_UnknownName (hr.mono (by decide)) (pa_cons (pv 0) pa_nil)) (pa_cons (pe_x1k T.x_UnknownName (hr.mono (by decide)) (pk_cons (pv 0) pk_nil)) (pa_cons (pe_x1 T.x_InUse (hr.mono (by decide)) (pa_cons (pv 0) pa_nil)) (pa_cons (pe_x1k T.x_InUse (hr.mono (by decide)) (pk_cons (pv 0) pk_nil)) pa_nil)))))))
      (pss_cons (ps_set (i := 1) sc__law_errors.nd rfl (by first | exact .inl rfl | exact .inr rfl) (pe_op op_cat (pv 1) (pe_lst (pa_cons (pe_x1 T.x_NotFull (hr.mono (by decide)) (pa_cons (pv 0) pa_nil)) (pa_cons (pe_x1k T.x_NotFull (hr.mono (by decide)) (pk_cons (pv 0) pk_nil)) (pa_cons (pe_x1 T.x_TooMany (hr.mono (by decide)) (pa_cons (pv 0) pa_nil)) (pa_cons (pe_x1k T.x_TooMany (hr.mono (by decide)) (pk_cons (pv 0) pk_nil)) pa_nil)))))))
      (pss_one (ps_ret (pe_op op_cat (pv 1) (pe_lst (pa_cons (pe_x1 T.x_NoRoom (hr.mono (by decide)) (pa_cons (pv 0) pa_nil)) (pa_cons (pe_x1k T.x_NoRoom (hr.mono (by decide)) (pk_cons (pv 0) pk_nil)) pa_nil))))))))))))), ?_⟩
    refine z_seq ?_
    refine lstX (mg := mg) (ws := [("InvalidText", "given"), ("InvalidText", "given"), ("InvalidNumber", "given"), ("InvalidNumber", "given")]) rfl (by repeat (first | exact XA.nil | refine XA.cons ?_)) (fun v1 H1 p1 s1 n1 e1 k1 => ?_) (by decide)
    simp only [L2.start, List.map_cons, List.map_nil, List.length_cons, List.length_nil, Nat.zero_add, Nat.reduceAdd, Nat.reduceSub, List.replicate_succ, List.replicate_zero, List.cons_append, List.nil_append, List.append_nil, L2.tNext, L2.tAsg, L2.gName, L2.tRet, L2.tRetN, L2.tIfS, L2.tVar, L2.tUn, L2.rI, L2.rI0, L2.rU, L2.rEq, L2.rNe, L2.tTest, L2.tB, L2.tIf, Z.tIfCI, Z.tIfCS, L2.tChain, L2.tCall, L2.tDrop, L2.tAndV, L2.tOrV, L2.tNotV, L2.tAnd, L2.tOr, L2.tNot, L2.tCB, Z.sc_ii, Z.sc_ss, Z.sc_bb, Z.sc_is, Z.sc_si, Z.sc_ni, Z.sc_in, Z.sc_ns, Z.sc_sn, Z.sc_nn, L2.CDiv, L2.CPow, L2.CMul, List.getElem?_cons_zero, List.getElem?_cons_succ, Z.set_z, Z.set_s, Option.some.injEq, L2.V.int.injEq, L2.V.bl.injEq, L2.V.str.injEq, L2.V.ref.injEq, L2.V.ty.injEq, List.cons.injEq, exists_eq_left', exists_and_left, exists_eq_left, exists_eq_right, exists_eq_right', exists_eq', exists_eq, true_and, and_true, and_assoc, decide_eq_true_eq, Int.reduceLT, and_self, Z.rIxH, Z.rIxU, Z.at30, Z.at31, Z.at32, Z.ix3_0, Z.ix3_1, Z.ix3_2, L2.rSetL, L2.gSub, Z.gTupH, L2.gCons, L2.gNil, L2.HO.lst.injEq, L2.HO.tup.injEq, L2.upd_same, L2.upd_upd, L2.tSl, L2.tNoPart, L2.tPart, L2.rSlL, L2.rCat, List.length_append, or_false, false_or, or_true, true_or, reduceCtorEq, false_and, and_false, exists_false, Int.reduceNeg, Int.reducePow, Int.reduceToNat, Int.reduceAbs, Int.reduceLE, Int.reduceMul, Int.reduceAdd, Int.reduceSub, Nat.reducePow, Nat.reduceLT, Nat.reduceLeDiff, Int.natAbs_natCast, if_true, if_false, Z.rIsN, Z.tyN, Z.kit_ii, Z.kit_bi, Z.kit_si, Z.kit_ni, Z.kit_ib, Z.kit_bb, Z.kit_sb, Z.kit_nb, Z.kit_is, Z.kit_bs, Z.kit_ss, Z.kit_ns, Bool.not_true, Bool.not_false, L2.wipe, L2.tYes, Z.Turn1, L2.tNever, sizeLine_eq, Z.rInU, Z.rInH, L2.flatV, List.any_cons, List.any_nil, List.all_cons, List.all_nil, Bool.and_true, Bool.true_and, Bool.or_false, Bool.false_or, Z.tBML, L2.rAppend, Z.map_int_inj, Z.map_bl_inj, Z.rTupL, Z.rLstL, Z.rLstT, Z.rSortI, Z.rAnyH, Z.rAllH, Z.rSumH, Z.rLenL, Z.rLenU, List.length_map, L2.tPar, StX.tStar, L2.tDNewT, L2.tDIn, L2.sDPut, L2.tDGet, Z.tCallK0, List.getD_cons_zero, List.getD_cons_succ]
    refine z_seq ?_
    refine catX (mg := mg) (ws := [("InvalidKind", "given"), ("InvalidKind", "given"), ("InvalidParty", "given"), ("InvalidParty", "given")]) rfl rfl e1 k1 (by repeat (first | exact XA.nil | refine XA.cons ?_)) (fun v2 H2 p2 s2 n2 e2 k2 => ?_) (by decide) (by decide)
    replace s2 := s1.trans s2
    simp only [L2.start, List.map_cons, List.map_nil, List.length_cons, List.length_nil, Nat.zero_add, Nat.reduceAdd, Nat.reduceSub, List.replicate_succ, List.replicate_zero, List.cons_append, List.nil_append, List.append_nil, L2.tNext, L2.tAsg, L2.gName, L2.tRet, L2.tRetN, L2.tIfS, L2.tVar, L2.tUn, L2.rI, L2.rI0, L2.rU, L2.rEq, L2.rNe, L2.tTest, L2.tB, L2.tIf, Z.tIfCI, Z.tIfCS, L2.tChain, L2.tCall, L2.tDrop, L2.tAndV, L2.tOrV, L2.tNotV, L2.tAnd, L2.tOr, L2.tNot, L2.tCB, Z.sc_ii, Z.sc_ss, Z.sc_bb, Z.sc_is, Z.sc_si, Z.sc_ni, Z.sc_in, Z.sc_ns, Z.sc_sn, Z.sc_nn, L2.CDiv, L2.CPow, L2.CMul, List.getElem?_cons_zero, List.getElem?_cons_succ, Z.set_z, Z.set_s, Option.some.injEq, L2.V.int.injEq, L2.V.bl.injEq, L2.V.str.injEq, L2.V.ref.injEq, L2.V.ty.injEq, List.cons.injEq, exists_eq_left', exists_and_left, exists_eq_left, exists_eq_right, exists_eq_right', exists_eq', exists_eq, true_and, and_true, and_assoc, decide_eq_true_eq, Int.reduceLT, and_self, Z.rIxH, Z.rIxU, Z.at30, Z.at31, Z.at32, Z.ix3_0, Z.ix3_1, Z.ix3_2, L2.rSetL, L2.gSub, Z.gTupH, L2.gCons, L2.gNil, L2.HO.lst.injEq, L2.HO.tup.injEq, L2.upd_same, L2.upd_upd, L2.tSl, L2.tNoPart, L2.tPart, L2.rSlL, L2.rCat, List.length_append, or_false, false_or, or_true, true_or, reduceCtorEq, false_and, and_false, exists_false, Int.reduceNeg, Int.reducePow, Int.reduceToNat, Int.reduceAbs, Int.reduceLE, Int.reduceMul, Int.reduceAdd, Int.reduceSub, Nat.reducePow, Nat.reduceLT, Nat.reduceLeDiff, Int.natAbs_natCast, if_true, if_false, Z.rIsN, Z.tyN, Z.kit_ii, Z.kit_bi, Z.kit_si, Z.kit_ni, Z.kit_ib, Z.kit_bb, Z.kit_sb, Z.kit_nb, Z.kit_is, Z.kit_bs, Z.kit_ss, Z.kit_ns, Bool.not_true, Bool.not_false, L2.wipe, L2.tYes, Z.Turn1, L2.tNever, sizeLine_eq, Z.rInU, Z.rInH, L2.flatV, List.any_cons, List.any_nil, List.all_cons, List.all_nil, Bool.and_true, Bool.true_and, Bool.or_false, Bool.false_or, Z.tBML, L2.rAppend, Z.map_int_inj, Z.map_bl_inj, Z.rTupL, Z.rLstL, Z.rLstT, Z.rSortI, Z.rAnyH, Z.rAllH, Z.rSumH, Z.rLenL, Z.rLenU, List.length_map, L2.tPar, StX.tStar, L2.tDNewT, L2.tDIn, L2.sDPut, L2.tDGet, Z.tCallK0, List.getD_cons_zero, List.getD_cons_succ]
    refine z_seq ?_
    refine catX (mg := mg) (ws := [("InvalidName", "given"), ("InvalidName", "given"), ("InvalidWish", "given"), ("InvalidWish", "given")]) rfl rfl e2 k2 (by repeat (first | exact XA.nil | refine XA.cons ?_)) (fun v3 H3 p3 s3 n3 e3 k3 => ?_) (by decide) (by decide)
    replace s3 := s2.trans s3
    simp only [L2.start, List.map_cons, List.map_nil, List.length_cons, List.length_nil, Nat.zero_add, Nat.reduceAdd, Nat.reduceSub, List.replicate_succ, List.replicate_zero, List.cons_append, List.nil_append, List.append_nil, L2.tNext, L2.tAsg, L2.gName, L2.tRet, L2.tRetN, L2.tIfS, L2.tVar, L2.tUn, L2.rI, L2.rI0, L2.rU, L2.rEq, L2.rNe, L2.tTest, L2.tB, L2.tIf, Z.tIfCI, Z.tIfCS, L2.tChain, L2.tCall, L2.tDrop, L2.tAndV, L2.tOrV, L2.tNotV, L2.tAnd, L2.tOr, L2.tNot, L2.tCB, Z.sc_ii, Z.sc_ss, Z.sc_bb, Z.sc_is, Z.sc_si, Z.sc_ni, Z.sc_in, Z.sc_ns, Z.sc_sn, Z.sc_nn, L2.CDiv, L2.CPow, L2.CMul, List.getElem?_cons_zero, List.getElem?_cons_succ, Z.set_z, Z.set_s, Option.some.injEq, L2.V.int.injEq, L2.V.bl.injEq, L2.V.str.injEq, L2.V.ref.injEq, L2.V.ty.injEq, List.cons.injEq, exists_eq_left', exists_and_left, exists_eq_left, exists_eq_right, exists_eq_right', exists_eq', exists_eq, true_and, and_true, and_assoc, decide_eq_true_eq, Int.reduceLT, and_self, Z.rIxH, Z.rIxU, Z.at30, Z.at31, Z.at32, Z.ix3_0, Z.ix3_1, Z.ix3_2, L2.rSetL, L2.gSub, Z.gTupH, L2.gCons, L2.gNil, L2.HO.lst.injEq, L2.HO.tup.injEq, L2.upd_same, L2.upd_upd, L2.tSl, L2.tNoPart, L2.tPart, L2.rSlL, L2.rCat, List.length_append, or_false, false_or, or_true, true_or, reduceCtorEq, false_and, and_false, exists_false, Int.reduceNeg, Int.reducePow, Int.reduceToNat, Int.reduceAbs, Int.reduceLE, Int.reduceMul, Int.reduceAdd, Int.reduceSub, Nat.reducePow, Nat.reduceLT, Nat.reduceLeDiff, Int.natAbs_natCast, if_true, if_false, Z.rIsN, Z.tyN, Z.kit_ii, Z.kit_bi, Z.kit_si, Z.kit_ni, Z.kit_ib, Z.kit_bb, Z.kit_sb, Z.kit_nb, Z.kit_is, Z.kit_bs, Z.kit_ss, Z.kit_ns, Bool.not_true, Bool.not_false, L2.wipe, L2.tYes, Z.Turn1, L2.tNever, sizeLine_eq, Z.rInU, Z.rInH, L2.flatV, List.any_cons, List.any_nil, List.all_cons, List.all_nil, Bool.and_true, Bool.true_and, Bool.or_false, Bool.false_or, Z.tBML, L2.rAppend, Z.map_int_inj, Z.map_bl_inj, Z.rTupL, Z.rLstL, Z.rLstT, Z.rSortI, Z.rAnyH, Z.rAllH, Z.rSumH, Z.rLenL, Z.rLenU, List.length_map, L2.tPar, StX.tStar, L2.tDNewT, L2.tDIn, L2.sDPut, L2.tDGet, Z.tCallK0, List.getD_cons_zero, List.getD_cons_succ]
    refine z_seq ?_
    refine catX (mg := mg) (ws := [("NotABook", "given"), ("NotABook", "given"), ("InvalidRows", "index"), ("InvalidRows", "index")]) rfl rfl e3 k3 (by repeat (first | exact XA.nil | refine XA.cons ?_)) (fun v4 H4 p4 s4 n4 e4 k4 => ?_) (by decide) (by decide)
    replace s4 := s3.trans s4
    simp only [L2.start, List.map_cons, List.map_nil, List.length_cons, List.length_nil, Nat.zero_add, Nat.reduceAdd, Nat.reduceSub, List.replicate_succ, List.replicate_zero, List.cons_append, List.nil_append, List.append_nil, L2.tNext, L2.tAsg, L2.gName, L2.tRet, L2.tRetN, L2.tIfS, L2.tVar, L2.tUn, L2.rI, L2.rI0, L2.rU, L2.rEq, L2.rNe, L2.tTest, L2.tB, L2.tIf, Z.tIfCI, Z.tIfCS, L2.tChain, L2.tCall, L2.tDrop, L2.tAndV, L2.tOrV, L2.tNotV, L2.tAnd, L2.tOr, L2.tNot, L2.tCB, Z.sc_ii, Z.sc_ss, Z.sc_bb, Z.sc_is, Z.sc_si, Z.sc_ni, Z.sc_in, Z.sc_ns, Z.sc_sn, Z.sc_nn, L2.CDiv, L2.CPow, L2.CMul, List.getElem?_cons_zero, List.getElem?_cons_succ, Z.set_z, Z.set_s, Option.some.injEq, L2.V.int.injEq, L2.V.bl.injEq, L2.V.str.injEq, L2.V.ref.injEq, L2.V.ty.injEq, List.cons.injEq, exists_eq_left', exists_and_left, exists_eq_left, exists_eq_right, exists_eq_right', exists_eq', exists_eq, true_and, and_true, and_assoc, decide_eq_true_eq, Int.reduceLT, and_self, Z.rIxH, Z.rIxU, Z.at30, Z.at31, Z.at32, Z.ix3_0, Z.ix3_1, Z.ix3_2, L2.rSetL, L2.gSub, Z.gTupH, L2.gCons, L2.gNil, L2.HO.lst.injEq, L2.HO.tup.injEq, L2.upd_same, L2.upd_upd, L2.tSl, L2.tNoPart, L2.tPart, L2.rSlL, L2.rCat, List.length_append, or_false, false_or, or_true, true_or, reduceCtorEq, false_and, and_false, exists_false, Int.reduceNeg, Int.reducePow, Int.reduceToNat, Int.reduceAbs, Int.reduceLE, Int.reduceMul, Int.reduceAdd, Int.reduceSub, Nat.reducePow, Nat.reduceLT, Nat.reduceLeDiff, Int.natAbs_natCast, if_true, if_false, Z.rIsN, Z.tyN, Z.kit_ii, Z.kit_bi, Z.kit_si, Z.kit_ni, Z.kit_ib, Z.kit_bb, Z.kit_sb, Z.kit_nb, Z.kit_is, Z.kit_bs, Z.kit_ss, Z.kit_ns, Bool.not_true, Bool.not_false, L2.wipe, L2.tYes, Z.Turn1, L2.tNever, sizeLine_eq, Z.rInU, Z.rInH, L2.flatV, List.any_cons, List.any_nil, List.all_cons, List.all_nil, Bool.and_true, Bool.true_and, Bool.or_false, Bool.false_or, Z.tBML, L2.rAppend, Z.map_int_inj, Z.map_bl_inj, Z.rTupL, Z.rLstL, Z.rLstT, Z.rSortI, Z.rAnyH, Z.rAllH, Z.rSumH, Z.rLenL, Z.rLenU, List.length_map, L2.tPar, StX.tStar, L2.tDNewT, L2.tDIn, L2.sDPut, L2.tDGet, Z.tCallK0, List.getD_cons_zero, List.getD_cons_succ]
    refine z_seq ?_
    refine catX (mg := mg) (ws := [("InvalidSeats", "index"), ("InvalidSeats", "index"), ("InvalidExchanges", "index")]) rfl rfl e4 k4 (by repeat (first | exact XA.nil | refine XA.cons ?_)) (fun v5 H5 p5 s5 n5 e5 k5 => ?_) (by decide) (by decide)
    replace s5 := s4.trans s5
    simp only [L2.start, List.map_cons, List.map_nil, List.length_cons, List.length_nil, Nat.zero_add, Nat.reduceAdd, Nat.reduceSub, List.replicate_succ, List.replicate_zero, List.cons_append, List.nil_append, List.append_nil, L2.tNext, L2.tAsg, L2.gName, L2.tRet, L2.tRetN, L2.tIfS, L2.tVar, L2.tUn, L2.rI, L2.rI0, L2.rU, L2.rEq, L2.rNe, L2.tTest, L2.tB, L2.tIf, Z.tIfCI, Z.tIfCS, L2.tChain, L2.tCall, L2.tDrop, L2.tAndV, L2.tOrV, L2.tNotV, L2.tAnd, L2.tOr, L2.tNot, L2.tCB, Z.sc_ii, Z.sc_ss, Z.sc_bb, Z.sc_is, Z.sc_si, Z.sc_ni, Z.sc_in, Z.sc_ns, Z.sc_sn, Z.sc_nn, L2.CDiv, L2.CPow, L2.CMul, List.getElem?_cons_zero, List.getElem?_cons_succ, Z.set_z, Z.set_s, Option.some.injEq, L2.V.int.injEq, L2.V.bl.injEq, L2.V.str.injEq, L2.V.ref.injEq, L2.V.ty.injEq, List.cons.injEq, exists_eq_left', exists_and_left, exists_eq_left, exists_eq_right, exists_eq_right', exists_eq', exists_eq, true_and, and_true, and_assoc, decide_eq_true_eq, Int.reduceLT, and_self, Z.rIxH, Z.rIxU, Z.at30, Z.at31, Z.at32, Z.ix3_0, Z.ix3_1, Z.ix3_2, L2.rSetL, L2.gSub, Z.gTupH, L2.gCons, L2.gNil, L2.HO.lst.injEq, L2.HO.tup.injEq, L2.upd_same, L2.upd_upd, L2.tSl, L2.tNoPart, L2.tPart, L2.rSlL, L2.rCat, List.length_append, or_false, false_or, or_true, true_or, reduceCtorEq, false_and, and_false, exists_false, Int.reduceNeg, Int.reducePow, Int.reduceToNat, Int.reduceAbs, Int.reduceLE, Int.reduceMul, Int.reduceAdd, Int.reduceSub, Nat.reducePow, Nat.reduceLT, Nat.reduceLeDiff, Int.natAbs_natCast, if_true, if_false, Z.rIsN, Z.tyN, Z.kit_ii, Z.kit_bi, Z.kit_si, Z.kit_ni, Z.kit_ib, Z.kit_bb, Z.kit_sb, Z.kit_nb, Z.kit_is, Z.kit_bs, Z.kit_ss, Z.kit_ns, Bool.not_true, Bool.not_false, L2.wipe, L2.tYes, Z.Turn1, L2.tNever, sizeLine_eq, Z.rInU, Z.rInH, L2.flatV, List.any_cons, List.any_nil, List.all_cons, List.all_nil, Bool.and_true, Bool.true_and, Bool.or_false, Bool.false_or, Z.tBML, L2.rAppend, Z.map_int_inj, Z.map_bl_inj, Z.rTupL, Z.rLstL, Z.rLstT, Z.rSortI, Z.rAnyH, Z.rAllH, Z.rSumH, Z.rLenL, Z.rLenU, List.length_map, L2.tPar, StX.tStar, L2.tDNewT, L2.tDIn, L2.sDPut, L2.tDGet, Z.tCallK0, List.getD_cons_zero, List.getD_cons_succ]
    refine z_seq ?_
    refine catX (mg := mg) (ws := [("InvalidExchanges", "index"), ("InvalidWishes", "index"), ("InvalidWishes", "index")]) rfl rfl e5 k5 (by repeat (first | exact XA.nil | refine XA.cons ?_)) (fun v6 H6 p6 s6 n6 e6 k6 => ?_) (by decide) (by decide)
    replace s6 := s5.trans s6
    simp only [L2.start, List.map_cons, List.map_nil, List.length_cons, List.length_nil, Nat.zero_add, Nat.reduceAdd, Nat.reduceSub, List.replicate_succ, List.replicate_zero, List.cons_append, List.nil_append, List.append_nil, L2.tNext, L2.tAsg, L2.gName, L2.tRet, L2.tRetN, L2.tIfS, L2.tVar, L2.tUn, L2.rI, L2.rI0, L2.rU, L2.rEq, L2.rNe, L2.tTest, L2.tB, L2.tIf, Z.tIfCI, Z.tIfCS, L2.tChain, L2.tCall, L2.tDrop, L2.tAndV, L2.tOrV, L2.tNotV, L2.tAnd, L2.tOr, L2.tNot, L2.tCB, Z.sc_ii, Z.sc_ss, Z.sc_bb, Z.sc_is, Z.sc_si, Z.sc_ni, Z.sc_in, Z.sc_ns, Z.sc_sn, Z.sc_nn, L2.CDiv, L2.CPow, L2.CMul, List.getElem?_cons_zero, List.getElem?_cons_succ, Z.set_z, Z.set_s, Option.some.injEq, L2.V.int.injEq, L2.V.bl.injEq, L2.V.str.injEq, L2.V.ref.injEq, L2.V.ty.injEq, List.cons.injEq, exists_eq_left', exists_and_left, exists_eq_left, exists_eq_right, exists_eq_right', exists_eq', exists_eq, true_and, and_true, and_assoc, decide_eq_true_eq, Int.reduceLT, and_self, Z.rIxH, Z.rIxU, Z.at30, Z.at31, Z.at32, Z.ix3_0, Z.ix3_1, Z.ix3_2, L2.rSetL, L2.gSub, Z.gTupH, L2.gCons, L2.gNil, L2.HO.lst.injEq, L2.HO.tup.injEq, L2.upd_same, L2.upd_upd, L2.tSl, L2.tNoPart, L2.tPart, L2.rSlL, L2.rCat, List.length_append, or_false, false_or, or_true, true_or, reduceCtorEq, false_and, and_false, exists_false, Int.reduceNeg, Int.reducePow, Int.reduceToNat, Int.reduceAbs, Int.reduceLE, Int.reduceMul, Int.reduceAdd, Int.reduceSub, Nat.reducePow, Nat.reduceLT, Nat.reduceLeDiff, Int.natAbs_natCast, if_true, if_false, Z.rIsN, Z.tyN, Z.kit_ii, Z.kit_bi, Z.kit_si, Z.kit_ni, Z.kit_ib, Z.kit_bb, Z.kit_sb, Z.kit_nb, Z.kit_is, Z.kit_bs, Z.kit_ss, Z.kit_ns, Bool.not_true, Bool.not_false, L2.wipe, L2.tYes, Z.Turn1, L2.tNever, sizeLine_eq, Z.rInU, Z.rInH, L2.flatV, List.any_cons, List.any_nil, List.all_cons, List.all_nil, Bool.and_true, Bool.true_and, Bool.or_false, Bool.false_or, Z.tBML, L2.rAppend, Z.map_int_inj, Z.map_bl_inj, Z.rTupL, Z.rLstL, Z.rLstT, Z.rSortI, Z.rAnyH, Z.rAllH, Z.rSumH, Z.rLenL, Z.rLenU, List.length_map, L2.tPar, StX.tStar, L2.tDNewT, L2.tDIn, L2.sDPut, L2.tDGet, Z.tCallK0, List.getD_cons_zero, List.getD_cons_succ]
    refine z_seq ?_
    refine catX (mg := mg) (ws := [("UnknownName", "given"), ("UnknownName", "given"), ("InUse", "index"), ("InUse", "index")]) rfl rfl e6 k6 (by repeat (first | exact XA.nil | refine XA.cons ?_)) (fun v7 H7 p7 s7 n7 e7 k7 => ?_) (by decide) (by decide)
    replace s7 := s6.trans s7
    simp only [L2.start, List.map_cons, List.map_nil, List.length_cons, List.length_nil, Nat.zero_add, Nat.reduceAdd, Nat.reduceSub, List.replicate_succ, List.replicate_zero, List.cons_append, List.nil_append, List.append_nil, L2.tNext, L2.tAsg, L2.gName, L2.tRet, L2.tRetN, L2.tIfS, L2.tVar, L2.tUn, L2.rI, L2.rI0, L2.rU, L2.rEq, L2.rNe, L2.tTest, L2.tB, L2.tIf, Z.tIfCI, Z.tIfCS, L2.tChain, L2.tCall, L2.tDrop, L2.tAndV, L2.tOrV, L2.tNotV, L2.tAnd, L2.tOr, L2.tNot, L2.tCB, Z.sc_ii, Z.sc_ss, Z.sc_bb, Z.sc_is, Z.sc_si, Z.sc_ni, Z.sc_in, Z.sc_ns, Z.sc_sn, Z.sc_nn, L2.CDiv, L2.CPow, L2.CMul, List.getElem?_cons_zero, List.getElem?_cons_succ, Z.set_z, Z.set_s, Option.some.injEq, L2.V.int.injEq, L2.V.bl.injEq, L2.V.str.injEq, L2.V.ref.injEq, L2.V.ty.injEq, List.cons.injEq, exists_eq_left', exists_and_left, exists_eq_left, exists_eq_right, exists_eq_right', exists_eq', exists_eq, true_and, and_true, and_assoc, decide_eq_true_eq, Int.reduceLT, and_self, Z.rIxH, Z.rIxU, Z.at30, Z.at31, Z.at32, Z.ix3_0, Z.ix3_1, Z.ix3_2, L2.rSetL, L2.gSub, Z.gTupH, L2.gCons, L2.gNil, L2.HO.lst.injEq, L2.HO.tup.injEq, L2.upd_same, L2.upd_upd, L2.tSl, L2.tNoPart, L2.tPart, L2.rSlL, L2.rCat, List.length_append, or_false, false_or, or_true, true_or, reduceCtorEq, false_and, and_false, exists_false, Int.reduceNeg, Int.reducePow, Int.reduceToNat, Int.reduceAbs, Int.reduceLE, Int.reduceMul, Int.reduceAdd, Int.reduceSub, Nat.reducePow, Nat.reduceLT, Nat.reduceLeDiff, Int.natAbs_natCast, if_true, if_false, Z.rIsN, Z.tyN, Z.kit_ii, Z.kit_bi, Z.kit_si, Z.kit_ni, Z.kit_ib, Z.kit_bb, Z.kit_sb, Z.kit_nb, Z.kit_is, Z.kit_bs, Z.kit_ss, Z.kit_ns, Bool.not_true, Bool.not_false, L2.wipe, L2.tYes, Z.Turn1, L2.tNever, sizeLine_eq, Z.rInU, Z.rInH, L2.flatV, List.any_cons, List.any_nil, List.all_cons, List.all_nil, Bool.and_true, Bool.true_and, Bool.or_false, Bool.false_or, Z.tBML, L2.rAppend, Z.map_int_inj, Z.map_bl_inj, Z.rTupL, Z.rLstL, Z.rLstT, Z.rSortI, Z.rAnyH, Z.rAllH, Z.rSumH, Z.rLenL, Z.rLenU, List.length_map, L2.tPar, StX.tStar, L2.tDNewT, L2.tDIn, L2.sDPut, L2.tDGet, Z.tCallK0, List.getD_cons_zero, List.getD_cons_succ]
    refine z_seq ?_
    refine catX (mg := mg) (ws := [("NotFull", "given"), ("NotFull", "given"), ("TooMany", "given"), ("TooMany", "given")]) rfl rfl e7 k7 (by repeat (first | exact XA.nil | refine XA.cons ?_)) (fun v8 H8 p8 s8 n8 e8 k8 => ?_) (by decide) (by decide)
    replace s8 := s7.trans s8
    simp only [L2.start, List.map_cons, List.map_nil, List.length_cons, List.length_nil, Nat.zero_add, Nat.reduceAdd, Nat.reduceSub, List.replicate_succ, List.replicate_zero, List.cons_append, List.nil_append, List.append_nil, L2.tNext, L2.tAsg, L2.gName, L2.tRet, L2.tRetN, L2.tIfS, L2.tVar, L2.tUn, L2.rI, L2.rI0, L2.rU, L2.rEq, L2.rNe, L2.tTest, L2.tB, L2.tIf, Z.tIfCI, Z.tIfCS, L2.tChain, L2.tCall, L2.tDrop, L2.tAndV, L2.tOrV, L2.tNotV, L2.tAnd, L2.tOr, L2.tNot, L2.tCB, Z.sc_ii, Z.sc_ss, Z.sc_bb, Z.sc_is, Z.sc_si, Z.sc_ni, Z.sc_in, Z.sc_ns, Z.sc_sn, Z.sc_nn, L2.CDiv, L2.CPow, L2.CMul, List.getElem?_cons_zero, List.getElem?_cons_succ, Z.set_z, Z.set_s, Option.some.injEq, L2.V.int.injEq, L2.V.bl.injEq, L2.V.str.injEq, L2.V.ref.injEq, L2.V.ty.injEq, List.cons.injEq, exists_eq_left', exists_and_left, exists_eq_left, exists_eq_right, exists_eq_right', exists_eq', exists_eq, true_and, and_true, and_assoc, decide_eq_true_eq, Int.reduceLT, and_self, Z.rIxH, Z.rIxU, Z.at30, Z.at31, Z.at32, Z.ix3_0, Z.ix3_1, Z.ix3_2, L2.rSetL, L2.gSub, Z.gTupH, L2.gCons, L2.gNil, L2.HO.lst.injEq, L2.HO.tup.injEq, L2.upd_same, L2.upd_upd, L2.tSl, L2.tNoPart, L2.tPart, L2.rSlL, L2.rCat, List.length_append, or_false, false_or, or_true, true_or, reduceCtorEq, false_and, and_false, exists_false, Int.reduceNeg, Int.reducePow, Int.reduceToNat, Int.reduceAbs, Int.reduceLE, Int.reduceMul, Int.reduceAdd, Int.reduceSub, Nat.reducePow, Nat.reduceLT, Nat.reduceLeDiff, Int.natAbs_natCast, if_true, if_false, Z.rIsN, Z.tyN, Z.kit_ii, Z.kit_bi, Z.kit_si, Z.kit_ni, Z.kit_ib, Z.kit_bb, Z.kit_sb, Z.kit_nb, Z.kit_is, Z.kit_bs, Z.kit_ss, Z.kit_ns, Bool.not_true, Bool.not_false, L2.wipe, L2.tYes, Z.Turn1, L2.tNever, sizeLine_eq, Z.rInU, Z.rInH, L2.flatV, List.any_cons, List.any_nil, List.all_cons, List.all_nil, Bool.and_true, Bool.true_and, Bool.or_false, Bool.false_or, Z.tBML, L2.rAppend, Z.map_int_inj, Z.map_bl_inj, Z.rTupL, Z.rLstL, Z.rLstT, Z.rSortI, Z.rAnyH, Z.rAllH, Z.rSumH, Z.rLenL, Z.rLenU, List.length_map, L2.tPar, StX.tStar, L2.tDNewT, L2.tDIn, L2.sDPut, L2.tDGet, Z.tCallK0, List.getD_cons_zero, List.getD_cons_succ]
    refine catX (mg := mg) (ws := [("NoRoom", "shown"), ("NoRoom", "shown")]) rfl rfl e8 k8 (by repeat (first | exact XA.nil | refine XA.cons ?_)) (fun v9 H9 p9 s9 n9 e9 k9 => ?_) (by decide) (by decide)
    exact q v9 H9 p9 (s8.trans s9) (s8.free n9) e9 k9
theorem tw_at : ∀ i, i < 32 → (twice wf)[i]? = wf[i / 2]? ∧ (wf[i / 2]?).map (·.1) = errN[i / 2]? := by decide +kernel
theorem pairedAt {α β : Type} {F : α → β → Prop} : ∀ {a : List α} {b : List β}, Paired F a b → ∀ {i : Nat}, i < a.length → ∃ x y, a[i]? = some x ∧ b[i]? = some y ∧ F x y
  | _, _, .nil, _, h => absurd h (Nat.not_lt_zero _)
  | _, _, .cons x t, 0, _ => ⟨_, _, rfl, rfl, x⟩
  | _, _, .cons x t, i + 1, h => by
    obtain ⟨x, y, h1, h2, h3⟩ := pairedAt t (i := i) (Nat.lt_of_succ_lt_succ h)
    exact ⟨x, y, by simpa using h1, by simpa using h2, h3⟩
theorem x_made {H : Hp} {a d C : Addr} {fs : List (Str × V)} (na : H a = none) (nd : H d = none) (ne : d ≠ a) : Same H (upd (upd H d (.xd fs)) a (xo a C (some d))) ∧ IsX (upd (upd H d (.xd fs)) a (xo a C (some d))) a C (some fs) :=
  ⟨(same_new nd).trans (same_new (by rw [upd_ne (Ne.symm ne)]; exact na)), d, upd_same, by rw [upd_ne ne, upd_same]⟩
theorem two_broken {mg : Str → Option Value} {v v2 : V} {σ : L2.St} {H : Hp} {Q : VK} (h1 : σ[1]? = some (some v)) (h2 : σ[2]? = some (some v2))
    (h : ∀ a b q H', Same H H' → H q = none → H' q = some (.lst [.ref a, .ref b]) → IsX H' a (clsA mg "Broken") (some [("index", v), ("shown", v2)]) → IsX H' b (clsA mg "Broken") (some [("index", v), ("shown", v2)]) → Q (.ref q) H') :
    tLst (tCons (tX2 mg "Broken" (tCons (tVar 1) (tCons (tVar 2) tNil))) (tCons (tX2k mg "Broken" (tCons (tVar 2) (tCons (tVar 1) tNil))) tNil)) σ H Q := by
  refine ⟨_, h1, _, h2, v, v2, rfl, fun a da na nda ne => ?_⟩
  obtain ⟨sa, xa⟩ := x_made (C := clsA mg "Broken") (fs := [("index", v), ("shown", v2)]) na nda ne
  refine ⟨_, h2, _, h1, v, v2, rfl, fun b db nb ndb ne2 => ?_⟩
  obtain ⟨sb, xb⟩ := x_made (C := clsA mg "Broken") (fs := [("index", v), ("shown", v2)]) nb ndb ne2
  refine ⟨sz1000 (by simp), fun q hq => ?_⟩
  exact h a b q _ ((sa.trans sb).trans (same_new hq)) (sa.free (sb.free hq)) upd_same ((xa.same sb).same (same_new hq)) (xb.same (same_new hq))
theorem hid_new2 {L : Addr} {H : Hp} (h : H L = none) : Same H (hid L H) := fun b o e => by
  rw [hid_ne (ne_of_none e h)]
  exact e
theorem two_ok {d d2 : PyData} (h : OkD d) (h2 : OkD d2) : (PyData.list [.list [d, d2], .list [d, d2]]).showable = true ∧ (PyData.list [.list [d, d2], .list [d, d2]]).shown.length ≤ sizeLine ∧ (PyData.list [.list [d, d2], .list [d, d2]]).depth ≤ 60 := by
  obtain ⟨a1, a2, a3⟩ := h
  obtain ⟨b1, b2, b3⟩ := h2
  refine ⟨?_, ?_, ?_⟩
  · simp only [PyData.showable, PyData.showableAll, a1, b1, Bool.and_self]
  · have z := listText_le (PyData.shownAll [.list [d, d2], .list [d, d2]])
    have y := listText_le (PyData.shownAll [d, d2])
    simp only [PyData.shownAll, piled_cons, PyData.shown] at z y ⊢
    rw [sizeLine_eq]
    have e : piled [] = 0 := rfl
    omega
  · simp only [PyData.depth, PyData.depthAll]
    omega
def sp__law_right : Sp := fun vs H Q _ => ∃ (p : Addr), vs = [.ref p] ∧ Spring H p ∧ ∀ H', Kp p H H' → Q (.bl true) H'
theorem ok__law_right (T : Env P K mg) : HdG P w K mg base CX0 4 "_law_right" s__law_right ["_law_spring_here"] sp__law_right := by
  have H__law_error := ok__law_error (P := P) (w := w) (base := base) T
  have H__law_field := ok__law_field (P := P) (w := w) (base := base) T
  have H__law_errors := ok__law_errors (P := P) (w := w) (base := base) T
  have H__law_odd := ok__law_odd (P := P) (w := w) (base := base) T
  obtain ⟨f, fd, F, hm⟩ := T.d__law_right
  refine ⟨⟨f, fd, F, hm, ?_⟩, fun _ _ _ _ _ _ _ us hl => match us, hl with | [_], _ => rfl⟩
  refine fun_okG F sc__law_right (fun vs H Q E h => ?_) (fun cdv A outer s H vs Q E hr gd h => ?_)
  · first | (obtain ⟨rfl, _⟩ := h; rfl) | (obtain ⟨_, rfl, _⟩ := h; rfl) | (obtain ⟨_, _, rfl, _⟩ := h; rfl) | (obtain ⟨_, _, _, rfl, _⟩ := h; rfl) | (obtain ⟨_, _, _, _, rfl, _⟩ := h; rfl) | (obtain ⟨_, _, _, _, _, rfl, _⟩ := h; rfl) | (obtain ⟨_, _, _, _, _, _, rfl, _⟩ := h; rfl) | (obtain ⟨_, _, _, _, _, _, _, rfl, _⟩ := h; rfl) | (obtain ⟨_, _, _, _, _, _, _, _, rfl, _⟩ := h; rfl)
  · obtain ⟨p, rfl, hp, q⟩ := h
    have hu := hu_of hr
    refine ⟨_, pss_cons (ps_par (i := 1) (j := 2) rfl sc__law_right.nd rfl rfl (by decide) rfl rfl (pa_cons (pe_hd H__law_odd (hr.mono (by decide)) rfl pass0 (pa_cons (pv 0) pa_nil)) (pa_cons (pe_hd H__law_odd (hr.mono (by decide)) rfl pass0 (pa_cons (pv 0) pa_nil)) pa_nil)) (by rfl))
      (pss_cons (ps_set (i := 3) sc__law_right.nd rfl (by first | exact .inl rfl | exact .inr rfl) (pe_lst (pa_cons pe_str (pa_cons pe_str (pa_cons pe_str (pa_cons pe_str (pa_cons pe_str (pa_cons pe_str pa_nil))))))))
      (pss_cons (ps_set (i := 3) sc__law_right.nd rfl (by first | exact .inl rfl | exact .inr rfl) (pe_op op_cat (pv 3) (pe_lst (pa_cons pe_str (pa_cons pe_str (pa_cons pe_str (pa_cons pe_str (pa_cons pe_str pa_nil))))))))
      (pss_cons (ps_set (i := 3) sc__law_right.nd rfl (by first | exact .inl rfl | exact .inr rfl) (pe_op op_cat (pv 3) (pe_lst (pa_cons pe_str (pa_cons pe_str (pa_cons pe_str (pa_cons pe_str (pa_cons pe_str pa_nil))))))))
      (pss_cons (ps_set (i := 4) sc__law_right.nd rfl (by first | exact .inl rfl | exact .inr rfl) (pe_hd H__law_errors (hr.mono (by decide)) rfl pass0 (pa_cons (pv 1) pa_nil)))
      (pss_cons (ps_for PassesOwn.never rfl (pi_range1 rfl T.b_range (pa_cons (pe_callB call_lenL rfl T.b_len (by decide +kernel) (pa_cons (pv 4) pa_nil)) pa_nil)) (pg_name (i := 5) sc__law_right.nd rfl (by first | exact .inl rfl | exact .inr rfl))
      (pss_cons (ps_set (i := 6) sc__law_right.nd rfl (by first | exact .inl rfl | exact .inr rfl) (pe_hd H__law_error (hr.mono (by decide)) rfl pass0 (pa_cons (pe_ix ix_listH (pv 4) (pv 5) (fun _ _ => rfl)) pa_nil)))
      (pss_one (ps_if (PW.pt (pw_or (pt_cmpR op_ne (pv 6) (pe_ix ix_listH (pv 3) (pe_op op_fdiv (pv 5) pe_int) (fun _ _ => rfl)) (nomark _)) (pw_or1 (pt_cmpR op_ne (pe_callB (call_reprX hr.units gd) rfl T.b_repr (by decide +kernel) (pa_cons (pe_hd H__law_field (hr.mono (by decide)) rfl pass0 (pa_cons (pe_ix ix_listH (pv 4) (pv 5) (fun _ _ => rfl)) (pa_cons (pv 6) pa_nil))) pa_nil)) (pe_callB (call_reprX hr.units gd) rfl T.b_repr (by decide +kernel) (pa_cons (pv 1) pa_nil)) (nomark _))))) (pss_one (ps_ret pe_bl))
      (pss_nil)))))
      (pss_cons (ps_set (i := 7) sc__law_right.nd rfl (by first | exact .inl rfl | exact .inr rfl) (pe_lst (pa_cons (pe_x2 T.x_Broken (hr.mono (by decide)) (pa_cons (pv 1) (pa_cons (pv 2) pa_nil))) (pa_cons (pe_x2k T.x_Broken (hr.mono (by decide)) (pk_cons (pv 2) (pk_cons (pv 1) pk_nil))) pa_nil))))
      (pss_cons (ps_if (pt_cmpR (op_neD hr.units) (pe_lc (own := [("_law_each", 8)]) (g := (gName 8)) (tt := tYes) rfl sc__law_right.nd (pi_list (pv 7)) (blkOk_by (own := [("_law_each", 8)]) (N := N__law_right) (sc := defScope s__law_right) (by decide +kernel)) (fun _ _ _ _ _ => pg_name (i := 8) sc__law_right.nd rfl (by first | exact .inl rfl | exact .inr rfl)) (fun _ _ _ _ _ => pts_nil) (fun _ _ _ _ _ => (pe_hd H__law_error (hr.mono (by decide)) rfl pass0 (pa_cons (pv 8) pa_nil)))) (pe_lst (pa_cons pe_str (pa_cons pe_str pa_nil))) (nomark _)) (pss_one (ps_ret pe_bl))
      (pss_nil))
      (pss_cons (ps_if (pt_cmpR op_ne (pe_callB (call_reprX hr.units gd) rfl T.b_repr (by decide +kernel) (pa_cons (pe_lc (own := [("_law_each", 8)]) (g := (gName 8)) (tt := tYes) rfl sc__law_right.nd (pi_list (pv 7)) (blkOk_by (own := [("_law_each", 8)]) (N := N__law_right) (sc := defScope s__law_right) (by decide +kernel)) (fun _ _ _ _ _ => pg_name (i := 8) sc__law_right.nd rfl (by first | exact .inl rfl | exact .inr rfl)) (fun _ _ _ _ _ => pts_nil) (fun _ _ _ _ _ => (pe_hd H__law_field (hr.mono (by decide)) rfl pass0 (pa_cons (pv 8) (pa_cons pe_str pa_nil))))) pa_nil)) (pe_callB (call_reprX hr.units gd) rfl T.b_repr (by decide +kernel) (pa_cons (pe_lst (pa_cons (pe_lst (pa_cons (pv 1) (pa_cons (pv 2) pa_nil))) (pa_cons (pe_lst (pa_cons (pv 1) (pa_cons (pv 2) pa_nil))) pa_nil))) pa_nil)) (nomark _)) (pss_one (ps_ret pe_bl))
      (pss_nil))
      (pss_one (ps_ret (pe_cmpR op_eq (pe_hd H__law_error (hr.mono (by decide)) rfl pass0 (pa_cons (pe_x0 T.x_NothingToUndo) pa_nil)) pe_str (nomark _)))))))))))), ?_⟩
    refine z_seq ?_
    simp only [L2.start, List.map_cons, List.map_nil, List.length_cons, List.length_nil, Nat.zero_add, Nat.reduceAdd, Nat.reduceSub, List.replicate_succ, List.replicate_zero, List.cons_append, List.nil_append, List.append_nil, L2.tNext, L2.tAsg, L2.gName, L2.tRet, L2.tRetN, L2.tIfS, L2.tVar, L2.tC, L2.tOp, L2.tUn, L2.rI, L2.rI0, L2.rU, L2.rEq, L2.rNe, L2.tTest, L2.tB, L2.tIf, Z.tIfCI, Z.tIfCS, L2.tChain, L2.tCons, L2.tNil, L2.tCall, L2.tDrop, L2.tAndV, L2.tOrV, L2.tNotV, L2.tAnd, L2.tOr, L2.tNot, L2.tCB, Z.sc_ii, Z.sc_ss, Z.sc_bb, Z.sc_is, Z.sc_si, Z.sc_ni, Z.sc_in, Z.sc_ns, Z.sc_sn, Z.sc_nn, L2.CDiv, L2.CPow, L2.CMul, List.getElem?_cons_zero, List.getElem?_cons_succ, Z.set_z, Z.set_s, Option.some.injEq, L2.V.int.injEq, L2.V.bl.injEq, L2.V.str.injEq, L2.V.ref.injEq, L2.V.ty.injEq, List.cons.injEq, exists_eq_left', exists_and_left, exists_eq_left, exists_eq_right, exists_eq_right', exists_eq', exists_eq, true_and, and_true, and_assoc, decide_eq_true_eq, Int.reduceLT, and_self, Z.rIxH, Z.rIxU, Z.at30, Z.at31, Z.at32, Z.ix3_0, Z.ix3_1, Z.ix3_2, L2.rSetL, L2.gSub, Z.gTupH, L2.gCons, L2.gNil, L2.HO.lst.injEq, L2.HO.tup.injEq, L2.upd_same, L2.upd_upd, L2.tSl, L2.tNoPart, L2.tPart, L2.rSlL, L2.rCat, List.length_append, or_false, false_or, or_true, true_or, reduceCtorEq, false_and, and_false, exists_false, Int.reduceNeg, Int.reducePow, Int.reduceToNat, Int.reduceAbs, Int.reduceLE, Int.reduceMul, Int.reduceAdd, Int.reduceSub, Nat.reducePow, Nat.reduceLT, Nat.reduceLeDiff, Int.natAbs_natCast, if_true, if_false, Z.rIsN, Z.tyN, Z.kit_ii, Z.kit_bi, Z.kit_si, Z.kit_ni, Z.kit_ib, Z.kit_bb, Z.kit_sb, Z.kit_nb, Z.kit_is, Z.kit_bs, Z.kit_ss, Z.kit_ns, Bool.not_true, Bool.not_false, L2.tTup, L2.tLst, L2.wipe, L2.tYes, Z.Turn1, L2.tNever, sizeLine_eq, Z.rInU, Z.rInH, L2.flatV, List.any_cons, List.any_nil, List.all_cons, List.all_nil, Bool.and_true, Bool.true_and, Bool.or_false, Bool.false_or, Z.tBML, L2.rAppend, Z.map_int_inj, Z.map_bl_inj, Z.rTupL, Z.rLstL, Z.rLstT, Z.rSortI, Z.rAnyH, Z.rAllH, Z.rSumH, Z.rLenL, Z.rLenU, List.length_map, L2.tPar, StX.tStar, L2.tDNewT, L2.tDIn, L2.sDPut, L2.tDGet, Z.tCallK0, List.getD_cons_zero, List.getD_cons_succ, sp__law_error, sp__law_field, sp__law_errors, sp__law_odd]
    refine ⟨hp, fun v H1 k1 o1 => ⟨k1.sp, fun v2 H2 k2 o2 => ?_⟩⟩
    replace o1 := o1.kp k2
    replace k2 := k1.trans k2
    have cl : ∀ {H' : Hp} {σ : L2.St} {v : V} (R : VK), R v H' → tC v σ H' R := fun R r => r
    refine z_seq ?_
    refine lstV (GV.cons cl (GV.cons cl (GV.cons cl (GV.cons cl (GV.cons cl (GV.cons cl GV.nil)))))) (fun w1 H3 s3 n3 e3 => ?_) (by simp)
    simp only [L2.start, List.map_cons, List.map_nil, List.length_cons, List.length_nil, Nat.zero_add, Nat.reduceAdd, Nat.reduceSub, List.replicate_succ, List.replicate_zero, List.cons_append, List.nil_append, List.append_nil, L2.tNext, L2.tAsg, L2.gName, L2.tRet, L2.tRetN, L2.tIfS, L2.tVar, L2.tUn, L2.rI, L2.rI0, L2.rU, L2.rEq, L2.rNe, L2.tTest, L2.tB, L2.tIf, Z.tIfCI, Z.tIfCS, L2.tChain, L2.tCall, L2.tDrop, L2.tAndV, L2.tOrV, L2.tNotV, L2.tAnd, L2.tOr, L2.tNot, L2.tCB, Z.sc_ii, Z.sc_ss, Z.sc_bb, Z.sc_is, Z.sc_si, Z.sc_ni, Z.sc_in, Z.sc_ns, Z.sc_sn, Z.sc_nn, L2.CDiv, L2.CPow, L2.CMul, List.getElem?_cons_zero, List.getElem?_cons_succ, Z.set_z, Z.set_s, Option.some.injEq, L2.V.int.injEq, L2.V.bl.injEq, L2.V.str.injEq, L2.V.ref.injEq, L2.V.ty.injEq, List.cons.injEq, exists_eq_left', exists_and_left, exists_eq_left, exists_eq_right, exists_eq_right', exists_eq', exists_eq, true_and, and_true, and_assoc, decide_eq_true_eq, Int.reduceLT, and_self, Z.rIxH, Z.rIxU, Z.at30, Z.at31, Z.at32, Z.ix3_0, Z.ix3_1, Z.ix3_2, L2.rSetL, L2.gSub, Z.gTupH, L2.gCons, L2.gNil, L2.HO.lst.injEq, L2.HO.tup.injEq, L2.upd_same, L2.upd_upd, L2.tSl, L2.tNoPart, L2.tPart, L2.rSlL, L2.rCat, List.length_append, or_false, false_or, or_true, true_or, reduceCtorEq, false_and, and_false, exists_false, Int.reduceNeg, Int.reducePow, Int.reduceToNat, Int.reduceAbs, Int.reduceLE, Int.reduceMul, Int.reduceAdd, Int.reduceSub, Nat.reducePow, Nat.reduceLT, Nat.reduceLeDiff, Int.natAbs_natCast, if_true, if_false, Z.rIsN, Z.tyN, Z.kit_ii, Z.kit_bi, Z.kit_si, Z.kit_ni, Z.kit_ib, Z.kit_bb, Z.kit_sb, Z.kit_nb, Z.kit_is, Z.kit_bs, Z.kit_ss, Z.kit_ns, Bool.not_true, Bool.not_false, L2.tTup, L2.wipe, L2.tYes, Z.Turn1, L2.tNever, sizeLine_eq, Z.rInU, Z.rInH, L2.flatV, List.any_cons, List.any_nil, List.all_cons, List.all_nil, Bool.and_true, Bool.true_and, Bool.or_false, Bool.false_or, Z.tBML, L2.rAppend, Z.map_int_inj, Z.map_bl_inj, Z.rTupL, Z.rLstL, Z.rLstT, Z.rSortI, Z.rAnyH, Z.rAllH, Z.rSumH, Z.rLenL, Z.rLenU, List.length_map, L2.tPar, StX.tStar, L2.tDNewT, L2.tDIn, L2.sDPut, L2.tDGet, Z.tCallK0, List.getD_cons_zero, List.getD_cons_succ, sp__law_error, sp__law_field, sp__law_errors, sp__law_odd]
    refine z_seq ?_
    refine catV rfl e3 (GV.cons cl (GV.cons cl (GV.cons cl (GV.cons cl (GV.cons cl GV.nil))))) (fun w2 H4 s4 n4 e4 => ?_) (by simp) (by simp)
    replace s4 := s3.trans s4
    simp only [L2.start, List.map_cons, List.map_nil, List.length_cons, List.length_nil, Nat.zero_add, Nat.reduceAdd, Nat.reduceSub, List.replicate_succ, List.replicate_zero, List.cons_append, List.nil_append, List.append_nil, L2.tNext, L2.tAsg, L2.gName, L2.tRet, L2.tRetN, L2.tIfS, L2.tVar, L2.tUn, L2.rI, L2.rI0, L2.rU, L2.rEq, L2.rNe, L2.tTest, L2.tB, L2.tIf, Z.tIfCI, Z.tIfCS, L2.tChain, L2.tCall, L2.tDrop, L2.tAndV, L2.tOrV, L2.tNotV, L2.tAnd, L2.tOr, L2.tNot, L2.tCB, Z.sc_ii, Z.sc_ss, Z.sc_bb, Z.sc_is, Z.sc_si, Z.sc_ni, Z.sc_in, Z.sc_ns, Z.sc_sn, Z.sc_nn, L2.CDiv, L2.CPow, L2.CMul, List.getElem?_cons_zero, List.getElem?_cons_succ, Z.set_z, Z.set_s, Option.some.injEq, L2.V.int.injEq, L2.V.bl.injEq, L2.V.str.injEq, L2.V.ref.injEq, L2.V.ty.injEq, List.cons.injEq, exists_eq_left', exists_and_left, exists_eq_left, exists_eq_right, exists_eq_right', exists_eq', exists_eq, true_and, and_true, and_assoc, decide_eq_true_eq, Int.reduceLT, and_self, Z.rIxH, Z.rIxU, Z.at30, Z.at31, Z.at32, Z.ix3_0, Z.ix3_1, Z.ix3_2, L2.rSetL, L2.gSub, Z.gTupH, L2.gCons, L2.gNil, L2.HO.lst.injEq, L2.HO.tup.injEq, L2.upd_same, L2.upd_upd, L2.tSl, L2.tNoPart, L2.tPart, L2.rSlL, L2.rCat, List.length_append, or_false, false_or, or_true, true_or, reduceCtorEq, false_and, and_false, exists_false, Int.reduceNeg, Int.reducePow, Int.reduceToNat, Int.reduceAbs, Int.reduceLE, Int.reduceMul, Int.reduceAdd, Int.reduceSub, Nat.reducePow, Nat.reduceLT, Nat.reduceLeDiff, Int.natAbs_natCast, if_true, if_false, Z.rIsN, Z.tyN, Z.kit_ii, Z.kit_bi, Z.kit_si, Z.kit_ni, Z.kit_ib, Z.kit_bb, Z.kit_sb, Z.kit_nb, Z.kit_is, Z.kit_bs, Z.kit_ss, Z.kit_ns, Bool.not_true, Bool.not_false, L2.tTup, L2.wipe, L2.tYes, Z.Turn1, L2.tNever, sizeLine_eq, Z.rInU, Z.rInH, L2.flatV, List.any_cons, List.any_nil, List.all_cons, List.all_nil, Bool.and_true, Bool.true_and, Bool.or_false, Bool.false_or, Z.tBML, L2.rAppend, Z.map_int_inj, Z.map_bl_inj, Z.rTupL, Z.rLstL, Z.rLstT, Z.rSortI, Z.rAnyH, Z.rAllH, Z.rSumH, Z.rLenL, Z.rLenU, List.length_map, L2.tPar, StX.tStar, L2.tDNewT, L2.tDIn, L2.sDPut, L2.tDGet, Z.tCallK0, List.getD_cons_zero, List.getD_cons_succ, sp__law_error, sp__law_field, sp__law_errors, sp__law_odd]
    refine z_seq ?_
    refine catV rfl e4 (GV.cons cl (GV.cons cl (GV.cons cl (GV.cons cl (GV.cons cl GV.nil))))) (fun w3 H5 s5 n5 e5 => ?_) (by simp) (by simp)
    replace s5 := s4.trans s5
    simp only [L2.start, List.map_cons, List.map_nil, List.length_cons, List.length_nil, Nat.zero_add, Nat.reduceAdd, Nat.reduceSub, List.replicate_succ, List.replicate_zero, List.cons_append, List.nil_append, List.append_nil, L2.tNext, L2.tAsg, L2.gName, L2.tRet, L2.tRetN, L2.tIfS, L2.tVar, L2.tUn, L2.rI, L2.rI0, L2.rU, L2.rEq, L2.rNe, L2.tTest, L2.tB, L2.tIf, Z.tIfCI, Z.tIfCS, L2.tChain, L2.tCall, L2.tDrop, L2.tAndV, L2.tOrV, L2.tNotV, L2.tAnd, L2.tOr, L2.tNot, L2.tCB, Z.sc_ii, Z.sc_ss, Z.sc_bb, Z.sc_is, Z.sc_si, Z.sc_ni, Z.sc_in, Z.sc_ns, Z.sc_sn, Z.sc_nn, L2.CDiv, L2.CPow, L2.CMul, List.getElem?_cons_zero, List.getElem?_cons_succ, Z.set_z, Z.set_s, Option.some.injEq, L2.V.int.injEq, L2.V.bl.injEq, L2.V.str.injEq, L2.V.ref.injEq, L2.V.ty.injEq, List.cons.injEq, exists_eq_left', exists_and_left, exists_eq_left, exists_eq_right, exists_eq_right', exists_eq', exists_eq, true_and, and_true, and_assoc, decide_eq_true_eq, Int.reduceLT, and_self, Z.rIxH, Z.rIxU, Z.at30, Z.at31, Z.at32, Z.ix3_0, Z.ix3_1, Z.ix3_2, L2.rSetL, L2.gSub, Z.gTupH, L2.gCons, L2.gNil, L2.HO.lst.injEq, L2.HO.tup.injEq, L2.upd_same, L2.upd_upd, L2.tSl, L2.tNoPart, L2.tPart, L2.rSlL, L2.rCat, List.length_append, or_false, false_or, or_true, true_or, reduceCtorEq, false_and, and_false, exists_false, Int.reduceNeg, Int.reducePow, Int.reduceToNat, Int.reduceAbs, Int.reduceLE, Int.reduceMul, Int.reduceAdd, Int.reduceSub, Nat.reducePow, Nat.reduceLT, Nat.reduceLeDiff, Int.natAbs_natCast, if_true, if_false, Z.rIsN, Z.tyN, Z.kit_ii, Z.kit_bi, Z.kit_si, Z.kit_ni, Z.kit_ib, Z.kit_bb, Z.kit_sb, Z.kit_nb, Z.kit_is, Z.kit_bs, Z.kit_ss, Z.kit_ns, Bool.not_true, Bool.not_false, L2.tTup, L2.wipe, L2.tYes, Z.Turn1, L2.tNever, sizeLine_eq, Z.rInU, Z.rInH, L2.flatV, List.any_cons, List.any_nil, List.all_cons, List.all_nil, Bool.and_true, Bool.true_and, Bool.or_false, Bool.false_or, Z.tBML, L2.rAppend, Z.map_int_inj, Z.map_bl_inj, Z.rTupL, Z.rLstL, Z.rLstT, Z.rSortI, Z.rAnyH, Z.rAllH, Z.rSumH, Z.rLenL, Z.rLenU, List.length_map, L2.tPar, StX.tStar, L2.tDNewT, L2.tDIn, L2.sDPut, L2.tDGet, Z.tCallK0, List.getD_cons_zero, List.getD_cons_succ, sp__law_error, sp__law_field, sp__law_errors, sp__law_odd]
    refine z_seq ?_
    simp only [L2.start, List.map_cons, List.map_nil, List.length_cons, List.length_nil, Nat.zero_add, Nat.reduceAdd, Nat.reduceSub, List.replicate_succ, List.replicate_zero, List.cons_append, List.nil_append, List.append_nil, L2.tNext, L2.tAsg, L2.gName, L2.tRet, L2.tRetN, L2.tIfS, L2.tVar, L2.tC, L2.tUn, L2.rI, L2.rI0, L2.rU, L2.rEq, L2.rNe, L2.tTest, L2.tB, L2.tIf, Z.tIfCI, Z.tIfCS, L2.tChain, L2.tCons, L2.tNil, L2.tCall, L2.tDrop, L2.tAndV, L2.tOrV, L2.tNotV, L2.tAnd, L2.tOr, L2.tNot, L2.tCB, Z.sc_ii, Z.sc_ss, Z.sc_bb, Z.sc_is, Z.sc_si, Z.sc_ni, Z.sc_in, Z.sc_ns, Z.sc_sn, Z.sc_nn, L2.CDiv, L2.CPow, L2.CMul, List.getElem?_cons_zero, List.getElem?_cons_succ, Z.set_z, Z.set_s, Option.some.injEq, L2.V.int.injEq, L2.V.bl.injEq, L2.V.str.injEq, L2.V.ref.injEq, L2.V.ty.injEq, List.cons.injEq, exists_eq_left', exists_and_left, exists_eq_left, exists_eq_right, exists_eq_right', exists_eq', exists_eq, true_and, and_true, and_assoc, decide_eq_true_eq, Int.reduceLT, and_self, Z.rIxH, Z.rIxU, Z.at30, Z.at31, Z.at32, Z.ix3_0, Z.ix3_1, Z.ix3_2, L2.rSetL, L2.gSub, Z.gTupH, L2.gCons, L2.gNil, L2.HO.lst.injEq, L2.HO.tup.injEq, L2.upd_same, L2.upd_upd, L2.tSl, L2.tNoPart, L2.tPart, L2.rSlL, L2.rCat, List.length_append, or_false, false_or, or_true, true_or, reduceCtorEq, false_and, and_false, exists_false, Int.reduceNeg, Int.reducePow, Int.reduceToNat, Int.reduceAbs, Int.reduceLE, Int.reduceMul, Int.reduceAdd, Int.reduceSub, Nat.reducePow, Nat.reduceLT, Nat.reduceLeDiff, Int.natAbs_natCast, if_true, if_false, Z.rIsN, Z.tyN, Z.kit_ii, Z.kit_bi, Z.kit_si, Z.kit_ni, Z.kit_ib, Z.kit_bb, Z.kit_sb, Z.kit_nb, Z.kit_is, Z.kit_bs, Z.kit_ss, Z.kit_ns, Bool.not_true, Bool.not_false, L2.tTup, L2.wipe, L2.tYes, Z.Turn1, L2.tNever, sizeLine_eq, Z.rInU, Z.rInH, L2.flatV, List.any_cons, List.any_nil, List.all_cons, List.all_nil, Bool.and_true, Bool.true_and, Bool.or_false, Bool.false_or, Z.tBML, L2.rAppend, Z.map_int_inj, Z.map_bl_inj, Z.rTupL, Z.rLstL, Z.rLstT, Z.rSortI, Z.rAnyH, Z.rAllH, Z.rSumH, Z.rLenL, Z.rLenU, List.length_map, L2.tPar, StX.tStar, L2.tDNewT, L2.tDIn, L2.sDPut, L2.tDGet, Z.tCallK0, List.getD_cons_zero, List.getD_cons_succ, sp__law_error, sp__law_field, sp__law_errors, sp__law_odd]
    refine fun xs H6 q6 s6 n6 e6 x6 => ?_
    replace e5 := s6 _ _ e5
    replace s6 := s5.trans s6
    replace o1 := o1.same s6
    replace o2 := o2.same s6
    have l6 : xs.length = 32 := Paired.length x6
    obtain ⟨d, dx, ok⟩ := o1
    obtain ⟨d2, dx2, ok2⟩ := o2
    have hd : ∀ {H' : Hp}, Same H6 H' → Dx H' v d := fun s => Dx.same ((hid_le p H6).trans s) _ _ dx
    have hd2 : ∀ {H' : Hp}, Same H6 H' → Dx H' v2 d2 := fun s => Dx.same ((hid_le p H6).trans s) _ _ dx2
    have sz : d.shown.length ≤ sizeLine := Nat.le_trans ok.2.1 (by rw [sizeLine_eq]; decide)
    have dp : d.depth ≤ 60 := Nat.le_trans ok.2.2 (by decide)
    refine z_seq ?_
    refine for_rng (n := 32) (fun R h => ?_) (by omega) (fun i σ H' => ∃ v5 v6, σ = [some (.ref p), some v, some v2, some (.ref w3), some (.ref q6), v5, v6, none, none] ∧ Same H6 H') ⟨_, _, rfl, Same.refl _⟩ ?_ ?_
    · simp only [L2.start, List.map_cons, List.map_nil, List.length_cons, List.length_nil, Nat.zero_add, Nat.reduceAdd, Nat.reduceSub, List.replicate_succ, List.replicate_zero, List.cons_append, List.nil_append, List.append_nil, L2.tNext, L2.tAsg, L2.gName, L2.tRet, L2.tRetN, L2.tIfS, L2.tVar, L2.tC, L2.tOp, L2.tUn, L2.rI, L2.rI0, L2.rU, L2.rEq, L2.rNe, L2.tTest, L2.tB, L2.tIf, Z.tIfCI, Z.tIfCS, L2.tChain, L2.tCons, L2.tNil, L2.tCall, L2.tDrop, L2.tAndV, L2.tOrV, L2.tNotV, L2.tAnd, L2.tOr, L2.tNot, L2.tCB, Z.sc_ii, Z.sc_ss, Z.sc_bb, Z.sc_is, Z.sc_si, Z.sc_ni, Z.sc_in, Z.sc_ns, Z.sc_sn, Z.sc_nn, L2.CDiv, L2.CPow, L2.CMul, List.getElem?_cons_zero, List.getElem?_cons_succ, Z.set_z, Z.set_s, Option.some.injEq, L2.V.int.injEq, L2.V.bl.injEq, L2.V.str.injEq, L2.V.ref.injEq, L2.V.ty.injEq, List.cons.injEq, exists_eq_left', exists_and_left, exists_eq_left, exists_eq_right, exists_eq_right', exists_eq', exists_eq, true_and, and_true, and_assoc, decide_eq_true_eq, Int.reduceLT, and_self, Z.rIxH, Z.rIxU, Z.at30, Z.at31, Z.at32, Z.ix3_0, Z.ix3_1, Z.ix3_2, L2.rSetL, L2.gSub, Z.gTupH, L2.gCons, L2.gNil, L2.HO.lst.injEq, L2.HO.tup.injEq, L2.upd_same, L2.upd_upd, L2.tSl, L2.tNoPart, L2.tPart, L2.rSlL, L2.rCat, List.length_append, or_false, false_or, or_true, true_or, reduceCtorEq, false_and, and_false, exists_false, Int.reduceNeg, Int.reducePow, Int.reduceToNat, Int.reduceAbs, Int.reduceLE, Int.reduceMul, Int.reduceAdd, Int.reduceSub, Nat.reducePow, Nat.reduceLT, Nat.reduceLeDiff, Int.natAbs_natCast, if_true, if_false, Z.rIsN, Z.tyN, Z.kit_ii, Z.kit_bi, Z.kit_si, Z.kit_ni, Z.kit_ib, Z.kit_bb, Z.kit_sb, Z.kit_nb, Z.kit_is, Z.kit_bs, Z.kit_ss, Z.kit_ns, Bool.not_true, Bool.not_false, L2.tTup, L2.tLst, L2.wipe, L2.tYes, Z.Turn1, L2.tNever, sizeLine_eq, Z.rInU, Z.rInH, L2.flatV, List.any_cons, List.any_nil, List.all_cons, List.all_nil, Bool.and_true, Bool.true_and, Bool.or_false, Bool.false_or, Z.tBML, L2.rAppend, Z.map_int_inj, Z.map_bl_inj, Z.rTupL, Z.rLstL, Z.rLstT, Z.rSortI, Z.rAnyH, Z.rAllH, Z.rSumH, Z.rLenL, Z.rLenU, List.length_map, L2.tPar, StX.tStar, L2.tDNewT, L2.tDIn, L2.sDPut, L2.tDGet, Z.tCallK0, List.getD_cons_zero, List.getD_cons_succ, sp__law_error, sp__law_field, sp__law_errors, sp__law_odd]
      exact ⟨xs, e6, by rw [l6]; exact h⟩
    · rintro i σ H7 hi ⟨v5, v6, rfl, s7⟩
      have hi2 : i < 32 := by omega
      obtain ⟨t1, t2⟩ := tw_at i hi2
      obtain ⟨x, ⟨w, fl⟩, hx, hy, a, rfl, hxa⟩ := pairedAt x6 (i := i) (by omega)
      rw [hy] at t1
      rw [← t1] at t2
      have mw : (w, fl) ∈ wf := List.mem_of_getElem? t1.symm
      have hw : (wf.map fun w => V.str w.1)[i / 2]? = some (.str w) := by rw [List.getElem?_map, ← t1]; rfl
      simp only [L2.start, List.map_cons, List.map_nil, List.length_cons, List.length_nil, Nat.zero_add, Nat.reduceAdd, Nat.reduceSub, List.replicate_succ, List.replicate_zero, List.cons_append, List.nil_append, List.append_nil, L2.tNext, L2.tAsg, L2.gName, L2.tRet, L2.tRetN, L2.tIfS, L2.tVar, L2.tC, L2.tOp, L2.tUn, L2.rI, L2.rI0, L2.rU, L2.rEq, L2.rNe, L2.tTest, L2.tB, L2.tIf, Z.tIfCI, Z.tIfCS, L2.tChain, L2.tCons, L2.tNil, L2.tCall, L2.tDrop, L2.tAndV, L2.tOrV, L2.tNotV, L2.tAnd, L2.tOr, L2.tNot, L2.tCB, Z.sc_ii, Z.sc_ss, Z.sc_bb, Z.sc_is, Z.sc_si, Z.sc_ni, Z.sc_in, Z.sc_ns, Z.sc_sn, Z.sc_nn, L2.CDiv, L2.CPow, L2.CMul, List.getElem?_cons_zero, List.getElem?_cons_succ, Z.set_z, Z.set_s, Option.some.injEq, L2.V.int.injEq, L2.V.bl.injEq, L2.V.str.injEq, L2.V.ref.injEq, L2.V.ty.injEq, List.cons.injEq, exists_eq_left', exists_and_left, exists_eq_left, exists_eq_right, exists_eq_right', exists_eq', exists_eq, true_and, and_true, and_assoc, decide_eq_true_eq, Int.reduceLT, and_self, Z.rIxH, Z.rIxU, Z.at30, Z.at31, Z.at32, Z.ix3_0, Z.ix3_1, Z.ix3_2, L2.rSetL, L2.gSub, Z.gTupH, L2.gCons, L2.gNil, L2.HO.lst.injEq, L2.HO.tup.injEq, L2.upd_same, L2.upd_upd, L2.tSl, L2.tNoPart, L2.tPart, L2.rSlL, L2.rCat, List.length_append, or_false, false_or, or_true, true_or, reduceCtorEq, false_and, and_false, exists_false, Int.reduceNeg, Int.reducePow, Int.reduceToNat, Int.reduceAbs, Int.reduceLE, Int.reduceMul, Int.reduceAdd, Int.reduceSub, Nat.reducePow, Nat.reduceLT, Nat.reduceLeDiff, Int.natAbs_natCast, if_true, if_false, Z.rIsN, Z.tyN, Z.kit_ii, Z.kit_bi, Z.kit_si, Z.kit_ni, Z.kit_ib, Z.kit_bb, Z.kit_sb, Z.kit_nb, Z.kit_is, Z.kit_bs, Z.kit_ss, Z.kit_ns, Bool.not_true, Bool.not_false, L2.tTup, L2.tLst, L2.wipe, L2.tYes, Z.Turn1, L2.tNever, sizeLine_eq, Z.rInU, Z.rInH, L2.flatV, List.any_cons, List.any_nil, List.all_cons, List.all_nil, Bool.and_true, Bool.true_and, Bool.or_false, Bool.false_or, Z.tBML, L2.rAppend, Z.map_int_inj, Z.map_bl_inj, Z.rTupL, Z.rLstL, Z.rLstT, Z.rSortI, Z.rAnyH, Z.rAllH, Z.rSumH, Z.rLenL, Z.rLenU, List.length_map, L2.tPar, StX.tStar, L2.tDNewT, L2.tDIn, L2.sDPut, L2.tDGet, Z.tCallK0, List.getD_cons_zero, List.getD_cons_succ, sp__law_error, sp__law_field, sp__law_errors, sp__law_odd]
      refine z_seq ?_
      simp only [L2.start, List.map_cons, List.map_nil, List.length_cons, List.length_nil, Nat.zero_add, Nat.reduceAdd, Nat.reduceSub, List.replicate_succ, List.replicate_zero, List.cons_append, List.nil_append, List.append_nil, L2.tNext, L2.tAsg, L2.gName, L2.tRet, L2.tRetN, L2.tIfS, L2.tVar, L2.tC, L2.tOp, L2.tUn, L2.rI, L2.rI0, L2.rU, L2.rEq, L2.rNe, L2.tTest, L2.tB, L2.tIf, Z.tIfCI, Z.tIfCS, L2.tChain, L2.tCons, L2.tNil, L2.tCall, L2.tDrop, L2.tAndV, L2.tOrV, L2.tNotV, L2.tAnd, L2.tOr, L2.tNot, L2.tCB, Z.sc_ii, Z.sc_ss, Z.sc_bb, Z.sc_is, Z.sc_si, Z.sc_ni, Z.sc_in, Z.sc_ns, Z.sc_sn, Z.sc_nn, L2.CDiv, L2.CPow, L2.CMul, List.getElem?_cons_zero, List.getElem?_cons_succ, Z.set_z, Z.set_s, Option.some.injEq, L2.V.int.injEq, L2.V.bl.injEq, L2.V.str.injEq, L2.V.ref.injEq, L2.V.ty.injEq, List.cons.injEq, exists_eq_left', exists_and_left, exists_eq_left, exists_eq_right, exists_eq_right', exists_eq', exists_eq, true_and, and_true, and_assoc, decide_eq_true_eq, Int.reduceLT, and_self, Z.rIxH, Z.rIxU, Z.at30, Z.at31, Z.at32, Z.ix3_0, Z.ix3_1, Z.ix3_2, L2.rSetL, L2.gSub, Z.gTupH, L2.gCons, L2.gNil, L2.HO.lst.injEq, L2.HO.tup.injEq, L2.upd_same, L2.upd_upd, L2.tSl, L2.tNoPart, L2.tPart, L2.rSlL, L2.rCat, List.length_append, or_false, false_or, or_true, true_or, reduceCtorEq, false_and, and_false, exists_false, Int.reduceNeg, Int.reducePow, Int.reduceToNat, Int.reduceAbs, Int.reduceLE, Int.reduceMul, Int.reduceAdd, Int.reduceSub, Nat.reducePow, Nat.reduceLT, Nat.reduceLeDiff, Int.natAbs_natCast, if_true, if_false, Z.rIsN, Z.tyN, Z.kit_ii, Z.kit_bi, Z.kit_si, Z.kit_ni, Z.kit_ib, Z.kit_bb, Z.kit_sb, Z.kit_nb, Z.kit_is, Z.kit_bs, Z.kit_ss, Z.kit_ns, Bool.not_true, Bool.not_false, L2.tTup, L2.tLst, L2.wipe, L2.tYes, Z.Turn1, L2.tNever, sizeLine_eq, Z.rInU, Z.rInH, L2.flatV, List.any_cons, List.any_nil, List.all_cons, List.all_nil, Bool.and_true, Bool.true_and, Bool.or_false, Bool.false_or, Z.tBML, L2.rAppend, Z.map_int_inj, Z.map_bl_inj, Z.rTupL, Z.rLstL, Z.rLstT, Z.rSortI, Z.rAnyH, Z.rAllH, Z.rSumH, Z.rLenL, Z.rLenU, List.length_map, L2.tPar, StX.tStar, L2.tDNewT, L2.tDIn, L2.sDPut, L2.tDGet, Z.tCallK0, List.getD_cons_zero, List.getD_cons_succ, sp__law_error, sp__law_field, sp__law_errors, sp__law_odd]
      refine ⟨_, s7 _ _ e6, _, atI_nat hx, a, rfl, i / 2, w, t2.symm, _, hxa.same s7, fun H8 s8 => ?_⟩
      refine ⟨_, s8 _ _ (s7 _ _ e5), .str w, ?_, rfl, ?_⟩
      · rw [show ((i : Int) / 2) = ((i / 2 : Nat) : Int) by omega]
        exact atI_nat hw
      · rw [if_neg (by simp)]
        refine ⟨_, s8 _ _ (s7 _ _ e6), _, atI_nat hx, a, rfl, .inl ⟨fl, mw, v, (hxa.same s7).same s8, fun H9 s9 => ?_⟩⟩
        have s69 := (s7.trans s8).trans s9
        refine ⟨v, d, rfl, hd s69, ok.1, sz, dp, v, d, rfl, hd s69, ok.1, sz, dp, rfl, ?_⟩
        rw [if_neg (by simp)]
        exact s69
    · rintro σ H7 ⟨v5, v6, rfl, s7⟩
      simp only [L2.start, List.map_cons, List.map_nil, List.length_cons, List.length_nil, Nat.zero_add, Nat.reduceAdd, Nat.reduceSub, List.replicate_succ, List.replicate_zero, List.cons_append, List.nil_append, List.append_nil, L2.tNext, L2.tAsg, L2.gName, L2.tRet, L2.tRetN, L2.tIfS, L2.tVar, L2.tC, L2.tOp, L2.tUn, L2.rI, L2.rI0, L2.rU, L2.rEq, L2.rNe, L2.tTest, L2.tB, L2.tIf, Z.tIfCI, Z.tIfCS, L2.tChain, L2.tCons, L2.tNil, L2.tCall, L2.tDrop, L2.tAndV, L2.tOrV, L2.tNotV, L2.tAnd, L2.tOr, L2.tNot, L2.tCB, Z.sc_ii, Z.sc_ss, Z.sc_bb, Z.sc_is, Z.sc_si, Z.sc_ni, Z.sc_in, Z.sc_ns, Z.sc_sn, Z.sc_nn, L2.CDiv, L2.CPow, L2.CMul, List.getElem?_cons_zero, List.getElem?_cons_succ, Z.set_z, Z.set_s, Option.some.injEq, L2.V.int.injEq, L2.V.bl.injEq, L2.V.str.injEq, L2.V.ref.injEq, L2.V.ty.injEq, List.cons.injEq, exists_eq_left', exists_and_left, exists_eq_left, exists_eq_right, exists_eq_right', exists_eq', exists_eq, true_and, and_true, and_assoc, decide_eq_true_eq, Int.reduceLT, and_self, Z.rIxH, Z.rIxU, Z.at30, Z.at31, Z.at32, Z.ix3_0, Z.ix3_1, Z.ix3_2, L2.rSetL, L2.gSub, Z.gTupH, L2.gCons, L2.gNil, L2.HO.lst.injEq, L2.HO.tup.injEq, L2.upd_same, L2.upd_upd, L2.tSl, L2.tNoPart, L2.tPart, L2.rSlL, L2.rCat, List.length_append, or_false, false_or, or_true, true_or, reduceCtorEq, false_and, and_false, exists_false, Int.reduceNeg, Int.reducePow, Int.reduceToNat, Int.reduceAbs, Int.reduceLE, Int.reduceMul, Int.reduceAdd, Int.reduceSub, Nat.reducePow, Nat.reduceLT, Nat.reduceLeDiff, Int.natAbs_natCast, if_true, if_false, Z.rIsN, Z.tyN, Z.kit_ii, Z.kit_bi, Z.kit_si, Z.kit_ni, Z.kit_ib, Z.kit_bb, Z.kit_sb, Z.kit_nb, Z.kit_is, Z.kit_bs, Z.kit_ss, Z.kit_ns, Bool.not_true, Bool.not_false, L2.tTup, L2.tLst, L2.wipe, L2.tYes, Z.Turn1, L2.tNever, sizeLine_eq, Z.rInU, Z.rInH, L2.flatV, List.any_cons, List.any_nil, List.all_cons, List.all_nil, Bool.and_true, Bool.true_and, Bool.or_false, Bool.false_or, Z.tBML, L2.rAppend, Z.map_int_inj, Z.map_bl_inj, Z.rTupL, Z.rLstL, Z.rLstT, Z.rSortI, Z.rAnyH, Z.rAllH, Z.rSumH, Z.rLenL, Z.rLenU, List.length_map, L2.tPar, StX.tStar, L2.tDNewT, L2.tDIn, L2.sDPut, L2.tDGet, Z.tCallK0, List.getD_cons_zero, List.getD_cons_succ, sp__law_error, sp__law_field, sp__law_errors, sp__law_odd]
      refine z_seq ?_
      refine two_broken (mg := mg) rfl rfl fun a b L H8 s8 nL eL xa xb => ?_
      simp only [L2.start, List.map_cons, List.map_nil, List.length_cons, List.length_nil, Nat.zero_add, Nat.reduceAdd, Nat.reduceSub, List.replicate_succ, List.replicate_zero, List.cons_append, List.nil_append, List.append_nil, L2.tNext, L2.tAsg, L2.gName, L2.tRet, L2.tRetN, L2.tIfS, L2.tVar, L2.tC, L2.tOp, L2.tUn, L2.rI, L2.rI0, L2.rU, L2.rEq, L2.rNe, L2.tTest, L2.tB, L2.tIf, Z.tIfCI, Z.tIfCS, L2.tChain, L2.tCons, L2.tNil, L2.tCall, L2.tDrop, L2.tAndV, L2.tOrV, L2.tNotV, L2.tAnd, L2.tOr, L2.tNot, L2.tCB, Z.sc_ii, Z.sc_ss, Z.sc_bb, Z.sc_is, Z.sc_si, Z.sc_ni, Z.sc_in, Z.sc_ns, Z.sc_sn, Z.sc_nn, L2.CDiv, L2.CPow, L2.CMul, List.getElem?_cons_zero, List.getElem?_cons_succ, Z.set_z, Z.set_s, Option.some.injEq, L2.V.int.injEq, L2.V.bl.injEq, L2.V.str.injEq, L2.V.ref.injEq, L2.V.ty.injEq, List.cons.injEq, exists_eq_left', exists_and_left, exists_eq_left, exists_eq_right, exists_eq_right', exists_eq', exists_eq, true_and, and_true, and_assoc, decide_eq_true_eq, Int.reduceLT, and_self, Z.rIxH, Z.rIxU, Z.at30, Z.at31, Z.at32, Z.ix3_0, Z.ix3_1, Z.ix3_2, L2.rSetL, L2.gSub, Z.gTupH, L2.gCons, L2.gNil, L2.HO.lst.injEq, L2.HO.tup.injEq, L2.upd_same, L2.upd_upd, L2.tSl, L2.tNoPart, L2.tPart, L2.rSlL, L2.rCat, List.length_append, or_false, false_or, or_true, true_or, reduceCtorEq, false_and, and_false, exists_false, Int.reduceNeg, Int.reducePow, Int.reduceToNat, Int.reduceAbs, Int.reduceLE, Int.reduceMul, Int.reduceAdd, Int.reduceSub, Nat.reducePow, Nat.reduceLT, Nat.reduceLeDiff, Int.natAbs_natCast, if_true, if_false, Z.rIsN, Z.tyN, Z.kit_ii, Z.kit_bi, Z.kit_si, Z.kit_ni, Z.kit_ib, Z.kit_bb, Z.kit_sb, Z.kit_nb, Z.kit_is, Z.kit_bs, Z.kit_ss, Z.kit_ns, Bool.not_true, Bool.not_false, L2.tTup, L2.wipe, L2.tYes, Z.Turn1, L2.tNever, sizeLine_eq, Z.rInU, Z.rInH, L2.flatV, List.any_cons, List.any_nil, List.all_cons, List.all_nil, Bool.and_true, Bool.true_and, Bool.or_false, Bool.false_or, Z.tBML, L2.rAppend, Z.map_int_inj, Z.map_bl_inj, Z.rTupL, Z.rLstL, Z.rLstT, Z.rSortI, Z.rAnyH, Z.rAllH, Z.rSumH, Z.rLenL, Z.rLenU, List.length_map, L2.tPar, StX.tStar, L2.tDNewT, L2.tDIn, L2.sDPut, L2.tDGet, Z.tCallK0, List.getD_cons_zero, List.getD_cons_succ, sp__law_error, sp__law_field, sp__law_errors, sp__law_odd]
      refine z_seq ?_
      simp only [L2.start, List.map_cons, List.map_nil, List.length_cons, List.length_nil, Nat.zero_add, Nat.reduceAdd, Nat.reduceSub, List.replicate_succ, List.replicate_zero, List.cons_append, List.nil_append, List.append_nil, L2.tNext, L2.tAsg, L2.gName, L2.tRet, L2.tRetN, L2.tIfS, L2.tVar, L2.tC, L2.tOp, L2.tUn, L2.rI, L2.rI0, L2.rU, L2.rEq, L2.rNe, L2.tTest, L2.tB, L2.tIf, Z.tIfCI, Z.tIfCS, L2.tChain, L2.tCons, L2.tNil, L2.tCall, L2.tDrop, L2.tAndV, L2.tOrV, L2.tNotV, L2.tAnd, L2.tOr, L2.tNot, L2.tCB, Z.sc_ii, Z.sc_ss, Z.sc_bb, Z.sc_is, Z.sc_si, Z.sc_ni, Z.sc_in, Z.sc_ns, Z.sc_sn, Z.sc_nn, L2.CDiv, L2.CPow, L2.CMul, List.getElem?_cons_zero, List.getElem?_cons_succ, Z.set_z, Z.set_s, Option.some.injEq, L2.V.int.injEq, L2.V.bl.injEq, L2.V.str.injEq, L2.V.ref.injEq, L2.V.ty.injEq, List.cons.injEq, exists_eq_left', exists_and_left, exists_eq_left, exists_eq_right, exists_eq_right', exists_eq', exists_eq, true_and, and_true, and_assoc, decide_eq_true_eq, Int.reduceLT, and_self, Z.rIxH, Z.rIxU, Z.at30, Z.at31, Z.at32, Z.ix3_0, Z.ix3_1, Z.ix3_2, L2.rSetL, L2.gSub, Z.gTupH, L2.gCons, L2.gNil, L2.HO.lst.injEq, L2.HO.tup.injEq, L2.upd_same, L2.upd_upd, L2.tSl, L2.tNoPart, L2.tPart, L2.rSlL, L2.rCat, List.length_append, or_false, false_or, or_true, true_or, reduceCtorEq, false_and, and_false, exists_false, Int.reduceNeg, Int.reducePow, Int.reduceToNat, Int.reduceAbs, Int.reduceLE, Int.reduceMul, Int.reduceAdd, Int.reduceSub, Nat.reducePow, Nat.reduceLT, Nat.reduceLeDiff, Int.natAbs_natCast, if_true, if_false, Z.rIsN, Z.tyN, Z.kit_ii, Z.kit_bi, Z.kit_si, Z.kit_ni, Z.kit_ib, Z.kit_bb, Z.kit_sb, Z.kit_nb, Z.kit_is, Z.kit_bs, Z.kit_ss, Z.kit_ns, Bool.not_true, Bool.not_false, L2.tTup, L2.wipe, L2.tYes, Z.Turn1, L2.tNever, sizeLine_eq, Z.rInU, Z.rInH, L2.flatV, List.any_cons, List.any_nil, List.all_cons, List.all_nil, Bool.and_true, Bool.true_and, Bool.or_false, Bool.false_or, Z.tBML, L2.rAppend, Z.map_int_inj, Z.map_bl_inj, Z.rTupL, Z.rLstL, Z.rLstT, Z.rSortI, Z.rAnyH, Z.rAllH, Z.rSumH, Z.rLenL, Z.rLenU, List.length_map, L2.tPar, StX.tStar, L2.tDNewT, L2.tDIn, L2.sDPut, L2.tDGet, Z.tCallK0, List.getD_cons_zero, List.getD_cons_succ, sp__law_error, sp__law_field, sp__law_errors, sp__law_odd]
      have isB : ∀ y ∈ [V.ref a, V.ref b], ∃ c, y = .ref c ∧ ∀ {H' : Hp}, Same H8 H' → IsX H' c (clsA mg "Broken") (some [("index", v), ("shown", v2)]) := fun y hy => by
        rcases List.mem_cons.mp hy with rfl | hy
        · exact ⟨a, rfl, fun s => xa.same s⟩
        · obtain rfl := List.mem_singleton.mp hy
          exact ⟨b, rfl, fun s => xb.same s⟩
      have s68 := s7.trans s8
      refine lc_mapL (H1 := H8) (fun _ => some (.str "Broken")) (fun R h => ⟨_, rfl, h⟩) (SqL.of eL) (by simp) (fun y hy H9 s9 => ?_) fun D H9 nD s9 eD => ?_
      · obtain ⟨c, rfl, hc⟩ := isB y hy
        intro Y N hY hN
        simp only [L2.start, List.map_cons, List.map_nil, List.length_cons, List.length_nil, Nat.zero_add, Nat.reduceAdd, Nat.reduceSub, List.replicate_succ, List.replicate_zero, List.cons_append, List.nil_append, List.append_nil, L2.tNext, L2.tAsg, L2.gName, L2.tRet, L2.tRetN, L2.tIfS, L2.tVar, L2.tC, L2.tOp, L2.tUn, L2.rI, L2.rI0, L2.rU, L2.rEq, L2.rNe, L2.tTest, L2.tB, L2.tIf, Z.tIfCI, Z.tIfCS, L2.tChain, L2.tCons, L2.tNil, L2.tCall, L2.tDrop, L2.tAndV, L2.tOrV, L2.tNotV, L2.tAnd, L2.tOr, L2.tNot, L2.tCB, Z.sc_ii, Z.sc_ss, Z.sc_bb, Z.sc_is, Z.sc_si, Z.sc_ni, Z.sc_in, Z.sc_ns, Z.sc_sn, Z.sc_nn, L2.CDiv, L2.CPow, L2.CMul, List.getElem?_cons_zero, List.getElem?_cons_succ, Z.set_z, Z.set_s, Option.some.injEq, L2.V.int.injEq, L2.V.bl.injEq, L2.V.str.injEq, L2.V.ref.injEq, L2.V.ty.injEq, List.cons.injEq, exists_eq_left', exists_and_left, exists_eq_left, exists_eq_right, exists_eq_right', exists_eq', exists_eq, true_and, and_true, and_assoc, decide_eq_true_eq, Int.reduceLT, and_self, Z.rIxH, Z.rIxU, Z.at30, Z.at31, Z.at32, Z.ix3_0, Z.ix3_1, Z.ix3_2, L2.rSetL, L2.gSub, Z.gTupH, L2.gCons, L2.gNil, L2.HO.lst.injEq, L2.HO.tup.injEq, L2.upd_same, L2.upd_upd, L2.tSl, L2.tNoPart, L2.tPart, L2.rSlL, L2.rCat, List.length_append, or_false, false_or, or_true, true_or, reduceCtorEq, false_and, and_false, exists_false, Int.reduceNeg, Int.reducePow, Int.reduceToNat, Int.reduceAbs, Int.reduceLE, Int.reduceMul, Int.reduceAdd, Int.reduceSub, Nat.reducePow, Nat.reduceLT, Nat.reduceLeDiff, Int.natAbs_natCast, if_true, if_false, Z.rIsN, Z.tyN, Z.kit_ii, Z.kit_bi, Z.kit_si, Z.kit_ni, Z.kit_ib, Z.kit_bb, Z.kit_sb, Z.kit_nb, Z.kit_is, Z.kit_bs, Z.kit_ss, Z.kit_ns, Bool.not_true, Bool.not_false, L2.tTup, L2.tLst, L2.wipe, L2.tYes, Z.Turn1, L2.tNever, sizeLine_eq, Z.rInU, Z.rInH, L2.flatV, List.any_cons, List.any_nil, List.all_cons, List.all_nil, Bool.and_true, Bool.true_and, Bool.or_false, Bool.false_or, Z.tBML, L2.rAppend, Z.map_int_inj, Z.map_bl_inj, Z.rTupL, Z.rLstL, Z.rLstT, Z.rSortI, Z.rAnyH, Z.rAllH, Z.rSumH, Z.rLenL, Z.rLenU, List.length_map, L2.tPar, StX.tStar, L2.tDNewT, L2.tDIn, L2.sDPut, L2.tDGet, Z.tCallK0, List.getD_cons_zero, List.getD_cons_succ, sp__law_error, sp__law_field, sp__law_errors, sp__law_odd]
        exact ⟨16, "Broken", rfl, _, hc s9, fun H10 s10 => hY _ H10 rfl s10⟩
      have s69 := s68.trans s9
      refine lstV (GV.cons cl (GV.cons cl GV.nil)) (fun D2 H10 s10 n10 e10 => ?_) (by simp)
      have shS : SeqAt.shaped (.list [.str "Broken", .str "Broken"]) = true := by decide +kernel
      refine ⟨.list [.str "Broken", .str "Broken"], .list [.str "Broken", .str "Broken"], .lst (SqL.of (s10 _ _ eD)) (.cons (.str _) (.cons (.str _) .nil)), .lst (SqL.of e10) (.cons (.str _) (.cons (.str _) .nil)), shS, shS, ?_⟩
      rw [SeqAt.eqv_refl _ (SeqAt.canLay_of_shaped shS)]
      refine ⟨false, rfl, ?_⟩
      rw [if_neg (by decide)]
      have s610 := s69.trans s10
      have s810 := s9.trans s10
      refine z_seq ?_
      simp only [L2.start, List.map_cons, List.map_nil, List.length_cons, List.length_nil, Nat.zero_add, Nat.reduceAdd, Nat.reduceSub, List.replicate_succ, List.replicate_zero, List.cons_append, List.nil_append, List.append_nil, L2.tNext, L2.tAsg, L2.gName, L2.tRet, L2.tRetN, L2.tIfS, L2.tVar, L2.tC, L2.tOp, L2.tUn, L2.rI, L2.rI0, L2.rU, L2.rEq, L2.rNe, L2.tTest, L2.tB, L2.tIf, Z.tIfCI, Z.tIfCS, L2.tChain, L2.tCons, L2.tNil, L2.tCall, L2.tDrop, L2.tAndV, L2.tOrV, L2.tNotV, L2.tAnd, L2.tOr, L2.tNot, L2.tCB, Z.sc_ii, Z.sc_ss, Z.sc_bb, Z.sc_is, Z.sc_si, Z.sc_ni, Z.sc_in, Z.sc_ns, Z.sc_sn, Z.sc_nn, L2.CDiv, L2.CPow, L2.CMul, List.getElem?_cons_zero, List.getElem?_cons_succ, Z.set_z, Z.set_s, Option.some.injEq, L2.V.int.injEq, L2.V.bl.injEq, L2.V.str.injEq, L2.V.ref.injEq, L2.V.ty.injEq, List.cons.injEq, exists_eq_left', exists_and_left, exists_eq_left, exists_eq_right, exists_eq_right', exists_eq', exists_eq, true_and, and_true, and_assoc, decide_eq_true_eq, Int.reduceLT, and_self, Z.rIxH, Z.rIxU, Z.at30, Z.at31, Z.at32, Z.ix3_0, Z.ix3_1, Z.ix3_2, L2.rSetL, L2.gSub, Z.gTupH, L2.gCons, L2.gNil, L2.HO.lst.injEq, L2.HO.tup.injEq, L2.upd_same, L2.upd_upd, L2.tSl, L2.tNoPart, L2.tPart, L2.rSlL, L2.rCat, List.length_append, or_false, false_or, or_true, true_or, reduceCtorEq, false_and, and_false, exists_false, Int.reduceNeg, Int.reducePow, Int.reduceToNat, Int.reduceAbs, Int.reduceLE, Int.reduceMul, Int.reduceAdd, Int.reduceSub, Nat.reducePow, Nat.reduceLT, Nat.reduceLeDiff, Int.natAbs_natCast, if_true, if_false, Z.rIsN, Z.tyN, Z.kit_ii, Z.kit_bi, Z.kit_si, Z.kit_ni, Z.kit_ib, Z.kit_bb, Z.kit_sb, Z.kit_nb, Z.kit_is, Z.kit_bs, Z.kit_ss, Z.kit_ns, Bool.not_true, Bool.not_false, L2.tTup, L2.wipe, L2.tYes, Z.Turn1, L2.tNever, sizeLine_eq, Z.rInU, Z.rInH, L2.flatV, List.any_cons, List.any_nil, List.all_cons, List.all_nil, Bool.and_true, Bool.true_and, Bool.or_false, Bool.false_or, Z.tBML, L2.rAppend, Z.map_int_inj, Z.map_bl_inj, Z.rTupL, Z.rLstL, Z.rLstT, Z.rSortI, Z.rAnyH, Z.rAllH, Z.rSumH, Z.rLenL, Z.rLenU, List.length_map, L2.tPar, StX.tStar, L2.tDNewT, L2.tDIn, L2.sDPut, L2.tDGet, Z.tCallK0, List.getD_cons_zero, List.getD_cons_succ, sp__law_error, sp__law_field, sp__law_errors, sp__law_odd]
      refine lc_lst (H1 := H10) (a := L) (xs := [V.ref a, V.ref b]) (fun R h => ⟨_, rfl, h⟩) (fun F i H2 => Same H10 H2 ∧ ∃ ys : List V, H2 F = some (.lst ys) ∧ ys.length = i ∧ DxAll (hid F H2) ys (List.replicate i (.list [d, d2]))) (SqL.of (s810 _ _ eL)) (fun F hF => ⟨same_new hF, [], upd_same, rfl, .nil⟩)
        (fun F hF i H2 hP => hP.1.seq (SqL.of (s810 _ _ eL))) (fun F hF i y H2 hy hP => ?_) fun F H11 hF hP => ?_
      · obtain ⟨c, rfl, hc⟩ := isB y (List.mem_of_getElem? hy)
        obtain ⟨s11, ys, eF, lF, dF⟩ := hP
        have hi : i < 2 := (List.getElem?_eq_some_iff.mp hy).1
        refine ⟨rfl, ?_⟩
        simp only [L2.start, List.map_cons, List.map_nil, List.length_cons, List.length_nil, Nat.zero_add, Nat.reduceAdd, Nat.reduceSub, List.replicate_succ, List.replicate_zero, List.cons_append, List.nil_append, List.append_nil, L2.tNext, L2.tAsg, L2.gName, L2.tRet, L2.tRetN, L2.tIfS, L2.tVar, L2.tC, L2.tOp, L2.tUn, L2.rI, L2.rI0, L2.rU, L2.rEq, L2.rNe, L2.tTest, L2.tB, L2.tIf, Z.tIfCI, Z.tIfCS, L2.tChain, L2.tCons, L2.tNil, L2.tCall, L2.tDrop, L2.tAndV, L2.tOrV, L2.tNotV, L2.tAnd, L2.tOr, L2.tNot, L2.tCB, Z.sc_ii, Z.sc_ss, Z.sc_bb, Z.sc_is, Z.sc_si, Z.sc_ni, Z.sc_in, Z.sc_ns, Z.sc_sn, Z.sc_nn, L2.CDiv, L2.CPow, L2.CMul, List.getElem?_cons_zero, List.getElem?_cons_succ, Z.set_z, Z.set_s, Option.some.injEq, L2.V.int.injEq, L2.V.bl.injEq, L2.V.str.injEq, L2.V.ref.injEq, L2.V.ty.injEq, List.cons.injEq, exists_eq_left', exists_and_left, exists_eq_left, exists_eq_right, exists_eq_right', exists_eq', exists_eq, true_and, and_true, and_assoc, decide_eq_true_eq, Int.reduceLT, and_self, Z.rIxH, Z.rIxU, Z.at30, Z.at31, Z.at32, Z.ix3_0, Z.ix3_1, Z.ix3_2, L2.rSetL, L2.gSub, Z.gTupH, L2.gCons, L2.gNil, L2.HO.lst.injEq, L2.HO.tup.injEq, L2.upd_same, L2.upd_upd, L2.tSl, L2.tNoPart, L2.tPart, L2.rSlL, L2.rCat, List.length_append, or_false, false_or, or_true, true_or, reduceCtorEq, false_and, and_false, exists_false, Int.reduceNeg, Int.reducePow, Int.reduceToNat, Int.reduceAbs, Int.reduceLE, Int.reduceMul, Int.reduceAdd, Int.reduceSub, Nat.reducePow, Nat.reduceLT, Nat.reduceLeDiff, Int.natAbs_natCast, if_true, if_false, Z.rIsN, Z.tyN, Z.kit_ii, Z.kit_bi, Z.kit_si, Z.kit_ni, Z.kit_ib, Z.kit_bb, Z.kit_sb, Z.kit_nb, Z.kit_is, Z.kit_bs, Z.kit_ss, Z.kit_ns, Bool.not_true, Bool.not_false, L2.tTup, L2.tLst, L2.wipe, L2.tYes, Z.Turn1, L2.tNever, sizeLine_eq, Z.rInU, Z.rInH, L2.flatV, List.any_cons, List.any_nil, List.all_cons, List.all_nil, Bool.and_true, Bool.true_and, Bool.or_false, Bool.false_or, Z.tBML, L2.rAppend, Z.map_int_inj, Z.map_bl_inj, Z.rTupL, Z.rLstL, Z.rLstT, Z.rSortI, Z.rAnyH, Z.rAllH, Z.rSumH, Z.rLenL, Z.rLenU, List.length_map, L2.tPar, StX.tStar, L2.tDNewT, L2.tDIn, L2.sDPut, L2.tDGet, Z.tCallK0, List.getD_cons_zero, List.getD_cons_succ, sp__law_error, sp__law_field, sp__law_errors, sp__law_odd]
        refine .inr ⟨v, v2, hc (s810.trans s11), fun r H12 nr s12 er => ?_⟩
        have hr : r ≠ F := fun z => by
          rw [z, eF] at nr
          cases nr
        refine ⟨ys, s12 _ _ eF, by omega, same_upd (s11.trans s12) hF, by simp [lF], ?_⟩
        have sh : Same (hid F H2) (hid F (upd H12 F (.lst (ys ++ [V.ref r])))) := fun q o e => by
          by_cases z : q = F
          · rw [z] at e
            simp [hid] at e
          · rw [hid_ne z] at e ⊢
            rw [upd_ne z]
            exact s12 _ _ e
        have h12 : Same H6 (hid F (upd H12 F (.lst (ys ++ [V.ref r])))) := fun q o e => sh _ _ (by
          have e10' := s610 _ _ e
          rw [hid_ne (ne_of_none e10' hF)]
          exact s11 _ _ e10')
        have er' : hid F (upd H12 F (.lst (ys ++ [V.ref r]))) r = some (.lst [v, v2]) := by rw [hid_ne hr, upd_ne hr]; exact er
        have app : ∀ {G : Hp} {as : List V} {ds : List PyData} {x : V} {e : PyData}, DxAll G as ds → Dx G x e → DxAll G (as ++ [x]) (ds ++ [e]) := by
          intro G as ds x e h hx
          induction as generalizing ds with
          | nil =>
            cases h
            exact .cons hx .nil
          | cons y as ih =>
            cases h with
            | cons h1 h2 => exact .cons h1 (ih h2)
        rw [← List.replicate_succ, List.replicate_succ']
        exact app (DxAll.same sh _ _ dF) (.lst er' (.cons (hd h12) (.cons (hd2 h12) .nil)))
      obtain ⟨s11, ys, eF, lF, dF⟩ := hP
      have dF' : DxAll H11 ys [.list [d, d2], .list [d, d2]] := DxAll.same (hid_le F H11) _ _ dF
      obtain ⟨ok3, sz3, dp3⟩ := two_ok ok ok2
      refine ⟨.ref F, _, rfl, .lst eF dF', ok3, sz3, dp3, ?_⟩
      simp only [L2.start, List.map_cons, List.map_nil, List.length_cons, List.length_nil, Nat.zero_add, Nat.reduceAdd, Nat.reduceSub, List.replicate_succ, List.replicate_zero, List.cons_append, List.nil_append, List.append_nil, L2.tNext, L2.tAsg, L2.gName, L2.tRet, L2.tRetN, L2.tIfS, L2.tVar, L2.tC, L2.tOp, L2.tUn, L2.rI, L2.rI0, L2.rU, L2.rEq, L2.rNe, L2.tTest, L2.tB, L2.tIf, Z.tIfCI, Z.tIfCS, L2.tChain, L2.tCons, L2.tNil, L2.tCall, L2.tDrop, L2.tAndV, L2.tOrV, L2.tNotV, L2.tAnd, L2.tOr, L2.tNot, L2.tCB, Z.sc_ii, Z.sc_ss, Z.sc_bb, Z.sc_is, Z.sc_si, Z.sc_ni, Z.sc_in, Z.sc_ns, Z.sc_sn, Z.sc_nn, L2.CDiv, L2.CPow, L2.CMul, List.getElem?_cons_zero, List.getElem?_cons_succ, Z.set_z, Z.set_s, Option.some.injEq, L2.V.int.injEq, L2.V.bl.injEq, L2.V.str.injEq, L2.V.ref.injEq, L2.V.ty.injEq, List.cons.injEq, exists_eq_left', exists_and_left, exists_eq_left, exists_eq_right, exists_eq_right', exists_eq', exists_eq, true_and, and_true, and_assoc, decide_eq_true_eq, Int.reduceLT, and_self, Z.rIxH, Z.rIxU, Z.at30, Z.at31, Z.at32, Z.ix3_0, Z.ix3_1, Z.ix3_2, L2.rSetL, L2.gSub, Z.gTupH, L2.gCons, L2.gNil, L2.HO.lst.injEq, L2.HO.tup.injEq, L2.upd_same, L2.upd_upd, L2.tSl, L2.tNoPart, L2.tPart, L2.rSlL, L2.rCat, List.length_append, or_false, false_or, or_true, true_or, reduceCtorEq, false_and, and_false, exists_false, Int.reduceNeg, Int.reducePow, Int.reduceToNat, Int.reduceAbs, Int.reduceLE, Int.reduceMul, Int.reduceAdd, Int.reduceSub, Nat.reducePow, Nat.reduceLT, Nat.reduceLeDiff, Int.natAbs_natCast, if_true, if_false, Z.rIsN, Z.tyN, Z.kit_ii, Z.kit_bi, Z.kit_si, Z.kit_ni, Z.kit_ib, Z.kit_bb, Z.kit_sb, Z.kit_nb, Z.kit_is, Z.kit_bs, Z.kit_ss, Z.kit_ns, Bool.not_true, Bool.not_false, L2.tTup, L2.tLst, L2.wipe, L2.tYes, Z.Turn1, L2.tNever, sizeLine_eq, Z.rInU, Z.rInH, L2.flatV, List.any_cons, List.any_nil, List.all_cons, List.all_nil, Bool.and_true, Bool.true_and, Bool.or_false, Bool.false_or, Z.tBML, L2.rAppend, Z.map_int_inj, Z.map_bl_inj, Z.rTupL, Z.rLstL, Z.rLstT, Z.rSortI, Z.rAnyH, Z.rAllH, Z.rSumH, Z.rLenL, Z.rLenU, List.length_map, L2.tPar, StX.tStar, L2.tDNewT, L2.tDIn, L2.sDPut, L2.tDGet, Z.tCallK0, List.getD_cons_zero, List.getD_cons_succ, sp__law_error, sp__law_field, sp__law_errors, sp__law_odd]
      have s611 := s610.trans s11
      refine fun r1 hr1 r2 hr2 r3 hr3 => ?_
      have t1 := same_new (o := .lst [v, v2]) hr1
      have t2 := same_new (o := .lst [v, v2]) hr2
      have t3 := same_new (o := .lst [.ref r1, .ref r2]) hr3
      have t23 := t2.trans t3
      have s614 := s611.trans (t1.trans t23)
      refine ⟨.ref r3, _, rfl, .lst upd_same (.cons (.lst (t23 _ _ upd_same) (.cons (hd s614) (.cons (hd2 s614) .nil))) (.cons (.lst (t3 _ _ upd_same) (.cons (hd s614) (.cons (hd2 s614) .nil))) .nil)), ok3, sz3, dp3, ?_⟩
      refine ⟨by simp only [scal], ?_⟩
      rw [if_neg (by simp)]
      refine fun e he => ⟨e, rfl, 17, "NothingToUndo", rfl, none, upd_same, fun H' s => ?_⟩
      rw [decide_eq_true rfl]
      exact q H' (k2.same (((s6.trans s614).trans (same_new he)).trans s))
def sp_law (K : PySem.W.Frag) : Sp := fun vs H Q _ => ∃ (a : Addr) (ns : List Int), vs = [.ref a] ∧ SqL K H a (ns.map V.int) ∧ ns.length ≤ 63 ∧ ∀ H', Q (.bl true) H'
theorem ok_law (T : Env P K mg) : HdG P w K mg base CX0 5 "law" s_law ["_law_script"] (sp_law K) := by
  have H__law_right := ok__law_right (P := P) (w := w) (base := base) T
  have H__law_spring := ok__law_spring (P := P) (w := w) (base := base) T
  obtain ⟨f, fd, F, hm⟩ := T.d_law
  refine ⟨⟨f, fd, F, hm, ?_⟩, fun _ _ _ _ _ _ _ us hl => match us, hl with | [_], _ => rfl⟩
  refine fun_okG F sc_law (fun vs H Q E h => ?_) (fun cdv A outer s H vs Q E hr gd h => ?_)
  · first | (obtain ⟨rfl, _⟩ := h; rfl) | (obtain ⟨_, rfl, _⟩ := h; rfl) | (obtain ⟨_, _, rfl, _⟩ := h; rfl) | (obtain ⟨_, _, _, rfl, _⟩ := h; rfl) | (obtain ⟨_, _, _, _, rfl, _⟩ := h; rfl) | (obtain ⟨_, _, _, _, _, rfl, _⟩ := h; rfl) | (obtain ⟨_, _, _, _, _, _, rfl, _⟩ := h; rfl) | (obtain ⟨_, _, _, _, _, _, _, rfl, _⟩ := h; rfl) | (obtain ⟨_, _, _, _, _, _, _, _, rfl, _⟩ := h; rfl)
  · obtain ⟨a, ns, rfl, hs, hl, q⟩ := h
    have hu := hu_of hr
    refine ⟨_, pss_cons (ps_set (i := 1) sc_law.nd rfl (by first | exact .inl rfl | exact .inr rfl) (pe_lst (pa_cons (pe_glob (v := .int 15) rfl T.c_MOST_PEOPLE.choose_spec ⟨_, rfl⟩) (pa_cons (pe_glob (v := .int 8) rfl T.c_MOST_GUESTS.choose_spec ⟨_, rfl⟩) (pa_cons (pe_glob (v := .int 28) rfl T.c_MOST_TIES.choose_spec ⟨_, rfl⟩) (pa_cons (pe_glob (v := .int 6) rfl T.c_MOST_OPEN.choose_spec ⟨_, rfl⟩) (pa_cons (pe_glob (v := .int 1000000000000000000000000000000) rfl T.c_MOST_ZIGZAG.choose_spec ⟨_, rfl⟩) (pa_cons (pe_glob (v := .int 5) rfl T.c_MOST_EXCHANGES.choose_spec ⟨_, rfl⟩) pa_nil))))))))
      (pss_cons (ps_if (pt_cmpR op_ne (pe_callB (call_reprX hr.units gd) rfl T.b_repr (by decide +kernel) (pa_cons (pv 1) pa_nil)) (pe_callB (call_reprX hr.units gd) rfl T.b_repr (by decide +kernel) (pa_cons (pe_lst (pa_cons pe_int (pa_cons pe_int (pa_cons pe_int (pa_cons pe_int (pa_cons (pe_op op_pow pe_int pe_int) (pa_cons pe_int pa_nil))))))) pa_nil)) (nomark _)) (pss_one (ps_ret pe_bl))
      (pss_nil))
      (pss_cons (ps_set (i := 2) sc_law.nd rfl (by first | exact .inl rfl | exact .inr rfl) (pe_lst (pa_cons (pe_callB call_isX rfl T.b_isinstance (by decide +kernel) (pa_cons (pe_x0 T.x_WrongValue) (pa_cons (pe_bltn (v := .ty "ValueError") (by rfl) T.b_ValueError (by decide +kernel) rfl) pa_nil))) (pa_cons (pe_callB call_isX rfl T.b_isinstance (by decide +kernel) (pa_cons (pe_x0 T.x_WrongName) (pa_cons (pe_bltn (v := .ty "LookupError") (by rfl) T.b_LookupError (by decide +kernel) rfl) pa_nil))) pa_nil))))
      (pss_cons (ps_set (i := 2) sc_law.nd rfl (by first | exact .inl rfl | exact .inr rfl) (pe_op op_cat (pv 2) (pe_lst (pa_cons (pe_callB call_isX rfl T.b_isinstance (by decide +kernel) (pa_cons (pe_x0 T.x_NoAnswer) (pa_cons (pe_bltn (v := .ty "ArithmeticError") (by rfl) T.b_ArithmeticError (by decide +kernel) rfl) pa_nil))) (pa_cons (pe_callB call_isX rfl T.b_isinstance (by decide +kernel) (pa_cons (pe_x0 T.x_NoAnswer) (pa_cons (pe_glob (v := .ref (clsA mg "WrongValue")) rfl T.x_WrongValue.at_ rfl) pa_nil))) pa_nil)))))
      (pss_cons (ps_if (pt_cmpR (op_neB hr.units) (pv 2) (pe_lst (pa_cons pe_bl (pa_cons pe_bl (pa_cons pe_bl (pa_cons pe_bl pa_nil))))) (nomark _)) (pss_one (ps_ret pe_bl))
      (pss_nil))
      (pss_one (ps_ret (pe_callB (cr_allH rfl) rfl T.b_all (by decide +kernel) (pa_cons (pe_lc (own := [("_law_k", 3)]) (g := (gName 3)) (tt := tYes) rfl sc_law.nd (pi_range1 rfl T.b_range (pa_cons (pe_callB (call_max2 rfl) rfl T.b_max (by decide +kernel) (pa_cons pe_int (pa_cons (pe_callB (call_min2 rfl) rfl T.b_min (by decide +kernel) (pa_cons (pe_callB call_len_seq rfl T.b_len (by decide +kernel) (pa_cons (pv 0) pa_nil)) (pa_cons pe_int pa_nil))) pa_nil))) pa_nil)) (blkOk_by (own := [("_law_k", 3)]) (N := N_law) (sc := defScope s_law) (by decide +kernel)) (fun _ _ _ _ _ => pg_name (i := 3) sc_law.nd rfl (by first | exact .inl rfl | exact .inr rfl)) (fun _ _ _ _ _ => pts_nil) (fun _ _ _ _ _ => (pe_hdG H__law_right (hr.mono (by decide)) gd rfl pass0 (pa_cons (pe_hd H__law_spring (hr.mono (by decide)) rfl pass0 (pa_cons (pv 0) (pa_cons (pv 3) pa_nil))) pa_nil)))) pa_nil)))))))), ?_⟩
    have cl : ∀ {H' : Hp} {σ : L2.St} {v : V} (R : VK), R v H' → tC v σ H' R := fun R r => r
    refine z_seq ?_
    simp only [L2.start, List.map_cons, List.map_nil, List.length_cons, List.length_nil, Nat.zero_add, Nat.reduceAdd, Nat.reduceSub, List.replicate_succ, List.replicate_zero, List.cons_append, List.nil_append, List.append_nil, L2.tNext, L2.tAsg, L2.gName, L2.tRet, L2.tRetN, L2.tIfS, L2.tVar, L2.tC, L2.tOp, L2.tUn, L2.rI, L2.rI0, L2.rU, L2.rEq, L2.rNe, L2.tTest, L2.tB, L2.tIf, Z.tIfCI, Z.tIfCS, L2.tChain, L2.tCons, L2.tNil, L2.tCall, L2.tDrop, L2.tAndV, L2.tOrV, L2.tNotV, L2.tAnd, L2.tOr, L2.tNot, L2.tCB, Z.sc_ii, Z.sc_ss, Z.sc_bb, Z.sc_is, Z.sc_si, Z.sc_ni, Z.sc_in, Z.sc_ns, Z.sc_sn, Z.sc_nn, L2.CDiv, L2.CPow, L2.CMul, List.getElem?_cons_zero, List.getElem?_cons_succ, Z.set_z, Z.set_s, Option.some.injEq, L2.V.int.injEq, L2.V.bl.injEq, L2.V.str.injEq, L2.V.ref.injEq, L2.V.ty.injEq, List.cons.injEq, exists_eq_left', exists_and_left, exists_eq_left, exists_eq_right, exists_eq_right', exists_eq', exists_eq, true_and, and_true, and_assoc, decide_eq_true_eq, Int.reduceLT, and_self, Z.rIxH, Z.rIxU, Z.at30, Z.at31, Z.at32, Z.ix3_0, Z.ix3_1, Z.ix3_2, L2.rSetL, L2.gSub, Z.gTupH, L2.gCons, L2.gNil, L2.HO.lst.injEq, L2.HO.tup.injEq, L2.upd_same, L2.upd_upd, L2.tSl, L2.tNoPart, L2.tPart, L2.rSlL, L2.rCat, List.length_append, or_false, false_or, or_true, true_or, reduceCtorEq, false_and, and_false, exists_false, Int.reduceNeg, Int.reducePow, Int.reduceToNat, Int.reduceAbs, Int.reduceLE, Int.reduceMul, Int.reduceAdd, Int.reduceSub, Nat.reducePow, Nat.reduceLT, Nat.reduceLeDiff, Int.natAbs_natCast, if_true, if_false, Z.rIsN, Z.tyN, Z.kit_ii, Z.kit_bi, Z.kit_si, Z.kit_ni, Z.kit_ib, Z.kit_bb, Z.kit_sb, Z.kit_nb, Z.kit_is, Z.kit_bs, Z.kit_ss, Z.kit_ns, Bool.not_true, Bool.not_false, L2.tTup, L2.tLst, L2.wipe, L2.tYes, Z.Turn1, L2.tNever, sizeLine_eq, Z.rInU, Z.rInH, L2.flatV, List.any_cons, List.any_nil, List.all_cons, List.all_nil, Bool.and_true, Bool.true_and, Bool.or_false, Bool.false_or, Z.tBML, L2.rAppend, Z.map_int_inj, Z.map_bl_inj, Z.rTupL, Z.rLstL, Z.rLstT, Z.rSortI, Z.rAnyH, Z.rAllH, Z.rSumH, Z.rLenL, Z.rLenU, List.length_map, L2.tPar, StX.tStar, L2.tDNewT, L2.tDIn, L2.sDPut, L2.tDGet, Z.tCallK0, List.getD_cons_zero, List.getD_cons_succ, sp__law_right, sp__law_spring]
    refine fun p1 hp1 => ?_
    refine z_seq ?_
    simp only [L2.start, List.map_cons, List.map_nil, List.length_cons, List.length_nil, Nat.zero_add, Nat.reduceAdd, Nat.reduceSub, List.replicate_succ, List.replicate_zero, List.cons_append, List.nil_append, List.append_nil, L2.tNext, L2.tAsg, L2.gName, L2.tRet, L2.tRetN, L2.tIfS, L2.tVar, L2.tC, L2.tOp, L2.tUn, L2.rI, L2.rI0, L2.rU, L2.rEq, L2.rNe, L2.tTest, L2.tB, L2.tIf, Z.tIfCI, Z.tIfCS, L2.tChain, L2.tCons, L2.tNil, L2.tCall, L2.tDrop, L2.tAndV, L2.tOrV, L2.tNotV, L2.tAnd, L2.tOr, L2.tNot, L2.tCB, Z.sc_ii, Z.sc_ss, Z.sc_bb, Z.sc_is, Z.sc_si, Z.sc_ni, Z.sc_in, Z.sc_ns, Z.sc_sn, Z.sc_nn, L2.CDiv, L2.CPow, L2.CMul, List.getElem?_cons_zero, List.getElem?_cons_succ, Z.set_z, Z.set_s, Option.some.injEq, L2.V.int.injEq, L2.V.bl.injEq, L2.V.str.injEq, L2.V.ref.injEq, L2.V.ty.injEq, List.cons.injEq, exists_eq_left', exists_and_left, exists_eq_left, exists_eq_right, exists_eq_right', exists_eq', exists_eq, true_and, and_true, and_assoc, decide_eq_true_eq, Int.reduceLT, and_self, Z.rIxH, Z.rIxU, Z.at30, Z.at31, Z.at32, Z.ix3_0, Z.ix3_1, Z.ix3_2, L2.rSetL, L2.gSub, Z.gTupH, L2.gCons, L2.gNil, L2.HO.lst.injEq, L2.HO.tup.injEq, L2.upd_same, L2.upd_upd, L2.tSl, L2.tNoPart, L2.tPart, L2.rSlL, L2.rCat, List.length_append, or_false, false_or, or_true, true_or, reduceCtorEq, false_and, and_false, exists_false, Int.reduceNeg, Int.reducePow, Int.reduceToNat, Int.reduceAbs, Int.reduceLE, Int.reduceMul, Int.reduceAdd, Int.reduceSub, Nat.reducePow, Nat.reduceLT, Nat.reduceLeDiff, Int.natAbs_natCast, if_true, if_false, Z.rIsN, Z.tyN, Z.kit_ii, Z.kit_bi, Z.kit_si, Z.kit_ni, Z.kit_ib, Z.kit_bb, Z.kit_sb, Z.kit_nb, Z.kit_is, Z.kit_bs, Z.kit_ss, Z.kit_ns, Bool.not_true, Bool.not_false, L2.tTup, L2.tLst, L2.wipe, L2.tYes, Z.Turn1, L2.tNever, sizeLine_eq, Z.rInU, Z.rInH, L2.flatV, List.any_cons, List.any_nil, List.all_cons, List.all_nil, Bool.and_true, Bool.true_and, Bool.or_false, Bool.false_or, Z.tBML, L2.rAppend, Z.map_int_inj, Z.map_bl_inj, Z.rTupL, Z.rLstL, Z.rLstT, Z.rSortI, Z.rAnyH, Z.rAllH, Z.rSumH, Z.rLenL, Z.rLenU, List.length_map, L2.tPar, StX.tStar, L2.tDNewT, L2.tDIn, L2.sDPut, L2.tDGet, Z.tCallK0, List.getD_cons_zero, List.getD_cons_succ, sp__law_right, sp__law_spring]
    have six : ∀ {G : Hp}, DxAll G [.int 15, .int 8, .int 28, .int 6, .int 1000000000000000000000000000000, .int 5] [.int 15, .int 8, .int 28, .int 6, .int 1000000000000000000000000000000, .int 5] := .cons (.int _) (.cons (.int _) (.cons (.int _) (.cons (.int _) (.cons (.int _) (.cons (.int _) .nil)))))
    have sh : (PyData.list [.int 15, .int 8, .int 28, .int 6, .int 1000000000000000000000000000000, .int 5]).showable = true := by decide +kernel
    have sz : (PyData.list [.int 15, .int 8, .int 28, .int 6, .int 1000000000000000000000000000000, .int 5]).shown.length ≤ sizeLine := Nat.le_trans (m := 100) (by decide +kernel) (by rw [sizeLine_eq]; decide)
    have dp : (PyData.list [.int 15, .int 8, .int 28, .int 6, .int 1000000000000000000000000000000, .int 5]).depth ≤ 60 := by decide +kernel
    refine ⟨_, _, rfl, .lst upd_same six, sh, sz, dp, fun p2 hp2 => ⟨_, _, rfl, .lst upd_same six, sh, sz, dp, ?_⟩⟩
    refine ⟨by simp only [scal], ?_⟩
    rw [if_neg (by simp)]
    have s2 := (same_new (o := .lst [.int 15, .int 8, .int 28, .int 6, .int 1000000000000000000000000000000, .int 5]) hp1).trans (same_new (o := .lst [.int 15, .int 8, .int 28, .int 6, .int 1000000000000000000000000000000, .int 5]) hp2)
    generalize upd (upd H p1 _) p2 _ = H2 at s2 ⊢
    have xv : ∀ {i j : Nat} {w : Str} {G : Hp} {c : V} {d : Value} {R : VK}, excN[i]? = some w → (excD mg)[j]? = some d → ClsV c d → (∀ a G2, Same G G2 → R (.bl (und i j)) G2) → tX0 mg w [] G fun v G2 => rIsX K [v, c] G2 R := fun {i j w G c d R} hw hj hc r b hb =>
      isX_of (fs := none) (show IsX _ b (clsA mg w) none from upd_same) (exk_of T w (List.mem_of_getElem? hw)) hc (kit_und T.t_err (by unfold excV; rw [List.getElem?_map, hw]; rfl) hj) (r b _ (same_new hb))
    refine z_seq ?_
    simp only [L2.start, List.map_cons, List.map_nil, List.length_cons, List.length_nil, Nat.zero_add, Nat.reduceAdd, Nat.reduceSub, List.replicate_succ, List.replicate_zero, List.cons_append, List.nil_append, List.append_nil, L2.tNext, L2.tAsg, L2.gName, L2.tRet, L2.tRetN, L2.tIfS, L2.tVar, L2.tC, L2.tOp, L2.tUn, L2.rI, L2.rI0, L2.rU, L2.rEq, L2.rNe, L2.tTest, L2.tB, L2.tIf, Z.tIfCI, Z.tIfCS, L2.tChain, L2.tCons, L2.tNil, L2.tCall, L2.tDrop, L2.tAndV, L2.tOrV, L2.tNotV, L2.tAnd, L2.tOr, L2.tNot, L2.tCB, Z.sc_ii, Z.sc_ss, Z.sc_bb, Z.sc_is, Z.sc_si, Z.sc_ni, Z.sc_in, Z.sc_ns, Z.sc_sn, Z.sc_nn, L2.CDiv, L2.CPow, L2.CMul, List.getElem?_cons_zero, List.getElem?_cons_succ, Z.set_z, Z.set_s, Option.some.injEq, L2.V.int.injEq, L2.V.bl.injEq, L2.V.str.injEq, L2.V.ref.injEq, L2.V.ty.injEq, List.cons.injEq, exists_eq_left', exists_and_left, exists_eq_left, exists_eq_right, exists_eq_right', exists_eq', exists_eq, true_and, and_true, and_assoc, decide_eq_true_eq, Int.reduceLT, and_self, Z.rIxH, Z.rIxU, Z.at30, Z.at31, Z.at32, Z.ix3_0, Z.ix3_1, Z.ix3_2, L2.rSetL, L2.gSub, Z.gTupH, L2.gCons, L2.gNil, L2.HO.lst.injEq, L2.HO.tup.injEq, L2.upd_same, L2.upd_upd, L2.tSl, L2.tNoPart, L2.tPart, L2.rSlL, L2.rCat, List.length_append, or_false, false_or, or_true, true_or, reduceCtorEq, false_and, and_false, exists_false, Int.reduceNeg, Int.reducePow, Int.reduceToNat, Int.reduceAbs, Int.reduceLE, Int.reduceMul, Int.reduceAdd, Int.reduceSub, Nat.reducePow, Nat.reduceLT, Nat.reduceLeDiff, Int.natAbs_natCast, if_true, if_false, Z.rIsN, Z.tyN, Z.kit_ii, Z.kit_bi, Z.kit_si, Z.kit_ni, Z.kit_ib, Z.kit_bb, Z.kit_sb, Z.kit_nb, Z.kit_is, Z.kit_bs, Z.kit_ss, Z.kit_ns, Bool.not_true, Bool.not_false, L2.tTup, L2.tLst, L2.wipe, L2.tYes, Z.Turn1, L2.tNever, sizeLine_eq, Z.rInU, Z.rInH, L2.flatV, List.any_cons, List.any_nil, List.all_cons, List.all_nil, Bool.and_true, Bool.true_and, Bool.or_false, Bool.false_or, Z.tBML, L2.rAppend, Z.map_int_inj, Z.map_bl_inj, Z.rTupL, Z.rLstL, Z.rLstT, Z.rSortI, Z.rAnyH, Z.rAllH, Z.rSumH, Z.rLenL, Z.rLenU, List.length_map, L2.tPar, StX.tStar, L2.tDNewT, L2.tDIn, L2.sDPut, L2.tDGet, Z.tCallK0, List.getD_cons_zero, List.getD_cons_succ, sp__law_right, sp__law_spring]
    refine xv (i := 18) (j := 21) rfl rfl (.ty _) fun b1 H3 s3 => ?_
    refine xv (i := 19) (j := 22) rfl rfl (.ty _) fun b2 H4 s4 => ?_
    refine fun p3 hp3 => ?_
    have s5 := ((s2.trans s3).trans s4).trans (same_new (o := .lst [.bl (und 18 21), .bl (und 19 22)]) hp3)
    have e5 : upd H4 p3 (.lst [.bl (und 18 21), .bl (und 19 22)]) p3 = some (.lst [.bl (und 18 21), .bl (und 19 22)]) := upd_same
    generalize upd H4 p3 (.lst [.bl (und 18 21), .bl (und 19 22)]) = H5 at s5 e5 ⊢
    refine z_seq ?_
    simp only [L2.start, List.map_cons, List.map_nil, List.length_cons, List.length_nil, Nat.zero_add, Nat.reduceAdd, Nat.reduceSub, List.replicate_succ, List.replicate_zero, List.cons_append, List.nil_append, List.append_nil, L2.tNext, L2.tAsg, L2.gName, L2.tRet, L2.tRetN, L2.tIfS, L2.tVar, L2.tC, L2.tOp, L2.tUn, L2.rI, L2.rI0, L2.rU, L2.rEq, L2.rNe, L2.tTest, L2.tB, L2.tIf, Z.tIfCI, Z.tIfCS, L2.tChain, L2.tCons, L2.tNil, L2.tCall, L2.tDrop, L2.tAndV, L2.tOrV, L2.tNotV, L2.tAnd, L2.tOr, L2.tNot, L2.tCB, Z.sc_ii, Z.sc_ss, Z.sc_bb, Z.sc_is, Z.sc_si, Z.sc_ni, Z.sc_in, Z.sc_ns, Z.sc_sn, Z.sc_nn, L2.CDiv, L2.CPow, L2.CMul, List.getElem?_cons_zero, List.getElem?_cons_succ, Z.set_z, Z.set_s, Option.some.injEq, L2.V.int.injEq, L2.V.bl.injEq, L2.V.str.injEq, L2.V.ref.injEq, L2.V.ty.injEq, List.cons.injEq, exists_eq_left', exists_and_left, exists_eq_left, exists_eq_right, exists_eq_right', exists_eq', exists_eq, true_and, and_true, and_assoc, decide_eq_true_eq, Int.reduceLT, and_self, Z.rIxH, Z.rIxU, Z.at30, Z.at31, Z.at32, Z.ix3_0, Z.ix3_1, Z.ix3_2, L2.rSetL, L2.gSub, Z.gTupH, L2.gCons, L2.gNil, L2.HO.lst.injEq, L2.HO.tup.injEq, L2.upd_same, L2.upd_upd, L2.tSl, L2.tNoPart, L2.tPart, L2.rSlL, L2.rCat, List.length_append, or_false, false_or, or_true, true_or, reduceCtorEq, false_and, and_false, exists_false, Int.reduceNeg, Int.reducePow, Int.reduceToNat, Int.reduceAbs, Int.reduceLE, Int.reduceMul, Int.reduceAdd, Int.reduceSub, Nat.reducePow, Nat.reduceLT, Nat.reduceLeDiff, Int.natAbs_natCast, if_true, if_false, Z.rIsN, Z.tyN, Z.kit_ii, Z.kit_bi, Z.kit_si, Z.kit_ni, Z.kit_ib, Z.kit_bb, Z.kit_sb, Z.kit_nb, Z.kit_is, Z.kit_bs, Z.kit_ss, Z.kit_ns, Bool.not_true, Bool.not_false, L2.tTup, L2.tLst, L2.wipe, L2.tYes, Z.Turn1, L2.tNever, sizeLine_eq, Z.rInU, Z.rInH, L2.flatV, List.any_cons, List.any_nil, List.all_cons, List.all_nil, Bool.and_true, Bool.true_and, Bool.or_false, Bool.false_or, Z.tBML, L2.rAppend, Z.map_int_inj, Z.map_bl_inj, Z.rTupL, Z.rLstL, Z.rLstT, Z.rSortI, Z.rAnyH, Z.rAllH, Z.rSumH, Z.rLenL, Z.rLenU, List.length_map, L2.tPar, StX.tStar, L2.tDNewT, L2.tDIn, L2.sDPut, L2.tDGet, Z.tCallK0, List.getD_cons_zero, List.getD_cons_succ, sp__law_right, sp__law_spring]
    refine xv (i := 20) (j := 23) rfl rfl (.ty _) fun b3 H6 s6 => ?_
    refine xv (i := 20) (j := 18) rfl rfl (.own _) fun b4 H7 s7 => ?_
    refine fun p4 hp4 => ?_
    have s8 := ((s5.trans s6).trans s7).trans (same_new (o := .lst [.bl (und 20 23), .bl (und 20 18)]) hp4)
    have e8 := same_new (o := .lst [.bl (und 20 23), .bl (und 20 18)]) hp4 _ _ (s7 _ _ (s6 _ _ e5))
    generalize upd H7 p4 (.lst [.bl (und 20 23), .bl (und 20 18)]) = H8 at s8 e8 ⊢
    refine ⟨_, e8, by simp, fun p5 hp5 => ?_⟩
    have e9 : upd H8 p5 (.lst ([.bl (und 18 21), .bl (und 19 22)] ++ [.bl (und 20 23), .bl (und 20 18)])) p5 = some (.lst ([und 18 21, und 19 22, und 20 23, und 20 18].map V.bl)) := upd_same
    have s9 := s8.trans (same_new (o := .lst ([.bl (und 18 21), .bl (und 19 22)] ++ [.bl (und 20 23), .bl (und 20 18)])) hp5)
    generalize upd H8 p5 (.lst ([.bl (und 18 21), .bl (und 19 22)] ++ [.bl (und 20 23), .bl (und 20 18)])) = H9 at s9 e9 ⊢
    refine z_seq ?_
    simp only [L2.start, List.map_cons, List.map_nil, List.length_cons, List.length_nil, Nat.zero_add, Nat.reduceAdd, Nat.reduceSub, List.replicate_succ, List.replicate_zero, List.cons_append, List.nil_append, List.append_nil, L2.tNext, L2.tAsg, L2.gName, L2.tRet, L2.tRetN, L2.tIfS, L2.tVar, L2.tC, L2.tOp, L2.tUn, L2.rI, L2.rI0, L2.rU, L2.rEq, L2.rNe, L2.tTest, L2.tB, L2.tIf, Z.tIfCI, Z.tIfCS, L2.tChain, L2.tCons, L2.tNil, L2.tCall, L2.tDrop, L2.tAndV, L2.tOrV, L2.tNotV, L2.tAnd, L2.tOr, L2.tNot, L2.tCB, Z.sc_ii, Z.sc_ss, Z.sc_bb, Z.sc_is, Z.sc_si, Z.sc_ni, Z.sc_in, Z.sc_ns, Z.sc_sn, Z.sc_nn, L2.CDiv, L2.CPow, L2.CMul, List.getElem?_cons_zero, List.getElem?_cons_succ, Z.set_z, Z.set_s, Option.some.injEq, L2.V.int.injEq, L2.V.bl.injEq, L2.V.str.injEq, L2.V.ref.injEq, L2.V.ty.injEq, List.cons.injEq, exists_eq_left', exists_and_left, exists_eq_left, exists_eq_right, exists_eq_right', exists_eq', exists_eq, true_and, and_true, and_assoc, decide_eq_true_eq, Int.reduceLT, and_self, Z.rIxH, Z.rIxU, Z.at30, Z.at31, Z.at32, Z.ix3_0, Z.ix3_1, Z.ix3_2, L2.rSetL, L2.gSub, Z.gTupH, L2.gCons, L2.gNil, L2.HO.lst.injEq, L2.HO.tup.injEq, L2.upd_same, L2.upd_upd, L2.tSl, L2.tNoPart, L2.tPart, L2.rSlL, L2.rCat, List.length_append, or_false, false_or, or_true, true_or, reduceCtorEq, false_and, and_false, exists_false, Int.reduceNeg, Int.reducePow, Int.reduceToNat, Int.reduceAbs, Int.reduceLE, Int.reduceMul, Int.reduceAdd, Int.reduceSub, Nat.reducePow, Nat.reduceLT, Nat.reduceLeDiff, Int.natAbs_natCast, if_true, if_false, Z.rIsN, Z.tyN, Z.kit_ii, Z.kit_bi, Z.kit_si, Z.kit_ni, Z.kit_ib, Z.kit_bb, Z.kit_sb, Z.kit_nb, Z.kit_is, Z.kit_bs, Z.kit_ss, Z.kit_ns, Bool.not_true, Bool.not_false, L2.tTup, L2.tLst, L2.wipe, L2.tYes, Z.Turn1, L2.tNever, sizeLine_eq, Z.rInU, Z.rInH, L2.flatV, List.any_cons, List.any_nil, List.all_cons, List.all_nil, Bool.and_true, Bool.true_and, Bool.or_false, Bool.false_or, Z.tBML, L2.rAppend, Z.map_int_inj, Z.map_bl_inj, Z.rTupL, Z.rLstL, Z.rLstT, Z.rSortI, Z.rAnyH, Z.rSumH, Z.rLenL, Z.rLenU, List.length_map, L2.tPar, StX.tStar, L2.tDNewT, L2.tDIn, L2.sDPut, L2.tDGet, Z.tCallK0, List.getD_cons_zero, List.getD_cons_succ, sp__law_right, sp__law_spring]
    refine fun p6 hp6 => ⟨p5, p6, _, [true, true, true, false], rfl, rfl, same_new hp6 _ _ e9, upd_same, _, rfl, ?_⟩
    rw [if_neg (by decide)]
    have hs' := (s9.trans (same_new (o := .lst [.bl true, .bl true, .bl true, .bl false]) hp6)).seq hs
    generalize upd H9 p6 _ = HZ at hs' ⊢
    exact tail_A (i := 3) (n := if (if (4 : Int) < ns.length then 4 else (ns.length : Int)) > 2 then (if (4 : Int) < ns.length then 4 else (ns.length : Int)) else 2) (fun R h => by
      simp only [L2.start, List.map_cons, List.map_nil, List.length_cons, List.length_nil, Nat.zero_add, Nat.reduceAdd, Nat.reduceSub, List.replicate_succ, List.replicate_zero, List.cons_append, List.nil_append, List.append_nil, L2.tNext, L2.tAsg, L2.gName, L2.tRet, L2.tRetN, L2.tIfS, L2.tVar, L2.tC, L2.tOp, L2.tUn, L2.rI, L2.rI0, L2.rU, L2.rEq, L2.rNe, L2.tTest, L2.tB, L2.tIf, Z.tIfCI, Z.tIfCS, L2.tChain, L2.tCons, L2.tNil, L2.tCall, L2.tDrop, L2.tAndV, L2.tOrV, L2.tNotV, L2.tAnd, L2.tOr, L2.tNot, L2.tCB, Z.sc_ii, Z.sc_ss, Z.sc_bb, Z.sc_is, Z.sc_si, Z.sc_ni, Z.sc_in, Z.sc_ns, Z.sc_sn, Z.sc_nn, L2.CDiv, L2.CPow, L2.CMul, List.getElem?_cons_zero, List.getElem?_cons_succ, Z.set_z, Z.set_s, Option.some.injEq, L2.V.int.injEq, L2.V.bl.injEq, L2.V.str.injEq, L2.V.ref.injEq, L2.V.ty.injEq, List.cons.injEq, exists_eq_left', exists_and_left, exists_eq_left, exists_eq_right, exists_eq_right', exists_eq', exists_eq, true_and, and_true, and_assoc, decide_eq_true_eq, Int.reduceLT, and_self, Z.rIxH, Z.rIxU, Z.at30, Z.at31, Z.at32, Z.ix3_0, Z.ix3_1, Z.ix3_2, L2.rSetL, L2.gSub, Z.gTupH, L2.gCons, L2.gNil, L2.HO.lst.injEq, L2.HO.tup.injEq, L2.upd_same, L2.upd_upd, L2.tSl, L2.tNoPart, L2.tPart, L2.rSlL, L2.rCat, List.length_append, or_false, false_or, or_true, true_or, reduceCtorEq, false_and, and_false, exists_false, Int.reduceNeg, Int.reducePow, Int.reduceToNat, Int.reduceAbs, Int.reduceLE, Int.reduceMul, Int.reduceAdd, Int.reduceSub, Nat.reducePow, Nat.reduceLT, Nat.reduceLeDiff, Int.natAbs_natCast, if_true, if_false, Z.rIsN, Z.tyN, Z.kit_ii, Z.kit_bi, Z.kit_si, Z.kit_ni, Z.kit_ib, Z.kit_bb, Z.kit_sb, Z.kit_nb, Z.kit_is, Z.kit_bs, Z.kit_ss, Z.kit_ns, Bool.not_true, Bool.not_false, L2.tTup, L2.tLst, L2.wipe, L2.tYes, Z.Turn1, L2.tNever, sizeLine_eq, Z.rInU, Z.rInH, L2.flatV, List.any_cons, List.any_nil, List.all_cons, List.all_nil, Bool.and_true, Bool.true_and, Bool.or_false, Bool.false_or, Z.tBML, L2.rAppend, Z.map_int_inj, Z.map_bl_inj, Z.rTupL, Z.rLstL, Z.rLstT, Z.rSortI, Z.rAnyH, Z.rAllH, Z.rSumH, Z.rLenL, Z.rLenU, List.length_map, L2.tPar, StX.tStar, L2.tDNewT, L2.tDIn, L2.sDPut, L2.tDGet, Z.tCallK0, List.getD_cons_zero, List.getD_cons_succ, sp__law_right, sp__law_spring]
      refine ⟨_, .inl hs', ?_⟩
      rw [List.length_map]
      exact h) (by split <;> split <;> omega) (by show 3 < 4; decide) rfl (by decide) (fun k H' Q' E s1 h0 h1 hq => ⟨a, k, ns, rfl, s1.seq hs', hl, h0, (by revert h1; split <;> (try split) <;> omega), hq⟩) (fun p H' Q' E hp hq => ⟨p, rfl, hp, hq⟩) q
theorem all_mk {l : PySem.W.OpenLaw} {w : World} {K : PySem.W.Frag} {h : Heap} {mg : Str → Option Value} {fa : Addr} (X : K.In h) (G : h.Ns mainGlobals mg) (hfa : mg "law" = some (.ref fa))
    {f1 : Addr} {od1 an1 : Option Addr} {sl1 : Array (Option Value)} {oc1 kV1 dc1 pm1 cd1 ct1 : Value}
    (a1 : PySem.W.nsIn K mainGlobals "_law_spring" = some (some (.ref f1))) (l1 : K.lookup f1 = some ⟨oc1, od1, .func (PySem.W.fnOf "_law_spring" "_law_spring" (defArgs s__law_spring) (defBody s__law_spring) (defScope s__law_spring) .none kV1 dc1 pm1 an1 cd1 ct1), sl1⟩) (c1 : PySem.W.codeIn K cd1 "_law_spring" = true) (k1 : PySem.W.keepIn K (.ref f1) = true)
    {f2 : Addr} {od2 an2 : Option Addr} {sl2 : Array (Option Value)} {oc2 kV2 dc2 pm2 cd2 ct2 : Value}
    (a2 : PySem.W.nsIn K mainGlobals "_law_draw" = some (some (.ref f2))) (l2 : K.lookup f2 = some ⟨oc2, od2, .func (PySem.W.fnOf "_law_draw" "_law_draw" (defArgs s__law_draw) (defBody s__law_draw) (defScope s__law_draw) .none kV2 dc2 pm2 an2 cd2 ct2), sl2⟩) (c2 : PySem.W.codeIn K cd2 "_law_draw" = true) (k2 : PySem.W.keepIn K (.ref f2) = true)
    {f3 : Addr} {od3 an3 : Option Addr} {sl3 : Array (Option Value)} {oc3 kV3 dc3 pm3 cd3 ct3 : Value}
    (a3 : PySem.W.nsIn K mainGlobals "_law_of" = some (some (.ref f3))) (l3 : K.lookup f3 = some ⟨oc3, od3, .func (PySem.W.fnOf "_law_of" "_law_of" (defArgs s__law_of) (defBody s__law_of) (defScope s__law_of) .none kV3 dc3 pm3 an3 cd3 ct3), sl3⟩) (c3 : PySem.W.codeIn K cd3 "_law_of" = true) (k3 : PySem.W.keepIn K (.ref f3) = true)
    {f4 : Addr} {od4 an4 : Option Addr} {sl4 : Array (Option Value)} {oc4 kV4 dc4 pm4 cd4 ct4 : Value}
    (a4 : PySem.W.nsIn K mainGlobals "_law_error" = some (some (.ref f4))) (l4 : K.lookup f4 = some ⟨oc4, od4, .func (PySem.W.fnOf "_law_error" "_law_error" (defArgs s__law_error) (defBody s__law_error) (defScope s__law_error) .none kV4 dc4 pm4 an4 cd4 ct4), sl4⟩) (c4 : PySem.W.codeIn K cd4 "_law_error" = true) (k4 : PySem.W.keepIn K (.ref f4) = true)
    {f5 : Addr} {od5 an5 : Option Addr} {sl5 : Array (Option Value)} {oc5 kV5 dc5 pm5 cd5 ct5 : Value}
    (a5 : PySem.W.nsIn K mainGlobals "_law_field" = some (some (.ref f5))) (l5 : K.lookup f5 = some ⟨oc5, od5, .func (PySem.W.fnOf "_law_field" "_law_field" (defArgs s__law_field) (defBody s__law_field) (defScope s__law_field) .none kV5 dc5 pm5 an5 cd5 ct5), sl5⟩) (c5 : PySem.W.codeIn K cd5 "_law_field" = true) (k5 : PySem.W.keepIn K (.ref f5) = true)
    {f6 : Addr} {od6 an6 : Option Addr} {sl6 : Array (Option Value)} {oc6 kV6 dc6 pm6 cd6 ct6 : Value}
    (a6 : PySem.W.nsIn K mainGlobals "_law_odd" = some (some (.ref f6))) (l6 : K.lookup f6 = some ⟨oc6, od6, .func (PySem.W.fnOf "_law_odd" "_law_odd" (defArgs s__law_odd) (defBody s__law_odd) (defScope s__law_odd) .none kV6 dc6 pm6 an6 cd6 ct6), sl6⟩) (c6 : PySem.W.codeIn K cd6 "_law_odd" = true) (k6 : PySem.W.keepIn K (.ref f6) = true)
    {f7 : Addr} {od7 an7 : Option Addr} {sl7 : Array (Option Value)} {oc7 kV7 dc7 pm7 cd7 ct7 : Value}
    (a7 : PySem.W.nsIn K mainGlobals "_law_errors" = some (some (.ref f7))) (l7 : K.lookup f7 = some ⟨oc7, od7, .func (PySem.W.fnOf "_law_errors" "_law_errors" (defArgs s__law_errors) (defBody s__law_errors) (defScope s__law_errors) .none kV7 dc7 pm7 an7 cd7 ct7), sl7⟩) (c7 : PySem.W.codeIn K cd7 "_law_errors" = true) (k7 : PySem.W.keepIn K (.ref f7) = true)
    {f8 : Addr} {od8 an8 : Option Addr} {sl8 : Array (Option Value)} {oc8 kV8 dc8 pm8 cd8 ct8 : Value}
    (a8 : PySem.W.nsIn K mainGlobals "_law_right" = some (some (.ref f8))) (l8 : K.lookup f8 = some ⟨oc8, od8, .func (PySem.W.fnOf "_law_right" "_law_right" (defArgs s__law_right) (defBody s__law_right) (defScope s__law_right) .none kV8 dc8 pm8 an8 cd8 ct8), sl8⟩) (c8 : PySem.W.codeIn K cd8 "_law_right" = true) (k8 : PySem.W.keepIn K (.ref f8) = true)
    {f9 : Addr} {od9 an9 : Option Addr} {sl9 : Array (Option Value)} {oc9 kV9 dc9 pm9 cd9 ct9 : Value}
    (a9 : PySem.W.nsIn K mainGlobals "law" = some (some (.ref f9))) (l9 : K.lookup f9 = some ⟨oc9, od9, .func (PySem.W.fnOf "law" "law" (defArgs s_law) (defBody s_law) (defScope s_law) .none kV9 dc9 pm9 an9 cd9 ct9), sl9⟩) (c9 : PySem.W.codeIn K cd9 "law" = true) (k9 : PySem.W.keepIn K (.ref f9) = true)
    (zS : PySem.W.nsIn K mainGlobals "super" = some none)
    {C10 : Addr} (a10 : PySem.W.nsIn K mainGlobals "WrongValue" = some (some (.ref C10))) (b10 : (exKB K C10 && PySem.W.excIn K C10 [.type "ValueError", .type "Exception", .type "BaseException", .type "object"] "ValueError.__new__") = true)
    {C11 fI11 da11 cc11 : Addr} {oc11 kV11 dc11 pm11 ct11 : Value} {od11 an11 : Option Addr} {sl11 : Array (Option Value)} {qu11 : Str} {p0_11 p1_11 a0_11 a1_11 a2_11 a3_11 a4_11 b0_11 b1_11 b2_11 b3_11 : Pos} (a11 : PySem.W.nsIn K mainGlobals "InvalidText" = some (some (.ref C11))) (i11 : PySem.W.findIn K (.ref C11) "__init__" = some (some (.ref fI11))) (l11 : K.lookup fI11 = some ⟨oc11, od11, .func (PySem.W.ksFn "__init__" qu11 (exA1 "given" p0_11 p1_11) [superSt a0_11 a1_11 a2_11 a3_11 a4_11, setSt "given" b0_11 b1_11 b2_11 b3_11] (exSc (exN1 "given")) .none kV11 dc11 pm11 an11 (.ref da11) ct11 cc11), sl11⟩) (s11 : SupOk a0_11 a1_11 a2_11 a3_11) (b11 : exB l.prog K "ValueError" "ValueError.__new__" "ValueError.__init__" [.type "ValueError", .type "Exception", .type "BaseException", .type "object"] C11 fI11 da11 cc11 qu11 ["given"] = true)
    {C12 fI12 da12 cc12 : Addr} {oc12 kV12 dc12 pm12 ct12 : Value} {od12 an12 : Option Addr} {sl12 : Array (Option Value)} {qu12 : Str} {p0_12 p1_12 a0_12 a1_12 a2_12 a3_12 a4_12 b0_12 b1_12 b2_12 b3_12 : Pos} (a12 : PySem.W.nsIn K mainGlobals "InvalidNumber" = some (some (.ref C12))) (i12 : PySem.W.findIn K (.ref C12) "__init__" = some (some (.ref fI12))) (l12 : K.lookup fI12 = some ⟨oc12, od12, .func (PySem.W.ksFn "__init__" qu12 (exA1 "given" p0_12 p1_12) [superSt a0_12 a1_12 a2_12 a3_12 a4_12, setSt "given" b0_12 b1_12 b2_12 b3_12] (exSc (exN1 "given")) .none kV12 dc12 pm12 an12 (.ref da12) ct12 cc12), sl12⟩) (s12 : SupOk a0_12 a1_12 a2_12 a3_12) (b12 : exB l.prog K "ValueError" "ValueError.__new__" "ValueError.__init__" [.type "ValueError", .type "Exception", .type "BaseException", .type "object"] C12 fI12 da12 cc12 qu12 ["given"] = true)
    {C13 fI13 da13 cc13 : Addr} {oc13 kV13 dc13 pm13 ct13 : Value} {od13 an13 : Option Addr} {sl13 : Array (Option Value)} {qu13 : Str} {p0_13 p1_13 a0_13 a1_13 a2_13 a3_13 a4_13 b0_13 b1_13 b2_13 b3_13 : Pos} (a13 : PySem.W.nsIn K mainGlobals "InvalidKind" = some (some (.ref C13))) (i13 : PySem.W.findIn K (.ref C13) "__init__" = some (some (.ref fI13))) (l13 : K.lookup fI13 = some ⟨oc13, od13, .func (PySem.W.ksFn "__init__" qu13 (exA1 "given" p0_13 p1_13) [superSt a0_13 a1_13 a2_13 a3_13 a4_13, setSt "given" b0_13 b1_13 b2_13 b3_13] (exSc (exN1 "given")) .none kV13 dc13 pm13 an13 (.ref da13) ct13 cc13), sl13⟩) (s13 : SupOk a0_13 a1_13 a2_13 a3_13) (b13 : exB l.prog K "ValueError" "ValueError.__new__" "ValueError.__init__" [.type "ValueError", .type "Exception", .type "BaseException", .type "object"] C13 fI13 da13 cc13 qu13 ["given"] = true)
    {C14 fI14 da14 cc14 : Addr} {oc14 kV14 dc14 pm14 ct14 : Value} {od14 an14 : Option Addr} {sl14 : Array (Option Value)} {qu14 : Str} {p0_14 p1_14 a0_14 a1_14 a2_14 a3_14 a4_14 b0_14 b1_14 b2_14 b3_14 : Pos} (a14 : PySem.W.nsIn K mainGlobals "InvalidParty" = some (some (.ref C14))) (i14 : PySem.W.findIn K (.ref C14) "__init__" = some (some (.ref fI14))) (l14 : K.lookup fI14 = some ⟨oc14, od14, .func (PySem.W.ksFn "__init__" qu14 (exA1 "given" p0_14 p1_14) [superSt a0_14 a1_14 a2_14 a3_14 a4_14, setSt "given" b0_14 b1_14 b2_14 b3_14] (exSc (exN1 "given")) .none kV14 dc14 pm14 an14 (.ref da14) ct14 cc14), sl14⟩) (s14 : SupOk a0_14 a1_14 a2_14 a3_14) (b14 : exB l.prog K "ValueError" "ValueError.__new__" "ValueError.__init__" [.type "ValueError", .type "Exception", .type "BaseException", .type "object"] C14 fI14 da14 cc14 qu14 ["given"] = true)
    {C15 fI15 da15 cc15 : Addr} {oc15 kV15 dc15 pm15 ct15 : Value} {od15 an15 : Option Addr} {sl15 : Array (Option Value)} {qu15 : Str} {p0_15 p1_15 a0_15 a1_15 a2_15 a3_15 a4_15 b0_15 b1_15 b2_15 b3_15 : Pos} (a15 : PySem.W.nsIn K mainGlobals "InvalidName" = some (some (.ref C15))) (i15 : PySem.W.findIn K (.ref C15) "__init__" = some (some (.ref fI15))) (l15 : K.lookup fI15 = some ⟨oc15, od15, .func (PySem.W.ksFn "__init__" qu15 (exA1 "given" p0_15 p1_15) [superSt a0_15 a1_15 a2_15 a3_15 a4_15, setSt "given" b0_15 b1_15 b2_15 b3_15] (exSc (exN1 "given")) .none kV15 dc15 pm15 an15 (.ref da15) ct15 cc15), sl15⟩) (s15 : SupOk a0_15 a1_15 a2_15 a3_15) (b15 : exB l.prog K "ValueError" "ValueError.__new__" "ValueError.__init__" [.type "ValueError", .type "Exception", .type "BaseException", .type "object"] C15 fI15 da15 cc15 qu15 ["given"] = true)
    {C16 fI16 da16 cc16 : Addr} {oc16 kV16 dc16 pm16 ct16 : Value} {od16 an16 : Option Addr} {sl16 : Array (Option Value)} {qu16 : Str} {p0_16 p1_16 a0_16 a1_16 a2_16 a3_16 a4_16 b0_16 b1_16 b2_16 b3_16 : Pos} (a16 : PySem.W.nsIn K mainGlobals "InvalidWish" = some (some (.ref C16))) (i16 : PySem.W.findIn K (.ref C16) "__init__" = some (some (.ref fI16))) (l16 : K.lookup fI16 = some ⟨oc16, od16, .func (PySem.W.ksFn "__init__" qu16 (exA1 "given" p0_16 p1_16) [superSt a0_16 a1_16 a2_16 a3_16 a4_16, setSt "given" b0_16 b1_16 b2_16 b3_16] (exSc (exN1 "given")) .none kV16 dc16 pm16 an16 (.ref da16) ct16 cc16), sl16⟩) (s16 : SupOk a0_16 a1_16 a2_16 a3_16) (b16 : exB l.prog K "ValueError" "ValueError.__new__" "ValueError.__init__" [.type "ValueError", .type "Exception", .type "BaseException", .type "object"] C16 fI16 da16 cc16 qu16 ["given"] = true)
    {C17 fI17 da17 cc17 : Addr} {oc17 kV17 dc17 pm17 ct17 : Value} {od17 an17 : Option Addr} {sl17 : Array (Option Value)} {qu17 : Str} {p0_17 p1_17 a0_17 a1_17 a2_17 a3_17 a4_17 b0_17 b1_17 b2_17 b3_17 : Pos} (a17 : PySem.W.nsIn K mainGlobals "NotABook" = some (some (.ref C17))) (i17 : PySem.W.findIn K (.ref C17) "__init__" = some (some (.ref fI17))) (l17 : K.lookup fI17 = some ⟨oc17, od17, .func (PySem.W.ksFn "__init__" qu17 (exA1 "given" p0_17 p1_17) [superSt a0_17 a1_17 a2_17 a3_17 a4_17, setSt "given" b0_17 b1_17 b2_17 b3_17] (exSc (exN1 "given")) .none kV17 dc17 pm17 an17 (.ref da17) ct17 cc17), sl17⟩) (s17 : SupOk a0_17 a1_17 a2_17 a3_17) (b17 : exB l.prog K "ValueError" "ValueError.__new__" "ValueError.__init__" [.type "ValueError", .type "Exception", .type "BaseException", .type "object"] C17 fI17 da17 cc17 qu17 ["given"] = true)
    {C18 fI18 da18 cc18 : Addr} {oc18 kV18 dc18 pm18 ct18 : Value} {od18 an18 : Option Addr} {sl18 : Array (Option Value)} {qu18 : Str} {p0_18 p1_18 a0_18 a1_18 a2_18 a3_18 a4_18 b0_18 b1_18 b2_18 b3_18 : Pos} (a18 : PySem.W.nsIn K mainGlobals "InvalidRows" = some (some (.ref C18))) (i18 : PySem.W.findIn K (.ref C18) "__init__" = some (some (.ref fI18))) (l18 : K.lookup fI18 = some ⟨oc18, od18, .func (PySem.W.ksFn "__init__" qu18 (exA1 "index" p0_18 p1_18) [superSt a0_18 a1_18 a2_18 a3_18 a4_18, setSt "index" b0_18 b1_18 b2_18 b3_18] (exSc (exN1 "index")) .none kV18 dc18 pm18 an18 (.ref da18) ct18 cc18), sl18⟩) (s18 : SupOk a0_18 a1_18 a2_18 a3_18) (b18 : exB l.prog K "ValueError" "ValueError.__new__" "ValueError.__init__" [.type "ValueError", .type "Exception", .type "BaseException", .type "object"] C18 fI18 da18 cc18 qu18 ["index"] = true)
    {C19 fI19 da19 cc19 : Addr} {oc19 kV19 dc19 pm19 ct19 : Value} {od19 an19 : Option Addr} {sl19 : Array (Option Value)} {qu19 : Str} {p0_19 p1_19 a0_19 a1_19 a2_19 a3_19 a4_19 b0_19 b1_19 b2_19 b3_19 : Pos} (a19 : PySem.W.nsIn K mainGlobals "InvalidSeats" = some (some (.ref C19))) (i19 : PySem.W.findIn K (.ref C19) "__init__" = some (some (.ref fI19))) (l19 : K.lookup fI19 = some ⟨oc19, od19, .func (PySem.W.ksFn "__init__" qu19 (exA1 "index" p0_19 p1_19) [superSt a0_19 a1_19 a2_19 a3_19 a4_19, setSt "index" b0_19 b1_19 b2_19 b3_19] (exSc (exN1 "index")) .none kV19 dc19 pm19 an19 (.ref da19) ct19 cc19), sl19⟩) (s19 : SupOk a0_19 a1_19 a2_19 a3_19) (b19 : exB l.prog K "ValueError" "ValueError.__new__" "ValueError.__init__" [.type "ValueError", .type "Exception", .type "BaseException", .type "object"] C19 fI19 da19 cc19 qu19 ["index"] = true)
    {C20 fI20 da20 cc20 : Addr} {oc20 kV20 dc20 pm20 ct20 : Value} {od20 an20 : Option Addr} {sl20 : Array (Option Value)} {qu20 : Str} {p0_20 p1_20 a0_20 a1_20 a2_20 a3_20 a4_20 b0_20 b1_20 b2_20 b3_20 : Pos} (a20 : PySem.W.nsIn K mainGlobals "InvalidExchanges" = some (some (.ref C20))) (i20 : PySem.W.findIn K (.ref C20) "__init__" = some (some (.ref fI20))) (l20 : K.lookup fI20 = some ⟨oc20, od20, .func (PySem.W.ksFn "__init__" qu20 (exA1 "index" p0_20 p1_20) [superSt a0_20 a1_20 a2_20 a3_20 a4_20, setSt "index" b0_20 b1_20 b2_20 b3_20] (exSc (exN1 "index")) .none kV20 dc20 pm20 an20 (.ref da20) ct20 cc20), sl20⟩) (s20 : SupOk a0_20 a1_20 a2_20 a3_20) (b20 : exB l.prog K "ValueError" "ValueError.__new__" "ValueError.__init__" [.type "ValueError", .type "Exception", .type "BaseException", .type "object"] C20 fI20 da20 cc20 qu20 ["index"] = true)
    {C21 fI21 da21 cc21 : Addr} {oc21 kV21 dc21 pm21 ct21 : Value} {od21 an21 : Option Addr} {sl21 : Array (Option Value)} {qu21 : Str} {p0_21 p1_21 a0_21 a1_21 a2_21 a3_21 a4_21 b0_21 b1_21 b2_21 b3_21 : Pos} (a21 : PySem.W.nsIn K mainGlobals "InvalidWishes" = some (some (.ref C21))) (i21 : PySem.W.findIn K (.ref C21) "__init__" = some (some (.ref fI21))) (l21 : K.lookup fI21 = some ⟨oc21, od21, .func (PySem.W.ksFn "__init__" qu21 (exA1 "index" p0_21 p1_21) [superSt a0_21 a1_21 a2_21 a3_21 a4_21, setSt "index" b0_21 b1_21 b2_21 b3_21] (exSc (exN1 "index")) .none kV21 dc21 pm21 an21 (.ref da21) ct21 cc21), sl21⟩) (s21 : SupOk a0_21 a1_21 a2_21 a3_21) (b21 : exB l.prog K "ValueError" "ValueError.__new__" "ValueError.__init__" [.type "ValueError", .type "Exception", .type "BaseException", .type "object"] C21 fI21 da21 cc21 qu21 ["index"] = true)
    {C22 : Addr} (a22 : PySem.W.nsIn K mainGlobals "WrongName" = some (some (.ref C22))) (b22 : (exKB K C22 && PySem.W.excIn K C22 [.type "LookupError", .type "Exception", .type "BaseException", .type "object"] "LookupError.__new__") = true)
    {C23 fI23 da23 cc23 : Addr} {oc23 kV23 dc23 pm23 ct23 : Value} {od23 an23 : Option Addr} {sl23 : Array (Option Value)} {qu23 : Str} {p0_23 p1_23 a0_23 a1_23 a2_23 a3_23 a4_23 b0_23 b1_23 b2_23 b3_23 : Pos} (a23 : PySem.W.nsIn K mainGlobals "UnknownName" = some (some (.ref C23))) (i23 : PySem.W.findIn K (.ref C23) "__init__" = some (some (.ref fI23))) (l23 : K.lookup fI23 = some ⟨oc23, od23, .func (PySem.W.ksFn "__init__" qu23 (exA1 "given" p0_23 p1_23) [superSt a0_23 a1_23 a2_23 a3_23 a4_23, setSt "given" b0_23 b1_23 b2_23 b3_23] (exSc (exN1 "given")) .none kV23 dc23 pm23 an23 (.ref da23) ct23 cc23), sl23⟩) (s23 : SupOk a0_23 a1_23 a2_23 a3_23) (b23 : exB l.prog K "LookupError" "LookupError.__new__" "LookupError.__init__" [.type "LookupError", .type "Exception", .type "BaseException", .type "object"] C23 fI23 da23 cc23 qu23 ["given"] = true)
    {C24 fI24 da24 cc24 : Addr} {oc24 kV24 dc24 pm24 ct24 : Value} {od24 an24 : Option Addr} {sl24 : Array (Option Value)} {qu24 : Str} {p0_24 p1_24 a0_24 a1_24 a2_24 a3_24 a4_24 b0_24 b1_24 b2_24 b3_24 : Pos} (a24 : PySem.W.nsIn K mainGlobals "InUse" = some (some (.ref C24))) (i24 : PySem.W.findIn K (.ref C24) "__init__" = some (some (.ref fI24))) (l24 : K.lookup fI24 = some ⟨oc24, od24, .func (PySem.W.ksFn "__init__" qu24 (exA1 "index" p0_24 p1_24) [superSt a0_24 a1_24 a2_24 a3_24 a4_24, setSt "index" b0_24 b1_24 b2_24 b3_24] (exSc (exN1 "index")) .none kV24 dc24 pm24 an24 (.ref da24) ct24 cc24), sl24⟩) (s24 : SupOk a0_24 a1_24 a2_24 a3_24) (b24 : exB l.prog K "LookupError" "LookupError.__new__" "LookupError.__init__" [.type "LookupError", .type "Exception", .type "BaseException", .type "object"] C24 fI24 da24 cc24 qu24 ["index"] = true)
    {C25 : Addr} (a25 : PySem.W.nsIn K mainGlobals "NoAnswer" = some (some (.ref C25))) (b25 : (exKB K C25 && PySem.W.excIn K C25 [.type "ArithmeticError", .type "Exception", .type "BaseException", .type "object"] "ArithmeticError.__new__") = true)
    {C26 fI26 da26 cc26 : Addr} {oc26 kV26 dc26 pm26 ct26 : Value} {od26 an26 : Option Addr} {sl26 : Array (Option Value)} {qu26 : Str} {p0_26 p1_26 a0_26 a1_26 a2_26 a3_26 a4_26 b0_26 b1_26 b2_26 b3_26 : Pos} (a26 : PySem.W.nsIn K mainGlobals "NotFull" = some (some (.ref C26))) (i26 : PySem.W.findIn K (.ref C26) "__init__" = some (some (.ref fI26))) (l26 : K.lookup fI26 = some ⟨oc26, od26, .func (PySem.W.ksFn "__init__" qu26 (exA1 "given" p0_26 p1_26) [superSt a0_26 a1_26 a2_26 a3_26 a4_26, setSt "given" b0_26 b1_26 b2_26 b3_26] (exSc (exN1 "given")) .none kV26 dc26 pm26 an26 (.ref da26) ct26 cc26), sl26⟩) (s26 : SupOk a0_26 a1_26 a2_26 a3_26) (b26 : exB l.prog K "ArithmeticError" "ArithmeticError.__new__" "ArithmeticError.__init__" [.type "ArithmeticError", .type "Exception", .type "BaseException", .type "object"] C26 fI26 da26 cc26 qu26 ["given"] = true)
    {C27 fI27 da27 cc27 : Addr} {oc27 kV27 dc27 pm27 ct27 : Value} {od27 an27 : Option Addr} {sl27 : Array (Option Value)} {qu27 : Str} {p0_27 p1_27 a0_27 a1_27 a2_27 a3_27 a4_27 b0_27 b1_27 b2_27 b3_27 : Pos} (a27 : PySem.W.nsIn K mainGlobals "TooMany" = some (some (.ref C27))) (i27 : PySem.W.findIn K (.ref C27) "__init__" = some (some (.ref fI27))) (l27 : K.lookup fI27 = some ⟨oc27, od27, .func (PySem.W.ksFn "__init__" qu27 (exA1 "given" p0_27 p1_27) [superSt a0_27 a1_27 a2_27 a3_27 a4_27, setSt "given" b0_27 b1_27 b2_27 b3_27] (exSc (exN1 "given")) .none kV27 dc27 pm27 an27 (.ref da27) ct27 cc27), sl27⟩) (s27 : SupOk a0_27 a1_27 a2_27 a3_27) (b27 : exB l.prog K "ArithmeticError" "ArithmeticError.__new__" "ArithmeticError.__init__" [.type "ArithmeticError", .type "Exception", .type "BaseException", .type "object"] C27 fI27 da27 cc27 qu27 ["given"] = true)
    {C28 fI28 da28 cc28 : Addr} {oc28 kV28 dc28 pm28 ct28 : Value} {od28 an28 : Option Addr} {sl28 : Array (Option Value)} {qu28 : Str} {p0_28 p1_28 a0_28 a1_28 a2_28 a3_28 a4_28 b0_28 b1_28 b2_28 b3_28 : Pos} (a28 : PySem.W.nsIn K mainGlobals "NoRoom" = some (some (.ref C28))) (i28 : PySem.W.findIn K (.ref C28) "__init__" = some (some (.ref fI28))) (l28 : K.lookup fI28 = some ⟨oc28, od28, .func (PySem.W.ksFn "__init__" qu28 (exA1 "shown" p0_28 p1_28) [superSt a0_28 a1_28 a2_28 a3_28 a4_28, setSt "shown" b0_28 b1_28 b2_28 b3_28] (exSc (exN1 "shown")) .none kV28 dc28 pm28 an28 (.ref da28) ct28 cc28), sl28⟩) (s28 : SupOk a0_28 a1_28 a2_28 a3_28) (b28 : exB l.prog K "ArithmeticError" "ArithmeticError.__new__" "ArithmeticError.__init__" [.type "ArithmeticError", .type "Exception", .type "BaseException", .type "object"] C28 fI28 da28 cc28 qu28 ["shown"] = true)
    {C29 fI29 da29 cc29 : Addr} {oc29 kV29 dc29 pm29 ct29 : Value} {od29 an29 : Option Addr} {sl29 : Array (Option Value)} {qu29 : Str} {p0_29 p1_29 p2_29 a0_29 a1_29 a2_29 a3_29 a4_29 b0_29 b1_29 b2_29 b3_29 c0_29 c1_29 c2_29 c3_29 : Pos} (a29 : PySem.W.nsIn K mainGlobals "Broken" = some (some (.ref C29))) (i29 : PySem.W.findIn K (.ref C29) "__init__" = some (some (.ref fI29))) (l29 : K.lookup fI29 = some ⟨oc29, od29, .func (PySem.W.ksFn "__init__" qu29 (exA2 "index" "shown" p0_29 p1_29 p2_29) [superSt a0_29 a1_29 a2_29 a3_29 a4_29, setSt "index" b0_29 b1_29 b2_29 b3_29, setSt "shown" c0_29 c1_29 c2_29 c3_29] (exSc (exN2 "index" "shown")) .none kV29 dc29 pm29 an29 (.ref da29) ct29 cc29), sl29⟩) (s29 : SupOk a0_29 a1_29 a2_29 a3_29) (b29 : exB l.prog K "ArithmeticError" "ArithmeticError.__new__" "ArithmeticError.__init__" [.type "ArithmeticError", .type "Exception", .type "BaseException", .type "object"] C29 fI29 da29 cc29 qu29 ["index", "shown"] = true)
    {C30 : Addr} (a30 : PySem.W.nsIn K mainGlobals "NothingToUndo" = some (some (.ref C30))) (b30 : (exKB K C30 && PySem.W.excIn K C30 [.type "ArithmeticError", .type "Exception", .type "BaseException", .type "object"] "ArithmeticError.__new__") = true)
    (tE : kitTab K [.ref C11, .ref C12, .ref C13, .ref C14, .ref C15, .ref C16, .ref C17, .ref C18, .ref C19, .ref C20, .ref C21, .ref C23, .ref C24, .ref C26, .ref C27, .ref C28, .ref C29, .ref C30, .ref C10, .ref C22, .ref C25] [.ref C11, .ref C12, .ref C13, .ref C14, .ref C15, .ref C16, .ref C17, .ref C18, .ref C19, .ref C20, .ref C21, .ref C23, .ref C24, .ref C26, .ref C27, .ref C28, .ref C29, .ref C30, .ref C10, .ref C22, .ref C25, .type "ValueError", .type "LookupError", .type "ArithmeticError"] = [[some true, some false, some false, some false, some false, some false, some false, some false, some false, some false, some false, some false, some false, some false, some false, some false, some false, some false, some true, some false, some false, some true, some false, some false], [some false, some true, some false, some false, some false, some false, some false, some false, some false, some false, some false, some false, some false, some false, some false, some false, some false, some false, some true, some false, some false, some true, some false, some false], [some false, some false, some true, some false, some false, some false, some false, some false, some false, some false, some false, some false, some false, some false, some false, some false, some false, some false, some true, some false, some false, some true, some false, some false], [some false, some false, some false, some true, some false, some false, some false, some false, some false, some false, some false, some false, some false, some false, some false, some false, some false, some false, some true, some false, some false, some true, some false, some false], [some false, some false, some false, some false, some true, some false, some false, some false, some false, some false, some false, some false, some false, some false, some false, some false, some false, some false, some true, some false, some false, some true, some false, some false], [some false, some false, some false, some false, some false, some true, some false, some false, some false, some false, some false, some false, some false, some false, some false, some false, some false, some false, some true, some false, some false, some true, some false, some false], [some false, some false, some false, some false, some false, some false, some true, some false, some false, some false, some false, some false, some false, some false, some false, some false, some false, some false, some true, some false, some false, some true, some false, some false], [some false, some false, some false, some false, some false, some false, some false, some true, some false, some false, some false, some false, some false, some false, some false, some false, some false, some false, some true, some false, some false, some true, some false, some false], [some false, some false, some false, some false, some false, some false, some false, some false, some true, some false, some false, some false, some false, some false, some false, some false, some false, some false, some true, some false, some false, some true, some false, some false], [some false, some false, some false, some false, some false, some false, some false, some false, some false, some true, some false, some false, some false, some false, some false, some false, some false, some false, some true, some false, some false, some true, some false, some false], [some false, some false, some false, some false, some false, some false, some false, some false, some false, some false, some true, some false, some false, some false, some false, some false, some false, some false, some true, some false, some false, some true, some false, some false], [some false, some false, some false, some false, some false, some false, some false, some false, some false, some false, some false, some true, some false, some false, some false, some false, some false, some false, some false, some true, some false, some false, some true, some false], [some false, some false, some false, some false, some false, some false, some false, some false, some false, some false, some false, some false, some true, some false, some false, some false, some false, some false, some false, some true, some false, some false, some true, some false], [some false, some false, some false, some false, some false, some false, some false, some false, some false, some false, some false, some false, some false, some true, some false, some false, some false, some false, some false, some false, some true, some false, some false, some true], [some false, some false, some false, some false, some false, some false, some false, some false, some false, some false, some false, some false, some false, some false, some true, some false, some false, some false, some false, some false, some true, some false, some false, some true], [some false, some false, some false, some false, some false, some false, some false, some false, some false, some false, some false, some false, some false, some false, some false, some true, some false, some false, some false, some false, some true, some false, some false, some true], [some false, some false, some false, some false, some false, some false, some false, some false, some false, some false, some false, some false, some false, some false, some false, some false, some true, some false, some false, some false, some true, some false, some false, some true], [some false, some false, some false, some false, some false, some false, some false, some false, some false, some false, some false, some false, some false, some false, some false, some false, some false, some true, some false, some false, some true, some false, some false, some true], [some false, some false, some false, some false, some false, some false, some false, some false, some false, some false, some false, some false, some false, some false, some false, some false, some false, some false, some true, some false, some false, some true, some false, some false], [some false, some false, some false, some false, some false, some false, some false, some false, some false, some false, some false, some false, some false, some false, some false, some false, some false, some false, some false, some true, some false, some false, some true, some false], [some false, some false, some false, some false, some false, some false, some false, some false, some false, some false, some false, some false, some false, some false, some false, some false, some false, some false, some false, some false, some true, some false, some false, some true]])
    (z31 : PySem.W.nsIn K mainGlobals "ArithmeticError" = some none)
    (z32 : PySem.W.nsIn K mainGlobals "LookupError" = some none)
    (z33 : PySem.W.nsIn K mainGlobals "ValueError" = some none)
    (z34 : PySem.W.nsIn K mainGlobals "abs" = some none)
    (z35 : PySem.W.nsIn K mainGlobals "all" = some none)
    (z36 : PySem.W.nsIn K mainGlobals "divmod" = some none)
    (z37 : PySem.W.nsIn K mainGlobals "int" = some none)
    (z38 : PySem.W.nsIn K mainGlobals "isinstance" = some none)
    (z39 : PySem.W.nsIn K mainGlobals "len" = some none)
    (z40 : PySem.W.nsIn K mainGlobals "max" = some none)
    (z41 : PySem.W.nsIn K mainGlobals "min" = some none)
    (z42 : PySem.W.nsIn K mainGlobals "range" = some none)
    (z43 : PySem.W.nsIn K mainGlobals "repr" = some none)
    {t44 : Tok} (g44 : PySem.W.nsIn K mainGlobals "MOST_PEOPLE" = some (some (.int 15 t44)))
    {t45 : Tok} (g45 : PySem.W.nsIn K mainGlobals "MOST_GUESTS" = some (some (.int 8 t45)))
    {t46 : Tok} (g46 : PySem.W.nsIn K mainGlobals "MOST_TIES" = some (some (.int 28 t46)))
    {t47 : Tok} (g47 : PySem.W.nsIn K mainGlobals "MOST_OPEN" = some (some (.int 6 t47)))
    {t48 : Tok} (g48 : PySem.W.nsIn K mainGlobals "MOST_ZIGZAG" = some (some (.int 1000000000000000000000000000000 t48)))
    {t49 : Tok} (g49 : PySem.W.nsIn K mainGlobals "MOST_EXCHANGES" = some (some (.int 5 t49))) :
    ∃ fd : FuncData, (∀ (s : Shared) (v : Value), BindsTo s fd ⟨[v], []⟩ [("_law_script", v)]) ∧ ∀ base : Heap, K.In base → base.Ns mainGlobals mg → FnG l.prog w K mg base CX0 5 fa fd ["_law_script"] (sp_law K) := by
  have e := hfa.symm.trans (PySem.W.mg_of X G a9)
  cases e
  have zSup := PySem.W.mg_none_of X G zS
  have T : Env l.prog K mg := ⟨⟨_, _, fun_mk (st := s__law_spring) l1 c1 k1, PySem.W.mg_of X G a1⟩,
    ⟨_, _, fun_mk (st := s__law_draw) l2 c2 k2, PySem.W.mg_of X G a2⟩,
    ⟨_, _, fun_mk (st := s__law_of) l3 c3 k3, PySem.W.mg_of X G a3⟩,
    ⟨_, _, fun_mk (st := s__law_error) l4 c4 k4, PySem.W.mg_of X G a4⟩,
    ⟨_, _, fun_mk (st := s__law_field) l5 c5 k5, PySem.W.mg_of X G a5⟩,
    ⟨_, _, fun_mk (st := s__law_odd) l6 c6 k6, PySem.W.mg_of X G a6⟩,
    ⟨_, _, fun_mk (st := s__law_errors) l7 c7 k7, PySem.W.mg_of X G a7⟩,
    ⟨_, _, fun_mk (st := s__law_right) l8 c8 k8, PySem.W.mg_of X G a8⟩,
    ⟨_, _, fun_mk (st := s_law) l9 c9 k9, PySem.W.mg_of X G a9⟩,
    ExM0.of X G baseVE a10 b10,
    ExM.of X G baseVE a11 zSup (.inl rfl) l11 s11 b11,
    ExM.of X G baseVE a12 zSup (.inl rfl) l12 s12 b12,
    ExM.of X G baseVE a13 zSup (.inl rfl) l13 s13 b13,
    ExM.of X G baseVE a14 zSup (.inl rfl) l14 s14 b14,
    ExM.of X G baseVE a15 zSup (.inl rfl) l15 s15 b15,
    ExM.of X G baseVE a16 zSup (.inl rfl) l16 s16 b16,
    ExM.of X G baseVE a17 zSup (.inl rfl) l17 s17 b17,
    ExM.of X G baseVE a18 zSup (.inr (.inl rfl)) l18 s18 b18,
    ExM.of X G baseVE a19 zSup (.inr (.inl rfl)) l19 s19 b19,
    ExM.of X G baseVE a20 zSup (.inr (.inl rfl)) l20 s20 b20,
    ExM.of X G baseVE a21 zSup (.inr (.inl rfl)) l21 s21 b21,
    ExM0.of X G baseLE a22 b22,
    ExM.of X G baseLE a23 zSup (.inl rfl) l23 s23 b23,
    ExM.of X G baseLE a24 zSup (.inr (.inl rfl)) l24 s24 b24,
    ExM0.of X G baseAE a25 b25,
    ExM.of X G baseAE a26 zSup (.inl rfl) l26 s26 b26,
    ExM.of X G baseAE a27 zSup (.inl rfl) l27 s27 b27,
    ExM.of X G baseAE a28 zSup (.inr (.inr rfl)) l28 s28 b28,
    ExM2.of X G baseAE a29 zSup l29 s29 b29,
    ExM0.of X G baseAE a30 b30,
    (by simp only [excD, excV, excN, errN, List.map_cons, List.map_nil, List.cons_append, List.nil_append, clsA_of (PySem.W.mg_of X G a11), clsA_of (PySem.W.mg_of X G a12), clsA_of (PySem.W.mg_of X G a13), clsA_of (PySem.W.mg_of X G a14), clsA_of (PySem.W.mg_of X G a15), clsA_of (PySem.W.mg_of X G a16), clsA_of (PySem.W.mg_of X G a17), clsA_of (PySem.W.mg_of X G a18), clsA_of (PySem.W.mg_of X G a19), clsA_of (PySem.W.mg_of X G a20), clsA_of (PySem.W.mg_of X G a21), clsA_of (PySem.W.mg_of X G a23), clsA_of (PySem.W.mg_of X G a24), clsA_of (PySem.W.mg_of X G a26), clsA_of (PySem.W.mg_of X G a27), clsA_of (PySem.W.mg_of X G a28), clsA_of (PySem.W.mg_of X G a29), clsA_of (PySem.W.mg_of X G a30), clsA_of (PySem.W.mg_of X G a10), clsA_of (PySem.W.mg_of X G a22), clsA_of (PySem.W.mg_of X G a25)]; exact tE),
    PySem.W.mg_none_of X G z31,
    PySem.W.mg_none_of X G z32,
    PySem.W.mg_none_of X G z33,
    PySem.W.mg_none_of X G z34,
    PySem.W.mg_none_of X G z35,
    PySem.W.mg_none_of X G z36,
    PySem.W.mg_none_of X G z37,
    PySem.W.mg_none_of X G z38,
    PySem.W.mg_none_of X G z39,
    PySem.W.mg_none_of X G z40,
    PySem.W.mg_none_of X G z41,
    PySem.W.mg_none_of X G z42,
    PySem.W.mg_none_of X G z43,
    ⟨_, PySem.W.mg_of X G g44⟩,
    ⟨_, PySem.W.mg_of X G g45⟩,
    ⟨_, PySem.W.mg_of X G g46⟩,
    ⟨_, PySem.W.mg_of X G g47⟩,
    ⟨_, PySem.W.mg_of X G g48⟩,
    ⟨_, PySem.W.mg_of X G g49⟩⟩
  refine ⟨PySem.W.fnOf "law" "law" (defArgs s_law) (defBody s_law) (defScope s_law) .none kV9 dc9 pm9 an9 cd9 ct9, fun s v => .of_eq rfl, fun base _ _ => ?_⟩
  obtain ⟨f, fd, F, hm, R⟩ := (ok_law (P := l.prog) (w := w) (base := base) T).ex
  have e := hfa.symm.trans hm
  cases e
  obtain ⟨_, _, _, _, _, _, _, _, _, e1, e2, _⟩ := F.ex
  rw [l9] at e2
  cases e2
  exact R
end K01
open PySem PySem.W PyProof.Rows
set_option maxRecDepth 100000 in
set_option maxHeartbeats 0 in
theorem PySem.Challenge.cw_extendrounds_k01_errors_and_limits_holds : PySem.Challenge.rw_extendrounds_k01_errors_and_limits.Holds := by
  w_on; o_law; k_head; (case hw => w_witness2)
  k_fill
  refine Z.walk_G (l := PySem.Challenge.rw_extendrounds_k01_errors_and_limits) (n := 63) (k := 5) (x := "_law_script") (sp := K01.sp_law) rfl (by decide) rfl ⟨rfl, by decide, by decide⟩ (fun w h Y => PySem.W.kIn_of Y) ?F (fun _ _ a ns hl _ hS => ⟨a, ns, rfl, hS, hl, fun _ => rfl⟩)
  case F =>
    intro w mg fa h KX G hmg
    refine' K01.all_mk KX G hmg ?a1 ?l1 ?c1 ?k1 ?a2 ?l2 ?c2 ?k2 ?a3 ?l3 ?c3 ?k3 ?a4 ?l4 ?c4 ?k4 ?a5 ?l5 ?c5 ?k5 ?a6 ?l6 ?c6 ?k6 ?a7 ?l7 ?c7 ?k7 ?a8 ?l8 ?c8 ?k8 ?a9 ?l9 ?c9 ?k9 ?zS ?a10 ?b10 ?a11 ?i11 ?l11 ?s11 ?b11 ?a12 ?i12 ?l12 ?s12 ?b12 ?a13 ?i13 ?l13 ?s13 ?b13 ?a14 ?i14 ?l14 ?s14 ?b14 ?a15 ?i15 ?l15 ?s15 ?b15 ?a16 ?i16 ?l16 ?s16 ?b16 ?a17 ?i17 ?l17 ?s17 ?b17 ?a18 ?i18 ?l18 ?s18 ?b18 ?a19 ?i19 ?l19 ?s19 ?b19 ?a20 ?i20 ?l20 ?s20 ?b20 ?a21 ?i21 ?l21 ?s21 ?b21 ?a22 ?b22 ?a23 ?i23 ?l23 ?s23 ?b23 ?a24 ?i24 ?l24 ?s24 ?b24 ?a25 ?b25 ?a26 ?i26 ?l26 ?s26 ?b26 ?a27 ?i27 ?l27 ?s27 ?b27 ?a28 ?i28 ?l28 ?s28 ?b28 ?a29 ?i29 ?l29 ?s29 ?b29 ?a30 ?b30 ?tE ?z31 ?z32 ?z33 ?z34 ?z35 ?z36 ?z37 ?z38 ?z39 ?z40 ?z41 ?z42 ?z43 ?g44 ?g45 ?g46 ?g47 ?g48 ?g49
    (case a1 => k_is)
    (case l1 => k_is)
    (case c1 => k_is)
    (case k1 => k_is)
    (case a2 => k_is)
    (case l2 => k_is)
    (case c2 => k_is)
    (case k2 => k_is)
    (case a3 => k_is)
    (case l3 => k_is)
    (case c3 => k_is)
    (case k3 => k_is)
    (case a4 => k_is)
    (case l4 => k_is)
    (case c4 => k_is)
    (case k4 => k_is)
    (case a5 => k_is)
    (case l5 => k_is)
    (case c5 => k_is)
    (case k5 => k_is)
    (case a6 => k_is)
    (case l6 => k_is)
    (case c6 => k_is)
    (case k6 => k_is)
    (case a7 => k_is)
    (case l7 => k_is)
    (case c7 => k_is)
    (case k7 => k_is)
    (case a8 => k_is)
    (case l8 => k_is)
    (case c8 => k_is)
    (case k8 => k_is)
    (case a9 => k_is)
    (case l9 => k_is)
    (case c9 => k_is)
    (case k9 => k_is)
    (case zS => k_is)
    (case a10 => k_is)
    (case b10 => kernel_rfl)
    (case a11 => k_is)
    (case i11 => k_is)
    (case l11 => k_is)
    (case s11 => exact fun env => ⟨_, rfl⟩)
    (case b11 => kernel_rfl)
    (case a12 => k_is)
    (case i12 => k_is)
    (case l12 => k_is)
    (case s12 => exact fun env => ⟨_, rfl⟩)
    (case b12 => kernel_rfl)
    (case a13 => k_is)
    (case i13 => k_is)
    (case l13 => k_is)
    (case s13 => exact fun env => ⟨_, rfl⟩)
    (case b13 => kernel_rfl)
    (case a14 => k_is)
    (case i14 => k_is)
    (case l14 => k_is)
    (case s14 => exact fun env => ⟨_, rfl⟩)
    (case b14 => kernel_rfl)
    (case a15 => k_is)
    (case i15 => k_is)
    (case l15 => k_is)
    (case s15 => exact fun env => ⟨_, rfl⟩)
    (case b15 => kernel_rfl)
    (case a16 => k_is)
    (case i16 => k_is)
    (case l16 => k_is)
    (case s16 => exact fun env => ⟨_, rfl⟩)
    (case b16 => kernel_rfl)
    (case a17 => k_is)
    (case i17 => k_is)
    (case l17 => k_is)
    (case s17 => exact fun env => ⟨_, rfl⟩)
    (case b17 => kernel_rfl)
    (case a18 => k_is)
    (case i18 => k_is)
    (case l18 => k_is)
    (case s18 => exact fun env => ⟨_, rfl⟩)
    (case b18 => kernel_rfl)
    (case a19 => k_is)
    (case i19 => k_is)
    (case l19 => k_is)
    (case s19 => exact fun env => ⟨_, rfl⟩)
    (case b19 => kernel_rfl)
    (case a20 => k_is)
    (case i20 => k_is)
    (case l20 => k_is)
    (case s20 => exact fun env => ⟨_, rfl⟩)
    (case b20 => kernel_rfl)
    (case a21 => k_is)
    (case i21 => k_is)
    (case l21 => k_is)
    (case s21 => exact fun env => ⟨_, rfl⟩)
    (case b21 => kernel_rfl)
    (case a22 => k_is)
    (case b22 => kernel_rfl)
    (case a23 => k_is)
    (case i23 => k_is)
    (case l23 => k_is)
    (case s23 => exact fun env => ⟨_, rfl⟩)
    (case b23 => kernel_rfl)
    (case a24 => k_is)
    (case i24 => k_is)
    (case l24 => k_is)
    (case s24 => exact fun env => ⟨_, rfl⟩)
    (case b24 => kernel_rfl)
    (case a25 => k_is)
    (case b25 => kernel_rfl)
    (case a26 => k_is)
    (case i26 => k_is)
    (case l26 => k_is)
    (case s26 => exact fun env => ⟨_, rfl⟩)
    (case b26 => kernel_rfl)
    (case a27 => k_is)
    (case i27 => k_is)
    (case l27 => k_is)
    (case s27 => exact fun env => ⟨_, rfl⟩)
    (case b27 => kernel_rfl)
    (case a28 => k_is)
    (case i28 => k_is)
    (case l28 => k_is)
    (case s28 => exact fun env => ⟨_, rfl⟩)
    (case b28 => kernel_rfl)
    (case a29 => k_is)
    (case i29 => k_is)
    (case l29 => k_is)
    (case s29 => exact fun env => ⟨_, rfl⟩)
    (case b29 => kernel_rfl)
    (case a30 => k_is)
    (case b30 => kernel_rfl)
    (case tE => kernel_rfl)
    (case z31 => k_is)
    (case z32 => k_is)
    (case z33 => k_is)
    (case z34 => k_is)
    (case z35 => k_is)
    (case z36 => k_is)
    (case z37 => k_is)
    (case z38 => k_is)
    (case z39 => k_is)
    (case z40 => k_is)
    (case z41 => k_is)
    (case z42 => k_is)
    (case z43 => k_is)
    (case g44 => k_is)
    (case g45 => k_is)
    (case g46 => k_is)
    (case g47 => k_is)
    (case g48 => k_is)
    (case g49 => k_is)
#print axioms PySem.Challenge.cw_extendrounds_k01_errors_and_limits_holds

