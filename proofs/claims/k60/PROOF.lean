import PyProof.Rows.All
import Wide.All
import OpenK.AllK
import Wide.FinOn
import HandS.ForMost
import HandS.ForExc
import HandS.IsInst
import HandS.Wide
import HandS.WideBits
import KE.KSortedM
import PyProof.StrLawsRepr
import HandS.SortRule
import HandS.SortInts
import HandS.Conv
import HandS.TupSets
import KE.GoesMore
import HandS.SetFor
import HandS.Star
import HandS.Deep
import HandS.TupAny
import HandS.TryOnly
import HandS.Style
import PySem.Challenge.RW_extendrounds_k60_whole_zigzags_certified
set_option Elab.async false
set_option linter.all false
set_option maxRecDepth 100000
set_option maxHeartbeats 4000000
/-! Words shared by the proofs: where a def stands, what it promises, calls of it; readings taken apart by simp. -/
namespace Z
open PySem PySem.Spec PyProof.Rows L2

/-- the def x of the text stands where the module's name x points -/
def Here (K : PySem.W.Frag) (mg : Str → Option Value) (x : Str) (st : Stmt) : Prop := ∃ f fd, Fun K x x st f fd ∧ mg x = some (.ref f)
/-- how positional arguments come to the parameters: for every def without defaults -/
def Bd (x : Str) (st : Stmt) (ps : List Str) : Prop := ∀ (qual : Str) (kV doc pm : Value) (an : Option Addr) (cdv ct : Value) (us : List Value), us.length = ps.length → bindArgs (PySem.W.fnOf x qual (defArgs st) (defBody st) (defScope st) .none kV doc pm an cdv ct) ⟨us, []⟩ = pure (ps.zip us)
/-- it stands there and keeps its promise -/
structure Hd (P : Program) (w : World) (K : PySem.W.Frag) (mg : Str → Option Value) (base : Heap) (CX : CXT) (k : Nat) (x : Str) (st : Stmt) (ps : List Str) (sp : Sp) : Prop where
  ex : ∃ f fd, Fun K x x st f fd ∧ mg x = some (.ref f) ∧ FnOk P w K mg base CX k f fd ps sp
  bd : Bd x st ps
section
variable {X : Cx} {CX : CXT} {k : Nat} {st : Stmt} {ps : List Str} {sp : Sp} {E : XK} {x : Str} {p pos : Pos} {e : Expr} {es : List Expr} {t : TA}
theorem pe_hd (h : Hd X.prog X.w X.K X.mg X.base CX k x st ps sp) (hr : Room k X.A) (hg : Gl X x) (hx : Passes CX X E) (ha : PA X (e :: es) t) (hdb : (x == ("__debug__" : Str)) = false := by decide)
    (hs : starEach (e :: es) X.env = (false, eval e X.env) :: starEach es X.env := by rfl) (hpl : (backTo pos (starEach es X.env)).any (·.1) = false := by rfl) : PE X (.Call (.Name x p) (e :: es) [] pos) (tCall sp [] E t) := by
  obtain ⟨f, fd, F, hm, G⟩ := h.ex
  exact pe_call G hr hg hm F.kp (F.binds (h.bd x)) .nil hx ha hdb hs hpl
theorem pe_hd0 (h : Hd X.prog X.w X.K X.mg X.base CX k x st ps sp) (hr : Room k X.A) (hg : Gl X x) (hx : Passes CX X E) (hdb : (x == ("__debug__" : Str)) = false := by decide) : PE X (.Call (.Name x p) [] [] pos) (tCall sp [] E tNil) := by
  obtain ⟨f, fd, F, hm, G⟩ := h.ex
  exact pe_call0 G hr hg hm F.kp (F.binds (h.bd x)) .nil hx hdb
end
/-! ### readings taken apart -/
theorem set_z {α : Type} (a b : α) (l : List α) : (a :: l).set 0 b = b :: l := rfl
theorem set_s {α : Type} (a b : α) (l : List α) (i : Nat) : (a :: l).set (i + 1) b = a :: l.set i b := rfl
/-! ### cuts: a word between a part and what follows -/
def tCutE (te : TE) : TE := fun σ H Q => ∃ S : V → Hp → Prop, te σ H S ∧ ∀ v H', S v H' → Q v H'
theorem pe_cutZ {X : Cx} {e : Expr} {te : TE} (h : PE X e te) : PE X e (tCutE te) := ⟨fun pins s σ H Q I ⟨S, h1, h2⟩ =>
  thn (h.run pins s σ H S I h1) fun _ _ ⟨v, H', I', r, q⟩ => ⟨v, H', I', r, h2 v H' q⟩⟩
def tCutS (t u : TS) : TS := fun D σ H => ∃ Mid : L2.St → Hp → Prop, t { D with nx := Mid } σ H ∧ ∀ σ' H', Mid σ' H' → u D σ' H'
theorem pss_cutZ {X : Cx} {st : Stmt} {rest : List Stmt} {t u : TS} (h1 : PS X st t) (h2 : PSs X rest u) : PSs X (st :: rest) (tCutS t u) := by
  refine ⟨fun pins s σ H D I h => ?_⟩
  obtain ⟨Mid, hm, hu⟩ := h
  refine wpAny_execs_cons (thn (h1.run pins s σ H { D with nx := Mid } I hm) fun f s1 q => ?_)
  cases f with
  | next =>
    obtain ⟨σ', H', I', q⟩ := q
    exact h2.run pins s1 σ' H' D I' (hu σ' H' q)
  | ret v => exact q
  | brk => exact q
  | cont => exact q
/-- one of two written values -/
def tIfCI (t : TT) (i j : Int) : TE := fun σ H Q => t σ H fun c H1 => Q (.int (if c = true then i else j)) H1
theorem pe_ifCI {X : Cx} {c a b : Expr} {t : TT} {i j : Int} {pos : Pos} (hc : PT X c t) (ha : PE X a (tC (.int i))) (hb : PE X b (tC (.int j))) : PE X (.IfExp c a b pos) (tIfCI t i j) := ⟨fun pins s σ H Q I h =>
  (pe_ifExp hc ha hb).run pins s σ H Q I (by
    unfold tIfCI at h
    have e : (fun (c : Bool) (H1 : Hp) => if c = true then tC (.int i) σ H1 Q else tC (.int j) σ H1 Q) = fun c H1 => Q (.int (if c = true then i else j)) H1 := by
      funext c H1
      cases c <;> rfl
    show t σ H (fun (c : Bool) (H1 : Hp) => if c = true then tC (.int i) σ H1 Q else tC (.int j) σ H1 Q)
    rw [e]
    exact h)⟩
def tIfCS (t : TT) (i j : Str) : TE := fun σ H Q => t σ H fun c H1 => Q (.str (if c = true then i else j)) H1
theorem pe_ifCS {X : Cx} {c a b : Expr} {t : TT} {i j : Str} {pos : Pos} (hc : PT X c t) (ha : PE X a (tC (.str i))) (hb : PE X b (tC (.str j))) : PE X (.IfExp c a b pos) (tIfCS t i j) := ⟨fun pins s σ H Q I h =>
  (pe_ifExp hc ha hb).run pins s σ H Q I (by
    unfold tIfCS at h
    have e : (fun (c : Bool) (H1 : Hp) => if c = true then tC (.str i) σ H1 Q else tC (.str j) σ H1 Q) = fun c H1 => Q (.str (if c = true then i else j)) H1 := by
      funext c H1
      cases c <;> rfl
    show t σ H (fun (c : Bool) (H1 : Hp) => if c = true then tC (.str i) σ H1 Q else tC (.str j) σ H1 Q)
    rw [e]
    exact h)⟩
theorem z_seq {t u : TS} {D : Ends} {σ : L2.St} {H : Hp} (h : t { D with nx := u D } σ H) : tSeq t u D σ H := h
section
variable {X : Cx} {K : PySem.W.Frag} {H : Hp} {σ : L2.St}
/-- an item of a tracked list -/
def rIxH : R2 := fun x y H Q => ∃ p i xs v, x = .ref p ∧ y = .int i ∧ H p = some (.lst xs) ∧ atI xs i = some v ∧ Q v H
theorem ix_listH : IxR X rIxH := by
  intro e1 e2 pins s σ H x y v u Q I rx ry h hs
  obtain ⟨p, i, xs, z, rfl, rfl, hp, ha, q⟩ := h
  exact ix_list e1 e2 pins s σ H _ _ v u Q I rx ry ⟨p, xs, i, z, rfl, rfl, SqL.of hp, ha, q⟩ hs
def rIxU : R2 := fun x y H Q => ∃ p i xs v, x = .ref p ∧ y = .int i ∧ H p = some (.tup xs) ∧ atI xs i = some v ∧ Q v H
theorem ix_tupH : IxR X rIxU := by
  intro e1 e2 pins s σ H x y v u Q I rx ry h hs
  obtain ⟨p, i, xs, z, rfl, rfl, hp, ha, q⟩ := h
  exact ix_tup e1 e2 pins s σ H _ _ v u Q I rx ry ⟨p, xs, i, z, rfl, rfl, SqT.of hp, ha, q⟩ hs
theorem at30 {α : Type} (a b c : α) : atI [a, b, c] 0 = some a := rfl
theorem at31 {α : Type} (a b c : α) : atI [a, b, c] 1 = some b := rfl
theorem at32 {α : Type} (a b c : α) : atI [a, b, c] 2 = some c := rfl
theorem ixN30 {α : Type} (a b c : α) : ixN [a, b, c].length 0 = some 0 := rfl
theorem ixN31 {α : Type} (a b c : α) : ixN [a, b, c].length 1 = some 1 := rfl
theorem ixN32 {α : Type} (a b c : α) : ixN [a, b, c].length 2 = some 2 := rfl
theorem ix3_0 : ixN 3 0 = some 0 := rfl
theorem ix3_1 : ixN 3 1 = some 1 := rfl
theorem ix3_2 : ixN 3 2 = some 2 := rfl
/-- in, not in: a tracked tuple, a tracked list of flat things -/
def rInU (neg : Bool) : R2 := fun x y H Q => ∃ p xs, y = .ref p ∧ H p = some (.tup xs) ∧ flatV x = true ∧ xs.all flatV = true ∧ Q (.bl (if neg then !inV x xs else inV x xs)) H
def rInH (neg : Bool) : R2 := fun x y H Q => ∃ p xs, y = .ref p ∧ H p = some (.lst xs) ∧ flatV x = true ∧ xs.all flatV = true ∧ Q (.bl (if neg then !inV x xs else inV x xs)) H
theorem op_in_tupH : OpR X (compareOp .In) (rInU false) := by
  intro pins s σ H x y v u Q I rx ry h
  obtain ⟨p, xs, e, hp, h1, h2, q⟩ := h
  exact op_in_seq pins s σ H x y v u Q I rx ry ⟨p, xs, e, .inr (SqT.of hp), h1, h2, q⟩
theorem op_notIn_tupH : OpR X (compareOp .NotIn) (rInU true) := by
  intro pins s σ H x y v u Q I rx ry h
  obtain ⟨p, xs, e, hp, h1, h2, q⟩ := h
  exact op_notIn_seq pins s σ H x y v u Q I rx ry ⟨p, xs, e, .inr (SqT.of hp), h1, h2, q⟩
theorem op_in_lstH : OpR X (compareOp .In) (rInH false) := by
  intro pins s σ H x y v u Q I rx ry h
  obtain ⟨p, xs, e, hp, h1, h2, q⟩ := h
  exact op_in_seq pins s σ H x y v u Q I rx ry ⟨p, xs, e, .inl (SqL.of hp), h1, h2, q⟩
theorem op_notIn_lstH : OpR X (compareOp .NotIn) (rInH true) := by
  intro pins s σ H x y v u Q I rx ry h
  obtain ⟨p, xs, e, hp, h1, h2, q⟩ := h
  exact op_notIn_seq pins s σ H x y v u Q I rx ry ⟨p, xs, e, .inl (SqL.of hp), h1, h2, q⟩
/-! built-ins of tracked lists and tuples, each with one answer -/
theorem perm_sort {a b : List Int} (hp : a.Perm b) (ha : a.Pairwise (· ≤ ·)) : a = b.mergeSort := by
  have h2 : (b.mergeSort (· ≤ ·)).Pairwise (· ≤ ·) := by
    have h := List.pairwise_mergeSort (le := fun x y : Int => decide (x ≤ y)) (fun x y z h1 h2 => by simp only [decide_eq_true_eq] at *; omega) (fun x y => by simp only [Bool.or_eq_true, decide_eq_true_eq]; omega) b
    exact h.imp fun h => of_decide_eq_true h
  exact PySem.W.ksm_same (hp.trans (List.mergeSort_perm b _).symm) ha h2
theorem map_int_inj (a b : List Int) : (a.map V.int = b.map V.int) = (a = b) := propext ⟨fun h => List.map_inj_right (fun x y e => V.int.inj e) |>.mp h, fun h => by rw [h]⟩
theorem map_bl_inj (a b : List Bool) : (a.map V.bl = b.map V.bl) = (a = b) := propext ⟨fun h => List.map_inj_right (fun x y e => V.bl.inj e) |>.mp h, fun h => by rw [h]⟩
def rTupL : List V → Hp → VK → Prop := fun xs H Q => ∃ p ys, xs = [.ref p] ∧ H p = some (.lst ys) ∧ ∀ l, H l = none → Q (.ref l) (upd H l (.tup ys))
theorem call_tupleL : CallR X (.type "tuple") rTupL := by
  intro pins s σ H xs us Q I r h
  obtain ⟨p, ys, e, hp, q⟩ := h
  exact call_tuple_of pins s σ H xs us Q I r ⟨p, ys, e, .inl ⟨SqL.of hp, q⟩⟩
def rLstL : List V → Hp → VK → Prop := fun xs H Q => ∃ p ys, xs = [.ref p] ∧ H p = some (.lst ys) ∧ ∀ l, H l = none → Q (.ref l) (upd H l (.lst ys))
theorem call_listL : CallR X (.type "list") rLstL := by
  intro pins s σ H xs us Q I r h
  obtain ⟨p, ys, e, hp, q⟩ := h
  exact call_list_of pins s σ H xs us Q I r ⟨p, ys, e, .inl (SqL.of hp), q⟩
def rLstT : List V → Hp → VK → Prop := fun xs H Q => ∃ p ys, xs = [.ref p] ∧ H p = some (.tup ys) ∧ ∀ l, H l = none → Q (.ref l) (upd H l (.lst ys))
theorem call_listT : CallR X (.type "list") rLstT := by
  intro pins s σ H xs us Q I r h
  obtain ⟨p, ys, e, hp, q⟩ := h
  exact call_list_of pins s σ H xs us Q I r ⟨p, ys, e, .inr (SqT.of hp), q⟩
def rSortI : List V → Hp → VK → Prop := fun vs H Q => ∃ (a : Addr) (ns : List Int), vs = [V.ref a] ∧ H a = some (.lst (ns.map V.int)) ∧ ns.length < 64 ∧ ∀ p : Addr, H p = none → Q (.ref p) (upd H p (.lst (ns.mergeSort.map V.int)))
theorem cr_sortedH : CallR X (.builtin "sorted") rSortI := by
  intro pins s σ H vs us Q I r h
  obtain ⟨a, ns, e, ha, hl, q⟩ := h
  exact cr_sorted pins s σ H vs us Q I r ⟨a, ns, e, SqL.of ha, hl, fun ns' p hp hs hn => by rw [perm_sort hp hs]; exact q p hn⟩
def rAnyH : List V → Hp → VK → Prop := fun vs H Q => ∃ (a : Addr) (bs : List Bool), vs = [V.ref a] ∧ H a = some (.lst (bs.map V.bl)) ∧ Q (.bl (bs.any id)) H
def rAllH : List V → Hp → VK → Prop := fun vs H Q => ∃ (a : Addr) (bs : List Bool), vs = [V.ref a] ∧ H a = some (.lst (bs.map V.bl)) ∧ Q (.bl (bs.all id)) H
theorem cr_anyH (hc : X.calm = true) : CallR X (.builtin "any") rAnyH := by
  intro pins s σ H vs us Q I r h
  obtain ⟨a, bs, e, ha, q⟩ := h
  exact cr_any hc pins s σ H vs us Q I r ⟨a, bs, e, SqL.of ha, q⟩
theorem cr_allH (hc : X.calm = true) : CallR X (.builtin "all") rAllH := by
  intro pins s σ H vs us Q I r h
  obtain ⟨a, bs, e, ha, q⟩ := h
  exact cr_all hc pins s σ H vs us Q I r ⟨a, bs, e, SqL.of ha, q⟩
def rSumH : List V → Hp → VK → Prop := fun vs H Q => ∃ (a : Addr) (ns : List Int), vs = [V.ref a] ∧ H a = some (.lst (ns.map V.int)) ∧ Q (.int ns.sum) H
theorem cr_sumH (hc : X.calm = true) : CallR X (.builtin "sum") rSumH := by
  intro pins s σ H vs us Q I r h
  obtain ⟨a, ns, e, ha, q⟩ := h
  exact cr_sum hc pins s σ H vs us Q I r ⟨a, ns, e, SqL.of ha, q⟩
def rLenL : List V → Hp → VK → Prop := fun xs H Q => ∃ p ys, xs = [.ref p] ∧ H p = some (.lst ys) ∧ Q (.int ys.length) H
def rLenU : List V → Hp → VK → Prop := fun xs H Q => ∃ p ys, xs = [.ref p] ∧ H p = some (.tup ys) ∧ Q (.int ys.length) H
theorem call_lenL : CallR X (.builtin "len") rLenL := by
  intro pins s σ H vs us Q I r h
  obtain ⟨a, ys, e, ha, q⟩ := h
  exact call_len_seq pins s σ H vs us Q I r ⟨a, ys, e, .inl (SqL.of ha), q⟩
theorem call_lenU : CallR X (.builtin "len") rLenU := by
  intro pins s σ H vs us Q I r h
  obtain ⟨a, ys, e, ha, q⟩ := h
  exact call_len_seq pins s σ H vs us Q I r ⟨a, ys, e, .inr (SqT.of ha), q⟩
/-- a method of a tracked list -/
def tBML (r : V → List V → Hp → VK → Prop) (to : TE) (t : TA) : TE := fun σ H Q => to σ H fun x H1 => ∃ a xs, x = .ref a ∧ H1 a = some (.lst xs) ∧ t σ H1 fun vs H2 => r x vs H2 Q
theorem pe_bmL {o e : Expr} {es : List Expr} {to : TE} {t : TA} {name : Str} {apos cpos : Pos} {id : String} {r : V → List V → Hp → VK → Prop} (pa : PlainAttrs "list") (slot : Slot "list" name id) (hty : typeOf (.builtin id) = pure (.type "method_descriptor")) (hm : MtR X id r) (ho : PE X o to) (ha : PA X (e :: es) t)
    (hbase : attributeBase o name X.env (eval o X.env) = eval o X.env := by rfl)
    (hfew : ((backTo cpos (starEach (e :: es) X.env)).all (fun x => !x.1) && (backToKw cpos (keywordEach [] X.env)).all (fun x => x.1.isSome)
      && decide ((e :: es).length + ([] : List Keyword).length + (if ([] : List Keyword).isEmpty then 0 else 1) < 30)) = true := by rfl)
    (hline : (apos.endLine == cpos.line) = true := by rfl) (hs : starEach (e :: es) X.env = (false, eval e X.env) :: starEach es X.env := by rfl) (hplain : (backTo cpos (starEach es X.env)).any (·.1) = false := by rfl) :
    PE X (.Call (.Attribute o name apos) (e :: es) [] cpos) (tBML r to t) := by
  refine ⟨fun pins s σ H Q I h => ?_⟩
  refine wpAny_Call_method_late hbase hfew hline rfl (thn (ho.run pins s σ H _ I h) fun v s1 ⟨x, H1, I1, r1, a, xs, ex, ea, q1⟩ => ?_)
  subst ex
  obtain ⟨h1, h2⟩ := tyV_is (T := "list") (x := .ref a) I1 r1 (.inl ⟨rfl, xs, SqL.of ea⟩)
  refine ⟨"list", id, pa, slot, hty, h1, h2, ?_⟩
  have hA := ha.run cpos pins s1 σ H1 _ I1 q1
  rw [hs] at hA ⊢
  refine Calls.callWith_builtin (by show (false || (backTo cpos (starEach es X.env)).any (·.1)) = false; rw [hplain] <;> rfl) (Calls.evalArgs_plain ?_)
  exact thn hA fun us s2 ⟨vs, H2, I2, r2, q2⟩ => hm pins s2 σ H2 _ vs v us Q I2 r1 r2 q2
/-- for k in range(n), n reckoned -/
theorem for_rng {n : Int} {g : TG} {tb : TS} {D : Ends} {H1 : Hp} {ta : TA} (hta : ∀ R : List V → Hp → Prop, R [.int n] H1 → ta σ H R) (hn : 0 ≤ n ∧ n < 2 ^ 62) (Pv : Nat → L2.St → Hp → Prop) (h0 : Pv 0 σ H1)
    (hs : ∀ (i : Nat) σ H, (i : Int) < n → Pv i σ H → g (.int i) σ H fun σ2 H2 => tb { D with nx := Pv (i + 1), ct := Pv (i + 1), bk := D.nx } σ2 H2) (hd : ∀ σ H, Pv n.toNat σ H → D.nx σ H) : tFor (iRng1 ta) g tb D σ H := by
  refine hta _ ⟨n, rfl, by omega, hn.2, ?_⟩
  refine for_range (lo := 0) (n := n.toNat) Pv h0 (fun i σ H hi p => ?_) hd
  have e : (0 : Int) + (i : Int) = (i : Int) := by omega
  rw [e]
  exact hs i σ H (by omega) p
/-- [e for k in range(n)] -/
theorem lc_rng {n : Int} {g : TG} {tt : TT} {te : TE} {vs : List Nat} {H1 : Hp} {ta : TA} {Q : VK} (hta : ∀ R : List V → Hp → Prop, R [.int n] H1 → ta σ H R) (hn : n < 2 ^ 62 ∧ -(2 ^ 62) ≤ n) (Pv : Addr → Nat → Hp → Prop) (h0 : ∀ D, H1 D = none → Pv D 0 (upd H1 D (.lst [])))
    (hs : ∀ D, H1 D = none → ∀ (i : Nat) H, (i : Int) < n → Pv D i H → g (.int i) (wipe σ vs) H fun σ2 H2 => wipe σ2 vs = wipe σ vs ∧ tt σ2 H2 fun b H3 =>
      if b = true then te σ2 H3 fun y H4 => ∃ acc, H4 D = some (.lst acc) ∧ acc.length < sizeLine ∧ Pv D (i + 1) (upd H4 D (.lst (acc ++ [y]))) else Pv D (i + 1) H3) (hd : ∀ D H, H1 D = none → Pv D n.toNat H → Q (.ref D) H) : tLc (iRng1 ta) g tt te vs σ H Q := by
  refine hta _ ⟨n, rfl, hn.2, hn.1, fun D hD => ?_⟩
  refine lc_range (lo := 0) (n := n.toNat) (Pv D) (h0 D hD) (fun i H hi p => ?_) fun H p => hd D H hD p
  have e : (0 : Int) + (i : Int) = (i : Int) := by omega
  rw [e]
  exact hs D hD i H (by omega) p
/-- [e for x in xs], the list told by its tracked address -/
theorem lc_lst {a : Addr} {xs : List V} {g : TG} {tt : TT} {te : TE} {vs : List Nat} {H1 : Hp} {tl : TE} {Q : VK} (htl : ∀ R : VK, R (.ref a) H1 → tl σ H R) (Pv : Addr → Nat → Hp → Prop) (ha : SqL K H1 a xs) (h0 : ∀ D, H1 D = none → Pv D 0 (upd H1 D (.lst [])))
    (hl : ∀ D, H1 D = none → ∀ i H, Pv D i H → SqL K H a xs)
    (hs : ∀ D, H1 D = none → ∀ (i : Nat) x H, xs[i]? = some x → Pv D i H → g x (wipe σ vs) H fun σ2 H2 => wipe σ2 vs = wipe σ vs ∧ tt σ2 H2 fun b H3 =>
      if b = true then te σ2 H3 fun y H4 => ∃ acc, H4 D = some (.lst acc) ∧ acc.length < sizeLine ∧ Pv D (i + 1) (upd H4 D (.lst (acc ++ [y]))) else Pv D (i + 1) H3) (hd : ∀ D H, H1 D = none → Pv D xs.length H → Q (.ref D) H) : tLc (iList K tl) g tt te vs σ H Q := by
  refine htl _ ⟨a, rfl, ⟨xs, ha⟩, fun D hD => ?_⟩
  exact lc_list (K := K) (a := a) (xs := xs) (Pv D) (h0 D hD) (fun i H _ p => hl D hD i H p) (hs D hD) fun H p => hd D H hD p
/-- over a tuple -/
theorem lc_tp {a : Addr} {xs : List V} {g : TG} {tt : TT} {te : TE} {vs : List Nat} {H1 : Hp} {tl : TE} {Q : VK} (htl : ∀ R : VK, R (.ref a) H1 → tl σ H R) (Pv : Addr → Nat → Hp → Prop) (ha : SqT K H1 a xs) (h0 : ∀ D, H1 D = none → Pv D 0 (upd H1 D (.lst [])))
    (hl : ∀ D, H1 D = none → ∀ i H, Pv D i H → SqT K H a xs)
    (hs : ∀ D, H1 D = none → ∀ (i : Nat) x H, xs[i]? = some x → Pv D i H → g x (wipe σ vs) H fun σ2 H2 => wipe σ2 vs = wipe σ vs ∧ tt σ2 H2 fun b H3 =>
      if b = true then te σ2 H3 fun y H4 => ∃ acc, H4 D = some (.lst acc) ∧ acc.length < sizeLine ∧ Pv D (i + 1) (upd H4 D (.lst (acc ++ [y]))) else Pv D (i + 1) H3) (hd : ∀ D H, H1 D = none → Pv D xs.length H → Q (.ref D) H) : tLc (iTup K tl) g tt te vs σ H Q := by
  refine htl _ ⟨a, rfl, ⟨xs, ha⟩, fun D hD => ?_⟩
  exact lc_tup (K := K) (a := a) (xs := xs) (Pv D) (h0 D hD) (fun i H _ p => hl D hD i H p) (hs D hD) fun H p => hd D H hD p
end
theorem sc_ii (a b : Int) : scal (.int a) (.int b) = true := rfl
theorem sc_ss (a b : Str) : scal (.str a) (.str b) = true := rfl
theorem sc_bb (a b : Bool) : scal (.bl a) (.bl b) = true := rfl
theorem sc_is (a : Int) (b : Str) : scal (.int a) (.str b) = true := rfl
theorem sc_si (a : Str) (b : Int) : scal (.str a) (.int b) = true := rfl
theorem sc_ni (b : Int) : scal .non (.int b) = true := rfl
theorem sc_in (b : Int) : scal (.int b) .non = true := rfl
theorem sc_ns (b : Str) : scal .non (.str b) = true := rfl
theorem sc_sn (b : Str) : scal (.str b) .non = true := rfl
theorem sc_nn : scal .non .non = true := rfl
/-! ### isinstance of a built-in class -/
def tyN (H : Hp) : V → Option String
  | .non => some "NoneType"
  | .bl _ => some "bool"
  | .int _ => some "int"
  | .str _ => some "str"
  | .ref a => match H a with
    | some (.lst _) => some "list"
    | some (.tup _) => some "tuple"
    | some (.dK _) => some "dict"
    | some (.dT _) => some "dict"
    | _ => none
  | _ => none
theorem tyX_of {K : PySem.W.Frag} {H : Hp} {x : V} {t : String} (h : tyN H x = some t) : TyX K H x (.type t) := by
  unfold tyN at h
  split at h
  · cases h; exact .base .non
  · cases h; exact .base (.bl _)
  · cases h; exact .base (.int _)
  · cases h; exact .base (.str _)
  · split at h
    · cases h; exact .base (.lst (by assumption))
    · cases h; exact .base (.tup (by assumption))
    · cases h; exact .base (.dK (by assumption))
    · cases h; exact .base (.dT (by assumption))
    · cases h
  · cases h
def rIsN : List V → Hp → VK → Prop := fun xs H Q => ∃ x n, xs = [x, .ty n] ∧ ∃ t, tyN H x = some t ∧ ∃ b, kitB t n = some b ∧ Q (.bl b) H
theorem call_isN {X : Cx} : CallR X (.builtin "isinstance") rIsN := by
  intro pins s σ H xs us Q I r h
  obtain ⟨x, n, rfl, t, ht, b, hb, q⟩ := h
  exact call_isi pins s σ H _ us Q I r ⟨x, .ty n, .type t, .type n, b, rfl, .ty n, tyX_of ht, kit_ty hb, q⟩
theorem kit_ii : kitB "int" "int" = some true := by decide +kernel
theorem kit_bi : kitB "bool" "int" = some true := by decide +kernel
theorem kit_si : kitB "str" "int" = some false := by decide +kernel
theorem kit_ni : kitB "NoneType" "int" = some false := by decide +kernel
theorem kit_ib : kitB "int" "bool" = some false := by decide +kernel
theorem kit_bb : kitB "bool" "bool" = some true := by decide +kernel
theorem kit_sb : kitB "str" "bool" = some false := by decide +kernel
theorem kit_nb : kitB "NoneType" "bool" = some false := by decide +kernel
theorem kit_is : kitB "int" "str" = some false := by decide +kernel
theorem kit_bs : kitB "bool" "str" = some false := by decide +kernel
theorem kit_ss : kitB "str" "str" = some true := by decide +kernel
theorem kit_ns : kitB "NoneType" "str" = some false := by decide +kernel
/-! ### heaps -/
theorem same_new {H : Hp} {p : Addr} {o : HO} (h : H p = none) : Same H (upd H p o) := fun b x e => by
  rw [upd_ne (ne_of_none e h)]
  exact e
theorem same_upd {H H' : Hp} {p : Addr} {o : HO} (s : Same H H') (h : H p = none) : Same H (upd H' p o) := fun b x e => by
  rw [upd_ne (ne_of_none e h)]
  exact s b x e
theorem same_no {H H' : Hp} {p : Addr} (s : Same H H') (h : H' p = none) : H p = none := s.free h
/-- a, b, .. = a tracked tuple -/
def gTupH (n : Nat) (t : TGs) : TG := fun v σ H Q => ∃ a xs, v = .ref a ∧ H a = some (.tup xs) ∧ xs.length = n ∧ t xs σ H Q
theorem pg_tupH {X : Cx} {es : List Expr} {k : Nat} {pos : Pos} {t : TGs} {n : Nat} (hc : X.calm = true) (h : PGs X es t)
    (hn : (assignEach es X.env).length = n := by rfl) (hst : (assignEach es X.env).findIdx? (·.1) = none := by rfl) : PG X (.Tuple es k pos) (gTupH n t) := by
  refine ⟨fun pins s σ H v u Q I r hw => (pg_tup hc h hn hst).run pins s σ H v u Q I r ?_⟩
  obtain ⟨a, xs, e1, hq, hl, hw⟩ := hw
  exact ⟨a, xs, e1, SqT.of hq, hl, hw⟩
/-- xs[k] of the script, or another number -/
theorem idx_or {K : PySem.W.Frag} {H : Hp} {a : Addr} {ns : List Int} {k c0 : Int} {F : V → Hp → Prop} (hs : SqL K H a (ns.map V.int)) (hk : 0 ≤ k) (h : ∀ c : Int, F (.int c) H) :
    if k < ((ns.map V.int).length : Int) then rIxL K (.ref a) (.int k) H F else F (.int c0) H := by
  split
  · rename_i c
    rw [List.length_map] at c
    obtain ⟨m, rfl⟩ : ∃ m : Nat, k = m := ⟨k.toNat, by omega⟩
    have hl : m < ns.length := by omega
    refine ⟨a, _, _, .int ns[m], rfl, rfl, hs, atI_nat ?_, h _⟩
    rw [List.getElem?_map, List.getElem?_eq_getElem hl]
    rfl
  · exact h _
theorem cut_ints (ns : List Int) (lo hi : Option Int) : ∃ ms : List Int, cutV (ns.map V.int) lo hi = ms.map V.int ∧ ms.length ≤ ns.length := by
  refine ⟨(ns.drop (HT.sIx ns.length 0 lo)).take (HT.sIx ns.length ns.length hi - HT.sIx ns.length 0 lo), ?_, ?_⟩
  · unfold cutV
    rw [List.length_map, List.map_take, List.map_drop]
  · rw [List.length_take, List.length_drop]
    omega
/-- for x in a list of ints that the loop leaves, as it leaves the heap -/
theorem for_ints {K : PySem.W.Frag} {σ : L2.St} {H : Hp} {g : TG} {tb : TS} {D : Ends} {tl : TE} (htl : ∀ R : VK, (∀ a H' (ns : List Int), Same H H' → H' a = some (.lst (ns.map V.int)) → R (.ref a) H') → tl σ H R) (Pv : L2.St → Prop) (h0 : Pv σ)
    (hs : ∀ (x : Int) σ H', Same H H' → Pv σ → ∀ N : L2.St → Hp → Prop, (∀ σ', Pv σ' → N σ' H') → g (.int x) σ H' fun σ2 H2 => tb { D with nx := N, ct := N, bk := D.nx } σ2 H2) (hd : ∀ σ' H', Same H H' → Pv σ' → D.nx σ' H') : tFor (iList K tl) g tb D σ H := by
  refine htl _ fun a H' ns s ha => ⟨a, rfl, ⟨_, SqL.of ha⟩, ?_⟩
  refine for_list (K := K) (a := a) (xs := ns.map V.int) (fun _ σ H2 => H2 = H' ∧ Pv σ) ⟨rfl, h0⟩ (fun i σ H2 _ p => by rw [p.1]; exact SqL.of ha) (fun i x σ H2 hx p => ?_) fun σ H2 p => by
    rw [p.1]
    exact hd σ H' s p.2
  obtain ⟨z, _, rfl⟩ : ∃ z, z ∈ ns ∧ V.int z = x := List.mem_map.mp (List.mem_of_getElem? hx)
  rw [p.1]
  exact hs z σ H' s p.2 _ fun σ' h => ⟨rfl, h⟩
/-- for x in a list that stands and stays -/
theorem for_trk {K : PySem.W.Frag} {σ : L2.St} {H : Hp} {g : TG} {tb : TS} {D : Ends} {tl : TE} {a : Addr} {xs : List V} (htl : ∀ R : VK, R (.ref a) H → tl σ H R) (Pv : Nat → L2.St → Hp → Prop) (h0 : Pv 0 σ H)
    (hst : ∀ i σ' H', Pv i σ' H' → SqL K H' a xs)
    (hs : ∀ i x σ H', xs[i]? = some x → Pv i σ H' → ∀ N : L2.St → Hp → Prop, (∀ σ' H2, Pv (i + 1) σ' H2 → N σ' H2) → g x σ H' fun σ2 H2 => tb { D with nx := N, ct := N, bk := D.nx } σ2 H2)
    (hd : ∀ σ' H', Pv xs.length σ' H' → D.nx σ' H') : tFor (iList K tl) g tb D σ H := by
  refine htl _ ⟨a, rfl, ⟨_, hst 0 σ H h0⟩, ?_⟩
  exact for_list (K := K) (a := a) (xs := xs) Pv h0 (fun i σ H2 _ p => hst i σ H2 p) (fun i x σ H2 hx p => hs i x σ H2 hx p _ fun σ' H3 h => h) hd
/-- for x in a list that is written there -/
theorem for_lstn {K : PySem.W.Frag} {σ : L2.St} {H : Hp} {g : TG} {tb : TS} {D : Ends} {tl : TE} {xs : List V} (htl : ∀ R : VK, (∀ a, H a = none → R (.ref a) (upd H a (.lst xs))) → tl σ H R) (Pv : Nat → L2.St → Hp → Prop)
    (h0 : ∀ a, H a = none → Pv 0 σ (upd H a (.lst xs)))
    (hs : ∀ a, H a = none → ∀ i x σ H', xs[i]? = some x → H' a = some (.lst xs) → Pv i σ H' → ∀ N : L2.St → Hp → Prop, (∀ σ' H2, H2 a = some (.lst xs) → Pv (i + 1) σ' H2 → N σ' H2) → g x σ H' fun σ2 H2 => tb { D with nx := N, ct := N, bk := D.nx } σ2 H2)
    (hd : ∀ σ' H', Pv xs.length σ' H' → D.nx σ' H') : tFor (iList K tl) g tb D σ H := by
  refine htl _ fun a ha => ⟨a, rfl, ⟨_, SqL.of upd_same⟩, ?_⟩
  refine for_list (K := K) (a := a) (xs := xs) (fun i σ H2 => H2 a = some (.lst xs) ∧ Pv i σ H2) ⟨upd_same, h0 a ha⟩ (fun i σ H2 _ p => SqL.of p.1) (fun i x σ H2 hx p => ?_) fun σ H2 p => hd σ H2 p.2
  exact hs a ha i x σ H2 hx p.1 p.2 _ fun σ' H3 h1 h2 => ⟨h1, h2⟩
/-! ### comprehensions whose elements are values -/
section
variable {K : PySem.W.Frag} {σ : L2.St}
theorem take_fm {α β : Type} (f : α → Option β) {xs : List α} {i : Nat} {x : α} (h : xs[i]? = some x) : (xs.take (i + 1)).filterMap f = (xs.take i).filterMap f ++ (f x).toList := by
  rw [List.take_add_one, h, List.filterMap_append]
  cases e : f x with
  | none => simp [e]
  | some y => simp [e]
/-- one turn of a comprehension: the element's value, or nothing -/
def Turn1 (g : TG) (tt : TT) (te : TE) (vs : List Nat) (σ : L2.St) (H : Hp) (x : V) (o : Option V) : Prop :=
  ∀ (Y : V → Hp → Prop) (N : Hp → Prop), (∀ y H', o = some y → Same H H' → Y y H') → (∀ H', o = none → Same H H' → N H') →
    g x (wipe σ vs) H fun σ2 H2 => wipe σ2 vs = wipe σ vs ∧ tt σ2 H2 fun b H3 => if b = true then te σ2 H3 Y else N H3
/-- what the new list holds between two turns -/
def Acc (H1 : Hp) (f : V → Option V) (xs : List V) (D : Addr) (i : Nat) (H : Hp) : Prop := Same H1 H ∧ H D = some (.lst ((xs.take i).filterMap f))
theorem acc_turn {H1 : Hp} {f : V → Option V} {xs : List V} {D : Addr} {i : Nat} {H : Hp} {x : V} {g : TG} {tt : TT} {te : TE} {vs : List Nat} (hD : H1 D = none) (hx : xs.length ≤ 1000) (h : xs[i]? = some x) (p : Acc H1 f xs D i H) (t : Turn1 g tt te vs σ H x (f x)) :
    g x (wipe σ vs) H fun σ2 H2 => wipe σ2 vs = wipe σ vs ∧ tt σ2 H2 fun b H3 =>
      if b = true then te σ2 H3 fun y H4 => ∃ acc, H4 D = some (.lst acc) ∧ acc.length < sizeLine ∧ Acc H1 f xs D (i + 1) (upd H4 D (.lst (acc ++ [y]))) else Acc H1 f xs D (i + 1) H3 := by
  refine t _ _ (fun y H' e s => ?_) fun H' e s => ?_
  · refine ⟨_, s _ _ p.2, ?_, ?_, ?_⟩
    · refine Nat.lt_of_le_of_lt (List.length_filterMap_le _ _) ?_
      rw [List.length_take]
      exact Nat.lt_of_le_of_lt (Nat.min_le_right _ _) (small1000 hx)
    · intro b o eb
      rw [upd_ne (ne_of_none eb hD)]
      exact s _ _ (p.1 _ _ eb)
    · rw [upd_same, take_fm f h, e]
      rfl
  · refine ⟨p.1.trans s, ?_⟩
    rw [take_fm f h, e, s _ _ p.2]
    simp
theorem acc_start {H1 : Hp} {f : V → Option V} {xs : List V} {D : Addr} (hD : H1 D = none) : Acc H1 f xs D 0 (upd H1 D (.lst [])) := ⟨fun b o eb => by
  rw [upd_ne (ne_of_none eb hD)]
  exact eb, by rw [upd_same]; rfl⟩
theorem lc_mapL {a : Addr} {xs : List V} {g : TG} {tt : TT} {te : TE} {vs : List Nat} {H H1 : Hp} {tl : TE} {Q : VK} (f : V → Option V) (htl : ∀ R : VK, R (.ref a) H1 → tl σ H R) (ha : SqL K H1 a xs) (hx : xs.length ≤ 1000)
    (hs : ∀ x ∈ xs, ∀ H, Same H1 H → Turn1 g tt te vs σ H x (f x))
    (hd : ∀ D H', H1 D = none → Same H1 H' → H' D = some (.lst (xs.filterMap f)) → Q (.ref D) H') : tLc (iList K tl) g tt te vs σ H Q := by
  refine htl _ ⟨a, rfl, ⟨xs, ha⟩, fun D hD => ?_⟩
  refine lc_list (K := K) (a := a) (xs := xs) (Acc H1 f xs D) (acc_start hD) (fun i H _ p => p.1.seq ha) (fun i x H h p => acc_turn hD hx h p (hs x (List.mem_of_getElem? h) H p.1)) fun H p => ?_
  have e := p.2
  rw [List.take_length] at e
  exact hd D H hD p.1 e
theorem sq_same {H H' : Hp} {a : Addr} {xs : List V} (e : Same H H') (h : SqT K H a xs) : SqT K H' a xs := by
  rcases h with (h | ⟨o, h⟩) | h
  · exact .inl (.inl (e _ _ h))
  · exact .inl (.inr ⟨o, e _ _ h⟩)
  · exact .inr h
theorem lc_mapT {a : Addr} {xs : List V} {g : TG} {tt : TT} {te : TE} {vs : List Nat} {H H1 : Hp} {tl : TE} {Q : VK} (f : V → Option V) (htl : ∀ R : VK, R (.ref a) H1 → tl σ H R) (ha : SqT K H1 a xs) (hx : xs.length ≤ 1000)
    (hs : ∀ x ∈ xs, ∀ H, Same H1 H → Turn1 g tt te vs σ H x (f x))
    (hd : ∀ D H', H1 D = none → Same H1 H' → H' D = some (.lst (xs.filterMap f)) → Q (.ref D) H') : tLc (iTup K tl) g tt te vs σ H Q := by
  refine htl _ ⟨a, rfl, ⟨xs, ha⟩, fun D hD => ?_⟩
  refine lc_tup (K := K) (a := a) (xs := xs) (Acc H1 f xs D) (acc_start hD) (fun i H _ p => sq_same p.1 ha) (fun i x H h p => acc_turn hD hx h p (hs x (List.mem_of_getElem? h) H p.1)) fun H p => ?_
  have e := p.2
  rw [List.take_length] at e
  exact hd D H hD p.1 e
theorem lc_mapTn {xs : List V} {g : TG} {tt : TT} {te : TE} {vs : List Nat} {H : Hp} {tl : TE} {Q : VK} (f : V → Option V) (htl : ∀ R : VK, (∀ a, H a = none → R (.ref a) (upd H a (.tup xs))) → tl σ H R) (hx : xs.length ≤ 1000)
    (hs : ∀ x ∈ xs, ∀ H', Same H H' → Turn1 g tt te vs σ H' x (f x))
    (hd : ∀ D H', H D = none → Same H H' → H' D = some (.lst (xs.filterMap f)) → Q (.ref D) H') : tLc (iTup K tl) g tt te vs σ H Q := by
  refine htl _ fun a ha => ⟨a, rfl, ⟨xs, SqT.of upd_same⟩, fun D hD => ?_⟩
  have s1 : Same H (upd H a (.tup xs)) := same_new ha
  refine lc_tup (K := K) (a := a) (xs := xs) (Acc (upd H a (.tup xs)) f xs D) (acc_start hD) (fun i H _ p => sq_same p.1 (SqT.of upd_same)) (fun i x H h p => acc_turn hD hx h p (hs x (List.mem_of_getElem? h) H (s1.trans p.1))) fun H p => ?_
  have e := p.2
  rw [List.take_length] at e
  exact hd D H (s1.free hD) (s1.trans p.1) e
theorem lc_mapLn {xs : List V} {g : TG} {tt : TT} {te : TE} {vs : List Nat} {H : Hp} {tl : TE} {Q : VK} (f : V → Option V) (htl : ∀ R : VK, (∀ a, H a = none → R (.ref a) (upd H a (.lst xs))) → tl σ H R) (hx : xs.length ≤ 1000)
    (hs : ∀ x ∈ xs, ∀ H', Same H H' → Turn1 g tt te vs σ H' x (f x))
    (hd : ∀ D H', H D = none → Same H H' → H' D = some (.lst (xs.filterMap f)) → Q (.ref D) H') : tLc (iList K tl) g tt te vs σ H Q := by
  refine htl _ fun a ha => ⟨a, rfl, ⟨xs, SqL.of upd_same⟩, fun D hD => ?_⟩
  have s1 : Same H (upd H a (.lst xs)) := same_new ha
  refine lc_list (K := K) (a := a) (xs := xs) (Acc (upd H a (.lst xs)) f xs D) (acc_start hD) (fun i H _ p => p.1.seq (SqL.of upd_same)) (fun i x H h p => acc_turn hD hx h p (hs x (List.mem_of_getElem? h) H (s1.trans p.1))) fun H p => ?_
  have e := p.2
  rw [List.take_length] at e
  exact hd D H (s1.free hD) (s1.trans p.1) e
/-- the ints below n -/
def upto (n : Int) : List V := (List.range n.toNat).map fun i => V.int (i : Nat)
theorem upto_get {n : Int} {i : Nat} (h : (i : Int) < n) : (upto n)[i]? = some (.int i) := by
  unfold upto
  rw [List.getElem?_map, List.getElem?_range (by omega)]
  rfl
theorem upto_len (n : Int) : (upto n).length = n.toNat := by
  unfold upto
  rw [List.length_map, List.length_range]
theorem lc_mapR {n : Int} {g : TG} {tt : TT} {te : TE} {vs : List Nat} {H H1 : Hp} {ta : TA} {Q : VK} (f : V → Option V) (hta : ∀ R : List V → Hp → Prop, R [.int n] H1 → ta σ H R) (hn : n ≤ 1000 ∧ 0 ≤ n)
    (hs : ∀ i : Nat, (i : Int) < n → ∀ H, Same H1 H → Turn1 g tt te vs σ H (.int i) (f (.int i)))
    (hd : ∀ D H', H1 D = none → Same H1 H' → H' D = some (.lst ((upto n).filterMap f)) → Q (.ref D) H') : tLc (iRng1 ta) g tt te vs σ H Q := by
  refine hta _ ⟨n, rfl, by omega, by omega, fun D hD => ?_⟩
  refine lc_range (lo := 0) (n := n.toNat) (Acc H1 f (upto n) D) (acc_start hD) (fun i H hi p => ?_) fun H p => ?_
  · have e : (0 : Int) + (i : Int) = (i : Int) := by omega
    rw [e]
    exact acc_turn hD (by rw [upto_len]; omega) (upto_get (by omega)) p (hs i (by omega) H p.1)
  · have e := p.2
    rw [show n.toNat = (upto n).length from (upto_len n).symm, List.take_length] at e
    exact hd D H hD p.1 e
end
/-! ### a source of draws: three numbers in a list at p, and nothing else is changed -/
def Spring (H : Hp) (p : Addr) : Prop := ∃ a b c : Int, H p = some (.lst [.int a, .int b, .int c])
structure Kp (p : Addr) (H H' : Hp) : Prop where
  sp : Spring H' p
  keep : ∀ b o, b ≠ p → H b = some o → H' b = some o
theorem Kp.refl {p : Addr} {H : Hp} (h : Spring H p) : Kp p H H := ⟨h, fun _ _ _ e => e⟩
theorem Kp.trans {p : Addr} {H H1 H2 : Hp} (a : Kp p H H1) (b : Kp p H1 H2) : Kp p H H2 := ⟨b.sp, fun c o n e => b.keep c o n (a.keep c o n e)⟩
theorem Spring.ne {H : Hp} {p q : Addr} (h : Spring H p) (n : H q = none) : q ≠ p := by
  rintro rfl
  obtain ⟨_, _, _, e⟩ := h
  rw [e] at n
  cases n
theorem ne_of_spring {H : Hp} {p q : Addr} (h : Spring H p) (n : H q = none) : p ≠ q := Ne.symm (h.ne n)
theorem Spring.same {H H' : Hp} {p : Addr} (h : Spring H p) (s : Same H H') : Spring H' p := by
  obtain ⟨a, b, c, e⟩ := h
  exact ⟨a, b, c, s _ _ e⟩
theorem Spring.new {H : Hp} {p q : Addr} {o : HO} (h : Spring H p) (n : H q = none) : Spring (upd H q o) p := h.same (same_new n)
theorem Kp.same {p : Addr} {H H1 H2 : Hp} (a : Kp p H H1) (s : Same H1 H2) : Kp p H H2 := ⟨a.sp.same s, fun c o n e => s c o (a.keep c o n e)⟩
theorem Kp.new {p q : Addr} {H H1 : Hp} {o : HO} (a : Kp p H H1) (n : H1 q = none) : Kp p H (upd H1 q o) := a.same (same_new n)
theorem Kp.free {p q : Addr} {H H1 : Hp} (a : Kp p H H1) (hp : q ≠ p) (n : H1 q = none) : H q = none := by
  cases e : H q with
  | none => rfl
  | some o =>
    rw [a.keep q o hp e] at n
    cases n
/-- what H does not know may change -/
theorem Kp.mut {p q : Addr} {H H1 : Hp} {o : HO} (a : Kp p H H1) (hp : q ≠ p) (n : H q = none) : Kp p H (upd H1 q o) := by
  obtain ⟨x, y, z, e⟩ := a.sp
  refine ⟨⟨x, y, z, ?_⟩, fun b u nb e' => ?_⟩
  · rw [upd_ne (Ne.symm hp)]
    exact e
  · rw [upd_ne (ne_of_none e' n)]
    exact a.keep b u nb e'
theorem Kp.seq {K : PySem.W.Frag} {p q : Addr} {H H1 : Hp} {xs : List V} (a : Kp p H H1) (hp : q ≠ p) (h : SqL K H q xs) : SqL K H1 q xs := by
  rcases h with (h | ⟨o, h⟩) | h
  · exact .inl (.inl (a.keep _ _ hp h))
  · exact .inl (.inr ⟨o, a.keep _ _ hp h⟩)
  · exact .inr h
/-! ### in a list of ints -/
theorem inV_ints (y : Int) : ∀ ns : List Int, inV (.int y) (ns.map V.int) = decide (y ∈ ns)
  | [] => rfl
  | n :: r => by
    have ih := inV_ints y r
    unfold inV at ih ⊢
    rw [List.map_cons, List.any_cons, ih]
    show (n == y || decide (y ∈ r)) = decide (y ∈ n :: r)
    rw [Bool.eq_iff_iff]
    simp only [Bool.or_eq_true, beq_iff_eq, decide_eq_true_eq, List.mem_cons]
    constructor
    · rintro (h | h)
      · exact .inl h.symm
      · exact .inr h
    · rintro (h | h)
      · exact .inl h.symm
      · exact .inr h
theorem flat_ints : ∀ ns : List Int, (ns.map V.int).all flatV = true
  | [] => rfl
  | n :: r => by
    rw [List.map_cons, List.all_cons, flat_ints r]
    rfl
/-! ### data compared -/
theorem dpAll_ints {K : PySem.W.Frag} {H : Hp} : ∀ ns : List Int, DpAll K H (ns.map V.int) (ns.map PyData.int)
  | [] => .nil
  | n :: r => .cons (.int n) (dpAll_ints r)
theorem can_ints : ∀ ns : List Int, PyData.canLayAll0 (ns.map PyData.int) = true
  | [] => rfl
  | n :: r => by
    rw [List.map_cons]
    show (PyData.canLay0 (.int n) && PyData.canLayAll0 (r.map PyData.int)) = true
    rw [can_ints r]
    rfl
theorem depth_ints : ∀ ns : List Int, PyData.depthAll (ns.map PyData.int) ≤ 1
  | [] => by simp [PyData.depthAll]
  | n :: r => by
    have ih := depth_ints r
    rw [List.map_cons]
    simp only [PyData.depthAll, PyData.depth]
    omega
theorem shaped_tup (ns : List Int) : SeqAt.shaped (.tuple (ns.map PyData.int)) = true := by
  unfold SeqAt.shaped
  rw [Bool.and_eq_true]
  refine ⟨can_ints ns, decide_eq_true ?_⟩
  have h := depth_ints ns
  simp only [PyData.depth]
  omega
theorem shaped_lst (ns : List Int) : SeqAt.shaped (.list (ns.map PyData.int)) = true := by
  unfold SeqAt.shaped
  rw [Bool.and_eq_true]
  refine ⟨can_ints ns, decide_eq_true ?_⟩
  have h := depth_ints ns
  simp only [PyData.depth]
  omega
/-- two tuples, two lists of the same ints -/
theorem ne_tups {K : PySem.W.Frag} {H : Hp} {a b : Addr} {ns : List Int} {Q : VK} (ha : H a = some (.tup (ns.map V.int))) (hb : H b = some (.tup (ns.map V.int))) (q : Q (.bl false) H) : rNeD K (.ref a) (.ref b) H Q := by
  refine ⟨.tuple (ns.map PyData.int), .tuple (ns.map PyData.int), .tup (SqT.of ha) (dpAll_ints ns), .tup (SqT.of hb) (dpAll_ints ns), shaped_tup ns, shaped_tup ns, ?_⟩
  rw [SeqAt.eqv_refl _ (SeqAt.canLay_of_shaped (shaped_tup ns))]
  exact q
theorem ne_lsts {K : PySem.W.Frag} {H : Hp} {a b : Addr} {ns : List Int} {Q : VK} (ha : H a = some (.lst (ns.map V.int))) (hb : H b = some (.lst (ns.map V.int))) (q : Q (.bl false) H) : rNeD K (.ref a) (.ref b) H Q := by
  refine ⟨.list (ns.map PyData.int), .list (ns.map PyData.int), .lst (SqL.of ha) (dpAll_ints ns), .lst (SqL.of hb) (dpAll_ints ns), shaped_lst ns, shaped_lst ns, ?_⟩
  rw [SeqAt.eqv_refl _ (SeqAt.canLay_of_shaped (shaped_lst ns))]
  exact q
end Z

/-! Calls by keywords alone; defs that ask that no list is being written out around them (repr). -/
namespace Z
open PySem PySem.Spec PyProof.Rows L2
/-! ### keywords alone, in any order -/
/-- how keywords alone come to the parameters: π tells for each parameter the place of its keyword -/
def BdK (x : Str) (st : Stmt) (ps ks : List Str) (π : List Nat) : Prop := ∀ (qual : Str) (kV doc pm : Value) (an : Option Addr) (cdv ct : Value) (ws : List Value), ws.length = ks.length →
  bindArgs (PySem.W.fnOf x qual (defArgs st) (defBody st) (defScope st) .none kV doc pm an cdv ct) ⟨[], ks.zip ws⟩ = pure (ps.zip (π.map fun i => ws.getD i .none))
theorem vals_getD : ∀ {zs : List V} {ws : List Value}, Vals zs ws → ∀ i : Nat, RelV (zs.getD i .non) (ws.getD i .none)
  | _, _, .nil, _ => rfl
  | _, _, .cons r _, 0 => r
  | _, _, .cons _ t, i + 1 => vals_getD t i
theorem vals_perm {zs : List V} {ws : List Value} (r : Vals zs ws) : ∀ π : List Nat, Vals (π.map fun i => zs.getD i .non) (π.map fun i => ws.getD i .none)
  | [] => .nil
  | i :: π => .cons (vals_getD r i) (vals_perm r π)
def tCallK0 (n : Nat) (sp : Sp) (π : List Nat) (E : XK) (tk : TA) : TE := fun σ H Q => tk σ H fun zs H1 => zs.length = n ∧ sp (π.map fun i => zs.getD i .non) H1 Q E
/-! ### defs under no guard -/
structure FnG (P : Program) (w : World) (K : PySem.W.Frag) (mg : Str → Option Value) (base : Heap) (CX : CXT) (k : Nat) (f : Addr) (fd : FuncData) (ps : List Str) (sp : Sp) : Prop where
  few : ∀ vs H Q E, sp vs H Q E → vs.length = ps.length
  goes : ∀ (A : Around) (outer : List Env) (s : Shared) (H : Hp) (args : Args) (us : List Value) (vs : List V) (Q : VK) (E : XK), Room k A → A.guards = some [] → Env0 P w K mg base A outer s H → BindsTo s fd args (ps.zip us) → Vals vs us →
    sp vs H Q E → codeAny (model P w) A (.call (.ref f) args) (CR CX outer P w H s Q E) s
theorem FnG.of {P : Program} {w : World} {K : PySem.W.Frag} {mg : Str → Option Value} {base : Heap} {CX : CXT} {k : Nat} {f : Addr} {fd : FuncData} {ps : List Str} {sp : Sp} (F : FnOk P w K mg base CX k f fd ps sp) : FnG P w K mg base CX k f fd ps sp :=
  ⟨F.len, fun A outer s H args us vs Q E hr _ => F.run A outer s H args us vs Q E hr⟩
section
variable {P : Program} {w : World} {K : PySem.W.Frag} {mg : Str → Option Value} {base : Heap}
/-- a def by its body, under no guard -/
theorem fun_okG {x qual : Str} {st : Stmt} {f : Addr} {fd : FuncData} {N ps : List Str} {k : Nat} {sp : Sp} (F : Fun K x qual st f fd) (S : FnScope N ps (defScope st)) (few : ∀ vs H Q E, sp vs H Q E → vs.length = ps.length)
    (body : ∀ (cdv : Value) (A : Around) (outer : List Env) (s : Shared) (H : Hp) (vs : List V) (Q : VK) (E : XK), Room k (A.deeper (envOfC qual (defScope st) s.heap.objs.size f cdv)) → A.guards = some [] → sp vs H Q E →
      ∃ t, PSs (cxOf CX0 P w K mg base N qual (defScope st) f cdv A outer s H E).nox (defBody st) t ∧ t { nx := fun _ H' => Q .non H', rt := Q } (start N vs) H) : FnG P w K mg base CX0 (k + 1) f fd ps sp := by
  obtain ⟨oc, od, kV, doc, pm, an, cdv, ct, osl, rfl, lk, hcd⟩ := F.ex
  refine ⟨few, fun A outer s H args us vs Q E room gd here binds rel told => ?_⟩
  have inK : K.In s.heap := here.mod.kin.keeps fun b o e => (here.bs b o e).1
  have noLim : s.heap.NoLimit := here.mod.nolimit.keeps fun b o e => (here.bs b o e).1
  have kinds : ∀ y ∈ ps.zip us, (defScope st).names.lookup y.1 = some .local ∨ ((defScope st).names.lookup y.1 = some .cell ∧ ((cellsFrom (s.heap.objs.size + 1) (defScope st).names []).lookup y.1).isSome = true) := fun ⟨n, v⟩ hy =>
    (S.par n (List.of_mem_zip hy).1).elim .inl fun c => .inr ⟨c, PySem.W.cellsFrom_some _ _ _ (.inl c)⟩
  refine codeAny_call_function room.depth (inK _ _ lk) rfl S.co S.gen rfl (PySem.W.codeRec_of inK hcd) (binds _ _ _ _ (wpAny_newFunctionEnv_cells S.kind kinds fun env he s1 made => ?_))
  cases he
  refine ⟨noLim.keeps made.toInCall.keep, codeAny_func ?_⟩
  obtain ⟨t, ht, hq⟩ := body cdv A outer s H vs Q E (room.deeper _) gd told
  have I0 : Inv (cxOf CX0 P w K mg base N qual (defScope st) f cdv A outer s H E) [] (start N vs) H s1 := inv_start S room.hd here (few _ _ _ _ told) rel made
  refine wpAny_mono (ht.nox.run [] s1 (start N vs) H _ I0 hq) (fun fl s' hs => ?_) fun e s' hs => hs
  cases fl with
  | ret u => exact let ⟨v, _, H', J, rv, q⟩ := hs; ⟨v, H', J.os, J.bare, J.base, J.hok, rv, q⟩
  | next => exact let ⟨_, H', J, q⟩ := hs; ⟨V.non, H', J.os, J.bare, J.base, J.hok, rfl, q⟩
  | brk => exact let ⟨_, _, _, q⟩ := hs; q.elim
  | cont => exact let ⟨_, _, _, q⟩ := hs; q.elim
end
structure HdG (P : Program) (w : World) (K : PySem.W.Frag) (mg : Str → Option Value) (base : Heap) (CX : CXT) (k : Nat) (x : Str) (st : Stmt) (ps : List Str) (sp : Sp) : Prop where
  ex : ∃ f fd, Fun K x x st f fd ∧ mg x = some (.ref f) ∧ FnG P w K mg base CX k f fd ps sp
  bd : Bd x st ps
theorem HdG.of {P : Program} {w : World} {K : PySem.W.Frag} {mg : Str → Option Value} {base : Heap} {CX : CXT} {k : Nat} {x : Str} {st : Stmt} {ps : List Str} {sp : Sp} (h : Hd P w K mg base CX k x st ps sp) : HdG P w K mg base CX k x st ps sp := by
  obtain ⟨f, fd, F, hm, G⟩ := h.ex
  exact ⟨⟨f, fd, F, hm, .of G⟩, h.bd⟩
section
variable {X : Cx} {CX : CXT} {k : Nat} {st : Stmt} {ps ks : List Str} {sp : Sp} {E : XK} {x : Str} {p pos : Pos} {e : Expr} {es : List Expr} {kws : List Keyword} {t tk : TA} {π : List Nat}
theorem run_G {pins : List (Addr × Obj)} {σ : L2.St} {H : Hp} {s : Shared} {Q : VK} {args : Args} {us : List Value} {vs : List V} {f : Addr} {fd : FuncData} (F : FnG X.prog X.w X.K X.mg X.base CX k f fd ps sp) (hr : Room k X.A) (gd : X.A.guards = some []) (hx : Passes CX X E)
    (I : Inv X pins σ H s) (hb : BindsTo s fd args (ps.zip us)) (r : Vals vs us) (h : sp vs H Q E) : codeAny (model X.prog X.w) X.A (.call (.ref f) args) (fun q s' => match q with | .ok (.ret u) => EP X pins σ Q u s' | .ok _ => False | .error e => X.xe e s') s := by
  refine codeAny_mono (F.goes X.A X.stack s H args us vs Q E hr gd I.env0 hb r h) fun q s' told => ?_
  match q, told with
  | .error e, told => exact hx pins σ H s e s' I told
  | .ok (.ret u), told => exact I.after told
  | .ok .next, told => exact told
  | .ok .brk, told => exact told
  | .ok .cont, told => exact told
theorem run_Gc {pins : List (Addr × Obj)} {σ : L2.St} {H : Hp} {s : Shared} {Q : VK} {us0 : List Value} {kw : List (Str × Value)} {us : List Value} {vs : List V} {f : Addr} {fd : FuncData} (F : FnG X.prog X.w X.K X.mg X.base CX k f fd ps sp) (hr : Room k X.A) (gd : X.A.guards = some []) (hx : Passes CX X E)
    (I : Inv X pins σ H s) (hb : BindsTo s fd ⟨us0, kw⟩ (ps.zip us)) (r : Vals vs us) (h : sp vs H Q E) : wpAny (model X.prog X.w) X.A (call (.ref f) us0 kw) (EP X pins σ Q) X.xe s := by
  refine wpAny_call (codeAny_mono (run_G F hr gd hx I hb r h) fun q s' told => ?_)
  match q, told with
  | .error e, told => exact told
  | .ok (.ret u), told => exact told
  | .ok .next, told => exact told.elim
  | .ok .brk, told => exact told.elim
  | .ok .cont, told => exact told.elim
theorem pe_hdG (h : HdG X.prog X.w X.K X.mg X.base CX k x st ps sp) (hr : Room k X.A) (gd : X.A.guards = some []) (hg : Gl X x) (hx : Passes CX X E) (ha : PA X (e :: es) t) (hdb : (x == ("__debug__" : Str)) = false := by decide)
    (hs : starEach (e :: es) X.env = (false, eval e X.env) :: starEach es X.env := by rfl) (hpl : (backTo pos (starEach es X.env)).any (·.1) = false := by rfl) : PE X (.Call (.Name x p) (e :: es) [] pos) (tCall sp [] E t) := by
  obtain ⟨f, fd, F, hm, G⟩ := h.ex
  refine ⟨fun pins s σ H Q I told => wpAny_Call_Name_kw (ld_glob I hg hm (PySem.W.callWith_K (h₀ := X.base) I.ok.mod.kin F.kp (thn (ha.run pos pins s σ H _ I told) fun us s1 got => ?_) hs hpl) hdb)⟩
  obtain ⟨vs, H1, I1, r, q⟩ := got
  rw [List.append_nil] at q
  refine ⟨I1.kIn, run_Gc G hr gd hx I1 ?_ r q⟩
  have hl : us.length = ps.length := by rw [← r.length]; exact G.few _ _ _ _ q
  have b := (F.binds (h.bd x)) s1 us I1.kIn (by rw [List.append_nil]; exact hl)
  rw [List.append_nil] at b
  exact b
theorem pe_hdk (h : HdG X.prog X.w X.K X.mg X.base CX k x st ps sp) (hr : Room k X.A) (gd : X.A.guards = some [] ∨ Hd X.prog X.w X.K X.mg X.base CX k x st ps sp) (hg : Gl X x) (hx : Passes CX X E) (hbk : BdK x st ps ks π) (hkw : PK X kws tk)
    (hall : (backToKw pos (keywordEach kws X.env)).all (·.1.isSome) = true := by rfl) (hks : (backToKw pos (keywordEach kws X.env)).filterMap (·.1) = ks := by rfl)
    (hdb : (x == ("__debug__" : Str)) = false := by decide) (hpl : ((backTo pos (starEach [] X.env)).any (·.1) || (backToKw pos (keywordEach kws X.env)).any (·.1.isNone)) = false := by rfl) :
    PE X (.Call (.Name x p) [] kws pos) (tCallK0 ks.length sp π E tk) := by
  have fin : ∀ {pins : List (Addr × Obj)} {σ : L2.St} {H : Hp} {s : Shared} {Q : VK} {ws : List Value} {zs : List V}, Inv X pins σ H s → Vals zs ws → zs.length = ks.length → sp (π.map fun i => zs.getD i .non) H Q E →
      ∃ f, X.mg x = some (.ref f) ∧ PySem.W.keepIn X.K (.ref f) = true ∧ wpAny (model X.prog X.w) X.A (call (.ref f) [] (ks.zip ws)) (EP X pins σ Q) X.xe s := by
    intro pins σ H s Q ws zs I r hl q
    have bind : ∀ {f : Addr} {fd : FuncData}, Fun X.K x x st f fd → BindsTo s fd ⟨[], ks.zip ws⟩ (ps.zip (π.map fun i => ws.getD i .none)) := by
      intro f fd F
      obtain ⟨oc, od, kV, doc, pm, an, cdv, ct, osl, rfl, lk, hcd⟩ := F.ex
      exact .of_eq (hbk x kV doc pm an cdv ct ws (by rw [← r.length]; exact hl))
    rcases gd with gd | h2
    · obtain ⟨f, fd, F, hm, G⟩ := h.ex
      exact ⟨f, hm, F.kp, run_Gc G hr gd hx I (bind F) (vals_perm r π) q⟩
    · obtain ⟨f, fd, F, hm, G⟩ := h2.ex
      refine ⟨f, hm, F.kp, wpAny_call (codeAny_mono (G.run X.A X.stack s H _ _ _ Q E hr I.env0 (bind F) (vals_perm r π) q) fun q s' told => ?_)⟩
      match q, told with
      | .error e, told => exact hx pins σ H s e s' I told
      | .ok (.ret u), told => exact I.after told
      | .ok .next, told => exact told.elim
      | .ok .brk, told => exact told.elim
      | .ok .cont, told => exact told.elim
  obtain ⟨f0, fd0, F0, hm0, G0⟩ := h.ex
  refine ⟨fun pins s σ H Q I told => wpAny_Call_Name_kw (ld_glob I hg hm0 (PySem.W.callWith_KW0 (h₀ := X.base) I.ok.mod.kin F0.kp hall (thn (hkw.run pos pins s σ H _ I told) fun ws s1 got => ?_) hpl) hdb)⟩
  obtain ⟨zs, H1, I1, r, hl, q⟩ := got
  refine ⟨I1.kIn, ?_⟩
  rw [hks]
  obtain ⟨f, hm, kp, done⟩ := fin I1 r hl q
  rw [hm0] at hm
  cases hm
  exact done
end
/-! ### the law's own call -/
section
variable {P : Program} {w : World} {K : PySem.W.Frag} {mg mb : Str → Option Value} {k : Nat} {fa a : Addr} {fd : FuncData} {x : Str} {sp : Sp} {s1 : Shared} {vs : List Value} {ns : List Int}
/-- from one abstract heap in which the script alone may be tracked -/
theorem start_call (inK : K.In s1.heap) (nsG : s1.heap.Ns mainGlobals mg) (nsB : s1.heap.Ns builtinsNs mb) (boot : ∀ x : Str, x ≠ "__name__" → mb x = bootBuiltins x) (noLim : s1.heap.NoLimit) (noGen : s1.gens = #[])
    (here : s1.heap.get? a = some { cls := .type "list", data := .seq vs.toArray }) (room : Room k callerA) (F : ∀ base : Heap, K.In base → base.Ns mainGlobals mg → FnG P w K mg base CX0 k fa fd [x] sp)
    (bind : ∀ (s : Shared) (u : Value), BindsTo s fd ⟨[u], []⟩ [(x, u)]) (H : Hp) (only : Only H) (told : sp [.ref a] H (fun v _ => v = .bl true) fun _ _ _ => False) (ok : HOk P w H s1.heap) (one : ∀ b, H b ≠ none → b = a) (out : H a ≠ none → K.lookup a = none) :
    codeAny (model P w) callerA (.call (.ref fa) ⟨[.ref a], []⟩) (fun r s' => r = .ok (.ret (.bool true)) ∧ OldK s1.heap s'.heap ∧ s'.os = s1.os ∧ AllBare s'.gens) s1 := by
  have free : ∀ {b : Addr} {o : Obj} {es : Array DictEntry} {ep : Nat}, s1.heap.get? b = some o → o.data = .dict es ep → H b = none := by
    intro b o es ep e d
    cases q : H b with
    | none => rfl
    | some u =>
      obtain rfl := one b (by rw [q]; exact fun z => nomatch z)
      rw [here] at e
      cases e
      exact nomatch d
  have nsK : ∀ {b : Addr} {m : Str → Option Value}, s1.heap.Ns b m → (hidT s1.heap H).Ns b m := by
    rintro b m ⟨o, es, ep, e, d, r⟩
    exact ⟨o, es, ep, hidT_get e (free e d), d, r⟩
  have inH : K.In (hidT s1.heap H) := by
    intro b o e
    refine hidT_get (inK b o e) ?_
    cases q : H b with
    | none => rfl
    | some u =>
      have hb : H b ≠ none := by rw [q]; exact fun z => nomatch z
      obtain rfl := one b hb
      rw [out hb] at e
      cases e
  have md : Mod K mg (hidT s1.heap H) := ⟨inH, nsK nsG, ⟨mb, nsK nsB, boot⟩, noLim.elim fun mc h => ⟨mc, nsK h.1, h.2⟩⟩
  have nil : ∀ {b : Addr}, b ∉ frs [] := fun {b} z => List.not_mem_nil z
  have e0 : Env0 P w K mg (hidT s1.heap H) callerA [] s1 H := { frames := rfl, mod := md, bs := fun b o e => of_hidT e, bsz := Nat.le_of_eq (hidT_size _ _), funs := trivial, frf := fun b hb => absurd hb nil, hok := ok, bare := .of_eq noGen }
  refine codeAny_mono ((F _ inH (nsK nsG)).goes callerA [] s1 H ⟨[.ref a], []⟩ [.ref a] [.ref a] _ _ room rfl e0 (bind s1 (.ref a)) (.cons rfl .nil) told) fun r s' h => ?_
  match r, h with
  | .error e, h => exact h.elim
  | .ok .next, h => exact h.elim
  | .ok .brk, h => exact h.elim
  | .ok .cont, h => exact h.elim
  | .ok (.ret u), ⟨v, H', os, bare, un, ok', ru, (hv : v = .bl true)⟩ =>
    subst hv
    cases (show u = Value.bool true from ru)
    refine ⟨rfl, OldK.of_keep fun b o e => ?_, os, bare⟩
    cases q : H b with
    | none => exact un.keep b o e q nil List.not_mem_nil
    | some u =>
      rcases only b with z | ⟨ob, xs, z⟩
      · rw [q] at z
        cases z
      · have z1 := (ok b _ z).1
        have z2 := (ok' b _ (un.frzs b ob _ z)).1
        rw [e] at z1
        cases z1
        exact z2
theorem law_callG (inK : K.In s1.heap) (nsG : s1.heap.Ns mainGlobals mg) (nsB : s1.heap.Ns builtinsNs mb) (boot : ∀ x : Str, x ≠ "__name__" → mb x = bootBuiltins x) (noLim : s1.heap.NoLimit) (noGen : s1.gens = #[])
    (here : s1.heap.get? a = some { cls := .type "list", data := .seq vs.toArray }) (hints : IntsAre vs ns) (few : ns.length ≤ sizeLine) (room : Room k callerA) (F : ∀ base : Heap, K.In base → base.Ns mainGlobals mg → FnG P w K mg base CX0 k fa fd [x] sp)
    (bind : ∀ (s : Shared) (u : Value), BindsTo s fd ⟨[u], []⟩ [(x, u)]) (told : ∀ H : Hp, Only H → SqL K H a (ns.map V.int) → sp [.ref a] H (fun v _ => v = .bl true) fun _ _ _ => False) :
    codeAny (model P w) callerA (.call (.ref fa) ⟨[.ref a], []⟩) (fun r s' => r = .ok (.ret (.bool true)) ∧ OldK s1.heap s'.heap ∧ s'.os = s1.os ∧ AllBare s'.gens) s1 := by
  have rel := vals_ints hints
  cases kept : K.lookup a with
  | some o =>
    have e := inK a o kept
    rw [here] at e
    cases e
    have only : Only (fun _ => none) := fun _ => .inl rfl
    exact start_call inK nsG nsB boot noLim noGen here room F bind _ only (told _ only (.inr ⟨_, vs.toArray, _, kept, rfl, rfl, rfl, by rw [List.size_toArray, hints.length]; exact few, rel⟩)) (fun b u z => nomatch z) (fun b z => absurd rfl z) fun z => absurd rfl z
  | none =>
    let H : Hp := fun b => if b = a then some (.frz { cls := .type "list", data := .seq vs.toArray } (.lst (ns.map V.int))) else none
    have at_a : H a = some (.frz { cls := .type "list", data := .seq vs.toArray } (.lst (ns.map V.int))) := if_pos rfl
    have off : ∀ b, b ≠ a → H b = none := fun b hb => if_neg hb
    have only : Only H := fun b => if hb : b = a then .inr ⟨_, _, hb ▸ at_a⟩ else .inl (off b hb)
    refine start_call inK nsG nsB boot noLim noGen here room F bind H only (told H only (.inl (.inr ⟨_, at_a⟩))) (fun b u z => ?_) (fun b z => ?_) fun _ => kept
    · by_cases hb : b = a
      · subst hb
        rw [at_a] at z
        cases z
        exact ⟨here, by rw [List.length_map]; exact few, vs, _, rel, here⟩
      · rw [off b hb] at z
        cases z
    · exact Classical.byContradiction fun hb => z (off b hb)
end
theorem walk_G {l : PySem.W.OpenLaw} {n k : Nat} {q : Program} {loose : List Str} {XP : (Str → Option Value) → Heap → Prop} {YP : World → Heap → Prop} {d : DefRec} {K : Params → PySem.W.Frag} {sp : PySem.W.Frag → Sp} {x : Str}
    (hn : l.most = some n) (hn2 : n ≤ sizeLine) (hdf : d.params.defaults = []) (room : Room k callerA) (hY : ∀ (w : World) (h : Heap), YP w h → (K w.params).In h)
    (F : ∀ (w : World) (mg : Str → Option Value) (fa : Addr) (h : Heap), (K w.params).In h → h.Ns mainGlobals mg → mg d.name = some (.ref fa) →
      ∃ fd : FuncData, (∀ (s : Shared) (u : Value), BindsTo s fd ⟨[u], []⟩ [(x, u)]) ∧ ∀ base : Heap, (K w.params).In base → base.Ns mainGlobals mg → FnG l.prog w (K w.params) mg base CX0 k fa fd [x] (sp (K w.params)))
    (told : ∀ (K : PySem.W.Frag) (H : Hp) (a : Addr) (ns : List Int), ns.length ≤ n → Only H → SqL K H a (ns.map V.int) → sp K [.ref a] H (fun v _ => v = .bl true) fun _ _ _ => False) :
    PySem.W.WalkO q loose XP YP l.row.toRowW d [] (fun f vs => PySem.call f vs) := by
  refine Att.attach_call hn hdf fun w s0 s1 mg mb fa o pm cd doc a vs ns G Y ho hd hcd hmg hobj hints hlen hg => ?_
  have inK := hY w _ Y
  obtain ⟨fd, hb, hF⟩ := F w mg fa _ inK G.T.g hmg
  exact law_callG inK G.T.g G.T.b G.T.builtins G.T.nolimit hg hobj hints (Nat.le_trans hlen hn2) room hF hb fun H hO hS => told _ H a ns hlen hO hS
/-! ### repr: of small data -/
theorem listText_le : ∀ ts : List Str, (listText ts).length ≤ piled ts + 2
  | [] => by decide
  | t :: r => by
    have h := textFrom_length_pos r 1 (("[" : Str) ++ (if (0 : Nat) > 0 then ", " else "" : String) ++ t) Nat.one_pos
    have e : (("[" : Str) ++ (if (0 : Nat) > 0 then ", " else "" : String) ++ t).length = 1 + t.length := by
      rw [strLen_append, strLen_append]
      rfl
    have x : (listText (t :: r)).length = (textFrom 1 (("[" : Str) ++ (if (0 : Nat) > 0 then ", " else "" : String) ++ t) r).length + 1 := by
      unfold listText
      rw [strLen_append]
      rfl
    rw [x, h, e, piled_cons]
    omega
theorem tupleText_le (ts : List Str) : (tupleText ts).length ≤ piled ts + 3 := by
  have e2 : ((if ts.length == 1 then ",)" else ")" : String) : Str).length ≤ 2 := by split <;> decide
  unfold tupleText
  rw [strLen_append, strLen_append]
  cases ts with
  | nil => decide
  | cons t r =>
    have h := join_length_add (t :: r) (List.cons_ne_nil _ _)
    have e1 : ("(" : Str).length = 1 := by decide
    omega
mutual
/-- small enough to be written out -/
def Shw : PyData → Prop
  | .none => True
  | .bool _ => True
  | .int i => i.natAbs.log2 < 1000
  | .str x => (∀ c ∈ x.cps.toList, c < 16 ^ 8) ∧ x.length ≤ 10000
  | .list xs => ShwAll xs
  | .tuple xs => ShwAll xs
  | .dict _ => False
def ShwAll : List PyData → Prop
  | [] => True
  | x :: xs => Shw x ∧ ShwAll xs
end
mutual
/-- how many signs at most -/
def wd : PyData → Nat
  | .none => 4
  | .bool _ => 5
  | .int _ => 1001
  | .str x => 10 * x.length + 2
  | .list xs => wdAll xs + 2
  | .tuple xs => wdAll xs + 3
  | .dict _ => 0
def wdAll : List PyData → Nat
  | [] => 0
  | x :: xs => wd x + 2 + wdAll xs
end
mutual
theorem shown_le : ∀ d : PyData, Shw d → d.shown.length ≤ wd d ∧ d.showable = true ∧ d.hasDict = false
  | .none, _ => ⟨by decide, rfl, rfl⟩
  | .bool b, _ => ⟨by cases b <;> decide, rfl, rfl⟩
  | .int i, h => by
    have h : i.natAbs.log2 < 1000 := by simpa only [Shw] using h
    refine ⟨?_, ?_, rfl⟩
    · have h2 := int_text_length_le (k := 1000) (by decide) h
      simp only [PyData.shown, wd]
      have e : (Str.ofString (toString i)).length = (toString i).length := PySem.ofString_length _
      omega
    · simp only [PyData.showable, decide_eq_true_eq]
      omega
  | .str x, h => by
    have h : (∀ c ∈ x.cps.toList, c < 16 ^ 8) ∧ x.length ≤ 10000 := by simpa only [Shw] using h
    refine ⟨?_, rfl, rfl⟩
    simp only [PyData.shown, wd]
    exact StrLaws.reprText_len x h.1
  | .list xs, h => by
    obtain ⟨h1, h2, h3⟩ := shownAll_le xs (by simpa only [Shw] using h)
    refine ⟨?_, by simpa only [PyData.showable] using h2, by simpa only [PyData.hasDict] using h3⟩
    have := listText_le (PyData.shownAll xs)
    simp only [PyData.shown, wd]
    omega
  | .tuple xs, h => by
    obtain ⟨h1, h2, h3⟩ := shownAll_le xs (by simpa only [Shw] using h)
    refine ⟨?_, by simpa only [PyData.showable] using h2, by simpa only [PyData.hasDict] using h3⟩
    have := tupleText_le (PyData.shownAll xs)
    simp only [PyData.shown, wd]
    omega
  | .dict _, h => by simp only [Shw] at h
theorem shownAll_le : ∀ xs : List PyData, ShwAll xs → piled (PyData.shownAll xs) ≤ wdAll xs ∧ PyData.showableAll xs = true ∧ PyData.hasDictAll xs = false
  | [], _ => ⟨Nat.le_refl _, rfl, rfl⟩
  | x :: xs, h => by
    have h : Shw x ∧ ShwAll xs := by simpa only [ShwAll] using h
    obtain ⟨a1, a2, a3⟩ := shown_le x h.1
    obtain ⟨b1, b2, b3⟩ := shownAll_le xs h.2
    refine ⟨?_, ?_, ?_⟩
    · simp only [PyData.shownAll, piled_cons, wdAll]
      omega
    · simp only [PyData.showableAll, a2, b2, Bool.and_self]
    · simp only [PyData.hasDictAll, a3, b3, Bool.or_self]
end
theorem shw_int {i : Int} (h0 : 0 ≤ i) (h1 : i < 2 ^ 200) : Shw (.int i) := by
  simp only [Shw]
  have h2 : i.natAbs < 2 ^ 200 := by omega
  exact Nat.lt_trans (PySem.Flt.log2_lt_of (by decide) h2) (by decide)
section
variable {X : Cx}
/-- repr of a list or tuple of data -/
def rRepr (K : PySem.W.Frag) : List V → Hp → VK → Prop := fun vs H Q => ∃ a d, vs = [.ref a] ∧ Dp K H (.ref a) d ∧ Shw d ∧ d.depth ≤ 60 ∧ wd d ≤ 16000000 ∧ Q (.str d.shown) H
theorem call_reprD (hu : X.A.units + 64 < cLine) (gd : X.A.guards = some []) : CallR X (.builtin "repr") (rRepr X.K) := by
  intro pins s σ H vs us Q I r h
  obtain ⟨a, d, rfl, hd, h1, h3, h4, q⟩ := h
  obtain ⟨u, rfl, ru⟩ := vals1 r
  obtain ⟨as, rd⟩ := Dp.reads I d _ u hd ru
  cases ru
  obtain ⟨b1, b2, b3⟩ := shown_le d h1
  exact repr_of_reads' rd b2 (fun z => by rw [b3] at z; cases z) gd (by omega) (fun _ _ e => e) (fun h' u tk hk => ⟨.str d.shown, H, I.kept (t' := tk) hk, ⟨_, rfl⟩, q⟩) (by rw [sizeLine_eq]; omega)
/-- ints that are small -/
def Low (ns : List Int) : Prop := (∀ i ∈ ns, 0 ≤ i ∧ i < 2 ^ 200) ∧ ns.length ≤ 200
theorem shw_ints : ∀ {ns : List Int}, (∀ i ∈ ns, 0 ≤ i ∧ i < 2 ^ 200) → ShwAll (ns.map PyData.int)
  | [], _ => by simp only [List.map_nil, ShwAll]
  | n :: r, h => by
    simp only [List.map_cons, ShwAll]
    have h1 := h n (List.mem_cons_self ..)
    exact ⟨shw_int h1.1 h1.2, shw_ints fun i hi => h i (List.mem_cons_of_mem _ hi)⟩
theorem wd_ints : ∀ ns : List Int, wdAll (ns.map PyData.int) = 1003 * ns.length
  | [] => rfl
  | n :: r => by
    simp only [List.map_cons, wdAll, wd, wd_ints r, List.length_cons]
    omega
theorem repr_lst {K : PySem.W.Frag} {H : Hp} {c : Addr} {ns : List Int} {Q : VK} (hc : H c = some (.lst (ns.map V.int))) (low : Low ns) (q : Q (.str (PyData.list (ns.map PyData.int)).shown) H) : rRepr K [.ref c] H Q := by
  refine ⟨c, .list (ns.map PyData.int), rfl, .lst (SqL.of hc) (dpAll_ints ns), ?_, ?_, ?_, q⟩
  · simp only [Shw]
    exact shw_ints low.1
  · have := depth_ints ns
    simp only [PyData.depth]
    omega
  · simp only [wd, wd_ints]
    have := low.2
    omega
/-- a list of tuples of ints -/
def tupsD (ls : List (List Int)) : List PyData := ls.map fun l => PyData.tuple (l.map PyData.int)
theorem dpAll_tups {K : PySem.W.Frag} {H : Hp} : ∀ {as : List Addr} {ls : List (List Int)}, Paired (fun a l => H a = some (.tup ((l : List Int).map V.int))) as ls → DpAll K H (as.map V.ref) (tupsD ls)
  | _, _, .nil => .nil
  | _, _, .cons r t => .cons (.tup (SqT.of r) (dpAll_ints _)) (dpAll_tups t)
theorem shw_tups : ∀ {ls : List (List Int)}, (∀ l ∈ ls, Low l) → ShwAll (tupsD ls)
  | [], _ => by simp only [tupsD, List.map_nil, ShwAll]
  | l :: r, h => by
    simp only [tupsD, List.map_cons, ShwAll]
    refine ⟨?_, shw_tups fun i hi => h i (List.mem_cons_of_mem _ hi)⟩
    simp only [Shw]
    exact shw_ints (h l (List.mem_cons_self ..)).1
theorem wd_tups : ∀ {ls : List (List Int)}, (∀ l ∈ ls, Low l) → wdAll (tupsD ls) ≤ 200605 * ls.length
  | [], _ => Nat.le_refl _
  | l :: r, h => by
    have h1 := (h l (List.mem_cons_self ..)).2
    have h2 := wd_tups fun i hi => h i (List.mem_cons_of_mem _ hi)
    simp only [tupsD, List.map_cons, wdAll, wd, wd_ints, List.length_cons] at h2 ⊢
    omega
theorem depth_tups : ∀ ls : List (List Int), PyData.depthAll (tupsD ls) ≤ 2
  | [] => by simp [tupsD, PyData.depthAll]
  | l :: r => by
    have h1 := depth_ints l
    have h2 := depth_tups r
    simp only [tupsD, List.map_cons, PyData.depthAll, PyData.depth] at h2 ⊢
    omega
theorem repr_ltups {K : PySem.W.Frag} {H : Hp} {c : Addr} {as : List Addr} {ls : List (List Int)} {Q : VK} (hc : H c = some (.lst (as.map V.ref))) (hp : Paired (fun a l => H a = some (.tup ((l : List Int).map V.int))) as ls) (low : ∀ l ∈ ls, Low l) (few : ls.length ≤ 4)
    (q : Q (.str (PyData.list (tupsD ls)).shown) H) : rRepr K [.ref c] H Q := by
  refine ⟨c, .list (tupsD ls), rfl, .lst (SqL.of hc) (dpAll_tups hp), ?_, ?_, ?_, q⟩
  · simp only [Shw]
    exact shw_tups low
  · have := depth_tups ls
    simp only [PyData.depth]
    omega
  · have := wd_tups low
    simp only [wd]
    omega
end
end Z

/-! The two ways in which a law asks its own check for each source of draws. -/
namespace Z
open PySem PySem.Spec PyProof.Rows L2
section
variable {K : PySem.W.Frag} {spS spR : Sp} {a : Addr} {n : Int} {H : Hp} {Q : VK} {TA : L2.TA} {σ : L2.St}
theorem iteT {P N : Prop} [Decidable (true = true)] (h : P) : ite (true = true) P N := by
  rw [if_pos rfl]
  exact h
theorem all_rep : ∀ m, (List.replicate m true).all id = true
  | 0 => rfl
  | m + 1 => by
    rw [List.replicate_succ, List.all_cons, all_rep m]
    rfl
theorem reps : ∀ l : List V, l.filterMap (fun _ => some (V.bl true)) = (List.replicate l.length true).map V.bl
  | [] => rfl
  | x :: r => by
    rw [List.filterMap_cons, reps r]
    rfl
/-- all([check(source(script, k)) for k in range(..)]) -/
theorem tail_A {i : Nat} (hta : ∀ R : List V → Hp → Prop, R [.int n] H → TA σ H R) (hn : n ≤ 64 ∧ 0 ≤ n) (hi : i < σ.length) (h0 : σ[0]? = some (some (.ref a))) (hi0 : i ≠ 0)
    (hS : ∀ (k : Int) H' Q' E, Same H H' → 0 ≤ k → k < n → (∀ p H2, H' p = none → Same H' H2 → Spring H2 p → Q' (.ref p) H2) → spS [.ref a, .int k] H' Q' E)
    (hR : ∀ p H' Q' E, Spring H' p → (∀ H2, Kp p H' H2 → Q' (.bl true) H2) → spR [.ref p] H' Q' E) (q : ∀ H', Q (.bl true) H') :
    tLc (iRng1 TA) (gName i) tYes (tCall spR [] E0 (tCons (tCall spS [] E0 (tCons (tVar 0) (tCons (tVar i) tNil))) tNil)) [i] σ H fun x H1 => rAllH [x] H1 Q := by
  refine lc_mapR (H1 := H) (fun _ => some (.bl true)) hta (by omega) (fun k hk H1 s1 => ?_) fun D H1 _ s1 e1 => ?_
  · intro Y N hY hN
    have e2 : (((wipe σ [i]).set i (some (V.int k))))[i]? = some (some (.int k)) := by
      rw [List.getElem?_set_self]
      show i < (σ.set i none).length
      rw [List.length_set]
      exact hi
    have e3 : (((wipe σ [i]).set i (some (V.int k))))[0]? = some (some (.ref a)) := by
      rw [List.getElem?_set_ne hi0]
      show (σ.set i none)[0]? = _
      rw [List.getElem?_set_ne hi0]
      exact h0
    have e4 : wipe ((wipe σ [i]).set i (some (V.int k))) [i] = wipe σ [i] := by
      show ((σ.set i none).set i (some (V.int k))).set i none = σ.set i none
      rw [List.set_set, List.set_set]
    refine ⟨e4, ?_⟩
    simp only [tYes, if_true]
    refine ⟨_, e3, _, e2, hS k H1 _ _ s1 (by omega) hk fun p H2 hp s2 sp => hR p H2 _ _ sp fun H3 kp => hY _ H3 rfl fun c o e => kp.keep c o (ne_of_none e hp) (s2 c o e)⟩
  · rw [reps] at e1
    refine ⟨D, _, rfl, e1, ?_⟩
    rw [all_rep]
    exact q H1
/-- sources = [source(cells, k) for k in range(..)]; all([check(s) for s in sources]) -/
theorem tail_B (hta : ∀ R : List V → Hp → Prop, R [.int n] H → TA [some (V.ref a), none, none, none] H R) (hn : n ≤ 64 ∧ 0 ≤ n)
    (hS : ∀ (k : Int) H' Q' E, Same H H' → 0 ≤ k → k < n → (∀ p H2, H' p = none → Same H' H2 → Spring H2 p → Q' (.ref p) H2) → spS [.ref a, .int k] H' Q' E)
    (hR : ∀ p H' Q' E, Spring H' p → (∀ H2, Kp p H' H2 → Q' (.bl true) H2) → spR [.ref p] H' Q' E) (q : ∀ H', Q (.bl true) H') :
    tSeq (tAsg (tLc (iRng1 TA) (gName 2) tYes (tCall spS [] E0 (tCons (tVar 0) (tCons (tVar 2) tNil))) [2]) (gName 1))
      (tRet (tCB rAllH (tCons (tLc (iList K (tVar 1)) (gName 3) tYes (tCall spR [] E0 (tCons (tVar 3) tNil)) [3]) tNil)))
      { nx := fun x H' => Q V.non H', rt := Q } [some (V.ref a), none, none, none] H := by
  refine z_seq ?_
  refine lc_rng (n := n) hta (by omega) (fun D i H' => ∃ ps : List Addr, ps.length = i ∧ (∀ p ∈ ps, Spring H' p) ∧ H' D = some (.lst (ps.map V.ref)) ∧ Same H H') (fun D hD => ⟨[], rfl, fun _ h => absurd h List.not_mem_nil, upd_same, same_new hD⟩) (fun D hD i H' hi hP => ?_) fun D H' hD hP => ?_
  · obtain ⟨ps, hl, hsp, hDl, hs⟩ := hP
    refine ⟨rfl, ?_⟩
    simp only [tYes, if_true]
    refine ⟨_, rfl, _, rfl, hS i H' _ _ hs (by omega) hi fun p H2 hp s2 sp => ?_⟩
    have hD2 := s2 _ _ hDl
    refine ⟨_, hD2, by rw [List.length_map, sizeLine_eq]; omega, ps ++ [p], by rw [List.length_append, hl]; rfl, fun x hx => ?_, by rw [upd_same, List.map_append]; rfl, fun b o e => ?_⟩
    · have far : ∀ y, Spring H2 y → Spring (upd H2 D (.lst (ps.map V.ref ++ [V.ref p]))) y := by
        rintro y ⟨u, v, w, e⟩
        have ne : y ≠ D := by
          rintro rfl
          rw [hD2] at e
          have e2 := HO.lst.inj (Option.some.inj e)
          cases ps with
          | nil => cases e2
          | cons z r => cases e2
        exact ⟨u, v, w, by rw [upd_ne ne]; exact e⟩
      rcases List.mem_append.mp hx with hx | hx
      · exact far _ ((hsp x hx).same s2)
      · rw [List.mem_singleton.mp hx]
        exact far _ sp
    · rw [upd_ne (ne_of_none e hD)]
      exact s2 _ _ (hs _ _ e)
  · obtain ⟨ps, hl, hsp, hDl, hs⟩ := hP
    show tLc (iList K (tVar 1)) (gName 3) tYes (tCall spR [] E0 (tCons (tVar 3) tNil)) [3] [some (V.ref a), some (V.ref D), none, none] H' fun x H1 => rAllH [x] H1 Q
    refine lc_lst (a := D) (xs := ps.map V.ref) (fun R h => ⟨_, rfl, h⟩) (fun L i H2 => (∀ p ∈ ps, Spring H2 p) ∧ H2 D = some (.lst (ps.map V.ref)) ∧ H2 L = some (.lst (List.replicate i (V.bl true)))) (SqL.of hDl) (fun L hL => ?_) (fun L hL i H2 hP => SqL.of hP.2.1) (fun L hL i x H2 hx hP => ?_) fun L H2 hL hP => ?_
    · have s := same_new (o := .lst []) hL
      exact ⟨fun p hp => (hsp p hp).same s, s _ _ hDl, upd_same⟩
    · obtain ⟨h1, h2, h3⟩ := hP
      obtain ⟨p, hp, rfl⟩ := List.mem_map.mp (List.mem_of_getElem? hx)
      refine ⟨rfl, ?_⟩
      simp only [tYes, if_true]
      refine ⟨_, rfl, hR p H2 _ _ (h1 p hp) fun H3 kp => ?_⟩
      have hi : i < ps.length := by
        have := (List.getElem?_eq_some_iff.mp hx).1
        rw [List.length_map] at this
        exact this
      have nD : D ≠ p := by
        rintro rfl
        obtain ⟨u, v, w, e⟩ := h1 _ hp
        rw [h2] at e
        have e2 := HO.lst.inj (Option.some.inj e)
        cases ps with
        | nil => cases e2
        | cons z r => cases e2
      have nL : ∀ y, Spring H2 y → L ≠ y := by
        rintro y ⟨u, v, w, e⟩ rfl
        rw [h3] at e
        have e2 := HO.lst.inj (Option.some.inj e)
        cases i with
        | zero => cases e2
        | succ m =>
          rw [List.replicate_succ] at e2
          cases (List.cons.inj e2).1
      have e3 := kp.keep L _ (nL p (h1 p hp)) h3
      refine ⟨_, e3, by rw [List.length_replicate, sizeLine_eq]; omega, fun y hy => ?_, ?_, ?_⟩
      · have sy : Spring H3 y := by
          by_cases c : y = p
          · rw [c]
            exact kp.sp
          · obtain ⟨u, v, w, e⟩ := h1 y hy
            exact ⟨u, v, w, kp.keep _ _ c e⟩
        obtain ⟨u, v, w, e⟩ := sy
        exact ⟨u, v, w, by rw [upd_ne (Ne.symm (nL y (h1 y hy)))]; exact e⟩
      · have nDL : D ≠ L := by
          rintro rfl
          rw [hDl] at hL
          cases hL
        rw [upd_ne nDL]
        exact kp.keep _ _ nD h2
      · rw [upd_same, List.replicate_succ']
    · obtain ⟨_, _, h3⟩ := hP
      refine ⟨L, List.replicate (ps.map V.ref).length true, rfl, ?_, ?_⟩
      · rw [h3, List.map_replicate]
      · rw [all_rep]
        exact q H2
end
end Z

/-! sorted() of a tuple of ints; of a list of pairs; list(range(..)). -/
namespace Z
open PySem PySem.Spec PyProof.Rows L2
section
variable {prog : Program} {w : World} {A : Around} {E : Value → Shared → Prop} {s : Shared}
open PySem.Builtin
theorem collect_tup {l : Addr} {vs : List Value} {Q : List Value → Shared → Prop} (hl : s.heap.IsTuple l vs.toArray)
    (h : Q vs { s with heap := (s.heap.push (seqObj "list" #[] 0)).update s.heap.objs.size (Obj.mapSeq (· ++ vs.toArray)) }) (hsz : vs.length ≤ sizeLine := by size_fits) :
    wpAny (model prog w) A (collect (.ref l)) Q E s := by
  obtain ⟨o, ho, hc, n, hd⟩ := id hl
  unfold collect
  refine wpAny_bind (wpAny_runValue (codeAny_builtin entry_proto_collect' ?_))
  show wpAny _ _ (do again (.builtin "list.__iadd__" ⟨[← newList [], .ref l], []⟩)) _ _ s
  refine wpAny_bind (wpAny_newList (wpAny_pure ⟨Code.quiet_builtin _ (by decide +kernel), codeAny_builtin entry_list_iadd' ?_⟩))
  show wpAny _ _ (Builtin.List.listExtendWith (.ref s.heap.objs.size) (.ref l) (.ref s.heap.objs.size)) _ _ { s with heap := s.heap.push (seqObj "list" #[] 0) }
  unfold Builtin.List.listExtendWith
  have ho' : (s.heap.push (seqObj "list" #[] 0)).get? l = some o := Heap.get?_push_of_some _ ho
  refine wpAny_bind (wpAny_typeOf (T := "tuple") ⟨o, ho', hc⟩ ?_)
  have ht : (Value.type "tuple" == Value.type "tuple") = true := by rfl
  rw [if_pos (by rw [ht]; simp)]
  refine wpAny_bind (listItems_at ho' hd ?_)
  refine wpAny_bind (listItems_at (xs := #[]) (n := 0) (Heap.get?_push_size _ rfl) rfl ?_)
  rw [if_neg (by simp)]
  refine wpAny_bind (listUpdate_at (xs := #[]) (n := 0) (Heap.get?_push_size _ rfl) rfl ?_ (Nat.zero_le _) (by show (#[] ++ vs.toArray).size ≤ sizeLine + 1; simp only [Array.size_append, List.size_toArray, List.length_nil]; omega))
  refine wpAny_pure ?_
  show wpAny (model prog w) A (do
      let o ← load s.heap.objs.size
      match o.data with
      | .seq xs _ => pure xs.toList
      | _ => unsupported "internal:collect") Q E { s with heap := (s.heap.push (seqObj "list" #[] 0)).update s.heap.objs.size (Obj.mapSeq (· ++ vs.toArray)) }
  refine wpAny_bind (wpAny_load (get?_update_seq (Heap.get?_push_size _ rfl) _) ?_)
  show wpAny _ _ (pure ((#[] : Array Value) ++ vs.toArray).toList) Q E _
  rw [show ((#[] : Array Value) ++ vs.toArray).toList = vs by simp]
  exact wpAny_pure h
open SrtO in
theorem sorted_ordT {l : Addr} {vs : List Value} {ltv : Value → Value → Bool} {Q : Value → Shared → Prop} (O : Swo ltv) (hl : s.heap.IsTuple l vs.toArray) (hz : vs.length ≤ sizeLine)
    (hS : 2 ≤ vs.length → ∀ (h₁ : Heap) (a : Addr), h₁.get? a = some (seqObj "list" vs.toArray 0) → (∀ b o, s.heap.get? b = some o → b ≠ a ∧ h₁.get? b = some o) → SortableO prog w A.in1.in1 { s with heap := h₁ } a vs ltv)
    (h : ∀ out : List Value, Srtd ltv out → Stb ltv out vs → Q (.ref (s.heap.objs.size + 1)) { s with heap := sortedAll s.heap vs out.toArray }) :
    wpAny (model prog w) A (call (.builtin "sorted") [.ref l]) Q E s := by
  refine Calls.call_function_entry kind_sorted plain_sorted entry_sorted (args_sorted1 _) ?_
  unfold Builtin.«sorted»
  refine wpAny_bind (m := checkCount "sorted" 1 1 _) (wpAny_pure ?_)
  refine wpAny_bind (collect_tup hl ?_ hz)
  refine wpAny_bind (wpAny_newList ?_ hz)
  have hsz : ((s.heap.push (seqObj "list" #[] 0)).update s.heap.objs.size (Obj.mapSeq (· ++ vs.toArray))).objs.size = s.heap.objs.size + 1 := by
    rw [Heap.size_update, size_push']
  have hoL : (((s.heap.push (seqObj "list" #[] 0)).update s.heap.objs.size (Obj.mapSeq (· ++ vs.toArray))).push (seqObj "list" vs.toArray 0)).get? (s.heap.objs.size + 1) = some (seqObj "list" vs.toArray 0) := by
    rw [← hsz]; exact Heap.get?_push_size _ rfl
  have keep : ∀ b o, s.heap.get? b = some o → b ≠ s.heap.objs.size + 1 ∧ (((s.heap.push (seqObj "list" #[] 0)).update s.heap.objs.size (Obj.mapSeq (· ++ vs.toArray))).push (seqObj "list" vs.toArray 0)).get? b = some o := fun b o q => by
    have hlt : b < s.heap.objs.size := Heap.lt_size q
    refine ⟨Nat.ne_of_lt (Nat.lt_succ_of_lt hlt), Heap.get?_push_of_some _ ?_⟩
    rw [Heap.get?_update_ne _ _ _ _ (Nat.ne_of_lt hlt)]
    exact Heap.get?_push_of_some _ q
  show wpAny _ _ _ _ _ { s with heap := ((s.heap.push (seqObj "list" #[] 0)).update s.heap.objs.size (Obj.mapSeq (· ++ vs.toArray))).push (seqObj "list" vs.toArray 0) }
  rw [hsz]
  refine wpAny_bind (wpAny_holding (wpAny_call_entry slot_list_sort ⟨_, hoL, rfl⟩ entry_list_sort (list_sort_ord O hoL hz (fun h2 => hS h2 _ _ hoL keep) fun out hs hb => ⟨_, rfl, ?_⟩) (args_list_sort _)))
  exact wpAny_pure ⟨_, rfl, h out hs hb⟩
end
section
variable {X : Cx}
/-- sorted(xs), xs a tuple of ints -/
def rSortTup : List V → Hp → VK → Prop := fun vs H Q => ∃ (a : Addr) (ns : List Int), vs = [V.ref a] ∧ H a = some (.tup (ns.map V.int)) ∧
  ∀ p : Addr, H p = none → Q (.ref p) (upd H p (.lst (ns.mergeSort.map V.int)))
theorem cr_sortedTup : CallR X (.builtin "sorted") rSortTup := by
  intro pins s σ H vs us Q I r h
  obtain ⟨a, ns, rfl, hs, q⟩ := h
  obtain ⟨its, rv, hl, hz⟩ := I.tuple (SqT.of hs)
  rw [Vals.ref1 r]
  have hi := rv.ints
  refine sorted_ordT SrtO.swo_int hl (by rw [← rv.length]; exact hz) (fun h2 h₁ a' _ _ => SrtO.ints_sortable hi h2) fun out h1 h2 => ?_
  obtain ⟨k1, k2, k3⟩ := SrtO.ints_out hi h1 h2
  obtain ⟨ep, he'⟩ := PyProof.Rows.sortedAll_at s.heap its out.toArray
  have hlen : ((out.map SrtO.iv).map V.int).length ≤ sizeLine := by
    rw [List.length_map, k2.length_eq]
    rw [List.length_map] at hz
    exact hz
  refine ⟨.ref _, upd H (s.heap.objs.size + 1) (.lst ((out.map SrtO.iv).map V.int)), I.laid (t' := s.toks) (fun _ _ => PyProof.Rows.sortedAll_old) (Nat.le_succ _) ⟨hlen, out, ep, vals_of_ints k1, he'⟩, rfl, ?_⟩
  rw [perm_sort k2 k3]
  exact q _ (I.hok.fresh (Nat.le_succ _))
/-- the pair of ints at t -/
def PairAt (H : Hp) (t : Addr) (p : Int × Int) : Prop := H t = some (.tup [.int p.1, .int p.2])
def pairOf (H : Hp) : V → Int × Int
  | .ref t => match H t with
    | some (.tup [.int i, .int j]) => (i, j)
    | _ => (0, 0)
  | _ => (0, 0)
theorem pairOf_at {H : Hp} {t : Addr} {p : Int × Int} (h : PairAt H t p) : pairOf H (.ref t) = p := by
  unfold pairOf
  simp only [show H t = some (.tup [.int p.1, .int p.2]) from h]
def Lex (l : List (Int × Int)) : Prop := l.Pairwise fun p q => SrtO.lexB q p = false
theorem lex_eq {l m : List (Int × Int)} (h1 : Lex l) (h2 : Lex m) (p : l.Perm m) : l = m := by
  refine List.Perm.eq_of_pairwise (fun a b _ _ x y => ?_) h1 h2 p
  have x' := SrtO.lexB_no.mp x
  have y' := SrtO.lexB_no.mp y
  obtain ⟨a1, a2⟩ := a
  obtain ⟨b1, b2⟩ := b
  dsimp only at x' y'
  rw [Prod.mk.injEq]
  omega
theorem paired_mem {α β : Type} {F : α → β → Prop} : ∀ {as : List α} {ps : List β}, Paired F as ps → ∀ a ∈ as, ∃ p, p ∈ ps ∧ F a p
  | _, _, .nil, a, h => absurd h List.not_mem_nil
  | _, _, .cons f r, a, h => by
    rcases List.mem_cons.mp h with rfl | h
    · exact ⟨_, List.mem_cons_self, f⟩
    · obtain ⟨p, h1, h2⟩ := paired_mem r a h
      exact ⟨p, List.mem_cons_of_mem _ h1, h2⟩
theorem paired_map {α β : Type} {F : α → β → Prop} (g : α → β) : ∀ {as : List α}, (∀ a ∈ as, F a (g a)) → Paired F as (as.map g)
  | [], _ => .nil
  | a :: r, h => .cons (h a List.mem_cons_self) (paired_map g fun x hx => h x (List.mem_cons_of_mem _ hx))
theorem paired_eq {α β : Type} {F : α → β → Prop} (g : α → β) (hg : ∀ a p, F a p → g a = p) : ∀ {as : List α} {ps : List β}, Paired F as ps → as.map g = ps
  | _, _, .nil => rfl
  | _, _, .cons f r => by rw [List.map_cons, hg _ _ f, paired_eq g hg r]
/-- sorted(xs), xs a list of pairs of ints: the pairs in their order -/
def rSortPr : List V → Hp → VK → Prop := fun vs H Q => ∃ (a : Addr) (as : List Addr) (ps : List (Int × Int)), vs = [V.ref a] ∧ H a = some (.lst (as.map V.ref)) ∧ Paired (PairAt H) as ps ∧
  ∀ (bs : List Addr) (qs : List (Int × Int)) (p : Addr), H p = none → bs.Perm as → qs.Perm ps → Lex qs → Paired (PairAt H) bs qs → Q (.ref p) (upd H p (.lst (bs.map V.ref)))
theorem cr_sortedPr : CallR X (.builtin "sorted") rSortPr := by
  intro pins s σ H vs us Q I r h
  obtain ⟨a, as, ps, e, ha, hp, q⟩ := h
  have hk : ∀ x ∈ as.map V.ref, ∃ t, x = V.ref t ∧ H t = some (.tup [.int (pairOf H x).1, .int (pairOf H x).2]) := by
    intro x hx
    obtain ⟨t, ht, rfl⟩ := List.mem_map.mp hx
    obtain ⟨p, _, f⟩ := paired_mem hp t ht
    refine ⟨t, rfl, ?_⟩
    rw [pairOf_at f]
    exact f
  refine cr_sortedPO pins s σ H vs us Q I r ⟨a, as.map V.ref, pairOf H, e, SqL.of ha, hk, fun ys p hs hb hn => ?_⟩
  have hy : ∀ y ∈ ys, ∃ t, y = V.ref t := fun y hy => by
    obtain ⟨t, e, _⟩ := hk y (hb.perm.mem_iff.mp hy)
    exact ⟨t, e⟩
  obtain ⟨bs, rfl⟩ : ∃ bs : List Addr, ys = bs.map V.ref := by
    clear hs hb
    induction ys with
    | nil => exact ⟨[], rfl⟩
    | cons y l ih =>
      obtain ⟨t, rfl⟩ := hy y List.mem_cons_self
      obtain ⟨bs, rfl⟩ := ih fun z hz => hy z (List.mem_cons_of_mem _ hz)
      exact ⟨t :: bs, rfl⟩
  have hperm : bs.Perm as := by
    have h2 := hb.perm.map (fun v => match v with | .ref t => t | _ => 0)
    rw [List.map_map, List.map_map] at h2
    have e1 : ∀ l : List Addr, l.map ((fun v => match v with | .ref t => t | _ => (0 : Addr)) ∘ V.ref) = l := fun l => by
      induction l with
      | nil => rfl
      | cons x r ih => rw [List.map_cons, ih]; rfl
    rw [e1, e1] at h2
    exact h2
  have hF : ∀ t ∈ bs, PairAt H t (pairOf H (.ref t)) := fun t ht => by
    obtain ⟨p, _, f⟩ := paired_mem hp t (hperm.mem_iff.mp ht)
    rw [pairOf_at f]
    exact f
  have e2 : as.map (fun t => pairOf H (.ref t)) = ps := paired_eq _ (fun t p f => pairOf_at f) hp
  refine q bs (bs.map fun t => pairOf H (.ref t)) p hn hperm ?_ ?_ (paired_map _ hF)
  · rw [← e2]
    exact hperm.map _
  · have h3 := List.pairwise_map.mp hs
    exact List.pairwise_map.mpr h3
end
end Z

/-! Comprehensions whose elements are new objects. -/
namespace Z
open PySem PySem.Spec PyProof.Rows L2
def IsO (H : Hp) (a : Addr) (o : HO) : Prop := H a = some o
theorem paired_mono {α β : Type} {F G : α → β → Prop} (h : ∀ a b, F a b → G a b) : ∀ {as : List α} {bs : List β}, Paired F as bs → Paired G as bs
  | _, _, .nil => .nil
  | _, _, .cons f r => .cons (h _ _ f) (paired_mono h r)
theorem paired_monoM {α β : Type} {F G : α → β → Prop} : ∀ {as : List α} {bs : List β}, (∀ a ∈ as, ∀ b, F a b → G a b) → Paired F as bs → Paired G as bs
  | _, _, _, .nil => .nil
  | _, _, h, .cons f r => .cons (h _ List.mem_cons_self _ f) (paired_monoM (fun a ha => h a (List.mem_cons_of_mem _ ha)) r)
theorem paired_same {α β : Type} {R : Hp → Addr → β → Prop} : True := trivial
theorem paired_len {α β : Type} {F : α → β → Prop} : ∀ {as : List α} {bs : List β}, Paired F as bs → as.length = bs.length
  | _, _, .nil => rfl
  | _, _, .cons _ r => by rw [List.length_cons, List.length_cons, paired_len r]
theorem paired_to {α β γ : Type} {F : α → γ → Prop} {g : β → γ} : ∀ {as : List α} {bs : List β}, Paired F as (bs.map g) → Paired (fun a b => F a (g b)) as bs
  | [], [], _ => .nil
  | [], _ :: _, h => by cases h
  | _ :: _, [], h => by cases h
  | _ :: _, _ :: _, .cons f r => .cons f (paired_to r)
theorem paired_of {α β γ : Type} {F : α → γ → Prop} {g : β → γ} : ∀ {as : List α} {bs : List β}, Paired (fun a b => F a (g b)) as bs → Paired F as (bs.map g)
  | _, _, .nil => .nil
  | _, _, .cons f r => .cons f (paired_of r)
theorem paired_app {α β : Type} {F : α → β → Prop} : ∀ {as as' : List α} {bs bs' : List β}, Paired F as bs → Paired F as' bs' → Paired F (as ++ as') (bs ++ bs')
  | _, _, _, _, .nil, h => h
  | _, _, _, _, .cons f r, h => .cons f (paired_app r h)
theorem paired_get {α β : Type} {F : α → β → Prop} : ∀ {as : List α} {bs : List β}, Paired F as bs → ∀ {i : Nat} {a : α}, as[i]? = some a → ∃ b, bs[i]? = some b ∧ F a b
  | _, _, .nil, i, a, h => by simp at h
  | _, _, .cons f r, 0, a, h => by
    rw [List.getElem?_cons_zero] at h
    cases h
    exact ⟨_, rfl, f⟩
  | _, _, .cons f r, i + 1, a, h => by
    rw [List.getElem?_cons_succ] at h
    rw [List.getElem?_cons_succ]
    exact paired_get r h
theorem paired_get' {α β : Type} {F : α → β → Prop} : ∀ {as : List α} {bs : List β}, Paired F as bs → ∀ {i : Nat} {b : β}, bs[i]? = some b → ∃ a, as[i]? = some a ∧ F a b
  | _, _, .nil, i, a, h => by simp at h
  | _, _, .cons f r, 0, a, h => by
    rw [List.getElem?_cons_zero] at h
    cases h
    exact ⟨_, rfl, f⟩
  | _, _, .cons f r, i + 1, a, h => by
    rw [List.getElem?_cons_succ] at h
    rw [List.getElem?_cons_succ]
    exact paired_get' r h
section
variable {K : PySem.W.Frag} {σ : L2.St}
/-- one turn: a new object, or nothing -/
def TurnO (g : TG) (tt : TT) (te : TE) (vs : List Nat) (σ : L2.St) (H : Hp) (x : V) (o : Option HO) : Prop :=
  ∀ (Y : V → Hp → Prop) (N : Hp → Prop), (∀ y a H', o = some y → H a = none → Same H H' → H' a = some y → Y (.ref a) H') → (∀ H', o = none → Same H H' → N H') →
    g x (wipe σ vs) H fun σ2 H2 => wipe σ2 vs = wipe σ vs ∧ tt σ2 H2 fun b H3 => if b = true then te σ2 H3 Y else N H3
def AccO (H1 : Hp) (f : V → Option HO) (xs : List V) (D : Addr) (i : Nat) (H : Hp) : Prop := Same H1 H ∧ ∃ as : List Addr, H D = some (.lst (as.map V.ref)) ∧ D ∉ as ∧ Paired (IsO H) as ((xs.take i).filterMap f)
theorem accO_turn {H1 : Hp} {f : V → Option HO} {xs : List V} {D : Addr} {i : Nat} {H : Hp} {x : V} {g : TG} {tt : TT} {te : TE} {vs : List Nat} (hD : H1 D = none) (hx : xs.length ≤ 1000) (h : xs[i]? = some x) (p : AccO H1 f xs D i H) (t : TurnO g tt te vs σ H x (f x)) :
    g x (wipe σ vs) H fun σ2 H2 => wipe σ2 vs = wipe σ vs ∧ tt σ2 H2 fun b H3 =>
      if b = true then te σ2 H3 fun y H4 => ∃ acc, H4 D = some (.lst acc) ∧ acc.length < sizeLine ∧ AccO H1 f xs D (i + 1) (upd H4 D (.lst (acc ++ [y]))) else AccO H1 f xs D (i + 1) H3 := by
  obtain ⟨s1, as, eD, nD, pr⟩ := p
  refine t _ _ (fun y a H' e ha s ea => ?_) fun H' e s => ?_
  · refine ⟨_, s _ _ eD, ?_, ?_, as ++ [a], ?_, ?_, ?_⟩
    · rw [List.length_map, paired_len pr]
      refine Nat.lt_of_le_of_lt (List.length_filterMap_le _ _) ?_
      rw [List.length_take]
      exact Nat.lt_of_le_of_lt (Nat.min_le_right _ _) (small1000 hx)
    · intro b o eb
      rw [upd_ne (ne_of_none eb hD)]
      exact s _ _ (s1 _ _ eb)
    · rw [upd_same, List.map_append]
      rfl
    · intro m
      rcases List.mem_append.mp m with m | m
      · exact nD m
      · rw [← List.mem_singleton.mp m, eD] at ha
        cases ha
    · rw [take_fm f h, e]
      refine paired_app (paired_monoM (fun b hb o e2 => ?_) pr) (.cons ?_ .nil)
      · show upd H' D _ b = some o
        have ne : b ≠ D := fun z => nD (by rw [← z]; exact hb)
        rw [upd_ne ne]
        exact s _ _ e2
      · show upd H' D _ a = some y
        rw [upd_ne]
        · exact ea
        · rintro rfl
          rw [eD] at ha
          cases ha
  · refine ⟨s1.trans s, as, s _ _ eD, nD, ?_⟩
    rw [take_fm f h, e, Option.toList_none, List.append_nil]
    exact paired_mono (fun a b e2 => s _ _ e2) pr
theorem accO_start {H1 : Hp} {f : V → Option HO} {xs : List V} {D : Addr} (hD : H1 D = none) : AccO H1 f xs D 0 (upd H1 D (.lst [])) := ⟨same_new hD, [], upd_same, List.not_mem_nil, .nil⟩
theorem lc_rngO {n : Int} {g : TG} {tt : TT} {te : TE} {vs : List Nat} {H1 : Hp} {ta : TA} {Q : VK} (f : V → Option HO) (hta : ∀ R : List V → Hp → Prop, R [.int n] H1 → ta σ H R) (hn : n ≤ 1000 ∧ 0 ≤ n)
    (hs : ∀ i : Nat, (i : Int) < n → ∀ H, Same H1 H → TurnO g tt te vs σ H (.int i) (f (.int i)))
    (hd : ∀ D H' as, H1 D = none → Same H1 H' → H' D = some (.lst (as.map V.ref)) → Paired (IsO H') as ((upto n).filterMap f) → Q (.ref D) H') : tLc (iRng1 ta) g tt te vs σ H Q := by
  refine hta _ ⟨n, rfl, by omega, by omega, fun D hD => ?_⟩
  refine lc_range (lo := 0) (n := n.toNat) (AccO H1 f (upto n) D) (accO_start hD) (fun i H hi p => ?_) fun H p => ?_
  · have e : (0 : Int) + (i : Int) = (i : Int) := by omega
    rw [e]
    exact accO_turn hD (by rw [upto_len]; omega) (upto_get (by omega)) p (hs i (by omega) H p.1)
  · obtain ⟨s, as, e, _, pr⟩ := p
    rw [show n.toNat = (upto n).length from (upto_len n).symm, List.take_length] at pr
    exact hd D H as hD s e pr
theorem lc_lstO {a : Addr} {xs : List V} {g : TG} {tt : TT} {te : TE} {vs : List Nat} {H H1 : Hp} {tl : TE} {Q : VK} (f : V → Option HO) (htl : ∀ R : VK, R (.ref a) H1 → tl σ H R) (ha : SqL K H1 a xs) (hx : xs.length ≤ 1000)
    (hs : ∀ x ∈ xs, ∀ H, Same H1 H → TurnO g tt te vs σ H x (f x))
    (hd : ∀ D H' as, H1 D = none → Same H1 H' → H' D = some (.lst (as.map V.ref)) → Paired (IsO H') as (xs.filterMap f) → Q (.ref D) H') : tLc (iList K tl) g tt te vs σ H Q := by
  refine htl _ ⟨a, rfl, ⟨xs, ha⟩, fun D hD => ?_⟩
  refine lc_list (K := K) (a := a) (xs := xs) (AccO H1 f xs D) (accO_start hD) (fun i H _ p => p.1.seq ha) (fun i x H h p => accO_turn hD hx h p (hs x (List.mem_of_getElem? h) H p.1)) fun H p => ?_
  obtain ⟨s, as, e, _, pr⟩ := p
  rw [List.take_length] at pr
  exact hd D H as hD s e pr
theorem lc_tupO {a : Addr} {xs : List V} {g : TG} {tt : TT} {te : TE} {vs : List Nat} {H H1 : Hp} {tl : TE} {Q : VK} (f : V → Option HO) (htl : ∀ R : VK, R (.ref a) H1 → tl σ H R) (ha : SqT K H1 a xs) (hx : xs.length ≤ 1000)
    (hs : ∀ x ∈ xs, ∀ H, Same H1 H → TurnO g tt te vs σ H x (f x))
    (hd : ∀ D H' as, H1 D = none → Same H1 H' → H' D = some (.lst (as.map V.ref)) → Paired (IsO H') as (xs.filterMap f) → Q (.ref D) H') : tLc (iTup K tl) g tt te vs σ H Q := by
  refine htl _ ⟨a, rfl, ⟨xs, ha⟩, fun D hD => ?_⟩
  refine lc_tup (K := K) (a := a) (xs := xs) (AccO H1 f xs D) (accO_start hD) (fun i H _ p => sq_same p.1 ha) (fun i x H h p => accO_turn hD hx h p (hs x (List.mem_of_getElem? h) H p.1)) fun H p => ?_
  obtain ⟨s, as, e, _, pr⟩ := p
  rw [List.take_length] at pr
  exact hd D H as hD s e pr
/-- two bounds -/
def fromTo (a b : Int) : List V := (List.range (b - a).toNat).map fun (i : Nat) => V.int (a + i)
theorem fromTo_len (a b : Int) : (fromTo a b).length = (b - a).toNat := by
  unfold fromTo
  rw [List.length_map, List.length_range]
theorem fromTo_get {a b : Int} {i : Nat} (h : (i : Int) < b - a) : (fromTo a b)[i]? = some (.int (a + i)) := by
  unfold fromTo
  rw [List.getElem?_map, List.getElem?_range (by omega)]
  rfl
theorem lc_rng2O {lo hi : Int} {g : TG} {tt : TT} {te : TE} {vs : List Nat} {H1 : Hp} {ta : TA} {Q : VK} (f : V → Option HO) (hta : ∀ R : List V → Hp → Prop, R [.int lo, .int hi] H1 → ta σ H R) (hn : 0 ≤ lo ∧ lo ≤ 1000 ∧ hi ≤ 1000 ∧ 0 ≤ hi)
    (hs : ∀ i : Nat, (i : Int) < hi - lo → ∀ H, Same H1 H → TurnO g tt te vs σ H (.int (lo + i)) (f (.int (lo + i))))
    (hd : ∀ D H' as, H1 D = none → Same H1 H' → H' D = some (.lst (as.map V.ref)) → Paired (IsO H') as ((fromTo lo hi).filterMap f) → Q (.ref D) H') : tLc (iRng2 ta) g tt te vs σ H Q := by
  refine hta _ ⟨lo, hi, rfl, by omega, fun D hD => ?_⟩
  refine lc_range (lo := lo) (n := (hi - lo).toNat) (AccO H1 f (fromTo lo hi) D) (accO_start hD) (fun i H hi p => ?_) fun H p => ?_
  · exact accO_turn hD (by rw [fromTo_len]; omega) (fromTo_get (by omega)) p (hs i (by omega) H p.1)
  · obtain ⟨s, as, e, _, pr⟩ := p
    rw [show (hi - lo).toNat = (fromTo lo hi).length from (fromTo_len lo hi).symm, List.take_length] at pr
    exact hd D H as hD s e pr
theorem for_rng2 {lo hi : Int} {g : TG} {tb : TS} {D : Ends} {H1 : Hp} {ta : TA} (hta : ∀ R : List V → Hp → Prop, R [.int lo, .int hi] H1 → ta σ H R) (hn : 0 ≤ lo ∧ lo < 2 ^ 62 ∧ hi < 2 ^ 62 ∧ 0 ≤ hi) (Pv : Nat → L2.St → Hp → Prop) (h0 : Pv 0 σ H1)
    (hs : ∀ (i : Nat) σ H, (i : Int) < hi - lo → Pv i σ H → g (.int (lo + i)) σ H fun σ2 H2 => tb { D with nx := Pv (i + 1), ct := Pv (i + 1), bk := D.nx } σ2 H2) (hd : ∀ σ H, Pv (hi - lo).toNat σ H → D.nx σ H) : tFor (iRng2 ta) g tb D σ H := by
  refine hta _ ⟨lo, hi, rfl, by omega, ?_⟩
  exact for_range (lo := lo) (n := (hi - lo).toNat) Pv h0 (fun i σ H hi p => hs i σ H (by omega) p) hd
/-- for x in a tuple that stands and stays -/
theorem for_tup {σ : L2.St} {H : Hp} {g : TG} {tb : TS} {D : Ends} {tl : TE} {a : Addr} {xs : List V} (htl : ∀ R : VK, R (.ref a) H → tl σ H R) (Pv : Nat → L2.St → Hp → Prop) (h0 : Pv 0 σ H)
    (hst : ∀ i σ' H', Pv i σ' H' → SqT K H' a xs)
    (hs : ∀ i x σ H', xs[i]? = some x → Pv i σ H' → ∀ N : L2.St → Hp → Prop, (∀ σ' H2, Pv (i + 1) σ' H2 → N σ' H2) → g x σ H' fun σ2 H2 => tb { D with nx := N, ct := N, bk := D.nx } σ2 H2)
    (hd : ∀ σ' H', Pv xs.length σ' H' → D.nx σ' H') : tFor (iTup K tl) g tb D σ H := by
  refine htl _ ⟨a, rfl, ⟨_, hst 0 σ H h0⟩, ?_⟩
  exact L2.for_tup (K := K) (a := a) (xs := xs) Pv h0 (fun i σ H2 _ p => hst i σ H2 p) (fun i x σ H2 hx p => hs i x σ H2 hx p _ fun σ' H3 h => h) hd
end
theorem atI_int {α : Type} {xs : List α} {i : Int} {v : α} (h0 : 0 ≤ i) (h : xs[i.toNat]? = some v) : atI xs i = some v := by
  have e : i = ((i.toNat : Nat) : Int) := by omega
  rw [e]
  exact atI_nat h
theorem atI_end {α : Type} {xs : List α} {v : α} (h : xs[xs.length - 1]? = some v) : atI xs (-1) = some v := by
  have hl := (List.getElem?_eq_some_iff.mp h).1
  have e : ixN xs.length (-1) = some (xs.length - 1) := by
    unfold ixN
    rw [if_neg (by decide), if_pos (by omega)]
    congr 1
    omega
  unfold atI
  rw [e]
  exact h
theorem atI_last {α : Type} (xs : List α) (v : α) : atI (xs ++ [v]) (-1) = some v := atI_end (by
  rw [List.length_append, List.length_singleton, Nat.add_sub_cancel, List.getElem?_append_right (Nat.le_refl _), Nat.sub_self]
  rfl)
/-- what is walked is reckoned first -/
def tV (v : V) : TE := fun _ H Q => Q v H
theorem lc_bindL {K : PySem.W.Frag} {tl : TE} {g : TG} {tt : TT} {te : TE} {vs : List Nat} {σ : L2.St} {H : Hp} {Q : VK} (h : tl σ H fun v H1 => tLc (iList K (tV v)) g tt te vs σ H1 Q) : tLc (iList K tl) g tt te vs σ H Q := h
theorem lc_bindT {K : PySem.W.Frag} {tl : TE} {g : TG} {tt : TT} {te : TE} {vs : List Nat} {σ : L2.St} {H : Hp} {Q : VK} (h : tl σ H fun v H1 => tLc (iTup K (tV v)) g tt te vs σ H1 Q) : tLc (iTup K tl) g tt te vs σ H Q := h
theorem for_bindL {K : PySem.W.Frag} {tl : TE} {g : TG} {tb : TS} {D : Ends} {σ : L2.St} {H : Hp} (h : tl σ H fun v H1 => tFor (iList K (tV v)) g tb D σ H1) : tFor (iList K tl) g tb D σ H := h
theorem for_bindT {K : PySem.W.Frag} {tl : TE} {g : TG} {tb : TS} {D : Ends} {σ : L2.St} {H : Hp} (h : tl σ H fun v H1 => tFor (iTup K (tV v)) g tb D σ H1) : tFor (iTup K tl) g tb D σ H := h
/-- a tuple of a list's items -/
def tupLike (H : Hp) : V → Option HO
  | .ref t => match H t with
    | some (.lst xs) => some (.tup xs)
    | _ => none
  | _ => none
theorem tupLike_at {H : Hp} {t : Addr} {xs : List V} (h : H t = some (.lst xs)) : tupLike H (.ref t) = some (.tup xs) := by
  simp only [tupLike, h]
def TupAt (H : Hp) (a : Addr) (l : List Int) : Prop := H a = some (.tup (l.map V.int))
def LstAt (H : Hp) (a : Addr) (l : List Int) : Prop := H a = some (.lst (l.map V.int))
def tupO (l : List Int) : HO := .tup (l.map V.int)
def lstO (l : List Int) : HO := .lst (l.map V.int)
def pairO (p : Int × Int) : HO := .tup [.int p.1, .int p.2]
def intO (f : Int → HO) : V → Option HO
  | .int i => some (f i)
  | _ => none
theorem fm_intO (f : Int → HO) : ∀ l : List Int, (l.map V.int).filterMap (intO f) = l.map f
  | [] => rfl
  | x :: r => by
    rw [List.map_cons, List.filterMap_cons, fm_intO f r]
    rfl
theorem tups_of {H : Hp} {as : List Addr} {ls : List (List Int)} (p : Paired (IsO H) as (ls.map tupO)) : Paired (TupAt H) as ls := paired_to (F := IsO H) (g := tupO) p
theorem lsts_of {H : Hp} {as : List Addr} {ls : List (List Int)} (p : Paired (IsO H) as (ls.map lstO)) : Paired (LstAt H) as ls := paired_to (F := IsO H) (g := lstO) p
theorem prs_of {H : Hp} {as : List Addr} {ls : List (Int × Int)} (p : Paired (IsO H) as (ls.map pairO)) : Paired (PairAt H) as ls := paired_to (F := IsO H) (g := pairO) p
theorem tups_same {H H' : Hp} {as : List Addr} {ls : List (List Int)} (s : Same H H') (p : Paired (TupAt H) as ls) : Paired (TupAt H') as ls := paired_mono (fun a b e => s _ _ e) p
theorem lsts_same {H H' : Hp} {as : List Addr} {ls : List (List Int)} (s : Same H H') (p : Paired (LstAt H) as ls) : Paired (LstAt H') as ls := paired_mono (fun a b e => s _ _ e) p
theorem prs_same {H H' : Hp} {as : List Addr} {ls : List (Int × Int)} (s : Same H H') (p : Paired (PairAt H) as ls) : Paired (PairAt H') as ls := paired_mono (fun a b e => s _ _ e) p
theorem sort_perm {a b : List Int} (h : a.Perm b) : a.mergeSort = b.mergeSort := by
  have h2 : (a.mergeSort (· ≤ ·)).Pairwise (· ≤ ·) := by
    have h := List.pairwise_mergeSort (le := fun x y : Int => decide (x ≤ y)) (fun x y z h1 h2 => by simp only [decide_eq_true_eq] at *; omega) (fun x y => by simp only [Bool.or_eq_true, decide_eq_true_eq]; omega) a
    exact h.imp fun h => of_decide_eq_true h
  exact perm_sort ((List.mergeSort_perm a _).trans h) h2
/-- the others of the pairs with x -/
def otherF (H : Hp) (x : Int) (v : V) : Option V := if x = (pairOf H v).1 ∨ x = (pairOf H v).2 then some (.int ((pairOf H v).1 + (pairOf H v).2 - x)) else none
theorem fm_other {H : Hp} {x : Int} : ∀ {as : List Addr} {qs : List (Int × Int)}, Paired (PairAt H) as qs → (as.map V.ref).filterMap (otherF H x) = (qs.filterMap fun q => if x = q.1 ∨ x = q.2 then some (q.1 + q.2 - x) else none).map V.int
  | _, _, .nil => rfl
  | _, _, .cons (a := a) (b := b) f r => by
    rw [List.map_cons, List.filterMap_cons, List.filterMap_cons, fm_other r]
    unfold otherF
    rw [pairOf_at f]
    by_cases c : x = b.1 ∨ x = b.2
    · rw [if_pos c, if_pos c]
      rfl
    · rw [if_neg c, if_neg c]
theorem tups_kp {p : Addr} {H H' : Hp} {as : List Addr} {ls : List (List Int)} (k : Kp p H H') (sp : Spring H p) (h : Paired (TupAt H) as ls) : Paired (TupAt H') as ls := paired_mono (fun a b e => by
  refine k.keep a _ ?_ e
  rintro rfl
  obtain ⟨x, y, z, e2⟩ := sp
  rw [show H a = _ from e] at e2
  cases e2) h
theorem tup_kp {p a : Addr} {H H' : Hp} {xs : List V} (k : Kp p H H') (sp : Spring H p) (e : H a = some (.tup xs)) : H' a = some (.tup xs) := by
  refine k.keep a _ ?_ e
  rintro rfl
  obtain ⟨x, y, z, e2⟩ := sp
  rw [e] at e2
  cases e2
theorem fm_tupLike {H : Hp} : ∀ {as : List Addr} {ls : List (List Int)}, Paired (LstAt H) as ls → (as.map V.ref).filterMap (tupLike H) = ls.map tupO
  | _, _, .nil => rfl
  | _, _, .cons f r => by
    rw [List.map_cons, List.filterMap_cons, tupLike_at f, fm_tupLike r]
    rfl
/-- a change of a list leaves the tuples -/
theorem prs_upd {H : Hp} {D : Addr} {xs : List V} {o : HO} {as : List Addr} {ls : List (Int × Int)} (hD : H D = some (.lst xs)) (p : Paired (PairAt H) as ls) : Paired (PairAt (upd H D o)) as ls := paired_mono (fun a b e => by
  unfold PairAt at *
  rw [upd_ne]
  · exact e
  · rintro rfl
    rw [hD] at e
    cases e) p
theorem tups_upd {H : Hp} {D : Addr} {xs : List V} {o : HO} {as : List Addr} {ls : List (List Int)} (hD : H D = some (.lst xs)) (p : Paired (TupAt H) as ls) : Paired (TupAt (upd H D o)) as ls := paired_mono (fun a b e => by
  unfold TupAt at *
  rw [upd_ne]
  · exact e
  · rintro rfl
    rw [hD] at e
    cases e) p
end Z

/-! Data compared and told: tuples of tuples, lists of pairs, lists of parties. -/
namespace Z
open PySem PySem.Spec PyProof.Rows L2
theorem can_tups : ∀ ls : List (List Int), PyData.canLayAll0 (tupsD ls) = true
  | [] => rfl
  | l :: r => by
    simp only [tupsD, List.map_cons, PyData.canLayAll0, PyData.canLay0, Bool.and_eq_true]
    exact ⟨can_ints l, can_tups r⟩
theorem shaped_ltups (ls : List (List Int)) : SeqAt.shaped (.list (tupsD ls)) = true := by
  unfold SeqAt.shaped
  rw [Bool.and_eq_true]
  refine ⟨can_tups ls, decide_eq_true ?_⟩
  have h := depth_tups ls
  simp only [PyData.depth]
  omega
theorem shaped_ttups (ls : List (List Int)) : SeqAt.shaped (.tuple (tupsD ls)) = true := by
  unfold SeqAt.shaped
  rw [Bool.and_eq_true]
  refine ⟨can_tups ls, decide_eq_true ?_⟩
  have h := depth_tups ls
  simp only [PyData.depth]
  omega
def twoL (p : Int × Int) : List Int := [p.1, p.2]
theorem prs_tups {H : Hp} {as : List Addr} {ps : List (Int × Int)} (h : Paired (PairAt H) as ps) : Paired (TupAt H) as (ps.map twoL) := paired_of (F := TupAt H) (g := twoL) (paired_mono (fun a b e => e) h)
theorem eq_lprs {K : PySem.W.Frag} {H : Hp} {a b : Addr} {as bs : List Addr} {ps : List (Int × Int)} {Q : VK} (ha : H a = some (.lst (as.map V.ref))) (pa : Paired (PairAt H) as ps) (hb : H b = some (.lst (bs.map V.ref))) (pb : Paired (PairAt H) bs ps) (q : Q (.bl true) H) : rEqD K (.ref a) (.ref b) H Q := by
  refine ⟨.list (tupsD (ps.map twoL)), .list (tupsD (ps.map twoL)), .lst (SqL.of ha) (dpAll_tups (prs_tups pa)), .lst (SqL.of hb) (dpAll_tups (prs_tups pb)), shaped_ltups _, shaped_ltups _, ?_⟩
  rw [SeqAt.eqv_refl _ (SeqAt.canLay_of_shaped (shaped_ltups _))]
  exact q
theorem ne_ttups {K : PySem.W.Frag} {H : Hp} {a b : Addr} {as bs : List Addr} {ls : List (List Int)} {Q : VK} (ha : H a = some (.tup (as.map V.ref))) (pa : Paired (TupAt H) as ls) (hb : H b = some (.tup (bs.map V.ref))) (pb : Paired (TupAt H) bs ls) (q : Q (.bl false) H) : rNeD K (.ref a) (.ref b) H Q := by
  refine ⟨.tuple (tupsD ls), .tuple (tupsD ls), .tup (SqT.of ha) (dpAll_tups pa), .tup (SqT.of hb) (dpAll_tups pb), shaped_ttups _, shaped_ttups _, ?_⟩
  rw [SeqAt.eqv_refl _ (SeqAt.canLay_of_shaped (shaped_ttups _))]
  exact q
theorem wd_tupsM {m : Nat} : ∀ {ls : List (List Int)}, (∀ l ∈ ls, l.length ≤ m) → wdAll (tupsD ls) ≤ (1003 * m + 5) * ls.length
  | [], _ => Nat.le_refl _
  | l :: r, h => by
    have h1 := h l (List.mem_cons_self ..)
    have h2 := wd_tupsM fun i hi => h i (List.mem_cons_of_mem _ hi)
    simp only [tupsD, List.map_cons, wdAll, wd, wd_ints, List.length_cons, Nat.mul_add] at h2 ⊢
    have h3 : 1003 * l.length ≤ 1003 * m := Nat.mul_le_mul_left _ h1
    omega
/-- small parties -/
def LowP (m k : Nat) (ls : List (List Int)) : Prop := (∀ l ∈ ls, Low l ∧ l.length ≤ m) ∧ ls.length ≤ k
theorem repr_two {K : PySem.W.Frag} {H : Hp} {c a b : Addr} {as bs : List Addr} {ls : List (List Int)} {Q : VK} {m k : Nat} (hc : H c = some (.lst [.ref a, .ref b])) (ha : H a = some (.tup (as.map V.ref))) (pa : Paired (TupAt H) as ls)
    (hb : H b = some (.tup (bs.map V.ref))) (pb : Paired (TupAt H) bs ls) (low : LowP m k ls) (hmk : (1003 * m + 5) * k ≤ 7000000) (q : Q (.str (PyData.list [.tuple (tupsD ls), .tuple (tupsD ls)]).shown) H) : rRepr K [.ref c] H Q := by
  refine ⟨c, .list [.tuple (tupsD ls), .tuple (tupsD ls)], rfl, .lst (SqL.of hc) (.cons (.tup (SqT.of ha) (dpAll_tups pa)) (.cons (.tup (SqT.of hb) (dpAll_tups pb)) .nil)), ?_, ?_, ?_, q⟩
  · have := shw_tups fun l hl => (low.1 l hl).1
    simp only [Shw, ShwAll]
    exact ⟨this, this, trivial⟩
  · have := depth_tups ls
    simp only [PyData.depth, PyData.depthAll]
    omega
  · have h1 := wd_tupsM fun l hl => (low.1 l hl).2
    have h2 : (1003 * m + 5) * ls.length ≤ (1003 * m + 5) * k := Nat.mul_le_mul_left _ low.2
    simp only [wd, wdAll]
    omega
theorem tyN_tup {H : Hp} {a : Addr} {xs : List V} (h : H a = some (.tup xs)) : tyN H (.ref a) = some "tuple" := by
  simp only [tyN, h]
theorem tyN_lst {H : Hp} {a : Addr} {xs : List V} (h : H a = some (.lst xs)) : tyN H (.ref a) = some "list" := by
  simp only [tyN, h]
theorem kit_tt : kitB "tuple" "tuple" = some true := by decide +kernel
theorem kit_lt : kitB "list" "tuple" = some false := by decide +kernel
theorem kit_ts : kitB "tuple" "str" = some false := by decide +kernel
theorem kit_ti : kitB "tuple" "int" = some false := by decide +kernel
theorem kit_nt : kitB "NoneType" "tuple" = some false := by decide +kernel
theorem kit_it : kitB "int" "tuple" = some false := by decide +kernel
theorem kit_bt : kitB "bool" "tuple" = some false := by decide +kernel
theorem kit_st : kitB "str" "tuple" = some false := by decide +kernel
/-- isinstance(x, tuple) of a tuple -/
theorem isN_tup {H : Hp} {a : Addr} {xs : List V} {Q : VK} (h : H a = some (.tup xs)) (q : Q (.bl true) H) : rIsN [.ref a, .ty "tuple"] H Q := ⟨.ref a, "tuple", rfl, _, tyN_tup h, _, kit_tt, q⟩
end Z

/-! enumerate(xs), xs a tuple. -/
namespace PySem
open Sem (wp)
open AutoSeq1 (wpAny_loadPart')
theorem meets_enumerate_newT (l : Addr) (items : Array Value) (n : Nat) (dct : Option Addr) (sl : Array (Option Value)) :
    Meets (Builtin.«enumerate.__new__» ⟨[.type "enumerate", .ref l], []⟩) (fun _ R s => s.heap.get? l = some { cls := .type "tuple", dict := dct, data := .seq items n, slots := sl } ∧
      R (.ok (.ret (.ref (s.heap.push { cls := .type "tuple_iterator", data := .fields #[.ref l, .int 0 0] }).objs.size)))
        { s with heap := (s.heap.push { cls := .type "tuple_iterator", data := .fields #[.ref l, .int 0 0] }).push { cls := .type "enumerate", data := .fields #[.none, .bool false, .ref s.heap.objs.size, rawInt 0, .none, .none] } }) :=
  .of_wp fun prog w A R s h => by
    obtain ⟨hp, g, d, tk, os⟩ := s; obtain ⟨hl, h⟩ := h
    have hsub := sub_enumerate
    have hL : Heap.IsTuple (Shared.heap ⟨hp, g, d, tk, os⟩) l items := ⟨_, hl, rfl, n, rfl⟩
    wp_walk using wpAny_loadPart' hl
    refine wpAny_stack_any fun st => wpAny_pure ?_
    split
    · rename_i c _ _ _ _ _
      cases (c == Value.type "enumerate")
      · wp_walk using wpAny_loadPart' hl, wpAny_pyIter_tuple hL
        exact ⟨_, rfl, h⟩
      · wp_walk using wpAny_loadPart' hl, wpAny_pyIter_tuple hL
        exact ⟨_, rfl, h⟩
    · wp_walk using wpAny_loadPart' hl, wpAny_pyIter_tuple hL
      exact ⟨_, rfl, h⟩
section
variable {prog : Program} {w : World} {A : Around} {E : Value → Shared → Prop} {s : Shared}
theorem call_enumerate_tuple {l : Addr} {items : Array Value} {Q : Value → Shared → Prop} (hL : s.heap.IsTuple l items)
    (h : ∀ h', IsEnum h' (s.heap.objs.size + 1) s.heap.objs.size 0 .none → h'.IsTupleIter s.heap.objs.size l 0 → h'.objs.size = s.heap.objs.size + 2 →
      (∀ b o, s.heap.get? b = some o → h'.get? b = some o) → Q (.ref (s.heap.objs.size + 1)) { s with heap := h' }) :
    wpAny (model prog w) A (call (.type "enumerate") [.ref l]) Q E s := by
  obtain ⟨⟨c, dct, dt, sl⟩, hl, hc, n, hd⟩ := hL
  replace hc : c = .type "tuple" := hc
  replace hd : dt = .seq items n := hd
  subst hc hd
  refine callType_new F.called_enumerate (by decide) (F.typeCall_enumerate_1 _) (F.newCall_enumerate_1 _) (fun obj => F.args_object_init_2 obj _) F.entry_enumerate_new
    (meets_enumerate_newT l items n dct sl) ⟨hl, ?_⟩
  have hz : (s.heap.push { cls := .type "tuple_iterator", data := .fields #[.ref l, .int 0 0] }).objs.size = s.heap.objs.size + 1 := Heap.size_push ..
  show _ ∧ _
  rw [hz]
  have he : IsEnum ((s.heap.push { cls := .type "tuple_iterator", data := .fields #[.ref l, .int 0 0] }).push
      { cls := .type "enumerate", data := .fields #[.none, .bool false, .ref s.heap.objs.size, rawInt 0, .none, .none] }) (s.heap.objs.size + 1) s.heap.objs.size 0 .none := by
    have := Heap.get?_push_size (s.heap.push { cls := .type "tuple_iterator", data := .fields #[.ref l, .int 0 0] })
      (o := { cls := .type "enumerate", data := .fields #[.none, .bool false, .ref s.heap.objs.size, rawInt 0, .none, .none] }) rfl
    rw [hz] at this; exact this
  refine ⟨⟨_, he, rfl⟩, h _ he ⟨_, Heap.get?_push_of_some _ (Heap.get?_push_size _ rfl), rfl, rfl⟩ (by rw [Heap.size_push, hz]) fun b o x => Heap.get?_push_of_some _ (Heap.get?_push_of_some _ x)⟩
end
end PySem
namespace Z
open PySem PySem.Spec PyProof.Rows L2
/-- the tuple at a, each item in a new pair -/
def IteT (K : PySem.W.Frag) (a : Addr) : It :=
  ⟨fun i H => ∃ (xs : List V) (x : V), SqT K H a xs ∧ xs[i]? = some x, fun i H v H' => ∃ T x, v = .ref T ∧ H T = none ∧ H' = upd H T (.tup [.int (i : Nat), x]) ∧ ∀ xs, SqT K H a xs → xs[i]? = some x, fun i H => ∃ xs : List V, SqT K H a xs ∧ xs.length ≤ i⟩
theorem turn_enumT {P : Program} {w : World} {K : PySem.W.Frag} {elts : List Expr} {kk : Nat} {tpos : Pos} (a e it : Addr) :
    Turn P w K (.Tuple elts kk tpos) (IteT K a) [e, it] e (fun i h => (∃ old, IsEnum h e it ((i : Nat) : Int) old) ∧ h.IsTupleIter it a i ∧ e ≠ it) where
  mem := by simp
  obj := fun i h st b hb => by
    obtain ⟨⟨old, he⟩, ⟨o, ho, hc, hd⟩, _⟩ := st
    have e' : b = e ∨ b = it := by simpa using hb
    rcases e' with z | z
    · rw [z]; exact ⟨_, he, fun v q => nomatch q⟩
    · rw [z]; exact ⟨o, ho, fun v q => by rw [hd] at q; cases q⟩
  keep := fun i h h' st k => let ⟨⟨old, he⟩, hi, hne⟩ := st; ⟨⟨old, k e (by simp) _ he⟩, hi.at fun o q => k it (by simp) o q, hne⟩
  item := by
    intro X hP hw hK hc i pins s σ H E I hf st hg
    subst hP hw hK
    obtain ⟨⟨old, he⟩, hit, hne⟩ := st
    obtain ⟨xs, x, hq, hx⟩ := hg
    obtain ⟨its, rv, p, hz⟩ := I.tuple hq
    obtain ⟨u, hu, ru⟩ := rv.get hx
    have hel : e < s.heap.objs.size := Heap.lt_size he
    have hil : it < s.heap.objs.size := by obtain ⟨_, q, _⟩ := hit; exact Heap.lt_size q
    have pt : s.heap.IsTuple a its.toArray := p
    have hai : a ≠ it := by
      rintro rfl
      obtain ⟨o1, h1, c1, _⟩ := hit
      obtain ⟨o2, h2, c2, _⟩ := pt
      rw [h1] at h2
      cases h2
      rw [c1] at c2
      exact absurd (Value.type.inj c2) (by decide)
    have hea : e ≠ a := by
      rintro rfl
      obtain ⟨o2, h2, c2, _⟩ := pt
      rw [show s.heap.get? e = _ from he] at h2
      cases h2
      exact absurd (Value.type.inj c2) (by decide)
    have hil2 : i < its.toArray.size := by
      have := (List.getElem?_eq_some_iff.mp hu).1
      simpa using this
    refine wpAny_pyNext_enum_itemD (Draws.tuple (A := X.A.in1) (show X.A.in1.handled = none from I.ok.hd hc) it a hai its.toArray) he ⟨hit, pt⟩ hil2 hne (by simp [hne, hea]) fun x' h' tk hx' ho hit' hT hsz hk => ?_
    have ex : x' = u := by
      have h1 : its.toArray[i]? = some u := by simpa using hu
      rw [h1] at hx'
      exact (Option.some.inj hx').symm
    subst ex
    refine ⟨_, rfl, wpAny_letOwnedTupleGo_enum (s := { s with heap := h', toks := tk + 1 }) ho fun h'' he' sb => ?_⟩
    have hT2 : h''.get? s.heap.objs.size = some { cls := .type "tuple", data := .seq #[.int i tk, x'] } := (sb.2 _ (Nat.ne_of_gt hel)).trans hT
    have new : ObjOk X.prog X.w (upd H s.heap.objs.size (.tup [.int (i : Nat), x])) h'' s.heap.objs.size (.tup [.int (i : Nat), x]) :=
      ⟨by show 2 ≤ sizeLine; decide, [.int i tk, x'], .cons ⟨_, rfl⟩ (.cons ru .nil), ⟨_, hT2, rfl, _, rfl⟩⟩
    have I1 : Inv X pins σ (upd H s.heap.objs.size (.tup [.int (i : Nat), x])) { s with heap := h'', toks := tk + 1 } :=
      I.turnedNew (ch := [e, it]) (fun b ob hb q => (sb.2 b (fun z => hb (by simp [z]))).trans (hk b ob (fun z => hb (by simp [z])) (fun z => hb (by simp [z])) q)) hf (Nat.le_refl _) new
    refine ⟨.ref s.heap.objs.size, _, I1, rfl, ⟨_, x, rfl, I.hok.fresh (Nat.le_refl _), rfl, fun ys hy => by rw [I.tuple_inj hy hq]; exact hx⟩, ⟨⟨x', ?_⟩, hit'.1.at fun o q => (sb.2 it (Ne.symm hne)).trans q, hne⟩, fun b hb => ?_⟩
    · have e1 : ((i + 1 : Nat) : Int) = (i : Int) + 1 := by omega
      rw [e1]; exact he'
    · have hb' : b < s.heap.objs.size := by
        have e' : b = e ∨ b = it := by simpa using hb
        rcases e' with z | z
        · rw [z]; exact hel
        · rw [z]; exact hil
      rw [upd_ne (Nat.ne_of_lt hb')]
      exact (hf b hb).1
  done := by
    intro X hP hw hK hc i pins s σ H E I hf st hg
    subst hP hw hK
    obtain ⟨⟨old, he⟩, hit, hne⟩ := st
    obtain ⟨xs, hq, hx⟩ := hg
    obtain ⟨its, rv, p, hz⟩ := I.tuple hq
    obtain ⟨f0, f1, f2, f3, f4, f5⟩ := hf it (by simp)
    have hl := rv.length
    have pt : s.heap.IsTuple a its.toArray := p
    have hT : s.TypeIs (.ref e) "enumerate" := ⟨_, he, rfl⟩
    unfold pyNext
    refine wpAny_bind (wpAny_attempt (wpAny_callSpecial?_slot (name := Str.ofString "__next__") hT F.slot_enumerate_next
      (wpAny_call_entry F.slot_enumerate_next hT F.entry_enumerate_next ?_ (F.args_enumerate_next_1 _))))
    show wpAny _ _ (field (.ref e) 2 >>= _) _ _ _
    refine wpAny_bind (wpAny_field he rfl (x := .ref it) rfl ?_)
    refine wpAny_bind (wpAny_nextOf_tuple_end (I.ok.hd hc) hit pt (by simp; omega) fun h' x he' hx' => ?_)
    obtain ⟨o, ho, hc'⟩ := hx'
    refine wpAny_bind (wpAny_isInstance (T := "StopIteration") (b := true) ⟨o, ho, hc'⟩ isSubtype_stop ?_)
    exact wpAny_pure ⟨rfl, I.turned (t' := s.toks) (fun b o hb q => he' b o hb q) f0 f1 f3 f4 f5⟩
  self := fun A i s Q E st h => let ⟨⟨_, he⟩, _⟩ := st; wpAny_pyIter_enum he h
def iEnumT (K : PySem.W.Frag) (ta : TA) : TI := fun σ H R => ta σ H fun vs H1 => ∃ a xs, vs = [.ref a] ∧ SqT K H1 a xs ∧ R (IteT K a) H1
theorem pi_enumT {X : Cx} {e : Expr} {ta : TA} {p pos tpos : Pos} {elts : List Expr} {kk : Nat} (hg : Gl X "enumerate") (hm : X.mg "enumerate" = none) (ha : PA X [e] ta) (hs : starEach [e] X.env = [(false, eval e X.env)] := by rfl) :
    PI X (.Tuple elts kk tpos) (.Call (.Name "enumerate" p) [e] [] pos) (iEnumT X.K ta) := by
  refine ⟨fun pins s σ H R I h => ?_⟩
  refine Call_ (ld_blt I hg hm boot_enumerate (PyProof.Rows.callWith_type1 (thn (ha.run pos pins s σ H _ I h) fun us s1 ⟨vs, H1, I1, r1, q1⟩ => ?_) hs rfl))
  obtain ⟨a, xs, ex, hq, q⟩ := q1
  subst ex
  cases r1 with
  | cons r rr =>
    cases rr
    cases r
    obtain ⟨its, rv, p', hz⟩ := I1.tuple hq
    refine call_enumerate_tuple (show s1.heap.IsTuple a its.toArray from p') fun h' he hit hsz hk => wpAny_pyIter_enum he ?_
    have I2 : Inv X pins σ H1 { s1 with heap := h' } := I1.kept (t' := s1.toks) hk
    refine ⟨s1.heap.objs.size + 1, [s1.heap.objs.size + 1, s1.heap.objs.size], _, _, H1, rfl, I2, turn_enumT a (s1.heap.objs.size + 1) s1.heap.objs.size, ⟨⟨.none, he⟩, hit, Nat.succ_ne_self _⟩, fun b hb => ?_, q⟩
    have e' : b = s1.heap.objs.size + 1 ∨ b = s1.heap.objs.size := by simpa using hb
    have hle : s1.heap.objs.size ≤ b := by
      rcases e' with z | z
      · rw [z]; exact Nat.le_add_right _ _
      · rw [z]; exact Nat.le_refl _
    exact I1.fpOk hle (I1.hok.fresh hle)
/-- for k, x in enumerate(xs): the pairs are new -/
theorem for_enT {K : PySem.W.Frag} {σ : L2.St} {H : Hp} {g : TG} {tb : TS} {D : Ends} {ta : TA} {a : Addr} {xs : List V} (hta : ∀ R : List V → Hp → Prop, R [.ref a] H → ta σ H R) (Pv : Nat → L2.St → Hp → Prop) (h0 : Pv 0 σ H)
    (hst : ∀ i σ' H', Pv i σ' H' → SqT K H' a xs)
    (hs : ∀ i x σ H', xs[i]? = some x → Pv i σ H' → ∀ N : L2.St → Hp → Prop, (∀ σ' H2, Pv (i + 1) σ' H2 → N σ' H2) → ∀ T, H' T = none → g (.ref T) σ (upd H' T (.tup [.int (i : Nat), x])) fun σ2 H2 => tb { D with nx := N, ct := N, bk := D.nx } σ2 H2)
    (hd : ∀ σ' H', Pv xs.length σ' H' → D.nx σ' H') : tFor (iEnumT K ta) g tb D σ H := by
  refine hta _ ⟨a, xs, rfl, hst 0 σ H h0, ?_⟩
  refine ⟨fun i m σ H => m = xs.length - i ∧ i ≤ xs.length ∧ Pv i σ H, ⟨xs.length, by simp, Nat.zero_le _, h0⟩, ?_⟩
  rintro i m σ H ⟨rfl, hi, p⟩
  have q := hst i σ H p
  by_cases hlt : i < xs.length
  · refine .inr ⟨⟨xs, xs[i], q, by simp [hlt]⟩, Pv (i + 1), fun σ' H' p' => ⟨xs.length - (i + 1), by omega, rfl, hlt, p'⟩, fun x H' y => ?_⟩
    obtain ⟨T, z, rfl, hT, rfl, hz⟩ := y
    exact hs i z σ _ (hz xs q) p _ (fun _ _ h => h) T hT
  · have e : i = xs.length := by omega
    subst e
    exact .inl ⟨⟨xs, q, Nat.le_refl _⟩, hd σ H p⟩
/-- for k, x in enumerate(xs): the pairs are new -/
theorem for_enL {K : PySem.W.Frag} {σ : L2.St} {H : Hp} {g : TG} {tb : TS} {D : Ends} {ta : TA} {a : Addr} {xs : List V} (hta : ∀ R : List V → Hp → Prop, R [.ref a] H → ta σ H R) (Pv : Nat → L2.St → Hp → Prop) (h0 : Pv 0 σ H)
    (hst : ∀ i σ' H', Pv i σ' H' → SqL K H' a xs)
    (hs : ∀ i x σ H', xs[i]? = some x → Pv i σ H' → ∀ N : L2.St → Hp → Prop, (∀ σ' H2, Pv (i + 1) σ' H2 → N σ' H2) → ∀ T, H' T = none → g (.ref T) σ (upd H' T (.tup [.int (i : Nat), x])) fun σ2 H2 => tb { D with nx := N, ct := N, bk := D.nx } σ2 H2)
    (hd : ∀ σ' H', Pv xs.length σ' H' → D.nx σ' H') : tFor (iEnum K ta) g tb D σ H := by
  refine hta _ ⟨a, xs, rfl, hst 0 σ H h0, ?_⟩
  refine ⟨fun i m σ H => m = xs.length - i ∧ i ≤ xs.length ∧ Pv i σ H, ⟨xs.length, by simp, Nat.zero_le _, h0⟩, ?_⟩
  rintro i m σ H ⟨rfl, hi, p⟩
  have q := hst i σ H p
  by_cases hlt : i < xs.length
  · refine .inr ⟨⟨xs, xs[i], q, by simp [hlt]⟩, Pv (i + 1), fun σ' H' p' => ⟨xs.length - (i + 1), by omega, rfl, hlt, p'⟩, fun x H' y => ?_⟩
    obtain ⟨T, z, rfl, hT, rfl, hz⟩ := y
    exact hs i z σ _ (hz xs q) p _ (fun _ _ h => h) T hT
  · have e : i = xs.length := by omega
    subst e
    exact .inl ⟨⟨xs, q, Nat.le_refl _⟩, hd σ H p⟩
end Z

/-! len(set(xs)), xs a tuple of ints. -/
namespace Z
open PySem PySem.Spec PyProof.Rows L2
section
variable {X : Cx}
def tLenSetT (ta : TE) : TE := fun σ H Q => ta σ H fun x H1 => ∃ (l : Addr) (ns : List Int), x = V.ref l ∧ H1 l = some (.tup (ns.map V.int)) ∧ ns.length ≤ 1000 ∧ ∀ m : List Int, m.Nodup → (∀ k, k ∈ m ↔ k ∈ ns) → Q (.int (m.length : Nat)) H1
theorem pe_lenSetT {a : Expr} {ta : TE} {p p2 q pos : Pos} (hc : X.calm = true) (hg : Gl X "len") (hm : X.mg "len" = none) (hg2 : Gl X "set") (hm2 : X.mg "set" = none) (ha : PE X a ta)
    (na : starEach [a] X.env = (false, eval a X.env) :: starEach [] X.env := by rfl) : PE X (.Call (.Name "len" p) [.Call (.Name "set" p2) [a] [] q] [] pos) (tLenSetT ta) := by
  refine ⟨fun pins s σ H Q I h => ?_⟩
  refine Call_ (ld_blt I hg hm PySem.boot_len ?_)
  refine PyProof.Rows.callWith_builtin1 (PyProof.Rows.args_cons ?_ rfl) rfl rfl
  refine Call_ (ld_blt I hg2 hm2 PyProof.Rows.boot_set ?_)
  refine PyProof.Rows.callWith_type1 (PyProof.Rows.args_cons (thn (ha.run pins s σ H _ I h) fun v s1 ⟨x, H1, I1, r1, q1⟩ => PyProof.Rows.args_nil ?_) na) na rfl
  obtain ⟨l, ns, rfl, hq, h1, q1⟩ := q1
  cases r1
  obtain ⟨its, r, pl, hz⟩ := I1.tuple (SqT.of hq)
  refine call_set_tupI ns (I1.ok.hd hc) (show s1.heap.IsTuple l its.toArray from pl) (by simpa using r.ints) (by unfold scanBound; omega) fun h' tk c hS hc2 hk => ?_
  refine PyProof.Rows.args_nil ?_
  obtain ⟨o, es, ep, t, ho, hex, hd, _, hnd, hmem, hsz, hf, hn, _⟩ := hS
  have I2 : Inv X pins σ H1 { s1 with heap := h', toks := tk } := I1.kept fun b o e => hk b o e
  have hq2 := q1 (es.toList.map keyOf) hnd fun k => by
    rw [← hmem k, decide_eq_true_eq]
  rw [List.length_map, Array.length_toList] at hq2
  exact call_len_set ho hex hd hf (by rw [hn]; omega) ⟨.int es.size, H1, I2.tok _, ⟨_, rfl⟩, hq2⟩
end
end Z
namespace Z
open PySem PySem.Spec PyProof.Rows L2
theorem eqv_pair (a b c d : Int) : PyData.eqv (.tuple [.int a, .int b]) (.tuple [.int c, .int d]) = decide ((a, b) = (c, d)) := by
  simp [PyData.eqv, PyData.eqvAll, Prod.mk.injEq, Bool.decide_and, Bool.beq_eq_decide_eq]
theorem any_pairs (p : Int × Int) : ∀ qs : List (Int × Int), (tupsD (qs.map twoL)).any (fun z => PyData.eqv z (.tuple ((twoL p).map PyData.int))) = decide (p ∈ qs)
  | [] => rfl
  | q :: r => by
    have ih := any_pairs p r
    have e : PyData.eqv (.tuple ((twoL q).map PyData.int)) (.tuple ((twoL p).map PyData.int)) = decide (q = p) := eqv_pair q.1 q.2 p.1 p.2
    show (PyData.eqv (.tuple ((twoL q).map PyData.int)) (.tuple ((twoL p).map PyData.int)) || (tupsD (r.map twoL)).any fun z => PyData.eqv z (.tuple ((twoL p).map PyData.int))) = _
    rw [e, ih]
    by_cases c : q = p
    · rw [c]
      simp
    · have c2 : ¬ p = q := fun z => c z.symm
      simp [c, c2]
/-- a pair in a list of pairs -/
def rInPr (neg : Bool) : R2 := fun x y H Q => ∃ (t l : Addr) (p : Int × Int) (as : List Addr) (qs : List (Int × Int)), x = .ref t ∧ y = .ref l ∧ PairAt H t p ∧ H l = some (.lst (as.map V.ref)) ∧ Paired (PairAt H) as qs ∧ Q (.bl (if neg then !decide (p ∈ qs) else decide (p ∈ qs))) H
section
variable {X : Cx}
theorem op_inPr (hu : X.A.units + 65 < cLine) : OpR X (compareOp .In) (rInPr false) := by
  intro pins s σ H x y v u Q I rx ry h
  obtain ⟨t, l, p, as, qs, rfl, rfl, hp, hl, pq, q⟩ := h
  refine op_inD hu pins s σ H _ _ v u Q I rx ry ⟨.tuple ((twoL p).map PyData.int), tupsD (qs.map twoL), .tup (SqT.of hp) (dpAll_ints (twoL p)), .lst (SqL.of hl) (dpAll_tups (prs_tups pq)), shaped_tup _, shaped_ltups _, ?_⟩
  rw [any_pairs]
  exact q
theorem op_notInPr (hu : X.A.units + 65 < cLine) : OpR X (compareOp .NotIn) (rInPr true) := by
  intro pins s σ H x y v u Q I rx ry h
  obtain ⟨t, l, p, as, qs, rfl, rfl, hp, hl, pq, q⟩ := h
  refine op_notInD hu pins s σ H _ _ v u Q I rx ry ⟨.tuple ((twoL p).map PyData.int), tupsD (qs.map twoL), .tup (SqT.of hp) (dpAll_ints (twoL p)), .lst (SqL.of hl) (dpAll_tups (prs_tups pq)), shaped_tup _, shaped_ltups _, ?_⟩
  rw [any_pairs]
  exact q
end
theorem room65 {k : Nat} {A : Around} (r : Room k A) : A.units + 65 < cLine := by
  have := r.un
  omega
end Z

/-! A tuple's first two turned round, a tuple held against an empty one, a list taken apart, an item taken out. -/
namespace HT
open PySem PySem.Spec PyProof.Rows
section
variable {prog : Program} {w : World} {A : Around} {E : Value → Shared → Prop} {s : Shared}
theorem sliceApplied_back {sl : Addr} {vl vu vs : Value} {n : Nat} {Q : Int × Int × Nat → Shared → Prop} (hs : s.heap.IsSliceOf sl vl vu vs) (pl : IsPart vl (some 1)) (pu : IsPart vu none) (ps : IsPart vs (some (-1))) (hn : 2 ≤ n)
    (h : Q (1, -1, 2) s) : wpAny (model prog w) A (Builtin.Slice.sliceApplied (.ref sl) (pure (n : Int))) Q E s := by
  obtain ⟨os, hos, hcs, hds⟩ := id hs
  unfold Builtin.Slice.sliceApplied Builtin.Slice.sliceFields
  refine wpAny_bind (wpAny_bind (wpAny_field hos hds (x := vl) rfl (wpAny_bind (wpAny_field hos hds (x := vu) rfl (wpAny_bind (wpAny_field hos hds (x := vs) rfl (wpAny_pure ?_)))))))
  refine wpAny_bind (slicePart_ ps ?_)
  show wpAny _ _ (if ((-1 : Int) == 0) = true then _ else _) _ _ s
  rw [if_neg (by decide)]
  refine wpAny_bind (slicePart_ pl (wpAny_bind (slicePart_ pu (wpAny_bind (wpAny_pure ?_)))))
  show wpAny _ _ (match Builtin.Slice.sliceAdjust (some 1) none (-1) (n : Int) with | (lo, hi) => pure (lo, (-1 : Int), Builtin.Slice.slicePlaces lo hi (-1))) _ _ s
  have e : Builtin.Slice.sliceAdjust (some 1) none (-1) (n : Int) = (1, -1) := by
    unfold Builtin.Slice.sliceAdjust
    have h1 : min (1 : Int) ((n : Int) - 1) = 1 := by omega
    simp [h1]
  rw [e]
  exact wpAny_pure h
theorem getItem_tuple_back {t sl : Addr} {items : Array Value} {x y : Value} {vl vu vs : Value} {Q : Value → Shared → Prop} (ht : IsTup s.heap t items) (hs : s.heap.IsSliceOf sl vl vu vs) (pl : IsPart vl (some 1)) (pu : IsPart vu none) (ps : IsPart vs (some (-1)))
    (hx : items[0]? = some x) (hy : items[1]? = some y)
    (h : Q (.ref s.heap.objs.size) { s with heap := s.heap.push { cls := .type "tuple", data := .seq #[y, x] } }) : wpAny (model prog w) A (getItem (.ref t) (.ref sl)) Q E s := by
  have hsz : 2 ≤ items.size := by
    have := (Array.getElem?_eq_some_iff.mp hy).1
    omega
  have htake : sizeOk (.seq #[y, x]) := by
    show (#[y, x]).size ≤ sizeLine
    rw [sizeLine_eq]
    show 2 ≤ 16777216
    decide
  obtain ⟨os, hos, hcs, hds⟩ := id hs
  have hTs : s.TypeIs (.ref sl) "slice" := ⟨os, hos, hcs⟩
  unfold getItem
  try with_reducible refine wpAny_holding ?_
  first | refine wpAny_bind (wpAny_pure ?_) | skip
  refine wpAny_bind (wpAny_sequenceKey ht.typeIs (by decide) ?_)
  refine wpAny_bind (wpAny_callSpecial?_slot (name := Str.ofString "__getitem__") ht.typeIs PyProof.Rows.slot_tuple_getitem
    (wpAny_call_entry PyProof.Rows.slot_tuple_getitem ht.typeIs entry_tuple_getitem ?_ (args_tuple_getitem _ _)))
  show wpAny _ _ (Builtin.Tuple.tupleItemsOf (.ref t) >>= _) _ _ s
  refine wpAny_bind (tupleItemsOf_ ht ?_)
  refine wpAny_bind (wpAny_typeOf hTs ?_)
  rw [if_pos (by decide)]
  refine wpAny_bind (sliceApplied_back hs pl pu ps hsz ?_)
  show wpAny _ _ (if ((1 : Int) == 0 && (-1 : Int) == 1 && 2 == items.size) = true then _ else _) _ _ s
  rw [if_neg (by
    rw [show ((1 : Int) == 0) = false from rfl, Bool.false_and, Bool.false_and]
    exact Bool.false_ne_true)]
  have e : ((List.range 2).filterMap fun (m : Nat) => items[((1 : Int) + (m : Int) * (-1)).toNat]?).toArray = #[y, x] := by
    show ([0, 1].filterMap fun (m : Nat) => items[((1 : Int) + (m : Int) * (-1)).toNat]?).toArray = _
    have e0 : items[((1 : Int) + ((0 : Nat) : Int) * (-1)).toNat]? = some y := hy
    have e1 : items[((1 : Int) + ((1 : Nat) : Int) * (-1)).toNat]? = some x := hx
    simp only [List.filterMap_cons, List.filterMap_nil, e0, e1]
  rw [e]
  first
    | exact wpAny_bind (m := Builtin.Tuple.tupleExact _) (wpAny_newObj_type (wpAny_pure ⟨_, rfl, wpAny_pure h⟩) htake)
    | exact wpAny_bind (m := Builtin.Tuple.tupleExact _) (wpAny_newObj_type (wpAny_bind (wpAny_pure (wpAny_pure ⟨_, rfl, wpAny_pure h⟩))) htake)
    | exact wpAny_bind (wpAny_bind (m := Builtin.Tuple.tupleExact _) (wpAny_newObj_type (wpAny_pure (wpAny_pure ⟨_, rfl, wpAny_pure h⟩)) htake))
    | exact wpAny_bind (wpAny_bind (m := Builtin.Tuple.tupleExact _) (wpAny_newObj_type (wpAny_pure ⟨_, rfl, wpAny_pure h⟩) htake))
end
end HT
namespace Z
open PySem PySem.Spec PyProof.Rows L2
section
variable {X : Cx}
/-- t[1::-1], t of two and more -/
def tBackT (te : TE) : TE := fun σ H Q => te σ H fun x H1 => ∃ a y z r, x = .ref a ∧ H1 a = some (.tup (y :: z :: r)) ∧ ∀ p, H1 p = none → Q (.ref p) (upd H1 p (.tup [z, y]))
theorem pe_backT {e : Expr} {te : TE} {k k0 : Nat} {p0 p1 p2 p3 pos : Pos} (he : PE X e te) : PE X (.Subscript e (.Slice (some (.Constant (.int 1) k0 p0)) none (some (.UnaryOp .USub (.Constant (.int 1) k p1) p2)) p3) pos) (tBackT te) := by
  refine ⟨fun pins s σ H Q I h => ?_⟩
  refine Subscript_ (thn (he.run pins s σ H _ I h) fun v s1 ⟨x, H1, I1, r1, q1⟩ => ?_)
  obtain ⟨a, y, z, r, ex, hx, q⟩ := q1
  subst ex
  cases r1
  have hst : PO X (some (.UnaryOp .USub (.Constant (.int 1) k p1) p2)) (tPart (tUn (rU fun i => .int (-i)) (tC (.int 1)))) := po_some (pe_un un_neg pe_int)
  have hlo : PO X (some (.Constant (.int 1) k0 p0)) (tPart (tC (.int 1))) := po_some pe_int
  refine wpAny_Slice (thn (hlo.run pins s1 σ H1 (fun o H2 => o = some 1 ∧ H2 = H1) I1 ⟨1, rfl, rfl, rfl⟩) fun vl s2 ⟨l, H2, I2, pl, el, e2⟩ => ?_)
  subst el e2
  refine thn (po_none.run pins s2 σ H2 (fun o H3 => o = none ∧ H3 = H2) I2 ⟨rfl, rfl⟩) fun vu s3 ⟨u, H3, I3, pu, eu, e3⟩ => ?_
  subst eu e3
  refine thn (hst.run pins s3 σ H3 (fun o H4 => o = some (-1) ∧ H4 = H3) I3 ⟨1, rfl, -1, rfl, rfl, rfl⟩) fun vs s4 ⟨o, H4, I4, ps, eo, e4⟩ => ?_
  subst eo e4
  have I5 : Inv X pins σ H4 { s4 with heap := s4.heap.push { cls := .type "slice", data := .fields #[vl, vu, vs] } } := I4.kept (t' := s4.toks) fun b ob q => Heap.get?_push_of_some _ q
  obtain ⟨its, rv, ht, hz⟩ := I5.tuple (SqT.of hx)
  cases rv with
  | cons ra rr =>
    cases rr with
    | cons rb rc =>
      show wpAny (model X.prog X.w) X.A (subscriptTail e (.Slice (some (.Constant (.int 1) k0 p0)) none (some (.UnaryOp .USub (.Constant (.int 1) k p1) p2)) p3) (.ref a) (.ref s4.heap.objs.size)) (EP X pins σ Q) X.xe { s4 with heap := s4.heap.push { cls := .type "slice", data := .fields #[vl, vu, vs] } }
      refine tail_any (ops := [.ref a, .ref s4.heap.objs.size]) ht.typeIs PyProof.Rows.slot_tuple_getitem.lookup ?_ (by with_unfolding_all rfl)
      refine HT.getItem_tuple_back ht (Heap.IsSliceOf.new _ vl vu vs) pl pu ps rfl rfl ?_
      refine ⟨.ref _, _, I5.laid (t' := s4.toks) (o := .tup [z, y]) (fun b ob q => Heap.get?_push_of_some _ q) (Nat.le_refl _) ?_, rfl, q _ (I5.hok.fresh (Nat.le_refl _))⟩
      exact ⟨by rw [sizeLine_eq]; show 2 ≤ 16777216; decide, _, .cons rb (.cons ra .nil), IsTup.new _ _⟩
/-- t == () -/
def rEqT0 : R2 := fun x y H Q => ∃ a b xs, x = .ref a ∧ y = .ref b ∧ H a = some (.tup xs) ∧ H b = some (.tup []) ∧ Q (.bl xs.isEmpty) H
theorem op_eqT0 (hu : X.A.units + 64 < cLine) : OpR X (compareOp .Eq) rEqT0 := by
  intro pins s σ H x y v u Q I rx ry h
  obtain ⟨a, b, xs, rfl, rfl, ha, hb, q⟩ := h
  cases rx
  cases ry
  obtain ⟨its, r1, p1, _⟩ := I.tuple (SqT.of ha)
  obtain ⟨its2, r2, p2, _⟩ := I.tuple (SqT.of hb)
  cases r2
  refine PySem.SeqAt.eq_tupleAt (e := fun _ => true) p1 p2 (by omega) (fun j h1 h2 => absurd h2 (Nat.not_lt_zero j)) ?_
  refine ⟨.bl xs.isEmpty, H, I, ?_, q⟩
  have hl := r1.length
  cases xs with
  | nil =>
    cases r1
    rfl
  | cons y r =>
    cases r1
    rfl
/-- a, b = a tracked list -/
def gLstH (n : Nat) (t : TGs) : TG := fun v σ H Q => ∃ a xs, v = .ref a ∧ H a = some (.lst xs) ∧ xs.length = n ∧ t xs σ H Q
theorem pg_lstH {es : List Expr} {k : Nat} {pos : Pos} {t : TGs} {n : Nat} (hc : X.calm = true) (h : PGs X es t)
    (hn : (assignEach es X.env).length = n := by rfl) (hst : (assignEach es X.env).findIdx? (·.1) = none := by rfl) : PG X (.Tuple es k pos) (gLstH n t) := by
  refine ⟨fun pins s σ H v u Q I r hw => (pg_lst hc h hn hst).run pins s σ H v u Q I r ?_⟩
  obtain ⟨a, xs, e1, hq, hl, hw⟩ := hw
  exact ⟨a, xs, e1, SqL.of hq, hl, hw⟩
/-- xs.pop(i), i a place of xs -/
def rPopH : V → List V → Hp → VK → Prop := fun x vs H Q => ∃ l xs i y, x = .ref l ∧ vs = [.int i] ∧ H l = some (.lst xs) ∧ 0 ≤ i ∧ i < 2 ^ 62 ∧ xs[i.toNat]? = some y ∧ Q y (upd H l (.lst (xs.eraseIdx i.toNat)))
theorem mt_popH : MtM X "list.pop" rPopH := by
  intro pins s σ H x vs v us Q I r1 r2 h
  obtain ⟨l, xs, i, y, rfl, rfl, hl, h0, h1, hy, q⟩ := h
  have hlt : i.toNat < xs.length := (List.getElem?_eq_some_iff.mp hy).1
  refine mt_popAt pins s σ H _ _ v us Q I r1 r2 ⟨l, xs, i, i.toNat, y, rfl, rfl, hl, by omega, by omega, ?_, hy, q⟩
  show (if (0 ≤ (if i < 0 then i + (xs.length : Int) else i) && (if i < 0 then i + (xs.length : Int) else i) < (xs.length : Int)) = true then some (if i < 0 then i + (xs.length : Int) else i).toNat else none) = _
  have e : (if i < 0 then i + (xs.length : Int) else i) = i := if_neg (by omega)
  rw [e, if_pos (by rw [Bool.and_eq_true]; exact ⟨decide_eq_true h0, decide_eq_true (by omega)⟩)]
end
/-- a list of pairs held against an empty list -/
theorem ne_prs_nil {K : PySem.W.Frag} {H : Hp} {a b : Addr} {as : List Addr} {ps : List (Int × Int)} {Q : VK} (ha : H a = some (.lst (as.map V.ref))) (pa : Paired (PairAt H) as ps) (hb : H b = some (.lst [])) (q : Q (.bl (!ps.isEmpty)) H) : rNeD K (.ref a) (.ref b) H Q := by
  refine ⟨.list (tupsD (ps.map twoL)), .list [], .lst (SqL.of ha) (dpAll_tups (prs_tups pa)), .lst (SqL.of hb) .nil, shaped_ltups _, shaped_ltups [], ?_⟩
  cases ps with
  | nil => exact q
  | cons p r => exact q
end Z

namespace Zig
/-! zigzag: numbers -/
theorem emod3 {a n : Int} (_ : 0 < n) (h1 : -n ≤ a) (h2 : a < 2 * n) : a % n = if a < 0 then a + n else if a < n then a else a - n := by
  split
  · rw [← Int.add_emod_right, Int.emod_eq_of_lt (by omega) (by omega)]
  · split
    · rw [Int.emod_eq_of_lt (by omega) (by omega)]
    · rw [← Int.sub_emod_right, Int.emod_eq_of_lt (by omega) (by omega)]

def nights (rings : Bool) (n : Int) : Int := if rings then (n - 1) / 2 else n / 2
def personIn (size e i : Int) : Int := (e + (if i % 2 = 1 then (i + 1) / 2 else -((i + 1) / 2))) % size
def indexIn (size e p : Int) : Int := if 0 < (p - e) % size ∧ (p - e) % size ≤ size / 2 then 2 * ((p - e) % size) - 1 else 2 * ((size - (p - e) % size) % size)
def personAt (rings : Bool) (n e i : Int) : Int := if rings then (if i = 0 then n - 1 else personIn (n - 1) e (i - 1)) else personIn n e i
def indexOf (rings : Bool) (n e p : Int) : Int := if rings then (if p = n - 1 then 0 else 1 + indexIn (n - 1) e p) else indexIn n e p
def eveningOf (rings : Bool) (n p q : Int) : Int :=
  if (if rings then n - 1 else n) = p ∨ (if rings then n - 1 else n) = q then (if q < p then q else p) % nights rings n else ((p + q) % (if rings then n - 1 else n)) / 2

/-- e, i -> person, with the halves told -/
theorem personIn_even {k e i : Int} (he : 0 ≤ e) (hek : e < k) (hi : 0 ≤ i) (hik : i < 2 * k) (h : i % 2 = 0) : personIn (2 * k) e i = if e < i / 2 then e - i / 2 + 2 * k else e - i / 2 := by
  unfold personIn
  rw [if_neg (by omega), emod3 (by omega) (by omega) (by omega)]
  split <;> split <;> (try split) <;> omega
theorem personIn_odd {k e i : Int} (he : 0 ≤ e) (hek : e < k) (hi : 0 ≤ i) (hik : i < 2 * k) (h : i % 2 = 1) : personIn (2 * k) e i = e + (i + 1) / 2 := by
  unfold personIn
  rw [if_pos h, emod3 (by omega) (by omega) (by omega)]
  rw [if_neg (by omega), if_pos (by omega)]
theorem personIn_bound {k e i : Int} (hk : 0 < k) : 0 ≤ personIn (2 * k) e i ∧ personIn (2 * k) e i < 2 * k := by
  unfold personIn
  exact ⟨Int.emod_nonneg _ (by omega), Int.emod_lt_of_pos _ (by omega)⟩
/-- the index, with the remainder told -/
theorem indexIn_eq {k e p : Int} (he : 0 ≤ e) (hek : e < k) (hp : 0 ≤ p) (hpk : p < 2 * k) : indexIn (2 * k) e p = if e < p ∧ p ≤ e + k then 2 * (p - e) - 1 else if p ≤ e then 2 * (e - p) else 2 * (e + 2 * k - p) := by
  unfold indexIn
  have e1 : (p - e) % (2 * k) = if p - e < 0 then p - e + 2 * k else p - e := by
    rw [emod3 (by omega) (by omega) (by omega)]
    split
    · rfl
    · rw [if_pos (by omega)]
  rw [e1]
  have e2 : (2 * k) / 2 = k := by omega
  rw [e2]
  have e3 : ∀ x : Int, 0 ≤ x → x < 2 * k → (2 * k - x) % (2 * k) = if x = 0 then 0 else 2 * k - x := by
    intro x h1 h2
    rw [emod3 (by omega) (by omega) (by omega), if_neg (by omega)]
    split
    · rw [if_neg (by omega)]
    · rw [if_pos (by omega)]
      omega
  by_cases h : p - e < 0
  · rw [if_pos h, if_neg (show ¬ (0 < p - e + 2 * k ∧ p - e + 2 * k ≤ k) by omega), e3 _ (by omega) (by omega), if_neg (show ¬ (p - e + 2 * k = 0) by omega), if_neg (show ¬ (e < p ∧ p ≤ e + k) by omega), if_pos (show p ≤ e by omega)]
    omega
  · rw [if_neg h]
    by_cases h2 : 0 < p - e ∧ p - e ≤ k
    · rw [if_pos h2, if_pos (show e < p ∧ p ≤ e + k by omega)]
    · rw [if_neg h2, e3 _ (by omega) (by omega), if_neg (show ¬ (e < p ∧ p ≤ e + k) by omega)]
      split <;> split <;> omega
theorem indexIn_bound {k e p : Int} (he : 0 ≤ e) (hek : e < k) (hp : 0 ≤ p) (hpk : p < 2 * k) : 0 ≤ indexIn (2 * k) e p ∧ indexIn (2 * k) e p < 2 * k := by
  rw [indexIn_eq he hek hp hpk]
  split
  · omega
  · split <;> omega
theorem index_person {k e i : Int} (he : 0 ≤ e) (hek : e < k) (hi : 0 ≤ i) (hik : i < 2 * k) : indexIn (2 * k) e (personIn (2 * k) e i) = i := by
  have hb := personIn_bound (k := k) (e := e) (i := i) (by omega)
  rw [indexIn_eq he hek hb.1 hb.2]
  rcases (by omega : i % 2 = 0 ∨ i % 2 = 1) with h | h
  · rw [personIn_even he hek hi hik h]
    split <;> split <;> (try split) <;> omega
  · rw [personIn_odd he hek hi hik h]
    split <;> (try split) <;> omega
theorem person_index {k e p : Int} (he : 0 ≤ e) (hek : e < k) (hp : 0 ≤ p) (hpk : p < 2 * k) : personIn (2 * k) e (indexIn (2 * k) e p) = p := by
  have hb := indexIn_bound he hek hp hpk
  have e1 := indexIn_eq he hek hp hpk
  by_cases h1 : e < p ∧ p ≤ e + k
  · rw [if_pos h1] at e1
    rw [personIn_odd he hek hb.1 hb.2 (by omega)]
    omega
  · rw [if_neg h1] at e1
    split at e1
    · rw [personIn_even he hek hb.1 hb.2 (by omega)]
      split <;> omega
    · rw [personIn_even he hek hb.1 hb.2 (by omega)]
      split <;> omega
/-- neighbours in the round sum up to 2 e or 2 e + 1 -/
theorem person_sum {k e i : Int} (he : 0 ≤ e) (hek : e < k) (hi : 0 ≤ i) (hik : i + 1 < 2 * k) : ((personIn (2 * k) e i + personIn (2 * k) e (i + 1)) % (2 * k)) / 2 = e := by
  have m : ∀ x : Int, 0 ≤ x → x < 4 * k → x % (2 * k) = if x < 2 * k then x else x - 2 * k := by
    intro x h1 h2
    rw [emod3 (by omega) (by omega) (by omega), if_neg (by omega)]
  rcases (by omega : i % 2 = 0 ∨ i % 2 = 1) with h | h
  · rw [personIn_even he hek hi (by omega) h, personIn_odd he hek (by omega) hik (by omega)]
    split
    · rw [m _ (by omega) (by omega)]
      split <;> omega
    · rw [m _ (by omega) (by omega)]
      split <;> omega
  · rw [personIn_odd he hek hi (by omega) h, personIn_even he hek (by omega) hik (by omega)]
    split
    · rw [m _ (by omega) (by omega)]
      split <;> omega
    · rw [m _ (by omega) (by omega)]
      split <;> omega
/-- on its evening each is beside the other -/
theorem beside_sum {k p q : Int} (hp : 0 ≤ p) (hpk : p < 2 * k) (hq : 0 ≤ q) (hqk : q < 2 * k) (hpq : p ≠ q) :
    indexIn (2 * k) (((p + q) % (2 * k)) / 2) q = indexIn (2 * k) (((p + q) % (2 * k)) / 2) p + 1 ∨ indexIn (2 * k) (((p + q) % (2 * k)) / 2) q = indexIn (2 * k) (((p + q) % (2 * k)) / 2) p - 1 := by
  have e1 : (p + q) % (2 * k) = if p + q < 2 * k then p + q else p + q - 2 * k := by
    rw [emod3 (by omega) (by omega) (by omega), if_neg (by omega)]
  rw [e1]
  by_cases h : p + q < 2 * k
  · simp only [if_pos h]
    rw [indexIn_eq (by omega) (by omega) hp hpk, indexIn_eq (by omega) (by omega) hq hqk]
    split <;> split <;> (try split) <;> (try split) <;> omega
  · simp only [if_neg h]
    rw [indexIn_eq (by omega) (by omega) hp hpk, indexIn_eq (by omega) (by omega) hq hqk]
    split <;> split <;> (try split) <;> (try split) <;> omega
/-! both kinds -/
/-- the indexes beside one -/
def spots (r : Bool) (n i : Int) : List Int := if r then [(i - 1) % n, (i + 1) % n] else [i - 1, i + 1].filter fun j => decide (0 ≤ j ∧ j < n)
def SizeIs (r : Bool) (n k : Int) : Prop := 0 < k ∧ ((r = true ∧ n = 2 * k + 1) ∨ (r = false ∧ n = 2 * k))
theorem SizeIs.nights {r : Bool} {n k : Int} (h : SizeIs r n k) : nights r n = k := by
  obtain ⟨h0, ⟨rfl, h⟩ | ⟨rfl, h⟩⟩ := h
  · show (n - 1) / 2 = k
    omega
  · show n / 2 = k
    omega
theorem spots_in {r : Bool} {n k i j : Int} (h : SizeIs r n k) (hi : 0 ≤ i) (hin : i < n) (hj : j ∈ spots r n i) : 0 ≤ j ∧ j < n ∧ ((j = i - 1 ∧ 0 < i) ∨ (j = i + 1 ∧ i + 1 < n) ∨ (r = true ∧ i = 0 ∧ j = n - 1) ∨ (r = true ∧ i = n - 1 ∧ j = 0)) := by
  obtain ⟨h0, ⟨rfl, h⟩ | ⟨rfl, h⟩⟩ := h
  · simp only [spots, if_true, List.mem_cons, List.not_mem_nil, or_false] at hj
    have e1 : (i - 1) % n = if i = 0 then n - 1 else i - 1 := by
      rw [emod3 (by omega) (by omega) (by omega)]
      split <;> split <;> (try split) <;> omega
    have e2 : (i + 1) % n = if i = n - 1 then 0 else i + 1 := by
      rw [emod3 (by omega) (by omega) (by omega)]
      split <;> split <;> (try split) <;> omega
    rw [e1, e2] at hj
    rcases hj with rfl | rfl
    · split
      · exact ⟨by omega, by omega, .inr (.inr (.inl ⟨rfl, by omega, rfl⟩))⟩
      · exact ⟨by omega, by omega, .inl ⟨rfl, by omega⟩⟩
    · split
      · exact ⟨by omega, by omega, .inr (.inr (.inr ⟨rfl, by omega, rfl⟩))⟩
      · exact ⟨by omega, by omega, .inr (.inl ⟨rfl, by omega⟩)⟩
  · simp only [spots, Bool.false_eq_true, if_false, List.mem_filter, List.mem_cons, List.not_mem_nil, or_false, decide_eq_true_eq] at hj
    obtain ⟨rfl | rfl, h1, h2⟩ := hj
    · exact ⟨h1, h2, .inl ⟨rfl, by omega⟩⟩
    · exact ⟨h1, h2, .inr (.inl ⟨rfl, h2⟩)⟩
theorem spots_ne {r : Bool} {n k i j : Int} (h : SizeIs r n k) (hi : 0 ≤ i) (hin : i < n) (hj : j ∈ spots r n i) : j ≠ i := by
  obtain ⟨_, _, h1⟩ := spots_in h hi hin hj
  obtain ⟨h0, ⟨rfl, h⟩ | ⟨rfl, h⟩⟩ := h
  · omega
  · omega
theorem at_bound {r : Bool} {n k e i : Int} (h : SizeIs r n k) (he : 0 ≤ e) (hek : e < k) (hi : 0 ≤ i) (hin : i < n) : 0 ≤ personAt r n e i ∧ personAt r n e i < n := by
  obtain ⟨h0, ⟨rfl, rfl⟩ | ⟨rfl, rfl⟩⟩ := h
  · unfold personAt
    rw [if_pos rfl]
    split
    · omega
    · have := personIn_bound (k := k) (e := e) (i := i - 1) h0
      rw [show 2 * k + 1 - 1 = 2 * k by omega]
      omega
  · exact personIn_bound h0
theorem index_at {r : Bool} {n k e i : Int} (h : SizeIs r n k) (he : 0 ≤ e) (hek : e < k) (hi : 0 ≤ i) (hin : i < n) : indexOf r n e (personAt r n e i) = i := by
  obtain ⟨h0, ⟨rfl, rfl⟩ | ⟨rfl, rfl⟩⟩ := h
  · unfold personAt indexOf
    rw [if_pos rfl, if_pos rfl]
    by_cases c : i = 0
    · rw [if_pos c, if_pos rfl, c]
    · rw [if_neg c, show 2 * k + 1 - 1 = 2 * k by omega]
      have hb := personIn_bound (k := k) (e := e) (i := i - 1) h0
      rw [if_neg (by omega), index_person he hek (by omega) (by omega)]
      omega
  · exact index_person he hek hi hin
theorem index_bound {r : Bool} {n k e p : Int} (h : SizeIs r n k) (he : 0 ≤ e) (hek : e < k) (hp : 0 ≤ p) (hpn : p < n) : 0 ≤ indexOf r n e p ∧ indexOf r n e p < n := by
  obtain ⟨h0, ⟨rfl, rfl⟩ | ⟨rfl, rfl⟩⟩ := h
  · unfold indexOf
    rw [if_pos rfl]
    split
    · omega
    · have := indexIn_bound (k := k) (e := e) (p := p) he hek hp (by omega)
      rw [show 2 * k + 1 - 1 = 2 * k by omega]
      omega
  · exact indexIn_bound he hek hp hpn
theorem at_index {r : Bool} {n k e p : Int} (h : SizeIs r n k) (he : 0 ≤ e) (hek : e < k) (hp : 0 ≤ p) (hpn : p < n) : personAt r n e (indexOf r n e p) = p := by
  obtain ⟨h0, ⟨rfl, rfl⟩ | ⟨rfl, rfl⟩⟩ := h
  · unfold personAt indexOf
    rw [if_pos rfl, if_pos rfl]
    by_cases c : p = 2 * k + 1 - 1
    · rw [if_pos c, if_pos rfl, c]
    · rw [if_neg c]
      have hb := indexIn_bound (k := k) (e := e) (p := p) he hek hp (by omega)
      rw [show 2 * k + 1 - 1 = 2 * k by omega, if_neg (by omega), show 1 + indexIn (2 * k) e p - 1 = indexIn (2 * k) e p by omega, person_index he hek hp (by omega)]
  · exact person_index he hek hp hpn
theorem evening_comm (r : Bool) (n p q : Int) : eveningOf r n p q = eveningOf r n q p := by
  unfold eveningOf
  rw [Int.add_comm q p]
  by_cases c : (if r = true then n - 1 else n) = p ∨ (if r = true then n - 1 else n) = q
  · rw [if_pos c, if_pos (Or.symm c)]
    by_cases d : q < p
    · rw [if_pos d, if_neg (by omega)]
    · rw [if_neg d]
      by_cases d2 : p < q
      · rw [if_pos d2]
      · rw [if_neg d2, show p = q by omega]
  · rw [if_neg c, if_neg (fun z => c (Or.symm z))]
/-- two beside one another in the round have this evening -/
theorem evening_round {r : Bool} {n k p q : Int} (h : SizeIs r n k) (hp : 0 ≤ p) (hpk : p < 2 * k) (hq : 0 ≤ q) (hqk : q < 2 * k) : eveningOf r n p q = ((p + q) % (2 * k)) / 2 := by
  unfold eveningOf
  obtain ⟨h0, ⟨rfl, rfl⟩ | ⟨rfl, rfl⟩⟩ := h
  · simp only [if_true]
    rw [if_neg (by omega), show 2 * k + 1 - 1 = 2 * k by omega]
  · simp only [Bool.false_eq_true, if_false]
    rw [if_neg (by omega)]
theorem evening_door {n k p : Int} (h : SizeIs true n k) (hp : 0 ≤ p) (hpk : p < 2 * k) : eveningOf true n p (n - 1) = p % k := by
  have hn := h.nights
  unfold eveningOf
  simp only [if_true]
  rw [if_pos (.inr trivial), hn]
  obtain ⟨h0, ⟨_, h⟩ | ⟨h, _⟩⟩ := h
  · rw [if_neg (by omega)]
  · cases h
/-- on the evening, one and the one at the next index -/
theorem evening_next {r : Bool} {n k e i : Int} (h : SizeIs r n k) (he : 0 ≤ e) (hek : e < k) (hi : 0 ≤ i) (hin : i + 1 < n) : eveningOf r n (personAt r n e i) (personAt r n e (i + 1)) = e := by
  cases r with
  | true =>
    have h' := h
    obtain ⟨h0, ⟨_, rfl⟩ | ⟨h1, _⟩⟩ := h
    · by_cases c : i = 0
      · subst c
        have e1 : personAt true (2 * k + 1) e 0 = 2 * k + 1 - 1 := by
          unfold personAt
          rw [if_pos rfl, if_pos rfl]
        have e2 : personAt true (2 * k + 1) e (0 + 1) = e := by
          unfold personAt
          rw [if_pos rfl, if_neg (by omega), show 2 * k + 1 - 1 = 2 * k by omega, show (0 : Int) + 1 - 1 = 0 by omega, personIn_even he hek (by omega) (by omega) (by omega), if_neg (by omega)]
          omega
        rw [e1, e2, evening_comm, evening_door h' he (by omega), Int.emod_eq_of_lt he hek]
      · have e1 : ∀ j, 0 < j → personAt true (2 * k + 1) e j = personIn (2 * k) e (j - 1) := by
          intro j hj
          unfold personAt
          rw [if_pos rfl, if_neg (by omega), show 2 * k + 1 - 1 = 2 * k by omega]
        rw [e1 i (by omega), e1 (i + 1) (by omega)]
        have b1 := personIn_bound (k := k) (e := e) (i := i - 1) h0
        have b2 := personIn_bound (k := k) (e := e) (i := i + 1 - 1) h0
        rw [evening_round h' b1.1 b1.2 b2.1 b2.2]
        have := person_sum (k := k) (e := e) (i := i - 1) he hek (by omega) (by omega)
        rw [show i - 1 + 1 = i + 1 - 1 by omega] at this
        exact this
    · cases h1
  | false =>
    have h' := h
    obtain ⟨h0, ⟨h1, _⟩ | ⟨_, rfl⟩⟩ := h
    · cases h1
    · have b1 := personIn_bound (k := k) (e := e) (i := i) h0
      have b2 := personIn_bound (k := k) (e := e) (i := i + 1) h0
      show eveningOf false (2 * k) (personIn (2 * k) e i) (personIn (2 * k) e (i + 1)) = e
      rw [evening_round h' b1.1 b1.2 b2.1 b2.2]
      exact person_sum he hek hi hin
/-- the last one and the first one of a ring -/
theorem evening_close {n k e : Int} (h : SizeIs true n k) (he : 0 ≤ e) (hek : e < k) : eveningOf true n (personAt true n e (n - 1)) (personAt true n e 0) = e := by
  have h' := h
  obtain ⟨h0, ⟨_, rfl⟩ | ⟨h1, _⟩⟩ := h
  · have e1 : personAt true (2 * k + 1) e 0 = 2 * k + 1 - 1 := by
      unfold personAt
      rw [if_pos rfl, if_pos rfl]
    have e2 : personAt true (2 * k + 1) e (2 * k + 1 - 1) = e + k := by
      unfold personAt
      rw [if_pos rfl, if_neg (by omega), show 2 * k + 1 - 1 = 2 * k by omega, personIn_odd he hek (by omega) (by omega) (by omega)]
      omega
    rw [e1, e2, evening_door h' (by omega) (by omega)]
    rw [Int.add_emod_right, Int.emod_eq_of_lt he hek]
  · cases h1
theorem evening_spot {r : Bool} {n k e i j : Int} (h : SizeIs r n k) (he : 0 ≤ e) (hek : e < k) (hi : 0 ≤ i) (hin : i < n) (hj : j ∈ spots r n i) : eveningOf r n (personAt r n e i) (personAt r n e j) = e := by
  obtain ⟨_, _, h1 | h1 | h1 | h1⟩ := spots_in h hi hin hj
  · obtain ⟨rfl, h1⟩ := h1
    rw [evening_comm]
    have := evening_next h he hek (i := i - 1) (by omega) (by omega)
    rw [show i - 1 + 1 = i by omega] at this
    exact this
  · obtain ⟨rfl, h1⟩ := h1
    exact evening_next h he hek hi h1
  · obtain ⟨rfl, rfl, rfl⟩ := h1
    rw [evening_comm]
    exact evening_close h he hek
  · obtain ⟨rfl, rfl, rfl⟩ := h1
    exact evening_close h he hek
theorem spot_of {r : Bool} {n k i j : Int} (h : SizeIs r n k) (hi : 0 ≤ i) (hin : i < n) (hj : 0 ≤ j) (hjn : j < n) (c : j = i + 1 ∨ j = i - 1 ∨ (r = true ∧ i = 0 ∧ j = n - 1) ∨ (r = true ∧ i = n - 1 ∧ j = 0)) : j ∈ spots r n i := by
  obtain ⟨h0, ⟨rfl, h⟩ | ⟨rfl, h⟩⟩ := h
  · simp only [spots, if_true, List.mem_cons, List.not_mem_nil, or_false]
    have e1 : (i - 1) % n = if i = 0 then n - 1 else i - 1 := by
      rw [emod3 (by omega) (by omega) (by omega)]
      split <;> split <;> (try split) <;> omega
    have e2 : (i + 1) % n = if i = n - 1 then 0 else i + 1 := by
      rw [emod3 (by omega) (by omega) (by omega)]
      split <;> split <;> (try split) <;> omega
    rw [e1, e2]
    rcases c with c | c | c | c
    · right
      rw [if_neg (by omega)]
      exact c
    · left
      rw [if_neg (by omega)]
      exact c
    · left
      rw [if_pos c.2.1]
      exact c.2.2
    · right
      rw [if_pos c.2.1]
      exact c.2.2
  · simp only [spots, Bool.false_eq_true, if_false, List.mem_filter, List.mem_cons, List.not_mem_nil, or_false, decide_eq_true_eq]
    rcases c with c | c | c | c
    · exact ⟨.inr c, hj, hjn⟩
    · exact ⟨.inl c, hj, hjn⟩
    · cases c.1
    · cases c.1
/-- unlike people are beside one another on their evening -/
theorem evening_beside {r : Bool} {n k p q : Int} (h : SizeIs r n k) (hp : 0 ≤ p) (hpn : p < n) (hq : 0 ≤ q) (hqn : q < n) (hpq : p ≠ q) :
    0 ≤ eveningOf r n p q ∧ eveningOf r n p q < k ∧ indexOf r n (eveningOf r n p q) q ∈ spots r n (indexOf r n (eveningOf r n p q) p) := by
  have h' := h
  have door : ∀ x, r = true → 0 ≤ x → x < 2 * k → n = 2 * k + 1 → 0 ≤ eveningOf r n x (n - 1) ∧ eveningOf r n x (n - 1) < k ∧
      indexOf r n (eveningOf r n x (n - 1)) (n - 1) = 0 ∧ (indexOf r n (eveningOf r n x (n - 1)) x = 1 ∨ indexOf r n (eveningOf r n x (n - 1)) x = n - 1) := by
    rintro x rfl h1 h2 rfl
    rw [evening_door h' h1 h2]
    have hk : 0 < k := h'.1
    have m1 := Int.emod_nonneg x (show k ≠ 0 by omega)
    have m2 := Int.emod_lt_of_pos x hk
    refine ⟨m1, m2, ?_, ?_⟩
    · unfold indexOf
      rw [if_pos rfl, if_pos rfl]
    · unfold indexOf
      rw [if_pos rfl, if_neg (by omega), show 2 * k + 1 - 1 = 2 * k by omega, indexIn_eq m1 m2 h1 h2]
      have m3 : x % k = if x < k then x else x - k := by
        rw [emod3 hk (by omega) (by omega), if_neg (by omega)]
      rw [m3]
      by_cases c : x < k
      · rw [if_pos c]
        left
        rw [if_neg (by omega), if_pos (by omega)]
        omega
      · rw [if_neg c]
        right
        rw [if_pos (by omega)]
        omega
  by_cases cp : p < 2 * k
  · by_cases cq : q < 2 * k
    · rw [evening_round h hp cp hq cq]
      have hk : 0 < k := h.1
      have e1 : (p + q) % (2 * k) = if p + q < 2 * k then p + q else p + q - 2 * k := by
        rw [emod3 (by omega) (by omega) (by omega), if_neg (by omega)]
      have he0 : 0 ≤ ((p + q) % (2 * k)) / 2 ∧ ((p + q) % (2 * k)) / 2 < k := by
        rw [e1]
        split <;> omega
      refine ⟨he0.1, he0.2, ?_⟩
      have hi := index_bound h he0.1 he0.2 hp hpn
      have hj := index_bound h he0.1 he0.2 hq hqn
      refine spot_of h hi.1 hi.2 hj.1 hj.2 ?_
      have hs := beside_sum hp cp hq cq hpq
      obtain ⟨_, ⟨rfl, rfl⟩ | ⟨rfl, rfl⟩⟩ := h
      · unfold indexOf
        rw [if_pos rfl, if_pos rfl, if_neg (by omega), if_neg (by omega), show 2 * k + 1 - 1 = 2 * k by omega]
        omega
      · show indexIn (2 * k) _ q = indexIn (2 * k) _ p + 1 ∨ _
        rcases hs with hs | hs
        · exact .inl hs
        · exact .inr (.inl hs)
    · obtain ⟨h0, ⟨hr, hn⟩ | ⟨_, hn⟩⟩ := h
      · have eq : q = n - 1 := by omega
        subst eq
        obtain ⟨d1, d2, d3, d4⟩ := door p hr hp cp hn
        refine ⟨d1, d2, ?_⟩
        rw [d3]
        rcases d4 with d4 | d4
        · rw [d4]
          exact spot_of h' (by omega) (by omega) (by omega) (by omega) (.inr (.inl rfl))
        · rw [d4]
          exact spot_of h' (by omega) (by omega) (by omega) (by omega) (.inr (.inr (.inr ⟨hr, rfl, rfl⟩)))
      · omega
  · obtain ⟨h0, ⟨hr, hn⟩ | ⟨_, hn⟩⟩ := h
    · have eq : p = n - 1 := by omega
      subst eq
      rw [evening_comm]
      obtain ⟨d1, d2, d3, d4⟩ := door q hr hq (by omega) hn
      refine ⟨d1, d2, ?_⟩
      rw [d3]
      rcases d4 with d4 | d4
      · rw [d4]
        exact spot_of h' (by omega) (by omega) (by omega) (by omega) (.inl rfl)
      · rw [d4]
        exact spot_of h' (by omega) (by omega) (by omega) (by omega) (.inr (.inr (.inl ⟨hr, rfl, rfl⟩)))
    · omega
end Zig

/-! The zigzag is a party: its neighbours are all pairs, each once. Plain lists, no program in sight. -/
namespace Zig
def ups (n : Int) : List Int := (List.range n.toNat).map fun (i : Nat) => (i : Int)
theorem mem_ups {n i : Int} : i ∈ ups n ↔ 0 ≤ i ∧ i < n := by
  unfold ups
  rw [List.mem_map]
  constructor
  · rintro ⟨k, hk, rfl⟩
    have := List.mem_range.mp hk
    omega
  · rintro ⟨h1, h2⟩
    exact ⟨i.toNat, List.mem_range.mpr (by omega), by omega⟩
theorem ups_len (n : Int) : (ups n).length = n.toNat := by
  unfold ups
  rw [List.length_map, List.length_range]
theorem ups_lt (n : Int) : (ups n).Pairwise (· < ·) := by
  unfold ups
  rw [List.pairwise_map]
  exact List.pairwise_lt_range.imp fun h => by omega
theorem ups_get {n : Int} {i : Nat} (h : (i : Int) < n) : (ups n)[i]? = some (i : Int) := by
  unfold ups
  rw [List.getElem?_map, List.getElem?_range (by omega)]
  rfl
theorem ups_succ (i : Nat) : ups ((i : Int) + 1) = ups i ++ [(i : Int)] := by
  unfold ups
  rw [show ((i : Int) + 1).toNat = i + 1 by omega, show (i : Int).toNat = i by omega, List.range_succ, List.map_append]
  rfl
theorem ups_cons {n : Int} (h : 1 ≤ n) : ups n = 0 :: (ups (n - 1)).map (· + 1) := by
  unfold ups
  rw [show n.toNat = (n - 1).toNat + 1 by omega, List.range_succ_eq_map, List.map_cons, List.map_map, List.map_map]
  rfl
theorem personIn_step {z e k : Int} (hk : 1 ≤ k) : (personIn z e (k - 1) + (if k % 2 = 1 then k else -k)) % z = personIn z e k := by
  unfold personIn
  rw [Int.emod_add_emod]
  congr 1
  (repeat' split) <;> omega
theorem personIn_zero {z e : Int} (h0 : 0 ≤ e) (h1 : e < z) : personIn z e 0 = e := by
  unfold personIn
  rw [if_neg (by decide)]
  show (e + -0) % z = e
  rw [show e + -0 = e by omega, Int.emod_eq_of_lt h0 h1]
def evL (r : Bool) (n e : Int) : List Int := (ups n).map (personAt r n e)
theorem evL_len (r : Bool) (n e : Int) : (evL r n e).length = n.toNat := by
  unfold evL
  rw [List.length_map, ups_len]
theorem evL_get {r : Bool} {n e : Int} {i : Nat} (h : (i : Int) < n) : (evL r n e)[i]? = some (personAt r n e i) := by
  unfold evL
  rw [List.getElem?_map, ups_get h]
  rfl
theorem evL_rings {n e : Int} (h : 1 ≤ n) : evL true n e = [n - 1] ++ (ups (n - 1)).map (personIn (n - 1) e) := by
  unfold evL
  rw [ups_cons h, List.map_cons, List.map_map]
  show _ :: _ = _ :: _
  congr 1
  refine List.map_congr_left fun i hi => ?_
  have := mem_ups.mp hi
  show personAt true n e (i + 1) = _
  unfold personAt
  rw [if_pos rfl, if_neg (by omega), show i + 1 - 1 = i by omega]
theorem evL_rows (n e : Int) : evL false n e = (ups n).map (personIn n e) := by
  unfold evL
  refine List.map_congr_left fun i hi => ?_
  unfold personAt
  rw [if_neg Bool.false_ne_true]
def mm (a b : Int) : Int × Int := (if b < a then b else a, if b > a then b else a)
theorem mm_eq {a b c d : Int} (h : mm a b = mm c d) : (a = c ∧ b = d) ∨ (a = d ∧ b = c) := by
  unfold mm at h
  rw [Prod.mk.injEq] at h
  obtain ⟨h1, h2⟩ := h
  revert h1 h2
  split <;> split <;> split <;> split <;> omega
theorem mm_comm (a b : Int) : mm a b = mm b a := by
  unfold mm
  rw [Prod.mk.injEq]
  constructor
  · split <;> split <;> omega
  · split <;> split <;> omega
/-- the neighbours of an evening, as the law takes them -/
def nbs (r : Bool) (n e : Int) : List (Int × Int) := ((ups (n - 1)).map fun k => mm (personAt r n e k) (personAt r n e (k + 1))) ++ if r then [mm (personAt r n e 0) (personAt r n e (n - 1))] else []
/-- all pairs -/
def rowP (n k : Int) : List (Int × Int) := ((ups (n - (k + 1))).map fun j => (k, k + 1 + j))
def prs (n : Int) : List (Int × Int) := (ups n).flatMap (rowP n)
theorem mem_rowP {n k : Int} {p : Int × Int} (hk : 0 ≤ k) : p ∈ rowP n k ↔ p.1 = k ∧ k < p.2 ∧ p.2 < n := by
  obtain ⟨a, b⟩ := p
  unfold rowP
  simp only [List.mem_map, mem_ups, Prod.mk.injEq]
  constructor
  · rintro ⟨j, h, rfl, rfl⟩
    omega
  · rintro ⟨rfl, h1, h2⟩
    exact ⟨b - a - 1, by omega, rfl, by omega⟩
theorem mem_prs {n : Int} {p : Int × Int} : p ∈ prs n ↔ 0 ≤ p.1 ∧ p.1 < p.2 ∧ p.2 < n := by
  unfold prs
  rw [List.mem_flatMap]
  constructor
  · rintro ⟨k, hk, h⟩
    have := mem_ups.mp hk
    have := (mem_rowP this.1).mp h
    omega
  · intro h
    exact ⟨p.1, mem_ups.mpr (by omega), (mem_rowP h.1).mpr (by omega)⟩
theorem prs_lex (n : Int) : (prs n).Pairwise fun p q => p.1 < q.1 ∨ (p.1 = q.1 ∧ p.2 < q.2) := by
  unfold prs
  rw [List.pairwise_flatMap]
  constructor
  · intro k hk
    unfold rowP
    rw [List.pairwise_map]
    exact (ups_lt _).imp fun h => by
      right
      dsimp only
      omega
  · refine (ups_lt n).imp_of_mem fun {a b} ha hb h => ?_
    intro x hx y hy
    have h1 := (mem_rowP (mem_ups.mp ha).1).mp hx
    have h2 := (mem_rowP (mem_ups.mp hb).1).mp hy
    left
    omega
section
variable {r : Bool} {n k : Int}
theorem at_inj (h : SizeIs r n k) {e i j : Int} (he : 0 ≤ e) (hek : e < k) (hi : 0 ≤ i) (hin : i < n) (hj : 0 ≤ j) (hjn : j < n) (q : personAt r n e i = personAt r n e j) : i = j := by
  have h1 := index_at h he hek hi hin
  rw [q, index_at h he hek hj hjn] at h1
  exact h1.symm
theorem size_two (h : SizeIs r n k) : 2 ≤ n ∧ (r = true → 3 ≤ n) := by
  obtain ⟨h0, ⟨a, b⟩ | ⟨a, b⟩⟩ := h
  · exact ⟨by omega, fun _ => by omega⟩
  · refine ⟨by omega, fun c => ?_⟩
    rw [a] at c
    cases c
theorem mem_nbs {e : Int} {p : Int × Int} : p ∈ nbs r n e ↔ (∃ i, 0 ≤ i ∧ i + 1 < n ∧ p = mm (personAt r n e i) (personAt r n e (i + 1))) ∨ (r = true ∧ p = mm (personAt r n e 0) (personAt r n e (n - 1))) := by
  unfold nbs
  rw [List.mem_append, List.mem_map]
  constructor
  · rintro (⟨i, hi, rfl⟩ | h)
    · have := mem_ups.mp hi
      exact .inl ⟨i, this.1, by omega, rfl⟩
    · right
      cases r
      · exact absurd h List.not_mem_nil
      · exact ⟨rfl, List.mem_singleton.mp h⟩
  · rintro (⟨i, h0, h1, rfl⟩ | ⟨rfl, rfl⟩)
    · exact .inl ⟨i, mem_ups.mpr (by omega), rfl⟩
    · exact .inr (List.mem_singleton.mpr rfl)
/-- a pair of neighbours: two people beside one another, in order -/
theorem nbs_spot (h : SizeIs r n k) {e : Int} {p : Int × Int} (hp : p ∈ nbs r n e) : ∃ i j, 0 ≤ i ∧ i < n ∧ 0 ≤ j ∧ j < n ∧ j ∈ spots r n i ∧ p = mm (personAt r n e i) (personAt r n e j) := by
  have h2 := size_two h
  rcases mem_nbs.mp hp with ⟨i, h0, h1, rfl⟩ | ⟨hr, rfl⟩
  · exact ⟨i, i + 1, h0, by omega, by omega, h1, spot_of h h0 (by omega) (by omega) h1 (.inl rfl), rfl⟩
  · exact ⟨0, n - 1, by omega, by omega, by omega, by omega, spot_of h (by omega) (by omega) (by omega) (by omega) (.inr (.inr (.inl ⟨hr, rfl, rfl⟩))), rfl⟩
theorem spot_nbs (h : SizeIs r n k) {e i j : Int} (hi : 0 ≤ i) (hin : i < n) (hj : j ∈ spots r n i) : mm (personAt r n e i) (personAt r n e j) ∈ nbs r n e := by
  have h2 := size_two h
  obtain ⟨j0, j1, c⟩ := spots_in h hi hin hj
  rcases c with ⟨rfl, c⟩ | ⟨rfl, c⟩ | ⟨hr, rfl, rfl⟩ | ⟨hr, rfl, rfl⟩
  · refine mem_nbs.mpr (.inl ⟨i - 1, by omega, by omega, ?_⟩)
    rw [mm_comm, show i - 1 + 1 = i by omega]
  · exact mem_nbs.mpr (.inl ⟨i, hi, by omega, rfl⟩)
  · exact mem_nbs.mpr (.inr ⟨hr, rfl⟩)
  · exact mem_nbs.mpr (.inr ⟨hr, mm_comm _ _⟩)
theorem mm_lt {a b : Int} (h : a ≠ b) : (mm a b).1 < (mm a b).2 ∧ ((mm a b = (a, b)) ∨ (mm a b = (b, a))) := by
  unfold mm
  dsimp only
  by_cases c : b < a
  · rw [if_pos c, if_neg (by omega)]
    exact ⟨c, .inr rfl⟩
  · rw [if_neg c, if_pos (by omega)]
    exact ⟨by omega, .inl rfl⟩
theorem nbs_evening (h : SizeIs r n k) {e : Int} (he : 0 ≤ e) (hek : e < k) {p : Int × Int} (hp : p ∈ nbs r n e) : eveningOf r n p.1 p.2 = e ∧ 0 ≤ p.1 ∧ p.1 < p.2 ∧ p.2 < n := by
  obtain ⟨i, j, i0, i1, j0, j1, hj, rfl⟩ := nbs_spot h hp
  have ne : personAt r n e i ≠ personAt r n e j := fun z => spots_ne h i0 i1 hj (at_inj h he hek i0 i1 j0 j1 z).symm
  have b1 := at_bound h he hek i0 i1
  have b2 := at_bound h he hek j0 j1
  have es := evening_spot h he hek i0 i1 hj
  obtain ⟨lt, c⟩ := mm_lt ne
  refine ⟨?_, ?_, lt, ?_⟩
  · rcases c with c | c
    · rw [c]
      exact es
    · rw [c, evening_comm]
      exact es
  · rcases c with c | c <;> rw [c] <;> omega
  · rcases c with c | c <;> rw [c] <;> omega
theorem nbs_nodup (h : SizeIs r n k) {e : Int} (he : 0 ≤ e) (hek : e < k) : (nbs r n e).Nodup := by
  have h2 := size_two h
  unfold nbs
  rw [List.nodup_append]
  refine ⟨?_, ?_, ?_⟩
  · refine List.pairwise_map.mpr ((ups_lt _).imp_of_mem fun {a b} ha hb hab q => ?_)
    have a1 := mem_ups.mp ha
    have b1 := mem_ups.mp hb
    rcases mm_eq q with ⟨c, _⟩ | ⟨c, d⟩
    · have := at_inj h he hek a1.1 (by omega) b1.1 (by omega) c
      omega
    · have := at_inj h he hek a1.1 (by omega) (by omega) (by omega) c
      omega
  · cases r
    · exact List.nodup_nil
    · exact List.nodup_cons.mpr ⟨List.not_mem_nil, List.nodup_nil⟩
  · intro a ha b hb q
    cases r
    · exact absurd hb List.not_mem_nil
    · rw [if_pos rfl, List.mem_singleton] at hb
      obtain ⟨i, hi, e1⟩ := List.mem_map.mp ha
      have a1 := mem_ups.mp hi
      have h3 := h2.2 rfl
      rw [hb] at q
      rw [← e1] at q
      rcases mm_eq q with ⟨c, d⟩ | ⟨c, d⟩
      · have := at_inj h he hek a1.1 (by omega) (by omega) (by omega) c
        have := at_inj h he hek (by omega) (by omega) (by omega) (by omega) d
        omega
      · have := at_inj h he hek a1.1 (by omega) (by omega) (by omega) c
        have := at_inj h he hek (by omega) (by omega) (by omega) (by omega) d
        omega
/-- all neighbours of all evenings -/
def allN (r : Bool) (n k : Int) : List (Int × Int) := (ups k).flatMap (nbs r n)
theorem allN_nodup (h : SizeIs r n k) : (allN r n k).Nodup := by
  unfold allN
  refine List.pairwise_flatMap.mpr ⟨fun e he => nbs_nodup h (mem_ups.mp he).1 (mem_ups.mp he).2, ?_⟩
  refine (ups_lt k).imp_of_mem fun {a b} ha hb hab => ?_
  intro x hx y hy q
  have a1 := mem_ups.mp ha
  have b1 := mem_ups.mp hb
  have e1 := (nbs_evening h a1.1 a1.2 hx).1
  have e2 := (nbs_evening h b1.1 b1.2 hy).1
  rw [q] at e1
  omega
theorem allN_mem (h : SizeIs r n k) (p : Int × Int) : p ∈ allN r n k ↔ p ∈ prs n := by
  rw [mem_prs]
  unfold allN
  rw [List.mem_flatMap]
  constructor
  · rintro ⟨e, he, hp⟩
    exact (nbs_evening h (mem_ups.mp he).1 (mem_ups.mp he).2 hp).2
  · rintro ⟨h0, h1, h2⟩
    obtain ⟨e0, e1, hs⟩ := evening_beside h h0 (by omega) (by omega) h2 (show p.1 ≠ p.2 by omega)
    refine ⟨eveningOf r n p.1 p.2, mem_ups.mpr ⟨e0, e1⟩, ?_⟩
    have b := index_bound h e0 e1 h0 (by omega)
    have m := spot_nbs (e := eveningOf r n p.1 p.2) h b.1 b.2 hs
    rw [at_index h e0 e1 h0 (by omega), at_index h e0 e1 (by omega) h2] at m
    have e : mm p.1 p.2 = p := by
      unfold mm
      rw [if_neg (by omega), if_pos (by omega)]
    rw [e] at m
    exact m
theorem prs_nodup (n : Int) : (prs n).Nodup := (prs_lex n).imp fun h e => by
  rw [e] at h
  omega
theorem allN_perm (h : SizeIs r n k) : (allN r n k).Perm (prs n) := (List.perm_ext_iff_of_nodup (allN_nodup h) (prs_nodup n)).mpr (allN_mem h)
/-- an evening is an order of all people -/
theorem evL_nodup (h : SizeIs r n k) {e : Int} (he : 0 ≤ e) (hek : e < k) : (evL r n e).Nodup := by
  unfold evL
  refine List.pairwise_map.mpr ((ups_lt _).imp_of_mem fun {a b} ha hb hab q => ?_)
  have a1 := mem_ups.mp ha
  have b1 := mem_ups.mp hb
  have := at_inj h he hek a1.1 a1.2 b1.1 b1.2 q
  omega
theorem evL_mem (h : SizeIs r n k) {e : Int} (he : 0 ≤ e) (hek : e < k) (p : Int) : p ∈ evL r n e ↔ 0 ≤ p ∧ p < n := by
  unfold evL
  rw [List.mem_map]
  constructor
  · rintro ⟨i, hi, rfl⟩
    exact at_bound h he hek (mem_ups.mp hi).1 (mem_ups.mp hi).2
  · rintro ⟨h0, h1⟩
    have b := index_bound h he hek h0 h1
    exact ⟨_, mem_ups.mpr b, at_index h he hek h0 h1⟩
theorem ups_nodup (n : Int) : (ups n).Nodup := (ups_lt n).imp fun h e => by omega
theorem evL_perm (h : SizeIs r n k) {e : Int} (he : 0 ≤ e) (hek : e < k) : (evL r n e).Perm (ups n) := (List.perm_ext_iff_of_nodup (evL_nodup h he hek) (ups_nodup n)).mpr fun p => by
  rw [evL_mem h he hek, mem_ups]
theorem mm_sum (a b : Int) : (mm a b).1 + (mm a b).2 = a + b := by
  unfold mm
  dsimp only
  split <;> split <;> omega
theorem mm_has (p a b : Int) : (p = (mm a b).1 ∨ p = (mm a b).2) ↔ (p = a ∨ p = b) := by
  unfold mm
  dsimp only
  split <;> split <;> omega
theorem spots_symm (h : SizeIs r n k) {i j : Int} (hi : 0 ≤ i) (hin : i < n) (hj : j ∈ spots r n i) : i ∈ spots r n j := by
  obtain ⟨j0, j1, c⟩ := spots_in h hi hin hj
  refine spot_of h j0 j1 hi hin ?_
  rcases c with ⟨c, _⟩ | ⟨c, _⟩ | ⟨c, d, e⟩ | ⟨c, d, e⟩
  · left; omega
  · right; left; omega
  · right; right; right; exact ⟨c, e, d⟩
  · right; right; left; exact ⟨c, e, d⟩
/-- the ones beside a person, by the pairs with it -/
def matesL (r : Bool) (n e p : Int) : List Int := (nbs r n e).filterMap fun q => if p = q.1 ∨ p = q.2 then some (q.1 + q.2 - p) else none
theorem spots_nodup (h : SizeIs r n k) {i : Int} (hi : 0 ≤ i) (hin : i < n) : (spots r n i).Nodup := by
  have h2 := size_two h
  unfold spots
  cases r
  · rw [if_neg Bool.false_ne_true]
    refine List.Pairwise.filter _ ?_
    refine List.nodup_cons.mpr ⟨fun q => ?_, List.nodup_cons.mpr ⟨List.not_mem_nil, List.nodup_nil⟩⟩
    have := List.mem_singleton.mp q
    omega
  · rw [if_pos rfl]
    refine List.nodup_cons.mpr ⟨fun q => ?_, List.nodup_cons.mpr ⟨List.not_mem_nil, List.nodup_nil⟩⟩
    have q' := List.mem_singleton.mp q
    have h3 := h2.2 rfl
    rw [emod3 (by omega) (by omega) (by omega), emod3 (by omega) (by omega) (by omega)] at q'
    revert q'
    (repeat' split) <;> omega
theorem mates_perm (h : SizeIs r n k) {e i : Int} (he : 0 ≤ e) (hek : e < k) (hi : 0 ≤ i) (hin : i < n) :
    (matesL r n e (personAt r n e i)).Perm ((spots r n i).map (personAt r n e)) := by
  refine (List.perm_ext_iff_of_nodup ?_ ?_).mpr fun q => ?_
  · unfold matesL
    refine List.pairwise_filterMap.mpr ((nbs_nodup h he hek).imp_of_mem ?_)
    intro a b ha hb ne x hx y hy q
    refine ne ?_
    have a3 := (nbs_evening h he hek ha).2.2.1
    have b3 := (nbs_evening h he hek hb).2.2.1
    obtain ⟨a1, a2⟩ := a
    obtain ⟨b1, b2⟩ := b
    dsimp only at *
    rw [Prod.mk.injEq]
    generalize personAt r n e i = p at *
    by_cases c1 : p = a1 ∨ p = a2
    · by_cases c2 : p = b1 ∨ p = b2
      · rw [if_pos c1] at hx
        rw [if_pos c2] at hy
        have hx := Option.some.inj hx
        have hy := Option.some.inj hy
        omega
      · rw [if_neg c2] at hy
        cases hy
    · rw [if_neg c1] at hx
      cases hx
  · refine List.pairwise_map.mpr ((spots_nodup h hi hin).imp_of_mem fun {a b} ha hb hab q => ?_)
    obtain ⟨a0, a1, _⟩ := spots_in h hi hin ha
    obtain ⟨b0, b1, _⟩ := spots_in h hi hin hb
    exact hab (at_inj h he hek a0 a1 b0 b1 q)
  · unfold matesL
    rw [List.mem_filterMap, List.mem_map]
    constructor
    · rintro ⟨p, hp, c⟩
      obtain ⟨a, b, a0, a1, b0, b1, hb, rfl⟩ := nbs_spot h hp
      by_cases c1 : personAt r n e i = (mm (personAt r n e a) (personAt r n e b)).1 ∨ personAt r n e i = (mm (personAt r n e a) (personAt r n e b)).2
      · rw [if_pos c1, mm_sum] at c
        have c := Option.some.inj c
        rcases (mm_has _ _ _).mp c1 with c2 | c2
        · have := at_inj h he hek hi hin a0 a1 c2
          subst this
          exact ⟨b, hb, by omega⟩
        · have := at_inj h he hek hi hin b0 b1 c2
          subst this
          exact ⟨a, spots_symm h a0 a1 hb, by omega⟩
      · rw [if_neg c1] at c
        cases c
    · rintro ⟨j, hj, rfl⟩
      refine ⟨mm (personAt r n e i) (personAt r n e j), spot_nbs h hi hin hj, ?_⟩
      rw [if_pos ((mm_has _ _ _).mpr (.inl rfl)), mm_sum]
      congr 1
      omega
end
end Zig

/-! Neighbours of an order: turned, gone back, renamed. -/
namespace Zig
def adjL : List Int → List (Int × Int)
  | a :: b :: r => mm a b :: adjL (b :: r)
  | _ => []
theorem adj_cons (a b : Int) (r : List Int) : adjL (a :: b :: r) = mm a b :: adjL (b :: r) := rfl
/-- at an item both parts share -/
theorem adj_app : ∀ (xs : List Int) (p : Int) (ys : List Int), adjL (xs ++ p :: ys) = adjL (xs ++ [p]) ++ adjL (p :: ys)
  | [], p, ys => rfl
  | [x], p, ys => by
    show mm x p :: adjL (p :: ys) = [mm x p] ++ adjL (p :: ys)
    rfl
  | x :: y :: r, p, ys => by
    have ih := adj_app (y :: r) p ys
    show mm x y :: adjL (y :: r ++ p :: ys) = mm x y :: adjL (y :: r ++ [p]) ++ adjL (p :: ys)
    rw [ih]
    rfl
theorem adj_rev : ∀ l : List Int, adjL l.reverse = (adjL l).reverse
  | [] => rfl
  | [a] => rfl
  | a :: b :: r => by
    have ih := adj_rev (b :: r)
    rw [List.reverse_cons, List.reverse_cons, List.append_assoc]
    show adjL (r.reverse ++ b :: [a]) = _
    rw [adj_app, adj_cons, adj_cons, List.reverse_cons, ← ih, List.reverse_cons, mm_comm b a]
    rfl
/-- round in a ring -/
def ringL (l : List Int) : List (Int × Int) := adjL (l ++ l.take 1)
theorem ring_turn (a b : List Int) : (ringL (b ++ a)).Perm (ringL (a ++ b)) := by
  cases a with
  | nil => simp
  | cons x a =>
    cases b with
    | nil => simp
    | cons y b =>
      have e1 : ringL (x :: a ++ y :: b) = adjL (x :: a ++ [y]) ++ adjL (y :: b ++ [x]) := by
        unfold ringL
        show adjL (x :: a ++ y :: b ++ [x]) = _
        rw [List.append_assoc]
        exact adj_app (x :: a) y (b ++ [x])
      have e2 : ringL (y :: b ++ x :: a) = adjL (y :: b ++ [x]) ++ adjL (x :: a ++ [y]) := by
        unfold ringL
        show adjL (y :: b ++ x :: a ++ [y]) = _
        rw [List.append_assoc]
        exact adj_app (y :: b) x (a ++ [y])
      rw [e1, e2]
      exact List.perm_append_comm
theorem ring_rev (l : List Int) : (ringL l.reverse).Perm (ringL l) := by
  cases l with
  | nil => exact .nil
  | cons x l =>
    have h1 : (ringL (l.reverse ++ [x])).Perm (ringL ([x] ++ l.reverse)) := ring_turn [x] l.reverse
    rw [List.reverse_cons]
    refine h1.trans ?_
    have e : ringL ([x] ++ l.reverse) = (ringL (x :: l)).reverse := by
      unfold ringL
      rw [← adj_rev]
      show adjL (x :: l.reverse ++ [x]) = adjL (x :: l ++ [x]).reverse
      congr 1
      simp
    rw [e]
    exact List.reverse_perm _
/-- neighbours of a ring or a row -/
def besL (r : Bool) (l : List Int) : List (Int × Int) := if r = true then ringL l else adjL l
theorem bes_rev (r : Bool) (l : List Int) : (besL r l.reverse).Perm (besL r l) := by
  unfold besL
  cases r
  · rw [if_neg Bool.false_ne_true, if_neg Bool.false_ne_true, adj_rev]
    exact List.reverse_perm _
  · rw [if_pos rfl, if_pos rfl]
    exact ring_rev l
def mapP (f : Int → Int) (p : Int × Int) : Int × Int := mm (f p.1) (f p.2)
theorem map_mm (f : Int → Int) (a b : Int) : mapP f (mm a b) = mm (f a) (f b) := by
  unfold mapP
  have h : mm a b = (a, b) ∨ mm a b = (b, a) := by
    unfold mm
    by_cases c : b < a
    · rw [if_pos c, if_neg (by omega)]
      exact .inr rfl
    · rw [if_neg c]
      by_cases d : b > a
      · rw [if_pos d]
        exact .inl rfl
      · rw [if_neg d]
        have : a = b := by omega
        rw [this]
        exact .inl rfl
  rcases h with h | h
  · rw [h]
  · rw [h, mm_comm]
theorem adj_map (f : Int → Int) : ∀ l : List Int, adjL (l.map f) = (adjL l).map (mapP f)
  | [] => rfl
  | [a] => rfl
  | a :: b :: r => by
    have ih := adj_map f (b :: r)
    show mm (f a) (f b) :: adjL ((b :: r).map f) = mapP f (mm a b) :: (adjL (b :: r)).map (mapP f)
    rw [ih, map_mm]
theorem bes_map (r : Bool) (f : Int → Int) (l : List Int) : besL r (l.map f) = (besL r l).map (mapP f) := by
  unfold besL
  cases r
  · rw [if_neg Bool.false_ne_true, if_neg Bool.false_ne_true]
    exact adj_map f l
  · rw [if_pos rfl, if_pos rfl]
    unfold ringL
    rw [← adj_map, List.map_append, List.map_take]
def nbL (r : Bool) (l : List Int) : List (Int × Int) := (ups (if r = true then (l.length : Int) else (l.length : Int) - 1)).map fun (k : Int) => mm (l.getD k.toNat 0) (l.getD ((k + 1) % (l.length : Int)).toNat 0)
theorem adj_get : ∀ l : List Int, adjL l = (List.range (l.length - 1)).map fun k => mm (l.getD k 0) (l.getD (k + 1) 0)
  | [] => rfl
  | [a] => rfl
  | a :: b :: r => by
    have ih := adj_get (b :: r)
    rw [adj_cons, ih]
    show _ = (List.range (r.length + 1)).map _
    rw [List.range_succ_eq_map, List.map_cons, List.map_map]
    rfl
theorem nb_bes (r : Bool) {l : List Int} (h : 0 < l.length) : nbL r l = besL r l := by
  unfold nbL besL
  cases r
  · rw [if_neg Bool.false_ne_true, if_neg Bool.false_ne_true, adj_get]
    unfold ups
    rw [List.map_map, show ((l.length : Int) - 1).toNat = l.length - 1 by omega]
    refine List.map_congr_left fun k hk => ?_
    have hk := List.mem_range.mp hk
    show mm (l.getD (k : Int).toNat 0) (l.getD (((k : Int) + 1) % (l.length : Int)).toNat 0) = _
    rw [Int.emod_eq_of_lt (by omega) (by omega)]
    rfl
  · rw [if_pos rfl, if_pos rfl]
    unfold ringL
    rw [adj_get]
    unfold ups
    obtain ⟨x, t, rfl⟩ : ∃ x t, l = x :: t := by
      cases l with
      | nil => simp at h
      | cons x t => exact ⟨x, t, rfl⟩
    rw [List.map_map, List.length_append, List.length_take, show (((x :: t).length : Nat) : Int).toNat = (x :: t).length by omega, show (x :: t).length + min 1 (x :: t).length - 1 = (x :: t).length by simp]
    refine List.map_congr_left fun k hk => ?_
    have hk := List.mem_range.mp hk
    show mm ((x :: t).getD (k : Int).toNat 0) ((x :: t).getD (((k : Int) + 1) % ((x :: t).length : Int)).toNat 0) = _
    have e1 : ((x :: t) ++ (x :: t).take 1).getD k 0 = (x :: t).getD k 0 := by
      rw [List.getD_eq_getElem?_getD, List.getD_eq_getElem?_getD, List.getElem?_append_left hk]
    rw [e1]
    by_cases c : k + 1 < (x :: t).length
    · rw [Int.emod_eq_of_lt (by omega) (by omega)]
      have e2 : ((x :: t) ++ (x :: t).take 1).getD (k + 1) 0 = (x :: t).getD (k + 1) 0 := by
        rw [List.getD_eq_getElem?_getD, List.getD_eq_getElem?_getD, List.getElem?_append_left c]
      rw [e2]
      rfl
    · have e3 : k + 1 = (x :: t).length := by omega
      have e4 : ((k : Int) + 1) % ((x :: t).length : Int) = 0 := by
        rw [show (k : Int) + 1 = ((x :: t).length : Int) by omega]
        exact Int.emod_self
      rw [e4, e3]
      have e5 : ((x :: t) ++ (x :: t).take 1).getD (x :: t).length 0 = x := by
        rw [List.getD_eq_getElem?_getD, List.getElem?_append_right (Nat.le_refl _), Nat.sub_self]
        rfl
      rw [e5]
      rfl
end Zig
namespace Zig
/-- a party, as lists -/
structure IsParty (r : Bool) (n : Int) (ls : List (List Int)) : Prop where
  many : (ls.length : Int) = nights r n
  all : ∀ l ∈ ls, l.Perm (ups n)
  once : (ls.flatMap (besL r)).Nodup
theorem evL_bes {r : Bool} {n k e : Int} (h : SizeIs r n k) : besL r (evL r n e) = nbs r n e := by
  have h2 := size_two h
  rw [← nb_bes r (by rw [evL_len]; omega)]
  have g : ∀ k : Int, 0 ≤ k → k < n → (evL r n e).getD k.toNat 0 = personAt r n e k := fun k h0 h1 => by
    rw [List.getD_eq_getElem?_getD, evL_get (by omega), show ((k.toNat : Nat) : Int) = k by omega]
    rfl
  unfold nbL nbs
  rw [show ((evL r n e).length : Int) = n by rw [evL_len]; omega]
  cases r
  · rw [if_neg Bool.false_ne_true, if_neg Bool.false_ne_true, List.append_nil]
    refine List.map_congr_left fun k hk => ?_
    have hk := mem_ups.mp hk
    show mm ((evL false n e).getD k.toNat 0) ((evL false n e).getD ((k + 1) % n).toNat 0) = _
    rw [Int.emod_eq_of_lt (by omega) (by omega), g k (by omega) (by omega), g (k + 1) (by omega) (by omega)]
  · rw [if_pos rfl, if_pos rfl]
    have hu : ups n = ups (n - 1) ++ [n - 1] := by
      have := ups_succ (n - 1).toNat
      rw [show (((n - 1).toNat : Nat) : Int) = n - 1 by omega, show n - 1 + 1 = n by omega] at this
      exact this
    rw [hu, List.map_append]
    congr 1
    · refine List.map_congr_left fun k hk => ?_
      have hk := mem_ups.mp hk
      show mm ((evL true n e).getD k.toNat 0) ((evL true n e).getD ((k + 1) % n).toNat 0) = _
      rw [Int.emod_eq_of_lt (by omega) (by omega), g k (by omega) (by omega), g (k + 1) (by omega) (by omega)]
    · show [mm ((evL true n e).getD (n - 1).toNat 0) ((evL true n e).getD ((n - 1 + 1) % n).toNat 0)] = _
      rw [show n - 1 + 1 = n by omega, Int.emod_self, g (n - 1) (by omega) (by omega), g 0 (by omega) (by omega), mm_comm]
/-- the zigzag's evenings -/
def zzL (r : Bool) (n : Int) : List (List Int) := (ups (nights r n)).map (evL r n)
theorem zz_party {r : Bool} {n k : Int} (h : SizeIs r n k) : IsParty r n (zzL r n) := by
  have hk := h.nights
  refine ⟨?_, fun l hl => ?_, ?_⟩
  · unfold zzL
    rw [List.length_map, ups_len]
    have := h.1
    omega
  · obtain ⟨e, he, rfl⟩ := List.mem_map.mp hl
    have he := mem_ups.mp he
    exact evL_perm h he.1 (by omega)
  · have e : (zzL r n).flatMap (besL r) = allN r n k := by
      unfold zzL allN
      rw [hk, List.flatMap_map]
      rw [show (fun a => besL r (evL r n a)) = nbs r n from funext fun e => evL_bes h]
    rw [e]
    exact allN_nodup h
/-- in another order, each evening with the same neighbours -/
theorem IsParty.perm {r : Bool} {n : Int} {ls ms : List (List Int)} (p : IsParty r n ls) (h : ms.Perm ls) : IsParty r n ms :=
  ⟨by rw [h.length_eq]; exact p.many, fun l hl => p.all l (h.mem_iff.mp hl), (h.flatMap_right (besL r)).nodup_iff.mpr p.once⟩
theorem perm_of_sub : ∀ {m ns : List Int}, m.Nodup → (∀ x ∈ m, x ∈ ns) → m.length = ns.length → m.Perm ns
  | [], [], _, _, _ => .nil
  | [], _ :: _, _, _, h => by simp at h
  | x :: m, ns, hd, hs, hl => by
    have hx := hs x List.mem_cons_self
    have hp := List.perm_cons_erase hx
    obtain ⟨h1, h2⟩ := List.nodup_cons.mp hd
    refine .trans (.cons x (perm_of_sub (ns := ns.erase x) h2 (fun y hy => ?_) ?_)) hp.symm
    · have hne : y ≠ x := fun e => h1 (e ▸ hy)
      exact (List.mem_erase_of_ne hne).mpr (hs y (List.mem_cons_of_mem _ hy))
    · have := hp.length_eq
      rw [List.length_cons] at this hl
      omega
/-- each evening anew with the same people and the same neighbours -/
inductive Alike (r : Bool) : List (List Int) → List (List Int) → Prop
  | nil : Alike r [] []
  | cons {m l ms ls} : m.Perm l → (besL r m).Perm (besL r l) → Alike r ms ls → Alike r (m :: ms) (l :: ls)
theorem Alike.snoc {r : Bool} {m l : List Int} (h1 : m.Perm l) (h2 : (besL r m).Perm (besL r l)) : ∀ {ms ls : List (List Int)}, Alike r ms ls → Alike r (ms ++ [m]) (ls ++ [l])
  | _, _, .nil => .cons h1 h2 .nil
  | _, _, .cons a b t => .cons a b (t.snoc h1 h2)
theorem Alike.len {r : Bool} : ∀ {ms ls : List (List Int)}, Alike r ms ls → ms.length = ls.length
  | _, _, .nil => rfl
  | _, _, .cons _ _ t => by rw [List.length_cons, List.length_cons, t.len]
theorem Alike.all {r : Bool} {n : Int} : ∀ {ms ls : List (List Int)}, Alike r ms ls → (∀ l ∈ ls, l.Perm (ups n)) → ∀ m ∈ ms, m.Perm (ups n)
  | _, _, .nil, _, m, h => absurd h List.not_mem_nil
  | _, _, .cons a _ t, hl, m, h => by
    rcases List.mem_cons.mp h with rfl | h
    · exact a.trans (hl _ List.mem_cons_self)
    · exact t.all (fun l h => hl l (List.mem_cons_of_mem _ h)) m h
theorem Alike.flat {r : Bool} : ∀ {ms ls : List (List Int)}, Alike r ms ls → (ms.flatMap (besL r)).Perm (ls.flatMap (besL r))
  | _, _, .nil => .nil
  | _, _, .cons _ b t => by
    rw [List.flatMap_cons, List.flatMap_cons]
    exact b.append t.flat
theorem IsParty.alike {r : Bool} {n : Int} {ls ms : List (List Int)} (p : IsParty r n ls) (h : Alike r ms ls) : IsParty r n ms :=
  ⟨by rw [h.len]; exact p.many, h.all p.all, h.flat.nodup_iff.mpr p.once⟩
/-- members of the neighbours: people of the evening -/
theorem adj_mem : ∀ {l : List Int} {p : Int × Int}, p ∈ adjL l → p.1 ∈ l ∧ p.2 ∈ l
  | a :: b :: r, p, h => by
    rcases List.mem_cons.mp h with rfl | h
    · unfold mm
      dsimp only
      refine ⟨?_, ?_⟩ <;> split <;> simp
    · have := adj_mem h
      exact ⟨List.mem_cons_of_mem _ this.1, List.mem_cons_of_mem _ this.2⟩
theorem adj_le : ∀ {l : List Int} {p : Int × Int}, p ∈ adjL l → p.1 ≤ p.2
  | a :: b :: r, p, h => by
    rcases List.mem_cons.mp h with rfl | h
    · unfold mm
      dsimp only
      split <;> split <;> omega
    · exact adj_le h
theorem bes_mem {r : Bool} {l : List Int} {p : Int × Int} (h : p ∈ besL r l) : p.1 ∈ l ∧ p.2 ∈ l ∧ p.1 ≤ p.2 := by
  unfold besL at h
  cases r
  · rw [if_neg Bool.false_ne_true] at h
    exact ⟨(adj_mem h).1, (adj_mem h).2, adj_le h⟩
  · rw [if_pos rfl] at h
    unfold ringL at h
    have g : ∀ x, x ∈ l ++ l.take 1 → x ∈ l := fun x hx => by
      rcases List.mem_append.mp hx with hx | hx
      · exact hx
      · exact List.mem_of_mem_take hx
    exact ⟨g _ (adj_mem h).1, g _ (adj_mem h).2, adj_le h⟩
/-- under other names -/
theorem IsParty.named {r : Bool} {n : Int} {ls : List (List Int)} (p : IsParty r n ls) {f : Int → Int} (hb : ∀ x, 0 ≤ x → x < n → 0 ≤ f x ∧ f x < n) (hi : ∀ x y, 0 ≤ x → x < n → 0 ≤ y → y < n → f x = f y → x = y) : IsParty r n (ls.map fun l => l.map f) := by
  have hin : ∀ l ∈ ls, ∀ x ∈ l, 0 ≤ x ∧ x < n := fun l hl x hx => mem_ups.mp ((p.all l hl).mem_iff.mp hx)
  have hnd : ∀ l ∈ ls, (l.map f).Nodup := fun l hl => by
    refine List.pairwise_map.mpr (((p.all l hl).nodup_iff.mpr (ups_nodup n)).imp_of_mem fun {a b} ha hb2 hab q => ?_)
    have a1 := hin l hl a ha
    have b1 := hin l hl b hb2
    exact hab (hi a b a1.1 a1.2 b1.1 b1.2 q)
  refine ⟨by rw [List.length_map]; exact p.many, fun m hm => ?_, ?_⟩
  · obtain ⟨l, hl, rfl⟩ := List.mem_map.mp hm
    have hs : ∀ x ∈ l.map f, x ∈ ups n := fun x hx => by
      obtain ⟨y, hy, rfl⟩ := List.mem_map.mp hx
      have := hin l hl y hy
      exact mem_ups.mpr (hb y this.1 this.2)
    exact perm_of_sub (hnd l hl) hs (by rw [List.length_map, (p.all l hl).length_eq])
  · have e : (ls.map fun l => l.map f).flatMap (besL r) = (ls.flatMap (besL r)).map (mapP f) := by
      rw [List.flatMap_map, List.map_flatMap]
      congr 1
      exact funext fun l => bes_map r f l
    rw [e]
    refine List.pairwise_map.mpr (p.once.imp_of_mem fun {a b} ha hb2 hab q => ?_)
    obtain ⟨l, hl, ha⟩ := List.mem_flatMap.mp ha
    obtain ⟨m, hm, hb2⟩ := List.mem_flatMap.mp hb2
    have a1 := bes_mem ha
    have b1 := bes_mem hb2
    have i1 := hin l hl _ a1.1
    have i2 := hin l hl _ a1.2.1
    have j1 := hin m hm _ b1.1
    have j2 := hin m hm _ b1.2.1
    refine hab ?_
    obtain ⟨a1', a2'⟩ := a
    obtain ⟨b1', b2'⟩ := b
    dsimp only at *
    rw [Prod.mk.injEq]
    rcases mm_eq q with ⟨c, d⟩ | ⟨c, d⟩
    · exact ⟨hi _ _ i1.1 i1.2 j1.1 j1.2 c, hi _ _ i2.1 i2.2 j2.1 j2.2 d⟩
    · have c1 := hi _ _ i1.1 i1.2 j2.1 j2.2 c
      have c2 := hi _ _ i2.1 i2.2 j1.1 j1.2 d
      omega
theorem sub_len : ∀ {m ns : List Int}, m.Nodup → (∀ x ∈ m, x ∈ ns) → m.length ≤ ns.length
  | [], _, _, _ => Nat.zero_le _
  | x :: m, ns, hd, hs => by
    have hx := hs x List.mem_cons_self
    have hp := List.perm_cons_erase hx
    obtain ⟨h1, h2⟩ := List.nodup_cons.mp hd
    have ih := sub_len (ns := ns.erase x) h2 fun y hy => by
      have hne : y ≠ x := fun e => h1 (e ▸ hy)
      exact (List.mem_erase_of_ne hne).mpr (hs y (List.mem_cons_of_mem _ hy))
    have := hp.length_eq
    rw [List.length_cons] at this ⊢
    omega
end Zig

/-! Two people of one evening exchanged: some pair of neighbours is new. -/
namespace Zig
/-- places beside one another -/
def Near (r : Bool) (n a b : Nat) : Prop := b = a + 1 ∨ a = b + 1 ∨ (r = true ∧ ((a = 0 ∧ b + 1 = n) ∨ (b = 0 ∧ a + 1 = n)))
theorem near_mem {r : Bool} {l : List Int} {a b : Nat} (ha : a < l.length) (hb : b < l.length) (h : Near r l.length a b) : mm (l.getD a 0) (l.getD b 0) ∈ nbL r l := by
  have key : ∀ a b : Nat, a < l.length → b < l.length → b = a + 1 → mm (l.getD a 0) (l.getD b 0) ∈ nbL r l := fun a b ha hb e => by
    subst e
    unfold nbL
    refine List.mem_map.mpr ⟨(a : Int), mem_ups.mpr ⟨by omega, by split <;> omega⟩, ?_⟩
    rw [Int.emod_eq_of_lt (by omega) (by omega)]
    rfl
  have last : ∀ a b : Nat, r = true → a = 0 → b + 1 = l.length → mm (l.getD a 0) (l.getD b 0) ∈ nbL r l := fun a b hr e f => by
    subst e
    unfold nbL
    refine List.mem_map.mpr ⟨(b : Int), mem_ups.mpr ⟨by omega, by rw [if_pos hr]; omega⟩, ?_⟩
    rw [show (b : Int) + 1 = (l.length : Int) by omega, Int.emod_self, mm_comm]
    rfl
  rcases h with h | h | ⟨hr, h | h⟩
  · exact key a b ha hb h
  · rw [mm_comm]
    exact key b a hb ha h
  · exact last a b hr h.1 h.2
  · rw [mm_comm]
    exact last b a hr h.1 h.2
theorem getD_inj {l : List Int} (hn : l.Nodup) {a b : Nat} (ha : a < l.length) (hb : b < l.length) (h : l.getD a 0 = l.getD b 0) : a = b := by
  rw [List.getD_eq_getElem?_getD, List.getD_eq_getElem?_getD, List.getElem?_eq_getElem ha, List.getElem?_eq_getElem hb] at h
  exact (List.getElem_inj hn).mp h
theorem mem_near {r : Bool} {l : List Int} (hn : l.Nodup) {a b : Nat} (ha : a < l.length) (hb : b < l.length) (h : mm (l.getD a 0) (l.getD b 0) ∈ nbL r l) : Near r l.length a b := by
  unfold nbL at h
  obtain ⟨k, hk, e⟩ := List.mem_map.mp h
  have hk := mem_ups.mp hk
  have hlt : k.toNat < l.length := by
    have := hk.2
    split at this <;> omega
  obtain ⟨m, rfl⟩ : ∃ m : Nat, k = m := ⟨k.toNat, by omega⟩
  rw [show ((m : Nat) : Int).toNat = m from rfl] at e hlt
  by_cases c : m + 1 < l.length
  · rw [Int.emod_eq_of_lt (by omega) (by omega), show ((m : Int) + 1).toNat = m + 1 by omega] at e
    rcases mm_eq e with ⟨e1, e2⟩ | ⟨e1, e2⟩
    · have := getD_inj hn hlt ha e1
      have := getD_inj hn c hb e2
      unfold Near
      omega
    · have := getD_inj hn hlt hb e1
      have := getD_inj hn c ha e2
      unfold Near
      omega
  · have hr : r = true := by
      cases r
      · have := hk.2
        rw [if_neg Bool.false_ne_true] at this
        omega
      · rfl
    rw [show (m : Int) + 1 = (l.length : Int) by omega, Int.emod_self] at e
    have h0 : (0 : Nat) < l.length := by omega
    rcases mm_eq e with ⟨e1, e2⟩ | ⟨e1, e2⟩
    · have := getD_inj hn hlt ha e1
      have := getD_inj hn h0 hb e2
      unfold Near
      exact .inr (.inr ⟨hr, by omega⟩)
    · have := getD_inj hn hlt hb e1
      have := getD_inj hn h0 ha e2
      unfold Near
      exact .inr (.inr ⟨hr, by omega⟩)
/-- among the places of one of two: one that is not beside the other -/
theorem far_place {r : Bool} {n i j : Nat} (h4 : 4 < n) (hi : i < n) (hj : j < n) (h : i ≠ j) : ∃ a b k, ((a = i ∧ b = j) ∨ (a = j ∧ b = i)) ∧ k < n ∧ k ≠ i ∧ k ≠ j ∧ Near r n a k ∧ ¬ Near r n b k := by
  have key : ∀ i j : Nat, i < j → j < n → ∃ a b k, ((a = i ∧ b = j) ∨ (a = j ∧ b = i)) ∧ k < n ∧ k ≠ i ∧ k ≠ j ∧ Near r n a k ∧ ¬ Near r n b k := fun i j hij hj => by
    cases r
    · by_cases c : 0 < i
      · exact ⟨i, j, i - 1, .inl ⟨rfl, rfl⟩, by omega, by omega, by omega, .inr (.inl (by omega)), fun z => by
          rcases z with z | z | ⟨z, _⟩
          · omega
          · omega
          · cases z⟩
      · by_cases d : j + 1 < n
        · exact ⟨j, i, j + 1, .inr ⟨rfl, rfl⟩, by omega, by omega, by omega, .inl rfl, fun z => by
            rcases z with z | z | ⟨z, _⟩
            · omega
            · omega
            · cases z⟩
        · exact ⟨i, j, i + 1, .inl ⟨rfl, rfl⟩, by omega, by omega, by omega, .inl rfl, fun z => by
            rcases z with z | z | ⟨z, _⟩
            · omega
            · omega
            · cases z⟩
    · by_cases c : j + 3 ≤ i + n
      · refine ⟨i, j, if i = 0 then n - 1 else i - 1, .inl ⟨rfl, rfl⟩, by split <;> omega, by split <;> omega, by split <;> omega, ?_, fun z => ?_⟩
        · split
          · exact .inr (.inr ⟨rfl, .inl (by omega)⟩)
          · exact .inr (.inl (by omega))
        · revert z
          unfold Near
          split <;> omega
      · refine ⟨i, j, i + 1, .inl ⟨rfl, rfl⟩, by omega, by omega, by omega, .inl rfl, fun z => ?_⟩
        revert z
        unfold Near
        omega
  rcases Nat.lt_or_ge i j with c | c
  · exact key i j c hj
  · obtain ⟨a, b, k, h1, h2, h3, h4, h5, h6⟩ := key j i (by omega) hi
    exact ⟨a, b, k, h1.symm.imp (fun x => x) (fun x => x), h2, h4, h3, h5, h6⟩
/-- two places exchanged -/
structure Swap (i j : Nat) (l m : List Int) : Prop where
  len : m.length = l.length
  at1 : m.getD i 0 = l.getD j 0
  at2 : m.getD j 0 = l.getD i 0
  rest : ∀ k, k ≠ i → k ≠ j → m.getD k 0 = l.getD k 0
theorem getD_mem {l : List Int} {i : Nat} (h : i < l.length) : l.getD i 0 ∈ l := by
  rw [List.getD_eq_getElem?_getD, List.getElem?_eq_getElem h]
  exact List.getElem_mem h
/-- some pair of the exchanged order was no pair before -/
theorem swap_new {r : Bool} {l m : List Int} {i j : Nat} (hl : l.Nodup) (h4 : 4 < l.length) (hi : i < l.length) (hj : j < l.length) (hij : i ≠ j) (s : Swap i j l m) : ∃ x y, x ∈ l ∧ y ∈ l ∧ x ≠ y ∧ mm x y ∈ nbL r m ∧ mm x y ∉ nbL r l := by
  obtain ⟨a, b, k, hab, hk, ki, kj, h5, h6⟩ := far_place (r := r) h4 hi hj hij
  have ha : a < l.length := by omega
  have hb : b < l.length := by omega
  have e1 : m.getD a 0 = l.getD b 0 := by
    rcases hab with ⟨rfl, rfl⟩ | ⟨rfl, rfl⟩
    · exact s.at1
    · exact s.at2
  have e2 := s.rest k ki kj
  refine ⟨l.getD b 0, l.getD k 0, getD_mem hb, getD_mem hk, fun z => ?_, ?_, fun z => h6 (mem_near hl hb hk z)⟩
  · have := getD_inj hl hb hk z
    omega
  · rw [← e1, ← e2]
    exact near_mem (by rw [s.len]; exact ha) (by rw [s.len]; exact hk) (by rw [s.len]; exact h5)
/-- the zigzag with two people of one evening exchanged has some pair twice -/
theorem zz_bent {r : Bool} {n k : Int} (hs : SizeIs r n k) (h4 : 4 < n) {e i j : Nat} (he : (e : Int) < k) (hi : (i : Int) < n) (hj : (j : Int) < n) (hij : i ≠ j) {m : List Int} (sw : Swap i j (evL r n e) m) : ¬ ((zzL r n).set e m).Pairwise fun l m => ∀ p ∈ nbL r m, p ∉ nbL r l := by
  intro hp
  have hk := hs.nights
  have hlen : ∀ f : Int, (evL r n f).length = n.toNat := fun f => evL_len r n f
  obtain ⟨x, y, hx, hy, hxy, h1, h2⟩ := swap_new (r := r) (evL_nodup hs (by omega) he) (by rw [hlen]; omega) (by rw [hlen]; omega) (by rw [hlen]; omega) hij sw
  have hx := (evL_mem hs (by omega) he x).mp hx
  have hy := (evL_mem hs (by omega) he y).mp hy
  have hpr : mm x y ∈ prs n := by
    have := mm_lt hxy
    refine mem_prs.mpr ?_
    rcases this with ⟨h3, h4 | h4⟩
    · rw [h4] at h3 ⊢
      exact ⟨hx.1, h3, hy.2⟩
    · rw [h4] at h3 ⊢
      exact ⟨hy.1, h3, hx.2⟩
  have hall := (allN_mem hs _).mpr hpr
  unfold allN at hall
  obtain ⟨f, hf, hm⟩ := List.mem_flatMap.mp hall
  have hf := mem_ups.mp hf
  rw [← evL_bes hs, ← nb_bes r (by rw [hlen]; omega)] at hm
  have hne : f ≠ (e : Int) := fun z => h2 (z ▸ hm)
  obtain ⟨g, rfl⟩ : ∃ g : Nat, f = g := ⟨f.toNat, by omega⟩
  have hge : g ≠ e := fun z => hne (by rw [z])
  have hzl : (zzL r n).length = k.toNat := by
    unfold zzL
    rw [List.length_map, ups_len, hk]
  have at_e : ((zzL r n).set e m)[e]? = some m := by
    rw [List.getElem?_set_self (by rw [hzl]; omega)]
  have at_g : ((zzL r n).set e m)[g]? = some (evL r n g) := by
    rw [List.getElem?_set_ne (fun z => hge z.symm)]
    unfold zzL
    rw [List.getElem?_map, ups_get (by omega)]
    rfl
  obtain ⟨l1, e1⟩ := List.getElem?_eq_some_iff.mp at_e
  obtain ⟨l2, e2⟩ := List.getElem?_eq_some_iff.mp at_g
  have hp := List.pairwise_iff_getElem.mp hp
  rcases Nat.lt_or_ge g e with c | c
  · have := hp g e l2 l1 c _ (by rw [e1]; exact h1)
    rw [e2] at this
    exact this hm
  · have := hp e g l1 l2 (by omega) _ (by rw [e2]; exact hm)
    rw [e1] at this
    exact this h1
end Zig

namespace K60
open PySem PySem.Spec PyProof.Rows L2 Z
open Zig
def top (i : Nat) : Stmt := PySem.Challenge.pw_extendrounds_k60_whole_zigzags_certified.main.body.getD i (.Pass ⟨0, 0, 0, 0⟩)
abbrev s_is_integer : Stmt := top 14
abbrev N_is_integer : List Str := ["value"]
theorem sc_is_integer : FnScope N_is_integer ["value"] (defScope s_is_integer) := ⟨rfl, rfl, rfl, by decide +kernel, rfl, by decide +kernel, by decide +kernel⟩
abbrev s_is_between : Stmt := top 15
abbrev N_is_between : List Str := ["value", "least", "most"]
theorem sc_is_between : FnScope N_is_between ["value", "least", "most"] (defScope s_is_between) := ⟨rfl, rfl, rfl, by decide +kernel, rfl, by decide +kernel, by decide +kernel⟩
abbrev s_is_size : Stmt := top 17
abbrev N_is_size : List Str := ["kind", "value", "most"]
theorem sc_is_size : FnScope N_is_size ["kind", "value", "most"] (defScope s_is_size) := ⟨rfl, rfl, rfl, by decide +kernel, rfl, by decide +kernel, by decide +kernel⟩
abbrev s_evenings_for : Stmt := top 18
abbrev N_evenings_for : List Str := ["kind", "many"]
theorem sc_evenings_for : FnScope N_evenings_for ["kind", "many"] (defScope s_evenings_for) := ⟨rfl, rfl, rfl, by decide +kernel, rfl, by decide +kernel, by decide +kernel⟩
abbrev s_check_kind : Stmt := top 37
abbrev N_check_kind : List Str := ["kind"]
theorem sc_check_kind : FnScope N_check_kind ["kind"] (defScope s_check_kind) := ⟨rfl, rfl, rfl, by decide +kernel, rfl, by decide +kernel, by decide +kernel⟩
abbrev s_is_everybody : Stmt := top 38
abbrev N_is_everybody : List Str := ["n", "value", "person"]
theorem sc_is_everybody : FnScope N_is_everybody ["n", "value"] (defScope s_is_everybody) := ⟨rfl, rfl, rfl, by decide +kernel, rfl, by decide +kernel, by decide +kernel⟩
abbrev s_pairs_on : Stmt := top 39
abbrev N_pairs_on : List Str := ["kind", "some", "last", "at"]
theorem sc_pairs_on : FnScope N_pairs_on ["kind", "some"] (defScope s_pairs_on) := ⟨rfl, rfl, rfl, by decide +kernel, rfl, by decide +kernel, by decide +kernel⟩
abbrev s_wrong_of : Stmt := top 40
abbrev N_wrong_of : List Str := ["kind", "n", "evenings", "evening", "some", "known", "here", "pair", "again"]
theorem sc_wrong_of : FnScope N_wrong_of ["kind", "n", "evenings"] (defScope s_wrong_of) := ⟨rfl, rfl, rfl, by decide +kernel, rfl, by decide +kernel, by decide +kernel⟩
abbrev s_person_in : Stmt := top 45
abbrev N_person_in : List Str := ["size", "evening", "index", "half"]
theorem sc_person_in : FnScope N_person_in ["size", "evening", "index"] (defScope s_person_in) := ⟨rfl, rfl, rfl, by decide +kernel, rfl, by decide +kernel, by decide +kernel⟩
abbrev s_person_at : Stmt := top 46
abbrev N_person_at : List Str := ["kind", "n", "evening", "index"]
theorem sc_person_at : FnScope N_person_at ["kind", "n", "evening", "index"] (defScope s_person_at) := ⟨rfl, rfl, rfl, by decide +kernel, rfl, by decide +kernel, by decide +kernel⟩
abbrev s_evening_of : Stmt := top 47
abbrev N_evening_of : List Str := ["kind", "n", "evening", "index"]
theorem sc_evening_of : FnScope N_evening_of ["kind", "n", "evening"] (defScope s_evening_of) := ⟨rfl, rfl, rfl, by decide +kernel, rfl, by decide +kernel, by decide +kernel⟩
abbrev s_zigzag_of : Stmt := top 48
abbrev N_zigzag_of : List Str := ["kind", "n", "evening"]
theorem sc_zigzag_of : FnScope N_zigzag_of ["kind", "n"] (defScope s_zigzag_of) := ⟨rfl, rfl, rfl, by decide +kernel, rfl, by decide +kernel, by decide +kernel⟩
abbrev s_certify_zigzag : Stmt := top 50
abbrev N_certify_zigzag : List Str := ["kind", "n"]
theorem sc_certify_zigzag : FnScope N_certify_zigzag ["kind", "n"] (defScope s_certify_zigzag) := ⟨rfl, rfl, rfl, by decide +kernel, rfl, by decide +kernel, by decide +kernel⟩
abbrev s_accepts_party : Stmt := top 56
abbrev N_accepts_party : List Str := ["kind", "many", "evenings"]
theorem sc_accepts_party : FnScope N_accepts_party ["kind", "many", "evenings"] (defScope s_accepts_party) := ⟨rfl, rfl, rfl, by decide +kernel, rfl, by decide +kernel, by decide +kernel⟩
abbrev s_accepts : Stmt := top 57
abbrev N_accepts : List Str := ["claim", "certificate", "book"]
theorem sc_accepts : FnScope N_accepts ["claim", "certificate"] (defScope s_accepts) := ⟨rfl, rfl, rfl, by decide +kernel, rfl, by decide +kernel, by decide +kernel⟩
abbrev s__law_spring : Stmt := top 59
abbrev N__law_spring : List Str := ["_law_cells", "_law_k", "_law_cell", "_law_mixed", "_law_number"]
theorem sc__law_spring : FnScope N__law_spring ["_law_cells", "_law_k"] (defScope s__law_spring) := ⟨rfl, rfl, rfl, by decide +kernel, rfl, by decide +kernel, by decide +kernel⟩
abbrev s__law_draw : Stmt := top 60
abbrev N__law_draw : List Str := ["_law_spring_here", "_law_size", "_law_digit", "_law_far", "_law_mixed"]
theorem sc__law_draw : FnScope N__law_draw ["_law_spring_here", "_law_size"] (defScope s__law_draw) := ⟨rfl, rfl, rfl, by decide +kernel, rfl, by decide +kernel, by decide +kernel⟩
abbrev s__law_of : Stmt := top 61
abbrev N__law_of : List Str := ["_law_spring_here", "_law_menu"]
theorem sc__law_of : FnScope N__law_of ["_law_spring_here", "_law_menu"] (defScope s__law_of) := ⟨rfl, rfl, rfl, by decide +kernel, rfl, by decide +kernel, by decide +kernel⟩
abbrev s__law_nights : Stmt := top 62
abbrev N__law_nights : List Str := ["_law_sort_now", "_law_size"]
theorem sc__law_nights : FnScope N__law_nights ["_law_sort_now", "_law_size"] (defScope s__law_nights) := ⟨rfl, rfl, rfl, by decide +kernel, rfl, by decide +kernel, by decide +kernel⟩
abbrev s__law_zigzag : Stmt := top 63
abbrev N__law_zigzag : List Str := ["_law_sort_now", "_law_size", "_law_found", "_law_round_now", "_law_e", "_law_some", "_law_k"]
theorem sc__law_zigzag : FnScope N__law_zigzag ["_law_sort_now", "_law_size"] (defScope s__law_zigzag) := ⟨rfl, rfl, rfl, by decide +kernel, rfl, by decide +kernel, by decide +kernel⟩
abbrev s__law_right : Stmt := top 64
abbrev N__law_right : List Str := ["_law_spring_here", "_law_lap", "_law_sort_now", "_law_size", "_law_some", "_law_due", "_law_pair", "_law_e", "_law_i", "_law_j", "_law_bent"]
theorem sc__law_right : FnScope N__law_right ["_law_spring_here"] (defScope s__law_right) := ⟨rfl, rfl, rfl, by decide +kernel, rfl, by decide +kernel, by decide +kernel⟩
abbrev s_law : Stmt := top 65
abbrev N_law : List Str := ["_law_cells", "_law_springs", "_law_k", "_law_spring_here"]
theorem sc_law : FnScope N_law ["_law_cells"] (defScope s_law) := ⟨rfl, rfl, rfl, by decide +kernel, rfl, by decide +kernel, by decide +kernel⟩
/-- what the top has made -/
structure Env (w : World) (K : PySem.W.Frag) (mg : Str → Option Value) : Prop where
  d_is_integer : Here K mg "is_integer" s_is_integer
  d_is_between : Here K mg "is_between" s_is_between
  d_is_size : Here K mg "is_size" s_is_size
  d_evenings_for : Here K mg "evenings_for" s_evenings_for
  d_check_kind : Here K mg "check_kind" s_check_kind
  d_is_everybody : Here K mg "is_everybody" s_is_everybody
  d_pairs_on : Here K mg "pairs_on" s_pairs_on
  d_wrong_of : Here K mg "wrong_of" s_wrong_of
  d_person_in : Here K mg "person_in" s_person_in
  d_person_at : Here K mg "person_at" s_person_at
  d_evening_of : Here K mg "evening_of" s_evening_of
  d_zigzag_of : Here K mg "zigzag_of" s_zigzag_of
  d_certify_zigzag : Here K mg "certify_zigzag" s_certify_zigzag
  d_accepts_party : Here K mg "accepts_party" s_accepts_party
  d_accepts : Here K mg "accepts" s_accepts
  d__law_spring : Here K mg "_law_spring" s__law_spring
  d__law_draw : Here K mg "_law_draw" s__law_draw
  d__law_of : Here K mg "_law_of" s__law_of
  d__law_nights : Here K mg "_law_nights" s__law_nights
  d__law_zigzag : Here K mg "_law_zigzag" s__law_zigzag
  d__law_right : Here K mg "_law_right" s__law_right
  d_law : Here K mg "law" s_law
  b_abs : mg "abs" = none
  b_all : mg "all" = none
  b_bool : mg "bool" = none
  b_divmod : mg "divmod" = none
  b_enumerate : mg "enumerate" = none
  b_int : mg "int" = none
  b_isinstance : mg "isinstance" = none
  b_len : mg "len" = none
  b_list : mg "list" = none
  b_max : mg "max" = none
  b_min : mg "min" = none
  b_range : mg "range" = none
  b_repr : mg "repr" = none
  b_set : mg "set" = none
  b_sorted : mg "sorted" = none
  b_str : mg "str" = none
  b_tuple : mg "tuple" = none
  c_RINGS : ∃ t, mg "RINGS" = some (.str "rings" t)
  c_ROWS : ∃ t, mg "ROWS" = some (.str "rows" t)
  c_MOST_TOLD : ∃ t, mg "MOST_TOLD" = some (.int 99 t)
  k_LENGTHS : ∃ (d : Addr) (es : Array DictEntry) (n : Nat), mg "LENGTHS" = some (.ref d) ∧ KDict K w d es n ∧ (∃ t, PySem.W.nsIn K d "grows" = some (some (.int 3 t))) ∧ (∃ t, PySem.W.nsIn K d "barred" = some (some (.int 5 t))) ∧ (∃ t, PySem.W.nsIn K d "party" = some (some (.int 4 t)))
variable {P : Program} {w : World} {K : PySem.W.Frag} {mg : Str → Option Value} {base : Heap}
def kindS (r : Bool) : Str := if r then "rings" else "rows"
theorem kind_ne : ¬ (("rows" : Str) = "rings") := by decide +kernel
theorem kind_eq (r : Bool) : (kindS r = "rings") = (r = true) := by
  cases r
  · simp only [kindS, Bool.false_eq_true, if_false, eq_iff_iff, iff_false]
    exact kind_ne
  · simp only [kindS, if_true]
theorem kind_inj (r s : Bool) : (kindS r = kindS s) = (r = s) := by
  have h1 : ¬ (("rings" : Str) = "rows") := fun e => kind_ne e.symm
  cases r <;> cases s <;> simp [kindS, kind_ne, h1]
theorem rings_eq (r : Bool) : (("rings" : Str) = kindS r) = (r = true) := by
  rw [← kind_eq r]
  exact propext ⟨Eq.symm, Eq.symm⟩
theorem rows_eq (r : Bool) : (("rows" : Str) = kindS r) = (r = false) := by
  have h := kind_inj false r
  rw [show kindS false = "rows" from rfl] at h
  rw [h]
  exact propext ⟨Eq.symm, Eq.symm⟩
/-- a value whose class is known -/
def Known (H : Hp) (x : V) : Prop := ∃ t, tyN H x = some t ∧ t ∈ ["NoneType", "bool", "int", "str", "list", "tuple", "dict"]
def isI : V → Bool
  | .int _ => true
  | _ => false
def inB (l m : Int) : V → Bool
  | .int i => decide (l ≤ i ∧ i ≤ m)
  | _ => false
theorem kit_all : ∀ t ∈ ["NoneType", "bool", "int", "str", "list", "tuple", "dict"], kitB t "int" = some (decide (t = "int" ∨ t = "bool")) ∧ kitB t "bool" = some (decide (t = "bool")) ∧ kitB t "tuple" = some (decide (t = "tuple")) ∧ kitB t "str" = some (decide (t = "str")) := by decide +kernel
theorem tyN_int {H : Hp} {x : V} : (tyN H x = some "int") = (isI x = true) := by
  cases x with
  | ref a =>
    simp only [tyN, isI]
    split <;> simp
  | _ => simp [tyN, isI]
def sp_is_integer : Sp := fun vs H Q _ => ∃ x : V, vs = [x] ∧ Known H x ∧ Q (.bl (isI x)) H
theorem ok_is_integer (T : Env w K mg) : Hd P w K mg base CX0 1 "is_integer" s_is_integer ["value"] sp_is_integer := by
  obtain ⟨f, fd, F, hm⟩ := T.d_is_integer
  refine ⟨⟨f, fd, F, hm, ?_⟩, fun _ _ _ _ _ _ _ us hl => match us, hl with | [_], _ => rfl⟩
  refine F.ok sc_is_integer (fun vs H Q E h => ?_) (fun cdv A outer s H vs Q E hr h => ?_)
  · first | (obtain ⟨rfl, _⟩ := h; rfl) | (obtain ⟨_, rfl, _⟩ := h; rfl) | (obtain ⟨_, _, rfl, _⟩ := h; rfl) | (obtain ⟨_, _, _, rfl, _⟩ := h; rfl) | (obtain ⟨_, _, _, _, rfl, _⟩ := h; rfl) | (obtain ⟨_, _, _, _, _, rfl, _⟩ := h; rfl) | (obtain ⟨_, _, _, _, _, _, rfl, _⟩ := h; rfl) | (obtain ⟨_, _, _, _, _, _, _, rfl, _⟩ := h; rfl) | (obtain ⟨_, _, _, _, _, _, _, _, rfl, _⟩ := h; rfl)
  · obtain ⟨x, rfl, ⟨t, ht, hm⟩, q⟩ := h
    have hu := hu_of hr
    refine ⟨_, pss_one (ps_ret (pe_and (pe_callB call_isN rfl T.b_isinstance (by decide +kernel) (pa_cons (pv 0) (pa_cons (pe_bltn (v := .ty "int") (by rfl) T.b_int (by decide +kernel) rfl) pa_nil))) (pe_one (pe_not (pe_callB call_isN rfl T.b_isinstance (by decide +kernel) (pa_cons (pv 0) (pa_cons (pe_bltn (v := .ty "bool") (by rfl) T.b_bool (by decide +kernel) rfl) pa_nil))))))), ?_⟩
    have h := tyN_int (H := H) (x := x)
    rw [ht] at h
    simp only [L2.start, List.map_cons, List.map_nil, List.length_cons, List.length_nil, Nat.zero_add, Nat.reduceAdd, Nat.reduceSub, List.replicate_succ, List.replicate_zero, List.cons_append, List.nil_append, List.append_nil, L2.tNext, L2.tAsg, L2.gName, L2.tRet, L2.tRetN, L2.tIfS, L2.tVar, L2.tC, L2.tOp, L2.tUn, L2.rI, L2.rI0, L2.rU, L2.rEq, L2.rNe, L2.tTest, L2.tB, L2.tIf, Z.tIfCI, Z.tIfCS, L2.tChain, L2.tCons, L2.tNil, L2.tCall, L2.tDrop, L2.tAndV, L2.tOrV, L2.tNotV, L2.tAnd, L2.tOr, L2.tNot, L2.tCB, Z.sc_ii, Z.sc_ss, Z.sc_bb, Z.sc_is, Z.sc_si, Z.sc_ni, Z.sc_in, Z.sc_ns, Z.sc_sn, Z.sc_nn, L2.CDiv, L2.CPow, L2.CMul, List.getElem?_cons_zero, List.getElem?_cons_succ, Z.set_z, Z.set_s, Option.some.injEq, L2.V.int.injEq, L2.V.bl.injEq, L2.V.str.injEq, L2.V.ref.injEq, L2.V.ty.injEq, List.cons.injEq, exists_eq_left', exists_and_left, exists_eq_left, exists_eq_right, exists_eq_right', exists_eq', exists_eq, true_and, and_true, and_assoc, decide_eq_true_eq, Int.reduceLT, and_self, Z.rIxH, Z.rIxU, Z.at30, Z.at31, Z.at32, Z.ix3_0, Z.ix3_1, Z.ix3_2, L2.rSetL, L2.gSub, Z.gTupH, L2.gCons, L2.gNil, L2.HO.lst.injEq, L2.HO.tup.injEq, L2.upd_same, L2.upd_upd, L2.tSl, L2.tNoPart, L2.tPart, L2.rSlL, L2.rCat, List.length_append, or_false, false_or, or_true, true_or, reduceCtorEq, false_and, and_false, exists_false, Int.reduceNeg, Int.reducePow, Int.reduceToNat, Int.reduceAbs, Int.reduceLE, Int.reduceMul, Int.reduceAdd, Int.reduceSub, Nat.reducePow, Nat.reduceLT, Nat.reduceLeDiff, Int.natAbs_natCast, if_true, if_false, Z.rIsN, Z.kit_ii, Z.kit_bi, Z.kit_si, Z.kit_ni, Z.kit_ib, Z.kit_bb, Z.kit_sb, Z.kit_nb, Z.kit_is, Z.kit_bs, Z.kit_ss, Z.kit_ns, Bool.not_true, Bool.not_false, L2.tTup, L2.tLst, L2.wipe, L2.tYes, Z.Turn1, L2.tNever, sizeLine_eq, Z.rInU, Z.rInH, L2.flatV, List.any_cons, List.any_nil, List.all_cons, List.all_nil, Bool.and_true, Bool.true_and, Bool.or_false, Bool.false_or, Z.tBML, L2.rAppend, Z.map_int_inj, Z.map_bl_inj, Z.rTupL, Z.rLstL, Z.rLstT, Z.rSortI, Z.rAnyH, Z.rAllH, Z.rSumH, Z.rLenL, Z.rLenU, List.length_map, L2.tPar, StX.tStar, L2.tDNewT, L2.tDIn, L2.sDPut, L2.tDGet, Z.tCallK0, List.getD_cons_zero, List.getD_cons_succ]
    refine ⟨t, ht, _, (kit_all t hm).1, ?_⟩
    by_cases c1 : t = "int"
    · subst c1
      rw [decide_eq_true (.inl rfl), if_pos rfl]
      refine ⟨_, ht, _, (kit_all _ hm).2.1, ?_⟩
      rw [h.mp rfl] at q
      exact q
    · have e : isI x = false := by
        cases hx : isI x
        · rfl
        · exact absurd (Option.some.inj (h.mpr hx)) c1
      rw [e] at q
      by_cases c2 : t = "bool"
      · subst c2
        rw [decide_eq_true (.inr rfl), if_pos rfl]
        exact ⟨_, ht, _, (kit_all _ hm).2.1, q⟩
      · rw [decide_eq_false (by rintro (z | z) <;> contradiction), if_neg Bool.false_ne_true]
        exact q
theorem known_int {H : Hp} (i : Int) : Known H (.int i) := ⟨"int", rfl, by decide⟩
theorem known_non {H : Hp} : Known H .non := ⟨"NoneType", rfl, by decide⟩
theorem known_str {H : Hp} (z : Str) : Known H (.str z) := ⟨"str", rfl, by decide⟩
theorem known_bl {H : Hp} (b : Bool) : Known H (.bl b) := ⟨"bool", rfl, by decide⟩
theorem known_tup {H : Hp} {a : Addr} {xs : List V} (h : H a = some (.tup xs)) : Known H (.ref a) := ⟨"tuple", tyN_tup h, by decide⟩
theorem known_lst {H : Hp} {a : Addr} {xs : List V} (h : H a = some (.lst xs)) : Known H (.ref a) := ⟨"list", tyN_lst h, by decide⟩
def sp_is_between : Sp := fun vs H Q _ => ∃ (x : V) (l m : Int), vs = [x, .int l, .int m] ∧ Known H x ∧ Q (.bl (inB l m x)) H
theorem ok_is_between (T : Env w K mg) : Hd P w K mg base CX0 2 "is_between" s_is_between ["value", "least", "most"] sp_is_between := by
  have H_is_integer := ok_is_integer (P := P) (w := w) (base := base) T
  obtain ⟨f, fd, F, hm⟩ := T.d_is_between
  refine ⟨⟨f, fd, F, hm, ?_⟩, fun _ _ _ _ _ _ _ us hl => match us, hl with | [_, _, _], _ => rfl⟩
  refine F.ok sc_is_between (fun vs H Q E h => ?_) (fun cdv A outer s H vs Q E hr h => ?_)
  · first | (obtain ⟨rfl, _⟩ := h; rfl) | (obtain ⟨_, rfl, _⟩ := h; rfl) | (obtain ⟨_, _, rfl, _⟩ := h; rfl) | (obtain ⟨_, _, _, rfl, _⟩ := h; rfl) | (obtain ⟨_, _, _, _, rfl, _⟩ := h; rfl) | (obtain ⟨_, _, _, _, _, rfl, _⟩ := h; rfl) | (obtain ⟨_, _, _, _, _, _, rfl, _⟩ := h; rfl) | (obtain ⟨_, _, _, _, _, _, _, rfl, _⟩ := h; rfl) | (obtain ⟨_, _, _, _, _, _, _, _, rfl, _⟩ := h; rfl)
  · obtain ⟨x, l, m, rfl, hx, q⟩ := h
    have hu := hu_of hr
    refine ⟨_, pss_one (ps_ret (pe_and (pe_hd H_is_integer (hr.mono (by decide)) rfl pass0 (pa_cons (pv 0) pa_nil)) (pe_one (pe_chain op_le op_le (pv 1) (pv 0) (pv 2))))), ?_⟩
    simp only [L2.start, List.map_cons, List.map_nil, List.length_cons, List.length_nil, Nat.zero_add, Nat.reduceAdd, Nat.reduceSub, List.replicate_succ, List.replicate_zero, List.cons_append, List.nil_append, List.append_nil, L2.tNext, L2.tAsg, L2.gName, L2.tRet, L2.tRetN, L2.tIfS, L2.tVar, L2.tC, L2.tOp, L2.tUn, L2.rI, L2.rI0, L2.rU, L2.rEq, L2.rNe, L2.tTest, L2.tB, L2.tIf, Z.tIfCI, Z.tIfCS, L2.tChain, L2.tCons, L2.tNil, L2.tCall, L2.tDrop, L2.tAndV, L2.tOrV, L2.tNotV, L2.tAnd, L2.tOr, L2.tNot, L2.tCB, Z.sc_ii, Z.sc_ss, Z.sc_bb, Z.sc_is, Z.sc_si, Z.sc_ni, Z.sc_in, Z.sc_ns, Z.sc_sn, Z.sc_nn, L2.CDiv, L2.CPow, L2.CMul, List.getElem?_cons_zero, List.getElem?_cons_succ, Z.set_z, Z.set_s, Option.some.injEq, L2.V.int.injEq, L2.V.bl.injEq, L2.V.str.injEq, L2.V.ref.injEq, L2.V.ty.injEq, List.cons.injEq, exists_eq_left', exists_and_left, exists_eq_left, exists_eq_right, exists_eq_right', exists_eq', exists_eq, true_and, and_true, and_assoc, decide_eq_true_eq, Int.reduceLT, and_self, Z.rIxH, Z.rIxU, Z.at30, Z.at31, Z.at32, Z.ix3_0, Z.ix3_1, Z.ix3_2, L2.rSetL, L2.gSub, Z.gTupH, L2.gCons, L2.gNil, L2.HO.lst.injEq, L2.HO.tup.injEq, L2.upd_same, L2.upd_upd, L2.tSl, L2.tNoPart, L2.tPart, L2.rSlL, L2.rCat, List.length_append, or_false, false_or, or_true, true_or, reduceCtorEq, false_and, and_false, exists_false, Int.reduceNeg, Int.reducePow, Int.reduceToNat, Int.reduceAbs, Int.reduceLE, Int.reduceMul, Int.reduceAdd, Int.reduceSub, Nat.reducePow, Nat.reduceLT, Nat.reduceLeDiff, Int.natAbs_natCast, if_true, if_false, Z.rIsN, Z.tyN, Z.kit_ii, Z.kit_bi, Z.kit_si, Z.kit_ni, Z.kit_ib, Z.kit_bb, Z.kit_sb, Z.kit_nb, Z.kit_is, Z.kit_bs, Z.kit_ss, Z.kit_ns, Bool.not_true, Bool.not_false, L2.tTup, L2.tLst, L2.wipe, L2.tYes, Z.Turn1, L2.tNever, sizeLine_eq, Z.rInU, Z.rInH, L2.flatV, List.any_cons, List.any_nil, List.all_cons, List.all_nil, Bool.and_true, Bool.true_and, Bool.or_false, Bool.false_or, Z.tBML, L2.rAppend, Z.map_int_inj, Z.map_bl_inj, Z.rTupL, Z.rLstL, Z.rLstT, Z.rSortI, Z.rAnyH, Z.rAllH, Z.rSumH, Z.rLenL, Z.rLenU, List.length_map, L2.tPar, StX.tStar, L2.tDNewT, L2.tDIn, L2.sDPut, L2.tDGet, Z.tCallK0, List.getD_cons_zero, List.getD_cons_succ, sp_is_integer]
    refine ⟨hx, ?_⟩
    cases x with
    | int i =>
      simp only [isI, if_true, L2.V.int.injEq, exists_eq_left']
      unfold inB at q
      by_cases c : l ≤ i
      · simp only [c, true_and, decide_true, if_true] at q ⊢
        exact q
      · simp only [c, false_and, decide_false, Bool.false_eq_true, if_false] at q ⊢
        exact q
    | _ =>
      simp only [isI, Bool.false_eq_true, if_false]
      exact q
def sizeV (r : Bool) (m : Int) : V → Bool
  | .int n => if r then (decide (3 ≤ n ∧ n ≤ m) && decide (n % 2 = 1)) else (decide (2 ≤ n ∧ n ≤ m) && decide (n % 2 = 0))
  | _ => false
def sp_is_size : Sp := fun vs H Q _ => ∃ (r : Bool) (x : V) (m : Int), vs = [.str (kindS r), x, .int m] ∧ Known H x ∧ Q (.bl (sizeV r m x)) H
theorem ok_is_size (T : Env w K mg) : Hd P w K mg base CX0 3 "is_size" s_is_size ["kind", "value", "most"] sp_is_size := by
  have H_is_between := ok_is_between (P := P) (w := w) (base := base) T
  obtain ⟨f, fd, F, hm⟩ := T.d_is_size
  refine ⟨⟨f, fd, F, hm, ?_⟩, fun _ _ _ _ _ _ _ us hl => match us, hl with | [_, _, _], _ => rfl⟩
  refine F.ok sc_is_size (fun vs H Q E h => ?_) (fun cdv A outer s H vs Q E hr h => ?_)
  · first | (obtain ⟨rfl, _⟩ := h; rfl) | (obtain ⟨_, rfl, _⟩ := h; rfl) | (obtain ⟨_, _, rfl, _⟩ := h; rfl) | (obtain ⟨_, _, _, rfl, _⟩ := h; rfl) | (obtain ⟨_, _, _, _, rfl, _⟩ := h; rfl) | (obtain ⟨_, _, _, _, _, rfl, _⟩ := h; rfl) | (obtain ⟨_, _, _, _, _, _, rfl, _⟩ := h; rfl) | (obtain ⟨_, _, _, _, _, _, _, rfl, _⟩ := h; rfl) | (obtain ⟨_, _, _, _, _, _, _, _, rfl, _⟩ := h; rfl)
  · obtain ⟨r, x, m, rfl, hx, q⟩ := h
    have hu := hu_of hr
    refine ⟨_, pss_cons (ps_if (pt_cmpR op_eq (pv 0) (pe_glob (v := .str "rings") rfl T.c_RINGS.choose_spec ⟨_, rfl⟩) (nomark _)) (pss_one (ps_ret (pe_and (pe_hd H_is_between (hr.mono (by decide)) rfl pass0 (pa_cons (pv 1) (pa_cons pe_int (pa_cons (pv 2) pa_nil)))) (pe_one (pe_cmpR op_eq (pe_op op_mod (pv 1) pe_int) pe_int (nomark _))))))
      (pss_nil))
      (pss_one (ps_ret (pe_and (pe_hd H_is_between (hr.mono (by decide)) rfl pass0 (pa_cons (pv 1) (pa_cons pe_int (pa_cons (pv 2) pa_nil)))) (pe_one (pe_cmpR op_eq (pe_op op_mod (pv 1) pe_int) pe_int (nomark _)))))), ?_⟩
    simp only [L2.start, List.map_cons, List.map_nil, List.length_cons, List.length_nil, Nat.zero_add, Nat.reduceAdd, Nat.reduceSub, List.replicate_succ, List.replicate_zero, List.cons_append, List.nil_append, List.append_nil, L2.tSeq, L2.tNext, L2.tAsg, L2.gName, L2.tRet, L2.tRetN, L2.tIfS, L2.tVar, L2.tC, L2.tOp, L2.tUn, L2.rI, L2.rI0, L2.rU, L2.rEq, L2.rNe, L2.tTest, L2.tB, L2.tIf, Z.tIfCI, Z.tIfCS, L2.tChain, L2.tCons, L2.tNil, L2.tCall, L2.tDrop, L2.tAndV, L2.tOrV, L2.tNotV, L2.tAnd, L2.tOr, L2.tNot, L2.tCB, Z.sc_ii, Z.sc_ss, Z.sc_bb, Z.sc_is, Z.sc_si, Z.sc_ni, Z.sc_in, Z.sc_ns, Z.sc_sn, Z.sc_nn, L2.CDiv, L2.CPow, L2.CMul, List.getElem?_cons_zero, List.getElem?_cons_succ, Z.set_z, Z.set_s, Option.some.injEq, L2.V.int.injEq, L2.V.bl.injEq, L2.V.str.injEq, L2.V.ref.injEq, L2.V.ty.injEq, List.cons.injEq, exists_eq_left', exists_and_left, exists_eq_left, exists_eq_right, exists_eq_right', exists_eq', exists_eq, true_and, and_true, and_assoc, decide_eq_true_eq, Int.reduceLT, and_self, Z.rIxH, Z.rIxU, Z.at30, Z.at31, Z.at32, Z.ix3_0, Z.ix3_1, Z.ix3_2, L2.rSetL, L2.gSub, Z.gTupH, L2.gCons, L2.gNil, L2.HO.lst.injEq, L2.HO.tup.injEq, L2.upd_same, L2.upd_upd, L2.tSl, L2.tNoPart, L2.tPart, L2.rSlL, L2.rCat, List.length_append, or_false, false_or, or_true, true_or, reduceCtorEq, false_and, and_false, exists_false, Int.reduceNeg, Int.reducePow, Int.reduceToNat, Int.reduceAbs, Int.reduceLE, Int.reduceMul, Int.reduceAdd, Int.reduceSub, Nat.reducePow, Nat.reduceLT, Nat.reduceLeDiff, Int.natAbs_natCast, if_true, if_false, Z.rIsN, Z.tyN, Z.kit_ii, Z.kit_bi, Z.kit_si, Z.kit_ni, Z.kit_ib, Z.kit_bb, Z.kit_sb, Z.kit_nb, Z.kit_is, Z.kit_bs, Z.kit_ss, Z.kit_ns, Bool.not_true, Bool.not_false, L2.tTup, L2.tLst, L2.wipe, L2.tYes, Z.Turn1, L2.tNever, sizeLine_eq, Z.rInU, Z.rInH, L2.flatV, List.any_cons, List.any_nil, List.all_cons, List.all_nil, Bool.and_true, Bool.true_and, Bool.or_false, Bool.false_or, Z.tBML, L2.rAppend, Z.map_int_inj, Z.map_bl_inj, Z.rTupL, Z.rLstL, Z.rLstT, Z.rSortI, Z.rAnyH, Z.rAllH, Z.rSumH, Z.rLenL, Z.rLenU, List.length_map, L2.tPar, StX.tStar, L2.tDNewT, L2.tDIn, L2.sDPut, L2.tDGet, Z.tCallK0, List.getD_cons_zero, List.getD_cons_succ, sp_is_between, kind_eq]
    unfold sizeV at q
    cases x with
    | int i =>
      simp only [inB, L2.V.int.injEq, exists_eq_left'] at q ⊢
      cases r
      · simp only [Bool.false_eq_true, if_false] at q ⊢
        refine ⟨hx, ?_⟩
        split
        · simp_all
        · simp_all
      · simp only [if_true] at q ⊢
        refine ⟨hx, ?_⟩
        split
        · simp_all
        · simp_all
    | _ =>
      simp only [inB, Bool.false_eq_true, if_false] at q ⊢
      split <;> exact ⟨hx, q⟩
def sp_evenings_for : Sp := fun vs H Q _ => ∃ (r : Bool) (n : Int), vs = [.str (kindS r), .int n] ∧ Q (.int (nights r n)) H
theorem ok_evenings_for (T : Env w K mg) : Hd P w K mg base CX0 1 "evenings_for" s_evenings_for ["kind", "many"] sp_evenings_for := by
  obtain ⟨f, fd, F, hm⟩ := T.d_evenings_for
  refine ⟨⟨f, fd, F, hm, ?_⟩, fun _ _ _ _ _ _ _ us hl => match us, hl with | [_, _], _ => rfl⟩
  refine F.ok sc_evenings_for (fun vs H Q E h => ?_) (fun cdv A outer s H vs Q E hr h => ?_)
  · first | (obtain ⟨rfl, _⟩ := h; rfl) | (obtain ⟨_, rfl, _⟩ := h; rfl) | (obtain ⟨_, _, rfl, _⟩ := h; rfl) | (obtain ⟨_, _, _, rfl, _⟩ := h; rfl) | (obtain ⟨_, _, _, _, rfl, _⟩ := h; rfl) | (obtain ⟨_, _, _, _, _, rfl, _⟩ := h; rfl) | (obtain ⟨_, _, _, _, _, _, rfl, _⟩ := h; rfl) | (obtain ⟨_, _, _, _, _, _, _, rfl, _⟩ := h; rfl) | (obtain ⟨_, _, _, _, _, _, _, _, rfl, _⟩ := h; rfl)
  · obtain ⟨r, n, rfl, q⟩ := h
    have hu := hu_of hr
    refine ⟨_, pss_one (ps_ret (pe_ifExp (pt_cmpR op_eq (pv 0) (pe_glob (v := .str "rings") rfl T.c_RINGS.choose_spec ⟨_, rfl⟩) (nomark _)) (pe_op op_fdiv (pe_op op_sub (pv 1) pe_int) pe_int) (pe_op op_fdiv (pv 1) pe_int))), ?_⟩
    simp only [L2.start, List.map_cons, List.map_nil, List.length_cons, List.length_nil, Nat.zero_add, Nat.reduceAdd, Nat.reduceSub, List.replicate_succ, List.replicate_zero, List.cons_append, List.nil_append, List.append_nil, L2.tSeq, L2.tNext, L2.tAsg, L2.gName, L2.tRet, L2.tRetN, L2.tIfS, L2.tVar, L2.tC, L2.tOp, L2.tUn, L2.rI, L2.rI0, L2.rU, L2.rEq, L2.rNe, L2.tTest, L2.tB, L2.tIf, Z.tIfCI, Z.tIfCS, L2.tChain, L2.tCons, L2.tNil, L2.tCall, L2.tDrop, L2.tAndV, L2.tOrV, L2.tNotV, L2.tAnd, L2.tOr, L2.tNot, L2.tCB, Z.sc_ii, Z.sc_ss, Z.sc_bb, Z.sc_is, Z.sc_si, Z.sc_ni, Z.sc_in, Z.sc_ns, Z.sc_sn, Z.sc_nn, L2.CDiv, L2.CPow, L2.CMul, List.getElem?_cons_zero, List.getElem?_cons_succ, Z.set_z, Z.set_s, Option.some.injEq, L2.V.int.injEq, L2.V.bl.injEq, L2.V.str.injEq, L2.V.ref.injEq, L2.V.ty.injEq, List.cons.injEq, exists_eq_left', exists_and_left, exists_eq_left, exists_eq_right, exists_eq_right', exists_eq', exists_eq, true_and, and_true, and_assoc, decide_eq_true_eq, Int.reduceLT, and_self, Z.rIxH, Z.rIxU, Z.at30, Z.at31, Z.at32, Z.ix3_0, Z.ix3_1, Z.ix3_2, L2.rSetL, L2.gSub, Z.gTupH, L2.gCons, L2.gNil, L2.HO.lst.injEq, L2.HO.tup.injEq, L2.upd_same, L2.upd_upd, L2.tSl, L2.tNoPart, L2.tPart, L2.rSlL, L2.rCat, List.length_append, or_false, false_or, or_true, true_or, reduceCtorEq, false_and, and_false, exists_false, Int.reduceNeg, Int.reducePow, Int.reduceToNat, Int.reduceAbs, Int.reduceLE, Int.reduceMul, Int.reduceAdd, Int.reduceSub, Nat.reducePow, Nat.reduceLT, Nat.reduceLeDiff, Int.natAbs_natCast, if_true, if_false, Z.rIsN, Z.tyN, Z.kit_ii, Z.kit_bi, Z.kit_si, Z.kit_ni, Z.kit_ib, Z.kit_bb, Z.kit_sb, Z.kit_nb, Z.kit_is, Z.kit_bs, Z.kit_ss, Z.kit_ns, Bool.not_true, Bool.not_false, L2.tTup, L2.tLst, L2.wipe, L2.tYes, Z.Turn1, L2.tNever, sizeLine_eq, Z.rInU, Z.rInH, L2.flatV, List.any_cons, List.any_nil, List.all_cons, List.all_nil, Bool.and_true, Bool.true_and, Bool.or_false, Bool.false_or, Z.tBML, L2.rAppend, Z.map_int_inj, Z.map_bl_inj, Z.rTupL, Z.rLstL, Z.rLstT, Z.rSortI, Z.rAnyH, Z.rAllH, Z.rSumH, Z.rLenL, Z.rLenU, List.length_map, L2.tPar, StX.tStar, L2.tDNewT, L2.tDIn, L2.sDPut, L2.tDGet, Z.tCallK0, List.getD_cons_zero, List.getD_cons_succ, kind_eq]
    unfold nights at q
    split <;> simp_all
def sp_check_kind : Sp := fun vs H Q _ => ∃ (r : Bool), vs = [.str (kindS r)] ∧ ∀ H', Same H H' → Q .non H'
theorem ok_check_kind (T : Env w K mg) : Hd P w K mg base CX0 1 "check_kind" s_check_kind ["kind"] sp_check_kind := by
  obtain ⟨f, fd, F, hm⟩ := T.d_check_kind
  refine ⟨⟨f, fd, F, hm, ?_⟩, fun _ _ _ _ _ _ _ us hl => match us, hl with | [_], _ => rfl⟩
  refine F.ok sc_check_kind (fun vs H Q E h => ?_) (fun cdv A outer s H vs Q E hr h => ?_)
  · first | (obtain ⟨rfl, _⟩ := h; rfl) | (obtain ⟨_, rfl, _⟩ := h; rfl) | (obtain ⟨_, _, rfl, _⟩ := h; rfl) | (obtain ⟨_, _, _, rfl, _⟩ := h; rfl) | (obtain ⟨_, _, _, _, rfl, _⟩ := h; rfl) | (obtain ⟨_, _, _, _, _, rfl, _⟩ := h; rfl) | (obtain ⟨_, _, _, _, _, _, rfl, _⟩ := h; rfl) | (obtain ⟨_, _, _, _, _, _, _, rfl, _⟩ := h; rfl) | (obtain ⟨_, _, _, _, _, _, _, _, rfl, _⟩ := h; rfl)
  · obtain ⟨r, rfl, q⟩ := h
    have hu := hu_of hr
    refine ⟨_, pss_one (ps_if (PW.pt (pw_or (pt_not (pt_val (pe_callB call_isN rfl T.b_isinstance (by decide +kernel) (pa_cons (pv 0) (pa_cons (pe_bltn (v := .ty "str") (by rfl) T.b_str (by decide +kernel) rfl) pa_nil))))) (pw_or1 (pt_cmpR op_notIn_tupH (pv 0) (pe_tup (pa_cons (pe_glob (v := .str "rings") rfl T.c_RINGS.choose_spec ⟨_, rfl⟩) (pa_cons (pe_glob (v := .str "rows") rfl T.c_ROWS.choose_spec ⟨_, rfl⟩) pa_nil))) (by rfl))))) (pss_one (ps_never))
      (pss_nil)), ?_⟩
    simp only [L2.start, List.map_cons, List.map_nil, List.length_cons, List.length_nil, Nat.zero_add, Nat.reduceAdd, Nat.reduceSub, List.replicate_succ, List.replicate_zero, List.cons_append, List.nil_append, List.append_nil, L2.tSeq, L2.tNext, L2.tAsg, L2.gName, L2.tRet, L2.tRetN, L2.tIfS, L2.tVar, L2.tC, L2.tOp, L2.tUn, L2.rI, L2.rI0, L2.rU, L2.rEq, L2.rNe, L2.tTest, L2.tB, L2.tIf, Z.tIfCI, Z.tIfCS, L2.tChain, L2.tCons, L2.tNil, L2.tCall, L2.tDrop, L2.tAndV, L2.tOrV, L2.tNotV, L2.tAnd, L2.tOr, L2.tNot, L2.tCB, Z.sc_ii, Z.sc_ss, Z.sc_bb, Z.sc_is, Z.sc_si, Z.sc_ni, Z.sc_in, Z.sc_ns, Z.sc_sn, Z.sc_nn, L2.CDiv, L2.CPow, L2.CMul, List.getElem?_cons_zero, List.getElem?_cons_succ, Z.set_z, Z.set_s, Option.some.injEq, L2.V.int.injEq, L2.V.bl.injEq, L2.V.str.injEq, L2.V.ref.injEq, L2.V.ty.injEq, List.cons.injEq, exists_eq_left', exists_and_left, exists_eq_left, exists_eq_right, exists_eq_right', exists_eq', exists_eq, true_and, and_true, and_assoc, decide_eq_true_eq, Int.reduceLT, and_self, Z.rIxH, Z.rIxU, Z.at30, Z.at31, Z.at32, Z.ix3_0, Z.ix3_1, Z.ix3_2, L2.rSetL, L2.gSub, Z.gTupH, L2.gCons, L2.gNil, L2.HO.lst.injEq, L2.HO.tup.injEq, L2.upd_same, L2.upd_upd, L2.tSl, L2.tNoPart, L2.tPart, L2.rSlL, L2.rCat, List.length_append, or_false, false_or, or_true, true_or, reduceCtorEq, false_and, and_false, exists_false, Int.reduceNeg, Int.reducePow, Int.reduceToNat, Int.reduceAbs, Int.reduceLE, Int.reduceMul, Int.reduceAdd, Int.reduceSub, Nat.reducePow, Nat.reduceLT, Nat.reduceLeDiff, Int.natAbs_natCast, if_true, if_false, Z.rIsN, Z.tyN, Z.kit_ii, Z.kit_bi, Z.kit_si, Z.kit_ni, Z.kit_ib, Z.kit_bb, Z.kit_sb, Z.kit_nb, Z.kit_is, Z.kit_bs, Z.kit_ss, Z.kit_ns, Bool.not_true, Bool.not_false, L2.tTup, L2.tLst, L2.wipe, L2.tYes, Z.Turn1, L2.tNever, sizeLine_eq, Z.rInU, Z.rInH, L2.flatV, List.any_cons, List.any_nil, List.all_cons, List.all_nil, Bool.and_true, Bool.true_and, Bool.or_false, Bool.false_or, Z.tBML, L2.rAppend, Z.map_int_inj, Z.map_bl_inj, Z.rTupL, Z.rLstL, Z.rLstT, Z.rSortI, Z.rAnyH, Z.rAllH, Z.rSumH, Z.rLenL, Z.rLenU, List.length_map, L2.tPar, StX.tStar, L2.tDNewT, L2.tDIn, L2.sDPut, L2.tDGet, Z.tCallK0, List.getD_cons_zero, List.getD_cons_succ, kind_eq, L2.inV, L2.eqV]
    intro p hp
    cases r
    · exact q _ (same_new hp)
    · exact q _ (same_new hp)

open Zig
theorem nodup_len {m ns : List Int} (hm : m.Nodup) (h : ∀ k, k ∈ m ↔ k ∈ ns) : (m.length = ns.length) ↔ ns.Nodup := by
  constructor
  · intro e
    exact (perm_of_sub hm (fun x hx => (h x).mp hx) e).nodup_iff.mp hm
  · intro hn
    exact ((List.perm_ext_iff_of_nodup hm hn).mpr h).length_eq
def rowOf (H : Hp) : V → Option (List V)
  | .ref a => match H a with
    | some (.tup xs) => some xs
    | _ => none
  | _ => none
theorem rowOf_tup {H : Hp} {a : Addr} {xs : List V} (h : H a = some (.tup xs)) : rowOf H (.ref a) = some xs := by
  simp only [rowOf, h]
theorem rowOf_none {H : Hp} {x : V} {t : String} (ht : tyN H x = some t) (hm : t ≠ "tuple") : rowOf H x = none := by
  cases x with
  | ref a =>
    simp only [rowOf]
    simp only [tyN] at ht
    split
    · rename_i h
      rw [h] at ht
      exact absurd (Option.some.inj ht).symm hm
    · rfl
  | _ => rfl
theorem row_of_tuple {H : Hp} {x : V} (ht : tyN H x = some "tuple") : ∃ a xs, x = .ref a ∧ H a = some (.tup xs) := by
  cases x with
  | ref a =>
    simp only [tyN] at ht
    split at ht
    · exact absurd (Option.some.inj ht) (by decide)
    · rename_i xs h
      exact ⟨a, xs, rfl, h⟩
    · exact absurd (Option.some.inj ht) (by decide)
    · exact absurd (Option.some.inj ht) (by decide)
    · cases ht
  | non => exact absurd (Option.some.inj ht) (by decide)
  | bl b => exact absurd (Option.some.inj ht) (by decide)
  | int i => exact absurd (Option.some.inj ht) (by decide)
  | str z => exact absurd (Option.some.inj ht) (by decide)
  | _ => cases ht
def intOf : V → Option Int
  | .int i => some i
  | _ => none
def intsOf (xs : List V) : List Int := xs.filterMap intOf
theorem ints_back {l m : Int} : ∀ {xs : List V}, xs.all (inB l m) = true → xs = (intsOf xs).map V.int ∧ ∀ i ∈ intsOf xs, l ≤ i ∧ i ≤ m
  | [], _ => ⟨rfl, fun _ h => absurd h List.not_mem_nil⟩
  | x :: r, h => by
    rw [List.all_cons, Bool.and_eq_true] at h
    obtain ⟨h1, h2⟩ := ints_back h.2
    cases x with
    | int i =>
      have hb : l ≤ i ∧ i ≤ m := of_decide_eq_true h.1
      have e : intsOf (V.int i :: r) = i :: intsOf r := rfl
      rw [e]
      refine ⟨by rw [List.map_cons, ← h1], fun j hj => ?_⟩
      rcases List.mem_cons.mp hj with rfl | hj
      · exact hb
      · exact h2 j hj
    | _ => exact absurd h.1 (by simp [inB])
def everyB (n : Int) : Option (List V) → Bool
  | none => false
  | some xs => decide ((xs.length : Int) = n) && (xs.all (inB 0 (n - 1)) && decide ((intsOf xs).Nodup))
theorem everyB_some (n : Int) (xs : List V) : everyB n (some xs) = (decide ((xs.length : Int) = n) && (xs.all (inB 0 (n - 1)) && decide ((intsOf xs).Nodup))) := rfl
theorem Known.same {H H' : Hp} {x : V} (k : Known H x) (s : Same H H') : Known H' x := by
  obtain ⟨t, ht, hm⟩ := k
  refine ⟨t, ?_, hm⟩
  cases x with
  | ref a =>
    simp only [tyN] at ht ⊢
    cases e : H a with
    | none =>
      rw [e] at ht
      cases ht
    | some o =>
      rw [s _ _ e]
      rw [e] at ht
      exact ht
  | _ => exact ht
def blF (f : V → Bool) (x : V) : Option V := some (.bl (f x))
theorem fm_bl (f : V → Bool) : ∀ xs : List V, xs.filterMap (blF f) = (xs.map f).map V.bl
  | [] => rfl
  | x :: r => by
    rw [List.filterMap_cons, fm_bl f r]
    rfl
theorem all_map (f : V → Bool) : ∀ xs : List V, (xs.map f).all id = xs.all f
  | [] => rfl
  | x :: r => by
    rw [List.map_cons, List.all_cons, List.all_cons, all_map f r]
    rfl
def sp_is_everybody : Sp := fun vs H Q _ => ∃ (n : Int) (x : V), vs = [.int n, x] ∧ Known H x ∧ (∀ xs, rowOf H x = some xs → xs.length ≤ 1000 ∧ ∀ z ∈ xs, Known H z) ∧ ∀ H', Same H H' → Q (.bl (everyB n (rowOf H x))) H'
theorem ok_is_everybody (T : Env w K mg) : Hd P w K mg base CX0 3 "is_everybody" s_is_everybody ["n", "value"] sp_is_everybody := by
  have H_is_between := ok_is_between (P := P) (w := w) (base := base) T
  obtain ⟨f, fd, F, hm⟩ := T.d_is_everybody
  refine ⟨⟨f, fd, F, hm, ?_⟩, fun _ _ _ _ _ _ _ us hl => match us, hl with | [_, _], _ => rfl⟩
  refine F.ok sc_is_everybody (fun vs H Q E h => ?_) (fun cdv A outer s H vs Q E hr h => ?_)
  · first | (obtain ⟨rfl, _⟩ := h; rfl) | (obtain ⟨_, rfl, _⟩ := h; rfl) | (obtain ⟨_, _, rfl, _⟩ := h; rfl) | (obtain ⟨_, _, _, rfl, _⟩ := h; rfl) | (obtain ⟨_, _, _, _, rfl, _⟩ := h; rfl) | (obtain ⟨_, _, _, _, _, rfl, _⟩ := h; rfl) | (obtain ⟨_, _, _, _, _, _, rfl, _⟩ := h; rfl) | (obtain ⟨_, _, _, _, _, _, _, rfl, _⟩ := h; rfl) | (obtain ⟨_, _, _, _, _, _, _, _, rfl, _⟩ := h; rfl)
  · obtain ⟨n, x, rfl, ⟨t, ht, hm⟩, hk, q⟩ := h
    have hu := hu_of hr
    refine ⟨_, pss_cons (ps_if (PW.pt (pw_or (pt_not (pt_val (pe_callB call_isN rfl T.b_isinstance (by decide +kernel) (pa_cons (pv 1) (pa_cons (pe_bltn (v := .ty "tuple") (by rfl) T.b_tuple (by decide +kernel) rfl) pa_nil))))) (pw_or1 (pt_cmpR op_ne (pe_callB call_lenU rfl T.b_len (by decide +kernel) (pa_cons (pv 1) pa_nil)) (pv 0) (nomark _))))) (pss_one (ps_ret pe_bl))
      (pss_nil))
      (pss_one (ps_ret (pe_and (pe_callB (cr_allH rfl) rfl T.b_all (by decide +kernel) (pa_cons (pe_lc (own := [("person", 2)]) (g := (gName 2)) (tt := tYes) rfl sc_is_everybody.nd (pi_tup (pv 1)) (blkOk_by (own := [("person", 2)]) (N := N_is_everybody) (sc := defScope s_is_everybody) (by decide +kernel)) (fun _ _ _ _ _ => pg_name (i := 2) sc_is_everybody.nd rfl (by first | exact .inl rfl | exact .inr rfl)) (fun _ _ _ _ _ => pts_nil) (fun _ _ _ _ _ => (pe_hd H_is_between (hr.mono (by decide)) rfl pass0 (pa_cons (pv 2) (pa_cons pe_int (pa_cons (pe_op op_sub (pv 0) pe_int) pa_nil)))))) pa_nil)) (pe_one (pe_cmpR op_eq (pe_lenSetT rfl rfl T.b_len rfl T.b_set (pv 1)) (pv 0) (nomark _)))))), ?_⟩
    simp only [L2.start, List.map_cons, List.map_nil, List.length_cons, List.length_nil, Nat.zero_add, Nat.reduceAdd, Nat.reduceSub, List.replicate_succ, List.replicate_zero, List.cons_append, List.nil_append, List.append_nil, L2.tNext, L2.tAsg, L2.gName, L2.tRet, L2.tRetN, L2.tIfS, L2.tVar, L2.tC, L2.tOp, L2.tUn, L2.rI, L2.rI0, L2.rU, L2.rEq, L2.rNe, L2.tTest, L2.tB, L2.tIf, Z.tIfCI, Z.tIfCS, L2.tChain, L2.tCons, L2.tNil, L2.tCall, L2.tDrop, L2.tAndV, L2.tOrV, L2.tNotV, L2.tAnd, L2.tOr, L2.tNot, L2.tCB, Z.sc_ii, Z.sc_ss, Z.sc_bb, Z.sc_is, Z.sc_si, Z.sc_ni, Z.sc_in, Z.sc_ns, Z.sc_sn, Z.sc_nn, L2.CDiv, L2.CPow, L2.CMul, List.getElem?_cons_zero, List.getElem?_cons_succ, Z.set_z, Z.set_s, Option.some.injEq, L2.V.int.injEq, L2.V.bl.injEq, L2.V.str.injEq, L2.V.ref.injEq, L2.V.ty.injEq, List.cons.injEq, exists_eq_left', exists_and_left, exists_eq_left, exists_eq_right, exists_eq_right', exists_eq', exists_eq, true_and, and_true, and_assoc, decide_eq_true_eq, Int.reduceLT, and_self, Z.rIxH, Z.rIxU, Z.at30, Z.at31, Z.at32, Z.ix3_0, Z.ix3_1, Z.ix3_2, L2.rSetL, L2.gSub, Z.gTupH, L2.gCons, L2.gNil, L2.HO.lst.injEq, L2.HO.tup.injEq, L2.upd_same, L2.upd_upd, L2.tSl, L2.tNoPart, L2.tPart, L2.rSlL, L2.rCat, List.length_append, or_false, false_or, or_true, true_or, reduceCtorEq, false_and, and_false, exists_false, Int.reduceNeg, Int.reducePow, Int.reduceToNat, Int.reduceAbs, Int.reduceLE, Int.reduceMul, Int.reduceAdd, Int.reduceSub, Nat.reducePow, Nat.reduceLT, Nat.reduceLeDiff, Int.natAbs_natCast, if_true, if_false, Z.tyN, Z.kit_ii, Z.kit_bi, Z.kit_si, Z.kit_ni, Z.kit_ib, Z.kit_bb, Z.kit_sb, Z.kit_nb, Z.kit_is, Z.kit_bs, Z.kit_ss, Z.kit_ns, Bool.not_true, Bool.not_false, L2.tTup, L2.tLst, L2.wipe, L2.tYes, Z.Turn1, L2.tNever, sizeLine_eq, Z.rInU, Z.rInH, L2.flatV, List.any_cons, List.any_nil, List.all_cons, List.all_nil, Bool.and_true, Bool.true_and, Bool.or_false, Bool.false_or, Z.tBML, L2.rAppend, Z.map_int_inj, Z.map_bl_inj, Z.rTupL, Z.rLstL, Z.rLstT, Z.rSortI, Z.rAnyH, Z.rAllH, Z.rSumH, Z.rLenL, Z.rLenU, List.length_map, L2.tPar, StX.tStar, L2.tDNewT, L2.tDIn, L2.sDPut, L2.tDGet, Z.tCallK0, List.getD_cons_zero, List.getD_cons_succ, sp_is_between]
    refine z_seq ?_
    simp only [L2.start, List.map_cons, List.map_nil, List.length_cons, List.length_nil, Nat.zero_add, Nat.reduceAdd, Nat.reduceSub, List.replicate_succ, List.replicate_zero, List.cons_append, List.nil_append, List.append_nil, L2.tNext, L2.tAsg, L2.gName, L2.tRet, L2.tRetN, L2.tIfS, L2.tVar, L2.tC, L2.tOp, L2.tUn, L2.rI, L2.rI0, L2.rU, L2.rEq, L2.rNe, L2.tTest, L2.tB, L2.tIf, Z.tIfCI, Z.tIfCS, L2.tChain, L2.tCons, L2.tNil, L2.tCall, L2.tDrop, L2.tAndV, L2.tOrV, L2.tNotV, L2.tAnd, L2.tOr, L2.tNot, L2.tCB, Z.sc_ii, Z.sc_ss, Z.sc_bb, Z.sc_is, Z.sc_si, Z.sc_ni, Z.sc_in, Z.sc_ns, Z.sc_sn, Z.sc_nn, L2.CDiv, L2.CPow, L2.CMul, List.getElem?_cons_zero, List.getElem?_cons_succ, Z.set_z, Z.set_s, Option.some.injEq, L2.V.int.injEq, L2.V.bl.injEq, L2.V.str.injEq, L2.V.ref.injEq, L2.V.ty.injEq, List.cons.injEq, exists_eq_left', exists_and_left, exists_eq_left, exists_eq_right, exists_eq_right', exists_eq', exists_eq, true_and, and_true, and_assoc, decide_eq_true_eq, Int.reduceLT, and_self, Z.rIxH, Z.rIxU, Z.at30, Z.at31, Z.at32, Z.ix3_0, Z.ix3_1, Z.ix3_2, L2.rSetL, L2.gSub, Z.gTupH, L2.gCons, L2.gNil, L2.HO.lst.injEq, L2.HO.tup.injEq, L2.upd_same, L2.upd_upd, L2.tSl, L2.tNoPart, L2.tPart, L2.rSlL, L2.rCat, List.length_append, or_false, false_or, or_true, true_or, reduceCtorEq, false_and, and_false, exists_false, Int.reduceNeg, Int.reducePow, Int.reduceToNat, Int.reduceAbs, Int.reduceLE, Int.reduceMul, Int.reduceAdd, Int.reduceSub, Nat.reducePow, Nat.reduceLT, Nat.reduceLeDiff, Int.natAbs_natCast, if_true, if_false, Z.tyN, Z.kit_ii, Z.kit_bi, Z.kit_si, Z.kit_ni, Z.kit_ib, Z.kit_bb, Z.kit_sb, Z.kit_nb, Z.kit_is, Z.kit_bs, Z.kit_ss, Z.kit_ns, Bool.not_true, Bool.not_false, L2.tTup, L2.tLst, L2.wipe, L2.tYes, Z.Turn1, L2.tNever, sizeLine_eq, Z.rInU, Z.rInH, L2.flatV, List.any_cons, List.any_nil, List.all_cons, List.all_nil, Bool.and_true, Bool.true_and, Bool.or_false, Bool.false_or, Z.tBML, L2.rAppend, Z.map_int_inj, Z.map_bl_inj, Z.rTupL, Z.rLstL, Z.rLstT, Z.rSortI, Z.rAnyH, Z.rAllH, Z.rSumH, Z.rLenL, Z.rLenU, List.length_map, L2.tPar, StX.tStar, L2.tDNewT, L2.tDIn, L2.sDPut, L2.tDGet, Z.tCallK0, List.getD_cons_zero, List.getD_cons_succ, sp_is_between]
    refine ⟨x, "tuple", rfl, t, ht, _, (kit_all t hm).2.2.1, ?_⟩
    refine ⟨_, rfl, ?_⟩
    by_cases c : t = "tuple"
    · subst c
      obtain ⟨a, xs, rfl, ha⟩ := row_of_tuple ht
      have hr := rowOf_tup ha
      obtain ⟨hl, hz⟩ := hk xs hr
      rw [hr] at q
      rw [decide_eq_true rfl, if_neg (by decide)]
      refine ⟨a, rfl, _, ha, ?_⟩
      by_cases c1 : (xs.length : Int) = n
      · rw [decide_eq_true c1, if_neg (by decide)]
        refine lc_mapT (a := a) (xs := xs) (H1 := H) (blF (inB 0 (n - 1))) (fun R h => ⟨_, rfl, h⟩) (SqT.of ha) hl (fun z hz1 H1 s1 => ?_) fun D H1 hD s1 e1 => ?_
        · intro Y N hY hN
          simp only [L2.start, List.map_cons, List.map_nil, List.length_cons, List.length_nil, Nat.zero_add, Nat.reduceAdd, Nat.reduceSub, List.replicate_succ, List.replicate_zero, List.cons_append, List.nil_append, List.append_nil, L2.tNext, L2.tAsg, L2.gName, L2.tRet, L2.tRetN, L2.tIfS, L2.tVar, L2.tC, L2.tOp, L2.tUn, L2.rI, L2.rI0, L2.rU, L2.rEq, L2.rNe, L2.tTest, L2.tB, L2.tIf, Z.tIfCI, Z.tIfCS, L2.tChain, L2.tCons, L2.tNil, L2.tCall, L2.tDrop, L2.tAndV, L2.tOrV, L2.tNotV, L2.tAnd, L2.tOr, L2.tNot, L2.tCB, Z.sc_ii, Z.sc_ss, Z.sc_bb, Z.sc_is, Z.sc_si, Z.sc_ni, Z.sc_in, Z.sc_ns, Z.sc_sn, Z.sc_nn, L2.CDiv, L2.CPow, L2.CMul, List.getElem?_cons_zero, List.getElem?_cons_succ, Z.set_z, Z.set_s, Option.some.injEq, L2.V.int.injEq, L2.V.bl.injEq, L2.V.str.injEq, L2.V.ref.injEq, L2.V.ty.injEq, List.cons.injEq, exists_eq_left', exists_and_left, exists_eq_left, exists_eq_right, exists_eq_right', exists_eq', exists_eq, true_and, and_true, and_assoc, decide_eq_true_eq, Int.reduceLT, and_self, Z.rIxH, Z.rIxU, Z.at30, Z.at31, Z.at32, Z.ix3_0, Z.ix3_1, Z.ix3_2, L2.rSetL, L2.gSub, Z.gTupH, L2.gCons, L2.gNil, L2.HO.lst.injEq, L2.HO.tup.injEq, L2.upd_same, L2.upd_upd, L2.tSl, L2.tNoPart, L2.tPart, L2.rSlL, L2.rCat, List.length_append, or_false, false_or, or_true, true_or, reduceCtorEq, false_and, and_false, exists_false, Int.reduceNeg, Int.reducePow, Int.reduceToNat, Int.reduceAbs, Int.reduceLE, Int.reduceMul, Int.reduceAdd, Int.reduceSub, Nat.reducePow, Nat.reduceLT, Nat.reduceLeDiff, Int.natAbs_natCast, if_true, if_false, Z.rIsN, Z.tyN, Z.kit_ii, Z.kit_bi, Z.kit_si, Z.kit_ni, Z.kit_ib, Z.kit_bb, Z.kit_sb, Z.kit_nb, Z.kit_is, Z.kit_bs, Z.kit_ss, Z.kit_ns, Bool.not_true, Bool.not_false, L2.tTup, L2.tLst, L2.wipe, L2.tYes, Z.Turn1, L2.tNever, sizeLine_eq, Z.rInU, Z.rInH, L2.flatV, List.any_cons, List.any_nil, List.all_cons, List.all_nil, Bool.and_true, Bool.true_and, Bool.or_false, Bool.false_or, Z.tBML, L2.rAppend, Z.map_int_inj, Z.map_bl_inj, Z.rTupL, Z.rLstL, Z.rLstT, Z.rSortI, Z.rAnyH, Z.rAllH, Z.rSumH, Z.rLenL, Z.rLenU, List.length_map, L2.tPar, StX.tStar, L2.tDNewT, L2.tDIn, L2.sDPut, L2.tDGet, Z.tCallK0, List.getD_cons_zero, List.getD_cons_succ, sp_is_between]
          exact ⟨(hz z hz1).same s1, hY _ H1 rfl (Same.refl _)⟩
        · rw [fm_bl] at e1
          refine ⟨D, rfl, _, e1, ?_⟩
          rw [all_map]
          have q1 := q H1 s1
          rw [everyB_some] at q1
          by_cases c2 : xs.all (inB 0 (n - 1)) = true
          · rw [if_pos c2]
            obtain ⟨b1, b2⟩ := ints_back c2
            have hle : (intsOf xs).length = xs.length := by
              have := congrArg List.length b1
              rw [List.length_map] at this
              exact this.symm
            refine ⟨_, rfl, a, intsOf xs, rfl, by rw [← b1]; exact s1 _ _ ha, by omega, fun m hmn hmem => ⟨rfl, ?_⟩⟩
            have e : decide (V.int ((m.length : Nat) : Int) = V.int n) = decide ((intsOf xs).Nodup) := by
              rw [decide_eq_decide, ← nodup_len hmn hmem, hle]
              constructor
              · intro h
                have := V.int.inj h
                omega
              · intro h
                rw [h, c1]
            rw [e]
            rw [decide_eq_true c1, c2] at q1
            exact q1
          · rw [if_neg c2]
            have c3 : xs.all (inB 0 (n - 1)) = false := by
              cases h : xs.all (inB 0 (n - 1))
              · rfl
              · exact absurd h c2
            rw [c3, Bool.false_and, Bool.and_false] at q1
            exact q1
      · rw [decide_eq_false c1, if_pos (by decide)]
        have q1 := q H (Same.refl _)
        rw [everyB_some] at q1
        rw [decide_eq_false c1, Bool.false_and] at q1
        exact q1
    · rw [decide_eq_false c, if_pos (by decide)]
      rw [rowOf_none ht c] at q
      exact q _ (Same.refl _)
theorem sort_two (a b : Int) : [a, b].mergeSort = [(mm a b).1, (mm a b).2] := by
  refine (perm_sort ?_ ?_).symm
  · unfold mm
    by_cases c : b < a
    · rw [if_pos c, if_neg (by omega)]
      exact List.Perm.swap _ _ _
    · rw [if_neg c]
      by_cases d : b > a
      · rw [if_pos d]
      · rw [if_neg d]
        have : a = b := by omega
        rw [this]
  · refine List.pairwise_cons.mpr ⟨fun z hz => ?_, List.pairwise_cons.mpr ⟨fun _ h => absurd h List.not_mem_nil, List.Pairwise.nil⟩⟩
    rw [List.mem_singleton.mp hz]
    unfold mm
    dsimp only
    split <;> split <;> omega
theorem getD_at {l : List Int} {i : Int} (h0 : 0 ≤ i) (h1 : i < l.length) : atI (l.map V.int) i = some (.int (l.getD i.toNat 0)) := by
  refine atI_int h0 ?_
  rw [List.getElem?_map, List.getD_eq_getElem?_getD, List.getElem?_eq_getElem (by omega)]
  rfl
theorem upto_ups (n : Int) : upto n = (ups n).map V.int := by
  unfold upto ups
  rw [List.map_map]
  rfl
def sp_pairs_on : Sp := fun vs H Q _ => ∃ (r : Bool) (a : Addr) (l : List Int), vs = [.str (kindS r), .ref a] ∧ TupAt H a l ∧ 0 < l.length ∧ l.length ≤ 1000 ∧ ∀ D as qs H', H D = none → Same H H' → H' D = some (.lst (as.map V.ref)) → Paired (PairAt H') as qs → qs.Perm (nbL r l) → Lex qs → Q (.ref D) H'
theorem ok_pairs_on (T : Env w K mg) : Hd P w K mg base CX0 1 "pairs_on" s_pairs_on ["kind", "some"] sp_pairs_on := by
  obtain ⟨f, fd, F, hm⟩ := T.d_pairs_on
  refine ⟨⟨f, fd, F, hm, ?_⟩, fun _ _ _ _ _ _ _ us hl => match us, hl with | [_, _], _ => rfl⟩
  refine F.ok sc_pairs_on (fun vs H Q E h => ?_) (fun cdv A outer s H vs Q E hr h => ?_)
  · first | (obtain ⟨rfl, _⟩ := h; rfl) | (obtain ⟨_, rfl, _⟩ := h; rfl) | (obtain ⟨_, _, rfl, _⟩ := h; rfl) | (obtain ⟨_, _, _, rfl, _⟩ := h; rfl) | (obtain ⟨_, _, _, _, rfl, _⟩ := h; rfl) | (obtain ⟨_, _, _, _, _, rfl, _⟩ := h; rfl) | (obtain ⟨_, _, _, _, _, _, rfl, _⟩ := h; rfl) | (obtain ⟨_, _, _, _, _, _, _, rfl, _⟩ := h; rfl) | (obtain ⟨_, _, _, _, _, _, _, _, rfl, _⟩ := h; rfl)
  · obtain ⟨r, a, l, rfl, ha, h0, h1, q⟩ := h
    have hu := hu_of hr
    refine ⟨_, pss_cons (ps_set (i := 2) sc_pairs_on.nd rfl (by first | exact .inl rfl | exact .inr rfl) (pe_cutZ (pe_ifExp (pt_cmpR op_eq (pv 0) (pe_glob (v := .str "rings") rfl T.c_RINGS.choose_spec ⟨_, rfl⟩) (nomark _)) (pe_callB call_lenU rfl T.b_len (by decide +kernel) (pa_cons (pv 1) pa_nil)) (pe_op op_sub (pe_callB call_lenU rfl T.b_len (by decide +kernel) (pa_cons (pv 1) pa_nil)) pe_int))))
      (pss_one (ps_ret (pe_callB cr_sortedPr rfl T.b_sorted (by decide +kernel) (pa_cons (pe_lc (own := [("at", 3)]) (g := (gName 3)) (tt := tYes) rfl sc_pairs_on.nd (pi_range1 rfl T.b_range (pa_cons (pv 2) pa_nil)) (blkOk_by (own := [("at", 3)]) (N := N_pairs_on) (sc := defScope s_pairs_on) (by decide +kernel)) (fun _ _ _ _ _ => pg_name (i := 3) sc_pairs_on.nd rfl (by first | exact .inl rfl | exact .inr rfl)) (fun _ _ _ _ _ => pts_nil) (fun _ _ _ _ _ => (pe_callTy call_tupleL rfl T.b_tuple (by decide +kernel) (pa_cons (pe_callB cr_sortedH rfl T.b_sorted (by decide +kernel) (pa_cons (pe_lst (pa_cons (pe_ix ix_tupH (pv 1) (pv 3) (fun _ _ => rfl)) (pa_cons (pe_ix ix_tupH (pv 1) (pe_op op_mod (pe_op op_add (pv 3) pe_int) (pe_callB call_lenU rfl T.b_len (by decide +kernel) (pa_cons (pv 1) pa_nil))) (fun _ _ => rfl)) pa_nil))) pa_nil)) pa_nil)))) pa_nil)))), ?_⟩
    simp only [L2.start, List.map_cons, List.map_nil, List.length_cons, List.length_nil, Nat.zero_add, Nat.reduceAdd, Nat.reduceSub, List.replicate_succ, List.replicate_zero, List.cons_append, List.nil_append, List.append_nil, L2.tNext, L2.tAsg, L2.gName, L2.tRet, L2.tRetN, L2.tIfS, L2.tVar, L2.tC, L2.tOp, L2.tUn, L2.rI, L2.rI0, L2.rU, L2.rEq, L2.rNe, L2.tTest, L2.tB, L2.tIf, Z.tIfCI, Z.tIfCS, L2.tChain, L2.tCons, L2.tNil, L2.tCall, L2.tDrop, L2.tAndV, L2.tOrV, L2.tNotV, L2.tAnd, L2.tOr, L2.tNot, L2.tCB, Z.sc_ii, Z.sc_ss, Z.sc_bb, Z.sc_is, Z.sc_si, Z.sc_ni, Z.sc_in, Z.sc_ns, Z.sc_sn, Z.sc_nn, L2.CDiv, L2.CPow, L2.CMul, List.getElem?_cons_zero, List.getElem?_cons_succ, Z.set_z, Z.set_s, Option.some.injEq, L2.V.int.injEq, L2.V.bl.injEq, L2.V.str.injEq, L2.V.ref.injEq, L2.V.ty.injEq, List.cons.injEq, exists_eq_left', exists_and_left, exists_eq_left, exists_eq_right, exists_eq_right', exists_eq', exists_eq, true_and, and_true, and_assoc, decide_eq_true_eq, Int.reduceLT, and_self, Z.rIxH, Z.rIxU, Z.at30, Z.at31, Z.at32, Z.ix3_0, Z.ix3_1, Z.ix3_2, L2.rSetL, L2.gSub, Z.gTupH, L2.gCons, L2.gNil, L2.HO.lst.injEq, L2.HO.tup.injEq, L2.upd_same, L2.upd_upd, L2.tSl, L2.tNoPart, L2.tPart, L2.rSlL, L2.rCat, List.length_append, or_false, false_or, or_true, true_or, reduceCtorEq, false_and, and_false, exists_false, Int.reduceNeg, Int.reducePow, Int.reduceToNat, Int.reduceAbs, Int.reduceLE, Int.reduceMul, Int.reduceAdd, Int.reduceSub, Nat.reducePow, Nat.reduceLT, Nat.reduceLeDiff, Int.natAbs_natCast, if_true, if_false, Z.rIsN, Z.tyN, Z.kit_ii, Z.kit_bi, Z.kit_si, Z.kit_ni, Z.kit_ib, Z.kit_bb, Z.kit_sb, Z.kit_nb, Z.kit_is, Z.kit_bs, Z.kit_ss, Z.kit_ns, Bool.not_true, Bool.not_false, L2.tTup, L2.tLst, L2.wipe, L2.tYes, Z.Turn1, L2.tNever, sizeLine_eq, Z.rInU, Z.rInH, L2.flatV, List.any_cons, List.any_nil, List.all_cons, List.all_nil, Bool.and_true, Bool.true_and, Bool.or_false, Bool.false_or, Z.tBML, L2.rAppend, Z.map_int_inj, Z.map_bl_inj, Z.rTupL, Z.rLstL, Z.rLstT, Z.rSortI, Z.rAnyH, Z.rAllH, Z.rSumH, Z.rLenL, Z.rLenU, List.length_map, L2.tPar, StX.tStar, L2.tDNewT, L2.tDIn, L2.sDPut, L2.tDGet, Z.tCallK0, List.getD_cons_zero, List.getD_cons_succ]
    refine z_seq ?_
    simp only [L2.start, List.map_cons, List.map_nil, List.length_cons, List.length_nil, Nat.zero_add, Nat.reduceAdd, Nat.reduceSub, List.replicate_succ, List.replicate_zero, List.cons_append, List.nil_append, List.append_nil, L2.tNext, L2.tAsg, L2.gName, L2.tRet, L2.tRetN, L2.tIfS, L2.tVar, L2.tC, L2.tOp, L2.tUn, L2.rI, L2.rI0, L2.rU, L2.rEq, L2.rNe, L2.tTest, L2.tB, L2.tIf, Z.tIfCI, Z.tIfCS, L2.tChain, L2.tCons, L2.tNil, L2.tCall, L2.tDrop, L2.tAndV, L2.tOrV, L2.tNotV, L2.tAnd, L2.tOr, L2.tNot, L2.tCB, Z.sc_ii, Z.sc_ss, Z.sc_bb, Z.sc_is, Z.sc_si, Z.sc_ni, Z.sc_in, Z.sc_ns, Z.sc_sn, Z.sc_nn, L2.CDiv, L2.CPow, L2.CMul, List.getElem?_cons_zero, List.getElem?_cons_succ, Z.set_z, Z.set_s, Option.some.injEq, L2.V.int.injEq, L2.V.bl.injEq, L2.V.str.injEq, L2.V.ref.injEq, L2.V.ty.injEq, List.cons.injEq, exists_eq_left', exists_and_left, exists_eq_left, exists_eq_right, exists_eq_right', exists_eq', exists_eq, true_and, and_true, and_assoc, decide_eq_true_eq, Int.reduceLT, and_self, Z.rIxH, Z.rIxU, Z.at30, Z.at31, Z.at32, Z.ix3_0, Z.ix3_1, Z.ix3_2, L2.rSetL, L2.gSub, Z.gTupH, L2.gCons, L2.gNil, L2.HO.lst.injEq, L2.HO.tup.injEq, L2.upd_same, L2.upd_upd, L2.tSl, L2.tNoPart, L2.tPart, L2.rSlL, L2.rCat, List.length_append, or_false, false_or, or_true, true_or, reduceCtorEq, false_and, and_false, exists_false, Int.reduceNeg, Int.reducePow, Int.reduceToNat, Int.reduceAbs, Int.reduceLE, Int.reduceMul, Int.reduceAdd, Int.reduceSub, Nat.reducePow, Nat.reduceLT, Nat.reduceLeDiff, Int.natAbs_natCast, if_true, if_false, Z.rIsN, Z.tyN, Z.kit_ii, Z.kit_bi, Z.kit_si, Z.kit_ni, Z.kit_ib, Z.kit_bb, Z.kit_sb, Z.kit_nb, Z.kit_is, Z.kit_bs, Z.kit_ss, Z.kit_ns, Bool.not_true, Bool.not_false, L2.tTup, L2.tLst, L2.wipe, L2.tYes, Z.Turn1, L2.tNever, sizeLine_eq, Z.rInU, Z.rInH, L2.flatV, List.any_cons, List.any_nil, List.all_cons, List.all_nil, Bool.and_true, Bool.true_and, Bool.or_false, Bool.false_or, Z.tBML, L2.rAppend, Z.map_int_inj, Z.map_bl_inj, Z.rTupL, Z.rLstL, Z.rLstT, Z.rSortI, Z.rAnyH, Z.rAllH, Z.rSumH, Z.rLenL, Z.rLenU, List.length_map, L2.tPar, StX.tStar, L2.tDNewT, L2.tDIn, L2.sDPut, L2.tDGet, Z.tCallK0, List.getD_cons_zero, List.getD_cons_succ, kind_eq]
    refine ⟨fun v H1 => v = .int (if r = true then (l.length : Int) else (l.length : Int) - 1) ∧ H1 = H, ?_, ?_⟩
    · simp only [L2.start, List.map_cons, List.map_nil, List.length_cons, List.length_nil, Nat.zero_add, Nat.reduceAdd, Nat.reduceSub, List.replicate_succ, List.replicate_zero, List.cons_append, List.nil_append, List.append_nil, L2.tNext, L2.tAsg, L2.gName, L2.tRet, L2.tRetN, L2.tIfS, L2.tVar, L2.tC, L2.tOp, L2.tUn, L2.rI, L2.rI0, L2.rU, L2.rEq, L2.rNe, L2.tTest, L2.tB, L2.tIf, Z.tIfCI, Z.tIfCS, L2.tChain, L2.tCons, L2.tNil, L2.tCall, L2.tDrop, L2.tAndV, L2.tOrV, L2.tNotV, L2.tAnd, L2.tOr, L2.tNot, L2.tCB, Z.sc_ii, Z.sc_ss, Z.sc_bb, Z.sc_is, Z.sc_si, Z.sc_ni, Z.sc_in, Z.sc_ns, Z.sc_sn, Z.sc_nn, L2.CDiv, L2.CPow, L2.CMul, List.getElem?_cons_zero, List.getElem?_cons_succ, Z.set_z, Z.set_s, Option.some.injEq, L2.V.int.injEq, L2.V.bl.injEq, L2.V.str.injEq, L2.V.ref.injEq, L2.V.ty.injEq, List.cons.injEq, exists_eq_left', exists_and_left, exists_eq_left, exists_eq_right, exists_eq_right', exists_eq', exists_eq, true_and, and_true, and_assoc, decide_eq_true_eq, Int.reduceLT, and_self, Z.rIxH, Z.rIxU, Z.at30, Z.at31, Z.at32, Z.ix3_0, Z.ix3_1, Z.ix3_2, L2.rSetL, L2.gSub, Z.gTupH, L2.gCons, L2.gNil, L2.HO.lst.injEq, L2.HO.tup.injEq, L2.upd_same, L2.upd_upd, L2.tSl, L2.tNoPart, L2.tPart, L2.rSlL, L2.rCat, List.length_append, or_false, false_or, or_true, true_or, reduceCtorEq, false_and, and_false, exists_false, Int.reduceNeg, Int.reducePow, Int.reduceToNat, Int.reduceAbs, Int.reduceLE, Int.reduceMul, Int.reduceAdd, Int.reduceSub, Nat.reducePow, Nat.reduceLT, Nat.reduceLeDiff, Int.natAbs_natCast, if_true, if_false, Z.rIsN, Z.tyN, Z.kit_ii, Z.kit_bi, Z.kit_si, Z.kit_ni, Z.kit_ib, Z.kit_bb, Z.kit_sb, Z.kit_nb, Z.kit_is, Z.kit_bs, Z.kit_ss, Z.kit_ns, Bool.not_true, Bool.not_false, L2.tTup, L2.tLst, L2.wipe, L2.tYes, Z.Turn1, L2.tNever, sizeLine_eq, Z.rInU, Z.rInH, L2.flatV, List.any_cons, List.any_nil, List.all_cons, List.all_nil, Bool.and_true, Bool.true_and, Bool.or_false, Bool.false_or, Z.tBML, L2.rAppend, Z.map_int_inj, Z.map_bl_inj, Z.rTupL, Z.rLstL, Z.rLstT, Z.rSortI, Z.rAnyH, Z.rAllH, Z.rSumH, Z.rLenL, Z.rLenU, List.length_map, L2.tPar, StX.tStar, L2.tDNewT, L2.tDIn, L2.sDPut, L2.tDGet, Z.tCallK0, List.getD_cons_zero, List.getD_cons_succ, kind_eq]
      have e : (((l.map V.int).length : Nat) : Int) = (l.length : Int) := by rw [List.length_map]
      cases r
      · rw [if_neg Bool.false_ne_true]
        refine ⟨_, ha, ?_⟩
        rw [e]
        first | exact ⟨rfl, rfl⟩ | rfl
      · rw [if_pos rfl]
        refine ⟨_, ha, ?_⟩
        rw [e]
        first | exact ⟨rfl, rfl⟩ | rfl
    · rintro v H1 ⟨rfl, rfl⟩
      have hb : 0 ≤ (if r = true then (l.length : Int) else (l.length : Int) - 1) ∧ (if r = true then (l.length : Int) else (l.length : Int) - 1) ≤ l.length := by split <;> omega
      refine lc_rngO (H1 := H1) (n := if r = true then (l.length : Int) else (l.length : Int) - 1) (intO fun k => pairO (mm (l.getD k.toNat 0) (l.getD ((k + 1) % (l.length : Int)).toNat 0))) (fun R h => ⟨_, rfl, h⟩) (by omega) (fun k hk H2 s2 => ?_) fun D H2 as hD s2 e2 pr => ?_
      · have ha2 := s2 _ _ ha
        have g1 := getD_at (l := l) (show 0 ≤ (k : Int) by omega) (by omega)
        have m1 := Int.emod_nonneg ((k : Int) + 1) (show (l.length : Int) ≠ 0 by omega)
        have m2 := Int.emod_lt_of_pos ((k : Int) + 1) (show 0 < (l.length : Int) by omega)
        have g2 := getD_at (l := l) m1 m2
        intro Y N hY hN
        simp only [L2.start, List.map_cons, List.map_nil, List.length_cons, List.length_nil, Nat.zero_add, Nat.reduceAdd, Nat.reduceSub, List.replicate_succ, List.replicate_zero, List.cons_append, List.nil_append, List.append_nil, L2.tNext, L2.tAsg, L2.gName, L2.tRet, L2.tRetN, L2.tIfS, L2.tVar, L2.tC, L2.tOp, L2.tUn, L2.rI, L2.rI0, L2.rU, L2.rEq, L2.rNe, L2.tTest, L2.tB, L2.tIf, Z.tIfCI, Z.tIfCS, L2.tChain, L2.tCons, L2.tNil, L2.tCall, L2.tDrop, L2.tAndV, L2.tOrV, L2.tNotV, L2.tAnd, L2.tOr, L2.tNot, L2.tCB, Z.sc_ii, Z.sc_ss, Z.sc_bb, Z.sc_is, Z.sc_si, Z.sc_ni, Z.sc_in, Z.sc_ns, Z.sc_sn, Z.sc_nn, L2.CDiv, L2.CPow, L2.CMul, List.getElem?_cons_zero, List.getElem?_cons_succ, Z.set_z, Z.set_s, Option.some.injEq, L2.V.int.injEq, L2.V.bl.injEq, L2.V.str.injEq, L2.V.ref.injEq, L2.V.ty.injEq, List.cons.injEq, exists_eq_left', exists_and_left, exists_eq_left, exists_eq_right, exists_eq_right', exists_eq', exists_eq, true_and, and_true, and_assoc, decide_eq_true_eq, Int.reduceLT, and_self, Z.rIxH, Z.rIxU, Z.at30, Z.at31, Z.at32, Z.ix3_0, Z.ix3_1, Z.ix3_2, L2.rSetL, L2.gSub, Z.gTupH, L2.gCons, L2.gNil, L2.HO.lst.injEq, L2.HO.tup.injEq, L2.upd_same, L2.upd_upd, L2.tSl, L2.tNoPart, L2.tPart, L2.rSlL, L2.rCat, List.length_append, or_false, false_or, or_true, true_or, reduceCtorEq, false_and, and_false, exists_false, Int.reduceNeg, Int.reducePow, Int.reduceToNat, Int.reduceAbs, Int.reduceLE, Int.reduceMul, Int.reduceAdd, Int.reduceSub, Nat.reducePow, Nat.reduceLT, Nat.reduceLeDiff, Int.natAbs_natCast, if_true, if_false, Z.rIsN, Z.tyN, Z.kit_ii, Z.kit_bi, Z.kit_si, Z.kit_ni, Z.kit_ib, Z.kit_bb, Z.kit_sb, Z.kit_nb, Z.kit_is, Z.kit_bs, Z.kit_ss, Z.kit_ns, Bool.not_true, Bool.not_false, L2.tTup, L2.tLst, L2.wipe, L2.tYes, Z.Turn1, L2.tNever, sizeLine_eq, Z.rInU, Z.rInH, L2.flatV, List.any_cons, List.any_nil, List.all_cons, List.all_nil, Bool.and_true, Bool.true_and, Bool.or_false, Bool.false_or, Z.tBML, L2.rAppend, Z.map_int_inj, Z.map_bl_inj, Z.rTupL, Z.rLstL, Z.rLstT, Z.rSortI, Z.rAnyH, Z.rAllH, Z.rSumH, Z.rLenL, Z.rLenU, List.length_map, L2.tPar, StX.tStar, L2.tDNewT, L2.tDIn, L2.sDPut, L2.tDGet, Z.tCallK0, List.getD_cons_zero, List.getD_cons_succ]
        refine ⟨_, ha2, _, g1, _, ha2, by rw [List.length_map]; omega, _, ha2, _, by rw [List.length_map]; exact g2, fun p hp => ⟨[l.getD (k : Int).toNat 0, l.getD (((k : Int) + 1) % (l.length : Int)).toNat 0], rfl, by show 2 < 64; decide, fun p1 hp1 l1 hl1 => ?_⟩⟩
        rw [sort_two] at hl1 ⊢
        have s3 := (same_new (o := .lst [.int (l.getD (k : Int).toNat 0), .int (l.getD (((k : Int) + 1) % (l.length : Int)).toNat 0)]) hp).trans (same_new (o := .lst ([(mm (l.getD (k : Int).toNat 0) (l.getD (((k : Int) + 1) % (l.length : Int)).toNat 0)).1, (mm (l.getD (k : Int).toNat 0) (l.getD (((k : Int) + 1) % (l.length : Int)).toNat 0)).2].map V.int)) hp1)
        exact hY _ l1 _ rfl (s3.free hl1) (same_upd s3 (s3.free hl1)) upd_same
      · have e3 : (upto (if r = true then (l.length : Int) else (l.length : Int) - 1)).filterMap (intO fun k => pairO (mm (l.getD k.toNat 0) (l.getD ((k + 1) % (l.length : Int)).toNat 0))) = (nbL r l).map pairO := by
          rw [upto_ups, fm_intO]
          unfold nbL
          rw [List.map_map]
          rfl
        rw [e3] at pr
        refine ⟨D, as, nbL r l, rfl, e2, prs_of pr, fun bs qs p hp hbs hqs hlex pq => ?_⟩
        exact q p bs qs _ (s2.free hp) (same_upd s2 (s2.free hp)) upd_same (prs_same (same_new hp) pq) hqs hlex
open Zig
inductive WR where
  | ok | number | evenings | people (e : Int) | again (p q e : Int)
  deriving DecidableEq
def isWR (H : Hp) (v : V) : WR → Prop
  | .ok => v = .non
  | .number => v = .str "number"
  | .evenings => v = .str "evenings"
  | .people e => ∃ t, v = .ref t ∧ H t = some (.tup [.str "people", .int e])
  | .again p q e => ∃ t, v = .ref t ∧ H t = some (.tup [.str "again", .int p, .int q, .int e])
def sortP (l : List (Int × Int)) : List (Int × Int) := l.mergeSort fun p q => !SrtO.lexB q p
theorem sortP_perm (l : List (Int × Int)) : (sortP l).Perm l := List.mergeSort_perm _ _
theorem sortP_lex (l : List (Int × Int)) : Lex (sortP l) := by
  have h := List.pairwise_mergeSort (le := fun p q : Int × Int => !SrtO.lexB q p) (fun x y z h1 h2 => by
    simp only [Bool.not_eq_true'] at *
    have a := SrtO.lexB_no.mp h1
    have b := SrtO.lexB_no.mp h2
    exact SrtO.lexB_no.mpr (by omega)) (fun x y => by
    simp only [Bool.or_eq_true, Bool.not_eq_true']
    cases h : SrtO.lexB y x
    · exact .inl rfl
    · right
      have a := SrtO.lexB_iff.mp h
      exact SrtO.lexB_no.mpr (by omega)) l
  exact h.imp fun h => by simpa using h
def wrongFrom (r : Bool) : List (Int × Int) → Int → List (List Int) → WR
  | _, _, [] => .ok
  | past, e, l :: ls => match (sortP (nbL r l)).find? fun p => decide (p ∈ past) with
    | some p => .again p.1 p.2 e
    | none => wrongFrom r (past ++ nbL r l) (e + 1) ls
def rowInts (H : Hp) (v : V) : List Int := intsOf ((rowOf H v).getD [])
def peopleFrom (n : Int) (H : Hp) : Int → List V → WR → WR
  | _, [], w => w
  | e, v :: vs, w => if everyB n (rowOf H v) = true then peopleFrom n H (e + 1) vs w else .people e
theorem peopleFrom_cons (n : Int) (H : Hp) (e : Int) (v : V) (vs : List V) (w : WR) : peopleFrom n H e (v :: vs) w = if everyB n (rowOf H v) = true then peopleFrom n H (e + 1) vs w else .people e := rfl
def wrongE (r : Bool) (H : Hp) (n : Int) : Option (List V) → WR
  | none => .evenings
  | some rows => if (rows.length : Int) = nights r n then peopleFrom n H 0 rows (wrongFrom r [] 0 (rows.map (rowInts H))) else .evenings
def wrongR (r : Bool) (H : Hp) : V → V → WR
  | .int n, ev => if sizeV r n (.int n) = true then wrongE r H n (rowOf H ev) else .number
  | _, _ => .number
theorem wrongR_int (r : Bool) (H : Hp) (n : Int) (ev : V) : wrongR r H (.int n) ev = if sizeV r n (.int n) = true then wrongE r H n (rowOf H ev) else .number := rfl
def keyP (p : Int × Int) : List Key := [.inl p.1, .inl p.2]
theorem keyP_inj {p q : Int × Int} (h : keyP p = keyP q) : p = q := by
  obtain ⟨a, b⟩ := p
  obtain ⟨c, d⟩ := q
  unfold keyP at h
  have h1 := List.cons.inj h
  have h2 := List.cons.inj h1.2
  have e1 : a = c := Sum.inl.inj h1.1
  have e2 : b = d := Sum.inl.inj h2.1
  rw [e1, e2]
def againF (H : Hp) (past : List (Int × Int)) (v : V) : Option V := if pairOf H v ∈ past then some v else none
theorem again_head {H : Hp} {past : List (Int × Int)} : ∀ {as : List Addr} {qs : List (Int × Int)}, Paired (PairAt H) as qs →
    ((as.map V.ref).filterMap (againF H past) = [] ∧ qs.find? (fun p => decide (p ∈ past)) = none) ∨ ∃ t p rest, (as.map V.ref).filterMap (againF H past) = .ref t :: rest ∧ PairAt H t p ∧ qs.find? (fun p => decide (p ∈ past)) = some p
  | _, _, .nil => .inl ⟨rfl, rfl⟩
  | _, _, .cons (a := a) (b := b) f r => by
    rw [List.map_cons, List.filterMap_cons, List.find?_cons]
    unfold againF
    rw [pairOf_at f]
    by_cases c : b ∈ past
    · rw [if_pos c, decide_eq_true c]
      exact .inr ⟨a, b, _, rfl, f, rfl⟩
    · rw [if_neg c, decide_eq_false c]
      exact again_head r
theorem wrongFrom_cons (r : Bool) (past : List (Int × Int)) (e : Int) (l : List Int) (ls : List (List Int)) : wrongFrom r past e (l :: ls) = match (sortP (nbL r l)).find? fun p => decide (p ∈ past) with
    | some p => .again p.1 p.2 e
    | none => wrongFrom r (past ++ nbL r l) (e + 1) ls := rfl
theorem every_ints {n : Int} {H : Hp} {z : V} (h : everyB n (rowOf H z) = true) : ∃ b l, z = .ref b ∧ TupAt H b l ∧ rowInts H z = l ∧ (l.length : Int) = n := by
  cases z with
  | ref b =>
    cases e : H b with
    | none =>
      simp only [rowOf, e] at h
      cases h
    | some o =>
      cases o with
      | tup xs =>
        have er := rowOf_tup e
        rw [er, everyB_some, Bool.and_eq_true, Bool.and_eq_true] at h
        obtain ⟨b1, b2⟩ := ints_back h.2.1
        refine ⟨b, intsOf xs, rfl, ?_, ?_, ?_⟩
        · unfold Z.TupAt
          rw [← b1]
          exact e
        · unfold rowInts
          rw [er]
          rfl
        · have h1 := of_decide_eq_true h.1
          have := congrArg List.length b1
          rw [List.length_map] at this
          omega
      | _ =>
        simp only [rowOf, e] at h
        cases h
  | _ => cases h
/-- a value whose parts are known, too -/
def Known2 (H : Hp) (x : V) : Prop := Known H x ∧ ∀ xs, rowOf H x = some xs → xs.length ≤ 1000 ∧ ∀ z ∈ xs, Known H z
def Known3 (H : Hp) (x : V) : Prop := Known H x ∧ ∀ xs, rowOf H x = some xs → xs.length ≤ 1000 ∧ ∀ z ∈ xs, Known2 H z
theorem rowOf_same {H H' : Hp} {x : V} (k : Known H x) (s : Same H H') : rowOf H' x = rowOf H x := by
  cases x with
  | ref a =>
    obtain ⟨t, ht, _⟩ := k
    simp only [tyN] at ht
    simp only [rowOf]
    cases e : H a with
    | none =>
      rw [e] at ht
      cases ht
    | some o => rw [s _ _ e]
  | _ => rfl
theorem Known2.same {H H' : Hp} {x : V} (k : Known2 H x) (s : Same H H') : Known2 H' x := by
  refine ⟨k.1.same s, fun xs h => ?_⟩
  rw [rowOf_same k.1 s] at h
  obtain ⟨h1, h2⟩ := k.2 xs h
  exact ⟨h1, fun z hz => (h2 z hz).same s⟩
def sp_wrong_of : Sp := fun vs H Q _ => ∃ (r : Bool) (x ev : V), vs = [.str (kindS r), x, ev] ∧ Known H x ∧ Known3 H ev ∧ ∀ v H', Same H H' → isWR H' v (wrongR r H x ev) → Q v H'
theorem ok_wrong_of (T : Env w K mg) : Hd P w K mg base CX0 4 "wrong_of" s_wrong_of ["kind", "n", "evenings"] sp_wrong_of := by
  have H_pairs_on := ok_pairs_on (P := P) (w := w) (base := base) T
  have H_is_everybody := ok_is_everybody (P := P) (w := w) (base := base) T
  have H_evenings_for := ok_evenings_for (P := P) (w := w) (base := base) T
  have H_is_size := ok_is_size (P := P) (w := w) (base := base) T
  have H_is_integer := ok_is_integer (P := P) (w := w) (base := base) T
  obtain ⟨f, fd, F, hm⟩ := T.d_wrong_of
  refine ⟨⟨f, fd, F, hm, ?_⟩, fun _ _ _ _ _ _ _ us hl => match us, hl with | [_, _, _], _ => rfl⟩
  refine F.ok sc_wrong_of (fun vs H Q E h => ?_) (fun cdv A outer s H vs Q E hr h => ?_)
  · first | (obtain ⟨rfl, _⟩ := h; rfl) | (obtain ⟨_, rfl, _⟩ := h; rfl) | (obtain ⟨_, _, rfl, _⟩ := h; rfl) | (obtain ⟨_, _, _, rfl, _⟩ := h; rfl) | (obtain ⟨_, _, _, _, rfl, _⟩ := h; rfl) | (obtain ⟨_, _, _, _, _, rfl, _⟩ := h; rfl) | (obtain ⟨_, _, _, _, _, _, rfl, _⟩ := h; rfl) | (obtain ⟨_, _, _, _, _, _, _, rfl, _⟩ := h; rfl) | (obtain ⟨_, _, _, _, _, _, _, _, rfl, _⟩ := h; rfl)
  · obtain ⟨r, x, ev, rfl, kx, ke, q⟩ := h
    have hu := hu_of hr
    refine ⟨_, pss_cons (ps_if (PW.pt (pw_or (pt_not (pt_val (pe_hd H_is_integer (hr.mono (by decide)) rfl pass0 (pa_cons (pv 1) pa_nil)))) (pw_or1 (pt_not (pt_val (pe_hd H_is_size (hr.mono (by decide)) rfl pass0 (pa_cons (pv 0) (pa_cons (pv 1) (pa_cons (pv 1) pa_nil))))))))) (pss_one (ps_ret pe_str))
      (pss_nil))
      (pss_cons (ps_if (PW.pt (pw_or (pt_not (pt_val (pe_callB call_isN rfl T.b_isinstance (by decide +kernel) (pa_cons (pv 2) (pa_cons (pe_bltn (v := .ty "tuple") (by rfl) T.b_tuple (by decide +kernel) rfl) pa_nil))))) (pw_or1 (pt_cmpR op_ne (pe_callB call_lenU rfl T.b_len (by decide +kernel) (pa_cons (pv 2) pa_nil)) (pe_hd H_evenings_for (hr.mono (by decide)) rfl pass0 (pa_cons (pv 0) (pa_cons (pv 1) pa_nil))) (nomark _))))) (pss_one (ps_ret pe_str))
      (pss_nil))
      (pss_cons (ps_for PassesOwn.never rfl (pi_enumT rfl T.b_enumerate (pa_cons (pv 2) pa_nil)) (pg_tupH (n := 2) rfl (pgs_cons (pg_name (i := 3) sc_wrong_of.nd rfl (by first | exact .inl rfl | exact .inr rfl)) (pgs_cons (pg_name (i := 4) sc_wrong_of.nd rfl (by first | exact .inl rfl | exact .inr rfl)) pgs_nil)))
      (pss_one (ps_if (pt_not (pt_val (pe_hd H_is_everybody (hr.mono (by decide)) rfl pass0 (pa_cons (pv 1) (pa_cons (pv 4) pa_nil))))) (pss_one (ps_ret (pe_tup (pa_cons pe_str (pa_cons (pv 3) pa_nil)))))
      (pss_nil))))
      (pss_cons (ps_set (i := 5) sc_wrong_of.nd rfl (by first | exact .inl rfl | exact .inr rfl) pe_dnewT)
      (pss_cons (ps_for PassesOwn.never rfl (pi_enumT rfl T.b_enumerate (pa_cons (pv 2) pa_nil)) (pg_tupH (n := 2) rfl (pgs_cons (pg_name (i := 3) sc_wrong_of.nd rfl (by first | exact .inl rfl | exact .inr rfl)) (pgs_cons (pg_name (i := 4) sc_wrong_of.nd rfl (by first | exact .inl rfl | exact .inr rfl)) pgs_nil)))
      (pss_cons (ps_set (i := 6) sc_wrong_of.nd rfl (by first | exact .inl rfl | exact .inr rfl) (pe_hd H_pairs_on (hr.mono (by decide)) rfl pass0 (pa_cons (pv 0) (pa_cons (pv 4) pa_nil))))
      (pss_cons (ps_setLc (i := 8) (own := [("pair", 7)]) (g := (gName 7)) rfl sc_wrong_of.nd rfl rfl (sw_true rfl rfl rfl (by decide +kernel)) (pi_list (pv 6)) (blkOk_by (own := [("pair", 7)]) (N := N_wrong_of) (sc := defScope s_wrong_of) (by decide +kernel)) (fun _ _ _ _ _ => pg_name (i := 7) sc_wrong_of.nd rfl (by first | exact .inl rfl | exact .inr rfl)) (fun _ _ _ _ _ => (pts_one (pt_cmp (pc_din hu (pv 7) (pv 5))))) (fun _ _ _ _ _ => (pv 7)))
      (pss_cons (ps_if (pt_truth (pv 8) (by intro _; rfl)) (pss_one (ps_ret (pe_tup (pa_cons pe_str (StX.pa_star (pe_ix ix_listH (pv 8) pe_int (fun _ _ => rfl)) (pa_cons (pv 3) pa_nil))))))
      (pss_nil))
      (pss_one (ps_for PassesOwn.never rfl (pi_list (pv 6)) (pg_name (i := 7) sc_wrong_of.nd rfl (by first | exact .inl rfl | exact .inr rfl))
      (pss_one (ps_dput hu (pv 5) (pv 7) (pv 3) rfl))))))))
      (pss_one (ps_ret pe_non)))))), ?_⟩
    simp only [L2.start, List.map_cons, List.map_nil, List.length_cons, List.length_nil, Nat.zero_add, Nat.reduceAdd, Nat.reduceSub, List.replicate_succ, List.replicate_zero, List.cons_append, List.nil_append, List.append_nil, L2.tNext, L2.tAsg, L2.gName, L2.tRet, L2.tRetN, L2.tIfS, L2.tVar, L2.tC, L2.tOp, L2.tUn, L2.rI, L2.rI0, L2.rU, L2.rEq, L2.rNe, L2.tTest, L2.tB, L2.tIf, Z.tIfCI, Z.tIfCS, L2.tChain, L2.tCons, L2.tNil, L2.tCall, L2.tDrop, L2.tAndV, L2.tOrV, L2.tNotV, L2.tAnd, L2.tOr, L2.tNot, L2.tCB, Z.sc_ii, Z.sc_ss, Z.sc_bb, Z.sc_is, Z.sc_si, Z.sc_ni, Z.sc_in, Z.sc_ns, Z.sc_sn, Z.sc_nn, L2.CDiv, L2.CPow, L2.CMul, List.getElem?_cons_zero, List.getElem?_cons_succ, Z.set_z, Z.set_s, Option.some.injEq, L2.V.int.injEq, L2.V.bl.injEq, L2.V.str.injEq, L2.V.ref.injEq, L2.V.ty.injEq, List.cons.injEq, exists_eq_left', exists_and_left, exists_eq_left, exists_eq_right, exists_eq_right', exists_eq', exists_eq, true_and, and_true, and_assoc, decide_eq_true_eq, Int.reduceLT, and_self, Z.rIxH, Z.rIxU, Z.at30, Z.at31, Z.at32, Z.ix3_0, Z.ix3_1, Z.ix3_2, L2.rSetL, L2.gSub, Z.gTupH, L2.gCons, L2.gNil, L2.HO.lst.injEq, L2.HO.tup.injEq, L2.upd_same, L2.upd_upd, L2.tSl, L2.tNoPart, L2.tPart, L2.rSlL, L2.rCat, List.length_append, or_false, false_or, or_true, true_or, reduceCtorEq, false_and, and_false, exists_false, Int.reduceNeg, Int.reducePow, Int.reduceToNat, Int.reduceAbs, Int.reduceLE, Int.reduceMul, Int.reduceAdd, Int.reduceSub, Nat.reducePow, Nat.reduceLT, Nat.reduceLeDiff, Int.natAbs_natCast, if_true, if_false, Z.rIsN, Z.tyN, Z.kit_ii, Z.kit_bi, Z.kit_si, Z.kit_ni, Z.kit_ib, Z.kit_bb, Z.kit_sb, Z.kit_nb, Z.kit_is, Z.kit_bs, Z.kit_ss, Z.kit_ns, Bool.not_true, Bool.not_false, L2.tTup, L2.tLst, L2.wipe, L2.tYes, Z.Turn1, L2.tNever, sizeLine_eq, Z.rInU, Z.rInH, L2.flatV, List.any_cons, List.any_nil, List.all_cons, List.all_nil, Bool.and_true, Bool.true_and, Bool.or_false, Bool.false_or, Z.tBML, L2.rAppend, Z.map_int_inj, Z.map_bl_inj, Z.rTupL, Z.rLstL, Z.rLstT, Z.rSortI, Z.rAnyH, Z.rAllH, Z.rSumH, Z.rLenL, Z.rLenU, List.length_map, L2.tPar, StX.tStar, L2.tDNewT, L2.tDIn, L2.sDPut, L2.tDGet, Z.tCallK0, List.getD_cons_zero, List.getD_cons_succ, sp_pairs_on, sp_is_everybody, sp_evenings_for, sp_is_size, sp_is_integer]
    refine z_seq ?_
    simp only [L2.start, List.map_cons, List.map_nil, List.length_cons, List.length_nil, Nat.zero_add, Nat.reduceAdd, Nat.reduceSub, List.replicate_succ, List.replicate_zero, List.cons_append, List.nil_append, List.append_nil, L2.tNext, L2.tAsg, L2.gName, L2.tRet, L2.tRetN, L2.tIfS, L2.tVar, L2.tC, L2.tOp, L2.tUn, L2.rI, L2.rI0, L2.rU, L2.rEq, L2.rNe, L2.tTest, L2.tB, L2.tIf, Z.tIfCI, Z.tIfCS, L2.tChain, L2.tCons, L2.tNil, L2.tCall, L2.tDrop, L2.tAndV, L2.tOrV, L2.tNotV, L2.tAnd, L2.tOr, L2.tNot, L2.tCB, Z.sc_ii, Z.sc_ss, Z.sc_bb, Z.sc_is, Z.sc_si, Z.sc_ni, Z.sc_in, Z.sc_ns, Z.sc_sn, Z.sc_nn, L2.CDiv, L2.CPow, L2.CMul, List.getElem?_cons_zero, List.getElem?_cons_succ, Z.set_z, Z.set_s, Option.some.injEq, L2.V.int.injEq, L2.V.bl.injEq, L2.V.str.injEq, L2.V.ref.injEq, L2.V.ty.injEq, List.cons.injEq, exists_eq_left', exists_and_left, exists_eq_left, exists_eq_right, exists_eq_right', exists_eq', exists_eq, true_and, and_true, and_assoc, decide_eq_true_eq, Int.reduceLT, and_self, Z.rIxH, Z.rIxU, Z.at30, Z.at31, Z.at32, Z.ix3_0, Z.ix3_1, Z.ix3_2, L2.rSetL, L2.gSub, Z.gTupH, L2.gCons, L2.gNil, L2.HO.lst.injEq, L2.HO.tup.injEq, L2.upd_same, L2.upd_upd, L2.tSl, L2.tNoPart, L2.tPart, L2.rSlL, L2.rCat, List.length_append, or_false, false_or, or_true, true_or, reduceCtorEq, false_and, and_false, exists_false, Int.reduceNeg, Int.reducePow, Int.reduceToNat, Int.reduceAbs, Int.reduceLE, Int.reduceMul, Int.reduceAdd, Int.reduceSub, Nat.reducePow, Nat.reduceLT, Nat.reduceLeDiff, Int.natAbs_natCast, if_true, if_false, Z.rIsN, Z.tyN, Z.kit_ii, Z.kit_bi, Z.kit_si, Z.kit_ni, Z.kit_ib, Z.kit_bb, Z.kit_sb, Z.kit_nb, Z.kit_is, Z.kit_bs, Z.kit_ss, Z.kit_ns, Bool.not_true, Bool.not_false, L2.tTup, L2.tLst, L2.wipe, L2.tYes, Z.Turn1, L2.tNever, sizeLine_eq, Z.rInU, Z.rInH, L2.flatV, List.any_cons, List.any_nil, List.all_cons, List.all_nil, Bool.and_true, Bool.true_and, Bool.or_false, Bool.false_or, Z.tBML, L2.rAppend, Z.map_int_inj, Z.map_bl_inj, Z.rTupL, Z.rLstL, Z.rLstT, Z.rSortI, Z.rAnyH, Z.rAllH, Z.rSumH, Z.rLenL, Z.rLenU, List.length_map, L2.tPar, StX.tStar, L2.tDNewT, L2.tDIn, L2.sDPut, L2.tDGet, Z.tCallK0, List.getD_cons_zero, List.getD_cons_succ, sp_pairs_on, sp_is_everybody, sp_evenings_for, sp_is_size, sp_is_integer, kind_inj]
    refine ⟨kx, ?_⟩
    cases x with
    | int n =>
      simp only [isI, Bool.not_true, Bool.false_eq_true, if_false, L2.V.int.injEq, exists_eq_left']
      refine ⟨kx, ?_⟩
      by_cases c1 : sizeV r n (.int n) = true
      · rw [c1, if_neg (by decide)]
        have hsz : 2 ≤ n ∧ 0 ≤ nights r n := by
          unfold sizeV at c1
          unfold nights
          cases r <;> simp at c1 ⊢ <;> omega
        refine z_seq ?_
        simp only [L2.start, List.map_cons, List.map_nil, List.length_cons, List.length_nil, Nat.zero_add, Nat.reduceAdd, Nat.reduceSub, List.replicate_succ, List.replicate_zero, List.cons_append, List.nil_append, List.append_nil, L2.tNext, L2.tAsg, L2.gName, L2.tRet, L2.tRetN, L2.tIfS, L2.tVar, L2.tC, L2.tOp, L2.tUn, L2.rI, L2.rI0, L2.rU, L2.rEq, L2.rNe, L2.tTest, L2.tB, L2.tIf, Z.tIfCI, Z.tIfCS, L2.tChain, L2.tCons, L2.tNil, L2.tCall, L2.tDrop, L2.tAndV, L2.tOrV, L2.tNotV, L2.tAnd, L2.tOr, L2.tNot, L2.tCB, Z.sc_ii, Z.sc_ss, Z.sc_bb, Z.sc_is, Z.sc_si, Z.sc_ni, Z.sc_in, Z.sc_ns, Z.sc_sn, Z.sc_nn, L2.CDiv, L2.CPow, L2.CMul, List.getElem?_cons_zero, List.getElem?_cons_succ, Z.set_z, Z.set_s, Option.some.injEq, L2.V.int.injEq, L2.V.bl.injEq, L2.V.str.injEq, L2.V.ref.injEq, L2.V.ty.injEq, List.cons.injEq, exists_eq_left', exists_and_left, exists_eq_left, exists_eq_right, exists_eq_right', exists_eq', exists_eq, true_and, and_true, and_assoc, decide_eq_true_eq, Int.reduceLT, and_self, Z.rIxH, Z.rIxU, Z.at30, Z.at31, Z.at32, Z.ix3_0, Z.ix3_1, Z.ix3_2, L2.rSetL, L2.gSub, Z.gTupH, L2.gCons, L2.gNil, L2.HO.lst.injEq, L2.HO.tup.injEq, L2.upd_same, L2.upd_upd, L2.tSl, L2.tNoPart, L2.tPart, L2.rSlL, L2.rCat, List.length_append, or_false, false_or, or_true, true_or, reduceCtorEq, false_and, and_false, exists_false, Int.reduceNeg, Int.reducePow, Int.reduceToNat, Int.reduceAbs, Int.reduceLE, Int.reduceMul, Int.reduceAdd, Int.reduceSub, Nat.reducePow, Nat.reduceLT, Nat.reduceLeDiff, Int.natAbs_natCast, if_true, if_false, Z.tyN, Z.kit_ii, Z.kit_bi, Z.kit_si, Z.kit_ni, Z.kit_ib, Z.kit_bb, Z.kit_sb, Z.kit_nb, Z.kit_is, Z.kit_bs, Z.kit_ss, Z.kit_ns, Bool.not_true, Bool.not_false, L2.tTup, L2.tLst, L2.wipe, L2.tYes, Z.Turn1, L2.tNever, sizeLine_eq, Z.rInU, Z.rInH, L2.flatV, List.any_cons, List.any_nil, List.all_cons, List.all_nil, Bool.and_true, Bool.true_and, Bool.or_false, Bool.false_or, Z.tBML, L2.rAppend, Z.map_int_inj, Z.map_bl_inj, Z.rTupL, Z.rLstL, Z.rLstT, Z.rSortI, Z.rAnyH, Z.rAllH, Z.rSumH, Z.rLenL, Z.rLenU, List.length_map, L2.tPar, StX.tStar, L2.tDNewT, L2.tDIn, L2.sDPut, L2.tDGet, Z.tCallK0, List.getD_cons_zero, List.getD_cons_succ, sp_pairs_on, sp_is_everybody, sp_evenings_for, sp_is_size, sp_is_integer]
        obtain ⟨⟨t, ht, hm⟩, k3⟩ := ke
        refine ⟨ev, "tuple", rfl, t, ht, _, (kit_all t hm).2.2.1, ?_⟩
        refine ⟨_, rfl, ?_⟩
        by_cases c2 : t = "tuple"
        · subst c2
          obtain ⟨a, rows, rfl, ha⟩ := row_of_tuple ht
          have hr := rowOf_tup ha
          obtain ⟨hl, hz⟩ := k3 rows hr
          rw [decide_eq_true rfl, if_neg (by decide)]
          have q1 : ∀ v H', Same H H' → isWR H' v (if (rows.length : Int) = nights r n then peopleFrom n H 0 rows (wrongFrom r [] 0 (rows.map (rowInts H))) else .evenings) → Q v H' := fun v H' s1 w => q v H' s1 (by
            rw [wrongR_int, if_pos c1, hr]
            exact w)
          clear q
          refine ⟨a, rfl, _, ha, r, rfl, ?_⟩
          by_cases c3 : (rows.length : Int) = nights r n
          · rw [decide_eq_true c3, if_neg (by decide)]
            refine z_seq ?_
            refine for_enT (a := a) (xs := rows) (fun R h => ⟨_, rfl, h⟩) (fun i σ H' => ∃ v3 v4, σ = [some (.str (kindS r)), some (.int n), some (.ref a), v3, v4, none, none, none, none] ∧ Same H H' ∧ peopleFrom n H 0 rows (wrongFrom r [] 0 (rows.map (rowInts H))) = peopleFrom n H i (rows.drop i) (wrongFrom r [] 0 (rows.map (rowInts H))) ∧ ∀ v ∈ rows.take i, everyB n (rowOf H v) = true) ⟨_, _, rfl, Same.refl _, rfl, fun _ h => absurd h List.not_mem_nil⟩ (fun _ _ _ h => by obtain ⟨_, _, _, h, _⟩ := h; exact SqT.of (h _ _ ha)) ?_ ?_
            · rintro i z σ H0 hiz ⟨v3, v4, rfl, s0, ep, ea⟩ N hN T hT
              simp only [L2.start, List.map_cons, List.map_nil, List.length_cons, List.length_nil, Nat.zero_add, Nat.reduceAdd, Nat.reduceSub, List.replicate_succ, List.replicate_zero, List.cons_append, List.nil_append, List.append_nil, L2.tNext, L2.tAsg, L2.gName, L2.tRet, L2.tRetN, L2.tIfS, L2.tVar, L2.tC, L2.tOp, L2.tUn, L2.rI, L2.rI0, L2.rU, L2.rEq, L2.rNe, L2.tTest, L2.tB, L2.tIf, Z.tIfCI, Z.tIfCS, L2.tChain, L2.tCons, L2.tNil, L2.tCall, L2.tDrop, L2.tAndV, L2.tOrV, L2.tNotV, L2.tAnd, L2.tOr, L2.tNot, L2.tCB, Z.sc_ii, Z.sc_ss, Z.sc_bb, Z.sc_is, Z.sc_si, Z.sc_ni, Z.sc_in, Z.sc_ns, Z.sc_sn, Z.sc_nn, L2.CDiv, L2.CPow, L2.CMul, List.getElem?_cons_zero, List.getElem?_cons_succ, Z.set_z, Z.set_s, Option.some.injEq, L2.V.int.injEq, L2.V.bl.injEq, L2.V.str.injEq, L2.V.ref.injEq, L2.V.ty.injEq, List.cons.injEq, exists_eq_left', exists_and_left, exists_eq_left, exists_eq_right, exists_eq_right', exists_eq', exists_eq, true_and, and_true, and_assoc, decide_eq_true_eq, Int.reduceLT, and_self, Z.rIxH, Z.rIxU, Z.at30, Z.at31, Z.at32, Z.ix3_0, Z.ix3_1, Z.ix3_2, L2.rSetL, L2.gSub, Z.gTupH, L2.gCons, L2.gNil, L2.HO.lst.injEq, L2.HO.tup.injEq, L2.upd_same, L2.upd_upd, L2.tSl, L2.tNoPart, L2.tPart, L2.rSlL, L2.rCat, List.length_append, or_false, false_or, or_true, true_or, reduceCtorEq, false_and, and_false, exists_false, Int.reduceNeg, Int.reducePow, Int.reduceToNat, Int.reduceAbs, Int.reduceLE, Int.reduceMul, Int.reduceAdd, Int.reduceSub, Nat.reducePow, Nat.reduceLT, Nat.reduceLeDiff, Int.natAbs_natCast, if_true, if_false, Z.rIsN, Z.tyN, Z.kit_ii, Z.kit_bi, Z.kit_si, Z.kit_ni, Z.kit_ib, Z.kit_bb, Z.kit_sb, Z.kit_nb, Z.kit_is, Z.kit_bs, Z.kit_ss, Z.kit_ns, Bool.not_true, Bool.not_false, L2.tTup, L2.tLst, L2.wipe, L2.tYes, Z.Turn1, L2.tNever, sizeLine_eq, Z.rInU, Z.rInH, L2.flatV, List.any_cons, List.any_nil, List.all_cons, List.all_nil, Bool.and_true, Bool.true_and, Bool.or_false, Bool.false_or, Z.tBML, L2.rAppend, Z.map_int_inj, Z.map_bl_inj, Z.rTupL, Z.rLstL, Z.rLstT, Z.rSortI, Z.rAnyH, Z.rAllH, Z.rSumH, Z.rLenL, Z.rLenU, List.length_map, L2.tPar, StX.tStar, L2.tDNewT, L2.tDIn, L2.sDPut, L2.tDGet, Z.tCallK0, List.getD_cons_zero, List.getD_cons_succ, sp_pairs_on, sp_is_everybody, sp_evenings_for, sp_is_size, sp_is_integer]
              have hlt : i < rows.length := (List.getElem?_eq_some_iff.mp hiz).1
              have hzi : rows[i] = z := (List.getElem?_eq_some_iff.mp hiz).2
              have hmem : z ∈ rows := List.mem_of_getElem? hiz
              have s1 := s0.trans (same_new (o := .tup [.int (i : Nat), z]) hT)
              have kz := (hz z hmem).same s1
              have er := rowOf_same (hz z hmem).1 s1
              have hd : rows.drop i = z :: rows.drop (i + 1) := by rw [List.drop_eq_getElem_cons hlt, hzi]
              refine ⟨kz.1, kz.2, fun H' s2 => ?_⟩
              rw [er]
              have s12 := s1.trans s2
              rw [hd, peopleFrom_cons] at ep
              by_cases c4 : everyB n (rowOf H z) = true
              · rw [c4, if_neg (by decide)]
                rw [if_pos c4] at ep
                refine hN _ _ ⟨_, _, rfl, s12, ep, fun v hv => ?_⟩
                rw [List.take_add_one, hiz] at hv
                rcases List.mem_append.mp hv with hv | hv
                · exact ea v hv
                · have : v = z := by simpa using hv
                  rw [this]
                  exact c4
              · have c5 : everyB n (rowOf H z) = false := by
                  cases h : everyB n (rowOf H z)
                  · rfl
                  · exact absurd h c4
                rw [c5, if_pos (by decide)]
                rw [if_neg c4] at ep
                intro p hp
                refine q1 _ _ (same_upd s12 (s12.free hp)) ?_
                rw [if_pos c3, ep]
                exact ⟨p, rfl, upd_same⟩
            · rintro σ H1 ⟨v3, v4, rfl, s1, ep, ea⟩
              rw [List.drop_length] at ep
              rw [List.take_length] at ea
              have ep : peopleFrom n H 0 rows (wrongFrom r [] 0 (rows.map (rowInts H))) = wrongFrom r [] 0 (rows.map (rowInts H)) := ep
              rw [if_pos c3, ep] at q1
              clear ep
              simp only [L2.start, List.map_cons, List.map_nil, List.length_cons, List.length_nil, Nat.zero_add, Nat.reduceAdd, Nat.reduceSub, List.replicate_succ, List.replicate_zero, List.cons_append, List.nil_append, List.append_nil, L2.tNext, L2.tAsg, L2.gName, L2.tRet, L2.tRetN, L2.tIfS, L2.tVar, L2.tC, L2.tOp, L2.tUn, L2.rI, L2.rI0, L2.rU, L2.rEq, L2.rNe, L2.tTest, L2.tB, L2.tIf, Z.tIfCI, Z.tIfCS, L2.tChain, L2.tCons, L2.tNil, L2.tCall, L2.tDrop, L2.tAndV, L2.tOrV, L2.tNotV, L2.tAnd, L2.tOr, L2.tNot, L2.tCB, Z.sc_ii, Z.sc_ss, Z.sc_bb, Z.sc_is, Z.sc_si, Z.sc_ni, Z.sc_in, Z.sc_ns, Z.sc_sn, Z.sc_nn, L2.CDiv, L2.CPow, L2.CMul, List.getElem?_cons_zero, List.getElem?_cons_succ, Z.set_z, Z.set_s, Option.some.injEq, L2.V.int.injEq, L2.V.bl.injEq, L2.V.str.injEq, L2.V.ref.injEq, L2.V.ty.injEq, List.cons.injEq, exists_eq_left', exists_and_left, exists_eq_left, exists_eq_right, exists_eq_right', exists_eq', exists_eq, true_and, and_true, and_assoc, decide_eq_true_eq, Int.reduceLT, and_self, Z.rIxH, Z.rIxU, Z.at30, Z.at31, Z.at32, Z.ix3_0, Z.ix3_1, Z.ix3_2, L2.rSetL, L2.gSub, Z.gTupH, L2.gCons, L2.gNil, L2.HO.lst.injEq, L2.HO.tup.injEq, L2.upd_same, L2.upd_upd, L2.tSl, L2.tNoPart, L2.tPart, L2.rSlL, L2.rCat, List.length_append, or_false, false_or, or_true, true_or, reduceCtorEq, false_and, and_false, exists_false, Int.reduceNeg, Int.reducePow, Int.reduceToNat, Int.reduceAbs, Int.reduceLE, Int.reduceMul, Int.reduceAdd, Int.reduceSub, Nat.reducePow, Nat.reduceLT, Nat.reduceLeDiff, Int.natAbs_natCast, if_true, if_false, Z.rIsN, Z.tyN, Z.kit_ii, Z.kit_bi, Z.kit_si, Z.kit_ni, Z.kit_ib, Z.kit_bb, Z.kit_sb, Z.kit_nb, Z.kit_is, Z.kit_bs, Z.kit_ss, Z.kit_ns, Bool.not_true, Bool.not_false, L2.tTup, L2.tLst, L2.wipe, L2.tYes, Z.Turn1, L2.tNever, sizeLine_eq, Z.rInU, Z.rInH, L2.flatV, List.any_cons, List.any_nil, List.all_cons, List.all_nil, Bool.and_true, Bool.true_and, Bool.or_false, Bool.false_or, Z.tBML, L2.rAppend, Z.map_int_inj, Z.map_bl_inj, Z.rTupL, Z.rLstL, Z.rLstT, Z.rSortI, Z.rAnyH, Z.rAllH, Z.rSumH, Z.rLenL, Z.rLenU, List.length_map, L2.tPar, StX.tStar, L2.tDNewT, L2.tDIn, L2.sDPut, L2.tDGet, Z.tCallK0, List.getD_cons_zero, List.getD_cons_succ, sp_pairs_on, sp_is_everybody, sp_evenings_for, sp_is_size, sp_is_integer]
              refine z_seq ?_
              simp only [L2.start, List.map_cons, List.map_nil, List.length_cons, List.length_nil, Nat.zero_add, Nat.reduceAdd, Nat.reduceSub, List.replicate_succ, List.replicate_zero, List.cons_append, List.nil_append, List.append_nil, L2.tNext, L2.tAsg, L2.gName, L2.tRet, L2.tRetN, L2.tIfS, L2.tVar, L2.tC, L2.tOp, L2.tUn, L2.rI, L2.rI0, L2.rU, L2.rEq, L2.rNe, L2.tTest, L2.tB, L2.tIf, Z.tIfCI, Z.tIfCS, L2.tChain, L2.tCons, L2.tNil, L2.tCall, L2.tDrop, L2.tAndV, L2.tOrV, L2.tNotV, L2.tAnd, L2.tOr, L2.tNot, L2.tCB, Z.sc_ii, Z.sc_ss, Z.sc_bb, Z.sc_is, Z.sc_si, Z.sc_ni, Z.sc_in, Z.sc_ns, Z.sc_sn, Z.sc_nn, L2.CDiv, L2.CPow, L2.CMul, List.getElem?_cons_zero, List.getElem?_cons_succ, Z.set_z, Z.set_s, Option.some.injEq, L2.V.int.injEq, L2.V.bl.injEq, L2.V.str.injEq, L2.V.ref.injEq, L2.V.ty.injEq, List.cons.injEq, exists_eq_left', exists_and_left, exists_eq_left, exists_eq_right, exists_eq_right', exists_eq', exists_eq, true_and, and_true, and_assoc, decide_eq_true_eq, Int.reduceLT, and_self, Z.rIxH, Z.rIxU, Z.at30, Z.at31, Z.at32, Z.ix3_0, Z.ix3_1, Z.ix3_2, L2.rSetL, L2.gSub, Z.gTupH, L2.gCons, L2.gNil, L2.HO.lst.injEq, L2.HO.tup.injEq, L2.upd_same, L2.upd_upd, L2.tSl, L2.tNoPart, L2.tPart, L2.rSlL, L2.rCat, List.length_append, or_false, false_or, or_true, true_or, reduceCtorEq, false_and, and_false, exists_false, Int.reduceNeg, Int.reducePow, Int.reduceToNat, Int.reduceAbs, Int.reduceLE, Int.reduceMul, Int.reduceAdd, Int.reduceSub, Nat.reducePow, Nat.reduceLT, Nat.reduceLeDiff, Int.natAbs_natCast, if_true, if_false, Z.rIsN, Z.tyN, Z.kit_ii, Z.kit_bi, Z.kit_si, Z.kit_ni, Z.kit_ib, Z.kit_bb, Z.kit_sb, Z.kit_nb, Z.kit_is, Z.kit_bs, Z.kit_ss, Z.kit_ns, Bool.not_true, Bool.not_false, L2.tTup, L2.tLst, L2.wipe, L2.tYes, Z.Turn1, L2.tNever, sizeLine_eq, Z.rInU, Z.rInH, L2.flatV, List.any_cons, List.any_nil, List.all_cons, List.all_nil, Bool.and_true, Bool.true_and, Bool.or_false, Bool.false_or, Z.tBML, L2.rAppend, Z.map_int_inj, Z.map_bl_inj, Z.rTupL, Z.rLstL, Z.rLstT, Z.rSortI, Z.rAnyH, Z.rAllH, Z.rSumH, Z.rLenL, Z.rLenU, List.length_map, L2.tPar, StX.tStar, L2.tDNewT, L2.tDIn, L2.sDPut, L2.tDGet, Z.tCallK0, List.getD_cons_zero, List.getD_cons_succ, sp_pairs_on, sp_is_everybody, sp_evenings_for, sp_is_size, sp_is_integer]
              intro D0 hD0
              refine z_seq ?_
              have hDn : H D0 = none := s1.free hD0
              refine for_enT (a := a) (xs := rows) (fun R h => ⟨_, rfl, h⟩) (fun i σ H' => ∃ v3 v4 v6 v7 v8 D kvs past, σ = [some (.str (kindS r)), some (.int n), some (.ref a), v3, v4, some (.ref D), v6, v7, v8] ∧ Same H H' ∧ H D = none ∧ H' D = some (.dT kvs) ∧ kvs.length ≤ i * 1000 ∧ (∀ p, (valV kvs (keyP p)).isSome = decide (p ∈ past)) ∧ wrongFrom r [] 0 (rows.map (rowInts H)) = wrongFrom r past i ((rows.map (rowInts H)).drop i)) ⟨_, _, _, _, _, D0, [], [], rfl, same_upd s1 hDn, hDn, upd_same, Nat.zero_le _, fun _ => rfl, rfl⟩ (fun _ _ _ h => by obtain ⟨_, _, _, _, _, _, _, _, _, h, _⟩ := h; exact SqT.of (h _ _ ha)) ?_ ?_
              · clear hD0 s1
                rintro i z σ H0 hiz ⟨v3, v4, v6, v7, v8, D, kvs, past, rfl, s0, hD, eD, hkl, hkv, ew⟩ N hN T hT
                have hmem : z ∈ rows := List.mem_of_getElem? hiz
                have hev := ea z hmem
                have hlt : i < rows.length := (List.getElem?_eq_some_iff.mp hiz).1
                obtain ⟨b, l, rfl, hb, hl2, hll⟩ := every_ints hev
                have s1 := s0.trans (same_new (o := .tup [.int (i : Nat), .ref b]) hT)
                have hdr : (rows.map (rowInts H)).drop i = l :: (rows.map (rowInts H)).drop (i + 1) := by
                  rw [List.drop_eq_getElem_cons (by rw [List.length_map]; exact hlt)]
                  congr 1
                  rw [List.getElem_map, (List.getElem?_eq_some_iff.mp hiz).2]
                  exact hl2
                rw [hdr, wrongFrom_cons] at ew
                have hln : l.length ≤ 1000 := by
                  have := ((hz (.ref b) hmem).2 _ (rowOf_tup hb)).1
                  rw [List.length_map] at this
                  exact this
                simp only [L2.start, List.map_cons, List.map_nil, List.length_cons, List.length_nil, Nat.zero_add, Nat.reduceAdd, Nat.reduceSub, List.replicate_succ, List.replicate_zero, List.cons_append, List.nil_append, List.append_nil, L2.tNext, L2.tAsg, L2.gName, L2.tRet, L2.tRetN, L2.tIfS, L2.tVar, L2.tC, L2.tOp, L2.tUn, L2.rI, L2.rI0, L2.rU, L2.rEq, L2.rNe, L2.tTest, L2.tB, L2.tIf, Z.tIfCI, Z.tIfCS, L2.tChain, L2.tCons, L2.tNil, L2.tCall, L2.tDrop, L2.tAndV, L2.tOrV, L2.tNotV, L2.tAnd, L2.tOr, L2.tNot, L2.tCB, Z.sc_ii, Z.sc_ss, Z.sc_bb, Z.sc_is, Z.sc_si, Z.sc_ni, Z.sc_in, Z.sc_ns, Z.sc_sn, Z.sc_nn, L2.CDiv, L2.CPow, L2.CMul, List.getElem?_cons_zero, List.getElem?_cons_succ, Z.set_z, Z.set_s, Option.some.injEq, L2.V.int.injEq, L2.V.bl.injEq, L2.V.str.injEq, L2.V.ref.injEq, L2.V.ty.injEq, List.cons.injEq, exists_eq_left', exists_and_left, exists_eq_left, exists_eq_right, exists_eq_right', exists_eq', exists_eq, true_and, and_true, and_assoc, decide_eq_true_eq, Int.reduceLT, and_self, Z.rIxH, Z.rIxU, Z.at30, Z.at31, Z.at32, Z.ix3_0, Z.ix3_1, Z.ix3_2, L2.rSetL, L2.gSub, Z.gTupH, L2.gCons, L2.gNil, L2.HO.lst.injEq, L2.HO.tup.injEq, L2.upd_same, L2.upd_upd, L2.tSl, L2.tNoPart, L2.tPart, L2.rSlL, L2.rCat, List.length_append, or_false, false_or, or_true, true_or, reduceCtorEq, false_and, and_false, exists_false, Int.reduceNeg, Int.reducePow, Int.reduceToNat, Int.reduceAbs, Int.reduceLE, Int.reduceMul, Int.reduceAdd, Int.reduceSub, Nat.reducePow, Nat.reduceLT, Nat.reduceLeDiff, Int.natAbs_natCast, if_true, if_false, Z.rIsN, Z.tyN, Z.kit_ii, Z.kit_bi, Z.kit_si, Z.kit_ni, Z.kit_ib, Z.kit_bb, Z.kit_sb, Z.kit_nb, Z.kit_is, Z.kit_bs, Z.kit_ss, Z.kit_ns, Bool.not_true, Bool.not_false, L2.tTup, L2.tLst, L2.wipe, L2.tYes, Z.Turn1, L2.tNever, sizeLine_eq, Z.rInU, Z.rInH, L2.flatV, List.any_cons, List.any_nil, List.all_cons, List.all_nil, Bool.and_true, Bool.true_and, Bool.or_false, Bool.false_or, Z.tBML, L2.rAppend, Z.map_int_inj, Z.map_bl_inj, Z.rTupL, Z.rLstL, Z.rLstT, Z.rSortI, Z.rAnyH, Z.rAllH, Z.rSumH, Z.rLenL, Z.rLenU, List.length_map, L2.tPar, StX.tStar, L2.tDNewT, L2.tDIn, L2.sDPut, L2.tDGet, Z.tCallK0, List.getD_cons_zero, List.getD_cons_succ, sp_pairs_on, sp_is_everybody, sp_evenings_for, sp_is_size, sp_is_integer]
                refine z_seq ?_
                simp only [L2.start, List.map_cons, List.map_nil, List.length_cons, List.length_nil, Nat.zero_add, Nat.reduceAdd, Nat.reduceSub, List.replicate_succ, List.replicate_zero, List.cons_append, List.nil_append, List.append_nil, L2.tNext, L2.tAsg, L2.gName, L2.tRet, L2.tRetN, L2.tIfS, L2.tVar, L2.tC, L2.tOp, L2.tUn, L2.rI, L2.rI0, L2.rU, L2.rEq, L2.rNe, L2.tTest, L2.tB, L2.tIf, Z.tIfCI, Z.tIfCS, L2.tChain, L2.tCons, L2.tNil, L2.tCall, L2.tDrop, L2.tAndV, L2.tOrV, L2.tNotV, L2.tAnd, L2.tOr, L2.tNot, L2.tCB, Z.sc_ii, Z.sc_ss, Z.sc_bb, Z.sc_is, Z.sc_si, Z.sc_ni, Z.sc_in, Z.sc_ns, Z.sc_sn, Z.sc_nn, L2.CDiv, L2.CPow, L2.CMul, List.getElem?_cons_zero, List.getElem?_cons_succ, Z.set_z, Z.set_s, Option.some.injEq, L2.V.int.injEq, L2.V.bl.injEq, L2.V.str.injEq, L2.V.ref.injEq, L2.V.ty.injEq, List.cons.injEq, exists_eq_left', exists_and_left, exists_eq_left, exists_eq_right, exists_eq_right', exists_eq', exists_eq, true_and, and_true, and_assoc, decide_eq_true_eq, Int.reduceLT, and_self, Z.rIxH, Z.rIxU, Z.at30, Z.at31, Z.at32, Z.ix3_0, Z.ix3_1, Z.ix3_2, L2.rSetL, L2.gSub, Z.gTupH, L2.gCons, L2.gNil, L2.HO.lst.injEq, L2.HO.tup.injEq, L2.upd_same, L2.upd_upd, L2.tSl, L2.tNoPart, L2.tPart, L2.rSlL, L2.rCat, List.length_append, or_false, false_or, or_true, true_or, reduceCtorEq, false_and, and_false, exists_false, Int.reduceNeg, Int.reducePow, Int.reduceToNat, Int.reduceAbs, Int.reduceLE, Int.reduceMul, Int.reduceAdd, Int.reduceSub, Nat.reducePow, Nat.reduceLT, Nat.reduceLeDiff, Int.natAbs_natCast, if_true, if_false, Z.rIsN, Z.tyN, Z.kit_ii, Z.kit_bi, Z.kit_si, Z.kit_ni, Z.kit_ib, Z.kit_bb, Z.kit_sb, Z.kit_nb, Z.kit_is, Z.kit_bs, Z.kit_ss, Z.kit_ns, Bool.not_true, Bool.not_false, L2.tTup, L2.tLst, L2.wipe, L2.tYes, Z.Turn1, L2.tNever, sizeLine_eq, Z.rInU, Z.rInH, L2.flatV, List.any_cons, List.any_nil, List.all_cons, List.all_nil, Bool.and_true, Bool.true_and, Bool.or_false, Bool.false_or, Z.tBML, L2.rAppend, Z.map_int_inj, Z.map_bl_inj, Z.rTupL, Z.rLstL, Z.rLstT, Z.rSortI, Z.rAnyH, Z.rAllH, Z.rSumH, Z.rLenL, Z.rLenU, List.length_map, L2.tPar, StX.tStar, L2.tDNewT, L2.tDIn, L2.sDPut, L2.tDGet, Z.tCallK0, List.getD_cons_zero, List.getD_cons_succ, sp_pairs_on, sp_is_everybody, sp_evenings_for, sp_is_size, sp_is_integer, kind_inj]
                refine ⟨l, s1 _ _ hb, by omega, by omega, fun D1 as qs H2 hD1 s2 e2 pq hqs hlex => ?_⟩
                have eq : qs = sortP (nbL r l) := lex_eq hlex (sortP_lex _) (hqs.trans (sortP_perm _).symm)
                rw [← eq] at ew
                have s02 := s1.trans s2
                have eD2 := s2 _ _ (same_new (o := .tup [.int (i : Nat), .ref b]) hT _ _ eD)
                have hql : qs.length ≤ 1000 := by
                  rw [hqs.length_eq]
                  unfold nbL
                  rw [List.length_map, ups_len]
                  split <;> omega
                have hal := paired_len pq
                refine z_seq ?_
                simp only [L2.start, List.map_cons, List.map_nil, List.length_cons, List.length_nil, Nat.zero_add, Nat.reduceAdd, Nat.reduceSub, List.replicate_succ, List.replicate_zero, List.cons_append, List.nil_append, List.append_nil, L2.tNext, L2.tAsg, L2.gName, L2.tRet, L2.tRetN, L2.tIfS, L2.tVar, L2.tC, L2.tOp, L2.tUn, L2.rI, L2.rI0, L2.rU, L2.rEq, L2.rNe, L2.tTest, L2.tB, L2.tIf, Z.tIfCI, Z.tIfCS, L2.tChain, L2.tCons, L2.tNil, L2.tCall, L2.tDrop, L2.tAndV, L2.tOrV, L2.tNotV, L2.tAnd, L2.tOr, L2.tNot, L2.tCB, Z.sc_ii, Z.sc_ss, Z.sc_bb, Z.sc_is, Z.sc_si, Z.sc_ni, Z.sc_in, Z.sc_ns, Z.sc_sn, Z.sc_nn, L2.CDiv, L2.CPow, L2.CMul, List.getElem?_cons_zero, List.getElem?_cons_succ, Z.set_z, Z.set_s, Option.some.injEq, L2.V.int.injEq, L2.V.bl.injEq, L2.V.str.injEq, L2.V.ref.injEq, L2.V.ty.injEq, List.cons.injEq, exists_eq_left', exists_and_left, exists_eq_left, exists_eq_right, exists_eq_right', exists_eq', exists_eq, true_and, and_true, and_assoc, decide_eq_true_eq, Int.reduceLT, and_self, Z.rIxH, Z.rIxU, Z.at30, Z.at31, Z.at32, Z.ix3_0, Z.ix3_1, Z.ix3_2, L2.rSetL, L2.gSub, Z.gTupH, L2.gCons, L2.gNil, L2.HO.lst.injEq, L2.HO.tup.injEq, L2.upd_same, L2.upd_upd, L2.tSl, L2.tNoPart, L2.tPart, L2.rSlL, L2.rCat, List.length_append, or_false, false_or, or_true, true_or, reduceCtorEq, false_and, and_false, exists_false, Int.reduceNeg, Int.reducePow, Int.reduceToNat, Int.reduceAbs, Int.reduceLE, Int.reduceMul, Int.reduceAdd, Int.reduceSub, Nat.reducePow, Nat.reduceLT, Nat.reduceLeDiff, Int.natAbs_natCast, if_true, if_false, Z.rIsN, Z.tyN, Z.kit_ii, Z.kit_bi, Z.kit_si, Z.kit_ni, Z.kit_ib, Z.kit_bb, Z.kit_sb, Z.kit_nb, Z.kit_is, Z.kit_bs, Z.kit_ss, Z.kit_ns, Bool.not_true, Bool.not_false, L2.tTup, L2.tLst, L2.wipe, L2.tYes, Z.Turn1, L2.tNever, sizeLine_eq, Z.rInU, Z.rInH, L2.flatV, List.any_cons, List.any_nil, List.all_cons, List.all_nil, Bool.and_true, Bool.true_and, Bool.or_false, Bool.false_or, Z.tBML, L2.rAppend, Z.map_int_inj, Z.map_bl_inj, Z.rTupL, Z.rLstL, Z.rLstT, Z.rSortI, Z.rAnyH, Z.rAllH, Z.rSumH, Z.rLenL, Z.rLenU, List.length_map, L2.tPar, StX.tStar, L2.tDNewT, L2.tDIn, L2.sDPut, L2.tDGet, Z.tCallK0, List.getD_cons_zero, List.getD_cons_succ, sp_pairs_on, sp_is_everybody, sp_evenings_for, sp_is_size, sp_is_integer]
                refine lc_mapL (a := D1) (xs := as.map V.ref) (H1 := H2) (againF H2 past) (fun R h => ⟨_, rfl, h⟩) (SqL.of e2) (by rw [List.length_map]; omega) (fun x hx H3 s3 => ?_) fun M H3 hM s3 e3 => ?_
                · obtain ⟨t, ht2, rfl⟩ := List.mem_map.mp hx
                  obtain ⟨p, hp, fp⟩ := paired_mem pq t ht2
                  intro Y N2 hY hN2
                  simp only [L2.start, List.map_cons, List.map_nil, List.length_cons, List.length_nil, Nat.zero_add, Nat.reduceAdd, Nat.reduceSub, List.replicate_succ, List.replicate_zero, List.cons_append, List.nil_append, List.append_nil, L2.tNext, L2.tAsg, L2.gName, L2.tRet, L2.tRetN, L2.tIfS, L2.tVar, L2.tC, L2.tOp, L2.tUn, L2.rI, L2.rI0, L2.rU, L2.rEq, L2.rNe, L2.tTest, L2.tB, L2.tIf, Z.tIfCI, Z.tIfCS, L2.tChain, L2.tCons, L2.tNil, L2.tCall, L2.tDrop, L2.tAndV, L2.tOrV, L2.tNotV, L2.tAnd, L2.tOr, L2.tNot, L2.tCB, Z.sc_ii, Z.sc_ss, Z.sc_bb, Z.sc_is, Z.sc_si, Z.sc_ni, Z.sc_in, Z.sc_ns, Z.sc_sn, Z.sc_nn, L2.CDiv, L2.CPow, L2.CMul, List.getElem?_cons_zero, List.getElem?_cons_succ, Z.set_z, Z.set_s, Option.some.injEq, L2.V.int.injEq, L2.V.bl.injEq, L2.V.str.injEq, L2.V.ref.injEq, L2.V.ty.injEq, List.cons.injEq, exists_eq_left', exists_and_left, exists_eq_left, exists_eq_right, exists_eq_right', exists_eq', exists_eq, true_and, and_true, and_assoc, decide_eq_true_eq, Int.reduceLT, and_self, Z.rIxH, Z.rIxU, Z.at30, Z.at31, Z.at32, Z.ix3_0, Z.ix3_1, Z.ix3_2, L2.rSetL, L2.gSub, Z.gTupH, L2.gCons, L2.gNil, L2.HO.lst.injEq, L2.HO.tup.injEq, L2.upd_same, L2.upd_upd, L2.tSl, L2.tNoPart, L2.tPart, L2.rSlL, L2.rCat, List.length_append, or_false, false_or, or_true, true_or, reduceCtorEq, false_and, and_false, exists_false, Int.reduceNeg, Int.reducePow, Int.reduceToNat, Int.reduceAbs, Int.reduceLE, Int.reduceMul, Int.reduceAdd, Int.reduceSub, Nat.reducePow, Nat.reduceLT, Nat.reduceLeDiff, Int.natAbs_natCast, if_true, if_false, Z.rIsN, Z.tyN, Z.kit_ii, Z.kit_bi, Z.kit_si, Z.kit_ni, Z.kit_ib, Z.kit_bb, Z.kit_sb, Z.kit_nb, Z.kit_is, Z.kit_bs, Z.kit_ss, Z.kit_ns, Bool.not_true, Bool.not_false, L2.tTup, L2.tLst, L2.wipe, L2.tYes, Z.Turn1, L2.tNever, sizeLine_eq, Z.rInU, Z.rInH, L2.flatV, List.any_cons, List.any_nil, List.all_cons, List.all_nil, Bool.and_true, Bool.true_and, Bool.or_false, Bool.false_or, Z.tBML, L2.rAppend, Z.map_int_inj, Z.map_bl_inj, Z.rTupL, Z.rLstL, Z.rLstT, Z.rSortI, Z.rAnyH, Z.rAllH, Z.rSumH, Z.rLenL, Z.rLenU, List.length_map, L2.tPar, StX.tStar, L2.tDNewT, L2.tDIn, L2.sDPut, L2.tDGet, Z.tCallK0, List.getD_cons_zero, List.getD_cons_succ, sp_pairs_on, sp_is_everybody, sp_evenings_for, sp_is_size, sp_is_integer]
                  refine ⟨_, DGet.t (s3 _ _ eD2) (show H3 t = some (.tup ((keyP p).map kV)) from s3 _ _ fp), ?_⟩
                  rw [hkv p]
                  by_cases c : p ∈ past
                  · rw [decide_eq_true c, if_pos rfl]
                    refine hY _ H3 ?_ (Same.refl _)
                    unfold againF
                    rw [pairOf_at fp, if_pos c]
                  · rw [decide_eq_false c, if_neg Bool.false_ne_true]
                    refine hN2 H3 ?_ (Same.refl _)
                    unfold againF
                    rw [pairOf_at fp, if_neg c]
                · have hh := again_head (past := past) pq
                  refine z_seq ?_
                  simp only [L2.start, List.map_cons, List.map_nil, List.length_cons, List.length_nil, Nat.zero_add, Nat.reduceAdd, Nat.reduceSub, List.replicate_succ, List.replicate_zero, List.cons_append, List.nil_append, List.append_nil, L2.tNext, L2.tAsg, L2.gName, L2.tRet, L2.tRetN, L2.tIfS, L2.tVar, L2.tC, L2.tOp, L2.tUn, L2.rI, L2.rI0, L2.rU, L2.rEq, L2.rNe, L2.tTest, L2.tB, L2.tIf, Z.tIfCI, Z.tIfCS, L2.tChain, L2.tCons, L2.tNil, L2.tCall, L2.tDrop, L2.tAndV, L2.tOrV, L2.tNotV, L2.tAnd, L2.tOr, L2.tNot, L2.tCB, Z.sc_ii, Z.sc_ss, Z.sc_bb, Z.sc_is, Z.sc_si, Z.sc_ni, Z.sc_in, Z.sc_ns, Z.sc_sn, Z.sc_nn, L2.CDiv, L2.CPow, L2.CMul, List.getElem?_cons_zero, List.getElem?_cons_succ, Z.set_z, Z.set_s, Option.some.injEq, L2.V.int.injEq, L2.V.bl.injEq, L2.V.str.injEq, L2.V.ref.injEq, L2.V.ty.injEq, List.cons.injEq, exists_eq_left', exists_and_left, exists_eq_left, exists_eq_right, exists_eq_right', exists_eq', exists_eq, true_and, and_true, and_assoc, decide_eq_true_eq, Int.reduceLT, and_self, Z.rIxH, Z.rIxU, Z.at30, Z.at31, Z.at32, Z.ix3_0, Z.ix3_1, Z.ix3_2, L2.rSetL, L2.gSub, Z.gTupH, L2.gCons, L2.gNil, L2.HO.lst.injEq, L2.HO.tup.injEq, L2.upd_same, L2.upd_upd, L2.tSl, L2.tNoPart, L2.tPart, L2.rSlL, L2.rCat, List.length_append, or_false, false_or, or_true, true_or, reduceCtorEq, false_and, and_false, exists_false, Int.reduceNeg, Int.reducePow, Int.reduceToNat, Int.reduceAbs, Int.reduceLE, Int.reduceMul, Int.reduceAdd, Int.reduceSub, Nat.reducePow, Nat.reduceLT, Nat.reduceLeDiff, Int.natAbs_natCast, if_true, if_false, Z.rIsN, Z.tyN, Z.kit_ii, Z.kit_bi, Z.kit_si, Z.kit_ni, Z.kit_ib, Z.kit_bb, Z.kit_sb, Z.kit_nb, Z.kit_is, Z.kit_bs, Z.kit_ss, Z.kit_ns, Bool.not_true, Bool.not_false, L2.tTup, L2.tLst, L2.wipe, L2.tYes, Z.Turn1, L2.tNever, sizeLine_eq, Z.rInU, Z.rInH, L2.flatV, List.any_cons, List.any_nil, List.all_cons, List.all_nil, Bool.and_true, Bool.true_and, Bool.or_false, Bool.false_or, Z.tBML, L2.rAppend, Z.map_int_inj, Z.map_bl_inj, Z.rTupL, Z.rLstL, Z.rLstT, Z.rSortI, Z.rAnyH, Z.rAllH, Z.rSumH, Z.rLenL, Z.rLenU, List.length_map, L2.tPar, StX.tStar, L2.tDNewT, L2.tDIn, L2.sDPut, L2.tDGet, Z.tCallK0, List.getD_cons_zero, List.getD_cons_succ, sp_pairs_on, sp_is_everybody, sp_evenings_for, sp_is_size, sp_is_integer]
                  have hD1D : D1 ≠ D := Ne.symm (ne_of_none (same_new (o := .tup [.int (i : Nat), .ref b]) hT _ _ eD) hD1)
                  rcases hh with ⟨hL, hf⟩ | ⟨t, p, rest, hL, fp, hf⟩
                  · rw [hL] at e3
                    rw [hf] at ew
                    have ew : wrongFrom r [] 0 (rows.map (rowInts H)) = wrongFrom r (past ++ nbL r l) ((i : Int) + 1) ((rows.map (rowInts H)).drop (i + 1)) := ew
                    refine ⟨false, .inl ⟨[], SqL.of e3, rfl⟩, ?_⟩
                    rw [if_neg Bool.false_ne_true]
                    refine for_trk (a := D1) (xs := as.map V.ref) (fun R h => ⟨_, rfl, h⟩) (fun j σ' H' => ∃ w7 kvs', σ' = [some (.str (kindS r)), some (.int n), some (.ref a), some (.int i), some (.ref b), some (.ref D), some (.ref D1), w7, some (.ref M)] ∧ (∀ b o, b ≠ D → H3 b = some o → H' b = some o) ∧ H' D = some (.dT kvs') ∧ kvs'.length ≤ i * 1000 + j ∧ ∀ p, (valV kvs' (keyP p)).isSome = decide (p ∈ past ++ qs.take j)) ⟨_, kvs, rfl, fun _ _ _ e => e, s3 _ _ eD2, by omega, fun p => by rw [hkv p, List.take_zero, List.append_nil]⟩ (fun _ _ _ h => by obtain ⟨_, _, _, h, _⟩ := h; exact SqL.of (h _ _ hD1D (s3 _ _ e2))) ?_ ?_
                    · rintro j x σ' H' hjx ⟨w7, kvs', rfl, k4, e4, hkl2, hkv2⟩ N2 hN2
                      rw [List.getElem?_map] at hjx
                      obtain ⟨t, ht2, rfl⟩ := Option.map_eq_some_iff.mp hjx
                      obtain ⟨p, hp, fp⟩ := Z.paired_get pq ht2
                      have hjl : j < as.length := (List.getElem?_eq_some_iff.mp ht2).1
                      have htD : t ≠ D := by
                        rintro rfl
                        have fp : H2 t = _ := fp
                        rw [eD2] at fp
                        cases fp
                      simp only [L2.start, List.map_cons, List.map_nil, List.length_cons, List.length_nil, Nat.zero_add, Nat.reduceAdd, Nat.reduceSub, List.replicate_succ, List.replicate_zero, List.cons_append, List.nil_append, List.append_nil, L2.tNext, L2.tAsg, L2.gName, L2.tRet, L2.tRetN, L2.tIfS, L2.tVar, L2.tC, L2.tOp, L2.tUn, L2.rI, L2.rI0, L2.rU, L2.rEq, L2.rNe, L2.tTest, L2.tB, L2.tIf, Z.tIfCI, Z.tIfCS, L2.tChain, L2.tCons, L2.tNil, L2.tCall, L2.tDrop, L2.tAndV, L2.tOrV, L2.tNotV, L2.tAnd, L2.tOr, L2.tNot, L2.tCB, Z.sc_ii, Z.sc_ss, Z.sc_bb, Z.sc_is, Z.sc_si, Z.sc_ni, Z.sc_in, Z.sc_ns, Z.sc_sn, Z.sc_nn, L2.CDiv, L2.CPow, L2.CMul, List.getElem?_cons_zero, List.getElem?_cons_succ, Z.set_z, Z.set_s, Option.some.injEq, L2.V.int.injEq, L2.V.bl.injEq, L2.V.str.injEq, L2.V.ref.injEq, L2.V.ty.injEq, List.cons.injEq, exists_eq_left', exists_and_left, exists_eq_left, exists_eq_right, exists_eq_right', exists_eq', exists_eq, true_and, and_true, and_assoc, decide_eq_true_eq, Int.reduceLT, and_self, Z.rIxH, Z.rIxU, Z.at30, Z.at31, Z.at32, Z.ix3_0, Z.ix3_1, Z.ix3_2, L2.rSetL, L2.gSub, Z.gTupH, L2.gCons, L2.gNil, L2.HO.lst.injEq, L2.HO.tup.injEq, L2.upd_same, L2.upd_upd, L2.tSl, L2.tNoPart, L2.tPart, L2.rSlL, L2.rCat, List.length_append, or_false, false_or, or_true, true_or, reduceCtorEq, false_and, and_false, exists_false, Int.reduceNeg, Int.reducePow, Int.reduceToNat, Int.reduceAbs, Int.reduceLE, Int.reduceMul, Int.reduceAdd, Int.reduceSub, Nat.reducePow, Nat.reduceLT, Nat.reduceLeDiff, Int.natAbs_natCast, if_true, if_false, Z.rIsN, Z.tyN, Z.kit_ii, Z.kit_bi, Z.kit_si, Z.kit_ni, Z.kit_ib, Z.kit_bb, Z.kit_sb, Z.kit_nb, Z.kit_is, Z.kit_bs, Z.kit_ss, Z.kit_ns, Bool.not_true, Bool.not_false, L2.tTup, L2.tLst, L2.wipe, L2.tYes, Z.Turn1, L2.tNever, sizeLine_eq, Z.rInU, Z.rInH, L2.flatV, List.any_cons, List.any_nil, List.all_cons, List.all_nil, Bool.and_true, Bool.true_and, Bool.or_false, Bool.false_or, Z.tBML, L2.rAppend, Z.map_int_inj, Z.map_bl_inj, Z.rTupL, Z.rLstL, Z.rLstT, Z.rSortI, Z.rAnyH, Z.rAllH, Z.rSumH, Z.rLenL, Z.rLenU, List.length_map, L2.tPar, StX.tStar, L2.tDNewT, L2.tDIn, L2.sDPut, L2.tDGet, Z.tCallK0, List.getD_cons_zero, List.getD_cons_succ, sp_pairs_on, sp_is_everybody, sp_evenings_for, sp_is_size, sp_is_integer]
                      refine ⟨_, DPut.t e4 (show H' t = some (.tup ((keyP p).map kV)) from k4 _ _ htD (s3 _ _ fp)) ?_, hN2 _ _ ⟨_, putK kvs' (keyP p) (.int i), rfl, fun b o nb e => ?_, upd_same, ?_, fun q0 => ?_⟩⟩
                      · rw [sizeLine_eq]
                        have : i * 1000 ≤ 1000 * 1000 := Nat.mul_le_mul_right _ (by omega)
                        omega
                      · rw [upd_ne nb]
                        exact k4 b o nb e
                      · have := length_putK kvs' (keyP p) (.int i)
                        omega
                      · rw [valV_put, List.take_add_one, hp]
                        by_cases c : q0 = p
                        · subst c
                          rw [if_pos rfl, decide_eq_true (by simp)]
                          rfl
                        · rw [if_neg fun h => c (keyP_inj h), hkv2 q0, decide_eq_decide]
                          simp [c]
                    · rintro σ' H' ⟨w7, kvs', rfl, k4, e4, hkl2, hkv2⟩
                      refine hN _ _ ⟨_, _, _, _, _, D, kvs', past ++ nbL r l, rfl, fun b o e => k4 b o (ne_of_none e hD) (s3 _ _ (s02 _ _ e)), hD, e4, ?_, fun q0 => ?_, ew⟩
                      · rw [List.length_map] at hkl2
                        rw [Nat.add_mul]
                        omega
                      · rw [List.length_map, hal, List.take_length] at hkv2
                        rw [hkv2 q0, decide_eq_decide, List.mem_append, List.mem_append, hqs.mem_iff]
                  · rw [hL] at e3
                    rw [hf] at ew
                    refine ⟨true, .inl ⟨_, SqL.of e3, rfl⟩, ?_⟩
                    rw [if_pos rfl]
                    refine ⟨_, e3, .ref t, atI_int (by decide) rfl, t, rfl, [.int p.1, .int p.2], .inl (SqT.of (s3 _ _ fp)), by show 2 ≤ 16777214; decide, fun p0 hp0 => ?_⟩
                    have s03 := s02.trans s3
                    refine q1 _ _ (same_upd s03 (s03.free hp0)) ?_
                    rw [ew]
                    exact ⟨p0, rfl, upd_same⟩
              · rintro σ H2 ⟨v3, v4, v6, v7, v8, D, kvs, past, rfl, s0, hD, eD, hkl, hkv, ew⟩
                simp only [L2.start, List.map_cons, List.map_nil, List.length_cons, List.length_nil, Nat.zero_add, Nat.reduceAdd, Nat.reduceSub, List.replicate_succ, List.replicate_zero, List.cons_append, List.nil_append, List.append_nil, L2.tNext, L2.tAsg, L2.gName, L2.tRet, L2.tRetN, L2.tIfS, L2.tVar, L2.tC, L2.tOp, L2.tUn, L2.rI, L2.rI0, L2.rU, L2.rEq, L2.rNe, L2.tTest, L2.tB, L2.tIf, Z.tIfCI, Z.tIfCS, L2.tChain, L2.tCons, L2.tNil, L2.tCall, L2.tDrop, L2.tAndV, L2.tOrV, L2.tNotV, L2.tAnd, L2.tOr, L2.tNot, L2.tCB, Z.sc_ii, Z.sc_ss, Z.sc_bb, Z.sc_is, Z.sc_si, Z.sc_ni, Z.sc_in, Z.sc_ns, Z.sc_sn, Z.sc_nn, L2.CDiv, L2.CPow, L2.CMul, List.getElem?_cons_zero, List.getElem?_cons_succ, Z.set_z, Z.set_s, Option.some.injEq, L2.V.int.injEq, L2.V.bl.injEq, L2.V.str.injEq, L2.V.ref.injEq, L2.V.ty.injEq, List.cons.injEq, exists_eq_left', exists_and_left, exists_eq_left, exists_eq_right, exists_eq_right', exists_eq', exists_eq, true_and, and_true, and_assoc, decide_eq_true_eq, Int.reduceLT, and_self, Z.rIxH, Z.rIxU, Z.at30, Z.at31, Z.at32, Z.ix3_0, Z.ix3_1, Z.ix3_2, L2.rSetL, L2.gSub, Z.gTupH, L2.gCons, L2.gNil, L2.HO.lst.injEq, L2.HO.tup.injEq, L2.upd_same, L2.upd_upd, L2.tSl, L2.tNoPart, L2.tPart, L2.rSlL, L2.rCat, List.length_append, or_false, false_or, or_true, true_or, reduceCtorEq, false_and, and_false, exists_false, Int.reduceNeg, Int.reducePow, Int.reduceToNat, Int.reduceAbs, Int.reduceLE, Int.reduceMul, Int.reduceAdd, Int.reduceSub, Nat.reducePow, Nat.reduceLT, Nat.reduceLeDiff, Int.natAbs_natCast, if_true, if_false, Z.rIsN, Z.tyN, Z.kit_ii, Z.kit_bi, Z.kit_si, Z.kit_ni, Z.kit_ib, Z.kit_bb, Z.kit_sb, Z.kit_nb, Z.kit_is, Z.kit_bs, Z.kit_ss, Z.kit_ns, Bool.not_true, Bool.not_false, L2.tTup, L2.tLst, L2.wipe, L2.tYes, Z.Turn1, L2.tNever, sizeLine_eq, Z.rInU, Z.rInH, L2.flatV, List.any_cons, List.any_nil, List.all_cons, List.all_nil, Bool.and_true, Bool.true_and, Bool.or_false, Bool.false_or, Z.tBML, L2.rAppend, Z.map_int_inj, Z.map_bl_inj, Z.rTupL, Z.rLstL, Z.rLstT, Z.rSortI, Z.rAnyH, Z.rAllH, Z.rSumH, Z.rLenL, Z.rLenU, List.length_map, L2.tPar, StX.tStar, L2.tDNewT, L2.tDIn, L2.sDPut, L2.tDGet, Z.tCallK0, List.getD_cons_zero, List.getD_cons_succ, sp_pairs_on, sp_is_everybody, sp_evenings_for, sp_is_size, sp_is_integer]
                refine q1 _ _ s0 ?_
                rw [ew, show (rows.map (rowInts H)).drop rows.length = [] by rw [← List.length_map (f := rowInts H), List.drop_length]]
                rfl
          · rw [decide_eq_false c3, if_pos (by decide)]
            rw [if_neg c3] at q1
            exact q1 _ _ (Same.refl _) rfl
        · rw [decide_eq_false c2, if_pos (by decide)]
          refine q _ H (Same.refl _) ?_
          rw [wrongR_int, if_pos c1, rowOf_none ht c2]
          rfl
      · have c2 : sizeV r n (.int n) = false := by
          cases h : sizeV r n (.int n)
          · rfl
          · exact absurd h c1
        rw [c2, if_pos (by decide)]
        refine q _ H (Same.refl _) ?_
        rw [wrongR_int, if_neg c1]
        rfl
    | _ =>
      simp only [isI, Bool.not_false, if_true]
      exact q _ H (Same.refl _) rfl

open Zig
theorem isWR_non {H : Hp} {v : V} {w : WR} (h : isWR H v w) : v = .non ↔ w = .ok := by
  cases w with
  | ok => exact ⟨fun _ => rfl, fun _ => h⟩
  | number =>
    have h : v = .str "number" := h
    rw [h]
    exact ⟨fun z => (by cases z), fun z => (by cases z)⟩
  | evenings =>
    have h : v = .str "evenings" := h
    rw [h]
    exact ⟨fun z => (by cases z), fun z => (by cases z)⟩
  | people e =>
    obtain ⟨t, rfl, _⟩ := h
    exact ⟨fun z => (by cases z), fun z => (by cases z)⟩
  | again p q e =>
    obtain ⟨t, rfl, _⟩ := h
    exact ⟨fun z => (by cases z), fun z => (by cases z)⟩
theorem Known3.same {H H' : Hp} {x : V} (k : Known3 H x) (s : Same H H') : Known3 H' x := by
  refine ⟨k.1.same s, fun xs h => ?_⟩
  rw [rowOf_same k.1 s] at h
  obtain ⟨h1, h2⟩ := k.2 xs h
  exact ⟨h1, fun z hz => (h2 z hz).same s⟩
theorem people_same {n : Int} {H H' : Hp} (s : Same H H') : ∀ (rows : List V) (e : Int) (w : WR), (∀ z ∈ rows, Known H z) → peopleFrom n H' e rows w = peopleFrom n H e rows w
  | [], _, _, _ => rfl
  | v :: vs, e, w, h => by
    rw [peopleFrom_cons, peopleFrom_cons, rowOf_same (h v List.mem_cons_self) s, people_same s vs (e + 1) w fun z hz => h z (List.mem_cons_of_mem _ hz)]
theorem wrong_same {r : Bool} {H H' : Hp} {x ev : V} (k : Known3 H ev) (s : Same H H') : wrongR r H' x ev = wrongR r H x ev := by
  cases x with
  | int n =>
    rw [wrongR_int, wrongR_int, rowOf_same k.1 s]
    cases e : rowOf H ev with
    | none => rfl
    | some rows =>
      obtain ⟨_, hz⟩ := k.2 rows e
      have e1 : rows.map (rowInts H') = rows.map (rowInts H) := List.map_congr_left fun z hm => by
        unfold rowInts
        rw [rowOf_same (hz z hm).1 s]
      unfold wrongE
      dsimp only
      rw [e1, people_same s rows 0 _ fun z hm => (hz z hm).1]
  | _ => rfl
theorem isWR_same {H H' : Hp} {v : V} : ∀ {w : WR}, Same H H' → isWR H v w → isWR H' v w
  | .ok, _, h => h
  | .number, _, h => h
  | .evenings, _, h => h
  | .people e, s, h => by
    obtain ⟨t, e1, ht⟩ := h
    exact ⟨t, e1, s _ _ ht⟩
  | .again p q e, s, h => by
    obtain ⟨t, e1, ht⟩ := h
    exact ⟨t, e1, s _ _ ht⟩

theorem find_no {l past : List (Int × Int)} : ((sortP l).find? fun p => decide (p ∈ past)) = none ↔ ∀ p ∈ l, p ∉ past := by
  rw [List.find?_eq_none]
  constructor
  · intro h p hp
    have := h p ((sortP_perm l).mem_iff.mpr hp)
    simpa using this
  · intro h p hp
    have := h p ((sortP_perm l).mem_iff.mp hp)
    simpa using this
theorem wrongFrom_ok {r : Bool} : ∀ (ls : List (List Int)) (past : List (Int × Int)) (e : Int), wrongFrom r past e ls = .ok ↔ (∀ l ∈ ls, ∀ p ∈ nbL r l, p ∉ past) ∧ ls.Pairwise fun l m => ∀ p ∈ nbL r m, p ∉ nbL r l
  | [], past, e => ⟨fun _ => ⟨fun _ h => absurd h List.not_mem_nil, .nil⟩, fun _ => rfl⟩
  | l :: ls, past, e => by
    rw [wrongFrom_cons]
    have ih := wrongFrom_ok (r := r) ls (past ++ nbL r l) (e + 1)
    cases h : ((sortP (nbL r l)).find? fun p => decide (p ∈ past)) with
    | some p =>
      dsimp only
      refine ⟨fun z => (by cases z), fun z => ?_⟩
      have := find_no.mpr (z.1 l List.mem_cons_self)
      rw [h] at this
      cases this
    | none =>
      dsimp only
      have h := find_no.mp h
      rw [ih, List.pairwise_cons]
      constructor
      · rintro ⟨h1, h2⟩
        refine ⟨fun m hm p hp => ?_, fun m hm p hp => ?_, h2⟩
        · rcases List.mem_cons.mp hm with rfl | hm
          · exact h p hp
          · exact fun z => h1 m hm p hp (List.mem_append_left _ z)
        · exact fun z => h1 m hm p hp (List.mem_append_right _ z)
      · rintro ⟨h1, h2, h3⟩
        refine ⟨fun m hm p hp z => ?_, h3⟩
        rcases List.mem_append.mp z with z | z
        · exact h1 m (List.mem_cons_of_mem _ hm) p hp z
        · exact h2 m hm p hp z
theorem ints_all {l m : Int} : ∀ {ns : List Int}, (∀ i ∈ ns, l ≤ i ∧ i ≤ m) → (ns.map V.int).all (inB l m) = true
  | [], _ => rfl
  | n :: r, h => by
    rw [List.map_cons, List.all_cons, ints_all fun i hi => h i (List.mem_cons_of_mem _ hi), Bool.and_true]
    exact decide_eq_true (h n List.mem_cons_self)
theorem intsOf_map : ∀ ns : List Int, intsOf (ns.map V.int) = ns
  | [] => rfl
  | n :: r => by
    have := intsOf_map r
    unfold intsOf at this ⊢
    rw [List.map_cons, List.filterMap_cons]
    show n :: (r.map V.int).filterMap intOf = _
    rw [this]
theorem every_perm {n : Int} {l : List Int} (h : l.Perm (ups n)) (hn : 0 ≤ n) : everyB n (some (l.map V.int)) = true := by
  rw [everyB_some, List.length_map, h.length_eq, ups_len, decide_eq_true (by omega), ints_all fun i hi => by have := mem_ups.mp (h.mem_iff.mp hi); omega, intsOf_map, decide_eq_true (h.nodup_iff.mpr (ups_nodup n))]
  rfl
theorem rows_of {H : Hp} : ∀ {as : List Addr} {ls : List (List Int)}, Paired (TupAt H) as ls → (as.map V.ref).map (rowInts H) = ls
  | _, _, .nil => rfl
  | _, _, .cons (a := a) (b := b) f r => by
    rw [List.map_cons, List.map_cons, rows_of r]
    congr 1
    unfold rowInts
    rw [rowOf_tup f]
    exact intsOf_map b
theorem people_all {n : Int} {H : Hp} {w : WR} (hn : 0 ≤ n) : ∀ {as : List Addr} {ls : List (List Int)} (e : Int), Paired (TupAt H) as ls → (∀ l ∈ ls, l.Perm (ups n)) → peopleFrom n H e (as.map V.ref) w = w
  | _, _, _, .nil, _ => rfl
  | _, _, e, .cons (a := a) (b := b) f r, h => by
    rw [List.map_cons, peopleFrom_cons, rowOf_tup f, if_pos (every_perm (h b List.mem_cons_self) hn)]
    exact people_all hn (e + 1) r fun l hl => h l (List.mem_cons_of_mem _ hl)
theorem size_right {r : Bool} {n k : Int} (h : SizeIs r n k) : sizeV r n (.int n) = true := by
  have h2 := size_two h
  show (if r then (decide (3 ≤ n ∧ n ≤ n) && decide (n % 2 = 1)) else (decide (2 ≤ n ∧ n ≤ n) && decide (n % 2 = 0))) = true
  obtain ⟨h0, ⟨rfl, h1⟩ | ⟨rfl, h1⟩⟩ := h
  · rw [if_pos rfl, decide_eq_true (by omega), decide_eq_true (by omega)]
    rfl
  · rw [if_neg Bool.false_ne_true, decide_eq_true (by omega), decide_eq_true (by omega)]
    rfl
/-- rows of people: what is wrong is in their pairs -/
theorem wrong_rows {r : Bool} {n k : Int} {H : Hp} {A : Addr} {as : List Addr} {ls : List (List Int)} (hs : SizeIs r n k) (hA : H A = some (.tup (as.map V.ref))) (pa : Paired (TupAt H) as ls) (hl : (ls.length : Int) = nights r n) (hp : ∀ l ∈ ls, l.Perm (ups n)) :
    wrongR r H (.int n) (.ref A) = wrongFrom r [] 0 ls := by
  have h2 := size_two hs
  rw [wrongR_int, if_pos (size_right hs), rowOf_tup hA]
  unfold wrongE
  dsimp only
  rw [List.length_map, paired_len pa, if_pos hl, people_all (by omega) 0 pa hp, rows_of pa]
theorem once_pairwise {r : Bool} {n : Int} (hn : 0 < n) : ∀ {ls : List (List Int)}, (∀ l ∈ ls, l.Perm (ups n)) → (ls.flatMap (besL r)).Nodup → ls.Pairwise fun l m => ∀ p ∈ nbL r m, p ∉ nbL r l
  | [], _, _ => .nil
  | l :: ls, hp, h => by
    rw [List.flatMap_cons, List.nodup_append] at h
    have hlen : ∀ m ∈ l :: ls, 0 < m.length := fun m hm => by
      rw [(hp m hm).length_eq, ups_len]
      omega
    refine List.pairwise_cons.mpr ⟨fun m hm p h1 h2 => ?_, once_pairwise hn (fun m hm => hp m (List.mem_cons_of_mem _ hm)) h.2.1⟩
    rw [nb_bes r (hlen m (List.mem_cons_of_mem _ hm))] at h1
    rw [nb_bes r (hlen l List.mem_cons_self)] at h2
    exact h.2.2 p h2 p (List.mem_flatMap.mpr ⟨m, hm, h1⟩) rfl
theorem party_ok {r : Bool} {n k : Int} {H : Hp} {A : Addr} {as : List Addr} {ls : List (List Int)} (hs : SizeIs r n k) (hA : H A = some (.tup (as.map V.ref))) (pa : Paired (TupAt H) as ls) (ip : IsParty r n ls) : wrongR r H (.int n) (.ref A) = .ok := by
  have h2 := size_two hs
  rw [wrong_rows hs hA pa ip.many ip.all, wrongFrom_ok]
  exact ⟨fun _ _ _ _ h => absurd h List.not_mem_nil, once_pairwise (by omega) ip.all ip.once⟩

open Zig
def sp_accepts_party : Sp := fun vs H Q _ => ∃ (r : Bool) (x ev : V), vs = [.str (kindS r), x, ev] ∧ Known H x ∧ Known3 H ev ∧ ∀ H', Same H H' → Q (.bl (decide (wrongR r H x ev = .ok))) H'
theorem ok_accepts_party (T : Env w K mg) : Hd P w K mg base CX0 5 "accepts_party" s_accepts_party ["kind", "many", "evenings"] sp_accepts_party := by
  have H_wrong_of := ok_wrong_of (P := P) (w := w) (base := base) T
  obtain ⟨f, fd, F, hm⟩ := T.d_accepts_party
  refine ⟨⟨f, fd, F, hm, ?_⟩, fun _ _ _ _ _ _ _ us hl => match us, hl with | [_, _, _], _ => rfl⟩
  refine F.ok sc_accepts_party (fun vs H Q E h => ?_) (fun cdv A outer s H vs Q E hr h => ?_)
  · first | (obtain ⟨rfl, _⟩ := h; rfl) | (obtain ⟨_, rfl, _⟩ := h; rfl) | (obtain ⟨_, _, rfl, _⟩ := h; rfl) | (obtain ⟨_, _, _, rfl, _⟩ := h; rfl) | (obtain ⟨_, _, _, _, rfl, _⟩ := h; rfl) | (obtain ⟨_, _, _, _, _, rfl, _⟩ := h; rfl) | (obtain ⟨_, _, _, _, _, _, rfl, _⟩ := h; rfl) | (obtain ⟨_, _, _, _, _, _, _, rfl, _⟩ := h; rfl) | (obtain ⟨_, _, _, _, _, _, _, _, rfl, _⟩ := h; rfl)
  · obtain ⟨r, x, ev, rfl, kx, ke, q⟩ := h
    have hu := hu_of hr
    refine ⟨_, pss_cons (ps_if (PW.pt (pw_or (pt_not (pt_val (pe_callB call_isN rfl T.b_isinstance (by decide +kernel) (pa_cons (pv 0) (pa_cons (pe_bltn (v := .ty "str") (by rfl) T.b_str (by decide +kernel) rfl) pa_nil))))) (pw_or1 (pt_cmpR op_notIn_tupH (pv 0) (pe_tup (pa_cons (pe_glob (v := .str "rings") rfl T.c_RINGS.choose_spec ⟨_, rfl⟩) (pa_cons (pe_glob (v := .str "rows") rfl T.c_ROWS.choose_spec ⟨_, rfl⟩) pa_nil))) (by rfl))))) (pss_one (ps_ret pe_bl))
      (pss_nil))
      (pss_one (ps_ret (pe_cmpR op_isN (pe_hd H_wrong_of (hr.mono (by decide)) rfl pass0 (pa_cons (pv 0) (pa_cons (pv 1) (pa_cons (pv 2) pa_nil)))) pe_non (nomark _)))), ?_⟩
    simp only [L2.start, List.map_cons, List.map_nil, List.length_cons, List.length_nil, Nat.zero_add, Nat.reduceAdd, Nat.reduceSub, List.replicate_succ, List.replicate_zero, List.cons_append, List.nil_append, List.append_nil, L2.tNext, L2.tAsg, L2.gName, L2.tRet, L2.tRetN, L2.tIfS, L2.tVar, L2.tC, L2.tOp, L2.tUn, L2.rI, L2.rI0, L2.rU, L2.rEq, L2.rNe, L2.tTest, L2.tB, L2.tIf, Z.tIfCI, Z.tIfCS, L2.tChain, L2.tCons, L2.tNil, L2.tCall, L2.tDrop, L2.tAndV, L2.tOrV, L2.tNotV, L2.tAnd, L2.tOr, L2.tNot, L2.tCB, Z.sc_ii, Z.sc_ss, Z.sc_bb, Z.sc_is, Z.sc_si, Z.sc_ni, Z.sc_in, Z.sc_ns, Z.sc_sn, Z.sc_nn, L2.CDiv, L2.CPow, L2.CMul, List.getElem?_cons_zero, List.getElem?_cons_succ, Z.set_z, Z.set_s, Option.some.injEq, L2.V.int.injEq, L2.V.bl.injEq, L2.V.str.injEq, L2.V.ref.injEq, L2.V.ty.injEq, List.cons.injEq, exists_eq_left', exists_and_left, exists_eq_left, exists_eq_right, exists_eq_right', exists_eq', exists_eq, true_and, and_true, and_assoc, decide_eq_true_eq, Int.reduceLT, and_self, Z.rIxH, Z.rIxU, Z.at30, Z.at31, Z.at32, Z.ix3_0, Z.ix3_1, Z.ix3_2, L2.rSetL, L2.gSub, Z.gTupH, L2.gCons, L2.gNil, L2.HO.lst.injEq, L2.HO.tup.injEq, L2.upd_same, L2.upd_upd, L2.tSl, L2.tNoPart, L2.tPart, L2.rSlL, L2.rCat, List.length_append, or_false, false_or, or_true, true_or, reduceCtorEq, false_and, and_false, exists_false, Int.reduceNeg, Int.reducePow, Int.reduceToNat, Int.reduceAbs, Int.reduceLE, Int.reduceMul, Int.reduceAdd, Int.reduceSub, Nat.reducePow, Nat.reduceLT, Nat.reduceLeDiff, Int.natAbs_natCast, if_true, if_false, Z.rIsN, Z.tyN, Z.kit_ii, Z.kit_bi, Z.kit_si, Z.kit_ni, Z.kit_ib, Z.kit_bb, Z.kit_sb, Z.kit_nb, Z.kit_is, Z.kit_bs, Z.kit_ss, Z.kit_ns, Bool.not_true, Bool.not_false, L2.tTup, L2.tLst, L2.wipe, L2.tYes, Z.Turn1, L2.tNever, sizeLine_eq, Z.rInU, Z.rInH, L2.flatV, List.any_cons, List.any_nil, List.all_cons, List.all_nil, Bool.and_true, Bool.true_and, Bool.or_false, Bool.false_or, Z.tBML, L2.rAppend, Z.map_int_inj, Z.map_bl_inj, Z.rTupL, Z.rLstL, Z.rLstT, Z.rSortI, Z.rAnyH, Z.rAllH, Z.rSumH, Z.rLenL, Z.rLenU, List.length_map, L2.tPar, StX.tStar, L2.tDNewT, L2.tDIn, L2.sDPut, L2.tDGet, Z.tCallK0, List.getD_cons_zero, List.getD_cons_succ, sp_wrong_of]
    refine z_seq ?_
    simp only [L2.start, List.map_cons, List.map_nil, List.length_cons, List.length_nil, Nat.zero_add, Nat.reduceAdd, Nat.reduceSub, List.replicate_succ, List.replicate_zero, List.cons_append, List.nil_append, List.append_nil, L2.tNext, L2.tAsg, L2.gName, L2.tRet, L2.tRetN, L2.tIfS, L2.tVar, L2.tC, L2.tOp, L2.tUn, L2.rI, L2.rI0, L2.rU, L2.rEq, L2.rNe, L2.tTest, L2.tB, L2.tIf, Z.tIfCI, Z.tIfCS, L2.tChain, L2.tCons, L2.tNil, L2.tCall, L2.tDrop, L2.tAndV, L2.tOrV, L2.tNotV, L2.tAnd, L2.tOr, L2.tNot, L2.tCB, Z.sc_ii, Z.sc_ss, Z.sc_bb, Z.sc_is, Z.sc_si, Z.sc_ni, Z.sc_in, Z.sc_ns, Z.sc_sn, Z.sc_nn, L2.CDiv, L2.CPow, L2.CMul, List.getElem?_cons_zero, List.getElem?_cons_succ, Z.set_z, Z.set_s, Option.some.injEq, L2.V.int.injEq, L2.V.bl.injEq, L2.V.str.injEq, L2.V.ref.injEq, L2.V.ty.injEq, List.cons.injEq, exists_eq_left', exists_and_left, exists_eq_left, exists_eq_right, exists_eq_right', exists_eq', exists_eq, true_and, and_true, and_assoc, decide_eq_true_eq, Int.reduceLT, and_self, Z.rIxH, Z.rIxU, Z.at30, Z.at31, Z.at32, Z.ix3_0, Z.ix3_1, Z.ix3_2, L2.rSetL, L2.gSub, Z.gTupH, L2.gCons, L2.gNil, L2.HO.lst.injEq, L2.HO.tup.injEq, L2.upd_same, L2.upd_upd, L2.tSl, L2.tNoPart, L2.tPart, L2.rSlL, L2.rCat, List.length_append, or_false, false_or, or_true, true_or, reduceCtorEq, false_and, and_false, exists_false, Int.reduceNeg, Int.reducePow, Int.reduceToNat, Int.reduceAbs, Int.reduceLE, Int.reduceMul, Int.reduceAdd, Int.reduceSub, Nat.reducePow, Nat.reduceLT, Nat.reduceLeDiff, Int.natAbs_natCast, if_true, if_false, Z.rIsN, Z.tyN, Z.kit_ii, Z.kit_bi, Z.kit_si, Z.kit_ni, Z.kit_ib, Z.kit_bb, Z.kit_sb, Z.kit_nb, Z.kit_is, Z.kit_bs, Z.kit_ss, Z.kit_ns, Bool.not_true, Bool.not_false, L2.tTup, L2.tLst, L2.wipe, L2.tYes, Z.Turn1, L2.tNever, sizeLine_eq, Z.rInU, Z.rInH, L2.flatV, List.any_cons, List.any_nil, List.all_cons, List.all_nil, Bool.and_true, Bool.true_and, Bool.or_false, Bool.false_or, Z.tBML, L2.rAppend, Z.map_int_inj, Z.map_bl_inj, Z.rTupL, Z.rLstL, Z.rLstT, Z.rSortI, Z.rAnyH, Z.rAllH, Z.rSumH, Z.rLenL, Z.rLenU, List.length_map, L2.tPar, StX.tStar, L2.tDNewT, L2.tDIn, L2.sDPut, L2.tDGet, Z.tCallK0, List.getD_cons_zero, List.getD_cons_succ, sp_wrong_of, kind_inj]
    intro p hp
    have hin : inV (V.str (kindS r)) [V.str "rings", V.str "rows"] = true := by
      cases r
      · decide +kernel
      · decide +kernel
    rw [hin, if_neg (by decide)]
    have s1 := same_new (o := .tup [.str "rings", .str "rows"]) hp
    refine ⟨kx.same s1, ke.same s1, fun v H1 s2 w => ?_⟩
    rw [wrong_same ke s1] at w
    have hd : decide (v = V.non) = decide (wrongR r H x ev = .ok) := by
      rw [decide_eq_decide]
      exact isWR_non w
    rw [hd]
    exact q H1 (s1.trans s2)
theorem isN_str {H : Hp} {z : Str} {Q : VK} (q : Q (.bl true) H) : rIsN [.str z, .ty "str"] H Q := ⟨.str z, "str", rfl, _, rfl, _, kit_ss, q⟩
def sp_accepts : Sp := fun vs H Q _ => ∃ (c u : Addr) (r : Bool) (x ev : V), vs = [.ref c, .ref u] ∧ H c = some (.tup [.str "party", .str (kindS r), x, ev]) ∧ H u = some (.tup []) ∧ Known H x ∧ Known3 H ev ∧ ∀ H', Same H H' → Q (.bl (decide (wrongR r H x ev = .ok))) H'
theorem ok_accepts (T : Env w K mg) : Hd P w K mg base CX0 6 "accepts" s_accepts ["claim", "certificate"] sp_accepts := by
  have H_accepts_party := ok_accepts_party (P := P) (w := w) (base := base) T
  obtain ⟨d_LENGTHS, es_LENGTHS, n_LENGTHS, m_LENGTHS, D_LENGTHS, ⟨t_LENGTHS_grows, p_LENGTHS_grows⟩, ⟨t_LENGTHS_barred, p_LENGTHS_barred⟩, ⟨t_LENGTHS_party, p_LENGTHS_party⟩⟩ := T.k_LENGTHS
  obtain ⟨f, fd, F, hm⟩ := T.d_accepts
  refine ⟨⟨f, fd, F, hm, ?_⟩, fun _ _ _ _ _ _ _ us hl => match us, hl with | [_, _], _ => rfl⟩
  refine F.ok sc_accepts (fun vs H Q E h => ?_) (fun cdv A outer s H vs Q E hr h => ?_)
  · first | (obtain ⟨rfl, _⟩ := h; rfl) | (obtain ⟨_, rfl, _⟩ := h; rfl) | (obtain ⟨_, _, rfl, _⟩ := h; rfl) | (obtain ⟨_, _, _, rfl, _⟩ := h; rfl) | (obtain ⟨_, _, _, _, rfl, _⟩ := h; rfl) | (obtain ⟨_, _, _, _, _, rfl, _⟩ := h; rfl) | (obtain ⟨_, _, _, _, _, _, rfl, _⟩ := h; rfl) | (obtain ⟨_, _, _, _, _, _, _, rfl, _⟩ := h; rfl) | (obtain ⟨_, _, _, _, _, _, _, _, rfl, _⟩ := h; rfl)
  · obtain ⟨c, u, r, x, ev, rfl, hc, hu1, kx, ke, q⟩ := h
    have hu := hu_of hr
    refine ⟨_, pss_cons (ps_if (PW.pt (pw_or (pt_not (pt_val (pe_callB call_isN rfl T.b_isinstance (by decide +kernel) (pa_cons (pv 0) (pa_cons (pe_bltn (v := .ty "tuple") (by rfl) T.b_tuple (by decide +kernel) rfl) pa_nil))))) (pw_or (pt_cmpR (op_eqT0 hr.units) (pv 0) (pe_tup pa_nil) (nomark _)) (pw_or1 (pt_not (pt_val (pe_callB call_isN rfl T.b_isinstance (by decide +kernel) (pa_cons (pe_ix ix_tupH (pv 0) pe_int (fun _ _ => rfl)) (pa_cons (pe_bltn (v := .ty "str") (by rfl) T.b_str (by decide +kernel) rfl) pa_nil))))))))) (pss_one (ps_ret pe_bl))
      (pss_nil))
      (pss_cons (ps_if (PW.pt (pw_or (pt_cmpR (op_notIn_kd D_LENGTHS) (pe_ix ix_tupH (pv 0) pe_int (fun _ _ => rfl)) (pe_glob (v := .ref d_LENGTHS) rfl m_LENGTHS rfl) (by rfl)) (pw_or1 (pt_cmpR op_ne (pe_callB call_lenU rfl T.b_len (by decide +kernel) (pa_cons (pv 0) pa_nil)) (pe_ix ix_kdict (pe_glob (v := .ref d_LENGTHS) rfl m_LENGTHS rfl) (pe_ix ix_tupH (pv 0) pe_int (fun _ _ => rfl)) (fun _ _ => rfl)) (nomark _))))) (pss_one (ps_ret pe_bl))
      (pss_nil))
      (pss_cons (ps_if (PW.pt (pw_or (pt_not (pt_val (pe_callB call_isN rfl T.b_isinstance (by decide +kernel) (pa_cons (pv 1) (pa_cons (pe_bltn (v := .ty "tuple") (by rfl) T.b_tuple (by decide +kernel) rfl) pa_nil))))) (pw_or1 (pt_cmpR (op_neD hr.units) (pv 1) (pe_tup pa_nil) (nomark _))))) (pss_one (ps_ret pe_bl))
      (pss_nil))
      (pss_cons (ps_if (pt_cmpR op_eq (pe_ix ix_tupH (pv 0) pe_int (fun _ _ => rfl)) pe_str (nomark _)) (pss_one (ps_ret (pe_hd H_accepts_party (hr.mono (by decide)) rfl pass0 (pa_cons (pe_ix ix_tupH (pv 0) pe_int (fun _ _ => rfl)) (pa_cons (pe_ix ix_tupH (pv 0) pe_int (fun _ _ => rfl)) (pa_cons (pe_ix ix_tupH (pv 0) pe_int (fun _ _ => rfl)) pa_nil))))))
      (pss_nil))
      (pss_never)))), ?_⟩
    refine z_seq ?_
    simp only [L2.start, List.map_cons, List.map_nil, List.length_cons, List.length_nil, Nat.zero_add, Nat.reduceAdd, Nat.reduceSub, List.replicate_succ, List.replicate_zero, List.cons_append, List.nil_append, List.append_nil, L2.tNext, L2.tAsg, L2.gName, L2.tRet, L2.tRetN, L2.tIfS, L2.tVar, L2.tC, L2.tOp, L2.tUn, L2.rI, L2.rI0, L2.rU, L2.rEq, L2.rNe, L2.tTest, L2.tB, L2.tIf, Z.tIfCI, Z.tIfCS, L2.tChain, L2.tCons, L2.tNil, L2.tCall, L2.tDrop, L2.tAndV, L2.tOrV, L2.tNotV, L2.tAnd, L2.tOr, L2.tNot, L2.tCB, Z.sc_ii, Z.sc_ss, Z.sc_bb, Z.sc_is, Z.sc_si, Z.sc_ni, Z.sc_in, Z.sc_ns, Z.sc_sn, Z.sc_nn, L2.CDiv, L2.CPow, L2.CMul, List.getElem?_cons_zero, List.getElem?_cons_succ, Z.set_z, Z.set_s, Option.some.injEq, L2.V.int.injEq, L2.V.bl.injEq, L2.V.str.injEq, L2.V.ref.injEq, L2.V.ty.injEq, List.cons.injEq, exists_eq_left', exists_and_left, exists_eq_left, exists_eq_right, exists_eq_right', exists_eq', exists_eq, true_and, and_true, and_assoc, decide_eq_true_eq, Int.reduceLT, and_self, Z.rIxH, Z.rIxU, Z.at30, Z.at31, Z.at32, Z.ix3_0, Z.ix3_1, Z.ix3_2, L2.rSetL, L2.gSub, Z.gTupH, L2.gCons, L2.gNil, L2.HO.lst.injEq, L2.HO.tup.injEq, L2.upd_same, L2.upd_upd, L2.tSl, L2.tNoPart, L2.tPart, L2.rSlL, L2.rCat, List.length_append, or_false, false_or, or_true, true_or, reduceCtorEq, false_and, and_false, exists_false, Int.reduceNeg, Int.reducePow, Int.reduceToNat, Int.reduceAbs, Int.reduceLE, Int.reduceMul, Int.reduceAdd, Int.reduceSub, Nat.reducePow, Nat.reduceLT, Nat.reduceLeDiff, Int.natAbs_natCast, if_true, if_false, Z.tyN, Z.kit_ii, Z.kit_bi, Z.kit_si, Z.kit_ni, Z.kit_ib, Z.kit_bb, Z.kit_sb, Z.kit_nb, Z.kit_is, Z.kit_bs, Z.kit_ss, Z.kit_ns, Bool.not_true, Bool.not_false, L2.tTup, L2.tLst, L2.wipe, L2.tYes, Z.Turn1, L2.tNever, sizeLine_eq, Z.rInU, Z.rInH, L2.flatV, List.any_cons, List.any_nil, List.all_cons, List.all_nil, Bool.and_true, Bool.true_and, Bool.or_false, Bool.false_or, Z.tBML, L2.rAppend, Z.map_int_inj, Z.map_bl_inj, Z.rTupL, Z.rLstL, Z.rLstT, Z.rSortI, Z.rAnyH, Z.rAllH, Z.rSumH, Z.rLenL, Z.rLenU, List.length_map, L2.tPar, StX.tStar, L2.tDNewT, L2.tDIn, L2.sDPut, L2.tDGet, Z.tCallK0, List.getD_cons_zero, List.getD_cons_succ, sp_accepts_party, kind_inj, Z.rEqT0]
    refine isN_tup hc ⟨_, rfl, ?_⟩
    rw [if_neg (by decide)]
    intro p hp
    have s1 := same_new (o := .tup []) hp
    refine ⟨_, s1 _ _ hc, ?_⟩
    rw [if_neg (by rw [List.isEmpty_cons]; exact Bool.false_ne_true)]
    refine ⟨_, s1 _ _ hc, _, atI_int (by decide) rfl, isN_str ⟨_, rfl, ?_⟩⟩
    rw [if_neg (by decide)]
    refine z_seq ?_
    simp only [L2.start, List.map_cons, List.map_nil, List.length_cons, List.length_nil, Nat.zero_add, Nat.reduceAdd, Nat.reduceSub, List.replicate_succ, List.replicate_zero, List.cons_append, List.nil_append, List.append_nil, L2.tNext, L2.tAsg, L2.gName, L2.tRet, L2.tRetN, L2.tIfS, L2.tVar, L2.tC, L2.tOp, L2.tUn, L2.rI, L2.rI0, L2.rU, L2.rEq, L2.rNe, L2.tTest, L2.tB, L2.tIf, Z.tIfCI, Z.tIfCS, L2.tChain, L2.tCons, L2.tNil, L2.tCall, L2.tDrop, L2.tAndV, L2.tOrV, L2.tNotV, L2.tAnd, L2.tOr, L2.tNot, L2.tCB, Z.sc_ii, Z.sc_ss, Z.sc_bb, Z.sc_is, Z.sc_si, Z.sc_ni, Z.sc_in, Z.sc_ns, Z.sc_sn, Z.sc_nn, L2.CDiv, L2.CPow, L2.CMul, List.getElem?_cons_zero, List.getElem?_cons_succ, Z.set_z, Z.set_s, Option.some.injEq, L2.V.int.injEq, L2.V.bl.injEq, L2.V.str.injEq, L2.V.ref.injEq, L2.V.ty.injEq, List.cons.injEq, exists_eq_left', exists_and_left, exists_eq_left, exists_eq_right, exists_eq_right', exists_eq', exists_eq, true_and, and_true, and_assoc, decide_eq_true_eq, Int.reduceLT, and_self, Z.rIxH, Z.rIxU, Z.at30, Z.at31, Z.at32, Z.ix3_0, Z.ix3_1, Z.ix3_2, L2.rSetL, L2.gSub, Z.gTupH, L2.gCons, L2.gNil, L2.HO.lst.injEq, L2.HO.tup.injEq, L2.upd_same, L2.upd_upd, L2.tSl, L2.tNoPart, L2.tPart, L2.rSlL, L2.rCat, List.length_append, or_false, false_or, or_true, true_or, reduceCtorEq, false_and, and_false, exists_false, Int.reduceNeg, Int.reducePow, Int.reduceToNat, Int.reduceAbs, Int.reduceLE, Int.reduceMul, Int.reduceAdd, Int.reduceSub, Nat.reducePow, Nat.reduceLT, Nat.reduceLeDiff, Int.natAbs_natCast, if_true, if_false, Z.rIsN, Z.tyN, Z.kit_ii, Z.kit_bi, Z.kit_si, Z.kit_ni, Z.kit_ib, Z.kit_bb, Z.kit_sb, Z.kit_nb, Z.kit_is, Z.kit_bs, Z.kit_ss, Z.kit_ns, Bool.not_true, Bool.not_false, L2.tTup, L2.tLst, L2.wipe, L2.tYes, Z.Turn1, L2.tNever, sizeLine_eq, Z.rInU, Z.rInH, L2.flatV, List.any_cons, List.any_nil, List.all_cons, List.all_nil, Bool.and_true, Bool.true_and, Bool.or_false, Bool.false_or, Z.tBML, L2.rAppend, Z.map_int_inj, Z.map_bl_inj, Z.rTupL, Z.rLstL, Z.rLstT, Z.rSortI, Z.rAnyH, Z.rAllH, Z.rSumH, Z.rLenL, Z.rLenU, List.length_map, L2.tPar, StX.tStar, L2.tDNewT, L2.tDIn, L2.sDPut, L2.tDGet, Z.tCallK0, List.getD_cons_zero, List.getD_cons_succ, sp_accepts_party, kind_inj, L2.rIxD]
    have hc1 := s1 _ _ hc
    refine ⟨_, hc1, _, atI_int (by decide) rfl, _, rfl, _, p_LENGTHS_party, ?_⟩
    rw [if_neg (fun z => by cases z)]
    refine ⟨_, hc1, _, hc1, _, atI_int (by decide) rfl, _, rfl, .int 4, ⟨es_LENGTHS, n_LENGTHS, _, D_LENGTHS.at_, D_LENGTHS.lit, p_LENGTHS_party, ⟨_, rfl⟩⟩, rfl, ?_⟩
    rw [decide_eq_true (show V.int (([V.str "party", V.str (kindS r), x, ev].length : Nat) : Int) = V.int 4 from rfl), if_neg (by decide)]
    refine z_seq ?_
    simp only [L2.start, List.map_cons, List.map_nil, List.length_cons, List.length_nil, Nat.zero_add, Nat.reduceAdd, Nat.reduceSub, List.replicate_succ, List.replicate_zero, List.cons_append, List.nil_append, List.append_nil, L2.tNext, L2.tAsg, L2.gName, L2.tRet, L2.tRetN, L2.tIfS, L2.tVar, L2.tC, L2.tOp, L2.tUn, L2.rI, L2.rI0, L2.rU, L2.rEq, L2.rNe, L2.tTest, L2.tB, L2.tIf, Z.tIfCI, Z.tIfCS, L2.tChain, L2.tCons, L2.tNil, L2.tCall, L2.tDrop, L2.tAndV, L2.tOrV, L2.tNotV, L2.tAnd, L2.tOr, L2.tNot, L2.tCB, Z.sc_ii, Z.sc_ss, Z.sc_bb, Z.sc_is, Z.sc_si, Z.sc_ni, Z.sc_in, Z.sc_ns, Z.sc_sn, Z.sc_nn, L2.CDiv, L2.CPow, L2.CMul, List.getElem?_cons_zero, List.getElem?_cons_succ, Z.set_z, Z.set_s, Option.some.injEq, L2.V.int.injEq, L2.V.bl.injEq, L2.V.str.injEq, L2.V.ref.injEq, L2.V.ty.injEq, List.cons.injEq, exists_eq_left', exists_and_left, exists_eq_left, exists_eq_right, exists_eq_right', exists_eq', exists_eq, true_and, and_true, and_assoc, decide_eq_true_eq, Int.reduceLT, and_self, Z.rIxH, Z.rIxU, Z.at30, Z.at31, Z.at32, Z.ix3_0, Z.ix3_1, Z.ix3_2, L2.rSetL, L2.gSub, Z.gTupH, L2.gCons, L2.gNil, L2.HO.lst.injEq, L2.HO.tup.injEq, L2.upd_same, L2.upd_upd, L2.tSl, L2.tNoPart, L2.tPart, L2.rSlL, L2.rCat, List.length_append, or_false, false_or, or_true, true_or, reduceCtorEq, false_and, and_false, exists_false, Int.reduceNeg, Int.reducePow, Int.reduceToNat, Int.reduceAbs, Int.reduceLE, Int.reduceMul, Int.reduceAdd, Int.reduceSub, Nat.reducePow, Nat.reduceLT, Nat.reduceLeDiff, Int.natAbs_natCast, if_true, if_false, Z.tyN, Z.kit_ii, Z.kit_bi, Z.kit_si, Z.kit_ni, Z.kit_ib, Z.kit_bb, Z.kit_sb, Z.kit_nb, Z.kit_is, Z.kit_bs, Z.kit_ss, Z.kit_ns, Bool.not_true, Bool.not_false, L2.tTup, L2.tLst, L2.wipe, L2.tYes, Z.Turn1, L2.tNever, sizeLine_eq, Z.rInU, Z.rInH, L2.flatV, List.any_cons, List.any_nil, List.all_cons, List.all_nil, Bool.and_true, Bool.true_and, Bool.or_false, Bool.false_or, Z.tBML, L2.rAppend, Z.map_int_inj, Z.map_bl_inj, Z.rTupL, Z.rLstL, Z.rLstT, Z.rSortI, Z.rAnyH, Z.rAllH, Z.rSumH, Z.rLenL, Z.rLenU, List.length_map, L2.tPar, StX.tStar, L2.tDNewT, L2.tDIn, L2.sDPut, L2.tDGet, Z.tCallK0, List.getD_cons_zero, List.getD_cons_succ, sp_accepts_party, kind_inj]
    have hu2 := s1 _ _ hu1
    refine isN_tup hu2 ⟨_, rfl, ?_⟩
    rw [if_neg (by decide)]
    intro p2 hp2
    have s2 := same_new (o := .tup []) hp2
    refine ⟨.tuple [], .tuple [], .tup (SqT.of (s2 _ _ hu2)) .nil, .tup (SqT.of upd_same) .nil, by decide +kernel, by decide +kernel, ?_⟩
    rw [show PyData.eqv (.tuple []) (.tuple []) = true by decide +kernel]
    refine ⟨_, rfl, ?_⟩
    rw [if_neg (by decide)]
    have hc2 := s2 _ _ hc1
    have s12 := s1.trans s2
    refine z_seq ?_
    simp only [L2.start, List.map_cons, List.map_nil, List.length_cons, List.length_nil, Nat.zero_add, Nat.reduceAdd, Nat.reduceSub, List.replicate_succ, List.replicate_zero, List.cons_append, List.nil_append, List.append_nil, L2.tNext, L2.tAsg, L2.gName, L2.tRet, L2.tRetN, L2.tIfS, L2.tVar, L2.tC, L2.tOp, L2.tUn, L2.rI, L2.rI0, L2.rU, L2.rEq, L2.rNe, L2.tTest, L2.tB, L2.tIf, Z.tIfCI, Z.tIfCS, L2.tChain, L2.tCons, L2.tNil, L2.tCall, L2.tDrop, L2.tAndV, L2.tOrV, L2.tNotV, L2.tAnd, L2.tOr, L2.tNot, L2.tCB, Z.sc_ii, Z.sc_ss, Z.sc_bb, Z.sc_is, Z.sc_si, Z.sc_ni, Z.sc_in, Z.sc_ns, Z.sc_sn, Z.sc_nn, L2.CDiv, L2.CPow, L2.CMul, List.getElem?_cons_zero, List.getElem?_cons_succ, Z.set_z, Z.set_s, Option.some.injEq, L2.V.int.injEq, L2.V.bl.injEq, L2.V.str.injEq, L2.V.ref.injEq, L2.V.ty.injEq, List.cons.injEq, exists_eq_left', exists_and_left, exists_eq_left, exists_eq_right, exists_eq_right', exists_eq', exists_eq, true_and, and_true, and_assoc, decide_eq_true_eq, Int.reduceLT, and_self, Z.rIxH, Z.rIxU, Z.at30, Z.at31, Z.at32, Z.ix3_0, Z.ix3_1, Z.ix3_2, L2.rSetL, L2.gSub, Z.gTupH, L2.gCons, L2.gNil, L2.HO.lst.injEq, L2.HO.tup.injEq, L2.upd_same, L2.upd_upd, L2.tSl, L2.tNoPart, L2.tPart, L2.rSlL, L2.rCat, List.length_append, or_false, false_or, or_true, true_or, reduceCtorEq, false_and, and_false, exists_false, Int.reduceNeg, Int.reducePow, Int.reduceToNat, Int.reduceAbs, Int.reduceLE, Int.reduceMul, Int.reduceAdd, Int.reduceSub, Nat.reducePow, Nat.reduceLT, Nat.reduceLeDiff, Int.natAbs_natCast, if_true, if_false, Z.rIsN, Z.tyN, Z.kit_ii, Z.kit_bi, Z.kit_si, Z.kit_ni, Z.kit_ib, Z.kit_bb, Z.kit_sb, Z.kit_nb, Z.kit_is, Z.kit_bs, Z.kit_ss, Z.kit_ns, Bool.not_true, Bool.not_false, L2.tTup, L2.tLst, L2.wipe, L2.tYes, Z.Turn1, L2.tNever, sizeLine_eq, Z.rInU, Z.rInH, L2.flatV, List.any_cons, List.any_nil, List.all_cons, List.all_nil, Bool.and_true, Bool.true_and, Bool.or_false, Bool.false_or, Z.tBML, L2.rAppend, Z.map_int_inj, Z.map_bl_inj, Z.rTupL, Z.rLstL, Z.rLstT, Z.rSortI, Z.rAnyH, Z.rAllH, Z.rSumH, Z.rLenL, Z.rLenU, List.length_map, L2.tPar, StX.tStar, L2.tDNewT, L2.tDIn, L2.sDPut, L2.tDGet, Z.tCallK0, List.getD_cons_zero, List.getD_cons_succ, sp_accepts_party, kind_inj]
    refine ⟨_, hc2, _, atI_int (by decide) rfl, rfl, ?_⟩
    rw [if_pos rfl]
    refine ⟨_, hc2, _, atI_int (by decide) rfl, _, hc2, _, atI_int (by decide) rfl, _, hc2, _, atI_int (by decide) rfl, r, rfl, kx.same s12, ke.same s12, fun H' s => ?_⟩
    rw [wrong_same ke s12]
    exact q H' (s12.trans s)

open Zig
def sp_person_in : Sp := fun vs H Q _ => ∃ s e i : Int, vs = [.int s, .int e, .int i] ∧ 0 < s ∧ Q (.int (personIn s e i)) H
theorem ok_person_in (T : Env w K mg) : Hd P w K mg base CX0 1 "person_in" s_person_in ["size", "evening", "index"] sp_person_in := by
  obtain ⟨f, fd, F, hm⟩ := T.d_person_in
  refine ⟨⟨f, fd, F, hm, ?_⟩, fun _ _ _ _ _ _ _ us hl => match us, hl with | [_, _, _], _ => rfl⟩
  refine F.ok sc_person_in (fun vs H Q E h => ?_) (fun cdv A outer s H vs Q E hr h => ?_)
  · first | (obtain ⟨rfl, _⟩ := h; rfl) | (obtain ⟨_, rfl, _⟩ := h; rfl) | (obtain ⟨_, _, rfl, _⟩ := h; rfl) | (obtain ⟨_, _, _, rfl, _⟩ := h; rfl) | (obtain ⟨_, _, _, _, rfl, _⟩ := h; rfl) | (obtain ⟨_, _, _, _, _, rfl, _⟩ := h; rfl) | (obtain ⟨_, _, _, _, _, _, rfl, _⟩ := h; rfl) | (obtain ⟨_, _, _, _, _, _, _, rfl, _⟩ := h; rfl) | (obtain ⟨_, _, _, _, _, _, _, _, rfl, _⟩ := h; rfl)
  · obtain ⟨z, e, i, rfl, hz, q⟩ := h
    have hu := hu_of hr
    refine ⟨_, pss_cons (ps_set (i := 3) sc_person_in.nd rfl (by first | exact .inl rfl | exact .inr rfl) (pe_op op_fdiv (pe_op op_add (pv 2) pe_int) pe_int))
      (pss_one (ps_ret (pe_op op_mod (pe_op op_add (pv 1) (pe_ifExp (pt_cmpR op_eq (pe_op op_mod (pv 2) pe_int) pe_int (nomark _)) (pv 3) (pe_un un_neg (pv 3)))) (pv 0)))), ?_⟩
    simp only [L2.start, List.map_cons, List.map_nil, List.length_cons, List.length_nil, Nat.zero_add, Nat.reduceAdd, Nat.reduceSub, List.replicate_succ, List.replicate_zero, List.cons_append, List.nil_append, List.append_nil, L2.tSeq, L2.tNext, L2.tAsg, L2.gName, L2.tRet, L2.tRetN, L2.tIfS, L2.tVar, L2.tC, L2.tOp, L2.tUn, L2.rI, L2.rI0, L2.rU, L2.rEq, L2.rNe, L2.tTest, L2.tB, L2.tIf, Z.tIfCI, Z.tIfCS, L2.tChain, L2.tCons, L2.tNil, L2.tCall, L2.tDrop, L2.tAndV, L2.tOrV, L2.tNotV, L2.tAnd, L2.tOr, L2.tNot, L2.tCB, Z.sc_ii, Z.sc_ss, Z.sc_bb, Z.sc_is, Z.sc_si, Z.sc_ni, Z.sc_in, Z.sc_ns, Z.sc_sn, Z.sc_nn, L2.CDiv, L2.CPow, L2.CMul, List.getElem?_cons_zero, List.getElem?_cons_succ, Z.set_z, Z.set_s, Option.some.injEq, L2.V.int.injEq, L2.V.bl.injEq, L2.V.str.injEq, L2.V.ref.injEq, L2.V.ty.injEq, List.cons.injEq, exists_eq_left', exists_and_left, exists_eq_left, exists_eq_right, exists_eq_right', exists_eq', exists_eq, true_and, and_true, and_assoc, decide_eq_true_eq, Int.reduceLT, and_self, Z.rIxH, Z.rIxU, Z.at30, Z.at31, Z.at32, Z.ix3_0, Z.ix3_1, Z.ix3_2, L2.rSetL, L2.gSub, Z.gTupH, L2.gCons, L2.gNil, L2.HO.lst.injEq, L2.HO.tup.injEq, L2.upd_same, L2.upd_upd, L2.tSl, L2.tNoPart, L2.tPart, L2.rSlL, L2.rCat, List.length_append, or_false, false_or, or_true, true_or, reduceCtorEq, false_and, and_false, exists_false, Int.reduceNeg, Int.reducePow, Int.reduceToNat, Int.reduceAbs, Int.reduceLE, Int.reduceMul, Int.reduceAdd, Int.reduceSub, Nat.reducePow, Nat.reduceLT, Nat.reduceLeDiff, Int.natAbs_natCast, if_true, if_false, Z.rIsN, Z.tyN, Z.kit_ii, Z.kit_bi, Z.kit_si, Z.kit_ni, Z.kit_ib, Z.kit_bb, Z.kit_sb, Z.kit_nb, Z.kit_is, Z.kit_bs, Z.kit_ss, Z.kit_ns, Bool.not_true, Bool.not_false, L2.tTup, L2.tLst, L2.wipe, L2.tYes, Z.Turn1, L2.tNever, sizeLine_eq, Z.rInU, Z.rInH, L2.flatV, List.any_cons, List.any_nil, List.all_cons, List.all_nil, Bool.and_true, Bool.true_and, Bool.or_false, Bool.false_or, Z.tBML, L2.rAppend, Z.map_int_inj, Z.map_bl_inj, Z.rTupL, Z.rLstL, Z.rLstT, Z.rSortI, Z.rAnyH, Z.rAllH, Z.rSumH, Z.rLenL, Z.rLenU, List.length_map, L2.tPar, StX.tStar, L2.tDNewT, L2.tDIn, L2.sDPut, L2.tDGet, Z.tCallK0, List.getD_cons_zero, List.getD_cons_succ]
    unfold personIn at q
    split <;> simp_all
def sp_person_at : Sp := fun vs H Q _ => ∃ (r : Bool) (n e i : Int), vs = [.str (kindS r), .int n, .int e, .int i] ∧ 1 < n ∧ Q (.int (personAt r n e i)) H
theorem ok_person_at (T : Env w K mg) : Hd P w K mg base CX0 2 "person_at" s_person_at ["kind", "n", "evening", "index"] sp_person_at := by
  have H_person_in := ok_person_in (P := P) (w := w) (base := base) T
  obtain ⟨f, fd, F, hm⟩ := T.d_person_at
  refine ⟨⟨f, fd, F, hm, ?_⟩, fun _ _ _ _ _ _ _ us hl => match us, hl with | [_, _, _, _], _ => rfl⟩
  refine F.ok sc_person_at (fun vs H Q E h => ?_) (fun cdv A outer s H vs Q E hr h => ?_)
  · first | (obtain ⟨rfl, _⟩ := h; rfl) | (obtain ⟨_, rfl, _⟩ := h; rfl) | (obtain ⟨_, _, rfl, _⟩ := h; rfl) | (obtain ⟨_, _, _, rfl, _⟩ := h; rfl) | (obtain ⟨_, _, _, _, rfl, _⟩ := h; rfl) | (obtain ⟨_, _, _, _, _, rfl, _⟩ := h; rfl) | (obtain ⟨_, _, _, _, _, _, rfl, _⟩ := h; rfl) | (obtain ⟨_, _, _, _, _, _, _, rfl, _⟩ := h; rfl) | (obtain ⟨_, _, _, _, _, _, _, _, rfl, _⟩ := h; rfl)
  · obtain ⟨r, n, e, i, rfl, hn, q⟩ := h
    have hu := hu_of hr
    refine ⟨_, pss_cons (ps_if (pt_cmpR op_eq (pv 0) (pe_glob (v := .str "rings") rfl T.c_RINGS.choose_spec ⟨_, rfl⟩) (nomark _)) (pss_one (ps_ret (pe_ifExp (pt_cmpR op_eq (pv 3) pe_int (nomark _)) (pe_op op_sub (pv 1) pe_int) (pe_hd H_person_in (hr.mono (by decide)) rfl pass0 (pa_cons (pe_op op_sub (pv 1) pe_int) (pa_cons (pv 2) (pa_cons (pe_op op_sub (pv 3) pe_int) pa_nil)))))))
      (pss_nil))
      (pss_one (ps_ret (pe_hd H_person_in (hr.mono (by decide)) rfl pass0 (pa_cons (pv 1) (pa_cons (pv 2) (pa_cons (pv 3) pa_nil)))))), ?_⟩
    simp only [L2.start, List.map_cons, List.map_nil, List.length_cons, List.length_nil, Nat.zero_add, Nat.reduceAdd, Nat.reduceSub, List.replicate_succ, List.replicate_zero, List.cons_append, List.nil_append, List.append_nil, L2.tSeq, L2.tNext, L2.tAsg, L2.gName, L2.tRet, L2.tRetN, L2.tIfS, L2.tVar, L2.tC, L2.tOp, L2.tUn, L2.rI, L2.rI0, L2.rU, L2.rEq, L2.rNe, L2.tTest, L2.tB, L2.tIf, Z.tIfCI, Z.tIfCS, L2.tChain, L2.tCons, L2.tNil, L2.tCall, L2.tDrop, L2.tAndV, L2.tOrV, L2.tNotV, L2.tAnd, L2.tOr, L2.tNot, L2.tCB, Z.sc_ii, Z.sc_ss, Z.sc_bb, Z.sc_is, Z.sc_si, Z.sc_ni, Z.sc_in, Z.sc_ns, Z.sc_sn, Z.sc_nn, L2.CDiv, L2.CPow, L2.CMul, List.getElem?_cons_zero, List.getElem?_cons_succ, Z.set_z, Z.set_s, Option.some.injEq, L2.V.int.injEq, L2.V.bl.injEq, L2.V.str.injEq, L2.V.ref.injEq, L2.V.ty.injEq, List.cons.injEq, exists_eq_left', exists_and_left, exists_eq_left, exists_eq_right, exists_eq_right', exists_eq', exists_eq, true_and, and_true, and_assoc, decide_eq_true_eq, Int.reduceLT, and_self, Z.rIxH, Z.rIxU, Z.at30, Z.at31, Z.at32, Z.ix3_0, Z.ix3_1, Z.ix3_2, L2.rSetL, L2.gSub, Z.gTupH, L2.gCons, L2.gNil, L2.HO.lst.injEq, L2.HO.tup.injEq, L2.upd_same, L2.upd_upd, L2.tSl, L2.tNoPart, L2.tPart, L2.rSlL, L2.rCat, List.length_append, or_false, false_or, or_true, true_or, reduceCtorEq, false_and, and_false, exists_false, Int.reduceNeg, Int.reducePow, Int.reduceToNat, Int.reduceAbs, Int.reduceLE, Int.reduceMul, Int.reduceAdd, Int.reduceSub, Nat.reducePow, Nat.reduceLT, Nat.reduceLeDiff, Int.natAbs_natCast, if_true, if_false, Z.rIsN, Z.tyN, Z.kit_ii, Z.kit_bi, Z.kit_si, Z.kit_ni, Z.kit_ib, Z.kit_bb, Z.kit_sb, Z.kit_nb, Z.kit_is, Z.kit_bs, Z.kit_ss, Z.kit_ns, Bool.not_true, Bool.not_false, L2.tTup, L2.tLst, L2.wipe, L2.tYes, Z.Turn1, L2.tNever, sizeLine_eq, Z.rInU, Z.rInH, L2.flatV, List.any_cons, List.any_nil, List.all_cons, List.all_nil, Bool.and_true, Bool.true_and, Bool.or_false, Bool.false_or, Z.tBML, L2.rAppend, Z.map_int_inj, Z.map_bl_inj, Z.rTupL, Z.rLstL, Z.rLstT, Z.rSortI, Z.rAnyH, Z.rAllH, Z.rSumH, Z.rLenL, Z.rLenU, List.length_map, L2.tPar, StX.tStar, L2.tDNewT, L2.tDIn, L2.sDPut, L2.tDGet, Z.tCallK0, List.getD_cons_zero, List.getD_cons_succ, sp_person_in, kind_eq]
    unfold personAt at q
    (repeat' split) <;> simp_all <;> omega
theorem fm_some (f : V → V) : ∀ l : List V, l.filterMap (fun x => some (f x)) = l.map f := fun l => by rw [List.filterMap_eq_map']
def int1 (f : Int → Int) : V → Option V
  | .int i => some (.int (f i))
  | _ => none
theorem fm_int1 (f : Int → Int) : ∀ l : List Int, (l.map V.int).filterMap (int1 f) = (l.map f).map V.int
  | [] => rfl
  | x :: r => by
    rw [List.map_cons, List.filterMap_cons, fm_int1 f r]
    rfl
theorem mem_ints {x : V} {l : List Int} (h : x ∈ l.map V.int) : ∃ i, i ∈ l ∧ x = .int i := by
  obtain ⟨i, hi, e⟩ := List.mem_map.mp h
  exact ⟨i, hi, e.symm⟩
def zz (r : Bool) (n : Int) : List (List Int) := (ups (nights r n)).map (evL r n)
def sp_evening_of : Sp := fun vs H Q _ => ∃ (r : Bool) (n e : Int), vs = [.str (kindS r), .int n, .int e] ∧ 1 < n ∧ n ≤ 1000 ∧ ∀ t H', H t = none → Same H H' → TupAt H' t (evL r n e) → Q (.ref t) H'
theorem ok_evening_of (T : Env w K mg) : Hd P w K mg base CX0 3 "evening_of" s_evening_of ["kind", "n", "evening"] sp_evening_of := by
  have H_person_at := ok_person_at (P := P) (w := w) (base := base) T
  obtain ⟨f, fd, F, hm⟩ := T.d_evening_of
  refine ⟨⟨f, fd, F, hm, ?_⟩, fun _ _ _ _ _ _ _ us hl => match us, hl with | [_, _, _], _ => rfl⟩
  refine F.ok sc_evening_of (fun vs H Q E h => ?_) (fun cdv A outer s H vs Q E hr h => ?_)
  · first | (obtain ⟨rfl, _⟩ := h; rfl) | (obtain ⟨_, rfl, _⟩ := h; rfl) | (obtain ⟨_, _, rfl, _⟩ := h; rfl) | (obtain ⟨_, _, _, rfl, _⟩ := h; rfl) | (obtain ⟨_, _, _, _, rfl, _⟩ := h; rfl) | (obtain ⟨_, _, _, _, _, rfl, _⟩ := h; rfl) | (obtain ⟨_, _, _, _, _, _, rfl, _⟩ := h; rfl) | (obtain ⟨_, _, _, _, _, _, _, rfl, _⟩ := h; rfl) | (obtain ⟨_, _, _, _, _, _, _, _, rfl, _⟩ := h; rfl)
  · obtain ⟨r, n, e, rfl, h1, h2, q⟩ := h
    have hu := hu_of hr
    refine ⟨_, pss_one (ps_ret (pe_callTy call_tupleL rfl T.b_tuple (by decide +kernel) (pa_cons (pe_lc (own := [("index", 3)]) (g := (gName 3)) (tt := tYes) rfl sc_evening_of.nd (pi_range1 rfl T.b_range (pa_cons (pv 1) pa_nil)) (blkOk_by (own := [("index", 3)]) (N := N_evening_of) (sc := defScope s_evening_of) (by decide +kernel)) (fun _ _ _ _ _ => pg_name (i := 3) sc_evening_of.nd rfl (by first | exact .inl rfl | exact .inr rfl)) (fun _ _ _ _ _ => pts_nil) (fun _ _ _ _ _ => (pe_hd H_person_at (hr.mono (by decide)) rfl pass0 (pa_cons (pv 0) (pa_cons (pv 1) (pa_cons (pv 2) (pa_cons (pv 3) pa_nil))))))) pa_nil))), ?_⟩
    simp only [L2.start, List.map_cons, List.map_nil, List.length_cons, List.length_nil, Nat.zero_add, Nat.reduceAdd, Nat.reduceSub, List.replicate_succ, List.replicate_zero, List.cons_append, List.nil_append, List.append_nil, L2.tNext, L2.tAsg, L2.gName, L2.tRet, L2.tRetN, L2.tIfS, L2.tVar, L2.tC, L2.tOp, L2.tUn, L2.rI, L2.rI0, L2.rU, L2.rEq, L2.rNe, L2.tTest, L2.tB, L2.tIf, Z.tIfCI, Z.tIfCS, L2.tChain, L2.tCons, L2.tNil, L2.tCall, L2.tDrop, L2.tAndV, L2.tOrV, L2.tNotV, L2.tAnd, L2.tOr, L2.tNot, L2.tCB, Z.sc_ii, Z.sc_ss, Z.sc_bb, Z.sc_is, Z.sc_si, Z.sc_ni, Z.sc_in, Z.sc_ns, Z.sc_sn, Z.sc_nn, L2.CDiv, L2.CPow, L2.CMul, List.getElem?_cons_zero, List.getElem?_cons_succ, Z.set_z, Z.set_s, Option.some.injEq, L2.V.int.injEq, L2.V.bl.injEq, L2.V.str.injEq, L2.V.ref.injEq, L2.V.ty.injEq, List.cons.injEq, exists_eq_left', exists_and_left, exists_eq_left, exists_eq_right, exists_eq_right', exists_eq', exists_eq, true_and, and_true, and_assoc, decide_eq_true_eq, Int.reduceLT, and_self, Z.rIxH, Z.rIxU, Z.at30, Z.at31, Z.at32, Z.ix3_0, Z.ix3_1, Z.ix3_2, L2.rSetL, L2.gSub, Z.gTupH, L2.gCons, L2.gNil, L2.HO.lst.injEq, L2.HO.tup.injEq, L2.upd_same, L2.upd_upd, L2.tSl, L2.tNoPart, L2.tPart, L2.rSlL, L2.rCat, List.length_append, or_false, false_or, or_true, true_or, reduceCtorEq, false_and, and_false, exists_false, Int.reduceNeg, Int.reducePow, Int.reduceToNat, Int.reduceAbs, Int.reduceLE, Int.reduceMul, Int.reduceAdd, Int.reduceSub, Nat.reducePow, Nat.reduceLT, Nat.reduceLeDiff, Int.natAbs_natCast, if_true, if_false, Z.rIsN, Z.tyN, Z.kit_ii, Z.kit_bi, Z.kit_si, Z.kit_ni, Z.kit_ib, Z.kit_bb, Z.kit_sb, Z.kit_nb, Z.kit_is, Z.kit_bs, Z.kit_ss, Z.kit_ns, Bool.not_true, Bool.not_false, L2.tTup, L2.tLst, L2.wipe, L2.tYes, Z.Turn1, L2.tNever, sizeLine_eq, Z.rInU, Z.rInH, L2.flatV, List.any_cons, List.any_nil, List.all_cons, List.all_nil, Bool.and_true, Bool.true_and, Bool.or_false, Bool.false_or, Z.tBML, L2.rAppend, Z.map_int_inj, Z.map_bl_inj, Z.rTupL, Z.rLstL, Z.rLstT, Z.rSortI, Z.rAnyH, Z.rAllH, Z.rSumH, Z.rLenL, Z.rLenU, List.length_map, L2.tPar, StX.tStar, L2.tDNewT, L2.tDIn, L2.sDPut, L2.tDGet, Z.tCallK0, List.getD_cons_zero, List.getD_cons_succ, sp_person_at]
    refine lc_mapR (n := n) (int1 (personAt r n e)) (fun R h => ⟨_, rfl, h⟩) (by omega) (fun i hi H1 s1 => ?_) fun D H1 hD s1 e1 => ?_
    · intro Y N hY hN
      simp only [L2.start, List.map_cons, List.map_nil, List.length_cons, List.length_nil, Nat.zero_add, Nat.reduceAdd, Nat.reduceSub, List.replicate_succ, List.replicate_zero, List.cons_append, List.nil_append, List.append_nil, L2.tNext, L2.tAsg, L2.gName, L2.tRet, L2.tRetN, L2.tIfS, L2.tVar, L2.tC, L2.tOp, L2.tUn, L2.rI, L2.rI0, L2.rU, L2.rEq, L2.rNe, L2.tTest, L2.tB, L2.tIf, Z.tIfCI, Z.tIfCS, L2.tChain, L2.tCons, L2.tNil, L2.tCall, L2.tDrop, L2.tAndV, L2.tOrV, L2.tNotV, L2.tAnd, L2.tOr, L2.tNot, L2.tCB, Z.sc_ii, Z.sc_ss, Z.sc_bb, Z.sc_is, Z.sc_si, Z.sc_ni, Z.sc_in, Z.sc_ns, Z.sc_sn, Z.sc_nn, L2.CDiv, L2.CPow, L2.CMul, List.getElem?_cons_zero, List.getElem?_cons_succ, Z.set_z, Z.set_s, Option.some.injEq, L2.V.int.injEq, L2.V.bl.injEq, L2.V.str.injEq, L2.V.ref.injEq, L2.V.ty.injEq, List.cons.injEq, exists_eq_left', exists_and_left, exists_eq_left, exists_eq_right, exists_eq_right', exists_eq', exists_eq, true_and, and_true, and_assoc, decide_eq_true_eq, Int.reduceLT, and_self, Z.rIxH, Z.rIxU, Z.at30, Z.at31, Z.at32, Z.ix3_0, Z.ix3_1, Z.ix3_2, L2.rSetL, L2.gSub, Z.gTupH, L2.gCons, L2.gNil, L2.HO.lst.injEq, L2.HO.tup.injEq, L2.upd_same, L2.upd_upd, L2.tSl, L2.tNoPart, L2.tPart, L2.rSlL, L2.rCat, List.length_append, or_false, false_or, or_true, true_or, reduceCtorEq, false_and, and_false, exists_false, Int.reduceNeg, Int.reducePow, Int.reduceToNat, Int.reduceAbs, Int.reduceLE, Int.reduceMul, Int.reduceAdd, Int.reduceSub, Nat.reducePow, Nat.reduceLT, Nat.reduceLeDiff, Int.natAbs_natCast, if_true, if_false, Z.rIsN, Z.tyN, Z.kit_ii, Z.kit_bi, Z.kit_si, Z.kit_ni, Z.kit_ib, Z.kit_bb, Z.kit_sb, Z.kit_nb, Z.kit_is, Z.kit_bs, Z.kit_ss, Z.kit_ns, Bool.not_true, Bool.not_false, L2.tTup, L2.tLst, L2.wipe, L2.tYes, Z.Turn1, L2.tNever, sizeLine_eq, Z.rInU, Z.rInH, L2.flatV, List.any_cons, List.any_nil, List.all_cons, List.all_nil, Bool.and_true, Bool.true_and, Bool.or_false, Bool.false_or, Z.tBML, L2.rAppend, Z.map_int_inj, Z.map_bl_inj, Z.rTupL, Z.rLstL, Z.rLstT, Z.rSortI, Z.rAnyH, Z.rAllH, Z.rSumH, Z.rLenL, Z.rLenU, List.length_map, L2.tPar, StX.tStar, L2.tDNewT, L2.tDIn, L2.sDPut, L2.tDGet, Z.tCallK0, List.getD_cons_zero, List.getD_cons_succ, sp_person_at, kind_inj]
      exact ⟨h1, hY _ H1 rfl (Same.refl _)⟩
    · rw [upto_ups, fm_int1] at e1
      exact ⟨D, rfl, _, e1, fun t ht => q t _ (s1.free ht) (same_upd s1 (s1.free ht)) upd_same⟩
theorem nights_le {r : Bool} {n : Int} (h1 : 1 < n) : 0 ≤ nights r n ∧ nights r n ≤ n := by
  unfold nights
  split <;> omega
def sp_zigzag_of : Sp := fun vs H Q _ => ∃ (r : Bool) (n : Int), vs = [.str (kindS r), .int n] ∧ 1 < n ∧ n ≤ 1000 ∧ ∀ t as H', H t = none → Same H H' → H' t = some (.tup (as.map V.ref)) → Paired (TupAt H') as (zz r n) → Q (.ref t) H'
theorem ok_zigzag_of (T : Env w K mg) : Hd P w K mg base CX0 4 "zigzag_of" s_zigzag_of ["kind", "n"] sp_zigzag_of := by
  have H_evenings_for := ok_evenings_for (P := P) (w := w) (base := base) T
  have H_evening_of := ok_evening_of (P := P) (w := w) (base := base) T
  obtain ⟨f, fd, F, hm⟩ := T.d_zigzag_of
  refine ⟨⟨f, fd, F, hm, ?_⟩, fun _ _ _ _ _ _ _ us hl => match us, hl with | [_, _], _ => rfl⟩
  refine F.ok sc_zigzag_of (fun vs H Q E h => ?_) (fun cdv A outer s H vs Q E hr h => ?_)
  · first | (obtain ⟨rfl, _⟩ := h; rfl) | (obtain ⟨_, rfl, _⟩ := h; rfl) | (obtain ⟨_, _, rfl, _⟩ := h; rfl) | (obtain ⟨_, _, _, rfl, _⟩ := h; rfl) | (obtain ⟨_, _, _, _, rfl, _⟩ := h; rfl) | (obtain ⟨_, _, _, _, _, rfl, _⟩ := h; rfl) | (obtain ⟨_, _, _, _, _, _, rfl, _⟩ := h; rfl) | (obtain ⟨_, _, _, _, _, _, _, rfl, _⟩ := h; rfl) | (obtain ⟨_, _, _, _, _, _, _, _, rfl, _⟩ := h; rfl)
  · obtain ⟨r, n, rfl, h1, h2, q⟩ := h
    have hu := hu_of hr
    refine ⟨_, pss_one (ps_ret (pe_callTy call_tupleL rfl T.b_tuple (by decide +kernel) (pa_cons (pe_lc (own := [("evening", 2)]) (g := (gName 2)) (tt := tYes) rfl sc_zigzag_of.nd (pi_range1 rfl T.b_range (pa_cons (pe_hd H_evenings_for (hr.mono (by decide)) rfl pass0 (pa_cons (pv 0) (pa_cons (pv 1) pa_nil))) pa_nil)) (blkOk_by (own := [("evening", 2)]) (N := N_zigzag_of) (sc := defScope s_zigzag_of) (by decide +kernel)) (fun _ _ _ _ _ => pg_name (i := 2) sc_zigzag_of.nd rfl (by first | exact .inl rfl | exact .inr rfl)) (fun _ _ _ _ _ => pts_nil) (fun _ _ _ _ _ => (pe_hd H_evening_of (hr.mono (by decide)) rfl pass0 (pa_cons (pv 0) (pa_cons (pv 1) (pa_cons (pv 2) pa_nil)))))) pa_nil))), ?_⟩
    simp only [L2.start, List.map_cons, List.map_nil, List.length_cons, List.length_nil, Nat.zero_add, Nat.reduceAdd, Nat.reduceSub, List.replicate_succ, List.replicate_zero, List.cons_append, List.nil_append, List.append_nil, L2.tNext, L2.tAsg, L2.gName, L2.tRet, L2.tRetN, L2.tIfS, L2.tVar, L2.tC, L2.tOp, L2.tUn, L2.rI, L2.rI0, L2.rU, L2.rEq, L2.rNe, L2.tTest, L2.tB, L2.tIf, Z.tIfCI, Z.tIfCS, L2.tChain, L2.tCons, L2.tNil, L2.tCall, L2.tDrop, L2.tAndV, L2.tOrV, L2.tNotV, L2.tAnd, L2.tOr, L2.tNot, L2.tCB, Z.sc_ii, Z.sc_ss, Z.sc_bb, Z.sc_is, Z.sc_si, Z.sc_ni, Z.sc_in, Z.sc_ns, Z.sc_sn, Z.sc_nn, L2.CDiv, L2.CPow, L2.CMul, List.getElem?_cons_zero, List.getElem?_cons_succ, Z.set_z, Z.set_s, Option.some.injEq, L2.V.int.injEq, L2.V.bl.injEq, L2.V.str.injEq, L2.V.ref.injEq, L2.V.ty.injEq, List.cons.injEq, exists_eq_left', exists_and_left, exists_eq_left, exists_eq_right, exists_eq_right', exists_eq', exists_eq, true_and, and_true, and_assoc, decide_eq_true_eq, Int.reduceLT, and_self, Z.rIxH, Z.rIxU, Z.at30, Z.at31, Z.at32, Z.ix3_0, Z.ix3_1, Z.ix3_2, L2.rSetL, L2.gSub, Z.gTupH, L2.gCons, L2.gNil, L2.HO.lst.injEq, L2.HO.tup.injEq, L2.upd_same, L2.upd_upd, L2.tSl, L2.tNoPart, L2.tPart, L2.rSlL, L2.rCat, List.length_append, or_false, false_or, or_true, true_or, reduceCtorEq, false_and, and_false, exists_false, Int.reduceNeg, Int.reducePow, Int.reduceToNat, Int.reduceAbs, Int.reduceLE, Int.reduceMul, Int.reduceAdd, Int.reduceSub, Nat.reducePow, Nat.reduceLT, Nat.reduceLeDiff, Int.natAbs_natCast, if_true, if_false, Z.rIsN, Z.tyN, Z.kit_ii, Z.kit_bi, Z.kit_si, Z.kit_ni, Z.kit_ib, Z.kit_bb, Z.kit_sb, Z.kit_nb, Z.kit_is, Z.kit_bs, Z.kit_ss, Z.kit_ns, Bool.not_true, Bool.not_false, L2.tTup, L2.tLst, L2.wipe, L2.tYes, Z.Turn1, L2.tNever, sizeLine_eq, Z.rInU, Z.rInH, L2.flatV, List.any_cons, List.any_nil, List.all_cons, List.all_nil, Bool.and_true, Bool.true_and, Bool.or_false, Bool.false_or, Z.tBML, L2.rAppend, Z.map_int_inj, Z.map_bl_inj, Z.rTupL, Z.rLstL, Z.rLstT, Z.rSortI, Z.rAnyH, Z.rAllH, Z.rSumH, Z.rLenL, Z.rLenU, List.length_map, L2.tPar, StX.tStar, L2.tDNewT, L2.tDIn, L2.sDPut, L2.tDGet, Z.tCallK0, List.getD_cons_zero, List.getD_cons_succ, sp_evenings_for, sp_evening_of]
    have hn := nights_le (r := r) h1
    refine lc_rngO (H1 := H) (n := nights r n) (intO fun e => tupO (evL r n e)) (fun R h => ?_) (by omega) (fun i hi H1 s1 => ?_) fun D H1 as hD s1 e1 pr => ?_
    · simp only [L2.start, List.map_cons, List.map_nil, List.length_cons, List.length_nil, Nat.zero_add, Nat.reduceAdd, Nat.reduceSub, List.replicate_succ, List.replicate_zero, List.cons_append, List.nil_append, List.append_nil, L2.tNext, L2.tAsg, L2.gName, L2.tRet, L2.tRetN, L2.tIfS, L2.tVar, L2.tC, L2.tOp, L2.tUn, L2.rI, L2.rI0, L2.rU, L2.rEq, L2.rNe, L2.tTest, L2.tB, L2.tIf, Z.tIfCI, Z.tIfCS, L2.tChain, L2.tCons, L2.tNil, L2.tCall, L2.tDrop, L2.tAndV, L2.tOrV, L2.tNotV, L2.tAnd, L2.tOr, L2.tNot, L2.tCB, Z.sc_ii, Z.sc_ss, Z.sc_bb, Z.sc_is, Z.sc_si, Z.sc_ni, Z.sc_in, Z.sc_ns, Z.sc_sn, Z.sc_nn, L2.CDiv, L2.CPow, L2.CMul, List.getElem?_cons_zero, List.getElem?_cons_succ, Z.set_z, Z.set_s, Option.some.injEq, L2.V.int.injEq, L2.V.bl.injEq, L2.V.str.injEq, L2.V.ref.injEq, L2.V.ty.injEq, List.cons.injEq, exists_eq_left', exists_and_left, exists_eq_left, exists_eq_right, exists_eq_right', exists_eq', exists_eq, true_and, and_true, and_assoc, decide_eq_true_eq, Int.reduceLT, and_self, Z.rIxH, Z.rIxU, Z.at30, Z.at31, Z.at32, Z.ix3_0, Z.ix3_1, Z.ix3_2, L2.rSetL, L2.gSub, Z.gTupH, L2.gCons, L2.gNil, L2.HO.lst.injEq, L2.HO.tup.injEq, L2.upd_same, L2.upd_upd, L2.tSl, L2.tNoPart, L2.tPart, L2.rSlL, L2.rCat, List.length_append, or_false, false_or, or_true, true_or, reduceCtorEq, false_and, and_false, exists_false, Int.reduceNeg, Int.reducePow, Int.reduceToNat, Int.reduceAbs, Int.reduceLE, Int.reduceMul, Int.reduceAdd, Int.reduceSub, Nat.reducePow, Nat.reduceLT, Nat.reduceLeDiff, Int.natAbs_natCast, if_true, if_false, Z.rIsN, Z.tyN, Z.kit_ii, Z.kit_bi, Z.kit_si, Z.kit_ni, Z.kit_ib, Z.kit_bb, Z.kit_sb, Z.kit_nb, Z.kit_is, Z.kit_bs, Z.kit_ss, Z.kit_ns, Bool.not_true, Bool.not_false, L2.tTup, L2.tLst, L2.wipe, L2.tYes, Z.Turn1, L2.tNever, sizeLine_eq, Z.rInU, Z.rInH, L2.flatV, List.any_cons, List.any_nil, List.all_cons, List.all_nil, Bool.and_true, Bool.true_and, Bool.or_false, Bool.false_or, Z.tBML, L2.rAppend, Z.map_int_inj, Z.map_bl_inj, Z.rTupL, Z.rLstL, Z.rLstT, Z.rSortI, Z.rAnyH, Z.rAllH, Z.rSumH, Z.rLenL, Z.rLenU, List.length_map, L2.tPar, StX.tStar, L2.tDNewT, L2.tDIn, L2.sDPut, L2.tDGet, Z.tCallK0, List.getD_cons_zero, List.getD_cons_succ, sp_evenings_for, sp_evening_of, kind_inj]
      exact h
    · intro Y N hY hN
      simp only [L2.start, List.map_cons, List.map_nil, List.length_cons, List.length_nil, Nat.zero_add, Nat.reduceAdd, Nat.reduceSub, List.replicate_succ, List.replicate_zero, List.cons_append, List.nil_append, List.append_nil, L2.tNext, L2.tAsg, L2.gName, L2.tRet, L2.tRetN, L2.tIfS, L2.tVar, L2.tC, L2.tOp, L2.tUn, L2.rI, L2.rI0, L2.rU, L2.rEq, L2.rNe, L2.tTest, L2.tB, L2.tIf, Z.tIfCI, Z.tIfCS, L2.tChain, L2.tCons, L2.tNil, L2.tCall, L2.tDrop, L2.tAndV, L2.tOrV, L2.tNotV, L2.tAnd, L2.tOr, L2.tNot, L2.tCB, Z.sc_ii, Z.sc_ss, Z.sc_bb, Z.sc_is, Z.sc_si, Z.sc_ni, Z.sc_in, Z.sc_ns, Z.sc_sn, Z.sc_nn, L2.CDiv, L2.CPow, L2.CMul, List.getElem?_cons_zero, List.getElem?_cons_succ, Z.set_z, Z.set_s, Option.some.injEq, L2.V.int.injEq, L2.V.bl.injEq, L2.V.str.injEq, L2.V.ref.injEq, L2.V.ty.injEq, List.cons.injEq, exists_eq_left', exists_and_left, exists_eq_left, exists_eq_right, exists_eq_right', exists_eq', exists_eq, true_and, and_true, and_assoc, decide_eq_true_eq, Int.reduceLT, and_self, Z.rIxH, Z.rIxU, Z.at30, Z.at31, Z.at32, Z.ix3_0, Z.ix3_1, Z.ix3_2, L2.rSetL, L2.gSub, Z.gTupH, L2.gCons, L2.gNil, L2.HO.lst.injEq, L2.HO.tup.injEq, L2.upd_same, L2.upd_upd, L2.tSl, L2.tNoPart, L2.tPart, L2.rSlL, L2.rCat, List.length_append, or_false, false_or, or_true, true_or, reduceCtorEq, false_and, and_false, exists_false, Int.reduceNeg, Int.reducePow, Int.reduceToNat, Int.reduceAbs, Int.reduceLE, Int.reduceMul, Int.reduceAdd, Int.reduceSub, Nat.reducePow, Nat.reduceLT, Nat.reduceLeDiff, Int.natAbs_natCast, if_true, if_false, Z.rIsN, Z.tyN, Z.kit_ii, Z.kit_bi, Z.kit_si, Z.kit_ni, Z.kit_ib, Z.kit_bb, Z.kit_sb, Z.kit_nb, Z.kit_is, Z.kit_bs, Z.kit_ss, Z.kit_ns, Bool.not_true, Bool.not_false, L2.tTup, L2.tLst, L2.wipe, L2.tYes, Z.Turn1, L2.tNever, sizeLine_eq, Z.rInU, Z.rInH, L2.flatV, List.any_cons, List.any_nil, List.all_cons, List.all_nil, Bool.and_true, Bool.true_and, Bool.or_false, Bool.false_or, Z.tBML, L2.rAppend, Z.map_int_inj, Z.map_bl_inj, Z.rTupL, Z.rLstL, Z.rLstT, Z.rSortI, Z.rAnyH, Z.rAllH, Z.rSumH, Z.rLenL, Z.rLenU, List.length_map, L2.tPar, StX.tStar, L2.tDNewT, L2.tDIn, L2.sDPut, L2.tDGet, Z.tCallK0, List.getD_cons_zero, List.getD_cons_succ, sp_evenings_for, sp_evening_of, kind_inj]
      exact ⟨h1, h2, fun t H' ht s e => hY _ t H' rfl ht s e⟩
    · rw [upto_ups, fm_intO] at pr
      refine ⟨D, rfl, _, e1, fun t ht => ?_⟩
      refine q t as _ (s1.free ht) (same_upd s1 (s1.free ht)) upd_same ?_
      have e2 : (ups (nights r n)).map (fun e => tupO (evL r n e)) = (zz r n).map tupO := by
        unfold zz
        rw [List.map_map]
        rfl
      rw [e2] at pr
      exact tups_same (same_new ht) (tups_of pr)

theorem size_99 {r : Bool} {n k : Int} (h : SizeIs r n k) (h9 : n ≤ 99) : sizeV r 99 (.int n) = true := by
  have h2 := size_two h
  show (if r then (decide (3 ≤ n ∧ n ≤ 99) && decide (n % 2 = 1)) else (decide (2 ≤ n ∧ n ≤ 99) && decide (n % 2 = 0))) = true
  obtain ⟨h0, ⟨rfl, h1⟩ | ⟨rfl, h1⟩⟩ := h
  · rw [if_pos rfl, decide_eq_true (by omega), decide_eq_true (by omega)]
    rfl
  · rw [if_neg Bool.false_ne_true, decide_eq_true (by omega), decide_eq_true (by omega)]
    rfl
def sp_certify_zigzag : Sp := fun vs H Q _ => ∃ (r : Bool) (n k : Int), vs = [.str (kindS r), .int n] ∧ SizeIs r n k ∧ n ≤ 99 ∧ ∀ t c u A as H', Same H H' → H' t = some (.tup [.ref c, .ref u]) → H' c = some (.tup [.str "party", .str (kindS r), .int n, .ref A]) → H' u = some (.tup []) → H' A = some (.tup (as.map V.ref)) → Paired (TupAt H') as (zz r n) → Q (.ref t) H'
theorem ok_certify_zigzag (T : Env w K mg) : Hd P w K mg base CX0 5 "certify_zigzag" s_certify_zigzag ["kind", "n"] sp_certify_zigzag := by
  have H_zigzag_of := ok_zigzag_of (P := P) (w := w) (base := base) T
  have H_is_size := ok_is_size (P := P) (w := w) (base := base) T
  have H_check_kind := ok_check_kind (P := P) (w := w) (base := base) T
  obtain ⟨f, fd, F, hm⟩ := T.d_certify_zigzag
  refine ⟨⟨f, fd, F, hm, ?_⟩, fun _ _ _ _ _ _ _ us hl => match us, hl with | [_, _], _ => rfl⟩
  refine F.ok sc_certify_zigzag (fun vs H Q E h => ?_) (fun cdv A outer s H vs Q E hr h => ?_)
  · first | (obtain ⟨rfl, _⟩ := h; rfl) | (obtain ⟨_, rfl, _⟩ := h; rfl) | (obtain ⟨_, _, rfl, _⟩ := h; rfl) | (obtain ⟨_, _, _, rfl, _⟩ := h; rfl) | (obtain ⟨_, _, _, _, rfl, _⟩ := h; rfl) | (obtain ⟨_, _, _, _, _, rfl, _⟩ := h; rfl) | (obtain ⟨_, _, _, _, _, _, rfl, _⟩ := h; rfl) | (obtain ⟨_, _, _, _, _, _, _, rfl, _⟩ := h; rfl) | (obtain ⟨_, _, _, _, _, _, _, _, rfl, _⟩ := h; rfl)
  · obtain ⟨r, n, k, rfl, hs, h99, q⟩ := h
    have hu := hu_of hr
    refine ⟨_, pss_cons (ps_expr (pe_hd H_check_kind (hr.mono (by decide)) rfl pass0 (pa_cons (pv 0) pa_nil)))
      (pss_cons (ps_if (pt_not (pt_val (pe_hd H_is_size (hr.mono (by decide)) rfl pass0 (pa_cons (pv 0) (pa_cons (pv 1) (pa_cons (pe_glob (v := .int 99) rfl T.c_MOST_TOLD.choose_spec ⟨_, rfl⟩) pa_nil)))))) (pss_one (ps_never))
      (pss_nil))
      (pss_one (ps_ret (pe_tup (pa_cons (pe_tup (pa_cons pe_str (pa_cons (pv 0) (pa_cons (pv 1) (pa_cons (pe_hd H_zigzag_of (hr.mono (by decide)) rfl pass0 (pa_cons (pv 0) (pa_cons (pv 1) pa_nil))) pa_nil))))) (pa_cons (pe_tup pa_nil) pa_nil)))))), ?_⟩
    have h2 := size_two hs
    simp only [L2.start, List.map_cons, List.map_nil, List.length_cons, List.length_nil, Nat.zero_add, Nat.reduceAdd, Nat.reduceSub, List.replicate_succ, List.replicate_zero, List.cons_append, List.nil_append, List.append_nil, L2.tNext, L2.tAsg, L2.gName, L2.tRet, L2.tRetN, L2.tIfS, L2.tVar, L2.tC, L2.tOp, L2.tUn, L2.rI, L2.rI0, L2.rU, L2.rEq, L2.rNe, L2.tTest, L2.tB, L2.tIf, Z.tIfCI, Z.tIfCS, L2.tChain, L2.tCons, L2.tNil, L2.tCall, L2.tDrop, L2.tAndV, L2.tOrV, L2.tNotV, L2.tAnd, L2.tOr, L2.tNot, L2.tCB, Z.sc_ii, Z.sc_ss, Z.sc_bb, Z.sc_is, Z.sc_si, Z.sc_ni, Z.sc_in, Z.sc_ns, Z.sc_sn, Z.sc_nn, L2.CDiv, L2.CPow, L2.CMul, List.getElem?_cons_zero, List.getElem?_cons_succ, Z.set_z, Z.set_s, Option.some.injEq, L2.V.int.injEq, L2.V.bl.injEq, L2.V.str.injEq, L2.V.ref.injEq, L2.V.ty.injEq, List.cons.injEq, exists_eq_left', exists_and_left, exists_eq_left, exists_eq_right, exists_eq_right', exists_eq', exists_eq, true_and, and_true, and_assoc, decide_eq_true_eq, Int.reduceLT, and_self, Z.rIxH, Z.rIxU, Z.at30, Z.at31, Z.at32, Z.ix3_0, Z.ix3_1, Z.ix3_2, L2.rSetL, L2.gSub, Z.gTupH, L2.gCons, L2.gNil, L2.HO.lst.injEq, L2.HO.tup.injEq, L2.upd_same, L2.upd_upd, L2.tSl, L2.tNoPart, L2.tPart, L2.rSlL, L2.rCat, List.length_append, or_false, false_or, or_true, true_or, reduceCtorEq, false_and, and_false, exists_false, Int.reduceNeg, Int.reducePow, Int.reduceToNat, Int.reduceAbs, Int.reduceLE, Int.reduceMul, Int.reduceAdd, Int.reduceSub, Nat.reducePow, Nat.reduceLT, Nat.reduceLeDiff, Int.natAbs_natCast, if_true, if_false, Z.rIsN, Z.tyN, Z.kit_ii, Z.kit_bi, Z.kit_si, Z.kit_ni, Z.kit_ib, Z.kit_bb, Z.kit_sb, Z.kit_nb, Z.kit_is, Z.kit_bs, Z.kit_ss, Z.kit_ns, Bool.not_true, Bool.not_false, L2.tTup, L2.tLst, L2.wipe, L2.tYes, Z.Turn1, L2.tNever, sizeLine_eq, Z.rInU, Z.rInH, L2.flatV, List.any_cons, List.any_nil, List.all_cons, List.all_nil, Bool.and_true, Bool.true_and, Bool.or_false, Bool.false_or, Z.tBML, L2.rAppend, Z.map_int_inj, Z.map_bl_inj, Z.rTupL, Z.rLstL, Z.rLstT, Z.rSortI, Z.rAnyH, Z.rAllH, Z.rSumH, Z.rLenL, Z.rLenU, List.length_map, L2.tPar, StX.tStar, L2.tDNewT, L2.tDIn, L2.sDPut, L2.tDGet, Z.tCallK0, List.getD_cons_zero, List.getD_cons_succ, sp_zigzag_of, sp_is_size, sp_check_kind, kind_inj]
    refine z_seq ?_
    simp only [L2.start, List.map_cons, List.map_nil, List.length_cons, List.length_nil, Nat.zero_add, Nat.reduceAdd, Nat.reduceSub, List.replicate_succ, List.replicate_zero, List.cons_append, List.nil_append, List.append_nil, L2.tNext, L2.tAsg, L2.gName, L2.tRet, L2.tRetN, L2.tIfS, L2.tVar, L2.tC, L2.tOp, L2.tUn, L2.rI, L2.rI0, L2.rU, L2.rEq, L2.rNe, L2.tTest, L2.tB, L2.tIf, Z.tIfCI, Z.tIfCS, L2.tChain, L2.tCons, L2.tNil, L2.tCall, L2.tDrop, L2.tAndV, L2.tOrV, L2.tNotV, L2.tAnd, L2.tOr, L2.tNot, L2.tCB, Z.sc_ii, Z.sc_ss, Z.sc_bb, Z.sc_is, Z.sc_si, Z.sc_ni, Z.sc_in, Z.sc_ns, Z.sc_sn, Z.sc_nn, L2.CDiv, L2.CPow, L2.CMul, List.getElem?_cons_zero, List.getElem?_cons_succ, Z.set_z, Z.set_s, Option.some.injEq, L2.V.int.injEq, L2.V.bl.injEq, L2.V.str.injEq, L2.V.ref.injEq, L2.V.ty.injEq, List.cons.injEq, exists_eq_left', exists_and_left, exists_eq_left, exists_eq_right, exists_eq_right', exists_eq', exists_eq, true_and, and_true, and_assoc, decide_eq_true_eq, Int.reduceLT, and_self, Z.rIxH, Z.rIxU, Z.at30, Z.at31, Z.at32, Z.ix3_0, Z.ix3_1, Z.ix3_2, L2.rSetL, L2.gSub, Z.gTupH, L2.gCons, L2.gNil, L2.HO.lst.injEq, L2.HO.tup.injEq, L2.upd_same, L2.upd_upd, L2.tSl, L2.tNoPart, L2.tPart, L2.rSlL, L2.rCat, List.length_append, or_false, false_or, or_true, true_or, reduceCtorEq, false_and, and_false, exists_false, Int.reduceNeg, Int.reducePow, Int.reduceToNat, Int.reduceAbs, Int.reduceLE, Int.reduceMul, Int.reduceAdd, Int.reduceSub, Nat.reducePow, Nat.reduceLT, Nat.reduceLeDiff, Int.natAbs_natCast, if_true, if_false, Z.rIsN, Z.tyN, Z.kit_ii, Z.kit_bi, Z.kit_si, Z.kit_ni, Z.kit_ib, Z.kit_bb, Z.kit_sb, Z.kit_nb, Z.kit_is, Z.kit_bs, Z.kit_ss, Z.kit_ns, Bool.not_true, Bool.not_false, L2.tTup, L2.tLst, L2.wipe, L2.tYes, Z.Turn1, L2.tNever, sizeLine_eq, Z.rInU, Z.rInH, L2.flatV, List.any_cons, List.any_nil, List.all_cons, List.all_nil, Bool.and_true, Bool.true_and, Bool.or_false, Bool.false_or, Z.tBML, L2.rAppend, Z.map_int_inj, Z.map_bl_inj, Z.rTupL, Z.rLstL, Z.rLstT, Z.rSortI, Z.rAnyH, Z.rAllH, Z.rSumH, Z.rLenL, Z.rLenU, List.length_map, L2.tPar, StX.tStar, L2.tDNewT, L2.tDIn, L2.sDPut, L2.tDGet, Z.tCallK0, List.getD_cons_zero, List.getD_cons_succ, sp_zigzag_of, sp_is_size, sp_check_kind, kind_inj]
    refine fun H1 s1 => ?_
    refine z_seq ?_
    simp only [L2.start, List.map_cons, List.map_nil, List.length_cons, List.length_nil, Nat.zero_add, Nat.reduceAdd, Nat.reduceSub, List.replicate_succ, List.replicate_zero, List.cons_append, List.nil_append, List.append_nil, L2.tNext, L2.tAsg, L2.gName, L2.tRet, L2.tRetN, L2.tIfS, L2.tVar, L2.tC, L2.tOp, L2.tUn, L2.rI, L2.rI0, L2.rU, L2.rEq, L2.rNe, L2.tTest, L2.tB, L2.tIf, Z.tIfCI, Z.tIfCS, L2.tChain, L2.tCons, L2.tNil, L2.tCall, L2.tDrop, L2.tAndV, L2.tOrV, L2.tNotV, L2.tAnd, L2.tOr, L2.tNot, L2.tCB, Z.sc_ii, Z.sc_ss, Z.sc_bb, Z.sc_is, Z.sc_si, Z.sc_ni, Z.sc_in, Z.sc_ns, Z.sc_sn, Z.sc_nn, L2.CDiv, L2.CPow, L2.CMul, List.getElem?_cons_zero, List.getElem?_cons_succ, Z.set_z, Z.set_s, Option.some.injEq, L2.V.int.injEq, L2.V.bl.injEq, L2.V.str.injEq, L2.V.ref.injEq, L2.V.ty.injEq, List.cons.injEq, exists_eq_left', exists_and_left, exists_eq_left, exists_eq_right, exists_eq_right', exists_eq', exists_eq, true_and, and_true, and_assoc, decide_eq_true_eq, Int.reduceLT, and_self, Z.rIxH, Z.rIxU, Z.at30, Z.at31, Z.at32, Z.ix3_0, Z.ix3_1, Z.ix3_2, L2.rSetL, L2.gSub, Z.gTupH, L2.gCons, L2.gNil, L2.HO.lst.injEq, L2.HO.tup.injEq, L2.upd_same, L2.upd_upd, L2.tSl, L2.tNoPart, L2.tPart, L2.rSlL, L2.rCat, List.length_append, or_false, false_or, or_true, true_or, reduceCtorEq, false_and, and_false, exists_false, Int.reduceNeg, Int.reducePow, Int.reduceToNat, Int.reduceAbs, Int.reduceLE, Int.reduceMul, Int.reduceAdd, Int.reduceSub, Nat.reducePow, Nat.reduceLT, Nat.reduceLeDiff, Int.natAbs_natCast, if_true, if_false, Z.rIsN, Z.tyN, Z.kit_ii, Z.kit_bi, Z.kit_si, Z.kit_ni, Z.kit_ib, Z.kit_bb, Z.kit_sb, Z.kit_nb, Z.kit_is, Z.kit_bs, Z.kit_ss, Z.kit_ns, Bool.not_true, Bool.not_false, L2.tTup, L2.tLst, L2.wipe, L2.tYes, Z.Turn1, L2.tNever, sizeLine_eq, Z.rInU, Z.rInH, L2.flatV, List.any_cons, List.any_nil, List.all_cons, List.all_nil, Bool.and_true, Bool.true_and, Bool.or_false, Bool.false_or, Z.tBML, L2.rAppend, Z.map_int_inj, Z.map_bl_inj, Z.rTupL, Z.rLstL, Z.rLstT, Z.rSortI, Z.rAnyH, Z.rAllH, Z.rSumH, Z.rLenL, Z.rLenU, List.length_map, L2.tPar, StX.tStar, L2.tDNewT, L2.tDIn, L2.sDPut, L2.tDGet, Z.tCallK0, List.getD_cons_zero, List.getD_cons_succ, sp_zigzag_of, sp_is_size, sp_check_kind, kind_inj]
    refine ⟨known_int n, ?_⟩
    rw [size_99 hs h99, if_neg (by decide)]
    refine ⟨by omega, by omega, fun A as H2 hA s2 eA pA p hp p1 hp1 p2 hp2 => ?_⟩
    have n1 := same_new (o := .tup [.str "party", .str (kindS r), .int n, .ref A]) hp
    have n2 := same_new (o := .tup []) hp1
    have n3 := same_new (o := .tup [.ref p, .ref p1]) hp2
    exact q p2 p p1 A as _ ((s1.trans s2).trans ((n1.trans n2).trans n3)) upd_same (n3 _ _ (n2 _ _ upd_same)) (n3 _ _ upd_same) (((n1.trans n2).trans n3) _ _ eA) (tups_same ((n1.trans n2).trans n3) pA)
open Zig
def sp__law_spring (K : PySem.W.Frag) : Sp := fun vs H Q _ => ∃ (a : Addr) (k : Int) (ns : List Int), vs = [.ref a, .int k] ∧ SqL K H a (ns.map V.int) ∧ ns.length ≤ 63 ∧ 0 ≤ k ∧ k < 1000 ∧ ∀ p H', H p = none → Same H H' → Spring H' p → Q (.ref p) H'
theorem ok__law_spring (T : Env w K mg) : Hd P w K mg base CX0 1 "_law_spring" s__law_spring ["_law_cells", "_law_k"] (sp__law_spring K) := by
  obtain ⟨f, fd, F, hm⟩ := T.d__law_spring
  refine ⟨⟨f, fd, F, hm, ?_⟩, fun _ _ _ _ _ _ _ us hl => match us, hl with | [_, _], _ => rfl⟩
  refine F.ok sc__law_spring (fun vs H Q E h => ?_) (fun cdv A outer s H vs Q E hr h => ?_)
  · first | (obtain ⟨rfl, _⟩ := h; rfl) | (obtain ⟨_, rfl, _⟩ := h; rfl) | (obtain ⟨_, _, rfl, _⟩ := h; rfl) | (obtain ⟨_, _, _, rfl, _⟩ := h; rfl) | (obtain ⟨_, _, _, _, rfl, _⟩ := h; rfl) | (obtain ⟨_, _, _, _, _, rfl, _⟩ := h; rfl) | (obtain ⟨_, _, _, _, _, _, rfl, _⟩ := h; rfl) | (obtain ⟨_, _, _, _, _, _, _, rfl, _⟩ := h; rfl) | (obtain ⟨_, _, _, _, _, _, _, _, rfl, _⟩ := h; rfl)
  · obtain ⟨a, k, ns, rfl, hs, hl, hk, hk2, q⟩ := h
    have hu := hu_of hr
    refine ⟨_, pss_cons (ps_set (i := 2) sc__law_spring.nd rfl (by first | exact .inl rfl | exact .inr rfl) (pe_ifExp (pt_cmpR op_lt (pv 1) (pe_callB call_len_seq rfl T.b_len (by decide +kernel) (pa_cons (pv 0) pa_nil)) (nomark _)) (pe_ix ix_list (pv 0) (pv 1) (fun _ _ => rfl)) (pe_op op_add (pe_op op_mul pe_int (pv 1)) pe_int)))
      (pss_cons (ps_set (i := 3) sc__law_spring.nd rfl (by first | exact .inl rfl | exact .inr rfl) (pe_op op_add pe_int (pe_op op_mul pe_int (pv 1))))
      (pss_cons (ps_for PassesOwn.never rfl (pi_list (pe_op op_cat (pe_slice sl_list (pv 0) po_none (po_some pe_int)) (pe_lst (pa_cons (pv 2) pa_nil)))) (pg_name (i := 4) sc__law_spring.nd rfl (by first | exact .inl rfl | exact .inr rfl))
      (pss_one (ps_set (i := 3) sc__law_spring.nd rfl (by first | exact .inl rfl | exact .inr rfl) (pe_op op_mod (pe_callTy call_int1 rfl T.b_int (by decide +kernel) (pa_cons (pe_op op_add (pe_op op_add (pe_op op_mul (pv 3) pe_int) (pe_callTy call_int1 rfl T.b_int (by decide +kernel) (pa_cons (pv 4) pa_nil))) (pe_op op_mul pe_int (pv 1))) pa_nil)) pe_int))))
      (pss_one (ps_ret (pe_lst (pa_cons (pe_ifExp (PW.pt (pw_or (pt_cmpR op_lt (pv 2) pe_int (nomark _)) (pw_or1 (pt_cmpR op_ge (pv 2) (pe_op op_pow pe_int pe_int) (nomark _))))) (pe_callB call_abs rfl T.b_abs (by decide +kernel) (pa_cons (pv 2) pa_nil)) pe_int) (pa_cons (pv 3) (pa_cons pe_int pa_nil)))))))), ?_⟩
    simp only [L2.start, List.map_cons, List.map_nil, List.length_cons, List.length_nil, Nat.zero_add, Nat.reduceAdd, Nat.reduceSub, List.replicate_succ, List.replicate_zero, List.cons_append, List.nil_append, List.append_nil, L2.tSeq, L2.tNext, L2.tAsg, L2.gName, L2.tRet, L2.tRetN, L2.tIfS, L2.tVar, L2.tC, L2.tOp, L2.tUn, L2.rI, L2.rI0, L2.rU, L2.rEq, L2.rNe, L2.tTest, L2.tB, L2.tIf, Z.tIfCI, Z.tIfCS, L2.tChain, L2.tCons, L2.tNil, L2.tCall, L2.tDrop, L2.tAndV, L2.tOrV, L2.tNotV, L2.tAnd, L2.tOr, L2.tNot, L2.tCB, Z.sc_ii, Z.sc_ss, Z.sc_bb, Z.sc_is, Z.sc_si, Z.sc_ni, Z.sc_in, Z.sc_ns, Z.sc_sn, Z.sc_nn, L2.CDiv, L2.CPow, L2.CMul, List.getElem?_cons_zero, List.getElem?_cons_succ, Z.set_z, Z.set_s, Option.some.injEq, L2.V.int.injEq, L2.V.bl.injEq, L2.V.str.injEq, L2.V.ref.injEq, L2.V.ty.injEq, List.cons.injEq, exists_eq_left', exists_and_left, exists_eq_left, exists_eq_right, exists_eq_right', exists_eq', exists_eq, true_and, and_true, and_assoc, decide_eq_true_eq, Int.reduceLT, and_self, Z.rIxH, Z.rIxU, Z.at30, Z.at31, Z.at32, Z.ix3_0, Z.ix3_1, Z.ix3_2, L2.rSetL, L2.gSub, Z.gTupH, L2.gCons, L2.gNil, L2.HO.lst.injEq, L2.HO.tup.injEq, L2.upd_same, L2.upd_upd, L2.tSl, L2.tNoPart, L2.tPart, L2.rSlL, L2.rCat, List.length_append, or_false, false_or, or_true, true_or, reduceCtorEq, false_and, and_false, exists_false, Int.reduceNeg, Int.reducePow, Int.reduceToNat, Int.reduceAbs, Int.reduceLE, Int.reduceMul, Int.reduceAdd, Int.reduceSub, Nat.reducePow, Nat.reduceLT, Nat.reduceLeDiff, Int.natAbs_natCast, if_true, if_false, Z.rIsN, Z.tyN, Z.kit_ii, Z.kit_bi, Z.kit_si, Z.kit_ni, Z.kit_ib, Z.kit_bb, Z.kit_sb, Z.kit_nb, Z.kit_is, Z.kit_bs, Z.kit_ss, Z.kit_ns, Bool.not_true, Bool.not_false, L2.tTup, L2.tLst, L2.wipe, L2.tYes, Z.Turn1, L2.tNever, sizeLine_eq, Z.rInU, Z.rInH, L2.flatV, List.any_cons, List.any_nil, List.all_cons, List.all_nil, Bool.and_true, Bool.true_and, Bool.or_false, Bool.false_or, Z.tBML, L2.rAppend, Z.map_int_inj, Z.map_bl_inj, Z.rTupL, Z.rLstL, Z.rLstT, Z.rSortI, Z.rAnyH, Z.rAllH, Z.rSumH, Z.rLenL, Z.rLenU, List.length_map, L2.tPar, StX.tStar, L2.tDNewT, L2.tDIn, L2.sDPut, L2.tDGet, Z.tCallK0, List.getD_cons_zero, List.getD_cons_succ]
    refine ⟨ns.map V.int, .inl hs, ?_⟩
    refine idx_or hs hk fun cell => ?_
    refine for_ints (fun R hR => ?_) (fun σ => ∃ m x, σ = [some (.ref a), some (.int k), some (.int cell), some (.int m), x]) ⟨_, _, rfl⟩ ?_ ?_
    · simp only [L2.start, List.map_cons, List.map_nil, List.length_cons, List.length_nil, Nat.zero_add, Nat.reduceAdd, Nat.reduceSub, List.replicate_succ, List.replicate_zero, List.cons_append, List.nil_append, List.append_nil, L2.tSeq, L2.tNext, L2.tAsg, L2.gName, L2.tRet, L2.tRetN, L2.tIfS, L2.tVar, L2.tC, L2.tOp, L2.tUn, L2.rI, L2.rI0, L2.rU, L2.rEq, L2.rNe, L2.tTest, L2.tB, L2.tIf, Z.tIfCI, Z.tIfCS, L2.tChain, L2.tCons, L2.tNil, L2.tCall, L2.tDrop, L2.tAndV, L2.tOrV, L2.tNotV, L2.tAnd, L2.tOr, L2.tNot, L2.tCB, Z.sc_ii, Z.sc_ss, Z.sc_bb, Z.sc_is, Z.sc_si, Z.sc_ni, Z.sc_in, Z.sc_ns, Z.sc_sn, Z.sc_nn, L2.CDiv, L2.CPow, L2.CMul, List.getElem?_cons_zero, List.getElem?_cons_succ, Z.set_z, Z.set_s, Option.some.injEq, L2.V.int.injEq, L2.V.bl.injEq, L2.V.str.injEq, L2.V.ref.injEq, L2.V.ty.injEq, List.cons.injEq, exists_eq_left', exists_and_left, exists_eq_left, exists_eq_right, exists_eq_right', exists_eq', exists_eq, true_and, and_true, and_assoc, decide_eq_true_eq, Int.reduceLT, and_self, Z.rIxH, Z.rIxU, Z.at30, Z.at31, Z.at32, Z.ix3_0, Z.ix3_1, Z.ix3_2, L2.rSetL, L2.gSub, Z.gTupH, L2.gCons, L2.gNil, L2.HO.lst.injEq, L2.HO.tup.injEq, L2.upd_same, L2.upd_upd, L2.tSl, L2.tNoPart, L2.tPart, L2.rSlL, L2.rCat, List.length_append, or_false, false_or, or_true, true_or, reduceCtorEq, false_and, and_false, exists_false, Int.reduceNeg, Int.reducePow, Int.reduceToNat, Int.reduceAbs, Int.reduceLE, Int.reduceMul, Int.reduceAdd, Int.reduceSub, Nat.reducePow, Nat.reduceLT, Nat.reduceLeDiff, Int.natAbs_natCast, if_true, if_false, Z.rIsN, Z.tyN, Z.kit_ii, Z.kit_bi, Z.kit_si, Z.kit_ni, Z.kit_ib, Z.kit_bb, Z.kit_sb, Z.kit_nb, Z.kit_is, Z.kit_bs, Z.kit_ss, Z.kit_ns, Bool.not_true, Bool.not_false, L2.tTup, L2.tLst, L2.wipe, L2.tYes, Z.Turn1, L2.tNever, sizeLine_eq, Z.rInU, Z.rInH, L2.flatV, List.any_cons, List.any_nil, List.all_cons, List.all_nil, Bool.and_true, Bool.true_and, Bool.or_false, Bool.false_or, Z.tBML, L2.rAppend, Z.map_int_inj, Z.map_bl_inj, Z.rTupL, Z.rLstL, Z.rLstT, Z.rSortI, Z.rAnyH, Z.rAllH, Z.rSumH, Z.rLenL, Z.rLenU, List.length_map, L2.tPar, StX.tStar, L2.tDNewT, L2.tDIn, L2.sDPut, L2.tDGet, Z.tCallK0, List.getD_cons_zero, List.getD_cons_succ]
      obtain ⟨ms, em, hm⟩ := cut_ints ns none (some 8)
      refine ⟨_, hs, fun t ht b hb => ?_⟩
      have htb : t ≠ b := ne_of_none (upd_same (H := H) (a := t)) hb
      refine ⟨ms.map V.int, by rw [upd_ne htb, upd_same, em], by rw [List.length_map]; omega, fun z hz => ?_⟩
      have s1 := same_upd (o := .lst [V.int cell]) (same_new (o := .lst (cutV (ns.map V.int) none (some 8))) ht) ((same_new ht).free hb)
      refine hR z _ (ms ++ [cell]) (same_upd s1 (s1.free hz)) ?_
      rw [upd_same, List.map_append]
      rfl
    · rintro x σ H' s ⟨m, y, rfl⟩ N hN
      simp only [L2.start, List.map_cons, List.map_nil, List.length_cons, List.length_nil, Nat.zero_add, Nat.reduceAdd, Nat.reduceSub, List.replicate_succ, List.replicate_zero, List.cons_append, List.nil_append, List.append_nil, L2.tSeq, L2.tNext, L2.tAsg, L2.gName, L2.tRet, L2.tRetN, L2.tIfS, L2.tVar, L2.tC, L2.tOp, L2.tUn, L2.rI, L2.rI0, L2.rU, L2.rEq, L2.rNe, L2.tTest, L2.tB, L2.tIf, Z.tIfCI, Z.tIfCS, L2.tChain, L2.tCons, L2.tNil, L2.tCall, L2.tDrop, L2.tAndV, L2.tOrV, L2.tNotV, L2.tAnd, L2.tOr, L2.tNot, L2.tCB, Z.sc_ii, Z.sc_ss, Z.sc_bb, Z.sc_is, Z.sc_si, Z.sc_ni, Z.sc_in, Z.sc_ns, Z.sc_sn, Z.sc_nn, L2.CDiv, L2.CPow, L2.CMul, List.getElem?_cons_zero, List.getElem?_cons_succ, Z.set_z, Z.set_s, Option.some.injEq, L2.V.int.injEq, L2.V.bl.injEq, L2.V.str.injEq, L2.V.ref.injEq, L2.V.ty.injEq, List.cons.injEq, exists_eq_left', exists_and_left, exists_eq_left, exists_eq_right, exists_eq_right', exists_eq', exists_eq, true_and, and_true, and_assoc, decide_eq_true_eq, Int.reduceLT, and_self, Z.rIxH, Z.rIxU, Z.at30, Z.at31, Z.at32, Z.ix3_0, Z.ix3_1, Z.ix3_2, L2.rSetL, L2.gSub, Z.gTupH, L2.gCons, L2.gNil, L2.HO.lst.injEq, L2.HO.tup.injEq, L2.upd_same, L2.upd_upd, L2.tSl, L2.tNoPart, L2.tPart, L2.rSlL, L2.rCat, List.length_append, or_false, false_or, or_true, true_or, reduceCtorEq, false_and, and_false, exists_false, Int.reduceNeg, Int.reducePow, Int.reduceToNat, Int.reduceAbs, Int.reduceLE, Int.reduceMul, Int.reduceAdd, Int.reduceSub, Nat.reducePow, Nat.reduceLT, Nat.reduceLeDiff, Int.natAbs_natCast, if_true, if_false, Z.rIsN, Z.tyN, Z.kit_ii, Z.kit_bi, Z.kit_si, Z.kit_ni, Z.kit_ib, Z.kit_bb, Z.kit_sb, Z.kit_nb, Z.kit_is, Z.kit_bs, Z.kit_ss, Z.kit_ns, Bool.not_true, Bool.not_false, L2.tTup, L2.tLst, L2.wipe, L2.tYes, Z.Turn1, L2.tNever, sizeLine_eq, Z.rInU, Z.rInH, L2.flatV, List.any_cons, List.any_nil, List.all_cons, List.all_nil, Bool.and_true, Bool.true_and, Bool.or_false, Bool.false_or, Z.tBML, L2.rAppend, Z.map_int_inj, Z.map_bl_inj, Z.rTupL, Z.rLstL, Z.rLstT, Z.rSortI, Z.rAnyH, Z.rAllH, Z.rSumH, Z.rLenL, Z.rLenU, List.length_map, L2.tPar, StX.tStar, L2.tDNewT, L2.tDIn, L2.sDPut, L2.tDGet, Z.tCallK0, List.getD_cons_zero, List.getD_cons_succ]
      exact hN _ ⟨_, _, rfl⟩
    · rintro σ H' s ⟨m, y, rfl⟩
      simp only [L2.start, List.map_cons, List.map_nil, List.length_cons, List.length_nil, Nat.zero_add, Nat.reduceAdd, Nat.reduceSub, List.replicate_succ, List.replicate_zero, List.cons_append, List.nil_append, List.append_nil, L2.tSeq, L2.tNext, L2.tAsg, L2.gName, L2.tRet, L2.tRetN, L2.tIfS, L2.tVar, L2.tC, L2.tOp, L2.tUn, L2.rI, L2.rI0, L2.rU, L2.rEq, L2.rNe, L2.tTest, L2.tB, L2.tIf, Z.tIfCI, Z.tIfCS, L2.tChain, L2.tCons, L2.tNil, L2.tCall, L2.tDrop, L2.tAndV, L2.tOrV, L2.tNotV, L2.tAnd, L2.tOr, L2.tNot, L2.tCB, Z.sc_ii, Z.sc_ss, Z.sc_bb, Z.sc_is, Z.sc_si, Z.sc_ni, Z.sc_in, Z.sc_ns, Z.sc_sn, Z.sc_nn, L2.CDiv, L2.CPow, L2.CMul, List.getElem?_cons_zero, List.getElem?_cons_succ, Z.set_z, Z.set_s, Option.some.injEq, L2.V.int.injEq, L2.V.bl.injEq, L2.V.str.injEq, L2.V.ref.injEq, L2.V.ty.injEq, List.cons.injEq, exists_eq_left', exists_and_left, exists_eq_left, exists_eq_right, exists_eq_right', exists_eq', exists_eq, true_and, and_true, and_assoc, decide_eq_true_eq, Int.reduceLT, and_self, Z.rIxH, Z.rIxU, Z.at30, Z.at31, Z.at32, Z.ix3_0, Z.ix3_1, Z.ix3_2, L2.rSetL, L2.gSub, Z.gTupH, L2.gCons, L2.gNil, L2.HO.lst.injEq, L2.HO.tup.injEq, L2.upd_same, L2.upd_upd, L2.tSl, L2.tNoPart, L2.tPart, L2.rSlL, L2.rCat, List.length_append, or_false, false_or, or_true, true_or, reduceCtorEq, false_and, and_false, exists_false, Int.reduceNeg, Int.reducePow, Int.reduceToNat, Int.reduceAbs, Int.reduceLE, Int.reduceMul, Int.reduceAdd, Int.reduceSub, Nat.reducePow, Nat.reduceLT, Nat.reduceLeDiff, Int.natAbs_natCast, if_true, if_false, Z.rIsN, Z.tyN, Z.kit_ii, Z.kit_bi, Z.kit_si, Z.kit_ni, Z.kit_ib, Z.kit_bb, Z.kit_sb, Z.kit_nb, Z.kit_is, Z.kit_bs, Z.kit_ss, Z.kit_ns, Bool.not_true, Bool.not_false, L2.tTup, L2.tLst, L2.wipe, L2.tYes, Z.Turn1, L2.tNever, sizeLine_eq, Z.rInU, Z.rInH, L2.flatV, List.any_cons, List.any_nil, List.all_cons, List.all_nil, Bool.and_true, Bool.true_and, Bool.or_false, Bool.false_or, Z.tBML, L2.rAppend, Z.map_int_inj, Z.map_bl_inj, Z.rTupL, Z.rLstL, Z.rLstT, Z.rSortI, Z.rAnyH, Z.rAllH, Z.rSumH, Z.rLenL, Z.rLenU, List.length_map, L2.tPar, StX.tStar, L2.tDNewT, L2.tDIn, L2.sDPut, L2.tDGet, Z.tCallK0, List.getD_cons_zero, List.getD_cons_succ]
      have fin : ∀ z : Int, ∀ p : Addr, H' p = none → Q (.ref p) (upd H' p (.lst [.int z, .int m, .int 0])) := fun z p hp =>
        q p _ (s.free hp) (same_upd s (s.free hp)) ⟨z, m, 0, upd_same⟩
      repeat' split
      all_goals exact fun p hp => fin _ p hp
def sp__law_draw : Sp := fun vs H Q _ => ∃ (p : Addr) (n : Int), vs = [.ref p, .int n] ∧ Spring H p ∧ 0 < n ∧ n < 1073741824 ∧ ∀ d H', Kp p H H' → 0 ≤ d → d < n → Q (.int d) H'
theorem ok__law_draw (T : Env w K mg) : Hd P w K mg base CX0 1 "_law_draw" s__law_draw ["_law_spring_here", "_law_size"] sp__law_draw := by
  obtain ⟨f, fd, F, hm⟩ := T.d__law_draw
  refine ⟨⟨f, fd, F, hm, ?_⟩, fun _ _ _ _ _ _ _ us hl => match us, hl with | [_, _], _ => rfl⟩
  refine F.ok sc__law_draw (fun vs H Q E h => ?_) (fun cdv A outer s H vs Q E hr h => ?_)
  · first | (obtain ⟨rfl, _⟩ := h; rfl) | (obtain ⟨_, rfl, _⟩ := h; rfl) | (obtain ⟨_, _, rfl, _⟩ := h; rfl) | (obtain ⟨_, _, _, rfl, _⟩ := h; rfl) | (obtain ⟨_, _, _, _, rfl, _⟩ := h; rfl) | (obtain ⟨_, _, _, _, _, rfl, _⟩ := h; rfl) | (obtain ⟨_, _, _, _, _, _, rfl, _⟩ := h; rfl) | (obtain ⟨_, _, _, _, _, _, _, rfl, _⟩ := h; rfl) | (obtain ⟨_, _, _, _, _, _, _, _, rfl, _⟩ := h; rfl)
  · obtain ⟨p, n, rfl, ⟨a, b, c, hp⟩, hn, hn2, q⟩ := h
    have hu := hu_of hr
    refine ⟨_, pss_cons (ps_asg (pe_op op_add (pe_ix ix_listH (pv 0) pe_int (fun _ _ => rfl)) pe_int) (pg_sub (pv 0) pe_int set_list))
      (pss_cons (ps_asg (pe_op op_mod (pe_callTy call_int1 rfl T.b_int (by decide +kernel) (pa_cons (pe_op op_add (pe_op op_add (pe_op op_mul (pe_ix ix_listH (pv 0) pe_int (fun _ _ => rfl)) pe_int) (pe_op op_mul pe_int (pe_ix ix_listH (pv 0) pe_int (fun _ _ => rfl)))) pe_int) pa_nil)) pe_int) (pg_sub (pv 0) pe_int set_list))
      (pss_cons (ps_if (pt_cmpR op_gt (pe_ix ix_listH (pv 0) pe_int (fun _ _ => rfl)) pe_int (nomark _)) (pss_cons (ps_asg (pe_callB call_divmod rfl T.b_divmod (by decide +kernel) (pa_cons (pe_ix ix_listH (pv 0) pe_int (fun _ _ => rfl)) (pa_cons (pv 1) pa_nil))) (pg_tupH (n := 2) rfl (pgs_cons (pg_sub (pv 0) pe_int set_list) (pgs_cons (pg_name (i := 2) sc__law_draw.nd rfl (by first | exact .inl rfl | exact .inr rfl)) pgs_nil))))
      (pss_one (ps_ret (pv 2))))
      (pss_nil))
      (pss_cons (ps_set (i := 3) sc__law_draw.nd rfl (by first | exact .inl rfl | exact .inr rfl) (pe_op op_add (pe_ix ix_listH (pv 0) pe_int (fun _ _ => rfl)) pe_int))
      (pss_cons (ps_set (i := 4) sc__law_draw.nd rfl (by first | exact .inl rfl | exact .inr rfl) (pe_op op_mod (pe_callTy call_int1 rfl T.b_int (by decide +kernel) (pa_cons (pe_op op_add (pe_op op_mul (pv 3) (pe_ix ix_listH (pv 0) pe_int (fun _ _ => rfl))) (pe_ix ix_listH (pv 0) pe_int (fun _ _ => rfl))) pa_nil)) pe_int))
      (pss_one (ps_ret (pe_op op_mod (pe_callTy call_int1 rfl T.b_int (by decide +kernel) (pa_cons (pe_op op_fdiv (pv 4) pe_int) pa_nil)) (pv 1)))))))), ?_⟩
    simp only [L2.start, List.map_cons, List.map_nil, List.length_cons, List.length_nil, Nat.zero_add, Nat.reduceAdd, Nat.reduceSub, List.replicate_succ, List.replicate_zero, List.cons_append, List.nil_append, List.append_nil, L2.tSeq, L2.tNext, L2.tAsg, L2.gName, L2.tRet, L2.tRetN, L2.tIfS, L2.tVar, L2.tC, L2.tOp, L2.tUn, L2.rI, L2.rI0, L2.rU, L2.rEq, L2.rNe, L2.tTest, L2.tB, L2.tIf, Z.tIfCI, Z.tIfCS, L2.tChain, L2.tCons, L2.tNil, L2.tCall, L2.tDrop, L2.tAndV, L2.tOrV, L2.tNotV, L2.tAnd, L2.tOr, L2.tNot, L2.tCB, Z.sc_ii, Z.sc_ss, Z.sc_bb, Z.sc_is, Z.sc_si, Z.sc_ni, Z.sc_in, Z.sc_ns, Z.sc_sn, Z.sc_nn, L2.CDiv, L2.CPow, L2.CMul, List.getElem?_cons_zero, List.getElem?_cons_succ, Z.set_z, Z.set_s, Option.some.injEq, L2.V.int.injEq, L2.V.bl.injEq, L2.V.str.injEq, L2.V.ref.injEq, L2.V.ty.injEq, List.cons.injEq, exists_eq_left', exists_and_left, exists_eq_left, exists_eq_right, exists_eq_right', exists_eq', exists_eq, true_and, and_true, and_assoc, decide_eq_true_eq, Int.reduceLT, and_self, Z.rIxH, Z.rIxU, Z.at30, Z.at31, Z.at32, Z.ix3_0, Z.ix3_1, Z.ix3_2, L2.rSetL, L2.gSub, Z.gTupH, L2.gCons, L2.gNil, L2.HO.lst.injEq, L2.HO.tup.injEq, L2.upd_same, L2.upd_upd, L2.tSl, L2.tNoPart, L2.tPart, L2.rSlL, L2.rCat, List.length_append, or_false, false_or, or_true, true_or, reduceCtorEq, false_and, and_false, exists_false, Int.reduceNeg, Int.reducePow, Int.reduceToNat, Int.reduceAbs, Int.reduceLE, Int.reduceMul, Int.reduceAdd, Int.reduceSub, Nat.reducePow, Nat.reduceLT, Nat.reduceLeDiff, Int.natAbs_natCast, if_true, if_false, Z.rIsN, Z.tyN, Z.kit_ii, Z.kit_bi, Z.kit_si, Z.kit_ni, Z.kit_ib, Z.kit_bb, Z.kit_sb, Z.kit_nb, Z.kit_is, Z.kit_bs, Z.kit_ss, Z.kit_ns, Bool.not_true, Bool.not_false, L2.tTup, L2.tLst, L2.wipe, L2.tYes, Z.Turn1, L2.tNever, sizeLine_eq, Z.rInU, Z.rInH, L2.flatV, List.any_cons, List.any_nil, List.all_cons, List.all_nil, Bool.and_true, Bool.true_and, Bool.or_false, Bool.false_or, Z.tBML, L2.rAppend, Z.map_int_inj, Z.map_bl_inj, Z.rTupL, Z.rLstL, Z.rLstT, Z.rSortI, Z.rAnyH, Z.rAllH, Z.rSumH, Z.rLenL, Z.rLenU, List.length_map, L2.tPar, StX.tStar, L2.tDNewT, L2.tDIn, L2.sDPut, L2.tDGet, Z.tCallK0, List.getD_cons_zero, List.getD_cons_succ, hp]
    have kp1 : ∀ x y z : Int, Kp p H (upd H p (.lst [.int x, .int y, .int z])) := fun x y z => ⟨⟨x, y, z, upd_same⟩, fun b o nb e => by rw [upd_ne nb]; exact e⟩
    split
    · refine ⟨hn, hn2, fun t ht => ?_⟩
      have hpt : p ≠ t := ne_of_none (upd_same (H := H) (a := p)) ht
      refine ⟨_, by rw [upd_ne hpt, upd_same], 0, rfl, ?_⟩
      refine q _ _ ⟨⟨_, _, _, upd_same⟩, fun u o nu e => ?_⟩ (Int.emod_nonneg _ (by omega)) (Int.emod_lt_of_pos _ hn)
      have e2 : (upd H p (.lst [.int a, .int ((b * 69621 + 40503 * (c + 1) + 1) % 2147483647), .int (c + 1)])) u = some o := by rw [upd_ne nu]; exact e
      rw [upd_ne nu, upd_ne (ne_of_none e2 ht), e2]
    · exact ⟨by omega, hn, q _ _ (kp1 _ _ _) (Int.emod_nonneg _ (by omega)) (Int.emod_lt_of_pos _ hn)⟩
def sp__law_of : Sp := fun vs H Q _ => ∃ (p m : Addr) (xs : List V), vs = [.ref p, .ref m] ∧ Spring H p ∧ H m = some (.lst xs) ∧ m ≠ p ∧ 0 < xs.length ∧ xs.length < 1000 ∧ ∀ v H', Kp p H H' → v ∈ xs → Q v H'
theorem ok__law_of (T : Env w K mg) : Hd P w K mg base CX0 2 "_law_of" s__law_of ["_law_spring_here", "_law_menu"] sp__law_of := by
  have H__law_draw := ok__law_draw (P := P) (w := w) (base := base) T
  obtain ⟨f, fd, F, hm⟩ := T.d__law_of
  refine ⟨⟨f, fd, F, hm, ?_⟩, fun _ _ _ _ _ _ _ us hl => match us, hl with | [_, _], _ => rfl⟩
  refine F.ok sc__law_of (fun vs H Q E h => ?_) (fun cdv A outer s H vs Q E hr h => ?_)
  · first | (obtain ⟨rfl, _⟩ := h; rfl) | (obtain ⟨_, rfl, _⟩ := h; rfl) | (obtain ⟨_, _, rfl, _⟩ := h; rfl) | (obtain ⟨_, _, _, rfl, _⟩ := h; rfl) | (obtain ⟨_, _, _, _, rfl, _⟩ := h; rfl) | (obtain ⟨_, _, _, _, _, rfl, _⟩ := h; rfl) | (obtain ⟨_, _, _, _, _, _, rfl, _⟩ := h; rfl) | (obtain ⟨_, _, _, _, _, _, _, rfl, _⟩ := h; rfl) | (obtain ⟨_, _, _, _, _, _, _, _, rfl, _⟩ := h; rfl)
  · obtain ⟨p, m, xs, rfl, hp, hm, hne, h0, h1, q⟩ := h
    have hu := hu_of hr
    refine ⟨_, pss_one (ps_ret (pe_ix ix_listH (pv 1) (pe_hd H__law_draw (hr.mono (by decide)) rfl pass0 (pa_cons (pv 0) (pa_cons (pe_callB call_lenL rfl T.b_len (by decide +kernel) (pa_cons (pv 1) pa_nil)) pa_nil))) (fun _ _ => rfl))), ?_⟩
    simp only [L2.start, List.map_cons, List.map_nil, List.length_cons, List.length_nil, Nat.zero_add, Nat.reduceAdd, Nat.reduceSub, List.replicate_succ, List.replicate_zero, List.cons_append, List.nil_append, List.append_nil, L2.tSeq, L2.tNext, L2.tAsg, L2.gName, L2.tRet, L2.tRetN, L2.tIfS, L2.tVar, L2.tC, L2.tOp, L2.tUn, L2.rI, L2.rI0, L2.rU, L2.rEq, L2.rNe, L2.tTest, L2.tB, L2.tIf, Z.tIfCI, Z.tIfCS, L2.tChain, L2.tCons, L2.tNil, L2.tCall, L2.tDrop, L2.tAndV, L2.tOrV, L2.tNotV, L2.tAnd, L2.tOr, L2.tNot, L2.tCB, Z.sc_ii, Z.sc_ss, Z.sc_bb, Z.sc_is, Z.sc_si, Z.sc_ni, Z.sc_in, Z.sc_ns, Z.sc_sn, Z.sc_nn, L2.CDiv, L2.CPow, L2.CMul, List.getElem?_cons_zero, List.getElem?_cons_succ, Z.set_z, Z.set_s, Option.some.injEq, L2.V.int.injEq, L2.V.bl.injEq, L2.V.str.injEq, L2.V.ref.injEq, L2.V.ty.injEq, List.cons.injEq, exists_eq_left', exists_and_left, exists_eq_left, exists_eq_right, exists_eq_right', exists_eq', exists_eq, true_and, and_true, and_assoc, decide_eq_true_eq, Int.reduceLT, and_self, Z.rIxH, Z.rIxU, Z.at30, Z.at31, Z.at32, Z.ix3_0, Z.ix3_1, Z.ix3_2, L2.rSetL, L2.gSub, Z.gTupH, L2.gCons, L2.gNil, L2.HO.lst.injEq, L2.HO.tup.injEq, L2.upd_same, L2.upd_upd, L2.tSl, L2.tNoPart, L2.tPart, L2.rSlL, L2.rCat, List.length_append, or_false, false_or, or_true, true_or, reduceCtorEq, false_and, and_false, exists_false, Int.reduceNeg, Int.reducePow, Int.reduceToNat, Int.reduceAbs, Int.reduceLE, Int.reduceMul, Int.reduceAdd, Int.reduceSub, Nat.reducePow, Nat.reduceLT, Nat.reduceLeDiff, Int.natAbs_natCast, if_true, if_false, Z.rIsN, Z.tyN, Z.kit_ii, Z.kit_bi, Z.kit_si, Z.kit_ni, Z.kit_ib, Z.kit_bb, Z.kit_sb, Z.kit_nb, Z.kit_is, Z.kit_bs, Z.kit_ss, Z.kit_ns, Bool.not_true, Bool.not_false, L2.tTup, L2.tLst, L2.wipe, L2.tYes, Z.Turn1, L2.tNever, sizeLine_eq, Z.rInU, Z.rInH, L2.flatV, List.any_cons, List.any_nil, List.all_cons, List.all_nil, Bool.and_true, Bool.true_and, Bool.or_false, Bool.false_or, Z.tBML, L2.rAppend, Z.map_int_inj, Z.map_bl_inj, Z.rTupL, Z.rLstL, Z.rLstT, Z.rSortI, Z.rAnyH, Z.rAllH, Z.rSumH, Z.rLenL, Z.rLenU, List.length_map, L2.tPar, StX.tStar, L2.tDNewT, L2.tDIn, L2.sDPut, L2.tDGet, Z.tCallK0, List.getD_cons_zero, List.getD_cons_succ, sp__law_draw, hm]
    refine ⟨hp, by omega, by omega, fun d H' kp h2 h3 => ⟨xs, kp.keep _ _ hne hm, ?_⟩⟩
    obtain ⟨j, rfl⟩ : ∃ j : Nat, d = j := ⟨d.toNat, by omega⟩
    have hj : j < xs.length := by omega
    exact ⟨xs[j], atI_nat (List.getElem?_eq_getElem hj), q _ _ kp (List.getElem_mem hj)⟩

open Zig
def sp__law_nights : Sp := fun vs H Q _ => ∃ (r : Bool) (n : Int), vs = [.str (kindS r), .int n] ∧ Q (.int (nights r n)) H
theorem ok__law_nights (T : Env w K mg) : Hd P w K mg base CX0 1 "_law_nights" s__law_nights ["_law_sort_now", "_law_size"] sp__law_nights := by
  obtain ⟨f, fd, F, hm⟩ := T.d__law_nights
  refine ⟨⟨f, fd, F, hm, ?_⟩, fun _ _ _ _ _ _ _ us hl => match us, hl with | [_, _], _ => rfl⟩
  refine F.ok sc__law_nights (fun vs H Q E h => ?_) (fun cdv A outer s H vs Q E hr h => ?_)
  · first | (obtain ⟨rfl, _⟩ := h; rfl) | (obtain ⟨_, rfl, _⟩ := h; rfl) | (obtain ⟨_, _, rfl, _⟩ := h; rfl) | (obtain ⟨_, _, _, rfl, _⟩ := h; rfl) | (obtain ⟨_, _, _, _, rfl, _⟩ := h; rfl) | (obtain ⟨_, _, _, _, _, rfl, _⟩ := h; rfl) | (obtain ⟨_, _, _, _, _, _, rfl, _⟩ := h; rfl) | (obtain ⟨_, _, _, _, _, _, _, rfl, _⟩ := h; rfl) | (obtain ⟨_, _, _, _, _, _, _, _, rfl, _⟩ := h; rfl)
  · obtain ⟨r, n, rfl, q⟩ := h
    have hu := hu_of hr
    refine ⟨_, pss_one (ps_ret (pe_ifExp (pt_cmpR op_eq (pv 0) pe_str (nomark _)) (pe_op op_fdiv (pe_op op_sub (pv 1) pe_int) pe_int) (pe_op op_fdiv (pv 1) pe_int))), ?_⟩
    simp only [L2.start, List.map_cons, List.map_nil, List.length_cons, List.length_nil, Nat.zero_add, Nat.reduceAdd, Nat.reduceSub, List.replicate_succ, List.replicate_zero, List.cons_append, List.nil_append, List.append_nil, L2.tSeq, L2.tNext, L2.tAsg, L2.gName, L2.tRet, L2.tRetN, L2.tIfS, L2.tVar, L2.tC, L2.tOp, L2.tUn, L2.rI, L2.rI0, L2.rU, L2.rEq, L2.rNe, L2.tTest, L2.tB, L2.tIf, Z.tIfCI, Z.tIfCS, L2.tChain, L2.tCons, L2.tNil, L2.tCall, L2.tDrop, L2.tAndV, L2.tOrV, L2.tNotV, L2.tAnd, L2.tOr, L2.tNot, L2.tCB, Z.sc_ii, Z.sc_ss, Z.sc_bb, Z.sc_is, Z.sc_si, Z.sc_ni, Z.sc_in, Z.sc_ns, Z.sc_sn, Z.sc_nn, L2.CDiv, L2.CPow, L2.CMul, List.getElem?_cons_zero, List.getElem?_cons_succ, Z.set_z, Z.set_s, Option.some.injEq, L2.V.int.injEq, L2.V.bl.injEq, L2.V.str.injEq, L2.V.ref.injEq, L2.V.ty.injEq, List.cons.injEq, exists_eq_left', exists_and_left, exists_eq_left, exists_eq_right, exists_eq_right', exists_eq', exists_eq, true_and, and_true, and_assoc, decide_eq_true_eq, Int.reduceLT, and_self, Z.rIxH, Z.rIxU, Z.at30, Z.at31, Z.at32, Z.ix3_0, Z.ix3_1, Z.ix3_2, L2.rSetL, L2.gSub, Z.gTupH, L2.gCons, L2.gNil, L2.HO.lst.injEq, L2.HO.tup.injEq, L2.upd_same, L2.upd_upd, L2.tSl, L2.tNoPart, L2.tPart, L2.rSlL, L2.rCat, List.length_append, or_false, false_or, or_true, true_or, reduceCtorEq, false_and, and_false, exists_false, Int.reduceNeg, Int.reducePow, Int.reduceToNat, Int.reduceAbs, Int.reduceLE, Int.reduceMul, Int.reduceAdd, Int.reduceSub, Nat.reducePow, Nat.reduceLT, Nat.reduceLeDiff, Int.natAbs_natCast, if_true, if_false, Z.rIsN, Z.tyN, Z.kit_ii, Z.kit_bi, Z.kit_si, Z.kit_ni, Z.kit_ib, Z.kit_bb, Z.kit_sb, Z.kit_nb, Z.kit_is, Z.kit_bs, Z.kit_ss, Z.kit_ns, Bool.not_true, Bool.not_false, L2.tTup, L2.tLst, L2.wipe, L2.tYes, Z.Turn1, L2.tNever, sizeLine_eq, Z.rInU, Z.rInH, L2.flatV, List.any_cons, List.any_nil, List.all_cons, List.all_nil, Bool.and_true, Bool.true_and, Bool.or_false, Bool.false_or, Z.tBML, L2.rAppend, Z.map_int_inj, Z.map_bl_inj, Z.rTupL, Z.rLstL, Z.rLstT, Z.rSortI, Z.rAnyH, Z.rAllH, Z.rSumH, Z.rLenL, Z.rLenU, List.length_map, L2.tPar, StX.tStar, L2.tDNewT, L2.tDIn, L2.sDPut, L2.tDGet, Z.tCallK0, List.getD_cons_zero, List.getD_cons_succ, kind_eq]
    unfold nights at q
    split <;> simp_all
def sp__law_zigzag : Sp := fun vs H Q _ => ∃ (r : Bool) (n : Int), vs = [.str (kindS r), .int n] ∧ 1 < n ∧ n ≤ 100 ∧ ∀ D as H', H D = none → Same H H' → H' D = some (.lst (as.map V.ref)) → Paired (LstAt H') as (zz r n) → Q (.ref D) H'
theorem part_at {z e : Int} (j : Nat) : (((ups (j + 1)).map (personIn z e)).map V.int) = ((ups j).map (personIn z e)).map V.int ++ [V.int (personIn z e j)] := by
  rw [ups_succ, List.map_append, List.map_append]
  rfl
theorem ok__law_zigzag (T : Env w K mg) : Hd P w K mg base CX0 2 "_law_zigzag" s__law_zigzag ["_law_sort_now", "_law_size"] sp__law_zigzag := by
  have H__law_nights := ok__law_nights (P := P) (w := w) (base := base) T
  obtain ⟨f, fd, F, hm⟩ := T.d__law_zigzag
  refine ⟨⟨f, fd, F, hm, ?_⟩, fun _ _ _ _ _ _ _ us hl => match us, hl with | [_, _], _ => rfl⟩
  refine F.ok sc__law_zigzag (fun vs H Q E h => ?_) (fun cdv A outer s H vs Q E hr h => ?_)
  · first | (obtain ⟨rfl, _⟩ := h; rfl) | (obtain ⟨_, rfl, _⟩ := h; rfl) | (obtain ⟨_, _, rfl, _⟩ := h; rfl) | (obtain ⟨_, _, _, rfl, _⟩ := h; rfl) | (obtain ⟨_, _, _, _, rfl, _⟩ := h; rfl) | (obtain ⟨_, _, _, _, _, rfl, _⟩ := h; rfl) | (obtain ⟨_, _, _, _, _, _, rfl, _⟩ := h; rfl) | (obtain ⟨_, _, _, _, _, _, _, rfl, _⟩ := h; rfl) | (obtain ⟨_, _, _, _, _, _, _, _, rfl, _⟩ := h; rfl)
  · obtain ⟨r, n, rfl, h0, h1, q⟩ := h
    have hu := hu_of hr
    refine ⟨_, pss_cons (ps_par (i := 2) (j := 3) rfl sc__law_zigzag.nd rfl rfl (by decide) rfl rfl (pa_cons (pe_lst pa_nil) (pa_cons (pe_cutZ (pe_ifExp (pt_cmpR op_eq (pv 0) pe_str (nomark _)) (pe_op op_sub (pv 1) pe_int) (pv 1))) pa_nil)) (by rfl))
      (pss_cons (ps_for PassesOwn.never rfl (pi_range1 rfl T.b_range (pa_cons (pe_hd H__law_nights (hr.mono (by decide)) rfl pass0 (pa_cons (pv 0) (pa_cons (pv 1) pa_nil))) pa_nil)) (pg_name (i := 4) sc__law_zigzag.nd rfl (by first | exact .inl rfl | exact .inr rfl))
      (pss_cons (ps_set (i := 5) sc__law_zigzag.nd rfl (by first | exact .inl rfl | exact .inr rfl) (pe_lst (pa_cons (pv 4) pa_nil)))
      (pss_cons (ps_for PassesOwn.never rfl (pi_range2 rfl T.b_range (pa_cons pe_int (pa_cons (pv 3) pa_nil))) (pg_name (i := 6) sc__law_zigzag.nd rfl (by first | exact .inl rfl | exact .inr rfl))
      (pss_one (ps_expr (pe_bmL PySem.F.plainAttrs_list PySem.F.slot_list_append PySem.F.type_list_append mt_append (pv 5) (pa_cons (pe_op op_mod (pe_callTy call_int1 rfl T.b_int (by decide +kernel) (pa_cons (pe_op op_add (pe_ix ix_listH (pv 5) (pe_un un_neg pe_int) (fun _ _ => rfl)) (pe_ifExp (pt_cmpR op_eq (pe_op op_mod (pe_callTy call_int1 rfl T.b_int (by decide +kernel) (pa_cons (pv 6) pa_nil)) pe_int) pe_int (nomark _)) (pv 6) (pe_un un_neg (pv 6)))) pa_nil)) (pv 3)) pa_nil)))))
      (pss_one (ps_expr (pe_bmL PySem.F.plainAttrs_list PySem.F.slot_list_append PySem.F.type_list_append mt_append (pv 2) (pa_cons (pe_op op_cat (pe_cutZ (pe_ifExp (pt_cmpR op_eq (pv 0) pe_str (nomark _)) (pe_lst (pa_cons (pe_op op_sub (pv 1) pe_int) pa_nil)) (pe_lst pa_nil))) (pv 5)) pa_nil)))))))
      (pss_one (ps_ret (pv 2)))), ?_⟩
    simp only [L2.start, List.map_cons, List.map_nil, List.length_cons, List.length_nil, Nat.zero_add, Nat.reduceAdd, Nat.reduceSub, List.replicate_succ, List.replicate_zero, List.cons_append, List.nil_append, List.append_nil, L2.tNext, L2.tAsg, L2.gName, L2.tRet, L2.tRetN, L2.tIfS, L2.tVar, L2.tC, L2.tOp, L2.tUn, L2.rI, L2.rI0, L2.rU, L2.rEq, L2.rNe, L2.tTest, L2.tB, L2.tIf, Z.tIfCI, Z.tIfCS, L2.tChain, L2.tCons, L2.tNil, L2.tCall, L2.tDrop, L2.tAndV, L2.tOrV, L2.tNotV, L2.tAnd, L2.tOr, L2.tNot, L2.tCB, Z.sc_ii, Z.sc_ss, Z.sc_bb, Z.sc_is, Z.sc_si, Z.sc_ni, Z.sc_in, Z.sc_ns, Z.sc_sn, Z.sc_nn, L2.CDiv, L2.CPow, L2.CMul, List.getElem?_cons_zero, List.getElem?_cons_succ, Z.set_z, Z.set_s, Option.some.injEq, L2.V.int.injEq, L2.V.bl.injEq, L2.V.str.injEq, L2.V.ref.injEq, L2.V.ty.injEq, List.cons.injEq, exists_eq_left', exists_and_left, exists_eq_left, exists_eq_right, exists_eq_right', exists_eq', exists_eq, true_and, and_true, and_assoc, decide_eq_true_eq, Int.reduceLT, and_self, Z.rIxH, Z.rIxU, Z.at30, Z.at31, Z.at32, Z.ix3_0, Z.ix3_1, Z.ix3_2, L2.rSetL, L2.gSub, Z.gTupH, L2.gCons, L2.gNil, L2.HO.lst.injEq, L2.HO.tup.injEq, L2.upd_same, L2.upd_upd, L2.tSl, L2.tNoPart, L2.tPart, L2.rSlL, L2.rCat, List.length_append, or_false, false_or, or_true, true_or, reduceCtorEq, false_and, and_false, exists_false, Int.reduceNeg, Int.reducePow, Int.reduceToNat, Int.reduceAbs, Int.reduceLE, Int.reduceMul, Int.reduceAdd, Int.reduceSub, Nat.reducePow, Nat.reduceLT, Nat.reduceLeDiff, Int.natAbs_natCast, if_true, if_false, Z.rIsN, Z.tyN, Z.kit_ii, Z.kit_bi, Z.kit_si, Z.kit_ni, Z.kit_ib, Z.kit_bb, Z.kit_sb, Z.kit_nb, Z.kit_is, Z.kit_bs, Z.kit_ss, Z.kit_ns, Bool.not_true, Bool.not_false, L2.tTup, L2.tLst, L2.wipe, L2.tYes, Z.Turn1, L2.tNever, sizeLine_eq, Z.rInU, Z.rInH, L2.flatV, List.any_cons, List.any_nil, List.all_cons, List.all_nil, Bool.and_true, Bool.true_and, Bool.or_false, Bool.false_or, Z.tBML, L2.rAppend, Z.map_int_inj, Z.map_bl_inj, Z.rTupL, Z.rLstL, Z.rLstT, Z.rSortI, Z.rAnyH, Z.rAllH, Z.rSumH, Z.rLenL, Z.rLenU, List.length_map, L2.tPar, StX.tStar, L2.tDNewT, L2.tDIn, L2.sDPut, L2.tDGet, Z.tCallK0, List.getD_cons_zero, List.getD_cons_succ, sp__law_nights]
    refine z_seq ?_
    simp only [L2.start, List.map_cons, List.map_nil, List.length_cons, List.length_nil, Nat.zero_add, Nat.reduceAdd, Nat.reduceSub, List.replicate_succ, List.replicate_zero, List.cons_append, List.nil_append, List.append_nil, L2.tNext, L2.tAsg, L2.gName, L2.tRet, L2.tRetN, L2.tIfS, L2.tVar, L2.tC, L2.tOp, L2.tUn, L2.rI, L2.rI0, L2.rU, L2.rEq, L2.rNe, L2.tTest, L2.tB, L2.tIf, Z.tIfCI, Z.tIfCS, L2.tChain, L2.tCons, L2.tNil, L2.tCall, L2.tDrop, L2.tAndV, L2.tOrV, L2.tNotV, L2.tAnd, L2.tOr, L2.tNot, L2.tCB, Z.sc_ii, Z.sc_ss, Z.sc_bb, Z.sc_is, Z.sc_si, Z.sc_ni, Z.sc_in, Z.sc_ns, Z.sc_sn, Z.sc_nn, L2.CDiv, L2.CPow, L2.CMul, List.getElem?_cons_zero, List.getElem?_cons_succ, Z.set_z, Z.set_s, Option.some.injEq, L2.V.int.injEq, L2.V.bl.injEq, L2.V.str.injEq, L2.V.ref.injEq, L2.V.ty.injEq, List.cons.injEq, exists_eq_left', exists_and_left, exists_eq_left, exists_eq_right, exists_eq_right', exists_eq', exists_eq, true_and, and_true, and_assoc, decide_eq_true_eq, Int.reduceLT, and_self, Z.rIxH, Z.rIxU, Z.at30, Z.at31, Z.at32, Z.ix3_0, Z.ix3_1, Z.ix3_2, L2.rSetL, L2.gSub, Z.gTupH, L2.gCons, L2.gNil, L2.HO.lst.injEq, L2.HO.tup.injEq, L2.upd_same, L2.upd_upd, L2.tSl, L2.tNoPart, L2.tPart, L2.rSlL, L2.rCat, List.length_append, or_false, false_or, or_true, true_or, reduceCtorEq, false_and, and_false, exists_false, Int.reduceNeg, Int.reducePow, Int.reduceToNat, Int.reduceAbs, Int.reduceLE, Int.reduceMul, Int.reduceAdd, Int.reduceSub, Nat.reducePow, Nat.reduceLT, Nat.reduceLeDiff, Int.natAbs_natCast, if_true, if_false, Z.rIsN, Z.tyN, Z.kit_ii, Z.kit_bi, Z.kit_si, Z.kit_ni, Z.kit_ib, Z.kit_bb, Z.kit_sb, Z.kit_nb, Z.kit_is, Z.kit_bs, Z.kit_ss, Z.kit_ns, Bool.not_true, Bool.not_false, L2.tTup, L2.tLst, L2.wipe, L2.tYes, Z.Turn1, L2.tNever, sizeLine_eq, Z.rInU, Z.rInH, L2.flatV, List.any_cons, List.any_nil, List.all_cons, List.all_nil, Bool.and_true, Bool.true_and, Bool.or_false, Bool.false_or, Z.tBML, L2.rAppend, Z.map_int_inj, Z.map_bl_inj, Z.rTupL, Z.rLstL, Z.rLstT, Z.rSortI, Z.rAnyH, Z.rAllH, Z.rSumH, Z.rLenL, Z.rLenU, List.length_map, L2.tPar, StX.tStar, L2.tDNewT, L2.tDIn, L2.sDPut, L2.tDGet, Z.tCallK0, List.getD_cons_zero, List.getD_cons_succ, sp__law_nights]
    intro D hD
    refine ⟨fun v H1 => v = .int (if r = true then n - 1 else n) ∧ H1 = upd H D (.lst []), ?_, ?_⟩
    · simp only [L2.start, List.map_cons, List.map_nil, List.length_cons, List.length_nil, Nat.zero_add, Nat.reduceAdd, Nat.reduceSub, List.replicate_succ, List.replicate_zero, List.cons_append, List.nil_append, List.append_nil, L2.tNext, L2.tAsg, L2.gName, L2.tRet, L2.tRetN, L2.tIfS, L2.tVar, L2.tC, L2.tOp, L2.tUn, L2.rI, L2.rI0, L2.rU, L2.rEq, L2.rNe, L2.tTest, L2.tB, L2.tIf, Z.tIfCI, Z.tIfCS, L2.tChain, L2.tCons, L2.tNil, L2.tCall, L2.tDrop, L2.tAndV, L2.tOrV, L2.tNotV, L2.tAnd, L2.tOr, L2.tNot, L2.tCB, Z.sc_ii, Z.sc_ss, Z.sc_bb, Z.sc_is, Z.sc_si, Z.sc_ni, Z.sc_in, Z.sc_ns, Z.sc_sn, Z.sc_nn, L2.CDiv, L2.CPow, L2.CMul, List.getElem?_cons_zero, List.getElem?_cons_succ, Z.set_z, Z.set_s, Option.some.injEq, L2.V.int.injEq, L2.V.bl.injEq, L2.V.str.injEq, L2.V.ref.injEq, L2.V.ty.injEq, List.cons.injEq, exists_eq_left', exists_and_left, exists_eq_left, exists_eq_right, exists_eq_right', exists_eq', exists_eq, true_and, and_true, and_assoc, decide_eq_true_eq, Int.reduceLT, and_self, Z.rIxH, Z.rIxU, Z.at30, Z.at31, Z.at32, Z.ix3_0, Z.ix3_1, Z.ix3_2, L2.rSetL, L2.gSub, Z.gTupH, L2.gCons, L2.gNil, L2.HO.lst.injEq, L2.HO.tup.injEq, L2.upd_same, L2.upd_upd, L2.tSl, L2.tNoPart, L2.tPart, L2.rSlL, L2.rCat, List.length_append, or_false, false_or, or_true, true_or, reduceCtorEq, false_and, and_false, exists_false, Int.reduceNeg, Int.reducePow, Int.reduceToNat, Int.reduceAbs, Int.reduceLE, Int.reduceMul, Int.reduceAdd, Int.reduceSub, Nat.reducePow, Nat.reduceLT, Nat.reduceLeDiff, Int.natAbs_natCast, if_true, if_false, Z.rIsN, Z.tyN, Z.kit_ii, Z.kit_bi, Z.kit_si, Z.kit_ni, Z.kit_ib, Z.kit_bb, Z.kit_sb, Z.kit_nb, Z.kit_is, Z.kit_bs, Z.kit_ss, Z.kit_ns, Bool.not_true, Bool.not_false, L2.tTup, L2.tLst, L2.wipe, L2.tYes, Z.Turn1, L2.tNever, sizeLine_eq, Z.rInU, Z.rInH, L2.flatV, List.any_cons, List.any_nil, List.all_cons, List.all_nil, Bool.and_true, Bool.true_and, Bool.or_false, Bool.false_or, Z.tBML, L2.rAppend, Z.map_int_inj, Z.map_bl_inj, Z.rTupL, Z.rLstL, Z.rLstT, Z.rSortI, Z.rAnyH, Z.rAllH, Z.rSumH, Z.rLenL, Z.rLenU, List.length_map, L2.tPar, StX.tStar, L2.tDNewT, L2.tDIn, L2.sDPut, L2.tDGet, Z.tCallK0, List.getD_cons_zero, List.getD_cons_succ, sp__law_nights, kind_eq]
      split <;> (first | exact ⟨rfl, rfl⟩ | rfl | simp_all)
    · rintro v H1 ⟨rfl, rfl⟩
      refine z_seq ?_
      have hk := nights_le (r := r) h0
      generalize hz : (if r = true then n - 1 else n) = z
      have hz1 : 0 < z ∧ z ≤ n ∧ nights r n ≤ z := by
        rw [← hz]
        unfold nights
        split <;> omega
      refine for_rng (n := nights r n) (fun R h => ?_) (by omega) (fun i σ H' => ∃ v4 v5 v6 D as, σ = [some (.str (kindS r)), some (.int n), some (.ref D), some (.int z), v4, v5, v6] ∧ Same H H' ∧ H D = none ∧ H' D = some (.lst (as.map V.ref)) ∧ D ∉ as ∧ as.length = i ∧ Paired (LstAt H') as ((ups i).map (evL r n))) ⟨_, _, _, D, [], rfl, same_new hD, hD, upd_same, List.not_mem_nil, rfl, .nil⟩ ?_ ?_
      · simp only [L2.start, List.map_cons, List.map_nil, List.length_cons, List.length_nil, Nat.zero_add, Nat.reduceAdd, Nat.reduceSub, List.replicate_succ, List.replicate_zero, List.cons_append, List.nil_append, List.append_nil, L2.tNext, L2.tAsg, L2.gName, L2.tRet, L2.tRetN, L2.tIfS, L2.tVar, L2.tC, L2.tOp, L2.tUn, L2.rI, L2.rI0, L2.rU, L2.rEq, L2.rNe, L2.tTest, L2.tB, L2.tIf, Z.tIfCI, Z.tIfCS, L2.tChain, L2.tCons, L2.tNil, L2.tCall, L2.tDrop, L2.tAndV, L2.tOrV, L2.tNotV, L2.tAnd, L2.tOr, L2.tNot, L2.tCB, Z.sc_ii, Z.sc_ss, Z.sc_bb, Z.sc_is, Z.sc_si, Z.sc_ni, Z.sc_in, Z.sc_ns, Z.sc_sn, Z.sc_nn, L2.CDiv, L2.CPow, L2.CMul, List.getElem?_cons_zero, List.getElem?_cons_succ, Z.set_z, Z.set_s, Option.some.injEq, L2.V.int.injEq, L2.V.bl.injEq, L2.V.str.injEq, L2.V.ref.injEq, L2.V.ty.injEq, List.cons.injEq, exists_eq_left', exists_and_left, exists_eq_left, exists_eq_right, exists_eq_right', exists_eq', exists_eq, true_and, and_true, and_assoc, decide_eq_true_eq, Int.reduceLT, and_self, Z.rIxH, Z.rIxU, Z.at30, Z.at31, Z.at32, Z.ix3_0, Z.ix3_1, Z.ix3_2, L2.rSetL, L2.gSub, Z.gTupH, L2.gCons, L2.gNil, L2.HO.lst.injEq, L2.HO.tup.injEq, L2.upd_same, L2.upd_upd, L2.tSl, L2.tNoPart, L2.tPart, L2.rSlL, L2.rCat, List.length_append, or_false, false_or, or_true, true_or, reduceCtorEq, false_and, and_false, exists_false, Int.reduceNeg, Int.reducePow, Int.reduceToNat, Int.reduceAbs, Int.reduceLE, Int.reduceMul, Int.reduceAdd, Int.reduceSub, Nat.reducePow, Nat.reduceLT, Nat.reduceLeDiff, Int.natAbs_natCast, if_true, if_false, Z.rIsN, Z.tyN, Z.kit_ii, Z.kit_bi, Z.kit_si, Z.kit_ni, Z.kit_ib, Z.kit_bb, Z.kit_sb, Z.kit_nb, Z.kit_is, Z.kit_bs, Z.kit_ss, Z.kit_ns, Bool.not_true, Bool.not_false, L2.tTup, L2.tLst, L2.wipe, L2.tYes, Z.Turn1, L2.tNever, sizeLine_eq, Z.rInU, Z.rInH, L2.flatV, List.any_cons, List.any_nil, List.all_cons, List.all_nil, Bool.and_true, Bool.true_and, Bool.or_false, Bool.false_or, Z.tBML, L2.rAppend, Z.map_int_inj, Z.map_bl_inj, Z.rTupL, Z.rLstL, Z.rLstT, Z.rSortI, Z.rAnyH, Z.rAllH, Z.rSumH, Z.rLenL, Z.rLenU, List.length_map, L2.tPar, StX.tStar, L2.tDNewT, L2.tDIn, L2.sDPut, L2.tDGet, Z.tCallK0, List.getD_cons_zero, List.getD_cons_succ, sp__law_nights, kind_inj]
        exact h
      · rintro i σ H0 hi ⟨v4, v5, v6, D, as, rfl, s0, hD, eD, nD, hl, pr⟩
        simp only [L2.start, List.map_cons, List.map_nil, List.length_cons, List.length_nil, Nat.zero_add, Nat.reduceAdd, Nat.reduceSub, List.replicate_succ, List.replicate_zero, List.cons_append, List.nil_append, List.append_nil, L2.tNext, L2.tAsg, L2.gName, L2.tRet, L2.tRetN, L2.tIfS, L2.tVar, L2.tC, L2.tOp, L2.tUn, L2.rI, L2.rI0, L2.rU, L2.rEq, L2.rNe, L2.tTest, L2.tB, L2.tIf, Z.tIfCI, Z.tIfCS, L2.tChain, L2.tCons, L2.tNil, L2.tCall, L2.tDrop, L2.tAndV, L2.tOrV, L2.tNotV, L2.tAnd, L2.tOr, L2.tNot, L2.tCB, Z.sc_ii, Z.sc_ss, Z.sc_bb, Z.sc_is, Z.sc_si, Z.sc_ni, Z.sc_in, Z.sc_ns, Z.sc_sn, Z.sc_nn, L2.CDiv, L2.CPow, L2.CMul, List.getElem?_cons_zero, List.getElem?_cons_succ, Z.set_z, Z.set_s, Option.some.injEq, L2.V.int.injEq, L2.V.bl.injEq, L2.V.str.injEq, L2.V.ref.injEq, L2.V.ty.injEq, List.cons.injEq, exists_eq_left', exists_and_left, exists_eq_left, exists_eq_right, exists_eq_right', exists_eq', exists_eq, true_and, and_true, and_assoc, decide_eq_true_eq, Int.reduceLT, and_self, Z.rIxH, Z.rIxU, Z.at30, Z.at31, Z.at32, Z.ix3_0, Z.ix3_1, Z.ix3_2, L2.rSetL, L2.gSub, Z.gTupH, L2.gCons, L2.gNil, L2.HO.lst.injEq, L2.HO.tup.injEq, L2.upd_same, L2.upd_upd, L2.tSl, L2.tNoPart, L2.tPart, L2.rSlL, L2.rCat, List.length_append, or_false, false_or, or_true, true_or, reduceCtorEq, false_and, and_false, exists_false, Int.reduceNeg, Int.reducePow, Int.reduceToNat, Int.reduceAbs, Int.reduceLE, Int.reduceMul, Int.reduceAdd, Int.reduceSub, Nat.reducePow, Nat.reduceLT, Nat.reduceLeDiff, Int.natAbs_natCast, if_true, if_false, Z.rIsN, Z.tyN, Z.kit_ii, Z.kit_bi, Z.kit_si, Z.kit_ni, Z.kit_ib, Z.kit_bb, Z.kit_sb, Z.kit_nb, Z.kit_is, Z.kit_bs, Z.kit_ss, Z.kit_ns, Bool.not_true, Bool.not_false, L2.tTup, L2.tLst, L2.wipe, L2.tYes, Z.Turn1, L2.tNever, sizeLine_eq, Z.rInU, Z.rInH, L2.flatV, List.any_cons, List.any_nil, List.all_cons, List.all_nil, Bool.and_true, Bool.true_and, Bool.or_false, Bool.false_or, Z.tBML, L2.rAppend, Z.map_int_inj, Z.map_bl_inj, Z.rTupL, Z.rLstL, Z.rLstT, Z.rSortI, Z.rAnyH, Z.rAllH, Z.rSumH, Z.rLenL, Z.rLenU, List.length_map, L2.tPar, StX.tStar, L2.tDNewT, L2.tDIn, L2.sDPut, L2.tDGet, Z.tCallK0, List.getD_cons_zero, List.getD_cons_succ, sp__law_nights]
        refine z_seq ?_
        simp only [L2.start, List.map_cons, List.map_nil, List.length_cons, List.length_nil, Nat.zero_add, Nat.reduceAdd, Nat.reduceSub, List.replicate_succ, List.replicate_zero, List.cons_append, List.nil_append, List.append_nil, L2.tNext, L2.tAsg, L2.gName, L2.tRet, L2.tRetN, L2.tIfS, L2.tVar, L2.tC, L2.tOp, L2.tUn, L2.rI, L2.rI0, L2.rU, L2.rEq, L2.rNe, L2.tTest, L2.tB, L2.tIf, Z.tIfCI, Z.tIfCS, L2.tChain, L2.tCons, L2.tNil, L2.tCall, L2.tDrop, L2.tAndV, L2.tOrV, L2.tNotV, L2.tAnd, L2.tOr, L2.tNot, L2.tCB, Z.sc_ii, Z.sc_ss, Z.sc_bb, Z.sc_is, Z.sc_si, Z.sc_ni, Z.sc_in, Z.sc_ns, Z.sc_sn, Z.sc_nn, L2.CDiv, L2.CPow, L2.CMul, List.getElem?_cons_zero, List.getElem?_cons_succ, Z.set_z, Z.set_s, Option.some.injEq, L2.V.int.injEq, L2.V.bl.injEq, L2.V.str.injEq, L2.V.ref.injEq, L2.V.ty.injEq, List.cons.injEq, exists_eq_left', exists_and_left, exists_eq_left, exists_eq_right, exists_eq_right', exists_eq', exists_eq, true_and, and_true, and_assoc, decide_eq_true_eq, Int.reduceLT, and_self, Z.rIxH, Z.rIxU, Z.at30, Z.at31, Z.at32, Z.ix3_0, Z.ix3_1, Z.ix3_2, L2.rSetL, L2.gSub, Z.gTupH, L2.gCons, L2.gNil, L2.HO.lst.injEq, L2.HO.tup.injEq, L2.upd_same, L2.upd_upd, L2.tSl, L2.tNoPart, L2.tPart, L2.rSlL, L2.rCat, List.length_append, or_false, false_or, or_true, true_or, reduceCtorEq, false_and, and_false, exists_false, Int.reduceNeg, Int.reducePow, Int.reduceToNat, Int.reduceAbs, Int.reduceLE, Int.reduceMul, Int.reduceAdd, Int.reduceSub, Nat.reducePow, Nat.reduceLT, Nat.reduceLeDiff, Int.natAbs_natCast, if_true, if_false, Z.rIsN, Z.tyN, Z.kit_ii, Z.kit_bi, Z.kit_si, Z.kit_ni, Z.kit_ib, Z.kit_bb, Z.kit_sb, Z.kit_nb, Z.kit_is, Z.kit_bs, Z.kit_ss, Z.kit_ns, Bool.not_true, Bool.not_false, L2.tTup, L2.tLst, L2.wipe, L2.tYes, Z.Turn1, L2.tNever, sizeLine_eq, Z.rInU, Z.rInH, L2.flatV, List.any_cons, List.any_nil, List.all_cons, List.all_nil, Bool.and_true, Bool.true_and, Bool.or_false, Bool.false_or, Z.tBML, L2.rAppend, Z.map_int_inj, Z.map_bl_inj, Z.rTupL, Z.rLstL, Z.rLstT, Z.rSortI, Z.rAnyH, Z.rAllH, Z.rSumH, Z.rLenL, Z.rLenU, List.length_map, L2.tPar, StX.tStar, L2.tDNewT, L2.tDIn, L2.sDPut, L2.tDGet, Z.tCallK0, List.getD_cons_zero, List.getD_cons_succ, sp__law_nights]
        intro S hS
        have s1 : Same H0 (upd H0 S (.lst [.int i])) := same_new hS
        have hSD : S ≠ D := by
          rintro rfl
          rw [eD] at hS
          cases hS
        refine z_seq ?_
        refine for_rng2 (lo := 1) (hi := z) (fun R h => ?_) (by omega) (fun j σ H' => ∃ v6, σ = [some (.str (kindS r)), some (.int n), some (.ref D), some (.int z), some (.int i), some (.ref S), v6] ∧ (∀ b o, b ≠ S → H0 b = some o → H' b = some o) ∧ H' S = some (.lst (((ups ((j : Int) + 1)).map (personIn z i)).map V.int))) ⟨_, rfl, fun b o _ e => s1 _ _ e, ?_⟩ ?_ ?_
        · simp only [L2.start, List.map_cons, List.map_nil, List.length_cons, List.length_nil, Nat.zero_add, Nat.reduceAdd, Nat.reduceSub, List.replicate_succ, List.replicate_zero, List.cons_append, List.nil_append, List.append_nil, L2.tNext, L2.tAsg, L2.gName, L2.tRet, L2.tRetN, L2.tIfS, L2.tVar, L2.tC, L2.tOp, L2.tUn, L2.rI, L2.rI0, L2.rU, L2.rEq, L2.rNe, L2.tTest, L2.tB, L2.tIf, Z.tIfCI, Z.tIfCS, L2.tChain, L2.tCons, L2.tNil, L2.tCall, L2.tDrop, L2.tAndV, L2.tOrV, L2.tNotV, L2.tAnd, L2.tOr, L2.tNot, L2.tCB, Z.sc_ii, Z.sc_ss, Z.sc_bb, Z.sc_is, Z.sc_si, Z.sc_ni, Z.sc_in, Z.sc_ns, Z.sc_sn, Z.sc_nn, L2.CDiv, L2.CPow, L2.CMul, List.getElem?_cons_zero, List.getElem?_cons_succ, Z.set_z, Z.set_s, Option.some.injEq, L2.V.int.injEq, L2.V.bl.injEq, L2.V.str.injEq, L2.V.ref.injEq, L2.V.ty.injEq, List.cons.injEq, exists_eq_left', exists_and_left, exists_eq_left, exists_eq_right, exists_eq_right', exists_eq', exists_eq, true_and, and_true, and_assoc, decide_eq_true_eq, Int.reduceLT, and_self, Z.rIxH, Z.rIxU, Z.at30, Z.at31, Z.at32, Z.ix3_0, Z.ix3_1, Z.ix3_2, L2.rSetL, L2.gSub, Z.gTupH, L2.gCons, L2.gNil, L2.HO.lst.injEq, L2.HO.tup.injEq, L2.upd_same, L2.upd_upd, L2.tSl, L2.tNoPart, L2.tPart, L2.rSlL, L2.rCat, List.length_append, or_false, false_or, or_true, true_or, reduceCtorEq, false_and, and_false, exists_false, Int.reduceNeg, Int.reducePow, Int.reduceToNat, Int.reduceAbs, Int.reduceLE, Int.reduceMul, Int.reduceAdd, Int.reduceSub, Nat.reducePow, Nat.reduceLT, Nat.reduceLeDiff, Int.natAbs_natCast, if_true, if_false, Z.rIsN, Z.tyN, Z.kit_ii, Z.kit_bi, Z.kit_si, Z.kit_ni, Z.kit_ib, Z.kit_bb, Z.kit_sb, Z.kit_nb, Z.kit_is, Z.kit_bs, Z.kit_ss, Z.kit_ns, Bool.not_true, Bool.not_false, L2.tTup, L2.tLst, L2.wipe, L2.tYes, Z.Turn1, L2.tNever, sizeLine_eq, Z.rInU, Z.rInH, L2.flatV, List.any_cons, List.any_nil, List.all_cons, List.all_nil, Bool.and_true, Bool.true_and, Bool.or_false, Bool.false_or, Z.tBML, L2.rAppend, Z.map_int_inj, Z.map_bl_inj, Z.rTupL, Z.rLstL, Z.rLstT, Z.rSortI, Z.rAnyH, Z.rAllH, Z.rSumH, Z.rLenL, Z.rLenU, List.length_map, L2.tPar, StX.tStar, L2.tDNewT, L2.tDIn, L2.sDPut, L2.tDGet, Z.tCallK0, List.getD_cons_zero, List.getD_cons_succ, sp__law_nights]
          exact h
        · rw [upd_same, part_at 0]
          show some (HO.lst [V.int i]) = some (HO.lst [V.int (personIn z i 0)])
          rw [personIn_zero (by omega) (by omega)]
        · rintro j σ H2 hj ⟨v6, rfl, k2, e2⟩
          simp only [L2.start, List.map_cons, List.map_nil, List.length_cons, List.length_nil, Nat.zero_add, Nat.reduceAdd, Nat.reduceSub, List.replicate_succ, List.replicate_zero, List.cons_append, List.nil_append, List.append_nil, L2.tNext, L2.tAsg, L2.gName, L2.tRet, L2.tRetN, L2.tIfS, L2.tVar, L2.tC, L2.tOp, L2.tUn, L2.rI, L2.rI0, L2.rU, L2.rEq, L2.rNe, L2.tTest, L2.tB, L2.tIf, Z.tIfCI, Z.tIfCS, L2.tChain, L2.tCons, L2.tNil, L2.tCall, L2.tDrop, L2.tAndV, L2.tOrV, L2.tNotV, L2.tAnd, L2.tOr, L2.tNot, L2.tCB, Z.sc_ii, Z.sc_ss, Z.sc_bb, Z.sc_is, Z.sc_si, Z.sc_ni, Z.sc_in, Z.sc_ns, Z.sc_sn, Z.sc_nn, L2.CDiv, L2.CPow, L2.CMul, List.getElem?_cons_zero, List.getElem?_cons_succ, Z.set_z, Z.set_s, Option.some.injEq, L2.V.int.injEq, L2.V.bl.injEq, L2.V.str.injEq, L2.V.ref.injEq, L2.V.ty.injEq, List.cons.injEq, exists_eq_left', exists_and_left, exists_eq_left, exists_eq_right, exists_eq_right', exists_eq', exists_eq, true_and, and_true, and_assoc, decide_eq_true_eq, Int.reduceLT, and_self, Z.rIxH, Z.rIxU, Z.at30, Z.at31, Z.at32, Z.ix3_0, Z.ix3_1, Z.ix3_2, L2.rSetL, L2.gSub, Z.gTupH, L2.gCons, L2.gNil, L2.HO.lst.injEq, L2.HO.tup.injEq, L2.upd_same, L2.upd_upd, L2.tSl, L2.tNoPart, L2.tPart, L2.rSlL, L2.rCat, List.length_append, or_false, false_or, or_true, true_or, reduceCtorEq, false_and, and_false, exists_false, Int.reduceNeg, Int.reducePow, Int.reduceToNat, Int.reduceAbs, Int.reduceLE, Int.reduceMul, Int.reduceAdd, Int.reduceSub, Nat.reducePow, Nat.reduceLT, Nat.reduceLeDiff, Int.natAbs_natCast, if_true, if_false, Z.rIsN, Z.tyN, Z.kit_ii, Z.kit_bi, Z.kit_si, Z.kit_ni, Z.kit_ib, Z.kit_bb, Z.kit_sb, Z.kit_nb, Z.kit_is, Z.kit_bs, Z.kit_ss, Z.kit_ns, Bool.not_true, Bool.not_false, L2.tTup, L2.tLst, L2.wipe, L2.tYes, Z.Turn1, L2.tNever, sizeLine_eq, Z.rInU, Z.rInH, L2.flatV, List.any_cons, List.any_nil, List.all_cons, List.all_nil, Bool.and_true, Bool.true_and, Bool.or_false, Bool.false_or, Z.tBML, L2.rAppend, Z.map_int_inj, Z.map_bl_inj, Z.rTupL, Z.rLstL, Z.rLstT, Z.rSortI, Z.rAnyH, Z.rAllH, Z.rSumH, Z.rLenL, Z.rLenU, List.length_map, L2.tPar, StX.tStar, L2.tDNewT, L2.tDIn, L2.sDPut, L2.tDGet, Z.tCallK0, List.getD_cons_zero, List.getD_cons_succ, sp__law_nights]
          have st := personIn_step (z := z) (e := i) (k := 1 + j) (by omega)
          rw [show (1 + (j : Int) - 1) = j by omega] at st
          have ej : ((j + 1 : Nat) : Int) = 1 + (j : Int) := by omega
          have hlen : (((ups ((j : Int) + 1)).map (personIn z i)).map V.int).length < 16777216 := by
            rw [List.length_map, List.length_map, ups_len]
            omega
          have hk : ∀ v : Int, ∀ b o, b ≠ S → H0 b = some o → upd H2 S (HO.lst (((ups ((j : Int) + 1)).map (personIn z i)).map V.int ++ [V.int v])) b = some o := fun v b o nb e => by
            rw [upd_ne nb]
            exact k2 b o nb e
          refine ⟨_, e2, _, e2, .int (personIn z i j), by rw [part_at]; exact Z.atI_last _ _, ?_⟩
          by_cases c : (1 + (j : Int)) % 2 = 1
          · rw [if_pos c] at st
            rw [if_pos c]
            refine ⟨_, rfl, hz1.1, _, e2, hlen, hk _, ?_⟩
            rw [part_at (j + 1), st, ej, Int.add_comm]
          · rw [if_neg c] at st
            rw [if_neg c]
            refine ⟨_, rfl, hz1.1, _, e2, hlen, hk _, ?_⟩
            rw [part_at (j + 1), st, ej, Int.add_comm]
        · rintro σ H2 ⟨v6, rfl, k2, e2⟩
          simp only [L2.start, List.map_cons, List.map_nil, List.length_cons, List.length_nil, Nat.zero_add, Nat.reduceAdd, Nat.reduceSub, List.replicate_succ, List.replicate_zero, List.cons_append, List.nil_append, List.append_nil, L2.tNext, L2.tAsg, L2.gName, L2.tRet, L2.tRetN, L2.tIfS, L2.tVar, L2.tC, L2.tOp, L2.tUn, L2.rI, L2.rI0, L2.rU, L2.rEq, L2.rNe, L2.tTest, L2.tB, L2.tIf, Z.tIfCI, Z.tIfCS, L2.tChain, L2.tCons, L2.tNil, L2.tCall, L2.tDrop, L2.tAndV, L2.tOrV, L2.tNotV, L2.tAnd, L2.tOr, L2.tNot, L2.tCB, Z.sc_ii, Z.sc_ss, Z.sc_bb, Z.sc_is, Z.sc_si, Z.sc_ni, Z.sc_in, Z.sc_ns, Z.sc_sn, Z.sc_nn, L2.CDiv, L2.CPow, L2.CMul, List.getElem?_cons_zero, List.getElem?_cons_succ, Z.set_z, Z.set_s, Option.some.injEq, L2.V.int.injEq, L2.V.bl.injEq, L2.V.str.injEq, L2.V.ref.injEq, L2.V.ty.injEq, List.cons.injEq, exists_eq_left', exists_and_left, exists_eq_left, exists_eq_right, exists_eq_right', exists_eq', exists_eq, true_and, and_true, and_assoc, decide_eq_true_eq, Int.reduceLT, and_self, Z.rIxH, Z.rIxU, Z.at30, Z.at31, Z.at32, Z.ix3_0, Z.ix3_1, Z.ix3_2, L2.rSetL, L2.gSub, Z.gTupH, L2.gCons, L2.gNil, L2.HO.lst.injEq, L2.HO.tup.injEq, L2.upd_same, L2.upd_upd, L2.tSl, L2.tNoPart, L2.tPart, L2.rSlL, L2.rCat, List.length_append, or_false, false_or, or_true, true_or, reduceCtorEq, false_and, and_false, exists_false, Int.reduceNeg, Int.reducePow, Int.reduceToNat, Int.reduceAbs, Int.reduceLE, Int.reduceMul, Int.reduceAdd, Int.reduceSub, Nat.reducePow, Nat.reduceLT, Nat.reduceLeDiff, Int.natAbs_natCast, if_true, if_false, Z.rIsN, Z.tyN, Z.kit_ii, Z.kit_bi, Z.kit_si, Z.kit_ni, Z.kit_ib, Z.kit_bb, Z.kit_sb, Z.kit_nb, Z.kit_is, Z.kit_bs, Z.kit_ss, Z.kit_ns, Bool.not_true, Bool.not_false, L2.tTup, L2.tLst, L2.wipe, L2.tYes, Z.Turn1, L2.tNever, sizeLine_eq, Z.rInU, Z.rInH, L2.flatV, List.any_cons, List.any_nil, List.all_cons, List.all_nil, Bool.and_true, Bool.true_and, Bool.or_false, Bool.false_or, Z.tBML, L2.rAppend, Z.map_int_inj, Z.map_bl_inj, Z.rTupL, Z.rLstL, Z.rLstT, Z.rSortI, Z.rAnyH, Z.rAllH, Z.rSumH, Z.rLenL, Z.rLenU, List.length_map, L2.tPar, StX.tStar, L2.tDNewT, L2.tDIn, L2.sDPut, L2.tDGet, Z.tCallK0, List.getD_cons_zero, List.getD_cons_succ, sp__law_nights]
          rw [show (((z - 1).toNat : Nat) : Int) + 1 = z by omega] at e2
          have e3 := k2 D _ (Ne.symm hSD) eD
          refine ⟨_, e3, fun v H1 => ∃ T, v = .ref T ∧ H2 T = none ∧ H1 = upd H2 T (lstO (if r = true then [n - 1] else [])), ?_, ?_⟩
          · simp only [L2.start, List.map_cons, List.map_nil, List.length_cons, List.length_nil, Nat.zero_add, Nat.reduceAdd, Nat.reduceSub, List.replicate_succ, List.replicate_zero, List.cons_append, List.nil_append, List.append_nil, L2.tNext, L2.tAsg, L2.gName, L2.tRet, L2.tRetN, L2.tIfS, L2.tVar, L2.tC, L2.tOp, L2.tUn, L2.rI, L2.rI0, L2.rU, L2.rEq, L2.rNe, L2.tTest, L2.tB, L2.tIf, Z.tIfCI, Z.tIfCS, L2.tChain, L2.tCons, L2.tNil, L2.tCall, L2.tDrop, L2.tAndV, L2.tOrV, L2.tNotV, L2.tAnd, L2.tOr, L2.tNot, L2.tCB, Z.sc_ii, Z.sc_ss, Z.sc_bb, Z.sc_is, Z.sc_si, Z.sc_ni, Z.sc_in, Z.sc_ns, Z.sc_sn, Z.sc_nn, L2.CDiv, L2.CPow, L2.CMul, List.getElem?_cons_zero, List.getElem?_cons_succ, Z.set_z, Z.set_s, Option.some.injEq, L2.V.int.injEq, L2.V.bl.injEq, L2.V.str.injEq, L2.V.ref.injEq, L2.V.ty.injEq, List.cons.injEq, exists_eq_left', exists_and_left, exists_eq_left, exists_eq_right, exists_eq_right', exists_eq', exists_eq, true_and, and_true, and_assoc, decide_eq_true_eq, Int.reduceLT, and_self, Z.rIxH, Z.rIxU, Z.at30, Z.at31, Z.at32, Z.ix3_0, Z.ix3_1, Z.ix3_2, L2.rSetL, L2.gSub, Z.gTupH, L2.gCons, L2.gNil, L2.HO.lst.injEq, L2.HO.tup.injEq, L2.upd_same, L2.upd_upd, L2.tSl, L2.tNoPart, L2.tPart, L2.rSlL, L2.rCat, List.length_append, or_false, false_or, or_true, true_or, reduceCtorEq, false_and, and_false, exists_false, Int.reduceNeg, Int.reducePow, Int.reduceToNat, Int.reduceAbs, Int.reduceLE, Int.reduceMul, Int.reduceAdd, Int.reduceSub, Nat.reducePow, Nat.reduceLT, Nat.reduceLeDiff, Int.natAbs_natCast, if_true, if_false, Z.rIsN, Z.tyN, Z.kit_ii, Z.kit_bi, Z.kit_si, Z.kit_ni, Z.kit_ib, Z.kit_bb, Z.kit_sb, Z.kit_nb, Z.kit_is, Z.kit_bs, Z.kit_ss, Z.kit_ns, Bool.not_true, Bool.not_false, L2.tTup, L2.tLst, L2.wipe, L2.tYes, Z.Turn1, L2.tNever, sizeLine_eq, Z.rInU, Z.rInH, L2.flatV, List.any_cons, List.any_nil, List.all_cons, List.all_nil, Bool.and_true, Bool.true_and, Bool.or_false, Bool.false_or, Z.tBML, L2.rAppend, Z.map_int_inj, Z.map_bl_inj, Z.rTupL, Z.rLstL, Z.rLstT, Z.rSortI, Z.rAnyH, Z.rAllH, Z.rSumH, Z.rLenL, Z.rLenU, List.length_map, L2.tPar, StX.tStar, L2.tDNewT, L2.tDIn, L2.sDPut, L2.tDGet, Z.tCallK0, List.getD_cons_zero, List.getD_cons_succ, sp__law_nights, kind_eq]
            cases r
            · rw [if_neg Bool.false_ne_true]
              first | exact fun T hT => ⟨T, rfl, hT, rfl⟩ | exact fun T hT => ⟨hT, rfl⟩
            · rw [if_pos rfl]
              first | exact fun T hT => ⟨T, rfl, hT, rfl⟩ | exact fun T hT => ⟨hT, rfl⟩
          · rintro v H1 ⟨T, rfl, hT, rfl⟩
            have hTD := ne_of_none e3 hT
            have hTS := ne_of_none e2 hT
            have e4 : upd H2 T (lstO (if r = true then [n - 1] else [])) S = some (.lst (((ups z).map (personIn z i)).map V.int)) := by
              rw [upd_ne hTS]
              exact e2
            refine ⟨T, rfl, _, upd_same, _, e4, ?_, fun p hp => ?_⟩
            · rw [List.length_map, List.length_map, List.length_map, ups_len]
              have : (if r = true then [n - 1] else []).length ≤ 1 := by
                split
                · exact Nat.le_refl 1
                · exact Nat.zero_le 1
              omega
            · have ev : (if r = true then [n - 1] else []).map V.int ++ ((ups z).map (personIn z i)).map V.int = (evL r n i).map V.int := by
                rw [← List.map_append]
                congr 1
                cases r
                · rw [evL_rows, ← hz]
                  rfl
                · rw [evL_rings (by omega), ← hz]
                  rfl
              rw [ev]
              have hpT : T ≠ p := ne_of_none upd_same hp
              have hp2 : H2 p = none := by
                rw [← upd_ne (H := H2) (o := lstO (if r = true then [n - 1] else [])) (Ne.symm hpT)]
                exact hp
              have hpD := ne_of_none e3 hp2
              have hpS := ne_of_none e2 hp2
              have kk : ∀ b o, b ≠ D → b ≠ S → H0 b = some o → upd (upd (upd H2 T (lstO (if r = true then [n - 1] else []))) p (HO.lst ((evL r n i).map V.int))) D (HO.lst (as.map V.ref ++ [V.ref p])) b = some o := fun b o nb ns e => by
                have e5 := k2 b o ns e
                rw [upd_ne nb, upd_ne (ne_of_none e5 hp2), upd_ne (ne_of_none e5 hT)]
                exact e5
              refine ⟨_, by rw [upd_ne hpD, upd_ne hTD]; exact e3, by rw [List.length_map]; omega, fun b o e => ?_, hD, as ++ [p], by rw [List.map_append]; rfl, ?_, by rw [List.length_append, hl]; rfl, ?_⟩
              · have e5 := s0 _ _ e
                exact kk b o (ne_of_none e hD) (ne_of_none e5 hS) e5
              · intro m
                rcases List.mem_append.mp m with m | m
                · exact nD m
                · exact hpD (List.mem_singleton.mp m)
              · rw [show ((i + 1 : Nat) : Int) = (i : Int) + 1 by omega, ups_succ, List.map_append]
                refine paired_app (paired_monoM (fun a ha l e => ?_) pr) (.cons ?_ .nil)
                · exact kk a _ (fun z => nD (by rw [← z]; exact ha)) (ne_of_none e hS) e
                · show upd _ D _ p = _
                  rw [upd_ne (Ne.symm hpD), upd_same]
      · rintro σ H' ⟨v4, v5, v6, D, as, rfl, s0, hD, eD, nD, hl, pr⟩
        simp only [L2.start, List.map_cons, List.map_nil, List.length_cons, List.length_nil, Nat.zero_add, Nat.reduceAdd, Nat.reduceSub, List.replicate_succ, List.replicate_zero, List.cons_append, List.nil_append, List.append_nil, L2.tNext, L2.tAsg, L2.gName, L2.tRet, L2.tRetN, L2.tIfS, L2.tVar, L2.tC, L2.tOp, L2.tUn, L2.rI, L2.rI0, L2.rU, L2.rEq, L2.rNe, L2.tTest, L2.tB, L2.tIf, Z.tIfCI, Z.tIfCS, L2.tChain, L2.tCons, L2.tNil, L2.tCall, L2.tDrop, L2.tAndV, L2.tOrV, L2.tNotV, L2.tAnd, L2.tOr, L2.tNot, L2.tCB, Z.sc_ii, Z.sc_ss, Z.sc_bb, Z.sc_is, Z.sc_si, Z.sc_ni, Z.sc_in, Z.sc_ns, Z.sc_sn, Z.sc_nn, L2.CDiv, L2.CPow, L2.CMul, List.getElem?_cons_zero, List.getElem?_cons_succ, Z.set_z, Z.set_s, Option.some.injEq, L2.V.int.injEq, L2.V.bl.injEq, L2.V.str.injEq, L2.V.ref.injEq, L2.V.ty.injEq, List.cons.injEq, exists_eq_left', exists_and_left, exists_eq_left, exists_eq_right, exists_eq_right', exists_eq', exists_eq, true_and, and_true, and_assoc, decide_eq_true_eq, Int.reduceLT, and_self, Z.rIxH, Z.rIxU, Z.at30, Z.at31, Z.at32, Z.ix3_0, Z.ix3_1, Z.ix3_2, L2.rSetL, L2.gSub, Z.gTupH, L2.gCons, L2.gNil, L2.HO.lst.injEq, L2.HO.tup.injEq, L2.upd_same, L2.upd_upd, L2.tSl, L2.tNoPart, L2.tPart, L2.rSlL, L2.rCat, List.length_append, or_false, false_or, or_true, true_or, reduceCtorEq, false_and, and_false, exists_false, Int.reduceNeg, Int.reducePow, Int.reduceToNat, Int.reduceAbs, Int.reduceLE, Int.reduceMul, Int.reduceAdd, Int.reduceSub, Nat.reducePow, Nat.reduceLT, Nat.reduceLeDiff, Int.natAbs_natCast, if_true, if_false, Z.rIsN, Z.tyN, Z.kit_ii, Z.kit_bi, Z.kit_si, Z.kit_ni, Z.kit_ib, Z.kit_bb, Z.kit_sb, Z.kit_nb, Z.kit_is, Z.kit_bs, Z.kit_ss, Z.kit_ns, Bool.not_true, Bool.not_false, L2.tTup, L2.tLst, L2.wipe, L2.tYes, Z.Turn1, L2.tNever, sizeLine_eq, Z.rInU, Z.rInH, L2.flatV, List.any_cons, List.any_nil, List.all_cons, List.all_nil, Bool.and_true, Bool.true_and, Bool.or_false, Bool.false_or, Z.tBML, L2.rAppend, Z.map_int_inj, Z.map_bl_inj, Z.rTupL, Z.rLstL, Z.rLstT, Z.rSortI, Z.rAnyH, Z.rAllH, Z.rSumH, Z.rLenL, Z.rLenU, List.length_map, L2.tPar, StX.tStar, L2.tDNewT, L2.tDIn, L2.sDPut, L2.tDGet, Z.tCallK0, List.getD_cons_zero, List.getD_cons_succ, sp__law_nights]
        rw [show (((nights r n).toNat : Nat) : Int) = nights r n by omega] at pr
        exact q D as H' hD s0 eD pr

open Zig
def CertP (r : Bool) (n : Int) (H : Hp) (v : V) : Prop := ∃ t c u A as, v = .ref t ∧ H t = some (.tup [.ref c, .ref u]) ∧ H c = some (.tup [.str "party", .str (kindS r), .int n, .ref A]) ∧ H u = some (.tup []) ∧ H A = some (.tup (as.map V.ref)) ∧ Paired (TupAt H) as (zz r n)
theorem CertP.same {r : Bool} {n : Int} {H H' : Hp} {v : V} (h : CertP r n H v) (s : Same H H') : CertP r n H' v := by
  obtain ⟨t, c, u, A, as, e, h1, h2, h3, h4, h5⟩ := h
  exact ⟨t, c, u, A, as, e, s _ _ h1, s _ _ h2, s _ _ h3, s _ _ h4, tups_same s h5⟩
/-- known to a depth -/
def KnownK : Nat → Hp → V → Prop
  | 0, H, x => Known H x
  | 1, H, x => Known2 H x
  | _, H, x => Known3 H x
theorem KnownK.same {k : Nat} {H H' : Hp} {x : V} (h : KnownK k H x) (s : Same H H') : KnownK k H' x := by
  match k, h with
  | 0, h => exact Known.same h s
  | 1, h => exact Known2.same h s
  | _ + 2, h => exact Known3.same h s
theorem KnownK.flat {k : Nat} {H : Hp} {x : V} (h : Known H x) (hr : rowOf H x = none) : KnownK k H x := by
  match k with
  | 0 => exact h
  | 1 => exact ⟨h, fun xs e => by rw [hr] at e; cases e⟩
  | _ + 2 => exact ⟨h, fun xs e => by rw [hr] at e; cases e⟩
theorem KnownK.tup {k : Nat} {H : Hp} {a : Addr} {xs : List V} (ha : H a = some (.tup xs)) (hl : xs.length ≤ 1000) (h : ∀ x ∈ xs, KnownK (k - 1) H x) : KnownK k H (.ref a) := by
  have hr := rowOf_tup ha
  match k, h with
  | 0, h => exact known_tup ha
  | 1, h => exact ⟨known_tup ha, fun ys e => by
      rw [hr] at e
      cases e
      exact ⟨hl, h⟩⟩
  | 2, h => exact ⟨known_tup ha, fun ys e => by
      rw [hr] at e
      cases e
      exact ⟨hl, h⟩⟩
  | k + 3, h => exact ⟨known_tup ha, fun ys e => by
      rw [hr] at e
      cases e
      refine ⟨hl, fun x hx => ?_⟩
      have h3 : Known3 H x := h x hx
      exact ⟨h3.1, fun zs ez => ⟨(h3.2 zs ez).1, fun z hz => ((h3.2 zs ez).2 z hz).1⟩⟩⟩
/-- an expression that makes a known value and changes nothing -/
def GE (k : Nat) (te : TE) : Prop := ∀ σ H Q, (∀ v H', Same H H' → KnownK k H' v → Q v H') → te σ H Q
def GA (k n : Nat) (ta : TA) : Prop := ∀ σ H Q, (∀ vs H', Same H H' → (∀ x ∈ vs, KnownK k H' x) → vs.length = n → Q vs H') → ta σ H Q
theorem GA.nil {k : Nat} : GA k 0 tNil := fun σ H Q h => h [] H (Same.refl _) (fun _ m => absurd m List.not_mem_nil) rfl
theorem GA.cons {k n : Nat} {te : TE} {ta : TA} (a : GE k te) (b : GA k n ta) : GA k (n + 1) (tCons te ta) := fun σ H Q h =>
  a σ H _ fun v H1 s1 k1 => b σ H1 _ fun vs H2 s2 k2 l2 => h (v :: vs) H2 (s1.trans s2) (fun x m => by
    rcases List.mem_cons.mp m with rfl | m
    · exact k1.same s2
    · exact k2 x m) (by rw [List.length_cons, l2])
theorem GE.int {k : Nat} {i : Int} : GE k (tC (.int i)) := fun σ H Q h => h _ H (Same.refl _) (.flat (known_int i) rfl)
theorem GE.str {k : Nat} {z : Str} : GE k (tC (.str z)) := fun σ H Q h => h _ H (Same.refl _) (.flat (known_str z) rfl)
theorem GE.bl {k : Nat} {b : Bool} : GE k (tC (.bl b)) := fun σ H Q h => h _ H (Same.refl _) (.flat (known_bl b) rfl)
theorem GE.non {k : Nat} : GE k (tC .non) := fun σ H Q h => h _ H (Same.refl _) (.flat known_non rfl)
theorem GE.neg {k : Nat} {i : Int} : GE k (tUn (rU fun i => V.int (-i)) (tC (.int i))) := fun σ H Q h => by
  simp only [L2.tUn, L2.rU, L2.tC, L2.V.int.injEq, exists_eq_left']
  exact h _ H (Same.refl _) (.flat (known_int _) rfl)
theorem GE.pow {k : Nat} {i j : Int} (c : CPow i j) : GE k (tOp (rI CPow fun i j => V.int (i ^ j.toNat)) (tC (.int i)) (tC (.int j))) := fun σ H Q h => by
  simp only [L2.tOp, L2.rI, L2.tC, L2.V.int.injEq, exists_and_left, exists_eq_left', exists_eq_left]
  exact ⟨c, h _ H (Same.refl _) (.flat (known_int _) rfl)⟩
theorem sz1000 {n : Nat} (h : n ≤ 1000) : n ≤ sizeLine := by
  rw [sizeLine_eq]
  omega
theorem GE.tup {k n : Nat} {ta : TA} (a : GA (k - 1) n ta) (hn : n ≤ 1000) : GE k (tTup ta) := fun σ H Q h =>
  a σ H _ fun vs H1 s1 k1 l1 => ⟨sz1000 (by omega), fun p hp => h _ _ (same_upd s1 (s1.free hp)) (.tup upd_same (by omega) fun x hx => (k1 x hx).same (same_new hp))⟩
theorem row_lst {H : Hp} {a : Addr} {xs : List V} (h : H a = some (.lst xs)) : rowOf H (.ref a) = none := by
  simp only [rowOf, h]
theorem GE.lst {k n : Nat} {ta : TA} (a : GA 0 n ta) (hn : n ≤ 1000) : GE k (tLst ta) := fun σ H Q h =>
  a σ H _ fun vs H1 s1 k1 l1 => ⟨sz1000 (by omega), fun p hp => h _ _ (same_upd s1 (s1.free hp)) (.flat (known_lst upd_same) (row_lst upd_same))⟩
theorem known_dK {H : Hp} {a : Addr} {kvs : List (Key × V)} (h : H a = some (.dK kvs)) : Known H (.ref a) := ⟨"dict", by simp only [tyN, h], by decide⟩
theorem row_dK {H : Hp} {a : Addr} {kvs : List (Key × V)} (h : H a = some (.dK kvs)) : rowOf H (.ref a) = none := by
  simp only [rowOf, h]
theorem GE.dnew {k : Nat} : GE k tDNewK := fun σ H Q h p hp => h _ _ (same_new hp) (.flat (known_dK upd_same) (row_dK upd_same))
theorem GE.disp1 {k : Nat} {x : Str} {i : Int} : GE k (tDisp [(tC (.str x), tC (.int i))]) := fun σ H Q h p hp =>
  ⟨upd_same, [(.inr x, .int i)], rfl, by show 1 ≤ 15; decide, by
    rw [upd_upd]
    exact h _ _ (same_new hp) (.flat (known_dK upd_same) (row_dK upd_same))⟩
theorem GE.tup0 {k : Nat} : GE k (tTup tNil) := GE.tup (n := 0) .nil (by decide)
theorem GE.tup1 {k : Nat} {a : TE} (x : GE (k - 1) a) : GE k (tTup (tCons a tNil)) := GE.tup (n := 1) (.cons x .nil) (by decide)
theorem GE.tup2 {k : Nat} {a b : TE} (x : GE (k - 1) a) (y : GE (k - 1) b) : GE k (tTup (tCons a (tCons b tNil))) := GE.tup (n := 2) (.cons x (.cons y .nil)) (by decide)
theorem GE.tup3 {k : Nat} {a b c : TE} (x : GE (k - 1) a) (y : GE (k - 1) b) (z : GE (k - 1) c) : GE k (tTup (tCons a (tCons b (tCons c tNil)))) := GE.tup (n := 3) (.cons x (.cons y (.cons z .nil))) (by decide)
theorem GE.tup4 {k : Nat} {a b c d : TE} (x : GE (k - 1) a) (y : GE (k - 1) b) (z : GE (k - 1) c) (u : GE (k - 1) d) : GE k (tTup (tCons a (tCons b (tCons c (tCons d tNil))))) := GE.tup (n := 4) (.cons x (.cons y (.cons z (.cons u .nil)))) (by decide)
theorem GE.lst0 {k : Nat} : GE k (tLst tNil) := GE.lst (n := 0) .nil (by decide)
theorem GE.lst1 {k : Nat} {a : TE} (x : GE 0 a) : GE k (tLst (tCons a tNil)) := GE.lst (n := 1) (.cons x .nil) (by decide)
/-- a list display of such values -/
theorem lst_good {σ : L2.St} {H : Hp} {Q : VK} {ta : TA} {k n : Nat} (g : GA k n ta) (h : ∀ vs H1 p, Same H H1 → H p = none → H1 p = some (.lst vs) → (∀ x ∈ vs, KnownK k H1 x) → vs.length = n → Q (.ref p) H1) (hn : n ≤ 500 := by decide) : tLst ta σ H Q :=
  g σ H _ fun vs H1 s1 k1 l1 => ⟨sz1000 (by omega), fun p hp => h vs _ p (same_upd s1 (s1.free hp)) (s1.free hp) upd_same (fun x hx => (k1 x hx).same (same_new hp)) l1⟩
/-- such a list and more of them -/
theorem cat_good {σ : L2.St} {H : Hp} {Q : VK} {ta : TA} {k n i : Nat} {a : Addr} {xs : List V} (hσ : σ[i]? = some (some (.ref a))) (ha : H a = some (.lst xs)) (kx : ∀ x ∈ xs, KnownK k H x) (hx : xs.length ≤ 500) (g : GA k n ta)
    (h : ∀ ys H1 p, Same H H1 → H p = none → H1 p = some (.lst ys) → (∀ x ∈ ys, KnownK k H1 x) → ys.length = xs.length + n → Q (.ref p) H1) (hn : n ≤ 500 := by decide) : tOp rCat (tVar i) (tLst ta) σ H Q := by
  refine ⟨_, hσ, ?_⟩
  refine lst_good g (fun vs H1 p s1 hp e1 k1 l1 => ?_) hn
  refine ⟨a, p, xs, vs, rfl, rfl, s1 _ _ ha, e1, sz1000 (by omega), fun q hq => ?_⟩
  refine h _ _ q (same_upd s1 (s1.free hq)) (s1.free hq) upd_same (fun x hx2 => ?_) (by rw [List.length_append, l1])
  rcases List.mem_append.mp hx2 with m | m
  · exact ((kx x m).same s1).same (same_new hq)
  · exact (k1 x m).same (same_new hq)
/-- drawing changes no value's kind -/
theorem Known.kp {p : Addr} {H H' : Hp} {x : V} (h : Known H x) (k : Kp p H H') (sp : Spring H p) : Known H' x ∧ rowOf H' x = rowOf H x := by
  cases x with
  | ref a =>
    by_cases c : a = p
    · subst c
      obtain ⟨x, y, z, e⟩ := sp
      obtain ⟨x', y', z', e'⟩ := k.sp
      exact ⟨known_lst e', by rw [row_lst e, row_lst e']⟩
    · obtain ⟨t, ht, hm⟩ := h
      simp only [tyN] at ht
      cases e : H a with
      | none =>
        rw [e] at ht
        cases ht
      | some o =>
        have e' := k.keep a o c e
        refine ⟨⟨t, ?_, hm⟩, ?_⟩
        · simp only [tyN]
          rw [e']
          rw [e] at ht
          exact ht
        · simp only [rowOf]
          rw [e, e']
  | _ => exact ⟨h, rfl⟩
theorem Known2.kp {p : Addr} {H H' : Hp} {x : V} (h : Known2 H x) (k : Kp p H H') (sp : Spring H p) : Known2 H' x := by
  obtain ⟨h1, h2⟩ := h.1.kp k sp
  refine ⟨h1, fun xs e => ?_⟩
  rw [h2] at e
  exact ⟨(h.2 xs e).1, fun z hz => (((h.2 xs e).2 z hz).kp k sp).1⟩
theorem Known3.kp {p : Addr} {H H' : Hp} {x : V} (h : Known3 H x) (k : Kp p H H') (sp : Spring H p) : Known3 H' x := by
  obtain ⟨h1, h2⟩ := h.1.kp k sp
  refine ⟨h1, fun xs e => ?_⟩
  rw [h2] at e
  exact ⟨(h.2 xs e).1, fun z hz => ((h.2 xs e).2 z hz).kp k sp⟩

theorem known_party {H : Hp} {A : Addr} {as : List Addr} {ls : List (List Int)} (hA : H A = some (.tup (as.map V.ref))) (pA : Paired (TupAt H) as ls) (h1 : ls.length ≤ 1000) (h2 : ∀ l ∈ ls, l.length ≤ 1000) : Known3 H (.ref A) := by
  refine KnownK.tup (k := 2) hA (by rw [List.length_map, paired_len pA]; exact h1) fun x hx => ?_
  obtain ⟨b, hb, rfl⟩ := List.mem_map.mp hx
  obtain ⟨m, hm, fb⟩ := paired_mem pA b hb
  refine KnownK.tup (k := 1) fb (by rw [List.length_map]; exact h2 m hm) fun y hy => ?_
  obtain ⟨i, _, rfl⟩ := List.mem_map.mp hy
  exact known_int i

theorem people_ok {n : Int} {H : Hp} {w : WR} : ∀ (rows : List V) (e : Int), peopleFrom n H e rows w = .ok → w = .ok
  | [], _, h => h
  | z :: rows, e, h => by
    rw [peopleFrom_cons] at h
    split at h
    · exact people_ok rows (e + 1) h
    · cases h
theorem ok_from {r : Bool} {n : Int} {H : Hp} {A : Addr} {as : List Addr} {ls : List (List Int)} (hA : H A = some (.tup (as.map V.ref))) (pA : Paired (TupAt H) as ls) (h : wrongR r H (.int n) (.ref A) = .ok) : wrongFrom r [] 0 ls = .ok := by
  rw [wrongR_int, rowOf_tup hA] at h
  unfold wrongE at h
  dsimp only at h
  rw [rows_of pA] at h
  split at h
  · split at h
    · exact people_ok _ _ h
    · cases h
  · cases h
theorem cutV_take {xs : List V} {c : Nat} (h : c ≤ xs.length) : cutV xs none (some (c : Int)) = xs.take c := by
  unfold cutV
  rw [HT.sIx_nat, HT.sIx_none, Nat.min_eq_left h, List.drop_zero, Nat.sub_zero]
theorem cutV_drop {xs : List V} {c : Nat} (h : c ≤ xs.length) : cutV xs (some (c : Int)) none = xs.drop c := by
  unfold cutV
  rw [HT.sIx_nat, HT.sIx_none, Nat.min_eq_left h, List.take_of_length_le (by rw [List.length_drop]; exact Nat.le_refl _)]
theorem cutV_all {xs : List V} {lo hi : Option Int} (h : HT.sIx xs.length 0 lo = 0 ∧ HT.sIx xs.length xs.length hi = xs.length) : cutV xs lo hi = xs := by
  unfold cutV
  rw [h.1, h.2, List.drop_zero, Nat.sub_zero, List.take_length]
theorem paired_set {α β : Type} {F : α → β → Prop} {x : α} {y : β} (h : F x y) : ∀ {as : List α} {bs : List β} (i : Nat), Paired F as bs → Paired F (as.set i x) (bs.set i y)
  | _, _, _, .nil => .nil
  | _, _, 0, .cons f r => .cons h r
  | _, _, i + 1, .cons f r => .cons f (paired_set h i r)
/-- due[:e] + (new,) + due[e + 1:] -/
theorem cat_cut {K : PySem.W.Frag} {H : Hp} {A b : Addr} {as : List Addr} {e : Nat} {Q : VK} {x : V} (hA : H A = some (.tup (as.map V.ref))) (he : e < as.length) (h1000 : as.length ≤ 1000)
    (hx : ∃ a, x = .ref a ∧ H a = some (.tup ((as.take e).map V.ref ++ [.ref b]))) (q : ∀ B H', Same H H' → H' B = some (.tup ((as.set e b).map V.ref)) → Q (.ref B) H') :
    rSlA K (.ref A) (some ((e : Int) + 1)) none H fun y H1 => rCatA K x y H1 Q := by
  obtain ⟨a, rfl, ha⟩ := hx
  have hcut : cutV (as.map V.ref) (some ((e : Int) + 1)) none = (as.drop (e + 1)).map V.ref := by
    rw [show (e : Int) + 1 = ((e + 1 : Nat) : Int) by omega, cutV_drop (by rw [List.length_map]; omega), List.map_drop]
  have hset : (as.set e b).map V.ref = ((as.take e).map V.ref ++ [.ref b]) ++ (as.drop (e + 1)).map V.ref := by
    rw [List.set_eq_take_append_cons_drop, if_pos he, List.map_append, List.map_cons, List.append_assoc]
    rfl
  have main : ∀ (y : V) (H1 : Hp), Same H H1 → (∃ c, y = .ref c ∧ H1 c = some (.tup ((as.drop (e + 1)).map V.ref))) → rCatA K (.ref a) y H1 Q := fun y H1 s ⟨c, hy, hc⟩ => by
    subst hy
    have ha1 := s _ _ ha
    refine ⟨a, c, _, _, rfl, rfl, SqT.of ha1, SqT.of hc, ?_, fun z => ?_, fun _ z => ?_, fun _ _ p hp => ?_⟩
    · rw [sizeLine_eq, List.length_append, List.length_map, List.length_map, List.length_take, List.length_drop]
      show _ + 1 + _ ≤ _
      omega
    · exact absurd z (by simp)
    · refine q a H1 s ?_
      rw [hset, z, List.append_nil]
      exact ha1
    · refine q p _ (same_upd s (s.free hp)) ?_
      rw [hset, upd_same]
  refine ⟨A, _, rfl, SqT.of hA, fun z => main _ _ (Same.refl _) ⟨A, rfl, ?_⟩, fun _ p hp => main _ _ (same_new hp) ⟨p, rfl, by rw [upd_same, hcut]⟩⟩
  rw [← hcut, cutV_all z]
  exact hA
/-- due[:e] -/
theorem cat_front {K : PySem.W.Frag} {H : Hp} {A : Addr} {as : List Addr} {e : Nat} {R : V → Hp → Prop} (hA : H A = some (.tup (as.map V.ref))) (he : e < as.length)
    (q : ∀ x H1, Same H H1 → (∃ a, x = .ref a ∧ H1 a = some (.tup ((as.take e).map V.ref))) → R x H1) : rSlA K (.ref A) none (some (e : Int)) H R := by
  have hcut : cutV (as.map V.ref) none (some (e : Int)) = (as.take e).map V.ref := by
    rw [cutV_take (by rw [List.length_map]; omega), List.map_take]
  refine ⟨A, _, rfl, SqT.of hA, fun z => q _ _ (Same.refl _) ⟨A, rfl, ?_⟩, fun _ p hp => q _ _ (same_new hp) ⟨p, rfl, by rw [upd_same, hcut]⟩⟩
  rw [← hcut, cutV_all z]
  exact hA
/-- .. + (v,) -/
theorem cat_mid {K : PySem.W.Frag} {H : Hp} {p : Addr} {xs : List V} {x v : V} {R : V → Hp → Prop} (hx : ∃ a, x = .ref a ∧ H a = some (.tup xs)) (hp : H p = some (.tup [v])) (h1000 : xs.length ≤ 1000)
    (q : ∀ y H1, Same H H1 → (∃ a, y = .ref a ∧ H1 a = some (.tup (xs ++ [v]))) → R y H1) : rCatA K x (.ref p) H R := by
  obtain ⟨a, rfl, ha⟩ := hx
  refine ⟨a, p, _, _, rfl, rfl, SqT.of ha, SqT.of hp, ?_, fun z => ?_, fun _ z => (by cases z), fun _ _ t ht => q _ _ (same_new ht) ⟨t, rfl, upd_same⟩⟩
  · rw [sizeLine_eq]
    show _ + 1 ≤ _
    omega
  · subst z
    exact q _ _ (Same.refl _) ⟨p, rfl, hp⟩
theorem ixN_nat {k i : Nat} (h : i < k) : ixN k (i : Int) = some i := by
  unfold ixN
  rw [if_pos (by omega), if_pos (by omega), Int.toNat_natCast]
theorem swap_set {l : List Int} {i j : Nat} (hi : i < l.length) (hj : j < l.length) (h : i ≠ j) : Swap i j l ((l.set i (l.getD j 0)).set j (l.getD i 0)) := by
  refine ⟨by rw [List.length_set, List.length_set], ?_, ?_, fun k hk1 hk2 => ?_⟩
  · rw [List.getD_eq_getElem?_getD, List.getElem?_set_ne (Ne.symm h), List.getElem?_set_self hi]
    rfl
  · rw [List.getD_eq_getElem?_getD, List.getElem?_set_self (by rw [List.length_set]; exact hj)]
    rfl
  · rw [List.getD_eq_getElem?_getD, List.getElem?_set_ne (Ne.symm hk2), List.getElem?_set_ne (Ne.symm hk1), ← List.getD_eq_getElem?_getD]
def dataC (r : Bool) (n : Int) : PyData := .tuple [.tuple [.str "party", .str (kindS r), .int n, .tuple (tupsD (zz r n))], .tuple []]
theorem shw_word {z : Str} (h : z.cps.toList.all (fun c => decide (c < 16 ^ 8)) = true ∧ z.length ≤ 10000) : Shw (.str z) := by
  simp only [Shw]
  refine ⟨fun c hc => ?_, h.2⟩
  have := List.all_eq_true.mp h.1 c hc
  exact of_decide_eq_true this
theorem repr_cert {K : PySem.W.Frag} {H : Hp} {t c u A : Addr} {as : List Addr} {r : Bool} {n k : Int} {Q : VK} (hs : SizeIs r n k) (h99 : n ≤ 99) (ht : H t = some (.tup [.ref c, .ref u])) (hc : H c = some (.tup [.str "party", .str (kindS r), .int n, .ref A])) (hu : H u = some (.tup [])) (hA : H A = some (.tup (as.map V.ref))) (pA : Paired (TupAt H) as (zz r n))
    (q : Q (.str (dataC r n).shown) H) : rRepr K [.ref t] H Q := by
  have h2 := size_two hs
  have hk := hs.nights
  have hnn := nights_le (r := r) (n := n) (by omega)
  have hk49 : k ≤ 49 := by obtain ⟨_, h | h⟩ := hs <;> omega
  have low : LowP 99 49 (zz r n) := by
    refine ⟨fun l hl => ?_, ?_⟩
    · obtain ⟨e, he, rfl⟩ := List.mem_map.mp hl
      have he := mem_ups.mp he
      refine ⟨⟨fun z hz => ?_, ?_⟩, ?_⟩
      · have := (evL_mem hs he.1 (by omega) z).mp hz
        have h3 : (99 : Int) ≤ 2 ^ 200 := by decide
        omega
      · rw [evL_len]
        omega
      · rw [evL_len]
        omega
    · unfold zz
      rw [List.length_map, ups_len]
      omega
  refine ⟨t, dataC r n, rfl, .tup (SqT.of ht) (.cons (.tup (SqT.of hc) (.cons (.str _) (.cons (.str _) (.cons (.int _) (.cons (.tup (SqT.of hA) (dpAll_tups pA)) .nil))))) (.cons (.tup (SqT.of hu) .nil) .nil)), ?_, ?_, ?_, q⟩
  · have w1 : Shw (.str "party") := shw_word (by decide +kernel)
    have w2 : Shw (.str (kindS r)) := by
      cases r
      · exact shw_word (by decide +kernel)
      · exact shw_word (by decide +kernel)
    have w3 : Shw (.int n) := shw_int (by omega) (by
      have h3 : (99 : Int) < 2 ^ 200 := by decide
      omega)
    have w4 := shw_tups fun l hl => (low.1 l hl).1
    unfold dataC
    simp only [Shw, ShwAll] at w1 w2 w3 ⊢
    exact ⟨⟨w1, w2, w3, w4, trivial⟩, trivial, trivial⟩
  · have := depth_tups (zz r n)
    unfold dataC
    simp only [PyData.depth, PyData.depthAll]
    omega
  · have h1 := wd_tupsM fun l hl => (low.1 l hl).2
    have h3 : (1003 * 99 + 5) * (zz r n).length ≤ (1003 * 99 + 5) * 49 := Nat.mul_le_mul_left _ low.2
    have l1 : ("party" : Str).length ≤ 10 := by decide +kernel
    have l2 : (kindS r).length ≤ 10 := by cases r <;> decide +kernel
    unfold dataC
    simp only [wd, wdAll]
    omega
def sp__law_right : Sp := fun vs H Q _ => ∃ p, vs = [.ref p] ∧ Spring H p ∧ ∀ H', Kp p H H' → Q (.bl true) H'
theorem ok__law_right (T : Env w K mg) : HdG P w K mg base CX0 7 "_law_right" s__law_right ["_law_spring_here"] sp__law_right := by
  have H_accepts := ok_accepts (P := P) (w := w) (base := base) T
  have H__law_draw := ok__law_draw (P := P) (w := w) (base := base) T
  have H_certify_zigzag := ok_certify_zigzag (P := P) (w := w) (base := base) T
  have H__law_zigzag := ok__law_zigzag (P := P) (w := w) (base := base) T
  have H__law_of := ok__law_of (P := P) (w := w) (base := base) T
  obtain ⟨f, fd, F, hm⟩ := T.d__law_right
  refine ⟨⟨f, fd, F, hm, ?_⟩, fun _ _ _ _ _ _ _ us hl => match us, hl with | [_], _ => rfl⟩
  refine fun_okG F sc__law_right (fun vs H Q E h => ?_) (fun cdv A outer s H vs Q E hr gd h => ?_)
  · first | (obtain ⟨rfl, _⟩ := h; rfl) | (obtain ⟨_, rfl, _⟩ := h; rfl) | (obtain ⟨_, _, rfl, _⟩ := h; rfl) | (obtain ⟨_, _, _, rfl, _⟩ := h; rfl) | (obtain ⟨_, _, _, _, rfl, _⟩ := h; rfl) | (obtain ⟨_, _, _, _, _, rfl, _⟩ := h; rfl) | (obtain ⟨_, _, _, _, _, _, rfl, _⟩ := h; rfl) | (obtain ⟨_, _, _, _, _, _, _, rfl, _⟩ := h; rfl) | (obtain ⟨_, _, _, _, _, _, _, _, rfl, _⟩ := h; rfl)
  · obtain ⟨p, rfl, hp, q⟩ := h
    have hu := hu_of hr
    refine ⟨_, pss_cons (ps_for PassesOwn.never rfl (pi_range1 rfl T.b_range (pa_cons pe_int pa_nil)) (pg_name (i := 1) sc__law_right.nd rfl (by first | exact .inl rfl | exact .inr rfl))
      (pss_cons (ps_set (i := 2) sc__law_right.nd rfl (by first | exact .inl rfl | exact .inr rfl) (pe_hd H__law_of (hr.mono (by decide)) rfl pass0 (pa_cons (pv 0) (pa_cons (pe_lst (pa_cons pe_str (pa_cons pe_str pa_nil))) pa_nil))))
      (pss_cons (ps_set (i := 3) sc__law_right.nd rfl (by first | exact .inl rfl | exact .inr rfl) (pe_op op_add (pe_op op_mul pe_int (pe_op op_add pe_int (pe_hd H__law_draw (hr.mono (by decide)) rfl pass0 (pa_cons (pv 0) (pa_cons (pe_hd H__law_of (hr.mono (by decide)) rfl pass0 (pa_cons (pv 0) (pa_cons (pe_lst (pa_cons pe_int (pa_cons pe_int (pa_cons pe_int pa_nil)))) pa_nil))) pa_nil))))) (pe_callTy call_int1 rfl T.b_int (by decide +kernel) (pa_cons (pe_cmpR op_eq (pv 2) pe_str (nomark _)) pa_nil))))
      (pss_cons (ps_set (i := 5) sc__law_right.nd rfl (by first | exact .inl rfl | exact .inr rfl) (pe_callTy call_tupleL rfl T.b_tuple (by decide +kernel) (pa_cons (pe_lc (own := [("_law_some", 4)]) (g := (gName 4)) (tt := tYes) rfl sc__law_right.nd (pi_list (pe_hd H__law_zigzag (hr.mono (by decide)) rfl pass0 (pa_cons (pv 2) (pa_cons (pv 3) pa_nil)))) (blkOk_by (own := [("_law_some", 4)]) (N := N__law_right) (sc := defScope s__law_right) (by decide +kernel)) (fun _ _ _ _ _ => pg_name (i := 4) sc__law_right.nd rfl (by first | exact .inl rfl | exact .inr rfl)) (fun _ _ _ _ _ => pts_nil) (fun _ _ _ _ _ => (pe_callTy call_tupleL rfl T.b_tuple (by decide +kernel) (pa_cons (pv 4) pa_nil)))) pa_nil)))
      (pss_cons (ps_for PassesOwn.never rfl (pi_list (pe_lst (pa_cons (pe_hd H_certify_zigzag (hr.mono (by decide)) rfl pass0 (pa_cons (pv 2) (pa_cons (pv 3) pa_nil))) (pa_cons (pe_hdk (ks := ["n", "kind"]) (π := [1, 0]) (HdG.of H_certify_zigzag) (hr.mono (by decide)) (.inr H_certify_zigzag) rfl pass0 (fun _ _ _ _ _ _ _ ws hl => match ws, hl with | [_, _], _ => rfl) (pk_cons (pv 3) (pk_cons (pv 2) pk_nil))) pa_nil)))) (pg_name (i := 6) sc__law_right.nd rfl (by first | exact .inl rfl | exact .inr rfl))
      (pss_one (ps_if (PW.pt (pw_or (pt_cmpR op_ne (pe_callB (call_reprD hr.units gd) rfl T.b_repr (by decide +kernel) (pa_cons (pv 6) pa_nil)) (pe_callB (call_reprD hr.units gd) rfl T.b_repr (by decide +kernel) (pa_cons (pe_tup (pa_cons (pe_tup (pa_cons pe_str (pa_cons (pv 2) (pa_cons (pv 3) (pa_cons (pv 5) pa_nil))))) (pa_cons (pe_tup pa_nil) pa_nil))) pa_nil)) (nomark _)) (pw_or1 (pt_cmpR op_notBl (pe_hd H_accepts (hr.mono (by decide)) rfl pass0 (pa_cons (pe_ix ix_tupH (pv 6) pe_int (fun _ _ => rfl)) (pa_cons (pe_ix ix_tupH (pv 6) pe_int (fun _ _ => rfl)) pa_nil))) pe_bl (nomark _))))) (pss_one (ps_ret pe_bl))
      (pss_nil))))
      (pss_cons (ps_par (i := 7) (j := 8) rfl sc__law_right.nd rfl rfl (by decide) rfl rfl (pa_cons (pe_hd H__law_draw (hr.mono (by decide)) rfl pass0 (pa_cons (pv 0) (pa_cons (pe_callB call_lenU rfl T.b_len (by decide +kernel) (pa_cons (pv 5) pa_nil)) pa_nil))) (pa_cons (pe_hd H__law_draw (hr.mono (by decide)) rfl pass0 (pa_cons (pv 0) (pa_cons (pv 3) pa_nil))) pa_nil)) (by rfl))
      (pss_cons (ps_par (i := 4) (j := 9) rfl sc__law_right.nd rfl rfl (by decide) rfl rfl (pa_cons (pe_callTy call_listT rfl T.b_list (by decide +kernel) (pa_cons (pe_ix ix_tupH (pv 5) (pv 7) (fun _ _ => rfl)) pa_nil)) (pa_cons (pe_op op_mod (pe_callTy call_int1 rfl T.b_int (by decide +kernel) (pa_cons (pe_op op_add (pe_op op_add (pv 8) pe_int) (pe_hd H__law_draw (hr.mono (by decide)) rfl pass0 (pa_cons (pv 0) (pa_cons (pe_op op_sub (pv 3) pe_int) pa_nil)))) pa_nil)) (pv 3)) pa_nil)) (by rfl))
      (pss_cons (ps_asg (pe_tup (pa_cons (pe_ix ix_listH (pv 4) (pv 9) (fun _ _ => rfl)) (pa_cons (pe_ix ix_listH (pv 4) (pv 8) (fun _ _ => rfl)) pa_nil))) (pg_tupH (n := 2) rfl (pgs_cons (pg_sub (pv 4) (pv 8) set_list) (pgs_cons (pg_sub (pv 4) (pv 9) set_list) pgs_nil))))
      (pss_cons (ps_set (i := 10) sc__law_right.nd rfl (by first | exact .inl rfl | exact .inr rfl) (pe_op op_catA (pe_op op_catA (pe_slice sl_tupA (pv 5) po_none (po_some (pv 7))) (pe_tup (pa_cons (pe_callTy call_tupleL rfl T.b_tuple (by decide +kernel) (pa_cons (pv 4) pa_nil)) pa_nil))) (pe_slice sl_tupA (pv 5) (po_some (pe_op op_add (pv 7) pe_int)) po_none)))
      (pss_one (ps_if (PW.pt (pw_and (pt_cmpR op_gt (pv 3) pe_int (nomark _)) (pw_and1 (pt_cmpR op_notBl (pe_hd H_accepts (hr.mono (by decide)) rfl pass0 (pa_cons (pe_tup (pa_cons pe_str (pa_cons (pv 2) (pa_cons (pv 3) (pa_cons (pv 10) pa_nil))))) (pa_cons (pe_tup pa_nil) pa_nil))) pe_bl (nomark _))))) (pss_one (ps_ret pe_bl))
      (pss_nil))))))))))))
      (pss_one (ps_ret pe_bl)), ?_⟩
    refine z_seq ?_
    refine for_rng (n := 4) (fun R h => h) (by decide) (fun _ σ H' => ∃ v1 v2 v3 v4 v5 v6 v7 v8 v9 v10 : Option V, σ = [some (.ref p), v1, v2, v3, v4, v5, v6, v7, v8, v9, v10] ∧ Kp p H H') ⟨_, _, _, _, _, _, _, _, _, _, rfl, Kp.refl hp⟩ ?_ ?_
    · rintro i σ H0 hi ⟨v1, v2, v3, v4, v5, v6, v7, v8, v9, v10, rfl, kp⟩
      simp only [L2.start, List.map_cons, List.map_nil, List.length_cons, List.length_nil, Nat.zero_add, Nat.reduceAdd, Nat.reduceSub, List.replicate_succ, List.replicate_zero, List.cons_append, List.nil_append, List.append_nil, L2.tNext, L2.tAsg, L2.gName, L2.tRet, L2.tRetN, L2.tIfS, L2.tVar, L2.tC, L2.tOp, L2.tUn, L2.rI, L2.rI0, L2.rU, L2.rEq, L2.rNe, L2.tTest, L2.tB, L2.tIf, Z.tIfCI, Z.tIfCS, L2.tChain, L2.tCons, L2.tNil, L2.tCall, L2.tDrop, L2.tAndV, L2.tOrV, L2.tNotV, L2.tAnd, L2.tOr, L2.tNot, L2.tCB, Z.sc_ii, Z.sc_ss, Z.sc_bb, Z.sc_is, Z.sc_si, Z.sc_ni, Z.sc_in, Z.sc_ns, Z.sc_sn, Z.sc_nn, L2.CDiv, L2.CPow, L2.CMul, List.getElem?_cons_zero, List.getElem?_cons_succ, Z.set_z, Z.set_s, Option.some.injEq, L2.V.int.injEq, L2.V.bl.injEq, L2.V.str.injEq, L2.V.ref.injEq, L2.V.ty.injEq, List.cons.injEq, exists_eq_left', exists_and_left, exists_eq_left, exists_eq_right, exists_eq_right', exists_eq', exists_eq, true_and, and_true, and_assoc, decide_eq_true_eq, Int.reduceLT, and_self, Z.rIxH, Z.rIxU, Z.at30, Z.at31, Z.at32, Z.ix3_0, Z.ix3_1, Z.ix3_2, L2.rSetL, L2.gSub, Z.gTupH, L2.gCons, L2.gNil, L2.HO.lst.injEq, L2.HO.tup.injEq, L2.upd_same, L2.upd_upd, L2.tSl, L2.tNoPart, L2.tPart, L2.rSlL, L2.rCat, List.length_append, or_false, false_or, or_true, true_or, reduceCtorEq, false_and, and_false, exists_false, Int.reduceNeg, Int.reducePow, Int.reduceToNat, Int.reduceAbs, Int.reduceLE, Int.reduceMul, Int.reduceAdd, Int.reduceSub, Nat.reducePow, Nat.reduceLT, Nat.reduceLeDiff, Int.natAbs_natCast, if_true, if_false, Z.rIsN, Z.tyN, Z.kit_ii, Z.kit_bi, Z.kit_si, Z.kit_ni, Z.kit_ib, Z.kit_bb, Z.kit_sb, Z.kit_nb, Z.kit_is, Z.kit_bs, Z.kit_ss, Z.kit_ns, Bool.not_true, Bool.not_false, L2.tTup, L2.tLst, L2.wipe, L2.tYes, Z.Turn1, L2.tNever, sizeLine_eq, Z.rInU, Z.rInH, L2.flatV, List.any_cons, List.any_nil, List.all_cons, List.all_nil, Bool.and_true, Bool.true_and, Bool.or_false, Bool.false_or, Z.tBML, L2.rAppend, Z.map_int_inj, Z.map_bl_inj, Z.rTupL, Z.rLstL, Z.rLstT, Z.rSortI, Z.rAnyH, Z.rAllH, Z.rSumH, Z.rLenL, Z.rLenU, List.length_map, L2.tPar, StX.tStar, L2.tDNewT, L2.tDIn, L2.sDPut, L2.tDGet, Z.tCallK0, List.getD_cons_zero, List.getD_cons_succ, sp_accepts, sp__law_draw, sp_certify_zigzag, sp__law_zigzag, sp__law_of]
      refine z_seq ?_
      simp only [L2.start, List.map_cons, List.map_nil, List.length_cons, List.length_nil, Nat.zero_add, Nat.reduceAdd, Nat.reduceSub, List.replicate_succ, List.replicate_zero, List.cons_append, List.nil_append, List.append_nil, L2.tNext, L2.tAsg, L2.gName, L2.tRet, L2.tRetN, L2.tIfS, L2.tVar, L2.tC, L2.tOp, L2.tUn, L2.rI, L2.rI0, L2.rU, L2.rEq, L2.rNe, L2.tTest, L2.tB, L2.tIf, Z.tIfCI, Z.tIfCS, L2.tChain, L2.tCons, L2.tNil, L2.tCall, L2.tDrop, L2.tAndV, L2.tOrV, L2.tNotV, L2.tAnd, L2.tOr, L2.tNot, L2.tCB, Z.sc_ii, Z.sc_ss, Z.sc_bb, Z.sc_is, Z.sc_si, Z.sc_ni, Z.sc_in, Z.sc_ns, Z.sc_sn, Z.sc_nn, L2.CDiv, L2.CPow, L2.CMul, List.getElem?_cons_zero, List.getElem?_cons_succ, Z.set_z, Z.set_s, Option.some.injEq, L2.V.int.injEq, L2.V.bl.injEq, L2.V.str.injEq, L2.V.ref.injEq, L2.V.ty.injEq, List.cons.injEq, exists_eq_left', exists_and_left, exists_eq_left, exists_eq_right, exists_eq_right', exists_eq', exists_eq, true_and, and_true, and_assoc, decide_eq_true_eq, Int.reduceLT, and_self, Z.rIxH, Z.rIxU, Z.at30, Z.at31, Z.at32, Z.ix3_0, Z.ix3_1, Z.ix3_2, L2.rSetL, L2.gSub, Z.gTupH, L2.gCons, L2.gNil, L2.HO.lst.injEq, L2.HO.tup.injEq, L2.upd_same, L2.upd_upd, L2.tSl, L2.tNoPart, L2.tPart, L2.rSlL, L2.rCat, List.length_append, or_false, false_or, or_true, true_or, reduceCtorEq, false_and, and_false, exists_false, Int.reduceNeg, Int.reducePow, Int.reduceToNat, Int.reduceAbs, Int.reduceLE, Int.reduceMul, Int.reduceAdd, Int.reduceSub, Nat.reducePow, Nat.reduceLT, Nat.reduceLeDiff, Int.natAbs_natCast, if_true, if_false, Z.rIsN, Z.tyN, Z.kit_ii, Z.kit_bi, Z.kit_si, Z.kit_ni, Z.kit_ib, Z.kit_bb, Z.kit_sb, Z.kit_nb, Z.kit_is, Z.kit_bs, Z.kit_ss, Z.kit_ns, Bool.not_true, Bool.not_false, L2.tTup, L2.tLst, L2.wipe, L2.tYes, Z.Turn1, L2.tNever, sizeLine_eq, Z.rInU, Z.rInH, L2.flatV, List.any_cons, List.any_nil, List.all_cons, List.all_nil, Bool.and_true, Bool.true_and, Bool.or_false, Bool.false_or, Z.tBML, L2.rAppend, Z.map_int_inj, Z.map_bl_inj, Z.rTupL, Z.rLstL, Z.rLstT, Z.rSortI, Z.rAnyH, Z.rAllH, Z.rSumH, Z.rLenL, Z.rLenU, List.length_map, L2.tPar, StX.tStar, L2.tDNewT, L2.tDIn, L2.sDPut, L2.tDGet, Z.tCallK0, List.getD_cons_zero, List.getD_cons_succ, sp_accepts, sp__law_draw, sp_certify_zigzag, sp__law_zigzag, sp__law_of]
      intro m hm
      refine ⟨kp.sp.new hm, Ne.symm (ne_of_spring kp.sp hm), fun v H1 kp1 hv => ?_⟩
      obtain ⟨r, rfl⟩ : ∃ r, v = .str (kindS r) := by
        simp only [List.mem_cons, List.not_mem_nil, or_false] at hv
        rcases hv with rfl | rfl
        · exact ⟨true, rfl⟩
        · exact ⟨false, rfl⟩
      replace kp1 := (kp.new hm).trans kp1
      clear hm hv
      refine z_seq ?_
      simp only [L2.start, List.map_cons, List.map_nil, List.length_cons, List.length_nil, Nat.zero_add, Nat.reduceAdd, Nat.reduceSub, List.replicate_succ, List.replicate_zero, List.cons_append, List.nil_append, List.append_nil, L2.tNext, L2.tAsg, L2.gName, L2.tRet, L2.tRetN, L2.tIfS, L2.tVar, L2.tC, L2.tOp, L2.tUn, L2.rI, L2.rI0, L2.rU, L2.rEq, L2.rNe, L2.tTest, L2.tB, L2.tIf, Z.tIfCI, Z.tIfCS, L2.tChain, L2.tCons, L2.tNil, L2.tCall, L2.tDrop, L2.tAndV, L2.tOrV, L2.tNotV, L2.tAnd, L2.tOr, L2.tNot, L2.tCB, Z.sc_ii, Z.sc_ss, Z.sc_bb, Z.sc_is, Z.sc_si, Z.sc_ni, Z.sc_in, Z.sc_ns, Z.sc_sn, Z.sc_nn, L2.CDiv, L2.CPow, L2.CMul, List.getElem?_cons_zero, List.getElem?_cons_succ, Z.set_z, Z.set_s, Option.some.injEq, L2.V.int.injEq, L2.V.bl.injEq, L2.V.str.injEq, L2.V.ref.injEq, L2.V.ty.injEq, List.cons.injEq, exists_eq_left', exists_and_left, exists_eq_left, exists_eq_right, exists_eq_right', exists_eq', exists_eq, true_and, and_true, and_assoc, decide_eq_true_eq, Int.reduceLT, and_self, Z.rIxH, Z.rIxU, Z.at30, Z.at31, Z.at32, Z.ix3_0, Z.ix3_1, Z.ix3_2, L2.rSetL, L2.gSub, Z.gTupH, L2.gCons, L2.gNil, L2.HO.lst.injEq, L2.HO.tup.injEq, L2.upd_same, L2.upd_upd, L2.tSl, L2.tNoPart, L2.tPart, L2.rSlL, L2.rCat, List.length_append, or_false, false_or, or_true, true_or, reduceCtorEq, false_and, and_false, exists_false, Int.reduceNeg, Int.reducePow, Int.reduceToNat, Int.reduceAbs, Int.reduceLE, Int.reduceMul, Int.reduceAdd, Int.reduceSub, Nat.reducePow, Nat.reduceLT, Nat.reduceLeDiff, Int.natAbs_natCast, if_true, if_false, Z.rIsN, Z.tyN, Z.kit_ii, Z.kit_bi, Z.kit_si, Z.kit_ni, Z.kit_ib, Z.kit_bb, Z.kit_sb, Z.kit_nb, Z.kit_is, Z.kit_bs, Z.kit_ss, Z.kit_ns, Bool.not_true, Bool.not_false, L2.tTup, L2.tLst, L2.wipe, L2.tYes, Z.Turn1, L2.tNever, sizeLine_eq, Z.rInU, Z.rInH, L2.flatV, List.any_cons, List.any_nil, List.all_cons, List.all_nil, Bool.and_true, Bool.true_and, Bool.or_false, Bool.false_or, Z.tBML, L2.rAppend, Z.map_int_inj, Z.map_bl_inj, Z.rTupL, Z.rLstL, Z.rLstT, Z.rSortI, Z.rAnyH, Z.rAllH, Z.rSumH, Z.rLenL, Z.rLenU, List.length_map, L2.tPar, StX.tStar, L2.tDNewT, L2.tDIn, L2.sDPut, L2.tDGet, Z.tCallK0, List.getD_cons_zero, List.getD_cons_succ, sp_accepts, sp__law_draw, sp_certify_zigzag, sp__law_zigzag, sp__law_of, kind_eq]
      intro m2 hm2
      refine ⟨kp1.sp.new hm2, kp1.sp.ne hm2, fun v H2 kp2 hv => ?_⟩
      obtain ⟨x, rfl, hx0, hx49⟩ : ∃ x, v = .int x ∧ 0 < x ∧ x ≤ 49 := by
        simp only [List.mem_cons, List.not_mem_nil, or_false] at hv
        rcases hv with rfl | rfl | rfl
        · exact ⟨5, rfl, by decide, by decide⟩
        · exact ⟨20, rfl, by decide, by decide⟩
        · exact ⟨49, rfl, by decide, by decide⟩
      refine ⟨x, rfl, kp2.sp, hx0, by omega, fun d H3 kp3 hd0 hd1 => ?_⟩
      have kp4 := ((kp1.new hm2).trans kp2).trans kp3
      clear kp1 kp2 kp3 kp hm2 hv
      have hs : SizeIs r (2 * (1 + d) + if r = true then 1 else 0) (1 + d) := by
        cases r
        · exact ⟨by omega, .inr ⟨rfl, by simp⟩⟩
        · exact ⟨by omega, .inl ⟨rfl, by simp⟩⟩
      generalize hn : (2 * (1 + d) + if r = true then 1 else 0) = n at hs ⊢
      have hn2 : 2 ≤ n ∧ n ≤ 99 := by
        rw [← hn]
        split <;> omega
      have hnk := hs.nights
      have hnn := nights_le (r := r) (n := n) (by omega)
      have hk49 : 1 + d ≤ 49 := by omega
      clear hn
      refine z_seq ?_
      simp only [L2.start, List.map_cons, List.map_nil, List.length_cons, List.length_nil, Nat.zero_add, Nat.reduceAdd, Nat.reduceSub, List.replicate_succ, List.replicate_zero, List.cons_append, List.nil_append, List.append_nil, L2.tNext, L2.tAsg, L2.gName, L2.tRet, L2.tRetN, L2.tIfS, L2.tVar, L2.tC, L2.tOp, L2.tUn, L2.rI, L2.rI0, L2.rU, L2.rEq, L2.rNe, L2.tTest, L2.tB, L2.tIf, Z.tIfCI, Z.tIfCS, L2.tChain, L2.tCons, L2.tNil, L2.tCall, L2.tDrop, L2.tAndV, L2.tOrV, L2.tNotV, L2.tAnd, L2.tOr, L2.tNot, L2.tCB, Z.sc_ii, Z.sc_ss, Z.sc_bb, Z.sc_is, Z.sc_si, Z.sc_ni, Z.sc_in, Z.sc_ns, Z.sc_sn, Z.sc_nn, L2.CDiv, L2.CPow, L2.CMul, List.getElem?_cons_zero, List.getElem?_cons_succ, Z.set_z, Z.set_s, Option.some.injEq, L2.V.int.injEq, L2.V.bl.injEq, L2.V.str.injEq, L2.V.ref.injEq, L2.V.ty.injEq, List.cons.injEq, exists_eq_left', exists_and_left, exists_eq_left, exists_eq_right, exists_eq_right', exists_eq', exists_eq, true_and, and_true, and_assoc, decide_eq_true_eq, Int.reduceLT, and_self, Z.rIxH, Z.rIxU, Z.at30, Z.at31, Z.at32, Z.ix3_0, Z.ix3_1, Z.ix3_2, L2.rSetL, L2.gSub, Z.gTupH, L2.gCons, L2.gNil, L2.HO.lst.injEq, L2.HO.tup.injEq, L2.upd_same, L2.upd_upd, L2.tSl, L2.tNoPart, L2.tPart, L2.rSlL, L2.rCat, List.length_append, or_false, false_or, or_true, true_or, reduceCtorEq, false_and, and_false, exists_false, Int.reduceNeg, Int.reducePow, Int.reduceToNat, Int.reduceAbs, Int.reduceLE, Int.reduceMul, Int.reduceAdd, Int.reduceSub, Nat.reducePow, Nat.reduceLT, Nat.reduceLeDiff, Int.natAbs_natCast, if_true, if_false, Z.rIsN, Z.tyN, Z.kit_ii, Z.kit_bi, Z.kit_si, Z.kit_ni, Z.kit_ib, Z.kit_bb, Z.kit_sb, Z.kit_nb, Z.kit_is, Z.kit_bs, Z.kit_ss, Z.kit_ns, Bool.not_true, Bool.not_false, L2.tTup, L2.tLst, L2.wipe, L2.tYes, Z.Turn1, L2.tNever, sizeLine_eq, Z.rInU, Z.rInH, L2.flatV, List.any_cons, List.any_nil, List.all_cons, List.all_nil, Bool.and_true, Bool.true_and, Bool.or_false, Bool.false_or, Z.tBML, L2.rAppend, Z.map_int_inj, Z.map_bl_inj, Z.rTupL, Z.rLstL, Z.rLstT, Z.rSortI, Z.rAnyH, Z.rAllH, Z.rSumH, Z.rLenL, Z.rLenU, List.length_map, L2.tPar, StX.tStar, L2.tDNewT, L2.tDIn, L2.sDPut, L2.tDGet, Z.tCallK0, List.getD_cons_zero, List.getD_cons_succ, sp_accepts, sp__law_draw, sp_certify_zigzag, sp__law_zigzag, sp__law_of]
      refine lc_bindL ?_
      simp only [L2.start, List.map_cons, List.map_nil, List.length_cons, List.length_nil, Nat.zero_add, Nat.reduceAdd, Nat.reduceSub, List.replicate_succ, List.replicate_zero, List.cons_append, List.nil_append, List.append_nil, L2.tNext, L2.tAsg, L2.gName, L2.tRet, L2.tRetN, L2.tIfS, L2.tVar, L2.tC, L2.tOp, L2.tUn, L2.rI, L2.rI0, L2.rU, L2.rEq, L2.rNe, L2.tTest, L2.tB, L2.tIf, Z.tIfCI, Z.tIfCS, L2.tChain, L2.tCons, L2.tNil, L2.tCall, L2.tDrop, L2.tAndV, L2.tOrV, L2.tNotV, L2.tAnd, L2.tOr, L2.tNot, L2.tCB, Z.sc_ii, Z.sc_ss, Z.sc_bb, Z.sc_is, Z.sc_si, Z.sc_ni, Z.sc_in, Z.sc_ns, Z.sc_sn, Z.sc_nn, L2.CDiv, L2.CPow, L2.CMul, List.getElem?_cons_zero, List.getElem?_cons_succ, Z.set_z, Z.set_s, Option.some.injEq, L2.V.int.injEq, L2.V.bl.injEq, L2.V.str.injEq, L2.V.ref.injEq, L2.V.ty.injEq, List.cons.injEq, exists_eq_left', exists_and_left, exists_eq_left, exists_eq_right, exists_eq_right', exists_eq', exists_eq, true_and, and_true, and_assoc, decide_eq_true_eq, Int.reduceLT, and_self, Z.rIxH, Z.rIxU, Z.at30, Z.at31, Z.at32, Z.ix3_0, Z.ix3_1, Z.ix3_2, L2.rSetL, L2.gSub, Z.gTupH, L2.gCons, L2.gNil, L2.HO.lst.injEq, L2.HO.tup.injEq, L2.upd_same, L2.upd_upd, L2.tSl, L2.tNoPart, L2.tPart, L2.rSlL, L2.rCat, List.length_append, or_false, false_or, or_true, true_or, reduceCtorEq, false_and, and_false, exists_false, Int.reduceNeg, Int.reducePow, Int.reduceToNat, Int.reduceAbs, Int.reduceLE, Int.reduceMul, Int.reduceAdd, Int.reduceSub, Nat.reducePow, Nat.reduceLT, Nat.reduceLeDiff, Int.natAbs_natCast, if_true, if_false, Z.rIsN, Z.tyN, Z.kit_ii, Z.kit_bi, Z.kit_si, Z.kit_ni, Z.kit_ib, Z.kit_bb, Z.kit_sb, Z.kit_nb, Z.kit_is, Z.kit_bs, Z.kit_ss, Z.kit_ns, Bool.not_true, Bool.not_false, L2.tTup, L2.tLst, L2.wipe, L2.tYes, Z.Turn1, L2.tNever, sizeLine_eq, Z.rInU, Z.rInH, L2.flatV, List.any_cons, List.any_nil, List.all_cons, List.all_nil, Bool.and_true, Bool.true_and, Bool.or_false, Bool.false_or, Z.tBML, L2.rAppend, Z.map_int_inj, Z.map_bl_inj, Z.rTupL, Z.rLstL, Z.rLstT, Z.rSortI, Z.rAnyH, Z.rAllH, Z.rSumH, Z.rLenL, Z.rLenU, List.length_map, L2.tPar, StX.tStar, L2.tDNewT, L2.tDIn, L2.sDPut, L2.tDGet, Z.tCallK0, List.getD_cons_zero, List.getD_cons_succ, sp_accepts, sp__law_draw, sp_certify_zigzag, sp__law_zigzag, sp__law_of, kind_inj]
      refine ⟨by omega, by omega, fun D as H4 hD s4 e4 pr4 => ?_⟩
      refine lc_lstO (a := D) (xs := as.map V.ref) (H1 := H4) (tupLike H4) (fun R h => h) (SqL.of e4) ?_ (fun x hx H5 s5 => ?_) fun D2 H5 bs hD2 s5 e5 pr5 => ?_
      · rw [List.length_map, paired_len pr4]
        unfold zz
        rw [List.length_map, ups_len]
        omega
      · obtain ⟨t, ht, rfl⟩ := List.mem_map.mp hx
        obtain ⟨l, hl, el⟩ := paired_mem pr4 t ht
        rw [tupLike_at el]
        intro Y N hY hN
        simp only [L2.start, List.map_cons, List.map_nil, List.length_cons, List.length_nil, Nat.zero_add, Nat.reduceAdd, Nat.reduceSub, List.replicate_succ, List.replicate_zero, List.cons_append, List.nil_append, List.append_nil, L2.tNext, L2.tAsg, L2.gName, L2.tRet, L2.tRetN, L2.tIfS, L2.tVar, L2.tC, L2.tOp, L2.tUn, L2.rI, L2.rI0, L2.rU, L2.rEq, L2.rNe, L2.tTest, L2.tB, L2.tIf, Z.tIfCI, Z.tIfCS, L2.tChain, L2.tCons, L2.tNil, L2.tCall, L2.tDrop, L2.tAndV, L2.tOrV, L2.tNotV, L2.tAnd, L2.tOr, L2.tNot, L2.tCB, Z.sc_ii, Z.sc_ss, Z.sc_bb, Z.sc_is, Z.sc_si, Z.sc_ni, Z.sc_in, Z.sc_ns, Z.sc_sn, Z.sc_nn, L2.CDiv, L2.CPow, L2.CMul, List.getElem?_cons_zero, List.getElem?_cons_succ, Z.set_z, Z.set_s, Option.some.injEq, L2.V.int.injEq, L2.V.bl.injEq, L2.V.str.injEq, L2.V.ref.injEq, L2.V.ty.injEq, List.cons.injEq, exists_eq_left', exists_and_left, exists_eq_left, exists_eq_right, exists_eq_right', exists_eq', exists_eq, true_and, and_true, and_assoc, decide_eq_true_eq, Int.reduceLT, and_self, Z.rIxH, Z.rIxU, Z.at30, Z.at31, Z.at32, Z.ix3_0, Z.ix3_1, Z.ix3_2, L2.rSetL, L2.gSub, Z.gTupH, L2.gCons, L2.gNil, L2.HO.lst.injEq, L2.HO.tup.injEq, L2.upd_same, L2.upd_upd, L2.tSl, L2.tNoPart, L2.tPart, L2.rSlL, L2.rCat, List.length_append, or_false, false_or, or_true, true_or, reduceCtorEq, false_and, and_false, exists_false, Int.reduceNeg, Int.reducePow, Int.reduceToNat, Int.reduceAbs, Int.reduceLE, Int.reduceMul, Int.reduceAdd, Int.reduceSub, Nat.reducePow, Nat.reduceLT, Nat.reduceLeDiff, Int.natAbs_natCast, if_true, if_false, Z.rIsN, Z.tyN, Z.kit_ii, Z.kit_bi, Z.kit_si, Z.kit_ni, Z.kit_ib, Z.kit_bb, Z.kit_sb, Z.kit_nb, Z.kit_is, Z.kit_bs, Z.kit_ss, Z.kit_ns, Bool.not_true, Bool.not_false, L2.tTup, L2.tLst, L2.wipe, L2.tYes, Z.Turn1, L2.tNever, sizeLine_eq, Z.rInU, Z.rInH, L2.flatV, List.any_cons, List.any_nil, List.all_cons, List.all_nil, Bool.and_true, Bool.true_and, Bool.or_false, Bool.false_or, Z.tBML, L2.rAppend, Z.map_int_inj, Z.map_bl_inj, Z.rTupL, Z.rLstL, Z.rLstT, Z.rSortI, Z.rAnyH, Z.rAllH, Z.rSumH, Z.rLenL, Z.rLenU, List.length_map, L2.tPar, StX.tStar, L2.tDNewT, L2.tDIn, L2.sDPut, L2.tDGet, Z.tCallK0, List.getD_cons_zero, List.getD_cons_succ, sp_accepts, sp__law_draw, sp_certify_zigzag, sp__law_zigzag, sp__law_of]
        exact ⟨_, s5 _ _ el, fun p hp => hY _ p _ rfl hp (same_new hp) upd_same⟩
      · rw [fm_tupLike pr4] at pr5
        have pr5 := tups_of pr5
        refine ⟨D2, rfl, _, e5, fun A hA => ?_⟩
        have kp5 := ((kp4.same s4).same s5).new (o := .tup (bs.map V.ref)) hA
        have eA : upd H5 A (.tup (bs.map V.ref)) A = some (.tup (bs.map V.ref)) := upd_same
        have prA := tups_same (same_new (o := .tup (bs.map V.ref)) hA) pr5
        generalize upd H5 A (.tup (bs.map V.ref)) = H6 at kp5 eA prA ⊢
        clear e5 pr5 hA hD2 s5 e4 pr4 s4 hD kp4
        have hz1 : (zz r n).length ≤ 1000 := by
          unfold zz
          rw [List.length_map, ups_len]
          omega
        have hz2 : ∀ l ∈ zz r n, l.length ≤ 1000 := fun l hl => by
          obtain ⟨e, he, rfl⟩ := List.mem_map.mp hl
          rw [evL_len]
          omega
        refine z_seq ?_
        refine for_bindL ?_
        simp only [L2.start, List.map_cons, List.map_nil, List.length_cons, List.length_nil, Nat.zero_add, Nat.reduceAdd, Nat.reduceSub, List.replicate_succ, List.replicate_zero, List.cons_append, List.nil_append, List.append_nil, L2.tNext, L2.tAsg, L2.gName, L2.tRet, L2.tRetN, L2.tIfS, L2.tVar, L2.tC, L2.tOp, L2.tUn, L2.rI, L2.rI0, L2.rU, L2.rEq, L2.rNe, L2.tTest, L2.tB, L2.tIf, Z.tIfCI, Z.tIfCS, L2.tChain, L2.tCons, L2.tNil, L2.tCall, L2.tDrop, L2.tAndV, L2.tOrV, L2.tNotV, L2.tAnd, L2.tOr, L2.tNot, L2.tCB, Z.sc_ii, Z.sc_ss, Z.sc_bb, Z.sc_is, Z.sc_si, Z.sc_ni, Z.sc_in, Z.sc_ns, Z.sc_sn, Z.sc_nn, L2.CDiv, L2.CPow, L2.CMul, List.getElem?_cons_zero, List.getElem?_cons_succ, Z.set_z, Z.set_s, Option.some.injEq, L2.V.int.injEq, L2.V.bl.injEq, L2.V.str.injEq, L2.V.ref.injEq, L2.V.ty.injEq, List.cons.injEq, exists_eq_left', exists_and_left, exists_eq_left, exists_eq_right, exists_eq_right', exists_eq', exists_eq, true_and, and_true, and_assoc, decide_eq_true_eq, Int.reduceLT, and_self, Z.rIxH, Z.rIxU, Z.at30, Z.at31, Z.at32, Z.ix3_0, Z.ix3_1, Z.ix3_2, L2.rSetL, L2.gSub, Z.gTupH, L2.gCons, L2.gNil, L2.HO.lst.injEq, L2.HO.tup.injEq, L2.upd_same, L2.upd_upd, L2.tSl, L2.tNoPart, L2.tPart, L2.rSlL, L2.rCat, List.length_append, or_false, false_or, or_true, true_or, reduceCtorEq, false_and, and_false, exists_false, Int.reduceNeg, Int.reducePow, Int.reduceToNat, Int.reduceAbs, Int.reduceLE, Int.reduceMul, Int.reduceAdd, Int.reduceSub, Nat.reducePow, Nat.reduceLT, Nat.reduceLeDiff, Int.natAbs_natCast, if_true, if_false, Z.rIsN, Z.tyN, Z.kit_ii, Z.kit_bi, Z.kit_si, Z.kit_ni, Z.kit_ib, Z.kit_bb, Z.kit_sb, Z.kit_nb, Z.kit_is, Z.kit_bs, Z.kit_ss, Z.kit_ns, Bool.not_true, Bool.not_false, L2.tTup, L2.tLst, L2.wipe, L2.tYes, Z.Turn1, L2.tNever, sizeLine_eq, Z.rInU, Z.rInH, L2.flatV, List.any_cons, List.any_nil, List.all_cons, List.all_nil, Bool.and_true, Bool.true_and, Bool.or_false, Bool.false_or, Z.tBML, L2.rAppend, Z.map_int_inj, Z.map_bl_inj, Z.rTupL, Z.rLstL, Z.rLstT, Z.rSortI, Z.rAnyH, Z.rAllH, Z.rSumH, Z.rLenL, Z.rLenU, List.length_map, L2.tPar, StX.tStar, L2.tDNewT, L2.tDIn, L2.sDPut, L2.tDGet, Z.tCallK0, List.getD_cons_zero, List.getD_cons_succ, sp_accepts, sp__law_draw, sp_certify_zigzag, sp__law_zigzag, sp__law_of, kind_inj]
        refine ⟨_, hs, by omega, fun t1 c1 u1 A1 as1 H7 s7 f1 f2 f3 f4 f5 => ⟨_, hs, by omega, fun t2 c2 u2 A2 as2 H8 s8 g1 g2 g3 g4 g5 L hL => ?_⟩⟩
        have s9 := same_new (o := .lst [.ref t1, .ref t2]) hL
        have C1 : CertP r n (upd H8 L (.lst [.ref t1, .ref t2])) (.ref t1) := CertP.same ⟨t1, c1, u1, A1, as1, rfl, f1, f2, f3, f4, f5⟩ (s8.trans s9)
        have C2 : CertP r n (upd H8 L (.lst [.ref t1, .ref t2])) (.ref t2) := CertP.same ⟨t2, c2, u2, A2, as2, rfl, g1, g2, g3, g4, g5⟩ s9
        have eL : upd H8 L (.lst [.ref t1, .ref t2]) L = some (.lst [.ref t1, .ref t2]) := upd_same
        have s79 := (s7.trans s8).trans s9
        have kp6 := kp5.same s79
        have eA2 := s79 _ _ eA
        have prA2 := tups_same s79 prA
        generalize upd H8 L (.lst [.ref t1, .ref t2]) = HL at C1 C2 eL kp6 eA2 prA2 ⊢
        clear hL s9 s79 f1 f2 f3 f4 f5 g1 g2 g3 g4 g5 s7 s8 eA prA kp5
        have hC : ∀ v ∈ [V.ref t1, V.ref t2], CertP r n HL v := fun v hv => by
          simp only [List.mem_cons, List.not_mem_nil, or_false] at hv
          rcases hv with rfl | rfl
          · exact C1
          · exact C2
        refine for_trk (a := L) (xs := [.ref t1, .ref t2]) (fun R h => h) (fun _ σ H' => ∃ v6 : Option V, σ = [some (.ref p), some (.int i), some (.str (kindS r)), some (.int n), v4, some (.ref A), v6, v7, v8, v9, v10] ∧ Same HL H') ⟨_, rfl, Same.refl _⟩ (fun _ _ _ h => by obtain ⟨_, _, h⟩ := h; exact SqL.of (h _ _ eL)) ?_ ?_
        · rintro j x σ H9 hjx ⟨v6, rfl, s9⟩ N2 hN2
          obtain ⟨t, c, u, A3, as3, rfl, f1, f2, f3, f4, f5⟩ := (hC x (List.mem_of_getElem? hjx)).same s9
          simp only [L2.start, List.map_cons, List.map_nil, List.length_cons, List.length_nil, Nat.zero_add, Nat.reduceAdd, Nat.reduceSub, List.replicate_succ, List.replicate_zero, List.cons_append, List.nil_append, List.append_nil, L2.tNext, L2.tAsg, L2.gName, L2.tRet, L2.tRetN, L2.tIfS, L2.tVar, L2.tC, L2.tOp, L2.tUn, L2.rI, L2.rI0, L2.rU, L2.rEq, L2.rNe, L2.tTest, L2.tB, L2.tIf, Z.tIfCI, Z.tIfCS, L2.tChain, L2.tCons, L2.tNil, L2.tCall, L2.tDrop, L2.tAndV, L2.tOrV, L2.tNotV, L2.tAnd, L2.tOr, L2.tNot, L2.tCB, Z.sc_ii, Z.sc_ss, Z.sc_bb, Z.sc_is, Z.sc_si, Z.sc_ni, Z.sc_in, Z.sc_ns, Z.sc_sn, Z.sc_nn, L2.CDiv, L2.CPow, L2.CMul, List.getElem?_cons_zero, List.getElem?_cons_succ, Z.set_z, Z.set_s, Option.some.injEq, L2.V.int.injEq, L2.V.bl.injEq, L2.V.str.injEq, L2.V.ref.injEq, L2.V.ty.injEq, List.cons.injEq, exists_eq_left', exists_and_left, exists_eq_left, exists_eq_right, exists_eq_right', exists_eq', exists_eq, true_and, and_true, and_assoc, decide_eq_true_eq, Int.reduceLT, and_self, Z.rIxH, Z.rIxU, Z.at30, Z.at31, Z.at32, Z.ix3_0, Z.ix3_1, Z.ix3_2, L2.rSetL, L2.gSub, Z.gTupH, L2.gCons, L2.gNil, L2.HO.lst.injEq, L2.HO.tup.injEq, L2.upd_same, L2.upd_upd, L2.tSl, L2.tNoPart, L2.tPart, L2.rSlL, L2.rCat, List.length_append, or_false, false_or, or_true, true_or, reduceCtorEq, false_and, and_false, exists_false, Int.reduceNeg, Int.reducePow, Int.reduceToNat, Int.reduceAbs, Int.reduceLE, Int.reduceMul, Int.reduceAdd, Int.reduceSub, Nat.reducePow, Nat.reduceLT, Nat.reduceLeDiff, Int.natAbs_natCast, if_true, if_false, Z.rIsN, Z.tyN, Z.kit_ii, Z.kit_bi, Z.kit_si, Z.kit_ni, Z.kit_ib, Z.kit_bb, Z.kit_sb, Z.kit_nb, Z.kit_is, Z.kit_bs, Z.kit_ss, Z.kit_ns, Bool.not_true, Bool.not_false, L2.tTup, L2.tLst, L2.wipe, L2.tYes, Z.Turn1, L2.tNever, sizeLine_eq, Z.rInU, Z.rInH, L2.flatV, List.any_cons, List.any_nil, List.all_cons, List.all_nil, Bool.and_true, Bool.true_and, Bool.or_false, Bool.false_or, Z.tBML, L2.rAppend, Z.map_int_inj, Z.map_bl_inj, Z.rTupL, Z.rLstL, Z.rLstT, Z.rSortI, Z.rAnyH, Z.rAllH, Z.rSumH, Z.rLenL, Z.rLenU, List.length_map, L2.tPar, StX.tStar, L2.tDNewT, L2.tDIn, L2.sDPut, L2.tDGet, Z.tCallK0, List.getD_cons_zero, List.getD_cons_succ, sp_accepts, sp__law_draw, sp_certify_zigzag, sp__law_zigzag, sp__law_of, kind_inj, L2.rNotB]
          refine repr_cert hs (by omega) f1 f2 f3 f4 f5 ?_
          intro p1 hp1 p2 hp2 p3 hp3
          have n1 := same_new (o := .tup [.str "party", .str (kindS r), .int n, .ref A]) hp1
          have n2 := same_new (o := .tup []) hp2
          have n3 := same_new (o := .tup [.ref p1, .ref p2]) hp3
          have sn := (n1.trans n2).trans n3
          have eA9 := sn _ _ (s9 _ _ eA2)
          have prA9 := tups_same sn (tups_same s9 prA2)
          refine repr_cert hs (by omega) upd_same (n3 _ _ (n2 _ _ upd_same)) (n3 _ _ upd_same) eA9 prA9 ⟨rfl, ?_⟩
          rw [decide_eq_true rfl, if_neg (by decide)]
          have f5' := tups_same sn f5
          have kA3 := known_party (sn _ _ f4) f5' hz1 hz2
          have hok := party_ok hs (sn _ _ f4) f5' (zz_party hs)
          refine ⟨_, sn _ _ f1, _, atI_int (by decide) rfl, _, sn _ _ f1, _, atI_int (by decide) rfl, c, rfl, u, rfl, r, .int n, .ref A3, sn _ _ f2, sn _ _ f3, known_int n, kA3, fun H' s => ?_⟩
          rw [decide_eq_true hok, if_neg (by decide)]
          exact hN2 _ _ ⟨_, rfl, s9.trans (sn.trans s)⟩
        · rintro σ H9 ⟨v6, rfl, s9⟩
          have kp9 := kp6.same s9
          have eA9 := s9 _ _ eA2
          have prA9 := tups_same s9 prA2
          have hbl : (bs.length : Int) = 1 + d := by
            rw [paired_len prA9]
            unfold zz
            rw [List.length_map, ups_len]
            omega
          clear kp6 eA2 prA2 C1 C2 hC eL s9
          refine z_seq ?_
          simp only [L2.start, List.map_cons, List.map_nil, List.length_cons, List.length_nil, Nat.zero_add, Nat.reduceAdd, Nat.reduceSub, List.replicate_succ, List.replicate_zero, List.cons_append, List.nil_append, List.append_nil, L2.tNext, L2.tAsg, L2.gName, L2.tRet, L2.tRetN, L2.tIfS, L2.tVar, L2.tC, L2.tOp, L2.tUn, L2.rI, L2.rI0, L2.rU, L2.rEq, L2.rNe, L2.tTest, L2.tB, L2.tIf, Z.tIfCI, Z.tIfCS, L2.tChain, L2.tCons, L2.tNil, L2.tCall, L2.tDrop, L2.tAndV, L2.tOrV, L2.tNotV, L2.tAnd, L2.tOr, L2.tNot, L2.tCB, Z.sc_ii, Z.sc_ss, Z.sc_bb, Z.sc_is, Z.sc_si, Z.sc_ni, Z.sc_in, Z.sc_ns, Z.sc_sn, Z.sc_nn, L2.CDiv, L2.CPow, L2.CMul, List.getElem?_cons_zero, List.getElem?_cons_succ, Z.set_z, Z.set_s, Option.some.injEq, L2.V.int.injEq, L2.V.bl.injEq, L2.V.str.injEq, L2.V.ref.injEq, L2.V.ty.injEq, List.cons.injEq, exists_eq_left', exists_and_left, exists_eq_left, exists_eq_right, exists_eq_right', exists_eq', exists_eq, true_and, and_true, and_assoc, decide_eq_true_eq, Int.reduceLT, and_self, Z.rIxH, Z.rIxU, Z.at30, Z.at31, Z.at32, Z.ix3_0, Z.ix3_1, Z.ix3_2, L2.rSetL, L2.gSub, Z.gTupH, L2.gCons, L2.gNil, L2.HO.lst.injEq, L2.HO.tup.injEq, L2.upd_same, L2.upd_upd, L2.tSl, L2.tNoPart, L2.tPart, L2.rSlL, L2.rCat, List.length_append, or_false, false_or, or_true, true_or, reduceCtorEq, false_and, and_false, exists_false, Int.reduceNeg, Int.reducePow, Int.reduceToNat, Int.reduceAbs, Int.reduceLE, Int.reduceMul, Int.reduceAdd, Int.reduceSub, Nat.reducePow, Nat.reduceLT, Nat.reduceLeDiff, Int.natAbs_natCast, if_true, if_false, Z.rIsN, Z.tyN, Z.kit_ii, Z.kit_bi, Z.kit_si, Z.kit_ni, Z.kit_ib, Z.kit_bb, Z.kit_sb, Z.kit_nb, Z.kit_is, Z.kit_bs, Z.kit_ss, Z.kit_ns, Bool.not_true, Bool.not_false, L2.tTup, L2.tLst, L2.wipe, L2.tYes, Z.Turn1, L2.tNever, sizeLine_eq, Z.rInU, Z.rInH, L2.flatV, List.any_cons, List.any_nil, List.all_cons, List.all_nil, Bool.and_true, Bool.true_and, Bool.or_false, Bool.false_or, Z.tBML, L2.rAppend, Z.map_int_inj, Z.map_bl_inj, Z.rTupL, Z.rLstL, Z.rLstT, Z.rSortI, Z.rAnyH, Z.rAllH, Z.rSumH, Z.rLenL, Z.rLenU, List.length_map, L2.tPar, StX.tStar, L2.tDNewT, L2.tDIn, L2.sDPut, L2.tDGet, Z.tCallK0, List.getD_cons_zero, List.getD_cons_succ, sp_accepts, sp__law_draw, sp_certify_zigzag, sp__law_zigzag, sp__law_of]
          refine z_seq ?_
          simp only [L2.start, List.map_cons, List.map_nil, List.length_cons, List.length_nil, Nat.zero_add, Nat.reduceAdd, Nat.reduceSub, List.replicate_succ, List.replicate_zero, List.cons_append, List.nil_append, List.append_nil, L2.tNext, L2.tAsg, L2.gName, L2.tRet, L2.tRetN, L2.tIfS, L2.tVar, L2.tC, L2.tOp, L2.tUn, L2.rI, L2.rI0, L2.rU, L2.rEq, L2.rNe, L2.tTest, L2.tB, L2.tIf, Z.tIfCI, Z.tIfCS, L2.tChain, L2.tCons, L2.tNil, L2.tCall, L2.tDrop, L2.tAndV, L2.tOrV, L2.tNotV, L2.tAnd, L2.tOr, L2.tNot, L2.tCB, Z.sc_ii, Z.sc_ss, Z.sc_bb, Z.sc_is, Z.sc_si, Z.sc_ni, Z.sc_in, Z.sc_ns, Z.sc_sn, Z.sc_nn, L2.CDiv, L2.CPow, L2.CMul, List.getElem?_cons_zero, List.getElem?_cons_succ, Z.set_z, Z.set_s, Option.some.injEq, L2.V.int.injEq, L2.V.bl.injEq, L2.V.str.injEq, L2.V.ref.injEq, L2.V.ty.injEq, List.cons.injEq, exists_eq_left', exists_and_left, exists_eq_left, exists_eq_right, exists_eq_right', exists_eq', exists_eq, true_and, and_true, and_assoc, decide_eq_true_eq, Int.reduceLT, and_self, Z.rIxH, Z.rIxU, Z.at30, Z.at31, Z.at32, Z.ix3_0, Z.ix3_1, Z.ix3_2, L2.rSetL, L2.gSub, Z.gTupH, L2.gCons, L2.gNil, L2.HO.lst.injEq, L2.HO.tup.injEq, L2.upd_same, L2.upd_upd, L2.tSl, L2.tNoPart, L2.tPart, L2.rSlL, L2.rCat, List.length_append, or_false, false_or, or_true, true_or, reduceCtorEq, false_and, and_false, exists_false, Int.reduceNeg, Int.reducePow, Int.reduceToNat, Int.reduceAbs, Int.reduceLE, Int.reduceMul, Int.reduceAdd, Int.reduceSub, Nat.reducePow, Nat.reduceLT, Nat.reduceLeDiff, Int.natAbs_natCast, if_true, if_false, Z.rIsN, Z.tyN, Z.kit_ii, Z.kit_bi, Z.kit_si, Z.kit_ni, Z.kit_ib, Z.kit_bb, Z.kit_sb, Z.kit_nb, Z.kit_is, Z.kit_bs, Z.kit_ss, Z.kit_ns, Bool.not_true, Bool.not_false, L2.tTup, L2.tLst, L2.wipe, L2.tYes, Z.Turn1, L2.tNever, sizeLine_eq, Z.rInU, Z.rInH, L2.flatV, List.any_cons, List.any_nil, List.all_cons, List.all_nil, Bool.and_true, Bool.true_and, Bool.or_false, Bool.false_or, Z.tBML, L2.rAppend, Z.map_int_inj, Z.map_bl_inj, Z.rTupL, Z.rLstL, Z.rLstT, Z.rSortI, Z.rAnyH, Z.rAllH, Z.rSumH, Z.rLenL, Z.rLenU, List.length_map, L2.tPar, StX.tStar, L2.tDNewT, L2.tDIn, L2.sDPut, L2.tDGet, Z.tCallK0, List.getD_cons_zero, List.getD_cons_succ, sp_accepts, sp__law_draw, sp_certify_zigzag, sp__law_zigzag, sp__law_of]
          refine ⟨_, eA9, kp9.sp, by rw [List.length_map]; omega, by rw [List.length_map]; omega, fun e0 H10 kpA he0 he1 => ⟨kpA.sp, by omega, by omega, fun a0 H11 kpB ha0 ha1 => ?_⟩⟩
          rw [List.length_map] at he1
          obtain ⟨e, rfl⟩ : ∃ e : Nat, e0 = e := ⟨e0.toNat, by omega⟩
          obtain ⟨a, rfl⟩ : ∃ a : Nat, a0 = a := ⟨a0.toNat, by omega⟩
          have eAB := tup_kp (kpA.trans kpB) kp9.sp eA9
          have prAB := tups_kp (kpA.trans kpB) kp9.sp prA9
          have kpC := (kp9.trans kpA).trans kpB
          clear kpA kpB eA9 prA9 kp9
          have hek : (e : Int) < 1 + d := by omega
          obtain ⟨t, ht, et⟩ := paired_get' (F := TupAt H11) (i := e) (b := evL r n e) prAB (by
            unfold zz
            rw [List.getElem?_map, ups_get (by omega)]
            rfl)
          have hlen : (evL r n e).length = n.toNat := evL_len r n e
          refine z_seq ?_
          simp only [L2.start, List.map_cons, List.map_nil, List.length_cons, List.length_nil, Nat.zero_add, Nat.reduceAdd, Nat.reduceSub, List.replicate_succ, List.replicate_zero, List.cons_append, List.nil_append, List.append_nil, L2.tNext, L2.tAsg, L2.gName, L2.tRet, L2.tRetN, L2.tIfS, L2.tVar, L2.tC, L2.tOp, L2.tUn, L2.rI, L2.rI0, L2.rU, L2.rEq, L2.rNe, L2.tTest, L2.tB, L2.tIf, Z.tIfCI, Z.tIfCS, L2.tChain, L2.tCons, L2.tNil, L2.tCall, L2.tDrop, L2.tAndV, L2.tOrV, L2.tNotV, L2.tAnd, L2.tOr, L2.tNot, L2.tCB, Z.sc_ii, Z.sc_ss, Z.sc_bb, Z.sc_is, Z.sc_si, Z.sc_ni, Z.sc_in, Z.sc_ns, Z.sc_sn, Z.sc_nn, L2.CDiv, L2.CPow, L2.CMul, List.getElem?_cons_zero, List.getElem?_cons_succ, Z.set_z, Z.set_s, Option.some.injEq, L2.V.int.injEq, L2.V.bl.injEq, L2.V.str.injEq, L2.V.ref.injEq, L2.V.ty.injEq, List.cons.injEq, exists_eq_left', exists_and_left, exists_eq_left, exists_eq_right, exists_eq_right', exists_eq', exists_eq, true_and, and_true, and_assoc, decide_eq_true_eq, Int.reduceLT, and_self, Z.rIxH, Z.rIxU, Z.at30, Z.at31, Z.at32, Z.ix3_0, Z.ix3_1, Z.ix3_2, L2.rSetL, L2.gSub, Z.gTupH, L2.gCons, L2.gNil, L2.HO.lst.injEq, L2.HO.tup.injEq, L2.upd_same, L2.upd_upd, L2.tSl, L2.tNoPart, L2.tPart, L2.rSlL, L2.rCat, List.length_append, or_false, false_or, or_true, true_or, reduceCtorEq, false_and, and_false, exists_false, Int.reduceNeg, Int.reducePow, Int.reduceToNat, Int.reduceAbs, Int.reduceLE, Int.reduceMul, Int.reduceAdd, Int.reduceSub, Nat.reducePow, Nat.reduceLT, Nat.reduceLeDiff, Int.natAbs_natCast, if_true, if_false, Z.rIsN, Z.tyN, Z.kit_ii, Z.kit_bi, Z.kit_si, Z.kit_ni, Z.kit_ib, Z.kit_bb, Z.kit_sb, Z.kit_nb, Z.kit_is, Z.kit_bs, Z.kit_ss, Z.kit_ns, Bool.not_true, Bool.not_false, L2.tTup, L2.tLst, L2.wipe, L2.tYes, Z.Turn1, L2.tNever, sizeLine_eq, Z.rInU, Z.rInH, L2.flatV, List.any_cons, List.any_nil, List.all_cons, List.all_nil, Bool.and_true, Bool.true_and, Bool.or_false, Bool.false_or, Z.tBML, L2.rAppend, Z.map_int_inj, Z.map_bl_inj, Z.rTupL, Z.rLstL, Z.rLstT, Z.rSortI, Z.rAnyH, Z.rAllH, Z.rSumH, Z.rLenL, Z.rLenU, List.length_map, L2.tPar, StX.tStar, L2.tDNewT, L2.tDIn, L2.sDPut, L2.tDGet, Z.tCallK0, List.getD_cons_zero, List.getD_cons_succ, sp_accepts, sp__law_draw, sp_certify_zigzag, sp__law_zigzag, sp__law_of]
          refine ⟨_, eAB, .ref t, atI_nat (by rw [List.getElem?_map, ht]; rfl), t, rfl, _, et, fun S hS => ⟨kpC.sp.new hS, by omega, by omega, fun g H12 kpD hg0 hg1 => ⟨by omega, ?_⟩⟩⟩
          have hSp := kpC.sp.ne hS
          have eS := kpD.keep S _ hSp upd_same
          obtain ⟨b, hb, hbn, hba⟩ : ∃ b : Nat, ((a : Int) + 1 + g) % n = b ∧ (b : Int) < n ∧ a ≠ b := by
            have h := emod3 (a := (a : Int) + 1 + g) (n := n) (by omega) (by omega) (by omega)
            rw [if_neg (by omega)] at h
            by_cases c : (a : Int) + 1 + g < n
            · rw [if_pos c] at h
              exact ⟨((a : Int) + 1 + g).toNat, by omega, by omega, by omega⟩
            · rw [if_neg c] at h
              exact ⟨((a : Int) + 1 + g - n).toNat, by omega, by omega, by omega⟩
          rw [hb]
          refine z_seq ?_
          simp only [L2.start, List.map_cons, List.map_nil, List.length_cons, List.length_nil, Nat.zero_add, Nat.reduceAdd, Nat.reduceSub, List.replicate_succ, List.replicate_zero, List.cons_append, List.nil_append, List.append_nil, L2.tNext, L2.tAsg, L2.gName, L2.tRet, L2.tRetN, L2.tIfS, L2.tVar, L2.tC, L2.tOp, L2.tUn, L2.rI, L2.rI0, L2.rU, L2.rEq, L2.rNe, L2.tTest, L2.tB, L2.tIf, Z.tIfCI, Z.tIfCS, L2.tChain, L2.tCons, L2.tNil, L2.tCall, L2.tDrop, L2.tAndV, L2.tOrV, L2.tNotV, L2.tAnd, L2.tOr, L2.tNot, L2.tCB, Z.sc_ii, Z.sc_ss, Z.sc_bb, Z.sc_is, Z.sc_si, Z.sc_ni, Z.sc_in, Z.sc_ns, Z.sc_sn, Z.sc_nn, L2.CDiv, L2.CPow, L2.CMul, List.getElem?_cons_zero, List.getElem?_cons_succ, Z.set_z, Z.set_s, Option.some.injEq, L2.V.int.injEq, L2.V.bl.injEq, L2.V.str.injEq, L2.V.ref.injEq, L2.V.ty.injEq, List.cons.injEq, exists_eq_left', exists_and_left, exists_eq_left, exists_eq_right, exists_eq_right', exists_eq', exists_eq, true_and, and_true, and_assoc, decide_eq_true_eq, Int.reduceLT, and_self, Z.rIxH, Z.rIxU, Z.at30, Z.at31, Z.at32, Z.ix3_0, Z.ix3_1, Z.ix3_2, L2.rSetL, L2.gSub, Z.gTupH, L2.gCons, L2.gNil, L2.HO.lst.injEq, L2.HO.tup.injEq, L2.upd_same, L2.upd_upd, L2.tSl, L2.tNoPart, L2.tPart, L2.rSlL, L2.rCat, List.length_append, or_false, false_or, or_true, true_or, reduceCtorEq, false_and, and_false, exists_false, Int.reduceNeg, Int.reducePow, Int.reduceToNat, Int.reduceAbs, Int.reduceLE, Int.reduceMul, Int.reduceAdd, Int.reduceSub, Nat.reducePow, Nat.reduceLT, Nat.reduceLeDiff, Int.natAbs_natCast, if_true, if_false, Z.rIsN, Z.tyN, Z.kit_ii, Z.kit_bi, Z.kit_si, Z.kit_ni, Z.kit_ib, Z.kit_bb, Z.kit_sb, Z.kit_nb, Z.kit_is, Z.kit_bs, Z.kit_ss, Z.kit_ns, Bool.not_true, Bool.not_false, L2.tTup, L2.tLst, L2.wipe, L2.tYes, Z.Turn1, L2.tNever, sizeLine_eq, Z.rInU, Z.rInH, L2.flatV, List.any_cons, List.any_nil, List.all_cons, List.all_nil, Bool.and_true, Bool.true_and, Bool.or_false, Bool.false_or, Z.tBML, L2.rAppend, Z.map_int_inj, Z.map_bl_inj, Z.rTupL, Z.rLstL, Z.rLstT, Z.rSortI, Z.rAnyH, Z.rAllH, Z.rSumH, Z.rLenL, Z.rLenU, List.length_map, L2.tPar, StX.tStar, L2.tDNewT, L2.tDIn, L2.sDPut, L2.tDGet, Z.tCallK0, List.getD_cons_zero, List.getD_cons_succ, sp_accepts, sp__law_draw, sp_certify_zigzag, sp__law_zigzag, sp__law_of]
          have hal : a < (evL r n e).length := by omega
          have hbl2 : b < (evL r n e).length := by omega
          have sw := swap_set hal hbl2 hba
          refine ⟨_, eS, _, getD_at (by omega) (by omega), _, eS, _, getD_at (by omega) (by omega), fun p1 hp1 => ⟨_, same_new hp1 _ _ eS, a, ixN_nat (by rw [List.length_map]; exact hal), b, ixN_nat (by rw [List.length_set, List.length_map]; exact hbl2), ?_⟩⟩
          rw [Int.toNat_natCast, Int.toNat_natCast, ← List.map_set, ← List.map_set]
          generalize hm : ((evL r n e).set a ((evL r n e).getD b 0)).set b ((evL r n e).getD a 0) = m at sw ⊢
          have hSH := kpC.free hSp hS
          have hAS : A ≠ S := ne_of_none eAB hS
          have kpE := ((((kpC.new (o := .lst ((evL r n e).map V.int)) hS).trans kpD).new (o := .tup [.int ((evL r n e).getD b 0), .int ((evL r n e).getD a 0)]) hp1).mut (o := .lst (m.map V.int)) hSp hSH)
          have sAB := same_new (o := .lst ((evL r n e).map V.int)) hS
          have eA13 : upd (upd H12 p1 (.tup [.int ((evL r n e).getD b 0), .int ((evL r n e).getD a 0)])) S (.lst (m.map V.int)) A = some (.tup (bs.map V.ref)) := by
            rw [upd_ne hAS]
            exact same_new hp1 _ _ (tup_kp kpD (kpC.sp.new hS) (sAB _ _ eAB))
          have prA13 : Paired (TupAt (upd (upd H12 p1 (.tup [.int ((evL r n e).getD b 0), .int ((evL r n e).getD a 0)])) S (.lst (m.map V.int)))) bs (zz r n) :=
            tups_upd (same_new hp1 _ _ eS) (tups_same (same_new hp1) (tups_kp kpD (kpC.sp.new hS) (tups_same sAB prAB)))
          have eS13 : upd (upd H12 p1 (.tup [.int ((evL r n e).getD b 0), .int ((evL r n e).getD a 0)])) S (.lst (m.map V.int)) S = some (.lst (m.map V.int)) := upd_same
          generalize upd (upd H12 p1 (.tup [.int ((evL r n e).getD b 0), .int ((evL r n e).getD a 0)])) S (.lst (m.map V.int)) = H13 at kpE eA13 prA13 eS13 ⊢
          clear sAB hAS hSH hSp hS eS kpD kpC eAB prAB hp1
          refine z_seq ?_
          simp only [L2.start, List.map_cons, List.map_nil, List.length_cons, List.length_nil, Nat.zero_add, Nat.reduceAdd, Nat.reduceSub, List.replicate_succ, List.replicate_zero, List.cons_append, List.nil_append, List.append_nil, L2.tNext, L2.tAsg, L2.gName, L2.tRet, L2.tRetN, L2.tIfS, L2.tVar, L2.tC, L2.tOp, L2.tUn, L2.rI, L2.rI0, L2.rU, L2.rEq, L2.rNe, L2.tTest, L2.tB, L2.tIf, Z.tIfCI, Z.tIfCS, L2.tChain, L2.tCons, L2.tNil, L2.tCall, L2.tDrop, L2.tAndV, L2.tOrV, L2.tNotV, L2.tAnd, L2.tOr, L2.tNot, L2.tCB, Z.sc_ii, Z.sc_ss, Z.sc_bb, Z.sc_is, Z.sc_si, Z.sc_ni, Z.sc_in, Z.sc_ns, Z.sc_sn, Z.sc_nn, L2.CDiv, L2.CPow, L2.CMul, List.getElem?_cons_zero, List.getElem?_cons_succ, Z.set_z, Z.set_s, Option.some.injEq, L2.V.int.injEq, L2.V.bl.injEq, L2.V.str.injEq, L2.V.ref.injEq, L2.V.ty.injEq, List.cons.injEq, exists_eq_left', exists_and_left, exists_eq_left, exists_eq_right, exists_eq_right', exists_eq', exists_eq, true_and, and_true, and_assoc, decide_eq_true_eq, Int.reduceLT, and_self, Z.rIxH, Z.rIxU, Z.at30, Z.at31, Z.at32, Z.ix3_0, Z.ix3_1, Z.ix3_2, L2.rSetL, L2.gSub, Z.gTupH, L2.gCons, L2.gNil, L2.HO.lst.injEq, L2.HO.tup.injEq, L2.upd_same, L2.upd_upd, L2.tSl, L2.tNoPart, L2.tPart, L2.rSlL, L2.rCat, List.length_append, or_false, false_or, or_true, true_or, reduceCtorEq, false_and, and_false, exists_false, Int.reduceNeg, Int.reducePow, Int.reduceToNat, Int.reduceAbs, Int.reduceLE, Int.reduceMul, Int.reduceAdd, Int.reduceSub, Nat.reducePow, Nat.reduceLT, Nat.reduceLeDiff, Int.natAbs_natCast, if_true, if_false, Z.rIsN, Z.tyN, Z.kit_ii, Z.kit_bi, Z.kit_si, Z.kit_ni, Z.kit_ib, Z.kit_bb, Z.kit_sb, Z.kit_nb, Z.kit_is, Z.kit_bs, Z.kit_ss, Z.kit_ns, Bool.not_true, Bool.not_false, L2.tTup, L2.tLst, L2.wipe, L2.tYes, Z.Turn1, L2.tNever, sizeLine_eq, Z.rInU, Z.rInH, L2.flatV, List.any_cons, List.any_nil, List.all_cons, List.all_nil, Bool.and_true, Bool.true_and, Bool.or_false, Bool.false_or, Z.tBML, L2.rAppend, Z.map_int_inj, Z.map_bl_inj, Z.rTupL, Z.rLstL, Z.rLstT, Z.rSortI, Z.rAnyH, Z.rAllH, Z.rSumH, Z.rLenL, Z.rLenU, List.length_map, L2.tPar, StX.tStar, L2.tDNewT, L2.tDIn, L2.sDPut, L2.tDGet, Z.tCallK0, List.getD_cons_zero, List.getD_cons_succ, sp_accepts, sp__law_draw, sp_certify_zigzag, sp__law_zigzag, sp__law_of]
          refine cat_front eA13 (by omega) fun x H14 s14 hx => ?_
          refine ⟨_, s14 _ _ eS13, fun B hB p2 hp2 => ?_⟩
          have n4 := same_new (o := .tup (m.map V.int)) hB
          have n5 := same_new (o := .tup [.ref B]) hp2
          have s16 := (s14.trans n4).trans n5
          refine cat_mid (xs := (bs.take e).map V.ref) (v := .ref B) (by
            obtain ⟨a1, h1, h2⟩ := hx
            exact ⟨a1, h1, (n4.trans n5) _ _ h2⟩) upd_same (by rw [List.length_map, List.length_take]; omega) fun y H17 s17 hy => ?_
          have sA := s16.trans s17
          refine cat_cut (b := B) (sA _ _ eA13) (by omega) (by omega) hy fun C H18 s18 eC => ?_
          have eB18 : TupAt H18 B m := s18 _ _ (s17 _ _ (n5 _ _ upd_same))
          have prC : Paired (TupAt H18) (bs.set e B) ((zz r n).set e m) := paired_set eB18 e (tups_same (sA.trans s18) prA13)
          have kpF := kpE.same (sA.trans s18)
          have hml : m.length = n.toNat := by rw [sw.len, hlen]
          clear s16 s17 s18 s14 n4 n5 hB hp2 hx hy sA eB18
          split
          · intro c1 hc1 c2 hc2
            have n1 := same_new (o := .tup [.str "party", .str (kindS r), .int n, .ref C]) hc1
            have n2 := same_new (o := .tup []) hc2
            have n12 := n1.trans n2
            refine ⟨r, .int n, .ref C, n2 _ _ upd_same, known_int n, known_party (n12 _ _ eC) (tups_same n12 prC) (by rw [List.length_set]; exact hz1) (fun l hl => ?_), fun H' s => ⟨_, false, rfl, rfl, _, rfl, ?_⟩⟩
            · rcases List.mem_or_eq_of_mem_set hl with h | h
              · exact hz2 l h
              · rw [h]
                omega
            · have hbad : ¬ wrongR r (upd (upd H18 c1 (.tup [.str "party", .str (kindS r), .int n, .ref C])) c2 (.tup [])) (.int n) (.ref C) = .ok := fun h => by
                have h1 := (wrongFrom_ok _ _ _).mp (ok_from (n12 _ _ eC) (tups_same n12 prC) h)
                exact zz_bent hs (by omega) (e := e) (i := a) (j := b) hek (by omega) (by omega) hba sw h1.2
              rw [decide_eq_false hbad, if_neg (by decide)]
              exact kpF.same (n12.trans s)
          · exact kpF
    · rintro σ H' ⟨v1, v2, v3, v4, v5, v6, v7, v8, v9, v10, rfl, kp⟩
      simp only [L2.start, List.map_cons, List.map_nil, List.length_cons, List.length_nil, Nat.zero_add, Nat.reduceAdd, Nat.reduceSub, List.replicate_succ, List.replicate_zero, List.cons_append, List.nil_append, List.append_nil, L2.tSeq, L2.tNext, L2.tAsg, L2.gName, L2.tRet, L2.tRetN, L2.tIfS, L2.tVar, L2.tC, L2.tOp, L2.tUn, L2.rI, L2.rI0, L2.rU, L2.rEq, L2.rNe, L2.tTest, L2.tB, L2.tIf, Z.tIfCI, Z.tIfCS, L2.tChain, L2.tCons, L2.tNil, L2.tCall, L2.tDrop, L2.tAndV, L2.tOrV, L2.tNotV, L2.tAnd, L2.tOr, L2.tNot, L2.tCB, Z.sc_ii, Z.sc_ss, Z.sc_bb, Z.sc_is, Z.sc_si, Z.sc_ni, Z.sc_in, Z.sc_ns, Z.sc_sn, Z.sc_nn, L2.CDiv, L2.CPow, L2.CMul, List.getElem?_cons_zero, List.getElem?_cons_succ, Z.set_z, Z.set_s, Option.some.injEq, L2.V.int.injEq, L2.V.bl.injEq, L2.V.str.injEq, L2.V.ref.injEq, L2.V.ty.injEq, List.cons.injEq, exists_eq_left', exists_and_left, exists_eq_left, exists_eq_right, exists_eq_right', exists_eq', exists_eq, true_and, and_true, and_assoc, decide_eq_true_eq, Int.reduceLT, and_self, Z.rIxH, Z.rIxU, Z.at30, Z.at31, Z.at32, Z.ix3_0, Z.ix3_1, Z.ix3_2, L2.rSetL, L2.gSub, Z.gTupH, L2.gCons, L2.gNil, L2.HO.lst.injEq, L2.HO.tup.injEq, L2.upd_same, L2.upd_upd, L2.tSl, L2.tNoPart, L2.tPart, L2.rSlL, L2.rCat, List.length_append, or_false, false_or, or_true, true_or, reduceCtorEq, false_and, and_false, exists_false, Int.reduceNeg, Int.reducePow, Int.reduceToNat, Int.reduceAbs, Int.reduceLE, Int.reduceMul, Int.reduceAdd, Int.reduceSub, Nat.reducePow, Nat.reduceLT, Nat.reduceLeDiff, Int.natAbs_natCast, if_true, if_false, Z.rIsN, Z.tyN, Z.kit_ii, Z.kit_bi, Z.kit_si, Z.kit_ni, Z.kit_ib, Z.kit_bb, Z.kit_sb, Z.kit_nb, Z.kit_is, Z.kit_bs, Z.kit_ss, Z.kit_ns, Bool.not_true, Bool.not_false, L2.tTup, L2.tLst, L2.wipe, L2.tYes, Z.Turn1, L2.tNever, sizeLine_eq, Z.rInU, Z.rInH, L2.flatV, List.any_cons, List.any_nil, List.all_cons, List.all_nil, Bool.and_true, Bool.true_and, Bool.or_false, Bool.false_or, Z.tBML, L2.rAppend, Z.map_int_inj, Z.map_bl_inj, Z.rTupL, Z.rLstL, Z.rLstT, Z.rSortI, Z.rAnyH, Z.rAllH, Z.rSumH, Z.rLenL, Z.rLenU, List.length_map, L2.tPar, StX.tStar, L2.tDNewT, L2.tDIn, L2.sDPut, L2.tDGet, Z.tCallK0, List.getD_cons_zero, List.getD_cons_succ, sp_accepts, sp__law_draw, sp_certify_zigzag, sp__law_zigzag, sp__law_of]
      exact q _ kp
open Zig
def sp_law (K : PySem.W.Frag) : Sp := fun vs H Q _ => ∃ (a : Addr) (ns : List Int), vs = [.ref a] ∧ SqL K H a (ns.map V.int) ∧ ns.length ≤ 63 ∧ ∀ H', Q (.bl true) H'
theorem ok_law (T : Env w K mg) : HdG P w K mg base CX0 8 "law" s_law ["_law_cells"] (sp_law K) := by
  have H__law_right := ok__law_right (P := P) (w := w) (base := base) T
  have H__law_spring := ok__law_spring (P := P) (w := w) (base := base) T
  obtain ⟨f, fd, F, hm⟩ := T.d_law
  refine ⟨⟨f, fd, F, hm, ?_⟩, fun _ _ _ _ _ _ _ us hl => match us, hl with | [_], _ => rfl⟩
  refine fun_okG F sc_law (fun vs H Q E h => ?_) (fun cdv A outer s H vs Q E hr gd h => ?_)
  · first | (obtain ⟨rfl, _⟩ := h; rfl) | (obtain ⟨_, rfl, _⟩ := h; rfl) | (obtain ⟨_, _, rfl, _⟩ := h; rfl) | (obtain ⟨_, _, _, rfl, _⟩ := h; rfl) | (obtain ⟨_, _, _, _, rfl, _⟩ := h; rfl) | (obtain ⟨_, _, _, _, _, rfl, _⟩ := h; rfl) | (obtain ⟨_, _, _, _, _, _, rfl, _⟩ := h; rfl) | (obtain ⟨_, _, _, _, _, _, _, rfl, _⟩ := h; rfl) | (obtain ⟨_, _, _, _, _, _, _, _, rfl, _⟩ := h; rfl)
  · obtain ⟨a, ns, rfl, hs, hl, q⟩ := h
    have hu := hu_of hr
    refine ⟨_, pss_cons (ps_setLc (i := 1) (own := [("_law_k", 2)]) (g := (gName 2)) (tt := tYes) rfl sc_law.nd rfl rfl (sw_true rfl rfl rfl (by decide +kernel)) (pi_range1 rfl T.b_range (pa_cons (pe_callB (call_max2 rfl) rfl T.b_max (by decide +kernel) (pa_cons pe_int (pa_cons (pe_callB (call_min2 rfl) rfl T.b_min (by decide +kernel) (pa_cons (pe_callB call_len_seq rfl T.b_len (by decide +kernel) (pa_cons (pv 0) pa_nil)) (pa_cons pe_int pa_nil))) pa_nil))) pa_nil)) (blkOk_by (own := [("_law_k", 2)]) (N := N_law) (sc := defScope s_law) (by decide +kernel)) (fun _ _ _ _ _ => pg_name (i := 2) sc_law.nd rfl (by first | exact .inl rfl | exact .inr rfl)) (fun _ _ _ _ _ => pts_nil) (fun _ _ _ _ _ => (pe_hd H__law_spring (hr.mono (by decide)) rfl pass0 (pa_cons (pv 0) (pa_cons (pv 2) pa_nil)))))
      (pss_one (ps_ret (pe_callB (cr_allH rfl) rfl T.b_all (by decide +kernel) (pa_cons (pe_lc (own := [("_law_spring_here", 3)]) (g := (gName 3)) (tt := tYes) rfl sc_law.nd (pi_list (pv 1)) (blkOk_by (own := [("_law_spring_here", 3)]) (N := N_law) (sc := defScope s_law) (by decide +kernel)) (fun _ _ _ _ _ => pg_name (i := 3) sc_law.nd rfl (by first | exact .inl rfl | exact .inr rfl)) (fun _ _ _ _ _ => pts_nil) (fun _ _ _ _ _ => (pe_hdG H__law_right (hr.mono (by decide)) gd rfl pass0 (pa_cons (pv 3) pa_nil)))) pa_nil)))), ?_⟩
    simp only [L2.start, List.map_cons, List.map_nil, List.length_cons, List.length_nil, Nat.zero_add, Nat.reduceAdd, Nat.reduceSub, List.replicate_succ, List.replicate_zero, List.cons_append, List.nil_append, List.append_nil, L2.tNext, L2.tAsg, L2.gName, L2.tRet, L2.tRetN, L2.tIfS, L2.tVar, L2.tC, L2.tOp, L2.tUn, L2.rI, L2.rI0, L2.rU, L2.rEq, L2.rNe, L2.tTest, L2.tB, L2.tIf, Z.tIfCI, Z.tIfCS, L2.tChain, L2.tCons, L2.tNil, L2.tCall, L2.tDrop, L2.tAndV, L2.tOrV, L2.tNotV, L2.tAnd, L2.tOr, L2.tNot, L2.tCB, Z.sc_ii, Z.sc_ss, Z.sc_bb, Z.sc_is, Z.sc_si, Z.sc_ni, Z.sc_in, Z.sc_ns, Z.sc_sn, Z.sc_nn, L2.CDiv, L2.CPow, L2.CMul, List.getElem?_cons_zero, List.getElem?_cons_succ, Z.set_z, Z.set_s, Option.some.injEq, L2.V.int.injEq, L2.V.bl.injEq, L2.V.str.injEq, L2.V.ref.injEq, L2.V.ty.injEq, List.cons.injEq, exists_eq_left', exists_and_left, exists_eq_left, exists_eq_right, exists_eq_right', exists_eq', exists_eq, true_and, and_true, and_assoc, decide_eq_true_eq, Int.reduceLT, and_self, Z.rIxH, Z.rIxU, Z.at30, Z.at31, Z.at32, Z.ix3_0, Z.ix3_1, Z.ix3_2, L2.rSetL, L2.gSub, Z.gTupH, L2.gCons, L2.gNil, L2.HO.lst.injEq, L2.HO.tup.injEq, L2.upd_same, L2.upd_upd, L2.tSl, L2.tNoPart, L2.tPart, L2.rSlL, L2.rCat, List.length_append, or_false, false_or, or_true, true_or, reduceCtorEq, false_and, and_false, exists_false, Int.reduceNeg, Int.reducePow, Int.reduceToNat, Int.reduceAbs, Int.reduceLE, Int.reduceMul, Int.reduceAdd, Int.reduceSub, Nat.reducePow, Nat.reduceLT, Nat.reduceLeDiff, Int.natAbs_natCast, if_true, if_false, Z.rIsN, Z.tyN, Z.kit_ii, Z.kit_bi, Z.kit_si, Z.kit_ni, Z.kit_ib, Z.kit_bb, Z.kit_sb, Z.kit_nb, Z.kit_is, Z.kit_bs, Z.kit_ss, Z.kit_ns, Bool.not_true, Bool.not_false, L2.tTup, L2.tLst, L2.wipe, L2.tYes, Z.Turn1, L2.tNever, sizeLine_eq, Z.rInU, Z.rInH, L2.flatV, List.any_cons, List.any_nil, List.all_cons, List.all_nil, Bool.and_true, Bool.true_and, Bool.or_false, Bool.false_or, Z.tBML, L2.rAppend, Z.map_int_inj, Z.map_bl_inj, Z.rTupL, Z.rLstL, Z.rLstT, Z.rSortI, Z.rAnyH, Z.rAllH, Z.rSumH, Z.rLenL, Z.rLenU, List.length_map, L2.tPar, StX.tStar, L2.tDNewT, L2.tDIn, L2.sDPut, L2.tDGet, Z.tCallK0, List.getD_cons_zero, List.getD_cons_succ, sp__law_right, sp__law_spring]
    exact tail_B (n := if (if (5 : Int) < ns.length then 5 else (ns.length : Int)) > 2 then (if (5 : Int) < ns.length then 5 else (ns.length : Int)) else 2) (fun R h => by
      simp only [L2.start, List.map_cons, List.map_nil, List.length_cons, List.length_nil, Nat.zero_add, Nat.reduceAdd, Nat.reduceSub, List.replicate_succ, List.replicate_zero, List.cons_append, List.nil_append, List.append_nil, L2.tNext, L2.tAsg, L2.gName, L2.tRet, L2.tRetN, L2.tIfS, L2.tVar, L2.tC, L2.tOp, L2.tUn, L2.rI, L2.rI0, L2.rU, L2.rEq, L2.rNe, L2.tTest, L2.tB, L2.tIf, Z.tIfCI, Z.tIfCS, L2.tChain, L2.tCons, L2.tNil, L2.tCall, L2.tDrop, L2.tAndV, L2.tOrV, L2.tNotV, L2.tAnd, L2.tOr, L2.tNot, L2.tCB, Z.sc_ii, Z.sc_ss, Z.sc_bb, Z.sc_is, Z.sc_si, Z.sc_ni, Z.sc_in, Z.sc_ns, Z.sc_sn, Z.sc_nn, L2.CDiv, L2.CPow, L2.CMul, List.getElem?_cons_zero, List.getElem?_cons_succ, Z.set_z, Z.set_s, Option.some.injEq, L2.V.int.injEq, L2.V.bl.injEq, L2.V.str.injEq, L2.V.ref.injEq, L2.V.ty.injEq, List.cons.injEq, exists_eq_left', exists_and_left, exists_eq_left, exists_eq_right, exists_eq_right', exists_eq', exists_eq, true_and, and_true, and_assoc, decide_eq_true_eq, Int.reduceLT, and_self, Z.rIxH, Z.rIxU, Z.at30, Z.at31, Z.at32, Z.ix3_0, Z.ix3_1, Z.ix3_2, L2.rSetL, L2.gSub, Z.gTupH, L2.gCons, L2.gNil, L2.HO.lst.injEq, L2.HO.tup.injEq, L2.upd_same, L2.upd_upd, L2.tSl, L2.tNoPart, L2.tPart, L2.rSlL, L2.rCat, List.length_append, or_false, false_or, or_true, true_or, reduceCtorEq, false_and, and_false, exists_false, Int.reduceNeg, Int.reducePow, Int.reduceToNat, Int.reduceAbs, Int.reduceLE, Int.reduceMul, Int.reduceAdd, Int.reduceSub, Nat.reducePow, Nat.reduceLT, Nat.reduceLeDiff, Int.natAbs_natCast, if_true, if_false, Z.rIsN, Z.tyN, Z.kit_ii, Z.kit_bi, Z.kit_si, Z.kit_ni, Z.kit_ib, Z.kit_bb, Z.kit_sb, Z.kit_nb, Z.kit_is, Z.kit_bs, Z.kit_ss, Z.kit_ns, Bool.not_true, Bool.not_false, L2.tTup, L2.tLst, L2.wipe, L2.tYes, Z.Turn1, L2.tNever, sizeLine_eq, Z.rInU, Z.rInH, L2.flatV, List.any_cons, List.any_nil, List.all_cons, List.all_nil, Bool.and_true, Bool.true_and, Bool.or_false, Bool.false_or, Z.tBML, L2.rAppend, Z.map_int_inj, Z.map_bl_inj, Z.rTupL, Z.rLstL, Z.rLstT, Z.rSortI, Z.rAnyH, Z.rAllH, Z.rSumH, Z.rLenL, Z.rLenU, List.length_map, L2.tPar, StX.tStar, L2.tDNewT, L2.tDIn, L2.sDPut, L2.tDGet, Z.tCallK0, List.getD_cons_zero, List.getD_cons_succ, sp__law_right, sp__law_spring]
      refine ⟨_, .inl hs, ?_⟩
      rw [List.length_map]
      exact h) (by split <;> split <;> omega) (fun k H' Q' E s1 h0 h1 hq => ⟨a, k, ns, rfl, s1.seq hs, hl, h0, (by revert h1; split <;> (try split) <;> omega), hq⟩) (fun p H' Q' E hp hq => ⟨p, rfl, hp, hq⟩) q
theorem all_mk {l : PySem.W.OpenLaw} {w : World} {K : PySem.W.Frag} {h : Heap} {mg : Str → Option Value} {fa : Addr} (X : K.In h) (G : h.Ns mainGlobals mg) (hfa : mg "law" = some (.ref fa))
    {f1 : Addr} {od1 an1 : Option Addr} {sl1 : Array (Option Value)} {oc1 kV1 dc1 pm1 cd1 ct1 : Value}
    (a1 : PySem.W.nsIn K mainGlobals "is_integer" = some (some (.ref f1))) (l1 : K.lookup f1 = some ⟨oc1, od1, .func (PySem.W.fnOf "is_integer" "is_integer" (defArgs s_is_integer) (defBody s_is_integer) (defScope s_is_integer) .none kV1 dc1 pm1 an1 cd1 ct1), sl1⟩) (c1 : PySem.W.codeIn K cd1 "is_integer" = true) (k1 : PySem.W.keepIn K (.ref f1) = true)
    {f2 : Addr} {od2 an2 : Option Addr} {sl2 : Array (Option Value)} {oc2 kV2 dc2 pm2 cd2 ct2 : Value}
    (a2 : PySem.W.nsIn K mainGlobals "is_between" = some (some (.ref f2))) (l2 : K.lookup f2 = some ⟨oc2, od2, .func (PySem.W.fnOf "is_between" "is_between" (defArgs s_is_between) (defBody s_is_between) (defScope s_is_between) .none kV2 dc2 pm2 an2 cd2 ct2), sl2⟩) (c2 : PySem.W.codeIn K cd2 "is_between" = true) (k2 : PySem.W.keepIn K (.ref f2) = true)
    {f3 : Addr} {od3 an3 : Option Addr} {sl3 : Array (Option Value)} {oc3 kV3 dc3 pm3 cd3 ct3 : Value}
    (a3 : PySem.W.nsIn K mainGlobals "is_size" = some (some (.ref f3))) (l3 : K.lookup f3 = some ⟨oc3, od3, .func (PySem.W.fnOf "is_size" "is_size" (defArgs s_is_size) (defBody s_is_size) (defScope s_is_size) .none kV3 dc3 pm3 an3 cd3 ct3), sl3⟩) (c3 : PySem.W.codeIn K cd3 "is_size" = true) (k3 : PySem.W.keepIn K (.ref f3) = true)
    {f4 : Addr} {od4 an4 : Option Addr} {sl4 : Array (Option Value)} {oc4 kV4 dc4 pm4 cd4 ct4 : Value}
    (a4 : PySem.W.nsIn K mainGlobals "evenings_for" = some (some (.ref f4))) (l4 : K.lookup f4 = some ⟨oc4, od4, .func (PySem.W.fnOf "evenings_for" "evenings_for" (defArgs s_evenings_for) (defBody s_evenings_for) (defScope s_evenings_for) .none kV4 dc4 pm4 an4 cd4 ct4), sl4⟩) (c4 : PySem.W.codeIn K cd4 "evenings_for" = true) (k4 : PySem.W.keepIn K (.ref f4) = true)
    {f5 : Addr} {od5 an5 : Option Addr} {sl5 : Array (Option Value)} {oc5 kV5 dc5 pm5 cd5 ct5 : Value}
    (a5 : PySem.W.nsIn K mainGlobals "check_kind" = some (some (.ref f5))) (l5 : K.lookup f5 = some ⟨oc5, od5, .func (PySem.W.fnOf "check_kind" "check_kind" (defArgs s_check_kind) (defBody s_check_kind) (defScope s_check_kind) .none kV5 dc5 pm5 an5 cd5 ct5), sl5⟩) (c5 : PySem.W.codeIn K cd5 "check_kind" = true) (k5 : PySem.W.keepIn K (.ref f5) = true)
    {f6 : Addr} {od6 an6 : Option Addr} {sl6 : Array (Option Value)} {oc6 kV6 dc6 pm6 cd6 ct6 : Value}
    (a6 : PySem.W.nsIn K mainGlobals "is_everybody" = some (some (.ref f6))) (l6 : K.lookup f6 = some ⟨oc6, od6, .func (PySem.W.fnOf "is_everybody" "is_everybody" (defArgs s_is_everybody) (defBody s_is_everybody) (defScope s_is_everybody) .none kV6 dc6 pm6 an6 cd6 ct6), sl6⟩) (c6 : PySem.W.codeIn K cd6 "is_everybody" = true) (k6 : PySem.W.keepIn K (.ref f6) = true)
    {f7 : Addr} {od7 an7 : Option Addr} {sl7 : Array (Option Value)} {oc7 kV7 dc7 pm7 cd7 ct7 : Value}
    (a7 : PySem.W.nsIn K mainGlobals "pairs_on" = some (some (.ref f7))) (l7 : K.lookup f7 = some ⟨oc7, od7, .func (PySem.W.fnOf "pairs_on" "pairs_on" (defArgs s_pairs_on) (defBody s_pairs_on) (defScope s_pairs_on) .none kV7 dc7 pm7 an7 cd7 ct7), sl7⟩) (c7 : PySem.W.codeIn K cd7 "pairs_on" = true) (k7 : PySem.W.keepIn K (.ref f7) = true)
    {f8 : Addr} {od8 an8 : Option Addr} {sl8 : Array (Option Value)} {oc8 kV8 dc8 pm8 cd8 ct8 : Value}
    (a8 : PySem.W.nsIn K mainGlobals "wrong_of" = some (some (.ref f8))) (l8 : K.lookup f8 = some ⟨oc8, od8, .func (PySem.W.fnOf "wrong_of" "wrong_of" (defArgs s_wrong_of) (defBody s_wrong_of) (defScope s_wrong_of) .none kV8 dc8 pm8 an8 cd8 ct8), sl8⟩) (c8 : PySem.W.codeIn K cd8 "wrong_of" = true) (k8 : PySem.W.keepIn K (.ref f8) = true)
    {f9 : Addr} {od9 an9 : Option Addr} {sl9 : Array (Option Value)} {oc9 kV9 dc9 pm9 cd9 ct9 : Value}
    (a9 : PySem.W.nsIn K mainGlobals "person_in" = some (some (.ref f9))) (l9 : K.lookup f9 = some ⟨oc9, od9, .func (PySem.W.fnOf "person_in" "person_in" (defArgs s_person_in) (defBody s_person_in) (defScope s_person_in) .none kV9 dc9 pm9 an9 cd9 ct9), sl9⟩) (c9 : PySem.W.codeIn K cd9 "person_in" = true) (k9 : PySem.W.keepIn K (.ref f9) = true)
    {f10 : Addr} {od10 an10 : Option Addr} {sl10 : Array (Option Value)} {oc10 kV10 dc10 pm10 cd10 ct10 : Value}
    (a10 : PySem.W.nsIn K mainGlobals "person_at" = some (some (.ref f10))) (l10 : K.lookup f10 = some ⟨oc10, od10, .func (PySem.W.fnOf "person_at" "person_at" (defArgs s_person_at) (defBody s_person_at) (defScope s_person_at) .none kV10 dc10 pm10 an10 cd10 ct10), sl10⟩) (c10 : PySem.W.codeIn K cd10 "person_at" = true) (k10 : PySem.W.keepIn K (.ref f10) = true)
    {f11 : Addr} {od11 an11 : Option Addr} {sl11 : Array (Option Value)} {oc11 kV11 dc11 pm11 cd11 ct11 : Value}
    (a11 : PySem.W.nsIn K mainGlobals "evening_of" = some (some (.ref f11))) (l11 : K.lookup f11 = some ⟨oc11, od11, .func (PySem.W.fnOf "evening_of" "evening_of" (defArgs s_evening_of) (defBody s_evening_of) (defScope s_evening_of) .none kV11 dc11 pm11 an11 cd11 ct11), sl11⟩) (c11 : PySem.W.codeIn K cd11 "evening_of" = true) (k11 : PySem.W.keepIn K (.ref f11) = true)
    {f12 : Addr} {od12 an12 : Option Addr} {sl12 : Array (Option Value)} {oc12 kV12 dc12 pm12 cd12 ct12 : Value}
    (a12 : PySem.W.nsIn K mainGlobals "zigzag_of" = some (some (.ref f12))) (l12 : K.lookup f12 = some ⟨oc12, od12, .func (PySem.W.fnOf "zigzag_of" "zigzag_of" (defArgs s_zigzag_of) (defBody s_zigzag_of) (defScope s_zigzag_of) .none kV12 dc12 pm12 an12 cd12 ct12), sl12⟩) (c12 : PySem.W.codeIn K cd12 "zigzag_of" = true) (k12 : PySem.W.keepIn K (.ref f12) = true)
    {f13 : Addr} {od13 an13 : Option Addr} {sl13 : Array (Option Value)} {oc13 kV13 dc13 pm13 cd13 ct13 : Value}
    (a13 : PySem.W.nsIn K mainGlobals "certify_zigzag" = some (some (.ref f13))) (l13 : K.lookup f13 = some ⟨oc13, od13, .func (PySem.W.fnOf "certify_zigzag" "certify_zigzag" (defArgs s_certify_zigzag) (defBody s_certify_zigzag) (defScope s_certify_zigzag) .none kV13 dc13 pm13 an13 cd13 ct13), sl13⟩) (c13 : PySem.W.codeIn K cd13 "certify_zigzag" = true) (k13 : PySem.W.keepIn K (.ref f13) = true)
    {f14 : Addr} {od14 an14 : Option Addr} {sl14 : Array (Option Value)} {oc14 kV14 dc14 pm14 cd14 ct14 : Value}
    (a14 : PySem.W.nsIn K mainGlobals "accepts_party" = some (some (.ref f14))) (l14 : K.lookup f14 = some ⟨oc14, od14, .func (PySem.W.fnOf "accepts_party" "accepts_party" (defArgs s_accepts_party) (defBody s_accepts_party) (defScope s_accepts_party) .none kV14 dc14 pm14 an14 cd14 ct14), sl14⟩) (c14 : PySem.W.codeIn K cd14 "accepts_party" = true) (k14 : PySem.W.keepIn K (.ref f14) = true)
    {f15 : Addr} {od15 an15 : Option Addr} {sl15 : Array (Option Value)} {oc15 kV15 dc15 pm15 cd15 ct15 : Value}
    (a15 : PySem.W.nsIn K mainGlobals "accepts" = some (some (.ref f15))) (l15 : K.lookup f15 = some ⟨oc15, od15, .func (PySem.W.fnOf "accepts" "accepts" (defArgs s_accepts) (defBody s_accepts) (defScope s_accepts) .none kV15 dc15 pm15 an15 cd15 ct15), sl15⟩) (c15 : PySem.W.codeIn K cd15 "accepts" = true) (k15 : PySem.W.keepIn K (.ref f15) = true)
    {f16 : Addr} {od16 an16 : Option Addr} {sl16 : Array (Option Value)} {oc16 kV16 dc16 pm16 cd16 ct16 : Value}
    (a16 : PySem.W.nsIn K mainGlobals "_law_spring" = some (some (.ref f16))) (l16 : K.lookup f16 = some ⟨oc16, od16, .func (PySem.W.fnOf "_law_spring" "_law_spring" (defArgs s__law_spring) (defBody s__law_spring) (defScope s__law_spring) .none kV16 dc16 pm16 an16 cd16 ct16), sl16⟩) (c16 : PySem.W.codeIn K cd16 "_law_spring" = true) (k16 : PySem.W.keepIn K (.ref f16) = true)
    {f17 : Addr} {od17 an17 : Option Addr} {sl17 : Array (Option Value)} {oc17 kV17 dc17 pm17 cd17 ct17 : Value}
    (a17 : PySem.W.nsIn K mainGlobals "_law_draw" = some (some (.ref f17))) (l17 : K.lookup f17 = some ⟨oc17, od17, .func (PySem.W.fnOf "_law_draw" "_law_draw" (defArgs s__law_draw) (defBody s__law_draw) (defScope s__law_draw) .none kV17 dc17 pm17 an17 cd17 ct17), sl17⟩) (c17 : PySem.W.codeIn K cd17 "_law_draw" = true) (k17 : PySem.W.keepIn K (.ref f17) = true)
    {f18 : Addr} {od18 an18 : Option Addr} {sl18 : Array (Option Value)} {oc18 kV18 dc18 pm18 cd18 ct18 : Value}
    (a18 : PySem.W.nsIn K mainGlobals "_law_of" = some (some (.ref f18))) (l18 : K.lookup f18 = some ⟨oc18, od18, .func (PySem.W.fnOf "_law_of" "_law_of" (defArgs s__law_of) (defBody s__law_of) (defScope s__law_of) .none kV18 dc18 pm18 an18 cd18 ct18), sl18⟩) (c18 : PySem.W.codeIn K cd18 "_law_of" = true) (k18 : PySem.W.keepIn K (.ref f18) = true)
    {f19 : Addr} {od19 an19 : Option Addr} {sl19 : Array (Option Value)} {oc19 kV19 dc19 pm19 cd19 ct19 : Value}
    (a19 : PySem.W.nsIn K mainGlobals "_law_nights" = some (some (.ref f19))) (l19 : K.lookup f19 = some ⟨oc19, od19, .func (PySem.W.fnOf "_law_nights" "_law_nights" (defArgs s__law_nights) (defBody s__law_nights) (defScope s__law_nights) .none kV19 dc19 pm19 an19 cd19 ct19), sl19⟩) (c19 : PySem.W.codeIn K cd19 "_law_nights" = true) (k19 : PySem.W.keepIn K (.ref f19) = true)
    {f20 : Addr} {od20 an20 : Option Addr} {sl20 : Array (Option Value)} {oc20 kV20 dc20 pm20 cd20 ct20 : Value}
    (a20 : PySem.W.nsIn K mainGlobals "_law_zigzag" = some (some (.ref f20))) (l20 : K.lookup f20 = some ⟨oc20, od20, .func (PySem.W.fnOf "_law_zigzag" "_law_zigzag" (defArgs s__law_zigzag) (defBody s__law_zigzag) (defScope s__law_zigzag) .none kV20 dc20 pm20 an20 cd20 ct20), sl20⟩) (c20 : PySem.W.codeIn K cd20 "_law_zigzag" = true) (k20 : PySem.W.keepIn K (.ref f20) = true)
    {f21 : Addr} {od21 an21 : Option Addr} {sl21 : Array (Option Value)} {oc21 kV21 dc21 pm21 cd21 ct21 : Value}
    (a21 : PySem.W.nsIn K mainGlobals "_law_right" = some (some (.ref f21))) (l21 : K.lookup f21 = some ⟨oc21, od21, .func (PySem.W.fnOf "_law_right" "_law_right" (defArgs s__law_right) (defBody s__law_right) (defScope s__law_right) .none kV21 dc21 pm21 an21 cd21 ct21), sl21⟩) (c21 : PySem.W.codeIn K cd21 "_law_right" = true) (k21 : PySem.W.keepIn K (.ref f21) = true)
    {f22 : Addr} {od22 an22 : Option Addr} {sl22 : Array (Option Value)} {oc22 kV22 dc22 pm22 cd22 ct22 : Value}
    (a22 : PySem.W.nsIn K mainGlobals "law" = some (some (.ref f22))) (l22 : K.lookup f22 = some ⟨oc22, od22, .func (PySem.W.fnOf "law" "law" (defArgs s_law) (defBody s_law) (defScope s_law) .none kV22 dc22 pm22 an22 cd22 ct22), sl22⟩) (c22 : PySem.W.codeIn K cd22 "law" = true) (k22 : PySem.W.keepIn K (.ref f22) = true)
    (z23 : PySem.W.nsIn K mainGlobals "abs" = some none)
    (z24 : PySem.W.nsIn K mainGlobals "all" = some none)
    (z25 : PySem.W.nsIn K mainGlobals "bool" = some none)
    (z26 : PySem.W.nsIn K mainGlobals "divmod" = some none)
    (z27 : PySem.W.nsIn K mainGlobals "enumerate" = some none)
    (z28 : PySem.W.nsIn K mainGlobals "int" = some none)
    (z29 : PySem.W.nsIn K mainGlobals "isinstance" = some none)
    (z30 : PySem.W.nsIn K mainGlobals "len" = some none)
    (z31 : PySem.W.nsIn K mainGlobals "list" = some none)
    (z32 : PySem.W.nsIn K mainGlobals "max" = some none)
    (z33 : PySem.W.nsIn K mainGlobals "min" = some none)
    (z34 : PySem.W.nsIn K mainGlobals "range" = some none)
    (z35 : PySem.W.nsIn K mainGlobals "repr" = some none)
    (z36 : PySem.W.nsIn K mainGlobals "set" = some none)
    (z37 : PySem.W.nsIn K mainGlobals "sorted" = some none)
    (z38 : PySem.W.nsIn K mainGlobals "str" = some none)
    (z39 : PySem.W.nsIn K mainGlobals "tuple" = some none)
    {t40 : Tok} (g40 : PySem.W.nsIn K mainGlobals "RINGS" = some (some (.str "rings" t40)))
    {t41 : Tok} (g41 : PySem.W.nsIn K mainGlobals "ROWS" = some (some (.str "rows" t41)))
    {t42 : Tok} (g42 : PySem.W.nsIn K mainGlobals "MOST_TOLD" = some (some (.int 99 t42)))
    {dd43 : Addr} {es43 : Array DictEntry} {nn43 : Nat} (a43 : PySem.W.nsIn K mainGlobals "LENGTHS" = some (some (.ref dd43))) (b43 : K.lookup dd43 = some ⟨.type "dict", none, .dict es43 nn43, #[]⟩) (y43 : PySem.W.KeysLit w.params es43.toList) (o43 : (dd43 == sysModules) = false)
    {t43_0 : Tok} (p43_0 : PySem.W.nsIn K dd43 "grows" = some (some (.int 3 t43_0))) {t43_1 : Tok} (p43_1 : PySem.W.nsIn K dd43 "barred" = some (some (.int 5 t43_1))) {t43_2 : Tok} (p43_2 : PySem.W.nsIn K dd43 "party" = some (some (.int 4 t43_2))) :
    ∃ fd : FuncData, (∀ (s : Shared) (v : Value), BindsTo s fd ⟨[v], []⟩ [("_law_cells", v)]) ∧ ∀ base : Heap, K.In base → base.Ns mainGlobals mg → FnG l.prog w K mg base CX0 8 fa fd ["_law_cells"] (sp_law K) := by
  have e := hfa.symm.trans (PySem.W.mg_of X G a22)
  cases e
  have T : Env w K mg := ⟨⟨_, _, fun_mk (st := s_is_integer) l1 c1 k1, PySem.W.mg_of X G a1⟩,
    ⟨_, _, fun_mk (st := s_is_between) l2 c2 k2, PySem.W.mg_of X G a2⟩,
    ⟨_, _, fun_mk (st := s_is_size) l3 c3 k3, PySem.W.mg_of X G a3⟩,
    ⟨_, _, fun_mk (st := s_evenings_for) l4 c4 k4, PySem.W.mg_of X G a4⟩,
    ⟨_, _, fun_mk (st := s_check_kind) l5 c5 k5, PySem.W.mg_of X G a5⟩,
    ⟨_, _, fun_mk (st := s_is_everybody) l6 c6 k6, PySem.W.mg_of X G a6⟩,
    ⟨_, _, fun_mk (st := s_pairs_on) l7 c7 k7, PySem.W.mg_of X G a7⟩,
    ⟨_, _, fun_mk (st := s_wrong_of) l8 c8 k8, PySem.W.mg_of X G a8⟩,
    ⟨_, _, fun_mk (st := s_person_in) l9 c9 k9, PySem.W.mg_of X G a9⟩,
    ⟨_, _, fun_mk (st := s_person_at) l10 c10 k10, PySem.W.mg_of X G a10⟩,
    ⟨_, _, fun_mk (st := s_evening_of) l11 c11 k11, PySem.W.mg_of X G a11⟩,
    ⟨_, _, fun_mk (st := s_zigzag_of) l12 c12 k12, PySem.W.mg_of X G a12⟩,
    ⟨_, _, fun_mk (st := s_certify_zigzag) l13 c13 k13, PySem.W.mg_of X G a13⟩,
    ⟨_, _, fun_mk (st := s_accepts_party) l14 c14 k14, PySem.W.mg_of X G a14⟩,
    ⟨_, _, fun_mk (st := s_accepts) l15 c15 k15, PySem.W.mg_of X G a15⟩,
    ⟨_, _, fun_mk (st := s__law_spring) l16 c16 k16, PySem.W.mg_of X G a16⟩,
    ⟨_, _, fun_mk (st := s__law_draw) l17 c17 k17, PySem.W.mg_of X G a17⟩,
    ⟨_, _, fun_mk (st := s__law_of) l18 c18 k18, PySem.W.mg_of X G a18⟩,
    ⟨_, _, fun_mk (st := s__law_nights) l19 c19 k19, PySem.W.mg_of X G a19⟩,
    ⟨_, _, fun_mk (st := s__law_zigzag) l20 c20 k20, PySem.W.mg_of X G a20⟩,
    ⟨_, _, fun_mk (st := s__law_right) l21 c21 k21, PySem.W.mg_of X G a21⟩,
    ⟨_, _, fun_mk (st := s_law) l22 c22 k22, PySem.W.mg_of X G a22⟩,
    PySem.W.mg_none_of X G z23,
    PySem.W.mg_none_of X G z24,
    PySem.W.mg_none_of X G z25,
    PySem.W.mg_none_of X G z26,
    PySem.W.mg_none_of X G z27,
    PySem.W.mg_none_of X G z28,
    PySem.W.mg_none_of X G z29,
    PySem.W.mg_none_of X G z30,
    PySem.W.mg_none_of X G z31,
    PySem.W.mg_none_of X G z32,
    PySem.W.mg_none_of X G z33,
    PySem.W.mg_none_of X G z34,
    PySem.W.mg_none_of X G z35,
    PySem.W.mg_none_of X G z36,
    PySem.W.mg_none_of X G z37,
    PySem.W.mg_none_of X G z38,
    PySem.W.mg_none_of X G z39,
    ⟨_, PySem.W.mg_of X G g40⟩,
    ⟨_, PySem.W.mg_of X G g41⟩,
    ⟨_, PySem.W.mg_of X G g42⟩,
    ⟨_, _, _, PySem.W.mg_of X G a43, ⟨b43, y43, o43⟩, ⟨_, p43_0⟩, ⟨_, p43_1⟩, ⟨_, p43_2⟩⟩⟩
  refine ⟨PySem.W.fnOf "law" "law" (defArgs s_law) (defBody s_law) (defScope s_law) .none kV22 dc22 pm22 an22 cd22 ct22, fun s v => .of_eq rfl, fun base _ _ => ?_⟩
  obtain ⟨f, fd, F, hm, R⟩ := (ok_law (P := l.prog) (w := w) (base := base) T).ex
  have e := hfa.symm.trans hm
  cases e
  obtain ⟨_, _, _, _, _, _, _, _, _, e1, e2, _⟩ := F.ex
  rw [l22] at e2
  cases e2
  exact R
end K60
open PySem PySem.W PyProof.Rows
set_option maxRecDepth 100000 in
set_option maxHeartbeats 0 in
theorem PySem.Challenge.cw_extendrounds_k60_whole_zigzags_certified_holds : PySem.Challenge.rw_extendrounds_k60_whole_zigzags_certified.Holds := by
  w_on; o_law; k_head; (case hw => w_witness2)
  k_fill
  refine Z.walk_G (l := PySem.Challenge.rw_extendrounds_k60_whole_zigzags_certified) (n := 63) (k := 8) (x := "_law_cells") (sp := K60.sp_law) rfl (by decide) rfl ⟨rfl, by decide, by decide⟩ (fun w h Y => PySem.W.kIn_of Y) ?F (fun _ _ a ns hl _ hS => ⟨a, ns, rfl, hS, hl, fun _ => rfl⟩)
  case F =>
    intro w mg fa h KX G hmg
    refine' K60.all_mk KX G hmg ?a1 ?l1 ?c1 ?k1 ?a2 ?l2 ?c2 ?k2 ?a3 ?l3 ?c3 ?k3 ?a4 ?l4 ?c4 ?k4 ?a5 ?l5 ?c5 ?k5 ?a6 ?l6 ?c6 ?k6 ?a7 ?l7 ?c7 ?k7 ?a8 ?l8 ?c8 ?k8 ?a9 ?l9 ?c9 ?k9 ?a10 ?l10 ?c10 ?k10 ?a11 ?l11 ?c11 ?k11 ?a12 ?l12 ?c12 ?k12 ?a13 ?l13 ?c13 ?k13 ?a14 ?l14 ?c14 ?k14 ?a15 ?l15 ?c15 ?k15 ?a16 ?l16 ?c16 ?k16 ?a17 ?l17 ?c17 ?k17 ?a18 ?l18 ?c18 ?k18 ?a19 ?l19 ?c19 ?k19 ?a20 ?l20 ?c20 ?k20 ?a21 ?l21 ?c21 ?k21 ?a22 ?l22 ?c22 ?k22 ?z23 ?z24 ?z25 ?z26 ?z27 ?z28 ?z29 ?z30 ?z31 ?z32 ?z33 ?z34 ?z35 ?z36 ?z37 ?z38 ?z39 ?g40 ?g41 ?g42 ?a43 ?b43 ?y43 ?o43 ?p43_0 ?p43_1 ?p43_2
    (case a1 => k_is); (case l1 => k_is); (case c1 => k_is); (case k1 => k_is); (case a2 => k_is); (case l2 => k_is); (case c2 => k_is); (case k2 => k_is); (case a3 => k_is); (case l3 => k_is); (case c3 => k_is); (case k3 => k_is); (case a4 => k_is); (case l4 => k_is); (case c4 => k_is); (case k4 => k_is); (case a5 => k_is); (case l5 => k_is); (case c5 => k_is); (case k5 => k_is); (case a6 => k_is); (case l6 => k_is); (case c6 => k_is); (case k6 => k_is); (case a7 => k_is); (case l7 => k_is); (case c7 => k_is); (case k7 => k_is); (case a8 => k_is); (case l8 => k_is); (case c8 => k_is); (case k8 => k_is); (case a9 => k_is); (case l9 => k_is); (case c9 => k_is); (case k9 => k_is); (case a10 => k_is); (case l10 => k_is); (case c10 => k_is); (case k10 => k_is); (case a11 => k_is); (case l11 => k_is); (case c11 => k_is); (case k11 => k_is); (case a12 => k_is); (case l12 => k_is); (case c12 => k_is); (case k12 => k_is); (case a13 => k_is); (case l13 => k_is); (case c13 => k_is); (case k13 => k_is); (case a14 => k_is); (case l14 => k_is); (case c14 => k_is); (case k14 => k_is); (case a15 => k_is); (case l15 => k_is); (case c15 => k_is); (case k15 => k_is); (case a16 => k_is); (case l16 => k_is); (case c16 => k_is); (case k16 => k_is); (case a17 => k_is); (case l17 => k_is); (case c17 => k_is); (case k17 => k_is); (case a18 => k_is); (case l18 => k_is); (case c18 => k_is); (case k18 => k_is); (case a19 => k_is); (case l19 => k_is); (case c19 => k_is); (case k19 => k_is); (case a20 => k_is); (case l20 => k_is); (case c20 => k_is); (case k20 => k_is); (case a21 => k_is); (case l21 => k_is); (case c21 => k_is); (case k21 => k_is); (case a22 => k_is); (case l22 => k_is); (case c22 => k_is); (case k22 => k_is); (case z23 => k_is); (case z24 => k_is); (case z25 => k_is); (case z26 => k_is); (case z27 => k_is); (case z28 => k_is); (case z29 => k_is); (case z30 => k_is); (case z31 => k_is); (case z32 => k_is); (case z33 => k_is); (case z34 => k_is); (case z35 => k_is); (case z36 => k_is); (case z37 => k_is); (case z38 => k_is); (case z39 => k_is); (case g40 => k_is); (case g41 => k_is); (case g42 => k_is); (case a43 => k_is); (case b43 => k_is); (case p43_0 => k_is); (case p43_1 => k_is); (case p43_2 => k_is)
    case o43 => rfl
    case y43 => exact ⟨⟨_, _, rfl, rfl⟩, ⟨_, _, rfl, rfl⟩, ⟨_, _, rfl, rfl⟩, trivial⟩
#print axioms PySem.Challenge.cw_extendrounds_k60_whole_zigzags_certified_holds

