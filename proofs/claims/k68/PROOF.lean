import PyProof.Rows.All
import Wide.All
import OpenK.AllK
import Wide.FinOn
import HandS.ForMost
import HandS.ForExc
import HandS.IsInst
import HandS.Wide
import HandS.WideBits
import KE.KSortedM
import PyProof.StrLawsRepr
import HandS.SortRule
import HandS.SortInts
import HandS.Conv
import HandS.TupSets
import KE.GoesMore
import HandS.SetFor
import HandS.Star
import HandS.Deep
import HandS.TupAny
import HandS.TryOnly
import HandS.Style
import HandS.Walk
import HandS.FStr
import KE.KExcSuper
import KE.KExcInit
import KE.KSuper
import KE.KTryMore
import HandS.ExcInit
import HandS.ExcIs
import HandS.TryMany
import KE.KExcIs
import HandS.ExcValue
import PyProof.ReprRoads
import HandS.HotCalls
import HandS.Lambda
import HandS.CallLocal
import HandS.EndTab
import HandS.ClsMeth
import HandS.Property
import HandS.TupLen
import HandS.Text
import PyProof.Rows.StrSplitAre
import PyProof.StrLawsTight
import KE.OsRunLaw
import HandS.Head2
import PySem.Challenge.RW_extendrounds_k68_whole_zigzags_step_by_s
set_option Elab.async false
set_option linter.all false
set_option maxRecDepth 100000
set_option maxHeartbeats 4000000
/-! the head: the written part (made by HeadPre.pre, which is of no other use), the top by one run -/
section
open PySem PySem.W PyProof.Rows
section
local macro_rules | `(tactic| kernel_rfl) => `(tactic| contradiction)
set_option maxRecDepth 100000 in
set_option maxHeartbeats 0 in
theorem HeadPre.pre (H : False) : PySem.Challenge.rw_extendrounds_k68_whole_zigzags_step_by_s.Holds := by
  w_on; o_law; k_headL; (case hw => w_witness2)
  all_goals exact H.elim
end
namespace HeadPre
def n0 : List PySem.Str := [("WrongValue" : PySem.Str), ("InvalidText" : PySem.Str), ("InvalidNumber" : PySem.Str), ("InvalidKind" : PySem.Str), ("InvalidParty" : PySem.Str), ("InvalidName" : PySem.Str), ("InvalidWish" : PySem.Str), ("NotABook" : PySem.Str), ("InvalidRows" : PySem.Str), ("InvalidSeats" : PySem.Str), ("InvalidExchanges" : PySem.Str), ("InvalidWishes" : PySem.Str), ("WrongName" : PySem.Str), ("UnknownName" : PySem.Str), ("InUse" : PySem.Str), ("NoAnswer" : PySem.Str), ("NotFull" : PySem.Str), ("TooMany" : PySem.Str), ("NoRoom" : PySem.Str), ("Broken" : PySem.Str), ("NothingToUndo" : PySem.Str), ("MOST_ZIGZAG" : PySem.Str), ("RINGS" : PySem.Str), ("ROWS" : PySem.Str), ("is_integer" : PySem.Str), ("is_between" : PySem.Str), ("is_size" : PySem.Str), ("evenings_for" : PySem.Str), ("check_kind" : PySem.Str), ("is_everybody" : PySem.Str), ("pairs_on" : PySem.Str), ("wrong_of" : PySem.Str), ("people_in" : PySem.Str), ("is_party" : PySem.Str), ("MOST_TOLD" : PySem.Str), ("check_size" : PySem.Str), ("round_size" : PySem.Str), ("person_in" : PySem.Str), ("index_in" : PySem.Str), ("person_at" : PySem.Str)]
def n1 : List PySem.Str := [("index_of" : PySem.Str), ("evening_of" : PySem.Str), ("zigzag_of" : PySem.Str), ("zigzag" : PySem.Str), ("check_evening_of" : PySem.Str), ("check_person" : PySem.Str), ("zigzag_beside" : PySem.Str), ("zigzag_evening" : PySem.Str), ("zigzag_place" : PySem.Str), ("zigzag_person" : PySem.Str), ("_law_spring" : PySem.Str), ("_law_draw" : PySem.Str), ("_law_of" : PySem.Str), ("_law_is_whole" : PySem.Str), ("_law_error" : PySem.Str), ("_law_field" : PySem.Str), ("_law_told" : PySem.Str), ("_law_nights" : PySem.Str), ("_law_pairs" : PySem.Str), ("_law_zigzag" : PySem.Str), ("_law_neighbours" : PySem.Str), ("_law_is_party" : PySem.Str), ("_law_evening_right" : PySem.Str)]
def names : List PySem.Str := n0 ++ n1
def a0 : List Addr := [2, 3, 15, 22, 23, 24, 25, 28, 31, 36, 37, 39, 40, 42, 43, 44, 45, 46, 49, 52, 57, 58, 60, 61, 63, 64, 65, 66, 67, 70, 73, 78, 79, 81, 82, 84, 85, 86, 87, 88]
def a1 : List Addr := [91, 94, 99, 100, 102, 103, 105, 106, 107, 108, 109, 112, 115, 120, 121, 123, 124, 126, 127, 128, 129, 130, 133, 136, 141, 142, 144, 145, 147, 148, 149, 150, 151, 154, 157, 162, 163, 165, 166, 168]
def a2 : List Addr := [169, 170, 171, 172, 175, 178, 183, 184, 186, 187, 189, 190, 191, 192, 193, 196, 199, 204, 205, 207, 208, 210, 211, 212, 213, 214, 217, 220, 225, 226, 228, 229, 231, 232, 233, 234, 235, 238, 241, 246]
def a3 : List Addr := [247, 249, 250, 252, 253, 254, 255, 256, 259, 266, 267, 268, 269, 272, 275, 280, 281, 283, 284, 286, 287, 288, 289, 290, 293, 296, 301, 302, 304, 305, 307, 308, 309, 310, 311, 314, 321, 322, 323, 324]
def a4 : List Addr := [327, 330, 335, 336, 338, 339, 341, 342, 343, 344, 345, 348, 351, 356, 357, 359, 360, 362, 363, 364, 365, 366, 369, 372, 377, 378, 380, 381, 383, 384, 385, 386, 387, 390, 393, 398, 399, 401, 402, 404]
def a5 : List Addr := [405, 406, 407, 408, 411, 418, 419, 420, 423, 425, 426, 428, 429, 430, 432, 433, 435, 436, 437, 439, 440, 442, 443, 444, 446, 447, 449, 450, 451, 453, 454, 456, 457, 458, 461, 462, 463, 466, 467, 468]
def a6 : List Addr := [471, 472, 473, 475, 476, 478, 479, 480, 482, 483, 485, 486, 487, 489, 490, 492, 493, 494, 496, 497, 499, 500, 501, 503, 504, 506, 507, 508, 510, 511, 513, 514, 515, 517, 518, 520, 521, 522, 524, 525]
def a7 : List Addr := [527, 528, 529, 532, 533, 534, 537, 538, 539, 541, 542, 544, 545, 546, 548, 549, 551, 552, 553, 555, 556, 558, 559, 560, 563, 564, 565, 567, 568, 570, 571, 572, 574, 575, 577, 578, 579, 581, 582, 584]
def a8 : List Addr := [585, 586, 588, 589, 591, 592, 593, 595, 596, 598, 599, 600, 602, 603, 605, 606, 607, 609, 610, 612, 613, 614, 616, 617, 619, 620, 621, 623, 624, 626, 627, 628, 630, 631, 633, 634, 635, 637, 638, 640]
def a9 : List Addr := [641, 642, 645, 646, 647, 649, 650, 652, 653, 654, 657, 658, 659, 662, 663, 664, 667, 668, 669, 672, 673, 674, 677, 678]
def ks : List Addr := a0 ++ a1 ++ a2 ++ a3 ++ a4 ++ a5 ++ a6 ++ a7 ++ a8 ++ a9
abbrev R : OpenRow := OpenLaw.row PySem.Challenge.rw_extendrounds_k68_whole_zigzags_step_by_s
set_option maxHeartbeats 0 in
theorem ks_eq (P : Params) : ks = (HeadPre.pre.heap_39 P).map (·.1) := by kernel_rfl
def ob (s : SharedT) : List (Option Obj) := ks.map (HandSHeadRun.getT s)
theorem ob_eq (s : SharedT) : ob s = (kHook HeadPre.pre.heap_39 ks ks_eq).obs s.abs := List.map_congr_left fun a _ => HandSHeadRun.getT_eq s a
set_option maxHeartbeats 0 in
theorem run (w : World) : HandSHeadRun.RunEq R (view R.prog [68, 69]) (kHook HeadPre.pre.heap_39 ks ks_eq) ob 6622 names w := by
  intro os
  kernel_rfl
end HeadPre
end
/-! Words shared by the proofs: where a def stands, what it promises, calls of it; readings taken apart by simp. -/
namespace Z
open PySem PySem.Spec PyProof.Rows L2

/-- the def x of the text stands where the module's name x points -/
def Here (K : PySem.W.Frag) (mg : Str → Option Value) (x : Str) (st : Stmt) : Prop := ∃ f fd, Fun K x x st f fd ∧ mg x = some (.ref f)
/-- how positional arguments come to the parameters: for every def without defaults -/
def Bd (x : Str) (st : Stmt) (ps : List Str) : Prop := ∀ (qual : Str) (kV doc pm : Value) (an : Option Addr) (cdv ct : Value) (us : List Value), us.length = ps.length → bindArgs (PySem.W.fnOf x qual (defArgs st) (defBody st) (defScope st) .none kV doc pm an cdv ct) ⟨us, []⟩ = pure (ps.zip us)
/-- it stands there and keeps its promise -/
structure Hd (P : Program) (w : World) (K : PySem.W.Frag) (mg : Str → Option Value) (base : Heap) (CX : CXT) (k : Nat) (x : Str) (st : Stmt) (ps : List Str) (sp : Sp) : Prop where
  ex : ∃ f fd, Fun K x x st f fd ∧ mg x = some (.ref f) ∧ FnOk P w K mg base CX k f fd ps sp
  bd : Bd x st ps
section
variable {X : Cx} {CX : CXT} {k : Nat} {st : Stmt} {ps : List Str} {sp : Sp} {E : XK} {x : Str} {p pos : Pos} {e : Expr} {es : List Expr} {t : TA}
theorem pe_hd (h : Hd X.prog X.w X.K X.mg X.base CX k x st ps sp) (hr : Room k X.A) (hg : Gl X x) (hx : Passes CX X E) (ha : PA X (e :: es) t) (hdb : (x == ("__debug__" : Str)) = false := by decide)
    (hs : starEach (e :: es) X.env = (false, eval e X.env) :: starEach es X.env := by rfl) (hpl : (backTo pos (starEach es X.env)).any (·.1) = false := by rfl) : PE X (.Call (.Name x p) (e :: es) [] pos) (tCall sp [] E t) := by
  obtain ⟨f, fd, F, hm, G⟩ := h.ex
  exact pe_call G hr hg hm F.kp (F.binds (h.bd x)) .nil hx ha hdb hs hpl
theorem pe_hd0 (h : Hd X.prog X.w X.K X.mg X.base CX k x st ps sp) (hr : Room k X.A) (hg : Gl X x) (hx : Passes CX X E) (hdb : (x == ("__debug__" : Str)) = false := by decide) : PE X (.Call (.Name x p) [] [] pos) (tCall sp [] E tNil) := by
  obtain ⟨f, fd, F, hm, G⟩ := h.ex
  exact pe_call0 G hr hg hm F.kp (F.binds (h.bd x)) .nil hx hdb
end
/-! ### readings taken apart -/
theorem set_z {α : Type} (a b : α) (l : List α) : (a :: l).set 0 b = b :: l := rfl
theorem set_s {α : Type} (a b : α) (l : List α) (i : Nat) : (a :: l).set (i + 1) b = a :: l.set i b := rfl
/-! ### cuts: a word between a part and what follows -/
def tCutE (te : TE) : TE := fun σ H Q => ∃ S : V → Hp → Prop, te σ H S ∧ ∀ v H', S v H' → Q v H'
theorem pe_cutZ {X : Cx} {e : Expr} {te : TE} (h : PE X e te) : PE X e (tCutE te) := ⟨fun pins s σ H Q I ⟨S, h1, h2⟩ =>
  thn (h.run pins s σ H S I h1) fun _ _ ⟨v, H', I', r, q⟩ => ⟨v, H', I', r, h2 v H' q⟩⟩
def tCutS (t u : TS) : TS := fun D σ H => ∃ Mid : L2.St → Hp → Prop, t { D with nx := Mid } σ H ∧ ∀ σ' H', Mid σ' H' → u D σ' H'
theorem pss_cutZ {X : Cx} {st : Stmt} {rest : List Stmt} {t u : TS} (h1 : PS X st t) (h2 : PSs X rest u) : PSs X (st :: rest) (tCutS t u) := by
  refine ⟨fun pins s σ H D I h => ?_⟩
  obtain ⟨Mid, hm, hu⟩ := h
  refine wpAny_execs_cons (thn (h1.run pins s σ H { D with nx := Mid } I hm) fun f s1 q => ?_)
  cases f with
  | next =>
    obtain ⟨σ', H', I', q⟩ := q
    exact h2.run pins s1 σ' H' D I' (hu σ' H' q)
  | ret v => exact q
  | brk => exact q
  | cont => exact q
/-- one of two written values -/
def tIfCI (t : TT) (i j : Int) : TE := fun σ H Q => t σ H fun c H1 => Q (.int (if c = true then i else j)) H1
theorem pe_ifCI {X : Cx} {c a b : Expr} {t : TT} {i j : Int} {pos : Pos} (hc : PT X c t) (ha : PE X a (tC (.int i))) (hb : PE X b (tC (.int j))) : PE X (.IfExp c a b pos) (tIfCI t i j) := ⟨fun pins s σ H Q I h =>
  (pe_ifExp hc ha hb).run pins s σ H Q I (by
    unfold tIfCI at h
    have e : (fun (c : Bool) (H1 : Hp) => if c = true then tC (.int i) σ H1 Q else tC (.int j) σ H1 Q) = fun c H1 => Q (.int (if c = true then i else j)) H1 := by
      funext c H1
      cases c <;> rfl
    show t σ H (fun (c : Bool) (H1 : Hp) => if c = true then tC (.int i) σ H1 Q else tC (.int j) σ H1 Q)
    rw [e]
    exact h)⟩
def tIfCS (t : TT) (i j : Str) : TE := fun σ H Q => t σ H fun c H1 => Q (.str (if c = true then i else j)) H1
theorem pe_ifCS {X : Cx} {c a b : Expr} {t : TT} {i j : Str} {pos : Pos} (hc : PT X c t) (ha : PE X a (tC (.str i))) (hb : PE X b (tC (.str j))) : PE X (.IfExp c a b pos) (tIfCS t i j) := ⟨fun pins s σ H Q I h =>
  (pe_ifExp hc ha hb).run pins s σ H Q I (by
    unfold tIfCS at h
    have e : (fun (c : Bool) (H1 : Hp) => if c = true then tC (.str i) σ H1 Q else tC (.str j) σ H1 Q) = fun c H1 => Q (.str (if c = true then i else j)) H1 := by
      funext c H1
      cases c <;> rfl
    show t σ H (fun (c : Bool) (H1 : Hp) => if c = true then tC (.str i) σ H1 Q else tC (.str j) σ H1 Q)
    rw [e]
    exact h)⟩
theorem z_seq {t u : TS} {D : Ends} {σ : L2.St} {H : Hp} (h : t { D with nx := u D } σ H) : tSeq t u D σ H := h
section
variable {X : Cx} {K : PySem.W.Frag} {H : Hp} {σ : L2.St}
/-- an item of a tracked list -/
def rIxH : R2 := fun x y H Q => ∃ p i xs v, x = .ref p ∧ y = .int i ∧ H p = some (.lst xs) ∧ atI xs i = some v ∧ Q v H
theorem ix_listH : IxR X rIxH := by
  intro e1 e2 pins s σ H x y v u Q I rx ry h hs
  obtain ⟨p, i, xs, z, rfl, rfl, hp, ha, q⟩ := h
  exact ix_list e1 e2 pins s σ H _ _ v u Q I rx ry ⟨p, xs, i, z, rfl, rfl, SqL.of hp, ha, q⟩ hs
def rIxU : R2 := fun x y H Q => ∃ p i xs v, x = .ref p ∧ y = .int i ∧ H p = some (.tup xs) ∧ atI xs i = some v ∧ Q v H
theorem ix_tupH : IxR X rIxU := by
  intro e1 e2 pins s σ H x y v u Q I rx ry h hs
  obtain ⟨p, i, xs, z, rfl, rfl, hp, ha, q⟩ := h
  exact ix_tup e1 e2 pins s σ H _ _ v u Q I rx ry ⟨p, xs, i, z, rfl, rfl, SqT.of hp, ha, q⟩ hs
theorem at30 {α : Type} (a b c : α) : atI [a, b, c] 0 = some a := rfl
theorem at31 {α : Type} (a b c : α) : atI [a, b, c] 1 = some b := rfl
theorem at32 {α : Type} (a b c : α) : atI [a, b, c] 2 = some c := rfl
theorem ixN30 {α : Type} (a b c : α) : ixN [a, b, c].length 0 = some 0 := rfl
theorem ixN31 {α : Type} (a b c : α) : ixN [a, b, c].length 1 = some 1 := rfl
theorem ixN32 {α : Type} (a b c : α) : ixN [a, b, c].length 2 = some 2 := rfl
theorem ix3_0 : ixN 3 0 = some 0 := rfl
theorem ix3_1 : ixN 3 1 = some 1 := rfl
theorem ix3_2 : ixN 3 2 = some 2 := rfl
/-- in, not in: a tracked tuple, a tracked list of flat things -/
def rInU (neg : Bool) : R2 := fun x y H Q => ∃ p xs, y = .ref p ∧ H p = some (.tup xs) ∧ flatV x = true ∧ xs.all flatV = true ∧ Q (.bl (if neg then !inV x xs else inV x xs)) H
def rInH (neg : Bool) : R2 := fun x y H Q => ∃ p xs, y = .ref p ∧ H p = some (.lst xs) ∧ flatV x = true ∧ xs.all flatV = true ∧ Q (.bl (if neg then !inV x xs else inV x xs)) H
theorem op_in_tupH : OpR X (compareOp .In) (rInU false) := by
  intro pins s σ H x y v u Q I rx ry h
  obtain ⟨p, xs, e, hp, h1, h2, q⟩ := h
  exact op_in_seq pins s σ H x y v u Q I rx ry ⟨p, xs, e, .inr (SqT.of hp), h1, h2, q⟩
theorem op_notIn_tupH : OpR X (compareOp .NotIn) (rInU true) := by
  intro pins s σ H x y v u Q I rx ry h
  obtain ⟨p, xs, e, hp, h1, h2, q⟩ := h
  exact op_notIn_seq pins s σ H x y v u Q I rx ry ⟨p, xs, e, .inr (SqT.of hp), h1, h2, q⟩
theorem op_in_lstH : OpR X (compareOp .In) (rInH false) := by
  intro pins s σ H x y v u Q I rx ry h
  obtain ⟨p, xs, e, hp, h1, h2, q⟩ := h
  exact op_in_seq pins s σ H x y v u Q I rx ry ⟨p, xs, e, .inl (SqL.of hp), h1, h2, q⟩
theorem op_notIn_lstH : OpR X (compareOp .NotIn) (rInH true) := by
  intro pins s σ H x y v u Q I rx ry h
  obtain ⟨p, xs, e, hp, h1, h2, q⟩ := h
  exact op_notIn_seq pins s σ H x y v u Q I rx ry ⟨p, xs, e, .inl (SqL.of hp), h1, h2, q⟩
/-! built-ins of tracked lists and tuples, each with one answer -/
theorem perm_sort {a b : List Int} (hp : a.Perm b) (ha : a.Pairwise (· ≤ ·)) : a = b.mergeSort := by
  have h2 : (b.mergeSort (· ≤ ·)).Pairwise (· ≤ ·) := by
    have h := List.pairwise_mergeSort (le := fun x y : Int => decide (x ≤ y)) (fun x y z h1 h2 => by simp only [decide_eq_true_eq] at *; omega) (fun x y => by simp only [Bool.or_eq_true, decide_eq_true_eq]; omega) b
    exact h.imp fun h => of_decide_eq_true h
  exact PySem.W.ksm_same (hp.trans (List.mergeSort_perm b _).symm) ha h2
theorem map_int_inj (a b : List Int) : (a.map V.int = b.map V.int) = (a = b) := propext ⟨fun h => List.map_inj_right (fun x y e => V.int.inj e) |>.mp h, fun h => by rw [h]⟩
theorem map_bl_inj (a b : List Bool) : (a.map V.bl = b.map V.bl) = (a = b) := propext ⟨fun h => List.map_inj_right (fun x y e => V.bl.inj e) |>.mp h, fun h => by rw [h]⟩
def rTupL : List V → Hp → VK → Prop := fun xs H Q => ∃ p ys, xs = [.ref p] ∧ H p = some (.lst ys) ∧ ∀ l, H l = none → Q (.ref l) (upd H l (.tup ys))
theorem call_tupleL : CallR X (.type "tuple") rTupL := by
  intro pins s σ H xs us Q I r h
  obtain ⟨p, ys, e, hp, q⟩ := h
  exact call_tuple_of pins s σ H xs us Q I r ⟨p, ys, e, .inl ⟨SqL.of hp, q⟩⟩
def rLstL : List V → Hp → VK → Prop := fun xs H Q => ∃ p ys, xs = [.ref p] ∧ H p = some (.lst ys) ∧ ∀ l, H l = none → Q (.ref l) (upd H l (.lst ys))
theorem call_listL : CallR X (.type "list") rLstL := by
  intro pins s σ H xs us Q I r h
  obtain ⟨p, ys, e, hp, q⟩ := h
  exact call_list_of pins s σ H xs us Q I r ⟨p, ys, e, .inl (SqL.of hp), q⟩
def rLstT : List V → Hp → VK → Prop := fun xs H Q => ∃ p ys, xs = [.ref p] ∧ H p = some (.tup ys) ∧ ∀ l, H l = none → Q (.ref l) (upd H l (.lst ys))
theorem call_listT : CallR X (.type "list") rLstT := by
  intro pins s σ H xs us Q I r h
  obtain ⟨p, ys, e, hp, q⟩ := h
  exact call_list_of pins s σ H xs us Q I r ⟨p, ys, e, .inr (SqT.of hp), q⟩
def rSortI : List V → Hp → VK → Prop := fun vs H Q => ∃ (a : Addr) (ns : List Int), vs = [V.ref a] ∧ H a = some (.lst (ns.map V.int)) ∧ ns.length < 64 ∧ ∀ p : Addr, H p = none → Q (.ref p) (upd H p (.lst (ns.mergeSort.map V.int)))
theorem cr_sortedH : CallR X (.builtin "sorted") rSortI := by
  intro pins s σ H vs us Q I r h
  obtain ⟨a, ns, e, ha, hl, q⟩ := h
  exact cr_sorted pins s σ H vs us Q I r ⟨a, ns, e, SqL.of ha, hl, fun ns' p hp hs hn => by rw [perm_sort hp hs]; exact q p hn⟩
def rAnyH : List V → Hp → VK → Prop := fun vs H Q => ∃ (a : Addr) (bs : List Bool), vs = [V.ref a] ∧ H a = some (.lst (bs.map V.bl)) ∧ Q (.bl (bs.any id)) H
def rAllH : List V → Hp → VK → Prop := fun vs H Q => ∃ (a : Addr) (bs : List Bool), vs = [V.ref a] ∧ H a = some (.lst (bs.map V.bl)) ∧ Q (.bl (bs.all id)) H
theorem cr_anyH (hc : X.calm = true) : CallR X (.builtin "any") rAnyH := by
  intro pins s σ H vs us Q I r h
  obtain ⟨a, bs, e, ha, q⟩ := h
  exact cr_any hc pins s σ H vs us Q I r ⟨a, bs, e, SqL.of ha, q⟩
theorem cr_allH (hc : X.calm = true) : CallR X (.builtin "all") rAllH := by
  intro pins s σ H vs us Q I r h
  obtain ⟨a, bs, e, ha, q⟩ := h
  exact cr_all hc pins s σ H vs us Q I r ⟨a, bs, e, SqL.of ha, q⟩
def rSumH : List V → Hp → VK → Prop := fun vs H Q => ∃ (a : Addr) (ns : List Int), vs = [V.ref a] ∧ H a = some (.lst (ns.map V.int)) ∧ Q (.int ns.sum) H
theorem cr_sumH (hc : X.calm = true) : CallR X (.builtin "sum") rSumH := by
  intro pins s σ H vs us Q I r h
  obtain ⟨a, ns, e, ha, q⟩ := h
  exact cr_sum hc pins s σ H vs us Q I r ⟨a, ns, e, SqL.of ha, q⟩
def rLenL : List V → Hp → VK → Prop := fun xs H Q => ∃ p ys, xs = [.ref p] ∧ H p = some (.lst ys) ∧ Q (.int ys.length) H
def rLenU : List V → Hp → VK → Prop := fun xs H Q => ∃ p ys, xs = [.ref p] ∧ H p = some (.tup ys) ∧ Q (.int ys.length) H
theorem call_lenL : CallR X (.builtin "len") rLenL := by
  intro pins s σ H vs us Q I r h
  obtain ⟨a, ys, e, ha, q⟩ := h
  exact call_len_seq pins s σ H vs us Q I r ⟨a, ys, e, .inl (SqL.of ha), q⟩
theorem call_lenU : CallR X (.builtin "len") rLenU := by
  intro pins s σ H vs us Q I r h
  obtain ⟨a, ys, e, ha, q⟩ := h
  exact call_len_seq pins s σ H vs us Q I r ⟨a, ys, e, .inr (SqT.of ha), q⟩
/-- a method of a tracked list -/
def tBML (r : V → List V → Hp → VK → Prop) (to : TE) (t : TA) : TE := fun σ H Q => to σ H fun x H1 => ∃ a xs, x = .ref a ∧ H1 a = some (.lst xs) ∧ t σ H1 fun vs H2 => r x vs H2 Q
theorem pe_bmL {o e : Expr} {es : List Expr} {to : TE} {t : TA} {name : Str} {apos cpos : Pos} {id : String} {r : V → List V → Hp → VK → Prop} (pa : PlainAttrs "list") (slot : Slot "list" name id) (hty : typeOf (.builtin id) = pure (.type "method_descriptor")) (hm : MtR X id r) (ho : PE X o to) (ha : PA X (e :: es) t)
    (hbase : attributeBase o name X.env (eval o X.env) = eval o X.env := by rfl)
    (hfew : ((backTo cpos (starEach (e :: es) X.env)).all (fun x => !x.1) && (backToKw cpos (keywordEach [] X.env)).all (fun x => x.1.isSome)
      && decide ((e :: es).length + ([] : List Keyword).length + (if ([] : List Keyword).isEmpty then 0 else 1) < 30)) = true := by rfl)
    (hline : (apos.endLine == cpos.line) = true := by rfl) (hs : starEach (e :: es) X.env = (false, eval e X.env) :: starEach es X.env := by rfl) (hplain : (backTo cpos (starEach es X.env)).any (·.1) = false := by rfl) :
    PE X (.Call (.Attribute o name apos) (e :: es) [] cpos) (tBML r to t) := by
  refine ⟨fun pins s σ H Q I h => ?_⟩
  refine wpAny_Call_method_late hbase hfew hline rfl (thn (ho.run pins s σ H _ I h) fun v s1 ⟨x, H1, I1, r1, a, xs, ex, ea, q1⟩ => ?_)
  subst ex
  obtain ⟨h1, h2⟩ := tyV_is (T := "list") (x := .ref a) I1 r1 (.inl ⟨rfl, xs, SqL.of ea⟩)
  refine ⟨"list", id, pa, slot, hty, h1, h2, ?_⟩
  have hA := ha.run cpos pins s1 σ H1 _ I1 q1
  rw [hs] at hA ⊢
  refine Calls.callWith_builtin (by show (false || (backTo cpos (starEach es X.env)).any (·.1)) = false; rw [hplain] <;> rfl) (Calls.evalArgs_plain ?_)
  exact thn hA fun us s2 ⟨vs, H2, I2, r2, q2⟩ => hm pins s2 σ H2 _ vs v us Q I2 r1 r2 q2
/-- for k in range(n), n reckoned -/
theorem for_rng {n : Int} {g : TG} {tb : TS} {D : Ends} {H1 : Hp} {ta : TA} (hta : ∀ R : List V → Hp → Prop, R [.int n] H1 → ta σ H R) (hn : 0 ≤ n ∧ n < 2 ^ 62) (Pv : Nat → L2.St → Hp → Prop) (h0 : Pv 0 σ H1)
    (hs : ∀ (i : Nat) σ H, (i : Int) < n → Pv i σ H → g (.int i) σ H fun σ2 H2 => tb { D with nx := Pv (i + 1), ct := Pv (i + 1), bk := D.nx } σ2 H2) (hd : ∀ σ H, Pv n.toNat σ H → D.nx σ H) : tFor (iRng1 ta) g tb D σ H := by
  refine hta _ ⟨n, rfl, by omega, hn.2, ?_⟩
  refine for_range (lo := 0) (n := n.toNat) Pv h0 (fun i σ H hi p => ?_) hd
  have e : (0 : Int) + (i : Int) = (i : Int) := by omega
  rw [e]
  exact hs i σ H (by omega) p
/-- [e for k in range(n)] -/
theorem lc_rng {n : Int} {g : TG} {tt : TT} {te : TE} {vs : List Nat} {H1 : Hp} {ta : TA} {Q : VK} (hta : ∀ R : List V → Hp → Prop, R [.int n] H1 → ta σ H R) (hn : n < 2 ^ 62 ∧ -(2 ^ 62) ≤ n) (Pv : Addr → Nat → Hp → Prop) (h0 : ∀ D, H1 D = none → Pv D 0 (upd H1 D (.lst [])))
    (hs : ∀ D, H1 D = none → ∀ (i : Nat) H, (i : Int) < n → Pv D i H → g (.int i) (wipe σ vs) H fun σ2 H2 => wipe σ2 vs = wipe σ vs ∧ tt σ2 H2 fun b H3 =>
      if b = true then te σ2 H3 fun y H4 => ∃ acc, H4 D = some (.lst acc) ∧ acc.length < sizeLine ∧ Pv D (i + 1) (upd H4 D (.lst (acc ++ [y]))) else Pv D (i + 1) H3) (hd : ∀ D H, H1 D = none → Pv D n.toNat H → Q (.ref D) H) : tLc (iRng1 ta) g tt te vs σ H Q := by
  refine hta _ ⟨n, rfl, hn.2, hn.1, fun D hD => ?_⟩
  refine lc_range (lo := 0) (n := n.toNat) (Pv D) (h0 D hD) (fun i H hi p => ?_) fun H p => hd D H hD p
  have e : (0 : Int) + (i : Int) = (i : Int) := by omega
  rw [e]
  exact hs D hD i H (by omega) p
/-- [e for x in xs], the list told by its tracked address -/
theorem lc_lst {a : Addr} {xs : List V} {g : TG} {tt : TT} {te : TE} {vs : List Nat} {H1 : Hp} {tl : TE} {Q : VK} (htl : ∀ R : VK, R (.ref a) H1 → tl σ H R) (Pv : Addr → Nat → Hp → Prop) (ha : SqL K H1 a xs) (h0 : ∀ D, H1 D = none → Pv D 0 (upd H1 D (.lst [])))
    (hl : ∀ D, H1 D = none → ∀ i H, Pv D i H → SqL K H a xs)
    (hs : ∀ D, H1 D = none → ∀ (i : Nat) x H, xs[i]? = some x → Pv D i H → g x (wipe σ vs) H fun σ2 H2 => wipe σ2 vs = wipe σ vs ∧ tt σ2 H2 fun b H3 =>
      if b = true then te σ2 H3 fun y H4 => ∃ acc, H4 D = some (.lst acc) ∧ acc.length < sizeLine ∧ Pv D (i + 1) (upd H4 D (.lst (acc ++ [y]))) else Pv D (i + 1) H3) (hd : ∀ D H, H1 D = none → Pv D xs.length H → Q (.ref D) H) : tLc (iList K tl) g tt te vs σ H Q := by
  refine htl _ ⟨a, rfl, ⟨xs, ha⟩, fun D hD => ?_⟩
  exact lc_list (K := K) (a := a) (xs := xs) (Pv D) (h0 D hD) (fun i H _ p => hl D hD i H p) (hs D hD) fun H p => hd D H hD p
/-- over a tuple -/
theorem lc_tp {a : Addr} {xs : List V} {g : TG} {tt : TT} {te : TE} {vs : List Nat} {H1 : Hp} {tl : TE} {Q : VK} (htl : ∀ R : VK, R (.ref a) H1 → tl σ H R) (Pv : Addr → Nat → Hp → Prop) (ha : SqT K H1 a xs) (h0 : ∀ D, H1 D = none → Pv D 0 (upd H1 D (.lst [])))
    (hl : ∀ D, H1 D = none → ∀ i H, Pv D i H → SqT K H a xs)
    (hs : ∀ D, H1 D = none → ∀ (i : Nat) x H, xs[i]? = some x → Pv D i H → g x (wipe σ vs) H fun σ2 H2 => wipe σ2 vs = wipe σ vs ∧ tt σ2 H2 fun b H3 =>
      if b = true then te σ2 H3 fun y H4 => ∃ acc, H4 D = some (.lst acc) ∧ acc.length < sizeLine ∧ Pv D (i + 1) (upd H4 D (.lst (acc ++ [y]))) else Pv D (i + 1) H3) (hd : ∀ D H, H1 D = none → Pv D xs.length H → Q (.ref D) H) : tLc (iTup K tl) g tt te vs σ H Q := by
  refine htl _ ⟨a, rfl, ⟨xs, ha⟩, fun D hD => ?_⟩
  exact lc_tup (K := K) (a := a) (xs := xs) (Pv D) (h0 D hD) (fun i H _ p => hl D hD i H p) (hs D hD) fun H p => hd D H hD p
end
theorem sc_ii (a b : Int) : scal (.int a) (.int b) = true := rfl
theorem sc_ss (a b : Str) : scal (.str a) (.str b) = true := rfl
theorem sc_bb (a b : Bool) : scal (.bl a) (.bl b) = true := rfl
theorem sc_is (a : Int) (b : Str) : scal (.int a) (.str b) = true := rfl
theorem sc_si (a : Str) (b : Int) : scal (.str a) (.int b) = true := rfl
theorem sc_ni (b : Int) : scal .non (.int b) = true := rfl
theorem sc_in (b : Int) : scal (.int b) .non = true := rfl
theorem sc_ns (b : Str) : scal .non (.str b) = true := rfl
theorem sc_sn (b : Str) : scal (.str b) .non = true := rfl
theorem sc_nn : scal .non .non = true := rfl
/-! ### isinstance of a built-in class -/
def tyN (H : Hp) : V → Option String
  | .non => some "NoneType"
  | .bl _ => some "bool"
  | .int _ => some "int"
  | .str _ => some "str"
  | .ref a => match H a with
    | some (.lst _) => some "list"
    | some (.tup _) => some "tuple"
    | some (.dK _) => some "dict"
    | some (.dT _) => some "dict"
    | _ => none
  | _ => none
theorem tyX_of {K : PySem.W.Frag} {H : Hp} {x : V} {t : String} (h : tyN H x = some t) : TyX K H x (.type t) := by
  unfold tyN at h
  split at h
  · cases h; exact .base .non
  · cases h; exact .base (.bl _)
  · cases h; exact .base (.int _)
  · cases h; exact .base (.str _)
  · split at h
    · cases h; exact .base (.lst (by assumption))
    · cases h; exact .base (.tup (by assumption))
    · cases h; exact .base (.dK (by assumption))
    · cases h; exact .base (.dT (by assumption))
    · cases h
  · cases h
def rIsN : List V → Hp → VK → Prop := fun xs H Q => ∃ x n, xs = [x, .ty n] ∧ ∃ t, tyN H x = some t ∧ ∃ b, kitB t n = some b ∧ Q (.bl b) H
theorem call_isN {X : Cx} : CallR X (.builtin "isinstance") rIsN := by
  intro pins s σ H xs us Q I r h
  obtain ⟨x, n, rfl, t, ht, b, hb, q⟩ := h
  exact call_isi pins s σ H _ us Q I r ⟨x, .ty n, .type t, .type n, b, rfl, .ty n, tyX_of ht, kit_ty hb, q⟩
theorem kit_ii : kitB "int" "int" = some true := by decide +kernel
theorem kit_bi : kitB "bool" "int" = some true := by decide +kernel
theorem kit_si : kitB "str" "int" = some false := by decide +kernel
theorem kit_ni : kitB "NoneType" "int" = some false := by decide +kernel
theorem kit_ib : kitB "int" "bool" = some false := by decide +kernel
theorem kit_bb : kitB "bool" "bool" = some true := by decide +kernel
theorem kit_sb : kitB "str" "bool" = some false := by decide +kernel
theorem kit_nb : kitB "NoneType" "bool" = some false := by decide +kernel
theorem kit_is : kitB "int" "str" = some false := by decide +kernel
theorem kit_bs : kitB "bool" "str" = some false := by decide +kernel
theorem kit_ss : kitB "str" "str" = some true := by decide +kernel
theorem kit_ns : kitB "NoneType" "str" = some false := by decide +kernel
/-! ### heaps -/
theorem same_new {H : Hp} {p : Addr} {o : HO} (h : H p = none) : Same H (upd H p o) := fun b x e => by
  rw [upd_ne (ne_of_none e h)]
  exact e
theorem same_upd {H H' : Hp} {p : Addr} {o : HO} (s : Same H H') (h : H p = none) : Same H (upd H' p o) := fun b x e => by
  rw [upd_ne (ne_of_none e h)]
  exact s b x e
theorem same_no {H H' : Hp} {p : Addr} (s : Same H H') (h : H' p = none) : H p = none := s.free h
/-- a, b, .. = a tracked tuple -/
def gTupH (n : Nat) (t : TGs) : TG := fun v σ H Q => ∃ a xs, v = .ref a ∧ H a = some (.tup xs) ∧ xs.length = n ∧ t xs σ H Q
theorem pg_tupH {X : Cx} {es : List Expr} {k : Nat} {pos : Pos} {t : TGs} {n : Nat} (hc : X.calm = true) (h : PGs X es t)
    (hn : (assignEach es X.env).length = n := by rfl) (hst : (assignEach es X.env).findIdx? (·.1) = none := by rfl) : PG X (.Tuple es k pos) (gTupH n t) := by
  refine ⟨fun pins s σ H v u Q I r hw => (pg_tup hc h hn hst).run pins s σ H v u Q I r ?_⟩
  obtain ⟨a, xs, e1, hq, hl, hw⟩ := hw
  exact ⟨a, xs, e1, SqT.of hq, hl, hw⟩
/-- xs[k] of the script, or another number -/
theorem idx_or {K : PySem.W.Frag} {H : Hp} {a : Addr} {ns : List Int} {k c0 : Int} {F : V → Hp → Prop} (hs : SqL K H a (ns.map V.int)) (hk : 0 ≤ k) (h : ∀ c : Int, F (.int c) H) :
    if k < ((ns.map V.int).length : Int) then rIxL K (.ref a) (.int k) H F else F (.int c0) H := by
  split
  · rename_i c
    rw [List.length_map] at c
    obtain ⟨m, rfl⟩ : ∃ m : Nat, k = m := ⟨k.toNat, by omega⟩
    have hl : m < ns.length := by omega
    refine ⟨a, _, _, .int ns[m], rfl, rfl, hs, atI_nat ?_, h _⟩
    rw [List.getElem?_map, List.getElem?_eq_getElem hl]
    rfl
  · exact h _
theorem cut_ints (ns : List Int) (lo hi : Option Int) : ∃ ms : List Int, cutV (ns.map V.int) lo hi = ms.map V.int ∧ ms.length ≤ ns.length := by
  refine ⟨(ns.drop (HT.sIx ns.length 0 lo)).take (HT.sIx ns.length ns.length hi - HT.sIx ns.length 0 lo), ?_, ?_⟩
  · unfold cutV
    rw [List.length_map, List.map_take, List.map_drop]
  · rw [List.length_take, List.length_drop]
    omega
/-- for x in a list of ints that the loop leaves, as it leaves the heap -/
theorem for_ints {K : PySem.W.Frag} {σ : L2.St} {H : Hp} {g : TG} {tb : TS} {D : Ends} {tl : TE} (htl : ∀ R : VK, (∀ a H' (ns : List Int), Same H H' → H' a = some (.lst (ns.map V.int)) → R (.ref a) H') → tl σ H R) (Pv : L2.St → Prop) (h0 : Pv σ)
    (hs : ∀ (x : Int) σ H', Same H H' → Pv σ → ∀ N : L2.St → Hp → Prop, (∀ σ', Pv σ' → N σ' H') → g (.int x) σ H' fun σ2 H2 => tb { D with nx := N, ct := N, bk := D.nx } σ2 H2) (hd : ∀ σ' H', Same H H' → Pv σ' → D.nx σ' H') : tFor (iList K tl) g tb D σ H := by
  refine htl _ fun a H' ns s ha => ⟨a, rfl, ⟨_, SqL.of ha⟩, ?_⟩
  refine for_list (K := K) (a := a) (xs := ns.map V.int) (fun _ σ H2 => H2 = H' ∧ Pv σ) ⟨rfl, h0⟩ (fun i σ H2 _ p => by rw [p.1]; exact SqL.of ha) (fun i x σ H2 hx p => ?_) fun σ H2 p => by
    rw [p.1]
    exact hd σ H' s p.2
  obtain ⟨z, _, rfl⟩ : ∃ z, z ∈ ns ∧ V.int z = x := List.mem_map.mp (List.mem_of_getElem? hx)
  rw [p.1]
  exact hs z σ H' s p.2 _ fun σ' h => ⟨rfl, h⟩
/-- for x in a list that stands and stays -/
theorem for_trk {K : PySem.W.Frag} {σ : L2.St} {H : Hp} {g : TG} {tb : TS} {D : Ends} {tl : TE} {a : Addr} {xs : List V} (htl : ∀ R : VK, R (.ref a) H → tl σ H R) (Pv : Nat → L2.St → Hp → Prop) (h0 : Pv 0 σ H)
    (hst : ∀ i σ' H', Pv i σ' H' → SqL K H' a xs)
    (hs : ∀ i x σ H', xs[i]? = some x → Pv i σ H' → ∀ N : L2.St → Hp → Prop, (∀ σ' H2, Pv (i + 1) σ' H2 → N σ' H2) → g x σ H' fun σ2 H2 => tb { D with nx := N, ct := N, bk := D.nx } σ2 H2)
    (hd : ∀ σ' H', Pv xs.length σ' H' → D.nx σ' H') : tFor (iList K tl) g tb D σ H := by
  refine htl _ ⟨a, rfl, ⟨_, hst 0 σ H h0⟩, ?_⟩
  exact for_list (K := K) (a := a) (xs := xs) Pv h0 (fun i σ H2 _ p => hst i σ H2 p) (fun i x σ H2 hx p => hs i x σ H2 hx p _ fun σ' H3 h => h) hd
/-- for x in a list that is written there -/
theorem for_lstn {K : PySem.W.Frag} {σ : L2.St} {H : Hp} {g : TG} {tb : TS} {D : Ends} {tl : TE} {xs : List V} (htl : ∀ R : VK, (∀ a, H a = none → R (.ref a) (upd H a (.lst xs))) → tl σ H R) (Pv : Nat → L2.St → Hp → Prop)
    (h0 : ∀ a, H a = none → Pv 0 σ (upd H a (.lst xs)))
    (hs : ∀ a, H a = none → ∀ i x σ H', xs[i]? = some x → H' a = some (.lst xs) → Pv i σ H' → ∀ N : L2.St → Hp → Prop, (∀ σ' H2, H2 a = some (.lst xs) → Pv (i + 1) σ' H2 → N σ' H2) → g x σ H' fun σ2 H2 => tb { D with nx := N, ct := N, bk := D.nx } σ2 H2)
    (hd : ∀ σ' H', Pv xs.length σ' H' → D.nx σ' H') : tFor (iList K tl) g tb D σ H := by
  refine htl _ fun a ha => ⟨a, rfl, ⟨_, SqL.of upd_same⟩, ?_⟩
  refine for_list (K := K) (a := a) (xs := xs) (fun i σ H2 => H2 a = some (.lst xs) ∧ Pv i σ H2) ⟨upd_same, h0 a ha⟩ (fun i σ H2 _ p => SqL.of p.1) (fun i x σ H2 hx p => ?_) fun σ H2 p => hd σ H2 p.2
  exact hs a ha i x σ H2 hx p.1 p.2 _ fun σ' H3 h1 h2 => ⟨h1, h2⟩
/-! ### comprehensions whose elements are values -/
section
variable {K : PySem.W.Frag} {σ : L2.St}
theorem take_fm {α β : Type} (f : α → Option β) {xs : List α} {i : Nat} {x : α} (h : xs[i]? = some x) : (xs.take (i + 1)).filterMap f = (xs.take i).filterMap f ++ (f x).toList := by
  rw [List.take_add_one, h, List.filterMap_append]
  cases e : f x with
  | none => simp [e]
  | some y => simp [e]
/-- one turn of a comprehension: the element's value, or nothing -/
def Turn1 (g : TG) (tt : TT) (te : TE) (vs : List Nat) (σ : L2.St) (H : Hp) (x : V) (o : Option V) : Prop :=
  ∀ (Y : V → Hp → Prop) (N : Hp → Prop), (∀ y H', o = some y → Same H H' → Y y H') → (∀ H', o = none → Same H H' → N H') →
    g x (wipe σ vs) H fun σ2 H2 => wipe σ2 vs = wipe σ vs ∧ tt σ2 H2 fun b H3 => if b = true then te σ2 H3 Y else N H3
/-- what the new list holds between two turns -/
def Acc (H1 : Hp) (f : V → Option V) (xs : List V) (D : Addr) (i : Nat) (H : Hp) : Prop := Same H1 H ∧ H D = some (.lst ((xs.take i).filterMap f))
theorem acc_turn {H1 : Hp} {f : V → Option V} {xs : List V} {D : Addr} {i : Nat} {H : Hp} {x : V} {g : TG} {tt : TT} {te : TE} {vs : List Nat} (hD : H1 D = none) (hx : xs.length ≤ 1000) (h : xs[i]? = some x) (p : Acc H1 f xs D i H) (t : Turn1 g tt te vs σ H x (f x)) :
    g x (wipe σ vs) H fun σ2 H2 => wipe σ2 vs = wipe σ vs ∧ tt σ2 H2 fun b H3 =>
      if b = true then te σ2 H3 fun y H4 => ∃ acc, H4 D = some (.lst acc) ∧ acc.length < sizeLine ∧ Acc H1 f xs D (i + 1) (upd H4 D (.lst (acc ++ [y]))) else Acc H1 f xs D (i + 1) H3 := by
  refine t _ _ (fun y H' e s => ?_) fun H' e s => ?_
  · refine ⟨_, s _ _ p.2, ?_, ?_, ?_⟩
    · refine Nat.lt_of_le_of_lt (List.length_filterMap_le _ _) ?_
      rw [List.length_take]
      exact Nat.lt_of_le_of_lt (Nat.min_le_right _ _) (small1000 hx)
    · intro b o eb
      rw [upd_ne (ne_of_none eb hD)]
      exact s _ _ (p.1 _ _ eb)
    · rw [upd_same, take_fm f h, e]
      rfl
  · refine ⟨p.1.trans s, ?_⟩
    rw [take_fm f h, e, s _ _ p.2]
    simp
theorem acc_start {H1 : Hp} {f : V → Option V} {xs : List V} {D : Addr} (hD : H1 D = none) : Acc H1 f xs D 0 (upd H1 D (.lst [])) := ⟨fun b o eb => by
  rw [upd_ne (ne_of_none eb hD)]
  exact eb, by rw [upd_same]; rfl⟩
theorem lc_mapL {a : Addr} {xs : List V} {g : TG} {tt : TT} {te : TE} {vs : List Nat} {H H1 : Hp} {tl : TE} {Q : VK} (f : V → Option V) (htl : ∀ R : VK, R (.ref a) H1 → tl σ H R) (ha : SqL K H1 a xs) (hx : xs.length ≤ 1000)
    (hs : ∀ x ∈ xs, ∀ H, Same H1 H → Turn1 g tt te vs σ H x (f x))
    (hd : ∀ D H', H1 D = none → Same H1 H' → H' D = some (.lst (xs.filterMap f)) → Q (.ref D) H') : tLc (iList K tl) g tt te vs σ H Q := by
  refine htl _ ⟨a, rfl, ⟨xs, ha⟩, fun D hD => ?_⟩
  refine lc_list (K := K) (a := a) (xs := xs) (Acc H1 f xs D) (acc_start hD) (fun i H _ p => p.1.seq ha) (fun i x H h p => acc_turn hD hx h p (hs x (List.mem_of_getElem? h) H p.1)) fun H p => ?_
  have e := p.2
  rw [List.take_length] at e
  exact hd D H hD p.1 e
theorem sq_same {H H' : Hp} {a : Addr} {xs : List V} (e : Same H H') (h : SqT K H a xs) : SqT K H' a xs := by
  rcases h with (h | ⟨o, h⟩) | h
  · exact .inl (.inl (e _ _ h))
  · exact .inl (.inr ⟨o, e _ _ h⟩)
  · exact .inr h
theorem lc_mapT {a : Addr} {xs : List V} {g : TG} {tt : TT} {te : TE} {vs : List Nat} {H H1 : Hp} {tl : TE} {Q : VK} (f : V → Option V) (htl : ∀ R : VK, R (.ref a) H1 → tl σ H R) (ha : SqT K H1 a xs) (hx : xs.length ≤ 1000)
    (hs : ∀ x ∈ xs, ∀ H, Same H1 H → Turn1 g tt te vs σ H x (f x))
    (hd : ∀ D H', H1 D = none → Same H1 H' → H' D = some (.lst (xs.filterMap f)) → Q (.ref D) H') : tLc (iTup K tl) g tt te vs σ H Q := by
  refine htl _ ⟨a, rfl, ⟨xs, ha⟩, fun D hD => ?_⟩
  refine lc_tup (K := K) (a := a) (xs := xs) (Acc H1 f xs D) (acc_start hD) (fun i H _ p => sq_same p.1 ha) (fun i x H h p => acc_turn hD hx h p (hs x (List.mem_of_getElem? h) H p.1)) fun H p => ?_
  have e := p.2
  rw [List.take_length] at e
  exact hd D H hD p.1 e
theorem lc_mapTn {xs : List V} {g : TG} {tt : TT} {te : TE} {vs : List Nat} {H : Hp} {tl : TE} {Q : VK} (f : V → Option V) (htl : ∀ R : VK, (∀ a, H a = none → R (.ref a) (upd H a (.tup xs))) → tl σ H R) (hx : xs.length ≤ 1000)
    (hs : ∀ x ∈ xs, ∀ H', Same H H' → Turn1 g tt te vs σ H' x (f x))
    (hd : ∀ D H', H D = none → Same H H' → H' D = some (.lst (xs.filterMap f)) → Q (.ref D) H') : tLc (iTup K tl) g tt te vs σ H Q := by
  refine htl _ fun a ha => ⟨a, rfl, ⟨xs, SqT.of upd_same⟩, fun D hD => ?_⟩
  have s1 : Same H (upd H a (.tup xs)) := same_new ha
  refine lc_tup (K := K) (a := a) (xs := xs) (Acc (upd H a (.tup xs)) f xs D) (acc_start hD) (fun i H _ p => sq_same p.1 (SqT.of upd_same)) (fun i x H h p => acc_turn hD hx h p (hs x (List.mem_of_getElem? h) H (s1.trans p.1))) fun H p => ?_
  have e := p.2
  rw [List.take_length] at e
  exact hd D H (s1.free hD) (s1.trans p.1) e
theorem lc_mapLn {xs : List V} {g : TG} {tt : TT} {te : TE} {vs : List Nat} {H : Hp} {tl : TE} {Q : VK} (f : V → Option V) (htl : ∀ R : VK, (∀ a, H a = none → R (.ref a) (upd H a (.lst xs))) → tl σ H R) (hx : xs.length ≤ 1000)
    (hs : ∀ x ∈ xs, ∀ H', Same H H' → Turn1 g tt te vs σ H' x (f x))
    (hd : ∀ D H', H D = none → Same H H' → H' D = some (.lst (xs.filterMap f)) → Q (.ref D) H') : tLc (iList K tl) g tt te vs σ H Q := by
  refine htl _ fun a ha => ⟨a, rfl, ⟨xs, SqL.of upd_same⟩, fun D hD => ?_⟩
  have s1 : Same H (upd H a (.lst xs)) := same_new ha
  refine lc_list (K := K) (a := a) (xs := xs) (Acc (upd H a (.lst xs)) f xs D) (acc_start hD) (fun i H _ p => p.1.seq (SqL.of upd_same)) (fun i x H h p => acc_turn hD hx h p (hs x (List.mem_of_getElem? h) H (s1.trans p.1))) fun H p => ?_
  have e := p.2
  rw [List.take_length] at e
  exact hd D H (s1.free hD) (s1.trans p.1) e
/-- the ints below n -/
def upto (n : Int) : List V := (List.range n.toNat).map fun i => V.int (i : Nat)
theorem upto_get {n : Int} {i : Nat} (h : (i : Int) < n) : (upto n)[i]? = some (.int i) := by
  unfold upto
  rw [List.getElem?_map, List.getElem?_range (by omega)]
  rfl
theorem upto_len (n : Int) : (upto n).length = n.toNat := by
  unfold upto
  rw [List.length_map, List.length_range]
theorem lc_mapR {n : Int} {g : TG} {tt : TT} {te : TE} {vs : List Nat} {H H1 : Hp} {ta : TA} {Q : VK} (f : V → Option V) (hta : ∀ R : List V → Hp → Prop, R [.int n] H1 → ta σ H R) (hn : n ≤ 1000 ∧ 0 ≤ n)
    (hs : ∀ i : Nat, (i : Int) < n → ∀ H, Same H1 H → Turn1 g tt te vs σ H (.int i) (f (.int i)))
    (hd : ∀ D H', H1 D = none → Same H1 H' → H' D = some (.lst ((upto n).filterMap f)) → Q (.ref D) H') : tLc (iRng1 ta) g tt te vs σ H Q := by
  refine hta _ ⟨n, rfl, by omega, by omega, fun D hD => ?_⟩
  refine lc_range (lo := 0) (n := n.toNat) (Acc H1 f (upto n) D) (acc_start hD) (fun i H hi p => ?_) fun H p => ?_
  · have e : (0 : Int) + (i : Int) = (i : Int) := by omega
    rw [e]
    exact acc_turn hD (by rw [upto_len]; omega) (upto_get (by omega)) p (hs i (by omega) H p.1)
  · have e := p.2
    rw [show n.toNat = (upto n).length from (upto_len n).symm, List.take_length] at e
    exact hd D H hD p.1 e
end
/-! ### a source of draws: three numbers in a list at p, and nothing else is changed -/
def Spring (H : Hp) (p : Addr) : Prop := ∃ a b c : Int, H p = some (.lst [.int a, .int b, .int c])
structure Kp (p : Addr) (H H' : Hp) : Prop where
  sp : Spring H' p
  keep : ∀ b o, b ≠ p → H b = some o → H' b = some o
theorem Kp.refl {p : Addr} {H : Hp} (h : Spring H p) : Kp p H H := ⟨h, fun _ _ _ e => e⟩
theorem Kp.trans {p : Addr} {H H1 H2 : Hp} (a : Kp p H H1) (b : Kp p H1 H2) : Kp p H H2 := ⟨b.sp, fun c o n e => b.keep c o n (a.keep c o n e)⟩
theorem Spring.ne {H : Hp} {p q : Addr} (h : Spring H p) (n : H q = none) : q ≠ p := by
  rintro rfl
  obtain ⟨_, _, _, e⟩ := h
  rw [e] at n
  cases n
theorem ne_of_spring {H : Hp} {p q : Addr} (h : Spring H p) (n : H q = none) : p ≠ q := Ne.symm (h.ne n)
theorem Spring.same {H H' : Hp} {p : Addr} (h : Spring H p) (s : Same H H') : Spring H' p := by
  obtain ⟨a, b, c, e⟩ := h
  exact ⟨a, b, c, s _ _ e⟩
theorem Spring.new {H : Hp} {p q : Addr} {o : HO} (h : Spring H p) (n : H q = none) : Spring (upd H q o) p := h.same (same_new n)
theorem Kp.same {p : Addr} {H H1 H2 : Hp} (a : Kp p H H1) (s : Same H1 H2) : Kp p H H2 := ⟨a.sp.same s, fun c o n e => s c o (a.keep c o n e)⟩
theorem Kp.new {p q : Addr} {H H1 : Hp} {o : HO} (a : Kp p H H1) (n : H1 q = none) : Kp p H (upd H1 q o) := a.same (same_new n)
theorem Kp.free {p q : Addr} {H H1 : Hp} (a : Kp p H H1) (hp : q ≠ p) (n : H1 q = none) : H q = none := by
  cases e : H q with
  | none => rfl
  | some o =>
    rw [a.keep q o hp e] at n
    cases n
/-- what H does not know may change -/
theorem Kp.mut {p q : Addr} {H H1 : Hp} {o : HO} (a : Kp p H H1) (hp : q ≠ p) (n : H q = none) : Kp p H (upd H1 q o) := by
  obtain ⟨x, y, z, e⟩ := a.sp
  refine ⟨⟨x, y, z, ?_⟩, fun b u nb e' => ?_⟩
  · rw [upd_ne (Ne.symm hp)]
    exact e
  · rw [upd_ne (ne_of_none e' n)]
    exact a.keep b u nb e'
theorem Kp.seq {K : PySem.W.Frag} {p q : Addr} {H H1 : Hp} {xs : List V} (a : Kp p H H1) (hp : q ≠ p) (h : SqL K H q xs) : SqL K H1 q xs := by
  rcases h with (h | ⟨o, h⟩) | h
  · exact .inl (.inl (a.keep _ _ hp h))
  · exact .inl (.inr ⟨o, a.keep _ _ hp h⟩)
  · exact .inr h
/-! ### in a list of ints -/
theorem inV_ints (y : Int) : ∀ ns : List Int, inV (.int y) (ns.map V.int) = decide (y ∈ ns)
  | [] => rfl
  | n :: r => by
    have ih := inV_ints y r
    unfold inV at ih ⊢
    rw [List.map_cons, List.any_cons, ih]
    show (n == y || decide (y ∈ r)) = decide (y ∈ n :: r)
    rw [Bool.eq_iff_iff]
    simp only [Bool.or_eq_true, beq_iff_eq, decide_eq_true_eq, List.mem_cons]
    constructor
    · rintro (h | h)
      · exact .inl h.symm
      · exact .inr h
    · rintro (h | h)
      · exact .inl h.symm
      · exact .inr h
theorem flat_ints : ∀ ns : List Int, (ns.map V.int).all flatV = true
  | [] => rfl
  | n :: r => by
    rw [List.map_cons, List.all_cons, flat_ints r]
    rfl
/-! ### data compared -/
theorem dpAll_ints {K : PySem.W.Frag} {H : Hp} : ∀ ns : List Int, DpAll K H (ns.map V.int) (ns.map PyData.int)
  | [] => .nil
  | n :: r => .cons (.int n) (dpAll_ints r)
theorem can_ints : ∀ ns : List Int, PyData.canLayAll0 (ns.map PyData.int) = true
  | [] => rfl
  | n :: r => by
    rw [List.map_cons]
    show (PyData.canLay0 (.int n) && PyData.canLayAll0 (r.map PyData.int)) = true
    rw [can_ints r]
    rfl
theorem depth_ints : ∀ ns : List Int, PyData.depthAll (ns.map PyData.int) ≤ 1
  | [] => by simp [PyData.depthAll]
  | n :: r => by
    have ih := depth_ints r
    rw [List.map_cons]
    simp only [PyData.depthAll, PyData.depth]
    omega
theorem shaped_tup (ns : List Int) : SeqAt.shaped (.tuple (ns.map PyData.int)) = true := by
  unfold SeqAt.shaped
  rw [Bool.and_eq_true]
  refine ⟨can_ints ns, decide_eq_true ?_⟩
  have h := depth_ints ns
  simp only [PyData.depth]
  omega
theorem shaped_lst (ns : List Int) : SeqAt.shaped (.list (ns.map PyData.int)) = true := by
  unfold SeqAt.shaped
  rw [Bool.and_eq_true]
  refine ⟨can_ints ns, decide_eq_true ?_⟩
  have h := depth_ints ns
  simp only [PyData.depth]
  omega
/-- two tuples, two lists of the same ints -/
theorem ne_tups {K : PySem.W.Frag} {H : Hp} {a b : Addr} {ns : List Int} {Q : VK} (ha : H a = some (.tup (ns.map V.int))) (hb : H b = some (.tup (ns.map V.int))) (q : Q (.bl false) H) : rNeD K (.ref a) (.ref b) H Q := by
  refine ⟨.tuple (ns.map PyData.int), .tuple (ns.map PyData.int), .tup (SqT.of ha) (dpAll_ints ns), .tup (SqT.of hb) (dpAll_ints ns), shaped_tup ns, shaped_tup ns, ?_⟩
  rw [SeqAt.eqv_refl _ (SeqAt.canLay_of_shaped (shaped_tup ns))]
  exact q
theorem ne_lsts {K : PySem.W.Frag} {H : Hp} {a b : Addr} {ns : List Int} {Q : VK} (ha : H a = some (.lst (ns.map V.int))) (hb : H b = some (.lst (ns.map V.int))) (q : Q (.bl false) H) : rNeD K (.ref a) (.ref b) H Q := by
  refine ⟨.list (ns.map PyData.int), .list (ns.map PyData.int), .lst (SqL.of ha) (dpAll_ints ns), .lst (SqL.of hb) (dpAll_ints ns), shaped_lst ns, shaped_lst ns, ?_⟩
  rw [SeqAt.eqv_refl _ (SeqAt.canLay_of_shaped (shaped_lst ns))]
  exact q
end Z

/-! Calls by keywords alone; defs that ask that no list is being written out around them (repr). -/
namespace Z
open PySem PySem.Spec PyProof.Rows L2
/-! ### keywords alone, in any order -/
/-- how keywords alone come to the parameters: π tells for each parameter the place of its keyword -/
def BdK (x : Str) (st : Stmt) (ps ks : List Str) (π : List Nat) : Prop := ∀ (qual : Str) (kV doc pm : Value) (an : Option Addr) (cdv ct : Value) (ws : List Value), ws.length = ks.length →
  bindArgs (PySem.W.fnOf x qual (defArgs st) (defBody st) (defScope st) .none kV doc pm an cdv ct) ⟨[], ks.zip ws⟩ = pure (ps.zip (π.map fun i => ws.getD i .none))
theorem vals_getD : ∀ {zs : List V} {ws : List Value}, Vals zs ws → ∀ i : Nat, RelV (zs.getD i .non) (ws.getD i .none)
  | _, _, .nil, _ => rfl
  | _, _, .cons r _, 0 => r
  | _, _, .cons _ t, i + 1 => vals_getD t i
theorem vals_perm {zs : List V} {ws : List Value} (r : Vals zs ws) : ∀ π : List Nat, Vals (π.map fun i => zs.getD i .non) (π.map fun i => ws.getD i .none)
  | [] => .nil
  | i :: π => .cons (vals_getD r i) (vals_perm r π)
def tCallK0 (n : Nat) (sp : Sp) (π : List Nat) (E : XK) (tk : TA) : TE := fun σ H Q => tk σ H fun zs H1 => zs.length = n ∧ sp (π.map fun i => zs.getD i .non) H1 Q E
/-! ### defs under no guard -/
structure FnG (P : Program) (w : World) (K : PySem.W.Frag) (mg : Str → Option Value) (base : Heap) (CX : CXT) (k : Nat) (f : Addr) (fd : FuncData) (ps : List Str) (sp : Sp) : Prop where
  few : ∀ vs H Q E, sp vs H Q E → vs.length = ps.length
  goes : ∀ (A : Around) (outer : List Env) (s : Shared) (H : Hp) (args : Args) (us : List Value) (vs : List V) (Q : VK) (E : XK), Room k A → A.guards = some [] → Env0 P w K mg base A outer s H → BindsTo s fd args (ps.zip us) → Vals vs us →
    sp vs H Q E → codeAny (model P w) A (.call (.ref f) args) (CR CX outer P w H s Q E) s
theorem FnG.of {P : Program} {w : World} {K : PySem.W.Frag} {mg : Str → Option Value} {base : Heap} {CX : CXT} {k : Nat} {f : Addr} {fd : FuncData} {ps : List Str} {sp : Sp} (F : FnOk P w K mg base CX k f fd ps sp) : FnG P w K mg base CX k f fd ps sp :=
  ⟨F.len, fun A outer s H args us vs Q E hr _ => F.run A outer s H args us vs Q E hr⟩
section
variable {P : Program} {w : World} {K : PySem.W.Frag} {mg : Str → Option Value} {base : Heap}
/-- a def by its body, under no guard -/
theorem fun_okG {x qual : Str} {st : Stmt} {f : Addr} {fd : FuncData} {N ps : List Str} {k : Nat} {sp : Sp} (F : Fun K x qual st f fd) (S : FnScope N ps (defScope st)) (few : ∀ vs H Q E, sp vs H Q E → vs.length = ps.length)
    (body : ∀ (cdv : Value) (A : Around) (outer : List Env) (s : Shared) (H : Hp) (vs : List V) (Q : VK) (E : XK), Room k (A.deeper (envOfC qual (defScope st) s.heap.objs.size f cdv)) → A.guards = some [] → sp vs H Q E →
      ∃ t, PSs (cxOf CX0 P w K mg base N qual (defScope st) f cdv A outer s H E).nox (defBody st) t ∧ t { nx := fun _ H' => Q .non H', rt := Q } (start N vs) H) : FnG P w K mg base CX0 (k + 1) f fd ps sp := by
  obtain ⟨oc, od, kV, doc, pm, an, cdv, ct, osl, rfl, lk, hcd⟩ := F.ex
  refine ⟨few, fun A outer s H args us vs Q E room gd here binds rel told => ?_⟩
  have inK : K.In s.heap := here.mod.kin.keeps fun b o e => (here.bs b o e).1
  have noLim : s.heap.NoLimit := here.mod.nolimit.keeps fun b o e => (here.bs b o e).1
  have kinds : ∀ y ∈ ps.zip us, (defScope st).names.lookup y.1 = some .local ∨ ((defScope st).names.lookup y.1 = some .cell ∧ ((cellsFrom (s.heap.objs.size + 1) (defScope st).names []).lookup y.1).isSome = true) := fun ⟨n, v⟩ hy =>
    (S.par n (List.of_mem_zip hy).1).elim .inl fun c => .inr ⟨c, PySem.W.cellsFrom_some _ _ _ (.inl c)⟩
  refine codeAny_call_function room.depth (inK _ _ lk) rfl S.co S.gen rfl (PySem.W.codeRec_of inK hcd) (binds _ _ _ _ (wpAny_newFunctionEnv_cells S.kind kinds fun env he s1 made => ?_))
  cases he
  refine ⟨noLim.keeps made.toInCall.keep, codeAny_func ?_⟩
  obtain ⟨t, ht, hq⟩ := body cdv A outer s H vs Q E (room.deeper _) gd told
  have I0 : Inv (cxOf CX0 P w K mg base N qual (defScope st) f cdv A outer s H E) [] (start N vs) H s1 := inv_start S room.hd here (few _ _ _ _ told) rel made
  refine wpAny_mono (ht.nox.run [] s1 (start N vs) H _ I0 hq) (fun fl s' hs => ?_) fun e s' hs => hs
  cases fl with
  | ret u => exact let ⟨v, _, H', J, rv, q⟩ := hs; ⟨v, H', J.os, J.bare, J.base, J.hok, rv, q⟩
  | next => exact let ⟨_, H', J, q⟩ := hs; ⟨V.non, H', J.os, J.bare, J.base, J.hok, rfl, q⟩
  | brk => exact let ⟨_, _, _, q⟩ := hs; q.elim
  | cont => exact let ⟨_, _, _, q⟩ := hs; q.elim
end
structure HdG (P : Program) (w : World) (K : PySem.W.Frag) (mg : Str → Option Value) (base : Heap) (CX : CXT) (k : Nat) (x : Str) (st : Stmt) (ps : List Str) (sp : Sp) : Prop where
  ex : ∃ f fd, Fun K x x st f fd ∧ mg x = some (.ref f) ∧ FnG P w K mg base CX k f fd ps sp
  bd : Bd x st ps
theorem HdG.of {P : Program} {w : World} {K : PySem.W.Frag} {mg : Str → Option Value} {base : Heap} {CX : CXT} {k : Nat} {x : Str} {st : Stmt} {ps : List Str} {sp : Sp} (h : Hd P w K mg base CX k x st ps sp) : HdG P w K mg base CX k x st ps sp := by
  obtain ⟨f, fd, F, hm, G⟩ := h.ex
  exact ⟨⟨f, fd, F, hm, .of G⟩, h.bd⟩
section
variable {X : Cx} {CX : CXT} {k : Nat} {st : Stmt} {ps ks : List Str} {sp : Sp} {E : XK} {x : Str} {p pos : Pos} {e : Expr} {es : List Expr} {kws : List Keyword} {t tk : TA} {π : List Nat}
theorem run_G {pins : List (Addr × Obj)} {σ : L2.St} {H : Hp} {s : Shared} {Q : VK} {args : Args} {us : List Value} {vs : List V} {f : Addr} {fd : FuncData} (F : FnG X.prog X.w X.K X.mg X.base CX k f fd ps sp) (hr : Room k X.A) (gd : X.A.guards = some []) (hx : Passes CX X E)
    (I : Inv X pins σ H s) (hb : BindsTo s fd args (ps.zip us)) (r : Vals vs us) (h : sp vs H Q E) : codeAny (model X.prog X.w) X.A (.call (.ref f) args) (fun q s' => match q with | .ok (.ret u) => EP X pins σ Q u s' | .ok _ => False | .error e => X.xe e s') s := by
  refine codeAny_mono (F.goes X.A X.stack s H args us vs Q E hr gd I.env0 hb r h) fun q s' told => ?_
  match q, told with
  | .error e, told => exact hx pins σ H s e s' I told
  | .ok (.ret u), told => exact I.after told
  | .ok .next, told => exact told
  | .ok .brk, told => exact told
  | .ok .cont, told => exact told
theorem run_Gc {pins : List (Addr × Obj)} {σ : L2.St} {H : Hp} {s : Shared} {Q : VK} {us0 : List Value} {kw : List (Str × Value)} {us : List Value} {vs : List V} {f : Addr} {fd : FuncData} (F : FnG X.prog X.w X.K X.mg X.base CX k f fd ps sp) (hr : Room k X.A) (gd : X.A.guards = some []) (hx : Passes CX X E)
    (I : Inv X pins σ H s) (hb : BindsTo s fd ⟨us0, kw⟩ (ps.zip us)) (r : Vals vs us) (h : sp vs H Q E) : wpAny (model X.prog X.w) X.A (call (.ref f) us0 kw) (EP X pins σ Q) X.xe s := by
  refine wpAny_call (codeAny_mono (run_G F hr gd hx I hb r h) fun q s' told => ?_)
  match q, told with
  | .error e, told => exact told
  | .ok (.ret u), told => exact told
  | .ok .next, told => exact told.elim
  | .ok .brk, told => exact told.elim
  | .ok .cont, told => exact told.elim
theorem pe_hdG (h : HdG X.prog X.w X.K X.mg X.base CX k x st ps sp) (hr : Room k X.A) (gd : X.A.guards = some []) (hg : Gl X x) (hx : Passes CX X E) (ha : PA X (e :: es) t) (hdb : (x == ("__debug__" : Str)) = false := by decide)
    (hs : starEach (e :: es) X.env = (false, eval e X.env) :: starEach es X.env := by rfl) (hpl : (backTo pos (starEach es X.env)).any (·.1) = false := by rfl) : PE X (.Call (.Name x p) (e :: es) [] pos) (tCall sp [] E t) := by
  obtain ⟨f, fd, F, hm, G⟩ := h.ex
  refine ⟨fun pins s σ H Q I told => wpAny_Call_Name_kw (ld_glob I hg hm (PySem.W.callWith_K (h₀ := X.base) I.ok.mod.kin F.kp (thn (ha.run pos pins s σ H _ I told) fun us s1 got => ?_) hs hpl) hdb)⟩
  obtain ⟨vs, H1, I1, r, q⟩ := got
  rw [List.append_nil] at q
  refine ⟨I1.kIn, run_Gc G hr gd hx I1 ?_ r q⟩
  have hl : us.length = ps.length := by rw [← r.length]; exact G.few _ _ _ _ q
  have b := (F.binds (h.bd x)) s1 us I1.kIn (by rw [List.append_nil]; exact hl)
  rw [List.append_nil] at b
  exact b
theorem pe_hdk (h : HdG X.prog X.w X.K X.mg X.base CX k x st ps sp) (hr : Room k X.A) (gd : X.A.guards = some [] ∨ Hd X.prog X.w X.K X.mg X.base CX k x st ps sp) (hg : Gl X x) (hx : Passes CX X E) (hbk : BdK x st ps ks π) (hkw : PK X kws tk)
    (hall : (backToKw pos (keywordEach kws X.env)).all (·.1.isSome) = true := by rfl) (hks : (backToKw pos (keywordEach kws X.env)).filterMap (·.1) = ks := by rfl)
    (hdb : (x == ("__debug__" : Str)) = false := by decide) (hpl : ((backTo pos (starEach [] X.env)).any (·.1) || (backToKw pos (keywordEach kws X.env)).any (·.1.isNone)) = false := by rfl) :
    PE X (.Call (.Name x p) [] kws pos) (tCallK0 ks.length sp π E tk) := by
  have fin : ∀ {pins : List (Addr × Obj)} {σ : L2.St} {H : Hp} {s : Shared} {Q : VK} {ws : List Value} {zs : List V}, Inv X pins σ H s → Vals zs ws → zs.length = ks.length → sp (π.map fun i => zs.getD i .non) H Q E →
      ∃ f, X.mg x = some (.ref f) ∧ PySem.W.keepIn X.K (.ref f) = true ∧ wpAny (model X.prog X.w) X.A (call (.ref f) [] (ks.zip ws)) (EP X pins σ Q) X.xe s := by
    intro pins σ H s Q ws zs I r hl q
    have bind : ∀ {f : Addr} {fd : FuncData}, Fun X.K x x st f fd → BindsTo s fd ⟨[], ks.zip ws⟩ (ps.zip (π.map fun i => ws.getD i .none)) := by
      intro f fd F
      obtain ⟨oc, od, kV, doc, pm, an, cdv, ct, osl, rfl, lk, hcd⟩ := F.ex
      exact .of_eq (hbk x kV doc pm an cdv ct ws (by rw [← r.length]; exact hl))
    rcases gd with gd | h2
    · obtain ⟨f, fd, F, hm, G⟩ := h.ex
      exact ⟨f, hm, F.kp, run_Gc G hr gd hx I (bind F) (vals_perm r π) q⟩
    · obtain ⟨f, fd, F, hm, G⟩ := h2.ex
      refine ⟨f, hm, F.kp, wpAny_call (codeAny_mono (G.run X.A X.stack s H _ _ _ Q E hr I.env0 (bind F) (vals_perm r π) q) fun q s' told => ?_)⟩
      match q, told with
      | .error e, told => exact hx pins σ H s e s' I told
      | .ok (.ret u), told => exact I.after told
      | .ok .next, told => exact told.elim
      | .ok .brk, told => exact told.elim
      | .ok .cont, told => exact told.elim
  obtain ⟨f0, fd0, F0, hm0, G0⟩ := h.ex
  refine ⟨fun pins s σ H Q I told => wpAny_Call_Name_kw (ld_glob I hg hm0 (PySem.W.callWith_KW0 (h₀ := X.base) I.ok.mod.kin F0.kp hall (thn (hkw.run pos pins s σ H _ I told) fun ws s1 got => ?_) hpl) hdb)⟩
  obtain ⟨zs, H1, I1, r, hl, q⟩ := got
  refine ⟨I1.kIn, ?_⟩
  rw [hks]
  obtain ⟨f, hm, kp, done⟩ := fin I1 r hl q
  rw [hm0] at hm
  cases hm
  exact done
end
/-! ### the law's own call -/
section
variable {P : Program} {w : World} {K : PySem.W.Frag} {mg mb : Str → Option Value} {k : Nat} {fa a : Addr} {fd : FuncData} {x : Str} {sp : Sp} {s1 : Shared} {vs : List Value} {ns : List Int}
/-- from one abstract heap in which the script alone may be tracked -/
theorem start_call (inK : K.In s1.heap) (nsG : s1.heap.Ns mainGlobals mg) (nsB : s1.heap.Ns builtinsNs mb) (boot : ∀ x : Str, x ≠ "__name__" → mb x = bootBuiltins x) (noLim : s1.heap.NoLimit) (noGen : s1.gens = #[])
    (here : s1.heap.get? a = some { cls := .type "list", data := .seq vs.toArray }) (room : Room k callerA) (F : ∀ base : Heap, K.In base → base.Ns mainGlobals mg → FnG P w K mg base CX0 k fa fd [x] sp)
    (bind : ∀ (s : Shared) (u : Value), BindsTo s fd ⟨[u], []⟩ [(x, u)]) (H : Hp) (only : Only H) (told : sp [.ref a] H (fun v _ => v = .bl true) fun _ _ _ => False) (ok : HOk P w H s1.heap) (one : ∀ b, H b ≠ none → b = a) (out : H a ≠ none → K.lookup a = none) :
    codeAny (model P w) callerA (.call (.ref fa) ⟨[.ref a], []⟩) (fun r s' => r = .ok (.ret (.bool true)) ∧ OldK s1.heap s'.heap ∧ s'.os = s1.os ∧ AllBare s'.gens) s1 := by
  have free : ∀ {b : Addr} {o : Obj} {es : Array DictEntry} {ep : Nat}, s1.heap.get? b = some o → o.data = .dict es ep → H b = none := by
    intro b o es ep e d
    cases q : H b with
    | none => rfl
    | some u =>
      obtain rfl := one b (by rw [q]; exact fun z => nomatch z)
      rw [here] at e
      cases e
      exact nomatch d
  have nsK : ∀ {b : Addr} {m : Str → Option Value}, s1.heap.Ns b m → (hidT s1.heap H).Ns b m := by
    rintro b m ⟨o, es, ep, e, d, r⟩
    exact ⟨o, es, ep, hidT_get e (free e d), d, r⟩
  have inH : K.In (hidT s1.heap H) := by
    intro b o e
    refine hidT_get (inK b o e) ?_
    cases q : H b with
    | none => rfl
    | some u =>
      have hb : H b ≠ none := by rw [q]; exact fun z => nomatch z
      obtain rfl := one b hb
      rw [out hb] at e
      cases e
  have md : Mod K mg (hidT s1.heap H) := ⟨inH, nsK nsG, ⟨mb, nsK nsB, boot⟩, noLim.elim fun mc h => ⟨mc, nsK h.1, h.2⟩⟩
  have nil : ∀ {b : Addr}, b ∉ frs [] := fun {b} z => List.not_mem_nil z
  have e0 : Env0 P w K mg (hidT s1.heap H) callerA [] s1 H := { frames := rfl, mod := md, bs := fun b o e => of_hidT e, bsz := Nat.le_of_eq (hidT_size _ _), funs := trivial, frf := fun b hb => absurd hb nil, hok := ok, bare := .of_eq noGen }
  refine codeAny_mono ((F _ inH (nsK nsG)).goes callerA [] s1 H ⟨[.ref a], []⟩ [.ref a] [.ref a] _ _ room rfl e0 (bind s1 (.ref a)) (.cons rfl .nil) told) fun r s' h => ?_
  match r, h with
  | .error e, h => exact h.elim
  | .ok .next, h => exact h.elim
  | .ok .brk, h => exact h.elim
  | .ok .cont, h => exact h.elim
  | .ok (.ret u), ⟨v, H', os, bare, un, ok', ru, (hv : v = .bl true)⟩ =>
    subst hv
    cases (show u = Value.bool true from ru)
    refine ⟨rfl, OldK.of_keep fun b o e => ?_, os, bare⟩
    cases q : H b with
    | none => exact un.keep b o e q nil List.not_mem_nil
    | some u =>
      rcases only b with z | ⟨ob, xs, z⟩
      · rw [q] at z
        cases z
      · have z1 := (ok b _ z).1
        have z2 := (ok' b _ (un.frzs b ob _ z)).1
        rw [e] at z1
        cases z1
        exact z2
theorem law_callG (inK : K.In s1.heap) (nsG : s1.heap.Ns mainGlobals mg) (nsB : s1.heap.Ns builtinsNs mb) (boot : ∀ x : Str, x ≠ "__name__" → mb x = bootBuiltins x) (noLim : s1.heap.NoLimit) (noGen : s1.gens = #[])
    (here : s1.heap.get? a = some { cls := .type "list", data := .seq vs.toArray }) (hints : IntsAre vs ns) (few : ns.length ≤ sizeLine) (room : Room k callerA) (F : ∀ base : Heap, K.In base → base.Ns mainGlobals mg → FnG P w K mg base CX0 k fa fd [x] sp)
    (bind : ∀ (s : Shared) (u : Value), BindsTo s fd ⟨[u], []⟩ [(x, u)]) (told : ∀ H : Hp, Only H → SqL K H a (ns.map V.int) → sp [.ref a] H (fun v _ => v = .bl true) fun _ _ _ => False) :
    codeAny (model P w) callerA (.call (.ref fa) ⟨[.ref a], []⟩) (fun r s' => r = .ok (.ret (.bool true)) ∧ OldK s1.heap s'.heap ∧ s'.os = s1.os ∧ AllBare s'.gens) s1 := by
  have rel := vals_ints hints
  cases kept : K.lookup a with
  | some o =>
    have e := inK a o kept
    rw [here] at e
    cases e
    have only : Only (fun _ => none) := fun _ => .inl rfl
    exact start_call inK nsG nsB boot noLim noGen here room F bind _ only (told _ only (.inr ⟨_, vs.toArray, _, kept, rfl, rfl, rfl, by rw [List.size_toArray, hints.length]; exact few, rel⟩)) (fun b u z => nomatch z) (fun b z => absurd rfl z) fun z => absurd rfl z
  | none =>
    let H : Hp := fun b => if b = a then some (.frz { cls := .type "list", data := .seq vs.toArray } (.lst (ns.map V.int))) else none
    have at_a : H a = some (.frz { cls := .type "list", data := .seq vs.toArray } (.lst (ns.map V.int))) := if_pos rfl
    have off : ∀ b, b ≠ a → H b = none := fun b hb => if_neg hb
    have only : Only H := fun b => if hb : b = a then .inr ⟨_, _, hb ▸ at_a⟩ else .inl (off b hb)
    refine start_call inK nsG nsB boot noLim noGen here room F bind H only (told H only (.inl (.inr ⟨_, at_a⟩))) (fun b u z => ?_) (fun b z => ?_) fun _ => kept
    · by_cases hb : b = a
      · subst hb
        rw [at_a] at z
        cases z
        exact ⟨here, by rw [List.length_map]; exact few, vs, _, rel, here⟩
      · rw [off b hb] at z
        cases z
    · exact Classical.byContradiction fun hb => z (off b hb)
end
theorem walk_G {l : PySem.W.OpenLaw} {n k : Nat} {q : Program} {loose : List Str} {XP : (Str → Option Value) → Heap → Prop} {YP : World → Heap → Prop} {d : DefRec} {K : Params → PySem.W.Frag} {sp : PySem.W.Frag → Sp} {x : Str}
    (hn : l.most = some n) (hn2 : n ≤ sizeLine) (hdf : d.params.defaults = []) (room : Room k callerA) (hY : ∀ (w : World) (h : Heap), YP w h → (K w.params).In h)
    (F : ∀ (w : World) (mg : Str → Option Value) (fa : Addr) (h : Heap), (K w.params).In h → h.Ns mainGlobals mg → mg d.name = some (.ref fa) →
      ∃ fd : FuncData, (∀ (s : Shared) (u : Value), BindsTo s fd ⟨[u], []⟩ [(x, u)]) ∧ ∀ base : Heap, (K w.params).In base → base.Ns mainGlobals mg → FnG l.prog w (K w.params) mg base CX0 k fa fd [x] (sp (K w.params)))
    (told : ∀ (K : PySem.W.Frag) (H : Hp) (a : Addr) (ns : List Int), ns.length ≤ n → Only H → SqL K H a (ns.map V.int) → sp K [.ref a] H (fun v _ => v = .bl true) fun _ _ _ => False) :
    PySem.W.WalkO q loose XP YP l.row.toRowW d [] (fun f vs => PySem.call f vs) := by
  refine Att.attach_call hn hdf fun w s0 s1 mg mb fa o pm cd doc a vs ns G Y ho hd hcd hmg hobj hints hlen hg => ?_
  have inK := hY w _ Y
  obtain ⟨fd, hb, hF⟩ := F w mg fa _ inK G.T.g hmg
  exact law_callG inK G.T.g G.T.b G.T.builtins G.T.nolimit hg hobj hints (Nat.le_trans hlen hn2) room hF hb fun H hO hS => told _ H a ns hlen hO hS
/-! ### repr: of small data -/
theorem listText_le : ∀ ts : List Str, (listText ts).length ≤ piled ts + 2
  | [] => by decide
  | t :: r => by
    have h := textFrom_length_pos r 1 (("[" : Str) ++ (if (0 : Nat) > 0 then ", " else "" : String) ++ t) Nat.one_pos
    have e : (("[" : Str) ++ (if (0 : Nat) > 0 then ", " else "" : String) ++ t).length = 1 + t.length := by
      rw [strLen_append, strLen_append]
      rfl
    have x : (listText (t :: r)).length = (textFrom 1 (("[" : Str) ++ (if (0 : Nat) > 0 then ", " else "" : String) ++ t) r).length + 1 := by
      unfold listText
      rw [strLen_append]
      rfl
    rw [x, h, e, piled_cons]
    omega
theorem tupleText_le (ts : List Str) : (tupleText ts).length ≤ piled ts + 3 := by
  have e2 : ((if ts.length == 1 then ",)" else ")" : String) : Str).length ≤ 2 := by split <;> decide
  unfold tupleText
  rw [strLen_append, strLen_append]
  cases ts with
  | nil => decide
  | cons t r =>
    have h := join_length_add (t :: r) (List.cons_ne_nil _ _)
    have e1 : ("(" : Str).length = 1 := by decide
    omega
mutual
/-- small enough to be written out -/
def Shw : PyData → Prop
  | .none => True
  | .bool _ => True
  | .int i => i.natAbs.log2 < 1000
  | .str x => (∀ c ∈ x.cps.toList, c < 16 ^ 8) ∧ x.length ≤ 10000
  | .list xs => ShwAll xs
  | .tuple xs => ShwAll xs
  | .dict _ => False
def ShwAll : List PyData → Prop
  | [] => True
  | x :: xs => Shw x ∧ ShwAll xs
end
mutual
/-- how many signs at most -/
def wd : PyData → Nat
  | .none => 4
  | .bool _ => 5
  | .int _ => 1001
  | .str x => 10 * x.length + 2
  | .list xs => wdAll xs + 2
  | .tuple xs => wdAll xs + 3
  | .dict _ => 0
def wdAll : List PyData → Nat
  | [] => 0
  | x :: xs => wd x + 2 + wdAll xs
end
mutual
theorem shown_le : ∀ d : PyData, Shw d → d.shown.length ≤ wd d ∧ d.showable = true ∧ d.hasDict = false
  | .none, _ => ⟨by decide, rfl, rfl⟩
  | .bool b, _ => ⟨by cases b <;> decide, rfl, rfl⟩
  | .int i, h => by
    have h : i.natAbs.log2 < 1000 := by simpa only [Shw] using h
    refine ⟨?_, ?_, rfl⟩
    · have h2 := int_text_length_le (k := 1000) (by decide) h
      simp only [PyData.shown, wd]
      have e : (Str.ofString (toString i)).length = (toString i).length := PySem.ofString_length _
      omega
    · simp only [PyData.showable, decide_eq_true_eq]
      omega
  | .str x, h => by
    have h : (∀ c ∈ x.cps.toList, c < 16 ^ 8) ∧ x.length ≤ 10000 := by simpa only [Shw] using h
    refine ⟨?_, rfl, rfl⟩
    simp only [PyData.shown, wd]
    exact StrLaws.reprText_len x h.1
  | .list xs, h => by
    obtain ⟨h1, h2, h3⟩ := shownAll_le xs (by simpa only [Shw] using h)
    refine ⟨?_, by simpa only [PyData.showable] using h2, by simpa only [PyData.hasDict] using h3⟩
    have := listText_le (PyData.shownAll xs)
    simp only [PyData.shown, wd]
    omega
  | .tuple xs, h => by
    obtain ⟨h1, h2, h3⟩ := shownAll_le xs (by simpa only [Shw] using h)
    refine ⟨?_, by simpa only [PyData.showable] using h2, by simpa only [PyData.hasDict] using h3⟩
    have := tupleText_le (PyData.shownAll xs)
    simp only [PyData.shown, wd]
    omega
  | .dict _, h => by simp only [Shw] at h
theorem shownAll_le : ∀ xs : List PyData, ShwAll xs → piled (PyData.shownAll xs) ≤ wdAll xs ∧ PyData.showableAll xs = true ∧ PyData.hasDictAll xs = false
  | [], _ => ⟨Nat.le_refl _, rfl, rfl⟩
  | x :: xs, h => by
    have h : Shw x ∧ ShwAll xs := by simpa only [ShwAll] using h
    obtain ⟨a1, a2, a3⟩ := shown_le x h.1
    obtain ⟨b1, b2, b3⟩ := shownAll_le xs h.2
    refine ⟨?_, ?_, ?_⟩
    · simp only [PyData.shownAll, piled_cons, wdAll]
      omega
    · simp only [PyData.showableAll, a2, b2, Bool.and_self]
    · simp only [PyData.hasDictAll, a3, b3, Bool.or_self]
end
theorem shw_int {i : Int} (h0 : 0 ≤ i) (h1 : i < 2 ^ 200) : Shw (.int i) := by
  simp only [Shw]
  have h2 : i.natAbs < 2 ^ 200 := by omega
  exact Nat.lt_trans (PySem.Flt.log2_lt_of (by decide) h2) (by decide)
section
variable {X : Cx}
/-- repr of a list or tuple of data -/
def rRepr (K : PySem.W.Frag) : List V → Hp → VK → Prop := fun vs H Q => ∃ a d, vs = [.ref a] ∧ Dp K H (.ref a) d ∧ Shw d ∧ d.depth ≤ 60 ∧ wd d ≤ 16000000 ∧ Q (.str d.shown) H
theorem call_reprD (hu : X.A.units + 64 < cLine) (gd : X.A.guards = some []) : CallR X (.builtin "repr") (rRepr X.K) := by
  intro pins s σ H vs us Q I r h
  obtain ⟨a, d, rfl, hd, h1, h3, h4, q⟩ := h
  obtain ⟨u, rfl, ru⟩ := vals1 r
  obtain ⟨as, rd⟩ := Dp.reads I d _ u hd ru
  cases ru
  obtain ⟨b1, b2, b3⟩ := shown_le d h1
  exact repr_of_reads' rd b2 (fun z => by rw [b3] at z; cases z) gd (by omega) (fun _ _ e => e) (fun h' u tk hk => ⟨.str d.shown, H, I.kept (t' := tk) hk, ⟨_, rfl⟩, q⟩) (by rw [sizeLine_eq]; omega)
/-- ints that are small -/
def Low (ns : List Int) : Prop := (∀ i ∈ ns, 0 ≤ i ∧ i < 2 ^ 200) ∧ ns.length ≤ 200
theorem shw_ints : ∀ {ns : List Int}, (∀ i ∈ ns, 0 ≤ i ∧ i < 2 ^ 200) → ShwAll (ns.map PyData.int)
  | [], _ => by simp only [List.map_nil, ShwAll]
  | n :: r, h => by
    simp only [List.map_cons, ShwAll]
    have h1 := h n (List.mem_cons_self ..)
    exact ⟨shw_int h1.1 h1.2, shw_ints fun i hi => h i (List.mem_cons_of_mem _ hi)⟩
theorem wd_ints : ∀ ns : List Int, wdAll (ns.map PyData.int) = 1003 * ns.length
  | [] => rfl
  | n :: r => by
    simp only [List.map_cons, wdAll, wd, wd_ints r, List.length_cons]
    omega
theorem repr_lst {K : PySem.W.Frag} {H : Hp} {c : Addr} {ns : List Int} {Q : VK} (hc : H c = some (.lst (ns.map V.int))) (low : Low ns) (q : Q (.str (PyData.list (ns.map PyData.int)).shown) H) : rRepr K [.ref c] H Q := by
  refine ⟨c, .list (ns.map PyData.int), rfl, .lst (SqL.of hc) (dpAll_ints ns), ?_, ?_, ?_, q⟩
  · simp only [Shw]
    exact shw_ints low.1
  · have := depth_ints ns
    simp only [PyData.depth]
    omega
  · simp only [wd, wd_ints]
    have := low.2
    omega
/-- a list of tuples of ints -/
def tupsD (ls : List (List Int)) : List PyData := ls.map fun l => PyData.tuple (l.map PyData.int)
theorem dpAll_tups {K : PySem.W.Frag} {H : Hp} : ∀ {as : List Addr} {ls : List (List Int)}, Paired (fun a l => H a = some (.tup ((l : List Int).map V.int))) as ls → DpAll K H (as.map V.ref) (tupsD ls)
  | _, _, .nil => .nil
  | _, _, .cons r t => .cons (.tup (SqT.of r) (dpAll_ints _)) (dpAll_tups t)
theorem shw_tups : ∀ {ls : List (List Int)}, (∀ l ∈ ls, Low l) → ShwAll (tupsD ls)
  | [], _ => by simp only [tupsD, List.map_nil, ShwAll]
  | l :: r, h => by
    simp only [tupsD, List.map_cons, ShwAll]
    refine ⟨?_, shw_tups fun i hi => h i (List.mem_cons_of_mem _ hi)⟩
    simp only [Shw]
    exact shw_ints (h l (List.mem_cons_self ..)).1
theorem wd_tups : ∀ {ls : List (List Int)}, (∀ l ∈ ls, Low l) → wdAll (tupsD ls) ≤ 200605 * ls.length
  | [], _ => Nat.le_refl _
  | l :: r, h => by
    have h1 := (h l (List.mem_cons_self ..)).2
    have h2 := wd_tups fun i hi => h i (List.mem_cons_of_mem _ hi)
    simp only [tupsD, List.map_cons, wdAll, wd, wd_ints, List.length_cons] at h2 ⊢
    omega
theorem depth_tups : ∀ ls : List (List Int), PyData.depthAll (tupsD ls) ≤ 2
  | [] => by simp [tupsD, PyData.depthAll]
  | l :: r => by
    have h1 := depth_ints l
    have h2 := depth_tups r
    simp only [tupsD, List.map_cons, PyData.depthAll, PyData.depth] at h2 ⊢
    omega
theorem repr_ltups {K : PySem.W.Frag} {H : Hp} {c : Addr} {as : List Addr} {ls : List (List Int)} {Q : VK} (hc : H c = some (.lst (as.map V.ref))) (hp : Paired (fun a l => H a = some (.tup ((l : List Int).map V.int))) as ls) (low : ∀ l ∈ ls, Low l) (few : ls.length ≤ 4)
    (q : Q (.str (PyData.list (tupsD ls)).shown) H) : rRepr K [.ref c] H Q := by
  refine ⟨c, .list (tupsD ls), rfl, .lst (SqL.of hc) (dpAll_tups hp), ?_, ?_, ?_, q⟩
  · simp only [Shw]
    exact shw_tups low
  · have := depth_tups ls
    simp only [PyData.depth]
    omega
  · have := wd_tups low
    simp only [wd]
    omega
end
end Z

/-! The two ways in which a law asks its own check for each source of draws. -/
namespace Z
open PySem PySem.Spec PyProof.Rows L2
section
variable {K : PySem.W.Frag} {spS spR : Sp} {a : Addr} {n : Int} {H : Hp} {Q : VK} {TA : L2.TA} {σ : L2.St}
theorem iteT {P N : Prop} [Decidable (true = true)] (h : P) : ite (true = true) P N := by
  rw [if_pos rfl]
  exact h
theorem all_rep : ∀ m, (List.replicate m true).all id = true
  | 0 => rfl
  | m + 1 => by
    rw [List.replicate_succ, List.all_cons, all_rep m]
    rfl
theorem reps : ∀ l : List V, l.filterMap (fun _ => some (V.bl true)) = (List.replicate l.length true).map V.bl
  | [] => rfl
  | x :: r => by
    rw [List.filterMap_cons, reps r]
    rfl
/-- all([check(source(script, k)) for k in range(..)]) -/
theorem tail_A {i : Nat} (hta : ∀ R : List V → Hp → Prop, R [.int n] H → TA σ H R) (hn : n ≤ 64 ∧ 0 ≤ n) (hi : i < σ.length) (h0 : σ[0]? = some (some (.ref a))) (hi0 : i ≠ 0)
    (hS : ∀ (k : Int) H' Q' E, Same H H' → 0 ≤ k → k < n → (∀ p H2, H' p = none → Same H' H2 → Spring H2 p → Q' (.ref p) H2) → spS [.ref a, .int k] H' Q' E)
    (hR : ∀ p H' Q' E, Spring H' p → (∀ H2, Kp p H' H2 → Q' (.bl true) H2) → spR [.ref p] H' Q' E) (q : ∀ H', Q (.bl true) H') :
    tLc (iRng1 TA) (gName i) tYes (tCall spR [] E0 (tCons (tCall spS [] E0 (tCons (tVar 0) (tCons (tVar i) tNil))) tNil)) [i] σ H fun x H1 => rAllH [x] H1 Q := by
  refine lc_mapR (H1 := H) (fun _ => some (.bl true)) hta (by omega) (fun k hk H1 s1 => ?_) fun D H1 _ s1 e1 => ?_
  · intro Y N hY hN
    have e2 : (((wipe σ [i]).set i (some (V.int k))))[i]? = some (some (.int k)) := by
      rw [List.getElem?_set_self]
      show i < (σ.set i none).length
      rw [List.length_set]
      exact hi
    have e3 : (((wipe σ [i]).set i (some (V.int k))))[0]? = some (some (.ref a)) := by
      rw [List.getElem?_set_ne hi0]
      show (σ.set i none)[0]? = _
      rw [List.getElem?_set_ne hi0]
      exact h0
    have e4 : wipe ((wipe σ [i]).set i (some (V.int k))) [i] = wipe σ [i] := by
      show ((σ.set i none).set i (some (V.int k))).set i none = σ.set i none
      rw [List.set_set, List.set_set]
    refine ⟨e4, ?_⟩
    simp only [tYes, if_true]
    refine ⟨_, e3, _, e2, hS k H1 _ _ s1 (by omega) hk fun p H2 hp s2 sp => hR p H2 _ _ sp fun H3 kp => hY _ H3 rfl fun c o e => kp.keep c o (ne_of_none e hp) (s2 c o e)⟩
  · rw [reps] at e1
    refine ⟨D, _, rfl, e1, ?_⟩
    rw [all_rep]
    exact q H1
/-- sources = [source(cells, k) for k in range(..)]; all([check(s) for s in sources]) -/
theorem tail_B (hta : ∀ R : List V → Hp → Prop, R [.int n] H → TA [some (V.ref a), none, none, none] H R) (hn : n ≤ 64 ∧ 0 ≤ n)
    (hS : ∀ (k : Int) H' Q' E, Same H H' → 0 ≤ k → k < n → (∀ p H2, H' p = none → Same H' H2 → Spring H2 p → Q' (.ref p) H2) → spS [.ref a, .int k] H' Q' E)
    (hR : ∀ p H' Q' E, Spring H' p → (∀ H2, Kp p H' H2 → Q' (.bl true) H2) → spR [.ref p] H' Q' E) (q : ∀ H', Q (.bl true) H') :
    tSeq (tAsg (tLc (iRng1 TA) (gName 2) tYes (tCall spS [] E0 (tCons (tVar 0) (tCons (tVar 2) tNil))) [2]) (gName 1))
      (tRet (tCB rAllH (tCons (tLc (iList K (tVar 1)) (gName 3) tYes (tCall spR [] E0 (tCons (tVar 3) tNil)) [3]) tNil)))
      { nx := fun x H' => Q V.non H', rt := Q } [some (V.ref a), none, none, none] H := by
  refine z_seq ?_
  refine lc_rng (n := n) hta (by omega) (fun D i H' => ∃ ps : List Addr, ps.length = i ∧ (∀ p ∈ ps, Spring H' p) ∧ H' D = some (.lst (ps.map V.ref)) ∧ Same H H') (fun D hD => ⟨[], rfl, fun _ h => absurd h List.not_mem_nil, upd_same, same_new hD⟩) (fun D hD i H' hi hP => ?_) fun D H' hD hP => ?_
  · obtain ⟨ps, hl, hsp, hDl, hs⟩ := hP
    refine ⟨rfl, ?_⟩
    simp only [tYes, if_true]
    refine ⟨_, rfl, _, rfl, hS i H' _ _ hs (by omega) hi fun p H2 hp s2 sp => ?_⟩
    have hD2 := s2 _ _ hDl
    refine ⟨_, hD2, by rw [List.length_map, sizeLine_eq]; omega, ps ++ [p], by rw [List.length_append, hl]; rfl, fun x hx => ?_, by rw [upd_same, List.map_append]; rfl, fun b o e => ?_⟩
    · have far : ∀ y, Spring H2 y → Spring (upd H2 D (.lst (ps.map V.ref ++ [V.ref p]))) y := by
        rintro y ⟨u, v, w, e⟩
        have ne : y ≠ D := by
          rintro rfl
          rw [hD2] at e
          have e2 := HO.lst.inj (Option.some.inj e)
          cases ps with
          | nil => cases e2
          | cons z r => cases e2
        exact ⟨u, v, w, by rw [upd_ne ne]; exact e⟩
      rcases List.mem_append.mp hx with hx | hx
      · exact far _ ((hsp x hx).same s2)
      · rw [List.mem_singleton.mp hx]
        exact far _ sp
    · rw [upd_ne (ne_of_none e hD)]
      exact s2 _ _ (hs _ _ e)
  · obtain ⟨ps, hl, hsp, hDl, hs⟩ := hP
    show tLc (iList K (tVar 1)) (gName 3) tYes (tCall spR [] E0 (tCons (tVar 3) tNil)) [3] [some (V.ref a), some (V.ref D), none, none] H' fun x H1 => rAllH [x] H1 Q
    refine lc_lst (a := D) (xs := ps.map V.ref) (fun R h => ⟨_, rfl, h⟩) (fun L i H2 => (∀ p ∈ ps, Spring H2 p) ∧ H2 D = some (.lst (ps.map V.ref)) ∧ H2 L = some (.lst (List.replicate i (V.bl true)))) (SqL.of hDl) (fun L hL => ?_) (fun L hL i H2 hP => SqL.of hP.2.1) (fun L hL i x H2 hx hP => ?_) fun L H2 hL hP => ?_
    · have s := same_new (o := .lst []) hL
      exact ⟨fun p hp => (hsp p hp).same s, s _ _ hDl, upd_same⟩
    · obtain ⟨h1, h2, h3⟩ := hP
      obtain ⟨p, hp, rfl⟩ := List.mem_map.mp (List.mem_of_getElem? hx)
      refine ⟨rfl, ?_⟩
      simp only [tYes, if_true]
      refine ⟨_, rfl, hR p H2 _ _ (h1 p hp) fun H3 kp => ?_⟩
      have hi : i < ps.length := by
        have := (List.getElem?_eq_some_iff.mp hx).1
        rw [List.length_map] at this
        exact this
      have nD : D ≠ p := by
        rintro rfl
        obtain ⟨u, v, w, e⟩ := h1 _ hp
        rw [h2] at e
        have e2 := HO.lst.inj (Option.some.inj e)
        cases ps with
        | nil => cases e2
        | cons z r => cases e2
      have nL : ∀ y, Spring H2 y → L ≠ y := by
        rintro y ⟨u, v, w, e⟩ rfl
        rw [h3] at e
        have e2 := HO.lst.inj (Option.some.inj e)
        cases i with
        | zero => cases e2
        | succ m =>
          rw [List.replicate_succ] at e2
          cases (List.cons.inj e2).1
      have e3 := kp.keep L _ (nL p (h1 p hp)) h3
      refine ⟨_, e3, by rw [List.length_replicate, sizeLine_eq]; omega, fun y hy => ?_, ?_, ?_⟩
      · have sy : Spring H3 y := by
          by_cases c : y = p
          · rw [c]
            exact kp.sp
          · obtain ⟨u, v, w, e⟩ := h1 y hy
            exact ⟨u, v, w, kp.keep _ _ c e⟩
        obtain ⟨u, v, w, e⟩ := sy
        exact ⟨u, v, w, by rw [upd_ne (Ne.symm (nL y (h1 y hy)))]; exact e⟩
      · have nDL : D ≠ L := by
          rintro rfl
          rw [hDl] at hL
          cases hL
        rw [upd_ne nDL]
        exact kp.keep _ _ nD h2
      · rw [upd_same, List.replicate_succ']
    · obtain ⟨_, _, h3⟩ := hP
      refine ⟨L, List.replicate (ps.map V.ref).length true, rfl, ?_, ?_⟩
      · rw [h3, List.map_replicate]
      · rw [all_rep]
        exact q H2
end
end Z

/-! sorted() of a tuple of ints; of a list of pairs; list(range(..)). -/
namespace Z
open PySem PySem.Spec PyProof.Rows L2
section
variable {prog : Program} {w : World} {A : Around} {E : Value → Shared → Prop} {s : Shared}
open PySem.Builtin
theorem collect_tup {l : Addr} {vs : List Value} {Q : List Value → Shared → Prop} (hl : s.heap.IsTuple l vs.toArray)
    (h : Q vs { s with heap := (s.heap.push (seqObj "list" #[] 0)).update s.heap.objs.size (Obj.mapSeq (· ++ vs.toArray)) }) (hsz : vs.length ≤ sizeLine := by size_fits) :
    wpAny (model prog w) A (collect (.ref l)) Q E s := by
  obtain ⟨o, ho, hc, n, hd⟩ := id hl
  unfold collect
  refine wpAny_bind (wpAny_runValue (codeAny_builtin entry_proto_collect' ?_))
  show wpAny _ _ (do again (.builtin "list.__iadd__" ⟨[← newList [], .ref l], []⟩)) _ _ s
  refine wpAny_bind (wpAny_newList (wpAny_pure ⟨Code.quiet_builtin _ (by decide +kernel), codeAny_builtin entry_list_iadd' ?_⟩))
  show wpAny _ _ (Builtin.List.listExtendWith (.ref s.heap.objs.size) (.ref l) (.ref s.heap.objs.size)) _ _ { s with heap := s.heap.push (seqObj "list" #[] 0) }
  unfold Builtin.List.listExtendWith
  have ho' : (s.heap.push (seqObj "list" #[] 0)).get? l = some o := Heap.get?_push_of_some _ ho
  refine wpAny_bind (wpAny_typeOf (T := "tuple") ⟨o, ho', hc⟩ ?_)
  have ht : (Value.type "tuple" == Value.type "tuple") = true := by rfl
  rw [if_pos (by rw [ht]; simp)]
  refine wpAny_bind (listItems_at ho' hd ?_)
  refine wpAny_bind (listItems_at (xs := #[]) (n := 0) (Heap.get?_push_size _ rfl) rfl ?_)
  rw [if_neg (by simp)]
  refine wpAny_bind (listUpdate_at (xs := #[]) (n := 0) (Heap.get?_push_size _ rfl) rfl ?_ (Nat.zero_le _) (by show (#[] ++ vs.toArray).size ≤ sizeLine + 1; simp only [Array.size_append, List.size_toArray, List.length_nil]; omega))
  refine wpAny_pure ?_
  show wpAny (model prog w) A (do
      let o ← load s.heap.objs.size
      match o.data with
      | .seq xs _ => pure xs.toList
      | _ => unsupported "internal:collect") Q E { s with heap := (s.heap.push (seqObj "list" #[] 0)).update s.heap.objs.size (Obj.mapSeq (· ++ vs.toArray)) }
  refine wpAny_bind (wpAny_load (get?_update_seq (Heap.get?_push_size _ rfl) _) ?_)
  show wpAny _ _ (pure ((#[] : Array Value) ++ vs.toArray).toList) Q E _
  rw [show ((#[] : Array Value) ++ vs.toArray).toList = vs by simp]
  exact wpAny_pure h
open SrtO in
theorem sorted_ordT {l : Addr} {vs : List Value} {ltv : Value → Value → Bool} {Q : Value → Shared → Prop} (O : Swo ltv) (hl : s.heap.IsTuple l vs.toArray) (hz : vs.length ≤ sizeLine)
    (hS : 2 ≤ vs.length → ∀ (h₁ : Heap) (a : Addr), h₁.get? a = some (seqObj "list" vs.toArray 0) → (∀ b o, s.heap.get? b = some o → b ≠ a ∧ h₁.get? b = some o) → SortableO prog w A.in1.in1 { s with heap := h₁ } a vs ltv)
    (h : ∀ out : List Value, Srtd ltv out → Stb ltv out vs → Q (.ref (s.heap.objs.size + 1)) { s with heap := sortedAll s.heap vs out.toArray }) :
    wpAny (model prog w) A (call (.builtin "sorted") [.ref l]) Q E s := by
  refine Calls.call_function_entry kind_sorted plain_sorted entry_sorted (args_sorted1 _) ?_
  unfold Builtin.«sorted»
  refine wpAny_bind (m := checkCount "sorted" 1 1 _) (wpAny_pure ?_)
  refine wpAny_bind (collect_tup hl ?_ hz)
  refine wpAny_bind (wpAny_newList ?_ hz)
  have hsz : ((s.heap.push (seqObj "list" #[] 0)).update s.heap.objs.size (Obj.mapSeq (· ++ vs.toArray))).objs.size = s.heap.objs.size + 1 := by
    rw [Heap.size_update, size_push']
  have hoL : (((s.heap.push (seqObj "list" #[] 0)).update s.heap.objs.size (Obj.mapSeq (· ++ vs.toArray))).push (seqObj "list" vs.toArray 0)).get? (s.heap.objs.size + 1) = some (seqObj "list" vs.toArray 0) := by
    rw [← hsz]; exact Heap.get?_push_size _ rfl
  have keep : ∀ b o, s.heap.get? b = some o → b ≠ s.heap.objs.size + 1 ∧ (((s.heap.push (seqObj "list" #[] 0)).update s.heap.objs.size (Obj.mapSeq (· ++ vs.toArray))).push (seqObj "list" vs.toArray 0)).get? b = some o := fun b o q => by
    have hlt : b < s.heap.objs.size := Heap.lt_size q
    refine ⟨Nat.ne_of_lt (Nat.lt_succ_of_lt hlt), Heap.get?_push_of_some _ ?_⟩
    rw [Heap.get?_update_ne _ _ _ _ (Nat.ne_of_lt hlt)]
    exact Heap.get?_push_of_some _ q
  show wpAny _ _ _ _ _ { s with heap := ((s.heap.push (seqObj "list" #[] 0)).update s.heap.objs.size (Obj.mapSeq (· ++ vs.toArray))).push (seqObj "list" vs.toArray 0) }
  rw [hsz]
  refine wpAny_bind (wpAny_holding (wpAny_call_entry slot_list_sort ⟨_, hoL, rfl⟩ entry_list_sort (list_sort_ord O hoL hz (fun h2 => hS h2 _ _ hoL keep) fun out hs hb => ⟨_, rfl, ?_⟩) (args_list_sort _)))
  exact wpAny_pure ⟨_, rfl, h out hs hb⟩
end
section
variable {X : Cx}
/-- sorted(xs), xs a tuple of ints -/
def rSortTup : List V → Hp → VK → Prop := fun vs H Q => ∃ (a : Addr) (ns : List Int), vs = [V.ref a] ∧ H a = some (.tup (ns.map V.int)) ∧
  ∀ p : Addr, H p = none → Q (.ref p) (upd H p (.lst (ns.mergeSort.map V.int)))
theorem cr_sortedTup : CallR X (.builtin "sorted") rSortTup := by
  intro pins s σ H vs us Q I r h
  obtain ⟨a, ns, rfl, hs, q⟩ := h
  obtain ⟨its, rv, hl, hz⟩ := I.tuple (SqT.of hs)
  rw [Vals.ref1 r]
  have hi := rv.ints
  refine sorted_ordT SrtO.swo_int hl (by rw [← rv.length]; exact hz) (fun h2 h₁ a' _ _ => SrtO.ints_sortable hi h2) fun out h1 h2 => ?_
  obtain ⟨k1, k2, k3⟩ := SrtO.ints_out hi h1 h2
  obtain ⟨ep, he'⟩ := PyProof.Rows.sortedAll_at s.heap its out.toArray
  have hlen : ((out.map SrtO.iv).map V.int).length ≤ sizeLine := by
    rw [List.length_map, k2.length_eq]
    rw [List.length_map] at hz
    exact hz
  refine ⟨.ref _, upd H (s.heap.objs.size + 1) (.lst ((out.map SrtO.iv).map V.int)), I.laid (t' := s.toks) (fun _ _ => PyProof.Rows.sortedAll_old) (Nat.le_succ _) ⟨hlen, out, ep, vals_of_ints k1, he'⟩, rfl, ?_⟩
  rw [perm_sort k2 k3]
  exact q _ (I.hok.fresh (Nat.le_succ _))
/-- the pair of ints at t -/
def PairAt (H : Hp) (t : Addr) (p : Int × Int) : Prop := H t = some (.tup [.int p.1, .int p.2])
def pairOf (H : Hp) : V → Int × Int
  | .ref t => match H t with
    | some (.tup [.int i, .int j]) => (i, j)
    | _ => (0, 0)
  | _ => (0, 0)
theorem pairOf_at {H : Hp} {t : Addr} {p : Int × Int} (h : PairAt H t p) : pairOf H (.ref t) = p := by
  unfold pairOf
  simp only [show H t = some (.tup [.int p.1, .int p.2]) from h]
def Lex (l : List (Int × Int)) : Prop := l.Pairwise fun p q => SrtO.lexB q p = false
theorem lex_eq {l m : List (Int × Int)} (h1 : Lex l) (h2 : Lex m) (p : l.Perm m) : l = m := by
  refine List.Perm.eq_of_pairwise (fun a b _ _ x y => ?_) h1 h2 p
  have x' := SrtO.lexB_no.mp x
  have y' := SrtO.lexB_no.mp y
  obtain ⟨a1, a2⟩ := a
  obtain ⟨b1, b2⟩ := b
  dsimp only at x' y'
  rw [Prod.mk.injEq]
  omega
theorem paired_mem {α β : Type} {F : α → β → Prop} : ∀ {as : List α} {ps : List β}, Paired F as ps → ∀ a ∈ as, ∃ p, p ∈ ps ∧ F a p
  | _, _, .nil, a, h => absurd h List.not_mem_nil
  | _, _, .cons f r, a, h => by
    rcases List.mem_cons.mp h with rfl | h
    · exact ⟨_, List.mem_cons_self, f⟩
    · obtain ⟨p, h1, h2⟩ := paired_mem r a h
      exact ⟨p, List.mem_cons_of_mem _ h1, h2⟩
theorem paired_map {α β : Type} {F : α → β → Prop} (g : α → β) : ∀ {as : List α}, (∀ a ∈ as, F a (g a)) → Paired F as (as.map g)
  | [], _ => .nil
  | a :: r, h => .cons (h a List.mem_cons_self) (paired_map g fun x hx => h x (List.mem_cons_of_mem _ hx))
theorem paired_eq {α β : Type} {F : α → β → Prop} (g : α → β) (hg : ∀ a p, F a p → g a = p) : ∀ {as : List α} {ps : List β}, Paired F as ps → as.map g = ps
  | _, _, .nil => rfl
  | _, _, .cons f r => by rw [List.map_cons, hg _ _ f, paired_eq g hg r]
/-- sorted(xs), xs a list of pairs of ints: the pairs in their order -/
def rSortPr : List V → Hp → VK → Prop := fun vs H Q => ∃ (a : Addr) (as : List Addr) (ps : List (Int × Int)), vs = [V.ref a] ∧ H a = some (.lst (as.map V.ref)) ∧ Paired (PairAt H) as ps ∧
  ∀ (bs : List Addr) (qs : List (Int × Int)) (p : Addr), H p = none → bs.Perm as → qs.Perm ps → Lex qs → Paired (PairAt H) bs qs → Q (.ref p) (upd H p (.lst (bs.map V.ref)))
theorem cr_sortedPr : CallR X (.builtin "sorted") rSortPr := by
  intro pins s σ H vs us Q I r h
  obtain ⟨a, as, ps, e, ha, hp, q⟩ := h
  have hk : ∀ x ∈ as.map V.ref, ∃ t, x = V.ref t ∧ H t = some (.tup [.int (pairOf H x).1, .int (pairOf H x).2]) := by
    intro x hx
    obtain ⟨t, ht, rfl⟩ := List.mem_map.mp hx
    obtain ⟨p, _, f⟩ := paired_mem hp t ht
    refine ⟨t, rfl, ?_⟩
    rw [pairOf_at f]
    exact f
  refine cr_sortedPO pins s σ H vs us Q I r ⟨a, as.map V.ref, pairOf H, e, SqL.of ha, hk, fun ys p hs hb hn => ?_⟩
  have hy : ∀ y ∈ ys, ∃ t, y = V.ref t := fun y hy => by
    obtain ⟨t, e, _⟩ := hk y (hb.perm.mem_iff.mp hy)
    exact ⟨t, e⟩
  obtain ⟨bs, rfl⟩ : ∃ bs : List Addr, ys = bs.map V.ref := by
    clear hs hb
    induction ys with
    | nil => exact ⟨[], rfl⟩
    | cons y l ih =>
      obtain ⟨t, rfl⟩ := hy y List.mem_cons_self
      obtain ⟨bs, rfl⟩ := ih fun z hz => hy z (List.mem_cons_of_mem _ hz)
      exact ⟨t :: bs, rfl⟩
  have hperm : bs.Perm as := by
    have h2 := hb.perm.map (fun v => match v with | .ref t => t | _ => 0)
    rw [List.map_map, List.map_map] at h2
    have e1 : ∀ l : List Addr, l.map ((fun v => match v with | .ref t => t | _ => (0 : Addr)) ∘ V.ref) = l := fun l => by
      induction l with
      | nil => rfl
      | cons x r ih => rw [List.map_cons, ih]; rfl
    rw [e1, e1] at h2
    exact h2
  have hF : ∀ t ∈ bs, PairAt H t (pairOf H (.ref t)) := fun t ht => by
    obtain ⟨p, _, f⟩ := paired_mem hp t (hperm.mem_iff.mp ht)
    rw [pairOf_at f]
    exact f
  have e2 : as.map (fun t => pairOf H (.ref t)) = ps := paired_eq _ (fun t p f => pairOf_at f) hp
  refine q bs (bs.map fun t => pairOf H (.ref t)) p hn hperm ?_ ?_ (paired_map _ hF)
  · rw [← e2]
    exact hperm.map _
  · have h3 := List.pairwise_map.mp hs
    exact List.pairwise_map.mpr h3
end
end Z

/-! Comprehensions whose elements are new objects. -/
namespace Z
open PySem PySem.Spec PyProof.Rows L2
def IsO (H : Hp) (a : Addr) (o : HO) : Prop := H a = some o
theorem paired_mono {α β : Type} {F G : α → β → Prop} (h : ∀ a b, F a b → G a b) : ∀ {as : List α} {bs : List β}, Paired F as bs → Paired G as bs
  | _, _, .nil => .nil
  | _, _, .cons f r => .cons (h _ _ f) (paired_mono h r)
theorem paired_monoM {α β : Type} {F G : α → β → Prop} : ∀ {as : List α} {bs : List β}, (∀ a ∈ as, ∀ b, F a b → G a b) → Paired F as bs → Paired G as bs
  | _, _, _, .nil => .nil
  | _, _, h, .cons f r => .cons (h _ List.mem_cons_self _ f) (paired_monoM (fun a ha => h a (List.mem_cons_of_mem _ ha)) r)
theorem paired_same {α β : Type} {R : Hp → Addr → β → Prop} : True := trivial
theorem paired_len {α β : Type} {F : α → β → Prop} : ∀ {as : List α} {bs : List β}, Paired F as bs → as.length = bs.length
  | _, _, .nil => rfl
  | _, _, .cons _ r => by rw [List.length_cons, List.length_cons, paired_len r]
theorem paired_to {α β γ : Type} {F : α → γ → Prop} {g : β → γ} : ∀ {as : List α} {bs : List β}, Paired F as (bs.map g) → Paired (fun a b => F a (g b)) as bs
  | [], [], _ => .nil
  | [], _ :: _, h => by cases h
  | _ :: _, [], h => by cases h
  | _ :: _, _ :: _, .cons f r => .cons f (paired_to r)
theorem paired_of {α β γ : Type} {F : α → γ → Prop} {g : β → γ} : ∀ {as : List α} {bs : List β}, Paired (fun a b => F a (g b)) as bs → Paired F as (bs.map g)
  | _, _, .nil => .nil
  | _, _, .cons f r => .cons f (paired_of r)
theorem paired_app {α β : Type} {F : α → β → Prop} : ∀ {as as' : List α} {bs bs' : List β}, Paired F as bs → Paired F as' bs' → Paired F (as ++ as') (bs ++ bs')
  | _, _, _, _, .nil, h => h
  | _, _, _, _, .cons f r, h => .cons f (paired_app r h)
theorem paired_get {α β : Type} {F : α → β → Prop} : ∀ {as : List α} {bs : List β}, Paired F as bs → ∀ {i : Nat} {a : α}, as[i]? = some a → ∃ b, bs[i]? = some b ∧ F a b
  | _, _, .nil, i, a, h => by simp at h
  | _, _, .cons f r, 0, a, h => by
    rw [List.getElem?_cons_zero] at h
    cases h
    exact ⟨_, rfl, f⟩
  | _, _, .cons f r, i + 1, a, h => by
    rw [List.getElem?_cons_succ] at h
    rw [List.getElem?_cons_succ]
    exact paired_get r h
theorem paired_get' {α β : Type} {F : α → β → Prop} : ∀ {as : List α} {bs : List β}, Paired F as bs → ∀ {i : Nat} {b : β}, bs[i]? = some b → ∃ a, as[i]? = some a ∧ F a b
  | _, _, .nil, i, a, h => by simp at h
  | _, _, .cons f r, 0, a, h => by
    rw [List.getElem?_cons_zero] at h
    cases h
    exact ⟨_, rfl, f⟩
  | _, _, .cons f r, i + 1, a, h => by
    rw [List.getElem?_cons_succ] at h
    rw [List.getElem?_cons_succ]
    exact paired_get' r h
section
variable {K : PySem.W.Frag} {σ : L2.St}
/-- one turn: a new object, or nothing -/
def TurnO (g : TG) (tt : TT) (te : TE) (vs : List Nat) (σ : L2.St) (H : Hp) (x : V) (o : Option HO) : Prop :=
  ∀ (Y : V → Hp → Prop) (N : Hp → Prop), (∀ y a H', o = some y → H a = none → Same H H' → H' a = some y → Y (.ref a) H') → (∀ H', o = none → Same H H' → N H') →
    g x (wipe σ vs) H fun σ2 H2 => wipe σ2 vs = wipe σ vs ∧ tt σ2 H2 fun b H3 => if b = true then te σ2 H3 Y else N H3
def AccO (H1 : Hp) (f : V → Option HO) (xs : List V) (D : Addr) (i : Nat) (H : Hp) : Prop := Same H1 H ∧ ∃ as : List Addr, H D = some (.lst (as.map V.ref)) ∧ D ∉ as ∧ Paired (IsO H) as ((xs.take i).filterMap f)
theorem accO_turn {H1 : Hp} {f : V → Option HO} {xs : List V} {D : Addr} {i : Nat} {H : Hp} {x : V} {g : TG} {tt : TT} {te : TE} {vs : List Nat} (hD : H1 D = none) (hx : xs.length ≤ 1000) (h : xs[i]? = some x) (p : AccO H1 f xs D i H) (t : TurnO g tt te vs σ H x (f x)) :
    g x (wipe σ vs) H fun σ2 H2 => wipe σ2 vs = wipe σ vs ∧ tt σ2 H2 fun b H3 =>
      if b = true then te σ2 H3 fun y H4 => ∃ acc, H4 D = some (.lst acc) ∧ acc.length < sizeLine ∧ AccO H1 f xs D (i + 1) (upd H4 D (.lst (acc ++ [y]))) else AccO H1 f xs D (i + 1) H3 := by
  obtain ⟨s1, as, eD, nD, pr⟩ := p
  refine t _ _ (fun y a H' e ha s ea => ?_) fun H' e s => ?_
  · refine ⟨_, s _ _ eD, ?_, ?_, as ++ [a], ?_, ?_, ?_⟩
    · rw [List.length_map, paired_len pr]
      refine Nat.lt_of_le_of_lt (List.length_filterMap_le _ _) ?_
      rw [List.length_take]
      exact Nat.lt_of_le_of_lt (Nat.min_le_right _ _) (small1000 hx)
    · intro b o eb
      rw [upd_ne (ne_of_none eb hD)]
      exact s _ _ (s1 _ _ eb)
    · rw [upd_same, List.map_append]
      rfl
    · intro m
      rcases List.mem_append.mp m with m | m
      · exact nD m
      · rw [← List.mem_singleton.mp m, eD] at ha
        cases ha
    · rw [take_fm f h, e]
      refine paired_app (paired_monoM (fun b hb o e2 => ?_) pr) (.cons ?_ .nil)
      · show upd H' D _ b = some o
        have ne : b ≠ D := fun z => nD (by rw [← z]; exact hb)
        rw [upd_ne ne]
        exact s _ _ e2
      · show upd H' D _ a = some y
        rw [upd_ne]
        · exact ea
        · rintro rfl
          rw [eD] at ha
          cases ha
  · refine ⟨s1.trans s, as, s _ _ eD, nD, ?_⟩
    rw [take_fm f h, e, Option.toList_none, List.append_nil]
    exact paired_mono (fun a b e2 => s _ _ e2) pr
theorem accO_start {H1 : Hp} {f : V → Option HO} {xs : List V} {D : Addr} (hD : H1 D = none) : AccO H1 f xs D 0 (upd H1 D (.lst [])) := ⟨same_new hD, [], upd_same, List.not_mem_nil, .nil⟩
theorem lc_rngO {n : Int} {g : TG} {tt : TT} {te : TE} {vs : List Nat} {H1 : Hp} {ta : TA} {Q : VK} (f : V → Option HO) (hta : ∀ R : List V → Hp → Prop, R [.int n] H1 → ta σ H R) (hn : n ≤ 1000 ∧ 0 ≤ n)
    (hs : ∀ i : Nat, (i : Int) < n → ∀ H, Same H1 H → TurnO g tt te vs σ H (.int i) (f (.int i)))
    (hd : ∀ D H' as, H1 D = none → Same H1 H' → H' D = some (.lst (as.map V.ref)) → Paired (IsO H') as ((upto n).filterMap f) → Q (.ref D) H') : tLc (iRng1 ta) g tt te vs σ H Q := by
  refine hta _ ⟨n, rfl, by omega, by omega, fun D hD => ?_⟩
  refine lc_range (lo := 0) (n := n.toNat) (AccO H1 f (upto n) D) (accO_start hD) (fun i H hi p => ?_) fun H p => ?_
  · have e : (0 : Int) + (i : Int) = (i : Int) := by omega
    rw [e]
    exact accO_turn hD (by rw [upto_len]; omega) (upto_get (by omega)) p (hs i (by omega) H p.1)
  · obtain ⟨s, as, e, _, pr⟩ := p
    rw [show n.toNat = (upto n).length from (upto_len n).symm, List.take_length] at pr
    exact hd D H as hD s e pr
theorem lc_lstO {a : Addr} {xs : List V} {g : TG} {tt : TT} {te : TE} {vs : List Nat} {H H1 : Hp} {tl : TE} {Q : VK} (f : V → Option HO) (htl : ∀ R : VK, R (.ref a) H1 → tl σ H R) (ha : SqL K H1 a xs) (hx : xs.length ≤ 1000)
    (hs : ∀ x ∈ xs, ∀ H, Same H1 H → TurnO g tt te vs σ H x (f x))
    (hd : ∀ D H' as, H1 D = none → Same H1 H' → H' D = some (.lst (as.map V.ref)) → Paired (IsO H') as (xs.filterMap f) → Q (.ref D) H') : tLc (iList K tl) g tt te vs σ H Q := by
  refine htl _ ⟨a, rfl, ⟨xs, ha⟩, fun D hD => ?_⟩
  refine lc_list (K := K) (a := a) (xs := xs) (AccO H1 f xs D) (accO_start hD) (fun i H _ p => p.1.seq ha) (fun i x H h p => accO_turn hD hx h p (hs x (List.mem_of_getElem? h) H p.1)) fun H p => ?_
  obtain ⟨s, as, e, _, pr⟩ := p
  rw [List.take_length] at pr
  exact hd D H as hD s e pr
theorem lc_tupO {a : Addr} {xs : List V} {g : TG} {tt : TT} {te : TE} {vs : List Nat} {H H1 : Hp} {tl : TE} {Q : VK} (f : V → Option HO) (htl : ∀ R : VK, R (.ref a) H1 → tl σ H R) (ha : SqT K H1 a xs) (hx : xs.length ≤ 1000)
    (hs : ∀ x ∈ xs, ∀ H, Same H1 H → TurnO g tt te vs σ H x (f x))
    (hd : ∀ D H' as, H1 D = none → Same H1 H' → H' D = some (.lst (as.map V.ref)) → Paired (IsO H') as (xs.filterMap f) → Q (.ref D) H') : tLc (iTup K tl) g tt te vs σ H Q := by
  refine htl _ ⟨a, rfl, ⟨xs, ha⟩, fun D hD => ?_⟩
  refine lc_tup (K := K) (a := a) (xs := xs) (AccO H1 f xs D) (accO_start hD) (fun i H _ p => sq_same p.1 ha) (fun i x H h p => accO_turn hD hx h p (hs x (List.mem_of_getElem? h) H p.1)) fun H p => ?_
  obtain ⟨s, as, e, _, pr⟩ := p
  rw [List.take_length] at pr
  exact hd D H as hD s e pr
/-- two bounds -/
def fromTo (a b : Int) : List V := (List.range (b - a).toNat).map fun (i : Nat) => V.int (a + i)
theorem fromTo_len (a b : Int) : (fromTo a b).length = (b - a).toNat := by
  unfold fromTo
  rw [List.length_map, List.length_range]
theorem fromTo_get {a b : Int} {i : Nat} (h : (i : Int) < b - a) : (fromTo a b)[i]? = some (.int (a + i)) := by
  unfold fromTo
  rw [List.getElem?_map, List.getElem?_range (by omega)]
  rfl
theorem lc_rng2O {lo hi : Int} {g : TG} {tt : TT} {te : TE} {vs : List Nat} {H1 : Hp} {ta : TA} {Q : VK} (f : V → Option HO) (hta : ∀ R : List V → Hp → Prop, R [.int lo, .int hi] H1 → ta σ H R) (hn : 0 ≤ lo ∧ lo ≤ 1000 ∧ hi ≤ 1000 ∧ 0 ≤ hi)
    (hs : ∀ i : Nat, (i : Int) < hi - lo → ∀ H, Same H1 H → TurnO g tt te vs σ H (.int (lo + i)) (f (.int (lo + i))))
    (hd : ∀ D H' as, H1 D = none → Same H1 H' → H' D = some (.lst (as.map V.ref)) → Paired (IsO H') as ((fromTo lo hi).filterMap f) → Q (.ref D) H') : tLc (iRng2 ta) g tt te vs σ H Q := by
  refine hta _ ⟨lo, hi, rfl, by omega, fun D hD => ?_⟩
  refine lc_range (lo := lo) (n := (hi - lo).toNat) (AccO H1 f (fromTo lo hi) D) (accO_start hD) (fun i H hi p => ?_) fun H p => ?_
  · exact accO_turn hD (by rw [fromTo_len]; omega) (fromTo_get (by omega)) p (hs i (by omega) H p.1)
  · obtain ⟨s, as, e, _, pr⟩ := p
    rw [show (hi - lo).toNat = (fromTo lo hi).length from (fromTo_len lo hi).symm, List.take_length] at pr
    exact hd D H as hD s e pr
theorem for_rng2 {lo hi : Int} {g : TG} {tb : TS} {D : Ends} {H1 : Hp} {ta : TA} (hta : ∀ R : List V → Hp → Prop, R [.int lo, .int hi] H1 → ta σ H R) (hn : 0 ≤ lo ∧ lo < 2 ^ 62 ∧ hi < 2 ^ 62 ∧ 0 ≤ hi) (Pv : Nat → L2.St → Hp → Prop) (h0 : Pv 0 σ H1)
    (hs : ∀ (i : Nat) σ H, (i : Int) < hi - lo → Pv i σ H → g (.int (lo + i)) σ H fun σ2 H2 => tb { D with nx := Pv (i + 1), ct := Pv (i + 1), bk := D.nx } σ2 H2) (hd : ∀ σ H, Pv (hi - lo).toNat σ H → D.nx σ H) : tFor (iRng2 ta) g tb D σ H := by
  refine hta _ ⟨lo, hi, rfl, by omega, ?_⟩
  exact for_range (lo := lo) (n := (hi - lo).toNat) Pv h0 (fun i σ H hi p => hs i σ H (by omega) p) hd
/-- for x in a tuple that stands and stays -/
theorem for_tup {σ : L2.St} {H : Hp} {g : TG} {tb : TS} {D : Ends} {tl : TE} {a : Addr} {xs : List V} (htl : ∀ R : VK, R (.ref a) H → tl σ H R) (Pv : Nat → L2.St → Hp → Prop) (h0 : Pv 0 σ H)
    (hst : ∀ i σ' H', Pv i σ' H' → SqT K H' a xs)
    (hs : ∀ i x σ H', xs[i]? = some x → Pv i σ H' → ∀ N : L2.St → Hp → Prop, (∀ σ' H2, Pv (i + 1) σ' H2 → N σ' H2) → g x σ H' fun σ2 H2 => tb { D with nx := N, ct := N, bk := D.nx } σ2 H2)
    (hd : ∀ σ' H', Pv xs.length σ' H' → D.nx σ' H') : tFor (iTup K tl) g tb D σ H := by
  refine htl _ ⟨a, rfl, ⟨_, hst 0 σ H h0⟩, ?_⟩
  exact L2.for_tup (K := K) (a := a) (xs := xs) Pv h0 (fun i σ H2 _ p => hst i σ H2 p) (fun i x σ H2 hx p => hs i x σ H2 hx p _ fun σ' H3 h => h) hd
end
theorem atI_int {α : Type} {xs : List α} {i : Int} {v : α} (h0 : 0 ≤ i) (h : xs[i.toNat]? = some v) : atI xs i = some v := by
  have e : i = ((i.toNat : Nat) : Int) := by omega
  rw [e]
  exact atI_nat h
theorem atI_end {α : Type} {xs : List α} {v : α} (h : xs[xs.length - 1]? = some v) : atI xs (-1) = some v := by
  have hl := (List.getElem?_eq_some_iff.mp h).1
  have e : ixN xs.length (-1) = some (xs.length - 1) := by
    unfold ixN
    rw [if_neg (by decide), if_pos (by omega)]
    congr 1
    omega
  unfold atI
  rw [e]
  exact h
theorem atI_last {α : Type} (xs : List α) (v : α) : atI (xs ++ [v]) (-1) = some v := atI_end (by
  rw [List.length_append, List.length_singleton, Nat.add_sub_cancel, List.getElem?_append_right (Nat.le_refl _), Nat.sub_self]
  rfl)
/-- what is walked is reckoned first -/
def tV (v : V) : TE := fun _ H Q => Q v H
theorem lc_bindL {K : PySem.W.Frag} {tl : TE} {g : TG} {tt : TT} {te : TE} {vs : List Nat} {σ : L2.St} {H : Hp} {Q : VK} (h : tl σ H fun v H1 => tLc (iList K (tV v)) g tt te vs σ H1 Q) : tLc (iList K tl) g tt te vs σ H Q := h
theorem lc_bindT {K : PySem.W.Frag} {tl : TE} {g : TG} {tt : TT} {te : TE} {vs : List Nat} {σ : L2.St} {H : Hp} {Q : VK} (h : tl σ H fun v H1 => tLc (iTup K (tV v)) g tt te vs σ H1 Q) : tLc (iTup K tl) g tt te vs σ H Q := h
theorem for_bindL {K : PySem.W.Frag} {tl : TE} {g : TG} {tb : TS} {D : Ends} {σ : L2.St} {H : Hp} (h : tl σ H fun v H1 => tFor (iList K (tV v)) g tb D σ H1) : tFor (iList K tl) g tb D σ H := h
theorem for_bindT {K : PySem.W.Frag} {tl : TE} {g : TG} {tb : TS} {D : Ends} {σ : L2.St} {H : Hp} (h : tl σ H fun v H1 => tFor (iTup K (tV v)) g tb D σ H1) : tFor (iTup K tl) g tb D σ H := h
/-- a tuple of a list's items -/
def tupLike (H : Hp) : V → Option HO
  | .ref t => match H t with
    | some (.lst xs) => some (.tup xs)
    | _ => none
  | _ => none
theorem tupLike_at {H : Hp} {t : Addr} {xs : List V} (h : H t = some (.lst xs)) : tupLike H (.ref t) = some (.tup xs) := by
  simp only [tupLike, h]
def TupAt (H : Hp) (a : Addr) (l : List Int) : Prop := H a = some (.tup (l.map V.int))
def LstAt (H : Hp) (a : Addr) (l : List Int) : Prop := H a = some (.lst (l.map V.int))
def tupO (l : List Int) : HO := .tup (l.map V.int)
def lstO (l : List Int) : HO := .lst (l.map V.int)
def pairO (p : Int × Int) : HO := .tup [.int p.1, .int p.2]
def intO (f : Int → HO) : V → Option HO
  | .int i => some (f i)
  | _ => none
theorem fm_intO (f : Int → HO) : ∀ l : List Int, (l.map V.int).filterMap (intO f) = l.map f
  | [] => rfl
  | x :: r => by
    rw [List.map_cons, List.filterMap_cons, fm_intO f r]
    rfl
theorem tups_of {H : Hp} {as : List Addr} {ls : List (List Int)} (p : Paired (IsO H) as (ls.map tupO)) : Paired (TupAt H) as ls := paired_to (F := IsO H) (g := tupO) p
theorem lsts_of {H : Hp} {as : List Addr} {ls : List (List Int)} (p : Paired (IsO H) as (ls.map lstO)) : Paired (LstAt H) as ls := paired_to (F := IsO H) (g := lstO) p
theorem prs_of {H : Hp} {as : List Addr} {ls : List (Int × Int)} (p : Paired (IsO H) as (ls.map pairO)) : Paired (PairAt H) as ls := paired_to (F := IsO H) (g := pairO) p
theorem tups_same {H H' : Hp} {as : List Addr} {ls : List (List Int)} (s : Same H H') (p : Paired (TupAt H) as ls) : Paired (TupAt H') as ls := paired_mono (fun a b e => s _ _ e) p
theorem lsts_same {H H' : Hp} {as : List Addr} {ls : List (List Int)} (s : Same H H') (p : Paired (LstAt H) as ls) : Paired (LstAt H') as ls := paired_mono (fun a b e => s _ _ e) p
theorem prs_same {H H' : Hp} {as : List Addr} {ls : List (Int × Int)} (s : Same H H') (p : Paired (PairAt H) as ls) : Paired (PairAt H') as ls := paired_mono (fun a b e => s _ _ e) p
theorem sort_perm {a b : List Int} (h : a.Perm b) : a.mergeSort = b.mergeSort := by
  have h2 : (a.mergeSort (· ≤ ·)).Pairwise (· ≤ ·) := by
    have h := List.pairwise_mergeSort (le := fun x y : Int => decide (x ≤ y)) (fun x y z h1 h2 => by simp only [decide_eq_true_eq] at *; omega) (fun x y => by simp only [Bool.or_eq_true, decide_eq_true_eq]; omega) a
    exact h.imp fun h => of_decide_eq_true h
  exact perm_sort ((List.mergeSort_perm a _).trans h) h2
/-- the others of the pairs with x -/
def otherF (H : Hp) (x : Int) (v : V) : Option V := if x = (pairOf H v).1 ∨ x = (pairOf H v).2 then some (.int ((pairOf H v).1 + (pairOf H v).2 - x)) else none
theorem fm_other {H : Hp} {x : Int} : ∀ {as : List Addr} {qs : List (Int × Int)}, Paired (PairAt H) as qs → (as.map V.ref).filterMap (otherF H x) = (qs.filterMap fun q => if x = q.1 ∨ x = q.2 then some (q.1 + q.2 - x) else none).map V.int
  | _, _, .nil => rfl
  | _, _, .cons (a := a) (b := b) f r => by
    rw [List.map_cons, List.filterMap_cons, List.filterMap_cons, fm_other r]
    unfold otherF
    rw [pairOf_at f]
    by_cases c : x = b.1 ∨ x = b.2
    · rw [if_pos c, if_pos c]
      rfl
    · rw [if_neg c, if_neg c]
theorem tups_kp {p : Addr} {H H' : Hp} {as : List Addr} {ls : List (List Int)} (k : Kp p H H') (sp : Spring H p) (h : Paired (TupAt H) as ls) : Paired (TupAt H') as ls := paired_mono (fun a b e => by
  refine k.keep a _ ?_ e
  rintro rfl
  obtain ⟨x, y, z, e2⟩ := sp
  rw [show H a = _ from e] at e2
  cases e2) h
theorem tup_kp {p a : Addr} {H H' : Hp} {xs : List V} (k : Kp p H H') (sp : Spring H p) (e : H a = some (.tup xs)) : H' a = some (.tup xs) := by
  refine k.keep a _ ?_ e
  rintro rfl
  obtain ⟨x, y, z, e2⟩ := sp
  rw [e] at e2
  cases e2
theorem fm_tupLike {H : Hp} : ∀ {as : List Addr} {ls : List (List Int)}, Paired (LstAt H) as ls → (as.map V.ref).filterMap (tupLike H) = ls.map tupO
  | _, _, .nil => rfl
  | _, _, .cons f r => by
    rw [List.map_cons, List.filterMap_cons, tupLike_at f, fm_tupLike r]
    rfl
/-- a change of a list leaves the tuples -/
theorem prs_upd {H : Hp} {D : Addr} {xs : List V} {o : HO} {as : List Addr} {ls : List (Int × Int)} (hD : H D = some (.lst xs)) (p : Paired (PairAt H) as ls) : Paired (PairAt (upd H D o)) as ls := paired_mono (fun a b e => by
  unfold PairAt at *
  rw [upd_ne]
  · exact e
  · rintro rfl
    rw [hD] at e
    cases e) p
theorem tups_upd {H : Hp} {D : Addr} {xs : List V} {o : HO} {as : List Addr} {ls : List (List Int)} (hD : H D = some (.lst xs)) (p : Paired (TupAt H) as ls) : Paired (TupAt (upd H D o)) as ls := paired_mono (fun a b e => by
  unfold TupAt at *
  rw [upd_ne]
  · exact e
  · rintro rfl
    rw [hD] at e
    cases e) p
end Z

/-! Data compared and told: tuples of tuples, lists of pairs, lists of parties. -/
namespace Z
open PySem PySem.Spec PyProof.Rows L2
theorem can_tups : ∀ ls : List (List Int), PyData.canLayAll0 (tupsD ls) = true
  | [] => rfl
  | l :: r => by
    simp only [tupsD, List.map_cons, PyData.canLayAll0, PyData.canLay0, Bool.and_eq_true]
    exact ⟨can_ints l, can_tups r⟩
theorem shaped_ltups (ls : List (List Int)) : SeqAt.shaped (.list (tupsD ls)) = true := by
  unfold SeqAt.shaped
  rw [Bool.and_eq_true]
  refine ⟨can_tups ls, decide_eq_true ?_⟩
  have h := depth_tups ls
  simp only [PyData.depth]
  omega
theorem shaped_ttups (ls : List (List Int)) : SeqAt.shaped (.tuple (tupsD ls)) = true := by
  unfold SeqAt.shaped
  rw [Bool.and_eq_true]
  refine ⟨can_tups ls, decide_eq_true ?_⟩
  have h := depth_tups ls
  simp only [PyData.depth]
  omega
def twoL (p : Int × Int) : List Int := [p.1, p.2]
theorem prs_tups {H : Hp} {as : List Addr} {ps : List (Int × Int)} (h : Paired (PairAt H) as ps) : Paired (TupAt H) as (ps.map twoL) := paired_of (F := TupAt H) (g := twoL) (paired_mono (fun a b e => e) h)
theorem eq_lprs {K : PySem.W.Frag} {H : Hp} {a b : Addr} {as bs : List Addr} {ps : List (Int × Int)} {Q : VK} (ha : H a = some (.lst (as.map V.ref))) (pa : Paired (PairAt H) as ps) (hb : H b = some (.lst (bs.map V.ref))) (pb : Paired (PairAt H) bs ps) (q : Q (.bl true) H) : rEqD K (.ref a) (.ref b) H Q := by
  refine ⟨.list (tupsD (ps.map twoL)), .list (tupsD (ps.map twoL)), .lst (SqL.of ha) (dpAll_tups (prs_tups pa)), .lst (SqL.of hb) (dpAll_tups (prs_tups pb)), shaped_ltups _, shaped_ltups _, ?_⟩
  rw [SeqAt.eqv_refl _ (SeqAt.canLay_of_shaped (shaped_ltups _))]
  exact q
theorem ne_ttups {K : PySem.W.Frag} {H : Hp} {a b : Addr} {as bs : List Addr} {ls : List (List Int)} {Q : VK} (ha : H a = some (.tup (as.map V.ref))) (pa : Paired (TupAt H) as ls) (hb : H b = some (.tup (bs.map V.ref))) (pb : Paired (TupAt H) bs ls) (q : Q (.bl false) H) : rNeD K (.ref a) (.ref b) H Q := by
  refine ⟨.tuple (tupsD ls), .tuple (tupsD ls), .tup (SqT.of ha) (dpAll_tups pa), .tup (SqT.of hb) (dpAll_tups pb), shaped_ttups _, shaped_ttups _, ?_⟩
  rw [SeqAt.eqv_refl _ (SeqAt.canLay_of_shaped (shaped_ttups _))]
  exact q
theorem wd_tupsM {m : Nat} : ∀ {ls : List (List Int)}, (∀ l ∈ ls, l.length ≤ m) → wdAll (tupsD ls) ≤ (1003 * m + 5) * ls.length
  | [], _ => Nat.le_refl _
  | l :: r, h => by
    have h1 := h l (List.mem_cons_self ..)
    have h2 := wd_tupsM fun i hi => h i (List.mem_cons_of_mem _ hi)
    simp only [tupsD, List.map_cons, wdAll, wd, wd_ints, List.length_cons, Nat.mul_add] at h2 ⊢
    have h3 : 1003 * l.length ≤ 1003 * m := Nat.mul_le_mul_left _ h1
    omega
/-- small parties -/
def LowP (m k : Nat) (ls : List (List Int)) : Prop := (∀ l ∈ ls, Low l ∧ l.length ≤ m) ∧ ls.length ≤ k
theorem repr_two {K : PySem.W.Frag} {H : Hp} {c a b : Addr} {as bs : List Addr} {ls : List (List Int)} {Q : VK} {m k : Nat} (hc : H c = some (.lst [.ref a, .ref b])) (ha : H a = some (.tup (as.map V.ref))) (pa : Paired (TupAt H) as ls)
    (hb : H b = some (.tup (bs.map V.ref))) (pb : Paired (TupAt H) bs ls) (low : LowP m k ls) (hmk : (1003 * m + 5) * k ≤ 7000000) (q : Q (.str (PyData.list [.tuple (tupsD ls), .tuple (tupsD ls)]).shown) H) : rRepr K [.ref c] H Q := by
  refine ⟨c, .list [.tuple (tupsD ls), .tuple (tupsD ls)], rfl, .lst (SqL.of hc) (.cons (.tup (SqT.of ha) (dpAll_tups pa)) (.cons (.tup (SqT.of hb) (dpAll_tups pb)) .nil)), ?_, ?_, ?_, q⟩
  · have := shw_tups fun l hl => (low.1 l hl).1
    simp only [Shw, ShwAll]
    exact ⟨this, this, trivial⟩
  · have := depth_tups ls
    simp only [PyData.depth, PyData.depthAll]
    omega
  · have h1 := wd_tupsM fun l hl => (low.1 l hl).2
    have h2 : (1003 * m + 5) * ls.length ≤ (1003 * m + 5) * k := Nat.mul_le_mul_left _ low.2
    simp only [wd, wdAll]
    omega
theorem tyN_tup {H : Hp} {a : Addr} {xs : List V} (h : H a = some (.tup xs)) : tyN H (.ref a) = some "tuple" := by
  simp only [tyN, h]
theorem tyN_lst {H : Hp} {a : Addr} {xs : List V} (h : H a = some (.lst xs)) : tyN H (.ref a) = some "list" := by
  simp only [tyN, h]
theorem kit_tt : kitB "tuple" "tuple" = some true := by decide +kernel
theorem kit_lt : kitB "list" "tuple" = some false := by decide +kernel
theorem kit_ts : kitB "tuple" "str" = some false := by decide +kernel
theorem kit_ti : kitB "tuple" "int" = some false := by decide +kernel
theorem kit_nt : kitB "NoneType" "tuple" = some false := by decide +kernel
theorem kit_it : kitB "int" "tuple" = some false := by decide +kernel
theorem kit_bt : kitB "bool" "tuple" = some false := by decide +kernel
theorem kit_st : kitB "str" "tuple" = some false := by decide +kernel
/-- isinstance(x, tuple) of a tuple -/
theorem isN_tup {H : Hp} {a : Addr} {xs : List V} {Q : VK} (h : H a = some (.tup xs)) (q : Q (.bl true) H) : rIsN [.ref a, .ty "tuple"] H Q := ⟨.ref a, "tuple", rfl, _, tyN_tup h, _, kit_tt, q⟩
end Z

/-! enumerate(xs), xs a tuple. -/
namespace PySem
open Sem (wp)
open AutoSeq1 (wpAny_loadPart')
theorem meets_enumerate_newT (l : Addr) (items : Array Value) (n : Nat) (dct : Option Addr) (sl : Array (Option Value)) :
    Meets (Builtin.«enumerate.__new__» ⟨[.type "enumerate", .ref l], []⟩) (fun _ R s => s.heap.get? l = some { cls := .type "tuple", dict := dct, data := .seq items n, slots := sl } ∧
      R (.ok (.ret (.ref (s.heap.push { cls := .type "tuple_iterator", data := .fields #[.ref l, .int 0 0] }).objs.size)))
        { s with heap := (s.heap.push { cls := .type "tuple_iterator", data := .fields #[.ref l, .int 0 0] }).push { cls := .type "enumerate", data := .fields #[.none, .bool false, .ref s.heap.objs.size, rawInt 0, .none, .none] } }) :=
  .of_wp fun prog w A R s h => by
    obtain ⟨hp, g, d, tk, os⟩ := s; obtain ⟨hl, h⟩ := h
    have hsub := sub_enumerate
    have hL : Heap.IsTuple (Shared.heap ⟨hp, g, d, tk, os⟩) l items := ⟨_, hl, rfl, n, rfl⟩
    wp_walk using wpAny_loadPart' hl
    refine wpAny_stack_any fun st => wpAny_pure ?_
    split
    · rename_i c _ _ _ _ _
      cases (c == Value.type "enumerate")
      · wp_walk using wpAny_loadPart' hl, wpAny_pyIter_tuple hL
        exact ⟨_, rfl, h⟩
      · wp_walk using wpAny_loadPart' hl, wpAny_pyIter_tuple hL
        exact ⟨_, rfl, h⟩
    · wp_walk using wpAny_loadPart' hl, wpAny_pyIter_tuple hL
      exact ⟨_, rfl, h⟩
section
variable {prog : Program} {w : World} {A : Around} {E : Value → Shared → Prop} {s : Shared}
theorem call_enumerate_tuple {l : Addr} {items : Array Value} {Q : Value → Shared → Prop} (hL : s.heap.IsTuple l items)
    (h : ∀ h', IsEnum h' (s.heap.objs.size + 1) s.heap.objs.size 0 .none → h'.IsTupleIter s.heap.objs.size l 0 → h'.objs.size = s.heap.objs.size + 2 →
      (∀ b o, s.heap.get? b = some o → h'.get? b = some o) → Q (.ref (s.heap.objs.size + 1)) { s with heap := h' }) :
    wpAny (model prog w) A (call (.type "enumerate") [.ref l]) Q E s := by
  obtain ⟨⟨c, dct, dt, sl⟩, hl, hc, n, hd⟩ := hL
  replace hc : c = .type "tuple" := hc
  replace hd : dt = .seq items n := hd
  subst hc hd
  refine callType_new F.called_enumerate (by decide) (F.typeCall_enumerate_1 _) (F.newCall_enumerate_1 _) (fun obj => F.args_object_init_2 obj _) F.entry_enumerate_new
    (meets_enumerate_newT l items n dct sl) ⟨hl, ?_⟩
  have hz : (s.heap.push { cls := .type "tuple_iterator", data := .fields #[.ref l, .int 0 0] }).objs.size = s.heap.objs.size + 1 := Heap.size_push ..
  show _ ∧ _
  rw [hz]
  have he : IsEnum ((s.heap.push { cls := .type "tuple_iterator", data := .fields #[.ref l, .int 0 0] }).push
      { cls := .type "enumerate", data := .fields #[.none, .bool false, .ref s.heap.objs.size, rawInt 0, .none, .none] }) (s.heap.objs.size + 1) s.heap.objs.size 0 .none := by
    have := Heap.get?_push_size (s.heap.push { cls := .type "tuple_iterator", data := .fields #[.ref l, .int 0 0] })
      (o := { cls := .type "enumerate", data := .fields #[.none, .bool false, .ref s.heap.objs.size, rawInt 0, .none, .none] }) rfl
    rw [hz] at this; exact this
  refine ⟨⟨_, he, rfl⟩, h _ he ⟨_, Heap.get?_push_of_some _ (Heap.get?_push_size _ rfl), rfl, rfl⟩ (by rw [Heap.size_push, hz]) fun b o x => Heap.get?_push_of_some _ (Heap.get?_push_of_some _ x)⟩
end
end PySem
namespace Z
open PySem PySem.Spec PyProof.Rows L2
/-- the tuple at a, each item in a new pair -/
def IteT (K : PySem.W.Frag) (a : Addr) : It :=
  ⟨fun i H => ∃ (xs : List V) (x : V), SqT K H a xs ∧ xs[i]? = some x, fun i H v H' => ∃ T x, v = .ref T ∧ H T = none ∧ H' = upd H T (.tup [.int (i : Nat), x]) ∧ ∀ xs, SqT K H a xs → xs[i]? = some x, fun i H => ∃ xs : List V, SqT K H a xs ∧ xs.length ≤ i⟩
theorem turn_enumT {P : Program} {w : World} {K : PySem.W.Frag} {elts : List Expr} {kk : Nat} {tpos : Pos} (a e it : Addr) :
    Turn P w K (.Tuple elts kk tpos) (IteT K a) [e, it] e (fun i h => (∃ old, IsEnum h e it ((i : Nat) : Int) old) ∧ h.IsTupleIter it a i ∧ e ≠ it) where
  mem := by simp
  obj := fun i h st b hb => by
    obtain ⟨⟨old, he⟩, ⟨o, ho, hc, hd⟩, _⟩ := st
    have e' : b = e ∨ b = it := by simpa using hb
    rcases e' with z | z
    · rw [z]; exact ⟨_, he, fun v q => nomatch q⟩
    · rw [z]; exact ⟨o, ho, fun v q => by rw [hd] at q; cases q⟩
  keep := fun i h h' st k => let ⟨⟨old, he⟩, hi, hne⟩ := st; ⟨⟨old, k e (by simp) _ he⟩, hi.at fun o q => k it (by simp) o q, hne⟩
  item := by
    intro X hP hw hK hc i pins s σ H E I hf st hg
    subst hP hw hK
    obtain ⟨⟨old, he⟩, hit, hne⟩ := st
    obtain ⟨xs, x, hq, hx⟩ := hg
    obtain ⟨its, rv, p, hz⟩ := I.tuple hq
    obtain ⟨u, hu, ru⟩ := rv.get hx
    have hel : e < s.heap.objs.size := Heap.lt_size he
    have hil : it < s.heap.objs.size := by obtain ⟨_, q, _⟩ := hit; exact Heap.lt_size q
    have pt : s.heap.IsTuple a its.toArray := p
    have hai : a ≠ it := by
      rintro rfl
      obtain ⟨o1, h1, c1, _⟩ := hit
      obtain ⟨o2, h2, c2, _⟩ := pt
      rw [h1] at h2
      cases h2
      rw [c1] at c2
      exact absurd (Value.type.inj c2) (by decide)
    have hea : e ≠ a := by
      rintro rfl
      obtain ⟨o2, h2, c2, _⟩ := pt
      rw [show s.heap.get? e = _ from he] at h2
      cases h2
      exact absurd (Value.type.inj c2) (by decide)
    have hil2 : i < its.toArray.size := by
      have := (List.getElem?_eq_some_iff.mp hu).1
      simpa using this
    refine wpAny_pyNext_enum_itemD (Draws.tuple (A := X.A.in1) (show X.A.in1.handled = none from I.ok.hd hc) it a hai its.toArray) he ⟨hit, pt⟩ hil2 hne (by simp [hne, hea]) fun x' h' tk hx' ho hit' hT hsz hk => ?_
    have ex : x' = u := by
      have h1 : its.toArray[i]? = some u := by simpa using hu
      rw [h1] at hx'
      exact (Option.some.inj hx').symm
    subst ex
    refine ⟨_, rfl, wpAny_letOwnedTupleGo_enum (s := { s with heap := h', toks := tk + 1 }) ho fun h'' he' sb => ?_⟩
    have hT2 : h''.get? s.heap.objs.size = some { cls := .type "tuple", data := .seq #[.int i tk, x'] } := (sb.2 _ (Nat.ne_of_gt hel)).trans hT
    have new : ObjOk X.prog X.w (upd H s.heap.objs.size (.tup [.int (i : Nat), x])) h'' s.heap.objs.size (.tup [.int (i : Nat), x]) :=
      ⟨by show 2 ≤ sizeLine; decide, [.int i tk, x'], .cons ⟨_, rfl⟩ (.cons ru .nil), ⟨_, hT2, rfl, _, rfl⟩⟩
    have I1 : Inv X pins σ (upd H s.heap.objs.size (.tup [.int (i : Nat), x])) { s with heap := h'', toks := tk + 1 } :=
      I.turnedNew (ch := [e, it]) (fun b ob hb q => (sb.2 b (fun z => hb (by simp [z]))).trans (hk b ob (fun z => hb (by simp [z])) (fun z => hb (by simp [z])) q)) hf (Nat.le_refl _) new
    refine ⟨.ref s.heap.objs.size, _, I1, rfl, ⟨_, x, rfl, I.hok.fresh (Nat.le_refl _), rfl, fun ys hy => by rw [I.tuple_inj hy hq]; exact hx⟩, ⟨⟨x', ?_⟩, hit'.1.at fun o q => (sb.2 it (Ne.symm hne)).trans q, hne⟩, fun b hb => ?_⟩
    · have e1 : ((i + 1 : Nat) : Int) = (i : Int) + 1 := by omega
      rw [e1]; exact he'
    · have hb' : b < s.heap.objs.size := by
        have e' : b = e ∨ b = it := by simpa using hb
        rcases e' with z | z
        · rw [z]; exact hel
        · rw [z]; exact hil
      rw [upd_ne (Nat.ne_of_lt hb')]
      exact (hf b hb).1
  done := by
    intro X hP hw hK hc i pins s σ H E I hf st hg
    subst hP hw hK
    obtain ⟨⟨old, he⟩, hit, hne⟩ := st
    obtain ⟨xs, hq, hx⟩ := hg
    obtain ⟨its, rv, p, hz⟩ := I.tuple hq
    obtain ⟨f0, f1, f2, f3, f4, f5⟩ := hf it (by simp)
    have hl := rv.length
    have pt : s.heap.IsTuple a its.toArray := p
    have hT : s.TypeIs (.ref e) "enumerate" := ⟨_, he, rfl⟩
    unfold pyNext
    refine wpAny_bind (wpAny_attempt (wpAny_callSpecial?_slot (name := Str.ofString "__next__") hT F.slot_enumerate_next
      (wpAny_call_entry F.slot_enumerate_next hT F.entry_enumerate_next ?_ (F.args_enumerate_next_1 _))))
    show wpAny _ _ (field (.ref e) 2 >>= _) _ _ _
    refine wpAny_bind (wpAny_field he rfl (x := .ref it) rfl ?_)
    refine wpAny_bind (wpAny_nextOf_tuple_end (I.ok.hd hc) hit pt (by simp; omega) fun h' x he' hx' => ?_)
    obtain ⟨o, ho, hc'⟩ := hx'
    refine wpAny_bind (wpAny_isInstance (T := "StopIteration") (b := true) ⟨o, ho, hc'⟩ isSubtype_stop ?_)
    exact wpAny_pure ⟨rfl, I.turned (t' := s.toks) (fun b o hb q => he' b o hb q) f0 f1 f3 f4 f5⟩
  self := fun A i s Q E st h => let ⟨⟨_, he⟩, _⟩ := st; wpAny_pyIter_enum he h
def iEnumT (K : PySem.W.Frag) (ta : TA) : TI := fun σ H R => ta σ H fun vs H1 => ∃ a xs, vs = [.ref a] ∧ SqT K H1 a xs ∧ R (IteT K a) H1
theorem pi_enumT {X : Cx} {e : Expr} {ta : TA} {p pos tpos : Pos} {elts : List Expr} {kk : Nat} (hg : Gl X "enumerate") (hm : X.mg "enumerate" = none) (ha : PA X [e] ta) (hs : starEach [e] X.env = [(false, eval e X.env)] := by rfl) :
    PI X (.Tuple elts kk tpos) (.Call (.Name "enumerate" p) [e] [] pos) (iEnumT X.K ta) := by
  refine ⟨fun pins s σ H R I h => ?_⟩
  refine Call_ (ld_blt I hg hm boot_enumerate (PyProof.Rows.callWith_type1 (thn (ha.run pos pins s σ H _ I h) fun us s1 ⟨vs, H1, I1, r1, q1⟩ => ?_) hs rfl))
  obtain ⟨a, xs, ex, hq, q⟩ := q1
  subst ex
  cases r1 with
  | cons r rr =>
    cases rr
    cases r
    obtain ⟨its, rv, p', hz⟩ := I1.tuple hq
    refine call_enumerate_tuple (show s1.heap.IsTuple a its.toArray from p') fun h' he hit hsz hk => wpAny_pyIter_enum he ?_
    have I2 : Inv X pins σ H1 { s1 with heap := h' } := I1.kept (t' := s1.toks) hk
    refine ⟨s1.heap.objs.size + 1, [s1.heap.objs.size + 1, s1.heap.objs.size], _, _, H1, rfl, I2, turn_enumT a (s1.heap.objs.size + 1) s1.heap.objs.size, ⟨⟨.none, he⟩, hit, Nat.succ_ne_self _⟩, fun b hb => ?_, q⟩
    have e' : b = s1.heap.objs.size + 1 ∨ b = s1.heap.objs.size := by simpa using hb
    have hle : s1.heap.objs.size ≤ b := by
      rcases e' with z | z
      · rw [z]; exact Nat.le_add_right _ _
      · rw [z]; exact Nat.le_refl _
    exact I1.fpOk hle (I1.hok.fresh hle)
/-- for k, x in enumerate(xs): the pairs are new -/
theorem for_enT {K : PySem.W.Frag} {σ : L2.St} {H : Hp} {g : TG} {tb : TS} {D : Ends} {ta : TA} {a : Addr} {xs : List V} (hta : ∀ R : List V → Hp → Prop, R [.ref a] H → ta σ H R) (Pv : Nat → L2.St → Hp → Prop) (h0 : Pv 0 σ H)
    (hst : ∀ i σ' H', Pv i σ' H' → SqT K H' a xs)
    (hs : ∀ i x σ H', xs[i]? = some x → Pv i σ H' → ∀ N : L2.St → Hp → Prop, (∀ σ' H2, Pv (i + 1) σ' H2 → N σ' H2) → ∀ T, H' T = none → g (.ref T) σ (upd H' T (.tup [.int (i : Nat), x])) fun σ2 H2 => tb { D with nx := N, ct := N, bk := D.nx } σ2 H2)
    (hd : ∀ σ' H', Pv xs.length σ' H' → D.nx σ' H') : tFor (iEnumT K ta) g tb D σ H := by
  refine hta _ ⟨a, xs, rfl, hst 0 σ H h0, ?_⟩
  refine ⟨fun i m σ H => m = xs.length - i ∧ i ≤ xs.length ∧ Pv i σ H, ⟨xs.length, by simp, Nat.zero_le _, h0⟩, ?_⟩
  rintro i m σ H ⟨rfl, hi, p⟩
  have q := hst i σ H p
  by_cases hlt : i < xs.length
  · refine .inr ⟨⟨xs, xs[i], q, by simp [hlt]⟩, Pv (i + 1), fun σ' H' p' => ⟨xs.length - (i + 1), by omega, rfl, hlt, p'⟩, fun x H' y => ?_⟩
    obtain ⟨T, z, rfl, hT, rfl, hz⟩ := y
    exact hs i z σ _ (hz xs q) p _ (fun _ _ h => h) T hT
  · have e : i = xs.length := by omega
    subst e
    exact .inl ⟨⟨xs, q, Nat.le_refl _⟩, hd σ H p⟩
/-- for k, x in enumerate(xs): the pairs are new -/
theorem for_enL {K : PySem.W.Frag} {σ : L2.St} {H : Hp} {g : TG} {tb : TS} {D : Ends} {ta : TA} {a : Addr} {xs : List V} (hta : ∀ R : List V → Hp → Prop, R [.ref a] H → ta σ H R) (Pv : Nat → L2.St → Hp → Prop) (h0 : Pv 0 σ H)
    (hst : ∀ i σ' H', Pv i σ' H' → SqL K H' a xs)
    (hs : ∀ i x σ H', xs[i]? = some x → Pv i σ H' → ∀ N : L2.St → Hp → Prop, (∀ σ' H2, Pv (i + 1) σ' H2 → N σ' H2) → ∀ T, H' T = none → g (.ref T) σ (upd H' T (.tup [.int (i : Nat), x])) fun σ2 H2 => tb { D with nx := N, ct := N, bk := D.nx } σ2 H2)
    (hd : ∀ σ' H', Pv xs.length σ' H' → D.nx σ' H') : tFor (iEnum K ta) g tb D σ H := by
  refine hta _ ⟨a, xs, rfl, hst 0 σ H h0, ?_⟩
  refine ⟨fun i m σ H => m = xs.length - i ∧ i ≤ xs.length ∧ Pv i σ H, ⟨xs.length, by simp, Nat.zero_le _, h0⟩, ?_⟩
  rintro i m σ H ⟨rfl, hi, p⟩
  have q := hst i σ H p
  by_cases hlt : i < xs.length
  · refine .inr ⟨⟨xs, xs[i], q, by simp [hlt]⟩, Pv (i + 1), fun σ' H' p' => ⟨xs.length - (i + 1), by omega, rfl, hlt, p'⟩, fun x H' y => ?_⟩
    obtain ⟨T, z, rfl, hT, rfl, hz⟩ := y
    exact hs i z σ _ (hz xs q) p _ (fun _ _ h => h) T hT
  · have e : i = xs.length := by omega
    subst e
    exact .inl ⟨⟨xs, q, Nat.le_refl _⟩, hd σ H p⟩
end Z

/-! len(set(xs)), xs a tuple of ints. -/
namespace Z
open PySem PySem.Spec PyProof.Rows L2
section
variable {X : Cx}
def tLenSetT (ta : TE) : TE := fun σ H Q => ta σ H fun x H1 => ∃ (l : Addr) (ns : List Int), x = V.ref l ∧ H1 l = some (.tup (ns.map V.int)) ∧ ns.length ≤ 1000 ∧ ∀ m : List Int, m.Nodup → (∀ k, k ∈ m ↔ k ∈ ns) → Q (.int (m.length : Nat)) H1
theorem pe_lenSetT {a : Expr} {ta : TE} {p p2 q pos : Pos} (hc : X.calm = true) (hg : Gl X "len") (hm : X.mg "len" = none) (hg2 : Gl X "set") (hm2 : X.mg "set" = none) (ha : PE X a ta)
    (na : starEach [a] X.env = (false, eval a X.env) :: starEach [] X.env := by rfl) : PE X (.Call (.Name "len" p) [.Call (.Name "set" p2) [a] [] q] [] pos) (tLenSetT ta) := by
  refine ⟨fun pins s σ H Q I h => ?_⟩
  refine Call_ (ld_blt I hg hm PySem.boot_len ?_)
  refine PyProof.Rows.callWith_builtin1 (PyProof.Rows.args_cons ?_ rfl) rfl rfl
  refine Call_ (ld_blt I hg2 hm2 PyProof.Rows.boot_set ?_)
  refine PyProof.Rows.callWith_type1 (PyProof.Rows.args_cons (thn (ha.run pins s σ H _ I h) fun v s1 ⟨x, H1, I1, r1, q1⟩ => PyProof.Rows.args_nil ?_) na) na rfl
  obtain ⟨l, ns, rfl, hq, h1, q1⟩ := q1
  cases r1
  obtain ⟨its, r, pl, hz⟩ := I1.tuple (SqT.of hq)
  refine call_set_tupI ns (I1.ok.hd hc) (show s1.heap.IsTuple l its.toArray from pl) (by simpa using r.ints) (by unfold scanBound; omega) fun h' tk c hS hc2 hk => ?_
  refine PyProof.Rows.args_nil ?_
  obtain ⟨o, es, ep, t, ho, hex, hd, _, hnd, hmem, hsz, hf, hn, _⟩ := hS
  have I2 : Inv X pins σ H1 { s1 with heap := h', toks := tk } := I1.kept fun b o e => hk b o e
  have hq2 := q1 (es.toList.map keyOf) hnd fun k => by
    rw [← hmem k, decide_eq_true_eq]
  rw [List.length_map, Array.length_toList] at hq2
  exact call_len_set ho hex hd hf (by rw [hn]; omega) ⟨.int es.size, H1, I2.tok _, ⟨_, rfl⟩, hq2⟩
end
end Z
namespace Z
open PySem PySem.Spec PyProof.Rows L2
theorem eqv_pair (a b c d : Int) : PyData.eqv (.tuple [.int a, .int b]) (.tuple [.int c, .int d]) = decide ((a, b) = (c, d)) := by
  simp [PyData.eqv, PyData.eqvAll, Prod.mk.injEq, Bool.decide_and, Bool.beq_eq_decide_eq]
theorem any_pairs (p : Int × Int) : ∀ qs : List (Int × Int), (tupsD (qs.map twoL)).any (fun z => PyData.eqv z (.tuple ((twoL p).map PyData.int))) = decide (p ∈ qs)
  | [] => rfl
  | q :: r => by
    have ih := any_pairs p r
    have e : PyData.eqv (.tuple ((twoL q).map PyData.int)) (.tuple ((twoL p).map PyData.int)) = decide (q = p) := eqv_pair q.1 q.2 p.1 p.2
    show (PyData.eqv (.tuple ((twoL q).map PyData.int)) (.tuple ((twoL p).map PyData.int)) || (tupsD (r.map twoL)).any fun z => PyData.eqv z (.tuple ((twoL p).map PyData.int))) = _
    rw [e, ih]
    by_cases c : q = p
    · rw [c]
      simp
    · have c2 : ¬ p = q := fun z => c z.symm
      simp [c, c2]
/-- a pair in a list of pairs -/
def rInPr (neg : Bool) : R2 := fun x y H Q => ∃ (t l : Addr) (p : Int × Int) (as : List Addr) (qs : List (Int × Int)), x = .ref t ∧ y = .ref l ∧ PairAt H t p ∧ H l = some (.lst (as.map V.ref)) ∧ Paired (PairAt H) as qs ∧ Q (.bl (if neg then !decide (p ∈ qs) else decide (p ∈ qs))) H
section
variable {X : Cx}
theorem op_inPr (hu : X.A.units + 65 < cLine) : OpR X (compareOp .In) (rInPr false) := by
  intro pins s σ H x y v u Q I rx ry h
  obtain ⟨t, l, p, as, qs, rfl, rfl, hp, hl, pq, q⟩ := h
  refine op_inD hu pins s σ H _ _ v u Q I rx ry ⟨.tuple ((twoL p).map PyData.int), tupsD (qs.map twoL), .tup (SqT.of hp) (dpAll_ints (twoL p)), .lst (SqL.of hl) (dpAll_tups (prs_tups pq)), shaped_tup _, shaped_ltups _, ?_⟩
  rw [any_pairs]
  exact q
theorem op_notInPr (hu : X.A.units + 65 < cLine) : OpR X (compareOp .NotIn) (rInPr true) := by
  intro pins s σ H x y v u Q I rx ry h
  obtain ⟨t, l, p, as, qs, rfl, rfl, hp, hl, pq, q⟩ := h
  refine op_notInD hu pins s σ H _ _ v u Q I rx ry ⟨.tuple ((twoL p).map PyData.int), tupsD (qs.map twoL), .tup (SqT.of hp) (dpAll_ints (twoL p)), .lst (SqL.of hl) (dpAll_tups (prs_tups pq)), shaped_tup _, shaped_ltups _, ?_⟩
  rw [any_pairs]
  exact q
end
theorem room65 {k : Nat} {A : Around} (r : Room k A) : A.units + 65 < cLine := by
  have := r.un
  omega
end Z

/-! A tuple's first two turned round, a tuple held against an empty one, a list taken apart, an item taken out. -/
namespace HT
open PySem PySem.Spec PyProof.Rows
section
variable {prog : Program} {w : World} {A : Around} {E : Value → Shared → Prop} {s : Shared}
theorem sliceApplied_back {sl : Addr} {vl vu vs : Value} {n : Nat} {Q : Int × Int × Nat → Shared → Prop} (hs : s.heap.IsSliceOf sl vl vu vs) (pl : IsPart vl (some 1)) (pu : IsPart vu none) (ps : IsPart vs (some (-1))) (hn : 2 ≤ n)
    (h : Q (1, -1, 2) s) : wpAny (model prog w) A (Builtin.Slice.sliceApplied (.ref sl) (pure (n : Int))) Q E s := by
  obtain ⟨os, hos, hcs, hds⟩ := id hs
  unfold Builtin.Slice.sliceApplied Builtin.Slice.sliceFields
  refine wpAny_bind (wpAny_bind (wpAny_field hos hds (x := vl) rfl (wpAny_bind (wpAny_field hos hds (x := vu) rfl (wpAny_bind (wpAny_field hos hds (x := vs) rfl (wpAny_pure ?_)))))))
  refine wpAny_bind (slicePart_ ps ?_)
  show wpAny _ _ (if ((-1 : Int) == 0) = true then _ else _) _ _ s
  rw [if_neg (by decide)]
  refine wpAny_bind (slicePart_ pl (wpAny_bind (slicePart_ pu (wpAny_bind (wpAny_pure ?_)))))
  show wpAny _ _ (match Builtin.Slice.sliceAdjust (some 1) none (-1) (n : Int) with | (lo, hi) => pure (lo, (-1 : Int), Builtin.Slice.slicePlaces lo hi (-1))) _ _ s
  have e : Builtin.Slice.sliceAdjust (some 1) none (-1) (n : Int) = (1, -1) := by
    unfold Builtin.Slice.sliceAdjust
    have h1 : min (1 : Int) ((n : Int) - 1) = 1 := by omega
    simp [h1]
  rw [e]
  exact wpAny_pure h
theorem getItem_tuple_back {t sl : Addr} {items : Array Value} {x y : Value} {vl vu vs : Value} {Q : Value → Shared → Prop} (ht : IsTup s.heap t items) (hs : s.heap.IsSliceOf sl vl vu vs) (pl : IsPart vl (some 1)) (pu : IsPart vu none) (ps : IsPart vs (some (-1)))
    (hx : items[0]? = some x) (hy : items[1]? = some y)
    (h : Q (.ref s.heap.objs.size) { s with heap := s.heap.push { cls := .type "tuple", data := .seq #[y, x] } }) : wpAny (model prog w) A (getItem (.ref t) (.ref sl)) Q E s := by
  have hsz : 2 ≤ items.size := by
    have := (Array.getElem?_eq_some_iff.mp hy).1
    omega
  have htake : sizeOk (.seq #[y, x]) := by
    show (#[y, x]).size ≤ sizeLine
    rw [sizeLine_eq]
    show 2 ≤ 16777216
    decide
  obtain ⟨os, hos, hcs, hds⟩ := id hs
  have hTs : s.TypeIs (.ref sl) "slice" := ⟨os, hos, hcs⟩
  unfold getItem
  try with_reducible refine wpAny_holding ?_
  first | refine wpAny_bind (wpAny_pure ?_) | skip
  refine wpAny_bind (wpAny_sequenceKey ht.typeIs (by decide) ?_)
  refine wpAny_bind (wpAny_callSpecial?_slot (name := Str.ofString "__getitem__") ht.typeIs PyProof.Rows.slot_tuple_getitem
    (wpAny_call_entry PyProof.Rows.slot_tuple_getitem ht.typeIs entry_tuple_getitem ?_ (args_tuple_getitem _ _)))
  show wpAny _ _ (Builtin.Tuple.tupleItemsOf (.ref t) >>= _) _ _ s
  refine wpAny_bind (tupleItemsOf_ ht ?_)
  refine wpAny_bind (wpAny_typeOf hTs ?_)
  rw [if_pos (by decide)]
  refine wpAny_bind (sliceApplied_back hs pl pu ps hsz ?_)
  show wpAny _ _ (if ((1 : Int) == 0 && (-1 : Int) == 1 && 2 == items.size) = true then _ else _) _ _ s
  rw [if_neg (by
    rw [show ((1 : Int) == 0) = false from rfl, Bool.false_and, Bool.false_and]
    exact Bool.false_ne_true)]
  have e : ((List.range 2).filterMap fun (m : Nat) => items[((1 : Int) + (m : Int) * (-1)).toNat]?).toArray = #[y, x] := by
    show ([0, 1].filterMap fun (m : Nat) => items[((1 : Int) + (m : Int) * (-1)).toNat]?).toArray = _
    have e0 : items[((1 : Int) + ((0 : Nat) : Int) * (-1)).toNat]? = some y := hy
    have e1 : items[((1 : Int) + ((1 : Nat) : Int) * (-1)).toNat]? = some x := hx
    simp only [List.filterMap_cons, List.filterMap_nil, e0, e1]
  rw [e]
  first
    | exact wpAny_bind (m := Builtin.Tuple.tupleExact _) (wpAny_newObj_type (wpAny_pure ⟨_, rfl, wpAny_pure h⟩) htake)
    | exact wpAny_bind (m := Builtin.Tuple.tupleExact _) (wpAny_newObj_type (wpAny_bind (wpAny_pure (wpAny_pure ⟨_, rfl, wpAny_pure h⟩))) htake)
    | exact wpAny_bind (wpAny_bind (m := Builtin.Tuple.tupleExact _) (wpAny_newObj_type (wpAny_pure (wpAny_pure ⟨_, rfl, wpAny_pure h⟩)) htake))
    | exact wpAny_bind (wpAny_bind (m := Builtin.Tuple.tupleExact _) (wpAny_newObj_type (wpAny_pure ⟨_, rfl, wpAny_pure h⟩) htake))
end
end HT
namespace Z
open PySem PySem.Spec PyProof.Rows L2
section
variable {X : Cx}
/-- t[1::-1], t of two and more -/
def tBackT (te : TE) : TE := fun σ H Q => te σ H fun x H1 => ∃ a y z r, x = .ref a ∧ H1 a = some (.tup (y :: z :: r)) ∧ ∀ p, H1 p = none → Q (.ref p) (upd H1 p (.tup [z, y]))
theorem pe_backT {e : Expr} {te : TE} {k k0 : Nat} {p0 p1 p2 p3 pos : Pos} (he : PE X e te) : PE X (.Subscript e (.Slice (some (.Constant (.int 1) k0 p0)) none (some (.UnaryOp .USub (.Constant (.int 1) k p1) p2)) p3) pos) (tBackT te) := by
  refine ⟨fun pins s σ H Q I h => ?_⟩
  refine Subscript_ (thn (he.run pins s σ H _ I h) fun v s1 ⟨x, H1, I1, r1, q1⟩ => ?_)
  obtain ⟨a, y, z, r, ex, hx, q⟩ := q1
  subst ex
  cases r1
  have hst : PO X (some (.UnaryOp .USub (.Constant (.int 1) k p1) p2)) (tPart (tUn (rU fun i => .int (-i)) (tC (.int 1)))) := po_some (pe_un un_neg pe_int)
  have hlo : PO X (some (.Constant (.int 1) k0 p0)) (tPart (tC (.int 1))) := po_some pe_int
  refine wpAny_Slice (thn (hlo.run pins s1 σ H1 (fun o H2 => o = some 1 ∧ H2 = H1) I1 ⟨1, rfl, rfl, rfl⟩) fun vl s2 ⟨l, H2, I2, pl, el, e2⟩ => ?_)
  subst el e2
  refine thn (po_none.run pins s2 σ H2 (fun o H3 => o = none ∧ H3 = H2) I2 ⟨rfl, rfl⟩) fun vu s3 ⟨u, H3, I3, pu, eu, e3⟩ => ?_
  subst eu e3
  refine thn (hst.run pins s3 σ H3 (fun o H4 => o = some (-1) ∧ H4 = H3) I3 ⟨1, rfl, -1, rfl, rfl, rfl⟩) fun vs s4 ⟨o, H4, I4, ps, eo, e4⟩ => ?_
  subst eo e4
  have I5 : Inv X pins σ H4 { s4 with heap := s4.heap.push { cls := .type "slice", data := .fields #[vl, vu, vs] } } := I4.kept (t' := s4.toks) fun b ob q => Heap.get?_push_of_some _ q
  obtain ⟨its, rv, ht, hz⟩ := I5.tuple (SqT.of hx)
  cases rv with
  | cons ra rr =>
    cases rr with
    | cons rb rc =>
      show wpAny (model X.prog X.w) X.A (subscriptTail e (.Slice (some (.Constant (.int 1) k0 p0)) none (some (.UnaryOp .USub (.Constant (.int 1) k p1) p2)) p3) (.ref a) (.ref s4.heap.objs.size)) (EP X pins σ Q) X.xe { s4 with heap := s4.heap.push { cls := .type "slice", data := .fields #[vl, vu, vs] } }
      refine tail_any (ops := [.ref a, .ref s4.heap.objs.size]) ht.typeIs PyProof.Rows.slot_tuple_getitem.lookup ?_ (by with_unfolding_all rfl)
      refine HT.getItem_tuple_back ht (Heap.IsSliceOf.new _ vl vu vs) pl pu ps rfl rfl ?_
      refine ⟨.ref _, _, I5.laid (t' := s4.toks) (o := .tup [z, y]) (fun b ob q => Heap.get?_push_of_some _ q) (Nat.le_refl _) ?_, rfl, q _ (I5.hok.fresh (Nat.le_refl _))⟩
      exact ⟨by rw [sizeLine_eq]; show 2 ≤ 16777216; decide, _, .cons rb (.cons ra .nil), IsTup.new _ _⟩
/-- t == () -/
def rEqT0 : R2 := fun x y H Q => ∃ a b xs, x = .ref a ∧ y = .ref b ∧ H a = some (.tup xs) ∧ H b = some (.tup []) ∧ Q (.bl xs.isEmpty) H
theorem op_eqT0 (hu : X.A.units + 64 < cLine) : OpR X (compareOp .Eq) rEqT0 := by
  intro pins s σ H x y v u Q I rx ry h
  obtain ⟨a, b, xs, rfl, rfl, ha, hb, q⟩ := h
  cases rx
  cases ry
  obtain ⟨its, r1, p1, _⟩ := I.tuple (SqT.of ha)
  obtain ⟨its2, r2, p2, _⟩ := I.tuple (SqT.of hb)
  cases r2
  refine PySem.SeqAt.eq_tupleAt (e := fun _ => true) p1 p2 (by omega) (fun j h1 h2 => absurd h2 (Nat.not_lt_zero j)) ?_
  refine ⟨.bl xs.isEmpty, H, I, ?_, q⟩
  have hl := r1.length
  cases xs with
  | nil =>
    cases r1
    rfl
  | cons y r =>
    cases r1
    rfl
/-- a, b = a tracked list -/
def gLstH (n : Nat) (t : TGs) : TG := fun v σ H Q => ∃ a xs, v = .ref a ∧ H a = some (.lst xs) ∧ xs.length = n ∧ t xs σ H Q
theorem pg_lstH {es : List Expr} {k : Nat} {pos : Pos} {t : TGs} {n : Nat} (hc : X.calm = true) (h : PGs X es t)
    (hn : (assignEach es X.env).length = n := by rfl) (hst : (assignEach es X.env).findIdx? (·.1) = none := by rfl) : PG X (.Tuple es k pos) (gLstH n t) := by
  refine ⟨fun pins s σ H v u Q I r hw => (pg_lst hc h hn hst).run pins s σ H v u Q I r ?_⟩
  obtain ⟨a, xs, e1, hq, hl, hw⟩ := hw
  exact ⟨a, xs, e1, SqL.of hq, hl, hw⟩
/-- xs.pop(i), i a place of xs -/
def rPopH : V → List V → Hp → VK → Prop := fun x vs H Q => ∃ l xs i y, x = .ref l ∧ vs = [.int i] ∧ H l = some (.lst xs) ∧ 0 ≤ i ∧ i < 2 ^ 62 ∧ xs[i.toNat]? = some y ∧ Q y (upd H l (.lst (xs.eraseIdx i.toNat)))
theorem mt_popH : MtM X "list.pop" rPopH := by
  intro pins s σ H x vs v us Q I r1 r2 h
  obtain ⟨l, xs, i, y, rfl, rfl, hl, h0, h1, hy, q⟩ := h
  have hlt : i.toNat < xs.length := (List.getElem?_eq_some_iff.mp hy).1
  refine mt_popAt pins s σ H _ _ v us Q I r1 r2 ⟨l, xs, i, i.toNat, y, rfl, rfl, hl, by omega, by omega, ?_, hy, q⟩
  show (if (0 ≤ (if i < 0 then i + (xs.length : Int) else i) && (if i < 0 then i + (xs.length : Int) else i) < (xs.length : Int)) = true then some (if i < 0 then i + (xs.length : Int) else i).toNat else none) = _
  have e : (if i < 0 then i + (xs.length : Int) else i) = i := if_neg (by omega)
  rw [e, if_pos (by rw [Bool.and_eq_true]; exact ⟨decide_eq_true h0, decide_eq_true (by omega)⟩)]
end
/-- a list of pairs held against an empty list -/
theorem ne_prs_nil {K : PySem.W.Frag} {H : Hp} {a b : Addr} {as : List Addr} {ps : List (Int × Int)} {Q : VK} (ha : H a = some (.lst (as.map V.ref))) (pa : Paired (PairAt H) as ps) (hb : H b = some (.lst [])) (q : Q (.bl (!ps.isEmpty)) H) : rNeD K (.ref a) (.ref b) H Q := by
  refine ⟨.list (tupsD (ps.map twoL)), .list [], .lst (SqL.of ha) (dpAll_tups (prs_tups pa)), .lst (SqL.of hb) .nil, shaped_ltups _, shaped_ltups [], ?_⟩
  cases ps with
  | nil => exact q
  | cons p r => exact q
end Z

/-! Texts walked in a comprehension. -/
namespace Z
open PySem PySem.Spec PyProof.Rows L2
section
variable {σ : L2.St}
def signs (z : Str) : List V := z.cps.toList.map fun c => V.str ⟨#[c]⟩
theorem lc_mapS {z : Str} {g : TG} {tt : TT} {te : TE} {vs : List Nat} {H H1 : Hp} {tl : TE} {Q : VK} (f : V → Option V) (htl : ∀ R : VK, R (.str z) H1 → tl σ H R) (hz : z.cps.size ≤ 1000)
    (hs : ∀ x ∈ signs z, ∀ H, Same H1 H → Turn1 g tt te vs σ H x (f x))
    (hd : ∀ D H', H1 D = none → Same H1 H' → H' D = some (.lst ((signs z).filterMap f)) → Q (.ref D) H') : tLc (iStr tl) g tt te vs σ H Q := by
  have hl : (signs z).length = z.cps.size := by
    unfold signs
    rw [List.length_map, Array.length_toList]
  refine htl _ ⟨z, rfl, fun D hD => ?_⟩
  refine lc_it walk_str (Acc H1 f (signs z) D) (acc_start hD) (fun _ _ _ _ => trivial) (fun i x H H' hi p y => ?_) fun H p => ?_
  · obtain ⟨rfl, c, hc, rfl⟩ := y
    have hg : (signs z)[i]? = some (.str ⟨#[c]⟩) := by
      unfold signs
      rw [List.getElem?_map, Array.getElem?_toList, hc]
      rfl
    exact acc_turn hD (by rw [hl]; exact hz) hg p (hs _ (List.mem_of_getElem? hg) H' p.1)
  · have e := p.2
    rw [show z.cps.size = (signs z).length from hl.symm, List.take_length] at e
    exact hd D H hD p.1 e
end
end Z

/-! Classes of the program: where they stand, their methods with their promises. -/
namespace Z
open PySem PySem.Spec PyProof.Rows L2
/-- the address that the module tells for a class -/
def clsA (mg : Str → Option Value) (x : Str) : Addr := match mg x with
  | some (.ref a) => a
  | _ => 0
theorem clsA_of {mg : Str → Option Value} {x : Str} {a : Addr} (h : mg x = some (.ref a)) : clsA mg x = a := by
  unfold clsA
  rw [h]
/-- a class as the top has made it -/
structure ClsT (K : PySem.W.Frag) (mg : Str → Option Value) (x : Str) : Prop where
  at_ : mg x = some (.ref (clsA mg x))
  cl : Cls K (clsA mg x)
  makes : PySem.W.makesIn K (clsA mg x) = true
  kp : PySem.W.keepIn K (.ref (clsA mg x)) = true
theorem ClsT.of {K : PySem.W.Frag} {mg : Str → Option Value} {x : Str} {a : Addr} (h : mg x = some (.ref a)) (cl : Cls K a) (mk : PySem.W.makesIn K a = true) (kp : PySem.W.keepIn K (.ref a) = true) : ClsT K mg x := by
  have e := clsA_of h
  exact ⟨by rw [e]; exact h, by rw [e]; exact cl, by rw [e]; exact mk, by rw [e]; exact kp⟩
/-- its method m stands at the def st -/
def MethT (K : PySem.W.Frag) (mg : Str → Option Value) (x m qual : Str) (st : Stmt) : Prop := ∃ f fd, Fun K m qual st f fd ∧ Meth K (clsA mg x) m f
theorem MethT.of {K : PySem.W.Frag} {mg : Str → Option Value} {x m qual : Str} {st : Stmt} {a f : Addr} {fd : FuncData} (h : mg x = some (.ref a)) (F : Fun K m qual st f fd) (M : Meth K a m f) : MethT K mg x m qual st := by
  have e := clsA_of h
  exact ⟨f, fd, F, by rw [e]; exact M⟩
def NoAt (K : PySem.W.Frag) (mg : Str → Option Value) (x f : Str) : Prop := NoAttr K (clsA mg x) f
theorem NoAt.of {K : PySem.W.Frag} {mg : Str → Option Value} {x f : Str} {a : Addr} (h : mg x = some (.ref a)) (n : PySem.W.findIn K (.ref a) f = some none) : NoAt K mg x f := by
  have e := clsA_of h
  unfold NoAt
  rw [e]
  exact n
/-- it stands there and keeps its promise -/
structure HdM (P : Program) (w : World) (K : PySem.W.Frag) (mg : Str → Option Value) (base : Heap) (CX : CXT) (k : Nat) (x m qual : Str) (st : Stmt) (ps : List Str) (sp : Sp) : Prop where
  ex : ∃ f fd, Fun K m qual st f fd ∧ Meth K (clsA mg x) m f ∧ FnOk P w K mg base CX k f fd ps sp
  bd : Bd m st ps
section
variable {X : Cx} {CX : CXT} {k : Nat} {st : Stmt} {ps : List Str} {sp : Sp} {E : XK} {x m qual : Str} {p apos pos : Pos} {o e : Expr} {es : List Expr} {t : TA} {ta : TE}
theorem pe_hdm {pl : Sem Bool} (h : HdM X.prog X.w X.K X.mg X.base CX k x m qual st ps sp) (c : ClsT X.K X.mg x) (hr : Room k X.A) (hx : Passes CX X E) (he : PE X o ta) (ha : PA X (e :: es) t)
    (hst : starEach (e :: es) X.env = (false, eval e X.env) :: starEach es X.env := by rfl) (hpl : (backTo pos (starEach es X.env)).any (·.1) = false := by rfl)
    (ht : eval (.Call (.Attribute o m apos) (e :: es) [] pos) X.env = (do
      let ov ← eval o X.env
      standAt apos.atName
      let (f, first) ← holding [ov] (getMethod ov m pl)
      callWith pos f first (backTo pos (starEach (e :: es) X.env)) (backToKw pos (keywordEach [] X.env))) := by rfl) :
    PE X (.Call (.Attribute o m apos) (e :: es) [] pos) (tMeth (clsA X.mg x) m sp [] E ta t) := by
  obtain ⟨f, fd, F, M, G⟩ := h.ex
  exact pe_meth he c.cl M G hr (F.binds (h.bd qual)) .nil hx ha hst hpl ht
theorem pe_hdm0 {pl : Sem Bool} (h : HdM X.prog X.w X.K X.mg X.base CX k x m qual st ps sp) (c : ClsT X.K X.mg x) (hr : Room k X.A) (hx : Passes CX X E) (he : PE X o ta)
    (ht : eval (.Call (.Attribute o m apos) [] [] pos) X.env = (do
      let ov ← eval o X.env
      standAt apos.atName
      let (f, first) ← holding [ov] (getMethod ov m pl)
      callWith pos f first (backTo pos (starEach [] X.env)) (backToKw pos (keywordEach [] X.env))) := by rfl) :
    PE X (.Call (.Attribute o m apos) [] [] pos) (tMeth (clsA X.mg x) m sp [] E ta tNil) := by
  obtain ⟨f, fd, F, M, G⟩ := h.ex
  exact pe_meth0 he c.cl M G hr (F.binds (h.bd qual)) .nil hx ht
theorem pe_mkm (h : HdM X.prog X.w X.K X.mg X.base CX k x "__init__" qual st ps sp) (c : ClsT X.K X.mg x) (hr : Room (k + 1) X.A) (hg : Gl X x) (hx : Passes CX X E) (ha : PA X (e :: es) t)
    (hdb : (x == ("__debug__" : Str)) = false := by decide) (he : starEach (e :: es) X.env = (false, eval e X.env) :: starEach es X.env := by rfl) (hpl : (backTo pos (starEach es X.env)).any (·.1) = false := by rfl) :
    PE X (.Call (.Name x p) (e :: es) [] pos) (tMake (clsA X.mg x) sp [] E t) := by
  obtain ⟨f, fd, F, M, G⟩ := h.ex
  exact pe_make ⟨c.makes, M.at_, M.fn, c.kp⟩ G hr hg c.at_ (F.binds (h.bd qual)) .nil hx ha hdb he hpl
theorem pe_mkm0 (h : HdM X.prog X.w X.K X.mg X.base CX k x "__init__" qual st ps sp) (c : ClsT X.K X.mg x) (hr : Room (k + 1) X.A) (hg : Gl X x) (hx : Passes CX X E)
    (hdb : (x == ("__debug__" : Str)) = false := by decide) : PE X (.Call (.Name x p) [] [] pos) (tMake (clsA X.mg x) sp [] E tNil) := by
  obtain ⟨f, fd, F, M, G⟩ := h.ex
  exact pe_make0 ⟨c.makes, M.at_, M.fn, c.kp⟩ G hr hg c.at_ (F.binds (h.bd qual)) .nil hx hdb
/-- o.f = .., among several targets -/
def gFldT (K : PySem.W.Frag) (ta : TE) (f : Str) : TG := fun y σ H Q => ta σ H fun x H2 => ∃ a C dx fs, x = .ref a ∧ H2 a = some (.ins C dx fs) ∧ Cls K C ∧ NoAttr K C f ∧ fs.length < 1000 ∧ Q σ (upd H2 a (.ins C dx (putF f y fs)))
theorem pg_fldT {f : Str} (ho : PE X o ta)
    (has : ∀ v, assign (.Attribute o f pos) X.env v = (do
      let ov ← holding [v] (eval o X.env)
      standAt pos.atName
      holding [v, ov] (setAttr ov f v)
      release [v, ov] []) := by intro _; rfl) : PG X (.Attribute o f pos) (gFldT X.K ta f) := by
  refine ⟨fun pins s σ H v u Q I r h => ?_⟩
  rw [has]
  refine wpAny_bind (wpAny_holding (thn (ho.run pins s σ H _ I h) fun ov s1 ⟨x, H1, I1, r1, a, C, dx, fs, ex, ea, c, n, l, q⟩ => ?_))
  subst ex
  obtain rfl : ov = Value.ref a := r1
  refine wpAny_bind (wpAny_standAt (wpAny_bind (wpAny_holding (setattr_ok I1 ea c n l r fun s3 I3 => ?_))))
  exact wpAny_release ⟨σ, _, I3, q⟩
end
end Z

/-! Own exceptions whose __init__ says super().__init__() and stores its arguments. -/
namespace ZX
open PySem PySem.W PySem.Calls PyProof.Rows
/-- one of three bases -/
structure BaseW (B newId initId : String) (bmB : List Value) : Prop where
  fb : ExcBaseFacts B newId initId bmB
  kx : KxsFacts B initId
  st : StoreFacts B bmB "object.__setattr__" "object"
theorem baseVE : BaseW "ValueError" "ValueError.__new__" "ValueError.__init__" [.type "ValueError", .type "Exception", .type "BaseException", .type "object"] := ⟨F.excBase_ValueError, kxs_ValueError, F.store_ValueError⟩
theorem baseLE : BaseW "LookupError" "LookupError.__new__" "LookupError.__init__" [.type "LookupError", .type "Exception", .type "BaseException", .type "object"] := ⟨F.excBase_LookupError, kxs_LookupError, F.store_LookupError⟩
theorem baseAE : BaseW "ArithmeticError" "ArithmeticError.__new__" "ArithmeticError.__init__" [.type "ArithmeticError", .type "Exception", .type "BaseException", .type "object"] := ⟨F.excBase_ArithmeticError, kxs_ArithmeticError, F.store_ArithmeticError⟩
/-- super().__init__() -/
def superSt (a0 a1 a2 a3 a4 : Pos) : Stmt := .Expr (.Call (.Attribute (.Call (.Name "super" a0) [] [] a1) "__init__" a2) [] [] a3) a4
/-- self.f = f -/
def setSt (f : Str) (b0 b1 b2 b3 : Pos) : Stmt := .Assign [.Attribute (.Name "self" b0) f b1] (.Name f b2) b3
/-- how the row of super() is read, at these places -/
def SupOk (a0 a1 a2 a3 : Pos) : Prop := ∀ env : Env, ∃ pl : Sem Bool, eval (.Call (.Attribute (.Call (.Name "super" a0) [] [] a1) "__init__" a2) [] [] a3) env = (do
      let so ← attributeBase (.Call (.Name "super" a0) [] [] a1) "__init__" env (eval (.Call (.Name "super" a0) [] [] a1) env)
      standAt a2.atName
      let (f, first) ← holding [so] (getMethod so "__init__" pl)
      callWith a3 f first (backTo a3 (starEach [] env)) [])
abbrev exSc (ns : List (Str × NameKind)) : Scope := { kind := .function, names := ns, isGenerator := false, isCoroutine := false, more := [] }
/-- the class and its __init__, as the top has made them -/
structure ExW (prog : Program) (K : Frag) (B newId initId : String) (bmB : List Value) (C : Addr) (params : Arguments) (body : List Stmt) (scope : Scope) (fI : Addr) : Prop where
  base : BaseW B newId initId bmB
  made : excInitIn K C bmB newId = true
  over : excOver K C bmB = true
  iC : findIn K (.ref C) "__init__" = some (some (.ref fI))
  tI : typeIn K (.ref fI) = some (.type "function")
  fn : ∃ (oc : Value) (od : Option Addr) (qual : Str) (kV doc pm : Value) (an : Option Addr) (ct : Value) (osl : Array (Option Value)) (cc cda : Addr) (ccl : Value) (cdd : Option Addr) (vs : Array Value) (ccs : Array (Option Value)) (file : Str) (tf : Tok) (cl : Value) (cld : Option Addr) (csl : Array (Option Value)),
    K.lookup fI = some ⟨oc, od, .func (ksFn "__init__" qual params body scope .none kV doc pm an (.ref cda) ct cc), osl⟩ ∧ codeIn K (.ref cda) qual = true ∧
    K.lookup cda = some ⟨ccl, cdd, .fields vs, ccs⟩ ∧ vs[2]? = some (.str file tf) ∧ ((prog.main.file : Str) == file) = true ∧ K.lookup cc = some ⟨cl, cld, .cell (some (.ref C)), csl⟩
  sub : mroIn K C (.ref C) = some true
  sup : ks_superIn K C C "__init__" = some (some (.builtin initId))
  call : specialIn K (.ref C) "__call__" = some (some (.builtin "type.__call__"))
  inT : instIn K (.ref C) (.type "type") = some true
  subB : subIn K (.ref C) (.type B) = some true
  top : (prog.main.scope.names.lookup ("super" : Str)).isSome = false
  op : nsIn K cStatics "thirdparty.any" = some none
  sa : findIn K (.ref C) "__setattr__" = some (some (.builtin "object.__setattr__"))
  hd : hasDictIn K C = true
theorem news_sub {g h : Heap} {L : Addr} {a b : List (Addr × Obj)} (N : News g L h a) (s : ∀ p ∈ b, p ∈ a) : News g L h b := fun p hp => N p (s p hp)
section
variable {prog : Program} {w : World} {A : Around} {R : Result → Shared → Prop} {s : Shared} {K : Frag} {mg mb : Str → Option Value} {B newId initId : String} {bmB : List Value} {C fI x t0 : Addr} {params : Arguments} {rest : List Stmt} {ns : List (Str × NameKind)} {a0 a1 a2 a3 a4 : Pos}
/-- __init__ is entered, super().__init__() done -/
theorem ex_enter (T : ExW prog K B newId initId bmB C params (superSt a0 a1 a2 a3 a4 :: rest) (exSc ns) fI) (X : K.In s.heap) (hlim : s.heap.NoLimit) (hx : s.heap.get? x = some (excObj C t0 none .none)) (hnx : K.lookup x = none) (hroom : A.depth < recursionLimit)
    (hsup : SupOk a0 a1 a2 a3) (hG : s.heap.Ns mainGlobals mg) (hB : s.heap.Ns builtinsNs mb) (hsg : mg "super" = none) (hsb : mb "super" = some (.type "super"))
    {args : Args} {bs : List (Str × Value)} (hbind : ∀ fd : FuncData, fd.params = params → fd.name = "__init__" → fd.defaults = .none → BindsTo s fd args (("self", .ref x) :: bs))
    (hp : (params.posonlyargs ++ params.args).head?.map (·.arg) = some "self") (hself : ((("self" : Str), Value.ref x) :: bs).reverse.lookup ("self" : Str) = some (.ref x))
    (hloc : ∀ y ∈ (("self" : Str), Value.ref x) :: bs, ns.lookup y.1 = some .local)
    (hks : ns.lookup ("super" : Str) = some .globalImplicit) (hkc : ns.lookup ("__class__" : Str) = some .free) (hka : ns.lookup ("self" : Str) = some .local)
    (hcell : ∀ y ∈ ns, y.2 ≠ .cell)
    (h : ∀ (g h' : Heap) (L t' : Addr) (tk : Tok) (qual : Str) (cda cc : Addr) (E : Value → Shared → Prop), Fr g L h' (fun y => ((("self" : Str), Value.ref x) :: bs).reverse.lookup y) → News g L h' [(x, excObj C t' none .none)] → K.In g → (∀ b o, b ≠ x → s.heap.get? b = some o → g.get? b = some o) → s.heap.objs.size ≤ L →
      wpAny (model prog w) (A.deeper (ksEnv qual (exSc ns) L fI (.ref cda) cc)) (execs rest (ksEnv qual (exSc ns) L fI (.ref cda) cc)) (fun f s' => R (.ok (.ret (match f with | .ret v => v | _ => .none))) s') E { s with heap := h', toks := tk }) :
    codeAny (model prog w) A (.call (.ref fI) args) R s := by
  obtain ⟨oc, od, qual, kV, doc, pm, an, ct, osl, cc, cda, ccl, cdd, vs, ccs, file, tf, cl, cld, csl, lf, hcd, lc, hvs, hfile, hcc⟩ := T.fn
  refine ks_codeAny_call_defAt (fd := ksFn "__init__" qual params (superSt a0 a1 a2 a3 a4 :: rest) (exSc ns) .none kV doc pm an (.ref cda) ct cc) (body := superSt a0 a1 a2 a3 a4 :: rest) (binds := ("self", .ref x) :: bs) hroom (X _ _ lf) rfl hlim (codeRec_of X hcd) rfl (hbind _ rfl rfl rfl) hcell hloc (fun h₁ hns k₁ => ?_) rfl rfl rfl
  have ex := k₁ _ _ hx
  have X₁ : K.In h₁ := X.keeps k₁
  have G₁ := hG.keeps k₁
  have B₁ := hB.keeps k₁
  -- the ground: all but the exception itself
  obtain ⟨g, hg⟩ : ∃ g, g = hideAll s.heap [x] := ⟨_, rfl⟩
  have gx : g.get? x = none := by rw [hg]; exact hideAll_none _ (.head _)
  have gk : ∀ b o, b ≠ x → s.heap.get? b = some o → g.get? b = some o := fun b o n e => by
    rw [hg]
    exact hideAll_get _ e (by simpa using n)
  have Xg : K.In g := fun b o e => gk b o (fun z => by rw [z, hnx] at e; cases e) (X b o e)
  have hL : x ≠ s.heap.objs.size := Nat.ne_of_lt (Heap.lt_size hx)
  have F₁ : Fr g s.heap.objs.size h₁ (fun y => ((("self" : Str), Value.ref x) :: bs).reverse.lookup y) := ⟨hns, fun b o e => k₁ b o (of_hideAll [x] (by rw [← hg]; exact e)), by rw [hg, hideAll_size]; exact Nat.le_refl _⟩
  have N₁ : News g s.heap.objs.size h₁ [(x, excObj C t0 none .none)] := fun p hp => by
    obtain rfl := List.mem_singleton.mp hp
    exact ⟨ex, hL, gx⟩
  obtain ⟨ar, har, hae⟩ : ∃ ar, (params.posonlyargs ++ params.args).head? = some ar ∧ ar.arg = "self" := by
    cases e : (params.posonlyargs ++ params.args).head? with
    | none => rw [e] at hp; cases hp
    | some ar => rw [e] at hp; exact ⟨ar, rfl, Option.some.inj hp⟩
  obtain ⟨cd, oD, hD1, hD2⟩ : ∃ cd oD, K.lookup C = some oD ∧ oD.data = .cls cd := by
    have z := T.made
    unfold excInitIn at z
    split at z
    · rename_i hlk
      exact ⟨_, _, hlk, rfl⟩
    · cases z
  have I₁ : InstAt h₁ x (excObj C t0 none .none) C none := ⟨ex, rfl, rfl, trivial⟩
  show PySem.wpAt _ _ _ (execs (superSt a0 a1 a2 a3 a4 :: rest) (ksEnv qual (exSc ns) s.heap.objs.size fI (.ref cda) cc)) _ _ _
  obtain ⟨pl, hpl⟩ := hsup (ksEnv qual (exSc ns) s.heap.objs.size fI (.ref cda) cc)
  refine ks_wpAt_execs_cons (ks_wpAt_Expr_any (ks_wpAt_MethodCall ?_ hpl))
  refine ks_wpAt_super_base (env := ksEnv qual (exSc ns) s.heap.objs.size fI (.ref cda) cc) hks hkc rfl rfl (X₁ _ _ lf) rfl har rfl (X₁ _ _ lc) rfl hvs hfile T.top ?_
  refine ks_loadName_global rfl hks (loadGlobal_builtin (env := ksEnv qual (exSc ns) s.heap.objs.size fI (.ref cda) cc) G₁ hsg B₁ hsb ⟨rfl, ?_⟩)
  refine wpAny_loadName_free rfl hkc rfl ⟨_, X₁ _ _ hcc, rfl⟩ ?_
  rw [hae]
  refine wpAny_loadName_local rfl hka hns hself ?_
  refine ks_wpAny_isType_cls (X₁ _ _ hD1) hD2 ⟨rfl, ?_⟩
  refine ks_wpAny_call_super (X₁ _ _ hD1) hD2 ex rfl (fun c e => by cases e) (looks_mroIn X₁ T.sub) fun h₂ e₂ k₂ => ?_
  obtain ⟨F₂, N₂, lt₂⟩ := ks_newsPush (s := ⟨h₁, s.gens, s.drawn, s.toks, s.os⟩) F₁ N₁ rfl e₂ k₂
  have X₂ : K.In h₂ := X₁.keeps k₂
  have I₂ : InstAt h₂ x (excObj C t0 none .none) C none := ⟨k₂ _ _ ex, rfl, rfl, trivial⟩
  refine kxs_method T.base.kx F₂ Xg N₂ (.head _) I₂ T.op T.sup T.subB rfl fun u h₃ F₃ N₃ lt₃ => ?_
  refine kxs_callWith0 N₃ (.head _) ?_
  have nu : u ≠ x := Nat.ne_of_gt (lt₃ (x, excObj C t0 none .none) (.tail _ (.head _)))
  have no : h₁.objs.size ≠ x := Nat.ne_of_gt (lt₂ (x, excObj C t0 none .none) (.head _))
  refine kxs_call F₃ Xg N₃ T.base.fb T.made (.head _) (.tail nu (.tail no (.head fun _ z => nomatch z))) (by simp) fun t' h₄ F₄ N₄ _ => ?_
  refine PySem.wpAt_of_wpAny ?_
  exact h g h₄ _ t' _ qual cda cc _ F₄ (news_sub N₄ fun p hp => by
    obtain rfl := List.mem_singleton.mp hp
    exact .tail _ (.tail _ (.tail _ (.head _)))) Xg gk (Nat.le_refl _)
end
/-- the entries of a dict that holds these names, in order -/
inductive Ents : List (Str × Value) → List DictEntry → Prop
  | nil : Ents [] []
  | cons {f : Str} {v : Value} {fs : List (Str × Value)} {es : List DictEntry} {hsh : Int} {tk : Tok} : Ents fs es → Ents ((f, v) :: fs) (⟨hsh, .str f tk, v⟩ :: es)
theorem isStr_str {f y : Str} {tk : Tok} : (Value.str f tk).isStr y = (f == y) := rfl
theorem ents_len {fs : List (Str × Value)} {es : List DictEntry} (e : Ents fs es) : es.length = fs.length := by
  induction e with
  | nil => rfl
  | cons _ ih => simp [ih]
theorem ents_put {fs : List (Str × Value)} {es : List DictEntry} (e : Ents fs es) {f : Str} (n : f ∉ fs.map (·.1)) (hsh : Int) (tk : Tok) (v : Value) : putL f hsh (.str f tk) v es = es ++ [⟨hsh, .str f tk, v⟩] ∧ Ents (fs ++ [(f, v)]) (es ++ [⟨hsh, .str f tk, v⟩]) ∧ (getL f es).isSome = true := by
  induction e with
  | nil => exact ⟨rfl, .cons .nil, rfl⟩
  | @cons f' v' fs es h' t' _ ih =>
    simp only [List.map_cons, List.mem_cons, not_or] at n
    obtain ⟨i1, i2, i3⟩ := ih n.2
    have ne : (f' == f) = false := beq_eq_false_iff_ne.mpr fun z => n.1 z.symm
    refine ⟨?_, .cons i2, ?_⟩
    · show (if (f' == f) = true then _ else _) = _
      rw [ne, if_neg Bool.false_ne_true, i1]
      rfl
    · unfold getL at i3 ⊢
      rw [List.find?_cons, isStr_str, ne]
      rw [List.any_cons]
      exact i3
theorem ents_find {fs : List (Str × Value)} {es : List DictEntry} (e : Ents fs es) (y : Str) : (es.find? fun e => e.key.isStr y).map (·.val) = fs.lookup y := by
  induction e with
  | nil => rfl
  | @cons f' v' fs es h' t' _ ih =>
    rw [List.find?_cons, isStr_str]
    by_cases q : f' = y
    · subst q
      simp [List.lookup]
    · have q1 : (f' == y) = false := beq_eq_false_iff_ne.mpr q
      have q2 : (y == f') = false := beq_eq_false_iff_ne.mpr fun z => q z.symm
      rw [q1]
      simp only [List.lookup, q2]
      exact ih
theorem ents_keys {fs : List (Str × Value)} {es : List DictEntry} (e : Ents fs es) : ∀ d ∈ es, ∃ n t, d.key = .str n t ∧ n ∈ fs.map (·.1) := by
  induction e with
  | nil => exact fun _ h => nomatch h
  | cons _ ih =>
    intro d hd
    rcases List.mem_cons.mp hd with rfl | hd
    · exact ⟨_, _, rfl, .head _⟩
    · obtain ⟨n, t, q, m⟩ := ih d hd
      exact ⟨n, t, q, .tail _ m⟩
theorem ents_uniq {fs : List (Str × Value)} {es : List DictEntry} (e : Ents fs es) (nd : (fs.map (·.1)).Nodup) : es.Pairwise fun a b => ∀ n, a.key.isStr n = true → b.key.isStr n = true → False := by
  induction e with
  | nil => exact .nil
  | @cons f' v' fs es h' t' r ih =>
    rw [List.map_cons, List.nodup_cons] at nd
    refine .cons (fun b hb n h1 h2 => ?_) (ih nd.2)
    obtain ⟨m, t, q, hm⟩ := ents_keys r b hb
    rw [q, isStr_str] at h2
    rw [isStr_str] at h1
    rw [beq_iff_eq] at h1 h2
    subst h1 h2
    exact nd.1 hm
theorem ents_ns1 {h : Heap} {dx : Addr} {fs : List (Str × Value)} {es : List DictEntry} {n : Nat} (e : Ents fs es) (nd : (fs.map (·.1)).Nodup) (g : h.get? dx = some (dictOf es n)) : h.Ns1 dx (fun y => fs.lookup y) := by
  refine ⟨_, es.toArray, n, g, rfl, fun d hd => ?_, by simpa [UniqKeys] using ents_uniq e nd, fun y => ?_⟩
  · obtain ⟨m, t, q, _⟩ := ents_keys e d (by simpa using hd)
    exact ⟨m, t, q⟩
  · show ((es.toArray.find? fun e => e.key.isStr y)).map (·.val) = _
    rw [List.find?_toArray]
    exact ents_find e y
section
variable {prog : Program} {w : World} {A : Around} {E : Value → Shared → Prop} {s : Shared} {K : Frag} {B newId initId : String} {bmB : List Value} {C fI x t0 g0 L a cc : Addr} {params : Arguments} {body : List Stmt} {scope : Scope} {ns : List (Str × NameKind)} {b0 b1 b2 b3 : Pos}
  {g : Heap} {m : Str → Option Value} {f qual : Str} {v cd : Value} {Q : Flow → Shared → Prop}
theorem ldX {y : Str} {p : Pos} {u : Value} {Q : Value → Shared → Prop} (hn : s.heap.Ns L m) (hu : m y = some u) (hl : ns.lookup y = some .local) (h : Q u s) (hd : (y == ("__debug__" : Str)) = false) :
    wpAny (model prog w) A (eval (.Name y p) (ksEnv qual (exSc ns) L a cd cc)) Q E s := wpAny_Name (wpAny_loadName_local (env := ksEnv qual (exSc ns) L a cd cc) rfl hl hn hu h) hd
/-- self.f = f, the first one -/
theorem ex_set0 (T : ExW prog K B newId initId bmB C params body scope fI) (no : findIn K (.ref C) f = some none) (F : Fr g L s.heap m) (Xg : K.In g) (N : News g L s.heap [(x, excObj C t0 none .none)])
    (hself : m "self" = some (.ref x)) (hf : m f = some v) (ls : ns.lookup ("self" : Str) = some .local) (lf : ns.lookup f = some .local) (hd : (f == ("__debug__" : Str)) = false)
    (h : ∀ dx h' tk es n, Fr g L h' m → Ents [(f, v)] es → News g L h' [(dx, dictOf es n), (x, excObj C t0 (some dx) .none)] → x < dx → Q .next { s with heap := h', toks := tk }) :
    wpAny (model prog w) A (exec (setSt f b0 b1 b2 b3) (ksEnv qual (exSc ns) L a cd cc)) Q E s := by
  refine plainObj_wpAny_Assign_Attribute (ldX F.ns hf lf (ldX F.ns hself ls ?_ (by decide)) hd)
  obtain ⟨e1, e2, _⟩ := ents_put Ents.nil (f := f) (by simp) (PyData.keyHash w.params f) (s.toks + 1) v
  refine set_exc0 (nw := fun o => [(x, o)]) T.base.st F Xg N (.head _) T.sa T.over (by unfold takerIn; rw [no]; rfl) T.hd (Prod.ext e1 rfl) (.head fun _ z => nomatch z) (by simp) fun dx h' F' N' lt => ?_
  exact h dx h' _ _ _ F' e2 N' (lt _ (.head _))
/-- self.f = f, a further one -/
theorem ex_setD {dx : Addr} {fs : List (Str × Value)} {es : List DictEntry} {n : Nat} (T : ExW prog K B newId initId bmB C params body scope fI) (no : findIn K (.ref C) f = some none) (F : Fr g L s.heap m) (Xg : K.In g) (N : News g L s.heap [(dx, dictOf es n), (x, excObj C t0 (some dx) .none)]) (lt : x < dx)
    (e : Ents fs es) (nf : f ∉ fs.map (·.1)) (sz : fs.length < 900) (hself : m "self" = some (.ref x)) (hf : m f = some v) (ls : ns.lookup ("self" : Str) = some .local) (lf : ns.lookup f = some .local) (hd : (f == ("__debug__" : Str)) = false)
    (h : ∀ h' tk es' n', Fr g L h' m → Ents (fs ++ [(f, v)]) es' → News g L h' [(dx, dictOf es' n'), (x, excObj C t0 (some dx) .none)] → Q .next { s with heap := h', toks := tk }) :
    wpAny (model prog w) A (exec (setSt f b0 b1 b2 b3) (ksEnv qual (exSc ns) L a cd cc)) Q E s := by
  refine plainObj_wpAny_Assign_Attribute (ldX F.ns hf lf (ldX F.ns hself ls ?_ (by decide)) hd)
  obtain ⟨e1, e2, e3⟩ := ents_put e nf (PyData.keyHash w.params f) (s.toks + 1) v
  refine set_excD T.base.st F Xg N (.tail _ (.head _)) T.sa T.over (by unfold takerIn; rw [no]; rfl) T.hd (.head _) e3 (Prod.ext e1 rfl) (.head fun p hp => ?_) (by rw [List.length_append, ents_len e]; simp; omega) fun h' F' N' => ?_
  · obtain rfl := List.mem_singleton.mp hp
    exact Nat.ne_of_lt lt
  · exact h h' _ _ _ F' e2 N'
end
section
open Builtin Builtin.ObjectAttr
/-! a call of such a class, also with keywords -/
section
variable {M : Model} {A : Around} {E : Value → Shared → Prop} {hp : Heap} {gs : Array GenState} {dr : Drawn} {tk : Nat} {os : OsState}
variable {nm q : Str} {C N : Addr} {bs bm bmB : List Value} {hdct : Bool} {sn : List Str} {sub : List Value} {ab : Bool} {col : Option Bool} {dd : Option Addr} {k0 k1 k2 k3 k5 : Option Value} {B newId initId : String}
theorem kw_check_new (F : ExcBaseFacts B newId initId bmB) (same : ∀ T : String, bm.contains (.type T) = bmB.contains (.type T)) {us : List Value} {kw : List (Str × Value)} {Q : Unit → Shared → Prop}
    (hC : hp.get? C = some (excClassObj nm q C N bs bm hdct sn sub ab col dd k0 k1 k2 k3 k5 newId)) (hq : Q () ⟨hp, gs, dr, tk, os⟩) : wpAny M A (checkBuiltinCall newId ⟨.ref C :: us, kw⟩) Q E ⟨hp, gs, dr, tk, os⟩ := by
  have isB : (Value.ref C :: bm).contains (.type B) = true := by rw [List.contains_cons, same, F.hasB, Bool.or_true]
  have z := F.noStar
  simp only [checkBuiltinCall, F.newKind, F.newSplit, F.newRow]
  repeat (first
    | refine wpAny_loadPart_at hC ?_
    | (refine wpAny_isSubtype_exc hC ?_; rw [isB])
    | refine wpAny_staticBase_exc hC ?_
    | refine wpAny_madeBy_exc hC ?_
    | simp only [bne_self_eq_false, Bool.false_eq_true, if_false]
    | wp_step)
  exact hq
end
section
variable {prog : Program} {w : World} {A : Around} {R : Result → Shared → Prop} {hp : Heap} {gs : Array GenState} {dr : Drawn} {tk : Nat} {os : OsState}
variable {nm q : Str} {C N fI : Addr} {bs bm bmB : List Value} {hdct : Bool} {sn : List Str} {sub : List Value} {ab : Bool} {col : Option Bool} {dd : Option Addr} {k0 k1 k2 k3 k5 : Option Value} {B newId initId : String} {us : List Value} {kw : List (Str × Value)} {K : Frag}
theorem kw_new (F : ExcBaseFacts B newId initId bmB) (same : ∀ T : String, bm.contains (.type T) = bmB.contains (.type T)) (hC : hp.get? C = some (excClassObj nm q C N bs bm hdct sn sub ab col dd k0 k1 k2 k3 k5 newId))
    (hq : R (.ok (.ret (.ref (hp.objs.size + 1)))) ⟨(hp.push (excTup us)).push (excObj C hp.objs.size none .none), gs, dr, tk, os⟩) (few : us.length ≤ sizeLine) :
    codeAny (model prog w) A (.builtin newId ⟨.ref C :: us, kw⟩) R ⟨hp, gs, dr, tk, os⟩ := by
  have z := F.ends
  have isB : (Value.ref C :: bm).contains (.type B) = true := by rw [List.contains_cons, same, F.hasB, Bool.or_true]
  have notA : (Value.ref C :: bm).contains (.type "AttributeError") = false := by rw [List.contains_cons, same, F.noAttr]; rfl
  have notN : (Value.ref C :: bm).contains (.type "NameError") = false := by rw [List.contains_cons, same, F.noName]; rfl
  refine codeAny_builtinAt F.entry ?_
  unfold Builtin.«BaseException.__new__»
  refine PySem.wpAt_bind ?_
  show PySem.wpAt _ _ _ (stack >>= _) _ _ _
  refine PySem.wpAt_bind (PySem.wpAt_stack fun p below => PySem.wpAt_of_wpAny ?_)
  wp_walk
  refine PySem.wpAt_of_wpAny ?_
  rw [F.owner]
  repeat (first
    | with_reducible refine wpAny_madeHere_exc F.canon hC ?_
    | with_reducible refine wpAny_loadPart_at hC ?_
    | (with_reducible refine wpAny_isSubtype_exc hC ?_; first | rw [isB] | rw [notA] | rw [notN])
    | wp_step)
  show R _ _
  rw [Heap.size_push]
  exact hq
theorem kw_call (F : ExcBaseFacts B newId initId bmB) (same : ∀ T : String, bm.contains (.type T) = bmB.contains (.type T)) (hC : hp.get? C = some (excClassObj nm q C N bs bm hdct sn sub ab col dd k0 k1 k2 k3 k5 newId))
    (call : Looks (model prog w) hp (specialOf (.ref C) "__call__") (some (.builtin "type.__call__"))) (typ : Looks (model prog w) hp (isInstance (.ref C) (.type "type")) true)
    (hi : Looks (model prog w) hp (typeLookup (.ref C) "__init__") (some (.ref fI))) (hb : ∀ self, Looks (model prog w) hp (bindSpecial (.ref fI) self) (.ref fI, [self])) (few : us.length ≤ sizeLine)
    (hq : codeAny (model prog w) (A.under (.builtin "type.__call__" ⟨.ref C :: us, kw⟩)) (.call (.ref fI) ⟨.ref (hp.objs.size + 1) :: us, kw⟩) (InitBack (hp.objs.size + 1) R) ⟨(hp.push (excTup us)).push (excObj C hp.objs.size none .none), gs, dr, tk, os⟩) :
    codeAny (model prog w) A (.call (.ref C) ⟨us, kw⟩) R ⟨hp, gs, dr, tk, os⟩ := by
  refine codeAny_of_tree ?_
  show wpAny _ _ (callAny (.ref C) _) _ _ _
  refine nd_load hC ?_
  show wpAny _ _ (callAny.viaDunder (.ref C) _) _ _ _
  unfold callAny.viaDunder
  refine wpAny_bind (call.at ?_)
  dsimp only
  rw [tc_bind]
  refine wpAny_bind (wpAny_pure (wpAny_bind (wpAny_pure ?_)))
  refine wpAny_pure (a := Fin.again (.call (.builtin "type.__call__") ⟨.ref C :: us, kw⟩)) (And.intro rfl ?_)
  refine codeAny_call_builtin_at (Code.quiet_builtin _ (by decide +kernel)) entry_typeCall (check_slot tc_kind tc_split typ (tc_args _ _ _) ?_)
  unfold Builtin.«type.__call__»
  repeat (first
    | with_reducible refine wpAny_loadPart_at hC ?_
    | with_reducible refine wpAny_madeBy_exc hC ?_
    | wp_step)
  refine codeAny_call_builtin_code (Code.quiet_builtin _ F.quiet) (kw_check_new F same hC ?_)
  refine kw_new F same hC ?_ few
  show wpAny _ _ _ _ _ _
  have k : ∀ b o, hp.get? b = some o → ((hp.push (excTup us)).push (excObj C hp.objs.size none .none)).get? b = some o := fun b o e => Heap.get?_push_of_some _ (Heap.get?_push_of_some _ e)
  have hC1 := k _ _ hC
  have he : ((hp.push (excTup us)).push (excObj C hp.objs.size none .none)).get? (hp.objs.size + 1) = some (excObj C hp.objs.size none .none) := by heap_get
  have self : (Value.ref C :: bm).contains (.ref C) = true := by simp
  have i1 := hi.keeps k
  have b1 := (hb (.ref (hp.objs.size + 1))).keeps k
  unfold isInstance
  repeat (first
    | with_reducible refine wpAny_loadPart_at he ?_
    | (with_reducible refine wpAny_isSubtype_exc hC1 ?_; rw [self])
    | wp_step)
  show wpAny _ _ (typeLookup (.ref C) _) _ _ _
  refine i1.at (wpAny_holding (wpAny_bind (b1.at ?_)))
  refine wpAny_bind (wpAny_call (codeAny_mono hq fun r s' z => ?_))
  cases r with
  | error e => exact z
  | ok fl =>
    cases fl with
    | ret v =>
      obtain ⟨rfl, z⟩ := z
      first
        | exact wpAny_pure (wpAny_pure z)
        | (wp_walk; exact z)
    | next => exact z.elim
    | brk => exact z.elim
    | cont => exact z.elim
end
end
/-- what is left of a made exception at e, whose own dict is at d -/
structure MadeE (h h' : Heap) (e C d : Addr) (fs : List (Str × Value)) : Prop where
  keep : ∀ b o, h.get? b = some o → h'.get? b = some o
  new : h.objs.size ≤ e
  obj : ∃ t, h'.get? e = some (excObj C t (some d) .none)
  dbig : h.objs.size ≤ d
  dne : d ≠ e
  ns : h'.Ns1 d (fun y => fs.lookup y)
abbrev exA1 (f : Str) (p0 p1 : Pos) : Arguments := { posonlyargs := [], args := [{ arg := "self", annotation := none, pos := p0 }, { arg := f, annotation := none, pos := p1 }], vararg := none, kwonlyargs := [], kw_defaults := [], kwarg := none, defaults := [] }
abbrev exN1 (f : Str) : List (Str × NameKind) := [(PySem.Str.ofString "self", .local), (f, .local), (PySem.Str.ofString "__class__", .free), (PySem.Str.ofString "super", .globalImplicit)]
abbrev exA2 (f f2 : Str) (p0 p1 p2 : Pos) : Arguments := { posonlyargs := [], args := [{ arg := "self", annotation := none, pos := p0 }, { arg := f, annotation := none, pos := p1 }, { arg := f2, annotation := none, pos := p2 }], vararg := none, kwonlyargs := [], kw_defaults := [], kwarg := none, defaults := [] }
abbrev exN2 (f f2 : Str) : List (Str × NameKind) := [(PySem.Str.ofString "self", .local), (f, .local), (f2, .local), (PySem.Str.ofString "__class__", .free), (PySem.Str.ofString "super", .globalImplicit)]
/-- a name of a field -/
def FieldN (f : Str) : Prop := f = "given" ∨ f = "index" ∨ f = "shown"
/-- the module, over a heap -/
structure ModH (K : Frag) (mg : Str → Option Value) (h : Heap) : Prop where
  X : K.In h
  lim : h.NoLimit
  G : h.Ns mainGlobals mg
  B : ∃ mb, h.Ns builtinsNs mb ∧ mb "super" = some (.type "super")
section
variable {prog : Program} {w : World} {A : Around} {R : Result → Shared → Prop} {s : Shared} {K : Frag} {mg : Str → Option Value} {B newId initId : String} {bmB : List Value} {C fI : Addr} {a0 a1 a2 a3 a4 b0 b1 b2 b3 c0 c1 c2 c3 p0 p1 p2 : Pos} {f f2 : Str} {v v2 : Value} {us : List Value} {kw : List (Str × Value)}
theorem ex_made1 (T : ExW prog K B newId initId bmB C (exA1 f p0 p1) [superSt a0 a1 a2 a3 a4, setSt f b0 b1 b2 b3] (exSc (exN1 f)) fI) (hf : FieldN f) (no : findIn K (.ref C) f = some none) (hsup : SupOk a0 a1 a2 a3) (M : ModH K mg s.heap) (hsg : mg "super" = none)
    (hroom : A.depth + 1 < recursionLimit) (hargs : (us = [v] ∧ kw = []) ∨ (us = [] ∧ kw = [(f, v)]))
    (hq : ∀ h' tk e d, MadeE s.heap h' e C d [(f, v)] → R (.ok (.ret (.ref e))) { s with heap := h', toks := tk }) : codeAny (model prog w) A (.call (.ref C) ⟨us, kw⟩) R s := by
  obtain ⟨nm, N, qn, bs, bm, hdct, sn, sub, ab, col, dd, k0, k1, k2, k3, k5, hC, same⟩ := excInit_of M.X T.made
  obtain ⟨hp, gs, dr, tk, os⟩ := s
  obtain ⟨mb, hB, hsb⟩ := M.B
  have few : us.length ≤ sizeLine := by
    rw [sizeLine_eq]
    rcases hargs with ⟨rfl, _⟩ | ⟨rfl, _⟩ <;> simp
  refine kw_call T.base.fb same hC (looks_specialIn M.X T.call) (looks_instIn M.X T.inT) (looks_findIn M.X T.iC) (fun self => bind_fn M.X self T.tI) few ?_
  have k : ∀ b o, hp.get? b = some o → ((hp.push (excTup us)).push (excObj C hp.objs.size none .none)).get? b = some o := fun b o e => Heap.get?_push_of_some _ (Heap.get?_push_of_some _ e)
  have he : ((hp.push (excTup us)).push (excObj C hp.objs.size none .none)).get? (hp.objs.size + 1) = some (excObj C hp.objs.size none .none) := by heap_get
  have old : ∀ b o, hp.get? b = some o → b ≠ hp.objs.size + 1 := fun b o e => Nat.ne_of_lt (Nat.lt_succ_of_lt (Heap.lt_size e))
  have hnx : K.lookup (hp.objs.size + 1) = none := by
    cases e : K.lookup (hp.objs.size + 1) with
    | none => rfl
    | some o => exact absurd rfl (old _ _ (M.X _ _ e))
  have hroom' : (A.under (.builtin "type.__call__" ⟨.ref C :: us, kw⟩)).depth < recursionLimit := hroom
  refine ex_enter (s := ⟨(hp.push (excTup us)).push (excObj C hp.objs.size none .none), gs, dr, tk, os⟩) (x := hp.objs.size + 1) (bs := [(f, v)]) T (M.X.keeps k) (M.lim.keeps k) he hnx hroom' hsup (M.G.keeps k) (hB.keeps k) hsg hsb ?_ rfl ?_ ?_ ?_ ?_ rfl ?_ fun g h' L t' tk' qual cda cc E F N Xg gk le => ?_
  · intro fd e1 e2 e3
    obtain ⟨n1, n2, n3, n4, n5, n6, n7, n8, n9, n10, n11, n12⟩ := fd
    dsimp only at e1 e2 e3
    subst e1 e2 e3
    rcases hf with rfl | rfl | rfl <;> rcases hargs with ⟨rfl, rfl⟩ | ⟨rfl, rfl⟩ <;> exact BindsTo.of_eq rfl
  · rcases hf with rfl | rfl | rfl <;> rfl
  · intro y hy
    rcases hf with rfl | rfl | rfl <;> (rcases List.mem_cons.mp hy with rfl | hy; rfl; (obtain rfl := List.mem_singleton.mp hy; rfl))
  · rcases hf with rfl | rfl | rfl <;> rfl
  · rcases hf with rfl | rfl | rfl <;> rfl
  · rcases hf with rfl | rfl | rfl <;> decide
  · refine wpAny_execs_cons (ex_set0 T no F Xg N (by rcases hf with rfl | rfl | rfl <;> rfl) (v := v) (by rcases hf with rfl | rfl | rfl <;> rfl) rfl (by rcases hf with rfl | rfl | rfl <;> rfl) (by rcases hf with rfl | rfl | rfl <;> rfl) fun dx h2 tk2 es n F2 en N2 lt => ?_)
    refine wpAny_execs_nil ⟨rfl, hq h2 tk2 (hp.objs.size + 1) dx ⟨fun b o e => F2.keep b o (gk b o (old b o e) (k b o e)), Nat.le_succ _, ⟨t', (N2 _ (.tail _ (.head _))).1⟩, Nat.le_of_lt (Nat.lt_trans (Nat.lt_succ_self _) lt), Nat.ne_of_gt lt, ?_⟩⟩
    exact ents_ns1 en (by simp) (N2 _ (.head _)).1
/-- the same of a class with two fields -/
theorem ex_made2 (T : ExW prog K B newId initId bmB C (exA2 f f2 p0 p1 p2) [superSt a0 a1 a2 a3 a4, setSt f b0 b1 b2 b3, setSt f2 c0 c1 c2 c3] (exSc (exN2 f f2)) fI) (hf : f = "index") (hf2 : f2 = "shown") (no : findIn K (.ref C) f = some none) (no2 : findIn K (.ref C) f2 = some none) (hsup : SupOk a0 a1 a2 a3) (M : ModH K mg s.heap) (hsg : mg "super" = none)
    (hroom : A.depth + 1 < recursionLimit) (hargs : (us = [v, v2] ∧ kw = []) ∨ (us = [] ∧ kw = [(f2, v2), (f, v)]))
    (hq : ∀ h' tk e d, MadeE s.heap h' e C d [(f, v), (f2, v2)] → R (.ok (.ret (.ref e))) { s with heap := h', toks := tk }) : codeAny (model prog w) A (.call (.ref C) ⟨us, kw⟩) R s := by
  subst hf hf2
  obtain ⟨nm, N, qn, bs, bm, hdct, sn, sub, ab, col, dd, k0, k1, k2, k3, k5, hC, same⟩ := excInit_of M.X T.made
  obtain ⟨hp, gs, dr, tk, os⟩ := s
  obtain ⟨mb, hB, hsb⟩ := M.B
  have few : us.length ≤ sizeLine := by
    rw [sizeLine_eq]
    rcases hargs with ⟨rfl, _⟩ | ⟨rfl, _⟩ <;> simp
  refine kw_call T.base.fb same hC (looks_specialIn M.X T.call) (looks_instIn M.X T.inT) (looks_findIn M.X T.iC) (fun self => bind_fn M.X self T.tI) few ?_
  have k : ∀ b o, hp.get? b = some o → ((hp.push (excTup us)).push (excObj C hp.objs.size none .none)).get? b = some o := fun b o e => Heap.get?_push_of_some _ (Heap.get?_push_of_some _ e)
  have he : ((hp.push (excTup us)).push (excObj C hp.objs.size none .none)).get? (hp.objs.size + 1) = some (excObj C hp.objs.size none .none) := by heap_get
  have old : ∀ b o, hp.get? b = some o → b ≠ hp.objs.size + 1 := fun b o e => Nat.ne_of_lt (Nat.lt_succ_of_lt (Heap.lt_size e))
  have hnx : K.lookup (hp.objs.size + 1) = none := by
    cases e : K.lookup (hp.objs.size + 1) with
    | none => rfl
    | some o => exact absurd rfl (old _ _ (M.X _ _ e))
  have hroom' : (A.under (.builtin "type.__call__" ⟨.ref C :: us, kw⟩)).depth < recursionLimit := hroom
  refine ex_enter (s := ⟨(hp.push (excTup us)).push (excObj C hp.objs.size none .none), gs, dr, tk, os⟩) (x := hp.objs.size + 1) (bs := [("index", v), ("shown", v2)]) T (M.X.keeps k) (M.lim.keeps k) he hnx hroom' hsup (M.G.keeps k) (hB.keeps k) hsg hsb ?_ rfl rfl ?_ rfl rfl rfl (by decide) fun g h' L t' tk' qual cda cc E F N Xg gk le => ?_
  · intro fd e1 e2 e3
    obtain ⟨n1, n2, n3, n4, n5, n6, n7, n8, n9, n10, n11, n12⟩ := fd
    dsimp only at e1 e2 e3
    subst e1 e2 e3
    rcases hargs with ⟨rfl, rfl⟩ | ⟨rfl, rfl⟩ <;> exact BindsTo.of_eq rfl
  · intro y hy
    rcases List.mem_cons.mp hy with rfl | hy
    · rfl
    rcases List.mem_cons.mp hy with rfl | hy
    · rfl
    obtain rfl := List.mem_singleton.mp hy
    rfl
  · refine wpAny_execs_cons (ex_set0 T no F Xg N rfl (v := v) rfl rfl rfl rfl fun dx h2 tk2 es n F2 en N2 lt => ?_)
    refine wpAny_execs_cons (ex_setD T no2 F2 Xg N2 lt en (show ("shown" : Str) ∉ (["index"] : List Str) by decide) (by simp) rfl (v := v2) rfl rfl rfl rfl fun h3 tk3 es3 n3 F3 en3 N3 => ?_)
    refine wpAny_execs_nil ⟨rfl, hq h3 tk3 (hp.objs.size + 1) dx ⟨fun b o e => F3.keep b o (gk b o (old b o e) (k b o e)), Nat.le_succ _, ⟨t', (N3 _ (.tail _ (.head _))).1⟩, Nat.le_of_lt (Nat.lt_trans (Nat.lt_succ_self _) lt), Nat.ne_of_gt lt, ?_⟩⟩
    exact ents_ns1 en3 (show (["index", "shown"] : List Str).Nodup by decide) (N3 _ (.head _)).1
end
end ZX

/-! Exceptions of the program as values: made, asked for their class, read. -/
namespace Z
open PySem PySem.Spec PyProof.Rows L2 ZX
/-- at a: an exception of the class at C, its own dict at d -/
def xo (a C : Addr) (d : Option Addr) : HO := .ext fun h => ∃ (o : Obj) (vs : Array Value), h.get? a = some o ∧ o.cls = .ref C ∧ o.dict = d ∧ o.data = .fields vs
theorem xo_ok {P : Program} {w : World} {H : Hp} {h : Heap} {a C : Addr} {d : Option Addr} {o : Obj} {vs : Array Value} (e : h.get? a = some o) (c : o.cls = .ref C) (hd : o.dict = d) (v : o.data = .fields vs) : ObjOk P w H h a (xo a C d) :=
  ⟨⟨o, vs, e, c, hd, v⟩, ⟨o, e⟩, fun _ _ ⟨o, v, q, r⟩ k => ⟨o, v, k o q, r⟩⟩
/-- what its instances ask of the class at C -/
structure ExK (K : PySem.W.Frag) (C : Addr) : Prop where
  isC : (PySem.W.clsIn K C).isSome = true
  ga : PySem.W.findIn K (.ref C) "__getattribute__" = some (some (.builtin "BaseException.__getattribute__"))
  gg : PySem.W.findIn K (.ref C) "__getattr__" = some none
  ex : PySem.W.subIn K (.ref C) (.type "BaseException") = some true
  cl : PySem.W.findIn K (.ref C) "__class__" = some (some (.builtin "object.__class__"))
  gs : PySem.W.specialIn K (.builtin "object.__class__") "__get__" = some (some (.builtin "getset_descriptor.__get__"))
  tk : PySem.W.takesIn K (.builtin "object.__class__") = some true
  ob : PySem.W.mroIn K C (.type "object") = some true
  hd : PySem.W.hasDictIn K C = true
/-- an exception of the class at C is tracked at a, its own dict at d -/
def StandX (H : Hp) (a C : Addr) (d : Option Addr) : Prop := ∃ φ : Heap → Prop, H a = some (.ext φ) ∧ ∀ h, φ h → ∃ (o : Obj) (vs : Array Value), h.get? a = some o ∧ o.cls = .ref C ∧ o.dict = d ∧ o.data = .fields vs
theorem StandX.of {H : Hp} {a C : Addr} {d : Option Addr} (e : H a = some (xo a C d)) : StandX H a C d := ⟨_, e, fun _ h => h⟩
/-- an exception stands at a, with its own dict's fields -/
def IsX (H : Hp) (a C : Addr) : Option (List (Str × V)) → Prop
  | none => StandX H a C none
  | some fs => ∃ d, StandX H a C (some d) ∧ H d = some (.xd fs)
theorem IsX.of0 {H : Hp} {a C : Addr} (e : H a = some (xo a C none)) : IsX H a C none := .of e
theorem IsX.of1 {H : Hp} {a C d : Addr} {fs : List (Str × V)} (e : H a = some (xo a C (some d))) (f : H d = some (.xd fs)) : IsX H a C (some fs) := ⟨d, .of e, f⟩
theorem IsX.at {X : Cx} {pins : List (Addr × Obj)} {σ : L2.St} {H : Hp} {s : Shared} {a C : Addr} {fs : Option (List (Str × V))} (I : Inv X pins σ H s) (x : IsX H a C fs) :
    ∃ ox od, PySem.W.InstAt s.heap a ox C od ∧ (∀ l, fs = some l → ∃ d, od = some d ∧ ∀ (f : Str) (v : V), l.lookup f = some v → ∃ u, PySem.W.lookIn f d = some (some u) ∧ RelV v u) := by
  cases fs with
  | none =>
    obtain ⟨φ, x, hφ⟩ := x
    obtain ⟨o, vs, e, c, hd, hv⟩ := hφ _ (I.hok a _ x).1
    obtain ⟨oc, odd, oda, osl⟩ := o
    dsimp only at c hd hv
    subst c hd hv
    exact ⟨_, none, ⟨e, rfl, rfl, trivial⟩, fun l z => nomatch z⟩
  | some fs =>
    obtain ⟨d, ⟨φ, x, hφ⟩, y⟩ := x
    obtain ⟨o, vs, e, c, hd, hv⟩ := hφ _ (I.hok a _ x).1
    have z : ObjOk X.prog X.w H s.heap d (.xd fs) := I.hok d _ y
    obtain ⟨mA, hns, hr⟩ := z
    obtain ⟨od, ho, hl⟩ := lookIn_ns hns
    obtain ⟨oc, odd, oda, osl⟩ := o
    dsimp only at c hd hv
    subst c hd hv
    refine ⟨_, some od, ⟨e, rfl, rfl, ho⟩, fun l q => ?_⟩
    cases q
    refine ⟨od, rfl, fun f v q => ?_⟩
    obtain ⟨u, hu, ru⟩ := RelO.some_of (v := v) (o := mA f) (by rw [← q]; exact hr f)
    exact ⟨u, by rw [hl, hu], ru⟩
/-- isinstance(e, c) -/
def rIsX (K : PySem.W.Frag) : List V → Hp → VK → Prop := fun xs H Q => ∃ (a C : Addr) (fs : Option (List (Str × V))) (c : V) (u : Value) (b : Bool), xs = [.ref a, c] ∧ IsX H a C fs ∧ ExK K C ∧ ClsV c u ∧ PySem.W.kitOne K (.ref C) u = some b ∧ Q (.bl b) H
theorem call_isX {X : Cx} : CallR X (.builtin "isinstance") (rIsX X.K) := by
  intro pins s σ H xs us Q I r h
  obtain ⟨a, C, fs, c, u, b, rfl, hx, T, hc, e, q⟩ := h
  obtain ⟨u1, u2, rfl, r1, r2⟩ := vals2 r
  cases r1
  have e2 := hc.eq r2
  subst e2
  obtain ⟨ox, od, J, _⟩ := hx.at I
  exact PySem.W.kia_one (PySem.W.kitx_exc (od := od) (ox := ox) T.isC T.ga T.gg T.ex T.cl T.gs T.tk T.ob) I.kIn J e (fun z => nomatch z) fun tk => ⟨.bl b, H, I.tok tk, rfl, q⟩
/-- e.f -/
def tXo (K : PySem.W.Frag) (f : Str) (te : TE) : TE := fun σ H Q => te σ H fun x H1 => ∃ (a C : Addr) (fs : List (Str × V)) (v : V), x = .ref a ∧ IsX H1 a C (some fs) ∧ ExK K C ∧ PySem.W.findIn K (.ref C) f = some none ∧ fs.lookup f = some v ∧ Q v H1
theorem pe_xo {X : Cx} {e : Expr} {te : TE} {pos : Pos} {f : Str} (he : PE X e te) (hb : attributeBase e f X.env (eval e X.env) = eval e X.env := by rfl) : PE X (.Attribute e f pos) (tXo X.K f te) := by
  refine ⟨fun pins s σ H Q I h => ?_⟩
  refine attr_of hb (thn (he.run pins s σ H _ I h) fun u s1 hh => ?_)
  obtain ⟨x, H1, I1, rx, a, C, fs, v, rfl, hx, T, no, l, q⟩ := hh
  obtain rfl : u = Value.ref a := rx
  obtain ⟨ox, od, J, hl⟩ := hx.at I1
  obtain ⟨d, rfl, hl2⟩ := hl _ rfl
  obtain ⟨u, hu, ru⟩ := hl2 f v l
  exact HandSPX.exc_get I1.kIn J T.ga T.gg T.ex (PySem.W.findObj_own T.hd no rfl hu) (handed_of ru) ⟨v, H1, I1.tok _, ru, q⟩
/-- a class of the program whose __init__ stores one thing -/
structure ExM (P : Program) (K : PySem.W.Frag) (mg : Str → Option Value) (x f : Str) : Prop where
  at_ : mg x = some (.ref (clsA mg x))
  sup : mg "super" = none
  kp : PySem.W.keepIn K (.ref (clsA mg x)) = true
  k : ExK K (clsA mg x)
  ty : PySem.W.typeIn K (.ref (clsA mg x)) = some (.type "type")
  fn : FieldN f
  no : PySem.W.findIn K (.ref (clsA mg x)) f = some none
  made : ∃ (B newId initId : String) (bmB : List Value) (fI : Addr) (a0 a1 a2 a3 a4 b0 b1 b2 b3 p0 p1 : Pos), ExW P K B newId initId bmB (clsA mg x) (exA1 f p0 p1) [superSt a0 a1 a2 a3 a4, setSt f b0 b1 b2 b3] (exSc (exN1 f)) fI ∧ SupOk a0 a1 a2 a3
/-- two things -/
structure ExM2 (P : Program) (K : PySem.W.Frag) (mg : Str → Option Value) (x : Str) : Prop where
  at_ : mg x = some (.ref (clsA mg x))
  sup : mg "super" = none
  kp : PySem.W.keepIn K (.ref (clsA mg x)) = true
  k : ExK K (clsA mg x)
  ty : PySem.W.typeIn K (.ref (clsA mg x)) = some (.type "type")
  no : PySem.W.findIn K (.ref (clsA mg x)) "index" = some none
  no2 : PySem.W.findIn K (.ref (clsA mg x)) "shown" = some none
  made : ∃ (B newId initId : String) (bmB : List Value) (fI : Addr) (a0 a1 a2 a3 a4 b0 b1 b2 b3 c0 c1 c2 c3 p0 p1 p2 : Pos), ExW P K B newId initId bmB (clsA mg x) (exA2 "index" "shown" p0 p1 p2) [superSt a0 a1 a2 a3 a4, setSt "index" b0 b1 b2 b3, setSt "shown" c0 c1 c2 c3] (exSc (exN2 "index" "shown")) fI ∧ SupOk a0 a1 a2 a3
/-- none, without an __init__ of its own -/
structure ExM0 (K : PySem.W.Frag) (mg : Str → Option Value) (x : Str) : Prop where
  at_ : mg x = some (.ref (clsA mg x))
  kp : PySem.W.keepIn K (.ref (clsA mg x)) = true
  k : ExK K (clsA mg x)
  ty : PySem.W.typeIn K (.ref (clsA mg x)) = some (.type "type")
  made : ∃ (B newId initId : String) (bmB : List Value), ExcBaseFacts B newId initId bmB ∧ PySem.W.excIn K (clsA mg x) bmB newId = true
section
variable {X : Cx} {pins : List (Addr × Obj)} {σ : L2.St} {H : Hp} {s : Shared}
theorem modH (I : Inv X pins σ H s) : ModH X.K X.mg s.heap := by
  obtain ⟨mb, hB, hb⟩ := I.ok.mod.blt
  exact ⟨I.kIn, I.nolimit, I.ok.mod.glob.keeps I.bk, mb, hB.keeps I.bk, (hb "super" (by decide)).trans (by first | rfl | kernel_rfl)⟩
/-- a new exception is tracked -/
theorem Inv.newX {h' : Heap} {a C d : Addr} {fs : List (Str × Value)} {vs : List (Str × V)} {tk : Tok} (I : Inv X pins σ H s) (M : MadeE s.heap h' a C d fs) (r : ∀ f, RelO (vs.lookup f) (fs.lookup f)) :
    H a = none ∧ H d = none ∧ d ≠ a ∧ Inv X pins σ (upd (upd H d (.xd vs)) a (xo a C (some d))) { s with heap := h', toks := tk } := by
  have na : H a = none := I.hok.fresh M.new
  have nd : H d = none := I.hok.fresh M.dbig
  refine ⟨na, nd, M.dne, ?_⟩
  obtain ⟨G, g1, g2⟩ := restrict h' fun b => decide (b ≠ a)
  have gk : ∀ b, b ≠ a → G.get? b = h'.get? b := fun b hb => g1 b (decide_eq_true hb)
  have ge : G.get? a = none := g2 a (by simp)
  have old : ∀ b o, s.heap.get? b = some o → G.get? b = some o := fun b o q => (gk b (Nat.ne_of_lt (Nat.lt_of_lt_of_le (Heap.lt_size q) M.new))).trans (M.keep b o q)
  have J : Inv X pins σ (upd H d (.xd vs)) { s with heap := G, toks := tk } := I.laid (t' := tk) old M.dbig ⟨_, M.ns.at fun o q => (gk d M.dne).trans q, r⟩
  obtain ⟨t, ho⟩ := M.obj
  refine J.laidN (t' := tk) (fun b o q => ?_) ge (by rw [upd_ne (Ne.symm M.dne)]; exact na) (xo_ok ho rfl rfl rfl)
  by_cases hb : b = a
  · rw [hb] at q
    exact absurd (ge.symm.trans q) (by simp)
  · exact (gk b hb).symm.trans q
variable {x f : Str} {Q : VK}
theorem relO1 {v : V} {u : Value} (r : RelV v u) (g : Str) : RelO (List.lookup g [(f, v)]) (List.lookup g [(f, u)]) := by
  cases h : g == f with
  | true => simpa [List.lookup, h] using (show RelO (some v) (some u) from r)
  | false => simp [List.lookup, h, RelO]
theorem relO2 {v v2 : V} {u u2 : Value} {f2 : Str} (r : RelV v u) (r2 : RelV v2 u2) (g : Str) : RelO (List.lookup g [(f, v), (f2, v2)]) (List.lookup g [(f, u), (f2, u2)]) := by
  cases h : g == f with
  | true => simpa [List.lookup, h] using (show RelO (some v) (some u) from r)
  | false =>
    cases h2 : g == f2 with
    | true => simpa [List.lookup, h, h2] using (show RelO (some v2) (some u2) from r2)
    | false => simp [List.lookup, h, h2, RelO]
theorem run_ex1 {v : V} {u : Value} {us : List Value} {kw : List (Str × Value)} (I : Inv X pins σ H s) (T : ExM X.prog X.K X.mg x f) (hroom : X.A.depth + 2 < recursionLimit) (r : RelV v u) (ha : (us = [u] ∧ kw = []) ∨ (us = [] ∧ kw = [(f, u)]))
    (h : ∀ a d, H a = none → H d = none → d ≠ a → Q (.ref a) (upd (upd H d (.xd [(f, v)])) a (xo a (clsA X.mg x) (some d)))) : wpAny (model X.prog X.w) X.A (call (.ref (clsA X.mg x)) us kw) (EP X pins σ Q) X.xe s := by
  obtain ⟨B, newId, initId, bmB, fI, a0, a1, a2, a3, a4, b0, b1, b2, b3, p0, p1, W, hs⟩ := T.made
  refine wpAny_call (ex_made1 W T.fn T.no hs (modH I) T.sup (by omega) ha fun h' tk e d M => ?_)
  obtain ⟨n1, n2, n3, J⟩ := Inv.newX (tk := tk) I M (relO1 r)
  exact ⟨.ref e, _, J, rfl, h e d n1 n2 n3⟩
theorem run_ex2 {v v2 : V} {u u2 : Value} {us : List Value} {kw : List (Str × Value)} (I : Inv X pins σ H s) (T : ExM2 X.prog X.K X.mg x) (hroom : X.A.depth + 2 < recursionLimit) (r : RelV v u) (r2 : RelV v2 u2) (ha : (us = [u, u2] ∧ kw = []) ∨ (us = [] ∧ kw = [(("shown" : Str), u2), (("index" : Str), u)]))
    (h : ∀ a d, H a = none → H d = none → d ≠ a → Q (.ref a) (upd (upd H d (.xd [("index", v), ("shown", v2)])) a (xo a (clsA X.mg x) (some d)))) : wpAny (model X.prog X.w) X.A (call (.ref (clsA X.mg x)) us kw) (EP X pins σ Q) X.xe s := by
  obtain ⟨B, newId, initId, bmB, fI, a0, a1, a2, a3, a4, b0, b1, b2, b3, c0, c1, c2, c3, p0, p1, p2, W, hs⟩ := T.made
  refine wpAny_call (ex_made2 W rfl rfl T.no T.no2 hs (modH I) T.sup (by omega) ha fun h' tk e d M => ?_)
  obtain ⟨n1, n2, n3, J⟩ := Inv.newX (tk := tk) I M (relO2 r r2)
  exact ⟨.ref e, _, J, rfl, h e d n1 n2 n3⟩
end
section
variable {X : Cx} {x f : Str} {p pos : Pos} {e e2 : Expr} {ta : TA} {kws : List Keyword}
/-- X(e), X(f = e): a new exception -/
def tX1 (mg : Str → Option Value) (x f : Str) (ta : TA) : TE := fun σ H Q => ta σ H fun vs H1 => ∃ v, vs = [v] ∧ ∀ a d, H1 a = none → H1 d = none → d ≠ a → Q (.ref a) (upd (upd H1 d (.xd [(f, v)])) a (xo a (clsA mg x) (some d)))
def tX2 (mg : Str → Option Value) (x : Str) (ta : TA) : TE := fun σ H Q => ta σ H fun vs H1 => ∃ v v2, vs = [v, v2] ∧ ∀ a d, H1 a = none → H1 d = none → d ≠ a → Q (.ref a) (upd (upd H1 d (.xd [("index", v), ("shown", v2)])) a (xo a (clsA mg x) (some d)))
def tX2k (mg : Str → Option Value) (x : Str) (ta : TA) : TE := fun σ H Q => ta σ H fun vs H1 => ∃ v v2, vs = [v2, v] ∧ ∀ a d, H1 a = none → H1 d = none → d ≠ a → Q (.ref a) (upd (upd H1 d (.xd [("index", v), ("shown", v2)])) a (xo a (clsA mg x) (some d)))
theorem pe_x1 (T : ExM X.prog X.K X.mg x f) (hr : Room 2 X.A) (ha : PA X [e] ta) (hg : Gl X x := by rfl) (hdb : (x == ("__debug__" : Str)) = false := by decide)
    (he : starEach [e] X.env = (false, eval e X.env) :: starEach [] X.env := by rfl) (hpl : (backTo pos (starEach [] X.env)).any (·.1) = false := by rfl) : PE X (.Call (.Name x p) [e] [] pos) (tX1 X.mg x f ta) := by
  refine ⟨fun pins s σ H Q I h => wpAny_Call_Name_kw (ld_glob I hg T.at_ ?_ hdb)⟩
  refine PySem.W.callWith_K (h₀ := X.base) I.ok.mod.kin T.kp (thn (ha.run pos pins s σ H _ I h) fun us s1 ⟨vs, H1, I1, r1, v, ev, q1⟩ => ⟨I1.kIn, ?_⟩) he hpl
  subst ev
  cases r1 with
  | cons rv rn =>
    cases rn
    exact run_ex1 I1 T (by have := hr.dp; omega) rv (.inl ⟨rfl, rfl⟩) q1
theorem pe_x2 (T : ExM2 X.prog X.K X.mg x) (hr : Room 2 X.A) (ha : PA X [e, e2] ta) (hg : Gl X x := by rfl) (hdb : (x == ("__debug__" : Str)) = false := by decide)
    (he : starEach [e, e2] X.env = (false, eval e X.env) :: starEach [e2] X.env := by rfl) (hpl : (backTo pos (starEach [e2] X.env)).any (·.1) = false := by rfl) : PE X (.Call (.Name x p) [e, e2] [] pos) (tX2 X.mg x ta) := by
  refine ⟨fun pins s σ H Q I h => wpAny_Call_Name_kw (ld_glob I hg T.at_ ?_ hdb)⟩
  refine PySem.W.callWith_K (h₀ := X.base) I.ok.mod.kin T.kp (thn (ha.run pos pins s σ H _ I h) fun us s1 ⟨vs, H1, I1, r1, v, v2, ev, q1⟩ => ⟨I1.kIn, ?_⟩) he hpl
  subst ev
  cases r1 with
  | cons rv rn =>
    cases rn with
    | cons rw rn =>
      cases rn
      exact run_ex2 I1 T (by have := hr.dp; omega) rv rw (.inl ⟨rfl, rfl⟩) q1
theorem pe_x1k (T : ExM X.prog X.K X.mg x f) (hr : Room 2 X.A) (ha : PK X kws ta) (hg : Gl X x := by rfl) (hdb : (x == ("__debug__" : Str)) = false := by decide)
    (hall : (backToKw pos (keywordEach kws X.env)).all (·.1.isSome) = true := by rfl) (hks : (backToKw pos (keywordEach kws X.env)).filterMap (·.1) = [f] := by rfl)
    (hpl : ((backTo pos (starEach [] X.env)).any (·.1) || (backToKw pos (keywordEach kws X.env)).any (·.1.isNone)) = false := by rfl) : PE X (.Call (.Name x p) [] kws pos) (tX1 X.mg x f ta) := by
  refine ⟨fun pins s σ H Q I h => wpAny_Call_Name_kw (ld_glob I hg T.at_ ?_ hdb)⟩
  refine PySem.W.callWith_KW0 (h₀ := X.base) I.ok.mod.kin T.kp hall (thn (ha.run pos pins s σ H _ I h) fun us s1 ⟨vs, H1, I1, r1, v, ev, q1⟩ => ⟨I1.kIn, ?_⟩) hpl
  rw [hks]
  subst ev
  cases r1 with
  | cons rv rn =>
    cases rn
    exact run_ex1 I1 T (by have := hr.dp; omega) rv (.inr ⟨rfl, rfl⟩) q1
theorem pe_x2k (T : ExM2 X.prog X.K X.mg x) (hr : Room 2 X.A) (ha : PK X kws ta) (hg : Gl X x := by rfl) (hdb : (x == ("__debug__" : Str)) = false := by decide)
    (hall : (backToKw pos (keywordEach kws X.env)).all (·.1.isSome) = true := by rfl) (hks : (backToKw pos (keywordEach kws X.env)).filterMap (·.1) = [("shown" : Str), ("index" : Str)] := by rfl)
    (hpl : ((backTo pos (starEach [] X.env)).any (·.1) || (backToKw pos (keywordEach kws X.env)).any (·.1.isNone)) = false := by rfl) : PE X (.Call (.Name x p) [] kws pos) (tX2k X.mg x ta) := by
  refine ⟨fun pins s σ H Q I h => wpAny_Call_Name_kw (ld_glob I hg T.at_ ?_ hdb)⟩
  refine PySem.W.callWith_KW0 (h₀ := X.base) I.ok.mod.kin T.kp hall (thn (ha.run pos pins s σ H _ I h) fun us s1 ⟨vs, H1, I1, r1, v, v2, ev, q1⟩ => ⟨I1.kIn, ?_⟩) hpl
  rw [hks]
  subst ev
  cases r1 with
  | cons rv rn =>
    cases rn with
    | cons rw rn =>
      cases rn
      exact run_ex2 I1 T (by have := hr.dp; omega) rw rv (.inr ⟨rfl, rfl⟩) q1
/-- X(), no own __init__ -/
def tX0 (mg : Str → Option Value) (x : Str) : TE := fun σ H Q => ∀ a, H a = none → Q (.ref a) (upd H a (xo a (clsA mg x) none))
theorem pe_x0 (T : ExM0 X.K X.mg x) (hg : Gl X x := by rfl) (hdb : (x == ("__debug__" : Str)) = false := by decide) : PE X (.Call (.Name x p) [] [] pos) (tX0 X.mg x) := by
  refine ⟨fun pins s σ H Q I h => wpAny_Call_Name_kw (ld_glob I hg T.at_ ?_ hdb)⟩
  refine PySem.W.callWith_K0 I.kIn T.kp ?_
  obtain ⟨B, newId, initId, bmB, F, q⟩ := T.made
  obtain ⟨bm, N, nm, qn, bs, hdct, sn, sub, ab, col, dd, k0, k1, k2, k3, k5, mN, hC, hN, hni, W⟩ := exc_obj I.kIn q
  refine wpAny_call_exc_subT F W hC hN hni (fun h' a hm => ?_) (by show 0 ≤ sizeLine; omega)
  have hn : H a = none := I.hok.gone hm.new
  obtain ⟨t, ht, _, _⟩ := hm.there
  exact ⟨.ref a, upd H a (xo a (clsA X.mg x) none), I.laidN hm.keeps hm.new hn (xo_ok ht rfl rfl rfl), rfl, h a hn⟩
end
/-! ### a class of exceptions by one look at the written part -/
def exKB (K : PySem.W.Frag) (C : Addr) : Bool := (PySem.W.clsIn K C).isSome && decide (PySem.W.findIn K (.ref C) "__getattribute__" = some (some (.builtin "BaseException.__getattribute__"))) && decide (PySem.W.findIn K (.ref C) "__getattr__" = some none) &&
  decide (PySem.W.subIn K (.ref C) (.type "BaseException") = some true) && decide (PySem.W.findIn K (.ref C) "__class__" = some (some (.builtin "object.__class__"))) &&
  decide (PySem.W.specialIn K (.builtin "object.__class__") "__get__" = some (some (.builtin "getset_descriptor.__get__"))) && decide (PySem.W.takesIn K (.builtin "object.__class__") = some true) && decide (PySem.W.mroIn K C (.type "object") = some true) && PySem.W.hasDictIn K C &&
  PySem.W.keepIn K (.ref C) && decide (PySem.W.typeIn K (.ref C) = some (.type "type"))
theorem exK_of {K : PySem.W.Frag} {C : Addr} (h : exKB K C = true) : ExK K C ∧ PySem.W.keepIn K (.ref C) = true ∧ PySem.W.typeIn K (.ref C) = some (.type "type") := by
  simp only [exKB, Bool.and_eq_true, decide_eq_true_eq] at h
  obtain ⟨⟨⟨⟨⟨⟨⟨⟨⟨⟨h1, h2⟩, h3⟩, h4⟩, h5⟩, h6⟩, h7⟩, h8⟩, h9⟩, h10⟩, h11⟩ := h
  exact ⟨⟨h1, h2, h3, h4, h5, h6, h7, h8, h9⟩, h10, h11⟩
/-- the file that a code object tells -/
def codeFile (K : PySem.W.Frag) (cda : Addr) (file : Str) : Bool := match K.lookup cda with
  | some ⟨_, _, .fields vs, _⟩ => (match (vs[2]? : Option Value) with
    | some (Value.str f _) => file == f
    | _ => false)
  | _ => false
theorem codeFile_of {K : PySem.W.Frag} {cda : Addr} {file : Str} (h : codeFile K cda file = true) : ∃ (c : Value) (d : Option Addr) (vs : Array Value) (sl : Array (Option Value)) (f : Str) (t : Tok), K.lookup cda = some ⟨c, d, .fields vs, sl⟩ ∧ vs[2]? = some (.str f t) ∧ (file == f) = true := by
  unfold codeFile at h
  split at h
  · rename_i c d vs sl e
    split at h
    · rename_i f t e2
      exact ⟨c, d, vs, sl, f, t, e, e2, h⟩
    · cases h
  · cases h
def cellOf (K : PySem.W.Frag) (cc C : Addr) : Bool := match K.lookup cc with
  | some ⟨_, _, .cell (some v), _⟩ => decide (v = .ref C)
  | _ => false
theorem cellOf_of {K : PySem.W.Frag} {cc C : Addr} (h : cellOf K cc C = true) : ∃ (c : Value) (d : Option Addr) (sl : Array (Option Value)), K.lookup cc = some ⟨c, d, .cell (some (.ref C)), sl⟩ := by
  unfold cellOf at h
  split at h
  · rename_i c d v sl e
    have z : v = .ref C := of_decide_eq_true h
    rw [z] at e
    exact ⟨c, d, sl, e⟩
  · cases h
def exB (P : Program) (K : PySem.W.Frag) (B newId initId : String) (bmB : List Value) (C fI cda cc : Addr) (qual : Str) (fs : List Str) : Bool := exKB K C && (PySem.W.excInitIn K C bmB newId && PySem.W.excOver K C bmB && decide (PySem.W.findIn K (.ref C) "__init__" = some (some (.ref fI))) &&
  decide (PySem.W.typeIn K (.ref fI) = some (.type "function")) && PySem.W.codeIn K (.ref cda) qual && codeFile K cda P.main.file && cellOf K cc C && decide (PySem.W.mroIn K C (.ref C) = some true) && decide (PySem.W.ks_superIn K C C "__init__" = some (some (.builtin initId))) &&
  decide (PySem.W.specialIn K (.ref C) "__call__" = some (some (.builtin "type.__call__"))) && decide (PySem.W.instIn K (.ref C) (.type "type") = some true) && decide (PySem.W.subIn K (.ref C) (.type B) = some true) && !(P.main.scope.names.lookup ("super" : Str)).isSome &&
  decide (PySem.W.nsIn K cStatics "thirdparty.any" = some none) && decide (PySem.W.findIn K (.ref C) "__setattr__" = some (some (.builtin "object.__setattr__"))) && fs.all fun f => decide (PySem.W.findIn K (.ref C) f = some none))
section
variable {P : Program} {K : PySem.W.Frag} {h : Heap} {mg : Str → Option Value} {B newId initId : String} {bmB : List Value} {C fI cda cc : Addr} {qual x f : Str} {fs : List Str} {oc kV doc pm ct : Value} {od an : Option Addr} {osl : Array (Option Value)} {params : Arguments} {body : List Stmt} {scope : Scope}
theorem exW_of (W : BaseW B newId initId bmB) (l : K.lookup fI = some ⟨oc, od, .func (PySem.W.ksFn "__init__" qual params body scope .none kV doc pm an (.ref cda) ct cc), osl⟩) (b : exB P K B newId initId bmB C fI cda cc qual fs = true) :
    ExK K C ∧ PySem.W.keepIn K (.ref C) = true ∧ PySem.W.typeIn K (.ref C) = some (.type "type") ∧ ExW P K B newId initId bmB C params body scope fI ∧ ∀ f ∈ fs, PySem.W.findIn K (.ref C) f = some none := by
  simp only [exB, Bool.and_eq_true, decide_eq_true_eq, Bool.not_eq_true', List.all_eq_true] at b
  obtain ⟨b0, ⟨⟨⟨⟨⟨⟨⟨⟨⟨⟨⟨⟨⟨⟨b1, b2⟩, b3⟩, b4⟩, b5⟩, b6⟩, b7⟩, b8⟩, b9⟩, b10⟩, b11⟩, b12⟩, b13⟩, b14⟩, b15⟩, b16⟩ := b
  obtain ⟨k, kp, ty⟩ := exK_of b0
  obtain ⟨c, d, vs, sl, f, t, e1, e2, e3⟩ := codeFile_of b6
  obtain ⟨c', d', sl', e4⟩ := cellOf_of b7
  exact ⟨k, kp, ty, ⟨W, b1, b2, b3, b4, ⟨oc, od, qual, kV, doc, pm, an, ct, osl, cc, cda, c, d, vs, sl, f, t, c', d', sl', l, b5, e1, e2, e3, e4⟩, b8, b9, b10, b11, b12, b13, b14, b15, k.hd⟩, b16⟩
theorem ExM.of {p0 p1 a0 a1 a2 a3 a4 b0 b1 b2 b3 : Pos} (X : K.In h) (G : h.Ns mainGlobals mg) (W : BaseW B newId initId bmB) (a : PySem.W.nsIn K mainGlobals x = some (some (.ref C))) (z : mg "super" = none) (hf : FieldN f)
    (l : K.lookup fI = some ⟨oc, od, .func (PySem.W.ksFn "__init__" qual (exA1 f p0 p1) [superSt a0 a1 a2 a3 a4, setSt f b0 b1 b2 b3] (exSc (exN1 f)) .none kV doc pm an (.ref cda) ct cc), osl⟩) (s : SupOk a0 a1 a2 a3) (b : exB P K B newId initId bmB C fI cda cc qual [f] = true) : ExM P K mg x f := by
  have m := PySem.W.mg_of X G a
  have e := clsA_of m
  obtain ⟨k, kp, ty, w, no⟩ := exW_of W l b
  exact ⟨by rw [e]; exact m, z, by rw [e]; exact kp, by rw [e]; exact k, by rw [e]; exact ty, hf, by rw [e]; exact no f (.head _), ⟨B, newId, initId, bmB, fI, a0, a1, a2, a3, a4, b0, b1, b2, b3, p0, p1, by rw [e]; exact w, s⟩⟩
theorem ExM2.of {p0 p1 p2 a0 a1 a2 a3 a4 b0 b1 b2 b3 c0 c1 c2 c3 : Pos} (X : K.In h) (G : h.Ns mainGlobals mg) (W : BaseW B newId initId bmB) (a : PySem.W.nsIn K mainGlobals x = some (some (.ref C))) (z : mg "super" = none)
    (l : K.lookup fI = some ⟨oc, od, .func (PySem.W.ksFn "__init__" qual (exA2 "index" "shown" p0 p1 p2) [superSt a0 a1 a2 a3 a4, setSt "index" b0 b1 b2 b3, setSt "shown" c0 c1 c2 c3] (exSc (exN2 "index" "shown")) .none kV doc pm an (.ref cda) ct cc), osl⟩) (s : SupOk a0 a1 a2 a3)
    (b : exB P K B newId initId bmB C fI cda cc qual ["index", "shown"] = true) : ExM2 P K mg x := by
  have m := PySem.W.mg_of X G a
  have e := clsA_of m
  obtain ⟨k, kp, ty, w, no⟩ := exW_of W l b
  exact ⟨by rw [e]; exact m, z, by rw [e]; exact kp, by rw [e]; exact k, by rw [e]; exact ty, by rw [e]; exact no _ (.head _), by rw [e]; exact no _ (.tail _ (.head _)), ⟨B, newId, initId, bmB, fI, a0, a1, a2, a3, a4, b0, b1, b2, b3, c0, c1, c2, c3, p0, p1, p2, by rw [e]; exact w, s⟩⟩
theorem ExM0.of (X : K.In h) (G : h.Ns mainGlobals mg) (W : BaseW B newId initId bmB) (a : PySem.W.nsIn K mainGlobals x = some (some (.ref C))) (b : (exKB K C && PySem.W.excIn K C bmB newId) = true) : ExM0 K mg x := by
  have m := PySem.W.mg_of X G a
  have e := clsA_of m
  obtain ⟨b1, b2⟩ := Bool.and_eq_true_iff.mp b
  obtain ⟨k, kp, ty⟩ := exK_of b1
  exact ⟨by rw [e]; exact m, by rw [e]; exact kp, by rw [e]; exact k, by rw [e]; exact ty, B, newId, initId, bmB, W.fb, by rw [e]; exact b2⟩
end
/-! ### which class is under which -/
/-- of each of cs: whether it is under each of ds -/
def kitTab (K : PySem.W.Frag) (cs ds : List Value) : List (List (Option Bool)) := cs.map fun c => ds.map fun d => PySem.W.kitOne K c d
theorem kitTab_at {K : PySem.W.Frag} {cs ds : List Value} {t : List (List (Option Bool))} (h : kitTab K cs ds = t) {i j : Nat} {c d : Value} {r : List (Option Bool)} {b : Option Bool} (hc : cs[i]? = some c) (hd : ds[j]? = some d) (ht : t[i]? = some r) (hr : r[j]? = some b) : PySem.W.kitOne K c d = b := by
  rw [← h] at ht
  unfold kitTab at ht
  rw [List.getElem?_map, hc] at ht
  have e := Option.some.inj ht
  rw [← e, List.getElem?_map, hd] at hr
  exact Option.some.inj hr
theorem isX_of {K : PySem.W.Frag} {H : Hp} {Q : VK} {a C : Addr} {fs : Option (List (Str × V))} {c : V} {u : Value} {b : Bool} (hx : IsX H a C fs) (k : ExK K C) (hc : ClsV c u) (e : PySem.W.kitOne K (.ref C) u = some b) (q : Q (.bl b) H) : rIsX K [.ref a, c] H Q := ⟨a, C, fs, c, u, b, rfl, hx, k, hc, e, q⟩
theorem IsX.same {H H' : Hp} {a C : Addr} {fs : Option (List (Str × V))} (x : IsX H a C fs) (s : Same H H') : IsX H' a C fs := by
  cases fs with
  | none =>
    obtain ⟨φ, x, hφ⟩ := x
    exact ⟨φ, s _ _ x, hφ⟩
  | some l =>
    obtain ⟨d, ⟨φ, x, hφ⟩, y⟩ := x
    exact ⟨d, ⟨φ, s _ _ x, hφ⟩, s _ _ y⟩
end Z

/-! repr of data of any kind: also with dicts of texts and ints in it. -/
namespace Z
open PySem PySem.Spec PyProof.Rows L2
mutual
/-- a value's data; dicts of texts and ints among it -/
inductive Dx (H : Hp) : V → PyData → Prop
  | non : Dx H .non .none
  | bl (b : Bool) : Dx H (.bl b) (.bool b)
  | int (i : Int) : Dx H (.int i) (.int i)
  | str (x : Str) : Dx H (.str x) (.str x)
  | lst {a : Addr} {xs : List V} {ds : List PyData} : H a = some (.lst xs) → DxAll H xs ds → Dx H (.ref a) (.list ds)
  | tup {a : Addr} {xs : List V} {ds : List PyData} : H a = some (.tup xs) → DxAll H xs ds → Dx H (.ref a) (.tuple ds)
  | dct {a : Addr} {ks : List (Str × Int)} : H a = some (.dK (ks.map fun p => (.inr p.1, .int p.2))) → Dx H (.ref a) (.dict (ks.map fun p => (.str p.1, .int p.2)))
inductive DxAll (H : Hp) : List V → List PyData → Prop
  | nil : DxAll H [] []
  | cons {v : V} {vs : List V} {d : PyData} {ds : List PyData} : Dx H v d → DxAll H vs ds → DxAll H (v :: vs) (d :: ds)
end
mutual
theorem Dx.same {H H' : Hp} (s : Same H H') : ∀ (d : PyData) (v : V), Dx H v d → Dx H' v d
  | .none, _, h => by cases h; exact .non
  | .bool b, _, h => by cases h; exact .bl b
  | .int i, _, h => by cases h; exact .int i
  | .str x, _, h => by cases h; exact .str x
  | .list ds, _, h => by
    cases h with
    | lst h1 h2 => exact .lst (s _ _ h1) (DxAll.same s ds _ h2)
  | .tuple ds, _, h => by
    cases h with
    | tup h1 h2 => exact .tup (s _ _ h1) (DxAll.same s ds _ h2)
  | .dict kvs, _, h => by
    cases h with
    | dct h1 => exact .dct (s _ _ h1)
theorem DxAll.same {H H' : Hp} (s : Same H H') : ∀ (ds : List PyData) (vs : List V), DxAll H vs ds → DxAll H' vs ds
  | [], _, h => by cases h; exact .nil
  | d :: ds, _, h => by
    cases h with
    | cons h1 h2 => exact .cons (Dx.same s d _ h1) (DxAll.same s ds _ h2)
end
/-- what is known of the writing of a value -/
def Wr (P : Program) (w : World) (h : Heap) (u : Value) (d : PyData) : Prop := ∃ as bs, Reads h u d as ∧ ReadAtMost h d.depth bs ∧ ReprK P w bs h d.depth u d.shown
def WrAll (P : Program) (w : World) (h : Heap) (us : List Value) (ds : List PyData) : Prop := ∃ as bs, ReadsAll h us ds as ∧ ReadAtMost h (PyData.depthAll ds) bs ∧ ReprAllK P w bs h (PyData.depthAll ds) us (PyData.shownAll ds)
theorem keys_read {P : Program} {w : World} {h : Heap} : ∀ {ks : List (Str × Int)} {vs : List (Key × Value)} {es : List DictEntry}, KV (ks.map fun p => (.inr p.1, .int p.2)) vs → Pairs (mixKind P w) es vs → (∀ p ∈ ks, p.2.natAbs.log2 < 1920) → (∀ p ∈ ks, (reprText p.1).length ≤ sizeLine) →
    ReadsAll h (es.map (·.key)) (ks.map fun p => .str p.1) [] ∧ ReadsAll h (es.map (·.val)) (ks.map fun p => .int p.2) [] ∧ ReprEntriesK P w [] h 0 es (PyData.shownKv (ks.map fun p => (.str p.1, .int p.2)))
  | [], vs, es, kv, ps, _, _ => by
    cases kv
    cases ps
    exact ⟨.nil, .nil, .nil⟩
  | (x, i) :: ks, vs, es, kv, ps, hi, hz => by
    cases kv with
    | @cons p q ps' qs kh kt =>
      obtain ⟨e1, e2⟩ := kh
      obtain ⟨k, v⟩ := q
      dsimp only at e1 e2
      subst e1
      obtain ⟨t, rfl⟩ := (show ∃ t, v = Value.int i t from e2)
      cases ps with
      | @cons e kv es' kvs isk isv pt =>
        have hz1 : (reprText x).length ≤ sizeLine := hz (x, i) (.head _)
        have hi1 : i.natAbs.log2 < 1920 := hi (x, i) (.head _)
        obtain ⟨r1, r2, r3⟩ := keys_read (h := h) kt pt (fun p hp => hi p (.tail _ hp)) fun p hp => hz p (.tail _ hp)
        dsimp only at isk isv
        rcases keyIs_shape (show keyIs (.inr x) e.key = true from isk) with ⟨j, t', z, _⟩ | ⟨y, t', z, ek⟩
        · cases z
        · cases z
          obtain ⟨eh, ekey, ev⟩ := e
          dsimp only at isv ek
          subst ek isv
          refine ⟨.cons (as := []) (.str _ _) r1, .cons (as := []) (.int _ _) r2, ?_⟩
          simp only [List.map_cons, PyData.shownKv, PyData.shown]
          exact .cons (.of_is (ReprIs.str x t' hz1) _ _ _) (.of_is (ReprIs.int t hi1) _ _ _) r3
theorem dct_open {X : Cx} {pins : List (Addr × Obj)} {σ : L2.St} {H : Hp} {s : Shared} (I : Inv X pins σ H s) {a : Addr} {ks : List (Str × Int)} (h1 : H a = some (.dK (ks.map fun p => (.inr p.1, .int p.2)))) (sh : (PyData.dict (ks.map fun p => (.str p.1, .int p.2))).showable = true) (sz : (PyData.dict (ks.map fun p => (.str p.1, .int p.2))).shown.length ≤ sizeLine) :
    ∃ (o : Obj) (es : Array DictEntry) (ep : Nat), s.heap.get? a = some o ∧ o.cls = .type "dict" ∧ o.data = .dict es ep ∧ (a == sysModules) = false ∧ ReadsAll s.heap (es.toList.map (·.key)) (ks.map fun p => .str p.1) [] ∧ ReadsAll s.heap (es.toList.map (·.val)) (ks.map fun p => .int p.2) [] ∧
      ReprEntriesK X.prog X.w [] s.heap 0 es.toList (PyData.shownKv (ks.map fun p => (.str p.1, .int p.2))) := by
  obtain ⟨_, ys, vs, kv, o, es, ep, ho, ex, hd, _, ps, _⟩ := (show ObjOk X.prog X.w H s.heap a (.dK (ks.map fun p => (.inr p.1, .int p.2))) from I.hok a _ h1)
  have sz2 : (dictText (PyData.shownKv (ks.map fun p => (.str p.1, .int p.2)))).length ≤ sizeLine := by simpa only [PyData.shown] using sz
  have hi : ∀ p ∈ ks, p.2.natAbs.log2 < 1920 := by
    have z : ∀ l : List (Str × Int), PyData.showableKv (l.map fun p => (.str p.1, .int p.2)) = true → ∀ p ∈ l, p.2.natAbs.log2 < 1920 := by
      intro l
      induction l with
      | nil => exact fun _ _ h => nomatch h
      | cons p l ih =>
        intro h
        simp only [List.map_cons, PyData.showableKv, PyData.showable, Bool.and_eq_true, Bool.true_and, decide_eq_true_eq] at h
        intro q hq
        rcases List.mem_cons.mp hq with rfl | hq
        · exact h.1
        · exact ih h.2 q hq
    exact z ks (by simpa [PyData.showable] using sh)
  have hz : ∀ p ∈ ks, (reprText p.1).length ≤ sizeLine := fun p hp => by
    have m : reprText p.1 ∈ PyData.shownAll ((ks.map fun p => ((.str p.1 : PyData), (.int p.2 : PyData))).map (·.1)) := by
      rw [List.map_map]
      have : ∀ l : List (Str × Int), p ∈ l → reprText p.1 ∈ PyData.shownAll (l.map (Prod.fst ∘ fun p => ((.str p.1 : PyData), (.int p.2 : PyData)))) := by
        intro l
        induction l with
        | nil => exact fun h => nomatch h
        | cons q l ih =>
          intro h
          simp only [List.map_cons, PyData.shownAll, Function.comp, PyData.shown]
          rcases List.mem_cons.mp h with rfl | h
          · exact .head _
          · exact .tail _ (ih h)
      exact this ks hp
    obtain ⟨q, hq, hl⟩ := PyData.shownKv_key_le _ _ m
    exact Nat.le_trans hl (Nat.le_trans (dictText_mem_le hq) sz2)
  obtain ⟨r1, r2, r3⟩ := keys_read (P := X.prog) (w := X.w) (h := s.heap) kv ps hi hz
  exact ⟨o, es, ep, ho, ex.1, hd, ys, r1, r2, r3⟩
mutual
theorem dx_wr {X : Cx} {pins : List (Addr × Obj)} {σ : L2.St} {H : Hp} {s : Shared} (I : Inv X pins σ H s) : ∀ (d : PyData) (v : V) (u : Value), Dx H v d → RelV v u → d.showable = true → d.shown.length ≤ sizeLine → Wr X.prog X.w s.heap u d
  | .none, _, u, h, r, _, _ => by
    cases h
    cases (show u = Value.none from r)
    refine ⟨[], [], .none, fun _ h => (nomatch h), ?_⟩
    simp only [PyData.shown]
    exact .of_is ReprIs.none _ _ _
  | .bool b, _, u, h, r, _, _ => by
    cases h
    cases (show u = Value.bool b from r)
    refine ⟨[], [], .bool b, fun _ h => (nomatch h), ?_⟩
    simp only [PyData.shown]
    exact .of_is (ReprIs.bool b) _ _ _
  | .int i, _, u, h, r, sh, _ => by
    cases h
    obtain ⟨t, rfl⟩ := (show ∃ t, u = Value.int i t from r)
    refine ⟨[], [], .int i t, fun _ h => (nomatch h), ?_⟩
    simp only [PyData.shown]
    exact .of_is (ReprIs.int t (by simpa [PyData.showable] using sh)) _ _ _
  | .str x, _, u, h, r, _, sz => by
    cases h
    obtain ⟨t, rfl⟩ := (show ∃ t, u = Value.str x t from r)
    refine ⟨[], [], .str x t, fun _ h => (nomatch h), ?_⟩
    simp only [PyData.shown]
    exact .of_is (ReprIs.str x t (by simpa only [PyData.shown] using sz)) _ _ _
  | .list ds, _, u, h, r, sh, sz => by
    cases h with
    | @lst a xs _ h1 h2 =>
      cases (show u = Value.ref a from r)
      obtain ⟨_, its, n, rv, ho⟩ := (show ObjOk X.prog X.w H s.heap a (.lst xs) from I.hok a _ h1)
      have sz2 : (listText (PyData.shownAll ds)).length ≤ sizeLine := by simpa only [PyData.shown] using sz
      obtain ⟨as, bs, rs, hb, hk⟩ := dxAll_wr I ds xs its h2 rv (by simpa [PyData.showable] using sh) fun t ht => Nat.le_trans (listText_mem_le ht) sz2
      have rd : Reads s.heap (.ref a) (.list ds) (a :: as) := .list ho rfl rfl (by simpa using rs)
      have na : a ∉ bs := not_mem_of_deeper rd (by simp only [PyData.depth]; omega) hb
      refine ⟨_, a :: bs, rd, .cons rd (by simp only [PyData.depth]; omega) hb, ?_⟩
      simp only [PyData.depth, PyData.shown]
      cases its with
      | nil =>
        cases rs
        simp only [PyData.shownAll, listText_nil]
        exact ReprK.listEmpty ho rfl rfl
      | cons x l => exact ReprK.list ho rfl rfl na (by simpa using hk.length_eq) fun i y e => hk.item i y (by simpa using e)
  | .tuple ds, _, u, h, r, sh, sz => by
    cases h with
    | @tup a xs _ h1 h2 =>
      cases (show u = Value.ref a from r)
      obtain ⟨_, its, rv, o, ho, hc, n, hd⟩ := (show ObjOk X.prog X.w H s.heap a (.tup xs) from I.hok a _ h1)
      have sz2 : (tupleText (PyData.shownAll ds)).length ≤ sizeLine := by simpa only [PyData.shown] using sz
      obtain ⟨as, bs, rs, hb, hk⟩ := dxAll_wr I ds xs its h2 rv (by simpa [PyData.showable] using sh) fun t ht => Nat.le_trans (tupleText_mem_le ht) sz2
      have rd : Reads s.heap (.ref a) (.tuple ds) as := .tuple ho hc hd (by simpa using rs)
      have na : a ∉ bs := not_mem_of_deeper rd (by simp only [PyData.depth]; omega) hb
      refine ⟨_, a :: bs, rd, .cons rd (by simp only [PyData.depth]; omega) hb, ?_⟩
      simp only [PyData.depth, PyData.shown]
      exact ReprK.tuple ho hc hd na (by simpa using hk)
  | .dict kvs, _, u, h, r, sh, sz => by
    generalize hkv : kvs = kvs2 at h sh sz
    cases h with
    | @dct a ks h1 =>
      cases (show u = Value.ref a from r)
      obtain ⟨o, es, ep, ho, hc, hd, ys, r1, r2, r3⟩ := dct_open I h1 sh sz
      have m1 : ((ks.map fun p => ((.str p.1 : PyData), (.int p.2 : PyData))).map (·.1)) = ks.map fun p => .str p.1 := by rw [List.map_map]; rfl
      have m2 : ((ks.map fun p => ((.str p.1 : PyData), (.int p.2 : PyData))).map (·.2)) = ks.map fun p => .int p.2 := by rw [List.map_map]; rfl
      have rd : Reads s.heap (.ref a) (.dict (ks.map fun p => (.str p.1, .int p.2))) (a :: [] ++ []) := .dict ho hc hd (by rw [m1]; exact r1) (by rw [m2]; exact r2)
      refine ⟨_, [a], rd, .cons rd (Nat.zero_le _) (fun _ h => nomatch h), ?_⟩
      have k0 : ReprK X.prog X.w [a] s.heap (0 + 1) (.ref a) (dictText (PyData.shownKv (ks.map fun p => (.str p.1, .int p.2)))) := ReprK.dict ho hc hd ys (by simp) r3
      simp only [PyData.shown]
      exact k0.level_le (by simp only [PyData.depth]; omega)
theorem dxAll_wr {X : Cx} {pins : List (Addr × Obj)} {σ : L2.St} {H : Hp} {s : Shared} (I : Inv X pins σ H s) : ∀ (ds : List PyData) (vs : List V) (us : List Value), DxAll H vs ds → Vals vs us → PyData.showableAll ds = true → (∀ t ∈ PyData.shownAll ds, t.length ≤ sizeLine) → WrAll X.prog X.w s.heap us ds
  | [], _, us, h, r, _, _ => by
    cases h
    cases r
    refine ⟨[], [], .nil, fun _ h => (nomatch h), ?_⟩
    simp only [PyData.shownAll]
    exact .nil
  | d :: ds, _, us, h, r, sh, sz => by
    cases h with
    | cons h1 h2 =>
      cases r with
      | cons r1 r2 =>
        simp only [PyData.showableAll, Bool.and_eq_true] at sh
        simp only [PyData.shownAll, List.mem_cons] at sz
        obtain ⟨as, bs, rd, hb, hk⟩ := dx_wr I d _ _ h1 r1 sh.1 (sz _ (.inl rfl))
        obtain ⟨as', bs', rd', hb', hk'⟩ := dxAll_wr I ds _ _ h2 r2 sh.2 fun t ht => sz t (.inr ht)
        refine ⟨as ++ as', bs ++ bs', .cons rd rd', ?_, ?_⟩
        · simp only [PyData.depthAll]
          exact (hb.mono (Nat.le_max_left _ _)).append (hb'.mono (Nat.le_max_right _ _))
        · simp only [PyData.depthAll, PyData.shownAll]
          exact .cons ((hk.more fun b hb => List.mem_append_left _ hb).level_le (Nat.le_max_left _ _)) (hk'.more_le (fun b hb => List.mem_append_right _ hb) (Nat.le_max_right _ _))
end
/-- repr(x) -/
def rReprX : List V → Hp → VK → Prop := fun vs H Q => ∃ v d, vs = [v] ∧ Dx H v d ∧ d.showable = true ∧ d.shown.length ≤ sizeLine ∧ d.depth ≤ 60 ∧ Q (.str d.shown) H
theorem call_reprX {X : Cx} (hu : X.A.units + 64 < cLine) (gd : X.A.guards = some []) : CallR X (.builtin "repr") rReprX := by
  intro pins s σ H vs us Q I r h
  obtain ⟨v, d, rfl, hd, sh, sz, dp, q⟩ := h
  obtain ⟨u, rfl, ru⟩ := vals1 r
  have fin : ∀ h' u' tk, (∀ b o, s.heap.get? b = some o → h'.get? b = some o) → EP X pins σ Q (.str d.shown u') { s with heap := h', toks := tk } := fun h' u' tk hk => ⟨.str d.shown, H, I.kept (t' := tk) hk, ⟨_, rfl⟩, q⟩
  have gd1 : X.A.in1.guards = some [] := gd
  have hu1 : X.A.in1.units + 62 < cLine := by
    show X.A.units + 1 + 62 < cLine
    omega
  cases hd with
  | non =>
    cases (show u = Value.none from ru)
    have f := fin s.heap s.toks (s.toks + 1) fun _ _ e => e
    simp only [PyData.shown] at f
    exact PySem.P.repr_of_none f
  | bl b =>
    cases (show u = Value.bool b from ru)
    have f := fin s.heap s.toks (s.toks + 1) fun _ _ e => e
    simp only [PyData.shown] at f
    exact PySem.P.repr_of_bool f
  | int i =>
    obtain ⟨t, rfl⟩ := (show ∃ t, u = Value.int i t from ru)
    have f := fin s.heap s.toks (s.toks + 1) fun _ _ e => e
    simp only [PyData.shown] at f
    exact PySem.P.repr_of_int (by simpa [PyData.showable] using sh) f
  | str x =>
    obtain ⟨t, rfl⟩ := (show ∃ t, u = Value.str x t from ru)
    have f := fin s.heap s.toks (s.toks + 1) fun _ _ e => e
    simp only [PyData.shown] at f
    exact PySem.P.repr_of_str f (by simpa only [PyData.shown] using sz)
  | @lst a xs ds h1 h2 =>
    cases (show u = Value.ref a from ru)
    obtain ⟨_, its, n, rv, ho⟩ := (show ObjOk X.prog X.w H s.heap a (.lst xs) from I.hok a _ h1)
    simp only [PyData.shown] at sz fin
    simp only [PyData.depth] at dp
    obtain ⟨as, bs, rs, hb, hk⟩ := dxAll_wr I ds xs its h2 rv (by simpa [PyData.showable] using sh) fun t ht => Nat.le_trans (listText_mem_le ht) sz
    have rd : Reads s.heap (.ref a) (.list ds) (a :: as) := .list ho rfl rfl (by simpa using rs)
    have na : a ∉ bs := not_mem_of_deeper rd (by simp only [PyData.depth]; omega) hb
    refine call_repr_slot (by omega) ⟨_, ho, rfl⟩ F.slot_list_repr.toG ?_
    cases its with
    | nil =>
      cases rs
      refine call_list_repr_empty ⟨_, ho, rfl⟩ ho rfl ⟨_, _, rfl, ?_⟩
      have f := fin s.heap s.toks (s.toks + 1) fun _ _ e => e
      simp only [PyData.shownAll, listText_nil] at f
      exact f
    | cons x l => exact call_list_reprK ho rfl rfl na (by simpa using hk.length_eq) (fun i y e => hk.item i y (by simpa using e)) gd1 (fun b _ => Clear.nil b) (by omega) (fun _ _ e => e) (fun h' u' tk hk => ⟨_, _, rfl, fin h' u' tk hk⟩) sz
  | @tup a xs ds h1 h2 =>
    cases (show u = Value.ref a from ru)
    obtain ⟨_, its, rv, o, ho, hc, n, hd⟩ := (show ObjOk X.prog X.w H s.heap a (.tup xs) from I.hok a _ h1)
    simp only [PyData.shown] at sz fin
    simp only [PyData.depth] at dp
    obtain ⟨as, bs, rs, hb, hk⟩ := dxAll_wr I ds xs its h2 rv (by simpa [PyData.showable] using sh) fun t ht => Nat.le_trans (tupleText_mem_le ht) sz
    have rd : Reads s.heap (.ref a) (.tuple ds) as := .tuple ho hc hd (by simpa using rs)
    have na : a ∉ bs := not_mem_of_deeper rd (by simp only [PyData.depth]; omega) hb
    refine call_repr_slot (by omega) ⟨_, ho, hc⟩ F.slot_tuple_repr ?_
    exact call_tuple_reprK ho hc hd na (by simpa using hk) gd1 (fun b _ => Clear.nil b) (by omega) (fun _ _ e => e) (fun h' u' tk hk => ⟨_, _, rfl, fin h' u' tk hk⟩) sz
  | @dct a ks h1 =>
    cases (show u = Value.ref a from ru)
    obtain ⟨o, es, ep, ho, hc, hd, ys, r1, r2, r3⟩ := dct_open I h1 sh sz
    simp only [PyData.shown] at sz fin
    refine call_repr_slot (by omega) ⟨_, ho, hc⟩ F.slot_dict_repr ?_
    exact call_dict_reprK ho hc hd ys (by simp) r3 gd1 (fun b _ => Clear.nil b) (by omega) (fun _ _ e => e) (fun h' u' tk hk => ⟨_, _, rfl, fin h' u' tk hk⟩) sz
end Z

/-! l.count(True), l.index(True) of a list of truths. -/
namespace Z
open PySem PySem.Spec PyProof.Rows L2
def blD (bs : List Bool) : List PyData := bs.map PyData.bool
theorem dp_bls {K : PySem.W.Frag} {H : Hp} : ∀ bs : List Bool, DpAll K H (bs.map V.bl) (blD bs)
  | [] => .nil
  | b :: r => .cons (.bl b) (dp_bls r)
theorem can_bls : ∀ bs : List Bool, PyData.canLayAll0 (blD bs) = true
  | [] => rfl
  | b :: r => by
    simp only [blD, List.map_cons, PyData.canLayAll0, PyData.canLay0, Bool.true_and]
    exact can_bls r
theorem depth_bls : ∀ bs : List Bool, PyData.depthAll (blD bs) = 0
  | [] => rfl
  | b :: r => by
    have h := depth_bls r
    simp only [blD, List.map_cons, PyData.depthAll, PyData.depth] at h ⊢
    omega
theorem shaped_bls (bs : List Bool) : SeqAt.shaped (.list (blD bs)) = true := by
  unfold SeqAt.shaped
  rw [Bool.and_eq_true]
  refine ⟨can_bls bs, decide_eq_true ?_⟩
  have h := depth_bls bs
  simp only [PyData.depth]
  omega
theorem shaped_bl (b : Bool) : SeqAt.shaped (.bool b) = true := by cases b <;> decide
theorem eqv_bl (b c : Bool) : PyData.eqv (.bool b) (.bool c) = (b == c) := by cases b <;> cases c <;> decide
theorem eqv_bls : ∀ bs cs : List Bool, PyData.eqv (.list (blD bs)) (.list (blD cs)) = (bs == cs) := by
  intro bs
  induction bs with
  | nil =>
    intro cs
    cases cs with
    | nil => rfl
    | cons c cs => simp [blD, PyData.eqv, PyData.eqvAll]
  | cons b bs ih =>
    intro cs
    cases cs with
    | nil => simp [blD, PyData.eqv, PyData.eqvAll]
    | cons c cs =>
      have h := ih cs
      have e := eqv_bl b c
      simp only [blD, List.map_cons, PyData.eqv, PyData.eqvAll] at h e ⊢
      rw [h]
      cases b <;> cases c <;> simp_all
section
variable {X : Cx}
def rIxB : V → List V → Hp → VK → Prop := fun x xs H Q => ∃ (a : Addr) (bs : List Bool) (j : Nat), x = .ref a ∧ xs = [.bl true] ∧ H a = some (.lst (bs.map V.bl)) ∧ bs[j]? = some true ∧ (∀ m, m < j → bs[m]? = some false) ∧ Q (.int (j : Nat)) H
theorem mt_indexB (hu : X.A.units + 65 < cLine) : MtR X "list.index" rIxB := by
  intro pins s σ H x xs v us Q I rx rxs h
  obtain ⟨a, bs, j, rfl, rfl, ha, hj, hm, q⟩ := h
  refine mt_indexD hu pins s σ H _ _ v us Q I rx rxs ⟨a, .bl true, .bool true, blD bs, j, .bool true, rfl, rfl, .lst (SqL.of ha) (dp_bls bs), .bl true, shaped_bls bs, shaped_bl true, ?_, eqv_bl _ _, fun m z hmj hz => ?_, q⟩
  · simp [blD, hj]
  · have e := hm m hmj
    simp only [blD, List.getElem?_map, e, Option.map_some, Option.some.injEq] at hz
    rw [← hz]
    exact eqv_bl _ _
def rCntB : V → List V → Hp → VK → Prop := fun x xs H Q => ∃ (a : Addr) (bs : List Bool), x = .ref a ∧ xs = [.bl true] ∧ H a = some (.lst (bs.map V.bl)) ∧ Q (.int (bs.count true : Nat)) H
theorem mt_lcountB (hu : X.A.units + 65 < cLine) : MtR X "list.count" rCntB := by
  intro pins s σ H x xs v us Q I rx rxs h
  obtain ⟨a, bs, rfl, rfl, ha, q⟩ := h
  cases rx
  cases rxs with
  | @cons _ uy _ _ ry rt =>
    cases rt
    cases (show uy = Value.bool true from ry)
    obtain ⟨its, rv, ⟨⟨cls, dd, data, sls⟩, n, ho, hc, hdn, hdt⟩, hlen⟩ := I.list (SqL.of ha)
    simp only at hc hdt
    subst hc hdt
    obtain ⟨as, h4⟩ := Dp.readsAll I (blD bs) _ its (dp_bls bs) rv
    have hmap : its.map (SeqAt.readOf s.heap) = blD bs := SeqAt.readsAll_map (blD bs) its as (can_bls bs) h4
    have hroom : X.A.units + 1 + min (PyData.depthAll (blD bs)) (PyData.bool true).depth < cLine := room_in_shaped (shaped_bl true) hu
    refine call_meets PySem.F.slot_list_count ⟨_, ho, rfl⟩ PySem.F.entry_list_count (PySem.F.args_list_count_2 _ _)
      (SeqAt.list_countAt a its.toArray n dd sls (.bool true) fun u => PyData.eqv (SeqAt.readOf s.heap u) (.bool true)) ⟨ho, SeqAt.items_eqAt (vs := its.toArray) (show ReadsAll s.heap its.toArray.toList (blD bs) as from h4) (.bool true) (can_bls bs) rfl hroom, ?_⟩
    have ec : its.toArray.toList.countP (fun u => PyData.eqv (SeqAt.readOf s.heap u) (.bool true)) = bs.count true := by
      have e1 : its.toArray.toList.countP (fun u => PyData.eqv (SeqAt.readOf s.heap u) (.bool true)) = (its.map (SeqAt.readOf s.heap)).countP fun z => PyData.eqv z (.bool true) := by
        rw [List.countP_map]
        rfl
      rw [e1, hmap]
      unfold blD List.count
      rw [List.countP_map]
      refine List.countP_congr fun b _ => ?_
      simp only [Function.comp, eqv_bl]
    rw [ec]
    exact ⟨.int (bs.count true : Nat), H, I.tok _, ⟨s.toks, rfl⟩, q⟩
/-- two lists of truths compared -/
def rEqB : R2 := fun x y H Q => ∃ (a b : Addr) (bs cs : List Bool), x = .ref a ∧ y = .ref b ∧ H a = some (.lst (bs.map V.bl)) ∧ H b = some (.lst (cs.map V.bl)) ∧ Q (.bl (bs == cs)) H
def rNeB : R2 := fun x y H Q => ∃ (a b : Addr) (bs cs : List Bool), x = .ref a ∧ y = .ref b ∧ H a = some (.lst (bs.map V.bl)) ∧ H b = some (.lst (cs.map V.bl)) ∧ Q (.bl (!(bs == cs))) H
theorem op_eqB (hu : X.A.units + 64 < cLine) : OpR X (compareOp .Eq) rEqB := by
  intro pins s σ H x y v u Q I rx ry h
  obtain ⟨a, b, bs, cs, rfl, rfl, ha, hb, q⟩ := h
  exact op_eqD hu pins s σ H _ _ v u Q I rx ry ⟨_, _, .lst (SqL.of ha) (dp_bls bs), .lst (SqL.of hb) (dp_bls cs), shaped_bls bs, shaped_bls cs, by rw [eqv_bls]; exact q⟩
theorem op_neB (hu : X.A.units + 64 < cLine) : OpR X (compareOp .NotEq) rNeB := by
  intro pins s σ H x y v u Q I rx ry h
  obtain ⟨a, b, bs, cs, rfl, rfl, ha, hb, q⟩ := h
  exact op_neD hu pins s σ H _ _ v u Q I rx ry ⟨_, _, .lst (SqL.of ha) (dp_bls bs), .lst (SqL.of hb) (dp_bls cs), shaped_bls bs, shaped_bls cs, by rw [eqv_bls]; exact q⟩
end
end Z

/-! Defs that raise nothing, called also while an exception is handled; an exception lent to such a def. -/
namespace Z
open PySem PySem.Spec PyProof.Rows L2
/-- a promise that asks nothing of what is handled -/
structure FnW (P : Program) (w : World) (K : PySem.W.Frag) (mg : Str → Option Value) (base : Heap) (k : Nat) (f : Addr) (fd : FuncData) (ps : List Str) (sp : Sp) : Prop where
  len : ∀ vs H Q E, sp vs H Q E → vs.length = ps.length
  goes : ∀ (A : Around) (outer : List Env) (s : Shared) (H : Hp) (args : Args) (us : List Value) (vs : List V) (Q : VK), L2H.RoomH k A → Env0 P w K mg base A outer s H → BindsTo s fd args (ps.zip us) → Vals vs us → sp vs H Q E0 → codeAny (model P w) A (.call (.ref f) args) (CR CX0 outer P w H s Q E0) s
theorem L2H_units {k : Nat} {A : Around} (r : L2H.RoomH k A) : A.units + 64 < cLine := by
  have := r.un
  omega
theorem room65H {k : Nat} {A : Around} (r : L2H.RoomH k A) : A.units + 65 < cLine := by
  have := r.un
  omega
section
variable {P : Program} {w : World} {K : PySem.W.Frag} {mg : Str → Option Value} {base : Heap}
theorem fun_okW {x qual : Str} {st : Stmt} {f : Addr} {fd : FuncData} {N ps : List Str} {k : Nat} {sp : Sp} (F : Fun K x qual st f fd) (S : FnScope N ps (defScope st)) (len : ∀ vs H Q E, sp vs H Q E → vs.length = ps.length)
    (hbody : ∀ (cdv : Value) (A : Around) (outer : List Env) (s : Shared) (H : Hp) (vs : List V) (Q : VK) (p : Addr × Obj), L2H.RoomH k (A.deeper (envOfC qual (defScope st) s.heap.objs.size f cdv)) → sp vs H Q E0 →
      ∃ t, PSs (L2H.cxH CX0 P w K mg base N qual (defScope st) f cdv A outer s H E0 p) (defBody st) t ∧ t { nx := fun _ H' => Q .non H', rt := Q } (L2.start N vs) H) : FnW P w K mg base (k + 1) f fd ps sp := by
  obtain ⟨oc, od, kV, doc, pm, an, cdv, ct, osl, rfl, lk, isCode⟩ := F.ex
  refine ⟨len, fun A outer s H args us vs Q room e0 bind rel told => ?_⟩
  have many := len _ _ _ _ told
  have inK : K.In s.heap := e0.mod.kin.keeps fun b o e => (e0.bs b o e).1
  have below := e0.mod.kin _ _ lk
  have pin := L2H.PinOk.mk (outer := outer) (H := H) (s := s) (p := (f, _)) (inK _ _ lk) (e0.bs _ _ below).2 (fun hm => by
    have z := (e0.funs.mem hm).1
    rw [below] at z
    cases z) (fun v z => nomatch z)
  have kinds : ∀ y ∈ ps.zip us, (defScope st).names.lookup y.1 = some .local ∨ ((defScope st).names.lookup y.1 = some .cell ∧ ((cellsFrom (s.heap.objs.size + 1) (defScope st).names []).lookup y.1).isSome = true) := by
    rintro ⟨n, v⟩ hy
    exact (S.par n (List.of_mem_zip hy).1).imp id fun q => ⟨q, PySem.W.cellsFrom_some _ _ _ (.inl q)⟩
  refine codeAny_call_function room.depth (inK _ _ lk) rfl S.co S.gen rfl (PySem.W.codeRec_of inK isCode) (bind _ _ _ _ ?_)
  refine wpAny_newFunctionEnv_cells S.kind kinds fun env he s1 at1 => ?_
  subst he
  refine ⟨(e0.mod.nolimit.keeps fun b o e => (e0.bs b o e).1).keeps at1.toInCall.keep, codeAny_func ?_⟩
  obtain ⟨t, ht, hq⟩ := hbody cdv A outer s H vs Q _ (room.deeper _) told
  have I := L2H.inv_startH (CX := CX0) (E := E0) (mg := mg) S pin e0 many rel at1
  refine wpAny_mono (ht.run [] s1 _ H _ I hq) (fun fl s' done => ?_) fun e s' done => done
  match fl, done with
  | .ret u, ⟨v, σ', H', J, rv, q⟩ => exact ⟨v, H', J.os, J.bare, J.base, J.hok, rv, q⟩
  | .next, ⟨σ', H', J, q⟩ => exact ⟨.non, H', J.os, J.bare, J.base, J.hok, rfl, q⟩
  | .brk, ⟨_, _, _, q⟩ => exact q.elim
  | .cont, ⟨_, _, _, q⟩ => exact q.elim
end
/-- where it stands, with such a promise -/
structure HdW (P : Program) (w : World) (K : PySem.W.Frag) (mg : Str → Option Value) (base : Heap) (k : Nat) (x : Str) (st : Stmt) (ps : List Str) (sp : Sp) : Prop where
  ex : ∃ f fd, Fun K x x st f fd ∧ mg x = some (.ref f) ∧ FnW P w K mg base k f fd ps sp
  bd : Bd x st ps
/-- the very object at a, held by an except suite -/
def pinO (a : Addr) (oe : Obj) : HO := .ext fun h => h.get? a = some oe
theorem pinO_ok {P : Program} {w : World} {H : Hp} {h : Heap} {a : Addr} {oe : Obj} (e : h.get? a = some oe) : ObjOk P w H h a (pinO a oe) := ⟨e, ⟨oe, e⟩, fun _ _ z k => k _ z⟩
theorem StandX.pin {H : Hp} {a C : Addr} {oe : Obj} {d : Option Addr} (e : H a = some (pinO a oe)) (z : Zc (.ref C) d oe) (hd : ∃ vs, oe.data = .fields vs) : StandX H a C d := by
  obtain ⟨vs, hv⟩ := hd
  exact ⟨_, e, fun h q => ⟨oe, vs, q, z.1, z.2, hv⟩⟩
/-- f(args), f a def that may look at the held exception: it is tracked while f runs -/
def tLend (a : Addr) (oe : Obj) (sp : Sp) (t : TA) : TE := fun σ H Q => t σ H fun vs H1 => sp vs (upd H1 a (pinO a oe)) (fun v H2 => H2 a = some (pinO a oe) ∧ Q v (delH H2 a)) E0
section
variable {X : Cx} {k : Nat} {st : Stmt} {ps : List Str} {sp : Sp} {x : Str} {p pos : Pos} {e : Expr} {es : List Expr} {t : TA} {a : Addr} {oe : Obj} {pn : List (Addr × Obj)}
theorem pe_lend (h : HdW X.prog X.w X.K X.mg X.base k x st ps sp) (hr : L2H.RoomH k (X.A.mark (some (.ref a)))) (hg : Gl X x) (hba : X.base.get? a = none) (ha : PA (X.suite a ((a, oe) :: pn)) (e :: es) t) (hdb : (x == ("__debug__" : Str)) = false := by decide)
    (hs : starEach (e :: es) X.env = (false, eval e X.env) :: starEach es X.env := by rfl) (hpl : (backTo pos (starEach es X.env)).any (·.1) = false := by rfl) : PE (X.suite a ((a, oe) :: pn)) (.Call (.Name x p) (e :: es) [] pos) (tLend a oe sp t) := by
  obtain ⟨f, fd, F, hm, G⟩ := h.ex
  refine ⟨fun pins s σ H Q I told => ?_⟩
  refine wpAny_Call_Name_kw (ld_glob (X := X.suite a ((a, oe) :: pn)) I hg hm ?_ hdb)
  refine PySem.W.callWith_K (h₀ := X.base) I.ok.mod.kin F.kp (thn (ha.run pos pins s σ H _ I told) fun us s1 got => ?_) hs hpl
  obtain ⟨vs, H1, I1, rel, q⟩ := got
  refine ⟨I1.kIn, ?_⟩
  obtain ⟨ea, na, nl, nf, _⟩ := I1.pin (a, oe) (List.mem_append_left _ (.head _))
  have ea : s1.heap.get? a = some oe := ea
  have na : H1 a = none := na
  have e0 := I1.env0
  have off : ∀ {b : Addr} {o : HO}, H1 b = some o → upd H1 a (pinO a oe) b = some o := fun {b o} z => by
    rw [upd_ne (ne_of_none z na)]
    exact z
  have offN : ∀ {b : Addr}, b ≠ a → H1 b = none → upd H1 a (pinO a oe) b = none := fun {b} n z => by
    rw [upd_ne n]
    exact z
  have notFr : a ∉ frs X.stack := fun hm => (List.mem_cons.mp (I1.stkSub a hm)).elim nl nf
  have e1 : Env0 X.prog X.w X.K X.mg X.base (X.A.mark (some (.ref a))) X.stack s1 (upd H1 a (pinO a oe)) := by
    refine ⟨e0.frames, e0.mod, fun b o z => ⟨(e0.bs b o z).1, offN (fun y => ?_) (e0.bs b o z).2⟩, e0.bsz, e0.funs, fun b hb => offN (fun y => notFr (y ▸ hb)) (e0.frf b hb), fun b o z => ?_, e0.bare⟩
    · rw [y] at z
      exact absurd (hba.symm.trans z) (by simp)
    · by_cases hb : b = a
      · subst hb
        rw [upd_same] at z
        cases z
        exact pinO_ok ea
      · rw [upd_ne hb] at z
        exact (I1.hok b o z).stay (fun c v _ y => y) (fun c y => off y) fun c xs y => off y
  have bnd := F.binds (h.bd x) s1 us I1.kIn (by rw [List.append_nil, ← rel.length]; exact G.len _ _ _ _ q)
  rw [List.append_nil] at bnd
  refine wpAny_call (codeAny_mono (G.goes _ X.stack s1 _ ⟨[] ++ us, []⟩ us vs _ hr e1 bnd rel q) fun r s' done => ?_)
  match r, done with
  | .error _, z => exact z.elim
  | .ok .next, z => exact z.elim
  | .ok .brk, z => exact z.elim
  | .ok .cont, z => exact z.elim
  | .ok (.ret u), ⟨v, H2, os, bare, un, hok, ru, (e2 : H2 a = some (pinO a oe)), q2⟩ =>
    have ea2 : s'.heap.get? a = some oe := (hok a _ e2).1
    have keepD : ∀ {b : Addr} {o : HO}, b ≠ a → H2 b = some o → delH H2 a b = some o := fun {b o} n z => by
      rw [delH_ne n]
      exact z
    have kinds : ∀ {b : Addr} {o : HO}, H1 b = some o → b ≠ a := fun {b o} z => ne_of_none z na
    have hokD : HOk X.prog X.w (delH H2 a) s'.heap := fun b o z => by
      have hb : b ≠ a := fun y => by
        rw [y, delH_same] at z
        cases z
      rw [delH_ne hb] at z
      refine (hok b o z).stay (fun c v _ y => y) (fun c y => keepD (fun w => ?_) y) fun c xs y => keepD (fun w => ?_) y
      · rw [w, e2] at y
        cases y
      · rw [w, e2] at y
        cases y
    have U : Un (frs X.stack) [] H1 (delH H2 a) s1.heap s'.heap := {
      keep := fun b o y n hf hx => by
        by_cases hb : b = a
        · rw [hb] at y ⊢
          rw [ea] at y
          rw [ea2]
          exact y
        · exact un.keep b o y (offN hb n) hf hx
      slot := fun b o y n hf hx => un.slot b o y (offN (fun z => notFr (z ▸ hf)) n) hf hx
      free := fun b o y n hx => by
        by_cases hb : b = a
        · rw [hb]
          exact delH_same
        · rw [delH_ne hb]
          exact un.free b o y (offN hb n) hx
      there := fun b o y hx => un.there b o y hx
      tups := fun b xs y => keepD (kinds y) (un.tups b xs (off y))
      frzs := fun b o u y => keepD (kinds y) (un.frzs b o u (off y))
      tbls := fun b ps y => by
        obtain ⟨more, z⟩ := un.tbls b ps (off y)
        exact ⟨more, keepD (kinds y) z⟩ }
    exact ⟨v, delH H2 a, I1.call' (ch := []) os U hokD bare (fun b z => nomatch z), ru, q2⟩
end
end Z

/-! except (A, B, C) as e. -/
namespace Z
open PySem PySem.Spec PyProof.Rows L2
theorem flyingZ_keeps {B h h' : Heap} {l : List Env} {e : Addr} {F : Obj → Prop} (R : PySem.HandSPX.FlyingZ B l e F h) (k : ∀ b o, h.get? b = some o → h'.get? b = some o) : PySem.HandSPX.FlyingZ B l e F h' := by
  obtain ⟨f1, f2, f3, oe, vs, T, oT, ts, he, hz, hd, h1, hn, hne, hT, hdT, h3⟩ := R
  exact ⟨fun b o q => k b o (f1 b o q), f2, f3.of_keeps fun b o q _ => ⟨o, k b o q, rfl⟩, oe, vs, T, oT, ts, k _ _ he, hz, hd, h1, hn, hne, k _ _ hT, hdT, h3⟩
/-- what the clause wishes of an exception of the body: it is of one of the classes cs, and the suite, or it goes on -/
def wTup (K : PySem.W.Frag) (cs : List Value) (i : Nat) (ts : Addr → Obj → Value → Option Addr → TS) (Wout : WX) (D : Ends) : WX := fun cls d σ H =>
  ∃ b, PySem.W.exmAny K cls cs = some b ∧ (b = true → ∀ (a : Addr) (oe : Obj), H a = none → Zc cls d oe → (∃ vs, oe.data = .fields vs) →
      ts a oe cls d { nx := fun σ' H' => D.nx (σ'.set i none) H', rt := D.rt, bk := fun σ' H' => D.bk (σ'.set i none) H', ct := fun σ' H' => D.ct (σ'.set i none) H' } (σ.set i (some (.ref a))) H) ∧ (b = false → Wout cls d σ H)
section
variable {X : Cx} {x1 x2 x3 n : Str} {c1 c2 c3 : Value} {i kk : Nat} {body suite : List Stmt} {b0 : Stmt} {p1 p2 p3 tp pos pos' : Pos} {tb : WX → TS} {ts : Addr → Obj → Value → Option Addr → TS} {Wout : WX}
theorem ld_names {M : Unit} {Y : Cx} {x : Str} {c : Value} {p : Pos} {pins : List (Addr × Obj)} {σ : L2.St} {H : Hp} {s : Shared} {Q : Value → Shared → Prop} {E : Value → Shared → Prop} (I : Inv Y pins σ H s) (n : Names Y x c) (q : Q c s) : wpAny (model Y.prog Y.w) Y.A (eval (.Name x p) Y.env) Q E s := by
  obtain ⟨hg, hdb, hm | ⟨hm, hv, hn⟩⟩ := n
  · exact ld_glob I hg hm q hdb
  · exact ld_blt I hg hm hv q hn hdb
theorem ps_try_tup (hs : X.stack = X.env :: X.outer) (hf : X.env.frame = some X.env.locals) (hN : X.N.Nodup) (hi : X.N[i]? = some n) (hln : X.env.kindOf n = some .local) (n1 : Names X x1 c1) (n2 : Names X x2 c2) (n3 : Names X x3 c3) (tk : Takes X Wout)
    (hb : ∀ (W : WX) (pn : List (Addr × Obj)) (xe : Value → Shared → Prop), Takes (X.tr pn xe) W → PassesOwn (model X.prog X.w) X.A X.env xe → PSs (X.tr pn xe) body (tb W))
    (hsu : ∀ (a : Addr) (oe : Obj) (cls : Value) (d : Option Addr) (pn : List (Addr × Obj)), X.base.get? a = none → PSs (X.suite a ((a, oe) :: pn)) (b0 :: suite) (ts a oe cls d)) :
    PS X (.Try body [.ExceptHandler (some (.Tuple [.Name x1 p1, .Name x2 p2, .Name x3 p3] kk tp)) (some n) (b0 :: suite) pos'] [] [] pos) (fun D σ H => tb (wTup X.K [c1, c2, c3] i ts Wout D) D σ H) := by
  refine ⟨fun pins s σ H D I h => ?_⟩
  have ok := I.ok
  have hfr : X.A.frames = some (X.env :: X.outer) := by rw [ok.frames, hs]
  have hloc : Loc X.env.scope n := .inl hln
  refine wpAny_Try_except ?_
  refine wpAny_mono ((hb (wTup X.K [c1, c2, c3] i ts Wout D) (X.pn ++ pins) (fun e s1 => wpAny (model X.prog X.w) X.A (noteFrame e X.env) (fun _ s2 => wpAny (model X.prog X.w) X.A (setFlight e none) (fun _ s3 =>
    wpAny (model X.prog X.w) X.A (handleBy e X.env [.ExceptHandler (some (.Tuple [.Name x1 p1, .Name x2 p2, .Name x3 p3] kk tp)) (some n) (b0 :: suite) pos']) (SP X pins D) X.xe s3) X.xe s2) X.xe s1) (fun u s' xx => ?_) PassesOwn.looking).run [] s σ H D (I.toTry _) h) (fun f s1 hsp => ?_) (fun e s1 he => he)
  · obtain ⟨a, B, sI, pins', σ', H', cls, d, rfl, J', nb, up, sky, na, os, ag, b, hb1, hyes, hno⟩ := xx
    have J : Inv X pins σ' H' sI := J'.ofTry ok
    have sky' : Sky B (X.env :: X.outer) a (Zc cls d) X.env.locals s'.heap := by rw [← hs]; exact sky
    show wpAny (model X.prog X.w) X.A (noteFrame (.ref a) X.env) _ _ _
    refine Sky.land Zc.steady hfr hf sky' fun h3 fl3 up3 => ?_
    have J3 : Inv X pins σ' H' { s' with heap := h3 } := J.landed nb fl3.1 (up.trans up3) os ag
    obtain ⟨oe3, vs3, he3, hz3, hd3⟩ := fl3.there
    have notFr : ∀ {h : Heap} {o : Obj} {vs : Array Value}, h.FunFrames B (X.env :: X.outer) → h.get? a = some o → o.data = .fields vs → a ∉ frs (X.env :: X.outer) := by
      intro h o vs ff e dd hm
      obtain ⟨_, o', e', hnf⟩ := ff.mem hm
      rw [e] at e'
      cases e'
      exact hnf _ dd
    have nfr := notFr fl3.2.2.1 he3 hd3
    have nL : a ≠ X.env.locals := fun z => nfr (List.mem_filterMap.mpr ⟨X.env, List.mem_cons_self, by rw [hf, z]⟩)
    have nF : a ∉ X.fs := by
      intro hm
      obtain ⟨e, he, q⟩ := List.mem_filterMap.mp hm
      exact nfr (List.mem_filterMap.mpr ⟨e, List.mem_cons_of_mem _ he, q⟩)
    have nB : X.base.get? a = none := by
      cases q : X.base.get? a with
      | none => rfl
      | some o =>
        have z := nb a o (J.bk a o q) (by rw [hs]; exact nfr)
        rw [fl3.2.1] at z
        cases z
    have S3 := J3.suite he3 hd3 na nL nF
    refine wpAny_handleBy_cons (codeAny_handlers_test ?_) (by intro q; cases q)
    have m1 : Names (X.suite a ((a, oe3) :: (X.pn ++ pins))) x1 c1 := n1
    have m2 : Names (X.suite a ((a, oe3) :: (X.pn ++ pins))) x2 c2 := n2
    have m3 : Names (X.suite a ((a, oe3) :: (X.pn ++ pins))) x3 c3 := n3
    refine wpAny_Tuple (wpAny_items_cons (ld_names (M := ()) S3 m1 (wpAny_items_cons (ld_names (M := ()) S3 m2 (wpAny_items_cons (ld_names (M := ()) S3 m3 (wpAny_items_nil ⟨by size_fits, ?_⟩)))))))
    have kp : ∀ q o, h3.get? q = some o → (h3.push { cls := .type "tuple", data := .seq [c1, c2, c3].toArray }).get? q = some o := fun _ _ z => Heap.get?_push_of_some _ z
    have LT : PySem.W.Looks (model X.prog X.w) h3 (typeOf (.ref a)) cls := fun A Q E s k q => wpAny_typeOf_ref (k _ _ he3) (by rw [hz3.1]; exact q)
    have LM := PySem.W.exm_tup3 (M := model X.prog X.w) ((J3.kIn).keeps kp) (LT.keeps kp) (Heap.get?_push_size h3 rfl) hb1
    refine LM.here ?_
    have fl5 := flyingZ_keeps fl3 kp
    have up5 : h3.UpToSlots (h3.push { cls := .type "tuple", data := .seq [c1, c2, c3].toArray }) := Heap.UpToSlots.of_keeps kp
    cases b with
    | true =>
      refine codeAny_handlers_suite_as ?_
      refine PySem.HandSPX.lands_againZ fl5 fun h4 fl4 up4 => ?_
      have J4 : Inv X pins σ' H' { s' with heap := h4 } := J.landed nb fl4.1 (((up.trans up3).trans up5).trans up4) os ag
      obtain ⟨oe4, vs4, he4, hz4, hd4⟩ := fl4.there
      have S4 := J4.suite he4 hd4 na nL nF
      refine store_ok (X := X.suite a ((a, oe4) :: (X.pn ++ pins))) (v := .ref a) S4 hN hi hloc rfl (fun s5 S5 => ?_) (.inr hln)
      refine wpAny_mono ((hsu a oe4 cls d (X.pn ++ pins) nB).run [] s5 _ H' _ S5 (hyes rfl a oe4 na hz4 ⟨_, hd4⟩)) (fun f s6 hsp => ?_) (fun _ _ z => False.elim z)
      have end_ : ∀ {σ6 : L2.St} {H6 : Hp} {Q : Shared → Prop}, Inv (X.suite a ((a, oe4) :: (X.pn ++ pins))) [] σ6 H6 s6 → (∀ s7, Inv X pins (σ6.set i none) H6 s7 → Q s7) →
          wpAny (model X.prog X.w) X.A (do bindName X.env n .none; unbindBehindTheSuite X.env n pos') (fun _ s7 => Q s7) X.xe s6 := fun {σ6 H6 Q} S6 hq => gone_ok (S6.unsuite ok) hN hi hln hq
      cases f with
      | next =>
        obtain ⟨σ6, H6, S6, q6⟩ := hsp
        exact end_ S6 fun s7 J7 => ⟨_, _, J7, q6⟩
      | brk =>
        obtain ⟨σ6, H6, S6, q6⟩ := hsp
        exact end_ S6 fun s7 J7 => ⟨_, _, J7, q6⟩
      | cont =>
        obtain ⟨σ6, H6, S6, q6⟩ := hsp
        exact end_ S6 fun s7 J7 => ⟨_, _, J7, q6⟩
      | ret u =>
        obtain ⟨v6, σ6, H6, S6, r6, q6⟩ := hsp
        exact end_ S6 fun s7 J7 => ⟨_, _, _, J7, r6, q6⟩
    | false =>
      show wpAny _ X.A (handleBy (.ref a) X.env []) _ _ _
      refine wpAny_handleBy_nil ?_
      obtain ⟨k1, k2, k3, oe, vs, T, oT, ts', he, hz, hd, h1, hr⟩ := id fl5
      unfold PySem.passOn
      refine wpAny_bind (wpAny_field he hd h1 ?_)
      rw [if_neg (show ¬ ((Value.ref T == Value.none) = true) from by simp)]
      have fin : wpAny (model X.prog X.w) X.A (setFlight (.ref a) X.env.frame) (fun _ s4 => wpAny (model X.prog X.w) X.A (throw (.ref a) : Sem Flow) (SP X pins D) X.xe s4) X.xe { s' with heap := h3.push { cls := .type "tuple", data := .seq [c1, c2, c3].toArray } } := by
        rw [hf]
        refine PySem.HandSPX.setFlight_upZ fl5 fun h4 hh4 up4 => wpAny_throw (tk _ _ ?_)
        exact ⟨a, B, sI, pins, σ', H', cls, d, rfl, J, nb, ((up.trans up3).trans up5).trans up4, .inr (.inr (by rw [hs]; exact hh4)), na, os, ag, hno rfl⟩
      first
        | exact wpAny_bind (wpAny_pure (wpAny_bind fin))
        | exact wpAny_bind fin
  · cases f with
    | next =>
      obtain ⟨σ', H', J', q⟩ := hsp
      exact wpAny_execs_nil ⟨σ', H', J'.ofTry ok, q⟩
    | brk =>
      obtain ⟨σ', H', J', q⟩ := hsp
      exact ⟨σ', H', J'.ofTry ok, q⟩
    | cont =>
      obtain ⟨σ', H', J', q⟩ := hsp
      exact ⟨σ', H', J'.ofTry ok, q⟩
    | ret u =>
      obtain ⟨v, σ', H', J', r, q⟩ := hsp
      exact ⟨v, σ', H', J'.ofTry ok, r, q⟩
end
end Z

/-! Defs that raise an exception of the program; a lambda handed to a def that tells how its call ends. -/
namespace Z
open PySem PySem.Spec PyProof.Rows L2 ZX
/-- raise X(e): X is put at no address that is known, its own dict at d -/
def tMk (mg : Str → Option Value) (x f : Str) (ta : TA) : L2.St → Hp → XK → Prop := fun σ H Q => ta σ H fun vs H1 => ∃ v, vs = [v] ∧ ∀ d, H1 d = none → Q (.ref (clsA mg x)) (some d) (upd H1 d (.xd [(f, v)]))
section
variable {X : Cx} {x f : Str} {p pos : Pos} {e : Expr} {ta : TA}
theorem pmk_x1 (T : ExM X.prog X.K X.mg x f) (hr : Room 2 X.A) (ha : PA X [e] ta) (hg : Gl X x := by rfl) (hdb : (x == ("__debug__" : Str)) = false := by decide)
    (he : starEach [e] X.env = (false, eval e X.env) :: starEach [] X.env := by rfl) (hpl : (backTo pos (starEach [] X.env)).any (·.1) = false := by rfl) : PMk X (.Call (.Name x p) [e] [] pos) (tMk X.mg x f ta) := by
  intro pins s σ H Q I h
  refine wpAny_Call_Name_kw (ld_glob I hg T.at_ ?_ hdb)
  refine PySem.W.callWith_K (h₀ := X.base) I.ok.mod.kin T.kp (thn (ha.run pos pins s σ H _ I h) fun us s1 ⟨vs, H1, I1, r1, v, ev, q1⟩ => ⟨I1.kIn, ?_⟩) he hpl
  subst ev
  cases r1 with
  | cons rv rn =>
    cases rn
    obtain ⟨B, newId, initId, bmB, fI, a0, a1, a2, a3, a4, b0, b1, b2, b3, p0, p1, W, hs⟩ := T.made
    refine wpAny_call (ex_made1 W T.fn T.no hs (modH I1) T.sup (by have := hr.dp; omega) (.inl ⟨rfl, rfl⟩) fun h' tk a d M => ?_)
    have na : H1 a = none := I1.hok.fresh M.new
    have nd : H1 d = none := I1.hok.fresh M.dbig
    obtain ⟨G, g1, g2⟩ := restrict h' fun b => decide (b ≠ a)
    have gk : ∀ b, b ≠ a → G.get? b = h'.get? b := fun b hb => g1 b (decide_eq_true hb)
    have ge : G.get? a = none := g2 a (by simp)
    have old : ∀ b o, s1.heap.get? b = some o → G.get? b = some o := fun b o q => (gk b (Nat.ne_of_lt (Nat.lt_of_lt_of_le (Heap.lt_size q) M.new))).trans (M.keep b o q)
    have J : Inv X pins σ (upd H1 d (.xd [(f, _)])) { s1 with heap := G, toks := tk } := I1.laid (t' := tk) old M.dbig ⟨_, M.ns.at fun o q => (gk d M.dne).trans q, relO1 rv⟩
    obtain ⟨t, ho⟩ := M.obj
    refine ⟨a, _, _, _, _, .ref (clsA X.mg x), some d, rfl, J, fun b o q => ?_, ge, ho, ⟨rfl, rfl⟩, rfl, rfl, ?_, rfl, I1.bare, raises_own T.k.ex T.ty, q1 d nd⟩
    · by_cases hb : b = a
      · have q' : G.get? b = some o := q
        rw [hb, ge] at q'
        cases q'
      · exact (gk b hb).symm.trans q
    · rw [upd_ne (Ne.symm M.dne)]
      exact na
end
/-- X(v) leaves the def -/
def Rz (mg : Str → Option Value) (E : XK) (H : Hp) (x f : Str) (v : V) : Prop := ∀ d H', Same H H' → H' d = some (.xd [(f, v)]) → E (.ref (clsA mg x)) (some d) H'
theorem Rz.to {mg : Str → Option Value} {E : XK} {H : Hp} {x f : Str} {v : V} {d : Addr} (r : Rz mg E H x f v) (n : H d = none) : E (.ref (clsA mg x)) (some d) (upd H d (.xd [(f, v)])) := r d _ (same_new n) upd_same
theorem Rz.after {mg : Str → Option Value} {E : XK} {H H1 : Hp} {x f : Str} {v : V} (r : Rz mg E H x f v) (s : Same H H1) : Rz mg E H1 x f v := fun d H' t e => r d H' (s.trans t) e
/-- what a def that is called lets out goes on -/
theorem passX {X : Cx} {E : XK} (hs : X.stack = X.env :: X.outer := by rfl) (hf : X.env.frame = some X.env.locals := by rfl) (hex : X.ex = [] := by rfl) {E1 : Value → Shared → Prop}
    (hx : X.xe = fun e s' => wpAny (model X.prog X.w) X.A (leaving X.env e) (fun _ s'' => L2.CX X.prog X.w X.outer X.H_0 X.s_0 E e s'') E1 s' := by rfl) : Passes (L2.CX X.prog X.w) X E := passes_call (takes_of hs hf hex hx) fun _ _ _ _ h => h
theorem takes_len {X : Cx} {W : WX} (t : Takes X W) : Takes X (fun cls d σ H => σ.length = X.N.length → W cls d σ H) := fun u s' ⟨a, B, sI, pins, σ, H, cls, d, e, I, nb, up, sky, na, os, ag, w⟩ =>
  t u s' ⟨a, B, sI, pins, σ, H, cls, d, e, I, nb, up, sky, na, os, ag, w I.len⟩
/-- one of several defs that may raise, in a slot -/
structure HeldX (P : Program) (w : World) (K : PySem.W.Frag) (mg : Str → Option Value) (base : Heap) (k : Nat) (f : Addr) (sp : Sp) : Prop where
  ex : ∃ (fd : FuncData) (ps : List Str), FnOk P w K mg base (L2.CX P w) k f fd ps sp ∧ PySem.W.keepIn K (.ref f) = true ∧ Binds K fd ps []
theorem HeldX.of {P : Program} {w : World} {K : PySem.W.Frag} {mg : Str → Option Value} {base : Heap} {j k : Nat} {x : Str} {st : Stmt} {ps : List Str} {sp : Sp} (h : Hd P w K mg base (L2.CX P w) j x st ps sp) (le : j ≤ k) : HeldX P w K mg base k (clsA mg x) sp := by
  obtain ⟨f, fd, F, hm, G⟩ := h.ex
  rw [clsA_of hm]
  exact ⟨fd, ps, G.mono le, F.kp, F.binds (h.bd x)⟩
def tHeldX (i : Nat) (A : Addr → Sp → Prop) (E : XK) (t : TA) : TE := fun σ H Q => ∃ f sp, σ[i]? = some (some (.ref f)) ∧ A f sp ∧ t σ H fun vs H1 => sp vs H1 Q E
section
variable {X : Cx} {k i : Nat} {x : Str} {p pos : Pos} {e : Expr} {es : List Expr} {t : TA} {E : XK} {A : Addr → Sp → Prop}
theorem pe_heldX (hA : ∀ f sp, A f sp → HeldX X.prog X.w X.K X.mg X.base k f sp) (hr : Room k X.A) (hN : X.N[i]? = some x) (hv : Vis X.env.scope x) (hx : Passes (L2.CX X.prog X.w) X E) (ha : PA X (e :: es) t)
    (hdb : (x == ("__debug__" : Str)) = false := by decide) (hcd : (x == ("__classdict__" : Str)) = false := by decide)
    (he : starEach (e :: es) X.env = (false, eval e X.env) :: starEach es X.env := by rfl) (hpl : (backTo pos (starEach es X.env)).any (·.1) = false := by rfl) : PE X (.Call (.Name x p) (e :: es) [] pos) (tHeldX i A E t) := by
  refine ⟨fun pins s σ H Q I h => ?_⟩
  obtain ⟨f, sp, hs, hf, ht⟩ := h
  obtain ⟨fd, ps, F, hk, hb⟩ := (hA f sp hf).ex
  refine (pe_callL (i := i) (f := f) (sp := sp) (dvs := []) (E := E) F hr hN hv hk hb .nil hx ha hdb hcd he hpl).run pins s σ H Q I ⟨hs, ?_⟩
  have e0 : (fun (vs : List V) (H1 : Hp) => sp (vs ++ []) H1 Q E) = fun vs H1 => sp vs H1 Q E := by
    funext vs H1
    rw [List.append_nil]
  show t σ H (fun vs H1 => sp (vs ++ []) H1 Q E)
  rw [e0]
  exact ht
end
theorem pe_up {X : Cx} {e : Expr} {t : TE} (he : PE X e t) : PE X e (fun σ H Q => ∃ R : VK, t σ H R ∧ ∀ v H', R v H' → Q v H') := ⟨fun pins s σ H Q I ⟨R, h, m⟩ => thn (he.run pins s σ H R I h) fun u s1 ⟨v, H1, I1, r, q⟩ => ⟨v, H1, I1, r, m v H1 q⟩⟩
theorem op_neDK {X : Cx} {K : PySem.W.Frag} (hu : X.A.units + 64 < cLine) (hK : X.K = K := by rfl) : OpR X (compareOp .NotEq) (rNeD K) := by
  subst hK
  exact op_neD hu
theorem op_eqDK {X : Cx} {K : PySem.W.Frag} (hu : X.A.units + 64 < cLine) (hK : X.K = K := by rfl) : OpR X (compareOp .Eq) (rEqD K) := by
  subst hK
  exact op_eqD hu
/-- the name of a def, as a value -/
theorem at_of {K : PySem.W.Frag} {mg : Str → Option Value} {x : Str} {st : Stmt} (h : ∃ f fd, Fun K x x st f fd ∧ mg x = some (.ref f)) : mg x = some (.ref (clsA mg x)) := by
  obtain ⟨f, fd, _, hm⟩ := h
  rw [clsA_of hm]
  exact hm
theorem same_lend {H H2 : Hp} {a : Addr} {o : HO} (na : H a = none) (s : Same (upd H a o) H2) : H2 a = some o ∧ Same H (delH H2 a) := by
  refine ⟨s _ _ upd_same, fun b u e => ?_⟩
  have hb : b ≠ a := ne_of_none e na
  rw [delH_ne hb]
  exact s b u (by rw [upd_ne hb]; exact e)
/-- a def whose code object stands at c -/
structure FunC (K : PySem.W.Frag) (mg : Str → Option Value) (c : Addr) (x : Str) (st : Stmt) : Prop where
  ex : ∃ (f : Addr) (fd : FuncData), Fun K x x st f fd ∧ mg x = some (.ref f) ∧ fd.code = .ref c
section
variable {P : Program} {w : World} {K : PySem.W.Frag} {mg : Str → Option Value} {base : Heap}
/-- a def by its body, under no guard, its code object known -/
theorem fun_okC {x qual : Str} {st : Stmt} {f c : Addr} {fd : FuncData} {N ps : List Str} {k : Nat} {sp : Sp} (F : Fun K x qual st f fd) (hc : fd.code = .ref c) (S : FnScope N ps (defScope st)) (few : ∀ vs H Q E, sp vs H Q E → vs.length = ps.length)
    (body : ∀ (A : Around) (outer : List Env) (s : Shared) (H : Hp) (vs : List V) (Q : VK) (E : XK), Room k (A.deeper (envOfC qual (defScope st) s.heap.objs.size f (.ref c))) → A.guards = some [] → sp vs H Q E →
      ∃ t, PSs (cxOf CX0 P w K mg base N qual (defScope st) f (.ref c) A outer s H E).nox (defBody st) t ∧ t { nx := fun _ H' => Q .non H', rt := Q } (start N vs) H) : FnG P w K mg base CX0 (k + 1) f fd ps sp := by
  obtain ⟨oc, od, kV, doc, pm, an, cdv, ct, osl, rfl, lk, isCode⟩ := F.ex
  have ec : cdv = .ref c := hc
  subst ec
  refine ⟨few, fun A outer s H args us vs Q E room gd here binds rel told => ?_⟩
  have inK : K.In s.heap := here.mod.kin.keeps fun b o e => (here.bs b o e).1
  have kinds : ∀ y ∈ ps.zip us, (defScope st).names.lookup y.1 = some .local ∨ ((defScope st).names.lookup y.1 = some .cell ∧ ((cellsFrom (s.heap.objs.size + 1) (defScope st).names []).lookup y.1).isSome = true) := by
    rintro ⟨n, v⟩ hy
    rcases S.par n (List.of_mem_zip hy).1 with q | q
    · exact .inl q
    · exact .inr ⟨q, PySem.W.cellsFrom_some _ _ _ (.inl q)⟩
  refine codeAny_call_function room.depth (inK _ _ lk) rfl S.co S.gen rfl (PySem.W.codeRec_of inK isCode) (binds _ _ _ _ (wpAny_newFunctionEnv_cells S.kind kinds fun env he s1 at1 => ?_))
  subst he
  refine ⟨(here.mod.nolimit.keeps fun b o e => (here.bs b o e).1).keeps at1.toInCall.keep, codeAny_func ?_⟩
  obtain ⟨t, ht, hq⟩ := body A outer s H vs Q E (room.deeper _) gd told
  have I0 : Inv (cxOf CX0 P w K mg base N qual (defScope st) f (.ref c) A outer s H E) [] (start N vs) H s1 := inv_start S room.hd here (few _ _ _ _ told) rel at1
  refine wpAny_mono (ht.nox.run [] s1 (start N vs) H _ I0 hq) (fun fl s' done => ?_) fun e s' done => done
  match fl, done with
  | .ret u, ⟨v, _, H', J, rv, q⟩ => exact ⟨v, H', J.os, J.bare, J.base, J.hok, rv, q⟩
  | .next, ⟨_, H', J, q⟩ => exact ⟨V.non, H', J.os, J.bare, J.base, J.hok, rfl, q⟩
  | .brk, ⟨_, _, _, q⟩ => exact q.elim
  | .cont, ⟨_, _, _, q⟩ => exact q.elim
end
end Z

/-! The law's own call, under no guard, where defs of the module make lambdas. -/
namespace Z
open PySem PySem.Spec PyProof.Rows L2
section
variable {P : Program} {w : World} {K : PySem.W.Frag} {mg mb : Str → Option Value} {k : Nat} {fa a : Addr} {fd : FuncData} {x : Str} {sp : Sp} {s1 : Shared} {vs : List Value} {ns : List Int} {cs : List (Addr × Addr)}
/-- from one abstract heap in which the script and the tables alone may be tracked -/
theorem start_callT (inK : K.In s1.heap) (nsG : s1.heap.Ns mainGlobals mg) (nsB : s1.heap.Ns builtinsNs mb) (boot : ∀ x : Str, x ≠ "__name__" → mb x = bootBuiltins x) (noLim : s1.heap.NoLimit) (noGen : s1.gens = #[])
    (here : s1.heap.get? a = some { cls := .type "list", data := .seq vs.toArray }) (room : Room k callerA)
    (emp : ∀ b ∈ cs.map (·.2), s1.heap.get? b = some { cls := .none, data := .fields #[] }) (outK : ∀ b ∈ cs.map (·.2), K.lookup b = none) (codes : ∀ p ∈ cs, PySem.W.CodeHd s1.heap p.1 p.2)
    (bmain : ∃ (m : Addr) (u : Obj), mg "__builtins__" = some (.ref m) ∧ m ≠ builtinsNs ∧ s1.heap.get? m = some u ∧ u.cls = .type "module" ∧ u.dict = some builtinsNs ∧ u.data = .plain)
    (F : ∀ base : Heap, K.In base → base.Ns mainGlobals mg → (∀ p ∈ cs, LamX.TabB base mg p.1 p.2) → FnG P w K mg base CX0 k fa fd [x] sp)
    (bind : ∀ (s : Shared) (u : Value), BindsTo s fd ⟨[u], []⟩ [(x, u)]) (H : Hp) (tabs : ∀ b ∈ cs.map (·.2), H b = some (.tbl #[])) (only : ∀ b, H b = none ∨ b ∈ cs.map (·.2) ∨ ∃ o xs, H b = some (.frz o (.lst xs)))
    (told : sp [.ref a] H (fun v _ => v = .bl true) fun _ _ _ => False) (ok : HOk P w H s1.heap) (one : ∀ b, H b ≠ none → b = a ∨ b ∈ cs.map (·.2)) (out : H a ≠ none → K.lookup a = none) :
    codeAny (model P w) callerA (.call (.ref fa) ⟨[.ref a], []⟩) (fun r s' => r = .ok (.ret (.bool true)) ∧ OldK s1.heap s'.heap ∧ s'.os = s1.os ∧ AllBare s'.gens) s1 := by
  have mem : ∀ p ∈ cs, p.2 ∈ cs.map (·.2) := fun p hp => List.mem_map.mpr ⟨p, hp, rfl⟩
  -- what is neither a list nor an empty record is not tracked
  have free : ∀ {b : Addr} {o : Obj}, s1.heap.get? b = some o → (∀ z n, o.data ≠ .seq z n) → o.data ≠ .fields #[] → H b = none := by
    intro b o e n1 n2
    cases q : H b with
    | none => rfl
    | some u =>
      rcases one b (by rw [q]; exact fun z => nomatch z) with y | y
      · rw [y, here] at e
        cases e
        exact absurd rfl (n1 _ _)
      · rw [emp b y] at e
        cases e
        exact absurd rfl n2
  have nsK : ∀ {b : Addr} {m : Str → Option Value}, s1.heap.Ns b m → (hidT s1.heap H).Ns b m := by
    rintro b m ⟨o, es, ep, e, d, r⟩
    exact ⟨o, es, ep, hidT_get e (free e (fun z n y => by rw [d] at y; cases y) fun y => by rw [d] at y; cases y), d, r⟩
  have inH : K.In (hidT s1.heap H) := by
    intro b o e
    refine hidT_get (inK b o e) ?_
    cases q : H b with
    | none => rfl
    | some u =>
      have hb : H b ≠ none := by rw [q]; exact fun z => nomatch z
      rcases one b hb with y | y
      · rw [y] at hb e
        rw [out hb] at e
        cases e
      · rw [outK b y] at e
        cases e
  have md : Mod K mg (hidT s1.heap H) := ⟨inH, nsK nsG, ⟨mb, nsK nsB, boot⟩, noLim.elim fun mc h => ⟨mc, nsK h.1, h.2⟩⟩
  have nil : ∀ {b : Addr}, b ∉ frs [] := fun {b} z => List.not_mem_nil z
  have e0 : Env0 P w K mg (hidT s1.heap H) callerA [] s1 H := { frames := rfl, mod := md, bs := fun b o e => of_hidT e, bsz := Nat.le_of_eq (hidT_size _ _), funs := trivial, frf := fun b hb => absurd hb nil, hok := ok, bare := .of_eq noGen }
  have notDict : ∀ {b d : Addr} {m : Str → Option Value}, b ∈ cs.map (·.2) → s1.heap.Ns d m → d ≠ b := by
    rintro b d m hb ⟨o, es, ep, e, hd, _⟩ z
    rw [z, emp b hb] at e
    cases e
    cases hd
  have TB : ∀ p ∈ cs, LamX.TabB (hidT s1.heap H) mg p.1 p.2 := by
    intro p hp
    obtain ⟨o, us, file, tf, flags, tg, inF, text, tt, e1, r1, r2, r3, rest⟩ := codes p hp
    refine ⟨⟨o, us, file, tf, flags, tg, inF, text, tt, hidT_get e1 (free e1 (fun z n y => by rw [r2] at y; cases y) fun y => ?_), r1, r2, r3, rest⟩, ?_, notDict (mem p hp) nsG⟩
    · rw [r2] at y
      cases y
      simp at r3
    · obtain ⟨m, u, b1, b2, b3, b4, b5, b6⟩ := bmain
      refine ⟨m, u, b1, b2, fun y => ?_, fun y => ?_, hidT_get b3 (free b3 (fun z n y => by rw [b6] at y; cases y) fun y => by rw [b6] at y; cases y), b4, b5, b6⟩
      · obtain ⟨o, es, ep, e, hd, _⟩ := nsG
        rw [y, e] at b3
        cases b3
        rw [hd] at b6
        cases b6
      · rw [y, emp _ (mem p hp)] at b3
        cases b3
        cases b6
  refine codeAny_mono ((F _ inH (nsK nsG) TB).goes callerA [] s1 H ⟨[.ref a], []⟩ [.ref a] [.ref a] _ _ room rfl e0 (bind s1 (.ref a)) (.cons rfl .nil) told) fun r s' h => ?_
  match r, h with
  | .error e, h => exact h.elim
  | .ok .next, h => exact h.elim
  | .ok .brk, h => exact h.elim
  | .ok .cont, h => exact h.elim
  | .ok (.ret u), ⟨v, H', os, bare, un, ok', ru, (hv : v = .bl true)⟩ =>
    subst hv
    cases (show u = Value.bool true from ru)
    have stays : ∀ b o, b ∉ cs.map (·.2) → s1.heap.get? b = some o → s'.heap.get? b = some o := by
      intro b o nb e
      cases q : H b with
      | none => exact un.keep b o e q nil List.not_mem_nil
      | some u =>
        rcases only b with z | z | ⟨ob, xs, z⟩
        · rw [q] at z
          cases z
        · exact absurd z nb
        · have z1 := (ok b _ z).1
          have z2 := (ok' b _ (un.frzs b ob _ z)).1
          rw [e] at z1
          cases z1
          exact z2
    have grew : ∀ b ∈ cs.map (·.2), ∃ more : Array Value, s'.heap.get? b = some { cls := .none, data := .fields more } := by
      intro b hb
      obtain ⟨more, z⟩ := un.tbls b #[] (tabs b hb)
      exact ⟨_, ok' b _ z⟩
    refine ⟨rfl, ⟨fun b o e => ?_, fun b o e => ?_⟩, os, bare⟩
    · by_cases hb : b ∈ cs.map (·.2)
      · obtain ⟨more, z⟩ := grew b hb
        obtain ⟨p, hp, y⟩ := List.mem_map.mp hb
        rw [emp b hb] at e
        cases e
        have hE := emp b hb
        subst y
        exact .inr (.inl ⟨((codes p hp).tab hE).isCodeTable, rfl, #[], more, rfl, by rw [Array.empty_append]; exact z⟩)
      · exact .inl (stays b o hb e)
    · by_cases hb : b ∈ cs.map (·.2)
      · obtain ⟨more, z⟩ := grew b hb
        exact ⟨_, z⟩
      · exact ⟨o, stays b o hb e⟩
theorem law_callT (inK : K.In s1.heap) (nsG : s1.heap.Ns mainGlobals mg) (nsB : s1.heap.Ns builtinsNs mb) (boot : ∀ x : Str, x ≠ "__name__" → mb x = bootBuiltins x) (noLim : s1.heap.NoLimit) (noGen : s1.gens = #[])
    (here : s1.heap.get? a = some { cls := .type "list", data := .seq vs.toArray }) (hints : IntsAre vs ns) (few : ns.length ≤ sizeLine) (room : Room k callerA)
    (emp : ∀ b ∈ cs.map (·.2), s1.heap.get? b = some { cls := .none, data := .fields #[] }) (outK : ∀ b ∈ cs.map (·.2), K.lookup b = none) (codes : ∀ p ∈ cs, PySem.W.CodeHd s1.heap p.1 p.2)
    (bmain : ∃ (m : Addr) (u : Obj), mg "__builtins__" = some (.ref m) ∧ m ≠ builtinsNs ∧ s1.heap.get? m = some u ∧ u.cls = .type "module" ∧ u.dict = some builtinsNs ∧ u.data = .plain)
    (F : ∀ base : Heap, K.In base → base.Ns mainGlobals mg → (∀ p ∈ cs, LamX.TabB base mg p.1 p.2) → FnG P w K mg base CX0 k fa fd [x] sp)
    (bind : ∀ (s : Shared) (u : Value), BindsTo s fd ⟨[u], []⟩ [(x, u)]) (told : ∀ H : Hp, (∀ b ∈ cs.map (·.2), H b = some (.tbl #[])) → SqL K H a (ns.map V.int) → sp [.ref a] H (fun v _ => v = .bl true) fun _ _ _ => False) :
    codeAny (model P w) callerA (.call (.ref fa) ⟨[.ref a], []⟩) (fun r s' => r = .ok (.ret (.bool true)) ∧ OldK s1.heap s'.heap ∧ s'.os = s1.os ∧ AllBare s'.gens) s1 := by
  have rel := vals_ints hints
  have aT : a ∉ cs.map (·.2) := fun hb => by
    have e := emp a hb
    rw [here] at e
    cases e
  cases kept : K.lookup a with
  | some o =>
    have e := inK a o kept
    rw [here] at e
    cases e
    let H : Hp := fun b => if b ∈ cs.map (·.2) then some (.tbl #[]) else none
    have yes : ∀ b ∈ cs.map (·.2), H b = some (.tbl #[]) := fun b hb => if_pos hb
    have no : ∀ b, b ∉ cs.map (·.2) → H b = none := fun b hb => if_neg hb
    refine start_callT inK nsG nsB boot noLim noGen here room emp outK codes bmain F bind H yes (fun b => ?_) (told H yes (.inr ⟨_, vs.toArray, _, kept, rfl, rfl, rfl, by rw [List.size_toArray, hints.length]; exact few, rel⟩)) (fun b u z => ?_) (fun b z => ?_) fun z => absurd (no a aT) z
    · by_cases hb : b ∈ cs.map (·.2)
      · exact .inr (.inl hb)
      · exact .inl (no b hb)
    · by_cases hb : b ∈ cs.map (·.2)
      · rw [yes b hb] at z
        cases z
        exact emp b hb
      · rw [no b hb] at z
        cases z
    · exact .inr (Classical.byContradiction fun hb => z (no b hb))
  | none =>
    let H : Hp := fun b => if b = a then some (.frz { cls := .type "list", data := .seq vs.toArray } (.lst (ns.map V.int))) else if b ∈ cs.map (·.2) then some (.tbl #[]) else none
    have at_a : H a = some (.frz { cls := .type "list", data := .seq vs.toArray } (.lst (ns.map V.int))) := if_pos rfl
    have yes : ∀ b ∈ cs.map (·.2), H b = some (.tbl #[]) := fun b hb => (if_neg (show ¬ b = a from fun z => aT (by rw [← z]; exact hb))).trans (if_pos hb)
    have no : ∀ b, b ≠ a → b ∉ cs.map (·.2) → H b = none := fun b n hb => (if_neg n).trans (if_neg hb)
    refine start_callT inK nsG nsB boot noLim noGen here room emp outK codes bmain F bind H yes (fun b => ?_) (told H yes (.inl (.inr ⟨_, at_a⟩))) (fun b u z => ?_) (fun b z => ?_) fun _ => kept
    · by_cases n : b = a
      · exact .inr (.inr ⟨_, _, n ▸ at_a⟩)
      · by_cases hb : b ∈ cs.map (·.2)
        · exact .inr (.inl hb)
        · exact .inl (no b n hb)
    · by_cases n : b = a
      · subst n
        rw [at_a] at z
        cases z
        exact ⟨here, by rw [List.length_map]; exact few, vs, _, rel, here⟩
      · by_cases hb : b ∈ cs.map (·.2)
        · rw [yes b hb] at z
          cases z
          exact emp b hb
        · rw [no b n hb] at z
          cases z
    · by_cases n : b = a
      · exact .inl n
      · exact .inr (Classical.byContradiction fun hb => z (no b n hb))
end
/-- where y's code object stands, and its table -/
structure Tells (h : Heap) (mg : Str → Option Value) (y : Str) (c P0 : Addr) : Prop where
  ex : ∃ (f : Addr) (o : Obj) (fd : FuncData), mg y = some (.ref f) ∧ h.get? f = some o ∧ o.data = .func fd ∧ fd.code = .ref c
  tab : h.TableAt c P0 #[]
theorem walk_GT {l : PySem.W.OpenLaw} {n k : Nat} {q : Program} {loose : List Str} {XP : (Str → Option Value) → Heap → Prop} {YP : World → Heap → Prop} {d : DefRec} {K : Params → PySem.W.Frag} {sp : PySem.W.Frag → Addr → Sp} {x y : Str}
    (hn : l.most = some n) (hn2 : n ≤ sizeLine) (hdf : d.params.defaults = []) (room : Room k callerA) (rec : ((recsOf q).any fun e => e.name == y) = true) (hY : ∀ (w : World) (h : Heap), YP w h → (K w.params).In h)
    (F : ∀ (w : World) (mg : Str → Option Value) (fa c P0 : Addr) (h : Heap), (K w.params).In h → h.Ns mainGlobals mg → mg d.name = some (.ref fa) → Tells h mg y c P0 →
      (K w.params).lookup P0 = none ∧ ∃ fd : FuncData, (∀ (s : Shared) (u : Value), BindsTo s fd ⟨[u], []⟩ [(x, u)]) ∧ ∀ base : Heap, (K w.params).In base → base.Ns mainGlobals mg → LamX.TabB base mg c P0 → FnG l.prog w (K w.params) mg base CX0 k fa fd [x] (sp (K w.params) P0))
    (told : ∀ (K : PySem.W.Frag) (H : Hp) (a P0 : Addr) (ns : List Int), ns.length ≤ n → H P0 = some (.tbl #[]) → SqL K H a (ns.map V.int) → sp K P0 [.ref a] H (fun v _ => v = .bl true) fun _ _ _ => False) :
    PySem.W.WalkO q loose XP YP l.row.toRowW d [] (fun f vs => PySem.call f vs) := by
  refine Att.attach_callB hn hdf fun w s0 s1 mg mb fa o pm cd doc a vs ns G Y ho hd hcd hmg hobj hints hlen hbits hg => ?_
  obtain ⟨r, hr, er⟩ := List.any_eq_true.mp rec
  have er : r.name = y := beq_iff_eq.mp er
  obtain ⟨fy, oy, fdy, c, P0, m1, m2, m3, m4, m5, m6⟩ := G.T.tab r hr
  rw [er] at m1
  obtain ⟨out, fd, hb, hF⟩ := F w mg fa c P0 _ (hY w _ Y) G.T.g hmg ⟨⟨fy, oy, fdy, m1, m2, m3, m4⟩, m6⟩
  have one : ∀ b ∈ [(c, P0)].map (·.2), b = P0 := fun b h => List.mem_singleton.mp h
  have only : ∀ p ∈ [(c, P0)], p = (c, P0) := fun p h => List.mem_singleton.mp h
  refine law_callT (cs := [(c, P0)]) (hY w _ Y) G.T.g G.T.b G.T.builtins G.T.nolimit hg hobj hints (Nat.le_trans hlen hn2) room (fun b h => by rw [one b h]; exact m6.2) (fun b h => by rw [one b h]; exact out) (fun p h => by rw [only p h]; exact .of m5 m6) G.T.bmain
    (fun base h1 h2 h3 => hF base h1 h2 (h3 _ (.head _))) hb fun H hH hS => told _ H a P0 ns hlen (hH P0 (.head _)) hS
end Z

/-! Raising defs called by quiet ones; enumerate of a list or a tuple; classes made with *rows; classmethods. -/
namespace Z
open PySem PySem.Spec PyProof.Rows L2
/-- a def that may raise, called where it does not -/
theorem passNo {X : Cx} : Passes (L2.CX X.prog X.w) X (fun _ _ _ => False) := fun _ _ _ _ _ _ _ h => by
  obtain ⟨_, _, _, _, _, _, _, _, _, _, _, _, f⟩ := h
  exact f.elim
section
variable {P : Program} {w : World} {K : PySem.W.Frag} {mg : Str → Option Value} {base : Heap} {CX : CXT} {k : Nat} {f : Addr} {fd : FuncData} {ps : List Str} {sp : Sp}
theorem fnOk_quiet (F : FnOk P w K mg base (L2.CX P w) k f fd ps sp) : FnOk P w K mg base CX k f fd ps (fun vs H Q _ => sp vs H Q (fun _ _ _ => False)) :=
  ⟨fun vs H Q E h => F.len vs H Q _ h, fun A outer s H args us vs Q E hr e0 hb hv h => codeAny_mono (F.run A outer s H args us vs Q _ hr e0 hb hv h) fun r s' hq => by
    cases r with
    | error e =>
      obtain ⟨_, _, _, _, _, _, _, _, _, _, _, _, f⟩ := hq
      exact f.elim
    | ok fl =>
      cases fl with
      | ret u => exact hq
      | next => exact hq.elim
      | brk => exact hq.elim
      | cont => exact hq.elim⟩
theorem Hd.quiet {x : Str} {st : Stmt} (h : Hd P w K mg base (L2.CX P w) k x st ps sp) : Hd P w K mg base CX k x st ps (fun vs H Q _ => sp vs H Q (fun _ _ _ => False)) := by
  obtain ⟨f, fd, F, hm, G⟩ := h.ex
  exact ⟨⟨f, fd, F, hm, fnOk_quiet G⟩, h.bd⟩
end
/-! enumerate(xs), xs a list or a tuple -/
def iEnumA (K : PySem.W.Frag) (ta : TA) : TI := fun σ H R => iEnum K ta σ H R ∨ iEnumT K ta σ H R
theorem pi_enumA {X : Cx} {e : Expr} {ta : TA} {p pos tpos : Pos} {elts : List Expr} {kk : Nat} (hg : Gl X "enumerate") (hm : X.mg "enumerate" = none) (ha : PA X [e] ta) (hs : starEach [e] X.env = [(false, eval e X.env)] := by rfl) :
    PI X (.Tuple elts kk tpos) (.Call (.Name "enumerate" p) [e] [] pos) (iEnumA X.K ta) :=
  ⟨fun pins s σ H R I h => h.elim (fun h => (pi_enum hg hm ha hs).run pins s σ H R I h) fun h => (pi_enumT hg hm ha hs).run pins s σ H R I h⟩
/-- a list or a tuple, tracked -/
def RowsAt (H : Hp) (a : Addr) (xs : List V) : Prop := H a = some (.lst xs) ∨ H a = some (.tup xs)
theorem RowsAt.same {H H' : Hp} {a : Addr} {xs : List V} (h : RowsAt H a xs) (s : Same H H') : RowsAt H' a xs := h.imp (s _ _) (s _ _)
theorem for_enA {K : PySem.W.Frag} {σ : L2.St} {H : Hp} {g : TG} {tb : TS} {D : Ends} {ta : TA} {a : Addr} {xs : List V} (hta : ∀ R : List V → Hp → Prop, R [.ref a] H → ta σ H R) (Pv : Nat → L2.St → Hp → Prop) (h0 : Pv 0 σ H) (ha : RowsAt H a xs)
    (hst : ∀ i σ' H', Pv i σ' H' → RowsAt H' a xs ∧ (∀ ys, H a = some (.tup ys) → H' a = some (.tup ys)) ∧ (∀ ys, H a = some (.lst ys) → H' a = some (.lst ys)))
    (hs : ∀ i x σ H', xs[i]? = some x → Pv i σ H' → ∀ N : L2.St → Hp → Prop, (∀ σ' H2, Pv (i + 1) σ' H2 → N σ' H2) → ∀ T, H' T = none → g (.ref T) σ (upd H' T (.tup [.int (i : Nat), x])) fun σ2 H2 => tb { D with nx := N, ct := N, bk := D.nx } σ2 H2)
    (hd : ∀ σ' H', Pv xs.length σ' H' → D.nx σ' H') : tFor (iEnumA K ta) g tb D σ H := by
  rcases ha with ha | ha
  · have z := for_enL (K := K) hta Pv h0 (fun i σ' H' p => SqL.of ((hst i σ' H' p).2.2 xs ha)) hs hd
    exact .inl z
  · have z := for_enT (K := K) hta Pv h0 (fun i σ' H' p => SqT.of ((hst i σ' H' p).2.1 xs ha)) hs hd
    exact .inr z
/-! classes whose __init__ has a star -/
def starSp (sp : Sp) : Sp := fun vs H Q E => ∃ ws rest, vs = ws ++ rest ∧ ws.length = 1 ∧ rest.length ≤ sizeLine ∧ ∀ p, H p = none → sp (ws ++ [V.ref p]) (upd H p (.tup rest)) Q E
structure HdS (P : Program) (w : World) (K : PySem.W.Frag) (mg : Str → Option Value) (base : Heap) (CX : CXT) (k : Nat) (x : Str) (sp : Sp) : Prop where
  ex : ∃ f, Mk K (clsA mg x) f ∧ FnR P w K mg base CX k f (starSp sp)
section
variable {P : Program} {w : World} {K : PySem.W.Frag} {mg : Str → Option Value} {base : Heap} {k : Nat}
theorem fun_okS {x qual pv : Str} {st : Stmt} {N : List Str} {sp : Sp} (T : ClsT K mg x) (M : MethT K mg x "__init__" qual st) (S : FnScope N ["self", pv] (defScope st))
    (h0 : ∀ (kV doc pm : Value) (an : Option Addr) (cdv ct a : Value), bindArgs (PySem.W.fnOf "__init__" qual (defArgs st) (defBody st) (defScope st) .none kV doc pm an cdv ct) ⟨[a], []⟩ = (newTuple [] >>= fun t => pure [(("self" : Str), a), (pv, t)]))
    (h1 : ∀ (kV doc pm : Value) (an : Option Addr) (cdv ct a r : Value) (rs : List Value), bindArgs (PySem.W.fnOf "__init__" qual (defArgs st) (defBody st) (defScope st) .none kV doc pm an cdv ct) ⟨a :: r :: rs, []⟩ = (newTuple (r :: rs) >>= fun t => pure [(("self" : Str), a), (pv, t)]))
    (body : ∀ (f : Addr) (cdv : Value) (A : Around) (outer : List PySem.Env) (s : Shared) (H : Hp) (vs : List V) (Q : VK) (E : XK), Room k (A.deeper (envOfC qual (defScope st) s.heap.objs.size f cdv)) → sp vs H Q E →
      ∃ t, PSs (cxOf (L2.CX P w) P w K mg base N qual (defScope st) f cdv A outer s H E) (defBody st) t ∧ t { nx := fun _ H' => Q .non H', rt := Q } (start N vs) H) : HdS P w K mg base (L2.CX P w) (k + 1) x sp := by
  obtain ⟨f, fd, F, Me⟩ := M
  obtain ⟨oc, od, kV, doc, pm, an, cdv, ct, osl, rfl, lk, hcd⟩ := F.ex
  exact ⟨f, ⟨T.makes, Me.at_, Me.fn, T.kp⟩, StX.fn_star (ps := ["self"]) lk hcd S StX.cxUp (StX.bind_star1 (B := fun l => bindArgs (PySem.W.fnOf "__init__" qual (defArgs st) (defBody st) (defScope st) .none kV doc pm an cdv ct) ⟨l, []⟩) (h0 kV doc pm an cdv ct) (h1 kV doc pm an cdv ct)) (body f cdv)⟩
end
section
variable {X : Cx} {CX : CXT} {k : Nat} {sp : Sp} {E : XK} {x : Str} {p pos : Pos} {e : Expr} {es : List Expr} {t : TA}
theorem pe_mks (h : HdS X.prog X.w X.K X.mg X.base CX k x sp) (c : ClsT X.K X.mg x) (hr : Room (k + 1) X.A) (hg : Gl X x) (hx : Passes CX X E) (ha : PA X (e :: es) t) (hdb : (x == ("__debug__" : Str)) = false := by decide)
    (he : starEach (e :: es) X.env = (false, eval e X.env) :: starEach es X.env := by rfl) (hpl : (backTo pos (starEach es X.env)).any (·.1) = false := by rfl) : PE X (.Call (.Name x p) (e :: es) [] pos) (StX.tMakeR (clsA X.mg x) (starSp sp) E t) := by
  obtain ⟨f, M, F⟩ := h.ex
  exact StX.pe_makeR M F hr hg c.at_ hx ha hdb he hpl
/-- X(*y) -/
theorem pe_mkStar {te : TE} {q : Pos} (h : HdS X.prog X.w X.K X.mg X.base CX k x sp) (c : ClsT X.K X.mg x) (hr : Room (k + 1) X.A) (hg : Gl X x) (hx : Passes CX X E) (he : PE X e te) (hdb : (x == ("__debug__" : Str)) = false := by decide)
    (hst : starEach [.Starred e q] X.env = [(true, eval e X.env)] := by rfl) :
    PE X (.Call (.Name x p) [.Starred e q] [] pos) (fun σ H Q => te σ H fun y H1 => ∃ a xs, y = V.ref a ∧ (SqT X.K H1 a xs ∨ SqL X.K H1 a xs) ∧
      ∀ x' dx, H1 x' = none → H1 dx = none → dx ≠ x' → starSp sp (V.ref x' :: xs) (upd (upd H1 dx (.own x')) x' (.ins (clsA X.mg x) dx [])) (fun v H2 => v = .non ∧ Q (.ref x') H2) E) := by
  obtain ⟨f, M, F⟩ := h.ex
  refine ⟨fun pins s σ H Q I hh => wpAny_Call_Name_kw (ld_glob I hg c.at_ ?_ hdb)⟩
  refine PySem.W.callWith_S (h₀ := X.base) I.ok.mod.kin M.kp (thn (he.run pins s σ H _ I hh) fun v s1 ⟨y, H1, I1, ry, a, xs, ey, hxs, q⟩ => ?_) hst
  cases ey
  cases (show v = Value.ref a from ry)
  exact StX.star_any I1 hxs fun us s2 I2 rv => ⟨I2.kIn, StX.run_makeR M F hr hx I2 rv q⟩
/-- X(e, .., *y) -/
theorem pe_mkStar2 (h : HdS X.prog X.w X.K X.mg X.base CX k x sp) (c : ClsT X.K X.mg x) (hr : Room (k + 1) X.A) (hg : Gl X x) (hx : Passes CX X E) (ha : PA X (e :: es) t) (hdb : (x == ("__debug__" : Str)) = false := by decide)
    (he : starEach (e :: es) X.env = (false, eval e X.env) :: starEach es X.env := by rfl) (hst : (backTo pos (starEach es X.env)).any (·.1) = true := by rfl) : PE X (.Call (.Name x p) (e :: es) [] pos) (StX.tMakeR (clsA X.mg x) (starSp sp) E t) := by
  obtain ⟨f, M, F⟩ := h.ex
  refine ⟨fun pins s σ H Q I hh => wpAny_Call_Name_kw (ld_glob I hg c.at_ ?_ hdb)⟩
  exact PySem.W.callWith_S2 (h₀ := X.base) I.ok.mod.kin M.kp (thn (ha.run pos pins s σ H _ I hh) fun us s1 ⟨vs, H1, I1, r, q⟩ => ⟨I1.kIn, StX.run_makeR M F hr hx I1 r q⟩) he hst
end
/-! a property, a classmethod -/
def PropT (K : PySem.W.Frag) (mg : Str → Option Value) (x m qual : Str) (st : Stmt) : Prop := ∃ p f fd, Fun K m qual st f fd ∧ PropOf K (clsA mg x) m p f
theorem PropT.of {K : PySem.W.Frag} {mg : Str → Option Value} {x m qual : Str} {st : Stmt} {a p f : Addr} {fd : FuncData} (h : mg x = some (.ref a)) (F : Fun K m qual st f fd) (M : PropOf K a m p f) : PropT K mg x m qual st := by
  have e := clsA_of h
  exact ⟨p, f, fd, F, by rw [e]; exact M⟩
def CMetT (K : PySem.W.Frag) (mg : Str → Option Value) (x m qual : Str) (st : Stmt) : Prop := ∃ p f fd mc, Fun K m qual st f fd ∧ ClX.CRead K (clsA mg x) mc ∧ ClX.CMet K (clsA mg x) mc m p f
theorem CMetT.of {K : PySem.W.Frag} {mg : Str → Option Value} {x m qual : Str} {st : Stmt} {a p f : Addr} {fd : FuncData} {mc : Value} (h : mg x = some (.ref a)) (F : Fun K m qual st f fd) (R : ClX.CRead K a mc) (M : ClX.CMet K a mc m p f) : CMetT K mg x m qual st := by
  have e := clsA_of h
  exact ⟨p, f, fd, mc, F, by rw [e]; exact R, by rw [e]; exact M⟩
structure HdP (P : Program) (w : World) (K : PySem.W.Frag) (mg : Str → Option Value) (base : Heap) (CX : CXT) (k : Nat) (x m qual : Str) (st : Stmt) (ps : List Str) (sp : Sp) : Prop where
  ex : ∃ p f fd, Fun K m qual st f fd ∧ PropOf K (clsA mg x) m p f ∧ FnOk P w K mg base CX k f fd ps sp
  bd : Bd m st ps
structure HdC (P : Program) (w : World) (K : PySem.W.Frag) (mg : Str → Option Value) (base : Heap) (CX : CXT) (k : Nat) (x m qual : Str) (st : Stmt) (ps : List Str) (sp : Sp) : Prop where
  ex : ∃ p f fd mc, Fun K m qual st f fd ∧ ClX.CRead K (clsA mg x) mc ∧ ClX.CMet K (clsA mg x) mc m p f ∧ FnOk P w K mg base CX k f fd ps sp
  bd : Bd m st ps
section
variable {X : Cx} {CX : CXT} {k : Nat} {sp : Sp} {E : XK} {x m qual : Str} {p apos pos : Pos} {o e : Expr} {es : List Expr} {t : TA} {ta : TE} {st : Stmt} {ps : List Str}
theorem pe_hdp (h : HdP X.prog X.w X.K X.mg X.base CX0 k x m qual st ps sp) (c : ClsT X.K X.mg x) (hr : Room (k + 1) X.A) (he : PE X o ta) (hab : attributeBase o m X.env (eval o X.env) = eval o X.env := by rfl) :
    PE X (.Attribute o m pos) (tProp (clsA X.mg x) sp [] E ta) := by
  obtain ⟨p, f, fd, F, Pr, G⟩ := h.ex
  exact pe_prop he c.cl Pr G hr (F.binds (h.bd qual)) .nil pass0 hab
theorem pe_hdc {pl : Sem Bool} (h : HdC X.prog X.w X.K X.mg X.base CX k x m qual st ps sp) (hr : Room k X.A) (hx : Passes CX X E) (he : PE X o ta) (ha : PA X (e :: es) t)
    (hst : starEach (e :: es) X.env = (false, eval e X.env) :: starEach es X.env := by rfl) (hpl : (backTo pos (starEach es X.env)).any (·.1) = false := by rfl)
    (ht : eval (.Call (.Attribute o m apos) (e :: es) [] pos) X.env = (do
      let ov ← eval o X.env
      standAt apos.atName
      let (f, first) ← holding [ov] (getMethod ov m pl)
      callWith pos f first (backTo pos (starEach (e :: es) X.env)) (backToKw pos (keywordEach [] X.env))) := by rfl) :
    PE X (.Call (.Attribute o m apos) (e :: es) [] pos) (ClX.tCMeth (clsA X.mg x) (fun vs H Q E => sp (vs ++ []) H Q E) E ta t) := by
  obtain ⟨p, f, fd, mc, F, R, M, G⟩ := h.ex
  exact ClX.pe_cmeth (pl := pl) he R M (G.raw (F.binds (h.bd qual)) .nil) hr hx ha hst hpl ht
end
end Z

/-! What rows tell, in plain words: numbers, the first row, the second, ties. -/
namespace Zb
open PySem PySem.Spec L2
def figC : List Nat := ("0123456789" : Str).cps.toList
def figs (z : Str) : Bool := z.cps.toList.all fun c => decide (c ∈ figC)
/-- the number that figures write without needless zeros -/
def numIn (z : Str) : Option Int := if z = "" ∨ figs z = false then none else if (z.cps.toList[0]?).any (fun c => decide ((⟨#[c]⟩ : Str) = "0")) = true ∧ z ≠ "0" then none else PySem.intText? z
theorem figC_digit : ∀ c, c ∈ figC → 48 ≤ c ∧ c ≤ 57 := by
  have h : figC.all (fun c => decide (48 ≤ c ∧ c ≤ 57)) = true := by decide +kernel
  intro c hc
  exact of_decide_eq_true (List.all_eq_true.mp h c hc)
theorem str_nil {z : Str} (h : z.cps.toList = []) : z = "" := by
  obtain ⟨a⟩ := z
  have h1 : a.toList = [] := h
  have h2 : a = #[] := by
    apply Array.ext'
    rw [h1]
  rw [h2]
  rfl
theorem figs_int {z : Str} (h0 : ¬ z = "") (h : figs z = true) (hl : z.length ≤ 600) : ∃ n : Int, PySem.intText? z = some n := by
  refine ⟨_, intText_digits (fun c hc => figC_digit c (of_decide_eq_true (List.all_eq_true.mp h c hc))) (fun e => h0 (str_nil e)) (by omega)⟩
def optI : Option Int → V
  | some i => .int i
  | none => .non
/-- the first row's words -/
def takeP (ws : List Str) : Option (Bool × Int) := match ws with
  | [a, b, c] => if a = "people" ∧ (c = "rings" ∨ c = "rows") then (numIn b).bind fun n => if (if c = "rings" then 3 ≤ n ∧ n ≤ 15 ∧ n % 2 = 1 else 2 ≤ n ∧ n ≤ 15 ∧ n % 2 = 0) then some (decide (c = "rings"), n) else none else none
  | _ => none
theorem takeP3 (a b c : Str) : takeP [a, b, c] = if a = "people" ∧ (c = "rings" ∨ c = "rows") then (numIn b).bind fun n => if (if c = "rings" then 3 ≤ n ∧ n ≤ 15 ∧ n % 2 = 1 else 2 ≤ n ∧ n ≤ 15 ∧ n % 2 = 0) then some (decide (c = "rings"), n) else none else none := rfl
/-- the second's -/
def takeG (n : Int) (ws : List Str) : Option Int := match ws with
  | [a, b] => if a = "guests" then (numIn b).bind fun g => if 1 ≤ g ∧ g ≤ 8 ∧ g ≤ n then some g else none else none
  | _ => none
theorem takeG2 (n : Int) (a b : Str) : takeG n [a, b] = if a = "guests" then (numIn b).bind fun g => if 1 ≤ g ∧ g ≤ 8 ∧ g ≤ n then some g else none else none := rfl
abbrev Ties := List ((Int × Int) × Int)
def mmp (a b : Int) : Int × Int := (if b < a then b else a, if a < b then b else a)
/-- a tie's -/
def takeT (nt g : Int) (ts : Ties) (ws : List Str) : Option ((Int × Int) × Int) := match ws with
  | [a, b, c, d] => if a = "tie" ∧ ts.length ≠ 28 then (numIn b).bind fun x => (numIn c).bind fun y => (numIn d).bind fun e =>
      if (0 ≤ x ∧ x ≤ g - 1) ∧ (0 ≤ y ∧ y ≤ g - 1) ∧ x ≠ y ∧ (0 ≤ e ∧ e ≤ nt - 1) ∧ mmp x y ∉ ts.map (·.1) then some (mmp x y, e) else none else none
  | _ => none
theorem takeT4 (nt g : Int) (ts : Ties) (a b c d : Str) : takeT nt g ts [a, b, c, d] = if a = "tie" ∧ ts.length ≠ 28 then (numIn b).bind fun x => (numIn c).bind fun y => (numIn d).bind fun e =>
      if (0 ≤ x ∧ x ≤ g - 1) ∧ (0 ≤ y ∧ y ≤ g - 1) ∧ x ≠ y ∧ (0 ≤ e ∧ e ≤ nt - 1) ∧ mmp x y ∉ ts.map (·.1) then some (mmp x y, e) else none else none := rfl
/-- what has been told so far -/
inductive Tl
  | start
  | people (r : Bool) (n : Int)
  | guests (r : Bool) (n g : Int) (ts : Ties)
def nts (r : Bool) (n : Int) : Int := if r then (n - 1) / 2 else n / 2
def step : Tl → List Str → Option Tl
  | .start, ws => (takeP ws).map fun p => .people p.1 p.2
  | .people r n, ws => (takeG n ws).map fun g => .guests r n g []
  | .guests r n g ts, ws => (takeT (nts r n) g ts ws).map fun t => .guests r n g (ts ++ [t])
theorem step_start (ws : List Str) : step .start ws = (takeP ws).map fun p => .people p.1 p.2 := rfl
theorem step_people (r : Bool) (n : Int) (ws : List Str) : step (.people r n) ws = (takeG n ws).map fun g => .guests r n g [] := rfl
theorem step_guests (r : Bool) (n g : Int) (ts : Ties) (ws : List Str) : step (.guests r n g ts) ws = (takeT (nts r n) g ts ws).map fun t => .guests r n g (ts ++ [t]) := rfl
/-- the rows one after the other: what they tell, and how many stood -/
def steps : Tl → List (List Str) → Tl × Nat
  | t, [] => (t, 0)
  | t, w :: r => match step t w with
    | none => (t, 0)
    | some t' => ((steps t' r).1, (steps t' r).2 + 1)
def Tl.few : Tl → Prop
  | .guests _ _ _ ts => ts.length ≤ 28
  | _ => True
def Tl.full : Tl → Bool
  | .guests _ _ _ _ => true
  | _ => false
theorem few_step {t t' : Tl} {ws : List Str} (h : step t ws = some t') (f : t.few) : t'.few := by
  cases t with
  | start =>
    rw [step_start] at h
    obtain ⟨p, _, rfl⟩ := Option.map_eq_some_iff.mp h
    trivial
  | people r n =>
    rw [step_people] at h
    obtain ⟨p, _, rfl⟩ := Option.map_eq_some_iff.mp h
    exact Nat.zero_le _
  | guests r n g ts =>
    rw [step_guests] at h
    obtain ⟨p, hp, rfl⟩ := Option.map_eq_some_iff.mp h
    have f : ts.length ≤ 28 := f
    have hn : ts.length ≠ 28 := fun e => by
      unfold takeT at hp
      split at hp
      · rw [if_neg fun h => h.2 e] at hp
        cases hp
      · cases hp
    show (ts ++ [p]).length ≤ 28
    rw [List.length_append, List.length_singleton]
    omega
theorem steps_nil (t : Tl) : steps t [] = (t, 0) := rfl
theorem steps_no {t : Tl} {w : List Str} {r : List (List Str)} (h : step t w = none) : steps t (w :: r) = (t, 0) := by
  simp only [steps, h]
theorem steps_yes {t t' : Tl} {w : List Str} {r : List (List Str)} (h : step t w = some t') : steps t (w :: r) = ((steps t' r).1, (steps t' r).2 + 1) := by
  simp only [steps, h]
def wrongV : Option Nat → V
  | none => .non
  | some i => .int i
def Tl.wrong (t : Tl) (m k : Nat) : Option Nat := if k < m then some k else if t.full then none else some m
def wordsV : V → List Str
  | .str z => Txt.split z " "
  | _ => [""]
theorem wrong_none {t : Tl} {m k : Nat} (h : t.wrong m k = none) : ∃ r n g ts, t = .guests r n g ts := by
  unfold Tl.wrong at h
  split at h
  · cases h
  · cases t with
    | guests r n g ts => exact ⟨r, n, g, ts, rfl⟩
    | _ => cases h
def tkey (p : Int × Int) : List Key := [.inl p.1, .inl p.2]
theorem tkey_inj {p q : Int × Int} (h : tkey p = tkey q) : p = q := by
  obtain ⟨a, b⟩ := p
  obtain ⟨c, d⟩ := q
  unfold tkey at h
  simp only [List.cons.injEq, Sum.inl.injEq, and_true] at h
  rw [h.1, h.2]
/-- ties as the dict holds them -/
def tieK (ts : Ties) : List (List Key × V) := ts.map fun t => (tkey t.1, .int t.2)
theorem tieK_none {ts : Ties} {p : Int × Int} (h : p ∉ ts.map (·.1)) : valV (tieK ts) (tkey p) = none := by
  induction ts with
  | nil => rfl
  | cons t r ih =>
    have h1 : ¬ t.1 = p := fun e => h (by rw [← e]; exact List.mem_map_of_mem List.mem_cons_self)
    show valV ((tkey t.1, V.int t.2) :: tieK r) (tkey p) = none
    rw [valV_neg (fun e => h1 (tkey_inj e))]
    exact ih fun hm => h (List.mem_cons_of_mem _ hm)
theorem tieK_mem {ts : Ties} {p : Int × Int} (h : p ∈ ts.map (·.1)) : ∃ e, valV (tieK ts) (tkey p) = some (.int e) := by
  induction ts with
  | nil => cases h
  | cons t r ih =>
    show ∃ e, valV ((tkey t.1, V.int t.2) :: tieK r) (tkey p) = some (.int e)
    by_cases c : t.1 = p
    · exact ⟨t.2, valV_pos (p := (tkey t.1, V.int t.2)) (by show tkey t.1 = tkey p; rw [c])⟩
    · rw [valV_neg (fun e => c (tkey_inj e))]
      rcases List.mem_cons.mp h with h | h
      · exact absurd h.symm c
      · exact ih h
theorem tieK_some (ts : Ties) (p : Int × Int) : (valV (tieK ts) (tkey p)).isSome = decide (p ∈ ts.map (·.1)) := by
  by_cases c : p ∈ ts.map (·.1)
  · obtain ⟨e, h⟩ := tieK_mem c
    rw [h, decide_eq_true c]
    rfl
  · rw [tieK_none c, decide_eq_false c]
    rfl
theorem tieK_put {ts : Ties} {p : Int × Int} {e : Int} (h : p ∉ ts.map (·.1)) : putK (tieK ts) (tkey p) (.int e) = tieK (ts ++ [(p, e)]) := by
  rw [putK_new _ (tieK_none h)]
  unfold tieK
  rw [List.map_append]
  rfl
def numS (i : Int) : Str := Str.ofString (toString i)
def tieS (a b e : Int) : Str := Str.empty ++ "tie " ++ numS a ++ " " ++ numS b ++ " " ++ numS e
def peopleS (n : Int) (k : Str) : Str := Str.empty ++ "people " ++ numS n ++ " " ++ k
def guestsS (g : Int) : Str := Str.empty ++ "guests " ++ numS g
end Zb

namespace Zig
/-! zigzag: numbers -/
theorem emod3 {a n : Int} (_ : 0 < n) (h1 : -n ≤ a) (h2 : a < 2 * n) : a % n = if a < 0 then a + n else if a < n then a else a - n := by
  split
  · rw [← Int.add_emod_right, Int.emod_eq_of_lt (by omega) (by omega)]
  · split
    · rw [Int.emod_eq_of_lt (by omega) (by omega)]
    · rw [← Int.sub_emod_right, Int.emod_eq_of_lt (by omega) (by omega)]

def nights (rings : Bool) (n : Int) : Int := if rings then (n - 1) / 2 else n / 2
def personIn (size e i : Int) : Int := (e + (if i % 2 = 1 then (i + 1) / 2 else -((i + 1) / 2))) % size
def indexIn (size e p : Int) : Int := if 0 < (p - e) % size ∧ (p - e) % size ≤ size / 2 then 2 * ((p - e) % size) - 1 else 2 * ((size - (p - e) % size) % size)
def personAt (rings : Bool) (n e i : Int) : Int := if rings then (if i = 0 then n - 1 else personIn (n - 1) e (i - 1)) else personIn n e i
def indexOf (rings : Bool) (n e p : Int) : Int := if rings then (if p = n - 1 then 0 else 1 + indexIn (n - 1) e p) else indexIn n e p
def eveningOf (rings : Bool) (n p q : Int) : Int :=
  if (if rings then n - 1 else n) = p ∨ (if rings then n - 1 else n) = q then (if q < p then q else p) % nights rings n else ((p + q) % (if rings then n - 1 else n)) / 2

/-- e, i -> person, with the halves told -/
theorem personIn_even {k e i : Int} (he : 0 ≤ e) (hek : e < k) (hi : 0 ≤ i) (hik : i < 2 * k) (h : i % 2 = 0) : personIn (2 * k) e i = if e < i / 2 then e - i / 2 + 2 * k else e - i / 2 := by
  unfold personIn
  rw [if_neg (by omega), emod3 (by omega) (by omega) (by omega)]
  split <;> split <;> (try split) <;> omega
theorem personIn_odd {k e i : Int} (he : 0 ≤ e) (hek : e < k) (hi : 0 ≤ i) (hik : i < 2 * k) (h : i % 2 = 1) : personIn (2 * k) e i = e + (i + 1) / 2 := by
  unfold personIn
  rw [if_pos h, emod3 (by omega) (by omega) (by omega)]
  rw [if_neg (by omega), if_pos (by omega)]
theorem personIn_bound {k e i : Int} (hk : 0 < k) : 0 ≤ personIn (2 * k) e i ∧ personIn (2 * k) e i < 2 * k := by
  unfold personIn
  exact ⟨Int.emod_nonneg _ (by omega), Int.emod_lt_of_pos _ (by omega)⟩
/-- the index, with the remainder told -/
theorem indexIn_eq {k e p : Int} (he : 0 ≤ e) (hek : e < k) (hp : 0 ≤ p) (hpk : p < 2 * k) : indexIn (2 * k) e p = if e < p ∧ p ≤ e + k then 2 * (p - e) - 1 else if p ≤ e then 2 * (e - p) else 2 * (e + 2 * k - p) := by
  unfold indexIn
  have e1 : (p - e) % (2 * k) = if p - e < 0 then p - e + 2 * k else p - e := by
    rw [emod3 (by omega) (by omega) (by omega)]
    split
    · rfl
    · rw [if_pos (by omega)]
  rw [e1]
  have e2 : (2 * k) / 2 = k := by omega
  rw [e2]
  have e3 : ∀ x : Int, 0 ≤ x → x < 2 * k → (2 * k - x) % (2 * k) = if x = 0 then 0 else 2 * k - x := by
    intro x h1 h2
    rw [emod3 (by omega) (by omega) (by omega), if_neg (by omega)]
    split
    · rw [if_neg (by omega)]
    · rw [if_pos (by omega)]
      omega
  by_cases h : p - e < 0
  · rw [if_pos h, if_neg (show ¬ (0 < p - e + 2 * k ∧ p - e + 2 * k ≤ k) by omega), e3 _ (by omega) (by omega), if_neg (show ¬ (p - e + 2 * k = 0) by omega), if_neg (show ¬ (e < p ∧ p ≤ e + k) by omega), if_pos (show p ≤ e by omega)]
    omega
  · rw [if_neg h]
    by_cases h2 : 0 < p - e ∧ p - e ≤ k
    · rw [if_pos h2, if_pos (show e < p ∧ p ≤ e + k by omega)]
    · rw [if_neg h2, e3 _ (by omega) (by omega), if_neg (show ¬ (e < p ∧ p ≤ e + k) by omega)]
      split <;> split <;> omega
theorem indexIn_bound {k e p : Int} (he : 0 ≤ e) (hek : e < k) (hp : 0 ≤ p) (hpk : p < 2 * k) : 0 ≤ indexIn (2 * k) e p ∧ indexIn (2 * k) e p < 2 * k := by
  rw [indexIn_eq he hek hp hpk]
  split
  · omega
  · split <;> omega
theorem index_person {k e i : Int} (he : 0 ≤ e) (hek : e < k) (hi : 0 ≤ i) (hik : i < 2 * k) : indexIn (2 * k) e (personIn (2 * k) e i) = i := by
  have hb := personIn_bound (k := k) (e := e) (i := i) (by omega)
  rw [indexIn_eq he hek hb.1 hb.2]
  rcases (by omega : i % 2 = 0 ∨ i % 2 = 1) with h | h
  · rw [personIn_even he hek hi hik h]
    split <;> split <;> (try split) <;> omega
  · rw [personIn_odd he hek hi hik h]
    split <;> (try split) <;> omega
theorem person_index {k e p : Int} (he : 0 ≤ e) (hek : e < k) (hp : 0 ≤ p) (hpk : p < 2 * k) : personIn (2 * k) e (indexIn (2 * k) e p) = p := by
  have hb := indexIn_bound he hek hp hpk
  have e1 := indexIn_eq he hek hp hpk
  by_cases h1 : e < p ∧ p ≤ e + k
  · rw [if_pos h1] at e1
    rw [personIn_odd he hek hb.1 hb.2 (by omega)]
    omega
  · rw [if_neg h1] at e1
    split at e1
    · rw [personIn_even he hek hb.1 hb.2 (by omega)]
      split <;> omega
    · rw [personIn_even he hek hb.1 hb.2 (by omega)]
      split <;> omega
/-- neighbours in the round sum up to 2 e or 2 e + 1 -/
theorem person_sum {k e i : Int} (he : 0 ≤ e) (hek : e < k) (hi : 0 ≤ i) (hik : i + 1 < 2 * k) : ((personIn (2 * k) e i + personIn (2 * k) e (i + 1)) % (2 * k)) / 2 = e := by
  have m : ∀ x : Int, 0 ≤ x → x < 4 * k → x % (2 * k) = if x < 2 * k then x else x - 2 * k := by
    intro x h1 h2
    rw [emod3 (by omega) (by omega) (by omega), if_neg (by omega)]
  rcases (by omega : i % 2 = 0 ∨ i % 2 = 1) with h | h
  · rw [personIn_even he hek hi (by omega) h, personIn_odd he hek (by omega) hik (by omega)]
    split
    · rw [m _ (by omega) (by omega)]
      split <;> omega
    · rw [m _ (by omega) (by omega)]
      split <;> omega
  · rw [personIn_odd he hek hi (by omega) h, personIn_even he hek (by omega) hik (by omega)]
    split
    · rw [m _ (by omega) (by omega)]
      split <;> omega
    · rw [m _ (by omega) (by omega)]
      split <;> omega
/-- on its evening each is beside the other -/
theorem beside_sum {k p q : Int} (hp : 0 ≤ p) (hpk : p < 2 * k) (hq : 0 ≤ q) (hqk : q < 2 * k) (hpq : p ≠ q) :
    indexIn (2 * k) (((p + q) % (2 * k)) / 2) q = indexIn (2 * k) (((p + q) % (2 * k)) / 2) p + 1 ∨ indexIn (2 * k) (((p + q) % (2 * k)) / 2) q = indexIn (2 * k) (((p + q) % (2 * k)) / 2) p - 1 := by
  have e1 : (p + q) % (2 * k) = if p + q < 2 * k then p + q else p + q - 2 * k := by
    rw [emod3 (by omega) (by omega) (by omega), if_neg (by omega)]
  rw [e1]
  by_cases h : p + q < 2 * k
  · simp only [if_pos h]
    rw [indexIn_eq (by omega) (by omega) hp hpk, indexIn_eq (by omega) (by omega) hq hqk]
    split <;> split <;> (try split) <;> (try split) <;> omega
  · simp only [if_neg h]
    rw [indexIn_eq (by omega) (by omega) hp hpk, indexIn_eq (by omega) (by omega) hq hqk]
    split <;> split <;> (try split) <;> (try split) <;> omega
/-! both kinds -/
/-- the indexes beside one -/
def spots (r : Bool) (n i : Int) : List Int := if r then [(i - 1) % n, (i + 1) % n] else [i - 1, i + 1].filter fun j => decide (0 ≤ j ∧ j < n)
def SizeIs (r : Bool) (n k : Int) : Prop := 0 < k ∧ ((r = true ∧ n = 2 * k + 1) ∨ (r = false ∧ n = 2 * k))
theorem SizeIs.nights {r : Bool} {n k : Int} (h : SizeIs r n k) : nights r n = k := by
  obtain ⟨h0, ⟨rfl, h⟩ | ⟨rfl, h⟩⟩ := h
  · show (n - 1) / 2 = k
    omega
  · show n / 2 = k
    omega
theorem spots_in {r : Bool} {n k i j : Int} (h : SizeIs r n k) (hi : 0 ≤ i) (hin : i < n) (hj : j ∈ spots r n i) : 0 ≤ j ∧ j < n ∧ ((j = i - 1 ∧ 0 < i) ∨ (j = i + 1 ∧ i + 1 < n) ∨ (r = true ∧ i = 0 ∧ j = n - 1) ∨ (r = true ∧ i = n - 1 ∧ j = 0)) := by
  obtain ⟨h0, ⟨rfl, h⟩ | ⟨rfl, h⟩⟩ := h
  · simp only [spots, if_true, List.mem_cons, List.not_mem_nil, or_false] at hj
    have e1 : (i - 1) % n = if i = 0 then n - 1 else i - 1 := by
      rw [emod3 (by omega) (by omega) (by omega)]
      split <;> split <;> (try split) <;> omega
    have e2 : (i + 1) % n = if i = n - 1 then 0 else i + 1 := by
      rw [emod3 (by omega) (by omega) (by omega)]
      split <;> split <;> (try split) <;> omega
    rw [e1, e2] at hj
    rcases hj with rfl | rfl
    · split
      · exact ⟨by omega, by omega, .inr (.inr (.inl ⟨rfl, by omega, rfl⟩))⟩
      · exact ⟨by omega, by omega, .inl ⟨rfl, by omega⟩⟩
    · split
      · exact ⟨by omega, by omega, .inr (.inr (.inr ⟨rfl, by omega, rfl⟩))⟩
      · exact ⟨by omega, by omega, .inr (.inl ⟨rfl, by omega⟩)⟩
  · simp only [spots, Bool.false_eq_true, if_false, List.mem_filter, List.mem_cons, List.not_mem_nil, or_false, decide_eq_true_eq] at hj
    obtain ⟨rfl | rfl, h1, h2⟩ := hj
    · exact ⟨h1, h2, .inl ⟨rfl, by omega⟩⟩
    · exact ⟨h1, h2, .inr (.inl ⟨rfl, h2⟩)⟩
theorem spots_ne {r : Bool} {n k i j : Int} (h : SizeIs r n k) (hi : 0 ≤ i) (hin : i < n) (hj : j ∈ spots r n i) : j ≠ i := by
  obtain ⟨_, _, h1⟩ := spots_in h hi hin hj
  obtain ⟨h0, ⟨rfl, h⟩ | ⟨rfl, h⟩⟩ := h
  · omega
  · omega
theorem at_bound {r : Bool} {n k e i : Int} (h : SizeIs r n k) (he : 0 ≤ e) (hek : e < k) (hi : 0 ≤ i) (hin : i < n) : 0 ≤ personAt r n e i ∧ personAt r n e i < n := by
  obtain ⟨h0, ⟨rfl, rfl⟩ | ⟨rfl, rfl⟩⟩ := h
  · unfold personAt
    rw [if_pos rfl]
    split
    · omega
    · have := personIn_bound (k := k) (e := e) (i := i - 1) h0
      rw [show 2 * k + 1 - 1 = 2 * k by omega]
      omega
  · exact personIn_bound h0
theorem index_at {r : Bool} {n k e i : Int} (h : SizeIs r n k) (he : 0 ≤ e) (hek : e < k) (hi : 0 ≤ i) (hin : i < n) : indexOf r n e (personAt r n e i) = i := by
  obtain ⟨h0, ⟨rfl, rfl⟩ | ⟨rfl, rfl⟩⟩ := h
  · unfold personAt indexOf
    rw [if_pos rfl, if_pos rfl]
    by_cases c : i = 0
    · rw [if_pos c, if_pos rfl, c]
    · rw [if_neg c, show 2 * k + 1 - 1 = 2 * k by omega]
      have hb := personIn_bound (k := k) (e := e) (i := i - 1) h0
      rw [if_neg (by omega), index_person he hek (by omega) (by omega)]
      omega
  · exact index_person he hek hi hin
theorem index_bound {r : Bool} {n k e p : Int} (h : SizeIs r n k) (he : 0 ≤ e) (hek : e < k) (hp : 0 ≤ p) (hpn : p < n) : 0 ≤ indexOf r n e p ∧ indexOf r n e p < n := by
  obtain ⟨h0, ⟨rfl, rfl⟩ | ⟨rfl, rfl⟩⟩ := h
  · unfold indexOf
    rw [if_pos rfl]
    split
    · omega
    · have := indexIn_bound (k := k) (e := e) (p := p) he hek hp (by omega)
      rw [show 2 * k + 1 - 1 = 2 * k by omega]
      omega
  · exact indexIn_bound he hek hp hpn
theorem at_index {r : Bool} {n k e p : Int} (h : SizeIs r n k) (he : 0 ≤ e) (hek : e < k) (hp : 0 ≤ p) (hpn : p < n) : personAt r n e (indexOf r n e p) = p := by
  obtain ⟨h0, ⟨rfl, rfl⟩ | ⟨rfl, rfl⟩⟩ := h
  · unfold personAt indexOf
    rw [if_pos rfl, if_pos rfl]
    by_cases c : p = 2 * k + 1 - 1
    · rw [if_pos c, if_pos rfl, c]
    · rw [if_neg c]
      have hb := indexIn_bound (k := k) (e := e) (p := p) he hek hp (by omega)
      rw [show 2 * k + 1 - 1 = 2 * k by omega, if_neg (by omega), show 1 + indexIn (2 * k) e p - 1 = indexIn (2 * k) e p by omega, person_index he hek hp (by omega)]
  · exact person_index he hek hp hpn
theorem evening_comm (r : Bool) (n p q : Int) : eveningOf r n p q = eveningOf r n q p := by
  unfold eveningOf
  rw [Int.add_comm q p]
  by_cases c : (if r = true then n - 1 else n) = p ∨ (if r = true then n - 1 else n) = q
  · rw [if_pos c, if_pos (Or.symm c)]
    by_cases d : q < p
    · rw [if_pos d, if_neg (by omega)]
    · rw [if_neg d]
      by_cases d2 : p < q
      · rw [if_pos d2]
      · rw [if_neg d2, show p = q by omega]
  · rw [if_neg c, if_neg (fun z => c (Or.symm z))]
/-- two beside one another in the round have this evening -/
theorem evening_round {r : Bool} {n k p q : Int} (h : SizeIs r n k) (hp : 0 ≤ p) (hpk : p < 2 * k) (hq : 0 ≤ q) (hqk : q < 2 * k) : eveningOf r n p q = ((p + q) % (2 * k)) / 2 := by
  unfold eveningOf
  obtain ⟨h0, ⟨rfl, rfl⟩ | ⟨rfl, rfl⟩⟩ := h
  · simp only [if_true]
    rw [if_neg (by omega), show 2 * k + 1 - 1 = 2 * k by omega]
  · simp only [Bool.false_eq_true, if_false]
    rw [if_neg (by omega)]
theorem evening_door {n k p : Int} (h : SizeIs true n k) (hp : 0 ≤ p) (hpk : p < 2 * k) : eveningOf true n p (n - 1) = p % k := by
  have hn := h.nights
  unfold eveningOf
  simp only [if_true]
  rw [if_pos (.inr trivial), hn]
  obtain ⟨h0, ⟨_, h⟩ | ⟨h, _⟩⟩ := h
  · rw [if_neg (by omega)]
  · cases h
/-- on the evening, one and the one at the next index -/
theorem evening_next {r : Bool} {n k e i : Int} (h : SizeIs r n k) (he : 0 ≤ e) (hek : e < k) (hi : 0 ≤ i) (hin : i + 1 < n) : eveningOf r n (personAt r n e i) (personAt r n e (i + 1)) = e := by
  cases r with
  | true =>
    have h' := h
    obtain ⟨h0, ⟨_, rfl⟩ | ⟨h1, _⟩⟩ := h
    · by_cases c : i = 0
      · subst c
        have e1 : personAt true (2 * k + 1) e 0 = 2 * k + 1 - 1 := by
          unfold personAt
          rw [if_pos rfl, if_pos rfl]
        have e2 : personAt true (2 * k + 1) e (0 + 1) = e := by
          unfold personAt
          rw [if_pos rfl, if_neg (by omega), show 2 * k + 1 - 1 = 2 * k by omega, show (0 : Int) + 1 - 1 = 0 by omega, personIn_even he hek (by omega) (by omega) (by omega), if_neg (by omega)]
          omega
        rw [e1, e2, evening_comm, evening_door h' he (by omega), Int.emod_eq_of_lt he hek]
      · have e1 : ∀ j, 0 < j → personAt true (2 * k + 1) e j = personIn (2 * k) e (j - 1) := by
          intro j hj
          unfold personAt
          rw [if_pos rfl, if_neg (by omega), show 2 * k + 1 - 1 = 2 * k by omega]
        rw [e1 i (by omega), e1 (i + 1) (by omega)]
        have b1 := personIn_bound (k := k) (e := e) (i := i - 1) h0
        have b2 := personIn_bound (k := k) (e := e) (i := i + 1 - 1) h0
        rw [evening_round h' b1.1 b1.2 b2.1 b2.2]
        have := person_sum (k := k) (e := e) (i := i - 1) he hek (by omega) (by omega)
        rw [show i - 1 + 1 = i + 1 - 1 by omega] at this
        exact this
    · cases h1
  | false =>
    have h' := h
    obtain ⟨h0, ⟨h1, _⟩ | ⟨_, rfl⟩⟩ := h
    · cases h1
    · have b1 := personIn_bound (k := k) (e := e) (i := i) h0
      have b2 := personIn_bound (k := k) (e := e) (i := i + 1) h0
      show eveningOf false (2 * k) (personIn (2 * k) e i) (personIn (2 * k) e (i + 1)) = e
      rw [evening_round h' b1.1 b1.2 b2.1 b2.2]
      exact person_sum he hek hi hin
/-- the last one and the first one of a ring -/
theorem evening_close {n k e : Int} (h : SizeIs true n k) (he : 0 ≤ e) (hek : e < k) : eveningOf true n (personAt true n e (n - 1)) (personAt true n e 0) = e := by
  have h' := h
  obtain ⟨h0, ⟨_, rfl⟩ | ⟨h1, _⟩⟩ := h
  · have e1 : personAt true (2 * k + 1) e 0 = 2 * k + 1 - 1 := by
      unfold personAt
      rw [if_pos rfl, if_pos rfl]
    have e2 : personAt true (2 * k + 1) e (2 * k + 1 - 1) = e + k := by
      unfold personAt
      rw [if_pos rfl, if_neg (by omega), show 2 * k + 1 - 1 = 2 * k by omega, personIn_odd he hek (by omega) (by omega) (by omega)]
      omega
    rw [e1, e2, evening_door h' (by omega) (by omega)]
    rw [Int.add_emod_right, Int.emod_eq_of_lt he hek]
  · cases h1
theorem evening_spot {r : Bool} {n k e i j : Int} (h : SizeIs r n k) (he : 0 ≤ e) (hek : e < k) (hi : 0 ≤ i) (hin : i < n) (hj : j ∈ spots r n i) : eveningOf r n (personAt r n e i) (personAt r n e j) = e := by
  obtain ⟨_, _, h1 | h1 | h1 | h1⟩ := spots_in h hi hin hj
  · obtain ⟨rfl, h1⟩ := h1
    rw [evening_comm]
    have := evening_next h he hek (i := i - 1) (by omega) (by omega)
    rw [show i - 1 + 1 = i by omega] at this
    exact this
  · obtain ⟨rfl, h1⟩ := h1
    exact evening_next h he hek hi h1
  · obtain ⟨rfl, rfl, rfl⟩ := h1
    rw [evening_comm]
    exact evening_close h he hek
  · obtain ⟨rfl, rfl, rfl⟩ := h1
    exact evening_close h he hek
theorem spot_of {r : Bool} {n k i j : Int} (h : SizeIs r n k) (hi : 0 ≤ i) (hin : i < n) (hj : 0 ≤ j) (hjn : j < n) (c : j = i + 1 ∨ j = i - 1 ∨ (r = true ∧ i = 0 ∧ j = n - 1) ∨ (r = true ∧ i = n - 1 ∧ j = 0)) : j ∈ spots r n i := by
  obtain ⟨h0, ⟨rfl, h⟩ | ⟨rfl, h⟩⟩ := h
  · simp only [spots, if_true, List.mem_cons, List.not_mem_nil, or_false]
    have e1 : (i - 1) % n = if i = 0 then n - 1 else i - 1 := by
      rw [emod3 (by omega) (by omega) (by omega)]
      split <;> split <;> (try split) <;> omega
    have e2 : (i + 1) % n = if i = n - 1 then 0 else i + 1 := by
      rw [emod3 (by omega) (by omega) (by omega)]
      split <;> split <;> (try split) <;> omega
    rw [e1, e2]
    rcases c with c | c | c | c
    · right
      rw [if_neg (by omega)]
      exact c
    · left
      rw [if_neg (by omega)]
      exact c
    · left
      rw [if_pos c.2.1]
      exact c.2.2
    · right
      rw [if_pos c.2.1]
      exact c.2.2
  · simp only [spots, Bool.false_eq_true, if_false, List.mem_filter, List.mem_cons, List.not_mem_nil, or_false, decide_eq_true_eq]
    rcases c with c | c | c | c
    · exact ⟨.inr c, hj, hjn⟩
    · exact ⟨.inl c, hj, hjn⟩
    · cases c.1
    · cases c.1
/-- unlike people are beside one another on their evening -/
theorem evening_beside {r : Bool} {n k p q : Int} (h : SizeIs r n k) (hp : 0 ≤ p) (hpn : p < n) (hq : 0 ≤ q) (hqn : q < n) (hpq : p ≠ q) :
    0 ≤ eveningOf r n p q ∧ eveningOf r n p q < k ∧ indexOf r n (eveningOf r n p q) q ∈ spots r n (indexOf r n (eveningOf r n p q) p) := by
  have h' := h
  have door : ∀ x, r = true → 0 ≤ x → x < 2 * k → n = 2 * k + 1 → 0 ≤ eveningOf r n x (n - 1) ∧ eveningOf r n x (n - 1) < k ∧
      indexOf r n (eveningOf r n x (n - 1)) (n - 1) = 0 ∧ (indexOf r n (eveningOf r n x (n - 1)) x = 1 ∨ indexOf r n (eveningOf r n x (n - 1)) x = n - 1) := by
    rintro x rfl h1 h2 rfl
    rw [evening_door h' h1 h2]
    have hk : 0 < k := h'.1
    have m1 := Int.emod_nonneg x (show k ≠ 0 by omega)
    have m2 := Int.emod_lt_of_pos x hk
    refine ⟨m1, m2, ?_, ?_⟩
    · unfold indexOf
      rw [if_pos rfl, if_pos rfl]
    · unfold indexOf
      rw [if_pos rfl, if_neg (by omega), show 2 * k + 1 - 1 = 2 * k by omega, indexIn_eq m1 m2 h1 h2]
      have m3 : x % k = if x < k then x else x - k := by
        rw [emod3 hk (by omega) (by omega), if_neg (by omega)]
      rw [m3]
      by_cases c : x < k
      · rw [if_pos c]
        left
        rw [if_neg (by omega), if_pos (by omega)]
        omega
      · rw [if_neg c]
        right
        rw [if_pos (by omega)]
        omega
  by_cases cp : p < 2 * k
  · by_cases cq : q < 2 * k
    · rw [evening_round h hp cp hq cq]
      have hk : 0 < k := h.1
      have e1 : (p + q) % (2 * k) = if p + q < 2 * k then p + q else p + q - 2 * k := by
        rw [emod3 (by omega) (by omega) (by omega), if_neg (by omega)]
      have he0 : 0 ≤ ((p + q) % (2 * k)) / 2 ∧ ((p + q) % (2 * k)) / 2 < k := by
        rw [e1]
        split <;> omega
      refine ⟨he0.1, he0.2, ?_⟩
      have hi := index_bound h he0.1 he0.2 hp hpn
      have hj := index_bound h he0.1 he0.2 hq hqn
      refine spot_of h hi.1 hi.2 hj.1 hj.2 ?_
      have hs := beside_sum hp cp hq cq hpq
      obtain ⟨_, ⟨rfl, rfl⟩ | ⟨rfl, rfl⟩⟩ := h
      · unfold indexOf
        rw [if_pos rfl, if_pos rfl, if_neg (by omega), if_neg (by omega), show 2 * k + 1 - 1 = 2 * k by omega]
        omega
      · show indexIn (2 * k) _ q = indexIn (2 * k) _ p + 1 ∨ _
        rcases hs with hs | hs
        · exact .inl hs
        · exact .inr (.inl hs)
    · obtain ⟨h0, ⟨hr, hn⟩ | ⟨_, hn⟩⟩ := h
      · have eq : q = n - 1 := by omega
        subst eq
        obtain ⟨d1, d2, d3, d4⟩ := door p hr hp cp hn
        refine ⟨d1, d2, ?_⟩
        rw [d3]
        rcases d4 with d4 | d4
        · rw [d4]
          exact spot_of h' (by omega) (by omega) (by omega) (by omega) (.inr (.inl rfl))
        · rw [d4]
          exact spot_of h' (by omega) (by omega) (by omega) (by omega) (.inr (.inr (.inr ⟨hr, rfl, rfl⟩)))
      · omega
  · obtain ⟨h0, ⟨hr, hn⟩ | ⟨_, hn⟩⟩ := h
    · have eq : p = n - 1 := by omega
      subst eq
      rw [evening_comm]
      obtain ⟨d1, d2, d3, d4⟩ := door q hr hq (by omega) hn
      refine ⟨d1, d2, ?_⟩
      rw [d3]
      rcases d4 with d4 | d4
      · rw [d4]
        exact spot_of h' (by omega) (by omega) (by omega) (by omega) (.inl rfl)
      · rw [d4]
        exact spot_of h' (by omega) (by omega) (by omega) (by omega) (.inr (.inr (.inl ⟨hr, rfl, rfl⟩)))
    · omega
end Zig

/-! The zigzag is a party: its neighbours are all pairs, each once. Plain lists, no program in sight. -/
namespace Zig
def ups (n : Int) : List Int := (List.range n.toNat).map fun (i : Nat) => (i : Int)
theorem mem_ups {n i : Int} : i ∈ ups n ↔ 0 ≤ i ∧ i < n := by
  unfold ups
  rw [List.mem_map]
  constructor
  · rintro ⟨k, hk, rfl⟩
    have := List.mem_range.mp hk
    omega
  · rintro ⟨h1, h2⟩
    exact ⟨i.toNat, List.mem_range.mpr (by omega), by omega⟩
theorem ups_len (n : Int) : (ups n).length = n.toNat := by
  unfold ups
  rw [List.length_map, List.length_range]
theorem ups_lt (n : Int) : (ups n).Pairwise (· < ·) := by
  unfold ups
  rw [List.pairwise_map]
  exact List.pairwise_lt_range.imp fun h => by omega
theorem ups_get {n : Int} {i : Nat} (h : (i : Int) < n) : (ups n)[i]? = some (i : Int) := by
  unfold ups
  rw [List.getElem?_map, List.getElem?_range (by omega)]
  rfl
theorem ups_succ (i : Nat) : ups ((i : Int) + 1) = ups i ++ [(i : Int)] := by
  unfold ups
  rw [show ((i : Int) + 1).toNat = i + 1 by omega, show (i : Int).toNat = i by omega, List.range_succ, List.map_append]
  rfl
theorem ups_cons {n : Int} (h : 1 ≤ n) : ups n = 0 :: (ups (n - 1)).map (· + 1) := by
  unfold ups
  rw [show n.toNat = (n - 1).toNat + 1 by omega, List.range_succ_eq_map, List.map_cons, List.map_map, List.map_map]
  rfl
theorem personIn_step {z e k : Int} (hk : 1 ≤ k) : (personIn z e (k - 1) + (if k % 2 = 1 then k else -k)) % z = personIn z e k := by
  unfold personIn
  rw [Int.emod_add_emod]
  congr 1
  (repeat' split) <;> omega
theorem personIn_zero {z e : Int} (h0 : 0 ≤ e) (h1 : e < z) : personIn z e 0 = e := by
  unfold personIn
  rw [if_neg (by decide)]
  show (e + -0) % z = e
  rw [show e + -0 = e by omega, Int.emod_eq_of_lt h0 h1]
def evL (r : Bool) (n e : Int) : List Int := (ups n).map (personAt r n e)
theorem evL_len (r : Bool) (n e : Int) : (evL r n e).length = n.toNat := by
  unfold evL
  rw [List.length_map, ups_len]
theorem evL_get {r : Bool} {n e : Int} {i : Nat} (h : (i : Int) < n) : (evL r n e)[i]? = some (personAt r n e i) := by
  unfold evL
  rw [List.getElem?_map, ups_get h]
  rfl
theorem evL_rings {n e : Int} (h : 1 ≤ n) : evL true n e = [n - 1] ++ (ups (n - 1)).map (personIn (n - 1) e) := by
  unfold evL
  rw [ups_cons h, List.map_cons, List.map_map]
  show _ :: _ = _ :: _
  congr 1
  refine List.map_congr_left fun i hi => ?_
  have := mem_ups.mp hi
  show personAt true n e (i + 1) = _
  unfold personAt
  rw [if_pos rfl, if_neg (by omega), show i + 1 - 1 = i by omega]
theorem evL_rows (n e : Int) : evL false n e = (ups n).map (personIn n e) := by
  unfold evL
  refine List.map_congr_left fun i hi => ?_
  unfold personAt
  rw [if_neg Bool.false_ne_true]
def mm (a b : Int) : Int × Int := (if b < a then b else a, if b > a then b else a)
theorem mm_eq {a b c d : Int} (h : mm a b = mm c d) : (a = c ∧ b = d) ∨ (a = d ∧ b = c) := by
  unfold mm at h
  rw [Prod.mk.injEq] at h
  obtain ⟨h1, h2⟩ := h
  revert h1 h2
  split <;> split <;> split <;> split <;> omega
theorem mm_comm (a b : Int) : mm a b = mm b a := by
  unfold mm
  rw [Prod.mk.injEq]
  constructor
  · split <;> split <;> omega
  · split <;> split <;> omega
/-- the neighbours of an evening, as the law takes them -/
def nbs (r : Bool) (n e : Int) : List (Int × Int) := ((ups (n - 1)).map fun k => mm (personAt r n e k) (personAt r n e (k + 1))) ++ if r then [mm (personAt r n e 0) (personAt r n e (n - 1))] else []
/-- all pairs -/
def rowP (n k : Int) : List (Int × Int) := ((ups (n - (k + 1))).map fun j => (k, k + 1 + j))
def prs (n : Int) : List (Int × Int) := (ups n).flatMap (rowP n)
theorem mem_rowP {n k : Int} {p : Int × Int} (hk : 0 ≤ k) : p ∈ rowP n k ↔ p.1 = k ∧ k < p.2 ∧ p.2 < n := by
  obtain ⟨a, b⟩ := p
  unfold rowP
  simp only [List.mem_map, mem_ups, Prod.mk.injEq]
  constructor
  · rintro ⟨j, h, rfl, rfl⟩
    omega
  · rintro ⟨rfl, h1, h2⟩
    exact ⟨b - a - 1, by omega, rfl, by omega⟩
theorem mem_prs {n : Int} {p : Int × Int} : p ∈ prs n ↔ 0 ≤ p.1 ∧ p.1 < p.2 ∧ p.2 < n := by
  unfold prs
  rw [List.mem_flatMap]
  constructor
  · rintro ⟨k, hk, h⟩
    have := mem_ups.mp hk
    have := (mem_rowP this.1).mp h
    omega
  · intro h
    exact ⟨p.1, mem_ups.mpr (by omega), (mem_rowP h.1).mpr (by omega)⟩
theorem prs_lex (n : Int) : (prs n).Pairwise fun p q => p.1 < q.1 ∨ (p.1 = q.1 ∧ p.2 < q.2) := by
  unfold prs
  rw [List.pairwise_flatMap]
  constructor
  · intro k hk
    unfold rowP
    rw [List.pairwise_map]
    exact (ups_lt _).imp fun h => by
      right
      dsimp only
      omega
  · refine (ups_lt n).imp_of_mem fun {a b} ha hb h => ?_
    intro x hx y hy
    have h1 := (mem_rowP (mem_ups.mp ha).1).mp hx
    have h2 := (mem_rowP (mem_ups.mp hb).1).mp hy
    left
    omega
section
variable {r : Bool} {n k : Int}
theorem at_inj (h : SizeIs r n k) {e i j : Int} (he : 0 ≤ e) (hek : e < k) (hi : 0 ≤ i) (hin : i < n) (hj : 0 ≤ j) (hjn : j < n) (q : personAt r n e i = personAt r n e j) : i = j := by
  have h1 := index_at h he hek hi hin
  rw [q, index_at h he hek hj hjn] at h1
  exact h1.symm
theorem size_two (h : SizeIs r n k) : 2 ≤ n ∧ (r = true → 3 ≤ n) := by
  obtain ⟨h0, ⟨a, b⟩ | ⟨a, b⟩⟩ := h
  · exact ⟨by omega, fun _ => by omega⟩
  · refine ⟨by omega, fun c => ?_⟩
    rw [a] at c
    cases c
theorem mem_nbs {e : Int} {p : Int × Int} : p ∈ nbs r n e ↔ (∃ i, 0 ≤ i ∧ i + 1 < n ∧ p = mm (personAt r n e i) (personAt r n e (i + 1))) ∨ (r = true ∧ p = mm (personAt r n e 0) (personAt r n e (n - 1))) := by
  unfold nbs
  rw [List.mem_append, List.mem_map]
  constructor
  · rintro (⟨i, hi, rfl⟩ | h)
    · have := mem_ups.mp hi
      exact .inl ⟨i, this.1, by omega, rfl⟩
    · right
      cases r
      · exact absurd h List.not_mem_nil
      · exact ⟨rfl, List.mem_singleton.mp h⟩
  · rintro (⟨i, h0, h1, rfl⟩ | ⟨rfl, rfl⟩)
    · exact .inl ⟨i, mem_ups.mpr (by omega), rfl⟩
    · exact .inr (List.mem_singleton.mpr rfl)
/-- a pair of neighbours: two people beside one another, in order -/
theorem nbs_spot (h : SizeIs r n k) {e : Int} {p : Int × Int} (hp : p ∈ nbs r n e) : ∃ i j, 0 ≤ i ∧ i < n ∧ 0 ≤ j ∧ j < n ∧ j ∈ spots r n i ∧ p = mm (personAt r n e i) (personAt r n e j) := by
  have h2 := size_two h
  rcases mem_nbs.mp hp with ⟨i, h0, h1, rfl⟩ | ⟨hr, rfl⟩
  · exact ⟨i, i + 1, h0, by omega, by omega, h1, spot_of h h0 (by omega) (by omega) h1 (.inl rfl), rfl⟩
  · exact ⟨0, n - 1, by omega, by omega, by omega, by omega, spot_of h (by omega) (by omega) (by omega) (by omega) (.inr (.inr (.inl ⟨hr, rfl, rfl⟩))), rfl⟩
theorem spot_nbs (h : SizeIs r n k) {e i j : Int} (hi : 0 ≤ i) (hin : i < n) (hj : j ∈ spots r n i) : mm (personAt r n e i) (personAt r n e j) ∈ nbs r n e := by
  have h2 := size_two h
  obtain ⟨j0, j1, c⟩ := spots_in h hi hin hj
  rcases c with ⟨rfl, c⟩ | ⟨rfl, c⟩ | ⟨hr, rfl, rfl⟩ | ⟨hr, rfl, rfl⟩
  · refine mem_nbs.mpr (.inl ⟨i - 1, by omega, by omega, ?_⟩)
    rw [mm_comm, show i - 1 + 1 = i by omega]
  · exact mem_nbs.mpr (.inl ⟨i, hi, by omega, rfl⟩)
  · exact mem_nbs.mpr (.inr ⟨hr, rfl⟩)
  · exact mem_nbs.mpr (.inr ⟨hr, mm_comm _ _⟩)
theorem mm_lt {a b : Int} (h : a ≠ b) : (mm a b).1 < (mm a b).2 ∧ ((mm a b = (a, b)) ∨ (mm a b = (b, a))) := by
  unfold mm
  dsimp only
  by_cases c : b < a
  · rw [if_pos c, if_neg (by omega)]
    exact ⟨c, .inr rfl⟩
  · rw [if_neg c, if_pos (by omega)]
    exact ⟨by omega, .inl rfl⟩
theorem nbs_evening (h : SizeIs r n k) {e : Int} (he : 0 ≤ e) (hek : e < k) {p : Int × Int} (hp : p ∈ nbs r n e) : eveningOf r n p.1 p.2 = e ∧ 0 ≤ p.1 ∧ p.1 < p.2 ∧ p.2 < n := by
  obtain ⟨i, j, i0, i1, j0, j1, hj, rfl⟩ := nbs_spot h hp
  have ne : personAt r n e i ≠ personAt r n e j := fun z => spots_ne h i0 i1 hj (at_inj h he hek i0 i1 j0 j1 z).symm
  have b1 := at_bound h he hek i0 i1
  have b2 := at_bound h he hek j0 j1
  have es := evening_spot h he hek i0 i1 hj
  obtain ⟨lt, c⟩ := mm_lt ne
  refine ⟨?_, ?_, lt, ?_⟩
  · rcases c with c | c
    · rw [c]
      exact es
    · rw [c, evening_comm]
      exact es
  · rcases c with c | c <;> rw [c] <;> omega
  · rcases c with c | c <;> rw [c] <;> omega
theorem nbs_nodup (h : SizeIs r n k) {e : Int} (he : 0 ≤ e) (hek : e < k) : (nbs r n e).Nodup := by
  have h2 := size_two h
  unfold nbs
  rw [List.nodup_append]
  refine ⟨?_, ?_, ?_⟩
  · refine List.pairwise_map.mpr ((ups_lt _).imp_of_mem fun {a b} ha hb hab q => ?_)
    have a1 := mem_ups.mp ha
    have b1 := mem_ups.mp hb
    rcases mm_eq q with ⟨c, _⟩ | ⟨c, d⟩
    · have := at_inj h he hek a1.1 (by omega) b1.1 (by omega) c
      omega
    · have := at_inj h he hek a1.1 (by omega) (by omega) (by omega) c
      omega
  · cases r
    · exact List.nodup_nil
    · exact List.nodup_cons.mpr ⟨List.not_mem_nil, List.nodup_nil⟩
  · intro a ha b hb q
    cases r
    · exact absurd hb List.not_mem_nil
    · rw [if_pos rfl, List.mem_singleton] at hb
      obtain ⟨i, hi, e1⟩ := List.mem_map.mp ha
      have a1 := mem_ups.mp hi
      have h3 := h2.2 rfl
      rw [hb] at q
      rw [← e1] at q
      rcases mm_eq q with ⟨c, d⟩ | ⟨c, d⟩
      · have := at_inj h he hek a1.1 (by omega) (by omega) (by omega) c
        have := at_inj h he hek (by omega) (by omega) (by omega) (by omega) d
        omega
      · have := at_inj h he hek a1.1 (by omega) (by omega) (by omega) c
        have := at_inj h he hek (by omega) (by omega) (by omega) (by omega) d
        omega
/-- all neighbours of all evenings -/
def allN (r : Bool) (n k : Int) : List (Int × Int) := (ups k).flatMap (nbs r n)
theorem allN_nodup (h : SizeIs r n k) : (allN r n k).Nodup := by
  unfold allN
  refine List.pairwise_flatMap.mpr ⟨fun e he => nbs_nodup h (mem_ups.mp he).1 (mem_ups.mp he).2, ?_⟩
  refine (ups_lt k).imp_of_mem fun {a b} ha hb hab => ?_
  intro x hx y hy q
  have a1 := mem_ups.mp ha
  have b1 := mem_ups.mp hb
  have e1 := (nbs_evening h a1.1 a1.2 hx).1
  have e2 := (nbs_evening h b1.1 b1.2 hy).1
  rw [q] at e1
  omega
theorem allN_mem (h : SizeIs r n k) (p : Int × Int) : p ∈ allN r n k ↔ p ∈ prs n := by
  rw [mem_prs]
  unfold allN
  rw [List.mem_flatMap]
  constructor
  · rintro ⟨e, he, hp⟩
    exact (nbs_evening h (mem_ups.mp he).1 (mem_ups.mp he).2 hp).2
  · rintro ⟨h0, h1, h2⟩
    obtain ⟨e0, e1, hs⟩ := evening_beside h h0 (by omega) (by omega) h2 (show p.1 ≠ p.2 by omega)
    refine ⟨eveningOf r n p.1 p.2, mem_ups.mpr ⟨e0, e1⟩, ?_⟩
    have b := index_bound h e0 e1 h0 (by omega)
    have m := spot_nbs (e := eveningOf r n p.1 p.2) h b.1 b.2 hs
    rw [at_index h e0 e1 h0 (by omega), at_index h e0 e1 (by omega) h2] at m
    have e : mm p.1 p.2 = p := by
      unfold mm
      rw [if_neg (by omega), if_pos (by omega)]
    rw [e] at m
    exact m
theorem prs_nodup (n : Int) : (prs n).Nodup := (prs_lex n).imp fun h e => by
  rw [e] at h
  omega
theorem allN_perm (h : SizeIs r n k) : (allN r n k).Perm (prs n) := (List.perm_ext_iff_of_nodup (allN_nodup h) (prs_nodup n)).mpr (allN_mem h)
/-- an evening is an order of all people -/
theorem evL_nodup (h : SizeIs r n k) {e : Int} (he : 0 ≤ e) (hek : e < k) : (evL r n e).Nodup := by
  unfold evL
  refine List.pairwise_map.mpr ((ups_lt _).imp_of_mem fun {a b} ha hb hab q => ?_)
  have a1 := mem_ups.mp ha
  have b1 := mem_ups.mp hb
  have := at_inj h he hek a1.1 a1.2 b1.1 b1.2 q
  omega
theorem evL_mem (h : SizeIs r n k) {e : Int} (he : 0 ≤ e) (hek : e < k) (p : Int) : p ∈ evL r n e ↔ 0 ≤ p ∧ p < n := by
  unfold evL
  rw [List.mem_map]
  constructor
  · rintro ⟨i, hi, rfl⟩
    exact at_bound h he hek (mem_ups.mp hi).1 (mem_ups.mp hi).2
  · rintro ⟨h0, h1⟩
    have b := index_bound h he hek h0 h1
    exact ⟨_, mem_ups.mpr b, at_index h he hek h0 h1⟩
theorem ups_nodup (n : Int) : (ups n).Nodup := (ups_lt n).imp fun h e => by omega
theorem evL_perm (h : SizeIs r n k) {e : Int} (he : 0 ≤ e) (hek : e < k) : (evL r n e).Perm (ups n) := (List.perm_ext_iff_of_nodup (evL_nodup h he hek) (ups_nodup n)).mpr fun p => by
  rw [evL_mem h he hek, mem_ups]
theorem mm_sum (a b : Int) : (mm a b).1 + (mm a b).2 = a + b := by
  unfold mm
  dsimp only
  split <;> split <;> omega
theorem mm_has (p a b : Int) : (p = (mm a b).1 ∨ p = (mm a b).2) ↔ (p = a ∨ p = b) := by
  unfold mm
  dsimp only
  split <;> split <;> omega
theorem spots_symm (h : SizeIs r n k) {i j : Int} (hi : 0 ≤ i) (hin : i < n) (hj : j ∈ spots r n i) : i ∈ spots r n j := by
  obtain ⟨j0, j1, c⟩ := spots_in h hi hin hj
  refine spot_of h j0 j1 hi hin ?_
  rcases c with ⟨c, _⟩ | ⟨c, _⟩ | ⟨c, d, e⟩ | ⟨c, d, e⟩
  · left; omega
  · right; left; omega
  · right; right; right; exact ⟨c, e, d⟩
  · right; right; left; exact ⟨c, e, d⟩
/-- the ones beside a person, by the pairs with it -/
def matesL (r : Bool) (n e p : Int) : List Int := (nbs r n e).filterMap fun q => if p = q.1 ∨ p = q.2 then some (q.1 + q.2 - p) else none
theorem spots_nodup (h : SizeIs r n k) {i : Int} (hi : 0 ≤ i) (hin : i < n) : (spots r n i).Nodup := by
  have h2 := size_two h
  unfold spots
  cases r
  · rw [if_neg Bool.false_ne_true]
    refine List.Pairwise.filter _ ?_
    refine List.nodup_cons.mpr ⟨fun q => ?_, List.nodup_cons.mpr ⟨List.not_mem_nil, List.nodup_nil⟩⟩
    have := List.mem_singleton.mp q
    omega
  · rw [if_pos rfl]
    refine List.nodup_cons.mpr ⟨fun q => ?_, List.nodup_cons.mpr ⟨List.not_mem_nil, List.nodup_nil⟩⟩
    have q' := List.mem_singleton.mp q
    have h3 := h2.2 rfl
    rw [emod3 (by omega) (by omega) (by omega), emod3 (by omega) (by omega) (by omega)] at q'
    revert q'
    (repeat' split) <;> omega
theorem mates_perm (h : SizeIs r n k) {e i : Int} (he : 0 ≤ e) (hek : e < k) (hi : 0 ≤ i) (hin : i < n) :
    (matesL r n e (personAt r n e i)).Perm ((spots r n i).map (personAt r n e)) := by
  refine (List.perm_ext_iff_of_nodup ?_ ?_).mpr fun q => ?_
  · unfold matesL
    refine List.pairwise_filterMap.mpr ((nbs_nodup h he hek).imp_of_mem ?_)
    intro a b ha hb ne x hx y hy q
    refine ne ?_
    have a3 := (nbs_evening h he hek ha).2.2.1
    have b3 := (nbs_evening h he hek hb).2.2.1
    obtain ⟨a1, a2⟩ := a
    obtain ⟨b1, b2⟩ := b
    dsimp only at *
    rw [Prod.mk.injEq]
    generalize personAt r n e i = p at *
    by_cases c1 : p = a1 ∨ p = a2
    · by_cases c2 : p = b1 ∨ p = b2
      · rw [if_pos c1] at hx
        rw [if_pos c2] at hy
        have hx := Option.some.inj hx
        have hy := Option.some.inj hy
        omega
      · rw [if_neg c2] at hy
        cases hy
    · rw [if_neg c1] at hx
      cases hx
  · refine List.pairwise_map.mpr ((spots_nodup h hi hin).imp_of_mem fun {a b} ha hb hab q => ?_)
    obtain ⟨a0, a1, _⟩ := spots_in h hi hin ha
    obtain ⟨b0, b1, _⟩ := spots_in h hi hin hb
    exact hab (at_inj h he hek a0 a1 b0 b1 q)
  · unfold matesL
    rw [List.mem_filterMap, List.mem_map]
    constructor
    · rintro ⟨p, hp, c⟩
      obtain ⟨a, b, a0, a1, b0, b1, hb, rfl⟩ := nbs_spot h hp
      by_cases c1 : personAt r n e i = (mm (personAt r n e a) (personAt r n e b)).1 ∨ personAt r n e i = (mm (personAt r n e a) (personAt r n e b)).2
      · rw [if_pos c1, mm_sum] at c
        have c := Option.some.inj c
        rcases (mm_has _ _ _).mp c1 with c2 | c2
        · have := at_inj h he hek hi hin a0 a1 c2
          subst this
          exact ⟨b, hb, by omega⟩
        · have := at_inj h he hek hi hin b0 b1 c2
          subst this
          exact ⟨a, spots_symm h a0 a1 hb, by omega⟩
      · rw [if_neg c1] at c
        cases c
    · rintro ⟨j, hj, rfl⟩
      refine ⟨mm (personAt r n e i) (personAt r n e j), spot_nbs h hi hin hj, ?_⟩
      rw [if_pos ((mm_has _ _ _).mpr (.inl rfl)), mm_sum]
      congr 1
      omega
end
end Zig

/-! Neighbours of an order: turned, gone back, renamed. -/
namespace Zig
def adjL : List Int → List (Int × Int)
  | a :: b :: r => mm a b :: adjL (b :: r)
  | _ => []
theorem adj_cons (a b : Int) (r : List Int) : adjL (a :: b :: r) = mm a b :: adjL (b :: r) := rfl
/-- at an item both parts share -/
theorem adj_app : ∀ (xs : List Int) (p : Int) (ys : List Int), adjL (xs ++ p :: ys) = adjL (xs ++ [p]) ++ adjL (p :: ys)
  | [], p, ys => rfl
  | [x], p, ys => by
    show mm x p :: adjL (p :: ys) = [mm x p] ++ adjL (p :: ys)
    rfl
  | x :: y :: r, p, ys => by
    have ih := adj_app (y :: r) p ys
    show mm x y :: adjL (y :: r ++ p :: ys) = mm x y :: adjL (y :: r ++ [p]) ++ adjL (p :: ys)
    rw [ih]
    rfl
theorem adj_rev : ∀ l : List Int, adjL l.reverse = (adjL l).reverse
  | [] => rfl
  | [a] => rfl
  | a :: b :: r => by
    have ih := adj_rev (b :: r)
    rw [List.reverse_cons, List.reverse_cons, List.append_assoc]
    show adjL (r.reverse ++ b :: [a]) = _
    rw [adj_app, adj_cons, adj_cons, List.reverse_cons, ← ih, List.reverse_cons, mm_comm b a]
    rfl
/-- round in a ring -/
def ringL (l : List Int) : List (Int × Int) := adjL (l ++ l.take 1)
theorem ring_turn (a b : List Int) : (ringL (b ++ a)).Perm (ringL (a ++ b)) := by
  cases a with
  | nil => simp
  | cons x a =>
    cases b with
    | nil => simp
    | cons y b =>
      have e1 : ringL (x :: a ++ y :: b) = adjL (x :: a ++ [y]) ++ adjL (y :: b ++ [x]) := by
        unfold ringL
        show adjL (x :: a ++ y :: b ++ [x]) = _
        rw [List.append_assoc]
        exact adj_app (x :: a) y (b ++ [x])
      have e2 : ringL (y :: b ++ x :: a) = adjL (y :: b ++ [x]) ++ adjL (x :: a ++ [y]) := by
        unfold ringL
        show adjL (y :: b ++ x :: a ++ [y]) = _
        rw [List.append_assoc]
        exact adj_app (y :: b) x (a ++ [y])
      rw [e1, e2]
      exact List.perm_append_comm
theorem ring_rev (l : List Int) : (ringL l.reverse).Perm (ringL l) := by
  cases l with
  | nil => exact .nil
  | cons x l =>
    have h1 : (ringL (l.reverse ++ [x])).Perm (ringL ([x] ++ l.reverse)) := ring_turn [x] l.reverse
    rw [List.reverse_cons]
    refine h1.trans ?_
    have e : ringL ([x] ++ l.reverse) = (ringL (x :: l)).reverse := by
      unfold ringL
      rw [← adj_rev]
      show adjL (x :: l.reverse ++ [x]) = adjL (x :: l ++ [x]).reverse
      congr 1
      simp
    rw [e]
    exact List.reverse_perm _
/-- neighbours of a ring or a row -/
def besL (r : Bool) (l : List Int) : List (Int × Int) := if r = true then ringL l else adjL l
theorem bes_rev (r : Bool) (l : List Int) : (besL r l.reverse).Perm (besL r l) := by
  unfold besL
  cases r
  · rw [if_neg Bool.false_ne_true, if_neg Bool.false_ne_true, adj_rev]
    exact List.reverse_perm _
  · rw [if_pos rfl, if_pos rfl]
    exact ring_rev l
def mapP (f : Int → Int) (p : Int × Int) : Int × Int := mm (f p.1) (f p.2)
theorem map_mm (f : Int → Int) (a b : Int) : mapP f (mm a b) = mm (f a) (f b) := by
  unfold mapP
  have h : mm a b = (a, b) ∨ mm a b = (b, a) := by
    unfold mm
    by_cases c : b < a
    · rw [if_pos c, if_neg (by omega)]
      exact .inr rfl
    · rw [if_neg c]
      by_cases d : b > a
      · rw [if_pos d]
        exact .inl rfl
      · rw [if_neg d]
        have : a = b := by omega
        rw [this]
        exact .inl rfl
  rcases h with h | h
  · rw [h]
  · rw [h, mm_comm]
theorem adj_map (f : Int → Int) : ∀ l : List Int, adjL (l.map f) = (adjL l).map (mapP f)
  | [] => rfl
  | [a] => rfl
  | a :: b :: r => by
    have ih := adj_map f (b :: r)
    show mm (f a) (f b) :: adjL ((b :: r).map f) = mapP f (mm a b) :: (adjL (b :: r)).map (mapP f)
    rw [ih, map_mm]
theorem bes_map (r : Bool) (f : Int → Int) (l : List Int) : besL r (l.map f) = (besL r l).map (mapP f) := by
  unfold besL
  cases r
  · rw [if_neg Bool.false_ne_true, if_neg Bool.false_ne_true]
    exact adj_map f l
  · rw [if_pos rfl, if_pos rfl]
    unfold ringL
    rw [← adj_map, List.map_append, List.map_take]
def nbL (r : Bool) (l : List Int) : List (Int × Int) := (ups (if r = true then (l.length : Int) else (l.length : Int) - 1)).map fun (k : Int) => mm (l.getD k.toNat 0) (l.getD ((k + 1) % (l.length : Int)).toNat 0)
theorem adj_get : ∀ l : List Int, adjL l = (List.range (l.length - 1)).map fun k => mm (l.getD k 0) (l.getD (k + 1) 0)
  | [] => rfl
  | [a] => rfl
  | a :: b :: r => by
    have ih := adj_get (b :: r)
    rw [adj_cons, ih]
    show _ = (List.range (r.length + 1)).map _
    rw [List.range_succ_eq_map, List.map_cons, List.map_map]
    rfl
theorem nb_bes (r : Bool) {l : List Int} (h : 0 < l.length) : nbL r l = besL r l := by
  unfold nbL besL
  cases r
  · rw [if_neg Bool.false_ne_true, if_neg Bool.false_ne_true, adj_get]
    unfold ups
    rw [List.map_map, show ((l.length : Int) - 1).toNat = l.length - 1 by omega]
    refine List.map_congr_left fun k hk => ?_
    have hk := List.mem_range.mp hk
    show mm (l.getD (k : Int).toNat 0) (l.getD (((k : Int) + 1) % (l.length : Int)).toNat 0) = _
    rw [Int.emod_eq_of_lt (by omega) (by omega)]
    rfl
  · rw [if_pos rfl, if_pos rfl]
    unfold ringL
    rw [adj_get]
    unfold ups
    obtain ⟨x, t, rfl⟩ : ∃ x t, l = x :: t := by
      cases l with
      | nil => simp at h
      | cons x t => exact ⟨x, t, rfl⟩
    rw [List.map_map, List.length_append, List.length_take, show (((x :: t).length : Nat) : Int).toNat = (x :: t).length by omega, show (x :: t).length + min 1 (x :: t).length - 1 = (x :: t).length by simp]
    refine List.map_congr_left fun k hk => ?_
    have hk := List.mem_range.mp hk
    show mm ((x :: t).getD (k : Int).toNat 0) ((x :: t).getD (((k : Int) + 1) % ((x :: t).length : Int)).toNat 0) = _
    have e1 : ((x :: t) ++ (x :: t).take 1).getD k 0 = (x :: t).getD k 0 := by
      rw [List.getD_eq_getElem?_getD, List.getD_eq_getElem?_getD, List.getElem?_append_left hk]
    rw [e1]
    by_cases c : k + 1 < (x :: t).length
    · rw [Int.emod_eq_of_lt (by omega) (by omega)]
      have e2 : ((x :: t) ++ (x :: t).take 1).getD (k + 1) 0 = (x :: t).getD (k + 1) 0 := by
        rw [List.getD_eq_getElem?_getD, List.getD_eq_getElem?_getD, List.getElem?_append_left c]
      rw [e2]
      rfl
    · have e3 : k + 1 = (x :: t).length := by omega
      have e4 : ((k : Int) + 1) % ((x :: t).length : Int) = 0 := by
        rw [show (k : Int) + 1 = ((x :: t).length : Int) by omega]
        exact Int.emod_self
      rw [e4, e3]
      have e5 : ((x :: t) ++ (x :: t).take 1).getD (x :: t).length 0 = x := by
        rw [List.getD_eq_getElem?_getD, List.getElem?_append_right (Nat.le_refl _), Nat.sub_self]
        rfl
      rw [e5]
      rfl
end Zig
namespace Zig
/-- a party, as lists -/
structure IsParty (r : Bool) (n : Int) (ls : List (List Int)) : Prop where
  many : (ls.length : Int) = nights r n
  all : ∀ l ∈ ls, l.Perm (ups n)
  once : (ls.flatMap (besL r)).Nodup
theorem evL_bes {r : Bool} {n k e : Int} (h : SizeIs r n k) : besL r (evL r n e) = nbs r n e := by
  have h2 := size_two h
  rw [← nb_bes r (by rw [evL_len]; omega)]
  have g : ∀ k : Int, 0 ≤ k → k < n → (evL r n e).getD k.toNat 0 = personAt r n e k := fun k h0 h1 => by
    rw [List.getD_eq_getElem?_getD, evL_get (by omega), show ((k.toNat : Nat) : Int) = k by omega]
    rfl
  unfold nbL nbs
  rw [show ((evL r n e).length : Int) = n by rw [evL_len]; omega]
  cases r
  · rw [if_neg Bool.false_ne_true, if_neg Bool.false_ne_true, List.append_nil]
    refine List.map_congr_left fun k hk => ?_
    have hk := mem_ups.mp hk
    show mm ((evL false n e).getD k.toNat 0) ((evL false n e).getD ((k + 1) % n).toNat 0) = _
    rw [Int.emod_eq_of_lt (by omega) (by omega), g k (by omega) (by omega), g (k + 1) (by omega) (by omega)]
  · rw [if_pos rfl, if_pos rfl]
    have hu : ups n = ups (n - 1) ++ [n - 1] := by
      have := ups_succ (n - 1).toNat
      rw [show (((n - 1).toNat : Nat) : Int) = n - 1 by omega, show n - 1 + 1 = n by omega] at this
      exact this
    rw [hu, List.map_append]
    congr 1
    · refine List.map_congr_left fun k hk => ?_
      have hk := mem_ups.mp hk
      show mm ((evL true n e).getD k.toNat 0) ((evL true n e).getD ((k + 1) % n).toNat 0) = _
      rw [Int.emod_eq_of_lt (by omega) (by omega), g k (by omega) (by omega), g (k + 1) (by omega) (by omega)]
    · show [mm ((evL true n e).getD (n - 1).toNat 0) ((evL true n e).getD ((n - 1 + 1) % n).toNat 0)] = _
      rw [show n - 1 + 1 = n by omega, Int.emod_self, g (n - 1) (by omega) (by omega), g 0 (by omega) (by omega), mm_comm]
/-- the zigzag's evenings -/
def zzL (r : Bool) (n : Int) : List (List Int) := (ups (nights r n)).map (evL r n)
theorem zz_party {r : Bool} {n k : Int} (h : SizeIs r n k) : IsParty r n (zzL r n) := by
  have hk := h.nights
  refine ⟨?_, fun l hl => ?_, ?_⟩
  · unfold zzL
    rw [List.length_map, ups_len]
    have := h.1
    omega
  · obtain ⟨e, he, rfl⟩ := List.mem_map.mp hl
    have he := mem_ups.mp he
    exact evL_perm h he.1 (by omega)
  · have e : (zzL r n).flatMap (besL r) = allN r n k := by
      unfold zzL allN
      rw [hk, List.flatMap_map]
      rw [show (fun a => besL r (evL r n a)) = nbs r n from funext fun e => evL_bes h]
    rw [e]
    exact allN_nodup h
/-- in another order, each evening with the same neighbours -/
theorem IsParty.perm {r : Bool} {n : Int} {ls ms : List (List Int)} (p : IsParty r n ls) (h : ms.Perm ls) : IsParty r n ms :=
  ⟨by rw [h.length_eq]; exact p.many, fun l hl => p.all l (h.mem_iff.mp hl), (h.flatMap_right (besL r)).nodup_iff.mpr p.once⟩
theorem perm_of_sub : ∀ {m ns : List Int}, m.Nodup → (∀ x ∈ m, x ∈ ns) → m.length = ns.length → m.Perm ns
  | [], [], _, _, _ => .nil
  | [], _ :: _, _, _, h => by simp at h
  | x :: m, ns, hd, hs, hl => by
    have hx := hs x List.mem_cons_self
    have hp := List.perm_cons_erase hx
    obtain ⟨h1, h2⟩ := List.nodup_cons.mp hd
    refine .trans (.cons x (perm_of_sub (ns := ns.erase x) h2 (fun y hy => ?_) ?_)) hp.symm
    · have hne : y ≠ x := fun e => h1 (e ▸ hy)
      exact (List.mem_erase_of_ne hne).mpr (hs y (List.mem_cons_of_mem _ hy))
    · have := hp.length_eq
      rw [List.length_cons] at this hl
      omega
/-- each evening anew with the same people and the same neighbours -/
inductive Alike (r : Bool) : List (List Int) → List (List Int) → Prop
  | nil : Alike r [] []
  | cons {m l ms ls} : m.Perm l → (besL r m).Perm (besL r l) → Alike r ms ls → Alike r (m :: ms) (l :: ls)
theorem Alike.snoc {r : Bool} {m l : List Int} (h1 : m.Perm l) (h2 : (besL r m).Perm (besL r l)) : ∀ {ms ls : List (List Int)}, Alike r ms ls → Alike r (ms ++ [m]) (ls ++ [l])
  | _, _, .nil => .cons h1 h2 .nil
  | _, _, .cons a b t => .cons a b (t.snoc h1 h2)
theorem Alike.len {r : Bool} : ∀ {ms ls : List (List Int)}, Alike r ms ls → ms.length = ls.length
  | _, _, .nil => rfl
  | _, _, .cons _ _ t => by rw [List.length_cons, List.length_cons, t.len]
theorem Alike.all {r : Bool} {n : Int} : ∀ {ms ls : List (List Int)}, Alike r ms ls → (∀ l ∈ ls, l.Perm (ups n)) → ∀ m ∈ ms, m.Perm (ups n)
  | _, _, .nil, _, m, h => absurd h List.not_mem_nil
  | _, _, .cons a _ t, hl, m, h => by
    rcases List.mem_cons.mp h with rfl | h
    · exact a.trans (hl _ List.mem_cons_self)
    · exact t.all (fun l h => hl l (List.mem_cons_of_mem _ h)) m h
theorem Alike.flat {r : Bool} : ∀ {ms ls : List (List Int)}, Alike r ms ls → (ms.flatMap (besL r)).Perm (ls.flatMap (besL r))
  | _, _, .nil => .nil
  | _, _, .cons _ b t => by
    rw [List.flatMap_cons, List.flatMap_cons]
    exact b.append t.flat
theorem IsParty.alike {r : Bool} {n : Int} {ls ms : List (List Int)} (p : IsParty r n ls) (h : Alike r ms ls) : IsParty r n ms :=
  ⟨by rw [h.len]; exact p.many, h.all p.all, h.flat.nodup_iff.mpr p.once⟩
/-- members of the neighbours: people of the evening -/
theorem adj_mem : ∀ {l : List Int} {p : Int × Int}, p ∈ adjL l → p.1 ∈ l ∧ p.2 ∈ l
  | a :: b :: r, p, h => by
    rcases List.mem_cons.mp h with rfl | h
    · unfold mm
      dsimp only
      refine ⟨?_, ?_⟩ <;> split <;> simp
    · have := adj_mem h
      exact ⟨List.mem_cons_of_mem _ this.1, List.mem_cons_of_mem _ this.2⟩
theorem adj_le : ∀ {l : List Int} {p : Int × Int}, p ∈ adjL l → p.1 ≤ p.2
  | a :: b :: r, p, h => by
    rcases List.mem_cons.mp h with rfl | h
    · unfold mm
      dsimp only
      split <;> split <;> omega
    · exact adj_le h
theorem bes_mem {r : Bool} {l : List Int} {p : Int × Int} (h : p ∈ besL r l) : p.1 ∈ l ∧ p.2 ∈ l ∧ p.1 ≤ p.2 := by
  unfold besL at h
  cases r
  · rw [if_neg Bool.false_ne_true] at h
    exact ⟨(adj_mem h).1, (adj_mem h).2, adj_le h⟩
  · rw [if_pos rfl] at h
    unfold ringL at h
    have g : ∀ x, x ∈ l ++ l.take 1 → x ∈ l := fun x hx => by
      rcases List.mem_append.mp hx with hx | hx
      · exact hx
      · exact List.mem_of_mem_take hx
    exact ⟨g _ (adj_mem h).1, g _ (adj_mem h).2, adj_le h⟩
/-- under other names -/
theorem IsParty.named {r : Bool} {n : Int} {ls : List (List Int)} (p : IsParty r n ls) {f : Int → Int} (hb : ∀ x, 0 ≤ x → x < n → 0 ≤ f x ∧ f x < n) (hi : ∀ x y, 0 ≤ x → x < n → 0 ≤ y → y < n → f x = f y → x = y) : IsParty r n (ls.map fun l => l.map f) := by
  have hin : ∀ l ∈ ls, ∀ x ∈ l, 0 ≤ x ∧ x < n := fun l hl x hx => mem_ups.mp ((p.all l hl).mem_iff.mp hx)
  have hnd : ∀ l ∈ ls, (l.map f).Nodup := fun l hl => by
    refine List.pairwise_map.mpr (((p.all l hl).nodup_iff.mpr (ups_nodup n)).imp_of_mem fun {a b} ha hb2 hab q => ?_)
    have a1 := hin l hl a ha
    have b1 := hin l hl b hb2
    exact hab (hi a b a1.1 a1.2 b1.1 b1.2 q)
  refine ⟨by rw [List.length_map]; exact p.many, fun m hm => ?_, ?_⟩
  · obtain ⟨l, hl, rfl⟩ := List.mem_map.mp hm
    have hs : ∀ x ∈ l.map f, x ∈ ups n := fun x hx => by
      obtain ⟨y, hy, rfl⟩ := List.mem_map.mp hx
      have := hin l hl y hy
      exact mem_ups.mpr (hb y this.1 this.2)
    exact perm_of_sub (hnd l hl) hs (by rw [List.length_map, (p.all l hl).length_eq])
  · have e : (ls.map fun l => l.map f).flatMap (besL r) = (ls.flatMap (besL r)).map (mapP f) := by
      rw [List.flatMap_map, List.map_flatMap]
      congr 1
      exact funext fun l => bes_map r f l
    rw [e]
    refine List.pairwise_map.mpr (p.once.imp_of_mem fun {a b} ha hb2 hab q => ?_)
    obtain ⟨l, hl, ha⟩ := List.mem_flatMap.mp ha
    obtain ⟨m, hm, hb2⟩ := List.mem_flatMap.mp hb2
    have a1 := bes_mem ha
    have b1 := bes_mem hb2
    have i1 := hin l hl _ a1.1
    have i2 := hin l hl _ a1.2.1
    have j1 := hin m hm _ b1.1
    have j2 := hin m hm _ b1.2.1
    refine hab ?_
    obtain ⟨a1', a2'⟩ := a
    obtain ⟨b1', b2'⟩ := b
    dsimp only at *
    rw [Prod.mk.injEq]
    rcases mm_eq q with ⟨c, d⟩ | ⟨c, d⟩
    · exact ⟨hi _ _ i1.1 i1.2 j1.1 j1.2 c, hi _ _ i2.1 i2.2 j2.1 j2.2 d⟩
    · have c1 := hi _ _ i1.1 i1.2 j2.1 j2.2 c
      have c2 := hi _ _ i2.1 i2.2 j1.1 j1.2 d
      omega
theorem sub_len : ∀ {m ns : List Int}, m.Nodup → (∀ x ∈ m, x ∈ ns) → m.length ≤ ns.length
  | [], _, _, _ => Nat.zero_le _
  | x :: m, ns, hd, hs => by
    have hx := hs x List.mem_cons_self
    have hp := List.perm_cons_erase hx
    obtain ⟨h1, h2⟩ := List.nodup_cons.mp hd
    have ih := sub_len (ns := ns.erase x) h2 fun y hy => by
      have hne : y ≠ x := fun e => h1 (e ▸ hy)
      exact (List.mem_erase_of_ne hne).mpr (hs y (List.mem_cons_of_mem _ hy))
    have := hp.length_eq
    rw [List.length_cons] at this ⊢
    omega
end Zig

/-! Two people of one evening exchanged: some pair of neighbours is new. -/
namespace Zig
/-- places beside one another -/
def Near (r : Bool) (n a b : Nat) : Prop := b = a + 1 ∨ a = b + 1 ∨ (r = true ∧ ((a = 0 ∧ b + 1 = n) ∨ (b = 0 ∧ a + 1 = n)))
theorem near_mem {r : Bool} {l : List Int} {a b : Nat} (ha : a < l.length) (hb : b < l.length) (h : Near r l.length a b) : mm (l.getD a 0) (l.getD b 0) ∈ nbL r l := by
  have key : ∀ a b : Nat, a < l.length → b < l.length → b = a + 1 → mm (l.getD a 0) (l.getD b 0) ∈ nbL r l := fun a b ha hb e => by
    subst e
    unfold nbL
    refine List.mem_map.mpr ⟨(a : Int), mem_ups.mpr ⟨by omega, by split <;> omega⟩, ?_⟩
    rw [Int.emod_eq_of_lt (by omega) (by omega)]
    rfl
  have last : ∀ a b : Nat, r = true → a = 0 → b + 1 = l.length → mm (l.getD a 0) (l.getD b 0) ∈ nbL r l := fun a b hr e f => by
    subst e
    unfold nbL
    refine List.mem_map.mpr ⟨(b : Int), mem_ups.mpr ⟨by omega, by rw [if_pos hr]; omega⟩, ?_⟩
    rw [show (b : Int) + 1 = (l.length : Int) by omega, Int.emod_self, mm_comm]
    rfl
  rcases h with h | h | ⟨hr, h | h⟩
  · exact key a b ha hb h
  · rw [mm_comm]
    exact key b a hb ha h
  · exact last a b hr h.1 h.2
  · rw [mm_comm]
    exact last b a hr h.1 h.2
theorem getD_inj {l : List Int} (hn : l.Nodup) {a b : Nat} (ha : a < l.length) (hb : b < l.length) (h : l.getD a 0 = l.getD b 0) : a = b := by
  rw [List.getD_eq_getElem?_getD, List.getD_eq_getElem?_getD, List.getElem?_eq_getElem ha, List.getElem?_eq_getElem hb] at h
  exact (List.getElem_inj hn).mp h
theorem mem_near {r : Bool} {l : List Int} (hn : l.Nodup) {a b : Nat} (ha : a < l.length) (hb : b < l.length) (h : mm (l.getD a 0) (l.getD b 0) ∈ nbL r l) : Near r l.length a b := by
  unfold nbL at h
  obtain ⟨k, hk, e⟩ := List.mem_map.mp h
  have hk := mem_ups.mp hk
  have hlt : k.toNat < l.length := by
    have := hk.2
    split at this <;> omega
  obtain ⟨m, rfl⟩ : ∃ m : Nat, k = m := ⟨k.toNat, by omega⟩
  rw [show ((m : Nat) : Int).toNat = m from rfl] at e hlt
  by_cases c : m + 1 < l.length
  · rw [Int.emod_eq_of_lt (by omega) (by omega), show ((m : Int) + 1).toNat = m + 1 by omega] at e
    rcases mm_eq e with ⟨e1, e2⟩ | ⟨e1, e2⟩
    · have := getD_inj hn hlt ha e1
      have := getD_inj hn c hb e2
      unfold Near
      omega
    · have := getD_inj hn hlt hb e1
      have := getD_inj hn c ha e2
      unfold Near
      omega
  · have hr : r = true := by
      cases r
      · have := hk.2
        rw [if_neg Bool.false_ne_true] at this
        omega
      · rfl
    rw [show (m : Int) + 1 = (l.length : Int) by omega, Int.emod_self] at e
    have h0 : (0 : Nat) < l.length := by omega
    rcases mm_eq e with ⟨e1, e2⟩ | ⟨e1, e2⟩
    · have := getD_inj hn hlt ha e1
      have := getD_inj hn h0 hb e2
      unfold Near
      exact .inr (.inr ⟨hr, by omega⟩)
    · have := getD_inj hn hlt hb e1
      have := getD_inj hn h0 ha e2
      unfold Near
      exact .inr (.inr ⟨hr, by omega⟩)
/-- among the places of one of two: one that is not beside the other -/
theorem far_place {r : Bool} {n i j : Nat} (h4 : 4 < n) (hi : i < n) (hj : j < n) (h : i ≠ j) : ∃ a b k, ((a = i ∧ b = j) ∨ (a = j ∧ b = i)) ∧ k < n ∧ k ≠ i ∧ k ≠ j ∧ Near r n a k ∧ ¬ Near r n b k := by
  have key : ∀ i j : Nat, i < j → j < n → ∃ a b k, ((a = i ∧ b = j) ∨ (a = j ∧ b = i)) ∧ k < n ∧ k ≠ i ∧ k ≠ j ∧ Near r n a k ∧ ¬ Near r n b k := fun i j hij hj => by
    cases r
    · by_cases c : 0 < i
      · exact ⟨i, j, i - 1, .inl ⟨rfl, rfl⟩, by omega, by omega, by omega, .inr (.inl (by omega)), fun z => by
          rcases z with z | z | ⟨z, _⟩
          · omega
          · omega
          · cases z⟩
      · by_cases d : j + 1 < n
        · exact ⟨j, i, j + 1, .inr ⟨rfl, rfl⟩, by omega, by omega, by omega, .inl rfl, fun z => by
            rcases z with z | z | ⟨z, _⟩
            · omega
            · omega
            · cases z⟩
        · exact ⟨i, j, i + 1, .inl ⟨rfl, rfl⟩, by omega, by omega, by omega, .inl rfl, fun z => by
            rcases z with z | z | ⟨z, _⟩
            · omega
            · omega
            · cases z⟩
    · by_cases c : j + 3 ≤ i + n
      · refine ⟨i, j, if i = 0 then n - 1 else i - 1, .inl ⟨rfl, rfl⟩, by split <;> omega, by split <;> omega, by split <;> omega, ?_, fun z => ?_⟩
        · split
          · exact .inr (.inr ⟨rfl, .inl (by omega)⟩)
          · exact .inr (.inl (by omega))
        · revert z
          unfold Near
          split <;> omega
      · refine ⟨i, j, i + 1, .inl ⟨rfl, rfl⟩, by omega, by omega, by omega, .inl rfl, fun z => ?_⟩
        revert z
        unfold Near
        omega
  rcases Nat.lt_or_ge i j with c | c
  · exact key i j c hj
  · obtain ⟨a, b, k, h1, h2, h3, h4, h5, h6⟩ := key j i (by omega) hi
    exact ⟨a, b, k, h1.symm.imp (fun x => x) (fun x => x), h2, h4, h3, h5, h6⟩
/-- two places exchanged -/
structure Swap (i j : Nat) (l m : List Int) : Prop where
  len : m.length = l.length
  at1 : m.getD i 0 = l.getD j 0
  at2 : m.getD j 0 = l.getD i 0
  rest : ∀ k, k ≠ i → k ≠ j → m.getD k 0 = l.getD k 0
theorem getD_mem {l : List Int} {i : Nat} (h : i < l.length) : l.getD i 0 ∈ l := by
  rw [List.getD_eq_getElem?_getD, List.getElem?_eq_getElem h]
  exact List.getElem_mem h
/-- some pair of the exchanged order was no pair before -/
theorem swap_new {r : Bool} {l m : List Int} {i j : Nat} (hl : l.Nodup) (h4 : 4 < l.length) (hi : i < l.length) (hj : j < l.length) (hij : i ≠ j) (s : Swap i j l m) : ∃ x y, x ∈ l ∧ y ∈ l ∧ x ≠ y ∧ mm x y ∈ nbL r m ∧ mm x y ∉ nbL r l := by
  obtain ⟨a, b, k, hab, hk, ki, kj, h5, h6⟩ := far_place (r := r) h4 hi hj hij
  have ha : a < l.length := by omega
  have hb : b < l.length := by omega
  have e1 : m.getD a 0 = l.getD b 0 := by
    rcases hab with ⟨rfl, rfl⟩ | ⟨rfl, rfl⟩
    · exact s.at1
    · exact s.at2
  have e2 := s.rest k ki kj
  refine ⟨l.getD b 0, l.getD k 0, getD_mem hb, getD_mem hk, fun z => ?_, ?_, fun z => h6 (mem_near hl hb hk z)⟩
  · have := getD_inj hl hb hk z
    omega
  · rw [← e1, ← e2]
    exact near_mem (by rw [s.len]; exact ha) (by rw [s.len]; exact hk) (by rw [s.len]; exact h5)
/-- the zigzag with two people of one evening exchanged has some pair twice -/
theorem zz_bent {r : Bool} {n k : Int} (hs : SizeIs r n k) (h4 : 4 < n) {e i j : Nat} (he : (e : Int) < k) (hi : (i : Int) < n) (hj : (j : Int) < n) (hij : i ≠ j) {m : List Int} (sw : Swap i j (evL r n e) m) : ¬ ((zzL r n).set e m).Pairwise fun l m => ∀ p ∈ nbL r m, p ∉ nbL r l := by
  intro hp
  have hk := hs.nights
  have hlen : ∀ f : Int, (evL r n f).length = n.toNat := fun f => evL_len r n f
  obtain ⟨x, y, hx, hy, hxy, h1, h2⟩ := swap_new (r := r) (evL_nodup hs (by omega) he) (by rw [hlen]; omega) (by rw [hlen]; omega) (by rw [hlen]; omega) hij sw
  have hx := (evL_mem hs (by omega) he x).mp hx
  have hy := (evL_mem hs (by omega) he y).mp hy
  have hpr : mm x y ∈ prs n := by
    have := mm_lt hxy
    refine mem_prs.mpr ?_
    rcases this with ⟨h3, h4 | h4⟩
    · rw [h4] at h3 ⊢
      exact ⟨hx.1, h3, hy.2⟩
    · rw [h4] at h3 ⊢
      exact ⟨hy.1, h3, hx.2⟩
  have hall := (allN_mem hs _).mpr hpr
  unfold allN at hall
  obtain ⟨f, hf, hm⟩ := List.mem_flatMap.mp hall
  have hf := mem_ups.mp hf
  rw [← evL_bes hs, ← nb_bes r (by rw [hlen]; omega)] at hm
  have hne : f ≠ (e : Int) := fun z => h2 (z ▸ hm)
  obtain ⟨g, rfl⟩ : ∃ g : Nat, f = g := ⟨f.toNat, by omega⟩
  have hge : g ≠ e := fun z => hne (by rw [z])
  have hzl : (zzL r n).length = k.toNat := by
    unfold zzL
    rw [List.length_map, ups_len, hk]
  have at_e : ((zzL r n).set e m)[e]? = some m := by
    rw [List.getElem?_set_self (by rw [hzl]; omega)]
  have at_g : ((zzL r n).set e m)[g]? = some (evL r n g) := by
    rw [List.getElem?_set_ne (fun z => hge z.symm)]
    unfold zzL
    rw [List.getElem?_map, ups_get (by omega)]
    rfl
  obtain ⟨l1, e1⟩ := List.getElem?_eq_some_iff.mp at_e
  obtain ⟨l2, e2⟩ := List.getElem?_eq_some_iff.mp at_g
  have hp := List.pairwise_iff_getElem.mp hp
  rcases Nat.lt_or_ge g e with c | c
  · have := hp g e l2 l1 c _ (by rw [e1]; exact h1)
    rw [e2] at this
    exact this hm
  · have := hp e g l1 l2 (by omega) _ (by rw [e2]; exact hm)
    rw [e1] at this
    exact this h1
end Zig


namespace K68
open PySem PySem.Spec PyProof.Rows L2 Z ZX
local macro_rules | `(tactic| simp? only [$xs,*]) => `(tactic| simp only [L2.start, List.map_cons, List.map_nil, List.length_cons, List.length_nil, Nat.zero_add, Nat.reduceAdd, Nat.reduceSub, List.replicate_succ, List.replicate_zero, List.cons_append, List.nil_append, List.append_nil, L2.tNext, L2.tAsg, L2.gName, L2.tRet, L2.tRetN, L2.tIfS, L2.tVar, L2.tC, L2.tOp, L2.tUn, L2.rI, L2.rI0, L2.rU, L2.rEq, L2.rNe, L2.tTest, L2.tB, L2.tIf, Z.tIfCI, Z.tIfCS, L2.tChain, L2.tCons, L2.tNil, L2.tCall, L2.tDrop, L2.tAndV, L2.tOrV, L2.tNotV, L2.tAnd, L2.tOr, L2.tNot, L2.tCB, Z.sc_ii, Z.sc_ss, Z.sc_bb, Z.sc_is, Z.sc_si, Z.sc_ni, Z.sc_in, Z.sc_ns, Z.sc_sn, Z.sc_nn, L2.CDiv, L2.CPow, L2.CMul, List.getElem?_cons_zero, List.getElem?_cons_succ, Z.set_z, Z.set_s, Option.some.injEq, L2.V.int.injEq, L2.V.bl.injEq, L2.V.str.injEq, L2.V.ref.injEq, L2.V.ty.injEq, List.cons.injEq, exists_eq_left', exists_and_left, exists_eq_left, exists_eq_right, exists_eq_right', exists_eq', exists_eq, true_and, and_true, and_assoc, decide_eq_true_eq, Int.reduceLT, and_self, Z.rIxH, Z.rIxU, Z.at30, Z.at31, Z.at32, Z.ix3_0, Z.ix3_1, Z.ix3_2, L2.rSetL, L2.gSub, Z.gTupH, L2.gCons, L2.gNil, L2.HO.lst.injEq, L2.HO.tup.injEq, L2.upd_same, L2.upd_upd, L2.tSl, L2.tNoPart, L2.tPart, L2.rSlL, L2.rCat, List.length_append, or_false, false_or, or_true, true_or, reduceCtorEq, false_and, and_false, exists_false, Int.reduceNeg, Int.reducePow, Int.reduceToNat, Int.reduceAbs, Int.reduceLE, Int.reduceMul, Int.reduceAdd, Int.reduceSub, Nat.reducePow, Nat.reduceLT, Nat.reduceLeDiff, Int.natAbs_natCast, if_true, if_false, Z.rIsN, Z.tyN, Z.kit_ii, Z.kit_bi, Z.kit_si, Z.kit_ni, Z.kit_ib, Z.kit_bb, Z.kit_sb, Z.kit_nb, Z.kit_is, Z.kit_bs, Z.kit_ss, Z.kit_ns, Bool.not_true, Bool.not_false, L2.tTup, L2.tLst, L2.wipe, L2.tYes, Z.Turn1, L2.tNever, sizeLine_eq, Z.rInU, Z.rInH, L2.flatV, List.any_cons, List.any_nil, List.all_cons, List.all_nil, Bool.and_true, Bool.true_and, Bool.or_false, Bool.false_or, Z.tBML, L2.rAppend, Z.map_int_inj, Z.map_bl_inj, Z.rTupL, Z.rLstL, Z.rLstT, Z.rSortI, Z.rAnyH, Z.rAllH, Z.rSumH, Z.rLenL, Z.rLenU, List.length_map, L2.tPar, StX.tStar, L2.tDNewT, L2.tDIn, L2.sDPut, L2.tDGet, Z.tCallK0, List.getD_cons_zero, List.getD_cons_succ, L2.tPar3, L2.rLenT, $xs,*])
open Zig
/-- the words of the classes, as the laws have them -/
def errN : List Str := ["InvalidText", "InvalidNumber", "InvalidKind", "InvalidParty", "InvalidName", "InvalidWish", "NotABook", "InvalidRows", "InvalidSeats", "InvalidExchanges", "InvalidWishes", "UnknownName", "InUse", "NotFull", "TooMany", "NoRoom", "Broken", "NothingToUndo"]
def excN : List Str := errN ++ (["WrongValue", "WrongName", "NoAnswer"] : List Str)
def excV (mg : Str → Option Value) : List Value := excN.map fun x => Value.ref (clsA mg x)
def excD (mg : Str → Option Value) : List Value := excV mg ++ [.type "ValueError", .type "LookupError", .type "ArithmeticError"]
/-- whether the i-th class is under the j-th -/
def und (i j : Nat) : Bool := if j < 18 then i == j else if j == 18 || j == 21 then decide (i < 11) || i == 18 else if j == 19 || j == 22 then decide (10 < i ∧ i < 13) || i == 19 else decide (12 < i ∧ i < 18) || i == 20
def errTab : List (List (Option Bool)) := (List.range 21).map fun i => (List.range 24).map fun j => some (und i j)
theorem errTab_at {i j : Nat} (hi : i < 21) (hj : j < 24) : ∃ r, errTab[i]? = some r ∧ r[j]? = some (some (und i j)) := by
  refine ⟨(List.range 24).map fun j => some (und i j), ?_, ?_⟩
  · unfold errTab
    rw [List.getElem?_map, List.getElem?_range hi]
    rfl
  · rw [List.getElem?_map, List.getElem?_range hj]
    rfl
/-- the name of the attribute of a class with one -/
def fldN (i : Nat) : Str := if i < 7 then "given" else if i < 11 then "index" else if i == 12 then "index" else if i == 15 then "shown" else "given"
def bs18 (i : Nat) : List Bool := [und i 0, und i 1, und i 2, und i 3, und i 4, und i 5, und i 6, und i 7, und i 8, und i 9, und i 10, und i 11, und i 12, und i 13, und i 14, und i 15, und i 16, und i 17]
theorem und_count : ∀ i, i < 18 → (bs18 i).count true = 1 := by decide
theorem und_index : ∀ i, i < 18 → (bs18 i)[i]? = some true ∧ ∀ m, m < i → (bs18 i)[m]? = some false := by decide
theorem und_bases : ∀ i, i < 18 → und i 18 = und i 21 ∧ und i 19 = und i 22 ∧ und i 20 = und i 23 := by decide
theorem und_three : ∀ i, i < 18 → und i 18 = decide ((i : Int) < 11) ∧ und i 19 = (decide ((10 : Int) < i) && decide ((i : Int) < 13)) ∧ und i 20 = decide ((12 : Int) < i) := by decide

theorem sz1000 {n : Nat} (h : n ≤ 1000) : n ≤ sizeLine := by
  rw [sizeLine_eq]
  omega
/-- values that are known ahead -/
def GV (H : Hp) (σ : L2.St) (ys : List V) (ta : TA) : Prop := ∀ R : List V → Hp → Prop, R ys H → ta σ H R
theorem GV.nil {H : Hp} {σ : L2.St} : GV H σ [] tNil := fun R r => r
theorem GV.cons {H : Hp} {σ : L2.St} {x : V} {ys : List V} {te : TE} {ta : TA} (a : ∀ R : VK, R x H → te σ H R) (b : GV H σ ys ta) : GV H σ (x :: ys) (tCons te ta) := fun R r => a _ (b _ r)
theorem GV.str {H : Hp} {σ : L2.St} {z : Str} (R : VK) (r : R (.str z) H) : tC (.str z) σ H R := r
theorem lstV {H : Hp} {σ : L2.St} {ys : List V} {ta : TA} {Q : VK} (g : GV H σ ys ta) (h : ∀ q H2, Same H H2 → H q = none → H2 q = some (.lst ys) → Q (.ref q) H2) (hn : ys.length ≤ 500) : tLst ta σ H Q :=
  g _ ⟨sz1000 (by omega), fun q hq => h q _ (same_new hq) hq upd_same⟩
theorem catV {H : Hp} {σ : L2.St} {i : Nat} {p : Addr} {xs ys : List V} {ta : TA} {Q : VK} (hσ : σ[i]? = some (some (.ref p))) (hp : H p = some (.lst xs)) (g : GV H σ ys ta) (h : ∀ q H2, Same H H2 → H q = none → H2 q = some (.lst (xs ++ ys)) → Q (.ref q) H2) (hx : xs.length ≤ 500) (hn : ys.length ≤ 400) : tOp rCat (tVar i) (tLst ta) σ H Q := by
  refine ⟨_, hσ, ?_⟩
  refine lstV g (fun q H2 s2 n2 e2 => ?_) (by omega)
  refine ⟨p, q, xs, ys, rfl, rfl, s2 _ _ hp, e2, sz1000 (by omega), fun r hr => ?_⟩
  exact h r _ (same_upd s2 (s2.free hr)) (s2.free hr) upd_same

def top (i : Nat) : Stmt := PySem.Challenge.pw_extendrounds_k68_whole_zigzags_step_by_s.main.body.getD i (.Pass ⟨0, 0, 0, 0⟩)
abbrev s_is_integer : Stmt := top 26
abbrev N_is_integer : List Str := ["value"]
theorem sc_is_integer : FnScope N_is_integer ["value"] (defScope s_is_integer) := ⟨rfl, rfl, rfl, by decide +kernel, rfl, by decide +kernel, by decide +kernel⟩
abbrev s_is_between : Stmt := top 27
abbrev N_is_between : List Str := ["value", "least", "most"]
theorem sc_is_between : FnScope N_is_between ["value", "least", "most"] (defScope s_is_between) := ⟨rfl, rfl, rfl, by decide +kernel, rfl, by decide +kernel, by decide +kernel⟩
abbrev s_is_size : Stmt := top 28
abbrev N_is_size : List Str := ["kind", "value", "most"]
theorem sc_is_size : FnScope N_is_size ["kind", "value", "most"] (defScope s_is_size) := ⟨rfl, rfl, rfl, by decide +kernel, rfl, by decide +kernel, by decide +kernel⟩
abbrev s_evenings_for : Stmt := top 29
abbrev N_evenings_for : List Str := ["kind", "many"]
theorem sc_evenings_for : FnScope N_evenings_for ["kind", "many"] (defScope s_evenings_for) := ⟨rfl, rfl, rfl, by decide +kernel, rfl, by decide +kernel, by decide +kernel⟩
abbrev s_check_kind : Stmt := top 31
abbrev N_check_kind : List Str := ["kind"]
theorem sc_check_kind : FnScope N_check_kind ["kind"] (defScope s_check_kind) := ⟨rfl, rfl, rfl, by decide +kernel, rfl, by decide +kernel, by decide +kernel⟩
abbrev s_is_everybody : Stmt := top 32
abbrev N_is_everybody : List Str := ["n", "value", "person"]
theorem sc_is_everybody : FnScope N_is_everybody ["n", "value"] (defScope s_is_everybody) := ⟨rfl, rfl, rfl, by decide +kernel, rfl, by decide +kernel, by decide +kernel⟩
abbrev s_pairs_on : Stmt := top 33
abbrev N_pairs_on : List Str := ["kind", "some", "last", "at"]
theorem sc_pairs_on : FnScope N_pairs_on ["kind", "some"] (defScope s_pairs_on) := ⟨rfl, rfl, rfl, by decide +kernel, rfl, by decide +kernel, by decide +kernel⟩
abbrev s_wrong_of : Stmt := top 34
abbrev N_wrong_of : List Str := ["kind", "n", "evenings", "evening", "some", "known", "here", "pair", "again"]
theorem sc_wrong_of : FnScope N_wrong_of ["kind", "n", "evenings"] (defScope s_wrong_of) := ⟨rfl, rfl, rfl, by decide +kernel, rfl, by decide +kernel, by decide +kernel⟩
abbrev s_people_in : Stmt := top 35
abbrev N_people_in : List Str := ["kind", "evenings"]
theorem sc_people_in : FnScope N_people_in ["kind", "evenings"] (defScope s_people_in) := ⟨rfl, rfl, rfl, by decide +kernel, rfl, by decide +kernel, by decide +kernel⟩
abbrev s_is_party : Stmt := top 36
abbrev N_is_party : List Str := ["kind", "evenings"]
theorem sc_is_party : FnScope N_is_party ["kind", "evenings"] (defScope s_is_party) := ⟨rfl, rfl, rfl, by decide +kernel, rfl, by decide +kernel, by decide +kernel⟩
abbrev s_check_size : Stmt := top 39
abbrev N_check_size : List Str := ["kind", "n"]
theorem sc_check_size : FnScope N_check_size ["kind", "n"] (defScope s_check_size) := ⟨rfl, rfl, rfl, by decide +kernel, rfl, by decide +kernel, by decide +kernel⟩
abbrev s_round_size : Stmt := top 40
abbrev N_round_size : List Str := ["kind", "n"]
theorem sc_round_size : FnScope N_round_size ["kind", "n"] (defScope s_round_size) := ⟨rfl, rfl, rfl, by decide +kernel, rfl, by decide +kernel, by decide +kernel⟩
abbrev s_person_in : Stmt := top 41
abbrev N_person_in : List Str := ["size", "evening", "index", "half"]
theorem sc_person_in : FnScope N_person_in ["size", "evening", "index"] (defScope s_person_in) := ⟨rfl, rfl, rfl, by decide +kernel, rfl, by decide +kernel, by decide +kernel⟩
abbrev s_index_in : Stmt := top 42
abbrev N_index_in : List Str := ["size", "evening", "person", "far"]
theorem sc_index_in : FnScope N_index_in ["size", "evening", "person"] (defScope s_index_in) := ⟨rfl, rfl, rfl, by decide +kernel, rfl, by decide +kernel, by decide +kernel⟩
abbrev s_person_at : Stmt := top 43
abbrev N_person_at : List Str := ["kind", "n", "evening", "index"]
theorem sc_person_at : FnScope N_person_at ["kind", "n", "evening", "index"] (defScope s_person_at) := ⟨rfl, rfl, rfl, by decide +kernel, rfl, by decide +kernel, by decide +kernel⟩
abbrev s_index_of : Stmt := top 44
abbrev N_index_of : List Str := ["kind", "n", "evening", "person"]
theorem sc_index_of : FnScope N_index_of ["kind", "n", "evening", "person"] (defScope s_index_of) := ⟨rfl, rfl, rfl, by decide +kernel, rfl, by decide +kernel, by decide +kernel⟩
abbrev s_evening_of : Stmt := top 45
abbrev N_evening_of : List Str := ["kind", "n", "evening", "index"]
theorem sc_evening_of : FnScope N_evening_of ["kind", "n", "evening"] (defScope s_evening_of) := ⟨rfl, rfl, rfl, by decide +kernel, rfl, by decide +kernel, by decide +kernel⟩
abbrev s_zigzag_of : Stmt := top 46
abbrev N_zigzag_of : List Str := ["kind", "n", "evening"]
theorem sc_zigzag_of : FnScope N_zigzag_of ["kind", "n"] (defScope s_zigzag_of) := ⟨rfl, rfl, rfl, by decide +kernel, rfl, by decide +kernel, by decide +kernel⟩
abbrev s_zigzag : Stmt := top 47
abbrev N_zigzag : List Str := ["kind", "n"]
theorem sc_zigzag : FnScope N_zigzag ["kind", "n"] (defScope s_zigzag) := ⟨rfl, rfl, rfl, by decide +kernel, rfl, by decide +kernel, by decide +kernel⟩
abbrev s_check_evening_of : Stmt := top 48
abbrev N_check_evening_of : List Str := ["kind", "n", "evening"]
theorem sc_check_evening_of : FnScope N_check_evening_of ["kind", "n", "evening"] (defScope s_check_evening_of) := ⟨rfl, rfl, rfl, by decide +kernel, rfl, by decide +kernel, by decide +kernel⟩
abbrev s_check_person : Stmt := top 49
abbrev N_check_person : List Str := ["n", "person"]
theorem sc_check_person : FnScope N_check_person ["n", "person"] (defScope s_check_person) := ⟨rfl, rfl, rfl, by decide +kernel, rfl, by decide +kernel, by decide +kernel⟩
abbrev s_zigzag_beside : Stmt := top 50
abbrev N_zigzag_beside : List Str := ["kind", "n", "evening", "person", "index", "some", "at"]
theorem sc_zigzag_beside : FnScope N_zigzag_beside ["kind", "n", "evening", "person"] (defScope s_zigzag_beside) := ⟨rfl, rfl, rfl, by decide +kernel, rfl, by decide +kernel, by decide +kernel⟩
abbrev s_zigzag_evening : Stmt := top 51
abbrev N_zigzag_evening : List Str := ["kind", "n", "person", "mate", "size"]
theorem sc_zigzag_evening : FnScope N_zigzag_evening ["kind", "n", "person", "mate"] (defScope s_zigzag_evening) := ⟨rfl, rfl, rfl, by decide +kernel, rfl, by decide +kernel, by decide +kernel⟩
abbrev s_zigzag_place : Stmt := top 52
abbrev N_zigzag_place : List Str := ["kind", "n", "evening", "person"]
theorem sc_zigzag_place : FnScope N_zigzag_place ["kind", "n", "evening", "person"] (defScope s_zigzag_place) := ⟨rfl, rfl, rfl, by decide +kernel, rfl, by decide +kernel, by decide +kernel⟩
abbrev s_zigzag_person : Stmt := top 53
abbrev N_zigzag_person : List Str := ["kind", "n", "evening", "index"]
theorem sc_zigzag_person : FnScope N_zigzag_person ["kind", "n", "evening", "index"] (defScope s_zigzag_person) := ⟨rfl, rfl, rfl, by decide +kernel, rfl, by decide +kernel, by decide +kernel⟩
abbrev s__law_spring : Stmt := top 55
abbrev N__law_spring : List Str := ["_law_cells", "_law_k", "_law_cell", "_law_mixed", "_law_number"]
theorem sc__law_spring : FnScope N__law_spring ["_law_cells", "_law_k"] (defScope s__law_spring) := ⟨rfl, rfl, rfl, by decide +kernel, rfl, by decide +kernel, by decide +kernel⟩
abbrev s__law_draw : Stmt := top 56
abbrev N__law_draw : List Str := ["_law_spring_here", "_law_size", "_law_digit", "_law_far", "_law_mixed"]
theorem sc__law_draw : FnScope N__law_draw ["_law_spring_here", "_law_size"] (defScope s__law_draw) := ⟨rfl, rfl, rfl, by decide +kernel, rfl, by decide +kernel, by decide +kernel⟩
abbrev s__law_of : Stmt := top 57
abbrev N__law_of : List Str := ["_law_spring_here", "_law_menu"]
theorem sc__law_of : FnScope N__law_of ["_law_spring_here", "_law_menu"] (defScope s__law_of) := ⟨rfl, rfl, rfl, by decide +kernel, rfl, by decide +kernel, by decide +kernel⟩
abbrev s__law_is_whole : Stmt := top 58
abbrev N__law_is_whole : List Str := ["_law_thing", "_law_least", "_law_most"]
theorem sc__law_is_whole : FnScope N__law_is_whole ["_law_thing", "_law_least", "_law_most"] (defScope s__law_is_whole) := ⟨rfl, rfl, rfl, by decide +kernel, rfl, by decide +kernel, by decide +kernel⟩
abbrev s__law_error : Stmt := top 59
abbrev N__law_error : List Str := ["_law_e", "_law_fits_here", "_law_words", "_law_bases", "_law_plain_ones", "_law_at"]
theorem sc__law_error : FnScope N__law_error ["_law_e"] (defScope s__law_error) := ⟨rfl, rfl, rfl, by decide +kernel, rfl, by decide +kernel, by decide +kernel⟩
abbrev s__law_field : Stmt := top 60
abbrev N__law_field : List Str := ["_law_e", "_law_word_now"]
theorem sc__law_field : FnScope N__law_field ["_law_e", "_law_word_now"] (defScope s__law_field) := ⟨rfl, rfl, rfl, by decide +kernel, rfl, by decide +kernel, by decide +kernel⟩
abbrev s__law_told : Stmt := top 61
abbrev N__law_told : List Str := ["_law_act", "_law_back", "_law_e", "_law_word_now"]
theorem sc__law_told : FnScope N__law_told ["_law_act"] (defScope s__law_told) := ⟨rfl, rfl, rfl, by decide +kernel, rfl, by decide +kernel, by decide +kernel⟩
abbrev s__law_nights : Stmt := top 62
abbrev N__law_nights : List Str := ["_law_sort_now", "_law_size"]
theorem sc__law_nights : FnScope N__law_nights ["_law_sort_now", "_law_size"] (defScope s__law_nights) := ⟨rfl, rfl, rfl, by decide +kernel, rfl, by decide +kernel, by decide +kernel⟩
abbrev s__law_pairs : Stmt := top 63
abbrev N__law_pairs : List Str := ["_law_size", "_law_found", "_law_k", "_law_j"]
theorem sc__law_pairs : FnScope N__law_pairs ["_law_size"] (defScope s__law_pairs) := ⟨rfl, rfl, rfl, by decide +kernel, rfl, by decide +kernel, by decide +kernel⟩
abbrev s__law_zigzag : Stmt := top 64
abbrev N__law_zigzag : List Str := ["_law_sort_now", "_law_size", "_law_found", "_law_round_now", "_law_e", "_law_some", "_law_k"]
theorem sc__law_zigzag : FnScope N__law_zigzag ["_law_sort_now", "_law_size"] (defScope s__law_zigzag) := ⟨rfl, rfl, rfl, by decide +kernel, rfl, by decide +kernel, by decide +kernel⟩
abbrev s__law_neighbours : Stmt := top 65
abbrev N__law_neighbours : List Str := ["_law_sort_now", "_law_some", "_law_found", "_law_k"]
theorem sc__law_neighbours : FnScope N__law_neighbours ["_law_sort_now", "_law_some"] (defScope s__law_neighbours) := ⟨rfl, rfl, rfl, by decide +kernel, rfl, by decide +kernel, by decide +kernel⟩
abbrev s__law_is_party : Stmt := top 66
abbrev N__law_is_party : List Str := ["_law_sort_now", "_law_size", "_law_thing", "_law_found", "_law_some", "_law_each"]
theorem sc__law_is_party : FnScope N__law_is_party ["_law_sort_now", "_law_size", "_law_thing"] (defScope s__law_is_party) := ⟨rfl, rfl, rfl, by decide +kernel, rfl, by decide +kernel, by decide +kernel⟩
abbrev s__law_evening_right : Stmt := top 67
abbrev N__law_evening_right : List Str := ["_law_spring_here", "_law_sort_now", "_law_due", "_law_e", "_law_some", "_law_size", "_law_turn_k", "_law_i", "_law_pairs_now", "_law_mates", "_law_pair", "_law_each"]
theorem sc__law_evening_right : FnScope N__law_evening_right ["_law_spring_here", "_law_sort_now", "_law_due", "_law_e"] (defScope s__law_evening_right) := ⟨rfl, rfl, rfl, by decide +kernel, rfl, by decide +kernel, by decide +kernel⟩
abbrev s__law_right : Stmt := top 68
abbrev N__law_right : List Str := ["_law_spring_here", "_law_lap", "_law_size", "_law_due", "_law_e", "_law_great", "_law_sort_now", "_law_some"]
theorem sc__law_right : FnScope N__law_right ["_law_spring_here"] (defScope s__law_right) := ⟨rfl, rfl, rfl, by decide +kernel, rfl, by decide +kernel, by decide +kernel⟩
abbrev s_law : Stmt := top 69
abbrev N_law : List Str := ["_law_cells", "_law_springs", "_law_k", "_law_spring_here"]
theorem sc_law : FnScope N_law ["_law_cells"] (defScope s_law) := ⟨rfl, rfl, rfl, by decide +kernel, rfl, by decide +kernel, by decide +kernel⟩
/-- what the top has made -/
structure Env (P : Program) (K : PySem.W.Frag) (mg : Str → Option Value) (c__law_right : Addr) : Prop where
  d_is_integer : Here K mg "is_integer" s_is_integer
  d_is_between : Here K mg "is_between" s_is_between
  d_is_size : Here K mg "is_size" s_is_size
  d_evenings_for : Here K mg "evenings_for" s_evenings_for
  d_check_kind : Here K mg "check_kind" s_check_kind
  d_is_everybody : Here K mg "is_everybody" s_is_everybody
  d_pairs_on : Here K mg "pairs_on" s_pairs_on
  d_wrong_of : Here K mg "wrong_of" s_wrong_of
  d_people_in : Here K mg "people_in" s_people_in
  d_is_party : Here K mg "is_party" s_is_party
  d_check_size : Here K mg "check_size" s_check_size
  d_round_size : Here K mg "round_size" s_round_size
  d_person_in : Here K mg "person_in" s_person_in
  d_index_in : Here K mg "index_in" s_index_in
  d_person_at : Here K mg "person_at" s_person_at
  d_index_of : Here K mg "index_of" s_index_of
  d_evening_of : Here K mg "evening_of" s_evening_of
  d_zigzag_of : Here K mg "zigzag_of" s_zigzag_of
  d_zigzag : Here K mg "zigzag" s_zigzag
  d_check_evening_of : Here K mg "check_evening_of" s_check_evening_of
  d_check_person : Here K mg "check_person" s_check_person
  d_zigzag_beside : Here K mg "zigzag_beside" s_zigzag_beside
  d_zigzag_evening : Here K mg "zigzag_evening" s_zigzag_evening
  d_zigzag_place : Here K mg "zigzag_place" s_zigzag_place
  d_zigzag_person : Here K mg "zigzag_person" s_zigzag_person
  d__law_spring : Here K mg "_law_spring" s__law_spring
  d__law_draw : Here K mg "_law_draw" s__law_draw
  d__law_of : Here K mg "_law_of" s__law_of
  d__law_is_whole : Here K mg "_law_is_whole" s__law_is_whole
  d__law_error : Here K mg "_law_error" s__law_error
  d__law_field : Here K mg "_law_field" s__law_field
  d__law_told : Here K mg "_law_told" s__law_told
  d__law_nights : Here K mg "_law_nights" s__law_nights
  d__law_pairs : Here K mg "_law_pairs" s__law_pairs
  d__law_zigzag : Here K mg "_law_zigzag" s__law_zigzag
  d__law_neighbours : Here K mg "_law_neighbours" s__law_neighbours
  d__law_is_party : Here K mg "_law_is_party" s__law_is_party
  d__law_evening_right : Here K mg "_law_evening_right" s__law_evening_right
  d__law_right : FunC K mg c__law_right "_law_right" s__law_right
  d_law : Here K mg "law" s_law
  x_WrongValue : ExM0 K mg "WrongValue"
  x_InvalidText : ExM P K mg "InvalidText" "given"
  x_InvalidNumber : ExM P K mg "InvalidNumber" "given"
  x_InvalidKind : ExM P K mg "InvalidKind" "given"
  x_InvalidParty : ExM P K mg "InvalidParty" "given"
  x_InvalidName : ExM P K mg "InvalidName" "given"
  x_InvalidWish : ExM P K mg "InvalidWish" "given"
  x_NotABook : ExM P K mg "NotABook" "given"
  x_InvalidRows : ExM P K mg "InvalidRows" "index"
  x_InvalidSeats : ExM P K mg "InvalidSeats" "index"
  x_InvalidExchanges : ExM P K mg "InvalidExchanges" "index"
  x_InvalidWishes : ExM P K mg "InvalidWishes" "index"
  x_WrongName : ExM0 K mg "WrongName"
  x_UnknownName : ExM P K mg "UnknownName" "given"
  x_InUse : ExM P K mg "InUse" "index"
  x_NoAnswer : ExM0 K mg "NoAnswer"
  x_NotFull : ExM P K mg "NotFull" "given"
  x_TooMany : ExM P K mg "TooMany" "given"
  x_NoRoom : ExM P K mg "NoRoom" "shown"
  x_Broken : ExM2 P K mg "Broken"
  x_NothingToUndo : ExM0 K mg "NothingToUndo"
  t_err : kitTab K (excV mg) (excD mg) = errTab
  b_ArithmeticError : mg "ArithmeticError" = none
  b_LookupError : mg "LookupError" = none
  b_ValueError : mg "ValueError" = none
  b_abs : mg "abs" = none
  b_all : mg "all" = none
  b_any : mg "any" = none
  b_bool : mg "bool" = none
  b_divmod : mg "divmod" = none
  b_enumerate : mg "enumerate" = none
  b_int : mg "int" = none
  b_isinstance : mg "isinstance" = none
  b_len : mg "len" = none
  b_list : mg "list" = none
  b_max : mg "max" = none
  b_min : mg "min" = none
  b_range : mg "range" = none
  b_repr : mg "repr" = none
  b_set : mg "set" = none
  b_sorted : mg "sorted" = none
  b_str : mg "str" = none
  b_tuple : mg "tuple" = none
  c_MOST_ZIGZAG : ∃ t, mg "MOST_ZIGZAG" = some (.int (1000000000000000000000000000000) t)
  c_RINGS : ∃ t, mg "RINGS" = some (.str "rings" t)
  c_ROWS : ∃ t, mg "ROWS" = some (.str "rows" t)
  c_MOST_TOLD : ∃ t, mg "MOST_TOLD" = some (.int 99 t)
variable {P : Program} {w : World} {K : PySem.W.Frag} {mg : Str → Option Value} {base : Heap} {c__law_right P__law_right : Addr}
def sp__law_spring (K : PySem.W.Frag) : Sp := fun vs H Q _ => ∃ (a : Addr) (k : Int) (ns : List Int), vs = [.ref a, .int k] ∧ SqL K H a (ns.map V.int) ∧ ns.length ≤ 63 ∧ 0 ≤ k ∧ k < 1000 ∧ ∀ p H', H p = none → Same H H' → Spring H' p → Q (.ref p) H'
theorem ok__law_spring (T : Env P K mg c__law_right) : Hd P w K mg base CX0 1 "_law_spring" s__law_spring ["_law_cells", "_law_k"] (sp__law_spring K) := by
  obtain ⟨f, fd, F, hm⟩ := T.d__law_spring
  refine ⟨⟨f, fd, F, hm, ?_⟩, fun _ _ _ _ _ _ _ us hl => match us, hl with | [_, _], _ => rfl⟩
  refine F.ok sc__law_spring (fun vs H Q E h => ?_) (fun cdv A outer s H vs Q E hr h => ?_)
  · first | (obtain ⟨rfl, _⟩ := h; rfl) | (obtain ⟨_, rfl, _⟩ := h; rfl) | (obtain ⟨_, _, rfl, _⟩ := h; rfl) | (obtain ⟨_, _, _, rfl, _⟩ := h; rfl) | (obtain ⟨_, _, _, _, rfl, _⟩ := h; rfl) | (obtain ⟨_, _, _, _, _, rfl, _⟩ := h; rfl) | (obtain ⟨_, _, _, _, _, _, rfl, _⟩ := h; rfl) | (obtain ⟨_, _, _, _, _, _, _, rfl, _⟩ := h; rfl) | (obtain ⟨_, _, _, _, _, _, _, _, rfl, _⟩ := h; rfl) | (obtain ⟨_, _, _, _, _, _, _, _, _, rfl, _⟩ := h; rfl) | (obtain ⟨_, _, _, _, _, _, _, _, _, _, rfl, _⟩ := h; rfl) | (obtain ⟨_, _, _, _, _, _, _, _, _, _, _, rfl, _⟩ := h; rfl) | (obtain ⟨_, _, _, _, _, _, _, _, _, _, _, _, rfl, _⟩ := h; rfl) | (obtain ⟨_, _, _, _, _, _, _, _, _, _, _, _, _, rfl, _⟩ := h; rfl) | (obtain ⟨_, _, _, _, _, _, _, _, _, _, _, _, _, _, rfl, _⟩ := h; rfl) | (obtain ⟨_, _, _, _, _, _, _, _, _, _, _, _, _, _, _, rfl, _⟩ := h; rfl) | (obtain ⟨_, _, _, _, _, _, _, _, _, _, _, _, _, _, _, _, rfl, _⟩ := h; rfl) | (obtain ⟨_, _, _, _, _, _, _, _, _, _, _, _, _, _, _, _, _, rfl, _⟩ := h; rfl) | (obtain ⟨_, _, _, _, _, _, _, _, _, _, _, _, _, _, _, _, _, _, rfl, _⟩ := h; rfl)
  · obtain ⟨a, k, ns, rfl, hs, hl, hk, hk2, q⟩ := h
    have hu := hu_of hr
    refine ⟨_, pss_cons (ps_set (i := 2) sc__law_spring.nd rfl (by first | exact .inl rfl | exact .inr rfl) (pe_ifExp (pt_cmpR op_lt (pv 1) (pe_callB call_len_seq rfl T.b_len (by decide +kernel) (pa_cons (pv 0) pa_nil)) (nomark _)) (pe_ix ix_list (pv 0) (pv 1) (fun _ _ => rfl)) (pe_op op_add (pe_op op_mul pe_int (pv 1)) pe_int)))
      (pss_cons (ps_set (i := 3) sc__law_spring.nd rfl (by first | exact .inl rfl | exact .inr rfl) (pe_op op_add pe_int (pe_op op_mul pe_int (pv 1))))
      (pss_cons (ps_for PassesOwn.never rfl (pi_list (pe_op op_cat (pe_slice sl_list (pv 0) po_none (po_some pe_int)) (pe_lst (pa_cons (pv 2) pa_nil)))) (pg_name (i := 4) sc__law_spring.nd rfl (by first | exact .inl rfl | exact .inr rfl))
      (pss_one (ps_set (i := 3) sc__law_spring.nd rfl (by first | exact .inl rfl | exact .inr rfl) (pe_op op_mod (pe_callTy call_int1 rfl T.b_int (by decide +kernel) (pa_cons (pe_op op_add (pe_op op_add (pe_op op_mul (pv 3) pe_int) (pe_callTy call_int1 rfl T.b_int (by decide +kernel) (pa_cons (pv 4) pa_nil))) (pe_op op_mul pe_int (pv 1))) pa_nil)) pe_int))))
      (pss_one (ps_ret (pe_lst (pa_cons (pe_ifExp (PW.pt (pw_or (pt_cmpR op_lt (pv 2) pe_int (nomark _)) (pw_or1 (pt_cmpR op_ge (pv 2) (pe_op op_pow pe_int pe_int) (nomark _))))) (pe_callB call_abs rfl T.b_abs (by decide +kernel) (pa_cons (pv 2) pa_nil)) pe_int) (pa_cons (pv 3) (pa_cons pe_int pa_nil)))))))), ?_⟩
    simp? only [L2.tSeq]
    refine ⟨ns.map V.int, .inl hs, ?_⟩
    refine idx_or hs hk fun cell => ?_
    refine for_ints (fun R hR => ?_) (fun σ => ∃ m x, σ = [some (.ref a), some (.int k), some (.int cell), some (.int m), x]) ⟨_, _, rfl⟩ ?_ ?_
    · simp? only [L2.tSeq]
      obtain ⟨ms, em, hm⟩ := cut_ints ns none (some 8)
      refine ⟨_, hs, fun t ht b hb => ?_⟩
      have htb : t ≠ b := ne_of_none (upd_same (H := H) (a := t)) hb
      refine ⟨ms.map V.int, by rw [upd_ne htb, upd_same, em], by rw [List.length_map]; omega, fun z hz => ?_⟩
      have s1 := same_upd (o := .lst [V.int cell]) (same_new (o := .lst (cutV (ns.map V.int) none (some 8))) ht) ((same_new ht).free hb)
      refine hR z _ (ms ++ [cell]) (same_upd s1 (s1.free hz)) ?_
      rw [upd_same, List.map_append]
      rfl
    · rintro x σ H' s ⟨m, y, rfl⟩ N hN
      simp? only [L2.tSeq]
      exact hN _ ⟨_, _, rfl⟩
    · rintro σ H' s ⟨m, y, rfl⟩
      simp? only [L2.tSeq]
      have fin : ∀ z : Int, ∀ p : Addr, H' p = none → Q (.ref p) (upd H' p (.lst [.int z, .int m, .int 0])) := fun z p hp =>
        q p _ (s.free hp) (same_upd s (s.free hp)) ⟨z, m, 0, upd_same⟩
      repeat' split
      all_goals exact fun p hp => fin _ p hp
theorem cdivp_low {i j : Int} (hj : 0 < j) (h : j < 1000000000000000000000000000000) : CDivP i j := by
  refine ⟨hj, ?_⟩
  show (decide ((if j == 0 then 0 else j.natAbs.log2 / 30 + 1) > 300) && decide ((if i == 0 then 0 else i.natAbs.log2 / 30 + 1) > (if j == 0 then 0 else j.natAbs.log2 / 30 + 1) + 150)) = false
  rw [if_neg (show ¬ (j == 0) = true by simpa using (show j ≠ 0 by omega))]
  have h1 : j.natAbs < 2 ^ 100 := by
    have : (2 : Nat) ^ 100 = 1267650600228229401496703205376 := by decide
    omega
  have h2 : j.natAbs.log2 < 100 := (Nat.log2_lt (by omega)).mpr h1
  rw [decide_eq_false (by omega), Bool.false_and]
def sp__law_draw : Sp := fun vs H Q _ => ∃ (p : Addr) (n : Int), vs = [.ref p, .int n] ∧ Spring H p ∧ 0 < n ∧ n < 1000000000000000000000000000000 ∧ ∀ d H', Kp p H H' → 0 ≤ d → d < n → Q (.int d) H'
theorem ok__law_draw (T : Env P K mg c__law_right) : Hd P w K mg base CX0 1 "_law_draw" s__law_draw ["_law_spring_here", "_law_size"] sp__law_draw := by
  obtain ⟨f, fd, F, hm⟩ := T.d__law_draw
  refine ⟨⟨f, fd, F, hm, ?_⟩, fun _ _ _ _ _ _ _ us hl => match us, hl with | [_, _], _ => rfl⟩
  refine F.ok sc__law_draw (fun vs H Q E h => ?_) (fun cdv A outer s H vs Q E hr h => ?_)
  · first | (obtain ⟨rfl, _⟩ := h; rfl) | (obtain ⟨_, rfl, _⟩ := h; rfl) | (obtain ⟨_, _, rfl, _⟩ := h; rfl) | (obtain ⟨_, _, _, rfl, _⟩ := h; rfl) | (obtain ⟨_, _, _, _, rfl, _⟩ := h; rfl) | (obtain ⟨_, _, _, _, _, rfl, _⟩ := h; rfl) | (obtain ⟨_, _, _, _, _, _, rfl, _⟩ := h; rfl) | (obtain ⟨_, _, _, _, _, _, _, rfl, _⟩ := h; rfl) | (obtain ⟨_, _, _, _, _, _, _, _, rfl, _⟩ := h; rfl) | (obtain ⟨_, _, _, _, _, _, _, _, _, rfl, _⟩ := h; rfl) | (obtain ⟨_, _, _, _, _, _, _, _, _, _, rfl, _⟩ := h; rfl) | (obtain ⟨_, _, _, _, _, _, _, _, _, _, _, rfl, _⟩ := h; rfl) | (obtain ⟨_, _, _, _, _, _, _, _, _, _, _, _, rfl, _⟩ := h; rfl) | (obtain ⟨_, _, _, _, _, _, _, _, _, _, _, _, _, rfl, _⟩ := h; rfl) | (obtain ⟨_, _, _, _, _, _, _, _, _, _, _, _, _, _, rfl, _⟩ := h; rfl) | (obtain ⟨_, _, _, _, _, _, _, _, _, _, _, _, _, _, _, rfl, _⟩ := h; rfl) | (obtain ⟨_, _, _, _, _, _, _, _, _, _, _, _, _, _, _, _, rfl, _⟩ := h; rfl) | (obtain ⟨_, _, _, _, _, _, _, _, _, _, _, _, _, _, _, _, _, rfl, _⟩ := h; rfl) | (obtain ⟨_, _, _, _, _, _, _, _, _, _, _, _, _, _, _, _, _, _, rfl, _⟩ := h; rfl)
  · obtain ⟨p, n, rfl, ⟨a, b, c, hp⟩, hn, hn2, q⟩ := h
    have hu := hu_of hr
    refine ⟨_, pss_cons (ps_asg (pe_op op_add (pe_ix ix_listH (pv 0) pe_int (fun _ _ => rfl)) pe_int) (pg_sub (pv 0) pe_int set_list))
      (pss_cons (ps_asg (pe_op op_mod (pe_callTy call_int1 rfl T.b_int (by decide +kernel) (pa_cons (pe_op op_add (pe_op op_add (pe_op op_mul (pe_ix ix_listH (pv 0) pe_int (fun _ _ => rfl)) pe_int) (pe_op op_mul pe_int (pe_ix ix_listH (pv 0) pe_int (fun _ _ => rfl)))) pe_int) pa_nil)) pe_int) (pg_sub (pv 0) pe_int set_list))
      (pss_cons (ps_if (pt_cmpR op_gt (pe_ix ix_listH (pv 0) pe_int (fun _ _ => rfl)) pe_int (nomark _)) (pss_cons (ps_asg (pe_callB call_divmodW rfl T.b_divmod (by decide +kernel) (pa_cons (pe_ix ix_listH (pv 0) pe_int (fun _ _ => rfl)) (pa_cons (pv 1) pa_nil))) (pg_tupH (n := 2) rfl (pgs_cons (pg_sub (pv 0) pe_int set_list) (pgs_cons (pg_name (i := 2) sc__law_draw.nd rfl (by first | exact .inl rfl | exact .inr rfl)) pgs_nil))))
      (pss_one (ps_ret (pv 2))))
      (pss_nil))
      (pss_cons (ps_set (i := 3) sc__law_draw.nd rfl (by first | exact .inl rfl | exact .inr rfl) (pe_op op_add (pe_ix ix_listH (pv 0) pe_int (fun _ _ => rfl)) pe_int))
      (pss_cons (ps_set (i := 4) sc__law_draw.nd rfl (by first | exact .inl rfl | exact .inr rfl) (pe_op op_mod (pe_callTy call_int1 rfl T.b_int (by decide +kernel) (pa_cons (pe_op op_add (pe_op op_mul (pv 3) (pe_ix ix_listH (pv 0) pe_int (fun _ _ => rfl))) (pe_ix ix_listH (pv 0) pe_int (fun _ _ => rfl))) pa_nil)) pe_int))
      (pss_one (ps_ret (pe_op op_mod (pe_callTy call_int1 rfl T.b_int (by decide +kernel) (pa_cons (pe_op op_fdiv (pv 4) pe_int) pa_nil)) (pv 1)))))))), ?_⟩
    simp? only [L2.tSeq, hp]
    have kp1 : ∀ x y z : Int, Kp p H (upd H p (.lst [.int x, .int y, .int z])) := fun x y z => ⟨⟨x, y, z, upd_same⟩, fun b o nb e => by rw [upd_ne nb]; exact e⟩
    split
    · refine ⟨cdivp_low hn hn2, fun t ht => ?_⟩
      have hpt : p ≠ t := ne_of_none (upd_same (H := H) (a := p)) ht
      refine ⟨_, by rw [upd_ne hpt, upd_same], 0, rfl, ?_⟩
      refine q _ _ ⟨⟨_, _, _, upd_same⟩, fun u o nu e => ?_⟩ (Int.emod_nonneg _ (by omega)) (Int.emod_lt_of_pos _ hn)
      have e2 : (upd H p (.lst [.int a, .int ((b * 69621 + 40503 * (c + 1) + 1) % 2147483647), .int (c + 1)])) u = some o := by rw [upd_ne nu]; exact e
      rw [upd_ne nu, upd_ne (ne_of_none e2 ht), e2]
    · exact ⟨by omega, hn, q _ _ (kp1 _ _ _) (Int.emod_nonneg _ (by omega)) (Int.emod_lt_of_pos _ hn)⟩
def sp__law_of : Sp := fun vs H Q _ => ∃ (p m : Addr) (xs : List V), vs = [.ref p, .ref m] ∧ Spring H p ∧ H m = some (.lst xs) ∧ m ≠ p ∧ 0 < xs.length ∧ xs.length < 1000 ∧ ∀ v H', Kp p H H' → v ∈ xs → Q v H'
theorem ok__law_of (T : Env P K mg c__law_right) : Hd P w K mg base CX0 2 "_law_of" s__law_of ["_law_spring_here", "_law_menu"] sp__law_of := by
  have H__law_draw := ok__law_draw (P := P) (w := w) (base := base) T
  obtain ⟨f, fd, F, hm⟩ := T.d__law_of
  refine ⟨⟨f, fd, F, hm, ?_⟩, fun _ _ _ _ _ _ _ us hl => match us, hl with | [_, _], _ => rfl⟩
  refine F.ok sc__law_of (fun vs H Q E h => ?_) (fun cdv A outer s H vs Q E hr h => ?_)
  · first | (obtain ⟨rfl, _⟩ := h; rfl) | (obtain ⟨_, rfl, _⟩ := h; rfl) | (obtain ⟨_, _, rfl, _⟩ := h; rfl) | (obtain ⟨_, _, _, rfl, _⟩ := h; rfl) | (obtain ⟨_, _, _, _, rfl, _⟩ := h; rfl) | (obtain ⟨_, _, _, _, _, rfl, _⟩ := h; rfl) | (obtain ⟨_, _, _, _, _, _, rfl, _⟩ := h; rfl) | (obtain ⟨_, _, _, _, _, _, _, rfl, _⟩ := h; rfl) | (obtain ⟨_, _, _, _, _, _, _, _, rfl, _⟩ := h; rfl) | (obtain ⟨_, _, _, _, _, _, _, _, _, rfl, _⟩ := h; rfl) | (obtain ⟨_, _, _, _, _, _, _, _, _, _, rfl, _⟩ := h; rfl) | (obtain ⟨_, _, _, _, _, _, _, _, _, _, _, rfl, _⟩ := h; rfl) | (obtain ⟨_, _, _, _, _, _, _, _, _, _, _, _, rfl, _⟩ := h; rfl) | (obtain ⟨_, _, _, _, _, _, _, _, _, _, _, _, _, rfl, _⟩ := h; rfl) | (obtain ⟨_, _, _, _, _, _, _, _, _, _, _, _, _, _, rfl, _⟩ := h; rfl) | (obtain ⟨_, _, _, _, _, _, _, _, _, _, _, _, _, _, _, rfl, _⟩ := h; rfl) | (obtain ⟨_, _, _, _, _, _, _, _, _, _, _, _, _, _, _, _, rfl, _⟩ := h; rfl) | (obtain ⟨_, _, _, _, _, _, _, _, _, _, _, _, _, _, _, _, _, rfl, _⟩ := h; rfl) | (obtain ⟨_, _, _, _, _, _, _, _, _, _, _, _, _, _, _, _, _, _, rfl, _⟩ := h; rfl)
  · obtain ⟨p, m, xs, rfl, hp, hm, hne, h0, h1, q⟩ := h
    have hu := hu_of hr
    refine ⟨_, pss_one (ps_ret (pe_ix ix_listH (pv 1) (pe_hd H__law_draw (hr.mono (by decide)) rfl pass0 (pa_cons (pv 0) (pa_cons (pe_callB call_lenL rfl T.b_len (by decide +kernel) (pa_cons (pv 1) pa_nil)) pa_nil))) (fun _ _ => rfl))), ?_⟩
    simp? only [L2.tSeq, sp__law_draw, hm]
    refine ⟨hp, by omega, by omega, fun d H' kp h2 h3 => ⟨xs, kp.keep _ _ hne hm, ?_⟩⟩
    obtain ⟨j, rfl⟩ : ∃ j : Nat, d = j := ⟨d.toNat, by omega⟩
    have hj : j < xs.length := by omega
    exact ⟨xs[j], atI_nat (List.getElem?_eq_getElem hj), q _ _ kp (List.getElem_mem hj)⟩

open Zig
theorem exk_of (T : Env P K mg c__law_right) : ∀ w ∈ excN, ExK K (clsA mg w) := by
  intro w hw
  simp only [excN, errN, List.cons_append, List.nil_append, List.mem_cons, List.not_mem_nil, or_false] at hw
  rcases hw with rfl | rfl | rfl | rfl | rfl | rfl | rfl | rfl | rfl | rfl | rfl | rfl | rfl | rfl | rfl | rfl | rfl | rfl | rfl | rfl | rfl
  · exact T.x_InvalidText.k
  · exact T.x_InvalidNumber.k
  · exact T.x_InvalidKind.k
  · exact T.x_InvalidParty.k
  · exact T.x_InvalidName.k
  · exact T.x_InvalidWish.k
  · exact T.x_NotABook.k
  · exact T.x_InvalidRows.k
  · exact T.x_InvalidSeats.k
  · exact T.x_InvalidExchanges.k
  · exact T.x_InvalidWishes.k
  · exact T.x_UnknownName.k
  · exact T.x_InUse.k
  · exact T.x_NotFull.k
  · exact T.x_TooMany.k
  · exact T.x_NoRoom.k
  · exact T.x_Broken.k
  · exact T.x_NothingToUndo.k
  · exact T.x_WrongValue.k
  · exact T.x_WrongName.k
  · exact T.x_NoAnswer.k
theorem kit_und (t : kitTab K (excV mg) (excD mg) = errTab) {i j : Nat} {c d : Value} (hi : (excV mg)[i]? = some c) (hj : (excD mg)[j]? = some d) : PySem.W.kitOne K c d = some (und i j) := by
  have h1 : i < 21 := by
    have := (List.getElem?_eq_some_iff.mp hi).1
    simpa [excV, excN, errN] using this
  have h2 : j < 24 := by
    have := (List.getElem?_eq_some_iff.mp hj).1
    simpa [excD, excV, excN, errN] using this
  obtain ⟨r, r1, r2⟩ := errTab_at h1 h2
  exact kitTab_at t hi hj r1 r2

def sp__law_error (mg : Str → Option Value) : Sp := fun vs H Q _ => ∃ (a : Addr) (i : Nat) (w : Str) (fs : Option (List (Str × V))), vs = [.ref a] ∧ errN[i]? = some w ∧ IsX H a (clsA mg w) fs ∧ ∀ H', Same H H' → Q (.str w) H'
theorem ok__law_error (T : Env P K mg c__law_right) : HdW P w K mg base 1 "_law_error" s__law_error ["_law_e"] (sp__law_error mg) := by
  obtain ⟨f, fd, F, hm⟩ := T.d__law_error
  refine ⟨⟨f, fd, F, hm, ?_⟩, fun _ _ _ _ _ _ _ us hl => match us, hl with | [_], _ => rfl⟩
  refine fun_okW F sc__law_error (fun vs H Q E h => ?_) (fun cdv A outer s H vs Q p hr h => ?_)
  · first | (obtain ⟨rfl, _⟩ := h; rfl) | (obtain ⟨_, rfl, _⟩ := h; rfl) | (obtain ⟨_, _, rfl, _⟩ := h; rfl) | (obtain ⟨_, _, _, rfl, _⟩ := h; rfl) | (obtain ⟨_, _, _, _, rfl, _⟩ := h; rfl) | (obtain ⟨_, _, _, _, _, rfl, _⟩ := h; rfl) | (obtain ⟨_, _, _, _, _, _, rfl, _⟩ := h; rfl) | (obtain ⟨_, _, _, _, _, _, _, rfl, _⟩ := h; rfl) | (obtain ⟨_, _, _, _, _, _, _, _, rfl, _⟩ := h; rfl) | (obtain ⟨_, _, _, _, _, _, _, _, _, rfl, _⟩ := h; rfl) | (obtain ⟨_, _, _, _, _, _, _, _, _, _, rfl, _⟩ := h; rfl) | (obtain ⟨_, _, _, _, _, _, _, _, _, _, _, rfl, _⟩ := h; rfl) | (obtain ⟨_, _, _, _, _, _, _, _, _, _, _, _, rfl, _⟩ := h; rfl) | (obtain ⟨_, _, _, _, _, _, _, _, _, _, _, _, _, rfl, _⟩ := h; rfl) | (obtain ⟨_, _, _, _, _, _, _, _, _, _, _, _, _, _, rfl, _⟩ := h; rfl) | (obtain ⟨_, _, _, _, _, _, _, _, _, _, _, _, _, _, _, rfl, _⟩ := h; rfl) | (obtain ⟨_, _, _, _, _, _, _, _, _, _, _, _, _, _, _, _, rfl, _⟩ := h; rfl) | (obtain ⟨_, _, _, _, _, _, _, _, _, _, _, _, _, _, _, _, _, rfl, _⟩ := h; rfl) | (obtain ⟨_, _, _, _, _, _, _, _, _, _, _, _, _, _, _, _, _, _, rfl, _⟩ := h; rfl)
  · obtain ⟨a, i, wd, fs, rfl, hw, hx, q⟩ := h
    have hu := Nat.lt_of_le_of_lt (Nat.add_le_add_left (by decide : 1 ≤ 64) _) (L2H_units hr)
    refine ⟨_, pss_cons (ps_set (i := 1) sc__law_error.nd rfl (by first | exact .inl rfl | exact .inr rfl) (pe_lst (pa_cons (pe_callB call_isX rfl T.b_isinstance (by decide +kernel) (pa_cons (pv 0) (pa_cons (pe_glob (v := .ref (clsA mg "InvalidText")) rfl T.x_InvalidText.at_ rfl) pa_nil))) (pa_cons (pe_callB call_isX rfl T.b_isinstance (by decide +kernel) (pa_cons (pv 0) (pa_cons (pe_glob (v := .ref (clsA mg "InvalidNumber")) rfl T.x_InvalidNumber.at_ rfl) pa_nil))) (pa_cons (pe_callB call_isX rfl T.b_isinstance (by decide +kernel) (pa_cons (pv 0) (pa_cons (pe_glob (v := .ref (clsA mg "InvalidKind")) rfl T.x_InvalidKind.at_ rfl) pa_nil))) pa_nil)))))
      (pss_cons (ps_set (i := 1) sc__law_error.nd rfl (by first | exact .inl rfl | exact .inr rfl) (pe_op op_cat (pv 1) (pe_lst (pa_cons (pe_callB call_isX rfl T.b_isinstance (by decide +kernel) (pa_cons (pv 0) (pa_cons (pe_glob (v := .ref (clsA mg "InvalidParty")) rfl T.x_InvalidParty.at_ rfl) pa_nil))) (pa_cons (pe_callB call_isX rfl T.b_isinstance (by decide +kernel) (pa_cons (pv 0) (pa_cons (pe_glob (v := .ref (clsA mg "InvalidName")) rfl T.x_InvalidName.at_ rfl) pa_nil))) (pa_cons (pe_callB call_isX rfl T.b_isinstance (by decide +kernel) (pa_cons (pv 0) (pa_cons (pe_glob (v := .ref (clsA mg "InvalidWish")) rfl T.x_InvalidWish.at_ rfl) pa_nil))) pa_nil))))))
      (pss_cons (ps_set (i := 1) sc__law_error.nd rfl (by first | exact .inl rfl | exact .inr rfl) (pe_op op_cat (pv 1) (pe_lst (pa_cons (pe_callB call_isX rfl T.b_isinstance (by decide +kernel) (pa_cons (pv 0) (pa_cons (pe_glob (v := .ref (clsA mg "NotABook")) rfl T.x_NotABook.at_ rfl) pa_nil))) (pa_cons (pe_callB call_isX rfl T.b_isinstance (by decide +kernel) (pa_cons (pv 0) (pa_cons (pe_glob (v := .ref (clsA mg "InvalidRows")) rfl T.x_InvalidRows.at_ rfl) pa_nil))) (pa_cons (pe_callB call_isX rfl T.b_isinstance (by decide +kernel) (pa_cons (pv 0) (pa_cons (pe_glob (v := .ref (clsA mg "InvalidSeats")) rfl T.x_InvalidSeats.at_ rfl) pa_nil))) pa_nil))))))
      (pss_cons (ps_set (i := 1) sc__law_error.nd rfl (by first | exact .inl rfl | exact .inr rfl) (pe_op op_cat (pv 1) (pe_lst (pa_cons (pe_callB call_isX rfl T.b_isinstance (by decide +kernel) (pa_cons (pv 0) (pa_cons (pe_glob (v := .ref (clsA mg "InvalidExchanges")) rfl T.x_InvalidExchanges.at_ rfl) pa_nil))) (pa_cons (pe_callB call_isX rfl T.b_isinstance (by decide +kernel) (pa_cons (pv 0) (pa_cons (pe_glob (v := .ref (clsA mg "InvalidWishes")) rfl T.x_InvalidWishes.at_ rfl) pa_nil))) pa_nil)))))
      (pss_cons (ps_set (i := 1) sc__law_error.nd rfl (by first | exact .inl rfl | exact .inr rfl) (pe_op op_cat (pv 1) (pe_lst (pa_cons (pe_callB call_isX rfl T.b_isinstance (by decide +kernel) (pa_cons (pv 0) (pa_cons (pe_glob (v := .ref (clsA mg "UnknownName")) rfl T.x_UnknownName.at_ rfl) pa_nil))) (pa_cons (pe_callB call_isX rfl T.b_isinstance (by decide +kernel) (pa_cons (pv 0) (pa_cons (pe_glob (v := .ref (clsA mg "InUse")) rfl T.x_InUse.at_ rfl) pa_nil))) (pa_cons (pe_callB call_isX rfl T.b_isinstance (by decide +kernel) (pa_cons (pv 0) (pa_cons (pe_glob (v := .ref (clsA mg "NotFull")) rfl T.x_NotFull.at_ rfl) pa_nil))) pa_nil))))))
      (pss_cons (ps_set (i := 1) sc__law_error.nd rfl (by first | exact .inl rfl | exact .inr rfl) (pe_op op_cat (pv 1) (pe_lst (pa_cons (pe_callB call_isX rfl T.b_isinstance (by decide +kernel) (pa_cons (pv 0) (pa_cons (pe_glob (v := .ref (clsA mg "TooMany")) rfl T.x_TooMany.at_ rfl) pa_nil))) (pa_cons (pe_callB call_isX rfl T.b_isinstance (by decide +kernel) (pa_cons (pv 0) (pa_cons (pe_glob (v := .ref (clsA mg "NoRoom")) rfl T.x_NoRoom.at_ rfl) pa_nil))) (pa_cons (pe_callB call_isX rfl T.b_isinstance (by decide +kernel) (pa_cons (pv 0) (pa_cons (pe_glob (v := .ref (clsA mg "Broken")) rfl T.x_Broken.at_ rfl) pa_nil))) pa_nil))))))
      (pss_cons (ps_set (i := 1) sc__law_error.nd rfl (by first | exact .inl rfl | exact .inr rfl) (pe_op op_cat (pv 1) (pe_lst (pa_cons (pe_callB call_isX rfl T.b_isinstance (by decide +kernel) (pa_cons (pv 0) (pa_cons (pe_glob (v := .ref (clsA mg "NothingToUndo")) rfl T.x_NothingToUndo.at_ rfl) pa_nil))) pa_nil))))
      (pss_cons (ps_set (i := 2) sc__law_error.nd rfl (by first | exact .inl rfl | exact .inr rfl) (pe_lst (pa_cons pe_str (pa_cons pe_str (pa_cons pe_str (pa_cons pe_str (pa_cons pe_str (pa_cons pe_str pa_nil))))))))
      (pss_cons (ps_set (i := 2) sc__law_error.nd rfl (by first | exact .inl rfl | exact .inr rfl) (pe_op op_cat (pv 2) (pe_lst (pa_cons pe_str (pa_cons pe_str (pa_cons pe_str (pa_cons pe_str (pa_cons pe_str pa_nil))))))))
      (pss_cons (ps_set (i := 2) sc__law_error.nd rfl (by first | exact .inl rfl | exact .inr rfl) (pe_op op_cat (pv 2) (pe_lst (pa_cons pe_str (pa_cons pe_str (pa_cons pe_str (pa_cons pe_str (pa_cons pe_str (pa_cons pe_str (pa_cons pe_str pa_nil))))))))))
      (pss_cons (ps_set (i := 3) sc__law_error.nd rfl (by first | exact .inl rfl | exact .inr rfl) (pe_lst (pa_cons (pe_callB call_isX rfl T.b_isinstance (by decide +kernel) (pa_cons (pv 0) (pa_cons (pe_glob (v := .ref (clsA mg "WrongValue")) rfl T.x_WrongValue.at_ rfl) pa_nil))) (pa_cons (pe_callB call_isX rfl T.b_isinstance (by decide +kernel) (pa_cons (pv 0) (pa_cons (pe_glob (v := .ref (clsA mg "WrongName")) rfl T.x_WrongName.at_ rfl) pa_nil))) (pa_cons (pe_callB call_isX rfl T.b_isinstance (by decide +kernel) (pa_cons (pv 0) (pa_cons (pe_glob (v := .ref (clsA mg "NoAnswer")) rfl T.x_NoAnswer.at_ rfl) pa_nil))) pa_nil)))))
      (pss_cons (ps_set (i := 4) sc__law_error.nd rfl (by first | exact .inl rfl | exact .inr rfl) (pe_lst (pa_cons (pe_callB call_isX rfl T.b_isinstance (by decide +kernel) (pa_cons (pv 0) (pa_cons (pe_bltn (v := .ty "ValueError") (by rfl) T.b_ValueError (by decide +kernel) rfl) pa_nil))) (pa_cons (pe_callB call_isX rfl T.b_isinstance (by decide +kernel) (pa_cons (pv 0) (pa_cons (pe_bltn (v := .ty "LookupError") (by rfl) T.b_LookupError (by decide +kernel) rfl) pa_nil))) (pa_cons (pe_callB call_isX rfl T.b_isinstance (by decide +kernel) (pa_cons (pv 0) (pa_cons (pe_bltn (v := .ty "ArithmeticError") (by rfl) T.b_ArithmeticError (by decide +kernel) rfl) pa_nil))) pa_nil)))))
      (pss_cons (ps_if (PW.pt (pw_or (pt_cmpR op_ne (pe_bmL PySem.F.plainAttrs_list PySem.F.slot_list_count PySem.F.type_list_count (mt_lcountB (room65H hr)) (pv 1) (pa_cons pe_bl pa_nil)) pe_int (nomark _)) (pw_or1 (pt_cmpR (op_neB (L2H_units hr)) (pv 3) (pv 4) (nomark _))))) (pss_one (ps_ret pe_str))
      (pss_nil))
      (pss_cons (ps_set (i := 5) sc__law_error.nd rfl (by first | exact .inl rfl | exact .inr rfl) (pe_bmL PySem.F.plainAttrs_list PySem.F.slot_list_index PySem.F.type_list_index (mt_indexB (room65H hr)) (pv 1) (pa_cons pe_bl pa_nil)))
      (pss_one (ps_ret (pe_ifExp (pt_cmpR (op_eqB (L2H_units hr)) (pv 3) (pe_lst (pa_cons (pe_cmpR op_lt (pv 5) pe_int (nomark _)) (pa_cons (pe_chain op_lt op_lt pe_int (pv 5) pe_int) (pa_cons (pe_cmpR op_gt (pv 5) pe_int (nomark _)) pa_nil)))) (nomark _)) (pe_ix ix_listH (pv 2) (pv 5) (fun _ _ => rfl)) pe_str)))))))))))))))), ?_⟩
    have hk := exk_of T wd (by unfold excN; exact List.mem_append_left _ (List.mem_of_getElem? hw))
    have hi : i < 18 := (List.getElem?_eq_some_iff.mp hw).1
    have hc : (excV mg)[i]? = some (.ref (clsA mg wd)) := by
      unfold excV excN
      rw [List.getElem?_map, List.getElem?_append_left hi, hw]
      rfl
    have one : ∀ (j : Nat) {c : V} {d : Value} {H' : Hp} {σ : L2.St} {te : TE} (hj : (excD mg)[j]? = some d) (hd : ClsV c d) (s : Same H H') (h0 : σ[0]? = some (some (.ref a))) (hc2 : ∀ R : VK, R c H' → te σ H' R) (R : VK), R (.bl (und i j)) H' → tCB (rIsX K) (tCons (tVar 0) (tCons te tNil)) σ H' R := fun j c d H' σ te hj hd s h0 hc2 R r => ⟨_, h0, hc2 _ (isX_of (hx.same s) hk hd (kit_und T.t_err hc hj) r)⟩
    have cl : ∀ {H' : Hp} {σ : L2.St} {v : V} (R : VK), R v H' → tC v σ H' R := fun R r => r
    refine z_seq ?_
    refine lstV (GV.cons (one 0 rfl (.own _) (Same.refl _) rfl cl) (GV.cons (one 1 rfl (.own _) (Same.refl _) rfl cl) (GV.cons (one 2 rfl (.own _) (Same.refl _) rfl cl) GV.nil))) (fun p1 H1 s1 n1 e1 => ?_) (by simp)
    simp only [L2.start, List.map_cons, List.map_nil, List.length_cons, List.length_nil, Nat.zero_add, Nat.reduceAdd, Nat.reduceSub, List.replicate_succ, List.replicate_zero, List.cons_append, List.nil_append, List.append_nil, L2.tNext, L2.tAsg, L2.gName, L2.tRet, L2.tRetN, L2.tIfS, L2.tVar, L2.tUn, L2.rI, L2.rI0, L2.rU, L2.rEq, L2.rNe, L2.tTest, L2.tB, L2.tIf, Z.tIfCI, Z.tIfCS, L2.tChain, L2.tCall, L2.tDrop, L2.tAndV, L2.tOrV, L2.tNotV, L2.tAnd, L2.tOr, L2.tNot, Z.sc_ii, Z.sc_ss, Z.sc_bb, Z.sc_is, Z.sc_si, Z.sc_ni, Z.sc_in, Z.sc_ns, Z.sc_sn, Z.sc_nn, L2.CDiv, L2.CPow, L2.CMul, List.getElem?_cons_zero, List.getElem?_cons_succ, Z.set_z, Z.set_s, Option.some.injEq, L2.V.int.injEq, L2.V.bl.injEq, L2.V.str.injEq, L2.V.ref.injEq, L2.V.ty.injEq, List.cons.injEq, exists_eq_left', exists_and_left, exists_eq_left, exists_eq_right, exists_eq_right', exists_eq', exists_eq, true_and, and_true, and_assoc, decide_eq_true_eq, Int.reduceLT, and_self, Z.rIxH, Z.rIxU, Z.at30, Z.at31, Z.at32, Z.ix3_0, Z.ix3_1, Z.ix3_2, L2.rSetL, L2.gSub, Z.gTupH, L2.gCons, L2.gNil, L2.HO.lst.injEq, L2.HO.tup.injEq, L2.upd_same, L2.upd_upd, L2.tSl, L2.tNoPart, L2.tPart, L2.rSlL, L2.rCat, List.length_append, or_false, false_or, or_true, true_or, reduceCtorEq, false_and, and_false, exists_false, Int.reduceNeg, Int.reducePow, Int.reduceToNat, Int.reduceAbs, Int.reduceLE, Int.reduceMul, Int.reduceAdd, Int.reduceSub, Nat.reducePow, Nat.reduceLT, Nat.reduceLeDiff, Int.natAbs_natCast, if_true, if_false, Z.rIsN, Z.tyN, Z.kit_ii, Z.kit_bi, Z.kit_si, Z.kit_ni, Z.kit_ib, Z.kit_bb, Z.kit_sb, Z.kit_nb, Z.kit_is, Z.kit_bs, Z.kit_ss, Z.kit_ns, Bool.not_true, Bool.not_false, L2.tTup, L2.wipe, L2.tYes, Z.Turn1, L2.tNever, sizeLine_eq, Z.rInU, Z.rInH, L2.flatV, List.any_cons, List.any_nil, List.all_cons, List.all_nil, Bool.and_true, Bool.true_and, Bool.or_false, Bool.false_or, Z.tBML, L2.rAppend, Z.map_int_inj, Z.map_bl_inj, Z.rTupL, Z.rLstL, Z.rLstT, Z.rSortI, Z.rAnyH, Z.rAllH, Z.rSumH, Z.rLenL, Z.rLenU, List.length_map, L2.tPar, StX.tStar, L2.tDNewT, L2.tDIn, L2.sDPut, L2.tDGet, Z.tCallK0, List.getD_cons_zero, List.getD_cons_succ, L2.tPar3, L2.rLenT]
    refine z_seq ?_
    refine catV rfl e1 (GV.cons (one 3 rfl (.own _) s1 rfl cl) (GV.cons (one 4 rfl (.own _) s1 rfl cl) (GV.cons (one 5 rfl (.own _) s1 rfl cl) GV.nil))) (fun p2 H2 t2 n2 e2 => ?_) (by simp) (by simp)
    have s2 := s1.trans t2
    simp only [L2.start, List.map_cons, List.map_nil, List.length_cons, List.length_nil, Nat.zero_add, Nat.reduceAdd, Nat.reduceSub, List.replicate_succ, List.replicate_zero, List.cons_append, List.nil_append, List.append_nil, L2.tNext, L2.tAsg, L2.gName, L2.tRet, L2.tRetN, L2.tIfS, L2.tVar, L2.tUn, L2.rI, L2.rI0, L2.rU, L2.rEq, L2.rNe, L2.tTest, L2.tB, L2.tIf, Z.tIfCI, Z.tIfCS, L2.tChain, L2.tCall, L2.tDrop, L2.tAndV, L2.tOrV, L2.tNotV, L2.tAnd, L2.tOr, L2.tNot, Z.sc_ii, Z.sc_ss, Z.sc_bb, Z.sc_is, Z.sc_si, Z.sc_ni, Z.sc_in, Z.sc_ns, Z.sc_sn, Z.sc_nn, L2.CDiv, L2.CPow, L2.CMul, List.getElem?_cons_zero, List.getElem?_cons_succ, Z.set_z, Z.set_s, Option.some.injEq, L2.V.int.injEq, L2.V.bl.injEq, L2.V.str.injEq, L2.V.ref.injEq, L2.V.ty.injEq, List.cons.injEq, exists_eq_left', exists_and_left, exists_eq_left, exists_eq_right, exists_eq_right', exists_eq', exists_eq, true_and, and_true, and_assoc, decide_eq_true_eq, Int.reduceLT, and_self, Z.rIxH, Z.rIxU, Z.at30, Z.at31, Z.at32, Z.ix3_0, Z.ix3_1, Z.ix3_2, L2.rSetL, L2.gSub, Z.gTupH, L2.gCons, L2.gNil, L2.HO.lst.injEq, L2.HO.tup.injEq, L2.upd_same, L2.upd_upd, L2.tSl, L2.tNoPart, L2.tPart, L2.rSlL, L2.rCat, List.length_append, or_false, false_or, or_true, true_or, reduceCtorEq, false_and, and_false, exists_false, Int.reduceNeg, Int.reducePow, Int.reduceToNat, Int.reduceAbs, Int.reduceLE, Int.reduceMul, Int.reduceAdd, Int.reduceSub, Nat.reducePow, Nat.reduceLT, Nat.reduceLeDiff, Int.natAbs_natCast, if_true, if_false, Z.rIsN, Z.tyN, Z.kit_ii, Z.kit_bi, Z.kit_si, Z.kit_ni, Z.kit_ib, Z.kit_bb, Z.kit_sb, Z.kit_nb, Z.kit_is, Z.kit_bs, Z.kit_ss, Z.kit_ns, Bool.not_true, Bool.not_false, L2.tTup, L2.wipe, L2.tYes, Z.Turn1, L2.tNever, sizeLine_eq, Z.rInU, Z.rInH, L2.flatV, List.any_cons, List.any_nil, List.all_cons, List.all_nil, Bool.and_true, Bool.true_and, Bool.or_false, Bool.false_or, Z.tBML, L2.rAppend, Z.map_int_inj, Z.map_bl_inj, Z.rTupL, Z.rLstL, Z.rLstT, Z.rSortI, Z.rAnyH, Z.rAllH, Z.rSumH, Z.rLenL, Z.rLenU, List.length_map, L2.tPar, StX.tStar, L2.tDNewT, L2.tDIn, L2.sDPut, L2.tDGet, Z.tCallK0, List.getD_cons_zero, List.getD_cons_succ, L2.tPar3, L2.rLenT]
    refine z_seq ?_
    refine catV rfl e2 (GV.cons (one 6 rfl (.own _) s2 rfl cl) (GV.cons (one 7 rfl (.own _) s2 rfl cl) (GV.cons (one 8 rfl (.own _) s2 rfl cl) GV.nil))) (fun p3 H3 t3 n3 e3 => ?_) (by simp) (by simp)
    have s3 := s2.trans t3
    simp only [L2.start, List.map_cons, List.map_nil, List.length_cons, List.length_nil, Nat.zero_add, Nat.reduceAdd, Nat.reduceSub, List.replicate_succ, List.replicate_zero, List.cons_append, List.nil_append, List.append_nil, L2.tNext, L2.tAsg, L2.gName, L2.tRet, L2.tRetN, L2.tIfS, L2.tVar, L2.tUn, L2.rI, L2.rI0, L2.rU, L2.rEq, L2.rNe, L2.tTest, L2.tB, L2.tIf, Z.tIfCI, Z.tIfCS, L2.tChain, L2.tCall, L2.tDrop, L2.tAndV, L2.tOrV, L2.tNotV, L2.tAnd, L2.tOr, L2.tNot, Z.sc_ii, Z.sc_ss, Z.sc_bb, Z.sc_is, Z.sc_si, Z.sc_ni, Z.sc_in, Z.sc_ns, Z.sc_sn, Z.sc_nn, L2.CDiv, L2.CPow, L2.CMul, List.getElem?_cons_zero, List.getElem?_cons_succ, Z.set_z, Z.set_s, Option.some.injEq, L2.V.int.injEq, L2.V.bl.injEq, L2.V.str.injEq, L2.V.ref.injEq, L2.V.ty.injEq, List.cons.injEq, exists_eq_left', exists_and_left, exists_eq_left, exists_eq_right, exists_eq_right', exists_eq', exists_eq, true_and, and_true, and_assoc, decide_eq_true_eq, Int.reduceLT, and_self, Z.rIxH, Z.rIxU, Z.at30, Z.at31, Z.at32, Z.ix3_0, Z.ix3_1, Z.ix3_2, L2.rSetL, L2.gSub, Z.gTupH, L2.gCons, L2.gNil, L2.HO.lst.injEq, L2.HO.tup.injEq, L2.upd_same, L2.upd_upd, L2.tSl, L2.tNoPart, L2.tPart, L2.rSlL, L2.rCat, List.length_append, or_false, false_or, or_true, true_or, reduceCtorEq, false_and, and_false, exists_false, Int.reduceNeg, Int.reducePow, Int.reduceToNat, Int.reduceAbs, Int.reduceLE, Int.reduceMul, Int.reduceAdd, Int.reduceSub, Nat.reducePow, Nat.reduceLT, Nat.reduceLeDiff, Int.natAbs_natCast, if_true, if_false, Z.rIsN, Z.tyN, Z.kit_ii, Z.kit_bi, Z.kit_si, Z.kit_ni, Z.kit_ib, Z.kit_bb, Z.kit_sb, Z.kit_nb, Z.kit_is, Z.kit_bs, Z.kit_ss, Z.kit_ns, Bool.not_true, Bool.not_false, L2.tTup, L2.wipe, L2.tYes, Z.Turn1, L2.tNever, sizeLine_eq, Z.rInU, Z.rInH, L2.flatV, List.any_cons, List.any_nil, List.all_cons, List.all_nil, Bool.and_true, Bool.true_and, Bool.or_false, Bool.false_or, Z.tBML, L2.rAppend, Z.map_int_inj, Z.map_bl_inj, Z.rTupL, Z.rLstL, Z.rLstT, Z.rSortI, Z.rAnyH, Z.rAllH, Z.rSumH, Z.rLenL, Z.rLenU, List.length_map, L2.tPar, StX.tStar, L2.tDNewT, L2.tDIn, L2.sDPut, L2.tDGet, Z.tCallK0, List.getD_cons_zero, List.getD_cons_succ, L2.tPar3, L2.rLenT]
    refine z_seq ?_
    refine catV rfl e3 (GV.cons (one 9 rfl (.own _) s3 rfl cl) (GV.cons (one 10 rfl (.own _) s3 rfl cl) GV.nil)) (fun p4 H4 t4 n4 e4 => ?_) (by simp) (by simp)
    have s4 := s3.trans t4
    simp only [L2.start, List.map_cons, List.map_nil, List.length_cons, List.length_nil, Nat.zero_add, Nat.reduceAdd, Nat.reduceSub, List.replicate_succ, List.replicate_zero, List.cons_append, List.nil_append, List.append_nil, L2.tNext, L2.tAsg, L2.gName, L2.tRet, L2.tRetN, L2.tIfS, L2.tVar, L2.tUn, L2.rI, L2.rI0, L2.rU, L2.rEq, L2.rNe, L2.tTest, L2.tB, L2.tIf, Z.tIfCI, Z.tIfCS, L2.tChain, L2.tCall, L2.tDrop, L2.tAndV, L2.tOrV, L2.tNotV, L2.tAnd, L2.tOr, L2.tNot, Z.sc_ii, Z.sc_ss, Z.sc_bb, Z.sc_is, Z.sc_si, Z.sc_ni, Z.sc_in, Z.sc_ns, Z.sc_sn, Z.sc_nn, L2.CDiv, L2.CPow, L2.CMul, List.getElem?_cons_zero, List.getElem?_cons_succ, Z.set_z, Z.set_s, Option.some.injEq, L2.V.int.injEq, L2.V.bl.injEq, L2.V.str.injEq, L2.V.ref.injEq, L2.V.ty.injEq, List.cons.injEq, exists_eq_left', exists_and_left, exists_eq_left, exists_eq_right, exists_eq_right', exists_eq', exists_eq, true_and, and_true, and_assoc, decide_eq_true_eq, Int.reduceLT, and_self, Z.rIxH, Z.rIxU, Z.at30, Z.at31, Z.at32, Z.ix3_0, Z.ix3_1, Z.ix3_2, L2.rSetL, L2.gSub, Z.gTupH, L2.gCons, L2.gNil, L2.HO.lst.injEq, L2.HO.tup.injEq, L2.upd_same, L2.upd_upd, L2.tSl, L2.tNoPart, L2.tPart, L2.rSlL, L2.rCat, List.length_append, or_false, false_or, or_true, true_or, reduceCtorEq, false_and, and_false, exists_false, Int.reduceNeg, Int.reducePow, Int.reduceToNat, Int.reduceAbs, Int.reduceLE, Int.reduceMul, Int.reduceAdd, Int.reduceSub, Nat.reducePow, Nat.reduceLT, Nat.reduceLeDiff, Int.natAbs_natCast, if_true, if_false, Z.rIsN, Z.tyN, Z.kit_ii, Z.kit_bi, Z.kit_si, Z.kit_ni, Z.kit_ib, Z.kit_bb, Z.kit_sb, Z.kit_nb, Z.kit_is, Z.kit_bs, Z.kit_ss, Z.kit_ns, Bool.not_true, Bool.not_false, L2.tTup, L2.wipe, L2.tYes, Z.Turn1, L2.tNever, sizeLine_eq, Z.rInU, Z.rInH, L2.flatV, List.any_cons, List.any_nil, List.all_cons, List.all_nil, Bool.and_true, Bool.true_and, Bool.or_false, Bool.false_or, Z.tBML, L2.rAppend, Z.map_int_inj, Z.map_bl_inj, Z.rTupL, Z.rLstL, Z.rLstT, Z.rSortI, Z.rAnyH, Z.rAllH, Z.rSumH, Z.rLenL, Z.rLenU, List.length_map, L2.tPar, StX.tStar, L2.tDNewT, L2.tDIn, L2.sDPut, L2.tDGet, Z.tCallK0, List.getD_cons_zero, List.getD_cons_succ, L2.tPar3, L2.rLenT]
    refine z_seq ?_
    refine catV rfl e4 (GV.cons (one 11 rfl (.own _) s4 rfl cl) (GV.cons (one 12 rfl (.own _) s4 rfl cl) (GV.cons (one 13 rfl (.own _) s4 rfl cl) GV.nil))) (fun p5 H5 t5 n5 e5 => ?_) (by simp) (by simp)
    have s5 := s4.trans t5
    simp only [L2.start, List.map_cons, List.map_nil, List.length_cons, List.length_nil, Nat.zero_add, Nat.reduceAdd, Nat.reduceSub, List.replicate_succ, List.replicate_zero, List.cons_append, List.nil_append, List.append_nil, L2.tNext, L2.tAsg, L2.gName, L2.tRet, L2.tRetN, L2.tIfS, L2.tVar, L2.tUn, L2.rI, L2.rI0, L2.rU, L2.rEq, L2.rNe, L2.tTest, L2.tB, L2.tIf, Z.tIfCI, Z.tIfCS, L2.tChain, L2.tCall, L2.tDrop, L2.tAndV, L2.tOrV, L2.tNotV, L2.tAnd, L2.tOr, L2.tNot, Z.sc_ii, Z.sc_ss, Z.sc_bb, Z.sc_is, Z.sc_si, Z.sc_ni, Z.sc_in, Z.sc_ns, Z.sc_sn, Z.sc_nn, L2.CDiv, L2.CPow, L2.CMul, List.getElem?_cons_zero, List.getElem?_cons_succ, Z.set_z, Z.set_s, Option.some.injEq, L2.V.int.injEq, L2.V.bl.injEq, L2.V.str.injEq, L2.V.ref.injEq, L2.V.ty.injEq, List.cons.injEq, exists_eq_left', exists_and_left, exists_eq_left, exists_eq_right, exists_eq_right', exists_eq', exists_eq, true_and, and_true, and_assoc, decide_eq_true_eq, Int.reduceLT, and_self, Z.rIxH, Z.rIxU, Z.at30, Z.at31, Z.at32, Z.ix3_0, Z.ix3_1, Z.ix3_2, L2.rSetL, L2.gSub, Z.gTupH, L2.gCons, L2.gNil, L2.HO.lst.injEq, L2.HO.tup.injEq, L2.upd_same, L2.upd_upd, L2.tSl, L2.tNoPart, L2.tPart, L2.rSlL, L2.rCat, List.length_append, or_false, false_or, or_true, true_or, reduceCtorEq, false_and, and_false, exists_false, Int.reduceNeg, Int.reducePow, Int.reduceToNat, Int.reduceAbs, Int.reduceLE, Int.reduceMul, Int.reduceAdd, Int.reduceSub, Nat.reducePow, Nat.reduceLT, Nat.reduceLeDiff, Int.natAbs_natCast, if_true, if_false, Z.rIsN, Z.tyN, Z.kit_ii, Z.kit_bi, Z.kit_si, Z.kit_ni, Z.kit_ib, Z.kit_bb, Z.kit_sb, Z.kit_nb, Z.kit_is, Z.kit_bs, Z.kit_ss, Z.kit_ns, Bool.not_true, Bool.not_false, L2.tTup, L2.wipe, L2.tYes, Z.Turn1, L2.tNever, sizeLine_eq, Z.rInU, Z.rInH, L2.flatV, List.any_cons, List.any_nil, List.all_cons, List.all_nil, Bool.and_true, Bool.true_and, Bool.or_false, Bool.false_or, Z.tBML, L2.rAppend, Z.map_int_inj, Z.map_bl_inj, Z.rTupL, Z.rLstL, Z.rLstT, Z.rSortI, Z.rAnyH, Z.rAllH, Z.rSumH, Z.rLenL, Z.rLenU, List.length_map, L2.tPar, StX.tStar, L2.tDNewT, L2.tDIn, L2.sDPut, L2.tDGet, Z.tCallK0, List.getD_cons_zero, List.getD_cons_succ, L2.tPar3, L2.rLenT]
    refine z_seq ?_
    refine catV rfl e5 (GV.cons (one 14 rfl (.own _) s5 rfl cl) (GV.cons (one 15 rfl (.own _) s5 rfl cl) (GV.cons (one 16 rfl (.own _) s5 rfl cl) GV.nil))) (fun p6 H6 t6 n6 e6 => ?_) (by simp) (by simp)
    have s6 := s5.trans t6
    simp only [L2.start, List.map_cons, List.map_nil, List.length_cons, List.length_nil, Nat.zero_add, Nat.reduceAdd, Nat.reduceSub, List.replicate_succ, List.replicate_zero, List.cons_append, List.nil_append, List.append_nil, L2.tNext, L2.tAsg, L2.gName, L2.tRet, L2.tRetN, L2.tIfS, L2.tVar, L2.tUn, L2.rI, L2.rI0, L2.rU, L2.rEq, L2.rNe, L2.tTest, L2.tB, L2.tIf, Z.tIfCI, Z.tIfCS, L2.tChain, L2.tCall, L2.tDrop, L2.tAndV, L2.tOrV, L2.tNotV, L2.tAnd, L2.tOr, L2.tNot, Z.sc_ii, Z.sc_ss, Z.sc_bb, Z.sc_is, Z.sc_si, Z.sc_ni, Z.sc_in, Z.sc_ns, Z.sc_sn, Z.sc_nn, L2.CDiv, L2.CPow, L2.CMul, List.getElem?_cons_zero, List.getElem?_cons_succ, Z.set_z, Z.set_s, Option.some.injEq, L2.V.int.injEq, L2.V.bl.injEq, L2.V.str.injEq, L2.V.ref.injEq, L2.V.ty.injEq, List.cons.injEq, exists_eq_left', exists_and_left, exists_eq_left, exists_eq_right, exists_eq_right', exists_eq', exists_eq, true_and, and_true, and_assoc, decide_eq_true_eq, Int.reduceLT, and_self, Z.rIxH, Z.rIxU, Z.at30, Z.at31, Z.at32, Z.ix3_0, Z.ix3_1, Z.ix3_2, L2.rSetL, L2.gSub, Z.gTupH, L2.gCons, L2.gNil, L2.HO.lst.injEq, L2.HO.tup.injEq, L2.upd_same, L2.upd_upd, L2.tSl, L2.tNoPart, L2.tPart, L2.rSlL, L2.rCat, List.length_append, or_false, false_or, or_true, true_or, reduceCtorEq, false_and, and_false, exists_false, Int.reduceNeg, Int.reducePow, Int.reduceToNat, Int.reduceAbs, Int.reduceLE, Int.reduceMul, Int.reduceAdd, Int.reduceSub, Nat.reducePow, Nat.reduceLT, Nat.reduceLeDiff, Int.natAbs_natCast, if_true, if_false, Z.rIsN, Z.tyN, Z.kit_ii, Z.kit_bi, Z.kit_si, Z.kit_ni, Z.kit_ib, Z.kit_bb, Z.kit_sb, Z.kit_nb, Z.kit_is, Z.kit_bs, Z.kit_ss, Z.kit_ns, Bool.not_true, Bool.not_false, L2.tTup, L2.wipe, L2.tYes, Z.Turn1, L2.tNever, sizeLine_eq, Z.rInU, Z.rInH, L2.flatV, List.any_cons, List.any_nil, List.all_cons, List.all_nil, Bool.and_true, Bool.true_and, Bool.or_false, Bool.false_or, Z.tBML, L2.rAppend, Z.map_int_inj, Z.map_bl_inj, Z.rTupL, Z.rLstL, Z.rLstT, Z.rSortI, Z.rAnyH, Z.rAllH, Z.rSumH, Z.rLenL, Z.rLenU, List.length_map, L2.tPar, StX.tStar, L2.tDNewT, L2.tDIn, L2.sDPut, L2.tDGet, Z.tCallK0, List.getD_cons_zero, List.getD_cons_succ, L2.tPar3, L2.rLenT]
    refine z_seq ?_
    refine catV rfl e6 (GV.cons (one 17 rfl (.own _) s6 rfl cl) GV.nil) (fun p7 H7 t7 n7 e7 => ?_) (by simp) (by simp)
    have s7 := s6.trans t7
    simp only [L2.start, List.map_cons, List.map_nil, List.length_cons, List.length_nil, Nat.zero_add, Nat.reduceAdd, Nat.reduceSub, List.replicate_succ, List.replicate_zero, List.cons_append, List.nil_append, List.append_nil, L2.tNext, L2.tAsg, L2.gName, L2.tRet, L2.tRetN, L2.tIfS, L2.tVar, L2.tUn, L2.rI, L2.rI0, L2.rU, L2.rEq, L2.rNe, L2.tTest, L2.tB, L2.tIf, Z.tIfCI, Z.tIfCS, L2.tChain, L2.tCall, L2.tDrop, L2.tAndV, L2.tOrV, L2.tNotV, L2.tAnd, L2.tOr, L2.tNot, Z.sc_ii, Z.sc_ss, Z.sc_bb, Z.sc_is, Z.sc_si, Z.sc_ni, Z.sc_in, Z.sc_ns, Z.sc_sn, Z.sc_nn, L2.CDiv, L2.CPow, L2.CMul, List.getElem?_cons_zero, List.getElem?_cons_succ, Z.set_z, Z.set_s, Option.some.injEq, L2.V.int.injEq, L2.V.bl.injEq, L2.V.str.injEq, L2.V.ref.injEq, L2.V.ty.injEq, List.cons.injEq, exists_eq_left', exists_and_left, exists_eq_left, exists_eq_right, exists_eq_right', exists_eq', exists_eq, true_and, and_true, and_assoc, decide_eq_true_eq, Int.reduceLT, and_self, Z.rIxH, Z.rIxU, Z.at30, Z.at31, Z.at32, Z.ix3_0, Z.ix3_1, Z.ix3_2, L2.rSetL, L2.gSub, Z.gTupH, L2.gCons, L2.gNil, L2.HO.lst.injEq, L2.HO.tup.injEq, L2.upd_same, L2.upd_upd, L2.tSl, L2.tNoPart, L2.tPart, L2.rSlL, L2.rCat, List.length_append, or_false, false_or, or_true, true_or, reduceCtorEq, false_and, and_false, exists_false, Int.reduceNeg, Int.reducePow, Int.reduceToNat, Int.reduceAbs, Int.reduceLE, Int.reduceMul, Int.reduceAdd, Int.reduceSub, Nat.reducePow, Nat.reduceLT, Nat.reduceLeDiff, Int.natAbs_natCast, if_true, if_false, Z.rIsN, Z.tyN, Z.kit_ii, Z.kit_bi, Z.kit_si, Z.kit_ni, Z.kit_ib, Z.kit_bb, Z.kit_sb, Z.kit_nb, Z.kit_is, Z.kit_bs, Z.kit_ss, Z.kit_ns, Bool.not_true, Bool.not_false, L2.tTup, L2.wipe, L2.tYes, Z.Turn1, L2.tNever, sizeLine_eq, Z.rInU, Z.rInH, L2.flatV, List.any_cons, List.any_nil, List.all_cons, List.all_nil, Bool.and_true, Bool.true_and, Bool.or_false, Bool.false_or, Z.tBML, L2.rAppend, Z.map_int_inj, Z.map_bl_inj, Z.rTupL, Z.rLstL, Z.rLstT, Z.rSortI, Z.rAnyH, Z.rAllH, Z.rSumH, Z.rLenL, Z.rLenU, List.length_map, L2.tPar, StX.tStar, L2.tDNewT, L2.tDIn, L2.sDPut, L2.tDGet, Z.tCallK0, List.getD_cons_zero, List.getD_cons_succ, L2.tPar3, L2.rLenT]
    refine z_seq ?_
    refine lstV (GV.cons cl (GV.cons cl (GV.cons cl (GV.cons cl (GV.cons cl (GV.cons cl GV.nil)))))) (fun p8 H8 t8 n8 e8 => ?_) (by simp)
    have s8 := s7.trans t8
    simp only [L2.start, List.map_cons, List.map_nil, List.length_cons, List.length_nil, Nat.zero_add, Nat.reduceAdd, Nat.reduceSub, List.replicate_succ, List.replicate_zero, List.cons_append, List.nil_append, List.append_nil, L2.tNext, L2.tAsg, L2.gName, L2.tRet, L2.tRetN, L2.tIfS, L2.tVar, L2.tUn, L2.rI, L2.rI0, L2.rU, L2.rEq, L2.rNe, L2.tTest, L2.tB, L2.tIf, Z.tIfCI, Z.tIfCS, L2.tChain, L2.tCall, L2.tDrop, L2.tAndV, L2.tOrV, L2.tNotV, L2.tAnd, L2.tOr, L2.tNot, Z.sc_ii, Z.sc_ss, Z.sc_bb, Z.sc_is, Z.sc_si, Z.sc_ni, Z.sc_in, Z.sc_ns, Z.sc_sn, Z.sc_nn, L2.CDiv, L2.CPow, L2.CMul, List.getElem?_cons_zero, List.getElem?_cons_succ, Z.set_z, Z.set_s, Option.some.injEq, L2.V.int.injEq, L2.V.bl.injEq, L2.V.str.injEq, L2.V.ref.injEq, L2.V.ty.injEq, List.cons.injEq, exists_eq_left', exists_and_left, exists_eq_left, exists_eq_right, exists_eq_right', exists_eq', exists_eq, true_and, and_true, and_assoc, decide_eq_true_eq, Int.reduceLT, and_self, Z.rIxH, Z.rIxU, Z.at30, Z.at31, Z.at32, Z.ix3_0, Z.ix3_1, Z.ix3_2, L2.rSetL, L2.gSub, Z.gTupH, L2.gCons, L2.gNil, L2.HO.lst.injEq, L2.HO.tup.injEq, L2.upd_same, L2.upd_upd, L2.tSl, L2.tNoPart, L2.tPart, L2.rSlL, L2.rCat, List.length_append, or_false, false_or, or_true, true_or, reduceCtorEq, false_and, and_false, exists_false, Int.reduceNeg, Int.reducePow, Int.reduceToNat, Int.reduceAbs, Int.reduceLE, Int.reduceMul, Int.reduceAdd, Int.reduceSub, Nat.reducePow, Nat.reduceLT, Nat.reduceLeDiff, Int.natAbs_natCast, if_true, if_false, Z.rIsN, Z.tyN, Z.kit_ii, Z.kit_bi, Z.kit_si, Z.kit_ni, Z.kit_ib, Z.kit_bb, Z.kit_sb, Z.kit_nb, Z.kit_is, Z.kit_bs, Z.kit_ss, Z.kit_ns, Bool.not_true, Bool.not_false, L2.tTup, L2.wipe, L2.tYes, Z.Turn1, L2.tNever, sizeLine_eq, Z.rInU, Z.rInH, L2.flatV, List.any_cons, List.any_nil, List.all_cons, List.all_nil, Bool.and_true, Bool.true_and, Bool.or_false, Bool.false_or, Z.tBML, L2.rAppend, Z.map_int_inj, Z.map_bl_inj, Z.rTupL, Z.rLstL, Z.rLstT, Z.rSortI, Z.rAnyH, Z.rAllH, Z.rSumH, Z.rLenL, Z.rLenU, List.length_map, L2.tPar, StX.tStar, L2.tDNewT, L2.tDIn, L2.sDPut, L2.tDGet, Z.tCallK0, List.getD_cons_zero, List.getD_cons_succ, L2.tPar3, L2.rLenT]
    refine z_seq ?_
    refine catV rfl e8 (GV.cons cl (GV.cons cl (GV.cons cl (GV.cons cl (GV.cons cl GV.nil))))) (fun p9 H9 t9 n9 e9 => ?_) (by simp) (by simp)
    have s9 := s8.trans t9
    simp only [L2.start, List.map_cons, List.map_nil, List.length_cons, List.length_nil, Nat.zero_add, Nat.reduceAdd, Nat.reduceSub, List.replicate_succ, List.replicate_zero, List.cons_append, List.nil_append, List.append_nil, L2.tNext, L2.tAsg, L2.gName, L2.tRet, L2.tRetN, L2.tIfS, L2.tVar, L2.tUn, L2.rI, L2.rI0, L2.rU, L2.rEq, L2.rNe, L2.tTest, L2.tB, L2.tIf, Z.tIfCI, Z.tIfCS, L2.tChain, L2.tCall, L2.tDrop, L2.tAndV, L2.tOrV, L2.tNotV, L2.tAnd, L2.tOr, L2.tNot, Z.sc_ii, Z.sc_ss, Z.sc_bb, Z.sc_is, Z.sc_si, Z.sc_ni, Z.sc_in, Z.sc_ns, Z.sc_sn, Z.sc_nn, L2.CDiv, L2.CPow, L2.CMul, List.getElem?_cons_zero, List.getElem?_cons_succ, Z.set_z, Z.set_s, Option.some.injEq, L2.V.int.injEq, L2.V.bl.injEq, L2.V.str.injEq, L2.V.ref.injEq, L2.V.ty.injEq, List.cons.injEq, exists_eq_left', exists_and_left, exists_eq_left, exists_eq_right, exists_eq_right', exists_eq', exists_eq, true_and, and_true, and_assoc, decide_eq_true_eq, Int.reduceLT, and_self, Z.rIxH, Z.rIxU, Z.at30, Z.at31, Z.at32, Z.ix3_0, Z.ix3_1, Z.ix3_2, L2.rSetL, L2.gSub, Z.gTupH, L2.gCons, L2.gNil, L2.HO.lst.injEq, L2.HO.tup.injEq, L2.upd_same, L2.upd_upd, L2.tSl, L2.tNoPart, L2.tPart, L2.rSlL, L2.rCat, List.length_append, or_false, false_or, or_true, true_or, reduceCtorEq, false_and, and_false, exists_false, Int.reduceNeg, Int.reducePow, Int.reduceToNat, Int.reduceAbs, Int.reduceLE, Int.reduceMul, Int.reduceAdd, Int.reduceSub, Nat.reducePow, Nat.reduceLT, Nat.reduceLeDiff, Int.natAbs_natCast, if_true, if_false, Z.rIsN, Z.tyN, Z.kit_ii, Z.kit_bi, Z.kit_si, Z.kit_ni, Z.kit_ib, Z.kit_bb, Z.kit_sb, Z.kit_nb, Z.kit_is, Z.kit_bs, Z.kit_ss, Z.kit_ns, Bool.not_true, Bool.not_false, L2.tTup, L2.wipe, L2.tYes, Z.Turn1, L2.tNever, sizeLine_eq, Z.rInU, Z.rInH, L2.flatV, List.any_cons, List.any_nil, List.all_cons, List.all_nil, Bool.and_true, Bool.true_and, Bool.or_false, Bool.false_or, Z.tBML, L2.rAppend, Z.map_int_inj, Z.map_bl_inj, Z.rTupL, Z.rLstL, Z.rLstT, Z.rSortI, Z.rAnyH, Z.rAllH, Z.rSumH, Z.rLenL, Z.rLenU, List.length_map, L2.tPar, StX.tStar, L2.tDNewT, L2.tDIn, L2.sDPut, L2.tDGet, Z.tCallK0, List.getD_cons_zero, List.getD_cons_succ, L2.tPar3, L2.rLenT]
    refine z_seq ?_
    refine catV rfl e9 (GV.cons cl (GV.cons cl (GV.cons cl (GV.cons cl (GV.cons cl (GV.cons cl (GV.cons cl GV.nil))))))) (fun p10 H10 t10 n10 e10 => ?_) (by simp) (by simp)
    have s10 := s9.trans t10
    simp only [L2.start, List.map_cons, List.map_nil, List.length_cons, List.length_nil, Nat.zero_add, Nat.reduceAdd, Nat.reduceSub, List.replicate_succ, List.replicate_zero, List.cons_append, List.nil_append, List.append_nil, L2.tNext, L2.tAsg, L2.gName, L2.tRet, L2.tRetN, L2.tIfS, L2.tVar, L2.tUn, L2.rI, L2.rI0, L2.rU, L2.rEq, L2.rNe, L2.tTest, L2.tB, L2.tIf, Z.tIfCI, Z.tIfCS, L2.tChain, L2.tCall, L2.tDrop, L2.tAndV, L2.tOrV, L2.tNotV, L2.tAnd, L2.tOr, L2.tNot, Z.sc_ii, Z.sc_ss, Z.sc_bb, Z.sc_is, Z.sc_si, Z.sc_ni, Z.sc_in, Z.sc_ns, Z.sc_sn, Z.sc_nn, L2.CDiv, L2.CPow, L2.CMul, List.getElem?_cons_zero, List.getElem?_cons_succ, Z.set_z, Z.set_s, Option.some.injEq, L2.V.int.injEq, L2.V.bl.injEq, L2.V.str.injEq, L2.V.ref.injEq, L2.V.ty.injEq, List.cons.injEq, exists_eq_left', exists_and_left, exists_eq_left, exists_eq_right, exists_eq_right', exists_eq', exists_eq, true_and, and_true, and_assoc, decide_eq_true_eq, Int.reduceLT, and_self, Z.rIxH, Z.rIxU, Z.at30, Z.at31, Z.at32, Z.ix3_0, Z.ix3_1, Z.ix3_2, L2.rSetL, L2.gSub, Z.gTupH, L2.gCons, L2.gNil, L2.HO.lst.injEq, L2.HO.tup.injEq, L2.upd_same, L2.upd_upd, L2.tSl, L2.tNoPart, L2.tPart, L2.rSlL, L2.rCat, List.length_append, or_false, false_or, or_true, true_or, reduceCtorEq, false_and, and_false, exists_false, Int.reduceNeg, Int.reducePow, Int.reduceToNat, Int.reduceAbs, Int.reduceLE, Int.reduceMul, Int.reduceAdd, Int.reduceSub, Nat.reducePow, Nat.reduceLT, Nat.reduceLeDiff, Int.natAbs_natCast, if_true, if_false, Z.rIsN, Z.tyN, Z.kit_ii, Z.kit_bi, Z.kit_si, Z.kit_ni, Z.kit_ib, Z.kit_bb, Z.kit_sb, Z.kit_nb, Z.kit_is, Z.kit_bs, Z.kit_ss, Z.kit_ns, Bool.not_true, Bool.not_false, L2.tTup, L2.wipe, L2.tYes, Z.Turn1, L2.tNever, sizeLine_eq, Z.rInU, Z.rInH, L2.flatV, List.any_cons, List.any_nil, List.all_cons, List.all_nil, Bool.and_true, Bool.true_and, Bool.or_false, Bool.false_or, Z.tBML, L2.rAppend, Z.map_int_inj, Z.map_bl_inj, Z.rTupL, Z.rLstL, Z.rLstT, Z.rSortI, Z.rAnyH, Z.rAllH, Z.rSumH, Z.rLenL, Z.rLenU, List.length_map, L2.tPar, StX.tStar, L2.tDNewT, L2.tDIn, L2.sDPut, L2.tDGet, Z.tCallK0, List.getD_cons_zero, List.getD_cons_succ, L2.tPar3, L2.rLenT]
    refine z_seq ?_
    refine lstV (GV.cons (one 18 rfl (.own _) s10 rfl cl) (GV.cons (one 19 rfl (.own _) s10 rfl cl) (GV.cons (one 20 rfl (.own _) s10 rfl cl) GV.nil))) (fun p11 H11 t11 n11 e11 => ?_) (by simp)
    have s11 := s10.trans t11
    simp only [L2.start, List.map_cons, List.map_nil, List.length_cons, List.length_nil, Nat.zero_add, Nat.reduceAdd, Nat.reduceSub, List.replicate_succ, List.replicate_zero, List.cons_append, List.nil_append, List.append_nil, L2.tNext, L2.tAsg, L2.gName, L2.tRet, L2.tRetN, L2.tIfS, L2.tVar, L2.tUn, L2.rI, L2.rI0, L2.rU, L2.rEq, L2.rNe, L2.tTest, L2.tB, L2.tIf, Z.tIfCI, Z.tIfCS, L2.tChain, L2.tCall, L2.tDrop, L2.tAndV, L2.tOrV, L2.tNotV, L2.tAnd, L2.tOr, L2.tNot, Z.sc_ii, Z.sc_ss, Z.sc_bb, Z.sc_is, Z.sc_si, Z.sc_ni, Z.sc_in, Z.sc_ns, Z.sc_sn, Z.sc_nn, L2.CDiv, L2.CPow, L2.CMul, List.getElem?_cons_zero, List.getElem?_cons_succ, Z.set_z, Z.set_s, Option.some.injEq, L2.V.int.injEq, L2.V.bl.injEq, L2.V.str.injEq, L2.V.ref.injEq, L2.V.ty.injEq, List.cons.injEq, exists_eq_left', exists_and_left, exists_eq_left, exists_eq_right, exists_eq_right', exists_eq', exists_eq, true_and, and_true, and_assoc, decide_eq_true_eq, Int.reduceLT, and_self, Z.rIxH, Z.rIxU, Z.at30, Z.at31, Z.at32, Z.ix3_0, Z.ix3_1, Z.ix3_2, L2.rSetL, L2.gSub, Z.gTupH, L2.gCons, L2.gNil, L2.HO.lst.injEq, L2.HO.tup.injEq, L2.upd_same, L2.upd_upd, L2.tSl, L2.tNoPart, L2.tPart, L2.rSlL, L2.rCat, List.length_append, or_false, false_or, or_true, true_or, reduceCtorEq, false_and, and_false, exists_false, Int.reduceNeg, Int.reducePow, Int.reduceToNat, Int.reduceAbs, Int.reduceLE, Int.reduceMul, Int.reduceAdd, Int.reduceSub, Nat.reducePow, Nat.reduceLT, Nat.reduceLeDiff, Int.natAbs_natCast, if_true, if_false, Z.rIsN, Z.tyN, Z.kit_ii, Z.kit_bi, Z.kit_si, Z.kit_ni, Z.kit_ib, Z.kit_bb, Z.kit_sb, Z.kit_nb, Z.kit_is, Z.kit_bs, Z.kit_ss, Z.kit_ns, Bool.not_true, Bool.not_false, L2.tTup, L2.wipe, L2.tYes, Z.Turn1, L2.tNever, sizeLine_eq, Z.rInU, Z.rInH, L2.flatV, List.any_cons, List.any_nil, List.all_cons, List.all_nil, Bool.and_true, Bool.true_and, Bool.or_false, Bool.false_or, Z.tBML, L2.rAppend, Z.map_int_inj, Z.map_bl_inj, Z.rTupL, Z.rLstL, Z.rLstT, Z.rSortI, Z.rAnyH, Z.rAllH, Z.rSumH, Z.rLenL, Z.rLenU, List.length_map, L2.tPar, StX.tStar, L2.tDNewT, L2.tDIn, L2.sDPut, L2.tDGet, Z.tCallK0, List.getD_cons_zero, List.getD_cons_succ, L2.tPar3, L2.rLenT]
    refine z_seq ?_
    refine lstV (GV.cons (one 21 rfl (.ty _) s11 rfl cl) (GV.cons (one 22 rfl (.ty _) s11 rfl cl) (GV.cons (one 23 rfl (.ty _) s11 rfl cl) GV.nil))) (fun p12 H12 t12 n12 e12 => ?_) (by simp)
    have s12 := s11.trans t12
    simp only [L2.start, List.map_cons, List.map_nil, List.length_cons, List.length_nil, Nat.zero_add, Nat.reduceAdd, Nat.reduceSub, List.replicate_succ, List.replicate_zero, List.cons_append, List.nil_append, List.append_nil, L2.tNext, L2.tAsg, L2.gName, L2.tRet, L2.tRetN, L2.tIfS, L2.tVar, L2.tUn, L2.rI, L2.rI0, L2.rU, L2.rEq, L2.rNe, L2.tTest, L2.tB, L2.tIf, Z.tIfCI, Z.tIfCS, L2.tChain, L2.tCall, L2.tDrop, L2.tAndV, L2.tOrV, L2.tNotV, L2.tAnd, L2.tOr, L2.tNot, Z.sc_ii, Z.sc_ss, Z.sc_bb, Z.sc_is, Z.sc_si, Z.sc_ni, Z.sc_in, Z.sc_ns, Z.sc_sn, Z.sc_nn, L2.CDiv, L2.CPow, L2.CMul, List.getElem?_cons_zero, List.getElem?_cons_succ, Z.set_z, Z.set_s, Option.some.injEq, L2.V.int.injEq, L2.V.bl.injEq, L2.V.str.injEq, L2.V.ref.injEq, L2.V.ty.injEq, List.cons.injEq, exists_eq_left', exists_and_left, exists_eq_left, exists_eq_right, exists_eq_right', exists_eq', exists_eq, true_and, and_true, and_assoc, decide_eq_true_eq, Int.reduceLT, and_self, Z.rIxH, Z.rIxU, Z.at30, Z.at31, Z.at32, Z.ix3_0, Z.ix3_1, Z.ix3_2, L2.rSetL, L2.gSub, Z.gTupH, L2.gCons, L2.gNil, L2.HO.lst.injEq, L2.HO.tup.injEq, L2.upd_same, L2.upd_upd, L2.tSl, L2.tNoPart, L2.tPart, L2.rSlL, L2.rCat, List.length_append, or_false, false_or, or_true, true_or, reduceCtorEq, false_and, and_false, exists_false, Int.reduceNeg, Int.reducePow, Int.reduceToNat, Int.reduceAbs, Int.reduceLE, Int.reduceMul, Int.reduceAdd, Int.reduceSub, Nat.reducePow, Nat.reduceLT, Nat.reduceLeDiff, Int.natAbs_natCast, if_true, if_false, Z.rIsN, Z.tyN, Z.kit_ii, Z.kit_bi, Z.kit_si, Z.kit_ni, Z.kit_ib, Z.kit_bb, Z.kit_sb, Z.kit_nb, Z.kit_is, Z.kit_bs, Z.kit_ss, Z.kit_ns, Bool.not_true, Bool.not_false, L2.tTup, L2.wipe, L2.tYes, Z.Turn1, L2.tNever, sizeLine_eq, Z.rInU, Z.rInH, L2.flatV, List.any_cons, List.any_nil, List.all_cons, List.all_nil, Bool.and_true, Bool.true_and, Bool.or_false, Bool.false_or, Z.tBML, L2.rAppend, Z.map_int_inj, Z.map_bl_inj, Z.rTupL, Z.rLstL, Z.rLstT, Z.rSortI, Z.rAnyH, Z.rAllH, Z.rSumH, Z.rLenL, Z.rLenU, List.length_map, L2.tPar, StX.tStar, L2.tDNewT, L2.tDIn, L2.sDPut, L2.tDGet, Z.tCallK0, List.getD_cons_zero, List.getD_cons_succ, L2.tPar3, L2.rLenT]
    have f7 : H12 p7 = some (.lst ((bs18 i).map V.bl)) := t12 _ _ (t11 _ _ (t10 _ _ (t9 _ _ (t8 _ _ e7))))
    have f10 : H12 p10 = some (.lst (errN.map V.str)) := t12 _ _ (t11 _ _ e10)
    have f11 : H12 p11 = some (.lst ([und i 18, und i 19, und i 20].map V.bl)) := t12 _ _ e11
    have f12 : H12 p12 = some (.lst ([und i 21, und i 22, und i 23].map V.bl)) := e12
    clear e1 e2 e3 e4 e5 e6 e7 e8 e9 e10 e11 e12 t2 t3 t4 t5 t6 t7 t8 t9 t10 t11 t12
    obtain ⟨u1, u2, u3⟩ := und_bases i hi
    obtain ⟨v1, v2, v3⟩ := und_three i hi
    refine z_seq ?_
    simp only [L2.start, List.map_cons, List.map_nil, List.length_cons, List.length_nil, Nat.zero_add, Nat.reduceAdd, Nat.reduceSub, List.replicate_succ, List.replicate_zero, List.cons_append, List.nil_append, List.append_nil, L2.tNext, L2.tAsg, L2.gName, L2.tRet, L2.tRetN, L2.tIfS, L2.tVar, L2.tC, L2.tOp, L2.tUn, L2.rI, L2.rI0, L2.rU, L2.rEq, L2.rNe, L2.tTest, L2.tB, L2.tIf, Z.tIfCI, Z.tIfCS, L2.tChain, L2.tCons, L2.tNil, L2.tCall, L2.tDrop, L2.tAndV, L2.tOrV, L2.tNotV, L2.tAnd, L2.tOr, L2.tNot, L2.tCB, Z.sc_ii, Z.sc_ss, Z.sc_bb, Z.sc_is, Z.sc_si, Z.sc_ni, Z.sc_in, Z.sc_ns, Z.sc_sn, Z.sc_nn, L2.CDiv, L2.CPow, L2.CMul, List.getElem?_cons_zero, List.getElem?_cons_succ, Z.set_z, Z.set_s, Option.some.injEq, L2.V.int.injEq, L2.V.bl.injEq, L2.V.str.injEq, L2.V.ref.injEq, L2.V.ty.injEq, List.cons.injEq, exists_eq_left', exists_and_left, exists_eq_left, exists_eq_right, exists_eq_right', exists_eq', exists_eq, true_and, and_true, and_assoc, decide_eq_true_eq, Int.reduceLT, and_self, Z.rIxH, Z.rIxU, Z.at30, Z.at31, Z.at32, Z.ix3_0, Z.ix3_1, Z.ix3_2, L2.rSetL, L2.gSub, Z.gTupH, L2.gCons, L2.gNil, L2.HO.lst.injEq, L2.HO.tup.injEq, L2.upd_same, L2.upd_upd, L2.tSl, L2.tNoPart, L2.tPart, L2.rSlL, L2.rCat, List.length_append, or_false, false_or, or_true, true_or, reduceCtorEq, false_and, and_false, exists_false, Int.reduceNeg, Int.reducePow, Int.reduceToNat, Int.reduceAbs, Int.reduceLE, Int.reduceMul, Int.reduceAdd, Int.reduceSub, Nat.reducePow, Nat.reduceLT, Nat.reduceLeDiff, Int.natAbs_natCast, if_true, if_false, Z.rIsN, Z.tyN, Z.kit_ii, Z.kit_bi, Z.kit_si, Z.kit_ni, Z.kit_ib, Z.kit_bb, Z.kit_sb, Z.kit_nb, Z.kit_is, Z.kit_bs, Z.kit_ss, Z.kit_ns, Bool.not_true, Bool.not_false, L2.tTup, L2.wipe, L2.tYes, Z.Turn1, L2.tNever, sizeLine_eq, Z.rInU, Z.rInH, L2.flatV, List.any_cons, List.any_nil, List.all_cons, List.all_nil, Bool.and_true, Bool.true_and, Bool.or_false, Bool.false_or, Z.tBML, L2.rAppend, Z.map_int_inj, Z.map_bl_inj, Z.rTupL, Z.rLstL, Z.rLstT, Z.rSortI, Z.rAnyH, Z.rAllH, Z.rSumH, Z.rLenL, Z.rLenU, List.length_map, L2.tPar, StX.tStar, L2.tDNewT, L2.tDIn, L2.sDPut, L2.tDGet, Z.tCallK0, List.getD_cons_zero, List.getD_cons_succ, L2.tPar3, L2.rLenT]
    refine ⟨_, f7, p7, bs18 i, rfl, rfl, f7, ?_⟩
    rw [und_count i hi]
    refine ⟨rfl, ?_⟩
    rw [if_neg (by decide)]
    refine ⟨p11, p12, _, _, rfl, rfl, f11, f12, _, rfl, ?_⟩
    rw [u1, u2, u3, if_neg (by simp)]
    refine z_seq ?_
    simp? only [true_and]
    refine ⟨_, f7, p7, bs18 i, i, rfl, rfl, f7, (und_index i hi).1, (und_index i hi).2, ?_⟩
    simp? only [true_and]
    have fin : ∀ (b : Bool) (p : Addr), H12 p = none → (decide ((10 : Int) < i) && decide ((i : Int) < 13)) = b → rEqB (.ref p11) (.ref p) (upd H12 p (.lst [.bl (decide ((i : Int) < 11)), .bl b, .bl (decide ((12 : Int) < i))])) fun x H' => ∃ k, x = V.bl k ∧ if k = true then ∃ x, H' p10 = some (HO.lst x) ∧ ∃ x_1, atI x (i : Int) = some x_1 ∧ Q x_1 H' else Q (V.str "") H' := fun b p hp hb => by
      refine ⟨p11, p, _, [decide ((i : Int) < 11), b, decide ((12 : Int) < i)], rfl, rfl, same_new hp _ _ f11, upd_same, true, ?_, ?_⟩
      · rw [v1, v2, v3, hb]
        simp
      · rw [if_pos rfl]
        exact ⟨_, same_new hp _ _ f10, .str wd, atI_nat (by rw [List.getElem?_map, hw]; rfl), q _ (s12.trans (same_new hp))⟩
    split
    · rename_i c
      exact fun p hp => fin _ p hp (by rw [decide_eq_true c, Bool.true_and])
    · rename_i c
      exact fun p hp => fin _ p hp (by rw [decide_eq_false c, Bool.false_and])
/-- the classes with one attribute -/
def wf : List (Str × Str) := [("InvalidText", "given"), ("InvalidNumber", "given"), ("InvalidKind", "given"), ("InvalidParty", "given"), ("InvalidName", "given"), ("InvalidWish", "given"), ("NotABook", "given"), ("InvalidRows", "index"), ("InvalidSeats", "index"), ("InvalidExchanges", "index"), ("InvalidWishes", "index"), ("UnknownName", "given"), ("InUse", "index"), ("NotFull", "given"), ("TooMany", "given"), ("NoRoom", "shown")]
def sp__law_field (mg : Str → Option Value) : Sp := fun vs H Q _ => ∃ (a : Addr) (w : Str), vs = [.ref a, .str w] ∧
  ((∃ (f : Str) (v : V), (w, f) ∈ wf ∧ IsX H a (clsA mg w) (some [(f, v)]) ∧ ∀ H', Same H H' → Q v H') ∨
    (w = "Broken" ∧ ∃ v v2 : V, IsX H a (clsA mg "Broken") (some [("index", v), ("shown", v2)]) ∧ ∀ p H', H p = none → Same H H' → H' p = some (.lst [v, v2]) → Q (.ref p) H'))
theorem xo_of {K : PySem.W.Frag} {H : Hp} {σ : L2.St} {Q : VK} {a C : Addr} {fs : List (Str × V)} {f : Str} {v : V} (h0 : σ[0]? = some (some (.ref a))) (hx : IsX H a C (some fs)) (k : ExK K C) (no : PySem.W.findIn K (.ref C) f = some none) (l : fs.lookup f = some v) (q : Q v H) : tXo K f (tVar 0) σ H Q := ⟨_, h0, a, C, fs, v, rfl, hx, k, no, l, q⟩
theorem ok__law_field (T : Env P K mg c__law_right) : HdW P w K mg base 1 "_law_field" s__law_field ["_law_e", "_law_word_now"] (sp__law_field mg) := by
  obtain ⟨f, fd, F, hm⟩ := T.d__law_field
  refine ⟨⟨f, fd, F, hm, ?_⟩, fun _ _ _ _ _ _ _ us hl => match us, hl with | [_, _], _ => rfl⟩
  refine fun_okW F sc__law_field (fun vs H Q E h => ?_) (fun cdv A outer s H vs Q p hr h => ?_)
  · first | (obtain ⟨rfl, _⟩ := h; rfl) | (obtain ⟨_, rfl, _⟩ := h; rfl) | (obtain ⟨_, _, rfl, _⟩ := h; rfl) | (obtain ⟨_, _, _, rfl, _⟩ := h; rfl) | (obtain ⟨_, _, _, _, rfl, _⟩ := h; rfl) | (obtain ⟨_, _, _, _, _, rfl, _⟩ := h; rfl) | (obtain ⟨_, _, _, _, _, _, rfl, _⟩ := h; rfl) | (obtain ⟨_, _, _, _, _, _, _, rfl, _⟩ := h; rfl) | (obtain ⟨_, _, _, _, _, _, _, _, rfl, _⟩ := h; rfl) | (obtain ⟨_, _, _, _, _, _, _, _, _, rfl, _⟩ := h; rfl) | (obtain ⟨_, _, _, _, _, _, _, _, _, _, rfl, _⟩ := h; rfl) | (obtain ⟨_, _, _, _, _, _, _, _, _, _, _, rfl, _⟩ := h; rfl) | (obtain ⟨_, _, _, _, _, _, _, _, _, _, _, _, rfl, _⟩ := h; rfl) | (obtain ⟨_, _, _, _, _, _, _, _, _, _, _, _, _, rfl, _⟩ := h; rfl) | (obtain ⟨_, _, _, _, _, _, _, _, _, _, _, _, _, _, rfl, _⟩ := h; rfl) | (obtain ⟨_, _, _, _, _, _, _, _, _, _, _, _, _, _, _, rfl, _⟩ := h; rfl) | (obtain ⟨_, _, _, _, _, _, _, _, _, _, _, _, _, _, _, _, rfl, _⟩ := h; rfl) | (obtain ⟨_, _, _, _, _, _, _, _, _, _, _, _, _, _, _, _, _, rfl, _⟩ := h; rfl) | (obtain ⟨_, _, _, _, _, _, _, _, _, _, _, _, _, _, _, _, _, _, rfl, _⟩ := h; rfl)
  · obtain ⟨a, w, rfl, q⟩ := h
    have hu := Nat.lt_of_le_of_lt (Nat.add_le_add_left (by decide : 1 ≤ 64) _) (L2H_units hr)
    refine ⟨_, pss_cons (ps_if (pt_cmpR op_in_lstH (pv 1) (pe_lst (pa_cons pe_str (pa_cons pe_str (pa_cons pe_str (pa_cons pe_str (pa_cons pe_str pa_nil)))))) (by rfl)) (pss_one (ps_ret (pe_xo (pv 0))))
      (pss_nil))
      (pss_cons (ps_if (pt_cmpR op_eq (pv 1) pe_str (nomark _)) (pss_one (ps_ret (pe_lst (pa_cons (pe_xo (pv 0)) (pa_cons (pe_xo (pv 0)) pa_nil)))))
      (pss_nil))
      (pss_cons (ps_if (pt_cmpR op_eq (pv 1) pe_str (nomark _)) (pss_one (ps_ret (pe_xo (pv 0))))
      (pss_nil))
      (pss_one (ps_ret (pe_ifExp (pt_cmpR op_in_lstH (pv 1) (pe_lst (pa_cons pe_str (pa_cons pe_str pa_nil))) (by rfl)) pe_non (pe_xo (pv 0))))))), ?_⟩
    rcases q with ⟨fl, v, hw, hx, q⟩ | ⟨rfl, v, v2, hx, q⟩
    · simp only [wf, List.mem_cons, List.not_mem_nil, or_false, Prod.mk.injEq] at hw
      rcases hw with ⟨rfl, rfl⟩ | ⟨rfl, rfl⟩ | ⟨rfl, rfl⟩ | ⟨rfl, rfl⟩ | ⟨rfl, rfl⟩ | ⟨rfl, rfl⟩ | ⟨rfl, rfl⟩ | ⟨rfl, rfl⟩ | ⟨rfl, rfl⟩ | ⟨rfl, rfl⟩ | ⟨rfl, rfl⟩ | ⟨rfl, rfl⟩ | ⟨rfl, rfl⟩ | ⟨rfl, rfl⟩ | ⟨rfl, rfl⟩ | ⟨rfl, rfl⟩
      · simp? only [L2.tSeq]
        refine fun p hp => ?_
        rw [if_neg (by decide +kernel)]
        rw [if_neg (by decide +kernel)]
        rw [if_neg (by decide +kernel)]
        refine fun p2 hp2 => ?_
        rw [if_neg (by decide +kernel)]
        exact xo_of rfl (hx.same ((same_new hp).trans (same_new hp2))) T.x_InvalidText.k T.x_InvalidText.no rfl (q _ ((same_new hp).trans (same_new hp2)))
      · simp? only [L2.tSeq]
        refine fun p hp => ?_
        rw [if_neg (by decide +kernel)]
        rw [if_neg (by decide +kernel)]
        rw [if_neg (by decide +kernel)]
        refine fun p2 hp2 => ?_
        rw [if_neg (by decide +kernel)]
        exact xo_of rfl (hx.same ((same_new hp).trans (same_new hp2))) T.x_InvalidNumber.k T.x_InvalidNumber.no rfl (q _ ((same_new hp).trans (same_new hp2)))
      · simp? only [L2.tSeq]
        refine fun p hp => ?_
        rw [if_neg (by decide +kernel)]
        rw [if_neg (by decide +kernel)]
        rw [if_neg (by decide +kernel)]
        refine fun p2 hp2 => ?_
        rw [if_neg (by decide +kernel)]
        exact xo_of rfl (hx.same ((same_new hp).trans (same_new hp2))) T.x_InvalidKind.k T.x_InvalidKind.no rfl (q _ ((same_new hp).trans (same_new hp2)))
      · simp? only [L2.tSeq]
        refine fun p hp => ?_
        rw [if_neg (by decide +kernel)]
        rw [if_neg (by decide +kernel)]
        rw [if_neg (by decide +kernel)]
        refine fun p2 hp2 => ?_
        rw [if_neg (by decide +kernel)]
        exact xo_of rfl (hx.same ((same_new hp).trans (same_new hp2))) T.x_InvalidParty.k T.x_InvalidParty.no rfl (q _ ((same_new hp).trans (same_new hp2)))
      · simp? only [L2.tSeq]
        refine fun p hp => ?_
        rw [if_neg (by decide +kernel)]
        rw [if_neg (by decide +kernel)]
        rw [if_neg (by decide +kernel)]
        refine fun p2 hp2 => ?_
        rw [if_neg (by decide +kernel)]
        exact xo_of rfl (hx.same ((same_new hp).trans (same_new hp2))) T.x_InvalidName.k T.x_InvalidName.no rfl (q _ ((same_new hp).trans (same_new hp2)))
      · simp? only [L2.tSeq]
        refine fun p hp => ?_
        rw [if_neg (by decide +kernel)]
        rw [if_neg (by decide +kernel)]
        rw [if_neg (by decide +kernel)]
        refine fun p2 hp2 => ?_
        rw [if_neg (by decide +kernel)]
        exact xo_of rfl (hx.same ((same_new hp).trans (same_new hp2))) T.x_InvalidWish.k T.x_InvalidWish.no rfl (q _ ((same_new hp).trans (same_new hp2)))
      · simp? only [L2.tSeq]
        refine fun p hp => ?_
        rw [if_neg (by decide +kernel)]
        rw [if_neg (by decide +kernel)]
        rw [if_neg (by decide +kernel)]
        refine fun p2 hp2 => ?_
        rw [if_neg (by decide +kernel)]
        exact xo_of rfl (hx.same ((same_new hp).trans (same_new hp2))) T.x_NotABook.k T.x_NotABook.no rfl (q _ ((same_new hp).trans (same_new hp2)))
      · simp? only [L2.tSeq]
        refine fun p hp => ?_
        rw [if_pos (by decide +kernel)]
        exact xo_of rfl (hx.same (same_new hp)) T.x_InvalidRows.k T.x_InvalidRows.no rfl (q _ (same_new hp))
      · simp? only [L2.tSeq]
        refine fun p hp => ?_
        rw [if_pos (by decide +kernel)]
        exact xo_of rfl (hx.same (same_new hp)) T.x_InvalidSeats.k T.x_InvalidSeats.no rfl (q _ (same_new hp))
      · simp? only [L2.tSeq]
        refine fun p hp => ?_
        rw [if_pos (by decide +kernel)]
        exact xo_of rfl (hx.same (same_new hp)) T.x_InvalidExchanges.k T.x_InvalidExchanges.no rfl (q _ (same_new hp))
      · simp? only [L2.tSeq]
        refine fun p hp => ?_
        rw [if_pos (by decide +kernel)]
        exact xo_of rfl (hx.same (same_new hp)) T.x_InvalidWishes.k T.x_InvalidWishes.no rfl (q _ (same_new hp))
      · simp? only [L2.tSeq]
        refine fun p hp => ?_
        rw [if_neg (by decide +kernel)]
        rw [if_neg (by decide +kernel)]
        rw [if_neg (by decide +kernel)]
        refine fun p2 hp2 => ?_
        rw [if_neg (by decide +kernel)]
        exact xo_of rfl (hx.same ((same_new hp).trans (same_new hp2))) T.x_UnknownName.k T.x_UnknownName.no rfl (q _ ((same_new hp).trans (same_new hp2)))
      · simp? only [L2.tSeq]
        refine fun p hp => ?_
        rw [if_pos (by decide +kernel)]
        exact xo_of rfl (hx.same (same_new hp)) T.x_InUse.k T.x_InUse.no rfl (q _ (same_new hp))
      · simp? only [L2.tSeq]
        refine fun p hp => ?_
        rw [if_neg (by decide +kernel)]
        rw [if_neg (by decide +kernel)]
        rw [if_neg (by decide +kernel)]
        refine fun p2 hp2 => ?_
        rw [if_neg (by decide +kernel)]
        exact xo_of rfl (hx.same ((same_new hp).trans (same_new hp2))) T.x_NotFull.k T.x_NotFull.no rfl (q _ ((same_new hp).trans (same_new hp2)))
      · simp? only [L2.tSeq]
        refine fun p hp => ?_
        rw [if_neg (by decide +kernel)]
        rw [if_neg (by decide +kernel)]
        rw [if_neg (by decide +kernel)]
        refine fun p2 hp2 => ?_
        rw [if_neg (by decide +kernel)]
        exact xo_of rfl (hx.same ((same_new hp).trans (same_new hp2))) T.x_TooMany.k T.x_TooMany.no rfl (q _ ((same_new hp).trans (same_new hp2)))
      · simp? only [L2.tSeq]
        refine fun p hp => ?_
        rw [if_neg (by decide +kernel)]
        rw [if_neg (by decide +kernel)]
        exact xo_of rfl (hx.same (same_new hp)) T.x_NoRoom.k T.x_NoRoom.no rfl (q _ (same_new hp))
    · simp? only [L2.tSeq]
      refine fun p hp => ?_
      rw [if_neg (by decide +kernel)]
      have s1 := same_new (o := .lst [.str "InvalidRows", .str "InvalidSeats", .str "InvalidExchanges", .str "InvalidWishes", .str "InUse"]) hp
      refine xo_of rfl (hx.same s1) T.x_Broken.k T.x_Broken.no rfl ?_
      refine xo_of rfl (hx.same s1) T.x_Broken.k T.x_Broken.no2 rfl fun p2 hp2 => ?_
      exact q p2 _ (s1.free hp2) (s1.trans (same_new hp2)) upd_same

open Zig
theorem exm_und (T : Env P K mg c__law_right) {i j : Nat} {c d : Value} (hi : i < 18) (hj : j = 18 ∨ j = 19 ∨ j = 20) (hc : (excV mg)[i]? = some c) (hd : (excD mg)[j]? = some d) (hb : PySem.W.subIn K d (.type "BaseException") = some true) : PySem.W.exmOne K c d = some (und i j) := by
  have one := kit_und T.t_err hc hd
  unfold PySem.W.exmOne
  rw [hb, if_pos (by simp)]
  unfold PySem.W.kitOne at one
  split at one
  · rename_i e
    have e : c = d := by simpa using e
    subst e
    exfalso
    have hd' : (excV mg)[j]? = some c := by
      unfold excD at hd
      rwa [List.getElem?_append_left (by simp [excV, excN, errN]; omega)] at hd
    have hci : (excD mg)[i]? = some c := by
      unfold excD
      rw [List.getElem?_append_left (by simp [excV, excN, errN]; omega)]
      exact hc
    have z1 := kit_und T.t_err hc hci
    have z2 := kit_und T.t_err hd' hci
    rw [z1] at z2
    have z3 := Option.some.inj z2
    have : ∀ i, i < 18 → und i i = true ∧ und 18 i = false ∧ und 19 i = false ∧ und 20 i = false := by decide
    obtain ⟨y1, y2, y3, y4⟩ := this i hi
    rcases hj with rfl | rfl | rfl
    · rw [y1, y2] at z3; cases z3
    · rw [y1, y3] at z3; cases z3
    · rw [y1, y4] at z3; cases z3
  · exact one
theorem exm_own (T : Env P K mg c__law_right) {i : Nat} {w : Str} (hw : errN[i]? = some w) : PySem.W.exmAny K (.ref (clsA mg w)) [.ref (clsA mg "WrongValue"), .ref (clsA mg "WrongName"), .ref (clsA mg "NoAnswer")] = some true := by
  have hi : i < 18 := (List.getElem?_eq_some_iff.mp hw).1
  have hc : (excV mg)[i]? = some (.ref (clsA mg w)) := by
    unfold excV excN
    rw [List.getElem?_map, List.getElem?_append_left hi, hw]
    rfl
  have e1 := exm_und T hi (.inl rfl) hc (d := .ref (clsA mg "WrongValue")) rfl T.x_WrongValue.k.ex
  have e2 := exm_und T hi (.inr (.inl rfl)) hc (d := .ref (clsA mg "WrongName")) rfl T.x_WrongName.k.ex
  have e3 := exm_und T hi (.inr (.inr rfl)) hc (d := .ref (clsA mg "NoAnswer")) rfl T.x_NoAnswer.k.ex
  have one : ∀ i, i < 18 → (und i 18 || (und i 19 || (und i 20 || false))) = true := by decide
  simp only [PySem.W.exmAny, e1, e2, e3]
  rw [one i hi]
/-- what _law_told makes of a call -/
def tTold (mg : Str → Option Value) : (XK → Hp → VK → Prop) → Hp → VK → Prop := fun tl H Q => ∃ (E : XK) (R : VK), tl E H R ∧ (∀ v H', R v H' → ∀ p H2, Same H' H2 → H2 p = some (.lst [.str "told", v]) → Q (.ref p) H2) ∧
  (∀ cls d H', E cls d H' → ∃ (i : Nat) (w f : Str) (v : V) (dd : Addr) (D : PyData), errN[i]? = some w ∧ (w, f) ∈ wf ∧ cls = .ref (clsA mg w) ∧ d = some dd ∧ H' dd = some (.xd [(f, v)]) ∧ Dx H' v D ∧ D.showable = true ∧ D.shown.length ≤ sizeLine ∧ D.depth ≤ 60 ∧
    ∀ p H2, Same H' H2 → H2 p = some (.lst [.str "error", .str w, .str D.shown]) → Q (.ref p) H2)
theorem gives_told {X : Cx} {g c : Addr} {cdg : Value} {q : Str} {k : Nat} (T : Env X.prog X.K X.mg c) (hr : Room (k + 1) X.A) (gd : X.A.guards = some []) (hk : 1 ≤ k) : LamX.GivesTo X N__law_told "_law_told" (defScope s__law_told) g cdg (defBody s__law_told) "_law_act" q (tTold X.mg) := by
  have H_e := ok__law_error (P := X.prog) (w := X.w) (base := X.base) T
  have H_f := ok__law_field (P := X.prog) (w := X.w) (base := X.base) T
  intro f c' s H Q tl act hc h
  obtain ⟨E0', R0, h0, hR, hE⟩ := h
  have hr' : Room k (X.A.deeper (envOfC "_law_told" (defScope s__law_told) s.heap.objs.size g cdg)) := hr.deeper _
  have hrH : ∀ a, L2H.RoomH 1 ((X.A.deeper (envOfC "_law_told" (defScope s__law_told) s.heap.objs.size g cdg)).mark (some (.ref a))) := fun a => ⟨(hr'.mono hk).dp, (hr'.mono hk).un⟩
  refine ⟨_, pss_cons (ps_try_tup (X := (cxOf C8.CX0 X.prog X.w X.K X.mg X.base N__law_told "_law_told" (defScope s__law_told) g cdg X.A X.stack s H C8.E0).nox) (i := 2)
     (tb := fun W D σ H => ∃ Ech : XK, (∀ cls d σ' H', Ech cls d H' → σ'.length = 4 → W cls d σ' H') ∧ σ[0]? = some (some (.ref f)) ∧ H c' = some (LamX.CodeO c' q) ∧ ∃ R : VK, tl Ech H R ∧ ∀ v H1, R v H1 → D.nx (σ.set 1 (some v)) H1)
     rfl rfl sc__law_told.nd rfl rfl ⟨rfl, by decide, .inl T.x_WrongValue.at_⟩ ⟨rfl, by decide, .inl T.x_WrongName.at_⟩ ⟨rfl, by decide, .inl T.x_NoAnswer.at_⟩ L2.takes0 (fun W pn xe tk _ => ?_)
     (fun a oe cls d pn nB => pss_cons (ps_set (i := 3) sc__law_told.nd rfl (.inl rfl) (pe_lend H_e (hrH a) rfl nB (pa_cons (pv 2) pa_nil))) (pss_one (ps_ret (pe_lst (pa_cons pe_str (pa_cons (pv 3) (pa_cons (pe_callB (call_reprX (L2H_units (hrH a)) gd) rfl T.b_repr (by decide +kernel) (pa_cons (pe_lend H_f (hrH a) rfl nB (pa_cons (pv 2) (pa_cons (pv 3) pa_nil))) pa_nil)) pa_nil))))))))
     (pss_one (ps_ret (pe_lst (pa_cons pe_str (pa_cons (pv 1) pa_nil))))), ?_⟩
  · refine ⟨fun pins s' σ H1 D I h' => ?_⟩
    obtain ⟨Ech, hW, h1, h2, R, h3, h4⟩ := h'
    refine (pss_one (ps_set (i := 1) sc__law_told.nd rfl (.inl rfl) (pe_up (act (fun cls d σ H => σ.length = 4 → W cls d σ H) pn xe Ech _ _ (takes_len tk) hW)))).run pins s' σ H1 D I ?_
    exact ⟨R, ⟨h1, h2, h3⟩, h4⟩
  · refine ⟨E0', ?_, rfl, hc, R0, h0, fun v H1 hv => ?_⟩
    · intro cls d σ' H' he hl
      obtain ⟨i, wd, fl, v, dd, D, hw, hwf, rfl, rfl, hdd, hD, sh, sz, dp, q⟩ := hE cls d H' he
      refine ⟨true, exm_own T hw, fun _ a oe na hz hd => ?_, fun z => nomatch z⟩
      match σ', hl with
      | [s0, s1, s2, s3], _ =>
        simp? only [L2.tSeq, sp__law_error, sp__law_field, Z.tLend]
        have ne : dd ≠ a := ne_of_none hdd na
        refine ⟨i, wd, hw, some [(fl, v)], ⟨dd, .pin upd_same hz hd, by rw [upd_ne ne]; exact hdd⟩, fun H1 s1 => ?_⟩
        obtain ⟨e1, t1⟩ := same_lend na s1
        refine ⟨e1, .inl ⟨fl, hwf, v, ⟨dd, .pin upd_same hz hd, by rw [upd_ne ne]; exact t1 _ _ hdd⟩, fun H2 s2 => ?_⟩⟩
        obtain ⟨e2, t2⟩ := same_lend delH_same s2
        exact ⟨e2, v, D, rfl, Dx.same (t1.trans t2) _ _ hD, sh, sz, dp, fun p hp => q p _ ((t1.trans t2).trans (same_new hp)) upd_same⟩
    · simp? only [L2.tSeq]
      exact fun p hp => hR v H1 hv p _ (same_new hp) upd_same
/-- _law_told(lambda: body) -/
theorem pe_told {X : Cx} {mg : Str → Option Value} {c P0 : Addr} {k : Nat} {q : Str} {params : Arguments} {body : Expr} {scope : Scope} {t : XK → TE} {p lpos pos : Pos} (T : Env X.prog X.K X.mg c) (TB : LamX.TabB X.base X.mg c P0) (hr : Room (k + 2) X.A) (gd : X.A.guards = some []) (hcode : X.env.code = .ref c) (L : LamX.LamS X.env.scope scope)
    (hq : X.env.qual ++ "<lambda>" = q) (hbody : ∀ (A : Around) (outer : List PySem.Env) (s : Shared) (H : Hp) (E : XK) (f c' : Addr), Room k (A.deeper (LamX.lamEnv X scope s.heap.objs.size f c')) → PE (LamX.lamCx X A outer s H E scope f c') body (t E)) (hmg : X.mg = mg := by rfl) (hg : Gl X "_law_told" := by rfl)
    (hdef : defaultsOf params X.env = ([], []) := by rfl) (hbind : ∀ (q : Str) (cl : List (Str × Addr)) (pm cv ctv : Value), bindArgs (PySem.W.kla_fn "<lambda>" q params body scope cl pm cv ctv) ⟨[], []⟩ = pure [] := by intros; rfl) :
    PE X (.Call (.Name "_law_told" p) [.Lambda params body scope lpos] [] pos) (LamX.tLam [(P0, q)] (tTold mg) t) := by
  subst hq hmg
  obtain ⟨g, fd, F, hm⟩ := T.d__law_told
  obtain ⟨oc, od, kV, doc, pm, an, cdv, ct, osl, rfl, lk, hcd⟩ := F.ex
  refine LamX.pe_lamcall (k := k) (x := "_law_told") (a := "_law_act") hg hm F.kp lk hcd ?_ sc__law_told rfl (.inl rfl) (gives_told (k := k + 1) T hr gd (Nat.succ_le_succ (Nat.zero_le _))) TB hcode (.head _) (fun p hp _ => by rw [List.mem_singleton.mp hp]) hr L hdef hbind hbody
  exact .all fun us hl => match us, hl with | [_], _ => rfl

open Zig
def kindS (r : Bool) : Str := if r then "rings" else "rows"
theorem kind_ne : ¬ (("rows" : Str) = "rings") := by decide +kernel
theorem kind_eq (r : Bool) : (kindS r = "rings") = (r = true) := by
  cases r
  · simp only [kindS, Bool.false_eq_true, if_false, eq_iff_iff, iff_false]
    exact kind_ne
  · simp only [kindS, if_true]
theorem kind_inj (r s : Bool) : (kindS r = kindS s) = (r = s) := by
  have h1 : ¬ (("rings" : Str) = "rows") := fun e => kind_ne e.symm
  cases r <;> cases s <;> simp [kindS, kind_ne, h1]
theorem rings_eq (r : Bool) : (("rings" : Str) = kindS r) = (r = true) := by
  rw [← kind_eq r]
  exact propext ⟨Eq.symm, Eq.symm⟩
theorem rows_eq (r : Bool) : (("rows" : Str) = kindS r) = (r = false) := by
  have h := kind_inj false r
  rw [show kindS false = "rows" from rfl] at h
  rw [h]
  exact propext ⟨Eq.symm, Eq.symm⟩
/-- a value whose class is known -/
def Known (H : Hp) (x : V) : Prop := ∃ t, tyN H x = some t ∧ t ∈ ["NoneType", "bool", "int", "str", "list", "tuple", "dict"]
def isI : V → Bool
  | .int _ => true
  | _ => false
def inB (l m : Int) : V → Bool
  | .int i => decide (l ≤ i ∧ i ≤ m)
  | _ => false
theorem kit_all : ∀ t ∈ ["NoneType", "bool", "int", "str", "list", "tuple", "dict"], kitB t "int" = some (decide (t = "int" ∨ t = "bool")) ∧ kitB t "bool" = some (decide (t = "bool")) ∧ kitB t "tuple" = some (decide (t = "tuple")) ∧ kitB t "str" = some (decide (t = "str")) := by decide +kernel
theorem tyN_int {H : Hp} {x : V} : (tyN H x = some "int") = (isI x = true) := by
  cases x with
  | ref a =>
    simp only [tyN, isI]
    split <;> simp
  | _ => simp [tyN, isI]
def sp_is_integer : Sp := fun vs H Q _ => ∃ x : V, vs = [x] ∧ Known H x ∧ Q (.bl (isI x)) H
theorem ok_is_integer (T : Env P K mg c__law_right) : Hd P w K mg base CX0 1 "is_integer" s_is_integer ["value"] sp_is_integer := by
  obtain ⟨f, fd, F, hm⟩ := T.d_is_integer
  refine ⟨⟨f, fd, F, hm, ?_⟩, fun _ _ _ _ _ _ _ us hl => match us, hl with | [_], _ => rfl⟩
  refine F.ok sc_is_integer (fun vs H Q E h => ?_) (fun cdv A outer s H vs Q E hr h => ?_)
  · first | (obtain ⟨rfl, _⟩ := h; rfl) | (obtain ⟨_, rfl, _⟩ := h; rfl) | (obtain ⟨_, _, rfl, _⟩ := h; rfl) | (obtain ⟨_, _, _, rfl, _⟩ := h; rfl) | (obtain ⟨_, _, _, _, rfl, _⟩ := h; rfl) | (obtain ⟨_, _, _, _, _, rfl, _⟩ := h; rfl) | (obtain ⟨_, _, _, _, _, _, rfl, _⟩ := h; rfl) | (obtain ⟨_, _, _, _, _, _, _, rfl, _⟩ := h; rfl) | (obtain ⟨_, _, _, _, _, _, _, _, rfl, _⟩ := h; rfl) | (obtain ⟨_, _, _, _, _, _, _, _, _, rfl, _⟩ := h; rfl) | (obtain ⟨_, _, _, _, _, _, _, _, _, _, rfl, _⟩ := h; rfl) | (obtain ⟨_, _, _, _, _, _, _, _, _, _, _, rfl, _⟩ := h; rfl) | (obtain ⟨_, _, _, _, _, _, _, _, _, _, _, _, rfl, _⟩ := h; rfl) | (obtain ⟨_, _, _, _, _, _, _, _, _, _, _, _, _, rfl, _⟩ := h; rfl) | (obtain ⟨_, _, _, _, _, _, _, _, _, _, _, _, _, _, rfl, _⟩ := h; rfl) | (obtain ⟨_, _, _, _, _, _, _, _, _, _, _, _, _, _, _, rfl, _⟩ := h; rfl) | (obtain ⟨_, _, _, _, _, _, _, _, _, _, _, _, _, _, _, _, rfl, _⟩ := h; rfl) | (obtain ⟨_, _, _, _, _, _, _, _, _, _, _, _, _, _, _, _, _, rfl, _⟩ := h; rfl) | (obtain ⟨_, _, _, _, _, _, _, _, _, _, _, _, _, _, _, _, _, _, rfl, _⟩ := h; rfl)
  · obtain ⟨x, rfl, ⟨t, ht, hm⟩, q⟩ := h
    have hu := hu_of hr
    refine ⟨_, pss_one (ps_ret (pe_and (pe_callB call_isN rfl T.b_isinstance (by decide +kernel) (pa_cons (pv 0) (pa_cons (pe_bltn (v := .ty "int") (by rfl) T.b_int (by decide +kernel) rfl) pa_nil))) (pe_one (pe_not (pe_callB call_isN rfl T.b_isinstance (by decide +kernel) (pa_cons (pv 0) (pa_cons (pe_bltn (v := .ty "bool") (by rfl) T.b_bool (by decide +kernel) rfl) pa_nil))))))), ?_⟩
    have h := tyN_int (H := H) (x := x)
    rw [ht] at h
    simp only [L2.start, List.map_cons, List.map_nil, List.length_cons, List.length_nil, Nat.zero_add, Nat.reduceAdd, Nat.reduceSub, List.replicate_succ, List.replicate_zero, List.cons_append, List.nil_append, List.append_nil, L2.tNext, L2.tAsg, L2.gName, L2.tRet, L2.tRetN, L2.tIfS, L2.tVar, L2.tC, L2.tOp, L2.tUn, L2.rI, L2.rI0, L2.rU, L2.rEq, L2.rNe, L2.tTest, L2.tB, L2.tIf, Z.tIfCI, Z.tIfCS, L2.tChain, L2.tCons, L2.tNil, L2.tCall, L2.tDrop, L2.tAndV, L2.tOrV, L2.tNotV, L2.tAnd, L2.tOr, L2.tNot, L2.tCB, Z.sc_ii, Z.sc_ss, Z.sc_bb, Z.sc_is, Z.sc_si, Z.sc_ni, Z.sc_in, Z.sc_ns, Z.sc_sn, Z.sc_nn, L2.CDiv, L2.CPow, L2.CMul, List.getElem?_cons_zero, List.getElem?_cons_succ, Z.set_z, Z.set_s, Option.some.injEq, L2.V.int.injEq, L2.V.bl.injEq, L2.V.str.injEq, L2.V.ref.injEq, L2.V.ty.injEq, List.cons.injEq, exists_eq_left', exists_and_left, exists_eq_left, exists_eq_right, exists_eq_right', exists_eq', exists_eq, true_and, and_true, and_assoc, decide_eq_true_eq, Int.reduceLT, and_self, Z.rIxH, Z.rIxU, Z.at30, Z.at31, Z.at32, Z.ix3_0, Z.ix3_1, Z.ix3_2, L2.rSetL, L2.gSub, Z.gTupH, L2.gCons, L2.gNil, L2.HO.lst.injEq, L2.HO.tup.injEq, L2.upd_same, L2.upd_upd, L2.tSl, L2.tNoPart, L2.tPart, L2.rSlL, L2.rCat, List.length_append, or_false, false_or, or_true, true_or, reduceCtorEq, false_and, and_false, exists_false, Int.reduceNeg, Int.reducePow, Int.reduceToNat, Int.reduceAbs, Int.reduceLE, Int.reduceMul, Int.reduceAdd, Int.reduceSub, Nat.reducePow, Nat.reduceLT, Nat.reduceLeDiff, Int.natAbs_natCast, if_true, if_false, Z.rIsN, Z.kit_ii, Z.kit_bi, Z.kit_si, Z.kit_ni, Z.kit_ib, Z.kit_bb, Z.kit_sb, Z.kit_nb, Z.kit_is, Z.kit_bs, Z.kit_ss, Z.kit_ns, Bool.not_true, Bool.not_false, L2.tTup, L2.tLst, L2.wipe, L2.tYes, Z.Turn1, L2.tNever, sizeLine_eq, Z.rInU, Z.rInH, L2.flatV, List.any_cons, List.any_nil, List.all_cons, List.all_nil, Bool.and_true, Bool.true_and, Bool.or_false, Bool.false_or, Z.tBML, L2.rAppend, Z.map_int_inj, Z.map_bl_inj, Z.rTupL, Z.rLstL, Z.rLstT, Z.rSortI, Z.rAnyH, Z.rAllH, Z.rSumH, Z.rLenL, Z.rLenU, List.length_map, L2.tPar, StX.tStar, L2.tDNewT, L2.tDIn, L2.sDPut, L2.tDGet, Z.tCallK0, List.getD_cons_zero, List.getD_cons_succ, L2.tPar3, L2.rLenT]
    refine ⟨t, ht, _, (kit_all t hm).1, ?_⟩
    by_cases c1 : t = "int"
    · subst c1
      rw [decide_eq_true (.inl rfl), if_pos rfl]
      refine ⟨_, ht, _, (kit_all _ hm).2.1, ?_⟩
      rw [h.mp rfl] at q
      exact q
    · have e : isI x = false := by
        cases hx : isI x
        · rfl
        · exact absurd (Option.some.inj (h.mpr hx)) c1
      rw [e] at q
      by_cases c2 : t = "bool"
      · subst c2
        rw [decide_eq_true (.inr rfl), if_pos rfl]
        exact ⟨_, ht, _, (kit_all _ hm).2.1, q⟩
      · rw [decide_eq_false (by rintro (z | z) <;> contradiction), if_neg Bool.false_ne_true]
        exact q
theorem known_int {H : Hp} (i : Int) : Known H (.int i) := ⟨"int", rfl, by decide⟩
theorem known_non {H : Hp} : Known H .non := ⟨"NoneType", rfl, by decide⟩
theorem known_str {H : Hp} (z : Str) : Known H (.str z) := ⟨"str", rfl, by decide⟩
theorem known_bl {H : Hp} (b : Bool) : Known H (.bl b) := ⟨"bool", rfl, by decide⟩
theorem known_tup {H : Hp} {a : Addr} {xs : List V} (h : H a = some (.tup xs)) : Known H (.ref a) := ⟨"tuple", tyN_tup h, by decide⟩
theorem known_lst {H : Hp} {a : Addr} {xs : List V} (h : H a = some (.lst xs)) : Known H (.ref a) := ⟨"list", tyN_lst h, by decide⟩
def sp_is_between : Sp := fun vs H Q _ => ∃ (x : V) (l m : Int), vs = [x, .int l, .int m] ∧ Known H x ∧ Q (.bl (inB l m x)) H
theorem ok_is_between (T : Env P K mg c__law_right) : Hd P w K mg base CX0 2 "is_between" s_is_between ["value", "least", "most"] sp_is_between := by
  have H_is_integer := ok_is_integer (P := P) (w := w) (base := base) T
  obtain ⟨f, fd, F, hm⟩ := T.d_is_between
  refine ⟨⟨f, fd, F, hm, ?_⟩, fun _ _ _ _ _ _ _ us hl => match us, hl with | [_, _, _], _ => rfl⟩
  refine F.ok sc_is_between (fun vs H Q E h => ?_) (fun cdv A outer s H vs Q E hr h => ?_)
  · first | (obtain ⟨rfl, _⟩ := h; rfl) | (obtain ⟨_, rfl, _⟩ := h; rfl) | (obtain ⟨_, _, rfl, _⟩ := h; rfl) | (obtain ⟨_, _, _, rfl, _⟩ := h; rfl) | (obtain ⟨_, _, _, _, rfl, _⟩ := h; rfl) | (obtain ⟨_, _, _, _, _, rfl, _⟩ := h; rfl) | (obtain ⟨_, _, _, _, _, _, rfl, _⟩ := h; rfl) | (obtain ⟨_, _, _, _, _, _, _, rfl, _⟩ := h; rfl) | (obtain ⟨_, _, _, _, _, _, _, _, rfl, _⟩ := h; rfl) | (obtain ⟨_, _, _, _, _, _, _, _, _, rfl, _⟩ := h; rfl) | (obtain ⟨_, _, _, _, _, _, _, _, _, _, rfl, _⟩ := h; rfl) | (obtain ⟨_, _, _, _, _, _, _, _, _, _, _, rfl, _⟩ := h; rfl) | (obtain ⟨_, _, _, _, _, _, _, _, _, _, _, _, rfl, _⟩ := h; rfl) | (obtain ⟨_, _, _, _, _, _, _, _, _, _, _, _, _, rfl, _⟩ := h; rfl) | (obtain ⟨_, _, _, _, _, _, _, _, _, _, _, _, _, _, rfl, _⟩ := h; rfl) | (obtain ⟨_, _, _, _, _, _, _, _, _, _, _, _, _, _, _, rfl, _⟩ := h; rfl) | (obtain ⟨_, _, _, _, _, _, _, _, _, _, _, _, _, _, _, _, rfl, _⟩ := h; rfl) | (obtain ⟨_, _, _, _, _, _, _, _, _, _, _, _, _, _, _, _, _, rfl, _⟩ := h; rfl) | (obtain ⟨_, _, _, _, _, _, _, _, _, _, _, _, _, _, _, _, _, _, rfl, _⟩ := h; rfl)
  · obtain ⟨x, l, m, rfl, hx, q⟩ := h
    have hu := hu_of hr
    refine ⟨_, pss_one (ps_ret (pe_and (pe_hd H_is_integer (hr.mono (by decide)) rfl pass0 (pa_cons (pv 0) pa_nil)) (pe_one (pe_chain op_le op_le (pv 1) (pv 0) (pv 2))))), ?_⟩
    simp? only [sp_is_integer]
    refine ⟨hx, ?_⟩
    cases x with
    | int i =>
      simp only [isI, if_true, L2.V.int.injEq, exists_eq_left']
      unfold inB at q
      by_cases c : l ≤ i
      · simp only [c, true_and, decide_true, if_true] at q ⊢
        exact q
      · simp only [c, false_and, decide_false, Bool.false_eq_true, if_false] at q ⊢
        exact q
    | _ =>
      simp only [isI, Bool.false_eq_true, if_false]
      exact q
def sizeV (r : Bool) (m : Int) : V → Bool
  | .int n => if r then (decide (3 ≤ n ∧ n ≤ m) && decide (n % 2 = 1)) else (decide (2 ≤ n ∧ n ≤ m) && decide (n % 2 = 0))
  | _ => false
def sp_is_size : Sp := fun vs H Q _ => ∃ (r : Bool) (x : V) (m : Int), vs = [.str (kindS r), x, .int m] ∧ Known H x ∧ Q (.bl (sizeV r m x)) H
theorem ok_is_size (T : Env P K mg c__law_right) : Hd P w K mg base CX0 3 "is_size" s_is_size ["kind", "value", "most"] sp_is_size := by
  have H_is_between := ok_is_between (P := P) (w := w) (base := base) T
  obtain ⟨f, fd, F, hm⟩ := T.d_is_size
  refine ⟨⟨f, fd, F, hm, ?_⟩, fun _ _ _ _ _ _ _ us hl => match us, hl with | [_, _, _], _ => rfl⟩
  refine F.ok sc_is_size (fun vs H Q E h => ?_) (fun cdv A outer s H vs Q E hr h => ?_)
  · first | (obtain ⟨rfl, _⟩ := h; rfl) | (obtain ⟨_, rfl, _⟩ := h; rfl) | (obtain ⟨_, _, rfl, _⟩ := h; rfl) | (obtain ⟨_, _, _, rfl, _⟩ := h; rfl) | (obtain ⟨_, _, _, _, rfl, _⟩ := h; rfl) | (obtain ⟨_, _, _, _, _, rfl, _⟩ := h; rfl) | (obtain ⟨_, _, _, _, _, _, rfl, _⟩ := h; rfl) | (obtain ⟨_, _, _, _, _, _, _, rfl, _⟩ := h; rfl) | (obtain ⟨_, _, _, _, _, _, _, _, rfl, _⟩ := h; rfl) | (obtain ⟨_, _, _, _, _, _, _, _, _, rfl, _⟩ := h; rfl) | (obtain ⟨_, _, _, _, _, _, _, _, _, _, rfl, _⟩ := h; rfl) | (obtain ⟨_, _, _, _, _, _, _, _, _, _, _, rfl, _⟩ := h; rfl) | (obtain ⟨_, _, _, _, _, _, _, _, _, _, _, _, rfl, _⟩ := h; rfl) | (obtain ⟨_, _, _, _, _, _, _, _, _, _, _, _, _, rfl, _⟩ := h; rfl) | (obtain ⟨_, _, _, _, _, _, _, _, _, _, _, _, _, _, rfl, _⟩ := h; rfl) | (obtain ⟨_, _, _, _, _, _, _, _, _, _, _, _, _, _, _, rfl, _⟩ := h; rfl) | (obtain ⟨_, _, _, _, _, _, _, _, _, _, _, _, _, _, _, _, rfl, _⟩ := h; rfl) | (obtain ⟨_, _, _, _, _, _, _, _, _, _, _, _, _, _, _, _, _, rfl, _⟩ := h; rfl) | (obtain ⟨_, _, _, _, _, _, _, _, _, _, _, _, _, _, _, _, _, _, rfl, _⟩ := h; rfl)
  · obtain ⟨r, x, m, rfl, hx, q⟩ := h
    have hu := hu_of hr
    refine ⟨_, pss_cons (ps_if (pt_cmpR op_eq (pv 0) (pe_glob (v := .str "rings") rfl T.c_RINGS.choose_spec ⟨_, rfl⟩) (nomark _)) (pss_one (ps_ret (pe_and (pe_hd H_is_between (hr.mono (by decide)) rfl pass0 (pa_cons (pv 1) (pa_cons pe_int (pa_cons (pv 2) pa_nil)))) (pe_one (pe_cmpR op_eq (pe_op op_mod (pv 1) pe_int) pe_int (nomark _))))))
      (pss_nil))
      (pss_one (ps_ret (pe_and (pe_hd H_is_between (hr.mono (by decide)) rfl pass0 (pa_cons (pv 1) (pa_cons pe_int (pa_cons (pv 2) pa_nil)))) (pe_one (pe_cmpR op_eq (pe_op op_mod (pv 1) pe_int) pe_int (nomark _)))))), ?_⟩
    simp? only [L2.tSeq, sp_is_between, kind_eq]
    unfold sizeV at q
    cases x with
    | int i =>
      simp only [inB, L2.V.int.injEq, exists_eq_left'] at q ⊢
      cases r
      · simp only [Bool.false_eq_true, if_false] at q ⊢
        refine ⟨hx, ?_⟩
        split
        · simp_all
        · simp_all
      · simp only [if_true] at q ⊢
        refine ⟨hx, ?_⟩
        split
        · simp_all
        · simp_all
    | _ =>
      simp only [inB, Bool.false_eq_true, if_false] at q ⊢
      split <;> exact ⟨hx, q⟩
def sp_evenings_for : Sp := fun vs H Q _ => ∃ (r : Bool) (n : Int), vs = [.str (kindS r), .int n] ∧ Q (.int (nights r n)) H
theorem ok_evenings_for (T : Env P K mg c__law_right) : Hd P w K mg base CX0 1 "evenings_for" s_evenings_for ["kind", "many"] sp_evenings_for := by
  obtain ⟨f, fd, F, hm⟩ := T.d_evenings_for
  refine ⟨⟨f, fd, F, hm, ?_⟩, fun _ _ _ _ _ _ _ us hl => match us, hl with | [_, _], _ => rfl⟩
  refine F.ok sc_evenings_for (fun vs H Q E h => ?_) (fun cdv A outer s H vs Q E hr h => ?_)
  · first | (obtain ⟨rfl, _⟩ := h; rfl) | (obtain ⟨_, rfl, _⟩ := h; rfl) | (obtain ⟨_, _, rfl, _⟩ := h; rfl) | (obtain ⟨_, _, _, rfl, _⟩ := h; rfl) | (obtain ⟨_, _, _, _, rfl, _⟩ := h; rfl) | (obtain ⟨_, _, _, _, _, rfl, _⟩ := h; rfl) | (obtain ⟨_, _, _, _, _, _, rfl, _⟩ := h; rfl) | (obtain ⟨_, _, _, _, _, _, _, rfl, _⟩ := h; rfl) | (obtain ⟨_, _, _, _, _, _, _, _, rfl, _⟩ := h; rfl) | (obtain ⟨_, _, _, _, _, _, _, _, _, rfl, _⟩ := h; rfl) | (obtain ⟨_, _, _, _, _, _, _, _, _, _, rfl, _⟩ := h; rfl) | (obtain ⟨_, _, _, _, _, _, _, _, _, _, _, rfl, _⟩ := h; rfl) | (obtain ⟨_, _, _, _, _, _, _, _, _, _, _, _, rfl, _⟩ := h; rfl) | (obtain ⟨_, _, _, _, _, _, _, _, _, _, _, _, _, rfl, _⟩ := h; rfl) | (obtain ⟨_, _, _, _, _, _, _, _, _, _, _, _, _, _, rfl, _⟩ := h; rfl) | (obtain ⟨_, _, _, _, _, _, _, _, _, _, _, _, _, _, _, rfl, _⟩ := h; rfl) | (obtain ⟨_, _, _, _, _, _, _, _, _, _, _, _, _, _, _, _, rfl, _⟩ := h; rfl) | (obtain ⟨_, _, _, _, _, _, _, _, _, _, _, _, _, _, _, _, _, rfl, _⟩ := h; rfl) | (obtain ⟨_, _, _, _, _, _, _, _, _, _, _, _, _, _, _, _, _, _, rfl, _⟩ := h; rfl)
  · obtain ⟨r, n, rfl, q⟩ := h
    have hu := hu_of hr
    refine ⟨_, pss_one (ps_ret (pe_ifExp (pt_cmpR op_eq (pv 0) (pe_glob (v := .str "rings") rfl T.c_RINGS.choose_spec ⟨_, rfl⟩) (nomark _)) (pe_op op_fdiv (pe_op op_sub (pv 1) pe_int) pe_int) (pe_op op_fdiv (pv 1) pe_int))), ?_⟩
    simp? only [L2.tSeq, kind_eq]
    unfold nights at q
    split <;> simp_all
/-- the kind that a value is -/
def KindIs (r : Bool) (x : V) : Prop := x = .str (kindS r)
theorem tyN_str {H : Hp} {x : V} (h : tyN H x = some "str") : ∃ z, x = .str z := by
  cases x with
  | str z => exact ⟨z, rfl⟩
  | ref a =>
    simp only [tyN] at h
    split at h <;> simp at h
  | _ => simp [tyN] at h
def sp_check_kind (mg : Str → Option Value) : Sp := fun vs H Q E => ∃ x : V, vs = [x] ∧ Known H x ∧ ((∃ r, KindIs r x) → ∀ H', Same H H' → Q .non H') ∧ ((∀ r, ¬ KindIs r x) → Rz mg E H "InvalidKind" "given" x)
theorem ok_check_kind (T : Env P K mg c__law_right) : Hd P w K mg base (L2.CX P w) 3 "check_kind" s_check_kind ["kind"] (sp_check_kind mg) := by
  obtain ⟨f, fd, F, hm⟩ := T.d_check_kind
  refine ⟨⟨f, fd, F, hm, ?_⟩, fun _ _ _ _ _ _ _ us hl => match us, hl with | [_], _ => rfl⟩
  refine F.okX sc_check_kind (fun vs H Q E h => ?_) (fun cdv A outer s H vs Q E hr h => ?_)
  · first | (obtain ⟨rfl, _⟩ := h; rfl) | (obtain ⟨_, rfl, _⟩ := h; rfl) | (obtain ⟨_, _, rfl, _⟩ := h; rfl) | (obtain ⟨_, _, _, rfl, _⟩ := h; rfl) | (obtain ⟨_, _, _, _, rfl, _⟩ := h; rfl) | (obtain ⟨_, _, _, _, _, rfl, _⟩ := h; rfl) | (obtain ⟨_, _, _, _, _, _, rfl, _⟩ := h; rfl) | (obtain ⟨_, _, _, _, _, _, _, rfl, _⟩ := h; rfl) | (obtain ⟨_, _, _, _, _, _, _, _, rfl, _⟩ := h; rfl) | (obtain ⟨_, _, _, _, _, _, _, _, _, rfl, _⟩ := h; rfl) | (obtain ⟨_, _, _, _, _, _, _, _, _, _, rfl, _⟩ := h; rfl) | (obtain ⟨_, _, _, _, _, _, _, _, _, _, _, rfl, _⟩ := h; rfl) | (obtain ⟨_, _, _, _, _, _, _, _, _, _, _, _, rfl, _⟩ := h; rfl) | (obtain ⟨_, _, _, _, _, _, _, _, _, _, _, _, _, rfl, _⟩ := h; rfl) | (obtain ⟨_, _, _, _, _, _, _, _, _, _, _, _, _, _, rfl, _⟩ := h; rfl) | (obtain ⟨_, _, _, _, _, _, _, _, _, _, _, _, _, _, _, rfl, _⟩ := h; rfl) | (obtain ⟨_, _, _, _, _, _, _, _, _, _, _, _, _, _, _, _, rfl, _⟩ := h; rfl) | (obtain ⟨_, _, _, _, _, _, _, _, _, _, _, _, _, _, _, _, _, rfl, _⟩ := h; rfl) | (obtain ⟨_, _, _, _, _, _, _, _, _, _, _, _, _, _, _, _, _, _, rfl, _⟩ := h; rfl)
  · obtain ⟨x, rfl, ⟨t, ht, hm⟩, q, z⟩ := h
    have hu := hu_of hr
    refine ⟨_, pss_one (ps_if (PW.pt (pw_or (pt_not (pt_val (pe_callB call_isN rfl T.b_isinstance (by decide +kernel) (pa_cons (pv 0) (pa_cons (pe_bltn (v := .ty "str") (by rfl) T.b_str (by decide +kernel) rfl) pa_nil))))) (pw_or1 (pt_cmpR op_notIn_tupH (pv 0) (pe_tup (pa_cons (pe_glob (v := .str "rings") rfl T.c_RINGS.choose_spec ⟨_, rfl⟩) (pa_cons (pe_glob (v := .str "rows") rfl T.c_ROWS.choose_spec ⟨_, rfl⟩) pa_nil))) (by rfl))))) (pss_one (ps_raise rfl (takes_of rfl rfl rfl rfl) (pmk_x1 T.x_InvalidKind (hr.mono (by decide)) (pa_cons (pv 0) pa_nil))))
      (pss_nil)), ?_⟩
    simp only [L2.start, List.map_cons, List.map_nil, List.length_cons, List.length_nil, Nat.zero_add, Nat.reduceAdd, Nat.reduceSub, List.replicate_succ, List.replicate_zero, List.cons_append, List.nil_append, List.append_nil, L2.tNext, L2.tAsg, L2.gName, L2.tRet, L2.tRetN, L2.tIfS, L2.tVar, L2.tC, L2.tOp, L2.tUn, L2.rI, L2.rI0, L2.rU, L2.rEq, L2.rNe, L2.tTest, L2.tB, L2.tIf, Z.tIfCI, Z.tIfCS, L2.tChain, L2.tCons, L2.tNil, L2.tCall, L2.tDrop, L2.tAndV, L2.tOrV, L2.tNotV, L2.tAnd, L2.tOr, L2.tNot, L2.tCB, Z.sc_ii, Z.sc_ss, Z.sc_bb, Z.sc_is, Z.sc_si, Z.sc_ni, Z.sc_in, Z.sc_ns, Z.sc_sn, Z.sc_nn, L2.CDiv, L2.CPow, L2.CMul, List.getElem?_cons_zero, List.getElem?_cons_succ, Z.set_z, Z.set_s, Option.some.injEq, L2.V.int.injEq, L2.V.bl.injEq, L2.V.str.injEq, L2.V.ref.injEq, L2.V.ty.injEq, List.cons.injEq, exists_eq_left', exists_and_left, exists_eq_left, exists_eq_right, exists_eq_right', exists_eq', exists_eq, true_and, and_true, and_assoc, decide_eq_true_eq, Int.reduceLT, and_self, Z.rIxH, Z.rIxU, Z.at30, Z.at31, Z.at32, Z.ix3_0, Z.ix3_1, Z.ix3_2, L2.rSetL, L2.gSub, Z.gTupH, L2.gCons, L2.gNil, L2.HO.lst.injEq, L2.HO.tup.injEq, L2.upd_same, L2.upd_upd, L2.tSl, L2.tNoPart, L2.tPart, L2.rSlL, L2.rCat, List.length_append, or_false, false_or, or_true, true_or, reduceCtorEq, false_and, and_false, exists_false, Int.reduceNeg, Int.reducePow, Int.reduceToNat, Int.reduceAbs, Int.reduceLE, Int.reduceMul, Int.reduceAdd, Int.reduceSub, Nat.reducePow, Nat.reduceLT, Nat.reduceLeDiff, Int.natAbs_natCast, if_true, if_false, Z.rIsN, Z.kit_ii, Z.kit_bi, Z.kit_si, Z.kit_ni, Z.kit_ib, Z.kit_bb, Z.kit_sb, Z.kit_nb, Z.kit_is, Z.kit_bs, Z.kit_ss, Z.kit_ns, Bool.not_true, Bool.not_false, L2.tTup, L2.tLst, L2.wipe, L2.tYes, Z.Turn1, L2.tNever, sizeLine_eq, Z.rInU, Z.rInH, L2.flatV, List.any_cons, List.any_nil, List.all_cons, List.all_nil, Bool.and_true, Bool.true_and, Bool.or_false, Bool.false_or, Z.tBML, L2.rAppend, Z.map_int_inj, Z.map_bl_inj, Z.rTupL, Z.rLstL, Z.rLstT, Z.rSortI, Z.rAnyH, Z.rAllH, Z.rSumH, Z.rLenL, Z.rLenU, List.length_map, L2.tPar, StX.tStar, L2.tDNewT, L2.tDIn, L2.sDPut, L2.tDGet, Z.tCallK0, List.getD_cons_zero, List.getD_cons_succ, L2.tPar3, L2.rLenT, Z.tMk]
    refine ⟨t, ht, _, (kit_all t hm).2.2.2, ?_⟩
    by_cases c : t = "str"
    · subst c
      obtain ⟨w0, rfl⟩ := tyN_str ht
      rw [decide_eq_true rfl, Bool.not_true, if_neg Bool.false_ne_true]
      intro p hp
      refine ⟨rfl, ?_⟩
      have e : L2.inV (.str w0) [.str "rings", .str "rows"] = decide (∃ r, w0 = kindS r) := by
        rw [Bool.eq_iff_iff]
        simp only [L2.inV, L2.eqV, List.any_cons, List.any_nil, Bool.or_false, Bool.or_eq_true, beq_iff_eq, decide_eq_true_eq]
        constructor
        · rintro (h | h)
          · exact ⟨true, by simp [kindS, h]⟩
          · exact ⟨false, by simp [kindS, h]⟩
        · rintro ⟨r, rfl⟩
          cases r <;> simp [kindS]
      rw [e]
      by_cases c1 : ∃ r, w0 = kindS r
      · rw [decide_eq_true c1]
        obtain ⟨r, rfl⟩ := c1
        exact q ⟨r, rfl⟩ _ (same_new hp)
      · rw [decide_eq_false c1]
        exact fun d hd => ((z fun r e => c1 ⟨r, V.str.inj e⟩).after (same_new hp)).to hd
    · rw [decide_eq_false c]
      refine fun d hd => (z fun r e => c ?_).to hd
      rw [e] at ht
      exact (Option.some.inj ht).symm
/-- what a number of people is to be -/
def most : Int := 1000000000000000000000000000000
def isSize (r : Bool) (n m : Int) : Bool := if r then (decide (3 ≤ n ∧ n ≤ m) && decide (n % 2 = 1)) else (decide (2 ≤ n ∧ n ≤ m) && decide (n % 2 = 0))
/-- b, or X(v) -/
def Ask (mg : Str → Option Value) (E : XK) (H : Hp) (b : Bool) (v : V) (k : Prop) : Prop := (b = false → Rz mg E H "InvalidNumber" "given" v) ∧ (b = true → k)
theorem Ask.if {E : XK} {H : Hp} {b : Bool} {v : V} {k : Prop} (q : Ask mg E H b v k) : if (!b) = true then (∀ d, H d = none → E (.ref (clsA mg "InvalidNumber")) (some d) (upd H d (.xd [("given", v)]))) else k := by
  cases b
  · exact fun d hd => (q.1 rfl).to hd
  · exact q.2 rfl
theorem Ask.imp {E : XK} {H H' : Hp} {b : Bool} {v : V} {k k' : Prop} (q : Ask mg E H b v k) (s : Same H H') (h : b = true → k → k') : Ask mg E H' b v k' := ⟨fun e => (q.1 e).after s, fun e => h e (q.2 e)⟩
theorem Known.same {H H' : Hp} {x : V} (k : Known H x) (s : Same H H') : Known H' x := by
  obtain ⟨t, h, m⟩ := k
  refine ⟨t, ?_, m⟩
  cases x with
  | ref a =>
    simp only [tyN] at h ⊢
    cases e : H a with
    | none => rw [e] at h; simp at h
    | some o =>
      rw [s a o e]
      rw [e] at h
      exact h
  | _ => exact h
def sp_check_size (mg : Str → Option Value) : Sp := fun vs H Q E => ∃ (r : Bool) (x : V), vs = [.str (kindS r), x] ∧ Known H x ∧ Ask mg E H (sizeV r most x) x (Q .non H)
theorem ok_check_size (T : Env P K mg c__law_right) : Hd P w K mg base (L2.CX P w) 4 "check_size" s_check_size ["kind", "n"] (sp_check_size mg) := by
  have H_is_size := ok_is_size (P := P) (w := w) (base := base) T
  obtain ⟨f, fd, F, hm⟩ := T.d_check_size
  refine ⟨⟨f, fd, F, hm, ?_⟩, fun _ _ _ _ _ _ _ us hl => match us, hl with | [_, _], _ => rfl⟩
  refine F.okX sc_check_size (fun vs H Q E h => ?_) (fun cdv A outer s H vs Q E hr h => ?_)
  · first | (obtain ⟨rfl, _⟩ := h; rfl) | (obtain ⟨_, rfl, _⟩ := h; rfl) | (obtain ⟨_, _, rfl, _⟩ := h; rfl) | (obtain ⟨_, _, _, rfl, _⟩ := h; rfl) | (obtain ⟨_, _, _, _, rfl, _⟩ := h; rfl) | (obtain ⟨_, _, _, _, _, rfl, _⟩ := h; rfl) | (obtain ⟨_, _, _, _, _, _, rfl, _⟩ := h; rfl) | (obtain ⟨_, _, _, _, _, _, _, rfl, _⟩ := h; rfl) | (obtain ⟨_, _, _, _, _, _, _, _, rfl, _⟩ := h; rfl) | (obtain ⟨_, _, _, _, _, _, _, _, _, rfl, _⟩ := h; rfl) | (obtain ⟨_, _, _, _, _, _, _, _, _, _, rfl, _⟩ := h; rfl) | (obtain ⟨_, _, _, _, _, _, _, _, _, _, _, rfl, _⟩ := h; rfl) | (obtain ⟨_, _, _, _, _, _, _, _, _, _, _, _, rfl, _⟩ := h; rfl) | (obtain ⟨_, _, _, _, _, _, _, _, _, _, _, _, _, rfl, _⟩ := h; rfl) | (obtain ⟨_, _, _, _, _, _, _, _, _, _, _, _, _, _, rfl, _⟩ := h; rfl) | (obtain ⟨_, _, _, _, _, _, _, _, _, _, _, _, _, _, _, rfl, _⟩ := h; rfl) | (obtain ⟨_, _, _, _, _, _, _, _, _, _, _, _, _, _, _, _, rfl, _⟩ := h; rfl) | (obtain ⟨_, _, _, _, _, _, _, _, _, _, _, _, _, _, _, _, _, rfl, _⟩ := h; rfl) | (obtain ⟨_, _, _, _, _, _, _, _, _, _, _, _, _, _, _, _, _, _, rfl, _⟩ := h; rfl)
  · obtain ⟨r, x, rfl, hx, q⟩ := h
    have hu := hu_of hr
    refine ⟨_, pss_one (ps_if (pt_not (pt_val (pe_hd H_is_size (hr.mono (by decide)) rfl pass0 (pa_cons (pv 0) (pa_cons (pv 1) (pa_cons (pe_glob (v := .int 1000000000000000000000000000000) rfl T.c_MOST_ZIGZAG.choose_spec ⟨_, rfl⟩) pa_nil)))))) (pss_one (ps_raise rfl (takes_of rfl rfl rfl rfl) (pmk_x1 T.x_InvalidNumber (hr.mono (by decide)) (pa_cons (pv 1) pa_nil))))
      (pss_nil)), ?_⟩
    simp? only [L2.tSeq, sp_is_size, kind_eq, kind_inj, Z.tMk]
    exact ⟨hx, q.if⟩
def sp_round_size : Sp := fun vs H Q _ => ∃ (r : Bool) (n : Int), vs = [.str (kindS r), .int n] ∧ Q (.int (if r then n - 1 else n)) H
theorem ok_round_size (T : Env P K mg c__law_right) : Hd P w K mg base CX0 1 "round_size" s_round_size ["kind", "n"] sp_round_size := by
  obtain ⟨f, fd, F, hm⟩ := T.d_round_size
  refine ⟨⟨f, fd, F, hm, ?_⟩, fun _ _ _ _ _ _ _ us hl => match us, hl with | [_, _], _ => rfl⟩
  refine F.ok sc_round_size (fun vs H Q E h => ?_) (fun cdv A outer s H vs Q E hr h => ?_)
  · first | (obtain ⟨rfl, _⟩ := h; rfl) | (obtain ⟨_, rfl, _⟩ := h; rfl) | (obtain ⟨_, _, rfl, _⟩ := h; rfl) | (obtain ⟨_, _, _, rfl, _⟩ := h; rfl) | (obtain ⟨_, _, _, _, rfl, _⟩ := h; rfl) | (obtain ⟨_, _, _, _, _, rfl, _⟩ := h; rfl) | (obtain ⟨_, _, _, _, _, _, rfl, _⟩ := h; rfl) | (obtain ⟨_, _, _, _, _, _, _, rfl, _⟩ := h; rfl) | (obtain ⟨_, _, _, _, _, _, _, _, rfl, _⟩ := h; rfl) | (obtain ⟨_, _, _, _, _, _, _, _, _, rfl, _⟩ := h; rfl) | (obtain ⟨_, _, _, _, _, _, _, _, _, _, rfl, _⟩ := h; rfl) | (obtain ⟨_, _, _, _, _, _, _, _, _, _, _, rfl, _⟩ := h; rfl) | (obtain ⟨_, _, _, _, _, _, _, _, _, _, _, _, rfl, _⟩ := h; rfl) | (obtain ⟨_, _, _, _, _, _, _, _, _, _, _, _, _, rfl, _⟩ := h; rfl) | (obtain ⟨_, _, _, _, _, _, _, _, _, _, _, _, _, _, rfl, _⟩ := h; rfl) | (obtain ⟨_, _, _, _, _, _, _, _, _, _, _, _, _, _, _, rfl, _⟩ := h; rfl) | (obtain ⟨_, _, _, _, _, _, _, _, _, _, _, _, _, _, _, _, rfl, _⟩ := h; rfl) | (obtain ⟨_, _, _, _, _, _, _, _, _, _, _, _, _, _, _, _, _, rfl, _⟩ := h; rfl) | (obtain ⟨_, _, _, _, _, _, _, _, _, _, _, _, _, _, _, _, _, _, rfl, _⟩ := h; rfl)
  · obtain ⟨r, n, rfl, q⟩ := h
    have hu := hu_of hr
    refine ⟨_, pss_one (ps_ret (pe_ifExp (pt_cmpR op_eq (pv 0) (pe_glob (v := .str "rings") rfl T.c_RINGS.choose_spec ⟨_, rfl⟩) (nomark _)) (pe_op op_sub (pv 1) pe_int) (pv 1))), ?_⟩
    simp? only [L2.tSeq, kind_eq]
    split <;> simp_all
def sp_person_in : Sp := fun vs H Q _ => ∃ s e i : Int, vs = [.int s, .int e, .int i] ∧ 0 < s ∧ Q (.int (personIn s e i)) H
theorem ok_person_in (T : Env P K mg c__law_right) : Hd P w K mg base CX0 1 "person_in" s_person_in ["size", "evening", "index"] sp_person_in := by
  obtain ⟨f, fd, F, hm⟩ := T.d_person_in
  refine ⟨⟨f, fd, F, hm, ?_⟩, fun _ _ _ _ _ _ _ us hl => match us, hl with | [_, _, _], _ => rfl⟩
  refine F.ok sc_person_in (fun vs H Q E h => ?_) (fun cdv A outer s H vs Q E hr h => ?_)
  · first | (obtain ⟨rfl, _⟩ := h; rfl) | (obtain ⟨_, rfl, _⟩ := h; rfl) | (obtain ⟨_, _, rfl, _⟩ := h; rfl) | (obtain ⟨_, _, _, rfl, _⟩ := h; rfl) | (obtain ⟨_, _, _, _, rfl, _⟩ := h; rfl) | (obtain ⟨_, _, _, _, _, rfl, _⟩ := h; rfl) | (obtain ⟨_, _, _, _, _, _, rfl, _⟩ := h; rfl) | (obtain ⟨_, _, _, _, _, _, _, rfl, _⟩ := h; rfl) | (obtain ⟨_, _, _, _, _, _, _, _, rfl, _⟩ := h; rfl) | (obtain ⟨_, _, _, _, _, _, _, _, _, rfl, _⟩ := h; rfl) | (obtain ⟨_, _, _, _, _, _, _, _, _, _, rfl, _⟩ := h; rfl) | (obtain ⟨_, _, _, _, _, _, _, _, _, _, _, rfl, _⟩ := h; rfl) | (obtain ⟨_, _, _, _, _, _, _, _, _, _, _, _, rfl, _⟩ := h; rfl) | (obtain ⟨_, _, _, _, _, _, _, _, _, _, _, _, _, rfl, _⟩ := h; rfl) | (obtain ⟨_, _, _, _, _, _, _, _, _, _, _, _, _, _, rfl, _⟩ := h; rfl) | (obtain ⟨_, _, _, _, _, _, _, _, _, _, _, _, _, _, _, rfl, _⟩ := h; rfl) | (obtain ⟨_, _, _, _, _, _, _, _, _, _, _, _, _, _, _, _, rfl, _⟩ := h; rfl) | (obtain ⟨_, _, _, _, _, _, _, _, _, _, _, _, _, _, _, _, _, rfl, _⟩ := h; rfl) | (obtain ⟨_, _, _, _, _, _, _, _, _, _, _, _, _, _, _, _, _, _, rfl, _⟩ := h; rfl)
  · obtain ⟨z, e, i, rfl, hz, q⟩ := h
    have hu := hu_of hr
    refine ⟨_, pss_cons (ps_set (i := 3) sc_person_in.nd rfl (by first | exact .inl rfl | exact .inr rfl) (pe_op op_fdiv (pe_op op_add (pv 2) pe_int) pe_int))
      (pss_one (ps_ret (pe_op op_mod (pe_op op_add (pv 1) (pe_ifExp (pt_cmpR op_eq (pe_op op_mod (pv 2) pe_int) pe_int (nomark _)) (pv 3) (pe_un un_neg (pv 3)))) (pv 0)))), ?_⟩
    simp? only [L2.tSeq]
    unfold personIn at q
    split <;> simp_all
def sp_index_in : Sp := fun vs H Q _ => ∃ s e i : Int, vs = [.int s, .int e, .int i] ∧ 0 < s ∧ Q (.int (indexIn s e i)) H
theorem ok_index_in (T : Env P K mg c__law_right) : Hd P w K mg base CX0 1 "index_in" s_index_in ["size", "evening", "person"] sp_index_in := by
  obtain ⟨f, fd, F, hm⟩ := T.d_index_in
  refine ⟨⟨f, fd, F, hm, ?_⟩, fun _ _ _ _ _ _ _ us hl => match us, hl with | [_, _, _], _ => rfl⟩
  refine F.ok sc_index_in (fun vs H Q E h => ?_) (fun cdv A outer s H vs Q E hr h => ?_)
  · first | (obtain ⟨rfl, _⟩ := h; rfl) | (obtain ⟨_, rfl, _⟩ := h; rfl) | (obtain ⟨_, _, rfl, _⟩ := h; rfl) | (obtain ⟨_, _, _, rfl, _⟩ := h; rfl) | (obtain ⟨_, _, _, _, rfl, _⟩ := h; rfl) | (obtain ⟨_, _, _, _, _, rfl, _⟩ := h; rfl) | (obtain ⟨_, _, _, _, _, _, rfl, _⟩ := h; rfl) | (obtain ⟨_, _, _, _, _, _, _, rfl, _⟩ := h; rfl) | (obtain ⟨_, _, _, _, _, _, _, _, rfl, _⟩ := h; rfl) | (obtain ⟨_, _, _, _, _, _, _, _, _, rfl, _⟩ := h; rfl) | (obtain ⟨_, _, _, _, _, _, _, _, _, _, rfl, _⟩ := h; rfl) | (obtain ⟨_, _, _, _, _, _, _, _, _, _, _, rfl, _⟩ := h; rfl) | (obtain ⟨_, _, _, _, _, _, _, _, _, _, _, _, rfl, _⟩ := h; rfl) | (obtain ⟨_, _, _, _, _, _, _, _, _, _, _, _, _, rfl, _⟩ := h; rfl) | (obtain ⟨_, _, _, _, _, _, _, _, _, _, _, _, _, _, rfl, _⟩ := h; rfl) | (obtain ⟨_, _, _, _, _, _, _, _, _, _, _, _, _, _, _, rfl, _⟩ := h; rfl) | (obtain ⟨_, _, _, _, _, _, _, _, _, _, _, _, _, _, _, _, rfl, _⟩ := h; rfl) | (obtain ⟨_, _, _, _, _, _, _, _, _, _, _, _, _, _, _, _, _, rfl, _⟩ := h; rfl) | (obtain ⟨_, _, _, _, _, _, _, _, _, _, _, _, _, _, _, _, _, _, rfl, _⟩ := h; rfl)
  · obtain ⟨z, e, i, rfl, hz, q⟩ := h
    have hu := hu_of hr
    refine ⟨_, pss_cons (ps_set (i := 3) sc_index_in.nd rfl (by first | exact .inl rfl | exact .inr rfl) (pe_op op_mod (pe_op op_sub (pv 2) (pv 1)) (pv 0)))
      (pss_one (ps_ret (pe_ifExp (pt_chain op_lt op_le pe_int (pv 3) (pe_op op_fdiv (pv 0) pe_int)) (pe_op op_sub (pe_op op_mul pe_int (pv 3)) pe_int) (pe_op op_mul pe_int (pe_op op_mod (pe_op op_sub (pv 0) (pv 3)) (pv 0)))))), ?_⟩
    simp? only [L2.tSeq]
    unfold indexIn at q
    refine ⟨hz, ?_⟩
    (repeat' split) <;> simp_all
def sp_person_at : Sp := fun vs H Q _ => ∃ (r : Bool) (n e i : Int), vs = [.str (kindS r), .int n, .int e, .int i] ∧ 1 < n ∧ Q (.int (personAt r n e i)) H
theorem ok_person_at (T : Env P K mg c__law_right) : Hd P w K mg base CX0 2 "person_at" s_person_at ["kind", "n", "evening", "index"] sp_person_at := by
  have H_person_in := ok_person_in (P := P) (w := w) (base := base) T
  obtain ⟨f, fd, F, hm⟩ := T.d_person_at
  refine ⟨⟨f, fd, F, hm, ?_⟩, fun _ _ _ _ _ _ _ us hl => match us, hl with | [_, _, _, _], _ => rfl⟩
  refine F.ok sc_person_at (fun vs H Q E h => ?_) (fun cdv A outer s H vs Q E hr h => ?_)
  · first | (obtain ⟨rfl, _⟩ := h; rfl) | (obtain ⟨_, rfl, _⟩ := h; rfl) | (obtain ⟨_, _, rfl, _⟩ := h; rfl) | (obtain ⟨_, _, _, rfl, _⟩ := h; rfl) | (obtain ⟨_, _, _, _, rfl, _⟩ := h; rfl) | (obtain ⟨_, _, _, _, _, rfl, _⟩ := h; rfl) | (obtain ⟨_, _, _, _, _, _, rfl, _⟩ := h; rfl) | (obtain ⟨_, _, _, _, _, _, _, rfl, _⟩ := h; rfl) | (obtain ⟨_, _, _, _, _, _, _, _, rfl, _⟩ := h; rfl) | (obtain ⟨_, _, _, _, _, _, _, _, _, rfl, _⟩ := h; rfl) | (obtain ⟨_, _, _, _, _, _, _, _, _, _, rfl, _⟩ := h; rfl) | (obtain ⟨_, _, _, _, _, _, _, _, _, _, _, rfl, _⟩ := h; rfl) | (obtain ⟨_, _, _, _, _, _, _, _, _, _, _, _, rfl, _⟩ := h; rfl) | (obtain ⟨_, _, _, _, _, _, _, _, _, _, _, _, _, rfl, _⟩ := h; rfl) | (obtain ⟨_, _, _, _, _, _, _, _, _, _, _, _, _, _, rfl, _⟩ := h; rfl) | (obtain ⟨_, _, _, _, _, _, _, _, _, _, _, _, _, _, _, rfl, _⟩ := h; rfl) | (obtain ⟨_, _, _, _, _, _, _, _, _, _, _, _, _, _, _, _, rfl, _⟩ := h; rfl) | (obtain ⟨_, _, _, _, _, _, _, _, _, _, _, _, _, _, _, _, _, rfl, _⟩ := h; rfl) | (obtain ⟨_, _, _, _, _, _, _, _, _, _, _, _, _, _, _, _, _, _, rfl, _⟩ := h; rfl)
  · obtain ⟨r, n, e, i, rfl, hn, q⟩ := h
    have hu := hu_of hr
    refine ⟨_, pss_cons (ps_if (pt_cmpR op_eq (pv 0) (pe_glob (v := .str "rings") rfl T.c_RINGS.choose_spec ⟨_, rfl⟩) (nomark _)) (pss_one (ps_ret (pe_ifExp (pt_cmpR op_eq (pv 3) pe_int (nomark _)) (pe_op op_sub (pv 1) pe_int) (pe_hd H_person_in (hr.mono (by decide)) rfl pass0 (pa_cons (pe_op op_sub (pv 1) pe_int) (pa_cons (pv 2) (pa_cons (pe_op op_sub (pv 3) pe_int) pa_nil)))))))
      (pss_nil))
      (pss_one (ps_ret (pe_hd H_person_in (hr.mono (by decide)) rfl pass0 (pa_cons (pv 1) (pa_cons (pv 2) (pa_cons (pv 3) pa_nil)))))), ?_⟩
    simp? only [L2.tSeq, sp_person_in, kind_eq]
    unfold personAt at q
    (repeat' split) <;> simp_all <;> omega
def sp_index_of : Sp := fun vs H Q _ => ∃ (r : Bool) (n e i : Int), vs = [.str (kindS r), .int n, .int e, .int i] ∧ 1 < n ∧ Q (.int (indexOf r n e i)) H
theorem ok_index_of (T : Env P K mg c__law_right) : Hd P w K mg base CX0 2 "index_of" s_index_of ["kind", "n", "evening", "person"] sp_index_of := by
  have H_index_in := ok_index_in (P := P) (w := w) (base := base) T
  obtain ⟨f, fd, F, hm⟩ := T.d_index_of
  refine ⟨⟨f, fd, F, hm, ?_⟩, fun _ _ _ _ _ _ _ us hl => match us, hl with | [_, _, _, _], _ => rfl⟩
  refine F.ok sc_index_of (fun vs H Q E h => ?_) (fun cdv A outer s H vs Q E hr h => ?_)
  · first | (obtain ⟨rfl, _⟩ := h; rfl) | (obtain ⟨_, rfl, _⟩ := h; rfl) | (obtain ⟨_, _, rfl, _⟩ := h; rfl) | (obtain ⟨_, _, _, rfl, _⟩ := h; rfl) | (obtain ⟨_, _, _, _, rfl, _⟩ := h; rfl) | (obtain ⟨_, _, _, _, _, rfl, _⟩ := h; rfl) | (obtain ⟨_, _, _, _, _, _, rfl, _⟩ := h; rfl) | (obtain ⟨_, _, _, _, _, _, _, rfl, _⟩ := h; rfl) | (obtain ⟨_, _, _, _, _, _, _, _, rfl, _⟩ := h; rfl) | (obtain ⟨_, _, _, _, _, _, _, _, _, rfl, _⟩ := h; rfl) | (obtain ⟨_, _, _, _, _, _, _, _, _, _, rfl, _⟩ := h; rfl) | (obtain ⟨_, _, _, _, _, _, _, _, _, _, _, rfl, _⟩ := h; rfl) | (obtain ⟨_, _, _, _, _, _, _, _, _, _, _, _, rfl, _⟩ := h; rfl) | (obtain ⟨_, _, _, _, _, _, _, _, _, _, _, _, _, rfl, _⟩ := h; rfl) | (obtain ⟨_, _, _, _, _, _, _, _, _, _, _, _, _, _, rfl, _⟩ := h; rfl) | (obtain ⟨_, _, _, _, _, _, _, _, _, _, _, _, _, _, _, rfl, _⟩ := h; rfl) | (obtain ⟨_, _, _, _, _, _, _, _, _, _, _, _, _, _, _, _, rfl, _⟩ := h; rfl) | (obtain ⟨_, _, _, _, _, _, _, _, _, _, _, _, _, _, _, _, _, rfl, _⟩ := h; rfl) | (obtain ⟨_, _, _, _, _, _, _, _, _, _, _, _, _, _, _, _, _, _, rfl, _⟩ := h; rfl)
  · obtain ⟨r, n, e, i, rfl, hn, q⟩ := h
    have hu := hu_of hr
    refine ⟨_, pss_cons (ps_if (pt_cmpR op_eq (pv 0) (pe_glob (v := .str "rings") rfl T.c_RINGS.choose_spec ⟨_, rfl⟩) (nomark _)) (pss_one (ps_ret (pe_ifExp (pt_cmpR op_eq (pv 3) (pe_op op_sub (pv 1) pe_int) (nomark _)) pe_int (pe_op op_add pe_int (pe_hd H_index_in (hr.mono (by decide)) rfl pass0 (pa_cons (pe_op op_sub (pv 1) pe_int) (pa_cons (pv 2) (pa_cons (pv 3) pa_nil))))))))
      (pss_nil))
      (pss_one (ps_ret (pe_hd H_index_in (hr.mono (by decide)) rfl pass0 (pa_cons (pv 1) (pa_cons (pv 2) (pa_cons (pv 3) pa_nil)))))), ?_⟩
    simp? only [L2.tSeq, sp_index_in, kind_eq]
    unfold indexOf at q
    (repeat' split) <;> simp_all <;> omega
theorem size_nights {r : Bool} {n m : Int} (h : isSize r n m = true) : 2 ≤ n ∧ n ≤ m ∧ 0 < nights r n ∧ ((r = true ∧ n = 2 * nights r n + 1) ∨ (r = false ∧ n = 2 * nights r n)) := by
  unfold isSize at h
  unfold nights
  cases r
  · simp at h ⊢
    omega
  · simp at h ⊢
    omega
open Zig
def sp_check_evening_of (mg : Str → Option Value) : Sp := fun vs H Q E => ∃ (r : Bool) (n : Int) (x : V), vs = [.str (kindS r), .int n, x] ∧ Known H x ∧ Ask mg E H (inB 0 (nights r n - 1) x) x (Q .non H)
theorem ok_check_evening_of (T : Env P K mg c__law_right) : Hd P w K mg base (L2.CX P w) 3 "check_evening_of" s_check_evening_of ["kind", "n", "evening"] (sp_check_evening_of mg) := by
  have H_is_between := ok_is_between (P := P) (w := w) (base := base) T
  have H_evenings_for := ok_evenings_for (P := P) (w := w) (base := base) T
  obtain ⟨f, fd, F, hm⟩ := T.d_check_evening_of
  refine ⟨⟨f, fd, F, hm, ?_⟩, fun _ _ _ _ _ _ _ us hl => match us, hl with | [_, _, _], _ => rfl⟩
  refine F.okX sc_check_evening_of (fun vs H Q E h => ?_) (fun cdv A outer s H vs Q E hr h => ?_)
  · first | (obtain ⟨rfl, _⟩ := h; rfl) | (obtain ⟨_, rfl, _⟩ := h; rfl) | (obtain ⟨_, _, rfl, _⟩ := h; rfl) | (obtain ⟨_, _, _, rfl, _⟩ := h; rfl) | (obtain ⟨_, _, _, _, rfl, _⟩ := h; rfl) | (obtain ⟨_, _, _, _, _, rfl, _⟩ := h; rfl) | (obtain ⟨_, _, _, _, _, _, rfl, _⟩ := h; rfl) | (obtain ⟨_, _, _, _, _, _, _, rfl, _⟩ := h; rfl) | (obtain ⟨_, _, _, _, _, _, _, _, rfl, _⟩ := h; rfl) | (obtain ⟨_, _, _, _, _, _, _, _, _, rfl, _⟩ := h; rfl) | (obtain ⟨_, _, _, _, _, _, _, _, _, _, rfl, _⟩ := h; rfl) | (obtain ⟨_, _, _, _, _, _, _, _, _, _, _, rfl, _⟩ := h; rfl) | (obtain ⟨_, _, _, _, _, _, _, _, _, _, _, _, rfl, _⟩ := h; rfl) | (obtain ⟨_, _, _, _, _, _, _, _, _, _, _, _, _, rfl, _⟩ := h; rfl) | (obtain ⟨_, _, _, _, _, _, _, _, _, _, _, _, _, _, rfl, _⟩ := h; rfl) | (obtain ⟨_, _, _, _, _, _, _, _, _, _, _, _, _, _, _, rfl, _⟩ := h; rfl) | (obtain ⟨_, _, _, _, _, _, _, _, _, _, _, _, _, _, _, _, rfl, _⟩ := h; rfl) | (obtain ⟨_, _, _, _, _, _, _, _, _, _, _, _, _, _, _, _, _, rfl, _⟩ := h; rfl) | (obtain ⟨_, _, _, _, _, _, _, _, _, _, _, _, _, _, _, _, _, _, rfl, _⟩ := h; rfl)
  · obtain ⟨r, n, x, rfl, hx, q⟩ := h
    have hu := hu_of hr
    refine ⟨_, pss_one (ps_if (pt_not (pt_val (pe_hd H_is_between (hr.mono (by decide)) rfl pass0 (pa_cons (pv 2) (pa_cons pe_int (pa_cons (pe_op op_sub (pe_hd H_evenings_for (hr.mono (by decide)) rfl pass0 (pa_cons (pv 0) (pa_cons (pv 1) pa_nil))) pe_int) pa_nil)))))) (pss_one (ps_raise rfl (takes_of rfl rfl rfl rfl) (pmk_x1 T.x_InvalidNumber (hr.mono (by decide)) (pa_cons (pv 2) pa_nil))))
      (pss_nil)), ?_⟩
    simp? only [L2.tSeq, sp_is_between, sp_evenings_for, kind_eq, kind_inj, Z.tMk]
    exact ⟨hx, q.if⟩
def sp_check_person (mg : Str → Option Value) : Sp := fun vs H Q E => ∃ (n : Int) (x : V), vs = [.int n, x] ∧ Known H x ∧ Ask mg E H (inB 0 (n - 1) x) x (Q .non H)
theorem ok_check_person (T : Env P K mg c__law_right) : Hd P w K mg base (L2.CX P w) 3 "check_person" s_check_person ["n", "person"] (sp_check_person mg) := by
  have H_is_between := ok_is_between (P := P) (w := w) (base := base) T
  obtain ⟨f, fd, F, hm⟩ := T.d_check_person
  refine ⟨⟨f, fd, F, hm, ?_⟩, fun _ _ _ _ _ _ _ us hl => match us, hl with | [_, _], _ => rfl⟩
  refine F.okX sc_check_person (fun vs H Q E h => ?_) (fun cdv A outer s H vs Q E hr h => ?_)
  · first | (obtain ⟨rfl, _⟩ := h; rfl) | (obtain ⟨_, rfl, _⟩ := h; rfl) | (obtain ⟨_, _, rfl, _⟩ := h; rfl) | (obtain ⟨_, _, _, rfl, _⟩ := h; rfl) | (obtain ⟨_, _, _, _, rfl, _⟩ := h; rfl) | (obtain ⟨_, _, _, _, _, rfl, _⟩ := h; rfl) | (obtain ⟨_, _, _, _, _, _, rfl, _⟩ := h; rfl) | (obtain ⟨_, _, _, _, _, _, _, rfl, _⟩ := h; rfl) | (obtain ⟨_, _, _, _, _, _, _, _, rfl, _⟩ := h; rfl) | (obtain ⟨_, _, _, _, _, _, _, _, _, rfl, _⟩ := h; rfl) | (obtain ⟨_, _, _, _, _, _, _, _, _, _, rfl, _⟩ := h; rfl) | (obtain ⟨_, _, _, _, _, _, _, _, _, _, _, rfl, _⟩ := h; rfl) | (obtain ⟨_, _, _, _, _, _, _, _, _, _, _, _, rfl, _⟩ := h; rfl) | (obtain ⟨_, _, _, _, _, _, _, _, _, _, _, _, _, rfl, _⟩ := h; rfl) | (obtain ⟨_, _, _, _, _, _, _, _, _, _, _, _, _, _, rfl, _⟩ := h; rfl) | (obtain ⟨_, _, _, _, _, _, _, _, _, _, _, _, _, _, _, rfl, _⟩ := h; rfl) | (obtain ⟨_, _, _, _, _, _, _, _, _, _, _, _, _, _, _, _, rfl, _⟩ := h; rfl) | (obtain ⟨_, _, _, _, _, _, _, _, _, _, _, _, _, _, _, _, _, rfl, _⟩ := h; rfl) | (obtain ⟨_, _, _, _, _, _, _, _, _, _, _, _, _, _, _, _, _, _, rfl, _⟩ := h; rfl)
  · obtain ⟨n, x, rfl, hx, q⟩ := h
    have hu := hu_of hr
    refine ⟨_, pss_one (ps_if (pt_not (pt_val (pe_hd H_is_between (hr.mono (by decide)) rfl pass0 (pa_cons (pv 1) (pa_cons pe_int (pa_cons (pe_op op_sub (pv 0) pe_int) pa_nil)))))) (pss_one (ps_raise rfl (takes_of rfl rfl rfl rfl) (pmk_x1 T.x_InvalidNumber (hr.mono (by decide)) (pa_cons (pv 1) pa_nil))))
      (pss_nil)), ?_⟩
    simp? only [L2.tSeq, sp_is_between, kind_eq, kind_inj, Z.tMk]
    exact ⟨hx, q.if⟩
theorem inB_int {l m : Int} {x : V} (h : inB l m x = true) : ∃ i, x = .int i ∧ l ≤ i ∧ i ≤ m := by
  cases x with
  | int i => exact ⟨i, rfl, of_decide_eq_true h⟩
  | _ => cases h
theorem sizeV_int {r : Bool} {m : Int} {x : V} (h : sizeV r m x = true) : ∃ i, x = .int i ∧ isSize r i m = true := by
  cases x with
  | int i => exact ⟨i, rfl, h⟩
  | _ => cases h
/-- kind and number of people are looked at first -/
def Ahead (mg : Str → Option Value) (E : XK) (H : Hp) (kd n : V) (k : Bool → Int → Prop) : Prop := Known H kd ∧ Known H n ∧ ((∀ r, ¬ KindIs r kd) → Rz mg E H "InvalidKind" "given" kd) ∧ ∀ r, KindIs r kd → Ask mg E H (sizeV r most n) n (∀ m, n = .int m → k r m)
def sp_zigzag_place (mg : Str → Option Value) : Sp := fun vs H Q E => ∃ kd n e p : V, vs = [kd, n, e, p] ∧ Known H e ∧ Known H p ∧ Ahead mg E H kd n fun r m => Ask mg E H (inB 0 (nights r m - 1) e) e (Ask mg E H (inB 0 (m - 1) p) p (∀ ei pi, e = .int ei → p = .int pi → ∀ H', Same H H' → Q (.int (indexOf r m ei pi)) H'))
theorem ok_zigzag_place (T : Env P K mg c__law_right) : Hd P w K mg base (L2.CX P w) 5 "zigzag_place" s_zigzag_place ["kind", "n", "evening", "person"] (sp_zigzag_place mg) := by
  have H_index_of := ok_index_of (P := P) (w := w) (base := base) T
  have H_check_person := ok_check_person (P := P) (w := w) (base := base) T
  have H_check_evening_of := ok_check_evening_of (P := P) (w := w) (base := base) T
  have H_check_size := ok_check_size (P := P) (w := w) (base := base) T
  have H_check_kind := ok_check_kind (P := P) (w := w) (base := base) T
  obtain ⟨f, fd, F, hm⟩ := T.d_zigzag_place
  refine ⟨⟨f, fd, F, hm, ?_⟩, fun _ _ _ _ _ _ _ us hl => match us, hl with | [_, _, _, _], _ => rfl⟩
  refine F.okX sc_zigzag_place (fun vs H Q E h => ?_) (fun cdv A outer s H vs Q E hr h => ?_)
  · first | (obtain ⟨rfl, _⟩ := h; rfl) | (obtain ⟨_, rfl, _⟩ := h; rfl) | (obtain ⟨_, _, rfl, _⟩ := h; rfl) | (obtain ⟨_, _, _, rfl, _⟩ := h; rfl) | (obtain ⟨_, _, _, _, rfl, _⟩ := h; rfl) | (obtain ⟨_, _, _, _, _, rfl, _⟩ := h; rfl) | (obtain ⟨_, _, _, _, _, _, rfl, _⟩ := h; rfl) | (obtain ⟨_, _, _, _, _, _, _, rfl, _⟩ := h; rfl) | (obtain ⟨_, _, _, _, _, _, _, _, rfl, _⟩ := h; rfl) | (obtain ⟨_, _, _, _, _, _, _, _, _, rfl, _⟩ := h; rfl) | (obtain ⟨_, _, _, _, _, _, _, _, _, _, rfl, _⟩ := h; rfl) | (obtain ⟨_, _, _, _, _, _, _, _, _, _, _, rfl, _⟩ := h; rfl) | (obtain ⟨_, _, _, _, _, _, _, _, _, _, _, _, rfl, _⟩ := h; rfl) | (obtain ⟨_, _, _, _, _, _, _, _, _, _, _, _, _, rfl, _⟩ := h; rfl) | (obtain ⟨_, _, _, _, _, _, _, _, _, _, _, _, _, _, rfl, _⟩ := h; rfl) | (obtain ⟨_, _, _, _, _, _, _, _, _, _, _, _, _, _, _, rfl, _⟩ := h; rfl) | (obtain ⟨_, _, _, _, _, _, _, _, _, _, _, _, _, _, _, _, rfl, _⟩ := h; rfl) | (obtain ⟨_, _, _, _, _, _, _, _, _, _, _, _, _, _, _, _, _, rfl, _⟩ := h; rfl) | (obtain ⟨_, _, _, _, _, _, _, _, _, _, _, _, _, _, _, _, _, _, rfl, _⟩ := h; rfl)
  · obtain ⟨kd, n, e, p, rfl, he, hp, hk, hn, z, q⟩ := h
    have hu := hu_of hr
    refine ⟨_, pss_cons (ps_expr (pe_hd H_check_kind (hr.mono (by decide)) rfl passX (pa_cons (pv 0) pa_nil)))
      (pss_cons (ps_expr (pe_hd H_check_size (hr.mono (by decide)) rfl passX (pa_cons (pv 0) (pa_cons (pv 1) pa_nil))))
      (pss_cons (ps_expr (pe_hd H_check_evening_of (hr.mono (by decide)) rfl passX (pa_cons (pv 0) (pa_cons (pv 1) (pa_cons (pv 2) pa_nil)))))
      (pss_cons (ps_expr (pe_hd H_check_person (hr.mono (by decide)) rfl passX (pa_cons (pv 1) (pa_cons (pv 3) pa_nil))))
      (pss_one (ps_ret (pe_hd H_index_of (hr.mono (by decide)) rfl pass0 (pa_cons (pv 0) (pa_cons (pv 1) (pa_cons (pv 2) (pa_cons (pv 3) pa_nil)))))))))), ?_⟩
    simp? only [L2.tSeq, sp_index_of, sp_check_person, sp_check_evening_of, sp_check_size, sp_check_kind, kind_eq]
    refine ⟨hk, fun ⟨r, hr⟩ H' s => ⟨r, hr, hn.same s, (q r hr).imp s fun c1 k1 => ?_⟩, z⟩
    obtain ⟨m, rfl, hm⟩ := sizeV_int c1
    have hz := size_nights hm
    refine ⟨r, hr, m, rfl, he.same s, (k1 m rfl).imp s fun c2 k2 => ⟨m, rfl, hp.same s, k2.imp s fun c3 k3 => ?_⟩⟩
    obtain ⟨ev, rfl, _, _⟩ := inB_int c2
    obtain ⟨pv, rfl, _, _⟩ := inB_int c3
    exact ⟨r, hr, m, rfl, ev, rfl, pv, rfl, by omega, k3 _ _ rfl rfl _ s⟩
def sp_zigzag_person (mg : Str → Option Value) : Sp := fun vs H Q E => ∃ kd n e p : V, vs = [kd, n, e, p] ∧ Known H e ∧ Known H p ∧ Ahead mg E H kd n fun r m => Ask mg E H (inB 0 (nights r m - 1) e) e (Ask mg E H (inB 0 (m - 1) p) p (∀ ei pi, e = .int ei → p = .int pi → ∀ H', Same H H' → Q (.int (personAt r m ei pi)) H'))
theorem ok_zigzag_person (T : Env P K mg c__law_right) : Hd P w K mg base (L2.CX P w) 5 "zigzag_person" s_zigzag_person ["kind", "n", "evening", "index"] (sp_zigzag_person mg) := by
  have H_person_at := ok_person_at (P := P) (w := w) (base := base) T
  have H_is_between := ok_is_between (P := P) (w := w) (base := base) T
  have H_check_evening_of := ok_check_evening_of (P := P) (w := w) (base := base) T
  have H_check_size := ok_check_size (P := P) (w := w) (base := base) T
  have H_check_kind := ok_check_kind (P := P) (w := w) (base := base) T
  obtain ⟨f, fd, F, hm⟩ := T.d_zigzag_person
  refine ⟨⟨f, fd, F, hm, ?_⟩, fun _ _ _ _ _ _ _ us hl => match us, hl with | [_, _, _, _], _ => rfl⟩
  refine F.okX sc_zigzag_person (fun vs H Q E h => ?_) (fun cdv A outer s H vs Q E hr h => ?_)
  · first | (obtain ⟨rfl, _⟩ := h; rfl) | (obtain ⟨_, rfl, _⟩ := h; rfl) | (obtain ⟨_, _, rfl, _⟩ := h; rfl) | (obtain ⟨_, _, _, rfl, _⟩ := h; rfl) | (obtain ⟨_, _, _, _, rfl, _⟩ := h; rfl) | (obtain ⟨_, _, _, _, _, rfl, _⟩ := h; rfl) | (obtain ⟨_, _, _, _, _, _, rfl, _⟩ := h; rfl) | (obtain ⟨_, _, _, _, _, _, _, rfl, _⟩ := h; rfl) | (obtain ⟨_, _, _, _, _, _, _, _, rfl, _⟩ := h; rfl) | (obtain ⟨_, _, _, _, _, _, _, _, _, rfl, _⟩ := h; rfl) | (obtain ⟨_, _, _, _, _, _, _, _, _, _, rfl, _⟩ := h; rfl) | (obtain ⟨_, _, _, _, _, _, _, _, _, _, _, rfl, _⟩ := h; rfl) | (obtain ⟨_, _, _, _, _, _, _, _, _, _, _, _, rfl, _⟩ := h; rfl) | (obtain ⟨_, _, _, _, _, _, _, _, _, _, _, _, _, rfl, _⟩ := h; rfl) | (obtain ⟨_, _, _, _, _, _, _, _, _, _, _, _, _, _, rfl, _⟩ := h; rfl) | (obtain ⟨_, _, _, _, _, _, _, _, _, _, _, _, _, _, _, rfl, _⟩ := h; rfl) | (obtain ⟨_, _, _, _, _, _, _, _, _, _, _, _, _, _, _, _, rfl, _⟩ := h; rfl) | (obtain ⟨_, _, _, _, _, _, _, _, _, _, _, _, _, _, _, _, _, rfl, _⟩ := h; rfl) | (obtain ⟨_, _, _, _, _, _, _, _, _, _, _, _, _, _, _, _, _, _, rfl, _⟩ := h; rfl)
  · obtain ⟨kd, n, e, p, rfl, he, hp, hk, hn, z, q⟩ := h
    have hu := hu_of hr
    refine ⟨_, pss_cons (ps_expr (pe_hd H_check_kind (hr.mono (by decide)) rfl passX (pa_cons (pv 0) pa_nil)))
      (pss_cons (ps_expr (pe_hd H_check_size (hr.mono (by decide)) rfl passX (pa_cons (pv 0) (pa_cons (pv 1) pa_nil))))
      (pss_cons (ps_expr (pe_hd H_check_evening_of (hr.mono (by decide)) rfl passX (pa_cons (pv 0) (pa_cons (pv 1) (pa_cons (pv 2) pa_nil)))))
      (pss_cons (ps_if (pt_not (pt_val (pe_hd H_is_between (hr.mono (by decide)) rfl pass0 (pa_cons (pv 3) (pa_cons pe_int (pa_cons (pe_op op_sub (pv 1) pe_int) pa_nil)))))) (pss_one (ps_raise rfl (takes_of rfl rfl rfl rfl) (pmk_x1 T.x_InvalidNumber (hr.mono (by decide)) (pa_cons (pv 3) pa_nil))))
      (pss_nil))
      (pss_one (ps_ret (pe_hd H_person_at (hr.mono (by decide)) rfl pass0 (pa_cons (pv 0) (pa_cons (pv 1) (pa_cons (pv 2) (pa_cons (pv 3) pa_nil)))))))))), ?_⟩
    simp? only [L2.tSeq, sp_person_at, sp_is_between, sp_check_evening_of, sp_check_size, sp_check_kind, kind_eq, Z.tMk]
    refine ⟨hk, fun ⟨r, hr⟩ H' s => ⟨r, hr, hn.same s, (q r hr).imp s fun c1 k1 => ?_⟩, z⟩
    obtain ⟨m, rfl, hm⟩ := sizeV_int c1
    have hz := size_nights hm
    refine ⟨r, hr, m, rfl, he.same s, (k1 m rfl).imp s fun c2 k2 => ?_⟩
    refine ⟨m, rfl, hp.same s, (k2.imp s fun c3 k3 => ?_).if⟩
    obtain ⟨ev, rfl, _, _⟩ := inB_int c2
    obtain ⟨pv, rfl, _, _⟩ := inB_int c3
    exact ⟨r, hr, m, rfl, ev, rfl, pv, rfl, by omega, k3 _ _ rfl rfl _ s⟩
theorem both {c : Prop} [Decidable c] {A B : Prop} (a : c → A) (b : ¬ c → B) : if c then A else B := by
  split
  · exact a ‹_›
  · exact b ‹_›
def sp_zigzag_evening (mg : Str → Option Value) : Sp := fun vs H Q E => ∃ kd n p t : V, vs = [kd, n, p, t] ∧ Known H p ∧ Known H t ∧ Ahead mg E H kd n fun r m => Ask mg E H (inB 0 (m - 1) p) p (Ask mg E H (inB 0 (m - 1) t) t (∀ i j, p = .int i → t = .int j → Ask mg E H (!decide (j = i)) t (∀ H', Same H H' → Q (.int (eveningOf r m i j)) H')))
theorem ok_zigzag_evening (T : Env P K mg c__law_right) : Hd P w K mg base (L2.CX P w) 5 "zigzag_evening" s_zigzag_evening ["kind", "n", "person", "mate"] (sp_zigzag_evening mg) := by
  have H_evenings_for := ok_evenings_for (P := P) (w := w) (base := base) T
  have H_round_size := ok_round_size (P := P) (w := w) (base := base) T
  have H_check_person := ok_check_person (P := P) (w := w) (base := base) T
  have H_check_size := ok_check_size (P := P) (w := w) (base := base) T
  have H_check_kind := ok_check_kind (P := P) (w := w) (base := base) T
  obtain ⟨f, fd, F, hm⟩ := T.d_zigzag_evening
  refine ⟨⟨f, fd, F, hm, ?_⟩, fun _ _ _ _ _ _ _ us hl => match us, hl with | [_, _, _, _], _ => rfl⟩
  refine F.okX sc_zigzag_evening (fun vs H Q E h => ?_) (fun cdv A outer s H vs Q E hr h => ?_)
  · first | (obtain ⟨rfl, _⟩ := h; rfl) | (obtain ⟨_, rfl, _⟩ := h; rfl) | (obtain ⟨_, _, rfl, _⟩ := h; rfl) | (obtain ⟨_, _, _, rfl, _⟩ := h; rfl) | (obtain ⟨_, _, _, _, rfl, _⟩ := h; rfl) | (obtain ⟨_, _, _, _, _, rfl, _⟩ := h; rfl) | (obtain ⟨_, _, _, _, _, _, rfl, _⟩ := h; rfl) | (obtain ⟨_, _, _, _, _, _, _, rfl, _⟩ := h; rfl) | (obtain ⟨_, _, _, _, _, _, _, _, rfl, _⟩ := h; rfl) | (obtain ⟨_, _, _, _, _, _, _, _, _, rfl, _⟩ := h; rfl) | (obtain ⟨_, _, _, _, _, _, _, _, _, _, rfl, _⟩ := h; rfl) | (obtain ⟨_, _, _, _, _, _, _, _, _, _, _, rfl, _⟩ := h; rfl) | (obtain ⟨_, _, _, _, _, _, _, _, _, _, _, _, rfl, _⟩ := h; rfl) | (obtain ⟨_, _, _, _, _, _, _, _, _, _, _, _, _, rfl, _⟩ := h; rfl) | (obtain ⟨_, _, _, _, _, _, _, _, _, _, _, _, _, _, rfl, _⟩ := h; rfl) | (obtain ⟨_, _, _, _, _, _, _, _, _, _, _, _, _, _, _, rfl, _⟩ := h; rfl) | (obtain ⟨_, _, _, _, _, _, _, _, _, _, _, _, _, _, _, _, rfl, _⟩ := h; rfl) | (obtain ⟨_, _, _, _, _, _, _, _, _, _, _, _, _, _, _, _, _, rfl, _⟩ := h; rfl) | (obtain ⟨_, _, _, _, _, _, _, _, _, _, _, _, _, _, _, _, _, _, rfl, _⟩ := h; rfl)
  · obtain ⟨kd, n, p, t, rfl, hp, ht, hk, hn, z, q⟩ := h
    have hu := hu_of hr
    refine ⟨_, pss_cons (ps_expr (pe_hd H_check_kind (hr.mono (by decide)) rfl passX (pa_cons (pv 0) pa_nil)))
      (pss_cons (ps_expr (pe_hd H_check_size (hr.mono (by decide)) rfl passX (pa_cons (pv 0) (pa_cons (pv 1) pa_nil))))
      (pss_cons (ps_expr (pe_hd H_check_person (hr.mono (by decide)) rfl passX (pa_cons (pv 1) (pa_cons (pv 2) pa_nil))))
      (pss_cons (ps_expr (pe_hd H_check_person (hr.mono (by decide)) rfl passX (pa_cons (pv 1) (pa_cons (pv 3) pa_nil))))
      (pss_cons (ps_if (pt_cmpR op_eq (pv 3) (pv 2) (nomark _)) (pss_one (ps_raise rfl (takes_of rfl rfl rfl rfl) (pmk_x1 T.x_InvalidNumber (hr.mono (by decide)) (pa_cons (pv 3) pa_nil))))
      (pss_nil))
      (pss_cons (ps_set (i := 4) sc_zigzag_evening.nd rfl (by first | exact .inl rfl | exact .inr rfl) (pe_hd H_round_size (hr.mono (by decide)) rfl pass0 (pa_cons (pv 0) (pa_cons (pv 1) pa_nil))))
      (pss_cons (ps_if (pt_cmpR op_in_tupH (pv 4) (pe_tup (pa_cons (pv 2) (pa_cons (pv 3) pa_nil))) (by rfl)) (pss_one (ps_ret (pe_op op_mod (pe_callB (call_min2 rfl) rfl T.b_min (by decide +kernel) (pa_cons (pv 2) (pa_cons (pv 3) pa_nil))) (pe_hd H_evenings_for (hr.mono (by decide)) rfl pass0 (pa_cons (pv 0) (pa_cons (pv 1) pa_nil))))))
      (pss_nil))
      (pss_one (ps_ret (pe_op op_fdiv (pe_op op_mod (pe_op op_add (pv 2) (pv 3)) (pv 4)) pe_int))))))))), ?_⟩
    simp? only [L2.tSeq, sp_evenings_for, sp_round_size, sp_check_person, sp_check_size, sp_check_kind, kind_eq, Z.tMk, L2.inV, L2.eqV]
    refine ⟨hk, fun ⟨r, hr⟩ H' s => ⟨r, hr, hn.same s, (q r hr).imp s fun c1 k1 => ?_⟩, z⟩
    obtain ⟨m, rfl, hm⟩ := sizeV_int c1
    have hz := size_nights hm
    refine ⟨m, rfl, hp.same s, (k1 m rfl).imp s fun c2 k2 => ⟨m, rfl, ht.same s, k2.imp s fun c3 k3 => ?_⟩⟩
    obtain ⟨pv, rfl, _, _⟩ := inB_int c2
    obtain ⟨tv, rfl, _, _⟩ := inB_int c3
    have k4 := k3 pv tv rfl rfl
    refine ⟨rfl, ?_⟩
    by_cases c4 : tv = pv
    · rw [if_pos (by rw [c4])]
      exact fun d hd => ((k4.1 (by simp [c4])).after s).to hd
    · rw [if_neg (fun z => c4 (V.int.inj z))]
      have q' : ∀ H2, Same H' H2 → Q (.int (eveningOf r m pv tv)) H2 := fun H2 s2 => k4.2 (by simp [c4]) H2 (s.trans s2)
      refine ⟨r, hr, m, rfl, fun t ht => ⟨rfl, ?_⟩⟩
      unfold eveningOf at q'
      refine both (fun c => ?_) fun c => ?_
      · have c1 : (pv == (if r = true then m - 1 else m) || tv == (if r = true then m - 1 else m)) = true := c
        have c2 : (if r = true then m - 1 else m) = pv ∨ (if r = true then m - 1 else m) = tv := by
          rw [Bool.or_eq_true, beq_iff_eq, beq_iff_eq] at c1
          exact c1.imp Eq.symm Eq.symm
        simp only [if_pos c2] at q'
        exact ⟨pv, rfl, tv, rfl, r, hr, m, rfl, hz.2.2.1, q' _ (same_new ht)⟩
      · have c1 : ¬ (pv == (if r = true then m - 1 else m) || tv == (if r = true then m - 1 else m)) = true := c
        have c2 : ¬ ((if r = true then m - 1 else m) = pv ∨ (if r = true then m - 1 else m) = tv) := fun h => c1 (by
          rw [Bool.or_eq_true, beq_iff_eq, beq_iff_eq]
          exact h.imp Eq.symm Eq.symm)
        simp only [if_neg c2] at q'
        exact ⟨pv, rfl, tv, rfl, by split <;> omega, q' _ (same_new ht)⟩

open Zig
theorem nodup_len {m ns : List Int} (hm : m.Nodup) (h : ∀ k, k ∈ m ↔ k ∈ ns) : (m.length = ns.length) ↔ ns.Nodup := by
  constructor
  · intro e
    exact (perm_of_sub hm (fun x hx => (h x).mp hx) e).nodup_iff.mp hm
  · intro hn
    exact ((List.perm_ext_iff_of_nodup hm hn).mpr h).length_eq
def rowOf (H : Hp) : V → Option (List V)
  | .ref a => match H a with
    | some (.tup xs) => some xs
    | _ => none
  | _ => none
theorem rowOf_tup {H : Hp} {a : Addr} {xs : List V} (h : H a = some (.tup xs)) : rowOf H (.ref a) = some xs := by
  simp only [rowOf, h]
theorem rowOf_none {H : Hp} {x : V} {t : String} (ht : tyN H x = some t) (hm : t ≠ "tuple") : rowOf H x = none := by
  cases x with
  | ref a =>
    simp only [rowOf]
    simp only [tyN] at ht
    split
    · rename_i h
      rw [h] at ht
      exact absurd (Option.some.inj ht).symm hm
    · rfl
  | _ => rfl
theorem row_of_tuple {H : Hp} {x : V} (ht : tyN H x = some "tuple") : ∃ a xs, x = .ref a ∧ H a = some (.tup xs) := by
  cases x with
  | ref a =>
    simp only [tyN] at ht
    split at ht
    · exact absurd (Option.some.inj ht) (by decide)
    · rename_i xs h
      exact ⟨a, xs, rfl, h⟩
    · exact absurd (Option.some.inj ht) (by decide)
    · exact absurd (Option.some.inj ht) (by decide)
    · cases ht
  | non => exact absurd (Option.some.inj ht) (by decide)
  | bl b => exact absurd (Option.some.inj ht) (by decide)
  | int i => exact absurd (Option.some.inj ht) (by decide)
  | str z => exact absurd (Option.some.inj ht) (by decide)
  | _ => cases ht
def intOf : V → Option Int
  | .int i => some i
  | _ => none
def intsOf (xs : List V) : List Int := xs.filterMap intOf
theorem ints_back {l m : Int} : ∀ {xs : List V}, xs.all (inB l m) = true → xs = (intsOf xs).map V.int ∧ ∀ i ∈ intsOf xs, l ≤ i ∧ i ≤ m
  | [], _ => ⟨rfl, fun _ h => absurd h List.not_mem_nil⟩
  | x :: r, h => by
    rw [List.all_cons, Bool.and_eq_true] at h
    obtain ⟨h1, h2⟩ := ints_back h.2
    cases x with
    | int i =>
      have hb : l ≤ i ∧ i ≤ m := of_decide_eq_true h.1
      have e : intsOf (V.int i :: r) = i :: intsOf r := rfl
      rw [e]
      refine ⟨by rw [List.map_cons, ← h1], fun j hj => ?_⟩
      rcases List.mem_cons.mp hj with rfl | hj
      · exact hb
      · exact h2 j hj
    | _ => exact absurd h.1 (by simp [inB])
def everyB (n : Int) : Option (List V) → Bool
  | none => false
  | some xs => decide ((xs.length : Int) = n) && (xs.all (inB 0 (n - 1)) && decide ((intsOf xs).Nodup))
theorem everyB_some (n : Int) (xs : List V) : everyB n (some xs) = (decide ((xs.length : Int) = n) && (xs.all (inB 0 (n - 1)) && decide ((intsOf xs).Nodup))) := rfl
def blF (f : V → Bool) (x : V) : Option V := some (.bl (f x))
theorem fm_bl (f : V → Bool) : ∀ xs : List V, xs.filterMap (blF f) = (xs.map f).map V.bl
  | [] => rfl
  | x :: r => by
    rw [List.filterMap_cons, fm_bl f r]
    rfl
theorem all_map (f : V → Bool) : ∀ xs : List V, (xs.map f).all id = xs.all f
  | [] => rfl
  | x :: r => by
    rw [List.map_cons, List.all_cons, List.all_cons, all_map f r]
    rfl
def sp_is_everybody : Sp := fun vs H Q _ => ∃ (n : Int) (x : V), vs = [.int n, x] ∧ Known H x ∧ (∀ xs, rowOf H x = some xs → xs.length ≤ 1000 ∧ ∀ z ∈ xs, Known H z) ∧ ∀ H', Same H H' → Q (.bl (everyB n (rowOf H x))) H'
theorem ok_is_everybody (T : Env P K mg c__law_right) : Hd P w K mg base CX0 3 "is_everybody" s_is_everybody ["n", "value"] sp_is_everybody := by
  have H_is_between := ok_is_between (P := P) (w := w) (base := base) T
  obtain ⟨f, fd, F, hm⟩ := T.d_is_everybody
  refine ⟨⟨f, fd, F, hm, ?_⟩, fun _ _ _ _ _ _ _ us hl => match us, hl with | [_, _], _ => rfl⟩
  refine F.ok sc_is_everybody (fun vs H Q E h => ?_) (fun cdv A outer s H vs Q E hr h => ?_)
  · first | (obtain ⟨rfl, _⟩ := h; rfl) | (obtain ⟨_, rfl, _⟩ := h; rfl) | (obtain ⟨_, _, rfl, _⟩ := h; rfl) | (obtain ⟨_, _, _, rfl, _⟩ := h; rfl) | (obtain ⟨_, _, _, _, rfl, _⟩ := h; rfl) | (obtain ⟨_, _, _, _, _, rfl, _⟩ := h; rfl) | (obtain ⟨_, _, _, _, _, _, rfl, _⟩ := h; rfl) | (obtain ⟨_, _, _, _, _, _, _, rfl, _⟩ := h; rfl) | (obtain ⟨_, _, _, _, _, _, _, _, rfl, _⟩ := h; rfl) | (obtain ⟨_, _, _, _, _, _, _, _, _, rfl, _⟩ := h; rfl) | (obtain ⟨_, _, _, _, _, _, _, _, _, _, rfl, _⟩ := h; rfl) | (obtain ⟨_, _, _, _, _, _, _, _, _, _, _, rfl, _⟩ := h; rfl) | (obtain ⟨_, _, _, _, _, _, _, _, _, _, _, _, rfl, _⟩ := h; rfl) | (obtain ⟨_, _, _, _, _, _, _, _, _, _, _, _, _, rfl, _⟩ := h; rfl) | (obtain ⟨_, _, _, _, _, _, _, _, _, _, _, _, _, _, rfl, _⟩ := h; rfl) | (obtain ⟨_, _, _, _, _, _, _, _, _, _, _, _, _, _, _, rfl, _⟩ := h; rfl) | (obtain ⟨_, _, _, _, _, _, _, _, _, _, _, _, _, _, _, _, rfl, _⟩ := h; rfl) | (obtain ⟨_, _, _, _, _, _, _, _, _, _, _, _, _, _, _, _, _, rfl, _⟩ := h; rfl) | (obtain ⟨_, _, _, _, _, _, _, _, _, _, _, _, _, _, _, _, _, _, rfl, _⟩ := h; rfl)
  · obtain ⟨n, x, rfl, ⟨t, ht, hm⟩, hk, q⟩ := h
    have hu := hu_of hr
    refine ⟨_, pss_cons (ps_if (PW.pt (pw_or (pt_not (pt_val (pe_callB call_isN rfl T.b_isinstance (by decide +kernel) (pa_cons (pv 1) (pa_cons (pe_bltn (v := .ty "tuple") (by rfl) T.b_tuple (by decide +kernel) rfl) pa_nil))))) (pw_or1 (pt_cmpR op_ne (pe_callB call_lenU rfl T.b_len (by decide +kernel) (pa_cons (pv 1) pa_nil)) (pv 0) (nomark _))))) (pss_one (ps_ret pe_bl))
      (pss_nil))
      (pss_one (ps_ret (pe_and (pe_callB (cr_allH rfl) rfl T.b_all (by decide +kernel) (pa_cons (pe_lc (own := [("person", 2)]) (g := (gName 2)) (tt := tYes) rfl sc_is_everybody.nd (pi_tup (pv 1)) (blkOk_by (own := [("person", 2)]) (N := N_is_everybody) (sc := defScope s_is_everybody) (by decide +kernel)) (fun _ _ _ _ _ => pg_name (i := 2) sc_is_everybody.nd rfl (by first | exact .inl rfl | exact .inr rfl)) (fun _ _ _ _ _ => pts_nil) (fun _ _ _ _ _ => (pe_hd H_is_between (hr.mono (by decide)) rfl pass0 (pa_cons (pv 2) (pa_cons pe_int (pa_cons (pe_op op_sub (pv 0) pe_int) pa_nil)))))) pa_nil)) (pe_one (pe_cmpR op_eq (pe_lenSetT rfl rfl T.b_len rfl T.b_set (pv 1)) (pv 0) (nomark _)))))), ?_⟩
    simp only [L2.start, List.map_cons, List.map_nil, List.length_cons, List.length_nil, Nat.zero_add, Nat.reduceAdd, Nat.reduceSub, List.replicate_succ, List.replicate_zero, List.cons_append, List.nil_append, List.append_nil, L2.tNext, L2.tAsg, L2.gName, L2.tRet, L2.tRetN, L2.tIfS, L2.tVar, L2.tC, L2.tOp, L2.tUn, L2.rI, L2.rI0, L2.rU, L2.rEq, L2.rNe, L2.tTest, L2.tB, L2.tIf, Z.tIfCI, Z.tIfCS, L2.tChain, L2.tCons, L2.tNil, L2.tCall, L2.tDrop, L2.tAndV, L2.tOrV, L2.tNotV, L2.tAnd, L2.tOr, L2.tNot, L2.tCB, Z.sc_ii, Z.sc_ss, Z.sc_bb, Z.sc_is, Z.sc_si, Z.sc_ni, Z.sc_in, Z.sc_ns, Z.sc_sn, Z.sc_nn, L2.CDiv, L2.CPow, L2.CMul, List.getElem?_cons_zero, List.getElem?_cons_succ, Z.set_z, Z.set_s, Option.some.injEq, L2.V.int.injEq, L2.V.bl.injEq, L2.V.str.injEq, L2.V.ref.injEq, L2.V.ty.injEq, List.cons.injEq, exists_eq_left', exists_and_left, exists_eq_left, exists_eq_right, exists_eq_right', exists_eq', exists_eq, true_and, and_true, and_assoc, decide_eq_true_eq, Int.reduceLT, and_self, Z.rIxH, Z.rIxU, Z.at30, Z.at31, Z.at32, Z.ix3_0, Z.ix3_1, Z.ix3_2, L2.rSetL, L2.gSub, Z.gTupH, L2.gCons, L2.gNil, L2.HO.lst.injEq, L2.HO.tup.injEq, L2.upd_same, L2.upd_upd, L2.tSl, L2.tNoPart, L2.tPart, L2.rSlL, L2.rCat, List.length_append, or_false, false_or, or_true, true_or, reduceCtorEq, false_and, and_false, exists_false, Int.reduceNeg, Int.reducePow, Int.reduceToNat, Int.reduceAbs, Int.reduceLE, Int.reduceMul, Int.reduceAdd, Int.reduceSub, Nat.reducePow, Nat.reduceLT, Nat.reduceLeDiff, Int.natAbs_natCast, if_true, if_false, Z.tyN, Z.kit_ii, Z.kit_bi, Z.kit_si, Z.kit_ni, Z.kit_ib, Z.kit_bb, Z.kit_sb, Z.kit_nb, Z.kit_is, Z.kit_bs, Z.kit_ss, Z.kit_ns, Bool.not_true, Bool.not_false, L2.tTup, L2.tLst, L2.wipe, L2.tYes, Z.Turn1, L2.tNever, sizeLine_eq, Z.rInU, Z.rInH, L2.flatV, List.any_cons, List.any_nil, List.all_cons, List.all_nil, Bool.and_true, Bool.true_and, Bool.or_false, Bool.false_or, Z.tBML, L2.rAppend, Z.map_int_inj, Z.map_bl_inj, Z.rTupL, Z.rLstL, Z.rLstT, Z.rSortI, Z.rAnyH, Z.rAllH, Z.rSumH, Z.rLenL, Z.rLenU, List.length_map, L2.tPar, StX.tStar, L2.tDNewT, L2.tDIn, L2.sDPut, L2.tDGet, Z.tCallK0, List.getD_cons_zero, List.getD_cons_succ, L2.tPar3, L2.rLenT, sp_is_between]
    refine z_seq ?_
    simp only [L2.start, List.map_cons, List.map_nil, List.length_cons, List.length_nil, Nat.zero_add, Nat.reduceAdd, Nat.reduceSub, List.replicate_succ, List.replicate_zero, List.cons_append, List.nil_append, List.append_nil, L2.tNext, L2.tAsg, L2.gName, L2.tRet, L2.tRetN, L2.tIfS, L2.tVar, L2.tC, L2.tOp, L2.tUn, L2.rI, L2.rI0, L2.rU, L2.rEq, L2.rNe, L2.tTest, L2.tB, L2.tIf, Z.tIfCI, Z.tIfCS, L2.tChain, L2.tCons, L2.tNil, L2.tCall, L2.tDrop, L2.tAndV, L2.tOrV, L2.tNotV, L2.tAnd, L2.tOr, L2.tNot, L2.tCB, Z.sc_ii, Z.sc_ss, Z.sc_bb, Z.sc_is, Z.sc_si, Z.sc_ni, Z.sc_in, Z.sc_ns, Z.sc_sn, Z.sc_nn, L2.CDiv, L2.CPow, L2.CMul, List.getElem?_cons_zero, List.getElem?_cons_succ, Z.set_z, Z.set_s, Option.some.injEq, L2.V.int.injEq, L2.V.bl.injEq, L2.V.str.injEq, L2.V.ref.injEq, L2.V.ty.injEq, List.cons.injEq, exists_eq_left', exists_and_left, exists_eq_left, exists_eq_right, exists_eq_right', exists_eq', exists_eq, true_and, and_true, and_assoc, decide_eq_true_eq, Int.reduceLT, and_self, Z.rIxH, Z.rIxU, Z.at30, Z.at31, Z.at32, Z.ix3_0, Z.ix3_1, Z.ix3_2, L2.rSetL, L2.gSub, Z.gTupH, L2.gCons, L2.gNil, L2.HO.lst.injEq, L2.HO.tup.injEq, L2.upd_same, L2.upd_upd, L2.tSl, L2.tNoPart, L2.tPart, L2.rSlL, L2.rCat, List.length_append, or_false, false_or, or_true, true_or, reduceCtorEq, false_and, and_false, exists_false, Int.reduceNeg, Int.reducePow, Int.reduceToNat, Int.reduceAbs, Int.reduceLE, Int.reduceMul, Int.reduceAdd, Int.reduceSub, Nat.reducePow, Nat.reduceLT, Nat.reduceLeDiff, Int.natAbs_natCast, if_true, if_false, Z.tyN, Z.kit_ii, Z.kit_bi, Z.kit_si, Z.kit_ni, Z.kit_ib, Z.kit_bb, Z.kit_sb, Z.kit_nb, Z.kit_is, Z.kit_bs, Z.kit_ss, Z.kit_ns, Bool.not_true, Bool.not_false, L2.tTup, L2.tLst, L2.wipe, L2.tYes, Z.Turn1, L2.tNever, sizeLine_eq, Z.rInU, Z.rInH, L2.flatV, List.any_cons, List.any_nil, List.all_cons, List.all_nil, Bool.and_true, Bool.true_and, Bool.or_false, Bool.false_or, Z.tBML, L2.rAppend, Z.map_int_inj, Z.map_bl_inj, Z.rTupL, Z.rLstL, Z.rLstT, Z.rSortI, Z.rAnyH, Z.rAllH, Z.rSumH, Z.rLenL, Z.rLenU, List.length_map, L2.tPar, StX.tStar, L2.tDNewT, L2.tDIn, L2.sDPut, L2.tDGet, Z.tCallK0, List.getD_cons_zero, List.getD_cons_succ, L2.tPar3, L2.rLenT, sp_is_between]
    refine ⟨x, "tuple", rfl, t, ht, _, (kit_all t hm).2.2.1, ?_⟩
    refine ⟨_, rfl, ?_⟩
    by_cases c : t = "tuple"
    · subst c
      obtain ⟨a, xs, rfl, ha⟩ := row_of_tuple ht
      have hr := rowOf_tup ha
      obtain ⟨hl, hz⟩ := hk xs hr
      rw [hr] at q
      rw [decide_eq_true rfl, if_neg (by decide)]
      refine ⟨a, rfl, _, ha, ?_⟩
      by_cases c1 : (xs.length : Int) = n
      · rw [decide_eq_true c1, if_neg (by decide)]
        refine lc_mapT (a := a) (xs := xs) (H1 := H) (blF (inB 0 (n - 1))) (fun R h => ⟨_, rfl, h⟩) (SqT.of ha) hl (fun z hz1 H1 s1 => ?_) fun D H1 hD s1 e1 => ?_
        · intro Y N hY hN
          simp? only [sp_is_between]
          exact ⟨(hz z hz1).same s1, hY _ H1 rfl (Same.refl _)⟩
        · rw [fm_bl] at e1
          refine ⟨D, rfl, _, e1, ?_⟩
          rw [all_map]
          have q1 := q H1 s1
          rw [everyB_some] at q1
          by_cases c2 : xs.all (inB 0 (n - 1)) = true
          · rw [if_pos c2]
            obtain ⟨b1, b2⟩ := ints_back c2
            have hle : (intsOf xs).length = xs.length := by
              have := congrArg List.length b1
              rw [List.length_map] at this
              exact this.symm
            refine ⟨_, rfl, a, intsOf xs, rfl, by rw [← b1]; exact s1 _ _ ha, by omega, fun m hmn hmem => ⟨rfl, ?_⟩⟩
            have e : decide (V.int ((m.length : Nat) : Int) = V.int n) = decide ((intsOf xs).Nodup) := by
              rw [decide_eq_decide, ← nodup_len hmn hmem, hle]
              constructor
              · intro h
                have := V.int.inj h
                omega
              · intro h
                rw [h, c1]
            rw [e]
            rw [decide_eq_true c1, c2] at q1
            exact q1
          · rw [if_neg c2]
            have c3 : xs.all (inB 0 (n - 1)) = false := by
              cases h : xs.all (inB 0 (n - 1))
              · rfl
              · exact absurd h c2
            rw [c3, Bool.false_and, Bool.and_false] at q1
            exact q1
      · rw [decide_eq_false c1, if_pos (by decide)]
        have q1 := q H (Same.refl _)
        rw [everyB_some] at q1
        rw [decide_eq_false c1, Bool.false_and] at q1
        exact q1
    · rw [decide_eq_false c, if_pos (by decide)]
      rw [rowOf_none ht c] at q
      exact q _ (Same.refl _)
theorem sort_two (a b : Int) : [a, b].mergeSort = [(mm a b).1, (mm a b).2] := by
  refine (perm_sort ?_ ?_).symm
  · unfold mm
    by_cases c : b < a
    · rw [if_pos c, if_neg (by omega)]
      exact List.Perm.swap _ _ _
    · rw [if_neg c]
      by_cases d : b > a
      · rw [if_pos d]
      · rw [if_neg d]
        have : a = b := by omega
        rw [this]
  · refine List.pairwise_cons.mpr ⟨fun z hz => ?_, List.pairwise_cons.mpr ⟨fun _ h => absurd h List.not_mem_nil, List.Pairwise.nil⟩⟩
    rw [List.mem_singleton.mp hz]
    unfold mm
    dsimp only
    split <;> split <;> omega
theorem getD_at {l : List Int} {i : Int} (h0 : 0 ≤ i) (h1 : i < l.length) : atI (l.map V.int) i = some (.int (l.getD i.toNat 0)) := by
  refine atI_int h0 ?_
  rw [List.getElem?_map, List.getD_eq_getElem?_getD, List.getElem?_eq_getElem (by omega)]
  rfl
theorem upto_ups (n : Int) : upto n = (ups n).map V.int := by
  unfold upto ups
  rw [List.map_map]
  rfl
def sp_pairs_on : Sp := fun vs H Q _ => ∃ (r : Bool) (a : Addr) (l : List Int), vs = [.str (kindS r), .ref a] ∧ TupAt H a l ∧ 0 < l.length ∧ l.length ≤ 1000 ∧ ∀ D as qs H', H D = none → Same H H' → H' D = some (.lst (as.map V.ref)) → Paired (PairAt H') as qs → qs.Perm (nbL r l) → Lex qs → Q (.ref D) H'
theorem ok_pairs_on (T : Env P K mg c__law_right) : Hd P w K mg base CX0 1 "pairs_on" s_pairs_on ["kind", "some"] sp_pairs_on := by
  obtain ⟨f, fd, F, hm⟩ := T.d_pairs_on
  refine ⟨⟨f, fd, F, hm, ?_⟩, fun _ _ _ _ _ _ _ us hl => match us, hl with | [_, _], _ => rfl⟩
  refine F.ok sc_pairs_on (fun vs H Q E h => ?_) (fun cdv A outer s H vs Q E hr h => ?_)
  · first | (obtain ⟨rfl, _⟩ := h; rfl) | (obtain ⟨_, rfl, _⟩ := h; rfl) | (obtain ⟨_, _, rfl, _⟩ := h; rfl) | (obtain ⟨_, _, _, rfl, _⟩ := h; rfl) | (obtain ⟨_, _, _, _, rfl, _⟩ := h; rfl) | (obtain ⟨_, _, _, _, _, rfl, _⟩ := h; rfl) | (obtain ⟨_, _, _, _, _, _, rfl, _⟩ := h; rfl) | (obtain ⟨_, _, _, _, _, _, _, rfl, _⟩ := h; rfl) | (obtain ⟨_, _, _, _, _, _, _, _, rfl, _⟩ := h; rfl) | (obtain ⟨_, _, _, _, _, _, _, _, _, rfl, _⟩ := h; rfl) | (obtain ⟨_, _, _, _, _, _, _, _, _, _, rfl, _⟩ := h; rfl) | (obtain ⟨_, _, _, _, _, _, _, _, _, _, _, rfl, _⟩ := h; rfl) | (obtain ⟨_, _, _, _, _, _, _, _, _, _, _, _, rfl, _⟩ := h; rfl) | (obtain ⟨_, _, _, _, _, _, _, _, _, _, _, _, _, rfl, _⟩ := h; rfl) | (obtain ⟨_, _, _, _, _, _, _, _, _, _, _, _, _, _, rfl, _⟩ := h; rfl) | (obtain ⟨_, _, _, _, _, _, _, _, _, _, _, _, _, _, _, rfl, _⟩ := h; rfl) | (obtain ⟨_, _, _, _, _, _, _, _, _, _, _, _, _, _, _, _, rfl, _⟩ := h; rfl) | (obtain ⟨_, _, _, _, _, _, _, _, _, _, _, _, _, _, _, _, _, rfl, _⟩ := h; rfl) | (obtain ⟨_, _, _, _, _, _, _, _, _, _, _, _, _, _, _, _, _, _, rfl, _⟩ := h; rfl)
  · obtain ⟨r, a, l, rfl, ha, h0, h1, q⟩ := h
    have hu := hu_of hr
    refine ⟨_, pss_cons (ps_set (i := 2) sc_pairs_on.nd rfl (by first | exact .inl rfl | exact .inr rfl) (pe_cutZ (pe_ifExp (pt_cmpR op_eq (pv 0) (pe_glob (v := .str "rings") rfl T.c_RINGS.choose_spec ⟨_, rfl⟩) (nomark _)) (pe_callB call_lenU rfl T.b_len (by decide +kernel) (pa_cons (pv 1) pa_nil)) (pe_op op_sub (pe_callB call_lenU rfl T.b_len (by decide +kernel) (pa_cons (pv 1) pa_nil)) pe_int))))
      (pss_one (ps_ret (pe_callB cr_sortedPr rfl T.b_sorted (by decide +kernel) (pa_cons (pe_lc (own := [("at", 3)]) (g := (gName 3)) (tt := tYes) rfl sc_pairs_on.nd (pi_range1 rfl T.b_range (pa_cons (pv 2) pa_nil)) (blkOk_by (own := [("at", 3)]) (N := N_pairs_on) (sc := defScope s_pairs_on) (by decide +kernel)) (fun _ _ _ _ _ => pg_name (i := 3) sc_pairs_on.nd rfl (by first | exact .inl rfl | exact .inr rfl)) (fun _ _ _ _ _ => pts_nil) (fun _ _ _ _ _ => (pe_callTy call_tupleL rfl T.b_tuple (by decide +kernel) (pa_cons (pe_callB cr_sortedH rfl T.b_sorted (by decide +kernel) (pa_cons (pe_lst (pa_cons (pe_ix ix_tupH (pv 1) (pv 3) (fun _ _ => rfl)) (pa_cons (pe_ix ix_tupH (pv 1) (pe_op op_mod (pe_op op_add (pv 3) pe_int) (pe_callB call_lenU rfl T.b_len (by decide +kernel) (pa_cons (pv 1) pa_nil))) (fun _ _ => rfl)) pa_nil))) pa_nil)) pa_nil)))) pa_nil)))), ?_⟩
    simp? only [true_and]
    refine z_seq ?_
    simp? only [kind_eq]
    refine ⟨fun v H1 => v = .int (if r = true then (l.length : Int) else (l.length : Int) - 1) ∧ H1 = H, ?_, ?_⟩
    · simp? only [kind_eq]
      have e : (((l.map V.int).length : Nat) : Int) = (l.length : Int) := by rw [List.length_map]
      cases r
      · rw [if_neg Bool.false_ne_true]
        refine ⟨_, ha, ?_⟩
        rw [e]
        first | exact ⟨rfl, rfl⟩ | rfl
      · rw [if_pos rfl]
        refine ⟨_, ha, ?_⟩
        rw [e]
        first | exact ⟨rfl, rfl⟩ | rfl
    · rintro v H1 ⟨rfl, rfl⟩
      have hb : 0 ≤ (if r = true then (l.length : Int) else (l.length : Int) - 1) ∧ (if r = true then (l.length : Int) else (l.length : Int) - 1) ≤ l.length := by split <;> omega
      refine lc_rngO (H1 := H1) (n := if r = true then (l.length : Int) else (l.length : Int) - 1) (intO fun k => pairO (mm (l.getD k.toNat 0) (l.getD ((k + 1) % (l.length : Int)).toNat 0))) (fun R h => ⟨_, rfl, h⟩) (by omega) (fun k hk H2 s2 => ?_) fun D H2 as hD s2 e2 pr => ?_
      · have ha2 := s2 _ _ ha
        have g1 := getD_at (l := l) (show 0 ≤ (k : Int) by omega) (by omega)
        have m1 := Int.emod_nonneg ((k : Int) + 1) (show (l.length : Int) ≠ 0 by omega)
        have m2 := Int.emod_lt_of_pos ((k : Int) + 1) (show 0 < (l.length : Int) by omega)
        have g2 := getD_at (l := l) m1 m2
        intro Y N hY hN
        simp? only [true_and]
        refine ⟨_, ha2, _, g1, _, ha2, by rw [List.length_map]; omega, _, ha2, _, by rw [List.length_map]; exact g2, fun p hp => ⟨[l.getD (k : Int).toNat 0, l.getD (((k : Int) + 1) % (l.length : Int)).toNat 0], rfl, by show 2 < 64; decide, fun p1 hp1 l1 hl1 => ?_⟩⟩
        rw [sort_two] at hl1 ⊢
        have s3 := (same_new (o := .lst [.int (l.getD (k : Int).toNat 0), .int (l.getD (((k : Int) + 1) % (l.length : Int)).toNat 0)]) hp).trans (same_new (o := .lst ([(mm (l.getD (k : Int).toNat 0) (l.getD (((k : Int) + 1) % (l.length : Int)).toNat 0)).1, (mm (l.getD (k : Int).toNat 0) (l.getD (((k : Int) + 1) % (l.length : Int)).toNat 0)).2].map V.int)) hp1)
        exact hY _ l1 _ rfl (s3.free hl1) (same_upd s3 (s3.free hl1)) upd_same
      · have e3 : (upto (if r = true then (l.length : Int) else (l.length : Int) - 1)).filterMap (intO fun k => pairO (mm (l.getD k.toNat 0) (l.getD ((k + 1) % (l.length : Int)).toNat 0))) = (nbL r l).map pairO := by
          rw [upto_ups, fm_intO]
          unfold nbL
          rw [List.map_map]
          rfl
        rw [e3] at pr
        refine ⟨D, as, nbL r l, rfl, e2, prs_of pr, fun bs qs p hp hbs hqs hlex pq => ?_⟩
        exact q p bs qs _ (s2.free hp) (same_upd s2 (s2.free hp)) upd_same (prs_same (same_new hp) pq) hqs hlex
open Zig
inductive WR where
  | ok | number | evenings | people (e : Int) | again (p q e : Int)
  deriving DecidableEq
def isWR (H : Hp) (v : V) : WR → Prop
  | .ok => v = .non
  | .number => v = .str "number"
  | .evenings => v = .str "evenings"
  | .people e => ∃ t, v = .ref t ∧ H t = some (.tup [.str "people", .int e])
  | .again p q e => ∃ t, v = .ref t ∧ H t = some (.tup [.str "again", .int p, .int q, .int e])
def sortP (l : List (Int × Int)) : List (Int × Int) := l.mergeSort fun p q => !SrtO.lexB q p
theorem sortP_perm (l : List (Int × Int)) : (sortP l).Perm l := List.mergeSort_perm _ _
theorem sortP_lex (l : List (Int × Int)) : Lex (sortP l) := by
  have h := List.pairwise_mergeSort (le := fun p q : Int × Int => !SrtO.lexB q p) (fun x y z h1 h2 => by
    simp only [Bool.not_eq_true'] at *
    have a := SrtO.lexB_no.mp h1
    have b := SrtO.lexB_no.mp h2
    exact SrtO.lexB_no.mpr (by omega)) (fun x y => by
    simp only [Bool.or_eq_true, Bool.not_eq_true']
    cases h : SrtO.lexB y x
    · exact .inl rfl
    · right
      have a := SrtO.lexB_iff.mp h
      exact SrtO.lexB_no.mpr (by omega)) l
  exact h.imp fun h => by simpa using h
def wrongFrom (r : Bool) : List (Int × Int) → Int → List (List Int) → WR
  | _, _, [] => .ok
  | past, e, l :: ls => match (sortP (nbL r l)).find? fun p => decide (p ∈ past) with
    | some p => .again p.1 p.2 e
    | none => wrongFrom r (past ++ nbL r l) (e + 1) ls
def rowInts (H : Hp) (v : V) : List Int := intsOf ((rowOf H v).getD [])
def peopleFrom (n : Int) (H : Hp) : Int → List V → WR → WR
  | _, [], w => w
  | e, v :: vs, w => if everyB n (rowOf H v) = true then peopleFrom n H (e + 1) vs w else .people e
theorem peopleFrom_cons (n : Int) (H : Hp) (e : Int) (v : V) (vs : List V) (w : WR) : peopleFrom n H e (v :: vs) w = if everyB n (rowOf H v) = true then peopleFrom n H (e + 1) vs w else .people e := rfl
def wrongE (r : Bool) (H : Hp) (n : Int) : Option (List V) → WR
  | none => .evenings
  | some rows => if (rows.length : Int) = nights r n then peopleFrom n H 0 rows (wrongFrom r [] 0 (rows.map (rowInts H))) else .evenings
def wrongR (r : Bool) (H : Hp) : V → V → WR
  | .int n, ev => if sizeV r n (.int n) = true then wrongE r H n (rowOf H ev) else .number
  | _, _ => .number
theorem wrongR_int (r : Bool) (H : Hp) (n : Int) (ev : V) : wrongR r H (.int n) ev = if sizeV r n (.int n) = true then wrongE r H n (rowOf H ev) else .number := rfl
def keyP (p : Int × Int) : List Key := [.inl p.1, .inl p.2]
theorem keyP_inj {p q : Int × Int} (h : keyP p = keyP q) : p = q := by
  obtain ⟨a, b⟩ := p
  obtain ⟨c, d⟩ := q
  unfold keyP at h
  have h1 := List.cons.inj h
  have h2 := List.cons.inj h1.2
  have e1 : a = c := Sum.inl.inj h1.1
  have e2 : b = d := Sum.inl.inj h2.1
  rw [e1, e2]
def againF (H : Hp) (past : List (Int × Int)) (v : V) : Option V := if pairOf H v ∈ past then some v else none
theorem again_head {H : Hp} {past : List (Int × Int)} : ∀ {as : List Addr} {qs : List (Int × Int)}, Paired (PairAt H) as qs →
    ((as.map V.ref).filterMap (againF H past) = [] ∧ qs.find? (fun p => decide (p ∈ past)) = none) ∨ ∃ t p rest, (as.map V.ref).filterMap (againF H past) = .ref t :: rest ∧ PairAt H t p ∧ qs.find? (fun p => decide (p ∈ past)) = some p
  | _, _, .nil => .inl ⟨rfl, rfl⟩
  | _, _, .cons (a := a) (b := b) f r => by
    rw [List.map_cons, List.filterMap_cons, List.find?_cons]
    unfold againF
    rw [pairOf_at f]
    by_cases c : b ∈ past
    · rw [if_pos c, decide_eq_true c]
      exact .inr ⟨a, b, _, rfl, f, rfl⟩
    · rw [if_neg c, decide_eq_false c]
      exact again_head r
theorem wrongFrom_cons (r : Bool) (past : List (Int × Int)) (e : Int) (l : List Int) (ls : List (List Int)) : wrongFrom r past e (l :: ls) = match (sortP (nbL r l)).find? fun p => decide (p ∈ past) with
    | some p => .again p.1 p.2 e
    | none => wrongFrom r (past ++ nbL r l) (e + 1) ls := rfl
theorem every_ints {n : Int} {H : Hp} {z : V} (h : everyB n (rowOf H z) = true) : ∃ b l, z = .ref b ∧ TupAt H b l ∧ rowInts H z = l ∧ (l.length : Int) = n := by
  cases z with
  | ref b =>
    cases e : H b with
    | none =>
      simp only [rowOf, e] at h
      cases h
    | some o =>
      cases o with
      | tup xs =>
        have er := rowOf_tup e
        rw [er, everyB_some, Bool.and_eq_true, Bool.and_eq_true] at h
        obtain ⟨b1, b2⟩ := ints_back h.2.1
        refine ⟨b, intsOf xs, rfl, ?_, ?_, ?_⟩
        · unfold Z.TupAt
          rw [← b1]
          exact e
        · unfold rowInts
          rw [er]
          rfl
        · have h1 := of_decide_eq_true h.1
          have := congrArg List.length b1
          rw [List.length_map] at this
          omega
      | _ =>
        simp only [rowOf, e] at h
        cases h
  | _ => cases h
/-- a value whose parts are known, too -/
def Known2 (H : Hp) (x : V) : Prop := Known H x ∧ ∀ xs, rowOf H x = some xs → xs.length ≤ 1000 ∧ ∀ z ∈ xs, Known H z
def Known3 (H : Hp) (x : V) : Prop := Known H x ∧ ∀ xs, rowOf H x = some xs → xs.length ≤ 1000 ∧ ∀ z ∈ xs, Known2 H z
theorem rowOf_same {H H' : Hp} {x : V} (k : Known H x) (s : Same H H') : rowOf H' x = rowOf H x := by
  cases x with
  | ref a =>
    obtain ⟨t, ht, _⟩ := k
    simp only [tyN] at ht
    simp only [rowOf]
    cases e : H a with
    | none =>
      rw [e] at ht
      cases ht
    | some o => rw [s _ _ e]
  | _ => rfl
theorem Known2.same {H H' : Hp} {x : V} (k : Known2 H x) (s : Same H H') : Known2 H' x := by
  refine ⟨k.1.same s, fun xs h => ?_⟩
  rw [rowOf_same k.1 s] at h
  obtain ⟨h1, h2⟩ := k.2 xs h
  exact ⟨h1, fun z hz => (h2 z hz).same s⟩
def sp_wrong_of : Sp := fun vs H Q _ => ∃ (r : Bool) (x ev : V), vs = [.str (kindS r), x, ev] ∧ Known H x ∧ Known3 H ev ∧ ∀ v H', Same H H' → isWR H' v (wrongR r H x ev) → Q v H'
theorem ok_wrong_of (T : Env P K mg c__law_right) : Hd P w K mg base CX0 4 "wrong_of" s_wrong_of ["kind", "n", "evenings"] sp_wrong_of := by
  have H_pairs_on := ok_pairs_on (P := P) (w := w) (base := base) T
  have H_is_everybody := ok_is_everybody (P := P) (w := w) (base := base) T
  have H_evenings_for := ok_evenings_for (P := P) (w := w) (base := base) T
  have H_is_size := ok_is_size (P := P) (w := w) (base := base) T
  have H_is_integer := ok_is_integer (P := P) (w := w) (base := base) T
  obtain ⟨f, fd, F, hm⟩ := T.d_wrong_of
  refine ⟨⟨f, fd, F, hm, ?_⟩, fun _ _ _ _ _ _ _ us hl => match us, hl with | [_, _, _], _ => rfl⟩
  refine F.ok sc_wrong_of (fun vs H Q E h => ?_) (fun cdv A outer s H vs Q E hr h => ?_)
  · first | (obtain ⟨rfl, _⟩ := h; rfl) | (obtain ⟨_, rfl, _⟩ := h; rfl) | (obtain ⟨_, _, rfl, _⟩ := h; rfl) | (obtain ⟨_, _, _, rfl, _⟩ := h; rfl) | (obtain ⟨_, _, _, _, rfl, _⟩ := h; rfl) | (obtain ⟨_, _, _, _, _, rfl, _⟩ := h; rfl) | (obtain ⟨_, _, _, _, _, _, rfl, _⟩ := h; rfl) | (obtain ⟨_, _, _, _, _, _, _, rfl, _⟩ := h; rfl) | (obtain ⟨_, _, _, _, _, _, _, _, rfl, _⟩ := h; rfl) | (obtain ⟨_, _, _, _, _, _, _, _, _, rfl, _⟩ := h; rfl) | (obtain ⟨_, _, _, _, _, _, _, _, _, _, rfl, _⟩ := h; rfl) | (obtain ⟨_, _, _, _, _, _, _, _, _, _, _, rfl, _⟩ := h; rfl) | (obtain ⟨_, _, _, _, _, _, _, _, _, _, _, _, rfl, _⟩ := h; rfl) | (obtain ⟨_, _, _, _, _, _, _, _, _, _, _, _, _, rfl, _⟩ := h; rfl) | (obtain ⟨_, _, _, _, _, _, _, _, _, _, _, _, _, _, rfl, _⟩ := h; rfl) | (obtain ⟨_, _, _, _, _, _, _, _, _, _, _, _, _, _, _, rfl, _⟩ := h; rfl) | (obtain ⟨_, _, _, _, _, _, _, _, _, _, _, _, _, _, _, _, rfl, _⟩ := h; rfl) | (obtain ⟨_, _, _, _, _, _, _, _, _, _, _, _, _, _, _, _, _, rfl, _⟩ := h; rfl) | (obtain ⟨_, _, _, _, _, _, _, _, _, _, _, _, _, _, _, _, _, _, rfl, _⟩ := h; rfl)
  · obtain ⟨r, x, ev, rfl, kx, ke, q⟩ := h
    have hu := hu_of hr
    refine ⟨_, pss_cons (ps_if (PW.pt (pw_or (pt_not (pt_val (pe_hd H_is_integer (hr.mono (by decide)) rfl pass0 (pa_cons (pv 1) pa_nil)))) (pw_or1 (pt_not (pt_val (pe_hd H_is_size (hr.mono (by decide)) rfl pass0 (pa_cons (pv 0) (pa_cons (pv 1) (pa_cons (pv 1) pa_nil))))))))) (pss_one (ps_ret pe_str))
      (pss_nil))
      (pss_cons (ps_if (PW.pt (pw_or (pt_not (pt_val (pe_callB call_isN rfl T.b_isinstance (by decide +kernel) (pa_cons (pv 2) (pa_cons (pe_bltn (v := .ty "tuple") (by rfl) T.b_tuple (by decide +kernel) rfl) pa_nil))))) (pw_or1 (pt_cmpR op_ne (pe_callB call_lenU rfl T.b_len (by decide +kernel) (pa_cons (pv 2) pa_nil)) (pe_hd H_evenings_for (hr.mono (by decide)) rfl pass0 (pa_cons (pv 0) (pa_cons (pv 1) pa_nil))) (nomark _))))) (pss_one (ps_ret pe_str))
      (pss_nil))
      (pss_cons (ps_for PassesOwn.never rfl (pi_enumT rfl T.b_enumerate (pa_cons (pv 2) pa_nil)) (pg_tupH (n := 2) rfl (pgs_cons (pg_name (i := 3) sc_wrong_of.nd rfl (by first | exact .inl rfl | exact .inr rfl)) (pgs_cons (pg_name (i := 4) sc_wrong_of.nd rfl (by first | exact .inl rfl | exact .inr rfl)) pgs_nil)))
      (pss_one (ps_if (pt_not (pt_val (pe_hd H_is_everybody (hr.mono (by decide)) rfl pass0 (pa_cons (pv 1) (pa_cons (pv 4) pa_nil))))) (pss_one (ps_ret (pe_tup (pa_cons pe_str (pa_cons (pv 3) pa_nil)))))
      (pss_nil))))
      (pss_cons (ps_set (i := 5) sc_wrong_of.nd rfl (by first | exact .inl rfl | exact .inr rfl) pe_dnewT)
      (pss_cons (ps_for PassesOwn.never rfl (pi_enumT rfl T.b_enumerate (pa_cons (pv 2) pa_nil)) (pg_tupH (n := 2) rfl (pgs_cons (pg_name (i := 3) sc_wrong_of.nd rfl (by first | exact .inl rfl | exact .inr rfl)) (pgs_cons (pg_name (i := 4) sc_wrong_of.nd rfl (by first | exact .inl rfl | exact .inr rfl)) pgs_nil)))
      (pss_cons (ps_set (i := 6) sc_wrong_of.nd rfl (by first | exact .inl rfl | exact .inr rfl) (pe_hd H_pairs_on (hr.mono (by decide)) rfl pass0 (pa_cons (pv 0) (pa_cons (pv 4) pa_nil))))
      (pss_cons (ps_setLc (i := 8) (own := [("pair", 7)]) (g := (gName 7)) rfl sc_wrong_of.nd rfl rfl (sw_true rfl rfl rfl (by decide +kernel)) (pi_list (pv 6)) (blkOk_by (own := [("pair", 7)]) (N := N_wrong_of) (sc := defScope s_wrong_of) (by decide +kernel)) (fun _ _ _ _ _ => pg_name (i := 7) sc_wrong_of.nd rfl (by first | exact .inl rfl | exact .inr rfl)) (fun _ _ _ _ _ => (pts_one (pt_cmp (pc_din (by exact hu) (pv 7) (pv 5))))) (fun _ _ _ _ _ => (pv 7)))
      (pss_cons (ps_if (pt_truth (pv 8) (by intro _; rfl)) (pss_one (ps_ret (pe_tup (pa_cons pe_str (StX.pa_star (pe_ix ix_listH (pv 8) pe_int (fun _ _ => rfl)) (pa_cons (pv 3) pa_nil))))))
      (pss_nil))
      (pss_one (ps_for PassesOwn.never rfl (pi_list (pv 6)) (pg_name (i := 7) sc_wrong_of.nd rfl (by first | exact .inl rfl | exact .inr rfl))
      (pss_one (ps_dput hu (pv 5) (pv 7) (pv 3) rfl))))))))
      (pss_one (ps_ret pe_non)))))), ?_⟩
    simp? only [sp_pairs_on, sp_is_everybody, sp_evenings_for, sp_is_size, sp_is_integer]
    refine z_seq ?_
    simp? only [sp_pairs_on, sp_is_everybody, sp_evenings_for, sp_is_size, sp_is_integer, kind_inj]
    refine ⟨kx, ?_⟩
    cases x with
    | int n =>
      simp only [isI, Bool.not_true, Bool.false_eq_true, if_false, L2.V.int.injEq, exists_eq_left']
      refine ⟨kx, ?_⟩
      by_cases c1 : sizeV r n (.int n) = true
      · rw [c1, if_neg (by decide)]
        have hsz : 2 ≤ n ∧ 0 ≤ nights r n := by
          unfold sizeV at c1
          unfold nights
          cases r <;> simp at c1 ⊢ <;> omega
        refine z_seq ?_
        simp only [L2.start, List.map_cons, List.map_nil, List.length_cons, List.length_nil, Nat.zero_add, Nat.reduceAdd, Nat.reduceSub, List.replicate_succ, List.replicate_zero, List.cons_append, List.nil_append, List.append_nil, L2.tNext, L2.tAsg, L2.gName, L2.tRet, L2.tRetN, L2.tIfS, L2.tVar, L2.tC, L2.tOp, L2.tUn, L2.rI, L2.rI0, L2.rU, L2.rEq, L2.rNe, L2.tTest, L2.tB, L2.tIf, Z.tIfCI, Z.tIfCS, L2.tChain, L2.tCons, L2.tNil, L2.tCall, L2.tDrop, L2.tAndV, L2.tOrV, L2.tNotV, L2.tAnd, L2.tOr, L2.tNot, L2.tCB, Z.sc_ii, Z.sc_ss, Z.sc_bb, Z.sc_is, Z.sc_si, Z.sc_ni, Z.sc_in, Z.sc_ns, Z.sc_sn, Z.sc_nn, L2.CDiv, L2.CPow, L2.CMul, List.getElem?_cons_zero, List.getElem?_cons_succ, Z.set_z, Z.set_s, Option.some.injEq, L2.V.int.injEq, L2.V.bl.injEq, L2.V.str.injEq, L2.V.ref.injEq, L2.V.ty.injEq, List.cons.injEq, exists_eq_left', exists_and_left, exists_eq_left, exists_eq_right, exists_eq_right', exists_eq', exists_eq, true_and, and_true, and_assoc, decide_eq_true_eq, Int.reduceLT, and_self, Z.rIxH, Z.rIxU, Z.at30, Z.at31, Z.at32, Z.ix3_0, Z.ix3_1, Z.ix3_2, L2.rSetL, L2.gSub, Z.gTupH, L2.gCons, L2.gNil, L2.HO.lst.injEq, L2.HO.tup.injEq, L2.upd_same, L2.upd_upd, L2.tSl, L2.tNoPart, L2.tPart, L2.rSlL, L2.rCat, List.length_append, or_false, false_or, or_true, true_or, reduceCtorEq, false_and, and_false, exists_false, Int.reduceNeg, Int.reducePow, Int.reduceToNat, Int.reduceAbs, Int.reduceLE, Int.reduceMul, Int.reduceAdd, Int.reduceSub, Nat.reducePow, Nat.reduceLT, Nat.reduceLeDiff, Int.natAbs_natCast, if_true, if_false, Z.tyN, Z.kit_ii, Z.kit_bi, Z.kit_si, Z.kit_ni, Z.kit_ib, Z.kit_bb, Z.kit_sb, Z.kit_nb, Z.kit_is, Z.kit_bs, Z.kit_ss, Z.kit_ns, Bool.not_true, Bool.not_false, L2.tTup, L2.tLst, L2.wipe, L2.tYes, Z.Turn1, L2.tNever, sizeLine_eq, Z.rInU, Z.rInH, L2.flatV, List.any_cons, List.any_nil, List.all_cons, List.all_nil, Bool.and_true, Bool.true_and, Bool.or_false, Bool.false_or, Z.tBML, L2.rAppend, Z.map_int_inj, Z.map_bl_inj, Z.rTupL, Z.rLstL, Z.rLstT, Z.rSortI, Z.rAnyH, Z.rAllH, Z.rSumH, Z.rLenL, Z.rLenU, List.length_map, L2.tPar, StX.tStar, L2.tDNewT, L2.tDIn, L2.sDPut, L2.tDGet, Z.tCallK0, List.getD_cons_zero, List.getD_cons_succ, L2.tPar3, L2.rLenT, sp_pairs_on, sp_is_everybody, sp_evenings_for, sp_is_size, sp_is_integer]
        obtain ⟨⟨t, ht, hm⟩, k3⟩ := ke
        refine ⟨ev, "tuple", rfl, t, ht, _, (kit_all t hm).2.2.1, ?_⟩
        refine ⟨_, rfl, ?_⟩
        by_cases c2 : t = "tuple"
        · subst c2
          obtain ⟨a, rows, rfl, ha⟩ := row_of_tuple ht
          have hr := rowOf_tup ha
          obtain ⟨hl, hz⟩ := k3 rows hr
          rw [decide_eq_true rfl, if_neg (by decide)]
          have q1 : ∀ v H', Same H H' → isWR H' v (if (rows.length : Int) = nights r n then peopleFrom n H 0 rows (wrongFrom r [] 0 (rows.map (rowInts H))) else .evenings) → Q v H' := fun v H' s1 w => q v H' s1 (by
            rw [wrongR_int, if_pos c1, hr]
            exact w)
          clear q
          refine ⟨a, rfl, _, ha, r, rfl, ?_⟩
          by_cases c3 : (rows.length : Int) = nights r n
          · rw [decide_eq_true c3, if_neg (by decide)]
            refine z_seq ?_
            refine for_enT (a := a) (xs := rows) (fun R h => ⟨_, rfl, h⟩) (fun i σ H' => ∃ v3 v4, σ = [some (.str (kindS r)), some (.int n), some (.ref a), v3, v4, none, none, none, none] ∧ Same H H' ∧ peopleFrom n H 0 rows (wrongFrom r [] 0 (rows.map (rowInts H))) = peopleFrom n H i (rows.drop i) (wrongFrom r [] 0 (rows.map (rowInts H))) ∧ ∀ v ∈ rows.take i, everyB n (rowOf H v) = true) ⟨_, _, rfl, Same.refl _, rfl, fun _ h => absurd h List.not_mem_nil⟩ (fun _ _ _ h => by obtain ⟨_, _, _, h, _⟩ := h; exact SqT.of (h _ _ ha)) ?_ ?_
            · rintro i z σ H0 hiz ⟨v3, v4, rfl, s0, ep, ea⟩ N hN T hT
              simp? only [sp_pairs_on, sp_is_everybody, sp_evenings_for, sp_is_size, sp_is_integer]
              have hlt : i < rows.length := (List.getElem?_eq_some_iff.mp hiz).1
              have hzi : rows[i] = z := (List.getElem?_eq_some_iff.mp hiz).2
              have hmem : z ∈ rows := List.mem_of_getElem? hiz
              have s1 := s0.trans (same_new (o := .tup [.int (i : Nat), z]) hT)
              have kz := (hz z hmem).same s1
              have er := rowOf_same (hz z hmem).1 s1
              have hd : rows.drop i = z :: rows.drop (i + 1) := by rw [List.drop_eq_getElem_cons hlt, hzi]
              refine ⟨kz.1, kz.2, fun H' s2 => ?_⟩
              rw [er]
              have s12 := s1.trans s2
              rw [hd, peopleFrom_cons] at ep
              by_cases c4 : everyB n (rowOf H z) = true
              · rw [c4, if_neg (by decide)]
                rw [if_pos c4] at ep
                refine hN _ _ ⟨_, _, rfl, s12, ep, fun v hv => ?_⟩
                rw [List.take_add_one, hiz] at hv
                rcases List.mem_append.mp hv with hv | hv
                · exact ea v hv
                · have : v = z := by simpa using hv
                  rw [this]
                  exact c4
              · have c5 : everyB n (rowOf H z) = false := by
                  cases h : everyB n (rowOf H z)
                  · rfl
                  · exact absurd h c4
                rw [c5, if_pos (by decide)]
                rw [if_neg c4] at ep
                intro p hp
                refine q1 _ _ (same_upd s12 (s12.free hp)) ?_
                rw [if_pos c3, ep]
                exact ⟨p, rfl, upd_same⟩
            · rintro σ H1 ⟨v3, v4, rfl, s1, ep, ea⟩
              rw [List.drop_length] at ep
              rw [List.take_length] at ea
              have ep : peopleFrom n H 0 rows (wrongFrom r [] 0 (rows.map (rowInts H))) = wrongFrom r [] 0 (rows.map (rowInts H)) := ep
              rw [if_pos c3, ep] at q1
              clear ep
              simp? only [sp_pairs_on, sp_is_everybody, sp_evenings_for, sp_is_size, sp_is_integer]
              refine z_seq ?_
              simp? only [sp_pairs_on, sp_is_everybody, sp_evenings_for, sp_is_size, sp_is_integer]
              intro D0 hD0
              refine z_seq ?_
              have hDn : H D0 = none := s1.free hD0
              refine for_enT (a := a) (xs := rows) (fun R h => ⟨_, rfl, h⟩) (fun i σ H' => ∃ v3 v4 v6 v7 v8 D kvs past, σ = [some (.str (kindS r)), some (.int n), some (.ref a), v3, v4, some (.ref D), v6, v7, v8] ∧ Same H H' ∧ H D = none ∧ H' D = some (.dT kvs) ∧ kvs.length ≤ i * 1000 ∧ (∀ p, (valV kvs (keyP p)).isSome = decide (p ∈ past)) ∧ wrongFrom r [] 0 (rows.map (rowInts H)) = wrongFrom r past i ((rows.map (rowInts H)).drop i)) ⟨_, _, _, _, _, D0, [], [], rfl, same_upd s1 hDn, hDn, upd_same, Nat.zero_le _, fun _ => rfl, rfl⟩ (fun _ _ _ h => by obtain ⟨_, _, _, _, _, _, _, _, _, h, _⟩ := h; exact SqT.of (h _ _ ha)) ?_ ?_
              · clear hD0 s1
                rintro i z σ H0 hiz ⟨v3, v4, v6, v7, v8, D, kvs, past, rfl, s0, hD, eD, hkl, hkv, ew⟩ N hN T hT
                have hmem : z ∈ rows := List.mem_of_getElem? hiz
                have hev := ea z hmem
                have hlt : i < rows.length := (List.getElem?_eq_some_iff.mp hiz).1
                obtain ⟨b, l, rfl, hb, hl2, hll⟩ := every_ints hev
                have s1 := s0.trans (same_new (o := .tup [.int (i : Nat), .ref b]) hT)
                have hdr : (rows.map (rowInts H)).drop i = l :: (rows.map (rowInts H)).drop (i + 1) := by
                  rw [List.drop_eq_getElem_cons (by rw [List.length_map]; exact hlt)]
                  congr 1
                  rw [List.getElem_map, (List.getElem?_eq_some_iff.mp hiz).2]
                  exact hl2
                rw [hdr, wrongFrom_cons] at ew
                have hln : l.length ≤ 1000 := by
                  have := ((hz (.ref b) hmem).2 _ (rowOf_tup hb)).1
                  rw [List.length_map] at this
                  exact this
                simp? only [sp_pairs_on, sp_is_everybody, sp_evenings_for, sp_is_size, sp_is_integer]
                refine z_seq ?_
                simp? only [sp_pairs_on, sp_is_everybody, sp_evenings_for, sp_is_size, sp_is_integer, kind_inj]
                refine ⟨l, s1 _ _ hb, by omega, by omega, fun D1 as qs H2 hD1 s2 e2 pq hqs hlex => ?_⟩
                have eq : qs = sortP (nbL r l) := lex_eq hlex (sortP_lex _) (hqs.trans (sortP_perm _).symm)
                rw [← eq] at ew
                have s02 := s1.trans s2
                have eD2 := s2 _ _ (same_new (o := .tup [.int (i : Nat), .ref b]) hT _ _ eD)
                have hql : qs.length ≤ 1000 := by
                  rw [hqs.length_eq]
                  unfold nbL
                  rw [List.length_map, ups_len]
                  split <;> omega
                have hal := paired_len pq
                refine z_seq ?_
                simp? only [sp_pairs_on, sp_is_everybody, sp_evenings_for, sp_is_size, sp_is_integer]
                refine lc_mapL (a := D1) (xs := as.map V.ref) (H1 := H2) (againF H2 past) (fun R h => ⟨_, rfl, h⟩) (SqL.of e2) (by rw [List.length_map]; omega) (fun x hx H3 s3 => ?_) fun M H3 hM s3 e3 => ?_
                · obtain ⟨t, ht2, rfl⟩ := List.mem_map.mp hx
                  obtain ⟨p, hp, fp⟩ := paired_mem pq t ht2
                  intro Y N2 hY hN2
                  simp? only [sp_pairs_on, sp_is_everybody, sp_evenings_for, sp_is_size, sp_is_integer]
                  refine ⟨_, DGet.t (s3 _ _ eD2) (show H3 t = some (.tup ((keyP p).map kV)) from s3 _ _ fp), ?_⟩
                  rw [hkv p]
                  by_cases c : p ∈ past
                  · rw [decide_eq_true c, if_pos rfl]
                    refine hY _ H3 ?_ (Same.refl _)
                    unfold againF
                    rw [pairOf_at fp, if_pos c]
                  · rw [decide_eq_false c, if_neg Bool.false_ne_true]
                    refine hN2 H3 ?_ (Same.refl _)
                    unfold againF
                    rw [pairOf_at fp, if_neg c]
                · have hh := again_head (past := past) pq
                  refine z_seq ?_
                  simp? only [sp_pairs_on, sp_is_everybody, sp_evenings_for, sp_is_size, sp_is_integer]
                  have hD1D : D1 ≠ D := Ne.symm (ne_of_none (same_new (o := .tup [.int (i : Nat), .ref b]) hT _ _ eD) hD1)
                  rcases hh with ⟨hL, hf⟩ | ⟨t, p, rest, hL, fp, hf⟩
                  · rw [hL] at e3
                    rw [hf] at ew
                    have ew : wrongFrom r [] 0 (rows.map (rowInts H)) = wrongFrom r (past ++ nbL r l) ((i : Int) + 1) ((rows.map (rowInts H)).drop (i + 1)) := ew
                    refine ⟨false, .inl ⟨[], SqL.of e3, rfl⟩, ?_⟩
                    rw [if_neg Bool.false_ne_true]
                    refine for_trk (a := D1) (xs := as.map V.ref) (fun R h => ⟨_, rfl, h⟩) (fun j σ' H' => ∃ w7 kvs', σ' = [some (.str (kindS r)), some (.int n), some (.ref a), some (.int i), some (.ref b), some (.ref D), some (.ref D1), w7, some (.ref M)] ∧ (∀ b o, b ≠ D → H3 b = some o → H' b = some o) ∧ H' D = some (.dT kvs') ∧ kvs'.length ≤ i * 1000 + j ∧ ∀ p, (valV kvs' (keyP p)).isSome = decide (p ∈ past ++ qs.take j)) ⟨_, kvs, rfl, fun _ _ _ e => e, s3 _ _ eD2, by omega, fun p => by rw [hkv p, List.take_zero, List.append_nil]⟩ (fun _ _ _ h => by obtain ⟨_, _, _, h, _⟩ := h; exact SqL.of (h _ _ hD1D (s3 _ _ e2))) ?_ ?_
                    · rintro j x σ' H' hjx ⟨w7, kvs', rfl, k4, e4, hkl2, hkv2⟩ N2 hN2
                      rw [List.getElem?_map] at hjx
                      obtain ⟨t, ht2, rfl⟩ := Option.map_eq_some_iff.mp hjx
                      obtain ⟨p, hp, fp⟩ := Z.paired_get pq ht2
                      have hjl : j < as.length := (List.getElem?_eq_some_iff.mp ht2).1
                      have htD : t ≠ D := by
                        rintro rfl
                        have fp : H2 t = _ := fp
                        rw [eD2] at fp
                        cases fp
                      simp? only [sp_pairs_on, sp_is_everybody, sp_evenings_for, sp_is_size, sp_is_integer]
                      refine ⟨_, DPut.t e4 (show H' t = some (.tup ((keyP p).map kV)) from k4 _ _ htD (s3 _ _ fp)) ?_, hN2 _ _ ⟨_, putK kvs' (keyP p) (.int i), rfl, fun b o nb e => ?_, upd_same, ?_, fun q0 => ?_⟩⟩
                      · rw [sizeLine_eq]
                        have : i * 1000 ≤ 1000 * 1000 := Nat.mul_le_mul_right _ (by omega)
                        omega
                      · rw [upd_ne nb]
                        exact k4 b o nb e
                      · have := length_putK kvs' (keyP p) (.int i)
                        omega
                      · rw [valV_put, List.take_add_one, hp]
                        by_cases c : q0 = p
                        · subst c
                          rw [if_pos rfl, decide_eq_true (by simp)]
                          rfl
                        · rw [if_neg fun h => c (keyP_inj h), hkv2 q0, decide_eq_decide]
                          simp [c]
                    · rintro σ' H' ⟨w7, kvs', rfl, k4, e4, hkl2, hkv2⟩
                      refine hN _ _ ⟨_, _, _, _, _, D, kvs', past ++ nbL r l, rfl, fun b o e => k4 b o (ne_of_none e hD) (s3 _ _ (s02 _ _ e)), hD, e4, ?_, fun q0 => ?_, ew⟩
                      · rw [List.length_map] at hkl2
                        rw [Nat.add_mul]
                        omega
                      · rw [List.length_map, hal, List.take_length] at hkv2
                        rw [hkv2 q0, decide_eq_decide, List.mem_append, List.mem_append, hqs.mem_iff]
                  · rw [hL] at e3
                    rw [hf] at ew
                    refine ⟨true, .inl ⟨_, SqL.of e3, rfl⟩, ?_⟩
                    rw [if_pos rfl]
                    refine ⟨_, e3, .ref t, atI_int (by decide) rfl, t, rfl, [.int p.1, .int p.2], .inl (SqT.of (s3 _ _ fp)), by show 2 ≤ 16777214; decide, fun p0 hp0 => ?_⟩
                    have s03 := s02.trans s3
                    refine q1 _ _ (same_upd s03 (s03.free hp0)) ?_
                    rw [ew]
                    exact ⟨p0, rfl, upd_same⟩
              · rintro σ H2 ⟨v3, v4, v6, v7, v8, D, kvs, past, rfl, s0, hD, eD, hkl, hkv, ew⟩
                simp? only [sp_pairs_on, sp_is_everybody, sp_evenings_for, sp_is_size, sp_is_integer]
                refine q1 _ _ s0 ?_
                rw [ew, show (rows.map (rowInts H)).drop rows.length = [] by rw [← List.length_map (f := rowInts H), List.drop_length]]
                rfl
          · rw [decide_eq_false c3, if_pos (by decide)]
            rw [if_neg c3] at q1
            exact q1 _ _ (Same.refl _) rfl
        · rw [decide_eq_false c2, if_pos (by decide)]
          refine q _ H (Same.refl _) ?_
          rw [wrongR_int, if_pos c1, rowOf_none ht c2]
          rfl
      · have c2 : sizeV r n (.int n) = false := by
          cases h : sizeV r n (.int n)
          · rfl
          · exact absurd h c1
        rw [c2, if_pos (by decide)]
        refine q _ H (Same.refl _) ?_
        rw [wrongR_int, if_neg c1]
        rfl
    | _ =>
      simp only [isI, Bool.not_false, if_true]
      exact q _ H (Same.refl _) rfl

open Zig
def partyN (r : Bool) (H : Hp) (ev : V) : Option Int := match rowOf H ev with
  | some (v :: _) => match rowOf H v with
    | some xs => if wrongR r H (.int xs.length) ev = .ok then some (xs.length : Int) else none
    | none => none
  | _ => none
theorem partyN_nil {r : Bool} {H : Hp} {ev : V} (h : rowOf H ev = some []) : partyN r H ev = none := by
  unfold partyN
  rw [h]
theorem partyN_none {r : Bool} {H : Hp} {ev : V} (h : rowOf H ev = none) : partyN r H ev = none := by
  unfold partyN
  rw [h]
theorem partyN_odd {r : Bool} {H : Hp} {ev v : V} {vs : List V} (h : rowOf H ev = some (v :: vs)) (h2 : rowOf H v = none) : partyN r H ev = none := by
  unfold partyN
  rw [h]
  simp only [h2]
theorem partyN_cons {r : Bool} {H : Hp} {ev v : V} {vs xs : List V} (h : rowOf H ev = some (v :: vs)) (h2 : rowOf H v = some xs) : partyN r H ev = if wrongR r H (.int xs.length) ev = .ok then some (xs.length : Int) else none := by
  unfold partyN
  rw [h]
  simp only [h2]
theorem isWR_non {H : Hp} {v : V} {w : WR} (h : isWR H v w) : v = .non ↔ w = .ok := by
  cases w with
  | ok => exact ⟨fun _ => rfl, fun _ => h⟩
  | number =>
    have h : v = .str "number" := h
    rw [h]
    exact ⟨fun z => (by cases z), fun z => (by cases z)⟩
  | evenings =>
    have h : v = .str "evenings" := h
    rw [h]
    exact ⟨fun z => (by cases z), fun z => (by cases z)⟩
  | people e =>
    obtain ⟨t, rfl, _⟩ := h
    exact ⟨fun z => (by cases z), fun z => (by cases z)⟩
  | again p q e =>
    obtain ⟨t, rfl, _⟩ := h
    exact ⟨fun z => (by cases z), fun z => (by cases z)⟩
theorem Known3.same {H H' : Hp} {x : V} (k : Known3 H x) (s : Same H H') : Known3 H' x := by
  refine ⟨k.1.same s, fun xs h => ?_⟩
  rw [rowOf_same k.1 s] at h
  obtain ⟨h1, h2⟩ := k.2 xs h
  exact ⟨h1, fun z hz => (h2 z hz).same s⟩
theorem people_same {n : Int} {H H' : Hp} (s : Same H H') : ∀ (rows : List V) (e : Int) (w : WR), (∀ z ∈ rows, Known H z) → peopleFrom n H' e rows w = peopleFrom n H e rows w
  | [], _, _, _ => rfl
  | v :: vs, e, w, h => by
    rw [peopleFrom_cons, peopleFrom_cons, rowOf_same (h v List.mem_cons_self) s, people_same s vs (e + 1) w fun z hz => h z (List.mem_cons_of_mem _ hz)]
theorem wrong_same {r : Bool} {H H' : Hp} {x ev : V} (k : Known3 H ev) (s : Same H H') : wrongR r H' x ev = wrongR r H x ev := by
  cases x with
  | int n =>
    rw [wrongR_int, wrongR_int, rowOf_same k.1 s]
    cases e : rowOf H ev with
    | none => rfl
    | some rows =>
      obtain ⟨_, hz⟩ := k.2 rows e
      have e1 : rows.map (rowInts H') = rows.map (rowInts H) := List.map_congr_left fun z hm => by
        unfold rowInts
        rw [rowOf_same (hz z hm).1 s]
      unfold wrongE
      dsimp only
      rw [e1, people_same s rows 0 _ fun z hm => (hz z hm).1]
  | _ => rfl
theorem party_same {r : Bool} {H H' : Hp} {ev : V} (k : Known3 H ev) (s : Same H H') : partyN r H' ev = partyN r H ev := by
  unfold partyN
  rw [rowOf_same k.1 s]
  cases e : rowOf H ev with
  | none => rfl
  | some rows =>
    obtain ⟨_, hz⟩ := k.2 rows e
    cases rows with
    | nil => rfl
    | cons v vs =>
      dsimp only
      rw [rowOf_same (hz v List.mem_cons_self).1 s]
      cases rowOf H v with
      | none => rfl
      | some xs =>
        dsimp only
        rw [wrong_same k s]
def optI : Option Int → V
  | some i => .int i
  | none => .non
def sp_people_in : Sp := fun vs H Q _ => ∃ (r : Bool) (ev : V), vs = [.str (kindS r), ev] ∧ Known3 H ev ∧ ∀ H', Same H H' → Q (optI (partyN r H ev)) H'
theorem ok_people_in (T : Env P K mg c__law_right) : Hd P w K mg base CX0 5 "people_in" s_people_in ["kind", "evenings"] sp_people_in := by
  have H_wrong_of := ok_wrong_of (P := P) (w := w) (base := base) T
  obtain ⟨f, fd, F, hm⟩ := T.d_people_in
  refine ⟨⟨f, fd, F, hm, ?_⟩, fun _ _ _ _ _ _ _ us hl => match us, hl with | [_, _], _ => rfl⟩
  refine F.ok sc_people_in (fun vs H Q E h => ?_) (fun cdv A outer s H vs Q E hr h => ?_)
  · first | (obtain ⟨rfl, _⟩ := h; rfl) | (obtain ⟨_, rfl, _⟩ := h; rfl) | (obtain ⟨_, _, rfl, _⟩ := h; rfl) | (obtain ⟨_, _, _, rfl, _⟩ := h; rfl) | (obtain ⟨_, _, _, _, rfl, _⟩ := h; rfl) | (obtain ⟨_, _, _, _, _, rfl, _⟩ := h; rfl) | (obtain ⟨_, _, _, _, _, _, rfl, _⟩ := h; rfl) | (obtain ⟨_, _, _, _, _, _, _, rfl, _⟩ := h; rfl) | (obtain ⟨_, _, _, _, _, _, _, _, rfl, _⟩ := h; rfl) | (obtain ⟨_, _, _, _, _, _, _, _, _, rfl, _⟩ := h; rfl) | (obtain ⟨_, _, _, _, _, _, _, _, _, _, rfl, _⟩ := h; rfl) | (obtain ⟨_, _, _, _, _, _, _, _, _, _, _, rfl, _⟩ := h; rfl) | (obtain ⟨_, _, _, _, _, _, _, _, _, _, _, _, rfl, _⟩ := h; rfl) | (obtain ⟨_, _, _, _, _, _, _, _, _, _, _, _, _, rfl, _⟩ := h; rfl) | (obtain ⟨_, _, _, _, _, _, _, _, _, _, _, _, _, _, rfl, _⟩ := h; rfl) | (obtain ⟨_, _, _, _, _, _, _, _, _, _, _, _, _, _, _, rfl, _⟩ := h; rfl) | (obtain ⟨_, _, _, _, _, _, _, _, _, _, _, _, _, _, _, _, rfl, _⟩ := h; rfl) | (obtain ⟨_, _, _, _, _, _, _, _, _, _, _, _, _, _, _, _, _, rfl, _⟩ := h; rfl) | (obtain ⟨_, _, _, _, _, _, _, _, _, _, _, _, _, _, _, _, _, _, rfl, _⟩ := h; rfl)
  · obtain ⟨r, ev, rfl, ke, q⟩ := h
    have hu := hu_of hr
    refine ⟨_, pss_cons (ps_if (PW.pt (pw_or (pt_not (pt_val (pe_callB call_isN rfl T.b_isinstance (by decide +kernel) (pa_cons (pv 1) (pa_cons (pe_bltn (v := .ty "tuple") (by rfl) T.b_tuple (by decide +kernel) rfl) pa_nil))))) (pw_or (pt_not (pt_truth (pv 1) (by intro _; rfl))) (pw_or1 (pt_not (pt_val (pe_callB call_isN rfl T.b_isinstance (by decide +kernel) (pa_cons (pe_ix ix_tupH (pv 1) pe_int (fun _ _ => rfl)) (pa_cons (pe_bltn (v := .ty "tuple") (by rfl) T.b_tuple (by decide +kernel) rfl) pa_nil))))))))) (pss_one (ps_ret pe_non))
      (pss_nil))
      (pss_one (ps_ret (pe_ifExp (pt_cmpR op_isN (pe_hd H_wrong_of (hr.mono (by decide)) rfl pass0 (pa_cons (pv 0) (pa_cons (pe_callB call_lenU rfl T.b_len (by decide +kernel) (pa_cons (pe_ix ix_tupH (pv 1) pe_int (fun _ _ => rfl)) pa_nil)) (pa_cons (pv 1) pa_nil)))) pe_non (nomark _)) (pe_callB call_lenU rfl T.b_len (by decide +kernel) (pa_cons (pe_ix ix_tupH (pv 1) pe_int (fun _ _ => rfl)) pa_nil)) pe_non))), ?_⟩
    simp only [L2.start, List.map_cons, List.map_nil, List.length_cons, List.length_nil, Nat.zero_add, Nat.reduceAdd, Nat.reduceSub, List.replicate_succ, List.replicate_zero, List.cons_append, List.nil_append, List.append_nil, L2.tNext, L2.tAsg, L2.gName, L2.tRet, L2.tRetN, L2.tIfS, L2.tVar, L2.tC, L2.tOp, L2.tUn, L2.rI, L2.rI0, L2.rU, L2.rEq, L2.rNe, L2.tTest, L2.tB, L2.tIf, Z.tIfCI, Z.tIfCS, L2.tChain, L2.tCons, L2.tNil, L2.tCall, L2.tDrop, L2.tAndV, L2.tOrV, L2.tNotV, L2.tAnd, L2.tOr, L2.tNot, L2.tCB, Z.sc_ii, Z.sc_ss, Z.sc_bb, Z.sc_is, Z.sc_si, Z.sc_ni, Z.sc_in, Z.sc_ns, Z.sc_sn, Z.sc_nn, L2.CDiv, L2.CPow, L2.CMul, List.getElem?_cons_zero, List.getElem?_cons_succ, Z.set_z, Z.set_s, Option.some.injEq, L2.V.int.injEq, L2.V.bl.injEq, L2.V.str.injEq, L2.V.ref.injEq, L2.V.ty.injEq, List.cons.injEq, exists_eq_left', exists_and_left, exists_eq_left, exists_eq_right, exists_eq_right', exists_eq', exists_eq, true_and, and_true, and_assoc, decide_eq_true_eq, Int.reduceLT, and_self, Z.rIxH, Z.rIxU, Z.at30, Z.at31, Z.at32, Z.ix3_0, Z.ix3_1, Z.ix3_2, L2.rSetL, L2.gSub, Z.gTupH, L2.gCons, L2.gNil, L2.HO.lst.injEq, L2.HO.tup.injEq, L2.upd_same, L2.upd_upd, L2.tSl, L2.tNoPart, L2.tPart, L2.rSlL, L2.rCat, List.length_append, or_false, false_or, or_true, true_or, reduceCtorEq, false_and, and_false, exists_false, Int.reduceNeg, Int.reducePow, Int.reduceToNat, Int.reduceAbs, Int.reduceLE, Int.reduceMul, Int.reduceAdd, Int.reduceSub, Nat.reducePow, Nat.reduceLT, Nat.reduceLeDiff, Int.natAbs_natCast, if_true, if_false, Z.tyN, Z.kit_ii, Z.kit_bi, Z.kit_si, Z.kit_ni, Z.kit_ib, Z.kit_bb, Z.kit_sb, Z.kit_nb, Z.kit_is, Z.kit_bs, Z.kit_ss, Z.kit_ns, Bool.not_true, Bool.not_false, L2.tTup, L2.tLst, L2.wipe, L2.tYes, Z.Turn1, L2.tNever, sizeLine_eq, Z.rInU, Z.rInH, L2.flatV, List.any_cons, List.any_nil, List.all_cons, List.all_nil, Bool.and_true, Bool.true_and, Bool.or_false, Bool.false_or, Z.tBML, L2.rAppend, Z.map_int_inj, Z.map_bl_inj, Z.rTupL, Z.rLstL, Z.rLstT, Z.rSortI, Z.rAnyH, Z.rAllH, Z.rSumH, Z.rLenL, Z.rLenU, List.length_map, L2.tPar, StX.tStar, L2.tDNewT, L2.tDIn, L2.sDPut, L2.tDGet, Z.tCallK0, List.getD_cons_zero, List.getD_cons_succ, L2.tPar3, L2.rLenT, sp_wrong_of]
    refine z_seq ?_
    simp only [L2.start, List.map_cons, List.map_nil, List.length_cons, List.length_nil, Nat.zero_add, Nat.reduceAdd, Nat.reduceSub, List.replicate_succ, List.replicate_zero, List.cons_append, List.nil_append, List.append_nil, L2.tNext, L2.tAsg, L2.gName, L2.tRet, L2.tRetN, L2.tIfS, L2.tVar, L2.tC, L2.tOp, L2.tUn, L2.rI, L2.rI0, L2.rU, L2.rEq, L2.rNe, L2.tTest, L2.tB, L2.tIf, Z.tIfCI, Z.tIfCS, L2.tChain, L2.tCons, L2.tNil, L2.tCall, L2.tDrop, L2.tAndV, L2.tOrV, L2.tNotV, L2.tAnd, L2.tOr, L2.tNot, L2.tCB, Z.sc_ii, Z.sc_ss, Z.sc_bb, Z.sc_is, Z.sc_si, Z.sc_ni, Z.sc_in, Z.sc_ns, Z.sc_sn, Z.sc_nn, L2.CDiv, L2.CPow, L2.CMul, List.getElem?_cons_zero, List.getElem?_cons_succ, Z.set_z, Z.set_s, Option.some.injEq, L2.V.int.injEq, L2.V.bl.injEq, L2.V.str.injEq, L2.V.ref.injEq, L2.V.ty.injEq, List.cons.injEq, exists_eq_left', exists_and_left, exists_eq_left, exists_eq_right, exists_eq_right', exists_eq', exists_eq, true_and, and_true, and_assoc, decide_eq_true_eq, Int.reduceLT, and_self, Z.rIxH, Z.rIxU, Z.at30, Z.at31, Z.at32, Z.ix3_0, Z.ix3_1, Z.ix3_2, L2.rSetL, L2.gSub, Z.gTupH, L2.gCons, L2.gNil, L2.HO.lst.injEq, L2.HO.tup.injEq, L2.upd_same, L2.upd_upd, L2.tSl, L2.tNoPart, L2.tPart, L2.rSlL, L2.rCat, List.length_append, or_false, false_or, or_true, true_or, reduceCtorEq, false_and, and_false, exists_false, Int.reduceNeg, Int.reducePow, Int.reduceToNat, Int.reduceAbs, Int.reduceLE, Int.reduceMul, Int.reduceAdd, Int.reduceSub, Nat.reducePow, Nat.reduceLT, Nat.reduceLeDiff, Int.natAbs_natCast, if_true, if_false, Z.tyN, Z.kit_ii, Z.kit_bi, Z.kit_si, Z.kit_ni, Z.kit_ib, Z.kit_bb, Z.kit_sb, Z.kit_nb, Z.kit_is, Z.kit_bs, Z.kit_ss, Z.kit_ns, Bool.not_true, Bool.not_false, L2.tTup, L2.tLst, L2.wipe, L2.tYes, Z.Turn1, L2.tNever, sizeLine_eq, Z.rInU, Z.rInH, L2.flatV, List.any_cons, List.any_nil, List.all_cons, List.all_nil, Bool.and_true, Bool.true_and, Bool.or_false, Bool.false_or, Z.tBML, L2.rAppend, Z.map_int_inj, Z.map_bl_inj, Z.rTupL, Z.rLstL, Z.rLstT, Z.rSortI, Z.rAnyH, Z.rAllH, Z.rSumH, Z.rLenL, Z.rLenU, List.length_map, L2.tPar, StX.tStar, L2.tDNewT, L2.tDIn, L2.sDPut, L2.tDGet, Z.tCallK0, List.getD_cons_zero, List.getD_cons_succ, L2.tPar3, L2.rLenT, sp_wrong_of]
    obtain ⟨⟨t, ht, hm⟩, k3⟩ := id ke
    refine ⟨ev, "tuple", rfl, t, ht, _, (kit_all t hm).2.2.1, _, rfl, ?_⟩
    by_cases c : t = "tuple"
    · subst c
      obtain ⟨a, rows, rfl, ha⟩ := row_of_tuple ht
      have hr := rowOf_tup ha
      obtain ⟨hl, hz⟩ := k3 rows hr
      rw [decide_eq_true rfl, if_neg (by decide)]
      cases rows with
      | nil =>
        refine ⟨false, .inr (.inl ⟨[], SqT.of ha, rfl⟩), ?_⟩
        rw [if_pos (by decide)]
        have q1 := q H (Same.refl _)
        rw [partyN_nil hr] at q1
        exact q1
      | cons v vs =>
        refine ⟨true, .inr (.inl ⟨v :: vs, SqT.of ha, rfl⟩), ?_⟩
        rw [if_neg (by decide)]
        refine ⟨a, rfl, _, ha, v, atI_int (by decide) rfl, ?_⟩
        obtain ⟨⟨t2, ht2, hm2⟩, k4⟩ := hz v List.mem_cons_self
        refine ⟨v, "tuple", rfl, t2, ht2, _, (kit_all t2 hm2).2.2.1, _, rfl, ?_⟩
        by_cases c2 : t2 = "tuple"
        · subst c2
          obtain ⟨b, xs, rfl, hb⟩ := row_of_tuple ht2
          have hrb := rowOf_tup hb
          obtain ⟨hl2, _⟩ := k4 xs hrb
          rw [decide_eq_true rfl, if_neg (by decide)]
          refine ⟨a, rfl, _, ha, .ref b, atI_int (by decide) rfl, b, rfl, _, hb, r, rfl, known_int _, ke, fun w H1 s1 hw => ?_⟩
          have q1 := q H1 s1
          rw [partyN_cons hr hrb] at q1
          by_cases c3 : wrongR r H (.int xs.length) (.ref a) = .ok
          · rw [if_pos c3] at q1
            rw [if_pos ((isWR_non hw).mpr c3)]
            refine ⟨a, rfl, _, s1 _ _ ha, .ref b, atI_int (by decide) rfl, b, rfl, _, s1 _ _ hb, q1⟩
          · rw [if_neg c3] at q1
            rw [if_neg fun z => c3 ((isWR_non hw).mp z)]
            exact q1
        · rw [decide_eq_false c2, if_pos (by decide)]
          have q1 := q H (Same.refl _)
          rw [partyN_odd hr (rowOf_none ht2 c2)] at q1
          exact q1
    · rw [decide_eq_false c, if_pos (by decide)]
      have q1 := q H (Same.refl _)
      rw [partyN_none (rowOf_none ht c)] at q1
      exact q1

open Zig
theorem find_no {l past : List (Int × Int)} : ((sortP l).find? fun p => decide (p ∈ past)) = none ↔ ∀ p ∈ l, p ∉ past := by
  rw [List.find?_eq_none]
  constructor
  · intro h p hp
    have := h p ((sortP_perm l).mem_iff.mpr hp)
    simpa using this
  · intro h p hp
    have := h p ((sortP_perm l).mem_iff.mp hp)
    simpa using this
theorem wrongFrom_ok {r : Bool} : ∀ (ls : List (List Int)) (past : List (Int × Int)) (e : Int), wrongFrom r past e ls = .ok ↔ (∀ l ∈ ls, ∀ p ∈ nbL r l, p ∉ past) ∧ ls.Pairwise fun l m => ∀ p ∈ nbL r m, p ∉ nbL r l
  | [], past, e => ⟨fun _ => ⟨fun _ h => absurd h List.not_mem_nil, .nil⟩, fun _ => rfl⟩
  | l :: ls, past, e => by
    rw [wrongFrom_cons]
    have ih := wrongFrom_ok (r := r) ls (past ++ nbL r l) (e + 1)
    cases h : ((sortP (nbL r l)).find? fun p => decide (p ∈ past)) with
    | some p =>
      dsimp only
      refine ⟨fun z => (by cases z), fun z => ?_⟩
      have := find_no.mpr (z.1 l List.mem_cons_self)
      rw [h] at this
      cases this
    | none =>
      dsimp only
      have h := find_no.mp h
      rw [ih, List.pairwise_cons]
      constructor
      · rintro ⟨h1, h2⟩
        refine ⟨fun m hm p hp => ?_, fun m hm p hp => ?_, h2⟩
        · rcases List.mem_cons.mp hm with rfl | hm
          · exact h p hp
          · exact fun z => h1 m hm p hp (List.mem_append_left _ z)
        · exact fun z => h1 m hm p hp (List.mem_append_right _ z)
      · rintro ⟨h1, h2, h3⟩
        refine ⟨fun m hm p hp z => ?_, h3⟩
        rcases List.mem_append.mp z with z | z
        · exact h1 m (List.mem_cons_of_mem _ hm) p hp z
        · exact h2 m hm p hp z
theorem ints_all {l m : Int} : ∀ {ns : List Int}, (∀ i ∈ ns, l ≤ i ∧ i ≤ m) → (ns.map V.int).all (inB l m) = true
  | [], _ => rfl
  | n :: r, h => by
    rw [List.map_cons, List.all_cons, ints_all fun i hi => h i (List.mem_cons_of_mem _ hi), Bool.and_true]
    exact decide_eq_true (h n List.mem_cons_self)
theorem intsOf_map : ∀ ns : List Int, intsOf (ns.map V.int) = ns
  | [] => rfl
  | n :: r => by
    have := intsOf_map r
    unfold intsOf at this ⊢
    rw [List.map_cons, List.filterMap_cons]
    show n :: (r.map V.int).filterMap intOf = _
    rw [this]
theorem every_perm {n : Int} {l : List Int} (h : l.Perm (ups n)) (hn : 0 ≤ n) : everyB n (some (l.map V.int)) = true := by
  rw [everyB_some, List.length_map, h.length_eq, ups_len, decide_eq_true (by omega), ints_all fun i hi => by have := mem_ups.mp (h.mem_iff.mp hi); omega, intsOf_map, decide_eq_true (h.nodup_iff.mpr (ups_nodup n))]
  rfl
theorem rows_of {H : Hp} : ∀ {as : List Addr} {ls : List (List Int)}, Paired (TupAt H) as ls → (as.map V.ref).map (rowInts H) = ls
  | _, _, .nil => rfl
  | _, _, .cons (a := a) (b := b) f r => by
    rw [List.map_cons, List.map_cons, rows_of r]
    congr 1
    unfold rowInts
    rw [rowOf_tup f]
    exact intsOf_map b
theorem people_all {n : Int} {H : Hp} {w : WR} (hn : 0 ≤ n) : ∀ {as : List Addr} {ls : List (List Int)} (e : Int), Paired (TupAt H) as ls → (∀ l ∈ ls, l.Perm (ups n)) → peopleFrom n H e (as.map V.ref) w = w
  | _, _, _, .nil, _ => rfl
  | _, _, e, .cons (a := a) (b := b) f r, h => by
    rw [List.map_cons, peopleFrom_cons, rowOf_tup f, if_pos (every_perm (h b List.mem_cons_self) hn)]
    exact people_all hn (e + 1) r fun l hl => h l (List.mem_cons_of_mem _ hl)
theorem size_right {r : Bool} {n k : Int} (h : SizeIs r n k) : sizeV r n (.int n) = true := by
  have h2 := size_two h
  show (if r then (decide (3 ≤ n ∧ n ≤ n) && decide (n % 2 = 1)) else (decide (2 ≤ n ∧ n ≤ n) && decide (n % 2 = 0))) = true
  obtain ⟨h0, ⟨rfl, h1⟩ | ⟨rfl, h1⟩⟩ := h
  · rw [if_pos rfl, decide_eq_true (by omega), decide_eq_true (by omega)]
    rfl
  · rw [if_neg Bool.false_ne_true, decide_eq_true (by omega), decide_eq_true (by omega)]
    rfl
/-- rows of people: what is wrong is in their pairs -/
theorem wrong_rows {r : Bool} {n k : Int} {H : Hp} {A : Addr} {as : List Addr} {ls : List (List Int)} (hs : SizeIs r n k) (hA : H A = some (.tup (as.map V.ref))) (pa : Paired (TupAt H) as ls) (hl : (ls.length : Int) = nights r n) (hp : ∀ l ∈ ls, l.Perm (ups n)) :
    wrongR r H (.int n) (.ref A) = wrongFrom r [] 0 ls := by
  have h2 := size_two hs
  rw [wrongR_int, if_pos (size_right hs), rowOf_tup hA]
  unfold wrongE
  dsimp only
  rw [List.length_map, paired_len pa, if_pos hl, people_all (by omega) 0 pa hp, rows_of pa]
theorem once_pairwise {r : Bool} {n : Int} (hn : 0 < n) : ∀ {ls : List (List Int)}, (∀ l ∈ ls, l.Perm (ups n)) → (ls.flatMap (besL r)).Nodup → ls.Pairwise fun l m => ∀ p ∈ nbL r m, p ∉ nbL r l
  | [], _, _ => .nil
  | l :: ls, hp, h => by
    rw [List.flatMap_cons, List.nodup_append] at h
    have hlen : ∀ m ∈ l :: ls, 0 < m.length := fun m hm => by
      rw [(hp m hm).length_eq, ups_len]
      omega
    refine List.pairwise_cons.mpr ⟨fun m hm p h1 h2 => ?_, once_pairwise hn (fun m hm => hp m (List.mem_cons_of_mem _ hm)) h.2.1⟩
    rw [nb_bes r (hlen m (List.mem_cons_of_mem _ hm))] at h1
    rw [nb_bes r (hlen l List.mem_cons_self)] at h2
    exact h.2.2 p h2 p (List.mem_flatMap.mpr ⟨m, hm, h1⟩) rfl
theorem party_ok {r : Bool} {n k : Int} {H : Hp} {A : Addr} {as : List Addr} {ls : List (List Int)} (hs : SizeIs r n k) (hA : H A = some (.tup (as.map V.ref))) (pa : Paired (TupAt H) as ls) (ip : IsParty r n ls) : wrongR r H (.int n) (.ref A) = .ok := by
  have h2 := size_two hs
  rw [wrong_rows hs hA pa ip.many ip.all, wrongFrom_ok]
  exact ⟨fun _ _ _ _ h => absurd h List.not_mem_nil, once_pairwise (by omega) ip.all ip.once⟩

/-- the kind is looked at first -/
def Kinded (mg : Str → Option Value) (E : XK) (H : Hp) (kd : V) (k : Bool → Prop) : Prop := Known H kd ∧ ((∀ r, ¬ KindIs r kd) → Rz mg E H "InvalidKind" "given" kd) ∧ ∀ r, KindIs r kd → k r
def sp_is_party (mg : Str → Option Value) : Sp := fun vs H Q E => ∃ kd ev : V, vs = [kd, ev] ∧ Known3 H ev ∧ Kinded mg E H kd fun r => ∀ H', Same H H' → Q (.bl (partyN r H ev).isSome) H'
theorem ok_is_party (T : Env P K mg c__law_right) : Hd P w K mg base (L2.CX P w) 6 "is_party" s_is_party ["kind", "evenings"] (sp_is_party mg) := by
  have H_people_in := ok_people_in (P := P) (w := w) (base := base) T
  have H_check_kind := ok_check_kind (P := P) (w := w) (base := base) T
  obtain ⟨f, fd, F, hm⟩ := T.d_is_party
  refine ⟨⟨f, fd, F, hm, ?_⟩, fun _ _ _ _ _ _ _ us hl => match us, hl with | [_, _], _ => rfl⟩
  refine F.okX sc_is_party (fun vs H Q E h => ?_) (fun cdv A outer s H vs Q E hr h => ?_)
  · first | (obtain ⟨rfl, _⟩ := h; rfl) | (obtain ⟨_, rfl, _⟩ := h; rfl) | (obtain ⟨_, _, rfl, _⟩ := h; rfl) | (obtain ⟨_, _, _, rfl, _⟩ := h; rfl) | (obtain ⟨_, _, _, _, rfl, _⟩ := h; rfl) | (obtain ⟨_, _, _, _, _, rfl, _⟩ := h; rfl) | (obtain ⟨_, _, _, _, _, _, rfl, _⟩ := h; rfl) | (obtain ⟨_, _, _, _, _, _, _, rfl, _⟩ := h; rfl) | (obtain ⟨_, _, _, _, _, _, _, _, rfl, _⟩ := h; rfl) | (obtain ⟨_, _, _, _, _, _, _, _, _, rfl, _⟩ := h; rfl) | (obtain ⟨_, _, _, _, _, _, _, _, _, _, rfl, _⟩ := h; rfl) | (obtain ⟨_, _, _, _, _, _, _, _, _, _, _, rfl, _⟩ := h; rfl) | (obtain ⟨_, _, _, _, _, _, _, _, _, _, _, _, rfl, _⟩ := h; rfl) | (obtain ⟨_, _, _, _, _, _, _, _, _, _, _, _, _, rfl, _⟩ := h; rfl) | (obtain ⟨_, _, _, _, _, _, _, _, _, _, _, _, _, _, rfl, _⟩ := h; rfl) | (obtain ⟨_, _, _, _, _, _, _, _, _, _, _, _, _, _, _, rfl, _⟩ := h; rfl) | (obtain ⟨_, _, _, _, _, _, _, _, _, _, _, _, _, _, _, _, rfl, _⟩ := h; rfl) | (obtain ⟨_, _, _, _, _, _, _, _, _, _, _, _, _, _, _, _, _, rfl, _⟩ := h; rfl) | (obtain ⟨_, _, _, _, _, _, _, _, _, _, _, _, _, _, _, _, _, _, rfl, _⟩ := h; rfl)
  · obtain ⟨kd, ev, rfl, ke, hk, z, q⟩ := h
    have hu := hu_of hr
    refine ⟨_, pss_cons (ps_expr (pe_hd H_check_kind (hr.mono (by decide)) rfl passX (pa_cons (pv 0) pa_nil)))
      (pss_one (ps_ret (pe_cmpR op_notN (pe_hd H_people_in (hr.mono (by decide)) rfl pass0 (pa_cons (pv 0) (pa_cons (pv 1) pa_nil))) pe_non (nomark _)))), ?_⟩
    simp? only [L2.tSeq, sp_people_in, sp_check_kind]
    refine ⟨hk, fun ⟨r, hr⟩ H' s => ⟨r, hr, ke.same s, fun H2 s2 => ?_⟩, z⟩
    rw [party_same ke s]
    have q1 := q r hr H2 (s.trans s2)
    cases e : partyN r H ev with
    | none =>
      rw [e] at q1
      exact q1
    | some i =>
      rw [e] at q1
      exact q1

open Zig
def besideL (r : Bool) (n e p : Int) : List Int := ((spots r n (indexOf r n e p)).map (personAt r n e)).mergeSort
theorem fm_some (f : V → V) : ∀ l : List V, l.filterMap (fun x => some (f x)) = l.map f := fun l => by rw [List.filterMap_eq_map']
def int1 (f : Int → Int) : V → Option V
  | .int i => some (.int (f i))
  | _ => none
theorem fm_int1 (f : Int → Int) : ∀ l : List Int, (l.map V.int).filterMap (int1 f) = (l.map f).map V.int
  | [] => rfl
  | x :: r => by
    rw [List.map_cons, List.filterMap_cons, fm_int1 f r]
    rfl
theorem mem_ints {x : V} {l : List Int} (h : x ∈ l.map V.int) : ∃ i, i ∈ l ∧ x = .int i := by
  obtain ⟨i, hi, e⟩ := List.mem_map.mp h
  exact ⟨i, hi, e.symm⟩
theorem beside_tail {H : Hp} {Q : VK} {t : Addr} {r : Bool} {n e p i : Int} {L : List Int} (hn : 1 < n) (hL : L.length ≤ 2) (h : H t = some (.lst (L.map V.int)))
    (q : ∀ H' l, H l = none → Same H H' → H' l = some (.tup (((L.map (personAt r n e)).mergeSort).map V.int)) → Q (.ref l) H') :
    tLc (iList K (tVar 5)) (gName 6) tYes (tCall sp_person_at [] E0 (tCons (tVar 0) (tCons (tVar 1) (tCons (tVar 2) (tCons (tVar 6) tNil))))) [6]
      [some (V.str (kindS r)), some (V.int n), some (V.int e), some (V.int p), some (V.int i), some (V.ref t), none] H fun x H1 => rSortI [x] H1 fun x H1 => rTupL [x] H1 Q := by
  refine lc_mapL (int1 (personAt r n e)) (fun R h => ⟨_, rfl, h⟩) (SqL.of h) (by rw [List.length_map]; omega) (fun x hx H1 s => ?_) fun D H1 hD s h1 => ?_
  · obtain ⟨j, hj, rfl⟩ := mem_ints hx
    intro Y N hY hN
    simp? only [L2.tSeq, sp_people_in, sp_check_kind, sp_person_at, kind_inj]
    exact ⟨hn, hY _ H1 rfl (Same.refl _)⟩
  · rw [fm_int1] at h1
    refine ⟨D, _, rfl, h1, by rw [List.length_map]; omega, fun a ha => ?_⟩
    refine ⟨a, _, rfl, upd_same, fun l hl => ?_⟩
    have s2 := same_upd (o := .lst ((L.map (personAt r n e)).mergeSort.map V.int)) s (s.free ha)
    refine q _ l (s2.free hl) (same_upd s2 (s2.free hl)) ?_
    rw [upd_same]
def sp_zigzag_beside (mg : Str → Option Value) : Sp := fun vs H Q E => ∃ kd n e p : V, vs = [kd, n, e, p] ∧ Known H e ∧ Known H p ∧ Ahead mg E H kd n fun r m => Ask mg E H (inB 0 (nights r m - 1) e) e (Ask mg E H (inB 0 (m - 1) p) p (∀ ei pi, e = .int ei → p = .int pi → ∀ t H', Same H H' → H' t = some (.tup ((besideL r m ei pi).map V.int)) → Q (.ref t) H'))
theorem ok_zigzag_beside (T : Env P K mg c__law_right) : Hd P w K mg base (L2.CX P w) 5 "zigzag_beside" s_zigzag_beside ["kind", "n", "evening", "person"] (sp_zigzag_beside mg) := by
  have H_person_at := ok_person_at (P := P) (w := w) (base := base) T
  have H_index_of := ok_index_of (P := P) (w := w) (base := base) T
  have H_check_person := ok_check_person (P := P) (w := w) (base := base) T
  have H_check_evening_of := ok_check_evening_of (P := P) (w := w) (base := base) T
  have H_check_size := ok_check_size (P := P) (w := w) (base := base) T
  have H_check_kind := ok_check_kind (P := P) (w := w) (base := base) T
  obtain ⟨f, fd, F, hm⟩ := T.d_zigzag_beside
  refine ⟨⟨f, fd, F, hm, ?_⟩, fun _ _ _ _ _ _ _ us hl => match us, hl with | [_, _, _, _], _ => rfl⟩
  refine F.okX sc_zigzag_beside (fun vs H Q E h => ?_) (fun cdv A outer s H vs Q E hr h => ?_)
  · first | (obtain ⟨rfl, _⟩ := h; rfl) | (obtain ⟨_, rfl, _⟩ := h; rfl) | (obtain ⟨_, _, rfl, _⟩ := h; rfl) | (obtain ⟨_, _, _, rfl, _⟩ := h; rfl) | (obtain ⟨_, _, _, _, rfl, _⟩ := h; rfl) | (obtain ⟨_, _, _, _, _, rfl, _⟩ := h; rfl) | (obtain ⟨_, _, _, _, _, _, rfl, _⟩ := h; rfl) | (obtain ⟨_, _, _, _, _, _, _, rfl, _⟩ := h; rfl) | (obtain ⟨_, _, _, _, _, _, _, _, rfl, _⟩ := h; rfl) | (obtain ⟨_, _, _, _, _, _, _, _, _, rfl, _⟩ := h; rfl) | (obtain ⟨_, _, _, _, _, _, _, _, _, _, rfl, _⟩ := h; rfl) | (obtain ⟨_, _, _, _, _, _, _, _, _, _, _, rfl, _⟩ := h; rfl) | (obtain ⟨_, _, _, _, _, _, _, _, _, _, _, _, rfl, _⟩ := h; rfl) | (obtain ⟨_, _, _, _, _, _, _, _, _, _, _, _, _, rfl, _⟩ := h; rfl) | (obtain ⟨_, _, _, _, _, _, _, _, _, _, _, _, _, _, rfl, _⟩ := h; rfl) | (obtain ⟨_, _, _, _, _, _, _, _, _, _, _, _, _, _, _, rfl, _⟩ := h; rfl) | (obtain ⟨_, _, _, _, _, _, _, _, _, _, _, _, _, _, _, _, rfl, _⟩ := h; rfl) | (obtain ⟨_, _, _, _, _, _, _, _, _, _, _, _, _, _, _, _, _, rfl, _⟩ := h; rfl) | (obtain ⟨_, _, _, _, _, _, _, _, _, _, _, _, _, _, _, _, _, _, rfl, _⟩ := h; rfl)
  · obtain ⟨kd, n', e', p', rfl, he, hp, hk, hn, z, q0⟩ := h
    have hu := hu_of hr
    refine ⟨_, pss_cons (ps_expr (pe_hd H_check_kind (hr.mono (by decide)) rfl passX (pa_cons (pv 0) pa_nil)))
      (pss_cons (ps_expr (pe_hd H_check_size (hr.mono (by decide)) rfl passX (pa_cons (pv 0) (pa_cons (pv 1) pa_nil))))
      (pss_cons (ps_expr (pe_hd H_check_evening_of (hr.mono (by decide)) rfl passX (pa_cons (pv 0) (pa_cons (pv 1) (pa_cons (pv 2) pa_nil)))))
      (pss_cons (ps_expr (pe_hd H_check_person (hr.mono (by decide)) rfl passX (pa_cons (pv 1) (pa_cons (pv 3) pa_nil))))
      (pss_cons (ps_set (i := 4) sc_zigzag_beside.nd rfl (by first | exact .inl rfl | exact .inr rfl) (pe_hd H_index_of (hr.mono (by decide)) rfl pass0 (pa_cons (pv 0) (pa_cons (pv 1) (pa_cons (pv 2) (pa_cons (pv 3) pa_nil))))))
      (pss_cons (ps_if (pt_cmpR op_eq (pv 0) (pe_glob (v := .str "rings") rfl T.c_RINGS.choose_spec ⟨_, rfl⟩) (nomark _)) (pss_one (ps_set (i := 5) sc_zigzag_beside.nd rfl (by first | exact .inl rfl | exact .inr rfl) (pe_lst (pa_cons (pe_op op_mod (pe_op op_sub (pv 4) pe_int) (pv 1)) (pa_cons (pe_op op_mod (pe_op op_add (pv 4) pe_int) (pv 1)) pa_nil)))))
      (pss_one (ps_setLc (i := 5) (own := [("at", 6)]) (g := (gName 6)) rfl sc_zigzag_beside.nd rfl rfl (sw_true rfl rfl rfl (by decide +kernel)) (pi_tup (pe_tup (pa_cons (pe_op op_sub (pv 4) pe_int) (pa_cons (pe_op op_add (pv 4) pe_int) pa_nil)))) (blkOk_by (own := [("at", 6)]) (N := N_zigzag_beside) (sc := defScope s_zigzag_beside) (by decide +kernel)) (fun _ _ _ _ _ => pg_name (i := 6) sc_zigzag_beside.nd rfl (by first | exact .inl rfl | exact .inr rfl)) (fun _ _ _ _ _ => (pts_one (pt_chain op_le op_lt pe_int (pv 6) (pv 1)))) (fun _ _ _ _ _ => (pv 6)))))
      (pss_one (ps_ret (pe_callTy call_tupleL rfl T.b_tuple (by decide +kernel) (pa_cons (pe_callB cr_sortedH rfl T.b_sorted (by decide +kernel) (pa_cons (pe_lc (own := [("at", 6)]) (g := (gName 6)) (tt := tYes) rfl sc_zigzag_beside.nd (pi_list (pv 5)) (blkOk_by (own := [("at", 6)]) (N := N_zigzag_beside) (sc := defScope s_zigzag_beside) (by decide +kernel)) (fun _ _ _ _ _ => pg_name (i := 6) sc_zigzag_beside.nd rfl (by first | exact .inl rfl | exact .inr rfl)) (fun _ _ _ _ _ => pts_nil) (fun _ _ _ _ _ => (pe_hd H_person_at (hr.mono (by decide)) rfl pass0 (pa_cons (pv 0) (pa_cons (pv 1) (pa_cons (pv 2) (pa_cons (pv 6) pa_nil))))))) pa_nil)) pa_nil))))))))), ?_⟩
    simp only [L2.start, List.map_cons, List.map_nil, List.length_cons, List.length_nil, Nat.zero_add, Nat.reduceAdd, Nat.reduceSub, List.replicate_succ, List.replicate_zero, List.cons_append, List.nil_append, List.append_nil, L2.tSeq, L2.tNext, L2.tAsg, L2.gName, L2.tRet, L2.tRetN, L2.tIfS, L2.tVar, L2.tC, L2.tOp, L2.tUn, L2.rI, L2.rI0, L2.rU, L2.rEq, L2.rNe, L2.tTest, L2.tB, L2.tIf, Z.tIfCI, Z.tIfCS, L2.tChain, L2.tCons, L2.tNil, L2.tCall, L2.tDrop, L2.tAndV, L2.tOrV, L2.tNotV, L2.tAnd, L2.tOr, L2.tNot, L2.tCB, Z.sc_ii, Z.sc_ss, Z.sc_bb, Z.sc_is, Z.sc_si, Z.sc_ni, Z.sc_in, Z.sc_ns, Z.sc_sn, Z.sc_nn, L2.CDiv, L2.CPow, L2.CMul, List.getElem?_cons_zero, List.getElem?_cons_succ, Z.set_z, Z.set_s, Option.some.injEq, L2.V.int.injEq, L2.V.bl.injEq, L2.V.str.injEq, L2.V.ref.injEq, L2.V.ty.injEq, List.cons.injEq, exists_eq_left', exists_and_left, exists_eq_left, exists_eq_right, exists_eq_right', exists_eq', exists_eq, true_and, and_true, and_assoc, decide_eq_true_eq, Int.reduceLT, and_self, Z.rIxH, Z.rIxU, Z.at30, Z.at31, Z.at32, Z.ix3_0, Z.ix3_1, Z.ix3_2, L2.rSetL, L2.gSub, Z.gTupH, L2.gCons, L2.gNil, L2.HO.lst.injEq, L2.HO.tup.injEq, L2.upd_same, L2.upd_upd, L2.tSl, L2.tNoPart, L2.tPart, L2.rSlL, L2.rCat, List.length_append, or_false, false_or, or_true, true_or, reduceCtorEq, false_and, and_false, exists_false, Int.reduceNeg, Int.reducePow, Int.reduceToNat, Int.reduceAbs, Int.reduceLE, Int.reduceMul, Int.reduceAdd, Int.reduceSub, Nat.reducePow, Nat.reduceLT, Nat.reduceLeDiff, Int.natAbs_natCast, if_true, if_false, Z.rIsN, Z.tyN, Z.kit_ii, Z.kit_bi, Z.kit_si, Z.kit_ni, Z.kit_ib, Z.kit_bb, Z.kit_sb, Z.kit_nb, Z.kit_is, Z.kit_bs, Z.kit_ss, Z.kit_ns, Bool.not_true, Bool.not_false, L2.tTup, L2.tLst, L2.wipe, L2.tYes, Z.Turn1, L2.tNever, sizeLine_eq, Z.rInU, Z.rInH, L2.flatV, List.any_cons, List.any_nil, List.all_cons, List.all_nil, Bool.and_true, Bool.true_and, Bool.or_false, Bool.false_or, Z.tBML, L2.rAppend, Z.map_int_inj, Z.map_bl_inj, Z.rLstL, Z.rLstT, Z.rAnyH, Z.rAllH, Z.rSumH, Z.rLenL, Z.rLenU, List.length_map, L2.tPar, StX.tStar, L2.tDNewT, L2.tDIn, L2.sDPut, L2.tDGet, Z.tCallK0, List.getD_cons_zero, List.getD_cons_succ, L2.tPar3, L2.rLenT, sp_person_at, sp_index_of, sp_check_person, sp_check_evening_of, sp_check_size, sp_check_kind, kind_eq]
    refine ⟨hk, fun ⟨r, hr⟩ H' s => ⟨r, hr, hn.same s, (q0 r hr).imp s fun c1 k1 => ?_⟩, z⟩
    obtain ⟨n, rfl, hm⟩ := sizeV_int c1
    have hz := size_nights hm
    refine ⟨r, hr, n, rfl, he.same s, (k1 n rfl).imp s fun c2 k2 => ⟨n, rfl, hp.same s, k2.imp s fun c3 k3 => ?_⟩⟩
    obtain ⟨e, rfl, _, _⟩ := inB_int c2
    obtain ⟨p, rfl, _, _⟩ := inB_int c3
    clear q0 k1 k2 z
    have q : ∀ H2 t, H t = none → Same H H2 → H2 t = some (.tup ((besideL r n e p).map V.int)) → Q (.ref t) H2 := fun H2 t _ s2 e2 => k3 _ _ rfl rfl t H2 s2 e2
    clear k3
    unfold KindIs at hr
    subst hr
    refine ⟨r, rfl, n, rfl, e, rfl, p, rfl, by omega, ?_⟩
    simp only [L2.start, List.map_cons, List.map_nil, List.length_cons, List.length_nil, Nat.zero_add, Nat.reduceAdd, Nat.reduceSub, List.replicate_succ, List.replicate_zero, List.cons_append, List.nil_append, List.append_nil, L2.tSeq, L2.tNext, L2.tAsg, L2.gName, L2.tRet, L2.tRetN, L2.tIfS, L2.tVar, L2.tC, L2.tOp, L2.tUn, L2.rI, L2.rI0, L2.rU, L2.rEq, L2.rNe, L2.tTest, L2.tB, L2.tIf, Z.tIfCI, Z.tIfCS, L2.tChain, L2.tCons, L2.tNil, L2.tCall, L2.tDrop, L2.tAndV, L2.tOrV, L2.tNotV, L2.tAnd, L2.tOr, L2.tNot, L2.tCB, Z.sc_ii, Z.sc_ss, Z.sc_bb, Z.sc_is, Z.sc_si, Z.sc_ni, Z.sc_in, Z.sc_ns, Z.sc_sn, Z.sc_nn, L2.CDiv, L2.CPow, L2.CMul, List.getElem?_cons_zero, List.getElem?_cons_succ, Z.set_z, Z.set_s, Option.some.injEq, L2.V.int.injEq, L2.V.bl.injEq, L2.V.str.injEq, L2.V.ref.injEq, L2.V.ty.injEq, List.cons.injEq, exists_eq_left', exists_and_left, exists_eq_left, exists_eq_right, exists_eq_right', exists_eq', exists_eq, true_and, and_true, and_assoc, decide_eq_true_eq, Int.reduceLT, and_self, Z.rIxH, Z.rIxU, Z.at30, Z.at31, Z.at32, Z.ix3_0, Z.ix3_1, Z.ix3_2, L2.rSetL, L2.gSub, Z.gTupH, L2.gCons, L2.gNil, L2.HO.lst.injEq, L2.HO.tup.injEq, L2.upd_same, L2.upd_upd, L2.tSl, L2.tNoPart, L2.tPart, L2.rSlL, L2.rCat, List.length_append, or_false, false_or, or_true, true_or, reduceCtorEq, false_and, and_false, exists_false, Int.reduceNeg, Int.reducePow, Int.reduceToNat, Int.reduceAbs, Int.reduceLE, Int.reduceMul, Int.reduceAdd, Int.reduceSub, Nat.reducePow, Nat.reduceLT, Nat.reduceLeDiff, Int.natAbs_natCast, if_true, if_false, Z.rIsN, Z.tyN, Z.kit_ii, Z.kit_bi, Z.kit_si, Z.kit_ni, Z.kit_ib, Z.kit_bb, Z.kit_sb, Z.kit_nb, Z.kit_is, Z.kit_bs, Z.kit_ss, Z.kit_ns, Bool.not_true, Bool.not_false, L2.tTup, L2.tLst, L2.wipe, L2.tYes, Z.Turn1, L2.tNever, sizeLine_eq, Z.rInU, Z.rInH, L2.flatV, List.any_cons, List.any_nil, List.all_cons, List.all_nil, Bool.and_true, Bool.true_and, Bool.or_false, Bool.false_or, Z.tBML, L2.rAppend, Z.map_int_inj, Z.map_bl_inj, Z.rLstL, Z.rLstT, Z.rAnyH, Z.rAllH, Z.rSumH, Z.rLenL, Z.rLenU, List.length_map, L2.tPar, StX.tStar, L2.tDNewT, L2.tDIn, L2.sDPut, L2.tDGet, Z.tCallK0, List.getD_cons_zero, List.getD_cons_succ, L2.tPar3, L2.rLenT, sp_person_at, sp_index_of, sp_check_person, sp_check_evening_of, sp_check_size, sp_check_kind, kind_eq, kind_inj]
    cases r
    · rw [if_neg Bool.false_ne_true]
      refine lc_mapTn (xs := [.int (indexOf false n e p - 1), .int (indexOf false n e p + 1)]) (fun v => match v with | .int j => if 0 ≤ j ∧ j < n then some (.int j) else none | _ => none) (fun R h => ?_) (by show 2 ≤ 1000; decide) (fun x hx H1 s1 => ?_) fun t H1 ht s1 e1 => ?_
      · simp? only [L2.tSeq, sp_person_at, sp_index_of, sp_check_person, sp_check_evening_of, sp_check_size, sp_check_kind]
        exact h
      · have hx' : x = .int (indexOf false n e p - 1) ∨ x = .int (indexOf false n e p + 1) := by
          simp only [List.mem_cons, List.not_mem_nil, or_false] at hx
          exact hx
        have hj : ∃ j : Int, x = .int j := by
          rcases hx' with rfl | rfl <;> exact ⟨_, rfl⟩
        obtain ⟨j, rfl⟩ := hj
        intro Y N hY hN
        simp? only [L2.tSeq, sp_person_at, sp_index_of, sp_check_person, sp_check_evening_of, sp_check_size, sp_check_kind]
        by_cases c1 : 0 ≤ j
        · rw [if_pos c1]
          by_cases c2 : j < n
          · rw [if_pos c2]
            exact hY _ H1 (if_pos ⟨c1, c2⟩) (Same.refl _)
          · rw [if_neg c2]
            exact hN H1 (if_neg fun z => c2 z.2) (Same.refl _)
        · rw [if_neg c1]
          exact hN H1 (if_neg fun z => c1 z.1) (Same.refl _)
      · have e2 : H1 t = some (.lst ((spots false n (indexOf false n e p)).map V.int)) := by
          rw [e1]
          unfold spots
          simp only [Bool.false_eq_true, if_false, List.filterMap_cons, List.filterMap_nil, List.filter_cons, List.filter_nil, decide_eq_true_eq]
          clear hz q e1
          by_cases c1 : 0 ≤ indexOf false n e p - 1 ∧ indexOf false n e p - 1 < n
          · by_cases c2 : 0 ≤ indexOf false n e p + 1 ∧ indexOf false n e p + 1 < n
            · simp only [if_pos c1, if_pos c2, List.map_cons, List.map_nil]
            · simp only [if_pos c1, if_neg c2, List.map_cons, List.map_nil]
          · by_cases c2 : 0 ≤ indexOf false n e p + 1 ∧ indexOf false n e p + 1 < n
            · simp only [if_neg c1, if_pos c2, List.map_cons, List.map_nil]
            · simp only [if_neg c1, if_neg c2, List.map_cons, List.map_nil]
        refine beside_tail (by omega) ?_ e2 fun H2 l hl s2 e3 => ?_
        · unfold spots
          rw [if_neg Bool.false_ne_true]
          exact Nat.le_trans (List.length_filter_le _ _) (Nat.le_refl 2)
        · exact q H2 l ((s.trans s1).free hl) ((s.trans s1).trans s2) e3
    · rw [if_pos rfl]
      refine ⟨by omega, by omega, fun t ht => ?_⟩
      refine beside_tail (L := [(indexOf true n e p - 1) % n, (indexOf true n e p + 1) % n]) (by omega) (Nat.le_refl 2) upd_same fun H2 l hl s2 e2 => ?_
      have s1 : Same H (upd H' t (.lst [V.int ((indexOf true n e p - 1) % n), V.int ((indexOf true n e p + 1) % n)])) := same_upd s (s.free ht)
      exact q H2 l (s1.free hl) (s1.trans s2) e2

open Zig
def zz (r : Bool) (n : Int) : List (List Int) := (ups (nights r n)).map (evL r n)
def sp_evening_of : Sp := fun vs H Q _ => ∃ (r : Bool) (n e : Int), vs = [.str (kindS r), .int n, .int e] ∧ 1 < n ∧ n ≤ 1000 ∧ ∀ t H', H t = none → Same H H' → TupAt H' t (evL r n e) → Q (.ref t) H'
theorem ok_evening_of (T : Env P K mg c__law_right) : Hd P w K mg base CX0 3 "evening_of" s_evening_of ["kind", "n", "evening"] sp_evening_of := by
  have H_person_at := ok_person_at (P := P) (w := w) (base := base) T
  obtain ⟨f, fd, F, hm⟩ := T.d_evening_of
  refine ⟨⟨f, fd, F, hm, ?_⟩, fun _ _ _ _ _ _ _ us hl => match us, hl with | [_, _, _], _ => rfl⟩
  refine F.ok sc_evening_of (fun vs H Q E h => ?_) (fun cdv A outer s H vs Q E hr h => ?_)
  · first | (obtain ⟨rfl, _⟩ := h; rfl) | (obtain ⟨_, rfl, _⟩ := h; rfl) | (obtain ⟨_, _, rfl, _⟩ := h; rfl) | (obtain ⟨_, _, _, rfl, _⟩ := h; rfl) | (obtain ⟨_, _, _, _, rfl, _⟩ := h; rfl) | (obtain ⟨_, _, _, _, _, rfl, _⟩ := h; rfl) | (obtain ⟨_, _, _, _, _, _, rfl, _⟩ := h; rfl) | (obtain ⟨_, _, _, _, _, _, _, rfl, _⟩ := h; rfl) | (obtain ⟨_, _, _, _, _, _, _, _, rfl, _⟩ := h; rfl) | (obtain ⟨_, _, _, _, _, _, _, _, _, rfl, _⟩ := h; rfl) | (obtain ⟨_, _, _, _, _, _, _, _, _, _, rfl, _⟩ := h; rfl) | (obtain ⟨_, _, _, _, _, _, _, _, _, _, _, rfl, _⟩ := h; rfl) | (obtain ⟨_, _, _, _, _, _, _, _, _, _, _, _, rfl, _⟩ := h; rfl) | (obtain ⟨_, _, _, _, _, _, _, _, _, _, _, _, _, rfl, _⟩ := h; rfl) | (obtain ⟨_, _, _, _, _, _, _, _, _, _, _, _, _, _, rfl, _⟩ := h; rfl) | (obtain ⟨_, _, _, _, _, _, _, _, _, _, _, _, _, _, _, rfl, _⟩ := h; rfl) | (obtain ⟨_, _, _, _, _, _, _, _, _, _, _, _, _, _, _, _, rfl, _⟩ := h; rfl) | (obtain ⟨_, _, _, _, _, _, _, _, _, _, _, _, _, _, _, _, _, rfl, _⟩ := h; rfl) | (obtain ⟨_, _, _, _, _, _, _, _, _, _, _, _, _, _, _, _, _, _, rfl, _⟩ := h; rfl)
  · obtain ⟨r, n, e, rfl, h1, h2, q⟩ := h
    have hu := hu_of hr
    refine ⟨_, pss_one (ps_ret (pe_callTy call_tupleL rfl T.b_tuple (by decide +kernel) (pa_cons (pe_lc (own := [("index", 3)]) (g := (gName 3)) (tt := tYes) rfl sc_evening_of.nd (pi_range1 rfl T.b_range (pa_cons (pv 1) pa_nil)) (blkOk_by (own := [("index", 3)]) (N := N_evening_of) (sc := defScope s_evening_of) (by decide +kernel)) (fun _ _ _ _ _ => pg_name (i := 3) sc_evening_of.nd rfl (by first | exact .inl rfl | exact .inr rfl)) (fun _ _ _ _ _ => pts_nil) (fun _ _ _ _ _ => (pe_hd H_person_at (hr.mono (by decide)) rfl pass0 (pa_cons (pv 0) (pa_cons (pv 1) (pa_cons (pv 2) (pa_cons (pv 3) pa_nil))))))) pa_nil))), ?_⟩
    simp? only [sp_person_at]
    refine lc_mapR (n := n) (int1 (personAt r n e)) (fun R h => ⟨_, rfl, h⟩) (by omega) (fun i hi H1 s1 => ?_) fun D H1 hD s1 e1 => ?_
    · intro Y N hY hN
      simp? only [sp_person_at, kind_inj]
      exact ⟨h1, hY _ H1 rfl (Same.refl _)⟩
    · rw [upto_ups, fm_int1] at e1
      exact ⟨D, rfl, _, e1, fun t ht => q t _ (s1.free ht) (same_upd s1 (s1.free ht)) upd_same⟩
theorem nights_le {r : Bool} {n : Int} (h1 : 1 < n) : 0 ≤ nights r n ∧ nights r n ≤ n := by
  unfold nights
  split <;> omega
def sp_zigzag_of : Sp := fun vs H Q _ => ∃ (r : Bool) (n : Int), vs = [.str (kindS r), .int n] ∧ 1 < n ∧ n ≤ 1000 ∧ ∀ t as H', H t = none → Same H H' → H' t = some (.tup (as.map V.ref)) → Paired (TupAt H') as (zz r n) → Q (.ref t) H'
theorem ok_zigzag_of (T : Env P K mg c__law_right) : Hd P w K mg base CX0 4 "zigzag_of" s_zigzag_of ["kind", "n"] sp_zigzag_of := by
  have H_evenings_for := ok_evenings_for (P := P) (w := w) (base := base) T
  have H_evening_of := ok_evening_of (P := P) (w := w) (base := base) T
  obtain ⟨f, fd, F, hm⟩ := T.d_zigzag_of
  refine ⟨⟨f, fd, F, hm, ?_⟩, fun _ _ _ _ _ _ _ us hl => match us, hl with | [_, _], _ => rfl⟩
  refine F.ok sc_zigzag_of (fun vs H Q E h => ?_) (fun cdv A outer s H vs Q E hr h => ?_)
  · first | (obtain ⟨rfl, _⟩ := h; rfl) | (obtain ⟨_, rfl, _⟩ := h; rfl) | (obtain ⟨_, _, rfl, _⟩ := h; rfl) | (obtain ⟨_, _, _, rfl, _⟩ := h; rfl) | (obtain ⟨_, _, _, _, rfl, _⟩ := h; rfl) | (obtain ⟨_, _, _, _, _, rfl, _⟩ := h; rfl) | (obtain ⟨_, _, _, _, _, _, rfl, _⟩ := h; rfl) | (obtain ⟨_, _, _, _, _, _, _, rfl, _⟩ := h; rfl) | (obtain ⟨_, _, _, _, _, _, _, _, rfl, _⟩ := h; rfl) | (obtain ⟨_, _, _, _, _, _, _, _, _, rfl, _⟩ := h; rfl) | (obtain ⟨_, _, _, _, _, _, _, _, _, _, rfl, _⟩ := h; rfl) | (obtain ⟨_, _, _, _, _, _, _, _, _, _, _, rfl, _⟩ := h; rfl) | (obtain ⟨_, _, _, _, _, _, _, _, _, _, _, _, rfl, _⟩ := h; rfl) | (obtain ⟨_, _, _, _, _, _, _, _, _, _, _, _, _, rfl, _⟩ := h; rfl) | (obtain ⟨_, _, _, _, _, _, _, _, _, _, _, _, _, _, rfl, _⟩ := h; rfl) | (obtain ⟨_, _, _, _, _, _, _, _, _, _, _, _, _, _, _, rfl, _⟩ := h; rfl) | (obtain ⟨_, _, _, _, _, _, _, _, _, _, _, _, _, _, _, _, rfl, _⟩ := h; rfl) | (obtain ⟨_, _, _, _, _, _, _, _, _, _, _, _, _, _, _, _, _, rfl, _⟩ := h; rfl) | (obtain ⟨_, _, _, _, _, _, _, _, _, _, _, _, _, _, _, _, _, _, rfl, _⟩ := h; rfl)
  · obtain ⟨r, n, rfl, h1, h2, q⟩ := h
    have hu := hu_of hr
    refine ⟨_, pss_one (ps_ret (pe_callTy call_tupleL rfl T.b_tuple (by decide +kernel) (pa_cons (pe_lc (own := [("evening", 2)]) (g := (gName 2)) (tt := tYes) rfl sc_zigzag_of.nd (pi_range1 rfl T.b_range (pa_cons (pe_hd H_evenings_for (hr.mono (by decide)) rfl pass0 (pa_cons (pv 0) (pa_cons (pv 1) pa_nil))) pa_nil)) (blkOk_by (own := [("evening", 2)]) (N := N_zigzag_of) (sc := defScope s_zigzag_of) (by decide +kernel)) (fun _ _ _ _ _ => pg_name (i := 2) sc_zigzag_of.nd rfl (by first | exact .inl rfl | exact .inr rfl)) (fun _ _ _ _ _ => pts_nil) (fun _ _ _ _ _ => (pe_hd H_evening_of (hr.mono (by decide)) rfl pass0 (pa_cons (pv 0) (pa_cons (pv 1) (pa_cons (pv 2) pa_nil)))))) pa_nil))), ?_⟩
    simp? only [sp_evenings_for, sp_evening_of]
    have hn := nights_le (r := r) h1
    refine lc_rngO (H1 := H) (n := nights r n) (intO fun e => tupO (evL r n e)) (fun R h => ?_) (by omega) (fun i hi H1 s1 => ?_) fun D H1 as hD s1 e1 pr => ?_
    · simp? only [sp_evenings_for, sp_evening_of, kind_inj]
      exact h
    · intro Y N hY hN
      simp? only [sp_evenings_for, sp_evening_of, kind_inj]
      exact ⟨h1, h2, fun t H' ht s e => hY _ t H' rfl ht s e⟩
    · rw [upto_ups, fm_intO] at pr
      refine ⟨D, rfl, _, e1, fun t ht => ?_⟩
      refine q t as _ (s1.free ht) (same_upd s1 (s1.free ht)) upd_same ?_
      have e2 : (ups (nights r n)).map (fun e => tupO (evL r n e)) = (zz r n).map tupO := by
        unfold zz
        rw [List.map_map]
        rfl
      rw [e2] at pr
      exact tups_same (same_new ht) (tups_of pr)
def sp_zigzag (mg : Str → Option Value) : Sp := fun vs H Q E => ∃ kd n : V, vs = [kd, n] ∧ Ahead mg E H kd n fun r m => (99 < m → Rz mg E H "TooMany" "given" (.int m)) ∧ (m ≤ 99 → ∀ t as H', Same H H' → H' t = some (.tup (as.map V.ref)) → Paired (TupAt H') as (zz r m) → Q (.ref t) H')
theorem ok_zigzag (T : Env P K mg c__law_right) : Hd P w K mg base (L2.CX P w) 5 "zigzag" s_zigzag ["kind", "n"] (sp_zigzag mg) := by
  have H_zigzag_of := ok_zigzag_of (P := P) (w := w) (base := base) T
  have H_check_size := ok_check_size (P := P) (w := w) (base := base) T
  have H_check_kind := ok_check_kind (P := P) (w := w) (base := base) T
  obtain ⟨f, fd, F, hm⟩ := T.d_zigzag
  refine ⟨⟨f, fd, F, hm, ?_⟩, fun _ _ _ _ _ _ _ us hl => match us, hl with | [_, _], _ => rfl⟩
  refine F.okX sc_zigzag (fun vs H Q E h => ?_) (fun cdv A outer s H vs Q E hr h => ?_)
  · first | (obtain ⟨rfl, _⟩ := h; rfl) | (obtain ⟨_, rfl, _⟩ := h; rfl) | (obtain ⟨_, _, rfl, _⟩ := h; rfl) | (obtain ⟨_, _, _, rfl, _⟩ := h; rfl) | (obtain ⟨_, _, _, _, rfl, _⟩ := h; rfl) | (obtain ⟨_, _, _, _, _, rfl, _⟩ := h; rfl) | (obtain ⟨_, _, _, _, _, _, rfl, _⟩ := h; rfl) | (obtain ⟨_, _, _, _, _, _, _, rfl, _⟩ := h; rfl) | (obtain ⟨_, _, _, _, _, _, _, _, rfl, _⟩ := h; rfl) | (obtain ⟨_, _, _, _, _, _, _, _, _, rfl, _⟩ := h; rfl) | (obtain ⟨_, _, _, _, _, _, _, _, _, _, rfl, _⟩ := h; rfl) | (obtain ⟨_, _, _, _, _, _, _, _, _, _, _, rfl, _⟩ := h; rfl) | (obtain ⟨_, _, _, _, _, _, _, _, _, _, _, _, rfl, _⟩ := h; rfl) | (obtain ⟨_, _, _, _, _, _, _, _, _, _, _, _, _, rfl, _⟩ := h; rfl) | (obtain ⟨_, _, _, _, _, _, _, _, _, _, _, _, _, _, rfl, _⟩ := h; rfl) | (obtain ⟨_, _, _, _, _, _, _, _, _, _, _, _, _, _, _, rfl, _⟩ := h; rfl) | (obtain ⟨_, _, _, _, _, _, _, _, _, _, _, _, _, _, _, _, rfl, _⟩ := h; rfl) | (obtain ⟨_, _, _, _, _, _, _, _, _, _, _, _, _, _, _, _, _, rfl, _⟩ := h; rfl) | (obtain ⟨_, _, _, _, _, _, _, _, _, _, _, _, _, _, _, _, _, _, rfl, _⟩ := h; rfl)
  · obtain ⟨kd, n, rfl, hk, hn, z, q⟩ := h
    have hu := hu_of hr
    refine ⟨_, pss_cons (ps_expr (pe_hd H_check_kind (hr.mono (by decide)) rfl passX (pa_cons (pv 0) pa_nil)))
      (pss_cons (ps_expr (pe_hd H_check_size (hr.mono (by decide)) rfl passX (pa_cons (pv 0) (pa_cons (pv 1) pa_nil))))
      (pss_cons (ps_if (pt_cmpR op_gt (pv 1) (pe_glob (v := .int 99) rfl T.c_MOST_TOLD.choose_spec ⟨_, rfl⟩) (nomark _)) (pss_one (ps_raise rfl (takes_of rfl rfl rfl rfl) (pmk_x1 T.x_TooMany (hr.mono (by decide)) (pa_cons (pv 1) pa_nil))))
      (pss_nil))
      (pss_one (ps_ret (pe_hd H_zigzag_of (hr.mono (by decide)) rfl pass0 (pa_cons (pv 0) (pa_cons (pv 1) pa_nil))))))), ?_⟩
    simp? only [L2.tSeq, sp_zigzag_of, sp_check_size, sp_check_kind, kind_eq, Z.tMk]
    refine ⟨hk, fun ⟨r, hr⟩ H' s => ⟨r, hr, hn.same s, (q r hr).imp s fun c1 k1 => ?_⟩, z⟩
    obtain ⟨m, rfl, hm⟩ := sizeV_int c1
    have hz := size_nights hm
    obtain ⟨a, b⟩ := k1 m rfl
    refine ⟨m, rfl, both (fun c => fun d hd => ((a c).after s).to hd) fun c => ?_⟩
    exact ⟨r, hr, m, rfl, by omega, by omega, fun t as H2 _ s2 e2 pr => b (by omega) t as H2 (s.trans s2) e2 pr⟩

open Zig
def sp__law_nights : Sp := fun vs H Q _ => ∃ (r : Bool) (n : Int), vs = [.str (kindS r), .int n] ∧ Q (.int (nights r n)) H
theorem ok__law_nights (T : Env P K mg c__law_right) : Hd P w K mg base CX0 1 "_law_nights" s__law_nights ["_law_sort_now", "_law_size"] sp__law_nights := by
  obtain ⟨f, fd, F, hm⟩ := T.d__law_nights
  refine ⟨⟨f, fd, F, hm, ?_⟩, fun _ _ _ _ _ _ _ us hl => match us, hl with | [_, _], _ => rfl⟩
  refine F.ok sc__law_nights (fun vs H Q E h => ?_) (fun cdv A outer s H vs Q E hr h => ?_)
  · first | (obtain ⟨rfl, _⟩ := h; rfl) | (obtain ⟨_, rfl, _⟩ := h; rfl) | (obtain ⟨_, _, rfl, _⟩ := h; rfl) | (obtain ⟨_, _, _, rfl, _⟩ := h; rfl) | (obtain ⟨_, _, _, _, rfl, _⟩ := h; rfl) | (obtain ⟨_, _, _, _, _, rfl, _⟩ := h; rfl) | (obtain ⟨_, _, _, _, _, _, rfl, _⟩ := h; rfl) | (obtain ⟨_, _, _, _, _, _, _, rfl, _⟩ := h; rfl) | (obtain ⟨_, _, _, _, _, _, _, _, rfl, _⟩ := h; rfl) | (obtain ⟨_, _, _, _, _, _, _, _, _, rfl, _⟩ := h; rfl) | (obtain ⟨_, _, _, _, _, _, _, _, _, _, rfl, _⟩ := h; rfl) | (obtain ⟨_, _, _, _, _, _, _, _, _, _, _, rfl, _⟩ := h; rfl) | (obtain ⟨_, _, _, _, _, _, _, _, _, _, _, _, rfl, _⟩ := h; rfl) | (obtain ⟨_, _, _, _, _, _, _, _, _, _, _, _, _, rfl, _⟩ := h; rfl) | (obtain ⟨_, _, _, _, _, _, _, _, _, _, _, _, _, _, rfl, _⟩ := h; rfl) | (obtain ⟨_, _, _, _, _, _, _, _, _, _, _, _, _, _, _, rfl, _⟩ := h; rfl) | (obtain ⟨_, _, _, _, _, _, _, _, _, _, _, _, _, _, _, _, rfl, _⟩ := h; rfl) | (obtain ⟨_, _, _, _, _, _, _, _, _, _, _, _, _, _, _, _, _, rfl, _⟩ := h; rfl) | (obtain ⟨_, _, _, _, _, _, _, _, _, _, _, _, _, _, _, _, _, _, rfl, _⟩ := h; rfl)
  · obtain ⟨r, n, rfl, q⟩ := h
    have hu := hu_of hr
    refine ⟨_, pss_one (ps_ret (pe_ifExp (pt_cmpR op_eq (pv 0) pe_str (nomark _)) (pe_op op_fdiv (pe_op op_sub (pv 1) pe_int) pe_int) (pe_op op_fdiv (pv 1) pe_int))), ?_⟩
    simp? only [L2.tSeq, kind_eq]
    unfold nights at q
    split <;> simp_all
def sp__law_is_whole : Sp := fun vs H Q _ => ∃ v l m : Int, vs = [.int v, .int l, .int m] ∧ Q (.bl (decide (l ≤ v ∧ v ≤ m))) H
theorem ok__law_is_whole (T : Env P K mg c__law_right) : Hd P w K mg base CX0 1 "_law_is_whole" s__law_is_whole ["_law_thing", "_law_least", "_law_most"] sp__law_is_whole := by
  obtain ⟨f, fd, F, hm⟩ := T.d__law_is_whole
  refine ⟨⟨f, fd, F, hm, ?_⟩, fun _ _ _ _ _ _ _ us hl => match us, hl with | [_, _, _], _ => rfl⟩
  refine F.ok sc__law_is_whole (fun vs H Q E h => ?_) (fun cdv A outer s H vs Q E hr h => ?_)
  · first | (obtain ⟨rfl, _⟩ := h; rfl) | (obtain ⟨_, rfl, _⟩ := h; rfl) | (obtain ⟨_, _, rfl, _⟩ := h; rfl) | (obtain ⟨_, _, _, rfl, _⟩ := h; rfl) | (obtain ⟨_, _, _, _, rfl, _⟩ := h; rfl) | (obtain ⟨_, _, _, _, _, rfl, _⟩ := h; rfl) | (obtain ⟨_, _, _, _, _, _, rfl, _⟩ := h; rfl) | (obtain ⟨_, _, _, _, _, _, _, rfl, _⟩ := h; rfl) | (obtain ⟨_, _, _, _, _, _, _, _, rfl, _⟩ := h; rfl) | (obtain ⟨_, _, _, _, _, _, _, _, _, rfl, _⟩ := h; rfl) | (obtain ⟨_, _, _, _, _, _, _, _, _, _, rfl, _⟩ := h; rfl) | (obtain ⟨_, _, _, _, _, _, _, _, _, _, _, rfl, _⟩ := h; rfl) | (obtain ⟨_, _, _, _, _, _, _, _, _, _, _, _, rfl, _⟩ := h; rfl) | (obtain ⟨_, _, _, _, _, _, _, _, _, _, _, _, _, rfl, _⟩ := h; rfl) | (obtain ⟨_, _, _, _, _, _, _, _, _, _, _, _, _, _, rfl, _⟩ := h; rfl) | (obtain ⟨_, _, _, _, _, _, _, _, _, _, _, _, _, _, _, rfl, _⟩ := h; rfl) | (obtain ⟨_, _, _, _, _, _, _, _, _, _, _, _, _, _, _, _, rfl, _⟩ := h; rfl) | (obtain ⟨_, _, _, _, _, _, _, _, _, _, _, _, _, _, _, _, _, rfl, _⟩ := h; rfl) | (obtain ⟨_, _, _, _, _, _, _, _, _, _, _, _, _, _, _, _, _, _, rfl, _⟩ := h; rfl)
  · obtain ⟨v, l, m, rfl, q⟩ := h
    have hu := hu_of hr
    refine ⟨_, pss_one (ps_ret (pe_and (pe_callB call_isN rfl T.b_isinstance (by decide +kernel) (pa_cons (pv 0) (pa_cons (pe_bltn (v := .ty "int") (by rfl) T.b_int (by decide +kernel) rfl) pa_nil))) (pe_and (pe_not (pe_callB call_isN rfl T.b_isinstance (by decide +kernel) (pa_cons (pv 0) (pa_cons (pe_bltn (v := .ty "bool") (by rfl) T.b_bool (by decide +kernel) rfl) pa_nil)))) (pe_one (pe_chain op_le op_le (pv 1) (pv 0) (pv 2)))))), ?_⟩
    simp? only [L2.tSeq]
    split <;> simp_all
def sp__law_pairs : Sp := fun vs H Q _ => ∃ (n : Int), vs = [.int n] ∧ 0 ≤ n ∧ n ≤ 100 ∧ ∀ D as H', H D = none → Same H H' → H' D = some (.lst (as.map V.ref)) → Paired (PairAt H') as (prs n) → Q (.ref D) H'
theorem fromTo_ints (lo hi : Int) : Z.fromTo lo hi = ((ups (hi - lo)).map fun j => lo + j).map V.int := by
  unfold Z.fromTo ups
  rw [List.map_map, List.map_map]
  rfl
theorem flat_succ (i : Nat) (f : Int → List (Int × Int)) : (ups ((i + 1 : Nat) : Int)).flatMap f = (ups i).flatMap f ++ f i := by
  rw [show ((i + 1 : Nat) : Int) = (i : Int) + 1 by omega, ups_succ, List.flatMap_append]
  simp
theorem ok__law_pairs (T : Env P K mg c__law_right) : Hd P w K mg base CX0 1 "_law_pairs" s__law_pairs ["_law_size"] sp__law_pairs := by
  obtain ⟨f, fd, F, hm⟩ := T.d__law_pairs
  refine ⟨⟨f, fd, F, hm, ?_⟩, fun _ _ _ _ _ _ _ us hl => match us, hl with | [_], _ => rfl⟩
  refine F.ok sc__law_pairs (fun vs H Q E h => ?_) (fun cdv A outer s H vs Q E hr h => ?_)
  · first | (obtain ⟨rfl, _⟩ := h; rfl) | (obtain ⟨_, rfl, _⟩ := h; rfl) | (obtain ⟨_, _, rfl, _⟩ := h; rfl) | (obtain ⟨_, _, _, rfl, _⟩ := h; rfl) | (obtain ⟨_, _, _, _, rfl, _⟩ := h; rfl) | (obtain ⟨_, _, _, _, _, rfl, _⟩ := h; rfl) | (obtain ⟨_, _, _, _, _, _, rfl, _⟩ := h; rfl) | (obtain ⟨_, _, _, _, _, _, _, rfl, _⟩ := h; rfl) | (obtain ⟨_, _, _, _, _, _, _, _, rfl, _⟩ := h; rfl) | (obtain ⟨_, _, _, _, _, _, _, _, _, rfl, _⟩ := h; rfl) | (obtain ⟨_, _, _, _, _, _, _, _, _, _, rfl, _⟩ := h; rfl) | (obtain ⟨_, _, _, _, _, _, _, _, _, _, _, rfl, _⟩ := h; rfl) | (obtain ⟨_, _, _, _, _, _, _, _, _, _, _, _, rfl, _⟩ := h; rfl) | (obtain ⟨_, _, _, _, _, _, _, _, _, _, _, _, _, rfl, _⟩ := h; rfl) | (obtain ⟨_, _, _, _, _, _, _, _, _, _, _, _, _, _, rfl, _⟩ := h; rfl) | (obtain ⟨_, _, _, _, _, _, _, _, _, _, _, _, _, _, _, rfl, _⟩ := h; rfl) | (obtain ⟨_, _, _, _, _, _, _, _, _, _, _, _, _, _, _, _, rfl, _⟩ := h; rfl) | (obtain ⟨_, _, _, _, _, _, _, _, _, _, _, _, _, _, _, _, _, rfl, _⟩ := h; rfl) | (obtain ⟨_, _, _, _, _, _, _, _, _, _, _, _, _, _, _, _, _, _, rfl, _⟩ := h; rfl)
  · obtain ⟨n, rfl, h0, h1, q⟩ := h
    have hu := hu_of hr
    refine ⟨_, pss_cons (ps_set (i := 1) sc__law_pairs.nd rfl (by first | exact .inl rfl | exact .inr rfl) (pe_lst pa_nil))
      (pss_cons (ps_for PassesOwn.never rfl (pi_range1 rfl T.b_range (pa_cons (pv 0) pa_nil)) (pg_name (i := 2) sc__law_pairs.nd rfl (by first | exact .inl rfl | exact .inr rfl))
      (pss_one (ps_set (i := 1) sc__law_pairs.nd rfl (by first | exact .inl rfl | exact .inr rfl) (pe_op op_cat (pv 1) (pe_lc (own := [("_law_j", 3)]) (g := (gName 3)) (tt := tYes) rfl sc__law_pairs.nd (pi_range2 rfl T.b_range (pa_cons (pe_op op_add (pv 2) pe_int) (pa_cons (pv 0) pa_nil))) (blkOk_by (own := [("_law_j", 3)]) (N := N__law_pairs) (sc := defScope s__law_pairs) (by decide +kernel)) (fun _ _ _ _ _ => pg_name (i := 3) sc__law_pairs.nd rfl (by first | exact .inl rfl | exact .inr rfl)) (fun _ _ _ _ _ => pts_nil) (fun _ _ _ _ _ => (pe_tup (pa_cons (pv 2) (pa_cons (pv 3) pa_nil)))))))))
      (pss_one (ps_ret (pv 1)))), ?_⟩
    simp? only [true_and]
    refine z_seq ?_
    simp? only [true_and]
    intro D hD
    refine z_seq ?_
    refine for_rng (n := n) (fun R h => ⟨_, rfl, h⟩) (by omega) (fun i σ H' => ∃ v1 v2 D as, σ = [some (.int n), some (.ref D), v1, v2] ∧ Same H H' ∧ H D = none ∧ H' D = some (.lst (as.map V.ref)) ∧ as.length ≤ i * 100 ∧ Paired (PairAt H') as ((ups i).flatMap (rowP n))) ⟨_, _, D, [], rfl, same_new hD, hD, upd_same, Nat.zero_le _, .nil⟩ ?_ ?_
    · rintro i σ H0 hi ⟨v1, v2, D, as, rfl, s0, hD, eD, hl, pr⟩
      simp? only [true_and]
      refine lc_rng2O (H1 := H0) (lo := (i : Int) + 1) (hi := n) (intO fun j => pairO (i, j)) (fun R h => ?_) (by omega) (fun j hj H1 s1 => ?_) fun D1 H1 as1 hD1 s1 e1 pr1 => ?_
      · simp? only [true_and]
        exact h
      · intro Y N hY hN
        simp? only [true_and]
        intro p hp
        exact hY _ p _ rfl hp (same_new hp) upd_same
      · have e2 : (Z.fromTo (i + 1) n).filterMap (intO fun j => pairO (i, j)) = (rowP n i).map pairO := by
          rw [fromTo_ints, fm_intO]
          unfold rowP
          rw [List.map_map, List.map_map]
          rfl
        rw [e2] at pr1
        have hl1 : as1.length ≤ 100 := by
          rw [paired_len pr1, List.length_map]
          unfold rowP
          rw [List.length_map, ups_len]
          omega
        have s2 := s0.trans s1
        refine ⟨D1, rfl, _, s1 _ _ eD, _, e1, ?_, fun p hp => ⟨same_upd s2 (s2.free hp), s2.free hp, as ++ as1, ?_, ?_, ?_⟩⟩
        · rw [List.length_map, List.length_map]
          have : i * 100 ≤ 100 * 100 := Nat.mul_le_mul_right _ (by omega)
          omega
        · rw [List.map_append]
        · rw [List.length_append, Nat.add_mul]
          omega
        · rw [flat_succ]
          exact prs_same (same_new hp) (paired_app (prs_same s1 pr) (prs_of pr1))
    · rintro σ H' ⟨v1, v2, D, as, rfl, s0, hD, eD, hl, pr⟩
      simp? only [true_and]
      rw [show ((n.toNat : Nat) : Int) = n by omega] at pr
      exact q D as H' hD s0 eD pr
def sp__law_zigzag : Sp := fun vs H Q _ => ∃ (r : Bool) (n : Int), vs = [.str (kindS r), .int n] ∧ 1 < n ∧ n ≤ 100 ∧ ∀ D as H', H D = none → Same H H' → H' D = some (.lst (as.map V.ref)) → Paired (LstAt H') as (zz r n) → Q (.ref D) H'
theorem part_at {z e : Int} (j : Nat) : (((ups (j + 1)).map (personIn z e)).map V.int) = ((ups j).map (personIn z e)).map V.int ++ [V.int (personIn z e j)] := by
  rw [ups_succ, List.map_append, List.map_append]
  rfl
theorem ok__law_zigzag (T : Env P K mg c__law_right) : Hd P w K mg base CX0 2 "_law_zigzag" s__law_zigzag ["_law_sort_now", "_law_size"] sp__law_zigzag := by
  have H__law_nights := ok__law_nights (P := P) (w := w) (base := base) T
  obtain ⟨f, fd, F, hm⟩ := T.d__law_zigzag
  refine ⟨⟨f, fd, F, hm, ?_⟩, fun _ _ _ _ _ _ _ us hl => match us, hl with | [_, _], _ => rfl⟩
  refine F.ok sc__law_zigzag (fun vs H Q E h => ?_) (fun cdv A outer s H vs Q E hr h => ?_)
  · first | (obtain ⟨rfl, _⟩ := h; rfl) | (obtain ⟨_, rfl, _⟩ := h; rfl) | (obtain ⟨_, _, rfl, _⟩ := h; rfl) | (obtain ⟨_, _, _, rfl, _⟩ := h; rfl) | (obtain ⟨_, _, _, _, rfl, _⟩ := h; rfl) | (obtain ⟨_, _, _, _, _, rfl, _⟩ := h; rfl) | (obtain ⟨_, _, _, _, _, _, rfl, _⟩ := h; rfl) | (obtain ⟨_, _, _, _, _, _, _, rfl, _⟩ := h; rfl) | (obtain ⟨_, _, _, _, _, _, _, _, rfl, _⟩ := h; rfl) | (obtain ⟨_, _, _, _, _, _, _, _, _, rfl, _⟩ := h; rfl) | (obtain ⟨_, _, _, _, _, _, _, _, _, _, rfl, _⟩ := h; rfl) | (obtain ⟨_, _, _, _, _, _, _, _, _, _, _, rfl, _⟩ := h; rfl) | (obtain ⟨_, _, _, _, _, _, _, _, _, _, _, _, rfl, _⟩ := h; rfl) | (obtain ⟨_, _, _, _, _, _, _, _, _, _, _, _, _, rfl, _⟩ := h; rfl) | (obtain ⟨_, _, _, _, _, _, _, _, _, _, _, _, _, _, rfl, _⟩ := h; rfl) | (obtain ⟨_, _, _, _, _, _, _, _, _, _, _, _, _, _, _, rfl, _⟩ := h; rfl) | (obtain ⟨_, _, _, _, _, _, _, _, _, _, _, _, _, _, _, _, rfl, _⟩ := h; rfl) | (obtain ⟨_, _, _, _, _, _, _, _, _, _, _, _, _, _, _, _, _, rfl, _⟩ := h; rfl) | (obtain ⟨_, _, _, _, _, _, _, _, _, _, _, _, _, _, _, _, _, _, rfl, _⟩ := h; rfl)
  · obtain ⟨r, n, rfl, h0, h1, q⟩ := h
    have hu := hu_of hr
    refine ⟨_, pss_cons (ps_par (i := 2) (j := 3) rfl sc__law_zigzag.nd rfl rfl (by decide) rfl rfl (pa_cons (pe_lst pa_nil) (pa_cons (pe_cutZ (pe_ifExp (pt_cmpR op_eq (pv 0) pe_str (nomark _)) (pe_op op_sub (pv 1) pe_int) (pv 1))) pa_nil)) (by rfl))
      (pss_cons (ps_for PassesOwn.never rfl (pi_range1 rfl T.b_range (pa_cons (pe_hd H__law_nights (hr.mono (by decide)) rfl pass0 (pa_cons (pv 0) (pa_cons (pv 1) pa_nil))) pa_nil)) (pg_name (i := 4) sc__law_zigzag.nd rfl (by first | exact .inl rfl | exact .inr rfl))
      (pss_cons (ps_set (i := 5) sc__law_zigzag.nd rfl (by first | exact .inl rfl | exact .inr rfl) (pe_lst (pa_cons (pv 4) pa_nil)))
      (pss_cons (ps_for PassesOwn.never rfl (pi_range2 rfl T.b_range (pa_cons pe_int (pa_cons (pv 3) pa_nil))) (pg_name (i := 6) sc__law_zigzag.nd rfl (by first | exact .inl rfl | exact .inr rfl))
      (pss_one (ps_expr (pe_bmL PySem.F.plainAttrs_list PySem.F.slot_list_append PySem.F.type_list_append mt_append (pv 5) (pa_cons (pe_op op_mod (pe_callTy call_int1 rfl T.b_int (by decide +kernel) (pa_cons (pe_op op_add (pe_ix ix_listH (pv 5) (pe_un un_neg pe_int) (fun _ _ => rfl)) (pe_ifExp (pt_cmpR op_eq (pe_op op_mod (pe_callTy call_int1 rfl T.b_int (by decide +kernel) (pa_cons (pv 6) pa_nil)) pe_int) pe_int (nomark _)) (pv 6) (pe_un un_neg (pv 6)))) pa_nil)) (pv 3)) pa_nil)))))
      (pss_one (ps_expr (pe_bmL PySem.F.plainAttrs_list PySem.F.slot_list_append PySem.F.type_list_append mt_append (pv 2) (pa_cons (pe_op op_cat (pe_cutZ (pe_ifExp (pt_cmpR op_eq (pv 0) pe_str (nomark _)) (pe_lst (pa_cons (pe_op op_sub (pv 1) pe_int) pa_nil)) (pe_lst pa_nil))) (pv 5)) pa_nil)))))))
      (pss_one (ps_ret (pv 2)))), ?_⟩
    simp? only [sp__law_nights]
    refine z_seq ?_
    simp? only [sp__law_nights]
    intro D hD
    refine ⟨fun v H1 => v = .int (if r = true then n - 1 else n) ∧ H1 = upd H D (.lst []), ?_, ?_⟩
    · simp? only [sp__law_nights, kind_eq]
      split <;> (first | exact ⟨rfl, rfl⟩ | rfl | simp_all)
    · rintro v H1 ⟨rfl, rfl⟩
      refine z_seq ?_
      have hk := nights_le (r := r) h0
      generalize hz : (if r = true then n - 1 else n) = z
      have hz1 : 0 < z ∧ z ≤ n ∧ nights r n ≤ z := by
        rw [← hz]
        unfold nights
        split <;> omega
      refine for_rng (n := nights r n) (fun R h => ?_) (by omega) (fun i σ H' => ∃ v4 v5 v6 D as, σ = [some (.str (kindS r)), some (.int n), some (.ref D), some (.int z), v4, v5, v6] ∧ Same H H' ∧ H D = none ∧ H' D = some (.lst (as.map V.ref)) ∧ D ∉ as ∧ as.length = i ∧ Paired (LstAt H') as ((ups i).map (evL r n))) ⟨_, _, _, D, [], rfl, same_new hD, hD, upd_same, List.not_mem_nil, rfl, .nil⟩ ?_ ?_
      · simp? only [sp__law_nights, kind_inj]
        exact h
      · rintro i σ H0 hi ⟨v4, v5, v6, D, as, rfl, s0, hD, eD, nD, hl, pr⟩
        simp? only [sp__law_nights]
        refine z_seq ?_
        simp? only [sp__law_nights]
        intro S hS
        have s1 : Same H0 (upd H0 S (.lst [.int i])) := same_new hS
        have hSD : S ≠ D := by
          rintro rfl
          rw [eD] at hS
          cases hS
        refine z_seq ?_
        refine for_rng2 (lo := 1) (hi := z) (fun R h => ?_) (by omega) (fun j σ H' => ∃ v6, σ = [some (.str (kindS r)), some (.int n), some (.ref D), some (.int z), some (.int i), some (.ref S), v6] ∧ (∀ b o, b ≠ S → H0 b = some o → H' b = some o) ∧ H' S = some (.lst (((ups ((j : Int) + 1)).map (personIn z i)).map V.int))) ⟨_, rfl, fun b o _ e => s1 _ _ e, ?_⟩ ?_ ?_
        · simp? only [sp__law_nights]
          exact h
        · rw [upd_same, part_at 0]
          show some (HO.lst [V.int i]) = some (HO.lst [V.int (personIn z i 0)])
          rw [personIn_zero (by omega) (by omega)]
        · rintro j σ H2 hj ⟨v6, rfl, k2, e2⟩
          simp? only [sp__law_nights]
          have st := personIn_step (z := z) (e := i) (k := 1 + j) (by omega)
          rw [show (1 + (j : Int) - 1) = j by omega] at st
          have ej : ((j + 1 : Nat) : Int) = 1 + (j : Int) := by omega
          have hlen : (((ups ((j : Int) + 1)).map (personIn z i)).map V.int).length < 16777216 := by
            rw [List.length_map, List.length_map, ups_len]
            omega
          have hk : ∀ v : Int, ∀ b o, b ≠ S → H0 b = some o → upd H2 S (HO.lst (((ups ((j : Int) + 1)).map (personIn z i)).map V.int ++ [V.int v])) b = some o := fun v b o nb e => by
            rw [upd_ne nb]
            exact k2 b o nb e
          refine ⟨_, e2, _, e2, .int (personIn z i j), by rw [part_at]; exact Z.atI_last _ _, ?_⟩
          by_cases c : (1 + (j : Int)) % 2 = 1
          · rw [if_pos c] at st
            rw [if_pos c]
            refine ⟨_, rfl, hz1.1, _, e2, hlen, hk _, ?_⟩
            rw [part_at (j + 1), st, ej, Int.add_comm]
          · rw [if_neg c] at st
            rw [if_neg c]
            refine ⟨_, rfl, hz1.1, _, e2, hlen, hk _, ?_⟩
            rw [part_at (j + 1), st, ej, Int.add_comm]
        · rintro σ H2 ⟨v6, rfl, k2, e2⟩
          simp? only [sp__law_nights]
          rw [show (((z - 1).toNat : Nat) : Int) + 1 = z by omega] at e2
          have e3 := k2 D _ (Ne.symm hSD) eD
          refine ⟨_, e3, fun v H1 => ∃ T, v = .ref T ∧ H2 T = none ∧ H1 = upd H2 T (lstO (if r = true then [n - 1] else [])), ?_, ?_⟩
          · simp? only [sp__law_nights, kind_eq]
            cases r
            · rw [if_neg Bool.false_ne_true]
              first | exact fun T hT => ⟨T, rfl, hT, rfl⟩ | exact fun T hT => ⟨hT, rfl⟩
            · rw [if_pos rfl]
              first | exact fun T hT => ⟨T, rfl, hT, rfl⟩ | exact fun T hT => ⟨hT, rfl⟩
          · rintro v H1 ⟨T, rfl, hT, rfl⟩
            have hTD := ne_of_none e3 hT
            have hTS := ne_of_none e2 hT
            have e4 : upd H2 T (lstO (if r = true then [n - 1] else [])) S = some (.lst (((ups z).map (personIn z i)).map V.int)) := by
              rw [upd_ne hTS]
              exact e2
            refine ⟨T, rfl, _, upd_same, _, e4, ?_, fun p hp => ?_⟩
            · rw [List.length_map, List.length_map, List.length_map, ups_len]
              have : (if r = true then [n - 1] else []).length ≤ 1 := by
                split
                · exact Nat.le_refl 1
                · exact Nat.zero_le 1
              omega
            · have ev : (if r = true then [n - 1] else []).map V.int ++ ((ups z).map (personIn z i)).map V.int = (evL r n i).map V.int := by
                rw [← List.map_append]
                congr 1
                cases r
                · rw [evL_rows, ← hz]
                  rfl
                · rw [evL_rings (by omega), ← hz]
                  rfl
              rw [ev]
              have hpT : T ≠ p := ne_of_none upd_same hp
              have hp2 : H2 p = none := by
                rw [← upd_ne (H := H2) (o := lstO (if r = true then [n - 1] else [])) (Ne.symm hpT)]
                exact hp
              have hpD := ne_of_none e3 hp2
              have hpS := ne_of_none e2 hp2
              have kk : ∀ b o, b ≠ D → b ≠ S → H0 b = some o → upd (upd (upd H2 T (lstO (if r = true then [n - 1] else []))) p (HO.lst ((evL r n i).map V.int))) D (HO.lst (as.map V.ref ++ [V.ref p])) b = some o := fun b o nb ns e => by
                have e5 := k2 b o ns e
                rw [upd_ne nb, upd_ne (ne_of_none e5 hp2), upd_ne (ne_of_none e5 hT)]
                exact e5
              refine ⟨_, by rw [upd_ne hpD, upd_ne hTD]; exact e3, by rw [List.length_map]; omega, fun b o e => ?_, hD, as ++ [p], by rw [List.map_append]; rfl, ?_, by rw [List.length_append, hl]; rfl, ?_⟩
              · have e5 := s0 _ _ e
                exact kk b o (ne_of_none e hD) (ne_of_none e5 hS) e5
              · intro m
                rcases List.mem_append.mp m with m | m
                · exact nD m
                · exact hpD (List.mem_singleton.mp m)
              · rw [show ((i + 1 : Nat) : Int) = (i : Int) + 1 by omega, ups_succ, List.map_append]
                refine paired_app (paired_monoM (fun a ha l e => ?_) pr) (.cons ?_ .nil)
                · exact kk a _ (fun z => nD (by rw [← z]; exact ha)) (ne_of_none e hS) e
                · show upd _ D _ p = _
                  rw [upd_ne (Ne.symm hpD), upd_same]
      · rintro σ H' ⟨v4, v5, v6, D, as, rfl, s0, hD, eD, nD, hl, pr⟩
        simp? only [sp__law_nights]
        rw [show (((nights r n).toNat : Nat) : Int) = nights r n by omega] at pr
        exact q D as H' hD s0 eD pr
def sp__law_neighbours : Sp := fun vs H Q _ => ∃ (r : Bool) (a : Addr) (n e : Int), vs = [.str (kindS r), .ref a] ∧ 1 < n ∧ n ≤ 100 ∧ TupAt H a (evL r n e) ∧ ∀ D as H', H D = none → Same H H' → H' D = some (.lst (as.map V.ref)) → Paired (PairAt H') as (nbs r n e) → Q (.ref D) H'
theorem evL_at {r : Bool} {n e i : Int} (h0 : 0 ≤ i) (h1 : i < n) : atI ((evL r n e).map V.int) i = some (.int (personAt r n e i)) := by
  refine atI_int h0 ?_
  rw [List.getElem?_map, evL_get (by omega), show ((i.toNat : Nat) : Int) = i by omega]
  rfl
theorem evL_atE {r : Bool} {n e : Int} (h1 : 0 < n) : atI ((evL r n e).map V.int) (-1) = some (.int (personAt r n e (n - 1))) := by
  refine atI_end ?_
  rw [List.length_map, evL_len, List.getElem?_map, evL_get (by omega), show ((n.toNat - 1 : Nat) : Int) = n - 1 by omega]
  rfl
theorem ok__law_neighbours (T : Env P K mg c__law_right) : Hd P w K mg base CX0 1 "_law_neighbours" s__law_neighbours ["_law_sort_now", "_law_some"] sp__law_neighbours := by
  obtain ⟨f, fd, F, hm⟩ := T.d__law_neighbours
  refine ⟨⟨f, fd, F, hm, ?_⟩, fun _ _ _ _ _ _ _ us hl => match us, hl with | [_, _], _ => rfl⟩
  refine F.ok sc__law_neighbours (fun vs H Q E h => ?_) (fun cdv A outer s H vs Q E hr h => ?_)
  · first | (obtain ⟨rfl, _⟩ := h; rfl) | (obtain ⟨_, rfl, _⟩ := h; rfl) | (obtain ⟨_, _, rfl, _⟩ := h; rfl) | (obtain ⟨_, _, _, rfl, _⟩ := h; rfl) | (obtain ⟨_, _, _, _, rfl, _⟩ := h; rfl) | (obtain ⟨_, _, _, _, _, rfl, _⟩ := h; rfl) | (obtain ⟨_, _, _, _, _, _, rfl, _⟩ := h; rfl) | (obtain ⟨_, _, _, _, _, _, _, rfl, _⟩ := h; rfl) | (obtain ⟨_, _, _, _, _, _, _, _, rfl, _⟩ := h; rfl) | (obtain ⟨_, _, _, _, _, _, _, _, _, rfl, _⟩ := h; rfl) | (obtain ⟨_, _, _, _, _, _, _, _, _, _, rfl, _⟩ := h; rfl) | (obtain ⟨_, _, _, _, _, _, _, _, _, _, _, rfl, _⟩ := h; rfl) | (obtain ⟨_, _, _, _, _, _, _, _, _, _, _, _, rfl, _⟩ := h; rfl) | (obtain ⟨_, _, _, _, _, _, _, _, _, _, _, _, _, rfl, _⟩ := h; rfl) | (obtain ⟨_, _, _, _, _, _, _, _, _, _, _, _, _, _, rfl, _⟩ := h; rfl) | (obtain ⟨_, _, _, _, _, _, _, _, _, _, _, _, _, _, _, rfl, _⟩ := h; rfl) | (obtain ⟨_, _, _, _, _, _, _, _, _, _, _, _, _, _, _, _, rfl, _⟩ := h; rfl) | (obtain ⟨_, _, _, _, _, _, _, _, _, _, _, _, _, _, _, _, _, rfl, _⟩ := h; rfl) | (obtain ⟨_, _, _, _, _, _, _, _, _, _, _, _, _, _, _, _, _, _, rfl, _⟩ := h; rfl)
  · obtain ⟨r, a, n, e, rfl, h0, h1, ha, q⟩ := h
    have hu := hu_of hr
    refine ⟨_, pss_cons (ps_setLc (i := 2) (own := [("_law_k", 3)]) (g := (gName 3)) (tt := tYes) rfl sc__law_neighbours.nd rfl rfl (sw_true rfl rfl rfl (by decide +kernel)) (pi_range1 rfl T.b_range (pa_cons (pe_op op_sub (pe_callB call_lenU rfl T.b_len (by decide +kernel) (pa_cons (pv 1) pa_nil)) pe_int) pa_nil)) (blkOk_by (own := [("_law_k", 3)]) (N := N__law_neighbours) (sc := defScope s__law_neighbours) (by decide +kernel)) (fun _ _ _ _ _ => pg_name (i := 3) sc__law_neighbours.nd rfl (by first | exact .inl rfl | exact .inr rfl)) (fun _ _ _ _ _ => pts_nil) (fun _ _ _ _ _ => (pe_tup (pa_cons (pe_callB (call_min2 rfl) rfl T.b_min (by decide +kernel) (pa_cons (pe_ix ix_tupH (pv 1) (pv 3) (fun _ _ => rfl)) (pa_cons (pe_ix ix_tupH (pv 1) (pe_op op_add (pv 3) pe_int) (fun _ _ => rfl)) pa_nil))) (pa_cons (pe_callB (call_max2 rfl) rfl T.b_max (by decide +kernel) (pa_cons (pe_ix ix_tupH (pv 1) (pv 3) (fun _ _ => rfl)) (pa_cons (pe_ix ix_tupH (pv 1) (pe_op op_add (pv 3) pe_int) (fun _ _ => rfl)) pa_nil))) pa_nil)))))
      (pss_cons (ps_if (pt_cmpR op_eq (pv 0) pe_str (nomark _)) (pss_one (ps_expr (pe_bmL PySem.F.plainAttrs_list PySem.F.slot_list_append PySem.F.type_list_append mt_append (pv 2) (pa_cons (pe_tup (pa_cons (pe_callB (call_min2 rfl) rfl T.b_min (by decide +kernel) (pa_cons (pe_ix ix_tupH (pv 1) pe_int (fun _ _ => rfl)) (pa_cons (pe_ix ix_tupH (pv 1) (pe_un un_neg pe_int) (fun _ _ => rfl)) pa_nil))) (pa_cons (pe_callB (call_max2 rfl) rfl T.b_max (by decide +kernel) (pa_cons (pe_ix ix_tupH (pv 1) pe_int (fun _ _ => rfl)) (pa_cons (pe_ix ix_tupH (pv 1) (pe_un un_neg pe_int) (fun _ _ => rfl)) pa_nil))) pa_nil))) pa_nil))))
      (pss_nil))
      (pss_one (ps_ret (pv 2)))), ?_⟩
    simp? only [kind_eq]
    refine z_seq ?_
    refine lc_rngO (H1 := H) (n := n - 1) (intO fun k => pairO (mm (personAt r n e k) (personAt r n e (k + 1)))) (fun R h => ?_) (by omega) (fun k hk H1 s1 => ?_) fun D H1 as hD s1 e1 pr => ?_
    · simp? only [true_and]
      refine ⟨_, ha, ?_⟩
      rw [List.length_map, evL_len, show ((n.toNat : Nat) : Int) = n by omega]
      exact h
    · intro Y N hY hN
      have ha1 := s1 _ _ ha
      have i1 := evL_at (r := r) (e := e) (show 0 ≤ (k : Int) by omega) (show (k : Int) < n by omega)
      have i2 := evL_at (r := r) (e := e) (show 0 ≤ (k : Int) + 1 by omega) (show (k : Int) + 1 < n by omega)
      simp? only [true_and]
      refine ⟨_, ha1, _, i1, _, ha1, _, i2, _, rfl, _, rfl, _, ha1, _, i1, _, ha1, _, i2, _, rfl, _, rfl, fun p hp => ?_⟩
      exact hY _ p _ rfl hp (same_new hp) upd_same
    · have e2 : (upto (n - 1)).filterMap (intO fun k => pairO (mm (personAt r n e k) (personAt r n e (k + 1)))) = ((ups (n - 1)).map fun k => mm (personAt r n e k) (personAt r n e (k + 1))).map pairO := by
        rw [upto_ups, fm_intO, List.map_map]
        rfl
      rw [e2] at pr
      have pr := prs_of pr
      simp? only [kind_eq]
      have ha1 := s1 _ _ ha
      have i1 := evL_at (r := r) (e := e) (show 0 ≤ (0 : Int) by omega) (show (0 : Int) < n by omega)
      have i2 := evL_atE (r := r) (n := n) (e := e) (by omega)
      have hl : as.length = (n - 1).toNat := by rw [paired_len pr, List.length_map, ups_len]
      refine z_seq ?_
      cases r
      · simp? only [kind_eq]
        refine q D as H1 hD s1 e1 ?_
        have e3 : nbs false n e = (ups (n - 1)).map fun k => mm (personAt false n e k) (personAt false n e (k + 1)) := by
          unfold nbs
          rw [if_neg Bool.false_ne_true, List.append_nil]
        rw [e3]
        exact pr
      · simp? only [kind_eq]
        refine ⟨_, e1, _, ha1, _, i1, _, ha1, _, i2, _, rfl, _, rfl, _, ha1, _, i1, _, ha1, _, i2, _, rfl, _, rfl, fun p hp => ?_⟩
        have s2 := same_new (o := pairO (mm (personAt true n e 0) (personAt true n e (n - 1)))) hp
        have hpD := ne_of_none e1 hp
        refine ⟨_, s2 _ _ e1, by rw [List.length_map]; omega, ?_⟩
        refine q D (as ++ [p]) _ hD (same_upd (s1.trans s2) hD) (by rw [upd_same, List.map_append]; rfl) ?_
        have e3 : nbs true n e = ((ups (n - 1)).map fun k => mm (personAt true n e k) (personAt true n e (k + 1))) ++ [mm (personAt true n e 0) (personAt true n e (n - 1))] := by
          unfold nbs
          rw [if_pos rfl]
        rw [e3]
        refine paired_app (paired_monoM (fun b hb l eb => ?_) pr) (.cons ?_ .nil)
        · have eb : H1 b = some _ := eb
          have hbD : b ≠ D := by
            rintro rfl
            rw [e1] at eb
            cases eb
          show upd _ D _ b = _
          rw [upd_ne hbD]
          exact s2 _ _ eb
        · show upd _ D _ p = _
          rw [upd_ne (Ne.symm hpD), upd_same]
          rfl

open Zig
theorem sortL {r : Bool} {n k e : Int} (h : SizeIs r n k) (he : 0 ≤ e) (hek : e < k) : (evL r n e).mergeSort = ups n :=
  (perm_sort (evL_perm h he hek).symm ((ups_lt n).imp fun h => Int.le_of_lt h)).symm
theorem rgV_ups (n : Int) : rgV 0 n = (ups n).map V.int := by
  unfold rgV ups
  rw [List.map_map, show n - 0 = n by omega]
  refine List.map_congr_left fun i _ => ?_
  show V.int (0 + (i : Int)) = V.int i
  rw [Int.zero_add]
theorem prs_Lex (n : Int) : Lex (prs n) := (prs_lex n).imp fun h => SrtO.lexB_no.mpr (by omega)
def sp__law_is_party : Sp := fun vs H Q _ => ∃ (r : Bool) (n : Int) (a : Addr) (as : List Addr), vs = [.str (kindS r), .int n, .ref a] ∧ SizeIs r n (nights r n) ∧ n ≤ 60 ∧ H a = some (.tup (as.map V.ref)) ∧ Paired (TupAt H) as (zz r n) ∧ ∀ H', Same H H' → Q (.bl true) H'
theorem ok__law_is_party (T : Env P K mg c__law_right) : Hd P w K mg base CX0 2 "_law_is_party" s__law_is_party ["_law_sort_now", "_law_size", "_law_thing"] sp__law_is_party := by
  have H__law_pairs := ok__law_pairs (P := P) (w := w) (base := base) T
  have H__law_neighbours := ok__law_neighbours (P := P) (w := w) (base := base) T
  have H__law_is_whole := ok__law_is_whole (P := P) (w := w) (base := base) T
  have H__law_nights := ok__law_nights (P := P) (w := w) (base := base) T
  obtain ⟨f, fd, F, hm⟩ := T.d__law_is_party
  refine ⟨⟨f, fd, F, hm, ?_⟩, fun _ _ _ _ _ _ _ us hl => match us, hl with | [_, _, _], _ => rfl⟩
  refine F.ok sc__law_is_party (fun vs H Q E h => ?_) (fun cdv A outer s H vs Q E hr h => ?_)
  · first | (obtain ⟨rfl, _⟩ := h; rfl) | (obtain ⟨_, rfl, _⟩ := h; rfl) | (obtain ⟨_, _, rfl, _⟩ := h; rfl) | (obtain ⟨_, _, _, rfl, _⟩ := h; rfl) | (obtain ⟨_, _, _, _, rfl, _⟩ := h; rfl) | (obtain ⟨_, _, _, _, _, rfl, _⟩ := h; rfl) | (obtain ⟨_, _, _, _, _, _, rfl, _⟩ := h; rfl) | (obtain ⟨_, _, _, _, _, _, _, rfl, _⟩ := h; rfl) | (obtain ⟨_, _, _, _, _, _, _, _, rfl, _⟩ := h; rfl) | (obtain ⟨_, _, _, _, _, _, _, _, _, rfl, _⟩ := h; rfl) | (obtain ⟨_, _, _, _, _, _, _, _, _, _, rfl, _⟩ := h; rfl) | (obtain ⟨_, _, _, _, _, _, _, _, _, _, _, rfl, _⟩ := h; rfl) | (obtain ⟨_, _, _, _, _, _, _, _, _, _, _, _, rfl, _⟩ := h; rfl) | (obtain ⟨_, _, _, _, _, _, _, _, _, _, _, _, _, rfl, _⟩ := h; rfl) | (obtain ⟨_, _, _, _, _, _, _, _, _, _, _, _, _, _, rfl, _⟩ := h; rfl) | (obtain ⟨_, _, _, _, _, _, _, _, _, _, _, _, _, _, _, rfl, _⟩ := h; rfl) | (obtain ⟨_, _, _, _, _, _, _, _, _, _, _, _, _, _, _, _, rfl, _⟩ := h; rfl) | (obtain ⟨_, _, _, _, _, _, _, _, _, _, _, _, _, _, _, _, _, rfl, _⟩ := h; rfl) | (obtain ⟨_, _, _, _, _, _, _, _, _, _, _, _, _, _, _, _, _, _, rfl, _⟩ := h; rfl)
  · obtain ⟨r, n, a, as, rfl, hs, hn, ha, pr, q⟩ := h
    have hu := hu_of hr
    refine ⟨_, pss_cons (ps_if (PW.pt (pw_or (pt_not (pt_val (pe_callB call_isN rfl T.b_isinstance (by decide +kernel) (pa_cons (pv 2) (pa_cons (pe_bltn (v := .ty "tuple") (by rfl) T.b_tuple (by decide +kernel) rfl) pa_nil))))) (pw_or1 (pt_cmpR op_ne (pe_callB call_lenU rfl T.b_len (by decide +kernel) (pa_cons (pv 2) pa_nil)) (pe_hd H__law_nights (hr.mono (by decide)) rfl pass0 (pa_cons (pv 0) (pa_cons (pv 1) pa_nil))) (nomark _))))) (pss_one (ps_ret pe_bl))
      (pss_nil))
      (pss_cons (ps_set (i := 3) sc__law_is_party.nd rfl (by first | exact .inl rfl | exact .inr rfl) (pe_lst pa_nil))
      (pss_cons (ps_for PassesOwn.never rfl (pi_tup (pv 2)) (pg_name (i := 4) sc__law_is_party.nd rfl (by first | exact .inl rfl | exact .inr rfl))
      (pss_cons (ps_if (PW.pt (pw_or (pt_not (pt_val (pe_callB call_isN rfl T.b_isinstance (by decide +kernel) (pa_cons (pv 4) (pa_cons (pe_bltn (v := .ty "tuple") (by rfl) T.b_tuple (by decide +kernel) rfl) pa_nil))))) (pw_or1 (pt_cmpR op_ne (pe_callB call_lenU rfl T.b_len (by decide +kernel) (pa_cons (pv 4) pa_nil)) (pv 1) (nomark _))))) (pss_one (ps_ret pe_bl))
      (pss_nil))
      (pss_cons (ps_if (PW.pt (pw_or (pt_not (pt_val (pe_callB (cr_allH rfl) rfl T.b_all (by decide +kernel) (pa_cons (pe_lc (own := [("_law_each", 5)]) (g := (gName 5)) (tt := tYes) rfl sc__law_is_party.nd (pi_tup (pv 4)) (blkOk_by (own := [("_law_each", 5)]) (N := N__law_is_party) (sc := defScope s__law_is_party) (by decide +kernel)) (fun _ _ _ _ _ => pg_name (i := 5) sc__law_is_party.nd rfl (by first | exact .inl rfl | exact .inr rfl)) (fun _ _ _ _ _ => pts_nil) (fun _ _ _ _ _ => (pe_hd H__law_is_whole (hr.mono (by decide)) rfl pass0 (pa_cons (pv 5) (pa_cons pe_int (pa_cons (pe_op op_sub (pv 1) pe_int) pa_nil)))))) pa_nil)))) (pw_or1 (pt_cmpR (op_neD hr.units) (pe_callB cr_sortedTup rfl T.b_sorted (by decide +kernel) (pa_cons (pv 4) pa_nil)) (pe_listRg rfl rfl T.b_list (prg_1 rfl T.b_range (pv 1))) (nomark _))))) (pss_one (ps_ret pe_bl))
      (pss_nil))
      (pss_one (ps_set (i := 3) sc__law_is_party.nd rfl (by first | exact .inl rfl | exact .inr rfl) (pe_op op_cat (pv 3) (pe_hd H__law_neighbours (hr.mono (by decide)) rfl pass0 (pa_cons (pv 0) (pa_cons (pv 4) pa_nil)))))))))
      (pss_one (ps_ret (pe_cmpR (op_eqD hr.units) (pe_callB cr_sortedPr rfl T.b_sorted (by decide +kernel) (pa_cons (pv 3) pa_nil)) (pe_hd H__law_pairs (hr.mono (by decide)) rfl pass0 (pa_cons (pv 1) pa_nil)) (nomark _)))))), ?_⟩
    simp only [L2.start, List.map_cons, List.map_nil, List.length_cons, List.length_nil, Nat.zero_add, Nat.reduceAdd, Nat.reduceSub, List.replicate_succ, List.replicate_zero, List.cons_append, List.nil_append, List.append_nil, L2.tNext, L2.tAsg, L2.gName, L2.tRet, L2.tRetN, L2.tIfS, L2.tVar, L2.tC, L2.tOp, L2.tUn, L2.rI, L2.rI0, L2.rU, L2.rEq, L2.rNe, L2.tTest, L2.tB, L2.tIf, Z.tIfCI, Z.tIfCS, L2.tChain, L2.tCons, L2.tNil, L2.tCall, L2.tDrop, L2.tAndV, L2.tOrV, L2.tNotV, L2.tAnd, L2.tOr, L2.tNot, L2.tCB, Z.sc_ii, Z.sc_ss, Z.sc_bb, Z.sc_is, Z.sc_si, Z.sc_ni, Z.sc_in, Z.sc_ns, Z.sc_sn, Z.sc_nn, L2.CDiv, L2.CPow, L2.CMul, List.getElem?_cons_zero, List.getElem?_cons_succ, Z.set_z, Z.set_s, Option.some.injEq, L2.V.int.injEq, L2.V.bl.injEq, L2.V.str.injEq, L2.V.ref.injEq, L2.V.ty.injEq, List.cons.injEq, exists_eq_left', exists_and_left, exists_eq_left, exists_eq_right, exists_eq_right', exists_eq', exists_eq, true_and, and_true, and_assoc, decide_eq_true_eq, Int.reduceLT, and_self, Z.rIxH, Z.rIxU, Z.at30, Z.at31, Z.at32, Z.ix3_0, Z.ix3_1, Z.ix3_2, L2.rSetL, L2.gSub, Z.gTupH, L2.gCons, L2.gNil, L2.HO.lst.injEq, L2.HO.tup.injEq, L2.upd_same, L2.upd_upd, L2.tSl, L2.tNoPart, L2.tPart, L2.rSlL, L2.rCat, List.length_append, or_false, false_or, or_true, true_or, reduceCtorEq, false_and, and_false, exists_false, Int.reduceNeg, Int.reducePow, Int.reduceToNat, Int.reduceAbs, Int.reduceLE, Int.reduceMul, Int.reduceAdd, Int.reduceSub, Nat.reducePow, Nat.reduceLT, Nat.reduceLeDiff, Int.natAbs_natCast, if_true, if_false, Z.tyN, Z.kit_ii, Z.kit_bi, Z.kit_si, Z.kit_ni, Z.kit_ib, Z.kit_bb, Z.kit_sb, Z.kit_nb, Z.kit_is, Z.kit_bs, Z.kit_ss, Z.kit_ns, Bool.not_true, Bool.not_false, L2.tTup, L2.tLst, L2.wipe, L2.tYes, Z.Turn1, L2.tNever, sizeLine_eq, Z.rInU, Z.rInH, L2.flatV, List.any_cons, List.any_nil, List.all_cons, List.all_nil, Bool.and_true, Bool.true_and, Bool.or_false, Bool.false_or, Z.tBML, L2.rAppend, Z.map_int_inj, Z.map_bl_inj, Z.rTupL, Z.rLstL, Z.rLstT, Z.rSortI, Z.rAnyH, Z.rAllH, Z.rSumH, Z.rLenL, Z.rLenU, List.length_map, L2.tPar, StX.tStar, L2.tDNewT, L2.tDIn, L2.sDPut, L2.tDGet, Z.tCallK0, List.getD_cons_zero, List.getD_cons_succ, L2.tPar3, L2.rLenT, sp__law_pairs, sp__law_neighbours, sp__law_is_whole, sp__law_nights]
    refine z_seq ?_
    simp only [L2.start, List.map_cons, List.map_nil, List.length_cons, List.length_nil, Nat.zero_add, Nat.reduceAdd, Nat.reduceSub, List.replicate_succ, List.replicate_zero, List.cons_append, List.nil_append, List.append_nil, L2.tNext, L2.tAsg, L2.gName, L2.tRet, L2.tRetN, L2.tIfS, L2.tVar, L2.tC, L2.tOp, L2.tUn, L2.rI, L2.rI0, L2.rU, L2.rEq, L2.rNe, L2.tTest, L2.tB, L2.tIf, Z.tIfCI, Z.tIfCS, L2.tChain, L2.tCons, L2.tNil, L2.tCall, L2.tDrop, L2.tAndV, L2.tOrV, L2.tNotV, L2.tAnd, L2.tOr, L2.tNot, L2.tCB, Z.sc_ii, Z.sc_ss, Z.sc_bb, Z.sc_is, Z.sc_si, Z.sc_ni, Z.sc_in, Z.sc_ns, Z.sc_sn, Z.sc_nn, L2.CDiv, L2.CPow, L2.CMul, List.getElem?_cons_zero, List.getElem?_cons_succ, Z.set_z, Z.set_s, Option.some.injEq, L2.V.int.injEq, L2.V.bl.injEq, L2.V.str.injEq, L2.V.ref.injEq, L2.V.ty.injEq, List.cons.injEq, exists_eq_left', exists_and_left, exists_eq_left, exists_eq_right, exists_eq_right', exists_eq', exists_eq, true_and, and_true, and_assoc, decide_eq_true_eq, Int.reduceLT, and_self, Z.rIxH, Z.rIxU, Z.at30, Z.at31, Z.at32, Z.ix3_0, Z.ix3_1, Z.ix3_2, L2.rSetL, L2.gSub, Z.gTupH, L2.gCons, L2.gNil, L2.HO.lst.injEq, L2.HO.tup.injEq, L2.upd_same, L2.upd_upd, L2.tSl, L2.tNoPart, L2.tPart, L2.rSlL, L2.rCat, List.length_append, or_false, false_or, or_true, true_or, reduceCtorEq, false_and, and_false, exists_false, Int.reduceNeg, Int.reducePow, Int.reduceToNat, Int.reduceAbs, Int.reduceLE, Int.reduceMul, Int.reduceAdd, Int.reduceSub, Nat.reducePow, Nat.reduceLT, Nat.reduceLeDiff, Int.natAbs_natCast, if_true, if_false, Z.tyN, Z.kit_ii, Z.kit_bi, Z.kit_si, Z.kit_ni, Z.kit_ib, Z.kit_bb, Z.kit_sb, Z.kit_nb, Z.kit_is, Z.kit_bs, Z.kit_ss, Z.kit_ns, Bool.not_true, Bool.not_false, L2.tTup, L2.tLst, L2.wipe, L2.tYes, Z.Turn1, L2.tNever, sizeLine_eq, Z.rInU, Z.rInH, L2.flatV, List.any_cons, List.any_nil, List.all_cons, List.all_nil, Bool.and_true, Bool.true_and, Bool.or_false, Bool.false_or, Z.tBML, L2.rAppend, Z.map_int_inj, Z.map_bl_inj, Z.rTupL, Z.rLstL, Z.rLstT, Z.rSortI, Z.rAnyH, Z.rAllH, Z.rSumH, Z.rLenL, Z.rLenU, List.length_map, L2.tPar, StX.tStar, L2.tDNewT, L2.tDIn, L2.sDPut, L2.tDGet, Z.tCallK0, List.getD_cons_zero, List.getD_cons_succ, L2.tPar3, L2.rLenT, sp__law_pairs, sp__law_neighbours, sp__law_is_whole, sp__law_nights]
    have hz2 := size_two hs
    have hla : as.length = (nights r n).toNat := by rw [paired_len pr]; unfold zz; rw [List.length_map, ups_len]
    have hk := nights_le (r := r) (n := n) (by omega)
    refine isN_tup ha ⟨true, rfl, ?_⟩
    rw [if_neg (by decide)]
    refine ⟨_, ha, r, rfl, ?_⟩
    have e0 : decide (((as.map V.ref).length : Int) = nights r n) = true := decide_eq_true (by rw [List.length_map, hla]; omega)
    rw [e0, if_neg (by decide)]
    refine z_seq ?_
    simp? only [sp__law_pairs, sp__law_neighbours, sp__law_is_whole, sp__law_nights]
    intro D0 hD0
    refine z_seq ?_
    refine Z.for_tup (a := a) (xs := as.map V.ref) (fun R h => ⟨_, rfl, h⟩) (fun i σ H' => ∃ v4 v5 D bs, σ = [some (.str (kindS r)), some (.int n), some (.ref a), some (.ref D), v4, v5] ∧ Same H H' ∧ H D = none ∧ H' D = some (.lst (bs.map V.ref)) ∧ bs.length ≤ i * 100 ∧ Paired (PairAt H') bs ((ups i).flatMap (nbs r n))) ⟨_, _, D0, [], rfl, same_new hD0, hD0, upd_same, Nat.zero_le _, .nil⟩ (fun _ _ _ h => by obtain ⟨_, _, _, _, _, h, _⟩ := h; exact SqT.of (h _ _ ha)) ?_ ?_
    · rintro i x σ H0 hix ⟨v4, v5, D, bs, rfl, s0, hD, eD, hl, pb⟩ N hN
      rw [List.getElem?_map] at hix
      obtain ⟨t, ht, rfl⟩ := Option.map_eq_some_iff.mp hix
      have hi : i < as.length := (List.getElem?_eq_some_iff.mp ht).1
      obtain ⟨l, hl1, hl2⟩ := Z.paired_get pr ht
      have el : l = evL r n i := by
        unfold zz at hl1
        rw [List.getElem?_map, ups_get (by omega)] at hl1
        exact (Option.some.inj hl1).symm
      subst el
      have t0 := s0 _ _ hl2
      have hne : (evL r n i).length = n.toNat := evL_len r n i
      simp only [L2.start, List.map_cons, List.map_nil, List.length_cons, List.length_nil, Nat.zero_add, Nat.reduceAdd, Nat.reduceSub, List.replicate_succ, List.replicate_zero, List.cons_append, List.nil_append, List.append_nil, L2.tNext, L2.tAsg, L2.gName, L2.tRet, L2.tRetN, L2.tIfS, L2.tVar, L2.tC, L2.tOp, L2.tUn, L2.rI, L2.rI0, L2.rU, L2.rEq, L2.rNe, L2.tTest, L2.tB, L2.tIf, Z.tIfCI, Z.tIfCS, L2.tChain, L2.tCons, L2.tNil, L2.tCall, L2.tDrop, L2.tAndV, L2.tOrV, L2.tNotV, L2.tAnd, L2.tOr, L2.tNot, L2.tCB, Z.sc_ii, Z.sc_ss, Z.sc_bb, Z.sc_is, Z.sc_si, Z.sc_ni, Z.sc_in, Z.sc_ns, Z.sc_sn, Z.sc_nn, L2.CDiv, L2.CPow, L2.CMul, List.getElem?_cons_zero, List.getElem?_cons_succ, Z.set_z, Z.set_s, Option.some.injEq, L2.V.int.injEq, L2.V.bl.injEq, L2.V.str.injEq, L2.V.ref.injEq, L2.V.ty.injEq, List.cons.injEq, exists_eq_left', exists_and_left, exists_eq_left, exists_eq_right, exists_eq_right', exists_eq', exists_eq, true_and, and_true, and_assoc, decide_eq_true_eq, Int.reduceLT, and_self, Z.rIxH, Z.rIxU, Z.at30, Z.at31, Z.at32, Z.ix3_0, Z.ix3_1, Z.ix3_2, L2.rSetL, L2.gSub, Z.gTupH, L2.gCons, L2.gNil, L2.HO.lst.injEq, L2.HO.tup.injEq, L2.upd_same, L2.upd_upd, L2.tSl, L2.tNoPart, L2.tPart, L2.rSlL, L2.rCat, List.length_append, or_false, false_or, or_true, true_or, reduceCtorEq, false_and, and_false, exists_false, Int.reduceNeg, Int.reducePow, Int.reduceToNat, Int.reduceAbs, Int.reduceLE, Int.reduceMul, Int.reduceAdd, Int.reduceSub, Nat.reducePow, Nat.reduceLT, Nat.reduceLeDiff, Int.natAbs_natCast, if_true, if_false, Z.tyN, Z.kit_ii, Z.kit_bi, Z.kit_si, Z.kit_ni, Z.kit_ib, Z.kit_bb, Z.kit_sb, Z.kit_nb, Z.kit_is, Z.kit_bs, Z.kit_ss, Z.kit_ns, Bool.not_true, Bool.not_false, L2.tTup, L2.tLst, L2.wipe, L2.tYes, Z.Turn1, L2.tNever, sizeLine_eq, Z.rInU, Z.rInH, L2.flatV, List.any_cons, List.any_nil, List.all_cons, List.all_nil, Bool.and_true, Bool.true_and, Bool.or_false, Bool.false_or, Z.tBML, L2.rAppend, Z.map_int_inj, Z.map_bl_inj, Z.rTupL, Z.rLstL, Z.rLstT, Z.rSortI, Z.rAnyH, Z.rAllH, Z.rSumH, Z.rLenL, Z.rLenU, List.length_map, L2.tPar, StX.tStar, L2.tDNewT, L2.tDIn, L2.sDPut, L2.tDGet, Z.tCallK0, List.getD_cons_zero, List.getD_cons_succ, L2.tPar3, L2.rLenT, sp__law_pairs, sp__law_neighbours, sp__law_is_whole, sp__law_nights]
      refine z_seq ?_
      simp only [L2.start, List.map_cons, List.map_nil, List.length_cons, List.length_nil, Nat.zero_add, Nat.reduceAdd, Nat.reduceSub, List.replicate_succ, List.replicate_zero, List.cons_append, List.nil_append, List.append_nil, L2.tNext, L2.tAsg, L2.gName, L2.tRet, L2.tRetN, L2.tIfS, L2.tVar, L2.tC, L2.tOp, L2.tUn, L2.rI, L2.rI0, L2.rU, L2.rEq, L2.rNe, L2.tTest, L2.tB, L2.tIf, Z.tIfCI, Z.tIfCS, L2.tChain, L2.tCons, L2.tNil, L2.tCall, L2.tDrop, L2.tAndV, L2.tOrV, L2.tNotV, L2.tAnd, L2.tOr, L2.tNot, L2.tCB, Z.sc_ii, Z.sc_ss, Z.sc_bb, Z.sc_is, Z.sc_si, Z.sc_ni, Z.sc_in, Z.sc_ns, Z.sc_sn, Z.sc_nn, L2.CDiv, L2.CPow, L2.CMul, List.getElem?_cons_zero, List.getElem?_cons_succ, Z.set_z, Z.set_s, Option.some.injEq, L2.V.int.injEq, L2.V.bl.injEq, L2.V.str.injEq, L2.V.ref.injEq, L2.V.ty.injEq, List.cons.injEq, exists_eq_left', exists_and_left, exists_eq_left, exists_eq_right, exists_eq_right', exists_eq', exists_eq, true_and, and_true, and_assoc, decide_eq_true_eq, Int.reduceLT, and_self, Z.rIxH, Z.rIxU, Z.at30, Z.at31, Z.at32, Z.ix3_0, Z.ix3_1, Z.ix3_2, L2.rSetL, L2.gSub, Z.gTupH, L2.gCons, L2.gNil, L2.HO.lst.injEq, L2.HO.tup.injEq, L2.upd_same, L2.upd_upd, L2.tSl, L2.tNoPart, L2.tPart, L2.rSlL, L2.rCat, List.length_append, or_false, false_or, or_true, true_or, reduceCtorEq, false_and, and_false, exists_false, Int.reduceNeg, Int.reducePow, Int.reduceToNat, Int.reduceAbs, Int.reduceLE, Int.reduceMul, Int.reduceAdd, Int.reduceSub, Nat.reducePow, Nat.reduceLT, Nat.reduceLeDiff, Int.natAbs_natCast, if_true, if_false, Z.tyN, Z.kit_ii, Z.kit_bi, Z.kit_si, Z.kit_ni, Z.kit_ib, Z.kit_bb, Z.kit_sb, Z.kit_nb, Z.kit_is, Z.kit_bs, Z.kit_ss, Z.kit_ns, Bool.not_true, Bool.not_false, L2.tTup, L2.tLst, L2.wipe, L2.tYes, Z.Turn1, L2.tNever, sizeLine_eq, Z.rInU, Z.rInH, L2.flatV, List.any_cons, List.any_nil, List.all_cons, List.all_nil, Bool.and_true, Bool.true_and, Bool.or_false, Bool.false_or, Z.tBML, L2.rAppend, Z.map_int_inj, Z.map_bl_inj, Z.rTupL, Z.rLstL, Z.rLstT, Z.rSortI, Z.rAnyH, Z.rAllH, Z.rSumH, Z.rLenL, Z.rLenU, List.length_map, L2.tPar, StX.tStar, L2.tDNewT, L2.tDIn, L2.sDPut, L2.tDGet, Z.tCallK0, List.getD_cons_zero, List.getD_cons_succ, L2.tPar3, L2.rLenT, sp__law_pairs, sp__law_neighbours, sp__law_is_whole, sp__law_nights]
      refine isN_tup t0 ⟨true, rfl, ?_⟩
      rw [if_neg (by decide)]
      refine ⟨_, t0, ?_⟩
      have e1 : decide ((((evL r n i).map V.int).length : Int) = n) = true := decide_eq_true (by rw [List.length_map, hne]; omega)
      rw [e1, if_neg (by decide)]
      refine z_seq ?_
      simp? only [sp__law_pairs, sp__law_neighbours, sp__law_is_whole, sp__law_nights, Z.rSortTup, L2.tLstRg, L2.tRg1]
      refine lc_mapT (a := t) (xs := (evL r n i).map V.int) (H1 := H0) (fun _ => some (.bl true)) (fun R h => ⟨_, rfl, h⟩) (SqT.of t0) (by rw [List.length_map, hne]; omega) (fun x hx H1 s1 => ?_) fun D1 H1 hD1 s1 e2 => ?_
      · obtain ⟨p, hp, rfl⟩ := mem_ints hx
        have pb := (evL_mem hs (by omega) (by omega) p).mp hp
        intro Y N hY hN
        simp? only [sp__law_pairs, sp__law_neighbours, sp__law_is_whole, sp__law_nights]
        have c : decide (0 ≤ p ∧ p ≤ n - 1) = true := decide_eq_true (by omega)
        rw [c]
        exact hY _ H1 rfl (Same.refl _)
      · rw [reps] at e2
        refine ⟨D1, rfl, _, e2, ?_⟩
        rw [all_rep, if_neg (by decide)]
        refine ⟨_, s1 _ _ t0, fun p hp => ⟨RgOk.of_le (by omega) (by omega) (by omega) (by omega), fun q1 hq1 => ?_⟩⟩
        have hpq := ne_of_none (upd_same (H := H1) (a := p)) hq1
        rw [sortL hs (by omega) (by omega)] at hq1 ⊢
        refine ne_lsts (ns := ups n) (by rw [upd_ne hpq, upd_same]) (by rw [upd_same, rgV_ups]) ⟨false, rfl, ?_⟩
        rw [if_neg Bool.false_ne_true]
        have s2 := s1.trans (same_upd (o := .lst (rgV 0 n)) (same_new (o := .lst ((ups n).map V.int)) hp) ((same_new (o := .lst ((ups n).map V.int)) hp).free hq1))
        refine ⟨r, rfl, n, by omega, by omega, i, s2 _ _ t0, fun D2 cs H3 hD2 s3 e3 pc => ?_⟩
        have s4 := s2.trans s3
        have hl2 : cs.length ≤ 100 := by
          rw [paired_len pc]
          unfold nbs
          rw [List.length_append, List.length_map, ups_len]
          have : (if r = true then [mm (personAt r n i 0) (personAt r n i (n - 1))] else []).length ≤ 1 := by
            split
            · exact Nat.le_refl 1
            · exact Nat.zero_le 1
          omega
        refine ⟨_, s4 _ _ eD, _, e3, ?_, fun p4 hp4 => ?_⟩
        · rw [List.length_map, List.length_map]
          have : i * 100 ≤ 60 * 100 := Nat.mul_le_mul_right _ (by omega)
          omega
        · have s5 := s0.trans s4
          refine hN _ _ ⟨_, _, p4, bs ++ cs, rfl, same_upd s5 (s5.free hp4), s5.free hp4, by rw [upd_same, List.map_append], ?_, ?_⟩
          · rw [List.length_append, Nat.add_mul]
            omega
          · rw [flat_succ]
            exact prs_same (same_new hp4) (paired_app (prs_same s4 pb) pc)
    · rintro σ H' ⟨v4, v5, D, bs, rfl, s0, hD, eD, hl, pb⟩
      simp? only [sp__law_pairs, sp__law_neighbours, sp__law_is_whole, sp__law_nights]
      rw [List.length_map, hla, show (((nights r n).toNat : Nat) : Int) = nights r n by omega] at pb
      refine ⟨D, bs, _, rfl, eD, pb, fun cs qs p hp hcs hqs hlex pc => ⟨by omega, by omega, fun D1 ds H1 hD1 s1 e1 pd => ?_⟩⟩
      have eq : qs = prs n := lex_eq hlex (prs_Lex n) (hqs.trans (allN_perm hs))
      subst eq
      have s2 := same_upd (o := .lst (cs.map V.ref)) s0 (s0.free hp)
      exact eq_lprs (s1 _ _ upd_same) (prs_same s1 (prs_same (same_new hp) pc)) e1 pd (q _ (s2.trans s1))

open Zig
theorem spots_len (r : Bool) (n j : Int) : (spots r n j).length ≤ 2 := by
  unfold spots
  split
  · exact Nat.le_refl 2
  · exact Nat.le_trans (List.length_filter_le _ _) (Nat.le_refl 2)
theorem ahead_str {E : XK} {H : Hp} {r : Bool} {n : Int} {k : Bool → Int → Prop} (hs : sizeV r most (.int n) = true) (h : k r n) : Ahead mg E H (.str (kindS r)) (.int n) k := ⟨known_str _, known_int _, fun no => absurd rfl (no r), fun r' hr => by
  have e : kindS r = kindS r' := V.str.inj hr
  rw [kind_inj] at e
  subst e
  exact ⟨fun z => absurd (hs.symm.trans z) (by decide), fun _ m hm => by cases hm; exact h⟩⟩
theorem size_most {r : Bool} {n k : Int} (h : SizeIs r n k) (h2 : n ≤ 99) : sizeV r most (.int n) = true := by
  have hm : (99 : Int) ≤ most := by decide
  have h3 : 2 ≤ n := by obtain ⟨h0, ⟨rfl, h1⟩ | ⟨rfl, h1⟩⟩ := h <;> omega
  show (if r then (decide (3 ≤ n ∧ n ≤ most) && decide (n % 2 = 1)) else (decide (2 ≤ n ∧ n ≤ most) && decide (n % 2 = 0))) = true
  obtain ⟨h0, ⟨rfl, h1⟩ | ⟨rfl, h1⟩⟩ := h
  · rw [if_pos rfl, decide_eq_true (by omega), decide_eq_true (by omega)]
    rfl
  · rw [if_neg Bool.false_ne_true, decide_eq_true (by omega), decide_eq_true (by omega)]
    rfl
theorem ask_in {E : XK} {H : Hp} {l m i : Int} {k : Prop} (h0 : l ≤ i) (h1 : i ≤ m) (h : k) : Ask mg E H (inB l m (.int i)) (.int i) k := by
  have b : inB l m (.int i) = true := decide_eq_true ⟨h0, h1⟩
  exact ⟨fun z => absurd (b.symm.trans z) (by decide), fun _ => h⟩
theorem ne_ints0 {H : Hp} {a b : Addr} {l : List Int} {Q : VK} (ha : H a = some (.lst (l.map V.int))) (hb : H b = some (.lst (l.map V.int))) (q : Q (.bl false) H) : rNeD K (.ref a) (.ref b) H Q :=
  ⟨.list (l.map PyData.int), .list (l.map PyData.int), .lst (SqL.of ha) (dpAll_ints l), .lst (SqL.of hb) (dpAll_ints l), shaped_lst l, shaped_lst l, by rw [SeqAt.eqv_refl _ (SeqAt.canLay_of_shaped (shaped_lst l))]; exact q⟩
theorem ne_tup0 {H : Hp} {a b : Addr} {l : List Int} {Q : VK} (ha : H a = some (.tup (l.map V.int))) (hb : H b = some (.tup (l.map V.int))) (q : Q (.bl false) H) : rNeD K (.ref a) (.ref b) H Q :=
  ⟨.tuple (l.map PyData.int), .tuple (l.map PyData.int), .tup (SqT.of ha) (dpAll_ints l), .tup (SqT.of hb) (dpAll_ints l), shaped_tup l, shaped_tup l, by rw [SeqAt.eqv_refl _ (SeqAt.canLay_of_shaped (shaped_tup l))]; exact q⟩
theorem len12 {σ : L2.St} (h : σ.length = 12) : ∃ x0 x1 x2 x3 x4 x5 x6 x7 x8 x9 x10 x11, σ = [x0, x1, x2, x3, x4, x5, x6, x7, x8, x9, x10, x11] :=
  match σ, h with
  | [x0, x1, x2, x3, x4, x5, x6, x7, x8, x9, x10, x11], _ => ⟨_, _, _, _, _, _, _, _, _, _, _, _, rfl⟩
def keepF (H : Hp) (x : Int) (v : V) : Option V := if x = (pairOf H v).1 ∨ x = (pairOf H v).2 then some v else none
def restF (H : Hp) (x : Int) (v : V) : Option V := some (.int ((pairOf H v).1 + (pairOf H v).2 - x))
theorem keep_rest (H : Hp) (x : Int) (l : List V) : (l.filterMap (keepF H x)).filterMap (restF H x) = l.filterMap (otherF H x) := by
  rw [List.filterMap_filterMap]
  congr 1
  funext v
  unfold keepF otherF restF
  split <;> rfl
def sp__law_evening_right (mg : Str → Option Value) : Sp := fun vs H Q _ => ∃ (p A : Addr) (bs : List Addr) (r : Bool) (n k e : Int), vs = [.ref p, .str (kindS r), .ref A, .int e] ∧ Spring H p ∧ SizeIs r n k ∧ n ≤ 99 ∧ 0 ≤ e ∧ e < k ∧ H A = some (.tup (bs.map V.ref)) ∧ Paired (TupAt H) bs (zz r n) ∧ ∀ H', Kp p H H' → Q (.bl true) H'
theorem ok__law_evening_right (T : Env P K mg c__law_right) : Hd P w K mg base CX0 6 "_law_evening_right" s__law_evening_right ["_law_spring_here", "_law_sort_now", "_law_due", "_law_e"] (sp__law_evening_right mg) := by
  have H_zigzag_evening := ok_zigzag_evening (P := P) (w := w) (base := base) T
  have H_zigzag_beside := ok_zigzag_beside (P := P) (w := w) (base := base) T
  have H__law_neighbours := ok__law_neighbours (P := P) (w := w) (base := base) T
  have H_zigzag_person := ok_zigzag_person (P := P) (w := w) (base := base) T
  have H_zigzag_place := ok_zigzag_place (P := P) (w := w) (base := base) T
  have H__law_draw := ok__law_draw (P := P) (w := w) (base := base) T
  obtain ⟨f, fd, F, hm⟩ := T.d__law_evening_right
  refine ⟨⟨f, fd, F, hm, ?_⟩, fun _ _ _ _ _ _ _ us hl => match us, hl with | [_, _, _, _], _ => rfl⟩
  refine F.ok sc__law_evening_right (fun vs H Q E h => ?_) (fun cdv A outer s H vs Q E hr h => ?_)
  · first | (obtain ⟨rfl, _⟩ := h; rfl) | (obtain ⟨_, rfl, _⟩ := h; rfl) | (obtain ⟨_, _, rfl, _⟩ := h; rfl) | (obtain ⟨_, _, _, rfl, _⟩ := h; rfl) | (obtain ⟨_, _, _, _, rfl, _⟩ := h; rfl) | (obtain ⟨_, _, _, _, _, rfl, _⟩ := h; rfl) | (obtain ⟨_, _, _, _, _, _, rfl, _⟩ := h; rfl) | (obtain ⟨_, _, _, _, _, _, _, rfl, _⟩ := h; rfl) | (obtain ⟨_, _, _, _, _, _, _, _, rfl, _⟩ := h; rfl) | (obtain ⟨_, _, _, _, _, _, _, _, _, rfl, _⟩ := h; rfl) | (obtain ⟨_, _, _, _, _, _, _, _, _, _, rfl, _⟩ := h; rfl) | (obtain ⟨_, _, _, _, _, _, _, _, _, _, _, rfl, _⟩ := h; rfl) | (obtain ⟨_, _, _, _, _, _, _, _, _, _, _, _, rfl, _⟩ := h; rfl) | (obtain ⟨_, _, _, _, _, _, _, _, _, _, _, _, _, rfl, _⟩ := h; rfl) | (obtain ⟨_, _, _, _, _, _, _, _, _, _, _, _, _, _, rfl, _⟩ := h; rfl) | (obtain ⟨_, _, _, _, _, _, _, _, _, _, _, _, _, _, _, rfl, _⟩ := h; rfl) | (obtain ⟨_, _, _, _, _, _, _, _, _, _, _, _, _, _, _, _, rfl, _⟩ := h; rfl) | (obtain ⟨_, _, _, _, _, _, _, _, _, _, _, _, _, _, _, _, _, rfl, _⟩ := h; rfl) | (obtain ⟨_, _, _, _, _, _, _, _, _, _, _, _, _, _, _, _, _, _, rfl, _⟩ := h; rfl)
  · obtain ⟨p, A, bs, r, n, k, e, rfl, hp, hs, hn99, he0, hek, hA, pA, q⟩ := h
    have hu := hu_of hr
    refine ⟨_, pss_cons (ps_asg (pe_tup (pa_cons (pe_ix ix_tupH (pv 2) (pv 3) (fun _ _ => rfl)) (pa_cons (pe_callB call_lenU rfl T.b_len (by decide +kernel) (pa_cons (pe_ix ix_tupH (pv 2) (pv 3) (fun _ _ => rfl)) pa_nil)) pa_nil))) (pg_tupH (n := 2) rfl (pgs_cons (pg_name (i := 4) sc__law_evening_right.nd rfl (by first | exact .inl rfl | exact .inr rfl)) (pgs_cons (pg_name (i := 5) sc__law_evening_right.nd rfl (by first | exact .inl rfl | exact .inr rfl)) pgs_nil))))
      (pss_cons (ps_for PassesOwn.never rfl (pi_range1 rfl T.b_range (pa_cons pe_int pa_nil)) (pg_name (i := 6) sc__law_evening_right.nd rfl (by first | exact .inl rfl | exact .inr rfl))
      (pss_cons (ps_set (i := 7) sc__law_evening_right.nd rfl (by first | exact .inl rfl | exact .inr rfl) (pe_hd H__law_draw (hr.mono (by decide)) rfl pass0 (pa_cons (pv 0) (pa_cons (pv 5) pa_nil))))
      (pss_cons (ps_if (pt_cmpR (op_neD hr.units) (pe_lst (pa_cons (pe_hd H_zigzag_place (hr.mono (by decide)) rfl passNo (pa_cons (pv 1) (pa_cons (pv 5) (pa_cons (pv 3) (pa_cons (pe_ix ix_tupH (pv 4) (pv 7) (fun _ _ => rfl)) pa_nil))))) (pa_cons (pe_hd H_zigzag_person (hr.mono (by decide)) rfl passNo (pa_cons (pv 1) (pa_cons (pv 5) (pa_cons (pv 3) (pa_cons (pv 7) pa_nil))))) pa_nil))) (pe_lst (pa_cons (pv 7) (pa_cons (pe_ix ix_tupH (pv 4) (pv 7) (fun _ _ => rfl)) pa_nil))) (nomark _)) (pss_one (ps_ret pe_bl))
      (pss_nil))
      (pss_cons (ps_setLc (i := 8) (own := [("_law_pair", 10)]) (g := (gName 10)) rfl sc__law_evening_right.nd rfl rfl (sw_true rfl rfl rfl (by decide +kernel)) (pi_list (pe_hd H__law_neighbours (hr.mono (by decide)) rfl pass0 (pa_cons (pv 1) (pa_cons (pv 4) pa_nil)))) (blkOk_by (own := [("_law_pair", 10)]) (N := N__law_evening_right) (sc := defScope s__law_evening_right) (by decide +kernel)) (fun _ _ _ _ _ => pg_name (i := 10) sc__law_evening_right.nd rfl (by first | exact .inl rfl | exact .inr rfl)) (fun _ _ _ _ _ => (pts_one (pt_cmpR op_in_tupH (pe_ix ix_tupH (pv 4) (pv 7) (fun _ _ => rfl)) (pv 10) (by rfl)))) (fun _ _ _ _ _ => (pv 10)))
      (pss_cons (ps_set (i := 9) sc__law_evening_right.nd rfl (by first | exact .inl rfl | exact .inr rfl) (pe_callB cr_sortedH rfl T.b_sorted (by decide +kernel) (pa_cons (pe_lc (own := [("_law_pair", 10)]) (g := (gName 10)) (tt := tYes) rfl sc__law_evening_right.nd (pi_list (pv 8)) (blkOk_by (own := [("_law_pair", 10)]) (N := N__law_evening_right) (sc := defScope s__law_evening_right) (by decide +kernel)) (fun _ _ _ _ _ => pg_name (i := 10) sc__law_evening_right.nd rfl (by first | exact .inl rfl | exact .inr rfl)) (fun _ _ _ _ _ => pts_nil) (fun _ _ _ _ _ => (pe_op op_sub (pe_op op_add (pe_ix ix_tupH (pv 10) pe_int (fun _ _ => rfl)) (pe_ix ix_tupH (pv 10) pe_int (fun _ _ => rfl))) (pe_ix ix_tupH (pv 4) (pv 7) (fun _ _ => rfl))))) pa_nil)))
      (pss_cons (ps_if (pt_cmpR (op_neD hr.units) (pe_hd H_zigzag_beside (hr.mono (by decide)) rfl passNo (pa_cons (pv 1) (pa_cons (pv 5) (pa_cons (pv 3) (pa_cons (pe_ix ix_tupH (pv 4) (pv 7) (fun _ _ => rfl)) pa_nil))))) (pe_callTy call_tupleL rfl T.b_tuple (by decide +kernel) (pa_cons (pv 9) pa_nil)) (nomark _)) (pss_one (ps_ret pe_bl))
      (pss_nil))
      (pss_one (ps_if (pt_val (pe_callB (cr_anyH rfl) rfl T.b_any (by decide +kernel) (pa_cons (pe_lc (own := [("_law_each", 11)]) (g := (gName 11)) (tt := tYes) rfl sc__law_evening_right.nd (pi_list (pv 9)) (blkOk_by (own := [("_law_each", 11)]) (N := N__law_evening_right) (sc := defScope s__law_evening_right) (by decide +kernel)) (fun _ _ _ _ _ => pg_name (i := 11) sc__law_evening_right.nd rfl (by first | exact .inl rfl | exact .inr rfl)) (fun _ _ _ _ _ => pts_nil) (fun _ _ _ _ _ => (pe_cmpR op_ne (pe_hd H_zigzag_evening (hr.mono (by decide)) rfl passNo (pa_cons (pv 1) (pa_cons (pv 5) (pa_cons (pe_ix ix_tupH (pv 4) (pv 7) (fun _ _ => rfl)) (pa_cons (pv 11) pa_nil))))) (pv 3) (nomark _)))) pa_nil))) (pss_one (ps_ret pe_bl))
      (pss_nil)))))))))
      (pss_one (ps_ret pe_bl))), ?_⟩
    have hnk := hs.nights
    have hn2 : 2 ≤ n := by obtain ⟨h0, ⟨rfl, h1⟩ | ⟨rfl, h1⟩⟩ := hs <;> omega
    have hek2 : e < nights r n := by omega
    obtain ⟨t, ht, et⟩ := paired_get' (F := TupAt H) (i := e.toNat) (b := evL r n e) pA (by
      unfold zz
      rw [List.getElem?_map, ups_get (by omega)]
      show some (evL r n ((e.toNat : Nat) : Int)) = _
      rw [show ((e.toNat : Nat) : Int) = e by omega])
    have i1 : atI (bs.map V.ref) e = some (.ref t) := atI_int he0 (by rw [List.getElem?_map, ht]; rfl)
    have et : H t = some (.tup ((evL r n e).map V.int)) := et
    refine z_seq ?_
    simp? only [sp_zigzag_evening, sp_zigzag_beside, sp__law_neighbours, sp_zigzag_person, sp_zigzag_place, sp__law_draw]
    refine ⟨_, hA, _, i1, _, hA, _, i1, t, rfl, _, et, ?_⟩
    rw [show (((evL r n e).map V.int).length : Int) = n by rw [List.length_map, evL_len]; omega]
    intro u hu
    have kp0 := (Kp.refl hp).new (o := .tup [.ref t, .int n]) hu
    have et := same_new (o := .tup [.ref t, .int n]) hu _ _ et
    refine z_seq ?_
    refine for_rng (n := 4) (fun R h => h) (by decide) (fun _ σ H' => ∃ x6 x7 x8 x9 x10 x11 : Option V, σ = [some (.ref p), some (.str (kindS r)), some (.ref A), some (.int e), some (.ref t), some (.int n), x6, x7, x8, x9, x10, x11] ∧ Kp p H H' ∧ H' t = some (.tup ((evL r n e).map V.int))) ⟨_, _, _, _, _, _, rfl, kp0, et⟩ ?_ ?_
    · clear kp0 et hu
      rintro i2 σ H0 hi2 ⟨x6, x7, x8, x9, x10, x11, rfl, kp, et⟩
      simp? only [sp_zigzag_evening, sp_zigzag_beside, sp__law_neighbours, sp_zigzag_person, sp_zigzag_place, sp__law_draw]
      refine z_seq ?_
      simp? only [sp_zigzag_evening, sp_zigzag_beside, sp__law_neighbours, sp_zigzag_person, sp_zigzag_place, sp__law_draw]
      refine ⟨kp.sp, by omega, by omega, fun j H1 kp1 hj0 hj1 => ?_⟩
      have b := at_bound hs he0 hek hj0 hj1
      have hxi := index_at hs he0 hek hj0 hj1
      have mp := mates_perm hs he0 hek hj0 hj1
      have fx : ∀ z, z ∈ spots r n j → 0 ≤ z ∧ z < n ∧ personAt r n e z ≠ personAt r n e j := fun z hz => by
        obtain ⟨z0, z1, _⟩ := spots_in hs hj0 hj1 hz
        exact ⟨z0, z1, fun w => spots_ne hs hj0 hj1 hz (at_inj hs he0 hek z0 z1 hj0 hj1 w)⟩
      have ev := fun z (hz : z ∈ spots r n j) => evening_spot hs he0 hek hj0 hj1 hz
      have ix := evL_at (r := r) (e := e) hj0 hj1
      have hz99 := size_most hs hn99
      have et1 := tup_kp kp1 kp.sp et
      have kp01 := kp.trans kp1
      clear kp kp1 et
      refine z_seq ?_
      simp? only [sp_zigzag_evening, sp_zigzag_beside, sp__law_neighbours, sp_zigzag_person, sp_zigzag_place, sp__law_draw]
      have et1 : H1 t = some (.tup ((evL r n e).map V.int)) := et1
      refine ⟨_, et1, _, ix, known_int _, known_int _, ahead_str hz99 (ask_in he0 (by omega) (ask_in b.1 (by omega) fun ei pi hei hpi H2 s2 => ?_))⟩
      cases hei
      cases hpi
      refine ⟨known_int _, known_int _, ahead_str hz99 (ask_in he0 (by omega) (ask_in hj0 (by omega) fun ei pi hei hpi H3 s3 l1 hl1 => ?_))⟩
      cases hei
      cases hpi
      rw [hxi]
      have n1 := same_new (o := .lst [.int j, .int (personAt r n e j)]) hl1
      have et3 := n1 _ _ (s3 _ _ (s2 _ _ et1))
      refine ⟨_, et3, _, ix, fun l2 hl2 => ?_⟩
      have n2 := same_new (o := .lst [.int j, .int (personAt r n e j)]) hl2
      refine ne_ints0 (l := [j, personAt r n e j]) (n2 _ _ upd_same) upd_same ⟨false, rfl, ?_⟩
      rw [if_neg (by decide)]
      have sA := ((s2.trans s3).trans n1).trans n2
      have kpA := kp01.same sA
      have etA := sA _ _ et1
      generalize upd (upd H3 l1 _) l2 _ = HA at kpA etA ⊢
      clear sA n2 n1 et3 s3 s2 hl1 hl2 et1 kp01
      refine z_seq ?_
      simp? only [sp_zigzag_evening, sp_zigzag_beside, sp__law_neighbours, sp_zigzag_person, sp_zigzag_place, sp__law_draw]
      refine lc_bindL ?_
      simp? only [sp_zigzag_evening, sp_zigzag_beside, sp__law_neighbours, sp_zigzag_person, sp_zigzag_place, sp__law_draw, kind_inj]
      refine ⟨n, by omega, by omega, e, etA, fun N1 ns HB hN1 sB eN pN => ?_⟩
      have kpB := kpA.same sB
      have etB := sB _ _ etA
      clear sB kpA etA
      have hns : ns.length ≤ 1000 := by
        rw [paired_len pN]
        unfold nbs
        rw [List.length_append, List.length_map, ups_len]
        have : (if r = true then [mm (personAt r n e 0) (personAt r n e (n - 1))] else []).length ≤ 1 := by
          split
          · exact Nat.le_refl 1
          · exact Nat.zero_le 1
        omega
      refine lc_mapL (a := N1) (xs := ns.map V.ref) (H1 := HB) (keepF HB (personAt r n e j)) (fun R h => h) (SqL.of eN) ?_ (fun z hz H7 s7 => ?_) fun M HC hM sC eM => ?_
      · rw [List.length_map]
        exact hns
      · obtain ⟨t3, ht3, rfl⟩ := List.mem_map.mp hz
        obtain ⟨q3, hq3, f3⟩ := paired_mem pN t3 ht3
        have g3 : H7 t3 = some (.tup [.int q3.1, .int q3.2]) := s7 _ _ f3
        intro Y N hY hN
        simp? only [sp_zigzag_evening, sp_zigzag_beside, sp__law_neighbours, sp_zigzag_person, sp_zigzag_place, sp__law_draw]
        refine ⟨_, s7 _ _ etB, _, ix, _, g3, ?_⟩
        have e4 : inV (V.int (personAt r n e j)) [V.int q3.1, V.int q3.2] = decide (personAt r n e j = q3.1 ∨ personAt r n e j = q3.2) := by
          have h := inV_ints (personAt r n e j) [q3.1, q3.2]
          rw [show [q3.1, q3.2].map V.int = [V.int q3.1, V.int q3.2] from rfl] at h
          rw [h]
          congr 1
          simp only [List.mem_cons, List.not_mem_nil, or_false]
        refine ⟨rfl, rfl, ?_⟩
        rw [e4]
        by_cases c : personAt r n e j = q3.1 ∨ personAt r n e j = q3.2
        · rw [decide_eq_true c, if_pos rfl]
          refine hY _ H7 ?_ (Same.refl _)
          unfold keepF
          rw [pairOf_at f3, if_pos c]
        · rw [decide_eq_false c, if_neg Bool.false_ne_true]
          refine hN H7 ?_ (Same.refl _)
          unfold keepF
          rw [pairOf_at f3, if_neg c]
      · have kpC := kpB.same sC
        have etC := sC _ _ etB
        have pC := prs_same sC pN
        refine z_seq ?_
        simp? only [sp_zigzag_evening, sp_zigzag_beside, sp__law_neighbours, sp_zigzag_person, sp_zigzag_place, sp__law_draw]
        refine lc_mapL (a := M) (xs := (ns.map V.ref).filterMap (keepF HB (personAt r n e j))) (H1 := HC) (restF HB (personAt r n e j)) (fun R h => ⟨_, rfl, h⟩) (SqL.of eM) ?_ (fun z hz H7 s7 => ?_) fun M2 HD hM2 sD eM2 => ?_
        · refine Nat.le_trans (List.length_filterMap_le _ _) ?_
          rw [List.length_map]
          exact hns
        · obtain ⟨z0, hz0, ez⟩ := List.mem_filterMap.mp hz
          obtain ⟨t3, ht3, rfl⟩ := List.mem_map.mp hz0
          obtain ⟨q3, hq3, f3⟩ := paired_mem pN t3 ht3
          have g3 : H7 t3 = some (.tup [.int q3.1, .int q3.2]) := s7 _ _ (sC _ _ f3)
          obtain rfl : z = .ref t3 := by
            unfold keepF at ez
            split at ez
            · exact (Option.some.inj ez).symm
            · cases ez
          intro Y N hY hN
          unfold restF at hY
          rw [pairOf_at f3] at hY
          simp? only [sp_zigzag_evening, sp_zigzag_beside, sp__law_neighbours, sp_zigzag_person, sp_zigzag_place, sp__law_draw]
          refine ⟨_, g3, _, rfl, _, g3, _, rfl, _, rfl, _, rfl, _, s7 _ _ etC, _, ix, _, rfl, ?_⟩
          exact hY _ H7 rfl (Same.refl _)
        · rw [keep_rest, fm_other pN] at eM2
          have kpD := kpC.same sD
          have etD := sD _ _ etC
          have lenM : ((nbs r n e).filterMap fun q => if personAt r n e j = q.1 ∨ personAt r n e j = q.2 then some (q.1 + q.2 - personAt r n e j) else none).length < 64 := by
            have := mp.length_eq
            unfold matesL at this
            rw [this, List.length_map]
            have := spots_len r n j
            omega
          refine ⟨M2, rfl, _, eM2, lenM, fun M1 hM1 => ?_⟩
          have eb : ((nbs r n e).filterMap fun q => if personAt r n e j = q.1 ∨ personAt r n e j = q.2 then some (q.1 + q.2 - personAt r n e j) else none).mergeSort = besideL r n e (personAt r n e j) := by
            unfold besideL
            rw [hxi]
            exact sort_perm mp
          rw [eb]
          have kpE := kpD.new (o := .lst ((besideL r n e (personAt r n e j)).map V.int)) hM1
          have etE := same_new (o := .lst ((besideL r n e (personAt r n e j)).map V.int)) hM1 _ _ etD
          have eME : upd HD M1 (.lst ((besideL r n e (personAt r n e j)).map V.int)) M1 = some (.lst ((besideL r n e (personAt r n e j)).map V.int)) := upd_same
          generalize upd HD M1 (.lst ((besideL r n e (personAt r n e j)).map V.int)) = HE at kpE etE eME ⊢
          clear kpD etD hM1 eM2 sD kpC etC sC eM pC
          have inBs : ∀ z, z ∈ besideL r n e (personAt r n e j) → ∃ f, f ∈ spots r n j ∧ z = personAt r n e f := fun z hz => by
            unfold besideL at hz
            rw [List.mem_mergeSort, hxi] at hz
            obtain ⟨f, hf, rfl⟩ := List.mem_map.mp hz
            exact ⟨f, hf, rfl⟩
          have lenB : (besideL r n e (personAt r n e j)).length ≤ 2 := by
            unfold besideL
            rw [List.length_mergeSort, List.length_map]
            exact spots_len _ _ _
          refine z_seq ?_
          simp? only [sp_zigzag_evening, sp_zigzag_beside, sp__law_neighbours, sp_zigzag_person, sp_zigzag_place, sp__law_draw]
          refine ⟨_, etE, _, ix, known_int _, known_int _, ahead_str hz99 (ask_in he0 (by omega) (ask_in b.1 (by omega) fun ei pi hei hpi t1 H8 s8 e8 => ?_))⟩
          cases hei
          cases hpi
          refine ⟨_, s8 _ _ eME, fun l hl => ?_⟩
          have n1 := same_new (o := .tup ((besideL r n e (personAt r n e j)).map V.int)) hl
          refine ne_tup0 (n1 _ _ e8) upd_same ⟨false, rfl, ?_⟩
          rw [if_neg (by decide)]
          have sF := s8.trans n1
          have kpF := kpE.same sF
          have etF := sF _ _ etE
          have eMF := sF _ _ eME
          generalize upd H8 l (.tup ((besideL r n e (personAt r n e j)).map V.int)) = HF at kpF etF eMF ⊢
          clear n1 hl s8 e8 sF kpE etE eME
          refine lc_mapL (a := M1) (xs := (besideL r n e (personAt r n e j)).map V.int) (H1 := HF) (fun _ => some (.bl false)) (fun R h => ⟨_, rfl, h⟩) (SqL.of eMF) (by rw [List.length_map]; omega) (fun z hz H7 s7 => ?_) fun M3 HG hM3 sG eM3 => ?_
          · obtain ⟨x0, hm2, rfl⟩ := mem_ints hz
            obtain ⟨f, hf, rfl⟩ := inBs x0 hm2
            have f2 := fx f hf
            have fb := at_bound hs he0 hek f2.1 f2.2.1
            have evf := ev f hf
            intro Y N hY hN
            simp? only [sp_zigzag_evening, sp_zigzag_beside, sp__law_neighbours, sp_zigzag_person, sp_zigzag_place, sp__law_draw]
            refine ⟨_, s7 _ _ etF, _, ix, known_int _, known_int _, ahead_str hz99 (ask_in b.1 (by omega) (ask_in fb.1 (by omega) fun i2 j2 hi2 hj2 => ?_))⟩
            cases hi2
            cases hj2
            have b3 : (!decide (personAt r n e f = personAt r n e j)) = true := by
              rw [decide_eq_false f2.2.2]
              rfl
            refine ⟨fun z => absurd (b3.symm.trans z) (by decide), fun _ H8 s8 => ?_⟩
            rw [evf, decide_eq_true rfl]
            exact hY _ H8 rfl s8
          · have e7 : ∀ l : List V, l.filterMap (fun _ => some (V.bl false)) = (List.replicate l.length false).map V.bl := by
              intro l
              induction l with
              | nil => rfl
              | cons a r ih =>
                rw [List.filterMap_cons, ih]
                rfl
            rw [e7] at eM3
            refine ⟨M3, rfl, _, eM3, ?_⟩
            have e8 : ∀ m, (List.replicate m false).any id = false := by
              intro m
              induction m with
              | zero => rfl
              | succ m ih => rw [List.replicate_succ, List.any_cons, ih]; rfl
            rw [e8, if_neg (by decide)]
            exact ⟨kpF.same sG, sG _ _ etF⟩
    · rintro σ H1 ⟨x6, x7, x8, x9, x10, x11, rfl, kp, et⟩
      simp? only [sp_zigzag_evening, sp_zigzag_beside, sp__law_neighbours, sp_zigzag_person, sp_zigzag_place, sp__law_draw]
      exact q _ kp

open Zig
/-! data while tables grow -/
mutual
theorem Dx.ext {H H' : Hp} (s : LamX.ExtN H H') : ∀ (d : PyData) (v : V), Dx H v d → Dx H' v d
  | .none, _, h => by cases h; exact .non
  | .bool b, _, h => by cases h; exact .bl b
  | .int i, _, h => by cases h; exact .int i
  | .str x, _, h => by cases h; exact .str x
  | .list ds, _, h => by
    cases h with
    | lst h1 h2 => exact .lst (s _ _ h1 fun ps z => nomatch z) (DxAll.ext s ds _ h2)
  | .tuple ds, _, h => by
    cases h with
    | tup h1 h2 => exact .tup (s _ _ h1 fun ps z => nomatch z) (DxAll.ext s ds _ h2)
  | .dict kvs, _, h => by
    cases h with
    | dct h1 => exact .dct (s _ _ h1 fun ps z => nomatch z)
theorem DxAll.ext {H H' : Hp} (s : LamX.ExtN H H') : ∀ (ds : List PyData) (vs : List V), DxAll H vs ds → DxAll H' vs ds
  | [], _, h => by cases h; exact .nil
  | d :: ds, _, h => by
    cases h with
    | cons h1 h2 => exact .cons (Dx.ext s d _ h1) (DxAll.ext s ds _ h2)
end
abbrev T0 (P0 : Addr) : List (Addr × Str) := [(P0, "_law_right.<locals>.<lambda>")]
/-- all but the draws at p and the tables stay -/
def Kt (p : Addr) (H H' : Hp) : Prop := ∀ b o, b ≠ p → H b = some o → (∀ ps, o ≠ .tbl ps) → H' b = some o
theorem Kt.refl (p : Addr) (H : Hp) : Kt p H H := fun _ _ _ e _ => e
theorem Kt.trans {p : Addr} {H H1 H2 : Hp} (a : Kt p H H1) (b : Kt p H1 H2) : Kt p H H2 := fun c o n e t => b c o n (a c o n e t) t
theorem Kt.same {p : Addr} {H H' : Hp} (s : Same H H') : Kt p H H' := fun b o _ e _ => s b o e
theorem Kt.kp {p : Addr} {H H' : Hp} (k : Kp p H H') : Kt p H H' := fun b o n e _ => k.keep b o n e
theorem Kt.ext {p : Addr} {H H' : Hp} (k : LamX.ExtN H H') : Kt p H H' := fun b o _ e t => k b o e t
theorem tabs_keep {P0 : Addr} {H H' : Hp} (keep : ∀ d o, H d = some o → (∀ xs, o ≠ .lst xs) → H' d = some o) (t : LamX.Tabs (T0 P0) H) : LamX.Tabs (T0 P0) H' := by
  intro z hz
  obtain ⟨ps, h1, h2, h3⟩ := t z hz
  refine ⟨ps, keep _ _ h1 (fun xs z => nomatch z), h2, fun pos cv hc => ?_⟩
  obtain ⟨c', e1, e2⟩ := h3 pos cv hc
  exact ⟨c', e1, keep _ _ e2 (fun xs z => by unfold LamX.CodeO at z; cases z)⟩
theorem tabs_kp {p P0 : Addr} {H H' : Hp} (sp : Spring H p) (k : Kp p H H') (t : LamX.Tabs (T0 P0) H) : LamX.Tabs (T0 P0) H' := tabs_keep (fun d o e n => k.keep d o (fun y => by
  obtain ⟨a, b, c, hs⟩ := sp
  rw [y, hs] at e
  exact n _ (Option.some.inj e).symm) e) t
theorem tabs_same {P0 : Addr} {H H' : Hp} (s : Same H H') (t : LamX.Tabs (T0 P0) H) : LamX.Tabs (T0 P0) H' := t.ext s
theorem tabs_upd {P0 D : Addr} {H : Hp} {xs ys : List V} (t : LamX.Tabs (T0 P0) H) (hD : H D = some (.lst xs)) : LamX.Tabs (T0 P0) (upd H D (.lst ys)) := tabs_keep (fun d o e n => by
  rw [upd_ne (fun y => n xs (Option.some.inj (e.symm.trans (by rw [y]; exact hD))))]
  exact e) t
theorem lst_ne_tbl {xs : List V} (ps : Array Value) : HO.lst xs ≠ .tbl ps := fun z => nomatch z
theorem ext_upd {H H1 : Hp} {D : Addr} {o : HO} (e : LamX.ExtN H H1) (n : H D = none) : LamX.ExtN H (upd H1 D o) := fun b u eb nb => by
  rw [upd_ne (ne_of_none eb n)]
  exact e b u eb nb
/-- a draw from a menu that is laid anew -/
theorem draw_menu {H H1 : Hp} {p m P0 : Addr} {xs : List V} {Q : VK} (sp : Spring H p) (tb : LamX.Tabs (T0 P0) H) (s : Same H H1) (hm : H1 m = none) (h : ∀ v H', Kt p H H' → Spring H' p → LamX.Tabs (T0 P0) H' → (∀ b o, b ≠ p → H1 b = some o → H' b = some o) → v ∈ xs → Q v H') :
    Spring (upd H1 m (.lst xs)) p ∧ m ≠ p ∧ ∀ v H', Kp p (upd H1 m (.lst xs)) H' → v ∈ xs → Q v H' := by
  have s2 : Same H (upd H1 m (.lst xs)) := s.trans (same_new hm)
  have sp1 := (sp.same s)
  have ne : m ≠ p := sp1.ne hm
  exact ⟨sp.same s2, ne, fun v H' k hv => h v H' ((Kt.same s2).trans (Kt.kp k)) k.sp (tabs_kp (sp.same s2) k (tabs_same s2 tb)) (fun b o n e => k.keep b o n (same_new hm _ _ e)) hv⟩
theorem sqlN {H H' : Hp} {a : Addr} {xs : List V} (h : SqL K H a xs) (e : LamX.ExtN H H') : SqL K H' a xs := by
  rcases h with (h | ⟨o, h⟩) | h
  · exact .inl (.inl (e _ _ h lst_ne_tbl))
  · exact .inl (.inr ⟨o, e _ _ h fun ps z => nomatch z⟩)
  · exact .inr h
theorem lc_trues {P0 : Addr} {n : Int} {te : TE} {j : Nat} {σ : L2.St} {H : Hp} {ta : TA} {Q : VK} (tb : LamX.Tabs (T0 P0) H) (hta : ∀ R : List V → Hp → Prop, R [.int n] H → ta σ H R) (hn : n ≤ 1000 ∧ 0 ≤ n)
    (hte : ∀ i : Nat, (i : Int) < n → ∀ H', LamX.ExtN H H' → LamX.Tabs (T0 P0) H' → ∀ Q' : VK, (∀ H2, LamX.ExtN H' H2 → LamX.Tabs (T0 P0) H2 → Q' (.bl true) H2) → te ((σ.set j none).set j (some (.int i))) H' Q')
    (hd : ∀ (D : Addr) (H' : Hp), H' D = some (.lst ((List.replicate n.toNat true).map V.bl)) → Q (.ref D) H') : tLc (iRng1 ta) (gName j) tYes te [j] σ H Q := by
  refine hta _ ⟨n, rfl, by omega, by omega, fun D hD => ?_⟩
  refine lc_range (lo := 0) (n := n.toNat) (fun i H' => LamX.ExtN H H' ∧ LamX.Tabs (T0 P0) H' ∧ H' D = some (.lst ((List.replicate i true).map V.bl))) ⟨.of (same_new hD), tabs_same (same_new hD) tb, upd_same⟩ (fun i H' hi p => ?_) fun H' p => hd D H' p.2.2
  obtain ⟨e, t, hD'⟩ := p
  have e0 : (0 : Int) + (i : Int) = i := by omega
  rw [e0]
  refine And.intro (by simp [wipe, List.set_set]) ?_
  simp only [tYes, if_true]
  refine hte i (by omega) H' e t _ fun H4 e4 t4 => ⟨_, e4 _ _ hD' lst_ne_tbl, ?_, ext_upd (e.trans e4) hD, tabs_upd t4 (e4 _ _ hD' lst_ne_tbl), ?_⟩
  · rw [List.length_map, List.length_replicate, sizeLine_eq]
    omega
  · rw [upd_same, List.replicate_succ', List.map_append]
    rfl

open Zig
/-- data that repr writes -/
structure Sm (D : PyData) : Prop where
  ok : PyData.strOk D.shown = true
  sh : D.showable = true
  sz : D.shown.length ≤ sizeLine
  dp : D.depth ≤ 60
/-- the error's row: empty if all is right -/
theorem so_iff {x : Str} : PyData.strOk x = true ↔ ∀ c ∈ TL.tl x, c < 1114112 := by
  unfold PyData.strOk
  rw [← Array.all_toList, List.all_eq_true]
  exact ⟨fun h c hc => of_decide_eq_true (h c hc), fun h c hc => decide_eq_true (h c hc)⟩
theorem so_app {x y : Str} (h : PyData.strOk x = true) (g : PyData.strOk y = true) : PyData.strOk (x ++ y) = true := by
  rw [so_iff] at *
  intro c hc
  rw [TL.tl_append] at hc
  rcases List.mem_append.mp hc with hc | hc
  · exact h c hc
  · exact g c hc
theorem ofStr_ok (x : String) : PyData.strOk (Str.ofString x) = true := by
  unfold PyData.strOk
  rw [Str.ofString_eq_toList]
  simp only [← Array.all_toList]
  rw [List.all_eq_true]
  intro c hc
  obtain ⟨a, _, rfl⟩ := List.mem_map.mp hc
  have h : a.toNat < 1114112 := by
    have := a.valid
    simp only [UInt32.isValidChar, Nat.isValidChar] at this
    show a.val.toNat < 1114112
    omega
  exact decide_eq_true h
/-! writing out lists and tuples -/
theorem so_from : ∀ (ts : List Str) (k : Nat) (acc : Str), PyData.strOk acc = true → (∀ t ∈ ts, PyData.strOk t = true) → PyData.strOk (textFrom k acc ts) = true
  | [], _, _, h, _ => h
  | t :: ts, k, acc, h, g => by
    refine so_from ts (k + 1) _ (so_app (so_app h ?_) (g t (.head _))) fun u hu => g u (.tail _ hu)
    exact ofStr_ok _
theorem so_join : ∀ ts : List Str, (∀ t ∈ ts, PyData.strOk t = true) → PyData.strOk (Str.join ", " ts) = true
  | [], _ => by decide +kernel
  | [x], h => h x (.head _)
  | x :: y :: r, h => by
    show PyData.strOk (x ++ ", " ++ Str.join ", " (y :: r)) = true
    exact so_app (so_app (h x (.head _)) (by decide +kernel)) (so_join (y :: r) fun t ht => h t (.tail _ ht))
theorem so_tuple {ts : List Str} (h : ∀ t ∈ ts, PyData.strOk t = true) : PyData.strOk (tupleText ts) = true := so_app (so_app (by decide +kernel) (so_join ts h)) (ofStr_ok _)
theorem so_list {ts : List Str} (h : ∀ t ∈ ts, PyData.strOk t = true) : PyData.strOk (listText ts) = true := so_app (so_from ts 0 _ (by decide +kernel) h) (by decide +kernel)
theorem shownAll_mem : ∀ (ds : List PyData) (t : Str), t ∈ PyData.shownAll ds → ∃ d ∈ ds, t = d.shown
  | [], _, h => nomatch h
  | d :: ds, t, h => by
    rcases List.mem_cons.mp (show t ∈ d.shown :: PyData.shownAll ds from h) with rfl | h
    · exact ⟨d, .head _, rfl⟩
    · obtain ⟨e, he, r⟩ := shownAll_mem ds t h
      exact ⟨e, .tail _ he, r⟩
structure SmW (k w : Nat) (d : PyData) : Prop where
  ok : PyData.strOk d.shown = true
  sh : d.showable = true
  sz : d.shown.length ≤ w
  dp : d.depth ≤ k
theorem SmW.sm {k w : Nat} {d : PyData} (h : SmW k w d) (hk : k ≤ 60) (hw : w ≤ 16000000) : Sm d := ⟨h.ok, h.sh, Nat.le_trans h.sz (by rw [sizeLine_eq]; omega), Nat.le_trans h.dp hk⟩
theorem smw_all {k w : Nat} : ∀ {ds : List PyData}, (∀ d ∈ ds, SmW k w d) → PyData.showableAll ds = true ∧ ((PyData.shownAll ds).map fun t => t.length).sum ≤ w * ds.length ∧ PyData.depthAll ds ≤ k ∧ (PyData.shownAll ds).length = ds.length
  | [], _ => ⟨rfl, Nat.zero_le _, Nat.zero_le _, rfl⟩
  | d :: ds, h => by
    obtain ⟨h1, h2, h3, h4⟩ := smw_all fun e he => h e (.tail _ he)
    have g := h d (.head _)
    refine ⟨?_, ?_, ?_, ?_⟩
    · simp only [PyData.showableAll, g.sh, h1, Bool.and_self]
    · show d.shown.length + ((PyData.shownAll ds).map fun t => t.length).sum ≤ w * (ds.length + 1)
      have := g.sz
      rw [Nat.mul_add, Nat.mul_one]
      omega
    · have := g.dp
      simp only [PyData.depthAll]
      omega
    · show (PyData.shownAll ds).length + 1 = ds.length + 1
      rw [h4]
theorem smw_seq {k w m : Nat} {ds : List PyData} (h : ∀ d ∈ ds, SmW k w d) (hm : ds.length ≤ m) : SmW (k + 1) ((w + 2) * m + 3) (.tuple ds) ∧ SmW (k + 1) ((w + 2) * m + 3) (.list ds) := by
  obtain ⟨h1, h2, h3, h4⟩ := smw_all h
  have h5 : (w + 2) * ds.length ≤ (w + 2) * m := Nat.mul_le_mul_left _ hm
  have h6 : (w + 2) * ds.length = w * ds.length + 2 * ds.length := Nat.add_mul _ _ _
  have so : ∀ t ∈ PyData.shownAll ds, PyData.strOk t = true := fun t ht => by
    obtain ⟨d, hd, rfl⟩ := shownAll_mem ds t ht
    exact (h d hd).ok
  have l1 := listText_len_le (PyData.shownAll ds)
  have l2 := tupleText_len_le (PyData.shownAll ds)
  rw [h4] at l1 l2
  refine ⟨⟨?_, ?_, ?_, by simp only [PyData.depth]; omega⟩, ⟨?_, ?_, ?_, by simp only [PyData.depth]; omega⟩⟩
  · simp only [PyData.shown]
    exact so_tuple so
  · simp only [PyData.showable]
    exact h1
  · simp only [PyData.shown]
    exact Nat.le_trans l2 (by omega)
  · simp only [PyData.shown]
    exact so_list so
  · simp only [PyData.showable]
    exact h1
  · simp only [PyData.shown]
    exact Nat.le_trans l1 (by omega)
theorem SmW.mono {k w k' w' : Nat} {d : PyData} (h : SmW k w d) (hk : k ≤ k') (hw : w ≤ w') : SmW k' w' d := ⟨h.ok, h.sh, Nat.le_trans h.sz hw, Nat.le_trans h.dp hk⟩
theorem smw_int {i : Int} (hi : i.natAbs < 1000) : SmW 0 1005 (.int i) := by
  have hw : Shw (.int i) := by
    simp only [Shw]
    exact Nat.lt_trans (PySem.Flt.log2_lt_of (k := 10) (by decide) (Nat.lt_trans hi (by decide))) (by decide)
  obtain ⟨h1, h2, _⟩ := shown_le (.int i) hw
  refine ⟨?_, h2, Nat.le_trans h1 (by simp only [wd]; omega), Nat.zero_le _⟩
  simp only [PyData.shown]
  exact ofStr_ok _
def nearD (ls : List (List Int)) : PyData := .tuple (tupsD ls)
theorem dx_ints {H : Hp} : ∀ l : List Int, DxAll H (l.map V.int) (l.map PyData.int)
  | [] => .nil
  | _ :: r => .cons (.int _) (dx_ints r)
theorem dx_tups {H : Hp} : ∀ {as : List Addr} {ls : List (List Int)}, Paired (TupAt H) as ls → DxAll H (as.map V.ref) (tupsD ls)
  | _, _, .nil => .nil
  | _, _, .cons f r => .cons (.tup f (dx_ints _)) (dx_tups r)
theorem smw_ints {l : List Int} (hl : l.length ≤ 100) (hx : ∀ x ∈ l, x.natAbs < 1000) : SmW 1 100703 (.tuple (l.map .int)) :=
  (smw_seq (ds := l.map .int) (m := 100) (fun d hd => by
    obtain ⟨x, h, rfl⟩ := List.mem_map.mp hd
    exact smw_int (hx x h)) (by rw [List.length_map]; exact hl)).1.mono (by decide) (by decide)
/-- a question asked twice, and what is due twice: told alike -/
theorem twice_told {k w : Nat} {D : PyData} (sm : SmW k w D) (hk : k ≤ 50) (hw : w ≤ 8000000) {H : Hp} {p : Addr} {v1 v2 : V} {Q : VK} (e : H p = some (.lst [v1, v2])) (h1 : Dx H v1 D) (h2 : Dx H v2 D) (q : Q (.str (PyData.list [D, D]).shown) H) : rReprX [.ref p] H Q := by
  have s2 := (smw_seq (ds := [D, D]) (m := 2) (fun d hd => by
    simp only [List.mem_cons, List.not_mem_nil, or_false, or_self] at hd
    rw [hd]
    exact sm) (Nat.le_refl 2)).2
  exact ⟨.ref p, .list [D, D], rfl, .lst e (.cons h1 (.cons h2 .nil)), s2.sh, Nat.le_trans s2.sz (by rw [sizeLine_eq]; omega), Nat.le_trans s2.dp (by omega), q⟩
theorem both_told {k w : Nat} {D : PyData} (sm : SmW k w D) (hk : k ≤ 50) (hw : w ≤ 8000000) {H : Hp} {p : Addr} {v1 v2 m : V} (hp : H p = none) (h1 : Dx H v1 D) (h2 : Dx H v2 D) (hm : Dx H m D) {N Z : Hp → Prop} (q : ∀ H', Same H H' → N H') :
    rReprX [.ref p] (upd H p (.lst [v1, v2])) fun x H1 => ∀ p1, H1 p1 = none → rReprX [.ref p1] (upd H1 p1 (.lst [m, m])) fun y H2 => scal x y = true ∧ if (!decide (x = y)) = true then Z H2 else N H2 := by
  have n1 := same_new (o := .lst [v1, v2]) hp
  refine twice_told sm hk hw upd_same (h1.same n1) (h2.same n1) fun p1 hp1 => ?_
  have n2 := same_new (o := .lst [m, m]) hp1
  refine twice_told sm hk hw upd_same ((hm.same n1).same n2) ((hm.same n1).same n2) ⟨rfl, ?_⟩
  rw [if_neg (by simp)]
  exact q _ (n1.trans n2)
def LstS (H : Hp) (a : Addr) (l : List Str) : Prop := H a = some (.lst (l.map V.str)) ∧ l.all PyData.strOk = true
theorem depth_strs : ∀ l : List Str, PyData.depthAll (l.map PyData.str) = 0
  | [] => rfl
  | b :: r => by
    have h := depth_strs r
    simp only [List.map_cons, PyData.depthAll, PyData.depth] at h ⊢
    omega
theorem shaped_strs {l : List Str} (ok : l.all PyData.strOk = true) : SeqAt.shaped (.list (l.map PyData.str)) = true := by
  unfold SeqAt.shaped
  rw [Bool.and_eq_true]
  refine ⟨(canLayAll_strs' l).trans ok, decide_eq_true ?_⟩
  have h := depth_strs l
  simp only [PyData.depth]
  omega
theorem dpAll_strs {H : Hp} : ∀ l : List Str, DpAll K H (l.map V.str) (l.map PyData.str)
  | [] => .nil
  | b :: r => .cons (.str b) (dpAll_strs r)
theorem dp_strs {H : Hp} {a : Addr} {l : List Str} (h : LstS H a l) : Dp K H (.ref a) (.list (l.map PyData.str)) := .lst (SqL.of h.1) (dpAll_strs l)

open Zig
theorem spring_same {H H' : Hp} {p : Addr} (s : Spring H p) (k : Same H H') : Spring H' p := by
  obtain ⟨a, b, c, h⟩ := s
  exact ⟨a, b, c, k _ _ h⟩
theorem len8 {σ : L2.St} (h : σ.length = 8) : ∃ x0 x1 x2 x3 x4 x5 x6 x7, σ = [x0, x1, x2, x3, x4, x5, x6, x7] :=
  match σ, h with
  | [x0, x1, x2, x3, x4, x5, x6, x7], _ => ⟨_, _, _, _, _, _, _, _, rfl⟩
theorem zz_sm {r : Bool} {n k : Int} (hs : SizeIs r n k) (h : n ≤ 99) : SmW 2 4900000 (nearD (zz r n)) := by
  have h2 : 2 ≤ n := by obtain ⟨h0, ⟨rfl, h1⟩ | ⟨rfl, h1⟩⟩ := hs <;> omega
  have hnk := hs.nights
  have hk : k ≤ 49 := by obtain ⟨h0, ⟨rfl, h1⟩ | ⟨rfl, h1⟩⟩ := hs <;> omega
  refine (smw_seq (k := 1) (w := 99696) (ds := tupsD (zz r n)) (m := 49) (fun d hd => ?_) ?_).1.mono (by decide) (by decide)
  · obtain ⟨l, hl, rfl⟩ := List.mem_map.mp hd
    obtain ⟨e, he, rfl⟩ := List.mem_map.mp hl
    have he := mem_ups.mp he
    refine (smw_seq (k := 0) (w := 1005) (ds := (evL r n e).map .int) (m := 99) (fun d hd => ?_) ?_).1.mono (by decide) (by decide)
    · obtain ⟨x, hx, rfl⟩ := List.mem_map.mp hd
      have := (evL_mem hs he.1 (by omega) x).mp hx
      exact smw_int (by omega)
    · rw [List.length_map, evL_len]
      omega
  · unfold tupsD zz
    rw [List.length_map, List.length_map, ups_len]
    omega
theorem kinded_str {E : XK} {H : Hp} {r : Bool} {k : Bool → Prop} (h : k r) : Kinded mg E H (.str (kindS r)) k := ⟨known_str _, fun no => absurd rfl (no r), fun r' hr => by
  have e : kindS r = kindS r' := V.str.inj hr
  rw [kind_inj] at e
  subst e
  exact h⟩
theorem tups_known3 {H : Hp} {A : Addr} {as : List Addr} {ls : List (List Int)} (hA : H A = some (.tup (as.map V.ref))) (pA : Paired (TupAt H) as ls) (h1 : ls.length ≤ 1000) (h2 : ∀ l ∈ ls, l.length ≤ 1000) : Known3 H (.ref A) := by
  refine ⟨known_tup hA, fun xs hx => ?_⟩
  rw [rowOf_tup hA] at hx
  cases hx
  refine ⟨by rw [List.length_map, paired_len pA]; exact h1, fun z hz => ?_⟩
  obtain ⟨a, ha, rfl⟩ := List.mem_map.mp hz
  obtain ⟨l, hl, fa⟩ := paired_mem pA a ha
  refine ⟨known_tup fa, fun ys hy => ?_⟩
  rw [rowOf_tup fa] at hy
  cases hy
  refine ⟨by rw [List.length_map]; exact h2 l hl, fun y hy => ?_⟩
  obtain ⟨i, _, rfl⟩ := List.mem_map.mp hy
  exact known_int _
theorem notB_true {H : Hp} {Q : VK} (q : Q (.bl false) H) : rNotB (.bl true) (.bl true) H Q := ⟨true, true, rfl, rfl, q⟩
theorem party_some {r : Bool} {n k : Int} {H : Hp} {A : Addr} {as : List Addr} {ls : List (List Int)} (hs : SizeIs r n k) (hA : H A = some (.tup (as.map V.ref))) (pa : Paired (TupAt H) as ls) (ip : IsParty r n ls) : partyN r H (.ref A) = some n := by
  have h := party_ok hs hA pa ip
  have hm := ip.many
  rw [hs.nights] at hm
  have hk := hs.1
  cases pa with
  | nil =>
    simp at hm
    omega
  | cons f r =>
    rename_i a b as' ls'
    have hl : b.length = n.toNat := by rw [(ip.all b List.mem_cons_self).length_eq, ups_len]
    have h2 := size_two hs
    rw [partyN_cons (rowOf_tup hA) (rowOf_tup f), List.length_map, hl, show ((n.toNat : Nat) : Int) = n by omega, if_pos h]
theorem if_both {c : Prop} [Decidable c] {A : Prop} {N : Hp → Prop} {H : Hp} (g : ∀ H', Same H H' → N H') (a : c → (∀ H', Same H H' → N H') → A) : if c then A else N H := by
  split
  · exact a ‹_› g
  · exact g H (Same.refl H)
def sp__law_right (mg : Str → Option Value) (P0 : Addr) : Sp := fun vs H Q _ => ∃ p : Addr, vs = [.ref p] ∧ Spring H p ∧ LamX.Tabs (T0 P0) H ∧ ∀ H', LamX.Tabs (T0 P0) H' → Kt p H H' → Spring H' p → Q (.bl true) H'
theorem ok__law_right (T : Env P K mg c__law_right) (TB__law_right : LamX.TabB base mg c__law_right P__law_right) : HdG P w K mg base CX0 8 "_law_right" s__law_right ["_law_spring_here"] (sp__law_right mg P__law_right) := by
  have H_zigzag := ok_zigzag (P := P) (w := w) (base := base) T
  have H__law_draw := ok__law_draw (P := P) (w := w) (base := base) T
  have H__law_evening_right := ok__law_evening_right (P := P) (w := w) (base := base) T
  have H_is_party := ok_is_party (P := P) (w := w) (base := base) T
  have H__law_is_party := ok__law_is_party (P := P) (w := w) (base := base) T
  have H__law_zigzag := ok__law_zigzag (P := P) (w := w) (base := base) T
  have H__law_of := ok__law_of (P := P) (w := w) (base := base) T
  obtain ⟨f, fd, F, hm, hcode⟩ := T.d__law_right.ex
  refine ⟨⟨f, fd, F, hm, ?_⟩, fun _ _ _ _ _ _ _ us hl => match us, hl with | [_], _ => rfl⟩
  refine fun_okC F hcode sc__law_right (fun vs H Q E h => ?_) (fun A outer s H vs Q E hr gd h => ?_)
  · first | (obtain ⟨rfl, _⟩ := h; rfl) | (obtain ⟨_, rfl, _⟩ := h; rfl) | (obtain ⟨_, _, rfl, _⟩ := h; rfl) | (obtain ⟨_, _, _, rfl, _⟩ := h; rfl) | (obtain ⟨_, _, _, _, rfl, _⟩ := h; rfl) | (obtain ⟨_, _, _, _, _, rfl, _⟩ := h; rfl) | (obtain ⟨_, _, _, _, _, _, rfl, _⟩ := h; rfl) | (obtain ⟨_, _, _, _, _, _, _, rfl, _⟩ := h; rfl) | (obtain ⟨_, _, _, _, _, _, _, _, rfl, _⟩ := h; rfl) | (obtain ⟨_, _, _, _, _, _, _, _, _, rfl, _⟩ := h; rfl) | (obtain ⟨_, _, _, _, _, _, _, _, _, _, rfl, _⟩ := h; rfl) | (obtain ⟨_, _, _, _, _, _, _, _, _, _, _, rfl, _⟩ := h; rfl) | (obtain ⟨_, _, _, _, _, _, _, _, _, _, _, _, rfl, _⟩ := h; rfl) | (obtain ⟨_, _, _, _, _, _, _, _, _, _, _, _, _, rfl, _⟩ := h; rfl) | (obtain ⟨_, _, _, _, _, _, _, _, _, _, _, _, _, _, rfl, _⟩ := h; rfl) | (obtain ⟨_, _, _, _, _, _, _, _, _, _, _, _, _, _, _, rfl, _⟩ := h; rfl) | (obtain ⟨_, _, _, _, _, _, _, _, _, _, _, _, _, _, _, _, rfl, _⟩ := h; rfl) | (obtain ⟨_, _, _, _, _, _, _, _, _, _, _, _, _, _, _, _, _, rfl, _⟩ := h; rfl) | (obtain ⟨_, _, _, _, _, _, _, _, _, _, _, _, _, _, _, _, _, _, rfl, _⟩ := h; rfl)
  · obtain ⟨p, rfl, hp, tb, q⟩ := h
    have hu := hu_of hr
    refine ⟨_, pss_cons (ps_for PassesOwn.never rfl (pi_range1 rfl T.b_range (pa_cons pe_int pa_nil)) (pg_name (i := 1) sc__law_right.nd rfl (by first | exact .inl rfl | exact .inr rfl))
      (pss_cons (ps_set (i := 6) sc__law_right.nd rfl (by first | exact .inl rfl | exact .inr rfl) (pe_hd H__law_of (hr.mono (by decide)) rfl pass0 (pa_cons (pv 0) (pa_cons (pe_lst (pa_cons pe_str (pa_cons pe_str pa_nil))) pa_nil))))
      (pss_cons (ps_set (i := 2) sc__law_right.nd rfl (by first | exact .inl rfl | exact .inr rfl) (pe_op op_add (pe_op op_mul pe_int (pe_op op_add pe_int (pe_hd H__law_draw (hr.mono (by decide)) rfl pass0 (pa_cons (pv 0) (pa_cons (pe_hd H__law_of (hr.mono (by decide)) rfl pass0 (pa_cons (pv 0) (pa_cons (pe_lst (pa_cons pe_int (pa_cons pe_int (pa_cons pe_int pa_nil)))) pa_nil))) pa_nil))))) (pe_callTy call_int1 rfl T.b_int (by decide +kernel) (pa_cons (pe_cmpR op_eq (pv 6) pe_str (nomark _)) pa_nil))))
      (pss_cons (ps_set (i := 3) sc__law_right.nd rfl (by first | exact .inl rfl | exact .inr rfl) (pe_callTy call_tupleL rfl T.b_tuple (by decide +kernel) (pa_cons (pe_lc (own := [("_law_some", 7)]) (g := (gName 7)) (tt := tYes) rfl sc__law_right.nd (pi_list (pe_hd H__law_zigzag (hr.mono (by decide)) rfl pass0 (pa_cons (pv 6) (pa_cons (pv 2) pa_nil)))) (blkOk_by (own := [("_law_some", 7)]) (N := N__law_right) (sc := defScope s__law_right) (by decide +kernel)) (fun _ _ _ _ _ => pg_name (i := 7) sc__law_right.nd rfl (by first | exact .inl rfl | exact .inr rfl)) (fun _ _ _ _ _ => pts_nil) (fun _ _ _ _ _ => (pe_callTy call_tupleL rfl T.b_tuple (by decide +kernel) (pa_cons (pv 7) pa_nil)))) pa_nil)))
      (pss_cons (ps_if (pt_cmpR op_ne (pe_callB (call_reprX hr.units gd) rfl T.b_repr (by decide +kernel) (pa_cons (pe_lst (pa_cons (pe_hd H_zigzag (hr.mono (by decide)) rfl passNo (pa_cons (pv 6) (pa_cons (pv 2) pa_nil))) (pa_cons (pe_hdk (ks := ["n", "kind"]) (π := [1, 0]) (HdG.of H_zigzag) (hr.mono (by decide)) (.inr H_zigzag) rfl passNo (fun _ _ _ _ _ _ _ ws hl => match ws, hl with | [_, _], _ => rfl) (pk_cons (pv 2) (pk_cons (pv 6) pk_nil))) pa_nil))) pa_nil)) (pe_callB (call_reprX hr.units gd) rfl T.b_repr (by decide +kernel) (pa_cons (pe_lst (pa_cons (pv 3) (pa_cons (pv 3) pa_nil))) pa_nil)) (nomark _)) (pss_one (ps_ret pe_bl))
      (pss_nil))
      (pss_cons (ps_if (PW.pt (pw_and (pt_cmpR op_lt (pv 2) pe_int (nomark _)) (pw_and1 (pt_not (pt_val (pe_hd H__law_is_party (hr.mono (by decide)) rfl pass0 (pa_cons (pv 6) (pa_cons (pv 2) (pa_cons (pv 3) pa_nil))))))))) (pss_one (ps_ret pe_bl))
      (pss_nil))
      (pss_cons (ps_if (pt_cmpR op_notBl (pe_hd H_is_party (hr.mono (by decide)) rfl passNo (pa_cons (pv 6) (pa_cons (pe_hd H_zigzag (hr.mono (by decide)) rfl passNo (pa_cons (pv 6) (pa_cons (pv 2) pa_nil))) pa_nil))) pe_bl (nomark _)) (pss_one (ps_ret pe_bl))
      (pss_nil))
      (pss_cons (ps_for PassesOwn.never rfl (pi_range1 rfl T.b_range (pa_cons (pe_callB call_lenU rfl T.b_len (by decide +kernel) (pa_cons (pv 3) pa_nil)) pa_nil)) (pg_name (i := 4) sc__law_right.nd rfl (by first | exact .inl rfl | exact .inr rfl))
      (pss_one (ps_if (pt_not (pt_val (pe_hd H__law_evening_right (hr.mono (by decide)) rfl pass0 (pa_cons (pv 0) (pa_cons (pv 6) (pa_cons (pv 3) (pa_cons (pv 4) pa_nil))))))) (pss_one (ps_ret pe_bl))
      (pss_nil))))
      (pss_cons (ps_set (i := 5) sc__law_right.nd rfl (by first | exact .inl rfl | exact .inr rfl) (pe_op op_add (pe_op op_add pe_int (pe_op op_mul pe_int (pe_hd H__law_draw (hr.mono (by decide)) rfl pass0 (pa_cons (pv 0) (pa_cons (pe_op op_pow pe_int pe_int) pa_nil))))) (pe_callTy call_int1 rfl T.b_int (by decide +kernel) (pa_cons (pe_cmpR op_eq (pv 6) pe_str (nomark _)) pa_nil))))
      (pss_one (ps_if (pt_cmpR (op_neD hr.units) (pe_told (mg := mg) (P0 := P__law_right) T TB__law_right (k := 5) (hr.mono (by decide)) gd rfl (LamX.lamS_by (by rfl)) (q := "_law_right.<locals>.<lambda>") (by first | rfl | kernel_rfl) (fun A outer s H E f c hr => (pe_hd H_zigzag (hr.mono (by decide)) rfl passX (pa_cons (pv 6) (pa_cons (pv 5) pa_nil))))) (pe_lst (pa_cons pe_str (pa_cons pe_str (pa_cons (pe_callB (call_reprX hr.units gd) rfl T.b_repr (by decide +kernel) (pa_cons (pv 5) pa_nil)) pa_nil)))) (nomark _)) (pss_one (ps_ret pe_bl))
      (pss_nil))))))))))))
      (pss_one (ps_ret pe_bl)), ?_⟩
    refine z_seq ?_
    refine for_rng (n := 3) (fun R h => h) (by decide) (fun _ σ H' => σ.length = 8 ∧ σ[0]? = some (some (.ref p)) ∧ Kt p H H' ∧ Spring H' p ∧ LamX.Tabs (T0 P__law_right) H') ⟨rfl, rfl, Kt.refl p H, hp, tb⟩ ?_ ?_
    · rintro i σ H0 hi ⟨hl, h0, kt, sp, tb⟩
      obtain ⟨x0, x1, x2, x3, x4, x5, x6, x7, rfl⟩ := len8 hl
      obtain rfl : x0 = some (.ref p) := Option.some.inj h0
      clear hl h0
      simp? only [sp_zigzag, sp__law_draw, sp__law_evening_right, sp_is_party, sp__law_is_party, sp__law_zigzag, sp__law_of]
      refine z_seq ?_
      simp? only [sp_zigzag, sp__law_draw, sp__law_evening_right, sp_is_party, sp__law_is_party, sp__law_zigzag, sp__law_of]
      intro m hm
      refine draw_menu sp tb (Same.refl _) hm fun v H1 k1 sp1 tb1 kp1 hv => ?_
      obtain ⟨r, rfl⟩ : ∃ r, v = .str (kindS r) := by
        simp only [List.mem_cons, List.not_mem_nil, or_false] at hv
        rcases hv with rfl | rfl
        · exact ⟨true, rfl⟩
        · exact ⟨false, rfl⟩
      have k01 := kt.trans k1
      clear hm hv kt sp tb kp1 k1
      refine z_seq ?_
      simp? only [sp_zigzag, sp__law_draw, sp__law_evening_right, sp_is_party, sp__law_is_party, sp__law_zigzag, sp__law_of, kind_eq]
      intro m hm
      refine draw_menu sp1 tb1 (Same.refl _) hm fun v H2 k2 sp2 tb2 kp2 hv => ?_
      obtain ⟨x, rfl, hx0, hx1⟩ : ∃ x : Int, v = .int x ∧ 0 < x ∧ x ≤ 49 := by
        simp only [List.mem_cons, List.not_mem_nil, or_false] at hv
        rcases hv with rfl | rfl | rfl <;> exact ⟨_, rfl, by decide, by decide⟩
      refine ⟨x, rfl, sp2, hx0, by omega, fun d H3 kp3 hd0 hd1 => ?_⟩
      have tb3 := tabs_kp sp2 kp3 tb2
      have sp3 := kp3.sp
      have k03 := (k01.trans k2).trans (Kt.kp kp3)
      clear hm hv kp2 k2 kp3 sp2 tb2 sp1 tb1 k01
      have hs : SizeIs r (2 * (1 + d) + if r = true then 1 else 0) (1 + d) := by
        cases r
        · exact ⟨by omega, .inr ⟨rfl, by simp⟩⟩
        · exact ⟨by omega, .inl ⟨rfl, by simp⟩⟩
      have hn99 : 2 ≤ (2 * (1 + d) + if r = true then 1 else 0) ∧ (2 * (1 + d) + if r = true then 1 else 0) ≤ 99 := by
        split <;> omega
      generalize (2 * (1 + d) + if r = true then 1 else 0) = n at hs hn99 ⊢
      have hnk := hs.nights
      have hk50 : 0 < 1 + d ∧ 1 + d ≤ 49 := by omega
      generalize 1 + d = k at hs hnk hk50
      clear hd0 hd1 hx0 hx1
      have hz99 := size_most hs hn99.2
      refine z_seq ?_
      simp? only [sp_zigzag, sp__law_draw, sp__law_evening_right, sp_is_party, sp__law_is_party, sp__law_zigzag, sp__law_of]
      refine lc_bindL ?_
      simp? only [sp_zigzag, sp__law_draw, sp__law_evening_right, sp_is_party, sp__law_is_party, sp__law_zigzag, sp__law_of, kind_inj]
      refine ⟨by omega, by omega, fun D as H4 hD s4 e4 pr4 => ?_⟩
      refine lc_lstO (a := D) (xs := as.map V.ref) (H1 := H4) (tupLike H4) (fun R h => h) (SqL.of e4) ?_ (fun x hx H5 s5 => ?_) fun D2 H5 bs hD2 s5 e5 pr5 => ?_
      · rw [List.length_map, paired_len pr4]
        unfold zz
        rw [List.length_map, ups_len]
        omega
      · obtain ⟨t, ht, rfl⟩ := List.mem_map.mp hx
        obtain ⟨l, hl, el⟩ := paired_mem pr4 t ht
        rw [tupLike_at el]
        intro Y N hY hN
        simp? only [sp_zigzag, sp__law_draw, sp__law_evening_right, sp_is_party, sp__law_is_party, sp__law_zigzag, sp__law_of]
        exact ⟨_, s5 _ _ el, fun p hp => hY _ p _ rfl hp (same_new hp) upd_same⟩
      · rw [fm_tupLike pr4] at pr5
        have pr5 := tups_of pr5
        refine ⟨D2, rfl, _, e5, fun A hA => ?_⟩
        have s36 := (s4.trans s5).trans (same_new (o := .tup (bs.map V.ref)) hA)
        have k06 := k03.trans (Kt.same s36)
        have sp6 := spring_same sp3 s36
        have tb6 := tabs_same s36 tb3
        have eA : upd H5 A (.tup (bs.map V.ref)) A = some (.tup (bs.map V.ref)) := upd_same
        have prA := tups_same (same_new (o := .tup (bs.map V.ref)) hA) pr5
        generalize upd H5 A (.tup (bs.map V.ref)) = H6 at k06 sp6 tb6 eA prA ⊢
        clear e5 pr5 hA hD2 s5 e4 pr4 s4 hD s36 k03 sp3 tb3
        refine z_seq ?_
        simp? only [sp_zigzag, sp__law_draw, sp__law_evening_right, sp_is_party, sp__law_is_party, sp__law_zigzag, sp__law_of]
        have smZ := zz_sm hs hn99.2
        refine ahead_str hz99 ⟨fun c => absurd c (by omega), fun _ t1 as1 H7 s7 e7 p7 => ahead_str hz99 ⟨fun c => absurd c (by omega), fun _ t2 as2 H8 s8 e8 p8 c1 hc1 => ?_⟩⟩
        refine both_told smZ (by decide) (by decide) hc1 (.tup (s8 _ _ e7) (dx_tups (tups_same s8 p7))) (.tup e8 (dx_tups p8)) (.tup (s8 _ _ (s7 _ _ eA)) (dx_tups (tups_same (s7.trans s8) prA))) fun H9 s9 => ?_
        have s69 := (s7.trans s8).trans s9
        have k09 := k06.trans (Kt.same s69)
        have sp9 := spring_same sp6 s69
        have tb9 := tabs_same s69 tb6
        have eA9 := s69 _ _ eA
        have pA9 := tups_same s69 prA
        clear s69 s9 hc1 s8 e8 p8 s7 e7 p7 k06 sp6 tb6 eA prA
        refine z_seq ?_
        simp? only [sp_zigzag, sp__law_draw, sp__law_evening_right, sp_is_party, sp__law_is_party, sp__law_zigzag, sp__law_of]
        refine if_both (H := H9) (fun H10 s10 => ?_) fun c g => ⟨r, rfl, by rw [hnk]; exact hs, by omega, bs, eA9, pA9, g⟩
        have k10 := k09.trans (Kt.same s10)
        have sp10 := spring_same sp9 s10
        have tb10 := tabs_same s10 tb9
        have eA10 := s10 _ _ eA9
        have pA10 := tups_same s10 pA9
        clear k09 sp9 tb9 eA9 pA9 s10
        refine z_seq ?_
        simp? only [sp_zigzag, sp__law_draw, sp__law_evening_right, sp_is_party, sp__law_is_party, sp__law_zigzag, sp__law_of]
        refine ahead_str hz99 ⟨fun c => absurd c (by omega), fun _ t3 as3 H11 s11 e11 p11 => ?_⟩
        have P : IsParty r n (zz r n) := zz_party hs
        have zl : (zz r n).length ≤ 1000 := by
          unfold zz
          rw [List.length_map, ups_len]
          omega
        refine ⟨tups_known3 e11 p11 zl fun l hl => ?_, kinded_str fun H12 s12 => ?_⟩
        · obtain ⟨e, he, rfl⟩ := List.mem_map.mp hl
          rw [evL_len]
          omega
        rw [party_some hs e11 p11 P]
        refine notB_true ⟨false, rfl, ?_⟩
        rw [if_neg (by decide)]
        have s102 := s11.trans s12
        have k12 := k10.trans (Kt.same s102)
        have sp12 := spring_same sp10 s102
        have tb12 := tabs_same s102 tb10
        have eA12 := s102 _ _ eA10
        have pA12 := tups_same s102 pA10
        clear k10 sp10 tb10 eA10 pA10 s102 s11 s12 e11 p11
        refine z_seq ?_
        have hbl : (bs.length : Int) = k := by
          rw [paired_len pA12]
          unfold zz
          rw [List.length_map, ups_len]
          omega
        refine for_rng (n := k) (fun R h => ?_) (by omega) (fun _ σ H' => ∃ x4 x5 x7, σ = [some (.ref p), some (.int i), some (.int n), some (.ref A), x4, x5, some (.str (kindS r)), x7] ∧ Kt p H H' ∧ Spring H' p ∧ LamX.Tabs (T0 P__law_right) H' ∧ H' A = some (.tup (bs.map V.ref)) ∧ Paired (TupAt H') bs (zz r n)) ⟨_, _, _, rfl, k12, sp12, tb12, eA12, pA12⟩ ?_ ?_
        · simp? only [sp_zigzag, sp__law_draw, sp__law_evening_right, sp_is_party, sp__law_is_party, sp__law_zigzag, sp__law_of]
          refine ⟨_, eA12, ?_⟩
          rw [List.length_map, hbl]
          exact h
        · clear k12 sp12 tb12 eA12 pA12
          rintro j σ H13 hj ⟨x4, x5, x7, rfl, k13, sp13, tb13, eA13, pA13⟩
          simp? only [sp_zigzag, sp__law_draw, sp__law_evening_right, sp_is_party, sp__law_is_party, sp__law_zigzag, sp__law_of]
          refine ⟨A, bs, r, rfl, rfl, sp13, n, k, hs, hn99.2, by omega, by omega, eA13, pA13, fun H14 kp14 => ⟨k13.trans (Kt.kp kp14), kp14.sp, tabs_kp sp13 kp14 tb13, tup_kp kp14 sp13 eA13, tups_kp kp14 sp13 pA13⟩⟩
        · rintro σ H13 ⟨x4, x5, x7, rfl, k13, sp13, tb13, eA13, pA13⟩
          refine z_seq ?_
          simp? only [sp_zigzag, sp__law_draw, sp__law_evening_right, sp_is_party, sp__law_is_party, sp__law_zigzag, sp__law_of]
          refine z_seq ?_
          simp? only [sp_zigzag, sp__law_draw, sp__law_evening_right, sp_is_party, sp__law_is_party, sp__law_zigzag, sp__law_of, kind_eq]
          refine ⟨sp13, fun d H14 kp14 d0 d1 => ?_⟩
          have k14 := k13.trans (Kt.kp kp14)
          have tb14 := tabs_kp sp13 kp14 tb13
          have sp14 := kp14.sp
          simp? only [sp__law_draw, sp__law_evening_right, sp_is_party, sp__law_is_party, sp__law_zigzag, sp__law_of, LamX.tLam]
          refine ⟨tb14, fun H15 e15 tb15 => ?_⟩
          have hsz : sizeV r most (.int (100 + 2 * d + if r = true then 1 else 0)) = true := by
            have hm : (1000000000000000000000000000000 : Int) ≤ most := by decide
            cases r
            · show (decide (2 ≤ (100 + 2 * d + 0 : Int) ∧ (100 + 2 * d + 0 : Int) ≤ most) && decide ((100 + 2 * d + 0 : Int) % 2 = 0)) = true
              rw [decide_eq_true (by omega), decide_eq_true (by omega)]
              rfl
            · show (decide (3 ≤ (100 + 2 * d + 1 : Int) ∧ (100 + 2 * d + 1 : Int) ≤ most) && decide ((100 + 2 * d + 1 : Int) % 2 = 1)) = true
              rw [decide_eq_true (by omega), decide_eq_true (by omega)]
              rfl
          have gb : 99 < (100 + 2 * d + if r = true then 1 else 0) ∧ (100 + 2 * d + if r = true then 1 else 0) < 1000000000000000000000 := by
            split <;> omega
          generalize (100 + 2 * d + if r = true then 1 else 0) = gr at hsz gb ⊢
          have hw : Shw (.int gr) := by
            simp only [Shw]
            have h1 : gr.natAbs < 2 ^ 100 := by
              have : (2 : Nat) ^ 100 = 1267650600228229401496703205376 := by decide
              omega
            exact Nat.lt_trans ((Nat.log2_lt (by omega)).mpr h1) (by decide)
          obtain ⟨g1, g2, _⟩ := shown_le (.int gr) hw
          have gsz : (PyData.int gr).shown.length ≤ sizeLine := Nat.le_trans g1 (by rw [sizeLine_eq]; simp only [wd]; decide)
          have gok : PyData.strOk (PyData.int gr).shown = true := by
            simp only [PyData.shown]
            exact ofStr_ok _
          refine ⟨fun cls dd H' => cls = .ref (clsA mg "TooMany") ∧ ∃ d2, dd = some d2 ∧ H' d2 = some (.xd [("given", .int gr)]) ∧ Same H15 H', fun _ _ => False, ⟨_, _, rfl, ahead_str hsz ⟨fun _ d2 H' s hd => ⟨rfl, d2, rfl, hd, s⟩, fun c => absurd c (by omega)⟩⟩, fun _ _ h => h.elim, ?_⟩
          rintro cls dd H16 ⟨rfl, d2, rfl, hd2, s16⟩
          refine ⟨14, "TooMany", "given", .int gr, d2, .int gr, rfl, by decide +kernel, rfl, rfl, hd2, .int gr, g2, gsz, Nat.zero_le _, fun pp H17 s17 epp => ?_⟩
          refine ⟨.int gr, .int gr, rfl, .int gr, g2, gsz, Nat.zero_le _, fun p1 hp1 => ?_⟩
          have n1 := same_new (o := .lst [V.str "error", V.str "TooMany", V.str (PyData.int gr).shown]) hp1
          have okl : ([("error" : Str), "TooMany", (PyData.int gr).shown]).all PyData.strOk = true := by
            simp only [List.all_cons, List.all_nil, Bool.and_true, gok]
            decide +kernel
          have d1 := dp_strs (K := K) (l := [("error" : Str), "TooMany", (PyData.int gr).shown]) ⟨n1 _ _ epp, okl⟩
          have d3 := dp_strs (K := K) (H := upd H17 p1 (.lst [V.str "error", V.str "TooMany", V.str (PyData.int gr).shown])) (a := p1) (l := [("error" : Str), "TooMany", (PyData.int gr).shown]) ⟨upd_same, okl⟩
          refine ⟨_, _, d1, d3, shaped_strs okl, shaped_strs okl, ?_⟩
          rw [SeqAt.eqv_refl _ (SeqAt.canLay_of_shaped (shaped_strs okl))]
          refine ⟨false, rfl, ?_⟩
          rw [if_neg (by decide)]
          have sE := (s16.trans s17).trans n1
          refine ⟨(k14.trans (Kt.ext e15)).trans (Kt.same sE), ?_, tabs_same sE tb15⟩
          obtain ⟨y1, y2, y3, hy⟩ := sp14
          exact ⟨y1, y2, y3, sE _ _ (e15 _ _ hy lst_ne_tbl)⟩
    · rintro σ H' ⟨hl, h0, kt, sp, tb⟩
      simp? only [sp_zigzag, sp__law_draw, sp__law_evening_right, sp_is_party, sp__law_is_party, sp__law_zigzag, sp__law_of]
      exact q _ tb kt sp

open Zig
theorem tail_T {TA : TA} {spS spR : Sp} {n : Int} {a : Addr} {H : Hp} {Q : VK} {P0 : Addr} (tb0 : LamX.Tabs (T0 P0) H) (hta : ∀ R : List V → Hp → Prop, R [.int n] H → TA [some (V.ref a), none, none, none] H R) (hn : n ≤ 64 ∧ 0 ≤ n)
    (hS : ∀ (k : Int) H' Q' E, Same H H' → 0 ≤ k → k < n → (∀ p H2, H' p = none → Same H' H2 → Spring H2 p → Q' (.ref p) H2) → spS [.ref a, .int k] H' Q' E)
    (hR : ∀ p H' Q' E, LamX.Tabs (T0 P0) H' → Spring H' p → (∀ H2, LamX.Tabs (T0 P0) H2 → Kt p H' H2 → Spring H2 p → Q' (.bl true) H2) → spR [.ref p] H' Q' E) (q : ∀ H', Q (.bl true) H') :
    tSeq (tAsg (tLc (iRng1 TA) (gName 2) tYes (tCall spS [] E0 (tCons (tVar 0) (tCons (tVar 2) tNil))) [2]) (gName 1))
      (tRet (tCB rAllH (tCons (tLc (iList K (tVar 1)) (gName 3) tYes (tCall spR [] E0 (tCons (tVar 3) tNil)) [3]) tNil)))
      { nx := fun x H' => Q V.non H', rt := Q } [some (V.ref a), none, none, none] H := by
  refine z_seq ?_
  refine lc_rng (n := n) hta (by omega) (fun D i H' => ∃ ps : List Addr, ps.length = i ∧ (∀ p ∈ ps, Spring H' p) ∧ H' D = some (.lst (ps.map V.ref)) ∧ Same H H') (fun D hD => ⟨[], rfl, fun _ h => absurd h List.not_mem_nil, upd_same, same_new hD⟩) (fun D hD i H' hi hP => ?_) fun D H' hD hP => ?_
  · obtain ⟨ps, hl, hsp, hDl, hs⟩ := hP
    refine ⟨rfl, ?_⟩
    simp only [tYes, if_true]
    refine ⟨_, rfl, _, rfl, hS i H' _ _ hs (by omega) hi fun p H2 hp s2 sp => ?_⟩
    have hD2 := s2 _ _ hDl
    refine ⟨_, hD2, by rw [List.length_map, sizeLine_eq]; omega, ps ++ [p], by rw [List.length_append, hl]; rfl, fun x hx => ?_, by rw [upd_same, List.map_append]; rfl, fun b o e => ?_⟩
    · have far : ∀ y, Spring H2 y → Spring (upd H2 D (.lst (ps.map V.ref ++ [V.ref p]))) y := by
        rintro y ⟨u, v, w, e⟩
        have ne : y ≠ D := by
          rintro rfl
          rw [hD2] at e
          have e2 := HO.lst.inj (Option.some.inj e)
          cases ps with
          | nil => cases e2
          | cons z r => cases e2
        exact ⟨u, v, w, by rw [upd_ne ne]; exact e⟩
      rcases List.mem_append.mp hx with hx | hx
      · exact far _ ((hsp x hx).same s2)
      · rw [List.mem_singleton.mp hx]
        exact far _ sp
    · rw [upd_ne (ne_of_none e hD)]
      exact s2 _ _ (hs _ _ e)
  · obtain ⟨ps, hl, hsp, hDl, hs⟩ := hP
    show tLc (iList K (tVar 1)) (gName 3) tYes (tCall spR [] E0 (tCons (tVar 3) tNil)) [3] [some (V.ref a), some (V.ref D), none, none] H' fun x H1 => rAllH [x] H1 Q
    refine lc_lst (a := D) (xs := ps.map V.ref) (fun R h => ⟨_, rfl, h⟩) (fun L i H2 => LamX.Tabs (T0 P0) H2 ∧ (∀ p ∈ ps, Spring H2 p) ∧ H2 D = some (.lst (ps.map V.ref)) ∧ H2 L = some (.lst (List.replicate i (V.bl true)))) (SqL.of hDl) (fun L hL => ?_) (fun L hL i H2 hP => SqL.of hP.2.2.1) (fun L hL i x H2 hx hP => ?_) fun L H2 hL hP => ?_
    · have s := same_new (o := .lst []) hL
      exact ⟨tabs_same (hs.trans s) tb0, fun p hp => (hsp p hp).same s, s _ _ hDl, upd_same⟩
    · obtain ⟨tbx, h1, h2, h3⟩ := hP
      obtain ⟨p, hp, rfl⟩ := List.mem_map.mp (List.mem_of_getElem? hx)
      refine ⟨rfl, ?_⟩
      simp only [tYes, if_true]
      refine ⟨_, rfl, hR p H2 _ _ tbx (h1 p hp) fun H3 tb3 kt sp3 => ?_⟩
      have hi : i < ps.length := by
        have := (List.getElem?_eq_some_iff.mp hx).1
        rw [List.length_map] at this
        exact this
      have nD : D ≠ p := by
        rintro rfl
        obtain ⟨u, v, w, e⟩ := h1 _ hp
        rw [h2] at e
        have e2 := HO.lst.inj (Option.some.inj e)
        cases ps with
        | nil => cases e2
        | cons z r => cases e2
      have nL : ∀ y, Spring H2 y → L ≠ y := by
        rintro y ⟨u, v, w, e⟩ rfl
        rw [h3] at e
        have e2 := HO.lst.inj (Option.some.inj e)
        cases i with
        | zero => cases e2
        | succ m =>
          rw [List.replicate_succ] at e2
          cases (List.cons.inj e2).1
      have e3 := kt L _ (nL p (h1 p hp)) h3 lst_ne_tbl
      refine ⟨_, e3, by rw [List.length_replicate, sizeLine_eq]; omega, tabs_upd tb3 e3, fun y hy => ?_, ?_, ?_⟩
      · have sy : Spring H3 y := by
          by_cases c : y = p
          · rw [c]
            exact sp3
          · obtain ⟨u, v, w, e⟩ := h1 y hy
            exact ⟨u, v, w, kt _ _ c e lst_ne_tbl⟩
        obtain ⟨u, v, w, e⟩ := sy
        exact ⟨u, v, w, by rw [upd_ne (Ne.symm (nL y (h1 y hy)))]; exact e⟩
      · have nDL : D ≠ L := by
          rintro rfl
          rw [hDl] at hL
          cases hL
        rw [upd_ne nDL]
        exact kt _ _ nD h2 lst_ne_tbl
      · rw [upd_same, List.replicate_succ']
    · obtain ⟨_, _, _, h3⟩ := hP
      refine ⟨L, List.replicate (ps.map V.ref).length true, rfl, ?_, ?_⟩
      · rw [h3, List.map_replicate]
      · rw [all_rep]
        exact q H2
def sp_law (K : PySem.W.Frag) (P0 : Addr) : Sp := fun vs H Q _ => ∃ (a : Addr) (ns : List Int), vs = [.ref a] ∧ SqL K H a (ns.map V.int) ∧ ns.length ≤ 63 ∧ LamX.Tabs (T0 P0) H ∧ ∀ H', Q (.bl true) H'
theorem ok_law (T : Env P K mg c__law_right) (TB__law_right : LamX.TabB base mg c__law_right P__law_right) : HdG P w K mg base CX0 9 "law" s_law ["_law_cells"] (sp_law K P__law_right) := by
  have H__law_right := ok__law_right (P := P) (w := w) (base := base) T TB__law_right
  have H__law_spring := ok__law_spring (P := P) (w := w) (base := base) T
  obtain ⟨f, fd, F, hm⟩ := T.d_law
  refine ⟨⟨f, fd, F, hm, ?_⟩, fun _ _ _ _ _ _ _ us hl => match us, hl with | [_], _ => rfl⟩
  refine fun_okG F sc_law (fun vs H Q E h => ?_) (fun cdv A outer s H vs Q E hr gd h => ?_)
  · first | (obtain ⟨rfl, _⟩ := h; rfl) | (obtain ⟨_, rfl, _⟩ := h; rfl) | (obtain ⟨_, _, rfl, _⟩ := h; rfl) | (obtain ⟨_, _, _, rfl, _⟩ := h; rfl) | (obtain ⟨_, _, _, _, rfl, _⟩ := h; rfl) | (obtain ⟨_, _, _, _, _, rfl, _⟩ := h; rfl) | (obtain ⟨_, _, _, _, _, _, rfl, _⟩ := h; rfl) | (obtain ⟨_, _, _, _, _, _, _, rfl, _⟩ := h; rfl) | (obtain ⟨_, _, _, _, _, _, _, _, rfl, _⟩ := h; rfl) | (obtain ⟨_, _, _, _, _, _, _, _, _, rfl, _⟩ := h; rfl) | (obtain ⟨_, _, _, _, _, _, _, _, _, _, rfl, _⟩ := h; rfl) | (obtain ⟨_, _, _, _, _, _, _, _, _, _, _, rfl, _⟩ := h; rfl) | (obtain ⟨_, _, _, _, _, _, _, _, _, _, _, _, rfl, _⟩ := h; rfl) | (obtain ⟨_, _, _, _, _, _, _, _, _, _, _, _, _, rfl, _⟩ := h; rfl) | (obtain ⟨_, _, _, _, _, _, _, _, _, _, _, _, _, _, rfl, _⟩ := h; rfl) | (obtain ⟨_, _, _, _, _, _, _, _, _, _, _, _, _, _, _, rfl, _⟩ := h; rfl) | (obtain ⟨_, _, _, _, _, _, _, _, _, _, _, _, _, _, _, _, rfl, _⟩ := h; rfl) | (obtain ⟨_, _, _, _, _, _, _, _, _, _, _, _, _, _, _, _, _, rfl, _⟩ := h; rfl) | (obtain ⟨_, _, _, _, _, _, _, _, _, _, _, _, _, _, _, _, _, _, rfl, _⟩ := h; rfl)
  · obtain ⟨a, ns, rfl, hs, hl, tb, q⟩ := h
    have hu := hu_of hr
    refine ⟨_, pss_cons (ps_setLc (i := 1) (own := [("_law_k", 2)]) (g := (gName 2)) (tt := tYes) rfl sc_law.nd rfl rfl (sw_true rfl rfl rfl (by decide +kernel)) (pi_range1 rfl T.b_range (pa_cons (pe_callB (call_max2 rfl) rfl T.b_max (by decide +kernel) (pa_cons pe_int (pa_cons (pe_callB (call_min2 rfl) rfl T.b_min (by decide +kernel) (pa_cons (pe_callB call_len_seq rfl T.b_len (by decide +kernel) (pa_cons (pv 0) pa_nil)) (pa_cons pe_int pa_nil))) pa_nil))) pa_nil)) (blkOk_by (own := [("_law_k", 2)]) (N := N_law) (sc := defScope s_law) (by decide +kernel)) (fun _ _ _ _ _ => pg_name (i := 2) sc_law.nd rfl (by first | exact .inl rfl | exact .inr rfl)) (fun _ _ _ _ _ => pts_nil) (fun _ _ _ _ _ => (pe_hd H__law_spring (hr.mono (by decide)) rfl pass0 (pa_cons (pv 0) (pa_cons (pv 2) pa_nil)))))
      (pss_one (ps_ret (pe_callB (cr_allH rfl) rfl T.b_all (by decide +kernel) (pa_cons (pe_lc (own := [("_law_spring_here", 3)]) (g := (gName 3)) (tt := tYes) rfl sc_law.nd (pi_list (pv 1)) (blkOk_by (own := [("_law_spring_here", 3)]) (N := N_law) (sc := defScope s_law) (by decide +kernel)) (fun _ _ _ _ _ => pg_name (i := 3) sc_law.nd rfl (by first | exact .inl rfl | exact .inr rfl)) (fun _ _ _ _ _ => pts_nil) (fun _ _ _ _ _ => (pe_hdG H__law_right (hr.mono (by decide)) gd rfl pass0 (pa_cons (pv 3) pa_nil)))) pa_nil)))), ?_⟩
    simp? only [sp__law_spring]
    exact tail_T (P0 := P__law_right) (n := if (if (4 : Int) < ns.length then 4 else (ns.length : Int)) > 2 then (if (4 : Int) < ns.length then 4 else (ns.length : Int)) else 2) tb (fun R h => by
      simp? only [sp__law_right, sp__law_spring]
      refine ⟨_, .inl hs, ?_⟩
      rw [List.length_map]
      exact h) (by split <;> split <;> omega) (fun k H' Q' E s1 h0 h1 hq => ⟨a, k, ns, rfl, s1.seq hs, hl, h0, (by revert h1; split <;> (try split) <;> omega), hq⟩) (fun p H' Q' E tb2 hp hq => ⟨p, rfl, hp, tb2, hq⟩) q

theorem all_mk {l : PySem.W.OpenLaw} {w : World} {K : PySem.W.Frag} {h : Heap} {mg : Str → Option Value} {fa c P0 : Addr} (X : K.In h) (G : h.Ns mainGlobals mg) (hfa : mg "law" = some (.ref fa)) (hy : Tells h mg "_law_right" c P0)
    {f1 : Addr} {od1 an1 : Option Addr} {sl1 : Array (Option Value)} {oc1 kV1 dc1 pm1 cd1 ct1 : Value}
    (a1 : PySem.W.nsIn K mainGlobals "is_integer" = some (some (.ref f1))) (l1 : K.lookup f1 = some ⟨oc1, od1, .func (PySem.W.fnOf "is_integer" "is_integer" (defArgs s_is_integer) (defBody s_is_integer) (defScope s_is_integer) .none kV1 dc1 pm1 an1 cd1 ct1), sl1⟩) (c1 : PySem.W.codeIn K cd1 "is_integer" = true) (k1 : PySem.W.keepIn K (.ref f1) = true)
    {f2 : Addr} {od2 an2 : Option Addr} {sl2 : Array (Option Value)} {oc2 kV2 dc2 pm2 cd2 ct2 : Value}
    (a2 : PySem.W.nsIn K mainGlobals "is_between" = some (some (.ref f2))) (l2 : K.lookup f2 = some ⟨oc2, od2, .func (PySem.W.fnOf "is_between" "is_between" (defArgs s_is_between) (defBody s_is_between) (defScope s_is_between) .none kV2 dc2 pm2 an2 cd2 ct2), sl2⟩) (c2 : PySem.W.codeIn K cd2 "is_between" = true) (k2 : PySem.W.keepIn K (.ref f2) = true)
    {f3 : Addr} {od3 an3 : Option Addr} {sl3 : Array (Option Value)} {oc3 kV3 dc3 pm3 cd3 ct3 : Value}
    (a3 : PySem.W.nsIn K mainGlobals "is_size" = some (some (.ref f3))) (l3 : K.lookup f3 = some ⟨oc3, od3, .func (PySem.W.fnOf "is_size" "is_size" (defArgs s_is_size) (defBody s_is_size) (defScope s_is_size) .none kV3 dc3 pm3 an3 cd3 ct3), sl3⟩) (c3 : PySem.W.codeIn K cd3 "is_size" = true) (k3 : PySem.W.keepIn K (.ref f3) = true)
    {f4 : Addr} {od4 an4 : Option Addr} {sl4 : Array (Option Value)} {oc4 kV4 dc4 pm4 cd4 ct4 : Value}
    (a4 : PySem.W.nsIn K mainGlobals "evenings_for" = some (some (.ref f4))) (l4 : K.lookup f4 = some ⟨oc4, od4, .func (PySem.W.fnOf "evenings_for" "evenings_for" (defArgs s_evenings_for) (defBody s_evenings_for) (defScope s_evenings_for) .none kV4 dc4 pm4 an4 cd4 ct4), sl4⟩) (c4 : PySem.W.codeIn K cd4 "evenings_for" = true) (k4 : PySem.W.keepIn K (.ref f4) = true)
    {f5 : Addr} {od5 an5 : Option Addr} {sl5 : Array (Option Value)} {oc5 kV5 dc5 pm5 cd5 ct5 : Value}
    (a5 : PySem.W.nsIn K mainGlobals "check_kind" = some (some (.ref f5))) (l5 : K.lookup f5 = some ⟨oc5, od5, .func (PySem.W.fnOf "check_kind" "check_kind" (defArgs s_check_kind) (defBody s_check_kind) (defScope s_check_kind) .none kV5 dc5 pm5 an5 cd5 ct5), sl5⟩) (c5 : PySem.W.codeIn K cd5 "check_kind" = true) (k5 : PySem.W.keepIn K (.ref f5) = true)
    {f6 : Addr} {od6 an6 : Option Addr} {sl6 : Array (Option Value)} {oc6 kV6 dc6 pm6 cd6 ct6 : Value}
    (a6 : PySem.W.nsIn K mainGlobals "is_everybody" = some (some (.ref f6))) (l6 : K.lookup f6 = some ⟨oc6, od6, .func (PySem.W.fnOf "is_everybody" "is_everybody" (defArgs s_is_everybody) (defBody s_is_everybody) (defScope s_is_everybody) .none kV6 dc6 pm6 an6 cd6 ct6), sl6⟩) (c6 : PySem.W.codeIn K cd6 "is_everybody" = true) (k6 : PySem.W.keepIn K (.ref f6) = true)
    {f7 : Addr} {od7 an7 : Option Addr} {sl7 : Array (Option Value)} {oc7 kV7 dc7 pm7 cd7 ct7 : Value}
    (a7 : PySem.W.nsIn K mainGlobals "pairs_on" = some (some (.ref f7))) (l7 : K.lookup f7 = some ⟨oc7, od7, .func (PySem.W.fnOf "pairs_on" "pairs_on" (defArgs s_pairs_on) (defBody s_pairs_on) (defScope s_pairs_on) .none kV7 dc7 pm7 an7 cd7 ct7), sl7⟩) (c7 : PySem.W.codeIn K cd7 "pairs_on" = true) (k7 : PySem.W.keepIn K (.ref f7) = true)
    {f8 : Addr} {od8 an8 : Option Addr} {sl8 : Array (Option Value)} {oc8 kV8 dc8 pm8 cd8 ct8 : Value}
    (a8 : PySem.W.nsIn K mainGlobals "wrong_of" = some (some (.ref f8))) (l8 : K.lookup f8 = some ⟨oc8, od8, .func (PySem.W.fnOf "wrong_of" "wrong_of" (defArgs s_wrong_of) (defBody s_wrong_of) (defScope s_wrong_of) .none kV8 dc8 pm8 an8 cd8 ct8), sl8⟩) (c8 : PySem.W.codeIn K cd8 "wrong_of" = true) (k8 : PySem.W.keepIn K (.ref f8) = true)
    {f9 : Addr} {od9 an9 : Option Addr} {sl9 : Array (Option Value)} {oc9 kV9 dc9 pm9 cd9 ct9 : Value}
    (a9 : PySem.W.nsIn K mainGlobals "people_in" = some (some (.ref f9))) (l9 : K.lookup f9 = some ⟨oc9, od9, .func (PySem.W.fnOf "people_in" "people_in" (defArgs s_people_in) (defBody s_people_in) (defScope s_people_in) .none kV9 dc9 pm9 an9 cd9 ct9), sl9⟩) (c9 : PySem.W.codeIn K cd9 "people_in" = true) (k9 : PySem.W.keepIn K (.ref f9) = true)
    {f10 : Addr} {od10 an10 : Option Addr} {sl10 : Array (Option Value)} {oc10 kV10 dc10 pm10 cd10 ct10 : Value}
    (a10 : PySem.W.nsIn K mainGlobals "is_party" = some (some (.ref f10))) (l10 : K.lookup f10 = some ⟨oc10, od10, .func (PySem.W.fnOf "is_party" "is_party" (defArgs s_is_party) (defBody s_is_party) (defScope s_is_party) .none kV10 dc10 pm10 an10 cd10 ct10), sl10⟩) (c10 : PySem.W.codeIn K cd10 "is_party" = true) (k10 : PySem.W.keepIn K (.ref f10) = true)
    {f11 : Addr} {od11 an11 : Option Addr} {sl11 : Array (Option Value)} {oc11 kV11 dc11 pm11 cd11 ct11 : Value}
    (a11 : PySem.W.nsIn K mainGlobals "check_size" = some (some (.ref f11))) (l11 : K.lookup f11 = some ⟨oc11, od11, .func (PySem.W.fnOf "check_size" "check_size" (defArgs s_check_size) (defBody s_check_size) (defScope s_check_size) .none kV11 dc11 pm11 an11 cd11 ct11), sl11⟩) (c11 : PySem.W.codeIn K cd11 "check_size" = true) (k11 : PySem.W.keepIn K (.ref f11) = true)
    {f12 : Addr} {od12 an12 : Option Addr} {sl12 : Array (Option Value)} {oc12 kV12 dc12 pm12 cd12 ct12 : Value}
    (a12 : PySem.W.nsIn K mainGlobals "round_size" = some (some (.ref f12))) (l12 : K.lookup f12 = some ⟨oc12, od12, .func (PySem.W.fnOf "round_size" "round_size" (defArgs s_round_size) (defBody s_round_size) (defScope s_round_size) .none kV12 dc12 pm12 an12 cd12 ct12), sl12⟩) (c12 : PySem.W.codeIn K cd12 "round_size" = true) (k12 : PySem.W.keepIn K (.ref f12) = true)
    {f13 : Addr} {od13 an13 : Option Addr} {sl13 : Array (Option Value)} {oc13 kV13 dc13 pm13 cd13 ct13 : Value}
    (a13 : PySem.W.nsIn K mainGlobals "person_in" = some (some (.ref f13))) (l13 : K.lookup f13 = some ⟨oc13, od13, .func (PySem.W.fnOf "person_in" "person_in" (defArgs s_person_in) (defBody s_person_in) (defScope s_person_in) .none kV13 dc13 pm13 an13 cd13 ct13), sl13⟩) (c13 : PySem.W.codeIn K cd13 "person_in" = true) (k13 : PySem.W.keepIn K (.ref f13) = true)
    {f14 : Addr} {od14 an14 : Option Addr} {sl14 : Array (Option Value)} {oc14 kV14 dc14 pm14 cd14 ct14 : Value}
    (a14 : PySem.W.nsIn K mainGlobals "index_in" = some (some (.ref f14))) (l14 : K.lookup f14 = some ⟨oc14, od14, .func (PySem.W.fnOf "index_in" "index_in" (defArgs s_index_in) (defBody s_index_in) (defScope s_index_in) .none kV14 dc14 pm14 an14 cd14 ct14), sl14⟩) (c14 : PySem.W.codeIn K cd14 "index_in" = true) (k14 : PySem.W.keepIn K (.ref f14) = true)
    {f15 : Addr} {od15 an15 : Option Addr} {sl15 : Array (Option Value)} {oc15 kV15 dc15 pm15 cd15 ct15 : Value}
    (a15 : PySem.W.nsIn K mainGlobals "person_at" = some (some (.ref f15))) (l15 : K.lookup f15 = some ⟨oc15, od15, .func (PySem.W.fnOf "person_at" "person_at" (defArgs s_person_at) (defBody s_person_at) (defScope s_person_at) .none kV15 dc15 pm15 an15 cd15 ct15), sl15⟩) (c15 : PySem.W.codeIn K cd15 "person_at" = true) (k15 : PySem.W.keepIn K (.ref f15) = true)
    {f16 : Addr} {od16 an16 : Option Addr} {sl16 : Array (Option Value)} {oc16 kV16 dc16 pm16 cd16 ct16 : Value}
    (a16 : PySem.W.nsIn K mainGlobals "index_of" = some (some (.ref f16))) (l16 : K.lookup f16 = some ⟨oc16, od16, .func (PySem.W.fnOf "index_of" "index_of" (defArgs s_index_of) (defBody s_index_of) (defScope s_index_of) .none kV16 dc16 pm16 an16 cd16 ct16), sl16⟩) (c16 : PySem.W.codeIn K cd16 "index_of" = true) (k16 : PySem.W.keepIn K (.ref f16) = true)
    {f17 : Addr} {od17 an17 : Option Addr} {sl17 : Array (Option Value)} {oc17 kV17 dc17 pm17 cd17 ct17 : Value}
    (a17 : PySem.W.nsIn K mainGlobals "evening_of" = some (some (.ref f17))) (l17 : K.lookup f17 = some ⟨oc17, od17, .func (PySem.W.fnOf "evening_of" "evening_of" (defArgs s_evening_of) (defBody s_evening_of) (defScope s_evening_of) .none kV17 dc17 pm17 an17 cd17 ct17), sl17⟩) (c17 : PySem.W.codeIn K cd17 "evening_of" = true) (k17 : PySem.W.keepIn K (.ref f17) = true)
    {f18 : Addr} {od18 an18 : Option Addr} {sl18 : Array (Option Value)} {oc18 kV18 dc18 pm18 cd18 ct18 : Value}
    (a18 : PySem.W.nsIn K mainGlobals "zigzag_of" = some (some (.ref f18))) (l18 : K.lookup f18 = some ⟨oc18, od18, .func (PySem.W.fnOf "zigzag_of" "zigzag_of" (defArgs s_zigzag_of) (defBody s_zigzag_of) (defScope s_zigzag_of) .none kV18 dc18 pm18 an18 cd18 ct18), sl18⟩) (c18 : PySem.W.codeIn K cd18 "zigzag_of" = true) (k18 : PySem.W.keepIn K (.ref f18) = true)
    {f19 : Addr} {od19 an19 : Option Addr} {sl19 : Array (Option Value)} {oc19 kV19 dc19 pm19 cd19 ct19 : Value}
    (a19 : PySem.W.nsIn K mainGlobals "zigzag" = some (some (.ref f19))) (l19 : K.lookup f19 = some ⟨oc19, od19, .func (PySem.W.fnOf "zigzag" "zigzag" (defArgs s_zigzag) (defBody s_zigzag) (defScope s_zigzag) .none kV19 dc19 pm19 an19 cd19 ct19), sl19⟩) (c19 : PySem.W.codeIn K cd19 "zigzag" = true) (k19 : PySem.W.keepIn K (.ref f19) = true)
    {f20 : Addr} {od20 an20 : Option Addr} {sl20 : Array (Option Value)} {oc20 kV20 dc20 pm20 cd20 ct20 : Value}
    (a20 : PySem.W.nsIn K mainGlobals "check_evening_of" = some (some (.ref f20))) (l20 : K.lookup f20 = some ⟨oc20, od20, .func (PySem.W.fnOf "check_evening_of" "check_evening_of" (defArgs s_check_evening_of) (defBody s_check_evening_of) (defScope s_check_evening_of) .none kV20 dc20 pm20 an20 cd20 ct20), sl20⟩) (c20 : PySem.W.codeIn K cd20 "check_evening_of" = true) (k20 : PySem.W.keepIn K (.ref f20) = true)
    {f21 : Addr} {od21 an21 : Option Addr} {sl21 : Array (Option Value)} {oc21 kV21 dc21 pm21 cd21 ct21 : Value}
    (a21 : PySem.W.nsIn K mainGlobals "check_person" = some (some (.ref f21))) (l21 : K.lookup f21 = some ⟨oc21, od21, .func (PySem.W.fnOf "check_person" "check_person" (defArgs s_check_person) (defBody s_check_person) (defScope s_check_person) .none kV21 dc21 pm21 an21 cd21 ct21), sl21⟩) (c21 : PySem.W.codeIn K cd21 "check_person" = true) (k21 : PySem.W.keepIn K (.ref f21) = true)
    {f22 : Addr} {od22 an22 : Option Addr} {sl22 : Array (Option Value)} {oc22 kV22 dc22 pm22 cd22 ct22 : Value}
    (a22 : PySem.W.nsIn K mainGlobals "zigzag_beside" = some (some (.ref f22))) (l22 : K.lookup f22 = some ⟨oc22, od22, .func (PySem.W.fnOf "zigzag_beside" "zigzag_beside" (defArgs s_zigzag_beside) (defBody s_zigzag_beside) (defScope s_zigzag_beside) .none kV22 dc22 pm22 an22 cd22 ct22), sl22⟩) (c22 : PySem.W.codeIn K cd22 "zigzag_beside" = true) (k22 : PySem.W.keepIn K (.ref f22) = true)
    {f23 : Addr} {od23 an23 : Option Addr} {sl23 : Array (Option Value)} {oc23 kV23 dc23 pm23 cd23 ct23 : Value}
    (a23 : PySem.W.nsIn K mainGlobals "zigzag_evening" = some (some (.ref f23))) (l23 : K.lookup f23 = some ⟨oc23, od23, .func (PySem.W.fnOf "zigzag_evening" "zigzag_evening" (defArgs s_zigzag_evening) (defBody s_zigzag_evening) (defScope s_zigzag_evening) .none kV23 dc23 pm23 an23 cd23 ct23), sl23⟩) (c23 : PySem.W.codeIn K cd23 "zigzag_evening" = true) (k23 : PySem.W.keepIn K (.ref f23) = true)
    {f24 : Addr} {od24 an24 : Option Addr} {sl24 : Array (Option Value)} {oc24 kV24 dc24 pm24 cd24 ct24 : Value}
    (a24 : PySem.W.nsIn K mainGlobals "zigzag_place" = some (some (.ref f24))) (l24 : K.lookup f24 = some ⟨oc24, od24, .func (PySem.W.fnOf "zigzag_place" "zigzag_place" (defArgs s_zigzag_place) (defBody s_zigzag_place) (defScope s_zigzag_place) .none kV24 dc24 pm24 an24 cd24 ct24), sl24⟩) (c24 : PySem.W.codeIn K cd24 "zigzag_place" = true) (k24 : PySem.W.keepIn K (.ref f24) = true)
    {f25 : Addr} {od25 an25 : Option Addr} {sl25 : Array (Option Value)} {oc25 kV25 dc25 pm25 cd25 ct25 : Value}
    (a25 : PySem.W.nsIn K mainGlobals "zigzag_person" = some (some (.ref f25))) (l25 : K.lookup f25 = some ⟨oc25, od25, .func (PySem.W.fnOf "zigzag_person" "zigzag_person" (defArgs s_zigzag_person) (defBody s_zigzag_person) (defScope s_zigzag_person) .none kV25 dc25 pm25 an25 cd25 ct25), sl25⟩) (c25 : PySem.W.codeIn K cd25 "zigzag_person" = true) (k25 : PySem.W.keepIn K (.ref f25) = true)
    {f26 : Addr} {od26 an26 : Option Addr} {sl26 : Array (Option Value)} {oc26 kV26 dc26 pm26 cd26 ct26 : Value}
    (a26 : PySem.W.nsIn K mainGlobals "_law_spring" = some (some (.ref f26))) (l26 : K.lookup f26 = some ⟨oc26, od26, .func (PySem.W.fnOf "_law_spring" "_law_spring" (defArgs s__law_spring) (defBody s__law_spring) (defScope s__law_spring) .none kV26 dc26 pm26 an26 cd26 ct26), sl26⟩) (c26 : PySem.W.codeIn K cd26 "_law_spring" = true) (k26 : PySem.W.keepIn K (.ref f26) = true)
    {f27 : Addr} {od27 an27 : Option Addr} {sl27 : Array (Option Value)} {oc27 kV27 dc27 pm27 cd27 ct27 : Value}
    (a27 : PySem.W.nsIn K mainGlobals "_law_draw" = some (some (.ref f27))) (l27 : K.lookup f27 = some ⟨oc27, od27, .func (PySem.W.fnOf "_law_draw" "_law_draw" (defArgs s__law_draw) (defBody s__law_draw) (defScope s__law_draw) .none kV27 dc27 pm27 an27 cd27 ct27), sl27⟩) (c27 : PySem.W.codeIn K cd27 "_law_draw" = true) (k27 : PySem.W.keepIn K (.ref f27) = true)
    {f28 : Addr} {od28 an28 : Option Addr} {sl28 : Array (Option Value)} {oc28 kV28 dc28 pm28 cd28 ct28 : Value}
    (a28 : PySem.W.nsIn K mainGlobals "_law_of" = some (some (.ref f28))) (l28 : K.lookup f28 = some ⟨oc28, od28, .func (PySem.W.fnOf "_law_of" "_law_of" (defArgs s__law_of) (defBody s__law_of) (defScope s__law_of) .none kV28 dc28 pm28 an28 cd28 ct28), sl28⟩) (c28 : PySem.W.codeIn K cd28 "_law_of" = true) (k28 : PySem.W.keepIn K (.ref f28) = true)
    {f29 : Addr} {od29 an29 : Option Addr} {sl29 : Array (Option Value)} {oc29 kV29 dc29 pm29 cd29 ct29 : Value}
    (a29 : PySem.W.nsIn K mainGlobals "_law_is_whole" = some (some (.ref f29))) (l29 : K.lookup f29 = some ⟨oc29, od29, .func (PySem.W.fnOf "_law_is_whole" "_law_is_whole" (defArgs s__law_is_whole) (defBody s__law_is_whole) (defScope s__law_is_whole) .none kV29 dc29 pm29 an29 cd29 ct29), sl29⟩) (c29 : PySem.W.codeIn K cd29 "_law_is_whole" = true) (k29 : PySem.W.keepIn K (.ref f29) = true)
    {f30 : Addr} {od30 an30 : Option Addr} {sl30 : Array (Option Value)} {oc30 kV30 dc30 pm30 cd30 ct30 : Value}
    (a30 : PySem.W.nsIn K mainGlobals "_law_error" = some (some (.ref f30))) (l30 : K.lookup f30 = some ⟨oc30, od30, .func (PySem.W.fnOf "_law_error" "_law_error" (defArgs s__law_error) (defBody s__law_error) (defScope s__law_error) .none kV30 dc30 pm30 an30 cd30 ct30), sl30⟩) (c30 : PySem.W.codeIn K cd30 "_law_error" = true) (k30 : PySem.W.keepIn K (.ref f30) = true)
    {f31 : Addr} {od31 an31 : Option Addr} {sl31 : Array (Option Value)} {oc31 kV31 dc31 pm31 cd31 ct31 : Value}
    (a31 : PySem.W.nsIn K mainGlobals "_law_field" = some (some (.ref f31))) (l31 : K.lookup f31 = some ⟨oc31, od31, .func (PySem.W.fnOf "_law_field" "_law_field" (defArgs s__law_field) (defBody s__law_field) (defScope s__law_field) .none kV31 dc31 pm31 an31 cd31 ct31), sl31⟩) (c31 : PySem.W.codeIn K cd31 "_law_field" = true) (k31 : PySem.W.keepIn K (.ref f31) = true)
    {f32 : Addr} {od32 an32 : Option Addr} {sl32 : Array (Option Value)} {oc32 kV32 dc32 pm32 cd32 ct32 : Value}
    (a32 : PySem.W.nsIn K mainGlobals "_law_told" = some (some (.ref f32))) (l32 : K.lookup f32 = some ⟨oc32, od32, .func (PySem.W.fnOf "_law_told" "_law_told" (defArgs s__law_told) (defBody s__law_told) (defScope s__law_told) .none kV32 dc32 pm32 an32 cd32 ct32), sl32⟩) (c32 : PySem.W.codeIn K cd32 "_law_told" = true) (k32 : PySem.W.keepIn K (.ref f32) = true)
    {f33 : Addr} {od33 an33 : Option Addr} {sl33 : Array (Option Value)} {oc33 kV33 dc33 pm33 cd33 ct33 : Value}
    (a33 : PySem.W.nsIn K mainGlobals "_law_nights" = some (some (.ref f33))) (l33 : K.lookup f33 = some ⟨oc33, od33, .func (PySem.W.fnOf "_law_nights" "_law_nights" (defArgs s__law_nights) (defBody s__law_nights) (defScope s__law_nights) .none kV33 dc33 pm33 an33 cd33 ct33), sl33⟩) (c33 : PySem.W.codeIn K cd33 "_law_nights" = true) (k33 : PySem.W.keepIn K (.ref f33) = true)
    {f34 : Addr} {od34 an34 : Option Addr} {sl34 : Array (Option Value)} {oc34 kV34 dc34 pm34 cd34 ct34 : Value}
    (a34 : PySem.W.nsIn K mainGlobals "_law_pairs" = some (some (.ref f34))) (l34 : K.lookup f34 = some ⟨oc34, od34, .func (PySem.W.fnOf "_law_pairs" "_law_pairs" (defArgs s__law_pairs) (defBody s__law_pairs) (defScope s__law_pairs) .none kV34 dc34 pm34 an34 cd34 ct34), sl34⟩) (c34 : PySem.W.codeIn K cd34 "_law_pairs" = true) (k34 : PySem.W.keepIn K (.ref f34) = true)
    {f35 : Addr} {od35 an35 : Option Addr} {sl35 : Array (Option Value)} {oc35 kV35 dc35 pm35 cd35 ct35 : Value}
    (a35 : PySem.W.nsIn K mainGlobals "_law_zigzag" = some (some (.ref f35))) (l35 : K.lookup f35 = some ⟨oc35, od35, .func (PySem.W.fnOf "_law_zigzag" "_law_zigzag" (defArgs s__law_zigzag) (defBody s__law_zigzag) (defScope s__law_zigzag) .none kV35 dc35 pm35 an35 cd35 ct35), sl35⟩) (c35 : PySem.W.codeIn K cd35 "_law_zigzag" = true) (k35 : PySem.W.keepIn K (.ref f35) = true)
    {f36 : Addr} {od36 an36 : Option Addr} {sl36 : Array (Option Value)} {oc36 kV36 dc36 pm36 cd36 ct36 : Value}
    (a36 : PySem.W.nsIn K mainGlobals "_law_neighbours" = some (some (.ref f36))) (l36 : K.lookup f36 = some ⟨oc36, od36, .func (PySem.W.fnOf "_law_neighbours" "_law_neighbours" (defArgs s__law_neighbours) (defBody s__law_neighbours) (defScope s__law_neighbours) .none kV36 dc36 pm36 an36 cd36 ct36), sl36⟩) (c36 : PySem.W.codeIn K cd36 "_law_neighbours" = true) (k36 : PySem.W.keepIn K (.ref f36) = true)
    {f37 : Addr} {od37 an37 : Option Addr} {sl37 : Array (Option Value)} {oc37 kV37 dc37 pm37 cd37 ct37 : Value}
    (a37 : PySem.W.nsIn K mainGlobals "_law_is_party" = some (some (.ref f37))) (l37 : K.lookup f37 = some ⟨oc37, od37, .func (PySem.W.fnOf "_law_is_party" "_law_is_party" (defArgs s__law_is_party) (defBody s__law_is_party) (defScope s__law_is_party) .none kV37 dc37 pm37 an37 cd37 ct37), sl37⟩) (c37 : PySem.W.codeIn K cd37 "_law_is_party" = true) (k37 : PySem.W.keepIn K (.ref f37) = true)
    {f38 : Addr} {od38 an38 : Option Addr} {sl38 : Array (Option Value)} {oc38 kV38 dc38 pm38 cd38 ct38 : Value}
    (a38 : PySem.W.nsIn K mainGlobals "_law_evening_right" = some (some (.ref f38))) (l38 : K.lookup f38 = some ⟨oc38, od38, .func (PySem.W.fnOf "_law_evening_right" "_law_evening_right" (defArgs s__law_evening_right) (defBody s__law_evening_right) (defScope s__law_evening_right) .none kV38 dc38 pm38 an38 cd38 ct38), sl38⟩) (c38 : PySem.W.codeIn K cd38 "_law_evening_right" = true) (k38 : PySem.W.keepIn K (.ref f38) = true)
    {f39 : Addr} {od39 an39 : Option Addr} {sl39 : Array (Option Value)} {oc39 kV39 dc39 pm39 ct39 : Value} {co39 ta39 : Addr} {ce39 : Value} {cf39 : Option Addr} {cv39 : Array Value} {cg39 : Array (Option Value)}
    (a39 : PySem.W.nsIn K mainGlobals "_law_right" = some (some (.ref f39))) (l39 : K.lookup f39 = some ⟨oc39, od39, .func (PySem.W.fnOf "_law_right" "_law_right" (defArgs s__law_right) (defBody s__law_right) (defScope s__law_right) .none kV39 dc39 pm39 an39 (.ref co39) ct39), sl39⟩) (c39 : PySem.W.codeIn K (.ref co39) "_law_right" = true) (k39 : PySem.W.keepIn K (.ref f39) = true)
    (u39 : K.lookup co39 = some ⟨ce39, cf39, .fields cv39, cg39⟩) (v39 : cv39[11]? = some (.ref ta39)) (x39 : K.lookup ta39 = none)
    {f40 : Addr} {od40 an40 : Option Addr} {sl40 : Array (Option Value)} {oc40 kV40 dc40 pm40 cd40 ct40 : Value}
    (a40 : PySem.W.nsIn K mainGlobals "law" = some (some (.ref f40))) (l40 : K.lookup f40 = some ⟨oc40, od40, .func (PySem.W.fnOf "law" "law" (defArgs s_law) (defBody s_law) (defScope s_law) .none kV40 dc40 pm40 an40 cd40 ct40), sl40⟩) (c40 : PySem.W.codeIn K cd40 "law" = true) (k40 : PySem.W.keepIn K (.ref f40) = true)
    (zS : PySem.W.nsIn K mainGlobals "super" = some none)
    {C41 : Addr} (a41 : PySem.W.nsIn K mainGlobals "WrongValue" = some (some (.ref C41))) (b41 : (exKB K C41 && PySem.W.excIn K C41 [.type "ValueError", .type "Exception", .type "BaseException", .type "object"] "ValueError.__new__") = true)
    {C42 fI42 da42 cc42 : Addr} {oc42 kV42 dc42 pm42 ct42 : Value} {od42 an42 : Option Addr} {sl42 : Array (Option Value)} {qu42 : Str} {p0_42 p1_42 a0_42 a1_42 a2_42 a3_42 a4_42 b0_42 b1_42 b2_42 b3_42 : Pos} (a42 : PySem.W.nsIn K mainGlobals "InvalidText" = some (some (.ref C42))) (i42 : PySem.W.findIn K (.ref C42) "__init__" = some (some (.ref fI42))) (l42 : K.lookup fI42 = some ⟨oc42, od42, .func (PySem.W.ksFn "__init__" qu42 (exA1 "given" p0_42 p1_42) [superSt a0_42 a1_42 a2_42 a3_42 a4_42, setSt "given" b0_42 b1_42 b2_42 b3_42] (exSc (exN1 "given")) .none kV42 dc42 pm42 an42 (.ref da42) ct42 cc42), sl42⟩) (s42 : SupOk a0_42 a1_42 a2_42 a3_42) (b42 : exB l.prog K "ValueError" "ValueError.__new__" "ValueError.__init__" [.type "ValueError", .type "Exception", .type "BaseException", .type "object"] C42 fI42 da42 cc42 qu42 ["given"] = true)
    {C43 fI43 da43 cc43 : Addr} {oc43 kV43 dc43 pm43 ct43 : Value} {od43 an43 : Option Addr} {sl43 : Array (Option Value)} {qu43 : Str} {p0_43 p1_43 a0_43 a1_43 a2_43 a3_43 a4_43 b0_43 b1_43 b2_43 b3_43 : Pos} (a43 : PySem.W.nsIn K mainGlobals "InvalidNumber" = some (some (.ref C43))) (i43 : PySem.W.findIn K (.ref C43) "__init__" = some (some (.ref fI43))) (l43 : K.lookup fI43 = some ⟨oc43, od43, .func (PySem.W.ksFn "__init__" qu43 (exA1 "given" p0_43 p1_43) [superSt a0_43 a1_43 a2_43 a3_43 a4_43, setSt "given" b0_43 b1_43 b2_43 b3_43] (exSc (exN1 "given")) .none kV43 dc43 pm43 an43 (.ref da43) ct43 cc43), sl43⟩) (s43 : SupOk a0_43 a1_43 a2_43 a3_43) (b43 : exB l.prog K "ValueError" "ValueError.__new__" "ValueError.__init__" [.type "ValueError", .type "Exception", .type "BaseException", .type "object"] C43 fI43 da43 cc43 qu43 ["given"] = true)
    {C44 fI44 da44 cc44 : Addr} {oc44 kV44 dc44 pm44 ct44 : Value} {od44 an44 : Option Addr} {sl44 : Array (Option Value)} {qu44 : Str} {p0_44 p1_44 a0_44 a1_44 a2_44 a3_44 a4_44 b0_44 b1_44 b2_44 b3_44 : Pos} (a44 : PySem.W.nsIn K mainGlobals "InvalidKind" = some (some (.ref C44))) (i44 : PySem.W.findIn K (.ref C44) "__init__" = some (some (.ref fI44))) (l44 : K.lookup fI44 = some ⟨oc44, od44, .func (PySem.W.ksFn "__init__" qu44 (exA1 "given" p0_44 p1_44) [superSt a0_44 a1_44 a2_44 a3_44 a4_44, setSt "given" b0_44 b1_44 b2_44 b3_44] (exSc (exN1 "given")) .none kV44 dc44 pm44 an44 (.ref da44) ct44 cc44), sl44⟩) (s44 : SupOk a0_44 a1_44 a2_44 a3_44) (b44 : exB l.prog K "ValueError" "ValueError.__new__" "ValueError.__init__" [.type "ValueError", .type "Exception", .type "BaseException", .type "object"] C44 fI44 da44 cc44 qu44 ["given"] = true)
    {C45 fI45 da45 cc45 : Addr} {oc45 kV45 dc45 pm45 ct45 : Value} {od45 an45 : Option Addr} {sl45 : Array (Option Value)} {qu45 : Str} {p0_45 p1_45 a0_45 a1_45 a2_45 a3_45 a4_45 b0_45 b1_45 b2_45 b3_45 : Pos} (a45 : PySem.W.nsIn K mainGlobals "InvalidParty" = some (some (.ref C45))) (i45 : PySem.W.findIn K (.ref C45) "__init__" = some (some (.ref fI45))) (l45 : K.lookup fI45 = some ⟨oc45, od45, .func (PySem.W.ksFn "__init__" qu45 (exA1 "given" p0_45 p1_45) [superSt a0_45 a1_45 a2_45 a3_45 a4_45, setSt "given" b0_45 b1_45 b2_45 b3_45] (exSc (exN1 "given")) .none kV45 dc45 pm45 an45 (.ref da45) ct45 cc45), sl45⟩) (s45 : SupOk a0_45 a1_45 a2_45 a3_45) (b45 : exB l.prog K "ValueError" "ValueError.__new__" "ValueError.__init__" [.type "ValueError", .type "Exception", .type "BaseException", .type "object"] C45 fI45 da45 cc45 qu45 ["given"] = true)
    {C46 fI46 da46 cc46 : Addr} {oc46 kV46 dc46 pm46 ct46 : Value} {od46 an46 : Option Addr} {sl46 : Array (Option Value)} {qu46 : Str} {p0_46 p1_46 a0_46 a1_46 a2_46 a3_46 a4_46 b0_46 b1_46 b2_46 b3_46 : Pos} (a46 : PySem.W.nsIn K mainGlobals "InvalidName" = some (some (.ref C46))) (i46 : PySem.W.findIn K (.ref C46) "__init__" = some (some (.ref fI46))) (l46 : K.lookup fI46 = some ⟨oc46, od46, .func (PySem.W.ksFn "__init__" qu46 (exA1 "given" p0_46 p1_46) [superSt a0_46 a1_46 a2_46 a3_46 a4_46, setSt "given" b0_46 b1_46 b2_46 b3_46] (exSc (exN1 "given")) .none kV46 dc46 pm46 an46 (.ref da46) ct46 cc46), sl46⟩) (s46 : SupOk a0_46 a1_46 a2_46 a3_46) (b46 : exB l.prog K "ValueError" "ValueError.__new__" "ValueError.__init__" [.type "ValueError", .type "Exception", .type "BaseException", .type "object"] C46 fI46 da46 cc46 qu46 ["given"] = true)
    {C47 fI47 da47 cc47 : Addr} {oc47 kV47 dc47 pm47 ct47 : Value} {od47 an47 : Option Addr} {sl47 : Array (Option Value)} {qu47 : Str} {p0_47 p1_47 a0_47 a1_47 a2_47 a3_47 a4_47 b0_47 b1_47 b2_47 b3_47 : Pos} (a47 : PySem.W.nsIn K mainGlobals "InvalidWish" = some (some (.ref C47))) (i47 : PySem.W.findIn K (.ref C47) "__init__" = some (some (.ref fI47))) (l47 : K.lookup fI47 = some ⟨oc47, od47, .func (PySem.W.ksFn "__init__" qu47 (exA1 "given" p0_47 p1_47) [superSt a0_47 a1_47 a2_47 a3_47 a4_47, setSt "given" b0_47 b1_47 b2_47 b3_47] (exSc (exN1 "given")) .none kV47 dc47 pm47 an47 (.ref da47) ct47 cc47), sl47⟩) (s47 : SupOk a0_47 a1_47 a2_47 a3_47) (b47 : exB l.prog K "ValueError" "ValueError.__new__" "ValueError.__init__" [.type "ValueError", .type "Exception", .type "BaseException", .type "object"] C47 fI47 da47 cc47 qu47 ["given"] = true)
    {C48 fI48 da48 cc48 : Addr} {oc48 kV48 dc48 pm48 ct48 : Value} {od48 an48 : Option Addr} {sl48 : Array (Option Value)} {qu48 : Str} {p0_48 p1_48 a0_48 a1_48 a2_48 a3_48 a4_48 b0_48 b1_48 b2_48 b3_48 : Pos} (a48 : PySem.W.nsIn K mainGlobals "NotABook" = some (some (.ref C48))) (i48 : PySem.W.findIn K (.ref C48) "__init__" = some (some (.ref fI48))) (l48 : K.lookup fI48 = some ⟨oc48, od48, .func (PySem.W.ksFn "__init__" qu48 (exA1 "given" p0_48 p1_48) [superSt a0_48 a1_48 a2_48 a3_48 a4_48, setSt "given" b0_48 b1_48 b2_48 b3_48] (exSc (exN1 "given")) .none kV48 dc48 pm48 an48 (.ref da48) ct48 cc48), sl48⟩) (s48 : SupOk a0_48 a1_48 a2_48 a3_48) (b48 : exB l.prog K "ValueError" "ValueError.__new__" "ValueError.__init__" [.type "ValueError", .type "Exception", .type "BaseException", .type "object"] C48 fI48 da48 cc48 qu48 ["given"] = true)
    {C49 fI49 da49 cc49 : Addr} {oc49 kV49 dc49 pm49 ct49 : Value} {od49 an49 : Option Addr} {sl49 : Array (Option Value)} {qu49 : Str} {p0_49 p1_49 a0_49 a1_49 a2_49 a3_49 a4_49 b0_49 b1_49 b2_49 b3_49 : Pos} (a49 : PySem.W.nsIn K mainGlobals "InvalidRows" = some (some (.ref C49))) (i49 : PySem.W.findIn K (.ref C49) "__init__" = some (some (.ref fI49))) (l49 : K.lookup fI49 = some ⟨oc49, od49, .func (PySem.W.ksFn "__init__" qu49 (exA1 "index" p0_49 p1_49) [superSt a0_49 a1_49 a2_49 a3_49 a4_49, setSt "index" b0_49 b1_49 b2_49 b3_49] (exSc (exN1 "index")) .none kV49 dc49 pm49 an49 (.ref da49) ct49 cc49), sl49⟩) (s49 : SupOk a0_49 a1_49 a2_49 a3_49) (b49 : exB l.prog K "ValueError" "ValueError.__new__" "ValueError.__init__" [.type "ValueError", .type "Exception", .type "BaseException", .type "object"] C49 fI49 da49 cc49 qu49 ["index"] = true)
    {C50 fI50 da50 cc50 : Addr} {oc50 kV50 dc50 pm50 ct50 : Value} {od50 an50 : Option Addr} {sl50 : Array (Option Value)} {qu50 : Str} {p0_50 p1_50 a0_50 a1_50 a2_50 a3_50 a4_50 b0_50 b1_50 b2_50 b3_50 : Pos} (a50 : PySem.W.nsIn K mainGlobals "InvalidSeats" = some (some (.ref C50))) (i50 : PySem.W.findIn K (.ref C50) "__init__" = some (some (.ref fI50))) (l50 : K.lookup fI50 = some ⟨oc50, od50, .func (PySem.W.ksFn "__init__" qu50 (exA1 "index" p0_50 p1_50) [superSt a0_50 a1_50 a2_50 a3_50 a4_50, setSt "index" b0_50 b1_50 b2_50 b3_50] (exSc (exN1 "index")) .none kV50 dc50 pm50 an50 (.ref da50) ct50 cc50), sl50⟩) (s50 : SupOk a0_50 a1_50 a2_50 a3_50) (b50 : exB l.prog K "ValueError" "ValueError.__new__" "ValueError.__init__" [.type "ValueError", .type "Exception", .type "BaseException", .type "object"] C50 fI50 da50 cc50 qu50 ["index"] = true)
    {C51 fI51 da51 cc51 : Addr} {oc51 kV51 dc51 pm51 ct51 : Value} {od51 an51 : Option Addr} {sl51 : Array (Option Value)} {qu51 : Str} {p0_51 p1_51 a0_51 a1_51 a2_51 a3_51 a4_51 b0_51 b1_51 b2_51 b3_51 : Pos} (a51 : PySem.W.nsIn K mainGlobals "InvalidExchanges" = some (some (.ref C51))) (i51 : PySem.W.findIn K (.ref C51) "__init__" = some (some (.ref fI51))) (l51 : K.lookup fI51 = some ⟨oc51, od51, .func (PySem.W.ksFn "__init__" qu51 (exA1 "index" p0_51 p1_51) [superSt a0_51 a1_51 a2_51 a3_51 a4_51, setSt "index" b0_51 b1_51 b2_51 b3_51] (exSc (exN1 "index")) .none kV51 dc51 pm51 an51 (.ref da51) ct51 cc51), sl51⟩) (s51 : SupOk a0_51 a1_51 a2_51 a3_51) (b51 : exB l.prog K "ValueError" "ValueError.__new__" "ValueError.__init__" [.type "ValueError", .type "Exception", .type "BaseException", .type "object"] C51 fI51 da51 cc51 qu51 ["index"] = true)
    {C52 fI52 da52 cc52 : Addr} {oc52 kV52 dc52 pm52 ct52 : Value} {od52 an52 : Option Addr} {sl52 : Array (Option Value)} {qu52 : Str} {p0_52 p1_52 a0_52 a1_52 a2_52 a3_52 a4_52 b0_52 b1_52 b2_52 b3_52 : Pos} (a52 : PySem.W.nsIn K mainGlobals "InvalidWishes" = some (some (.ref C52))) (i52 : PySem.W.findIn K (.ref C52) "__init__" = some (some (.ref fI52))) (l52 : K.lookup fI52 = some ⟨oc52, od52, .func (PySem.W.ksFn "__init__" qu52 (exA1 "index" p0_52 p1_52) [superSt a0_52 a1_52 a2_52 a3_52 a4_52, setSt "index" b0_52 b1_52 b2_52 b3_52] (exSc (exN1 "index")) .none kV52 dc52 pm52 an52 (.ref da52) ct52 cc52), sl52⟩) (s52 : SupOk a0_52 a1_52 a2_52 a3_52) (b52 : exB l.prog K "ValueError" "ValueError.__new__" "ValueError.__init__" [.type "ValueError", .type "Exception", .type "BaseException", .type "object"] C52 fI52 da52 cc52 qu52 ["index"] = true)
    {C53 : Addr} (a53 : PySem.W.nsIn K mainGlobals "WrongName" = some (some (.ref C53))) (b53 : (exKB K C53 && PySem.W.excIn K C53 [.type "LookupError", .type "Exception", .type "BaseException", .type "object"] "LookupError.__new__") = true)
    {C54 fI54 da54 cc54 : Addr} {oc54 kV54 dc54 pm54 ct54 : Value} {od54 an54 : Option Addr} {sl54 : Array (Option Value)} {qu54 : Str} {p0_54 p1_54 a0_54 a1_54 a2_54 a3_54 a4_54 b0_54 b1_54 b2_54 b3_54 : Pos} (a54 : PySem.W.nsIn K mainGlobals "UnknownName" = some (some (.ref C54))) (i54 : PySem.W.findIn K (.ref C54) "__init__" = some (some (.ref fI54))) (l54 : K.lookup fI54 = some ⟨oc54, od54, .func (PySem.W.ksFn "__init__" qu54 (exA1 "given" p0_54 p1_54) [superSt a0_54 a1_54 a2_54 a3_54 a4_54, setSt "given" b0_54 b1_54 b2_54 b3_54] (exSc (exN1 "given")) .none kV54 dc54 pm54 an54 (.ref da54) ct54 cc54), sl54⟩) (s54 : SupOk a0_54 a1_54 a2_54 a3_54) (b54 : exB l.prog K "LookupError" "LookupError.__new__" "LookupError.__init__" [.type "LookupError", .type "Exception", .type "BaseException", .type "object"] C54 fI54 da54 cc54 qu54 ["given"] = true)
    {C55 fI55 da55 cc55 : Addr} {oc55 kV55 dc55 pm55 ct55 : Value} {od55 an55 : Option Addr} {sl55 : Array (Option Value)} {qu55 : Str} {p0_55 p1_55 a0_55 a1_55 a2_55 a3_55 a4_55 b0_55 b1_55 b2_55 b3_55 : Pos} (a55 : PySem.W.nsIn K mainGlobals "InUse" = some (some (.ref C55))) (i55 : PySem.W.findIn K (.ref C55) "__init__" = some (some (.ref fI55))) (l55 : K.lookup fI55 = some ⟨oc55, od55, .func (PySem.W.ksFn "__init__" qu55 (exA1 "index" p0_55 p1_55) [superSt a0_55 a1_55 a2_55 a3_55 a4_55, setSt "index" b0_55 b1_55 b2_55 b3_55] (exSc (exN1 "index")) .none kV55 dc55 pm55 an55 (.ref da55) ct55 cc55), sl55⟩) (s55 : SupOk a0_55 a1_55 a2_55 a3_55) (b55 : exB l.prog K "LookupError" "LookupError.__new__" "LookupError.__init__" [.type "LookupError", .type "Exception", .type "BaseException", .type "object"] C55 fI55 da55 cc55 qu55 ["index"] = true)
    {C56 : Addr} (a56 : PySem.W.nsIn K mainGlobals "NoAnswer" = some (some (.ref C56))) (b56 : (exKB K C56 && PySem.W.excIn K C56 [.type "ArithmeticError", .type "Exception", .type "BaseException", .type "object"] "ArithmeticError.__new__") = true)
    {C57 fI57 da57 cc57 : Addr} {oc57 kV57 dc57 pm57 ct57 : Value} {od57 an57 : Option Addr} {sl57 : Array (Option Value)} {qu57 : Str} {p0_57 p1_57 a0_57 a1_57 a2_57 a3_57 a4_57 b0_57 b1_57 b2_57 b3_57 : Pos} (a57 : PySem.W.nsIn K mainGlobals "NotFull" = some (some (.ref C57))) (i57 : PySem.W.findIn K (.ref C57) "__init__" = some (some (.ref fI57))) (l57 : K.lookup fI57 = some ⟨oc57, od57, .func (PySem.W.ksFn "__init__" qu57 (exA1 "given" p0_57 p1_57) [superSt a0_57 a1_57 a2_57 a3_57 a4_57, setSt "given" b0_57 b1_57 b2_57 b3_57] (exSc (exN1 "given")) .none kV57 dc57 pm57 an57 (.ref da57) ct57 cc57), sl57⟩) (s57 : SupOk a0_57 a1_57 a2_57 a3_57) (b57 : exB l.prog K "ArithmeticError" "ArithmeticError.__new__" "ArithmeticError.__init__" [.type "ArithmeticError", .type "Exception", .type "BaseException", .type "object"] C57 fI57 da57 cc57 qu57 ["given"] = true)
    {C58 fI58 da58 cc58 : Addr} {oc58 kV58 dc58 pm58 ct58 : Value} {od58 an58 : Option Addr} {sl58 : Array (Option Value)} {qu58 : Str} {p0_58 p1_58 a0_58 a1_58 a2_58 a3_58 a4_58 b0_58 b1_58 b2_58 b3_58 : Pos} (a58 : PySem.W.nsIn K mainGlobals "TooMany" = some (some (.ref C58))) (i58 : PySem.W.findIn K (.ref C58) "__init__" = some (some (.ref fI58))) (l58 : K.lookup fI58 = some ⟨oc58, od58, .func (PySem.W.ksFn "__init__" qu58 (exA1 "given" p0_58 p1_58) [superSt a0_58 a1_58 a2_58 a3_58 a4_58, setSt "given" b0_58 b1_58 b2_58 b3_58] (exSc (exN1 "given")) .none kV58 dc58 pm58 an58 (.ref da58) ct58 cc58), sl58⟩) (s58 : SupOk a0_58 a1_58 a2_58 a3_58) (b58 : exB l.prog K "ArithmeticError" "ArithmeticError.__new__" "ArithmeticError.__init__" [.type "ArithmeticError", .type "Exception", .type "BaseException", .type "object"] C58 fI58 da58 cc58 qu58 ["given"] = true)
    {C59 fI59 da59 cc59 : Addr} {oc59 kV59 dc59 pm59 ct59 : Value} {od59 an59 : Option Addr} {sl59 : Array (Option Value)} {qu59 : Str} {p0_59 p1_59 a0_59 a1_59 a2_59 a3_59 a4_59 b0_59 b1_59 b2_59 b3_59 : Pos} (a59 : PySem.W.nsIn K mainGlobals "NoRoom" = some (some (.ref C59))) (i59 : PySem.W.findIn K (.ref C59) "__init__" = some (some (.ref fI59))) (l59 : K.lookup fI59 = some ⟨oc59, od59, .func (PySem.W.ksFn "__init__" qu59 (exA1 "shown" p0_59 p1_59) [superSt a0_59 a1_59 a2_59 a3_59 a4_59, setSt "shown" b0_59 b1_59 b2_59 b3_59] (exSc (exN1 "shown")) .none kV59 dc59 pm59 an59 (.ref da59) ct59 cc59), sl59⟩) (s59 : SupOk a0_59 a1_59 a2_59 a3_59) (b59 : exB l.prog K "ArithmeticError" "ArithmeticError.__new__" "ArithmeticError.__init__" [.type "ArithmeticError", .type "Exception", .type "BaseException", .type "object"] C59 fI59 da59 cc59 qu59 ["shown"] = true)
    {C60 fI60 da60 cc60 : Addr} {oc60 kV60 dc60 pm60 ct60 : Value} {od60 an60 : Option Addr} {sl60 : Array (Option Value)} {qu60 : Str} {p0_60 p1_60 p2_60 a0_60 a1_60 a2_60 a3_60 a4_60 b0_60 b1_60 b2_60 b3_60 c0_60 c1_60 c2_60 c3_60 : Pos} (a60 : PySem.W.nsIn K mainGlobals "Broken" = some (some (.ref C60))) (i60 : PySem.W.findIn K (.ref C60) "__init__" = some (some (.ref fI60))) (l60 : K.lookup fI60 = some ⟨oc60, od60, .func (PySem.W.ksFn "__init__" qu60 (exA2 "index" "shown" p0_60 p1_60 p2_60) [superSt a0_60 a1_60 a2_60 a3_60 a4_60, setSt "index" b0_60 b1_60 b2_60 b3_60, setSt "shown" c0_60 c1_60 c2_60 c3_60] (exSc (exN2 "index" "shown")) .none kV60 dc60 pm60 an60 (.ref da60) ct60 cc60), sl60⟩) (s60 : SupOk a0_60 a1_60 a2_60 a3_60) (b60 : exB l.prog K "ArithmeticError" "ArithmeticError.__new__" "ArithmeticError.__init__" [.type "ArithmeticError", .type "Exception", .type "BaseException", .type "object"] C60 fI60 da60 cc60 qu60 ["index", "shown"] = true)
    {C61 : Addr} (a61 : PySem.W.nsIn K mainGlobals "NothingToUndo" = some (some (.ref C61))) (b61 : (exKB K C61 && PySem.W.excIn K C61 [.type "ArithmeticError", .type "Exception", .type "BaseException", .type "object"] "ArithmeticError.__new__") = true)
    (tE : kitTab K [.ref C42, .ref C43, .ref C44, .ref C45, .ref C46, .ref C47, .ref C48, .ref C49, .ref C50, .ref C51, .ref C52, .ref C54, .ref C55, .ref C57, .ref C58, .ref C59, .ref C60, .ref C61, .ref C41, .ref C53, .ref C56] [.ref C42, .ref C43, .ref C44, .ref C45, .ref C46, .ref C47, .ref C48, .ref C49, .ref C50, .ref C51, .ref C52, .ref C54, .ref C55, .ref C57, .ref C58, .ref C59, .ref C60, .ref C61, .ref C41, .ref C53, .ref C56, .type "ValueError", .type "LookupError", .type "ArithmeticError"] = [[some true, some false, some false, some false, some false, some false, some false, some false, some false, some false, some false, some false, some false, some false, some false, some false, some false, some false, some true, some false, some false, some true, some false, some false], [some false, some true, some false, some false, some false, some false, some false, some false, some false, some false, some false, some false, some false, some false, some false, some false, some false, some false, some true, some false, some false, some true, some false, some false], [some false, some false, some true, some false, some false, some false, some false, some false, some false, some false, some false, some false, some false, some false, some false, some false, some false, some false, some true, some false, some false, some true, some false, some false], [some false, some false, some false, some true, some false, some false, some false, some false, some false, some false, some false, some false, some false, some false, some false, some false, some false, some false, some true, some false, some false, some true, some false, some false], [some false, some false, some false, some false, some true, some false, some false, some false, some false, some false, some false, some false, some false, some false, some false, some false, some false, some false, some true, some false, some false, some true, some false, some false], [some false, some false, some false, some false, some false, some true, some false, some false, some false, some false, some false, some false, some false, some false, some false, some false, some false, some false, some true, some false, some false, some true, some false, some false], [some false, some false, some false, some false, some false, some false, some true, some false, some false, some false, some false, some false, some false, some false, some false, some false, some false, some false, some true, some false, some false, some true, some false, some false], [some false, some false, some false, some false, some false, some false, some false, some true, some false, some false, some false, some false, some false, some false, some false, some false, some false, some false, some true, some false, some false, some true, some false, some false], [some false, some false, some false, some false, some false, some false, some false, some false, some true, some false, some false, some false, some false, some false, some false, some false, some false, some false, some true, some false, some false, some true, some false, some false], [some false, some false, some false, some false, some false, some false, some false, some false, some false, some true, some false, some false, some false, some false, some false, some false, some false, some false, some true, some false, some false, some true, some false, some false], [some false, some false, some false, some false, some false, some false, some false, some false, some false, some false, some true, some false, some false, some false, some false, some false, some false, some false, some true, some false, some false, some true, some false, some false], [some false, some false, some false, some false, some false, some false, some false, some false, some false, some false, some false, some true, some false, some false, some false, some false, some false, some false, some false, some true, some false, some false, some true, some false], [some false, some false, some false, some false, some false, some false, some false, some false, some false, some false, some false, some false, some true, some false, some false, some false, some false, some false, some false, some true, some false, some false, some true, some false], [some false, some false, some false, some false, some false, some false, some false, some false, some false, some false, some false, some false, some false, some true, some false, some false, some false, some false, some false, some false, some true, some false, some false, some true], [some false, some false, some false, some false, some false, some false, some false, some false, some false, some false, some false, some false, some false, some false, some true, some false, some false, some false, some false, some false, some true, some false, some false, some true], [some false, some false, some false, some false, some false, some false, some false, some false, some false, some false, some false, some false, some false, some false, some false, some true, some false, some false, some false, some false, some true, some false, some false, some true], [some false, some false, some false, some false, some false, some false, some false, some false, some false, some false, some false, some false, some false, some false, some false, some false, some true, some false, some false, some false, some true, some false, some false, some true], [some false, some false, some false, some false, some false, some false, some false, some false, some false, some false, some false, some false, some false, some false, some false, some false, some false, some true, some false, some false, some true, some false, some false, some true], [some false, some false, some false, some false, some false, some false, some false, some false, some false, some false, some false, some false, some false, some false, some false, some false, some false, some false, some true, some false, some false, some true, some false, some false], [some false, some false, some false, some false, some false, some false, some false, some false, some false, some false, some false, some false, some false, some false, some false, some false, some false, some false, some false, some true, some false, some false, some true, some false], [some false, some false, some false, some false, some false, some false, some false, some false, some false, some false, some false, some false, some false, some false, some false, some false, some false, some false, some false, some false, some true, some false, some false, some true]])
    (z62 : PySem.W.nsIn K mainGlobals "ArithmeticError" = some none)
    (z63 : PySem.W.nsIn K mainGlobals "LookupError" = some none)
    (z64 : PySem.W.nsIn K mainGlobals "ValueError" = some none)
    (z65 : PySem.W.nsIn K mainGlobals "abs" = some none)
    (z66 : PySem.W.nsIn K mainGlobals "all" = some none)
    (z67 : PySem.W.nsIn K mainGlobals "any" = some none)
    (z68 : PySem.W.nsIn K mainGlobals "bool" = some none)
    (z69 : PySem.W.nsIn K mainGlobals "divmod" = some none)
    (z70 : PySem.W.nsIn K mainGlobals "enumerate" = some none)
    (z71 : PySem.W.nsIn K mainGlobals "int" = some none)
    (z72 : PySem.W.nsIn K mainGlobals "isinstance" = some none)
    (z73 : PySem.W.nsIn K mainGlobals "len" = some none)
    (z74 : PySem.W.nsIn K mainGlobals "list" = some none)
    (z75 : PySem.W.nsIn K mainGlobals "max" = some none)
    (z76 : PySem.W.nsIn K mainGlobals "min" = some none)
    (z77 : PySem.W.nsIn K mainGlobals "range" = some none)
    (z78 : PySem.W.nsIn K mainGlobals "repr" = some none)
    (z79 : PySem.W.nsIn K mainGlobals "set" = some none)
    (z80 : PySem.W.nsIn K mainGlobals "sorted" = some none)
    (z81 : PySem.W.nsIn K mainGlobals "str" = some none)
    (z82 : PySem.W.nsIn K mainGlobals "tuple" = some none)
    {t83 : Tok} (g83 : PySem.W.nsIn K mainGlobals "MOST_ZIGZAG" = some (some (.int 1000000000000000000000000000000 t83)))
    {t84 : Tok} (g84 : PySem.W.nsIn K mainGlobals "RINGS" = some (some (.str "rings" t84)))
    {t85 : Tok} (g85 : PySem.W.nsIn K mainGlobals "ROWS" = some (some (.str "rows" t85)))
    {t86 : Tok} (g86 : PySem.W.nsIn K mainGlobals "MOST_TOLD" = some (some (.int 99 t86))) :
    K.lookup P0 = none ∧ ∃ fd : FuncData, (∀ (s : Shared) (v : Value), BindsTo s fd ⟨[v], []⟩ [("_law_cells", v)]) ∧ ∀ base : Heap, K.In base → base.Ns mainGlobals mg → LamX.TabB base mg c P0 → FnG l.prog w K mg base CX0 9 fa fd ["_law_cells"] (sp_law K P0) := by
  have e := hfa.symm.trans (PySem.W.mg_of X G a40)
  cases e
  obtain ⟨⟨f', o', fd', h1, h2, h3, h4⟩, h5⟩ := hy
  have e := h1.symm.trans (PySem.W.mg_of X G a39)
  cases e
  rw [X _ _ l39] at h2
  cases h2
  cases h3
  have e : Value.ref co39 = .ref c := h4
  cases e
  obtain ⟨⟨o2, vs2, g1, _, g3, g4⟩, g5⟩ := h5
  rw [X _ _ u39] at g1
  cases g1
  cases g3
  rw [v39] at g4
  cases g4
  refine ⟨x39, ?_⟩
  have zSup := PySem.W.mg_none_of X G zS
  have T : Env l.prog K mg c := ⟨⟨_, _, fun_mk (st := s_is_integer) l1 c1 k1, PySem.W.mg_of X G a1⟩,
    ⟨_, _, fun_mk (st := s_is_between) l2 c2 k2, PySem.W.mg_of X G a2⟩,
    ⟨_, _, fun_mk (st := s_is_size) l3 c3 k3, PySem.W.mg_of X G a3⟩,
    ⟨_, _, fun_mk (st := s_evenings_for) l4 c4 k4, PySem.W.mg_of X G a4⟩,
    ⟨_, _, fun_mk (st := s_check_kind) l5 c5 k5, PySem.W.mg_of X G a5⟩,
    ⟨_, _, fun_mk (st := s_is_everybody) l6 c6 k6, PySem.W.mg_of X G a6⟩,
    ⟨_, _, fun_mk (st := s_pairs_on) l7 c7 k7, PySem.W.mg_of X G a7⟩,
    ⟨_, _, fun_mk (st := s_wrong_of) l8 c8 k8, PySem.W.mg_of X G a8⟩,
    ⟨_, _, fun_mk (st := s_people_in) l9 c9 k9, PySem.W.mg_of X G a9⟩,
    ⟨_, _, fun_mk (st := s_is_party) l10 c10 k10, PySem.W.mg_of X G a10⟩,
    ⟨_, _, fun_mk (st := s_check_size) l11 c11 k11, PySem.W.mg_of X G a11⟩,
    ⟨_, _, fun_mk (st := s_round_size) l12 c12 k12, PySem.W.mg_of X G a12⟩,
    ⟨_, _, fun_mk (st := s_person_in) l13 c13 k13, PySem.W.mg_of X G a13⟩,
    ⟨_, _, fun_mk (st := s_index_in) l14 c14 k14, PySem.W.mg_of X G a14⟩,
    ⟨_, _, fun_mk (st := s_person_at) l15 c15 k15, PySem.W.mg_of X G a15⟩,
    ⟨_, _, fun_mk (st := s_index_of) l16 c16 k16, PySem.W.mg_of X G a16⟩,
    ⟨_, _, fun_mk (st := s_evening_of) l17 c17 k17, PySem.W.mg_of X G a17⟩,
    ⟨_, _, fun_mk (st := s_zigzag_of) l18 c18 k18, PySem.W.mg_of X G a18⟩,
    ⟨_, _, fun_mk (st := s_zigzag) l19 c19 k19, PySem.W.mg_of X G a19⟩,
    ⟨_, _, fun_mk (st := s_check_evening_of) l20 c20 k20, PySem.W.mg_of X G a20⟩,
    ⟨_, _, fun_mk (st := s_check_person) l21 c21 k21, PySem.W.mg_of X G a21⟩,
    ⟨_, _, fun_mk (st := s_zigzag_beside) l22 c22 k22, PySem.W.mg_of X G a22⟩,
    ⟨_, _, fun_mk (st := s_zigzag_evening) l23 c23 k23, PySem.W.mg_of X G a23⟩,
    ⟨_, _, fun_mk (st := s_zigzag_place) l24 c24 k24, PySem.W.mg_of X G a24⟩,
    ⟨_, _, fun_mk (st := s_zigzag_person) l25 c25 k25, PySem.W.mg_of X G a25⟩,
    ⟨_, _, fun_mk (st := s__law_spring) l26 c26 k26, PySem.W.mg_of X G a26⟩,
    ⟨_, _, fun_mk (st := s__law_draw) l27 c27 k27, PySem.W.mg_of X G a27⟩,
    ⟨_, _, fun_mk (st := s__law_of) l28 c28 k28, PySem.W.mg_of X G a28⟩,
    ⟨_, _, fun_mk (st := s__law_is_whole) l29 c29 k29, PySem.W.mg_of X G a29⟩,
    ⟨_, _, fun_mk (st := s__law_error) l30 c30 k30, PySem.W.mg_of X G a30⟩,
    ⟨_, _, fun_mk (st := s__law_field) l31 c31 k31, PySem.W.mg_of X G a31⟩,
    ⟨_, _, fun_mk (st := s__law_told) l32 c32 k32, PySem.W.mg_of X G a32⟩,
    ⟨_, _, fun_mk (st := s__law_nights) l33 c33 k33, PySem.W.mg_of X G a33⟩,
    ⟨_, _, fun_mk (st := s__law_pairs) l34 c34 k34, PySem.W.mg_of X G a34⟩,
    ⟨_, _, fun_mk (st := s__law_zigzag) l35 c35 k35, PySem.W.mg_of X G a35⟩,
    ⟨_, _, fun_mk (st := s__law_neighbours) l36 c36 k36, PySem.W.mg_of X G a36⟩,
    ⟨_, _, fun_mk (st := s__law_is_party) l37 c37 k37, PySem.W.mg_of X G a37⟩,
    ⟨_, _, fun_mk (st := s__law_evening_right) l38 c38 k38, PySem.W.mg_of X G a38⟩,
    ⟨_, _, fun_mk (st := s__law_right) l39 c39 k39, PySem.W.mg_of X G a39, rfl⟩,
    ⟨_, _, fun_mk (st := s_law) l40 c40 k40, PySem.W.mg_of X G a40⟩,
    ExM0.of X G baseVE a41 b41,
    ExM.of X G baseVE a42 zSup (.inl rfl) l42 s42 b42,
    ExM.of X G baseVE a43 zSup (.inl rfl) l43 s43 b43,
    ExM.of X G baseVE a44 zSup (.inl rfl) l44 s44 b44,
    ExM.of X G baseVE a45 zSup (.inl rfl) l45 s45 b45,
    ExM.of X G baseVE a46 zSup (.inl rfl) l46 s46 b46,
    ExM.of X G baseVE a47 zSup (.inl rfl) l47 s47 b47,
    ExM.of X G baseVE a48 zSup (.inl rfl) l48 s48 b48,
    ExM.of X G baseVE a49 zSup (.inr (.inl rfl)) l49 s49 b49,
    ExM.of X G baseVE a50 zSup (.inr (.inl rfl)) l50 s50 b50,
    ExM.of X G baseVE a51 zSup (.inr (.inl rfl)) l51 s51 b51,
    ExM.of X G baseVE a52 zSup (.inr (.inl rfl)) l52 s52 b52,
    ExM0.of X G baseLE a53 b53,
    ExM.of X G baseLE a54 zSup (.inl rfl) l54 s54 b54,
    ExM.of X G baseLE a55 zSup (.inr (.inl rfl)) l55 s55 b55,
    ExM0.of X G baseAE a56 b56,
    ExM.of X G baseAE a57 zSup (.inl rfl) l57 s57 b57,
    ExM.of X G baseAE a58 zSup (.inl rfl) l58 s58 b58,
    ExM.of X G baseAE a59 zSup (.inr (.inr rfl)) l59 s59 b59,
    ExM2.of X G baseAE a60 zSup l60 s60 b60,
    ExM0.of X G baseAE a61 b61,
    (by simp only [excD, excV, excN, errN, List.map_cons, List.map_nil, List.cons_append, List.nil_append, clsA_of (PySem.W.mg_of X G a42), clsA_of (PySem.W.mg_of X G a43), clsA_of (PySem.W.mg_of X G a44), clsA_of (PySem.W.mg_of X G a45), clsA_of (PySem.W.mg_of X G a46), clsA_of (PySem.W.mg_of X G a47), clsA_of (PySem.W.mg_of X G a48), clsA_of (PySem.W.mg_of X G a49), clsA_of (PySem.W.mg_of X G a50), clsA_of (PySem.W.mg_of X G a51), clsA_of (PySem.W.mg_of X G a52), clsA_of (PySem.W.mg_of X G a54), clsA_of (PySem.W.mg_of X G a55), clsA_of (PySem.W.mg_of X G a57), clsA_of (PySem.W.mg_of X G a58), clsA_of (PySem.W.mg_of X G a59), clsA_of (PySem.W.mg_of X G a60), clsA_of (PySem.W.mg_of X G a61), clsA_of (PySem.W.mg_of X G a41), clsA_of (PySem.W.mg_of X G a53), clsA_of (PySem.W.mg_of X G a56)]; exact tE),
    PySem.W.mg_none_of X G z62,
    PySem.W.mg_none_of X G z63,
    PySem.W.mg_none_of X G z64,
    PySem.W.mg_none_of X G z65,
    PySem.W.mg_none_of X G z66,
    PySem.W.mg_none_of X G z67,
    PySem.W.mg_none_of X G z68,
    PySem.W.mg_none_of X G z69,
    PySem.W.mg_none_of X G z70,
    PySem.W.mg_none_of X G z71,
    PySem.W.mg_none_of X G z72,
    PySem.W.mg_none_of X G z73,
    PySem.W.mg_none_of X G z74,
    PySem.W.mg_none_of X G z75,
    PySem.W.mg_none_of X G z76,
    PySem.W.mg_none_of X G z77,
    PySem.W.mg_none_of X G z78,
    PySem.W.mg_none_of X G z79,
    PySem.W.mg_none_of X G z80,
    PySem.W.mg_none_of X G z81,
    PySem.W.mg_none_of X G z82,
    ⟨_, PySem.W.mg_of X G g83⟩,
    ⟨_, PySem.W.mg_of X G g84⟩,
    ⟨_, PySem.W.mg_of X G g85⟩,
    ⟨_, PySem.W.mg_of X G g86⟩⟩
  refine ⟨PySem.W.fnOf "law" "law" (defArgs s_law) (defBody s_law) (defScope s_law) .none kV40 dc40 pm40 an40 cd40 ct40, fun s v => .of_eq rfl, fun base _ _ tb => ?_⟩
  obtain ⟨f, fd, F, hm, R⟩ := (ok_law (P := l.prog) (w := w) (base := base) T tb).ex
  have e := hfa.symm.trans hm
  cases e
  obtain ⟨_, _, _, _, _, _, _, _, _, e1, e2, _⟩ := F.ex
  rw [l40] at e2
  cases e2
  exact R
end K68
open PySem PySem.W PyProof.Rows
set_option maxRecDepth 100000 in
set_option maxHeartbeats 0 in
theorem PySem.Challenge.cw_extendrounds_k68_whole_zigzags_step_by_s_holds : PySem.Challenge.rw_extendrounds_k68_whole_zigzags_step_by_s.Holds := by
  w_on; o_law
  refine HandSHeadRun.head_any (r := OpenLaw.row PySem.Challenge.rw_extendrounds_k68_whole_zigzags_step_by_s) (q := view (OpenLaw.row PySem.Challenge.rw_extendrounds_k68_whole_zigzags_step_by_s).prog [68, 69]) (H := kHook HeadPre.pre.heap_39 HeadPre.ks HeadPre.ks_eq) (ob := HeadPre.ob) (M := 6622) (loose := HeadPre.names) (d := HandSHeadRun.topDef (OpenLaw.row PySem.Challenge.rw_extendrounds_k68_whole_zigzags_step_by_s).prog 69) (kwd := []) HeadPre.ob_eq
    (by kernel_rfl) (fun s => by kernel_rfl) HeadPre.run (by kernel_rfl) (by kernel_rfl) (by kernel_rfl) (by rfl) (by first | assumption | decide +kernel) (by decide +kernel) ⟨rfl, rfl, rfl, rfl, rfl, by decide +kernel⟩ ?hw ?hc
  case hw => w_witness2
  k_fill
  refine Z.walk_GT (l := PySem.Challenge.rw_extendrounds_k68_whole_zigzags_step_by_s) (n := 63) (k := 9) (x := "_law_cells") (y := "_law_right") (sp := K68.sp_law) rfl (by decide) (by kernel_rfl) ⟨rfl, by decide, by decide⟩ (by decide +kernel) (fun w h Y => PySem.W.kIn_of Y) ?F (fun _ _ a P0 ns hl hP hS => ⟨a, ns, rfl, hS, hl, fun p hp => by rw [List.mem_singleton.mp hp]; exact LamX.TabS.nil hP, fun _ => rfl⟩)
  case F =>
    intro w mg fa c P0 h KX G hmg hy
    have hmg : mg ("law" : PySem.Str) = some (.ref fa) := by
      have e : (HandSHeadRun.topDef (OpenLaw.row PySem.Challenge.rw_extendrounds_k68_whole_zigzags_step_by_s).prog 69).name = ("law" : PySem.Str) := by kernel_rfl
      rw [← e]
      exact hmg
    refine' K68.all_mk KX G hmg hy ?a1 ?l1 ?c1 ?k1 ?a2 ?l2 ?c2 ?k2 ?a3 ?l3 ?c3 ?k3 ?a4 ?l4 ?c4 ?k4 ?a5 ?l5 ?c5 ?k5 ?a6 ?l6 ?c6 ?k6 ?a7 ?l7 ?c7 ?k7 ?a8 ?l8 ?c8 ?k8 ?a9 ?l9 ?c9 ?k9 ?a10 ?l10 ?c10 ?k10 ?a11 ?l11 ?c11 ?k11 ?a12 ?l12 ?c12 ?k12 ?a13 ?l13 ?c13 ?k13 ?a14 ?l14 ?c14 ?k14 ?a15 ?l15 ?c15 ?k15 ?a16 ?l16 ?c16 ?k16 ?a17 ?l17 ?c17 ?k17 ?a18 ?l18 ?c18 ?k18 ?a19 ?l19 ?c19 ?k19 ?a20 ?l20 ?c20 ?k20 ?a21 ?l21 ?c21 ?k21 ?a22 ?l22 ?c22 ?k22 ?a23 ?l23 ?c23 ?k23 ?a24 ?l24 ?c24 ?k24 ?a25 ?l25 ?c25 ?k25 ?a26 ?l26 ?c26 ?k26 ?a27 ?l27 ?c27 ?k27 ?a28 ?l28 ?c28 ?k28 ?a29 ?l29 ?c29 ?k29 ?a30 ?l30 ?c30 ?k30 ?a31 ?l31 ?c31 ?k31 ?a32 ?l32 ?c32 ?k32 ?a33 ?l33 ?c33 ?k33 ?a34 ?l34 ?c34 ?k34 ?a35 ?l35 ?c35 ?k35 ?a36 ?l36 ?c36 ?k36 ?a37 ?l37 ?c37 ?k37 ?a38 ?l38 ?c38 ?k38 ?a39 ?l39 ?c39 ?k39 ?u39 ?v39 ?x39 ?a40 ?l40 ?c40 ?k40 ?zS ?a41 ?b41 ?a42 ?i42 ?l42 ?s42 ?b42 ?a43 ?i43 ?l43 ?s43 ?b43 ?a44 ?i44 ?l44 ?s44 ?b44 ?a45 ?i45 ?l45 ?s45 ?b45 ?a46 ?i46 ?l46 ?s46 ?b46 ?a47 ?i47 ?l47 ?s47 ?b47 ?a48 ?i48 ?l48 ?s48 ?b48 ?a49 ?i49 ?l49 ?s49 ?b49 ?a50 ?i50 ?l50 ?s50 ?b50 ?a51 ?i51 ?l51 ?s51 ?b51 ?a52 ?i52 ?l52 ?s52 ?b52 ?a53 ?b53 ?a54 ?i54 ?l54 ?s54 ?b54 ?a55 ?i55 ?l55 ?s55 ?b55 ?a56 ?b56 ?a57 ?i57 ?l57 ?s57 ?b57 ?a58 ?i58 ?l58 ?s58 ?b58 ?a59 ?i59 ?l59 ?s59 ?b59 ?a60 ?i60 ?l60 ?s60 ?b60 ?a61 ?b61 ?tE ?z62 ?z63 ?z64 ?z65 ?z66 ?z67 ?z68 ?z69 ?z70 ?z71 ?z72 ?z73 ?z74 ?z75 ?z76 ?z77 ?z78 ?z79 ?z80 ?z81 ?z82 ?g83 ?g84 ?g85 ?g86
    (case a1 => k_is)
    (case l1 => k_is)
    (case c1 => k_is)
    (case k1 => k_is)
    (case a2 => k_is)
    (case l2 => k_is)
    (case c2 => k_is)
    (case k2 => k_is)
    (case a3 => k_is)
    (case l3 => k_is)
    (case c3 => k_is)
    (case k3 => k_is)
    (case a4 => k_is)
    (case l4 => k_is)
    (case c4 => k_is)
    (case k4 => k_is)
    (case a5 => k_is)
    (case l5 => k_is)
    (case c5 => k_is)
    (case k5 => k_is)
    (case a6 => k_is)
    (case l6 => k_is)
    (case c6 => k_is)
    (case k6 => k_is)
    (case a7 => k_is)
    (case l7 => k_is)
    (case c7 => k_is)
    (case k7 => k_is)
    (case a8 => k_is)
    (case l8 => k_is)
    (case c8 => k_is)
    (case k8 => k_is)
    (case a9 => k_is)
    (case l9 => k_is)
    (case c9 => k_is)
    (case k9 => k_is)
    (case a10 => k_is)
    (case l10 => k_is)
    (case c10 => k_is)
    (case k10 => k_is)
    (case a11 => k_is)
    (case l11 => k_is)
    (case c11 => k_is)
    (case k11 => k_is)
    (case a12 => k_is)
    (case l12 => k_is)
    (case c12 => k_is)
    (case k12 => k_is)
    (case a13 => k_is)
    (case l13 => k_is)
    (case c13 => k_is)
    (case k13 => k_is)
    (case a14 => k_is)
    (case l14 => k_is)
    (case c14 => k_is)
    (case k14 => k_is)
    (case a15 => k_is)
    (case l15 => k_is)
    (case c15 => k_is)
    (case k15 => k_is)
    (case a16 => k_is)
    (case l16 => k_is)
    (case c16 => k_is)
    (case k16 => k_is)
    (case a17 => k_is)
    (case l17 => k_is)
    (case c17 => k_is)
    (case k17 => k_is)
    (case a18 => k_is)
    (case l18 => k_is)
    (case c18 => k_is)
    (case k18 => k_is)
    (case a19 => k_is)
    (case l19 => k_is)
    (case c19 => k_is)
    (case k19 => k_is)
    (case a20 => k_is)
    (case l20 => k_is)
    (case c20 => k_is)
    (case k20 => k_is)
    (case a21 => k_is)
    (case l21 => k_is)
    (case c21 => k_is)
    (case k21 => k_is)
    (case a22 => k_is)
    (case l22 => k_is)
    (case c22 => k_is)
    (case k22 => k_is)
    (case a23 => k_is)
    (case l23 => k_is)
    (case c23 => k_is)
    (case k23 => k_is)
    (case a24 => k_is)
    (case l24 => k_is)
    (case c24 => k_is)
    (case k24 => k_is)
    (case a25 => k_is)
    (case l25 => k_is)
    (case c25 => k_is)
    (case k25 => k_is)
    (case a26 => k_is)
    (case l26 => k_is)
    (case c26 => k_is)
    (case k26 => k_is)
    (case a27 => k_is)
    (case l27 => k_is)
    (case c27 => k_is)
    (case k27 => k_is)
    (case a28 => k_is)
    (case l28 => k_is)
    (case c28 => k_is)
    (case k28 => k_is)
    (case a29 => k_is)
    (case l29 => k_is)
    (case c29 => k_is)
    (case k29 => k_is)
    (case a30 => k_is)
    (case l30 => k_is)
    (case c30 => k_is)
    (case k30 => k_is)
    (case a31 => k_is)
    (case l31 => k_is)
    (case c31 => k_is)
    (case k31 => k_is)
    (case a32 => k_is)
    (case l32 => k_is)
    (case c32 => k_is)
    (case k32 => k_is)
    (case a33 => k_is)
    (case l33 => k_is)
    (case c33 => k_is)
    (case k33 => k_is)
    (case a34 => k_is)
    (case l34 => k_is)
    (case c34 => k_is)
    (case k34 => k_is)
    (case a35 => k_is)
    (case l35 => k_is)
    (case c35 => k_is)
    (case k35 => k_is)
    (case a36 => k_is)
    (case l36 => k_is)
    (case c36 => k_is)
    (case k36 => k_is)
    (case a37 => k_is)
    (case l37 => k_is)
    (case c37 => k_is)
    (case k37 => k_is)
    (case a38 => k_is)
    (case l38 => k_is)
    (case c38 => k_is)
    (case k38 => k_is)
    (case a39 => k_is)
    (case l39 => k_is)
    (case c39 => k_is)
    (case k39 => k_is)
    (case u39 => k_is)
    (case v39 => first | rfl | kernel_rfl)
    (case x39 => first | rfl | kernel_rfl)
    (case a40 => k_is)
    (case l40 => k_is)
    (case c40 => k_is)
    (case k40 => k_is)
    (case zS => k_is)
    (case a41 => k_is)
    (case b41 => kernel_rfl)
    (case a42 => k_is)
    (case i42 => k_is)
    (case l42 => k_is)
    (case s42 => exact fun env => ⟨_, rfl⟩)
    (case b42 => kernel_rfl)
    (case a43 => k_is)
    (case i43 => k_is)
    (case l43 => k_is)
    (case s43 => exact fun env => ⟨_, rfl⟩)
    (case b43 => kernel_rfl)
    (case a44 => k_is)
    (case i44 => k_is)
    (case l44 => k_is)
    (case s44 => exact fun env => ⟨_, rfl⟩)
    (case b44 => kernel_rfl)
    (case a45 => k_is)
    (case i45 => k_is)
    (case l45 => k_is)
    (case s45 => exact fun env => ⟨_, rfl⟩)
    (case b45 => kernel_rfl)
    (case a46 => k_is)
    (case i46 => k_is)
    (case l46 => k_is)
    (case s46 => exact fun env => ⟨_, rfl⟩)
    (case b46 => kernel_rfl)
    (case a47 => k_is)
    (case i47 => k_is)
    (case l47 => k_is)
    (case s47 => exact fun env => ⟨_, rfl⟩)
    (case b47 => kernel_rfl)
    (case a48 => k_is)
    (case i48 => k_is)
    (case l48 => k_is)
    (case s48 => exact fun env => ⟨_, rfl⟩)
    (case b48 => kernel_rfl)
    (case a49 => k_is)
    (case i49 => k_is)
    (case l49 => k_is)
    (case s49 => exact fun env => ⟨_, rfl⟩)
    (case b49 => kernel_rfl)
    (case a50 => k_is)
    (case i50 => k_is)
    (case l50 => k_is)
    (case s50 => exact fun env => ⟨_, rfl⟩)
    (case b50 => kernel_rfl)
    (case a51 => k_is)
    (case i51 => k_is)
    (case l51 => k_is)
    (case s51 => exact fun env => ⟨_, rfl⟩)
    (case b51 => kernel_rfl)
    (case a52 => k_is)
    (case i52 => k_is)
    (case l52 => k_is)
    (case s52 => exact fun env => ⟨_, rfl⟩)
    (case b52 => kernel_rfl)
    (case a53 => k_is)
    (case b53 => kernel_rfl)
    (case a54 => k_is)
    (case i54 => k_is)
    (case l54 => k_is)
    (case s54 => exact fun env => ⟨_, rfl⟩)
    (case b54 => kernel_rfl)
    (case a55 => k_is)
    (case i55 => k_is)
    (case l55 => k_is)
    (case s55 => exact fun env => ⟨_, rfl⟩)
    (case b55 => kernel_rfl)
    (case a56 => k_is)
    (case b56 => kernel_rfl)
    (case a57 => k_is)
    (case i57 => k_is)
    (case l57 => k_is)
    (case s57 => exact fun env => ⟨_, rfl⟩)
    (case b57 => kernel_rfl)
    (case a58 => k_is)
    (case i58 => k_is)
    (case l58 => k_is)
    (case s58 => exact fun env => ⟨_, rfl⟩)
    (case b58 => kernel_rfl)
    (case a59 => k_is)
    (case i59 => k_is)
    (case l59 => k_is)
    (case s59 => exact fun env => ⟨_, rfl⟩)
    (case b59 => kernel_rfl)
    (case a60 => k_is)
    (case i60 => k_is)
    (case l60 => k_is)
    (case s60 => exact fun env => ⟨_, rfl⟩)
    (case b60 => kernel_rfl)
    (case a61 => k_is)
    (case b61 => kernel_rfl)
    (case tE => kernel_rfl)
    (case z62 => k_is)
    (case z63 => k_is)
    (case z64 => k_is)
    (case z65 => k_is)
    (case z66 => k_is)
    (case z67 => k_is)
    (case z68 => k_is)
    (case z69 => k_is)
    (case z70 => k_is)
    (case z71 => k_is)
    (case z72 => k_is)
    (case z73 => k_is)
    (case z74 => k_is)
    (case z75 => k_is)
    (case z76 => k_is)
    (case z77 => k_is)
    (case z78 => k_is)
    (case z79 => k_is)
    (case z80 => k_is)
    (case z81 => k_is)
    (case z82 => k_is)
    (case g83 => k_is)
    (case g84 => k_is)
    (case g85 => k_is)
    (case g86 => k_is)
#print axioms PySem.Challenge.cw_extendrounds_k68_whole_zigzags_step_by_s_holds

