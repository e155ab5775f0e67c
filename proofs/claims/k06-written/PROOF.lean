import PyProof.Rows.All
import Wide.All
import OpenK.AllK
import Wide.FinOn
import HandS.ForMost
import HandS.ForExc
import HandS.IsInst
import HandS.SortRule
import HandS.Walk
import HandS.Style
import HandS.Flow
import HandS.Evl

import HandS.Exc
import HandS.ExcOwn
import HandS.ExcCtx
import HandS.HotCalls
import HandS.SuiteRaise
import HandS.ExcIs
import HandS.WordsExc
import HandS.StrMore
import HandS.Codes
import HandS.Comp
import HandS.Text
import KE.GoesComp
import KE.GoesMore
import KE.GoesRaise
import KE.KAsSuite
import KE.IntTextText
import PyProof.Rows.StrCut
import PySem.Challenge.RW_evenring_k06_written
set_option Elab.async false
set_option maxRecDepth 100000
set_option maxHeartbeats 4000000
/-! EvB: a ledger of what a def has made (At), and rules that run a reading forward, one a construct -/
namespace EB
open PySem L2

/-! ### the ledger -/
structure At (H0 : Hp) (L : List (Addr × HO)) (H : Hp) : Prop where
  ex : Same H0 H
  own : ∀ x ∈ L, H x.1 = some x.2
  new : ∀ x ∈ L, H0 x.1 = none
  nd : (L.map Prod.fst).Nodup
section
variable {H0 H H' : Hp} {L : List (Addr × HO)} {p q : Addr} {o o' u : HO} {K : PySem.W.Frag} {xs : List V}
theorem At.nil (H : Hp) : At H [] H := ⟨Same.refl H, (fun _ h => nomatch h), (fun _ h => nomatch h), List.nodup_nil⟩
theorem At.get (A : At H0 L H) (m : (p, o) ∈ L) : H p = some o := A.own _ m
theorem At.fresh (A : At H0 L H) (hp : H p = none) : H0 p = none := A.ex.free hp
theorem At.alloc (A : At H0 L H) (hp : H p = none) (o : HO) : At H0 ((p, o) :: L) (upd H p o) := by
  refine ⟨fun b x e => ?_, fun x hx => ?_, fun x hx => ?_, ?_⟩
  · rw [upd_ne (ne_of_none (A.ex b x e) hp)]
    exact A.ex b x e
  · rcases List.mem_cons.mp hx with rfl | hx
    · exact upd_same
    · rw [upd_ne (ne_of_none (A.own x hx) hp)]
      exact A.own x hx
  · rcases List.mem_cons.mp hx with rfl | hx
    · exact A.fresh hp
    · exact A.new x hx
  · refine List.nodup_cons.mpr ⟨fun h => ?_, A.nd⟩
    obtain ⟨x, hx, e⟩ := List.mem_map.mp h
    have := A.own x hx
    rw [e] at this
    rw [show (p, o).1 = p from rfl] at this
    rw [hp] at this
    cases this
theorem At.same (A : At H0 L H) (s : Same H H') : At H0 L H' := ⟨A.ex.trans s, fun x hx => s _ _ (A.own x hx), A.new, A.nd⟩
theorem At.made (A : At H0 L H) (s : Same H H') (hp : H p = none) (h : H' p = some o) : At H0 ((p, o) :: L) H' := by
  have B := A.alloc hp o
  refine ⟨A.ex.trans s, fun x hx => ?_, B.new, B.nd⟩
  rcases List.mem_cons.mp hx with rfl | hx
  · exact h
  · exact s _ _ (A.own x hx)
theorem At.tl {x : Addr × HO} (A : At H0 (x :: L) H) : At H0 L H :=
  ⟨A.ex, fun y hy => A.own y (List.mem_cons_of_mem _ hy), fun y hy => A.new y (List.mem_cons_of_mem _ hy), (List.nodup_cons.mp A.nd).2⟩
theorem At.perm {L' : List (Addr × HO)} (A : At H0 L H) (h : L'.Perm L) : At H0 L' H :=
  ⟨A.ex, fun y hy => A.own y (h.mem_iff.mp hy), fun y hy => A.new y (h.mem_iff.mp hy), ((h.map Prod.fst).nodup_iff).mpr A.nd⟩
theorem At.sub {L' : List (Addr × HO)} (A : At H0 L H) (h : L'.Sublist L) : At H0 L' H :=
  ⟨A.ex, fun y hy => A.own y (h.subset hy), fun y hy => A.new y (h.subset hy), A.nd.sublist (h.map Prod.fst)⟩
theorem At.put (A : At H0 ((p, o) :: L) H) (o' : HO) : At H0 ((p, o') :: L) (upd H p o') := by
  have hp : H0 p = none := A.new _ List.mem_cons_self
  have hn : ∀ x ∈ L, x.1 ≠ p := fun x hx e => (List.nodup_cons.mp A.nd).1 (by rw [← e]; exact List.mem_map.mpr ⟨x, hx, rfl⟩)
  refine ⟨fun b x e => ?_, fun x hx => ?_, fun x hx => ?_, A.nd⟩
  · rw [upd_ne (ne_of_none e hp)]
    exact A.ex b x e
  · rcases List.mem_cons.mp hx with rfl | hx
    · exact upd_same
    · rw [upd_ne (hn x hx)]
      exact A.own x (List.mem_cons_of_mem _ hx)
  · rcases List.mem_cons.mp hx with rfl | hx
    · exact hp
    · exact A.new x (List.mem_cons_of_mem _ hx)
/-- the second one changed -/
theorem At.swap {x y : Addr × HO} (A : At H0 (x :: y :: L) H) : At H0 (y :: x :: L) H := A.perm (List.Perm.swap ..)
theorem At.put2 {x : Addr × HO} (A : At H0 (x :: (p, o) :: L) H) (o' : HO) : At H0 (x :: (p, o') :: L) (upd H p o') := (A.swap.put o').swap
theorem At.put3 {x y : Addr × HO} (A : At H0 (x :: y :: (p, o) :: L) H) (o' : HO) : At H0 (x :: y :: (p, o') :: L) (upd H p o') := by
  have e : ∀ o : HO, ((p, o) :: x :: y :: L).Perm (x :: y :: (p, o) :: L) := fun o => (List.Perm.swap ..).trans (.cons _ (List.Perm.swap ..))
  exact (((A.perm (e o)).put o').perm (e o').symm)
theorem At.sq (A : At H0 L H) (h : SqL K H0 p xs) : SqL K H p xs := A.ex.seq h
theorem At.sqo (A : At H0 L H) (m : (p, HO.lst xs) ∈ L) : SqL K H p xs := SqL.of (A.get m)
theorem At.st (A : At H0 L H) (h : SqT K H0 p xs) : SqT K H p xs := by
  rcases h with (h | ⟨o, h⟩) | h
  · exact .inl (.inl (A.ex _ _ h))
  · exact .inl (.inr ⟨o, A.ex _ _ h⟩)
  · exact .inr h
theorem At.sto (A : At H0 L H) (m : (p, HO.tup xs) ∈ L) : SqT K H p xs := SqT.of (A.get m)
/-- the ledger becomes the ground -/
theorem At.base (A : At H0 L H) : At H [] H := At.nil H
end
theorem sz {n : Nat} (h : n ≤ 10000000) : n ≤ sizeLine := Nat.le_trans h (by rw [sizeLine_eq]; decide)
theorem sz' {n : Nat} (h : n < 10000000) : n < sizeLine := Nat.lt_of_lt_of_le h (by rw [sizeLine_eq]; decide)

/-! ### what a reading asks, under names -/
def isB (x : V) (Q : Bool → Hp → Prop) (H : Hp) : Prop := ∃ k, x = .bl k ∧ Q k H
def ifB (b : Bool) (A B : Prop) : Prop := if b = true then A else B
def mkL (xs : List V) (H : Hp) (Q : VK) : Prop := xs.length ≤ sizeLine ∧ ∀ p, H p = none → Q (.ref p) (upd H p (.lst xs))
def mkT (xs : List V) (H : Hp) (Q : VK) : Prop := xs.length ≤ sizeLine ∧ ∀ p, H p = none → Q (.ref p) (upd H p (.tup xs))
def fldK (K : PySem.W.Frag) (f : Str) (x : V) (H : Hp) (Q : VK) : Prop := ∃ a C dx fs v, x = .ref a ∧ H a = some (.ins C dx fs) ∧ Cls K C ∧ NoAttr K C f ∧ fs.lookup f = some v ∧ Q v H
def notNone (x : V) (Q : VK) (H : Hp) : Prop := x = .non ∧ Q x H
def rAbs : List V → Hp → VK → Prop := fun xs H Q => ∃ i, xs = [.int i] ∧ Q (.int (if i < 0 then -i else i)) H
def rMax2 : List V → Hp → VK → Prop := fun xs H Q => ∃ i j, xs = [.int i, .int j] ∧ Q (.int (if j > i then j else i)) H
def rMin2 : List V → Hp → VK → Prop := fun xs H Q => ∃ i j, xs = [.int i, .int j] ∧ Q (.int (if j < i then j else i)) H
def rLenQ (K : PySem.W.Frag) : List V → Hp → VK → Prop := fun xs H Q => ∃ p ys, xs = [.ref p] ∧ (SqL K H p ys ∨ SqT K H p ys) ∧ Q (.int ys.length) H
def rListQ (K : PySem.W.Frag) : List V → Hp → VK → Prop := fun xs H Q => ∃ p ys, xs = [.ref p] ∧ (SqL K H p ys ∨ SqT K H p ys) ∧ ∀ l, H l = none → Q (.ref l) (upd H l (.lst ys))
theorem cr_abs {X : Cx} : CallR X (.builtin "abs") rAbs := call_abs
theorem cr_max2 {X : Cx} (hc : X.calm = true) : CallR X (.builtin "max") rMax2 := call_max2 hc
theorem cr_min2 {X : Cx} (hc : X.calm = true) : CallR X (.builtin "min") rMin2 := call_min2 hc
theorem cr_len {X : Cx} : CallR X (.builtin "len") (rLenQ X.K) := call_len_seq
theorem cr_list {X : Cx} : CallR X (.type "list") (rListQ X.K) := call_list_of


/-! ### the layer's rules with the written part named -/
section
variable {X : Cx} {K : PySem.W.Frag}
theorem kLen (h : X.K = K := by rfl) : CallR X (.builtin "len") (rLenQ K) := by subst h; exact cr_len
theorem kList (h : X.K = K := by rfl) : CallR X (.type "list") (rListQ K) := by subst h; exact cr_list
theorem kAll (hc : X.calm = true := by rfl) (h : X.K = K := by rfl) : CallR X (.builtin "all") (rAll K) := by subst h; exact cr_all hc
theorem kAny (hc : X.calm = true := by rfl) (h : X.K = K := by rfl) : CallR X (.builtin "any") (rAny K) := by subst h; exact cr_any hc
theorem kSum (hc : X.calm = true := by rfl) (h : X.K = K := by rfl) : CallR X (.builtin "sum") (rSum K) := by subst h; exact cr_sum hc
theorem kMax (hc : X.calm = true := by rfl) (h : X.K = K := by rfl) : CallR X (.builtin "max") (rMax K) := by subst h; exact cr_max hc
theorem kMin (hc : X.calm = true := by rfl) (h : X.K = K := by rfl) : CallR X (.builtin "min") (rMin K) := by subst h; exact cr_min hc
theorem kIsi (h : X.K = K := by rfl) : CallR X (.builtin "isinstance") (rIsi K) := by subst h; exact call_isi
theorem kIsiT (h : X.K = K := by rfl) : CallR X (.builtin "isinstance") (rIsiT K) := by subst h; exact call_isiT
theorem kSorted (h : X.K = K := by rfl) : CallR X (.builtin "sorted") (rSortedPO K) := by subst h; exact cr_sortedPO
theorem kIxL (h : X.K = K := by rfl) : IxR X (rIxL K) := by subst h; exact ix_list
theorem kIxT (h : X.K = K := by rfl) : IxR X (rIxT K) := by subst h; exact ix_tup
theorem kSlL (h : X.K = K := by rfl) : SlR X (rSlL K) := by subst h; exact sl_list
theorem kIn (h : X.K = K := by rfl) : OpR X (compareOp .In) (rIn K false) := by subst h; exact op_in_seq
theorem kEqD (hu : X.A.units + 64 < cLine) (h : X.K = K := by rfl) : OpR X (compareOp .Eq) (rEqD K) := by subst h; exact op_eqD hu
theorem kNeD (hu : X.A.units + 64 < cLine) (h : X.K = K := by rfl) : OpR X (compareOp .NotEq) (rNeD K) := by subst h; exact op_neD hu
theorem kIdx (h : X.K = K := by rfl) : MtR X "list.index" (rIndex K) := by subst h; exact mt_index
theorem kFld {e : Expr} {f : Str} {pos : Pos} {ta : TE} (he : PE X e ta) (hb : attributeBase e f X.env (eval e X.env) = eval e X.env := by rfl) (h : X.K = K := by rfl) : PE X (.Attribute e f pos) (tFld K ta f) := by subst h; exact pe_fld he hb
theorem kPiL {tg l : Expr} {tl : TE} (hl : PE X l tl) (h : X.K = K := by rfl) : PI X tg l (iList K tl) := by subst h; exact pi_list hl
theorem kPiT {tg l : Expr} {tl : TE} (hl : PE X l tl) (h : X.K = K := by rfl) : PI X tg l (iTup K tl) := by subst h; exact pi_tup hl
theorem kRevL {e : Expr} {te : TE} {k : Nat} {p1 p2 p3 pos : Pos} (he : PE X e te) (h : X.K = K := by rfl) : PE X (.Subscript e (.Slice none none (some (.UnaryOp .USub (.Constant (.int 1) k p1) p2)) p3) pos) (tRevL K te) := by subst h; exact pe_revL he
theorem kPgT {es : List Expr} {k : Nat} {pos : Pos} {t : TGs} {n : Nat} (hc : X.calm = true) (hh : PGs X es t) (hn : (assignEach es X.env).length = n := by rfl) (hst : (assignEach es X.env).findIdx? (·.1) = none := by rfl) (h : X.K = K := by rfl) : PG X (.Tuple es k pos) (gTup K n t) := by
  subst h; exact pg_tup hc hh hn hst
theorem kZip {e e2 : Expr} {ta : TA} {p pos tpos : Pos} {elts : List Expr} {kk : Nat} (hg : Gl X "zip") (hm : X.mg "zip" = none) (ha : PA X [e, e2] ta)
    (hs : starEach [e, e2] X.env = (false, eval e X.env) :: starEach [e2] X.env := by rfl) (hpl : (backTo pos (starEach [e2] X.env)).any (·.1) = false := by rfl) (h : X.K = K := by rfl) :
    PI X (.Tuple elts kk tpos) (.Call (.Name "zip" p) [e, e2] [] pos) (iZip K ta) := by subst h; exact pi_zip hg hm ha hs hpl
end

section
variable {X : Cx} {pos apos : Pos} {e o : Expr} {es : List Expr} {m : Str}
/-- o.m(..), o an instance of one of two classes -/
def tMeth2 (C C' : Addr) (m : Str) (sp sp' : Sp) (E E' : XK) (ta : TE) (t : TA) : TE := fun σ H Q => ta σ H fun x H1 => ∃ a dx fs, x = .ref a ∧ fs.lookup m = none ∧
  ((H1 a = some (.ins C dx fs) ∧ t σ H1 fun vs H2 => sp (x :: vs) H2 Q E) ∨ (H1 a = some (.ins C' dx fs) ∧ t σ H1 fun vs H2 => sp' (x :: vs) H2 Q E'))
theorem pe_meth2 {pl : Sem Bool} {ta : TE} {t : TA} {C C' f f' : Addr} {fd fd' : FuncData} {ps ps' : List Str} {sp sp' : Sp} {CX CX' : CXT} {E E' : XK} {k k' : Nat} (he : PE X o ta)
    (c : Cls X.K C) (hm : Meth X.K C m f) (F : FnOk X.prog X.w X.K X.mg X.base CX k f fd ps sp) (hr : Room k X.A) (hb : Binds X.K fd ps [])
    (c' : Cls X.K C') (hm' : Meth X.K C' m f') (F' : FnOk X.prog X.w X.K X.mg X.base CX' k' f' fd' ps' sp') (hr' : Room k' X.A) (hb' : Binds X.K fd' ps' []) (hx : Passes CX X E) (hx' : Passes CX' X E') (ha : PA X (e :: es) t)
    (hst : starEach (e :: es) X.env = (false, eval e X.env) :: starEach es X.env := by rfl) (hpl : (backTo pos (starEach es X.env)).any (·.1) = false := by rfl)
    (ht : eval (.Call (.Attribute o m apos) (e :: es) [] pos) X.env = (do
      let ov ← eval o X.env
      standAt apos.atName
      let (f, first) ← holding [ov] (getMethod ov m pl)
      callWith pos f first (backTo pos (starEach (e :: es) X.env)) (backToKw pos (keywordEach [] X.env))) := by rfl) :
    PE X (.Call (.Attribute o m apos) (e :: es) [] pos) (tMeth2 C C' m sp sp' E E' ta t) := by
  refine ⟨fun pins s σ H Q I h => ?_⟩
  refine PySem.W.methodCall_KW (pl := pl) (thn (he.run pins s σ H _ I h) fun u s1 ⟨x, H1, I1, rx, a, dx, fs, ex, l, q⟩ => ?_) ht
  subst ex
  obtain rfl : u = Value.ref a := rx
  rcases q with ⟨ea, q⟩ | ⟨ea, q⟩
  · refine getmeth_ok I1 ea c hm l ?_
    refine PySem.W.callWith_K (first := [.ref a]) (h₀ := X.base) I.ok.mod.kin hm.kp (thn (ha.run pos pins s1 σ H1 _ I1 q) fun us s2 ⟨vs, H2, I2, r, q2⟩ => ⟨I2.kIn, ?_⟩) hst hpl
    exact run_fn (us := .ref a :: us) (vs := .ref a :: vs) (dvs := []) F hr hb .nil hx I2 (.cons rfl r) (by rw [List.append_nil]; exact q2)
  · refine getmeth_ok I1 ea c' hm' l ?_
    refine PySem.W.callWith_K (first := [.ref a]) (h₀ := X.base) I.ok.mod.kin hm'.kp (thn (ha.run pos pins s1 σ H1 _ I1 q) fun us s2 ⟨vs, H2, I2, r, q2⟩ => ⟨I2.kIn, ?_⟩) hst hpl
    exact run_fn (us := .ref a :: us) (vs := .ref a :: vs) (dvs := []) F' hr' hb' .nil hx' I2 (.cons rfl r) (by rw [List.append_nil]; exact q2)
end

/-! ### the i-th int -/
/-- ns[i] as Python reads it -/
def gz (ns : List Int) (i : Int) : Int := if 0 ≤ i then ns.getD i.toNat 0 else ns.getD (i + ns.length).toNat 0
theorem atI_gz {ns : List Int} {i : Int} (h1 : -(ns.length : Int) ≤ i) (h2 : i < ns.length) : atI (ns.map V.int) i = some (.int (gz ns i)) := by
  unfold gz
  unfold atI ixN
  rw [List.length_map]
  by_cases h : 0 ≤ i
  · rw [if_pos h, if_pos h, if_pos h2]
    have h3 : i.toNat < ns.length := by omega
    show (ns.map V.int)[i.toNat]? = _
    rw [List.getElem?_map, List.getElem?_eq_getElem h3, List.getD_eq_getElem?_getD, List.getElem?_eq_getElem h3]
    rfl
  · rw [if_neg h, if_neg h, if_pos h1]
    have h3 : (i + ns.length).toNat < ns.length := by omega
    show (ns.map V.int)[(i + ns.length).toNat]? = _
    rw [List.getElem?_map, List.getElem?_eq_getElem h3, List.getD_eq_getElem?_getD, List.getElem?_eq_getElem h3]
    rfl
theorem ixN_gz {n : Nat} {i : Int} (h1 : 0 ≤ i) (h2 : i < n) : ixN n i = some i.toNat := by
  unfold ixN
  rw [if_pos h1, if_pos h2]
theorem gz_nat {ns : List Int} {k : Nat} : gz ns (k : Int) = ns.getD k 0 := by
  unfold gz
  rw [if_pos (by omega)]
  simp


theorem look1 {f g : Str} {v : V} (h : (g == f) = false) : List.lookup g [(f, v)] = none := by simp [List.lookup, h]
theorem look1y {f : Str} {v : V} : List.lookup f [(f, v)] = some v := by simp [List.lookup]
/-! ### the built-ins' names -/
theorem bt_abs : bootBuiltins "abs" = some (.builtin "abs") := by decide +kernel
theorem bt_sum : bootBuiltins "sum" = some (.builtin "sum") := by decide +kernel
theorem bt_all : bootBuiltins "all" = some (.builtin "all") := by decide +kernel
theorem bt_any : bootBuiltins "any" = some (.builtin "any") := by decide +kernel
theorem bt_isinstance : bootBuiltins "isinstance" = some (.builtin "isinstance") := by decide +kernel
theorem bt_sorted : bootBuiltins "sorted" = some (.builtin "sorted") := by decide +kernel
theorem bt_max : bootBuiltins "max" = some (.builtin "max") := by decide +kernel
theorem bt_min : bootBuiltins "min" = some (.builtin "min") := by decide +kernel
theorem bt_list : bootBuiltins "list" = some (.type "list") := by decide +kernel
theorem bt_int : bootBuiltins "int" = some (.type "int") := by decide +kernel
theorem bt_str : bootBuiltins "str" = some (.type "str") := by decide +kernel
theorem bt_bool : bootBuiltins "bool" = some (.type "bool") := by decide +kernel
theorem bt_tuple : bootBuiltins "tuple" = some (.type "tuple") := by decide +kernel

/-! ### rules -/
section
variable {H0 H : Hp} {L : List (Addr × HO)} {K : PySem.W.Frag} {σ : L2.St} {D : Ends} {Q : VK} {QB : Bool → Hp → Prop} {QL : List V → Hp → Prop} {t u : TS} {te ta tb tc : TE} {tt tu : TT} {tl : TA} {v : V} {b : Bool} {A B : Prop} {i j : Int} {p : Addr} {xs : List V} {ns : List Int} {bs : List Bool}
theorem r_seq (k : t { D with nx := u D } σ H) : tSeq t u D σ H := k
theorem r_asg {n : Nat} (k : te σ H (fun x H1 => D.nx (σ.set n (some x)) H1)) : tAsg te (gName n) D σ H := k
theorem r_ret (k : te σ H D.rt) : tRet te D σ H := k
theorem r_if (k : tt σ H (fun b H1 => ifB b (t D σ H1) (u D σ H1))) : tIfS tt t u D σ H := k
theorem r_next (k : D.nx σ H) : tNext D σ H := k
theorem r_drop (k : te σ H (fun _ H1 => D.nx σ H1)) : tDrop te D σ H := k
theorem r_test (k : te σ H (fun x H1 => isB x QB H1)) : tTest te σ H QB := k
theorem r_testB (k : te σ H (fun x H1 => isB x QB H1)) : tB te σ H QB := k
theorem r_isB (k : QB b H) : isB (.bl b) QB H := ⟨b, rfl, k⟩
theorem r_ifT (k : A) : ifB true A B := k
theorem r_ifF (k : B) : ifB false A B := by
  show if false = true then A else B
  rw [if_neg Bool.false_ne_true]
  exact k
theorem r_if2 (h1 : b = true → A) (h2 : b = false → B) : ifB b A B := by
  cases b with
  | true => exact h1 rfl
  | false => exact r_ifF (h2 rfl)
theorem r_ifD {P : Prop} [Decidable P] (h1 : P → A) (h2 : ¬ P → B) : ifB (decide P) A B := r_if2 (fun h => h1 (of_decide_eq_true h)) (fun h => h2 (of_decide_eq_false h))
theorem r_ifND {P : Prop} [Decidable P] (h1 : ¬ P → A) (h2 : P → B) : ifB (!decide P) A B := r_if2 (fun h => h1 (of_decide_eq_false (by simpa using h))) (fun h => h2 (of_decide_eq_true (by simpa using h)))
theorem r_ifd_T {P : Prop} [Decidable P] (h : P) (k : A) : ifB (decide P) A B := by rw [decide_eq_true h]; exact k
theorem r_ifd_F {P : Prop} [Decidable P] (h : ¬ P) (k : B) : ifB (decide P) A B := by rw [decide_eq_false h]; exact r_ifF k
theorem r_ifND_T {P : Prop} [Decidable P] (h : ¬ P) (k : A) : ifB (!decide P) A B := by rw [decide_eq_false h]; exact k
theorem r_ifND_F {P : Prop} [Decidable P] (h : P) (k : B) : ifB (!decide P) A B := by rw [decide_eq_true h]; exact r_ifF k
theorem r_notT (h : b = true) (k : B) : ifB (!b) A B := by rw [h]; exact r_ifF k
theorem r_notF (h : b = false) (k : A) : ifB (!b) A B := by rw [h]; exact k
theorem r_bT (h : b = true) (k : A) : ifB b A B := by rw [h]; exact k
theorem r_bF (h : b = false) (k : B) : ifB b A B := by rw [h]; exact r_ifF k
theorem r_var {n : Nat} (h : σ[n]? = some (some v)) (k : Q v H) : tVar n σ H Q := ⟨v, h, k⟩
theorem r_c (k : Q v H) : tC v σ H Q := k
theorem r_op {r : R2} (k : ta σ H fun x H1 => tb σ H1 fun y H2 => r x y H2 Q) : tOp r ta tb σ H Q := k
theorem r_un {r : V → Hp → VK → Prop} (k : ta σ H fun x H1 => r x H1 Q) : tUn r ta σ H Q := k
theorem r_and (k : tt σ H fun c H1 => ifB c (tu σ H1 QB) (QB false H1)) : tAnd tt tu σ H QB := k
theorem r_or (k : tt σ H fun c H1 => ifB c (QB true H1) (tu σ H1 QB)) : tOr tt tu σ H QB := k
theorem r_not (k : tt σ H fun c H1 => QB (!c) H1) : tNot tt σ H QB := k
theorem r_andV (k : ta σ H fun x H1 => isB x (fun c H2 => ifB c (tb σ H2 Q) (Q (.bl false) H2)) H1) : tAndV ta tb σ H Q := k
theorem r_orV (k : ta σ H fun x H1 => isB x (fun c H2 => ifB c (Q (.bl true) H2) (tb σ H2 Q)) H1) : tOrV ta tb σ H Q := k
theorem r_notV (k : ta σ H fun x H1 => isB x (fun c H2 => Q (.bl (!c)) H2) H1) : tNotV ta σ H Q := k
theorem r_ifE (k : tt σ H fun c H1 => ifB c (ta σ H1 Q) (tb σ H1 Q)) : tIf tt ta tb σ H Q := k
theorem r_chain {r r' : R2} (k : ta σ H fun x H1 => tb σ H1 fun y H2 => r x y H2 fun z H3 => isB z (fun c H4 => ifB c (tc σ H4 fun w H5 => r' y w H5 Q) (Q (.bl false) H4)) H3) : tChain r r' ta tb tc σ H Q := k
theorem r_nil (k : QL [] H) : tNil σ H QL := k
theorem r_cons (k : ta σ H fun x H1 => tl σ H1 fun xs H2 => QL (x :: xs) H2) : tCons ta tl σ H QL := k
theorem r_cb {r : List V → Hp → VK → Prop} (k : tl σ H fun vs H1 => r vs H1 Q) : tCB r tl σ H Q := k
theorem r_lst (k : tl σ H fun xs H1 => mkL xs H1 Q) : tLst tl σ H Q := k
theorem r_tup (k : tl σ H fun xs H1 => mkT xs H1 Q) : tTup tl σ H Q := k
theorem r_mkL (A : At H0 L H) (hl : xs.length ≤ 10000000) (k : ∀ p H', At H0 ((p, .lst xs) :: L) H' → Q (.ref p) H') : mkL xs H Q := ⟨sz hl, fun p hp => k p _ (A.alloc hp _)⟩
theorem r_mkT (A : At H0 L H) (hl : xs.length ≤ 10000000) (k : ∀ p H', At H0 ((p, .tup xs) :: L) H' → Q (.ref p) H') : mkT xs H Q := ⟨sz hl, fun p hp => k p _ (A.alloc hp _)⟩
theorem r_call {sp : Sp} {E : XK} (k : tl σ H fun vs H1 => sp vs H1 Q E) : tCall sp [] E tl σ H Q := by
  show tl σ H fun vs H1 => sp (vs ++ []) H1 Q E
  have e : (fun (vs : List V) (H1 : Hp) => sp (vs ++ []) H1 Q E) = fun vs H1 => sp vs H1 Q E := by funext vs H1; rw [List.append_nil]
  rw [e]
  exact k
/-! ints -/
theorem r_I0 {g : Int → Int → V} (k : Q (g i j) H) : rI0 g (.int i) (.int j) H Q := ⟨i, j, rfl, rfl, k⟩
theorem r_I {C : Int → Int → Prop} {g : Int → Int → V} (h : C i j) (k : Q (g i j) H) : rI C g (.int i) (.int j) H Q := ⟨i, j, rfl, rfl, h, k⟩
theorem r_U {g : Int → V} (k : Q (g i) H) : rU g (.int i) H Q := ⟨i, rfl, k⟩
theorem dec_int {a b : Int} : decide (V.int a = V.int b) = decide (a = b) := by
  by_cases h : a = b
  · subst h; simp
  · rw [decide_eq_false h, decide_eq_false (fun e => h (V.int.inj e))]
theorem dec_bl {a b : Bool} : decide (V.bl a = V.bl b) = decide (a = b) := by cases a <;> cases b <;> rfl
theorem r_eqI (k : Q (.bl (decide (i = j))) H) : rEq (.int i) (.int j) H Q := ⟨rfl, by rw [dec_int]; exact k⟩
theorem r_neI (k : Q (.bl (!decide (i = j))) H) : rNe (.int i) (.int j) H Q := ⟨rfl, by rw [dec_int]; exact k⟩
theorem r_eqB {c d : Bool} (k : Q (.bl (decide (c = d))) H) : rEq (.bl c) (.bl d) H Q := ⟨rfl, by rw [dec_bl]; exact k⟩
theorem r_neB {c d : Bool} (k : Q (.bl (!decide (c = d))) H) : rNe (.bl c) (.bl d) H Q := ⟨rfl, by rw [dec_bl]; exact k⟩
theorem r_isBl {c d : Bool} (k : Q (.bl (decide (c = d))) H) : rIsB (.bl c) (.bl d) H Q := ⟨c, d, rfl, rfl, k⟩
theorem r_isNBl {c d : Bool} (k : Q (.bl (!decide (c = d))) H) : rNotB (.bl c) (.bl d) H Q := ⟨c, d, rfl, rfl, k⟩
theorem r_abs (k : Q (.int (i.natAbs : Int)) H) : rAbs [.int i] H Q := ⟨i, rfl, by
  have e : (if i < 0 then -i else i) = (i.natAbs : Int) := by split <;> omega
  rw [e]; exact k⟩
theorem r_max2 (k : Q (.int (max i j)) H) : rMax2 [.int i, .int j] H Q := ⟨i, j, rfl, by
  have e : (if j > i then j else i) = max i j := by split <;> omega
  rw [e]; exact k⟩
theorem r_min2 (k : Q (.int (min i j)) H) : rMin2 [.int i, .int j] H Q := ⟨i, j, rfl, by
  have e : (if j < i then j else i) = min i j := by split <;> omega
  rw [e]; exact k⟩
/-! lists -/
theorem r_len (h : SqL K H p xs) (k : Q (.int (xs.length : Int)) H) : rLenQ K [.ref p] H Q := ⟨p, xs, rfl, .inl h, k⟩
theorem r_lenI (h : SqL K H p (ns.map V.int)) (k : Q (.int (ns.length : Int)) H) : rLenQ K [.ref p] H Q := ⟨p, _, rfl, .inl h, by rw [List.length_map]; exact k⟩
theorem r_lenT (h : SqT K H p xs) (k : Q (.int (xs.length : Int)) H) : rLenQ K [.ref p] H Q := ⟨p, xs, rfl, .inr h, k⟩
theorem r_list (A : At H0 L H) (h : SqL K H p xs) (k : ∀ l H', At H0 ((l, .lst xs) :: L) H' → Q (.ref l) H') : rListQ K [.ref p] H Q := ⟨p, xs, rfl, .inl h, fun l hl => k l _ (A.alloc hl _)⟩
theorem r_listT (A : At H0 L H) (h : SqT K H p xs) (k : ∀ l H', At H0 ((l, .lst xs) :: L) H' → Q (.ref l) H') : rListQ K [.ref p] H Q := ⟨p, xs, rfl, .inr h, fun l hl => k l _ (A.alloc hl _)⟩
theorem r_ixI (h : SqL K H p (ns.map V.int)) (h1 : -(ns.length : Int) ≤ i) (h2 : i < ns.length) (k : Q (.int (gz ns i)) H) : rIxL K (.ref p) (.int i) H Q := ⟨p, _, i, _, rfl, rfl, h, atI_gz h1 h2, k⟩
theorem r_ixL (h : SqL K H p xs) (ha : atI xs i = some v) (k : Q v H) : rIxL K (.ref p) (.int i) H Q := ⟨p, xs, i, v, rfl, rfl, h, ha, k⟩
theorem r_ixT (h : SqT K H p xs) (ha : atI xs i = some v) (k : Q v H) : rIxT K (.ref p) (.int i) H Q := ⟨p, xs, i, v, rfl, rfl, h, ha, k⟩
theorem r_ixTI (h : SqT K H p (ns.map V.int)) (h1 : -(ns.length : Int) ≤ i) (h2 : i < ns.length) (k : Q (.int (gz ns i)) H) : rIxT K (.ref p) (.int i) H Q := ⟨p, _, i, _, rfl, rfl, h, atI_gz h1 h2, k⟩
theorem r_sum (h : SqL K H p (ns.map V.int)) (k : Q (.int ns.sum) H) : rSum K [.ref p] H Q := ⟨p, ns, rfl, h, k⟩
theorem r_all (h : SqL K H p (bs.map V.bl)) (k : Q (.bl (bs.all id)) H) : rAll K [.ref p] H Q := ⟨p, bs, rfl, h, k⟩
theorem r_any (h : SqL K H p (bs.map V.bl)) (k : Q (.bl (bs.any id)) H) : rAny K [.ref p] H Q := ⟨p, bs, rfl, h, k⟩
theorem r_max (h : SqL K H p (ns.map V.int)) (hn : 0 < ns.length) (k : ∀ m, m ∈ ns → (∀ y, y ∈ ns → y ≤ m) → Q (.int m) H) : rMax K [.ref p] H Q := ⟨p, ns, rfl, h, hn, k⟩
theorem r_min (h : SqL K H p (ns.map V.int)) (hn : 0 < ns.length) (k : ∀ m, m ∈ ns → (∀ y, y ∈ ns → m ≤ y) → Q (.int m) H) : rMin K [.ref p] H Q := ⟨p, ns, rfl, h, hn, k⟩
/-! fields -/
theorem r_fld {f : Str} (k : ta σ H fun x H1 => fldK K f x H1 Q) : tFld K ta f σ H Q := k
theorem r_fldK {f : Str} {a C dx : Addr} {fs : List (Str × V)} (h : H a = some (.ins C dx fs)) (hc : Cls K C) (hn : NoAttr K C f) (hl : fs.lookup f = some v) (k : Q v H) : fldK K f (.ref a) H Q := ⟨a, C, dx, fs, v, rfl, h, hc, hn, hl, k⟩
/-! comprehensions over a range -/
def rng1 (vs : List V) (H : Hp) (R : It → Hp → Prop) : Prop := ∃ j : Int, vs = [.int j] ∧ -(2 ^ 62) ≤ j ∧ j < 2 ^ 62 ∧ R (Itr 0 j.toNat) H
def lcB (J : It) (g : TG) (tt : TT) (te : TE) (vs : List Nat) (σ : L2.St) (H1 : Hp) (Q : VK) : Prop := ∀ D, H1 D = none → ∃ W : Nat → Nat → Hp → Prop, (∃ m, W 0 m (upd H1 D (.lst []))) ∧ ∀ i m H, W i m H →
  (J.stop i H ∧ Q (.ref D) H) ∨ (J.go i H ∧ ∃ Nx : Hp → Prop, (∀ H', Nx H' → ∃ m', m' < m ∧ W (i + 1) m' H') ∧ ∀ x H', J.yld i H x H' → g x (wipe σ vs) H' fun σ2 H2 => wipe σ2 vs = wipe σ vs ∧ tt σ2 H2 fun b H3 =>
    if b = true then te σ2 H3 fun y H4 => ∃ acc, H4 D = some (.lst acc) ∧ acc.length < sizeLine ∧ Nx (upd H4 D (.lst (acc ++ [y]))) else Nx H3)
theorem r_lcR {g : TG} {vs : List Nat} (k : tl σ H fun us H1 => rng1 us H1 fun J H2 => lcB J g tt te vs σ H2 Q) : tLc (iRng1 tl) g tt te vs σ H Q := k
theorem r_rng1 {R : It → Hp → Prop} {n : Nat} (h : i = (n : Int)) (hn : n ≤ 10000000) (k : R (Itr 0 n) H) : rng1 [.int i] H R := by
  subst h
  exact ⟨_, rfl, by omega, by omega, by rw [show ((n : Int)).toNat = n by omega]; exact k⟩
/-- the end of a turn: the value, what the turn made beside the list is let go -/
def TurnQ (H0 : Hp) (L : List (Addr × HO)) (w : V) (Q : VK) : Prop := ∀ y H' L', y = w → At H0 (L' ++ L) H' → Q y H'
theorem TurnQ.t0 {w : V} (q : TurnQ H0 L w Q) (e : v = w) (A : At H0 L H) : Q v H := q _ _ [] e A
theorem TurnQ.t1 {w : V} {x : Addr × HO} (q : TurnQ H0 L w Q) (e : v = w) (A : At H0 (x :: L) H) : Q v H := q _ _ [x] e A
theorem TurnQ.t2 {w : V} {x y : Addr × HO} (q : TurnQ H0 L w Q) (e : v = w) (A : At H0 (x :: y :: L) H) : Q v H := q _ _ [x, y] e A
theorem TurnQ.t3 {w : V} {x y z : Addr × HO} (q : TurnQ H0 L w Q) (e : v = w) (A : At H0 (x :: y :: z :: L) H) : Q v H := q _ _ [x, y, z] e A
theorem At.dropMid {L' : List (Addr × HO)} {H0 H : Hp} {L : List (Addr × HO)} (A : At H0 (L' ++ L) H) : At H0 L H := A.sub (List.sublist_append_right L' L)
theorem range_map_succ {α : Type} (f : Nat → α) (i : Nat) : (List.range (i + 1)).map f = (List.range i).map f ++ [f i] := by
  rw [List.range_succ, List.map_append]
  rfl
theorem r_lcItr {m : Nat} {vs : List Nat} {n : Nat} (f : Nat → V) (A : At H0 L H) (hn : n < 10000000) (hw : ∀ x, wipe ((wipe σ vs).set m (some x)) vs = wipe σ vs)
    (hs : ∀ (i : Nat) (D : Addr) H' Q', i < n → At H0 ((D, .lst ((List.range i).map f)) :: L) H' → TurnQ H0 ((D, .lst ((List.range i).map f)) :: L) (f i) Q' → te ((wipe σ vs).set m (some (.int (i : Int)))) H' Q')
    (k : ∀ D H', At H0 ((D, .lst ((List.range n).map f)) :: L) H' → Q (.ref D) H') : lcB (Itr 0 n) (gName m) tYes te vs σ H Q := fun D hD =>
  lc_range (lo := 0) (n := n) (fun i H' => At H0 ((D, .lst ((List.range i).map f)) :: L) H') (A.alloc hD _) (fun i H' hi A' => by
    refine ⟨hw _, ?_⟩
    show te ((wipe σ vs).set m (some (.int ((0 : Int) + (i : Int))))) H' _
    rw [Int.zero_add]
    refine hs i D H' _ hi A' fun y H4 L' e A4 => ?_
    have B := A4.dropMid
    refine ⟨_, B.get List.mem_cons_self, ?_, ?_⟩
    · rw [List.length_map, List.length_range]
      exact sz' (by omega)
    · subst e
      rw [range_map_succ]
      exact B.put _) (fun H' A' => k D H' A')
/-- over a list that stands -/
def lst1 (K : PySem.W.Frag) (x : V) (H : Hp) (R : It → Hp → Prop) : Prop := ∃ a, x = .ref a ∧ (∃ xs, SqL K H a xs) ∧ R (Itl K a) H
theorem r_lcL {g : TG} {vs : List Nat} (k : ta σ H fun x H1 => lst1 K x H1 fun J H2 => lcB J g tt te vs σ H2 Q) : tLc (iList K ta) g tt te vs σ H Q := k
theorem r_lst1 {R : It → Hp → Prop} (h : SqL K H p xs) (k : R (Itl K p) H) : lst1 K (.ref p) H R := ⟨p, rfl, ⟨xs, h⟩, k⟩
theorem take_map_succ {α β : Type} (f : α → β) {l : List α} {i : Nat} {x : α} (h : l[i]? = some x) : (l.take (i + 1)).map f = (l.take i).map f ++ [f x] := by
  rw [List.take_add_one, h, List.map_append]
  rfl
theorem r_lcItl {m : Nat} {vs : List Nat} (f : V → V) (A : At H0 L H) (hx : ∀ L' H', At H0 (L' ++ L) H' → SqL K H' p xs) (hn : xs.length < 10000000) (hw : ∀ x, wipe ((wipe σ vs).set m (some x)) vs = wipe σ vs)
    (hs : ∀ (i : Nat) (x : V) (D : Addr) H' Q', xs[i]? = some x → At H0 ((D, .lst ((xs.take i).map f)) :: L) H' → TurnQ H0 ((D, .lst ((xs.take i).map f)) :: L) (f x) Q' → te ((wipe σ vs).set m (some x)) H' Q')
    (k : ∀ D H', At H0 ((D, .lst (xs.map f)) :: L) H' → Q (.ref D) H') : lcB (Itl K p) (gName m) tYes te vs σ H Q := fun D hD =>
  lc_list (K := K) (a := p) (xs := xs) (fun i H' => At H0 ((D, .lst ((xs.take i).map f)) :: L) H') (A.alloc hD _) (fun i H' _ A' => hx [_] H' A') (fun i x H' hi A' => by
    refine ⟨hw _, ?_⟩
    show te ((wipe σ vs).set m (some x)) H' _
    refine hs i x D H' _ hi A' fun y H4 L' e A4 => ?_
    have B := A4.dropMid
    refine ⟨_, B.get List.mem_cons_self, ?_, ?_⟩
    · rw [List.length_map, List.length_take]
      exact sz' (by omega)
    · subst e
      rw [take_map_succ f hi]
      exact B.put _) (fun H' A' => by
    rw [List.take_length] at A'
    exact k D H' A')
/-- .. of ints, giving ints, bools -/
theorem r_lcItlI {m : Nat} {vs : List Nat} (f : Int → V) (A : At H0 L H) (h0 : SqL K H0 p (ns.map V.int) ∨ (p, HO.lst (ns.map V.int)) ∈ L) (hn : ns.length < 10000000) (hw : ∀ x, wipe ((wipe σ vs).set m (some x)) vs = wipe σ vs)
    (hs : ∀ (i : Nat) (x : Int) (D : Addr) H' Q', ns[i]? = some x → At H0 ((D, .lst ((ns.take i).map f)) :: L) H' → TurnQ H0 ((D, .lst ((ns.take i).map f)) :: L) (f x) Q' → te ((wipe σ vs).set m (some (.int x))) H' Q')
    (k : ∀ D H', At H0 ((D, .lst (ns.map f)) :: L) H' → Q (.ref D) H') : lcB (Itl K p) (gName m) tYes te vs σ H Q := fun D hD =>
  lc_list (K := K) (a := p) (xs := ns.map V.int) (fun i H' => At H0 ((D, .lst ((ns.take i).map f)) :: L) H') (A.alloc hD _) (fun i H' _ A' => by
    rcases h0 with h | h
    · exact A'.sq h
    · exact A'.sqo (List.mem_cons_of_mem _ h)) (fun i x H' hi A' => by
    refine ⟨hw _, ?_⟩
    rw [List.getElem?_map] at hi
    obtain ⟨z, hz, rfl⟩ : ∃ z, ns[i]? = some z ∧ V.int z = x := by
      cases e : ns[i]? with
      | none => rw [e] at hi; cases hi
      | some z => rw [e] at hi; exact ⟨z, rfl, Option.some.inj hi⟩
    show te ((wipe σ vs).set m (some (V.int z))) H' _
    refine hs i z D H' _ hz A' fun y H4 L' e A4 => ?_
    have B := A4.dropMid
    refine ⟨_, B.get List.mem_cons_self, ?_, ?_⟩
    · rw [List.length_map, List.length_take]
      exact sz' (by omega)
    · subst e
      rw [take_map_succ f hz]
      exact B.put _) (fun H' A' => by
    rw [List.length_map, List.take_length] at A'
    exact k D H' A')
/-! the same, ints or bools given -/
theorem map_bl {α : Type} (l : List α) (g : α → Bool) : l.map (fun k => V.bl (g k)) = (l.map g).map V.bl := by rw [List.map_map]; rfl
theorem map_in {α : Type} (l : List α) (g : α → Int) : l.map (fun k => V.int (g k)) = (l.map g).map V.int := by rw [List.map_map]; rfl
theorem r_lcRB {m : Nat} {vs : List Nat} {n : Nat} (g : Nat → Bool) (A : At H0 L H) (hn : n < 10000000) (hw : ∀ x, wipe ((wipe σ vs).set m (some x)) vs = wipe σ vs)
    (hs : ∀ (i : Nat) (D : Addr) H' Q', i < n → At H0 ((D, .lst ((List.range i).map fun k => V.bl (g k))) :: L) H' → TurnQ H0 ((D, .lst ((List.range i).map fun k => V.bl (g k))) :: L) (V.bl (g i)) Q' → te ((wipe σ vs).set m (some (.int (i : Int)))) H' Q')
    (k : ∀ D H', At H0 ((D, .lst (((List.range n).map g).map V.bl)) :: L) H' → Q (.ref D) H') : lcB (Itr 0 n) (gName m) tYes te vs σ H Q :=
  r_lcItr (fun k => V.bl (g k)) A hn hw hs fun D H' A' => k D H' (by rw [← map_bl]; exact A')
theorem r_lcRI {m : Nat} {vs : List Nat} {n : Nat} (g : Nat → Int) (A : At H0 L H) (hn : n < 10000000) (hw : ∀ x, wipe ((wipe σ vs).set m (some x)) vs = wipe σ vs)
    (hs : ∀ (i : Nat) (D : Addr) H' Q', i < n → At H0 ((D, .lst ((List.range i).map fun k => V.int (g k))) :: L) H' → TurnQ H0 ((D, .lst ((List.range i).map fun k => V.int (g k))) :: L) (V.int (g i)) Q' → te ((wipe σ vs).set m (some (.int (i : Int)))) H' Q')
    (k : ∀ D H', At H0 ((D, .lst (((List.range n).map g).map V.int)) :: L) H' → Q (.ref D) H') : lcB (Itr 0 n) (gName m) tYes te vs σ H Q :=
  r_lcItr (fun k => V.int (g k)) A hn hw hs fun D H' A' => k D H' (by rw [← map_in]; exact A')
theorem r_lcLB {m : Nat} {vs : List Nat} (g : Int → Bool) (A : At H0 L H) (h0 : SqL K H0 p (ns.map V.int) ∨ (p, HO.lst (ns.map V.int)) ∈ L) (hn : ns.length < 10000000) (hw : ∀ x, wipe ((wipe σ vs).set m (some x)) vs = wipe σ vs)
    (hs : ∀ (i : Nat) (x : Int) (D : Addr) H' Q', ns[i]? = some x → At H0 ((D, .lst ((ns.take i).map fun k => V.bl (g k))) :: L) H' → TurnQ H0 ((D, .lst ((ns.take i).map fun k => V.bl (g k))) :: L) (V.bl (g x)) Q' → te ((wipe σ vs).set m (some (.int x))) H' Q')
    (k : ∀ D H', At H0 ((D, .lst ((ns.map g).map V.bl)) :: L) H' → Q (.ref D) H') : lcB (Itl K p) (gName m) tYes te vs σ H Q :=
  r_lcItlI (fun k => V.bl (g k)) A h0 hn hw hs fun D H' A' => k D H' (by rw [← map_bl]; exact A')
theorem r_lcLI {m : Nat} {vs : List Nat} (g : Int → Int) (A : At H0 L H) (h0 : SqL K H0 p (ns.map V.int) ∨ (p, HO.lst (ns.map V.int)) ∈ L) (hn : ns.length < 10000000) (hw : ∀ x, wipe ((wipe σ vs).set m (some x)) vs = wipe σ vs)
    (hs : ∀ (i : Nat) (x : Int) (D : Addr) H' Q', ns[i]? = some x → At H0 ((D, .lst ((ns.take i).map fun k => V.int (g k))) :: L) H' → TurnQ H0 ((D, .lst ((ns.take i).map fun k => V.int (g k))) :: L) (V.int (g x)) Q' → te ((wipe σ vs).set m (some (.int x))) H' Q')
    (k : ∀ D H', At H0 ((D, .lst ((ns.map g).map V.int)) :: L) H' → Q (.ref D) H') : lcB (Itl K p) (gName m) tYes te vs σ H Q :=
  r_lcItlI (fun k => V.int (g k)) A h0 hn hw hs fun D H' A' => k D H' (by rw [← map_in]; exact A')
/-! loops -/
def lstF (K : PySem.W.Frag) (x : V) (H : Hp) (R : It → Hp → Prop) : Prop := lst1 K x H R
def forB (J : It) (g : TG) (tb : TS) (D : Ends) (σ : L2.St) (H1 : Hp) : Prop := ∃ W : Nat → Nat → L2.St → Hp → Prop, (∃ m, W 0 m σ H1) ∧ ∀ i m σ H, W i m σ H →
  (J.stop i H ∧ D.nx σ H) ∨ (J.go i H ∧ ∃ N : L2.St → Hp → Prop, (∀ σ' H', N σ' H' → ∃ m', m' < m ∧ W (i + 1) m' σ' H') ∧ ∀ x H', J.yld i H x H' → g x σ H' fun σ2 H2 => tb { D with nx := N, ct := N, bk := D.nx } σ2 H2)
theorem r_forL {g : TG} {tb : TS} (k : ta σ H fun x H1 => lst1 K x H1 fun J H2 => forB J g tb D σ H2) : tFor (iList K ta) g tb D σ H := k
theorem r_forR {g : TG} {tb : TS} (k : tl σ H fun us H1 => rng1 us H1 fun J H2 => forB J g tb D σ H2) : tFor (iRng1 tl) g tb D σ H := k
theorem r_forItr {g : TG} {tb : TS} {n : Nat} (Pv : Nat → L2.St → Hp → Prop) (h0 : Pv 0 σ H)
    (hs : ∀ i σ H (N : L2.St → Hp → Prop), i < n → Pv i σ H → (∀ σ' H', Pv (i + 1) σ' H' → N σ' H') → g (.int (i : Int)) σ H fun σ2 H2 => tb { D with nx := N, ct := N, bk := D.nx } σ2 H2) (hd : ∀ σ H, Pv n σ H → D.nx σ H) : forB (Itr 0 n) g tb D σ H :=
  for_range (lo := 0) (n := n) Pv h0 (fun i σ H hi p => by
    rw [Int.zero_add]
    exact hs i σ H _ hi p fun _ _ z => z) hd
theorem r_forItl {g : TG} {tb : TS} (xs : List V) (Pv : Nat → L2.St → Hp → Prop) (h0 : Pv 0 σ H) (hl : ∀ i σ H, i ≤ xs.length → Pv i σ H → SqL K H p xs)
    (hs : ∀ i x σ H (N : L2.St → Hp → Prop), xs[i]? = some x → Pv i σ H → (∀ σ' H', Pv (i + 1) σ' H' → N σ' H') → g x σ H fun σ2 H2 => tb { D with nx := N, ct := N, bk := D.nx } σ2 H2) (hd : ∀ σ H, Pv xs.length σ H → D.nx σ H) : forB (Itl K p) g tb D σ H :=
  for_list (K := K) (a := p) (xs := xs) Pv h0 hl (fun i x σ H hi pp => hs i x σ H _ hi pp fun _ _ z => z) hd
theorem r_forItlI {n : Nat} {tb : TS} (ns : List Int) (Pv : Nat → L2.St → Hp → Prop) (h0 : Pv 0 σ H) (hl : ∀ i σ H, i ≤ ns.length → Pv i σ H → SqL K H p (ns.map V.int))
    (hs : ∀ i x σ H (N : L2.St → Hp → Prop), ns[i]? = some x → Pv i σ H → (∀ σ' H', Pv (i + 1) σ' H' → N σ' H') → tb { D with nx := N, ct := N, bk := D.nx } (σ.set n (some (V.int x))) H) (hd : ∀ σ H, Pv ns.length σ H → D.nx σ H) : forB (Itl K p) (gName n) tb D σ H :=
  r_forItl (K := K) (p := p) (ns.map V.int) Pv h0 (fun i σ H hi => hl i σ H (by rw [List.length_map] at hi; exact hi)) (fun i x σ H N hi pp hN => by
    rw [List.getElem?_map] at hi
    obtain ⟨z, hz, rfl⟩ : ∃ z, ns[i]? = some z ∧ V.int z = x := by
      cases e : ns[i]? with
      | none => rw [e] at hi; cases hi
      | some z => rw [e] at hi; exact ⟨z, rfl, Option.some.inj hi⟩
    exact hs i z σ H N hz pp hN) (fun σ H => by rw [List.length_map]; exact hd σ H)
/-! appending, storing by place -/
def bmK (K : PySem.W.Frag) (T : String) (r : V → List V → Hp → VK → Prop) (t : TA) (σ : L2.St) (x : V) (H : Hp) (Q : VK) : Prop := tyV K T x H ∧ t σ H fun xs H2 => r x xs H2 Q
theorem r_bm {T : String} {r : V → List V → Hp → VK → Prop} (k : ta σ H fun x H1 => bmK K T r tl σ x H1 Q) : tBM K T r ta tl σ H Q := k
theorem r_bmL {r : V → List V → Hp → VK → Prop} (h : SqL K H p xs) (k : tl σ H fun xs H2 => r (.ref p) xs H2 Q) : bmK K "list" r tl σ (.ref p) H Q := ⟨Or.inl ⟨rfl, _, h⟩, k⟩
theorem r_append (A : At H0 ((p, .lst xs) :: L) H) (hl : xs.length < 10000000) (k : ∀ H', At H0 ((p, .lst (xs ++ [v])) :: L) H' → Q .non H') : rAppend (.ref p) [v] H Q :=
  ⟨p, xs, v, rfl, rfl, A.get List.mem_cons_self, sz' hl, k _ (A.put _)⟩
theorem r_gName {n : Nat} {QS : L2.St → Hp → Prop} (k : QS (σ.set n (some v)) H) : gName n v σ H QS := k
theorem r_gSub {s : TSet} {QS : L2.St → Hp → Prop} (k : ta σ H fun o H1 => tb σ H1 fun i H2 => s o i v H2 fun H3 => QS σ H3) : gSub ta tb s v σ H QS := k
theorem r_asgG {g : TG} (k : te σ H (fun x H1 => g x σ H1 D.nx)) : tAsg te g D σ H := k
theorem r_setL {QH : Hp → Prop} (A : At H0 ((p, .lst xs) :: L) H) (h1 : 0 ≤ i) (h2 : i < xs.length) (k : ∀ H', At H0 ((p, .lst (xs.set i.toNat v)) :: L) H' → QH H') : rSetL (.ref p) (.int i) v H QH :=
  ⟨p, xs, i, i.toNat, rfl, rfl, A.get List.mem_cons_self, ixN_gz h1 h2, k _ (A.put _)⟩
/-! isinstance of plain things -/
theorem r_isiI {b : Bool} {n : String} (h : kitB "int" n = some b) (k : Q (.bl b) H) : rIsi K [.int i, .ty n] H Q := ⟨_, _, _, _, b, rfl, .ty n, .base (.int i), kit_ty h, k⟩
theorem r_isiB {b c : Bool} {n : String} (h : kitB "bool" n = some b) (k : Q (.bl b) H) : rIsi K [.bl c, .ty n] H Q := ⟨_, _, _, _, b, rfl, .ty n, .base (.bl c), kit_ty h, k⟩
theorem ty_list (h : SqL K H p xs) : TyX K H (.ref p) (.type "list") := by
  rcases h with (h | ⟨o, h⟩) | ⟨o, its, n, h, hc, _⟩
  · exact .base (.lst h)
  · exact .base (.frz h)
  · exact .kList h hc
theorem r_isiL {b : Bool} {n : String} (hs : SqL K H p xs) (h : kitB "list" n = some b) (k : Q (.bl b) H) : rIsi K [.ref p, .ty n] H Q := ⟨_, _, _, _, b, rfl, .ty n, ty_list hs, kit_ty h, k⟩
/-! own instances -/
def mkC (C : Addr) (sp : Sp) (vs : List V) (H1 : Hp) (Q : VK) (E : XK) : Prop := ∀ x dx, H1 x = none → H1 dx = none → dx ≠ x → sp (.ref x :: vs) (upd (upd H1 dx (.own x)) x (.ins C dx [])) (fun v H2 => v = .non ∧ Q (.ref x) H2) E
theorem r_make {C : Addr} {sp : Sp} {E : XK} (k : tl σ H fun vs H1 => mkC C sp vs H1 Q E) : tMake C sp [] E tl σ H Q := by
  show tl σ H fun vs H1 => ∀ x dx, H1 x = none → H1 dx = none → dx ≠ x → sp (.ref x :: (vs ++ [])) (upd (upd H1 dx (.own x)) x (.ins C dx [])) (fun v H2 => v = .non ∧ Q (.ref x) H2) E
  have e : (fun (vs : List V) (H1 : Hp) => ∀ x dx, H1 x = none → H1 dx = none → dx ≠ x → sp (.ref x :: (vs ++ [])) (upd (upd H1 dx (.own x)) x (.ins C dx [])) (fun v H2 => v = .non ∧ Q (.ref x) H2) E) = fun vs H1 => mkC C sp vs H1 Q E := by
    funext vs H1
    rw [List.append_nil]
    rfl
  rw [e]
  exact k
/-- the new instance's heap -/
theorem same_mk {H : Hp} {x dx C : Addr} (nx : H x = none) (nd : H dx = none) : Same H (upd (upd H dx (.own x)) x (.ins C dx [])) := fun b o e => by
  rw [upd_ne (ne_of_none e nx), upd_ne (ne_of_none e nd)]
  exact e
def mthK (C : Addr) (m : Str) (sp : Sp) (tl : TA) (σ : L2.St) (x : V) (H1 : Hp) (Q : VK) (E : XK) : Prop := ∃ a dx fs, x = .ref a ∧ H1 a = some (.ins C dx fs) ∧ fs.lookup m = none ∧ tl σ H1 fun vs H2 => sp (x :: vs) H2 Q E
theorem r_meth {C : Addr} {m : Str} {sp : Sp} {E : XK} (k : ta σ H fun x H1 => mthK C m sp tl σ x H1 Q E) : tMeth C m sp [] E ta tl σ H Q := by
  show ta σ H fun x H1 => ∃ a dx fs, x = .ref a ∧ H1 a = some (.ins C dx fs) ∧ fs.lookup m = none ∧ tl σ H1 fun vs H2 => sp (x :: (vs ++ [])) H2 Q E
  have e : (fun (x : V) (H1 : Hp) => ∃ a dx fs, x = .ref a ∧ H1 a = some (.ins C dx fs) ∧ fs.lookup m = none ∧ tl σ H1 fun vs H2 => sp (x :: (vs ++ [])) H2 Q E) = fun x H1 => mthK C m sp tl σ x H1 Q E := by
    funext x H1
    unfold mthK
    congr
    funext a
    congr
    funext dx
    congr
    funext fs
    have e2 : (fun (vs : List V) (H2 : Hp) => sp (x :: (vs ++ [])) H2 Q E) = fun vs H2 => sp (x :: vs) H2 Q E := by
      funext vs H2
      rw [List.append_nil]
    rw [e2]
  rw [e]
  exact k
theorem r_mthK {C dx a : Addr} {m : Str} {sp : Sp} {E : XK} {fs : List (Str × V)} (h : H a = some (.ins C dx fs)) (hl : fs.lookup m = none) (k : tl σ H fun vs H2 => sp (.ref a :: vs) H2 Q E) : mthK C m sp tl σ (.ref a) H Q E := ⟨a, dx, fs, rfl, h, hl, k⟩
/-- self.f = e -/
def sfK (K : PySem.W.Frag) (f : Str) (y x : V) (H2 : Hp) (N : Hp → Prop) : Prop := ∃ a C dx fs, x = .ref a ∧ H2 a = some (.ins C dx fs) ∧ Cls K C ∧ NoAttr K C f ∧ fs.length < 1000 ∧ N (upd H2 a (.ins C dx (putF f y fs)))
theorem r_sfld {f : Str} (k : tb σ H fun y H1 => ta σ H1 fun x H2 => sfK K f y x H2 fun H3 => D.nx σ H3) : sFld K ta tb f D σ H := k
theorem r_sfK {f : Str} {y : V} {a C dx : Addr} {fs : List (Str × V)} {N : Hp → Prop} (h : H a = some (.ins C dx fs)) (hc : Cls K C) (hn : NoAttr K C f) (hl : fs.length < 1000) (k : N (upd H a (.ins C dx (putF f y fs)))) : sfK K f y (.ref a) H N := ⟨a, C, dx, fs, rfl, h, hc, hn, hl, k⟩
/-- isinstance of an own instance -/
theorem r_isiO {a C C' dx : Addr} {fs : List (Str × V)} {b : Bool} (h : H a = some (.ins C dx fs)) (hc : Cls K C) (hi : PySem.W.findIn K (.ref C) "__class__" = some (some (.builtin "object.__class__")) ∧ PySem.W.specialIn K (.builtin "object.__class__") "__get__" = some (some (.builtin "getset_descriptor.__get__")) ∧ PySem.W.takesIn K (.builtin "object.__class__") = some true ∧ PySem.W.mroIn K C (.type "object") = some true)
    (hk : PySem.W.kitOne K (.ref C) (.ref C') = some b) (k : Q (.bl b) H) : rIsi K [.ref a, .ref C'] H Q := ⟨_, _, _, _, b, rfl, .own C', .base (.ins h hc hi.1 hi.2.1 hi.2.2.1 hi.2.2.2), hk, k⟩
theorem r_ifNT (k : B) : ifB (!true) A B := r_ifF k
theorem r_ifNF (k : A) : ifB (!false) A B := k
theorem r_isiII (k : Q (.bl true) H) : rIsi K [.int i, .ty "int"] H Q := r_isiI (by decide +kernel) k
theorem r_isiIB (k : Q (.bl false) H) : rIsi K [.int i, .ty "bool"] H Q := r_isiI (by decide +kernel) k
theorem r_isiBB {c : Bool} (k : Q (.bl true) H) : rIsi K [.bl c, .ty "bool"] H Q := r_isiB (by decide +kernel) k
theorem r_isiBI {c : Bool} (k : Q (.bl true) H) : rIsi K [.bl c, .ty "int"] H Q := r_isiB (by decide +kernel) k
theorem r_isiLL (hs : SqL K H p xs) (k : Q (.bl true) H) : rIsi K [.ref p, .ty "list"] H Q := r_isiL hs (by decide +kernel) k
/-! lists compared -/
theorem dpAll_int (ns : List Int) : DpAll K H (ns.map V.int) (ns.map PyData.int) := by
  induction ns with
  | nil => exact .nil
  | cons a r ih => exact .cons (.int a) ih
theorem dpAll_bl (bs : List Bool) : DpAll K H (bs.map V.bl) (bs.map PyData.bool) := by
  induction bs with
  | nil => exact .nil
  | cons a r ih => exact .cons (.bl a) ih
theorem eqvAll_int : ∀ ns ms : List Int, PyData.eqvAll (ns.map PyData.int) (ms.map PyData.int) = decide (ns = ms)
  | [], [] => by simp [PyData.eqvAll]
  | [], _ :: _ => by simp [PyData.eqvAll]
  | _ :: _, [] => by simp [PyData.eqvAll]
  | a :: r, b :: q => by
    have ih := eqvAll_int r q
    rw [List.map_cons, List.map_cons, PyData.eqvAll, PyData.eqv, ih]
    by_cases h : a = b
    · subst h; simp
    · simp [h]
theorem eqvAll_bl : ∀ ns ms : List Bool, PyData.eqvAll (ns.map PyData.bool) (ms.map PyData.bool) = decide (ns = ms)
  | [], [] => by simp [PyData.eqvAll]
  | [], _ :: _ => by simp [PyData.eqvAll]
  | _ :: _, [] => by simp [PyData.eqvAll]
  | a :: r, b :: q => by
    have ih := eqvAll_bl r q
    rw [List.map_cons, List.map_cons, PyData.eqvAll, PyData.eqv, ih]
    by_cases h : a = b
    · subst h; simp
    · simp [h]
theorem canLay_int (ns : List Int) : PyData.canLayAll0 (ns.map PyData.int) = true := by
  induction ns with
  | nil => simp [PyData.canLayAll0]
  | cons a r ih => rw [List.map_cons, PyData.canLayAll0, ih]; simp [PyData.canLay0]
theorem canLay_bl (ns : List Bool) : PyData.canLayAll0 (ns.map PyData.bool) = true := by
  induction ns with
  | nil => simp [PyData.canLayAll0]
  | cons a r ih => rw [List.map_cons, PyData.canLayAll0, ih]; simp [PyData.canLay0]
theorem depth_int (ns : List Int) : PyData.depthAll (ns.map PyData.int) ≤ 1 := by
  induction ns with
  | nil => simp [PyData.depthAll]
  | cons a r ih => rw [List.map_cons, PyData.depthAll]; simp [PyData.depth]; omega
theorem depth_bl (ns : List Bool) : PyData.depthAll (ns.map PyData.bool) ≤ 1 := by
  induction ns with
  | nil => simp [PyData.depthAll]
  | cons a r ih => rw [List.map_cons, PyData.depthAll]; simp [PyData.depth]; omega
theorem shaped_int (ns : List Int) : SeqAt.shaped (.list (ns.map PyData.int)) = true := by
  unfold SeqAt.shaped
  rw [PyData.canLay0, canLay_int]
  have := depth_int ns
  simp [PyData.depth]
  omega
theorem shaped_bl (ns : List Bool) : SeqAt.shaped (.list (ns.map PyData.bool)) = true := by
  unfold SeqAt.shaped
  rw [PyData.canLay0, canLay_bl]
  have := depth_bl ns
  simp [PyData.depth]
  omega
variable {q : Addr} {ms : List Int} {cs : List Bool}
theorem r_eqL (h1 : SqL K H p (ns.map V.int)) (h2 : SqL K H q (ms.map V.int)) (k : Q (.bl (decide (ns = ms))) H) : rEqD K (.ref p) (.ref q) H Q :=
  ⟨.list (ns.map PyData.int), .list (ms.map PyData.int), .lst h1 (dpAll_int ns), .lst h2 (dpAll_int ms), shaped_int ns, shaped_int ms, by rw [PyData.eqv, eqvAll_int]; exact k⟩
theorem r_neL (h1 : SqL K H p (ns.map V.int)) (h2 : SqL K H q (ms.map V.int)) (k : Q (.bl (!decide (ns = ms))) H) : rNeD K (.ref p) (.ref q) H Q :=
  ⟨.list (ns.map PyData.int), .list (ms.map PyData.int), .lst h1 (dpAll_int ns), .lst h2 (dpAll_int ms), shaped_int ns, shaped_int ms, by rw [PyData.eqv, eqvAll_int]; exact k⟩
theorem r_eqLB (h1 : SqL K H p (bs.map V.bl)) (h2 : SqL K H q (cs.map V.bl)) (k : Q (.bl (decide (bs = cs))) H) : rEqD K (.ref p) (.ref q) H Q :=
  ⟨.list (bs.map PyData.bool), .list (cs.map PyData.bool), .lst h1 (dpAll_bl bs), .lst h2 (dpAll_bl cs), shaped_bl bs, shaped_bl cs, by rw [PyData.eqv, eqvAll_bl]; exact k⟩
theorem r_neLB (h1 : SqL K H p (bs.map V.bl)) (h2 : SqL K H q (cs.map V.bl)) (k : Q (.bl (!decide (bs = cs))) H) : rNeD K (.ref p) (.ref q) H Q :=
  ⟨.list (bs.map PyData.bool), .list (cs.map PyData.bool), .lst h1 (dpAll_bl bs), .lst h2 (dpAll_bl cs), shaped_bl bs, shaped_bl cs, by rw [PyData.eqv, eqvAll_bl]; exact k⟩
/-! + of lists, a slice, index -/
theorem r_cat {zs : List V} (A : At H0 L H) (h1 : H p = some (.lst xs)) (h2 : H q = some (.lst zs)) (hl : xs.length + zs.length ≤ 10000000) (k : ∀ l H', At H0 ((l, .lst (xs ++ zs)) :: L) H' → Q (.ref l) H') : rCat (.ref p) (.ref q) H Q :=
  ⟨p, q, xs, zs, rfl, rfl, h1, h2, sz hl, fun l hl => k l _ (A.alloc hl _)⟩
def slK (r : V → Option Int → Option Int → Hp → VK → Prop) (x : V) (lo hi : Option Int) (H : Hp) (Q : VK) : Prop := r x lo hi H Q
def ptK (x : V) (QO : Option Int → Hp → Prop) (H : Hp) : Prop := ∃ i, x = .int i ∧ QO (some i) H
theorem r_sl {r : V → Option Int → Option Int → Hp → VK → Prop} {tlo thi : TO} (k : ta σ H fun x H1 => tlo σ H1 fun l H2 => thi σ H2 fun u H3 => r x l u H3 Q) : tSl r ta tlo thi σ H Q := k
theorem r_noPart {QO : Option Int → Hp → Prop} (k : QO none H) : tNoPart σ H QO := k
theorem r_part {QO : Option Int → Hp → Prop} (k : ta σ H fun x H1 => ptK x QO H1) : tPart ta σ H QO := k
theorem r_ptK {QO : Option Int → Hp → Prop} (k : QO (some i) H) : ptK (.int i) QO H := ⟨i, rfl, k⟩
theorem r_slL {lo hi : Option Int} (A : At H0 L H) (h1 : SqL K H p xs) (k : ∀ l H', At H0 ((l, .lst (cutV xs lo hi)) :: L) H' → Q (.ref l) H') : rSlL K (.ref p) lo hi H Q :=
  ⟨p, xs, rfl, h1, fun l hl => k l _ (A.alloc hl _)⟩
def revK (K : PySem.W.Frag) (x : V) (H1 : Hp) (Q : VK) : Prop := ∃ a xs, x = .ref a ∧ SqL K H1 a xs ∧ ∀ p, H1 p = none → Q (.ref p) (upd H1 p (.lst xs.reverse))
theorem r_rev (k : ta σ H fun x H1 => revK K x H1 Q) : tRevL K ta σ H Q := k
theorem r_revK (A : At H0 L H) (h1 : SqL K H p xs) (k : ∀ l H', At H0 ((l, .lst xs.reverse) :: L) H' → Q (.ref l) H') : revK K (.ref p) H Q := ⟨p, xs, rfl, h1, fun l hl => k l _ (A.alloc hl _)⟩
theorem r_revKI (A : At H0 L H) (h1 : SqL K H p (ns.map V.int)) (k : ∀ l H', At H0 ((l, .lst (ns.reverse.map V.int)) :: L) H' → Q (.ref l) H') : revK K (.ref p) H Q := r_revK A h1 fun l H' A' => k l H' (by rw [List.map_reverse]; exact A')
theorem r_aug {n : Nat} {ip : TIp} {w : V} (h : σ[n]? = some (some w)) (k : te σ H fun y H1 => ip w y H1 fun z H2 => D.nx (σ.set n (some z)) H2) : tAug n te ip D σ H := ⟨w, h, k⟩
theorem r_ipI {f : Int → Int → Int} (k : Q (.int (f i j)) H) : ipI f (.int i) (.int j) H Q := ⟨i, j, rfl, rfl, k⟩
def parK (n m : Nat) (D : Ends) (σ : L2.St) (vs : List V) (H1 : Hp) : Prop := ∃ v w, vs = [v, w] ∧ D.nx ((σ.set n (some v)).set m (some w)) H1
theorem r_par {n m : Nat} (k : tl σ H fun vs H1 => parK n m D σ vs H1) : tPar n m tl D σ H := k
theorem r_parK {n m : Nat} {w : V} (k : D.nx ((σ.set n (some v)).set m (some w)) H) : parK n m D σ [v, w] H := ⟨v, w, rfl, k⟩
/-! the place of an int -/
theorem flat_ints (ns : List Int) : (ns.map V.int).all flatV = true := by
  induction ns with
  | nil => rfl
  | cons a r ih => rw [List.map_cons, List.all_cons, ih]; rfl
theorem least_at (z : Int) : ∀ {ns : List Int}, z ∈ ns → ∃ j : Nat, ns[j]? = some z ∧ ∀ (m : Nat) (y : Int), m < j → ns[m]? = some y → y ≠ z
  | [], h => nomatch h
  | a :: r, h => by
    by_cases e : a = z
    · exact ⟨0, by rw [e]; rfl, fun m y hm => absurd hm (Nat.not_lt_zero m)⟩
    · have h' : z ∈ r := (List.mem_cons.mp h).resolve_left (fun q => e q.symm)
      obtain ⟨j, h1, h2⟩ := least_at z h'
      refine ⟨j + 1, h1, fun m y hm hy => ?_⟩
      cases m with
      | zero =>
        have : a = y := Option.some.inj hy
        rw [← this]
        exact e
      | succ m => exact h2 m y (by omega) hy
theorem r_index {z : Int} (h : SqL K H p (ns.map V.int)) (hm : z ∈ ns) (k : ∀ j : Nat, ns[j]? = some z → Q (.int (j : Int)) H) : rIndex K (.ref p) [.int z] H Q := by
  obtain ⟨j, h1, h2⟩ := least_at z hm
  refine ⟨p, _, .int z, j, .int z, rfl, rfl, h, rfl, flat_ints ns, by rw [List.getElem?_map, h1]; rfl, by simp [eqV], fun m y hmj hy => ?_, k j h1⟩
  rw [List.getElem?_map] at hy
  cases e : ns[m]? with
  | none => rw [e] at hy; cases hy
  | some u =>
    rw [e] at hy
    have hy' : V.int u = y := Option.some.inj hy
    subst hy'
    have := h2 m u hmj e
    simp [eqV, this]
def mth2K (C C' : Addr) (m : Str) (sp sp' : Sp) (tl : TA) (σ : L2.St) (x : V) (H1 : Hp) (Q : VK) (E E' : XK) : Prop := ∃ a dx fs, x = .ref a ∧ fs.lookup m = none ∧
  ((H1 a = some (.ins C dx fs) ∧ tl σ H1 fun vs H2 => sp (x :: vs) H2 Q E) ∨ (H1 a = some (.ins C' dx fs) ∧ tl σ H1 fun vs H2 => sp' (x :: vs) H2 Q E'))
theorem r_meth2 {C C' : Addr} {m : Str} {sp sp' : Sp} {E E' : XK} (k : ta σ H fun x H1 => mth2K C C' m sp sp' tl σ x H1 Q E E') : tMeth2 C C' m sp sp' E E' ta tl σ H Q := k
theorem r_m2l {C C' dx a : Addr} {m : Str} {sp sp' : Sp} {E E' : XK} {fs : List (Str × V)} (h : H a = some (.ins C dx fs)) (hl : fs.lookup m = none) (k : tl σ H fun vs H2 => sp (.ref a :: vs) H2 Q E) : mth2K C C' m sp sp' tl σ (.ref a) H Q E E' := ⟨a, dx, fs, rfl, hl, .inl ⟨h, k⟩⟩
theorem r_m2r {C C' dx a : Addr} {m : Str} {sp sp' : Sp} {E E' : XK} {fs : List (Str × V)} (h : H a = some (.ins C' dx fs)) (hl : fs.lookup m = none) (k : tl σ H fun vs H2 => sp' (.ref a :: vs) H2 Q E') : mth2K C C' m sp sp' tl σ (.ref a) H Q E E' := ⟨a, dx, fs, rfl, hl, .inr ⟨h, k⟩⟩
/-! over a tuple -/
def tup1 (K : PySem.W.Frag) (x : V) (H : Hp) (R : It → Hp → Prop) : Prop := ∃ a, x = .ref a ∧ (∃ xs, SqT K H a xs) ∧ R (Itt K a) H
theorem r_forT {g : TG} {tb : TS} (k : ta σ H fun x H1 => tup1 K x H1 fun J H2 => forB J g tb D σ H2) : tFor (iTup K ta) g tb D σ H := k
theorem r_tup1 {R : It → Hp → Prop} (h : SqT K H p xs) (k : R (Itt K p) H) : tup1 K (.ref p) H R := ⟨p, rfl, ⟨xs, h⟩, k⟩
theorem r_forItt {g : TG} {tb : TS} (xs : List V) (Pv : Nat → L2.St → Hp → Prop) (h0 : Pv 0 σ H) (hl : ∀ i σ H, i ≤ xs.length → Pv i σ H → SqT K H p xs)
    (hs : ∀ i x σ H (N : L2.St → Hp → Prop), xs[i]? = some x → Pv i σ H → (∀ σ' H', Pv (i + 1) σ' H' → N σ' H') → g x σ H fun σ2 H2 => tb { D with nx := N, ct := N, bk := D.nx } σ2 H2) (hd : ∀ σ H, Pv xs.length σ H → D.nx σ H) : forB (Itt K p) g tb D σ H :=
  for_tup (K := K) (a := p) (xs := xs) Pv h0 hl (fun i x σ H hi pp => hs i x σ H _ hi pp fun _ _ z => z) hd
/-! a list that the def itself stores into -/
theorem At.of (H0 : Hp) {L : List (Addr × HO)} {H : Hp} (A : At H0 L H) : At H0 L H := A
theorem At.more {H0 H : Hp} {L : List (Addr × HO)} {p : Addr} {o : HO} (A : At H0 L H) (h0 : H0 p = none) (h : H p = some o) (hn : ∀ x ∈ L, x.1 ≠ p) : At H0 ((p, o) :: L) H := by
  refine ⟨A.ex, fun x hx => ?_, fun x hx => ?_, ?_⟩
  · rcases List.mem_cons.mp hx with rfl | hx
    · exact h
    · exact A.own x hx
  · rcases List.mem_cons.mp hx with rfl | hx
    · exact h0
    · exact A.new x hx
  · refine List.nodup_cons.mpr ⟨fun hm => ?_, A.nd⟩
    obtain ⟨x, hx, e⟩ := List.mem_map.mp hm
    exact hn x hx e
/-- two new objects -/
theorem At.two {H0 H : Hp} {p q : Addr} {o u : HO} (s : Same H0 H) (hp : H0 p = none) (hq : H0 q = none) (h1 : H p = some o) (h2 : H q = some u) (d : o ≠ u) : At H0 [(p, o), (q, u)] H :=
  At.more (At.made (At.nil H0) s hq h2) hp h1 fun x hx => by
    rw [List.mem_singleton] at hx
    subst hx
    exact fun e => ne_of h1 h2 d e.symm
theorem r_setLI {QH : Hp → Prop} {z : Int} (A : At H0 ((p, .lst (ns.map V.int)) :: L) H) (h1 : 0 ≤ i) (h2 : i < ns.length) (k : ∀ H', At H0 ((p, .lst ((ns.set i.toNat z).map V.int)) :: L) H' → QH H') : rSetL (.ref p) (.int i) (.int z) H QH :=
  r_setL A h1 (by rw [List.length_map]; exact h2) fun H' A' => k H' (by rw [List.map_set]; exact A')
/-! a list of pairs made: numbers by place, some left out -/
/-- at xs stand references to pairs: those of ps -/
def Prs (H : Hp) (xs : List V) (ps : List (Int × Int)) : Prop := xs.length = ps.length ∧ ∀ (i : Nat) (q : Int × Int), ps[i]? = some q → ∃ t : Addr, xs[i]? = some (V.ref t) ∧ H t = some (HO.tup [V.int q.1, V.int q.2])
theorem Prs.nil : Prs H [] [] := ⟨rfl, fun i q h => by simp at h⟩
theorem Prs.keep {H H' : Hp} {ps : List (Int × Int)} (P : Prs H xs ps) (h : ∀ t q, H t = some (.tup q) → H' t = some (.tup q)) : Prs H' xs ps := ⟨P.1, fun i q e => by
  obtain ⟨t, h1, h2⟩ := P.2 i q e
  exact ⟨t, h1, h _ _ h2⟩⟩
theorem Prs.snoc {ps : List (Int × Int)} {t : Addr} {q : Int × Int} (P : Prs H xs ps) (h : H t = some (.tup [.int q.1, .int q.2])) : Prs H (xs ++ [.ref t]) (ps ++ [q]) := by
  refine ⟨by rw [List.length_append, List.length_append, P.1]; rfl, fun i r e => ?_⟩
  by_cases hi : i < ps.length
  · rw [List.getElem?_append_left hi] at e
    obtain ⟨u, h1, h2⟩ := P.2 i r e
    exact ⟨u, by rw [List.getElem?_append_left (by rw [P.1]; exact hi)]; exact h1, h2⟩
  · rw [List.getElem?_append_right (by omega)] at e
    have hz : i - ps.length = 0 := by
      have := (List.getElem?_eq_some_iff.mp e).1
      simp at this
      omega
    rw [hz] at e
    have e' : q = r := Option.some.inj e
    subst e'
    exact ⟨t, by rw [List.getElem?_append_right (by rw [P.1]; omega), P.1, hz]; rfl, h⟩
theorem r_lcPairs {m : Nat} {vs : List Nat} {n : Nat} (f : Nat → Bool) (g h : Nat → Int) (A : At H0 L H) (hn : n < 10000000) (hw : ∀ x, wipe ((wipe σ vs).set m (some x)) vs = wipe σ vs)
    (he : ∀ (i : Nat) H' L' QT, i < n → At H0 (L' ++ L) H' → mkT [.int (g i), .int (h i)] H' QT → te ((wipe σ vs).set m (some (.int (i : Int)))) H' QT)
    (k : ∀ D H' xs, At H0 ((D, .lst xs) :: L) H' → Prs H' xs (((List.range n).filter f).map fun i => (g i, h i)) → Q (.ref D) H')
    (htt : ∀ (i : Nat) H' L' (QB : Bool → Hp → Prop), i < n → At H0 (L' ++ L) H' → QB (f i) H' → tt ((wipe σ vs).set m (some (.int (i : Int)))) H' QB) : lcB (Itr 0 n) (gName m) tt te vs σ H Q := fun D hD =>
  lc_range (lo := 0) (n := n) (fun i H' => ∃ xs, At H0 ((D, .lst xs) :: L) H' ∧ Prs H' xs (((List.range i).filter f).map fun i => (g i, h i))) ⟨[], A.alloc hD _, Prs.nil⟩ (fun i H' hi ⟨xs, A', P⟩ => by
    refine ⟨hw _, ?_⟩
    show tt ((wipe σ vs).set m (some (.int ((0 : Int) + (i : Int))))) H' _
    rw [Int.zero_add]
    refine htt i H' [(D, .lst xs)] _ hi A' ?_
    cases hf : f i with
    | false =>
      show ∃ xs, _
      rw [List.range_succ, List.filter_append, List.filter_cons_of_neg (by rw [hf]; decide), List.filter_nil, List.append_nil]
      exact ⟨xs, A', P⟩
    | true =>
      show te _ H' _
      refine he i H' [(D, .lst xs)] _ hi A' ⟨by show 2 ≤ sizeLine; exact sz (by decide), fun t ht => ?_⟩
      have B := A'.alloc ht (.tup [.int (g i), .int (h i)])
      have hD2 := B.get (p := D) (List.mem_cons_of_mem _ List.mem_cons_self)
      have ntD : t ≠ D := fun e => by
        rw [e] at ht
        have := A'.get (p := D) List.mem_cons_self
        rw [ht] at this
        cases this
      refine ⟨xs, hD2, ?_, xs ++ [.ref t], (B.tl).put _, ?_⟩
      · have h1 := P.1
        have h2 : (((List.range i).filter f).map fun i => (g i, h i)).length ≤ i := by
          rw [List.length_map]
          have := List.length_filter_le f (List.range i)
          rw [List.length_range] at this
          exact this
        exact sz' (by omega)
      · rw [List.range_succ, List.filter_append, List.filter_cons_of_pos hf, List.filter_nil, List.map_append]
        refine Prs.snoc (Prs.keep P fun u q e => ?_) ?_
        · have nu : u ≠ t := fun z => by rw [z, ht] at e; cases e
          have nD : u ≠ D := fun z => by
            rw [z] at e
            have := A'.get (p := D) List.mem_cons_self
            rw [e] at this
            cases this
          rw [upd_ne nD, upd_ne nu]
          exact e
        · rw [upd_ne ntD]
          exact upd_same) (fun H' ⟨xs, A', P⟩ => k D H' xs A' P)
/-- what pair a reference is to -/
def kfH (H : Hp) : V → Int × Int
  | .ref t => match H t with
    | some (.tup [.int a, .int b]) => (a, b)
    | _ => (0, 0)
  | _ => (0, 0)
theorem kfH_of {t : Addr} {a b : Int} (h : H t = some (.tup [.int a, .int b])) : kfH H (.ref t) = (a, b) := by simp only [kfH, h]
theorem Prs.of {ps : List (Int × Int)} (h : ∀ x ∈ xs, ∃ t, x = V.ref t ∧ H t = some (.tup [.int (kfH H x).1, .int (kfH H x).2])) (e : xs.map (kfH H) = ps) : Prs H xs ps := by
  subst e
  refine ⟨by rw [List.length_map], fun i q hq => ?_⟩
  rw [List.getElem?_map] at hq
  cases hx : xs[i]? with
  | none => rw [hx] at hq; cases hq
  | some x =>
    rw [hx] at hq
    obtain ⟨t, rfl, ht⟩ := h x (List.mem_of_getElem? hx)
    have : kfH H (.ref t) = q := Option.some.inj hq
    rw [this] at ht
    exact ⟨t, rfl, ht⟩
theorem Prs.kf {ps : List (Int × Int)} (P : Prs H xs ps) : (∀ x ∈ xs, ∃ t, x = V.ref t ∧ H t = some (.tup [.int (kfH H x).1, .int (kfH H x).2])) ∧ xs.map (kfH H) = ps := by
  constructor
  · intro x hx
    obtain ⟨i, hi, e⟩ := List.getElem_of_mem hx
    have hi2 : i < ps.length := by rw [← P.1]; exact hi
    obtain ⟨t, h1, h2⟩ := P.2 i (ps[i]'hi2) (List.getElem?_eq_getElem hi2)
    rw [List.getElem?_eq_getElem hi, e] at h1
    have : x = V.ref t := Option.some.inj h1
    subst this
    refine ⟨t, rfl, ?_⟩
    rw [kfH_of h2]
    exact h2
  · refine List.ext_getElem? fun i => ?_
    by_cases hi : i < ps.length
    · obtain ⟨t, h1, h2⟩ := P.2 i ps[i] (List.getElem?_eq_getElem hi)
      rw [List.getElem?_map, h1, List.getElem?_eq_getElem hi]
      show some (kfH H (.ref t)) = _
      rw [kfH_of h2]
    · rw [List.getElem?_eq_none (by rw [List.length_map, P.1]; omega), List.getElem?_eq_none (by omega)]
theorem r_sorted {ps : List (Int × Int)} (A : At H0 ((p, .lst xs) :: L) H) (P : Prs H xs ps)
    (k : ∀ ys qs q H', At H0 ((q, .lst ys) :: (p, .lst xs) :: L) H' → qs.Perm ps → qs.Pairwise (fun a b => a.1 ≤ b.1) → Prs H' ys qs → Q (.ref q) H') : rSortedPO K [.ref p] H Q := by
  obtain ⟨h1, h2⟩ := P.kf
  refine ⟨p, xs, kfH H, rfl, A.sqo List.mem_cons_self, h1, fun ys q hs hst hq => ?_⟩
  refine k ys (ys.map (kfH H)) q _ (A.alloc hq _) (by rw [← h2]; exact hst.perm.map _) ?_ ?_
  · refine List.pairwise_map.mpr (hs.imp fun {a b} hab => ?_)
    have := SrtO.lexB_no.mp hab
    omega
  · have hy : ∀ x ∈ ys, ∃ t, x = V.ref t ∧ H t = some (.tup [.int (kfH H x).1, .int (kfH H x).2]) := fun x hx => h1 x (hst.perm.mem_iff.mp hx)
    refine Prs.keep (Prs.of hy rfl) fun t r e => ?_
    rw [upd_ne (ne_of_none e hq)]
    exact e
theorem r_gTup2 {i j : Nat} {t : Addr} {u v : V} {QS : L2.St → Hp → Prop} (h : SqT K H t [u, v]) (k : QS ((σ.set i (some u)).set j (some v)) H) : gTup K 2 (gCons (gName i) (gCons (gName j) gNil)) (.ref t) σ H QS :=
  ⟨t, _, rfl, h, rfl, u, [v], rfl, v, [], rfl, rfl, k⟩
/-! over zip of two lists of ints -/
def zip1 (K : PySem.W.Frag) (vs : List V) (H1 : Hp) (R : It → Hp → Prop) : Prop := ∃ a b xs ys, vs = [.ref a, .ref b] ∧ SqL K H1 a xs ∧ SqL K H1 b ys ∧ R (Itz K a b) H1
theorem r_forZ {g : TG} {tb : TS} (k : tl σ H fun vs H1 => zip1 K vs H1 fun J H2 => forB J g tb D σ H2) : tFor (iZip K tl) g tb D σ H := k
theorem r_lcZ {g : TG} {vs : List Nat} (k : tl σ H fun us H1 => zip1 K us H1 fun J H2 => lcB J g tt te vs σ H2 Q) : tLc (iZip K tl) g tt te vs σ H Q := k
theorem r_zip1 {R : It → Hp → Prop} {ys : List V} (h : SqL K H p xs) (h2 : SqL K H q ys) (k : R (Itz K p q) H) : zip1 K [.ref p, .ref q] H R := ⟨p, q, xs, ys, rfl, h, h2, k⟩
theorem map_get_inv {ns : List Int} {i : Nat} {x : V} (h : (ns.map V.int)[i]? = some x) : ∃ z, ns[i]? = some z ∧ x = V.int z := by
  rw [List.getElem?_map] at h
  cases e : ns[i]? with
  | none => rw [e] at h; cases h
  | some z => rw [e] at h; exact ⟨z, rfl, (Option.some.inj h).symm⟩
theorem r_forItz {i1 j1 : Nat} {tb : TS} (ns ms : List Int) (hlen : ns.length = ms.length) (Pv : Nat → L2.St → Hp → Prop) (h0 : Pv 0 σ H) (hl : ∀ i σ H, Pv i σ H → SqL K H p (ns.map V.int) ∧ SqL K H q (ms.map V.int))
    (hs : ∀ i x y σ H t (N : L2.St → Hp → Prop), ns[i]? = some x → ms[i]? = some y → Pv i σ H → H t = none → (∀ σ' H', Pv (i + 1) σ' H' → N σ' H') → tb { D with nx := N, ct := N, bk := D.nx } ((σ.set i1 (some (V.int x))).set j1 (some (V.int y))) (upd H t (.tup [.int x, .int y])))
    (hd : ∀ σ H, Pv ns.length σ H → D.nx σ H) : forB (Itz K p q) (gTup K 2 (gCons (gName i1) (gCons (gName j1) gNil))) tb D σ H :=
  for_it (walk_zip (K := K) (a := p) (b := q) (xs := ns.map V.int) (ys := ms.map V.int) (n := ns.length) (by rw [List.length_map, List.length_map]; omega)) Pv h0 (fun i σ H _ pp => hl i σ H pp) (fun i v σ H H' hi pp hy => by
    obtain ⟨t, x0, y0, rfl, ht, rfl, hx0, hy0⟩ := hy
    obtain ⟨x, hx, rfl⟩ := map_get_inv hx0
    obtain ⟨y, hy, rfl⟩ := map_get_inv hy0
    refine r_gTup2 (SqT.of upd_same) ?_
    exact hs i x y σ H t _ hx hy pp ht fun _ _ z => z) hd
theorem zipWith_take_succ {f : Int → Int → Int} {ns ms : List Int} {i : Nat} {x y : Int} (hx : ns[i]? = some x) (hy : ms[i]? = some y) : (List.zipWith f ns ms).take (i + 1) = (List.zipWith f ns ms).take i ++ [f x y] := by
  rw [List.take_add_one, List.getElem?_zipWith, hx, hy]
  rfl
theorem r_lcZI {i1 j1 : Nat} {vs : List Nat} (f : Int → Int → Int) (ns ms : List Int) (hlen : ns.length = ms.length) (A : At H0 L H) (h1 : SqL K H0 p (ns.map V.int) ∨ (p, HO.lst (ns.map V.int)) ∈ L) (h2 : SqL K H0 q (ms.map V.int) ∨ (q, HO.lst (ms.map V.int)) ∈ L) (hn : ns.length < 10000000) (hw : ∀ x y, wipe (((wipe σ vs).set i1 (some x)).set j1 (some y)) vs = wipe σ vs)
    (hs : ∀ (i : Nat) (x y : Int) H' L' Q', ns[i]? = some x → ms[i]? = some y → At H0 (L' ++ L) H' → (∀ v H2, v = V.int (f x y) → At H0 (L' ++ L) H2 → Q' v H2) → te (((wipe σ vs).set i1 (some (.int x))).set j1 (some (.int y))) H' Q')
    (k : ∀ D H', At H0 ((D, .lst ((List.zipWith f ns ms).map V.int)) :: L) H' → Q (.ref D) H') : lcB (Itz K p q) (gTup K 2 (gCons (gName i1) (gCons (gName j1) gNil))) tYes te vs σ H Q := fun D hD =>
  lc_it (walk_zip (K := K) (a := p) (b := q) (xs := ns.map V.int) (ys := ms.map V.int) (n := ns.length) (by rw [List.length_map, List.length_map]; omega)) (fun i H' => At H0 ((D, .lst (((List.zipWith f ns ms).take i).map V.int)) :: L) H') (A.alloc hD _) (fun i H' _ A' => by
    refine ⟨?_, ?_⟩
    · rcases h1 with h | h
      · exact A'.sq h
      · exact A'.sqo (List.mem_cons_of_mem _ h)
    · rcases h2 with h | h
      · exact A'.sq h
      · exact A'.sqo (List.mem_cons_of_mem _ h)) (fun i v H' H2 hi A' hy => by
    obtain ⟨t, x0, y0, rfl, ht, rfl, hx0, hy0⟩ := hy
    obtain ⟨x, hx, rfl⟩ := map_get_inv hx0
    obtain ⟨y, hy, rfl⟩ := map_get_inv hy0
    refine r_gTup2 (SqT.of upd_same) ⟨hw _ _, ?_⟩
    have B := A'.alloc ht (.tup [.int x, .int y])
    refine hs i x y _ [(t, .tup [.int x, .int y]), (D, .lst (((List.zipWith f ns ms).take i).map V.int))] _ hx hy B fun v H3 e A3 => ?_
    subst e
    have C := A3.tl
    refine ⟨_, C.get List.mem_cons_self, ?_, ?_⟩
    · rw [List.length_map, List.length_take]
      exact sz' (by omega)
    · rw [zipWith_take_succ hx hy, List.map_append]
      exact C.put _) (fun H' A' => by
    rw [List.take_of_length_le (by rw [List.length_zipWith]; omega)] at A'
    exact k D H' A')
theorem ty_tuple (h : SqT K H p xs) : TyX K H (.ref p) (.type "tuple") := by
  rcases h with (h | ⟨o, h⟩) | ⟨o, its, n, h, hc, _⟩
  · exact .base (.tup h)
  · exact .fTuple h
  · exact .kTuple h hc
theorem r_isiT {b : Bool} {n : String} (hs : SqT K H p xs) (h : kitB "tuple" n = some b) (k : Q (.bl b) H) : rIsi K [.ref p, .ty n] H Q := ⟨_, _, _, _, b, rfl, .ty n, ty_tuple hs, kit_ty h, k⟩
theorem r_isiTT (hs : SqT K H p xs) (k : Q (.bl true) H) : rIsi K [.ref p, .ty "tuple"] H Q := r_isiT hs (by decide +kernel) k
theorem r_cut {Mid : L2.St → Hp → Prop} (h : t { D with nx := Mid } σ H) (k : ∀ σ' H', Mid σ' H' → u D σ' H') : Evl.tCut t u D σ H := ⟨Mid, h, k⟩
theorem rep_flat (z : Int) : ∀ n : Nat, (List.replicate n [V.int z]).flatten = (List.replicate n z).map V.int
  | 0 => rfl
  | n + 1 => by
    rw [List.replicate_succ, List.replicate_succ, List.flatten_cons, List.map_cons, rep_flat z n]
    rfl
theorem r_rep1 {z : Int} (A : At H0 L H) (h : H p = some (.lst [V.int z])) {n : Nat} (hi : i = (n : Int)) (hn : n ≤ 1000000) (k : ∀ l H', At H0 ((l, .lst ((List.replicate n z).map V.int)) :: L) H' → Q (.ref l) H') : rRep (.ref p) (.int i) H Q := by
  subst hi
  refine ⟨p, _, _, rfl, rfl, h, by omega, by omega, ?_, fun l hl => ?_⟩
  · show 1 * ((n : Int)).toNat ≤ sizeLine
    exact sz (by omega)
  · rw [Int.toNat_natCast, rep_flat]
    exact k l _ (A.alloc hl _)
theorem At.made2 {H0 H H' : Hp} {L : List (Addr × HO)} {p q : Addr} {o u : HO} (A : At H0 L H) (s : Same H H') (hp : H p = none) (hq : H q = none) (h1 : H' p = some o) (h2 : H' q = some u) (d : p ≠ q) : At H0 ((p, o) :: (q, u) :: L) H' :=
  At.more (At.made A s hq h2) (A.ex.free hp) h1 fun x hx => by
    rcases List.mem_cons.mp hx with rfl | hx
    · exact d.symm
    · exact ne_of_none (A.own x hx) hp
theorem At.bring {H0 H : Hp} {L1 L2 : List (Addr × HO)} {x : Addr × HO} (A : At H0 (L1 ++ x :: L2) H) : At H0 (x :: (L1 ++ L2)) H := A.perm List.perm_middle.symm
def bm0K (K : PySem.W.Frag) (T : String) (r : V → List V → Hp → VK → Prop) (x : V) (H : Hp) (Q : VK) : Prop := tyV K T x H ∧ r x [] H Q
theorem r_bm0 {T : String} {r : V → List V → Hp → VK → Prop} (k : ta σ H fun x H1 => bm0K K T r x H1 Q) : tBM0 K T r ta σ H Q := k
theorem r_bm0L {r : V → List V → Hp → VK → Prop} (h : SqL K H p xs) (k : r (.ref p) [] H Q) : bm0K K "list" r (.ref p) H Q := ⟨Or.inl ⟨rfl, _, h⟩, k⟩
theorem r_clear (A : At H0 ((p, .lst xs) :: L) H) (k : ∀ H', At H0 ((p, .lst []) :: L) H' → Q .non H') : rClear (.ref p) [] H Q := ⟨p, xs, rfl, rfl, A.get List.mem_cons_self, k _ (A.put _)⟩
theorem Same.hp {H H' : Hp} {p : Addr} {o : HO} (s : Same H H') (h : H p = some o) : H' p = some o := s _ _ h
theorem Same.st {H H' : Hp} {p : Addr} {xs : List V} (s : Same H H') (h : SqT K H p xs) : SqT K H' p xs := (At.nil H |>.same s).st h
end
end EB

/-! EvMath: lists of ints around a ring -/
namespace EM
open EB
theorem gz_mem {ns : List Int} {i : Int} (h0 : -(ns.length : Int) ≤ i) (h1 : i < ns.length) : gz ns i ∈ ns := by
  unfold gz
  by_cases h : 0 ≤ i
  · rw [if_pos h, List.getD_eq_getElem?_getD, List.getElem?_eq_getElem (show i.toNat < ns.length by omega)]
    exact List.getElem_mem _
  · rw [if_neg h, List.getD_eq_getElem?_getD, List.getElem?_eq_getElem (show (i + ns.length).toNat < ns.length by omega)]
    exact List.getElem_mem _
theorem map_app {α β : Type} (f : α → β) (l : List α) (x : α) : l.map f ++ [f x] = (l ++ [x]).map f := by simp
/-- what each gives more than comes in, around -/
def cyc (cs : List Int) : List Int := (List.range cs.length).map fun (k : Nat) => gz cs (k : Int) - gz cs ((k : Int) - 1)
theorem cyc_len (cs : List Int) : (cyc cs).length = cs.length := by unfold cyc; rw [List.length_map, List.length_range]
theorem sum_range_succ (f : Nat → Int) (n : Nat) : ((List.range (n + 1)).map f).sum = ((List.range n).map f).sum + f n := by
  rw [List.range_succ, List.map_append, List.sum_append]
  simp
/-- the ints by place: a function -/
def fz (ns : List Int) (k : Nat) : Int := ns.getD k 0
theorem gz_pred {cs : List Int} {k : Nat} : gz cs ((k : Int) - 1) = if k = 0 then fz cs (cs.length - 1) else fz cs (k - 1) := by
  unfold gz fz
  by_cases h : k = 0
  · subst h
    rw [if_pos rfl, if_neg (by omega)]
    congr 1
    omega
  · rw [if_neg h, if_pos (by omega)]
    congr 1
    omega
theorem cyc_sum (cs : List Int) (h : cs ≠ []) : (cyc cs).sum = 0 := by
  have key : ∀ n : Nat, 0 < n → ((List.range n).map fun (k : Nat) => gz cs (k : Int) - gz cs ((k : Int) - 1)).sum = fz cs (n - 1) - fz cs (cs.length - 1) := by
    intro n
    induction n with
    | zero => intro z; omega
    | succ n ih =>
      intro _
      rw [sum_range_succ]
      by_cases hn : n = 0
      · subst hn
        rw [gz_nat, gz_pred, if_pos rfl]
        simp [fz]
      · rw [ih (by omega), gz_nat, gz_pred, if_neg hn]
        simp only [fz, Nat.add_sub_cancel]
        omega
  unfold cyc
  rw [key cs.length (List.length_pos_iff.mpr h)]
  omega
theorem cyc_bound {cs : List Int} {b : Int} (hb : ∀ c ∈ cs, -b ≤ c ∧ c ≤ b) : ∀ x ∈ cyc cs, -(2 * b) ≤ x ∧ x ≤ 2 * b := by
  intro x hx
  unfold cyc at hx
  obtain ⟨k, hk, rfl⟩ := List.mem_map.mp hx
  have hk' := List.mem_range.mp hk
  have h1 := hb _ (gz_mem (ns := cs) (i := (k : Int)) (by omega) (by omega))
  have h2 := hb _ (gz_mem (ns := cs) (i := (k : Int) - 1) (by omega) (by omega))
  omega
theorem cyc_head {cs : List Int} (h : cs ≠ []) : (cyc cs).getD 0 0 = fz cs 0 - fz cs (cs.length - 1) := by
  have hl := List.length_pos_iff.mpr h
  unfold cyc
  rw [List.getD_eq_getElem?_getD, List.getElem?_map, List.getElem?_range hl]
  show gz cs ((0 : Nat) : Int) - gz cs (((0 : Nat) : Int) - 1) = _
  rw [gz_nat, gz_pred, if_pos rfl]
  rfl
/-- what a drawn ring is -/
structure Houses (n : Nat) (hs : List Int) : Prop where
  len : hs.length = n + 2
  sum : hs.sum = 0
  bd : ∀ x ∈ hs, -999998 ≤ x ∧ x ≤ 999998
  hd : -500000 ≤ hs.getD 0 0 ∧ hs.getD 0 0 ≤ 500000
theorem houses_of {n : Nat} {cs : List Int} (hl : cs.length = n + 2) (hb : ∀ c ∈ cs, -499999 ≤ c ∧ c ≤ 499999) (h0 : -1 ≤ fz cs 0 ∧ fz cs 0 ≤ 1) : Houses n (cyc cs) := by
  have hne : cs ≠ [] := fun e => by rw [e] at hl; simp at hl
  refine ⟨by rw [cyc_len, hl], cyc_sum cs hne, cyc_bound hb, ?_⟩
  rw [cyc_head hne]
  have : fz cs (cs.length - 1) ∈ cs := by
    unfold fz
    rw [List.getD_eq_getElem?_getD, List.getElem?_eq_getElem (show cs.length - 1 < cs.length by omega)]
    exact List.getElem_mem _
  have := hb _ this
  omega
theorem fz_app {cs : List Int} {x : Int} (h : cs ≠ []) : fz (cs ++ [x]) 0 = fz cs 0 := by
  cases cs with
  | nil => exact absurd rfl h
  | cons a r => rfl
theorem cyc_get {cs : List Int} {k : Nat} (h : k < cs.length) : (cyc cs)[k]? = some (gz cs (k : Int) - gz cs ((k : Int) - 1)) := by
  unfold cyc
  rw [List.getElem?_map, List.getElem?_range h]
  rfl
theorem all_cyc {cs hs : List Int} (hl : cs.length = hs.length) : (((List.range hs.length).map fun (k : Nat) => decide (gz cs (k : Int) - gz cs ((k : Int) - 1) = gz hs (k : Int))).all id) = decide (cyc cs = hs) := by
  rw [Bool.eq_iff_iff]
  rw [List.all_eq_true, decide_eq_true_eq]
  constructor
  · intro h
    refine List.ext_getElem? fun k => ?_
    by_cases hk : k < hs.length
    · rw [cyc_get (by omega)]
      have := h (decide (gz cs (k : Int) - gz cs ((k : Int) - 1) = gz hs (k : Int))) (List.mem_map.mpr ⟨k, List.mem_range.mpr hk, rfl⟩)
      have e := of_decide_eq_true this
      rw [e, gz_nat, List.getD_eq_getElem?_getD, List.getElem?_eq_getElem hk]
      rfl
    · rw [List.getElem?_eq_none (by rw [cyc_len]; omega), List.getElem?_eq_none (by omega)]
  · intro h b hb
    obtain ⟨k, hk, rfl⟩ := List.mem_map.mp hb
    have hk' := List.mem_range.mp hk
    have := cyc_get (cs := cs) (k := k) (by omega)
    rw [h, List.getElem?_eq_getElem hk'] at this
    refine decide_eq_true ?_
    rw [← Option.some.inj this, gz_nat, List.getD_eq_getElem?_getD, List.getElem?_eq_getElem hk']
    rfl
/-- the running sums -/
def runs (hs : List Int) : List Int := (List.range hs.length).map fun (k : Nat) => (hs.take (k + 1)).sum
theorem runs_len (hs : List Int) : (runs hs).length = hs.length := by unfold runs; rw [List.length_map, List.length_range]
theorem runs_get {hs : List Int} {k : Nat} (h : k < hs.length) : (runs hs)[k]? = some (hs.take (k + 1)).sum := by
  unfold runs
  rw [List.getElem?_map, List.getElem?_range h]
  rfl
theorem runs_take {hs : List Int} {i : Nat} {x : Int} (h : hs[i]? = some x) : (runs hs).take (i + 1) = (runs hs).take i ++ [(hs.take (i + 1)).sum] := by
  have hi : i < hs.length := (List.getElem?_eq_some_iff.mp h).1
  rw [List.take_add_one, runs_get hi]
  rfl
/-- the least and the greatest of a list -/
structure Ext (ns : List Int) (lo hi : Int) : Prop where
  lm : lo ∈ ns
  hm : hi ∈ ns
  bd : ∀ y ∈ ns, lo ≤ y ∧ y ≤ hi
theorem Ext.uniq {ns : List Int} {lo hi lo' hi' : Int} (a : Ext ns lo hi) (b : Ext ns lo' hi') : lo = lo' ∧ hi = hi' := by
  have h1 := a.bd _ b.lm
  have h2 := b.bd _ a.lm
  have h3 := a.bd _ b.hm
  have h4 := b.bd _ a.hm
  omega
theorem fz_get {ns : List Int} {k : Nat} (h : k < ns.length) : ns[k]? = some (fz ns k) := by
  unfold fz
  rw [List.getD_eq_getElem?_getD, List.getElem?_eq_getElem h]
  rfl
theorem fz_of {ns : List Int} {k : Nat} {x : Int} (h : ns[k]? = some x) : fz ns k = x := by
  unfold fz
  rw [List.getD_eq_getElem?_getD, h]
  rfl
theorem fz_map {f : Int → Int} {ns : List Int} {k : Nat} (h : k < ns.length) : fz (ns.map f) k = f (fz ns k) := by
  refine fz_of ?_
  rw [List.getElem?_map, fz_get h]
  rfl
theorem fz_runs {hs : List Int} {k : Nat} (h : k < hs.length) : fz (runs hs) k = (hs.take (k + 1)).sum := fz_of (runs_get h)
theorem sum_take_succ {hs : List Int} {k : Nat} (h : k < hs.length) : (hs.take (k + 1)).sum = (hs.take k).sum + fz hs k := by
  rw [List.take_add_one, fz_get h, List.sum_append]
  simp
theorem list_ext {xs ys : List Int} (hl : xs.length = ys.length) (h : ∀ k, k < xs.length → fz xs k = fz ys k) : xs = ys := by
  refine List.ext_getElem? fun k => ?_
  by_cases hk : k < xs.length
  · rw [fz_get hk, fz_get (by omega), h k hk]
  · rw [List.getElem?_eq_none (by omega), List.getElem?_eq_none (by omega)]
theorem fz_cyc {cs : List Int} {k : Nat} (h : k < cs.length) : fz (cyc cs) k = fz cs k - (if k = 0 then fz cs (cs.length - 1) else fz cs (k - 1)) := by
  rw [fz_of (cyc_get h), gz_nat, gz_pred]
  rfl
/-- the running sums, all less the same number, even a ring that has nothing in all -/
theorem cyc_runs {hs : List Int} (m : Int) (h0 : hs.sum = 0) : cyc ((runs hs).map fun r => r - m) = hs := by
  have hl : ((runs hs).map fun r => r - m).length = hs.length := by rw [List.length_map, runs_len]
  refine list_ext (by rw [cyc_len, hl]) fun k hk => ?_
  rw [cyc_len] at hk
  rw [fz_cyc hk, hl]
  have hrl := runs_len hs
  rw [fz_map (by omega), fz_runs (by omega)]
  by_cases h : k = 0
  · subst h
    rw [if_pos rfl, fz_map (by omega), fz_runs (by omega)]
    have e : hs.take (hs.length - 1 + 1) = hs := List.take_of_length_le (by omega)
    rw [e, h0, sum_take_succ (by omega)]
    simp
  · rw [if_neg h, fz_map (by omega), fz_runs (by omega), sum_take_succ (by omega)]
    rw [show k - 1 + 1 = k by omega]
    omega
theorem mid_ok {lo hi y most : Int} (h1 : lo ≤ y) (h2 : y ≤ hi) (h : hi - lo ≤ 2 * most) : ((y - (lo + hi) / 2).natAbs : Int) ≤ most := by omega
/-- what the houses on a stretch have together -/
def str (hs : List Int) (f m : Nat) : Int := (((hs ++ hs).drop f).take m).sum
theorem str_in {hs : List Int} {f m : Nat} (h : f + m ≤ hs.length) : str hs f m = (hs.take (f + m)).sum - (hs.take f).sum := by
  unfold str
  rw [List.drop_append_of_le_length (by omega), List.take_append_of_le_length (by rw [List.length_drop]; omega)]
  have : hs.take (f + m) = hs.take f ++ (hs.drop f).take m := by rw [List.take_add]
  rw [this, List.sum_append]
  omega
theorem str_cyc {hs : List Int} {f m : Nat} (hf : f < hs.length) (hm : m < hs.length) : str hs f m = ((List.range m).map fun (k : Nat) => gz hs (((f : Int) + (k : Int)) % (hs.length : Int))).sum := by
  unfold str
  congr 1
  refine list_ext ?_ fun k hk => ?_
  · rw [List.length_take, List.length_drop, List.length_append, List.length_map, List.length_range]
    omega
  · rw [List.length_take, List.length_drop, List.length_append] at hk
    have e1 : (((hs ++ hs).drop f).take m)[k]? = (hs ++ hs)[f + k]? := by
      rw [List.getElem?_take, if_pos (by omega), List.getElem?_drop]
    have e2 : fz ((List.range m).map fun (k : Nat) => gz hs (((f : Int) + (k : Int)) % (hs.length : Int))) k = gz hs (((f : Int) + (k : Int)) % (hs.length : Int)) := by
      refine fz_of ?_
      rw [List.getElem?_map, List.getElem?_range (by omega)]
      rfl
    rw [e2]
    by_cases h : f + k < hs.length
    · have e3 : ((f : Int) + (k : Int)) % (hs.length : Int) = ((f + k : Nat) : Int) := by rw [Int.emod_eq_of_lt (by omega) (by omega)]; omega
      rw [e3, gz_nat]
      rw [List.getElem?_append_left h] at e1
      exact fz_of (e1.trans (fz_get h))
    · have e3 : ((f : Int) + (k : Int)) % (hs.length : Int) = ((f + k - hs.length : Nat) : Int) := by
        rw [← Int.sub_emod_right, Int.emod_eq_of_lt (by omega) (by omega)]
        omega
      rw [e3, gz_nat]
      rw [List.getElem?_append_right (by omega)] at e1
      exact fz_of (e1.trans (fz_get (by omega)))
/-- whether a stretch shows what it tells -/
def strB (hs : List Int) (f m most : Int) : Bool := decide (hs.sum = 0) && decide (0 ≤ f ∧ f < hs.length) && decide (1 ≤ m ∧ m < hs.length) && decide (2 * most < ((str hs f.toNat m.toNat).natAbs : Int))
/-- two running sums far apart are a stretch -/
theorem str_runs {hs : List Int} {i j : Nat} {lo hi most : Int} (hm : 0 ≤ most) (hi' : (runs hs)[i]? = some lo) (hj : (runs hs)[j]? = some hi) (h : 2 * most < hi - lo) :
    0 ≤ min (i : Int) j + 1 ∧ min (i : Int) j + 1 < hs.length ∧ 1 ≤ (((i : Int) - j).natAbs : Int) ∧ (((i : Int) - j).natAbs : Int) < hs.length ∧ ((str hs (min (i : Int) j + 1).toNat ((i : Int) - j).natAbs).natAbs : Int) = hi - lo := by
  have hrl := runs_len hs
  have h1 : i < hs.length := by have := (List.getElem?_eq_some_iff.mp hi').1; omega
  have h2 : j < hs.length := by have := (List.getElem?_eq_some_iff.mp hj).1; omega
  have e1 : (hs.take (i + 1)).sum = lo := by rw [runs_get h1] at hi'; exact Option.some.inj hi'
  have e2 : (hs.take (j + 1)).sum = hi := by rw [runs_get h2] at hj; exact Option.some.inj hj
  have ne : i ≠ j := fun e => by subst e; omega
  refine ⟨by omega, by omega, by omega, by omega, ?_⟩
  rcases Nat.lt_or_gt_of_ne ne with hlt | hlt
  · have a1 : (min (i : Int) j + 1).toNat = i + 1 := by omega
    have a2 : ((i : Int) - j).natAbs = j - i := by omega
    rw [a1, a2, str_in (by omega), show i + 1 + (j - i) = j + 1 by omega, e1, e2]
    omega
  · have a1 : (min (i : Int) j + 1).toNat = j + 1 := by omega
    have a2 : ((i : Int) - j).natAbs = i - j := by omega
    rw [a1, a2, str_in (by omega), show j + 1 + (i - j) = i + 1 by omega, e1, e2]
    omega
theorem strB_true {hs : List Int} {f m most : Int} (h0 : hs.sum = 0) (hf : 0 ≤ f ∧ f < hs.length) (hm : 1 ≤ m ∧ m < hs.length) : strB hs f m most = decide (2 * most < ((str hs f.toNat m.toNat).natAbs : Int)) := by
  unfold strB
  rw [decide_eq_true h0, decide_eq_true hf, decide_eq_true hm]
  rfl
/-- a carrying changed at house 0 evens no more -/
theorem cyc_bent {cs hs : List Int} (hl : 2 ≤ cs.length) (h : cyc cs = hs) : cyc (cs.set 0 (fz cs 0 + 1)) ≠ hs := by
  intro e
  have e1 := fz_cyc (cs := cs) (k := 0) (by omega)
  have e2 := fz_cyc (cs := cs.set 0 (fz cs 0 + 1)) (k := 0) (by rw [List.length_set]; omega)
  rw [h] at e1
  rw [e, if_pos rfl, List.length_set] at e2
  rw [if_pos rfl] at e1
  have a1 : fz (cs.set 0 (fz cs 0 + 1)) 0 = fz cs 0 + 1 := fz_of (List.getElem?_set_self (by omega))
  have a2 : fz (cs.set 0 (fz cs 0 + 1)) (cs.length - 1) = fz cs (cs.length - 1) := by
    refine fz_of ?_
    rw [List.getElem?_set_ne (by omega)]
    exact fz_get (by omega)
  rw [a1, a2] at e2
  omega
/-- the greatest within a bound: all are -/
theorem max_all {ns : List Int} {m b : Int} (h1 : m ∈ ns) (h2 : ∀ y ∈ ns, y ≤ m) : decide (m ≤ b) = ns.all fun y => decide (y ≤ b) := by
  rw [Bool.eq_iff_iff, decide_eq_true_eq, List.all_eq_true]
  constructor
  · intro h y hy
    have := h2 y hy
    exact decide_eq_true (by omega)
  · intro h
    exact of_decide_eq_true (h m h1)
theorem all_map_id {α : Type} (l : List α) (g : α → Bool) : ((l.map g).all id) = l.all g := by rw [List.all_map]; rfl
open PySem L2 in
theorem cut_str {hs : List Int} {f m : Int} (h1 : 0 ≤ f) (h2 : f ≤ hs.length) (h3 : 0 ≤ m) (h4 : m < hs.length) : cutV (hs.map V.int ++ hs.map V.int) (some f) (some (f + m)) = (((hs ++ hs).drop f.toNat).take m.toNat).map V.int := by
  unfold cutV
  obtain ⟨a, rfl⟩ : ∃ a : Nat, f = a := ⟨f.toNat, by omega⟩
  obtain ⟨b, rfl⟩ : ∃ b : Nat, m = b := ⟨m.toNat, by omega⟩
  rw [show (a : Int) + (b : Int) = ((a + b : Nat) : Int) by omega]
  rw [HT.sIx_nat, HT.sIx_nat, List.length_append, List.length_map]
  rw [show min a (hs.length + hs.length) = a by omega, ← List.map_append]
  rw [List.map_take, List.map_drop]
  simp only [Int.toNat_natCast]
  rw [show min (a + b) (hs.length + hs.length) - a = b by omega]
end EM

/-! EvText: words of a text that are whole numbers (for law k06; no program in sight) -/
namespace ET
open PySem PySem.Builtin PySem.Builtin.Str SX NumText PyProof.Rows
theorem tw_all {g : Nat → Bool} {a : List Nat} (h : ∀ c ∈ a, g c = true) : a.takeWhile g = a := NumText.takeWhile_all h
theorem tw_le {g : Nat → Bool} (a : List Nat) : (a.takeWhile g).length ≤ a.length := (List.takeWhile_sublist g).length_le
theorem tw_mem {g : Nat → Bool} : ∀ {a : List Nat} {c : Nat}, c ∈ a.takeWhile g → g c = true
  | x :: a, c, h => by
    rw [List.takeWhile_cons] at h
    split at h
    · rename_i hx
      rcases List.mem_cons.mp h with rfl | h
      · exact hx
      · exact tw_mem h
    · exact nomatch h
theorem tw_full {g : Nat → Bool} : ∀ {a : List Nat}, (a.takeWhile g).length = a.length → ∀ c ∈ a, g c = true
  | [], _, _, hc => nomatch hc
  | x :: a, h, c, hc => by
    rw [List.takeWhile_cons] at h
    split at h
    · rename_i hx
      rcases List.mem_cons.mp hc with rfl | hc
      · exact hx
      · exact tw_full (a := a) (by rw [List.length_cons, List.length_cons] at h; omega) c hc
    · rw [List.length_cons, List.length_nil] at h
      omega
theorem drop_tw {g : Nat → Bool} : ∀ {a : List Nat} {c : Nat} {r : List Nat}, a.drop (a.takeWhile g).length = c :: r → g c = false
  | [], _, _, h => by simp at h
  | x :: a, c, r, h => by
    rw [List.takeWhile_cons] at h
    split at h
    · exact drop_tw (a := a) h
    · rename_i hx
      rw [List.length_nil, List.drop_zero] at h
      injection h with h1 h2
      rw [← h1]
      simpa using hx
/-- t.strip(signs) leaves nothing: all its signs are among them -/
theorem strip_empty (a b : List Nat) : Txt.stripChars (S a) (S b) = S [] ↔ ∀ c ∈ a, c ∈ b := by
  have hg : ∀ c, (S b).cps.contains c = true ↔ c ∈ b := fun c => by simp [S]
  unfold Txt.stripChars
  rw [stripBy_eq]
  generalize (S b).cps.contains = g at hg
  have e1 : stripLo g true (S a) = (a.takeWhile g).length := by
    unfold stripLo
    rw [if_pos rfl]
  have e2 : ∀ lo, stripHi g true (S a) lo = a.length - ((a.drop lo).reverse.takeWhile g).length := fun lo => by
    unfold stripHi
    rw [if_pos rfl, S_len]
  rw [e1, e2]
  constructor
  · intro h c hc
    rw [← hg]
    have hl := congrArg (fun x : Str => x.cps.size) h
    have hl' : (strSub (S a) (a.takeWhile g).length (a.length - ((a.drop (a.takeWhile g).length).reverse.takeWhile g).length)).cps.size = 0 := hl
    unfold strSub at hl'
    rw [Array.size_extract] at hl'
    have hs : (S a).cps.size = a.length := by simp [S]
    rw [hs] at hl'
    have h1 := tw_le (g := g) a
    by_cases hf : (a.takeWhile g).length = a.length
    · exact tw_full hf c hc
    · exfalso
      cases e : a.drop (a.takeWhile g).length with
      | nil =>
        have := congrArg List.length e
        rw [List.length_drop, List.length_nil] at this
        omega
      | cons c0 r =>
        have hc0 := drop_tw e
        have h2 := tw_le (g := g) (c0 :: r).reverse
        have hlen := congrArg List.length e
        rw [List.length_drop] at hlen
        rw [e] at hl'
        rw [List.length_reverse] at h2
        by_cases h3 : (((c0 :: r).reverse).takeWhile g).length = (c0 :: r).length
        · have := tw_full (g := g) (a := (c0 :: r).reverse) (by rw [List.length_reverse]; exact h3) c0 (List.mem_reverse.mpr List.mem_cons_self)
          rw [hc0] at this
          cases this
        · omega
  · intro h
    have h1 : a.takeWhile g = a := tw_all fun c hc => (hg c).mpr (h c hc)
    rw [h1]
    refine TL.ext_tl ?_
    show ((S a).cps.extract a.length _).toList = []
    rw [Array.toList_extract]
    simp [S]
/-! ### numbers -/
theorem fold_lt : ∀ (cs : List Nat) (a : Nat), AllDigits cs → cs.foldl (fun acc c => acc * 10 + (c - 48)) a < (a + 1) * 10 ^ cs.length
  | [], a, _ => by simp
  | c :: cs, a, h => by
    have hc := h.head
    have ih := fold_lt cs (a * 10 + (c - 48)) h.tail
    rw [List.foldl_cons, List.length_cons, Nat.pow_succ]
    refine Nat.lt_of_lt_of_le ih ?_
    rw [Nat.mul_comm (10 ^ cs.length) 10, ← Nat.mul_assoc]
    exact Nat.mul_le_mul_right _ (by omega)
theorem val_lt {cs : List Nat} (h : AllDigits cs) (h7 : cs.length ≤ 7) : digitsVal cs < 10000000 := by
  have h1 := fold_lt cs 0 h
  have h2 : 10 ^ cs.length ≤ 10 ^ 7 := Nat.pow_le_pow_right (by decide) h7
  show cs.foldl _ 0 < _
  omega
theorem chars_back : ∀ {cs : List Nat}, AllDigits cs → (cs.map Char.ofNat).map Char.toNat = cs
  | [], _ => rfl
  | c :: cs, h => by
    have hc := h.head
    have e : (Char.ofNat c).toNat = c := by
      have : ∀ d : Nat, d < 10 → (Char.ofNat (48 + d)).toNat = 48 + d := by decide
      have z := this (c - 48) (by omega)
      rw [show 48 + (c - 48) = c by omega] at z
      exact z
    rw [List.map_cons, List.map_cons, e, chars_back h.tail]
/-- figures without a nought ahead (or the nought alone) are the text of their number -/
theorem num_back {ds : List Nat} (hd : AllDigits ds) (h1 : 1 ≤ ds.length) (hz : ds.head? = some 48 → ds = [48]) : TL.numL (digitsVal ds) = ds := by
  unfold TL.numL
  rw [toDigits_digitsVal (ds.length - 1) ds (by omega) hd, chars_back hd]
  cases ds with
  | nil => simp at h1
  | cons c r =>
    by_cases e : c = 48
    · have := hz (by rw [e]; rfl)
      rw [this]
      exact .inl rfl
    · have := hd.head
      exact .inr ⟨c, r, rfl, by omega⟩
def sgn (neg : Bool) (ds : List Nat) : List Nat := if neg then 45 :: ds else ds
/-- a word that is a number by the rules: what it reads to, and that this is written just so -/
theorem word_num {neg : Bool} {ds : List Nat} (hd : AllDigits ds) (h1 : 1 ≤ ds.length) (h7 : ds.length ≤ 7) (hz : ds.head? = some 48 → neg = false ∧ ds = [48]) :
    ∃ n : Int, intText? (S (sgn neg ds)) = some n ∧ -10000000 < n ∧ n < 10000000 ∧ Str.ofString (toString n) = S (sgn neg ds) := by
  have hv := val_lt hd h7
  have hb := num_back hd h1 (fun e => (hz e).2)
  have hne : ds ≠ [] := fun e => by rw [e] at h1; simp at h1
  cases neg with
  | false =>
    refine ⟨(digitsVal ds : Nat), ?_, by omega, by omega, ?_⟩
    · exact intText_digits (x := S ds) hd hne (by rw [S_len]; omega)
    · rw [num_S, hb]
      rfl
  | true =>
    have hpos : 0 < digitsVal ds := by
      cases ds with
      | nil => exact absurd rfl hne
      | cons c r =>
        have hc := hd.head
        by_cases e : c = 48
        · have := (hz (by rw [e]; rfl)).1
          cases this
        · exact digitsVal_pos (by omega)
    refine ⟨-((digitsVal ds : Nat) : Int), ?_, by omega, by omega, ?_⟩
    · exact intText_neg (x := S (45 :: ds)) rfl hd hne (by rw [S_len, List.length_cons]; omega)
    · obtain ⟨k, hk⟩ : ∃ k, digitsVal ds = k + 1 := ⟨digitsVal ds - 1, by omega⟩
      have hb' := hb
      rw [hk] at hb' ⊢
      refine TL.ext_tl ?_
      rw [TL.tl_ofString]
      have e : toString (-((k + 1 : Nat) : Int)) = "-" ++ toString ((k + 1 : Nat) : Int) := rfl
      rw [e, String.toList_append, List.map_append, ← TL.tl_ofString (toString ((k + 1 : Nat) : Int)), TL.tl_num, hb']
      rfl
end ET

/-! EvWord: the words of a text, as the program and the row take them -/
namespace EW
open PySem PySem.Builtin PySem.Builtin.Str SX L2
theorem cut_minus (w : Str) : decide (cutS w none (some 1) = Str.ofString "-") = Txt.startswith w (Str.ofString "-") := by
  obtain ⟨l, rfl⟩ : ∃ l, w = S l := ⟨w.cps.toList, (S_tl w).symm⟩
  have e : Str.ofString "-" = S [45] := by decide +kernel
  rw [e]
  cases l with
  | nil => decide +kernel
  | cons c r =>
    have h1 : cutS (S (c :: r)) none (some 1) = S [c] := by
      unfold cutS
      show (⟨(((c :: r).drop 0).take (HT.sIx (S (c :: r)).length (S (c :: r)).length (some ((1 : Nat) : Int)) - 0)).toArray⟩ : Str) = _
      rw [HT.sIx_nat, S_len, List.length_cons, show min 1 (r.length + 1) - 0 = 1 by omega]
      rfl
    have h2 : Txt.startswith (S (c :: r)) (S [45]) = decide (c = 45) := by
      unfold Txt.startswith subAt
      have h3 : (S (c :: r)).cps.extract 0 (0 + (S [45]).length) = #[c] := by
        apply Array.toList_inj.mp
        rw [Array.toList_extract]
        rfl
      rw [h3, S_len, S_len]
      show (decide (0 + 1 ≤ r.length + 1) && (#[c] == #[45])) = _
      rw [decide_eq_true (by omega), Bool.true_and]
      by_cases q : c = 45
      · subst q; decide
      · rw [decide_eq_false q]
        simp [q]
    rw [h1, h2]
    exact decide_eq_decide.mpr ⟨fun z => by have := S_inj z; injection this, fun z => by rw [z]⟩
theorem minus_head {w : Str} (h : Txt.startswith w (Str.ofString "-") = true) : ∃ r, w = S (45 :: r) ∧ cutS w (some 1) none = S r := by
  rw [← cut_minus] at h
  have h := of_decide_eq_true h
  obtain ⟨l, rfl⟩ : ∃ l, w = S l := ⟨w.cps.toList, (S_tl w).symm⟩
  have e : Str.ofString "-" = S [45] := by decide +kernel
  rw [e] at h
  have h' := congrArg (fun x : Str => x.cps.toList) h
  have h'' : (l.drop 0).take (HT.sIx (S l).length (S l).length (some ((1 : Nat) : Int)) - 0) = [45] := h'
  rw [HT.sIx_nat, S_len, List.drop_zero] at h''
  cases l with
  | nil => simp at h''
  | cons c r =>
    rw [List.length_cons, show min 1 (r.length + 1) - 0 = 1 by omega] at h''
    have hc : c = 45 := by
      have : [c] = [45] := h''
      injection this
    subst hc
    refine ⟨r, rfl, ?_⟩
    unfold cutS
    show (⟨(((45 :: r).drop (HT.sIx (S (45 :: r)).length 0 (some ((1 : Nat) : Int)))).take ((S (45 :: r)).length - HT.sIx (S (45 :: r)).length 0 (some ((1 : Nat) : Int)))).toArray⟩ : Str) = _
    rw [HT.sIx_nat, S_len, List.length_cons, show min 1 (r.length + 1) = 1 by omega]
    show (⟨(r.take (r.length + 1 - 1)).toArray⟩ : Str) = _
    rw [show r.length + 1 - 1 = r.length by omega, List.take_length]
/-- the figures of a word -/
def figs (w : Str) : Str := if Txt.startswith w "-" then cutS w (some 1) none else w
/-- a word that is a number by the program's own rules -/
def okW (w : Str) : Bool := decide (1 ≤ (figs w).length ∧ (figs w).length ≤ 7) && (decide (Txt.stripChars (figs w) "0123456789" = "") && !(decide ((figs w).cps.toList.head? = some 48) && decide (w ≠ "0")))
theorem ok_num {w : Str} (h : okW w = true) : ∃ n, intText? w = some n ∧ -10000000 < n ∧ n < 10000000 ∧ Str.ofString (toString n) = w := by
  unfold okW at h
  rw [Bool.and_eq_true, Bool.and_eq_true] at h
  obtain ⟨h1, h2, h3⟩ := h
  have h1 := of_decide_eq_true h1
  have h2 := of_decide_eq_true h2
  have ed : ("0123456789" : Str) = S [48, 49, 50, 51, 52, 53, 54, 55, 56, 57] := by decide +kernel
  have ee : ("" : Str) = S [] := by decide +kernel
  have e0 : ("0" : Str) = S [48] := by decide +kernel
  have hd : NumText.AllDigits (figs w).cps.toList := fun c hc => by
    have z : Txt.stripChars (S (figs w).cps.toList) (S [48, 49, 50, 51, 52, 53, 54, 55, 56, 57]) = S [] := by rw [S_tl, ← ed, ← ee]; exact h2
    have := (ET.strip_empty _ _).mp z c hc
    simp at this
    omega
  have hl : (figs w).cps.toList.length = (figs w).length := Array.length_toList
  have hz : (figs w).cps.toList.head? = some 48 → w = S [48] := fun e => by
    rw [decide_eq_true e, Bool.true_and] at h3
    by_cases q : w = "0"
    · rw [q, e0]
    · rw [decide_eq_true q] at h3
      cases h3
  cases hm : Txt.startswith w (Str.ofString "-") with
  | true =>
    obtain ⟨r, e1, e2⟩ := minus_head hm
    have ef : figs w = S r := by
      unfold figs
      have hm' : Txt.startswith w "-" = true := hm
      rw [if_pos hm']
      exact e2
    have el : (figs w).cps.toList = r := by rw [ef]
    rw [el] at hd hl hz
    have := ET.word_num (neg := true) hd (by omega) (by omega) (fun e => by
      have z := hz e
      rw [e1] at z
      have := S_inj z
      injection this with q _
      cases q)
    rw [e1]
    exact this
  | false =>
    have ef : figs w = w := by
      unfold figs
      have hm' : Txt.startswith w "-" = false := hm
      rw [hm']
      rfl
    have ew : S (figs w).cps.toList = w := by rw [ef]
    have := ET.word_num (neg := false) hd (by omega) (by omega) (fun e => ⟨rfl, by
      have z := hz e
      rw [← ew] at z
      exact S_inj z⟩)
    have e3 : ET.sgn false (figs w).cps.toList = (figs w).cps.toList := rfl
    rw [e3, ew] at this
    exact this
theorem str_small {x : Int} (h : -1000000 ≤ x ∧ x ≤ 1000000) : (Str.ofString (toString x)).length ≤ 16 := by
  have h1 := int_text_length_le10 (a := x) (k := 7) (by decide) (by omega)
  have h2 := congrArg List.length (TL.tl_ofString (toString x))
  rw [List.length_map] at h2
  have h3 : (TL.tl (Str.ofString (toString x))).length = (Str.ofString (toString x)).length := Array.length_toList
  have h4 : (toString x).toList.length = (toString x).length := String.length_toList
  omega
/-- what the row's own reading of a word tells -/
def numW (w : Str) : Option Int := if okW w then (match intText? w with | some n => if -1000001 < n ∧ n < 1000001 then some n else none | none => none) else none
/-! ### the words of a text -/
theorem joinL_mem {sp : List Nat} : ∀ {ys : List (List Nat)} {v : List Nat}, v ∈ ys → v.length ≤ (TL.joinL sp ys).length
  | [p], v, h => by
    rw [List.mem_singleton.mp h]
    exact Nat.le_refl _
  | p :: q :: r, v, h => by
    show v.length ≤ (p ++ (sp ++ TL.joinL sp (q :: r))).length
    rw [List.length_append, List.length_append]
    rcases List.mem_cons.mp h with rfl | h
    · omega
    · have := joinL_mem (sp := sp) h
      omega
theorem joinL_few {sp : List Nat} (hs : 1 ≤ sp.length) : ∀ ys : List (List Nat), ys.length ≤ (TL.joinL sp ys).length + 1
  | [] => Nat.zero_le _
  | [p] => by show 1 ≤ _; omega
  | p :: q :: r => by
    have ih := joinL_few hs (q :: r)
    show (q :: r).length + 1 ≤ (p ++ (sp ++ TL.joinL sp (q :: r))).length + 1
    rw [List.length_append, List.length_append]
    omega
theorem split_back (t : Str) : TL.joinL (TL.tl (Str.ofString " ")) ((Txt.split t (Str.ofString " ")).map TL.tl) = TL.tl t := by
  rw [← TL.tl_join, StrLaws.join_split]
theorem split_few (t : Str) : (Txt.split t (Str.ofString " ")).length ≤ t.length + 1 := by
  have h := joinL_few (sp := TL.tl (Str.ofString " ")) (by decide +kernel) ((Txt.split t (Str.ofString " ")).map TL.tl)
  rw [split_back, List.length_map] at h
  have e : (TL.tl t).length = t.length := Array.length_toList
  omega
theorem split_len {t v : Str} (h : v ∈ Txt.split t (Str.ofString " ")) : v.length ≤ t.length := by
  have h' := joinL_mem (sp := TL.tl (Str.ofString " ")) (ys := (Txt.split t (Str.ofString " ")).map TL.tl) (v := TL.tl v) (List.mem_map.mpr ⟨v, h, rfl⟩)
  rw [split_back] at h'
  have e : (TL.tl t).length = t.length := Array.length_toList
  have e2 : (TL.tl v).length = v.length := Array.length_toList
  omega
end EW

/-! EvFly: a call in the element of a list comprehension lets an error out: the names of the block are let go, the error goes on in the frame of the def itself (for law k06) -/
namespace EF
open PySem PySem.Spec PyProof.Rows L2 HandSPX
theorem traced_but {h h' base base' : Heap} {a C : Addr} {Z : Obj → Prop} {fl : Value} {m : Str → Option Value} (hn : h.Ns C m) (sb : Heap.SameBut C h h') (hb : ∀ T, base.get? T = none → base'.get? T = none) (t : TracedZ h base a Z fl) : TracedZ h' base' a Z fl := by
  obtain ⟨oe, vs, T, oT, ts, he, hz, hd, h1, hnT, hTe, hT, hdT, h3⟩ := t
  obtain ⟨oC, es, ep, hC, hdC, _⟩ := hn
  have ne : ∀ {b o us}, h.get? b = some o → o.data = .fields us → b ≠ C := fun {b o us} e q z => by
    rw [z, hC] at e
    injection e with e
    rw [e, q] at hdC
    cases hdC
  exact ⟨oe, vs, T, oT, ts, (sb.2 a (ne he hd)).trans he, hz, hd, h1, hb T hnT, hTe, (sb.2 T (ne hT hdT)).trans hT, hdT, h3⟩
section
variable {X : Cx} {pins : List (Addr × Obj)} {σ0 : L2.St} {H1 : Hp} {s1 s' : Shared} {E : XK} {W : WX} {cenv : Env} {u : Value}
theorem fails (hs : X.stack = X.env :: X.outer) (hf : X.env.frame = some X.env.locals) (tk : L2N.Takes X W) (hE : ∀ cls d H, E cls d H → W cls d σ0 H) (J : Inv X pins σ0 H1 s1)
    (c : L2N.CX X.prog X.w X.stack H1 s1 E u s') (hcf : cenv.frame = X.env.frame) (fC : FpOk X pins H1 cenv.locals) (nC : cenv.locals ∉ frs X.stack) {m : Str → Option Value} (hm : s1.heap.Ns cenv.locals m) :
    notedBy (model X.prog X.w) X.A cenv (CompFails (model X.prog X.w) X.A X.xe cenv) u s' := by
  obtain ⟨a, B, H', cls, d, rfl, fl, hok, ub, na, os, ag, hE'⟩ := c
  have hfr : X.A.frames = some (X.env :: X.outer) := by rw [J.ok.frames, hs]
  -- the ground without the block's names
  obtain ⟨B', gB, gC⟩ := restrict B fun b => decide (b ≠ cenv.locals)
  have gB : ∀ b, b ≠ cenv.locals → B'.get? b = B.get? b := fun b hb => gB b (decide_eq_true hb)
  have gC : B'.get? cenv.locals = none := gC _ (by simp)
  have B'B : ∀ b o, B'.get? b = some o → B.get? b = some o := fun b o e => by
    by_cases hb : b = cenv.locals
    · rw [hb, gC] at e; cases e
    · rw [← gB b hb]; exact e
  have nB' : ∀ T, B.get? T = none → B'.get? T = none := fun T e => by
    cases q : B'.get? T with
    | none => rfl
    | some o => rw [B'B T o q] at e; cases e
  have sub' : B'.StaysIn s'.heap := fun b o e => fl.1 b o (B'B b o e)
  have naB : B'.get? a = none := nB' a fl.2.1
  have frB : ∀ b ∈ frs X.stack, B'.get? b = none := fun b hb => nB' b (fl.2.2.1.mem hb).1
  have funs' : s'.heap.FunFrames B' X.stack := funFrames_none fl.2.2.1 frB
  have tr' : TracedZ s'.heap B' a (L2N.Zn cls d) .none := by
    obtain ⟨oe, vs, T, oT, ts, he, hz, hd, h1, hnT, r⟩ := fl.2.2.2
    exact ⟨oe, vs, T, oT, ts, he, hz, hd, h1, nB' T hnT, r⟩
  have fl' : FlyingZ B' (X.env :: X.outer) a (L2N.Zn cls d) s'.heap := by
    rw [← hs]
    exact ⟨sub', naB, funs', tr'⟩
  -- the block's names, still there
  have hmC : s'.heap.Ns cenv.locals m := by
    obtain ⟨o, es, ep, ho, r⟩ := hm
    exact ⟨o, es, ep, fl.1 _ _ (ub.keep _ o ho fC.1 nC), r⟩
  have nC' : H' cenv.locals = none := by
    obtain ⟨o, es, ep, ho, r⟩ := hm
    exact ub.free _ o ho fC.1
  show wpAny _ _ (noteFrame (.ref a) cenv) _ _ s'
  rw [noteFrame_env _ hcf]
  refine PXN.looks_onZ L2N.Zn.steady hfr hf fl' fun h1 hH1 up1 => ?_
  have hm1 : h1.Ns cenv.locals m := hmC.upToSlots up1
  refine ⟨m, hm1, fun h2 m2 hm2 sb => ?_⟩
  obtain ⟨b1, b0, f1, t1⟩ := hH1
  have b2 : B'.StaysIn h2 := fun b o e => (sb.2 b fun q => by rw [q, gC] at e; cases e).trans (b1 b o e)
  have f2 := Heap.FunFrames.sameBut sb hm2 f1
  have t2 := traced_but hm1 sb (fun _ z => z) t1
  obtain ⟨oe, vs, T, oT, ts, he, hz, hd, hv1, hr⟩ := id t2
  unfold PySem.passOn
  refine wpAny_bind (wpAny_field he hd hv1 ?_)
  rw [if_neg (show ¬ ((Value.ref T == Value.none) = true) from by simp), hcf, hf]
  refine wpAny_bind (setFlight_onZ (base := B') (l := X.env :: X.outer) (Z := L2N.Zn cls d) (L := X.env.locals) ⟨b2, b0, f2, t2⟩ fun h3 hH3 up3 => wpAny_throw ?_)
  -- the state without the exception
  obtain ⟨G, g1, g2⟩ := restrict s'.heap fun b => (B'.get? b).isSome || decide (b ∈ frs X.stack)
  have GB : ∀ b o, B'.get? b = some o → G.get? b = some o := fun b o e => by
    rw [g1 b (by simp [e])]
    exact sub' b o e
  have GF : ∀ b, b ∈ frs X.stack → G.get? b = s'.heap.get? b := fun b hb => g1 b (by simp [hb])
  have Gs : ∀ b o, G.get? b = some o → s'.heap.get? b = some o ∧ ((B'.get? b).isSome = true ∨ b ∈ frs X.stack) := fun b o e => by
    cases q : ((B'.get? b).isSome || decide (b ∈ frs X.stack)) with
    | false => rw [g2 b q] at e; cases e
    | true =>
      rw [g1 b q] at e
      exact ⟨e, by simpa [Bool.or_eq_true] using q⟩
  have Gn : ∀ b o, G.get? b = some o → b ≠ cenv.locals := fun b o e z => by
    rcases (Gs b o e).2 with q | q
    · rw [z, gC] at q; cases q
    · rw [z] at q; exact nC q
  have hokB : HOk X.prog X.w H' B' := fun b o q => (hok b o q).stay (fun c v hc r => by
    have z : c ≠ cenv.locals := fun z => by
      rcases hc with hc | hc
      · rw [← hc, z, nC'] at q; cases q
      · rw [z, nC'] at hc; cases hc
    rw [gB c z]; exact r) (fun _ r => r) fun _ _ r => r
  have JI : Inv X pins σ0 H' { s1 with heap := G, gens := s'.gens, drawn := s'.drawn, toks := s'.toks } := by
    refine J.call (ch := [cenv.locals]) ⟨fun b o e n hb hc => ?_, fun b o e n hb hc => ?_, fun b o e n _ => ub.free b o e n, fun b o e hc => ?_, ub.tups, ub.frzs, ub.tbls⟩ (hokB.kept GB) ag (fun b hb => ?_)
    · have hc : b ≠ cenv.locals := fun z => hc (by simp [z])
      exact GB b o (by rw [gB b hc]; exact ub.keep b o e n hb)
    · obtain ⟨sl, q⟩ := ub.slot b o e hb
      exact ⟨sl, by rw [GF b hb]; exact q⟩
    · have hc : b ≠ cenv.locals := fun z => hc (by simp [z])
      by_cases hb : b ∈ frs X.stack
      · obtain ⟨sl, q⟩ := ub.slot b o e hb
        exact ⟨_, by rw [GF b hb]; exact q⟩
      · obtain ⟨o', q⟩ := ub.there b o e hb
        exact ⟨o', GB b o' (by rw [gB b hc]; exact q)⟩
    · have hb : b = cenv.locals := by simpa using hb
      subst hb
      exact ⟨fC.2.2.2.1, fC.2.1, fC.2.2.2.2.1, fC.2.2.2.2.2⟩
  refine tk _ _ ⟨a, B', _, pins, σ0, H', cls, d, rfl, JI, fun b o e hb => ?_, fun b o e hnf => ?_, .inr (.inr (by rw [hs]; exact hH3)), na, os, ag, hE _ _ _ hE'⟩
  · obtain ⟨e', q⟩ := Gs b o e
    rcases q with q | q
    · obtain ⟨o', q⟩ := Option.isSome_iff_exists.mp q
      have z := sub' b o' q
      rw [e'] at z; cases z
      exact q
    · exact absurd q hb
  · obtain ⟨sl1, q1⟩ := up1 b o (Gs b o e).1 hnf
    have q2 := (sb.2 b (Gn b o e)).trans q1
    obtain ⟨sl3, q3⟩ := up3 b _ q2 hnf
    exact ⟨sl3, q3⟩
end
/-! ### name = [f(x) for x in a list], f a def that may let an error out -/
/-- a list's iterator: what it hands out is told by the list's values -/
theorem goes_vals {prog : Program} {w : World} {A : Around} {target : Expr} (hh : A.handled = none) (I l : Addr) (hne : l ≠ I) (xs : List V) :
    Goes prog w A target I [I, l] [I] xs.length (fun i v _ => ∃ x, xs[i]? = some x ∧ RelV x v) (fun i h => h.IsListIter I l i ∧ ∃ its : List Value, Vals xs its ∧ h.IsList l its.toArray) where
  sub := fun b hb => by rw [List.mem_singleton.mp hb]; exact List.mem_cons_self
  frame := fun i h h' ⟨⟨o, e, r⟩, its, rv, ol, el, rl⟩ k => ⟨⟨o, k I (by simp) o e, r⟩, its, rv, ol, k l (by simp) ol el, rl⟩
  goes := fun i s Q E hi ⟨hit, its, rv, hl⟩ hq => by
    obtain ⟨x, hx⟩ : ∃ x, xs[i]? = some x := ⟨_, List.getElem?_eq_getElem hi⟩
    obtain ⟨v, hv, rx⟩ := rv.get hx
    refine wpAny_pyNext_list_item hit hl (x := v) (by simpa using hv) fun h' hit' sb => ⟨v, rfl, ?_⟩
    have hl' := hl.extBut sb.extBut hne
    obtain ⟨o, ho, hc, hd⟩ := id hit'
    exact letGo_of_cls ho hc hd (by decide) (hq v h' s.toks ⟨x, hx, rx⟩ ⟨hit', its, rv, hl'⟩ (fun b o hb e => sb.extBut b o (fun z => hb (List.mem_singleton.mpr z)) e) (Nat.le_refl _))
  stops := fun s Q E ⟨hit, its, rv, hl⟩ hq => by
    have e : its.toArray[xs.length]? = none := by simp [rv.length]
    exact wpAny_pyNext_list_end hh hit hl e fun h' k => ⟨rfl, hq h' s.toks (fun b o hb q => k b o (fun z => hb (List.mem_singleton.mpr z)) q) (Nat.le_refl _)⟩
  self := fun _ _ _ _ st hq => wpAny_pyIter_listiter st.1 hq
section
variable {X : Cx} {pins : List (Addr × Obj)} {σ : L2.St} {H H' : Hp} {s : Shared} {h' : Heap}
/-- what of ours is not tracked may turn -/
structure Loose (X : Cx) (pins : List (Addr × Obj)) (b : Addr) : Prop where
  nL : b ≠ X.env.locals
  nF : b ∉ X.fs
  new : b ∈ X.ex ∨ X.s_0.heap.objs.size ≤ b
  cell : ∀ x c, X.env.cells.lookup x = some c → c ≠ b
  pin : ∀ p ∈ X.pn ++ pins, p.1 ≠ b
theorem loose_of (I : Inv X pins σ H s) {b : Addr} (hb : s.heap.objs.size ≤ b) : Loose X pins b :=
  let ⟨_, z1, z2, z3, z4, z5⟩ := I.fpOk (H' := H) hb (I.hok.fresh hb)
  ⟨z1, z2, z3, z4, z5⟩
theorem Loose.fp {b : Addr} (l : Loose X pins b) (n : H b = none) : FpOk X pins H b := ⟨n, l.nL, l.nF, l.new, l.cell, l.pin⟩
theorem Loose.far {b : Addr} (l : Loose X pins b) (I : Inv X pins σ H s) : b ∉ frs X.stack := fun hm => (List.mem_cons.mp (I.stkSub b hm)).elim l.nL l.nF
theorem turns {D I0 : Addr} (I : Inv X pins σ H s) (lD : Loose X pins D) (lI : Loose X pins I0) (nD : H D = none) (nI : H I0 = none) {tk : Nat} (k : ∀ b o, b ∉ [D, I0] → s.heap.get? b = some o → h'.get? b = some o) : Inv X pins σ H { s with heap := h', toks := tk } := by
  have off : ∀ b o, H b = some o → b ∉ [D, I0] := fun b o e hm => by
    rcases List.mem_cons.mp hm with z | hm
    · rw [z, nD] at e; cases e
    · rw [List.mem_singleton.mp hm, nI] at e; cases e
  refine I.call' (s' := { s with heap := h', toks := tk }) (ch := [D, I0]) rfl ⟨fun b o e _ _ hb => k b o hb e, fun b o e _ _ hb => ⟨o.slots, k b o hb e⟩, fun b o _ n _ => n, fun b o e hb => ⟨o, k b o hb e⟩, fun _ _ e => e, fun _ _ _ e => e, fun b ps e => ⟨#[], by rw [e]; simp⟩⟩ (fun b u e => ?_) I.bare (fun b hb => ?_)
  · refine (I.hok b u e).stay (fun c v hc q => k c v ?_ q) (fun _ q => q) fun _ _ q => q
    rcases hc with z | z
    · exact z ▸ off b u e
    · exact off c _ z
  · rcases List.mem_cons.mp hb with z | hb
    · exact z ▸ ⟨lD.new, lD.nL, lD.cell, lD.pin⟩
    · exact (List.mem_singleton.mp hb) ▸ ⟨lI.new, lI.nL, lI.cell, lI.pin⟩
/-- the list that was made is tracked from here on -/
theorem tracks {D : Addr} {vs : List V} {ys : List Value} (I : Inv X pins σ H s) (lD : Loose X pins D) (nD : H D = none) (hp : s.heap.PlainList D ys.toArray) (rv : Vals vs ys) (hl : vs.length ≤ sizeLine) : Inv X pins σ (upd H D (.lst vs)) s := by
  obtain ⟨n, e⟩ := hp
  have ne : ∀ b o, H b = some o → b ≠ D := fun b o q z => by rw [z, nD] at q; cases q
  refine I.call' (ch := [D]) rfl ⟨fun b o e _ _ _ => e, fun b o e _ _ _ => ⟨o.slots, e⟩, fun b o _ q hb => ?_, fun b o e _ => ⟨o, e⟩, fun b xs q => ?_, fun b o xs q => ?_, fun b ps q => ⟨#[], ?_⟩⟩ (fun b u q => ?_) I.bare (fun b hb => ?_)
  · rw [upd_ne (fun z => hb (List.mem_singleton.mpr z))]
    exact q
  · rw [upd_ne (ne b _ q)]
    exact q
  · rw [upd_ne (ne b _ q)]
    exact q
  · rw [upd_ne (ne b _ q), q]
    simp
  · by_cases z : b = D
    · subst z
      rw [upd_same] at q
      obtain rfl := Option.some.inj q
      exact ⟨hl, ys, n, rv, e⟩
    · rw [upd_ne z] at q
      exact (I.hok b u q).stay (fun _ _ _ r => r) (fun _ r => by rw [upd_ne (ne _ _ r)]; exact r) fun _ _ r => by rw [upd_ne (ne _ _ r)]; exact r
  · exact (List.mem_singleton.mp hb) ▸ ⟨lD.new, lD.nL, lD.cell, lD.pin⟩
end
/-- what the statement asks: the list p, and Pv, which knows what the calls so far gave -/
def tFly (te : TE) (sp : Sp) (W : XK) (i : Nat) : TS := fun D σ H => te σ H fun v H1 => ∃ (p : Addr) (xs : List V) (Pv : List V → Hp → Prop), v = .ref p ∧ Pv [] H1 ∧ (∀ vs H', Pv vs H' → H' p = some (.lst xs)) ∧
  (∀ vs x H', xs[vs.length]? = some x → Pv vs H' → sp [x] H' (fun r H2 => Pv (vs ++ [r]) H2) W) ∧ ∀ vs H' a, vs.length = xs.length → Pv vs H' → H' a = none → D.nx (σ.set i (some (.ref a))) (upd H' a (.lst vs))
section
variable {X : Cx} {W : XK} {i k : Nat} {y x fn : Str} {py px pn pq pc pos spos : Pos} {iter : Expr} {scope : Scope} {te : TE} {f : Addr} {fd : FuncData} {ps : List Str} {sp : Sp}
theorem ps_callLc (hc : X.calm = true) (hst : X.stack = X.env :: X.outer) (hfL : X.env.frame = some X.env.locals) (tk : L2N.Takes X fun cls d _ H => W cls d H)
    (hN : X.N.Nodup) (hy : X.N[i]? = some y) (hyl : X.env.scope.names.lookup y = some .local)
    (hsw : swapsWith (.ListComp (.Call (.Name fn pn) [.Name x pq] [] pc) [⟨.Name x px, iter, [], 0⟩] scope pos) (some (.Name y py)) spos.line X.env = pure true)
    (hfree : ∀ z ∈ scope.names, z.2 ≠ .free) (hcell : ∀ z ∈ scope.names, z.2 ≠ .cell) (hkind : scope.kind = .function) (hnames : ∀ z ∈ scope.names, z.2 = .local → scope.names.lookup z.1 = some .local)
    (hx : scope.names.lookup x = some .local) (hg : (relabel scope X.env).names.lookup fn = some .globalImplicit) (hi : PE X iter te)
    (F : FnOk X.prog X.w X.K X.mg X.base (L2N.CX X.prog X.w) k f fd ps sp) (hr : Room k X.A) (hm : X.mg fn = some (.ref f)) (hk : PySem.W.keepIn X.K (.ref f) = true) (hb : Binds X.K fd ps [])
    (hd1 : (fn == ("__debug__" : Str)) = false := by decide) (hd2 : (x == ("__debug__" : Str)) = false := by decide) (hs : ∀ z, foldedSetIterable iter X.env z = pure z := by intro _; rfl) :
    PS X (.Assign [.Name y py] (.ListComp (.Call (.Name fn pn) [.Name x pq] [] pc) [⟨.Name x px, iter, [], 0⟩] scope pos) spos) (tFly te sp W i) := by
  refine ⟨fun pins s σ H D J h => ?_⟩
  refine Assign_ListComp_goes hsw (closure_ok fun z hz e => absurd e (hfree z hz)) hcell hkind hnames (thn (hi.run pins s σ H _ J h) fun xv s1 h1 => ?_) hs
  obtain ⟨v, H1, J1, r1, p, xs, Pv, rfl, P0, hP, step, fin⟩ := h1
  obtain rfl : xv = .ref p := r1
  obtain ⟨hxs, its, n, rv, hp⟩ := J1.hok p _ (hP _ _ P0)
  refine wpAny_pyIter_list (Heap.PlainList.isList ⟨n, hp⟩) ?_
  have hpl := Heap.lt_size hp
  generalize hI : s1.heap.objs.size = it at hpl
  generalize hs2 : ({ s1 with heap := s1.heap.push { cls := .type "list_iterator", data := .fields #[.ref p, .int 0 0] } } : Shared) = s2
  have e2 : s2.heap = s1.heap.push { cls := .type "list_iterator", data := .fields #[.ref p, .int 0 0] } := by rw [← hs2]
  have k2 : ∀ b o, s1.heap.get? b = some o → s2.heap.get? b = some o := fun b o e => by rw [e2]; exact Heap.get?_push_of_some _ e
  have z2 : s2.heap.objs.size = it + 1 := by rw [e2, Heap.size_push, hI]
  have J2 : Inv X pins σ H1 s2 := by
    rw [← hs2]
    exact J1.turnedL (t' := s1.toks) (ch := []) (fun b o _ e => Heap.get?_push_of_some _ e) fun b hb => by cases hb
  have lI : Loose X pins it := loose_of J1 (Nat.le_of_eq hI)
  have nI : H1 it = none := J1.hok.fresh (Nat.le_of_eq hI)
  have st2 : s2.heap.IsListIter it p 0 := ⟨_, by rw [e2, ← hI]; exact Heap.get?_push_size _ rfl, rfl, rfl⟩
  have hne : p ≠ it := Nat.ne_of_lt hpl
  refine ⟨it, [it, p], [it], xs.length, _, _, rfl, goes_vals (J1.ok.hd hc) it p hne xs, hxs, ⟨st2, its, rv, Heap.PlainList.isList ⟨n, k2 _ _ hp⟩⟩, fun b hb => ?_, fun A C s3 cb => ?_⟩
  · rw [z2]
    rcases List.mem_cons.mp hb with e | hb
    · rw [e]; exact Nat.lt_succ_self _
    · rw [List.mem_singleton.mp hb]; exact Nat.lt_succ_of_lt hpl
  -- the new list, the block of names
  have lA : Loose X pins A := loose_of J2 cb.newD
  have lC : Loose X pins C := loose_of J2 cb.newC
  have nA : H1 A = none := J2.hok.fresh cb.newD
  have nC : H1 C = none := J2.hok.fresh cb.newC
  have iA : it ≠ A := fun e => by have := cb.newD; omega
  have iC : it ≠ C := fun e => by have := cb.newC; omega
  obtain ⟨h3, t3, e3⟩ := cb.only
  have k3 := cb.old
  have m3 := cb.names
  subst e3
  have J3 : Inv X pins σ H1 { s2 with heap := h3, toks := t3 } := J2.turnedL (t' := t3) (ch := []) (fun b o _ e => k3 b o e) fun b hb => by cases hb
  have kx : (compEnvC scope (cloFrom X.env.cells scope.names []) C X.env).kindOf x = some .local := lookup_relabel_local hx
  have kf : (compEnvC scope (cloFrom X.env.cells scope.names []) C X.env).kindOf fn = some .globalImplicit := hg
  have kk : (compEnvC scope (cloFrom X.env.cells scope.names []) C X.env).scope.kind = .function := hkind
  have kl : (compEnvC scope (cloFrom X.env.cells scope.names []) C X.env).locals = C := rfl
  have kg : (compEnvC scope (cloFrom X.env.cells scope.names []) C X.env).globals = X.env.globals := rfl
  have kfr : (compEnvC scope (cloFrom X.env.cells scope.names []) C X.env).frame = X.env.frame := rfl
  generalize compEnvC scope (cloFrom X.env.cells scope.names []) C X.env = ce at kx kf kk kl kg kfr ⊢
  subst kl
  refine ⟨fun j ys s' => ∃ (H' : Hp) (vs : List V) (m : Str → Option Value), Inv X pins σ H' s' ∧ s'.heap.Ns ce.locals m ∧ Vals vs ys ∧ vs.length = j ∧ Pv vs H' ∧ H' A = none ∧ H' ce.locals = none ∧ H' it = none, ?_, ?_, ?_, ?_⟩
  · exact ⟨H1, [], _, J3, m3, .nil, rfl, P0, nA, nC, nI⟩
  · rintro j ys s' h' t' ⟨H', vs, m, J', hm', rv', hl, q, zA, zC, zI⟩ kp _
    refine ⟨H', vs, m, turns J' lA lI zA zI kp, ?_, rv', hl, q, zA, zC, zI⟩
    obtain ⟨o, es, ep, ho, r⟩ := hm'
    exact ⟨o, es, ep, kp _ o (fun hm => by
      rcases List.mem_cons.mp hm with e | hm
      · exact cb.ne e.symm
      · exact iC (List.mem_singleton.mp hm).symm) ho, r⟩
  · rintro j u ys s' hj ⟨xv, hx', ru⟩ ⟨si, its', rv2, hp2⟩ ⟨H', vs, m, J', hm', rv', hl, q, zA, zC, zI⟩ pl
    subst hl
    -- the element's name
    refine wpAny_assign_Name (wpAny_storeName_local kx hm' (fun h4 m4 sb4 => ?_) (by rw [kk]; rfl))
    have J4 : Inv X pins σ H' { s' with heap := h4, toks := s'.toks + 1 } := J'.turned (it := ce.locals) (fun b o hb e => (sb4.2 b hb).trans e) zC lC.nL lC.new lC.cell lC.pin
    have si4 : h4.IsListIter it p (vs.length + 1) := si.extBut sb4.extBut iC
    have pl4 : h4.PlainList A ys.toArray := pl.extBut sb4.extBut cb.ne
    refine wpAny_tests_nil ?_
    rw [if_pos rfl]
    -- the call
    refine wpAny_Call_Name_kw (Calls.Name_function_global kk kf (Calls.loadGlobal_global (by rw [kg, J4.ok.glob]; exact J4.mod.glob.keeps J4.bk) hm ?_) hd1)
    refine PySem.W.callWith_K (h₀ := X.base) J4.ok.mod.kin hk ?_
    show wpAny _ _ (spliced ((false, eval (.Name x pq) ce) :: backTo pc (starEach [] ce))) _ _ _
    refine Calls.spliced_cons (wpAny_Name (wpAny_loadName_local (v := u) kk kx m4 (by simp) ?_) hd2)
    refine Calls.spliced_nil ⟨J4.kIn, ?_⟩
    have bnd := hb { s' with heap := h4, toks := s'.toks + 1 } [u] J4.kIn (by rw [List.append_nil, ← F.len _ _ _ _ (step vs xv H' hx' q)]; rfl)
    rw [List.append_nil] at bnd
    refine wpAny_call (codeAny_mono (F.run X.A X.stack _ H' ⟨[u], []⟩ [u] [xv] _ W hr J4.env0 bnd (.cons ru .nil) (step vs xv H' hx' q)) fun r s5 hq => ?_)
    cases r with
    | error e => exact fails (W := fun cls d _ H => W cls d H) hst hfL tk (fun _ _ _ z => z) J4 hq kfr (lC.fp zC) (lC.far J4) m4
    | ok fl =>
      cases fl with
      | next => exact False.elim hq
      | brk => exact False.elim hq
      | cont => exact False.elim hq
      | ret z =>
        obtain ⟨r, H2, os, bare, un, hok, rr, q2⟩ := hq
        have J5 : Inv X pins σ H2 s5 := J4.call' os un hok bare fun b z => by cases z
        have kp : ∀ {b}, Loose X pins b → H' b = none → ∀ o, h4.get? b = some o → s5.heap.get? b = some o := fun l n o e => un.keep _ o e n (l.far J4) (by simp)
        have si5 : s5.heap.IsListIter it p (vs.length + 1) := by
          obtain ⟨o, e, rest⟩ := si4
          exact ⟨o, kp lI zI o e, rest⟩
        have pl5 : s5.heap.PlainList A ys.toArray := pl4.at (kp lA zA)
        obtain ⟨_, it5, n5, rv5, hp5⟩ := J5.hok p _ (hP _ _ q2)
        obtain ⟨nA4, eA4⟩ := pl4
        obtain ⟨oI, eI, _⟩ := si4
        obtain ⟨oC, es, ep, eC, rC⟩ := m4
        refine ⟨⟨H2, vs ++ [r], _, J5, ⟨oC, es, ep, kp lC zC oC eC, rC⟩, Vals.append rv' (.cons rr .nil), by simp, q2, un.free _ _ eA4 zA (by simp), un.free _ _ eC zC (by simp), un.free _ _ eI zI (by simp)⟩, ⟨si5, it5, rv5, Heap.PlainList.isList ⟨n5, hp5⟩⟩, pl5⟩
  · rintro ys s' ⟨H', vs, m, J', hm', rv', hl, q, zA, zC, zI⟩ pl
    -- the list's name
    have J4 : Inv X pins σ (upd H' A (.lst vs)) s' := tracks J' lA zA pl rv' (by rw [hl]; exact hxs)
    show wpAny _ _ (assign (.Name y py) X.env (.ref A)) _ _ _
    refine wpAny_assign_Name (store_ok2 (v := V.ref A) J4 hN hy (.inl hyl) rfl (fun s5 J5 ⟨b, sb, hb'⟩ => ?_) (.inr hyl))
    have hCb : ce.locals ≠ b := by
      rcases hb' with e | e
      · rw [e]; exact lC.nL
      · exact fun z => lC.cell y b e z.symm
    refine ⟨m, hm'.sameBut sb hCb, fun h6 sb6 => ⟨_, _, J5.turned (t' := s5.toks) (it := ce.locals) (fun b o hb e => (sb6.2 b hb).trans e) ?_ lC.nL lC.new lC.cell lC.pin, fin vs H' A hl q zA⟩⟩
    rw [upd_ne (Ne.symm cb.ne)]
    exact zC
end
end EF

/-! EvAir: errors of which it is told what their context is: None, or an error whose own context is None. A def that lets such errors out (CB), a try whose suite raises one, a try that catches one, any(..) in its suite -/
namespace EA
open PySem PySem.Spec PyProof.Rows L2 HandSPX
/-! ### what is told of the error's object -/
def Link (B : Heap) (H : Hp) (v : Option Value) : Prop :=
  v = some .none ∨ ∃ (b : Addr) (ob : Obj) (vb : Array Value), v = some (.ref b) ∧ B.get? b = some ob ∧ ob.data = .fields vb ∧ vb[2]? = some .none ∧ H b = none
def Zb (B : Heap) (H : Hp) (cls : Value) (d : Option Addr) : Obj → Prop := fun o => (o.cls = cls ∧ o.dict = d) ∧ ∀ vs : Array Value, o.data = .fields vs → Link B H vs[2]?
theorem steady_at2 (p : Option Value → Prop) : PXN.Steady1 fun o => ∀ vs : Array Value, o.data = .fields vs → p vs[2]? := fun o v h vs e => by
  obtain ⟨c, d, dt, sl⟩ := o
  cases dt with
  | fields us =>
    have e1 : us.setIfInBounds 1 v = vs := Data.fields.inj e
    have e2 : vs[2]? = us[2]? := by rw [← e1]; simp [Array.getElem?_setIfInBounds]
    rw [e2]
    exact h us rfl
  | _ => first | exact Data.noConfusion e | cases e
theorem Zb.steady {B : Heap} {H : Hp} {cls : Value} {d : Option Addr} : PXN.Steady1 (Zb B H cls d) := PXN.steady_and (PXN.steady_and PXN.steady_cls PXN.steady_dict) (steady_at2 _)
theorem steadyN {cls : Value} {d : Option Addr} : PXN.Steady1 (L2N.Zn cls d) := L2N.Zn.steady
abbrev ZF := Heap → Hp → Value → Option Addr → Obj → Prop
/-- behind a call that let an error out of which Z is told -/
def CZ (Z : ZF) (P : Program) (w : World) (outer : List Env) (H : Hp) (s : Shared) (E : XK) (u : Value) (s' : Shared) : Prop :=
  ∃ (a : Addr) (B : Heap) (H' : Hp) (cls : Value) (d : Option Addr), u = .ref a ∧ FlyingZ B outer a (Z B H' cls d) s'.heap ∧ HOk P w H' B ∧ UB (frs outer) H H' s.heap B s'.heap ∧ H' a = none ∧ s'.os = s.os ∧ AllBare s'.gens ∧ E cls d H'
abbrev ZN : ZF := fun _ _ => L2N.Zn
theorem cz_n {P : Program} {w : World} : CZ ZN P w = L2N.CX P w := rfl
abbrev CB (P : Program) (w : World) : CXT := CZ Zb P w
/-- what a call lets out is taken -/
def TakesC (Z : ZF) (X : Cx) (W : WX) : Prop :=
  ∀ (pins : List (Addr × Obj)) (σ : L2.St) (H : Hp) (s : Shared) (E : XK) (u : Value) (s' : Shared), Inv X pins σ H s → (∀ cls d H', E cls d H' → W cls d σ H') → CZ Z X.prog X.w X.stack H s E u s' → X.xe u s'
theorem TakesC.at {Z : ZF} {X : Cx} {W : WX} (t : TakesC Z X W) (σ : L2.St) : PassesAt (CZ Z X.prog X.w) X σ (WE W σ) := fun pins H s e s' I c => t pins σ H s _ e s' I (fun _ _ _ h => h) c
theorem TakesC.all {Z : ZF} {X : Cx} {W : WX} (t : TakesC Z X W) : Passes (CZ Z X.prog X.w) X (fun cls d H => ∀ σ, W cls d σ H) := fun pins σ H s e s' I c => t pins σ H s _ e s' I (fun _ _ _ h => h σ) c
/-! ### an error that this def raises -/
def Air (X : Cx) (W : WX) (u : Value) (s' : Shared) : Prop :=
  ∃ (a : Addr) (B : Heap) (sI : Shared) (pins : List (Addr × Obj)) (σ : L2.St) (H : Hp) (cls : Value) (d : Option Addr), u = .ref a ∧ Inv X pins σ H sI ∧ (∀ b o, sI.heap.get? b = some o → b ∉ frs X.stack → B.get? b = some o) ∧
    sI.heap.UpToSlots s'.heap ∧ Sky B X.stack a (Zb B H cls d) X.env.locals s'.heap ∧ H a = none ∧ s'.os = sI.os ∧ AllBare s'.gens ∧ W cls d σ H
def TakesB (X : Cx) (W : WX) : Prop := ∀ u s', Air X W u s' → X.xe u s'
theorem sky_imp {B : Heap} {l : List Env} {a L : Addr} {Z Z' : Obj → Prop} {h : Heap} (z : ∀ o, Z o → Z' o) (x : Sky B l a Z L h) : Sky B l a Z' L h := by
  rcases x with ⟨h1, h2, h3, oe, vs, he, hz, r⟩ | x | ⟨h1, h2, h3, t⟩
  · exact .inl ⟨h1, h2, h3, oe, vs, he, z _ hz, r⟩
  · exact .inr (.inl (L2H.flyingZ_imp z x))
  · exact .inr (.inr ⟨h1, h2, h3, L2H.tracedZ_imp z t⟩)
/-- one whose context is None is one of these -/
theorem Air.n {X : Cx} {W : WX} {u : Value} {s' : Shared} (x : L2N.XE X W u s') : Air X W u s' := by
  obtain ⟨a, B, sI, pins, σ, H, cls, d, e, I, nb, up, sky, r⟩ := x
  exact ⟨a, B, sI, pins, σ, H, cls, d, e, I, nb, up, sky_imp (fun o z => ⟨⟨z.1, z.2.1⟩, fun vs q => .inl (z.2.2 vs q)⟩) sky, r⟩
theorem TakesB.n {X : Cx} {W : WX} (t : TakesB X W) : L2N.Takes X W := fun u s' x => t u s' (Air.n x)
section
variable {X : Cx} {pins : List (Addr × Obj)} {σ : L2.St} {H H' : Hp} {sI s s' : Shared} {B : Heap} {W : WX} {E : XK}
/-- what the def's caller has, up to the error -/
theorem ub_of (hex : X.ex = []) (I : Inv X pins σ H sI) (nb : ∀ b o, sI.heap.get? b = some o → b ∉ frs X.stack → B.get? b = some o) {h2 : Heap} (up : sI.heap.UpToSlots h2) : UB X.fs X.H_0 H X.s_0.heap B h2 := by
  have nx : ∀ b, b ∉ X.ex := fun b hb => by rw [hex] at hb; cases hb
  have far : ∀ b o, X.s_0.heap.get? b = some o → b ∉ X.fs → b ∉ frs X.stack := fun b o e hb hm => by
    rcases List.mem_cons.mp (I.stkSub b hm) with z | z
    · have q := Heap.lt_size e
      have q2 := I.ok.above
      rw [z] at q
      exact Nat.lt_irrefl _ (Nat.lt_of_lt_of_le q q2)
    · exact hb z
  constructor
  · intro b o e n hb
    exact nb b o (I.base.keep b o e n hb (nx b)) (far b o e hb)
  · intro b o e hb
    obtain ⟨_, o', e', nf⟩ := I.ok.funs.mem hb
    obtain rfl : o = o' := Option.some.inj (e.symm.trans e')
    obtain ⟨sl, q⟩ := I.base.slot b o e (I.ok.frf b hb) hb (nx b)
    obtain ⟨sl2, q2⟩ := up b _ q nf
    exact ⟨sl2, q2⟩
  · exact fun b o e n => I.base.free b o e n (nx b)
  · intro b o e hb
    obtain ⟨o', q⟩ := I.base.there b o e (nx b)
    exact ⟨o', nb b o' q (far b o e hb)⟩
  · exact I.base.tups
  · exact I.base.frzs
  · exact I.base.tbls
/-- it leaves the def -/
theorem Air.leave (hs : X.stack = X.env :: X.outer) (hf : X.env.frame = some X.env.locals) (hex : X.ex = []) {E₁ : Value → Shared → Prop} (hW : ∀ cls d σ H, W cls d σ H → E cls d H) {u : Value} (x : Air X W u s') :
    wpAny (model X.prog X.w) X.A (leaving X.env u) (fun _ s'' => CB X.prog X.w X.outer X.H_0 X.s_0 E u s'') E₁ s' := by
  obtain ⟨a, B, sI, pins, σ, H, cls, d, rfl, I, nb, up, sky, na, os, ag, w⟩ := x
  have hfr : X.A.frames = some (X.env :: X.outer) := hs ▸ I.ok.frames
  have fin : ∀ h', FlyingZ B X.outer a (Zb B H cls d) h' → s'.heap.UpToSlots h' → CB X.prog X.w X.outer X.H_0 X.s_0 E (.ref a) { s' with heap := h' } := fun h' fl up' =>
    ⟨a, B, H, cls, d, rfl, fl, I.inGround nb, ub_of hex I nb (up.trans up'), na, os.trans I.os, ag, hW _ _ _ _ w⟩
  rw [hs] at sky
  rcases sky with ⟨k1, k2, k3, oe, vs, he, hz, hd, h1⟩ | fl | hh
  · exact PXN.leaving_firstZ Zb.steady hfr k3 hf he k1 k2 hd h1 hz fin
  · exact PXN.leaves_onZ Zb.steady hfr hf fl fin
  · exact leaves_heldZ hf hh fin
theorem takesB_of (hs : X.stack = X.env :: X.outer) (hf : X.env.frame = some X.env.locals) (hex : X.ex = []) {E₁ : Value → Shared → Prop}
    (hx : X.xe = fun e s' => wpAny (model X.prog X.w) X.A (leaving X.env e) (fun _ s'' => CB X.prog X.w X.outer X.H_0 X.s_0 E e s'') E₁ s') : TakesB X (fun cls d _ H => E cls d H) := fun u s' x =>
  hx ▸ Air.leave (W := fun cls d _ H => E cls d H) hs hf hex (fun _ _ _ _ h => h) x
/-- a new one -/
theorem Air.new {a : Addr} {oe : Obj} {vs : Array Value} {cls : Value} {d : Option Addr} (I : Inv X pins σ H sI) (k : ∀ b o, sI.heap.get? b = some o → s'.heap.get? b = some o) (hne : sI.heap.get? a = none) (he : s'.heap.get? a = some oe)
    (hz : ∀ B : Heap, (∀ b o, sI.heap.get? b = some o → b ∉ frs X.stack → B.get? b = some o) → Zb B H cls d oe) (hd : oe.data = .fields vs) (h1 : vs[1]? = some .none) (na : H a = none) (os : s'.os = sI.os) (ag : AllBare s'.gens) (w : W cls d σ H) : Air X W (.ref a) s' := by
  have nb : ∀ b o, sI.heap.get? b = some o → b ∉ frs X.stack → (PySem.W.hideAll sI.heap (frs X.stack)).get? b = some o := fun b o e hb => PySem.W.hideAll_get _ e hb
  have sub : ∀ b o, (PySem.W.hideAll sI.heap (frs X.stack)).get? b = some o → sI.heap.get? b = some o := fun b o e => PySem.W.of_hideAll _ e
  have nB : (PySem.W.hideAll sI.heap (frs X.stack)).get? a = none := Option.eq_none_iff_forall_ne_some.mpr fun o e => by have z := sub a o e; rw [hne] at z; cases z
  have ff : s'.heap.FunFrames (PySem.W.hideAll sI.heap (frs X.stack)) X.stack := (funFrames_none I.stack fun b hb => PySem.W.hideAll_none _ hb).of_keeps fun b o e _ => ⟨o, k b o e, rfl⟩
  exact ⟨a, _, sI, pins, σ, H, cls, d, rfl, I, nb, Heap.UpToSlots.of_keeps k, .inl ⟨fun b o e => k b o (sub b o e), nB, ff, oe, vs, he, hz _ nb, hd, h1⟩, na, os, ag, w⟩
/-- raise in a suite: the handled error, whose context is None, is the new one's context -/
theorem ps_raiseB {e : Expr} {t : L2.St → Hp → XK → Prop} {pos : Pos} (hc : L2H.HotC X) (tk : TakesB X W) (he : L2N.PMk X e t) : PS X (.Raise (some e) none pos) (fun _ σ H => t σ H fun cls d H' => W cls d σ H') := by
  refine ⟨fun pins s σ H D I h => ?_⟩
  obtain ⟨p, ⟨hh, v1, e1, c1⟩, hp⟩ := hc
  have made := he pins s σ H _ I h
  show wpAny _ _ (do standAt pos; raiseStmt X.env (some (do let v ← eval e X.env; standAt pos; pure v)) none) _ _ _
  refine wpAny_bind (wpAny_standAt (HotX.raise_made_hot (x1 := p.1) (wpAny_bind (wpAny_mono made (fun u s1 hu => wpAny_bind (wpAny_standAt (wpAny_pure ?_))) fun _ _ x => x))))
  obtain ⟨a, oe, vs, sI, H', cls, d, rfl, J, k, hne, ha, ⟨z1, z2, z3⟩, hd, h1, na, os, ag, r, q⟩ := hu
  have rr := r (model X.prog X.w) s1.heap (J.kIn.keeps k)
  obtain ⟨p1, p2, p3, p4, _⟩ := J.pin p (List.mem_append_left _ hp)
  have apart : ∀ b o, sI.heap.get? b = some o → a ≠ b := fun b o e z => by rw [← z, hne] at e; cases e
  have hi : 2 < vs.size := (Array.getElem?_eq_some_iff.mp (z3 vs hd)).1
  have hdu := Obj.data_mapFields hd (·.setIfInBounds 2 (Value.ref p.1))
  refine ⟨a, oe, vs, cls, rfl, ha, z1, hd, h1, hi, (apart _ _ p1).symm, ⟨hh, p.2, v1, k _ _ p1, e1, c1⟩, rr.1, rr.2, tk _ _ (Air.new J (fun b o e => ?_) hne (Heap.get?_update_self _ ha (Obj.isFreed_of_fields hdu)) (fun B nb => ⟨⟨(Obj.cls_mapFields ..).trans z1, (dict_mapFields ..).trans z2⟩, fun us eu => ?_⟩) hdu ?_ na os ag q)⟩
  · show (s1.heap.update a (Obj.mapFields (·.setIfInBounds 2 (Value.ref p.1)))).get? b = some o
    rw [Heap.get?_update_other _ _ (apart b o e)]
    exact k b o e
  · obtain rfl : vs.setIfInBounds 2 (Value.ref p.1) = us := Data.fields.inj (hdu.symm.trans eu)
    have nfr : p.1 ∉ frs X.stack := fun hm => (List.mem_cons.mp (J.stkSub p.1 hm)).elim p3 p4
    exact .inr ⟨p.1, p.2, v1, by simp [hi], nb _ _ p1 nfr, e1, c1, p2⟩
  · simpa [Array.getElem?_setIfInBounds] using h1
/-! ### caught -/
/-- behind the catch: a state of ours -/
theorem back (I : Inv X pins σ H s) (ub : UB (frs X.stack) H H' s.heap B s'.heap) (hok : HOk X.prog X.w H' B) {h4 : Heap} (st : B.StaysIn h4) (up : s'.heap.UpToSlots h4) (os : s'.os = s.os) (ag : AllBare s'.gens) : Inv X pins σ H' { s' with heap := h4 } := by
  have fr : ∀ b o, b ∈ frs X.stack → s.heap.get? b = some o → ∃ sl, h4.get? b = some { o with slots := sl } := fun b o hb e => by
    obtain ⟨_, o', e', nf⟩ := I.stack.mem hb
    obtain rfl : o = o' := Option.some.inj (e.symm.trans e')
    obtain ⟨sl, q⟩ := ub.slot b o e hb
    obtain ⟨sl2, q2⟩ := up b _ q nf
    exact ⟨sl2, q2⟩
  refine I.call' (s' := { s' with heap := h4 }) (ch := []) os ⟨fun b o e n hb _ => st b o (ub.keep b o e n hb), fun b o e _ hb _ => fr b o hb e, fun b o e n _ => ub.free b o e n, fun b o e _ => ?_, ub.tups, ub.frzs, ub.tbls⟩ (hok.kept st) ag (fun _ z => nomatch z)
  by_cases hb : b ∈ frs X.stack
  · obtain ⟨sl, q⟩ := fr b o hb e
    exact ⟨_, q⟩
  · obtain ⟨o', q⟩ := ub.there b o e hb
    exact ⟨o', st b o' q⟩
theorem caught {Z : ZF} (hZ : ∀ B H cls d, PXN.Steady1 (Z B H cls d)) (hs : X.stack = X.env :: X.outer) (hf : X.env.frame = some X.env.locals) (I : Inv X pins σ H s) {u : Value} (c : CZ Z X.prog X.w X.stack H s E u s') {Q : Flow → Shared → Prop} {hds : List ExceptHandler}
    (k : ∀ (a : Addr) (B : Heap) (H' : Hp) (cls : Value) (d : Option Addr) (h3 : Heap), u = .ref a → FlyingZ B (X.env :: X.outer) a (Z B H' cls d) h3 → (∀ h4, B.StaysIn h4 → h3.UpToSlots h4 → Inv X pins σ H' { s' with heap := h4 }) → H' a = none → E cls d H' →
      wpAny (model X.prog X.w) X.A (handleBy (.ref a) X.env hds) Q X.xe { s' with heap := h3 }) :
    wpAny (model X.prog X.w) X.A (noteFrame u X.env) (fun _ s₂ => wpAny (model X.prog X.w) X.A (setFlight u none) (fun _ s₃ => wpAny (model X.prog X.w) X.A (handleBy u X.env hds) Q X.xe s₃) X.xe s₂) X.xe s' := by
  obtain ⟨a, B, H', cls, d, rfl, fl, hok, ub, na, os, ag, hE⟩ := c
  have hfr : X.A.frames = some (X.env :: X.outer) := hs ▸ I.ok.frames
  rw [hs] at fl
  exact L2N.Sky.land (hZ B H' cls d) hfr hf (.inr (.inl fl)) fun h3 fl3 up3 => k a B H' cls d h3 rfl fl3 (fun h4 st4 up4 => back I ub hok st4 (up3.trans up4) os ag) na hE
/-- where the caught one stands -/
theorem stands (hf : X.env.frame = some X.env.locals) {Z : Obj → Prop} {a : Addr} {h : Heap} (fl : FlyingZ B (X.env :: X.outer) a Z h) : ∃ oe vs, h.get? a = some oe ∧ Z oe ∧ oe.data = .fields vs ∧ a ≠ X.env.locals ∧ a ∉ X.fs := by
  obtain ⟨oe, vs, he, hz, hd⟩ := fl.there
  have nfr : a ∉ frs (X.env :: X.outer) := fun hm => by
    obtain ⟨_, o', e', nf⟩ := fl.2.2.1.mem hm
    obtain rfl : oe = o' := Option.some.inj (he.symm.trans e')
    exact nf vs hd
  have e : frs (X.env :: X.outer) = X.env.locals :: X.fs := by
    show List.filterMap _ _ = _
    rw [List.filterMap_cons, hf]
    rfl
  rw [e] at nfr
  exact ⟨oe, vs, he, hz, hd, fun z => nfr (z ▸ List.mem_cons_self), fun z => nfr (List.mem_cons_of_mem _ z)⟩
/-- the clause's class is asked: it names the error -/
theorem named {x : Str} {np : Pos} {c cls : Value} {a : Addr} {oe : Obj} {pn : List (Addr × Obj)} {h3 : Heap} (hc : Names X x c) (S : Inv (X.suite a ((a, oe) :: pn)) [] σ H { s' with heap := h3 }) (he : h3.get? a = some oe) (hcl : oe.cls = cls) (hb : PySem.W.exmOne X.K cls c = some true)
    {R : Result → Shared → Prop} {pos : Pos} (q : R (.ok .brk) { s' with heap := h3 }) :
    codeAny (model X.prog X.w) (X.A.mark (some (.ref a))) (.handlers (.ref a) [.ExceptHandler (some (.Name x np)) none [] pos] X.env) R { s' with heap := h3 } := by
  have LT : PySem.W.Looks (model X.prog X.w) h3 (typeOf (.ref a)) cls := fun A Q E s k q => wpAny_typeOf_ref (k _ _ he) (by rw [hcl]; exact q)
  have LM := PySem.W.exm_one (M := model X.prog X.w) (S.kIn) LT hb
  refine codeAny_handlers_test ?_
  obtain ⟨hg, hdbg, hm | ⟨hm, hv, hnn⟩⟩ := hc
  · exact ld_glob (X := X.suite a ((a, oe) :: pn)) S hg hm (LM.here q) hdbg
  · exact ld_blt (X := X.suite a ((a, oe) :: pn)) S hg hm hv (LM.here q) hnn hdbg
end
/-! ### the two tries -/
section
variable {X : Cx} {x n : Str} {c : Value} {i : Nat} {body suite : List Stmt} {b₀ : Stmt} {np pos pos' : Pos} {tb : WX → TS} {ts : Addr → Value → Option Addr → TS}
abbrev noWish : WX := fun _ _ _ _ => False
/-- what may leave a try whose suite raises: errors of which it is told what their context is -/
theorem ps_tryR {Wout : WX} (hs : X.stack = X.env :: X.outer) (hf : X.env.frame = some X.env.locals) (hc : Names X x c) (hpa : ∀ hd : Option Value, PassesOwnAt (model X.prog X.w) (X.A.mark hd) X.A X.env X.xe) (tk : TakesB X Wout)
    (hb : ∀ (W : WX) (pn : List (Addr × Obj)) (xe : Value → Shared → Prop), TakesC ZN (X.tr pn xe) W → PSs (X.tr pn xe) body (tb W))
    (hsu : ∀ (a : Addr) (oe : Obj) (cls : Value) (d : Option Addr) (pn : List (Addr × Obj)), TakesB (L2H.suiteX X a ((a, oe) :: pn)) Wout → L2H.HotC (L2H.suiteX X a ((a, oe) :: pn)) → PSs (L2H.suiteX X a ((a, oe) :: pn)) (b₀ :: suite) (ts a cls d)) :
    PS X (.Try body [.ExceptHandler (some (.Name x np)) none (b₀ :: suite) pos'] [] [] pos) (fun D σ H => tb (wOnly X.K c ts noWish D) D σ H) := by
  refine ⟨fun pins s σ H D I h => ?_⟩
  have ok := I.ok
  refine wpAny_Try_except (wpAny_mono ((hb (wOnly X.K c ts noWish D) (X.pn ++ pins) _ fun pins' σ' H' s1 E u s' J hW cz => ?_).run [] s σ H D (I.toTry _) h) (fun f s1 hsp => ?_) (fun e s1 he => he))
  · refine caught (fun _ _ _ _ => steadyN) hs hf (J.ofTry ok) cz fun a B H2 cls d h3 e fl mk na hE => ?_
    obtain ⟨b, hb1, hyes, hno⟩ := hW _ _ _ hE
    obtain rfl : b = true := by
      cases b with
      | true => rfl
      | false => exact (hno rfl).elim
    obtain ⟨oe, vs, he, hz, hd, nL, nF⟩ := stands hf fl
    have S3 := (mk h3 fl.1 (Heap.UpToSlots.refl _)).suite he hd na nL nF
    refine wpAny_handleBy_cons (named (s' := s') hc S3 he hz.1 hb1 ?_) (fun z => nomatch z)
    show codeAny _ _ (.handlers _ _ _) _ _
    refine codeAny_handlers_suite ?_
    refine lands_againZ fl fun h4 fl4 up4 => ?_
    obtain ⟨oe4, vs4, he4, hz4, hd4, _, _⟩ := stands hf fl4
    have J4 := mk h4 fl4.1 up4
    have S4 := J4.suite he4 hd4 na nL nF
    have tkS : TakesB (L2H.suiteX X a ((a, oe4) :: (X.pn ++ pins))) Wout := fun u2 s2 x2 => by
      obtain ⟨a2, B2, sI2, pn2, σ2, H3, cls2, d2, e2, I2, r2⟩ := x2
      exact tk u2 s2 ⟨a2, B2, sI2, pins, σ2, H3, cls2, d2, e2, L2H.unsuiteX I2 ok, r2⟩
    refine wpAny_mono ((hsu a oe4 cls d (X.pn ++ pins) tkS ⟨(a, oe4), ⟨rfl, vs4, hd4, hz4.2.2 vs4 hd4⟩, List.mem_cons_self⟩).run [] _ _ H2 _ (L2H.suiteX_of S4) (hyes rfl a na)) (fun f s6 hsp => ?_) (fun e6 s6 z => hpa (some (.ref a)) e6 s6 z)
    cases f with
    | ret u => exact let ⟨v6, σ6, H6, S6, r6, q6⟩ := hsp; ⟨v6, σ6, H6, L2H.unsuiteX S6 ok, r6, q6⟩
    | _ => exact let ⟨σ6, H6, S6, q6⟩ := hsp; ⟨σ6, H6, L2H.unsuiteX S6 ok, q6⟩
  · cases f with
    | next => exact let ⟨σ', H', J, q⟩ := hsp; wpAny_execs_nil ⟨σ', H', J.ofTry ok, q⟩
    | ret u => exact let ⟨v, σ', H', J, r, q⟩ := hsp; ⟨v, σ', H', J.ofTry ok, r, q⟩
    | _ => exact let ⟨σ', H', J, q⟩ := hsp; ⟨σ', H', J.ofTry ok, q⟩
/-- the suite's context bears the handled error, and its context -/
def HotL (X : Cx) : Prop := ∃ p ∈ X.pn, X.A.handled = some (.ref p.1) ∧ ∃ va : Array Value, p.2.data = .fields va ∧ (va[2]? = some .none ∨ ∃ q ∈ X.pn, va[2]? = some (.ref q.1) ∧ ∃ vb : Array Value, q.2.data = .fields vb ∧ vb[2]? = some .none)
/-- a try that catches errors of which it is told what their context is -/
theorem ps_tryA (hs : X.stack = X.env :: X.outer) (hf : X.env.frame = some X.env.locals) (hN : X.N.Nodup) (hi : X.N[i]? = some n) (hln : X.env.kindOf n = some .local) (hc : Names X x c)
    (hb : ∀ (W : WX) (pn : List (Addr × Obj)) (xe : Value → Shared → Prop), TakesC Zb (X.tr pn xe) W → PSs (X.tr pn xe) body (tb W))
    (hsu : ∀ (a : Addr) (oe : Obj) (cls : Value) (d : Option Addr) (pn : List (Addr × Obj)), Zc cls d oe → (∃ vs, oe.data = .fields vs) → HotL (X.suite a ((a, oe) :: pn)) → PSs (X.suite a ((a, oe) :: pn)) (b₀ :: suite) (ts a cls d)) :
    PS X (.Try body [.ExceptHandler (some (.Name x np)) (some n) (b₀ :: suite) pos'] [] [] pos) (fun D σ H => tb (wAs X.K c i ts noWish D) D σ H) := by
  refine ⟨fun pins s σ H D I h => ?_⟩
  have ok := I.ok
  refine wpAny_Try_except (wpAny_mono ((hb (wAs X.K c i ts noWish D) (X.pn ++ pins) _ fun pins' σ' H' s1 E u s' J hW cz => ?_).run [] s σ H D (I.toTry _) h) (fun f s1 hsp => ?_) (fun e s1 he => he))
  · refine caught (fun _ _ _ _ => Zb.steady) hs hf (J.ofTry ok) cz fun a B H2 cls d h3 e fl mk na hE => ?_
    obtain ⟨b, hb1, hyes, hno⟩ := hW _ _ _ hE
    obtain rfl : b = true := by
      cases b with
      | true => rfl
      | false => exact (hno rfl).elim
    obtain ⟨oe, vs, he, hz, hd, nL, nF⟩ := stands hf fl
    have S3 := (mk h3 fl.1 (Heap.UpToSlots.refl _)).suite he hd na nL nF
    refine wpAny_handleBy_cons (named (s' := s') hc S3 he hz.1.1 hb1 ?_) (fun z => nomatch z)
    show codeAny _ _ (.handlers _ _ _) _ _
    refine codeAny_handlers_suite_as ?_
    refine lands_againZ fl fun h4 fl4 up4 => ?_
    obtain ⟨oe4, vs4, he4, hz4, hd4, _, _⟩ := stands hf fl4
    have J4 := mk h4 fl4.1 up4
    -- the handled one's own context stands there too
    obtain ⟨lp, S4, hot⟩ : ∃ lp : List (Addr × Obj), Inv (X.suite a ((a, oe4) :: (lp ++ (X.pn ++ pins)))) [] σ' H2 { s' with heap := h4 } ∧ HotL (X.suite a ((a, oe4) :: (lp ++ (X.pn ++ pins)))) := by
      have S := J4.suite he4 hd4 na nL nF
      rcases hz4.2 vs4 hd4 with k | ⟨b, ob, vb, k, hB, hdb, h2, nb⟩
      · exact ⟨[], S, (a, oe4), List.mem_cons_self, rfl, vs4, hd4, .inl k⟩
      · have hb4 := fl4.1 b ob hB
        have bL : b ≠ X.env.locals := fun z => by
          obtain ⟨m, ⟨o, es, ep, ho, hdd, _⟩, _⟩ := J4.loc
          rw [← z] at ho
          obtain rfl : ob = o := Option.some.inj (hb4.symm.trans ho)
          rw [hdb] at hdd
          cases hdd
        have bF : b ∉ X.fs := fun hm => by
          obtain ⟨_, o, ho, nf⟩ := J4.funs.mem hm
          obtain rfl : ob = o := Option.some.inj (hb4.symm.trans ho)
          exact nf vb hdb
        refine ⟨[(b, ob)], ⟨ok.suite _ _, S.os, S.bare, S.base, S.loc, S.cell, S.free, S.freeC, fun p hp => ?_, S.hok, S.len⟩, (a, oe4), List.mem_cons_self, rfl, vs4, hd4, .inr ⟨(b, ob), List.mem_cons_of_mem _ List.mem_cons_self, k, vb, hdb, h2⟩⟩
        have hp : p ∈ (a, oe4) :: (b, ob) :: (X.pn ++ pins) := by simpa using hp
        rcases List.mem_cons.mp hp with e1 | hp
        · exact S.pin p (by simp [e1])
        rcases List.mem_cons.mp hp with e1 | hp
        · rw [e1]
          exact ⟨hb4, nb, bL, bF, fun v z => by have z : ob.data = .cell v := z; rw [hdb] at z; cases z⟩
        · exact S.pin p (by simp only [List.append_nil]; exact List.mem_cons_of_mem _ hp)
    have drop : ∀ {σ6 : L2.St} {H6 : Hp} {s6 : Shared}, Inv (X.suite a ((a, oe4) :: (lp ++ (X.pn ++ pins)))) [] σ6 H6 s6 → Inv X pins σ6 H6 s6 := fun S6 =>
      ⟨ok, S6.os, S6.bare, S6.base, S6.loc, S6.cell, S6.free, S6.freeC, fun p hp => S6.pin p (List.mem_append_left _ (List.mem_cons_of_mem _ (List.mem_append_right _ hp))), S6.hok, S6.len⟩
    refine store_ok (X := X.suite a ((a, oe4) :: (lp ++ (X.pn ++ pins)))) (v := .ref a) S4 hN hi (.inl hln) rfl (fun s5 S5 => ?_) (.inr hln)
    refine wpAny_mono ((hsu a oe4 cls d (lp ++ (X.pn ++ pins)) hz4.1 ⟨_, hd4⟩ hot).run [] s5 _ H2 _ S5 (hyes rfl a na)) (fun f s6 hsp => ?_) (fun _ _ z => False.elim z)
    cases f with
    | ret u => exact let ⟨v6, σ6, H6, S6, r6, q6⟩ := hsp; gone_ok (drop S6) hN hi hln fun s7 J7 => ⟨v6, _, H6, J7, r6, q6⟩
    | _ => exact let ⟨σ6, H6, S6, q6⟩ := hsp; gone_ok (drop S6) hN hi hln fun s7 J7 => ⟨_, H6, J7, q6⟩
  · cases f with
    | next => exact let ⟨σ', H', J, q⟩ := hsp; wpAny_execs_nil ⟨σ', H', J.ofTry ok, q⟩
    | ret u => exact let ⟨v, σ', H', J, r, q⟩ := hsp; ⟨v, σ', H', J.ofTry ok, r, q⟩
    | _ => exact let ⟨σ', H', J, q⟩ := hsp; ⟨σ', H', J.ofTry ok, q⟩
end
/-- a def's theorem, whatever is told of the errors that leave it -/
theorem okC {CX : CXT} {P : Program} {w : World} {K : PySem.W.Frag} {mg : Str → Option Value} {base : Heap} {x qual : Str} {st : Stmt} {f : Addr} {fd : FuncData} {N ps : List Str} {k : Nat} {sp : Sp} (F : Fun K x qual st f fd) (S : FnScope N ps (defScope st)) (len : ∀ vs H Q E, sp vs H Q E → vs.length = ps.length)
    (hbody : ∀ (cdv : Value) (A : Around) (outer : List Env) (s : Shared) (H : Hp) (vs : List V) (Q : VK) (E : XK), Room k (A.deeper (PyProof.Rows.envOfC qual (defScope st) s.heap.objs.size f cdv)) → sp vs H Q E →
      ∃ t, PSs (cxOf CX P w K mg base N qual (defScope st) f cdv A outer s H E) (defBody st) t ∧ t { nx := fun _ H' => Q .non H', rt := Q } (L2.start N vs) H) : FnOk P w K mg base CX (k + 1) f fd ps sp := by
  obtain ⟨_, _, _, _, _, _, _, _, _, rfl, lk, hcd⟩ := F.ex
  exact fn_of lk hcd S len fun A outer s H vs Q E hr hsp => hbody _ A outer s H vs Q E hr hsp
end EA

/-! EvHot: any(list of bools) where an error is handled: the iterator's end raises, and the handled error, with its context, is in its chain -/
namespace EA
open PySem PySem.Spec PyProof.Rows L2 PySem.F
/-- x's chain of contexts ends: at once, or behind one of L -/
def ChainAt (x : Addr) (L : List Addr) (h : Heap) : Prop := ∃ (o : Obj) (vs : Array Value), h.get? x = some o ∧ o.data = .fields vs ∧
  (vs[2]? = some .none ∨ ∃ b ∈ L, vs[2]? = some (.ref b) ∧ ∃ (ob : Obj) (vb : Array Value), h.get? b = some ob ∧ ob.data = .fields vb ∧ vb[2]? = some .none)
theorem ChainAt.keep {x : Addr} {L : List Addr} {h h' : Heap} (c : ChainAt x L h) (k : ∀ b ∈ x :: L, ∀ o, h.get? b = some o → h'.get? b = some o) : ChainAt x L h' := by
  obtain ⟨o, vs, ho, hd, z⟩ := c
  refine ⟨o, vs, k x List.mem_cons_self o ho, hd, z.imp id ?_⟩
  rintro ⟨b, hb, e, ob, vb, hob, r⟩
  exact ⟨b, hb, e, ob, vb, k b (List.mem_cons_of_mem _ hb) ob hob, r⟩
section
variable {prog : Program} {w : World} {A : Around} {E : Value → Shared → Prop} {s : Shared} {x e : Addr} {L : List Addr}
theorem bne_ref {a b : Addr} (h : a ≠ b) : (Value.ref a == Value.ref b) = false := beq_eq_false_iff_ne.mpr fun z => h (Value.ref.inj z)
theorem cut {Q : Value → Shared → Prop} (c : ChainAt x L s.heap) (nL : ∀ b ∈ L, b ≠ e) (q : Q .none s) : wpAny (model prog w) A (holding [Value.ref e] (runValue (.builtin "proto.unchain" ⟨[.ref e, .ref x, .ref x, .bool false], []⟩))) Q E s := by
  obtain ⟨o, vs, ho, hd, z⟩ := c
  refine wpAny_holding (wpAny_runValue (codeAny_builtin HotX.entry_unchain ?_))
  show wpAny _ _ (field (.ref x) 2 >>= _) _ _ s
  rcases z with h2 | ⟨b, hb, h2, ob, vb, hob, hdb, hb2⟩
  · refine wpAny_bind (wpAny_field ho hd h2 ?_)
    rw [if_pos (beq_self_eq_true _)]
    first
    | exact wpAny_bind (wpAny_pure (wpAny_pure q))
    | exact wpAny_pure q
  · have bx : b ≠ x := fun y => by
      rw [y, ho] at hob
      obtain rfl := Option.some.inj hob
      rw [hd] at hdb
      obtain rfl := Data.fields.inj hdb
      rw [h2] at hb2
      cases hb2
    refine wpAny_bind (wpAny_field ho hd h2 ?_)
    rw [if_neg (by simp), if_neg (by rw [bne_ref (nL b hb)]; simp), if_neg (by rw [bne_ref bx]; simp), if_neg (by simp)]
    refine wpAny_bind (wpAny_pure (wpAny_pure ⟨Code.quiet_builtin _ (by decide +kernel), codeAny_builtin HotX.entry_unchain ?_⟩))
    show wpAny _ _ (field (.ref b) 2 >>= _) _ _ s
    refine wpAny_bind (wpAny_field hob hdb hb2 ?_)
    rw [if_pos (beq_self_eq_true _)]
    first
    | exact wpAny_bind (wpAny_pure (wpAny_pure q))
    | exact wpAny_pure q
theorem raise_hot {α : Type} {oe : Obj} {vs : Array Value} {Q : α → Shared → Prop} (hh : A.handled = some (.ref x)) (c : ChainAt x L s.heap) (ne : x ≠ e) (nL : ∀ b ∈ L, b ≠ e) (he : s.heap.get? e = some oe) (hd : oe.data = .fields vs) (hi : 2 < vs.size)
    (hE : ∀ h', (∀ b o, b ≠ e → s.heap.get? b = some o → h'.get? b = some o) → (∃ o', h'.get? e = some o' ∧ o'.cls = oe.cls) → E (.ref e) { s with heap := h' }) : wpAny (model prog w) A (raiseNew (.ref e) : Sem α) Q E s := by
  unfold raiseNew
  refine wpAny_bind (wpAny_handled ?_)
  rw [hh]
  have b1 : (Value.ref x != Value.ref e) = true := by
    rw [bne, bne_ref ne]
    rfl
  have fin : E (.ref e) { s with heap := s.heap.update e (Obj.mapFields (·.setIfInBounds 2 (.ref x))) } := hE _ (fun b o hb q => by
    show (s.heap.update e _).get? b = _
    rw [Heap.get?_update_other _ _ (Ne.symm hb)]
    exact q) ⟨_, Heap.get?_update_self _ he (Obj.isFreed_of_fields (Obj.data_mapFields hd _)), Obj.cls_mapFields ..⟩
  show wpAny _ _ (if (Value.ref x != Value.ref e) = true then _ else _) _ _ _
  rw [if_pos b1]
  first
  | exact wpAny_bind (cut c nL (HotX.chained he hd hi (wpAny_throw fin)))
  | exact wpAny_bind (cut c nL (wpAny_bind (HotX.chained he hd hi (wpAny_throw fin))))
/-- the end of a list's iterator -/
theorem end_hot {it l : Addr} {i : Nat} {items : Array Value} {Q : Option Value → Shared → Prop} (hh : A.handled = some (.ref x)) (c : ChainAt x L s.heap) (hL : ∀ b ∈ L, ∃ o, s.heap.get? b = some o) (nx : it ∉ x :: L) (hit : s.heap.IsListIter it l i) (hl : s.heap.IsList l items) (hx : items[i]? = none)
    (hQ : ∀ h', (∀ b o, b ≠ it → s.heap.get? b = some o → h'.get? b = some o) → Q none { s with heap := h' }) : wpAny (model prog w) A (pyNext (.ref it)) Q E s := by
  obtain ⟨o, ho, hc, hd⟩ := id hit
  obtain ⟨ol, hol, _, nl, hdl⟩ := hl
  have nofs : ¬ (Value.ref l == Value.none) = true := by simp
  unfold pyNext
  refine wpAny_bind (wpAny_attempt (wpAny_callSpecial?_slot (name := Str.ofString "__next__") hit.typeIs slot_listiter_next (wpAny_call_entry slot_listiter_next hit.typeIs entry_listiter_next ?_ (args_listiter_next _))))
  show wpAny _ _ (field (.ref it) 0 >>= _) _ _ s
  refine wpAny_bind (wpAny_field ho hd (x := .ref l) rfl ?_)
  show wpAny _ _ (if (Value.ref l == Value.none) = true then _ else _) _ _ s
  rw [if_neg nofs]
  show wpAny _ _ (field (.ref it) 1 >>= _) _ _ s
  refine wpAny_bind (wpAny_field ho hd (x := .int i 0) rfl ?_)
  show wpAny _ _ (seqItems? (.ref l) >>= _) _ _ s
  refine wpAny_bind (wpAny_seqItems hol hdl ?_)
  simp only [Int.toNat_natCast, hx]
  refine wpAny_bind (wpAny_rule (wpAny_bind (wpAny_setField ho hd (by simp) ?_)))
  have k1 : ∀ b o, b ≠ it → s.heap.get? b = some o → (s.heap.update it (Obj.mapFields fun x => x.setIfInBounds 0 Value.none)).get? b = some o := fun b o hb e => (Heap.get?_update_other _ _ (Ne.symm hb)).trans e
  generalize s.heap.update it (Obj.mapFields fun x => x.setIfInBounds 0 Value.none) = h1 at k1 ⊢
  show wpAny _ _ (newExc (.type "StopIteration") [] >>= fun e => raiseNew e) _ _ _
  refine wpAny_bind ?_
  simp only [newExc, newTuple]
  refine wpAny_bind (wpAny_newObj_type ?_ (by size_fits))
  refine wpAny_bind (m := firstArgMember _ _) (wpAny_of_eq (a := Value.none) (by first | rfl | (simp only [firstArgMember]; rfl)) ?_)
  refine wpAny_newObj_type ?_ (by size_fits)
  have k2 : ∀ (o1 o2 : Obj) b o, b ≠ it → s.heap.get? b = some o → ((h1.push o1).push o2).get? b = some o ∧ b ≠ (h1.push o1).objs.size := fun o1 o2 b o hb e =>
    ⟨Heap.get?_push_of_some _ (Heap.get?_push_of_some _ (k1 b o hb e)), Nat.ne_of_lt (Heap.lt_size (Heap.get?_push_of_some _ (k1 b o hb e)))⟩
  have in1 : ∀ b ∈ x :: L, b ≠ it := fun b hb z => nx (z ▸ hb)
  obtain ⟨ox, vx, hox, hdx, hz⟩ := id c
  refine raise_hot (x := x) (L := L) hh (c.keep fun b hb o e => (k2 _ _ b o (in1 b hb) e).1) (k2 _ default x ox (in1 x List.mem_cons_self) hox).2 ?_ (Heap.get?_push_size _ rfl) rfl (by first | (simp; done) | (simp; omega) | (simp only [Array.size_append]; simp; omega)) fun h' k ⟨o', e1, e2⟩ => ?_
  · intro b hb
    obtain ⟨o, e⟩ := hL b hb
    exact (k2 _ default b o (in1 b (List.mem_cons_of_mem _ hb)) e).2
  · refine wpAny_bind (wpAny_isInstance (T := "StopIteration") (b := true) ⟨o', e1, e2⟩ isSubtype_stop ?_)
    exact wpAny_pure (hQ _ fun b o hb e => k b o (k2 _ default b o hb e).2 (k2 _ _ b o hb e).1)
/-- a list's iterator where x is handled -/
theorem walks_hot (hh : A.handled = some (.ref x)) (it l : Addr) (hne : l ≠ it) (nx : it ∉ x :: L) (items : Array Value) :
    Walks prog w A it (it :: l :: x :: L) [it] items.size (fun i v => items[i]? = some v) (fun i h => (h.IsListIter it l i ∧ h.IsList l items) ∧ ChainAt x L h ∧ ∀ b ∈ L, ∃ o, h.get? b = some o) where
  sub := fun b hb => by simp at hb; simp [hb]
  frame := fun i h h' st k => ⟨⟨let ⟨o, e, r⟩ := st.1.1; ⟨o, k it (by simp) o e, r⟩, let ⟨o, e, r⟩ := st.1.2; ⟨o, k l (by simp) o e, r⟩⟩, st.2.1.keep fun b hb => k b (List.mem_cons_of_mem _ (List.mem_cons_of_mem _ hb)), fun b hb => let ⟨o, e⟩ := st.2.2 b hb; ⟨o, k b (by simp [hb]) o e⟩⟩
  item := fun i s Q E hi st hQ => by
    refine wpAny_pyNext_list_item st.1.1 st.1.2 (x := items[i]) (by simp [hi]) fun h' hit' hs' => ?_
    have kk : ∀ b, b ≠ it → ∀ o, s.heap.get? b = some o → h'.get? b = some o := fun b hb o e => hs'.extBut b o hb e
    have off : ∀ b ∈ x :: L, b ≠ it := fun b hb z => nx (z ▸ hb)
    exact hQ _ h' s.toks (by simp [hi]) ⟨⟨hit', st.1.2.extBut hs'.extBut hne⟩, st.2.1.keep fun b hb => kk b (off b hb), fun b hb => let ⟨o, e⟩ := st.2.2 b hb; ⟨o, kk b (off b (List.mem_cons_of_mem _ hb)) o e⟩⟩ fun b o hb e => kk b (fun z => hb (by simp [z])) o e
  done := fun s Q E st hQ => end_hot hh st.2.1 st.2.2 nx st.1.1 st.1.2 (by simp) fun h' k => hQ h' s.toks fun b o hb e => k b o (fun z => hb (by simp [z])) e
  self := fun _ _ _ _ st hQ => wpAny_pyIter_listiter st.1.1 hQ
end
/-- any(list of bools) in a suite -/
theorem any_hot {X : Cx} {K : PySem.W.Frag} (hot : HotL X) (h : X.K = K := by rfl) : CallR X (.builtin "any") (rAny K) := by
  subst h
  intro pins s σ H vs us Q I r h
  obtain ⟨a, bs, rfl, hs, q⟩ := h
  obtain ⟨its, rv, hl, _⟩ := I.list hs
  rw [Vals.ref1 r]
  have hb := rv.bls
  obtain ⟨p, hp, hh, va, hd, z⟩ := hot
  have P1 := (I.pin p (List.mem_append_left _ hp)).1
  obtain ⟨L, cL, hL⟩ : ∃ L : List Addr, ChainAt p.1 L s.heap ∧ ∀ b ∈ L, ∃ o, s.heap.get? b = some o := by
    rcases z with z | ⟨q, hq, z, vb, hdb, hb2⟩
    · exact ⟨[], ⟨p.2, va, P1, hd, .inl z⟩, fun _ h => nomatch h⟩
    · have P2 := (I.pin q (List.mem_append_left _ hq)).1
      exact ⟨[q.1], ⟨p.2, va, P1, hd, .inr ⟨q.1, List.mem_cons_self, z, q.2, vb, P2, hdb, hb2⟩⟩, fun b hb => by rw [List.mem_singleton.mp hb]; exact ⟨_, P2⟩⟩
  have old : ∀ b ∈ p.1 :: L, ∃ o, s.heap.get? b = some o := fun b hb => by
    rcases List.mem_cons.mp hb with e | hb
    · exact ⟨_, e ▸ P1⟩
    · exact hL b hb
  refine call_any_walk (iter_any hl.isList fun s₂ e2 st hne => ?_)
  subst e2
  have nx : s.heap.objs.size ∉ p.1 :: L := fun hm => by
    obtain ⟨o, e⟩ := old _ hm
    exact Nat.lt_irrefl _ (Heap.lt_size e)
  have cL2 := cL.keep (h' := s.heap.push { cls := .type "list_iterator", data := .fields #[.ref a, .int 0 0] }) fun b _ o e => Heap.get?_push_of_some _ e
  refine ⟨_, _, _, _, _, _, _, rfl, walks_hot (A := X.A.in1) (L := L) hh _ a hne nx its.toArray, ⟨st, cL2, fun b hb => let ⟨o, e⟩ := hL b hb; ⟨o, Heap.get?_push_of_some _ e⟩⟩, truth_bools hb, fun h' tk hk => ?_⟩
  refine ⟨.bl _, H, I.kept fun b o eo => hk b o (fun hm => ?_) (Heap.get?_push_of_some _ eo), ?_, q⟩
  · rw [List.mem_singleton.mp hm] at eo
    exact Nat.lt_irrefl _ (Heap.lt_size eo)
  · show Value.bool _ = Value.bool _
    rw [← L2.any_range, hb, List.size_toArray, List.length_map]
end EA

namespace K6
open PySem L2 EB
local macro_rules | `(tactic| walk_at "mem") => `(tactic| first
  | exact List.mem_cons_self
  | exact List.mem_cons_of_mem _ List.mem_cons_self
  | exact List.mem_cons_of_mem _ (List.mem_cons_of_mem _ List.mem_cons_self)
  | exact List.mem_cons_of_mem _ (List.mem_cons_of_mem _ (List.mem_cons_of_mem _ List.mem_cons_self))
  | exact List.mem_cons_of_mem _ (List.mem_cons_of_mem _ (List.mem_cons_of_mem _ (List.mem_cons_of_mem _ List.mem_cons_self)))
  | exact List.mem_cons_of_mem _ (List.mem_cons_of_mem _ (List.mem_cons_of_mem _ (List.mem_cons_of_mem _ (List.mem_cons_of_mem _ List.mem_cons_self))))
  | exact List.mem_cons_of_mem _ (List.mem_cons_of_mem _ (List.mem_cons_of_mem _ (List.mem_cons_of_mem _ (List.mem_cons_of_mem _ (List.mem_cons_of_mem _ List.mem_cons_self))))))
local macro_rules | `(tactic| walk_at "stp") => `(tactic| first | assumption | exact At.ex (by assumption))
local macro_rules | `(tactic| walk_at "sq3") => `(tactic| first | assumption | exact At.sqo (by assumption) (by walk_at "mem"))
local macro_rules | `(tactic| walk_at "sq2") => `(tactic| first | assumption | exact At.sqo (by assumption) (by walk_at "mem") | exact Same.seq (by walk_at "stp") (by walk_at "sq3"))
local macro_rules | `(tactic| walk_at "sq1") => `(tactic| first | assumption | exact At.sqo (by assumption) (by walk_at "mem") | exact Same.seq (by walk_at "stp") (by walk_at "sq2"))
local macro_rules | `(tactic| walk_at "sq") => `(tactic| first | assumption | exact At.sqo (by assumption) (by walk_at "mem") | exact Same.seq (by walk_at "stp") (by walk_at "sq1"))
local macro_rules | `(tactic| walk_at "st3") => `(tactic| first | assumption | exact At.sto (by assumption) (by walk_at "mem"))
local macro_rules | `(tactic| walk_at "st2") => `(tactic| first | assumption | exact At.sto (by assumption) (by walk_at "mem") | exact Same.st (by walk_at "stp") (by walk_at "st3"))
local macro_rules | `(tactic| walk_at "st1") => `(tactic| first | assumption | exact At.sto (by assumption) (by walk_at "mem") | exact Same.st (by walk_at "stp") (by walk_at "st2"))
local macro_rules | `(tactic| walk_at "st") => `(tactic| first | assumption | exact At.sto (by assumption) (by walk_at "mem") | exact Same.st (by walk_at "stp") (by walk_at "st1"))
local macro_rules | `(tactic| walk_at "cond") => `(tactic| first
  | exact Or.inr ⟨by decide, by decide⟩
  | exact Or.inl ⟨by decide, by decide⟩
  | (show (0 : Int) < _; first | decide | omega)
  | exact ⟨by decide, by decide⟩
  | exact ⟨by decide, by decide, by decide⟩
  | exact Or.inr ⟨by omega, by omega⟩
  | exact Or.inl ⟨by omega, by omega⟩)
local macro_rules | `(tactic| walk_at "s") => `(tactic| first
  | with_reducible refine r_seq ?_
  | with_reducible refine r_asg ?_
  | with_reducible refine r_gName ?_
  | with_reducible refine r_asgG ?_
  | with_reducible refine r_gSub ?_
  | with_reducible refine r_op ?_
  | ((with_reducible show tVar _ _ _ _); refine r_var rfl ?_)
  | with_reducible refine r_c ?_
  | with_reducible refine r_cons ?_
  | with_reducible refine r_nil ?_
  | with_reducible refine r_if ?_
  | with_reducible refine r_test ?_
  | with_reducible refine r_isB ?_
  | with_reducible refine r_cb ?_
  | with_reducible refine r_call ?_
  | with_reducible refine r_fld ?_
  | with_reducible refine r_sfld ?_
  | with_reducible refine r_make ?_
  | with_reducible refine r_meth ?_
  | with_reducible refine r_meth2 ?_
  | with_reducible refine r_forT ?_
  | with_reducible refine r_bm ?_
  | with_reducible refine r_bm0 ?_
  | with_reducible refine r_forL ?_
  | with_reducible refine r_forR ?_
  | with_reducible refine r_forZ ?_
  | with_reducible refine r_lcZ ?_
  | with_reducible refine r_par ?_
  | with_reducible refine r_parK ?_
  | ((with_reducible show tAug _ _ _ _ _ _); refine r_aug rfl ?_)
  | with_reducible refine r_ipI ?_
  | with_reducible refine r_sl ?_
  | with_reducible refine r_noPart ?_
  | with_reducible refine r_part ?_
  | with_reducible refine r_ptK ?_
  | with_reducible refine r_rev ?_
  | with_reducible refine r_ifNT ?_
  | with_reducible refine r_ifNF ?_
  | with_reducible refine r_isiII ?_
  | with_reducible refine r_isiIB ?_
  | with_reducible refine r_isiBB ?_
  | with_reducible refine r_isiBI ?_
  | with_reducible refine r_I0 ?_
  | with_reducible refine r_eqI ?_
  | with_reducible refine r_neI ?_
  | ((with_reducible refine r_I ?_ ?_); (· walk_at "cond"))
  | with_reducible refine r_ret ?_
  | with_reducible refine r_next ?_
  | with_reducible refine r_drop ?_
  | with_reducible refine r_testB ?_
  | with_reducible refine r_ifT ?_
  | with_reducible refine r_ifF ?_
  | with_reducible refine r_un ?_
  | with_reducible refine r_and ?_
  | with_reducible refine r_or ?_
  | with_reducible refine r_not ?_
  | with_reducible refine r_andV ?_
  | with_reducible refine r_orV ?_
  | with_reducible refine r_notV ?_
  | with_reducible refine r_ifE ?_
  | with_reducible refine r_chain ?_
  | with_reducible refine r_lst ?_
  | with_reducible refine r_tup ?_
  | with_reducible refine r_lcR ?_
  | with_reducible refine r_lcL ?_
  | with_reducible refine r_U ?_
  | with_reducible refine r_eqB ?_
  | with_reducible refine r_neB ?_
  | with_reducible refine r_isBl ?_
  | with_reducible refine r_isNBl ?_
  | with_reducible refine r_abs ?_
  | with_reducible refine r_max2 ?_
  | with_reducible refine r_min2 ?_
  | ((with_reducible show rLenQ _ [V.ref _] _ _); first | refine r_lenI (by walk_at "sq") ?_ | refine r_len (by walk_at "sq") ?_ | refine r_lenT (by walk_at "st") ?_)
  | ((with_reducible show rSum _ [V.ref _] _ _); refine r_sum (by walk_at "sq") ?_)
  | ((with_reducible show rAll _ [V.ref _] _ _); refine r_all (by walk_at "sq") ?_)
  | ((with_reducible show rAny _ [V.ref _] _ _); refine r_any (by walk_at "sq") ?_)
  | ((with_reducible show rIxL _ (V.ref _) (V.int _) _ _); refine r_ixI (by walk_at "sq") ?_ ?_ ?_; (· omega); (· omega))
  | ((with_reducible show rEqD _ (V.ref _) (V.ref _) _ _); first | refine r_eqL (by walk_at "sq") (by walk_at "sq") ?_ | refine r_eqLB (by walk_at "sq") (by walk_at "sq") ?_)
  | ((with_reducible show rNeD _ (V.ref _) (V.ref _) _ _); first | refine r_neL (by walk_at "sq") (by walk_at "sq") ?_ | refine r_neLB (by walk_at "sq") (by walk_at "sq") ?_)
  | ((with_reducible show zip1 _ [V.ref _, V.ref _] _ _); refine r_zip1 (by walk_at "sq") (by walk_at "sq") ?_)
  | ((with_reducible show revK _ (V.ref _) _ _); refine r_revKI (by assumption) (by walk_at "sq") ?_; intro l H' A')
  | ((with_reducible show tup1 _ (V.ref _) _ _); refine r_tup1 (by walk_at "st") ?_)
  | ((with_reducible show ifB (decide (_ = _)) _ _); first | refine r_ifd_T (by first | assumption | with_reducible rfl | decide) ?_ | refine r_ifd_F (by decide) ?_)
  | ((with_reducible show ifB (!decide (_ = _)) _ _); first | refine r_ifND_F (by first | assumption | with_reducible rfl | decide) ?_ | refine r_ifND_T (by decide) ?_)
  | ((with_reducible show ifB (decide _) _ _); first | refine r_ifd_T (by omega) ?_ | refine r_ifd_F (by omega) ?_)
  | ((with_reducible show ifB (!decide _) _ _); first | refine r_ifND_F (by omega) ?_ | refine r_ifND_T (by omega) ?_)
  | ((with_reducible show ifB (!_) _ _); first | refine r_notT (by first | assumption | decide) ?_ | refine r_notF (by first | assumption | decide) ?_)
  | ((with_reducible show ifB _ _ _); first | refine r_bT (by first | assumption | decide) ?_ | refine r_bF (by first | assumption | decide) ?_)
  | ((with_reducible show lst1 _ (V.ref _) _ _); refine r_lst1 (by walk_at "sq") ?_)
  | ((with_reducible show bm0K _ "list" _ (V.ref _) _ _); refine r_bm0L (by walk_at "sq") ?_)
  | ((with_reducible show bmK _ "list" _ _ _ (V.ref _) _ _); refine r_bmL (by walk_at "sq") ?_)
  | ((with_reducible show rIsi _ [V.ref _, V.ty "tuple"] _ _); refine r_isiTT (by walk_at "st") ?_)
  | ((with_reducible show rIsi _ [V.ref _, V.ty "list"] _ _); refine r_isiLL (by walk_at "sq") ?_))
local macro_rules | `(tactic| walk_at "hp3") => `(tactic| first | assumption | exact At.get (by assumption) (by walk_at "mem"))
local macro_rules | `(tactic| walk_at "hp2") => `(tactic| first | assumption | exact At.get (by assumption) (by walk_at "mem") | exact Same.hp (by walk_at "stp") (by walk_at "hp3"))
local macro_rules | `(tactic| walk_at "hp1") => `(tactic| first | assumption | exact At.get (by assumption) (by walk_at "mem") | exact Same.hp (by walk_at "stp") (by walk_at "hp2"))
local macro_rules | `(tactic| walk_at "hp") => `(tactic| first | assumption | exact At.get (by assumption) (by walk_at "mem") | exact Same.hp (by walk_at "stp") (by walk_at "hp1"))

def top (i : Nat) : Stmt := PySem.Challenge.pw_evenring_k06_written.main.body.getD i (.Pass ⟨0, 0, 0, 0⟩)
abbrev s_is_whole : Stmt := top 10
abbrev s_is_house : Stmt := top 11
abbrev s_Ring_init : Stmt := inClass (top 12) 0
abbrev s_Ring_houses : Stmt := inClass (top 12) 1
abbrev s_Ring_whole : Stmt := inClass (top 12) 2
abbrev s_written : Stmt := top 15
abbrev s_number_in : Stmt := top 16
abbrev s_read : Stmt := top 17
abbrev s_law_cell_at : Stmt := top 19
abbrev s_law_draw : Stmt := top 20
abbrev s_law_houses : Stmt := top 21
abbrev s_law_number : Stmt := top 25
abbrev s_law_in : Stmt := top 26
abbrev s_law_refused : Stmt := top 27
abbrev s_law_right : Stmt := top 28
abbrev s_law_few : Stmt := top 29
abbrev s_law : Stmt := top 30
theorem sc_is_whole : FnScope ["thing"] ["thing"] (defScope s_is_whole) := ⟨rfl, rfl, rfl, by decide +kernel, rfl, by decide +kernel, by decide +kernel⟩
theorem sc_is_house : FnScope ["thing"] ["thing"] (defScope s_is_house) := ⟨rfl, rfl, rfl, by decide +kernel, rfl, by decide +kernel, by decide +kernel⟩
theorem sc_Ring_init : FnScope ["self", "houses", "one"] ["self", "houses"] (defScope s_Ring_init) := ⟨rfl, rfl, rfl, by decide +kernel, rfl, by decide +kernel, by decide +kernel⟩
theorem sc_Ring_houses : FnScope ["self"] ["self"] (defScope s_Ring_houses) := ⟨rfl, rfl, rfl, by decide +kernel, rfl, by decide +kernel, by decide +kernel⟩
theorem sc_Ring_whole : FnScope ["self"] ["self"] (defScope s_Ring_whole) := ⟨rfl, rfl, rfl, by decide +kernel, rfl, by decide +kernel, by decide +kernel⟩
theorem sc_written : FnScope ["ring", "house"] ["ring"] (defScope s_written) := ⟨rfl, rfl, rfl, by decide +kernel, rfl, by decide +kernel, by decide +kernel⟩
theorem sc_number_in : FnScope ["word", "figures"] ["word"] (defScope s_number_in) := ⟨rfl, rfl, rfl, by decide +kernel, rfl, by decide +kernel, by decide +kernel⟩
theorem sc_read : FnScope ["text", "houses", "word", "ring"] ["text"] (defScope s_read) := ⟨rfl, rfl, rfl, by decide +kernel, rfl, by decide +kernel, by decide +kernel⟩
theorem sc_law_cell_at : FnScope ["_law_script", "_law_k"] ["_law_script", "_law_k"] (defScope s_law_cell_at) := ⟨rfl, rfl, rfl, by decide +kernel, rfl, by decide +kernel, by decide +kernel⟩
theorem sc_law_draw : FnScope ["_law_cell", "_law_k", "_law_many", "_law_primes"] ["_law_cell", "_law_k", "_law_many"] (defScope s_law_draw) := ⟨rfl, rfl, rfl, by decide +kernel, rfl, by decide +kernel, by decide +kernel⟩
theorem sc_law_houses : FnScope ["_law_script", "_law_first", "_law_most", "_law_carried", "_law_k"] ["_law_script", "_law_first"] (defScope s_law_houses) := ⟨rfl, rfl, rfl, by decide +kernel, rfl, by decide +kernel, by decide +kernel⟩
theorem sc_law_number : FnScope ["_law_text", "_law_figures"] ["_law_text"] (defScope s_law_number) := ⟨rfl, rfl, rfl, by decide +kernel, rfl, by decide +kernel, by decide +kernel⟩
theorem sc_law_in : FnScope ["_law_text", "_law_found", "_law_word"] ["_law_text"] (defScope s_law_in) := ⟨rfl, rfl, rfl, by decide +kernel, rfl, by decide +kernel, by decide +kernel⟩
theorem sc_law_refused : FnScope ["_law_text", "error", "_law_others"] ["_law_text"] (defScope s_law_refused) := ⟨rfl, rfl, rfl, by decide +kernel, rfl, by decide +kernel, by decide +kernel⟩
theorem sc_law_right : FnScope ["_law_text", "_law_due", "_law_found"] ["_law_text"] (defScope s_law_right) := ⟨rfl, rfl, rfl, by decide +kernel, rfl, by decide +kernel, by decide +kernel⟩
theorem sc_law_few : FnScope ["_law_some"] [] (defScope s_law_few) := ⟨rfl, rfl, rfl, by decide +kernel, rfl, by decide +kernel, by decide +kernel⟩
theorem sc_law : FnScope ["_law_script", "_law_houses_here", "_law_text", "_law_house", "_law_cell", "_law_k", "_law_at", "_law_sign", "_law_other", "_law_thing"] ["_law_script"] (defScope s_law) := ⟨rfl, rfl, rfl, by decide +kernel, rfl, by decide +kernel, by decide +kernel⟩
/-- what the top has written -/
structure Txt (K : PySem.W.Frag) (mg : Str → Option Value) where
  n_all : mg "all" = none
  n_any : mg "any" = none
  n_bool : mg "bool" = none
  n_int : mg "int" = none
  n_isinstance : mg "isinstance" = none
  n_len : mg "len" = none
  n_list : mg "list" = none
  n_range : mg "range" = none
  n_str : mg "str" = none
  n_sum : mg "sum" = none
  k_GREATEST : (t : Tok) ×' mg "GREATEST" = some (.int 1000000 t)
  k_FIGURES : (t : Tok) ×' mg "FIGURES" = some (.str "0123456789" t)
  c_RingError : Addr
  g_RingError : mg "RingError" = some (.ref c_RingError)
  x_RingError : PySem.W.excIn K c_RingError [.type "ValueError", .type "Exception", .type "BaseException", .type "object"] "ValueError.__new__" = true
  kc_RingError : PySem.W.keepIn K (.ref c_RingError) = true
  be_RingError : PySem.W.subIn K (.ref c_RingError) (.type "BaseException") = some true
  ty_RingError : PySem.W.typeIn K (.ref c_RingError) = some (.type "type")
  hd_RingError : PySem.W.hasDictIn K c_RingError = true
  c_BadRing : Addr
  g_BadRing : mg "BadRing" = some (.ref c_BadRing)
  x_BadRing : PySem.W.excIn K c_BadRing [.type "ValueError", .type "Exception", .type "BaseException", .type "object"] "ValueError.__new__" = true
  kc_BadRing : PySem.W.keepIn K (.ref c_BadRing) = true
  be_BadRing : PySem.W.subIn K (.ref c_BadRing) (.type "BaseException") = some true
  ty_BadRing : PySem.W.typeIn K (.ref c_BadRing) = some (.type "type")
  hd_BadRing : PySem.W.hasDictIn K c_BadRing = true
  c_BadTolls : Addr
  g_BadTolls : mg "BadTolls" = some (.ref c_BadTolls)
  x_BadTolls : PySem.W.excIn K c_BadTolls [.type "ValueError", .type "Exception", .type "BaseException", .type "object"] "ValueError.__new__" = true
  kc_BadTolls : PySem.W.keepIn K (.ref c_BadTolls) = true
  be_BadTolls : PySem.W.subIn K (.ref c_BadTolls) (.type "BaseException") = some true
  ty_BadTolls : PySem.W.typeIn K (.ref c_BadTolls) = some (.type "type")
  hd_BadTolls : PySem.W.hasDictIn K c_BadTolls = true
  c_BadMost : Addr
  g_BadMost : mg "BadMost" = some (.ref c_BadMost)
  x_BadMost : PySem.W.excIn K c_BadMost [.type "ValueError", .type "Exception", .type "BaseException", .type "object"] "ValueError.__new__" = true
  kc_BadMost : PySem.W.keepIn K (.ref c_BadMost) = true
  be_BadMost : PySem.W.subIn K (.ref c_BadMost) (.type "BaseException") = some true
  ty_BadMost : PySem.W.typeIn K (.ref c_BadMost) = some (.type "type")
  hd_BadMost : PySem.W.hasDictIn K c_BadMost = true
  c_Unlike : Addr
  g_Unlike : mg "Unlike" = some (.ref c_Unlike)
  x_Unlike : PySem.W.excIn K c_Unlike [.type "ValueError", .type "Exception", .type "BaseException", .type "object"] "ValueError.__new__" = true
  kc_Unlike : PySem.W.keepIn K (.ref c_Unlike) = true
  be_Unlike : PySem.W.subIn K (.ref c_Unlike) (.type "BaseException") = some true
  ty_Unlike : PySem.W.typeIn K (.ref c_Unlike) = some (.type "type")
  hd_Unlike : PySem.W.hasDictIn K c_Unlike = true
  c_Lacking : Addr
  g_Lacking : mg "Lacking" = some (.ref c_Lacking)
  kc_Lacking : PySem.W.keepIn K (.ref c_Lacking) = true
  be_Lacking : PySem.W.subIn K (.ref c_Lacking) (.type "BaseException") = some true
  ty_Lacking : PySem.W.typeIn K (.ref c_Lacking) = some (.type "type")
  hd_Lacking : PySem.W.hasDictIn K c_Lacking = true
  c_BadText : Addr
  g_BadText : mg "BadText" = some (.ref c_BadText)
  x_BadText : PySem.W.excIn K c_BadText [.type "ValueError", .type "Exception", .type "BaseException", .type "object"] "ValueError.__new__" = true
  kc_BadText : PySem.W.keepIn K (.ref c_BadText) = true
  be_BadText : PySem.W.subIn K (.ref c_BadText) (.type "BaseException") = some true
  ty_BadText : PySem.W.typeIn K (.ref c_BadText) = some (.type "type")
  hd_BadText : PySem.W.hasDictIn K c_BadText = true
  c_Ring : Addr
  g_Ring : mg "Ring" = some (.ref c_Ring)
  cl_Ring : Cls K c_Ring
  no_Ring_over : NoAttr K c_Ring "over"
  in_Ring : PySem.W.findIn K (.ref c_Ring) "__class__" = some (some (.builtin "object.__class__")) ∧ PySem.W.specialIn K (.builtin "object.__class__") "__get__" = some (some (.builtin "getset_descriptor.__get__")) ∧ PySem.W.takesIn K (.builtin "object.__class__") = some true ∧ PySem.W.mroIn K c_Ring (.type "object") = some true
  sx_BadRing_BadRing : PySem.W.subIn K (.ref c_BadRing) (.ref c_BadRing) = some true
  sx_BadText_RingError : PySem.W.subIn K (.ref c_BadText) (.ref c_RingError) = some true
  f_is_whole : Addr
  fd_is_whole : FuncData
  F_is_whole : Fun K "is_whole" "is_whole" s_is_whole f_is_whole fd_is_whole
  g_is_whole : mg "is_whole" = some (.ref f_is_whole)
  f_is_house : Addr
  fd_is_house : FuncData
  F_is_house : Fun K "is_house" "is_house" s_is_house f_is_house fd_is_house
  g_is_house : mg "is_house" = some (.ref f_is_house)
  f_Ring_init : Addr
  fd_Ring_init : FuncData
  F_Ring_init : Fun K "__init__" "Ring.__init__" s_Ring_init f_Ring_init fd_Ring_init
  mk_Ring : Mk K c_Ring f_Ring_init
  f_Ring_houses : Addr
  fd_Ring_houses : FuncData
  F_Ring_houses : Fun K "houses" "Ring.houses" s_Ring_houses f_Ring_houses fd_Ring_houses
  m_Ring_houses : Meth K c_Ring "houses" f_Ring_houses
  f_Ring_whole : Addr
  fd_Ring_whole : FuncData
  F_Ring_whole : Fun K "whole" "Ring.whole" s_Ring_whole f_Ring_whole fd_Ring_whole
  m_Ring_whole : Meth K c_Ring "whole" f_Ring_whole
  f_written : Addr
  fd_written : FuncData
  F_written : Fun K "written" "written" s_written f_written fd_written
  g_written : mg "written" = some (.ref f_written)
  f_number_in : Addr
  fd_number_in : FuncData
  F_number_in : Fun K "number_in" "number_in" s_number_in f_number_in fd_number_in
  g_number_in : mg "number_in" = some (.ref f_number_in)
  f_read : Addr
  fd_read : FuncData
  F_read : Fun K "read" "read" s_read f_read fd_read
  g_read : mg "read" = some (.ref f_read)
  f_law_cell_at : Addr
  fd_law_cell_at : FuncData
  F_law_cell_at : Fun K "_law_cell_at" "_law_cell_at" s_law_cell_at f_law_cell_at fd_law_cell_at
  g_law_cell_at : mg "_law_cell_at" = some (.ref f_law_cell_at)
  f_law_draw : Addr
  fd_law_draw : FuncData
  F_law_draw : Fun K "_law_draw" "_law_draw" s_law_draw f_law_draw fd_law_draw
  g_law_draw : mg "_law_draw" = some (.ref f_law_draw)
  f_law_houses : Addr
  fd_law_houses : FuncData
  F_law_houses : Fun K "_law_houses" "_law_houses" s_law_houses f_law_houses fd_law_houses
  g_law_houses : mg "_law_houses" = some (.ref f_law_houses)
  f_law_number : Addr
  fd_law_number : FuncData
  F_law_number : Fun K "_law_number" "_law_number" s_law_number f_law_number fd_law_number
  g_law_number : mg "_law_number" = some (.ref f_law_number)
  f_law_in : Addr
  fd_law_in : FuncData
  F_law_in : Fun K "_law_in" "_law_in" s_law_in f_law_in fd_law_in
  g_law_in : mg "_law_in" = some (.ref f_law_in)
  f_law_refused : Addr
  fd_law_refused : FuncData
  F_law_refused : Fun K "_law_refused" "_law_refused" s_law_refused f_law_refused fd_law_refused
  g_law_refused : mg "_law_refused" = some (.ref f_law_refused)
  f_law_right : Addr
  fd_law_right : FuncData
  F_law_right : Fun K "_law_right" "_law_right" s_law_right f_law_right fd_law_right
  g_law_right : mg "_law_right" = some (.ref f_law_right)
  f_law_few : Addr
  fd_law_few : FuncData
  F_law_few : Fun K "_law_few" "_law_few" s_law_few f_law_few fd_law_few
  g_law_few : mg "_law_few" = some (.ref f_law_few)
  f_law : Addr
  fd_law : FuncData
  F_law : Fun K "law" "law" s_law f_law fd_law
  g_law : mg "law" = some (.ref f_law)
section
variable {K : PySem.W.Frag} {mg : Str → Option Value}
theorem b_is_whole (T : Txt K mg) : Binds K T.fd_is_whole ["thing"] [] := T.F_is_whole.binds (ps := ["thing"]) fun _ _ _ _ _ _ us hl => match us, hl with | [_], _ => rfl
theorem b_is_house (T : Txt K mg) : Binds K T.fd_is_house ["thing"] [] := T.F_is_house.binds (ps := ["thing"]) fun _ _ _ _ _ _ us hl => match us, hl with | [_], _ => rfl
theorem b_Ring_init (T : Txt K mg) : Binds K T.fd_Ring_init ["self", "houses"] [] := T.F_Ring_init.binds (ps := ["self", "houses"]) fun _ _ _ _ _ _ us hl => match us, hl with | [_, _], _ => rfl
theorem b_Ring_houses (T : Txt K mg) : Binds K T.fd_Ring_houses ["self"] [] := T.F_Ring_houses.binds (ps := ["self"]) fun _ _ _ _ _ _ us hl => match us, hl with | [_], _ => rfl
theorem b_Ring_whole (T : Txt K mg) : Binds K T.fd_Ring_whole ["self"] [] := T.F_Ring_whole.binds (ps := ["self"]) fun _ _ _ _ _ _ us hl => match us, hl with | [_], _ => rfl
theorem b_written (T : Txt K mg) : Binds K T.fd_written ["ring"] [] := T.F_written.binds (ps := ["ring"]) fun _ _ _ _ _ _ us hl => match us, hl with | [_], _ => rfl
theorem b_number_in (T : Txt K mg) : Binds K T.fd_number_in ["word"] [] := T.F_number_in.binds (ps := ["word"]) fun _ _ _ _ _ _ us hl => match us, hl with | [_], _ => rfl
theorem b_read (T : Txt K mg) : Binds K T.fd_read ["text"] [] := T.F_read.binds (ps := ["text"]) fun _ _ _ _ _ _ us hl => match us, hl with | [_], _ => rfl
theorem b_law_cell_at (T : Txt K mg) : Binds K T.fd_law_cell_at ["_law_script", "_law_k"] [] := T.F_law_cell_at.binds (ps := ["_law_script", "_law_k"]) fun _ _ _ _ _ _ us hl => match us, hl with | [_, _], _ => rfl
theorem b_law_draw (T : Txt K mg) : Binds K T.fd_law_draw ["_law_cell", "_law_k", "_law_many"] [] := T.F_law_draw.binds (ps := ["_law_cell", "_law_k", "_law_many"]) fun _ _ _ _ _ _ us hl => match us, hl with | [_, _, _], _ => rfl
theorem b_law_houses (T : Txt K mg) : Binds K T.fd_law_houses ["_law_script", "_law_first"] [] := T.F_law_houses.binds (ps := ["_law_script", "_law_first"]) fun _ _ _ _ _ _ us hl => match us, hl with | [_, _], _ => rfl
theorem b_law_number (T : Txt K mg) : Binds K T.fd_law_number ["_law_text"] [] := T.F_law_number.binds (ps := ["_law_text"]) fun _ _ _ _ _ _ us hl => match us, hl with | [_], _ => rfl
theorem b_law_in (T : Txt K mg) : Binds K T.fd_law_in ["_law_text"] [] := T.F_law_in.binds (ps := ["_law_text"]) fun _ _ _ _ _ _ us hl => match us, hl with | [_], _ => rfl
theorem b_law_refused (T : Txt K mg) : Binds K T.fd_law_refused ["_law_text"] [] := T.F_law_refused.binds (ps := ["_law_text"]) fun _ _ _ _ _ _ us hl => match us, hl with | [_], _ => rfl
theorem b_law_right (T : Txt K mg) : Binds K T.fd_law_right ["_law_text"] [] := T.F_law_right.binds (ps := ["_law_text"]) fun _ _ _ _ _ _ us hl => match us, hl with | [_], _ => rfl
theorem b_law_few (T : Txt K mg) : Binds K T.fd_law_few [] [] := T.F_law_few.binds (ps := []) fun _ _ _ _ _ _ us hl => match us, hl with | [], _ => rfl
theorem b_law (T : Txt K mg) : Binds K T.fd_law ["_law_script"] [] := T.F_law.binds (ps := ["_law_script"]) fun _ _ _ _ _ _ us hl => match us, hl with | [_], _ => rfl
end
section
variable {P : Program} {w : World} {K : PySem.W.Frag} {mg : Str → Option Value} {base : Heap}
/-! texts: forward rules -/
theorem dec_str {a b : Str} : decide (V.str a = V.str b) = decide (a = b) := by
  by_cases h : a = b
  · subst h
    rw [decide_eq_true rfl, decide_eq_true rfl]
  · rw [decide_eq_false h, decide_eq_false (fun z => h (by injection z))]
theorem r_eqS {a b : Str} {H : Hp} {Q : VK} (k : Q (.bl (decide (a = b))) H) : rEq (.str a) (.str b) H Q := ⟨rfl, by rw [dec_str]; exact k⟩
theorem r_neS {a b : Str} {H : Hp} {Q : VK} (k : Q (.bl (!decide (a = b))) H) : rNe (.str a) (.str b) H Q := ⟨rfl, by rw [dec_str]; exact k⟩
theorem r_slS {z : Str} {lo hi : Option Int} {H : Hp} {Q : VK} (hz : z.length ≤ 10000000) (k : Q (.str (cutS z lo hi)) H) : rSlS (.str z) lo hi H Q := ⟨z, rfl, sz hz, k⟩
theorem r_ixS {z : Str} {i : Int} {c : Nat} {H : Hp} {Q : VK} (hz : z.length ≤ 10000000) (hc : atI z.cps.toList i = some c) (k : Q (.str ⟨#[c]⟩) H) : rIxS (.str z) (.int i) H Q := ⟨z, i, c, rfl, rfl, sz hz, hc, k⟩
theorem r_bmS {K : PySem.W.Frag} {r : V → List V → Hp → VK → Prop} {tl : TA} {σ : L2.St} {z : Str} {H : Hp} {Q : VK} (k : tl σ H fun vs H2 => r (.str z) vs H2 Q) : bmK K "str" r tl σ (.str z) H Q := ⟨rfl, k⟩
def strK (x : V) (P : Prop) : Prop := (∃ a, x = .str a) ∧ P
theorem r_strK {a : Str} {P : Prop} (k : P) : strK (.str a) P := ⟨⟨a, rfl⟩, k⟩
theorem r_m1 {r : V → List V → Hp → VK → Prop} {to te : TE} {σ : L2.St} {H : Hp} {Q : VK} (k : to σ H fun x H1 => strK x (te σ H1 fun y H2 => r x [y] H2 Q)) : tM1 r to te σ H Q := k
local macro_rules | `(tactic| walk_at "s") => `(tactic| ((with_reducible show rEq (V.str _) (V.str _) _ _); refine r_eqS ?_))
local macro_rules | `(tactic| walk_at "s") => `(tactic| ((with_reducible show rNe (V.str _) (V.str _) _ _); refine r_neS ?_))
local macro_rules | `(tactic| walk_at "s") => `(tactic| ((with_reducible show bmK _ "str" _ _ _ (V.str _) _ _); refine r_bmS ?_))
local macro_rules | `(tactic| walk_at "s") => `(tactic| (with_reducible refine r_m1 ?_))
local macro_rules | `(tactic| walk_at "s") => `(tactic| (with_reducible refine r_strK ?_))

open EW (figs okW numW)
theorem figs_len (w : Str) : (figs w).length ≤ w.length := by
  unfold figs
  split
  · unfold cutS
    show (List.toArray _).size ≤ _
    rw [List.size_toArray, List.length_take, List.length_drop]
    have : w.cps.toList.length = w.length := Array.length_toList
    omega
  · exact Nat.le_refl _
theorem len_figs (w : Str) : w.length ≤ (figs w).length + 1 := by
  unfold figs
  split
  · unfold cutS
    show _ ≤ (List.toArray _).size + 1
    rw [List.size_toArray, List.length_take, List.length_drop]
    have : w.cps.toList.length = w.length := Array.length_toList
    show _ ≤ min (w.length - HT.sIx w.length 0 (some ((1 : Nat) : Int))) (w.cps.toList.length - HT.sIx w.length 0 (some ((1 : Nat) : Int))) + 1
    rw [HT.sIx_nat]
    omega
  · exact Nat.le_succ _
theorem one_48 {c : Nat} : (⟨#[c]⟩ : Str) = Str.ofString "0" ↔ c = 48 := by
  have e : Str.ofString "0" = ⟨#[48]⟩ := by decide +kernel
  rw [e]
  constructor
  · intro z
    injection z with z
    injection z with z
    injection z
  · intro z
    rw [z]
def sp_number_in (T : Txt K mg) : Sp := fun vs H Q E => ∃ w : Str, vs = [.str w] ∧ w.length ≤ 10000 ∧ (okW w = false → E (.ref T.c_BadText) none H) ∧ (okW w = true → ∃ n, intText? w = some n ∧ Q (.int n) H)
theorem ok_number_in (T : Txt K mg) : FnOk P w K mg base (L2N.CX P w) 1 T.f_number_in T.fd_number_in ["word"] (sp_number_in T) := by
  refine EA.okC T.F_number_in sc_number_in (fun vs H Q E h => ?_) (fun cdv A outer s H vs Q E hr h => ?_)
  · obtain ⟨_, rfl, _⟩ := h
    rfl
  · skip
    obtain ⟨w, rfl, hl, k0, k1⟩ := h
    refine ⟨_, (pss_cons (ps_set (i := 1) sc_number_in.nd rfl (by first | exact Or.inl rfl | exact Or.inr rfl) (pv 0))
      (Evl.pss_cut (ps_if (pt_val (pe_bm PySem.F.plainAttrs_str PySem.F.slot_str_startswith PySem.F.type_str_startswith mt_startswith (pv 0) (pa_cons pe_str pa_nil))) (pss_one (ps_set (i := 1) sc_number_in.nd rfl (by first | exact Or.inl rfl | exact Or.inr rfl) (pe_slice sl_str (pv 0) (po_some pe_int) po_none))) pss_nil)
      (pss_cons (ps_if (PW.pt (pw_or (pt_not (pt_chain op_le op_le pe_int (pe_callB call_len_str (by rfl) T.n_len PySem.boot_len (pa_cons (pv 1) pa_nil)) pe_int)) (pw_or (pt_cmpR op_ne (pe_bm PySem.F.plainAttrs_str PySem.F.slot_str_strip PySem.F.type_str_strip mt_stripChars (pv 1) (pa_cons (pe_glob (v := .str "0123456789") (by rfl) T.k_FIGURES.2 ⟨_, rfl⟩) pa_nil)) pe_str (nomark _)) (pw_or1 (PW.pt (pw_and (pt_cmpR op_eq (pe_ix ix_str (pv 1) pe_int (fun _ _ => rfl)) pe_str (nomark _)) (pw_and1 (pt_cmpR op_ne (pv 0) pe_str (nomark _))))))))) (pss_one (L2N.ps_raise rfl (L2N.takes_of rfl rfl rfl rfl) (L2N.pmk_own PySem.F.excBase_ValueError T.x_BadText T.g_BadText T.kc_BadText (raises_own T.be_BadText T.ty_BadText) (by exact rfl)))) pss_nil)
      (pss_one (ps_ret (pe_callTy call_int_str (by rfl) T.n_int EB.bt_int (pa_cons (pv 0) pa_nil))))))), ?_⟩
    repeat walk_at "s"
    refine r_cut (Mid := fun σ' H' => σ' = [some (.str w), some (.str (figs w))] ∧ H' = H) ?_ ?_
    · repeat walk_at "s"
      refine ⟨_, _, rfl, rfl, ?_⟩
      repeat walk_at "s"
      refine r_if2 (fun e => ?_) (fun e => ?_)
      · repeat walk_at "s"
        refine r_slS (by omega) ?_
        repeat walk_at "s"
        exact ⟨by rw [figs, if_pos e]; rfl, rfl⟩
      · repeat walk_at "s"
        exact ⟨by rw [figs, if_neg (by rw [e]; decide)]; rfl, rfl⟩
    rintro σ' H' ⟨rfl, rfl⟩
    have hfl := figs_len w
    repeat walk_at "s"
    refine ⟨_, rfl, sz (by omega), ?_⟩
    repeat walk_at "s"
    refine r_ifD (fun e1 => ?_) (fun e1 => ?_)
    · repeat walk_at "s"
      refine r_ifND (fun e2 => ?_) (fun e2 => ?_)
      · exact k0 (by unfold okW; rw [decide_eq_false (fun z => e2 (by omega))]; rfl)
      repeat walk_at "s"
      refine ⟨_, _, rfl, rfl, sz (by omega), ?_⟩
      repeat walk_at "s"
      refine r_ifND (fun e3 => ?_) (fun e3 => ?_)
      · exact k0 (by unfold okW; rw [decide_eq_false e3]; simp)
      have hsz : (figs w).cps.toList.length = (figs w).length := Array.length_toList
      obtain ⟨c, r, hcs⟩ : ∃ c r, (figs w).cps.toList = c :: r := by
        cases q : (figs w).cps.toList with
        | nil => rw [q] at hsz; simp at hsz; omega
        | cons c r => exact ⟨c, r, rfl⟩
      have hwl := len_figs w
      have kr : okW w = true → ∃ n, intText? w = some n ∧ Q (V.int n) H' := k1
      have hok : okW w = !(decide (c = 48) && !decide (w = "0")) := by
        unfold okW
        have q1 : decide (1 ≤ (figs w).length ∧ (figs w).length ≤ 7) = true := decide_eq_true (by omega)
        have q2 : decide (Txt.stripChars (figs w) "0123456789" = "") = true := decide_eq_true e3
        rw [q1, q2, hcs, Bool.true_and, Bool.true_and]
        congr 1
        congr 1
        · exact decide_eq_decide.mpr ⟨fun z => Option.some.inj z, fun z => by rw [z]; rfl⟩
        · by_cases q : w = "0"
          · rw [decide_eq_false (fun z => z q), decide_eq_true q]; rfl
          · rw [decide_eq_true q, decide_eq_false q]; rfl
      repeat walk_at "s"
      refine r_ixS (by omega) (by rw [hcs]; exact atI_nat (j := 0) rfl) ?_
      repeat walk_at "s"
      have fin : okW w = true → ∃ a n, [V.str w] = [V.str a] ∧ intText? a = some n ∧ a.length ≤ 640 ∧ Q (V.int n) H' := fun z => by
        obtain ⟨n, h1, h2⟩ := k1 z
        exact ⟨w, n, rfl, h1, by omega, h2⟩
      refine r_ifD (fun e4 => ?_) (fun e4 => ?_)
      · have e5 : c = 48 := one_48.mp e4
        repeat walk_at "s"
        refine r_ifND (fun e6 => ?_) (fun e6 => ?_)
        · exact k0 (by rw [hok, decide_eq_true e5, decide_eq_false e6]; rfl)
        · repeat walk_at "s"
          exact fin (by rw [hok, decide_eq_true e5, decide_eq_true e6]; rfl)
      · repeat walk_at "s"
        exact fin (by rw [hok, decide_eq_false (fun z => e4 (one_48.mpr z))]; rfl)
    · repeat walk_at "s"
      exact k0 (by unfold okW; rw [decide_eq_false (fun z => e1 (by omega))]; rfl)

/-- a ring stands at p: the list of its houses is one of its own -/
def RingAt (T : Txt K mg) (H : Hp) (p : Addr) (hs : List Int) : Prop := ∃ dx l, H p = some (.ins T.c_Ring dx [("over", .ref l)]) ∧ H l = some (.lst (hs.map V.int))
theorem RingAt.mono {T : Txt K mg} {H H' : Hp} {p : Addr} {hs : List Int} (R : RingAt T H p hs) (s : Same H H') : RingAt T H' p hs := by
  obtain ⟨dx, l, h1, h2⟩ := R
  exact ⟨dx, l, s _ _ h1, s _ _ h2⟩
theorem RingAt.via {T : Txt K mg} {H H' : Hp} {p : Addr} {hs : List Int} (s : Same H H') (R : RingAt T H p hs) : RingAt T H' p hs := R.mono s
theorem r_over {T : Txt K mg} {H : Hp} {Q : VK} {p dx l : Addr} (h : H p = some (.ins T.c_Ring dx [("over", .ref l)])) (k : Q (.ref l) H) : fldK K "over" (.ref p) H Q := r_fldK h T.cl_Ring T.no_Ring_over rfl k
local macro_rules | `(tactic| walk_at "s") => `(tactic| ((with_reducible show fldK _ _ (V.ref _) _ _); refine r_over (by walk_at "hp") ?_))
local macro_rules | `(tactic| walk_at "ra3") => `(tactic| first | assumption | exact ⟨_, _, by walk_at "hp", by walk_at "hp"⟩)
local macro_rules | `(tactic| walk_at "ra2") => `(tactic| first | assumption | exact RingAt.via (by walk_at "stp") (by walk_at "ra3") | exact ⟨_, _, by walk_at "hp", by walk_at "hp"⟩)
local macro_rules | `(tactic| walk_at "ra1") => `(tactic| first | assumption | exact RingAt.via (by walk_at "stp") (by walk_at "ra2") | exact ⟨_, _, by walk_at "hp", by walk_at "hp"⟩)
local macro_rules | `(tactic| walk_at "ra") => `(tactic| first | assumption | exact RingAt.via (by walk_at "stp") (by walk_at "ra1") | exact ⟨_, _, by walk_at "hp", by walk_at "hp"⟩)
def sp_is_whole (_ : Txt K mg) : Sp := fun vs H Q _ => ∃ i : Int, vs = [.int i] ∧ Q (.bl true) H
theorem ok_is_whole (T : Txt K mg) : FnOk P w K mg base CX0 1 T.f_is_whole T.fd_is_whole ["thing"] (sp_is_whole T) := by
  refine T.F_is_whole.ok sc_is_whole (fun vs H Q E h => ?_) (fun cdv A outer s H vs Q E hr h => ?_)
  · obtain ⟨_, rfl, _⟩ := h
    rfl
  · skip
    obtain ⟨i, rfl, k⟩ := h
    refine ⟨_, (pss_one (ps_ret (pe_and (pe_callB (kIsi (K := K)) (by rfl) T.n_isinstance EB.bt_isinstance (pa_cons (pv 0) (pa_cons (pe_bltn (v := .ty "int") (by rfl) T.n_int EB.bt_int rfl) pa_nil))) (pe_one (pe_not (pe_callB (kIsi (K := K)) (by rfl) T.n_isinstance EB.bt_isinstance (pa_cons (pv 0) (pa_cons (pe_bltn (v := .ty "bool") (by rfl) T.n_bool EB.bt_bool rfl) pa_nil)))))))), ?_⟩
    repeat walk_at "s"
    exact k
def sp_is_house (_ : Txt K mg) : Sp := fun vs H Q _ => ∃ i : Int, vs = [.int i] ∧ -1000000 ≤ i ∧ i ≤ 1000000 ∧ Q (.bl true) H
theorem ok_is_house (T : Txt K mg) : FnOk P w K mg base CX0 2 T.f_is_house T.fd_is_house ["thing"] (sp_is_house T) := by
  refine T.F_is_house.ok sc_is_house (fun vs H Q E h => ?_) (fun cdv A outer s H vs Q E hr h => ?_)
  · obtain ⟨_, rfl, _⟩ := h
    rfl
  · skip
    obtain ⟨i, rfl, h1, h2, k⟩ := h
    refine ⟨_, (pss_one (ps_ret (pe_and (pe_call (ok_is_whole T) (hr.mono (by decide)) (by rfl) T.g_is_whole T.F_is_whole.kp (b_is_whole T) .nil pass0 (pa_cons (pv 0) pa_nil)) (pe_one (pe_chain op_le op_le (pe_un un_neg (pe_glob (v := .int 1000000) (by rfl) T.k_GREATEST.2 ⟨_, rfl⟩)) (pv 0) (pe_glob (v := .int 1000000) (by rfl) T.k_GREATEST.2 ⟨_, rfl⟩)))))), ?_⟩
    repeat walk_at "s"
    refine ⟨i, rfl, ?_⟩
    repeat walk_at "s"
    rw [decide_eq_true h2]
    exact k
def sp_Ring_init (T : Txt K mg) : Sp := fun vs H Q _ => ∃ (p dx a : Addr) (hs : List Int), vs = [.ref p, .ref a] ∧ H p = some (.ins T.c_Ring dx []) ∧ SqL K H a (hs.map V.int) ∧ 2 ≤ hs.length ∧ hs.length ≤ 1000 ∧ (∀ x ∈ hs, -1000000 ≤ x ∧ x ≤ 1000000) ∧
  ∀ l H', H l = none → (∀ b o, H b = some o → b ≠ p → H' b = some o) → H' p = some (.ins T.c_Ring dx [("over", .ref l)]) → H' l = some (.lst (hs.map V.int)) → Q .non H'
theorem ok_Ring_init (T : Txt K mg) : FnOk P w K mg base CX0 3 T.f_Ring_init T.fd_Ring_init ["self", "houses"] (sp_Ring_init T) := by
  refine T.F_Ring_init.ok sc_Ring_init (fun vs H Q E h => ?_) (fun cdv A outer s H vs Q E hr h => ?_)
  · obtain ⟨_, _, _, _, rfl, _⟩ := h
    rfl
  · skip
    obtain ⟨p, dx, a, hs, rfl, hp, ha, h2, hl, hb, k⟩ := h
    have A := At.nil H
    refine ⟨_, (pss_cons (ps_if (PW.pt (pw_or (pt_not (pt_val (pe_callB (kIsi (K := K)) (by rfl) T.n_isinstance EB.bt_isinstance (pa_cons (pv 1) (pa_cons (pe_bltn (v := .ty "list") (by rfl) T.n_list EB.bt_list rfl) pa_nil))))) (pw_or (pt_cmpR op_lt (pe_callB (kLen (K := K)) (by rfl) T.n_len PySem.boot_len (pa_cons (pv 1) pa_nil)) pe_int (nomark _)) (pw_or1 (pt_not (pt_val (pe_callB (kAll (K := K)) (by rfl) T.n_all EB.bt_all (pa_cons (pe_lc (own := [("one", 2)]) (g := gName 2) rfl sc_Ring_init.nd (kPiL (K := K) (pv 1)) (blkOk_by (own := [("one", 2)]) (N := ["self", "houses", "one"]) (sc := defScope s_Ring_init) (by decide +kernel)) (fun _ _ _ _ _ => (pg_name (i := 2) sc_Ring_init.nd rfl (by first | exact Or.inl rfl | exact Or.inr rfl))) (fun _ _ _ _ _ => pts_nil) (fun _ _ _ _ _ => (pe_call (ok_is_house T) (hr.mono (by decide)) (by rfl) T.g_is_house T.F_is_house.kp (b_is_house T) .nil pass0 (pa_cons (pv 2) pa_nil)))) pa_nil)))))))) (pss_one ps_never) pss_nil)
      (pss_one (ps_fld (pv 0) (pe_callTy (kList (K := K)) (by rfl) T.n_list EB.bt_list (pa_cons (pv 1) pa_nil)) rfl))), ?_⟩
    repeat walk_at "s"
    refine r_lcLB (fun _ => true) A (.inl ha) (by omega) (fun _ => rfl) (fun i x D H' Q' hx A' q => ?_) (fun D H' A' => ?_)
    · repeat walk_at "s"
      refine ⟨x, rfl, (hb x (List.mem_of_getElem? hx)).1, (hb x (List.mem_of_getElem? hx)).2, ?_⟩
      exact q.t0 rfl A'
    · repeat walk_at "s"
      rw [show ((hs.map fun _ => true).all id) = true by simp]
      repeat walk_at "s"
      refine r_list A' (by walk_at "sq") (fun l H2 A2 => ?_)
      repeat walk_at "s"
      refine r_sfK (A2.ex _ _ hp) T.cl_Ring T.no_Ring_over (by decide) ?_
      have npl : l ≠ p := fun e => by
        have z := A2.new _ List.mem_cons_self
        rw [e] at z
        rw [z] at hp
        cases hp
      refine k l _ (A2.new _ List.mem_cons_self) (fun b o e hb => ?_) upd_same ?_
      · rw [upd_ne hb]
        exact A2.ex _ _ e
      · rw [upd_ne npl]
        exact A2.get List.mem_cons_self
/-- a ring made -/
theorem use_Ring {T : Txt K mg} {H : Hp} {Q : VK} {E : XK} {a : Addr} {hs : List Int} (ha : SqL K H a (hs.map V.int)) (h2 : 2 ≤ hs.length) (hl : hs.length ≤ 1000) (hb : ∀ x ∈ hs, -1000000 ≤ x ∧ x ≤ 1000000)
    (k : ∀ p H', Same H H' → H p = none → RingAt T H' p hs → Q (.ref p) H') : mkC T.c_Ring (sp_Ring_init T) [.ref a] H Q E := fun x dx nx nd ne =>
  ⟨x, dx, a, hs, rfl, upd_same, (same_mk nx nd).seq ha, h2, hl, hb, fun l H' _ keep hp hl' => ⟨rfl, k x H' (fun b o e => keep b o (same_mk nx nd b o e) (ne_of_none e nx)) nx ⟨dx, l, hp, hl'⟩⟩⟩
def sp_Ring_houses (T : Txt K mg) : Sp := fun vs H Q _ => ∃ (p : Addr) (hs : List Int), vs = [.ref p] ∧ RingAt T H p hs ∧ ∀ q H', Same H H' → H q = none → H' q = some (.lst (hs.map V.int)) → Q (.ref q) H'
theorem ok_Ring_houses (T : Txt K mg) : FnOk P w K mg base CX0 1 T.f_Ring_houses T.fd_Ring_houses ["self"] (sp_Ring_houses T) := by
  refine T.F_Ring_houses.ok sc_Ring_houses (fun vs H Q E h => ?_) (fun cdv A outer s H vs Q E hr h => ?_)
  · obtain ⟨_, _, rfl, _⟩ := h
    rfl
  · skip
    obtain ⟨p, hs, rfl, ⟨dx, l, hp, hl⟩, k⟩ := h
    have A := At.nil H
    refine ⟨_, (pss_one (ps_ret (pe_callTy (kList (K := K)) (by rfl) T.n_list EB.bt_list (pa_cons (kFld (K := K) (pv 0)) pa_nil)))), ?_⟩
    repeat walk_at "s"
    refine r_list A (SqL.of hl) (fun q H2 A2 => ?_)
    exact k q H2 A2.ex (A2.new _ List.mem_cons_self) (A2.get List.mem_cons_self)
def sp_Ring_whole (T : Txt K mg) : Sp := fun vs H Q _ => ∃ (p : Addr) (hs : List Int), vs = [.ref p] ∧ RingAt T H p hs ∧ Q (.int hs.sum) H
theorem ok_Ring_whole (T : Txt K mg) : FnOk P w K mg base CX0 1 T.f_Ring_whole T.fd_Ring_whole ["self"] (sp_Ring_whole T) := by
  refine T.F_Ring_whole.ok sc_Ring_whole (fun vs H Q E h => ?_) (fun cdv A outer s H vs Q E hr h => ?_)
  · obtain ⟨_, _, rfl, _⟩ := h
    rfl
  · skip
    obtain ⟨p, hs, rfl, ⟨dx, l, hp, hl⟩, k⟩ := h
    have hs' : SqL K H l (hs.map V.int) := SqL.of hl
    refine ⟨_, (pss_one (ps_ret (pe_callB (kSum (K := K)) (by rfl) T.n_sum EB.bt_sum (pa_cons (kFld (K := K) (pv 0)) pa_nil)))), ?_⟩
    repeat walk_at "s"
    exact k
/-- o.houses(), o.whole() of a ring -/
theorem use_houses {T : Txt K mg} {H : Hp} {Q : VK} {E : XK} {p : Addr} {hs : List Int} {σ : L2.St} (R : RingAt T H p hs) (k : ∀ q H', Same H H' → H q = none → H' q = some (.lst (hs.map V.int)) → Q (.ref q) H') : mthK T.c_Ring "houses" (sp_Ring_houses T) tNil σ (.ref p) H Q E := by
  obtain ⟨dx, l, hp, hl⟩ := id R
  exact r_mthK hp (look1 (by decide +kernel)) ⟨p, hs, rfl, R, k⟩
theorem use_whole {T : Txt K mg} {H : Hp} {Q : VK} {E : XK} {p : Addr} {hs : List Int} {σ : L2.St} (R : RingAt T H p hs) (k : Q (.int hs.sum) H) : mthK T.c_Ring "whole" (sp_Ring_whole T) tNil σ (.ref p) H Q E := by
  obtain ⟨dx, l, hp, hl⟩ := id R
  exact r_mthK hp (look1 (by decide +kernel)) ⟨p, hs, rfl, R, k⟩
/-- a ring made, its list known -/
theorem use_RingL {T : Txt K mg} {H : Hp} {Q : VK} {E : XK} {a : Addr} {hs : List Int} (ha : SqL K H a (hs.map V.int)) (h2 : 2 ≤ hs.length) (hl : hs.length ≤ 1000) (hb : ∀ x ∈ hs, -1000000 ≤ x ∧ x ≤ 1000000)
    (k : ∀ p l dx H', Same H H' → H p = none → H l = none → H' p = some (.ins T.c_Ring dx [("over", .ref l)]) → H' l = some (.lst (hs.map V.int)) → Q (.ref p) H') : mkC T.c_Ring (sp_Ring_init T) [.ref a] H Q E := fun x dx nx nd _ =>
  ⟨x, dx, a, hs, rfl, upd_same, (same_mk nx nd).seq ha, h2, hl, hb, fun l H' h0 keep hp hl' => ⟨rfl, k x l dx H' (fun b o e => keep b o (same_mk nx nd b o e) (ne_of_none e nx)) nx ((same_mk nx nd).free h0) hp hl'⟩⟩

def sp_law_cell_at (_ : Txt K mg) : Sp := fun vs H Q _ => ∃ (a : Addr) (ns : List Int) (k : Int), vs = [.ref a, .int k] ∧ SqL K H a (ns.map V.int) ∧ 0 ≤ k ∧ ∀ c : Int, Q (.int c) H
theorem ok_law_cell_at (T : Txt K mg) : FnOk P w K mg base CX0 1 T.f_law_cell_at T.fd_law_cell_at ["_law_script", "_law_k"] (sp_law_cell_at T) := by
  refine T.F_law_cell_at.ok sc_law_cell_at (fun vs H Q E h => ?_) (fun cdv A outer s H vs Q E hr h => ?_)
  · obtain ⟨_, _, _, rfl, _⟩ := h
    rfl
  · skip
    obtain ⟨a, ns, i, rfl, ha, hi, k⟩ := h
    refine ⟨_, (pss_cons (ps_if (pt_cmpR op_lt (pv 1) (pe_callB (kLen (K := K)) (by rfl) T.n_len PySem.boot_len (pa_cons (pv 0) pa_nil)) (nomark _)) (pss_one (ps_ret (pe_ix (kIxL (K := K)) (pv 0) (pv 1) (fun _ _ => rfl)))) pss_nil)
      (pss_one (ps_ret pe_int))), ?_⟩
    repeat walk_at "s"
    refine r_ifD (fun hlt => ?_) (fun _ => ?_)
    · repeat walk_at "s"
      exact k _
    · repeat walk_at "s"
      exact k _
theorem use_cell {T : Txt K mg} {H : Hp} {Q : VK} {E : XK} {a : Addr} {ns : List Int} {i : Int} (ha : SqL K H a (ns.map V.int)) (hi : 0 ≤ i) (k : ∀ c : Int, Q (.int c) H) : sp_law_cell_at T [.ref a, .int i] H Q E := ⟨a, ns, i, rfl, ha, hi, k⟩
def sp_law_draw (_ : Txt K mg) : Sp := fun vs H Q _ => ∃ c i m : Int, vs = [.int c, .int i, .int m] ∧ 0 < m ∧ ∀ d H', Same H H' → 0 ≤ d → d < m → Q (.int d) H'
def primes : List Int := [1000003, 1000033, 1000037, 1000039, 1000081, 1000099, 1000117, 1000121, 1000133, 1000151, 1000159, 1000171, 1000183, 1000187, 1000193, 1000199]
theorem primes_pos : ∀ x ∈ primes, 0 < x := by decide
theorem ok_law_draw (T : Txt K mg) : FnOk P w K mg base CX0 1 T.f_law_draw T.fd_law_draw ["_law_cell", "_law_k", "_law_many"] (sp_law_draw T) := by
  refine T.F_law_draw.ok sc_law_draw (fun vs H Q E h => ?_) (fun cdv A outer s H vs Q E hr h => ?_)
  · obtain ⟨_, _, _, rfl, _⟩ := h
    rfl
  · skip
    obtain ⟨c, i, m, rfl, hm, k⟩ := h
    have A := At.nil H
    refine ⟨_, (pss_cons (ps_set (i := 3) sc_law_draw.nd rfl (by first | exact Or.inl rfl | exact Or.inr rfl) (pe_tup (pa_cons pe_int (pa_cons pe_int (pa_cons pe_int (pa_cons pe_int (pa_cons pe_int (pa_cons pe_int (pa_cons pe_int (pa_cons pe_int (pa_cons pe_int (pa_cons pe_int (pa_cons pe_int (pa_cons pe_int (pa_cons pe_int (pa_cons pe_int (pa_cons pe_int (pa_cons pe_int pa_nil))))))))))))))))))
      (pss_one (ps_ret (pe_op op_mod (pe_op op_mod (pe_op op_add (pe_op op_mul (pv 0) pe_int) (pe_op op_mul (pv 1) pe_int)) (pe_ix (kIxT (K := K)) (pv 3) (pe_op op_mod (pv 1) pe_int) (fun _ _ => rfl))) (pv 2))))), ?_⟩
    repeat walk_at "s"
    refine r_mkT A (by decide) (fun t H' A' => ?_)
    repeat walk_at "s"
    have h1 : 0 ≤ i % 16 := Int.emod_nonneg _ (by decide)
    have h2 : i % 16 < 16 := Int.emod_lt_of_pos _ (by decide)
    refine r_ixT (xs := primes.map V.int) (v := .int (gz primes (i % 16))) (A'.sto (by walk_at "mem")) (atI_gz (by show -(16 : Int) ≤ _; omega) h2) ?_
    have h3 : 0 < gz primes (i % 16) := primes_pos _ (EM.gz_mem (by show -(16 : Int) ≤ _; omega) h2)
    repeat walk_at "s"
    exact k _ H' A'.ex (Int.emod_nonneg _ (by omega)) (Int.emod_lt_of_pos _ hm)
theorem use_draw {T : Txt K mg} {H0 H : Hp} {L : List (Addr × HO)} {Q : VK} {E : XK} {c i m : Int} (A : At H0 L H) (hm : 0 < m) (k : ∀ d H', At H0 L H' → 0 ≤ d → d < m → Q (.int d) H') : sp_law_draw T [.int c, .int i, .int m] H Q E :=
  ⟨c, i, m, rfl, hm, fun d H' s h0 h1 => k d H' (A.same s) h0 h1⟩
local macro_rules | `(tactic| walk_at "s") => `(tactic| ((with_reducible show sp_law_draw _ [_, _, _] _ _ _); refine use_draw (by assumption) (by omega) ?_; intro d H' A' h0 h1))
local macro_rules | `(tactic| walk_at "s") => `(tactic| ((with_reducible show sp_law_cell_at _ [_, _] _ _ _); refine use_cell (by walk_at "sq") (by omega) ?_; intro c))
def sp_law_houses (_ : Txt K mg) : Sp := fun vs H Q _ => ∃ (a : Addr) (ns : List Int) (f : Int), vs = [.ref a, .int f] ∧ SqL K H a (ns.map V.int) ∧ ns.length ≤ 63 ∧ -6 ≤ f ∧ f ≤ 6 ∧
  ∀ hs q H', EM.Houses ns.length hs → Same H H' → H q = none → H' q = some (.lst (hs.map V.int)) → Q (.ref q) H'
theorem ok_law_houses (T : Txt K mg) : FnOk P w K mg base CX0 2 T.f_law_houses T.fd_law_houses ["_law_script", "_law_first"] (sp_law_houses T) := by
  refine T.F_law_houses.ok sc_law_houses (fun vs H Q E h => ?_) (fun cdv A outer s H vs Q E hr h => ?_)
  · obtain ⟨_, _, _, rfl, _⟩ := h
    rfl
  · skip
    obtain ⟨a, ns, f, rfl, ha, hn, hf1, hf2, k⟩ := h
    have A := At.nil H
    refine ⟨_, (pss_cons (ps_set (i := 2) sc_law_houses.nd rfl (by first | exact Or.inl rfl | exact Or.inr rfl) (pe_ix (kIxT (K := K)) (pe_tup (pa_cons pe_int (pa_cons pe_int (pa_cons pe_int (pa_cons pe_int pa_nil))))) (pe_call (ok_law_draw T) (hr.mono (by decide)) (by rfl) T.g_law_draw T.F_law_draw.kp (b_law_draw T) .nil pass0 (pa_cons (pe_call (ok_law_cell_at T) (hr.mono (by decide)) (by rfl) T.g_law_cell_at T.F_law_cell_at.kp (b_law_cell_at T) .nil pass0 (pa_cons (pv 0) (pa_cons pe_int pa_nil))) (pa_cons pe_int (pa_cons pe_int pa_nil)))) (fun _ _ => rfl)))
      (pss_cons (ps_set (i := 3) sc_law_houses.nd rfl (by first | exact Or.inl rfl | exact Or.inr rfl) (pe_lst (pa_cons (pe_op op_sub (pe_call (ok_law_draw T) (hr.mono (by decide)) (by rfl) T.g_law_draw T.F_law_draw.kp (b_law_draw T) .nil pass0 (pa_cons (pe_call (ok_law_cell_at T) (hr.mono (by decide)) (by rfl) T.g_law_cell_at T.F_law_cell_at.kp (b_law_cell_at T) .nil pass0 (pa_cons (pv 0) (pa_cons pe_int pa_nil))) (pa_cons pe_int (pa_cons pe_int pa_nil)))) pe_int) (pa_cons (pv 1) pa_nil))))
      (pss_cons (ps_for PassesOwn.never rfl (pi_range1 (by rfl) T.n_range (pa_cons (pe_callB (kLen (K := K)) (by rfl) T.n_len PySem.boot_len (pa_cons (pv 0) pa_nil)) pa_nil)) (pg_name (i := 4) sc_law_houses.nd rfl (by first | exact Or.inl rfl | exact Or.inr rfl)) (pss_one (ps_expr (pe_bm PySem.F.plainAttrs_list PySem.F.slot_list_append PySem.F.type_list_append mt_append (pv 3) (pa_cons (pe_op op_sub (pe_call (ok_law_draw T) (hr.mono (by decide)) (by rfl) T.g_law_draw T.F_law_draw.kp (b_law_draw T) .nil pass0 (pa_cons (pe_ix (kIxL (K := K)) (pv 0) (pv 4) (fun _ _ => rfl)) (pa_cons (pe_op op_add (pe_op op_mod (pv 4) pe_int) pe_int) (pa_cons (pe_op op_add (pe_op op_mul pe_int (pv 2)) pe_int) pa_nil)))) (pv 2)) pa_nil)))))
      (pss_one (ps_ret (pe_lc (own := [("_law_k", 4)]) (g := gName 4) rfl sc_law_houses.nd (pi_range1 (by rfl) T.n_range (pa_cons (pe_callB (kLen (K := K)) (by rfl) T.n_len PySem.boot_len (pa_cons (pv 3) pa_nil)) pa_nil)) (blkOk_by (own := [("_law_k", 4)]) (N := ["_law_script", "_law_first", "_law_most", "_law_carried", "_law_k"]) (sc := defScope s_law_houses) (by decide +kernel)) (fun _ _ _ _ _ => (pg_name (i := 4) sc_law_houses.nd rfl (by first | exact Or.inl rfl | exact Or.inr rfl))) (fun _ _ _ _ _ => pts_nil) (fun _ _ _ _ _ => (pe_op op_sub (pe_ix (kIxL (K := K)) (pv 3) (pv 4) (fun _ _ => rfl)) (pe_ix (kIxL (K := K)) (pv 3) (pe_op op_sub (pv 4) pe_int) (fun _ _ => rfl)))))))))), ?_⟩
    repeat walk_at "s"
    refine r_mkT A (by decide) (fun t H1 A1 => ?_)
    repeat walk_at "s"
    rename_i d Hd Ad hd0 hd3
    refine r_ixTI (ns := [2, 9, 400, 499999]) (Ad.sto (by walk_at "mem")) (by show -(4 : Int) ≤ _; omega) (by show _ < (4 : Int); omega) ?_
    have hm : 2 ≤ gz [2, 9, 400, 499999] d ∧ gz [2, 9, 400, 499999] d ≤ 499999 := (by decide : ∀ x ∈ ([2, 9, 400, 499999] : List Int), 2 ≤ x ∧ x ≤ 499999) _ (EM.gz_mem (by show -(4 : Int) ≤ _; omega) (by show _ < (4 : Int); omega))
    generalize gz [2, 9, 400, 499999] d = m at hm ⊢
    repeat walk_at "s"
    rename_i c0 d0 H0 A0 h00 h03
    refine r_mkL A0 (by show 2 ≤ 10000000; decide) (fun l H2 A2 => ?_)
    repeat walk_at "s"
    refine r_rng1 rfl (by omega) ?_
    have A3 : At H [(l, .lst (([d0 - 1, f] : List Int).map V.int))] H2 := A2.sub (by simp)
    refine r_forItr (fun i σ H' => ∃ (cs : List Int) (v : Option V), σ = [some (.ref a), some (.int f), some (.int m), some (.ref l), v] ∧ At H [(l, .lst (cs.map V.int))] H' ∧ cs.length = i + 2 ∧ (∀ c ∈ cs, -499999 ≤ c ∧ c ≤ 499999) ∧ -1 ≤ EM.fz cs 0 ∧ EM.fz cs 0 ≤ 1)
      ⟨[d0 - 1, f], none, rfl, A3, rfl, ?_, ?_, ?_⟩ ?_ ?_
    · intro c hc
      simp at hc
      rcases hc with rfl | rfl <;> omega
    · show -1 ≤ d0 - 1; omega
    · show d0 - 1 ≤ 1; omega
    · rintro i σ H3 N hi ⟨cs, v, rfl, A4, hl, hb, hz1, hz2⟩ hN
      repeat walk_at "s"
      rename_i c d H4 A5 hd0 hd1
      refine r_append A5 (by rw [List.length_map]; omega) (fun H5 A6 => ?_)
      refine hN _ _ ⟨cs ++ [d - m], some (.int i), rfl, by rw [← EM.map_app]; exact A6, by rw [List.length_append, hl]; rfl, ?_, ?_⟩
      · intro c hc
        rcases List.mem_append.mp hc with hc | hc
        · exact hb c hc
        · rw [List.mem_singleton] at hc
          omega
      · rw [EM.fz_app (fun e => by rw [e] at hl; simp at hl)]
        exact ⟨hz1, hz2⟩
    · rintro σ H3 ⟨cs, v, rfl, A4, hl, hb, hz1, hz2⟩
      repeat walk_at "s"
      refine r_rng1 (n := cs.length) rfl (by omega) ?_
      refine r_lcRI (fun k => gz cs (k : Int) - gz cs ((k : Int) - 1)) A4 (by omega) (fun _ => rfl) (fun i D H' Q' hi A' q => ?_) (fun D H' A' => ?_)
      · repeat walk_at "s"
        exact q.t0 rfl A'
      · exact k (EM.cyc cs) D H' (EM.houses_of hl hb ⟨hz1, hz2⟩) A'.ex (A'.new _ List.mem_cons_self) (A'.get List.mem_cons_self)

open EW (figs okW numW)
/-- the texts of numbers, a blank between -/
def txtOf (hs : List Int) : Str := Txt.join " " (hs.map fun x => Str.ofString (toString x))
theorem log_small {x : Int} (h : -1000000 ≤ x ∧ x ≤ 1000000) : x.natAbs.log2 < 1920 := by
  have h1 : x.natAbs < 2 ^ 1920 := Nat.lt_of_le_of_lt (show x.natAbs ≤ 1000000 by omega) (by decide +kernel)
  by_cases h0 : x.natAbs = 0
  · rw [h0]
    decide
  · exact (Nat.log2_lt h0).mpr h1
theorem join_small {hs : List Int} (hn : hs.length ≤ 20000) (hb : ∀ x ∈ hs, -1000000 ≤ x ∧ x ≤ 1000000) : ((hs.map fun x => Str.ofString (toString x)).map (·.length)).sum + (hs.map fun x => Str.ofString (toString x)).length * (Str.ofString " ").length ≤ 16777216 := by
  have h1 : ∀ l : List Int, (∀ x ∈ l, -1000000 ≤ x ∧ x ≤ 1000000) → ((l.map fun x => Str.ofString (toString x)).map (·.length)).sum ≤ 16 * l.length := fun l => by
    induction l with
    | nil => intro _; exact Nat.le_refl _
    | cons a r ih =>
      intro hl
      have := EW.str_small (hl a List.mem_cons_self)
      have := ih fun x hx => hl x (List.mem_cons_of_mem _ hx)
      rw [List.map_cons, List.map_cons, List.sum_cons, List.length_cons]
      omega
  have h2 := h1 hs hb
  have h3 : (Str.ofString " ").length = 1 := by decide +kernel
  rw [List.length_map, h3]
  omega
def sp_written (T : Txt K mg) : Sp := fun vs H Q _ => ∃ (p : Addr) (hs : List Int), vs = [.ref p] ∧ RingAt T H p hs ∧ hs.length ≤ 20000 ∧ (∀ x ∈ hs, -1000000 ≤ x ∧ x ≤ 1000000) ∧ ∀ H', Same H H' → Q (.str (txtOf hs)) H'
theorem ok_written (T : Txt K mg) : FnOk P w K mg base CX0 1 T.f_written T.fd_written ["ring"] (sp_written T) := by
  refine T.F_written.ok sc_written (fun vs H Q E h => ?_) (fun cdv A outer s H vs Q E hr h => ?_)
  · obtain ⟨_, _, rfl, _⟩ := h
    rfl
  · skip
    obtain ⟨p, hs, rfl, ⟨dx, l, hp, hl⟩, hn, hb, k⟩ := h
    have A := At.nil H
    have h1 : SqL K H l (hs.map V.int) := SqL.of hl
    refine ⟨_, (pss_one (ps_ret (pe_join pe_str (pe_lc (own := [("house", 1)]) (g := gName 1) rfl sc_written.nd (kPiL (K := K) (kFld (K := K) (pv 0))) (blkOk_by (own := [("house", 1)]) (N := ["ring", "house"]) (sc := defScope s_written) (by decide +kernel)) (fun _ _ _ _ _ => (pg_name (i := 1) sc_written.nd rfl (by first | exact Or.inl rfl | exact Or.inr rfl))) (fun _ _ _ _ _ => pts_nil) (fun _ _ _ _ _ => (pe_callTy call_str_int (by rfl) T.n_str EB.bt_str (pa_cons (pv 1) pa_nil))))))), ?_⟩
    repeat walk_at "s"
    refine r_lcItlI (fun x => V.str (Str.ofString (toString x))) A (.inl h1) (by omega) (fun _ => rfl) (fun i x D H' Q' hx A' q => ?_) (fun D H' A' => ?_)
    · have hbx := hb x (List.mem_of_getElem? hx)
      repeat walk_at "s"
      refine ⟨x, rfl, log_small hbx, ?_⟩
      exact q.t0 rfl A'
    · repeat walk_at "s"
      refine ⟨_, D, hs.map fun x => Str.ofString (toString x), rfl, rfl, .inl ?_, ?_, k H' A'.ex⟩
      · have z : SqL K H' D (hs.map fun x => V.str (Str.ofString (toString x))) := A'.sqo (by walk_at "mem")
        rw [List.map_map]
        exact z
      · exact join_small hn hb
def okV : Option Int → V | none => .non | some n => .int n
theorem okW_of {w : Str} {c : Nat} {r : List Nat} (e1 : 1 ≤ (figs w).length) (e2 : (figs w).length ≤ 7) (e3 : Txt.stripChars (figs w) (Str.ofString "0123456789") = Str.ofString "") (hcs : (figs w).cps.toList = c :: r) : okW w = !(decide (c = 48) && !decide (w = Str.ofString "0")) := by
  unfold okW
  have q1 : decide (1 ≤ (figs w).length ∧ (figs w).length ≤ 7) = true := decide_eq_true ⟨e1, e2⟩
  have q2 : decide (Txt.stripChars (figs w) "0123456789" = "") = true := decide_eq_true e3
  rw [q1, q2, hcs, Bool.true_and, Bool.true_and]
  congr 1
  congr 1
  · exact decide_eq_decide.mpr ⟨fun z => Option.some.inj z, fun z => by rw [z]; rfl⟩
  · by_cases q : w = Str.ofString "0"
    · rw [decide_eq_false (fun z => z q), decide_eq_true q]; rfl
    · rw [decide_eq_true q, decide_eq_false q]; rfl
def sp_law_number (_ : Txt K mg) : Sp := fun vs H Q _ => ∃ w : Str, vs = [.str w] ∧ w.length ≤ 10000 ∧ Q (okV (numW w)) H
theorem ok_law_number (T : Txt K mg) : FnOk P w K mg base CX0 1 T.f_law_number T.fd_law_number ["_law_text"] (sp_law_number T) := by
  refine T.F_law_number.ok sc_law_number (fun vs H Q E h => ?_) (fun cdv A outer s H vs Q E hr h => ?_)
  · obtain ⟨_, rfl, _⟩ := h
    rfl
  · skip
    obtain ⟨w, rfl, hl, k⟩ := h
    refine ⟨_, (Evl.pss_cut (ps_set (i := 1) sc_law_number.nd rfl (by first | exact Or.inl rfl | exact Or.inr rfl) (pe_ifExp (pt_cmpR op_eq (pe_slice sl_str (pv 0) po_none (po_some pe_int)) pe_str (nomark _)) (pe_slice sl_str (pv 0) (po_some pe_int) po_none) (pv 0)))
      (pss_cons (ps_if (PW.pt (pw_or (pt_cmpR op_eq (pv 1) pe_str (nomark _)) (pw_or (pt_cmpR op_gt (pe_callB call_len_str (by rfl) T.n_len PySem.boot_len (pa_cons (pv 1) pa_nil)) pe_int (nomark _)) (pw_or (pt_cmpR op_ne (pe_bm PySem.F.plainAttrs_str PySem.F.slot_str_strip PySem.F.type_str_strip mt_stripChars (pv 1) (pa_cons pe_str pa_nil)) pe_str (nomark _)) (pw_or1 (PW.pt (pw_and (pt_cmpR op_eq (pe_ix ix_str (pv 1) pe_int (fun _ _ => rfl)) pe_str (nomark _)) (pw_and1 (pt_cmpR op_ne (pv 0) pe_str (nomark _)))))))))) (pss_one (ps_ret pe_non)) pss_nil)
      (pss_one (ps_ret (pe_ifExp (pt_chain op_lt op_lt (pe_un un_neg pe_int) (pe_callTy call_int_str (by rfl) T.n_int EB.bt_int (pa_cons (pv 0) pa_nil)) pe_int) (pe_callTy call_int_str (by rfl) T.n_int EB.bt_int (pa_cons (pv 0) pa_nil)) pe_non))))), ?_⟩
    refine r_cut (Mid := fun σ' H' => σ' = [some (.str w), some (.str (figs w))] ∧ H' = H) ?_ ?_
    · repeat walk_at "s"
      refine r_slS (by omega) ?_
      repeat walk_at "s"
      rw [EW.cut_minus]
      refine r_if2 (fun e => ?_) (fun e => ?_)
      · repeat walk_at "s"
        refine r_slS (by omega) ?_
        repeat walk_at "s"
        exact ⟨by rw [figs, if_pos e]; rfl, rfl⟩
      · repeat walk_at "s"
        exact ⟨by rw [figs, if_neg (by rw [e]; decide)]; rfl, rfl⟩
    rintro σ' H' ⟨rfl, rfl⟩
    have hfl := figs_len w
    have kn : okW w = false → Q .non H' := fun e => by
      have z := k
      unfold numW at z
      rw [if_neg (by rw [e]; decide)] at z
      exact z
    have hwl := len_figs w
    have hsz : (figs w).cps.toList.length = (figs w).length := Array.length_toList
    have fin : okW w = true → ∃ n, intText? w = some n ∧ (-1000001 < n → n < 1000001 → Q (.int n) H') ∧ (¬ (-1000001 < n ∧ n < 1000001) → Q .non H') := fun e => by
      obtain ⟨n, h1, _⟩ := EW.ok_num e
      have z := k
      unfold numW at z
      rw [if_pos e, h1] at z
      refine ⟨n, h1, fun q1 q2 => ?_, fun q => ?_⟩
      · have z' : Q (okV (if -1000001 < n ∧ n < 1000001 then some n else none)) H' := z
        rw [if_pos ⟨q1, q2⟩] at z'
        exact z'
      · have z' : Q (okV (if -1000001 < n ∧ n < 1000001 then some n else none)) H' := z
        rw [if_neg q] at z'
        exact z'
    repeat walk_at "s"
    refine r_ifD (fun e0 => ?_) (fun e0 => ?_)
    · repeat walk_at "s"
      exact kn (by unfold okW; rw [decide_eq_false (fun z => by rw [e0] at z; exact absurd z.1 (by decide +kernel))]; rfl)
    repeat walk_at "s"
    refine ⟨_, rfl, sz (by omega), ?_⟩
    repeat walk_at "s"
    refine r_ifD (fun e1 => ?_) (fun e1 => ?_)
    · repeat walk_at "s"
      exact kn (by unfold okW; rw [decide_eq_false (fun z => by omega)]; rfl)
    repeat walk_at "s"
    refine ⟨_, _, rfl, rfl, sz (by omega), ?_⟩
    repeat walk_at "s"
    refine r_ifND (fun e3 => ?_) (fun e3 => ?_)
    · repeat walk_at "s"
      exact kn (by unfold okW; rw [decide_eq_false e3]; simp)
    repeat walk_at "s"
    have hlen : 1 ≤ (figs w).length := by
      cases q : (figs w).length with
      | zero =>
        exfalso
        apply e0
        rw [q] at hsz
        have z := List.length_eq_zero_iff.mp hsz
        rw [← SX.S_tl (figs w), z]
        decide +kernel
      | succ n => omega
    obtain ⟨c, r, hcs⟩ : ∃ c r, (figs w).cps.toList = c :: r := by
      cases q : (figs w).cps.toList with
      | nil => rw [q] at hsz; simp at hsz; omega
      | cons c r => exact ⟨c, r, rfl⟩
    have hok := okW_of hlen (by omega) e3 hcs
    refine r_ixS (by omega) (by rw [hcs]; exact atI_nat (j := 0) rfl) ?_
    repeat walk_at "s"
    refine r_ifD (fun e4 => ?_) (fun e4 => ?_)
    · have e5 : c = 48 := one_48.mp e4
      repeat walk_at "s"
      refine r_ifND (fun e6 => ?_) (fun e6 => ?_)
      · repeat walk_at "s"
        exact kn (by rw [hok, decide_eq_true e5, decide_eq_false e6]; rfl)
      · repeat walk_at "s"
        obtain ⟨n, h1, h2, h3⟩ := fin (by rw [hok, decide_eq_true e5, decide_eq_true e6]; rfl)
        refine ⟨w, n, rfl, h1, by omega, ?_⟩
        repeat walk_at "s"
        refine r_ifD (fun e7 => ?_) (fun e7 => ?_)
        · repeat walk_at "s"
          refine r_ifD (fun e8 => ?_) (fun e8 => ?_)
          · repeat walk_at "s"
            exact ⟨w, n, rfl, h1, by omega, h2 e7 e8⟩
          · repeat walk_at "s"
            exact h3 (fun z => e8 z.2)
        · repeat walk_at "s"
          exact h3 (fun z => e7 z.1)
    · repeat walk_at "s"
      obtain ⟨n, h1, h2, h3⟩ := fin (by rw [hok, decide_eq_false (fun z => e4 (one_48.mpr z))]; rfl)
      refine ⟨w, n, rfl, h1, by omega, ?_⟩
      repeat walk_at "s"
      refine r_ifD (fun e7 => ?_) (fun e7 => ?_)
      · repeat walk_at "s"
        refine r_ifD (fun e8 => ?_) (fun e8 => ?_)
        · repeat walk_at "s"
          exact ⟨w, n, rfl, h1, by omega, h2 e7 e8⟩
        · repeat walk_at "s"
          exact h3 (fun z => e8 z.2)
      · repeat walk_at "s"
        exact h3 (fun z => e7 z.1)

open EW (figs okW numW)
/-- the words of a text, as the row reads them -/
def wordsV (t : Str) : List V := (Txt.split t " ").map fun v => okV (numW v)
def inRes (t : Str) (q : Addr) : V := if (Txt.split t " ").all (fun v => (numW v).isSome) && decide (2 ≤ (Txt.split t " ").length) then .ref q else .non
def unS : V → Str | .str v => v | _ => Str.empty
theorem flat_words (t : Str) : (wordsV t).all flatV = true := by
  rw [List.all_eq_true]
  intro x hx
  obtain ⟨v, _, rfl⟩ := List.mem_map.mp hx
  cases numW v <;> rfl
theorem in_words (t : Str) : inV .non (wordsV t) = !((Txt.split t " ").all fun v => (numW v).isSome) := by
  unfold inV wordsV
  rw [List.any_map]
  generalize Txt.split t " " = l
  induction l with
  | nil => rfl
  | cons a r ih =>
    rw [List.any_cons, List.all_cons, ih]
    cases h : numW a with
    | none => simp [okV, h, eqV]
    | some n => simp [okV, h, eqV]
def sp_law_in (_ : Txt K mg) : Sp := fun vs H Q _ => ∃ t : Str, vs = [.str t] ∧ t.length ≤ 9000 ∧ ∀ q H', Same H H' → H q = none → H' q = some (.lst (wordsV t)) → Q (inRes t q) H'
theorem ok_law_in (T : Txt K mg) : FnOk P w K mg base CX0 2 T.f_law_in T.fd_law_in ["_law_text"] (sp_law_in T) := by
  refine T.F_law_in.ok sc_law_in (fun vs H Q E h => ?_) (fun cdv A outer s H vs Q E hr h => ?_)
  · obtain ⟨_, rfl, _⟩ := h
    rfl
  · skip
    obtain ⟨t, rfl, hl, k⟩ := h
    have A := At.nil H
    refine ⟨_, (pss_cons (ps_setLc (own := [("_law_word", 2)]) (g := gName 2) (i := 1) rfl sc_law_in.nd rfl rfl (sw_true rfl rfl rfl (by decide +kernel)) (kPiL (K := K) (pe_split (pv 0) pe_str)) (blkOk_by (own := [("_law_word", 2)]) (N := ["_law_text", "_law_found", "_law_word"]) (sc := defScope s_law_in) (by decide +kernel)) (fun _ _ _ _ _ => (pg_name (i := 2) sc_law_in.nd rfl (by first | exact Or.inl rfl | exact Or.inr rfl))) (fun _ _ _ _ _ => pts_nil) (fun _ _ _ _ _ => (pe_call (ok_law_number T) (hr.mono (by decide)) (by rfl) T.g_law_number T.F_law_number.kp (b_law_number T) .nil pass0 (pa_cons (pv 2) pa_nil))))
      (pss_one (ps_ret (pe_ifExp (PW.pt (pw_or (pt_cmpR (kIn (K := K)) pe_non (pv 1) (by rfl)) (pw_or1 (pt_cmpR op_lt (pe_callB (kLen (K := K)) (by rfl) T.n_len PySem.boot_len (pa_cons (pv 1) pa_nil)) pe_int (nomark _))))) pe_non (pv 1))))), ?_⟩
    repeat walk_at "s"
    refine ⟨t, _, rfl, rfl, by decide +kernel, sz (by omega), fun p hp => ?_⟩
    have A1 := A.alloc hp (.lst ((Txt.split t (Str.ofString " ")).map V.str))
    repeat walk_at "s"
    refine r_lcItl (K := K) (xs := (Txt.split t (Str.ofString " ")).map V.str) (fun x => okV (numW (unS x))) A1 (fun L' H' A' => At.sqo A' (List.mem_append_right _ List.mem_cons_self)) (by rw [List.length_map]; have := EW.split_few t; omega) (fun _ => rfl) (fun i x D H' Q' hx A' q => ?_) (fun D H2 A2 => ?_)
    · obtain ⟨v, hv, rfl⟩ : ∃ v, v ∈ Txt.split t (Str.ofString " ") ∧ x = V.str v := by
        obtain ⟨v, hv, e⟩ := List.mem_map.mp (List.mem_of_getElem? hx)
        exact ⟨v, hv, e.symm⟩
      repeat walk_at "s"
      refine ⟨v, rfl, by have := EW.split_len hv; omega, ?_⟩
      exact q.t0 rfl A'
    rw [List.map_map] at A2
    have A3 : At H [(D, .lst (wordsV t)), (p, .lst ((Txt.split t (Str.ofString " ")).map V.str))] H2 := A2
    clear A1 A2
    have kD := k D H2 A3.ex (A3.new _ List.mem_cons_self) (A3.get List.mem_cons_self)
    have hlen : (wordsV t).length = (Txt.split t " ").length := List.length_map ..
    have hlenQ : SqL K H2 D (wordsV t) := A3.sqo List.mem_cons_self
    repeat walk_at "s"
    refine ⟨D, wordsV t, rfl, .inl (A3.sqo List.mem_cons_self), rfl, flat_words t, ?_⟩
    repeat walk_at "s"
    rw [if_neg (by decide), in_words]
    refine r_if2 (fun e => ?_) (fun e => ?_)
    · repeat walk_at "s"
      have z : inRes t D = .non := by
        unfold inRes
        cases q : (Txt.split t " ").all fun v => (numW v).isSome with
        | false => rfl
        | true => rw [q] at e; cases e
      rw [z] at kD
      exact kD
    · have q : ((Txt.split t " ").all fun v => (numW v).isSome) = true := by
        cases q : (Txt.split t " ").all fun v => (numW v).isSome with
        | false => rw [q] at e; cases e
        | true => rfl
      repeat walk_at "s"
      refine r_ifD (fun e2 => ?_) (fun e2 => ?_)
      · repeat walk_at "s"
        have z : inRes t D = .non := by
          unfold inRes
          rw [q, decide_eq_false (show ¬ 2 ≤ (Txt.split t " ").length by omega)]
          rfl
        rw [z] at kD
        exact kD
      · repeat walk_at "s"
        have z : inRes t D = .ref D := by
          unfold inRes
          rw [q, decide_eq_true (show 2 ≤ (Txt.split t " ").length by omega)]
          rfl
        rw [z] at kD
        exact kD

open EW (figs okW numW)
def inB (i : Int) : Bool := decide (-1000000 ≤ i ∧ i ≤ 1000000)
def sp_is_houseG (_ : Txt K mg) : Sp := fun vs H Q _ => ∃ i : Int, vs = [.int i] ∧ Q (.bl (inB i)) H
theorem ok_is_houseG (T : Txt K mg) : FnOk P w K mg base CX0 2 T.f_is_house T.fd_is_house ["thing"] (sp_is_houseG T) := by
  refine T.F_is_house.ok sc_is_house (fun vs H Q E h => ?_) (fun cdv A outer s H vs Q E hr h => ?_)
  · obtain ⟨_, rfl, _⟩ := h
    rfl
  · skip
    obtain ⟨i, rfl, k⟩ := h
    refine ⟨_, (pss_one (ps_ret (pe_and (pe_call (ok_is_whole T) (hr.mono (by decide)) (by rfl) T.g_is_whole T.F_is_whole.kp (b_is_whole T) .nil pass0 (pa_cons (pv 0) pa_nil)) (pe_one (pe_chain op_le op_le (pe_un un_neg (pe_glob (v := .int 1000000) (by rfl) T.k_GREATEST.2 ⟨_, rfl⟩)) (pv 0) (pe_glob (v := .int 1000000) (by rfl) T.k_GREATEST.2 ⟨_, rfl⟩)))))), ?_⟩
    repeat walk_at "s"
    refine ⟨i, rfl, ?_⟩
    repeat walk_at "s"
    refine r_ifD (fun e => ?_) (fun e => ?_)
    · repeat walk_at "s"
      have z : inB i = decide (i ≤ 1000000) := decide_eq_decide.mpr ⟨fun z => z.2, fun z => ⟨e, z⟩⟩
      rw [z] at k
      exact k
    · repeat walk_at "s"
      have z : inB i = false := decide_eq_false (fun z => e z.1)
      rw [z] at k
      exact k
def goodL (ns : List Int) : Bool := decide (2 ≤ ns.length) && ns.all inB
def sp_Ring_initR (T : Txt K mg) : Sp := fun vs H Q E => ∃ (p dx a : Addr) (ns : List Int), vs = [.ref p, .ref a] ∧ H p = some (.ins T.c_Ring dx []) ∧ SqL K H a (ns.map V.int) ∧ ns.length ≤ 20000 ∧ (goodL ns = false → ∀ H', Same H H' → E (.ref T.c_BadRing) none H') ∧
  (goodL ns = true → ∀ l H', H l = none → (∀ b o, H b = some o → b ≠ p → H' b = some o) → H' p = some (.ins T.c_Ring dx [("over", .ref l)]) → H' l = some (.lst (ns.map V.int)) → Q .non H')
theorem ok_Ring_initR (T : Txt K mg) : FnOk P w K mg base (L2N.CX P w) 4 T.f_Ring_init T.fd_Ring_init ["self", "houses"] (sp_Ring_initR T) := by
  refine EA.okC T.F_Ring_init sc_Ring_init (fun vs H Q E h => ?_) (fun cdv A outer s H vs Q E hr h => ?_)
  · obtain ⟨_, _, _, _, rfl, _⟩ := h
    rfl
  · skip
    obtain ⟨p, dx, a, ns, rfl, hp, ha, hn, k0, k1⟩ := h
    have A := At.nil H
    refine ⟨_, (pss_cons (ps_if (PW.pt (pw_or (pt_not (pt_val (pe_callB (kIsi (K := K)) (by rfl) T.n_isinstance EB.bt_isinstance (pa_cons (pv 1) (pa_cons (pe_bltn (v := .ty "list") (by rfl) T.n_list EB.bt_list rfl) pa_nil))))) (pw_or (pt_cmpR op_lt (pe_callB (kLen (K := K)) (by rfl) T.n_len PySem.boot_len (pa_cons (pv 1) pa_nil)) pe_int (nomark _)) (pw_or1 (pt_not (pt_val (pe_callB (kAll (K := K)) (by rfl) T.n_all EB.bt_all (pa_cons (pe_lc (own := [("one", 2)]) (g := gName 2) rfl sc_Ring_init.nd (kPiL (K := K) (pv 1)) (blkOk_by (own := [("one", 2)]) (N := ["self", "houses", "one"]) (sc := defScope s_Ring_init) (by decide +kernel)) (fun _ _ _ _ _ => (pg_name (i := 2) sc_Ring_init.nd rfl (by first | exact Or.inl rfl | exact Or.inr rfl))) (fun _ _ _ _ _ => pts_nil) (fun _ _ _ _ _ => (pe_call (ok_is_houseG T) (hr.mono (by decide)) (by rfl) T.g_is_house T.F_is_house.kp (b_is_house T) .nil pass0 (pa_cons (pv 2) pa_nil)))) pa_nil)))))))) (pss_one (L2N.ps_raise rfl (L2N.takes_of rfl rfl rfl rfl) (L2N.pmk_own PySem.F.excBase_ValueError T.x_BadRing T.g_BadRing T.kc_BadRing (raises_own T.be_BadRing T.ty_BadRing) (by exact rfl)))) pss_nil)
      (pss_one (ps_fld (pv 0) (pe_callTy (kList (K := K)) (by rfl) T.n_list EB.bt_list (pa_cons (pv 1) pa_nil)) rfl))), ?_⟩
    repeat walk_at "s"
    refine r_ifD (fun e => ?_) (fun e => ?_)
    · repeat walk_at "s"
      exact k0 (by unfold goodL; rw [decide_eq_false (fun z => by omega)]; rfl) _ A.ex
    repeat walk_at "s"
    refine r_lcLB inB A (.inl ha) (by omega) (fun _ => rfl) (fun i x D H' Q' hx A' q => ?_) (fun D H' A' => ?_)
    · repeat walk_at "s"
      refine ⟨x, rfl, ?_⟩
      exact q.t0 rfl A'
    repeat walk_at "s"
    refine r_if2 (fun e2 => ?_) (fun e2 => ?_)
    · exact k0 (by
        unfold goodL
        rw [EM.all_map_id] at e2
        cases q : ns.all inB with
        | true => rw [q] at e2; cases e2
        | false => exact Bool.and_false _) _ A'.ex
    have hg : goodL ns = true := by
      unfold goodL
      rw [EM.all_map_id] at e2
      cases q : ns.all inB with
      | true => rw [decide_eq_true (show 2 ≤ ns.length by omega)]; rfl
      | false => rw [q] at e2; cases e2
    repeat walk_at "s"
    refine r_list A' (by walk_at "sq") (fun l H2 A2 => ?_)
    repeat walk_at "s"
    refine r_sfK (A2.ex _ _ hp) T.cl_Ring T.no_Ring_over (by decide) ?_
    have npl : l ≠ p := fun e => by
      have z := A2.new _ List.mem_cons_self
      rw [e] at z
      rw [z] at hp
      cases hp
    refine k1 hg l _ (A2.new _ List.mem_cons_self) (fun b o e hb => ?_) upd_same ?_
    · rw [upd_ne hb]
      exact A2.ex _ _ e
    · rw [upd_ne npl]
      exact A2.get List.mem_cons_self

open EW (figs okW numW)
theorem r_isiN {H : Hp} {Q : VK} {b : Bool} {n : String} (h : kitB "NoneType" n = some b) (k : Q (.bl b) H) : rIsi K [.non, .ty n] H Q := ⟨_, _, _, _, b, rfl, .ty n, .base .non, kit_ty h, k⟩
theorem r_isiS {H : Hp} {Q : VK} {z : Str} {b : Bool} {n : String} (h : kitB "str" n = some b) (k : Q (.bl b) H) : rIsi K [.str z, .ty n] H Q := ⟨_, _, _, _, b, rfl, .ty n, .base (.str z), kit_ty h, k⟩
theorem r_callS {sp : Sp} {E : L2.St → XK} {tl : TA} {σ : L2.St} {H : Hp} {Q : VK} (k : tl σ H fun vs H1 => sp vs H1 Q (E σ)) : tCallS sp E tl σ H Q := k
local macro_rules | `(tactic| walk_at "s") => `(tactic| (with_reducible refine r_callS ?_))
def numsOf (t : Str) : List Int := (Txt.split t (Str.ofString " ")).map fun v => (intText? v).getD 0
def goodT (t : Str) : Bool := ((Txt.split t (Str.ofString " ")).all okW) && goodL (numsOf t)
def sp_read (T : Txt K mg) : Sp := fun vs H Q E => ∃ x : V, vs = [x] ∧ (((x = .non ∨ (∃ i, x = .int i) ∨ (∃ b, x = .bl b) ∨ (∃ p xs, x = .ref p ∧ SqL K H p xs)) ∧ ∀ H', Same H H' → E (.ref T.c_BadText) none H') ∨
  (∃ t, x = .str t ∧ t.length ≤ 9000 ∧ (goodT t = false → ∀ H', Same H H' → E (.ref T.c_BadText) none H') ∧ (goodT t = true → ∀ q H', Same H H' → H q = none → RingAt T H' q (numsOf t) → Q (.ref q) H')))
theorem ok_read (T : Txt K mg) : FnOk P w K mg base (EA.CB P w) 6 T.f_read T.fd_read ["text"] (sp_read T) := by
  refine EA.okC T.F_read sc_read (fun vs H Q E h => ?_) (fun cdv A outer s H vs Q E hr h => ?_)
  · obtain ⟨_, rfl, _⟩ := h
    rfl
  · obtain ⟨x, rfl, h⟩ := h
    have A := At.nil H
    refine ⟨_, pss_cons (ps_if (pt_not (pt_val (pe_callB (kIsi (K := K)) (by rfl) T.n_isinstance EB.bt_isinstance (pa_cons (pv 0) (pa_cons (pe_bltn (v := .ty "str") (by rfl) T.n_str EB.bt_str rfl) pa_nil)))))
        (pss_one (L2N.ps_raise rfl (EA.TakesB.n (EA.takesB_of rfl rfl rfl rfl)) (L2N.pmk_own PySem.F.excBase_ValueError T.x_BadText T.g_BadText T.kc_BadText (raises_own T.be_BadText T.ty_BadText) (by exact rfl)))) pss_nil)
      (pss_cons (EF.ps_callLc (i := 1) (W := E) rfl rfl rfl (EA.TakesB.n (EA.takesB_of rfl rfl rfl rfl)) sc_read.nd rfl rfl (sw_true rfl rfl rfl (by decide +kernel)) (by decide +kernel) (by decide +kernel) rfl (by decide +kernel) (by rfl) (by rfl) (pe_split (pv 0) pe_str)
        (ok_number_in T) (hr.mono (by decide : 1 ≤ 5)) T.g_number_in T.F_number_in.kp (b_number_in T))
      (pss_cons (EA.ps_tryR (tb := fun W => tAsg (tMake T.c_Ring (sp_Ring_initR T) [] (fun cls d H => ∀ σ, W cls d σ H) (tCons (tVar 1) tNil)) (gName 3)) (ts := fun _ _ _ => fun _ _ H => E (.ref T.c_BadText) none H) (Wout := fun cls d _ H => E cls d H) rfl rfl ⟨rfl, by decide, Or.inl T.g_BadRing⟩ (fun hd => L2H.passesAt_of rfl hd) (EA.takesB_of rfl rfl rfl rfl)
        (fun W pn xe tk => pss_one (ps_set (i := 3) sc_read.nd rfl (Or.inl rfl) (by exact (pe_make T.mk_Ring (ok_Ring_initR T) (hr.mono (by decide : 5 ≤ 5)) (by rfl) T.g_Ring (b_Ring_init T) .nil tk.all (pa_cons (pv 1) pa_nil)))))
        (fun a oe cls d pn tk hot => pss_one (EA.ps_raiseB hot tk (L2N.pmk_own PySem.F.excBase_ValueError T.x_BadText T.g_BadText T.kc_BadText (raises_own T.be_BadText T.ty_BadText) (by exact rfl)))))
      (pss_one (ps_ret (pv 3))))), ?_⟩
    repeat walk_at "s"
    rcases h with ⟨hx, kE⟩ | ⟨t, rfl, hl, kb, kg⟩
    · rcases hx with rfl | ⟨i, rfl⟩ | ⟨b, rfl⟩ | ⟨p, xs, rfl, hs⟩
      · refine r_isiN (b := false) (by decide +kernel) ?_
        repeat walk_at "s"
        exact kE _ A.ex
      · refine r_isiI (b := false) (by decide +kernel) ?_
        repeat walk_at "s"
        exact kE _ A.ex
      · refine r_isiB (b := false) (by decide +kernel) ?_
        repeat walk_at "s"
        exact kE _ A.ex
      · refine r_isiL (b := false) hs (by decide +kernel) ?_
        repeat walk_at "s"
        exact kE _ A.ex
    refine r_isiS (b := true) (by decide +kernel) ?_
    repeat walk_at "s"
    unfold EF.tFly
    repeat walk_at "s"
    refine ⟨t, _, rfl, rfl, by decide +kernel, sz (by omega), fun p hp => ?_⟩
    have A1 := A.alloc hp (.lst ((Txt.split t (Str.ofString " ")).map V.str))
    repeat walk_at "s"
    refine ⟨p, (Txt.split t (Str.ofString " ")).map V.str, fun vs H' => H' = upd H p (.lst ((Txt.split t (Str.ofString " ")).map V.str)) ∧ vs = ((Txt.split t (Str.ofString " ")).take vs.length).map (fun v => V.int ((intText? v).getD 0)) ∧ ∀ v ∈ (Txt.split t (Str.ofString " ")).take vs.length, okW v = true, rfl, ⟨rfl, rfl, fun _ h => nomatch h⟩, fun vs H' q => ?_, fun vs x H' hx q => ?_, fun vs H' D hl' q hD => ?_⟩
    · rw [q.1]
      exact upd_same
    · obtain ⟨rfl, e2, e3⟩ := q
      obtain ⟨v, hv, rfl⟩ : ∃ v, (Txt.split t (Str.ofString " "))[vs.length]? = some v ∧ V.str v = x := by
        rw [List.getElem?_map] at hx
        exact Option.map_eq_some_iff.mp hx
      have hm := List.mem_of_getElem? hv
      refine ⟨v, rfl, by have := EW.split_len hm; omega, fun e => ?_, fun e => ?_⟩
      · refine kb ?_ _ A1.ex
        unfold goodT
        cases z : (Txt.split t (Str.ofString " ")).all okW with
        | false => rfl
        | true =>
          rw [List.all_eq_true.mp z v hm] at e
          cases e
      · obtain ⟨n, h1, _⟩ := EW.ok_num e
        refine ⟨n, h1, rfl, ?_, ?_⟩ <;> rw [List.length_append, List.length_singleton, List.take_add_one, hv]
        · rw [Option.toList_some, List.map_append, ← e2, List.map_singleton, h1]
          rfl
        · exact fun z hz => (List.mem_append.mp hz).elim (e3 z) fun hz => by
            rw [Option.toList_some] at hz
            rw [List.mem_singleton.mp hz]
            exact e
    obtain ⟨rfl, e2, e3⟩ := q
    rw [List.length_map] at hl'
    rw [hl', List.take_length] at e2 e3
    have hall : (Txt.split t (Str.ofString " ")).all okW = true := List.all_eq_true.mpr e3
    have A2 := A1.alloc hD (.lst vs)
    rw [show vs = (numsOf t).map V.int from by rw [e2]; unfold numsOf; rw [List.map_map]; rfl] at A2 ⊢
    generalize upd (upd H p (.lst ((Txt.split t (Str.ofString " ")).map V.str))) D (.lst ((numsOf t).map V.int)) = H2 at A2 ⊢
    have hD2 : SqL K H2 D ((numsOf t).map V.int) := A2.sqo List.mem_cons_self
    have hnl : (numsOf t).length ≤ 20000 := by
      unfold numsOf
      rw [List.length_map]
      have := EW.split_few t
      omega
    have hgt : goodT t = goodL (numsOf t) := by unfold goodT; rw [hall, Bool.true_and]
    repeat walk_at "s"
    refine fun x dx nx nd _ => ⟨x, dx, D, numsOf t, rfl, upd_same, (same_mk nx nd).seq hD2, hnl, fun e H' s3 σ => ?_, fun e l H' h0 keep hp' hl' => ⟨rfl, ?_⟩⟩
    · exact ⟨true, PySem.W.exm_ref T.be_BadRing T.hd_BadRing T.ty_BadRing T.sx_BadRing_BadRing, fun _ _ _ => kb (by rw [hgt]; exact e) _ (A2.ex.trans ((same_mk nx nd).trans s3)), fun q => nomatch q⟩
    · have s3 : Same H2 H' := fun b o e => keep b o (same_mk nx nd b o e) (ne_of_none e nx)
      have A3 := A2.same s3
      have kk := kg (by rw [hgt]; exact e) x H' A3.ex (A2.ex.free nx) ⟨dx, l, hp', hl'⟩
      repeat walk_at "s"
      exact kk

/-- what the caught error's class is asked -/
structure ExT {K : PySem.W.Frag} {mg : Str → Option Value} (T : Txt K mg) : Prop where
  C : L2.ExcC K T.c_BadText
  kMost : PySem.W.kitOne K (.ref T.c_BadText) (.ref T.c_BadMost) = some false
  kRing : PySem.W.kitOne K (.ref T.c_BadText) (.ref T.c_BadRing) = some false
  kTolls : PySem.W.kitOne K (.ref T.c_BadText) (.ref T.c_BadTolls) = some false
  kLack : PySem.W.kitOne K (.ref T.c_BadText) (.ref T.c_Lacking) = some false
  kUnlike : PySem.W.kitOne K (.ref T.c_BadText) (.ref T.c_Unlike) = some false
  kText : PySem.W.kitOne K (.ref T.c_BadText) (.ref T.c_BadText) = some true
  kVal : PySem.W.kitOne K (.ref T.c_BadText) (.type "ValueError") = some true
  nV : mg "ValueError" = none
def rIsX (K : PySem.W.Frag) (D a : Addr) (cls : Value) (d : Option Addr) : List V → Hp → VK → Prop := fun xs H Q => cls = .ref D ∧ d = none ∧ rIsE K D a xs H Q
theorem call_isX {X : Cx} {a D : Addr} {oe : Obj} {cls : Value} {d : Option Addr} {pn : List (Addr × Obj)} (C : L2.ExcC X.K D) (hz : Zc cls d oe) (hf : ∃ vs, oe.data = .fields vs) : CallR (X.suite a ((a, oe) :: pn)) (.builtin "isinstance") (rIsX X.K D a cls d) := by
  intro pins s σ H xs us Q I r h
  obtain ⟨rfl, rfl, h⟩ := h
  exact call_isE C hz hf pins s σ H xs us Q I r h
/-- what read refuses -/
def BadX (K : PySem.W.Frag) (H : Hp) (x : V) : Prop := (x = .non ∨ (∃ i, x = .int i) ∨ (∃ b, x = .bl b) ∨ (∃ p xs, x = .ref p ∧ SqL K H p xs)) ∨ ∃ t, x = .str t ∧ t.length ≤ 9000 ∧ goodT t = false
theorem use_read_bad {T : Txt K mg} {H : Hp} {Q : VK} {E : XK} {x : V} (hb : BadX K H x) (hE : ∀ H', Same H H' → E (.ref T.c_BadText) none H') : sp_read T [x] H Q E := ⟨x, rfl, by
  rcases hb with h | ⟨t, rfl, hl, hg⟩
  · exact .inl ⟨h, hE⟩
  · exact .inr ⟨t, rfl, hl, fun _ => hE, fun z => by rw [hg] at z; cases z⟩⟩
theorem r_isX {D a : Addr} {H : Hp} {Q : VK} {c : V} {cv : Value} {b : Bool} (hc : ∀ u, RelV c u → u = cv) (h : PySem.W.kitOne K (.ref D) cv = some b) (k : Q (.bl b) H) : rIsX K D a (.ref D) none [.ref a, c] H Q := ⟨rfl, rfl, c, cv, b, rfl, hc, h, k⟩
local macro_rules | `(tactic| walk_at "s") => `(tactic| ((with_reducible show rIsX _ _ _ _ _ [V.ref _, _] _ _); first | refine r_isX (fun _ r => r) (by assumption) ?_))
def sp_law_refused (_ : Txt K mg) : Sp := fun vs H Q _ => ∃ x : V, vs = [x] ∧ BadX K H x ∧ ∀ H', Same H H' → Q (.bl true) H'
theorem ok_law_refused (T : Txt K mg) (Y : ExT T) : FnOk P w K mg base CX0 7 T.f_law_refused T.fd_law_refused ["_law_text"] (sp_law_refused T) := by
  refine T.F_law_refused.ok sc_law_refused (fun vs H Q E h => ?_) (fun cdv A outer s H vs Q E hr h => ?_)
  · obtain ⟨_, rfl, _⟩ := h
    rfl
  · obtain ⟨x, rfl, hb, k⟩ := h
    have y1 := Y.kMost; have y2 := Y.kRing; have y3 := Y.kTolls; have y4 := Y.kLack; have y5 := Y.kUnlike; have y6 := Y.kText; have y7 := Y.kVal
    refine ⟨_, pss_cons (EA.ps_tryA (i := 1) (tb := fun W => tDrop (tCallS (sp_read T) (WE W) (tCons (tVar 0) tNil))) (ts := _) rfl rfl sc_law_refused.nd rfl rfl ⟨rfl, by decide, Or.inl T.g_RingError⟩
        (fun W pn xe tk => pss_one (ps_expr (by exact (pe_callS (ok_read T) (hr.mono (by decide : 6 ≤ 6)) (by rfl) T.g_read T.F_read.kp (b_read T) (fun σ => tk.at σ) (by exact (pa_cons (pv 0) pa_nil))))))
        (fun a oe cls d pn hz hf hot => pss_cons (ps_set (i := 2) sc_law_refused.nd rfl (Or.inl rfl) (pe_lst (pa_cons (pe_callB (call_isX Y.C hz hf) (by rfl) T.n_isinstance EB.bt_isinstance (pa_cons (pv 1) (pa_cons (pe_glob (v := .ref T.c_BadMost) (by rfl) T.g_BadMost rfl) pa_nil))) (pa_cons (pe_callB (call_isX Y.C hz hf) (by rfl) T.n_isinstance EB.bt_isinstance (pa_cons (pv 1) (pa_cons (pe_glob (v := .ref T.c_BadRing) (by rfl) T.g_BadRing rfl) pa_nil))) (pa_cons (pe_callB (call_isX Y.C hz hf) (by rfl) T.n_isinstance EB.bt_isinstance (pa_cons (pv 1) (pa_cons (pe_glob (v := .ref T.c_BadTolls) (by rfl) T.g_BadTolls rfl) pa_nil))) pa_nil)))))
          (pss_cons (ps_set (i := 2) sc_law_refused.nd rfl (Or.inl rfl) (pe_op op_cat (pv 2) (pe_lst (pa_cons (pe_callB (call_isX Y.C hz hf) (by rfl) T.n_isinstance EB.bt_isinstance (pa_cons (pv 1) (pa_cons (pe_glob (v := .ref T.c_Lacking) (by rfl) T.g_Lacking rfl) pa_nil))) (pa_cons (pe_callB (call_isX Y.C hz hf) (by rfl) T.n_isinstance EB.bt_isinstance (pa_cons (pv 1) (pa_cons (pe_glob (v := .ref T.c_Unlike) (by rfl) T.g_Unlike rfl) pa_nil))) (pa_cons (pe_not (pe_callB (call_isX Y.C hz hf) (by rfl) T.n_isinstance EB.bt_isinstance (pa_cons (pv 1) (pa_cons (pe_bltn (v := .ty "ValueError") (by rfl) Y.nV (by decide +kernel) rfl) pa_nil)))) pa_nil))))))
          (pss_one (ps_ret (pe_and (pe_callB (call_isX Y.C hz hf) (by rfl) T.n_isinstance EB.bt_isinstance (pa_cons (pv 1) (pa_cons (pe_glob (v := .ref T.c_BadText) (by rfl) T.g_BadText rfl) pa_nil))) (pe_one (pe_not (pe_callB (EA.any_hot (K := K) hot) (by rfl) T.n_any EB.bt_any (pa_cons (pv 2) pa_nil))))))))))
      (pss_one (ps_ret pe_bl)), ?_⟩
    repeat walk_at "s"
    refine use_read_bad hb (fun H' s0 => ⟨true, PySem.W.exm_ref T.be_RingError T.hd_RingError T.ty_RingError T.sx_BadText_RingError, fun _ a ha => ?_, fun q => nomatch q⟩)
    have A := (At.nil H).same s0
    repeat walk_at "s"
    refine r_mkL A (by show 3 ≤ 10000000; decide) (fun l H1 A1 => ?_)
    repeat walk_at "s"
    refine r_mkL A1 (by show 3 ≤ 10000000; decide) (fun l2 H2 A2 => ?_)
    repeat walk_at "s"
    refine r_cat A2 (A2.get (by walk_at "mem")) (A2.get (by walk_at "mem")) (by show 3 + 3 ≤ 10000000; decide) (fun l3 H3 A3 => ?_)
    have hq : SqL K H3 l3 (([false, false, false, false, false, false] : List Bool).map V.bl) := A3.sqo List.mem_cons_self
    repeat walk_at "s"
    exact k _ A3.ex

open EW (figs okW numW)
theorem passF {Z : EA.ZF} {X : Cx} : Passes (EA.CZ Z X.prog X.w) X E0 := fun _ _ _ _ _ _ _ c => by
  obtain ⟨_, _, _, _, _, _, _, _, _, _, _, _, z⟩ := c
  exact z.elim
theorem ok_isSome (v : Str) : (numW v).isSome = (okW v && inB ((intText? v).getD 0)) := by
  unfold numW
  cases h : okW v with
  | false => rfl
  | true =>
    obtain ⟨n, h1, _⟩ := EW.ok_num h
    rw [if_pos rfl, h1, Bool.true_and]
    show Option.isSome (if -1000001 < n ∧ n < 1000001 then some n else none) = inB n
    unfold inB
    by_cases z : -1000001 < n ∧ n < 1000001
    · rw [if_pos z, decide_eq_true (by omega)]
      rfl
    · rw [if_neg z, decide_eq_false (by omega)]
      rfl
theorem good_eq (t : Str) : goodT t = ((Txt.split t " ").all (fun v => (numW v).isSome) && decide (2 ≤ (Txt.split t " ").length)) := by
  unfold goodT goodL numsOf
  rw [List.length_map]
  have : ∀ l : List Str, (l.all okW && (l.map fun v => (intText? v).getD 0).all inB) = l.all fun v => (numW v).isSome := fun l => by
    induction l with
    | nil => rfl
    | cons a r ih =>
      rw [List.map_cons, List.all_cons, List.all_cons, List.all_cons, ← ih, ok_isSome]
      cases okW a <;> cases inB ((intText? a).getD 0) <;> simp
  rw [← this]
  show (_ && (decide (2 ≤ (Txt.split t (Str.ofString " ")).length) && _)) = _
  generalize decide (2 ≤ (Txt.split t (Str.ofString " ")).length) = b
  generalize List.all (List.map _ (Txt.split t (Str.ofString " "))) inB = c
  cases b <;> cases c <;> simp
theorem good_words {t : Str} (h : goodT t = true) : (∀ v ∈ Txt.split t (Str.ofString " "), okW v = true) ∧ ∀ n ∈ numsOf t, -1000000 ≤ n ∧ n ≤ 1000000 := by
  unfold goodT goodL at h
  rw [Bool.and_eq_true, Bool.and_eq_true] at h
  exact ⟨List.all_eq_true.mp h.1, fun n hn => of_decide_eq_true (List.all_eq_true.mp h.2.2 n hn)⟩
theorem words_good {t : Str} (h : goodT t = true) : wordsV t = (numsOf t).map V.int := by
  unfold wordsV numsOf
  rw [List.map_map]
  refine List.map_congr_left fun v hv => ?_
  obtain ⟨h1, h2⟩ := good_words h
  obtain ⟨n, e, _⟩ := EW.ok_num (h1 v hv)
  have hb := h2 n (List.mem_map.mpr ⟨v, hv, by rw [e]; rfl⟩)
  show okV (numW v) = V.int ((intText? v).getD 0)
  unfold numW
  rw [if_pos (h1 v hv), e]
  show okV (if -1000001 < n ∧ n < 1000001 then some n else none) = V.int n
  rw [if_pos (by omega)]
  rfl
theorem txt_good {t : Str} (h : goodT t = true) : txtOf (numsOf t) = t := by
  unfold txtOf numsOf
  rw [List.map_map]
  have e : (Txt.split t (Str.ofString " ")).map ((fun x : Int => Str.ofString (toString x)) ∘ fun v => (intText? v).getD 0) = Txt.split t (Str.ofString " ") := by
    refine (List.map_congr_left fun v hv => ?_).trans (List.map_id _)
    obtain ⟨n, e, _, _, z⟩ := EW.ok_num ((good_words h).1 v hv)
    show Str.ofString (toString ((intText? v).getD 0)) = v
    rw [e]
    exact z
  rw [e]
  unfold Txt.join
  rw [StrLaws.glued_eq_join, StrLaws.join_split]
def sp_law_right (_ : Txt K mg) : Sp := fun vs H Q _ => ∃ t : Str, vs = [.str t] ∧ t.length ≤ 9000 ∧ ∀ H', Same H H' → Q (.bl true) H'
theorem ok_law_right (T : Txt K mg) (Y : ExT T) : FnOk P w K mg base CX0 8 T.f_law_right T.fd_law_right ["_law_text"] (sp_law_right T) := by
  refine T.F_law_right.ok sc_law_right (fun vs H Q E h => ?_) (fun cdv A outer s H vs Q E hr h => ?_)
  · obtain ⟨_, rfl, _⟩ := h
    rfl
  · skip
    obtain ⟨t, rfl, hl, k⟩ := h
    have A := At.nil H
    refine ⟨_, (pss_cons (ps_set (i := 1) sc_law_right.nd rfl (by first | exact Or.inl rfl | exact Or.inr rfl) (pe_call (ok_law_in T) (hr.mono (by decide)) (by rfl) T.g_law_in T.F_law_in.kp (b_law_in T) .nil pass0 (pa_cons (pv 0) pa_nil)))
      (pss_cons (ps_if (pt_cmpR op_isN (pv 1) pe_non (nomark _)) (pss_one (ps_ret (pe_call (ok_law_refused T Y) (hr.mono (by decide)) (by rfl) T.g_law_refused T.F_law_refused.kp (b_law_refused T) .nil pass0 (pa_cons (pv 0) pa_nil)))) pss_nil)
      (pss_cons (ps_set (i := 2) sc_law_right.nd rfl (by first | exact Or.inl rfl | exact Or.inr rfl) (pe_call (ok_read T) (hr.mono (by decide)) (by rfl) T.g_read T.F_read.kp (b_read T) .nil passF (pa_cons (pv 0) pa_nil)))
      (pss_one (ps_ret (pe_and (pe_cmpR (kEqD (K := K) hr.units) (pe_meth0 (pv 2) T.cl_Ring T.m_Ring_houses (ok_Ring_houses T) (hr.mono (by decide)) (b_Ring_houses T) .nil pass0) (pv 1) (nomark _)) (pe_one (pe_cmpR op_eq (pe_call (ok_written T) (hr.mono (by decide)) (by rfl) T.g_written T.F_written.kp (b_written T) .nil pass0 (pa_cons (pv 2) pa_nil)) (pv 0) (nomark _))))))))), ?_⟩
    repeat walk_at "s"
    refine ⟨t, rfl, hl, fun q H1 s1 nq hq => ?_⟩
    have A1 := A.made s1 nq hq
    cases hg : goodT t with
    | false =>
      have z : inRes t q = .non := by
        unfold inRes
        rw [← good_eq, hg]
        rfl
      rw [z]
      repeat walk_at "s"
      refine ⟨rfl, ?_⟩
      repeat walk_at "s"
      refine ⟨.str t, rfl, .inr ⟨t, rfl, hl, hg⟩, fun H2 s2 => ?_⟩
      exact k _ (s1.trans s2)
    | true =>
      have z : inRes t q = .ref q := by
        unfold inRes
        rw [← good_eq, hg]
        rfl
      rw [z]
      rw [words_good hg] at A1
      have hn : (numsOf t).length ≤ 20000 := by
        unfold numsOf
        rw [List.length_map]
        have := EW.split_few t
        omega
      repeat walk_at "s"
      refine ⟨rfl, ?_⟩
      repeat walk_at "s"
      refine r_ifd_F (fun z => by cases z) ?_
      repeat walk_at "s"
      refine ⟨.str t, rfl, .inr ⟨t, rfl, hl, (fun z => by rw [hg] at z; cases z), fun _ p H2 s2 np R => ?_⟩⟩
      have A2 := A1.same s2
      repeat walk_at "s"
      refine use_houses R (fun l H3 s3 nl hl3 => ?_)
      have A3 := A2.made s3 nl hl3
      repeat walk_at "s"
      refine ⟨p, numsOf t, rfl, R.mono s3, hn, (good_words hg).2, fun H4 s4 => ?_⟩
      rw [txt_good hg]
      repeat walk_at "s"
      rw [decide_eq_true rfl]
      exact k _ (A3.ex.trans s4)

def rRepS (x y : V) (H : Hp) (Q : VK) : Prop := ∃ (i : Str) (n : Int), x = .str i ∧ y = .int n ∧ MulOk i n ∧ Q (.str (PySem.Txt.mul i n)) H
theorem op_rep_str {X : Cx} : OpR X (binaryOp .Mult) rRepS := by
  intro pins s σ H x y v u Q I rx ry h
  obtain ⟨i, n, rfl, rfl, ok, q⟩ := h
  obtain ⟨t, rfl⟩ := rx
  obtain ⟨t', rfl⟩ := ry
  exact SB.mul ok fun t2 k => ⟨.str (PySem.Txt.mul i n), H, I.tok _, ⟨_, rfl⟩, q⟩
theorem rep_ok {c : Str} {n : Int} (h : c.length = 1 ∧ 0 ≤ n ∧ n ≤ 10000) : MulOk c n := by
  obtain ⟨h1, h2, h3⟩ := h
  refine ⟨?_, fun h4 _ => ?_, fun h4 _ => ?_⟩
  · rw [decide_eq_false (by omega), decide_eq_false (by omega)]
    rfl
  · rw [h1]
    have : (1 : Int) ≤ (2 ^ 63 - 1) / n := by
      rw [Int.le_ediv_iff_mul_le (by omega)]
      omega
    omega
  · rw [h1, Nat.one_mul]
    exact decide_eq_false (Nat.not_lt.mpr (sz (by omega)))
def few1 : List Str := ["", " ", "0", "0 0", "0 0 ", " 0 0", "0  0", "0 -0", "-0 0", "00 0", "01 1", "1 01", "+1 1", "1 - 1"]
def few2 : List Str := ["1000000 -1000000", "1000001 0", "0 -1000001", "9999999 1", "99999999 1", "1,1", "1 1.0", "1 x"]
def few3 : List Str := ["1 -1", "1\n1", "1\t1"]
def few4 : List Str := ["1 1\n", "--1 1", "1- 1", "1_0 1", PySem.Txt.mul "9" 4000 ++ " 1", "1 " ++ PySem.Txt.mul "-" 50, "5 5 5", "1e3 1"]
theorem few_len : ∀ t ∈ few1 ++ few2 ++ few3 ++ few4, t.length ≤ 9000 := by
  decide +kernel
def sp_law_few (_ : Txt K mg) : Sp := fun vs H Q _ => vs = [] ∧ ∀ (p : Addr) (H' : Hp) (ts : List Str), (∀ t ∈ ts, t.length ≤ 9000) → ts.length ≤ 100 → Same H H' → H p = none → H' p = some (.lst (ts.map V.str)) → Q (.ref p) H'
theorem ok_law_few (T : Txt K mg) : FnOk P w K mg base CX0 1 T.f_law_few T.fd_law_few [] (sp_law_few T) := by
  refine T.F_law_few.ok sc_law_few (fun vs H Q E h => ?_) (fun cdv A outer s H vs Q E hr h => ?_)
  · obtain ⟨rfl, _⟩ := h
    rfl
  · skip
    obtain ⟨rfl, k⟩ := h
    have A := At.nil H
    refine ⟨_, (pss_cons (ps_set (i := 0) sc_law_few.nd rfl (by first | exact Or.inl rfl | exact Or.inr rfl) (pe_lst (pa_cons pe_str (pa_cons pe_str (pa_cons pe_str (pa_cons pe_str (pa_cons pe_str (pa_cons pe_str (pa_cons pe_str (pa_cons pe_str (pa_cons pe_str (pa_cons pe_str (pa_cons pe_str (pa_cons pe_str (pa_cons pe_str (pa_cons pe_str pa_nil))))))))))))))))
      (pss_cons (ps_set (i := 0) sc_law_few.nd rfl (by first | exact Or.inl rfl | exact Or.inr rfl) (pe_op op_cat (pv 0) (pe_lst (pa_cons pe_str (pa_cons pe_str (pa_cons pe_str (pa_cons pe_str (pa_cons pe_str (pa_cons pe_str (pa_cons pe_str (pa_cons pe_str pa_nil)))))))))))
      (pss_cons (ps_set (i := 0) sc_law_few.nd rfl (by first | exact Or.inl rfl | exact Or.inr rfl) (pe_op op_cat (pv 0) (pe_lst (pa_cons pe_str (pa_cons pe_str (pa_cons pe_str pa_nil))))))
      (pss_cons (ps_set (i := 0) sc_law_few.nd rfl (by first | exact Or.inl rfl | exact Or.inr rfl) (pe_op op_cat (pv 0) (pe_lst (pa_cons pe_str (pa_cons pe_str (pa_cons pe_str (pa_cons pe_str (pa_cons (pe_op op_add_str (pe_op op_rep_str pe_str pe_int) pe_str) (pa_cons (pe_op op_add_str pe_str (pe_op op_rep_str pe_str pe_int)) (pa_cons pe_str (pa_cons pe_str pa_nil)))))))))))
      (pss_one (ps_ret (pv 0))))))), ?_⟩
    repeat walk_at "s"
    refine r_mkL A (by show 14 ≤ 10000000; decide) (fun l1 H1 A1 => ?_)
    repeat walk_at "s"
    refine r_mkL A1 (by show 8 ≤ 10000000; decide) (fun l2 H2 A2 => ?_)
    repeat walk_at "s"
    refine r_cat A2 (A2.get (by walk_at "mem")) (A2.get (by walk_at "mem")) (by show 14 + 8 ≤ 10000000; decide) (fun l3 H3 A3 => ?_)
    have A4 : At H [(l3, .lst ((few1 ++ few2).map V.str))] H3 := A3.sub (List.Sublist.cons_cons (l3, HO.lst ((few1 ++ few2).map V.str)) (List.nil_sublist _))
    clear A1 A2 A3
    repeat walk_at "s"
    refine r_mkL A4 (by show 3 ≤ 10000000; decide) (fun l4 H4 A5 => ?_)
    repeat walk_at "s"
    refine r_cat A5 (A5.get (by walk_at "mem")) (A5.get (by walk_at "mem")) (by show 22 + 3 ≤ 10000000; decide) (fun l5 H5 A6 => ?_)
    have A7 : At H [(l5, .lst ((few1 ++ few2 ++ few3).map V.str))] H5 := A6.sub (List.Sublist.cons_cons (l5, HO.lst ((few1 ++ few2 ++ few3).map V.str)) (List.nil_sublist _))
    clear A4 A5 A6
    repeat walk_at "s"
    refine ⟨_, _, rfl, rfl, rep_ok (by decide), ?_⟩
    repeat walk_at "s"
    refine ⟨_, _, rfl, rfl, sz (by decide +kernel), ?_⟩
    repeat walk_at "s"
    refine ⟨_, _, rfl, rfl, rep_ok (by decide), ?_⟩
    repeat walk_at "s"
    refine ⟨_, _, rfl, rfl, sz (by decide +kernel), ?_⟩
    repeat walk_at "s"
    refine r_mkL A7 (by show 8 ≤ 10000000; decide) (fun l6 H6 A8 => ?_)
    repeat walk_at "s"
    refine r_cat A8 (A8.get (by walk_at "mem")) (A8.get (by walk_at "mem")) (by show 25 + 8 ≤ 10000000; decide) (fun l7 H7 A9 => ?_)
    have A10 : At H [(l7, .lst ((few1 ++ few2 ++ few3 ++ few4).map V.str))] H7 := A9.sub (List.Sublist.cons_cons (l7, HO.lst ((few1 ++ few2 ++ few3 ++ few4).map V.str)) (List.nil_sublist _))
    clear A7 A8 A9
    repeat walk_at "s"
    exact k l7 H7 _ few_len (by show 33 ≤ 100; decide) A10.ex (A10.new _ List.mem_cons_self) (A10.get List.mem_cons_self)

theorem cut_len (z : Str) (lo hi : Option Int) : (cutS z lo hi).length ≤ z.length := by
  unfold cutS
  show (List.toArray _).size ≤ _
  rw [List.size_toArray, List.length_take, List.length_drop]
  have : z.cps.toList.length = z.length := Array.length_toList
  omega
theorem app_len (a b : Str) : (a ++ b).length = a.length + b.length := by
  show (a.cps ++ b.cps).size = _
  exact Array.size_append
theorem joinL_le {sp : List Nat} (hs : sp.length ≤ 1) : ∀ ps : List (List Nat), (∀ p ∈ ps, p.length ≤ 16) → (TL.joinL sp ps).length ≤ 17 * ps.length
  | [], _ => Nat.le_refl _
  | [p], h => by
    have := h p List.mem_cons_self
    show p.length ≤ 17 * 1
    omega
  | p :: q :: r, h => by
    have h1 := h p List.mem_cons_self
    have ih := joinL_le hs (q :: r) fun x hx => h x (List.mem_cons_of_mem _ hx)
    show (p ++ (sp ++ TL.joinL sp (q :: r))).length ≤ 17 * (r.length + 1 + 1)
    have e : (q :: r).length = r.length + 1 := rfl
    rw [List.length_append, List.length_append]
    omega
theorem txt_len {hs : List Int} (hb : ∀ x ∈ hs, -1000000 ≤ x ∧ x ≤ 1000000) : (txtOf hs).length ≤ 17 * hs.length := by
  have e : txtOf hs = Str.join (Str.ofString " ") (hs.map fun x => Str.ofString (toString x)) := by
    unfold txtOf Txt.join
    rw [StrLaws.glued_eq_join]
  have z : (TL.tl (txtOf hs)).length = (txtOf hs).length := Array.length_toList
  rw [e, TL.tl_join] at z
  rw [e, ← z]
  refine Nat.le_trans (joinL_le (by decide +kernel) _ fun p hp => ?_) (by rw [List.length_map, List.length_map]; exact Nat.le_refl _)
  obtain ⟨t, ht, rfl⟩ := List.mem_map.mp hp
  obtain ⟨x, hx, rfl⟩ := List.mem_map.mp ht
  have := EW.str_small (hb x hx)
  have e2 : (TL.tl (Str.ofString (toString x))).length = (Str.ofString (toString x)).length := Array.length_toList
  omega
def sp_law0 (K : PySem.W.Frag) : Sp := fun vs H Q _ => ∃ (a : Addr) (ns : List Int), vs = [.ref a] ∧ SqL K H a (ns.map V.int) ∧ ns.length ≤ 63 ∧ ∀ H', Q (.bl true) H'
def sp_law (_ : Txt K mg) : Sp := sp_law0 K
theorem ok_law (T : Txt K mg) (Y : ExT T) : FnOk P w K mg base CX0 9 T.f_law T.fd_law ["_law_script"] (sp_law T) := by
  refine T.F_law.ok sc_law (fun vs H Q E h => ?_) (fun cdv A outer s H vs Q E hr h => ?_)
  · obtain ⟨_, _, rfl, _⟩ := h
    rfl
  · skip
    obtain ⟨a, ns, rfl, ha, hn, k⟩ := h
    have A := At.nil H
    refine ⟨_, (pss_cons (ps_set (i := 1) sc_law.nd rfl (by first | exact Or.inl rfl | exact Or.inr rfl) (pe_call (ok_law_houses T) (hr.mono (by decide)) (by rfl) T.g_law_houses T.F_law_houses.kp (b_law_houses T) .nil pass0 (pa_cons (pv 0) (pa_cons pe_int pa_nil))))
      (pss_cons (ps_asg (pe_op op_add (pe_ix (kIxL (K := K)) (pv 1) pe_int (fun _ _ => rfl)) (pe_call (ok_law_draw T) (hr.mono (by decide)) (by rfl) T.g_law_draw T.F_law_draw.kp (b_law_draw T) .nil pass0 (pa_cons (pe_call (ok_law_cell_at T) (hr.mono (by decide)) (by rfl) T.g_law_cell_at T.F_law_cell_at.kp (b_law_cell_at T) .nil pass0 (pa_cons (pv 0) (pa_cons pe_int pa_nil))) (pa_cons pe_int (pa_cons pe_int pa_nil))))) (pg_sub (pv 1) pe_int set_list))
      (pss_cons (ps_set (i := 2) sc_law.nd rfl (by first | exact Or.inl rfl | exact Or.inr rfl) (pe_join pe_str (pe_lc (own := [("_law_house", 3)]) (g := gName 3) rfl sc_law.nd (kPiL (K := K) (pv 1)) (blkOk_by (own := [("_law_house", 3)]) (N := ["_law_script", "_law_houses_here", "_law_text", "_law_house", "_law_cell", "_law_k", "_law_at", "_law_sign", "_law_other", "_law_thing"]) (sc := defScope s_law) (by decide +kernel)) (fun _ _ _ _ _ => (pg_name (i := 3) sc_law.nd rfl (by first | exact Or.inl rfl | exact Or.inr rfl))) (fun _ _ _ _ _ => pts_nil) (fun _ _ _ _ _ => (pe_callTy call_str_int (by rfl) T.n_str EB.bt_str (pa_cons (pv 3) pa_nil))))))
      (pss_cons (ps_if (PW.pt (pw_or (pt_cmpR op_ne (pe_call (ok_written T) (hr.mono (by decide)) (by rfl) T.g_written T.F_written.kp (b_written T) .nil pass0 (pa_cons (pe_make T.mk_Ring (ok_Ring_init T) (hr.mono (by decide)) (by rfl) T.g_Ring (b_Ring_init T) .nil pass0 (pa_cons (pv 1) pa_nil)) pa_nil)) (pv 2) (nomark _)) (pw_or1 (pt_not (pt_val (pe_call (ok_law_right T Y) (hr.mono (by decide)) (by rfl) T.g_law_right T.F_law_right.kp (b_law_right T) .nil pass0 (pa_cons (pv 2) pa_nil))))))) (pss_one (ps_ret pe_bl)) pss_nil)
      (pss_cons (ps_set (i := 4) sc_law.nd rfl (by first | exact Or.inl rfl | exact Or.inr rfl) (pe_op op_add (pe_call (ok_law_cell_at T) (hr.mono (by decide)) (by rfl) T.g_law_cell_at T.F_law_cell_at.kp (b_law_cell_at T) .nil pass0 (pa_cons (pv 0) (pa_cons pe_int pa_nil))) (pe_op op_mul pe_int (pe_call (ok_law_cell_at T) (hr.mono (by decide)) (by rfl) T.g_law_cell_at T.F_law_cell_at.kp (b_law_cell_at T) .nil pass0 (pa_cons (pv 0) (pa_cons pe_int pa_nil))))))
      (pss_cons (ps_for PassesOwn.never rfl (pi_range1 (by rfl) T.n_range (pa_cons pe_int pa_nil)) (pg_name (i := 5) sc_law.nd rfl (by first | exact Or.inl rfl | exact Or.inr rfl)) (pss_cons (ps_set (i := 6) sc_law.nd rfl (by first | exact Or.inl rfl | exact Or.inr rfl) (pe_call (ok_law_draw T) (hr.mono (by decide)) (by rfl) T.g_law_draw T.F_law_draw.kp (b_law_draw T) .nil pass0 (pa_cons (pe_op op_add (pv 4) (pv 5)) (pa_cons pe_int (pa_cons (pe_op op_add (pe_callB call_len_str (by rfl) T.n_len PySem.boot_len (pa_cons (pv 2) pa_nil)) pe_int) pa_nil)))))
      (pss_cons (ps_set (i := 7) sc_law.nd rfl (by first | exact Or.inl rfl | exact Or.inr rfl) (pe_ix (kIxT (K := K)) (pe_tup (pa_cons pe_str (pa_cons (pe_ix ix_str pe_str (pe_call (ok_law_draw T) (hr.mono (by decide)) (by rfl) T.g_law_draw T.F_law_draw.kp (b_law_draw T) .nil pass0 (pa_cons (pe_op op_add (pv 4) (pv 5)) (pa_cons pe_int (pa_cons pe_int pa_nil)))) (fun _ _ => rfl)) pa_nil))) (pe_call (ok_law_draw T) (hr.mono (by decide)) (by rfl) T.g_law_draw T.F_law_draw.kp (b_law_draw T) .nil pass0 (pa_cons (pe_op op_add (pv 4) (pv 5)) (pa_cons pe_int (pa_cons pe_int pa_nil)))) (fun _ _ => rfl)))
      (pss_one (ps_if (pt_not (pt_val (pe_call (ok_law_right T Y) (hr.mono (by decide)) (by rfl) T.g_law_right T.F_law_right.kp (b_law_right T) .nil pass0 (pa_cons (pe_op op_add_str (pe_op op_add_str (pe_slice sl_str (pv 2) po_none (po_some (pv 6))) (pv 7)) (pe_slice sl_str (pv 2) (po_some (pe_op op_add (pv 6) (pe_call (ok_law_draw T) (hr.mono (by decide)) (by rfl) T.g_law_draw T.F_law_draw.kp (b_law_draw T) .nil pass0 (pa_cons (pe_op op_add (pv 4) (pv 5)) (pa_cons pe_int (pa_cons pe_int pa_nil)))))) po_none)) pa_nil)))) (pss_one (ps_ret pe_bl)) pss_nil)))))
      (pss_cons (ps_if (pt_not (pt_val (pe_callB (kAll (K := K)) (by rfl) T.n_all EB.bt_all (pa_cons (pe_lc (own := [("_law_other", 8)]) (g := gName 8) rfl sc_law.nd (kPiL (K := K) (pe_call0 (ok_law_few T) (hr.mono (by decide)) (by rfl) T.g_law_few T.F_law_few.kp (b_law_few T) .nil pass0)) (blkOk_by (own := [("_law_other", 8)]) (N := ["_law_script", "_law_houses_here", "_law_text", "_law_house", "_law_cell", "_law_k", "_law_at", "_law_sign", "_law_other", "_law_thing"]) (sc := defScope s_law) (by decide +kernel)) (fun _ _ _ _ _ => (pg_name (i := 8) sc_law.nd rfl (by first | exact Or.inl rfl | exact Or.inr rfl))) (fun _ _ _ _ _ => pts_nil) (fun _ _ _ _ _ => (pe_call (ok_law_right T Y) (hr.mono (by decide)) (by rfl) T.g_law_right T.F_law_right.kp (b_law_right T) .nil pass0 (pa_cons (pv 8) pa_nil)))) pa_nil)))) (pss_one (ps_ret pe_bl)) pss_nil)
      (pss_one (ps_ret (pe_callB (kAll (K := K)) (by rfl) T.n_all EB.bt_all (pa_cons (pe_lc (own := [("_law_thing", 9)]) (g := gName 9) rfl sc_law.nd (kPiL (K := K) (pe_lst (pa_cons pe_non (pa_cons pe_int (pa_cons (pe_lst (pa_cons pe_str pa_nil)) (pa_cons pe_bl pa_nil)))))) (blkOk_by (own := [("_law_thing", 9)]) (N := ["_law_script", "_law_houses_here", "_law_text", "_law_house", "_law_cell", "_law_k", "_law_at", "_law_sign", "_law_other", "_law_thing"]) (sc := defScope s_law) (by decide +kernel)) (fun _ _ _ _ _ => (pg_name (i := 9) sc_law.nd rfl (by first | exact Or.inl rfl | exact Or.inr rfl))) (fun _ _ _ _ _ => pts_nil) (fun _ _ _ _ _ => (pe_call (ok_law_refused T Y) (hr.mono (by decide)) (by rfl) T.g_law_refused T.F_law_refused.kp (b_law_refused T) .nil pass0 (pa_cons (pv 9) pa_nil)))) pa_nil))))))))))), ?_⟩
    repeat walk_at "s"
    refine ⟨a, ns, 5, rfl, ha, hn, by decide, by decide, fun hs h H1 HH s1 n1 hh => ?_⟩
    have hl := HH.len
    have A1 := A.made s1 n1 hh
    have ha1 := s1.seq ha
    repeat walk_at "s"
    rename_i c0 d0 H2 A2 hd0 hd1
    refine r_setLI A2 (by decide) (by omega) (fun H3 A3 => ?_)
    have hl2 : (hs.set (0 : Int).toNat (gz hs 0 + d0)).length = ns.length + 2 := by rw [List.length_set]; exact hl
    have hb2 : ∀ x ∈ hs.set (0 : Int).toNat (gz hs 0 + d0), -1000000 ≤ x ∧ x ≤ 1000000 := fun x hx => by
      have h0 := HH.hd
      have e0 : gz hs 0 = hs.getD 0 0 := gz_nat (k := 0)
      rcases List.mem_or_eq_of_mem_set hx with q | q
      · have := HH.bd x q
        omega
      · omega
    generalize hs.set (0 : Int).toNat (gz hs 0 + d0) = gs at A3 hl2 hb2 ⊢
    clear A A1 A2 hh ha1 s1 n1 hl HH
    have ha3 : SqL K H3 a (ns.map V.int) := A3.sq ha
    repeat walk_at "s"
    refine r_lcItlI (fun x => V.str (Str.ofString (toString x))) A3 (.inr List.mem_cons_self) (by omega) (fun _ => rfl) (fun i x D H' Q' hx A' q => ?_) (fun D H4 A4 => ?_)
    · have hbx := hb2 x (List.mem_of_getElem? hx)
      repeat walk_at "s"
      refine ⟨x, rfl, log_small hbx, ?_⟩
      exact q.t0 rfl A'
    repeat walk_at "s"
    refine ⟨_, D, gs.map fun x => Str.ofString (toString x), rfl, rfl, .inl ?_, join_small (by omega) hb2, ?_⟩
    · have z : SqL K H4 D (gs.map fun x => V.str (Str.ofString (toString x))) := A4.sqo (by walk_at "mem")
      rw [List.map_map]
      exact z
    have ht : (Txt.join (Str.ofString " ") (gs.map fun x => Str.ofString (toString x))).length ≤ 2000 := by
      have : (Txt.join (Str.ofString " ") (gs.map fun x => Str.ofString (toString x))).length ≤ 17 * gs.length := txt_len hb2
      omega
    have e1 : Txt.join (Str.ofString " ") (gs.map fun x => Str.ofString (toString x)) = txtOf gs := rfl
    rw [e1] at ht ⊢
    dsimp only
    repeat walk_at "s"
    refine use_Ring (A4.sqo (by walk_at "mem")) (by omega) (by omega) hb2 (fun r H5 s5 n5 R => ?_)
    have A5 := A4.same s5
    repeat walk_at "s"
    refine ⟨r, gs, rfl, R, by omega, hb2, fun H6 s6 => ?_⟩
    have A6 := A5.same s6
    repeat walk_at "s"
    have A7 : At H [] H6 := (At.nil H).same A6.ex
    generalize txtOf gs = tx at ht ⊢
    clear A3 A4 A5 A6 e1 ha3 R s5 s6 n5 hb2 hl2
    refine ⟨tx, rfl, by omega, fun H7 s7 => ?_⟩
    have A8 := A7.same s7
    repeat walk_at "s"
    rename_i c3 c7
    refine r_rng1 (n := 2) rfl (by omega) ?_
    refine r_forItr (fun i σ H' => ∃ (v5 v6 v7 : Option V), σ = [some (.ref a), some (.ref h), some (.str tx), none, some (.int (c3 + 7 * c7)), v5, v6, v7, none, none] ∧ At H [] H') ⟨none, none, none, rfl, A8⟩ ?_ ?_
    · rintro i σ H8 N hi ⟨v5, v6, v7, rfl, A9⟩ hN
      repeat walk_at "s"
      refine ⟨tx, rfl, sz (by omega), ?_⟩
      repeat walk_at "s"
      rename_i da Ha Aa ha0 ha1 ds Hs As hs0 hs1
      obtain ⟨c, hc⟩ : ∃ c, atI (Str.ofString "0123456789- +,x").cps.toList ds = some c := by
        have e : (Str.ofString "0123456789- +,x").cps.toList.length = 15 := by decide +kernel
        have hlt : ds.toNat < (Str.ofString "0123456789- +,x").cps.toList.length := by rw [e]; omega
        have z := atI_nat (List.getElem?_eq_getElem hlt)
        rw [show ((ds.toNat : Nat) : Int) = ds by omega] at z
        exact ⟨_, z⟩
      refine r_ixS (by decide +kernel) hc ?_
      repeat walk_at "s"
      refine r_mkT As (by show 2 ≤ 10000000; decide) (fun t2 H9 At2 => ?_)
      repeat walk_at "s"
      rename_i dt Ht Att ht0 ht1
      obtain ⟨sg, hsg, hl1⟩ : ∃ sg : Str, atI [V.str (Str.ofString ""), V.str ⟨#[c]⟩] dt = some (.str sg) ∧ sg.length ≤ 1 := by
        rcases (by omega : dt = 0 ∨ dt = 1) with rfl | rfl
        · exact ⟨_, rfl, by decide +kernel⟩
        · exact ⟨_, rfl, Nat.le_refl _⟩
      refine r_ixT (Att.sto (by walk_at "mem")) hsg ?_
      repeat walk_at "s"
      have l1 := cut_len tx none (some da)
      refine r_slS (by omega) ?_
      repeat walk_at "s"
      refine ⟨_, _, rfl, rfl, sz (by omega), ?_⟩
      repeat walk_at "s"
      rename_i d4 H10 A10 h40 h41
      have l2 := cut_len tx (some (da + d4)) none
      have l3 : (cutS tx none (some da) ++ sg).length = (cutS tx none (some da)).length + sg.length := app_len ..
      refine r_slS (by omega) ?_
      repeat walk_at "s"
      refine ⟨_, _, rfl, rfl, sz (by omega), ?_⟩
      have l4 : (cutS tx none (some da) ++ sg ++ cutS tx (some (da + d4)) none).length = (cutS tx none (some da) ++ sg).length + (cutS tx (some (da + d4)) none).length := app_len ..
      repeat walk_at "s"
      refine ⟨_, rfl, by omega, fun H11 s11 => ?_⟩
      have A11 : At H [] H11 := (A10.same s11).sub (List.nil_sublist _)
      repeat walk_at "s"
      exact hN _ _ ⟨_, _, _, rfl, A11⟩
    · rintro σ H8 ⟨v5, v6, v7, rfl, A9⟩
      repeat walk_at "s"
      refine ⟨rfl, fun p H9 ts hts hn9 s9 np hp => ?_⟩
      have A10 := A9.made s9 np hp
      repeat walk_at "s"
      refine r_lcItl (K := K) (xs := ts.map V.str) (fun _ => V.bl true) A10 (fun L' H' A' => At.sqo A' (List.mem_append_right _ List.mem_cons_self)) (by rw [List.length_map]; omega) (fun _ => rfl) (fun i x D2 H' Q' hx A' q => ?_) (fun D2 H10 A11 => ?_)
      · obtain ⟨v, hv, rfl⟩ : ∃ v, v ∈ ts ∧ x = V.str v := by
          obtain ⟨v, hv, e⟩ := List.mem_map.mp (List.mem_of_getElem? hx)
          exact ⟨v, hv, e.symm⟩
        repeat walk_at "s"
        refine ⟨v, rfl, hts v hv, fun H'' s'' => ?_⟩
        exact q.t0 rfl (A'.same s'')
      have hall : ∀ l : List V, (l.map fun _ => V.bl true) = (l.map fun _ => true).map V.bl := fun l => by rw [List.map_map]; rfl
      have htrue : ∀ l : List V, (l.map fun _ => true).all id = true := fun l => by simp
      rw [hall] at A11
      have hq : SqL K H10 D2 (((ts.map V.str).map fun _ => true).map V.bl) := A11.sqo List.mem_cons_self
      repeat walk_at "s"
      rw [htrue]
      have A12 : At H [] H10 := A11.sub (List.nil_sublist _)
      clear A10 A11 hq
      repeat walk_at "s"
      refine r_mkL A12 (by show 1 ≤ 10000000; decide) (fun l H11 A13 => ?_)
      repeat walk_at "s"
      refine r_mkL A13 (by show 4 ≤ 10000000; decide) (fun l2 H12 A14 => ?_)
      repeat walk_at "s"
      refine r_lcItl (K := K) (xs := [V.non, V.int 5, V.ref l, V.bl true]) (fun _ => V.bl true) A14 (fun L' H' A' => At.sqo A' (List.mem_append_right _ List.mem_cons_self)) (by show 4 < 10000000; decide) (fun _ => rfl) (fun i x D3 H' Q' hx A' q => ?_) (fun D3 H13 A15 => ?_)
      · repeat walk_at "s"
        refine ⟨x, rfl, .inl ?_, fun H'' s'' => ?_⟩
        · have hm := List.mem_of_getElem? hx
          simp only [List.mem_cons, List.not_mem_nil, or_false] at hm
          rcases hm with rfl | rfl | rfl | rfl
          · exact .inl rfl
          · exact .inr (.inl ⟨_, rfl⟩)
          · exact .inr (.inr (.inr ⟨l, _, rfl, A'.sqo (List.mem_cons_of_mem _ (List.mem_cons_of_mem _ List.mem_cons_self))⟩))
          · exact .inr (.inr (.inl ⟨_, rfl⟩))
        · exact q.t0 rfl (A'.same s'')
      rw [hall] at A15
      have hq : SqL K H13 D3 ((([V.non, V.int 5, V.ref l, V.bl true] : List V).map fun _ => true).map V.bl) := A15.sqo List.mem_cons_self
      repeat walk_at "s"
      exact k _

end
theorem all_mk {l : PySem.W.OpenLaw} {w : World} {K : PySem.W.Frag} {h : Heap} {mg : Str → Option Value} {fa : Addr} (X : K.In h) (G : h.Ns mainGlobals mg) (hfa : mg "law" = some (.ref fa))
    {tk_GREATEST : Tok}
    {tk_FIGURES : Tok}
    {c_RingError : Addr}
    {c_BadRing : Addr}
    {c_BadTolls : Addr}
    {c_BadMost : Addr}
    {c_Unlike : Addr}
    {c_Lacking : Addr}
    {c_BadText : Addr}
    {c_Ring : Addr}
    {f_is_whole : Addr} {od_is_whole an_is_whole : Option Addr} {sl_is_whole : Array (Option Value)} {oc_is_whole kV_is_whole dc_is_whole pm_is_whole cd_is_whole ct_is_whole : Value}
    {f_is_house : Addr} {od_is_house an_is_house : Option Addr} {sl_is_house : Array (Option Value)} {oc_is_house kV_is_house dc_is_house pm_is_house cd_is_house ct_is_house : Value}
    {f_Ring_init : Addr} {od_Ring_init an_Ring_init : Option Addr} {sl_Ring_init : Array (Option Value)} {oc_Ring_init kV_Ring_init dc_Ring_init pm_Ring_init cd_Ring_init ct_Ring_init : Value}
    {f_Ring_houses : Addr} {od_Ring_houses an_Ring_houses : Option Addr} {sl_Ring_houses : Array (Option Value)} {oc_Ring_houses kV_Ring_houses dc_Ring_houses pm_Ring_houses cd_Ring_houses ct_Ring_houses : Value}
    {f_Ring_whole : Addr} {od_Ring_whole an_Ring_whole : Option Addr} {sl_Ring_whole : Array (Option Value)} {oc_Ring_whole kV_Ring_whole dc_Ring_whole pm_Ring_whole cd_Ring_whole ct_Ring_whole : Value}
    {f_written : Addr} {od_written an_written : Option Addr} {sl_written : Array (Option Value)} {oc_written kV_written dc_written pm_written cd_written ct_written : Value}
    {f_number_in : Addr} {od_number_in an_number_in : Option Addr} {sl_number_in : Array (Option Value)} {oc_number_in kV_number_in dc_number_in pm_number_in cd_number_in ct_number_in : Value}
    {f_read : Addr} {od_read an_read : Option Addr} {sl_read : Array (Option Value)} {oc_read kV_read dc_read pm_read cd_read ct_read : Value}
    {f_law_cell_at : Addr} {od_law_cell_at an_law_cell_at : Option Addr} {sl_law_cell_at : Array (Option Value)} {oc_law_cell_at kV_law_cell_at dc_law_cell_at pm_law_cell_at cd_law_cell_at ct_law_cell_at : Value}
    {f_law_draw : Addr} {od_law_draw an_law_draw : Option Addr} {sl_law_draw : Array (Option Value)} {oc_law_draw kV_law_draw dc_law_draw pm_law_draw cd_law_draw ct_law_draw : Value}
    {f_law_houses : Addr} {od_law_houses an_law_houses : Option Addr} {sl_law_houses : Array (Option Value)} {oc_law_houses kV_law_houses dc_law_houses pm_law_houses cd_law_houses ct_law_houses : Value}
    {f_law_number : Addr} {od_law_number an_law_number : Option Addr} {sl_law_number : Array (Option Value)} {oc_law_number kV_law_number dc_law_number pm_law_number cd_law_number ct_law_number : Value}
    {f_law_in : Addr} {od_law_in an_law_in : Option Addr} {sl_law_in : Array (Option Value)} {oc_law_in kV_law_in dc_law_in pm_law_in cd_law_in ct_law_in : Value}
    {f_law_refused : Addr} {od_law_refused an_law_refused : Option Addr} {sl_law_refused : Array (Option Value)} {oc_law_refused kV_law_refused dc_law_refused pm_law_refused cd_law_refused ct_law_refused : Value}
    {f_law_right : Addr} {od_law_right an_law_right : Option Addr} {sl_law_right : Array (Option Value)} {oc_law_right kV_law_right dc_law_right pm_law_right cd_law_right ct_law_right : Value}
    {f_law_few : Addr} {od_law_few an_law_few : Option Addr} {sl_law_few : Array (Option Value)} {oc_law_few kV_law_few dc_law_few pm_law_few cd_law_few ct_law_few : Value}
    {f_law : Addr} {od_law an_law : Option Addr} {sl_law : Array (Option Value)} {oc_law kV_law dc_law pm_law cd_law ct_law : Value}
    (z_all : PySem.W.nsIn K mainGlobals "all" = some none)
    (z_any : PySem.W.nsIn K mainGlobals "any" = some none)
    (z_bool : PySem.W.nsIn K mainGlobals "bool" = some none)
    (z_int : PySem.W.nsIn K mainGlobals "int" = some none)
    (z_isinstance : PySem.W.nsIn K mainGlobals "isinstance" = some none)
    (z_len : PySem.W.nsIn K mainGlobals "len" = some none)
    (z_list : PySem.W.nsIn K mainGlobals "list" = some none)
    (z_range : PySem.W.nsIn K mainGlobals "range" = some none)
    (z_str : PySem.W.nsIn K mainGlobals "str" = some none)
    (z_sum : PySem.W.nsIn K mainGlobals "sum" = some none)
    (y_GREATEST : PySem.W.nsIn K mainGlobals "GREATEST" = some (some (.int 1000000 tk_GREATEST)))
    (y_FIGURES : PySem.W.nsIn K mainGlobals "FIGURES" = some (some (.str "0123456789" tk_FIGURES)))
    (a_RingError : PySem.W.nsIn K mainGlobals "RingError" = some (some (.ref c_RingError)))
    (xx_RingError : PySem.W.excIn K c_RingError [.type "ValueError", .type "Exception", .type "BaseException", .type "object"] "ValueError.__new__" = true)
    (kc_RingError : PySem.W.keepIn K (.ref c_RingError) = true)
    (be_RingError : PySem.W.subIn K (.ref c_RingError) (.type "BaseException") = some true)
    (ty_RingError : PySem.W.typeIn K (.ref c_RingError) = some (.type "type"))
    (hd_RingError : PySem.W.hasDictIn K c_RingError = true)
    (a_BadRing : PySem.W.nsIn K mainGlobals "BadRing" = some (some (.ref c_BadRing)))
    (xx_BadRing : PySem.W.excIn K c_BadRing [.type "ValueError", .type "Exception", .type "BaseException", .type "object"] "ValueError.__new__" = true)
    (kc_BadRing : PySem.W.keepIn K (.ref c_BadRing) = true)
    (be_BadRing : PySem.W.subIn K (.ref c_BadRing) (.type "BaseException") = some true)
    (ty_BadRing : PySem.W.typeIn K (.ref c_BadRing) = some (.type "type"))
    (hd_BadRing : PySem.W.hasDictIn K c_BadRing = true)
    (a_BadTolls : PySem.W.nsIn K mainGlobals "BadTolls" = some (some (.ref c_BadTolls)))
    (xx_BadTolls : PySem.W.excIn K c_BadTolls [.type "ValueError", .type "Exception", .type "BaseException", .type "object"] "ValueError.__new__" = true)
    (kc_BadTolls : PySem.W.keepIn K (.ref c_BadTolls) = true)
    (be_BadTolls : PySem.W.subIn K (.ref c_BadTolls) (.type "BaseException") = some true)
    (ty_BadTolls : PySem.W.typeIn K (.ref c_BadTolls) = some (.type "type"))
    (hd_BadTolls : PySem.W.hasDictIn K c_BadTolls = true)
    (a_BadMost : PySem.W.nsIn K mainGlobals "BadMost" = some (some (.ref c_BadMost)))
    (xx_BadMost : PySem.W.excIn K c_BadMost [.type "ValueError", .type "Exception", .type "BaseException", .type "object"] "ValueError.__new__" = true)
    (kc_BadMost : PySem.W.keepIn K (.ref c_BadMost) = true)
    (be_BadMost : PySem.W.subIn K (.ref c_BadMost) (.type "BaseException") = some true)
    (ty_BadMost : PySem.W.typeIn K (.ref c_BadMost) = some (.type "type"))
    (hd_BadMost : PySem.W.hasDictIn K c_BadMost = true)
    (a_Unlike : PySem.W.nsIn K mainGlobals "Unlike" = some (some (.ref c_Unlike)))
    (xx_Unlike : PySem.W.excIn K c_Unlike [.type "ValueError", .type "Exception", .type "BaseException", .type "object"] "ValueError.__new__" = true)
    (kc_Unlike : PySem.W.keepIn K (.ref c_Unlike) = true)
    (be_Unlike : PySem.W.subIn K (.ref c_Unlike) (.type "BaseException") = some true)
    (ty_Unlike : PySem.W.typeIn K (.ref c_Unlike) = some (.type "type"))
    (hd_Unlike : PySem.W.hasDictIn K c_Unlike = true)
    (a_Lacking : PySem.W.nsIn K mainGlobals "Lacking" = some (some (.ref c_Lacking)))
    (kc_Lacking : PySem.W.keepIn K (.ref c_Lacking) = true)
    (be_Lacking : PySem.W.subIn K (.ref c_Lacking) (.type "BaseException") = some true)
    (ty_Lacking : PySem.W.typeIn K (.ref c_Lacking) = some (.type "type"))
    (hd_Lacking : PySem.W.hasDictIn K c_Lacking = true)
    (a_BadText : PySem.W.nsIn K mainGlobals "BadText" = some (some (.ref c_BadText)))
    (xx_BadText : PySem.W.excIn K c_BadText [.type "ValueError", .type "Exception", .type "BaseException", .type "object"] "ValueError.__new__" = true)
    (kc_BadText : PySem.W.keepIn K (.ref c_BadText) = true)
    (be_BadText : PySem.W.subIn K (.ref c_BadText) (.type "BaseException") = some true)
    (ty_BadText : PySem.W.typeIn K (.ref c_BadText) = some (.type "type"))
    (hd_BadText : PySem.W.hasDictIn K c_BadText = true)
    (a_Ring : PySem.W.nsIn K mainGlobals "Ring" = some (some (.ref c_Ring)))
    (pg_Ring : PySem.W.plainGet K c_Ring Str.empty = true)
    (hd_Ring : PySem.W.hasDictIn K c_Ring = true)
    (po_Ring : PySem.W.plainOver K c_Ring = true)
    (sa_Ring : PySem.W.findIn K (.ref c_Ring) "__setattr__" = some (some (.builtin "object.__setattr__")))
    (no_Ring_over : PySem.W.findIn K (.ref c_Ring) "over" = some none)
    (ia_Ring : PySem.W.findIn K (.ref c_Ring) "__class__" = some (some (.builtin "object.__class__")))
    (ib_Ring : PySem.W.specialIn K (.builtin "object.__class__") "__get__" = some (some (.builtin "getset_descriptor.__get__")))
    (ic_Ring : PySem.W.takesIn K (.builtin "object.__class__") = some true)
    (id_Ring : PySem.W.mroIn K c_Ring (.type "object") = some true)
    (sx_BadRing_BadRing : PySem.W.subIn K (.ref c_BadRing) (.ref c_BadRing) = some true)
    (sx_BadText_RingError : PySem.W.subIn K (.ref c_BadText) (.ref c_RingError) = some true)
    (ehg_BadText : PySem.W.findIn K (.ref c_BadText) "__getattribute__" = some (some (.builtin "BaseException.__getattribute__")))
    (ehk_BadText : PySem.W.findIn K (.ref c_BadText) "__getattr__" = some none)
    (eha_BadText : PySem.W.findIn K (.ref c_BadText) "__class__" = some (some (.builtin "object.__class__")))
    (ehm_BadText : PySem.W.mroIn K c_BadText (.type "object") = some true)
    (ehn : PySem.W.specialIn K (.builtin "object.__class__") "__get__" = some (some (.builtin "getset_descriptor.__get__")))
    (eht : PySem.W.takesIn K (.builtin "object.__class__") = some true)
    (kit_BadText_BadMost : PySem.W.kitOne K (.ref c_BadText) (.ref c_BadMost) = some false)
    (kit_BadText_BadRing : PySem.W.kitOne K (.ref c_BadText) (.ref c_BadRing) = some false)
    (kit_BadText_BadTolls : PySem.W.kitOne K (.ref c_BadText) (.ref c_BadTolls) = some false)
    (kit_BadText_Lacking : PySem.W.kitOne K (.ref c_BadText) (.ref c_Lacking) = some false)
    (kit_BadText_Unlike : PySem.W.kitOne K (.ref c_BadText) (.ref c_Unlike) = some false)
    (kit_BadText_BadText : PySem.W.kitOne K (.ref c_BadText) (.ref c_BadText) = some true)
    (kit_BadText_ValueError : PySem.W.kitOne K (.ref c_BadText) (.type "ValueError") = some true)
    (z_ValueError : PySem.W.nsIn K mainGlobals "ValueError" = some none)
    (a_is_whole : PySem.W.nsIn K mainGlobals "is_whole" = some (some (.ref f_is_whole)))
    (l_is_whole : K.lookup f_is_whole = some ⟨oc_is_whole, od_is_whole, .func (PySem.W.fnOf "is_whole" "is_whole" (defArgs s_is_whole) (defBody s_is_whole) (defScope s_is_whole) .none kV_is_whole dc_is_whole pm_is_whole an_is_whole cd_is_whole ct_is_whole), sl_is_whole⟩)
    (c_is_whole_ : PySem.W.codeIn K cd_is_whole "is_whole" = true)
    (k_is_whole_ : PySem.W.keepIn K (.ref f_is_whole) = true)
    (a_is_house : PySem.W.nsIn K mainGlobals "is_house" = some (some (.ref f_is_house)))
    (l_is_house : K.lookup f_is_house = some ⟨oc_is_house, od_is_house, .func (PySem.W.fnOf "is_house" "is_house" (defArgs s_is_house) (defBody s_is_house) (defScope s_is_house) .none kV_is_house dc_is_house pm_is_house an_is_house cd_is_house ct_is_house), sl_is_house⟩)
    (c_is_house_ : PySem.W.codeIn K cd_is_house "is_house" = true)
    (k_is_house_ : PySem.W.keepIn K (.ref f_is_house) = true)
    (a_Ring_init : PySem.W.findIn K (.ref c_Ring) "__init__" = some (some (.ref f_Ring_init)))
    (i_Ring_init : PySem.W.isFn K (.ref f_Ring_init) = true)
    (l_Ring_init : K.lookup f_Ring_init = some ⟨oc_Ring_init, od_Ring_init, .func (PySem.W.fnOf "__init__" "Ring.__init__" (defArgs s_Ring_init) (defBody s_Ring_init) (defScope s_Ring_init) .none kV_Ring_init dc_Ring_init pm_Ring_init an_Ring_init cd_Ring_init ct_Ring_init), sl_Ring_init⟩)
    (c_Ring_init_ : PySem.W.codeIn K cd_Ring_init "Ring.__init__" = true)
    (k_Ring_init_ : PySem.W.keepIn K (.ref f_Ring_init) = true)
    (mk_Ring : PySem.W.makesIn K c_Ring = true)
    (kp_Ring : PySem.W.keepIn K (.ref c_Ring) = true)
    (a_Ring_houses : PySem.W.findIn K (.ref c_Ring) "houses" = some (some (.ref f_Ring_houses)))
    (i_Ring_houses : PySem.W.isFn K (.ref f_Ring_houses) = true)
    (l_Ring_houses : K.lookup f_Ring_houses = some ⟨oc_Ring_houses, od_Ring_houses, .func (PySem.W.fnOf "houses" "Ring.houses" (defArgs s_Ring_houses) (defBody s_Ring_houses) (defScope s_Ring_houses) .none kV_Ring_houses dc_Ring_houses pm_Ring_houses an_Ring_houses cd_Ring_houses ct_Ring_houses), sl_Ring_houses⟩)
    (c_Ring_houses_ : PySem.W.codeIn K cd_Ring_houses "Ring.houses" = true)
    (k_Ring_houses_ : PySem.W.keepIn K (.ref f_Ring_houses) = true)
    (a_Ring_whole : PySem.W.findIn K (.ref c_Ring) "whole" = some (some (.ref f_Ring_whole)))
    (i_Ring_whole : PySem.W.isFn K (.ref f_Ring_whole) = true)
    (l_Ring_whole : K.lookup f_Ring_whole = some ⟨oc_Ring_whole, od_Ring_whole, .func (PySem.W.fnOf "whole" "Ring.whole" (defArgs s_Ring_whole) (defBody s_Ring_whole) (defScope s_Ring_whole) .none kV_Ring_whole dc_Ring_whole pm_Ring_whole an_Ring_whole cd_Ring_whole ct_Ring_whole), sl_Ring_whole⟩)
    (c_Ring_whole_ : PySem.W.codeIn K cd_Ring_whole "Ring.whole" = true)
    (k_Ring_whole_ : PySem.W.keepIn K (.ref f_Ring_whole) = true)
    (a_written : PySem.W.nsIn K mainGlobals "written" = some (some (.ref f_written)))
    (l_written : K.lookup f_written = some ⟨oc_written, od_written, .func (PySem.W.fnOf "written" "written" (defArgs s_written) (defBody s_written) (defScope s_written) .none kV_written dc_written pm_written an_written cd_written ct_written), sl_written⟩)
    (c_written_ : PySem.W.codeIn K cd_written "written" = true)
    (k_written_ : PySem.W.keepIn K (.ref f_written) = true)
    (a_number_in : PySem.W.nsIn K mainGlobals "number_in" = some (some (.ref f_number_in)))
    (l_number_in : K.lookup f_number_in = some ⟨oc_number_in, od_number_in, .func (PySem.W.fnOf "number_in" "number_in" (defArgs s_number_in) (defBody s_number_in) (defScope s_number_in) .none kV_number_in dc_number_in pm_number_in an_number_in cd_number_in ct_number_in), sl_number_in⟩)
    (c_number_in_ : PySem.W.codeIn K cd_number_in "number_in" = true)
    (k_number_in_ : PySem.W.keepIn K (.ref f_number_in) = true)
    (a_read : PySem.W.nsIn K mainGlobals "read" = some (some (.ref f_read)))
    (l_read : K.lookup f_read = some ⟨oc_read, od_read, .func (PySem.W.fnOf "read" "read" (defArgs s_read) (defBody s_read) (defScope s_read) .none kV_read dc_read pm_read an_read cd_read ct_read), sl_read⟩)
    (c_read_ : PySem.W.codeIn K cd_read "read" = true)
    (k_read_ : PySem.W.keepIn K (.ref f_read) = true)
    (a_law_cell_at : PySem.W.nsIn K mainGlobals "_law_cell_at" = some (some (.ref f_law_cell_at)))
    (l_law_cell_at : K.lookup f_law_cell_at = some ⟨oc_law_cell_at, od_law_cell_at, .func (PySem.W.fnOf "_law_cell_at" "_law_cell_at" (defArgs s_law_cell_at) (defBody s_law_cell_at) (defScope s_law_cell_at) .none kV_law_cell_at dc_law_cell_at pm_law_cell_at an_law_cell_at cd_law_cell_at ct_law_cell_at), sl_law_cell_at⟩)
    (c_law_cell_at_ : PySem.W.codeIn K cd_law_cell_at "_law_cell_at" = true)
    (k_law_cell_at_ : PySem.W.keepIn K (.ref f_law_cell_at) = true)
    (a_law_draw : PySem.W.nsIn K mainGlobals "_law_draw" = some (some (.ref f_law_draw)))
    (l_law_draw : K.lookup f_law_draw = some ⟨oc_law_draw, od_law_draw, .func (PySem.W.fnOf "_law_draw" "_law_draw" (defArgs s_law_draw) (defBody s_law_draw) (defScope s_law_draw) .none kV_law_draw dc_law_draw pm_law_draw an_law_draw cd_law_draw ct_law_draw), sl_law_draw⟩)
    (c_law_draw_ : PySem.W.codeIn K cd_law_draw "_law_draw" = true)
    (k_law_draw_ : PySem.W.keepIn K (.ref f_law_draw) = true)
    (a_law_houses : PySem.W.nsIn K mainGlobals "_law_houses" = some (some (.ref f_law_houses)))
    (l_law_houses : K.lookup f_law_houses = some ⟨oc_law_houses, od_law_houses, .func (PySem.W.fnOf "_law_houses" "_law_houses" (defArgs s_law_houses) (defBody s_law_houses) (defScope s_law_houses) .none kV_law_houses dc_law_houses pm_law_houses an_law_houses cd_law_houses ct_law_houses), sl_law_houses⟩)
    (c_law_houses_ : PySem.W.codeIn K cd_law_houses "_law_houses" = true)
    (k_law_houses_ : PySem.W.keepIn K (.ref f_law_houses) = true)
    (a_law_number : PySem.W.nsIn K mainGlobals "_law_number" = some (some (.ref f_law_number)))
    (l_law_number : K.lookup f_law_number = some ⟨oc_law_number, od_law_number, .func (PySem.W.fnOf "_law_number" "_law_number" (defArgs s_law_number) (defBody s_law_number) (defScope s_law_number) .none kV_law_number dc_law_number pm_law_number an_law_number cd_law_number ct_law_number), sl_law_number⟩)
    (c_law_number_ : PySem.W.codeIn K cd_law_number "_law_number" = true)
    (k_law_number_ : PySem.W.keepIn K (.ref f_law_number) = true)
    (a_law_in : PySem.W.nsIn K mainGlobals "_law_in" = some (some (.ref f_law_in)))
    (l_law_in : K.lookup f_law_in = some ⟨oc_law_in, od_law_in, .func (PySem.W.fnOf "_law_in" "_law_in" (defArgs s_law_in) (defBody s_law_in) (defScope s_law_in) .none kV_law_in dc_law_in pm_law_in an_law_in cd_law_in ct_law_in), sl_law_in⟩)
    (c_law_in_ : PySem.W.codeIn K cd_law_in "_law_in" = true)
    (k_law_in_ : PySem.W.keepIn K (.ref f_law_in) = true)
    (a_law_refused : PySem.W.nsIn K mainGlobals "_law_refused" = some (some (.ref f_law_refused)))
    (l_law_refused : K.lookup f_law_refused = some ⟨oc_law_refused, od_law_refused, .func (PySem.W.fnOf "_law_refused" "_law_refused" (defArgs s_law_refused) (defBody s_law_refused) (defScope s_law_refused) .none kV_law_refused dc_law_refused pm_law_refused an_law_refused cd_law_refused ct_law_refused), sl_law_refused⟩)
    (c_law_refused_ : PySem.W.codeIn K cd_law_refused "_law_refused" = true)
    (k_law_refused_ : PySem.W.keepIn K (.ref f_law_refused) = true)
    (a_law_right : PySem.W.nsIn K mainGlobals "_law_right" = some (some (.ref f_law_right)))
    (l_law_right : K.lookup f_law_right = some ⟨oc_law_right, od_law_right, .func (PySem.W.fnOf "_law_right" "_law_right" (defArgs s_law_right) (defBody s_law_right) (defScope s_law_right) .none kV_law_right dc_law_right pm_law_right an_law_right cd_law_right ct_law_right), sl_law_right⟩)
    (c_law_right_ : PySem.W.codeIn K cd_law_right "_law_right" = true)
    (k_law_right_ : PySem.W.keepIn K (.ref f_law_right) = true)
    (a_law_few : PySem.W.nsIn K mainGlobals "_law_few" = some (some (.ref f_law_few)))
    (l_law_few : K.lookup f_law_few = some ⟨oc_law_few, od_law_few, .func (PySem.W.fnOf "_law_few" "_law_few" (defArgs s_law_few) (defBody s_law_few) (defScope s_law_few) .none kV_law_few dc_law_few pm_law_few an_law_few cd_law_few ct_law_few), sl_law_few⟩)
    (c_law_few_ : PySem.W.codeIn K cd_law_few "_law_few" = true)
    (k_law_few_ : PySem.W.keepIn K (.ref f_law_few) = true)
    (a_law : PySem.W.nsIn K mainGlobals "law" = some (some (.ref f_law)))
    (l_law : K.lookup f_law = some ⟨oc_law, od_law, .func (PySem.W.fnOf "law" "law" (defArgs s_law) (defBody s_law) (defScope s_law) .none kV_law dc_law pm_law an_law cd_law ct_law), sl_law⟩)
    (c_law_ : PySem.W.codeIn K cd_law "law" = true)
    (k_law_ : PySem.W.keepIn K (.ref f_law) = true)
    : ∃ fd : FuncData, (∀ (s : Shared) (v : Value), BindsTo s fd ⟨[v], []⟩ [("_law_script", v)]) ∧ ∀ base : Heap, K.In base → base.Ns mainGlobals mg → FnOk l.prog w K mg base CX0 9 fa fd ["_law_script"] (sp_law0 K) := by
  have e := hfa.symm.trans (PySem.W.mg_of X G a_law)
  cases e
  exact ⟨PySem.W.fnOf "law" "law" (defArgs s_law) (defBody s_law) (defScope s_law) .none kV_law dc_law pm_law an_law cd_law ct_law, fun s v => .of_eq rfl, fun base _ _ => ok_law (K := K) (mg := mg) { n_all := PySem.W.mg_none_of X G z_all, n_any := PySem.W.mg_none_of X G z_any, n_bool := PySem.W.mg_none_of X G z_bool, n_int := PySem.W.mg_none_of X G z_int, n_isinstance := PySem.W.mg_none_of X G z_isinstance, n_len := PySem.W.mg_none_of X G z_len, n_list := PySem.W.mg_none_of X G z_list, n_range := PySem.W.mg_none_of X G z_range, n_str := PySem.W.mg_none_of X G z_str, n_sum := PySem.W.mg_none_of X G z_sum, k_GREATEST := ⟨tk_GREATEST, PySem.W.mg_of X G y_GREATEST⟩, k_FIGURES := ⟨tk_FIGURES, PySem.W.mg_of X G y_FIGURES⟩, c_RingError := c_RingError, g_RingError := PySem.W.mg_of X G a_RingError, x_RingError := xx_RingError, kc_RingError := kc_RingError, be_RingError := be_RingError, ty_RingError := ty_RingError, hd_RingError := hd_RingError, c_BadRing := c_BadRing, g_BadRing := PySem.W.mg_of X G a_BadRing, x_BadRing := xx_BadRing, kc_BadRing := kc_BadRing, be_BadRing := be_BadRing, ty_BadRing := ty_BadRing, hd_BadRing := hd_BadRing, c_BadTolls := c_BadTolls, g_BadTolls := PySem.W.mg_of X G a_BadTolls, x_BadTolls := xx_BadTolls, kc_BadTolls := kc_BadTolls, be_BadTolls := be_BadTolls, ty_BadTolls := ty_BadTolls, hd_BadTolls := hd_BadTolls, c_BadMost := c_BadMost, g_BadMost := PySem.W.mg_of X G a_BadMost, x_BadMost := xx_BadMost, kc_BadMost := kc_BadMost, be_BadMost := be_BadMost, ty_BadMost := ty_BadMost, hd_BadMost := hd_BadMost, c_Unlike := c_Unlike, g_Unlike := PySem.W.mg_of X G a_Unlike, x_Unlike := xx_Unlike, kc_Unlike := kc_Unlike, be_Unlike := be_Unlike, ty_Unlike := ty_Unlike, hd_Unlike := hd_Unlike, c_Lacking := c_Lacking, g_Lacking := PySem.W.mg_of X G a_Lacking, kc_Lacking := kc_Lacking, be_Lacking := be_Lacking, ty_Lacking := ty_Lacking, hd_Lacking := hd_Lacking, c_BadText := c_BadText, g_BadText := PySem.W.mg_of X G a_BadText, x_BadText := xx_BadText, kc_BadText := kc_BadText, be_BadText := be_BadText, ty_BadText := ty_BadText, hd_BadText := hd_BadText, c_Ring := c_Ring, g_Ring := PySem.W.mg_of X G a_Ring, cl_Ring := ⟨pg_Ring, hd_Ring, po_Ring, sa_Ring⟩, no_Ring_over := no_Ring_over, in_Ring := ⟨ia_Ring, ib_Ring, ic_Ring, id_Ring⟩, sx_BadRing_BadRing := sx_BadRing_BadRing, sx_BadText_RingError := sx_BadText_RingError, f_is_whole := f_is_whole, fd_is_whole := _, F_is_whole := fun_mk (st := s_is_whole) l_is_whole c_is_whole_ k_is_whole_, g_is_whole := PySem.W.mg_of X G a_is_whole, f_is_house := f_is_house, fd_is_house := _, F_is_house := fun_mk (st := s_is_house) l_is_house c_is_house_ k_is_house_, g_is_house := PySem.W.mg_of X G a_is_house, f_Ring_init := f_Ring_init, fd_Ring_init := _, F_Ring_init := fun_mk (st := s_Ring_init) l_Ring_init c_Ring_init_ k_Ring_init_, mk_Ring := ⟨mk_Ring, a_Ring_init, i_Ring_init, kp_Ring⟩, f_Ring_houses := f_Ring_houses, fd_Ring_houses := _, F_Ring_houses := fun_mk (st := s_Ring_houses) l_Ring_houses c_Ring_houses_ k_Ring_houses_, m_Ring_houses := ⟨a_Ring_houses, i_Ring_houses, k_Ring_houses_⟩, f_Ring_whole := f_Ring_whole, fd_Ring_whole := _, F_Ring_whole := fun_mk (st := s_Ring_whole) l_Ring_whole c_Ring_whole_ k_Ring_whole_, m_Ring_whole := ⟨a_Ring_whole, i_Ring_whole, k_Ring_whole_⟩, f_written := f_written, fd_written := _, F_written := fun_mk (st := s_written) l_written c_written_ k_written_, g_written := PySem.W.mg_of X G a_written, f_number_in := f_number_in, fd_number_in := _, F_number_in := fun_mk (st := s_number_in) l_number_in c_number_in_ k_number_in_, g_number_in := PySem.W.mg_of X G a_number_in, f_read := f_read, fd_read := _, F_read := fun_mk (st := s_read) l_read c_read_ k_read_, g_read := PySem.W.mg_of X G a_read, f_law_cell_at := f_law_cell_at, fd_law_cell_at := _, F_law_cell_at := fun_mk (st := s_law_cell_at) l_law_cell_at c_law_cell_at_ k_law_cell_at_, g_law_cell_at := PySem.W.mg_of X G a_law_cell_at, f_law_draw := f_law_draw, fd_law_draw := _, F_law_draw := fun_mk (st := s_law_draw) l_law_draw c_law_draw_ k_law_draw_, g_law_draw := PySem.W.mg_of X G a_law_draw, f_law_houses := f_law_houses, fd_law_houses := _, F_law_houses := fun_mk (st := s_law_houses) l_law_houses c_law_houses_ k_law_houses_, g_law_houses := PySem.W.mg_of X G a_law_houses, f_law_number := f_law_number, fd_law_number := _, F_law_number := fun_mk (st := s_law_number) l_law_number c_law_number_ k_law_number_, g_law_number := PySem.W.mg_of X G a_law_number, f_law_in := f_law_in, fd_law_in := _, F_law_in := fun_mk (st := s_law_in) l_law_in c_law_in_ k_law_in_, g_law_in := PySem.W.mg_of X G a_law_in, f_law_refused := f_law_refused, fd_law_refused := _, F_law_refused := fun_mk (st := s_law_refused) l_law_refused c_law_refused_ k_law_refused_, g_law_refused := PySem.W.mg_of X G a_law_refused, f_law_right := f_law_right, fd_law_right := _, F_law_right := fun_mk (st := s_law_right) l_law_right c_law_right_ k_law_right_, g_law_right := PySem.W.mg_of X G a_law_right, f_law_few := f_law_few, fd_law_few := _, F_law_few := fun_mk (st := s_law_few) l_law_few c_law_few_ k_law_few_, g_law_few := PySem.W.mg_of X G a_law_few, f_law := fa, fd_law := _, F_law := fun_mk (st := s_law) l_law c_law_ k_law_, g_law := PySem.W.mg_of X G a_law } { C := { hg := ehg_BadText, hk := ehk_BadText, ha := eha_BadText, hm := ehm_BadText, hn := ehn, ht := eht, hs := be_BadText, hd := hd_BadText }, kMost := kit_BadText_BadMost, kRing := kit_BadText_BadRing, kTolls := kit_BadText_BadTolls, kLack := kit_BadText_Lacking, kUnlike := kit_BadText_Unlike, kText := kit_BadText_BadText, kVal := kit_BadText_ValueError, nV := PySem.W.mg_none_of X G z_ValueError }⟩
end K6
open PySem PySem.W PyProof.Rows
set_option maxRecDepth 100000 in
set_option maxHeartbeats 0 in
theorem PySem.Challenge.cw_evenring_k06_written_holds : PySem.Challenge.rw_evenring_k06_written.Holds := by
  w_on; o_law; k_head; (case hw => w_witness2)
  k_fill
  refine L2.walk_of (l := PySem.Challenge.rw_evenring_k06_written) (n := 63) (k := 9) (x := "_law_script") (CX := fun _ => L2.CX0) (sp := fun w => K6.sp_law0 _) rfl (by decide) rfl ⟨rfl, by decide, by decide⟩ (fun w h Y => PySem.W.kIn_of Y) ?F (fun _ _ a ns hl _ hS => ⟨a, ns, rfl, hS, hl, fun _ => rfl⟩) (fun _ _ _ _ _ h => h)
  case F =>
    intro w mg fa h KX G hmg
    refine' K6.all_mk KX G hmg ?z_all ?z_any ?z_bool ?z_int ?z_isinstance ?z_len ?z_list ?z_range ?z_str ?z_sum ?y_GREATEST ?y_FIGURES ?a_RingError ?xx_RingError ?kc_RingError ?be_RingError ?ty_RingError ?hd_RingError ?a_BadRing ?xx_BadRing ?kc_BadRing ?be_BadRing ?ty_BadRing ?hd_BadRing ?a_BadTolls ?xx_BadTolls ?kc_BadTolls ?be_BadTolls ?ty_BadTolls ?hd_BadTolls ?a_BadMost ?xx_BadMost ?kc_BadMost ?be_BadMost ?ty_BadMost ?hd_BadMost ?a_Unlike ?xx_Unlike ?kc_Unlike ?be_Unlike ?ty_Unlike ?hd_Unlike ?a_Lacking ?kc_Lacking ?be_Lacking ?ty_Lacking ?hd_Lacking ?a_BadText ?xx_BadText ?kc_BadText ?be_BadText ?ty_BadText ?hd_BadText ?a_Ring ?pg_Ring ?hd_Ring ?po_Ring ?sa_Ring ?no_Ring_over ?ia_Ring ?ib_Ring ?ic_Ring ?id_Ring ?sx_BadRing_BadRing ?sx_BadText_RingError ?ehg_BadText ?ehk_BadText ?eha_BadText ?ehm_BadText ?ehn ?eht ?kit_BadText_BadMost ?kit_BadText_BadRing ?kit_BadText_BadTolls ?kit_BadText_Lacking ?kit_BadText_Unlike ?kit_BadText_BadText ?kit_BadText_ValueError ?z_ValueError ?a_is_whole ?l_is_whole ?c_is_whole_ ?k_is_whole_ ?a_is_house ?l_is_house ?c_is_house_ ?k_is_house_ ?a_Ring_init ?i_Ring_init ?l_Ring_init ?c_Ring_init_ ?k_Ring_init_ ?mk_Ring ?kp_Ring ?a_Ring_houses ?i_Ring_houses ?l_Ring_houses ?c_Ring_houses_ ?k_Ring_houses_ ?a_Ring_whole ?i_Ring_whole ?l_Ring_whole ?c_Ring_whole_ ?k_Ring_whole_ ?a_written ?l_written ?c_written_ ?k_written_ ?a_number_in ?l_number_in ?c_number_in_ ?k_number_in_ ?a_read ?l_read ?c_read_ ?k_read_ ?a_law_cell_at ?l_law_cell_at ?c_law_cell_at_ ?k_law_cell_at_ ?a_law_draw ?l_law_draw ?c_law_draw_ ?k_law_draw_ ?a_law_houses ?l_law_houses ?c_law_houses_ ?k_law_houses_ ?a_law_number ?l_law_number ?c_law_number_ ?k_law_number_ ?a_law_in ?l_law_in ?c_law_in_ ?k_law_in_ ?a_law_refused ?l_law_refused ?c_law_refused_ ?k_law_refused_ ?a_law_right ?l_law_right ?c_law_right_ ?k_law_right_ ?a_law_few ?l_law_few ?c_law_few_ ?k_law_few_ ?a_law ?l_law ?c_law_ ?k_law_
    (case z_all => k_is)
    (case z_any => k_is)
    (case z_bool => k_is)
    (case z_int => k_is)
    (case z_isinstance => k_is)
    (case z_len => k_is)
    (case z_list => k_is)
    (case z_range => k_is)
    (case z_str => k_is)
    (case z_sum => k_is)
    (case y_GREATEST => k_is)
    (case y_FIGURES => k_is)
    (case a_RingError => k_is)
    (case xx_RingError => k_exc)
    (case kc_RingError => k_is)
    (case be_RingError => k_is)
    (case ty_RingError => k_is)
    (case hd_RingError => k_is)
    (case a_BadRing => k_is)
    (case xx_BadRing => k_exc)
    (case kc_BadRing => k_is)
    (case be_BadRing => k_is)
    (case ty_BadRing => k_is)
    (case hd_BadRing => k_is)
    (case a_BadTolls => k_is)
    (case xx_BadTolls => k_exc)
    (case kc_BadTolls => k_is)
    (case be_BadTolls => k_is)
    (case ty_BadTolls => k_is)
    (case hd_BadTolls => k_is)
    (case a_BadMost => k_is)
    (case xx_BadMost => k_exc)
    (case kc_BadMost => k_is)
    (case be_BadMost => k_is)
    (case ty_BadMost => k_is)
    (case hd_BadMost => k_is)
    (case a_Unlike => k_is)
    (case xx_Unlike => k_exc)
    (case kc_Unlike => k_is)
    (case be_Unlike => k_is)
    (case ty_Unlike => k_is)
    (case hd_Unlike => k_is)
    (case a_Lacking => k_is)
    (case kc_Lacking => k_is)
    (case be_Lacking => k_is)
    (case ty_Lacking => k_is)
    (case hd_Lacking => k_is)
    (case a_BadText => k_is)
    (case xx_BadText => k_exc)
    (case kc_BadText => k_is)
    (case be_BadText => k_is)
    (case ty_BadText => k_is)
    (case hd_BadText => k_is)
    (case a_Ring => k_is)
    (case pg_Ring => k_is)
    (case hd_Ring => k_is)
    (case po_Ring => k_is)
    (case sa_Ring => k_is)
    (case no_Ring_over => k_is)
    (case ia_Ring => k_is)
    (case ib_Ring => k_is)
    (case ic_Ring => k_is)
    (case id_Ring => k_is)
    (case sx_BadRing_BadRing => k_is)
    (case sx_BadText_RingError => k_is)
    (case ehg_BadText => k_is)
    (case ehk_BadText => k_is)
    (case eha_BadText => k_is)
    (case ehm_BadText => k_is)
    (case ehn => k_is)
    (case eht => k_is)
    (case kit_BadText_BadMost => kit_is)
    (case kit_BadText_BadRing => kit_is)
    (case kit_BadText_BadTolls => kit_is)
    (case kit_BadText_Lacking => kit_is)
    (case kit_BadText_Unlike => kit_is)
    (case kit_BadText_BadText => kit_is)
    (case kit_BadText_ValueError => kit_is)
    (case z_ValueError => k_is)
    (case a_is_whole => k_is)
    (case l_is_whole => k_is)
    (case c_is_whole_ => k_is)
    (case k_is_whole_ => k_is)
    (case a_is_house => k_is)
    (case l_is_house => k_is)
    (case c_is_house_ => k_is)
    (case k_is_house_ => k_is)
    (case a_Ring_init => k_is)
    (case i_Ring_init => k_is)
    (case l_Ring_init => k_is)
    (case c_Ring_init_ => k_is)
    (case k_Ring_init_ => k_is)
    (case mk_Ring => k_is)
    (case kp_Ring => k_is)
    (case a_Ring_houses => k_is)
    (case i_Ring_houses => k_is)
    (case l_Ring_houses => k_is)
    (case c_Ring_houses_ => k_is)
    (case k_Ring_houses_ => k_is)
    (case a_Ring_whole => k_is)
    (case i_Ring_whole => k_is)
    (case l_Ring_whole => k_is)
    (case c_Ring_whole_ => k_is)
    (case k_Ring_whole_ => k_is)
    (case a_written => k_is)
    (case l_written => k_is)
    (case c_written_ => k_is)
    (case k_written_ => k_is)
    (case a_number_in => k_is)
    (case l_number_in => k_is)
    (case c_number_in_ => k_is)
    (case k_number_in_ => k_is)
    (case a_read => k_is)
    (case l_read => k_is)
    (case c_read_ => k_is)
    (case k_read_ => k_is)
    (case a_law_cell_at => k_is)
    (case l_law_cell_at => k_is)
    (case c_law_cell_at_ => k_is)
    (case k_law_cell_at_ => k_is)
    (case a_law_draw => k_is)
    (case l_law_draw => k_is)
    (case c_law_draw_ => k_is)
    (case k_law_draw_ => k_is)
    (case a_law_houses => k_is)
    (case l_law_houses => k_is)
    (case c_law_houses_ => k_is)
    (case k_law_houses_ => k_is)
    (case a_law_number => k_is)
    (case l_law_number => k_is)
    (case c_law_number_ => k_is)
    (case k_law_number_ => k_is)
    (case a_law_in => k_is)
    (case l_law_in => k_is)
    (case c_law_in_ => k_is)
    (case k_law_in_ => k_is)
    (case a_law_refused => k_is)
    (case l_law_refused => k_is)
    (case c_law_refused_ => k_is)
    (case k_law_refused_ => k_is)
    (case a_law_right => k_is)
    (case l_law_right => k_is)
    (case c_law_right_ => k_is)
    (case k_law_right_ => k_is)
    (case a_law_few => k_is)
    (case l_law_few => k_is)
    (case c_law_few_ => k_is)
    (case k_law_few_ => k_is)
    (case a_law => k_is)
    (case l_law => k_is)
    (case c_law_ => k_is)
    (case k_law_ => k_is)
#print axioms PySem.Challenge.cw_evenring_k06_written_holds
